import PyProof.Rows.All
import Wide.All
import OpenK.AllK
import Wide.FinOn
import HandS.ForMost
import HandS.ForExc
import HandS.Wide
import HandS.IsInst
import HandS.ExcValue
import HandS.ExcIs
import HandS.Flow
import HandS.More
import HandS.TryOnly
import HandS.SortRule
import HandS.Conv
import HandS.Small
import KE.KDictSum
import HandS.Rev
import HandS.Iter
import HandS.Deep
import HandS.TupLe
import HandS.Text
import HandS.Walk
import PyProof.Rows.StrMul
import HandS.Dict
import KE.KSortTupAny
import PySem.Challenge.RW_glide_k06_a_hull
set_option Elab.async false
set_option linter.all false
set_option maxRecDepth 100000
set_option maxHeartbeats 4000000
namespace GD
open PySem PySem.Spec PyProof.Rows L2
inductive D where
  | non
  | bl (b : Bool)
  | int (i : Int)
  | str (x : Str)
  | tup (ds : List D)
  | lst (ds : List D)
  | scr (ns : List Int)
  | dct (ks : List Key) (ds : List D)
  | exc (x : Str)
  | ty (n : String)
  | cls (x : Str)
  | obj (x : Str) (ns : List Str) (ds : List D)
def ExK (cls : Value) (a : Addr) : HO := .ext fun h => ∃ (oe : Obj) (vs : Array Value), h.get? a = some oe ∧ Zc cls none oe ∧ oe.data = .fields vs
def KT3 (K : PySem.W.Frag) (a : Addr) (x y z : Int) : Prop := ∃ (o : Obj) (its : Array Value) (n : Nat), K.lookup a = some o ∧ o.cls = .type "tuple" ∧ o.data = .seq its n ∧ its.size ≤ sizeLine ∧ Vals [.int x, .int y, .int z] its.toList
section
variable (K : PySem.W.Frag) (mg : Str → Option Value) (B : Hp)
mutual
inductive Is : V → D → Prop
  | non : Is .non .non
  | bl (b : Bool) : Is (.bl b) (.bl b)
  | int (i : Int) : Is (.int i) (.int i)
  | str (x : Str) : Is (.str x) (.str x)
  | tup {a : Addr} {xs : List V} {ds : List D} (h : B a = some (.tup xs)) (r : IsL xs ds) : Is (.ref a) (.tup ds)
  | tup3 {a : Addr} {x y z : Int} (h : KT3 K a x y z) : Is (.ref a) (.tup [.int x, .int y, .int z])
  | lst {a : Addr} {xs : List V} {ds : List D} (h : B a = some (.lst xs)) (r : IsL xs ds) : Is (.ref a) (.lst ds)
  | scr {a : Addr} {ns : List Int} (h : SqL K B a (ns.map V.int)) : Is (.ref a) (.scr ns)
  | dct {a : Addr} {kvs : List (Key × V)} {ks : List Key} {ds : List D} (h : B a = some (.dK kvs)) (hk : kvs.map (·.1) = ks) (r : IsL (kvs.map (·.2)) ds) : Is (.ref a) (.dct ks ds)
  | exc {a : Addr} {x : Str} {cls : Value} (hc : mg x = some cls) (h : B a = some (ExK cls a)) : Is (.ref a) (.exc x)
  | ty (n : String) : Is (.ty n) (.ty n)
  | cls {a : Addr} {x : Str} (h : mg x = some (.ref a)) : Is (.ref a) (.cls x)
  | obj {a C dx : Addr} {x : Str} {fs : List (Str × V)} {ns : List Str} {ds : List D} (hc : mg x = some (.ref C)) (h : B a = some (.ins C dx fs)) (hk : fs.map (·.1) = ns) (r : IsL (fs.map (·.2)) ds) : Is (.ref a) (.obj x ns ds)
inductive IsL : List V → List D → Prop
  | nil : IsL [] []
  | cons {v : V} {vs : List V} {d : D} {ds : List D} (h : Is v d) (r : IsL vs ds) : IsL (v :: vs) (d :: ds)
end
end
theorem seqT {K : PySem.W.Frag} {H H' : Hp} {a : Addr} {xs : List V} (e : Same H H') (h : SqT K H a xs) : SqT K H' a xs := by
  rcases h with (h | ⟨o, h⟩) | h
  · exact .inl (.inl (e _ _ h))
  · exact .inl (.inr ⟨o, e _ _ h⟩)
  · exact .inr h
section
variable {K : PySem.W.Frag} {mg : Str → Option Value} {B B' : Hp}
mutual
theorem Is.mono (e : Same B B') : ∀ {v : V} {d : D}, Is K mg B v d → Is K mg B' v d
  | _, _, .non => .non
  | _, _, .bl b => .bl b
  | _, _, .int i => .int i
  | _, _, .str x => .str x
  | _, _, .tup h r => .tup (e _ _ h) (IsL.mono e r)
  | _, _, .tup3 h => .tup3 h
  | _, _, .lst h r => .lst (e _ _ h) (IsL.mono e r)
  | _, _, .scr h => .scr (e.seq h)
  | _, _, .dct h k r => .dct (e _ _ h) k (IsL.mono e r)
  | _, _, .exc c h => .exc c (e _ _ h)
  | _, _, .ty n => .ty n
  | _, _, .cls h => .cls h
  | _, _, .obj c h k r => .obj c (e _ _ h) k (IsL.mono e r)
theorem IsL.mono (e : Same B B') : ∀ {vs : List V} {ds : List D}, IsL K mg B vs ds → IsL K mg B' vs ds
  | _, _, .nil => .nil
  | _, _, .cons h r => .cons (Is.mono e h) (IsL.mono e r)
end
theorem IsL.length : ∀ {vs : List V} {ds : List D}, IsL K mg B vs ds → vs.length = ds.length
  | _, _, .nil => rfl
  | _, _, .cons _ r => congrArg (· + 1) (IsL.length r)
theorem IsL.get : ∀ {vs : List V} {ds : List D} {i : Nat} {d : D}, IsL K mg B vs ds → ds[i]? = some d → ∃ v, vs[i]? = some v ∧ Is K mg B v d
  | _, _, _, _, .nil, e => by simp at e
  | _, _, 0, d, .cons h _, e => by
    simp at e
    subst e
    exact ⟨_, rfl, h⟩
  | _, _, i + 1, d, .cons _ r, e => by
    obtain ⟨v, h1, h2⟩ := IsL.get (i := i) (d := d) r (by simpa using e)
    exact ⟨v, by simpa using h1, h2⟩
theorem IsL.at : ∀ {vs : List V} {ds : List D} {i : Nat} {v : V}, IsL K mg B vs ds → vs[i]? = some v → ∃ d, ds[i]? = some d ∧ Is K mg B v d
  | _, _, _, _, .nil, e => by simp at e
  | _, _, 0, v, .cons h _, e => by
    simp at e
    subst e
    exact ⟨_, rfl, h⟩
  | _, _, i + 1, v, .cons _ r, e => by
    obtain ⟨d, h1, h2⟩ := IsL.at (i := i) (v := v) r (by simpa using e)
    exact ⟨d, by simpa using h1, h2⟩
theorem IsL.append : ∀ {vs ws : List V} {ds es : List D}, IsL K mg B vs ds → IsL K mg B ws es → IsL K mg B (vs ++ ws) (ds ++ es)
  | _, _, _, _, .nil, s => s
  | _, _, _, _, .cons h r, s => .cons h (IsL.append r s)
theorem IsL.take : ∀ {vs : List V} {ds : List D} (n : Nat), IsL K mg B vs ds → IsL K mg B (vs.take n) (ds.take n)
  | _, _, 0, _ => .nil
  | _, _, _ + 1, .nil => .nil
  | _, _, n + 1, .cons h r => .cons h (IsL.take n r)
theorem IsL.drop : ∀ {vs : List V} {ds : List D} (n : Nat), IsL K mg B vs ds → IsL K mg B (vs.drop n) (ds.drop n)
  | _, _, 0, r => r
  | _, _, _ + 1, .nil => .nil
  | _, _, n + 1, .cons _ r => IsL.drop n r
theorem IsL.set {v : V} {d : D} (h : Is K mg B v d) : ∀ {vs : List V} {ds : List D} (i : Nat), IsL K mg B vs ds → IsL K mg B (vs.set i v) (ds.set i d)
  | _, _, _, .nil => .nil
  | _, _, 0, .cons _ r => .cons h r
  | _, _, i + 1, .cons h' r => .cons h' (IsL.set h i r)
theorem IsL.snoc {v : V} {d : D} {vs : List V} {ds : List D} (r : IsL K mg B vs ds) (h : Is K mg B v d) : IsL K mg B (vs ++ [v]) (ds ++ [d]) := r.append (.cons h .nil)
theorem IsL.rev : ∀ {vs : List V} {ds : List D}, IsL K mg B vs ds → IsL K mg B vs.reverse ds.reverse
  | _, _, .nil => .nil
  | _, _, .cons h r => by
    rw [List.reverse_cons, List.reverse_cons]
    exact (IsL.rev r).snoc h
theorem IsL.ints : ∀ (ns : List Int), IsL K mg B (ns.map V.int) (ns.map D.int)
  | [] => .nil
  | n :: ns => .cons (.int n) (IsL.ints ns)
end
def nt (o : HO) : Prop := ∀ xs, o ≠ .tup xs
theorem nt_lst {xs : List V} : nt (.lst xs) := fun _ q => nomatch q
theorem nt_dK {xs : List (Key × V)} : nt (.dK xs) := fun _ q => nomatch q
structure Grow (B H B' H' : Hp) : Prop where
  bb : Same B B'
  hh : Same H H'
  bh : Same B' H'
  sep : ∀ p o, H p = some o → nt o → B p = none → B' p = none
section
variable {B H B' H' B2 H2 : Hp}
theorem Grow.refl (h : Same B H) : Grow B H B H := ⟨Same.refl _, Same.refl _, h, fun _ _ _ _ n => n⟩
theorem Grow.trans (a : Grow B H B' H') (b : Grow B' H' B2 H2) : Grow B H B2 H2 :=
  ⟨a.bb.trans b.bb, a.hh.trans b.hh, b.bh, fun p o e t n => b.sep p o (a.hh p o e) t (a.sep p o e t n)⟩
theorem Grow.new {p : Addr} {o : HO} (h : Same B H) (n : H p = none) : Grow B H (upd B p o) (upd H p o) := by
  have nb : ∀ q u, B q = some u → q ≠ p := fun q u e => ne_of_none (h q u e) n
  refine ⟨fun q u e => ?_, fun q u e => ?_, fun q u e => ?_, fun q u e _ z => ?_⟩
  · rw [upd_ne (nb q u e)]; exact e
  · rw [upd_ne (ne_of_none e n)]; exact e
  · by_cases hq : q = p
    · subst hq; rw [upd_same] at e ⊢; exact e
    · rw [upd_ne hq] at e ⊢; exact h q u e
  · rw [upd_ne (ne_of_none e n)]; exact z
theorem Grow.own {p : Addr} {o : HO} (h : Same B H) (n : H p = none) : Grow B H B (upd H p o) := by
  refine ⟨Same.refl _, fun q u e => ?_, fun q u e => ?_, fun _ _ _ _ z => z⟩
  · rw [upd_ne (ne_of_none e n)]; exact e
  · rw [upd_ne (ne_of_none (h q u e) n)]; exact h q u e
end
inductive Sl where
  | un
  | v (d : D)
  | l (ds : List D)
  | r (t : Nat)
abbrev En := List Sl
structure Wd where
  B : Hp
  H : Hp
  al : List Addr
structure EnvOk (K : PySem.W.Frag) (mg : Str → Option Value) (W : Wd) (B H : Hp) (σ : L2.St) (ρ : En) : Prop where
  gr : Grow W.B W.H B H
  len : σ.length = ρ.length
  val : ∀ (i : Nat) (d : D), ρ[i]? = some (.v d) → ∃ v, σ[i]? = some (some v) ∧ Is K mg B v d
  own : ∀ (i : Nat) (ds : List D), ρ[i]? = some (.l ds) → ∃ p xs, σ[i]? = some (some (.ref p)) ∧ H p = some (.lst xs) ∧ B p = none ∧ W.H p = none ∧ IsL K mg B xs ds
  dis : ∀ (i j : Nat) (ds es : List D) (p : Addr), ρ[i]? = some (.l ds) → ρ[j]? = some (.l es) → σ[i]? = some (some (.ref p)) → σ[j]? = some (some (.ref p)) → i = j
  ref : ∀ (i t : Nat), ρ[i]? = some (.r t) → ∃ p, W.al[t]? = some p ∧ σ[i]? = some (some (.ref p))
section
variable {K : PySem.W.Frag} {mg : Str → Option Value} {W : Wd} {B H B' H' : Hp} {σ : L2.St} {ρ : En}
theorem EnvOk.bh (E : EnvOk K mg W B H σ ρ) : Same B H := E.gr.bh
theorem EnvOk.grow (E : EnvOk K mg W B H σ ρ) (g : Grow B H B' H') : EnvOk K mg W B' H' σ ρ :=
  ⟨E.gr.trans g, E.len, fun i d e => let ⟨v, h1, h2⟩ := E.val i d e; ⟨v, h1, h2.mono g.bb⟩,
    fun i ds e => let ⟨p, xs, h1, h2, h3, h4, h5⟩ := E.own i ds e; ⟨p, xs, h1, g.hh _ _ h2, g.sep _ _ h2 nt_lst h3, h4, h5.mono g.bb⟩, E.dis, E.ref⟩
theorem EnvOk.here (E : EnvOk K mg W B H σ ρ) : EnvOk K mg ⟨B, W.H, W.al⟩ B H σ ρ :=
  ⟨⟨Same.refl _, E.gr.hh, E.gr.bh, fun _ _ _ _ n => n⟩, E.len, E.val, E.own, E.dis, E.ref⟩
theorem EnvOk.back {B1 : Hp} (g : Grow W.B W.H B H) (E : EnvOk K mg ⟨B, W.H, W.al⟩ B' H' σ ρ) : EnvOk K mg W B' H' σ ρ :=
  ⟨⟨g.bb.trans E.gr.bb, E.gr.hh, E.gr.bh, fun p o e t n => E.gr.sep p o e t (g.sep p o e t n)⟩, E.len, E.val, E.own, E.dis, E.ref⟩
theorem get_set {α : Type} {l : List α} {i j : Nat} {x y : α} (h : (l.set i x)[j]? = some y) : (j = i ∧ y = x ∧ i < l.length) ∨ (j ≠ i ∧ l[j]? = some y) := by
  by_cases e : i = j
  · subst e
    by_cases hl : i < l.length
    · rw [List.getElem?_set_self hl] at h
      exact .inl ⟨rfl, (Option.some.inj h).symm, hl⟩
    · rw [List.getElem?_eq_none (by simpa using hl)] at h
      cases h
  · rw [List.getElem?_set_ne e] at h
    exact .inr ⟨fun z => e z.symm, h⟩
theorem EnvOk.refSet {i : Nat} {o : Option V} {s : Sl} (E : EnvOk K mg W B H σ ρ) (hs : ∀ t, s ≠ .r t) : ∀ (j t : Nat), (ρ.set i s)[j]? = some (.r t) → ∃ p, W.al[t]? = some p ∧ (σ.set i o)[j]? = some (some (.ref p)) := by
  intro j t hj
  rcases get_set hj with ⟨_, e1, _⟩ | ⟨hne, e1⟩
  · exact absurd e1.symm (hs t)
  · obtain ⟨p, h1, h2⟩ := E.ref j t e1
    exact ⟨p, h1, by rw [List.getElem?_set_ne (Ne.symm hne)]; exact h2⟩
theorem EnvOk.refSet0 {i : Nat} {s : Sl} (E : EnvOk K mg W B H σ ρ) (hs : ∀ t, s ≠ .r t) : ∀ (j t : Nat), (ρ.set i s)[j]? = some (.r t) → ∃ p, W.al[t]? = some p ∧ σ[j]? = some (some (.ref p)) := by
  intro j t hj
  rcases get_set hj with ⟨_, e1, _⟩ | ⟨hne, e1⟩
  · exact absurd e1.symm (hs t)
  · exact E.ref j t e1
theorem EnvOk.set (E : EnvOk K mg W B H σ ρ) {i : Nat} {v : V} {d : D} (h : Is K mg B v d) : EnvOk K mg W B H (σ.set i (some v)) (ρ.set i (.v d)) := by
  refine ⟨E.gr, by simp [E.len], fun j e hj => ?_, fun j ds hj => ?_, fun j k ds es p hj hk h1 h2 => ?_, E.refSet fun _ z => nomatch z⟩
  · rcases get_set hj with ⟨rfl, e1, hl⟩ | ⟨hne, e1⟩
    · cases e1
      exact ⟨v, by rw [List.getElem?_set_self (by rw [E.len]; exact hl)], h⟩
    · obtain ⟨u, h1, h2⟩ := E.val j e e1
      exact ⟨u, by rw [List.getElem?_set_ne (Ne.symm hne)]; exact h1, h2⟩
  · rcases get_set hj with ⟨_, e1, _⟩ | ⟨hne, e1⟩
    · cases e1
    · obtain ⟨p, xs, h1, h2⟩ := E.own j ds e1
      exact ⟨p, xs, by rw [List.getElem?_set_ne (Ne.symm hne)]; exact h1, h2⟩
  · rcases get_set hj with ⟨_, e1, _⟩ | ⟨n1, e1⟩
    · cases e1
    · rcases get_set hk with ⟨_, e2, _⟩ | ⟨n2, e2⟩
      · cases e2
      · rw [List.getElem?_set_ne (Ne.symm n1)] at h1
        rw [List.getElem?_set_ne (Ne.symm n2)] at h2
        exact E.dis j k ds es p e1 e2 h1 h2
theorem EnvOk.setL (E : EnvOk K mg W B H σ ρ) {i : Nat} {p : Addr} {xs : List V} {ds : List D} (hp : H p = some (.lst xs)) (nb : B p = none) (nw : W.H p = none)
    (nn : ∀ (j : Nat) (es : List D), ρ[j]? = some (.l es) → j ≠ i → σ[j]? ≠ some (some (.ref p))) (h : IsL K mg B xs ds) : EnvOk K mg W B H (σ.set i (some (.ref p))) (ρ.set i (.l ds)) := by
  refine ⟨E.gr, by simp [E.len], fun j e hj => ?_, fun j es hj => ?_, fun j k es fs q hj hk h1 h2 => ?_, E.refSet fun _ z => nomatch z⟩
  · rcases get_set hj with ⟨_, e1, _⟩ | ⟨hne, e1⟩
    · cases e1
    · obtain ⟨u, h1, h2⟩ := E.val j e e1
      exact ⟨u, by rw [List.getElem?_set_ne (Ne.symm hne)]; exact h1, h2⟩
  · rcases get_set hj with ⟨rfl, e1, hl⟩ | ⟨hne, e1⟩
    · cases e1
      exact ⟨p, xs, by rw [List.getElem?_set_self (by rw [E.len]; exact hl)], hp, nb, nw, h⟩
    · obtain ⟨q, ys, h1, h2⟩ := E.own j es e1
      exact ⟨q, ys, by rw [List.getElem?_set_ne (Ne.symm hne)]; exact h1, h2⟩
  · rcases get_set hj with ⟨rfl, e1, hl⟩ | ⟨n1, e1⟩
    · rcases get_set hk with ⟨rfl, e2, _⟩ | ⟨n2, e2⟩
      · rfl
      · rw [List.getElem?_set_self (by rw [E.len]; exact hl)] at h1
        rw [List.getElem?_set_ne (Ne.symm n2)] at h2
        cases h1
        exact absurd h2 (nn k fs e2 n2)
    · rcases get_set hk with ⟨rfl, e2, hl⟩ | ⟨n2, e2⟩
      · rw [List.getElem?_set_self (by rw [E.len]; exact hl)] at h2
        rw [List.getElem?_set_ne (Ne.symm n1)] at h1
        cases h2
        exact absurd h1 (nn j es e1 n1)
      · rw [List.getElem?_set_ne (Ne.symm n1)] at h1
        rw [List.getElem?_set_ne (Ne.symm n2)] at h2
        exact E.dis j k es fs q e1 e2 h1 h2
theorem EnvOk.mut (E : EnvOk K mg W B H σ ρ) {i : Nat} {p : Addr} {xs ys : List V} {ds es : List D} (hi : ρ[i]? = some (.l ds)) (hs : σ[i]? = some (some (.ref p))) (h : IsL K mg B ys es) :
    EnvOk K mg W B (upd H p (.lst ys)) σ (ρ.set i (.l es)) := by
  obtain ⟨p', zs, h1, h2, h3, h4, h5⟩ := E.own i ds hi
  have ep : p' = p := by
    rw [hs] at h1
    cases h1
    rfl
  subst ep
  have nb : ∀ q u, B q = some u → q ≠ p' := fun q u e z => by rw [z, h3] at e; cases e
  have nw : ∀ q u, W.H q = some u → q ≠ p' := fun q u e z => by rw [z, h4] at e; cases e
  have hl : i < ρ.length := (List.getElem?_eq_some_iff.mp hi).1
  refine ⟨⟨E.gr.bb, fun q u e => ?_, fun q u e => ?_, E.gr.sep⟩, by simp [E.len], fun j e hj => ?_, fun j fs hj => ?_, fun j k fs gs q hj hk h1 h2 => ?_, E.refSet0 fun _ z => nomatch z⟩
  · rw [upd_ne (nw q u e)]; exact E.gr.hh q u e
  · rw [upd_ne (nb q u e)]; exact E.gr.bh q u e
  · rcases get_set hj with ⟨_, e1, _⟩ | ⟨hne, e1⟩
    · cases e1
    · exact E.val j e e1
  · rcases get_set hj with ⟨rfl, e1, _⟩ | ⟨hne, e1⟩
    · cases e1
      exact ⟨p', ys, hs, upd_same, h3, h4, h⟩
    · obtain ⟨q, zs', g1, g2, g3⟩ := E.own j fs e1
      have hq : q ≠ p' := fun z => hne (E.dis j i fs ds p' e1 hi (by rw [g1, z]) hs)
      exact ⟨q, zs', g1, by rw [upd_ne hq]; exact g2, g3⟩
  · have hj' : ∃ es, ρ[j]? = some (.l es) := by
      rcases get_set hj with ⟨rfl, _, _⟩ | ⟨_, e1⟩
      · exact ⟨_, hi⟩
      · exact ⟨_, e1⟩
    have hk' : ∃ es, ρ[k]? = some (.l es) := by
      rcases get_set hk with ⟨rfl, _, _⟩ | ⟨_, e1⟩
      · exact ⟨_, hi⟩
      · exact ⟨_, e1⟩
    obtain ⟨_, e1⟩ := hj'
    obtain ⟨_, e2⟩ := hk'
    exact E.dis j k _ _ q e1 e2 h1 h2
def frz (i : Nat) (ρ : En) : En := match ρ[i]? with
  | some (.l ds) => ρ.set i (.v (.lst ds))
  | _ => ρ
theorem EnvOk.frz (E : EnvOk K mg W B H σ ρ) (i : Nat) : ∃ B', EnvOk K mg W B' H σ (frz i ρ) := by
  unfold GD.frz
  split
  · rename_i ds hi
    obtain ⟨p, xs, h1, h2, h3, h4, h5⟩ := E.own i ds hi
    have nb : ∀ q u, B q = some u → q ≠ p := fun q u e z => by rw [z, h3] at e; cases e
    have bb : Same B (upd B p (.lst xs)) := fun q u e => by rw [upd_ne (nb q u e)]; exact e
    have hl : i < ρ.length := (List.getElem?_eq_some_iff.mp hi).1
    refine ⟨upd B p (.lst xs), ⟨⟨E.gr.bb.trans bb, E.gr.hh, fun q u e => ?_, fun q u e tt n => ?_⟩, by simp [E.len], fun j e hj => ?_, fun j fs hj => ?_, fun j k fs gs q hj hk g1 g2 => ?_, E.refSet0 fun _ z => nomatch z⟩⟩
    · by_cases hq : q = p
      · subst hq; rw [upd_same] at e; rw [h2, e]
      · rw [upd_ne hq] at e; exact E.gr.bh q u e
    · rw [upd_ne (fun z => by rw [z, h4] at e; cases e)]
      exact E.gr.sep q u e tt n
    · rcases get_set hj with ⟨rfl, e1, _⟩ | ⟨hne, e1⟩
      · cases e1
        exact ⟨_, h1, .lst upd_same (h5.mono bb)⟩
      · obtain ⟨u, g1, g2⟩ := E.val j e e1
        exact ⟨u, g1, g2.mono bb⟩
    · rcases get_set hj with ⟨_, e1, _⟩ | ⟨hne, e1⟩
      · cases e1
      · obtain ⟨q, zs', g1, g2, g3, g4, g5⟩ := E.own j fs e1
        have hq : q ≠ p := fun z => hne (E.dis j i fs ds p e1 hi (by rw [g1, z]) h1)
        exact ⟨q, zs', g1, g2, by rw [upd_ne hq]; exact g3, g4, g5.mono bb⟩
    · rcases get_set hj with ⟨_, e1, _⟩ | ⟨_, e1⟩
      · cases e1
      · rcases get_set hk with ⟨_, e2, _⟩ | ⟨_, e2⟩
        · cases e2
        · exact E.dis j k _ _ q e1 e2 g1 g2
  · exact ⟨B, E⟩
theorem EnvOk.drop (E : EnvOk K mg W B H σ ρ) (i : Nat) {o : Option V} : EnvOk K mg W B H (σ.set i o) (ρ.set i .un) := by
  refine ⟨E.gr, by simp [E.len], fun j e hj => ?_, fun j ds hj => ?_, fun j k ds es p hj hk h1 h2 => ?_, E.refSet fun _ z => nomatch z⟩
  · rcases get_set hj with ⟨_, e1, _⟩ | ⟨hne, e1⟩
    · cases e1
    · obtain ⟨u, h1, h2⟩ := E.val j e e1
      exact ⟨u, by rw [List.getElem?_set_ne (Ne.symm hne)]; exact h1, h2⟩
  · rcases get_set hj with ⟨_, e1, _⟩ | ⟨hne, e1⟩
    · cases e1
    · obtain ⟨p, xs, h1, h2⟩ := E.own j ds e1
      exact ⟨p, xs, by rw [List.getElem?_set_ne (Ne.symm hne)]; exact h1, h2⟩
  · rcases get_set hj with ⟨_, e1, _⟩ | ⟨n1, e1⟩
    · cases e1
    · rcases get_set hk with ⟨_, e2, _⟩ | ⟨n2, e2⟩
      · cases e2
      · rw [List.getElem?_set_ne (Ne.symm n1)] at h1
        rw [List.getElem?_set_ne (Ne.symm n2)] at h2
        exact E.dis j k ds es p e1 e2 h1 h2
end
inductive R (α : Type) where
  | ok (a : α)
  | er (x : Str)
  | st
def R.bind {α β : Type} (r : R α) (f : α → R β) : R β := match r with
  | .ok a => f a
  | .er x => .er x
  | .st => .st
def Post {α : Type} (r : R α) (P : α → Prop) (E : Str → Prop) : Prop := match r with
  | .ok a => P a
  | .er x => E x
  | .st => False
theorem Post.bind {α β : Type} {r : R α} {f : α → R β} {P : β → Prop} {E : Str → Prop} (h : Post (r.bind f) P E) : Post r (fun a => Post (f a) P E) E := by
  cases r <;> exact h
theorem Post.mono {α : Type} {r : R α} {P P' : α → Prop} {E E' : Str → Prop} (h : Post r P E) (hp : ∀ a, r = .ok a → P a → P' a) (he : ∀ x, E x → E' x) : Post r P' E' := by
  cases r with
  | ok a => exact hp a rfl h
  | er x => exact he x h
  | st => exact h
inductive Out where
  | nx (ρ : En)
  | rt (d : D)
  | bk (ρ : En)
  | ct (ρ : En)
  | er (x : Str) (ρ : En)
  | st
abbrev EM := En → R D
abbrev TM := En → R Bool
abbrev AM := En → R (List D)
abbrev SM := En → Out
def wpE (X : Cx) (e : Expr) : TE := fun σ H Q => ∃ t, PE X e t ∧ t σ H Q
def wpT (X : Cx) (e : Expr) : TT := fun σ H Q => ∃ t, PT X e t ∧ t σ H Q
def wpA (X : Cx) (es : List Expr) : TA := fun σ H Q => ∃ t, PA X es t ∧ t σ H Q
def wpS (X : Cx) (s : Stmt) : TS := fun D σ H => ∃ t, PS X s t ∧ t D σ H
def wpB (X : Cx) (ss : List Stmt) : TS := fun D σ H => ∃ t, PSs X ss t ∧ t D σ H
theorem pe_wp {X : Cx} {e : Expr} : PE X e (wpE X e) := ⟨fun pins s σ H Q I ⟨_, h, q⟩ => h.run pins s σ H Q I q⟩
theorem pt_wp {X : Cx} {e : Expr} : PT X e (wpT X e) := ⟨fun pins s σ H Q I ⟨_, h, q⟩ => h.run pins s σ H Q I q⟩
theorem pa_wp {X : Cx} {es : List Expr} : PA X es (wpA X es) := ⟨fun pos pins s σ H Q I ⟨_, h, q⟩ => h.run pos pins s σ H Q I q⟩
theorem ps_wp {X : Cx} {s : Stmt} : PS X s (wpS X s) := ⟨fun pins s σ H D I ⟨_, h, q⟩ => h.run pins s σ H D I q⟩
theorem pb_wp {X : Cx} {ss : List Stmt} : PSs X ss (wpB X ss) := ⟨fun pins s σ H D I ⟨_, h, q⟩ => h.run pins s σ H D I q⟩
def okD (X : Cx) (B H : Hp) (Q : VK) (d : D) : Prop := ∀ v B' H', Grow B H B' H' → Is X.K X.mg B' v d → Q v H'
def okT (B H : Hp) (Q : Bool → Hp → Prop) (b : Bool) : Prop := ∀ B' H', Grow B H B' H' → Q b H'
def okA (X : Cx) (B H : Hp) (Q : List V → Hp → Prop) (ds : List D) : Prop := ∀ vs B' H', Grow B H B' H' → IsL X.K X.mg B' vs ds → Q vs H'
def okF (X : Cx) (B H : Hp) (Q : VK) (ds : List D) : Prop := ∀ p xs B' H', Grow B H B' H' → H p = none → H' p = some (.lst xs) → B' p = none → IsL X.K X.mg B' xs ds → Q (.ref p) H'
def erD (X : Cx) (Wx : WX) (σ : L2.St) (B H : Hp) (x : Str) : Prop := ∀ cls B' H', X.mg x = some cls → Grow B H B' H' → Wx cls none σ H'
def PED (X : Cx) (Wx : WX) (e : Expr) (m : EM) : Prop := ∀ W σ H B ρ, EnvOk X.K X.mg W B H σ ρ → ∀ Q, Post (m ρ) (okD X B H Q) (erD X Wx σ B H) → wpE X e σ H Q
def PTD (X : Cx) (Wx : WX) (e : Expr) (m : TM) : Prop := ∀ W σ H B ρ, EnvOk X.K X.mg W B H σ ρ → ∀ Q, Post (m ρ) (okT B H Q) (erD X Wx σ B H) → wpT X e σ H Q
def PAD (X : Cx) (Wx : WX) (es : List Expr) (m : AM) : Prop := ∀ W σ H B ρ, EnvOk X.K X.mg W B H σ ρ → ∀ Q, Post (m ρ) (okA X B H Q) (erD X Wx σ B H) → wpA X es σ H Q
def PFD (X : Cx) (Wx : WX) (e : Expr) (m : AM) : Prop := ∀ W σ H B ρ, EnvOk X.K X.mg W B H σ ρ → ∀ Q, Post (m ρ) (okF X B H Q) (erD X Wx σ B H) → wpE X e σ H Q
def PostS (X : Cx) (W : Wd) (Wx : WX) (o : Out) (D : Ends) : Prop := match o with
  | .nx ρ => ∀ σ B H, EnvOk X.K X.mg W B H σ ρ → D.nx σ H
  | .rt d => ∀ v B H, Grow W.B W.H B H → Is X.K X.mg B v d → D.rt v H
  | .bk ρ => ∀ σ B H, EnvOk X.K X.mg W B H σ ρ → D.bk σ H
  | .ct ρ => ∀ σ B H, EnvOk X.K X.mg W B H σ ρ → D.ct σ H
  | .er x ρ => ∀ cls σ B H, X.mg x = some cls → EnvOk X.K X.mg W B H σ ρ → Wx cls none σ H
  | .st => False
def PSD (X : Cx) (Wx : WX) (s : Stmt) (m : SM) : Prop := ∀ W σ H B ρ, EnvOk X.K X.mg W B H σ ρ → ∀ D, PostS X W Wx (m ρ) D → wpS X s D σ H
def PBD (X : Cx) (Wx : WX) (ss : List Stmt) (m : SM) : Prop := ∀ W σ H B ρ, EnvOk X.K X.mg W B H σ ρ → ∀ D, PostS X W Wx (m ρ) D → wpB X ss D σ H
section
variable {X : Cx} {Wx : WX} {W : Wd} {σ : L2.St} {B H B1 H1 : Hp}
theorem okD.later {Q : VK} {d : D} (h : okD X B H Q d) (g : Grow B H B1 H1) : okD X B1 H1 Q d := fun v B' H' g' r => h v B' H' (g.trans g') r
theorem okT.later {Q : Bool → Hp → Prop} {b : Bool} (h : okT B H Q b) (g : Grow B H B1 H1) : okT B1 H1 Q b := fun B' H' g' => h B' H' (g.trans g')
theorem okA.later {Q : List V → Hp → Prop} {ds : List D} (h : okA X B H Q ds) (g : Grow B H B1 H1) : okA X B1 H1 Q ds := fun v B' H' g' r => h v B' H' (g.trans g') r
theorem okF.later {Q : VK} {ds : List D} (h : okF X B H Q ds) (g : Grow B H B1 H1) : okF X B1 H1 Q ds := fun p xs B' H' g' n e n' r => h p xs B' H' (g.trans g') (by
  cases q : H p with
  | none => rfl
  | some o => rw [g.hh p o q] at n; cases n) e n' r
theorem erD.later {x : Str} (h : erD X Wx σ B H x) (g : Grow B H B1 H1) : erD X Wx σ B1 H1 x := fun cls B' H' e g' => h cls B' H' e (g.trans g')
end
def R.ofO {α : Type} (o : Option α) : R α := match o with
  | some a => .ok a
  | none => .st
theorem Post.ofO {α : Type} {o : Option α} {P : α → Prop} {E : Str → Prop} (h : Post (R.ofO o) P E) : ∃ a, o = some a ∧ P a := by
  cases o with
  | none => exact h.elim
  | some a => exact ⟨a, rfl, h⟩
def mulOk (i j : Int) : Prop := i.natAbs.log2 + j.natAbs.log2 < 1000000
instance (i j : Int) : Decidable (mulOk i j) := by unfold mulOk; infer_instance
def divOk (j : Int) : Prop := 0 < j ∧ j.natAbs.log2 < 9000
instance (j : Int) : Decidable (divOk j) := by unfold divOk; infer_instance
def powOk (i j : Int) : Prop := 0 ≤ j ∧ j ≤ 1000000 ∧ i.natAbs < 2 ^ 64
instance (i j : Int) : Decidable (powOk i j) := by unfold powOk; infer_instance
def catOk (m n : Nat) : Prop := m + n ≤ sizeLine
instance (m n : Nat) : Decidable (catOk m n) := by unfold catOk; infer_instance
def dAdd : D → D → Option D
  | .int i, .int j => some (.int (i + j))
  | .str x, .str y => if catOk x.length y.length then some (.str (x ++ y)) else none
  | .lst xs, .lst ys => if catOk xs.length ys.length then some (.lst (xs ++ ys)) else none
  | .tup xs, .tup ys => if xs.isEmpty = false ∧ ys.isEmpty = false ∧ catOk xs.length ys.length then some (.tup (xs ++ ys)) else none
  | _, _ => none
def dSub : D → D → Option D
  | .int i, .int j => some (.int (i - j))
  | _, _ => none
def dMul : D → D → Option D
  | .int i, .int j => if mulOk i j then some (.int (i * j)) else none
  | _, _ => none
def dDiv : D → D → Option D
  | .int i, .int j => if divOk j then some (.int (i / j)) else none
  | _, _ => none
def dMod : D → D → Option D
  | .int i, .int j => if 0 < j then some (.int (i % j)) else none
  | _, _ => none
def dPow : D → D → Option D
  | .int i, .int j => if powOk i j then some (.int (i ^ j.toNat)) else none
  | _, _ => none
def dNeg : D → Option D
  | .int i => some (.int (-i))
  | _ => none
def intsOf : List D → Option (List Int)
  | [] => some []
  | .int i :: ds => (intsOf ds).map (i :: ·)
  | _ => none
def dLt : D → D → Option D
  | .int i, .int j => some (.bl (decide (i < j)))
  | .str x, .str y => some (.bl (decide (x.cps.toList < y.cps.toList)))
  | .tup xs, .tup ys => (intsOf xs).bind fun ns => (intsOf ys).map fun ms => .bl (HT.lexLt ns ms)
  | _, _ => none
def dLe : D → D → Option D
  | .int i, .int j => some (.bl (decide (i ≤ j)))
  | .str x, .str y => some (.bl (!decide (y.cps.toList < x.cps.toList)))
  | _, _ => none
def dGt : D → D → Option D
  | .int i, .int j => some (.bl (decide (j < i)))
  | .str x, .str y => some (.bl (decide (y.cps.toList < x.cps.toList)))
  | _, _ => none
def dGe : D → D → Option D
  | .int i, .int j => some (.bl (decide (j ≤ i)))
  | .str x, .str y => some (.bl (!decide (x.cps.toList < y.cps.toList)))
  | _, _ => none
mutual
def toP : D → PyData
  | .non => .none
  | .bl b => .bool b
  | .int i => .int i
  | .str x => .str x
  | .tup ds => .tuple (toPs ds)
  | .lst ds => .list (toPs ds)
  | .scr ns => .list (ns.map .int)
  | _ => .dict []
def toPs : List D → List PyData
  | [] => []
  | d :: ds => toP d :: toPs ds
end
def dEq (d e : D) : Option D := if SeqAt.shaped (toP d) = true ∧ SeqAt.shaped (toP e) = true then some (.bl (PyData.eqv (toP d) (toP e))) else none
def dNe (d e : D) : Option D := if SeqAt.shaped (toP d) = true ∧ SeqAt.shaped (toP e) = true then some (.bl (!PyData.eqv (toP d) (toP e))) else none
def D.isNone : D → Bool
  | .non => true
  | _ => false
def dIs (d e : D) : Option D := match e with
  | .non => some (.bl d.isNone)
  | _ => none
def dIsNot (d e : D) : Option D := match e with
  | .non => some (.bl (!d.isNone))
  | _ => none
def dAt : D → D → Option D
  | .tup ds, .int k => atI ds k
  | .lst ds, .int k => atI ds k
  | .scr ns, .int k => (atI ns k).map D.int
  | .str x, .int k => if x.length ≤ sizeLine then (atI x.cps.toList k).map fun c => .str ⟨#[c]⟩ else none
  | _, _ => none
def eVar (i : Nat) : EM := fun ρ => match ρ[i]? with
  | some (.v d) => .ok d
  | _ => .st
def eC (d : D) : EM := fun _ => .ok d
def e1 (g : D → Option D) (ma : EM) : EM := fun ρ => (ma ρ).bind fun x => R.ofO (g x)
def e2 (g : D → D → Option D) (ma mb : EM) : EM := fun ρ => (ma ρ).bind fun x => (mb ρ).bind fun y => R.ofO (g x y)
def asB : D → Option Bool
  | .bl b => some b
  | _ => none
def mB (ma : EM) : TM := fun ρ => (ma ρ).bind fun x => R.ofO (asB x)
def aNil : AM := fun _ => .ok []
def aCons (ma : EM) (mr : AM) : AM := fun ρ => (ma ρ).bind fun x => (mr ρ).bind fun xs => .ok (x :: xs)
def eF (F : List D → R D) (ma : AM) : EM := fun ρ => (ma ρ).bind F
def eB (g : List D → Option D) (ma : AM) : EM := fun ρ => (ma ρ).bind fun ds => R.ofO (g ds)
def eTup (ma : AM) : EM := fun ρ => (ma ρ).bind fun ds => if ds.length ≤ sizeLine then .ok (.tup ds) else .st
def aLst (ma : AM) : AM := fun ρ => (ma ρ).bind fun ds => if ds.length ≤ sizeLine then .ok ds else .st
def eL (mf : AM) : EM := fun ρ => (mf ρ).bind fun ds => .ok (.lst ds)
def mNot (t : TM) : TM := fun ρ => (t ρ).bind fun b => .ok (!b)
def mAnd (t u : TM) : TM := fun ρ => (t ρ).bind fun b => if b = true then u ρ else .ok false
def mOr (t u : TM) : TM := fun ρ => (t ρ).bind fun b => if b = true then .ok true else u ρ
def eNot (a : EM) : EM := fun ρ => (mB a ρ).bind fun b => .ok (.bl (!b))
def eAnd (a b : EM) : EM := fun ρ => (mB a ρ).bind fun c => if c = true then b ρ else .ok (.bl false)
def eOr (a b : EM) : EM := fun ρ => (mB a ρ).bind fun c => if c = true then .ok (.bl true) else b ρ
def eCh (g g' : D → D → Option D) (ma mb mc : EM) : EM := fun ρ => (ma ρ).bind fun x => (mb ρ).bind fun y => (R.ofO (g x y)).bind fun z => (R.ofO (asB z)).bind fun k =>
  if k = true then (mc ρ).bind fun w => R.ofO (g' y w) else .ok (.bl false)
section
variable {K : PySem.W.Frag} {mg : Str → Option Value} {B : Hp} {v : V}
theorem Is.int_inv {i : Int} (h : Is K mg B v (.int i)) : v = .int i := by cases h; rfl
theorem Is.bl_inv {b : Bool} (h : Is K mg B v (.bl b)) : v = .bl b := by cases h; rfl
theorem Is.str_inv {x : Str} (h : Is K mg B v (.str x)) : v = .str x := by cases h; rfl
theorem Is.ty_inv {n : String} (h : Is K mg B v (.ty n)) : v = .ty n := by cases h; rfl
theorem Is.tup_inv {ds : List D} (h : Is K mg B v (.tup ds)) : ∃ a xs, v = .ref a ∧ SqT K B a xs ∧ IsL K mg B xs ds := by
  cases h with
  | tup h r => exact ⟨_, _, rfl, SqT.of h, r⟩
  | tup3 h => exact ⟨_, _, rfl, .inr h, .cons (.int _) (.cons (.int _) (.cons (.int _) .nil))⟩
theorem Is.tup_at {ds : List D} (h : Is K mg B v (.tup ds)) (n3 : ds.length ≠ 3) : ∃ a xs, v = .ref a ∧ B a = some (.tup xs) ∧ IsL K mg B xs ds := by
  cases h with
  | tup h r => exact ⟨_, _, rfl, h, r⟩
  | tup3 h => exact absurd rfl n3
theorem Is.lst_inv {ds : List D} (h : Is K mg B v (.lst ds)) : ∃ a xs, v = .ref a ∧ B a = some (.lst xs) ∧ IsL K mg B xs ds := by
  cases h with
  | lst h r => exact ⟨_, _, rfl, h, r⟩
theorem Is.scr_inv {ns : List Int} (h : Is K mg B v (.scr ns)) : ∃ a, v = .ref a ∧ SqL K B a (ns.map V.int) := by
  cases h with
  | scr h => exact ⟨_, rfl, h⟩
theorem IsL.ints_inv : ∀ {ds : List D} {ns : List Int} {xs : List V}, intsOf ds = some ns → IsL K mg B xs ds → xs = ns.map V.int
  | [], ns, xs, e, h => by
    cases h
    simp [intsOf] at e
    subst e
    rfl
  | d :: ds, ns, xs, e, h => by
    cases h with
    | cons h r =>
      cases d with
      | int i =>
        simp only [intsOf, Option.map_eq_some_iff] at e
        obtain ⟨ms, e1, rfl⟩ := e
        rw [h.int_inv, IsL.ints_inv e1 r]
        rfl
      | _ => simp [intsOf] at e
theorem seqL_of {H : Hp} {a : Addr} {xs : List V} (e : Same B H) (h : B a = some (.lst xs)) : SqL K H a xs := SqL.of (e _ _ h)
theorem dps_ints {H : Hp} : ∀ ns : List Int, DpAll K H (ns.map V.int) (ns.map PyData.int)
  | [] => .nil
  | n :: ns => .cons (.int n) (dps_ints ns)
mutual
theorem Is.dp {H : Hp} (e : Same B H) : ∀ {v : V} {d : D}, Is K mg B v d → (SeqAt.shaped (toP d) = true ∨ PyData.canLay0 (toP d) = true) → Dp K H v (toP d)
  | _, _, .non, _ => .non
  | _, _, .bl b, _ => .bl b
  | _, _, .int i, _ => .int i
  | _, _, .str x, _ => .str x
  | _, _, .tup h r, c => by
    simp only [toP]
    refine .tup (SqT.of (e _ _ h)) (IsL.dp e r ?_)
    rcases c with c | c
    · have := SeqAt.canLay_of_shaped c
      simpa [toP, PyData.canLay0] using this
    · simpa [toP, PyData.canLay0] using c
  | _, _, .tup3 (x := x) (y := y) (z := z) h, c => by
    simp only [toP, toPs]
    exact .tup (.inr h) (dps_ints [x, y, z])
  | _, _, .lst h r, c => by
    simp only [toP]
    refine .lst (seqL_of e h) (IsL.dp e r ?_)
    rcases c with c | c
    · have := SeqAt.canLay_of_shaped c
      simpa [toP, PyData.canLay0] using this
    · simpa [toP, PyData.canLay0] using c
  | _, _, .scr (ns := ns) h, _ => by
    simp only [toP]
    refine .lst (e.seq h) ?_
    exact dps_ints ns
  | _, _, .dct h k r, c => by
    rcases c with c | c
    · have := SeqAt.canLay_of_shaped c
      simp [toP, PyData.canLay0] at this
    · simp [toP, PyData.canLay0] at c
  | _, _, .exc h k, c => by
    rcases c with c | c
    · have := SeqAt.canLay_of_shaped c
      simp [toP, PyData.canLay0] at this
    · simp [toP, PyData.canLay0] at c
  | _, _, .ty n, c => by
    rcases c with c | c
    · have := SeqAt.canLay_of_shaped c
      simp [toP, PyData.canLay0] at this
    · simp [toP, PyData.canLay0] at c
  | _, _, .cls h, c => by
    rcases c with c | c
    · have := SeqAt.canLay_of_shaped c
      simp [toP, PyData.canLay0] at this
    · simp [toP, PyData.canLay0] at c
  | _, _, .obj hc h k r, c => by
    rcases c with c | c
    · have := SeqAt.canLay_of_shaped c
      simp [toP, PyData.canLay0] at this
    · simp [toP, PyData.canLay0] at c
theorem IsL.dp {H : Hp} (e : Same B H) : ∀ {vs : List V} {ds : List D}, IsL K mg B vs ds → PyData.canLayAll0 (toPs ds) = true → DpAll K H vs (toPs ds)
  | _, _, .nil, _ => .nil
  | _, _, .cons h r, c => by
    simp only [toPs] at c ⊢
    simp only [PyData.canLayAll0, Bool.and_eq_true] at c
    exact .cons (Is.dp e h (.inr c.1)) (IsL.dp e r c.2)
end
end
def wpO (X : Cx) (f : Value → Value → Sem Value) : R2 := fun x y H Q => ∃ r, OpR X f r ∧ r x y H Q
theorem op_wp {X : Cx} {f : Value → Value → Sem Value} : OpR X f (wpO X f) := fun pins s σ H x y v u Q I rx ry ⟨_, ho, q⟩ => ho pins s σ H x y v u Q I rx ry q
def OpD (X : Cx) (f : Value → Value → Sem Value) (g : D → D → Option D) : Prop :=
  ∀ B H x y d e d' Q, Same B H → Is X.K X.mg B x d → Is X.K X.mg B y e → g d e = some d' → okD X B H Q d' → wpO X f x y H Q
section
variable {X : Cx} {B H : Hp} {Q : VK} {d : D}
theorem okD.at {v : V} (h : okD X B H Q d) (e : Same B H) (r : Is X.K X.mg B v d) : Q v H := h v B H (Grow.refl e) r
theorem okD.nt {ds : List D} {xs : List V} {p : Addr} (h : okD X B H Q (.tup ds)) (e : Same B H) (n : H p = none) (r : IsL X.K X.mg B xs ds) : Q (.ref p) (upd H p (.tup xs)) :=
  h _ _ _ (Grow.new e n) (.tup upd_same (r.mono (Grow.new (o := .tup xs) e n).bb))
theorem okD.nl {ds : List D} {xs : List V} {p : Addr} (h : okD X B H Q (.lst ds)) (e : Same B H) (n : H p = none) (r : IsL X.K X.mg B xs ds) : Q (.ref p) (upd H p (.lst xs)) :=
  h _ _ _ (Grow.new e n) (.lst upd_same (r.mono (Grow.new (o := .lst xs) e n).bb))
theorem some_ite {α : Type} {c : Prop} [Decidable c] {a b : α} (h : (if c then some a else none) = some b) : c ∧ a = b := by
  by_cases hc : c
  · rw [if_pos hc] at h; exact ⟨hc, Option.some.inj h⟩
  · rw [if_neg hc] at h; cases h
theorem opd_add : OpD X (binaryOp .Add) dAdd := by
  intro B H x y d e d' Q b rx ry g q
  unfold dAdd at g
  split at g
  · cases g
    rw [rx.int_inv, ry.int_inv]
    exact ⟨_, op_add, _, _, rfl, rfl, q.at b (.int _)⟩
  · obtain ⟨hc, rfl⟩ := some_ite g
    rw [rx.str_inv, ry.str_inv]
    exact ⟨_, op_add_str, _, _, rfl, rfl, hc, q.at b (.str _)⟩
  · obtain ⟨hc, rfl⟩ := some_ite g
    obtain ⟨a1, xs, rfl, h1, r1⟩ := rx.lst_inv
    obtain ⟨a2, ys, rfl, h2, r2⟩ := ry.lst_inv
    exact ⟨_, op_cat, a1, a2, xs, ys, rfl, rfl, b _ _ h1, b _ _ h2, by rw [r1.length, r2.length]; exact hc, fun p hp => q.nl b hp (r1.append r2)⟩
  · obtain ⟨⟨h1, h2, hc⟩, rfl⟩ := some_ite g
    obtain ⟨a1, xs, rfl, g1, r1⟩ := rx.tup_inv
    obtain ⟨a2, ys, rfl, g2, r2⟩ := ry.tup_inv
    rename_i ds es
    have n1 : xs ≠ [] := by
      intro z
      subst z
      cases r1
      simp at h1
    have n2 : ys ≠ [] := by
      intro z
      subst z
      cases r2
      simp at h2
    exact ⟨_, op_catT, a1, a2, xs, ys, rfl, rfl, seqT b g1, seqT b g2, n1, by rw [r1.length, r2.length]; exact hc, fun z => absurd z n2, fun _ p hp => q.nt b hp (r1.append r2)⟩
  · cases g
theorem opd_sub : OpD X (binaryOp .Sub) dSub := by
  intro B H x y d e d' Q b rx ry g q
  unfold dSub at g
  split at g
  · cases g
    rw [rx.int_inv, ry.int_inv]
    exact ⟨_, op_sub, _, _, rfl, rfl, q.at b (.int _)⟩
  · cases g
theorem opd_mul : OpD X (binaryOp .Mult) dMul := by
  intro B H x y d e d' Q b rx ry g q
  unfold dMul at g
  split at g
  · obtain ⟨hc, rfl⟩ := some_ite g
    rw [rx.int_inv, ry.int_inv]
    exact ⟨_, op_mulW, _, _, rfl, rfl, hc, q.at b (.int _)⟩
  · cases g
theorem opd_div : OpD X (binaryOp .FloorDiv) dDiv := by
  intro B H x y d e d' Q b rx ry g q
  unfold dDiv at g
  split at g
  · obtain ⟨hc, rfl⟩ := some_ite g
    rw [rx.int_inv, ry.int_inv]
    exact ⟨_, op_fdivW, _, _, rfl, rfl, hc, q.at b (.int _)⟩
  · cases g
theorem opd_mod : OpD X (binaryOp .Mod) dMod := by
  intro B H x y d e d' Q b rx ry g q
  unfold dMod at g
  split at g
  · obtain ⟨hc, rfl⟩ := some_ite g
    rw [rx.int_inv, ry.int_inv]
    exact ⟨_, op_mod, _, _, rfl, rfl, hc, q.at b (.int _)⟩
  · cases g
theorem opd_pow : OpD X (binaryOp .Pow) dPow := by
  intro B H x y d e d' Q b rx ry g q
  unfold dPow at g
  split at g
  · obtain ⟨hc, rfl⟩ := some_ite g
    rw [rx.int_inv, ry.int_inv]
    exact ⟨_, op_pow, _, _, rfl, rfl, hc, q.at b (.int _)⟩
  · cases g
theorem opd_lt (hu : X.A.units < cLine) : OpD X (compareOp .Lt) dLt := by
  intro B H x y d e d' Q b rx ry g q
  unfold dLt at g
  split at g
  · cases g
    rw [rx.int_inv, ry.int_inv]
    exact ⟨_, op_lt, _, _, rfl, rfl, q.at b (.bl _)⟩
  · cases g
    rw [rx.str_inv, ry.str_inv]
    exact ⟨_, op_lt_str, _, _, rfl, rfl, q.at b (.bl _)⟩
  · simp only [Option.bind_eq_some_iff, Option.map_eq_some_iff] at g
    obtain ⟨ns, g1, ms, g2, rfl⟩ := g
    obtain ⟨a1, xs, rfl, h1, r1⟩ := rx.tup_inv
    obtain ⟨a2, ys, rfl, h2, r2⟩ := ry.tup_inv
    have e1 := IsL.ints_inv g1 r1
    have e2 := IsL.ints_inv g2 r2
    subst e1 e2
    exact ⟨_, op_ltT hu, _, _, _, _, rfl, rfl, seqT b h1, seqT b h2, q.at b (.bl _)⟩
  · cases g
theorem opd_le : OpD X (compareOp .LtE) dLe := by
  intro B H x y d e d' Q b rx ry g q
  unfold dLe at g
  split at g
  · cases g
    rw [rx.int_inv, ry.int_inv]
    exact ⟨_, op_le, _, _, rfl, rfl, q.at b (.bl _)⟩
  · cases g
    rw [rx.str_inv, ry.str_inv]
    exact ⟨_, op_le_str, _, _, rfl, rfl, q.at b (.bl _)⟩
  · cases g
theorem opd_gt : OpD X (compareOp .Gt) dGt := by
  intro B H x y d e d' Q b rx ry g q
  unfold dGt at g
  split at g
  · cases g
    rw [rx.int_inv, ry.int_inv]
    exact ⟨_, op_gt, _, _, rfl, rfl, q.at b (.bl _)⟩
  · cases g
    rw [rx.str_inv, ry.str_inv]
    exact ⟨_, op_gt_str, _, _, rfl, rfl, q.at b (.bl _)⟩
  · cases g
theorem opd_eq (hu : X.A.units + 64 < cLine) : OpD X (compareOp .Eq) dEq := by
  intro B H x y d e d' Q b rx ry g q
  obtain ⟨⟨h1, h2⟩, rfl⟩ := some_ite g
  exact ⟨_, op_eqD hu, _, _, rx.dp b (.inl h1), ry.dp b (.inl h2), h1, h2, q.at b (.bl _)⟩
theorem opd_ne (hu : X.A.units + 64 < cLine) : OpD X (compareOp .NotEq) dNe := by
  intro B H x y d e d' Q b rx ry g q
  obtain ⟨⟨h1, h2⟩, rfl⟩ := some_ite g
  exact ⟨_, op_neD hu, _, _, rx.dp b (.inl h1), ry.dp b (.inl h2), h1, h2, q.at b (.bl _)⟩
def wpIx (X : Cx) : R2 := fun x y H Q => ∃ r, IxR X r ∧ r x y H Q
theorem ix_wp : IxR X (wpIx X) := fun value slice pins s σ H x y v u Q I rx ry ⟨_, ho, q⟩ => ho value slice pins s σ H x y v u Q I rx ry q
theorem IsL.atI {K : PySem.W.Frag} {mg : Str → Option Value} {xs : List V} {ds : List D} {k : Int} (r : IsL K mg B xs ds) (h : atI ds k = some d) : ∃ v, L2.atI xs k = some v ∧ Is K mg B v d := by
  unfold L2.atI at h ⊢
  rw [r.length]
  cases e : ixN ds.length k with
  | none => rw [e] at h; cases h
  | some j =>
    rw [e] at h
    exact r.get h
theorem ixd {x y : V} {d e d' : D} (b : Same B H) (rx : Is X.K X.mg B x d) (ry : Is X.K X.mg B y e) (g : dAt d e = some d') (q : okD X B H Q d') : wpIx X x y H Q := by
  unfold dAt at g
  split at g
  · obtain ⟨a1, xs, rfl, h1, r1⟩ := rx.tup_inv
    rw [ry.int_inv]
    obtain ⟨v, e1, r⟩ := r1.atI g
    exact ⟨_, ix_tup, _, _, _, _, rfl, rfl, seqT b h1, e1, q.at b r⟩
  · obtain ⟨a1, xs, rfl, h1, r1⟩ := rx.lst_inv
    rw [ry.int_inv]
    obtain ⟨v, e1, r⟩ := r1.atI g
    exact ⟨_, ix_list, _, _, _, _, rfl, rfl, seqL_of b h1, e1, q.at b r⟩
  · obtain ⟨a1, rfl, h1⟩ := rx.scr_inv
    rw [ry.int_inv]
    simp only [Option.map_eq_some_iff] at g
    obtain ⟨i, g1, rfl⟩ := g
    refine ⟨_, ix_list, _, _, _, .int i, rfl, rfl, b.seq h1, ?_, q.at b (.int i)⟩
    unfold L2.atI at g1 ⊢
    rw [List.length_map]
    rename_i ns k
    cases e : ixN ns.length k with
    | none => rw [e] at g1; cases g1
    | some j =>
      rw [e] at g1
      show (ns.map V.int)[j]? = _
      rw [List.getElem?_map, show ns[j]? = some i from g1]
      rfl
  · rw [rx.str_inv, ry.int_inv]
    split at g
    · rename_i hl
      simp only [Option.map_eq_some_iff] at g
      obtain ⟨c, g1, rfl⟩ := g
      exact ⟨_, ix_str, _, _, _, rfl, rfl, hl, g1, q.at b (.str _)⟩
    · cases g
  · cases g
end
section
variable {X : Cx} {Wx : WX} {a b c e : Expr} {es : List Expr} {pos p : Pos} {ma mb mc m : EM} {mr : AM}
theorem two {α : Type} {W : Wd} {σ : L2.St} {B H : Hp} {ρ : En} {k : D → D → R α} {P : α → Prop} {Rr : V → V → Hp → Prop} (ha : PED X Wx a ma) (hb : PED X Wx b mb) (E : EnvOk X.K X.mg W B H σ ρ)
    (h : Post ((ma ρ).bind fun d => (mb ρ).bind fun e => k d e) P (erD X Wx σ B H))
    (f : ∀ d e x y B2 H2, Grow B H B2 H2 → Is X.K X.mg B2 x d → Is X.K X.mg B2 y e → Post (k d e) P (erD X Wx σ B H) → Rr x y H2) : wpE X a σ H fun x H1 => wpE X b σ H1 fun y H2 => Rr x y H2 := by
  refine ha W σ H B ρ E _ (h.bind.mono (fun d _ hd x B1 H1 g1 rx => ?_) fun x h => h)
  exact hb W σ H1 B1 ρ (E.grow g1) _ (hd.bind.mono (fun e _ he y B2 H2 g2 ry => f d e x y B2 H2 (g1.trans g2) (rx.mono g2.bb) ry he) fun x h => h.later g1)
theorem ped_var {i : Nat} {x : Str} (hN : X.N[i]? = some x) (hv : Vis X.env.scope x) (hd : (x == ("__debug__" : Str)) = false := by decide) (hcd : (x == ("__classdict__" : Str)) = false := by decide) : PED X Wx (.Name x pos) (eVar i) := by
  intro W σ H B ρ E Q h
  unfold eVar at h
  split at h
  · rename_i d hd'
    obtain ⟨v, h1, h2⟩ := E.val i d hd'
    exact ⟨_, pe_var hN hv hd hcd, v, h1, okD.at h E.bh h2⟩
  · exact h.elim
theorem ped_int {i j} : PED X Wx (.Constant (.int i) j pos) (eC (.int i)) := fun W σ H B ρ E Q h => ⟨_, pe_int, okD.at h E.bh (.int i)⟩
theorem ped_bl {i j} : PED X Wx (.Constant (.bool i) j pos) (eC (.bl i)) := fun W σ H B ρ E Q h => ⟨_, pe_bl, okD.at h E.bh (.bl i)⟩
theorem ped_non {j} : PED X Wx (.Constant .none j pos) (eC .non) := fun W σ H B ρ E Q h => ⟨_, pe_non, okD.at h E.bh .non⟩
theorem ped_glob {x : Str} {v : V} {u : Value} {d : D} (hg : Gl X x) (hm : X.mg x = some u) (r : RelV v u) (hd : ∀ B, Is X.K X.mg B v d) (hdb : (x == ("__debug__" : Str)) = false := by decide) : PED X Wx (.Name x pos) (eC d) :=
  fun W σ H B ρ E Q h => ⟨_, pe_glob hg hm r hdb, okD.at h E.bh (hd B)⟩
theorem ped_bltn {x : Str} {v : V} {u : Value} {d : D} (hg : Gl X x) (hm : X.mg x = none) (hv : bootBuiltins x = some u) (r : RelV v u) (hd : ∀ B, Is X.K X.mg B v d) (hn : x ≠ "__name__" := by decide) (hdb : (x == ("__debug__" : Str)) = false := by decide) :
    PED X Wx (.Name x pos) (eC d) := fun W σ H B ρ E Q h => ⟨_, pe_bltn hg hm hv r hn hdb, okD.at h E.bh (hd B)⟩
theorem ped_op {op : Operator} {g : D → D → Option D} (ho : OpD X (binaryOp op) g) (ha : PED X Wx a ma) (hb : PED X Wx b mb) : PED X Wx (.BinOp a op b pos) (e2 g ma mb) :=
  fun W σ H B ρ E Q h => ⟨_, pe_op op_wp pe_wp pe_wp, two ha hb E h fun d e x y B2 H2 gr rx ry hk => by
    obtain ⟨d', e1, q⟩ := hk.ofO
    exact ho B2 H2 x y d e d' Q gr.bh rx ry e1 (q.later gr)⟩
theorem ped_const {d : D} (h : PED X Wx e m) (hd : ∀ ρ, m ρ = .ok d) : PED X Wx e (eC d) := fun W σ H B ρ E Q q => h W σ H B ρ E Q (by rw [hd ρ]; exact q)
theorem ped_cmp {op : CmpOp} {g : D → D → Option D} (ho : OpD X (compareOp op) g) (ha : PED X Wx a ma) (hb : PED X Wx b mb) (hm : behindInMarks op b = false) : PED X Wx (.Compare a [op] [b] pos) (e2 g ma mb) :=
  fun W σ H B ρ E Q h => ⟨_, pe_cmpR op_wp pe_wp pe_wp hm, two ha hb E h fun d e x y B2 H2 gr rx ry hk => by
    obtain ⟨d', e1, q⟩ := hk.ofO
    exact ho B2 H2 x y d e d' Q gr.bh rx ry e1 (q.later gr)⟩
theorem ptd_cmp {op : CmpOp} {g : D → D → Option D} (ho : OpD X (compareOp op) g) (ha : PED X Wx a ma) (hb : PED X Wx b mb) (hm : behindInMarks op b = false) : PTD X Wx (.Compare a [op] [b] pos) (mB (e2 g ma mb)) :=
  fun W σ H B ρ E Q h => ⟨_, pt_cmpR op_wp pe_wp pe_wp hm, by
    have h' : Post ((ma ρ).bind fun d => (mb ρ).bind fun e => (R.ofO (g d e)).bind fun x => R.ofO (asB x)) (okT B H Q) (erD X Wx σ B H) := by
      have := h
      unfold GD.mB e2 at this
      cases hm : ma ρ with
      | ok d =>
        rw [hm] at this
        cases hn : mb ρ with
        | ok e => rw [hn] at this; exact this
        | er x => rw [hn] at this; exact this
        | st => rw [hn] at this; exact this
      | er x => rw [hm] at this; exact this
      | st => rw [hm] at this; exact this
    exact two ha hb E h' fun d e x y B2 H2 gr rx ry hk => by
      obtain ⟨d', e1, q⟩ := hk.bind.ofO
      refine ho B2 H2 x y d e d' _ gr.bh rx ry e1 fun v B3 H3 g3 r3 => ?_
      obtain ⟨k, e2, q2⟩ := q.ofO
      cases d' with
      | bl k' =>
        obtain rfl : k' = k := Option.some.inj e2
        exact ⟨k', r3.bl_inv, q2 B3 H3 (gr.trans g3)⟩
      | _ => cases e2⟩
theorem ped_un {op : UnaryOp} {r : V → Hp → VK → Prop} {g : D → Option D} (hu : UnR X (unaryOp op) r) (ho : ∀ B H x d d' Q, Same B H → Is X.K X.mg B x d → g d = some d' → okD X B H Q d' → r x H Q) (ha : PED X Wx a ma) : PED X Wx (.UnaryOp op a pos) (e1 g ma) :=
  fun W σ H B ρ E Q h => ⟨_, pe_un hu pe_wp, ha W σ H B ρ E _ ((show Post ((ma ρ).bind fun x => R.ofO (g x)) _ _ from h).bind.mono (fun d _ hd x B1 H1 g1 rx => by
    obtain ⟨d', e1, q⟩ := hd.ofO
    exact ho B1 H1 x d d' Q g1.bh rx e1 (q.later g1)) fun x h => h)⟩
theorem ped_neg (ha : PED X Wx a ma) : PED X Wx (.UnaryOp .USub a pos) (e1 dNeg ma) := ped_un un_neg (fun B H x d d' Q b r g q => by
  unfold dNeg at g
  split at g
  · cases g
    rw [r.int_inv]
    exact ⟨_, rfl, q.at b (.int _)⟩
  · cases g) ha
theorem ped_ix (ha : PED X Wx a ma) (hb : PED X Wx b mb) (hs : PlainIx b) : PED X Wx (.Subscript a b pos) (e2 dAt ma mb) :=
  fun W σ H B ρ E Q h => ⟨_, pe_ix ix_wp pe_wp pe_wp hs, two ha hb E h fun d e x y B2 H2 gr rx ry hk => by
    obtain ⟨d', e1, q⟩ := hk.ofO
    exact ixd gr.bh rx ry e1 (q.later gr)⟩
theorem ptd_val (ha : PED X Wx a ma) (he : ∀ whole, isTrue a X.env whole = (do let v ← whole; standAt a.pos; holding [v] (truthy v))) : PTD X Wx a (GD.mB ma) :=
  fun W σ H B ρ E Q h => ⟨_, pt_val pe_wp he, ha W σ H B ρ E _ ((show Post ((ma ρ).bind fun x => R.ofO (asB x)) _ _ from h).bind.mono (fun d _ hd x B1 H1 g1 rx => by
    obtain ⟨k, e1, q⟩ := hd.ofO
    cases d with
    | bl k' =>
      obtain rfl : k' = k := Option.some.inj e1
      exact ⟨k', rx.bl_inv, q B1 H1 g1⟩
    | _ => cases e1) fun x h => h)⟩
variable {t u : TM} {rest : List Expr}
theorem ptd_not (ha : PTD X Wx a t) : PTD X Wx (.UnaryOp .Not a pos) (GD.mNot t) :=
  fun W σ H B ρ E Q h => ⟨_, pt_not pt_wp, ha W σ H B ρ E _ ((show Post ((t ρ).bind fun b => R.ok (!b)) _ _ from h).bind.mono (fun b _ hb B1 H1 g1 => (show okT B H Q (!b) from hb) B1 H1 g1) fun x h => h)⟩
def wpW (X : Cx) (e : Expr) : TT := fun σ H Q => ∃ t, PW X e t ∧ t σ H Q
theorem pw_wp : PW X e (wpW X e) := ⟨fun wh pins s σ H Q I ⟨_, h, q⟩ => h.run wh pins s σ H Q I q⟩
def PWD (X : Cx) (Wx : WX) (e : Expr) (m : TM) : Prop := ∀ W σ H B ρ, EnvOk X.K X.mg W B H σ ρ → ∀ Q, Post (m ρ) (okT B H Q) (erD X Wx σ B H) → wpW X e σ H Q
theorem pwd_pt (h : PWD X Wx e t) : PTD X Wx e t := fun W σ H B ρ E Q q => let ⟨r, h1, h2⟩ := h W σ H B ρ E Q q; ⟨r, h1.pt, h2⟩
theorem pwd_and1 (ha : PTD X Wx a t) : PWD X Wx (.BoolOp .And [a] pos) t := fun W σ H B ρ E Q h => ⟨_, pw_and1 pt_wp, ha W σ H B ρ E Q h⟩
theorem pwd_or1 (ha : PTD X Wx a t) : PWD X Wx (.BoolOp .Or [a] pos) t := fun W σ H B ρ E Q h => ⟨_, pw_or1 pt_wp, ha W σ H B ρ E Q h⟩
theorem pwd_and (ha : PTD X Wx a t) (hb : PWD X Wx (.BoolOp .And (b :: rest) pos) u) : PWD X Wx (.BoolOp .And (a :: b :: rest) pos) (GD.mAnd t u) :=
  fun W σ H B ρ E Q h => ⟨_, pw_and pt_wp pw_wp, ha W σ H B ρ E _ ((show Post ((t ρ).bind fun b => if b = true then u ρ else .ok false) _ _ from h).bind.mono (fun k _ hk B1 H1 g1 => by
    cases k with
    | true =>
      rw [if_pos rfl] at hk ⊢
      exact hb W σ H1 B1 ρ (E.grow g1) Q (hk.mono (fun _ _ q => q.later g1) fun _ q => q.later g1)
    | false =>
      rw [if_neg Bool.false_ne_true] at hk ⊢
      exact (show okT B H Q false from hk) B1 H1 g1) fun x h => h)⟩
theorem pwd_or (ha : PTD X Wx a t) (hb : PWD X Wx (.BoolOp .Or (b :: rest) pos) u) : PWD X Wx (.BoolOp .Or (a :: b :: rest) pos) (GD.mOr t u) :=
  fun W σ H B ρ E Q h => ⟨_, pw_or pt_wp pw_wp, ha W σ H B ρ E _ ((show Post ((t ρ).bind fun b => if b = true then .ok true else u ρ) _ _ from h).bind.mono (fun k _ hk B1 H1 g1 => by
    cases k with
    | false =>
      rw [if_neg Bool.false_ne_true] at hk ⊢
      exact hb W σ H1 B1 ρ (E.grow g1) Q (hk.mono (fun _ _ q => q.later g1) fun _ q => q.later g1)
    | true =>
      rw [if_pos rfl] at hk ⊢
      exact (show okT B H Q true from hk) B1 H1 g1) fun x h => h)⟩
theorem postB {W : Wd} {σ : L2.St} {B H : Hp} {α : Type} {k : Bool → R α} {P : α → Prop} {ρ : En} (h : Post ((GD.mB ma ρ).bind k) P (erD X Wx σ B H)) :
    Post (ma ρ) (fun d => ∃ b, d = .bl b ∧ Post (k b) P (erD X Wx σ B H)) (erD X Wx σ B H) := by
  unfold GD.mB at h
  cases e : ma ρ with
  | ok d =>
    rw [e] at h
    cases d with
    | bl b => exact ⟨b, rfl, h⟩
    | _ => exact False.elim h
  | er x => rw [e] at h; exact h
  | st => rw [e] at h; exact h
theorem ped_not (ha : PED X Wx a ma) : PED X Wx (.UnaryOp .Not a pos) (eNot ma) :=
  fun W σ H B ρ E Q h => ⟨_, pe_not pe_wp, ha W σ H B ρ E _ ((postB (W := W) h).mono (fun d _ ⟨b, e, q⟩ x B1 H1 g1 rx => by
    subst e
    exact ⟨b, rx.bl_inv, okD.at ((show okD X B H Q (.bl (!b)) from q).later g1) g1.bh (.bl _)⟩) fun x h => h)⟩
theorem ped_one {op} (ha : PED X Wx a ma) : PED X Wx (.BoolOp op [a] pos) ma := fun W σ H B ρ E Q h => ⟨_, pe_one pe_wp, ha W σ H B ρ E Q h⟩
theorem ped_and (ha : PED X Wx a ma) (hb : PED X Wx (.BoolOp .And (b :: rest) pos) mb) : PED X Wx (.BoolOp .And (a :: b :: rest) pos) (eAnd ma mb) :=
  fun W σ H B ρ E Q h => ⟨_, pe_and pe_wp pe_wp, ha W σ H B ρ E _ ((postB (W := W) h).mono (fun d _ ⟨k, e, q⟩ x B1 H1 g1 rx => by
    subst e
    refine ⟨k, rx.bl_inv, ?_⟩
    cases k with
    | true =>
      rw [if_pos rfl] at q ⊢
      exact hb W σ H1 B1 ρ (E.grow g1) Q (q.mono (fun _ _ q => q.later g1) fun _ q => q.later g1)
    | false =>
      rw [if_neg Bool.false_ne_true] at q ⊢
      exact okD.at ((show okD X B H Q (.bl false) from q).later g1) g1.bh (.bl _)) fun x h => h)⟩
theorem pad_nil : PAD X Wx [] aNil := fun W σ H B ρ E Q h => ⟨_, pa_nil, h [] B H (Grow.refl E.bh) .nil⟩
theorem pad_cons (ha : PED X Wx a ma) (hr : PAD X Wx es mr) (hs : starEach (a :: es) X.env = (false, eval a X.env) :: starEach es X.env := by rfl) : PAD X Wx (a :: es) (aCons ma mr) :=
  fun W σ H B ρ E Q h => ⟨_, pa_cons pe_wp pa_wp hs, ha W σ H B ρ E _ ((show Post ((ma ρ).bind fun x => (mr ρ).bind fun xs => R.ok (x :: xs)) _ _ from h).bind.mono (fun d _ hd x B1 H1 g1 rx =>
    hr W σ H1 B1 ρ (E.grow g1) _ (hd.bind.mono (fun ds _ hds vs B2 H2 g2 r2 => (show okA X B H Q (d :: ds) from hds) _ B2 H2 (g1.trans g2) (.cons (rx.mono g2.bb) r2)) fun x h => h.later g1)) fun x h => h)⟩
theorem ped_tup {k} (h : PAD X Wx es mr) : PED X Wx (.Tuple es k pos) (eTup mr) :=
  fun W σ H B ρ E Q hq => ⟨_, pe_tup pa_wp, h W σ H B ρ E _ ((show Post ((mr ρ).bind fun ds => if ds.length ≤ sizeLine then R.ok (D.tup ds) else R.st) _ _ from hq).bind.mono (fun ds _ hd vs B1 H1 g1 r1 => by
    by_cases hl : ds.length ≤ sizeLine
    · rw [if_pos hl] at hd
      exact ⟨by rw [r1.length]; exact hl, fun p hp => okD.nt ((show okD X B H Q (.tup ds) from hd).later g1) g1.bh hp r1⟩
    · rw [if_neg hl] at hd
      exact hd.elim) fun x h => h)⟩
theorem okF.nl {B H : Hp} {Q : VK} {ds : List D} {xs : List V} {p : Addr} (h : okF X B H Q ds) (e : Same B H) (n : H p = none) (r : IsL X.K X.mg B xs ds) : Q (.ref p) (upd H p (.lst xs)) :=
  h p xs B _ (Grow.own e n) n upd_same (by
    cases q : B p with
    | none => rfl
    | some o => rw [e p o q] at n; cases n) r
theorem pfd_lst (h : PAD X Wx es mr) : PFD X Wx (.List es pos) (aLst mr) :=
  fun W σ H B ρ E Q hq => ⟨_, pe_lst pa_wp, h W σ H B ρ E _ ((show Post ((mr ρ).bind fun ds => if ds.length ≤ sizeLine then R.ok ds else R.st) _ _ from hq).bind.mono (fun ds _ hd vs B1 H1 g1 r1 => by
    by_cases hl : ds.length ≤ sizeLine
    · rw [if_pos hl] at hd
      exact ⟨by rw [r1.length]; exact hl, fun p hp => okF.nl ((show okF X B H Q ds from hd).later g1) g1.bh hp r1⟩
    · rw [if_neg hl] at hd
      exact hd.elim) fun x h => h)⟩
theorem ped_new {mf : AM} (h : PFD X Wx e mf) : PED X Wx e (eL mf) :=
  fun W σ H B ρ E Q hq => h W σ H B ρ E Q ((show Post ((mf ρ).bind fun ds => R.ok (D.lst ds)) _ _ from hq).bind.mono (fun ds _ hd p xs B1 H1 g n e1 nb r => by
    have nb' : ∀ q u, B1 q = some u → q ≠ p := fun q u e z => by rw [z, nb] at e; cases e
    have s1 : Same B1 (upd B1 p (.lst xs)) := fun q u e => by rw [upd_ne (nb' q u e)]; exact e
    refine (show okD X B H Q (.lst ds) from hd) _ (upd B1 p (.lst xs)) H1 ⟨g.bb.trans s1, g.hh, fun q u e => ?_, fun q u e tt z => ?_⟩ (.lst upd_same (r.mono s1))
    · by_cases hq : q = p
      · subst hq; rw [upd_same] at e; rw [e1, e]
      · rw [upd_ne hq] at e; exact g.bh q u e
    · rw [upd_ne (ne_of_none e n)]
      exact g.sep q u e tt z) fun x h => h)
def spD (K : PySem.W.Frag) (mg : Str → Option Value) (n : Nat) (F : List D → R D) : Sp := fun vs H Q E => ∃ B ds, Same B H ∧ ds.length = n ∧ IsL K mg B vs ds ∧
  Post (F ds) (fun d => ∀ v B' H', Grow B H B' H' → Is K mg B' v d → Q v H') (fun x => ∀ cls B' H', mg x = some cls → Grow B H B' H' → E cls none H')
def FnD (P : Program) (w : World) (K : PySem.W.Frag) (mg : Str → Option Value) (base : Heap) (k : Nat) (x : Str) (ps : List Str) (F : List D → R D) : Prop :=
  ∃ f fd, mg x = some (.ref f) ∧ PySem.W.keepIn K (.ref f) = true ∧ Binds K fd ps [] ∧ FnOk P w K mg base (L2.CX P w) k f fd ps (spD K mg ps.length F)
theorem ped_call {k : Nat} {x : Str} {ps : List Str} {F : List D → R D} (hF : FnD X.prog X.w X.K X.mg X.base k x ps F) (hr : Room k X.A) (tk : Takes X Wx) (hg : Gl X x) (ha : PAD X Wx (a :: es) (aCons ma mr)) (hn : ∀ ρ ds, aCons ma mr ρ = .ok ds → ds.length = ps.length)
    (hdb : (x == ("__debug__" : Str)) = false := by decide) (he : starEach (a :: es) X.env = (false, eval a X.env) :: starEach es X.env := by rfl) (hpl : (backTo pos (starEach es X.env)).any (·.1) = false := by rfl) :
    PED X Wx (.Call (.Name x p) (a :: es) [] pos) (eF F (aCons ma mr)) := by
  obtain ⟨f, fd, hm, hk, hb, hf⟩ := hF
  intro W σ H B ρ E Q h
  refine ⟨_, pe_callS hf hr hg hm hk hb (fun σ => passAt tk σ) pa_wp hdb he hpl, ?_⟩
  refine ha W σ H B ρ E _ ((show Post ((aCons ma mr ρ).bind F) _ _ from h).bind.mono (fun ds hds hd vs B1 H1 g1 r1 => ?_) fun x h => h)
  exact ⟨B1, ds, g1.bh, hn ρ ds hds, r1, hd.mono (fun d _ q v B2 H2 g2 r2 => q v B2 H2 (g1.trans g2) r2) fun x q cls B2 H2 e g2 => q cls B2 H2 e (g1.trans g2)⟩
theorem aCons_len {n : Nat} (h : ∀ ρ ds, mr ρ = .ok ds → ds.length = n) : ∀ ρ ds, aCons ma mr ρ = .ok ds → ds.length = n + 1 := by
  intro ρ ds e
  unfold aCons at e
  cases h1 : ma ρ with
  | ok d =>
    rw [h1] at e
    cases h2 : mr ρ with
    | ok xs =>
      rw [h2] at e
      cases e
      rw [List.length_cons, h ρ xs h2]
    | er x => rw [h2] at e; cases e
    | st => rw [h2] at e; cases e
  | er x => rw [h1] at e; cases e
  | st => rw [h1] at e; cases e
theorem aNil_len : ∀ (ρ : En) ds, aNil ρ = .ok ds → ds.length = 0 := by
  intro ρ ds e
  cases e
  rfl
def CallD (X : Cx) (f : Value) (g : List D → Option D) : Prop := ∀ B H vs ds d' Q, Same B H → IsL X.K X.mg B vs ds → g ds = some d' → okD X B H Q d' → ∃ r, CallR X f r ∧ r vs H Q
def wpC (X : Cx) (f : Value) : List V → Hp → VK → Prop := fun vs H Q => ∃ r, CallR X f r ∧ r vs H Q
theorem call_wp {f : Value} : CallR X f (wpC X f) := fun pins s σ H xs us Q I r ⟨_, h, q⟩ => h pins s σ H xs us Q I r q
theorem ped_callB {x : Str} {id : String} {g : List D → Option D} (hc : CallD X (.builtin id) g) (hg : Gl X x) (hm : X.mg x = none) (hv : bootBuiltins x = some (.builtin id)) (ha : PAD X Wx (a :: es) mr) (hn : x ≠ "__name__" := by decide) (hdb : (x == ("__debug__" : Str)) = false := by decide)
    (he : starEach (a :: es) X.env = (false, eval a X.env) :: starEach es X.env := by rfl) (hpl : (backTo pos (starEach es X.env)).any (·.1) = false := by rfl) : PED X Wx (.Call (.Name x p) (a :: es) [] pos) (eB g mr) :=
  fun W σ H B ρ E Q h => ⟨_, pe_callB call_wp hg hm hv pa_wp hn hdb he hpl, ha W σ H B ρ E _ ((show Post ((mr ρ).bind fun ds => R.ofO (g ds)) _ _ from h).bind.mono (fun ds _ hd vs B1 H1 g1 r1 => by
    obtain ⟨d', e1, q⟩ := hd.ofO
    exact hc B1 H1 vs ds d' Q g1.bh r1 e1 (q.later g1)) fun x h => h)⟩
theorem ped_callT {x : Str} {T : String} {g : List D → Option D} (hc : CallD X (.type T) g) (hg : Gl X x) (hm : X.mg x = none) (hv : bootBuiltins x = some (.type T)) (ha : PAD X Wx (a :: es) mr) (hn : x ≠ "__name__" := by decide) (hdb : (x == ("__debug__" : Str)) = false := by decide)
    (he : starEach (a :: es) X.env = (false, eval a X.env) :: starEach es X.env := by rfl) (hpl : (backTo pos (starEach es X.env)).any (·.1) = false := by rfl) : PED X Wx (.Call (.Name x p) (a :: es) [] pos) (eB g mr) :=
  fun W σ H B ρ E Q h => ⟨_, pe_callTy call_wp hg hm hv pa_wp hn hdb he hpl, ha W σ H B ρ E _ ((show Post ((mr ρ).bind fun ds => R.ofO (g ds)) _ _ from h).bind.mono (fun ds _ hd vs B1 H1 g1 r1 => by
    obtain ⟨d', e1, q⟩ := hd.ofO
    exact hc B1 H1 vs ds d' Q g1.bh r1 e1 (q.later g1)) fun x h => h)⟩
end
def sNil : SM := fun ρ => .nx ρ
def sSeq (a b : SM) : SM := fun ρ => match a ρ with
  | .nx ρ' => b ρ'
  | o => o
def ofR {α : Type} (r : R α) (ρ : En) (k : α → Out) : Out := match r with
  | .ok a => k a
  | .er x => .er x ρ
  | .st => .st
def sIf (t : TM) (a b : SM) : SM := fun ρ => ofR (t ρ) ρ fun c => if c = true then a ρ else b ρ
def sAsg (i : Nat) (m : EM) : SM := fun ρ => ofR (m ρ) ρ fun d => .nx (ρ.set i (.v d))
def sRet (m : EM) : SM := fun ρ => ofR (m ρ) ρ .rt
def sRetN : SM := fun _ => .rt .non
def sExpr (m : EM) : SM := fun ρ => ofR (m ρ) ρ fun _ => .nx ρ
def sRaise (x : Str) : SM := fun ρ => .er x ρ
def sOwn (i : Nat) (m : AM) : SM := fun ρ => ofR (m ρ) ρ fun ds => .nx (ρ.set i (.l ds))
def sFrz (i : Nat) (a : SM) : SM := fun ρ => a (frz i ρ)
def gNm (i : Nat) : D → En → Option En := fun d ρ => some (ρ.set i (.v d))
def gsNil : List D → En → Option En := fun ds ρ => match ds with
  | [] => some ρ
  | _ => none
def gsCons (g : D → En → Option En) (gs : List D → En → Option En) : List D → En → Option En := fun ds ρ => match ds with
  | d :: r => (g d ρ).bind fun ρ' => gs r ρ'
  | [] => none
def gTp (gs : List D → En → Option En) : D → En → Option En := fun d ρ => match d with
  | .tup ds => gs ds ρ
  | _ => none
def sTgt (g : D → En → Option En) (m : EM) : SM := fun ρ => ofR (m ρ) ρ fun d => match g d ρ with
  | some ρ' => .nx ρ'
  | none => .st
def sPar (i j : Nat) (ma mb : EM) : SM := fun ρ => ofR ((ma ρ).bind fun x => (mb ρ).bind fun y => .ok (x, y)) ρ fun p => .nx ((ρ.set i (.v p.1)).set j (.v p.2))
def loop (g : D → En → Option En) (body : SM) : List D → En → Out
  | [], ρ => .nx ρ
  | d :: r, ρ => match g d ρ with
    | none => .st
    | some ρ' => match body ρ' with
      | .nx ρ2 => loop g body r ρ2
      | .ct ρ2 => loop g body r ρ2
      | .bk ρ2 => .nx ρ2
      | o => o
def asL : D → Option (List D)
  | .lst ds => some ds
  | .scr ns => some (ns.map D.int)
  | _ => none
def asT : D → Option (List D)
  | .tup ds => some ds
  | _ => none
def sFor (g : D → En → Option En) (f : D → Option (List D)) (m : EM) (body : SM) : SM := fun ρ => ofR ((m ρ).bind fun d => R.ofO (f d)) ρ fun ds => loop g body ds ρ
def rg (a c : Int) (n : Nat) : List D := (List.range n).map fun i => D.int (a + (i : Nat) * c)
def dRange : List D → Option (List D)
  | [.int j] => if -(2 ^ 62) ≤ j ∧ j < 2 ^ 62 then some (rg 0 1 j.toNat) else none
  | [.int i, .int j] => if -(2 ^ 62) ≤ i ∧ i < 2 ^ 62 ∧ -(2 ^ 62) ≤ j ∧ j < 2 ^ 62 then some (rg i 1 (j - i).toNat) else none
  | [.int i, .int j, .int c] => if c ≠ 0 ∧ c.natAbs < 1073741824 ∧ Builtin.Range.small i j c = true ∧ 0 ≤ Builtin.Range.rangeSize i j c then some (rg i c (Builtin.Range.rangeSize i j c).toNat) else none
  | _ => none
def sForR (g : D → En → Option En) (m : AM) (body : SM) : SM := fun ρ => ofR ((m ρ).bind fun ds => R.ofO (dRange ds)) ρ fun ds => loop g body ds ρ
def whileN (t : TM) (body : SM) : Nat → En → Out
  | 0, _ => .st
  | n + 1, ρ => ofR (t ρ) ρ fun c => if c = true then (match body ρ with
      | .nx ρ2 => whileN t body n ρ2
      | .ct ρ2 => whileN t body n ρ2
      | .bk ρ2 => .nx ρ2
      | o => o) else .nx ρ
def sWhile (fuel : En → Nat) (t : TM) (body : SM) : SM := fun ρ => whileN t body (fuel ρ) ρ
def sApp (i : Nat) (m : EM) : SM := fun ρ => match ρ[i]? with
  | some (.l ds) => ofR (m ρ) ρ fun d => if ds.length < sizeLine then .nx (ρ.set i (.l (ds ++ [d]))) else .st
  | _ => .st
def sPop (i : Nat) : SM := fun ρ => match ρ[i]? with
  | some (.l ds) => if ds = [] then .st else .nx (ρ.set i (.l ds.dropLast))
  | _ => .st
def runF (n : Nat) (m : SM) (ds : List D) : R D := match m (ds.map Sl.v ++ List.replicate (n - ds.length) Sl.un) with
  | .rt d => .ok d
  | .nx _ => .ok .non
  | .er x _ => .er x
  | _ => .st
section
variable {X : Cx} {Wx : WX} {W : Wd} {a b c e : Expr} {es : List Expr} {st : Stmt} {ss ts : List Stmt} {pos p : Pos} {ma mb m : EM} {mr mf : AM} {t : TM} {sa sb sc : SM} {σ : L2.St} {B H : Hp} {ρ : En} {D : Ends}
theorem PostS.ofR {α : Type} {r : R α} {k : α → Out} (h : PostS X W Wx (GD.ofR r ρ k) D) (E : EnvOk X.K X.mg W B H σ ρ) : Post r (fun x => PostS X W Wx (k x) D) (erD X Wx σ B H) := by
  cases r with
  | ok x => exact h
  | er x => exact fun cls B' H' e g => h cls σ B' H' e (E.grow g)
  | st => exact h
theorem pbd_nil : PBD X Wx [] sNil := fun W σ H B ρ E D h => ⟨_, pss_nil, (show PostS X W Wx (.nx ρ) D from h) σ B H E⟩
theorem pbd_cons (h1 : PSD X Wx st sa) (h2 : PBD X Wx ss sb) : PBD X Wx (st :: ss) (sSeq sa sb) :=
  fun W σ H B ρ E D h => ⟨_, pss_cons ps_wp pb_wp, h1 W σ H B ρ E { D with nx := wpB X ss D } (by
    unfold sSeq at h
    cases e : sa ρ with
    | nx ρ' =>
      rw [e] at h
      exact fun σ' B' H' E' => h2 W σ' H' B' ρ' E' D h
    | rt d => rw [e] at h; exact h
    | bk ρ' => rw [e] at h; exact h
    | ct ρ' => rw [e] at h; exact h
    | er x ρ' => rw [e] at h; exact h
    | st => rw [e] at h; exact h)⟩
theorem pbd_one (h1 : PSD X Wx st sa) : PBD X Wx [st] sa := fun W σ H B ρ E D h => ⟨_, pss_one ps_wp, h1 W σ H B ρ E D h⟩
theorem psd_frz (i : Nat) (h : PSD X Wx st sa) : PSD X Wx st (sFrz i sa) := fun W σ H B ρ E D q =>
  let ⟨B', E'⟩ := E.frz i
  h W σ H B' _ E' D q
theorem psd_ret (h : PED X Wx e m) : PSD X Wx (.Return (some e) pos) (sRet m) := fun W σ H B ρ E D q =>
  ⟨_, ps_ret pe_wp, h W σ H B ρ E _ ((PostS.ofR q E).mono (fun d _ hd v B' H' g r => (show PostS X W Wx (.rt d) D from hd) v B' H' (E.gr.trans g) r) fun _ z => z)⟩
theorem psd_if (hc : PTD X Wx c t) (ha : PBD X Wx ss sa) (hb : PBD X Wx ts sb) : PSD X Wx (.If c ss ts pos) (sIf t sa sb) := fun W σ H B ρ E D q =>
  ⟨_, ps_if pt_wp pb_wp pb_wp, hc W σ H B ρ E _ ((PostS.ofR q E).mono (fun k _ hk B' H' g => by
    cases k with
    | true =>
      rw [if_pos rfl] at hk ⊢
      exact ha W σ H' B' ρ (E.grow g) D hk
    | false =>
      rw [if_neg Bool.false_ne_true] at hk ⊢
      exact hb W σ H' B' ρ (E.grow g) D hk) fun _ z => z)⟩
theorem psd_set {i : Nat} {x : Str} {pos' : Pos} (hN : X.N.Nodup) (hi : X.N[i]? = some x) (hx : Loc X.env.scope x) (h : PED X Wx e m) (hs : swapsWith e (some (.Name x pos')) pos.line X.env = pure false := by rfl)
    (hf : X.fn x = true ∨ X.env.scope.names.lookup x = some .local := by first | exact .inl rfl | exact .inr rfl | assumption) : PSD X Wx (.Assign [.Name x pos'] e pos) (sAsg i m) := fun W σ H B ρ E D q =>
  ⟨_, ps_set hN hi hx pe_wp hs hf, h W σ H B ρ E _ ((PostS.ofR q E).mono (fun d _ hd v B' H' g r => (show PostS X W Wx (.nx (ρ.set i (.v d))) D from hd) _ B' H' ((E.grow g).set r)) fun _ z => z)⟩
theorem psd_own {i : Nat} {x : Str} {pos' : Pos} (hN : X.N.Nodup) (hi : X.N[i]? = some x) (hx : Loc X.env.scope x) (h : PFD X Wx e mf) (hs : swapsWith e (some (.Name x pos')) pos.line X.env = pure false := by rfl)
    (hf : X.fn x = true ∨ X.env.scope.names.lookup x = some .local := by first | exact .inl rfl | exact .inr rfl | assumption) : PSD X Wx (.Assign [.Name x pos'] e pos) (sOwn i mf) := fun W σ H B ρ E D q =>
  ⟨_, ps_set hN hi hx pe_wp hs hf, h W σ H B ρ E _ ((PostS.ofR q E).mono (fun ds _ hd p xs B' H' g n e1 nb r => (show PostS X W Wx (.nx (ρ.set i (.l ds))) D from hd) _ B' H' ((E.grow g).setL e1 nb (by
    cases q : W.H p with
    | none => rfl
    | some o => rw [E.gr.hh p o q] at n; cases n) (fun j fs hj _ z => by
      obtain ⟨p', ys, h1, h2, _⟩ := E.own j fs hj
      rw [z] at h1
      cases h1
      rw [n] at h2
      cases h2) r)) fun _ z => z)⟩
def wpG (X : Cx) (tg : Expr) : TG := fun v σ H Q => ∃ t, PG X tg t ∧ t v σ H Q
theorem pg_wp {tg : Expr} : PG X tg (wpG X tg) := ⟨fun pins s σ H v u Q I r ⟨_, h, q⟩ => h.run pins s σ H v u Q I r q⟩
def wpGs (X : Cx) (tgs : List Expr) : TGs := fun v σ H Q => ∃ t, PGs X tgs t ∧ t v σ H Q
theorem pgs_wp {tgs : List Expr} : PGs X tgs (wpGs X tgs) := ⟨fun pins s σ H v u Q I r ⟨_, h, q⟩ => h.run pins s σ H v u Q I r q⟩
def PGD (X : Cx) (tg : Expr) (g : GD.D → En → Option En) : Prop := ∀ W σ H B ρ ρ' d v, EnvOk X.K X.mg W B H σ ρ → Is X.K X.mg B v d → g d ρ = some ρ' → ∀ Q : L2.St → Hp → Prop, (∀ σ', EnvOk X.K X.mg W B H σ' ρ' → Q σ' H) → wpG X tg v σ H Q
theorem pgd_name {i : Nat} {x : Str} (hN : X.N.Nodup) (hi : X.N[i]? = some x) (hx : Loc X.env.scope x) (hf : X.fn x = true ∨ X.env.scope.names.lookup x = some .local := by first | exact .inl rfl | exact .inr rfl | assumption) : PGD X (.Name x pos) (gNm i) := by
  intro W σ H B ρ ρ' d v E r g Q q
  cases g
  exact ⟨_, pg_name hN hi hx hf, q _ (E.set r)⟩
theorem gs_len {gs : List GD.D → En → Option En} (n : Nat) (h : ∀ ds ρ ρ', gs ds ρ = some ρ' → ds.length = n) {g : GD.D → En → Option En} : ∀ ds ρ ρ', gsCons g gs ds ρ = some ρ' → ds.length = n + 1 := by
  intro ds ρ ρ' e
  cases ds with
  | nil => cases e
  | cons d r =>
    simp only [gsCons, Option.bind_eq_some_iff] at e
    obtain ⟨ρ1, _, e2⟩ := e
    rw [List.length_cons, h r ρ1 ρ' e2]
theorem gs_len0 : ∀ (ds : List GD.D) (ρ ρ' : En), gsNil ds ρ = some ρ' → ds.length = 0 := by
  intro ds ρ ρ' e
  cases ds with
  | nil => rfl
  | cons _ _ => cases e
theorem psd_raise {C : Addr} {bmB : List Value} {Bn newId initId : String} {x s : Str} {j : Nat} {p2 pos2 : Pos} (hc : X.calm = true) (tk : Takes X Wx) (F : ExcBaseFacts Bn newId initId bmB) (q : PySem.W.excIn X.K C bmB newId = true) (gC : X.mg x = some (.ref C)) (kC : PySem.W.keepIn X.K (.ref C) = true)
    (r : Raises X (.ref C)) (hg : Gl X x) (hdb : (x == ("__debug__" : Str)) = false := by decide) : PSD X Wx (.Raise (some (.Call (.Name x p) [.Constant (.str s) j p2] [] pos)) none pos2) (sRaise x) := fun W σ H B ρ E D h =>
  ⟨_, ps_raise hc tk (pmk_own F q gC kC r hg hdb), (show PostS X W Wx (.er x ρ) D from h) _ σ B H gC E⟩
def ends (D : Ends) (N : L2.St → Hp → Prop) : Ends := { D with nx := N, ct := N, bk := D.nx }
theorem loop_turn {g : GD.D → En → Option En} {d : GD.D} {r : List GD.D} {tgt : Expr} {body : List Stmt} {N : L2.St → Hp → Prop} {v : V} (hg : PGD X tgt g) (hb : PBD X Wx body sb) (E : EnvOk X.K X.mg W B H σ ρ) (rv : Is X.K X.mg B v d)
    (q : PostS X W Wx (loop g sb (d :: r) ρ) D) (hN : ∀ σ' B' H' ρ', EnvOk X.K X.mg W B' H' σ' ρ' → PostS X W Wx (loop g sb r ρ') D → N σ' H') :
    wpG X tgt v σ H fun σ2 H2 => wpB X body (ends D N) σ2 H2 := by
  unfold loop at q
  cases eg : g d ρ with
  | none => rw [eg] at q; exact q.elim
  | some ρ1 =>
    rw [eg] at q
    dsimp only at q
    refine hg W σ H B ρ ρ1 d v E rv eg _ fun σ1 E1 => hb W σ1 H B ρ1 E1 _ ?_
    revert q
    cases eb : sb ρ1 with
    | nx ρ2 => exact fun q σ2 B2 H2 E2 => hN σ2 B2 H2 ρ2 E2 q
    | ct ρ2 => exact fun q σ2 B2 H2 E2 => hN σ2 B2 H2 ρ2 E2 q
    | bk ρ2 => exact fun q => q
    | rt d => exact fun q => q
    | er x ρ2 => exact fun q => q
    | st => exact fun q => q
theorem drop_get {α : Type} {l : List α} {i : Nat} {x : α} (h : l[i]? = some x) : l.drop i = x :: l.drop (i + 1) := by
  obtain ⟨hi, e⟩ := List.getElem?_eq_some_iff.mp h
  rw [List.drop_eq_getElem_cons hi, e]
theorem PostS.back {o : Out} (g : Grow W.B W.H B H) (q : PostS X W Wx o D) : PostS X ⟨B, W.H, W.al⟩ Wx o D := by
  cases o with
  | nx ρ => exact fun σ' B' H' E => q σ' B' H' (E.back (B1 := B) g)
  | rt d => exact fun v B' H' gr r => q v B' H' ⟨g.bb.trans gr.bb, gr.hh, gr.bh, fun p o e t n => gr.sep p o e t (g.sep p o e t n)⟩ r
  | bk ρ => exact fun σ' B' H' E => q σ' B' H' (E.back (B1 := B) g)
  | ct ρ => exact fun σ' B' H' E => q σ' B' H' (E.back (B1 := B) g)
  | er x ρ => exact fun cls σ' B' H' e E => q cls σ' B' H' e (E.back (B1 := B) g)
  | st => exact q
theorem psd_forL {tgt : Expr} {body : List Stmt} {g : GD.D → En → Option En} (hp : PassesOwn (model X.prog X.w) X.A X.env X.xe) (hc : X.calm = true) (h : PED X Wx e m) (hg : PGD X tgt g) (hb : PBD X Wx body sb) (hfs : ∀ x, foldedSetIterable e X.env x = pure x := by intro _; rfl) :
    PSD X Wx (.For tgt e body [] pos) (sFor g asL m sb) := fun W σ H B ρ E D q =>
  ⟨_, ps_for (hs := hfs) hp hc (pi_list pe_wp) pg_wp pb_wp, by
    refine h W σ H B ρ E _ ((PostS.ofR q E).bind.mono (fun d _ hd v B1 H1 g1 rv => ?_) fun _ z => z)
    obtain ⟨ds, ed, q1⟩ := hd.ofO
    have E1 := E.grow g1
    have q2 := PostS.back E1.gr q1
    obtain ⟨a, xs, ev, hs, r⟩ : ∃ a xs, v = V.ref a ∧ SqL X.K B1 a xs ∧ IsL X.K X.mg B1 xs ds := by
      cases d with
      | lst ds' =>
        cases ed
        obtain ⟨a, xs, ev, h1, r⟩ := rv.lst_inv
        exact ⟨a, xs, ev, SqL.of h1, r⟩
      | scr ns =>
        cases ed
        obtain ⟨a, ev, h1⟩ := rv.scr_inv
        exact ⟨a, _, ev, h1, IsL.ints ns⟩
      | _ => cases ed
    exact ⟨a, ev, ⟨xs, g1.bh.seq hs⟩, for_list (K := X.K) (a := a) (xs := xs) (fun i σ' H' => ∃ B' ρ', EnvOk X.K X.mg ⟨B1, W.H, W.al⟩ B' H' σ' ρ' ∧ PostS X ⟨B1, W.H, W.al⟩ Wx (loop g sb (ds.drop i) ρ') D)
        ⟨B1, ρ, E1.here, q2⟩ (fun i σ' H' _ ⟨B', ρ', E', _⟩ => (E'.gr.bb.trans E'.gr.bh).seq hs)
        (fun i x σ' H' hx ⟨B', ρ', E', q'⟩ => by
          obtain ⟨d', hd', r'⟩ := r.at hx
          rw [drop_get hd'] at q'
          exact loop_turn hg hb E' (r'.mono E'.gr.bb) q' fun σ2 B2 H2 ρ2 E2 z => ⟨B2, ρ2, E2, z⟩)
        (fun σ' H' ⟨B', ρ', E', q'⟩ => by
          rw [r.length, List.drop_length] at q'
          exact (show PostS X ⟨B1, W.H, W.al⟩ Wx (.nx ρ') D from q') σ' B' H' E')⟩⟩
theorem rg_get {i c : Int} {n k : Nat} (h : k < n) : (rg i c n)[k]? = some (GD.D.int (i + (k : Nat) * c)) := by
  unfold rg
  rw [List.getElem?_map, List.getElem?_range h]
  rfl
theorem rg_len {i c : Int} {n : Nat} : (rg i c n).length = n := by
  unfold rg
  rw [List.length_map, List.length_range]
theorem rg_loop {tgt : Expr} {body : List Stmt} {g : GD.D → En → Option En} {lo c : Int} {n : Nat} {B1 H1 : Hp} (hg : PGD X tgt g) (hb : PBD X Wx body sb) (E : EnvOk X.K X.mg W B1 H1 σ ρ) (q : PostS X W Wx (loop g sb (rg lo c n) ρ) D) :
    (∃ B' ρ', EnvOk X.K X.mg W B' H1 σ ρ' ∧ PostS X W Wx (loop g sb ((rg lo c n).drop 0) ρ') D) ∧
    (∀ (i : Nat) σ' H', i < n → (∃ B' ρ', EnvOk X.K X.mg W B' H' σ' ρ' ∧ PostS X W Wx (loop g sb ((rg lo c n).drop i) ρ') D) →
      wpG X tgt (.int (lo + (i : Nat) * c)) σ' H' fun σ2 H2 => wpB X body (ends D fun σ3 H3 => ∃ B' ρ', EnvOk X.K X.mg W B' H3 σ3 ρ' ∧ PostS X W Wx (loop g sb ((rg lo c n).drop (i + 1)) ρ') D) σ2 H2) ∧
    (∀ σ' H', (∃ B' ρ', EnvOk X.K X.mg W B' H' σ' ρ' ∧ PostS X W Wx (loop g sb ((rg lo c n).drop n) ρ') D) → D.nx σ' H') := by
  refine ⟨⟨B1, ρ, E, q⟩, fun i σ' H' hi ⟨B', ρ', E', q'⟩ => ?_, fun σ' H' ⟨B', ρ', E', q'⟩ => ?_⟩
  · rw [drop_get (rg_get hi)] at q'
    exact loop_turn hg hb E' (.int _) q' fun σ2 B2 H2 ρ2 E2 z => ⟨B2, ρ2, E2, z⟩
  · rw [show (rg lo c n).drop n = [] from by
      rw [List.drop_eq_nil_iff, rg_len]
      exact Nat.le_refl _] at q'
    exact (show PostS X W Wx (.nx ρ') D from q') σ' B' H' E'
theorem psd_for1 {tgt : Expr} {cpos : Pos} {body : List Stmt} {g : GD.D → En → Option En} (hp : PassesOwn (model X.prog X.w) X.A X.env X.xe) (hc : X.calm = true) (hgl : Gl X "range") (hm : X.mg "range" = none) (h : PAD X Wx [a] mr) (hg : PGD X tgt g) (hb : PBD X Wx body sb)
    (hl : ∀ ρ ds, mr ρ = .ok ds → ds.length = 1) (hs : starEach [a] X.env = [(false, eval a X.env)] := by rfl) : PSD X Wx (.For tgt (.Call (.Name "range" p) [a] [] cpos) body [] pos) (sForR g mr sb) := fun W σ H B ρ E D q =>
  ⟨_, ps_for hp hc (pi_range1 hgl hm pa_wp hs) pg_wp pb_wp, by
    refine h W σ H B ρ E _ ((PostS.ofR q E).bind.mono (fun ds eds hd vs B1 H1 g1 rv => ?_) fun _ z => z)
    obtain ⟨rs, ed, q1⟩ := hd.ofO
    have hl1 := hl ρ ds eds
    match ds, hl1, ed, rv with
    | [d], _, ed, rv =>
      cases d with
      | int j =>
        obtain ⟨hj, rfl⟩ := some_ite ed
        cases rv with
        | cons r1 r2 =>
          cases r2
          rw [r1.int_inv]
          obtain ⟨h0, h1, h2⟩ := rg_loop hg hb (E.grow g1) q1
          refine ⟨j, rfl, hj.1, hj.2, for_range (lo := 0) (n := j.toNat) (fun i σ' H' => ∃ B' ρ', EnvOk X.K X.mg W B' H' σ' ρ' ∧ PostS X W Wx (loop g sb ((rg 0 1 j.toNat).drop i) ρ') D) h0 (fun i σ' H' hi p => ?_) h2⟩
          have z := h1 i σ' H' hi p
          rw [Int.mul_one] at z
          exact z
      | _ => cases ed⟩
theorem psd_while {body : List Stmt} {fuel : En → Nat} (hp : PassesOwn (model X.prog X.w) X.A X.env X.xe) (hc : PTD X Wx c t) (hb : PBD X Wx body sb) : PSD X Wx (.While c body [] pos) (sWhile fuel t sb) := fun W σ H B ρ E D q =>
  ⟨_, ps_while hp pt_wp pb_wp, fun m σ' H' => ∃ B' ρ', EnvOk X.K X.mg W B' H' σ' ρ' ∧ PostS X W Wx (whileN t sb m ρ') D, ⟨fuel ρ, B, ρ, E, q⟩, by
    rintro m σ' H' ⟨B', ρ', E', q'⟩
    cases m with
    | zero => exact q'.elim
    | succ m =>
      refine hc W σ' H' B' ρ' E' _ ((PostS.ofR q' E').mono (fun k _ hk B2 H2 g2 => ?_) fun _ z => z)
      cases k with
      | true =>
        rw [if_pos rfl] at hk ⊢
        refine ⟨fun σ3 H3 => ∃ B3 ρ3, EnvOk X.K X.mg W B3 H3 σ3 ρ3 ∧ PostS X W Wx (whileN t sb m ρ3) D, fun σ3 H3 z => ⟨m, Nat.lt_succ_self m, z⟩, hb W σ' H2 B2 ρ' (E'.grow g2) _ ?_⟩
        revert hk
        cases eb : sb ρ' with
        | nx ρ2 => exact fun q σ2 B2 H2 E2 => ⟨B2, ρ2, E2, q⟩
        | ct ρ2 => exact fun q σ2 B2 H2 E2 => ⟨B2, ρ2, E2, q⟩
        | bk ρ2 => exact fun q => q
        | rt d => exact fun q => q
        | er x ρ2 => exact fun q => q
        | st => exact fun q => q
      | false =>
        rw [if_neg Bool.false_ne_true] at hk ⊢
        exact (show PostS X W Wx (.nx ρ') D from hk) σ' B2 H2 (E'.grow g2)⟩
end
theorem env_start {K : PySem.W.Frag} {mg : Str → Option Value} {B H : Hp} {N : List Str} {vs : List V} {ds : List D} (b : Same B H) (r : IsL K mg B vs ds) :
    EnvOk K mg ⟨B, H, []⟩ B H (L2.start N vs) (ds.map Sl.v ++ List.replicate (N.length - ds.length) Sl.un) := by
  have hl := r.length
  refine ⟨Grow.refl b, by simp [L2.start, hl], fun i d h => ?_, fun i es h => ?_, fun i j es fs p h _ _ _ => ?_, fun i t h => ?_⟩
  · by_cases hi : i < ds.length
    · rw [List.getElem?_append_left (by rw [List.length_map]; exact hi), List.getElem?_map] at h
      cases e : ds[i]? with
      | none => rw [e] at h; cases h
      | some d' =>
        rw [e] at h
        cases h
        obtain ⟨v, h1, h2⟩ := r.get e
        exact ⟨v, by unfold L2.start; rw [List.getElem?_append_left (by rw [List.length_map, hl]; exact hi), List.getElem?_map, h1]; rfl, h2⟩
    · rw [List.getElem?_append_right (by rw [List.length_map]; omega), List.getElem?_replicate] at h
      split at h <;> cases h
  all_goals
    by_cases hi : i < ds.length
    · rw [List.getElem?_append_left (by rw [List.length_map]; exact hi), List.getElem?_map] at h
      cases e : ds[i]? with
      | none => rw [e] at h; cases h
      | some d' => rw [e] at h; cases h
    · rw [List.getElem?_append_right (by rw [List.length_map]; omega), List.getElem?_replicate] at h
      split at h <;> cases h
section
variable {P : Program} {w : World} {K : PySem.W.Frag} {mg : Str → Option Value} {base : Heap}
theorem fnOk_mk {x qual : Str} {st : Stmt} {f : Addr} {fd : FuncData} {N ps : List Str} {k : Nat} {m : SM} (F : Fun K x qual st f fd) (S : FnScope N ps (defScope st))
    (hb : ∀ (cdv : Value) (A : Around) (outer : List PySem.Env) (s : Shared) (H : Hp) (E : XK), Room k (A.deeper (envOfC qual (defScope st) s.heap.objs.size f cdv)) →
      PBD (cxOf (L2.CX P w) P w K mg base N qual (defScope st) f cdv A outer s H E) (fun cls d _ H => E cls d H) (defBody st) m) :
    FnOk P w K mg base (L2.CX P w) (k + 1) f fd ps (spD K mg ps.length (runF N.length m)) := by
  refine F.okX S (fun vs H Q E h => ?_) (fun cdv A outer s H vs Q E hr h => ?_)
  · obtain ⟨B, ds, _, hl, r, _⟩ := h
    rw [r.length, hl]
  · obtain ⟨B, ds, b, hl, r, q⟩ := h
    have z := hb cdv A outer s H E hr ⟨B, H, []⟩ (L2.start N vs) H B _ (env_start b r) { nx := fun _ H' => Q .non H', rt := Q } (by
      unfold runF at q
      show PostS _ _ _ (m (ds.map Sl.v ++ List.replicate (N.length - ds.length) Sl.un)) _
      cases e : m (ds.map Sl.v ++ List.replicate (N.length - ds.length) Sl.un) with
      | nx ρ =>
        rw [e] at q
        exact fun σ' B' H' E' => q .non B' H' E'.gr .non
      | rt d => rw [e] at q; exact q
      | bk ρ => rw [e] at q; exact q.elim
      | ct ρ => rw [e] at q; exact q.elim
      | er y ρ =>
        rw [e] at q
        exact fun cls σ' B' H' ec E' => q cls B' H' ec E'.gr
      | st => rw [e] at q; exact q.elim)
    exact z
end
end GD
namespace GD
open PySem PySem.Spec PyProof.Rows L2
def dAbs : List D → Option D
  | [.int i] => some (.int i.natAbs)
  | _ => none
def dMax2 : List D → Option D
  | [.int i, .int j] => some (.int (max i j))
  | _ => none
def dMin2 : List D → Option D
  | [.int i, .int j] => some (.int (min i j))
  | _ => none
def dLen : List D → Option D
  | [.lst ds] => some (.int ds.length)
  | [.tup ds] => some (.int ds.length)
  | [.scr ns] => some (.int ns.length)
  | [.str x] => if x.length ≤ sizeLine then some (.int x.length) else none
  | _ => none
def dInt : List D → Option D
  | [.int i] => some (.int i)
  | [.bl b] => some (.int (if b then 1 else 0))
  | _ => none
def tyName : D → Option String
  | .non => some "NoneType"
  | .bl _ => some "bool"
  | .int _ => some "int"
  | .str _ => some "str"
  | .tup _ => some "tuple"
  | .lst _ => some "list"
  | .scr _ => some "list"
  | .dct _ _ => some "dict"
  | _ => none
def dIsi : List D → Option D
  | [d, .ty n] => (tyName d).bind fun t => (kitB t n).map D.bl
  | _ => none
def asC : List D → Option (List D)
  | [.lst ds] => some ds
  | [.tup ds] => some ds
  | [.scr ns] => some (ns.map D.int)
  | _ => none
def cutL {α : Type} (xs : List α) (lo hi : Option Int) : List α := (xs.drop (HT.sIx xs.length 0 lo)).take (HT.sIx xs.length xs.length hi - HT.sIx xs.length 0 lo)
section
variable {X : Cx} {K : PySem.W.Frag} {mg : Str → Option Value} {B : Hp}
theorem IsL.one_inv {vs : List V} {d : D} (h : IsL K mg B vs [d]) : ∃ v, vs = [v] ∧ Is K mg B v d := by
  cases h with
  | cons h r => cases r; exact ⟨_, rfl, h⟩
theorem IsL.two_inv {vs : List V} {d e : D} (h : IsL K mg B vs [d, e]) : ∃ v u, vs = [v, u] ∧ Is K mg B v d ∧ Is K mg B u e := by
  cases h with
  | cons h r =>
    obtain ⟨u, rfl, h2⟩ := r.one_inv
    exact ⟨_, u, rfl, h, h2⟩
theorem calld_len : CallD X (.builtin "len") dLen := by
  intro B H vs ds d' Q b r g q
  unfold dLen at g
  split at g
  · cases g
    obtain ⟨v, rfl, h⟩ := r.one_inv
    obtain ⟨a, xs, rfl, h1, r1⟩ := h.lst_inv
    refine ⟨_, call_len_seq, a, xs, rfl, .inl (seqL_of b h1), ?_⟩
    rw [r1.length]
    exact q.at b (.int _)
  · cases g
    obtain ⟨v, rfl, h⟩ := r.one_inv
    obtain ⟨a, xs, rfl, h1, r1⟩ := h.tup_inv
    refine ⟨_, call_len_seq, a, xs, rfl, .inr (seqT b h1), ?_⟩
    rw [r1.length]
    exact q.at b (.int _)
  · cases g
    obtain ⟨v, rfl, h⟩ := r.one_inv
    obtain ⟨a, rfl, h1⟩ := h.scr_inv
    refine ⟨_, call_len_seq, a, _, rfl, .inl (b.seq h1), ?_⟩
    rw [List.length_map]
    exact q.at b (.int _)
  · obtain ⟨hl, rfl⟩ := some_ite g
    obtain ⟨v, rfl, h⟩ := r.one_inv
    rw [h.str_inv]
    exact ⟨_, call_len_str, _, rfl, hl, q.at b (.int _)⟩
  · cases g
theorem calld_int : CallD X (.type "int") dInt := by
  intro B H vs ds d' Q b r g q
  unfold dInt at g
  split at g
  · cases g
    obtain ⟨v, rfl, h⟩ := r.one_inv
    rw [h.int_inv]
    exact ⟨_, call_int1, .inl ⟨_, rfl, q.at b (.int _)⟩⟩
  · cases g
    obtain ⟨v, rfl, h⟩ := r.one_inv
    rw [h.bl_inv]
    exact ⟨_, call_int1, .inr ⟨_, rfl, q.at b (.int _)⟩⟩
  · cases g
theorem Is.tyX {H : Hp} (b : Same B H) {v : V} {d : D} {t : String} (h : Is K mg B v d) (e : tyName d = some t) : TyX K H v (.type t) := by
  cases h with
  | non => cases e; exact .base .non
  | bl x => cases e; exact .base (.bl x)
  | int x => cases e; exact .base (.int x)
  | str x => cases e; exact .base (.str x)
  | tup h r => cases e; exact .base (.tup (b _ _ h))
  | tup3 h =>
    cases e
    obtain ⟨o, its, n, h1, h2, _⟩ := h
    exact .kTuple h1 h2
  | lst h r => cases e; exact .base (.lst (b _ _ h))
  | scr h =>
    cases e
    rcases h with (h | ⟨o, h⟩) | ⟨o, its, n, hk, hc, _⟩
    · exact .base (.lst (b _ _ h))
    · exact .base (.frz (b _ _ h))
    · exact .kList hk hc
  | dct h _ _ => cases e; exact .base (.dK (b _ _ h))
  | exc _ _ => cases e
  | ty _ => cases e
  | cls _ => cases e
  | obj _ _ _ _ => cases e
theorem calld_isi : CallD X (.builtin "isinstance") dIsi := by
  intro B H vs ds d' Q b r g q
  unfold dIsi at g
  split at g
  · simp only [Option.bind_eq_some_iff, Option.map_eq_some_iff] at g
    obtain ⟨t, g1, k, g2, rfl⟩ := g
    obtain ⟨v, u, rfl, h, h2⟩ := r.two_inv
    rw [h2.ty_inv]
    exact ⟨_, call_isi, _, _, _, _, k, rfl, .ty _, h.tyX b g1, kit_ty g2, q.at b (.bl _)⟩
  · cases g
end
def aB (g : List D → Option (List D)) (ma : AM) : AM := fun ρ => (ma ρ).bind fun ds => R.ofO (g ds)
def CallF (X : Cx) (f : Value) (g : List D → Option (List D)) : Prop := ∀ B H vs ds es Q, Same B H → IsL X.K X.mg B vs ds → g ds = some es → okF X B H Q es → ∃ r, CallR X f r ∧ r vs H Q
section
variable {X : Cx} {Wx : WX} {a b c e : Expr} {es : List Expr} {pos p p2 : Pos} {ma mb m : EM} {mr : AM}
theorem pfd_callT {x : Str} {T : String} {g : List D → Option (List D)} (hc : CallF X (.type T) g) (hg : Gl X x) (hm : X.mg x = none) (hv : bootBuiltins x = some (.type T)) (ha : PAD X Wx (a :: es) mr) (hn : x ≠ "__name__" := by decide) (hdb : (x == ("__debug__" : Str)) = false := by decide)
    (he : starEach (a :: es) X.env = (false, eval a X.env) :: starEach es X.env := by rfl) (hpl : (backTo pos (starEach es X.env)).any (·.1) = false := by rfl) : PFD X Wx (.Call (.Name x p) (a :: es) [] pos) (aB g mr) :=
  fun W σ H B ρ E Q h => ⟨_, pe_callTy call_wp hg hm hv pa_wp hn hdb he hpl, ha W σ H B ρ E _ ((show Post ((mr ρ).bind fun ds => R.ofO (g ds)) _ _ from h).bind.mono (fun ds _ hd vs B1 H1 g1 r1 => by
    obtain ⟨d', e1, q⟩ := hd.ofO
    exact hc B1 H1 vs ds d' Q g1.bh r1 e1 (q.later g1)) fun x h => h)⟩
theorem callf_list : CallF X (.type "list") asC := by
  intro B H vs ds es Q b r g q
  unfold asC at g
  split at g
  · cases g
    obtain ⟨v, rfl, h⟩ := r.one_inv
    obtain ⟨a, xs, rfl, h1, r1⟩ := h.lst_inv
    exact ⟨_, call_list_of, a, xs, rfl, .inl (seqL_of b h1), fun l hl => q.nl b hl r1⟩
  · cases g
    obtain ⟨v, rfl, h⟩ := r.one_inv
    obtain ⟨a, xs, rfl, h1, r1⟩ := h.tup_inv
    exact ⟨_, call_list_of, a, xs, rfl, .inr (seqT b h1), fun l hl => q.nl b hl r1⟩
  · cases g
    obtain ⟨v, rfl, h⟩ := r.one_inv
    obtain ⟨a, rfl, h1⟩ := h.scr_inv
    exact ⟨_, call_list_of, a, _, rfl, .inl (b.seq h1), fun l hl => q.nl b hl (IsL.ints _)⟩
  · cases g
abbrev OM := En → R (Option Int)
def oNone : OM := fun _ => .ok none
def oSome (m : EM) : OM := fun ρ => (m ρ).bind fun d => match d with
  | .int i => .ok (some i)
  | _ => .st
def wpPO (X : Cx) (o : Option Expr) : TO := fun σ H Q => ∃ t, PO X o t ∧ t σ H Q
theorem po_wp {o : Option Expr} : PO X o (wpPO X o) := ⟨fun pins s σ H Q I ⟨_, h, q⟩ => h.run pins s σ H Q I q⟩
def POD (X : Cx) (Wx : WX) (o : Option Expr) (m : OM) : Prop := ∀ W σ H B ρ, EnvOk X.K X.mg W B H σ ρ → ∀ Q : Option Int → Hp → Prop, Post (m ρ) (fun i => ∀ B' H', Grow B H B' H' → Q i H') (erD X Wx σ B H) → wpPO X o σ H Q
theorem pod_none : POD X Wx none oNone := fun W σ H B ρ E Q h => ⟨_, po_none, h B H (Grow.refl E.bh)⟩
theorem pod_some (h : PED X Wx e m) : POD X Wx (some e) (oSome m) := fun W σ H B ρ E Q q =>
  ⟨_, po_some pe_wp, h W σ H B ρ E _ ((show Post ((m ρ).bind fun d => match d with
    | .int i => R.ok (some i)
    | _ => R.st) _ _ from q).bind.mono (fun d _ hd v B1 H1 g1 r => by
    cases d with
    | int i => exact ⟨i, r.int_inv, (show ∀ B' H', Grow B H B' H' → Q (some i) H' from hd) B1 H1 g1⟩
    | _ => exact hd.elim) fun x h => h)⟩
variable {lo hi : Option Expr} {ml mh : OM}
theorem slice3 {α : Type} {W : Wd} {σ : L2.St} {B H : Hp} {ρ : En} {k : D → Option Int → Option Int → R α} {P : α → Prop} {Rr : V → Option Int → Option Int → Hp → Prop} (ha : PED X Wx a ma) (hl : POD X Wx lo ml) (hh : POD X Wx hi mh) (E : EnvOk X.K X.mg W B H σ ρ)
    (h : Post ((ma ρ).bind fun d => (ml ρ).bind fun i => (mh ρ).bind fun j => k d i j) P (erD X Wx σ B H))
    (f : ∀ d i j x B2 H2, Grow B H B2 H2 → Is X.K X.mg B2 x d → Post (k d i j) P (erD X Wx σ B H) → Rr x i j H2) : wpE X a σ H fun x H1 => wpPO X lo σ H1 fun i H2 => wpPO X hi σ H2 fun j H3 => Rr x i j H3 := by
  refine ha W σ H B ρ E _ (h.bind.mono (fun d _ hd x B1 H1 g1 rx => ?_) fun x h => h)
  refine hl W σ H1 B1 ρ (E.grow g1) _ (hd.bind.mono (fun i _ hi B2 H2 g2 => ?_) fun x h => h.later g1)
  exact hh W σ H2 B2 ρ ((E.grow g1).grow g2) _ (hi.bind.mono (fun j _ hj B3 H3 g3 => f d i j x B3 H3 ((g1.trans g2).trans g3) ((rx.mono g2.bb).mono g3.bb) hj) fun x h => h.later (g1.trans g2))
def aCut (ma : EM) (ml mh : OM) : AM := fun ρ => (ma ρ).bind fun d => (ml ρ).bind fun i => (mh ρ).bind fun j => (R.ofO (asL d)).bind fun ds => .ok (cutL ds i j)
theorem IsL.cut {K : PySem.W.Frag} {mg : Str → Option Value} {B : Hp} {xs : List V} {ds : List D} (r : IsL K mg B xs ds) (lo hi : Option Int) : IsL K mg B (cutV xs lo hi) (cutL ds lo hi) := by
  unfold cutV cutL
  rw [r.length]
  exact (r.drop _).take _
theorem pfd_cut (ha : PED X Wx a ma) (hl : POD X Wx lo ml) (hh : POD X Wx hi mh) : PFD X Wx (.Subscript a (.Slice lo hi none p2) pos) (aCut ma ml mh) :=
  fun W σ H B ρ E Q h => ⟨_, pe_slice sl_list pe_wp po_wp po_wp, slice3 ha hl hh E h fun d i j x B2 H2 g r hk => by
    obtain ⟨ds, e1, q⟩ := hk.bind.ofO
    have q' : okF X B H Q (cutL ds i j) := q
    unfold asL at e1
    split at e1
    · cases e1
      obtain ⟨a1, xs, rfl, h1, r1⟩ := r.lst_inv
      exact ⟨a1, xs, rfl, seqL_of g.bh h1, fun p hp => (q'.later g).nl g.bh hp (r1.cut i j)⟩
    · cases e1
      obtain ⟨a1, rfl, h1⟩ := r.scr_inv
      exact ⟨a1, _, rfl, g.bh.seq h1, fun p hp => (q'.later g).nl g.bh hp ((IsL.ints _).cut i j)⟩
    · cases e1⟩
end
end GD
namespace GD
open PySem PySem.Spec PyProof.Rows L2
theorem bb_len : bootBuiltins "len" = some (.builtin "len") := by decide +kernel
theorem bb_min : bootBuiltins "min" = some (.builtin "min") := by decide +kernel
theorem bb_isinstance : bootBuiltins "isinstance" = some (.builtin "isinstance") := by decide +kernel
theorem bb_int : bootBuiltins "int" = some (.type "int") := by decide +kernel
theorem bb_bool : bootBuiltins "bool" = some (.type "bool") := by decide +kernel
theorem bb_tuple : bootBuiltins "tuple" = some (.type "tuple") := by decide +kernel
theorem bb_list : bootBuiltins "list" = some (.type "list") := by decide +kernel
def fuelI (i : Nat) : En → Nat := fun ρ => match ρ[i]? with
  | some (.v (.int k)) => k.natAbs + 1
  | _ => 0
def spLaw (K : PySem.W.Frag) : Sp := fun vs H Q _ => ∃ (a : Addr) (ns : List Int), vs = [.ref a] ∧ SqL K H a (ns.map V.int) ∧ ns.length ≤ 63 ∧ ∀ H', Q (.bl true) H'
theorem walk {l : PySem.W.OpenLaw} {q : Program} {loose : List Str} {XP : (Str → Option Value) → Heap → Prop} {YP : World → Heap → Prop} {d : DefRec} {K : Params → PySem.W.Frag} {k : Nat} (hn : l.most = some 63) (hdf : d.params.defaults = []) (hr : Room k callerA)
    (hY : ∀ (w : World) (h : Heap), YP w h → (K w.params).In h)
    (F : ∀ (w : World) (mg : Str → Option Value) (fa : Addr) (h : Heap), (K w.params).In h → h.Ns mainGlobals mg → mg d.name = some (.ref fa) →
      ∃ fd : FuncData, (∀ (s : Shared) (u : Value), BindsTo s fd ⟨[u], []⟩ [("script", u)]) ∧ ∀ base : Heap, (K w.params).In base → base.Ns mainGlobals mg → FnOk l.prog w (K w.params) mg base (L2.CX l.prog w) k fa fd ["script"] (spLaw (K w.params))) :
    PySem.W.WalkO q loose XP YP l.row.toRowW d [] (fun f vs => PySem.call f vs) :=
  L2.walk_of (n := 63) (k := k) (x := "script") (CX := fun w => L2.CX l.prog w) (sp := fun w => spLaw (K w.params)) hn (by decide) hdf hr hY F (fun _ _ a ns hl _ hS => ⟨a, ns, rfl, hS, hl, fun _ => rfl⟩) fun w H s e s' z => by
    obtain ⟨_, _, _, _, _, _, _, _, _, _, _, _, z⟩ := z
    exact z
theorem fnd_mk {P : Program} {w : World} {K : PySem.W.Frag} {mg : Str → Option Value} {base : Heap} {k : Nat} {x : Str} {ps : List Str} {F : List D → R D} {f : Addr} {fd : FuncData} (hm : mg x = some (.ref f)) (hk : PySem.W.keepIn K (.ref f) = true) (hb : Binds K fd ps [])
    (h : FnOk P w K mg base (L2.CX P w) k f fd ps (spD K mg ps.length F)) : FnD P w K mg base k x ps F := ⟨f, fd, hm, hk, hb, h⟩
end GD
namespace GD
open PySem PySem.Spec PyProof.Rows L2
open Sem (wp)
section
variable {prog : Program} {w : World} {A : Around} {R : Result → Shared → Prop} {I : Addr} {fp wr : List Addr} {n : Nat} {P : Nat → Value → Prop} {St : Nat → Heap → Prop} {G : Heap}
def CmpG (prog : Program) (w : World) (A : Around) (G : Heap) (P : Nat → Value → Prop) (bt : Nat → Nat → Bool) : Prop :=
  ∀ i j vi vj (s : Shared) (Q : Value → Shared → Prop) (E : Value → Shared → Prop), (∀ b o, G.get? b = some o → s.heap.get? b = some o) → P i vi → P j vj → Q (.bool (bt i j)) s → wpAny (model prog w) A (richCompare .Lt vi vj) Q E s
theorem min_goes (W : Walks prog w A.in1 I fp wr n P St) (bt : Nat → Nat → Bool) (hcmp : CmpG prog w A.in1 G P bt) (S : Addr) (hSf : S ∉ fp) (gS : G.get? S = none) (gw : ∀ b ∈ wr, G.get? b = none) :
    ∀ (k j : Nat) (s : Shared) (vb : Value) (c : Nat), n - (j + 1) = k → j + 1 ≤ n → St (j + 1) s.heap → P (argBest bt j) vb → (∀ b o, G.get? b = some o → s.heap.get? b = some o) →
    s.heap.get? S = some { cls := .type "list", dict := none, data := .seq #[vb, vb] c, slots := #[] } →
    (∀ v h' tk, P (argBest bt (n - 1)) v → (∀ b o, b ∉ wr → b ≠ S → s.heap.get? b = some o → h'.get? b = some o) → R (.ok (.ret v)) { s with heap := h', toks := tk }) →
    codeAny (model prog w) A (.builtin "min.loop" ⟨[.ref I, .none, .ref S], []⟩) R s := by
  have hSw : S ∉ wr := fun h => hSf (W.sub _ h)
  have nS : ∀ b o, G.get? b = some o → S ≠ b := fun b o e z => by rw [← z, gS] at e; cases e
  have nw : ∀ b o, G.get? b = some o → b ∉ wr := fun b o e z => by rw [gw b z] at e; cases e
  have hname : (toString "min" ++ toString ".loop" : String) = "min.loop" := by decide
  intro k
  induction k with
  | zero =>
    intro j s vb c hk hj hst hPb kG hS hR
    have hin : j + 1 = n := by omega
    refine codeAny_builtin F.entry_min_loop ?_
    rw [Around.under_plainId F.plain_min_loop _]
    show wpAny _ A.in1 (seqItems? (.ref S) >>= _) _ _ s
    refine wpAny_bind (wpAny_seqItems hS rfl ?_)
    show wpAny _ A.in1 (tryCatch (pyNext (.ref I)) _ >>= _) _ _ s
    refine wpAny_bind (wpAny_tryCatch (W.done s _ _ (hin ▸ hst) fun h' tk hk' => ?_))
    have hS' := hk' S _ hSw hS
    show wpAny _ A.in1 (updateSeq S (fun _ => #[]) >>= _) _ _ _
    refine wpAny_bind (wpAny_updateSeq hS' rfl (wpAny_bind (wpAny_letGo (wpAny_pure ?_))))
    exact hR vb _ tk (by rw [← hin]; exact hPb) fun b o hbw hbS e => (Heap.get?_update_other _ _ (Ne.symm hbS)).trans (hk' b o hbw e)
  | succ k ih =>
    intro j s vb c hk hj hst hPb kG hS hR
    have hlt : j + 1 < n := by omega
    refine codeAny_builtin F.entry_min_loop ?_
    rw [Around.under_plainId F.plain_min_loop _]
    show wpAny _ A.in1 (seqItems? (.ref S) >>= _) _ _ s
    refine wpAny_bind (wpAny_seqItems hS rfl ?_)
    show wpAny _ A.in1 (tryCatch (pyNext (.ref I)) _ >>= _) _ _ s
    refine wpAny_bind (wpAny_tryCatch (W.item (j + 1) s _ _ hlt hst fun v h' tk hP hst' hk' => ?_))
    have hS' := hk' S _ hSw hS
    have kG' : ∀ b o, G.get? b = some o → h'.get? b = some o := fun b o e => hk' b o (nw b o e) (kG b o e)
    show wpAny _ A.in1 (tryCatch (holding [v, v] (richCompare .Lt v vb >>= _)) _ >>= _) _ _ _
    refine wpAny_bind (wpAny_tryCatch (wpAny_holding (wpAny_bind (hcmp (j + 1) (argBest bt j) v vb _ _ _ kG' hP hPb ?_))))
    refine wpAny_bind (wpAny_holding (wpAny_truthy_bool (wpAny_bind (wpAny_letGo (wpAny_pure ?_)))))
    cases hb : bt (j + 1) (argBest bt j) with
    | true =>
      simp only [if_true]
      refine wpAny_bind (wpAny_updateSeq hS' rfl (wpAny_bind (wpAny_letGo ?_)))
      rw [hname]
      refine wpAny_pure ⟨plainId_quiet F.plain_min_loop _, ih (j + 1) _ v _ (by omega) hlt (W.frame _ _ _ hst' fun b hbf o e => ?_) (by simp only [argBest, hb, if_true]; exact hP)
        (fun b o e => (Heap.get?_update_other _ _ (nS b o e)).trans (kG' b o e)) (Heap.get?_update_self _ hS' rfl) fun v' h'' tk'' hP' hk'' => ?_⟩
      · exact (Heap.get?_update_other _ _ (fun h : S = b => hSf (by rw [h]; exact hbf))).trans e
      · exact hR v' h'' tk'' hP' fun b o hbw hbS e => hk'' b o hbw hbS ((Heap.get?_update_other _ _ (Ne.symm hbS)).trans (hk' b o hbw e))
    | false =>
      simp only [Bool.false_eq_true, if_false]
      refine wpAny_bind (wpAny_letGo ?_)
      rw [hname]
      refine wpAny_pure ⟨plainId_quiet F.plain_min_loop _, ih (j + 1) _ vb c (by omega) hlt hst' (by simp only [argBest, hb, Bool.false_eq_true, if_false]; exact hPb) kG' hS' fun v' h'' tk'' hP' hk'' => ?_⟩
      exact hR v' h'' tk'' hP' fun b o hbw hbS e => hk'' b o hbw hbS (hk' b o hbw e)
end
section
variable {prog : Program} {w : World} {A : Around} {E : Value → Shared → Prop} {s : Shared}
theorem min_walkG {x : Value} {Q : Value → Shared → Prop}
    (h : wpAny (model prog w) A.in1 (pyIter x) (fun it s₂ => ∃ I fp wr n P St bt G, it = .ref I ∧ Walks prog w A.in1 I fp wr n P St ∧ St 0 s₂.heap ∧ (∀ b ∈ fp, b < s₂.heap.objs.size) ∧ 0 < n ∧ CmpG prog w A.in1 G P bt ∧ (∀ b ∈ wr, G.get? b = none) ∧ (∀ b o, G.get? b = some o → s₂.heap.get? b = some o) ∧
      ∀ v h' tk, P (argBest bt (n - 1)) v → (∀ b o, b ∉ wr → s₂.heap.get? b = some o → h'.get? b = some o) → Q v { s₂ with heap := h', toks := tk }) E s) :
    wpAny (model prog w) A (call (.builtin "min") [x]) Q E s := by
  have hname : (toString "min" ++ toString ".loop" : String) = "min.loop" := by decide
  refine call_function_tree F.kind_min F.plain_min F.entry_min (F.args_min1 _) ?_
  show wpAny _ A.in1 (Builtin.Builtins.bindParams "min" ["key", "default"] 0 ⟨[], []⟩ >>= _) _ _ s
  refine wpAny_bind (wpAny_of_eq (show Builtin.Builtins.bindParams "min" ["key", "default"] 0 ⟨[], []⟩ = pure [none, none] from rfl) ?_)
  refine wpAny_bind (wpAny_pure ?_)
  refine wpAny_bind (wpAny_mono h (fun it s₂ h₂ => ?_) fun _ _ e => e)
  obtain ⟨I, fp, wr, n, P, St, bt, G, rfl, W, hst, hfp, hn, hcmp, gw, kG, hQ⟩ := h₂
  refine wpAny_bind (wpAny_newObj_type ?_)
  have hSf : s₂.heap.objs.size ∉ fp := fun hm => Nat.lt_irrefl _ (hfp _ hm)
  have hSw : s₂.heap.objs.size ∉ wr := fun h => hSf (W.sub _ h)
  have gS : G.get? s₂.heap.objs.size = none := by
    cases e : G.get? s₂.heap.objs.size with
    | none => rfl
    | some o => exact absurd (Heap.lt_size (kG _ _ e)) (Nat.lt_irrefl _)
  have nS : ∀ b o, G.get? b = some o → s₂.heap.objs.size ≠ b := fun b o e z => by rw [← z, gS] at e; cases e
  have nw : ∀ b o, G.get? b = some o → b ∉ wr := fun b o e z => by rw [gw b z] at e; cases e
  rw [hname]
  refine wpAny_pure ⟨plainId_quiet F.plain_min_loop _, ?_⟩
  -- the first item
  refine codeAny_builtin F.entry_min_loop ?_
  rw [Around.under_plainId F.plain_min_loop _]
  show wpAny _ A.in1 (seqItems? (.ref s₂.heap.objs.size) >>= _) _ _ _
  refine wpAny_bind (wpAny_seqItems (Heap.get?_push_size _ rfl) rfl ?_)
  show wpAny _ A.in1 (tryCatch (pyNext (.ref I)) _ >>= _) _ _ _
  refine wpAny_bind (wpAny_tryCatch (W.item 0 _ _ _ hn (W.frame _ _ _ hst fun b _ o e => Heap.get?_push_of_some _ e) fun v h' tk hP hst' hk' => ?_))
  have hS' := hk' s₂.heap.objs.size _ hSw (Heap.get?_push_size _ rfl)
  show wpAny _ A.in1 (updateSeq s₂.heap.objs.size (fun _ => #[v, v]) >>= _) _ _ _
  refine wpAny_bind (wpAny_updateSeq hS' rfl ?_)
  rw [hname]
  refine wpAny_pure ⟨plainId_quiet F.plain_min_loop _, min_goes W bt hcmp s₂.heap.objs.size hSf gS gw _ 0 _ v _ rfl hn (W.frame _ _ _ hst' fun b hbf o e => ?_) hP (fun b o e => (Heap.get?_update_other _ _ (nS b o e)).trans (hk' b o (nw b o e) (Heap.get?_push_of_some _ (kG b o e))))
    (Heap.get?_update_self _ hS' rfl) fun v' h'' tk'' hP' hk'' => ?_⟩
  · exact (Heap.get?_update_other _ _ (fun h : s₂.heap.objs.size = b => hSf (by rw [h]; exact hbf))).trans e
  · exact hQ v' h'' tk'' hP' fun b o hbw e => hk'' b o hbw (Nat.ne_of_lt (Heap.lt_size e)) ((Heap.get?_update_other _ _ (Nat.ne_of_gt (Heap.lt_size e))).trans (hk' b o hbw (Heap.get?_push_of_some _ e)))
end
theorem lex_tr : ∀ {a b c : List Int}, HT.lexLt b a = true → HT.lexLt c b = true → HT.lexLt c a = true
  | [], [], _, h, _ => by cases h
  | [], _ :: _, _, h, _ => by cases h
  | x :: a, [], c, _, h2 => by cases c <;> cases h2
  | x :: a, y :: b, [], _, _ => rfl
  | x :: a, y :: b, z :: c, h1, h2 => by
    rw [HT.lexLt_cons] at h1 h2 ⊢
    by_cases e1 : y = x
    · subst e1
      rw [if_pos rfl] at h1
      by_cases e2 : z = y
      · subst e2
        rw [if_pos rfl] at h2 ⊢
        exact lex_tr h1 h2
      · rw [if_neg e2] at h2 ⊢
        exact h2
    · rw [if_neg e1] at h1
      have h1 := of_decide_eq_true h1
      by_cases e2 : z = y
      · subst e2
        rw [if_neg e1]
        exact decide_eq_true h1
      · rw [if_neg e2] at h2
        have h2 := of_decide_eq_true h2
        rw [if_neg (by omega)]
        exact decide_eq_true (by omega)
theorem lex_irr : ∀ a : List Int, HT.lexLt a a = false
  | [] => rfl
  | x :: a => by rw [HT.lexLt_cons, if_pos rfl]; exact lex_irr a
theorem lex_pair (a b c d : Int) : HT.lexLt [a, b] [c, d] = decide (a < c ∨ a = c ∧ b < d) := by
  rw [HT.lexLt_cons, HT.lexLt_cons]
  by_cases h : a = c
  · rw [if_pos h]
    by_cases g : b = d
    · rw [if_pos g]
      show false = _
      exact (decide_eq_false (by omega)).symm
    · rw [if_neg g]
      exact decide_eq_decide.mpr (by omega)
  · rw [if_neg h]
    exact decide_eq_decide.mpr (by omega)
theorem best_lex (v : Nat → List Int) : ∀ k, argBest (fun i j => HT.lexLt (v i) (v j)) k ≤ k ∧ ∀ j, j ≤ k → HT.lexLt (v j) (v (argBest (fun i j => HT.lexLt (v i) (v j)) k)) = false
  | 0 => ⟨Nat.le_refl _, fun j hj => by
      obtain rfl : j = 0 := by omega
      exact lex_irr _⟩
  | k + 1 => by
    obtain ⟨h1, h2⟩ := best_lex v k
    simp only [argBest]
    by_cases hc : HT.lexLt (v (k + 1)) (v (argBest (fun i j => HT.lexLt (v i) (v j)) k)) = true
    · rw [if_pos hc]
      refine ⟨Nat.le_refl _, fun j hj => ?_⟩
      by_cases e : j = k + 1
      · rw [e]; exact lex_irr _
      · cases q : HT.lexLt (v j) (v (k + 1)) with
        | false => rfl
        | true =>
          have := lex_tr hc q
          rw [h2 j (by omega)] at this
          cases this
    · rw [if_neg hc]
      refine ⟨by omega, fun j hj => ?_⟩
      by_cases e : j = k + 1
      · rw [e]; exact Bool.eq_false_iff.mpr hc
      · exact h2 j (by omega)
theorem vals_back {R : V → Value → Prop} : ∀ {xs : List V} {us : List Value} {i : Nat} {v : Value}, PySem.Paired R xs us → us[i]? = some v → ∃ x, xs[i]? = some x ∧ R x v
  | _, _, _, _, .nil, e => by simp at e
  | _, _, 0, v, .cons h _, e => by
    simp at e
    subst e
    exact ⟨_, rfl, h⟩
  | _, _, i + 1, v, .cons _ r, e => by
    have e : _ := e
    rw [List.getElem?_cons_succ] at e
    obtain ⟨x, h1, h2⟩ := vals_back r e
    exact ⟨x, by rw [List.getElem?_cons_succ]; exact h1, h2⟩
theorem iter_any {prog : Program} {w : World} {A : Around} {E : Value → Shared → Prop} {s : Shared} {l : Addr} {its : Array Value} {Q : Value → Shared → Prop} (hl : s.heap.IsList l its)
    (h : ∀ s₂ : Shared, s₂ = { s with heap := s.heap.push { cls := .type "list_iterator", data := .fields #[.ref l, .int 0 0] } } →
      (s₂.heap.IsListIter s.heap.objs.size l 0 ∧ s₂.heap.IsList l its) → (∀ b ∈ [s.heap.objs.size, l], b < s₂.heap.objs.size) → l ≠ s.heap.objs.size → Q (.ref s.heap.objs.size) s₂) :
    wpAny (model prog w) A (pyIter (.ref l)) Q E s := by
  have hlt : l < s.heap.objs.size := by obtain ⟨_, e, _⟩ := hl; exact Heap.lt_size e
  refine wpAny_pyIter_list hl (h _ rfl ⟨⟨_, Heap.get?_push_size _ rfl, rfl, rfl⟩, hl.push _⟩ (fun b hb => ?_) (Nat.ne_of_lt hlt))
  show b < (s.heap.push _).objs.size
  rw [Heap.size_push]
  rcases List.mem_cons.mp hb with e | hb
  · rw [e]; exact Nat.lt_succ_self _
  · rw [List.mem_singleton.mp hb]; exact Nat.lt_succ_of_lt hlt
def rMinT (K : PySem.W.Frag) : List V → Hp → VK → Prop := fun vs H Q => ∃ (a : Addr) (xs : List V) (f : Nat → List Int), vs = [V.ref a] ∧ SqL K H a xs ∧ 0 < xs.length ∧ (∀ i x, xs[i]? = some x → ∃ t, x = V.ref t ∧ SqT K H t ((f i).map V.int)) ∧
  ∀ i x, xs[i]? = some x → (∀ j, j < xs.length → HT.lexLt (f j) (f i) = false) → Q x H
theorem cr_minT {X : Cx} (hc : X.calm = true) (hu : X.A.in1.units < cLine) : CallR X (.builtin "min") (rMinT X.K) := by
  intro pins s σ H vs us Q I r h
  obtain ⟨a, xs, f, rfl, hs, hne, hx, q⟩ := h
  obtain ⟨its, rv, hl, _⟩ := I.list hs
  rw [Vals.ref1 r]
  have hh := I.ok.hd hc
  have hlen := rv.length
  -- the items are the tuples
  have at_ : ∀ i v, its.toArray[i]? = some v → ∃ t, v = Value.ref t ∧ xs[i]? = some (V.ref t) ∧ SqT X.K H t ((f i).map V.int) := fun i v e => by
    have e : its[i]? = some v := by simpa using e
    obtain ⟨x, hx1, r1⟩ := vals_back rv e
    obtain ⟨t, rfl, h2⟩ := hx i x hx1
    cases r1
    exact ⟨t, rfl, hx1, h2⟩
  refine min_walkG (iter_any hl.isList fun s₂ e st hfp hlI => ?_)
  subst e
  refine ⟨_, _, _, _, _, _, fun i j => HT.lexLt (f i) (f j), s.heap, rfl, Walks.list (A := X.A.in1) hh _ a hlI its.toArray, st, hfp, by simp; omega, fun i j vi vj s' Q' E' kG hi hj hq => ?_, fun b hb => ?_, fun b o e => Heap.get?_push_of_some _ e, fun v h' tk hP hk => ?_⟩
  · obtain ⟨t1, rfl, _, p1⟩ := at_ i vi hi
    obtain ⟨t2, rfl, _, p2⟩ := at_ j vj hj
    obtain ⟨its1, r1, q1, _⟩ := I.tuple p1
    obtain ⟨its2, r2, q2, _⟩ := I.tuple p2
    have k1 : IsTup s'.heap t1 its1.toArray := let ⟨o, ho, rr⟩ := q1; ⟨o, kG _ _ ho, rr⟩
    have k2 : IsTup s'.heap t2 its2.toArray := let ⟨o, ho, rr⟩ := q2; ⟨o, kG _ _ ho, rr⟩
    have i1 : IntsAre its1.toArray.toList (f i) := intsAre_of r1
    have i2 : IntsAre its2.toArray.toList (f j) := intsAre_of r2
    exact HT.lt_tupInts k1 k2 i1 i2 hu hq
  · rw [List.mem_singleton.mp hb]
    cases e : s.heap.get? s.heap.objs.size with
    | none => rfl
    | some o => exact absurd (Heap.lt_size e) (Nat.lt_irrefl _)
  · obtain ⟨t, rfl, h1, _⟩ := at_ _ v hP
    obtain ⟨b1, b2⟩ := best_lex f (its.toArray.size - 1)
    refine ⟨V.ref t, H, I.kept (t' := tk) (old_kept hk), rfl, q _ _ h1 fun j hj => b2 j ?_⟩
    simp
    omega
def ptL : List D → Option (List (Int × Int))
  | [] => some []
  | .tup [.int a, .int b] :: r => (ptL r).map ((a, b) :: ·)
  | _ => none
def lxB (q m : Int × Int) : Prop := q.1 < m.1 ∨ q.1 = m.1 ∧ q.2 < m.2
instance (q m : Int × Int) : Decidable (lxB q m) := inferInstanceAs (Decidable (_ ∨ _))
def minPt : List (Int × Int) → Option (Int × Int)
  | [] => none
  | p :: r => some (r.foldl (fun m q => if lxB q m then q else m) p)
def dMinP : List D → Option D
  | [.lst ds] => (ptL ds).bind fun ps => (minPt ps).map fun p => .tup [.int p.1, .int p.2]
  | _ => none
theorem fold_min : ∀ (r : List (Int × Int)) (p : Int × Int), (r.foldl (fun m q => if lxB q m then q else m) p = p ∨ r.foldl (fun m q => if lxB q m then q else m) p ∈ r) ∧ ¬ lxB p (r.foldl (fun m q => if lxB q m then q else m) p) ∧ ∀ q ∈ r, ¬ lxB q (r.foldl (fun m q => if lxB q m then q else m) p)
  | [], p => ⟨.inl rfl, fun z => by
      have z : lxB p p := z
      unfold lxB at z
      omega, fun q h => by cases h⟩
  | a :: r, p => by
    obtain ⟨h1, h2, h3⟩ := fold_min r (if lxB a p then a else p)
    rw [List.foldl_cons]
    generalize r.foldl (fun m q => if lxB q m then q else m) (if lxB a p then a else p) = z at *
    by_cases c : lxB a p
    · rw [if_pos c] at h1 h2
      refine ⟨.inr (h1.elim (fun e => e ▸ List.mem_cons_self) (List.mem_cons_of_mem _)), ?_, fun q hq => ?_⟩
      · unfold lxB at *; omega
      · rcases List.mem_cons.mp hq with rfl | hq
        · exact h2
        · exact h3 q hq
    · rw [if_neg c] at h1 h2
      refine ⟨h1.imp id (List.mem_cons_of_mem _), h2, fun q hq => ?_⟩
      rcases List.mem_cons.mp hq with rfl | hq
      · unfold lxB at *; omega
      · exact h3 q hq
theorem minPt_spec {ps : List (Int × Int)} {m : Int × Int} (h : minPt ps = some m) : m ∈ ps ∧ ∀ q ∈ ps, ¬ lxB q m := by
  cases ps with
  | nil => cases h
  | cons p r =>
    obtain ⟨h1, h2, h3⟩ := fold_min r p
    cases h
    refine ⟨h1.elim (fun e => by rw [e]; exact List.mem_cons_self) (List.mem_cons_of_mem _), fun q hq => ?_⟩
    rcases List.mem_cons.mp hq with rfl | hq
    · exact h2
    · exact h3 q hq
section
variable {K : PySem.W.Frag} {mg : Str → Option Value} {B : Hp}
theorem ptL_at : ∀ {ds : List D} {ps : List (Int × Int)}, ptL ds = some ps → ds.length = ps.length ∧ ∀ (i : Nat) (p : Int × Int), ps[i]? = some p → ds[i]? = some (D.tup [.int p.1, .int p.2])
  | [], ps, h => by cases h; exact ⟨rfl, fun i p e => by simp at e⟩
  | .tup [.int a, .int b] :: r, ps, h => by
    obtain ⟨qs, h1, rfl⟩ := Option.map_eq_some_iff.mp h
    obtain ⟨h2, h3⟩ := ptL_at h1
    refine ⟨by rw [List.length_cons, List.length_cons, h2], fun i p e => ?_⟩
    cases i with
    | zero =>
      rw [List.getElem?_cons_zero] at e ⊢
      cases e
      rfl
    | succ i =>
      rw [List.getElem?_cons_succ] at e ⊢
      exact h3 i p e
def nsAt (ps : List (Int × Int)) (i : Nat) : List Int := match ps[i]? with
  | some p => [p.1, p.2]
  | none => []
theorem nsAt_eq {ps : List (Int × Int)} {i : Nat} {p : Int × Int} (h : ps[i]? = some p) : nsAt ps i = [p.1, p.2] := by unfold nsAt; rw [h]
theorem calld_minP {X : Cx} (hc : X.calm = true) (hu : X.A.units + 1 < cLine) : CallD X (.builtin "min") dMinP := by
  intro B H vs ds d' Q b r g q
  unfold dMinP at g
  split at g
  · rename_i es
    simp only [Option.bind_eq_some_iff, Option.map_eq_some_iff] at g
    obtain ⟨ps, g1, m, g2, rfl⟩ := g
    obtain ⟨v, rfl, h⟩ := r.one_inv
    obtain ⟨a, xs, rfl, h1, r1⟩ := h.lst_inv
    obtain ⟨l1, l2⟩ := ptL_at g1
    obtain ⟨s1, s2⟩ := minPt_spec g2
    have lx : xs.length = es.length := r1.length
    have fat : ∀ i x, xs[i]? = some x → ∃ p : Int × Int, ps[i]? = some p ∧ Is X.K X.mg B x (.tup [.int p.1, .int p.2]) := fun i x e => by
      obtain ⟨d, e1, e2⟩ := r1.at e
      have hi : i < ps.length := by
        have := (List.getElem?_eq_some_iff.mp e1).1
        omega
      refine ⟨ps[i], List.getElem?_eq_getElem hi, ?_⟩
      have := l2 i _ (List.getElem?_eq_getElem hi)
      rw [e1] at this
      cases this
      exact e2
    refine ⟨_, cr_minT hc hu, a, xs, nsAt ps, rfl, seqL_of b h1, ?_, fun i x e => ?_, fun i x e hm => ?_⟩
    · have := List.length_pos_of_mem s1
      omega
    · obtain ⟨p, e1, e2⟩ := fat i x e
      obtain ⟨t, ys, rfl, hs, r2⟩ := e2.tup_inv
      refine ⟨t, rfl, ?_⟩
      rw [nsAt_eq e1]
      have := IsL.ints_inv (ns := [p.1, p.2]) rfl r2
      rw [this] at hs
      exact seqT b hs
    · obtain ⟨p, e1, e2⟩ := fat i x e
      have : p = m := by
        obtain ⟨j, hj, em⟩ := List.getElem_of_mem s1
        have h3 := hm j (by omega)
        rw [nsAt_eq (List.getElem?_eq_getElem hj), nsAt_eq e1, em] at h3
        have h3 : HT.lexLt [m.1, m.2] [p.1, p.2] = false := h3
        rw [lex_pair] at h3
        have h3 := of_decide_eq_false h3
        have h4 := s2 p (List.mem_of_getElem? e1)
        unfold lxB at h4
        exact Prod.ext (by omega) (by omega)
      subst this
      exact q.at b e2
  · cases g
end
def wipeE : List Nat → En → En
  | [], ρ => ρ
  | v :: vs, ρ => (wipeE vs ρ).set v .un
def noEr {α : Type} (r : R α) : R α := match r with
  | .er _ => .st
  | o => o
def lcGo (g : D → En → Option En) (t : TM) (m : EM) : List D → En → R (List D)
  | [], _ => .ok []
  | d :: r, ρ => match g d ρ with
    | none => .st
    | some ρ1 => (noEr (t ρ1)).bind fun b => if b = true then (noEr (m ρ1)).bind fun x => (lcGo g t m r ρ).bind fun xs => .ok (x :: xs) else lcGo g t m r ρ
def aLc (f : D → Option (List D)) (vs : List Nat) (g : D → En → Option En) (t : TM) (mi m : EM) : AM := fun ρ => (mi ρ).bind fun d => (R.ofO (f d)).bind fun ds => if ds.length ≤ sizeLine then lcGo g t m ds (wipeE vs ρ) else .st
def aLcR (vs : List Nat) (g : D → En → Option En) (t : TM) (mi : AM) (m : EM) : AM := fun ρ => (mi ρ).bind fun as => (R.ofO (dRange as)).bind fun ds => if ds.length ≤ sizeLine then lcGo g t m ds (wipeE vs ρ) else .st
def mYes : TM := fun _ => .ok true
section
variable {K : PySem.W.Frag} {mg : Str → Option Value} {W : Wd} {B H : Hp} {σ σ2 : L2.St} {ρ : En}
theorem EnvOk.wipe (E : EnvOk K mg W B H σ ρ) : ∀ vs : List Nat, EnvOk K mg W B H (L2.wipe σ vs) (wipeE vs ρ)
  | [] => E
  | v :: vs => (EnvOk.wipe E vs).drop v
theorem wipe_get : ∀ (vs : List Nat) (i : Nat), (L2.wipe σ vs)[i]? = if i ∈ vs ∧ i < σ.length then some none else σ[i]?
  | [], i => by simp [L2.wipe]
  | v :: vs, i => by
    show ((L2.wipe σ vs).set v none)[i]? = _
    by_cases hv : v = i
    · subst hv
      by_cases hl : v < σ.length
      · rw [List.getElem?_set_self (by rw [wipe_length]; exact hl), if_pos ⟨List.mem_cons_self, hl⟩]
      · rw [if_neg (fun z => hl z.2), List.getElem?_eq_none (by rw [List.length_set, wipe_length]; omega), List.getElem?_eq_none (by omega)]
    · rw [List.getElem?_set_ne hv, wipe_get vs i]
      have e : (i ∈ v :: vs) ↔ i ∈ vs := by
        rw [List.mem_cons]
        exact ⟨fun z => z.elim (fun z => absurd z.symm hv) id, Or.inr⟩
      simp only [e]
theorem wipe_agree {vs : List Nat} (hl : σ2.length = σ.length) (h : ∀ j, j ∉ vs → σ2[j]? = (L2.wipe σ vs)[j]?) : L2.wipe σ2 vs = L2.wipe σ vs := by
  apply List.ext_getElem?
  intro i
  rw [wipe_get, wipe_get]
  by_cases hi : i ∈ vs
  · by_cases hs : i < σ.length
    · rw [if_pos ⟨hi, by omega⟩, if_pos ⟨hi, hs⟩]
    · rw [if_neg (fun z => hs (by omega)), if_neg (fun z => hs z.2), List.getElem?_eq_none (by omega), List.getElem?_eq_none (by omega)]
  · rw [if_neg (fun z => hi z.1), if_neg (fun z => hi z.1), h i hi, wipe_get, if_neg (fun z => hi z.1)]
end
section
variable {X : Cx} {Wx : WX} {a b c e : Expr} {es : List Expr} {pos p : Pos} {ma mb m : EM} {mr : AM}
def PGV (X : Cx) (tg : Expr) (vs : List Nat) (g : D → En → Option En) : Prop := ∀ W σ H B ρ ρ' d v, EnvOk X.K X.mg W B H σ ρ → Is X.K X.mg B v d → g d ρ = some ρ' → ∀ Q : L2.St → Hp → Prop,
  (∀ σ', EnvOk X.K X.mg W B H σ' ρ' → σ'.length = σ.length → (∀ j, j ∉ vs → σ'[j]? = σ[j]?) → Q σ' H) → wpG X tg v σ H Q
def PGVs (X : Cx) (tgs : List Expr) (vs : List Nat) (g : List D → En → Option En) : Prop := ∀ W σ H B ρ ρ' ds us, EnvOk X.K X.mg W B H σ ρ → IsL X.K X.mg B us ds → g ds ρ = some ρ' → ∀ Q : L2.St → Hp → Prop,
  (∀ σ', EnvOk X.K X.mg W B H σ' ρ' → σ'.length = σ.length → (∀ j, j ∉ vs → σ'[j]? = σ[j]?) → Q σ' H) → wpGs X tgs us σ H Q
theorem pgv_name {i : Nat} {x : Str} {vs : List Nat} (hN : X.N.Nodup) (hi : X.N[i]? = some x) (hx : Loc X.env.scope x) (hv : i ∈ vs) (hf : X.fn x = true ∨ X.env.scope.names.lookup x = some .local := by first | exact .inl rfl | exact .inr rfl | assumption) : PGV X (.Name x pos) vs (gNm i) := by
  intro W σ H B ρ ρ' d v E r g Q q
  cases g
  exact ⟨_, pg_name hN hi hx hf, q _ (E.set r) (by simp) fun j hj => List.getElem?_set_ne (fun z => hj (by rw [← z]; exact hv))⟩
theorem pgsv_nil {vs : List Nat} : PGVs X [] vs gsNil := by
  intro W σ H B ρ ρ' ds us E r g Q q
  cases r with
  | nil =>
    cases g
    exact ⟨_, pgs_nil, rfl, q _ E rfl fun _ _ => rfl⟩
  | cons _ _ => cases g
theorem pgsv_cons {tg : Expr} {tgs : List Expr} {vs : List Nat} {g : D → En → Option En} {gs : List D → En → Option En} (h1 : PGV X tg vs g) (h2 : PGVs X tgs vs gs)
    (hs : (assignEach (tg :: tgs) X.env).map (·.2) = assign tg X.env :: (assignEach tgs X.env).map (·.2) := by rfl) : PGVs X (tg :: tgs) vs (gsCons g gs) := by
  intro W σ H B ρ ρ' ds us E r gg Q q
  cases r with
  | nil => cases gg
  | cons hv r =>
    simp only [gsCons, Option.bind_eq_some_iff] at gg
    obtain ⟨ρ1, g1, g2⟩ := gg
    exact ⟨_, pgs_cons pg_wp pgs_wp hs, _, _, rfl, h1 W σ H B ρ ρ1 _ _ E hv g1 _ fun σ1 E1 l1 a1 => h2 W σ1 H B ρ1 ρ' _ _ E1 r g2 Q fun σ2 E2 l2 a2 => q σ2 E2 (l2.trans l1) fun j hj => (a2 j hj).trans (a1 j hj)⟩
theorem pgv_tup {tgs : List Expr} {k : Nat} {vs : List Nat} {gs : List D → En → Option En} {n : Nat} (hc : X.calm = true) (h : PGVs X tgs vs gs) (hl : ∀ ds ρ ρ', gs ds ρ = some ρ' → ds.length = n)
    (hn : (assignEach tgs X.env).length = n := by rfl) (hst : (assignEach tgs X.env).findIdx? (·.1) = none := by rfl) : PGV X (.Tuple tgs k pos) vs (gTp gs) := by
  intro W σ H B ρ ρ' d v E r g Q q
  unfold gTp at g
  split at g
  · obtain ⟨a, xs, rfl, h1, r1⟩ := r.tup_inv
    exact ⟨_, pg_tup hc pgs_wp hn hst, a, xs, rfl, seqT E.bh h1, by rw [r1.length]; exact hl _ _ _ g, h W σ H B ρ ρ' _ _ E r1 g Q q⟩
  · cases g
def wpTs (X : Cx) (ifs : List Expr) : TT := fun σ H Q => ∃ t, PTs X ifs t ∧ t σ H Q
theorem pts_wp {ifs : List Expr} : PTs X ifs (wpTs X ifs) := ⟨fun pins s σ H Q I ⟨_, h, q⟩ => h.run pins s σ H Q I q⟩
abbrev W0 : WX := fun _ _ _ _ => False
def PTSD (X : Cx) (ifs : List Expr) (t : TM) : Prop := ∀ W σ H B ρ, EnvOk X.K X.mg W B H σ ρ → ∀ Q, Post (t ρ) (okT B H Q) (erD X W0 σ B H) → wpTs X ifs σ H Q
theorem ptsd_nil : PTSD X [] mYes := fun W σ H B ρ E Q h => ⟨_, pts_nil, (show okT B H Q true from h) B H (Grow.refl E.bh)⟩
theorem Post.noEr {α : Type} {r : R α} {P : α → Prop} {E E' : Str → Prop} (h : Post (GD.noEr r) P E) : Post r P E' := by
  cases r with
  | ok a => exact h
  | er x => exact h.elim
  | st => exact h
theorem Post.noErB {α β : Type} {r : R α} {f : α → R β} {P : β → Prop} {E E' : Str → Prop} (h : Post ((GD.noEr r).bind f) P E) : Post r (fun a => Post (f a) P E) E' := by
  cases r with
  | ok a => exact h
  | er x => exact h.elim
  | st => exact h
variable {elt tg iter : Expr} {ifs : List Expr} {scope : Scope} {own : List (Str × Nat)} {g : D → En → Option En} {t : TM}
def blkG (X : Cx) (scope : Scope) (tg : Expr) : TG := fun v σ H Q => ∀ (s : Shared) (H0 : Hp) (C : Addr) (cl : List (Str × Addr)) (fp : List Addr), wpG (X.blk s H0 scope (compEnvC scope cl C X.env) fp) tg v σ H Q
def blkT (X : Cx) (scope : Scope) (ifs : List Expr) : TT := fun σ H Q => ∀ (s : Shared) (H0 : Hp) (C : Addr) (cl : List (Str × Addr)) (fp : List Addr), wpTs (X.blk s H0 scope (compEnvC scope cl C X.env) fp) ifs σ H Q
def blkE (X : Cx) (scope : Scope) (e : Expr) : TE := fun σ H Q => ∀ (s : Shared) (H0 : Hp) (C : Addr) (cl : List (Str × Addr)) (fp : List Addr), wpE (X.blk s H0 scope (compEnvC scope cl C X.env) fp) e σ H Q
structure Blk (X : Cx) (scope : Scope) (own : List (Str × Nat)) (tg : Expr) (ifs : List Expr) (elt : Expr) (g : D → En → Option En) (t : TM) (m : EM) : Prop where
  g : ∀ (s : Shared) (H : Hp) (C : Addr) (cl : List (Str × Addr)) (fp : List Addr), PGV (X.blk s H scope (compEnvC scope cl C X.env) fp) tg (own.map (·.2)) g
  t : ∀ (s : Shared) (H : Hp) (C : Addr) (cl : List (Str × Addr)) (fp : List Addr), PTSD (X.blk s H scope (compEnvC scope cl C X.env) fp) ifs t
  e : ∀ (s : Shared) (H : Hp) (C : Addr) (cl : List (Str × Addr)) (fp : List Addr), PED (X.blk s H scope (compEnvC scope cl C X.env) fp) W0 elt m
def LcPv (X : Cx) (g : D → En → Option En) (t : TM) (m : EM) (vs : List Nat) (B1 H1 : Hp) (ρ : En) (P : List D → Prop) (ds : List D) (D' : Addr) (i : Nat) (H : Hp) : Prop :=
  ∃ B' acc es, Grow B1 H1 B' H ∧ H D' = some (.lst acc) ∧ B' D' = none ∧ IsL X.K X.mg B' acc es ∧ acc.length ≤ i ∧ Post (lcGo g t m (ds.drop i) (wipeE vs ρ)) (fun r => P (es ++ r)) (fun _ => False)
theorem lc_turn {W : Wd} {σ : L2.St} {B1 H1 H : Hp} {ρ : En} {P : List D → Prop} {ds : List D} {D' : Addr} {i : Nat} {d : D} {v : V} (hb : Blk X scope own tg ifs elt g t m) (E : EnvOk X.K X.mg W B1 H1 σ ρ) (hD : H1 D' = none) (hd : ds[i]? = some d) (hl : ds.length ≤ sizeLine)
    (h : LcPv X g t m (own.map (·.2)) B1 H1 ρ P ds D' i H) (hv : ∀ B', Same B1 B' → Is X.K X.mg B' v d) :
    blkG X scope tg v (L2.wipe σ (own.map (·.2))) H fun σ2 H2 => L2.wipe σ2 (own.map (·.2)) = L2.wipe σ (own.map (·.2)) ∧ blkT X scope ifs σ2 H2 fun b H3 =>
      if b = true then blkE X scope elt σ2 H3 fun y H4 => ∃ acc, H4 D' = some (.lst acc) ∧ acc.length < sizeLine ∧ LcPv X g t m (own.map (·.2)) B1 H1 ρ P ds D' (i + 1) (upd H4 D' (.lst (acc ++ [y]))) else LcPv X g t m (own.map (·.2)) B1 H1 ρ P ds D' (i + 1) H3 := by
  obtain ⟨B', acc, es, g1, hacc, nb, ra, la, q⟩ := h
  have hi : i < ds.length := (List.getElem?_eq_some_iff.mp hd).1
  rw [drop_get hd] at q
  unfold lcGo at q
  intro s H0 C cl fp
  cases eg : g d (wipeE (own.map (·.2)) ρ) with
  | none => rw [eg] at q; exact q.elim
  | some ρ1 =>
    rw [eg] at q
    dsimp only at q
    have E1 := (E.grow g1).wipe (own.map (·.2))
    refine hb.g s H0 C cl fp W _ H B' _ ρ1 d v E1 (hv B' g1.bb) eg _ fun σ2 E2 l2 a2 => ⟨wipe_agree (l2.trans (wipe_length _ _)) a2, fun s3 H30 C3 cl3 fp3 => ?_⟩
    refine hb.t s3 H30 C3 cl3 fp3 W σ2 H B' ρ1 E2 _ ((q.noErB (E' := fun _ => False)).mono (fun b _ hb' B3 H3 g3 => ?_) fun _ z => z.elim)
    cases b with
    | true =>
      rw [if_pos rfl] at hb' ⊢
      intro s4 H40 C4 cl4 fp4
      refine hb.e s4 H40 C4 cl4 fp4 W σ2 H3 B3 ρ1 (E2.grow g3) _ ((hb'.noErB (E' := fun _ => False)).mono (fun x _ hx y B4 H4 g4 ry => ?_) fun _ z => z.elim)
      have e4 : H4 D' = some (.lst acc) := g4.hh _ _ (g3.hh _ _ hacc)
      have n4 : B4 D' = none := g4.sep _ _ (g3.hh _ _ hacc) nt_lst (g3.sep _ _ hacc nt_lst nb)
      have G := (g1.trans g3).trans g4
      refine ⟨acc, e4, Nat.lt_of_lt_of_le (Nat.lt_of_le_of_lt la hi) hl, B4, acc ++ [y], es ++ [x], ⟨G.bb, fun q u e => ?_, fun q u e => ?_, G.sep⟩, upd_same, n4, ((ra.mono g3.bb).mono g4.bb).snoc ry, by rw [List.length_append, List.length_singleton]; omega, hx.bind.mono (fun r _ hr => ?_) fun _ z => z⟩
      · rw [upd_ne (ne_of_none e hD)]; exact G.hh q u e
      · rw [upd_ne (fun z => by rw [z, n4] at e; cases e)]; exact G.bh q u e
      · rw [List.append_assoc]
        exact hr
    | false =>
      rw [if_neg Bool.false_ne_true] at hb' ⊢
      exact ⟨B3, acc, es, g1.trans g3, g3.hh _ _ hacc, g3.sep _ _ hacc nt_lst nb, ra.mono g3.bb, by omega, hb'⟩
theorem lc_start {B1 H1 : Hp} {ρ : En} {P : List D → Prop} {ds : List D} {D' : Addr} {vs : List Nat} (b : Same B1 H1) (hD : H1 D' = none) (q : Post (lcGo g t m ds (wipeE vs ρ)) P (fun _ => False)) :
    LcPv X g t m vs B1 H1 ρ P ds D' 0 (upd H1 D' (.lst [])) := by
  refine ⟨B1, [], [], Grow.own b hD, upd_same, ?_, .nil, Nat.le_refl _, q.mono (fun r _ h => h) fun _ z => z⟩
  cases e : B1 D' with
  | none => rfl
  | some o => rw [b _ o e] at hD; cases hD
theorem lc_end {W : Wd} {B H B1 H1 H' : Hp} {Q : VK} {ρ : En} {ds : List D} {D' : Addr} {vs : List Nat} {n : Nat} (g1 : Grow B H B1 H1) (hD : H1 D' = none) (hn : n = ds.length) (h : LcPv X g t m vs B1 H1 ρ (okF X B H Q) ds D' n H') : Q (.ref D') H' := by
  subst hn
  obtain ⟨B', acc, es, g2, hacc, nb, ra, _, q⟩ := h
  rw [List.drop_length] at q
  have q' : okF X B H Q (es ++ []) := q
  rw [List.append_nil] at q'
  exact q' D' acc B' H' (g1.trans g2) (by
    cases e : H D' with
    | none => rfl
    | some o => rw [g1.hh _ o e] at hD; cases hD) hacc nb ra
theorem lcGo_noer : ∀ (ds : List D) (ρ : En) (x : Str), lcGo g t m ds ρ ≠ .er x
  | [], ρ, x => fun h => by cases h
  | d :: r, ρ, x => fun h => by
    unfold lcGo at h
    split at h
    · cases h
    · rename_i ρ1 _
      cases e1 : t ρ1 with
      | ok b =>
        rw [e1] at h
        have h' : (if b = true then (noEr (m ρ1)).bind fun x => (lcGo g t m r ρ).bind fun xs => R.ok (x :: xs) else lcGo g t m r ρ) = .er x := h
        cases b with
        | true =>
          rw [if_pos rfl] at h'
          cases e2 : m ρ1 with
          | ok y =>
            rw [e2] at h'
            have h2 : ((lcGo g t m r ρ).bind fun xs => R.ok (y :: xs)) = .er x := h'
            cases e3 : lcGo g t m r ρ with
            | ok z => rw [e3] at h2; cases h2
            | er z => exact lcGo_noer r ρ z e3
            | st => rw [e3] at h2; cases h2
          | er y => rw [e2] at h'; cases h'
          | st => rw [e2] at h'; cases h'
        | false =>
          rw [if_neg Bool.false_ne_true] at h'
          exact lcGo_noer r ρ x h'
      | er y => rw [e1] at h; cases h
      | st => rw [e1] at h; cases h
theorem post_lc {ds : List D} {ρ : En} {P : List D → Prop} {Er : Str → Prop} (h : Post (if ds.length ≤ sizeLine then lcGo g t m ds ρ else .st) P Er) : ds.length ≤ sizeLine ∧ Post (lcGo g t m ds ρ) P (fun _ => False) := by
  by_cases hl : ds.length ≤ sizeLine
  · rw [if_pos hl] at h
    refine ⟨hl, ?_⟩
    cases e : lcGo g t m ds ρ with
    | ok r => rw [e] at h; exact h
    | er x => exact (lcGo_noer ds ρ x e).elim
    | st => rw [e] at h; exact h
  · rw [if_neg hl] at h
    exact h.elim
def LCD (X : Cx) (Wx : WX) (own : List (Str × Nat)) (elt tg iter : Expr) (ifs : List Expr) (scope : Scope) (m : AM) : Prop :=
  BlkOk X.N X.env.scope scope own ∧ (∀ x, foldedSetIterable iter X.env x = pure x) ∧ ∃ (wi : TI) (g : TG) (tt : TT) (te : TE), PI X tg iter wi ∧
    (∀ (s : Shared) (H : Hp) (C : Addr) (cl : List (Str × Addr)) (fp : List Addr), PG (X.blk s H scope (compEnvC scope cl C X.env) fp) tg g) ∧
    (∀ (s : Shared) (H : Hp) (C : Addr) (cl : List (Str × Addr)) (fp : List Addr), PTs (X.blk s H scope (compEnvC scope cl C X.env) fp) ifs tt) ∧
    (∀ (s : Shared) (H : Hp) (C : Addr) (cl : List (Str × Addr)) (fp : List Addr), PE (X.blk s H scope (compEnvC scope cl C X.env) fp) elt te) ∧
    ∀ W σ H B ρ, EnvOk X.K X.mg W B H σ ρ → ∀ Q, Post (m ρ) (okF X B H Q) (erD X Wx σ B H) → tLc wi g tt te (own.map (·.2)) σ H Q
theorem psd_ownL {i : Nat} {y : Str} {py spos : Pos} (hc : X.calm = true) (hN : X.N.Nodup) (hy : X.N[i]? = some y) (hyl : X.env.scope.names.lookup y = some .local) (h : LCD X Wx own elt tg iter ifs scope mr)
    (hsw : swapsWith (.ListComp elt [⟨tg, iter, ifs, 0⟩] scope pos) (some (.Name y py)) spos.line X.env = pure true) :
    PSD X Wx (.Assign [.Name y py] (.ListComp elt [⟨tg, iter, ifs, 0⟩] scope pos) spos) (sOwn i mr) := by
  obtain ⟨ok, hs, wi, g, tt, te, hi, hg, ht, he, q⟩ := h
  exact fun W σ H B ρ E D hq => ⟨_, ps_setLc hc hN hy hyl hsw hi ok hg ht he hs, q W σ H B ρ E _ ((PostS.ofR hq E).mono (fun ds _ hd p xs B' H' g n e1 nb r => (show PostS X W Wx (.nx (ρ.set i (.l ds))) D from hd) _ B' H' ((E.grow g).setL e1 nb (by
    cases q : W.H p with
    | none => rfl
    | some o => rw [E.gr.hh p o q] at n; cases n) (fun j fs hj _ z => by
      obtain ⟨p', ys, h1, h2, _⟩ := E.own j fs hj
      rw [z] at h1
      cases h1
      rw [n] at h2
      cases h2) r)) fun _ z => z)⟩
def sAsgL (i : Nat) (m : AM) : SM := fun ρ => ofR (m ρ) ρ fun ds => .nx (ρ.set i (.v (.lst ds)))
theorem frozen {B H B1 H1 : Hp} {p : Addr} {xs : List V} {ds : List D} (g : Grow B H B1 H1) (n : H p = none) (e1 : H1 p = some (.lst xs)) (nb : B1 p = none) (r : IsL X.K X.mg B1 xs ds) :
    Grow B H (upd B1 p (.lst xs)) H1 ∧ Is X.K X.mg (upd B1 p (.lst xs)) (.ref p) (.lst ds) := by
  have nb' : ∀ q u, B1 q = some u → q ≠ p := fun q u e z => by rw [z, nb] at e; cases e
  have s1 : Same B1 (upd B1 p (.lst xs)) := fun q u e => by rw [upd_ne (nb' q u e)]; exact e
  refine ⟨⟨g.bb.trans s1, g.hh, fun q u e => ?_, fun q u e tt z => ?_⟩, .lst upd_same (r.mono s1)⟩
  · by_cases hq : q = p
    · subst hq; rw [upd_same] at e; rw [e1, e]
    · rw [upd_ne hq] at e; exact g.bh q u e
  · rw [upd_ne (ne_of_none e n)]
    exact g.sep q u e tt z
theorem lcd_L (hi : PED X Wx iter ma) (ok : BlkOk X.N X.env.scope scope own)
    (hg : ∀ (s : Shared) (H : Hp) (C : Addr) (cl : List (Str × Addr)) (fp : List Addr), PGV (X.blk s H scope (compEnvC scope cl C X.env) fp) tg (own.map (·.2)) g)
    (ht : ∀ (s : Shared) (H : Hp) (C : Addr) (cl : List (Str × Addr)) (fp : List Addr), PTSD (X.blk s H scope (compEnvC scope cl C X.env) fp) ifs t)
    (he : ∀ (s : Shared) (H : Hp) (C : Addr) (cl : List (Str × Addr)) (fp : List Addr), PED (X.blk s H scope (compEnvC scope cl C X.env) fp) W0 elt m)
    (hs : ∀ x, foldedSetIterable iter X.env x = pure x := by intro _; rfl) : LCD X Wx own elt tg iter ifs scope (aLc asL (own.map (·.2)) g t ma m) :=
  ⟨ok, hs, iList X.K (wpE X iter), blkG X scope tg, blkT X scope ifs, blkE X scope elt, pi_list pe_wp, (fun s H C cl fp => ⟨fun pins s' σ' H' v u Q I r q => pg_wp.run pins s' σ' H' v u Q I r (q s H C cl fp)⟩), (fun s H C cl fp => ⟨fun pins s' σ' H' Q I q => pts_wp.run pins s' σ' H' Q I (q s H C cl fp)⟩),
      (fun s H C cl fp => ⟨fun pins s' σ' H' Q I q => pe_wp.run pins s' σ' H' Q I (q s H C cl fp)⟩), fun W σ H B ρ E Q h => by
    refine hi W σ H B ρ E _ ((show Post ((ma ρ).bind fun d => (R.ofO (asL d)).bind fun ds => if ds.length ≤ sizeLine then lcGo g t m ds (wipeE (own.map (·.2)) ρ) else .st) _ _ from h).bind.mono (fun d _ hd v B1 H1 g1 rv => ?_) fun _ z => z)
    obtain ⟨ds, ed, q1⟩ := hd.bind.ofO
    obtain ⟨hl, q2⟩ := post_lc q1
    obtain ⟨a, xs, ev, hsq, r⟩ : ∃ a xs, v = V.ref a ∧ SqL X.K B1 a xs ∧ IsL X.K X.mg B1 xs ds := by
      cases d with
      | lst ds' =>
        cases ed
        obtain ⟨a, xs, ev, h1, r⟩ := rv.lst_inv
        exact ⟨a, xs, ev, SqL.of h1, r⟩
      | scr ns =>
        cases ed
        obtain ⟨a, ev, h1⟩ := rv.scr_inv
        exact ⟨a, _, ev, h1, IsL.ints ns⟩
      | _ => cases ed
    refine ⟨a, ev, ⟨xs, g1.bh.seq hsq⟩, fun D' hD => ?_⟩
    exact lc_list (K := X.K) (a := a) (xs := xs) (LcPv X g t m (own.map (·.2)) B1 H1 ρ (okF X B H Q) ds D') (lc_start g1.bh hD q2) (fun i H' _ ⟨B', _, _, g2, _⟩ => (g2.bb.trans g2.bh).seq hsq)
      (fun i x H' hx p => by
        obtain ⟨d', hd', r'⟩ := r.at hx
        exact lc_turn ⟨hg, ht, he⟩ (E.grow g1) hD hd' hl p fun B' s => r'.mono s)
      (fun H' p => lc_end (W := W) g1 hD r.length p)⟩
end
theorem exK_ok {P : Program} {w : World} {H : Hp} {h : Heap} {a : Addr} {cls : Value} {oe : Obj} {vs : Array Value} (g : h.get? a = some oe) (z : Zc cls none oe) (d : oe.data = .fields vs) : ObjOk P w H h a (ExK cls a) :=
  ⟨⟨oe, vs, g, z, d⟩, ⟨oe, g⟩, fun _ _ y k => y.elim fun o y' => y'.elim fun v y2 => ⟨o, v, k o y2.1, y2.2⟩⟩
section
variable {X : Cx} {pins : List (Addr × Obj)} {σ : L2.St} {H : Hp} {s : Shared}
theorem inv_keeps {a : Addr} {cls : Value} {oe : Obj} {vs : Array Value} (I : Inv X pins σ H s) (g : s.heap.get? a = some oe) (z : Zc cls none oe) (d : oe.data = .fields vs) (nh : H a = none)
    (n0 : ∀ o, X.s_0.heap.get? a = some o → a ∈ X.ex) (nl : a ≠ X.env.locals) (np : ∀ p ∈ X.pn ++ pins, p.1 ≠ a) : Inv X pins σ (upd H a (ExK cls a)) s := by
  have off : ∀ b o, H b = some o → upd H a (ExK cls a) b = some o := fun b o e => by
    rw [upd_ne (ne_of_none e nh)]; exact e
  have non : ∀ b, H b = none → b ≠ a → upd H a (ExK cls a) b = none := fun b e hb => by
    rw [upd_ne hb]; exact e
  refine { ok := I.ok, os := I.os, bare := I.bare, base := ?_, loc := I.loc, cell := I.cell, free := non _ I.free (Ne.symm nl), freeC := fun x c e => ?_, pin := fun p hp => ?_, hok := fun b o e => ?_, len := I.len }
  · have U := I.base
    exact { keep := U.keep, slot := U.slot, there := U.there, free := fun b o e e1 hx => non b (U.free b o e e1 hx) (fun q => by subst q; exact hx (n0 o e)),
            tups := fun b xs e => off _ _ (U.tups b xs e), frzs := fun b o u e => off _ _ (U.frzs b o u e), tbls := fun b ps e => (U.tbls b ps e).imp fun _ q => off _ _ q }
  · refine non c (I.freeC x c e) fun q => ?_
    obtain ⟨v, hv⟩ := I.cell x c e
    obtain ⟨o, ho, hd⟩ := hv
    rw [q, g] at ho
    cases ho
    rw [d] at hd
    cases hd
  · obtain ⟨p1, p2, p3⟩ := I.pin p hp
    exact ⟨p1, non _ p2 (np p hp), p3⟩
  · by_cases hb : b = a
    · subst hb
      rw [upd_same] at e
      cases e
      exact exK_ok g z d
    · rw [upd_ne hb] at e
      exact (I.hok b o e).stay (fun _ _ _ q => q) (fun b' q => off _ _ q) fun b' xs q => off _ _ q
def wKeep (K : PySem.W.Frag) (c : Value) (i : Nat) (ts : Addr → Value → TS) (D : Ends) : WX := fun cls d σ H =>
  d = none ∧ PySem.W.exmOne K cls c = some true ∧ ∀ a, H a = none → ts a cls { nx := fun σ1 H1 => D.nx (σ1.set i none) (upd H1 a (ExK cls a)), rt := fun _ _ => False, bk := fun _ _ => False, ct := fun _ _ => False } (σ.set i (some (.ref a))) H
theorem catch_run {x n : Str} {c : Value} {i : Nat} {suite : List Stmt} {b₀ : Stmt} {np pos' : Pos} {ts : Addr → Value → TS} {D : Ends} {xe : Value → Shared → Prop} {u : Value} {s' : Shared}
    (ok : X.Ok) (hs : X.stack = X.env :: X.outer) (hf : X.env.frame = some X.env.locals) (hN : X.N.Nodup) (hi : X.N[i]? = some n) (hln : X.env.kindOf n = some .local) (hc : Names X x c)
    (hsu : ∀ (a : Addr) (oe : Obj) (cls : Value) (pn : List (Addr × Obj)), PSs (X.suite a ((a, oe) :: pn)) (b₀ :: suite) (ts a cls))
    (y : XE (X.tr (X.pn ++ pins) xe) (wKeep X.K c i ts D) u s') :
    wpAny (model X.prog X.w) X.A (noteFrame u X.env) (fun _ s2 => wpAny (model X.prog X.w) X.A (setFlight u none) (fun _ s3 =>
      wpAny (model X.prog X.w) X.A (handleBy u X.env [.ExceptHandler (some (.Name x np)) (some n) (b₀ :: suite) pos']) (SP X pins D) X.xe s3) X.xe s2) X.xe s' := by
  rcases y with ⟨a, G, s0, ps, σ1, H1, cls, dd, rfl, J1, ground, ups, sky, nh, eos, bare, dn, em, go⟩
  subst dn
  have J0 : Inv X pins σ1 H1 s0 := J1.ofTry ok
  have fr : X.A.frames = some (X.env :: X.outer) := hs ▸ ok.frames
  have sky2 : Sky G (X.env :: X.outer) a (Zc cls none) X.env.locals s'.heap := hs ▸ sky
  refine Sky.land Zc.steady fr hf sky2 fun hA flA upA => ?_
  have JA : Inv X pins σ1 H1 { s' with heap := hA } := J0.landed ground flA.1 (ups.trans upA) eos bare
  -- where the error is not
  have out : a ∉ frs (X.env :: X.outer) := by
    intro m
    obtain ⟨_, o, eo, no⟩ := flA.2.2.1.mem m
    obtain ⟨oe, vs, e1, _, e2⟩ := flA.there
    cases e1.symm.trans eo
    exact no _ e2
  have aL : a ≠ X.env.locals := fun q => out (List.mem_filterMap.mpr ⟨X.env, List.mem_cons_self, by rw [hf, q]⟩)
  have aF : a ∉ X.fs := fun q => out (by
    obtain ⟨e, h1, h2⟩ := List.mem_filterMap.mp q
    exact List.mem_filterMap.mpr ⟨e, List.mem_cons_of_mem _ h1, h2⟩)
  have new0 : ∀ o, s0.heap.get? a = some o → False := fun o q => by
    have := ground a o q (by rw [show (X.tr (X.pn ++ pins) xe).stack = X.env :: X.outer from hs]; exact out)
    rw [flA.2.1] at this
    cases this
  have n0 : ∀ o, X.s_0.heap.get? a = some o → a ∈ X.ex := fun o q => by
    apply Decidable.byContradiction
    intro hx
    obtain ⟨o', q'⟩ := J0.base.there a o q hx
    exact new0 o' q'
  have npn : ∀ p ∈ X.pn ++ pins, p.1 ≠ a := fun p hp q => new0 p.2 (by rw [← q]; exact (J0.pin p hp).1)
  -- the clause's class
  obtain ⟨oA, vA, eA, zA, dA⟩ := flA.there
  have SA := JA.suite eA dA nh aL aF
  have ty : PySem.W.Looks (model X.prog X.w) hA (typeOf (.ref a)) cls := fun _ _ _ _ k q => wpAny_typeOf_ref (k _ _ eA) (zA.1.symm ▸ q)
  have yes := PySem.W.exm_one (M := model X.prog X.w) JA.kIn ty em
  have ask : ∀ {Q : Value → Shared → Prop} {E : Value → Shared → Prop}, Q c { s' with heap := hA } → wpAny (model X.prog X.w) (X.A.mark (some (.ref a))) (eval (.Name x np) X.env) Q E { s' with heap := hA } := by
    intro Q E q
    rcases hc with ⟨hg, hdb, h1 | ⟨h1, h2, h3⟩⟩
    · exact ld_glob (X := X.suite a ((a, oA) :: (X.pn ++ pins))) SA hg h1 q hdb
    · exact ld_blt (X := X.suite a ((a, oA) :: (X.pn ++ pins))) SA hg h1 h2 q h3 hdb
  refine wpAny_handleBy_cons (codeAny_handlers_test (ask (yes.here ?_))) (by intro q; cases q)
  apply codeAny_handlers_suite_as
  refine HandSPX.lands_againZ flA fun hB flB upB => ?_
  have JB : Inv X pins σ1 H1 { s' with heap := hB } := J0.landed ground flB.1 ((ups.trans upA).trans upB) eos bare
  obtain ⟨oB, vB, eB, zB, dB⟩ := flB.there
  have SB := JB.suite eB dB nh aL aF
  refine store_ok (X := X.suite a ((a, oB) :: (X.pn ++ pins))) (v := .ref a) SB hN hi (Or.inl hln) rfl (fun s5 S5 => ?_) (Or.inr hln)
  have run := (hsu a oB cls (X.pn ++ pins)).run [] s5 _ H1 _ S5 (go a nh)
  refine wpAny_mono run (fun f s6 q => ?_) fun _ _ z => z.elim
  match f, q with
  | .next, ⟨σ6, H6, S6, q6⟩ =>
    refine gone_ok (X := X.suite a ((a, oB) :: (X.pn ++ pins))) S6 hN hi hln fun s7 S7 => ?_
    obtain ⟨g7, n7, _⟩ := S7.pin (a, oB) (List.mem_append.mpr (.inl List.mem_cons_self))
    exact ⟨_, _, inv_keeps (S7.unsuite ok) g7 zB dB n7 n0 aL npn, q6⟩
  | .brk, ⟨_, _, _, q6⟩ => exact q6.elim
  | .cont, ⟨_, _, _, q6⟩ => exact q6.elim
  | .ret _, ⟨_, _, _, _, _, q6⟩ => exact q6.elim
theorem ps_tryKeep {x n : Str} {c : Value} {i : Nat} {body suite : List Stmt} {b₀ : Stmt} {np pos pos' : Pos} {tb : WX → TS} {ts : Addr → Value → TS}
    (hs : X.stack = X.env :: X.outer) (hf : X.env.frame = some X.env.locals) (hN : X.N.Nodup) (hi : X.N[i]? = some n) (hln : X.env.kindOf n = some .local) (hc : Names X x c)
    (hb : ∀ (W : WX) (pn : List (Addr × Obj)) (xe : Value → Shared → Prop), Takes (X.tr pn xe) W → PassesOwn (model X.prog X.w) X.A X.env xe → PSs (X.tr pn xe) body (tb W))
    (hsu : ∀ (a : Addr) (oe : Obj) (cls : Value) (pn : List (Addr × Obj)), PSs (X.suite a ((a, oe) :: pn)) (b₀ :: suite) (ts a cls)) :
    PS X (.Try body [.ExceptHandler (some (.Name x np)) (some n) (b₀ :: suite) pos'] [] [] pos) (fun D σ H => tb (wKeep X.K c i ts D) D σ H) := by
  constructor
  intro pins s σ H D I h
  refine wpAny_Try_except ?_
  have ok := I.ok
  let xe : Value → Shared → Prop := fun e s1 => wpAny (model X.prog X.w) X.A (noteFrame e X.env) (fun _ s2 => wpAny (model X.prog X.w) X.A (setFlight e none) (fun _ s3 =>
    wpAny (model X.prog X.w) X.A (handleBy e X.env [.ExceptHandler (some (.Name x np)) (some n) (b₀ :: suite) pos']) (SP X pins D) X.xe s3) X.xe s2) X.xe s1
  have bd := (hb (wKeep X.K c i ts D) (X.pn ++ pins) xe (fun u s' y => catch_run ok hs hf hN hi hln hc hsu y) PassesOwn.looking).run [] s σ H D (I.toTry _) h
  refine wpAny_mono bd (fun f s1 q => ?_) fun _ _ z => z
  match f, q with
  | .next, ⟨σ', H', J, q⟩ => exact wpAny_execs_nil ⟨σ', H', J.ofTry ok, q⟩
  | .brk, ⟨σ', H', J, q⟩ => exact ⟨σ', H', J.ofTry ok, q⟩
  | .cont, ⟨σ', H', J, q⟩ => exact ⟨σ', H', J.ofTry ok, q⟩
  | .ret u, ⟨v, σ', H', J, r, q⟩ => exact ⟨v, σ', H', J.ofTry ok, r, q⟩
end
section
variable {X : Cx} {Wx : WX}
end
def lookX (L : List (Str × Str × Bool)) (y c : Str) : Option Bool := (L.find? fun t => t.1 == y && t.2.1 == c).map (·.2.2)
def anyX (L : List (Str × Str × Bool)) (y : Str) : List D → Option Bool
  | [] => some false
  | .cls c :: r => match lookX L y c with
    | some true => (anyX L y r).map fun _ => true
    | some false => anyX L y r
    | none => none
  | _ => none
def isX (Lc : List (Str × Str × Bool)) (Lt : List (Str × String × Bool)) (y : Str) : D → Option Bool
  | .cls c => lookX Lc y c
  | .ty n => (Lt.find? fun t => t.1 == y && t.2.1 == n).map (·.2.2)
  | .tup ds => anyX Lc y ds
  | _ => none
def dIsX (Ly : List Str) (Lc : List (Str × Str × Bool)) (Lt : List (Str × String × Bool)) : List D → Option D
  | [.exc y, u] => if Ly.contains y = true then (isX Lc Lt y u).map .bl else none
  | _ => none
structure ExH (K : PySem.W.Frag) (mg : Str → Option Value) (Ly : List Str) (Lc : List (Str × Str × Bool)) (Lt : List (Str × String × Bool)) : Prop where
  c : ∀ t ∈ Lc, ∃ D C, mg t.1 = some (.ref D) ∧ mg t.2.1 = some (.ref C) ∧ PySem.W.kitOne K (.ref D) (.ref C) = some t.2.2
  t : ∀ t ∈ Lt, ∃ D, mg t.1 = some (.ref D) ∧ PySem.W.kitOne K (.ref D) (.type t.2.1) = some t.2.2
  x : ∀ y ∈ Ly, ∃ D, mg y = some (.ref D) ∧ ExcC K D
def rIsX (K : PySem.W.Frag) : List V → Hp → VK → Prop := fun xs H Q => ∃ (a D : Addr) (u : V) (b : Bool), xs = [.ref a, u] ∧ H a = some (ExK (.ref D) a) ∧ ExcC K D ∧
  ((∃ cv, (∀ z, RelV u z → z = cv) ∧ PySem.W.kitOne K (.ref D) cv = some b) ∨ (∃ tp cs ws, u = .ref tp ∧ SqT K H tp cs ∧ (∀ its, Vals cs its → its = ws) ∧ PySem.W.kitAny K (.ref D) ws = some b)) ∧ Q (.bl b) H
section
variable {X : Cx}
theorem call_isX : CallR X (.builtin "isinstance") (rIsX X.K) := by
  intro pins s σ H xs us Q I r h
  obtain ⟨a, D, u, b, rfl, hX, C, hk, q⟩ := h
  obtain ⟨z1, z2, rfl, r1, r2⟩ := vals2 r
  cases (show z1 = Value.ref a from r1)
  obtain ⟨⟨oe, vs, g, z, d⟩, _⟩ := (show ObjOk X.prog X.w H s.heap a (ExK (.ref D) a) from I.hok a _ hX)
  have J : PySem.W.InstAt s.heap a oe D none := by
    obtain ⟨c1, c2, c3, c4⟩ := oe
    obtain ⟨w1, w2⟩ := z
    dsimp only at w1 w2 d
    subst w1 w2 d
    exact ⟨g, rfl, rfl, trivial⟩
  have Z := PySem.W.handS_kitx_exc (x := a) (ox := oe) C.hg C.hk C.hs C.hd C.ha C.hn C.ht C.hm
  have out : ∀ tk, ∃ v H1, Inv X pins σ H1 { s with toks := tk } ∧ RelV v (.bool b) ∧ Q v H1 := fun tk => ⟨.bl b, H, I.tok tk, rfl, q⟩
  rcases hk with ⟨cv, e1, e2⟩ | ⟨tp, cs, ws, rfl, hT, e1, e2⟩
  · have e := e1 _ r2
    subst e
    exact PySem.W.kia_one Z I.kIn J e2 (by intro q; cases q) out
  · cases (show z2 = Value.ref tp from r2)
    obtain ⟨its, rv, ht, _⟩ := I.tuple hT
    have e := e1 _ rv
    subst e
    obtain ⟨o, h1, h2, n, h3⟩ := ht
    obtain ⟨c1, c2, c3, c4⟩ := o
    dsimp only at h2 h3
    subst h2 h3
    exact PySem.W.kia_tup Z I.kIn J h1 e2 (by intro q; cases q) out
theorem any_of {K : PySem.W.Frag} {mg : Str → Option Value} {B : Hp} {Ly Lc Lt} (F : ExH K mg Ly Lc Lt) {y : Str} {D : Addr} (hy : mg y = some (.ref D)) : ∀ {cs : List V} {ds : List GD.D} {b : Bool}, IsL K mg B cs ds → anyX Lc y ds = some b →
    ∃ ws, (∀ its, Vals cs its → its = ws) ∧ PySem.W.kitAny K (.ref D) ws = some b
  | _, _, b, .nil, h => ⟨[], fun its v => by cases v; rfl, h⟩
  | _, _, b, .cons (d := d) h1 r, h => by
    cases h1 with
    | cls hm =>
      rename_i a c
      unfold anyX at h
      cases e : lookX Lc y c with
      | none => rw [e] at h; cases h
      | some k =>
        rw [e] at h
        have kt : PySem.W.kitOne K (.ref D) (.ref a) = some k := by
          unfold lookX at e
          obtain ⟨t, ht, e2⟩ := Option.map_eq_some_iff.mp e
          have hm1 := List.mem_of_find?_eq_some ht
          have hp := List.find?_some ht
          rw [Bool.and_eq_true] at hp
          obtain ⟨D', C, m1, m2, k1⟩ := F.c t hm1
          rw [beq_iff_eq.mp hp.1, hy] at m1
          rw [beq_iff_eq.mp hp.2, hm] at m2
          cases m1
          cases m2
          rw [← e2]
          exact k1
        cases k with
        | true =>
          obtain ⟨k2, h2, rfl⟩ := Option.map_eq_some_iff.mp h
          obtain ⟨ws, hws, _⟩ := any_of F hy r h2
          refine ⟨.ref a :: ws, fun its v => ?_, by unfold PySem.W.kitAny; rw [kt]⟩
          cases v with
          | cons r1 r2 => rw [hws _ r2]; exact congrArg (· :: ws) r1
        | false =>
          obtain ⟨ws, hws, hk⟩ := any_of F hy r h
          refine ⟨.ref a :: ws, fun its v => ?_, by unfold PySem.W.kitAny; rw [kt]; exact hk⟩
          cases v with
          | cons r1 r2 => rw [hws _ r2]; exact congrArg (· :: ws) r1
    | _ => cases h
theorem calld_isX {Ly Lc Lt} (F : ExH X.K X.mg Ly Lc Lt) : CallD X (.builtin "isinstance") (dIsX Ly Lc Lt) := by
  intro B H vs ds d' Q b r g q
  unfold dIsX at g
  split at g
  · rename_i y u0
    split at g
    · rename_i hy
      obtain ⟨k, e, rfl⟩ := Option.map_eq_some_iff.mp g
      obtain ⟨v, u, rfl, h1, h2⟩ := r.two_inv
      obtain ⟨D, mD, hC⟩ := F.x y (List.contains_iff_mem.mp hy)
      cases h1 with
      | exc hc h =>
        rename_i a cls
        rw [mD] at hc
        cases hc
        have fin : ((∃ cv, (∀ z, RelV u z → z = cv) ∧ PySem.W.kitOne X.K (.ref D) cv = some k) ∨ (∃ tp cs ws, u = .ref tp ∧ SqT X.K H tp cs ∧ (∀ its, Vals cs its → its = ws) ∧ PySem.W.kitAny X.K (.ref D) ws = some k)) → ∃ r, CallR X (.builtin "isinstance") r ∧ r [.ref a, u] H Q :=
          fun hk => ⟨_, call_isX, a, D, u, k, rfl, b _ _ h, hC, hk, q.at b (.bl _)⟩
        unfold isX at e
        split at e
        · unfold lookX at e
          obtain ⟨t, ht, e2⟩ := Option.map_eq_some_iff.mp e
          have hp := List.find?_some ht
          rw [Bool.and_eq_true] at hp
          obtain ⟨D', C, m1, m2, k1⟩ := F.c t (List.mem_of_find?_eq_some ht)
          rw [beq_iff_eq.mp hp.1, mD] at m1
          rw [beq_iff_eq.mp hp.2] at m2
          rw [e2] at k1
          cases m1
          cases h2 with
          | cls hm =>
            rw [m2] at hm
            cases hm
            exact fin (.inl ⟨.ref C, fun z hz => hz, k1⟩)
        · rename_i n
          obtain ⟨t, ht, e2⟩ := Option.map_eq_some_iff.mp e
          have hp := List.find?_some ht
          rw [Bool.and_eq_true] at hp
          obtain ⟨D', m1, k1⟩ := F.t t (List.mem_of_find?_eq_some ht)
          rw [beq_iff_eq.mp hp.1, mD] at m1
          rw [beq_iff_eq.mp hp.2] at k1
          rw [e2] at k1
          cases m1
          rw [h2.ty_inv] at fin ⊢
          exact fin (.inl ⟨.type n, fun z hz => hz, k1⟩)
        · obtain ⟨tp, xs, rfl, hT, rl⟩ := h2.tup_inv
          obtain ⟨ws, h3, h4⟩ := any_of F mD rl e
          exact fin (.inr ⟨tp, xs, ws, rfl, seqT b hT, h3, h4⟩)
        · cases e
    · cases g
  · cases g
end
theorem all_cons {α : Type} {p : α → Prop} {a : α} {l : List α} (h : p a) (t : ∀ x ∈ l, p x) : ∀ x ∈ a :: l, p x := List.forall_mem_cons.mpr ⟨h, t⟩
theorem bb_ValueError : bootBuiltins "ValueError" = some (.type "ValueError") := by rfl
theorem kit_sub {K : PySem.W.Frag} {x c : Addr} {r : Bool} (h : PySem.W.subIn K (.ref x) (.ref c) = some r) (hd : PySem.W.hasDictIn K c = true) (ht : PySem.W.typeIn K (.ref c) = some (.type "type")) (hs : PySem.W.subIn K (.ref c) (.ref c) = some true) : PySem.W.kitOne K (.ref x) (.ref c) = some r := by
  unfold PySem.W.kitOne
  split
  · rename_i e
    have e2 : x = c := Value.ref.inj (beq_iff_eq.mp e)
    rw [e2, hs] at h
    exact h
  · obtain ⟨cd, h2, _⟩ := PySem.W.any_some hd
    show (if ((PySem.W.clsIn K c).isSome && PySem.W.typeIn K (.ref c) == some (.type "type")) = true then PySem.W.subIn K (.ref x) (.ref c) else none) = some r
    rw [if_pos (by rw [h2, ht]; rfl)]
    exact h
theorem kit_meta_ve : PySem.W.kitMeta "ValueError" = true := by decide +kernel
theorem kit_ve {K : PySem.W.Frag} {x : Addr} (h : PySem.W.subIn K (.ref x) (.type "ValueError") = some true) : PySem.W.kitOne K (.ref x) (.type "ValueError") = some true := by
  unfold PySem.W.kitOne
  split
  · rfl
  · show (if PySem.W.kitMeta "ValueError" = true then PySem.W.subIn K (.ref x) (.type "ValueError") else none) = some true
    rw [if_pos kit_meta_ve]
    exact h
def sClr (i : Nat) : SM := fun ρ => match ρ[i]? with
  | some (.l _) => .nx (ρ.set i (.l []))
  | _ => .st
def eOwnAt (i : Nat) (m : EM) : EM := fun ρ => match ρ[i]? with
  | some (.l ds) => (m ρ).bind fun k => match k with
    | .int j => R.ofO (L2.atI ds j)
    | _ => .st
  | _ => .st
def eOwnLen (i : Nat) : EM := fun ρ => match ρ[i]? with
  | some (.l ds) => .ok (.int ds.length)
  | _ => .st
section
variable {X : Cx} {Wx : WX} {a b c e : Expr} {es : List Expr} {pos p cp ap : Pos} {ma mb m : EM} {mr : AM} {i : Nat} {x : Str}
theorem own_at {W : Wd} {B H B' H' : Hp} {σ : L2.St} {ρ : En} {ds : List D} (E : EnvOk X.K X.mg W B H σ ρ) (g : Grow B H B' H') (h : ρ[i]? = some (.l ds)) :
    ∃ l xs, σ[i]? = some (some (.ref l)) ∧ H' l = some (.lst xs) ∧ IsL X.K X.mg B' xs ds ∧ H l = some (.lst xs) := by
  obtain ⟨l, xs, h1, h2, _, _, h5⟩ := E.own i ds h
  exact ⟨l, xs, h1, g.hh _ _ h2, h5.mono g.bb, h2⟩
theorem tyL {l : Addr} {xs : List V} {H : Hp} (h : H l = some (.lst xs)) : tyV X.K "list" (.ref l) H := .inl ⟨rfl, xs, .inl (.inl h)⟩
theorem psd_app (hi : X.N[i]? = some x) (hv : Vis X.env.scope x) (ha : PED X Wx e m) (hd : (x == ("__debug__" : Str)) = false := by decide) (hcd : (x == ("__classdict__" : Str)) = false := by decide)
    (hbase : attributeBase (.Name x p) "append" X.env (eval (.Name x p) X.env) = eval (.Name x p) X.env := by rfl)
    (hfew : ((backTo cp (starEach [e] X.env)).all (fun x => !x.1) && (backToKw cp (keywordEach [] X.env)).all (fun x => x.1.isSome)
      && decide (([e] : List Expr).length + ([] : List Keyword).length + (if ([] : List Keyword).isEmpty then 0 else 1) < 30)) = true := by rfl)
    (hline : (ap.endLine == cp.line) = true := by rfl) (hs : starEach [e] X.env = (false, eval e X.env) :: starEach [] X.env := by rfl) (hpl : (backTo cp (starEach [] X.env)).any (·.1) = false := by rfl)
    (hsw : swapsWith (.Call (.Attribute (.Name x p) "append" ap) [e] [] cp) none pos.line X.env = pure false := by rfl) :
    PSD X Wx (.Expr (.Call (.Attribute (.Name x p) "append" ap) [e] [] cp) pos) (sApp i m) := by
  intro W σ H B ρ E D q
  unfold sApp at q
  split at q
  · rename_i ds hr
    refine ⟨_, ps_expr (pe_bm F.plainAttrs_list F.slot_list_append F.type_list_append mt_append (pe_var hi hv hd hcd) pa_wp hbase hfew hline hs hpl) hsw, ?_⟩
    obtain ⟨l, xs, h1, h2, _⟩ := own_at E (Grow.refl E.bh) hr
    refine ⟨.ref l, h1, tyL h2, ?_⟩
    refine (pad_cons ha pad_nil hs) W σ H B ρ E _ ?_
    have q2 := PostS.ofR q E
    unfold aCons aNil
    refine (?_ : Post ((m ρ).bind fun u => (R.ok ([] : List GD.D)).bind fun xs => .ok (u :: xs)) _ _)
    cases em : m ρ with
    | ok u =>
      rw [em] at q2
      intro vs B' H' g r
      cases r with
      | cons r1 r =>
        cases r
        have q3 : PostS X W Wx (if ds.length < sizeLine then .nx (ρ.set i (.l (ds ++ [u]))) else .st) D := q2
        split at q3
        · rename_i hz
          obtain ⟨l', xs', k1, k2, k3, k4⟩ := own_at E g hr
          rw [h1] at k1
          cases k1
          rw [h2] at k4
          cases k4
          refine ⟨l, xs, _, rfl, rfl, k2, by rw [k3.length]; exact hz, ?_⟩
          exact (show PostS X W Wx (.nx _) D from q3) _ _ _ ((E.grow g).mut (xs := xs) hr h1 (k3.snoc r1))
        · exact q3.elim
    | er z => rw [em] at q2; exact q2
    | st => rw [em] at q2; exact q2
  · exact q.elim
theorem psd_pop (hi : X.N[i]? = some x) (hv : Vis X.env.scope x) (hd : (x == ("__debug__" : Str)) = false := by decide) (hcd : (x == ("__classdict__" : Str)) = false := by decide)
    (hbase : attributeBase (.Name x p) "pop" X.env (eval (.Name x p) X.env) = eval (.Name x p) X.env := by rfl) (hline : (ap.endLine == cp.line) = true := by rfl)
    (hsw : swapsWith (.Call (.Attribute (.Name x p) "pop" ap) [] [] cp) none pos.line X.env = pure false := by rfl) :
    PSD X Wx (.Expr (.Call (.Attribute (.Name x p) "pop" ap) [] [] cp) pos) (sPop i) := by
  intro W σ H B ρ E D q
  unfold sPop at q
  split at q
  · rename_i ds hr
    split at q
    · exact q.elim
    · rename_i hne
      obtain ⟨l, xs, h1, h2, h3, _⟩ := own_at E (Grow.refl E.bh) hr
      have hl := h3.length
      have hn : ds.length ≠ 0 := fun z => hne (List.length_eq_zero_iff.mp z)
      have hlt : xs.length - 1 < xs.length := by omega
      refine ⟨_, ps_expr (pe_bm0 F.plainAttrs_list F.slot_list_pop F.type_list_pop mt_pop (pe_var hi hv hd hcd) hbase hline) hsw, ?_⟩
      refine ⟨.ref l, h1, tyL h2, l, xs, xs[xs.length - 1], rfl, rfl, h2, List.getElem?_eq_getElem hlt, ?_⟩
      refine (show PostS X W Wx (.nx _) D from q) _ _ _ (E.mut (xs := xs) hr h1 ?_)
      rw [List.dropLast_eq_take, List.dropLast_eq_take, hl]
      exact h3.take _
  · exact q.elim
theorem psd_clr (hi : X.N[i]? = some x) (hv : Vis X.env.scope x) (hd : (x == ("__debug__" : Str)) = false := by decide) (hcd : (x == ("__classdict__" : Str)) = false := by decide)
    (hbase : attributeBase (.Name x p) "clear" X.env (eval (.Name x p) X.env) = eval (.Name x p) X.env := by rfl) (hline : (ap.endLine == cp.line) = true := by rfl)
    (hsw : swapsWith (.Call (.Attribute (.Name x p) "clear" ap) [] [] cp) none pos.line X.env = pure false := by rfl) :
    PSD X Wx (.Expr (.Call (.Attribute (.Name x p) "clear" ap) [] [] cp) pos) (sClr i) := by
  intro W σ H B ρ E D q
  unfold sClr at q
  split at q
  · rename_i ds hr
    obtain ⟨l, xs, h1, h2, h3, _⟩ := own_at E (Grow.refl E.bh) hr
    refine ⟨_, ps_expr (pe_bm0 F.plainAttrs_list F.slot_list_clear F.type_list_clear mt_clear (pe_var hi hv hd hcd) hbase hline) hsw, ?_⟩
    exact ⟨.ref l, h1, tyL h2, l, xs, rfl, rfl, h2, (show PostS X W Wx (.nx _) D from q) _ _ _ (E.mut (xs := xs) hr h1 .nil)⟩
  · exact q.elim
theorem ped_ownAt (hi : X.N[i]? = some x) (hv : Vis X.env.scope x) (hb : PED X Wx b mb) (hs : PlainIx b) (hd : (x == ("__debug__" : Str)) = false := by decide) (hcd : (x == ("__classdict__" : Str)) = false := by decide) :
    PED X Wx (.Subscript (.Name x p) b pos) (eOwnAt i mb) := by
  intro W σ H B ρ E Q q
  unfold eOwnAt at q
  split at q
  · rename_i ds hr
    obtain ⟨l, xs, h1, h2, _⟩ := own_at E (Grow.refl E.bh) hr
    refine ⟨_, pe_ix ix_list (pe_var hi hv hd hcd) pe_wp hs, .ref l, h1, ?_⟩
    refine hb W σ H B ρ E _ (q.bind.mono (fun kk _ q2 u B2 H2 g2 r2 => ?_) fun _ z => z)
    cases kk with
    | int j =>
      obtain ⟨d, e1, q3⟩ := Post.ofO q2
      obtain ⟨l', xs', k1, k2, k3, k4⟩ := own_at E g2 hr
      rw [h1] at k1
      cases k1
      obtain ⟨v, e2, r⟩ := k3.atI e1
      exact ⟨l, xs', j, v, rfl, r2.int_inv, .inl (.inl k2), e2, okD.at (q3.later g2) g2.bh r⟩
    | _ => exact q2.elim
  · exact q.elim
theorem ped_ownLen {lp : Pos} (hi : X.N[i]? = some x) (hv : Vis X.env.scope x) (hg : Gl X "len") (hm : X.mg "len" = none) (hd : (x == ("__debug__" : Str)) = false := by decide) (hcd : (x == ("__classdict__" : Str)) = false := by decide)
    (he : starEach [.Name x p] X.env = (false, eval (.Name x p) X.env) :: starEach [] X.env := by rfl) (hpl : (backTo pos (starEach [] X.env)).any (·.1) = false := by rfl) :
    PED X Wx (.Call (.Name "len" lp) [.Name x p] [] pos) (eOwnLen i) := by
  intro W σ H B ρ E Q q
  unfold eOwnLen at q
  split at q
  · rename_i ds hr
    obtain ⟨l, xs, h1, h2, h3, _⟩ := own_at E (Grow.refl E.bh) hr
    refine ⟨_, pe_callB call_len_seq hg hm bb_len (pa_cons (pe_var hi hv hd hcd) pa_nil he) (by decide) (by decide) he hpl, .ref l, h1, ?_⟩
    have := h3.length
    exact ⟨l, xs, rfl, .inl (.inl (.inl h2)), by rw [this]; exact okD.at q E.bh (.int _)⟩
  · exact q.elim
end
abbrev Pt := Int × Int
abbrev lx (p q : Pt) : Prop := p.1 < q.1 ∨ (p.1 = q.1 ∧ p.2 < q.2)
theorem lx_irr (p : Pt) : ¬ lx p p := by unfold lx; omega
theorem lx_tr {p q r : Pt} (h : lx p q) (g : lx q r) : lx p r := by unfold lx at *; omega
theorem lx_tot (p q : Pt) : lx p q ∨ p = q ∨ lx q p := by
  unfold lx
  by_cases h1 : p.1 = q.1
  · by_cases h2 : p.2 = q.2
    · exact .inr (.inl (Prod.ext h1 h2))
    · omega
  · omega
instance (p q : Pt) : Decidable (lx p q) := by unfold lx; infer_instance
def insP (p : Pt) : List Pt → List Pt
  | [] => [p]
  | q :: r => if lx p q then p :: q :: r else if p = q then q :: r else q :: insP p r
def srtP (ps : List Pt) : List Pt := ps.foldr insP []
theorem mem_insP (p x : Pt) : ∀ l : List Pt, x ∈ insP p l ↔ x = p ∨ x ∈ l
  | [] => by simp [insP]
  | q :: r => by
    unfold insP
    split
    · simp
    · split
      · rename_i e
        subst e
        simp
      · rw [List.mem_cons, mem_insP p x r, List.mem_cons]
        constructor
        · rintro (h | h | h) <;> simp [h]
        · rintro (h | h | h) <;> simp [h]
theorem insP_srt (p : Pt) : ∀ l : List Pt, l.Pairwise lx → (insP p l).Pairwise lx
  | [], _ => List.pairwise_singleton _ _
  | q :: r, h => by
    obtain ⟨h1, h2⟩ := List.pairwise_cons.mp h
    unfold insP
    split
    · rename_i e
      refine List.pairwise_cons.mpr ⟨fun z hz => ?_, h⟩
      rcases List.mem_cons.mp hz with rfl | hz
      · exact e
      · exact lx_tr e (h1 z hz)
    · split
      · exact h
      · rename_i n1 n2
        refine List.pairwise_cons.mpr ⟨fun z hz => ?_, insP_srt p r h2⟩
        rcases (mem_insP p z r).mp hz with rfl | hz
        · rcases lx_tot z q with g | g | g
          · exact absurd g n1
          · exact absurd g n2
          · exact g
        · exact h1 z hz
theorem mem_srtP (x : Pt) : ∀ ps : List Pt, x ∈ srtP ps ↔ x ∈ ps
  | [] => Iff.rfl
  | p :: ps => by
    show x ∈ insP p (srtP ps) ↔ _
    rw [mem_insP, mem_srtP x ps, List.mem_cons]
theorem srtP_srt : ∀ ps : List Pt, (srtP ps).Pairwise lx
  | [] => .nil
  | p :: ps => insP_srt p _ (srtP_srt ps)
theorem srt_uniq : ∀ {a b : List Pt}, a.Pairwise lx → b.Pairwise lx → (∀ x, x ∈ a ↔ x ∈ b) → a = b
  | [], [], _, _, _ => rfl
  | [], q :: b, _, _, h => absurd ((h q).mpr List.mem_cons_self) (by simp)
  | p :: a, [], _, _, h => absurd ((h p).mp List.mem_cons_self) (by simp)
  | p :: a, q :: b, ha, hb, h => by
    obtain ⟨a1, a2⟩ := List.pairwise_cons.mp ha
    obtain ⟨b1, b2⟩ := List.pairwise_cons.mp hb
    have e : p = q := by
      rcases List.mem_cons.mp ((h p).mp List.mem_cons_self) with e | e
      · exact e
      · rcases List.mem_cons.mp ((h q).mpr List.mem_cons_self) with g | g
        · exact g.symm
        · exact absurd (lx_tr (b1 p e) (a1 q g)) (lx_irr _)
    subst e
    have h' : ∀ x, x ∈ a ↔ x ∈ b := fun x => by
      constructor
      · intro hx
        rcases List.mem_cons.mp ((h x).mp (List.mem_cons_of_mem _ hx)) with g | g
        · rw [g] at hx; exact absurd (a1 p hx) (lx_irr p)
        · exact g
      · intro hx
        rcases List.mem_cons.mp ((h x).mpr (List.mem_cons_of_mem _ hx)) with g | g
        · rw [g] at hx; exact absurd (b1 p hx) (lx_irr p)
        · exact g
    rw [srt_uniq a2 b2 h']
theorem srtP_of {qs ps : List Pt} (h1 : qs.Pairwise (fun q r => SrtO.lexB r q = false)) (h2 : qs.Nodup) (h : ∀ x, x ∈ qs ↔ x ∈ ps) : qs = srtP ps := by
  refine srt_uniq ?_ (srtP_srt ps) fun x => (h x).trans (mem_srtP x ps).symm
  refine (h1.and h2).imp fun {q r} hh => ?_
  have g : ¬ lx r q := SrtO.lexB_no.mp hh.1
  rcases lx_tot q r with e | e | e
  · exact e
  · exact absurd e hh.2
  · exact absurd e g
def keyP (q : Pt) : List Key := [Sum.inl q.1, Sum.inl q.2]
def kPt (H : Hp) : Value → Pt
  | .ref b => (match H b with
    | some (.tup [.int x, .int y]) => (x, y)
    | _ => (0, 0))
  | _ => (0, 0)
def adr : Value → Addr
  | .ref b => b
  | _ => 0
theorem keys_at {H : Hp} {h : Heap} {P : Program} {w : World} : ∀ {ks : List (List Key × Addr × Value)} {kvs : List (List Key × V)} {ps : List Pt}, KT H kvs ks → kvs.map (·.1) = ps.map keyP → HOk P w H h →
    (ks.map fun x => kPt H (.ref x.2.1)) = ps ∧ ∀ x ∈ ks, H x.2.1 = some (.tup [.int (kPt H (.ref x.2.1)).1, .int (kPt H (.ref x.2.1)).2])
  | [], [], [], .nil, _, _ => ⟨rfl, fun x hx => absurd hx (by simp)⟩
  | [], [], _ :: _, .nil, e, _ => by simp at e
  | x :: ks, kv :: kvs, [], .cons _ _, e, _ => by simp at e
  | x :: ks, kv :: kvs, q :: ps, .cons h t, e, ok => by
    obtain ⟨e1, e2⟩ := List.cons.inj (show kv.1 :: kvs.map (·.1) = keyP q :: ps.map keyP from e)
    obtain ⟨r1, r2⟩ := keys_at t e2 ok
    have hb : H x.2.1 = some (.tup [.int q.1, .int q.2]) := by
      rw [h.2.1, e1]
      rfl
    have hk : kPt H (.ref x.2.1) = q := by
      show (match H x.2.1 with
        | some (.tup [.int x, .int y]) => (x, y)
        | _ => (0, 0)) = q
      rw [hb]
    refine ⟨by rw [List.map_cons, hk, r1], fun z hz => ?_⟩
    rcases List.mem_cons.mp hz with rfl | hz
    · rw [hk]; exact hb
    · exact r2 z hz
theorem kt_keys {H : Hp} : ∀ {kvs : List (List Key × V)} {ks : List (List Key × Addr × Value)}, KT H kvs ks → kvs.map (·.1) = ks.map (·.1)
  | [], [], .nil => rfl
  | _ :: _, _ :: _, .cons h t => by rw [List.map_cons, List.map_cons, h.1, kt_keys t]
theorem keyP_inj {p q : Pt} (h : keyP p = keyP q) : p = q := by
  obtain ⟨h1, h2⟩ := List.cons.inj h
  obtain ⟨h3, _⟩ := List.cons.inj h2
  exact Prod.ext (Sum.inl.inj h1) (Sum.inl.inj h3)
theorem put_keys {kvs : List (List Key × V)} {pk : List Pt} (p : Pt) (v : V) (e : kvs.map (·.1) = pk.map keyP) : ∃ pk' : List Pt, (putK kvs (keyP p) v).map (·.1) = pk'.map keyP ∧ ∀ x, x ∈ pk' ↔ x = p ∨ x ∈ pk := by
  unfold putK
  split
  · rename_i h
    obtain ⟨kv, h1, h2⟩ := List.any_eq_true.mp h
    have hm : keyP p ∈ pk.map keyP := by
      rw [← e, ← of_decide_eq_true h2]
      exact List.mem_map_of_mem h1
    obtain ⟨q, hq, eq⟩ := List.mem_map.mp hm
    have hp : p ∈ pk := keyP_inj eq ▸ hq
    refine ⟨pk, ?_, fun x => ⟨.inr, fun z => z.elim (fun z => z ▸ hp) id⟩⟩
    rw [← e, List.map_map]
    refine List.map_congr_left fun x _ => ?_
    show (if x.1 = keyP p then (x.1, v) else x).1 = x.1
    split <;> rfl
  · refine ⟨pk ++ [p], by rw [List.map_append, List.map_append, e]; rfl, fun x => ?_⟩
    rw [List.mem_append, List.mem_singleton]
    exact ⟨fun z => z.elim .inr .inl, fun z => z.elim .inr .inl⟩
section
variable {X : Cx}
def rSrtD : List V → Hp → VK → Prop := fun xs H Q => ∃ (d : Addr) (kvs : List (List Key × V)) (ps : List Pt), xs = [V.ref d] ∧ H d = some (.dT kvs) ∧ kvs.map (·.1) = ps.map keyP ∧
  ∀ (ts : List Addr) (p : Addr), (∀ t ∈ ts, H t = some (.tup [.int (kPt H (.ref t)).1, .int (kPt H (.ref t)).2])) → (ts.map fun t => kPt H (.ref t)) = srtP ps → H p = none → Q (.ref p) (upd H p (.lst (ts.map V.ref)))
theorem cr_srtD (hc : X.calm = true) : CallR X (.builtin "sorted") rSrtD := by
  intro pn s σ H as bs Q I r h
  obtain ⟨d, kvs, ps, rfl, hd, hps, q⟩ := h
  obtain ⟨du, rfl, rdu⟩ := vals1 r
  cases rdu
  obtain ⟨z, hs, ks, pr, o, es, ep, ho, hx, hdt, he, hn⟩ := (show ObjOk X.prog X.w H s.heap d (.dT kvs) from I.hok d _ hd)
  obtain ⟨hp1, hp2⟩ := keys_at pr hps I.hok
  have esl : es.size = ks.length := size_of_entries he
  have kvl : kvs.length = ks.length := Paired.length pr
  refine Calls.call_function_entry PyProof.Rows.kind_sorted PyProof.Rows.plain_sorted PyProof.Rows.entry_sorted (PyProof.Rows.args_sorted1 _) ?_
  unfold Builtin.«sorted»
  refine wpAny_bind (m := checkCount "sorted" 1 1 _) (wpAny_pure ?_)
  refine wpAny_bind (PySem.W.kdu_collect (A := X.A.in1) (kdl_raw hs hx hdt) (I.ok.hd hc) ho (by omega) fun hA tk acc kpA itA => ?_)
  -- the keys, in the dict's order
  have ea : acc.toList = (ks.map fun x => x.2.1).map Value.ref := by
    have hl : acc.toList.length = ks.length := by rw [Array.length_toList, itA.1]; exact esl
    apply List.ext_getElem?
    intro j
    rw [List.map_map, List.getElem?_map]
    by_cases hj : j < ks.length
    · have ja : j < acc.toList.length := by omega
      rw [List.getElem?_eq_getElem ja, List.getElem?_eq_getElem hj]
      obtain ⟨en, hen, hv⟩ := itA.2 j acc.toList[j] (by rw [← Array.getElem?_toList]; exact List.getElem?_eq_getElem ja)
      have qe := entry_at he j
      rw [hen, List.getElem?_eq_getElem hj] at qe
      have e2 : en = entryOfKey (tupleKind (mixKind X.prog X.w)) ks[j] := Option.some.inj qe
      rw [hv, e2]
      rfl
    · rw [List.getElem?_eq_none (by omega), List.getElem?_eq_none (by omega)]
      rfl
  have hlen : acc.toList.length ≤ sizeLine := by rw [ea, List.length_map, List.length_map]; omega
  have I1 : Inv X pn σ H { s with heap := hA, toks := tk } := I.kept kpA
  refine wpAny_bind (wpAny_newList ?_ hlen)
  show wpAny _ _ _ _ _ { s with heap := hA.push (seqObj "list" acc.toList.toArray 0), toks := tk }
  have hL : (hA.push (seqObj "list" acc.toList.toArray 0)).get? hA.objs.size = some (seqObj "list" acc.toList.toArray 0) := Heap.get?_push_size _ rfl
  have refs : ∀ v ∈ acc.toList, ∃ t, v = Value.ref t ∧ H t = some (.tup [.int (kPt H v).1, .int (kPt H v).2]) := by
    intro v hv
    rw [ea] at hv
    obtain ⟨t, ht, rfl⟩ := List.mem_map.mp hv
    obtain ⟨x, hx, rfl⟩ := List.mem_map.mp ht
    exact ⟨_, rfl, hp2 x hx⟩
  have pairs : ∀ v ∈ acc.toList, Srt.IsPair (hA.push (seqObj "list" acc.toList.toArray 0)) v (kPt H v).1 (kPt H v).2 := by
    intro v hv
    obtain ⟨t, rfl, ht⟩ := refs v hv
    obtain ⟨_, its, rv, o2, g1, g2, n, g3⟩ := I1.hok t _ ht
    obtain ⟨w1, w2, rfl, ri, rj⟩ := vals2 rv
    obtain ⟨t1, rfl⟩ := ri
    obtain ⟨t2, rfl⟩ := rj
    exact ⟨t, o2, t1, t2, n, rfl, Heap.get?_push_of_some _ g1, g2, g3⟩
  refine wpAny_bind (wpAny_holding (wpAny_call_entry PyProof.Rows.slot_list_sort ⟨_, hL, rfl⟩ PyProof.Rows.entry_list_sort
    (SrtO.list_sort_ord (s := { s with heap := hA.push (seqObj "list" acc.toList.toArray 0), toks := tk }) (SrtO.swo_lex (kPt H)) hL hlen (fun h2 => SrtO.pairs_sortableO (by omega) pairs fun o2 g => ?_) fun out h1 h2 => ⟨_, rfl, ?_⟩) (PyProof.Rows.args_list_sort _)))
  · have e : some (seqObj "list" acc.toList.toArray 0) = some o2 := hL.symm.trans g
    cases e
    intro c
    exact absurd (Value.type.inj c) (by decide)
  · obtain ⟨n, hat⟩ := PyProof.Rows.sortedHeap_at (vs := acc.toList) (out := out.toArray) hL
    have orefs : ∀ v ∈ out, v = Value.ref (adr v) ∧ H (adr v) = some (.tup [.int (kPt H v).1, .int (kPt H v).2]) := fun v hv => by
      obtain ⟨t, rfl, ht⟩ := refs v (h2.perm.mem_iff.mp hv)
      exact ⟨rfl, ht⟩
    have eo : out = (out.map adr).map Value.ref := by
      rw [List.map_map]
      refine (List.map_id out).symm.trans (List.map_congr_left fun v hv => (orefs v hv).1)
    have ek : ((out.map adr).map fun t => kPt H (.ref t)) = out.map (kPt H) := by
      rw [List.map_map]
      exact List.map_congr_left fun v hv => congrArg (kPt H) (orefs v hv).1.symm
    have hz : ((out.map adr).map V.ref).length ≤ sizeLine := by
      rw [List.length_map, List.length_map, h2.len]; exact hlen
    have hv : Vals ((out.map adr).map V.ref) out := by
      conv => rhs; rw [eo]
      exact vals_refs _
    refine wpAny_pure ⟨_, rfl, .ref hA.objs.size, upd H hA.objs.size (.lst ((out.map adr).map V.ref)), I1.laid (t' := tk) (fun b u e => ?_) (Nat.le_refl _) ⟨hz, out, n, hv, hat⟩, rfl, ?_⟩
    · rw [PyProof.Rows.sortedHeap_old (Nat.ne_of_lt (Heap.lt_size e)) (by rw [PyProof.Rows.size_push']; exact Nat.lt_succ_of_lt (Heap.lt_size e))]
      exact Heap.get?_push_of_some _ e
    · refine q (out.map adr) _ (fun t ht => ?_) ?_ (I1.hok.fresh (Nat.le_refl _))
      · obtain ⟨v, hv, rfl⟩ := List.mem_map.mp ht
        have := (orefs v hv).2
        rw [(orefs v hv).1] at this
        exact this
      · rw [ek]
        have e3 : acc.toList.map (kPt H) = ps := by
          rw [ea, List.map_map, List.map_map]
          exact hp1
        have pm : (out.map (kPt H)).Perm ps := by
          rw [← e3]
          exact h2.perm.map _
        have e4 := kt_keys pr
        rw [← e4, hps] at hn
        have nd : ps.Nodup := (List.pairwise_map.mp hn).imp fun {x y} hne e => hne (congrArg keyP e)
        exact srtP_of (List.pairwise_map.mpr h1) (pm.nodup_iff.mpr nd) fun x => pm.mem_iff
end
def pPt : D → Option Pt
  | .tup [.int x, .int y] => some (x, y)
  | _ => none
def pPts : List D → Option (List Pt)
  | [] => some []
  | d :: r => (pPt d).bind fun p => (pPts r).map fun l => p :: l
def D2p (p : Pt) : D := .tup [.int p.1, .int p.2]
theorem pPt_inv {d : D} {p : Pt} (h : pPt d = some p) : d = D2p p := by
  unfold pPt at h
  split at h
  · cases h; rfl
  · cases h
theorem pPts_inv : ∀ {ds : List D} {ps : List Pt}, pPts ds = some ps → ds = ps.map D2p
  | [], ps, h => by cases h; rfl
  | d :: r, ps, h => by
    unfold pPts at h
    simp only [Option.bind_eq_some_iff, Option.map_eq_some_iff] at h
    obtain ⟨p, h1, l, h2, rfl⟩ := h
    rw [List.map_cons, ← pPt_inv h1, ← pPts_inv h2]
theorem pPts_map : ∀ ps : List Pt, pPts (ps.map D2p) = some ps
  | [] => rfl
  | p :: ps => by
    show (pPt (D2p p)).bind _ = _
    rw [show pPt (D2p p) = some p from rfl, Option.bind_some, pPts_map ps]
    rfl
theorem is_pt {K : PySem.W.Frag} {mg : Str → Option Value} {B : Hp} {v : V} {p : Pt} (h : Is K mg B v (D2p p)) : ∃ a, v = .ref a ∧ B a = some (.tup [.int p.1, .int p.2]) := by
  obtain ⟨a, xs, rfl, h1, r⟩ := h.tup_at (show (2 : Nat) ≠ 3 by decide)
  cases r with
  | cons r1 r =>
    cases r with
    | cons r2 r =>
      cases r
      rw [r1.int_inv, r2.int_inv] at h1
      exact ⟨a, rfl, h1⟩
section
variable {K : PySem.W.Frag} {mg : Str → Option Value} {W : Wd} {B H : Hp} {σ : L2.St} {ρ : En}
theorem EnvOk.forget (E : EnvOk K mg W B H σ ρ) (j : Nat) : EnvOk K mg W B H σ (ρ.set j .un) := by
  by_cases hl : j < σ.length
  · have e := E.drop j (o := σ[j])
    rw [List.set_getElem_self hl] at e
    exact e
  · rw [List.set_eq_of_length_le (by rw [← E.len]; omega)]
    exact E
theorem EnvOk.off (E : EnvOk K mg W B H σ ρ) {p : Addr} {o u : HO} (hp : H p = some u) (hu : ∀ xs, u ≠ .lst xs) (nb : B p = none) (nw : W.H p = none) : EnvOk K mg W B (upd H p o) σ ρ := by
  have ne : ∀ {G : Hp} {q : Addr} {w : HO}, G p = none → G q = some w → q ≠ p := fun n e z => by rw [z, n] at e; cases e
  refine ⟨⟨E.gr.bb, fun q w e => ?_, fun q w e => ?_, E.gr.sep⟩, E.len, E.val, fun i ds e => ?_, E.dis, E.ref⟩
  · rw [upd_ne (ne nw e)]; exact E.gr.hh q w e
  · rw [upd_ne (ne nb e)]; exact E.gr.bh q w e
  · obtain ⟨q, xs, h1, h2, h3⟩ := E.own i ds e
    have hq : q ≠ p := fun z => by
      rw [z, hp] at h2
      exact hu xs (Option.some.inj h2)
    exact ⟨q, xs, h1, by rw [upd_ne hq]; exact h2, h3⟩
end
def tupB (B H : Hp) : Hp := fun b => match H b with
  | some (.tup xs) => some (.tup xs)
  | _ => B b
theorem tupB_at {B H : Hp} {t : Addr} {xs : List V} (h : H t = some (.tup xs)) : tupB B H t = some (.tup xs) := by
  unfold tupB
  rw [h]
theorem Grow.tups {B H : Hp} (b : Same B H) : Grow B H (tupB B H) H := by
  refine ⟨fun p o e => ?_, Same.refl _, fun p o e => ?_, fun p o e t n => ?_⟩
  · unfold tupB
    split
    · rename_i xs h
      rw [b p o e] at h
      rw [← h]
    · exact e
  · unfold tupB at e
    split at e
    · rename_i xs h
      rw [h]; exact e
    · exact b p o e
  · unfold tupB
    split
    · rename_i xs h
      rw [e] at h
      exact absurd (Option.some.inj h) (t xs)
    · exact n
theorem srtP_congr {a b : List Pt} (h : ∀ x, x ∈ a ↔ x ∈ b) : srtP a = srtP b := srt_uniq (srtP_srt a) (srtP_srt b) fun x => (mem_srtP x a).trans ((h x).trans (mem_srtP x b).symm)
theorem bb_sorted : bootBuiltins "sorted" = some (.builtin "sorted") := by decide +kernel
section
variable {X : Cx} {Wx : WX} {it : Expr} {m : EM} {i j k : Nat} {x y z : Str} {ss : List Stmt} {sb : SM}
end
end GD
namespace GD
open PySem PySem.Spec PyProof.Rows L2 RT
section
variable {prog : Program} {w : World} {A : Around} {E : Value → Shared → Prop} {s : Shared}
theorem extend_rev {Rr : Result → Shared → Prop} {S it l : Addr} {items : Array Value} {c0 : Nat} (hh : A.handled = none) (hit : s.heap.IsRevIter it l ((items.size : Int) - 1)) (hl : s.heap.IsList l items) (hne : l ≠ it) (hSi : S ≠ it) (hSl : S ≠ l) (hn : items.size ≤ sizeLine)
    (hS : s.heap.get? S = some { cls := .type "list", data := .seq #[] c0 })
    (hR : ∀ h' tk acc c', (∀ b o, b ≠ S → b ≠ it → s.heap.get? b = some o → h'.get? b = some o) → h'.get? S = some { cls := .type "list", dict := none, data := .seq acc c', slots := #[] } → ItemsOf (fun i v => items[items.size - 1 - i]? = some v) acc items.size → Rr (.ok (.ret .none)) { s with heap := h', toks := tk }) :
    wpAny (model prog w) A.in1 (Builtin.List.listExtendWith (.ref S) (.ref it) .none)
      (fun fin s' => match fin with | .done f => Rr (.ok f) s' | .again c' => c'.quiet = true ∧ codeAny (model prog w) A c' Rr s') (fun e s' => Rr (.error e) s') s := by
  have Wk := (Walks.listRev (prog := prog) (w := w) (A := A.in1) hh it l hne items).toS
  have hT := Heap.IsRevIter.typeIs hit
  have off : S ∉ [it, l] := by
    intro h
    rcases List.mem_cons.mp h with e | h
    · exact hSi e
    · exact hSl (List.mem_singleton.mp h)
  have same : Builtin.List.listSameRef (.ref S) (.ref it) = false := by simp [Builtin.List.listSameRef, hSi]
  unfold Builtin.List.listExtendWith
  refine wpAny_bind (wpAny_typeOf hT ?_)
  rw [if_neg (by rw [same]; decide)]
  refine wpAny_bind (wpAny_pyIter_revIter hit ?_)
  refine wpAny_bind (wpAny_holding ?_)
  unfold Builtin.List.listLengthHint
  refine wpAny_bind (wpAny_specialOf hT nolen_lri ?_)
  show wpAny _ A.in1 (specialOf (Value.ref it) (Str.ofString "__length_hint__") >>= _) _ _ _
  refine wpAny_bind (wpAny_specialOf hT hint_lri ?_)
  generalize hid : ("list_reverseiterator.__length_hint__" : String) = nm
  wp_delta
  rw [show splitId nm = some ("list_reverseiterator", "__length_hint__") from by subst hid; decide +kernel]
  subst hid
  refine wpAny_bind (wpAny_isInstance (b := true) hT (by rw [isSubtype_type]; kernel_rfl) ?_)
  refine wpAny_pure ?_
  rw [if_neg (by decide)]
  have e0 : ((items.size : Nat) : Int) - 1 - ((0 : Nat) : Int) = (items.size : Int) - 1 := by omega
  refine wpAny_pure ⟨plainId_quiet F.plain_extend_loop _, codeAny_extend_loopS Wk hn _ off _ items.size 0 _ _ _ rfl (Nat.zero_le _) ⟨Nat.zero_le _, by rw [e0]; exact hit, hl⟩ hS (ItemsOf.nil _) fun s' acc' c' hm hS' hacc => ?_⟩
  rw [Moved.eq_with hm]
  refine hR s'.heap s'.toks acc' c' (fun b o hb hb2 e => hm.heap b o (fun hmem => ?_) e) hS' hacc
  rcases List.mem_cons.mp hmem with e' | hmem
  · exact hb e'
  · exact hb2 (List.mem_singleton.mp hmem)
theorem list_rev {Q : Value → Shared → Prop} {it l : Addr} {items : Array Value} (hh : A.handled = none) (hit : s.heap.IsRevIter it l ((items.size : Int) - 1)) (hl : s.heap.IsList l items) (hne : l ≠ it) (hn : items.size ≤ sizeLine)
    (hQ : ∀ h' tk acc c', (∀ b o, b ≠ it → s.heap.get? b = some o → h'.get? b = some o) → h'.get? s.heap.objs.size = some { cls := .type "list", dict := none, data := .seq acc c', slots := #[] } → ItemsOf (fun i v => items[items.size - 1 - i]? = some v) acc items.size → Q (.ref s.heap.objs.size) { s with heap := h', toks := tk }) :
    wpAny (model prog w) A (call (.type "list") [.ref it]) Q E s := by
  obtain ⟨oi, hoi, _⟩ := id hit
  obtain ⟨ol, hol, _⟩ := id hl
  have ni : s.heap.objs.size ≠ it := Nat.ne_of_gt (Heap.lt_size hoi)
  have nl : s.heap.objs.size ≠ l := Nat.ne_of_gt (Heap.lt_size hol)
  refine callType_codes (Q₁ := fun obj s1 => obj = .ref s.heap.objs.size ∧ s1 = { s with heap := s.heap.push { cls := .type "list", data := .seq #[] } }) PySem.F.called_list (PySem.F.typeCall_list_1 _) PySem.F.entry_list_init
    (code_list_new _ ⟨rfl, rfl⟩) fun obj s1 h1 => ?_
  obtain ⟨rfl, rfl⟩ := h1
  have hS : (s.heap.push { cls := .type "list", data := .seq #[] }).get? s.heap.objs.size = some { cls := .type "list", data := .seq #[] } := Heap.get?_push_size _ rfl
  refine ⟨⟨_, hS, rfl⟩, PySem.F.args_list_init_2 _ _, ?_⟩
  show wpAny _ _ (do let old ← Builtin.List.listItems (.ref s.heap.objs.size); Builtin.List.listUpdate (.ref s.heap.objs.size) (fun _ => #[]); letGo old.toList.reverse; Builtin.List.listExtendWith (.ref s.heap.objs.size) (.ref it) .none) _ _ _
  refine wpAny_bind ?_
  unfold Builtin.List.listItems
  refine wpAny_bind (wpAny_seqItems hS rfl (wpAny_pure ?_))
  show wpAny _ _ (updateSeq s.heap.objs.size (fun _ => #[]) >>= fun _ => letGo (#[] : Array Value).toList.reverse >>= fun _ => Builtin.List.listExtendWith (.ref s.heap.objs.size) (.ref it) .none) _ _ _
  refine wpAny_bind (wpAny_updateSeq hS rfl ?_)
  have hS2 := Heap.get?_update_self (Obj.mapSeq (fun _ => (#[] : Array Value))) hS rfl
  have old : ∀ b o, s.heap.get? b = some o → ((s.heap.push { cls := .type "list", data := .seq #[] }).update s.heap.objs.size (Obj.mapSeq (fun _ => (#[] : Array Value)))).get? b = some o := fun b o e =>
    (Heap.get?_update_other _ _ (Nat.ne_of_gt (Heap.lt_size e))).trans (Heap.get?_push_of_some _ e)
  refine wpAny_bind (wpAny_letGo ?_)
  refine extend_rev hh (hit.at fun o e => old _ _ e) ?_ hne ni nl hn hS2 fun h' tk acc c' k g i => ?_
  · obtain ⟨o, ho, r⟩ := id hl
    exact ⟨o, old _ _ ho, r⟩
  · exact ⟨rfl, hQ h' tk acc c' (fun b o hb e => k b o (Nat.ne_of_lt (Heap.lt_size e)) hb (old b o e)) g i⟩
end
def tListRev (K : PySem.W.Frag) (te : TE) : TE := fun σ H Q => te σ H fun v H1 => ∃ (a : Addr) (xs : List V), v = .ref a ∧ SqL K H1 a xs ∧ ∀ q, H1 q = none → Q (.ref q) (upd H1 q (.lst xs.reverse))
section
variable {X : Cx} {Wx : WX} {a b e : Expr} {ma mb m : EM} {pos p p2 pos2 : Pos}
theorem pe_listRev {te : TE} (hc : X.calm = true) (hg : Gl X "list") (hm : X.mg "list" = none) (hg2 : Gl X "reversed") (hm2 : X.mg "reversed" = none) (he : PE X e te)
    (hs : starEach [e] X.env = (false, eval e X.env) :: starEach [] X.env) (hs2 : starEach [.Call (.Name "reversed" p2) [e] [] pos2] X.env = (false, eval (.Call (.Name "reversed" p2) [e] [] pos2) X.env) :: starEach [] X.env) :
    PE X (.Call (.Name "list" p) [.Call (.Name "reversed" p2) [e] [] pos2] [] pos) (tListRev X.K te) := by
  constructor
  intro pn s σ H Q I h
  refine Call_ (ld_blt I hg hm boot_list (PyProof.Rows.callWith_type1 (args_cons (Call_ (ld_blt I hg2 hm2 PyProof.Rows.boot_reversed (PyProof.Rows.callWith_type1 (args_cons (thn (he.run pn s σ H _ I h) fun u s1 ⟨v, H1, I1, r1, q1⟩ => args_nil ?_) hs) hs rfl))) hs2) hs2 rfl))
  obtain ⟨l, xs, rfl, hq, q⟩ := q1
  cases r1
  obtain ⟨its, rv, pl, hz⟩ := I1.list hq
  refine call_reversed_list pl.isList (args_nil ?_)
  have k0 : ∀ b o, s1.heap.get? b = some o → (s1.heap.push (revObj l ((its.toArray.size : Int) - 1))).get? b = some o := fun b o e => Heap.get?_push_of_some _ e
  have I2 : Inv X pn σ H1 { s1 with heap := s1.heap.push (revObj l ((its.toArray.size : Int) - 1)) } := I1.kept (t' := s1.toks) k0
  have fp := I1.fpOk (H' := H1) (b := s1.heap.objs.size) (Nat.le_refl _) (I1.hok.fresh (Nat.le_refl _))
  have hl := pl.isList
  obtain ⟨ol, hol, _⟩ := id hl
  have hz2 : its.toArray.size ≤ sizeLine := by rw [List.size_toArray, ← rv.length]; exact hz
  refine list_rev (s := { s1 with heap := s1.heap.push (revObj l ((its.toArray.size : Int) - 1)) }) (I1.ok.hd hc) ⟨_, Heap.get?_push_size _ rfl, rfl, rfl⟩ (hl.push _) (Nat.ne_of_lt (Heap.lt_size hol)) hz2 fun h' tk acc c' k g i => ?_
  have J := I2.turnedNew (t' := tk) (h' := h') (ch := [s1.heap.objs.size]) (T := _) (ob := .lst xs.reverse) (fun b o hb e => k b o (fun z => hb (List.mem_singleton.mpr z)) e) (fun b hb => by rw [List.mem_singleton.mp hb]; exact fp) (Nat.le_refl _)
    ⟨by rw [List.length_reverse]; exact hz, acc.toList, c', vals_rev rv i, by rw [Array.toArray_toList]; exact g⟩
  exact ⟨.ref _, _, J, rfl, q _ (I2.hok.fresh (Nat.le_refl _))⟩
def catL : D → D → Option (List D)
  | .lst xs, .lst ys => if xs.length + ys.length ≤ sizeLine then some (xs ++ ys) else none
  | _, _ => none
def aCat (ma mb : EM) : AM := fun ρ => (ma ρ).bind fun x => (mb ρ).bind fun y => R.ofO (catL x y)
theorem pfd_cat (ha : PED X Wx a ma) (hb : PED X Wx b mb) : PFD X Wx (.BinOp a .Add b pos) (aCat ma mb) := by
  intro W σ H B ρ E Q h
  refine ⟨_, pe_op op_cat pe_wp pe_wp, ?_⟩
  refine ha W σ H B ρ E _ ((show Post ((ma ρ).bind fun x => (mb ρ).bind fun y => R.ofO (catL x y)) _ _ from h).bind.mono (fun d _ hd v B1 H1 g1 r1 => ?_) fun _ z => z)
  refine hb W σ H1 B1 ρ (E.grow g1) _ (hd.bind.mono (fun f _ hf u B2 H2 g2 r2 => ?_) fun _ z => z.later g1)
  obtain ⟨ds, e1, q⟩ := Post.ofO hf
  unfold catL at e1
  split at e1
  · rename_i xs ys
    split at e1
    · rename_i hl
      cases e1
      obtain ⟨p, us, rfl, k1, l1⟩ := (r1.mono g2.bb).lst_inv
      obtain ⟨p', ws, rfl, k2, l2⟩ := r2.lst_inv
      exact ⟨p, p', us, ws, rfl, rfl, g2.bh _ _ k1, g2.bh _ _ k2, by rw [l1.length, l2.length]; exact hl, fun z hz => okF.nl ((q.later g1).later g2) g2.bh hz (l1.append l2)⟩
    · cases e1
  · cases e1
def aLRev (m : EM) : AM := fun ρ => (m ρ).bind fun d => (R.ofO (asL d)).bind fun ds => .ok ds.reverse
theorem pfd_listRev (hc : X.calm = true) (hg : Gl X "list") (hm : X.mg "list" = none) (hg2 : Gl X "reversed") (hm2 : X.mg "reversed" = none) (he : PED X Wx e m)
    (hs : starEach [e] X.env = (false, eval e X.env) :: starEach [] X.env := by rfl) (hs2 : starEach [.Call (.Name "reversed" p2) [e] [] pos2] X.env = (false, eval (.Call (.Name "reversed" p2) [e] [] pos2) X.env) :: starEach [] X.env := by rfl) :
    PFD X Wx (.Call (.Name "list" p) [.Call (.Name "reversed" p2) [e] [] pos2] [] pos) (aLRev m) := by
  intro W σ H B ρ E Q h
  refine ⟨_, pe_listRev hc hg hm hg2 hm2 pe_wp hs hs2, ?_⟩
  refine he W σ H B ρ E _ ((show Post ((m ρ).bind fun d => (R.ofO (asL d)).bind fun ds => R.ok ds.reverse) _ _ from h).bind.mono (fun d _ hd v B1 H1 g1 r1 => ?_) fun _ z => z)
  obtain ⟨ds, e1, q⟩ := hd.bind.ofO
  have q' : okF X B1 H1 Q ds.reverse := (show okF X B H Q ds.reverse from q).later g1
  unfold asL at e1
  split at e1
  · cases e1
    obtain ⟨p, us, rfl, k1, l1⟩ := r1.lst_inv
    exact ⟨p, us, rfl, seqL_of g1.bh k1, fun z hz => q'.nl g1.bh hz l1.rev⟩
  · cases e1
    obtain ⟨p, rfl, k1⟩ := r1.scr_inv
    exact ⟨p, _, rfl, g1.bh.seq k1, fun z hz => q'.nl g1.bh hz (IsL.ints _).rev⟩
  · cases e1
end
def fuelL (i : Nat) : En → Nat := fun ρ => match ρ[i]? with
  | some (.l ds) => ds.length + 1
  | _ => 0
end GD
namespace GD
open PySem PySem.Spec PyProof.Rows L2
def insD (ds : List D) (k d : D) : Option (List D) := match k with
  | .int j => if 0 ≤ j ∧ j < 2 ^ 63 ∧ ds.length < sizeLine then some (ds.take j.toNat ++ [d] ++ ds.drop j.toNat) else none
  | _ => none
def sIns (i : Nat) (mk m : EM) : SM := fun ρ => match ρ[i]? with
  | some (.l ds) => ofR ((mk ρ).bind fun k => (m ρ).bind fun d => R.ofO (insD ds k d)) ρ fun es => .nx (ρ.set i (.l es))
  | _ => .st
section
variable {X : Cx} {Wx : WX} {a b c e f : Expr} {es : List Expr} {pos p cp ap : Pos} {ma mb m mk : EM} {mr : AM} {i : Nat} {x : Str}
end
structure KC3 (K : PySem.W.Frag) (mg : Str → Option Value) (x : Str) (i j k : Int) : Prop where
  h : ∃ a : Addr, mg x = some (.ref a) ∧ KT3 K a i j k
def dInB (d : D) (ds : List D) : Bool := (toPs ds).any fun z => PyData.eqv z (toP d)
def dIn (d e : D) : Option D := match e with
  | .lst ds => if SeqAt.shaped (toP d) = true ∧ SeqAt.shaped (toP (.lst ds)) = true then some (.bl (dInB d ds)) else none
  | .str y => match d with
    | .str x => some (.bl (!(Builtin.Str.occurrences y x 0 y.length 1).isEmpty))
    | _ => none
  | _ => none
def dNotIn (d e : D) : Option D := match dIn d e with
  | some (.bl b) => some (.bl (!b))
  | _ => none
theorem hr_in {k : Nat} {A : Around} (r : Room k A) : A.units + 65 < cLine := by have := r.un; omega
section
variable {X : Cx}
theorem dIn_inv {d e d' : D} (g : dIn d e = some d') : (∃ ds, e = .lst ds ∧ SeqAt.shaped (toP d) = true ∧ SeqAt.shaped (toP (.lst ds)) = true ∧ d' = .bl (dInB d ds)) ∨
    ∃ x y, d = .str x ∧ e = .str y ∧ d' = .bl (!(Builtin.Str.occurrences y x 0 y.length 1).isEmpty) := by
  unfold dIn at g
  split at g
  · obtain ⟨⟨h1, h2⟩, rfl⟩ := some_ite g
    exact .inl ⟨_, rfl, h1, h2, rfl⟩
  · split at g
    · cases g
      exact .inr ⟨_, _, rfl, rfl, rfl⟩
    · cases g
  · cases g
theorem opd_in (hu : X.A.units + 65 < cLine) : OpD X (compareOp .In) dIn := by
  intro B H x y d e d' Q b rx ry g q
  rcases dIn_inv g with ⟨ds, rfl, h1, h2, rfl⟩ | ⟨x', y', rfl, rfl, rfl⟩
  · exact ⟨_, op_inD hu, _, _, rx.dp b (.inl h1), ry.dp b (.inl h2), h1, h2, q.at b (.bl _)⟩
  · rw [rx.str_inv, ry.str_inv]
    exact ⟨_, op_in_str, _, _, rfl, rfl, q.at b (.bl _)⟩
theorem opd_notIn (hu : X.A.units + 65 < cLine) : OpD X (compareOp .NotIn) dNotIn := by
  intro B H x y d e d' Q b rx ry g q
  unfold dNotIn at g
  split at g
  · rename_i bb hb
    cases g
    rcases dIn_inv hb with ⟨ds, rfl, h1, h2, h3⟩ | ⟨x', y', rfl, rfl, h3⟩
    · cases h3
      exact ⟨_, op_notInD hu, _, _, rx.dp b (.inl h1), ry.dp b (.inl h2), h1, h2, q.at b (.bl _)⟩
    · cases h3
      rw [rx.str_inv, ry.str_inv]
      exact ⟨_, op_notin_str, _, _, rfl, rfl, q.at b (.bl _)⟩
  · cases g
end
section
variable {X : Cx} {Wx : WX} {a b c : Expr} {pos : Pos} {ma mb mc : EM}
end
section
variable {K : PySem.W.Frag} {mg : Str → Option Value} {B : Hp}
end
section
variable {X : Cx} {Wx : WX} {e o a : Expr} {es : List Expr} {f m x : Str} {pos apos p : Pos} {me mo ma : EM} {mr : AM} {cs : List Str}
end
section
variable {X : Cx} {CX : CXT} {k : Nat} {m : Str} {E : L2.St → XK} {o e : Expr} {es : List Expr} {ta : TE} {t : TA} {apos pos p : Pos} {pl : Sem Bool}
end
section
variable {X : Cx} {Wx : WX} {e o a : Expr} {es : List Expr} {f m x : Str} {pos apos p : Pos} {me mo ma : EM} {mr : AM} {cs : List Str}
end
structure ObjC (K : PySem.W.Frag) (C : Addr) : Prop where
  cl : Cls K C
  ha : PySem.W.findIn K (.ref C) "__class__" = some (some (.builtin "object.__class__"))
  hn : PySem.W.specialIn K (.builtin "object.__class__") "__get__" = some (some (.builtin "getset_descriptor.__get__"))
  ht : PySem.W.takesIn K (.builtin "object.__class__") = some true
  hm : PySem.W.mroIn K C (.type "object") = some true
section
variable {K : PySem.W.Frag} {mg : Str → Option Value} {B : Hp}
end
section
variable {X : Cx} {Wx : WX} {o e : Expr} {pos apos : Pos} {mo me : EM}
end
section
variable {X : Cx} {K : PySem.W.Frag} {mg : Str → Option Value} {B : Hp}
end
section
variable {X : Cx} {Wx : WX} {o e : Expr} {pos apos : Pos} {mo me m : EM} {sb : SM}
end
section
variable {X : Cx} {Wx : WX} {elt tg iter : Expr} {ifs : List Expr} {scope : Scope} {own : List (Str × Nat)} {ma m : EM} {t : TM} {g : D → En → Option En}
end
structure KCS (mg : Str → Option Value) (x s : Str) : Prop where
  h : ∃ t : Tok, mg x = some (.str s t)
inductive AV where
  | d (d : D)
  | r (t : Nat)
inductive Cell where
  | lst (as : List AV)
  | dct (kas : List (Key × AV))
  | lk (kas : List (Key × AV))
  | obj (x : Str) (fas : List (Str × AV))
abbrev Sto := List Cell
section
variable (K : PySem.W.Frag) (mg : Str → Option Value) (al : List Addr) (B : Hp)
inductive IsA : V → AV → Prop
  | d {v : V} {d : D} (h : Is K mg B v d) : IsA v (.d d)
  | r {t : Nat} {p : Addr} (h : al[t]? = some p) : IsA (.ref p) (.r t)
inductive IsAL : List V → List AV → Prop
  | nil : IsAL [] []
  | cons {v : V} {vs : List V} {a : AV} {as : List AV} (h : IsA K mg al B v a) (r : IsAL vs as) : IsAL (v :: vs) (a :: as)
inductive IsP {κ : Type} : List (κ × V) → List (κ × AV) → Prop
  | nil : IsP [] []
  | cons {k : κ} {v : V} {a : AV} {kvs : List (κ × V)} {kas : List (κ × AV)} (h : IsA K mg al B v a) (r : IsP kvs kas) : IsP ((k, v) :: kvs) ((k, a) :: kas)
inductive CellOk (G H : Hp) (p : Addr) : Cell → Prop
  | lst {xs : List V} {as : List AV} (h : H p = some (.lst xs)) (r : IsAL K mg al B xs as) (n : G p = none) : CellOk G H p (.lst as)
  | dct {kvs : List (Key × V)} {kas : List (Key × AV)} (h : H p = some (.dK kvs)) (r : IsP K mg al B kvs kas) (n : G p = none) : CellOk G H p (.dct kas)
  | lk {o : Obj} {kvs : List (Key × V)} {kas : List (Key × AV)} (h : G p = some (.frz o (.dK kvs))) (r : IsP K mg al B kvs kas) : CellOk G H p (.lk kas)
  | obj {C dx : Addr} {fs : List (Str × V)} {x : Str} {fas : List (Str × AV)} (m : mg x = some (.ref C)) (h : H p = some (.ins C dx fs)) (r : IsP K mg al B fs fas) (n : G p = none) : CellOk G H p (.obj x fas)
structure StOk (G : Hp) (n : Nat) (s : Sto) (H : Hp) : Prop where
  len : al.length = s.length
  nd : al.Nodup
  cell : ∀ (t : Nat) (c : Cell), s[t]? = some c → ∃ p, al[t]? = some p ∧ B p = none ∧ CellOk K mg al B G H p c
  new : ∀ (t : Nat) (p : Addr), n ≤ t → al[t]? = some p → G p = none
end
theorem pre_get {α : Type} {l m : List α} (h : l <+: m) {t : Nat} {p : α} (e : l[t]? = some p) : m[t]? = some p := by
  obtain ⟨r, rfl⟩ := h
  rw [List.getElem?_append_left (List.getElem?_eq_some_iff.mp e).1]
  exact e
section
variable {K : PySem.W.Frag} {mg : Str → Option Value} {al al' : List Addr} {B B' G H H' : Hp}
theorem IsA.mono {v : V} {a : AV} (h : IsA K mg al B v a) (p : al <+: al') (e : Same B B') : IsA K mg al' B' v a := by
  cases h with
  | d h => exact .d (h.mono e)
  | r h => exact .r (pre_get p h)
theorem IsAL.mono (p : al <+: al') (e : Same B B') : ∀ {vs : List V} {as : List AV}, IsAL K mg al B vs as → IsAL K mg al' B' vs as
  | _, _, .nil => .nil
  | _, _, .cons h r => .cons (h.mono p e) (IsAL.mono p e r)
theorem IsAL.length : ∀ {vs : List V} {as : List AV}, IsAL K mg al B vs as → vs.length = as.length
  | _, _, .nil => rfl
  | _, _, .cons _ r => congrArg (· + 1) (IsAL.length r)
theorem IsAL.get : ∀ {vs : List V} {as : List AV} {i : Nat} {a : AV}, IsAL K mg al B vs as → as[i]? = some a → ∃ v, vs[i]? = some v ∧ IsA K mg al B v a
  | _, _, _, _, .nil, e => by simp at e
  | _, _, 0, a, .cons h _, e => by
    simp at e
    subst e
    exact ⟨_, rfl, h⟩
  | _, _, i + 1, a, .cons _ r, e => by
    obtain ⟨v, h1, h2⟩ := IsAL.get (i := i) (a := a) r (by simpa using e)
    exact ⟨v, by simpa using h1, h2⟩
theorem IsAL.at : ∀ {vs : List V} {as : List AV} {i : Nat} {v : V}, IsAL K mg al B vs as → vs[i]? = some v → ∃ a, as[i]? = some a ∧ IsA K mg al B v a
  | _, _, _, _, .nil, e => by simp at e
  | _, _, 0, v, .cons h _, e => by
    simp at e
    subst e
    exact ⟨_, rfl, h⟩
  | _, _, i + 1, v, .cons _ r, e => by
    obtain ⟨a, h1, h2⟩ := IsAL.at (i := i) (v := v) r (by simpa using e)
    exact ⟨a, by simpa using h1, h2⟩
theorem IsAL.append : ∀ {vs ws : List V} {as bs : List AV}, IsAL K mg al B vs as → IsAL K mg al B ws bs → IsAL K mg al B (vs ++ ws) (as ++ bs)
  | _, _, _, _, .nil, s => s
  | _, _, _, _, .cons h r, s => .cons h (IsAL.append r s)
theorem IsAL.set {v : V} {a : AV} (h : IsA K mg al B v a) : ∀ {vs : List V} {as : List AV} (i : Nat), IsAL K mg al B vs as → IsAL K mg al B (vs.set i v) (as.set i a)
  | _, _, _, .nil => .nil
  | _, _, 0, .cons _ r => .cons h r
  | _, _, i + 1, .cons h' r => .cons h' (IsAL.set h i r)
theorem IsAL.data : ∀ {vs : List V} {ds : List D}, IsL K mg B vs ds → IsAL K mg al B vs (ds.map AV.d)
  | _, _, .nil => .nil
  | _, _, .cons h r => .cons (.d h) (IsAL.data r)
theorem IsP.mono {κ : Type} (p : al <+: al') (e : Same B B') : ∀ {kvs : List (κ × V)} {kas : List (κ × AV)}, IsP K mg al B kvs kas → IsP K mg al' B' kvs kas
  | _, _, .nil => .nil
  | _, _, .cons h r => .cons (h.mono p e) (IsP.mono p e r)
theorem IsP.length {κ : Type} : ∀ {kvs : List (κ × V)} {kas : List (κ × AV)}, IsP K mg al B kvs kas → kvs.length = kas.length
  | _, _, .nil => rfl
  | _, _, .cons _ r => congrArg (· + 1) (IsP.length r)
theorem IsP.keys {κ : Type} : ∀ {kvs : List (κ × V)} {kas : List (κ × AV)}, IsP K mg al B kvs kas → kvs.map (·.1) = kas.map (·.1)
  | _, _, .nil => rfl
  | _, _, .cons _ r => congrArg (_ :: ·) (IsP.keys r)
def datas : List AV → Option (List D)
  | [] => some []
  | .d d :: r => (datas r).map fun ds => d :: ds
  | .r _ :: _ => none
theorem IsAL.datas : ∀ {vs : List V} {as : List AV} {ds : List D}, IsAL K mg al B vs as → GD.datas as = some ds → IsL K mg B vs ds
  | _, _, ds, .nil, e => by
    cases e
    exact .nil
  | _, _, ds, .cons (a := a) h r, e => by
    cases a with
    | d d =>
      obtain ⟨es, e1, rfl⟩ := Option.map_eq_some_iff.mp (show (GD.datas _).map (fun ds => d :: ds) = some ds from e)
      cases h with
      | d h => exact .cons h (IsAL.datas r e1)
    | r t => cases e
theorem nt_ins {C dx : Addr} {fs : List (Str × V)} : nt (.ins C dx fs) := fun _ q => nomatch q
theorem nt_frz {o : Obj} {u : HO} : nt (.frz o u) := fun _ q => nomatch q
theorem CellOk.mono {p : Addr} {c : Cell} (h : CellOk K mg al B G H p c) (q : al <+: al') (e : Same B B') (hp : H p = H' p) : CellOk K mg al' B' G H' p c := by
  cases h with
  | lst h r n => exact .lst (hp ▸ h) (r.mono q e) n
  | dct h r n => exact .dct (hp ▸ h) (r.mono q e) n
  | lk h r => exact .lk h (r.mono q e)
  | obj m h r n => exact .obj m (hp ▸ h) (r.mono q e) n
theorem CellOk.there {p : Addr} {c : Cell} (h : CellOk K mg al B G H p c) (s : Same G H) : ∃ o, H p = some o ∧ nt o := by
  cases h with
  | lst h r n => exact ⟨_, h, nt_lst⟩
  | dct h r n => exact ⟨_, h, nt_dK⟩
  | lk h r => exact ⟨_, s _ _ h, nt_frz⟩
  | obj m h r n => exact ⟨_, h, nt_ins⟩
theorem StOk.at {n : Nat} {s : Sto} {t : Nat} {p : Addr} (S : StOk K mg al B G n s H) (e : al[t]? = some p) : ∃ c, s[t]? = some c ∧ B p = none ∧ CellOk K mg al B G H p c := by
  have hl : t < s.length := by rw [← S.len]; exact (List.getElem?_eq_some_iff.mp e).1
  obtain ⟨q, h1, h2⟩ := S.cell t s[t] (List.getElem?_eq_getElem hl)
  rw [e] at h1
  cases h1
  exact ⟨_, List.getElem?_eq_getElem hl, h2⟩
theorem StOk.mem {n : Nat} {s : Sto} {p : Addr} (S : StOk K mg al B G n s H) (e : p ∈ al) : ∃ (t : Nat) (c : Cell), al[t]? = some p ∧ s[t]? = some c ∧ B p = none ∧ CellOk K mg al B G H p c := by
  obtain ⟨t, ht⟩ := List.getElem?_of_mem e
  obtain ⟨c, h⟩ := S.at ht
  exact ⟨t, c, ht, h⟩
theorem StOk.there {n : Nat} {s : Sto} {p : Addr} (S : StOk K mg al B G n s H) (g : Same G H) (e : p ∈ al) : B p = none ∧ ∃ o, H p = some o ∧ nt o := by
  obtain ⟨t, c, _, _, h, q⟩ := S.mem e
  exact ⟨h, q.there g⟩
theorem StOk.grow {n : Nat} {s : Sto} (S : StOk K mg al B G n s H) (gh : Same G H) (g : Grow B H B' H') : StOk K mg al B' G n s H' := by
  refine ⟨S.len, S.nd, fun t c e => ?_, S.new⟩
  obtain ⟨p, h1, h2, h3⟩ := S.cell t c e
  obtain ⟨o, h4, h5⟩ := h3.there gh
  exact ⟨p, h1, g.sep p o h4 h5 h2, h3.mono (List.prefix_refl _) g.bb (by rw [h4, g.hh p o h4])⟩
end
structure SOk (K : PySem.W.Frag) (mg : Str → Option Value) (W : Wd) (al : List Addr) (s : Sto) (B H : Hp) (σ : L2.St) (ρ : En) : Prop where
  env : EnvOk K mg ⟨W.B, W.H, al⟩ B H σ ρ
  st : StOk K mg al B W.H W.al.length s H
  pre : W.al <+: al
  off : ∀ (i : Nat) (ds : List D) (p : Addr), ρ[i]? = some (.l ds) → σ[i]? = some (some (.ref p)) → p ∉ al
structure EndOk (K : PySem.W.Frag) (mg : Str → Option Value) (W : Wd) (al : List Addr) (s : Sto) (B H : Hp) : Prop where
  gr : Grow W.B W.H B H
  st : StOk K mg al B W.H W.al.length s H
  pre : W.al <+: al
structure Stp (K : PySem.W.Frag) (mg : Str → Option Value) (W : Wd) (al : List Addr) (B H : Hp) (al' : List Addr) (s' : Sto) (B' H' : Hp) : Prop where
  ap : al <+: al'
  bb : Same B B'
  hh : ∀ p o, p ∉ al → H p = some o → H' p = some o ∧ p ∉ al'
  sep : ∀ p o, p ∉ al → H p = some o → nt o → B p = none → B' p = none
  wh : Same W.H H'
  bh : Same B' H'
  st : StOk K mg al' B' W.H W.al.length s' H'
section
variable {X : Cx} {W : Wd} {al al1 al2 : List Addr} {s s1 s2 : Sto} {B H B1 H1 B2 H2 : Hp} {σ : L2.St} {ρ : En}
theorem SOk.wh (S : SOk X.K X.mg W al s B H σ ρ) : Same W.H H := S.env.gr.hh
theorem SOk.refl (S : SOk X.K X.mg W al s B H σ ρ) : Stp X.K X.mg W al B H al s B H :=
  ⟨List.prefix_refl _, Same.refl _, fun _ _ n e => ⟨e, n⟩, fun _ _ _ _ _ n => n, S.wh, S.env.bh, S.st⟩
theorem Stp.refl' (st : StOk X.K X.mg al B W.H W.al.length s H) (wh : Same W.H H) (bh : Same B H) : Stp X.K X.mg W al B H al s B H :=
  ⟨List.prefix_refl _, Same.refl _, fun _ _ n e => ⟨e, n⟩, fun _ _ _ _ _ n => n, wh, bh, st⟩
theorem Stp.trans (a : Stp X.K X.mg W al B H al1 s1 B1 H1) (b : Stp X.K X.mg W al1 B1 H1 al2 s2 B2 H2) : Stp X.K X.mg W al B H al2 s2 B2 H2 :=
  ⟨a.ap.trans b.ap, a.bb.trans b.bb, fun p o n e => let ⟨h1, h2⟩ := a.hh p o n e; b.hh p o h2 h1, fun p o n e t z => let ⟨h1, h2⟩ := a.hh p o n e; b.sep p o h2 h1 t (a.sep p o n e t z), b.wh, b.bh, b.st⟩
theorem Stp.refl (a : Stp X.K X.mg W al B H al1 s1 B1 H1) : Stp X.K X.mg W al1 B1 H1 al1 s1 B1 H1 := Stp.refl' a.st a.wh a.bh
theorem Stp.grow (a : Stp X.K X.mg W al B H al1 s1 B1 H1) (g : Grow B1 H1 B2 H2) : Stp X.K X.mg W al B H al1 s1 B2 H2 :=
  ⟨a.ap, a.bb.trans g.bb, fun p o n e => let ⟨h1, h2⟩ := a.hh p o n e; ⟨g.hh p o h1, h2⟩, fun p o n e t z => g.sep p o (a.hh p o n e).1 t (a.sep p o n e t z), a.wh.trans g.hh, g.bh, a.st.grow a.wh g⟩
theorem SOk.step (S : SOk X.K X.mg W al s B H σ ρ) (g : Stp X.K X.mg W al B H al1 s1 B1 H1) : SOk X.K X.mg W al1 s1 B1 H1 σ ρ := by
  refine ⟨⟨⟨S.env.gr.bb.trans g.bb, g.wh, g.bh, fun p o e t n => ?_⟩, S.env.len, fun i d e => ?_, fun i ds e => ?_, S.env.dis, fun i t e => ?_⟩, g.st, S.pre.trans g.ap, fun i ds p e1 e2 => ?_⟩
  · by_cases hp : p ∈ al
    · obtain ⟨k, hk⟩ := List.getElem?_of_mem hp
      obtain ⟨c, _, h, _⟩ := g.st.at (pre_get g.ap hk)
      exact h
    · exact g.sep p o hp (S.wh p o e) t (S.env.gr.sep p o e t n)
  · obtain ⟨v, h1, h2⟩ := S.env.val i d e
    exact ⟨v, h1, h2.mono g.bb⟩
  · obtain ⟨p, xs, h1, h2, h3, h4, h5⟩ := S.env.own i ds e
    have hn := S.off i ds p e h1
    exact ⟨p, xs, h1, (g.hh p _ hn h2).1, g.sep p _ hn h2 nt_lst h3, h4, h5.mono g.bb⟩
  · obtain ⟨p, h1, h2⟩ := S.env.ref i t e
    exact ⟨p, pre_get g.ap h1, h2⟩
  · obtain ⟨p', xs, h1, h2, _⟩ := S.env.own i ds e1
    rw [h1] at e2
    cases e2
    exact (g.hh p _ (S.off i ds p e1 h1) h2).2
theorem SOk.grow (S : SOk X.K X.mg W al s B H σ ρ) (g : Grow B H B1 H1) : SOk X.K X.mg W al s B1 H1 σ ρ := S.step (S.refl.grow g)
theorem SOk.fin (S : SOk X.K X.mg W al s B H σ ρ) : EndOk X.K X.mg W al s B H := ⟨S.env.gr, S.st, S.pre⟩
end
inductive RS (α : Type) where
  | ok (a : α) (s : Sto)
  | er (x : Str) (s : Sto)
  | st
def RS.bind {α β : Type} (r : RS α) (f : α → Sto → RS β) : RS β := match r with
  | .ok a s => f a s
  | .er x s => .er x s
  | .st => .st
def RS.of {α : Type} (r : R α) (s : Sto) : RS α := match r with
  | .ok a => .ok a s
  | .er x => .er x s
  | .st => .st
def PostR {α : Type} (r : RS α) (P : α → Sto → Prop) (E : Str → Sto → Prop) : Prop := match r with
  | .ok a s => P a s
  | .er x s => E x s
  | .st => False
section
variable {α β : Type} {P : α → Sto → Prop} {Q : β → Sto → Prop} {E E' : Str → Sto → Prop}
theorem PostR.bind {r : RS α} {f : α → Sto → RS β} (h : PostR (r.bind f) Q E) : PostR r (fun a s => PostR (f a s) Q E) E := by
  cases r <;> exact h
theorem PostR.mono {P' : α → Sto → Prop} {r : RS α} (h : PostR r P E) (hp : ∀ a s, r = .ok a s → P a s → P' a s) (he : ∀ x s, E x s → E' x s) : PostR r P' E' := by
  cases r with
  | ok a s => exact hp a s rfl h
  | er x s => exact he x s h
  | st => exact h
theorem PostR.of {r : R α} {s : Sto} (h : PostR (RS.of r s) P E) : Post r (fun a => P a s) (fun x => E x s) := by
  cases r <;> exact h
theorem PostR.ofO {o : Option α} {s : Sto} (h : PostR (RS.of (R.ofO o) s) P E) : ∃ a, o = some a ∧ P a s := h.of.ofO
end
inductive OX where
  | nx (ρ : En) (s : Sto)
  | rt (a : AV) (s : Sto)
  | rf (ds : List D) (s : Sto)
  | bk (ρ : En) (s : Sto)
  | ct (ρ : En) (s : Sto)
  | er (x : Str) (ρ : En) (s : Sto)
  | st
abbrev XM := En → Sto → RS AV
abbrev XT := En → Sto → RS Bool
abbrev XA := En → Sto → RS (List AV)
abbrev XF := En → Sto → RS (List D)
abbrev XS := En → Sto → OX
def okX (X : Cx) (W : Wd) (al : List Addr) (B H : Hp) (Q : VK) (a : AV) (s' : Sto) : Prop := ∀ v al' B' H', Stp X.K X.mg W al B H al' s' B' H' → IsA X.K X.mg al' B' v a → Q v H'
def okXT (X : Cx) (W : Wd) (al : List Addr) (B H : Hp) (Q : Bool → Hp → Prop) (b : Bool) (s' : Sto) : Prop := ∀ al' B' H', Stp X.K X.mg W al B H al' s' B' H' → Q b H'
def okXA (X : Cx) (W : Wd) (al : List Addr) (B H : Hp) (Q : List V → Hp → Prop) (as : List AV) (s' : Sto) : Prop := ∀ vs al' B' H', Stp X.K X.mg W al B H al' s' B' H' → IsAL X.K X.mg al' B' vs as → Q vs H'
def okXF (X : Cx) (W : Wd) (al : List Addr) (B H : Hp) (Q : VK) (ds : List D) (s' : Sto) : Prop := ∀ p xs al' B' H', Stp X.K X.mg W al B H al' s' B' H' → H p = none → H' p = some (.lst xs) → B' p = none → p ∉ al' → IsL X.K X.mg B' xs ds → Q (.ref p) H'
def erX (X : Cx) (W : Wd) (Wx : WX) (σ : L2.St) (al : List Addr) (B H : Hp) (x : Str) (s' : Sto) : Prop := ∀ cls al' B' H', X.mg x = some cls → Stp X.K X.mg W al B H al' s' B' H' → Wx cls none σ H'
def PEX (X : Cx) (Wx : WX) (e : Expr) (m : XM) : Prop := ∀ W σ H B ρ al s, SOk X.K X.mg W al s B H σ ρ → ∀ Q, PostR (m ρ s) (okX X W al B H Q) (erX X W Wx σ al B H) → wpE X e σ H Q
def PTX (X : Cx) (Wx : WX) (e : Expr) (m : XT) : Prop := ∀ W σ H B ρ al s, SOk X.K X.mg W al s B H σ ρ → ∀ Q, PostR (m ρ s) (okXT X W al B H Q) (erX X W Wx σ al B H) → wpT X e σ H Q
def PAX (X : Cx) (Wx : WX) (es : List Expr) (m : XA) : Prop := ∀ W σ H B ρ al s, SOk X.K X.mg W al s B H σ ρ → ∀ Q, PostR (m ρ s) (okXA X W al B H Q) (erX X W Wx σ al B H) → wpA X es σ H Q
def PFX (X : Cx) (Wx : WX) (e : Expr) (m : XF) : Prop := ∀ W σ H B ρ al s, SOk X.K X.mg W al s B H σ ρ → ∀ Q, PostR (m ρ s) (okXF X W al B H Q) (erX X W Wx σ al B H) → wpE X e σ H Q
def PostX (X : Cx) (W : Wd) (Wx : WX) (o : OX) (D : Ends) : Prop := match o with
  | .nx ρ s => ∀ σ al B H, SOk X.K X.mg W al s B H σ ρ → D.nx σ H
  | .rt a s => ∀ v al B H, EndOk X.K X.mg W al s B H → IsA X.K X.mg al B v a → D.rt v H
  | .rf ds s => ∀ p xs al B H, EndOk X.K X.mg W al s B H → W.H p = none → H p = some (.lst xs) → B p = none → p ∉ al → IsL X.K X.mg B xs ds → D.rt (.ref p) H
  | .bk ρ s => ∀ σ al B H, SOk X.K X.mg W al s B H σ ρ → D.bk σ H
  | .ct ρ s => ∀ σ al B H, SOk X.K X.mg W al s B H σ ρ → D.ct σ H
  | .er x ρ s => ∀ cls σ al B H, X.mg x = some cls → SOk X.K X.mg W al s B H σ ρ → Wx cls none σ H
  | .st => False
def PSX (X : Cx) (Wx : WX) (st : Stmt) (m : XS) : Prop := ∀ W σ H B ρ al s, SOk X.K X.mg W al s B H σ ρ → ∀ D, PostX X W Wx (m ρ s) D → wpS X st D σ H
def PBX (X : Cx) (Wx : WX) (ss : List Stmt) (m : XS) : Prop := ∀ W σ H B ρ al s, SOk X.K X.mg W al s B H σ ρ → ∀ D, PostX X W Wx (m ρ s) D → wpB X ss D σ H
section
variable {X : Cx} {Wx : WX} {W : Wd} {σ : L2.St} {al al1 : List Addr} {B H B1 H1 : Hp} {s1 : Sto}
theorem okX.later {Q : VK} {a : AV} {s' : Sto} (h : okX X W al B H Q a s') (g : Stp X.K X.mg W al B H al1 s1 B1 H1) : okX X W al1 B1 H1 Q a s' := fun v al' B' H' g' r => h v al' B' H' (g.trans g') r
theorem okXT.later {Q : Bool → Hp → Prop} {b : Bool} {s' : Sto} (h : okXT X W al B H Q b s') (g : Stp X.K X.mg W al B H al1 s1 B1 H1) : okXT X W al1 B1 H1 Q b s' := fun al' B' H' g' => h al' B' H' (g.trans g')
theorem okXA.later {Q : List V → Hp → Prop} {as : List AV} {s' : Sto} (h : okXA X W al B H Q as s') (g : Stp X.K X.mg W al B H al1 s1 B1 H1) : okXA X W al1 B1 H1 Q as s' := fun v al' B' H' g' r => h v al' B' H' (g.trans g') r
theorem erX.later {x : Str} {s' : Sto} (h : erX X W Wx σ al B H x s') (g : Stp X.K X.mg W al B H al1 s1 B1 H1) : erX X W Wx σ al1 B1 H1 x s' := fun cls al' B' H' e g' => h cls al' B' H' e (g.trans g')
end
theorem Stp.fresh {X : Cx} {W : Wd} {al al1 : List Addr} {B H B1 H1 : Hp} {s s1 : Sto} (st : StOk X.K X.mg al B W.H W.al.length s H) (wh : Same W.H H) (g : Stp X.K X.mg W al B H al1 s1 B1 H1) {p : Addr} (n : H1 p = none) : H p = none := by
  cases e : H p with
  | none => rfl
  | some o =>
    by_cases hp : p ∈ al
    · obtain ⟨t, ht⟩ := List.getElem?_of_mem hp
      obtain ⟨c, _, _, hc⟩ := g.st.at (pre_get g.ap ht)
      obtain ⟨o', h, _⟩ := hc.there g.wh
      rw [n] at h
      cases h
    · rw [(g.hh p o hp e).1] at n
      cases n
section
variable {X : Cx} {Wx : WX} {e : Expr} {es : List Expr} {m : EM} {t : TM} {mr mf : AM}
def xD (m : EM) : XM := fun ρ s => RS.of ((m ρ).bind fun d => .ok (.d d)) s
def xDT (t : TM) : XT := fun ρ s => RS.of (t ρ) s
theorem erX.pure {W : Wd} {σ : L2.St} {al : List Addr} {s : Sto} {B H : Hp} {ρ : En} (S : SOk X.K X.mg W al s B H σ ρ) {x : Str} (h : erX X W Wx σ al B H x s) : erD X Wx σ B H x := fun cls B' H' e g => h cls al B' H' e (S.refl.grow g)
theorem pex_d (h : PED X Wx e m) : PEX X Wx e (xD m) := fun W σ H B ρ al s S Q q =>
  h _ σ H B ρ S.env Q (Post.mono (Post.bind (PostR.of q)) (fun d _ hd v B' H' g r => (show okX X W al B H Q (.d d) s from hd) v al B' H' (S.refl.grow g) (.d r)) fun x z => erX.pure S z)
theorem ptx_d (h : PTD X Wx e t) : PTX X Wx e (xDT t) := fun W σ H B ρ al s S Q q =>
  h _ σ H B ρ S.env Q ((PostR.of q).mono (fun d _ hd B' H' g => hd al B' H' (S.refl.grow g)) fun x z => erX.pure S z)
theorem SOk.noal {W : Wd} {σ : L2.St} {al : List Addr} {s : Sto} {B H : Hp} {ρ : En} (S : SOk X.K X.mg W al s B H σ ρ) {p : Addr} (n : H p = none) : p ∉ al := fun hp => by
  obtain ⟨_, o, h, _⟩ := S.st.there S.wh hp
  rw [n] at h
  cases h
end
def sD (m : SM) : XS := fun ρ s => match m ρ with
  | .nx ρ' => .nx ρ' s
  | .rt d => .rt (.d d) s
  | .bk ρ' => .bk ρ' s
  | .ct ρ' => .ct ρ' s
  | .er x ρ' => .er x ρ' s
  | .st => .st
section
variable {X : Cx} {Wx : WX} {st : Stmt} {ss : List Stmt} {m : SM} {W : Wd} {al : List Addr} {s : Sto} {B H : Hp} {σ : L2.St} {ρ : En}
def withAl (al : List Addr) (G H : Hp) : Hp := fun p => if p ∈ al then H p else G p
theorem SOk.kept (S : SOk X.K X.mg W al s B H σ ρ) : EnvOk X.K X.mg ⟨B, withAl al W.H H, al⟩ B H σ ρ := by
  refine ⟨⟨Same.refl _, fun p o e => ?_, S.env.bh, fun _ _ _ _ n => n⟩, S.env.len, S.env.val, fun i ds e => ?_, S.env.dis, S.env.ref⟩
  · have e' : (if p ∈ al then H p else W.H p) = some o := e
    split at e'
    · exact e'
    · exact S.wh p o e'
  · obtain ⟨p, xs, h1, h2, h3, h4, h5⟩ := S.env.own i ds e
    refine ⟨p, xs, h1, h2, h3, ?_, h5⟩
    show withAl al W.H H p = none
    unfold withAl
    rw [if_neg (S.off i ds p e h1)]
    exact h4
theorem wal_in {al : List Addr} {G H : Hp} {p : Addr} (h : p ∈ al) : withAl al G H p = H p := if_pos h
theorem wal_out {al : List Addr} {G H : Hp} {p : Addr} (h : p ∉ al) : withAl al G H p = G p := if_neg h
theorem SOk.walH (S : SOk X.K X.mg W al s B H σ ρ) {p : Addr} {o : HO} (h : W.H p = some o) : withAl al W.H H p = some o := by
  by_cases hp : p ∈ al
  · rw [wal_in hp]; exact S.wh p o h
  · rw [wal_out hp]; exact h
theorem SOk.growK (S : SOk X.K X.mg W al s B H σ ρ) {B' H' : Hp} (g : Grow B (withAl al W.H H) B' H') : EndOk X.K X.mg W al s B' H' := by
  refine ⟨⟨S.env.gr.bb.trans g.bb, fun p o e => g.hh p o (S.walH e), g.bh, fun p o e t n => g.sep p o (S.walH e) t (S.env.gr.sep p o e t n)⟩, ⟨S.st.len, S.st.nd, fun t c e => ?_, S.st.new⟩, S.pre⟩
  obtain ⟨p, h1, h2, h3⟩ := S.st.cell t c e
  obtain ⟨o, h4, h5⟩ := h3.there S.wh
  have hp : p ∈ al := List.mem_of_getElem? h1
  have hw : withAl al W.H H p = some o := by rw [wal_in hp]; exact h4
  exact ⟨p, h1, g.sep p o hw h5 h2, h3.mono (List.prefix_refl _) g.bb (by rw [h4, g.hh p o hw])⟩
theorem SOk.back {B' H' : Hp} {σ' : L2.St} {ρ' : En} (S : SOk X.K X.mg W al s B H σ ρ) (E : EnvOk X.K X.mg ⟨B, withAl al W.H H, al⟩ B' H' σ' ρ') : SOk X.K X.mg W al s B' H' σ' ρ' := by
  have F := S.growK E.gr
  have out : ∀ {p : Addr}, withAl al W.H H p = none → p ∉ al := fun {p} h hp => by
    rw [wal_in hp] at h
    obtain ⟨_, o, h2, _⟩ := S.st.there S.wh hp
    rw [h] at h2
    cases h2
  refine ⟨⟨F.gr, E.len, E.val, fun i ds e => ?_, E.dis, E.ref⟩, F.st, F.pre, fun i ds p e1 e2 => ?_⟩
  · obtain ⟨p, xs, h1, h2, h3, h4, h5⟩ := E.own i ds e
    have h4' : withAl al W.H H p = none := h4
    rw [wal_out (out h4')] at h4'
    exact ⟨p, xs, h1, h2, h3, h4', h5⟩
  · obtain ⟨p', xs, h1, h2, h3, h4, h5⟩ := E.own i ds e1
    rw [h1] at e2
    cases e2
    exact out h4
theorem PostX.d {Wx : WX} {D : Ends} {o : Out} {m : SM} (S : SOk X.K X.mg W al s B H σ ρ) (h : PostX X W Wx (sD m ρ s) D) : PostS X ⟨B, withAl al W.H H, al⟩ Wx (m ρ) D := by
  unfold sD at h
  cases e : m ρ with
  | nx ρ' => rw [e] at h; exact fun σ' B' H' E => h σ' al B' H' (S.back E)
  | rt d => rw [e] at h; exact fun v B' H' g r => h v al B' H' (S.growK g) (.d r)
  | bk ρ' => rw [e] at h; exact fun σ' B' H' E => h σ' al B' H' (S.back E)
  | ct ρ' => rw [e] at h; exact fun σ' B' H' E => h σ' al B' H' (S.back E)
  | er x ρ' => rw [e] at h; exact fun cls σ' B' H' ec E => h cls σ' al B' H' ec (S.back E)
  | st => rw [e] at h; exact h.elim
theorem psx_d (h : PSD X Wx st m) : PSX X Wx st (sD m) := fun W σ H B ρ al s S D q => h _ σ H B ρ S.kept D (PostX.d (o := m ρ) S q)
end
section
variable {κ : Type} [DecidableEq κ]
def valP (kas : List (κ × AV)) (k : κ) : Option AV := (kas.find? fun kv => decide (kv.1 = k)).map (·.2)
def putP (kas : List (κ × AV)) (k : κ) (a : AV) : List (κ × AV) :=
  if (kas.any fun kv => decide (kv.1 = k)) = true then kas.map (fun kv => if kv.1 = k then (kv.1, a) else kv) else kas ++ [(k, a)]
def dropP (kas : List (κ × AV)) (k : κ) : List (κ × AV) := kas.filter fun kv => decide (kv.1 ≠ k)
variable {K : PySem.W.Frag} {mg : Str → Option Value} {al : List Addr} {B : Hp}
theorem IsP.val {k : κ} : ∀ {kvs : List (κ × V)} {kas : List (κ × AV)}, IsP K mg al B kvs kas → (valV kvs k = none ∧ valP kas k = none) ∨ ∃ v a, valV kvs k = some v ∧ valP kas k = some a ∧ IsA K mg al B v a
  | _, _, .nil => .inl ⟨rfl, rfl⟩
  | _, _, .cons (k := j) (v := v) (a := a) (kvs := kvs) (kas := kas) h r => by
    by_cases e : j = k
    · exact .inr ⟨v, a, by simp [valV, List.find?_cons, e], by simp [valP, List.find?_cons, e], h⟩
    · have h1 : valV ((j, v) :: kvs) k = valV kvs k := by simp [valV, List.find?_cons, e]
      have h2 : valP ((j, a) :: kas) k = valP kas k := by simp [valP, List.find?_cons, e]
      rw [h1, h2]
      exact IsP.val r
theorem IsP.any {k : κ} : ∀ {kvs : List (κ × V)} {kas : List (κ × AV)}, IsP K mg al B kvs kas → (kvs.any fun kv => decide (kv.1 = k)) = (kas.any fun kv => decide (kv.1 = k))
  | _, _, .nil => rfl
  | _, _, .cons h r => by rw [List.any_cons, List.any_cons, IsP.any r]
theorem IsP.drop {k : κ} : ∀ {kvs : List (κ × V)} {kas : List (κ × AV)}, IsP K mg al B kvs kas → IsP K mg al B (dropK kvs k) (dropP kas k)
  | _, _, .nil => .nil
  | _, _, .cons (k := j) g r => by
    unfold dropK dropP
    rw [List.filter_cons, List.filter_cons]
    by_cases e : j = k
    · have h1 : ¬ decide (j ≠ k) = true := by simp [e]
      rw [if_neg h1, if_neg h1]
      exact IsP.drop r
    · have h1 : decide (j ≠ k) = true := by simp [e]
      rw [if_pos h1, if_pos h1]
      exact .cons g (IsP.drop r)
end
section
variable {K : PySem.W.Frag} {mg : Str → Option Value} {al : List Addr} {B : Hp}
theorem IsP.lookup {f : Str} : ∀ {kvs : List (Str × V)} {kas : List (Str × AV)}, IsP K mg al B kvs kas → (kvs.lookup f = none ∧ kas.lookup f = none) ∨ ∃ v a, kvs.lookup f = some v ∧ kas.lookup f = some a ∧ IsA K mg al B v a
  | _, _, .nil => .inl ⟨rfl, rfl⟩
  | _, _, .cons (k := g) (v := x) (a := y) (kvs := kvs) (kas := kas) q r => by
    show ((match f == g with | true => some x | false => kvs.lookup f) = none ∧ (match f == g with | true => some y | false => kas.lookup f) = none) ∨ ∃ v a, (match f == g with | true => some x | false => kvs.lookup f) = some v ∧ (match f == g with | true => some y | false => kas.lookup f) = some a ∧ IsA K mg al B v a
    cases e : f == g with
    | true => exact .inr ⟨x, y, rfl, rfl, q⟩
    | false => exact IsP.lookup r
theorem IsA.d_inv {v : V} {d : D} (h : IsA K mg al B v (.d d)) : Is K mg B v d := by cases h; assumption
theorem IsA.r_inv {v : V} {t : Nat} (h : IsA K mg al B v (.r t)) : ∃ p, v = .ref p ∧ al[t]? = some p := by
  cases h with
  | r h => exact ⟨_, rfl, h⟩
end
section
variable {X : Cx} {W : Wd} {al al1 : List Addr} {s s1 : Sto} {B H B1 H1 : Hp} {σ : L2.St} {ρ : En}
theorem Stp.noal (a : Stp X.K X.mg W al B H al1 s1 B1 H1) {p : Addr} (n : H1 p = none) : p ∉ al1 := fun hp => by
  obtain ⟨_, o, h, _⟩ := a.st.there a.wh hp
  rw [n] at h
  cases h
theorem Stp.now (a : Stp X.K X.mg W al B H al1 s1 B1 H1) {p : Addr} (n : H1 p = none) : W.H p = none := by
  cases e : W.H p with
  | none => rfl
  | some o => rw [a.wh p o e] at n; cases n
theorem Stp.last (a : Stp X.K X.mg W al B H al1 s1 B1 H1) {p : Addr} : (al1 ++ [p])[s1.length]? = some p := by
  rw [List.getElem?_append_right (by rw [a.st.len]; exact Nat.le_refl _), a.st.len, Nat.sub_self]
  rfl
theorem Stp.frz {p : Addr} {xs : List V} {ds : List D} (S : SOk X.K X.mg W al s B H σ ρ) (a : Stp X.K X.mg W al B H al1 s1 B1 H1) (n : H p = none) (e1 : H1 p = some (.lst xs)) (nb : B1 p = none) (na : p ∉ al1) (r : IsL X.K X.mg B1 xs ds) :
    Stp X.K X.mg W al B H al1 s1 (upd B1 p (.lst xs)) H1 ∧ Is X.K X.mg (upd B1 p (.lst xs)) (.ref p) (.lst ds) := by
  have nb' : ∀ q u, B1 q = some u → q ≠ p := fun q u e z => by rw [z, nb] at e; cases e
  have s1' : Same B1 (upd B1 p (.lst xs)) := fun q u e => by rw [upd_ne (nb' q u e)]; exact e
  refine ⟨⟨a.ap, a.bb.trans s1', a.hh, fun q u hq e t z => ?_, a.wh, fun q u e => ?_, ⟨a.st.len, a.st.nd, fun t c e => ?_, a.st.new⟩⟩, .lst upd_same (r.mono s1')⟩
  · rw [upd_ne (ne_of_none e n)]
    exact a.sep q u hq e t z
  · by_cases hq : q = p
    · subst hq; rw [upd_same] at e; rw [e1, e]
    · rw [upd_ne hq] at e; exact a.bh q u e
  · obtain ⟨q, h1, h2, h3⟩ := a.st.cell t c e
    have hq : q ≠ p := fun z => na (z ▸ List.mem_of_getElem? h1)
    exact ⟨q, h1, by rw [upd_ne hq]; exact h2, h3.mono (List.prefix_refl _) s1' rfl⟩
theorem okX.d {Q : VK} {d : D} {s' : Sto} (h : okX X W al B H Q (.d d) s') (g : Stp X.K X.mg W al B H al1 s' B1 H1) : okD X B1 H1 Q d := fun v B' H' gr r => h v al1 B' H' (g.grow gr) (.d r)
theorem okX.at {Q : VK} {a : AV} {s' : Sto} {v : V} (h : okX X W al B H Q a s') (g : Stp X.K X.mg W al B H al1 s' B1 H1) (r : IsA X.K X.mg al1 B1 v a) : Q v H1 := h v al1 B1 H1 g r
theorem okXF.d {Q : VK} {ds : List D} {s' : Sto} (S : SOk X.K X.mg W al s B H σ ρ) (h : okXF X W al B H Q ds s') (g : Stp X.K X.mg W al B H al1 s' B1 H1) : okF X B1 H1 Q ds := fun p xs B' H' gr n e1 nb r =>
  h p xs al1 B' H' (g.grow gr) (Stp.fresh S.st S.wh g n) e1 nb (g.noal n) r
theorem erX.d {Wx : WX} {x : Str} {s' : Sto} (h : erX X W Wx σ al B H x s') (g : Stp X.K X.mg W al B H al1 s' B1 H1) : erD X Wx σ B1 H1 x := fun cls B' H' e gr => h cls al1 B' H' e (g.grow gr)
end
def xVar (i : Nat) : XM := fun ρ s => match ρ[i]? with
  | some (.v d) => .ok (.d d) s
  | some (.r t) => .ok (.r t) s
  | _ => .st
def av1 (g : D → Option D) : AV → Option AV
  | .d x => (g x).map AV.d
  | _ => none
def av2 (g : D → D → Option D) : AV → AV → Option AV
  | .d x, .d y => (g x y).map AV.d
  | _, _ => none
def avs (g : List D → Option D) (as : List AV) : Option AV := (datas as).bind fun ds => (g ds).map AV.d
def xO1 (g : D → Option D) (ma : XM) : XM := fun ρ s => (ma ρ s).bind fun a s => RS.of (R.ofO (av1 g a)) s
def xO2 (g : D → D → Option D) (ma mb : XM) : XM := fun ρ s => (ma ρ s).bind fun a s => (mb ρ s).bind fun b s => RS.of (R.ofO (av2 g a b)) s
def avB : AV → Option Bool
  | .d (.bl b) => some b
  | _ => none
def xB (m : XM) : XT := fun ρ s => (m ρ s).bind fun a s => RS.of (R.ofO (avB a)) s
def xANil : XA := fun _ s => .ok [] s
def xACons (ma : XM) (mr : XA) : XA := fun ρ s => (ma ρ s).bind fun a s => (mr ρ s).bind fun as s => .ok (a :: as) s
section
variable {X : Cx} {Wx : WX} {a b c e : Expr} {es : List Expr} {pos p p2 : Pos} {ma mb mc m : XM} {mr : XA} {mf : XF} {t u : XT}
theorem seqX {α : Type} {W : Wd} {σ : L2.St} {B H : Hp} {ρ : En} {al : List Addr} {s : Sto} {k : AV → Sto → RS α} {P : α → Sto → Prop} {Rr : V → Hp → Prop} (ha : PEX X Wx a ma) (S : SOk X.K X.mg W al s B H σ ρ)
    (h : PostR ((ma ρ s).bind k) P (erX X W Wx σ al B H))
    (f : ∀ u x al1 s1 B1 H1, Stp X.K X.mg W al B H al1 s1 B1 H1 → IsA X.K X.mg al1 B1 x u → PostR (k u s1) P (erX X W Wx σ al B H) → Rr x H1) : wpE X a σ H Rr :=
  ha W σ H B ρ al s S _ (h.bind.mono (fun u s1 _ hu x al1 B1 H1 g1 rx => f u x al1 s1 B1 H1 g1 rx hu) fun _ _ z => z)
def xNotT (t : XT) : XT := fun ρ s => (t ρ s).bind fun b s => .ok (!b) s
def xAndT (t u : XT) : XT := fun ρ s => (t ρ s).bind fun b s => if b = true then u ρ s else .ok false s
def xOrT (t u : XT) : XT := fun ρ s => (t ρ s).bind fun b s => if b = true then .ok true s else u ρ s
def xAnd (m n : XM) : XM := fun ρ s => (xB m ρ s).bind fun b s => if b = true then n ρ s else .ok (.d (.bl false)) s
theorem seqB {α : Type} {W : Wd} {σ : L2.St} {B H : Hp} {ρ : En} {al : List Addr} {s : Sto} {k : Bool → Sto → RS α} {P : α → Sto → Prop} {Rr : V → Hp → Prop} (ha : PEX X Wx a ma) (S : SOk X.K X.mg W al s B H σ ρ)
    (h : PostR ((xB ma ρ s).bind k) P (erX X W Wx σ al B H))
    (f : ∀ c al1 s1 B1 H1, Stp X.K X.mg W al B H al1 s1 B1 H1 → PostR (k c s1) P (erX X W Wx σ al B H) → Rr (.bl c) H1) : wpE X a σ H Rr := by
  have h' : PostR ((ma ρ s).bind fun u s => (RS.of (R.ofO (avB u)) s).bind k) P (erX X W Wx σ al B H) := by
    unfold xB at h
    cases hm : ma ρ s with
    | ok d s1 => rw [hm] at h; exact h
    | er x s1 => rw [hm] at h; exact h
    | st => rw [hm] at h; exact h
  refine seqX ha S h' fun u x al1 s1 B1 H1 g1 rx hu => ?_
  obtain ⟨c, e1, q⟩ := hu.bind.ofO
  unfold avB at e1
  split at e1
  · cases e1
    rw [rx.d_inv.bl_inv]
    exact f _ al1 s1 B1 H1 g1 q
  · cases e1
theorem pex_one {op} (ha : PEX X Wx a ma) : PEX X Wx (.BoolOp op [a] pos) ma := fun W σ H B ρ al s S Q h => ⟨_, pe_one pe_wp, ha W σ H B ρ al s S Q h⟩
theorem pex_and {rest : List Expr} (ha : PEX X Wx a ma) (hb : PEX X Wx (.BoolOp .And (b :: rest) pos) mb) : PEX X Wx (.BoolOp .And (a :: b :: rest) pos) (xAnd ma mb) :=
  fun W σ H B ρ al s S Q h => ⟨_, pe_and pe_wp pe_wp, seqB ha S h fun c al1 s1 B1 H1 g1 q => ⟨c, rfl, by
    cases c with
    | true =>
      rw [if_pos rfl] at q ⊢
      exact hb W σ H1 B1 ρ al1 s1 (S.step g1) Q (q.mono (fun _ _ _ q => q.later g1) fun _ _ q => q.later g1)
    | false =>
      rw [if_neg Bool.false_ne_true] at q ⊢
      exact okX.at (show okX X W al B H Q (.d (.bl false)) s1 from q) g1 (.d (.bl _))⟩⟩
theorem pax_nil : PAX X Wx [] xANil := fun W σ H B ρ al s S Q h => ⟨_, pa_nil, h [] al B H S.refl .nil⟩
theorem pax_cons (ha : PEX X Wx a ma) (hr : PAX X Wx es mr) (hs : starEach (a :: es) X.env = (false, eval a X.env) :: starEach es X.env := by rfl) : PAX X Wx (a :: es) (xACons ma mr) :=
  fun W σ H B ρ al s S Q h => ⟨_, pa_cons pe_wp pa_wp hs, seqX ha S h fun u x al1 s1 B1 H1 g1 rx hu =>
    hr W σ H1 B1 ρ al1 s1 (S.step g1) _ (hu.bind.mono (fun as s2 _ has vs al2 B2 H2 g2 r2 => (show okXA X W al B H Q (u :: as) _ from has) _ al2 B2 H2 (g1.trans g2) (.cons (rx.mono g2.ap g2.bb) r2)) fun _ _ z => z.later g1)⟩
theorem xACons_len {n : Nat} (h : ∀ ρ s as s', mr ρ s = .ok as s' → as.length = n) : ∀ ρ s as s', xACons ma mr ρ s = .ok as s' → as.length = n + 1 := by
  intro ρ s as s' e
  unfold xACons at e
  cases h1 : ma ρ s with
  | ok d s1 =>
    rw [h1] at e
    change ((mr ρ s1).bind _) = _ at e
    cases h2 : mr ρ s1 with
    | ok xs s2 =>
      rw [h2] at e
      cases e
      rw [List.length_cons, h ρ s1 xs _ h2]
    | er x s2 => rw [h2] at e; cases e
    | st => rw [h2] at e; cases e
  | er x s1 => rw [h1] at e; cases e
  | st => rw [h1] at e; cases e
theorem xANil_len : ∀ (ρ : En) (s : Sto) as s', xANil ρ s = .ok as s' → as.length = 0 := by
  intro ρ s as s' e
  cases e
  rfl
theorem seqA {α : Type} {W : Wd} {σ : L2.St} {B H : Hp} {ρ : En} {al : List Addr} {s : Sto} {k : List AV → Sto → RS α} {P : α → Sto → Prop} {Rr : List V → Hp → Prop} (ha : PAX X Wx es mr) (S : SOk X.K X.mg W al s B H σ ρ)
    (h : PostR ((mr ρ s).bind k) P (erX X W Wx σ al B H))
    (f : ∀ as vs al1 s1 B1 H1, mr ρ s = .ok as s1 → Stp X.K X.mg W al B H al1 s1 B1 H1 → IsAL X.K X.mg al1 B1 vs as → PostR (k as s1) P (erX X W Wx σ al B H) → Rr vs H1) : wpA X es σ H Rr :=
  ha W σ H B ρ al s S _ (h.bind.mono (fun as s1 e hu vs al1 B1 H1 g1 rx => f as vs al1 s1 B1 H1 e g1 rx hu) fun _ _ z => z)
def xTup (mr : XA) : XM := fun ρ s => (mr ρ s).bind fun as s => RS.of ((R.ofO (datas as)).bind fun ds => if ds.length ≤ sizeLine then .ok (.d (.tup ds)) else .st) s
def xLst (mr : XA) : XF := fun ρ s => (mr ρ s).bind fun as s => RS.of ((R.ofO (datas as)).bind fun ds => if ds.length ≤ sizeLine then .ok ds else .st) s
def xNew (mf : XF) : XM := fun ρ s => (mf ρ s).bind fun ds s => .ok (.d (.lst ds)) s
theorem pex_new (h : PFX X Wx e mf) : PEX X Wx e (xNew mf) := fun W σ H B ρ al s S Q hq =>
  h W σ H B ρ al s S Q ((show PostR ((mf ρ s).bind fun ds s => RS.ok (AV.d (.lst ds)) s) (okX X W al B H Q) (erX X W Wx σ al B H) from hq).bind.mono (fun ds s1 _ hd p xs al1 B1 H1 g n e1 nb na r => by
    obtain ⟨g2, r2⟩ := g.frz S n e1 nb na r
    exact okX.at (show okX X W al B H Q (.d (.lst ds)) s1 from hd) g2 (.d r2)) fun _ _ z => z)
def xBi (g : List D → Option D) (mr : XA) : XM := fun ρ s => (mr ρ s).bind fun as s => RS.of (R.ofO (avs g as)) s
def xBf (g : List D → Option (List D)) (mr : XA) : XF := fun ρ s => (mr ρ s).bind fun as s => RS.of (R.ofO ((datas as).bind g)) s
def xF (F : List D → R D) (mr : XA) : XM := fun ρ s => (mr ρ s).bind fun as s => RS.of ((R.ofO (datas as)).bind fun ds => (F ds).bind fun d => .ok (.d d)) s
end
def keyOf : D → Option Key
  | .int i => some (.inl i)
  | .str x => some (.inr x)
  | _ => none
def avKey : AV → Option Key
  | .d d => keyOf d
  | _ => none
def cellK : Cell → Option (List (Key × AV))
  | .dct k => some k
  | .lk k => some k
  | _ => none
def dictAt (s : Sto) : AV → Option (List (Key × AV))
  | .r t => (s[t]?).bind cellK
  | _ => none
def dictRW (s : Sto) : AV → Option (Nat × List (Key × AV))
  | .r t => match s[t]? with
    | some (.dct k) => some (t, k)
    | _ => none
  | _ => none
section
variable {K : PySem.W.Frag} {mg : Str → Option Value} {al : List Addr} {B G H : Hp} {n : Nat} {s : Sto}
theorem IsP.get {κ : Type} [DecidableEq κ] {kvs : List (κ × V)} {kas : List (κ × AV)} {k : κ} {a : AV} (r : IsP K mg al B kvs kas) (e : valP kas k = some a) : ∃ v, valV kvs k = some v ∧ IsA K mg al B v a := by
  rcases r.val (k := k) with ⟨_, h⟩ | ⟨v, a', h1, h2, h3⟩
  · rw [e] at h; cases h
  · rw [e] at h2
    cases h2
    exact ⟨v, h1, h3⟩
theorem IsP.isSome {κ : Type} [DecidableEq κ] {kvs : List (κ × V)} {kas : List (κ × AV)} {k : κ} (r : IsP K mg al B kvs kas) : (valV kvs k).isSome = (valP kas k).isSome := by
  rcases r.val (k := k) with ⟨h1, h2⟩ | ⟨v, a', h1, h2, h3⟩
  · rw [h1, h2]; rfl
  · rw [h1, h2]; rfl
end
section
variable {X : Cx} {Wx : WX} {a b c e o i : Expr} {es : List Expr} {pos p p2 apos : Pos} {ma mb mc m md mk : XM} {mr : XA} {mf : XF} {t u : XT}
def xGet (md mk : XM) : XM := fun ρ s => (md ρ s).bind fun a s => (mk ρ s).bind fun k s => RS.of (R.ofO ((dictAt s a).bind fun kas => (avKey k).bind (valP kas))) s
def inAt (s : Sto) (k a : AV) : Option Bool := (dictAt s a).bind fun kas => (avKey k).map fun k => (valP kas k).isSome
def xInT (mk md : XM) : XT := fun ρ s => (mk ρ s).bind fun k s => (md ρ s).bind fun a s => RS.of (R.ofO (inAt s k a)) s
def xNotInT (mk md : XM) : XT := fun ρ s => (mk ρ s).bind fun k s => (md ρ s).bind fun a s => RS.of (R.ofO ((inAt s k a).map (!·))) s
def xLen (md : XM) : XM := fun ρ s => (md ρ s).bind fun a s => RS.of (R.ofO ((dictAt s a).map fun kas => AV.d (.int kas.length))) s
end
abbrev sl (x y : Str) : Prop := x.cps.toList < y.cps.toList
def insS (x : Str) : List Str → List Str
  | [] => [x]
  | y :: r => if sl y x then y :: insS x r else x :: y :: r
def srtS (xs : List Str) : List Str := xs.foldr insS []
def strKeys : List (Key × AV) → Option (List Str)
  | [] => some []
  | (.inr x, _) :: r => (strKeys r).map (x :: ·)
  | _ => none
section
variable {X : Cx} {Wx : WX} {a b c e o i : Expr} {es : List Expr} {pos p p2 apos : Pos} {ma mb mc m md mk mo : XM} {mr : XA} {mf : XF} {t u : XT}
def srtAt (s : Sto) (a : AV) : Option (List D) := (dictAt s a).bind fun kas => (strKeys kas).bind fun ks => if ks.length < 64 then some ((srtS ks).map D.str) else none
def xSrt (md : XM) : XF := fun ρ s => (md ρ s).bind fun a s => RS.of (R.ofO (srtAt s a)) s
def xDict0 : XM := fun _ s => .ok (.r s.length) (s ++ [.dct []])
theorem IsAL.atI {K : PySem.W.Frag} {mg : Str → Option Value} {al : List Addr} {B : Hp} {xs : List V} {as : List AV} {k : Int} {a : AV} (r : IsAL K mg al B xs as) (h : L2.atI as k = some a) : ∃ v, L2.atI xs k = some v ∧ IsA K mg al B v a := by
  unfold L2.atI at h ⊢
  rw [r.length]
  cases e : ixN as.length k with
  | none => rw [e] at h; cases h
  | some j =>
    rw [e] at h
    exact r.get h
def fldAt (x f : Str) (s : Sto) : AV → Option AV
  | .r t => match s[t]? with
    | some (.obj y fas) => if y = x then fas.lookup f else none
    | _ => none
  | _ => none
def xFld (x f : Str) (mo : XM) : XM := fun ρ s => (mo ρ s).bind fun a s => RS.of (R.ofO (fldAt x f s a)) s
end
def spX (K : PySem.W.Frag) (mg : Str → Option Value) (n : Nat) (F : List AV → Sto → RS AV) : Sp := fun vs H Q E => ∃ G al s B as, StOk K mg al B G al.length s H ∧ Same G H ∧ Same B H ∧ as.length = n ∧ IsAL K mg al B vs as ∧
  PostR (F as s) (fun a s' => ∀ v al' B' H', EndOk K mg ⟨B, G, al⟩ al' s' B' H' → IsA K mg al' B' v a → Q v H') (fun x s' => ∀ cls al' B' H', mg x = some cls → EndOk K mg ⟨B, G, al⟩ al' s' B' H' → E cls none H')
def spXF (K : PySem.W.Frag) (mg : Str → Option Value) (n : Nat) (F : List AV → Sto → RS (List D)) : Sp := fun vs H Q E => ∃ G al s B as, StOk K mg al B G al.length s H ∧ Same G H ∧ Same B H ∧ as.length = n ∧ IsAL K mg al B vs as ∧
  PostR (F as s) (fun ds s' => ∀ p xs al' B' H', EndOk K mg ⟨B, G, al⟩ al' s' B' H' → G p = none → H' p = some (.lst xs) → B' p = none → p ∉ al' → IsL K mg B' xs ds → Q (.ref p) H') (fun x s' => ∀ cls al' B' H', mg x = some cls → EndOk K mg ⟨B, G, al⟩ al' s' B' H' → E cls none H')
def lend (al : List Addr) (G H : Hp) : Hp := fun p => if p ∈ al ∧ (G p).isNone = true then none else H p
section
variable {X : Cx} {W : Wd} {al al1 : List Addr} {s s1 : Sto} {B H B1 H1 : Hp} {σ : L2.St} {ρ : En}
theorem lend_none {al : List Addr} {G H : Hp} {p : Addr} (h : p ∈ al) (n : G p = none) : lend al G H p = none := if_pos ⟨h, by rw [n]; rfl⟩
theorem lend_out {al : List Addr} {G H : Hp} {p : Addr} (h : p ∉ al) : lend al G H p = H p := if_neg fun z => h z.1
theorem lend_some {al : List Addr} {G H : Hp} {p : Addr} {o : HO} (n : G p = some o) : lend al G H p = H p := if_neg fun z => by have := z.2; rw [n] at this; cases this
theorem lend_same {al : List Addr} {G H : Hp} : Same (lend al G H) H := fun p o e => by
  unfold lend at e
  split at e
  · cases e
  · exact e
theorem StOk.lend {K : PySem.W.Frag} {mg : Str → Option Value} {G : Hp} {n : Nat} (S : StOk K mg al B G n s H) (g : Same G H) : StOk K mg al B (GD.lend al G H) al.length s H := by
  refine ⟨S.len, S.nd, fun t c e => ?_, fun t p hl e => ?_⟩
  · obtain ⟨p, h1, h2, h3⟩ := S.cell t c e
    have hp : p ∈ al := List.mem_of_getElem? h1
    refine ⟨p, h1, h2, ?_⟩
    cases h3 with
    | lst h r n => exact .lst h r (lend_none hp n)
    | dct h r n => exact .dct h r (lend_none hp n)
    | lk h r => exact .lk ((lend_some h).trans (g _ _ h)) r
    | obj m h r n => exact .obj m h r (lend_none hp n)
  · have := (List.getElem?_eq_some_iff.mp e).1
    omega
theorem SOk.ret {al' : List Addr} {s' : Sto} {B' H' : Hp} (S : SOk X.K X.mg W al s B H σ ρ) (E : EndOk X.K X.mg ⟨B, lend al W.H H, al⟩ al' s' B' H') : Stp X.K X.mg W al B H al' s' B' H' := by
  have gr := E.gr
  have old : ∀ {p : Addr} {t : Nat}, al'[t]? = some p → t < al.length → p ∈ al := fun {p t} e hl => by
    have h1 := List.getElem?_eq_getElem hl
    have h2 := pre_get E.pre h1
    rw [e] at h2
    cases h2
    exact List.getElem_mem hl
  have young : ∀ {p : Addr} {t : Nat}, al'[t]? = some p → al.length ≤ t → lend al W.H H p = none := fun {p t} e hl => E.st.new t p hl e
  have down : ∀ {p : Addr}, lend al W.H H p = none → W.H p = none := fun {p} e => by
    cases h : W.H p with
    | none => rfl
    | some o => rw [lend_some h, S.wh p o h] at e; cases e
  refine ⟨E.pre, gr.bb, fun p o hn e => ?_, fun p o hn e t z => gr.sep p o (by show lend al W.H H p = some o; rw [lend_out hn]; exact e) t z, fun p o e => gr.hh p o (by show lend al W.H H p = some o; rw [lend_some e]; exact S.wh p o e), gr.bh, ⟨E.st.len, E.st.nd, fun t c e => ?_, fun t p hn e => ?_⟩⟩
  · refine ⟨gr.hh p o (by show lend al W.H H p = some o; rw [lend_out hn]; exact e), fun hm => ?_⟩
    obtain ⟨t, ht⟩ := List.getElem?_of_mem hm
    by_cases hl : t < al.length
    · exact hn (old ht hl)
    · have := young ht (by omega)
      rw [lend_out hn, e] at this
      cases this
  · obtain ⟨p, h1, h2, h3⟩ := E.st.cell t c e
    refine ⟨p, h1, h2, ?_⟩
    cases h3 with
    | lst h r n => exact .lst h r (down n)
    | dct h r n => exact .dct h r (down n)
    | @lk o0 kvs0 kas0 h r =>
      refine .lk (o := o0) ?_ r
      have h' : lend al W.H H p = some (.frz o0 (.dK kvs0)) := h
      by_cases hl : t < al.length
      · have hp := old h1 hl
        cases hw : W.H p with
        | none => rw [lend_none hp hw] at h'; cases h'
        | some o =>
          rw [lend_some hw, S.wh p o hw] at h'
          exact h'
      · rw [young h1 (by omega)] at h'
        cases h'
    | obj m h r n => exact .obj m h r (down n)
  · by_cases hl : t < al.length
    · have h2 := S.st.new t p hn
      exact h2 (by
        have h3 := List.getElem?_eq_getElem hl
        have h4 := pre_get E.pre h3
        rw [e] at h4
        cases h4
        exact h3)
    · exact down (young e (by omega))
theorem okX.call {n : Nat} {F : List AV → Sto → RS AV} {as : List AV} {vs : List V} {Q : VK} {Wx : WX} (S : SOk X.K X.mg W al s B H σ ρ) (g : Stp X.K X.mg W al B H al1 s1 B1 H1) (r : IsAL X.K X.mg al1 B1 vs as) (hl : as.length = n) (h : PostR (F as s1) (okX X W al B H Q) (erX X W Wx σ al B H)) :
    spX X.K X.mg n F vs H1 Q (fun cls d H => Wx cls d σ H) :=
  have S1 := S.step g
  ⟨GD.lend al1 W.H H1, al1, s1, B1, as, S1.st.lend S1.wh, lend_same, g.bh, hl, r, h.mono (fun a s2 _ q v al2 B2 H2 E ra => q v al2 B2 H2 (g.trans (S1.ret E)) ra) fun x s2 q cls al2 B2 H2 e E => q cls al2 B2 H2 e (g.trans (S1.ret E))⟩
theorem okXF.call {n : Nat} {F : List AV → Sto → RS (List D)} {as : List AV} {vs : List V} {Q : VK} {Wx : WX} (S : SOk X.K X.mg W al s B H σ ρ) (g : Stp X.K X.mg W al B H al1 s1 B1 H1) (r : IsAL X.K X.mg al1 B1 vs as) (hl : as.length = n) (h : PostR (F as s1) (okXF X W al B H Q) (erX X W Wx σ al B H)) :
    spXF X.K X.mg n F vs H1 Q (fun cls d H => Wx cls d σ H) :=
  have S1 := S.step g
  ⟨GD.lend al1 W.H H1, al1, s1, B1, as, S1.st.lend S1.wh, lend_same, g.bh, hl, r, h.mono (fun ds s2 _ q p xs al2 B2 H2 E n e1 nb na rr => by
    have g2 := S1.ret E
    have na1 : p ∉ al1 := fun hp => na (g2.ap.subset hp)
    have n1 : H1 p = none := (lend_out na1).symm.trans n
    exact q p xs al2 B2 H2 (g.trans g2) (Stp.fresh S.st S.wh g n1) e1 nb na rr) fun x s2 q cls al2 B2 H2 e E => q cls al2 B2 H2 e (g.trans (S1.ret E))⟩
end
def FnX (P : Program) (w : World) (K : PySem.W.Frag) (mg : Str → Option Value) (base : Heap) (k : Nat) (x : Str) (ps : List Str) (F : List AV → Sto → RS AV) : Prop :=
  ∃ f fd, mg x = some (.ref f) ∧ PySem.W.keepIn K (.ref f) = true ∧ Binds K fd ps [] ∧ FnOk P w K mg base (L2.CX P w) k f fd ps (spX K mg ps.length F)
def FnXF (P : Program) (w : World) (K : PySem.W.Frag) (mg : Str → Option Value) (base : Heap) (k : Nat) (x : Str) (ps : List Str) (F : List AV → Sto → RS (List D)) : Prop :=
  ∃ f fd, mg x = some (.ref f) ∧ PySem.W.keepIn K (.ref f) = true ∧ Binds K fd ps [] ∧ FnOk P w K mg base (L2.CX P w) k f fd ps (spXF K mg ps.length F)
section
variable {X : Cx} {Wx : WX} {a b c e o i : Expr} {es : List Expr} {pos p p2 apos : Pos} {ma mb mc m md mk mo : XM} {mr : XA} {mf : XF} {t u : XT}
def xX (F : List AV → Sto → RS AV) (mr : XA) : XM := fun ρ s => (mr ρ s).bind F
def xXF (F : List AV → Sto → RS (List D)) (mr : XA) : XF := fun ρ s => (mr ρ s).bind F
theorem pex_callX {k : Nat} {x : Str} {ps : List Str} {F : List AV → Sto → RS AV} (hF : FnX X.prog X.w X.K X.mg X.base k x ps F) (hr : Room k X.A) (tk : Takes X Wx) (hg : Gl X x) (ha : PAX X Wx (a :: es) mr) (hn : ∀ ρ s as s', mr ρ s = .ok as s' → as.length = ps.length)
    (hdb : (x == ("__debug__" : Str)) = false := by decide) (he : starEach (a :: es) X.env = (false, eval a X.env) :: starEach es X.env := by rfl) (hpl : (backTo pos (starEach es X.env)).any (·.1) = false := by rfl) :
    PEX X Wx (.Call (.Name x p) (a :: es) [] pos) (xX F mr) := by
  obtain ⟨f, fd, hm, hk, hb, hf⟩ := hF
  intro W σ H B ρ al s S Q h
  exact ⟨_, pe_callS hf hr hg hm hk hb (fun σ => passAt tk σ) pa_wp hdb he hpl, seqA ha S h fun as vs al1 s1 B1 H1 e1 g1 r1 q => okX.call S g1 r1 (hn ρ s as s1 e1) q⟩
theorem pfx_callX {k : Nat} {x : Str} {ps : List Str} {F : List AV → Sto → RS (List D)} (hF : FnXF X.prog X.w X.K X.mg X.base k x ps F) (hr : Room k X.A) (tk : Takes X Wx) (hg : Gl X x) (ha : PAX X Wx (a :: es) mr) (hn : ∀ ρ s as s', mr ρ s = .ok as s' → as.length = ps.length)
    (hdb : (x == ("__debug__" : Str)) = false := by decide) (he : starEach (a :: es) X.env = (false, eval a X.env) :: starEach es X.env := by rfl) (hpl : (backTo pos (starEach es X.env)).any (·.1) = false := by rfl) :
    PFX X Wx (.Call (.Name x p) (a :: es) [] pos) (xXF F mr) := by
  obtain ⟨f, fd, hm, hk, hb, hf⟩ := hF
  intro W σ H B ρ al s S Q h
  exact ⟨_, pe_callS hf hr hg hm hk hb (fun σ => passAt tk σ) pa_wp hdb he hpl, seqA ha S h fun as vs al1 s1 B1 H1 e1 g1 r1 q => okXF.call S g1 r1 (hn ρ s as s1 e1) q⟩
def methAt (y m : Str) (s : Sto) : AV → Bool
  | .r t => match s[t]? with
    | some (.obj z fas) => decide (z = y) && (fas.lookup m).isNone
    | _ => false
  | _ => false
def xMeth (y m : Str) (F : List AV → Sto → RS AV) (mo : XM) (mr : XA) : XM := fun ρ s => (mo ρ s).bind fun a s => match methAt y m s a with
  | true => (mr ρ s).bind fun as s => F (a :: as) s
  | false => .st
def xMethF (y m : Str) (F : List AV → Sto → RS (List D)) (mo : XM) (mr : XA) : XF := fun ρ s => (mo ρ s).bind fun a s => match methAt y m s a with
  | true => (mr ρ s).bind fun as s => F (a :: as) s
  | false => .st
end
def zNil : XS := fun ρ s => .nx ρ s
def zSeq (a b : XS) : XS := fun ρ s => match a ρ s with
  | .nx ρ' s' => b ρ' s'
  | o => o
def ofX {α : Type} (r : RS α) (ρ : En) (k : α → Sto → OX) : OX := match r with
  | .ok a s => k a s
  | .er x s => .er x ρ s
  | .st => .st
def asSl : AV → Sl
  | .d d => .v d
  | .r t => .r t
def zIf (t : XT) (a b : XS) : XS := fun ρ s => ofX (t ρ s) ρ fun c s => if c = true then a ρ s else b ρ s
def zAsg (i : Nat) (m : XM) : XS := fun ρ s => ofX (m ρ s) ρ fun a s => .nx (ρ.set i (asSl a)) s
def zOwn (i : Nat) (m : XF) : XS := fun ρ s => ofX (m ρ s) ρ fun ds s => .nx (ρ.set i (.l ds)) s
def zRet (m : XM) : XS := fun ρ s => ofX (m ρ s) ρ .rt
def zRetF (m : XF) : XS := fun ρ s => ofX (m ρ s) ρ .rf
def zExpr (m : XM) : XS := fun ρ s => ofX (m ρ s) ρ fun _ s => .nx ρ s
def zFrz (i : Nat) (a : XS) : XS := fun ρ s => a (frz i ρ) s
def avD : AV → Option D
  | .d d => some d
  | _ => none
def zTgt (g : D → En → Option En) (m : XM) : XS := fun ρ s => ofX (m ρ s) ρ fun a s => match (avD a).bind fun d => g d ρ with
  | some ρ' => .nx ρ' s
  | none => .st
def zPut (md mk mv : XM) : XS := fun ρ s => ofX ((mv ρ s).bind fun a s => (md ρ s).bind fun d s => (mk ρ s).bind fun k s => match (dictRW s d).bind fun tk => (avKey k).bind fun j => if tk.2.length < sizeLine then some (s.set tk.1 (.dct (putP tk.2 j a))) else none with
  | some s' => .ok () s'
  | none => .st) ρ fun _ s => .nx ρ s
def zApp (i : Nat) (m : XM) : XS := fun ρ s => match ρ[i]? with
  | some (.l ds) => ofX (m ρ s) ρ fun a s => match avD a with
    | some d => if ds.length < sizeLine then .nx (ρ.set i (.l (ds ++ [d]))) s else .st
    | none => .st
  | _ => .st
def argSl (as : List AV) (n : Nat) : En := as.map asSl ++ List.replicate (n - as.length) Sl.un
def runX (n : Nat) (m : XS) (as : List AV) (s : Sto) : RS AV := match m (argSl as n) s with
  | .rt a s => .ok a s
  | .nx _ s => .ok (.d .non) s
  | .er x _ s => .er x s
  | _ => .st
def runXF (n : Nat) (m : XS) (as : List AV) (s : Sto) : RS (List D) := match m (argSl as n) s with
  | .rf ds s => .ok ds s
  | .er x _ s => .er x s
  | _ => .st
section
variable {X : Cx} {W : Wd} {al al1 : List Addr} {s s1 : Sto} {B H B1 H1 : Hp} {σ : L2.St} {ρ : En}
theorem SOk.offSet (S : SOk X.K X.mg W al s B H σ ρ) {i : Nat} {o : Option V} {sl : Sl} (hs : ∀ ds, sl ≠ .l ds) : ∀ (j : Nat) (ds : List D) (p : Addr), (ρ.set i sl)[j]? = some (.l ds) → (σ.set i o)[j]? = some (some (.ref p)) → p ∉ al := by
  intro j ds p h1 h2
  rcases get_set h1 with ⟨_, e1, _⟩ | ⟨hne, e1⟩
  · exact absurd e1.symm (hs ds)
  · rw [List.getElem?_set_ne (Ne.symm hne)] at h2
    exact S.off j ds p e1 h2
theorem SOk.set (S : SOk X.K X.mg W al s B H σ ρ) {i : Nat} {v : V} {a : AV} (h : IsA X.K X.mg al B v a) : SOk X.K X.mg W al s B H (σ.set i (some v)) (ρ.set i (asSl a)) := by
  cases h with
  | d h => exact ⟨S.env.set h, S.st, S.pre, S.offSet fun _ z => nomatch z⟩
  | @r t p h =>
    refine ⟨?_, S.st, S.pre, S.offSet fun _ z => nomatch z⟩
    have E := S.env.drop i (o := some (.ref p))
    refine ⟨E.gr, by simp [S.env.len], fun j d hj => ?_, fun j ds hj => ?_, fun j k ds es q hj hk h1 h2 => ?_, fun j t' hj => ?_⟩
    · rcases get_set hj with ⟨_, e1, _⟩ | ⟨hne, e1⟩
      · cases e1
      · obtain ⟨u, h1, h2⟩ := S.env.val j d e1
        exact ⟨u, by rw [List.getElem?_set_ne (Ne.symm hne)]; exact h1, h2⟩
    · rcases get_set hj with ⟨_, e1, _⟩ | ⟨hne, e1⟩
      · cases e1
      · obtain ⟨u, xs, h1, h2⟩ := S.env.own j ds e1
        exact ⟨u, xs, by rw [List.getElem?_set_ne (Ne.symm hne)]; exact h1, h2⟩
    · rcases get_set hj with ⟨_, e1, _⟩ | ⟨n1, e1⟩
      · cases e1
      · rcases get_set hk with ⟨_, e2, _⟩ | ⟨n2, e2⟩
        · cases e2
        · rw [List.getElem?_set_ne (Ne.symm n1)] at h1
          rw [List.getElem?_set_ne (Ne.symm n2)] at h2
          exact S.env.dis j k ds es q e1 e2 h1 h2
    · rcases get_set hj with ⟨rfl, e1, hl⟩ | ⟨hne, e1⟩
      · cases e1
        exact ⟨p, h, by rw [List.getElem?_set_self (by rw [S.env.len]; exact hl)]⟩
      · obtain ⟨q, h1, h2⟩ := S.env.ref j t' e1
        exact ⟨q, h1, by rw [List.getElem?_set_ne (Ne.symm hne)]; exact h2⟩
theorem SOk.setL (S : SOk X.K X.mg W al s B H σ ρ) {i : Nat} {p : Addr} {xs : List V} {ds : List D} (g : Stp X.K X.mg W al B H al1 s1 B1 H1) (n : H p = none) (e1 : H1 p = some (.lst xs)) (nb : B1 p = none) (na : p ∉ al1) (r : IsL X.K X.mg B1 xs ds) :
    SOk X.K X.mg W al1 s1 B1 H1 (σ.set i (some (.ref p))) (ρ.set i (.l ds)) := by
  have S1 := S.step g
  have nw : W.H p = none := S.refl.now n
  refine ⟨S1.env.setL e1 nb nw (fun j es hj _ z => ?_) r, S1.st, S1.pre, fun j es q hj hq => ?_⟩
  · obtain ⟨p', ys, h1, h2, _⟩ := S.env.own j es hj
    rw [z] at h1
    cases h1
    rw [n] at h2
    cases h2
  · rcases get_set hj with ⟨rfl, _, hl⟩ | ⟨hne, e2⟩
    · rw [List.getElem?_set_self (by rw [S.env.len]; exact hl)] at hq
      cases hq
      exact na
    · rw [List.getElem?_set_ne (Ne.symm hne)] at hq
      exact S1.off j es q e2 hq
theorem SOk.there {al' : List Addr} {s' : Sto} {B' H' : Hp} {σ' : L2.St} {ρ' : En} (g : Grow W.B W.H B H) (S : SOk X.K X.mg ⟨B, W.H, W.al⟩ al' s' B' H' σ' ρ') : SOk X.K X.mg W al' s' B' H' σ' ρ' :=
  ⟨⟨⟨g.bb.trans S.env.gr.bb, S.env.gr.hh, S.env.gr.bh, fun p o e t n => S.env.gr.sep p o e t (g.sep p o e t n)⟩, S.env.len, S.env.val, S.env.own, S.env.dis, S.env.ref⟩, S.st, S.pre, S.off⟩
theorem EndOk.there {K : PySem.W.Frag} {mg : Str → Option Value} {al' : List Addr} {s' : Sto} {B' H' : Hp} (g : Grow W.B W.H B H) (E : EndOk K mg ⟨B, W.H, W.al⟩ al' s' B' H') : EndOk K mg W al' s' B' H' :=
  ⟨⟨g.bb.trans E.gr.bb, E.gr.hh, E.gr.bh, fun p o e t n => E.gr.sep p o e t (g.sep p o e t n)⟩, E.st, E.pre⟩
end
section
variable {X : Cx} {Wx : WX} {W : Wd} {al : List Addr} {s : Sto} {a b c e o i' : Expr} {es : List Expr} {st : Stmt} {ss ts : List Stmt} {pos p pos' : Pos} {ma mb m mo md mk mv : XM} {mr : XA} {mf : XF} {t : XT} {sa sb sc : XS} {σ : L2.St} {B H : Hp} {ρ : En} {D : Ends}
theorem PostX.ofX {α : Type} {r : RS α} {k : α → Sto → OX} (h : PostX X W Wx (GD.ofX r ρ k) D) (S : SOk X.K X.mg W al s B H σ ρ) : PostR r (fun x s => PostX X W Wx (k x s) D) (erX X W Wx σ al B H) := by
  cases r with
  | ok x s => exact h
  | er x s => exact fun cls al' B' H' e g => h cls σ al' B' H' e (S.step g)
  | st => exact h
theorem pbx_nil : PBX X Wx [] zNil := fun W σ H B ρ al s S D h => ⟨_, pss_nil, (show PostX X W Wx (.nx ρ s) D from h) σ al B H S⟩
theorem pbx_cons (h1 : PSX X Wx st sa) (h2 : PBX X Wx ss sb) : PBX X Wx (st :: ss) (zSeq sa sb) :=
  fun W σ H B ρ al s S D h => ⟨_, pss_cons ps_wp pb_wp, h1 W σ H B ρ al s S { D with nx := wpB X ss D } (by
    unfold zSeq at h
    cases e : sa ρ s with
    | nx ρ' s' =>
      rw [e] at h
      exact fun σ' al' B' H' S' => h2 W σ' H' B' ρ' al' s' S' D h
    | rt d s' => rw [e] at h; exact h
    | rf d s' => rw [e] at h; exact h
    | bk ρ' s' => rw [e] at h; exact h
    | ct ρ' s' => rw [e] at h; exact h
    | er x ρ' s' => rw [e] at h; exact h
    | st => rw [e] at h; exact h)⟩
theorem pbx_one (h1 : PSX X Wx st sa) : PBX X Wx [st] sa := fun W σ H B ρ al s S D h => ⟨_, pss_one ps_wp, h1 W σ H B ρ al s S D h⟩
theorem SOk.frz (S : SOk X.K X.mg W al s B H σ ρ) (i : Nat) : ∃ B', SOk X.K X.mg W al s B' H σ (GD.frz i ρ) := by
  obtain ⟨B', E⟩ := S.kept.frz i
  exact ⟨B', S.back E⟩
theorem psx_frz (i : Nat) (h : PSX X Wx st sa) : PSX X Wx st (zFrz i sa) := fun W σ H B ρ al s S D q =>
  let ⟨B', S'⟩ := S.frz i
  h W σ H B' _ al s S' D q
theorem psx_expr (h : PEX X Wx e m) (hs : swapsWith e none pos.line X.env = pure false := by rfl) : PSX X Wx (.Expr e pos) (zExpr m) := fun W σ H B ρ al s S D q =>
  ⟨_, ps_expr pe_wp hs, h W σ H B ρ al s S _ ((PostX.ofX q S).mono (fun a s1 _ hd v al1 B1 H1 g _ => (show PostX X W Wx (.nx ρ s1) D from hd) σ al1 B1 H1 (S.step g)) fun _ _ z => z)⟩
theorem psx_ret (h : PEX X Wx e m) : PSX X Wx (.Return (some e) pos) (zRet m) := fun W σ H B ρ al s S D q =>
  ⟨_, ps_ret pe_wp, h W σ H B ρ al s S _ ((PostX.ofX q S).mono (fun a s1 _ hd v al1 B1 H1 g r => (show PostX X W Wx (.rt a s1) D from hd) v al1 B1 H1 (S.step g).fin r) fun _ _ z => z)⟩
theorem psx_if (hc : PTX X Wx c t) (ha : PBX X Wx ss sa) (hb : PBX X Wx ts sb) : PSX X Wx (.If c ss ts pos) (zIf t sa sb) := fun W σ H B ρ al s S D q =>
  ⟨_, ps_if pt_wp pb_wp pb_wp, hc W σ H B ρ al s S _ ((PostX.ofX q S).mono (fun k s1 _ hk al1 B1 H1 g => by
    cases k with
    | true =>
      rw [if_pos rfl] at hk ⊢
      exact ha W σ H1 B1 ρ al1 s1 (S.step g) D hk
    | false =>
      rw [if_neg Bool.false_ne_true] at hk ⊢
      exact hb W σ H1 B1 ρ al1 s1 (S.step g) D hk) fun _ _ z => z)⟩
end
section
variable {K : PySem.W.Frag} {mg : Str → Option Value} {W : Wd} {al al' : List Addr} {s s' : Sto} {B H B' H' : Hp} {σ σ' : L2.St} {ρ ρ' : En} {t : Nat} {p : Addr} {od : Obj} {kvs : List (Key × V)} {kas : List (Key × AV)}
end
section
variable {X : Cx} {Wx : WX} {W : Wd} {al : List Addr} {s : Sto} {a b c e o i' : Expr} {es : List Expr} {st : Stmt} {ss ts : List Stmt} {pos p pos' px : Pos} {ma mb m mo md mk mv : XM} {mr : XA} {mf : XF} {t : XT} {sa sb sc : XS} {σ : L2.St} {B H : Hp} {ρ : En} {D : Ends}
end
theorem slots_start {as : List AV} {n i : Nat} {sl : Sl} (h : (argSl as n)[i]? = some sl) : (∃ a, as[i]? = some a ∧ sl = asSl a) ∨ sl = .un := by
  unfold argSl at h
  by_cases hi : i < as.length
  · rw [List.getElem?_append_left (by rw [List.length_map]; exact hi), List.getElem?_map] at h
    cases e : as[i]? with
    | none => rw [e] at h; cases h
    | some a =>
      rw [e] at h
      cases h
      exact .inl ⟨a, rfl, rfl⟩
  · rw [List.getElem?_append_right (by rw [List.length_map]; omega), List.getElem?_replicate] at h
    split at h
    · cases h; exact .inr rfl
    · cases h
theorem sok_start {K : PySem.W.Frag} {mg : Str → Option Value} {G B H : Hp} {N : List Str} {vs : List V} {as : List AV} {al : List Addr} {s : Sto} (st : StOk K mg al B G al.length s H) (gh : Same G H) (bh : Same B H) (r : IsAL K mg al B vs as) :
    SOk K mg ⟨B, G, al⟩ al s B H (L2.start N vs) (argSl as N.length) := by
  have hl := r.length
  have at_ : ∀ {i : Nat} {v : V}, vs[i]? = some v → (L2.start N vs)[i]? = some (some v) := fun {i v} h => by
    have hi := (List.getElem?_eq_some_iff.mp h).1
    unfold L2.start
    rw [List.getElem?_append_left (by rw [List.length_map]; exact hi), List.getElem?_map, h]
    rfl
  refine ⟨⟨⟨Same.refl _, gh, bh, fun _ _ _ _ n => n⟩, by simp [L2.start, argSl, hl], fun i d h => ?_, fun i ds h => ?_, fun i j ds es p h _ _ _ => ?_, fun i t h => ?_⟩, st, List.prefix_refl _, fun i ds p h _ => ?_⟩
  · rcases slots_start h with ⟨a, ha, e⟩ | e
    · cases a with
      | d d' =>
        cases e
        obtain ⟨v, h1, h2⟩ := r.get ha
        exact ⟨v, at_ h1, h2.d_inv⟩
      | r t => cases e
    · cases e
  · rcases slots_start h with ⟨a, ha, e⟩ | e
    · cases a <;> cases e
    · cases e
  · rcases slots_start h with ⟨a, ha, e⟩ | e
    · cases a <;> cases e
    · cases e
  · rcases slots_start h with ⟨a, ha, e⟩ | e
    · cases a with
      | d d' => cases e
      | r t' =>
        cases e
        obtain ⟨v, h1, h2⟩ := r.get ha
        obtain ⟨p, rfl, hp⟩ := h2.r_inv
        exact ⟨p, hp, at_ h1⟩
    · cases e
  · rcases slots_start h with ⟨a, ha, e⟩ | e
    · cases a <;> cases e
    · cases e
section
variable {P : Program} {w : World} {K : PySem.W.Frag} {mg : Str → Option Value} {base : Heap}
theorem fnOkX_mk {x qual : Str} {st : Stmt} {f : Addr} {fd : FuncData} {N ps : List Str} {k : Nat} {m : XS} (F : Fun K x qual st f fd) (S : FnScope N ps (defScope st))
    (hb : ∀ (cdv : Value) (A : Around) (outer : List PySem.Env) (s : Shared) (H : Hp) (E : XK), Room k (A.deeper (envOfC qual (defScope st) s.heap.objs.size f cdv)) →
      PBX (cxOf (L2.CX P w) P w K mg base N qual (defScope st) f cdv A outer s H E) (fun cls d _ H => E cls d H) (defBody st) m) :
    FnOk P w K mg base (L2.CX P w) (k + 1) f fd ps (spX K mg ps.length (runX N.length m)) := by
  refine F.okX S (fun vs H Q E h => ?_) (fun cdv A outer s H vs Q E hr h => ?_)
  · obtain ⟨G, al, s, B, as, _, _, _, hl, r, _⟩ := h
    rw [r.length, hl]
  · obtain ⟨G, al, s0, B, as, st', gh, bh, hl, r, q⟩ := h
    have z := hb cdv A outer s H E hr ⟨B, G, al⟩ (L2.start N vs) H B _ al s0 (sok_start st' gh bh r) { nx := fun _ H' => Q .non H', rt := Q } (by
      unfold runX at q
      cases e : m (argSl as N.length) s0 with
      | nx ρ s1 =>
        rw [e] at q
        exact fun σ' al' B' H' S' => q .non al' B' H' S'.fin (.d .non)
      | rt a s1 =>
        rw [e] at q
        exact fun v al' B' H' E' ra => q v al' B' H' E' ra
      | rf ds s1 => rw [e] at q; exact q.elim
      | bk ρ s1 => rw [e] at q; exact q.elim
      | ct ρ s1 => rw [e] at q; exact q.elim
      | er y ρ s1 =>
        rw [e] at q
        exact fun cls σ' al' B' H' ec S' => q cls al' B' H' ec S'.fin
      | st => rw [e] at q; exact q.elim)
    exact z
theorem fnOkXF_mk {x qual : Str} {st : Stmt} {f : Addr} {fd : FuncData} {N ps : List Str} {k : Nat} {m : XS} (F : Fun K x qual st f fd) (S : FnScope N ps (defScope st))
    (hb : ∀ (cdv : Value) (A : Around) (outer : List PySem.Env) (s : Shared) (H : Hp) (E : XK), Room k (A.deeper (envOfC qual (defScope st) s.heap.objs.size f cdv)) →
      PBX (cxOf (L2.CX P w) P w K mg base N qual (defScope st) f cdv A outer s H E) (fun cls d _ H => E cls d H) (defBody st) m) :
    FnOk P w K mg base (L2.CX P w) (k + 1) f fd ps (spXF K mg ps.length (runXF N.length m)) := by
  refine F.okX S (fun vs H Q E h => ?_) (fun cdv A outer s H vs Q E hr h => ?_)
  · obtain ⟨G, al, s, B, as, _, _, _, hl, r, _⟩ := h
    rw [r.length, hl]
  · obtain ⟨G, al, s0, B, as, st', gh, bh, hl, r, q⟩ := h
    have z := hb cdv A outer s H E hr ⟨B, G, al⟩ (L2.start N vs) H B _ al s0 (sok_start st' gh bh r) { nx := fun _ H' => Q .non H', rt := Q } (by
      unfold runXF at q
      cases e : m (argSl as N.length) s0 with
      | nx ρ s1 => rw [e] at q; exact q.elim
      | rt a s1 => rw [e] at q; exact q.elim
      | rf ds s1 =>
        rw [e] at q
        exact fun p xs al' B' H' E' n e1 nb na rr => q p xs al' B' H' E' n e1 nb na rr
      | bk ρ s1 => rw [e] at q; exact q.elim
      | ct ρ s1 => rw [e] at q; exact q.elim
      | er y ρ s1 =>
        rw [e] at q
        exact fun cls σ' al' B' H' ec S' => q cls al' B' H' ec S'.fin
      | st => rw [e] at q; exact q.elim)
    exact z
end
def zTry (ct : Str → Bool) (i j : Nat) (body : XS) : XS := fun ρ s => match body ρ s with
  | .er x ρ1 s1 => if ct x = true ∧ i < ρ1.length then .nx (((ρ1.set i (.v (.exc x))).set j (.v (.exc x))).set i .un) s1 else .st
  | o => o
section
variable {X : Cx} {Wx : WX}
theorem psx_try {ct : Str → Bool} {x n m : Str} {c : Value} {i j : Nat} {body : List Stmt} {mb : XS} {np pos pos' q1 q2 q3 : Pos}
    (hct : ∀ y cls, ct y = true → X.mg y = some cls → PySem.W.exmOne X.K cls c = some true)
    (hs : X.stack = X.env :: X.outer) (hf : X.env.frame = some X.env.locals) (hN : X.N.Nodup) (hi : X.N[i]? = some n) (hln : X.env.kindOf n = some .local) (hc : Names X x c)
    (hv : Vis X.env.scope n) (hj : X.N[j]? = some m) (hx : Loc X.env.scope m)
    (hb : ∀ (W : WX) (pn : List (Addr × Obj)) (xe : Value → Shared → Prop), Takes (X.tr pn xe) W → PassesOwn (model X.prog X.w) X.A X.env xe → PBX (X.tr pn xe) W body mb)
    (hsw : swapsWith (.Name n q2) (some (.Name m q1)) q3.line X.env = pure false := by rfl) (hf2 : X.fn m = true ∨ X.env.scope.names.lookup m = some .local := by first | exact .inl rfl | exact .inr rfl | assumption)
    (hd : (n == ("__debug__" : Str)) = false := by decide) (hcd : (n == ("__classdict__" : Str)) = false := by decide) :
    PSX X Wx (.Try body [.ExceptHandler (some (.Name x np)) (some n) [.Assign [.Name m q1] (.Name n q2) q3] pos'] [] [] pos) (zTry ct i j mb) := by
  intro W σ H B ρ al s S D q
  refine ⟨_, ps_tryKeep (tb := fun Wn D σ H => ∀ pn xe, Takes (X.tr pn xe) Wn → PassesOwn (model X.prog X.w) X.A X.env xe → wpB (X.tr pn xe) body D σ H)
    (ts := fun a cls D σ H => ∃ v, σ[i]? = some (some v) ∧ D.nx (σ.set j (some v)) H) hs hf hN hi hln hc
    (fun Wn pn xe tk ps => ⟨fun pins s σ H D I h => pb_wp.run pins s σ H D I (h pn xe tk ps)⟩)
    (fun a oe cls pn => pss_one (ps_set (X := X.suite a ((a, oe) :: pn)) hN hj hx (pe_var hi hv hd hcd) hsw hf2)), fun pn xe tk ps => ?_⟩
  refine hb _ pn xe tk ps W σ H B ρ al s S D ?_
  unfold zTry at q
  cases e : mb ρ s with
  | er y ρ1 s1 =>
    rw [e] at q
    have q' : PostX X W Wx (if ct y = true ∧ i < ρ1.length then .nx (((ρ1.set i (.v (.exc y))).set j (.v (.exc y))).set i .un) s1 else .st) D := q
    by_cases hy : ct y = true ∧ i < ρ1.length
    · rw [if_pos hy] at q'
      intro cls σ1 al1 B1 H1 hm S1
      refine ⟨rfl, hct y cls hy.1 hm, fun a na => ?_⟩
      have hl : i < σ1.length := by rw [S1.env.len]; exact hy.2
      refine ⟨.ref a, List.getElem?_set_self hl, ?_⟩
      have S2 : SOk X.K X.mg W al1 s1 B1 H1 σ1 ρ1 := S1
      have r : Is X.K X.mg (upd B1 a (ExK cls a)) (.ref a) (.exc y) := .exc hm upd_same
      have S3 := S2.grow (Grow.new (o := ExK cls a) S2.env.bh na)
      have S4 := (S3.set (i := i) (.d r)).set (i := j) (.d r)
      exact (show ∀ σ al B H, SOk X.K X.mg W al s1 B H σ _ → D.nx σ H from q') _ al1 _ _ (S4.back (S4.kept.drop i))
    · rw [if_neg hy] at q'
      exact q'.elim
  | nx ρ1 s1 => rw [e] at q; exact q
  | rt d s1 => rw [e] at q; exact q
  | rf d s1 => rw [e] at q; exact q
  | bk ρ1 s1 => rw [e] at q; exact q
  | ct ρ1 s1 => rw [e] at q; exact q
  | st => rw [e] at q; exact q.elim
end
section
variable {X : Cx} {Wx : WX} {a b c e : Expr} {es : List Expr} {pos p : Pos} {ma mb m mi : XM} {mr : XA} {mf : XF} {elt tg iter : Expr} {ifs : List Expr} {scope : Scope} {own : List (Str × Nat)} {g : D → En → Option En} {t : XT}
def PTSX (X : Cx) (ifs : List Expr) (t : XT) : Prop := ∀ W σ H B ρ al s, SOk X.K X.mg W al s B H σ ρ → ∀ Q, PostR (t ρ s) (okXT X W al B H Q) (erX X W W0 σ al B H) → wpTs X ifs σ H Q
structure BlkX (X : Cx) (scope : Scope) (own : List (Str × Nat)) (tg : Expr) (ifs : List Expr) (elt : Expr) (g : D → En → Option En) (t : XT) (m : XM) : Prop where
  g : ∀ (s : Shared) (H : Hp) (C : Addr) (cl : List (Str × Addr)) (fp : List Addr), PGV (X.blk s H scope (compEnvC scope cl C X.env) fp) tg (own.map (·.2)) g
  t : ∀ (s : Shared) (H : Hp) (C : Addr) (cl : List (Str × Addr)) (fp : List Addr), PTSX (X.blk s H scope (compEnvC scope cl C X.env) fp) ifs t
  e : ∀ (s : Shared) (H : Hp) (C : Addr) (cl : List (Str × Addr)) (fp : List Addr), PEX (X.blk s H scope (compEnvC scope cl C X.env) fp) W0 elt m
theorem Stp.off {K : PySem.W.Frag} {mg : Str → Option Value} {W : Wd} {al al1 : List Addr} {B H B1 H1 : Hp} {s1 : Sto} {p : Addr} {o : HO} (a : Stp K mg W al B H al1 s1 B1 H1) (n : H p = none) (na : p ∉ al1) (nb : B1 p = none) (nw : W.H p = none) : Stp K mg W al B H al1 s1 B1 (upd H1 p o) := by
  refine ⟨a.ap, a.bb, fun q u hq e => ?_, a.sep, fun q u e => ?_, fun q u e => ?_, ⟨a.st.len, a.st.nd, fun t c e => ?_, a.st.new⟩⟩
  · rw [upd_ne (ne_of_none e n)]
    exact a.hh q u hq e
  · rw [upd_ne (fun z => by rw [z, nw] at e; cases e)]; exact a.wh q u e
  · rw [upd_ne (fun z => by rw [z, nb] at e; cases e)]; exact a.bh q u e
  · obtain ⟨q, h1, h2, h3⟩ := a.st.cell t c e
    have hq : q ≠ p := fun z => na (z ▸ List.mem_of_getElem? h1)
    exact ⟨q, h1, h2, h3.mono (List.prefix_refl _) (Same.refl _) (by rw [upd_ne hq])⟩
def zAsgL (i : Nat) (m : XF) : XS := fun ρ s => ofX (m ρ s) ρ fun ds s => .nx (ρ.set i (.v (.lst ds))) s
end
abbrev SP := Str × Str
abbrev slp (p q : SP) : Prop := sl p.1 q.1 ∨ (p.1 = q.1 ∧ sl p.2 q.2)
instance (p q : SP) : Decidable (slp p q) := by unfold slp; infer_instance
def IsPairS (h : Heap) (v : Value) (x y : Str) : Prop := ∃ a o t u n, v = .ref a ∧ h.get? a = some o ∧ o.cls = .type "tuple" ∧ o.data = .seq #[.str x t, .str y u] n
theorem IsPairS.keeps {h h' : Heap} {v : Value} {x y : Str} (p : IsPairS h v x y) (k : ∀ b o, h.get? b = some o → o.cls = .type "tuple" → h'.get? b = some o) : IsPairS h' v x y := by
  obtain ⟨a, o, t, u, n, e, ho, hc, hd⟩ := p
  exact ⟨a, o, t, u, n, e, k _ _ ho hc, hc, hd⟩
section
variable {prog : Program} {w : World} {A : Around} {E : Value → Shared → Prop} {s : Shared}
end
section
variable {X : Cx}
end
section
variable {K : PySem.W.Frag} {mg : Str → Option Value} {B H : Hp}
end
section
variable {X : Cx} {Wx : WX} {e a b : Expr} {pos p : Pos} {m ma mb : EM}
end
theorem hr_1 {k : Nat} {A : Around} (r : Room k A) : A.units + 1 < cLine := by have := r.un; omega
section
variable {X : Cx} {Wx : WX} {a b c e o : Expr} {es : List Expr} {pos p p2 apos : Pos} {ma mb mo me m : XM} {mr : XA} {mf : XF} {t : XT}
end
section
variable {P : Program} {w : World} {K : PySem.W.Frag} {mg : Str → Option Value} {base : Heap}
theorem law_ofX {k : Nat} {f : Addr} {fd : FuncData} {F : List AV → Sto → RS AV} (h : FnOk P w K mg base (L2.CX P w) k f fd ["script"] (spX K mg 1 F))
    (hF : ∀ ns : List Int, ns.length ≤ 63 → ∃ s, F [.d (.scr ns)] [] = .ok (.d (.bl true)) s) : FnOk P w K mg base (L2.CX P w) k f fd ["script"] (spLaw K) := by
  refine h.imp fun vs H Q E hs => ?_
  obtain ⟨a, ns, rfl, hS, hl, q⟩ := hs
  obtain ⟨s, e⟩ := hF ns hl
  refine ⟨H, [], [], H, [.d (.scr ns)], ⟨rfl, List.nodup_nil, fun t c e => by simp at e, fun t p _ e => by simp at e⟩, Same.refl _, Same.refl _, rfl, .cons (.d (.scr hS)) .nil, ?_⟩
  rw [e]
  intro v al' B' H' _ r
  rw [r.d_inv.bl_inv]
  exact q H'
theorem fnx_mk {x : Str} {ps : List Str} {F : List AV → Sto → RS AV} {k : Nat} {f : Addr} {fd : FuncData} (hm : mg x = some (.ref f)) (hk : PySem.W.keepIn K (.ref f) = true) (hb : Binds K fd ps [])
    (h : FnOk P w K mg base (L2.CX P w) k f fd ps (spX K mg ps.length F)) : FnX P w K mg base k x ps F := ⟨f, fd, hm, hk, hb, h⟩
theorem fnxf_mk {x : Str} {ps : List Str} {F : List AV → Sto → RS (List D)} {k : Nat} {f : Addr} {fd : FuncData} (hm : mg x = some (.ref f)) (hk : PySem.W.keepIn K (.ref f) = true) (hb : Binds K fd ps [])
    (h : FnOk P w K mg base (L2.CX P w) k f fd ps (spXF K mg ps.length F)) : FnXF P w K mg base k x ps F := ⟨f, fd, hm, hk, hb, h⟩
end
section
variable {X : Cx}
end
section
variable {X : Cx} {B H : Hp} {a : Addr} {y : V} {ds : List GD.D} {d z : GD.D} {Q : VK}
end
section
variable {X : Cx} {Wx : WX} {o e : Expr} {pos apos : Pos} {mo me : EM}
end
section
variable {X : Cx} {Wx : WX} {e : Expr} {m : XM} {sb : XS} {pos : Pos}
end
section
variable {X : Cx} {Wx : WX} {pos p : Pos} {m : XM} {elt tg iter : Expr} {ifs : List Expr} {scope : Scope} {own : List (Str × Nat)} {g : D → En → Option En} {t : XT}
structure LCKD (X : Cx) (own : List (Str × Nat)) (elt tg : Expr) (ifs : List Expr) (scope : Scope) (j : Nat) (x : Str) (g : D → En → Option En) (t : XT) (m : XM) : Prop where
  hi : X.N[j]? = some x
  hv : Vis X.env.scope x
  ok : BlkOk X.N X.env.scope scope own
  blk : BlkX X scope own tg ifs elt g t m
  hd : (x == ("__debug__" : Str)) = false
  hcd : (x == ("__classdict__" : Str)) = false
end
def sPeek (i : Nat) (t : TM) (a : SM) : SM := fun ρ => match t (frz i ρ) with
  | .ok b => if b = true then a (frz i ρ) else .nx ρ
  | _ => .st
section
variable {X : Cx} {Wx : WX} {c e : Expr} {ss : List Stmt} {pos pos' : Pos} {t : TM} {sa : SM}
theorem psd_peek (i : Nat) (hc : PTD X Wx c t) (ha : PBD X Wx ss sa) : PSD X Wx (.If c ss [] pos) (sPeek i t sa) := fun W σ H B ρ E D q => by
  obtain ⟨B', E'⟩ := E.frz i
  refine ⟨_, ps_if pt_wp pb_wp pb_wp, hc W σ H B' _ E' _ ?_⟩
  unfold sPeek at q
  cases et : t (frz i ρ) with
  | ok b =>
    rw [et] at q
    intro B1 H1 g
    cases b with
    | true =>
      rw [if_pos rfl]
      exact ha W σ H1 B1 _ (E'.grow g) D (show PostS X W Wx (sa (frz i ρ)) D from q)
    | false =>
      rw [if_neg Bool.false_ne_true]
      have q : PostS X W Wx (.nx ρ) D := q
      exact pbd_nil (X := X) (Wx := Wx) W σ H1 B ρ (E.grow ⟨Same.refl _, g.hh, E.bh.trans g.hh, fun _ _ _ _ n => n⟩) D q
  | er x => rw [et] at q; exact q.elim
  | st => rw [et] at q; exact q.elim
end
def zRetO (i : Nat) : XS := fun ρ s => match ρ[i]? with
  | some (.l ds) => .rf ds s
  | _ => .st
section
variable {X : Cx} {Wx : WX} {e : Expr} {pos pos' : Pos}
theorem psx_retO {i : Nat} {x : Str} (hN : X.N[i]? = some x) (hv : Vis X.env.scope x) (hd : (x == ("__debug__" : Str)) = false := by decide) (hcd : (x == ("__classdict__" : Str)) = false := by decide) : PSX X Wx (.Return (some (.Name x pos)) pos') (zRetO i) := by
  intro W σ H B ρ al s S D q
  unfold zRetO at q
  split at q
  · rename_i ds hr
    obtain ⟨p, xs, h1, h2, h3, h4, h5⟩ := S.env.own i ds hr
    refine ⟨_, ps_ret (pe_var hN hv hd hcd), _, h1, ?_⟩
    exact (show PostX X W Wx (.rf ds s) D from q) p xs al B H S.fin h4 h2 h3 (S.off i ds p hr h1) h5
  · exact q.elim
def flatP : D → Bool
  | .tup [.int _, .int _] => true
  | _ => false
theorem flat_is {K : PySem.W.Frag} {mg : Str → Option Value} {B B' : Hp} (h : ∀ a xs, B a = some (.tup xs) → B' a = some (.tup xs)) {v : V} {d : D} (hf : flatP d = true) (r : Is K mg B v d) : Is K mg B' v d := by
  cases r with
  | @tup a xs ds h1 r1 =>
    match ds, hf, r1 with
    | [.int x, .int y], _, r1 =>
      refine .tup (h _ _ h1) ?_
      cases r1 with
      | cons i1 r2 =>
        cases r2 with
        | cons i2 r3 =>
          cases r3
          cases i1
          cases i2
          exact .cons (.int _) (.cons (.int _) .nil)
  | tup3 h => cases hf
  | _ => cases hf
theorem flat_isL {K : PySem.W.Frag} {mg : Str → Option Value} {B B' : Hp} (h : ∀ a xs, B a = some (.tup xs) → B' a = some (.tup xs)) : ∀ {vs : List V} {ds : List D}, ds.all flatP = true → IsL K mg B vs ds → IsL K mg B' vs ds
  | _, _, _, .nil => .nil
  | _, _, hf, .cons r rs => by
    rw [List.all_cons, Bool.and_eq_true] at hf
    exact .cons (flat_is h hf.1 r) (flat_isL h hf.2 rs)
theorem SOk.frzAt {W : Wd} {σ : L2.St} {al : List Addr} {s : Sto} {B H : Hp} {ρ : En} {i : Nat} {ds : List D} {p : Addr} {xs : List V} (S : SOk X.K X.mg W al s B H σ ρ) (hi : ρ[i]? = some (.l ds)) (h1 : σ[i]? = some (some (.ref p))) (h2 : H p = some (.lst xs)) (h3 : B p = none) (h4 : W.H p = none) (h5 : IsL X.K X.mg B xs ds) :
    SOk X.K X.mg W al s (upd B p (.lst xs)) H σ (GD.frz i ρ) := by
  have E := S.kept
  have na := S.off i ds p hi h1
  have nb : ∀ q u, B q = some u → q ≠ p := fun q u e z => by rw [z, h3] at e; cases e
  have bb : Same B (upd B p (.lst xs)) := fun q u e => by rw [upd_ne (nb q u e)]; exact e
  have ef : GD.frz i ρ = ρ.set i (.v (.lst ds)) := by unfold GD.frz; rw [hi]
  have h4' : withAl al W.H H p = none := by unfold withAl; rw [if_neg na]; exact h4
  rw [ef]
  refine S.back ⟨⟨bb, E.gr.hh, fun q u e => ?_, fun q u e tt n => ?_⟩, by simp [E.len], fun j e hj => ?_, fun j fs hj => ?_, fun j k fs gs q hj hk g1 g2 => ?_, E.refSet0 fun _ z => nomatch z⟩
  · by_cases hq : q = p
    · subst hq; rw [upd_same] at e; rw [h2, e]
    · rw [upd_ne hq] at e; exact E.gr.bh q u e
  · rw [upd_ne (fun z => by
      have e : withAl al W.H H q = some u := e
      rw [z, h4'] at e
      cases e)]
    exact n
  · rcases get_set hj with ⟨rfl, e1, _⟩ | ⟨hne, e1⟩
    · cases e1
      exact ⟨_, h1, .lst upd_same (h5.mono bb)⟩
    · obtain ⟨u, g1, g2⟩ := E.val j e e1
      exact ⟨u, g1, g2.mono bb⟩
  · rcases get_set hj with ⟨_, e1, _⟩ | ⟨hne, e1⟩
    · cases e1
    · obtain ⟨q, zs', g1, g2, g3, g4, g5⟩ := E.own j fs e1
      have hq : q ≠ p := fun z => hne (E.dis j i fs ds p e1 hi (by rw [g1, z]) h1)
      exact ⟨q, zs', g1, g2, by rw [upd_ne hq]; exact g3, g4, g5.mono bb⟩
  · rcases get_set hj with ⟨_, e1, _⟩ | ⟨_, e1⟩
    · cases e1
    · rcases get_set hk with ⟨_, e2, _⟩ | ⟨_, e2⟩
      · cases e2
      · exact E.dis j k _ _ q e1 e2 g1 g2
def zLendO (j i : Nat) (m : XF) : XS := fun ρ s => match ρ[i]? with
  | some (.l _) => match m (frz i ρ) s with
    | .ok es s1 => if s1.isEmpty = true ∧ es.all flatP = true then .nx (ρ.set j (.l es)) s1 else .st
    | _ => .st
  | _ => .st
theorem psx_lendO {j i : Nat} {y : Str} {m : XF} (hN : X.N.Nodup) (hj : X.N[j]? = some y) (hy : Loc X.env.scope y) (h : PFX X Wx e m) (hs : swapsWith e (some (.Name y pos')) pos.line X.env = pure false := by rfl)
    (hf : X.fn y = true ∨ X.env.scope.names.lookup y = some .local := by first | exact .inl rfl | exact .inr rfl | assumption) : PSX X Wx (.Assign [.Name y pos'] e pos) (zLendO j i m) := by
  intro W σ H B ρ al s S D q
  unfold zLendO at q
  split at q
  · rename_i ds hr
    obtain ⟨p, xs, h1, h2, h3, h4, h5⟩ := S.env.own i ds hr
    have na := S.off i ds p hr h1
    have S' := S.frzAt hr h1 h2 h3 h4 h5
    refine ⟨_, ps_set hN hj hy pe_wp hs hf, h W σ H _ _ al s S' _ ?_⟩
    cases em : m (GD.frz i ρ) s with
    | ok es s1 =>
      rw [em] at q
      have q : PostX X W Wx (if s1.isEmpty = true ∧ es.all flatP = true then .nx (ρ.set j (.l es)) s1 else .st) D := q
      by_cases hc : s1.isEmpty = true ∧ es.all flatP = true
      · rw [if_pos hc] at q
        intro p' xs' al1 B1 H1 g n e1 nb na1 r
        have bp : B1 p = some (.lst xs) := g.bb p _ upd_same
        have low : ∀ u o, (if u = p then none else B1 u) = some o → B1 u = some o := fun u o e => by
          split at e
          · cases e
          · exact e
        have g3 : Stp X.K X.mg W al B H al1 s1 (fun u => if u = p then none else B1 u) H1 := by
          refine ⟨g.ap, fun u o e => ?_, g.hh, fun u o hu e tt z => ?_, g.wh, fun u o e => g.bh u o (low u o e), ?_⟩
          · have ne : u ≠ p := fun z => by rw [z, h3] at e; cases e
            show (if u = p then none else B1 u) = some o
            rw [if_neg ne]
            exact g.bb u o (by rw [upd_ne ne]; exact e)
          · show (if u = p then none else B1 u) = none
            split
            · rfl
            · rename_i ne
              exact g.sep u o hu e tt (by rw [upd_ne ne]; exact z)
          · have st := g.st
            have s0 : s1 = [] := List.isEmpty_iff.mp hc.1
            subst s0
            refine ⟨st.len, st.nd, fun t c e => ?_, st.new⟩
            simp at e
        have r3 : IsL X.K X.mg (fun u => if u = p then none else B1 u) xs' es := flat_isL (fun a ys e => by
          have ne : a ≠ p := fun z => by rw [z, bp] at e; cases e
          show (if a = p then none else B1 a) = _
          rw [if_neg ne]
          exact e) hc.2 r
        have nb3 : (if p' = p then none else B1 p') = none := by
          split
          · rfl
          · exact nb
        exact (show PostX X W Wx (.nx (ρ.set j (.l es)) s1) D from q) _ al1 _ H1 (S.setL g3 n e1 nb3 na1 r3)
      · rw [if_neg hc] at q
        exact q.elim
    | er x s1 => rw [em] at q; exact q.elim
    | st => rw [em] at q; exact q.elim
  · exact q.elim
end
section
variable {X : Cx} {Wx : WX} {it : Expr} {m : EM} {i j k : Nat} {x y z : Str} {ss : List Stmt}
theorem wpb_seen {W : Wd} {σ : L2.St} {H B : Hp} {ρ : En} {D : Ends} {P : En → Prop} {p1 p2 p3 p4 p5 p6 p7 p8 p9 q1 q2 q3 q4 q5 q6 : Pos} {jj : Nat} (hc : X.calm = true) (hp : PassesOwn (model X.prog X.w) X.A X.env X.xe) (hu : X.A.units + 1 < cLine) (hN : X.N.Nodup)
    (hi : X.N[i]? = some x) (hj : X.N[j]? = some y) (hk : X.N[k]? = some z) (hx : Loc X.env.scope x) (hy : Loc X.env.scope y) (hz : Loc X.env.scope z) (vx : Vis X.env.scope x) (vy : Vis X.env.scope y) (hij : i ≠ j)
    (fx : X.fn x = true ∨ X.env.scope.names.lookup x = some .local) (fy : X.fn y = true ∨ X.env.scope.names.lookup y = some .local) (fz : X.fn z = true ∨ X.env.scope.names.lookup z = some .local)
    (hg : Gl X "sorted") (hm : X.mg "sorted" = none) (h : PED X Wx it m) (E : EnvOk X.K X.mg W B H σ ρ) (hr : ∀ σ' H' B' ρ', EnvOk X.K X.mg W B' H' σ' ρ' → P ρ' → wpB X ss D σ' H') (hlen : i < ρ.length ∧ j < ρ.length) (qq : Post ((m (ρ.set i .un)).bind fun d => (R.ofO (asL d)).bind fun ds => if ds.length < sizeLine then R.ofO (pPts ds) else .st) (fun ps => P (((ρ.set i .un).set j .un).set k (.v (.lst ((srtP ps).map D2p))))) (fun _ => False))
    (dx : (x == ("__debug__" : Str)) = false := by decide) (cx : (x == ("__classdict__" : Str)) = false := by decide) (dy : (y == ("__debug__" : Str)) = false := by decide) (cy : (y == ("__classdict__" : Str)) = false := by decide)
    (s1 : swapsWith (.Dict [] [] p2) (some (.Name x p1)) p3.line X.env = pure false := by rfl)
    (hfs : ∀ v, foldedSetIterable it X.env v = pure v := by intro _; rfl)
    (s2 : swapsWithSole [.Subscript (.Name x p5) (.Name y p6) p7] (.Constant (.bool true) jj p8) p9.line X.env = pure false := by rfl) (s3 : swappedStores [.Subscript (.Name x p5) (.Name y p6) p7] (.Constant (.bool true) jj p8) X.env = pure none := by rfl)
    (s4 : (assignEach [.Subscript (.Name x p5) (.Name y p6) p7] X.env).map (·.2) = [assign (.Subscript (.Name x p5) (.Name y p6) p7) X.env] := by rfl)
    (s5 : ∀ v, assign (.Subscript (.Name x p5) (.Name y p6) p7) X.env v = (do
      let ov ← holding [v] (eval (.Name x p5) X.env)
      let iv ← holding [v, ov] (eval (.Name y p6) X.env)
      standAt p7
      holding [v, ov, iv] (setItem ov iv v)
      release [v, ov, iv] []) := by intro _; rfl)
    (s6 : swapsWith (.Call (.Name "sorted" q3) [.Name x q4] [] q5) (some (.Name z q2)) q6.line X.env = pure false := by rfl)
    (s7 : starEach [.Name x q4] X.env = (false, eval (.Name x q4) X.env) :: starEach [] X.env := by rfl) (s8 : (backTo q5 (starEach [] X.env)).any (·.1) = false := by rfl) :
    wpB X (.Assign [.Name x p1] (.Dict [] [] p2) p3 :: .For (.Name y p4) it [.Assign [.Subscript (.Name x p5) (.Name y p6) p7] (.Constant (.bool true) jj p8) p9] [] q1 :: .Assign [.Name z q2] (.Call (.Name "sorted" q3) [.Name x q4] [] q5) q6 :: ss) D σ H := by
  refine ⟨_, pss_cons (ps_set hN hi hx pe_dnewT s1 fx) (pss_cons (ps_for (hs := hfs) hp hc (pi_list pe_wp) (pg_name hN hj hy fy) (pss_one (ps_asg pe_bl (pg_sub (pe_var hi vx dx cx) (pe_var hj vy dy cy) (set_dict hu) s5) s2 s3 s4)))
    (pss_cons (ps_set hN hk hz (pe_callB (cr_srtD hc) hg hm bb_sorted (pa_cons (pe_var hi vx dx cx) pa_nil s7) (by decide) (by decide) s7 s8) s6 fz) pb_wp)), fun p np => ?_⟩
  have E1 : EnvOk X.K X.mg W B (upd H p (.dT [])) (σ.set i (some (.ref p))) (ρ.set i .un) := (E.grow (Grow.own E.bh np)).drop i
  obtain ⟨il, jl⟩ := hlen
  rw [← E.len] at il jl
  have np' : (upd H p (.dT [])) p = some (.dT []) := upd_same
  have nB : B p = none := by
    cases e : B p with
    | none => rfl
    | some o => rw [E.bh p o e] at np; cases np
  have nW : W.H p = none := by
    cases e : W.H p with
    | none => rfl
    | some o => rw [E.gr.hh p o e] at np; cases np
  refine h W _ _ B _ E1 _ ?_
  have q2 : Post ((m (ρ.set i .un)).bind fun d => (R.ofO (asL d)).bind fun ds => if ds.length < sizeLine then R.ofO (pPts ds) else .st) (fun ps => P (((ρ.set i .un).set j .un).set k (.v (.lst ((srtP ps).map D2p))))) (erD X Wx (σ.set i (some (.ref p))) B (upd H p (.dT []))) := qq.mono (fun _ _ z => z) fun _ z => z.elim
  refine q2.bind.mono (fun d _ hd v B1 H1 g1 rv => ?_) fun _ z => z
  obtain ⟨ds, ed, hd2⟩ := hd.bind.ofO
  have hz1 : ds.length < sizeLine ∧ ∃ ps, pPts ds = some ps ∧ P (((ρ.set i .un).set j .un).set k (.v (.lst ((srtP ps).map D2p)))) := by
    by_cases hl : ds.length < sizeLine
    · rw [if_pos hl] at hd2
      exact ⟨hl, Post.ofO hd2⟩
    · rw [if_neg hl] at hd2
      exact hd2.elim
  obtain ⟨hl, ps, eps, q3⟩ := hz1
  have E2 := E1.grow g1
  have dp : H1 p = some (.dT []) := g1.hh _ _ np'
  have nB1 : B1 p = none := g1.sep p _ np' (fun _ z => nomatch z) nB
  have eds := pPts_inv eps
  obtain ⟨a, xs, rfl, hs, r⟩ : ∃ a xs, v = V.ref a ∧ SqL X.K B1 a xs ∧ IsL X.K X.mg B1 xs ds := by
    cases d with
    | lst ds' =>
      cases ed
      obtain ⟨a, xs, ev, h1, r⟩ := rv.lst_inv
      exact ⟨a, xs, ev, SqL.of h1, r⟩
    | scr ns =>
      cases ed
      obtain ⟨a, ev, h1⟩ := rv.scr_inv
      exact ⟨a, _, ev, h1, IsL.ints ns⟩
    | _ => cases ed
  have hxs : xs.length = ds.length := r.length
  refine ⟨a, rfl, ⟨xs, g1.bh.seq hs⟩, for_list (K := X.K) (a := a) (xs := xs) (fun n σ' H' => ∃ kvs pk, EnvOk X.K X.mg W B1 H' σ' ((ρ.set i .un).set j .un) ∧ σ'[i]? = some (some (.ref p)) ∧ H' p = some (.dT kvs) ∧ kvs.map (·.1) = pk.map keyP ∧ kvs.length ≤ n ∧ ∀ t, t ∈ pk ↔ t ∈ ps.take n)
    ⟨[], [], E2.forget j, List.getElem?_set_self il, dp, rfl, Nat.le_refl _, fun t => by simp⟩ (fun n σ' H' _ ⟨_, _, E', _⟩ => E'.bh.seq hs) ?step ?fin⟩
  case step =>
    rintro n v σ' H' hv ⟨kvs, pk, E', hi', hd', hk', hn', hm'⟩
    obtain ⟨d', e1, rd⟩ := r.at hv
    rw [eds, List.getElem?_map] at e1
    obtain ⟨pt, ept, rfl⟩ := Option.map_eq_some_iff.mp e1
    obtain ⟨b, rfl, hb⟩ := is_pt rd
    have hb' : H' b = some (.tup ((keyP pt).map kV)) := E'.bh _ _ hb
    obtain ⟨pk', k1, k2⟩ := put_keys pt (.bl true) hk'
    have jl' : j < σ'.length := by rw [E'.len]; simpa using (E.len ▸ jl)
    have nl : n < xs.length := (List.getElem?_eq_some_iff.mp hv).1
    refine ⟨.ref p, ?_, .ref b, List.getElem?_set_self jl', p, _, rfl, DPut.t hd' hb' (by omega), putK kvs (keyP pt) (.bl true), pk', ?_, ?_, upd_same, k1, ?_, fun t => ?_⟩
    · rw [List.getElem?_set_ne (Ne.symm hij)]; exact hi'
    · have E3 := E'.drop j (o := some (.ref b))
      rw [List.set_set] at E3
      exact E3.off hd' (fun _ z => nomatch z) nB1 nW
    · rw [List.getElem?_set_ne (Ne.symm hij)]; exact hi'
    · have := length_putK kvs (keyP pt) (.bl true)
      omega
    · rw [k2, hm', List.take_add_one, ept]
      simp [or_comm]
  case fin =>
    rintro σ' H' ⟨kvs, pk, E', hi', hd', hk', hn', hm'⟩
    refine ⟨.ref p, hi', p, kvs, pk, rfl, hd', hk', fun ts l ht hq nl => ?_⟩
    have hps : xs.length = ps.length := by rw [hxs, eds, List.length_map]
    have es : srtP pk = srtP ps := srtP_congr fun t => by
      rw [hm', hps, List.take_length]
    have g3 := (Grow.tups E'.bh).trans (Grow.new (o := .lst (ts.map V.ref)) (Grow.tups E'.bh).bh nl)
    refine hr _ _ _ _ ((E'.grow g3).set ?_) q3
    refine .lst upd_same (IsL.mono (Grow.new (o := .lst (ts.map V.ref)) (Grow.tups E'.bh).bh nl).bb ?_)
    rw [← es, ← hq, List.map_map]
    clear hq es g3
    induction ts with
    | nil => exact .nil
    | cons t ts ih =>
      refine .cons ?_ (ih fun u hu => ht u (List.mem_cons_of_mem _ hu))
      exact .tup (tupB_at (ht t List.mem_cons_self)) (.cons (.int _) (.cons (.int _) .nil))
def zSeen (i j k : Nat) (m : EM) : XS := fun ρ s => if i < ρ.length ∧ j < ρ.length then
    match (m (ρ.set i .un)).bind fun d => (R.ofO (asL d)).bind fun ds => if ds.length < sizeLine then R.ofO (pPts ds) else .st with
    | .ok ps => .nx (((ρ.set i .un).set j .un).set k (.v (.lst ((srtP ps).map D2p)))) s
    | _ => .st
  else .st
theorem pbx_seen {sb : XS} {p1 p2 p3 p4 p5 p6 p7 p8 p9 q1 q2 q3 q4 q5 q6 : Pos} {jj : Nat} (hc : X.calm = true) (hp : PassesOwn (model X.prog X.w) X.A X.env X.xe) (hu : X.A.units + 1 < cLine) (hN : X.N.Nodup)
    (hi : X.N[i]? = some x) (hj : X.N[j]? = some y) (hk : X.N[k]? = some z) (hx : Loc X.env.scope x) (hy : Loc X.env.scope y) (hz : Loc X.env.scope z) (vx : Vis X.env.scope x) (vy : Vis X.env.scope y) (hij : i ≠ j)
    (fx : X.fn x = true ∨ X.env.scope.names.lookup x = some .local) (fy : X.fn y = true ∨ X.env.scope.names.lookup y = some .local) (fz : X.fn z = true ∨ X.env.scope.names.lookup z = some .local)
    (hg : Gl X "sorted") (hm : X.mg "sorted" = none) (h : PED X Wx it m) (hr : PBX X Wx ss sb)
    (dx : (x == ("__debug__" : Str)) = false := by decide) (cx : (x == ("__classdict__" : Str)) = false := by decide) (dy : (y == ("__debug__" : Str)) = false := by decide) (cy : (y == ("__classdict__" : Str)) = false := by decide)
    (s1 : swapsWith (.Dict [] [] p2) (some (.Name x p1)) p3.line X.env = pure false := by rfl)
    (hfs : ∀ v, foldedSetIterable it X.env v = pure v := by intro _; rfl)
    (s2 : swapsWithSole [.Subscript (.Name x p5) (.Name y p6) p7] (.Constant (.bool true) jj p8) p9.line X.env = pure false := by rfl) (s3 : swappedStores [.Subscript (.Name x p5) (.Name y p6) p7] (.Constant (.bool true) jj p8) X.env = pure none := by rfl)
    (s4 : (assignEach [.Subscript (.Name x p5) (.Name y p6) p7] X.env).map (·.2) = [assign (.Subscript (.Name x p5) (.Name y p6) p7) X.env] := by rfl)
    (s5 : ∀ v, assign (.Subscript (.Name x p5) (.Name y p6) p7) X.env v = (do
      let ov ← holding [v] (eval (.Name x p5) X.env)
      let iv ← holding [v, ov] (eval (.Name y p6) X.env)
      standAt p7
      holding [v, ov, iv] (setItem ov iv v)
      release [v, ov, iv] []) := by intro _; rfl)
    (s6 : swapsWith (.Call (.Name "sorted" q3) [.Name x q4] [] q5) (some (.Name z q2)) q6.line X.env = pure false := by rfl)
    (s7 : starEach [.Name x q4] X.env = (false, eval (.Name x q4) X.env) :: starEach [] X.env := by rfl) (s8 : (backTo q5 (starEach [] X.env)).any (·.1) = false := by rfl) :
    PBX X Wx (.Assign [.Name x p1] (.Dict [] [] p2) p3 :: .For (.Name y p4) it [.Assign [.Subscript (.Name x p5) (.Name y p6) p7] (.Constant (.bool true) jj p8) p9] [] q1 :: .Assign [.Name z q2] (.Call (.Name "sorted" q3) [.Name x q4] [] q5) q6 :: ss) (zSeq (zSeen i j k m) sb) := by
  intro W σ H B ρ al s S D q
  have q' : (i < ρ.length ∧ j < ρ.length) ∧ Post ((m (ρ.set i .un)).bind fun d => (R.ofO (asL d)).bind fun ds => if ds.length < sizeLine then R.ofO (pPts ds) else .st) (fun ps => PostX X W Wx (sb (((ρ.set i .un).set j .un).set k (.v (.lst ((srtP ps).map D2p)))) s) D) (fun _ => False) := by
    unfold zSeq zSeen at q
    by_cases hl : i < ρ.length ∧ j < ρ.length
    · rw [if_pos hl] at q
      refine ⟨hl, ?_⟩
      cases e : (m (ρ.set i .un)).bind fun d => (R.ofO (asL d)).bind fun ds => if ds.length < sizeLine then R.ofO (pPts ds) else .st with
      | ok ps => rw [e] at q; exact q
      | er z => rw [e] at q; exact q.elim
      | st => rw [e] at q; exact q.elim
    · rw [if_neg hl] at q
      exact q.elim
  exact wpb_seen (P := fun ρ' => PostX X W Wx (sb ρ' s) D) hc hp hu hN hi hj hk hx hy hz vx vy hij fx fy fz hg hm h S.kept (fun σ' H' B' ρ' E' z => hr W σ' H' B' ρ' al s (S.back E') D z) q'.1 q'.2 dx cx dy cy s1 hfs s2 s3 s4 s5 s6 s7 s8
end
def Bd (n : Nat) (x : Int) : Prop := x.natAbs < 2 ^ n
instance (n : Nat) (x : Int) : Decidable (Bd n x) := by unfold Bd; infer_instance
theorem Bd.mono {m n : Nat} {x : Int} (h : Bd m x) (l : m ≤ n) : Bd n x := Nat.lt_of_lt_of_le h (Nat.pow_le_pow_right (by decide) l)
theorem Bd.mul {m n : Nat} {x y : Int} (h : Bd m x) (g : Bd n y) : Bd (m + n) (x * y) := wide_lt h g
theorem Bd.add {m n : Nat} {x y : Int} (h : Bd m x) (g : Bd n y) : Bd (max m n + 1) (x + y) := by
  have h1 : Bd (max m n) x := h.mono (by omega)
  have h2 : Bd (max m n) y := g.mono (by omega)
  unfold Bd at *
  have := Int.natAbs_add_le x y
  rw [Nat.pow_succ]
  omega
theorem Bd.sub {m n : Nat} {x y : Int} (h : Bd m x) (g : Bd n y) : Bd (max m n + 1) (x - y) := by
  have h1 : Bd (max m n) x := h.mono (by omega)
  have h2 : Bd (max m n) y := g.mono (by omega)
  unfold Bd at *
  have := Int.natAbs_sub_le x y
  rw [Nat.pow_succ]
  omega
theorem Bd.neg {n : Nat} {x : Int} (h : Bd n x) : Bd n (-x) := by
  unfold Bd at *
  rw [Int.natAbs_neg]
  exact h
theorem Bd.of_range {n : Nat} {x : Int} (h0 : 0 ≤ x) (h : x < 2 ^ n) : Bd n x := by
  unfold Bd
  have : ((x.natAbs : Nat) : Int) < ((2 ^ n : Nat) : Int) := by
    rw [Int.natCast_pow]
    have e : ((x.natAbs : Nat) : Int) = x := Int.natAbs_of_nonneg h0
    rw [e]
    exact h
  exact Int.ofNat_lt.mp this
theorem Bd.of_le {n : Nat} {x y : Int} (h : Bd n y) (l : x.natAbs ≤ y.natAbs) : Bd n x := Nat.lt_of_le_of_lt l h
theorem Bd.log {n : Nat} {x : Int} (h : Bd n x) : x.natAbs.log2 ≤ n := by
  by_cases z : x.natAbs = 0
  · rw [z]; simp
  · have := (Nat.log2_lt z).mpr h
    omega
theorem mok {m n : Nat} {x y : Int} (h : Bd m x) (g : Bd n y) (l : m + n < 1000000) : mulOk x y := by
  have := h.log
  have := g.log
  unfold mulOk
  omega
theorem dok {n : Nat} {y : Int} (h0 : 0 < y) (g : Bd n y) (l : n < 9000) : divOk y := by
  have := g.log
  exact ⟨h0, by omega⟩
section
variable {α β : Type} {ρ : En}
theorem bind_ok (a : α) (f : α → R β) : (R.ok a).bind f = f a := rfl
theorem bind_er (x : Str) (f : α → R β) : (R.er x : R α).bind f = .er x := rfl
theorem bind_st (f : α → R β) : (R.st : R α).bind f = .st := rfl
theorem ofO_some (a : α) : R.ofO (some a) = .ok a := rfl
theorem asB_bl (b : Bool) : asB (.bl b) = some b := rfl
theorem ofR_ok (a : α) (k : α → Out) : ofR (.ok a) ρ k = k a := rfl
theorem ofR_er (x : Str) (k : α → Out) : ofR (.er x : R α) ρ k = .er x ρ := rfl
theorem dAdd_int (i j : Int) : dAdd (.int i) (.int j) = some (.int (i + j)) := rfl
theorem dSub_int (i j : Int) : dSub (.int i) (.int j) = some (.int (i - j)) := rfl
theorem dMul_int {i j : Int} (h : mulOk i j) : dMul (.int i) (.int j) = some (.int (i * j)) := if_pos h
theorem dDiv_int {i j : Int} (h : divOk j) : dDiv (.int i) (.int j) = some (.int (i / j)) := if_pos h
theorem dDiv_lit {i j : Int} (h : 0 < j) (g : j < 18446744073709551616) : dDiv (.int i) (.int j) = some (.int (i / j)) := dDiv_int (dok (n := 64) h (Bd.of_range (by omega) g) (by decide))
theorem dMod_int {i j : Int} (h : 0 < j) : dMod (.int i) (.int j) = some (.int (i % j)) := if_pos h
theorem dNeg_int (i : Int) : dNeg (.int i) = some (.int (-i)) := rfl
theorem dLt_int (i j : Int) : dLt (.int i) (.int j) = some (.bl (decide (i < j))) := rfl
theorem dLe_int (i j : Int) : dLe (.int i) (.int j) = some (.bl (decide (i ≤ j))) := rfl
theorem dGt_int (i j : Int) : dGt (.int i) (.int j) = some (.bl (decide (j < i))) := rfl
theorem dGe_int (i j : Int) : dGe (.int i) (.int j) = some (.bl (decide (j ≤ i))) := rfl
theorem dEq_int (i j : Int) : dEq (.int i) (.int j) = some (.bl (decide (i = j))) := by
  show some (D.bl (i == j)) = _
  rw [Bool.beq_eq_decide_eq]
theorem dNe_int (i j : Int) : dNe (.int i) (.int j) = some (.bl (!decide (i = j))) := by
  show some (D.bl (!(i == j))) = _
  rw [Bool.beq_eq_decide_eq]
theorem dEq_bl (i j : Bool) : dEq (.bl i) (.bl j) = some (.bl (i == j)) := rfl
theorem dIs_non (d : D) : dIs d .non = some (.bl d.isNone) := rfl
theorem dIsNot_non (d : D) : dIsNot d .non = some (.bl (!d.isNone)) := rfl
theorem kb_int_int : kitB "int" "int" = some true := by decide +kernel
theorem kb_int_bool : kitB "int" "bool" = some false := by decide +kernel
theorem kb_bool_bool : kitB "bool" "bool" = some true := by decide +kernel
theorem kb_tuple_tuple : kitB "tuple" "tuple" = some true := by decide +kernel
theorem kb_tuple_list : kitB "tuple" "list" = some false := by decide +kernel
theorem kb_list_list : kitB "list" "list" = some true := by decide +kernel
theorem kb_list_tuple : kitB "list" "tuple" = some false := by decide +kernel
theorem line_le {n : Nat} (h : n ≤ 16777216) : (n ≤ sizeLine) = True := eq_true (by rw [sizeLine_eq]; exact h)
theorem isi_int (d : D) (t : String) (b : Bool) (n : String) (h : tyName d = some t) (k : kitB t n = some b) : dIsi [d, .ty n] = some (.bl b) := by
  simp only [dIsi, h, Option.bind_some, k, Option.map_some]
theorem loop_cons {g : D → En → Option En} {body : SM} {d : D} {r : List D} {ρ1 ρ2 : En} (h1 : g d ρ = some ρ1) (h2 : body ρ1 = .nx ρ2) : loop g body (d :: r) ρ = loop g body r ρ2 := by
  show (match g d ρ with
      | none => Out.st
      | some ρ' => match body ρ' with
        | .nx ρ2 => loop g body r ρ2
        | .ct ρ2 => loop g body r ρ2
        | .bk ρ2 => .nx ρ2
        | o => o) = _
  rw [h1]
  show (match body ρ1 with
        | .nx ρ2 => loop g body r ρ2
        | .ct ρ2 => loop g body r ρ2
        | .bk ρ2 => .nx ρ2
        | o => o) = _
  rw [h2]
theorem dAt_lst {ds : List D} {j : Nat} {d : D} (h : ds[j]? = some d) : dAt (.lst ds) (.int (j : Int)) = some d := atI_nat h
theorem dAt_tup {ds : List D} {j : Nat} {d : D} (h : ds[j]? = some d) : dAt (.tup ds) (.int (j : Int)) = some d := atI_nat h
theorem dAt_scr {ns : List Int} {j : Nat} {x : Int} (h : ns[j]? = some x) : dAt (.scr ns) (.int (j : Int)) = some (.int x) := by
  show (atI ns (j : Int)).map D.int = _
  rw [atI_nat h]
  rfl
theorem cutL_ints (ns : List Int) (lo hi : Option Int) : cutL (ns.map D.int) lo hi = (cutL ns lo hi).map D.int := by
  unfold cutL
  rw [List.length_map, List.map_take, List.map_drop]
theorem cutL_len {α : Type} (xs : List α) (k : Nat) : (cutL xs none (some (k : Int))).length ≤ k := by
  unfold cutL
  rw [List.length_take, HT.sIx_nat, HT.sIx_none]
  omega
theorem dAt_t0 {a : D} {ds : List D} : dAt (.tup (a :: ds)) (.int 0) = some a := dAt_tup (j := 0) rfl
theorem dAt_t1 {a b : D} {ds : List D} : dAt (.tup (a :: b :: ds)) (.int 1) = some b := dAt_tup (j := 1) rfl
theorem dAt_t2 {a b c : D} {ds : List D} : dAt (.tup (a :: b :: c :: ds)) (.int 2) = some c := dAt_tup (j := 2) rfl
theorem dAt_l0 {a : D} {ds : List D} : dAt (.lst (a :: ds)) (.int 0) = some a := dAt_lst (j := 0) rfl
theorem dAt_l1 {a b : D} {ds : List D} : dAt (.lst (a :: b :: ds)) (.int 1) = some b := dAt_lst (j := 1) rfl
theorem dAt_l2 {a b c : D} {ds : List D} : dAt (.lst (a :: b :: c :: ds)) (.int 2) = some c := dAt_lst (j := 2) rfl
theorem dAt_l3 {a b c d : D} {ds : List D} : dAt (.lst (a :: b :: c :: d :: ds)) (.int 3) = some d := dAt_lst (j := 3) rfl
theorem dAt_l4 {a b c d e : D} {ds : List D} : dAt (.lst (a :: b :: c :: d :: e :: ds)) (.int 4) = some e := dAt_lst (j := 4) rfl
theorem dAt_l5 {a b c d e f : D} {ds : List D} : dAt (.lst (a :: b :: c :: d :: e :: f :: ds)) (.int 5) = some f := dAt_lst (j := 5) rfl
theorem dAt_l6 {a b c d e f g : D} {ds : List D} : dAt (.lst (a :: b :: c :: d :: e :: f :: g :: ds)) (.int 6) = some g := dAt_lst (j := 6) rfl
theorem dAt_l7 {a b c d e f g h : D} {ds : List D} : dAt (.lst (a :: b :: c :: d :: e :: f :: g :: h :: ds)) (.int 7) = some h := dAt_lst (j := 7) rfl
end
end GD
namespace Law
open PySem PySem.Spec PyProof.Rows L2 GD
def l1_divisor : SM := sPar 0 1 (eVar 1) (e2 dMod (eVar 0) (eVar 1))
def b_divisor : SM := sSeq (sAsg 0 (eB dAbs (aCons (eVar 0) (aNil)))) (sSeq (sAsg 1 (eB dAbs (aCons (eVar 1) (aNil)))) (sSeq (sWhile (fuelI 1) (mB (e2 dGt (eVar 1) (eC (.int 0)))) (l1_divisor)) (sRet (eVar 0))))
def F_divisor : List D → R D := runF 2 b_divisor
def l1__law_cell : SM := sAsg 2 (e2 dAdd (e2 dMul (eVar 2) (eC (.int 1009))) (e2 dMod (eVar 3) (eC (.int 1000003))))
def b__law_cell : SM := sSeq (sIf (mB (e2 dLt (eVar 1) (eB dLen (aCons (eVar 0) (aNil))))) (sRet (e2 dMod (e2 dAt (eVar 0) (eVar 1)) (eC (.int 1000000000000000000000000000000000000000000000000000000000000)))) (sNil)) (sSeq (sAsg 2 (e2 dAdd (e2 dMul (eVar 1) (eC (.int 7907))) (eC (.int 3571)))) (sSeq (sFor (gNm 3) asL (eL (aCut (eVar 0) (oNone) (oSome (eC (.int 3))))) (l1__law_cell)) (sSeq (sAsg 2 (e2 dMod (eVar 2) (eC (.int 2147483647)))) (sRet (e2 dMod (e2 dMul (eVar 2) (eVar 2)) (eC (.int 2147483629)))))))
def F__law_cell : List D → R D := runF 4 b__law_cell
def b__law_whole : SM := sRet (eAnd (eB dIsi (aCons (eVar 0) (aCons (eC (.ty "int")) (aNil)))) (eNot (eB dIsi (aCons (eVar 0) (aCons (eC (.ty "bool")) (aNil))))))
def F__law_whole : List D → R D := runF 1 b__law_whole
def l1__law_common : SM := sPar 0 1 (e2 dMod (eVar 1) (eVar 0)) (eVar 0)
def b__law_common : SM := sSeq (sAsg 0 (eB dAbs (aCons (eVar 0) (aNil)))) (sSeq (sAsg 1 (eB dAbs (aCons (eVar 1) (aNil)))) (sSeq (sWhile (fuelI 0) (mB (e2 dGt (eVar 0) (eC (.int 0)))) (l1__law_common)) (sRet (eVar 1))))
def F__law_common : List D → R D := runF 2 b__law_common
def b_bend : SM := sRet (e2 dSub (e2 dMul (e2 dSub (e2 dAt (eVar 1) (eC (.int 0))) (e2 dAt (eVar 0) (eC (.int 0)))) (e2 dSub (e2 dAt (eVar 2) (eC (.int 1))) (e2 dAt (eVar 0) (eC (.int 1))))) (e2 dMul (e2 dSub (e2 dAt (eVar 1) (eC (.int 1))) (e2 dAt (eVar 0) (eC (.int 1)))) (e2 dSub (e2 dAt (eVar 2) (eC (.int 0))) (e2 dAt (eVar 0) (eC (.int 0))))))
def F_bend : List D → R D := runF 3 b_bend
def l1_chain : SM := sPop 1
def l2_chain : SM := sSeq (sWhile (fuelL 1) (mAnd (mB (e2 dGt (eOwnLen 1) (eC (.int 1)))) (mB (e2 dLe (eF F_bend (aCons (eOwnAt 1 (eC (.int (-2)))) (aCons (eOwnAt 1 (eC (.int (-1)))) (aCons (eVar 2) (aNil))))) (eC (.int 0))))) (l1_chain)) (sApp 1 (eVar 2))
def b_chain : SM := sSeq (sOwn 1 (aLst (aNil))) (sSeq (sFor (gNm 2) asL (eVar 0) (l2_chain)) (sFrz 1 (sRet (eVar 1))))
def F_chain : List D → R D := runF 3 b_chain
def xCt3 : Str → Bool := fun y => (["Flat"] : List Str).contains y
def xLy3 : List Str := ["Flat"]
def xLc3 : List (Str × Str × Bool) := [("Flat", "Crowded", false), ("Flat", "Flat", true), ("Flat", "NoName", false), ("Flat", "NoNumber", false), ("Flat", "NoRow", false), ("Flat", "NoText", false), ("Flat", "Past", false), ("Flat", "Twice", false)]
def xLt3 : List (Str × String × Bool) := [("Flat", "ValueError", true)]
def b_hullX : XS := zSeq (zSeen 1 2 3 (eVar 0)) (zSeq (sD (sAsg 4 (eF F_chain (aCons (eVar 3) (aNil))))) (zSeq (sD (sAsg 5 (eF F_chain (aCons (eL (aLRev (eVar 3))) (aNil))))) (zSeq (sD (sOwn 6 (aCat (eL (aCut (eVar 4) (oNone) (oSome (eC (.int (-1)))))) (eL (aCut (eVar 5) (oNone) (oSome (eC (.int (-1))))))))) (zSeq (sD (sIf (mB (e2 dLt (eOwnLen 6) (eC (.int 3)))) (sRaise "Flat") (sNil))) (zRetO 6)))))
def F_hullX : List AV → Sto → RS (List D) := runXF 7 b_hullX
def b__law_turn : SM := sSeq (sAsg 3 (e2 dMul (e2 dSub (e2 dAt (eVar 1) (eC (.int 0))) (e2 dAt (eVar 0) (eC (.int 0)))) (e2 dSub (e2 dAt (eVar 2) (eC (.int 1))) (e2 dAt (eVar 1) (eC (.int 1)))))) (sSeq (sAsg 4 (e2 dMul (e2 dSub (e2 dAt (eVar 1) (eC (.int 1))) (e2 dAt (eVar 0) (eC (.int 1)))) (e2 dSub (e2 dAt (eVar 2) (eC (.int 0))) (e2 dAt (eVar 1) (eC (.int 0)))))) (sRet (e2 dSub (eB dInt (aCons (e2 dGt (eVar 3) (eVar 4)) (aNil))) (eB dInt (aCons (e2 dLt (eVar 3) (eVar 4)) (aNil))))))
def F__law_turn : List D → R D := runF 5 b__law_turn
def l1__law_many_points : SM := sSeq (sAsg 4 (e2 dMod (eVar 3) (eC (.int 1000000000000000000000000000000000000000000000000000000000000)))) (sIf (mB (e2 dEq (e2 dMod (eVar 1) (eC (.int 3))) (eC (.int 0)))) (sApp 2 (eTup (aCons (e2 dMod (eVar 4) (eC (.int 7))) (aCons (e2 dMod (e2 dDiv (eVar 4) (eC (.int 7))) (eC (.int 7))) (aNil))))) (sIf (mB (e2 dEq (e2 dMod (eVar 1) (eC (.int 3))) (eC (.int 1)))) (sApp 2 (eTup (aCons (e2 dSub (e2 dMod (eVar 4) (eC (.int 100000000000000000000000000000))) (eC (.int 50000000000000000000000000000))) (aCons (e2 dSub (e2 dMod (e2 dDiv (eVar 4) (eC (.int 100000000000000000000000000000))) (eC (.int 100000000000000000000000000000))) (eC (.int 50000000000000000000000000000))) (aNil))))) (sSeq (sAsg 5 (e2 dAdd (eC (.int 1)) (e2 dMod (e2 dDiv (eVar 1) (eC (.int 6))) (eC (.int 100000000000000000000))))) (sApp 2 (eTup (aCons (e2 dAdd (e2 dMul (e2 dMod (eVar 4) (eC (.int 5))) (eVar 5)) (eC (.int 3))) (aCons (e2 dSub (e2 dMul (e2 dMod (e2 dDiv (eVar 4) (eC (.int 5))) (eC (.int 3))) (eVar 5)) (e2 dMod (eVar 4) (eC (.int 5)))) (aNil))))))))
def b__law_many_points : SM := sSeq (sAsg 1 (eF F__law_cell (aCons (eVar 0) (aCons (eC (.int 0)) (aNil))))) (sSeq (sOwn 2 (aLst (aNil))) (sSeq (sFor (gNm 3) asL (eL (aCut (eVar 0) (oSome (eC (.int 1))) (oSome (eC (.int 41))))) (l1__law_many_points)) (sSeq (sIf (mB (e2 dEq (e2 dMod (e2 dDiv (eVar 1) (eC (.int 3))) (eC (.int 2))) (eC (.int 1)))) (sFrz 2 (sOwn 2 (aLc asL [6, 7] (gTp (gsCons (gNm 6) (gsCons (gNm 7) (gsNil)))) (mYes) (eVar 2) (eTup (aCons (eVar 6) (aCons (e2 dSub (e2 dMul (eC (.int 3)) (eVar 6)) (eC (.int 2))) (aNil))))))) (sNil)) (sFrz 2 (sRet (eVar 2))))))
def F__law_many_points : List D → R D := runF 8 b__law_many_points
def l1__law_on_a_line : SM := sIf (mB (e2 dNe (eF F__law_turn (aCons (e2 dAt (eVar 0) (eC (.int 0))) (aCons (eVar 1) (aCons (eVar 2) (aNil))))) (eC (.int 0)))) (sRet (eC (.bl false))) (sNil)
def l2__law_on_a_line : SM := sFor (gNm 2) asL (eVar 0) (l1__law_on_a_line)
def b__law_on_a_line : SM := sSeq (sFor (gNm 1) asL (eVar 0) (l2__law_on_a_line)) (sRet (eC (.bl true)))
def F__law_on_a_line : List D → R D := runF 3 b__law_on_a_line
def b__law_refused_v3 : XS := zSeq (sD (sAsg 1 (eC .non))) (zSeq (zTry xCt3 2 1 (zExpr (xNew (xXF F_hullX (xACons (xD (eVar 0)) (xANil)))))) (zSeq (sD (sAsg 3 (eAnd (eB (dIsX xLy3 xLc3 xLt3) (aCons (eVar 1) (aCons (eC (.ty "ValueError")) (aNil)))) (eB (dIsX xLy3 xLc3 xLt3) (aCons (eVar 1) (aCons (eC (.cls "Flat")) (aNil))))))) (sD (sRet (eAnd (eVar 3) (eNot (eB (dIsX xLy3 xLc3 xLt3) (aCons (eVar 1) (aCons (eTup (aCons (eC (.cls "NoNumber")) (aCons (eC (.cls "Crowded")) (aCons (eC (.cls "NoName")) (aCons (eC (.cls "Twice")) (aCons (eC (.cls "Past")) (aCons (eC (.cls "NoText")) (aCons (eC (.cls "NoRow")) (aNil))))))))) (aNil))))))))))
def F__law_refused_v3 : List AV → Sto → RS AV := runX 4 b__law_refused_v3
def l1__law_are_points : SM := sSeq (sAsg 3 (e2 dAt (eVar 0) (eVar 2))) (sSeq (sIf (mOr (mNot (mB (eB dIsi (aCons (eVar 3) (aCons (eC (.ty "tuple")) (aNil)))))) (mOr (mB (e2 dNe (eB dLen (aCons (eVar 3) (aNil))) (eC (.int 2)))) (mOr (mNot (mB (eF F__law_whole (aCons (e2 dAt (eVar 3) (eC (.int 0))) (aNil))))) (mNot (mB (eF F__law_whole (aCons (e2 dAt (eVar 3) (eC (.int 1))) (aNil)))))))) (sRet (eC (.bl false))) (sNil)) (sIf (mOr (mB (e2 dNotIn (eVar 3) (eVar 1))) (mOr (mB (e2 dIn (eVar 3) (eL (aCut (eVar 0) (oNone) (oSome (eVar 2)))))) (mB (e2 dLt (eVar 3) (e2 dAt (eVar 0) (eC (.int 0))))))) (sRet (eC (.bl false))) (sNil)))
def b__law_are_points : SM := sSeq (sIf (mOr (mNot (mB (eB dIsi (aCons (eVar 0) (aCons (eC (.ty "list")) (aNil)))))) (mB (e2 dLt (eB dLen (aCons (eVar 0) (aNil))) (eC (.int 3))))) (sRet (eC (.bl false))) (sNil)) (sSeq (sForR (gNm 2) (aCons (eB dLen (aCons (eVar 0) (aNil))) (aNil)) (l1__law_are_points)) (sRet (eC (.bl true))))
def F__law_are_points : List D → R D := runF 4 b__law_are_points
def l1__law_goes_round : SM := sIf (mB (e2 dLt (eF F__law_turn (aCons (eVar 3) (aCons (eVar 4) (aCons (eVar 5) (aNil))))) (eC (.int 0)))) (sRet (eC (.bl false))) (sNil)
def l2__law_goes_round : SM := sSeq (sAsg 3 (e2 dAt (eVar 0) (e2 dSub (eVar 2) (eC (.int 1))))) (sSeq (sAsg 4 (e2 dAt (eVar 0) (eVar 2))) (sSeq (sIf (mB (e2 dNe (eF F__law_turn (aCons (e2 dAt (eVar 0) (e2 dSub (eVar 2) (eC (.int 2)))) (aCons (eVar 3) (aCons (eVar 4) (aNil))))) (eC (.int 1)))) (sRet (eC (.bl false))) (sNil)) (sFor (gNm 5) asL (eVar 1) (l1__law_goes_round))))
def b__law_goes_round : SM := sSeq (sForR (gNm 2) (aCons (eB dLen (aCons (eVar 0) (aNil))) (aNil)) (l2__law_goes_round)) (sRet (eC (.bl true)))
def F__law_goes_round : List D → R D := runF 6 b__law_goes_round
local macro_rules | `(tactic| walk_at "gd") => `(tactic| simp (config := {failIfUnchanged := false}) only [runF, sSeq, sIf, sAsg, sRet, sRetN, sExpr, sNil, sRaise, sPar, sTgt, sFor, sForR, sWhile, eVar, eC, e1, e2, mB, aNil, aCons, eF, eB, eTup, aLst, eL, mNot, mAnd, mOr, eNot, eAnd, eOr, gNm, gTp, gsNil, gsCons, asL, asT,
  bind_ok, bind_er, bind_st, ofO_some, asB_bl, ofR_ok, ofR_er, dAdd_int, dSub_int, dNeg_int, dLt_int, dLe_int, dGt_int, dGe_int, dEq_int, dNe_int, dEq_bl, dMod_int, dDiv_lit, dMul_int, Int.reduceLT, Int.reduceEq, Int.cast_ofNat_Int, eq_self, line_le, Nat.reduceLeDiff,  dIs_non, dIsNot_non, dAt_t0, dAt_t1, dAt_t2, dAt_l0, dAt_l1, dAt_l2, dAt_l3, dAt_l4, dAt_l5, dAt_l6, dAt_l7, dAbs, dMax2, dMin2, dLen,
  List.getElem?_cons_zero, List.getElem?_cons_succ, List.set_cons_zero, List.set_cons_succ, List.map_cons, List.map_nil, List.length_cons, List.length_nil, List.cons_append, List.nil_append, List.replicate_succ, List.replicate_zero, Nat.reduceSub, Nat.reduceAdd,
  decide_eq_true_eq, Bool.not_eq_true', if_true, if_false, ite_true, ite_false, Option.bind_some, Option.map_some, Bool.not_true, Bool.not_false, reduceIte, Bool.false_eq_true, Bool.true_eq_false, decide_true, decide_false])
local macro_rules | `(tactic| walk_at "gdh") => `(tactic| simp (config := {failIfUnchanged := false}) only [runF, sSeq, sIf, sAsg, sRet, sRetN, sExpr, sNil, sRaise, sPar, sTgt, sFor, sForR, sWhile, eVar, eC, e1, e2, mB, aNil, aCons, eF, eB, eTup, aLst, eL, mNot, mAnd, mOr, eNot, eAnd, eOr, gNm, gTp, gsNil, gsCons, asL, asT,
  bind_ok, bind_er, bind_st, ofO_some, asB_bl, ofR_ok, ofR_er, dAdd_int, dSub_int, dNeg_int, dLt_int, dLe_int, dGt_int, dGe_int, dEq_int, dNe_int, dEq_bl, dMod_int, dDiv_lit, dMul_int, Int.reduceLT, Int.reduceEq, Int.cast_ofNat_Int, eq_self, line_le, Nat.reduceLeDiff,  dIs_non, dIsNot_non, dAt_t0, dAt_t1, dAt_t2, dAt_l0, dAt_l1, dAt_l2, dAt_l3, dAt_l4, dAt_l5, dAt_l6, dAt_l7, dAbs, dMax2, dMin2, dLen,
  List.getElem?_cons_zero, List.getElem?_cons_succ, List.set_cons_zero, List.set_cons_succ, List.map_cons, List.map_nil, List.length_cons, List.length_nil, List.cons_append, List.nil_append, List.replicate_succ, List.replicate_zero, Nat.reduceSub, Nat.reduceAdd,
  decide_eq_true_eq, Bool.not_eq_true', if_true, if_false, ite_true, ite_false, Option.bind_some, Option.map_some, Bool.not_true, Bool.not_false, reduceIte, Bool.false_eq_true, Bool.true_eq_false, decide_true, decide_false, *])
theorem while_divisor : ∀ (n : Nat) (a b : Nat), b < n → whileN (mB (e2 dGt (eVar 1) (eC (.int 0)))) l1_divisor n [.v (.int a), .v (.int b)] = .nx [.v (.int (Nat.gcd a b)), .v (.int 0)]
  | 0, a, b, h => absurd h (by omega)
  | n + 1, a, b, h => by
    unfold whileN
    walk_at "gd"
    by_cases hb : (0 : Int) < (b : Int)
    · rw [if_pos hb]
      unfold l1_divisor
      walk_at "gd"
      rw [dMod_int hb]
      walk_at "gd"
      have e : ((a : Int) % (b : Int)) = ((a % b : Nat) : Int) := by simp
      have w := while_divisor n b (a % b) (by have := Nat.mod_lt a (show 0 < b by omega); omega)
      unfold l1_divisor at w
      rw [e, w, Nat.gcd_comm b (a % b), ← Nat.gcd_rec b a, Nat.gcd_comm b a]
    · rw [if_neg hb]
      have : b = 0 := by omega
      subst this
      simp
theorem divisor_eq (a b : Int) : F_divisor [.int a, .int b] = .ok (.int (Int.gcd a b)) := by
  unfold F_divisor b_divisor
  walk_at "gd"
  unfold fuelI
  walk_at "gd"
  rw [while_divisor _ _ _ (by simp)]
  walk_at "gd"
  rfl
theorem while_common : ∀ (n : Nat) (a b : Nat), a < n → whileN (mB (e2 dGt (eVar 0) (eC (.int 0)))) l1__law_common n [.v (.int a), .v (.int b)] = .nx [.v (.int 0), .v (.int (Nat.gcd a b))]
  | 0, a, b, h => absurd h (by omega)
  | n + 1, a, b, h => by
    unfold whileN
    walk_at "gd"
    by_cases hb : (0 : Int) < (a : Int)
    · rw [if_pos hb]
      unfold l1__law_common
      walk_at "gd"
      rw [dMod_int hb]
      walk_at "gd"
      have e : ((b : Int) % (a : Int)) = ((b % a : Nat) : Int) := by simp
      have w := while_common n (b % a) a (by have := Nat.mod_lt b (show 0 < a by omega); omega)
      unfold l1__law_common at w
      rw [e, w, Nat.gcd_rec a b]
    · rw [if_neg hb]
      have : a = 0 := by omega
      subst this
      simp
theorem common_eq (a b : Int) : F__law_common [.int a, .int b] = .ok (.int (Int.gcd a b)) := by
  unfold F__law_common b__law_common
  walk_at "gd"
  unfold fuelI
  walk_at "gd"
  rw [while_common _ _ _ (by simp)]
  walk_at "gd"
  rfl
theorem whole_int (i : Int) : F__law_whole [.int i] = .ok (.bl true) := by
  unfold F__law_whole b__law_whole
  walk_at "gd"
  rw [isi_int _ _ _ _ rfl kb_int_int, isi_int _ _ _ _ rfl kb_int_bool]
  walk_at "gd"
theorem cell_loop (ns : List Int) (k : D) : ∀ (l : List Int) (n : Nat) (x : Int) (y : Sl), n + 12 * l.length < 900000 → Bd n x → 32 ≤ n →
    ∃ x' y', loop (gNm 3) l1__law_cell (l.map D.int) [.v (.scr ns), .v k, .v (.int x), y] = .nx [.v (.scr ns), .v k, .v (.int x'), y'] ∧ Bd (n + 12 * l.length) x'
  | [], n, x, y, _, h, _ => ⟨x, y, rfl, h⟩
  | z :: l, n, x, y, hn, h, h32 => by
    have b1 : Bd 10 1009 := by decide
    have b2 : Bd 20 (z % 1000003) := Bd.of_range (Int.emod_nonneg _ (by decide)) (Int.lt_trans (Int.emod_lt_of_pos z (by decide)) (by decide))
    have b3 : Bd (n + 11) (x * 1009 + z % 1000003) := ((h.mul b1).add b2).mono (by omega)
    obtain ⟨x', y', e, hb⟩ := cell_loop ns k l (n + 12) (x * 1009 + z % 1000003) (.v (.int z)) (by rw [List.length_cons] at hn; omega) (b3.mono (by omega)) (by omega)
    refine ⟨x', y', ?_, hb.mono (by rw [List.length_cons]; omega)⟩
    rw [List.map_cons, loop_cons (ρ1 := [.v (.scr ns), .v k, .v (.int x), .v (.int z)]) (ρ2 := [.v (.scr ns), .v k, .v (.int (x * 1009 + z % 1000003)), .v (.int z)]) rfl ?_]
    · exact e
    · unfold l1__law_cell
      walk_at "gd"
      rw [dMul_int (mok h b1 (by omega))]
      walk_at "gd"
theorem cell_spec (ns : List Int) (k : Int) (h0 : 0 ≤ k) (hk : k < 1000) : ∃ c : Int, 0 ≤ c ∧ c < 10 ^ 60 ∧ F__law_cell [.scr ns, .int k] = .ok (.int c) := by
  obtain ⟨j, rfl⟩ := Int.eq_ofNat_of_zero_le h0
  unfold F__law_cell b__law_cell
  by_cases hl : (j : Int) < ns.length
  · have hj : j < ns.length := by omega
    refine ⟨ns[j] % 10 ^ 60, Int.emod_nonneg _ (by decide), Int.emod_lt_of_pos _ (by decide), ?_⟩
    walk_at "gd"
    rw [if_pos hl, dAt_scr (List.getElem?_eq_getElem hj)]
    walk_at "gd"
    rfl
  · walk_at "gd"
    rw [if_neg hl]
    walk_at "gd"
    rw [dMul_int (mok (Bd.of_range (n := 10) h0 (by omega)) (show Bd 13 7907 by decide) (by decide))]
    walk_at "gd"
    simp only [aCut, oNone, oSome, eVar, eC]
    walk_at "gd"
    rw [cutL_ints]
    have b0 : Bd 32 ((j : Int) * 7907 + 3571) := Bd.of_range (by omega) (by omega)
    have hl3 := cutL_len ns 3
    obtain ⟨x', y', e, hb⟩ := cell_loop ns (.int j) (cutL ns none (some 3)) 32 _ .un (by have : (cutL ns none (some 3)).length ≤ 3 := hl3; omega) b0 (by decide)
    rw [e]
    walk_at "gd"
    have b1 : Bd 31 (x' % 2147483647) := Bd.of_range (Int.emod_nonneg _ (by decide)) (Int.lt_trans (Int.emod_lt_of_pos x' (by decide)) (by decide))
    rw [dMul_int (mok b1 b1 (by decide))]
    walk_at "gd"
    exact ⟨_, Int.emod_nonneg _ (by decide), Int.lt_trans (Int.emod_lt_of_pos _ (by decide)) (by decide), rfl⟩
end Law
namespace Hl
open GD
abbrev lp (x y : Int) : Prop := 0 < x ∨ (x = 0 ∧ 0 < y)
theorem lx_lp {p q : Pt} (h : lx p q) : lp (q.1 - p.1) (q.2 - p.2) := by
  unfold lx at h
  unfold lp
  omega
theorem mul_neg_lt {a b : Int} (ha : 0 < a) (hb : b < 0) : a * b < 0 := Int.mul_neg_of_pos_of_neg ha hb
theorem trW {ux uy vx vy wx wy : Int} (hu : lp ux uy) (hv : lp vx vy) (hw : lp wx wy) (h1 : 0 ≤ ux * vy - uy * vx) (h2 : 0 ≤ vx * wy - vy * wx) : 0 ≤ ux * wy - uy * wx := by
  have ux0 : 0 ≤ ux := by unfold lp at hu; omega
  have wx0 : 0 ≤ wx := by unfold lp at hw; omega
  rcases hv with hv | ⟨rfl, hv⟩
  · have id : vx * (ux * wy - uy * wx) = ux * (vx * wy - vy * wx) + wx * (ux * vy - uy * vx) := by grind
    have g1 := Int.mul_nonneg ux0 h2
    have g2 := Int.mul_nonneg wx0 h1
    apply Decidable.byContradiction
    intro z
    have := mul_neg_lt hv (show ux * wy - uy * wx < 0 by omega)
    omega
  · rw [Int.zero_mul] at h2
    have : wx = 0 := by
      apply Decidable.byContradiction
      intro z
      have := Int.mul_pos hv (show 0 < wx by omega)
      omega
    subst this
    have hy : 0 < wy := by unfold lp at hw; omega
    have := Int.mul_nonneg ux0 (show 0 ≤ wy by omega)
    rw [Int.mul_zero]
    omega
theorem trS {ux uy vx vy wx wy : Int} (hu : lp ux uy) (hv : lp vx vy) (hw : lp wx wy) (h1 : 0 < ux * vy - uy * vx) (h2 : 0 < vx * wy - vy * wx) : 0 < ux * wy - uy * wx := by
  have wx0 : 0 ≤ wx := by unfold lp at hw; omega
  rcases hv with hv | ⟨rfl, hv⟩
  · have ux0 : 0 < ux := by
      rcases hu with hu | ⟨rfl, hu⟩
      · exact hu
      · have := Int.mul_pos hu hv
        rw [Int.zero_mul] at h1
        omega
    have id : vx * (ux * wy - uy * wx) = ux * (vx * wy - vy * wx) + wx * (ux * vy - uy * vx) := by grind
    have g1 := Int.mul_pos ux0 h2
    have g2 := Int.mul_nonneg wx0 (show 0 ≤ ux * vy - uy * vx by omega)
    apply Decidable.byContradiction
    intro z
    have := Int.mul_nonneg (show 0 ≤ vx by omega) (show 0 ≤ -(ux * wy - uy * wx) by omega)
    rw [Int.mul_neg] at this
    omega
  · rw [Int.zero_mul] at h2
    have := Int.mul_nonneg (show 0 ≤ vy by omega) wx0
    omega
def bnd (a b c : Pt) : Int := (b.1 - a.1) * (c.2 - a.2) - (b.2 - a.2) * (c.1 - a.1)
theorem bnd_self (a b : Pt) : bnd a b a = 0 := by unfold bnd; grind
theorem bnd_self2 (a b : Pt) : bnd a b b = 0 := by unfold bnd; grind
theorem bnd_self3 (a b : Pt) : bnd a a b = 0 := by unfold bnd; grind
theorem bnd_swap (a b c : Pt) : bnd b a c = - bnd a b c := by unfold bnd; grind
theorem leftA {a b c p : Pt} (h1 : lx a b) (h2 : lx b c) (h3 : lx c p) (t1 : 0 < bnd a b c) (t2 : 0 < bnd b c p) : 0 < bnd a b p := by
  have e1 : bnd a b c = (b.1 - a.1) * (c.2 - b.2) - (b.2 - a.2) * (c.1 - b.1) := by unfold bnd; grind
  have e2 : bnd b c p = (c.1 - b.1) * (p.2 - c.2) - (c.2 - b.2) * (p.1 - c.1) := by unfold bnd; grind
  have e3 : bnd a b p = ((b.1 - a.1) * (c.2 - b.2) - (b.2 - a.2) * (c.1 - b.1)) + ((b.1 - a.1) * (p.2 - c.2) - (b.2 - a.2) * (p.1 - c.1)) := by unfold bnd; grind
  rw [e1] at t1
  rw [e2] at t2
  have := trS (lx_lp h1) (lx_lp h2) (lx_lp h3) t1 t2
  omega
theorem leftB {a b p q : Pt} (h1 : lx b a) (h2 : lx b q) (h3 : lx b p) (t1 : 0 ≤ bnd b a q) (t2 : bnd b a p ≤ 0) : 0 ≤ bnd b p q := by
  unfold bnd at *
  exact trW (lx_lp h3) (lx_lp h1) (lx_lp h2) (by grind) t1
theorem leftC {b s p q : Pt} (h1 : lx b s) (h2 : lx q s) (h3 : lx s p) (t1 : 0 ≤ bnd b s q) (t2 : 0 ≤ bnd b s p) : 0 ≤ bnd s p q := by
  have e1 : bnd b s q = (s.1 - q.1) * (s.2 - b.2) - (s.2 - q.2) * (s.1 - b.1) := by unfold bnd; grind
  have e2 : bnd b s p = (s.1 - b.1) * (p.2 - s.2) - (s.2 - b.2) * (p.1 - s.1) := by unfold bnd; grind
  have e3 : bnd s p q = (s.1 - q.1) * (p.2 - s.2) - (s.2 - q.2) * (p.1 - s.1) := by unfold bnd; grind
  rw [e1] at t1
  rw [e2] at t2
  rw [e3]
  exact trW (lx_lp h2) (lx_lp h1) (lx_lp h3) t1 t2
def Cv : List Pt → Prop
  | a :: b :: c :: r => 0 < bnd c b a ∧ Cv (b :: c :: r)
  | _ => True
def Lf (q : Pt) : List Pt → Prop
  | a :: b :: r => 0 ≤ bnd b a q ∧ Lf q (b :: r)
  | _ => True
abbrev Dc (st : List Pt) : Prop := st.Pairwise fun a b => lx b a
def popW (p : Pt) : List Pt → List Pt
  | a :: b :: r => if bnd b a p ≤ 0 then popW p (b :: r) else a :: b :: r
  | st => st
def pushP (st : List Pt) (p : Pt) : List Pt := p :: popW p st
theorem Cv.tail {a : Pt} : ∀ {st : List Pt}, Cv (a :: st) → Cv st
  | [], _ => trivial
  | [_], _ => trivial
  | _ :: _ :: _, h => h.2
theorem Lf.tail {q a : Pt} : ∀ {st : List Pt}, Lf q (a :: st) → Lf q st
  | [], _ => trivial
  | _ :: _, h => h.2
theorem pop_suffix (p : Pt) : ∀ st : List Pt, ∃ t, st = t ++ popW p st
  | [] => ⟨[], rfl⟩
  | [a] => ⟨[], rfl⟩
  | a :: b :: r => by
    unfold popW
    split
    · obtain ⟨t, h⟩ := pop_suffix p (b :: r)
      exact ⟨a :: t, congrArg (a :: ·) h⟩
    · exact ⟨[], rfl⟩
theorem pop_ne (p : Pt) : ∀ {st : List Pt}, st ≠ [] → popW p st ≠ []
  | [], h => absurd rfl h
  | [a], _ => by simp [popW]
  | a :: b :: r, _ => by
    unfold popW
    split
    · exact pop_ne p (by simp)
    · simp
theorem suf_lf {q : Pt} {t : List Pt} : ∀ {s : List Pt}, Lf q (s ++ t) → Lf q t
  | [], h => h
  | a :: s, h => suf_lf (s := s) (Lf.tail (st := s ++ t) h)
theorem pop_cv (p : Pt) : ∀ {st : List Pt}, Cv st → Cv (p :: popW p st)
  | [], _ => trivial
  | [a], _ => trivial
  | a :: b :: r, h => by
    unfold popW
    split
    · exact pop_cv p (Cv.tail h)
    · rename_i n
      exact ⟨by omega, h⟩
theorem lf_new {p : Pt} : ∀ {st : List Pt}, Dc (p :: st) → Cv (p :: st) → Lf p st
  | [], _, _ => trivial
  | [_], _, _ => trivial
  | [s, b], _, h => ⟨by have := h.1; omega, trivial⟩
  | s :: b :: c :: r, d, h => by
    obtain ⟨h1, h2, h3⟩ := h
    obtain ⟨d1, d2⟩ := List.pairwise_cons.mp d
    obtain ⟨d3, d4⟩ := List.pairwise_cons.mp d2
    obtain ⟨d5, d6⟩ := List.pairwise_cons.mp d4
    have k : 0 < bnd c b p := leftA (d5 c List.mem_cons_self) (d3 b List.mem_cons_self) (d1 s List.mem_cons_self) h2 h1
    refine ⟨by omega, lf_new (st := b :: c :: r) (List.pairwise_cons.mpr ⟨fun x hx => d1 x (List.mem_cons_of_mem _ hx), d4⟩) ⟨k, h3⟩⟩
theorem lf_old {p q : Pt} : ∀ {st : List Pt}, Dc (p :: st) → Lf q st → (∀ b ∈ st.getLast?, ¬ lx q b) → (∀ a ∈ st.head?, lx q a ∨ q = a ∨ 0 ≤ bnd a p q) → Lf q (p :: popW p st)
  | [], _, _, _, _ => trivial
  | [s], _, _, hl, hh => by
    refine ⟨?_, trivial⟩
    rcases hh s (by simp) with h | h | h
    · exact absurd h (hl s (by simp))
    · subst h
      rw [bnd_self]
      exact Int.le_refl _
    · exact h
  | a :: b :: r, d, hf, hl, hh => by
    obtain ⟨d1, d2⟩ := List.pairwise_cons.mp d
    obtain ⟨d3, d4⟩ := List.pairwise_cons.mp d2
    unfold popW
    split
    · rename_i hp
      refine lf_old (st := b :: r) (List.pairwise_cons.mpr ⟨fun x hx => d1 x (List.mem_cons_of_mem _ hx), d4⟩) (Lf.tail hf) (fun x hx => hl x (by simpa using hx)) fun x hx => ?_
      have e : b = x := by simpa using hx
      subst e
      rcases lx_tot q b with h | h | h
      · exact .inl h
      · exact .inr (.inl h)
      · exact .inr (.inr (leftB (d3 b List.mem_cons_self) h (d1 b (by simp)) hf.1 hp))
    · rename_i hp
      refine ⟨?_, hf⟩
      rcases hh a (by simp) with h | h | h
      · exact leftC (d3 b List.mem_cons_self) h (d1 a List.mem_cons_self) hf.1 (by omega)
      · subst h
        rw [bnd_self]
        exact Int.le_refl _
      · exact h
theorem leftD {z b s p : Pt} (h1 : lx z b) (h2 : lx b s) (h3 : lx s p) (t1 : 0 < bnd z b s) (t2 : 0 < bnd b s p) : 0 < bnd z s p := by
  have e1 : bnd z b s = (b.1 - z.1) * (s.2 - b.2) - (b.2 - z.2) * (s.1 - b.1) := by unfold bnd; grind
  have e2 : bnd b s p = (s.1 - b.1) * (p.2 - s.2) - (s.2 - b.2) * (p.1 - s.1) := by unfold bnd; grind
  have e3 : bnd z s p = ((b.1 - z.1) * (p.2 - s.2) - (b.2 - z.2) * (p.1 - s.1)) + ((s.1 - b.1) * (p.2 - s.2) - (s.2 - b.2) * (p.1 - s.1)) := by unfold bnd; grind
  rw [e1] at t1
  rw [e2] at t2
  have := trS (lx_lp h1) (lx_lp h2) (lx_lp h3) t1 t2
  omega
structure Chn (done st : List Pt) : Prop where
  dc : Dc st
  cv : Cv st
  lf : ∀ q ∈ done, Lf q st
  mem : ∀ x ∈ st, x ∈ done
  top : st.head? = done.getLast?
  bot : st.getLast? = done.head?
theorem Chn.nil : Chn [] [] := ⟨.nil, trivial, fun q h => absurd h (by simp), fun x h => absurd h (by simp), rfl, rfl⟩
theorem last_suf {a t : List Pt} (h : t ≠ []) : (a ++ t).getLast? = t.getLast? := by
  rw [List.getLast?_append]
  cases e : t.getLast? with
  | none => exact absurd (List.getLast?_eq_none_iff.mp e) h
  | some x => rfl
theorem Chn.push {done st : List Pt} {p : Pt} (c : Chn done st) (hs : (done ++ [p]).Pairwise lx) : Chn (done ++ [p]) (pushP st p) := by
  obtain ⟨s1, _, s3⟩ := List.pairwise_append.mp hs
  have hp : ∀ q ∈ done, lx q p := fun q hq => s3 q hq p (by simp)
  have dcp : Dc (p :: st) := List.pairwise_cons.mpr ⟨fun x hx => hp x (c.mem x hx), c.dc⟩
  obtain ⟨t, ht⟩ := pop_suffix p st
  have sub : ∀ x ∈ popW p st, x ∈ st := fun x hx => by rw [ht]; exact List.mem_append_right _ hx
  have dn : Dc (p :: popW p st) := by
    refine List.pairwise_cons.mpr ⟨fun x hx => hp x (c.mem x (sub x hx)), ?_⟩
    have := c.dc
    rw [ht] at this
    exact (List.pairwise_append.mp this).2.1
  have cn : Cv (p :: popW p st) := pop_cv p c.cv
  refine ⟨dn, cn, fun q hq => ?_, fun x hx => ?_, ?_, ?_⟩
  · rcases List.mem_append.mp hq with hq | hq
    · refine lf_old dcp (c.lf q hq) (fun b hb => ?_) fun a ha => ?_
      · rw [c.bot] at hb
        cases done with
        | nil => exact absurd hq (by simp)
        | cons d r =>
          have e : d = b := by simpa using hb
          subst e
          rcases List.mem_cons.mp hq with h | h
          · rw [h]; exact lx_irr d
          · intro z
            exact lx_irr d (lx_tr ((List.pairwise_cons.mp s1).1 q h) z)
      · rw [c.top] at ha
        obtain ⟨r, hr⟩ := List.getLast?_eq_some_iff.mp ha
        rw [hr] at hq s1
        rcases List.mem_append.mp hq with h | h
        · exact .inl ((List.pairwise_append.mp s1).2.2 q h a (by simp))
        · exact .inr (.inl (List.mem_singleton.mp h))
    · have e := List.mem_singleton.mp hq
      subst e
      have k := lf_new dn cn
      cases e : popW q st with
      | nil => show Lf q (q :: popW q st); rw [e]; exact trivial
      | cons s r =>
        show Lf q (q :: popW q st)
        rw [e] at k ⊢
        exact ⟨by rw [bnd_self2]; exact Int.le_refl _, k⟩
  · rcases List.mem_cons.mp hx with h | h
    · rw [h]; simp
    · exact List.mem_append_left _ (c.mem x (sub x h))
  · simp [pushP]
  · by_cases h : st = []
    · subst h
      have : done = [] := by
        have := c.top
        simp at this
        exact List.getLast?_eq_none_iff.mp this.symm
      subst this
      rfl
    · have hd : done ≠ [] := by
        intro z
        subst z
        exact h (List.head?_eq_none_iff.mp c.top)
      have e1 : (pushP st p).getLast? = st.getLast? := by
        show ([p] ++ popW p st).getLast? = _
        rw [last_suf (pop_ne p h)]
        conv => rhs; rw [ht]
        rw [last_suf (pop_ne p h)]
      rw [e1, c.bot]
      cases done with
      | nil => exact absurd rfl hd
      | cons d r => rfl
def chainP (ps : List Pt) : List Pt := ps.foldl pushP []
theorem chn_go : ∀ (ps done st : List Pt), Chn done st → (done ++ ps).Pairwise lx → Chn (done ++ ps) (ps.foldl pushP st)
  | [], done, st, c, _ => by simpa using c
  | p :: ps, done, st, c, h => by
    have e : done ++ p :: ps = (done ++ [p]) ++ ps := by simp
    rw [e] at h ⊢
    exact chn_go ps (done ++ [p]) (pushP st p) (c.push (List.pairwise_append.mp h).1) h
theorem chn_all {ps : List Pt} (h : ps.Pairwise lx) : Chn ps (chainP ps) := by
  have := chn_go ps [] [] Chn.nil (by simpa using h)
  simpa [chainP] using this
theorem mid_strict {p z : Pt} : ∀ {mid : List Pt}, Dc (p :: mid ++ [z]) → Cv (p :: mid ++ [z]) → ∀ x ∈ mid, 0 < bnd z x p
  | [], _, _, x, hx => absurd hx (by simp)
  | [s], d, c, x, hx => by
    have e := List.mem_singleton.mp hx
    subst e
    exact c.1
  | s :: b :: r, d, c, x, hx => by
    obtain ⟨d1, d2⟩ := List.pairwise_cons.mp d
    obtain ⟨d3, d4⟩ := List.pairwise_cons.mp d2
    obtain ⟨d5, d6⟩ := List.pairwise_cons.mp d4
    -- the stack without s
    have dd : Dc (p :: (b :: r) ++ [z]) := List.pairwise_cons.mpr ⟨fun y hy => d1 y (List.mem_cons_of_mem _ hy), d4⟩
    have cc : Cv (p :: (b :: r) ++ [z]) := by
      have c1 := c.1
      cases r with
      | nil => exact ⟨leftA (d5 z (by simp)) (d3 b (by simp)) (d1 s (by simp)) c.2.1 c1, trivial⟩
      | cons y r => exact ⟨leftA (d5 y (by simp)) (d3 b (by simp)) (d1 s (by simp)) c.2.1 c1, c.2.2⟩
    rcases List.mem_cons.mp hx with h | h
    · subst h
      have k : 0 < bnd z b x := mid_strict (p := x) (mid := b :: r) d2 c.tail b (by simp)
      exact leftD (d5 z (by simp)) (d3 b (by simp)) (d1 x (by simp)) k c.1
    · exact mid_strict (mid := b :: r) dd cc x h
def ng (p : Pt) : Pt := (-p.1, -p.2)
theorem ng_ng (p : Pt) : ng (ng p) = p := by unfold ng; simp
theorem bnd_ng (a b c : Pt) : bnd (ng a) (ng b) (ng c) = bnd a b c := by unfold bnd ng; grind
theorem lx_ng {a b : Pt} : lx (ng a) (ng b) ↔ lx b a := by unfold lx ng; omega
theorem pop_ng (p : Pt) : ∀ st : List Pt, popW (ng p) (st.map ng) = (popW p st).map ng
  | [] => rfl
  | [a] => rfl
  | a :: b :: r => by
    show (if bnd (ng b) (ng a) (ng p) ≤ 0 then popW (ng p) ((b :: r).map ng) else (a :: b :: r).map ng) = (if bnd b a p ≤ 0 then popW p (b :: r) else a :: b :: r).map ng
    rw [bnd_ng, pop_ng p (b :: r)]
    split <;> rfl
theorem chain_ng : ∀ (ps st : List Pt), (ps.map ng).foldl pushP (st.map ng) = (ps.foldl pushP st).map ng
  | [], _ => rfl
  | p :: ps, st => by
    rw [List.map_cons, List.foldl_cons, List.foldl_cons, ← chain_ng ps]
    congr 1
    show ng p :: popW (ng p) (st.map ng) = (p :: popW p st).map ng
    rw [pop_ng, List.map_cons]
theorem cv_ng : ∀ {st : List Pt}, Cv (st.map ng) → Cv st
  | [], _ => trivial
  | [_], _ => trivial
  | [_, _], _ => trivial
  | a :: b :: c :: r, h => ⟨by have := h.1; rw [bnd_ng] at this; exact this, cv_ng (st := b :: c :: r) h.2⟩
theorem lf_ng {q : Pt} : ∀ {st : List Pt}, Lf (ng q) (st.map ng) → Lf q st
  | [], _ => trivial
  | [_], _ => trivial
  | a :: b :: r, h => ⟨by have := h.1; rw [bnd_ng] at this; exact this, lf_ng (st := b :: r) h.2⟩
structure Chr (ps st : List Pt) : Prop where
  dc : st.Pairwise lx
  cv : Cv st
  lf : ∀ q ∈ ps, Lf q st
  mem : ∀ x ∈ st, x ∈ ps
  top : st.head? = ps.head?
  bot : st.getLast? = ps.getLast?
  mid : ∀ (p z : Pt) (m : List Pt), st = p :: m ++ [z] → ∀ x ∈ m, 0 < bnd z x p
theorem chr_all {ps : List Pt} (h : ps.Pairwise lx) : Chr ps (chainP ps.reverse) := by
  have hs : (ps.reverse.map ng).Pairwise lx := by
    rw [List.pairwise_map, List.pairwise_reverse]
    exact h.imp fun hh => lx_ng.mpr hh
  have c := chn_all hs
  have e : chainP (ps.reverse.map ng) = (chainP ps.reverse).map ng := chain_ng ps.reverse []
  rw [e] at c
  have hm : ∀ {x : Pt} {l : List Pt}, ng x ∈ l.map ng → x ∈ l := fun {x l} hx => by
    obtain ⟨y, hy, ey⟩ := List.mem_map.mp hx
    rw [← ng_ng x, ← ey, ng_ng]
    exact hy
  have hj : ∀ {o u : Option Pt}, o.map ng = u.map ng → o = u := fun {o u} hh => by
    cases o with
    | none => cases u with
      | none => rfl
      | some _ => cases hh
    | some a => cases u with
      | none => cases hh
      | some b =>
        have := Option.some.inj hh
        rw [← ng_ng a, this, ng_ng]
  refine ⟨?_, cv_ng c.cv, fun q hq => lf_ng (c.lf (ng q) (List.mem_map_of_mem (List.mem_reverse.mpr hq))), fun x hx => List.mem_reverse.mp (hm (c.mem (ng x) (List.mem_map_of_mem hx))), hj ?_, hj ?_, fun p z m em x hx => ?_⟩
  · exact (List.pairwise_map.mp c.dc).imp fun hh => lx_ng.mp hh
  · have := c.top
    rw [List.head?_map, List.getLast?_map, List.getLast?_reverse] at this
    exact this
  · have := c.bot
    rw [List.head?_map, List.getLast?_map, List.head?_reverse] at this
    exact this
  · have d := c.dc
    have v := c.cv
    rw [em, List.map_append, List.map_cons] at d v
    have := mid_strict (p := ng p) (z := ng z) (mid := m.map ng) d v (ng x) (List.mem_map_of_mem hx)
    rw [bnd_ng] at this
    exact this
theorem par0 {ux uy vx vy wx wy : Int} (hu : lp ux uy) (hv : lp vx vy) (h0 : ux * vy - uy * vx = 0) (h1 : 0 ≤ ux * wy - uy * wx) (h2 : vx * wy - vy * wx ≤ 0) : ux * wy - uy * wx = 0 := by
  rcases hv with hv | ⟨rfl, hv⟩
  · have ux0 : 0 < ux := by
      rcases hu with hu | ⟨rfl, hu⟩
      · exact hu
      · have := Int.mul_pos hu hv
        rw [Int.zero_mul] at h0
        omega
    have id : vx * (ux * wy - uy * wx) = ux * (vx * wy - vy * wx) := by grind
    apply Decidable.byContradiction
    intro z
    have g1 := Int.mul_pos hv (show 0 < ux * wy - uy * wx by omega)
    have g2 := Int.mul_nonneg (show 0 ≤ ux by omega) (show 0 ≤ -(vx * wy - vy * wx) by omega)
    rw [Int.mul_neg] at g2
    omega
  · have u0 : ux = 0 := by
      rcases hu with hu | ⟨h, _⟩
      · have := Int.mul_pos hu hv
        omega
      · exact h
    subst u0
    have uy0 : 0 < uy := by unfold lp at hu; omega
    have w1 : 0 ≤ wx := by
      apply Decidable.byContradiction
      intro z
      have := Int.mul_pos hv (show 0 < -wx by omega)
      rw [Int.mul_neg] at this
      omega
    have w2 : wx ≤ 0 := by
      apply Decidable.byContradiction
      intro z
      have := Int.mul_pos uy0 (show 0 < wx by omega)
      omega
    have : wx = 0 := by omega
    subst this
    simp
def Col (ps : List Pt) : Prop := ∀ a ∈ ps, ∀ b ∈ ps, ∀ c ∈ ps, bnd a b c = 0
theorem col_of {ps : List Pt} {y z : Pt} (hne : y ≠ z) (h : ∀ q ∈ ps, bnd y z q = 0) : Col ps := by
  intro a ha b hb c hc
  have ka := h a ha
  have kb := h b hb
  have kc := h c hc
  have i1 : (z.1 - y.1) * bnd a b c = (b.1 - a.1) * (bnd y z c - bnd y z a) - (c.1 - a.1) * (bnd y z b - bnd y z a) := by unfold bnd; grind
  have i2 : (z.2 - y.2) * bnd a b c = (b.2 - a.2) * (bnd y z c - bnd y z a) - (c.2 - a.2) * (bnd y z b - bnd y z a) := by unfold bnd; grind
  rw [ka, kb, kc] at i1 i2
  simp only [Int.sub_self, Int.mul_zero] at i1 i2
  rcases Int.mul_eq_zero.mp i1 with e1 | e1
  · rcases Int.mul_eq_zero.mp i2 with e2 | e2
    · exact absurd (Prod.ext (by omega) (by omega)) hne
    · exact e2
  · exact e1
theorem junc {ps : List Pt} {y z x : Pt} (h1 : lx y z) (h2 : lx x z) (A : ∀ q ∈ ps, 0 ≤ bnd y z q) (B : ∀ q ∈ ps, 0 ≤ bnd z x q) (hx : x ∈ ps) (nc : ¬ Col ps) : 0 < bnd y z x := by
  have g := A x hx
  apply Decidable.byContradiction
  intro n
  have e0 : bnd y z x = 0 := by omega
  refine nc (col_of (y := y) (z := z) (fun e => lx_irr z (e ▸ h1)) fun q hq => ?_)
  have a := A q hq
  have b := B q hq
  have e1 : bnd y z x = -((z.1 - y.1) * (z.2 - x.2) - (z.2 - y.2) * (z.1 - x.1)) := by unfold bnd; grind
  have e2 : bnd y z q = (z.1 - y.1) * (q.2 - z.2) - (z.2 - y.2) * (q.1 - z.1) := by unfold bnd; grind
  have e3 : bnd z x q = -((z.1 - x.1) * (q.2 - z.2) - (z.2 - x.2) * (q.1 - z.1)) := by unfold bnd; grind
  rw [e2] at a ⊢
  rw [e3] at b
  rw [e1] at e0
  exact par0 (lx_lp h1) (lx_lp h2) (by omega) a (by omega)
theorem lf_join {q a : Pt} {t : List Pt} : ∀ {s : List Pt}, Lf q (s ++ [a]) → Lf q (a :: t) → Lf q (s ++ a :: t)
  | [], _, h => h
  | [x], h, g => ⟨h.1, g⟩
  | x :: y :: s, h, g => ⟨h.1, lf_join (s := y :: s) h.2 g⟩
theorem cv_join {x a y : Pt} {t : List Pt} (hj : 0 < bnd y a x) : ∀ {s : List Pt}, Cv (s ++ [x, a]) → Cv (a :: y :: t) → Cv (s ++ x :: a :: y :: t)
  | [], _, h => ⟨hj, h⟩
  | [u], h, g => ⟨h.1, hj, g⟩
  | u :: v :: s, h, g => by
    cases s with
    | nil => exact ⟨h.1, cv_join (s := [v]) hj h.2 g⟩
    | cons w s => exact ⟨h.1, cv_join (s := v :: w :: s) hj h.2 g⟩
structure Poly (ps C : List Pt) : Prop where
  len : 3 ≤ C.length
  sub : ∀ x ∈ C, x ∈ ps
  nd : C.Nodup
  fst : C.head? = ps.head?
  edge : ∀ q ∈ ps, Lf q (C ++ C.take 1).reverse
  turn : Cv (C ++ C.take 2).reverse
def hullP (ps : List Pt) : List Pt := (chainP ps).tail.reverse ++ (chainP ps.reverse).tail.reverse
theorem ends_of {ps : List Pt} (h : ps.Pairwise lx) {F L : Pt} {r : List Pt} (e : ps = F :: (r ++ [L])) :
    ∃ m1 m2, chainP ps = L :: (m1 ++ [F]) ∧ chainP ps.reverse = F :: (m2 ++ [L]) := by
  have c := chn_all h
  have d := chr_all h
  have hF : ps.head? = some F := by rw [e]; rfl
  have hL : ps.getLast? = some L := by rw [e, ← List.cons_append, List.getLast?_append]; rfl
  have hne : F ≠ L := by
    intro z
    subst z
    rw [e] at h
    exact lx_irr F ((List.pairwise_cons.mp h).1 F (by simp))
  have shape : ∀ {st : List Pt} {a z : Pt}, st.head? = some a → st.getLast? = some z → a ≠ z → ∃ m, st = a :: (m ++ [z]) := by
    intro st a z h1 h2 h3
    cases st with
    | nil => cases h1
    | cons u st =>
      have e1 : u = a := Option.some.inj h1
      subst e1
      cases st with
      | nil => exact absurd (Option.some.inj h2) h3
      | cons v st =>
        rw [List.getLast?_cons_cons] at h2
        obtain ⟨m, hm⟩ := List.getLast?_eq_some_iff.mp h2
        exact ⟨m, by rw [hm]⟩
  obtain ⟨m1, h1⟩ := shape (c.top.trans hL) (c.bot.trans hF) (Ne.symm hne)
  obtain ⟨m2, h2⟩ := shape (d.top.trans hF) (d.bot.trans hL) hne
  exact ⟨m1, m2, h1, h2⟩
theorem hull_eq {ps m1 m2 : List Pt} {F L : Pt} (h1 : chainP ps = L :: (m1 ++ [F])) (h2 : chainP ps.reverse = F :: (m2 ++ [L])) : hullP ps = F :: (m1.reverse ++ L :: m2.reverse) := by
  unfold hullP
  rw [h1, h2]
  simp
theorem shapes (ps : List Pt) : ps = [] ∨ (∃ a, ps = [a]) ∨ ∃ F L r, ps = F :: (r ++ [L]) := by
  cases ps with
  | nil => exact .inl rfl
  | cons a r =>
    rcases List.eq_nil_or_concat r with h | ⟨r', b, h⟩
    · subst h; exact .inr (.inl ⟨a, rfl⟩)
    · subst h
      refine .inr (.inr ⟨a, b, r', ?_⟩)
      simp
theorem hull_flat {ps : List Pt} (h : ps.Pairwise lx) (c : Col ps) : (hullP ps).length < 3 := by
  rcases shapes ps with e | ⟨a, e⟩ | ⟨F, L, r, e⟩
  · subst e; decide
  · subst e; show 0 < 3; decide
  · obtain ⟨m1, m2, h1, h2⟩ := ends_of h e
    rw [hull_eq h1 h2]
    have k : ∀ {st : List Pt}, Cv st → (∀ x ∈ st, x ∈ ps) → st.length < 3 := by
      intro st v s
      match st, v, s with
      | [], _, _ => decide
      | [_], _, _ => show 1 < 3; decide
      | [_, _], _, _ => show 2 < 3; decide
      | x :: y :: z :: t, v, s =>
        have g := v.1
        rw [c z (s z (by simp)) y (s y (by simp)) x (s x (by simp))] at g
        exact absurd g (by omega)
    have c1 := chn_all h
    have c2 := chr_all h
    have l1 := k c1.cv c1.mem
    have l2 := k c2.cv c2.mem
    rw [h1] at l1
    rw [h2] at l2
    simp only [List.length_cons, List.length_append, List.length_reverse, List.length_nil] at l1 l2 ⊢
    omega
theorem hull_poly {ps : List Pt} (h : ps.Pairwise lx) (nc : ¬ Col ps) : Poly ps (hullP ps) := by
  rcases shapes ps with e | ⟨a, e⟩ | ⟨F, L, r, e⟩
  · subst e
    exact absurd (fun a ha => absurd ha (by simp)) nc
  · subst e
    refine absurd (fun x hx y hy z hz => ?_) nc
    rw [List.mem_singleton.mp hx, List.mem_singleton.mp hy]
    exact bnd_self3 _ _
  obtain ⟨m1, m2, h1, h2⟩ := ends_of h e
  have c1 := chn_all h
  have c2 := chr_all h
  have eC := hull_eq h1 h2
  have FL : F ≠ L := by
    intro z
    subst z
    rw [e] at h
    exact lx_irr F ((List.pairwise_cons.mp h).1 F (by simp))
  have d1 := c1.dc
  have v1 := c1.cv
  have f1 := c1.lf
  have s1 := c1.mem
  have d2 := c2.dc
  have v2 := c2.cv
  have f2 := c2.lf
  have s2 := c2.mem
  have k1 : ∀ x ∈ m1, 0 < bnd F x L := mid_strict (p := L) (z := F) (mid := m1) (by rw [h1] at d1; exact d1) (by rw [h1] at v1; exact v1)
  have k2 : ∀ x ∈ m2, 0 < bnd L x F := c2.mid F L m2 h2
  rw [h1] at d1 v1 s1
  rw [h2] at d2 v2 s2
  have f1' : ∀ q ∈ ps, Lf q (L :: (m1 ++ [F])) := fun q hq => h1 ▸ f1 q hq
  have f2' : ∀ q ∈ ps, Lf q (F :: (m2 ++ [L])) := fun q hq => h2 ▸ f2 q hq
  have hFps : F ∈ ps := by rw [e]; simp
  have hLps : L ∈ ps := by rw [e]; simp
  -- the neighbours of the ends
  obtain ⟨y, t1, ey⟩ : ∃ y t1, m1 ++ [F] = y :: t1 := by
    cases m1 with
    | nil => exact ⟨F, [], rfl⟩
    | cons y m => exact ⟨y, m ++ [F], rfl⟩
  obtain ⟨x, t2, ex⟩ : ∃ x t2, F :: m2 = t2 ++ [x] := by
    rcases List.eq_nil_or_concat m2 with hm | ⟨m, b, hm⟩
    · subst hm; exact ⟨F, [], rfl⟩
    · subst hm; exact ⟨b, F :: m, by simp⟩
  have jL : 0 < bnd y L x := by
    have yL : lx y L := (List.pairwise_cons.mp d1).1 y (by rw [ey]; simp)
    have e2 : F :: (m2 ++ [L]) = t2 ++ [x, L] := by
      rw [← List.cons_append, ex]; simp
    have xL : lx x L := by
      rw [e2] at d2
      exact (List.pairwise_cons.mp (List.pairwise_append.mp d2).2.1).1 L (by simp)
    refine junc yL xL (fun q hq => ?_) (fun q hq => ?_) (s2 x (by rw [e2]; simp)) nc
    · have := f1' q hq
      rw [ey] at this
      exact this.1
    · have := f2' q hq
      rw [e2] at this
      exact (suf_lf (s := t2) this).1
  obtain ⟨u, t3, eu⟩ : ∃ u t3, L :: m1 = t3 ++ [u] := by
    rcases List.eq_nil_or_concat m1 with hm | ⟨m, b, hm⟩
    · subst hm; exact ⟨L, [], rfl⟩
    · subst hm; exact ⟨b, L :: m, by simp⟩
  obtain ⟨v, t4, ev⟩ : ∃ v t4, m2 ++ [L] = v :: t4 := by
    cases m2 with
    | nil => exact ⟨L, [], rfl⟩
    | cons y m => exact ⟨y, m ++ [L], rfl⟩
  have e3 : L :: (m1 ++ [F]) = t3 ++ [u, F] := by
    rw [← List.cons_append, eu]; simp
  have jF : 0 < bnd v F u := by
    have nc' : ¬ Col (ps.map ng) := by
      intro hc
      refine nc fun a ha b hb c hcc => ?_
      have := hc (ng a) (List.mem_map_of_mem ha) (ng b) (List.mem_map_of_mem hb) (ng c) (List.mem_map_of_mem hcc)
      rw [bnd_ng] at this
      exact this
    have vF : lx F v := (List.pairwise_cons.mp d2).1 v (by rw [ev]; simp)
    have uF : lx F u := by
      rw [e3] at d1
      exact (List.pairwise_cons.mp (List.pairwise_append.mp d1).2.1).1 F (by simp)
    have a1 : ∀ q ∈ ps.map ng, 0 ≤ bnd (ng v) (ng F) q := by
      intro q' hq'
      obtain ⟨q, hq, rfl⟩ := List.mem_map.mp hq'
      have := f2' q hq
      rw [ev] at this
      rw [bnd_ng]
      exact this.1
    have a2 : ∀ q ∈ ps.map ng, 0 ≤ bnd (ng F) (ng u) q := by
      intro q' hq'
      obtain ⟨q, hq, rfl⟩ := List.mem_map.mp hq'
      have := f1' q hq
      rw [e3] at this
      rw [bnd_ng]
      exact (suf_lf (s := t3) this).1
    have := junc (lx_ng.mpr vF) (lx_ng.mpr uF) a1 a2 (List.mem_map_of_mem (s1 u (by rw [e3]; simp))) nc'
    rw [bnd_ng] at this
    exact this
  rw [eC]
  have nd1 : (L :: (m1 ++ [F])).Nodup := List.Pairwise.imp (fun {a b} (hh : lx b a) (z : a = b) => lx_irr b (by rw [z] at hh; exact hh)) d1
  have nd2 : (F :: (m2 ++ [L])).Nodup := List.Pairwise.imp (fun {a b} (hh : lx a b) (z : a = b) => lx_irr b (by rw [z] at hh; exact hh)) d2
  have eRev : (L :: m1).reverse = u :: t3.reverse := by rw [eu]; simp
  have eC2 : F :: (m1.reverse ++ L :: m2.reverse) = F :: u :: (t3.reverse ++ m2.reverse) := by
    have : m1.reverse ++ L :: m2.reverse = (L :: m1).reverse ++ m2.reverse := by simp
    rw [this, eRev]
    rfl
  refine ⟨?_, fun z hz => ?_, ?_, ?_, fun q hq => ?_, ?_⟩
  · have : m1 ≠ [] ∨ m2 ≠ [] := by
      apply Decidable.byContradiction
      intro n
      have n1 : m1 = [] := Decidable.byContradiction fun z => n (.inl z)
      have n2 : m2 = [] := Decidable.byContradiction fun z => n (.inr z)
      subst n1 n2
      refine nc (col_of FL fun q hq => ?_)
      have g1 := (f1' q hq).1
      have g2 := (f2' q hq).1
      rw [bnd_swap] at g2
      omega
    simp only [List.length_cons, List.length_append, List.length_reverse]
    rcases this with g | g
    · have := List.length_pos_iff.mpr g; omega
    · have := List.length_pos_iff.mpr g; omega
  · rcases List.mem_cons.mp hz with g | g
    · rw [g]; exact hFps
    · rcases List.mem_append.mp g with g | g
      · exact s1 z (by simp [List.mem_reverse.mp g])
      · rcases List.mem_cons.mp g with g | g
        · rw [g]; exact hLps
        · exact s2 z (by simp [List.mem_reverse.mp g])
  · obtain ⟨a1, a2⟩ := List.nodup_cons.mp nd1
    obtain ⟨b1, b2⟩ := List.nodup_cons.mp nd2
    obtain ⟨a3, _, a4⟩ := List.nodup_append.mp a2
    obtain ⟨b3, _, b4⟩ := List.nodup_append.mp b2
    refine List.nodup_cons.mpr ⟨fun g => ?_, List.nodup_append.mpr ⟨(List.reverse_perm m1).nodup_iff.mpr a3, List.nodup_cons.mpr ⟨fun g => b4 L (List.mem_reverse.mp g) L (by simp) rfl, (List.reverse_perm m2).nodup_iff.mpr b3⟩, fun z hz w hw => ?_⟩⟩
    · rcases List.mem_append.mp g with g | g
      · exact a4 F (List.mem_reverse.mp g) F (by simp) rfl
      · rcases List.mem_cons.mp g with g | g
        · exact FL g
        · exact b1 (List.mem_append_left _ (List.mem_reverse.mp g))
    · intro zw
      subst zw
      have hz' := List.mem_reverse.mp hz
      rcases List.mem_cons.mp hw with g | g
      · rw [g] at hz'
        exact a1 (List.mem_append_left _ hz')
      · have g1 := k1 z hz'
        have g2 := k2 z (List.mem_reverse.mp g)
        have : bnd L z F = - bnd F z L := by unfold bnd; grind
        omega
  · rw [e]; rfl
  · have : (F :: (m1.reverse ++ L :: m2.reverse) ++ (F :: (m1.reverse ++ L :: m2.reverse)).take 1).reverse = (F :: m2) ++ L :: (m1 ++ [F]) := by simp
    rw [this]
    exact lf_join (s := F :: m2) (by simpa using f2' q hq) (f1' q hq)
  · have e4 : (F :: (m1.reverse ++ L :: m2.reverse) ++ (F :: (m1.reverse ++ L :: m2.reverse)).take 2).reverse = u :: F :: (m2 ++ L :: (m1 ++ [F])) := by
      conv => lhs; rw [eC2]
      have e5 : (F :: u :: (t3.reverse ++ m2.reverse) ++ (F :: u :: (t3.reverse ++ m2.reverse)).take 2).reverse = u :: F :: (m2 ++ ((t3 ++ [u]) ++ [F])) := by simp
      rw [e5, ← eu]
      simp
    rw [e4]
    have full : Cv (F :: (m2 ++ L :: (m1 ++ [F]))) := by
      have e6 : F :: (m2 ++ L :: (m1 ++ [F])) = t2 ++ x :: L :: y :: t1 := by
        rw [← List.cons_append, ex, ey]; simp
      rw [e6]
      refine cv_join jL ?_ (by rw [ey] at v1; exact v1)
      have e7 : F :: (m2 ++ [L]) = t2 ++ [x, L] := by
        rw [← List.cons_append, ex]; simp
      rw [e7] at v2
      exact v2
    have e8 : m2 ++ L :: (m1 ++ [F]) = v :: (t4 ++ (m1 ++ [F])) := by
      have : m2 ++ L :: (m1 ++ [F]) = (m2 ++ [L]) ++ (m1 ++ [F]) := by simp
      rw [this, ev]
      rfl
    rw [e8] at full ⊢
    exact ⟨jF, full⟩
end Hl
namespace Law
open PySem PySem.Spec PyProof.Rows L2 GD Hl
local macro_rules | `(tactic| walk_at "gd") => `(tactic| simp (config := {failIfUnchanged := false}) only [runF, sSeq, sIf, sAsg, sRet, sRetN, sExpr, sNil, sRaise, sPar, sTgt, sFor, sForR, sWhile, eVar, eC, e1, e2, mB, aNil, aCons, eF, eB, eTup, aLst, eL, mNot, mAnd, mOr, eNot, eAnd, eOr, gNm, gTp, gsNil, gsCons, asL, asT,
  bind_ok, bind_er, bind_st, ofO_some, asB_bl, ofR_ok, ofR_er, dAdd_int, dSub_int, dNeg_int, dLt_int, dLe_int, dGt_int, dGe_int, dEq_int, dNe_int, dEq_bl, dMod_int, dDiv_lit, dMul_int, Int.reduceLT, Int.reduceEq, Int.cast_ofNat_Int, eq_self, line_le, Nat.reduceLeDiff,  dIs_non, dIsNot_non, dAt_t0, dAt_t1, dAt_t2, dAt_l0, dAt_l1, dAt_l2, dAt_l3, dAt_l4, dAt_l5, dAt_l6, dAt_l7, dAbs, dMax2, dMin2, dLen,
  List.getElem?_cons_zero, List.getElem?_cons_succ, List.set_cons_zero, List.set_cons_succ, List.map_cons, List.map_nil, List.length_cons, List.length_nil, List.cons_append, List.nil_append, List.replicate_succ, List.replicate_zero, Nat.reduceSub, Nat.reduceAdd,
  decide_eq_true_eq, Bool.not_eq_true', if_true, if_false, ite_true, ite_false, Option.bind_some, Option.map_some, Bool.not_true, Bool.not_false, reduceIte, Bool.false_eq_true, Bool.true_eq_false, decide_true, decide_false])
local macro_rules | `(tactic| walk_at "gdh") => `(tactic| simp (config := {failIfUnchanged := false}) only [runF, sSeq, sIf, sAsg, sRet, sRetN, sExpr, sNil, sRaise, sPar, sTgt, sFor, sForR, sWhile, eVar, eC, e1, e2, mB, aNil, aCons, eF, eB, eTup, aLst, eL, mNot, mAnd, mOr, eNot, eAnd, eOr, gNm, gTp, gsNil, gsCons, asL, asT,
  bind_ok, bind_er, bind_st, ofO_some, asB_bl, ofR_ok, ofR_er, dAdd_int, dSub_int, dNeg_int, dLt_int, dLe_int, dGt_int, dGe_int, dEq_int, dNe_int, dEq_bl, dMod_int, dDiv_lit, dMul_int, Int.reduceLT, Int.reduceEq, Int.cast_ofNat_Int, eq_self, line_le, Nat.reduceLeDiff,  dIs_non, dIsNot_non, dAt_t0, dAt_t1, dAt_t2, dAt_l0, dAt_l1, dAt_l2, dAt_l3, dAt_l4, dAt_l5, dAt_l6, dAt_l7, dAbs, dMax2, dMin2, dLen,
  List.getElem?_cons_zero, List.getElem?_cons_succ, List.set_cons_zero, List.set_cons_succ, List.map_cons, List.map_nil, List.length_cons, List.length_nil, List.cons_append, List.nil_append, List.replicate_succ, List.replicate_zero, Nat.reduceSub, Nat.reduceAdd,
  decide_eq_true_eq, Bool.not_eq_true', if_true, if_false, ite_true, ite_false, Option.bind_some, Option.map_some, Bool.not_true, Bool.not_false, reduceIte, Bool.false_eq_true, Bool.true_eq_false, decide_true, decide_false, *])
def BdP (n : Nat) (p : Pt) : Prop := Bd n p.1 ∧ Bd n p.2
theorem dAt_p0 (p : Pt) : dAt (D2p p) (.int 0) = some (.int p.1) := rfl
theorem dAt_p1 (p : Pt) : dAt (D2p p) (.int 1) = some (.int p.2) := rfl
theorem bend_eq {a b c : Pt} {n : Nat} (ha : BdP n a) (hb : BdP n b) (hc : BdP n c) (hn : n ≤ 400000) : F_bend [D2p a, D2p b, D2p c] = .ok (.int (bnd a b c)) := by
  have m1 : mulOk (b.1 - a.1) (c.2 - a.2) := mok (hb.1.sub ha.1) (hc.2.sub ha.2) (by omega)
  have m2 : mulOk (b.2 - a.2) (c.1 - a.1) := mok (hb.2.sub ha.2) (hc.1.sub ha.1) (by omega)
  have p0 := dAt_p0
  have p1 := dAt_p1
  unfold F_bend b_bend
  clear ha hb hc hn
  walk_at "gdh"
  rfl
theorem at_m1 (l : List D) (b a : D) : L2.atI (l ++ [b, a]) (-1) = some a := by
  have e : l ++ [b, a] = (l ++ [b]) ++ [a] := by simp
  rw [e]
  exact atI_last _ _
theorem at_m2 (l : List D) (b a : D) : L2.atI (l ++ [b, a]) (-2) = some b := by
  unfold L2.atI
  have e : L2.ixN (l ++ [b, a]).length (-2) = some l.length := by
    unfold L2.ixN
    simp only [List.length_append, List.length_cons, List.length_nil]
    rw [if_neg (by decide), if_pos (by omega)]
    congr 1
    omega
  rw [e]
  simp
def stD (st : List Pt) : List D := st.reverse.map D2p
theorem stD_two (a b : Pt) (r : List Pt) : stD (a :: b :: r) = stD r ++ [D2p b, D2p a] := by
  unfold stD
  simp
theorem stD_len (st : List Pt) : (stD st).length = st.length := by simp [stD]
theorem stD_drop (a : Pt) (st : List Pt) : (stD (a :: st)).dropLast = stD st := by
  unfold stD
  rw [List.reverse_cons, List.map_append]
  simp
theorem while_chain {N : Nat} (hN : N ≤ 400000) {p : Pt} (hp : BdP N p) (x : Sl) : ∀ (st : List Pt) (n : Nat), (∀ q ∈ st, BdP N q) → st.length < n →
    whileN (mAnd (mB (e2 dGt (eOwnLen 1) (eC (.int 1)))) (mB (e2 dLe (eF F_bend (aCons (eOwnAt 1 (eC (.int (-2)))) (aCons (eOwnAt 1 (eC (.int (-1)))) (aCons (eVar 2) (aNil))))) (eC (.int 0))))) l1_chain n [x, .l (stD st), .v (D2p p)] = .nx [x, .l (stD (popW p st)), .v (D2p p)]
  | [], 0, _, h => absurd h (by simp)
  | [], n + 1, _, _ => by
    unfold whileN
    rfl
  | [a], 0, _, h => absurd h (by simp)
  | [a], n + 1, _, _ => by
    unfold whileN
    rfl
  | a :: b :: r, 0, _, h => absurd h (by simp)
  | a :: b :: r, n + 1, hq, h => by
    have e := bend_eq (hq b (by simp)) (hq a (by simp)) hp hN
    have l2 : (stD (a :: b :: r)).length = r.length + 2 := by rw [stD_len]; simp
    have g1 : (1 : Int) < ((stD (a :: b :: r)).length : Nat) := by rw [l2]; omega
    have i1 : L2.atI (stD (a :: b :: r)) (-1) = some (D2p a) := by rw [stD_two]; exact at_m1 _ _ _
    have i2 : L2.atI (stD (a :: b :: r)) (-2) = some (D2p b) := by rw [stD_two]; exact at_m2 _ _ _
    have w := while_chain hN hp x (b :: r) n (fun q hq' => hq q (List.mem_cons_of_mem _ hq')) (by simp at h ⊢; omega)
    have dr := stD_drop a (b :: r)
    have ne : stD (a :: b :: r) ≠ [] := by
      intro z
      rw [z] at l2
      simp at l2
    unfold whileN
    unfold popW
    generalize hfull : stD (a :: b :: r) = full at *
    by_cases hb : bnd b a p ≤ 0
    · rw [if_pos hb]
      rw [← w]
      simp only [eOwnLen, eOwnAt, l1_chain, sPop, mAnd, mB, e2, eC, eF, aCons, aNil, eVar, List.getElem?_cons_zero, List.getElem?_cons_succ, bind_ok, ofO_some, dGt_int, g1, asB_bl, decide_true, if_true, i1, i2, e, dLe_int, hb, ofR_ok, ne, if_false, dr, List.set_cons_zero, List.set_cons_succ]
    · rw [if_neg hb]
      simp only [eOwnLen, eOwnAt, mAnd, mB, e2, eC, eF, aCons, aNil, eVar, List.getElem?_cons_zero, List.getElem?_cons_succ, bind_ok, ofO_some, dGt_int, g1, asB_bl, decide_true, if_true, i1, i2, e, dLe_int, hb, ofR_ok, decide_false, Bool.false_eq_true, if_false]
      rw [hfull]
theorem stD_push (p : Pt) (st : List Pt) : stD st ++ [D2p p] = stD (p :: st) := by
  unfold stD
  rw [List.reverse_cons, List.map_append]
  rfl
theorem pop_len (p : Pt) (st : List Pt) : (popW p st).length ≤ st.length := by
  obtain ⟨t, ht⟩ := pop_suffix p st
  have := congrArg List.length ht
  rw [List.length_append] at this
  omega
theorem pop_sub {p q : Pt} {st : List Pt} (h : q ∈ popW p st) : q ∈ st := by
  obtain ⟨t, ht⟩ := pop_suffix p st
  rw [ht]
  exact List.mem_append_right _ h
theorem chain_turn {N : Nat} (hN : N ≤ 400000) {p : Pt} (hp : BdP N p) (x : Sl) {st : List Pt} (hq : ∀ q ∈ st, BdP N q) (hl : st.length < 10000) : l2_chain [x, .l (stD st), .v (D2p p)] = .nx [x, .l (stD (pushP st p)), .v (D2p p)] := by
  have w := while_chain hN hp x st ((stD st).length + 1) hq (by rw [stD_len]; omega)
  have hz : (stD (popW p st)).length < sizeLine := by
    have := pop_len p st
    rw [stD_len, sizeLine_eq]
    omega
  have ap := stD_push p (popW p st)
  unfold l2_chain
  show (match whileN _ l1_chain ((stD st).length + 1) [x, .l (stD st), .v (D2p p)] with
    | .nx ρ' => sApp 1 (eVar 2) ρ'
    | o => o) = _
  rw [w]
  simp only [sApp, eVar, List.getElem?_cons_zero, List.getElem?_cons_succ, ofR_ok, hz, if_true, ap, List.set_cons_zero, List.set_cons_succ]
  rfl
theorem chain_loop {N : Nat} (hN : N ≤ 400000) (x : Sl) : ∀ (ps st : List Pt) (y : Sl), (∀ q ∈ ps, BdP N q) → (∀ q ∈ st, BdP N q) → st.length + ps.length < 10000 → ∃ y', loop (gNm 2) l2_chain (ps.map D2p) [x, .l (stD st), y] = .nx [x, .l (stD (ps.foldl pushP st)), y']
  | [], st, y, _, _, _ => ⟨y, rfl⟩
  | p :: ps, st, y, h1, h2, hl => by
    have hp := h1 p List.mem_cons_self
    have h3 : ∀ q ∈ pushP st p, BdP N q := fun q hq => by
      rcases List.mem_cons.mp hq with e | e
      · rw [e]; exact hp
      · exact h2 q (pop_sub e)
    have l3 : (pushP st p).length ≤ st.length + 1 := by
      have := pop_len p st
      show (p :: popW p st).length ≤ _
      rw [List.length_cons]
      omega
    obtain ⟨y', e⟩ := chain_loop hN x ps (pushP st p) (.v (D2p p)) (fun q hq => h1 q (List.mem_cons_of_mem _ hq)) h3 (by rw [List.length_cons] at hl; omega)
    refine ⟨y', ?_⟩
    rw [List.map_cons, loop_cons rfl (chain_turn hN hp x h2 (by rw [List.length_cons] at hl; omega))]
    exact e
theorem chain_eq {N : Nat} (hN : N ≤ 400000) (ps : List Pt) (h : ∀ q ∈ ps, BdP N q) (hl : ps.length < 10000) : F_chain [.lst (ps.map D2p)] = .ok (.lst ((chainP ps).reverse.map D2p)) := by
  obtain ⟨y', e⟩ := chain_loop hN (.v (.lst (ps.map D2p))) ps [] .un h (fun q hq => absurd hq (by simp)) (by simpa using hl)
  unfold F_chain b_chain
  have e' : loop (gNm 2) l2_chain (ps.map D2p) [.v (.lst (ps.map D2p)), .l [], .un] = .nx [.v (.lst (ps.map D2p)), .l (stD (chainP ps)), y'] := e
  have z0 : ((0 : Nat) ≤ sizeLine) = True := eq_true (Nat.zero_le _)
  simp only [runF, sSeq, sOwn, aLst, aNil, bind_ok, ofR_ok, List.length_nil, z0, if_true, sFor, eVar, asL, ofO_some, sFrz, frz, sRet, List.map_cons, List.map_nil, List.cons_append, List.nil_append, List.length_cons, Nat.reduceAdd, Nat.reduceSub, List.replicate_succ, List.replicate_zero,
    List.getElem?_cons_zero, List.getElem?_cons_succ, List.set_cons_zero, List.set_cons_succ, e']
  rfl
theorem insP_len (p : Pt) : ∀ l : List Pt, (insP p l).length ≤ l.length + 1
  | [] => Nat.le_refl _
  | q :: r => by
    unfold insP
    split
    · simp
    · split
      · simp
      · have := insP_len p r
        rw [List.length_cons, List.length_cons]
        omega
theorem srtP_len : ∀ ps : List Pt, (srtP ps).length ≤ ps.length
  | [] => Nat.le_refl _
  | p :: ps => by
    have h1 := insP_len p (srtP ps)
    have h2 := srtP_len ps
    show (insP p (srtP ps)).length ≤ _
    rw [List.length_cons]
    omega
theorem chain_len : ∀ (ps st : List Pt), (ps.foldl pushP st).length ≤ st.length + ps.length
  | [], st => Nat.le_refl _
  | p :: ps, st => by
    have h1 := chain_len ps (pushP st p)
    have h2 := pop_len p st
    have h3 : (pushP st p).length = (popW p st).length + 1 := rfl
    rw [List.foldl_cons, List.length_cons]
    omega
theorem hull_len (ps : List Pt) : (hullP ps).length ≤ 2 * ps.length := by
  have h1 := chain_len ps []
  have h2 := chain_len ps.reverse []
  unfold hullP chainP
  rw [List.length_append, List.length_reverse, List.length_reverse, List.length_tail, List.length_tail]
  rw [List.length_nil] at h1 h2
  rw [List.length_reverse] at h2
  omega
theorem cut_m1 {α : Type} (xs : List α) : cutL xs none (some (-1)) = xs.dropLast := by
  have e : HT.sIx xs.length xs.length (some (-1)) = xs.length - 1 := by
    show (if (-1 : Int) < 0 then ((-1 : Int) + (xs.length : Int)).toNat else min (-1 : Int).toNat xs.length) = _
    rw [if_pos (by decide)]
    omega
  unfold cutL
  rw [e, HT.sIx_none, List.drop_zero, Nat.sub_zero, List.dropLast_eq_take]
theorem cut_chain (st : List Pt) : cutL (st.reverse.map D2p) none (some (-1)) = st.tail.reverse.map D2p := by
  rw [cut_m1]
  cases st with
  | nil => rfl
  | cons a st => simp
theorem lcc {g : D → En → Option En} {m : EM} {ρ ρ1 : En} {d x : D} {r xs : List D} (h1 : g d ρ = some ρ1) (h2 : m ρ1 = .ok x) (h3 : lcGo g mYes m r ρ = .ok xs) : lcGo g mYes m (d :: r) ρ = .ok (x :: xs) := by
  unfold lcGo
  rw [h1]
  show (noEr (R.ok true)).bind (fun b => if b = true then (noEr (m ρ1)).bind fun x => (lcGo g mYes m r ρ).bind fun xs => .ok (x :: xs) else lcGo g mYes m r ρ) = _
  rw [h2, h3]
  rfl
def NC (ps : List Pt) : Prop := ∃ a ∈ ps, ∃ b ∈ ps, ∃ c ∈ ps, bnd a b c ≠ 0
theorem NC.not {ps : List Pt} (h : NC ps) : ¬ Col ps := fun k => by
  obtain ⟨a, ha, b, hb, c, hc, e⟩ := h
  exact e (k a ha b hb c hc)
theorem NC.map {ps : List Pt} {f : Pt → Pt} {k : Int} (h : NC ps) (hk : k ≠ 0) (hf : ∀ a b c, bnd (f a) (f b) (f c) = k * bnd a b c) : NC (ps.map f) := by
  obtain ⟨a, ha, b, hb, c, hc, e⟩ := h
  exact ⟨_, List.mem_map_of_mem ha, _, List.mem_map_of_mem hb, _, List.mem_map_of_mem hc, by rw [hf]; exact Int.mul_ne_zero hk e⟩
end Law
namespace Law
open PySem PySem.Spec PyProof.Rows L2 GD
local macro_rules | `(tactic| walk_at "gd") => `(tactic| simp (config := {failIfUnchanged := false}) only [runF, sSeq, sIf, sAsg, sRet, sRetN, sExpr, sNil, sRaise, sPar, sTgt, sFor, sForR, sWhile, eVar, eC, e1, e2, mB, aNil, aCons, eF, eB, eTup, aLst, eL, mNot, mAnd, mOr, eNot, eAnd, eOr, gNm, gTp, gsNil, gsCons, asL, asT,
  bind_ok, bind_er, bind_st, ofO_some, asB_bl, ofR_ok, ofR_er, dAdd_int, dSub_int, dNeg_int, dLt_int, dLe_int, dGt_int, dGe_int, dEq_int, dNe_int, dEq_bl, dMod_int, dDiv_lit, dMul_int, Int.reduceLT, Int.reduceEq, Int.cast_ofNat_Int, eq_self, line_le, Nat.reduceLeDiff,  dIs_non, dIsNot_non, dAt_t0, dAt_t1, dAt_t2, dAt_l0, dAt_l1, dAt_l2, dAt_l3, dAt_l4, dAt_l5, dAt_l6, dAt_l7, dAbs, dMax2, dMin2, dLen,
  List.getElem?_cons_zero, List.getElem?_cons_succ, List.set_cons_zero, List.set_cons_succ, List.map_cons, List.map_nil, List.length_cons, List.length_nil, List.cons_append, List.nil_append, List.replicate_succ, List.replicate_zero, Nat.reduceSub, Nat.reduceAdd,
  decide_eq_true_eq, Bool.not_eq_true', if_true, if_false, ite_true, ite_false, Option.bind_some, Option.map_some, Bool.not_true, Bool.not_false, reduceIte, Bool.false_eq_true, Bool.true_eq_false, decide_true, decide_false])
local macro_rules | `(tactic| walk_at "gdh") => `(tactic| simp (config := {failIfUnchanged := false}) only [runF, sSeq, sIf, sAsg, sRet, sRetN, sExpr, sNil, sRaise, sPar, sTgt, sFor, sForR, sWhile, eVar, eC, e1, e2, mB, aNil, aCons, eF, eB, eTup, aLst, eL, mNot, mAnd, mOr, eNot, eAnd, eOr, gNm, gTp, gsNil, gsCons, asL, asT,
  bind_ok, bind_er, bind_st, ofO_some, asB_bl, ofR_ok, ofR_er, dAdd_int, dSub_int, dNeg_int, dLt_int, dLe_int, dGt_int, dGe_int, dEq_int, dNe_int, dEq_bl, dMod_int, dDiv_lit, dMul_int, Int.reduceLT, Int.reduceEq, Int.cast_ofNat_Int, eq_self, line_le, Nat.reduceLeDiff,  dIs_non, dIsNot_non, dAt_t0, dAt_t1, dAt_t2, dAt_l0, dAt_l1, dAt_l2, dAt_l3, dAt_l4, dAt_l5, dAt_l6, dAt_l7, dAbs, dMax2, dMin2, dLen,
  List.getElem?_cons_zero, List.getElem?_cons_succ, List.set_cons_zero, List.set_cons_succ, List.map_cons, List.map_nil, List.length_cons, List.length_nil, List.cons_append, List.nil_append, List.replicate_succ, List.replicate_zero, Nat.reduceSub, Nat.reduceAdd,
  decide_eq_true_eq, Bool.not_eq_true', if_true, if_false, ite_true, ite_false, Option.bind_some, Option.map_some, Bool.not_true, Bool.not_false, reduceIte, Bool.false_eq_true, Bool.true_eq_false, decide_true, decide_false, *])
theorem gcd_split (a b : Int) (h : 0 < Int.gcd a b) : ∃ p q : Int, a = Int.gcd a b * p ∧ b = Int.gcd a b * q ∧ Int.gcd p q = 1 := by
  obtain ⟨p, hp⟩ := Int.gcd_dvd_left a b
  obtain ⟨q, hq⟩ := Int.gcd_dvd_right a b
  refine ⟨p, q, hp, hq, ?_⟩
  have e : Int.gcd (Int.gcd a b * p) (Int.gcd a b * q) = Int.gcd a b * Int.gcd p q := by
    rw [Int.gcd_mul_left]
    simp
  rw [← hp, ← hq] at e
  have h2 : Int.gcd a b * 1 = Int.gcd a b * Int.gcd p q := by rw [Nat.mul_one]; exact e
  exact (Nat.eq_of_mul_eq_mul_left h h2).symm
def fT (t b : Int) : Int := (if b < 0 then -t else t) / (Int.gcd t b : Int)
def fB (t b : Int) : Int := (b.natAbs : Int) / (Int.gcd t b : Int)
theorem gcd_posR {t b : Int} (h : b ≠ 0) : 0 < Int.gcd t b := by
  have : Int.gcd t b ≠ 0 := fun z => h (Int.gcd_eq_zero_iff.mp z).2
  omega
theorem fr_of {t b p q : Int} (h : b ≠ 0) (hp : t = Int.gcd t b * p) (hq : b = Int.gcd t b * q) : fT t b = (if b < 0 then -p else p) ∧ fB t b = q.natAbs := by
  have hg := gcd_posR (t := t) h
  have hg' : ((Int.gcd t b : Nat) : Int) ≠ 0 := by omega
  constructor
  · unfold fT
    split
    · conv => lhs; lhs; rw [hp]
      rw [← Int.mul_neg, Int.mul_ediv_cancel_left _ hg']
    · conv => lhs; lhs; rw [hp]
      rw [Int.mul_ediv_cancel_left _ hg']
  · unfold fB
    have e : (b.natAbs : Int) = Int.gcd t b * (q.natAbs : Int) := by
      conv => lhs; rw [hq]
      rw [Int.natAbs_mul]
      simp
    rw [e, Int.mul_ediv_cancel_left _ hg']
theorem fB_pos {t b : Int} (h : b ≠ 0) : 0 < fB t b := by
  obtain ⟨p, q, hp, hq, _⟩ := gcd_split t b (gcd_posR h)
  rw [(fr_of h hp hq).2]
  have : q ≠ 0 := fun z => h (by rw [hq, z, Int.mul_zero])
  omega
theorem f_gcd {t b : Int} (h : b ≠ 0) : Int.gcd (fT t b) (fB t b) = 1 := by
  obtain ⟨p, q, hp, hq, hg⟩ := gcd_split t b (gcd_posR h)
  rw [(fr_of h hp hq).1, (fr_of h hp hq).2]
  have e : Int.gcd p (q.natAbs : Int) = Int.gcd p q := by simp [Int.gcd]
  split
  · rw [Int.neg_gcd, e]
    exact hg
  · rw [e]
    exact hg
theorem f_eq {t b : Int} (h : b ≠ 0) : fT t b * b = t * fB t b := by
  obtain ⟨p, q, hp, hq, hg⟩ := gcd_split t b (gcd_posR h)
  rw [(fr_of h hp hq).1, (fr_of h hp hq).2]
  have hgp := gcd_posR (t := t) h
  split
  · rename_i hb
    have hq0 : q < 0 := by
      apply Decidable.byContradiction
      intro z
      have : 0 ≤ (Int.gcd t b : Int) * q := Int.mul_nonneg (by omega) (by omega)
      omega
    have e : (q.natAbs : Int) = -q := by omega
    rw [e]
    conv => lhs; rw [hq]
    conv => rhs; rw [hp]
    grind
  · rename_i hb
    have hq0 : 0 ≤ q := by
      apply Decidable.byContradiction
      intro z
      have : (Int.gcd t b : Int) * q < 0 := Int.mul_neg_of_pos_of_neg (by omega) (by omega)
      omega
    have e : (q.natAbs : Int) = q := by omega
    rw [e]
    conv => lhs; rw [hq]
    conv => rhs; rw [hp]
    grind
theorem fT_le (t b : Int) : (fT t b).natAbs ≤ t.natAbs := by
  unfold fT
  have := Int.natAbs_ediv_le_natAbs (if b < 0 then -t else t) (Int.gcd t b)
  split at this <;> split <;> omega
theorem fB_le (t b : Int) : (fB t b).natAbs ≤ b.natAbs := by
  unfold fB
  have := Int.natAbs_ediv_le_natAbs (b.natAbs : Int) (Int.gcd t b)
  omega
theorem bd_fT {n : Nat} {t b : Int} (h : Bd n t) : Bd n (fT t b) := h.of_le (fT_le t b)
theorem bd_fB {n : Nat} {t b : Int} (h : Bd n b) : Bd n (fB t b) := h.of_le (fB_le t b)
def fr (t b : Int) : D := .tup [.int (fT t b), .int (fB t b)]
def D2 (x y : Int) : D := .tup [.int x, .int y]
def D3 (x y z : Int) : D := .tup [.int x, .int y, .int z]
def g3 (x y w : Int) : Nat := Int.gcd (Int.gcd x y : Int) w
def sg (w t : Int) : Int := if w < 0 then -t else t
def sX (x y w : Int) : Int := sg w x / (g3 x y w : Int)
def sY (x y w : Int) : Int := sg w y / (g3 x y w : Int)
def sW (x y w : Int) : Int := (w.natAbs : Int) / (g3 x y w : Int)
theorem g3_pos {x y w : Int} (h : w ≠ 0) : 0 < g3 x y w := gcd_posR h
theorem g3_split (x y w : Int) (h : w ≠ 0) : ∃ p q r : Int, x = g3 x y w * p ∧ y = g3 x y w * q ∧ w = g3 x y w * r ∧ g3 p q r = 1 := by
  have hd : ((g3 x y w : Nat) : Int) ∣ (Int.gcd x y : Int) := Int.gcd_dvd_left _ _
  obtain ⟨p, hp⟩ : ((g3 x y w : Nat) : Int) ∣ x := Int.dvd_trans hd (Int.gcd_dvd_left x y)
  obtain ⟨q, hq⟩ : ((g3 x y w : Nat) : Int) ∣ y := Int.dvd_trans hd (Int.gcd_dvd_right x y)
  obtain ⟨r, hr⟩ : ((g3 x y w : Nat) : Int) ∣ w := Int.gcd_dvd_right _ _
  refine ⟨p, q, r, hp, hq, hr, ?_⟩
  have hg := g3_pos (x := x) (y := y) h
  generalize hG : g3 x y w = G at *
  have e1 : Int.gcd x y = G * Int.gcd p q := by rw [hp, hq, Int.gcd_mul_left]; simp
  have e2 : g3 x y w = G * g3 p q r := by
    unfold g3
    rw [e1, hr]
    show Int.gcd ((G * Int.gcd p q : Nat) : Int) (G * r) = _
    rw [Int.natCast_mul, Int.gcd_mul_left]
    simp
  rw [hG] at e2
  have h2 : G * 1 = G * g3 p q r := by omega
  exact (Nat.eq_of_mul_eq_mul_left hg h2).symm
theorem sg_mul (w G p : Int) : sg w (G * p) = G * sg w p := by
  unfold sg
  split
  · rw [Int.mul_neg]
  · rfl
theorem sp_of {x y w p q r : Int} (h : w ≠ 0) (hp : x = g3 x y w * p) (hq : y = g3 x y w * q) (hr : w = g3 x y w * r) : sX x y w = sg w p ∧ sY x y w = sg w q ∧ sW x y w = r.natAbs := by
  have hg := g3_pos (x := x) (y := y) h
  have hg' : ((g3 x y w : Nat) : Int) ≠ 0 := by omega
  refine ⟨?_, ?_, ?_⟩
  · unfold sX
    conv => lhs; lhs; rw [hp, sg_mul]
    rw [Int.mul_ediv_cancel_left _ hg']
  · unfold sY
    conv => lhs; lhs; rw [hq, sg_mul]
    rw [Int.mul_ediv_cancel_left _ hg']
  · unfold sW
    have e : (w.natAbs : Int) = g3 x y w * (r.natAbs : Int) := by
      conv => lhs; rw [hr]
      rw [Int.natAbs_mul]
      simp
    rw [e, Int.mul_ediv_cancel_left _ hg']
theorem sW_pos {x y w : Int} (h : w ≠ 0) : 0 < sW x y w := by
  obtain ⟨p, q, r, hp, hq, hr, _⟩ := g3_split x y w h
  rw [(sp_of h hp hq hr).2.2]
  have : r ≠ 0 := fun z => h (by rw [hr, z, Int.mul_zero])
  omega
theorem gcd_sg (w p q : Int) : Int.gcd (sg w p) (sg w q) = Int.gcd p q := by
  unfold sg
  split
  · rw [Int.neg_gcd, Int.gcd_neg]
  · rfl
theorem s_gcd {x y w : Int} (h : w ≠ 0) : g3 (sX x y w) (sY x y w) (sW x y w) = 1 := by
  obtain ⟨p, q, r, hp, hq, hr, hg⟩ := g3_split x y w h
  obtain ⟨e1, e2, e3⟩ := sp_of h hp hq hr
  rw [e1, e2, e3]
  unfold g3 at hg ⊢
  rw [gcd_sg]
  have e : ∀ a, Int.gcd a (r.natAbs : Int) = Int.gcd a r := fun a => by simp [Int.gcd]
  rw [e]
  exact hg
theorem s_eq {x y w : Int} (h : w ≠ 0) : sX x y w * w = x * sW x y w ∧ sY x y w * w = y * sW x y w := by
  obtain ⟨p, q, r, hp, hq, hr, hg⟩ := g3_split x y w h
  obtain ⟨e1, e2, e3⟩ := sp_of h hp hq hr
  have hgp := g3_pos (x := x) (y := y) h
  have e4 : (r.natAbs : Int) = sg w r := by
    unfold sg
    split
    · rename_i hb
      have hq0 : r < 0 := by
        apply Decidable.byContradiction
        intro z
        have : 0 ≤ (g3 x y w : Int) * r := Int.mul_nonneg (by omega) (by omega)
        omega
      omega
    · rename_i hb
      have hq0 : 0 ≤ r := by
        apply Decidable.byContradiction
        intro z
        have : (g3 x y w : Int) * r < 0 := Int.mul_neg_of_pos_of_neg (by omega) (by omega)
        omega
      omega
  rw [e1, e2, e3, e4]
  generalize (g3 x y w : Int) = G at hp hq hr
  constructor
  · unfold sg
    split
    · grind
    · grind
  · unfold sg
    split
    · grind
    · grind
theorem sg_abs (w t : Int) : (sg w t).natAbs = t.natAbs := by
  unfold sg
  split <;> omega
theorem bd_sX {n : Nat} {x y w : Int} (h : Bd n x) : Bd n (sX x y w) := h.of_le (by have := Int.natAbs_ediv_le_natAbs (sg w x) (g3 x y w); rw [sg_abs] at this; exact this)
theorem bd_sY {n : Nat} {x y w : Int} (h : Bd n y) : Bd n (sY x y w) := h.of_le (by have := Int.natAbs_ediv_le_natAbs (sg w y) (g3 x y w); rw [sg_abs] at this; exact this)
theorem bd_sW {n : Nat} {x y w : Int} (h : Bd n w) : Bd n (sW x y w) := h.of_le (by have := Int.natAbs_ediv_le_natAbs (w.natAbs : Int) (g3 x y w); exact this)
def sp (x y w : Int) : D := D3 (sX x y w) (sY x y w) (sW x y w)
end Law
namespace Law
open PySem PySem.Spec PyProof.Rows L2 GD Hl
local macro_rules | `(tactic| walk_at "gd") => `(tactic| simp (config := {failIfUnchanged := false}) only [runF, sSeq, sIf, sAsg, sRet, sRetN, sExpr, sNil, sRaise, sPar, sTgt, sFor, sForR, sWhile, eVar, eC, e1, e2, mB, aNil, aCons, eF, eB, eTup, aLst, eL, mNot, mAnd, mOr, eNot, eAnd, eOr, gNm, gTp, gsNil, gsCons, asL, asT,
  bind_ok, bind_er, bind_st, ofO_some, asB_bl, ofR_ok, ofR_er, dAdd_int, dSub_int, dNeg_int, dLt_int, dLe_int, dGt_int, dGe_int, dEq_int, dNe_int, dEq_bl, dMod_int, dDiv_lit, dMul_int, Int.reduceLT, Int.reduceEq, Int.cast_ofNat_Int, eq_self, line_le, Nat.reduceLeDiff,  dIs_non, dIsNot_non, dAt_t0, dAt_t1, dAt_t2, dAt_l0, dAt_l1, dAt_l2, dAt_l3, dAt_l4, dAt_l5, dAt_l6, dAt_l7, dAbs, dMax2, dMin2, dLen,
  List.getElem?_cons_zero, List.getElem?_cons_succ, List.set_cons_zero, List.set_cons_succ, List.map_cons, List.map_nil, List.length_cons, List.length_nil, List.cons_append, List.nil_append, List.replicate_succ, List.replicate_zero, Nat.reduceSub, Nat.reduceAdd,
  decide_eq_true_eq, Bool.not_eq_true', if_true, if_false, ite_true, ite_false, Option.bind_some, Option.map_some, Bool.not_true, Bool.not_false, reduceIte, Bool.false_eq_true, Bool.true_eq_false, decide_true, decide_false])
local macro_rules | `(tactic| walk_at "gdh") => `(tactic| simp (config := {failIfUnchanged := false}) only [runF, sSeq, sIf, sAsg, sRet, sRetN, sExpr, sNil, sRaise, sPar, sTgt, sFor, sForR, sWhile, eVar, eC, e1, e2, mB, aNil, aCons, eF, eB, eTup, aLst, eL, mNot, mAnd, mOr, eNot, eAnd, eOr, gNm, gTp, gsNil, gsCons, asL, asT,
  bind_ok, bind_er, bind_st, ofO_some, asB_bl, ofR_ok, ofR_er, dAdd_int, dSub_int, dNeg_int, dLt_int, dLe_int, dGt_int, dGe_int, dEq_int, dNe_int, dEq_bl, dMod_int, dDiv_lit, dMul_int, Int.reduceLT, Int.reduceEq, Int.cast_ofNat_Int, eq_self, line_le, Nat.reduceLeDiff,  dIs_non, dIsNot_non, dAt_t0, dAt_t1, dAt_t2, dAt_l0, dAt_l1, dAt_l2, dAt_l3, dAt_l4, dAt_l5, dAt_l6, dAt_l7, dAbs, dMax2, dMin2, dLen,
  List.getElem?_cons_zero, List.getElem?_cons_succ, List.set_cons_zero, List.set_cons_succ, List.map_cons, List.map_nil, List.length_cons, List.length_nil, List.cons_append, List.nil_append, List.replicate_succ, List.replicate_zero, Nat.reduceSub, Nat.reduceAdd,
  decide_eq_true_eq, Bool.not_eq_true', if_true, if_false, ite_true, ite_false, Option.bind_some, Option.map_some, Bool.not_true, Bool.not_false, reduceIte, Bool.false_eq_true, Bool.true_eq_false, decide_true, decide_false, *])
theorem pt_shape (p : Pt) : (toP (D2p p)).canLay0 = true ∧ (toP (D2p p)).depth = 1 := ⟨rfl, rfl⟩
theorem pts_shape : ∀ ps : List Pt, PyData.canLayAll0 (toPs (ps.map D2p)) = true ∧ PyData.depthAll (toPs (ps.map D2p)) ≤ 1
  | [] => ⟨rfl, by decide⟩
  | p :: ps => by
    obtain ⟨h1, h2⟩ := pts_shape ps
    obtain ⟨g1, g2⟩ := pt_shape p
    constructor
    · show ((toP (D2p p)).canLay0 && PyData.canLayAll0 (toPs (ps.map D2p))) = true
      rw [g1, h1]
      rfl
    · show max (toP (D2p p)).depth (PyData.depthAll (toPs (ps.map D2p))) ≤ 1
      rw [g2]
      omega
theorem lst_shape (ps : List Pt) : SeqAt.shaped (toP (.lst (ps.map D2p))) = true := by
  obtain ⟨h1, h2⟩ := pts_shape ps
  unfold SeqAt.shaped
  rw [Bool.and_eq_true]
  constructor
  · show PyData.canLayAll0 (toPs (ps.map D2p)) = true
    exact h1
  · refine decide_eq_true ?_
    show PyData.depthAll (toPs (ps.map D2p)) + 1 ≤ 64
    omega
theorem eqv_pt (p q : Pt) : PyData.eqv (toP (D2p p)) (toP (D2p q)) = decide (p = q) := by
  show ((p.1 == q.1) && ((p.2 == q.2) && true)) = _
  rw [Bool.and_true, Bool.beq_eq_decide_eq, Bool.beq_eq_decide_eq, ← Bool.decide_and]
  exact decide_eq_decide.mpr ⟨fun h => Prod.ext h.1 h.2, fun h => by rw [h]; exact ⟨rfl, rfl⟩⟩
theorem eqv_pts : ∀ ps qs : List Pt, PyData.eqvAll (toPs (ps.map D2p)) (toPs (qs.map D2p)) = decide (ps = qs)
  | [], [] => rfl
  | [], _ :: _ => rfl
  | _ :: _, [] => rfl
  | p :: ps, q :: qs => by
    show (PyData.eqv (toP (D2p p)) (toP (D2p q)) && PyData.eqvAll (toPs (ps.map D2p)) (toPs (qs.map D2p))) = _
    rw [eqv_pt, eqv_pts ps qs, ← Bool.decide_and]
    exact decide_eq_decide.mpr ⟨fun h => by rw [h.1, h.2], fun h => List.cons.inj h⟩
theorem dNe_pts (ps qs : List Pt) : dNe (.lst (ps.map D2p)) (.lst (qs.map D2p)) = some (.bl (!decide (ps = qs))) := by
  unfold dNe
  rw [if_pos ⟨lst_shape ps, lst_shape qs⟩]
  show some (D.bl (!PyData.eqvAll (toPs (ps.map D2p)) (toPs (qs.map D2p)))) = _
  rw [eqv_pts]
theorem dEq_pts (ps qs : List Pt) : dEq (.lst (ps.map D2p)) (.lst (qs.map D2p)) = some (.bl (decide (ps = qs))) := by
  unfold dEq
  rw [if_pos ⟨lst_shape ps, lst_shape qs⟩]
  show some (D.bl (PyData.eqvAll (toPs (ps.map D2p)) (toPs (qs.map D2p)))) = _
  rw [eqv_pts]
theorem dNe_pt (p q : Pt) : dNe (D2p p) (D2p q) = some (.bl (!decide (p = q))) := by
  unfold dNe
  rw [if_pos ⟨rfl, rfl⟩, eqv_pt]
theorem dEq_pt (p q : Pt) : dEq (D2p p) (D2p q) = some (.bl (decide (p = q))) := by
  unfold dEq
  rw [if_pos ⟨rfl, rfl⟩, eqv_pt]
def dotp (p n : Pt) : Int := p.1 * n.1 + p.2 * n.2
theorem min_fold : ∀ (xs : List Int) (a : Int), (xs.foldl min a = a ∨ xs.foldl min a ∈ xs) ∧ xs.foldl min a ≤ a ∧ ∀ x ∈ xs, xs.foldl min a ≤ x
  | [], a => ⟨.inl rfl, Int.le_refl _, fun x h => absurd h (by simp)⟩
  | y :: xs, a => by
    obtain ⟨h1, h2, h3⟩ := min_fold xs (min a y)
    rw [List.foldl_cons]
    refine ⟨?_, by omega, fun x hx => ?_⟩
    · rcases h1 with h | h
      · by_cases z : a ≤ y
        · left; omega
        · right
          have : xs.foldl min (min a y) = y := by omega
          rw [this]
          exact List.mem_cons_self
      · exact .inr (List.mem_cons_of_mem _ h)
    · rcases List.mem_cons.mp hx with e | e
      · rw [e]; omega
      · exact h3 x e
theorem max_fold : ∀ (xs : List Int) (a : Int), (xs.foldl max a = a ∨ xs.foldl max a ∈ xs) ∧ a ≤ xs.foldl max a ∧ ∀ x ∈ xs, x ≤ xs.foldl max a
  | [], a => ⟨.inl rfl, Int.le_refl _, fun x h => absurd h (by simp)⟩
  | y :: xs, a => by
    obtain ⟨h1, h2, h3⟩ := max_fold xs (max a y)
    rw [List.foldl_cons]
    refine ⟨?_, by omega, fun x hx => ?_⟩
    · rcases h1 with h | h
      · by_cases z : y ≤ a
        · left; omega
        · right
          have : xs.foldl max (max a y) = y := by omega
          rw [this]
          exact List.mem_cons_self
      · exact .inr (List.mem_cons_of_mem _ h)
    · rcases List.mem_cons.mp hx with e | e
      · rw [e]; omega
      · exact h3 x e
theorem min_ex {xs : List Int} (h : xs ≠ []) : ∃ m, xs.min? = some m ∧ m ∈ xs ∧ ∀ x ∈ xs, m ≤ x := by
  cases xs with
  | nil => exact absurd rfl h
  | cons a r =>
    obtain ⟨h1, h2, h3⟩ := min_fold r a
    refine ⟨_, rfl, ?_, fun x hx => ?_⟩
    · rcases h1 with e | e
      · rw [e]; exact List.mem_cons_self
      · exact List.mem_cons_of_mem _ e
    · rcases List.mem_cons.mp hx with e | e
      · rw [e]; exact h2
      · exact h3 x e
theorem max_ex {xs : List Int} (h : xs ≠ []) : ∃ m, xs.max? = some m ∧ m ∈ xs ∧ ∀ x ∈ xs, x ≤ m := by
  cases xs with
  | nil => exact absurd rfl h
  | cons a r =>
    obtain ⟨h1, h2, h3⟩ := max_fold r a
    refine ⟨_, rfl, ?_, fun x hx => ?_⟩
    · rcases h1 with e | e
      · rw [e]; exact List.mem_cons_self
      · exact List.mem_cons_of_mem _ e
    · rcases List.mem_cons.mp hx with e | e
      · rw [e]; exact h2
      · exact h3 x e
end Law
namespace Hl
open GD
def dtp (a b c : Pt) : Int := (b.1 - a.1) * (c.1 - a.1) + (b.2 - a.2) * (c.2 - a.2)
def sq (a b : Pt) : Int := (b.1 - a.1) * (b.1 - a.1) + (b.2 - a.2) * (b.2 - a.2)
theorem sq_pos {a b : Pt} (h : a ≠ b) : 0 < sq a b := by
  unfold sq
  have s : ∀ x : Int, 0 ≤ x * x := fun x => by
    rcases Int.le_total 0 x with h | h
    · exact Int.mul_nonneg h h
    · have := Int.mul_nonneg (show 0 ≤ -x by omega) (show 0 ≤ -x by omega)
      rwa [Int.neg_mul_neg] at this
  have s0 : ∀ x : Int, x ≠ 0 → 0 < x * x := fun x hx => by
    have := s x
    have : x * x ≠ 0 := Int.mul_ne_zero hx hx
    omega
  have h1 := s (b.1 - a.1)
  have h2 := s (b.2 - a.2)
  by_cases z : b.1 - a.1 = 0
  · have : b.2 - a.2 ≠ 0 := fun z2 => h (Prod.ext (by omega) (by omega))
    have := s0 _ this
    omega
  · have := s0 _ z
    omega
theorem share {a b c x : Pt} (h : bnd a b c = 0) : sq a b * bnd x a c = dtp a b c * bnd x a b := by
  have id : sq a b * bnd x a c - dtp a b c * bnd x a b = bnd a b c * ((a.1 - x.1) * (b.1 - a.1) + (a.2 - x.2) * (b.2 - a.2)) := by unfold sq dtp bnd; grind
  rw [h, Int.zero_mul] at id
  omega
theorem share2 {a b c x : Pt} (h : bnd a b c = 0) : sq a b * bnd b x c = (sq a b - dtp a b c) * bnd a b x := by
  have id : sq a b * bnd b x c - (sq a b - dtp a b c) * bnd a b x = bnd a b c * ((x.1 - b.1) * (b.1 - a.1) + (x.2 - b.2) * (b.2 - a.2)) := by unfold sq dtp bnd; grind
  rw [h, Int.zero_mul] at id
  omega
theorem on1 {a b c : Pt} (h : bnd a b c = 0) : sq a b * (c.1 - a.1) = dtp a b c * (b.1 - a.1) ∧ sq a b * (c.2 - a.2) = dtp a b c * (b.2 - a.2) := by
  have i1 : sq a b * (c.1 - a.1) - dtp a b c * (b.1 - a.1) = - bnd a b c * (b.2 - a.2) := by unfold sq dtp bnd; grind
  have i2 : sq a b * (c.2 - a.2) - dtp a b c * (b.2 - a.2) = bnd a b c * (b.1 - a.1) := by unfold sq dtp bnd; grind
  rw [h] at i1 i2
  constructor
  · have : -(0 : Int) * (b.2 - a.2) = 0 := by simp
    omega
  · have : (0 : Int) * (b.1 - a.1) = 0 := by simp
    omega
theorem mid0 {S t A B : Int} (h1 : 0 < t) (h2 : t < S) {X : Int} (hA : 0 ≤ A) (hB : 0 ≤ B) (e1 : S * A = -t * X) (e2 : S * B = (S - t) * X) : X = 0 := by
  have g1 := Int.mul_nonneg (show 0 ≤ S by omega) hA
  have g2 := Int.mul_nonneg (show 0 ≤ S by omega) hB
  rcases Int.lt_trichotomy X 0 with h | h | h
  · have := Int.mul_neg_of_pos_of_neg (show 0 < S - t by omega) h
    omega
  · exact h
  · have := Int.mul_pos h1 h
    rw [Int.neg_mul] at e1
    omega
theorem nn_of {S t x y : Int} (hS : 0 < S) (hx : 0 ≤ x) (hy : 0 < y) (e : S * x = t * y) : 0 ≤ t := by
  have g := Int.mul_nonneg (show 0 ≤ S by omega) hx
  apply Decidable.byContradiction
  intro n
  have := Int.mul_neg_of_neg_of_pos (show t < 0 by omega) hy
  omega
theorem strict_side {a' a b b' c' c c'' : Pt} (hab : a ≠ b) (e0 : 0 ≤ bnd a b c) (ta : 0 < bnd a' a b) (ea : 0 ≤ bnd a' a c) (tb : 0 < bnd a b b') (eb : 0 ≤ bnd b b' c) (ca : c ≠ a) (cb : c ≠ b)
    (tc : 0 < bnd c' c c'') (e1 : 0 ≤ bnd c' c a) (e2 : 0 ≤ bnd c' c b) (e3 : 0 ≤ bnd c c'' a) (e4 : 0 ≤ bnd c c'' b) : 0 < bnd a b c := by
  apply Decidable.byContradiction
  intro n
  have h : bnd a b c = 0 := by omega
  have hS := sq_pos hab
  have t0 := nn_of hS ea ta (share (x := a') h)
  have t1 := nn_of hS eb tb (share2 (x := b') h)
  obtain ⟨o1, o2⟩ := on1 h
  have t2 : dtp a b c ≠ 0 := fun z => by
    rw [z, Int.zero_mul] at o1 o2
    rcases Int.mul_eq_zero.mp o1 with g | g
    · omega
    · rcases Int.mul_eq_zero.mp o2 with g' | g'
      · omega
      · exact ca (Prod.ext (by omega) (by omega))
  have t3 : dtp a b c ≠ sq a b := fun z => by
    rw [z] at o1 o2
    have g1 := Int.eq_of_mul_eq_mul_left (show sq a b ≠ 0 by omega) o1
    have g2 := Int.eq_of_mul_eq_mul_left (show sq a b ≠ 0 by omega) o2
    exact cb (Prod.ext (by omega) (by omega))
  generalize hs : sq a b = S at *
  generalize ht : dtp a b c = t at *
  have x1 : S * bnd c' c a = -t * ((c.1 - c'.1) * (b.2 - a.2) - (c.2 - c'.2) * (b.1 - a.1)) := by
    have : S * bnd c' c a = (c.2 - c'.2) * (S * (c.1 - a.1)) - (c.1 - c'.1) * (S * (c.2 - a.2)) := by unfold bnd; grind
    rw [this, o1, o2]
    grind
  have x2 : S * bnd c' c b = (S - t) * ((c.1 - c'.1) * (b.2 - a.2) - (c.2 - c'.2) * (b.1 - a.1)) := by
    have : S * bnd c' c b = S * ((c.1 - c'.1) * (b.2 - a.2) - (c.2 - c'.2) * (b.1 - a.1)) + ((c.2 - c'.2) * (S * (c.1 - a.1)) - (c.1 - c'.1) * (S * (c.2 - a.2))) := by unfold bnd; grind
    rw [this, o1, o2]
    grind
  have x3 : S * bnd c c'' a = -t * ((c''.1 - c.1) * (b.2 - a.2) - (c''.2 - c.2) * (b.1 - a.1)) := by
    have : S * bnd c c'' a = (c''.2 - c.2) * (S * (c.1 - a.1)) - (c''.1 - c.1) * (S * (c.2 - a.2)) := by unfold bnd; grind
    rw [this, o1, o2]
    grind
  have x4 : S * bnd c c'' b = (S - t) * ((c''.1 - c.1) * (b.2 - a.2) - (c''.2 - c.2) * (b.1 - a.1)) := by
    have : S * bnd c c'' b = S * ((c''.1 - c.1) * (b.2 - a.2) - (c''.2 - c.2) * (b.1 - a.1)) + ((c''.2 - c.2) * (S * (c.1 - a.1)) - (c''.1 - c.1) * (S * (c.2 - a.2))) := by unfold bnd; grind
    rw [this, o1, o2]
    grind
  have X := mid0 (by omega) (by omega) e1 e2 x1 x2
  have Y := mid0 (by omega) (by omega) e3 e4 x3 x4
  have i1 : (b.1 - a.1) * bnd c' c c'' = (c''.1 - c.1) * ((c.1 - c'.1) * (b.2 - a.2) - (c.2 - c'.2) * (b.1 - a.1)) - (c.1 - c'.1) * ((c''.1 - c.1) * (b.2 - a.2) - (c''.2 - c.2) * (b.1 - a.1)) := by unfold bnd; grind
  have i2 : (b.2 - a.2) * bnd c' c c'' = (c''.2 - c.2) * ((c.1 - c'.1) * (b.2 - a.2) - (c.2 - c'.2) * (b.1 - a.1)) - (c.2 - c'.2) * ((c''.1 - c.1) * (b.2 - a.2) - (c''.2 - c.2) * (b.1 - a.1)) := by unfold bnd; grind
  rw [X, Y, Int.mul_zero, Int.mul_zero, Int.sub_self] at i1 i2
  rcases Int.mul_eq_zero.mp i1 with g | g
  · rcases Int.mul_eq_zero.mp i2 with g' | g'
    · exact hab (Prod.ext (by omega) (by omega))
    · omega
  · omega
def cy (C : List Pt) (k : Nat) : Pt := C.getD (k % C.length) (0, 0)
theorem lf_idx {q : Pt} : ∀ {st : List Pt}, Lf q st → ∀ (i : Nat) (a b : Pt), st[i]? = some a → st[i + 1]? = some b → 0 ≤ bnd b a q
  | [], _, i, a, b, h, _ => by simp at h
  | [x], _, 0, a, b, _, h => by simp at h
  | [x], _, i + 1, a, b, h, _ => by simp at h
  | x :: y :: r, h, 0, a, b, h1, h2 => by
    simp at h1 h2
    subst h1 h2
    exact h.1
  | x :: y :: r, h, i + 1, a, b, h1, h2 => lf_idx (st := y :: r) h.2 i a b (by simpa using h1) (by simpa using h2)
theorem cv_idx : ∀ {st : List Pt}, Cv st → ∀ (i : Nat) (a b c : Pt), st[i]? = some a → st[i + 1]? = some b → st[i + 2]? = some c → 0 < bnd c b a
  | [], _, i, a, b, c, h, _, _ => by simp at h
  | [x], _, i, a, b, c, _, h, _ => by simp at h
  | [x, y], _, i, a, b, c, _, _, h => by simp at h
  | x :: y :: z :: r, h, 0, a, b, c, h1, h2, h3 => by
    simp at h1 h2 h3
    subst h1 h2 h3
    exact h.1
  | x :: y :: z :: r, h, i + 1, a, b, c, h1, h2, h3 => cv_idx (st := y :: z :: r) h.2 i a b c (by simpa using h1) (by simpa using h2) (by simpa using h3)
theorem cy_at {C : List Pt} {k : Nat} (h : k < C.length) : C[k]? = some (cy C k) := by
  unfold cy
  rw [Nat.mod_eq_of_lt h, List.getD_eq_getElem?_getD, List.getElem?_eq_getElem h]
  rfl
theorem cy_mod (C : List Pt) (k : Nat) : cy C (k % C.length) = cy C k := by
  unfold cy
  rw [Nat.mod_mod]
theorem cy_add (C : List Pt) (k j : Nat) : cy C (k % C.length + j) = cy C (k + j) := by
  unfold cy
  rw [Nat.mod_add_mod]
theorem cy_mem {C : List Pt} (hn : C ≠ []) (k : Nat) : cy C k ∈ C := by
  have hl : 0 < C.length := List.length_pos_iff.mpr hn
  rw [← cy_mod]
  exact List.mem_of_getElem? (cy_at (Nat.mod_lt k hl))
theorem mem_cy {C : List Pt} {c : Pt} (h : c ∈ C) : ∃ k, k < C.length ∧ cy C k = c := by
  obtain ⟨k, hk, e⟩ := List.getElem_of_mem h
  refine ⟨k, hk, ?_⟩
  have := cy_at hk
  rw [List.getElem?_eq_getElem hk, e] at this
  exact (Option.some.inj this).symm
theorem ext_at {C : List Pt} {j k : Nat} (hj : j ≤ C.length) (hk : k < C.length + j) (hn : 0 < C.length) : (C ++ C.take j)[k]? = some (cy C k) := by
  by_cases h : k < C.length
  · rw [List.getElem?_append_left h]
    exact cy_at h
  · have hh : k - C.length < C.length := by omega
    rw [List.getElem?_append_right (by omega), List.getElem?_take_of_lt (by omega), cy_at hh]
    congr 1
    unfold cy
    rw [← Nat.mod_eq_sub_mod (by omega)]
theorem rev_at {T : List Pt} {k i : Nat} (h : k < T.length) (e : i = T.length - 1 - k) : T.reverse[i]? = T[k]? := by
  rw [List.getElem?_reverse (by omega)]
  congr 1
  omega
theorem poly_edge {ps C : List Pt} (P : Poly ps C) {q : Pt} (hq : q ∈ ps) (k : Nat) : 0 ≤ bnd (cy C k) (cy C (k + 1)) q := by
  have hn : 3 ≤ C.length := P.len
  suffices h : ∀ k, k < C.length → 0 ≤ bnd (cy C k) (cy C (k + 1)) q by
    have := h (k % C.length) (Nat.mod_lt _ (by omega))
    rwa [cy_mod, cy_add] at this
  intro k hk
  have hT : (C ++ C.take 1).length = C.length + 1 := by
    rw [List.length_append, List.length_take]
    omega
  have a1 := ext_at (C := C) (j := 1) (k := k) (by omega) (by omega) (by omega)
  have a2 := ext_at (C := C) (j := 1) (k := k + 1) (by omega) (by omega) (by omega)
  refine lf_idx (P.edge q hq) (C.length - 1 - k) _ _ ?_ ?_
  · rw [rev_at (k := k + 1) (by omega) (by omega)]
    exact a2
  · rw [rev_at (k := k) (by omega) (by omega)]
    exact a1
theorem poly_turn {ps C : List Pt} (P : Poly ps C) (k : Nat) : 0 < bnd (cy C k) (cy C (k + 1)) (cy C (k + 2)) := by
  have hn : 3 ≤ C.length := P.len
  suffices h : ∀ k, k < C.length → 0 < bnd (cy C k) (cy C (k + 1)) (cy C (k + 2)) by
    have := h (k % C.length) (Nat.mod_lt _ (by omega))
    rwa [cy_mod, cy_add, cy_add] at this
  intro k hk
  have hT : (C ++ C.take 2).length = C.length + 2 := by
    rw [List.length_append, List.length_take]
    omega
  have a1 := ext_at (C := C) (j := 2) (k := k) (by omega) (by omega) (by omega)
  have a2 := ext_at (C := C) (j := 2) (k := k + 1) (by omega) (by omega) (by omega)
  have a3 := ext_at (C := C) (j := 2) (k := k + 2) (by omega) (by omega) (by omega)
  refine cv_idx P.turn (C.length - 1 - k) _ _ _ ?_ ?_ ?_
  · rw [rev_at (k := k + 2) (by omega) (by omega)]
    exact a3
  · rw [rev_at (k := k + 1) (by omega) (by omega)]
    exact a2
  · rw [rev_at (k := k) (by omega) (by omega)]
    exact a1
theorem poly_strict {ps C : List Pt} (P : Poly ps C) (k : Nat) {c : Pt} (hc : c ∈ C) (h1 : c ≠ cy C k) (h2 : c ≠ cy C (k + 1)) : 0 < bnd (cy C k) (cy C (k + 1)) c := by
  have hn : 3 ≤ C.length := P.len
  have ne : C ≠ [] := fun z => by rw [z] at hn; simp at hn
  have sub : ∀ j, cy C j ∈ ps := fun j => P.sub _ (cy_mem ne j)
  obtain ⟨m, hm, rfl⟩ := mem_cy hc
  -- the corners ahead of k and of m
  have up : ∀ j i, cy C (j + C.length + i) = cy C (j + i) := fun j i => by
    unfold cy
    rw [show j + C.length + i = j + i + C.length by omega, Nat.add_mod_right]
  have tk := poly_turn P (k + (C.length - 1))
  have ek := poly_edge P (sub m) (k + (C.length - 1))
  have tm := poly_turn P (m + (C.length - 1))
  have em := fun q hq => poly_edge P (q := q) hq (m + (C.length - 1))
  have r1 : ∀ j, cy C (j + (C.length - 1) + 1) = cy C j := fun j => by
    rw [show j + (C.length - 1) + 1 = j + C.length + 0 by omega, up]
    rfl
  have r2 : ∀ j, cy C (j + (C.length - 1) + 2) = cy C (j + 1) := fun j => by
    rw [show j + (C.length - 1) + 2 = j + C.length + 1 by omega, up]
  rw [r1, r2] at tk tm
  rw [r1] at ek
  have hab : cy C k ≠ cy C (k + 1) := fun z => by
    have := poly_turn P k
    rw [z, bnd_self3] at this
    omega
  exact strict_side hab (poly_edge P (sub m) k) tk ek (poly_turn P k) (poly_edge P (sub m) (k + 1)) h1 h2 tm (by have := em _ (sub k); rwa [r1] at this) (by have := em _ (sub (k + 1)); rwa [r1] at this) (poly_edge P (sub k) m) (poly_edge P (sub (k + 1)) m)
end Hl
namespace Law
open PySem PySem.Spec PyProof.Rows L2 GD Hl
local macro_rules | `(tactic| walk_at "gd") => `(tactic| simp (config := {failIfUnchanged := false}) only [runF, sSeq, sIf, sAsg, sRet, sRetN, sExpr, sNil, sRaise, sPar, sTgt, sFor, sForR, sWhile, eVar, eC, e1, e2, mB, aNil, aCons, eF, eB, eTup, aLst, eL, mNot, mAnd, mOr, eNot, eAnd, eOr, gNm, gTp, gsNil, gsCons, asL, asT,
  bind_ok, bind_er, bind_st, ofO_some, asB_bl, ofR_ok, ofR_er, dAdd_int, dSub_int, dNeg_int, dLt_int, dLe_int, dGt_int, dGe_int, dEq_int, dNe_int, dEq_bl, dMod_int, dDiv_lit, dMul_int, Int.reduceLT, Int.reduceEq, Int.cast_ofNat_Int, eq_self, line_le, Nat.reduceLeDiff,  dIs_non, dIsNot_non, dAt_t0, dAt_t1, dAt_t2, dAt_l0, dAt_l1, dAt_l2, dAt_l3, dAt_l4, dAt_l5, dAt_l6, dAt_l7, dAbs, dMax2, dMin2, dLen,
  List.getElem?_cons_zero, List.getElem?_cons_succ, List.set_cons_zero, List.set_cons_succ, List.map_cons, List.map_nil, List.length_cons, List.length_nil, List.cons_append, List.nil_append, List.replicate_succ, List.replicate_zero, Nat.reduceSub, Nat.reduceAdd,
  decide_eq_true_eq, Bool.not_eq_true', if_true, if_false, ite_true, ite_false, Option.bind_some, Option.map_some, Bool.not_true, Bool.not_false, reduceIte, Bool.false_eq_true, Bool.true_eq_false, decide_true, decide_false])
local macro_rules | `(tactic| walk_at "gdh") => `(tactic| simp (config := {failIfUnchanged := false}) only [runF, sSeq, sIf, sAsg, sRet, sRetN, sExpr, sNil, sRaise, sPar, sTgt, sFor, sForR, sWhile, eVar, eC, e1, e2, mB, aNil, aCons, eF, eB, eTup, aLst, eL, mNot, mAnd, mOr, eNot, eAnd, eOr, gNm, gTp, gsNil, gsCons, asL, asT,
  bind_ok, bind_er, bind_st, ofO_some, asB_bl, ofR_ok, ofR_er, dAdd_int, dSub_int, dNeg_int, dLt_int, dLe_int, dGt_int, dGe_int, dEq_int, dNe_int, dEq_bl, dMod_int, dDiv_lit, dMul_int, Int.reduceLT, Int.reduceEq, Int.cast_ofNat_Int, eq_self, line_le, Nat.reduceLeDiff,  dIs_non, dIsNot_non, dAt_t0, dAt_t1, dAt_t2, dAt_l0, dAt_l1, dAt_l2, dAt_l3, dAt_l4, dAt_l5, dAt_l6, dAt_l7, dAbs, dMax2, dMin2, dLen,
  List.getElem?_cons_zero, List.getElem?_cons_succ, List.set_cons_zero, List.set_cons_succ, List.map_cons, List.map_nil, List.length_cons, List.length_nil, List.cons_append, List.nil_append, List.replicate_succ, List.replicate_zero, Nat.reduceSub, Nat.reduceAdd,
  decide_eq_true_eq, Bool.not_eq_true', if_true, if_false, ite_true, ite_false, Option.bind_some, Option.map_some, Bool.not_true, Bool.not_false, reduceIte, Bool.false_eq_true, Bool.true_eq_false, decide_true, decide_false, *])
def D22 (s : Pt × Pt) : D := .tup [D2p s.1, D2p s.2]
def sidesP (C : List Pt) : List (Pt × Pt) := (List.range C.length).map fun k => (cy C k, cy C (k + 1))
def nrm (a b : Pt) : Pt := (b.2 - a.2, a.1 - b.1)
def normalsP (C : List Pt) : List Pt := (List.range C.length).map fun k => nrm (cy C k) (cy C (k + 1))
theorem lc_gen {α : Type} {g : D → En → Option En} {m : EM} {ρ : En} {h f : α → D} : ∀ is : List α, (∀ i ∈ is, ∃ ρ1, g (h i) ρ = some ρ1 ∧ m ρ1 = .ok (f i)) → lcGo g mYes m (is.map h) ρ = .ok (is.map f)
  | [], _ => rfl
  | i :: is, hh => by
    obtain ⟨ρ1, h1, h2⟩ := hh i List.mem_cons_self
    exact lcc h1 h2 (lc_gen is fun q hq => hh q (List.mem_cons_of_mem _ hq))
theorem at_cy {C : List Pt} {k : Nat} (h : k < C.length) : dAt (.lst (C.map D2p)) (.int (k : Int)) = some (D2p (cy C k)) := dAt_lst (by rw [List.getElem?_map, cy_at h]; rfl)
theorem at_last {C : List Pt} (h : 0 < C.length) : dAt (.lst (C.map D2p)) (.int (-1)) = some (D2p (cy C (C.length - 1))) := by
  show L2.atI (C.map D2p) (-1) = _
  unfold L2.atI
  have e : L2.ixN (C.map D2p).length (-1) = some (C.length - 1) := by
    rw [List.length_map]
    unfold L2.ixN
    rw [if_neg (by decide), if_pos (by omega)]
    congr 1
    omega
  rw [e, Option.bind_some, List.getElem?_map, cy_at (by omega)]
  rfl
def WO (o : Out) (N : En → Prop) (T : D → Prop) (X : Str → Prop) : Prop := match o with
  | .nx ρ => N ρ
  | .rt d => T d
  | .er x _ => X x
  | _ => False
section
variable {N : En → Prop} {T : D → Prop} {X : Str → Prop} {ρ : En} {a b body m : SM} {n : Nat} {ds : List D} {d e : D} {me ma mb mc : EM} {mr : AM} {t u : TM}
theorem fn_ok (h : WO (m (ds.map Sl.v ++ List.replicate (n - ds.length) Sl.un)) (fun _ => D.non = d) (fun e => e = d) (fun _ => False)) : runF n m ds = .ok d := by
  unfold runF
  cases h' : m (ds.map Sl.v ++ List.replicate (n - ds.length) Sl.un) with
  | nx ρ => rw [h'] at h; exact congrArg R.ok h
  | rt d => rw [h'] at h; exact congrArg R.ok h
  | er x ρ => rw [h'] at h; exact h.elim
  | bk ρ => rw [h'] at h; exact h.elim
  | ct ρ => rw [h'] at h; exact h.elim
  | st => rw [h'] at h; exact h.elim
theorem fn_ex {P : D → Prop} (h : WO (m (ds.map Sl.v ++ List.replicate (n - ds.length) Sl.un)) (fun _ => P .non) P (fun _ => False)) : ∃ d, runF n m ds = .ok d ∧ P d := by
  unfold runF
  cases h' : m (ds.map Sl.v ++ List.replicate (n - ds.length) Sl.un) with
  | nx ρ => rw [h'] at h; exact ⟨_, rfl, h⟩
  | rt d => rw [h'] at h; exact ⟨_, rfl, h⟩
  | er x ρ => rw [h'] at h; exact h.elim
  | bk ρ => rw [h'] at h; exact h.elim
  | ct ρ => rw [h'] at h; exact h.elim
  | st => rw [h'] at h; exact h.elim
theorem WO.mono {o : Out} {N' : En → Prop} {T' : D → Prop} {X' : Str → Prop} (h : WO o N T X) (hn : ∀ ρ, N ρ → N' ρ) (ht : ∀ d, T d → T' d) (hx : ∀ x, X x → X' x) : WO o N' T' X' := by
  cases o with
  | nx ρ => exact hn _ h
  | rt d => exact ht _ h
  | er x ρ => exact hx _ h
  | bk ρ => exact h.elim
  | ct ρ => exact h.elim
  | st => exact h.elim
theorem wo_seq (h : WO (a ρ) (fun ρ' => WO (b ρ') N T X) T X) : WO (sSeq a b ρ) N T X := by
  unfold sSeq
  cases h' : a ρ with
  | nx ρ' => rw [h'] at h; exact h
  | rt d => rw [h'] at h; exact h
  | er y ρ => rw [h'] at h; exact h
  | bk ρ => rw [h'] at h; exact h.elim
  | ct ρ => rw [h'] at h; exact h.elim
  | st => rw [h'] at h; exact h.elim
theorem wo_cut (I : En → Prop) {o : Out} (h : WO o I T X) (k : ∀ ρ', I ρ' → N ρ') : WO o N T X := h.mono k (fun _ h => h) (fun _ h => h)
theorem wo_asg {i : Nat} (h : me ρ = .ok d) (k : N (ρ.set i (.v d))) : WO (sAsg i me ρ) N T X := by
  unfold sAsg; rw [h]; exact k
theorem wo_asgL {i : Nat} (h : mr ρ = .ok ds) (k : N (ρ.set i (.v (.lst ds)))) : WO (sAsgL i mr ρ) N T X := by
  unfold sAsgL; rw [h]; exact k
theorem wo_own {i : Nat} (h : mr ρ = .ok ds) (k : N (ρ.set i (.l ds))) : WO (sOwn i mr ρ) N T X := by
  unfold sOwn; rw [h]; exact k
theorem wo_tgt {g : D → En → Option En} {ρ' : En} (h : me ρ = .ok d) (hg : g d ρ = some ρ') (k : N ρ') : WO (sTgt g me ρ) N T X := by
  unfold sTgt; rw [h, ofR_ok, hg]; exact k
theorem wo_par {i j : Nat} (h1 : ma ρ = .ok d) (h2 : mb ρ = .ok e) (k : N ((ρ.set i (.v d)).set j (.v e))) : WO (sPar i j ma mb ρ) N T X := by
  unfold sPar; rw [h1, bind_ok, h2, bind_ok, ofR_ok]; exact k
theorem wo_nil (k : N ρ) : WO (sNil ρ) N T X := k
theorem wo_ret (h : me ρ = .ok d) (k : T d) : WO (sRet me ρ) N T X := by
  unfold sRet; rw [h]; exact k
theorem wo_raise {x : Str} (k : X x) : WO (sRaise x ρ) N T X := k
theorem wo_frz {i : Nat} (k : WO (a (frz i ρ)) N T X) : WO (sFrz i a ρ) N T X := k
theorem wo_if {c : Bool} (h : t ρ = .ok c) (k1 : c = true → WO (a ρ) N T X) (k2 : c = false → WO (b ρ) N T X) : WO (sIf t a b ρ) N T X := by
  unfold sIf
  rw [h, ofR_ok]
  cases c with
  | true => exact k1 rfl
  | false => exact k2 rfl
theorem wo_ifx {c : Bool} {P1 P2 : Prop} (h : t ρ = .ok c) (e1 : (c = true) = P1) (e2 : (c = false) = P2) (k1 : P1 → WO (a ρ) N T X) (k2 : P2 → WO (b ρ) N T X) : WO (sIf t a b ρ) N T X :=
  wo_if h (fun z => k1 (e1 ▸ z)) (fun z => k2 (e2 ▸ z))
theorem wo_ift {c : Bool} (h : t ρ = .ok c) (e : c = true) (k : WO (a ρ) N T X) : WO (sIf t a b ρ) N T X := wo_if h (fun _ => k) (fun z => by rw [e] at z; cases z)
theorem wo_iff {c : Bool} (h : t ρ = .ok c) (e : c = false) (k : WO (b ρ) N T X) : WO (sIf t a b ρ) N T X := wo_if h (fun z => by rw [e] at z; cases z) (fun _ => k)
theorem wo_app {i : Nat} (h0 : ρ[i]? = some (.l ds)) (h : me ρ = .ok d) (hl : ds.length < 16777216) (k : N (ρ.set i (.l (ds ++ [d])))) : WO (sApp i me ρ) N T X := by
  unfold sApp
  rw [h0]
  show WO (ofR (me ρ) ρ fun d => if ds.length < sizeLine then Out.nx (ρ.set i (.l (ds ++ [d]))) else .st) N T X
  rw [h, ofR_ok, if_pos (by rw [sizeLine_eq]; exact hl)]
  exact k
theorem wo_loop {α : Type} {h : α → D} (l : List α) {g : D → En → Option En} (I : List α → En → Prop)
    (step : ∀ x r ρ, x ∈ l → I (x :: r) ρ → ∃ ρ1, g (h x) ρ = some ρ1 ∧ WO (body ρ1) (I r) T X) : ∀ r ρ, (∀ x ∈ r, x ∈ l) → I r ρ → WO (loop g body (r.map h) ρ) (I []) T X
  | [], ρ, _, i => i
  | x :: r, ρ, sub, i => by
    obtain ⟨ρ1, h1, h2⟩ := step x r ρ (sub x List.mem_cons_self) i
    show WO (match g (h x) ρ with
      | none => Out.st
      | some ρ' => match body ρ' with
        | .nx ρ2 => loop g body (r.map h) ρ2
        | .ct ρ2 => loop g body (r.map h) ρ2
        | .bk ρ2 => .nx ρ2
        | o => o) _ _ _
    rw [h1]
    show WO (match body ρ1 with
        | .nx ρ2 => loop g body (r.map h) ρ2
        | .ct ρ2 => loop g body (r.map h) ρ2
        | .bk ρ2 => .nx ρ2
        | o => o) _ _ _
    cases h' : body ρ1 with
    | nx ρ2 => rw [h'] at h2; exact wo_loop l I step r ρ2 (fun y hy => sub y (List.mem_cons_of_mem _ hy)) h2
    | rt d => rw [h'] at h2; exact h2
    | er y ρ => rw [h'] at h2; exact h2
    | bk ρ => rw [h'] at h2; exact h2.elim
    | ct ρ => rw [h'] at h2; exact h2.elim
    | st => rw [h'] at h2; exact h2.elim
theorem wo_for {α : Type} {h : α → D} {l : List α} {g : D → En → Option En} {f : D → Option (List D)} (I : List α → En → Prop) (hm : me ρ = .ok d) (hf : f d = some (l.map h)) (i0 : I l ρ)
    (step : ∀ x r ρ, x ∈ l → I (x :: r) ρ → ∃ ρ1, g (h x) ρ = some ρ1 ∧ WO (body ρ1) (I r) T X) (fin : ∀ ρ, I [] ρ → N ρ) : WO (sFor g f me body ρ) N T X := by
  unfold sFor
  rw [hm, bind_ok, hf, ofO_some, ofR_ok]
  exact (wo_loop l I step l ρ (fun _ h => h) i0).mono fin (fun _ h => h) (fun _ h => h)
theorem wo_range {as : List D} {a0 c : Int} {k : Nat} {g : D → En → Option En} (I : Nat → En → Prop) (hm : mr ρ = .ok as) (hr : dRange as = some (rg a0 c k)) (i0 : I 0 ρ)
    (step : ∀ j ρ, j < k → I j ρ → ∃ ρ1, g (.int (a0 + (j : Nat) * c)) ρ = some ρ1 ∧ WO (body ρ1) (I (j + 1)) T X) (fin : ∀ ρ, I k ρ → N ρ) : WO (sForR g mr body ρ) N T X := by
  unfold sForR
  rw [hm, bind_ok, hr, ofO_some, ofR_ok]
  have key : ∀ q j ρ, j + q = k → I j ρ → WO (loop g body ((List.range' j q).map fun i => D.int (a0 + (i : Nat) * c)) ρ) (I k) T X := by
    intro q
    induction q with
    | zero => intro j ρ e i; rw [← e]; exact i
    | succ q ih =>
      intro j ρ e i
      obtain ⟨ρ1, h1, h2⟩ := step j ρ (by omega) i
      rw [List.range'_succ, List.map_cons]
      show WO (match g (D.int (a0 + (j : Nat) * c)) ρ with
      | none => Out.st
      | some ρ' => match body ρ' with
        | .nx ρ2 => loop g body ((List.range' (j + 1) q).map fun i => D.int (a0 + (i : Nat) * c)) ρ2
        | .ct ρ2 => loop g body ((List.range' (j + 1) q).map fun i => D.int (a0 + (i : Nat) * c)) ρ2
        | .bk ρ2 => .nx ρ2
        | o => o) _ _ _
      rw [h1]
      show WO (match body ρ1 with
        | .nx ρ2 => loop g body ((List.range' (j + 1) q).map fun i => D.int (a0 + (i : Nat) * c)) ρ2
        | .ct ρ2 => loop g body ((List.range' (j + 1) q).map fun i => D.int (a0 + (i : Nat) * c)) ρ2
        | .bk ρ2 => .nx ρ2
        | o => o) _ _ _
      cases h' : body ρ1 with
      | nx ρ2 => rw [h'] at h2; exact ih (j + 1) ρ2 (by omega) h2
      | rt d => rw [h'] at h2; exact h2
      | er y ρ => rw [h'] at h2; exact h2
      | bk ρ => rw [h'] at h2; exact h2.elim
      | ct ρ => rw [h'] at h2; exact h2.elim
      | st => rw [h'] at h2; exact h2.elim
  unfold rg
  rw [List.range_eq_range']
  exact (key k 0 ρ (by omega) i0).mono fin (fun _ h => h) (fun _ h => h)
theorem ev_c (d : D) : eC d ρ = .ok d := rfl
theorem ev_var {i : Nat} (h : ρ[i]? = some (.v d)) : eVar i ρ = .ok d := by unfold eVar; rw [h]
theorem ev_e1 {g : D → Option D} (h1 : ma ρ = .ok d) (h2 : g d = some e) : e1 g ma ρ = .ok e := by unfold e1; rw [h1, bind_ok, h2]; rfl
theorem ev_e2 {g : D → D → Option D} {x y z : D} (h1 : ma ρ = .ok x) (h2 : mb ρ = .ok y) (h3 : g x y = some z) : e2 g ma mb ρ = .ok z := by unfold e2; rw [h1, bind_ok, h2, bind_ok, h3]; rfl
theorem ev_nil : aNil ρ = .ok [] := rfl
theorem ev_cons {x : D} {xs : List D} (h1 : ma ρ = .ok x) (h2 : mr ρ = .ok xs) : aCons ma mr ρ = .ok (x :: xs) := by unfold aCons; rw [h1, bind_ok, h2]; rfl
theorem ev_F {F : List D → R D} (h1 : mr ρ = .ok ds) (h2 : F ds = .ok d) : eF F mr ρ = .ok d := by unfold eF; rw [h1, bind_ok, h2]
theorem ev_B {g : List D → Option D} (h1 : mr ρ = .ok ds) (h2 : g ds = some d) : eB g mr ρ = .ok d := by unfold eB; rw [h1, bind_ok, h2]; rfl
theorem ev_mB {c : Bool} (h : ma ρ = .ok (.bl c)) : mB ma ρ = .ok c := by unfold mB; rw [h]; rfl
theorem ev_tup (h : mr ρ = .ok ds) (hl : ds.length ≤ 16777216) : eTup mr ρ = .ok (.tup ds) := by unfold eTup; rw [h, bind_ok, if_pos (by rw [sizeLine_eq]; exact hl)]
theorem ev_tup2 {x y : Int} (h1 : ma ρ = .ok (.int x)) (h2 : mb ρ = .ok (.int y)) : eTup (aCons ma (aCons mb aNil)) ρ = .ok (D2p (x, y)) := ev_tup (ev_cons h1 (ev_cons h2 ev_nil)) (by decide : 2 ≤ 16777216)
theorem ev_tup3 {x y z : Int} (h1 : ma ρ = .ok (.int x)) (h2 : mb ρ = .ok (.int y)) (h3 : mc ρ = .ok (.int z)) : eTup (aCons ma (aCons mb (aCons mc aNil))) ρ = .ok (D3 x y z) := ev_tup (ev_cons h1 (ev_cons h2 (ev_cons h3 ev_nil))) (by decide : 3 ≤ 16777216)
theorem ev_lst (h : mr ρ = .ok ds) (hl : ds.length ≤ 16777216) : aLst mr ρ = .ok ds := by unfold aLst; rw [h, bind_ok, if_pos (by rw [sizeLine_eq]; exact hl)]
theorem ev_L (h : mr ρ = .ok ds) : eL mr ρ = .ok (.lst ds) := by unfold eL; rw [h]; rfl
theorem ev_copy {g : List D → Option (List D)} {es : List D} (h : mr ρ = .ok ds) (h2 : g ds = some es) : aB g mr ρ = .ok es := by unfold aB; rw [h, bind_ok, h2]; rfl
theorem ev_not {c : Bool} (h : t ρ = .ok c) : mNot t ρ = .ok (!c) := by unfold mNot; rw [h]; rfl
theorem ev_and0 (h : t ρ = .ok false) : mAnd t u ρ = .ok false := by unfold mAnd; rw [h]; rfl
theorem ev_or1 (h : t ρ = .ok true) : mOr t u ρ = .ok true := by unfold mOr; rw [h]; rfl
theorem ev_and {b c : Bool} (h : t ρ = .ok b) (k : b = true → u ρ = .ok c) : mAnd t u ρ = .ok (b && c) := by
  unfold mAnd; rw [h, bind_ok]
  cases b with
  | true => exact k rfl
  | false => rfl
theorem ev_or {b c : Bool} (h : t ρ = .ok b) (k : b = false → u ρ = .ok c) : mOr t u ρ = .ok (b || c) := by
  unfold mOr; rw [h, bind_ok]
  cases b with
  | true => rfl
  | false => exact k rfl
theorem ev_eNot {c : Bool} (h : ma ρ = .ok (.bl c)) : eNot ma ρ = .ok (.bl (!c)) := by unfold eNot; rw [ev_mB h]; rfl
theorem ev_eAnd0 (h : ma ρ = .ok (.bl false)) : eAnd ma mb ρ = .ok (.bl false) := by unfold eAnd; rw [ev_mB h, bind_ok]; rfl
theorem ev_eOr1 (h : ma ρ = .ok (.bl true)) : eOr ma mb ρ = .ok (.bl true) := by unfold eOr; rw [ev_mB h, bind_ok]; rfl
theorem ev_eAnd {b c : Bool} (h : ma ρ = .ok (.bl b)) (k : b = true → mb ρ = .ok (.bl c)) : eAnd ma mb ρ = .ok (.bl (b && c)) := by
  unfold eAnd; rw [ev_mB h, bind_ok]
  cases b with
  | true => exact k rfl
  | false => rfl
theorem ev_eOr {b c : Bool} (h : ma ρ = .ok (.bl b)) (k : b = false → mb ρ = .ok (.bl c)) : eOr ma mb ρ = .ok (.bl (b || c)) := by
  unfold eOr; rw [ev_mB h, bind_ok]
  cases b with
  | true => rfl
  | false => exact k rfl
theorem ev_ch {g g' : D → D → Option D} {x y w : D} {b c : Bool} (h1 : ma ρ = .ok x) (h2 : mb ρ = .ok y) (h3 : g x y = some (.bl b)) (h4 : b = true → mc ρ = .ok w) (h5 : b = true → g' y w = some (.bl c)) : eCh g g' ma mb mc ρ = .ok (.bl (b && c)) := by
  unfold eCh; rw [h1, bind_ok, h2, bind_ok, h3, ofO_some, bind_ok, asB_bl, ofO_some, bind_ok]
  cases b with
  | true => rw [if_pos rfl, h4 rfl, bind_ok, h5 rfl]; rfl
  | false => rfl
theorem ev_lc {α : Type} {h : α → D} {f' : α → D} {l : List α} {f : D → Option (List D)} {vs : List Nat} {g : D → En → Option En} (h1 : ma ρ = .ok d) (h2 : f d = some (l.map h)) (hl : l.length ≤ 16777216)
    (h3 : ∀ x, x ∈ l → ∃ ρ1, g (h x) (wipeE vs ρ) = some ρ1 ∧ mb ρ1 = .ok (f' x)) : aLc f vs g mYes ma mb ρ = .ok (l.map f') := by
  unfold aLc
  rw [h1, bind_ok, h2, ofO_some, bind_ok, if_pos (by rw [List.length_map, sizeLine_eq]; exact hl)]
  exact lc_gen l h3
theorem ev_lcR {as : List D} {a0 c : Int} {k : Nat} {f' : Nat → D} {vs : List Nat} {g : D → En → Option En} (h1 : mr ρ = .ok as) (h2 : dRange as = some (rg a0 c k)) (hl : k ≤ 16777216)
    (h3 : ∀ x, x < k → ∃ ρ1, g (.int (a0 + (x : Nat) * c)) (wipeE vs ρ) = some ρ1 ∧ mb ρ1 = .ok (f' x)) : aLcR vs g mYes mr mb ρ = .ok ((List.range k).map f') := by
  unfold aLcR
  rw [h1, bind_ok, h2, ofO_some, bind_ok, if_pos (by unfold rg; rw [List.length_map, List.length_range, sizeLine_eq]; exact hl)]
  unfold rg
  exact lc_gen _ fun x hx => h3 x (List.mem_range.mp hx)
theorem ev_cat {xs ys : List D} (h1 : ma ρ = .ok (.lst xs)) (h2 : mb ρ = .ok (.lst ys)) (hl : xs.length + ys.length ≤ 16777216) : aCat ma mb ρ = .ok (xs ++ ys) := by
  unfold aCat
  rw [h1, bind_ok, h2, bind_ok, show catL (.lst xs) (.lst ys) = some (xs ++ ys) from if_pos (by rw [sizeLine_eq]; exact hl)]
  rfl
theorem ev_ownLen {i : Nat} (h : ρ[i]? = some (.l ds)) : eOwnLen i ρ = .ok (.int ds.length) := by unfold eOwnLen; rw [h]
theorem ev_ownAt {i : Nat} {ds : List D} {k : Int} {m : EM} (h : ρ[i]? = some (.l ds)) (h2 : m ρ = .ok (.int k)) (h3 : dAt (.lst ds) (.int k) = some d) : eOwnAt i m ρ = .ok d := by
  unfold eOwnAt
  rw [h]
  show (m ρ).bind _ = _
  rw [h2, bind_ok]
  show R.ofO (L2.atI ds k) = _
  rw [show L2.atI ds k = some d from h3]
  rfl
theorem its_map {α : Type} {h : α → D} {l : List α} : asL (.lst (l.map h)) = some (l.map h) := rfl
theorem its_map2 {α : Type} {h : α → D} {l : List α} : asT (.tup (l.map h)) = some (l.map h) := rfl
theorem rng1 {k : Int} (h1 : -(2 ^ 62) ≤ k) (h2 : k < 2 ^ 62) : dRange [.int k] = some (rg 0 1 k.toNat) := if_pos ⟨h1, h2⟩
theorem rng2 {i j : Int} (h1 : -(2 ^ 62) ≤ i) (h2 : i < 2 ^ 62) (h3 : -(2 ^ 62) ≤ j) (h4 : j < 2 ^ 62) : dRange [.int i, .int j] = some (rg i 1 (j - i).toNat) := if_pos ⟨h1, h2, h3, h4⟩
end
theorem dAt_q0 (x y z : Int) : dAt (D3 x y z) (.int 0) = some (.int x) := rfl
theorem dAt_q1 (x y z : Int) : dAt (D3 x y z) (.int 1) = some (.int y) := rfl
theorem dAt_q2 (x y z : Int) : dAt (D3 x y z) (.int 2) = some (.int z) := rfl
theorem dAt_pp0 (x y : Int) : dAt (D2p (x, y)) (.int 0) = some (.int x) := rfl
theorem dAt_pp1 (x y : Int) : dAt (D2p (x, y)) (.int 1) = some (.int y) := rfl
theorem dAt_f0 (x y : Int) : dAt (D2 x y) (.int 0) = some (.int x) := rfl
theorem dAt_f1 (x y : Int) : dAt (D2 x y) (.int 1) = some (.int y) := rfl
theorem dAbs_int (x : Int) : dAbs [.int x] = some (.int (x.natAbs : Int)) := rfl
theorem dMax2_int (x y : Int) : dMax2 [.int x, .int y] = some (.int (max x y)) := by rfl
theorem dMin2_int (x y : Int) : dMin2 [.int x, .int y] = some (.int (min x y)) := by rfl
theorem dInt_bl (b : Bool) : dInt [.bl b] = some (.int (if b then 1 else 0)) := rfl
theorem dNe_bl (a b : Bool) : dNe (.bl a) (.bl b) = some (.bl (!(a == b))) := rfl
theorem dLen_pts {α : Type} {f : α → D} (l : List α) : dLen [.lst (l.map f)] = some (.int (l.length : Int)) := by
  show some (D.int (((l.map f).length : Nat) : Int)) = _
  rw [List.length_map]
theorem at_lst {α : Type} {f : α → D} {l : List α} {k : Nat} (h : k < l.length) : dAt (.lst (l.map f)) (.int (k : Int)) = some (f l[k]) := dAt_lst (by rw [List.getElem?_map, List.getElem?_eq_getElem h]; rfl)
theorem eqv_D3 (a b c x y z : Int) : PyData.eqv (toP (D3 a b c)) (toP (D3 x y z)) = decide (a = x ∧ b = y ∧ c = z) := by
  show ((a == x) && ((b == y) && ((c == z) && true))) = _
  rw [Bool.and_true, Bool.beq_eq_decide_eq, Bool.beq_eq_decide_eq, Bool.beq_eq_decide_eq, ← Bool.decide_and, ← Bool.decide_and]
theorem dNe_D3 (a b c x y z : Int) : dNe (D3 a b c) (D3 x y z) = some (.bl (!decide (a = x ∧ b = y ∧ c = z))) := by
  unfold dNe
  rw [if_pos ⟨rfl, rfl⟩, eqv_D3]
theorem dEq_D3 (a b c x y z : Int) : dEq (D3 a b c) (D3 x y z) = some (.bl (decide (a = x ∧ b = y ∧ c = z))) := by
  unfold dEq
  rw [if_pos ⟨rfl, rfl⟩, eqv_D3]
theorem dEq_np (p : Pt) : dEq .non (D2p p) = some (.bl false) := rfl
theorem dNe_np (p : Pt) : dNe .non (D2p p) = some (.bl true) := rfl
theorem Bd.litO (k : Nat) : Bd (k.log2 + 1) (OfNat.ofNat k : Int) := by
  unfold Bd
  show (k : Int).natAbs < _
  rw [Int.natAbs_natCast]
  exact Nat.lt_log2_self
theorem Bd.emod {x k : Int} (h : 0 < k) : Bd (k.natAbs.log2 + 1) (x % k) := by
  have h1 := Int.emod_nonneg x (by omega : k ≠ 0)
  have h2 := Int.emod_lt_of_pos x h
  have h3 : k.natAbs < 2 ^ (k.natAbs.log2 + 1) := Nat.lt_log2_self
  unfold Bd
  omega
theorem Bd.ediv {n : Nat} {x k : Int} (h : Bd n x) : Bd n (x / k) := h.of_le (Int.natAbs_ediv_le_natAbs x k)
theorem bd_abs {n : Nat} {x : Int} (h : Bd n x) : Bd n (x.natAbs : Int) := h.of_le (by omega)
theorem bd_ite1 {c : Prop} [Decidable c] : Bd 1 (if c then (1 : Int) else 0) := by
  unfold Bd
  split <;> decide
theorem bd_ite {c : Prop} [Decidable c] {m n : Nat} {x y : Int} (h : Bd m x) (g : Bd n y) : Bd (max m n) (if c then x else y) := by
  split
  · exact h.mono (Nat.le_max_left ..)
  · exact g.mono (Nat.le_max_right ..)
theorem BdP.a {n : Nat} {p : Pt} (h : BdP n p) : Bd n p.1 := h.1
theorem BdP.b {n : Nat} {p : Pt} (h : BdP n p) : Bd n p.2 := h.2
theorem BdP.mk {m n : Nat} {x y : Int} (h : Bd m x) (g : Bd n y) : BdP (max m n) (x, y) := ⟨h.mono (Nat.le_max_left ..), g.mono (Nat.le_max_right ..)⟩
theorem BdP.mono {m n : Nat} {p : Pt} (h : BdP m p) (l : m ≤ n) : BdP n p := ⟨h.1.mono l, h.2.mono l⟩
theorem bd_mem {n : Nat} {C : List Pt} {p : Pt} (h : ∀ q ∈ C, BdP n q) (hp : p ∈ C) : BdP n p := h p hp
theorem bd_get {n : Nat} {C : List Pt} {i : Nat} {hi : i < C.length} (h : ∀ q ∈ C, BdP n q) : BdP n C[i] := h _ (List.getElem_mem hi)
theorem bd_cy {n : Nat} {C : List Pt} (h : ∀ q ∈ C, BdP n q) (hc : 0 < C.length) (k : Nat) : BdP n (cy C k) := h _ (cy_mem (by intro z; rw [z] at hc; simp at hc) k)
def Shp (n : Nat) (d : D) : Prop := (toP d).canLay0 = true ∧ (toP d).depth ≤ n
theorem Shp.shaped {n : Nat} {d : D} (h : Shp n d) (hn : n ≤ 64) : SeqAt.shaped (toP d) = true := by
  unfold SeqAt.shaped
  rw [h.1, Bool.true_and]
  exact decide_eq_true (Nat.le_trans h.2 hn)
theorem shp_int (i : Int) : Shp 0 (.int i) := ⟨rfl, Nat.le_refl 0⟩
theorem shp_bl (i : Bool) : Shp 0 (.bl i) := ⟨rfl, Nat.le_refl 0⟩
theorem shp_non : Shp 0 .non := ⟨rfl, by decide⟩
theorem shp_pt (p : Pt) : Shp 1 (D2p p) := ⟨(pt_shape p).1, by rw [(pt_shape p).2]; decide⟩
theorem shp_D2 (x y : Int) : Shp 1 (D2 x y) := ⟨rfl, Nat.le_refl 1⟩
theorem shp_fr (x y : Int) : Shp 1 (fr x y) := ⟨rfl, Nat.le_refl 1⟩
theorem shp_D3 (x y z : Int) : Shp 1 (D3 x y z) := ⟨rfl, Nat.le_refl 1⟩
theorem shp_sp (x y z : Int) : Shp 1 (sp x y z) := ⟨rfl, Nat.le_refl 1⟩
theorem shp_pts (ps : List Pt) : Shp 2 (.lst (ps.map D2p)) := by
  obtain ⟨h1, h2⟩ := pts_shape ps
  exact ⟨h1, by show PyData.depthAll (toPs (ps.map D2p)) + 1 ≤ 2; omega⟩
theorem shp_nilL : Shp 1 (.lst []) := ⟨rfl, by decide⟩
theorem shp_nilT : Shp 1 (.tup []) := ⟨rfl, by decide⟩
theorem shp_consL {m n : Nat} {d : D} {ds : List D} (h : Shp m d) (g : Shp n (.lst ds)) : Shp (max (m + 1) n) (.lst (d :: ds)) := by
  constructor
  · show ((toP d).canLay0 && PyData.canLayAll0 (toPs ds)) = true
    rw [h.1]
    exact g.1
  · have h2 := h.2
    have g2 : PyData.depthAll (toPs ds) + 1 ≤ n := g.2
    show max (toP d).depth (PyData.depthAll (toPs ds)) + 1 ≤ _
    omega
theorem shp_consT {m n : Nat} {d : D} {ds : List D} (h : Shp m d) (g : Shp n (.tup ds)) : Shp (max (m + 1) n) (.tup (d :: ds)) := by
  constructor
  · show ((toP d).canLay0 && PyData.canLayAll0 (toPs ds)) = true
    rw [h.1]
    exact g.1
  · have h2 := h.2
    have g2 : PyData.depthAll (toPs ds) + 1 ≤ n := g.2
    show max (toP d).depth (PyData.depthAll (toPs ds)) + 1 ≤ _
    omega
theorem eqv_ints : ∀ ns : List Int, PyData.eqvAll (ns.map PyData.int) (ns.map PyData.int) = true
  | [] => rfl
  | n :: ns => by
    show ((n == n) && PyData.eqvAll (ns.map PyData.int) (ns.map PyData.int)) = true
    rw [eqv_ints ns]; simp
mutual
theorem eqv_refl : ∀ d : D, (toP d).canLay0 = true → PyData.eqv (toP d) (toP d) = true
  | .non, _ => rfl
  | .bl b, _ => by show (b == b) = true; simp
  | .int i, _ => by show (i == i) = true; simp
  | .str x, _ => by show PyData.eqv (.str x) (.str x) = true; simp [PyData.eqv]
  | .tup ds, h => eqv_reflL ds h
  | .lst ds, h => eqv_reflL ds h
  | .scr ns, _ => eqv_ints ns
  | .dct _ _, h => by simp [toP, PyData.canLay0] at h
  | .exc _, h => by simp [toP, PyData.canLay0] at h
  | .ty _, h => by simp [toP, PyData.canLay0] at h
  | .cls _, h => by simp [toP, PyData.canLay0] at h
  | .obj _ _ _, h => by simp [toP, PyData.canLay0] at h
theorem eqv_reflL : ∀ ds : List D, PyData.canLayAll0 (toPs ds) = true → PyData.eqvAll (toPs ds) (toPs ds) = true
  | [], _ => rfl
  | d :: ds, h => by
    have h' : ((toP d).canLay0 && PyData.canLayAll0 (toPs ds)) = true := h
    rw [Bool.and_eq_true] at h'
    show (PyData.eqv (toP d) (toP d) && PyData.eqvAll (toPs ds) (toPs ds)) = true
    rw [eqv_refl d h'.1, eqv_reflL ds h'.2]
    rfl
end
theorem dNe_self {n : Nat} {d : D} (h : Shp n d) (hn : n ≤ 64) : dNe d d = some (.bl false) := by
  unfold dNe
  rw [if_pos ⟨h.shaped hn, h.shaped hn⟩, eqv_refl d h.1]
  rfl
theorem dEq_self {n : Nat} {d : D} (h : Shp n d) (hn : n ≤ 64) : dEq d d = some (.bl true) := by
  unfold dEq
  rw [if_pos ⟨h.shaped hn, h.shaped hn⟩, eqv_refl d h.1]
end Law
namespace Law
open PySem PySem.Spec PyProof.Rows L2 GD Hl
local macro_rules | `(tactic| walk_at "bd") => `(tactic| first
  | with_reducible assumption
  | with_reducible exact Bd.litO _
  | ((with_reducible refine' Bd.mul ?h ?g); (case h => walk_at "bd"); (case g => walk_at "bd"))
  | ((with_reducible refine' Bd.add ?h ?g); (case h => walk_at "bd"); (case g => walk_at "bd"))
  | ((with_reducible refine' Bd.sub ?h ?g); (case h => walk_at "bd"); (case g => walk_at "bd"))
  | ((with_reducible refine' Bd.neg ?h); (case h => walk_at "bd"))
  | ((with_reducible refine' Bd.emod ?h); (case h => walk_at "pos"))
  | ((with_reducible refine' Bd.ediv ?h); (case h => walk_at "bd"))
  | ((with_reducible refine' bd_fT ?h); (case h => walk_at "bd"))
  | ((with_reducible refine' bd_fB ?h); (case h => walk_at "bd"))
  | ((with_reducible refine' bd_sX ?h); (case h => walk_at "bd"))
  | ((with_reducible refine' bd_sY ?h); (case h => walk_at "bd"))
  | ((with_reducible refine' bd_sW ?h); (case h => walk_at "bd"))
  | ((with_reducible refine' bd_abs ?h); (case h => walk_at "bd"))
  | ((with_reducible refine' BdP.a ?h); (case h => walk_at "bdq"))
  | ((with_reducible refine' BdP.b ?h); (case h => walk_at "bdq"))
  | with_reducible exact bd_ite1
  | ((with_reducible refine' bd_ite ?h ?g); (case h => walk_at "bd"); (case g => walk_at "bd")))
local macro_rules | `(tactic| walk_at "pos") => `(tactic| first
  | with_reducible assumption
  | decide
  | omega)
local macro_rules | `(tactic| walk_at "bdq") => `(tactic| first
  | with_reducible assumption
  | ((with_reducible refine' bd_cy ?h ?g _); (case h => with_reducible assumption); (case g => first | with_reducible assumption | omega))
  | ((with_reducible refine' bd_mem ?h ?g); (case g => with_reducible assumption); (case h => with_reducible assumption))
  | ((with_reducible refine' bd_get ?h); (case h => with_reducible assumption)))
local macro_rules | `(tactic| walk_at "bdp") => `(tactic| first
  | walk_at "bdq"
  | ((with_reducible refine' BdP.mk ?h ?g); (case h => walk_at "bd"); (case g => walk_at "bd")))
local macro_rules | `(tactic| walk_at "num") => `(tactic| first
  | with_reducible assumption
  | omega
  | decide +kernel
  | (simp only [Nat.reduceLog2]; omega))
local macro_rules | `(tactic| walk_at "dis") => `(tactic| first
  | with_reducible assumption
  | ((with_reducible refine' mok ?h ?g ?l); (case h => walk_at "bd"); (case g => walk_at "bd"); (case l => walk_at "num"))
  | ((with_reducible refine' Bd.mono ?h ?l); (case h => walk_at "bd"); (case l => walk_at "num"))
  | ((with_reducible refine' BdP.mono ?h ?l); (case h => walk_at "bdp"); (case l => walk_at "num"))
  | ((with_reducible show divOk _); first | with_reducible assumption | decide +kernel | (refine' dok ?p ?h ?l; (case p => first | with_reducible assumption | omega); (case h => walk_at "bd"); (case l => walk_at "num")))
  | omega)
local macro_rules | `(tactic| walk_at "op") => `(tactic| first
  | with_reducible exact dAdd_int _ _
  | with_reducible exact dSub_int _ _
  | ((with_reducible refine dMul_int ?_); walk_at "dis")
  | with_reducible exact dAt_pp0 _ _
  | with_reducible exact dAt_pp1 _ _
  | with_reducible exact dAt_p0 _
  | with_reducible exact dAt_p1 _
  | with_reducible exact dAt_t0
  | with_reducible exact dAt_t1
  | with_reducible exact dAt_t2
  | with_reducible exact dAt_q0 _ _ _
  | with_reducible exact dAt_q1 _ _ _
  | with_reducible exact dAt_q2 _ _ _
  | with_reducible exact dAt_f0 _ _
  | with_reducible exact dAt_f1 _ _
  | with_reducible exact dLt_int _ _
  | with_reducible exact dLe_int _ _
  | with_reducible exact dGt_int _ _
  | with_reducible exact dGe_int _ _
  | with_reducible exact dEq_int _ _
  | with_reducible exact dNe_int _ _
  | ((with_reducible refine dMod_int ?_); walk_at "dis")
  | ((with_reducible refine dDiv_int ?_); walk_at "dis")
  | with_reducible exact dNeg_int _
  | with_reducible exact dIs_non _
  | with_reducible exact dIsNot_non _
  | with_reducible exact dAbs_int _
  | with_reducible exact dMax2_int _ _
  | with_reducible exact dMin2_int _ _
  | with_reducible exact dInt_bl _
  | with_reducible exact dLen_pts _
  | with_reducible exact dEq_pt _ _
  | with_reducible exact dNe_pt _ _
  | with_reducible exact dEq_pts _ _
  | with_reducible exact dNe_pts _ _
  | with_reducible exact dNe_bl _ _
  | with_reducible exact dEq_bl _ _
  | with_reducible exact dEq_D3 _ _ _ _ _ _
  | with_reducible exact dNe_D3 _ _ _ _ _ _
  | with_reducible exact dEq_np _
  | with_reducible exact dNe_np _
  | ((with_reducible refine at_last ?_); walk_at "dis")
  | with_reducible exact dAt_l0
  | with_reducible exact dAt_l1
  | with_reducible exact dAt_l2
  | with_reducible exact dAt_l3
  | with_reducible exact dAt_l4
  | with_reducible exact dAt_l5
  | with_reducible exact dAt_l6
  | with_reducible exact dAt_l7
  | ((with_reducible refine' dNe_self ?h ?l); (case h => walk_at "shp"); (case l => decide))
  | ((with_reducible refine' dEq_self ?h ?l); (case h => walk_at "shp"); (case l => decide))
  | with_reducible assumption
  | exact isi_int _ _ _ _ rfl kb_tuple_tuple
  | exact isi_int _ _ _ _ rfl kb_list_list
  | exact isi_int _ _ _ _ rfl kb_int_int
  | exact isi_int _ _ _ _ rfl kb_bool_bool
  | exact isi_int _ _ _ _ rfl kb_int_bool
  | exact isi_int _ _ _ _ rfl kb_list_tuple
  | exact isi_int _ _ _ _ rfl kb_tuple_list
  | with_reducible rfl)
local macro_rules | `(tactic| walk_at "shp") => `(tactic| first
  | with_reducible exact shp_int _
  | with_reducible exact shp_bl _
  | with_reducible exact shp_non
  | with_reducible exact shp_pt _
  | with_reducible exact shp_pts _
  | with_reducible exact shp_D2 _ _
  | with_reducible exact shp_fr _ _
  | with_reducible exact shp_D3 _ _ _
  | with_reducible exact shp_sp _ _ _
  | with_reducible exact shp_nilL
  | with_reducible exact shp_nilT
  | ((with_reducible refine' shp_consL ?h ?g); (case h => walk_at "shp"); (case g => walk_at "shp"))
  | ((with_reducible refine' shp_consT ?h ?g); (case h => walk_at "shp"); (case g => walk_at "shp"))
  | with_reducible assumption)
local macro_rules | `(tactic| walk_at "fn") => `(tactic| first
  | with_reducible assumption
  | with_reducible exact whole_int _
  | with_reducible exact divisor_eq _ _
  | with_reducible exact common_eq _ _)
local macro_rules | `(tactic| walk_at "ev") => `(tactic| first
  | with_reducible exact ev_c _
  | ((with_reducible refine' ev_var ?h1); (case h1 => exact rfl))
  | ((with_reducible refine' ev_e2 ?h1 ?h2 ?h3); (case h1 => walk_at "ev"); (case h2 => walk_at "ev"); (case h3 => walk_at "op"))
  | with_reducible exact ev_nil
  | ((with_reducible refine' ev_cons ?h1 ?h2); (case h1 => walk_at "ev"); (case h2 => walk_at "ev"))
  | ((with_reducible refine' ev_F ?h1 ?h2); (case h1 => walk_at "ev"); (case h2 => walk_at "fn"))
  | ((with_reducible refine' ev_mB ?h1); (case h1 => walk_at "ev"))
  | ((with_reducible refine' ev_B ?h1 ?h2); (case h1 => walk_at "ev"); (case h2 => walk_at "op"))
  | ((with_reducible refine' ev_tup2 ?h1 ?h2); (case h1 => walk_at "ev"); (case h2 => walk_at "ev"))
  | ((with_reducible refine' ev_tup3 ?h1 ?h2 ?h3); (case h1 => walk_at "ev"); (case h2 => walk_at "ev"); (case h3 => walk_at "ev"))
  | ((with_reducible refine' ev_tup ?h1 ?h2); (case h1 => walk_at "ev"); (case h2 => walk_at "len"))
  | ((with_reducible refine' ev_L ?h1); (case h1 => walk_at "ev"))
  | ((with_reducible refine' ev_lst ?h1 ?h2); (case h1 => walk_at "ev"); (case h2 => walk_at "len"))
  | ((with_reducible refine' ev_not ?h1); (case h1 => walk_at "ev"))
  | ((with_reducible refine' ev_and0 ?h1); (case h1 => walk_at "ev"))
  | ((with_reducible refine' ev_and ?h1 ?h2); (case h1 => walk_at "ev"); (case h2 => (intro hq; (try simp only [decide_eq_true_eq, decide_eq_false_iff_not, Bool.not_eq_true', Bool.not_eq_false'] at hq); walk_at "ev")))
  | ((with_reducible refine' ev_or1 ?h1); (case h1 => walk_at "ev"))
  | ((with_reducible refine' ev_or ?h1 ?h2); (case h1 => walk_at "ev"); (case h2 => (intro hq; (try simp only [decide_eq_true_eq, decide_eq_false_iff_not, Bool.not_eq_true', Bool.not_eq_false'] at hq); walk_at "ev")))
  | ((with_reducible refine' ev_eNot ?h1); (case h1 => walk_at "ev"))
  | ((with_reducible refine' ev_eAnd0 ?h1); (case h1 => walk_at "ev"))
  | ((with_reducible refine' ev_eAnd ?h1 ?h2); (case h1 => walk_at "ev"); (case h2 => (intro hq; (try simp only [decide_eq_true_eq, decide_eq_false_iff_not, Bool.not_eq_true', Bool.not_eq_false'] at hq); walk_at "ev")))
  | ((with_reducible refine' ev_eOr1 ?h1); (case h1 => walk_at "ev"))
  | ((with_reducible refine' ev_eOr ?h1 ?h2); (case h1 => walk_at "ev"); (case h2 => (intro hq; (try simp only [decide_eq_true_eq, decide_eq_false_iff_not, Bool.not_eq_true', Bool.not_eq_false'] at hq); walk_at "ev")))
  | ((with_reducible refine' ev_e1 ?h1 ?h2); (case h1 => walk_at "ev"); (case h2 => walk_at "op"))
  | ((with_reducible refine' ev_copy ?h1 ?h2); (case h1 => walk_at "ev"); (case h2 => exact rfl))
  | ((with_reducible refine' ev_ch ?h1 ?h2 ?h3 ?h4 ?h5); (case h1 => walk_at "ev"); (case h2 => walk_at "ev"); (case h3 => walk_at "op"); (case h4 => (intro hq; (try simp only [decide_eq_true_eq, decide_eq_false_iff_not, Bool.not_eq_true', Bool.not_eq_false'] at hq); walk_at "ev")); (case h5 => (intro _; walk_at "op")))
  | ((with_reducible refine' ev_lc ?h1 ?h2 ?h3 ?h4); (case h1 => walk_at "ev"); (case h2 => walk_at "its"); (case h3 => walk_at "len"); (case h4 => (intro _ _; exact ⟨_, rfl, by walk_at "ev"⟩)))
  | ((with_reducible refine' ev_lcR ?h1 ?h2 ?h3 ?h4); (case h1 => walk_at "ev"); (case h2 => walk_at "rng"); (case h3 => walk_at "len"); (case h4 => (intro _ _; exact ⟨_, rfl, by walk_at "ev"⟩)))
  | ((with_reducible refine' ev_cat ?h1 ?h2 ?h3); (case h1 => walk_at "ev"); (case h2 => walk_at "ev"); (case h3 => walk_at "len"))
  | ((with_reducible refine' ev_ownLen ?h1); (case h1 => exact rfl))
  | ((with_reducible refine' ev_ownAt ?h1 ?h2 ?h3); (case h1 => exact rfl); (case h2 => walk_at "ev"); (case h3 => walk_at "op"))
  | with_reducible assumption)
local macro_rules | `(tactic| walk_at "len") => `(tactic| first
  | ((simp only [List.length_map, List.length_cons, List.length_nil, List.length_append, List.length_range]) <;> walk_at "num")
  | walk_at "num")
local macro_rules | `(tactic| walk_at "its") => `(tactic| first
  | with_reducible exact its_map
  | with_reducible exact its_map2
  | exact rfl)
local macro_rules | `(tactic| walk_at "rng") => `(tactic| first
  | ((with_reducible refine rng1 ?_ ?_) <;> walk_at "num")
  | ((with_reducible refine rng2 ?_ ?_ ?_ ?_) <;> walk_at "num"))
local macro_rules | `(tactic| walk_at "es") => `(tactic| simp (config := {failIfUnchanged := false}) only [List.set_cons_zero, List.set_cons_succ])
local macro_rules | `(tactic| walk_at "start") => `(tactic| (simp only [List.map_cons, List.map_nil, List.cons_append, List.nil_append, List.length_cons, List.length_nil, Nat.reduceAdd, Nat.reduceSub, List.replicate_succ, List.replicate_zero]))
local macro_rules | `(tactic| walk_at "st1") => `(tactic| first
  | ((with_reducible refine' wo_seq ?k))
  | ((with_reducible refine' wo_ift ?h ?e ?k); (case h => walk_at "ev"); (case e => simp only [beq_self_eq_true, Bool.true_beq, Bool.false_beq, decide_eq_true_eq, decide_eq_false_iff_not, Bool.not_eq_true', Bool.not_eq_false', Bool.or_eq_true, Bool.and_eq_true, Bool.or_eq_false_iff, Bool.and_eq_false_imp, Bool.not_true, Bool.not_false, Bool.false_or, Bool.or_false, Bool.true_or, Bool.or_true, Bool.true_and, Bool.and_true, Bool.false_and, Bool.and_false, Bool.true_eq_false, Bool.false_eq_true, decide_true, decide_false, reduceCtorEq, D.isNone, Int.not_lt, Int.not_le, ne_eq, Decidable.not_not, not_true_eq_false, not_false_eq_true, false_implies, true_implies, implies_true, and_true, true_and, and_false, false_and, or_true, true_or, or_false, false_or, reduceIte, eq_self]))
  | ((with_reducible refine' wo_iff ?h ?e ?k); (case h => walk_at "ev"); (case e => simp only [beq_self_eq_true, Bool.true_beq, Bool.false_beq, decide_eq_true_eq, decide_eq_false_iff_not, Bool.not_eq_true', Bool.not_eq_false', Bool.or_eq_true, Bool.and_eq_true, Bool.or_eq_false_iff, Bool.and_eq_false_imp, Bool.not_true, Bool.not_false, Bool.false_or, Bool.or_false, Bool.true_or, Bool.or_true, Bool.true_and, Bool.and_true, Bool.false_and, Bool.and_false, Bool.true_eq_false, Bool.false_eq_true, decide_true, decide_false, reduceCtorEq, D.isNone, Int.not_lt, Int.not_le, ne_eq, Decidable.not_not, not_true_eq_false, not_false_eq_true, false_implies, true_implies, implies_true, and_true, true_and, and_false, false_and, or_true, true_or, or_false, false_or, reduceIte, eq_self]))
  | (((with_reducible refine' wo_asg ?h1 ?k); (case h1 => walk_at "ev")); walk_at "es")
  | ((with_reducible refine' wo_ret ?h1 ?k); (case h1 => walk_at "ev"))
  | (((with_reducible refine' wo_tgt ?h1 ?h2 ?k); (case h1 => walk_at "ev"); (case h2 => exact rfl)); walk_at "es")
  | ((with_reducible refine' wo_nil ?k))
  | ((with_reducible refine' wo_raise ?k))
  | (((with_reducible refine' wo_own ?h1 ?k); (case h1 => walk_at "ev")); walk_at "es")
  | (((with_reducible refine' wo_asgL ?h1 ?k); (case h1 => walk_at "ev")); walk_at "es")
  | (((with_reducible refine' wo_app ?h1 ?h2 ?h3 ?k); (case h1 => exact rfl); (case h2 => walk_at "ev"); (case h3 => walk_at "len")); walk_at "es")
  | (((with_reducible refine' wo_par ?h1 ?h2 ?k); (case h1 => walk_at "ev"); (case h2 => walk_at "ev")); walk_at "es")
  | ((with_reducible refine wo_frz ?_); simp only [frz, List.getElem?_cons_zero, List.getElem?_cons_succ, List.set_cons_zero, List.set_cons_succ]))
local macro_rules | `(tactic| walk_at "st") => `(tactic| (walk_at "st1"; try dsimp only))
local macro_rules | `(tactic| walk_at "hs") => `(tactic| ((try simp only [beq_self_eq_true, Bool.true_beq, Bool.false_beq, decide_eq_true_eq, decide_eq_false_iff_not, Bool.not_eq_true', Bool.not_eq_false', Bool.or_eq_true, Bool.and_eq_true, Bool.or_eq_false_iff, Bool.and_eq_false_imp, Bool.not_true, Bool.not_false, Bool.false_or, Bool.or_false, Bool.true_or, Bool.or_true, Bool.true_and, Bool.and_true, Bool.false_and, Bool.and_false, Bool.true_eq_false, Bool.false_eq_true, decide_true, decide_false, reduceCtorEq, D.isNone, Int.not_lt, Int.not_le, ne_eq, Decidable.not_not, not_true_eq_false, not_false_eq_true, false_implies, true_implies, implies_true, and_true, true_and, and_false, false_and, or_true, true_or, or_false, false_or, reduceIte, eq_self]); exact rfl))
local macro_rules | `(tactic| walk_at "fls") => `(tactic| first | (with_reducible exact False.elim) | (with_reducible refine fun (_ : True) => ?_) | skip)
local macro_rules | `(tactic| walk_at "if") => `(tactic| ((with_reducible refine' wo_ifx ?h ?e1 ?e2 ?k1 ?k2); (case h => walk_at "ev"); (case e1 => walk_at "hs"); (case e2 => walk_at "hs"); (case' k1 => walk_at "fls"); (case' k2 => walk_at "fls")))
local macro_rules | `(tactic| walk_at "tt") => `(tactic| (try simp only [beq_self_eq_true, Bool.true_beq, Bool.false_beq, decide_eq_true_eq, decide_eq_false_iff_not, Bool.not_eq_true', Bool.not_eq_false', Bool.or_eq_true, Bool.and_eq_true, Bool.or_eq_false_iff, Bool.and_eq_false_imp, Bool.not_true, Bool.not_false, Bool.false_or, Bool.or_false, Bool.true_or, Bool.or_true, Bool.true_and, Bool.and_true, Bool.false_and, Bool.and_false, Bool.true_eq_false, Bool.false_eq_true, decide_true, decide_false, reduceCtorEq, D.isNone, Int.not_lt, Int.not_le, ne_eq, Decidable.not_not, not_true_eq_false, not_false_eq_true, false_implies, true_implies, implies_true, and_true, true_and, and_false, false_and, or_true, true_or, or_false, false_or, reduceIte, eq_self]))
local macro_rules | `(tactic| walk_at "hc") => `(tactic| simp only [beq_self_eq_true, Bool.true_beq, Bool.false_beq, decide_eq_true_eq, decide_eq_false_iff_not, Bool.not_eq_true', Bool.not_eq_false', Bool.or_eq_true, Bool.and_eq_true, Bool.or_eq_false_iff, Bool.and_eq_false_imp, Bool.not_true, Bool.not_false, Bool.false_or, Bool.or_false, Bool.true_or, Bool.or_true, Bool.true_and, Bool.and_true, Bool.false_and, Bool.and_false, Bool.true_eq_false, Bool.false_eq_true, decide_true, decide_false, reduceCtorEq, D.isNone, Int.not_lt, Int.not_le, ne_eq, Decidable.not_not, not_true_eq_false, not_false_eq_true, false_implies, true_implies, implies_true, and_true, true_and, and_false, false_and, or_true, true_or, or_false, false_or, reduceIte, eq_self] at *)
local macro_rules | `(tactic| walk_at "sts") => `(tactic| (walk_at "st"; try (walk_at "st"; try (walk_at "st"; try (walk_at "st"; try (walk_at "st"; try (walk_at "st"; try (walk_at "st"; try (walk_at "st"; try (walk_at "st"; try (walk_at "st"; try (walk_at "st"; try (walk_at "st"; try (walk_at "st"; try (walk_at "st"; try (walk_at "st"; try (walk_at "st"; try (walk_at "st"; try (walk_at "st"; try (walk_at "st"; try (walk_at "st"; try (walk_at "st"; try (walk_at "st"; try (walk_at "st"; try (walk_at "st"; try (walk_at "st"; try (walk_at "st"; try (walk_at "st"; try (walk_at "st"; try (walk_at "st"; try (walk_at "st"; try (walk_at "st"; try (walk_at "st"; try (walk_at "st"; try (walk_at "st"; try (walk_at "st"; try (walk_at "st"; try (walk_at "st"; try (walk_at "st"; try (walk_at "st"; try (walk_at "st"; try (walk_at "st"))))))))))))))))))))))))))))))))))))))))))
def lfs (s : Pt × Pt) (x y w : Int) : Int := (s.2.1 - s.1.1) * (y - s.1.2 * w) - (s.2.2 - s.1.2) * (x - s.1.1 * w)
def whereL (x y w : Int) : List (Pt × Pt) → Int → Int
  | [], t => t
  | s :: r, t => if lfs s x y w < 0 then -1 else whereL x y w r (if lfs s x y w = 0 then 0 else t)
theorem side_bd {n : Nat} {C : List Pt} (h : ∀ q ∈ C, BdP n q) (hc : 0 < C.length) : ∀ s ∈ sidesP C, BdP n s.1 ∧ BdP n s.2 := fun s hs => by
  obtain ⟨k, _, rfl⟩ := List.mem_map.mp hs
  exact ⟨bd_cy h hc k, bd_cy h hc (k + 1)⟩
end Law
namespace Law
open PySem PySem.Spec PyProof.Rows L2 GD Hl
local macro_rules | `(tactic| walk_at "gd") => `(tactic| simp (config := {failIfUnchanged := false}) only [runF, sSeq, sIf, sAsg, sRet, sRetN, sExpr, sNil, sRaise, sPar, sTgt, sFor, sForR, sWhile, eVar, eC, e1, e2, mB, aNil, aCons, eF, eB, eTup, aLst, eL, mNot, mAnd, mOr, eNot, eAnd, eOr, gNm, gTp, gsNil, gsCons, asL, asT,
  bind_ok, bind_er, bind_st, ofO_some, asB_bl, ofR_ok, ofR_er, dAdd_int, dSub_int, dNeg_int, dLt_int, dLe_int, dGt_int, dGe_int, dEq_int, dNe_int, dEq_bl, dMod_int, dDiv_lit, dMul_int, Int.reduceLT, Int.reduceEq, Int.cast_ofNat_Int, eq_self, line_le, Nat.reduceLeDiff,  dIs_non, dIsNot_non, dAt_t0, dAt_t1, dAt_t2, dAt_l0, dAt_l1, dAt_l2, dAt_l3, dAt_l4, dAt_l5, dAt_l6, dAt_l7, dAbs, dMax2, dMin2, dLen,
  List.getElem?_cons_zero, List.getElem?_cons_succ, List.set_cons_zero, List.set_cons_succ, List.map_cons, List.map_nil, List.length_cons, List.length_nil, List.cons_append, List.nil_append, List.replicate_succ, List.replicate_zero, Nat.reduceSub, Nat.reduceAdd,
  decide_eq_true_eq, Bool.not_eq_true', if_true, if_false, ite_true, ite_false, Option.bind_some, Option.map_some, Bool.not_true, Bool.not_false, reduceIte, Bool.false_eq_true, Bool.true_eq_false, decide_true, decide_false])
local macro_rules | `(tactic| walk_at "gdh") => `(tactic| simp (config := {failIfUnchanged := false}) only [runF, sSeq, sIf, sAsg, sRet, sRetN, sExpr, sNil, sRaise, sPar, sTgt, sFor, sForR, sWhile, eVar, eC, e1, e2, mB, aNil, aCons, eF, eB, eTup, aLst, eL, mNot, mAnd, mOr, eNot, eAnd, eOr, gNm, gTp, gsNil, gsCons, asL, asT,
  bind_ok, bind_er, bind_st, ofO_some, asB_bl, ofR_ok, ofR_er, dAdd_int, dSub_int, dNeg_int, dLt_int, dLe_int, dGt_int, dGe_int, dEq_int, dNe_int, dEq_bl, dMod_int, dDiv_lit, dMul_int, Int.reduceLT, Int.reduceEq, Int.cast_ofNat_Int, eq_self, line_le, Nat.reduceLeDiff,  dIs_non, dIsNot_non, dAt_t0, dAt_t1, dAt_t2, dAt_l0, dAt_l1, dAt_l2, dAt_l3, dAt_l4, dAt_l5, dAt_l6, dAt_l7, dAbs, dMax2, dMin2, dLen,
  List.getElem?_cons_zero, List.getElem?_cons_succ, List.set_cons_zero, List.set_cons_succ, List.map_cons, List.map_nil, List.length_cons, List.length_nil, List.cons_append, List.nil_append, List.replicate_succ, List.replicate_zero, Nat.reduceSub, Nat.reduceAdd,
  decide_eq_true_eq, Bool.not_eq_true', if_true, if_false, ite_true, ite_false, Option.bind_some, Option.map_some, Bool.not_true, Bool.not_false, reduceIte, Bool.false_eq_true, Bool.true_eq_false, decide_true, decide_false, *])
theorem dot_nrm (a b c : Pt) : dotp c (nrm a b) = dotp a (nrm a b) - bnd a b c := by unfold dotp nrm bnd; grind
theorem dot_nrm2 (a b : Pt) : dotp b (nrm a b) = dotp a (nrm a b) := by rw [dot_nrm, bnd_self2]; omega
end Law
namespace Law
open PySem PySem.Spec PyProof.Rows L2 GD Hl
local macro_rules | `(tactic| walk_at "bd") => `(tactic| first
  | with_reducible assumption
  | with_reducible exact Bd.litO _
  | ((with_reducible refine' Bd.mul ?h ?g); (case h => walk_at "bd"); (case g => walk_at "bd"))
  | ((with_reducible refine' Bd.add ?h ?g); (case h => walk_at "bd"); (case g => walk_at "bd"))
  | ((with_reducible refine' Bd.sub ?h ?g); (case h => walk_at "bd"); (case g => walk_at "bd"))
  | ((with_reducible refine' Bd.neg ?h); (case h => walk_at "bd"))
  | ((with_reducible refine' Bd.emod ?h); (case h => walk_at "pos"))
  | ((with_reducible refine' Bd.ediv ?h); (case h => walk_at "bd"))
  | ((with_reducible refine' bd_fT ?h); (case h => walk_at "bd"))
  | ((with_reducible refine' bd_fB ?h); (case h => walk_at "bd"))
  | ((with_reducible refine' bd_sX ?h); (case h => walk_at "bd"))
  | ((with_reducible refine' bd_sY ?h); (case h => walk_at "bd"))
  | ((with_reducible refine' bd_sW ?h); (case h => walk_at "bd"))
  | ((with_reducible refine' bd_abs ?h); (case h => walk_at "bd"))
  | ((with_reducible refine' BdP.a ?h); (case h => walk_at "bdq"))
  | ((with_reducible refine' BdP.b ?h); (case h => walk_at "bdq"))
  | with_reducible exact bd_ite1
  | ((with_reducible refine' bd_ite ?h ?g); (case h => walk_at "bd"); (case g => walk_at "bd")))
local macro_rules | `(tactic| walk_at "pos") => `(tactic| first
  | with_reducible assumption
  | decide
  | omega)
local macro_rules | `(tactic| walk_at "bdq") => `(tactic| first
  | with_reducible assumption
  | ((with_reducible refine' bd_cy ?h ?g _); (case h => with_reducible assumption); (case g => first | with_reducible assumption | omega))
  | ((with_reducible refine' bd_mem ?h ?g); (case g => with_reducible assumption); (case h => with_reducible assumption))
  | ((with_reducible refine' bd_get ?h); (case h => with_reducible assumption)))
local macro_rules | `(tactic| walk_at "bdp") => `(tactic| first
  | walk_at "bdq"
  | ((with_reducible refine' BdP.mk ?h ?g); (case h => walk_at "bd"); (case g => walk_at "bd")))
local macro_rules | `(tactic| walk_at "num") => `(tactic| first
  | with_reducible assumption
  | omega
  | decide +kernel
  | (simp only [Nat.reduceLog2]; omega))
local macro_rules | `(tactic| walk_at "dis") => `(tactic| first
  | with_reducible assumption
  | ((with_reducible refine' mok ?h ?g ?l); (case h => walk_at "bd"); (case g => walk_at "bd"); (case l => walk_at "num"))
  | ((with_reducible refine' Bd.mono ?h ?l); (case h => walk_at "bd"); (case l => walk_at "num"))
  | ((with_reducible refine' BdP.mono ?h ?l); (case h => walk_at "bdp"); (case l => walk_at "num"))
  | ((with_reducible show divOk _); first | with_reducible assumption | decide +kernel | (refine' dok ?p ?h ?l; (case p => first | with_reducible assumption | omega); (case h => walk_at "bd"); (case l => walk_at "num")))
  | omega)
local macro_rules | `(tactic| walk_at "op") => `(tactic| first
  | with_reducible exact dAdd_int _ _
  | with_reducible exact dSub_int _ _
  | ((with_reducible refine dMul_int ?_); walk_at "dis")
  | with_reducible exact dAt_pp0 _ _
  | with_reducible exact dAt_pp1 _ _
  | with_reducible exact dAt_p0 _
  | with_reducible exact dAt_p1 _
  | with_reducible exact dAt_t0
  | with_reducible exact dAt_t1
  | with_reducible exact dAt_t2
  | with_reducible exact dAt_q0 _ _ _
  | with_reducible exact dAt_q1 _ _ _
  | with_reducible exact dAt_q2 _ _ _
  | with_reducible exact dAt_f0 _ _
  | with_reducible exact dAt_f1 _ _
  | with_reducible exact dLt_int _ _
  | with_reducible exact dLe_int _ _
  | with_reducible exact dGt_int _ _
  | with_reducible exact dGe_int _ _
  | with_reducible exact dEq_int _ _
  | with_reducible exact dNe_int _ _
  | ((with_reducible refine dMod_int ?_); walk_at "dis")
  | ((with_reducible refine dDiv_int ?_); walk_at "dis")
  | with_reducible exact dNeg_int _
  | with_reducible exact dIs_non _
  | with_reducible exact dIsNot_non _
  | with_reducible exact dAbs_int _
  | with_reducible exact dMax2_int _ _
  | with_reducible exact dMin2_int _ _
  | with_reducible exact dInt_bl _
  | with_reducible exact dLen_pts _
  | with_reducible exact dEq_pt _ _
  | with_reducible exact dNe_pt _ _
  | with_reducible exact dEq_pts _ _
  | with_reducible exact dNe_pts _ _
  | with_reducible exact dNe_bl _ _
  | with_reducible exact dEq_bl _ _
  | with_reducible exact dEq_D3 _ _ _ _ _ _
  | with_reducible exact dNe_D3 _ _ _ _ _ _
  | with_reducible exact dEq_np _
  | with_reducible exact dNe_np _
  | ((with_reducible refine at_last ?_); walk_at "dis")
  | with_reducible exact dAt_l0
  | with_reducible exact dAt_l1
  | with_reducible exact dAt_l2
  | with_reducible exact dAt_l3
  | with_reducible exact dAt_l4
  | with_reducible exact dAt_l5
  | with_reducible exact dAt_l6
  | with_reducible exact dAt_l7
  | ((with_reducible refine' dNe_self ?h ?l); (case h => walk_at "shp"); (case l => decide))
  | ((with_reducible refine' dEq_self ?h ?l); (case h => walk_at "shp"); (case l => decide))
  | with_reducible assumption
  | exact isi_int _ _ _ _ rfl kb_tuple_tuple
  | exact isi_int _ _ _ _ rfl kb_list_list
  | exact isi_int _ _ _ _ rfl kb_int_int
  | exact isi_int _ _ _ _ rfl kb_bool_bool
  | exact isi_int _ _ _ _ rfl kb_int_bool
  | exact isi_int _ _ _ _ rfl kb_list_tuple
  | exact isi_int _ _ _ _ rfl kb_tuple_list
  | with_reducible rfl)
local macro_rules | `(tactic| walk_at "shp") => `(tactic| first
  | with_reducible exact shp_int _
  | with_reducible exact shp_bl _
  | with_reducible exact shp_non
  | with_reducible exact shp_pt _
  | with_reducible exact shp_pts _
  | with_reducible exact shp_D2 _ _
  | with_reducible exact shp_fr _ _
  | with_reducible exact shp_D3 _ _ _
  | with_reducible exact shp_sp _ _ _
  | with_reducible exact shp_nilL
  | with_reducible exact shp_nilT
  | ((with_reducible refine' shp_consL ?h ?g); (case h => walk_at "shp"); (case g => walk_at "shp"))
  | ((with_reducible refine' shp_consT ?h ?g); (case h => walk_at "shp"); (case g => walk_at "shp"))
  | with_reducible assumption)
local macro_rules | `(tactic| walk_at "fn") => `(tactic| first
  | with_reducible assumption
  | with_reducible exact whole_int _
  | with_reducible exact divisor_eq _ _
  | with_reducible exact common_eq _ _)
local macro_rules | `(tactic| walk_at "ev") => `(tactic| first
  | with_reducible exact ev_c _
  | ((with_reducible refine' ev_var ?h1); (case h1 => exact rfl))
  | ((with_reducible refine' ev_e2 ?h1 ?h2 ?h3); (case h1 => walk_at "ev"); (case h2 => walk_at "ev"); (case h3 => walk_at "op"))
  | with_reducible exact ev_nil
  | ((with_reducible refine' ev_cons ?h1 ?h2); (case h1 => walk_at "ev"); (case h2 => walk_at "ev"))
  | ((with_reducible refine' ev_F ?h1 ?h2); (case h1 => walk_at "ev"); (case h2 => walk_at "fn"))
  | ((with_reducible refine' ev_mB ?h1); (case h1 => walk_at "ev"))
  | ((with_reducible refine' ev_B ?h1 ?h2); (case h1 => walk_at "ev"); (case h2 => walk_at "op"))
  | ((with_reducible refine' ev_tup2 ?h1 ?h2); (case h1 => walk_at "ev"); (case h2 => walk_at "ev"))
  | ((with_reducible refine' ev_tup3 ?h1 ?h2 ?h3); (case h1 => walk_at "ev"); (case h2 => walk_at "ev"); (case h3 => walk_at "ev"))
  | ((with_reducible refine' ev_tup ?h1 ?h2); (case h1 => walk_at "ev"); (case h2 => walk_at "len"))
  | ((with_reducible refine' ev_L ?h1); (case h1 => walk_at "ev"))
  | ((with_reducible refine' ev_lst ?h1 ?h2); (case h1 => walk_at "ev"); (case h2 => walk_at "len"))
  | ((with_reducible refine' ev_not ?h1); (case h1 => walk_at "ev"))
  | ((with_reducible refine' ev_and0 ?h1); (case h1 => walk_at "ev"))
  | ((with_reducible refine' ev_and ?h1 ?h2); (case h1 => walk_at "ev"); (case h2 => (intro hq; (try simp only [decide_eq_true_eq, decide_eq_false_iff_not, Bool.not_eq_true', Bool.not_eq_false'] at hq); walk_at "ev")))
  | ((with_reducible refine' ev_or1 ?h1); (case h1 => walk_at "ev"))
  | ((with_reducible refine' ev_or ?h1 ?h2); (case h1 => walk_at "ev"); (case h2 => (intro hq; (try simp only [decide_eq_true_eq, decide_eq_false_iff_not, Bool.not_eq_true', Bool.not_eq_false'] at hq); walk_at "ev")))
  | ((with_reducible refine' ev_eNot ?h1); (case h1 => walk_at "ev"))
  | ((with_reducible refine' ev_eAnd0 ?h1); (case h1 => walk_at "ev"))
  | ((with_reducible refine' ev_eAnd ?h1 ?h2); (case h1 => walk_at "ev"); (case h2 => (intro hq; (try simp only [decide_eq_true_eq, decide_eq_false_iff_not, Bool.not_eq_true', Bool.not_eq_false'] at hq); walk_at "ev")))
  | ((with_reducible refine' ev_eOr1 ?h1); (case h1 => walk_at "ev"))
  | ((with_reducible refine' ev_eOr ?h1 ?h2); (case h1 => walk_at "ev"); (case h2 => (intro hq; (try simp only [decide_eq_true_eq, decide_eq_false_iff_not, Bool.not_eq_true', Bool.not_eq_false'] at hq); walk_at "ev")))
  | ((with_reducible refine' ev_e1 ?h1 ?h2); (case h1 => walk_at "ev"); (case h2 => walk_at "op"))
  | ((with_reducible refine' ev_copy ?h1 ?h2); (case h1 => walk_at "ev"); (case h2 => exact rfl))
  | ((with_reducible refine' ev_ch ?h1 ?h2 ?h3 ?h4 ?h5); (case h1 => walk_at "ev"); (case h2 => walk_at "ev"); (case h3 => walk_at "op"); (case h4 => (intro hq; (try simp only [decide_eq_true_eq, decide_eq_false_iff_not, Bool.not_eq_true', Bool.not_eq_false'] at hq); walk_at "ev")); (case h5 => (intro _; walk_at "op")))
  | ((with_reducible refine' ev_lc ?h1 ?h2 ?h3 ?h4); (case h1 => walk_at "ev"); (case h2 => walk_at "its"); (case h3 => walk_at "len"); (case h4 => (intro _ _; exact ⟨_, rfl, by walk_at "ev"⟩)))
  | ((with_reducible refine' ev_lcR ?h1 ?h2 ?h3 ?h4); (case h1 => walk_at "ev"); (case h2 => walk_at "rng"); (case h3 => walk_at "len"); (case h4 => (intro _ _; exact ⟨_, rfl, by walk_at "ev"⟩)))
  | ((with_reducible refine' ev_cat ?h1 ?h2 ?h3); (case h1 => walk_at "ev"); (case h2 => walk_at "ev"); (case h3 => walk_at "len"))
  | ((with_reducible refine' ev_ownLen ?h1); (case h1 => exact rfl))
  | ((with_reducible refine' ev_ownAt ?h1 ?h2 ?h3); (case h1 => exact rfl); (case h2 => walk_at "ev"); (case h3 => walk_at "op"))
  | with_reducible assumption)
local macro_rules | `(tactic| walk_at "len") => `(tactic| first
  | ((simp only [List.length_map, List.length_cons, List.length_nil, List.length_append, List.length_range]) <;> walk_at "num")
  | walk_at "num")
local macro_rules | `(tactic| walk_at "its") => `(tactic| first
  | with_reducible exact its_map
  | with_reducible exact its_map2
  | exact rfl)
local macro_rules | `(tactic| walk_at "rng") => `(tactic| first
  | ((with_reducible refine rng1 ?_ ?_) <;> walk_at "num")
  | ((with_reducible refine rng2 ?_ ?_ ?_ ?_) <;> walk_at "num"))
local macro_rules | `(tactic| walk_at "es") => `(tactic| simp (config := {failIfUnchanged := false}) only [List.set_cons_zero, List.set_cons_succ])
local macro_rules | `(tactic| walk_at "start") => `(tactic| (simp only [List.map_cons, List.map_nil, List.cons_append, List.nil_append, List.length_cons, List.length_nil, Nat.reduceAdd, Nat.reduceSub, List.replicate_succ, List.replicate_zero]))
local macro_rules | `(tactic| walk_at "st1") => `(tactic| first
  | ((with_reducible refine' wo_seq ?k))
  | ((with_reducible refine' wo_ift ?h ?e ?k); (case h => walk_at "ev"); (case e => simp only [beq_self_eq_true, Bool.true_beq, Bool.false_beq, decide_eq_true_eq, decide_eq_false_iff_not, Bool.not_eq_true', Bool.not_eq_false', Bool.or_eq_true, Bool.and_eq_true, Bool.or_eq_false_iff, Bool.and_eq_false_imp, Bool.not_true, Bool.not_false, Bool.false_or, Bool.or_false, Bool.true_or, Bool.or_true, Bool.true_and, Bool.and_true, Bool.false_and, Bool.and_false, Bool.true_eq_false, Bool.false_eq_true, decide_true, decide_false, reduceCtorEq, D.isNone, Int.not_lt, Int.not_le, ne_eq, Decidable.not_not, not_true_eq_false, not_false_eq_true, false_implies, true_implies, implies_true, and_true, true_and, and_false, false_and, or_true, true_or, or_false, false_or, reduceIte, eq_self]))
  | ((with_reducible refine' wo_iff ?h ?e ?k); (case h => walk_at "ev"); (case e => simp only [beq_self_eq_true, Bool.true_beq, Bool.false_beq, decide_eq_true_eq, decide_eq_false_iff_not, Bool.not_eq_true', Bool.not_eq_false', Bool.or_eq_true, Bool.and_eq_true, Bool.or_eq_false_iff, Bool.and_eq_false_imp, Bool.not_true, Bool.not_false, Bool.false_or, Bool.or_false, Bool.true_or, Bool.or_true, Bool.true_and, Bool.and_true, Bool.false_and, Bool.and_false, Bool.true_eq_false, Bool.false_eq_true, decide_true, decide_false, reduceCtorEq, D.isNone, Int.not_lt, Int.not_le, ne_eq, Decidable.not_not, not_true_eq_false, not_false_eq_true, false_implies, true_implies, implies_true, and_true, true_and, and_false, false_and, or_true, true_or, or_false, false_or, reduceIte, eq_self]))
  | (((with_reducible refine' wo_asg ?h1 ?k); (case h1 => walk_at "ev")); walk_at "es")
  | ((with_reducible refine' wo_ret ?h1 ?k); (case h1 => walk_at "ev"))
  | (((with_reducible refine' wo_tgt ?h1 ?h2 ?k); (case h1 => walk_at "ev"); (case h2 => exact rfl)); walk_at "es")
  | ((with_reducible refine' wo_nil ?k))
  | ((with_reducible refine' wo_raise ?k))
  | (((with_reducible refine' wo_own ?h1 ?k); (case h1 => walk_at "ev")); walk_at "es")
  | (((with_reducible refine' wo_asgL ?h1 ?k); (case h1 => walk_at "ev")); walk_at "es")
  | (((with_reducible refine' wo_app ?h1 ?h2 ?h3 ?k); (case h1 => exact rfl); (case h2 => walk_at "ev"); (case h3 => walk_at "len")); walk_at "es")
  | (((with_reducible refine' wo_par ?h1 ?h2 ?k); (case h1 => walk_at "ev"); (case h2 => walk_at "ev")); walk_at "es")
  | ((with_reducible refine wo_frz ?_); simp only [frz, List.getElem?_cons_zero, List.getElem?_cons_succ, List.set_cons_zero, List.set_cons_succ]))
local macro_rules | `(tactic| walk_at "st") => `(tactic| (walk_at "st1"; try dsimp only))
local macro_rules | `(tactic| walk_at "hs") => `(tactic| ((try simp only [beq_self_eq_true, Bool.true_beq, Bool.false_beq, decide_eq_true_eq, decide_eq_false_iff_not, Bool.not_eq_true', Bool.not_eq_false', Bool.or_eq_true, Bool.and_eq_true, Bool.or_eq_false_iff, Bool.and_eq_false_imp, Bool.not_true, Bool.not_false, Bool.false_or, Bool.or_false, Bool.true_or, Bool.or_true, Bool.true_and, Bool.and_true, Bool.false_and, Bool.and_false, Bool.true_eq_false, Bool.false_eq_true, decide_true, decide_false, reduceCtorEq, D.isNone, Int.not_lt, Int.not_le, ne_eq, Decidable.not_not, not_true_eq_false, not_false_eq_true, false_implies, true_implies, implies_true, and_true, true_and, and_false, false_and, or_true, true_or, or_false, false_or, reduceIte, eq_self]); exact rfl))
local macro_rules | `(tactic| walk_at "fls") => `(tactic| first | (with_reducible exact False.elim) | (with_reducible refine fun (_ : True) => ?_) | skip)
local macro_rules | `(tactic| walk_at "if") => `(tactic| ((with_reducible refine' wo_ifx ?h ?e1 ?e2 ?k1 ?k2); (case h => walk_at "ev"); (case e1 => walk_at "hs"); (case e2 => walk_at "hs"); (case' k1 => walk_at "fls"); (case' k2 => walk_at "fls")))
local macro_rules | `(tactic| walk_at "tt") => `(tactic| (try simp only [beq_self_eq_true, Bool.true_beq, Bool.false_beq, decide_eq_true_eq, decide_eq_false_iff_not, Bool.not_eq_true', Bool.not_eq_false', Bool.or_eq_true, Bool.and_eq_true, Bool.or_eq_false_iff, Bool.and_eq_false_imp, Bool.not_true, Bool.not_false, Bool.false_or, Bool.or_false, Bool.true_or, Bool.or_true, Bool.true_and, Bool.and_true, Bool.false_and, Bool.and_false, Bool.true_eq_false, Bool.false_eq_true, decide_true, decide_false, reduceCtorEq, D.isNone, Int.not_lt, Int.not_le, ne_eq, Decidable.not_not, not_true_eq_false, not_false_eq_true, false_implies, true_implies, implies_true, and_true, true_and, and_false, false_and, or_true, true_or, or_false, false_or, reduceIte, eq_self]))
local macro_rules | `(tactic| walk_at "hc") => `(tactic| simp only [beq_self_eq_true, Bool.true_beq, Bool.false_beq, decide_eq_true_eq, decide_eq_false_iff_not, Bool.not_eq_true', Bool.not_eq_false', Bool.or_eq_true, Bool.and_eq_true, Bool.or_eq_false_iff, Bool.and_eq_false_imp, Bool.not_true, Bool.not_false, Bool.false_or, Bool.or_false, Bool.true_or, Bool.or_true, Bool.true_and, Bool.and_true, Bool.false_and, Bool.and_false, Bool.true_eq_false, Bool.false_eq_true, decide_true, decide_false, reduceCtorEq, D.isNone, Int.not_lt, Int.not_le, ne_eq, Decidable.not_not, not_true_eq_false, not_false_eq_true, false_implies, true_implies, implies_true, and_true, true_and, and_false, false_and, or_true, true_or, or_false, false_or, reduceIte, eq_self] at *)
local macro_rules | `(tactic| walk_at "sts") => `(tactic| (walk_at "st"; try (walk_at "st"; try (walk_at "st"; try (walk_at "st"; try (walk_at "st"; try (walk_at "st"; try (walk_at "st"; try (walk_at "st"; try (walk_at "st"; try (walk_at "st"; try (walk_at "st"; try (walk_at "st"; try (walk_at "st"; try (walk_at "st"; try (walk_at "st"; try (walk_at "st"; try (walk_at "st"; try (walk_at "st"; try (walk_at "st"; try (walk_at "st"; try (walk_at "st"; try (walk_at "st"; try (walk_at "st"; try (walk_at "st"; try (walk_at "st"; try (walk_at "st"; try (walk_at "st"; try (walk_at "st"; try (walk_at "st"; try (walk_at "st"; try (walk_at "st"; try (walk_at "st"; try (walk_at "st"; try (walk_at "st"; try (walk_at "st"; try (walk_at "st"; try (walk_at "st"; try (walk_at "st"; try (walk_at "st"; try (walk_at "st"; try (walk_at "st"))))))))))))))))))))))))))))))))))))))))))
def cz (C : List Pt) (i : Int) : Pt := cy C (i % (C.length : Int)).toNat
theorem cz_nat (C : List Pt) (k : Nat) : cz C (k : Int) = cy C k := by
  unfold cz
  rw [show ((k : Int) % (C.length : Int)).toNat = k % C.length by rw [← Int.natCast_emod]; rfl, cy_mod]
theorem cz_mod (C : List Pt) (i : Int) : cz C (i % (C.length : Int)) = cz C i := by
  unfold cz
  rw [Int.emod_emod]
theorem cz_add (C : List Pt) (i : Int) : cz C (i + (C.length : Int)) = cz C i := by
  unfold cz
  rw [Int.add_emod_right]
theorem cz_congr {C : List Pt} {i j : Int} (h : i % (C.length : Int) = j % (C.length : Int)) : cz C i = cz C j := by
  unfold cz
  rw [h]
theorem cz_sub1 (C : List Pt) (i : Int) : cz C (i % (C.length : Int) - 1) = cz C (i - 1) := cz_congr (by rw [Int.emod_sub_emod])
theorem cz_add1 (C : List Pt) (i : Int) : cz C (i % (C.length : Int) + 1) = cz C (i + 1) := cz_congr (by rw [Int.emod_add_emod])
theorem at_cz {C : List Pt} {i : Int} (h1 : -(C.length : Int) ≤ i) (h2 : i < (C.length : Int)) : dAt (.lst (C.map D2p)) (.int i) = some (D2p (cz C i)) := by
  by_cases h : 0 ≤ i
  · obtain ⟨k, rfl⟩ := Int.eq_ofNat_of_zero_le h
    rw [cz_nat]
    exact at_cy (by omega)
  · have e : i + (C.length : Int) = ((i + (C.length : Int)).toNat : Int) := by omega
    rw [← cz_add, e, cz_nat]
    show L2.atI (C.map D2p) i = _
    unfold L2.atI
    have e2 : L2.ixN (C.map D2p).length i = some (i + (C.length : Int)).toNat := by
      rw [List.length_map]
      unfold L2.ixN
      rw [if_neg (by omega), if_pos (by omega)]
    rw [e2, Option.bind_some, List.getElem?_map, cy_at (by omega)]
    rfl
theorem at_czm {C : List Pt} {x : Int} (h : 0 < C.length) : dAt (.lst (C.map D2p)) (.int (x % (C.length : Int))) = some (D2p (cz C x)) := by
  have h1 := Int.emod_nonneg x (by omega : (C.length : Int) ≠ 0)
  have h2 := Int.emod_lt_of_pos x (by omega : 0 < (C.length : Int))
  rw [at_cz (by omega) h2, cz_mod]
theorem at_czm1 {C : List Pt} {x : Int} (h : 0 < C.length) : dAt (.lst (C.map D2p)) (.int (x % (C.length : Int) - 1)) = some (D2p (cz C (x - 1))) := by
  have h1 := Int.emod_nonneg x (by omega : (C.length : Int) ≠ 0)
  have h2 := Int.emod_lt_of_pos x (by omega : 0 < (C.length : Int))
  rw [at_cz (by omega) (by omega), cz_sub1]
theorem bd_cz {n : Nat} {C : List Pt} (h : ∀ q ∈ C, BdP n q) (hc : 0 < C.length) (i : Int) : BdP n (cz C i) := bd_cy h hc _
theorem cz_mem {C : List Pt} (hc : 0 < C.length) (i : Int) : cz C i ∈ C := cy_mem (by intro z; rw [z] at hc; simp at hc) _
theorem mem_cz {C : List Pt} {c : Pt} (h : c ∈ C) : ∃ k : Nat, k < C.length ∧ cz C k = c := by
  obtain ⟨k, h1, h2⟩ := mem_cy h
  exact ⟨k, h1, by rw [cz_nat, h2]⟩
theorem sides_get {C : List Pt} {k : Nat} (h : k < C.length) : (sidesP C)[k]? = some (cy C k, cy C (k + 1)) := by
  unfold sidesP
  rw [List.getElem?_map, List.getElem?_range h]
  rfl
theorem at_sides {C : List Pt} {k : Nat} (h : k < C.length) : dAt (.lst ((sidesP C).map D22)) (.int (k : Int)) = some (.tup [D2p (cz C k), D2p (cz C (k + 1))]) := by
  refine dAt_lst ?_
  rw [List.getElem?_map, sides_get h]
  show some (D22 (cy C k, cy C (k + 1))) = _
  rw [← cz_nat, ← cz_nat]
  rfl
theorem at_normals {C : List Pt} {k : Nat} (h : k < C.length) : dAt (.lst ((normalsP C).map D2p)) (.int (k : Int)) = some (D2p (nrm (cz C k) (cz C (k + 1)))) := by
  refine dAt_lst ?_
  unfold normalsP
  rw [List.getElem?_map, List.getElem?_map, List.getElem?_range h]
  show some (D2p (nrm (cy C k) (cy C (k + 1)))) = _
  rw [← cz_nat, ← cz_nat]
  rfl
section
variable {N : En → Prop} {T : D → Prop} {X : Str → Prop} {ρ : En} {a b body m : SM} {n : Nat} {ds : List D} {d e : D} {me ma mb mc : EM} {mr : AM} {t u : TM}
theorem wo_ins {i : Nat} {k : Int} {mk : EM} (h0 : ρ[i]? = some (.l ds)) (hk : mk ρ = .ok (.int k)) (h : me ρ = .ok d) (h1 : 0 ≤ k) (h2 : k < 2 ^ 62) (hl : ds.length < 16777216) (kk : N (ρ.set i (.l (ds.take k.toNat ++ [d] ++ ds.drop k.toNat)))) : WO (sIns i mk me ρ) N T X := by
  unfold sIns
  rw [h0]
  show WO (ofR ((mk ρ).bind fun k => (me ρ).bind fun d => R.ofO (insD ds k d)) ρ fun es => .nx (ρ.set i (.l es))) N T X
  rw [hk, bind_ok, h, bind_ok, show insD ds (.int k) d = some (ds.take k.toNat ++ [d] ++ ds.drop k.toNat) from if_pos ⟨h1, by omega, by rw [sizeLine_eq]; exact hl⟩]
  exact kk
theorem ev_cutS {ns : List Int} {i j : Int} (h1 : ma ρ = .ok (.scr ns)) (h2 : mb ρ = .ok (.int i)) (h3 : mc ρ = .ok (.int j)) : aCut ma (oSome mb) (oSome mc) ρ = .ok ((cutL ns (some i) (some j)).map D.int) := by
  unfold aCut oSome
  rw [h1, bind_ok, h2, bind_ok, h3]
  show R.ok (cutL (ns.map D.int) (some i) (some j)) = _
  rw [cutL_ints]
theorem ev_home (x y z : Int) : eC (.tup [.int x, .int y, .int z]) ρ = .ok (D3 x y z) := rfl
theorem ev_ownLenM {α : Type} {f : α → D} {l : List α} {i : Nat} (h : ρ[i]? = some (.l (l.map f))) : eOwnLen i ρ = .ok (.int (l.length : Int)) := by
  unfold eOwnLen
  rw [h]
  show R.ok (D.int (((l.map f).length : Nat) : Int)) = _
  rw [List.length_map]
theorem ev_revm {α : Type} {f : α → D} {l : List α} (h : ma ρ = .ok (.lst (l.map f))) : aLRev ma ρ = .ok (l.reverse.map f) := by
  unfold aLRev
  rw [h, bind_ok, List.map_reverse]
  rfl
theorem ev_rev {l : List D} (h : ma ρ = .ok (.lst l)) : aLRev ma ρ = .ok l.reverse := by
  unfold aLRev
  rw [h, bind_ok]
  rfl
theorem wo_rng {as : List D} {k : Nat} {g : D → En → Option En} (I : Nat → En → Prop) (hm : mr ρ = .ok as) (hr : dRange as = some (rg 0 1 k)) (i0 : I 0 ρ)
    (step : ∀ j ρ, j < k → I j ρ → ∃ ρ1, g (.int (j : Nat)) ρ = some ρ1 ∧ WO (body ρ1) (I (j + 1)) T X) (fin : ∀ ρ, I k ρ → N ρ) : WO (sForR g mr body ρ) N T X :=
  wo_range I hm hr i0 (fun j ρ hj i => by rw [show (0 : Int) + (j : Nat) * 1 = (j : Nat) by omega]; exact step j ρ hj i) fin
theorem dLen_scr (ns : List Int) : dLen [.scr ns] = some (.int (ns.length : Int)) := rfl
theorem dLen_t2 (p : Pt) : dLen [D2p p] = some (.int 2) := rfl
theorem dLen_t3 (x y z : Int) : dLen [D3 x y z] = some (.int 3) := rfl
theorem dIs_nn : dIs .non .non = some (.bl true) := rfl
theorem dIs_pt (p : Pt) : dIs (D2p p) .non = some (.bl false) := rfl
theorem dIs_D3 (x y z : Int) : dIs (D3 x y z) .non = some (.bl false) := rfl
theorem dIs_lst (l : List D) : dIs (.lst l) .non = some (.bl false) := rfl
theorem dIsN_nn : dIsNot .non .non = some (.bl false) := rfl
theorem dIsN_pt (p : Pt) : dIsNot (D2p p) .non = some (.bl true) := rfl
theorem dIsN_D3 (x y z : Int) : dIsNot (D3 x y z) .non = some (.bl true) := rfl
theorem cutL_len2 {α : Type} (xs : List α) (i j : Nat) (h : i ≤ j) : (cutL xs (some (i : Int)) (some (j : Int))).length ≤ j - i := by
  unfold cutL
  rw [List.length_take, HT.sIx_nat, HT.sIx_nat]
  omega
theorem dLen_tup (ds : List D) : dLen [.tup ds] = some (.int (ds.length : Int)) := rfl
theorem rngN {k : Nat} (h : k < 2 ^ 62) : dRange [.int (k : Int)] = some (rg 0 1 k) := by
  rw [rng1 (by omega) (by omega)]
  exact congrArg (fun n => some (rg 0 1 n)) (Int.toNat_natCast k)
theorem lcc1 {d x : D} {xs r : List D} {g : D → En → Option En} (h : ∃ ρ1, g d ρ = some ρ1 ∧ mb ρ1 = .ok x) (h2 : lcGo g mYes mb r ρ = .ok xs) : lcGo g mYes mb (d :: r) ρ = .ok (x :: xs) := by
  obtain ⟨ρ1, h3, h4⟩ := h
  exact lcc h3 h4 h2
theorem ev_lc3 {d0 d1 d2 : D} {vs : List Nat} {g : D → En → Option En} (h1 : mr ρ = .ok [.int 3]) (k0 : ∃ ρ1, g (.int 0) (wipeE vs ρ) = some ρ1 ∧ mb ρ1 = .ok d0) (k1 : ∃ ρ1, g (.int 1) (wipeE vs ρ) = some ρ1 ∧ mb ρ1 = .ok d1) (k2 : ∃ ρ1, g (.int 2) (wipeE vs ρ) = some ρ1 ∧ mb ρ1 = .ok d2) : aLcR vs g mYes mr mb ρ = .ok [d0, d1, d2] := by
  unfold aLcR
  rw [h1, bind_ok, show dRange [.int 3] = some [.int 0, .int 1, .int 2] from rfl, ofO_some, bind_ok, if_pos (by rw [sizeLine_eq]; exact (by decide : 3 ≤ 16777216))]
  exact (lcc1 k0 (lcc1 k1 (lcc1 k2 (show lcGo g mYes mb [] (wipeE vs ρ) = .ok [] from rfl))))
theorem ev_lc6 {d0 d1 d2 d3 d4 d5 : D} {vs : List Nat} {g : D → En → Option En} (h1 : mr ρ = .ok [.int 6]) (k0 : ∃ ρ1, g (.int 0) (wipeE vs ρ) = some ρ1 ∧ mb ρ1 = .ok d0) (k1 : ∃ ρ1, g (.int 1) (wipeE vs ρ) = some ρ1 ∧ mb ρ1 = .ok d1) (k2 : ∃ ρ1, g (.int 2) (wipeE vs ρ) = some ρ1 ∧ mb ρ1 = .ok d2) (k3 : ∃ ρ1, g (.int 3) (wipeE vs ρ) = some ρ1 ∧ mb ρ1 = .ok d3) (k4 : ∃ ρ1, g (.int 4) (wipeE vs ρ) = some ρ1 ∧ mb ρ1 = .ok d4) (k5 : ∃ ρ1, g (.int 5) (wipeE vs ρ) = some ρ1 ∧ mb ρ1 = .ok d5) : aLcR vs g mYes mr mb ρ = .ok [d0, d1, d2, d3, d4, d5] := by
  unfold aLcR
  rw [h1, bind_ok, show dRange [.int 6] = some [.int 0, .int 1, .int 2, .int 3, .int 4, .int 5] from rfl, ofO_some, bind_ok, if_pos (by rw [sizeLine_eq]; exact (by decide : 6 ≤ 16777216))]
  exact (lcc1 k0 (lcc1 k1 (lcc1 k2 (lcc1 k3 (lcc1 k4 (lcc1 k5 (show lcGo g mYes mb [] (wipeE vs ρ) = .ok [] from rfl)))))))
theorem ev_lc8 {d0 d1 d2 d3 d4 d5 d6 d7 : D} {vs : List Nat} {g : D → En → Option En} (h1 : mr ρ = .ok [.int 8]) (k0 : ∃ ρ1, g (.int 0) (wipeE vs ρ) = some ρ1 ∧ mb ρ1 = .ok d0) (k1 : ∃ ρ1, g (.int 1) (wipeE vs ρ) = some ρ1 ∧ mb ρ1 = .ok d1) (k2 : ∃ ρ1, g (.int 2) (wipeE vs ρ) = some ρ1 ∧ mb ρ1 = .ok d2) (k3 : ∃ ρ1, g (.int 3) (wipeE vs ρ) = some ρ1 ∧ mb ρ1 = .ok d3) (k4 : ∃ ρ1, g (.int 4) (wipeE vs ρ) = some ρ1 ∧ mb ρ1 = .ok d4) (k5 : ∃ ρ1, g (.int 5) (wipeE vs ρ) = some ρ1 ∧ mb ρ1 = .ok d5) (k6 : ∃ ρ1, g (.int 6) (wipeE vs ρ) = some ρ1 ∧ mb ρ1 = .ok d6) (k7 : ∃ ρ1, g (.int 7) (wipeE vs ρ) = some ρ1 ∧ mb ρ1 = .ok d7) : aLcR vs g mYes mr mb ρ = .ok [d0, d1, d2, d3, d4, d5, d6, d7] := by
  unfold aLcR
  rw [h1, bind_ok, show dRange [.int 8] = some [.int 0, .int 1, .int 2, .int 3, .int 4, .int 5, .int 6, .int 7] from rfl, ofO_some, bind_ok, if_pos (by rw [sizeLine_eq]; exact (by decide : 8 ≤ 16777216))]
  exact (lcc1 k0 (lcc1 k1 (lcc1 k2 (lcc1 k3 (lcc1 k4 (lcc1 k5 (lcc1 k6 (lcc1 k7 (show lcGo g mYes mb [] (wipeE vs ρ) = .ok [] from rfl)))))))))
theorem ev_lcN {as : List D} {k : Nat} {f' : Nat → D} {vs : List Nat} {g : D → En → Option En} (h1 : mr ρ = .ok as) (h2 : dRange as = some (rg 0 1 k)) (hl : k ≤ 16777216)
    (h3 : ∀ x, x < k → ∃ ρ1, g (.int (x : Nat)) (wipeE vs ρ) = some ρ1 ∧ mb ρ1 = .ok (f' x)) : aLcR vs g mYes mr mb ρ = .ok ((List.range k).map f') :=
  ev_lcR h1 h2 hl fun x hx => by rw [show (0 : Int) + (x : Nat) * 1 = (x : Nat) by omega]; exact h3 x hx
end
theorem shp_mapL {α : Type} {f : α → D} {n : Nat} (h : ∀ a, Shp n (f a)) : ∀ l : List α, Shp (n + 1) (.lst (l.map f))
  | [] => ⟨rfl, by show 0 + 1 ≤ n + 1; omega⟩
  | a :: l => by
    have h1 := h a
    have h2 := shp_mapL h l
    constructor
    · show ((toP (f a)).canLay0 && PyData.canLayAll0 (toPs (l.map f))) = true
      rw [h1.1]
      exact h2.1
    · have g1 := h1.2
      have g2 : PyData.depthAll (toPs (l.map f)) + 1 ≤ n + 1 := h2.2
      show max (toP (f a)).depth (PyData.depthAll (toPs (l.map f))) + 1 ≤ n + 1
      omega
structure Body (n : Nat) (C : List Pt) : Prop where
  poly : ∃ ps : List Pt, ps.Pairwise lx ∧ Poly ps C
  len : C.length ≤ 100
  bd : ∀ q ∈ C, BdP n q
theorem Body.three {n : Nat} {C : List Pt} (h : Body n C) : 3 ≤ C.length := let ⟨_, _, P⟩ := h.poly; P.len
theorem Body.pos {n : Nat} {C : List Pt} (h : Body n C) : 0 < C.length := by have := h.three; omega
theorem Body.lt {n : Nat} {C : List Pt} (h : Body n C) : C.length < 10000 := by have := h.len; omega
theorem Body.mono {m n : Nat} {C : List Pt} (h : Body m C) (l : m ≤ n) : Body n C := ⟨h.poly, h.len, fun q hq => (h.bd q hq).mono l⟩
theorem body_strict {n : Nat} {C : List Pt} (h : Body n C) (i : Int) {c : Pt} (hc : c ∈ C) (h1 : c ≠ cz C i) (h2 : c ≠ cz C (i + 1)) : 0 < bnd (cz C i) (cz C (i + 1)) c := by
  obtain ⟨ps, _, P⟩ := h.poly
  have hp := h.pos
  have e1 : cz C i = cy C (i % (C.length : Int)).toNat := rfl
  have hn := Int.emod_nonneg i (by omega : (C.length : Int) ≠ 0)
  have e2 : cz C (i + 1) = cy C ((i % (C.length : Int)).toNat + 1) := by
    rw [← cz_add1, show i % (C.length : Int) + 1 = (((i % (C.length : Int)).toNat + 1 : Nat) : Int) by omega, cz_nat]
  rw [e1] at h1
  rw [e2] at h2
  rw [e1, e2]
  exact poly_strict P _ hc h1 h2
theorem body_turn {n : Nat} {C : List Pt} (h : Body n C) (i : Int) : 0 < bnd (cz C i) (cz C (i + 1)) (cz C (i + 2)) := by
  obtain ⟨ps, _, P⟩ := h.poly
  have hp := h.pos
  have hn := Int.emod_nonneg i (by omega : (C.length : Int) ≠ 0)
  have e1 : cz C i = cy C (i % (C.length : Int)).toNat := rfl
  have e2 : cz C (i + 1) = cy C ((i % (C.length : Int)).toNat + 1) := by
    rw [← cz_add1, show i % (C.length : Int) + 1 = (((i % (C.length : Int)).toNat + 1 : Nat) : Int) by omega, cz_nat]
  have e3 : cz C (i + 2) = cy C ((i % (C.length : Int)).toNat + 2) := by
    rw [show cz C (i + 2) = cz C (i % (C.length : Int) + 2) from cz_congr (by rw [Int.emod_add_emod]), show i % (C.length : Int) + 2 = (((i % (C.length : Int)).toNat + 2 : Nat) : Int) by omega, cz_nat]
  rw [e1, e2, e3]
  exact poly_turn P _
end Law
namespace Law
open PySem PySem.Spec PyProof.Rows L2 GD Hl
local macro_rules | `(tactic| walk_at "bd") => `(tactic| first
  | with_reducible assumption
  | with_reducible exact Bd.litO _
  | ((with_reducible refine' Bd.mul ?h ?g); (case h => walk_at "bd"); (case g => walk_at "bd"))
  | ((with_reducible refine' Bd.add ?h ?g); (case h => walk_at "bd"); (case g => walk_at "bd"))
  | ((with_reducible refine' Bd.sub ?h ?g); (case h => walk_at "bd"); (case g => walk_at "bd"))
  | ((with_reducible refine' Bd.neg ?h); (case h => walk_at "bd"))
  | ((with_reducible refine' Bd.emod ?h); (case h => walk_at "pos"))
  | ((with_reducible refine' Bd.ediv ?h); (case h => walk_at "bd"))
  | ((with_reducible refine' bd_fT ?h); (case h => walk_at "bd"))
  | ((with_reducible refine' bd_fB ?h); (case h => walk_at "bd"))
  | ((with_reducible refine' bd_sX ?h); (case h => walk_at "bd"))
  | ((with_reducible refine' bd_sY ?h); (case h => walk_at "bd"))
  | ((with_reducible refine' bd_sW ?h); (case h => walk_at "bd"))
  | ((with_reducible refine' bd_abs ?h); (case h => walk_at "bd"))
  | ((with_reducible refine' BdP.a ?h); (case h => walk_at "bdq"))
  | ((with_reducible refine' BdP.b ?h); (case h => walk_at "bdq"))
  | with_reducible exact bd_ite1
  | ((with_reducible refine' bd_ite ?h ?g); (case h => walk_at "bd"); (case g => walk_at "bd")))
local macro_rules | `(tactic| walk_at "pos") => `(tactic| first
  | with_reducible assumption
  | decide
  | omega)
local macro_rules | `(tactic| walk_at "bdq") => `(tactic| first
  | with_reducible assumption
  | ((with_reducible refine' bd_cy ?h ?g _); (case h => with_reducible assumption); (case g => first | with_reducible assumption | omega))
  | ((with_reducible refine' bd_mem ?h ?g); (case g => with_reducible assumption); (case h => with_reducible assumption))
  | ((with_reducible refine' bd_get ?h); (case h => with_reducible assumption)))
local macro_rules | `(tactic| walk_at "bdp") => `(tactic| first
  | walk_at "bdq"
  | ((with_reducible refine' BdP.mk ?h ?g); (case h => walk_at "bd"); (case g => walk_at "bd")))
local macro_rules | `(tactic| walk_at "num") => `(tactic| first
  | with_reducible assumption
  | omega
  | decide +kernel
  | (simp only [Nat.reduceLog2]; omega))
local macro_rules | `(tactic| walk_at "dis") => `(tactic| first
  | with_reducible assumption
  | ((with_reducible refine' mok ?h ?g ?l); (case h => walk_at "bd"); (case g => walk_at "bd"); (case l => walk_at "num"))
  | ((with_reducible refine' Bd.mono ?h ?l); (case h => walk_at "bd"); (case l => walk_at "num"))
  | ((with_reducible refine' BdP.mono ?h ?l); (case h => walk_at "bdp"); (case l => walk_at "num"))
  | ((with_reducible show divOk _); first | with_reducible assumption | decide +kernel | (refine' dok ?p ?h ?l; (case p => first | with_reducible assumption | omega); (case h => walk_at "bd"); (case l => walk_at "num")))
  | omega)
local macro_rules | `(tactic| walk_at "op") => `(tactic| first
  | with_reducible exact dAdd_int _ _
  | with_reducible exact dSub_int _ _
  | ((with_reducible refine dMul_int ?_); walk_at "dis")
  | with_reducible exact dAt_pp0 _ _
  | with_reducible exact dAt_pp1 _ _
  | with_reducible exact dAt_p0 _
  | with_reducible exact dAt_p1 _
  | with_reducible exact dAt_t0
  | with_reducible exact dAt_t1
  | with_reducible exact dAt_t2
  | with_reducible exact dAt_q0 _ _ _
  | with_reducible exact dAt_q1 _ _ _
  | with_reducible exact dAt_q2 _ _ _
  | with_reducible exact dAt_f0 _ _
  | with_reducible exact dAt_f1 _ _
  | with_reducible exact dLt_int _ _
  | with_reducible exact dLe_int _ _
  | with_reducible exact dGt_int _ _
  | with_reducible exact dGe_int _ _
  | with_reducible exact dEq_int _ _
  | with_reducible exact dNe_int _ _
  | ((with_reducible refine dMod_int ?_); walk_at "dis")
  | ((with_reducible refine dDiv_int ?_); walk_at "dis")
  | with_reducible exact dNeg_int _
  | with_reducible exact dIs_non _
  | with_reducible exact dIsNot_non _
  | with_reducible exact dAbs_int _
  | with_reducible exact dMax2_int _ _
  | with_reducible exact dMin2_int _ _
  | with_reducible exact dInt_bl _
  | with_reducible exact dLen_pts _
  | with_reducible exact dEq_pt _ _
  | with_reducible exact dNe_pt _ _
  | with_reducible exact dEq_pts _ _
  | with_reducible exact dNe_pts _ _
  | with_reducible exact dNe_bl _ _
  | with_reducible exact dEq_bl _ _
  | with_reducible exact dEq_D3 _ _ _ _ _ _
  | with_reducible exact dNe_D3 _ _ _ _ _ _
  | with_reducible exact dEq_np _
  | with_reducible exact dNe_np _
  | ((with_reducible refine at_last ?_); walk_at "dis")
  | with_reducible exact dAt_l0
  | with_reducible exact dAt_l1
  | with_reducible exact dAt_l2
  | with_reducible exact dAt_l3
  | with_reducible exact dAt_l4
  | with_reducible exact dAt_l5
  | with_reducible exact dAt_l6
  | with_reducible exact dAt_l7
  | ((with_reducible refine' dNe_self ?h ?l); (case h => walk_at "shp"); (case l => decide))
  | ((with_reducible refine' dEq_self ?h ?l); (case h => walk_at "shp"); (case l => decide))
  | with_reducible assumption
  | exact isi_int _ _ _ _ rfl kb_tuple_tuple
  | exact isi_int _ _ _ _ rfl kb_list_list
  | exact isi_int _ _ _ _ rfl kb_int_int
  | exact isi_int _ _ _ _ rfl kb_bool_bool
  | exact isi_int _ _ _ _ rfl kb_int_bool
  | exact isi_int _ _ _ _ rfl kb_list_tuple
  | exact isi_int _ _ _ _ rfl kb_tuple_list
  | with_reducible rfl)
local macro_rules | `(tactic| walk_at "shp") => `(tactic| first
  | with_reducible exact shp_int _
  | with_reducible exact shp_bl _
  | with_reducible exact shp_non
  | with_reducible exact shp_pt _
  | with_reducible exact shp_pts _
  | with_reducible exact shp_D2 _ _
  | with_reducible exact shp_fr _ _
  | with_reducible exact shp_D3 _ _ _
  | with_reducible exact shp_sp _ _ _
  | with_reducible exact shp_nilL
  | with_reducible exact shp_nilT
  | ((with_reducible refine' shp_consL ?h ?g); (case h => walk_at "shp"); (case g => walk_at "shp"))
  | ((with_reducible refine' shp_consT ?h ?g); (case h => walk_at "shp"); (case g => walk_at "shp"))
  | with_reducible assumption)
local macro_rules | `(tactic| walk_at "fn") => `(tactic| first
  | with_reducible assumption
  | with_reducible exact whole_int _
  | with_reducible exact divisor_eq _ _
  | with_reducible exact common_eq _ _)
local macro_rules | `(tactic| walk_at "ev") => `(tactic| first
  | with_reducible exact ev_c _
  | ((with_reducible refine' ev_var ?h1); (case h1 => exact rfl))
  | ((with_reducible refine' ev_e2 ?h1 ?h2 ?h3); (case h1 => walk_at "ev"); (case h2 => walk_at "ev"); (case h3 => walk_at "op"))
  | with_reducible exact ev_nil
  | ((with_reducible refine' ev_cons ?h1 ?h2); (case h1 => walk_at "ev"); (case h2 => walk_at "ev"))
  | ((with_reducible refine' ev_F ?h1 ?h2); (case h1 => walk_at "ev"); (case h2 => walk_at "fn"))
  | ((with_reducible refine' ev_mB ?h1); (case h1 => walk_at "ev"))
  | ((with_reducible refine' ev_B ?h1 ?h2); (case h1 => walk_at "ev"); (case h2 => walk_at "op"))
  | ((with_reducible refine' ev_tup2 ?h1 ?h2); (case h1 => walk_at "ev"); (case h2 => walk_at "ev"))
  | ((with_reducible refine' ev_tup3 ?h1 ?h2 ?h3); (case h1 => walk_at "ev"); (case h2 => walk_at "ev"); (case h3 => walk_at "ev"))
  | ((with_reducible refine' ev_tup ?h1 ?h2); (case h1 => walk_at "ev"); (case h2 => walk_at "len"))
  | ((with_reducible refine' ev_L ?h1); (case h1 => walk_at "ev"))
  | ((with_reducible refine' ev_lst ?h1 ?h2); (case h1 => walk_at "ev"); (case h2 => walk_at "len"))
  | ((with_reducible refine' ev_not ?h1); (case h1 => walk_at "ev"))
  | ((with_reducible refine' ev_and0 ?h1); (case h1 => walk_at "ev"))
  | ((with_reducible refine' ev_and ?h1 ?h2); (case h1 => walk_at "ev"); (case h2 => (intro hq; (try simp only [decide_eq_true_eq, decide_eq_false_iff_not, Bool.not_eq_true', Bool.not_eq_false'] at hq); walk_at "ev")))
  | ((with_reducible refine' ev_or1 ?h1); (case h1 => walk_at "ev"))
  | ((with_reducible refine' ev_or ?h1 ?h2); (case h1 => walk_at "ev"); (case h2 => (intro hq; (try simp only [decide_eq_true_eq, decide_eq_false_iff_not, Bool.not_eq_true', Bool.not_eq_false'] at hq); walk_at "ev")))
  | ((with_reducible refine' ev_eNot ?h1); (case h1 => walk_at "ev"))
  | ((with_reducible refine' ev_eAnd0 ?h1); (case h1 => walk_at "ev"))
  | ((with_reducible refine' ev_eAnd ?h1 ?h2); (case h1 => walk_at "ev"); (case h2 => (intro hq; (try simp only [decide_eq_true_eq, decide_eq_false_iff_not, Bool.not_eq_true', Bool.not_eq_false'] at hq); walk_at "ev")))
  | ((with_reducible refine' ev_eOr1 ?h1); (case h1 => walk_at "ev"))
  | ((with_reducible refine' ev_eOr ?h1 ?h2); (case h1 => walk_at "ev"); (case h2 => (intro hq; (try simp only [decide_eq_true_eq, decide_eq_false_iff_not, Bool.not_eq_true', Bool.not_eq_false'] at hq); walk_at "ev")))
  | ((with_reducible refine' ev_e1 ?h1 ?h2); (case h1 => walk_at "ev"); (case h2 => walk_at "op"))
  | ((with_reducible refine' ev_copy ?h1 ?h2); (case h1 => walk_at "ev"); (case h2 => exact rfl))
  | ((with_reducible refine' ev_ch ?h1 ?h2 ?h3 ?h4 ?h5); (case h1 => walk_at "ev"); (case h2 => walk_at "ev"); (case h3 => walk_at "op"); (case h4 => (intro hq; (try simp only [decide_eq_true_eq, decide_eq_false_iff_not, Bool.not_eq_true', Bool.not_eq_false'] at hq); walk_at "ev")); (case h5 => (intro _; walk_at "op")))
  | ((with_reducible refine' ev_lc ?h1 ?h2 ?h3 ?h4); (case h1 => walk_at "ev"); (case h2 => walk_at "its"); (case h3 => walk_at "len"); (case h4 => (intro _ _; exact ⟨_, rfl, by walk_at "ev"⟩)))
  | ((with_reducible refine' ev_lcR ?h1 ?h2 ?h3 ?h4); (case h1 => walk_at "ev"); (case h2 => walk_at "rng"); (case h3 => walk_at "len"); (case h4 => (intro _ _; exact ⟨_, rfl, by walk_at "ev"⟩)))
  | ((with_reducible refine' ev_cat ?h1 ?h2 ?h3); (case h1 => walk_at "ev"); (case h2 => walk_at "ev"); (case h3 => walk_at "len"))
  | ((with_reducible refine' ev_ownLen ?h1); (case h1 => exact rfl))
  | ((with_reducible refine' ev_ownAt ?h1 ?h2 ?h3); (case h1 => exact rfl); (case h2 => walk_at "ev"); (case h3 => walk_at "op"))
  | with_reducible assumption)
local macro_rules | `(tactic| walk_at "len") => `(tactic| first
  | ((simp only [List.length_map, List.length_cons, List.length_nil, List.length_append, List.length_range]) <;> walk_at "num")
  | walk_at "num")
local macro_rules | `(tactic| walk_at "its") => `(tactic| first
  | with_reducible exact its_map
  | with_reducible exact its_map2
  | exact rfl)
local macro_rules | `(tactic| walk_at "rng") => `(tactic| first
  | ((with_reducible refine rng1 ?_ ?_) <;> walk_at "num")
  | ((with_reducible refine rng2 ?_ ?_ ?_ ?_) <;> walk_at "num"))
local macro_rules | `(tactic| walk_at "es") => `(tactic| simp (config := {failIfUnchanged := false}) only [List.set_cons_zero, List.set_cons_succ])
local macro_rules | `(tactic| walk_at "start") => `(tactic| (simp only [List.map_cons, List.map_nil, List.cons_append, List.nil_append, List.length_cons, List.length_nil, Nat.reduceAdd, Nat.reduceSub, List.replicate_succ, List.replicate_zero]))
local macro_rules | `(tactic| walk_at "st1") => `(tactic| first
  | ((with_reducible refine' wo_seq ?k))
  | ((with_reducible refine' wo_ift ?h ?e ?k); (case h => walk_at "ev"); (case e => simp only [beq_self_eq_true, Bool.true_beq, Bool.false_beq, decide_eq_true_eq, decide_eq_false_iff_not, Bool.not_eq_true', Bool.not_eq_false', Bool.or_eq_true, Bool.and_eq_true, Bool.or_eq_false_iff, Bool.and_eq_false_imp, Bool.not_true, Bool.not_false, Bool.false_or, Bool.or_false, Bool.true_or, Bool.or_true, Bool.true_and, Bool.and_true, Bool.false_and, Bool.and_false, Bool.true_eq_false, Bool.false_eq_true, decide_true, decide_false, reduceCtorEq, D.isNone, Int.not_lt, Int.not_le, ne_eq, Decidable.not_not, not_true_eq_false, not_false_eq_true, false_implies, true_implies, implies_true, and_true, true_and, and_false, false_and, or_true, true_or, or_false, false_or, reduceIte, eq_self]))
  | ((with_reducible refine' wo_iff ?h ?e ?k); (case h => walk_at "ev"); (case e => simp only [beq_self_eq_true, Bool.true_beq, Bool.false_beq, decide_eq_true_eq, decide_eq_false_iff_not, Bool.not_eq_true', Bool.not_eq_false', Bool.or_eq_true, Bool.and_eq_true, Bool.or_eq_false_iff, Bool.and_eq_false_imp, Bool.not_true, Bool.not_false, Bool.false_or, Bool.or_false, Bool.true_or, Bool.or_true, Bool.true_and, Bool.and_true, Bool.false_and, Bool.and_false, Bool.true_eq_false, Bool.false_eq_true, decide_true, decide_false, reduceCtorEq, D.isNone, Int.not_lt, Int.not_le, ne_eq, Decidable.not_not, not_true_eq_false, not_false_eq_true, false_implies, true_implies, implies_true, and_true, true_and, and_false, false_and, or_true, true_or, or_false, false_or, reduceIte, eq_self]))
  | (((with_reducible refine' wo_asg ?h1 ?k); (case h1 => walk_at "ev")); walk_at "es")
  | ((with_reducible refine' wo_ret ?h1 ?k); (case h1 => walk_at "ev"))
  | (((with_reducible refine' wo_tgt ?h1 ?h2 ?k); (case h1 => walk_at "ev"); (case h2 => exact rfl)); walk_at "es")
  | ((with_reducible refine' wo_nil ?k))
  | ((with_reducible refine' wo_raise ?k))
  | (((with_reducible refine' wo_own ?h1 ?k); (case h1 => walk_at "ev")); walk_at "es")
  | (((with_reducible refine' wo_asgL ?h1 ?k); (case h1 => walk_at "ev")); walk_at "es")
  | (((with_reducible refine' wo_app ?h1 ?h2 ?h3 ?k); (case h1 => exact rfl); (case h2 => walk_at "ev"); (case h3 => walk_at "len")); walk_at "es")
  | (((with_reducible refine' wo_par ?h1 ?h2 ?k); (case h1 => walk_at "ev"); (case h2 => walk_at "ev")); walk_at "es")
  | ((with_reducible refine wo_frz ?_); simp only [frz, List.getElem?_cons_zero, List.getElem?_cons_succ, List.set_cons_zero, List.set_cons_succ]))
local macro_rules | `(tactic| walk_at "st") => `(tactic| (walk_at "st1"; try dsimp only))
local macro_rules | `(tactic| walk_at "hs") => `(tactic| ((try simp only [beq_self_eq_true, Bool.true_beq, Bool.false_beq, decide_eq_true_eq, decide_eq_false_iff_not, Bool.not_eq_true', Bool.not_eq_false', Bool.or_eq_true, Bool.and_eq_true, Bool.or_eq_false_iff, Bool.and_eq_false_imp, Bool.not_true, Bool.not_false, Bool.false_or, Bool.or_false, Bool.true_or, Bool.or_true, Bool.true_and, Bool.and_true, Bool.false_and, Bool.and_false, Bool.true_eq_false, Bool.false_eq_true, decide_true, decide_false, reduceCtorEq, D.isNone, Int.not_lt, Int.not_le, ne_eq, Decidable.not_not, not_true_eq_false, not_false_eq_true, false_implies, true_implies, implies_true, and_true, true_and, and_false, false_and, or_true, true_or, or_false, false_or, reduceIte, eq_self]); exact rfl))
local macro_rules | `(tactic| walk_at "fls") => `(tactic| first | (with_reducible exact False.elim) | (with_reducible refine fun (_ : True) => ?_) | skip)
local macro_rules | `(tactic| walk_at "if") => `(tactic| ((with_reducible refine' wo_ifx ?h ?e1 ?e2 ?k1 ?k2); (case h => walk_at "ev"); (case e1 => walk_at "hs"); (case e2 => walk_at "hs"); (case' k1 => walk_at "fls"); (case' k2 => walk_at "fls")))
local macro_rules | `(tactic| walk_at "tt") => `(tactic| (try simp only [beq_self_eq_true, Bool.true_beq, Bool.false_beq, decide_eq_true_eq, decide_eq_false_iff_not, Bool.not_eq_true', Bool.not_eq_false', Bool.or_eq_true, Bool.and_eq_true, Bool.or_eq_false_iff, Bool.and_eq_false_imp, Bool.not_true, Bool.not_false, Bool.false_or, Bool.or_false, Bool.true_or, Bool.or_true, Bool.true_and, Bool.and_true, Bool.false_and, Bool.and_false, Bool.true_eq_false, Bool.false_eq_true, decide_true, decide_false, reduceCtorEq, D.isNone, Int.not_lt, Int.not_le, ne_eq, Decidable.not_not, not_true_eq_false, not_false_eq_true, false_implies, true_implies, implies_true, and_true, true_and, and_false, false_and, or_true, true_or, or_false, false_or, reduceIte, eq_self]))
local macro_rules | `(tactic| walk_at "hc") => `(tactic| simp only [beq_self_eq_true, Bool.true_beq, Bool.false_beq, decide_eq_true_eq, decide_eq_false_iff_not, Bool.not_eq_true', Bool.not_eq_false', Bool.or_eq_true, Bool.and_eq_true, Bool.or_eq_false_iff, Bool.and_eq_false_imp, Bool.not_true, Bool.not_false, Bool.false_or, Bool.or_false, Bool.true_or, Bool.or_true, Bool.true_and, Bool.and_true, Bool.false_and, Bool.and_false, Bool.true_eq_false, Bool.false_eq_true, decide_true, decide_false, reduceCtorEq, D.isNone, Int.not_lt, Int.not_le, ne_eq, Decidable.not_not, not_true_eq_false, not_false_eq_true, false_implies, true_implies, implies_true, and_true, true_and, and_false, false_and, or_true, true_or, or_false, false_or, reduceIte, eq_self] at *)
local macro_rules | `(tactic| walk_at "sts") => `(tactic| (walk_at "st"; try (walk_at "st"; try (walk_at "st"; try (walk_at "st"; try (walk_at "st"; try (walk_at "st"; try (walk_at "st"; try (walk_at "st"; try (walk_at "st"; try (walk_at "st"; try (walk_at "st"; try (walk_at "st"; try (walk_at "st"; try (walk_at "st"; try (walk_at "st"; try (walk_at "st"; try (walk_at "st"; try (walk_at "st"; try (walk_at "st"; try (walk_at "st"; try (walk_at "st"; try (walk_at "st"; try (walk_at "st"; try (walk_at "st"; try (walk_at "st"; try (walk_at "st"; try (walk_at "st"; try (walk_at "st"; try (walk_at "st"; try (walk_at "st"; try (walk_at "st"; try (walk_at "st"; try (walk_at "st"; try (walk_at "st"; try (walk_at "st"; try (walk_at "st"; try (walk_at "st"; try (walk_at "st"; try (walk_at "st"; try (walk_at "st"; try (walk_at "st"))))))))))))))))))))))))))))))))))))))))))
local macro_rules | `(tactic| walk_at "op") => `(tactic| first
  | with_reducible assumption
  | with_reducible exact dIs_nn
  | with_reducible exact dIs_pt _
  | with_reducible exact dIs_D3 _ _ _
  | with_reducible exact dIsN_nn
  | with_reducible exact dIsN_pt _
  | with_reducible exact dIsN_D3 _ _ _
  | ((with_reducible refine at_czm ?_); first | with_reducible assumption | omega)
  | ((with_reducible refine at_czm1 ?_); first | with_reducible assumption | omega)
  | ((with_reducible refine at_sides ?_); first | with_reducible assumption | omega)
  | ((with_reducible refine at_normals ?_); first | with_reducible assumption | omega)
  | ((with_reducible refine at_cz ?_ ?_) <;> first | with_reducible assumption | omega)
  | with_reducible exact dLen_scr _
  | with_reducible exact dLen_tup _
  | walk_at "opx")
local macro_rules | `(tactic| walk_at "opx") => `(tactic| first
  | with_reducible exact isi_bb _
  | with_reducible exact dIs_i _
  | with_reducible exact isi_u _
  | with_reducible exact dLen_u _
  | with_reducible exact dEqN_D3t _ _
  | with_reducible exact dEqE_D3t _ _
  | ((with_reducible refine at_lstI ?_ ?_) <;> first | with_reducible assumption | omega)
  | with_reducible exact dIs_D3t _
  | with_reducible exact dIsN_D3t _
  | with_reducible exact dAt_u0 _
  | with_reducible exact dAt_u1 _
  | with_reducible exact dAt_u2 _
  | with_reducible exact dIs_nn
  | with_reducible exact dIs_pt _
  | with_reducible exact dIs_D3 _ _ _
  | with_reducible exact dIs_lst _
  | with_reducible exact dIsN_nn
  | with_reducible exact dIsN_pt _
  | with_reducible exact dIsN_D3 _ _ _
  | with_reducible exact dLen_t2 _
  | with_reducible exact dLen_t3 _ _ _
  | with_reducible assumption)
local macro_rules | `(tactic| walk_at "bdq") => `(tactic| first
  | ((with_reducible refine' bd_cz ?h ?g _); (case h => first | with_reducible assumption | exact Body.bd (by with_reducible assumption)); (case g => first | with_reducible assumption | exact Body.pos (by with_reducible assumption) | omega)))
local macro_rules | `(tactic| walk_at "shp") => `(tactic| first
  | ((with_reducible refine' shp_mapL ?h _); (case h => (intro _; walk_at "shp"))))
local macro_rules | `(tactic| walk_at "rng") => `(tactic| first
  | ((with_reducible refine rngN ?_); walk_at "num"))
local macro_rules | `(tactic| walk_at "st1") => `(tactic| first
  | (((with_reducible refine' wo_ins ?h1 ?h2 ?h3 ?h4 ?h5 ?h6 ?k); (case h1 => exact rfl); (case h2 => walk_at "ev"); (case h3 => walk_at "ev"); (case h4 => walk_at "num"); (case h5 => walk_at "num"); (case h6 => walk_at "len")); walk_at "es"))
local macro_rules | `(tactic| walk_at "ev") => `(tactic| first
  | with_reducible exact ev_home _ _ _
  | ((with_reducible refine' ev_cutS ?h1 ?h2 ?h3); (case h1 => walk_at "ev"); (case h2 => walk_at "ev"); (case h3 => walk_at "ev"))
  | ((with_reducible refine' ev_ownLenM ?h1); (case h1 => exact rfl))
  | ((with_reducible refine' ev_revm ?h1); (case h1 => walk_at "ev"))
  | ((with_reducible refine' ev_rev ?h1); (case h1 => walk_at "ev"))
  | ((with_reducible refine' ev_lc6 ?h1 ?h2 ?h3 ?h4 ?h5 ?h6 ?h7); (case h1 => walk_at "ev"); (case h2 => exact ⟨_, rfl, by walk_at "ev"⟩); (case h3 => exact ⟨_, rfl, by walk_at "ev"⟩); (case h4 => exact ⟨_, rfl, by walk_at "ev"⟩); (case h5 => exact ⟨_, rfl, by walk_at "ev"⟩); (case h6 => exact ⟨_, rfl, by walk_at "ev"⟩); (case h7 => exact ⟨_, rfl, by walk_at "ev"⟩))
  | ((with_reducible refine' ev_lc8 ?h1 ?h2 ?h3 ?h4 ?h5 ?h6 ?h7 ?h8 ?h9); (case h1 => walk_at "ev"); (case h2 => exact ⟨_, rfl, by walk_at "ev"⟩); (case h3 => exact ⟨_, rfl, by walk_at "ev"⟩); (case h4 => exact ⟨_, rfl, by walk_at "ev"⟩); (case h5 => exact ⟨_, rfl, by walk_at "ev"⟩); (case h6 => exact ⟨_, rfl, by walk_at "ev"⟩); (case h7 => exact ⟨_, rfl, by walk_at "ev"⟩); (case h8 => exact ⟨_, rfl, by walk_at "ev"⟩); (case h9 => exact ⟨_, rfl, by walk_at "ev"⟩))
  | ((with_reducible refine' ev_lc3 ?h1 ?h2 ?h3 ?h4); (case h1 => walk_at "ev"); (case h2 => exact ⟨_, rfl, by walk_at "ev"⟩); (case h3 => exact ⟨_, rfl, by walk_at "ev"⟩); (case h4 => exact ⟨_, rfl, by walk_at "ev"⟩))
  | ((with_reducible refine' ev_lcN ?h1 ?h2 ?h3 ?h4); (case h1 => walk_at "ev"); (case h2 => walk_at "rng"); (case h3 => walk_at "len"); (case h4 => (intro _ _; exact ⟨_, rfl, by walk_at "ev"⟩))))
def leastP (C : List Pt) (n : Pt) : Int := ((C.map (dotp · n)).min?).getD 0
def mostP (C : List Pt) (n : Pt) : Int := ((C.map (dotp · n)).max?).getD 0
theorem least_spec {C : List Pt} (n : Pt) (h : 0 < C.length) : (∃ p ∈ C, dotp p n = leastP C n) ∧ ∀ p ∈ C, leastP C n ≤ dotp p n := by
  obtain ⟨z, e, h1, h2⟩ := min_ex (xs := C.map (dotp · n)) (by intro z; rw [List.map_eq_nil_iff] at z; rw [z] at h; simp at h)
  obtain ⟨p, hp', ep⟩ := List.mem_map.mp h1
  have ez : leastP C n = z := by unfold leastP; rw [e]; rfl
  exact ⟨⟨p, hp', by rw [ep, ez]⟩, fun p h => by rw [ez]; exact h2 _ (List.mem_map_of_mem h)⟩
theorem most_spec {C : List Pt} (n : Pt) (h : 0 < C.length) : (∃ p ∈ C, dotp p n = mostP C n) ∧ ∀ p ∈ C, dotp p n ≤ mostP C n := by
  obtain ⟨z, e, h1, h2⟩ := max_ex (xs := C.map (dotp · n)) (by intro z; rw [List.map_eq_nil_iff] at z; rw [z] at h; simp at h)
  obtain ⟨p, hp', ep⟩ := List.mem_map.mp h1
  have ez : mostP C n = z := by unfold mostP; rw [e]; rfl
  exact ⟨⟨p, hp', by rw [ep, ez]⟩, fun p h => by rw [ez]; exact h2 _ (List.mem_map_of_mem h)⟩
def gapN (A B : List Pt) (x y w : Int) (n : Pt) : Int := (leastP B n - mostP A n) * w + (x * n.1 + y * n.2)
def negP (p : Pt) : Pt := (-p.1, -p.2)
def dirsP (A B : List Pt) : List Pt := normalsP A ++ (normalsP B).map negP
structure Sp3 (n : Nat) (x y w : Int) : Prop where
  bx : Bd n x
  by' : Bd n y
  bw : Bd n w
  pos : 0 < w
  low : g3 x y w = 1
theorem sp3_of {n : Nat} {x y w : Int} (hx : Bd n x) (hy : Bd n y) (hw : Bd n w) (h : w ≠ 0) : Sp3 n (sX x y w) (sY x y w) (sW x y w) :=
  ⟨bd_sX hx, bd_sY hy, bd_sW hw, sW_pos h, s_gcd h⟩
def lft (C : List Pt) (i x y w : Int) : Int := lfs (cz C i, cz C (i + 1)) x y w
theorem lft_congr {C : List Pt} {i j : Int} (h : i % (C.length : Int) = j % (C.length : Int)) (x y w : Int) : lft C i x y w = lft C j x y w := by
  unfold lft
  rw [cz_congr h, show cz C (i + 1) = cz C (j + 1) from cz_congr (by rw [Int.add_emod, h, ← Int.add_emod])]
theorem lfs_hom (s : Pt × Pt) (k x y w : Int) : lfs s (k * x) (k * y) (k * w) = k * lfs s x y w := by unfold lfs; grind
theorem pos_same {a b x y : Int} (ha : 0 < a) (hb : 0 < b) (h : a * x = b * y) : (x < 0 ↔ y < 0) ∧ (x = 0 ↔ y = 0) ∧ (0 < x ↔ 0 < y) := by
  have f : ∀ {c z : Int}, 0 < c → ((0 < c * z ↔ 0 < z) ∧ (c * z < 0 ↔ z < 0)) := fun {c z} hc => by
    rcases Int.lt_trichotomy z 0 with h | h | h
    · have := Int.mul_neg_of_pos_of_neg hc h
      omega
    · rw [h, Int.mul_zero]; omega
    · have := Int.mul_pos hc h
      omega
  have f1 := f (z := x) ha
  have f2 := f (z := y) hb
  rw [h] at f1
  omega
def wv (C : List Pt) (x y w : Int) : Int := whereL x y w (sidesP C) 1
theorem whereL_spec {x y w : Int} : ∀ (S : List (Pt × Pt)) (t : Int), ((∃ s ∈ S, lfs s x y w < 0) ∧ whereL x y w S t = -1) ∨ ((∀ s ∈ S, 0 ≤ lfs s x y w) ∧ (((∃ s ∈ S, lfs s x y w = 0) ∧ whereL x y w S t = 0) ∨ ((∀ s ∈ S, 0 < lfs s x y w) ∧ whereL x y w S t = t)))
  | [], t => .inr ⟨fun _ h => absurd h (by simp), .inr ⟨fun _ h => absurd h (by simp), rfl⟩⟩
  | s :: r, t => by
    unfold whereL
    by_cases h : lfs s x y w < 0
    · rw [if_pos h]
      exact .inl ⟨⟨s, List.mem_cons_self, h⟩, rfl⟩
    · rw [if_neg h]
      rcases whereL_spec r (if lfs s x y w = 0 then 0 else t) with ⟨⟨q, hq, h1⟩, h2⟩ | ⟨h1, h2⟩
      · exact .inl ⟨⟨q, List.mem_cons_of_mem _ hq, h1⟩, h2⟩
      · refine .inr ⟨fun q hq => ?_, ?_⟩
        · rcases List.mem_cons.mp hq with e | e
          · rw [e]; omega
          · exact h1 q e
        · rcases h2 with ⟨⟨q, hq, h3⟩, h4⟩ | ⟨h3, h4⟩
          · exact .inl ⟨⟨q, List.mem_cons_of_mem _ hq, h3⟩, h4⟩
          · by_cases z : lfs s x y w = 0
            · rw [if_pos z] at h4 ⊢
              exact .inl ⟨⟨s, List.mem_cons_self, z⟩, h4⟩
            · rw [if_neg z] at h4 ⊢
              refine .inr ⟨fun q hq => ?_, h4⟩
              rcases List.mem_cons.mp hq with e | e
              · rw [e]; omega
              · exact h3 q e
theorem sides_lft {C : List Pt} (hc : 0 < C.length) {x y w : Int} (P : Int → Prop) : (∀ s ∈ sidesP C, P (lfs s x y w)) ↔ ∀ i : Int, P (lft C i x y w) := by
  constructor
  · intro h i
    have h1 := Int.emod_nonneg i (by omega : (C.length : Int) ≠ 0)
    have h2 := Int.emod_lt_of_pos i (by omega : 0 < (C.length : Int))
    have e : lft C i x y w = lft C ((i % (C.length : Int)).toNat : Int) x y w := lft_congr (by rw [Int.toNat_of_nonneg h1, Int.emod_emod]) x y w
    rw [e]
    refine h (cz C _, cz C _) ?_
    have := sides_get (C := C) (k := (i % (C.length : Int)).toNat) (by omega)
    rw [← cz_nat, ← cz_nat] at this
    exact List.mem_of_getElem? this
  · intro h s hs
    obtain ⟨k, _, rfl⟩ := List.mem_map.mp hs
    have := h (k : Int)
    unfold lft at this
    rw [cz_nat, show (k : Int) + 1 = ((k + 1 : Nat) : Int) from rfl, cz_nat] at this
    exact this
theorem wv_spec {C : List Pt} (hc : 0 < C.length) (x y w : Int) : ((∃ i, lft C i x y w < 0) ∧ wv C x y w = -1) ∨ ((∀ i, 0 ≤ lft C i x y w) ∧ (∃ i, lft C i x y w = 0) ∧ wv C x y w = 0) ∨ ((∀ i, 0 < lft C i x y w) ∧ wv C x y w = 1) := by
  rcases whereL_spec (x := x) (y := y) (w := w) (sidesP C) 1 with ⟨h1, h2⟩ | ⟨h1, ⟨h3, h4⟩ | ⟨h3, h4⟩⟩
  · refine .inl ⟨?_, h2⟩
    apply Classical.byContradiction
    intro n
    obtain ⟨s, hs, hl⟩ := h1
    exact absurd hl ((sides_lft hc (fun z => ¬ z < 0)).mpr (fun i z => n ⟨i, z⟩) s hs)
  · refine .inr (.inl ⟨(sides_lft hc (fun z => 0 ≤ z)).mp h1, ?_, h4⟩)
    apply Classical.byContradiction
    intro n
    obtain ⟨s, hs, hl⟩ := h3
    exact absurd hl ((sides_lft hc (fun z => ¬ z = 0)).mpr (fun i z => n ⟨i, z⟩) s hs)
  · exact .inr (.inr ⟨(sides_lft hc (fun z => 0 < z)).mp h3, h4⟩)
theorem wv_nn {C : List Pt} (hc : 0 < C.length) {x y w : Int} : 0 ≤ wv C x y w ↔ ∀ i, 0 ≤ lft C i x y w := by
  rcases wv_spec hc x y w with ⟨⟨i, h1⟩, h2⟩ | ⟨h1, _, h2⟩ | ⟨h1, h2⟩
  · rw [h2]
    exact ⟨fun z => by omega, fun z => by have := z i; omega⟩
  · rw [h2]; exact ⟨fun _ => h1, fun _ => by decide⟩
  · rw [h2]; exact ⟨fun _ i => Int.le_of_lt (h1 i), fun _ => by decide⟩
structure Cvx (C : List Pt) : Prop where
  len : 3 ≤ C.length
  nd : C.Nodup
  strict : ∀ (i : Int) (c : Pt), c ∈ C → c ≠ cz C i → c ≠ cz C (i + 1) → 0 < bnd (cz C i) (cz C (i + 1)) c
  turn : ∀ i : Int, 0 < bnd (cz C i) (cz C (i + 1)) (cz C (i + 2))
theorem Cvx.pos {C : List Pt} (h : Cvx C) : 0 < C.length := by have := h.len; omega
theorem Cvx.left {C : List Pt} (h : Cvx C) (i : Int) {c : Pt} (hc : c ∈ C) : 0 ≤ bnd (cz C i) (cz C (i + 1)) c := by
  by_cases h1 : c = cz C i
  · rw [h1, bnd_self]; omega
  · by_cases h2 : c = cz C (i + 1)
    · rw [h2, bnd_self2]; omega
    · exact Int.le_of_lt (h.strict i c hc h1 h2)
theorem Body.cvx {n : Nat} {C : List Pt} (h : Body n C) : Cvx C :=
  ⟨h.three, (let ⟨_, _, P⟩ := h.poly; P.nd), fun i _ hc h1 h2 => body_strict h i hc h1 h2, fun i => body_turn h i⟩
theorem Body.first {n : Nat} {C : List Pt} (h : Body n C) {c : Pt} (hc : c ∈ C) : c = cz C 0 ∨ lx (cz C 0) c := by
  obtain ⟨ps, hs, P⟩ := h.poly
  have h0 := h.pos
  have e : C.head? = some (cz C 0) := by
    have : cz C 0 = cy C 0 := cz_nat C 0
    rw [this, List.head?_eq_getElem?, cy_at h0]
  have e2 := P.fst
  rw [e] at e2
  have hm := P.sub c hc
  cases hp : ps with
  | nil => rw [hp] at hm; simp at hm
  | cons a r =>
    rw [hp] at e2 hm hs
    have : a = cz C 0 := (Option.some.inj e2).symm
    rcases List.mem_cons.mp hm with z | z
    · exact .inl (z.trans this)
    · rw [← this]
      exact .inr ((List.pairwise_cons.mp hs).1 c z)
theorem sup_id (u v t n : Pt) (x y w : Int) : bnd u v t * (x * n.1 + y * n.2 - w * dotp v n) = lfs (v, t) x y w * (dotp u n - dotp v n) + lfs (u, v) x y w * (dotp t n - dotp v n) := by unfold bnd dotp lfs; grind
theorem neg_dot (p n : Pt) : dotp p (negP n) = - dotp p n := by unfold dotp negP; grind
theorem cz_ne {C : List Pt} (h : Cvx C) (i : Int) : cz C i ≠ cz C (i + 1) := fun e => by
  have := h.turn i
  rw [e, bnd_self3] at this
  omega
theorem cross_pt {u v t q : Pt} (ht : 0 < bnd u v t) (h1 : bnd u v q = 0) (h2 : bnd v t q = 0) : q = v := by
  have e1 : bnd u v t * (q.1 - v.1) = bnd u v q * (t.1 - v.1) + bnd v t q * (u.1 - v.1) := by unfold bnd; grind
  have e2 : bnd u v t * (q.2 - v.2) = bnd u v q * (t.2 - v.2) + bnd v t q * (u.2 - v.2) := by unfold bnd; grind
  rw [h1, h2, Int.zero_mul, Int.zero_mul, Int.zero_add] at e1 e2
  have z1 := (Int.mul_eq_zero.mp e1).resolve_left (by omega)
  have z2 := (Int.mul_eq_zero.mp e2).resolve_left (by omega)
  exact Prod.ext (by omega) (by omega)
theorem hull_edge {ps : List Pt} (nc : NC ps) : (∀ q ∈ hullP (srtP ps), q ∈ ps) ∧ ∀ q ∈ ps, ∀ i, 0 ≤ bnd (cz (hullP (srtP ps)) i) (cz (hullP (srtP ps)) (i + 1)) q := by
  have nc2 : ¬ Col (srtP ps) := by
    obtain ⟨x, hx, y, hy, z, hz, e⟩ := nc
    exact fun k => e (k x ((mem_srtP x ps).mpr hx) y ((mem_srtP y ps).mpr hy) z ((mem_srtP z ps).mpr hz))
  have P := hull_poly (srtP_srt ps) nc2
  generalize hullP (srtP ps) = H at *
  have p3 := P.len
  have hpos : 0 < H.length := by omega
  refine ⟨fun q hq => (mem_srtP q ps).mp (P.sub q hq), fun q hq i => ?_⟩
  have hn := Int.emod_nonneg i (by omega : (H.length : Int) ≠ 0)
  have e2 : cz H (i + 1) = cy H ((i % (H.length : Int)).toNat + 1) := by
    rw [← cz_add1, show i % (H.length : Int) + 1 = (((i % (H.length : Int)).toNat + 1 : Nat) : Int) by omega, cz_nat]
  rw [show cz H i = cy H (i % (H.length : Int)).toNat from rfl, e2]
  exact poly_edge P ((mem_srtP q ps).mpr hq) _
theorem cy_map {C : List Pt} (f : Pt → Pt) (h : 0 < C.length) (k : Nat) : cy (C.map f) k = f (cy C k) := by
  have h1 : k % C.length < C.length := Nat.mod_lt _ h
  have e1 := cy_at (C := C.map f) (k := k % C.length) (by rw [List.length_map]; exact h1)
  rw [List.getElem?_map, cy_at h1] at e1
  have e2 : cy (C.map f) (k % C.length) = cy (C.map f) k := by
    have := cy_mod (C.map f) k
    rw [List.length_map] at this
    exact this
  rw [cy_mod, e2] at e1
  exact (Option.some.inj e1).symm
theorem cz_map {C : List Pt} (f : Pt → Pt) (h : 0 < C.length) (i : Int) : cz (C.map f) i = f (cz C i) := by
  unfold cz
  rw [List.length_map, cy_map f h]
theorem cvx_map {C : List Pt} {f : Pt → Pt} {k : Int} (h : Cvx C) (hk : 0 < k) (hf : ∀ a b c, bnd (f a) (f b) (f c) = k * bnd a b c) (hi : ∀ a b, f a = f b → a = b) : Cvx (C.map f) := by
  refine ⟨by rw [List.length_map]; exact h.len, ?_, fun i c hc h1 h2 => ?_, fun i => ?_⟩
  · exact List.Pairwise.map f (fun a b hab z => hab (hi a b z)) h.nd
  · obtain ⟨p, hp, rfl⟩ := List.mem_map.mp hc
    simp only [cz_map f h.pos] at h1 h2 ⊢
    rw [hf]
    exact Int.mul_pos hk (h.strict i p hp (fun z => h1 (by rw [z])) (fun z => h2 (by rw [z])))
  · rw [cz_map f h.pos, cz_map f h.pos, cz_map f h.pos, hf]
    exact Int.mul_pos hk (h.turn i)
theorem gapN_scale {A B : List Pt} {x y w : Int} {n m : Pt} {a b : Int} (a0 : 0 < A.length) (b0 : 0 < B.length) (ha : 0 ≤ a) (hb : 0 ≤ b) (h1 : a * n.1 = b * m.1) (h2 : a * n.2 = b * m.2) : a * gapN A B x y w n = b * gapN A B x y w m := by
  have e : ∀ p : Pt, a * dotp p n = b * dotp p m := fun p => by
    unfold dotp
    rw [Int.mul_add, Int.mul_add, Int.mul_left_comm a, Int.mul_left_comm a p.2, h1, h2, Int.mul_left_comm b, Int.mul_left_comm b p.2]
  have em : a * mostP A n = b * mostP A m := by
    obtain ⟨⟨p, hp, ep⟩, hm⟩ := most_spec n a0
    obtain ⟨⟨q, hq, eq⟩, hm'⟩ := most_spec m a0
    have l1 := Int.mul_le_mul_of_nonneg_left (hm' p hp) hb
    have l2 := Int.mul_le_mul_of_nonneg_left (hm q hq) ha
    rw [← e p, ep] at l1
    rw [e q, eq] at l2
    omega
  have el : a * leastP B n = b * leastP B m := by
    obtain ⟨⟨p, hp, ep⟩, hm⟩ := least_spec n b0
    obtain ⟨⟨q, hq, eq⟩, hm'⟩ := least_spec m b0
    have l1 := Int.mul_le_mul_of_nonneg_left (hm' p hp) hb
    have l2 := Int.mul_le_mul_of_nonneg_left (hm q hq) ha
    rw [← e p, ep] at l1
    rw [e q, eq] at l2
    omega
  unfold gapN
  have r1 : a * ((leastP B n - mostP A n) * w + (x * n.1 + y * n.2)) = (a * leastP B n - a * mostP A n) * w + (x * (a * n.1) + y * (a * n.2)) := by grind
  rw [r1, em, el, h1, h2]
  grind
theorem flush {C : List Pt} (h : Cvx C) {n : Pt} (hn : n ≠ (0, 0)) {a b : Pt} (ha : a ∈ C) (hb : b ∈ C) (hab : a ≠ b) (ma : ∀ c ∈ C, dotp c n ≤ dotp a n) (mb : dotp b n = dotp a n) :
    ∃ m ∈ normalsP C, ∃ s t : Int, 0 < s ∧ 0 < t ∧ s * n.1 = t * m.1 ∧ s * n.2 = t * m.2 := by
  obtain ⟨k, hk, rfl⟩ := mem_cz ha
  -- one of both neighbours lies as far
  have side : ∃ i : Int, dotp (cz C i) n = dotp (cz C (i + 1)) n ∧ ∀ c ∈ C, dotp c n ≤ dotp (cz C i) n := by
    have t := h.turn ((k : Int) - 1)
    rw [show (k : Int) - 1 + 1 = k by omega, show (k : Int) - 1 + 2 = k + 1 by omega] at t
    have id := sup_id (cz C ((k : Int) - 1)) (cz C k) (cz C ((k : Int) + 1)) n b.1 b.2 1
    have e1 : b.1 * n.1 + b.2 * n.2 - 1 * dotp (cz C k) n = 0 := by rw [Int.one_mul, ← mb]; unfold dotp; omega
    rw [e1, Int.mul_zero] at id
    have f : ∀ s : Pt × Pt, lfs s b.1 b.2 1 = bnd s.1 s.2 b := fun s => by unfold lfs bnd; simp only [Int.mul_one]
    rw [f, f] at id
    simp only at id
    have a1 := h.left k hb
    have a2 := h.left ((k : Int) - 1) hb
    rw [show (k : Int) - 1 + 1 = k by omega] at a2
    have b1 := ma _ (cz_mem h.pos ((k : Int) - 1))
    have b2 := ma _ (cz_mem h.pos ((k : Int) + 1))
    have c1 := Int.mul_nonneg a1 (show 0 ≤ dotp (cz C k) n - dotp (cz C ((k : Int) - 1)) n by omega)
    have c2 := Int.mul_nonneg a2 (show 0 ≤ dotp (cz C k) n - dotp (cz C ((k : Int) + 1)) n by omega)
    rw [Int.mul_sub] at c1 c2
    rw [Int.mul_sub, Int.mul_sub] at id
    have z1 : bnd (cz C k) (cz C ((k : Int) + 1)) b * (dotp (cz C k) n - dotp (cz C ((k : Int) - 1)) n) = 0 := by rw [Int.mul_sub]; omega
    have z2 : bnd (cz C ((k : Int) - 1)) (cz C k) b * (dotp (cz C k) n - dotp (cz C ((k : Int) + 1)) n) = 0 := by rw [Int.mul_sub]; omega
    rcases Int.mul_eq_zero.mp z2 with y2 | y2
    · rcases Int.mul_eq_zero.mp z1 with y1 | y1
      · exact absurd (cross_pt t y2 y1).symm hab
      · refine ⟨(k : Int) - 1, ?_, fun c hc => ?_⟩
        · rw [show (k : Int) - 1 + 1 = k by omega]; omega
        · have := ma c hc; omega
    · exact ⟨k, by omega, ma⟩
  obtain ⟨i, e, mx⟩ := side
  have mem : nrm (cz C i) (cz C (i + 1)) ∈ normalsP C := by
    have h1 := Int.emod_nonneg i (by have := h.pos; omega : (C.length : Int) ≠ 0)
    have h2 := Int.emod_lt_of_pos i (by have := h.pos; omega : 0 < (C.length : Int))
    unfold normalsP
    refine List.mem_map.mpr ⟨(i % (C.length : Int)).toNat, List.mem_range.mpr (by omega), ?_⟩
    rw [← cz_nat, ← cz_nat]
    rw [show (((i % (C.length : Int)).toNat : Nat) : Int) = i % (C.length : Int) by omega, cz_mod, show (((i % (C.length : Int)).toNat + 1 : Nat) : Int) = i % (C.length : Int) + 1 by omega, cz_add1]
  have t := h.turn i
  have m3 := mx _ (cz_mem h.pos (i + 2))
  generalize cz C i = u at *
  generalize cz C (i + 1) = v at *
  generalize cz C (i + 2) = q at *
  have key1 : ∀ p : Pt, dotp u n = dotp v n → (dotp (nrm u v) (nrm u v)) * n.1 = dotp n (nrm u v) * (nrm u v).1 ∧ (dotp (nrm u v) (nrm u v)) * n.2 = dotp n (nrm u v) * (nrm u v).2 := fun _ e => by
    have e' : (v.1 - u.1) * n.1 + (v.2 - u.2) * n.2 = 0 := by unfold dotp at e; grind
    unfold dotp nrm
    constructor <;> grind
  obtain ⟨k1, k2⟩ := key1 u e
  have p1 : 0 < dotp (nrm u v) (nrm u v) := by
    have hne : u ≠ v := fun z => by rw [z, bnd_self3] at t; omega
    have hs : 0 < sq u v := sq_pos hne
    have : dotp (nrm u v) (nrm u v) = sq u v := by unfold dotp nrm sq; grind
    omega
  have key3 : dotp (nrm u v) (nrm u v) * (dotp q n - dotp u n) = dotp n (nrm u v) * (- bnd u v q) := by
    have : dotp (nrm u v) (nrm u v) * (dotp q n - dotp u n) = (q.1 - u.1) * (dotp (nrm u v) (nrm u v) * n.1) + (q.2 - u.2) * (dotp (nrm u v) (nrm u v) * n.2) := by
      generalize dotp (nrm u v) (nrm u v) = N
      unfold dotp
      grind
    rw [this, k1, k2]
    generalize dotp n (nrm u v) = M
    unfold nrm bnd
    grind
  have p2 : 0 < dotp n (nrm u v) := by
    rcases Int.lt_trichotomy (dotp n (nrm u v)) 0 with z | z | z
    · have g1 := Int.mul_nonneg (Int.le_of_lt p1) (show 0 ≤ dotp u n - dotp q n by omega)
      have g2 := Int.mul_pos_of_neg_of_neg z (show - bnd u v q < 0 by omega)
      rw [← key3] at g2
      rw [Int.mul_sub] at g1 g2
      omega
    · exfalso
      rw [z, Int.zero_mul] at k1 k2
      exact hn (Prod.ext ((Int.mul_eq_zero.mp k1).resolve_left (by omega)) ((Int.mul_eq_zero.mp k2).resolve_left (by omega)))
    · exact z
  exact ⟨_, mem, _, _, p1, p2, k1, k2⟩
theorem triangle {H : List Pt} (h : Cvx H) {q : Pt} (hq : ∀ i, 0 ≤ bnd (cz H i) (cz H (i + 1)) q) : ∃ u ∈ H, ∃ v ∈ H, ∃ t ∈ H, ∃ a b c : Int, 0 ≤ a ∧ 0 ≤ b ∧ 0 ≤ c ∧ 0 < a + b + c ∧
    (a + b + c) * q.1 = a * u.1 + b * v.1 + c * t.1 ∧ (a + b + c) * q.2 = a * u.2 + b * v.2 + c * t.2 := by
  have n3 := h.len
  -- where the fan from corner 0 turns
  have fan : ∀ j : Nat, (∃ k : Nat, 1 ≤ k ∧ k < j + 1 ∧ 0 ≤ bnd (cz H 0) (cz H k) q ∧ bnd (cz H 0) (cz H ((k : Int) + 1)) q ≤ 0) ∨ 0 ≤ bnd (cz H 0) (cz H ((j : Int) + 1)) q := by
    intro j
    induction j with
    | zero => exact .inr (hq 0)
    | succ j ih =>
      rcases ih with ⟨k, k1, k2, k3⟩ | ih
      · exact .inl ⟨k, k1, by omega, k3⟩
      · by_cases z : bnd (cz H 0) (cz H (((j + 1 : Nat) : Int) + 1)) q ≤ 0
        · exact .inl ⟨j + 1, by omega, by omega, ih, z⟩
        · exact .inr (by omega)
  have last : bnd (cz H 0) (cz H ((H.length : Int) - 1)) q ≤ 0 := by
    have := hq ((H.length : Int) - 1)
    rw [show (H.length : Int) - 1 + 1 = 0 + (H.length : Int) by omega, cz_add] at this
    rw [bnd_swap] at this
    omega
  have ex : ∃ k : Nat, 1 ≤ k ∧ k + 1 < H.length ∧ 0 ≤ bnd (cz H 0) (cz H k) q ∧ bnd (cz H 0) (cz H ((k : Int) + 1)) q ≤ 0 := by
    rcases fan (H.length - 3) with ⟨k, k1, k2, k3⟩ | z
    · exact ⟨k, k1, by omega, k3⟩
    · refine ⟨H.length - 2, by omega, by omega, ?_, ?_⟩
      · rw [show ((H.length - 3 : Nat) : Int) + 1 = ((H.length - 2 : Nat) : Int) by omega] at z
        exact z
      · rw [show ((H.length - 2 : Nat) : Int) + 1 = (H.length : Int) - 1 by omega]
        exact last
  obtain ⟨k, k1, k2, k3, k4⟩ := ex
  have ne : ∀ j : Nat, 1 ≤ j → j < H.length → cz H 0 ≠ cz H j := fun j h1 h2 e => by
    have e0 : cz H 0 = cy H 0 := cz_nat H 0
    rw [e0, cz_nat] at e
    have g0 := cy_at (C := H) (k := 0) (by omega)
    have gj := cy_at (C := H) (k := j) h2
    rw [e, ← gj] at g0
    have := (List.getElem?_inj (by omega) h.nd).mp g0
    omega
  have big := h.strict k (cz H 0) (cz_mem h.pos 0) (ne k k1 (by omega)) (by rw [show (k : Int) + 1 = ((k + 1 : Nat) : Int) by omega]; exact ne (k + 1) (by omega) k2)
  have hk := hq k
  refine ⟨cz H 0, cz_mem h.pos 0, cz H k, cz_mem h.pos k, cz H ((k : Int) + 1), cz_mem h.pos _, bnd (cz H k) (cz H ((k : Int) + 1)) q, - bnd (cz H 0) (cz H ((k : Int) + 1)) q, bnd (cz H 0) (cz H k) q, hk, by omega, k3, ?_, ?_, ?_⟩
  all_goals
    generalize cz H 0 = u at *
    generalize cz H k = v at *
    generalize cz H ((k : Int) + 1) = t at *
  · have : bnd v t q + - bnd u t q + bnd u v q = bnd v t u := by unfold bnd; grind
    omega
  · unfold bnd; grind
  · unfold bnd; grind
def dif (w x y : Int) (a b : Pt) : Pt := (w * a.1 - (w * b.1 + x), w * a.2 - (w * b.2 + y))
theorem dif_dot (w x y : Int) (a b n : Pt) : dotp (dif w x y a b) n = w * dotp a n - (w * dotp b n + (x * n.1 + y * n.2)) := by unfold dotp dif; grind
def InB (A B : List Pt) (x y w X Y W : Int) : Prop := (∀ i, 0 ≤ lft A i X Y W) ∧ ∀ i, 0 ≤ lft B i (X * w - x * W) (Y * w - y * W) (w * W)
theorem meet_of {A B : List Pt} (hA : Cvx A) (hB : Cvx B) {x y w : Int} (hw : 0 < w) (hg : ∀ n ∈ dirsP A B, gapN A B x y w n ≤ 0) : ∃ X Y W, 0 < W ∧ InB A B x y w X Y W := by
  let M : List Pt := A.flatMap fun a => B.map fun b => dif w x y a b
  have memM : ∀ {q : Pt}, q ∈ M ↔ ∃ a ∈ A, ∃ b ∈ B, dif w x y a b = q := by
    intro q
    simp only [M, List.mem_flatMap, List.mem_map]
  have nc : NC M := by
    refine ⟨dif w x y (cz A 0) (cz B 0), memM.mpr ⟨_, cz_mem hA.pos _, _, cz_mem hB.pos _, rfl⟩, dif w x y (cz A (0 + 1)) (cz B 0), memM.mpr ⟨_, cz_mem hA.pos _, _, cz_mem hB.pos _, rfl⟩, dif w x y (cz A (0 + 2)) (cz B 0), memM.mpr ⟨_, cz_mem hA.pos _, _, cz_mem hB.pos _, rfl⟩, ?_⟩
    have e : bnd (dif w x y (cz A 0) (cz B 0)) (dif w x y (cz A (0 + 1)) (cz B 0)) (dif w x y (cz A (0 + 2)) (cz B 0)) = w * w * bnd (cz A 0) (cz A (0 + 1)) (cz A (0 + 2)) := by unfold bnd dif; grind
    rw [e]
    have := Int.mul_pos (Int.mul_pos hw hw) (hA.turn 0)
    omega
  have nc2 : ¬ Col (srtP M) := by
    obtain ⟨a, ha, b, hb, c, hc, e⟩ := nc
    exact fun k => e (k a ((mem_srtP a M).mpr ha) b ((mem_srtP b M).mpr hb) c ((mem_srtP c M).mpr hc))
  have P := hull_poly (srtP_srt M) nc2
  have hH : Cvx (hullP (srtP M)) := by
    have p3 := P.len
    refine ⟨p3, P.nd, fun i c hc h1 h2 => ?_, fun i => ?_⟩
    all_goals
      have hn := Int.emod_nonneg i (by omega : ((hullP (srtP M)).length : Int) ≠ 0)
      have e1 : cz (hullP (srtP M)) i = cy (hullP (srtP M)) (i % ((hullP (srtP M)).length : Int)).toNat := rfl
      have e2 : cz (hullP (srtP M)) (i + 1) = cy (hullP (srtP M)) ((i % ((hullP (srtP M)).length : Int)).toNat + 1) := by
        rw [← cz_add1, show i % ((hullP (srtP M)).length : Int) + 1 = (((i % ((hullP (srtP M)).length : Int)).toNat + 1 : Nat) : Int) by omega, cz_nat]
    · rw [e1] at h1
      rw [e2] at h2
      rw [e1, e2]
      exact poly_strict P _ hc h1 h2
    · have e3 : cz (hullP (srtP M)) (i + 2) = cy (hullP (srtP M)) ((i % ((hullP (srtP M)).length : Int)).toNat + 2) := by
        rw [show cz (hullP (srtP M)) (i + 2) = cz (hullP (srtP M)) (i % ((hullP (srtP M)).length : Int) + 2) from cz_congr (by rw [Int.emod_add_emod]), show i % ((hullP (srtP M)).length : Int) + 2 = (((i % ((hullP (srtP M)).length : Int)).toNat + 2 : Nat) : Int) by omega, cz_nat]
      rw [e1, e2, e3]
      exact poly_turn P _
  obtain ⟨hsub, hedge⟩ := hull_edge nc
  generalize hullP (srtP M) = H at *
  -- nought lies within
  have zero : ∀ i, 0 ≤ bnd (cz H i) (cz H (i + 1)) (0, 0) := by
    intro i
    have hne := cz_ne hH i
    obtain ⟨a1, ha1, b1, hb1, e1⟩ := memM.mp (hsub _ (cz_mem hH.pos i))
    obtain ⟨a2, ha2, b2, hb2, e2⟩ := memM.mp (hsub _ (cz_mem hH.pos (i + 1)))
    have ed := fun q hq => hedge q hq i
    generalize cz H i = u at *
    generalize cz H (i + 1) = v at *
    have far : ∀ q ∈ M, dotp q (nrm u v) ≤ dotp u (nrm u v) := fun q hq => by
      have := ed q hq
      rw [dot_nrm]
      omega
    have e0 : bnd u v (0, 0) = dotp u (nrm u v) := by
      have := dot_nrm u v (0, 0)
      have z : dotp (0, 0) (nrm u v) = 0 := by unfold dotp; simp
      omega
    have nn : nrm u v ≠ (0, 0) := fun z => by
      apply hne
      have z1 := congrArg Prod.fst z
      have z2 := congrArg Prod.snd z
      unfold nrm at z1 z2
      simp only at z1 z2
      exact Prod.ext (by omega) (by omega)
    have ve := dot_nrm2 u v
    generalize nrm u v = n at *
    have le_of : ∀ {p q : Int}, w * p ≤ w * q → p ≤ q := fun h => Int.le_of_mul_le_mul_left h hw
    have fa : ∀ a ∈ A, dotp a n ≤ dotp a1 n := fun a ha => by
      have := far _ (memM.mpr ⟨a, ha, b1, hb1, rfl⟩)
      rw [← e1, dif_dot, dif_dot] at this
      exact le_of (by omega)
    have fb : ∀ b ∈ B, dotp b1 n ≤ dotp b n := fun b hb => by
      have := far _ (memM.mpr ⟨a1, ha1, b, hb, rfl⟩)
      rw [← e1, dif_dot, dif_dot] at this
      exact le_of (by omega)
    have same : dotp a2 n = dotp a1 n ∧ dotp b2 n = dotp b1 n := by
      have g1 := fa a2 ha2
      have g2 := fb b2 hb2
      rw [← e1, ← e2, dif_dot, dif_dot] at ve
      have l1 := Int.mul_le_mul_of_nonneg_left g1 (Int.le_of_lt hw)
      have l2 := Int.mul_le_mul_of_nonneg_left g2 (Int.le_of_lt hw)
      have m1 : dotp a1 n ≤ dotp a2 n := le_of (by omega)
      have m2 : dotp b2 n ≤ dotp b1 n := le_of (by omega)
      omega
    have gv : gapN A B x y w n = - dotp u n := by
      obtain ⟨⟨p, hp, ep⟩, hm⟩ := most_spec n hA.pos
      obtain ⟨⟨q, hq, eq⟩, hl⟩ := least_spec n hB.pos
      have i1 := hm a1 ha1
      have i2 := fa p hp
      have i3 := hl b1 hb1
      have i4 := fb q hq
      have j1 : mostP A n = dotp a1 n := by omega
      have j2 : leastP B n = dotp b1 n := by omega
      unfold gapN
      rw [j1, j2, ← e1, dif_dot, Int.sub_mul, Int.mul_comm w, Int.mul_comm w]
      omega
    rw [e0]
    by_cases za : a1 = a2
    · have zb : b1 ≠ b2 := fun z => hne (by rw [← e1, ← e2, za, z])
      obtain ⟨m, hm, s, t, hs, ht, h1, h2⟩ := flush hB (n := negP n) (fun z => nn (by
        have z1 := congrArg Prod.fst z
        have z2 := congrArg Prod.snd z
        unfold negP at z1 z2
        simp only at z1 z2
        exact Prod.ext (by show n.1 = 0; omega) (by show n.2 = 0; omega))) hb1 hb2 zb (fun c hc => by rw [neg_dot, neg_dot]; have := fb c hc; omega) (by rw [neg_dot, neg_dot, same.2])
      have := gapN_scale (x := x) (y := y) (w := w) (n := n) (m := negP m) hA.pos hB.pos (Int.le_of_lt hs) (Int.le_of_lt ht) (by
        unfold negP at h1 ⊢
        simp only at h1 ⊢
        rw [Int.mul_neg] at h1 ⊢
        omega) (by
        unfold negP at h2 ⊢
        simp only at h2 ⊢
        rw [Int.mul_neg] at h2 ⊢
        omega)
      have g := hg (negP m) (List.mem_append_right _ (List.mem_map_of_mem hm))
      have g2 := Int.mul_nonneg (Int.le_of_lt ht) (show 0 ≤ - gapN A B x y w (negP m) by omega)
      rw [Int.mul_neg] at g2
      apply Classical.byContradiction
      intro z
      have := Int.mul_pos hs (show 0 < gapN A B x y w n by omega)
      omega
    · obtain ⟨m, hm, s, t, hs, ht, h1, h2⟩ := flush hA nn ha1 ha2 za fa same.1
      have := gapN_scale (x := x) (y := y) (w := w) (n := n) (m := m) hA.pos hB.pos (Int.le_of_lt hs) (Int.le_of_lt ht) h1 h2
      have g := hg m (List.mem_append_left _ hm)
      have g2 := Int.mul_nonneg (Int.le_of_lt ht) (show 0 ≤ - gapN A B x y w m by omega)
      rw [Int.mul_neg] at g2
      apply Classical.byContradiction
      intro z
      have := Int.mul_pos hs (show 0 < gapN A B x y w n by omega)
      omega
  obtain ⟨u, hu, v, hv, t, ht, a, b, c, ha, hb, hc, hs, q1, q2⟩ := triangle hH zero
  obtain ⟨p1, hp1, r1, hr1, rfl⟩ := memM.mp (hsub _ hu)
  obtain ⟨p2, hp2, r2, hr2, rfl⟩ := memM.mp (hsub _ hv)
  obtain ⟨p3, hp3, r3, hr3, rfl⟩ := memM.mp (hsub _ ht)
  have comb : ∀ (s : Pt × Pt) (k : Int) (p q r : Pt), lfs s (k * (a * p.1 + b * q.1 + c * r.1)) (k * (a * p.2 + b * q.2 + c * r.2)) (k * (a + b + c)) = k * (a * bnd s.1 s.2 p + b * bnd s.1 s.2 q + c * bnd s.1 s.2 r) := fun s k p q r => by unfold lfs bnd; grind
  have nnc : ∀ {C : List Pt} (h : Cvx C) (i : Int) {p q r : Pt}, p ∈ C → q ∈ C → r ∈ C → 0 ≤ a * bnd (cz C i) (cz C (i + 1)) p + b * bnd (cz C i) (cz C (i + 1)) q + c * bnd (cz C i) (cz C (i + 1)) r := fun {C} h i {p q r} hp hq hr => by
    have := Int.mul_nonneg ha (h.left i hp)
    have := Int.mul_nonneg hb (h.left i hq)
    have := Int.mul_nonneg hc (h.left i hr)
    omega
  refine ⟨a * p1.1 + b * p2.1 + c * p3.1, a * p1.2 + b * p2.2 + c * p3.2, a + b + c, hs, fun i => ?_, fun i => ?_⟩
  · unfold lft
    have := comb (cz A i, cz A (i + 1)) 1 p1 p2 p3
    rw [Int.one_mul, Int.one_mul, Int.one_mul, Int.one_mul] at this
    rw [this]
    exact nnc hA i hp1 hp2 hp3
  · unfold lft
    have s1 : (a * p1.1 + b * p2.1 + c * p3.1) * w - x * (a + b + c) = w * (a * r1.1 + b * r2.1 + c * r3.1) := by
      unfold dif at q1
      grind
    have s2 : (a * p1.2 + b * p2.2 + c * p3.2) * w - y * (a + b + c) = w * (a * r1.2 + b * r2.2 + c * r3.2) := by
      unfold dif at q2
      grind
    rw [s1, s2, comb (cz B i, cz B (i + 1)) w r1 r2 r3]
    exact Int.mul_nonneg (Int.le_of_lt hw) (nnc hB i hr1 hr2 hr3)
def InS (A B : List Pt) (x y w X Y W : Int) : Prop := (∀ i, 0 < lft A i X Y W) ∧ ∀ i, 0 < lft B i (X * w - x * W) (Y * w - y * W) (w * W)
theorem most_map {C : List Pt} {f : Pt → Pt} {n : Pt} {k e : Int} (h : 0 < C.length) (hk : 0 ≤ k) (hf : ∀ p, dotp (f p) n = k * dotp p n + e) : mostP (C.map f) n = k * mostP C n + e := by
  obtain ⟨⟨p, hp, ep⟩, hm⟩ := most_spec n h
  obtain ⟨⟨q, hq, eq⟩, hm'⟩ := most_spec (C := C.map f) n (by rw [List.length_map]; exact h)
  obtain ⟨r, hr, rfl⟩ := List.mem_map.mp hq
  have l1 := hm' _ (List.mem_map_of_mem (f := f) hp)
  have l2 := Int.mul_le_mul_of_nonneg_left (hm r hr) hk
  rw [hf] at l1 eq
  rw [← ep] at l2 ⊢
  omega
theorem least_map {C : List Pt} {f : Pt → Pt} {n : Pt} {k e : Int} (h : 0 < C.length) (hk : 0 ≤ k) (hf : ∀ p, dotp (f p) n = k * dotp p n + e) : leastP (C.map f) n = k * leastP C n + e := by
  obtain ⟨⟨p, hp, ep⟩, hm⟩ := least_spec n h
  obtain ⟨⟨q, hq, eq⟩, hm'⟩ := least_spec (C := C.map f) n (by rw [List.length_map]; exact h)
  obtain ⟨r, hr, rfl⟩ := List.mem_map.mp hq
  have l1 := hm' _ (List.mem_map_of_mem (f := f) hp)
  have l2 := Int.mul_le_mul_of_nonneg_left (hm r hr) hk
  rw [hf] at l1 eq
  rw [← ep] at l2 ⊢
  omega
theorem bound_ex (f : Pt → Int) : ∀ l : List Pt, ∃ N : Int, 1 ≤ N ∧ ∀ n ∈ l, f n ≤ N
  | [] => ⟨1, by decide, fun _ h => absurd h (by simp)⟩
  | a :: l => by
    obtain ⟨N, h1, h2⟩ := bound_ex f l
    refine ⟨max N (f a), by omega, fun n hn => ?_⟩
    rcases List.mem_cons.mp hn with e | e
    · rw [e]; omega
    · have := h2 n e; omega
theorem normals_map {C : List Pt} {f : Pt → Pt} (h : 0 < C.length) : normalsP (C.map f) = (List.range C.length).map fun k => nrm (f (cy C k)) (f (cy C (k + 1))) := by
  unfold normalsP
  rw [List.length_map]
  exact List.map_congr_left fun k _ => by rw [cy_map f h, cy_map f h]
theorem sum_pos {C : List Pt} (h : Cvx C) (i : Int) : 0 < bnd (cz C i) (cz C (i + 1)) (cz C 0) + bnd (cz C i) (cz C (i + 1)) (cz C (0 + 1)) + bnd (cz C i) (cz C (i + 1)) (cz C (0 + 2)) := by
  have l0 := h.left i (cz_mem h.pos 0)
  have l1 := h.left i (cz_mem h.pos (0 + 1))
  have l2 := h.left i (cz_mem h.pos (0 + 2))
  apply Classical.byContradiction
  intro z
  have on : ∀ j, bnd (cz C i) (cz C (i + 1)) (cz C j) = 0 → cz C j = cz C i ∨ cz C j = cz C (i + 1) := fun j e => by
    apply Classical.byContradiction
    intro n
    have := h.strict i _ (cz_mem h.pos j) (fun y => n (.inl y)) (fun y => n (.inr y))
    omega
  have t := h.turn 0
  have o0 := on 0 (by omega)
  have o1 := on (0 + 1) (by omega)
  have o2 := on (0 + 2) (by omega)
  rcases o0 with a | a <;> rcases o1 with b | b <;> rcases o2 with c | c <;> rw [a, b, c] at t
  all_goals first
    | rw [bnd_self3] at t; omega
    | rw [bnd_self] at t; omega
    | rw [bnd_self2] at t; omega
theorem inner_of {A B : List Pt} (hA : Cvx A) (hB : Cvx B) {x y w : Int} (hw : 0 < w) (hg : ∀ n ∈ dirsP A B, gapN A B x y w n < 0) : ∃ X Y W, 0 < W ∧ InS A B x y w X Y W := by
  let sA : Pt := ((cz A 0).1 + (cz A (0 + 1)).1 + (cz A (0 + 2)).1, (cz A 0).2 + (cz A (0 + 1)).2 + (cz A (0 + 2)).2)
  let sB : Pt := ((cz B 0).1 + (cz B (0 + 1)).1 + (cz B (0 + 2)).1, (cz B 0).2 + (cz B (0 + 1)).2 + (cz B (0 + 2)).2)
  obtain ⟨N, hN, hb⟩ := bound_ex (fun n => (dotp sB n - dotp sA n) * w + 3 * (x * n.1 + y * n.2)) (dirsP A B)
  let f : Pt → Pt → Pt := fun s p => (3 * N * p.1 + s.1, 3 * N * p.2 + s.2)
  have fb : ∀ s a b c : Pt, bnd (f s a) (f s b) (f s c) = 9 * (N * N) * bnd a b c := fun s a b c => by simp only [f]; unfold bnd; grind
  have n9 : 0 < 9 * (N * N) := by have := Int.mul_pos (show 0 < N by omega) (show 0 < N by omega); omega
  have fi : ∀ s a b : Pt, f s a = f s b → a = b := fun s a b h => by
    have h1 := congrArg Prod.fst h
    have h2 := congrArg Prod.snd h
    simp only [f] at h1 h2
    have e1 : 3 * N * a.1 = 3 * N * b.1 := by omega
    have e2 : 3 * N * a.2 = 3 * N * b.2 := by omega
    exact Prod.ext (Int.eq_of_mul_eq_mul_left (by omega) e1) (Int.eq_of_mul_eq_mul_left (by omega) e2)
  have cA := cvx_map (f := f sA) hA n9 (fb sA) (fi sA)
  have cB := cvx_map (f := f sB) hB n9 (fb sB) (fi sB)
  have fd : ∀ s n p : Pt, dotp (f s p) n = 3 * N * dotp p n + dotp s n := fun s n p => by simp only [f]; unfold dotp; grind
  have gs : ∀ n ∈ dirsP A B, gapN (A.map (f sA)) (B.map (f sB)) (3 * (N + 1) * x) (3 * (N + 1) * y) w n ≤ 0 := fun n hn => by
    have e : gapN (A.map (f sA)) (B.map (f sB)) (3 * (N + 1) * x) (3 * (N + 1) * y) w n = 3 * N * gapN A B x y w n + ((dotp sB n - dotp sA n) * w + 3 * (x * n.1 + y * n.2)) := by
      unfold gapN
      rw [most_map hA.pos (by omega) (fd sA n), least_map hB.pos (by omega) (fd sB n)]
      grind
    rw [e]
    have h1 := hb n hn
    have h2 := Int.mul_nonneg (show 0 ≤ 3 * N by omega) (show 0 ≤ -1 - gapN A B x y w n by have := hg n hn; omega)
    rw [Int.mul_sub] at h2
    omega
  have nf : ∀ s a b : Pt, nrm (f s a) (f s b) = (3 * N * (nrm a b).1, 3 * N * (nrm a b).2) := fun s a b => by
    simp only [f]
    unfold nrm
    exact Prod.ext (by simp only; grind) (by simp only; grind)
  have gd : ∀ n ∈ dirsP (A.map (f sA)) (B.map (f sB)), gapN (A.map (f sA)) (B.map (f sB)) (3 * (N + 1) * x) (3 * (N + 1) * y) w n ≤ 0 := fun n hn => by
    have ex : ∃ m ∈ dirsP A B, n = (3 * N * m.1, 3 * N * m.2) := by
      rcases List.mem_append.mp hn with h | h
      · rw [normals_map hA.pos] at h
        obtain ⟨k, hk, rfl⟩ := List.mem_map.mp h
        exact ⟨_, List.mem_append_left _ (List.mem_map_of_mem (f := fun k => nrm (cy A k) (cy A (k + 1))) hk), nf _ _ _⟩
      · rw [normals_map hB.pos] at h
        obtain ⟨m, hm, rfl⟩ := List.mem_map.mp h
        obtain ⟨k, hk, rfl⟩ := List.mem_map.mp hm
        refine ⟨_, List.mem_append_right _ (List.mem_map_of_mem (f := negP) (List.mem_map_of_mem (f := fun k => nrm (cy B k) (cy B (k + 1))) hk)), ?_⟩
        rw [nf]
        unfold negP
        simp only [Int.mul_neg]
    obtain ⟨m, hm, rfl⟩ := ex
    have e := gapN_scale (A := A.map (f sA)) (B := B.map (f sB)) (x := 3 * (N + 1) * x) (y := 3 * (N + 1) * y) (w := w) (n := (3 * N * m.1, 3 * N * m.2)) (m := m) (a := 1) (b := 3 * N) cA.pos cB.pos (by decide) (by omega) (by simp only [Int.one_mul]) (by simp only [Int.one_mul])
    have g := gs m hm
    rw [Int.one_mul] at e
    rw [e]
    have := Int.mul_nonneg (show 0 ≤ 3 * N by omega) (show 0 ≤ - gapN (A.map (f sA)) (B.map (f sB)) (3 * (N + 1) * x) (3 * (N + 1) * y) w m by omega)
    rw [Int.mul_neg] at this
    omega
  obtain ⟨X, Y, W, hW, h1, h2⟩ := meet_of cA cB hw gd
  have id : ∀ (C : List Pt) (a b : Pt) (X Y W : Int) (s : Pt), s = ((cz C 0).1 + (cz C (0 + 1)).1 + (cz C (0 + 2)).1, (cz C 0).2 + (cz C (0 + 1)).2 + (cz C (0 + 2)).2) →
      3 * N * lfs (a, b) X Y (3 * (N + 1) * W) = lfs (f s a, f s b) X Y W + 3 * N * (W * (bnd a b (cz C 0) + bnd a b (cz C (0 + 1)) + bnd a b (cz C (0 + 2)))) := fun C a b X Y W s e => by
    rw [e]
    simp only [f]
    unfold lfs bnd
    grind
  have pos : ∀ {z : Int}, 0 < 3 * N * z → 0 < z := fun {z} h => by
    apply Classical.byContradiction
    intro n
    have := Int.mul_nonneg (show 0 ≤ 3 * N by omega) (show 0 ≤ -z by omega)
    rw [Int.mul_neg] at this
    omega
  refine ⟨X, Y, 3 * (N + 1) * W, Int.mul_pos (by omega) hW, fun i => ?_, fun i => ?_⟩
  · have k := h1 i
    unfold lft at k ⊢
    rw [cz_map _ hA.pos, cz_map _ hA.pos] at k
    apply pos
    rw [id A _ _ X Y W sA rfl]
    have := Int.mul_pos (show 0 < 3 * N by omega) (Int.mul_pos hW (sum_pos hA i))
    omega
  · have k := h2 i
    unfold lft at k ⊢
    rw [cz_map _ hB.pos, cz_map _ hB.pos] at k
    apply pos
    have e1 : X * w - x * (3 * (N + 1) * W) = X * w - 3 * (N + 1) * x * W := by grind
    have e2 : Y * w - y * (3 * (N + 1) * W) = Y * w - 3 * (N + 1) * y * W := by grind
    have e3 : w * (3 * (N + 1) * W) = 3 * (N + 1) * (w * W) := by grind
    rw [e1, e2, e3, id B _ _ _ _ (w * W) sB rfl]
    have := Int.mul_pos (show 0 < 3 * N by omega) (Int.mul_pos (Int.mul_pos hw hW) (sum_pos hB i))
    omega
abbrev Tr := Int × Int × Int
def D3t (t : Tr) : D := D3 t.1 t.2.1 t.2.2
def spT (x y w : Int) : Tr := (sX x y w, sY x y w, sW x y w)
def crM (s t : Pt × Pt) : Int := (s.2.1 - s.1.1) * (t.2.2 - t.1.2) - (s.2.2 - s.1.2) * (t.2.1 - t.1.1)
def crU (s t : Pt × Pt) (x y w : Int) : Int := ((t.1.1 - s.1.1) * w + x) * (t.2.2 - t.1.2) - ((t.1.2 - s.1.2) * w + y) * (t.2.1 - t.1.1)
def crV (s t : Pt × Pt) (x y w : Int) : Int := ((t.1.1 - s.1.1) * w + x) * (s.2.2 - s.1.2) - ((t.1.2 - s.1.2) * w + y) * (s.2.1 - s.1.1)
def crT (s : Pt × Pt) (w m u : Int) : Tr := spT (s.1.1 * w * m + (s.2.1 - s.1.1) * u) (s.1.2 * w * m + (s.2.2 - s.1.2) * u) (w * m)
def crIn (w m u v : Int) : Prop := (0 ≤ u ∧ u ≤ w * m) ∧ 0 ≤ v ∧ v ≤ w * m
instance (w m u v : Int) : Decidable (crIn w m u v) := by unfold crIn; infer_instance
def crossP (s t : Pt × Pt) (x y w : Int) : Option Tr :=
  if crM s t = 0 then none
  else if crM s t < 0 then (if crIn w (-crM s t) (-crU s t x y w) (-crV s t x y w) then some (crT s w (-crM s t) (-crU s t x y w)) else none)
  else if crIn w (crM s t) (crU s t x y w) (crV s t x y w) then some (crT s w (crM s t) (crU s t x y w)) else none
theorem dIs_D3t (t : Tr) : dIs (D3t t) .non = some (.bl false) := rfl
theorem dIsN_D3t (t : Tr) : dIsNot (D3t t) .non = some (.bl true) := rfl
theorem dAt_u0 (t : Tr) : dAt (D3t t) (.int 0) = some (.int t.1) := rfl
theorem dAt_u1 (t : Tr) : dAt (D3t t) (.int 1) = some (.int t.2.1) := rfl
theorem dAt_u2 (t : Tr) : dAt (D3t t) (.int 2) = some (.int t.2.2) := rfl
structure BdT (n : Nat) (t : Tr) : Prop where
  a : Bd n t.1
  b : Bd n t.2.1
  c : Bd n t.2.2
theorem BdT.mono {m n : Nat} {t : Tr} (h : BdT m t) (l : m ≤ n) : BdT n t := ⟨h.a.mono l, h.b.mono l, h.c.mono l⟩
def aheadB (a b : Tr) : Bool := if a.1 * b.2.2 = b.1 * a.2.2 then decide (a.2.1 * b.2.2 < b.2.1 * a.2.2) else decide (a.1 * b.2.2 < b.1 * a.2.2)
def insT (t : Tr) : List Tr → List Tr
  | [] => [t]
  | a :: r => if aheadB a t = true then a :: insT t r else if a = t then a :: r else t :: a :: r
def ordT (l : List Tr) : List Tr := l.foldl (fun told t => insT t told) []
theorem mem_insT {u t : Tr} : ∀ {l : List Tr}, u ∈ insT t l ↔ u = t ∨ u ∈ l
  | [] => by unfold insT; simp
  | a :: r => by
    unfold insT
    split
    · rw [List.mem_cons, mem_insT, List.mem_cons]
      constructor
      · rintro (h | h | h)
        · exact .inr (.inl h)
        · exact .inl h
        · exact .inr (.inr h)
      · rintro (h | h | h)
        · exact .inr (.inl h)
        · exact .inl h
        · exact .inr (.inr h)
    · split
      · rename_i h
        subst h
        constructor
        · exact .inr
        · rintro (h | h)
          · rw [h]; exact List.mem_cons_self
          · exact h
      · exact List.mem_cons
theorem dEqN_D3t (t u : Tr) : dNe (D3t t) (D3t u) = some (.bl (!decide (t = u))) := by
  show dNe (D3 _ _ _) (D3 _ _ _) = _
  rw [dNe_D3]
  congr 3
  exact decide_eq_decide.mpr ⟨fun h => Prod.ext h.1 (Prod.ext h.2.1 h.2.2), fun h => by rw [h]; exact ⟨rfl, rfl, rfl⟩⟩
end Law
namespace Law
open PySem PySem.Spec PyProof.Rows L2 GD Hl
local macro_rules | `(tactic| walk_at "bd") => `(tactic| first
  | with_reducible assumption
  | with_reducible exact Bd.litO _
  | ((with_reducible refine' Bd.mul ?h ?g); (case h => walk_at "bd"); (case g => walk_at "bd"))
  | ((with_reducible refine' Bd.add ?h ?g); (case h => walk_at "bd"); (case g => walk_at "bd"))
  | ((with_reducible refine' Bd.sub ?h ?g); (case h => walk_at "bd"); (case g => walk_at "bd"))
  | ((with_reducible refine' Bd.neg ?h); (case h => walk_at "bd"))
  | ((with_reducible refine' Bd.emod ?h); (case h => walk_at "pos"))
  | ((with_reducible refine' Bd.ediv ?h); (case h => walk_at "bd"))
  | ((with_reducible refine' bd_fT ?h); (case h => walk_at "bd"))
  | ((with_reducible refine' bd_fB ?h); (case h => walk_at "bd"))
  | ((with_reducible refine' bd_sX ?h); (case h => walk_at "bd"))
  | ((with_reducible refine' bd_sY ?h); (case h => walk_at "bd"))
  | ((with_reducible refine' bd_sW ?h); (case h => walk_at "bd"))
  | ((with_reducible refine' bd_abs ?h); (case h => walk_at "bd"))
  | ((with_reducible refine' BdP.a ?h); (case h => walk_at "bdq"))
  | ((with_reducible refine' BdP.b ?h); (case h => walk_at "bdq"))
  | with_reducible exact bd_ite1
  | ((with_reducible refine' bd_ite ?h ?g); (case h => walk_at "bd"); (case g => walk_at "bd")))
local macro_rules | `(tactic| walk_at "pos") => `(tactic| first
  | with_reducible assumption
  | decide
  | omega)
local macro_rules | `(tactic| walk_at "bdq") => `(tactic| first
  | with_reducible assumption
  | ((with_reducible refine' bd_cy ?h ?g _); (case h => with_reducible assumption); (case g => first | with_reducible assumption | omega))
  | ((with_reducible refine' bd_mem ?h ?g); (case g => with_reducible assumption); (case h => with_reducible assumption))
  | ((with_reducible refine' bd_get ?h); (case h => with_reducible assumption)))
local macro_rules | `(tactic| walk_at "bdp") => `(tactic| first
  | walk_at "bdq"
  | ((with_reducible refine' BdP.mk ?h ?g); (case h => walk_at "bd"); (case g => walk_at "bd")))
local macro_rules | `(tactic| walk_at "num") => `(tactic| first
  | with_reducible assumption
  | omega
  | decide +kernel
  | (simp only [Nat.reduceLog2]; omega))
local macro_rules | `(tactic| walk_at "dis") => `(tactic| first
  | with_reducible assumption
  | ((with_reducible refine' mok ?h ?g ?l); (case h => walk_at "bd"); (case g => walk_at "bd"); (case l => walk_at "num"))
  | ((with_reducible refine' Bd.mono ?h ?l); (case h => walk_at "bd"); (case l => walk_at "num"))
  | ((with_reducible refine' BdP.mono ?h ?l); (case h => walk_at "bdp"); (case l => walk_at "num"))
  | ((with_reducible show divOk _); first | with_reducible assumption | decide +kernel | (refine' dok ?p ?h ?l; (case p => first | with_reducible assumption | omega); (case h => walk_at "bd"); (case l => walk_at "num")))
  | omega)
local macro_rules | `(tactic| walk_at "op") => `(tactic| first
  | with_reducible exact dAdd_int _ _
  | with_reducible exact dSub_int _ _
  | ((with_reducible refine dMul_int ?_); walk_at "dis")
  | with_reducible exact dAt_pp0 _ _
  | with_reducible exact dAt_pp1 _ _
  | with_reducible exact dAt_p0 _
  | with_reducible exact dAt_p1 _
  | with_reducible exact dAt_t0
  | with_reducible exact dAt_t1
  | with_reducible exact dAt_t2
  | with_reducible exact dAt_q0 _ _ _
  | with_reducible exact dAt_q1 _ _ _
  | with_reducible exact dAt_q2 _ _ _
  | with_reducible exact dAt_f0 _ _
  | with_reducible exact dAt_f1 _ _
  | with_reducible exact dLt_int _ _
  | with_reducible exact dLe_int _ _
  | with_reducible exact dGt_int _ _
  | with_reducible exact dGe_int _ _
  | with_reducible exact dEq_int _ _
  | with_reducible exact dNe_int _ _
  | ((with_reducible refine dMod_int ?_); walk_at "dis")
  | ((with_reducible refine dDiv_int ?_); walk_at "dis")
  | with_reducible exact dNeg_int _
  | with_reducible exact dIs_non _
  | with_reducible exact dIsNot_non _
  | with_reducible exact dAbs_int _
  | with_reducible exact dMax2_int _ _
  | with_reducible exact dMin2_int _ _
  | with_reducible exact dInt_bl _
  | with_reducible exact dLen_pts _
  | with_reducible exact dEq_pt _ _
  | with_reducible exact dNe_pt _ _
  | with_reducible exact dEq_pts _ _
  | with_reducible exact dNe_pts _ _
  | with_reducible exact dNe_bl _ _
  | with_reducible exact dEq_bl _ _
  | with_reducible exact dEq_D3 _ _ _ _ _ _
  | with_reducible exact dNe_D3 _ _ _ _ _ _
  | with_reducible exact dEq_np _
  | with_reducible exact dNe_np _
  | ((with_reducible refine at_last ?_); walk_at "dis")
  | with_reducible exact dAt_l0
  | with_reducible exact dAt_l1
  | with_reducible exact dAt_l2
  | with_reducible exact dAt_l3
  | with_reducible exact dAt_l4
  | with_reducible exact dAt_l5
  | with_reducible exact dAt_l6
  | with_reducible exact dAt_l7
  | ((with_reducible refine' dNe_self ?h ?l); (case h => walk_at "shp"); (case l => decide))
  | ((with_reducible refine' dEq_self ?h ?l); (case h => walk_at "shp"); (case l => decide))
  | with_reducible assumption
  | exact isi_int _ _ _ _ rfl kb_tuple_tuple
  | exact isi_int _ _ _ _ rfl kb_list_list
  | exact isi_int _ _ _ _ rfl kb_int_int
  | exact isi_int _ _ _ _ rfl kb_bool_bool
  | exact isi_int _ _ _ _ rfl kb_int_bool
  | exact isi_int _ _ _ _ rfl kb_list_tuple
  | exact isi_int _ _ _ _ rfl kb_tuple_list
  | with_reducible rfl)
local macro_rules | `(tactic| walk_at "shp") => `(tactic| first
  | with_reducible exact shp_int _
  | with_reducible exact shp_bl _
  | with_reducible exact shp_non
  | with_reducible exact shp_pt _
  | with_reducible exact shp_pts _
  | with_reducible exact shp_D2 _ _
  | with_reducible exact shp_fr _ _
  | with_reducible exact shp_D3 _ _ _
  | with_reducible exact shp_sp _ _ _
  | with_reducible exact shp_nilL
  | with_reducible exact shp_nilT
  | ((with_reducible refine' shp_consL ?h ?g); (case h => walk_at "shp"); (case g => walk_at "shp"))
  | ((with_reducible refine' shp_consT ?h ?g); (case h => walk_at "shp"); (case g => walk_at "shp"))
  | with_reducible assumption)
local macro_rules | `(tactic| walk_at "fn") => `(tactic| first
  | with_reducible assumption
  | with_reducible exact whole_int _
  | with_reducible exact divisor_eq _ _
  | with_reducible exact common_eq _ _)
local macro_rules | `(tactic| walk_at "ev") => `(tactic| first
  | with_reducible exact ev_c _
  | ((with_reducible refine' ev_var ?h1); (case h1 => exact rfl))
  | ((with_reducible refine' ev_e2 ?h1 ?h2 ?h3); (case h1 => walk_at "ev"); (case h2 => walk_at "ev"); (case h3 => walk_at "op"))
  | with_reducible exact ev_nil
  | ((with_reducible refine' ev_cons ?h1 ?h2); (case h1 => walk_at "ev"); (case h2 => walk_at "ev"))
  | ((with_reducible refine' ev_F ?h1 ?h2); (case h1 => walk_at "ev"); (case h2 => walk_at "fn"))
  | ((with_reducible refine' ev_mB ?h1); (case h1 => walk_at "ev"))
  | ((with_reducible refine' ev_B ?h1 ?h2); (case h1 => walk_at "ev"); (case h2 => walk_at "op"))
  | ((with_reducible refine' ev_tup2 ?h1 ?h2); (case h1 => walk_at "ev"); (case h2 => walk_at "ev"))
  | ((with_reducible refine' ev_tup3 ?h1 ?h2 ?h3); (case h1 => walk_at "ev"); (case h2 => walk_at "ev"); (case h3 => walk_at "ev"))
  | ((with_reducible refine' ev_tup ?h1 ?h2); (case h1 => walk_at "ev"); (case h2 => walk_at "len"))
  | ((with_reducible refine' ev_L ?h1); (case h1 => walk_at "ev"))
  | ((with_reducible refine' ev_lst ?h1 ?h2); (case h1 => walk_at "ev"); (case h2 => walk_at "len"))
  | ((with_reducible refine' ev_not ?h1); (case h1 => walk_at "ev"))
  | ((with_reducible refine' ev_and0 ?h1); (case h1 => walk_at "ev"))
  | ((with_reducible refine' ev_and ?h1 ?h2); (case h1 => walk_at "ev"); (case h2 => (intro hq; (try simp only [decide_eq_true_eq, decide_eq_false_iff_not, Bool.not_eq_true', Bool.not_eq_false'] at hq); walk_at "ev")))
  | ((with_reducible refine' ev_or1 ?h1); (case h1 => walk_at "ev"))
  | ((with_reducible refine' ev_or ?h1 ?h2); (case h1 => walk_at "ev"); (case h2 => (intro hq; (try simp only [decide_eq_true_eq, decide_eq_false_iff_not, Bool.not_eq_true', Bool.not_eq_false'] at hq); walk_at "ev")))
  | ((with_reducible refine' ev_eNot ?h1); (case h1 => walk_at "ev"))
  | ((with_reducible refine' ev_eAnd0 ?h1); (case h1 => walk_at "ev"))
  | ((with_reducible refine' ev_eAnd ?h1 ?h2); (case h1 => walk_at "ev"); (case h2 => (intro hq; (try simp only [decide_eq_true_eq, decide_eq_false_iff_not, Bool.not_eq_true', Bool.not_eq_false'] at hq); walk_at "ev")))
  | ((with_reducible refine' ev_eOr1 ?h1); (case h1 => walk_at "ev"))
  | ((with_reducible refine' ev_eOr ?h1 ?h2); (case h1 => walk_at "ev"); (case h2 => (intro hq; (try simp only [decide_eq_true_eq, decide_eq_false_iff_not, Bool.not_eq_true', Bool.not_eq_false'] at hq); walk_at "ev")))
  | ((with_reducible refine' ev_e1 ?h1 ?h2); (case h1 => walk_at "ev"); (case h2 => walk_at "op"))
  | ((with_reducible refine' ev_copy ?h1 ?h2); (case h1 => walk_at "ev"); (case h2 => exact rfl))
  | ((with_reducible refine' ev_ch ?h1 ?h2 ?h3 ?h4 ?h5); (case h1 => walk_at "ev"); (case h2 => walk_at "ev"); (case h3 => walk_at "op"); (case h4 => (intro hq; (try simp only [decide_eq_true_eq, decide_eq_false_iff_not, Bool.not_eq_true', Bool.not_eq_false'] at hq); walk_at "ev")); (case h5 => (intro _; walk_at "op")))
  | ((with_reducible refine' ev_lc ?h1 ?h2 ?h3 ?h4); (case h1 => walk_at "ev"); (case h2 => walk_at "its"); (case h3 => walk_at "len"); (case h4 => (intro _ _; exact ⟨_, rfl, by walk_at "ev"⟩)))
  | ((with_reducible refine' ev_lcR ?h1 ?h2 ?h3 ?h4); (case h1 => walk_at "ev"); (case h2 => walk_at "rng"); (case h3 => walk_at "len"); (case h4 => (intro _ _; exact ⟨_, rfl, by walk_at "ev"⟩)))
  | ((with_reducible refine' ev_cat ?h1 ?h2 ?h3); (case h1 => walk_at "ev"); (case h2 => walk_at "ev"); (case h3 => walk_at "len"))
  | ((with_reducible refine' ev_ownLen ?h1); (case h1 => exact rfl))
  | ((with_reducible refine' ev_ownAt ?h1 ?h2 ?h3); (case h1 => exact rfl); (case h2 => walk_at "ev"); (case h3 => walk_at "op"))
  | with_reducible assumption)
local macro_rules | `(tactic| walk_at "len") => `(tactic| first
  | ((simp only [List.length_map, List.length_cons, List.length_nil, List.length_append, List.length_range]) <;> walk_at "num")
  | walk_at "num")
local macro_rules | `(tactic| walk_at "its") => `(tactic| first
  | with_reducible exact its_map
  | with_reducible exact its_map2
  | exact rfl)
local macro_rules | `(tactic| walk_at "rng") => `(tactic| first
  | ((with_reducible refine rng1 ?_ ?_) <;> walk_at "num")
  | ((with_reducible refine rng2 ?_ ?_ ?_ ?_) <;> walk_at "num"))
local macro_rules | `(tactic| walk_at "es") => `(tactic| simp (config := {failIfUnchanged := false}) only [List.set_cons_zero, List.set_cons_succ])
local macro_rules | `(tactic| walk_at "start") => `(tactic| (simp only [List.map_cons, List.map_nil, List.cons_append, List.nil_append, List.length_cons, List.length_nil, Nat.reduceAdd, Nat.reduceSub, List.replicate_succ, List.replicate_zero]))
local macro_rules | `(tactic| walk_at "st1") => `(tactic| first
  | ((with_reducible refine' wo_seq ?k))
  | ((with_reducible refine' wo_ift ?h ?e ?k); (case h => walk_at "ev"); (case e => simp only [beq_self_eq_true, Bool.true_beq, Bool.false_beq, decide_eq_true_eq, decide_eq_false_iff_not, Bool.not_eq_true', Bool.not_eq_false', Bool.or_eq_true, Bool.and_eq_true, Bool.or_eq_false_iff, Bool.and_eq_false_imp, Bool.not_true, Bool.not_false, Bool.false_or, Bool.or_false, Bool.true_or, Bool.or_true, Bool.true_and, Bool.and_true, Bool.false_and, Bool.and_false, Bool.true_eq_false, Bool.false_eq_true, decide_true, decide_false, reduceCtorEq, D.isNone, Int.not_lt, Int.not_le, ne_eq, Decidable.not_not, not_true_eq_false, not_false_eq_true, false_implies, true_implies, implies_true, and_true, true_and, and_false, false_and, or_true, true_or, or_false, false_or, reduceIte, eq_self]))
  | ((with_reducible refine' wo_iff ?h ?e ?k); (case h => walk_at "ev"); (case e => simp only [beq_self_eq_true, Bool.true_beq, Bool.false_beq, decide_eq_true_eq, decide_eq_false_iff_not, Bool.not_eq_true', Bool.not_eq_false', Bool.or_eq_true, Bool.and_eq_true, Bool.or_eq_false_iff, Bool.and_eq_false_imp, Bool.not_true, Bool.not_false, Bool.false_or, Bool.or_false, Bool.true_or, Bool.or_true, Bool.true_and, Bool.and_true, Bool.false_and, Bool.and_false, Bool.true_eq_false, Bool.false_eq_true, decide_true, decide_false, reduceCtorEq, D.isNone, Int.not_lt, Int.not_le, ne_eq, Decidable.not_not, not_true_eq_false, not_false_eq_true, false_implies, true_implies, implies_true, and_true, true_and, and_false, false_and, or_true, true_or, or_false, false_or, reduceIte, eq_self]))
  | (((with_reducible refine' wo_asg ?h1 ?k); (case h1 => walk_at "ev")); walk_at "es")
  | ((with_reducible refine' wo_ret ?h1 ?k); (case h1 => walk_at "ev"))
  | (((with_reducible refine' wo_tgt ?h1 ?h2 ?k); (case h1 => walk_at "ev"); (case h2 => exact rfl)); walk_at "es")
  | ((with_reducible refine' wo_nil ?k))
  | ((with_reducible refine' wo_raise ?k))
  | (((with_reducible refine' wo_own ?h1 ?k); (case h1 => walk_at "ev")); walk_at "es")
  | (((with_reducible refine' wo_asgL ?h1 ?k); (case h1 => walk_at "ev")); walk_at "es")
  | (((with_reducible refine' wo_app ?h1 ?h2 ?h3 ?k); (case h1 => exact rfl); (case h2 => walk_at "ev"); (case h3 => walk_at "len")); walk_at "es")
  | (((with_reducible refine' wo_par ?h1 ?h2 ?k); (case h1 => walk_at "ev"); (case h2 => walk_at "ev")); walk_at "es")
  | ((with_reducible refine wo_frz ?_); simp only [frz, List.getElem?_cons_zero, List.getElem?_cons_succ, List.set_cons_zero, List.set_cons_succ]))
local macro_rules | `(tactic| walk_at "st") => `(tactic| (walk_at "st1"; try dsimp only))
local macro_rules | `(tactic| walk_at "hs") => `(tactic| ((try simp only [beq_self_eq_true, Bool.true_beq, Bool.false_beq, decide_eq_true_eq, decide_eq_false_iff_not, Bool.not_eq_true', Bool.not_eq_false', Bool.or_eq_true, Bool.and_eq_true, Bool.or_eq_false_iff, Bool.and_eq_false_imp, Bool.not_true, Bool.not_false, Bool.false_or, Bool.or_false, Bool.true_or, Bool.or_true, Bool.true_and, Bool.and_true, Bool.false_and, Bool.and_false, Bool.true_eq_false, Bool.false_eq_true, decide_true, decide_false, reduceCtorEq, D.isNone, Int.not_lt, Int.not_le, ne_eq, Decidable.not_not, not_true_eq_false, not_false_eq_true, false_implies, true_implies, implies_true, and_true, true_and, and_false, false_and, or_true, true_or, or_false, false_or, reduceIte, eq_self]); exact rfl))
local macro_rules | `(tactic| walk_at "fls") => `(tactic| first | (with_reducible exact False.elim) | (with_reducible refine fun (_ : True) => ?_) | skip)
local macro_rules | `(tactic| walk_at "if") => `(tactic| ((with_reducible refine' wo_ifx ?h ?e1 ?e2 ?k1 ?k2); (case h => walk_at "ev"); (case e1 => walk_at "hs"); (case e2 => walk_at "hs"); (case' k1 => walk_at "fls"); (case' k2 => walk_at "fls")))
local macro_rules | `(tactic| walk_at "tt") => `(tactic| (try simp only [beq_self_eq_true, Bool.true_beq, Bool.false_beq, decide_eq_true_eq, decide_eq_false_iff_not, Bool.not_eq_true', Bool.not_eq_false', Bool.or_eq_true, Bool.and_eq_true, Bool.or_eq_false_iff, Bool.and_eq_false_imp, Bool.not_true, Bool.not_false, Bool.false_or, Bool.or_false, Bool.true_or, Bool.or_true, Bool.true_and, Bool.and_true, Bool.false_and, Bool.and_false, Bool.true_eq_false, Bool.false_eq_true, decide_true, decide_false, reduceCtorEq, D.isNone, Int.not_lt, Int.not_le, ne_eq, Decidable.not_not, not_true_eq_false, not_false_eq_true, false_implies, true_implies, implies_true, and_true, true_and, and_false, false_and, or_true, true_or, or_false, false_or, reduceIte, eq_self]))
local macro_rules | `(tactic| walk_at "hc") => `(tactic| simp only [beq_self_eq_true, Bool.true_beq, Bool.false_beq, decide_eq_true_eq, decide_eq_false_iff_not, Bool.not_eq_true', Bool.not_eq_false', Bool.or_eq_true, Bool.and_eq_true, Bool.or_eq_false_iff, Bool.and_eq_false_imp, Bool.not_true, Bool.not_false, Bool.false_or, Bool.or_false, Bool.true_or, Bool.or_true, Bool.true_and, Bool.and_true, Bool.false_and, Bool.and_false, Bool.true_eq_false, Bool.false_eq_true, decide_true, decide_false, reduceCtorEq, D.isNone, Int.not_lt, Int.not_le, ne_eq, Decidable.not_not, not_true_eq_false, not_false_eq_true, false_implies, true_implies, implies_true, and_true, true_and, and_false, false_and, or_true, true_or, or_false, false_or, reduceIte, eq_self] at *)
local macro_rules | `(tactic| walk_at "sts") => `(tactic| (walk_at "st"; try (walk_at "st"; try (walk_at "st"; try (walk_at "st"; try (walk_at "st"; try (walk_at "st"; try (walk_at "st"; try (walk_at "st"; try (walk_at "st"; try (walk_at "st"; try (walk_at "st"; try (walk_at "st"; try (walk_at "st"; try (walk_at "st"; try (walk_at "st"; try (walk_at "st"; try (walk_at "st"; try (walk_at "st"; try (walk_at "st"; try (walk_at "st"; try (walk_at "st"; try (walk_at "st"; try (walk_at "st"; try (walk_at "st"; try (walk_at "st"; try (walk_at "st"; try (walk_at "st"; try (walk_at "st"; try (walk_at "st"; try (walk_at "st"; try (walk_at "st"; try (walk_at "st"; try (walk_at "st"; try (walk_at "st"; try (walk_at "st"; try (walk_at "st"; try (walk_at "st"; try (walk_at "st"; try (walk_at "st"; try (walk_at "st"; try (walk_at "st"))))))))))))))))))))))))))))))))))))))))))
local macro_rules | `(tactic| walk_at "op") => `(tactic| first
  | with_reducible assumption
  | with_reducible exact dIs_nn
  | with_reducible exact dIs_pt _
  | with_reducible exact dIs_D3 _ _ _
  | with_reducible exact dIsN_nn
  | with_reducible exact dIsN_pt _
  | with_reducible exact dIsN_D3 _ _ _
  | ((with_reducible refine at_czm ?_); first | with_reducible assumption | omega)
  | ((with_reducible refine at_czm1 ?_); first | with_reducible assumption | omega)
  | ((with_reducible refine at_sides ?_); first | with_reducible assumption | omega)
  | ((with_reducible refine at_normals ?_); first | with_reducible assumption | omega)
  | ((with_reducible refine at_cz ?_ ?_) <;> first | with_reducible assumption | omega)
  | with_reducible exact dLen_scr _
  | with_reducible exact dLen_tup _
  | walk_at "opx")
local macro_rules | `(tactic| walk_at "opx") => `(tactic| first
  | with_reducible exact isi_bb _
  | with_reducible exact dIs_i _
  | with_reducible exact isi_u _
  | with_reducible exact dLen_u _
  | with_reducible exact dEqN_D3t _ _
  | with_reducible exact dEqE_D3t _ _
  | ((with_reducible refine at_lstI ?_ ?_) <;> first | with_reducible assumption | omega)
  | with_reducible exact dIs_D3t _
  | with_reducible exact dIsN_D3t _
  | with_reducible exact dAt_u0 _
  | with_reducible exact dAt_u1 _
  | with_reducible exact dAt_u2 _
  | with_reducible exact dIs_nn
  | with_reducible exact dIs_pt _
  | with_reducible exact dIs_D3 _ _ _
  | with_reducible exact dIs_lst _
  | with_reducible exact dIsN_nn
  | with_reducible exact dIsN_pt _
  | with_reducible exact dIsN_D3 _ _ _
  | with_reducible exact dLen_t2 _
  | with_reducible exact dLen_t3 _ _ _
  | with_reducible assumption)
local macro_rules | `(tactic| walk_at "bdq") => `(tactic| first
  | ((with_reducible refine' bd_cz ?h ?g _); (case h => first | with_reducible assumption | exact Body.bd (by with_reducible assumption)); (case g => first | with_reducible assumption | exact Body.pos (by with_reducible assumption) | omega)))
local macro_rules | `(tactic| walk_at "shp") => `(tactic| first
  | ((with_reducible refine' shp_mapL ?h _); (case h => (intro _; walk_at "shp"))))
local macro_rules | `(tactic| walk_at "rng") => `(tactic| first
  | ((with_reducible refine rngN ?_); walk_at "num"))
local macro_rules | `(tactic| walk_at "st1") => `(tactic| first
  | (((with_reducible refine' wo_ins ?h1 ?h2 ?h3 ?h4 ?h5 ?h6 ?k); (case h1 => exact rfl); (case h2 => walk_at "ev"); (case h3 => walk_at "ev"); (case h4 => walk_at "num"); (case h5 => walk_at "num"); (case h6 => walk_at "len")); walk_at "es"))
local macro_rules | `(tactic| walk_at "ev") => `(tactic| first
  | with_reducible exact ev_home _ _ _
  | ((with_reducible refine' ev_cutS ?h1 ?h2 ?h3); (case h1 => walk_at "ev"); (case h2 => walk_at "ev"); (case h3 => walk_at "ev"))
  | ((with_reducible refine' ev_ownLenM ?h1); (case h1 => exact rfl))
  | ((with_reducible refine' ev_revm ?h1); (case h1 => walk_at "ev"))
  | ((with_reducible refine' ev_rev ?h1); (case h1 => walk_at "ev"))
  | ((with_reducible refine' ev_lc6 ?h1 ?h2 ?h3 ?h4 ?h5 ?h6 ?h7); (case h1 => walk_at "ev"); (case h2 => exact ⟨_, rfl, by walk_at "ev"⟩); (case h3 => exact ⟨_, rfl, by walk_at "ev"⟩); (case h4 => exact ⟨_, rfl, by walk_at "ev"⟩); (case h5 => exact ⟨_, rfl, by walk_at "ev"⟩); (case h6 => exact ⟨_, rfl, by walk_at "ev"⟩); (case h7 => exact ⟨_, rfl, by walk_at "ev"⟩))
  | ((with_reducible refine' ev_lc8 ?h1 ?h2 ?h3 ?h4 ?h5 ?h6 ?h7 ?h8 ?h9); (case h1 => walk_at "ev"); (case h2 => exact ⟨_, rfl, by walk_at "ev"⟩); (case h3 => exact ⟨_, rfl, by walk_at "ev"⟩); (case h4 => exact ⟨_, rfl, by walk_at "ev"⟩); (case h5 => exact ⟨_, rfl, by walk_at "ev"⟩); (case h6 => exact ⟨_, rfl, by walk_at "ev"⟩); (case h7 => exact ⟨_, rfl, by walk_at "ev"⟩); (case h8 => exact ⟨_, rfl, by walk_at "ev"⟩); (case h9 => exact ⟨_, rfl, by walk_at "ev"⟩))
  | ((with_reducible refine' ev_lc3 ?h1 ?h2 ?h3 ?h4); (case h1 => walk_at "ev"); (case h2 => exact ⟨_, rfl, by walk_at "ev"⟩); (case h3 => exact ⟨_, rfl, by walk_at "ev"⟩); (case h4 => exact ⟨_, rfl, by walk_at "ev"⟩))
  | ((with_reducible refine' ev_lcN ?h1 ?h2 ?h3 ?h4); (case h1 => walk_at "ev"); (case h2 => walk_at "rng"); (case h3 => walk_at "len"); (case h4 => (intro _ _; exact ⟨_, rfl, by walk_at "ev"⟩))))
def wvT (B : List Pt) (x y w : Int) (t : Tr) : Int := wv B (t.1 * w - x * t.2.2) (t.2.1 * w - y * t.2.2) (w * t.2.2)
def f1 (B : List Pt) (x y w : Int) (c : Pt) : Option Tr := if 0 ≤ wvT B x y w (spT (c.1 * 1 + 0) (c.2 * 1 + 0) 1) then some (spT (c.1 * 1 + 0) (c.2 * 1 + 0) 1) else none
def f2 (A : List Pt) (x y w : Int) (c : Pt) : Option Tr := if 0 ≤ wvT A 0 0 1 (spT (c.1 * w + x) (c.2 * w + y) w) then some (spT (c.1 * w + x) (c.2 * w + y) w) else none
def found3 (A B : List Pt) (x y w : Int) : List Tr := (sidesP A).flatMap fun s => (sidesP B).filterMap fun t => crossP s t x y w
def foundP (A B : List Pt) (x y w : Int) : List Tr := A.filterMap (f1 B x y w) ++ B.filterMap (f2 A x y w) ++ found3 A B x y w
def sharedP (A B : List Pt) (x y w : Int) : List Tr := ordT (foundP A B x y w)
abbrev SpT (n : Nat) (t : Tr) : Prop := Sp3 n t.1 t.2.1 t.2.2
theorem spT_of {n : Nat} {x y w : Int} (hx : Bd n x) (hy : Bd n y) (hw : Bd n w) (h : w ≠ 0) : SpT n (spT x y w) := sp3_of hx hy hw h
theorem SpT.bd {n : Nat} {t : Tr} (h : SpT n t) : BdT n t := ⟨h.bx, h.by', h.bw⟩
theorem crossP_sp {s t : Pt × Pt} {x y w : Int} {q : Tr} (h1 : BdP 200 s.1) (h2 : BdP 200 s.2) (h3 : BdP 200 t.1) (h4 : BdP 200 t.2) (hx : Bd 1700 x) (hy : Bd 1700 y) (hw : Bd 1700 w) (h0 : 0 < w) (e : crossP s t x y w = some q) : SpT 2600 q := by
  have bm : Bd 405 (crM s t) := by unfold crM; walk_at "dis"
  have bu : Bd 2200 (crU s t x y w) := by unfold crU; walk_at "dis"
  have key : ∀ m u : Int, Bd 405 m → Bd 2200 u → m ≠ 0 → SpT 2600 (crT s w m u) := fun m u b1 b2 hm => spT_of (by walk_at "dis") (by walk_at "dis") (by walk_at "dis") (Int.mul_ne_zero (by omega) hm)
  unfold crossP at e
  split at e
  · cases e
  · rename_i hm
    split at e
    · split at e
      · cases e; exact key _ _ bm.neg bu.neg (by omega)
      · cases e
    · split at e
      · cases e; exact key _ _ bm bu hm
      · cases e
theorem found_sp {A B : List Pt} {n : Nat} {x y w : Int} (hA : Body n A) (hB : Body n B) (hn : n ≤ 200) (hx : Bd 1700 x) (hy : Bd 1700 y) (hw : Bd 1700 w) (h0 : 0 < w) : ∀ t ∈ foundP A B x y w, SpT 2600 t := fun t ht => by
  rcases List.mem_append.mp ht with h | h
  · rcases List.mem_append.mp h with h | h
    · obtain ⟨c, hc, e⟩ := List.mem_filterMap.mp h
      unfold f1 at e
      split at e
      · cases e
        have bc := (hA.bd c hc).mono hn
        exact spT_of (by walk_at "dis") (by walk_at "dis") (by walk_at "dis") (by decide)
      · cases e
    · obtain ⟨c, hc, e⟩ := List.mem_filterMap.mp h
      unfold f2 at e
      split at e
      · cases e
        have bc := (hB.bd c hc).mono hn
        exact spT_of (by walk_at "dis") (by walk_at "dis") (by walk_at "dis") (by omega)
      · cases e
  · obtain ⟨s, hs, h⟩ := List.mem_flatMap.mp h
    obtain ⟨u, hu, e⟩ := List.mem_filterMap.mp h
    obtain ⟨a1, a2⟩ := side_bd hA.bd hA.pos s hs
    obtain ⟨b1, b2⟩ := side_bd hB.bd hB.pos u hu
    exact crossP_sp (a1.mono hn) (a2.mono hn) (b1.mono hn) (b2.mono hn) hx hy hw h0 e
def ev3 (l : Tr) (X Y W : Int) : Int := l.1 * X + l.2.1 * Y + l.2.2 * W
def frm (s : Pt × Pt) : Tr := (-(s.2.2 - s.1.2), s.2.1 - s.1.1, (s.2.2 - s.1.2) * s.1.1 - (s.2.1 - s.1.1) * s.1.2)
theorem ev_frm (s : Pt × Pt) (X Y W : Int) : ev3 (frm s) X Y W = lfs s X Y W := by unfold ev3 frm lfs; grind
def frmB (s : Pt × Pt) (x y w : Int) : Tr := (w * (frm s).1, w * (frm s).2.1, w * (frm s).2.2 - (frm s).1 * x - (frm s).2.1 * y)
theorem ev_frmB (s : Pt × Pt) (x y w X Y W : Int) : ev3 (frmB s x y w) X Y W = lfs s (X * w - x * W) (Y * w - y * W) (w * W) := by rw [← ev_frm]; unfold frmB ev3; grind
def sideZ (C : List Pt) (i : Int) : Pt × Pt := (cz C i, cz C (i + 1))
def Frm (A B : List Pt) (x y w : Int) (l : Tr) : Prop := (∃ i, l = frm (sideZ A i)) ∨ ∃ i, l = frmB (sideZ B i) x y w
def crs (l m : Tr) : Int := l.1 * m.2.1 - m.1 * l.2.1
theorem ev3_scale (l : Tr) {x y w a b c : Int} (hx : x * c = a * w) (hy : y * c = b * w) : c * ev3 l x y w = w * ev3 l a b c := by
  unfold ev3
  have h1 : c * (l.1 * x + l.2.1 * y + l.2.2 * w) = l.1 * (x * c) + l.2.1 * (y * c) + l.2.2 * w * c := by grind
  rw [h1, hx, hy]
  grind
theorem sp_same {X Y W : Int} (hW : 0 < W) (l : Tr) : (0 ≤ ev3 l (spT X Y W).1 (spT X Y W).2.1 (spT X Y W).2.2 ↔ 0 ≤ ev3 l X Y W) ∧ (ev3 l (spT X Y W).1 (spT X Y W).2.1 (spT X Y W).2.2 = 0 ↔ ev3 l X Y W = 0) := by
  obtain ⟨e1, e2⟩ := s_eq (x := X) (y := Y) (w := W) (by omega)
  have p := sW_pos (x := X) (y := Y) (w := W) (by omega)
  have := pos_same hW p (ev3_scale l e1 e2)
  unfold spT
  simp only
  omega
theorem spT_one (a b : Int) : spT a b 1 = (a, b, 1) := by
  have g : g3 a b 1 = 1 := by
    unfold g3
    have := Int.gcd_one_right (Int.gcd a b : Int)
    omega
  unfold spT sX sY sW sg
  rw [g]
  simp
theorem mem_ordT {t : Tr} {l : List Tr} : t ∈ ordT l ↔ t ∈ l := by
  have : ∀ (r acc : List Tr), t ∈ r.foldl (fun told t => insT t told) acc ↔ t ∈ acc ∨ t ∈ r := by
    intro r
    induction r with
    | nil => intro acc; simp
    | cons a r ih =>
      intro acc
      rw [List.foldl_cons, ih, mem_insT, List.mem_cons]
      constructor
      · rintro ((h | h) | h)
        · exact .inr (.inl h)
        · exact .inl h
        · exact .inr (.inr h)
      · rintro (h | h | h)
        · exact .inl (.inr h)
        · exact .inl (.inl h)
        · exact .inr h
  unfold ordT
  rw [this l []]
  simp
def Ah (a b : Tr) : Prop := a.1 * b.2.2 < b.1 * a.2.2 ∨ (a.1 * b.2.2 = b.1 * a.2.2 ∧ a.2.1 * b.2.2 < b.2.1 * a.2.2)
theorem aheadB_iff {a b : Tr} : aheadB a b = true ↔ Ah a b := by
  unfold aheadB Ah
  split <;> rename_i h
  · rw [decide_eq_true_eq]; omega
  · rw [decide_eq_true_eq]; omega
structure LowT (t : Tr) : Prop where
  pos : 0 < t.2.2
  low : g3 t.1 t.2.1 t.2.2 = 1
theorem SpT.lowT {n : Nat} {t : Tr} (h : SpT n t) : LowT t := ⟨h.pos, h.low⟩
theorem low_eq {a b : Tr} (ha : LowT a) (hb : LowT b) (h1 : a.1 * b.2.2 = b.1 * a.2.2) (h2 : a.2.1 * b.2.2 = b.2.1 * a.2.2) : a = b := by
  have pa := ha.pos
  have pb := hb.pos
  have key : ∀ {a b : Tr}, LowT a → LowT b → a.1 * b.2.2 = b.1 * a.2.2 → a.2.1 * b.2.2 = b.2.1 * a.2.2 → a.2.2 ∣ b.2.2 := fun {a b} ha hb h1 h2 => by
    have d1 : a.2.2 ∣ a.1 * b.2.2 := ⟨b.1, by rw [h1, Int.mul_comm]⟩
    have d2 : a.2.2 ∣ a.2.1 * b.2.2 := ⟨b.2.1, by rw [h2, Int.mul_comm]⟩
    have d3 : a.2.2 ∣ a.2.2 * b.2.2 := ⟨b.2.2, rfl⟩
    have g := ha.low
    unfold g3 at g
    have e1 : (a.2.2 : Int) ∣ ((Int.gcd a.1 a.2.1 : Nat) : Int) * b.2.2 := by
      have := Int.dvd_coe_gcd d1 d2
      rw [Int.gcd_mul_right] at this
      have hb' : ((b.2.2.natAbs : Nat) : Int) = b.2.2 := Int.natAbs_of_nonneg (Int.le_of_lt hb.pos)
      rw [Int.natCast_mul, hb'] at this
      exact this
    have := Int.dvd_coe_gcd e1 d3
    rw [Int.gcd_mul_right, g, Nat.one_mul] at this
    have hb' : ((b.2.2.natAbs : Nat) : Int) = b.2.2 := Int.natAbs_of_nonneg (Int.le_of_lt hb.pos)
    rw [hb'] at this
    exact this
  have e : a.2.2 = b.2.2 := Int.dvd_antisymm (Int.le_of_lt pa) (Int.le_of_lt pb) (key ha hb h1 h2) (key hb ha h1.symm h2.symm)
  rw [e] at h1 h2
  exact Prod.ext (Int.eq_of_mul_eq_mul_right (by omega) h1) (Prod.ext (Int.eq_of_mul_eq_mul_right (by omega) h2) e)
theorem ah_tot {a b : Tr} (ha : LowT a) (hb : LowT b) (h : ¬ Ah a b) : a = b ∨ Ah b a := by
  unfold Ah at *
  by_cases e1 : a.1 * b.2.2 = b.1 * a.2.2
  · by_cases e2 : a.2.1 * b.2.2 = b.2.1 * a.2.2
    · exact .inl (low_eq ha hb e1 e2)
    · exact .inr (.inr (by omega))
  · exact .inr (.inl (by omega))
theorem ah_trans {a b c : Tr} (pa : 0 < a.2.2) (pb : 0 < b.2.2) (pc : 0 < c.2.2) (h1 : Ah a b) (h2 : Ah b c) : Ah a c := by
  have le : ∀ {p q : Int}, b.2.2 * p ≤ b.2.2 * q → p ≤ q := fun h => Int.le_of_mul_le_mul_left h pb
  unfold Ah at *
  have m : ∀ {p q : Int} (k : Int), 0 < k → p < q → k * p < k * q := fun k hk h => Int.mul_lt_mul_of_pos_left h hk
  have s1 : b.2.2 * (a.1 * c.2.2) = c.2.2 * (a.1 * b.2.2) := by grind
  have s2 : b.2.2 * (c.1 * a.2.2) = a.2.2 * (c.1 * b.2.2) := by grind
  have s3 : c.2.2 * (b.1 * a.2.2) = a.2.2 * (b.1 * c.2.2) := by grind
  have t1 : b.2.2 * (a.2.1 * c.2.2) = c.2.2 * (a.2.1 * b.2.2) := by grind
  have t2 : b.2.2 * (c.2.1 * a.2.2) = a.2.2 * (c.2.1 * b.2.2) := by grind
  have t3 : c.2.2 * (b.2.1 * a.2.2) = a.2.2 * (b.2.1 * c.2.2) := by grind
  have lt : ∀ {p q : Int}, b.2.2 * p < b.2.2 * q → p < q := fun h => Int.lt_of_mul_lt_mul_left h (Int.le_of_lt pb)
  rcases h1 with h1 | ⟨h1, g1⟩ <;> rcases h2 with h2 | ⟨h2, g2⟩
  · left; apply lt; rw [s1, s2]; have := m _ pc h1; have := m _ pa h2; omega
  · left; apply lt; rw [s1, s2]; have := m _ pc h1; rw [← h2]; omega
  · left; apply lt; rw [s1, s2, h1]; have := m _ pa h2; omega
  · right
    constructor
    · apply Int.eq_of_mul_eq_mul_left (show b.2.2 ≠ 0 by omega)
      rw [s1, s2, h1, ← h2, s3]
    · apply lt; rw [t1, t2]; have := m _ pc g1; have := m _ pa g2; omega
theorem ord_sorted {l : List Tr} (hl : ∀ t ∈ l, LowT t) : (ordT l).Pairwise Ah := by
  have ins : ∀ (t : Tr), LowT t → ∀ l : List Tr, (∀ t ∈ l, LowT t) → l.Pairwise Ah → (insT t l).Pairwise Ah := by
    intro t ht l
    induction l with
    | nil => intro _ _; unfold insT; simp
    | cons a r ih =>
      intro hl hp
      have hp' := List.pairwise_cons.mp hp
      have la := hl a List.mem_cons_self
      have lr := fun u hu => hl u (List.mem_cons_of_mem _ hu)
      unfold insT
      split
      · rename_i h
        refine List.pairwise_cons.mpr ⟨fun u hu => ?_, ih lr hp'.2⟩
        rcases mem_insT.mp hu with e | e
        · rw [e]; exact aheadB_iff.mp h
        · exact hp'.1 u e
      · rename_i h
        split
        · exact hp
        · rename_i hne
          have ta : Ah t a := (ah_tot la ht (fun z => h (aheadB_iff.mpr z))).resolve_left hne
          refine List.pairwise_cons.mpr ⟨fun u hu => ?_, hp⟩
          rcases List.mem_cons.mp hu with e | e
          · rw [e]; exact ta
          · exact ah_trans ht.pos la.pos (lr u e).pos ta (hp'.1 u e)
  have : ∀ (r acc : List Tr), (∀ t ∈ r, LowT t) → (∀ t ∈ acc, LowT t) → acc.Pairwise Ah → (r.foldl (fun told t => insT t told) acc).Pairwise Ah := by
    intro r
    induction r with
    | nil => intro acc _ _ h; exact h
    | cons a r ih =>
      intro acc h1 h2 h3
      rw [List.foldl_cons]
      exact ih _ (fun u hu => h1 u (List.mem_cons_of_mem _ hu)) (fun u hu => by
        rcases mem_insT.mp hu with e | e
        · rw [e]; exact h1 a List.mem_cons_self
        · exact h2 u e) (ins a (h1 a List.mem_cons_self) acc h2 h3)
  exact this l [] hl (fun _ h => absurd h (by simp)) List.Pairwise.nil
theorem isi_bb (b : Bool) : dIsi [.bl b, .ty "bool"] = some (.bl true) := isi_int _ _ _ _ rfl kb_bool_bool
theorem dIs_i (z : Int) : dIs (.int z) .non = some (.bl false) := rfl
theorem isi_u (t : Tr) : dIsi [D3t t, .ty "tuple"] = some (.bl true) := isi_int _ _ _ _ rfl kb_tuple_tuple
theorem dLen_u (t : Tr) : dLen [D3t t] = some (.int 3) := rfl
theorem dEqE_D3t (t u : Tr) : dEq (D3t t) (D3t u) = some (.bl (decide (t = u))) := by
  show dEq (D3 _ _ _) (D3 _ _ _) = _
  rw [dEq_D3]
  congr 2
  exact decide_eq_decide.mpr ⟨fun h => Prod.ext h.1 (Prod.ext h.2.1 h.2.2), fun h => by rw [h]; exact ⟨rfl, rfl, rfl⟩⟩
theorem at_lstI {α : Type} {f : α → D} {l : List α} {i : Int} (h0 : 0 ≤ i) (h : i < (l.length : Int)) : dAt (.lst (l.map f)) (.int i) = some (f (l[i.toNat]'(by omega))) := by
  obtain ⟨k, rfl⟩ := Int.eq_ofNat_of_zero_le h0
  exact at_lst (by omega)
def frmL (A B : List Pt) (x y w : Int) : List Tr := (sidesP A).map frm ++ (sidesP B).map (frmB · x y w)
theorem sideZ_mem {C : List Pt} (h : 0 < C.length) (i : Int) : sideZ C i ∈ sidesP C := by
  have h1 := Int.emod_nonneg i (by omega : (C.length : Int) ≠ 0)
  have h2 := Int.emod_lt_of_pos i (by omega : 0 < (C.length : Int))
  unfold sidesP sideZ
  refine List.mem_map.mpr ⟨(i % (C.length : Int)).toNat, List.mem_range.mpr (by omega), ?_⟩
  rw [← cz_nat, ← cz_nat]
  rw [show (((i % (C.length : Int)).toNat : Nat) : Int) = i % (C.length : Int) by omega, cz_mod, show (((i % (C.length : Int)).toNat + 1 : Nat) : Int) = i % (C.length : Int) + 1 by omega, cz_add1]
theorem mem_sideZ {C : List Pt} {s : Pt × Pt} (hs : s ∈ sidesP C) : ∃ i, s = sideZ C i := by
  obtain ⟨k, _, rfl⟩ := List.mem_map.mp hs
  refine ⟨k, ?_⟩
  unfold sideZ
  rw [cz_nat, show (k : Int) + 1 = ((k + 1 : Nat) : Int) from rfl, cz_nat]
theorem frmL_iff {A B : List Pt} (hA : 0 < A.length) (hB : 0 < B.length) {x y w : Int} {l : Tr} : l ∈ frmL A B x y w ↔ Frm A B x y w l := by
  unfold frmL Frm
  rw [List.mem_append, List.mem_map, List.mem_map]
  constructor
  · rintro (⟨s, hs, rfl⟩ | ⟨s, hs, rfl⟩)
    · obtain ⟨i, rfl⟩ := mem_sideZ hs
      exact .inl ⟨i, rfl⟩
    · obtain ⟨i, rfl⟩ := mem_sideZ hs
      exact .inr ⟨i, rfl⟩
  · rintro (⟨i, rfl⟩ | ⟨i, rfl⟩)
    · exact .inl ⟨_, sideZ_mem hA i, rfl⟩
    · exact .inr ⟨_, sideZ_mem hB i, rfl⟩
def rate (l : Tr) (d : Pt) : Int := l.1 * d.1 + l.2.1 * d.2
theorem min_ratio (e r : Tr → Int) : ∀ L : List Tr, (∃ l ∈ L, r l < 0) → ∃ l ∈ L, r l < 0 ∧ ∀ m ∈ L, r m < 0 → e l * (- r m) ≤ e m * (- r l)
  | [], h => by obtain ⟨l, hl, _⟩ := h; simp at hl
  | a :: L, h => by
    by_cases hL : ∃ l ∈ L, r l < 0
    · obtain ⟨l, hl, h1, h2⟩ := min_ratio e r L hL
      by_cases ha : r a < 0
      · by_cases c : e l * (- r a) ≤ e a * (- r l)
        · refine ⟨l, List.mem_cons_of_mem _ hl, h1, fun m hm hr => ?_⟩
          rcases List.mem_cons.mp hm with z | z
          · rw [z]; exact c
          · exact h2 m z hr
        · refine ⟨a, List.mem_cons_self, ha, fun m hm hr => ?_⟩
          rcases List.mem_cons.mp hm with z | z
          · rw [z]; exact Int.le_refl _
          · have g := h2 m z hr
            have c' : e a * (- r l) ≤ e l * (- r a) := by omega
            have m1 := Int.mul_le_mul_of_nonneg_right c' (show 0 ≤ - r m by omega)
            have m2 := Int.mul_le_mul_of_nonneg_right g (show 0 ≤ - r a by omega)
            have i1 : e a * (- r l) * (- r m) = (- r l) * (e a * (- r m)) := by grind
            have i2 : e l * (- r a) * (- r m) = e l * (- r m) * (- r a) := by grind
            have i3 : e m * (- r l) * (- r a) = (- r l) * (e m * (- r a)) := by grind
            exact Int.le_of_mul_le_mul_left (show (- r l) * (e a * (- r m)) ≤ (- r l) * (e m * (- r a)) by omega) (by omega)
      · refine ⟨l, List.mem_cons_of_mem _ hl, h1, fun m hm hr => ?_⟩
        rcases List.mem_cons.mp hm with z | z
        · rw [z] at hr; exact absurd hr ha
        · exact h2 m z hr
    · obtain ⟨l, hl, hr⟩ := h
      rcases List.mem_cons.mp hl with z | z
      · subst z
        refine ⟨l, List.mem_cons_self, hr, fun m hm hr' => ?_⟩
        rcases List.mem_cons.mp hm with z | z
        · rw [z]; exact Int.le_refl _
        · exact absurd ⟨m, z, hr'⟩ hL
      · exact absurd ⟨l, z, hr⟩ hL
theorem rate_frm (s : Pt × Pt) (d : Pt) : rate (frm s) d = dotp s.2 (d.2, -d.1) - dotp s.1 (d.2, -d.1) := by unfold rate frm dotp; grind
theorem bounded {C : List Pt} (h : Cvx C) {d : Pt} (hd : d ≠ (0, 0)) : ∃ i, rate (frm (sideZ C i)) d < 0 := by
  apply Classical.byContradiction
  intro n
  have up : ∀ i, dotp (cz C i) (d.2, -d.1) ≤ dotp (cz C (i + 1)) (d.2, -d.1) := fun i => by
    have : ¬ rate (frm (sideZ C i)) d < 0 := fun z => n ⟨i, z⟩
    rw [rate_frm] at this
    unfold sideZ at this
    simp only at this
    omega
  have ups : ∀ (j : Nat) (i : Int), dotp (cz C i) (d.2, -d.1) ≤ dotp (cz C (i + j)) (d.2, -d.1) := by
    intro j
    induction j with
    | zero => intro i; rw [show i + ((0 : Nat) : Int) = i by omega]; exact Int.le_refl _
    | succ j ih =>
      intro i
      have := ih i
      have := up (i + j)
      rw [show i + ((j + 1 : Nat) : Int) = i + j + 1 by omega]
      omega
  have l3 := h.len
  have same : ∀ i, dotp (cz C (i + 1)) (d.2, -d.1) = dotp (cz C i) (d.2, -d.1) := fun i => by
    have h1 := ups (C.length - 1) (i + 1)
    rw [show i + 1 + ((C.length - 1 : Nat) : Int) = i + (C.length : Int) by omega, cz_add] at h1
    have := up i
    omega
  have t := h.turn 0
  have s0 := same 0
  have s1 := same (0 + 1)
  rw [show (0 : Int) + 1 + 1 = 0 + 2 by omega] at s1
  generalize cz C 0 = u at *
  generalize cz C (0 + 1) = v at *
  generalize cz C (0 + 2) = q at *
  have e1 : bnd u v q * d.1 = (q.1 - u.1) * (dotp v (d.2, -d.1) - dotp u (d.2, -d.1)) - (v.1 - u.1) * (dotp q (d.2, -d.1) - dotp u (d.2, -d.1)) := by unfold bnd dotp; grind
  have e2 : bnd u v q * d.2 = (q.2 - u.2) * (dotp v (d.2, -d.1) - dotp u (d.2, -d.1)) - (v.2 - u.2) * (dotp q (d.2, -d.1) - dotp u (d.2, -d.1)) := by unfold bnd dotp; grind
  rw [s1, s0, Int.sub_self, Int.mul_zero, Int.mul_zero, Int.sub_zero] at e1 e2
  exact hd (Prod.ext ((Int.mul_eq_zero.mp e1).resolve_left (by omega)) ((Int.mul_eq_zero.mp e2).resolve_left (by omega)))
theorem shoot {A B : List Pt} (hA : Cvx A) (hB : Cvx B) {x y w X Y W : Int} (hW : 0 < W) (hk : ∀ l, Frm A B x y w l → 0 ≤ ev3 l X Y W) {d : Pt} (hd : d ≠ (0, 0)) :
    ∃ l, Frm A B x y w l ∧ rate l d < 0 ∧ ∃ k e : Int, 0 < k ∧ 0 ≤ e ∧ ev3 l (k * X + e * d.1) (k * Y + e * d.2) (k * W) = 0 ∧ ∀ m, Frm A B x y w m → 0 ≤ ev3 m (k * X + e * d.1) (k * Y + e * d.2) (k * W) := by
  obtain ⟨i, hi⟩ := bounded hA hd
  obtain ⟨l, hl, hr, hmin⟩ := min_ratio (fun l => ev3 l X Y W) (fun l => rate l d) (frmL A B x y w) ⟨_, (frmL_iff hA.pos hB.pos).mpr (.inl ⟨i, rfl⟩), hi⟩
  have fl := (frmL_iff hA.pos hB.pos).mp hl
  have el := hk l fl
  have id : ∀ (m : Tr) (k e : Int), ev3 m (k * X + e * d.1) (k * Y + e * d.2) (k * W) = k * ev3 m X Y W + e * rate m d := fun m k e => by unfold ev3 rate; grind
  refine ⟨l, fl, hr, - rate l d, ev3 l X Y W, by omega, el, ?_, fun m fm => ?_⟩
  · rw [id]; grind
  · rw [id]
    have em := hk m fm
    by_cases hm : rate m d < 0
    · have := hmin m ((frmL_iff hA.pos hB.pos).mpr fm) hm
      rw [Int.mul_neg] at this
      rw [Int.mul_comm (- rate l d)]
      omega
    · have h1 := Int.mul_nonneg (show 0 ≤ - rate l d by omega) em
      have h2 := Int.mul_nonneg el (show 0 ≤ rate m d by omega)
      omega
theorem sq_nn (a : Int) : 0 ≤ a * a := by
  rcases Int.le_total 0 a with h | h
  · exact Int.mul_nonneg h h
  · exact Int.mul_nonneg_of_nonpos_of_nonpos h h
theorem far_wedge {A B : List Pt} (hA : Cvx A) (hB : Cvx B) {x y w X Y W : Int} (hW : 0 < W) (hk : ∀ l, Frm A B x y w l → 0 ≤ ev3 l X Y W) (n : Pt) :
    ∃ X' Y' W', 0 < W' ∧ (∀ l, Frm A B x y w l → 0 ≤ ev3 l X' Y' W') ∧ (∃ l m, Frm A B x y w l ∧ Frm A B x y w m ∧ crs l m ≠ 0 ∧ ev3 l X' Y' W' = 0 ∧ ev3 m X' Y' W' = 0) ∧ W' * (X * n.1 + Y * n.2) ≤ W * (X' * n.1 + Y' * n.2) := by
  have go : ∀ d : Pt, d ≠ (0, 0) → 0 ≤ d.1 * n.1 + d.2 * n.2 → (∃ X' Y' W', 0 < W' ∧ (∀ l, Frm A B x y w l → 0 ≤ ev3 l X' Y' W') ∧ (∃ l m, Frm A B x y w l ∧ Frm A B x y w m ∧ crs l m ≠ 0 ∧ ev3 l X' Y' W' = 0 ∧ ev3 m X' Y' W' = 0) ∧ W' * (X * n.1 + Y * n.2) ≤ W * (X' * n.1 + Y' * n.2)) := fun d hd hn => by
    obtain ⟨l, fl, rl, k, e, hk0, he, z, hK⟩ := shoot hA hB hW hk hd
    -- along the side, to where n grows
    have side : ∃ u : Pt, u ≠ (0, 0) ∧ rate l u = 0 ∧ 0 ≤ u.1 * n.1 + u.2 * n.2 ∧ ((u.1 = - l.2.1 ∧ u.2 = l.1) ∨ (u.1 = l.2.1 ∧ u.2 = - l.1)) := by
      have nz : ¬ (l.1 = 0 ∧ l.2.1 = 0) := fun ⟨a, b⟩ => by unfold rate at rl; rw [a, b] at rl; omega
      by_cases c : 0 ≤ (- l.2.1) * n.1 + l.1 * n.2
      · exact ⟨(- l.2.1, l.1), fun q => nz (by have h1 := congrArg Prod.fst q; have h2 := congrArg Prod.snd q; simp only at h1 h2; omega), by unfold rate; simp only; grind, c, .inl ⟨rfl, rfl⟩⟩
      · refine ⟨(l.2.1, - l.1), fun q => nz (by have h1 := congrArg Prod.fst q; have h2 := congrArg Prod.snd q; simp only at h1 h2; omega), by unfold rate; simp only; grind, ?_, .inr ⟨rfl, rfl⟩⟩
        simp only
        rw [Int.neg_mul] at c ⊢
        omega
    obtain ⟨u, hu, ru, nu, ush⟩ := side
    have hW1 := Int.mul_pos hk0 hW
    obtain ⟨m, fm, rm, k2, e2, hk2, he2, z2, hK2⟩ := shoot hA hB hW1 hK hu
    refine ⟨_, _, _, Int.mul_pos hk2 hW1, hK2, ⟨l, m, fl, fm, ?_, ?_, z2⟩, ?_⟩
    · intro c
      have : rate m u = crs l m ∨ rate m u = - crs l m := by
        rcases ush with ⟨a, b⟩ | ⟨a, b⟩
        · left; unfold rate crs; rw [a, b]; grind
        · right; unfold rate crs; rw [a, b]; grind
      omega
    · have : ev3 l (k2 * (k * X + e * d.1) + e2 * u.1) (k2 * (k * Y + e * d.2) + e2 * u.2) (k2 * (k * W)) = k2 * ev3 l (k * X + e * d.1) (k * Y + e * d.2) (k * W) + e2 * rate l u := by unfold ev3 rate; grind
      rw [this, z, ru]
      simp
    · have i1 : W * ((k2 * (k * X + e * d.1) + e2 * u.1) * n.1 + (k2 * (k * Y + e * d.2) + e2 * u.2) * n.2) = k2 * (k * W) * (X * n.1 + Y * n.2) + W * k2 * e * (d.1 * n.1 + d.2 * n.2) + W * e2 * (u.1 * n.1 + u.2 * n.2) := by grind
      have p1 := Int.mul_nonneg (Int.mul_nonneg (Int.mul_nonneg (Int.le_of_lt hW) (Int.le_of_lt hk2)) he) hn
      have p2 := Int.mul_nonneg (Int.mul_nonneg (Int.le_of_lt hW) he2) nu
      rw [i1]
      omega
  by_cases hn : n = (0, 0)
  · exact go (1, 0) (fun z => by have := congrArg Prod.fst z; simp at this) (by rw [hn]; simp)
  · exact go n hn (by
      have a := sq_nn n.1
      have b := sq_nn n.2
      omega)
theorem lfs_u (s : Pt × Pt) (u : Pt) (X Y W : Int) : lfs s X Y W = W * bnd s.1 s.2 u + ((s.2.1 - s.1.1) * (Y - W * u.2) - (s.2.2 - s.1.2) * (X - W * u.1)) := by unfold lfs bnd; grind
theorem corner_of {C : List Pt} (h : Cvx C) {X Y W : Int} (hW : 0 < W) (hk : ∀ k, 0 ≤ lft C k X Y W) {i j : Int} (hi : lft C i X Y W = 0) (hj : lft C j X Y W = 0) (hc : crs (frm (sideZ C i)) (frm (sideZ C j)) ≠ 0) : ∃ c ∈ C, X = c.1 * W ∧ Y = c.2 * W := by
  have k1 := hk (i - 1)
  have k2 := hk (i + 1)
  have t1 := h.turn (i - 1)
  have t2 := h.turn i
  have gu := h.left j (cz_mem h.pos i)
  have gv := h.left j (cz_mem h.pos (i + 1))
  have mu := cz_mem h.pos i
  have mv := cz_mem h.pos (i + 1)
  unfold lft at k1 k2 hi hj
  unfold sideZ at hc
  rw [show i - 1 + 1 = i by omega] at k1 t1
  rw [show i - 1 + 2 = i + 1 by omega] at t1
  rw [show i + 1 + 1 = i + 2 by omega] at k2
  generalize cz C (i - 1) = p at *
  generalize cz C i = u at *
  generalize cz C (i + 1) = v at *
  generalize cz C (i + 2) = q at *
  generalize cz C j = s at *
  generalize cz C (j + 1) = t at *
  have a1 : bnd p u v * (X - W * u.1) = lfs (u, v) X Y W * (p.1 - u.1) + lfs (p, u) X Y W * (v.1 - u.1) := by unfold bnd lfs; grind
  have a2 : bnd p u v * (Y - W * u.2) = lfs (u, v) X Y W * (p.2 - u.2) + lfs (p, u) X Y W * (v.2 - u.2) := by unfold bnd lfs; grind
  have b1 : bnd u v q * (X - W * v.1) = lfs (v, q) X Y W * (u.1 - v.1) + lfs (u, v) X Y W * (q.1 - v.1) := by unfold bnd lfs; grind
  have b2 : bnd u v q * (Y - W * v.2) = lfs (v, q) X Y W * (u.2 - v.2) + lfs (u, v) X Y W * (q.2 - v.2) := by unfold bnd lfs; grind
  rw [hi, Int.zero_mul, Int.zero_add] at a1 a2
  rw [hi, Int.zero_mul, Int.add_zero] at b1 b2
  by_cases zb : lfs (p, u) X Y W = 0
  · rw [zb, Int.zero_mul] at a1 a2
    have z1 := (Int.mul_eq_zero.mp a1).resolve_left (by omega)
    have z2 := (Int.mul_eq_zero.mp a2).resolve_left (by omega)
    exact ⟨u, mu, by rw [Int.mul_comm]; omega, by rw [Int.mul_comm]; omega⟩
  · by_cases za : lfs (v, q) X Y W = 0
    · rw [za, Int.zero_mul] at b1 b2
      have z1 := (Int.mul_eq_zero.mp b1).resolve_left (by omega)
      have z2 := (Int.mul_eq_zero.mp b2).resolve_left (by omega)
      exact ⟨v, mv, by rw [Int.mul_comm]; omega, by rw [Int.mul_comm]; omega⟩
    · exfalso
      have e1 : bnd p u v * lfs (s, t) X Y W = bnd p u v * (W * bnd s t u) + ((t.1 - s.1) * (bnd p u v * (Y - W * u.2)) - (t.2 - s.2) * (bnd p u v * (X - W * u.1))) := by rw [lfs_u (s, t) u]; grind
      have e2 : bnd u v q * lfs (s, t) X Y W = bnd u v q * (W * bnd s t v) + ((t.1 - s.1) * (bnd u v q * (Y - W * v.2)) - (t.2 - s.2) * (bnd u v q * (X - W * v.1))) := by rw [lfs_u (s, t) v]; grind
      rw [hj, Int.mul_zero, a1, a2] at e1
      rw [hj, Int.mul_zero, b1, b2] at e2
      have key : W * (lfs (v, q) X Y W * bnd p u v * bnd s t u + lfs (p, u) X Y W * bnd u v q * bnd s t v) = 0 := by
        have f1 : (t.1 - s.1) * (lfs (p, u) X Y W * (v.2 - u.2)) - (t.2 - s.2) * (lfs (p, u) X Y W * (v.1 - u.1)) = lfs (p, u) X Y W * (bnd s t v - bnd s t u) := by
          generalize lfs (p, u) X Y W = b
          unfold bnd; grind
        have f2 : (t.1 - s.1) * (lfs (v, q) X Y W * (u.2 - v.2)) - (t.2 - s.2) * (lfs (v, q) X Y W * (u.1 - v.1)) = lfs (v, q) X Y W * (bnd s t u - bnd s t v) := by
          generalize lfs (v, q) X Y W = b
          unfold bnd; grind
        rw [f1] at e1
        rw [f2] at e2
        generalize lfs (p, u) X Y W = b at *
        generalize lfs (v, q) X Y W = a at *
        generalize bnd s t u = g1 at *
        generalize bnd s t v = g2 at *
        grind
      have pa : 0 < lfs (v, q) X Y W := by omega
      have pb : 0 < lfs (p, u) X Y W := by omega
      have z := (Int.mul_eq_zero.mp key).resolve_left (by omega)
      have n1 := Int.mul_nonneg (Int.le_of_lt (Int.mul_pos pa t1)) gu
      have n2 := Int.mul_nonneg (Int.le_of_lt (Int.mul_pos pb t2)) gv
      have z1 := (Int.mul_eq_zero.mp (show lfs (v, q) X Y W * bnd p u v * bnd s t u = 0 by omega)).resolve_left (by have := Int.mul_pos pa t1; omega)
      have z2 := (Int.mul_eq_zero.mp (show lfs (p, u) X Y W * bnd u v q * bnd s t v = 0 by omega)).resolve_left (by have := Int.mul_pos pb t2; omega)
      apply hc
      have : crs (frm (u, v)) (frm (s, t)) = bnd s t u - bnd s t v := by unfold crs frm bnd; grind
      omega
theorem on_side {C : List Pt} (h : Cvx C) {X Y W k u : Int} (hk : 0 < k) (hW : 0 < W) (hK : ∀ j, 0 ≤ lft C j X Y W) (i : Int) (h1 : k * (X - W * (sideZ C i).1.1) = W * u * ((sideZ C i).2.1 - (sideZ C i).1.1)) (h2 : k * (Y - W * (sideZ C i).1.2) = W * u * ((sideZ C i).2.2 - (sideZ C i).1.2)) : 0 ≤ u ∧ u ≤ k := by
  have k1 := hK (i - 1)
  have k2 := hK (i + 1)
  have t1 := h.turn (i - 1)
  have t2 := h.turn i
  unfold lft at k1 k2
  unfold sideZ at h1 h2
  rw [show i - 1 + 1 = i by omega] at k1 t1
  rw [show i - 1 + 2 = i + 1 by omega] at t1
  rw [show i + 1 + 1 = i + 2 by omega] at k2
  generalize cz C (i - 1) = p at *
  generalize cz C i = a at *
  generalize cz C (i + 1) = b at *
  generalize cz C (i + 2) = q at *
  simp only at h1 h2
  have e1 : k * lfs (p, a) X Y W = W * bnd p a b * u := by
    have : k * lfs (p, a) X Y W = (a.1 - p.1) * (k * (Y - W * a.2)) - (a.2 - p.2) * (k * (X - W * a.1)) := by unfold lfs; grind
    rw [this, h1, h2]
    unfold bnd; grind
  have e2 : k * lfs (b, q) X Y W = W * bnd a b q * (k - u) := by
    have : k * lfs (b, q) X Y W = (q.1 - b.1) * (k * (Y - W * a.2) - k * W * (b.2 - a.2)) - (q.2 - b.2) * (k * (X - W * a.1) - k * W * (b.1 - a.1)) := by unfold lfs; grind
    rw [this, h1, h2]
    unfold bnd; grind
  have p1 := Int.mul_pos hW t1
  have p2 := Int.mul_pos hW t2
  have n1 := Int.mul_nonneg (Int.le_of_lt hk) k1
  have n2 := Int.mul_nonneg (Int.le_of_lt hk) k2
  rw [e1] at n1
  rw [e2] at n2
  constructor
  · apply Classical.byContradiction
    intro z
    have := Int.mul_neg_of_pos_of_neg p1 (show u < 0 by omega)
    omega
  · apply Classical.byContradiction
    intro z
    have := Int.mul_neg_of_pos_of_neg p2 (show k - u < 0 by omega)
    omega
theorem lin1 {X W a r w m u : Int} (h : w * m * (X - W * a) = W * u * r) : X * (w * m) = W * (a * w * m + r * u) := by
  rw [Int.mul_sub] at h
  have e1 : X * (w * m) = w * m * X := Int.mul_comm _ _
  have e2 : W * (a * w * m + r * u) = w * m * (W * a) + W * u * r := by grind
  rw [e1, e2]
  omega
theorem cross_found {A B : List Pt} (hA : Cvx A) (hB : Cvx B) {x y w X Y W : Int} (hw : 0 < w) (hW : 0 < W) (hk : InB A B x y w X Y W) {i j : Int} (h1 : lft A i X Y W = 0) (h2 : lft B j (X * w - x * W) (Y * w - y * W) (w * W) = 0) (hc : crM (sideZ A i) (sideZ B j) ≠ 0) :
    ∃ t ∈ foundP A B x y w, t.1 * W = X * t.2.2 ∧ t.2.1 * W = Y * t.2.2 := by
  have l1 : lfs (sideZ A i) X Y W = 0 := h1
  have l2 : lfs (sideZ B j) (X * w - x * W) (Y * w - y * W) (w * W) = 0 := h2
  have a1 : w * crM (sideZ A i) (sideZ B j) * (X - W * (sideZ A i).1.1) = W * crU (sideZ A i) (sideZ B j) x y w * ((sideZ A i).2.1 - (sideZ A i).1.1) := by
    have : w * crM (sideZ A i) (sideZ B j) * (X - W * (sideZ A i).1.1) - W * crU (sideZ A i) (sideZ B j) x y w * ((sideZ A i).2.1 - (sideZ A i).1.1) = - ((sideZ A i).2.1 - (sideZ A i).1.1) * lfs (sideZ B j) (X * w - x * W) (Y * w - y * W) (w * W) + w * ((sideZ B j).2.1 - (sideZ B j).1.1) * lfs (sideZ A i) X Y W := by
      unfold crM crU lfs; grind
    rw [l1, l2] at this
    omega
  have a2 : w * crM (sideZ A i) (sideZ B j) * (Y - W * (sideZ A i).1.2) = W * crU (sideZ A i) (sideZ B j) x y w * ((sideZ A i).2.2 - (sideZ A i).1.2) := by
    have : w * crM (sideZ A i) (sideZ B j) * (Y - W * (sideZ A i).1.2) - W * crU (sideZ A i) (sideZ B j) x y w * ((sideZ A i).2.2 - (sideZ A i).1.2) = - ((sideZ A i).2.2 - (sideZ A i).1.2) * lfs (sideZ B j) (X * w - x * W) (Y * w - y * W) (w * W) + w * ((sideZ B j).2.2 - (sideZ B j).1.2) * lfs (sideZ A i) X Y W := by
      unfold crM crU lfs; grind
    rw [l1, l2] at this
    omega
  have b1 : crM (sideZ A i) (sideZ B j) * ((X * w - x * W) - w * W * (sideZ B j).1.1) = W * crV (sideZ A i) (sideZ B j) x y w * ((sideZ B j).2.1 - (sideZ B j).1.1) := by
    have : crM (sideZ A i) (sideZ B j) * ((X * w - x * W) - w * W * (sideZ B j).1.1) - W * crV (sideZ A i) (sideZ B j) x y w * ((sideZ B j).2.1 - (sideZ B j).1.1) = - ((sideZ A i).2.1 - (sideZ A i).1.1) * lfs (sideZ B j) (X * w - x * W) (Y * w - y * W) (w * W) + w * ((sideZ B j).2.1 - (sideZ B j).1.1) * lfs (sideZ A i) X Y W := by
      unfold crM crV lfs; grind
    rw [l1, l2] at this
    omega
  have b2 : crM (sideZ A i) (sideZ B j) * ((Y * w - y * W) - w * W * (sideZ B j).1.2) = W * crV (sideZ A i) (sideZ B j) x y w * ((sideZ B j).2.2 - (sideZ B j).1.2) := by
    have : crM (sideZ A i) (sideZ B j) * ((Y * w - y * W) - w * W * (sideZ B j).1.2) - W * crV (sideZ A i) (sideZ B j) x y w * ((sideZ B j).2.2 - (sideZ B j).1.2) = - ((sideZ A i).2.2 - (sideZ A i).1.2) * lfs (sideZ B j) (X * w - x * W) (Y * w - y * W) (w * W) + w * ((sideZ B j).2.2 - (sideZ B j).1.2) * lfs (sideZ A i) X Y W := by
      unfold crM crV lfs; grind
    rw [l1, l2] at this
    omega
  have ng : ∀ {k Z W U r : Int}, k * Z = W * U * r → -k * Z = W * (-U) * r := fun {k Z W U r} h => by
    rw [Int.neg_mul, Int.mul_neg, Int.neg_mul, h]
  -- for either sign
  have fin : ∀ m u v : Int, 0 < m → crossP (sideZ A i) (sideZ B j) x y w = (if crIn w m u v then some (crT (sideZ A i) w m u) else none) →
      w * m * (X - W * (sideZ A i).1.1) = W * u * ((sideZ A i).2.1 - (sideZ A i).1.1) → w * m * (Y - W * (sideZ A i).1.2) = W * u * ((sideZ A i).2.2 - (sideZ A i).1.2) →
      m * ((X * w - x * W) - w * W * (sideZ B j).1.1) = W * v * ((sideZ B j).2.1 - (sideZ B j).1.1) → m * ((Y * w - y * W) - w * W * (sideZ B j).1.2) = W * v * ((sideZ B j).2.2 - (sideZ B j).1.2) →
      ∃ t ∈ foundP A B x y w, t.1 * W = X * t.2.2 ∧ t.2.1 * W = Y * t.2.2 := fun m u v hm e e1 e2 e3 e4 => by
    have wm := Int.mul_pos hw hm
    obtain ⟨u0, u1⟩ := on_side hA wm hW hk.1 i e1 e2
    obtain ⟨v0, v1⟩ := on_side (k := w * m) (u := v) hB wm (Int.mul_pos hw hW) hk.2 j (by rw [Int.mul_assoc w m, e3]; ac_rfl) (by rw [Int.mul_assoc w m, e4]; ac_rfl)
    rw [if_pos ⟨⟨u0, u1⟩, v0, v1⟩] at e
    refine ⟨_, List.mem_append_right _ (List.mem_flatMap.mpr ⟨_, sideZ_mem hA.pos i, List.mem_filterMap.mpr ⟨_, sideZ_mem hB.pos j, e⟩⟩), ?_⟩
    obtain ⟨s1, s2⟩ := s_eq (x := (sideZ A i).1.1 * w * m + ((sideZ A i).2.1 - (sideZ A i).1.1) * u) (y := (sideZ A i).1.2 * w * m + ((sideZ A i).2.2 - (sideZ A i).1.2) * u) (w := w * m) (by omega)
    unfold crT spT
    simp only
    generalize sX _ _ _ = p1 at *
    generalize sY _ _ _ = p2 at *
    generalize sW _ _ _ = p3 at *
    constructor
    · apply Int.eq_of_mul_eq_mul_right (show w * m ≠ 0 by omega)
      have : p1 * W * (w * m) = W * (p1 * (w * m)) := by ac_rfl
      rw [this, s1]
      have e : X * p3 * (w * m) = X * (w * m) * p3 := by ac_rfl
      rw [e, lin1 e1]
      ac_rfl
    · apply Int.eq_of_mul_eq_mul_right (show w * m ≠ 0 by omega)
      have : p2 * W * (w * m) = W * (p2 * (w * m)) := by ac_rfl
      rw [this, s2]
      have e : Y * p3 * (w * m) = Y * (w * m) * p3 := by ac_rfl
      rw [e, lin1 e2]
      ac_rfl
  by_cases hm : crM (sideZ A i) (sideZ B j) < 0
  · refine fin (-crM (sideZ A i) (sideZ B j)) (-crU (sideZ A i) (sideZ B j) x y w) (-crV (sideZ A i) (sideZ B j) x y w) (by omega) ?_ (by rw [Int.mul_neg]; exact ng a1) (by rw [Int.mul_neg]; exact ng a2) (ng b1) (ng b2)
    unfold crossP
    rw [if_neg hc, if_pos hm]
  · refine fin _ _ _ (by omega) ?_ a1 a2 b1 b2
    unfold crossP
    rw [if_neg hc, if_neg hm]
theorem wedge_found {A B : List Pt} (hA : Cvx A) (hB : Cvx B) {x y w X Y W : Int} (hw : 0 < w) (hW : 0 < W) (hk : ∀ l, Frm A B x y w l → 0 ≤ ev3 l X Y W) (hv : ∃ l m, Frm A B x y w l ∧ Frm A B x y w m ∧ crs l m ≠ 0 ∧ ev3 l X Y W = 0 ∧ ev3 m X Y W = 0) :
    ∃ t ∈ foundP A B x y w, t.1 * W = X * t.2.2 ∧ t.2.1 * W = Y * t.2.2 := by
  have kA : ∀ i, 0 ≤ lft A i X Y W := fun i => by have := hk _ (.inl ⟨i, rfl⟩); rw [ev_frm] at this; exact this
  have kB : ∀ i, 0 ≤ lft B i (X * w - x * W) (Y * w - y * W) (w * W) := fun i => by have := hk _ (.inr ⟨i, rfl⟩); rw [ev_frmB] at this; exact this
  have wW := Int.mul_pos hw hW
  have ab : ∀ i j, ev3 (frm (sideZ A i)) X Y W = 0 → ev3 (frmB (sideZ B j) x y w) X Y W = 0 → crs (frm (sideZ A i)) (frmB (sideZ B j) x y w) ≠ 0 → ∃ t ∈ foundP A B x y w, t.1 * W = X * t.2.2 ∧ t.2.1 * W = Y * t.2.2 := fun i j e1 e2 hc => by
    rw [ev_frm] at e1
    rw [ev_frmB] at e2
    refine cross_found hA hB hw hW ⟨kA, kB⟩ e1 e2 fun z => hc ?_
    have : crs (frm (sideZ A i)) (frmB (sideZ B j) x y w) = w * crM (sideZ A i) (sideZ B j) := by unfold crs frm frmB frm crM; grind
    rw [this, z, Int.mul_zero]
  obtain ⟨l, m, fl, fm, hc, el, em⟩ := hv
  rcases fl with ⟨i, rfl⟩ | ⟨i, rfl⟩ <;> rcases fm with ⟨j, rfl⟩ | ⟨j, rfl⟩
  · rw [ev_frm] at el em
    obtain ⟨c, hcm, e1, e2⟩ := corner_of hA hW kA el em hc
    refine ⟨(c.1, c.2, 1), List.mem_append_left _ (List.mem_append_left _ (List.mem_filterMap.mpr ⟨c, hcm, ?_⟩)), by rw [e1]; simp, by rw [e2]; simp⟩
    unfold f1
    rw [Int.mul_one, Int.mul_one, Int.add_zero, Int.add_zero, spT_one]
    unfold wvT
    rw [if_pos ((wv_nn hB.pos).mpr fun k => ?_)]
    simp only
    have := kB k
    unfold lft at this ⊢
    rw [e1, e2, show c.1 * W * w - x * W = W * (c.1 * w - x * 1) by grind, show c.2 * W * w - y * W = W * (c.2 * w - y * 1) by grind, show w * W = W * (w * 1) by grind, lfs_hom] at this
    apply Classical.byContradiction
    intro z
    have := Int.mul_neg_of_pos_of_neg hW (show lfs (cz B k, cz B (k + 1)) (c.1 * w - x * 1) (c.2 * w - y * 1) (w * 1) < 0 by omega)
    omega
  · exact ab i j el em hc
  · exact ab j i em el (fun z => hc (by unfold crs at z ⊢; omega))
  · rw [ev_frmB] at el em
    have hc' : crs (frm (sideZ B i)) (frm (sideZ B j)) ≠ 0 := fun z => hc (by
      have : crs (frmB (sideZ B i) x y w) (frmB (sideZ B j) x y w) = w * w * crs (frm (sideZ B i)) (frm (sideZ B j)) := by unfold crs frmB; grind
      rw [this, z, Int.mul_zero])
    obtain ⟨c, hcm, e1, e2⟩ := corner_of hB wW kB el em hc'
    obtain ⟨s1, s2⟩ := s_eq (x := c.1 * w + x) (y := c.2 * w + y) (w := w) (by omega)
    have q1 : (c.1 * w + x) * W = X * w := by
      have : c.1 * (w * W) + x * W = (c.1 * w + x) * W := by grind
      omega
    have q2 : (c.2 * w + y) * W = Y * w := by
      have : c.2 * (w * W) + y * W = (c.2 * w + y) * W := by grind
      omega
    refine ⟨spT (c.1 * w + x) (c.2 * w + y) w, List.mem_append_left _ (List.mem_append_right _ (List.mem_filterMap.mpr ⟨c, hcm, ?_⟩)), ?_, ?_⟩
    · unfold f2 wvT
      rw [if_pos ((wv_nn hA.pos).mpr fun k => ?_)]
      have e3 := (sp_same (X := c.1 * w + x) (Y := c.2 * w + y) hw (frm (sideZ A k))).1
      have e4 : 0 ≤ ev3 (frm (sideZ A k)) (c.1 * w + x) (c.2 * w + y) w := by
        have e5 := ev3_scale (frm (sideZ A k)) q1 q2
        have e6 := hk _ (.inl ⟨k, rfl⟩)
        have := Int.mul_nonneg (Int.le_of_lt hw) e6
        apply Classical.byContradiction
        intro z
        have := Int.mul_neg_of_pos_of_neg hW (show ev3 (frm (sideZ A k)) (c.1 * w + x) (c.2 * w + y) w < 0 by omega)
        omega
      have := e3.mpr e4
      rw [ev_frm] at this
      simp only [Int.mul_one, Int.zero_mul, Int.sub_zero, Int.one_mul]
      exact this
    · unfold spT
      simp only
      apply Int.eq_of_mul_eq_mul_right (show w ≠ 0 by omega)
      have : sX (c.1 * w + x) (c.2 * w + y) w * W * w = W * (sX (c.1 * w + x) (c.2 * w + y) w * w) := by ac_rfl
      rw [this, s1]
      have e : X * sW (c.1 * w + x) (c.2 * w + y) w * w = X * w * sW (c.1 * w + x) (c.2 * w + y) w := by ac_rfl
      rw [e, ← q1]
      ac_rfl
    · unfold spT
      simp only
      apply Int.eq_of_mul_eq_mul_right (show w ≠ 0 by omega)
      have : sY (c.1 * w + x) (c.2 * w + y) w * W * w = W * (sY (c.1 * w + x) (c.2 * w + y) w * w) := by ac_rfl
      rw [this, s2]
      have e : Y * sW (c.1 * w + x) (c.2 * w + y) w * w = Y * w * sW (c.1 * w + x) (c.2 * w + y) w := by ac_rfl
      rw [e, ← q2]
      ac_rfl
theorem far_found {A B : List Pt} (hA : Cvx A) (hB : Cvx B) {x y w X Y W : Int} (hw : 0 < w) (hW : 0 < W) (hk : ∀ l, Frm A B x y w l → 0 ≤ ev3 l X Y W) (n : Pt) : ∃ t ∈ foundP A B x y w, t.2.2 * (X * n.1 + Y * n.2) ≤ W * (t.1 * n.1 + t.2.1 * n.2) := by
  obtain ⟨X', Y', W', hW', hk', hv, hle⟩ := far_wedge hA hB hW hk n
  obtain ⟨t, ht, e1, e2⟩ := wedge_found hA hB hw hW' hk' hv
  refine ⟨t, ht, ?_⟩
  have pt : 0 < t.2.2 := by
    have : ∀ t ∈ foundP A B x y w, 0 < t.2.2 := fun t ht => by
      rcases List.mem_append.mp ht with h | h
      · rcases List.mem_append.mp h with h | h
        · obtain ⟨c, _, e⟩ := List.mem_filterMap.mp h
          unfold f1 at e
          split at e
          · cases e; exact sW_pos (by decide)
          · cases e
        · obtain ⟨c, _, e⟩ := List.mem_filterMap.mp h
          unfold f2 at e
          split at e
          · cases e; exact sW_pos (by omega)
          · cases e
      · obtain ⟨s, _, h⟩ := List.mem_flatMap.mp h
        obtain ⟨q, _, e⟩ := List.mem_filterMap.mp h
        unfold crossP at e
        split at e
        · cases e
        · rename_i hm
          split at e
          · split at e
            · cases e; exact sW_pos (Int.mul_ne_zero (by omega) (by omega))
            · cases e
          · split at e
            · cases e; exact sW_pos (Int.mul_ne_zero (by omega) hm)
            · cases e
    exact this t ht
  apply Int.le_of_mul_le_mul_left ?_ hW'
  have m := Int.mul_le_mul_of_nonneg_left hle (Int.le_of_lt pt)
  have i1 : W' * (W * (t.1 * n.1 + t.2.1 * n.2)) = W * (t.1 * W' * n.1 + t.2.1 * W' * n.2) := by grind
  rw [i1, e1, e2]
  have i2 : W * (X' * t.2.2 * n.1 + Y' * t.2.2 * n.2) = t.2.2 * (W * (X' * n.1 + Y' * n.2)) := by grind
  have i3 : W' * (t.2.2 * (X * n.1 + Y * n.2)) = t.2.2 * (W' * (X * n.1 + Y * n.2)) := by grind
  rw [i2, i3]
  exact m
theorem bound_exA {α : Type} (f : α → Int) : ∀ l : List α, ∃ N : Int, 1 ≤ N ∧ ∀ n ∈ l, f n ≤ N
  | [] => ⟨1, by decide, fun _ h => absurd h (by simp)⟩
  | a :: l => by
    obtain ⟨N, h1, h2⟩ := bound_exA f l
    refine ⟨max N (f a), by omega, fun n hn => ?_⟩
    rcases List.mem_cons.mp hn with e | e
    · rw [e]; omega
    · have := h2 n e; omega
theorem InS_frm {A B : List Pt} {x y w X Y W : Int} (h : InS A B x y w X Y W) : ∀ l, Frm A B x y w l → 0 < ev3 l X Y W := by
  rintro l (⟨i, rfl⟩ | ⟨i, rfl⟩)
  · rw [ev_frm]; exact h.1 i
  · rw [ev_frmB]; exact h.2 i
theorem three_of {A B : List Pt} (hA : Cvx A) (hB : Cvx B) {x y w X Y W : Int} (hw : 0 < w) (hW : 0 < W) (hs : InS A B x y w X Y W) (hpos : ∀ t ∈ foundP A B x y w, 0 < t.2.2) (hsrt : (sharedP A B x y w).Pairwise Ah) : 3 ≤ (sharedP A B x y w).length := by
  apply Classical.byContradiction
  intro hlen
  have key : ∃ n : Pt, n ≠ (0, 0) ∧ ∀ t ∈ sharedP A B x y w, ∀ u ∈ sharedP A B x y w, (t.1 * n.1 + t.2.1 * n.2) * u.2.2 = (u.1 * n.1 + u.2.1 * n.2) * t.2.2 := by
    match hl : sharedP A B x y w, hlen with
    | [], _ => exact ⟨(1, 0), fun z => by have := congrArg Prod.fst z; simp at this, fun t ht => absurd ht (by simp)⟩
    | [a], _ => exact ⟨(1, 0), fun z => by have := congrArg Prod.fst z; simp at this, fun t ht u hu => by
        rw [List.mem_singleton.mp ht, List.mem_singleton.mp hu]⟩
    | [a, b], _ =>
      rw [hl] at hsrt
      have o := (List.pairwise_cons.mp hsrt).1 b (by simp)
      refine ⟨(b.2.1 * a.2.2 - a.2.1 * b.2.2, -(b.1 * a.2.2 - a.1 * b.2.2)), fun z => ?_, fun t ht u hu => ?_⟩
      · have h1 := congrArg Prod.fst z
        have h2 := congrArg Prod.snd z
        simp only at h1 h2
        unfold Ah at o
        omega
      · simp only [List.mem_cons, List.not_mem_nil, or_false] at ht hu
        rcases ht with rfl | rfl <;> rcases hu with rfl | rfl
        · rfl
        · simp only; grind
        · simp only; grind
        · rfl
    | _ :: _ :: _ :: _, h => exact absurd (by simp) h
  obtain ⟨n, hn, same⟩ := key
  obtain ⟨N, hN, hb⟩ := bound_exA (fun l => - rate l n) (frmL A B x y w)
  have hk := InS_frm hs
  have k2 : ∀ l, Frm A B x y w l → 0 ≤ ev3 l (N * X + n.1) (N * Y + n.2) (N * W) := fun l fl => by
    have e : ev3 l (N * X + n.1) (N * Y + n.2) (N * W) = N * ev3 l X Y W + rate l n := by unfold ev3 rate; grind
    have h1 := hb l ((frmL_iff hA.pos hB.pos).mpr fl)
    have h2 := Int.mul_le_mul_of_nonneg_left (show 1 ≤ ev3 l X Y W by have := hk l fl; omega) (show 0 ≤ N by omega)
    rw [e]
    omega
  obtain ⟨t1, ht1, f1⟩ := far_found hA hB hw (Int.mul_pos (show 0 < N by omega) hW) k2 n
  obtain ⟨t2, ht2, f2⟩ := far_found hA hB hw hW (fun l fl => Int.le_of_lt (hk l fl)) (negP n)
  have p1 := hpos t1 ht1
  have p2 := hpos t2 ht2
  have s := same t1 (mem_ordT.mpr ht1) t2 (mem_ordT.mpr ht2)
  have nn : 0 < n.1 * n.1 + n.2 * n.2 := by
    have a := sq_nn n.1
    have b := sq_nn n.2
    apply Classical.byContradiction
    intro z
    have z1 : n.1 * n.1 = 0 := by omega
    have z2 : n.2 * n.2 = 0 := by omega
    exact hn (Prod.ext ((Int.mul_eq_zero.mp z1).elim id id) ((Int.mul_eq_zero.mp z2).elim id id))
  have g1 := Int.mul_le_mul_of_nonneg_left f1 (Int.le_of_lt p2)
  have g2 := Int.mul_le_mul_of_nonneg_left f2 (show 0 ≤ N * t1.2.2 from Int.mul_nonneg (by omega) (Int.le_of_lt p1))
  unfold negP at g2
  simp only at g2
  have i1 : t2.2.2 * (t1.2.2 * ((N * X + n.1) * n.1 + (N * Y + n.2) * n.2)) = N * t1.2.2 * (t2.2.2 * (X * n.1 + Y * n.2)) + t1.2.2 * t2.2.2 * (n.1 * n.1 + n.2 * n.2) := by grind
  have i2 : t2.2.2 * (N * W * (t1.1 * n.1 + t1.2.1 * n.2)) = N * W * ((t1.1 * n.1 + t1.2.1 * n.2) * t2.2.2) := by grind
  have i3 : N * t1.2.2 * (t2.2.2 * (X * -n.1 + Y * -n.2)) = - (N * t1.2.2 * (t2.2.2 * (X * n.1 + Y * n.2))) := by grind
  have i4 : N * t1.2.2 * (W * (t2.1 * -n.1 + t2.2.1 * -n.2)) = - (N * W * ((t2.1 * n.1 + t2.2.1 * n.2) * t1.2.2)) := by grind
  rw [i1, i2, s] at g1
  rw [i3, i4] at g2
  have := Int.mul_pos (Int.mul_pos p1 p2) nn
  omega
def amidT (a b c : Tr) : Tr := spT (a.1 * b.2.2 * c.2.2 + b.1 * a.2.2 * c.2.2 + c.1 * a.2.2 * b.2.2) (a.2.1 * b.2.2 * c.2.2 + b.2.1 * a.2.2 * c.2.2 + c.2.1 * a.2.2 * b.2.2) (3 * a.2.2 * b.2.2 * c.2.2)
def innerP (A B : List Pt) (x y w : Int) : Option Tr := match sharedP A B x y w with
  | a :: b :: c :: _ => some (amidT a b c)
  | _ => none
theorem inner_some {A B : List Pt} (hA : Cvx A) (hB : Cvx B) {x y w X Y W : Int} (hw : 0 < w) (hW : 0 < W) (hs : InS A B x y w X Y W) (hpos : ∀ t ∈ foundP A B x y w, 0 < t.2.2) (hsrt : (sharedP A B x y w).Pairwise Ah) : ∃ t, innerP A B x y w = some t := by
  have l3 := three_of hA hB hw hW hs hpos hsrt
  unfold innerP
  match hl : sharedP A B x y w, l3 with
  | a :: b :: c :: _, _ => exact ⟨_, rfl⟩
  | [], h => simp at h
  | [_], h => simp at h
  | [_, _], h => simp at h
end Law
namespace Law
open PySem PySem.Spec PyProof.Rows L2 GD Hl
local macro_rules | `(tactic| walk_at "bd") => `(tactic| first
  | with_reducible assumption
  | with_reducible exact Bd.litO _
  | ((with_reducible refine' Bd.mul ?h ?g); (case h => walk_at "bd"); (case g => walk_at "bd"))
  | ((with_reducible refine' Bd.add ?h ?g); (case h => walk_at "bd"); (case g => walk_at "bd"))
  | ((with_reducible refine' Bd.sub ?h ?g); (case h => walk_at "bd"); (case g => walk_at "bd"))
  | ((with_reducible refine' Bd.neg ?h); (case h => walk_at "bd"))
  | ((with_reducible refine' Bd.emod ?h); (case h => walk_at "pos"))
  | ((with_reducible refine' Bd.ediv ?h); (case h => walk_at "bd"))
  | ((with_reducible refine' bd_fT ?h); (case h => walk_at "bd"))
  | ((with_reducible refine' bd_fB ?h); (case h => walk_at "bd"))
  | ((with_reducible refine' bd_sX ?h); (case h => walk_at "bd"))
  | ((with_reducible refine' bd_sY ?h); (case h => walk_at "bd"))
  | ((with_reducible refine' bd_sW ?h); (case h => walk_at "bd"))
  | ((with_reducible refine' bd_abs ?h); (case h => walk_at "bd"))
  | ((with_reducible refine' BdP.a ?h); (case h => walk_at "bdq"))
  | ((with_reducible refine' BdP.b ?h); (case h => walk_at "bdq"))
  | with_reducible exact bd_ite1
  | ((with_reducible refine' bd_ite ?h ?g); (case h => walk_at "bd"); (case g => walk_at "bd")))
local macro_rules | `(tactic| walk_at "pos") => `(tactic| first
  | with_reducible assumption
  | decide
  | omega)
local macro_rules | `(tactic| walk_at "bdq") => `(tactic| first
  | with_reducible assumption
  | ((with_reducible refine' bd_cy ?h ?g _); (case h => with_reducible assumption); (case g => first | with_reducible assumption | omega))
  | ((with_reducible refine' bd_mem ?h ?g); (case g => with_reducible assumption); (case h => with_reducible assumption))
  | ((with_reducible refine' bd_get ?h); (case h => with_reducible assumption)))
local macro_rules | `(tactic| walk_at "bdp") => `(tactic| first
  | walk_at "bdq"
  | ((with_reducible refine' BdP.mk ?h ?g); (case h => walk_at "bd"); (case g => walk_at "bd")))
local macro_rules | `(tactic| walk_at "num") => `(tactic| first
  | with_reducible assumption
  | omega
  | decide +kernel
  | (simp only [Nat.reduceLog2]; omega))
local macro_rules | `(tactic| walk_at "dis") => `(tactic| first
  | with_reducible assumption
  | ((with_reducible refine' mok ?h ?g ?l); (case h => walk_at "bd"); (case g => walk_at "bd"); (case l => walk_at "num"))
  | ((with_reducible refine' Bd.mono ?h ?l); (case h => walk_at "bd"); (case l => walk_at "num"))
  | ((with_reducible refine' BdP.mono ?h ?l); (case h => walk_at "bdp"); (case l => walk_at "num"))
  | ((with_reducible show divOk _); first | with_reducible assumption | decide +kernel | (refine' dok ?p ?h ?l; (case p => first | with_reducible assumption | omega); (case h => walk_at "bd"); (case l => walk_at "num")))
  | omega)
local macro_rules | `(tactic| walk_at "op") => `(tactic| first
  | with_reducible exact dAdd_int _ _
  | with_reducible exact dSub_int _ _
  | ((with_reducible refine dMul_int ?_); walk_at "dis")
  | with_reducible exact dAt_pp0 _ _
  | with_reducible exact dAt_pp1 _ _
  | with_reducible exact dAt_p0 _
  | with_reducible exact dAt_p1 _
  | with_reducible exact dAt_t0
  | with_reducible exact dAt_t1
  | with_reducible exact dAt_t2
  | with_reducible exact dAt_q0 _ _ _
  | with_reducible exact dAt_q1 _ _ _
  | with_reducible exact dAt_q2 _ _ _
  | with_reducible exact dAt_f0 _ _
  | with_reducible exact dAt_f1 _ _
  | with_reducible exact dLt_int _ _
  | with_reducible exact dLe_int _ _
  | with_reducible exact dGt_int _ _
  | with_reducible exact dGe_int _ _
  | with_reducible exact dEq_int _ _
  | with_reducible exact dNe_int _ _
  | ((with_reducible refine dMod_int ?_); walk_at "dis")
  | ((with_reducible refine dDiv_int ?_); walk_at "dis")
  | with_reducible exact dNeg_int _
  | with_reducible exact dIs_non _
  | with_reducible exact dIsNot_non _
  | with_reducible exact dAbs_int _
  | with_reducible exact dMax2_int _ _
  | with_reducible exact dMin2_int _ _
  | with_reducible exact dInt_bl _
  | with_reducible exact dLen_pts _
  | with_reducible exact dEq_pt _ _
  | with_reducible exact dNe_pt _ _
  | with_reducible exact dEq_pts _ _
  | with_reducible exact dNe_pts _ _
  | with_reducible exact dNe_bl _ _
  | with_reducible exact dEq_bl _ _
  | with_reducible exact dEq_D3 _ _ _ _ _ _
  | with_reducible exact dNe_D3 _ _ _ _ _ _
  | with_reducible exact dEq_np _
  | with_reducible exact dNe_np _
  | ((with_reducible refine at_last ?_); walk_at "dis")
  | with_reducible exact dAt_l0
  | with_reducible exact dAt_l1
  | with_reducible exact dAt_l2
  | with_reducible exact dAt_l3
  | with_reducible exact dAt_l4
  | with_reducible exact dAt_l5
  | with_reducible exact dAt_l6
  | with_reducible exact dAt_l7
  | ((with_reducible refine' dNe_self ?h ?l); (case h => walk_at "shp"); (case l => decide))
  | ((with_reducible refine' dEq_self ?h ?l); (case h => walk_at "shp"); (case l => decide))
  | with_reducible assumption
  | exact isi_int _ _ _ _ rfl kb_tuple_tuple
  | exact isi_int _ _ _ _ rfl kb_list_list
  | exact isi_int _ _ _ _ rfl kb_int_int
  | exact isi_int _ _ _ _ rfl kb_bool_bool
  | exact isi_int _ _ _ _ rfl kb_int_bool
  | exact isi_int _ _ _ _ rfl kb_list_tuple
  | exact isi_int _ _ _ _ rfl kb_tuple_list
  | with_reducible rfl)
local macro_rules | `(tactic| walk_at "shp") => `(tactic| first
  | with_reducible exact shp_int _
  | with_reducible exact shp_bl _
  | with_reducible exact shp_non
  | with_reducible exact shp_pt _
  | with_reducible exact shp_pts _
  | with_reducible exact shp_D2 _ _
  | with_reducible exact shp_fr _ _
  | with_reducible exact shp_D3 _ _ _
  | with_reducible exact shp_sp _ _ _
  | with_reducible exact shp_nilL
  | with_reducible exact shp_nilT
  | ((with_reducible refine' shp_consL ?h ?g); (case h => walk_at "shp"); (case g => walk_at "shp"))
  | ((with_reducible refine' shp_consT ?h ?g); (case h => walk_at "shp"); (case g => walk_at "shp"))
  | with_reducible assumption)
local macro_rules | `(tactic| walk_at "fn") => `(tactic| first
  | with_reducible assumption
  | with_reducible exact whole_int _
  | with_reducible exact divisor_eq _ _
  | with_reducible exact common_eq _ _)
local macro_rules | `(tactic| walk_at "ev") => `(tactic| first
  | with_reducible exact ev_c _
  | ((with_reducible refine' ev_var ?h1); (case h1 => exact rfl))
  | ((with_reducible refine' ev_e2 ?h1 ?h2 ?h3); (case h1 => walk_at "ev"); (case h2 => walk_at "ev"); (case h3 => walk_at "op"))
  | with_reducible exact ev_nil
  | ((with_reducible refine' ev_cons ?h1 ?h2); (case h1 => walk_at "ev"); (case h2 => walk_at "ev"))
  | ((with_reducible refine' ev_F ?h1 ?h2); (case h1 => walk_at "ev"); (case h2 => walk_at "fn"))
  | ((with_reducible refine' ev_mB ?h1); (case h1 => walk_at "ev"))
  | ((with_reducible refine' ev_B ?h1 ?h2); (case h1 => walk_at "ev"); (case h2 => walk_at "op"))
  | ((with_reducible refine' ev_tup2 ?h1 ?h2); (case h1 => walk_at "ev"); (case h2 => walk_at "ev"))
  | ((with_reducible refine' ev_tup3 ?h1 ?h2 ?h3); (case h1 => walk_at "ev"); (case h2 => walk_at "ev"); (case h3 => walk_at "ev"))
  | ((with_reducible refine' ev_tup ?h1 ?h2); (case h1 => walk_at "ev"); (case h2 => walk_at "len"))
  | ((with_reducible refine' ev_L ?h1); (case h1 => walk_at "ev"))
  | ((with_reducible refine' ev_lst ?h1 ?h2); (case h1 => walk_at "ev"); (case h2 => walk_at "len"))
  | ((with_reducible refine' ev_not ?h1); (case h1 => walk_at "ev"))
  | ((with_reducible refine' ev_and0 ?h1); (case h1 => walk_at "ev"))
  | ((with_reducible refine' ev_and ?h1 ?h2); (case h1 => walk_at "ev"); (case h2 => (intro hq; (try simp only [decide_eq_true_eq, decide_eq_false_iff_not, Bool.not_eq_true', Bool.not_eq_false'] at hq); walk_at "ev")))
  | ((with_reducible refine' ev_or1 ?h1); (case h1 => walk_at "ev"))
  | ((with_reducible refine' ev_or ?h1 ?h2); (case h1 => walk_at "ev"); (case h2 => (intro hq; (try simp only [decide_eq_true_eq, decide_eq_false_iff_not, Bool.not_eq_true', Bool.not_eq_false'] at hq); walk_at "ev")))
  | ((with_reducible refine' ev_eNot ?h1); (case h1 => walk_at "ev"))
  | ((with_reducible refine' ev_eAnd0 ?h1); (case h1 => walk_at "ev"))
  | ((with_reducible refine' ev_eAnd ?h1 ?h2); (case h1 => walk_at "ev"); (case h2 => (intro hq; (try simp only [decide_eq_true_eq, decide_eq_false_iff_not, Bool.not_eq_true', Bool.not_eq_false'] at hq); walk_at "ev")))
  | ((with_reducible refine' ev_eOr1 ?h1); (case h1 => walk_at "ev"))
  | ((with_reducible refine' ev_eOr ?h1 ?h2); (case h1 => walk_at "ev"); (case h2 => (intro hq; (try simp only [decide_eq_true_eq, decide_eq_false_iff_not, Bool.not_eq_true', Bool.not_eq_false'] at hq); walk_at "ev")))
  | ((with_reducible refine' ev_e1 ?h1 ?h2); (case h1 => walk_at "ev"); (case h2 => walk_at "op"))
  | ((with_reducible refine' ev_copy ?h1 ?h2); (case h1 => walk_at "ev"); (case h2 => exact rfl))
  | ((with_reducible refine' ev_ch ?h1 ?h2 ?h3 ?h4 ?h5); (case h1 => walk_at "ev"); (case h2 => walk_at "ev"); (case h3 => walk_at "op"); (case h4 => (intro hq; (try simp only [decide_eq_true_eq, decide_eq_false_iff_not, Bool.not_eq_true', Bool.not_eq_false'] at hq); walk_at "ev")); (case h5 => (intro _; walk_at "op")))
  | ((with_reducible refine' ev_lc ?h1 ?h2 ?h3 ?h4); (case h1 => walk_at "ev"); (case h2 => walk_at "its"); (case h3 => walk_at "len"); (case h4 => (intro _ _; exact ⟨_, rfl, by walk_at "ev"⟩)))
  | ((with_reducible refine' ev_lcR ?h1 ?h2 ?h3 ?h4); (case h1 => walk_at "ev"); (case h2 => walk_at "rng"); (case h3 => walk_at "len"); (case h4 => (intro _ _; exact ⟨_, rfl, by walk_at "ev"⟩)))
  | ((with_reducible refine' ev_cat ?h1 ?h2 ?h3); (case h1 => walk_at "ev"); (case h2 => walk_at "ev"); (case h3 => walk_at "len"))
  | ((with_reducible refine' ev_ownLen ?h1); (case h1 => exact rfl))
  | ((with_reducible refine' ev_ownAt ?h1 ?h2 ?h3); (case h1 => exact rfl); (case h2 => walk_at "ev"); (case h3 => walk_at "op"))
  | with_reducible assumption)
local macro_rules | `(tactic| walk_at "len") => `(tactic| first
  | ((simp only [List.length_map, List.length_cons, List.length_nil, List.length_append, List.length_range]) <;> walk_at "num")
  | walk_at "num")
local macro_rules | `(tactic| walk_at "its") => `(tactic| first
  | with_reducible exact its_map
  | with_reducible exact its_map2
  | exact rfl)
local macro_rules | `(tactic| walk_at "rng") => `(tactic| first
  | ((with_reducible refine rng1 ?_ ?_) <;> walk_at "num")
  | ((with_reducible refine rng2 ?_ ?_ ?_ ?_) <;> walk_at "num"))
local macro_rules | `(tactic| walk_at "es") => `(tactic| simp (config := {failIfUnchanged := false}) only [List.set_cons_zero, List.set_cons_succ])
local macro_rules | `(tactic| walk_at "start") => `(tactic| (simp only [List.map_cons, List.map_nil, List.cons_append, List.nil_append, List.length_cons, List.length_nil, Nat.reduceAdd, Nat.reduceSub, List.replicate_succ, List.replicate_zero]))
local macro_rules | `(tactic| walk_at "st1") => `(tactic| first
  | ((with_reducible refine' wo_seq ?k))
  | ((with_reducible refine' wo_ift ?h ?e ?k); (case h => walk_at "ev"); (case e => simp only [beq_self_eq_true, Bool.true_beq, Bool.false_beq, decide_eq_true_eq, decide_eq_false_iff_not, Bool.not_eq_true', Bool.not_eq_false', Bool.or_eq_true, Bool.and_eq_true, Bool.or_eq_false_iff, Bool.and_eq_false_imp, Bool.not_true, Bool.not_false, Bool.false_or, Bool.or_false, Bool.true_or, Bool.or_true, Bool.true_and, Bool.and_true, Bool.false_and, Bool.and_false, Bool.true_eq_false, Bool.false_eq_true, decide_true, decide_false, reduceCtorEq, D.isNone, Int.not_lt, Int.not_le, ne_eq, Decidable.not_not, not_true_eq_false, not_false_eq_true, false_implies, true_implies, implies_true, and_true, true_and, and_false, false_and, or_true, true_or, or_false, false_or, reduceIte, eq_self]))
  | ((with_reducible refine' wo_iff ?h ?e ?k); (case h => walk_at "ev"); (case e => simp only [beq_self_eq_true, Bool.true_beq, Bool.false_beq, decide_eq_true_eq, decide_eq_false_iff_not, Bool.not_eq_true', Bool.not_eq_false', Bool.or_eq_true, Bool.and_eq_true, Bool.or_eq_false_iff, Bool.and_eq_false_imp, Bool.not_true, Bool.not_false, Bool.false_or, Bool.or_false, Bool.true_or, Bool.or_true, Bool.true_and, Bool.and_true, Bool.false_and, Bool.and_false, Bool.true_eq_false, Bool.false_eq_true, decide_true, decide_false, reduceCtorEq, D.isNone, Int.not_lt, Int.not_le, ne_eq, Decidable.not_not, not_true_eq_false, not_false_eq_true, false_implies, true_implies, implies_true, and_true, true_and, and_false, false_and, or_true, true_or, or_false, false_or, reduceIte, eq_self]))
  | (((with_reducible refine' wo_asg ?h1 ?k); (case h1 => walk_at "ev")); walk_at "es")
  | ((with_reducible refine' wo_ret ?h1 ?k); (case h1 => walk_at "ev"))
  | (((with_reducible refine' wo_tgt ?h1 ?h2 ?k); (case h1 => walk_at "ev"); (case h2 => exact rfl)); walk_at "es")
  | ((with_reducible refine' wo_nil ?k))
  | ((with_reducible refine' wo_raise ?k))
  | (((with_reducible refine' wo_own ?h1 ?k); (case h1 => walk_at "ev")); walk_at "es")
  | (((with_reducible refine' wo_asgL ?h1 ?k); (case h1 => walk_at "ev")); walk_at "es")
  | (((with_reducible refine' wo_app ?h1 ?h2 ?h3 ?k); (case h1 => exact rfl); (case h2 => walk_at "ev"); (case h3 => walk_at "len")); walk_at "es")
  | (((with_reducible refine' wo_par ?h1 ?h2 ?k); (case h1 => walk_at "ev"); (case h2 => walk_at "ev")); walk_at "es")
  | ((with_reducible refine wo_frz ?_); simp only [frz, List.getElem?_cons_zero, List.getElem?_cons_succ, List.set_cons_zero, List.set_cons_succ]))
local macro_rules | `(tactic| walk_at "st") => `(tactic| (walk_at "st1"; try dsimp only))
local macro_rules | `(tactic| walk_at "hs") => `(tactic| ((try simp only [beq_self_eq_true, Bool.true_beq, Bool.false_beq, decide_eq_true_eq, decide_eq_false_iff_not, Bool.not_eq_true', Bool.not_eq_false', Bool.or_eq_true, Bool.and_eq_true, Bool.or_eq_false_iff, Bool.and_eq_false_imp, Bool.not_true, Bool.not_false, Bool.false_or, Bool.or_false, Bool.true_or, Bool.or_true, Bool.true_and, Bool.and_true, Bool.false_and, Bool.and_false, Bool.true_eq_false, Bool.false_eq_true, decide_true, decide_false, reduceCtorEq, D.isNone, Int.not_lt, Int.not_le, ne_eq, Decidable.not_not, not_true_eq_false, not_false_eq_true, false_implies, true_implies, implies_true, and_true, true_and, and_false, false_and, or_true, true_or, or_false, false_or, reduceIte, eq_self]); exact rfl))
local macro_rules | `(tactic| walk_at "fls") => `(tactic| first | (with_reducible exact False.elim) | (with_reducible refine fun (_ : True) => ?_) | skip)
local macro_rules | `(tactic| walk_at "if") => `(tactic| ((with_reducible refine' wo_ifx ?h ?e1 ?e2 ?k1 ?k2); (case h => walk_at "ev"); (case e1 => walk_at "hs"); (case e2 => walk_at "hs"); (case' k1 => walk_at "fls"); (case' k2 => walk_at "fls")))
local macro_rules | `(tactic| walk_at "tt") => `(tactic| (try simp only [beq_self_eq_true, Bool.true_beq, Bool.false_beq, decide_eq_true_eq, decide_eq_false_iff_not, Bool.not_eq_true', Bool.not_eq_false', Bool.or_eq_true, Bool.and_eq_true, Bool.or_eq_false_iff, Bool.and_eq_false_imp, Bool.not_true, Bool.not_false, Bool.false_or, Bool.or_false, Bool.true_or, Bool.or_true, Bool.true_and, Bool.and_true, Bool.false_and, Bool.and_false, Bool.true_eq_false, Bool.false_eq_true, decide_true, decide_false, reduceCtorEq, D.isNone, Int.not_lt, Int.not_le, ne_eq, Decidable.not_not, not_true_eq_false, not_false_eq_true, false_implies, true_implies, implies_true, and_true, true_and, and_false, false_and, or_true, true_or, or_false, false_or, reduceIte, eq_self]))
local macro_rules | `(tactic| walk_at "hc") => `(tactic| simp only [beq_self_eq_true, Bool.true_beq, Bool.false_beq, decide_eq_true_eq, decide_eq_false_iff_not, Bool.not_eq_true', Bool.not_eq_false', Bool.or_eq_true, Bool.and_eq_true, Bool.or_eq_false_iff, Bool.and_eq_false_imp, Bool.not_true, Bool.not_false, Bool.false_or, Bool.or_false, Bool.true_or, Bool.or_true, Bool.true_and, Bool.and_true, Bool.false_and, Bool.and_false, Bool.true_eq_false, Bool.false_eq_true, decide_true, decide_false, reduceCtorEq, D.isNone, Int.not_lt, Int.not_le, ne_eq, Decidable.not_not, not_true_eq_false, not_false_eq_true, false_implies, true_implies, implies_true, and_true, true_and, and_false, false_and, or_true, true_or, or_false, false_or, reduceIte, eq_self] at *)
local macro_rules | `(tactic| walk_at "sts") => `(tactic| (walk_at "st"; try (walk_at "st"; try (walk_at "st"; try (walk_at "st"; try (walk_at "st"; try (walk_at "st"; try (walk_at "st"; try (walk_at "st"; try (walk_at "st"; try (walk_at "st"; try (walk_at "st"; try (walk_at "st"; try (walk_at "st"; try (walk_at "st"; try (walk_at "st"; try (walk_at "st"; try (walk_at "st"; try (walk_at "st"; try (walk_at "st"; try (walk_at "st"; try (walk_at "st"; try (walk_at "st"; try (walk_at "st"; try (walk_at "st"; try (walk_at "st"; try (walk_at "st"; try (walk_at "st"; try (walk_at "st"; try (walk_at "st"; try (walk_at "st"; try (walk_at "st"; try (walk_at "st"; try (walk_at "st"; try (walk_at "st"; try (walk_at "st"; try (walk_at "st"; try (walk_at "st"; try (walk_at "st"; try (walk_at "st"; try (walk_at "st"; try (walk_at "st"))))))))))))))))))))))))))))))))))))))))))
local macro_rules | `(tactic| walk_at "op") => `(tactic| first
  | with_reducible assumption
  | with_reducible exact dIs_nn
  | with_reducible exact dIs_pt _
  | with_reducible exact dIs_D3 _ _ _
  | with_reducible exact dIsN_nn
  | with_reducible exact dIsN_pt _
  | with_reducible exact dIsN_D3 _ _ _
  | ((with_reducible refine at_czm ?_); first | with_reducible assumption | omega)
  | ((with_reducible refine at_czm1 ?_); first | with_reducible assumption | omega)
  | ((with_reducible refine at_sides ?_); first | with_reducible assumption | omega)
  | ((with_reducible refine at_normals ?_); first | with_reducible assumption | omega)
  | ((with_reducible refine at_cz ?_ ?_) <;> first | with_reducible assumption | omega)
  | with_reducible exact dLen_scr _
  | with_reducible exact dLen_tup _
  | walk_at "opx")
local macro_rules | `(tactic| walk_at "opx") => `(tactic| first
  | with_reducible exact isi_bb _
  | with_reducible exact dIs_i _
  | with_reducible exact isi_u _
  | with_reducible exact dLen_u _
  | with_reducible exact dEqN_D3t _ _
  | with_reducible exact dEqE_D3t _ _
  | ((with_reducible refine at_lstI ?_ ?_) <;> first | with_reducible assumption | omega)
  | with_reducible exact dIs_D3t _
  | with_reducible exact dIsN_D3t _
  | with_reducible exact dAt_u0 _
  | with_reducible exact dAt_u1 _
  | with_reducible exact dAt_u2 _
  | with_reducible exact dIs_nn
  | with_reducible exact dIs_pt _
  | with_reducible exact dIs_D3 _ _ _
  | with_reducible exact dIs_lst _
  | with_reducible exact dIsN_nn
  | with_reducible exact dIsN_pt _
  | with_reducible exact dIsN_D3 _ _ _
  | with_reducible exact dLen_t2 _
  | with_reducible exact dLen_t3 _ _ _
  | with_reducible assumption)
local macro_rules | `(tactic| walk_at "bdq") => `(tactic| first
  | ((with_reducible refine' bd_cz ?h ?g _); (case h => first | with_reducible assumption | exact Body.bd (by with_reducible assumption)); (case g => first | with_reducible assumption | exact Body.pos (by with_reducible assumption) | omega)))
local macro_rules | `(tactic| walk_at "shp") => `(tactic| first
  | ((with_reducible refine' shp_mapL ?h _); (case h => (intro _; walk_at "shp"))))
local macro_rules | `(tactic| walk_at "rng") => `(tactic| first
  | ((with_reducible refine rngN ?_); walk_at "num"))
local macro_rules | `(tactic| walk_at "st1") => `(tactic| first
  | (((with_reducible refine' wo_ins ?h1 ?h2 ?h3 ?h4 ?h5 ?h6 ?k); (case h1 => exact rfl); (case h2 => walk_at "ev"); (case h3 => walk_at "ev"); (case h4 => walk_at "num"); (case h5 => walk_at "num"); (case h6 => walk_at "len")); walk_at "es"))
local macro_rules | `(tactic| walk_at "ev") => `(tactic| first
  | with_reducible exact ev_home _ _ _
  | ((with_reducible refine' ev_cutS ?h1 ?h2 ?h3); (case h1 => walk_at "ev"); (case h2 => walk_at "ev"); (case h3 => walk_at "ev"))
  | ((with_reducible refine' ev_ownLenM ?h1); (case h1 => exact rfl))
  | ((with_reducible refine' ev_revm ?h1); (case h1 => walk_at "ev"))
  | ((with_reducible refine' ev_rev ?h1); (case h1 => walk_at "ev"))
  | ((with_reducible refine' ev_lc6 ?h1 ?h2 ?h3 ?h4 ?h5 ?h6 ?h7); (case h1 => walk_at "ev"); (case h2 => exact ⟨_, rfl, by walk_at "ev"⟩); (case h3 => exact ⟨_, rfl, by walk_at "ev"⟩); (case h4 => exact ⟨_, rfl, by walk_at "ev"⟩); (case h5 => exact ⟨_, rfl, by walk_at "ev"⟩); (case h6 => exact ⟨_, rfl, by walk_at "ev"⟩); (case h7 => exact ⟨_, rfl, by walk_at "ev"⟩))
  | ((with_reducible refine' ev_lc8 ?h1 ?h2 ?h3 ?h4 ?h5 ?h6 ?h7 ?h8 ?h9); (case h1 => walk_at "ev"); (case h2 => exact ⟨_, rfl, by walk_at "ev"⟩); (case h3 => exact ⟨_, rfl, by walk_at "ev"⟩); (case h4 => exact ⟨_, rfl, by walk_at "ev"⟩); (case h5 => exact ⟨_, rfl, by walk_at "ev"⟩); (case h6 => exact ⟨_, rfl, by walk_at "ev"⟩); (case h7 => exact ⟨_, rfl, by walk_at "ev"⟩); (case h8 => exact ⟨_, rfl, by walk_at "ev"⟩); (case h9 => exact ⟨_, rfl, by walk_at "ev"⟩))
  | ((with_reducible refine' ev_lc3 ?h1 ?h2 ?h3 ?h4); (case h1 => walk_at "ev"); (case h2 => exact ⟨_, rfl, by walk_at "ev"⟩); (case h3 => exact ⟨_, rfl, by walk_at "ev"⟩); (case h4 => exact ⟨_, rfl, by walk_at "ev"⟩))
  | ((with_reducible refine' ev_lcN ?h1 ?h2 ?h3 ?h4); (case h1 => walk_at "ev"); (case h2 => walk_at "rng"); (case h3 => walk_at "len"); (case h4 => (intro _ _; exact ⟨_, rfl, by walk_at "ev"⟩))))
structure Two (A B : List Pt) (x y w : Int) : Prop where
  a : Body 120 A
  b : Body 120 B
  s : Sp3 140 x y w
theorem Two.pos {A B : List Pt} {x y w : Int} (h : Two A B x y w) : ∀ t ∈ foundP A B x y w, 0 < t.2.2 := fun t ht => (found_sp h.a h.b (by decide) (h.s.bx.mono (by decide)) (h.s.by'.mono (by decide)) (h.s.bw.mono (by decide)) h.s.pos t ht).pos
theorem Two.srt {A B : List Pt} {x y w : Int} (h : Two A B x y w) : (sharedP A B x y w).Pairwise Ah := ord_sorted fun t ht => (found_sp h.a h.b (by decide) (h.s.bx.mono (by decide)) (h.s.by'.mono (by decide)) (h.s.bw.mono (by decide)) h.s.pos t ht).lowT
theorem Two.none {A B : List Pt} {x y w : Int} (h : Two A B x y w) (e : innerP A B x y w = none) : ∃ n ∈ dirsP A B, 0 ≤ gapN A B x y w n := by
  apply Classical.byContradiction
  intro q
  obtain ⟨X, Y, W, hW, hs⟩ := inner_of (x := x) (y := y) h.a.cvx h.b.cvx h.s.pos (fun n hn => by
    apply Classical.byContradiction
    intro z
    exact q ⟨n, hn, by omega⟩)
  obtain ⟨t, ht⟩ := inner_some h.a.cvx h.b.cvx h.s.pos hW hs h.pos h.srt
  rw [e] at ht
  cases ht
def Best (P : Pt → Prop) (R : Pt → Pt → Prop) (T : Pt → Pt) (e : Option Pt) (L : List Pt) : Prop :=
  (e = none ∧ ∀ n ∈ L, ¬ P n) ∨ ∃ m ∈ L, P m ∧ e = some (T m) ∧ ∀ n ∈ L, P n → ¬ R (T m) (T n)
section
variable {P : Pt → Prop} {R : Pt → Pt → Prop} {T : Pt → Pt} {L : List Pt} {n : Pt} {e : Option Pt} {t : Pt}
theorem Best.nil : Best P R T none [] := .inl ⟨rfl, fun n h => by simp at h⟩
theorem Best.skip (h : Best P R T e L) (hn : ¬ P n) : Best P R T e (L ++ [n]) := by
  rcases h with ⟨h1, h2⟩ | ⟨m, hm, pm, h1, h2⟩
  · refine .inl ⟨h1, fun a ha => ?_⟩
    rcases List.mem_append.mp ha with h | h
    · exact h2 a h
    · rw [List.mem_singleton.mp h]; exact hn
  · refine .inr ⟨m, List.mem_append_left _ hm, pm, h1, fun a ha pa => ?_⟩
    rcases List.mem_append.mp ha with h | h
    · exact h2 a h pa
    · rw [List.mem_singleton.mp h] at pa; exact absurd pa hn
theorem Best.first (h : Best P R T none L) (hn : P n) (hr : ¬ R (T n) (T n)) : Best P R T (some (T n)) (L ++ [n]) := by
  rcases h with ⟨_, h2⟩ | ⟨m, _, _, h1, _⟩
  · refine .inr ⟨n, List.mem_append_right _ (List.mem_singleton.mpr rfl), hn, rfl, fun a ha pa => ?_⟩
    rcases List.mem_append.mp ha with h | h
    · exact absurd pa (h2 a h)
    · rw [List.mem_singleton.mp h]; exact hr
  · cases h1
end
def ltP (p q : Pt) : Prop := p.1 * q.2 < q.1 * p.2
instance (p q : Pt) : Decidable (ltP p q) := inferInstanceAs (Decidable (_ < _))
def tmP (A B : List Pt) (x y w : Int) (s n : Pt) : Pt := (fT (fT (gapN A B x y w n) w) (-(dotp s n) * fB (gapN A B x y w n) w), fB (fT (gapN A B x y w n) w) (-(dotp s n) * fB (gapN A B x y w n) w))
theorem tm_ne {A B : List Pt} {x y w : Int} {s n : Pt} (hw : 0 < w) (hv : dotp s n ≠ 0) : -(dotp s n) * fB (gapN A B x y w n) w ≠ 0 := by
  have := fB_pos (t := gapN A B x y w n) (b := w) (by omega)
  exact Int.mul_ne_zero (by omega) (by omega)
theorem tm_pos {A B : List Pt} {x y w : Int} {s n : Pt} (hw : 0 < w) (hv : dotp s n ≠ 0) : 0 < (tmP A B x y w s n).2 := fB_pos (tm_ne hw hv)
theorem tm_low {A B : List Pt} {x y w : Int} {s n : Pt} (hw : 0 < w) (hv : dotp s n ≠ 0) : Int.gcd (tmP A B x y w s n).1 (tmP A B x y w s n).2 = 1 := f_gcd (tm_ne hw hv)
theorem tm_eq {A B : List Pt} {x y w : Int} {s n : Pt} (hw : 0 < w) (hv : dotp s n ≠ 0) : (tmP A B x y w s n).1 * (w * dotp s n) = - (gapN A B x y w n * (tmP A B x y w s n).2) := by
  have e := f_eq (t := fT (gapN A B x y w n) w) (tm_ne (A := A) (B := B) (x := x) (y := y) hw hv)
  have e2 := f_eq (t := gapN A B x y w n) (b := w) (by omega)
  have p := fB_pos (t := gapN A B x y w n) (b := w) (by omega)
  change (tmP A B x y w s n).1 * (-(dotp s n) * fB (gapN A B x y w n) w) = fT (gapN A B x y w n) w * (tmP A B x y w s n).2 at e
  generalize tmP A B x y w s n = t at *
  generalize gapN A B x y w n = G at *
  generalize fT G w = a at *
  generalize fB G w = b at *
  generalize dotp s n = V at *
  have k : b * (t.1 * (w * V)) = b * -(G * t.2) := by
    have : w * (t.1 * (-V * b)) = w * (a * t.2) := by rw [e]
    rw [show w * (a * t.2) = a * w * t.2 by ac_rfl, e2] at this
    rw [Int.neg_mul, Int.mul_neg, Int.mul_neg] at this
    rw [Int.mul_neg, show b * (t.1 * (w * V)) = w * (t.1 * (V * b)) by ac_rfl, show b * (G * t.2) = G * b * t.2 by ac_rfl]
    omega
  exact Int.eq_of_mul_eq_mul_left (by omega) k
def OTs (A B : List Pt) (x y w : Int) (s : Pt) : Option (Pt × Pt) → Prop
  | some (b, e) => (∀ n ∈ dirsP A B, dotp s n = 0 → gapN A B x y w n < 0) ∧ (∃ m ∈ dirsP A B, dotp s m < 0 ∧ b = tmP A B x y w s m) ∧ (∀ n ∈ dirsP A B, dotp s n < 0 → ¬ ltP b (tmP A B x y w s n)) ∧
    (∃ m ∈ dirsP A B, 0 < dotp s m ∧ e = tmP A B x y w s m) ∧ (∀ n ∈ dirsP A B, 0 < dotp s n → ¬ ltP (tmP A B x y w s n) e) ∧ 0 < e.1 ∧ ltP b e
  | none => (∃ n ∈ dirsP A B, dotp s n = 0 ∧ 0 ≤ gapN A B x y w n) ∨ (∀ n ∈ dirsP A B, 0 ≤ dotp s n) ∨ (∃ n ∈ dirsP A B, 0 < dotp s n ∧ (tmP A B x y w s n).1 ≤ 0) ∨
    ∃ n ∈ dirsP A B, ∃ m ∈ dirsP A B, dotp s n < 0 ∧ 0 < dotp s m ∧ ¬ ltP (tmP A B x y w s n) (tmP A B x y w s m)
theorem lt_le {a b c : Pt} (ha : 0 < a.2) (hb : 0 < b.2) (hc : 0 < c.2) (h1 : ltP a b) (h2 : ¬ ltP c b) : ltP a c := by
  unfold ltP at *
  have i1 := Int.mul_lt_mul_of_pos_right h1 hc
  have i2 := Int.mul_le_mul_of_nonneg_right (Int.not_lt.mp h2) (Int.le_of_lt ha)
  rw [show a.1 * b.2 * c.2 = b.2 * (a.1 * c.2) by ac_rfl, show b.1 * a.2 * c.2 = b.1 * c.2 * a.2 by ac_rfl] at i1
  rw [show c.1 * b.2 * a.2 = b.2 * (c.1 * a.2) by ac_rfl] at i2
  exact Int.lt_of_mul_lt_mul_left (by omega) (Int.le_of_lt hb)
theorem le_le {a b c : Pt} (ha : 0 < a.2) (hb : 0 < b.2) (hc : 0 < c.2) (h1 : ¬ ltP b a) (h2 : ¬ ltP c b) : ¬ ltP c a := fun h => h2 (lt_le hc ha hb h h1)
theorem wide_key {A B : List Pt} {x y w t u : Int} {s n : Pt} (hw : 0 < w) (hv : dotp s n ≠ 0) :
    (tmP A B x y w s n).2 * (u * gapN A B x y w n + t * w * dotp s n) = w * -(dotp s n) * ((tmP A B x y w s n).1 * u - t * (tmP A B x y w s n).2) := by
  have e := tm_eq (A := A) (B := B) (x := x) (y := y) hw hv
  generalize tmP A B x y w s n = T at *
  generalize gapN A B x y w n = G at *
  generalize dotp s n = V at *
  have : T.2 * (u * G + t * w * V) = u * (G * T.2) + T.2 * t * w * V := by grind
  rw [this, show G * T.2 = -(T.1 * (w * V)) by omega]
  grind
theorem wide_neg {A B : List Pt} {x y w t u : Int} {s n : Pt} (hw : 0 < w) (hv : dotp s n < 0) :
    (u * gapN A B x y w n + t * w * dotp s n < 0 ↔ ltP (tmP A B x y w s n) (t, u)) ∧ (u * gapN A B x y w n + t * w * dotp s n ≤ 0 ↔ ¬ ltP (t, u) (tmP A B x y w s n)) := by
  have k := wide_key (A := A) (B := B) (x := x) (y := y) (t := t) (u := u) hw (show dotp s n ≠ 0 by omega)
  have p := tm_pos (A := A) (B := B) (x := x) (y := y) hw (show dotp s n ≠ 0 by omega)
  obtain ⟨h1, h2, h3⟩ := pos_same p (Int.mul_pos hw (show 0 < -dotp s n by omega)) k
  unfold ltP
  simp only
  omega
theorem wide_pos {A B : List Pt} {x y w t u : Int} {s n : Pt} (hw : 0 < w) (hv : 0 < dotp s n) :
    (u * gapN A B x y w n + t * w * dotp s n < 0 ↔ ltP (t, u) (tmP A B x y w s n)) ∧ (u * gapN A B x y w n + t * w * dotp s n ≤ 0 ↔ ¬ ltP (tmP A B x y w s n) (t, u)) := by
  have k := wide_key (A := A) (B := B) (x := x) (y := y) (t := t) (u := u) hw (show dotp s n ≠ 0 by omega)
  have p := tm_pos (A := A) (B := B) (x := x) (y := y) hw (show dotp s n ≠ 0 by omega)
  rw [Int.mul_neg, Int.neg_mul, ← Int.mul_neg] at k
  obtain ⟨h1, h2, h3⟩ := pos_same p (Int.mul_pos hw hv) k
  unfold ltP
  simp only
  omega
section
variable {A B : List Pt} {x y w : Int} {s b e : Pt}
theorem OTs.bpos (hw : 0 < w) (h : OTs A B x y w s (some (b, e))) : 0 < b.2 ∧ Int.gcd b.1 b.2 = 1 := by
  obtain ⟨m, hm, hv, rfl⟩ := h.2.1
  exact ⟨tm_pos hw (by omega), tm_low hw (by omega)⟩
theorem OTs.epos (hw : 0 < w) (h : OTs A B x y w s (some (b, e))) : 0 < e.2 ∧ Int.gcd e.1 e.2 = 1 := by
  obtain ⟨m, hm, hv, rfl⟩ := h.2.2.2.1
  exact ⟨tm_pos hw (by omega), tm_low hw (by omega)⟩
theorem OTs.start (hw : 0 < w) (h : OTs A B x y w s (some (b, e))) (ap : ∃ n ∈ dirsP A B, 0 ≤ gapN A B x y w n) : 0 ≤ b.1 ∧ ∃ m ∈ dirsP A B, dotp s m < 0 ∧ b = tmP A B x y w s m ∧ 0 ≤ gapN A B x y w m ∧ b.2 * gapN A B x y w m + b.1 * w * dotp s m = 0 := by
  have bp := (h.bpos hw).1
  have ep := (h.epos hw).1
  obtain ⟨z, ⟨m, hm, mv, eb⟩, hb, _, he, e0, hbe⟩ := h
  obtain ⟨n, hn, hg⟩ := ap
  have tri : dotp s n = 0 ∨ dotp s n < 0 ∨ 0 < dotp s n := by omega
  have nn : 0 ≤ b.1 := by
    rcases tri with v | v | v
    · have := z n hn v
      omega
    · have w0 := wide_neg (A := A) (B := B) (x := x) (y := y) (t := 0) (u := 1) hw v
      simp only [Int.zero_mul, Int.add_zero, Int.one_mul] at w0
      have nt : ¬ ltP (tmP A B x y w s n) (0, 1) := fun q => by have := w0.1.mpr q; omega
      have := le_le (show 0 < ((0, 1) : Pt).2 by decide) (tm_pos hw (by omega)) bp nt (hb n hn v)
      unfold ltP at this
      simp only at this
      omega
    · exfalso
      have w0 := wide_pos (A := A) (B := B) (x := x) (y := y) (t := 0) (u := 1) hw v
      simp only [Int.zero_mul, Int.add_zero, Int.one_mul] at w0
      have nt : ¬ ltP (0, 1) (tmP A B x y w s n) := fun q => by have := w0.1.mpr q; omega
      have := le_le ep (tm_pos hw (by omega)) (show 0 < ((0, 1) : Pt).2 by decide) (he n hn v) nt
      unfold ltP at this
      simp only at this
      omega
  have k : b.2 * gapN A B x y w m + b.1 * w * dotp s m = 0 := by
    have q := wide_key (A := A) (B := B) (x := x) (y := y) (t := b.1) (u := b.2) hw (show dotp s m ≠ 0 by omega)
    rw [← eb, Int.sub_self, Int.mul_zero] at q
    rcases Int.mul_eq_zero.mp q with h | h
    · omega
    · exact h
  refine ⟨nn, m, hm, mv, eb, ?_, k⟩
  have q : 0 ≤ b.2 * gapN A B x y w m := by
    have := Int.mul_nonneg (Int.mul_nonneg nn (Int.le_of_lt hw)) (show 0 ≤ - dotp s m by omega)
    rw [Int.mul_neg] at this
    omega
  apply Classical.byContradiction
  intro f
  have := Int.mul_neg_of_pos_of_neg bp (show gapN A B x y w m < 0 by omega)
  omega
end
def WZ (o : OX) (N : En → Sto → Prop) (T : AV → Sto → Prop) (F : List D → Sto → Prop) (X : Str → Sto → Prop) : Prop := match o with
  | .nx ρ s => N ρ s
  | .rt a s => T a s
  | .rf ds s => F ds s
  | .er x _ s => X x s
  | _ => False
section
variable {N : En → Sto → Prop} {T : AV → Sto → Prop} {F : List D → Sto → Prop} {X : Str → Sto → Prop} {ρ : En} {s s1 s2 s3 s4 : Sto} {a b body : XS} {n : Nat} {as : List AV} {v v1 v2 v3 : AV} {ds : List D} {d e : D} {m : XM} {ma mb mc mo : XM} {mr : XA} {mf : XF} {t u : XT}
theorem WZ.mono {o : OX} {N' : En → Sto → Prop} {T' : AV → Sto → Prop} {F' : List D → Sto → Prop} {X' : Str → Sto → Prop} (h : WZ o N T F X) (hn : ∀ ρ s, N ρ s → N' ρ s) (ht : ∀ d s, T d s → T' d s) (hf : ∀ d s, F d s → F' d s) (hx : ∀ x s, X x s → X' x s) : WZ o N' T' F' X' := by
  cases o with
  | nx ρ s => exact hn _ _ h
  | rt d s => exact ht _ _ h
  | rf d s => exact hf _ _ h
  | er x ρ s => exact hx _ _ h
  | bk ρ s => exact h.elim
  | ct ρ s => exact h.elim
  | st => exact h.elim
theorem fx_ok {m : XS} (h : WZ (m (argSl as n) s) (fun _ s2 => AV.d .non = v ∧ s2 = s1) (fun e s2 => e = v ∧ s2 = s1) (fun _ _ => False) (fun _ _ => False)) : runX n m as s = .ok v s1 := by
  unfold runX
  cases h' : m (argSl as n) s with
  | nx ρ s2 => rw [h'] at h; obtain ⟨rfl, rfl⟩ := h; rfl
  | rt d s2 => rw [h'] at h; obtain ⟨rfl, rfl⟩ := h; rfl
  | rf d s2 => rw [h'] at h; exact h.elim
  | er x ρ s2 => rw [h'] at h; exact h.elim
  | bk ρ s2 => rw [h'] at h; exact h.elim
  | ct ρ s2 => rw [h'] at h; exact h.elim
  | st => rw [h'] at h; exact h.elim
theorem fx_ex {m : XS} {P : AV → Sto → Prop} (h : WZ (m (argSl as n) s) (fun _ s2 => P (.d .non) s2) P (fun _ _ => False) (fun _ _ => False)) : ∃ v s1, runX n m as s = .ok v s1 ∧ P v s1 := by
  unfold runX
  cases h' : m (argSl as n) s with
  | nx ρ s2 => rw [h'] at h; exact ⟨_, _, rfl, h⟩
  | rt d s2 => rw [h'] at h; exact ⟨_, _, rfl, h⟩
  | rf d s2 => rw [h'] at h; exact h.elim
  | er x ρ s2 => rw [h'] at h; exact h.elim
  | bk ρ s2 => rw [h'] at h; exact h.elim
  | ct ρ s2 => rw [h'] at h; exact h.elim
  | st => rw [h'] at h; exact h.elim
theorem fxf_ok {m : XS} (h : WZ (m (argSl as n) s) (fun _ _ => False) (fun _ _ => False) (fun e s2 => e = ds ∧ s2 = s1) (fun _ _ => False)) : runXF n m as s = .ok ds s1 := by
  unfold runXF
  cases h' : m (argSl as n) s with
  | nx ρ s2 => rw [h'] at h; exact h.elim
  | rt d s2 => rw [h'] at h; exact h.elim
  | rf d s2 => rw [h'] at h; obtain ⟨rfl, rfl⟩ := h; rfl
  | er x ρ s2 => rw [h'] at h; exact h.elim
  | bk ρ s2 => rw [h'] at h; exact h.elim
  | ct ρ s2 => rw [h'] at h; exact h.elim
  | st => rw [h'] at h; exact h.elim
theorem fxf_er {m : XS} {x : Str} {P : Sto → Prop} (h : WZ (m (argSl as n) s) (fun _ _ => False) (fun _ _ => False) (fun _ _ => False) (fun y s2 => y = x ∧ P s2)) : ∃ s1, runXF n m as s = .er x s1 ∧ P s1 := by
  unfold runXF
  cases h' : m (argSl as n) s with
  | nx ρ s2 => rw [h'] at h; exact h.elim
  | rt d s2 => rw [h'] at h; exact h.elim
  | rf d s2 => rw [h'] at h; exact h.elim
  | er x ρ s2 => rw [h'] at h; obtain ⟨rfl, h⟩ := h; exact ⟨_, rfl, h⟩
  | bk ρ s2 => rw [h'] at h; exact h.elim
  | ct ρ s2 => rw [h'] at h; exact h.elim
  | st => rw [h'] at h; exact h.elim
theorem wz_seq (h : WZ (a ρ s) (fun ρ' s' => WZ (b ρ' s') N T F X) T F X) : WZ (zSeq a b ρ s) N T F X := by
  unfold zSeq
  cases h' : a ρ s with
  | nx ρ' s2 => rw [h'] at h; exact h
  | rt d s2 => rw [h'] at h; exact h
  | rf d s2 => rw [h'] at h; exact h
  | er y ρ s2 => rw [h'] at h; exact h
  | bk ρ s2 => rw [h'] at h; exact h.elim
  | ct ρ s2 => rw [h'] at h; exact h.elim
  | st => rw [h'] at h; exact h.elim
theorem wz_D {m : SM} (h : WO (m ρ) (fun ρ' => N ρ' s) (fun d => T (.d d) s) (fun x => X x s)) : WZ (sD m ρ s) N T F X := by
  unfold sD
  cases h' : m ρ with
  | nx ρ' => rw [h'] at h; exact h
  | rt d => rw [h'] at h; exact h
  | er y ρ => rw [h'] at h; exact h
  | bk ρ => rw [h'] at h; exact h.elim
  | ct ρ => rw [h'] at h; exact h.elim
  | st => rw [h'] at h; exact h.elim
theorem wz_nil (k : N ρ s) : WZ (zNil ρ s) N T F X := k
theorem wz_ret (h : m ρ s = .ok v s1) (k : T v s1) : WZ (zRet m ρ s) N T F X := by unfold zRet; rw [h]; exact k
theorem wz_retF (h : mf ρ s = .ok ds s1) (k : F ds s1) : WZ (zRetF mf ρ s) N T F X := by unfold zRetF; rw [h]; exact k
theorem wz_asg {i : Nat} (h : m ρ s = .ok v s1) (k : N (ρ.set i (asSl v)) s1) : WZ (zAsg i m ρ s) N T F X := by unfold zAsg; rw [h]; exact k
theorem wz_own {i : Nat} (h : mf ρ s = .ok ds s1) (k : N (ρ.set i (.l ds)) s1) : WZ (zOwn i mf ρ s) N T F X := by unfold zOwn; rw [h]; exact k
theorem wz_asgL {i : Nat} (h : mf ρ s = .ok ds s1) (k : N (ρ.set i (.v (.lst ds))) s1) : WZ (zAsgL i mf ρ s) N T F X := by unfold zAsgL; rw [h]; exact k
theorem wz_expr (h : m ρ s = .ok v s1) (k : N ρ s1) : WZ (zExpr m ρ s) N T F X := by unfold zExpr; rw [h]; exact k
theorem wz_frz {i : Nat} (k : WZ (a (frz i ρ) s) N T F X) : WZ (zFrz i a ρ s) N T F X := k
theorem wz_tgt {g : D → En → Option En} {ρ' : En} (h : m ρ s = .ok (.d d) s1) (hg : g d ρ = some ρ') (k : N ρ' s1) : WZ (zTgt g m ρ s) N T F X := by
  unfold zTgt; rw [h]
  show WZ (match (avD (.d d)).bind fun d => g d ρ with
    | some ρ' => OX.nx ρ' s1
    | none => .st) N T F X
  rw [show ((avD (.d d)).bind fun d => g d ρ) = some ρ' from hg]; exact k
theorem wz_if {c : Bool} (h : t ρ s = .ok c s1) (k1 : c = true → WZ (a ρ s1) N T F X) (k2 : c = false → WZ (b ρ s1) N T F X) : WZ (zIf t a b ρ s) N T F X := by
  unfold zIf
  rw [h]
  show WZ (if c = true then a ρ s1 else b ρ s1) N T F X
  cases c with
  | true => exact k1 rfl
  | false => exact k2 rfl
theorem wz_ifx {c : Bool} {P1 P2 : Prop} (h : t ρ s = .ok c s1) (e1 : (c = true) = P1) (e2 : (c = false) = P2) (k1 : P1 → WZ (a ρ s1) N T F X) (k2 : P2 → WZ (b ρ s1) N T F X) : WZ (zIf t a b ρ s) N T F X :=
  wz_if h (fun z => k1 (e1 ▸ z)) (fun z => k2 (e2 ▸ z))
theorem wz_ift {c : Bool} (h : t ρ s = .ok c s1) (e : c = true) (k : WZ (a ρ s1) N T F X) : WZ (zIf t a b ρ s) N T F X := wz_if h (fun _ => k) (fun z => by rw [e] at z; cases z)
theorem wz_iff {c : Bool} (h : t ρ s = .ok c s1) (e : c = false) (k : WZ (b ρ s1) N T F X) : WZ (zIf t a b ρ s) N T F X := wz_if h (fun z => by rw [e] at z; cases z) (fun _ => k)
theorem wz_app {i : Nat} (h0 : ρ[i]? = some (.l ds)) (h : m ρ s = .ok (.d d) s1) (hl : ds.length < 16777216) (k : N (ρ.set i (.l (ds ++ [d]))) s1) : WZ (zApp i m ρ s) N T F X := by
  unfold zApp
  rw [h0]
  show WZ (ofX (m ρ s) ρ fun a s => match avD a with
    | some d => if ds.length < sizeLine then OX.nx (ρ.set i (.l (ds ++ [d]))) s else .st
    | none => .st) N T F X
  rw [h]
  show WZ (if ds.length < sizeLine then OX.nx (ρ.set i (.l (ds ++ [d]))) s1 else .st) N T F X
  rw [if_pos (by rw [sizeLine_eq]; exact hl)]
  exact k
theorem wz_put {md mk mv : XM} {tt : Nat} {kas : List (Key × AV)} {j : Key} (h1 : mv ρ s = .ok v s1) (h2 : md ρ s1 = .ok v1 s2) (h3 : mk ρ s2 = .ok v2 s3) (h4 : dictRW s3 v1 = some (tt, kas)) (h5 : avKey v2 = some j) (hl : kas.length < 16777216)
    (k : N ρ (s3.set tt (.dct (putP kas j v)))) : WZ (zPut md mk mv ρ s) N T F X := by
  unfold zPut
  rw [h1]
  show WZ (ofX ((md ρ s1).bind fun d s => (mk ρ s).bind fun k s => match (dictRW s d).bind fun tk => (avKey k).bind fun j => if tk.2.length < sizeLine then some (s.set tk.1 (.dct (putP tk.2 j v))) else none with
    | some s' => .ok () s'
    | none => .st) ρ fun _ s => .nx ρ s) N T F X
  rw [h2]
  show WZ (ofX ((mk ρ s2).bind fun k s => match (dictRW s v1).bind fun tk => (avKey k).bind fun j => if tk.2.length < sizeLine then some (s.set tk.1 (.dct (putP tk.2 j v))) else none with
    | some s' => .ok () s'
    | none => .st) ρ fun _ s => .nx ρ s) N T F X
  rw [h3]
  show WZ (ofX (match (dictRW s3 v1).bind fun tk => (avKey v2).bind fun j => if tk.2.length < sizeLine then some (s3.set tk.1 (.dct (putP tk.2 j v))) else none with
    | some s' => .ok () s'
    | none => .st) ρ fun _ s => .nx ρ s) N T F X
  rw [h4, Option.bind_some, h5, Option.bind_some, if_pos (by rw [sizeLine_eq]; exact hl)]
  exact k
theorem wz_tryE {x : Str} {ct : Str → Bool} {i j : Nat} {ρ1 : En} (h : body ρ s = .er x ρ1 s1) (h1 : ct x = true) (h2 : i < ρ1.length) (k : N (((ρ1.set i (.v (.exc x))).set j (.v (.exc x))).set i .un) s1) : WZ (zTry ct i j body ρ s) N T F X := by
  unfold zTry
  rw [h]
  show WZ (if ct x = true ∧ i < ρ1.length then .nx (((ρ1.set i (.v (.exc x))).set j (.v (.exc x))).set i .un) s1 else .st) N T F X
  rw [if_pos ⟨h1, h2⟩]
  exact k
theorem xv_D {m : EM} (h : m ρ = .ok d) : xD m ρ s = .ok (.d d) s := by unfold xD; rw [h]; rfl
theorem xv_DT {t : TM} {c : Bool} (h : t ρ = .ok c) : xDT t ρ s = .ok c s := by unfold xDT; rw [h]; rfl
theorem xv_var {i : Nat} (h : ρ[i]? = some (.v d)) : xVar i ρ s = .ok (.d d) s := by unfold xVar; rw [h]
theorem xv_varR {i tt : Nat} (h : ρ[i]? = some (.r tt)) : xVar i ρ s = .ok (.r tt) s := by unfold xVar; rw [h]
theorem xv_O1 {g : D → Option D} {x z : D} (h1 : ma ρ s = .ok (.d x) s1) (h2 : g x = some z) : xO1 g ma ρ s = .ok (.d z) s1 := by
  unfold xO1; rw [h1]
  show RS.of (R.ofO ((g x).map AV.d)) s1 = _
  rw [h2]; rfl
theorem xv_O2 {g : D → D → Option D} {x y z : D} (h1 : ma ρ s = .ok (.d x) s1) (h2 : mb ρ s1 = .ok (.d y) s2) (h3 : g x y = some z) : xO2 g ma mb ρ s = .ok (.d z) s2 := by
  unfold xO2; rw [h1]
  show ((mb ρ s1).bind fun b s => RS.of (R.ofO (av2 g (.d x) b)) s) = _
  rw [h2]
  show RS.of (R.ofO ((g x y).map AV.d)) s2 = _
  rw [h3]; rfl
theorem xv_B {c : Bool} (h : m ρ s = .ok (.d (.bl c)) s1) : xB m ρ s = .ok c s1 := by unfold xB; rw [h]; rfl
theorem xv_nil : xANil ρ s = .ok [] s := rfl
theorem xv_cons (h1 : ma ρ s = .ok v s1) (h2 : mr ρ s1 = .ok as s2) : xACons ma mr ρ s = .ok (v :: as) s2 := by
  unfold xACons; rw [h1]
  show ((mr ρ s1).bind fun as s => RS.ok (v :: as) s) = _
  rw [h2]; rfl
theorem xv_F {f : List D → R D} (h1 : mr ρ s = .ok as s1) (h2 : datas as = some ds) (h3 : f ds = .ok d) : xF f mr ρ s = .ok (.d d) s1 := by
  unfold xF; rw [h1]
  show RS.of ((R.ofO (datas as)).bind fun ds => (f ds).bind fun d => .ok (AV.d d)) s1 = _
  rw [h2, ofO_some, bind_ok, h3]; rfl
theorem xv_X {f : List AV → Sto → RS AV} (h1 : mr ρ s = .ok as s1) (h2 : f as s1 = .ok v s2) : xX f mr ρ s = .ok v s2 := by
  unfold xX; rw [h1]; exact h2
theorem xv_XF {f : List AV → Sto → RS (List D)} (h1 : mr ρ s = .ok as s1) (h2 : f as s1 = .ok ds s2) : xXF f mr ρ s = .ok ds s2 := by
  unfold xXF; rw [h1]; exact h2
theorem xv_meth {y mm : Str} {f : List AV → Sto → RS AV} (h1 : mo ρ s = .ok v s1) (h2 : methAt y mm s1 v = true) (h3 : mr ρ s1 = .ok as s2) (h4 : f (v :: as) s2 = .ok v1 s3) : xMeth y mm f mo mr ρ s = .ok v1 s3 := by
  unfold xMeth; rw [h1]
  show (match methAt y mm s1 v with
    | true => (mr ρ s1).bind fun as s => f (v :: as) s
    | false => .st) = _
  rw [h2]
  show ((mr ρ s1).bind fun as s => f (v :: as) s) = _
  rw [h3]; exact h4
theorem xv_methF {y mm : Str} {f : List AV → Sto → RS (List D)} (h1 : mo ρ s = .ok v s1) (h2 : methAt y mm s1 v = true) (h3 : mr ρ s1 = .ok as s2) (h4 : f (v :: as) s2 = .ok ds s3) : xMethF y mm f mo mr ρ s = .ok ds s3 := by
  unfold xMethF; rw [h1]
  show (match methAt y mm s1 v with
    | true => (mr ρ s1).bind fun as s => f (v :: as) s
    | false => .st) = _
  rw [h2]
  show ((mr ρ s1).bind fun as s => f (v :: as) s) = _
  rw [h3]; exact h4
theorem xv_fld {x f : Str} (h1 : mo ρ s = .ok v s1) (h2 : fldAt x f s1 v = some v1) : xFld x f mo ρ s = .ok v1 s1 := by
  unfold xFld; rw [h1]
  show RS.of (R.ofO (fldAt x f s1 v)) s1 = _
  rw [h2]; rfl
theorem xv_get {md mk : XM} {kas : List (Key × AV)} {j : Key} (h1 : md ρ s = .ok v s1) (h2 : mk ρ s1 = .ok v1 s2) (h3 : dictAt s2 v = some kas) (h4 : avKey v1 = some j) (h5 : valP kas j = some v2) : xGet md mk ρ s = .ok v2 s2 := by
  unfold xGet; rw [h1]
  show ((mk ρ s1).bind fun k s => RS.of (R.ofO ((dictAt s v).bind fun kas => (avKey k).bind (valP kas))) s) = _
  rw [h2]
  show RS.of (R.ofO ((dictAt s2 v).bind fun kas => (avKey v1).bind (valP kas))) s2 = _
  rw [h3, Option.bind_some, h4, Option.bind_some, h5]; rfl
theorem xv_inT {md mk : XM} {kas : List (Key × AV)} {j : Key} (h1 : mk ρ s = .ok v s1) (h2 : md ρ s1 = .ok v1 s2) (h3 : dictAt s2 v1 = some kas) (h4 : avKey v = some j) : xInT mk md ρ s = .ok (valP kas j).isSome s2 := by
  unfold xInT; rw [h1]
  show ((md ρ s1).bind fun a s => RS.of (R.ofO (inAt s v a)) s) = _
  rw [h2]
  show RS.of (R.ofO ((dictAt s2 v1).bind fun kas => (avKey v).map fun k => (valP kas k).isSome)) s2 = _
  rw [h3, Option.bind_some, h4]; rfl
theorem xv_ninT {md mk : XM} {kas : List (Key × AV)} {j : Key} (h1 : mk ρ s = .ok v s1) (h2 : md ρ s1 = .ok v1 s2) (h3 : dictAt s2 v1 = some kas) (h4 : avKey v = some j) : xNotInT mk md ρ s = .ok (!(valP kas j).isSome) s2 := by
  unfold xNotInT; rw [h1]
  show ((md ρ s1).bind fun a s => RS.of (R.ofO ((inAt s v a).map (!·))) s) = _
  rw [h2]
  show RS.of (R.ofO (((dictAt s2 v1).bind fun kas => (avKey v).map fun k => (valP kas k).isSome).map (!·))) s2 = _
  rw [h3, Option.bind_some, h4]; rfl
theorem xv_len {md : XM} {kas : List (Key × AV)} (h1 : md ρ s = .ok v s1) (h2 : dictAt s1 v = some kas) : xLen md ρ s = .ok (.d (.int (kas.length : Nat))) s1 := by
  unfold xLen; rw [h1]
  show RS.of (R.ofO ((dictAt s1 v).map fun kas => AV.d (.int kas.length))) s1 = _
  rw [h2]; rfl
theorem xv_notT {c : Bool} (h : t ρ s = .ok c s1) : xNotT t ρ s = .ok (!c) s1 := by unfold xNotT; rw [h]; rfl
theorem xv_and0 (h : t ρ s = .ok false s1) : xAndT t u ρ s = .ok false s1 := by unfold xAndT; rw [h]; rfl
theorem xv_or1 (h : t ρ s = .ok true s1) : xOrT t u ρ s = .ok true s1 := by unfold xOrT; rw [h]; rfl
theorem xv_and {b c : Bool} (h : t ρ s = .ok b s1) (g : b = true → u ρ s1 = .ok c s1) : xAndT t u ρ s = .ok (b && c) s1 := by
  unfold xAndT; rw [h]
  cases b with
  | true => exact g rfl
  | false => rfl
theorem xv_or {b c : Bool} (h : t ρ s = .ok b s1) (g : b = false → u ρ s1 = .ok c s1) : xOrT t u ρ s = .ok (b || c) s1 := by
  unfold xOrT; rw [h]
  cases b with
  | true => rfl
  | false => exact g rfl
theorem xv_tup (h : mr ρ s = .ok as s1) (h2 : datas as = some ds) (hl : ds.length ≤ 16777216) : xTup mr ρ s = .ok (.d (.tup ds)) s1 := by
  unfold xTup; rw [h]
  show RS.of ((R.ofO (datas as)).bind fun ds => if ds.length ≤ sizeLine then .ok (AV.d (.tup ds)) else .st) s1 = _
  rw [h2, ofO_some, bind_ok, if_pos (by rw [sizeLine_eq]; exact hl)]; rfl
theorem xv_lst (h : mr ρ s = .ok as s1) (h2 : datas as = some ds) (hl : ds.length ≤ 16777216) : xLst mr ρ s = .ok ds s1 := by
  unfold xLst; rw [h]
  show RS.of ((R.ofO (datas as)).bind fun ds => if ds.length ≤ sizeLine then .ok ds else .st) s1 = _
  rw [h2, ofO_some, bind_ok, if_pos (by rw [sizeLine_eq]; exact hl)]; rfl
theorem xv_new (h : mf ρ s = .ok ds s1) : xNew mf ρ s = .ok (.d (.lst ds)) s1 := by unfold xNew; rw [h]; rfl
theorem xv_dict0 : xDict0 ρ s = .ok (.r s.length) (s ++ [.dct []]) := rfl
theorem xv_srt {md : XM} {kas : List (Key × AV)} {ks : List Str} (h1 : md ρ s = .ok v s1) (h2 : dictAt s1 v = some kas) (h3 : strKeys kas = some ks) (h4 : ks.length < 64) : xSrt md ρ s = .ok ((srtS ks).map D.str) s1 := by
  unfold xSrt; rw [h1]
  show RS.of (R.ofO ((dictAt s1 v).bind fun kas => (strKeys kas).bind fun ks => if ks.length < 64 then some ((srtS ks).map D.str) else none)) s1 = _
  rw [h2, Option.bind_some, h3, Option.bind_some, if_pos h4]; rfl
theorem xv_bi {g : List D → Option D} (h1 : mr ρ s = .ok as s1) (h2 : datas as = some ds) (h3 : g ds = some d) : xBi g mr ρ s = .ok (.d d) s1 := by
  unfold xBi; rw [h1]
  show RS.of (R.ofO ((datas as).bind fun ds => (g ds).map AV.d)) s1 = _
  rw [h2, Option.bind_some, h3]; rfl
theorem xv_bf {g : List D → Option (List D)} {es : List D} (h1 : mr ρ s = .ok as s1) (h2 : datas as = some ds) (h3 : g ds = some es) : xBf g mr ρ s = .ok es s1 := by
  unfold xBf; rw [h1]
  show RS.of (R.ofO ((datas as).bind g)) s1 = _
  rw [h2, Option.bind_some, h3]; rfl
end
end Law
namespace Law
open PySem PySem.Spec PyProof.Rows L2 GD
def b_law : XS := zSeq (sD (sAsg 1 (eF F__law_many_points (aCons (eVar 0) (aNil))))) (zSeq (sD (sOwn 2 (aB asC (aCons (eVar 1) (aNil))))) (zSeq (zIf (xDT (mB (eF F__law_on_a_line (aCons (eVar 1) (aNil))))) (zFrz 2 (zRet (xAnd (xX F__law_refused_v3 (xACons (xD (eVar 2)) (xANil))) (xD (e2 dEq (eVar 2) (eVar 1)))))) (zNil)) (zSeq (zLendO 3 2 (xXF F_hullX (xACons (xD (eVar 2)) (xANil)))) (zSeq (zFrz 3 (sD (sPeek 2 (mOr (mB (e2 dNe (eVar 2) (eVar 1))) (mNot (mB (eF F__law_are_points (aCons (eVar 3) (aCons (eVar 1) (aNil))))))) (sRet (eC (.bl false)))))) (zSeq (sD (sFrz 3 (sAsg 4 (eL (aB asC (aCons (eVar 3) (aNil))))))) (zSeq (sD (sClr 2)) (sD (sFrz 3 (sRet (eAnd (eF F__law_goes_round (aCons (eVar 3) (aCons (eVar 1) (aNil)))) (eAnd (e2 dEq (eB dMinP (aCons (eVar 1) (aNil))) (e2 dAt (eVar 3) (eC (.int 0)))) (e2 dEq (eVar 3) (eVar 4)))))))))))))
def F_law : List AV → Sto → RS AV := runX 5 b_law
def topS (i : Nat) : Stmt := PySem.Challenge.pw_glide_k06_a_hull.main.body.getD i (.Pass ⟨0, 0, 0, 0⟩)
structure Txt (K : PySem.W.Frag) (mg : Str → Option Value) (C_Crowded : Addr) (C_Flat : Addr) (C_GlideError : Addr) (C_NoName : Addr) (C_NoNumber : Addr) (C_NoRow : Addr) (C_NoText : Addr) (C_Past : Addr) (C_Twice : Addr) : Prop where
  z_ValueError : mg "ValueError" = none
  z_bool : mg "bool" = none
  z_int : mg "int" = none
  z_isinstance : mg "isinstance" = none
  z_len : mg "len" = none
  z_list : mg "list" = none
  z_min : mg "min" = none
  z_range : mg "range" = none
  z_reversed : mg "reversed" = none
  z_sorted : mg "sorted" = none
  z_tuple : mg "tuple" = none
  g_Crowded : mg "Crowded" = some (.ref C_Crowded)
  kc_Crowded : PySem.W.keepIn K (.ref C_Crowded) = true
  b_Crowded : PySem.W.subIn K (.ref C_Crowded) (.type "BaseException") = some true
  t_Crowded : PySem.W.typeIn K (.ref C_Crowded) = some (.type "type")
  g_Flat : mg "Flat" = some (.ref C_Flat)
  x_Flat : PySem.W.excIn K C_Flat [.type "ValueError", .type "Exception", .type "BaseException", .type "object"] "ValueError.__new__" = true
  kc_Flat : PySem.W.keepIn K (.ref C_Flat) = true
  b_Flat : PySem.W.subIn K (.ref C_Flat) (.type "BaseException") = some true
  t_Flat : PySem.W.typeIn K (.ref C_Flat) = some (.type "type")
  g_GlideError : mg "GlideError" = some (.ref C_GlideError)
  kc_GlideError : PySem.W.keepIn K (.ref C_GlideError) = true
  b_GlideError : PySem.W.subIn K (.ref C_GlideError) (.type "BaseException") = some true
  t_GlideError : PySem.W.typeIn K (.ref C_GlideError) = some (.type "type")
  g_NoName : mg "NoName" = some (.ref C_NoName)
  kc_NoName : PySem.W.keepIn K (.ref C_NoName) = true
  b_NoName : PySem.W.subIn K (.ref C_NoName) (.type "BaseException") = some true
  t_NoName : PySem.W.typeIn K (.ref C_NoName) = some (.type "type")
  g_NoNumber : mg "NoNumber" = some (.ref C_NoNumber)
  kc_NoNumber : PySem.W.keepIn K (.ref C_NoNumber) = true
  b_NoNumber : PySem.W.subIn K (.ref C_NoNumber) (.type "BaseException") = some true
  t_NoNumber : PySem.W.typeIn K (.ref C_NoNumber) = some (.type "type")
  g_NoRow : mg "NoRow" = some (.ref C_NoRow)
  kc_NoRow : PySem.W.keepIn K (.ref C_NoRow) = true
  b_NoRow : PySem.W.subIn K (.ref C_NoRow) (.type "BaseException") = some true
  t_NoRow : PySem.W.typeIn K (.ref C_NoRow) = some (.type "type")
  g_NoText : mg "NoText" = some (.ref C_NoText)
  kc_NoText : PySem.W.keepIn K (.ref C_NoText) = true
  b_NoText : PySem.W.subIn K (.ref C_NoText) (.type "BaseException") = some true
  t_NoText : PySem.W.typeIn K (.ref C_NoText) = some (.type "type")
  g_Past : mg "Past" = some (.ref C_Past)
  kc_Past : PySem.W.keepIn K (.ref C_Past) = true
  b_Past : PySem.W.subIn K (.ref C_Past) (.type "BaseException") = some true
  t_Past : PySem.W.typeIn K (.ref C_Past) = some (.type "type")
  g_Twice : mg "Twice" = some (.ref C_Twice)
  kc_Twice : PySem.W.keepIn K (.ref C_Twice) = true
  b_Twice : PySem.W.subIn K (.ref C_Twice) (.type "BaseException") = some true
  t_Twice : PySem.W.typeIn K (.ref C_Twice) = some (.type "type")
  m_Flat : PySem.W.exmOne K (.ref C_Flat) (.ref C_GlideError) = some true
  v_Flat : ExcC K C_Flat
  w_Flat : PySem.W.kitOne K (.ref C_Flat) (.type "ValueError") = some true
  q_Flat_Crowded : PySem.W.kitOne K (.ref C_Flat) (.ref C_Crowded) = some false
  q_Flat_Flat : PySem.W.kitOne K (.ref C_Flat) (.ref C_Flat) = some true
  q_Flat_NoName : PySem.W.kitOne K (.ref C_Flat) (.ref C_NoName) = some false
  q_Flat_NoNumber : PySem.W.kitOne K (.ref C_Flat) (.ref C_NoNumber) = some false
  q_Flat_NoRow : PySem.W.kitOne K (.ref C_Flat) (.ref C_NoRow) = some false
  q_Flat_NoText : PySem.W.kitOne K (.ref C_Flat) (.ref C_NoText) = some false
  q_Flat_Past : PySem.W.kitOne K (.ref C_Flat) (.ref C_Past) = some false
  q_Flat_Twice : PySem.W.kitOne K (.ref C_Flat) (.ref C_Twice) = some false
section
variable {K : PySem.W.Frag} {mg : Str → Option Value} {C_Crowded : Addr} {C_Flat : Addr} {C_GlideError : Addr} {C_NoName : Addr} {C_NoNumber : Addr} {C_NoRow : Addr} {C_NoText : Addr} {C_Past : Addr} {C_Twice : Addr}
theorem xct (T : Txt K mg C_Crowded C_Flat C_GlideError C_NoName C_NoNumber C_NoRow C_NoText C_Past C_Twice) : ∀ y cls, xCt3 y = true → mg y = some cls → PySem.W.exmOne K cls (.ref C_GlideError) = some true := by
  intro y cls h e
  unfold xCt3 at h
  have h2 := List.contains_iff_mem.mp h
  simp only [List.mem_cons, List.not_mem_nil, or_false] at h2
  rcases h2 with rfl
  · cases e.symm.trans T.g_Flat; exact T.m_Flat
theorem exh (T : Txt K mg C_Crowded C_Flat C_GlideError C_NoName C_NoNumber C_NoRow C_NoText C_Past C_Twice) : ExH K mg xLy3 xLc3 xLt3 where
  c := (all_cons ⟨C_Flat, C_Crowded, T.g_Flat, T.g_Crowded, T.q_Flat_Crowded⟩ (all_cons ⟨C_Flat, C_Flat, T.g_Flat, T.g_Flat, T.q_Flat_Flat⟩ (all_cons ⟨C_Flat, C_NoName, T.g_Flat, T.g_NoName, T.q_Flat_NoName⟩ (all_cons ⟨C_Flat, C_NoNumber, T.g_Flat, T.g_NoNumber, T.q_Flat_NoNumber⟩ (all_cons ⟨C_Flat, C_NoRow, T.g_Flat, T.g_NoRow, T.q_Flat_NoRow⟩ (all_cons ⟨C_Flat, C_NoText, T.g_Flat, T.g_NoText, T.q_Flat_NoText⟩ (all_cons ⟨C_Flat, C_Past, T.g_Flat, T.g_Past, T.q_Flat_Past⟩ (all_cons ⟨C_Flat, C_Twice, T.g_Flat, T.g_Twice, T.q_Flat_Twice⟩ (fun _ h => nomatch h)))))))))
  t := (all_cons ⟨C_Flat, T.g_Flat, T.w_Flat⟩ (fun _ h => nomatch h))
  x := (all_cons ⟨C_Flat, T.g_Flat, T.v_Flat⟩ (fun _ h => nomatch h))
end
abbrev s_bend : Stmt := topS 11
abbrev N_bend : List Str := ["one", "two", "three"]
theorem sc_bend : FnScope N_bend ["one", "two", "three"] (defScope s_bend) := ⟨rfl, rfl, rfl, by decide +kernel, rfl, by decide +kernel, by decide +kernel⟩
abbrev s_chain : Stmt := topS 12
abbrev N_chain : List Str := ["points", "told", "point"]
theorem sc_chain : FnScope N_chain ["points"] (defScope s_chain) := ⟨rfl, rfl, rfl, by decide +kernel, rfl, by decide +kernel, by decide +kernel⟩
abbrev s_hull : Stmt := topS 13
abbrev N_hull : List Str := ["points", "seen", "point", "rising", "below", "over", "corners"]
theorem sc_hull : FnScope N_hull ["points"] (defScope s_hull) := ⟨rfl, rfl, rfl, by decide +kernel, rfl, by decide +kernel, by decide +kernel⟩
abbrev s__law_cell : Stmt := topS 15
abbrev N__law_cell : List Str := ["script", "k", "number", "cell"]
theorem sc__law_cell : FnScope N__law_cell ["script", "k"] (defScope s__law_cell) := ⟨rfl, rfl, rfl, by decide +kernel, rfl, by decide +kernel, by decide +kernel⟩
abbrev s__law_whole : Stmt := topS 16
abbrev N__law_whole : List Str := ["found"]
theorem sc__law_whole : FnScope N__law_whole ["found"] (defScope s__law_whole) := ⟨rfl, rfl, rfl, by decide +kernel, rfl, by decide +kernel, by decide +kernel⟩
abbrev s__law_turn : Stmt := topS 17
abbrev N__law_turn : List Str := ["one", "two", "three", "left", "right"]
theorem sc__law_turn : FnScope N__law_turn ["one", "two", "three"] (defScope s__law_turn) := ⟨rfl, rfl, rfl, by decide +kernel, rfl, by decide +kernel, by decide +kernel⟩
abbrev s__law_many_points : Stmt := topS 18
abbrev N__law_many_points : List Str := ["script", "head", "points", "number", "cell", "far", "x", "y"]
theorem sc__law_many_points : FnScope N__law_many_points ["script"] (defScope s__law_many_points) := ⟨rfl, rfl, rfl, by decide +kernel, rfl, by decide +kernel, by decide +kernel⟩
abbrev s__law_on_a_line : Stmt := topS 19
abbrev N__law_on_a_line : List Str := ["points", "one", "other"]
theorem sc__law_on_a_line : FnScope N__law_on_a_line ["points"] (defScope s__law_on_a_line) := ⟨rfl, rfl, rfl, by decide +kernel, rfl, by decide +kernel, by decide +kernel⟩
abbrev s__law_refused : Stmt := topS 20
abbrev N__law_refused : List Str := ["points", "error", "e", "right"]
theorem sc__law_refused : FnScope N__law_refused ["points"] (defScope s__law_refused) := ⟨rfl, rfl, rfl, by decide +kernel, rfl, by decide +kernel, by decide +kernel⟩
abbrev s__law_are_points : Stmt := topS 21
abbrev N__law_are_points : List Str := ["told", "points", "k", "one"]
theorem sc__law_are_points : FnScope N__law_are_points ["told", "points"] (defScope s__law_are_points) := ⟨rfl, rfl, rfl, by decide +kernel, rfl, by decide +kernel, by decide +kernel⟩
abbrev s__law_goes_round : Stmt := topS 22
abbrev N__law_goes_round : List Str := ["told", "points", "k", "first", "last", "point"]
theorem sc__law_goes_round : FnScope N__law_goes_round ["told", "points"] (defScope s__law_goes_round) := ⟨rfl, rfl, rfl, by decide +kernel, rfl, by decide +kernel, by decide +kernel⟩
abbrev s_law : Stmt := topS 23
abbrev N_law : List Str := ["script", "points", "handed", "told", "kept"]
theorem sc_law : FnScope N_law ["script"] (defScope s_law) := ⟨rfl, rfl, rfl, by decide +kernel, rfl, by decide +kernel, by decide +kernel⟩
section
variable {P : Program} {w : World} {K : PySem.W.Frag} {mg : Str → Option Value} {base : Heap} {C_Crowded : Addr} {C_Flat : Addr} {C_GlideError : Addr} {C_NoName : Addr} {C_NoNumber : Addr} {C_NoRow : Addr} {C_NoText : Addr} {C_Past : Addr} {C_Twice : Addr}
theorem ok_bend {f : Addr} {fd : FuncData} (F : Fun K "bend" "bend" s_bend f fd) (T : Txt K mg C_Crowded C_Flat C_GlideError C_NoName C_NoNumber C_NoRow C_NoText C_Past C_Twice) : FnOk P w K mg base (L2.CX P w) 1 f fd ["one", "two", "three"] (spD K mg 3 F_bend) :=
  fnOk_mk F sc_bend fun cdv A outer s H E hr => pbd_one (psd_ret (ped_op opd_sub (ped_op opd_mul (ped_op opd_sub (ped_ix (ped_var (i := 1) rfl (Or.inl rfl)) (ped_int) (fun _ _ => rfl)) (ped_ix (ped_var (i := 0) rfl (Or.inl rfl)) (ped_int) (fun _ _ => rfl))) (ped_op opd_sub (ped_ix (ped_var (i := 2) rfl (Or.inl rfl)) (ped_int) (fun _ _ => rfl)) (ped_ix (ped_var (i := 0) rfl (Or.inl rfl)) (ped_int) (fun _ _ => rfl)))) (ped_op opd_mul (ped_op opd_sub (ped_ix (ped_var (i := 1) rfl (Or.inl rfl)) (ped_int) (fun _ _ => rfl)) (ped_ix (ped_var (i := 0) rfl (Or.inl rfl)) (ped_int) (fun _ _ => rfl))) (ped_op opd_sub (ped_ix (ped_var (i := 2) rfl (Or.inl rfl)) (ped_int) (fun _ _ => rfl)) (ped_ix (ped_var (i := 0) rfl (Or.inl rfl)) (ped_int) (fun _ _ => rfl))))))
theorem ok_chain {f : Addr} {fd : FuncData} (F : Fun K "chain" "chain" s_chain f fd) (T : Txt K mg C_Crowded C_Flat C_GlideError C_NoName C_NoNumber C_NoRow C_NoText C_Past C_Twice) (h_bend : FnD P w K mg base 1 "bend" ["one", "two", "three"] F_bend) : FnOk P w K mg base (L2.CX P w) 2 f fd ["points"] (spD K mg 1 F_chain) :=
  fnOk_mk F sc_chain fun cdv A outer s H E hr => pbd_cons (psd_own (i := 1) sc_chain.nd rfl (Or.inl rfl) (pfd_lst (pad_nil))) (pbd_cons (psd_forL (passes_of rfl) rfl (ped_var (i := 0) rfl (Or.inl rfl)) (pgd_name (i := 2) sc_chain.nd rfl (Or.inl rfl)) (pbd_cons (psd_while (passes_of rfl) (pwd_pt (pwd_and (ptd_cmp (opd_gt) (ped_ownLen (i := 1) rfl (Or.inl rfl) (by rfl) T.z_len) (ped_int) (nomark _)) (pwd_and1 (ptd_cmp (opd_le) (ped_call h_bend (hr.mono (by decide)) (takes_of rfl rfl rfl rfl) (by rfl) (pad_cons (ped_ownAt (i := 1) rfl (Or.inl rfl) (ped_const (ped_neg (ped_int)) (fun _ => rfl)) (fun _ _ => rfl)) (pad_cons (ped_ownAt (i := 1) rfl (Or.inl rfl) (ped_const (ped_neg (ped_int)) (fun _ => rfl)) (fun _ _ => rfl)) (pad_cons (ped_var (i := 2) rfl (Or.inl rfl)) (pad_nil)))) (aCons_len (aCons_len (aCons_len aNil_len)))) (ped_int) (nomark _))))) (pbd_one (psd_pop (i := 1) rfl (Or.inl rfl)))) (pbd_one (psd_app (i := 1) rfl (Or.inl rfl) (ped_var (i := 2) rfl (Or.inl rfl)))))) (pbd_one (psd_frz 1 (psd_ret (ped_var (i := 1) rfl (Or.inl rfl))))))
theorem ok_hull {f : Addr} {fd : FuncData} (F : Fun K "hull" "hull" s_hull f fd) (T : Txt K mg C_Crowded C_Flat C_GlideError C_NoName C_NoNumber C_NoRow C_NoText C_Past C_Twice) (h_chain : FnD P w K mg base 2 "chain" ["points"] F_chain) : FnOk P w K mg base (L2.CX P w) 3 f fd ["points"] (spXF K mg 1 F_hullX) :=
  fnOkXF_mk F sc_hull fun cdv A outer s H E hr => pbx_seen (i := 1) (j := 2) (k := 3) rfl (passes_of rfl) (Nat.lt_of_le_of_lt (Nat.add_le_add_left (by decide) _) hr.units) sc_hull.nd rfl rfl rfl (Or.inl rfl) (Or.inl rfl) (Or.inl rfl) (Or.inl rfl) (Or.inl rfl) (by decide) (.inl rfl) (.inl rfl) (.inl rfl) (by rfl) T.z_sorted (ped_var (i := 0) rfl (Or.inl rfl)) (pbx_cons (psx_d (psd_set (i := 4) sc_hull.nd rfl (Or.inl rfl) (ped_call h_chain (hr.mono (by decide)) (takes_of rfl rfl rfl rfl) (by rfl) (pad_cons (ped_var (i := 3) rfl (Or.inl rfl)) (pad_nil)) (aCons_len aNil_len)))) (pbx_cons (psx_d (psd_set (i := 5) sc_hull.nd rfl (Or.inl rfl) (ped_call h_chain (hr.mono (by decide)) (takes_of rfl rfl rfl rfl) (by rfl) (pad_cons (ped_new (pfd_listRev rfl (by rfl) T.z_list (by rfl) T.z_reversed (ped_var (i := 3) rfl (Or.inl rfl)))) (pad_nil)) (aCons_len aNil_len)))) (pbx_cons (psx_d (psd_own (i := 6) sc_hull.nd rfl (Or.inl rfl) (pfd_cat (ped_new (pfd_cut (ped_var (i := 4) rfl (Or.inl rfl)) (pod_none) (pod_some (ped_const (ped_neg (ped_int)) (fun _ => rfl))))) (ped_new (pfd_cut (ped_var (i := 5) rfl (Or.inl rfl)) (pod_none) (pod_some (ped_const (ped_neg (ped_int)) (fun _ => rfl)))))))) (pbx_cons (psx_d (psd_if (ptd_cmp (opd_lt hr.units0) (ped_ownLen (i := 6) rfl (Or.inl rfl) (by rfl) T.z_len) (ped_int) (nomark _)) (pbd_one (psd_raise rfl (takes_of rfl rfl rfl rfl) PySem.F.excBase_ValueError T.x_Flat T.g_Flat T.kc_Flat (raises_own T.b_Flat T.t_Flat) rfl)) (pbd_nil))) (pbx_one (psx_retO (i := 6) rfl (Or.inl rfl)))))))
theorem ok__law_cell {f : Addr} {fd : FuncData} (F : Fun K "_law_cell" "_law_cell" s__law_cell f fd) (T : Txt K mg C_Crowded C_Flat C_GlideError C_NoName C_NoNumber C_NoRow C_NoText C_Past C_Twice) : FnOk P w K mg base (L2.CX P w) 1 f fd ["script", "k"] (spD K mg 2 F__law_cell) :=
  fnOk_mk F sc__law_cell fun cdv A outer s H E hr => pbd_cons (psd_if (ptd_cmp (opd_lt hr.units0) (ped_var (i := 1) rfl (Or.inl rfl)) (ped_callB calld_len (by rfl) T.z_len bb_len (pad_cons (ped_var (i := 0) rfl (Or.inl rfl)) (pad_nil))) (nomark _)) (pbd_one (psd_ret (ped_op opd_mod (ped_ix (ped_var (i := 0) rfl (Or.inl rfl)) (ped_var (i := 1) rfl (Or.inl rfl)) (fun _ _ => rfl)) (ped_const (ped_op opd_pow (ped_int) (ped_int)) (fun _ => rfl))))) (pbd_nil)) (pbd_cons (psd_set (i := 2) sc__law_cell.nd rfl (Or.inl rfl) (ped_op opd_add (ped_op opd_mul (ped_var (i := 1) rfl (Or.inl rfl)) (ped_int)) (ped_int))) (pbd_cons (psd_forL (passes_of rfl) rfl (ped_new (pfd_cut (ped_var (i := 0) rfl (Or.inl rfl)) (pod_none) (pod_some (ped_int)))) (pgd_name (i := 3) sc__law_cell.nd rfl (Or.inl rfl)) (pbd_one (psd_set (i := 2) sc__law_cell.nd rfl (Or.inl rfl) (ped_op opd_add (ped_op opd_mul (ped_var (i := 2) rfl (Or.inl rfl)) (ped_int)) (ped_op opd_mod (ped_var (i := 3) rfl (Or.inl rfl)) (ped_int)))))) (pbd_cons (psd_set (i := 2) sc__law_cell.nd rfl (Or.inl rfl) (ped_op opd_mod (ped_var (i := 2) rfl (Or.inl rfl)) (ped_int))) (pbd_one (psd_ret (ped_op opd_mod (ped_op opd_mul (ped_var (i := 2) rfl (Or.inl rfl)) (ped_var (i := 2) rfl (Or.inl rfl))) (ped_int)))))))
theorem ok__law_whole {f : Addr} {fd : FuncData} (F : Fun K "_law_whole" "_law_whole" s__law_whole f fd) (T : Txt K mg C_Crowded C_Flat C_GlideError C_NoName C_NoNumber C_NoRow C_NoText C_Past C_Twice) : FnOk P w K mg base (L2.CX P w) 1 f fd ["found"] (spD K mg 1 F__law_whole) :=
  fnOk_mk F sc__law_whole fun cdv A outer s H E hr => pbd_one (psd_ret (ped_and (ped_callB calld_isi (by rfl) T.z_isinstance bb_isinstance (pad_cons (ped_var (i := 0) rfl (Or.inl rfl)) (pad_cons (ped_bltn (v := .ty "int") rfl T.z_int bb_int rfl (fun _ => .ty _)) (pad_nil)))) (ped_one (ped_not (ped_callB calld_isi (by rfl) T.z_isinstance bb_isinstance (pad_cons (ped_var (i := 0) rfl (Or.inl rfl)) (pad_cons (ped_bltn (v := .ty "bool") rfl T.z_bool bb_bool rfl (fun _ => .ty _)) (pad_nil))))))))
theorem ok__law_turn {f : Addr} {fd : FuncData} (F : Fun K "_law_turn" "_law_turn" s__law_turn f fd) (T : Txt K mg C_Crowded C_Flat C_GlideError C_NoName C_NoNumber C_NoRow C_NoText C_Past C_Twice) : FnOk P w K mg base (L2.CX P w) 1 f fd ["one", "two", "three"] (spD K mg 3 F__law_turn) :=
  fnOk_mk F sc__law_turn fun cdv A outer s H E hr => pbd_cons (psd_set (i := 3) sc__law_turn.nd rfl (Or.inl rfl) (ped_op opd_mul (ped_op opd_sub (ped_ix (ped_var (i := 1) rfl (Or.inl rfl)) (ped_int) (fun _ _ => rfl)) (ped_ix (ped_var (i := 0) rfl (Or.inl rfl)) (ped_int) (fun _ _ => rfl))) (ped_op opd_sub (ped_ix (ped_var (i := 2) rfl (Or.inl rfl)) (ped_int) (fun _ _ => rfl)) (ped_ix (ped_var (i := 1) rfl (Or.inl rfl)) (ped_int) (fun _ _ => rfl))))) (pbd_cons (psd_set (i := 4) sc__law_turn.nd rfl (Or.inl rfl) (ped_op opd_mul (ped_op opd_sub (ped_ix (ped_var (i := 1) rfl (Or.inl rfl)) (ped_int) (fun _ _ => rfl)) (ped_ix (ped_var (i := 0) rfl (Or.inl rfl)) (ped_int) (fun _ _ => rfl))) (ped_op opd_sub (ped_ix (ped_var (i := 2) rfl (Or.inl rfl)) (ped_int) (fun _ _ => rfl)) (ped_ix (ped_var (i := 1) rfl (Or.inl rfl)) (ped_int) (fun _ _ => rfl))))) (pbd_one (psd_ret (ped_op opd_sub (ped_callT calld_int (by rfl) T.z_int bb_int (pad_cons (ped_cmp (opd_gt) (ped_var (i := 3) rfl (Or.inl rfl)) (ped_var (i := 4) rfl (Or.inl rfl)) (nomark _)) (pad_nil))) (ped_callT calld_int (by rfl) T.z_int bb_int (pad_cons (ped_cmp (opd_lt hr.units0) (ped_var (i := 3) rfl (Or.inl rfl)) (ped_var (i := 4) rfl (Or.inl rfl)) (nomark _)) (pad_nil)))))))
theorem ok__law_many_points {f : Addr} {fd : FuncData} (F : Fun K "_law_many_points" "_law_many_points" s__law_many_points f fd) (T : Txt K mg C_Crowded C_Flat C_GlideError C_NoName C_NoNumber C_NoRow C_NoText C_Past C_Twice) (h__law_cell : FnD P w K mg base 1 "_law_cell" ["script", "k"] F__law_cell) : FnOk P w K mg base (L2.CX P w) 2 f fd ["script"] (spD K mg 1 F__law_many_points) :=
  fnOk_mk F sc__law_many_points fun cdv A outer s H E hr => pbd_cons (psd_set (i := 1) sc__law_many_points.nd rfl (Or.inl rfl) (ped_call h__law_cell (hr.mono (by decide)) (takes_of rfl rfl rfl rfl) (by rfl) (pad_cons (ped_var (i := 0) rfl (Or.inl rfl)) (pad_cons (ped_int) (pad_nil))) (aCons_len (aCons_len aNil_len)))) (pbd_cons (psd_own (i := 2) sc__law_many_points.nd rfl (Or.inl rfl) (pfd_lst (pad_nil))) (pbd_cons (psd_forL (passes_of rfl) rfl (ped_new (pfd_cut (ped_var (i := 0) rfl (Or.inl rfl)) (pod_some (ped_int)) (pod_some (ped_int)))) (pgd_name (i := 3) sc__law_many_points.nd rfl (Or.inl rfl)) (pbd_cons (psd_set (i := 4) sc__law_many_points.nd rfl (Or.inl rfl) (ped_op opd_mod (ped_var (i := 3) rfl (Or.inl rfl)) (ped_const (ped_op opd_pow (ped_int) (ped_int)) (fun _ => rfl)))) (pbd_one (psd_if (ptd_cmp (opd_eq hr.units) (ped_op opd_mod (ped_var (i := 1) rfl (Or.inl rfl)) (ped_int)) (ped_int) (nomark _)) (pbd_one (psd_app (i := 2) rfl (Or.inl rfl) (ped_tup (pad_cons (ped_op opd_mod (ped_var (i := 4) rfl (Or.inl rfl)) (ped_int)) (pad_cons (ped_op opd_mod (ped_op opd_div (ped_var (i := 4) rfl (Or.inl rfl)) (ped_int)) (ped_int)) (pad_nil)))))) (pbd_one (psd_if (ptd_cmp (opd_eq hr.units) (ped_op opd_mod (ped_var (i := 1) rfl (Or.inl rfl)) (ped_int)) (ped_int) (nomark _)) (pbd_one (psd_app (i := 2) rfl (Or.inl rfl) (ped_tup (pad_cons (ped_op opd_sub (ped_op opd_mod (ped_var (i := 4) rfl (Or.inl rfl)) (ped_const (ped_op opd_pow (ped_int) (ped_int)) (fun _ => rfl))) (ped_const (ped_op opd_mul (ped_int) (ped_const (ped_op opd_pow (ped_int) (ped_int)) (fun _ => rfl))) (fun _ => rfl))) (pad_cons (ped_op opd_sub (ped_op opd_mod (ped_op opd_div (ped_var (i := 4) rfl (Or.inl rfl)) (ped_const (ped_op opd_pow (ped_int) (ped_int)) (fun _ => rfl))) (ped_const (ped_op opd_pow (ped_int) (ped_int)) (fun _ => rfl))) (ped_const (ped_op opd_mul (ped_int) (ped_const (ped_op opd_pow (ped_int) (ped_int)) (fun _ => rfl))) (fun _ => rfl))) (pad_nil)))))) (pbd_cons (psd_set (i := 5) sc__law_many_points.nd rfl (Or.inl rfl) (ped_op opd_add (ped_int) (ped_op opd_mod (ped_op opd_div (ped_var (i := 1) rfl (Or.inl rfl)) (ped_int)) (ped_const (ped_op opd_pow (ped_int) (ped_int)) (fun _ => rfl))))) (pbd_one (psd_app (i := 2) rfl (Or.inl rfl) (ped_tup (pad_cons (ped_op opd_add (ped_op opd_mul (ped_op opd_mod (ped_var (i := 4) rfl (Or.inl rfl)) (ped_int)) (ped_var (i := 5) rfl (Or.inl rfl))) (ped_int)) (pad_cons (ped_op opd_sub (ped_op opd_mul (ped_op opd_mod (ped_op opd_div (ped_var (i := 4) rfl (Or.inl rfl)) (ped_int)) (ped_int)) (ped_var (i := 5) rfl (Or.inl rfl))) (ped_op opd_mod (ped_var (i := 4) rfl (Or.inl rfl)) (ped_int))) (pad_nil))))))))))))) (pbd_cons (psd_if (ptd_cmp (opd_eq hr.units) (ped_op opd_mod (ped_op opd_div (ped_var (i := 1) rfl (Or.inl rfl)) (ped_int)) (ped_int)) (ped_int) (nomark _)) (pbd_one (psd_frz 2 (psd_ownL (i := 2) rfl sc__law_many_points.nd rfl rfl (lcd_L (own := [("x", 6), ("y", 7)]) (ped_var (i := 2) rfl (Or.inl rfl)) (blkOk_by (own := [("x", 6), ("y", 7)]) (N := N__law_many_points) (sc := defScope s__law_many_points) (by decide +kernel)) (fun _ _ _ _ _ => pgv_tup rfl (pgsv_cons (pgv_name (i := 6) sc__law_many_points.nd rfl (Or.inl rfl) (by decide)) (pgsv_cons (pgv_name (i := 7) sc__law_many_points.nd rfl (Or.inl rfl) (by decide)) (pgsv_nil))) (gs_len 1 (gs_len 0 gs_len0))) (fun _ _ _ _ _ => ptsd_nil) (fun _ _ _ _ _ => ped_tup (pad_cons (ped_var (i := 6) rfl (Or.inl rfl)) (pad_cons (ped_op opd_sub (ped_op opd_mul (ped_int) (ped_var (i := 6) rfl (Or.inl rfl))) (ped_int)) (pad_nil))))) (sw_true rfl rfl rfl (by decide +kernel))))) (pbd_nil)) (pbd_one (psd_frz 2 (psd_ret (ped_var (i := 2) rfl (Or.inl rfl))))))))
theorem ok__law_on_a_line {f : Addr} {fd : FuncData} (F : Fun K "_law_on_a_line" "_law_on_a_line" s__law_on_a_line f fd) (T : Txt K mg C_Crowded C_Flat C_GlideError C_NoName C_NoNumber C_NoRow C_NoText C_Past C_Twice) (h__law_turn : FnD P w K mg base 1 "_law_turn" ["one", "two", "three"] F__law_turn) : FnOk P w K mg base (L2.CX P w) 2 f fd ["points"] (spD K mg 1 F__law_on_a_line) :=
  fnOk_mk F sc__law_on_a_line fun cdv A outer s H E hr => pbd_cons (psd_forL (passes_of rfl) rfl (ped_var (i := 0) rfl (Or.inl rfl)) (pgd_name (i := 1) sc__law_on_a_line.nd rfl (Or.inl rfl)) (pbd_one (psd_forL (passes_of rfl) rfl (ped_var (i := 0) rfl (Or.inl rfl)) (pgd_name (i := 2) sc__law_on_a_line.nd rfl (Or.inl rfl)) (pbd_one (psd_if (ptd_cmp (opd_ne hr.units) (ped_call h__law_turn (hr.mono (by decide)) (takes_of rfl rfl rfl rfl) (by rfl) (pad_cons (ped_ix (ped_var (i := 0) rfl (Or.inl rfl)) (ped_int) (fun _ _ => rfl)) (pad_cons (ped_var (i := 1) rfl (Or.inl rfl)) (pad_cons (ped_var (i := 2) rfl (Or.inl rfl)) (pad_nil)))) (aCons_len (aCons_len (aCons_len aNil_len)))) (ped_int) (nomark _)) (pbd_one (psd_ret (ped_bl))) (pbd_nil)))))) (pbd_one (psd_ret (ped_bl)))
theorem ok__law_refused {f : Addr} {fd : FuncData} (F : Fun K "_law_refused" "_law_refused" s__law_refused f fd) (T : Txt K mg C_Crowded C_Flat C_GlideError C_NoName C_NoNumber C_NoRow C_NoText C_Past C_Twice) (h_hull : FnXF P w K mg base 3 "hull" ["points"] F_hullX) : FnOk P w K mg base (L2.CX P w) 4 f fd ["points"] (spX K mg 1 F__law_refused_v3) :=
  fnOkX_mk F sc__law_refused fun cdv A outer s H E hr => pbx_cons (psx_d (psd_set (i := 1) sc__law_refused.nd rfl (Or.inl rfl) (ped_non))) (pbx_cons (psx_try (i := 2) (j := 1) (xct T) rfl rfl sc__law_refused.nd rfl rfl ⟨by rfl, by decide, .inl T.g_GlideError⟩ (Or.inl rfl) rfl (Or.inl rfl) (fun Wn pn xe tk ps => pbx_one (psx_expr (pex_new (pfx_callX h_hull (hr.mono (by decide)) tk (by rfl) (pax_cons (pex_d (ped_var (i := 0) rfl (Or.inl rfl))) (pax_nil)) (xACons_len xANil_len)))))) (pbx_cons (psx_d (psd_set (i := 3) sc__law_refused.nd rfl (Or.inl rfl) (ped_and (ped_callB (calld_isX (exh T)) (by rfl) T.z_isinstance bb_isinstance (pad_cons (ped_var (i := 1) rfl (Or.inl rfl)) (pad_cons (ped_bltn (v := .ty "ValueError") rfl T.z_ValueError bb_ValueError rfl (fun _ => .ty _)) (pad_nil)))) (ped_one (ped_callB (calld_isX (exh T)) (by rfl) T.z_isinstance bb_isinstance (pad_cons (ped_var (i := 1) rfl (Or.inl rfl)) (pad_cons (ped_glob (v := .ref C_Flat) rfl T.g_Flat rfl (fun _ => .cls T.g_Flat)) (pad_nil)))))))) (pbx_one (psx_d (psd_ret (ped_and (ped_var (i := 3) rfl (Or.inl rfl)) (ped_one (ped_not (ped_callB (calld_isX (exh T)) (by rfl) T.z_isinstance bb_isinstance (pad_cons (ped_var (i := 1) rfl (Or.inl rfl)) (pad_cons (ped_tup (pad_cons (ped_glob (v := .ref C_NoNumber) rfl T.g_NoNumber rfl (fun _ => .cls T.g_NoNumber)) (pad_cons (ped_glob (v := .ref C_Crowded) rfl T.g_Crowded rfl (fun _ => .cls T.g_Crowded)) (pad_cons (ped_glob (v := .ref C_NoName) rfl T.g_NoName rfl (fun _ => .cls T.g_NoName)) (pad_cons (ped_glob (v := .ref C_Twice) rfl T.g_Twice rfl (fun _ => .cls T.g_Twice)) (pad_cons (ped_glob (v := .ref C_Past) rfl T.g_Past rfl (fun _ => .cls T.g_Past)) (pad_cons (ped_glob (v := .ref C_NoText) rfl T.g_NoText rfl (fun _ => .cls T.g_NoText)) (pad_cons (ped_glob (v := .ref C_NoRow) rfl T.g_NoRow rfl (fun _ => .cls T.g_NoRow)) (pad_nil))))))))) (pad_nil))))))))))))
theorem ok__law_are_points {f : Addr} {fd : FuncData} (F : Fun K "_law_are_points" "_law_are_points" s__law_are_points f fd) (T : Txt K mg C_Crowded C_Flat C_GlideError C_NoName C_NoNumber C_NoRow C_NoText C_Past C_Twice) (h__law_whole : FnD P w K mg base 1 "_law_whole" ["found"] F__law_whole) : FnOk P w K mg base (L2.CX P w) 2 f fd ["told", "points"] (spD K mg 2 F__law_are_points) :=
  fnOk_mk F sc__law_are_points fun cdv A outer s H E hr => pbd_cons (psd_if (pwd_pt (pwd_or (ptd_not (ptd_val (ped_callB calld_isi (by rfl) T.z_isinstance bb_isinstance (pad_cons (ped_var (i := 0) rfl (Or.inl rfl)) (pad_cons (ped_bltn (v := .ty "list") rfl T.z_list bb_list rfl (fun _ => .ty _)) (pad_nil)))) (by intro _; rfl))) (pwd_or1 (ptd_cmp (opd_lt hr.units0) (ped_callB calld_len (by rfl) T.z_len bb_len (pad_cons (ped_var (i := 0) rfl (Or.inl rfl)) (pad_nil))) (ped_int) (nomark _))))) (pbd_one (psd_ret (ped_bl))) (pbd_nil)) (pbd_cons (psd_for1 (passes_of rfl) rfl (by rfl) T.z_range (pad_cons (ped_callB calld_len (by rfl) T.z_len bb_len (pad_cons (ped_var (i := 0) rfl (Or.inl rfl)) (pad_nil))) (pad_nil)) (pgd_name (i := 2) sc__law_are_points.nd rfl (Or.inl rfl)) (pbd_cons (psd_set (i := 3) sc__law_are_points.nd rfl (Or.inl rfl) (ped_ix (ped_var (i := 0) rfl (Or.inl rfl)) (ped_var (i := 2) rfl (Or.inl rfl)) (fun _ _ => rfl))) (pbd_cons (psd_if (pwd_pt (pwd_or (ptd_not (ptd_val (ped_callB calld_isi (by rfl) T.z_isinstance bb_isinstance (pad_cons (ped_var (i := 3) rfl (Or.inl rfl)) (pad_cons (ped_bltn (v := .ty "tuple") rfl T.z_tuple bb_tuple rfl (fun _ => .ty _)) (pad_nil)))) (by intro _; rfl))) (pwd_or (ptd_cmp (opd_ne hr.units) (ped_callB calld_len (by rfl) T.z_len bb_len (pad_cons (ped_var (i := 3) rfl (Or.inl rfl)) (pad_nil))) (ped_int) (nomark _)) (pwd_or (ptd_not (ptd_val (ped_call h__law_whole (hr.mono (by decide)) (takes_of rfl rfl rfl rfl) (by rfl) (pad_cons (ped_ix (ped_var (i := 3) rfl (Or.inl rfl)) (ped_int) (fun _ _ => rfl)) (pad_nil)) (aCons_len aNil_len)) (by intro _; rfl))) (pwd_or1 (ptd_not (ptd_val (ped_call h__law_whole (hr.mono (by decide)) (takes_of rfl rfl rfl rfl) (by rfl) (pad_cons (ped_ix (ped_var (i := 3) rfl (Or.inl rfl)) (ped_int) (fun _ _ => rfl)) (pad_nil)) (aCons_len aNil_len)) (by intro _; rfl)))))))) (pbd_one (psd_ret (ped_bl))) (pbd_nil)) (pbd_one (psd_if (pwd_pt (pwd_or (ptd_cmp (opd_notIn (hr_in hr)) (ped_var (i := 3) rfl (Or.inl rfl)) (ped_var (i := 1) rfl (Or.inl rfl)) (by rfl)) (pwd_or (ptd_cmp (opd_in (hr_in hr)) (ped_var (i := 3) rfl (Or.inl rfl)) (ped_new (pfd_cut (ped_var (i := 0) rfl (Or.inl rfl)) (pod_none) (pod_some (ped_var (i := 2) rfl (Or.inl rfl))))) (by rfl)) (pwd_or1 (ptd_cmp (opd_lt hr.units0) (ped_var (i := 3) rfl (Or.inl rfl)) (ped_ix (ped_var (i := 0) rfl (Or.inl rfl)) (ped_int) (fun _ _ => rfl)) (nomark _)))))) (pbd_one (psd_ret (ped_bl))) (pbd_nil))))) (aCons_len aNil_len)) (pbd_one (psd_ret (ped_bl))))
theorem ok__law_goes_round {f : Addr} {fd : FuncData} (F : Fun K "_law_goes_round" "_law_goes_round" s__law_goes_round f fd) (T : Txt K mg C_Crowded C_Flat C_GlideError C_NoName C_NoNumber C_NoRow C_NoText C_Past C_Twice) (h__law_turn : FnD P w K mg base 1 "_law_turn" ["one", "two", "three"] F__law_turn) : FnOk P w K mg base (L2.CX P w) 2 f fd ["told", "points"] (spD K mg 2 F__law_goes_round) :=
  fnOk_mk F sc__law_goes_round fun cdv A outer s H E hr => pbd_cons (psd_for1 (passes_of rfl) rfl (by rfl) T.z_range (pad_cons (ped_callB calld_len (by rfl) T.z_len bb_len (pad_cons (ped_var (i := 0) rfl (Or.inl rfl)) (pad_nil))) (pad_nil)) (pgd_name (i := 2) sc__law_goes_round.nd rfl (Or.inl rfl)) (pbd_cons (psd_set (i := 3) sc__law_goes_round.nd rfl (Or.inl rfl) (ped_ix (ped_var (i := 0) rfl (Or.inl rfl)) (ped_op opd_sub (ped_var (i := 2) rfl (Or.inl rfl)) (ped_int)) (fun _ _ => rfl))) (pbd_cons (psd_set (i := 4) sc__law_goes_round.nd rfl (Or.inl rfl) (ped_ix (ped_var (i := 0) rfl (Or.inl rfl)) (ped_var (i := 2) rfl (Or.inl rfl)) (fun _ _ => rfl))) (pbd_cons (psd_if (ptd_cmp (opd_ne hr.units) (ped_call h__law_turn (hr.mono (by decide)) (takes_of rfl rfl rfl rfl) (by rfl) (pad_cons (ped_ix (ped_var (i := 0) rfl (Or.inl rfl)) (ped_op opd_sub (ped_var (i := 2) rfl (Or.inl rfl)) (ped_int)) (fun _ _ => rfl)) (pad_cons (ped_var (i := 3) rfl (Or.inl rfl)) (pad_cons (ped_var (i := 4) rfl (Or.inl rfl)) (pad_nil)))) (aCons_len (aCons_len (aCons_len aNil_len)))) (ped_int) (nomark _)) (pbd_one (psd_ret (ped_bl))) (pbd_nil)) (pbd_one (psd_forL (passes_of rfl) rfl (ped_var (i := 1) rfl (Or.inl rfl)) (pgd_name (i := 5) sc__law_goes_round.nd rfl (Or.inl rfl)) (pbd_one (psd_if (ptd_cmp (opd_lt hr.units0) (ped_call h__law_turn (hr.mono (by decide)) (takes_of rfl rfl rfl rfl) (by rfl) (pad_cons (ped_var (i := 3) rfl (Or.inl rfl)) (pad_cons (ped_var (i := 4) rfl (Or.inl rfl)) (pad_cons (ped_var (i := 5) rfl (Or.inl rfl)) (pad_nil)))) (aCons_len (aCons_len (aCons_len aNil_len)))) (ped_int) (nomark _)) (pbd_one (psd_ret (ped_bl))) (pbd_nil)))))))) (aCons_len aNil_len)) (pbd_one (psd_ret (ped_bl)))
theorem ok_law {f : Addr} {fd : FuncData} (F : Fun K "law" "law" s_law f fd) (T : Txt K mg C_Crowded C_Flat C_GlideError C_NoName C_NoNumber C_NoRow C_NoText C_Past C_Twice) (h__law_many_points : FnD P w K mg base 2 "_law_many_points" ["script"] F__law_many_points) (h__law_on_a_line : FnD P w K mg base 2 "_law_on_a_line" ["points"] F__law_on_a_line) (h_hull : FnXF P w K mg base 3 "hull" ["points"] F_hullX) (h__law_goes_round : FnD P w K mg base 2 "_law_goes_round" ["told", "points"] F__law_goes_round) (h__law_refused : FnX P w K mg base 4 "_law_refused" ["points"] F__law_refused_v3) (h__law_are_points : FnD P w K mg base 2 "_law_are_points" ["told", "points"] F__law_are_points) : FnOk P w K mg base (L2.CX P w) 5 f fd ["script"] (spX K mg 1 F_law) :=
  fnOkX_mk F sc_law fun cdv A outer s H E hr => pbx_cons (psx_d (psd_set (i := 1) sc_law.nd rfl (Or.inl rfl) (ped_call h__law_many_points (hr.mono (by decide)) (takes_of rfl rfl rfl rfl) (by rfl) (pad_cons (ped_var (i := 0) rfl (Or.inl rfl)) (pad_nil)) (aCons_len aNil_len)))) (pbx_cons (psx_d (psd_own (i := 2) sc_law.nd rfl (Or.inl rfl) (pfd_callT callf_list (by rfl) T.z_list bb_list (pad_cons (ped_var (i := 1) rfl (Or.inl rfl)) (pad_nil))))) (pbx_cons (psx_if (ptx_d (ptd_val (ped_call h__law_on_a_line (hr.mono (by decide)) (takes_of rfl rfl rfl rfl) (by rfl) (pad_cons (ped_var (i := 1) rfl (Or.inl rfl)) (pad_nil)) (aCons_len aNil_len)) (by intro _; rfl))) (pbx_one (psx_frz 2 (psx_ret (pex_and (pex_callX h__law_refused (hr.mono (by decide)) (takes_of rfl rfl rfl rfl) (by rfl) (pax_cons (pex_d (ped_var (i := 2) rfl (Or.inl rfl))) (pax_nil)) (xACons_len xANil_len)) (pex_one (pex_d (ped_cmp (opd_eq hr.units) (ped_var (i := 2) rfl (Or.inl rfl)) (ped_var (i := 1) rfl (Or.inl rfl)) (nomark _)))))))) (pbx_nil)) (pbx_cons (psx_lendO (j := 3) (i := 2) sc_law.nd rfl (Or.inl rfl) (pfx_callX h_hull (hr.mono (by decide)) (takes_of rfl rfl rfl rfl) (by rfl) (pax_cons (pex_d (ped_var (i := 2) rfl (Or.inl rfl))) (pax_nil)) (xACons_len xANil_len))) (pbx_cons (psx_frz 3 (psx_d (psd_peek 2 (pwd_pt (pwd_or (ptd_cmp (opd_ne hr.units) (ped_var (i := 2) rfl (Or.inl rfl)) (ped_var (i := 1) rfl (Or.inl rfl)) (nomark _)) (pwd_or1 (ptd_not (ptd_val (ped_call h__law_are_points (hr.mono (by decide)) (takes_of rfl rfl rfl rfl) (by rfl) (pad_cons (ped_var (i := 3) rfl (Or.inl rfl)) (pad_cons (ped_var (i := 1) rfl (Or.inl rfl)) (pad_nil))) (aCons_len (aCons_len aNil_len))) (by intro _; rfl)))))) (pbd_one (psd_ret (ped_bl)))))) (pbx_cons (psx_d (psd_frz 3 (psd_set (i := 4) sc_law.nd rfl (Or.inl rfl) (ped_new (pfd_callT callf_list (by rfl) T.z_list bb_list (pad_cons (ped_var (i := 3) rfl (Or.inl rfl)) (pad_nil))))))) (pbx_cons (psx_d (psd_clr (i := 2) rfl (Or.inl rfl))) (pbx_one (psx_d (psd_frz 3 (psd_ret (ped_and (ped_call h__law_goes_round (hr.mono (by decide)) (takes_of rfl rfl rfl rfl) (by rfl) (pad_cons (ped_var (i := 3) rfl (Or.inl rfl)) (pad_cons (ped_var (i := 1) rfl (Or.inl rfl)) (pad_nil))) (aCons_len (aCons_len aNil_len))) (ped_and (ped_cmp (opd_eq hr.units) (ped_callB (calld_minP rfl (hr_1 hr)) (by rfl) T.z_min bb_min (pad_cons (ped_var (i := 1) rfl (Or.inl rfl)) (pad_nil))) (ped_ix (ped_var (i := 3) rfl (Or.inl rfl)) (ped_int) (fun _ _ => rfl)) (nomark _)) (ped_one (ped_cmp (opd_eq hr.units) (ped_var (i := 3) rfl (Or.inl rfl)) (ped_var (i := 4) rfl (Or.inl rfl)) (nomark _)))))))))))))))
end
theorem all_mk {l : PySem.W.OpenLaw} {w : World} {K : PySem.W.Frag} {h : Heap} {mg : Str → Option Value} {fa f0 f1 f2 f3 f4 f5 f6 f7 f8 f9 f10 f11 C_Crowded C_Flat C_GlideError C_NoName C_NoNumber C_NoRow C_NoText C_Past C_Twice : Addr} (X : K.In h) (G : h.Ns mainGlobals mg) (hfa : mg "law" = some (.ref fa))
    {od0 an0 od1 an1 od2 an2 od3 an3 od4 an4 od5 an5 od6 an6 od7 an7 od8 an8 od9 an9 od10 an10 od11 an11 : Option Addr} {sl0 sl1 sl2 sl3 sl4 sl5 sl6 sl7 sl8 sl9 sl10 sl11 : Array (Option Value)} {oc0 kV0 dc0 pm0 cd0 ct0 oc1 kV1 dc1 pm1 cd1 ct1 oc2 kV2 dc2 pm2 cd2 ct2 oc3 kV3 dc3 pm3 cd3 ct3 oc4 kV4 dc4 pm4 cd4 ct4 oc5 kV5 dc5 pm5 cd5 ct5 oc6 kV6 dc6 pm6 cd6 ct6 oc7 kV7 dc7 pm7 cd7 ct7 oc8 kV8 dc8 pm8 cd8 ct8 oc9 kV9 dc9 pm9 cd9 ct9 oc10 kV10 dc10 pm10 cd10 ct10 oc11 kV11 dc11 pm11 cd11 ct11 : Value}
    (gC_Crowded : PySem.W.nsIn K mainGlobals "Crowded" = some (some (.ref C_Crowded)))
    (kC_Crowded : PySem.W.keepIn K (.ref C_Crowded) = true)
    (bC_Crowded : PySem.W.subIn K (.ref C_Crowded) (.type "BaseException") = some true)
    (tC_Crowded : PySem.W.typeIn K (.ref C_Crowded) = some (.type "type"))
    (gC_Flat : PySem.W.nsIn K mainGlobals "Flat" = some (some (.ref C_Flat)))
    (xC_Flat : PySem.W.excIn K C_Flat [.type "ValueError", .type "Exception", .type "BaseException", .type "object"] "ValueError.__new__" = true)
    (kC_Flat : PySem.W.keepIn K (.ref C_Flat) = true)
    (bC_Flat : PySem.W.subIn K (.ref C_Flat) (.type "BaseException") = some true)
    (tC_Flat : PySem.W.typeIn K (.ref C_Flat) = some (.type "type"))
    (gC_GlideError : PySem.W.nsIn K mainGlobals "GlideError" = some (some (.ref C_GlideError)))
    (kC_GlideError : PySem.W.keepIn K (.ref C_GlideError) = true)
    (bC_GlideError : PySem.W.subIn K (.ref C_GlideError) (.type "BaseException") = some true)
    (tC_GlideError : PySem.W.typeIn K (.ref C_GlideError) = some (.type "type"))
    (gC_NoName : PySem.W.nsIn K mainGlobals "NoName" = some (some (.ref C_NoName)))
    (kC_NoName : PySem.W.keepIn K (.ref C_NoName) = true)
    (bC_NoName : PySem.W.subIn K (.ref C_NoName) (.type "BaseException") = some true)
    (tC_NoName : PySem.W.typeIn K (.ref C_NoName) = some (.type "type"))
    (gC_NoNumber : PySem.W.nsIn K mainGlobals "NoNumber" = some (some (.ref C_NoNumber)))
    (kC_NoNumber : PySem.W.keepIn K (.ref C_NoNumber) = true)
    (bC_NoNumber : PySem.W.subIn K (.ref C_NoNumber) (.type "BaseException") = some true)
    (tC_NoNumber : PySem.W.typeIn K (.ref C_NoNumber) = some (.type "type"))
    (gC_NoRow : PySem.W.nsIn K mainGlobals "NoRow" = some (some (.ref C_NoRow)))
    (kC_NoRow : PySem.W.keepIn K (.ref C_NoRow) = true)
    (bC_NoRow : PySem.W.subIn K (.ref C_NoRow) (.type "BaseException") = some true)
    (tC_NoRow : PySem.W.typeIn K (.ref C_NoRow) = some (.type "type"))
    (gC_NoText : PySem.W.nsIn K mainGlobals "NoText" = some (some (.ref C_NoText)))
    (kC_NoText : PySem.W.keepIn K (.ref C_NoText) = true)
    (bC_NoText : PySem.W.subIn K (.ref C_NoText) (.type "BaseException") = some true)
    (tC_NoText : PySem.W.typeIn K (.ref C_NoText) = some (.type "type"))
    (gC_Past : PySem.W.nsIn K mainGlobals "Past" = some (some (.ref C_Past)))
    (kC_Past : PySem.W.keepIn K (.ref C_Past) = true)
    (bC_Past : PySem.W.subIn K (.ref C_Past) (.type "BaseException") = some true)
    (tC_Past : PySem.W.typeIn K (.ref C_Past) = some (.type "type"))
    (gC_Twice : PySem.W.nsIn K mainGlobals "Twice" = some (some (.ref C_Twice)))
    (kC_Twice : PySem.W.keepIn K (.ref C_Twice) = true)
    (bC_Twice : PySem.W.subIn K (.ref C_Twice) (.type "BaseException") = some true)
    (tC_Twice : PySem.W.typeIn K (.ref C_Twice) = some (.type "type"))
    (sg_Flat : PySem.W.subIn K (.ref C_Flat) (.ref C_GlideError) = some true)
    (hd_Crowded : PySem.W.hasDictIn K C_Crowded = true)
    (hd_Flat : PySem.W.hasDictIn K C_Flat = true)
    (hd_GlideError : PySem.W.hasDictIn K C_GlideError = true)
    (hd_NoName : PySem.W.hasDictIn K C_NoName = true)
    (hd_NoNumber : PySem.W.hasDictIn K C_NoNumber = true)
    (hd_NoRow : PySem.W.hasDictIn K C_NoRow = true)
    (hd_NoText : PySem.W.hasDictIn K C_NoText = true)
    (hd_Past : PySem.W.hasDictIn K C_Past = true)
    (hd_Twice : PySem.W.hasDictIn K C_Twice = true)
    (oN : PySem.W.specialIn K (.builtin "object.__class__") "__get__" = some (some (.builtin "getset_descriptor.__get__")))
    (oT : PySem.W.takesIn K (.builtin "object.__class__") = some true)
    (vg_Flat : PySem.W.findIn K (.ref C_Flat) "__getattribute__" = some (some (.builtin "BaseException.__getattribute__")))
    (vk_Flat : PySem.W.findIn K (.ref C_Flat) "__getattr__" = some none)
    (va_Flat : PySem.W.findIn K (.ref C_Flat) "__class__" = some (some (.builtin "object.__class__")))
    (vm_Flat : PySem.W.mroIn K C_Flat (.type "object") = some true)
    (sv_Flat : PySem.W.subIn K (.ref C_Flat) (.type "ValueError") = some true)
    (su_Flat_Crowded : PySem.W.subIn K (.ref C_Flat) (.ref C_Crowded) = some false)
    (su_Flat_Flat : PySem.W.subIn K (.ref C_Flat) (.ref C_Flat) = some true)
    (su_Flat_NoName : PySem.W.subIn K (.ref C_Flat) (.ref C_NoName) = some false)
    (su_Flat_NoNumber : PySem.W.subIn K (.ref C_Flat) (.ref C_NoNumber) = some false)
    (su_Flat_NoRow : PySem.W.subIn K (.ref C_Flat) (.ref C_NoRow) = some false)
    (su_Flat_NoText : PySem.W.subIn K (.ref C_Flat) (.ref C_NoText) = some false)
    (su_Flat_Past : PySem.W.subIn K (.ref C_Flat) (.ref C_Past) = some false)
    (su_Flat_Twice : PySem.W.subIn K (.ref C_Flat) (.ref C_Twice) = some false)
    (ss_Crowded : PySem.W.subIn K (.ref C_Crowded) (.ref C_Crowded) = some true)
    (ss_Flat : PySem.W.subIn K (.ref C_Flat) (.ref C_Flat) = some true)
    (ss_NoName : PySem.W.subIn K (.ref C_NoName) (.ref C_NoName) = some true)
    (ss_NoNumber : PySem.W.subIn K (.ref C_NoNumber) (.ref C_NoNumber) = some true)
    (ss_NoRow : PySem.W.subIn K (.ref C_NoRow) (.ref C_NoRow) = some true)
    (ss_NoText : PySem.W.subIn K (.ref C_NoText) (.ref C_NoText) = some true)
    (ss_Past : PySem.W.subIn K (.ref C_Past) (.ref C_Past) = some true)
    (ss_Twice : PySem.W.subIn K (.ref C_Twice) (.ref C_Twice) = some true)
    (a0 : PySem.W.nsIn K mainGlobals "bend" = some (some (.ref f0)))
    (l0 : K.lookup f0 = some ⟨oc0, od0, .func (PySem.W.fnOf "bend" "bend" (defArgs s_bend) (defBody s_bend) (defScope s_bend) .none kV0 dc0 pm0 an0 cd0 ct0), sl0⟩)
    (c0 : PySem.W.codeIn K cd0 "bend" = true)
    (k0 : PySem.W.keepIn K (.ref f0) = true)
    (a1 : PySem.W.nsIn K mainGlobals "chain" = some (some (.ref f1)))
    (l1 : K.lookup f1 = some ⟨oc1, od1, .func (PySem.W.fnOf "chain" "chain" (defArgs s_chain) (defBody s_chain) (defScope s_chain) .none kV1 dc1 pm1 an1 cd1 ct1), sl1⟩)
    (c1 : PySem.W.codeIn K cd1 "chain" = true)
    (k1 : PySem.W.keepIn K (.ref f1) = true)
    (a2 : PySem.W.nsIn K mainGlobals "hull" = some (some (.ref f2)))
    (l2 : K.lookup f2 = some ⟨oc2, od2, .func (PySem.W.fnOf "hull" "hull" (defArgs s_hull) (defBody s_hull) (defScope s_hull) .none kV2 dc2 pm2 an2 cd2 ct2), sl2⟩)
    (c2 : PySem.W.codeIn K cd2 "hull" = true)
    (k2 : PySem.W.keepIn K (.ref f2) = true)
    (a3 : PySem.W.nsIn K mainGlobals "_law_cell" = some (some (.ref f3)))
    (l3 : K.lookup f3 = some ⟨oc3, od3, .func (PySem.W.fnOf "_law_cell" "_law_cell" (defArgs s__law_cell) (defBody s__law_cell) (defScope s__law_cell) .none kV3 dc3 pm3 an3 cd3 ct3), sl3⟩)
    (c3 : PySem.W.codeIn K cd3 "_law_cell" = true)
    (k3 : PySem.W.keepIn K (.ref f3) = true)
    (a4 : PySem.W.nsIn K mainGlobals "_law_whole" = some (some (.ref f4)))
    (l4 : K.lookup f4 = some ⟨oc4, od4, .func (PySem.W.fnOf "_law_whole" "_law_whole" (defArgs s__law_whole) (defBody s__law_whole) (defScope s__law_whole) .none kV4 dc4 pm4 an4 cd4 ct4), sl4⟩)
    (c4 : PySem.W.codeIn K cd4 "_law_whole" = true)
    (k4 : PySem.W.keepIn K (.ref f4) = true)
    (a5 : PySem.W.nsIn K mainGlobals "_law_turn" = some (some (.ref f5)))
    (l5 : K.lookup f5 = some ⟨oc5, od5, .func (PySem.W.fnOf "_law_turn" "_law_turn" (defArgs s__law_turn) (defBody s__law_turn) (defScope s__law_turn) .none kV5 dc5 pm5 an5 cd5 ct5), sl5⟩)
    (c5 : PySem.W.codeIn K cd5 "_law_turn" = true)
    (k5 : PySem.W.keepIn K (.ref f5) = true)
    (a6 : PySem.W.nsIn K mainGlobals "_law_many_points" = some (some (.ref f6)))
    (l6 : K.lookup f6 = some ⟨oc6, od6, .func (PySem.W.fnOf "_law_many_points" "_law_many_points" (defArgs s__law_many_points) (defBody s__law_many_points) (defScope s__law_many_points) .none kV6 dc6 pm6 an6 cd6 ct6), sl6⟩)
    (c6 : PySem.W.codeIn K cd6 "_law_many_points" = true)
    (k6 : PySem.W.keepIn K (.ref f6) = true)
    (a7 : PySem.W.nsIn K mainGlobals "_law_on_a_line" = some (some (.ref f7)))
    (l7 : K.lookup f7 = some ⟨oc7, od7, .func (PySem.W.fnOf "_law_on_a_line" "_law_on_a_line" (defArgs s__law_on_a_line) (defBody s__law_on_a_line) (defScope s__law_on_a_line) .none kV7 dc7 pm7 an7 cd7 ct7), sl7⟩)
    (c7 : PySem.W.codeIn K cd7 "_law_on_a_line" = true)
    (k7 : PySem.W.keepIn K (.ref f7) = true)
    (a8 : PySem.W.nsIn K mainGlobals "_law_refused" = some (some (.ref f8)))
    (l8 : K.lookup f8 = some ⟨oc8, od8, .func (PySem.W.fnOf "_law_refused" "_law_refused" (defArgs s__law_refused) (defBody s__law_refused) (defScope s__law_refused) .none kV8 dc8 pm8 an8 cd8 ct8), sl8⟩)
    (c8 : PySem.W.codeIn K cd8 "_law_refused" = true)
    (k8 : PySem.W.keepIn K (.ref f8) = true)
    (a9 : PySem.W.nsIn K mainGlobals "_law_are_points" = some (some (.ref f9)))
    (l9 : K.lookup f9 = some ⟨oc9, od9, .func (PySem.W.fnOf "_law_are_points" "_law_are_points" (defArgs s__law_are_points) (defBody s__law_are_points) (defScope s__law_are_points) .none kV9 dc9 pm9 an9 cd9 ct9), sl9⟩)
    (c9 : PySem.W.codeIn K cd9 "_law_are_points" = true)
    (k9 : PySem.W.keepIn K (.ref f9) = true)
    (a10 : PySem.W.nsIn K mainGlobals "_law_goes_round" = some (some (.ref f10)))
    (l10 : K.lookup f10 = some ⟨oc10, od10, .func (PySem.W.fnOf "_law_goes_round" "_law_goes_round" (defArgs s__law_goes_round) (defBody s__law_goes_round) (defScope s__law_goes_round) .none kV10 dc10 pm10 an10 cd10 ct10), sl10⟩)
    (c10 : PySem.W.codeIn K cd10 "_law_goes_round" = true)
    (k10 : PySem.W.keepIn K (.ref f10) = true)
    (a11 : PySem.W.nsIn K mainGlobals "law" = some (some (.ref f11)))
    (l11 : K.lookup f11 = some ⟨oc11, od11, .func (PySem.W.fnOf "law" "law" (defArgs s_law) (defBody s_law) (defScope s_law) .none kV11 dc11 pm11 an11 cd11 ct11), sl11⟩)
    (c11 : PySem.W.codeIn K cd11 "law" = true)
    (k11 : PySem.W.keepIn K (.ref f11) = true)
    (zz_ValueError : PySem.W.nsIn K mainGlobals "ValueError" = some none)
    (zz_bool : PySem.W.nsIn K mainGlobals "bool" = some none)
    (zz_int : PySem.W.nsIn K mainGlobals "int" = some none)
    (zz_isinstance : PySem.W.nsIn K mainGlobals "isinstance" = some none)
    (zz_len : PySem.W.nsIn K mainGlobals "len" = some none)
    (zz_list : PySem.W.nsIn K mainGlobals "list" = some none)
    (zz_min : PySem.W.nsIn K mainGlobals "min" = some none)
    (zz_range : PySem.W.nsIn K mainGlobals "range" = some none)
    (zz_reversed : PySem.W.nsIn K mainGlobals "reversed" = some none)
    (zz_sorted : PySem.W.nsIn K mainGlobals "sorted" = some none)
    (zz_tuple : PySem.W.nsIn K mainGlobals "tuple" = some none)
    (hF : ∀ ns : List Int, ns.length ≤ 63 → ∃ s, F_law [.d (.scr ns)] [] = .ok (.d (.bl true)) s) :
    ∃ fd : FuncData, (∀ (s : Shared) (v : Value), BindsTo s fd ⟨[v], []⟩ [("script", v)]) ∧ ∀ base : Heap, K.In base → base.Ns mainGlobals mg → FnOk l.prog w K mg base (L2.CX l.prog w) 5 fa fd ["script"] (spLaw K) := by
  have e := hfa.symm.trans (PySem.W.mg_of X G a11)
  cases e
  have T : Txt K mg C_Crowded C_Flat C_GlideError C_NoName C_NoNumber C_NoRow C_NoText C_Past C_Twice := ⟨PySem.W.mg_none_of X G zz_ValueError, PySem.W.mg_none_of X G zz_bool, PySem.W.mg_none_of X G zz_int, PySem.W.mg_none_of X G zz_isinstance, PySem.W.mg_none_of X G zz_len, PySem.W.mg_none_of X G zz_list, PySem.W.mg_none_of X G zz_min, PySem.W.mg_none_of X G zz_range, PySem.W.mg_none_of X G zz_reversed, PySem.W.mg_none_of X G zz_sorted, PySem.W.mg_none_of X G zz_tuple, PySem.W.mg_of X G gC_Crowded, kC_Crowded, bC_Crowded, tC_Crowded, PySem.W.mg_of X G gC_Flat, xC_Flat, kC_Flat, bC_Flat, tC_Flat, PySem.W.mg_of X G gC_GlideError, kC_GlideError, bC_GlideError, tC_GlideError, PySem.W.mg_of X G gC_NoName, kC_NoName, bC_NoName, tC_NoName, PySem.W.mg_of X G gC_NoNumber, kC_NoNumber, bC_NoNumber, tC_NoNumber, PySem.W.mg_of X G gC_NoRow, kC_NoRow, bC_NoRow, tC_NoRow, PySem.W.mg_of X G gC_NoText, kC_NoText, bC_NoText, tC_NoText, PySem.W.mg_of X G gC_Past, kC_Past, bC_Past, tC_Past, PySem.W.mg_of X G gC_Twice, kC_Twice, bC_Twice, tC_Twice, PySem.W.exm_ref bC_GlideError hd_GlideError tC_GlideError sg_Flat, ⟨vg_Flat, vk_Flat, bC_Flat, hd_Flat, va_Flat, oN, oT, vm_Flat⟩, kit_ve sv_Flat, kit_sub su_Flat_Crowded hd_Crowded tC_Crowded ss_Crowded, kit_sub su_Flat_Flat hd_Flat tC_Flat ss_Flat, kit_sub su_Flat_NoName hd_NoName tC_NoName ss_NoName, kit_sub su_Flat_NoNumber hd_NoNumber tC_NoNumber ss_NoNumber, kit_sub su_Flat_NoRow hd_NoRow tC_NoRow ss_NoRow, kit_sub su_Flat_NoText hd_NoText tC_NoText ss_NoText, kit_sub su_Flat_Past hd_Past tC_Past ss_Past, kit_sub su_Flat_Twice hd_Twice tC_Twice ss_Twice⟩
  refine ⟨PySem.W.fnOf "law" "law" (defArgs s_law) (defBody s_law) (defScope s_law) .none kV11 dc11 pm11 an11 cd11 ct11, fun s v => .of_eq rfl, fun base _ _ => ?_⟩
  have h_bend : FnD l.prog w K mg base 1 "bend" ["one", "two", "three"] F_bend := fnd_mk (PySem.W.mg_of X G a0) k0 ((fun_mk (st := s_bend) l0 c0 k0).binds (ps := ["one", "two", "three"]) fun _ _ _ _ _ _ us hl => match us, hl with | [_, _, _], _ => rfl) (ok_bend (fun_mk (st := s_bend) l0 c0 k0) T)
  have h_chain : FnD l.prog w K mg base 2 "chain" ["points"] F_chain := fnd_mk (PySem.W.mg_of X G a1) k1 ((fun_mk (st := s_chain) l1 c1 k1).binds (ps := ["points"]) fun _ _ _ _ _ _ us hl => match us, hl with | [_], _ => rfl) (ok_chain (fun_mk (st := s_chain) l1 c1 k1) T h_bend)
  have h_hull : FnXF l.prog w K mg base 3 "hull" ["points"] F_hullX := fnxf_mk (PySem.W.mg_of X G a2) k2 ((fun_mk (st := s_hull) l2 c2 k2).binds (ps := ["points"]) fun _ _ _ _ _ _ us hl => match us, hl with | [_], _ => rfl) (ok_hull (fun_mk (st := s_hull) l2 c2 k2) T h_chain)
  have h__law_cell : FnD l.prog w K mg base 1 "_law_cell" ["script", "k"] F__law_cell := fnd_mk (PySem.W.mg_of X G a3) k3 ((fun_mk (st := s__law_cell) l3 c3 k3).binds (ps := ["script", "k"]) fun _ _ _ _ _ _ us hl => match us, hl with | [_, _], _ => rfl) (ok__law_cell (fun_mk (st := s__law_cell) l3 c3 k3) T)
  have h__law_whole : FnD l.prog w K mg base 1 "_law_whole" ["found"] F__law_whole := fnd_mk (PySem.W.mg_of X G a4) k4 ((fun_mk (st := s__law_whole) l4 c4 k4).binds (ps := ["found"]) fun _ _ _ _ _ _ us hl => match us, hl with | [_], _ => rfl) (ok__law_whole (fun_mk (st := s__law_whole) l4 c4 k4) T)
  have h__law_turn : FnD l.prog w K mg base 1 "_law_turn" ["one", "two", "three"] F__law_turn := fnd_mk (PySem.W.mg_of X G a5) k5 ((fun_mk (st := s__law_turn) l5 c5 k5).binds (ps := ["one", "two", "three"]) fun _ _ _ _ _ _ us hl => match us, hl with | [_, _, _], _ => rfl) (ok__law_turn (fun_mk (st := s__law_turn) l5 c5 k5) T)
  have h__law_many_points : FnD l.prog w K mg base 2 "_law_many_points" ["script"] F__law_many_points := fnd_mk (PySem.W.mg_of X G a6) k6 ((fun_mk (st := s__law_many_points) l6 c6 k6).binds (ps := ["script"]) fun _ _ _ _ _ _ us hl => match us, hl with | [_], _ => rfl) (ok__law_many_points (fun_mk (st := s__law_many_points) l6 c6 k6) T h__law_cell)
  have h__law_on_a_line : FnD l.prog w K mg base 2 "_law_on_a_line" ["points"] F__law_on_a_line := fnd_mk (PySem.W.mg_of X G a7) k7 ((fun_mk (st := s__law_on_a_line) l7 c7 k7).binds (ps := ["points"]) fun _ _ _ _ _ _ us hl => match us, hl with | [_], _ => rfl) (ok__law_on_a_line (fun_mk (st := s__law_on_a_line) l7 c7 k7) T h__law_turn)
  have h__law_refused : FnX l.prog w K mg base 4 "_law_refused" ["points"] F__law_refused_v3 := fnx_mk (PySem.W.mg_of X G a8) k8 ((fun_mk (st := s__law_refused) l8 c8 k8).binds (ps := ["points"]) fun _ _ _ _ _ _ us hl => match us, hl with | [_], _ => rfl) (ok__law_refused (fun_mk (st := s__law_refused) l8 c8 k8) T h_hull)
  have h__law_are_points : FnD l.prog w K mg base 2 "_law_are_points" ["told", "points"] F__law_are_points := fnd_mk (PySem.W.mg_of X G a9) k9 ((fun_mk (st := s__law_are_points) l9 c9 k9).binds (ps := ["told", "points"]) fun _ _ _ _ _ _ us hl => match us, hl with | [_, _], _ => rfl) (ok__law_are_points (fun_mk (st := s__law_are_points) l9 c9 k9) T h__law_whole)
  have h__law_goes_round : FnD l.prog w K mg base 2 "_law_goes_round" ["told", "points"] F__law_goes_round := fnd_mk (PySem.W.mg_of X G a10) k10 ((fun_mk (st := s__law_goes_round) l10 c10 k10).binds (ps := ["told", "points"]) fun _ _ _ _ _ _ us hl => match us, hl with | [_, _], _ => rfl) (ok__law_goes_round (fun_mk (st := s__law_goes_round) l10 c10 k10) T h__law_turn)
  exact law_ofX (ok_law (fun_mk (st := s_law) l11 c11 k11) T h__law_many_points h__law_on_a_line h_hull h__law_goes_round h__law_refused h__law_are_points) hF
end Law
namespace Law
open PySem PySem.Spec PyProof.Rows L2 GD Hl
local macro_rules | `(tactic| walk_at "bd") => `(tactic| first
  | with_reducible assumption
  | with_reducible exact Bd.litO _
  | ((with_reducible refine' Bd.mul ?h ?g); (case h => walk_at "bd"); (case g => walk_at "bd"))
  | ((with_reducible refine' Bd.add ?h ?g); (case h => walk_at "bd"); (case g => walk_at "bd"))
  | ((with_reducible refine' Bd.sub ?h ?g); (case h => walk_at "bd"); (case g => walk_at "bd"))
  | ((with_reducible refine' Bd.neg ?h); (case h => walk_at "bd"))
  | ((with_reducible refine' Bd.emod ?h); (case h => walk_at "pos"))
  | ((with_reducible refine' Bd.ediv ?h); (case h => walk_at "bd"))
  | ((with_reducible refine' bd_fT ?h); (case h => walk_at "bd"))
  | ((with_reducible refine' bd_fB ?h); (case h => walk_at "bd"))
  | ((with_reducible refine' bd_sX ?h); (case h => walk_at "bd"))
  | ((with_reducible refine' bd_sY ?h); (case h => walk_at "bd"))
  | ((with_reducible refine' bd_sW ?h); (case h => walk_at "bd"))
  | ((with_reducible refine' bd_abs ?h); (case h => walk_at "bd"))
  | ((with_reducible refine' BdP.a ?h); (case h => walk_at "bdq"))
  | ((with_reducible refine' BdP.b ?h); (case h => walk_at "bdq"))
  | with_reducible exact bd_ite1
  | ((with_reducible refine' bd_ite ?h ?g); (case h => walk_at "bd"); (case g => walk_at "bd")))
local macro_rules | `(tactic| walk_at "pos") => `(tactic| first
  | with_reducible assumption
  | decide
  | omega)
local macro_rules | `(tactic| walk_at "bdq") => `(tactic| first
  | with_reducible assumption
  | ((with_reducible refine' bd_cy ?h ?g _); (case h => with_reducible assumption); (case g => first | with_reducible assumption | omega))
  | ((with_reducible refine' bd_mem ?h ?g); (case g => with_reducible assumption); (case h => with_reducible assumption))
  | ((with_reducible refine' bd_get ?h); (case h => with_reducible assumption)))
local macro_rules | `(tactic| walk_at "bdp") => `(tactic| first
  | walk_at "bdq"
  | ((with_reducible refine' BdP.mk ?h ?g); (case h => walk_at "bd"); (case g => walk_at "bd")))
local macro_rules | `(tactic| walk_at "num") => `(tactic| first
  | with_reducible assumption
  | omega
  | decide +kernel
  | (simp only [Nat.reduceLog2]; omega))
local macro_rules | `(tactic| walk_at "dis") => `(tactic| first
  | with_reducible assumption
  | ((with_reducible refine' mok ?h ?g ?l); (case h => walk_at "bd"); (case g => walk_at "bd"); (case l => walk_at "num"))
  | ((with_reducible refine' Bd.mono ?h ?l); (case h => walk_at "bd"); (case l => walk_at "num"))
  | ((with_reducible refine' BdP.mono ?h ?l); (case h => walk_at "bdp"); (case l => walk_at "num"))
  | ((with_reducible show divOk _); first | with_reducible assumption | decide +kernel | (refine' dok ?p ?h ?l; (case p => first | with_reducible assumption | omega); (case h => walk_at "bd"); (case l => walk_at "num")))
  | omega)
local macro_rules | `(tactic| walk_at "op") => `(tactic| first
  | with_reducible exact dAdd_int _ _
  | with_reducible exact dSub_int _ _
  | ((with_reducible refine dMul_int ?_); walk_at "dis")
  | with_reducible exact dAt_pp0 _ _
  | with_reducible exact dAt_pp1 _ _
  | with_reducible exact dAt_p0 _
  | with_reducible exact dAt_p1 _
  | with_reducible exact dAt_t0
  | with_reducible exact dAt_t1
  | with_reducible exact dAt_t2
  | with_reducible exact dAt_q0 _ _ _
  | with_reducible exact dAt_q1 _ _ _
  | with_reducible exact dAt_q2 _ _ _
  | with_reducible exact dAt_f0 _ _
  | with_reducible exact dAt_f1 _ _
  | with_reducible exact dLt_int _ _
  | with_reducible exact dLe_int _ _
  | with_reducible exact dGt_int _ _
  | with_reducible exact dGe_int _ _
  | with_reducible exact dEq_int _ _
  | with_reducible exact dNe_int _ _
  | ((with_reducible refine dMod_int ?_); walk_at "dis")
  | ((with_reducible refine dDiv_int ?_); walk_at "dis")
  | with_reducible exact dNeg_int _
  | with_reducible exact dIs_non _
  | with_reducible exact dIsNot_non _
  | with_reducible exact dAbs_int _
  | with_reducible exact dMax2_int _ _
  | with_reducible exact dMin2_int _ _
  | with_reducible exact dInt_bl _
  | with_reducible exact dLen_pts _
  | with_reducible exact dEq_pt _ _
  | with_reducible exact dNe_pt _ _
  | with_reducible exact dEq_pts _ _
  | with_reducible exact dNe_pts _ _
  | with_reducible exact dNe_bl _ _
  | with_reducible exact dEq_bl _ _
  | with_reducible exact dEq_D3 _ _ _ _ _ _
  | with_reducible exact dNe_D3 _ _ _ _ _ _
  | with_reducible exact dEq_np _
  | with_reducible exact dNe_np _
  | ((with_reducible refine at_last ?_); walk_at "dis")
  | with_reducible exact dAt_l0
  | with_reducible exact dAt_l1
  | with_reducible exact dAt_l2
  | with_reducible exact dAt_l3
  | with_reducible exact dAt_l4
  | with_reducible exact dAt_l5
  | with_reducible exact dAt_l6
  | with_reducible exact dAt_l7
  | ((with_reducible refine' dNe_self ?h ?l); (case h => walk_at "shp"); (case l => decide))
  | ((with_reducible refine' dEq_self ?h ?l); (case h => walk_at "shp"); (case l => decide))
  | with_reducible assumption
  | exact isi_int _ _ _ _ rfl kb_tuple_tuple
  | exact isi_int _ _ _ _ rfl kb_list_list
  | exact isi_int _ _ _ _ rfl kb_int_int
  | exact isi_int _ _ _ _ rfl kb_bool_bool
  | exact isi_int _ _ _ _ rfl kb_int_bool
  | exact isi_int _ _ _ _ rfl kb_list_tuple
  | exact isi_int _ _ _ _ rfl kb_tuple_list
  | with_reducible rfl)
local macro_rules | `(tactic| walk_at "shp") => `(tactic| first
  | with_reducible exact shp_int _
  | with_reducible exact shp_bl _
  | with_reducible exact shp_non
  | with_reducible exact shp_pt _
  | with_reducible exact shp_pts _
  | with_reducible exact shp_D2 _ _
  | with_reducible exact shp_fr _ _
  | with_reducible exact shp_D3 _ _ _
  | with_reducible exact shp_sp _ _ _
  | with_reducible exact shp_nilL
  | with_reducible exact shp_nilT
  | ((with_reducible refine' shp_consL ?h ?g); (case h => walk_at "shp"); (case g => walk_at "shp"))
  | ((with_reducible refine' shp_consT ?h ?g); (case h => walk_at "shp"); (case g => walk_at "shp"))
  | with_reducible assumption)
local macro_rules | `(tactic| walk_at "fn") => `(tactic| first
  | with_reducible assumption
  | with_reducible exact whole_int _
  | with_reducible exact divisor_eq _ _
  | with_reducible exact common_eq _ _)
local macro_rules | `(tactic| walk_at "ev") => `(tactic| first
  | with_reducible exact ev_c _
  | ((with_reducible refine' ev_var ?h1); (case h1 => exact rfl))
  | ((with_reducible refine' ev_e2 ?h1 ?h2 ?h3); (case h1 => walk_at "ev"); (case h2 => walk_at "ev"); (case h3 => walk_at "op"))
  | with_reducible exact ev_nil
  | ((with_reducible refine' ev_cons ?h1 ?h2); (case h1 => walk_at "ev"); (case h2 => walk_at "ev"))
  | ((with_reducible refine' ev_F ?h1 ?h2); (case h1 => walk_at "ev"); (case h2 => walk_at "fn"))
  | ((with_reducible refine' ev_mB ?h1); (case h1 => walk_at "ev"))
  | ((with_reducible refine' ev_B ?h1 ?h2); (case h1 => walk_at "ev"); (case h2 => walk_at "op"))
  | ((with_reducible refine' ev_tup2 ?h1 ?h2); (case h1 => walk_at "ev"); (case h2 => walk_at "ev"))
  | ((with_reducible refine' ev_tup3 ?h1 ?h2 ?h3); (case h1 => walk_at "ev"); (case h2 => walk_at "ev"); (case h3 => walk_at "ev"))
  | ((with_reducible refine' ev_tup ?h1 ?h2); (case h1 => walk_at "ev"); (case h2 => walk_at "len"))
  | ((with_reducible refine' ev_L ?h1); (case h1 => walk_at "ev"))
  | ((with_reducible refine' ev_lst ?h1 ?h2); (case h1 => walk_at "ev"); (case h2 => walk_at "len"))
  | ((with_reducible refine' ev_not ?h1); (case h1 => walk_at "ev"))
  | ((with_reducible refine' ev_and0 ?h1); (case h1 => walk_at "ev"))
  | ((with_reducible refine' ev_and ?h1 ?h2); (case h1 => walk_at "ev"); (case h2 => (intro hq; (try simp only [decide_eq_true_eq, decide_eq_false_iff_not, Bool.not_eq_true', Bool.not_eq_false'] at hq); walk_at "ev")))
  | ((with_reducible refine' ev_or1 ?h1); (case h1 => walk_at "ev"))
  | ((with_reducible refine' ev_or ?h1 ?h2); (case h1 => walk_at "ev"); (case h2 => (intro hq; (try simp only [decide_eq_true_eq, decide_eq_false_iff_not, Bool.not_eq_true', Bool.not_eq_false'] at hq); walk_at "ev")))
  | ((with_reducible refine' ev_eNot ?h1); (case h1 => walk_at "ev"))
  | ((with_reducible refine' ev_eAnd0 ?h1); (case h1 => walk_at "ev"))
  | ((with_reducible refine' ev_eAnd ?h1 ?h2); (case h1 => walk_at "ev"); (case h2 => (intro hq; (try simp only [decide_eq_true_eq, decide_eq_false_iff_not, Bool.not_eq_true', Bool.not_eq_false'] at hq); walk_at "ev")))
  | ((with_reducible refine' ev_eOr1 ?h1); (case h1 => walk_at "ev"))
  | ((with_reducible refine' ev_eOr ?h1 ?h2); (case h1 => walk_at "ev"); (case h2 => (intro hq; (try simp only [decide_eq_true_eq, decide_eq_false_iff_not, Bool.not_eq_true', Bool.not_eq_false'] at hq); walk_at "ev")))
  | ((with_reducible refine' ev_e1 ?h1 ?h2); (case h1 => walk_at "ev"); (case h2 => walk_at "op"))
  | ((with_reducible refine' ev_copy ?h1 ?h2); (case h1 => walk_at "ev"); (case h2 => exact rfl))
  | ((with_reducible refine' ev_ch ?h1 ?h2 ?h3 ?h4 ?h5); (case h1 => walk_at "ev"); (case h2 => walk_at "ev"); (case h3 => walk_at "op"); (case h4 => (intro hq; (try simp only [decide_eq_true_eq, decide_eq_false_iff_not, Bool.not_eq_true', Bool.not_eq_false'] at hq); walk_at "ev")); (case h5 => (intro _; walk_at "op")))
  | ((with_reducible refine' ev_lc ?h1 ?h2 ?h3 ?h4); (case h1 => walk_at "ev"); (case h2 => walk_at "its"); (case h3 => walk_at "len"); (case h4 => (intro _ _; exact ⟨_, rfl, by walk_at "ev"⟩)))
  | ((with_reducible refine' ev_lcR ?h1 ?h2 ?h3 ?h4); (case h1 => walk_at "ev"); (case h2 => walk_at "rng"); (case h3 => walk_at "len"); (case h4 => (intro _ _; exact ⟨_, rfl, by walk_at "ev"⟩)))
  | ((with_reducible refine' ev_cat ?h1 ?h2 ?h3); (case h1 => walk_at "ev"); (case h2 => walk_at "ev"); (case h3 => walk_at "len"))
  | ((with_reducible refine' ev_ownLen ?h1); (case h1 => exact rfl))
  | ((with_reducible refine' ev_ownAt ?h1 ?h2 ?h3); (case h1 => exact rfl); (case h2 => walk_at "ev"); (case h3 => walk_at "op"))
  | with_reducible assumption)
local macro_rules | `(tactic| walk_at "len") => `(tactic| first
  | ((simp only [List.length_map, List.length_cons, List.length_nil, List.length_append, List.length_range]) <;> walk_at "num")
  | walk_at "num")
local macro_rules | `(tactic| walk_at "its") => `(tactic| first
  | with_reducible exact its_map
  | with_reducible exact its_map2
  | exact rfl)
local macro_rules | `(tactic| walk_at "rng") => `(tactic| first
  | ((with_reducible refine rng1 ?_ ?_) <;> walk_at "num")
  | ((with_reducible refine rng2 ?_ ?_ ?_ ?_) <;> walk_at "num"))
local macro_rules | `(tactic| walk_at "es") => `(tactic| simp (config := {failIfUnchanged := false}) only [List.set_cons_zero, List.set_cons_succ])
local macro_rules | `(tactic| walk_at "start") => `(tactic| (simp only [List.map_cons, List.map_nil, List.cons_append, List.nil_append, List.length_cons, List.length_nil, Nat.reduceAdd, Nat.reduceSub, List.replicate_succ, List.replicate_zero]))
local macro_rules | `(tactic| walk_at "st1") => `(tactic| first
  | ((with_reducible refine' wo_seq ?k))
  | ((with_reducible refine' wo_ift ?h ?e ?k); (case h => walk_at "ev"); (case e => simp only [beq_self_eq_true, Bool.true_beq, Bool.false_beq, decide_eq_true_eq, decide_eq_false_iff_not, Bool.not_eq_true', Bool.not_eq_false', Bool.or_eq_true, Bool.and_eq_true, Bool.or_eq_false_iff, Bool.and_eq_false_imp, Bool.not_true, Bool.not_false, Bool.false_or, Bool.or_false, Bool.true_or, Bool.or_true, Bool.true_and, Bool.and_true, Bool.false_and, Bool.and_false, Bool.true_eq_false, Bool.false_eq_true, decide_true, decide_false, reduceCtorEq, D.isNone, Int.not_lt, Int.not_le, ne_eq, Decidable.not_not, not_true_eq_false, not_false_eq_true, false_implies, true_implies, implies_true, and_true, true_and, and_false, false_and, or_true, true_or, or_false, false_or, reduceIte, eq_self]))
  | ((with_reducible refine' wo_iff ?h ?e ?k); (case h => walk_at "ev"); (case e => simp only [beq_self_eq_true, Bool.true_beq, Bool.false_beq, decide_eq_true_eq, decide_eq_false_iff_not, Bool.not_eq_true', Bool.not_eq_false', Bool.or_eq_true, Bool.and_eq_true, Bool.or_eq_false_iff, Bool.and_eq_false_imp, Bool.not_true, Bool.not_false, Bool.false_or, Bool.or_false, Bool.true_or, Bool.or_true, Bool.true_and, Bool.and_true, Bool.false_and, Bool.and_false, Bool.true_eq_false, Bool.false_eq_true, decide_true, decide_false, reduceCtorEq, D.isNone, Int.not_lt, Int.not_le, ne_eq, Decidable.not_not, not_true_eq_false, not_false_eq_true, false_implies, true_implies, implies_true, and_true, true_and, and_false, false_and, or_true, true_or, or_false, false_or, reduceIte, eq_self]))
  | (((with_reducible refine' wo_asg ?h1 ?k); (case h1 => walk_at "ev")); walk_at "es")
  | ((with_reducible refine' wo_ret ?h1 ?k); (case h1 => walk_at "ev"))
  | (((with_reducible refine' wo_tgt ?h1 ?h2 ?k); (case h1 => walk_at "ev"); (case h2 => exact rfl)); walk_at "es")
  | ((with_reducible refine' wo_nil ?k))
  | ((with_reducible refine' wo_raise ?k))
  | (((with_reducible refine' wo_own ?h1 ?k); (case h1 => walk_at "ev")); walk_at "es")
  | (((with_reducible refine' wo_asgL ?h1 ?k); (case h1 => walk_at "ev")); walk_at "es")
  | (((with_reducible refine' wo_app ?h1 ?h2 ?h3 ?k); (case h1 => exact rfl); (case h2 => walk_at "ev"); (case h3 => walk_at "len")); walk_at "es")
  | (((with_reducible refine' wo_par ?h1 ?h2 ?k); (case h1 => walk_at "ev"); (case h2 => walk_at "ev")); walk_at "es")
  | ((with_reducible refine wo_frz ?_); simp only [frz, List.getElem?_cons_zero, List.getElem?_cons_succ, List.set_cons_zero, List.set_cons_succ]))
local macro_rules | `(tactic| walk_at "st") => `(tactic| (walk_at "st1"; try dsimp only))
local macro_rules | `(tactic| walk_at "hs") => `(tactic| ((try simp only [beq_self_eq_true, Bool.true_beq, Bool.false_beq, decide_eq_true_eq, decide_eq_false_iff_not, Bool.not_eq_true', Bool.not_eq_false', Bool.or_eq_true, Bool.and_eq_true, Bool.or_eq_false_iff, Bool.and_eq_false_imp, Bool.not_true, Bool.not_false, Bool.false_or, Bool.or_false, Bool.true_or, Bool.or_true, Bool.true_and, Bool.and_true, Bool.false_and, Bool.and_false, Bool.true_eq_false, Bool.false_eq_true, decide_true, decide_false, reduceCtorEq, D.isNone, Int.not_lt, Int.not_le, ne_eq, Decidable.not_not, not_true_eq_false, not_false_eq_true, false_implies, true_implies, implies_true, and_true, true_and, and_false, false_and, or_true, true_or, or_false, false_or, reduceIte, eq_self]); exact rfl))
local macro_rules | `(tactic| walk_at "fls") => `(tactic| first | (with_reducible exact False.elim) | (with_reducible refine fun (_ : True) => ?_) | skip)
local macro_rules | `(tactic| walk_at "if") => `(tactic| ((with_reducible refine' wo_ifx ?h ?e1 ?e2 ?k1 ?k2); (case h => walk_at "ev"); (case e1 => walk_at "hs"); (case e2 => walk_at "hs"); (case' k1 => walk_at "fls"); (case' k2 => walk_at "fls")))
local macro_rules | `(tactic| walk_at "tt") => `(tactic| (try simp only [beq_self_eq_true, Bool.true_beq, Bool.false_beq, decide_eq_true_eq, decide_eq_false_iff_not, Bool.not_eq_true', Bool.not_eq_false', Bool.or_eq_true, Bool.and_eq_true, Bool.or_eq_false_iff, Bool.and_eq_false_imp, Bool.not_true, Bool.not_false, Bool.false_or, Bool.or_false, Bool.true_or, Bool.or_true, Bool.true_and, Bool.and_true, Bool.false_and, Bool.and_false, Bool.true_eq_false, Bool.false_eq_true, decide_true, decide_false, reduceCtorEq, D.isNone, Int.not_lt, Int.not_le, ne_eq, Decidable.not_not, not_true_eq_false, not_false_eq_true, false_implies, true_implies, implies_true, and_true, true_and, and_false, false_and, or_true, true_or, or_false, false_or, reduceIte, eq_self]))
local macro_rules | `(tactic| walk_at "hc") => `(tactic| simp only [beq_self_eq_true, Bool.true_beq, Bool.false_beq, decide_eq_true_eq, decide_eq_false_iff_not, Bool.not_eq_true', Bool.not_eq_false', Bool.or_eq_true, Bool.and_eq_true, Bool.or_eq_false_iff, Bool.and_eq_false_imp, Bool.not_true, Bool.not_false, Bool.false_or, Bool.or_false, Bool.true_or, Bool.or_true, Bool.true_and, Bool.and_true, Bool.false_and, Bool.and_false, Bool.true_eq_false, Bool.false_eq_true, decide_true, decide_false, reduceCtorEq, D.isNone, Int.not_lt, Int.not_le, ne_eq, Decidable.not_not, not_true_eq_false, not_false_eq_true, false_implies, true_implies, implies_true, and_true, true_and, and_false, false_and, or_true, true_or, or_false, false_or, reduceIte, eq_self] at *)
local macro_rules | `(tactic| walk_at "sts") => `(tactic| (walk_at "st"; try (walk_at "st"; try (walk_at "st"; try (walk_at "st"; try (walk_at "st"; try (walk_at "st"; try (walk_at "st"; try (walk_at "st"; try (walk_at "st"; try (walk_at "st"; try (walk_at "st"; try (walk_at "st"; try (walk_at "st"; try (walk_at "st"; try (walk_at "st"; try (walk_at "st"; try (walk_at "st"; try (walk_at "st"; try (walk_at "st"; try (walk_at "st"; try (walk_at "st"; try (walk_at "st"; try (walk_at "st"; try (walk_at "st"; try (walk_at "st"; try (walk_at "st"; try (walk_at "st"; try (walk_at "st"; try (walk_at "st"; try (walk_at "st"; try (walk_at "st"; try (walk_at "st"; try (walk_at "st"; try (walk_at "st"; try (walk_at "st"; try (walk_at "st"; try (walk_at "st"; try (walk_at "st"; try (walk_at "st"; try (walk_at "st"; try (walk_at "st"))))))))))))))))))))))))))))))))))))))))))
local macro_rules | `(tactic| walk_at "op") => `(tactic| first
  | with_reducible assumption
  | with_reducible exact dIs_nn
  | with_reducible exact dIs_pt _
  | with_reducible exact dIs_D3 _ _ _
  | with_reducible exact dIsN_nn
  | with_reducible exact dIsN_pt _
  | with_reducible exact dIsN_D3 _ _ _
  | ((with_reducible refine at_czm ?_); first | with_reducible assumption | omega)
  | ((with_reducible refine at_czm1 ?_); first | with_reducible assumption | omega)
  | ((with_reducible refine at_sides ?_); first | with_reducible assumption | omega)
  | ((with_reducible refine at_normals ?_); first | with_reducible assumption | omega)
  | ((with_reducible refine at_cz ?_ ?_) <;> first | with_reducible assumption | omega)
  | with_reducible exact dLen_scr _
  | with_reducible exact dLen_tup _
  | walk_at "opx")
local macro_rules | `(tactic| walk_at "opx") => `(tactic| first
  | with_reducible exact isi_bb _
  | with_reducible exact dIs_i _
  | with_reducible exact isi_u _
  | with_reducible exact dLen_u _
  | with_reducible exact dEqN_D3t _ _
  | with_reducible exact dEqE_D3t _ _
  | ((with_reducible refine at_lstI ?_ ?_) <;> first | with_reducible assumption | omega)
  | with_reducible exact dIs_D3t _
  | with_reducible exact dIsN_D3t _
  | with_reducible exact dAt_u0 _
  | with_reducible exact dAt_u1 _
  | with_reducible exact dAt_u2 _
  | with_reducible exact dIs_nn
  | with_reducible exact dIs_pt _
  | with_reducible exact dIs_D3 _ _ _
  | with_reducible exact dIs_lst _
  | with_reducible exact dIsN_nn
  | with_reducible exact dIsN_pt _
  | with_reducible exact dIsN_D3 _ _ _
  | with_reducible exact dLen_t2 _
  | with_reducible exact dLen_t3 _ _ _
  | with_reducible assumption)
local macro_rules | `(tactic| walk_at "bdq") => `(tactic| first
  | ((with_reducible refine' bd_cz ?h ?g _); (case h => first | with_reducible assumption | exact Body.bd (by with_reducible assumption)); (case g => first | with_reducible assumption | exact Body.pos (by with_reducible assumption) | omega)))
local macro_rules | `(tactic| walk_at "shp") => `(tactic| first
  | ((with_reducible refine' shp_mapL ?h _); (case h => (intro _; walk_at "shp"))))
local macro_rules | `(tactic| walk_at "rng") => `(tactic| first
  | ((with_reducible refine rngN ?_); walk_at "num"))
local macro_rules | `(tactic| walk_at "st1") => `(tactic| first
  | (((with_reducible refine' wo_ins ?h1 ?h2 ?h3 ?h4 ?h5 ?h6 ?k); (case h1 => exact rfl); (case h2 => walk_at "ev"); (case h3 => walk_at "ev"); (case h4 => walk_at "num"); (case h5 => walk_at "num"); (case h6 => walk_at "len")); walk_at "es"))
local macro_rules | `(tactic| walk_at "ev") => `(tactic| first
  | with_reducible exact ev_home _ _ _
  | ((with_reducible refine' ev_cutS ?h1 ?h2 ?h3); (case h1 => walk_at "ev"); (case h2 => walk_at "ev"); (case h3 => walk_at "ev"))
  | ((with_reducible refine' ev_ownLenM ?h1); (case h1 => exact rfl))
  | ((with_reducible refine' ev_revm ?h1); (case h1 => walk_at "ev"))
  | ((with_reducible refine' ev_rev ?h1); (case h1 => walk_at "ev"))
  | ((with_reducible refine' ev_lc6 ?h1 ?h2 ?h3 ?h4 ?h5 ?h6 ?h7); (case h1 => walk_at "ev"); (case h2 => exact ⟨_, rfl, by walk_at "ev"⟩); (case h3 => exact ⟨_, rfl, by walk_at "ev"⟩); (case h4 => exact ⟨_, rfl, by walk_at "ev"⟩); (case h5 => exact ⟨_, rfl, by walk_at "ev"⟩); (case h6 => exact ⟨_, rfl, by walk_at "ev"⟩); (case h7 => exact ⟨_, rfl, by walk_at "ev"⟩))
  | ((with_reducible refine' ev_lc8 ?h1 ?h2 ?h3 ?h4 ?h5 ?h6 ?h7 ?h8 ?h9); (case h1 => walk_at "ev"); (case h2 => exact ⟨_, rfl, by walk_at "ev"⟩); (case h3 => exact ⟨_, rfl, by walk_at "ev"⟩); (case h4 => exact ⟨_, rfl, by walk_at "ev"⟩); (case h5 => exact ⟨_, rfl, by walk_at "ev"⟩); (case h6 => exact ⟨_, rfl, by walk_at "ev"⟩); (case h7 => exact ⟨_, rfl, by walk_at "ev"⟩); (case h8 => exact ⟨_, rfl, by walk_at "ev"⟩); (case h9 => exact ⟨_, rfl, by walk_at "ev"⟩))
  | ((with_reducible refine' ev_lc3 ?h1 ?h2 ?h3 ?h4); (case h1 => walk_at "ev"); (case h2 => exact ⟨_, rfl, by walk_at "ev"⟩); (case h3 => exact ⟨_, rfl, by walk_at "ev"⟩); (case h4 => exact ⟨_, rfl, by walk_at "ev"⟩))
  | ((with_reducible refine' ev_lcN ?h1 ?h2 ?h3 ?h4); (case h1 => walk_at "ev"); (case h2 => walk_at "rng"); (case h3 => walk_at "len"); (case h4 => (intro _ _; exact ⟨_, rfl, by walk_at "ev"⟩))))
local macro_rules | `(tactic| walk_at "ma") => `(tactic| first
  | with_reducible assumption
  | with_reducible exact FS.meth (by assumption) (by decide))
local macro_rules | `(tactic| walk_at "fa") => `(tactic| first
  | with_reducible assumption
  | with_reducible exact FS.now_at (by assumption)
  | with_reducible exact FS.there_at (by assumption))
local macro_rules | `(tactic| walk_at "da") => `(tactic| first
  | with_reducible assumption
  | with_reducible exact FS.dict (by assumption)
  | with_reducible exact dict_at (by assumption)
  | with_reducible exact dict_lk (by assumption))
local macro_rules | `(tactic| walk_at "drw") => `(tactic| first
  | with_reducible assumption
  | with_reducible exact FS.dictw (by assumption)
  | with_reducible exact dictw_at (by assumption))
local macro_rules | `(tactic| walk_at "vp") => `(tactic| first
  | with_reducible assumption
  | exact rfl)
local macro_rules | `(tactic| walk_at "xv") => `(tactic| first
  | ((with_reducible refine' xv_D ?h1); (case h1 => walk_at "ev"))
  | ((with_reducible refine' xv_DT ?h1); (case h1 => walk_at "ev"))
  | ((with_reducible refine' xv_var ?h1); (case h1 => exact rfl))
  | ((with_reducible refine' xv_varR ?h1); (case h1 => exact rfl))
  | with_reducible exact xv_nil
  | ((with_reducible refine' xv_cons ?h1 ?h2); (case h1 => walk_at "xv"); (case h2 => walk_at "xv"))
  | ((with_reducible refine' xv_F ?h1 ?h2 ?h3); (case h1 => walk_at "xv"); (case h2 => exact rfl); (case h3 => walk_at "fn"))
  | ((with_reducible refine' xv_X ?h1 ?h2); (case h1 => walk_at "xv"); (case h2 => with_reducible assumption))
  | ((with_reducible refine' xv_XF ?h1 ?h2); (case h1 => walk_at "xv"); (case h2 => with_reducible assumption))
  | ((with_reducible refine' xv_meth ?h1 ?h2 ?h3 ?h4); (case h1 => walk_at "xv"); (case h2 => walk_at "ma"); (case h3 => walk_at "xv"); (case h4 => with_reducible assumption))
  | ((with_reducible refine' xv_methF ?h1 ?h2 ?h3 ?h4); (case h1 => walk_at "xv"); (case h2 => walk_at "ma"); (case h3 => walk_at "xv"); (case h4 => with_reducible assumption))
  | ((with_reducible refine' xv_fld ?h1 ?h2); (case h1 => walk_at "xv"); (case h2 => walk_at "fa"))
  | ((with_reducible refine' xv_get ?h1 ?h2 ?h3 ?h4 ?h5); (case h1 => walk_at "xv"); (case h2 => walk_at "xv"); (case h3 => walk_at "da"); (case h4 => exact rfl); (case h5 => walk_at "vp"))
  | ((with_reducible refine' xv_inT ?h1 ?h2 ?h3 ?h4); (case h1 => walk_at "xv"); (case h2 => walk_at "xv"); (case h3 => walk_at "da"); (case h4 => exact rfl))
  | ((with_reducible refine' xv_ninT ?h1 ?h2 ?h3 ?h4); (case h1 => walk_at "xv"); (case h2 => walk_at "xv"); (case h3 => walk_at "da"); (case h4 => exact rfl))
  | ((with_reducible refine' xv_O2 ?h1 ?h2 ?h3); (case h1 => walk_at "xv"); (case h2 => walk_at "xv"); (case h3 => walk_at "op"))
  | ((with_reducible refine' xv_O1 ?h1 ?h2); (case h1 => walk_at "xv"); (case h2 => walk_at "op"))
  | ((with_reducible refine' xv_B ?h1); (case h1 => walk_at "xv"))
  | ((with_reducible refine' xv_tup ?h1 ?h2 ?h3); (case h1 => walk_at "xv"); (case h2 => exact rfl); (case h3 => walk_at "len"))
  | ((with_reducible refine' xv_lst ?h1 ?h2 ?h3); (case h1 => walk_at "xv"); (case h2 => exact rfl); (case h3 => walk_at "len"))
  | ((with_reducible refine' xv_new ?h1); (case h1 => walk_at "xv"))
  | ((with_reducible refine' xv_bi ?h1 ?h2 ?h3); (case h1 => walk_at "xv"); (case h2 => exact rfl); (case h3 => walk_at "op"))
  | ((with_reducible refine' xv_bf ?h1 ?h2 ?h3); (case h1 => walk_at "xv"); (case h2 => exact rfl); (case h3 => exact rfl))
  | ((with_reducible refine' xv_len ?h1 ?h2); (case h1 => walk_at "xv"); (case h2 => walk_at "da"))
  | ((with_reducible refine' xv_srt ?h1 ?h2 ?h3 ?h4); (case h1 => walk_at "xv"); (case h2 => walk_at "da"); (case h3 => with_reducible assumption); (case h4 => walk_at "num"))
  | ((with_reducible refine' xv_notT ?h1); (case h1 => walk_at "xv"))
  | ((with_reducible refine' xv_and0 ?h1); (case h1 => walk_at "xv"))
  | ((with_reducible refine' xv_and ?h1 ?h2); (case h1 => walk_at "xv"); (case h2 => (intro hq; (try simp only [decide_eq_true_eq, decide_eq_false_iff_not, Bool.not_eq_true', Bool.not_eq_false'] at hq); walk_at "xv")))
  | ((with_reducible refine' xv_or1 ?h1); (case h1 => walk_at "xv"))
  | ((with_reducible refine' xv_or ?h1 ?h2); (case h1 => walk_at "xv"); (case h2 => (intro hq; (try simp only [decide_eq_true_eq, decide_eq_false_iff_not, Bool.not_eq_true', Bool.not_eq_false'] at hq); walk_at "xv")))
  | with_reducible exact xv_dict0
  | with_reducible assumption)
local macro_rules | `(tactic| walk_at "st1") => `(tactic| first
  | ((with_reducible refine' wz_seq ?k))
  | ((with_reducible refine wz_D ?_))
  | ((with_reducible refine' wz_ift ?h ?e ?k); (case h => walk_at "xv"); (case e => simp only [beq_self_eq_true, Bool.true_beq, Bool.false_beq, decide_eq_true_eq, decide_eq_false_iff_not, Bool.not_eq_true', Bool.not_eq_false', Bool.or_eq_true, Bool.and_eq_true, Bool.or_eq_false_iff, Bool.and_eq_false_imp, Bool.not_true, Bool.not_false, Bool.false_or, Bool.or_false, Bool.true_or, Bool.or_true, Bool.true_and, Bool.and_true, Bool.false_and, Bool.and_false, Bool.true_eq_false, Bool.false_eq_true, decide_true, decide_false, reduceCtorEq, D.isNone, Int.not_lt, Int.not_le, ne_eq, Decidable.not_not, not_true_eq_false, not_false_eq_true, false_implies, true_implies, implies_true, and_true, true_and, and_false, false_and, or_true, true_or, or_false, false_or, reduceIte, eq_self]))
  | ((with_reducible refine' wz_iff ?h ?e ?k); (case h => walk_at "xv"); (case e => simp only [beq_self_eq_true, Bool.true_beq, Bool.false_beq, decide_eq_true_eq, decide_eq_false_iff_not, Bool.not_eq_true', Bool.not_eq_false', Bool.or_eq_true, Bool.and_eq_true, Bool.or_eq_false_iff, Bool.and_eq_false_imp, Bool.not_true, Bool.not_false, Bool.false_or, Bool.or_false, Bool.true_or, Bool.or_true, Bool.true_and, Bool.and_true, Bool.false_and, Bool.and_false, Bool.true_eq_false, Bool.false_eq_true, decide_true, decide_false, reduceCtorEq, D.isNone, Int.not_lt, Int.not_le, ne_eq, Decidable.not_not, not_true_eq_false, not_false_eq_true, false_implies, true_implies, implies_true, and_true, true_and, and_false, false_and, or_true, true_or, or_false, false_or, reduceIte, eq_self]))
  | (((with_reducible refine' wz_asg ?h1 ?k); (case h1 => walk_at "xv")); walk_at "es")
  | ((with_reducible refine' wz_ret ?h1 ?k); (case h1 => walk_at "xv"))
  | ((with_reducible refine' wz_retF ?h1 ?k); (case h1 => walk_at "xv"))
  | (((with_reducible refine' wz_tgt ?h1 ?h2 ?k); (case h1 => walk_at "xv"); (case h2 => exact rfl)); walk_at "es")
  | ((with_reducible refine' wz_nil ?k))
  | ((with_reducible refine' wz_expr ?h1 ?k); (case h1 => walk_at "xv"))
  | (((with_reducible refine' wz_own ?h1 ?k); (case h1 => walk_at "xv")); walk_at "es")
  | (((with_reducible refine' wz_asgL ?h1 ?k); (case h1 => walk_at "xv")); walk_at "es")
  | (((with_reducible refine' wz_app ?h1 ?h2 ?h3 ?k); (case h1 => exact rfl); (case h2 => walk_at "xv"); (case h3 => walk_at "len")); walk_at "es")
  | ((with_reducible refine' wz_put ?h1 ?h2 ?h3 ?h4 ?h5 ?h6 ?k); (case h1 => walk_at "xv"); (case h2 => walk_at "xv"); (case h3 => walk_at "xv"); (case h4 => walk_at "drw"); (case h5 => exact rfl); (case h6 => walk_at "len"))
  | ((with_reducible refine wz_frz ?_); simp only [frz, List.getElem?_cons_zero, List.getElem?_cons_succ, List.set_cons_zero, List.set_cons_succ]))
local macro_rules | `(tactic| walk_at "start") => `(tactic| (simp only [argSl, asSl, List.map_cons, List.map_nil, List.cons_append, List.nil_append, List.length_cons, List.length_nil, Nat.reduceAdd, Nat.reduceSub, List.replicate_succ, List.replicate_zero]))
local macro_rules | `(tactic| walk_at "ifz") => `(tactic| ((with_reducible refine' wz_ifx ?h ?e1 ?e2 ?k1 ?k2); (case h => walk_at "xv"); (case e1 => walk_at "hs"); (case e2 => walk_at "hs"); (case' k1 => walk_at "fls"); (case' k2 => walk_at "fls")))
local macro_rules | `(tactic| walk_at "es") => `(tactic| simp (config := {failIfUnchanged := false}) only [asSl, List.set_cons_zero, List.set_cons_succ])
def sg6 (x : Int) : Int := (if 0 < x then 1 else 0) - (if x < 0 then 1 else 0)
theorem turn6_q {a b c : Pt} {n : Nat} (ha : BdP n a) (hb : BdP n b) (hc : BdP n c) (hn : n ≤ 2000) : F__law_turn [D2p a, D2p b, D2p c] = .ok (.int (sg6 (bnd a b c))) := by
  have m1 : mulOk (b.1 - a.1) (c.2 - b.2) := mok (hb.1.sub ha.1) (hc.2.sub hb.2) (by omega)
  have m2 : mulOk (b.2 - a.2) (c.1 - b.1) := mok (hb.2.sub ha.2) (hc.1.sub hb.1) (by omega)
  have e : bnd a b c = (b.1 - a.1) * (c.2 - b.2) - (b.2 - a.2) * (c.1 - b.1) := by unfold bnd; grind
  have p0 := dAt_p0
  have p1 := dAt_p1
  clear ha hb hc hn
  unfold F__law_turn b__law_turn
  refine fn_ok ?_
  walk_at "start"
  walk_at "sts"
  rw [e]
  unfold sg6
  generalize (b.1 - a.1) * (c.2 - b.2) = L at *
  generalize (b.2 - a.2) * (c.1 - b.1) = R at *
  simp only [decide_eq_true_eq]
  congr 2
  · by_cases h : R < L
    · rw [if_pos h, if_pos (by omega)]
    · rw [if_neg h, if_neg (by omega)]
  · by_cases h : L < R
    · rw [if_pos h, if_pos (by omega)]
    · rw [if_neg h, if_neg (by omega)]
theorem sg6_0 {x : Int} : sg6 x = 0 ↔ x = 0 := by
  unfold sg6
  by_cases h : 0 < x
  · rw [if_pos h, if_neg (by omega)]; omega
  · by_cases g : x < 0
    · rw [if_neg h, if_pos g]; omega
    · rw [if_neg h, if_neg g]; omega
theorem sg6_1 {x : Int} (h : 0 < x) : sg6 x = 1 := by
  unfold sg6
  rw [if_pos h, if_neg (by omega)]; omega
theorem sg6_n {x : Int} (h : 0 ≤ x) : ¬ sg6 x < 0 := by
  unfold sg6
  rw [if_neg (show ¬ x < 0 by omega)]
  split <;> omega
theorem many6_q (ns : List Int) : ∃ ps : List Pt, F__law_many_points [.scr ns] = .ok (.lst (ps.map D2p)) ∧ ps.length ≤ 40 ∧ ∀ q ∈ ps, BdP 120 q := by
  suffices h : ∃ d, F__law_many_points [.scr ns] = .ok d ∧ ∃ ps : List Pt, d = .lst (ps.map D2p) ∧ ps.length ≤ 40 ∧ ∀ q ∈ ps, BdP 120 q by
    obtain ⟨d, h1, ps, rfl, h2⟩ := h
    exact ⟨ps, h1, h2⟩
  obtain ⟨c, c0, c1, ec⟩ := cell_spec ns 0 (by decide) (by decide)
  have bc : Bd 200 c := Bd.of_range c0 (by omega)
  have hl : (cutL ns (some 1) (some 41)).length ≤ 40 := cutL_len2 ns 1 41 (by decide)
  unfold F__law_many_points b__law_many_points
  refine fn_ex ?_
  walk_at "start"
  walk_at "st"
  walk_at "st"
  walk_at "st"
  walk_at "st"
  walk_at "st"
  with_reducible refine' wo_for (h := D.int) (l := cutL ns (some 1) (some 41)) (fun r ρ => ∃ (ps : List Pt) (s3 s4 s5 : Sl), ρ = [.v (.scr ns), .v (.int c), .l (ps.map D2p), s3, s4, s5, .un, .un] ∧ ps.length + r.length ≤ 40 ∧ ∀ q ∈ ps, BdP 110 q) ?h1 ?h2 ?i0 ?step ?fin
  case h1 => exact ev_L (ev_cutS (ev_var rfl) (ev_c _) (ev_c _))
  case h2 => exact its_map
  case i0 => exact ⟨[], _, _, _, rfl, by simpa using hl, by simp⟩
  case step =>
    rintro x r ρ hx ⟨ps, s3, s4, s5, rfl, hlen, hb⟩
    refine ⟨_, rfl, ?_⟩
    walk_at "es"
    rw [List.length_cons] at hlen
    have key : ∀ p : Pt, BdP 110 p → ∀ s4 s5 : Sl, ∃ (ps' : List Pt) (s3 s4' s5' : Sl), [Sl.v (.scr ns), .v (.int c), .l (ps.map D2p ++ [D2p p]), .v (.int x), s4, s5, .un, .un] = [Sl.v (.scr ns), .v (.int c), .l (ps'.map D2p), s3, s4', s5', .un, .un] ∧ ps'.length + r.length ≤ 40 ∧ ∀ q ∈ ps', BdP 110 q := by
      intro p hp s4 s5
      refine ⟨ps ++ [p], _, _, _, by rw [List.map_append]; rfl, by rw [List.length_append]; simp; omega, fun q hq => ?_⟩
      rcases List.mem_append.mp hq with z | z
      · exact hb q z
      · rw [List.mem_singleton.mp z]; exact hp
    have hl2 : (ps.map D2p).length < 16777216 := by rw [List.length_map]; omega
    unfold l1__law_many_points
    walk_at "st"
    walk_at "st"
    generalize hcell : x % 1000000000000000000000000000000000000000000000000000000000000 = cell
    have b0 : 0 ≤ cell := by omega
    have b1 : cell < 1000000000000000000000000000000000000000000000000000000000000 := by omega
    have bcell : Bd 200 cell := Bd.of_range b0 (by omega)
    clear hcell
    walk_at "if"
    case k1 =>
      intro h
      walk_at "st"
      refine key (cell % 7, cell / 7 % 7) ⟨?_, ?_⟩ _ _
      · exact Bd.mono (Bd.of_range (n := 3) (by omega) (by omega)) (by decide)
      · exact Bd.mono (Bd.of_range (n := 3) (by omega) (by omega)) (by decide)
    case k2 =>
      intro h
      walk_at "if"
      case k1 =>
        intro h
        walk_at "st"
        refine key (cell % 100000000000000000000000000000 - 50000000000000000000000000000, cell / 100000000000000000000000000000 % 100000000000000000000000000000 - 50000000000000000000000000000) ⟨?_, ?_⟩ _ _
        · exact Bd.mono ((Bd.of_range (n := 97) (x := cell % 100000000000000000000000000000) (by omega) (by omega)).sub (show Bd 97 50000000000000000000000000000 by decide)) (by decide)
        · exact Bd.mono ((Bd.of_range (n := 97) (x := cell / 100000000000000000000000000000 % 100000000000000000000000000000) (by omega) (by omega)).sub (show Bd 97 50000000000000000000000000000 by decide)) (by decide)
      case k2 =>
        intro h
        walk_at "st"
        walk_at "st"
        generalize hfar : 1 + c / 6 % 100000000000000000000 = far
        have bf : Bd 70 far := Bd.of_range (by omega) (by omega)
        clear hfar
        walk_at "st"
        refine key (cell % 5 * far + 3, cell / 5 % 3 * far - cell % 5) ⟨?_, ?_⟩ _ _
        · exact Bd.mono (((Bd.of_range (n := 3) (x := cell % 5) (by omega) (by omega)).mul bf).add (show Bd 2 3 by decide)) (by decide)
        · exact Bd.mono (((Bd.of_range (n := 2) (x := cell / 5 % 3) (by omega) (by omega)).mul bf).sub (Bd.of_range (n := 3) (x := cell % 5) (by omega) (by omega))) (by decide)
  case fin =>
    rintro ρ ⟨ps, s3, s4, s5, rfl, hlen, hb⟩
    simp only [List.length_nil, Nat.add_zero] at hlen
    walk_at "st"
    refine wo_cut (fun ρ => ∃ (ps : List Pt) (s3 s4 s5 : Sl) (s6 s7 : Sl), ρ = [.v (.scr ns), .v (.int c), .l (ps.map D2p), s3, s4, s5, s6, s7] ∧ ps.length ≤ 40 ∧ ∀ q ∈ ps, BdP 120 q) ?_ ?_
    · walk_at "if"
      case k1 =>
        intro h
        have hl2 : ps.length ≤ 16777216 := by omega
        walk_at "st"
        have hlc : (aLc asL [6, 7] (gTp (gsCons (gNm 6) (gsCons (gNm 7) (gsNil)))) (mYes) (eVar 2) (eTup (aCons (eVar 6) (aCons (e2 dSub (e2 dMul (eC (.int 3)) (eVar 6)) (eC (.int 2))) (aNil))))) [.v (.scr ns), .v (.int c), .v (.lst (ps.map D2p)), s3, s4, s5, .un, .un] = .ok (ps.map fun p => D2p (p.1, 3 * p.1 - 2)) := by
          refine ev_lc (ev_var rfl) rfl hl2 fun p hp => ⟨_, rfl, ?_⟩
          have bp := (hb p hp).1
          walk_at "ev"
        with_reducible refine wo_own hlc ?_
        walk_at "es"
        refine ⟨ps.map fun p => (p.1, 3 * p.1 - 2), _, _, _, _, _, by rw [List.map_map]; rfl, by rw [List.length_map]; exact hlen, fun q hq => ?_⟩
        obtain ⟨p, hp, rfl⟩ := List.mem_map.mp hq
        have bp := (hb p hp).1
        exact ⟨bp.mono (by decide), Bd.mono (((show Bd 2 3 by decide).mul bp).sub (show Bd 2 2 by decide)) (by decide)⟩
      case k2 =>
        intro h
        walk_at "st"
        exact ⟨ps, _, _, _, _, _, rfl, hlen, fun q hq => (hb q hq).mono (by decide)⟩
    · rintro ρ ⟨ps, s3, s4, s5, s6, s7, rfl, hlen, hb⟩
      walk_at "sts"
      exact ⟨ps, rfl, hlen, hb⟩
theorem line6_q {ps : List Pt} (hb : ∀ q ∈ ps, BdP 120 q) : F__law_on_a_line [.lst (ps.map D2p)] = .ok (.bl true) ∧ Col ps ∨ F__law_on_a_line [.lst (ps.map D2p)] = .ok (.bl false) ∧ ¬ Col ps := by
  have at0 : ∀ p ∈ ps, dAt (.lst (ps.map D2p)) (.int 0) = some (D2p (cz ps 0)) := fun p hp => by
    have := List.length_pos_of_mem hp
    exact at_cz (by omega) (by omega)
  have hz : ∀ p ∈ ps, BdP 120 (cz ps 0) := fun p hp => bd_cz hb (List.length_pos_of_mem hp) 0
  have go : ∀ a ∈ ps, ∀ b ∈ ps, F__law_turn [D2p (cz ps 0), D2p a, D2p b] = .ok (.int (sg6 (bnd (cz ps 0) a b))) := fun a ha b hb' => turn6_q (hz a ha) (hb a ha) (hb b hb') (by decide)
  have step : ∀ a ∈ ps, ∀ b ∈ ps, ∀ {N : En → Prop} {T : D → Prop} {X : Str → Prop}, (sg6 (bnd (cz ps 0) a b) = 0 → N [.v (.lst (ps.map D2p)), .v (D2p a), .v (D2p b)]) → (sg6 (bnd (cz ps 0) a b) ≠ 0 → T (.bl false)) → WO (l1__law_on_a_line [.v (.lst (ps.map D2p)), .v (D2p a), .v (D2p b)]) N T X := by
    intro a ha b hb' N T X k1 k2
    have e0 := at0 a ha
    have e1 := go a ha b hb'
    unfold l1__law_on_a_line
    walk_at "if"
    case k1 =>
      intro h
      walk_at "st"
      exact k2 h
    case k2 =>
      intro h
      walk_at "st"
      exact k1 h
  have colE : (∀ a ∈ ps, ∀ b ∈ ps, sg6 (bnd (cz ps 0) a b) = 0) → Col ps := by
    intro h a ha b hb' c hc
    have h1 := sg6_0.mp (h a ha b hb')
    have h2 := sg6_0.mp (h b hb' c hc)
    have h3 := sg6_0.mp (h c hc a ha)
    have : bnd a b c = bnd (cz ps 0) a b + bnd (cz ps 0) b c + bnd (cz ps 0) c a := by unfold bnd; grind
    omega
  by_cases hC : ∀ a ∈ ps, ∀ b ∈ ps, sg6 (bnd (cz ps 0) a b) = 0
  · refine .inl ⟨?_, colE hC⟩
    unfold F__law_on_a_line b__law_on_a_line
    refine fn_ok ?_
    walk_at "start"
    walk_at "st"
    with_reducible refine' wo_for (h := D2p) (l := ps) (fun r ρ => ∃ (s1 s2 : Sl), ρ = [.v (.lst (ps.map D2p)), s1, s2]) ?h1 ?h2 ?i0 ?step ?fin
    case h1 => walk_at "ev"
    case h2 => walk_at "its"
    case i0 => exact ⟨_, _, rfl⟩
    case step =>
      rintro a r ρ ha ⟨s1, s2, rfl⟩
      refine ⟨_, rfl, ?_⟩
      walk_at "es"
      unfold l2__law_on_a_line
      with_reducible refine' wo_for (h := D2p) (l := ps) (fun r ρ => ∃ (s2 : Sl), ρ = [.v (.lst (ps.map D2p)), .v (D2p a), s2]) ?g1 ?g2 ?j0 ?stp ?fn
      case g1 => walk_at "ev"
      case g2 => walk_at "its"
      case j0 => exact ⟨_, rfl⟩
      case stp =>
        rintro b r ρ hb' ⟨s2, rfl⟩
        refine ⟨_, rfl, ?_⟩
        walk_at "es"
        exact step a ha b hb' (fun _ => ⟨_, rfl⟩) (fun h => absurd (hC a ha b hb') h)
      case fn =>
        rintro ρ ⟨s2, rfl⟩
        exact ⟨_, _, rfl⟩
    case fin =>
      rintro ρ ⟨s1, s2, rfl⟩
      walk_at "sts"
  · refine .inr ⟨?_, fun hc => hC fun a ha b hb' => sg6_0.mpr (hc _ (cz_mem (List.length_pos_of_mem ha) 0) a ha b hb')⟩
    -- the first loop must stop
    unfold F__law_on_a_line b__law_on_a_line
    refine fn_ok ?_
    walk_at "start"
    walk_at "st"
    with_reducible refine' wo_for (h := D2p) (l := ps) (fun r ρ => ∃ (pre : List Pt) (s1 s2 : Sl), pre ++ r = ps ∧ (∀ a ∈ pre, ∀ b ∈ ps, sg6 (bnd (cz ps 0) a b) = 0) ∧ ρ = [.v (.lst (ps.map D2p)), s1, s2]) ?h1 ?h2 ?i0 ?step ?fin
    case h1 => walk_at "ev"
    case h2 => walk_at "its"
    case i0 => exact ⟨[], _, _, rfl, by simp, rfl⟩
    case step =>
      rintro a r ρ ha ⟨pre, s1, s2, e, hp, rfl⟩
      refine ⟨_, rfl, ?_⟩
      walk_at "es"
      unfold l2__law_on_a_line
      with_reducible refine' wo_for (h := D2p) (l := ps) (fun q ρ => ∃ (done : List Pt) (s2 : Sl), done ++ q = ps ∧ (∀ b ∈ done, sg6 (bnd (cz ps 0) a b) = 0) ∧ ρ = [.v (.lst (ps.map D2p)), .v (D2p a), s2]) ?g1 ?g2 ?j0 ?stp ?fn
      case g1 => walk_at "ev"
      case g2 => walk_at "its"
      case j0 => exact ⟨[], _, rfl, by simp, rfl⟩
      case stp =>
        rintro b q ρ hb' ⟨done, s2, e2', hd, rfl⟩
        refine ⟨_, rfl, ?_⟩
        walk_at "es"
        refine step a ha b hb' (fun h => ⟨done ++ [b], _, by rw [List.append_assoc]; exact e2', fun z hz' => ?_, rfl⟩) (fun _ => rfl)
        rcases List.mem_append.mp hz' with y | y
        · exact hd z y
        · rw [List.mem_singleton.mp y]; exact h
      case fn =>
        rintro ρ ⟨done, s2, e2', hd, rfl⟩
        rw [List.append_nil] at e2'
        subst e2'
        refine ⟨pre ++ [a], _, _, by rw [List.append_assoc]; exact e, fun z hz' => ?_, rfl⟩
        rcases List.mem_append.mp hz' with y | y
        · exact hp z y
        · rw [List.mem_singleton.mp y]; exact hd
    case fin =>
      rintro ρ ⟨pre, s1, s2, e, hp, rfl⟩
      rw [List.append_nil] at e
      subst e
      exact absurd hp hC
section
variable {N : En → Sto → Prop} {T : AV → Sto → Prop} {F : List D → Sto → Prop} {X : Str → Sto → Prop} {ρ : En} {s : Sto}
theorem wz_seen {i j k : Nat} {m : EM} {ps : List Pt} (hm : m (ρ.set i .un) = .ok (.lst (ps.map D2p))) (hi : i < ρ.length) (hj : j < ρ.length) (hl : ps.length < 10000)
    (kk : N (((ρ.set i .un).set j .un).set k (.v (.lst ((srtP ps).map D2p)))) s) : WZ (zSeen i j k m ρ s) N T F X := by
  have hz : (ps.map D2p).length < sizeLine := by rw [List.length_map, sizeLine_eq]; omega
  have e : ((m (ρ.set i .un)).bind fun d => (R.ofO (asL d)).bind fun ds => if ds.length < sizeLine then R.ofO (pPts ds) else .st) = .ok ps := by
    rw [hm, bind_ok, show asL (.lst (ps.map D2p)) = some (ps.map D2p) from rfl, ofO_some, bind_ok, if_pos hz, pPts_map, ofO_some]
  unfold zSeen
  rw [if_pos ⟨hi, hj⟩, e]
  exact kk
theorem wz_retO {i : Nat} {ds : List D} (h : ρ[i]? = some (.l ds)) (k : F ds s) : WZ (zRetO i ρ s) N T F X := by
  unfold zRetO; rw [h]; exact k
theorem wz_lendO {i j : Nat} {ds es : List D} {m : XF} (h : ρ[i]? = some (.l ds)) (hm : m (frz i ρ) [] = .ok es []) (hf : es.all flatP = true) (k : N (ρ.set j (.l es)) []) : WZ (zLendO j i m ρ []) N T F X := by
  unfold zLendO
  rw [h]
  show WZ (match m (frz i ρ) [] with
    | .ok es s1 => if s1.isEmpty = true ∧ es.all flatP = true then OX.nx (ρ.set j (.l es)) s1 else .st
    | _ => .st) N T F X
  rw [hm]
  show WZ (if ([] : Sto).isEmpty = true ∧ es.all flatP = true then OX.nx (ρ.set j (.l es)) [] else .st) N T F X
  rw [if_pos ⟨rfl, hf⟩]
  exact k
end
section
variable {N : En → Prop} {T : D → Prop} {X : Str → Prop} {ρ : En}
theorem wo_peek0 {i : Nat} {t : TM} {a : SM} (h : t (frz i ρ) = .ok false) (k : N ρ) : WO (sPeek i t a ρ) N T X := by
  unfold sPeek; rw [h]; exact k
theorem wo_clr {i : Nat} {ds : List D} (h : ρ[i]? = some (.l ds)) (k : N (ρ.set i (.l []))) : WO (sClr i ρ) N T X := by
  unfold sClr; rw [h]; exact k
end
theorem flat_pts : ∀ ps : List Pt, (ps.map D2p).all flatP = true
  | [] => rfl
  | p :: ps => by
    rw [List.map_cons, List.all_cons, flat_pts ps]
    rfl
theorem hullX_all {ps : List Pt} (h : ∀ q ∈ ps, BdP 120 q) (hl : ps.length ≤ 40) (s : Sto) :
    (¬ (hullP (srtP ps)).length < 3 → F_hullX [.d (.lst (ps.map D2p))] s = .ok ((hullP (srtP ps)).map D2p) s) ∧ ((hullP (srtP ps)).length < 3 → F_hullX [.d (.lst (ps.map D2p))] s = .er "Flat" s) := by
  have hs : ∀ q ∈ srtP ps, BdP 120 q := fun q hq => h q ((mem_srtP q ps).mp hq)
  have ls := srtP_len ps
  have c1 := chain_eq (by decide : 120 ≤ 400000) (srtP ps) hs (by omega)
  have c2 := chain_eq (by decide : 120 ≤ 400000) (srtP ps).reverse (fun q hq => hs q (List.mem_reverse.mp hq)) (by rw [List.length_reverse]; omega)
  have k1 := cut_chain (chainP (srtP ps))
  have k2 := cut_chain (chainP (srtP ps).reverse)
  have hh := hull_len (srtP ps)
  have lh : ((hullP (srtP ps)).map D2p).length ≤ 80 := by rw [List.length_map]; omega
  have ec : ((chainP (srtP ps)).tail.reverse.map D2p) ++ ((chainP (srtP ps).reverse).tail.reverse.map D2p) = (hullP (srtP ps)).map D2p := by
    unfold hullP
    rw [List.map_append]
  have lc : ((chainP (srtP ps)).tail.reverse.map D2p).length + ((chainP (srtP ps).reverse).tail.reverse.map D2p).length ≤ 16777216 := by
    rw [← List.length_append, ec]; omega
  have ea : ∀ (a b : List D) (u : D) (s6 : Sl), (eL (aCut (eVar 4) (oNone) (oSome (eC (.int (-1)))))) [.v u, .un, .un, .v (.lst ((srtP ps).map D2p)), .v (.lst ((chainP (srtP ps)).reverse.map D2p)), .v (.lst ((chainP (srtP ps).reverse).reverse.map D2p)), s6] = .ok (.lst ((chainP (srtP ps)).tail.reverse.map D2p)) ∧
      (eL (aCut (eVar 5) (oNone) (oSome (eC (.int (-1)))))) [.v u, .un, .un, .v (.lst ((srtP ps).map D2p)), .v (.lst ((chainP (srtP ps)).reverse.map D2p)), .v (.lst ((chainP (srtP ps).reverse).reverse.map D2p)), s6] = .ok (.lst ((chainP (srtP ps).reverse).tail.reverse.map D2p)) := fun a b u s6 =>
    ⟨ev_L (by rw [← k1]; rfl), ev_L (by rw [← k2]; rfl)⟩
  have run : ∀ {T : AV → Sto → Prop} {F : List D → Sto → Prop} {X : Str → Sto → Prop}, (¬ (hullP (srtP ps)).length < 3 → F ((hullP (srtP ps)).map D2p) s) → ((hullP (srtP ps)).length < 3 → X "Flat" s) → WZ (b_hullX (argSl [.d (.lst (ps.map D2p))] 7) s) (fun _ _ => False) T F X := by
    intro T F X f1 f2
    show WZ (b_hullX [.v (.lst (ps.map D2p)), .un, .un, .un, .un, .un, .un] s) _ _ _ _
    unfold b_hullX
    refine wz_seq (wz_seen (ps := ps) rfl (by show 1 < 7; decide) (by show 2 < 7; decide) (by omega) ?_)
    walk_at "es"
    refine wz_seq (wz_D ?_)
    with_reducible refine wo_asg (ev_F (ev_cons (ev_var rfl) ev_nil) c1) ?_
    walk_at "es"
    refine wz_seq (wz_D ?_)
    with_reducible refine wo_asg (ev_F (ev_cons (ev_L (ev_revm (ev_var rfl))) ev_nil) c2) ?_
    walk_at "es"
    refine wz_seq (wz_D ?_)
    have e6 := ea [] [] (.lst (ps.map D2p)) .un
    have e7 := ev_cat e6.1 e6.2 lc
    rw [ec] at e7
    with_reducible refine wo_own e7 ?_
    walk_at "es"
    refine wz_seq (wz_D ?_)
    have el : (eOwnLen 6) [.v (.lst (ps.map D2p)), .un, .un, .v (.lst ((srtP ps).map D2p)), .v (.lst ((chainP (srtP ps)).reverse.map D2p)), .v (.lst ((chainP (srtP ps).reverse).reverse.map D2p)), .l ((hullP (srtP ps)).map D2p)] = .ok (.int ((hullP (srtP ps)).length : Int)) := ev_ownLenM rfl
    refine wo_if (ev_mB (ev_e2 el (ev_c _) (dLt_int _ _))) (fun h => ?_) (fun h => ?_)
    · have h := of_decide_eq_true h
      exact wo_raise (f2 (by omega))
    · have h := of_decide_eq_false h
      exact wo_nil (wz_retO rfl (f1 (by omega)))
  refine ⟨fun h3 => fxf_ok (run (fun _ => ⟨rfl, rfl⟩) (fun g => h3 g)), fun h3 => ?_⟩
  obtain ⟨s1, e1, rfl⟩ := fxf_er (P := fun s' => s' = s) (x := "Flat") (n := 7) (as := [.d (.lst (ps.map D2p))]) (m := b_hullX) (run (fun g => g h3) (fun _ => ⟨rfl, rfl⟩))
  exact e1
theorem refused6_q {ps : List Pt} (h : ∀ q ∈ ps, BdP 120 q) (hl : ps.length ≤ 40) (h3 : (hullP (srtP ps)).length < 3) (s : Sto) : F__law_refused_v3 [.d (.lst (ps.map D2p))] s = .ok (.d (.bl true)) s := by
  have er := (hullX_all h hl s).2 h3
  have k1 : dIsX xLy3 xLc3 xLt3 [.exc "Flat", .ty "ValueError"] = some (.bl true) := by rfl
  have k2 : dIsX xLy3 xLc3 xLt3 [.exc "Flat", .cls "Flat"] = some (.bl true) := by rfl
  have k3 : dIsX xLy3 xLc3 xLt3 [.exc "Flat", .tup [.cls "NoNumber", .cls "Crowded", .cls "NoName", .cls "Twice", .cls "Past", .cls "NoText", .cls "NoRow"]] = some (.bl false) := by rfl
  unfold F__law_refused_v3
  refine fx_ok ?_
  show WZ (b__law_refused_v3 [.v (.lst (ps.map D2p)), .un, .un, .un] s) _ _ _ _
  unfold b__law_refused_v3
  refine wz_seq (wz_D ?_)
  walk_at "st"
  have eb : zExpr (xNew (xXF F_hullX (xACons (xD (eVar 0)) (xANil)))) [.v (.lst (ps.map D2p)), .v .non, .un, .un] s = .er "Flat" [.v (.lst (ps.map D2p)), .v .non, .un, .un] s := by
    have e0 : xACons (xD (eVar 0)) xANil [.v (.lst (ps.map D2p)), .v .non, .un, .un] s = .ok [.d (.lst (ps.map D2p))] s := xv_cons (xv_D (ev_var rfl)) xv_nil
    unfold zExpr xNew xXF
    rw [e0]
    show ofX ((F_hullX [.d (.lst (ps.map D2p))] s).bind fun ds s => RS.ok (AV.d (.lst ds)) s) _ _ = _
    rw [er]
    rfl
  refine wz_seq (wz_tryE eb rfl (by decide : 2 < 4) ?_)
  walk_at "es"
  refine wz_seq (wz_D ?_)
  walk_at "st"
  refine wz_D ?_
  walk_at "st"
  exact ⟨rfl, rfl⟩
theorem dInB_pt (p : Pt) : ∀ l : List Pt, dInB (D2p p) (l.map D2p) = decide (p ∈ l)
  | [] => rfl
  | q :: r => by
    have ih := dInB_pt p r
    unfold dInB at ih ⊢
    show (PyData.eqv (toP (D2p q)) (toP (D2p p)) || (toPs (r.map D2p)).any fun z => PyData.eqv z (toP (D2p p))) = _
    rw [ih, eqv_pt]
    by_cases h : q = p
    · rw [decide_eq_true h, Bool.true_or, decide_eq_true (h ▸ List.mem_cons_self)]
    · rw [decide_eq_false h, Bool.false_or]
      refine decide_eq_decide.mpr ⟨List.mem_cons_of_mem _, fun z => ?_⟩
      rcases List.mem_cons.mp z with e | e
      · exact absurd e.symm h
      · exact e
theorem dIn_pt (p : Pt) (l : List Pt) : dIn (D2p p) (.lst (l.map D2p)) = some (.bl (decide (p ∈ l))) := by
  show (if SeqAt.shaped (toP (D2p p)) = true ∧ SeqAt.shaped (toP (.lst (l.map D2p))) = true then some (D.bl (dInB (D2p p) (l.map D2p))) else none) = _
  rw [if_pos ⟨(shp_pt p).shaped (by decide), (shp_pts l).shaped (by decide)⟩, dInB_pt]
theorem dNotIn_pt (p : Pt) (l : List Pt) : dNotIn (D2p p) (.lst (l.map D2p)) = some (.bl (!decide (p ∈ l))) := by
  unfold dNotIn
  rw [dIn_pt]
theorem dLt_pt (p q : Pt) : dLt (D2p p) (D2p q) = some (.bl (decide (lx p q))) := by
  show some (D.bl (HT.lexLt [p.1, p.2] [q.1, q.2])) = _
  rw [GD.lex_pair]
theorem ptL_map : ∀ ps : List Pt, ptL (ps.map D2p) = some ps
  | [] => rfl
  | p :: ps => by
    show (ptL (ps.map D2p)).map ((p.1, p.2) :: ·) = _
    rw [ptL_map ps]
    rfl
structure Hul (ps C : List Pt) : Prop where
  P : Poly (srtP ps) C
  bd : ∀ q ∈ C, BdP 120 q
  bp : ∀ q ∈ ps, BdP 120 q
  len : C.length ≤ 80
theorem Hul.pos {ps C : List Pt} (h : Hul ps C) : 0 < C.length := by have := h.P.len; omega
theorem Hul.body {ps C : List Pt} (h : Hul ps C) : Body 120 C := ⟨⟨_, srtP_srt ps, h.P⟩, by have := h.len; omega, h.bd⟩
theorem Hul.least {ps C : List Pt} (h : Hul ps C) : cz C 0 ∈ ps ∧ ∀ q ∈ ps, ¬ lx q (cz C 0) := by
  have hp := h.pos
  have e0 : cz C 0 = C[0] := by
    rw [show (0 : Int) = ((0 : Nat) : Int) from rfl, cz_nat]
    exact Option.some.inj ((cy_at hp).symm.trans (List.getElem?_eq_getElem hp))
  have e1 : C.head? = some C[0] := by rw [List.head?_eq_getElem?, List.getElem?_eq_getElem hp]
  have f := h.P.fst
  rw [e1] at f
  rw [e0]
  have srt := srtP_srt ps
  cases hs : srtP ps with
  | nil => rw [hs] at f; cases f
  | cons a r =>
    rw [hs] at f srt
    have f : C[0] = a := Option.some.inj f
    rw [f]
    refine ⟨(mem_srtP a ps).mp (by rw [hs]; exact List.mem_cons_self), fun q hq z => ?_⟩
    have hq := (mem_srtP q ps).mpr hq
    rw [hs] at hq
    rcases List.mem_cons.mp hq with e | e
    · rw [e] at z; exact lx_irr _ z
    · exact lx_irr _ (lx_tr z ((List.pairwise_cons.mp srt).1 q e))
theorem min6_q {ps C : List Pt} (h : Hul ps C) : dMinP [.lst (ps.map D2p)] = some (D2p (cz C 0)) := by
  obtain ⟨h1, h2⟩ := h.least
  have ex : ∃ m, minPt ps = some m := by
    cases ps with
    | nil => exact absurd h1 (by simp)
    | cons p r => exact ⟨_, rfl⟩
  obtain ⟨m, em⟩ := ex
  obtain ⟨m1, m2⟩ := minPt_spec em
  have : m = cz C 0 := by
    rcases lx_tot m (cz C 0) with g | g | g
    · exact absurd g (h2 m m1)
    · exact g
    · exact absurd g (m2 _ h1)
  show (ptL (ps.map D2p)).bind (fun ps => (minPt ps).map fun p => D.tup [.int p.1, .int p.2]) = _
  rw [ptL_map, Option.bind_some, em, this]
  rfl
theorem poly_edgeZ {ps C : List Pt} (h : Hul ps C) {q : Pt} (hq : q ∈ ps) (i : Int) : 0 ≤ bnd (cz C i) (cz C (i + 1)) q := by
  have hp := h.pos
  have e1 : cz C i = cy C (i % (C.length : Int)).toNat := rfl
  have hn := Int.emod_nonneg i (by omega : (C.length : Int) ≠ 0)
  have e2 : cz C (i + 1) = cy C ((i % (C.length : Int)).toNat + 1) := by
    rw [← cz_add1, show i % (C.length : Int) + 1 = (((i % (C.length : Int)).toNat + 1 : Nat) : Int) by omega, cz_nat]
  rw [e1, e2]
  exact poly_edge h.P ((mem_srtP q ps).mpr hq) _
theorem round6_q {ps C : List Pt} (h : Hul ps C) : F__law_goes_round [.lst (C.map D2p), .lst (ps.map D2p)] = .ok (.bl true) := by
  have h3 := h.P.len
  have hl := h.len
  have hp := h.pos
  unfold F__law_goes_round b__law_goes_round
  refine fn_ok ?_
  walk_at "start"
  walk_at "st"
  have er : (aCons (eB dLen (aCons (eVar 0) (aNil))) (aNil)) [.v (.lst (C.map D2p)), .v (.lst (ps.map D2p)), .un, .un, .un, .un] = .ok [.int (C.length : Int)] := by walk_at "ev"
  with_reducible refine' wo_rng (k := C.length) (fun j ρ => ∃ (s2 s3 s4 s5 : Sl), ρ = [.v (.lst (C.map D2p)), .v (.lst (ps.map D2p)), s2, s3, s4, s5]) er ?h2 ?i0 ?step ?fin
  case h2 => exact rngN (by omega)
  case i0 => exact ⟨_, _, _, _, rfl⟩
  case step =>
    rintro j ρ hj ⟨s2, s3, s4, s5, rfl⟩
    refine ⟨_, rfl, ?_⟩
    walk_at "es"
    have a1 : dAt (.lst (C.map D2p)) (.int ((j : Int) - 1)) = some (D2p (cz C ((j : Int) - 1))) := at_cz (by omega) (by omega)
    have a2 : dAt (.lst (C.map D2p)) (.int ((j : Int) - 2)) = some (D2p (cz C ((j : Int) - 2))) := at_cz (by omega) (by omega)
    have a0 : dAt (.lst (C.map D2p)) (.int (j : Int)) = some (D2p (cz C (j : Int))) := at_cz (by omega) (by omega)
    have b0 : BdP 120 (cz C (j : Int)) := bd_cz h.bd hp _
    have b1 : BdP 120 (cz C ((j : Int) - 1)) := bd_cz h.bd hp _
    have b2 : BdP 120 (cz C ((j : Int) - 2)) := bd_cz h.bd hp _
    have t1 : F__law_turn [D2p (cz C ((j : Int) - 2)), D2p (cz C ((j : Int) - 1)), D2p (cz C (j : Int))] = .ok (.int 1) := by
      rw [turn6_q b2 b1 b0 (by decide)]
      have := body_turn h.body ((j : Int) - 2)
      rw [show (j : Int) - 2 + 1 = (j : Int) - 1 by omega, show (j : Int) - 2 + 2 = (j : Int) by omega] at this
      rw [sg6_1 this]
    have t2 : ∀ q ∈ ps, F__law_turn [D2p (cz C ((j : Int) - 1)), D2p (cz C (j : Int)), D2p q] = .ok (.int (sg6 (bnd (cz C ((j : Int) - 1)) (cz C (j : Int)) q))) ∧ ¬ sg6 (bnd (cz C ((j : Int) - 1)) (cz C (j : Int)) q) < 0 := fun q hq => by
      have := poly_edgeZ h hq ((j : Int) - 1)
      rw [show (j : Int) - 1 + 1 = (j : Int) by omega] at this
      exact ⟨turn6_q b1 b0 (h.bp q hq) (by decide), sg6_n this⟩
    unfold l2__law_goes_round
    generalize cz C ((j : Int) - 1) = p1 at *
    generalize cz C ((j : Int) - 2) = p2 at *
    generalize cz C (j : Int) = p0 at *
    walk_at "st"
    walk_at "st"
    walk_at "st"
    walk_at "st"
    walk_at "st"
    walk_at "st"
    walk_at "st"
    with_reducible refine' wo_for (h := D2p) (l := ps) (fun r ρ => ∃ (s5 : Sl), ρ = [.v (.lst (C.map D2p)), .v (.lst (ps.map D2p)), .v (.int (j : Int)), .v (D2p p1), .v (D2p p0), s5]) ?g1 ?g2 ?j0 ?stp ?fn
    case g1 => walk_at "ev"
    case g2 => walk_at "its"
    case j0 => exact ⟨_, rfl⟩
    case stp =>
      rintro q r ρ hq ⟨s5, rfl⟩
      refine ⟨_, rfl, ?_⟩
      walk_at "es"
      obtain ⟨k1, k2⟩ := t2 q hq
      unfold l1__law_goes_round
      refine wo_iff (ev_mB (ev_e2 (ev_F (ev_cons (ev_var rfl) (ev_cons (ev_var rfl) (ev_cons (ev_var rfl) ev_nil))) k1) (ev_c _) (dLt_int _ _))) (decide_eq_false k2) (wo_nil ⟨_, rfl⟩)
    case fn =>
      rintro ρ ⟨s5, rfl⟩
      exact ⟨_, _, _, _, rfl⟩
  case fin =>
    rintro ρ ⟨s2, s3, s4, s5, rfl⟩
    walk_at "st"
    try rfl
theorem cut_take6 {α : Type} (l : List α) (k : Nat) : cutL l none (some (k : Int)) = l.take k := by
  unfold cutL
  rw [HT.sIx_none, HT.sIx_nat, List.drop_zero, Nat.sub_zero]
  by_cases h : k ≤ l.length
  · rw [Nat.min_eq_left h]
  · rw [Nat.min_eq_right (by omega), List.take_of_length_le (by omega), List.take_of_length_le (by omega)]
theorem are6_q {ps C : List Pt} (h : Hul ps C) : F__law_are_points [.lst (C.map D2p), .lst (ps.map D2p)] = .ok (.bl true) := by
  have h3 := h.P.len
  have hl := h.len
  have hp := h.pos
  have kl : dIsi [.lst (C.map D2p), .ty "list"] = some (.bl true) := isi_int _ _ _ _ rfl kb_list_list
  obtain ⟨m1, m2⟩ := h.least
  unfold F__law_are_points b__law_are_points
  refine fn_ok ?_
  walk_at "start"
  walk_at "st"
  have el : (eB dLen (aCons (eVar 0) (aNil))) [.v (.lst (C.map D2p)), .v (.lst (ps.map D2p)), .un, .un] = .ok (.int (C.length : Int)) := by walk_at "ev"
  refine wo_iff (c := false) ?_ rfl ?_
  · refine ev_or (b := false) (c := false) (ev_not (c := true) (ev_mB (ev_B (ev_cons (ev_var rfl) (ev_cons (ev_c _) ev_nil)) kl))) fun _ => ?_
    rw [ev_mB (ev_e2 el (ev_c _) (dLt_int _ _)), decide_eq_false (by omega)]
  walk_at "st"
  walk_at "st"
  have er : (aCons (eB dLen (aCons (eVar 0) (aNil))) (aNil)) [.v (.lst (C.map D2p)), .v (.lst (ps.map D2p)), .un, .un] = .ok [.int (C.length : Int)] := by walk_at "ev"
  with_reducible refine' wo_rng (k := C.length) (fun j ρ => ∃ (s2 s3 : Sl), ρ = [.v (.lst (C.map D2p)), .v (.lst (ps.map D2p)), s2, s3]) er ?h2 ?i0 ?step ?fin
  case h2 => exact rngN (by omega)
  case i0 => exact ⟨_, _, rfl⟩
  case step =>
    rintro j ρ hj ⟨s2, s3, rfl⟩
    refine ⟨_, rfl, ?_⟩
    walk_at "es"
    have a0 : dAt (.lst (C.map D2p)) (.int (j : Int)) = some (D2p (cz C (j : Int))) := at_cz (by omega) (by omega)
    have az : dAt (.lst (C.map D2p)) (.int 0) = some (D2p (cz C 0)) := at_cz (by omega) (by omega)
    have mj : cz C (j : Int) ∈ ps := (mem_srtP _ _).mp (h.P.sub _ (cz_mem hp _))
    have nt : cz C (j : Int) ∉ C.take j := by
      rw [cz_nat, show cy C j = C[j] from Option.some.inj ((cy_at hj).symm.trans (List.getElem?_eq_getElem hj))]
      intro z
      obtain ⟨i, hi, e⟩ := List.getElem_of_mem z
      rw [List.length_take] at hi
      rw [List.getElem_take] at e
      have := (List.getElem_inj h.P.nd).mp e
      omega
    have k1 := dNotIn_pt (cz C (j : Int)) ps
    rw [decide_eq_true mj] at k1
    have k2 := dIn_pt (cz C (j : Int)) (C.take j)
    rw [decide_eq_false nt] at k2
    have k3 := dLt_pt (cz C (j : Int)) (cz C 0)
    rw [decide_eq_false (m2 _ mj)] at k3
    have w0 := whole_int (cz C (j : Int)).1
    have w1 := whole_int (cz C (j : Int)).2
    have kt : dIsi [D2p (cz C (j : Int)), .ty "tuple"] = some (.bl true) := isi_int _ _ _ _ rfl kb_tuple_tuple
    have kn : dLen [D2p (cz C (j : Int))] = some (.int 2) := rfl
    have p0 := dAt_p0 (cz C (j : Int))
    have p1 := dAt_p1 (cz C (j : Int))
    have et : (eL (aCut (eVar 0) (oNone) (oSome (eVar 2)))) [.v (.lst (C.map D2p)), .v (.lst (ps.map D2p)), .v (.int (j : Int)), .v (D2p (cz C (j : Int)))] = .ok (.lst ((C.take j).map D2p)) := by
      refine ev_L ?_
      show R.ok (cutL (C.map D2p) none (some (j : Int))) = _
      rw [cut_take6, List.map_take]
    unfold l1__law_are_points
    generalize cz C (j : Int) = p at *
    generalize cz C 0 = z at *
    walk_at "st"
    walk_at "st"
    walk_at "st"
    refine wo_iff (c := false) ?_ rfl (wo_nil ?_)
    · refine ev_or (b := false) (c := false) (ev_not (c := true) (ev_mB (ev_B (ev_cons (ev_var rfl) (ev_cons (ev_c _) ev_nil)) kt))) fun _ => ?_
      refine ev_or (b := false) (c := false) (ev_mB (ev_e2 (ev_B (ev_cons (ev_var rfl) ev_nil) kn) (ev_c _) (dNe_int _ _))) fun _ => ?_
      refine ev_or (b := false) (c := false) (ev_not (c := true) (ev_mB (ev_F (ev_cons (ev_e2 (ev_var rfl) (ev_c _) p0) ev_nil) w0))) fun _ => ?_
      exact ev_not (c := true) (ev_mB (ev_F (ev_cons (ev_e2 (ev_var rfl) (ev_c _) p1) ev_nil) w1))
    refine wo_iff (c := false) ?_ rfl (wo_nil ⟨_, _, rfl⟩)
    refine ev_or (b := false) (c := false) (ev_mB (ev_e2 (ev_var rfl) (ev_var rfl) k1)) fun _ => ?_
    refine ev_or (b := false) (c := false) (ev_mB (ev_e2 (ev_var rfl) et k2)) fun _ => ?_
    exact ev_mB (ev_e2 (ev_var rfl) (ev_e2 (ev_var rfl) (ev_c _) az) k3)
  case fin =>
    rintro ρ ⟨s2, s3, rfl⟩
    walk_at "st"
    try rfl
theorem law_true (ns : List Int) (_hl : ns.length ≤ 63) : ∃ s, F_law [.d (.scr ns)] [] = .ok (.d (.bl true)) s := by
  obtain ⟨ps, e1, hl, hb⟩ := many6_q ns
  have done : ∀ {s : Sto}, (∃ s1, s = s1) := fun {s} => ⟨s, rfl⟩
  refine (fun (h : ∃ v s1, F_law [.d (.scr ns)] [] = .ok v s1 ∧ v = .d (.bl true)) => by obtain ⟨v, s1, h1, rfl⟩ := h; exact ⟨s1, h1⟩) ?_
  unfold F_law
  refine fx_ex ?_
  show WZ (b_law [.v (.scr ns), .un, .un, .un, .un] []) _ _ _ _
  unfold b_law
  refine wz_seq (wz_D ?_)
  with_reducible refine wo_asg (ev_F (ev_cons (ev_var rfl) ev_nil) e1) ?_
  walk_at "es"
  refine wz_seq (wz_D ?_)
  with_reducible refine wo_own (ev_copy (ev_cons (ev_var rfl) ev_nil) rfl) ?_
  walk_at "es"
  rcases line6_q hb with ⟨k1, kc⟩ | ⟨k1, kc⟩
  · -- on a line
    have h3 : (hullP (srtP ps)).length < 3 := hull_flat (srtP_srt ps) fun a ha b hb c hc => kc a ((mem_srtP a ps).mp ha) b ((mem_srtP b ps).mp hb) c ((mem_srtP c ps).mp hc)
    have kr := refused6_q hb hl h3 []
    have ke := dEq_pts ps ps
    rw [decide_eq_true rfl] at ke
    refine wz_seq (wz_ift (xv_DT (ev_mB (ev_F (ev_cons (ev_var rfl) ev_nil) k1))) rfl ?_)
    refine wz_frz ?_
    refine wz_ret (v := .d (.bl true)) (s1 := []) ?_ rfl
    unfold xAnd
    rw [xv_B (c := true) (xv_X (xv_cons (xv_D (ev_var rfl)) xv_nil) kr)]
    exact xv_D (ev_e2 (ev_var rfl) (ev_var rfl) ke)
  · have nc : ¬ Col (srtP ps) := fun k => kc fun a ha b hb c hc => k a ((mem_srtP a ps).mpr ha) b ((mem_srtP b ps).mpr hb) c ((mem_srtP c ps).mpr hc)
    have P := hull_poly (srtP_srt ps) nc
    have h3 : ¬ (hullP (srtP ps)).length < 3 := by have := P.len; omega
    have hh := hull_len (srtP ps)
    have ls := srtP_len ps
    have H : Hul ps (hullP (srtP ps)) := ⟨P, fun q hq => hb q ((mem_srtP q ps).mp (P.sub q hq)), hb, by omega⟩
    have kx := (hullX_all hb hl []).1 h3
    generalize hullP (srtP ps) = C at *
    have ar := are6_q H
    have gr := round6_q H
    have mn := min6_q H
    have az : dAt (.lst (C.map D2p)) (.int 0) = some (D2p (cz C 0)) := at_cz (by have := H.pos; omega) (by have := H.pos; omega)
    have kn := dNe_pts ps ps
    rw [decide_eq_true rfl] at kn
    have kz := dEq_pt (cz C 0) (cz C 0)
    rw [decide_eq_true rfl] at kz
    have ke := dEq_pts C C
    rw [decide_eq_true rfl] at ke
    refine wz_seq (wz_iff (xv_DT (ev_mB (ev_F (ev_cons (ev_var rfl) ev_nil) k1))) rfl (wz_nil ?_))
    refine wz_seq (wz_lendO (i := 2) (j := 3) (ds := ps.map D2p) (es := C.map D2p) rfl ?_ (flat_pts C) ?_)
    · exact xv_XF (xv_cons (xv_D (ev_var rfl)) xv_nil) kx
    walk_at "es"
    with_reducible refine wz_seq ?_
    with_reducible refine wz_frz ?_
    simp only [frz, List.getElem?_cons_zero, List.getElem?_cons_succ, List.set_cons_zero, List.set_cons_succ]
    with_reducible refine wz_D ?_
    with_reducible refine wo_peek0 ?_ ?_
    · refine ev_or (b := false) (c := false) (ev_mB (ev_e2 (ev_var rfl) (ev_var rfl) kn)) fun _ => ?_
      exact ev_not (c := true) (ev_mB (ev_F (ev_cons (ev_var rfl) (ev_cons (ev_var rfl) ev_nil)) ar))
    with_reducible refine wz_seq (wz_D ?_)
    with_reducible refine wo_frz ?_
    simp only [frz, List.getElem?_cons_zero, List.getElem?_cons_succ, List.set_cons_zero, List.set_cons_succ]
    with_reducible refine wo_asg (ev_L (ev_copy (ev_cons (ev_var rfl) ev_nil) rfl)) ?_
    walk_at "es"
    with_reducible refine wz_seq (wz_D ?_)
    with_reducible refine wo_clr rfl ?_
    walk_at "es"
    with_reducible refine wz_D ?_
    with_reducible refine wo_frz ?_
    simp only [frz, List.getElem?_cons_zero, List.getElem?_cons_succ, List.set_cons_zero, List.set_cons_succ]
    with_reducible refine wo_ret (d := .bl (true && (true && true))) ?_ ?_
    · refine ev_eAnd (b := true) (c := true && true) (ev_F (ev_cons (ev_var rfl) (ev_cons (ev_var rfl) ev_nil)) gr) fun _ => ?_
      refine ev_eAnd (b := true) (c := true) (ev_e2 (ev_B (ev_cons (ev_var rfl) ev_nil) mn) (ev_e2 (ev_var rfl) (ev_c _) az) kz) fun _ => ?_
      exact ev_e2 (ev_var rfl) (ev_var rfl) ke
    · rfl
end Law
open PySem PySem.W PyProof.Rows in
set_option maxRecDepth 100000 in
set_option maxHeartbeats 0 in
theorem PySem.Challenge.cw_glide_k06_a_hull_holds : PySem.Challenge.rw_glide_k06_a_hull.Holds := by
  w_on; o_law; k_head; (case hw => w_witness2)
  k_fill
  refine GD.walk (l := PySem.Challenge.rw_glide_k06_a_hull) (k := 5) rfl rfl ⟨rfl, by decide, by decide⟩ (fun w h Y => PySem.W.kIn_of Y) ?F
  case F =>
    intro w mg fa h KX G hmg
    refine' Law.all_mk KX G hmg ?gC_Crowded ?kC_Crowded ?bC_Crowded ?tC_Crowded ?gC_Flat ?xC_Flat ?kC_Flat ?bC_Flat ?tC_Flat ?gC_GlideError ?kC_GlideError ?bC_GlideError ?tC_GlideError ?gC_NoName ?kC_NoName ?bC_NoName ?tC_NoName ?gC_NoNumber ?kC_NoNumber ?bC_NoNumber ?tC_NoNumber ?gC_NoRow ?kC_NoRow ?bC_NoRow ?tC_NoRow ?gC_NoText ?kC_NoText ?bC_NoText ?tC_NoText ?gC_Past ?kC_Past ?bC_Past ?tC_Past ?gC_Twice ?kC_Twice ?bC_Twice ?tC_Twice ?sg_Flat ?hd_Crowded ?hd_Flat ?hd_GlideError ?hd_NoName ?hd_NoNumber ?hd_NoRow ?hd_NoText ?hd_Past ?hd_Twice ?oN ?oT ?vg_Flat ?vk_Flat ?va_Flat ?vm_Flat ?sv_Flat ?su_Flat_Crowded ?su_Flat_Flat ?su_Flat_NoName ?su_Flat_NoNumber ?su_Flat_NoRow ?su_Flat_NoText ?su_Flat_Past ?su_Flat_Twice ?ss_Crowded ?ss_Flat ?ss_NoName ?ss_NoNumber ?ss_NoRow ?ss_NoText ?ss_Past ?ss_Twice ?a0 ?l0 ?c0 ?k0 ?a1 ?l1 ?c1 ?k1 ?a2 ?l2 ?c2 ?k2 ?a3 ?l3 ?c3 ?k3 ?a4 ?l4 ?c4 ?k4 ?a5 ?l5 ?c5 ?k5 ?a6 ?l6 ?c6 ?k6 ?a7 ?l7 ?c7 ?k7 ?a8 ?l8 ?c8 ?k8 ?a9 ?l9 ?c9 ?k9 ?a10 ?l10 ?c10 ?k10 ?a11 ?l11 ?c11 ?k11 ?zz_ValueError ?zz_bool ?zz_int ?zz_isinstance ?zz_len ?zz_list ?zz_min ?zz_range ?zz_reversed ?zz_sorted ?zz_tuple Law.law_true
    (case gC_Crowded => k_is)
    (case kC_Crowded => k_is)
    (case bC_Crowded => k_is)
    (case tC_Crowded => k_is)
    (case gC_Flat => k_is)
    (case xC_Flat => k_exc)
    (case kC_Flat => k_is)
    (case bC_Flat => k_is)
    (case tC_Flat => k_is)
    (case gC_GlideError => k_is)
    (case kC_GlideError => k_is)
    (case bC_GlideError => k_is)
    (case tC_GlideError => k_is)
    (case gC_NoName => k_is)
    (case kC_NoName => k_is)
    (case bC_NoName => k_is)
    (case tC_NoName => k_is)
    (case gC_NoNumber => k_is)
    (case kC_NoNumber => k_is)
    (case bC_NoNumber => k_is)
    (case tC_NoNumber => k_is)
    (case gC_NoRow => k_is)
    (case kC_NoRow => k_is)
    (case bC_NoRow => k_is)
    (case tC_NoRow => k_is)
    (case gC_NoText => k_is)
    (case kC_NoText => k_is)
    (case bC_NoText => k_is)
    (case tC_NoText => k_is)
    (case gC_Past => k_is)
    (case kC_Past => k_is)
    (case bC_Past => k_is)
    (case tC_Past => k_is)
    (case gC_Twice => k_is)
    (case kC_Twice => k_is)
    (case bC_Twice => k_is)
    (case tC_Twice => k_is)
    (case sg_Flat => k_is)
    (case hd_Crowded => k_is)
    (case hd_Flat => k_is)
    (case hd_GlideError => k_is)
    (case hd_NoName => k_is)
    (case hd_NoNumber => k_is)
    (case hd_NoRow => k_is)
    (case hd_NoText => k_is)
    (case hd_Past => k_is)
    (case hd_Twice => k_is)
    (case oN => k_is)
    (case oT => k_is)
    (case vg_Flat => k_is)
    (case vk_Flat => k_is)
    (case va_Flat => k_is)
    (case vm_Flat => k_is)
    (case sv_Flat => k_is)
    (case su_Flat_Crowded => k_is)
    (case su_Flat_Flat => k_is)
    (case su_Flat_NoName => k_is)
    (case su_Flat_NoNumber => k_is)
    (case su_Flat_NoRow => k_is)
    (case su_Flat_NoText => k_is)
    (case su_Flat_Past => k_is)
    (case su_Flat_Twice => k_is)
    (case ss_Crowded => k_is)
    (case ss_Flat => k_is)
    (case ss_NoName => k_is)
    (case ss_NoNumber => k_is)
    (case ss_NoRow => k_is)
    (case ss_NoText => k_is)
    (case ss_Past => k_is)
    (case ss_Twice => k_is)
    (case a0 => k_is)
    (case l0 => k_is)
    (case c0 => k_is)
    (case k0 => k_is)
    (case a1 => k_is)
    (case l1 => k_is)
    (case c1 => k_is)
    (case k1 => k_is)
    (case a2 => k_is)
    (case l2 => k_is)
    (case c2 => k_is)
    (case k2 => k_is)
    (case a3 => k_is)
    (case l3 => k_is)
    (case c3 => k_is)
    (case k3 => k_is)
    (case a4 => k_is)
    (case l4 => k_is)
    (case c4 => k_is)
    (case k4 => k_is)
    (case a5 => k_is)
    (case l5 => k_is)
    (case c5 => k_is)
    (case k5 => k_is)
    (case a6 => k_is)
    (case l6 => k_is)
    (case c6 => k_is)
    (case k6 => k_is)
    (case a7 => k_is)
    (case l7 => k_is)
    (case c7 => k_is)
    (case k7 => k_is)
    (case a8 => k_is)
    (case l8 => k_is)
    (case c8 => k_is)
    (case k8 => k_is)
    (case a9 => k_is)
    (case l9 => k_is)
    (case c9 => k_is)
    (case k9 => k_is)
    (case a10 => k_is)
    (case l10 => k_is)
    (case c10 => k_is)
    (case k10 => k_is)
    (case a11 => k_is)
    (case l11 => k_is)
    (case c11 => k_is)
    (case k11 => k_is)
    (case zz_ValueError => k_is)
    (case zz_bool => k_is)
    (case zz_int => k_is)
    (case zz_isinstance => k_is)
    (case zz_len => k_is)
    (case zz_list => k_is)
    (case zz_min => k_is)
    (case zz_range => k_is)
    (case zz_reversed => k_is)
    (case zz_sorted => k_is)
    (case zz_tuple => k_is)
