import PyProof.Rows.All
import Wide.All
import OpenK.AllK
import Wide.FinOn
import HandS.ForMost
import HandS.TupAny
import HandS.Style
import HandS.IsInst
import HandS.SetFor
import HandS.Conv
import HandS.SortInts
import KE.KIndexOf
import KE.KDictWalk
import KE.KDictDisplayH
import KE.KDictSum
import HandS.MapSum
import HandS.Head0
import HandS.Head1
import HandS.Head2
import HandS.HeadEnd
import HandS.HeadHook1
import HandS.HeadHook2
import HandS.HeadHook3
import HandS.HeadHook4
import PySem.Challenge.RW_unpartedrows_k23_whole_wishes
/-! ## K0 -/
set_option Elab.async false
set_option linter.all false
set_option autoImplicit false
set_option maxRecDepth 100000
set_option maxHeartbeats 2000000
/-! A layer of my own over HandS: slots by data, the heap out of sight. -/
namespace Wk
open PySem PySem.Spec L2

/-! ### data that never changes -/
inductive D where
  | non | bl (b : Bool) | int (i : Int) | str (s : Str) | tup (ds : List D)
  /-- a tuple whose object is known to have no dict of its own -/
  | ntup (ds : List D)
/-- what never changes -/
def fixd : HO → Prop
  | .tup _ => True
  | .frz _ (.tup _) => True
  | _ => False

mutual
inductive Rp (H : Hp) : V → D → Prop
  | non : Rp H .non .non
  | bl (b : Bool) : Rp H (.bl b) (.bl b)
  | int (i : Int) : Rp H (.int i) (.int i)
  | str (s : Str) : Rp H (.str s) (.str s)
  | tup {a : Addr} {xs : List V} {ds : List D} : Rd H a (.tup xs) → Rps H xs ds → Rp H (.ref a) (.tup ds)
  | ntup {a : Addr} {o : Obj} {xs : List V} {ds : List D} : H a = some (.frz o (.tup xs)) → o.dict = none → Rps H xs ds → Rp H (.ref a) (.ntup ds)
inductive Rps (H : Hp) : List V → List D → Prop
  | nil : Rps H [] []
  | cons {v : V} {vs : List V} {d : D} {ds : List D} : Rp H v d → Rps H vs ds → Rps H (v :: vs) (d :: ds)
end
def TEx (H H' : Hp) : Prop := ∀ a o, fixd o → H a = some o → H' a = some o
abbrev Ex (H H' : Hp) : Prop := Same H H'
theorem TEx.refl (H : Hp) : TEx H H := fun _ _ _ h => h
theorem TEx.trans {H H1 H2 : Hp} (a : TEx H H1) (b : TEx H1 H2) : TEx H H2 := fun c o f h => b c o f (a c o f h)
theorem tex {H H' : Hp} (e : Ex H H') : TEx H H' := fun a _ _ h => e a _ h
theorem TEx.rd {H H' : Hp} (e : TEx H H') {a : Addr} {xs : List V} (h : Rd H a (.tup xs)) : Rd H' a (.tup xs) := by
  rcases h with h | ⟨o, h⟩
  · exact .inl (e _ _ trivial h)
  · exact .inr ⟨o, e _ _ trivial h⟩
theorem ex_new {H : Hp} {p : Addr} {o : HO} (h : H p = none) : Ex H (upd H p o) := fun a u e => by
  rw [upd_ne (ne_of_none e h)]
  exact e
theorem ex_mut {H H' : Hp} {p : Addr} {o : HO} (e : Ex H H') (h : H p = none) : Ex H (upd H' p o) := fun a u ha => by
  rw [upd_ne (ne_of_none ha h)]
  exact e a u ha
theorem tex_upd {H : Hp} {p : Addr} {o : HO} (h : ∀ u, fixd u → H p ≠ some u) : TEx H (upd H p o) := fun a u f ha => by
  have n : a ≠ p := fun z => by
    rw [z] at ha
    exact h u f ha
  rw [upd_ne n]
  exact ha
theorem tex_lst {H : Hp} {p : Addr} {o : HO} {ys : List V} (h : H p = some (.lst ys)) : TEx H (upd H p o) := tex_upd fun u f z => by
  rw [h] at z
  cases z
  exact f
mutual
theorem Rp.mono {H H' : Hp} (e : TEx H H') : ∀ {v : V} {d : D}, Rp H v d → Rp H' v d
  | _, _, .non => .non
  | _, _, .bl b => .bl b
  | _, _, .int i => .int i
  | _, _, .str s => .str s
  | _, _, .tup h r => .tup (e.rd h) (Rps.mono e r)
  | _, _, .ntup h n r => .ntup (e _ _ trivial h) n (Rps.mono e r)
theorem Rps.mono {H H' : Hp} (e : TEx H H') : ∀ {vs : List V} {ds : List D}, Rps H vs ds → Rps H' vs ds
  | _, _, .nil => .nil
  | _, _, .cons h r => .cons (Rp.mono e h) (Rps.mono e r)
end
section
variable {H : Hp}
theorem Rp.weak {v : V} {ds : List D} (h : Rp H v (.ntup ds)) : Rp H v (.tup ds) := by
  cases h with
  | ntup h n r => exact .tup (.inr ⟨_, h⟩) r
theorem Rp.ntupI {v : V} {ds : List D} (h : Rp H v (.ntup ds)) : ∃ a o xs, v = .ref a ∧ H a = some (.frz o (.tup xs)) ∧ o.dict = none ∧ Rps H xs ds := by
  cases h with
  | ntup h n r => exact ⟨_, _, _, rfl, h, n, r⟩
theorem Rp.tupI {v : V} {ds : List D} (h : Rp H v (.tup ds)) : ∃ a xs, v = .ref a ∧ Rd H a (.tup xs) ∧ Rps H xs ds := by
  cases h with
  | tup h r => exact ⟨_, _, rfl, h, r⟩
theorem Rp.intI {v : V} {i : Int} (h : Rp H v (.int i)) : v = .int i := by cases h; rfl
theorem Rp.blI {v : V} {i : Bool} (h : Rp H v (.bl i)) : v = .bl i := by cases h; rfl
theorem Rp.strI {v : V} {i : Str} (h : Rp H v (.str i)) : v = .str i := by cases h; rfl
theorem Rp.nonI {v : V} (h : Rp H v .non) : v = .non := by cases h; rfl
theorem Rps.length : ∀ {vs : List V} {ds : List D}, Rps H vs ds → vs.length = ds.length
  | _, _, .nil => rfl
  | _, _, .cons _ r => by rw [List.length_cons, List.length_cons, Rps.length r]
theorem Rps.get : ∀ {vs : List V} {ds : List D} {i : Nat} {d : D}, Rps H vs ds → ds[i]? = some d → ∃ v, vs[i]? = some v ∧ Rp H v d
  | _, _, _, _, .nil, e => by simp at e
  | _, _, 0, _, .cons r _, e => by simp at e; subst e; exact ⟨_, rfl, r⟩
  | _, _, i + 1, d, .cons _ t, e => by
    obtain ⟨u, h1, h2⟩ := Rps.get (i := i) (d := d) t (by simpa using e)
    exact ⟨u, by simpa using h1, h2⟩
theorem Rps.get' {vs : List V} {ds : List D} {i : Nat} {v : V} (r : Rps H vs ds) (e : vs[i]? = some v) : ∃ d, ds[i]? = some d ∧ Rp H v d := by
  have hi : i < ds.length := by
    rw [← r.length]
    exact (List.getElem?_eq_some_iff.mp e).1
  obtain ⟨u, h1, h2⟩ := r.get (List.getElem?_eq_getElem hi)
  rw [e] at h1
  cases h1
  exact ⟨_, List.getElem?_eq_getElem hi, h2⟩
theorem Rps.append : ∀ {vs ws : List V} {ds es : List D}, Rps H vs ds → Rps H ws es → Rps H (vs ++ ws) (ds ++ es)
  | _, _, _, _, .nil, s => s
  | _, _, _, _, .cons r t, s => .cons r (Rps.append t s)
theorem Rps.take : ∀ {vs : List V} {ds : List D} (n : Nat), Rps H vs ds → Rps H (vs.take n) (ds.take n)
  | _, _, 0, _ => .nil
  | _, _, _ + 1, .nil => .nil
  | _, _, n + 1, .cons r t => .cons r (Rps.take n t)
theorem Rps.drop : ∀ {vs : List V} {ds : List D} (n : Nat), Rps H vs ds → Rps H (vs.drop n) (ds.drop n)
  | _, _, 0, r => r
  | _, _, _ + 1, .nil => .nil
  | _, _, n + 1, .cons _ t => Rps.drop n t
theorem Rps.reverse : ∀ {vs : List V} {ds : List D}, Rps H vs ds → Rps H vs.reverse ds.reverse
  | _, _, .nil => .nil
  | _, _, .cons r t => by
    rw [List.reverse_cons, List.reverse_cons]
    exact Rps.append (Rps.reverse t) (.cons r .nil)
theorem Rps.eraseIdx : ∀ {vs : List V} {ds : List D} (n : Nat), Rps H vs ds → Rps H (vs.eraseIdx n) (ds.eraseIdx n)
  | _, _, _, .nil => by simp; exact .nil
  | _, _, 0, .cons r t => by simpa using t
  | _, _, n + 1, .cons r t => by
    rw [List.eraseIdx_cons_succ, List.eraseIdx_cons_succ]
    exact .cons r (Rps.eraseIdx n t)
theorem rps_ints : ∀ (ns : List Int), Rps H (ns.map V.int) (ns.map D.int)
  | [] => .nil
  | n :: ns => .cons (.int n) (rps_ints ns)
theorem rps_bls : ∀ (ns : List Bool), Rps H (ns.map V.bl) (ns.map D.bl)
  | [] => .nil
  | n :: ns => .cons (.bl n) (rps_bls ns)
theorem Rps.ints : ∀ {vs : List V} {ns : List Int}, Rps H vs (ns.map D.int) → vs = ns.map V.int
  | _, [], h => by
    rw [List.map_nil] at h
    cases h
    rfl
  | _, n :: ns, h => by
    rw [List.map_cons] at h
    cases h with
    | cons r t =>
      rw [List.map_cons, r.intI, Rps.ints t]
theorem Rps.bls : ∀ {vs : List V} {ns : List Bool}, Rps H vs (ns.map D.bl) → vs = ns.map V.bl
  | _, [], h => by
    rw [List.map_nil] at h
    cases h
    rfl
  | _, n :: ns, h => by
    rw [List.map_cons] at h
    cases h with
    | cons r t =>
      rw [List.map_cons, r.blI, Rps.bls t]
theorem Rps.one {vs : List V} {d : D} (h : Rps H vs [d]) : ∃ v, vs = [v] ∧ Rp H v d := by
  cases h with
  | cons r t => cases t; exact ⟨_, rfl, r⟩
theorem Rps.consI {vs : List V} {d : D} {ds : List D} (h : Rps H vs (d :: ds)) : ∃ v r, vs = v :: r ∧ Rp H v d ∧ Rps H r ds := by
  cases h with
  | cons r t => exact ⟨_, _, rfl, r, t⟩
theorem Rps.nilI {vs : List V} (h : Rps H vs []) : vs = [] := by cases h; rfl
end

/-! ### what a slot is known to hold -/
inductive A where
  | u | v (v : V) | d (d : D) | b (p : Addr) (ds : List D) | l (p : Addr) (ds : List D) | o (p : Addr) (o : HO)
abbrev Ab := List A
def own : A → Option Addr
  | .l p _ => some p
  | .o p _ => some p
  | _ => none
def Sl (K : PySem.W.Frag) (H0 H : Hp) (x : Option V) : A → Prop
  | .u => True
  | .v v => x = some v
  | .d d => ∃ v, x = some v ∧ Rp H v d
  | .b p ds => x = some (.ref p) ∧ ∃ xs, SqL K H0 p xs ∧ Rps H xs ds
  | .l p ds => x = some (.ref p) ∧ ∃ xs, H p = some (.lst xs) ∧ Rps H xs ds
  | .o p o => x = some (.ref p) ∧ H p = some o ∧ ¬ fixd o
structure StOk (K : PySem.W.Frag) (H0 : Hp) (ρ : Ab) (σ : L2.St) (H : Hp) : Prop where
  len : σ.length = ρ.length
  sl : ∀ (i : Nat) (a : A), ρ[i]? = some a → ∃ x, σ[i]? = some x ∧ Sl K H0 H x a
  ap : ∀ (i j : Nat) (a b : A) (p : Addr), ρ[i]? = some a → ρ[j]? = some b → own a = some p → own b = some p → i = j
  base : Ex H0 H
  fresh : ∀ (i : Nat) (a : A) (p : Addr), ρ[i]? = some a → own a = some p → H0 p = none
section
variable {K : PySem.W.Frag} {H0 H H' : Hp} {ρ : Ab} {σ : L2.St}
theorem Sl.mono {x : Option V} {a : A} (e : TEx H H') (k : ∀ p, own a = some p → H' p = H p) (h : Sl K H0 H x a) : Sl K H0 H' x a := by
  cases a with
  | u => trivial
  | v v => exact h
  | d d => obtain ⟨v, e1, r⟩ := h; exact ⟨v, e1, r.mono e⟩
  | b p ds => obtain ⟨e1, xs, h1, h2⟩ := h; exact ⟨e1, xs, h1, h2.mono e⟩
  | l p ds => obtain ⟨e1, xs, h1, h2⟩ := h; exact ⟨e1, xs, by rw [k p rfl]; exact h1, h2.mono e⟩
  | o p o => obtain ⟨e1, h1, h2⟩ := h; exact ⟨e1, by rw [k p rfl]; exact h1, h2⟩
theorem Sl.own_at {x : Option V} {a : A} {p : Addr} (h : Sl K H0 H x a) (e : own a = some p) : (∃ o, H p = some o) ∧ ∀ u, fixd u → H p ≠ some u := by
  cases a with
  | u => cases e
  | v v => cases e
  | d d => cases e
  | b p ds => cases e
  | l q ds =>
    cases e
    obtain ⟨e1, xs, h1, h2⟩ := h
    exact ⟨⟨_, h1⟩, fun u f z => by rw [h1] at z; cases z; exact f⟩
  | o q o =>
    cases e
    obtain ⟨e1, h1, h2⟩ := h
    exact ⟨⟨_, h1⟩, fun u f z => by rw [h1] at z; cases z; exact h2 f⟩
theorem StOk.ex (s : StOk K H0 ρ σ H) (e : Ex H H') : StOk K H0 ρ σ H' where
  len := s.len
  sl := fun i a h => by
    obtain ⟨x, h1, h2⟩ := s.sl i a h
    refine ⟨x, h1, h2.mono (tex e) fun p hp => ?_⟩
    obtain ⟨⟨o, ho⟩, _⟩ := h2.own_at hp
    rw [ho]
    exact e p o ho
  ap := s.ap
  base := s.base.trans e
  fresh := s.fresh
/-- a slot is stored -/
theorem StOk.set (s : StOk K H0 ρ σ H) (i : Nat) {v : V} {a : A} (h : Sl K H0 H (some v) a) (hf : ∀ p, own a = some p → H0 p = none ∧ ∀ j b, j ≠ i → ρ[j]? = some b → own b ≠ some p) : StOk K H0 (ρ.set i a) (σ.set i (some v)) H where
  len := by rw [List.length_set, List.length_set, s.len]
  sl := fun j b hb => by
    by_cases hj : j = i
    · subst hj
      have hl : j < ρ.length := by
        have := (List.getElem?_eq_some_iff.mp hb).1
        rwa [List.length_set] at this
      rw [List.getElem?_set_self hl] at hb
      cases hb
      exact ⟨some v, List.getElem?_set_self (by rw [s.len]; exact hl), h⟩
    · rw [List.getElem?_set_ne (Ne.symm hj)] at hb
      obtain ⟨x, h1, h2⟩ := s.sl j b hb
      exact ⟨x, by rw [List.getElem?_set_ne (Ne.symm hj)]; exact h1, h2⟩
  ap := fun j k b c p hb hc ob oc => by
    by_cases hj : j = i
    · subst hj
      by_cases hk : k = j
      · exact hk.symm
      · have hl : j < ρ.length := by
          have := (List.getElem?_eq_some_iff.mp hb).1
          rwa [List.length_set] at this
        rw [List.getElem?_set_self hl] at hb
        cases hb
        rw [List.getElem?_set_ne (Ne.symm hk)] at hc
        exact absurd oc ((hf p ob).2 k c hk hc)
    · by_cases hk : k = i
      · subst hk
        have hl : k < ρ.length := by
          have := (List.getElem?_eq_some_iff.mp hc).1
          rwa [List.length_set] at this
        rw [List.getElem?_set_self hl] at hc
        cases hc
        rw [List.getElem?_set_ne (Ne.symm hj)] at hb
        exact absurd ob ((hf p oc).2 j b hj hb)
      · rw [List.getElem?_set_ne (Ne.symm hj)] at hb
        rw [List.getElem?_set_ne (Ne.symm hk)] at hc
        exact s.ap j k b c p hb hc ob oc
  base := s.base
  fresh := fun j b p hb ob => by
    by_cases hj : j = i
    · subst hj
      have hl : j < ρ.length := by
        have := (List.getElem?_eq_some_iff.mp hb).1
        rwa [List.length_set] at this
      rw [List.getElem?_set_self hl] at hb
      cases hb
      exact (hf p ob).1
    · rw [List.getElem?_set_ne (Ne.symm hj)] at hb
      exact s.fresh j b p hb ob
theorem StOk.setd (s : StOk K H0 ρ σ H) (i : Nat) {v : V} {d : D} (h : Rp H v d) : StOk K H0 (ρ.set i (.d d)) (σ.set i (some v)) H :=
  s.set i ⟨v, rfl, h⟩ fun _ z => nomatch z
theorem StOk.setu (s : StOk K H0 ρ σ H) (i : Nat) {v : V} : StOk K H0 (ρ.set i .u) (σ.set i (some v)) H :=
  s.set i trivial fun _ z => nomatch z
/-- what the slots own is not a new address -/
theorem StOk.new (s : StOk K H0 ρ σ H) {p : Addr} (hp : H p = none) {j : Nat} {b : A} (hb : ρ[j]? = some b) : own b ≠ some p := fun z => by
  obtain ⟨x, _, h2⟩ := s.sl j b hb
  obtain ⟨⟨o, ho⟩, _⟩ := h2.own_at z
  rw [hp] at ho
  cases ho
theorem StOk.free (s : StOk K H0 ρ σ H) {p : Addr} (hp : H p = none) : H0 p = none := by
  cases q : H0 p with
  | none => rfl
  | some o =>
    have := s.base p o q
    rw [hp] at this
    cases this
/-- a new list at p comes to slot i -/
theorem StOk.setl (s : StOk K H0 ρ σ H) (i : Nat) {p : Addr} {xs : List V} {ds : List D} (hp : H p = none) (e : Ex H H') (h : H' p = some (.lst xs)) (r : Rps H' xs ds) : StOk K H0 (ρ.set i (.l p ds)) (σ.set i (some (.ref p))) H' :=
  (s.ex e).set i ⟨rfl, xs, h, r⟩ fun q z => by
    cases z
    exact ⟨s.free hp, fun j b _ hb => s.new hp hb⟩
/-- an own list is changed -/
theorem StOk.mut (s : StOk K H0 ρ σ H) {k : Nat} {p : Addr} {ds ds' : List D} {xs' : List V} (hk : ρ[k]? = some (.l p ds)) (r : Rps H xs' ds') : StOk K H0 (ρ.set k (.l p ds')) σ (upd H p (.lst xs')) ∧ TEx H (upd H p (.lst xs')) := by
  obtain ⟨x, h1, rfl, xs, h2, h3⟩ := s.sl k _ hk
  have te : TEx H (upd H p (.lst xs')) := tex_lst h2
  have kl : k < ρ.length := (List.getElem?_eq_some_iff.mp hk).1
  refine ⟨⟨by rw [List.length_set, s.len], fun j b hb => ?_, fun j l b c q hb hc ob oc => ?_, ex_mut s.base (s.fresh k _ p hk rfl), fun j b q hb ob => ?_⟩, te⟩
  · by_cases hj : j = k
    · subst hj
      rw [List.getElem?_set_self kl] at hb
      cases hb
      exact ⟨_, h1, rfl, xs', upd_same, r.mono te⟩
    · rw [List.getElem?_set_ne (Ne.symm hj)] at hb
      obtain ⟨y, g1, g2⟩ := s.sl j b hb
      refine ⟨y, g1, g2.mono te fun q hq => upd_ne fun z => ?_⟩
      subst z
      exact hj (s.ap j k b _ q hb hk hq rfl)
  · have to : ∀ {j : Nat} {b : A}, (ρ.set k (.l p ds'))[j]? = some b → own b = some q → ∃ b', ρ[j]? = some b' ∧ own b' = some q := fun {j b} hb ob => by
      by_cases hj : j = k
      · subst hj
        rw [List.getElem?_set_self kl] at hb
        cases hb
        exact ⟨_, hk, ob⟩
      · rw [List.getElem?_set_ne (Ne.symm hj)] at hb
        exact ⟨b, hb, ob⟩
    obtain ⟨b', g1, g2⟩ := to hb ob
    obtain ⟨c', g3, g4⟩ := to hc oc
    exact s.ap j l b' c' q g1 g3 g2 g4
  · by_cases hj : j = k
    · subst hj
      rw [List.getElem?_set_self kl] at hb
      cases hb
      exact s.fresh j _ q hk ob
    · rw [List.getElem?_set_ne (Ne.symm hj)] at hb
      exact s.fresh j b q hb ob
/-- an own object is changed -/
theorem StOk.muto (s : StOk K H0 ρ σ H) {k : Nat} {p : Addr} {o o' : HO} (hk : ρ[k]? = some (.o p o)) (ho : ¬ fixd o') : StOk K H0 (ρ.set k (.o p o')) σ (upd H p o') ∧ TEx H (upd H p o') := by
  obtain ⟨x, h1, rfl, h2, h3⟩ := s.sl k _ hk
  have te : TEx H (upd H p o') := tex_upd fun u f z => by
    rw [h2] at z
    cases z
    exact h3 f
  have kl : k < ρ.length := (List.getElem?_eq_some_iff.mp hk).1
  refine ⟨⟨by rw [List.length_set, s.len], fun j b hb => ?_, fun j l b c q hb hc ob oc => ?_, ex_mut s.base (s.fresh k _ p hk rfl), fun j b q hb ob => ?_⟩, te⟩
  · by_cases hj : j = k
    · subst hj
      rw [List.getElem?_set_self kl] at hb
      cases hb
      exact ⟨_, h1, rfl, upd_same, ho⟩
    · rw [List.getElem?_set_ne (Ne.symm hj)] at hb
      obtain ⟨y, g1, g2⟩ := s.sl j b hb
      refine ⟨y, g1, g2.mono te fun q hq => upd_ne fun z => ?_⟩
      subst z
      exact hj (s.ap j k b _ q hb hk hq rfl)
  · have to : ∀ {j : Nat} {b : A}, (ρ.set k (.o p o'))[j]? = some b → own b = some q → ∃ b', ρ[j]? = some b' ∧ own b' = some q := fun {j b} hb ob => by
      by_cases hj : j = k
      · subst hj
        rw [List.getElem?_set_self kl] at hb
        cases hb
        exact ⟨_, hk, ob⟩
      · rw [List.getElem?_set_ne (Ne.symm hj)] at hb
        exact ⟨b, hb, ob⟩
    obtain ⟨b', g1, g2⟩ := to hb ob
    obtain ⟨c', g3, g4⟩ := to hc oc
    exact s.ap j l b' c' q g1 g3 g2 g4
  · by_cases hj : j = k
    · subst hj
      rw [List.getElem?_set_self kl] at hb
      cases hb
      exact s.fresh j _ q hk ob
    · rw [List.getElem?_set_ne (Ne.symm hj)] at hb
      exact s.fresh j b q hb ob
/-- a slot forgotten -/
theorem StOk.forget (s : StOk K H0 ρ σ H) (i : Nat) : StOk K H0 (ρ.set i .u) σ H where
  len := by rw [List.length_set, s.len]
  sl := fun j b hb => by
    by_cases hj : j = i
    · subst hj
      have hl : j < ρ.length := by
        have := (List.getElem?_eq_some_iff.mp hb).1
        rwa [List.length_set] at this
      rw [List.getElem?_set_self hl] at hb
      cases hb
      have hl' : j < σ.length := by rw [s.len]; exact hl
      exact ⟨_, List.getElem?_eq_getElem hl', trivial⟩
    · rw [List.getElem?_set_ne (Ne.symm hj)] at hb
      exact s.sl j b hb
  ap := fun j k b c p hb hc ob oc => by
    have to : ∀ {j : Nat} {b : A}, (ρ.set i .u)[j]? = some b → own b = some p → ρ[j]? = some b := fun {j b} hb ob => by
      by_cases hj : j = i
      · subst hj
        have hl : j < ρ.length := by
          have := (List.getElem?_eq_some_iff.mp hb).1
          rwa [List.length_set] at this
        rw [List.getElem?_set_self hl] at hb
        cases hb
        cases ob
      · rwa [List.getElem?_set_ne (Ne.symm hj)] at hb
    exact s.ap j k b c p (to hb ob) (to hc oc) ob oc
  base := s.base
  fresh := fun j b p hb ob => by
    by_cases hj : j = i
    · subst hj
      have hl : j < ρ.length := by
        have := (List.getElem?_eq_some_iff.mp hb).1
        rwa [List.length_set] at this
      rw [List.getElem?_set_self hl] at hb
      cases hb
      cases ob
    · rw [List.getElem?_set_ne (Ne.symm hj)] at hb
      exact s.fresh j b p hb ob
def wipeA (ρ : Ab) : List Nat → Ab
  | [] => ρ
  | v :: vs => (wipeA ρ vs).set v .u
theorem StOk.wipe1 (s : StOk K H0 ρ σ H) (i : Nat) : StOk K H0 (ρ.set i .u) (σ.set i none) H := by
  have f := s.forget i
  refine ⟨by rw [List.length_set]; exact f.len, fun j b hb => ?_, f.ap, f.base, f.fresh⟩
  by_cases hj : j = i
  · subst hj
    have hl : j < ρ.length := by
      have := (List.getElem?_eq_some_iff.mp hb).1
      rwa [List.length_set] at this
    rw [List.getElem?_set_self hl] at hb
    cases hb
    exact ⟨none, List.getElem?_set_self (by rw [s.len]; exact hl), trivial⟩
  · rw [List.getElem?_set_ne (Ne.symm hj)] at hb ⊢
    exact s.sl j b hb
theorem StOk.wipe (s : StOk K H0 ρ σ H) : ∀ vs : List Nat, StOk K H0 (wipeA ρ vs) (L2.wipe σ vs) H
  | [] => s
  | v :: vs => (StOk.wipe s vs).wipe1 v
end
theorem wipe_get {σ : L2.St} {i : Nat} : ∀ {vs : List Nat}, i ∉ vs → (wipe σ vs)[i]? = σ[i]?
  | [], _ => rfl
  | v :: vs, h => by
    show ((wipe σ vs).set v none)[i]? = _
    rw [List.getElem?_set_ne (fun z => h (by rw [z]; exact List.mem_cons_self))]
    exact wipe_get fun z => h (List.mem_cons_of_mem _ z)
theorem wipe_in {σ : L2.St} {i : Nat} : ∀ {vs : List Nat}, i ∈ vs → i < σ.length → (wipe σ vs)[i]? = some none
  | v :: vs, h, hl => by
    show ((wipe σ vs).set v none)[i]? = _
    by_cases e : v = i
    · subst e
      rw [List.getElem?_set_self (by rw [wipe_length]; exact hl)]
    · rw [List.getElem?_set_ne e]
      rcases List.mem_cons.mp h with z | z
      · exact absurd z.symm e
      · exact wipe_in z hl
/-- two rows of slots that agree outside of vs -/
theorem wipe_eq {σ σ' : L2.St} {vs : List Nat} (hl : σ'.length = σ.length) (h : ∀ i, i ∉ vs → σ'[i]? = σ[i]?) : wipe σ' vs = wipe σ vs := by
  apply List.ext_getElem?
  intro i
  by_cases hi : i ∈ vs
  · by_cases hlt : i < σ.length
    · rw [wipe_in hi hlt, wipe_in hi (by rw [hl]; exact hlt)]
    · rw [List.getElem?_eq_none (by rw [wipe_length]; omega), List.getElem?_eq_none (by rw [wipe_length]; omega)]
  · rw [wipe_get hi, wipe_get hi, h i hi]
theorem wipe_wipe {σ : L2.St} {vs : List Nat} : wipe (wipe σ vs) vs = wipe σ vs := wipe_eq (wipe_length _ _) fun _ h => wipe_get h
theorem wipe_set {σ : L2.St} {vs : List Nat} {j : Nat} {x : Option V} (h : j ∈ vs) : wipe (σ.set j x) vs = wipe σ vs := wipe_eq (List.length_set ..) fun i hi => List.getElem?_set_ne fun z => hi (by rw [← z]; exact h)
end Wk
/-! ## K1 -/
set_option Elab.async false
set_option linter.all false
set_option autoImplicit false
set_option maxRecDepth 100000
set_option maxHeartbeats 2000000
/-! What a reading evaluates to, over slots by data. -/
namespace Wk
open PySem PySem.Spec L2

abbrev PV := Hp → V → Hp → Prop
def PD (d : D) : PV := fun _ v H' => Rp H' v d
def PDs (S : D → Prop) : PV := fun _ v H' => ∃ d, S d ∧ Rp H' v d
def PN (ds : List D) : PV := fun H v H' => ∃ p xs, v = .ref p ∧ H p = none ∧ H' p = some (.lst xs) ∧ Rps H' xs ds
def PNs (S : List D → Prop) : PV := fun H v H' => ∃ ds, S ds ∧ PN ds H v H'
def PS (K : PySem.W.Frag) (ds : List D) : PV := fun _ v H' => ∃ p xs, v = .ref p ∧ SqL K H' p xs ∧ Rps H' xs ds
abbrev PZ : PV := PDs fun d => ∃ i, d = .int i

inductive Ar where
  | d (d : D) | s (ds : List D)
def ArOk (K : PySem.W.Frag) (H : Hp) (v : V) : Ar → Prop
  | .d d => Rp H v d
  | .s ds => ∃ p xs, v = .ref p ∧ SqL K H p xs ∧ Rps H xs ds
inductive ArsOk (K : PySem.W.Frag) (H : Hp) : List V → List Ar → Prop
  | nil : ArsOk K H [] []
  | cons {v : V} {vs : List V} {a : Ar} {as : List Ar} : ArOk K H v a → ArsOk K H vs as → ArsOk K H (v :: vs) (a :: as)
theorem sql_mono {K : PySem.W.Frag} {H H' : Hp} {p : Addr} {xs : List V} (e : Ex H H') (h : SqL K H p xs) : SqL K H' p xs := Same.seq e h
theorem ArOk.mono {K : PySem.W.Frag} {H H' : Hp} {v : V} {a : Ar} (e : Ex H H') (h : ArOk K H v a) : ArOk K H' v a := by
  cases a with
  | d d => exact Rp.mono (tex e) h
  | s ds => obtain ⟨p, xs, h1, h2, h3⟩ := h; exact ⟨p, xs, h1, sql_mono e h2, h3.mono (tex e)⟩
theorem ArsOk.mono {K : PySem.W.Frag} {H H' : Hp} (e : Ex H H') : ∀ {vs : List V} {as : List Ar}, ArsOk K H vs as → ArsOk K H' vs as
  | _, _, .nil => .nil
  | _, _, .cons h r => .cons (h.mono e) (ArsOk.mono e r)
theorem ArsOk.length {K : PySem.W.Frag} {H : Hp} : ∀ {vs : List V} {as : List Ar}, ArsOk K H vs as → vs.length = as.length
  | _, _, .nil => rfl
  | _, _, .cons h r => by rw [List.length_cons, List.length_cons, ArsOk.length r]
/-- a def's promise: from these arguments this comes back, all that stood stands -/
def spec (K : PySem.W.Frag) (pre : List Ar → PV → Prop) : Sp := fun vs H Q _ => ∃ as P, ArsOk K H vs as ∧ pre as P ∧ ∀ v H', Ex H H' → P H v H' → Q v H'

section
variable (K : PySem.W.Frag) (H0 : Hp)
def EvP (te : TE) (ρ : Ab) (P : PV) : Prop := ∀ σ H, StOk K H0 ρ σ H → ∀ Q : VK, (∀ v H', Ex H H' → P H v H' → Q v H') → te σ H Q
def EvT (tt : TT) (ρ : Ab) (b : Bool) : Prop := ∀ σ H, StOk K H0 ρ σ H → ∀ Q : Bool → Hp → Prop, (∀ H', Ex H H' → Q b H') → tt σ H Q
def EvA (ta : TA) (ρ : Ab) (as : List Ar) : Prop := ∀ σ H, StOk K H0 ρ σ H → ∀ Q : List V → Hp → Prop, (∀ vs H', Ex H H' → ArsOk K H' vs as → Q vs H') → ta σ H Q
def EvAn (ta : TA) (ρ : Ab) (S : List Ar → Prop) : Prop := ∀ σ H, StOk K H0 ρ σ H → ∀ Q : List V → Hp → Prop, (∀ vs H' as, Ex H H' → S as → ArsOk K H' vs as → Q vs H') → ta σ H Q
def EvO (to : TO) (ρ : Ab) (o : Option Int) : Prop := ∀ σ H, StOk K H0 ρ σ H → ∀ Q : Option Int → Hp → Prop, (∀ H', Ex H H' → Q o H') → to σ H Q
end
section
variable {K : PySem.W.Frag} {H0 : Hp} {ρ : Ab} {te ta tb tc : TE} {P P1 P2 P3 : PV}
theorem PN.s {ds : List D} {H : Hp} {v : V} {H' : Hp} (h : PN ds H v H') : PS K ds H v H' := by
  obtain ⟨p, xs, h1, h2, h3, h4⟩ := h
  exact ⟨p, xs, h1, .inl (.inl h3), h4⟩
theorem PN.base {ds : List D} {H H1 : Hp} {v : V} {H' : Hp} (e : Ex H H1) (h : PN ds H1 v H') : PN ds H v H' := by
  obtain ⟨p, xs, h1, h2, h3, h4⟩ := h
  exact ⟨p, xs, h1, Same.free e h2, h3, h4⟩
theorem PN.mono {ds : List D} {H H1 : Hp} {v : V} {H' : Hp} (e : Ex H1 H') (h : PN ds H v H1) : PN ds H v H' := by
  obtain ⟨p, xs, h1, h2, h3, h4⟩ := h
  exact ⟨p, xs, h1, h2, e _ _ h3, h4.mono (tex e)⟩
theorem PS.mono {ds : List D} {H H1 : Hp} {v : V} {H' : Hp} (e : Ex H1 H') (h : PS K ds H v H1) : PS K ds H v H' := by
  obtain ⟨p, xs, h1, h2, h3⟩ := h
  exact ⟨p, xs, h1, sql_mono e h2, h3.mono (tex e)⟩
theorem PD.mono {d : D} {H H1 : Hp} {v : V} {H' : Hp} (e : Ex H1 H') (h : PD d H v H1) : PD d H v H' := Rp.mono (tex e) h
theorem EvP.to (h : EvP K H0 te ρ P) (f : ∀ H v H', P H v H' → P1 H v H') : EvP K H0 te ρ P1 := fun σ H s Q q => h σ H s Q fun v H' e p => q v H' e (f _ _ _ p)
theorem EvP.S {ds : List D} (h : EvP K H0 te ρ (PN ds)) : EvP K H0 te ρ (PS K ds) := h.to fun _ _ _ => PN.s
theorem EvP.any {d : D} {S : D → Prop} (h : EvP K H0 te ρ (PD d)) (hs : S d) : EvP K H0 te ρ (PDs S) := h.to fun _ _ _ r => ⟨d, hs, r⟩
theorem EvP.eqD {d d' : D} (h : EvP K H0 te ρ (PD d)) (e : d = d') : EvP K H0 te ρ (PD d') := e ▸ h
theorem EvP.eqS {d d' : List D} (h : EvP K H0 te ρ (PS K d)) (e : d = d') : EvP K H0 te ρ (PS K d') := e ▸ h
theorem EvP.eqN {d d' : List D} (h : EvP K H0 te ρ (PN d)) (e : d = d') : EvP K H0 te ρ (PN d') := e ▸ h
theorem EvT.eqT {t : TT} {d d' : Bool} (h : EvT K H0 t ρ d) (e : d = d') : EvT K H0 t ρ d' := e ▸ h

/-! ### names and constants -/
theorem ev_var {i : Nat} {d : D} (h : ρ[i]? = some (.d d)) : EvP K H0 (tVar i) ρ (PD d) := fun σ H s Q q => by
  obtain ⟨x, h1, v, rfl, r⟩ := s.sl i _ h
  exact ⟨v, h1, q v H (Same.refl H) r⟩
theorem ev_varL {i : Nat} {p : Addr} {ds : List D} (h : ρ[i]? = some (.l p ds)) : EvP K H0 (tVar i) ρ (PS K ds) := fun σ H s Q q => by
  obtain ⟨x, h1, rfl, xs, h2, r⟩ := s.sl i _ h
  exact ⟨_, h1, q _ H (Same.refl H) ⟨p, xs, rfl, .inl (.inl h2), r⟩⟩
theorem ev_varB {i : Nat} {p : Addr} {ds : List D} (h : ρ[i]? = some (.b p ds)) : EvP K H0 (tVar i) ρ (PS K ds) := fun σ H s Q q => by
  obtain ⟨x, h1, rfl, xs, h2, r⟩ := s.sl i _ h
  exact ⟨_, h1, q _ H (Same.refl H) ⟨p, xs, rfl, sql_mono s.base h2, r⟩⟩
/-- an own list, by its address -/
theorem ev_varP {i : Nat} {p : Addr} {ds : List D} (h : ρ[i]? = some (.l p ds)) : EvP K H0 (tVar i) ρ (fun _ v H' => v = .ref p ∧ ∃ xs, H' p = some (.lst xs) ∧ Rps H' xs ds) := fun σ H s Q q => by
  obtain ⟨x, h1, rfl, xs, h2, r⟩ := s.sl i _ h
  exact ⟨_, h1, q _ H (Same.refl H) ⟨rfl, xs, h2, r⟩⟩
theorem ev_int {i : Int} : EvP K H0 (tC (.int i)) ρ (PD (.int i)) := fun σ H s Q q => q _ H (Same.refl H) (.int i)
theorem ev_str {x : Str} : EvP K H0 (tC (.str x)) ρ (PD (.str x)) := fun σ H s Q q => q _ H (Same.refl H) (.str x)
theorem ev_bl {x : Bool} : EvP K H0 (tC (.bl x)) ρ (PD (.bl x)) := fun σ H s Q q => q _ H (Same.refl H) (.bl x)
theorem ev_non : EvP K H0 (tC .non) ρ (PD .non) := fun σ H s Q q => q _ H (Same.refl H) .non

/-! ### two operands -/
theorem ev_op {r : R2} (ha : EvP K H0 ta ρ P1) (hb : EvP K H0 tb ρ P2)
    (hr : ∀ H H1 H2 x y, Ex H H1 → Ex H1 H2 → P1 H x H1 → P2 H1 y H2 → ∀ Q : VK, (∀ v H', Ex H2 H' → P3 H v H' → Q v H') → r x y H2 Q) : EvP K H0 (tOp r ta tb) ρ P3 := fun σ H s Q q =>
  ha σ H s _ fun x H1 e1 p1 => hb σ H1 (s.ex e1) _ fun y H2 e2 p2 => hr H H1 H2 x y e1 e2 p1 p2 Q fun v H' e3 p3 => q v H' ((e1.trans e2).trans e3) p3
theorem ev_ii {g : Int → Int → Int} {i j : Int} (ha : EvP K H0 ta ρ (PD (.int i))) (hb : EvP K H0 tb ρ (PD (.int j))) : EvP K H0 (tOp (rI0 fun i j => .int (g i j)) ta tb) ρ (PD (.int (g i j))) :=
  ev_op ha hb fun H H1 H2 x y e1 e2 p1 p2 Q q => ⟨i, j, Rp.intI p1, Rp.intI p2, q _ H2 (Same.refl _) (.int _)⟩
theorem ev_iiC {C : Int → Int → Prop} {g : Int → Int → Int} {i j : Int} (ha : EvP K H0 ta ρ (PD (.int i))) (hb : EvP K H0 tb ρ (PD (.int j))) (hc : C i j) : EvP K H0 (tOp (rI C fun i j => .int (g i j)) ta tb) ρ (PD (.int (g i j))) :=
  ev_op ha hb fun H H1 H2 x y e1 e2 p1 p2 Q q => ⟨i, j, Rp.intI p1, Rp.intI p2, hc, q _ H2 (Same.refl _) (.int _)⟩
theorem ev_ib {g : Int → Int → Bool} {i j : Int} (ha : EvP K H0 ta ρ (PD (.int i))) (hb : EvP K H0 tb ρ (PD (.int j))) : EvP K H0 (tOp (rI0 fun i j => .bl (g i j)) ta tb) ρ (PD (.bl (g i j))) :=
  ev_op ha hb fun H H1 H2 x y e1 e2 p1 p2 Q q => ⟨i, j, Rp.intI p1, Rp.intI p2, q _ H2 (Same.refl _) (.bl _)⟩
/-- .. of ints that are not told -/
theorem ev_iiN {g : Int → Int → Int} (ha : EvP K H0 ta ρ PZ) (hb : EvP K H0 tb ρ PZ) : EvP K H0 (tOp (rI0 fun i j => .int (g i j)) ta tb) ρ PZ :=
  ev_op ha hb fun H H1 H2 x y e1 e2 ⟨_, ⟨i, rfl⟩, p1⟩ ⟨_, ⟨j, rfl⟩, p2⟩ Q q => ⟨i, j, Rp.intI p1, Rp.intI p2, q _ H2 (Same.refl _) ⟨_, ⟨_, rfl⟩, .int _⟩⟩
theorem ev_iiCN {C : Int → Int → Prop} {g : Int → Int → Int} {j : Int} (ha : EvP K H0 ta ρ PZ) (hb : EvP K H0 tb ρ (PD (.int j))) (hc : ∀ i, C i j) : EvP K H0 (tOp (rI C fun i j => .int (g i j)) ta tb) ρ PZ :=
  ev_op ha hb fun H H1 H2 x y e1 e2 ⟨_, ⟨i, rfl⟩, p1⟩ p2 Q q => ⟨i, j, Rp.intI p1, Rp.intI p2, hc i, q _ H2 (Same.refl _) ⟨_, ⟨_, rfl⟩, .int _⟩⟩
theorem ev_neg {i : Int} (ha : EvP K H0 ta ρ (PD (.int i))) : EvP K H0 (tUn (rU fun i => .int (-i)) ta) ρ (PD (.int (-i))) := fun σ H s Q q =>
  ha σ H s _ fun x H1 e1 p1 => ⟨i, Rp.intI p1, q _ H1 e1 (.int _)⟩
theorem ev_eqI {i j : Int} (ha : EvP K H0 ta ρ (PD (.int i))) (hb : EvP K H0 tb ρ (PD (.int j))) : EvP K H0 (tOp rEq ta tb) ρ (PD (.bl (decide (i = j)))) :=
  ev_op ha hb fun H H1 H2 x y e1 e2 p1 p2 Q q => by
    rw [Rp.intI p1, Rp.intI p2]
    refine ⟨rfl, q _ H2 (Same.refl _) ?_⟩
    rw [show decide (V.int i = V.int j) = decide (i = j) by simp]
    exact .bl _
theorem ev_neI {i j : Int} (ha : EvP K H0 ta ρ (PD (.int i))) (hb : EvP K H0 tb ρ (PD (.int j))) : EvP K H0 (tOp rNe ta tb) ρ (PD (.bl (!decide (i = j)))) :=
  ev_op ha hb fun H H1 H2 x y e1 e2 p1 p2 Q q => by
    rw [Rp.intI p1, Rp.intI p2]
    refine ⟨rfl, q _ H2 (Same.refl _) ?_⟩
    rw [show decide (V.int i = V.int j) = decide (i = j) by simp]
    exact .bl _
theorem ev_eqS {i j : Str} (ha : EvP K H0 ta ρ (PD (.str i))) (hb : EvP K H0 tb ρ (PD (.str j))) : EvP K H0 (tOp rEq ta tb) ρ (PD (.bl (decide (i = j)))) :=
  ev_op ha hb fun H H1 H2 x y e1 e2 p1 p2 Q q => by
    rw [Rp.strI p1, Rp.strI p2]
    refine ⟨rfl, q _ H2 (Same.refl _) ?_⟩
    rw [show decide (V.str i = V.str j) = decide (i = j) by simp]
    exact .bl _
theorem ev_neS {i j : Str} (ha : EvP K H0 ta ρ (PD (.str i))) (hb : EvP K H0 tb ρ (PD (.str j))) : EvP K H0 (tOp rNe ta tb) ρ (PD (.bl (!decide (i = j)))) :=
  ev_op ha hb fun H H1 H2 x y e1 e2 p1 p2 Q q => by
    rw [Rp.strI p1, Rp.strI p2]
    refine ⟨rfl, q _ H2 (Same.refl _) ?_⟩
    rw [show decide (V.str i = V.str j) = decide (i = j) by simp]
    exact .bl _
theorem ev_neB {i j : Bool} (ha : EvP K H0 ta ρ (PD (.bl i))) (hb : EvP K H0 tb ρ (PD (.bl j))) : EvP K H0 (tOp rNe ta tb) ρ (PD (.bl (!decide (i = j)))) :=
  ev_op ha hb fun H H1 H2 x y e1 e2 p1 p2 Q q => by
    rw [Rp.blI p1, Rp.blI p2]
    refine ⟨rfl, q _ H2 (Same.refl _) ?_⟩
    rw [show decide (V.bl i = V.bl j) = decide (i = j) by simp]
    exact .bl _
theorem ev_notBl {i j : Bool} (ha : EvP K H0 ta ρ (PD (.bl i))) (hb : EvP K H0 tb ρ (PD (.bl j))) : EvP K H0 (tOp rNotB ta tb) ρ (PD (.bl (!decide (i = j)))) :=
  ev_op ha hb fun H H1 H2 x y e1 e2 p1 p2 Q q => ⟨i, j, Rp.blI p1, Rp.blI p2, q _ H2 (Same.refl _) (.bl _)⟩
def isNon : D → Bool
  | .non => true
  | _ => false
theorem Rp.non_iff {H : Hp} {v : V} {d : D} (h : Rp H v d) : decide (v = .non) = isNon d := by
  cases h <;> simp [isNon]
theorem ev_isN {d : D} (ha : EvP K H0 ta ρ (PD d)) : EvP K H0 (tOp (fun x y H Q => y = .non ∧ Q (.bl (decide (x = .non))) H) ta (tC .non)) ρ (PD (.bl (isNon d))) :=
  ev_op ha ev_non fun H H1 H2 x y e1 e2 p1 p2 Q q => ⟨Rp.nonI p2, q _ H2 (Same.refl _) (by rw [p1.non_iff]; exact .bl _)⟩
theorem ev_notN {d : D} (ha : EvP K H0 ta ρ (PD d)) : EvP K H0 (tOp (fun x y H Q => y = .non ∧ Q (.bl (!decide (x = .non))) H) ta (tC .non)) ρ (PD (.bl (!isNon d))) :=
  ev_op ha ev_non fun H H1 H2 x y e1 e2 p1 p2 Q q => ⟨Rp.nonI p2, q _ H2 (Same.refl _) (by rw [p1.non_iff]; exact .bl _)⟩

/-! ### in, not in -/
theorem inV_ints (x : Int) (ns : List Int) : inV (.int x) (ns.map V.int) = decide (x ∈ ns) := by
  induction ns with
  | nil => simp [inV]
  | cons n ns ih =>
    have : inV (.int x) ((n :: ns).map V.int) = (eqV (.int n) (.int x) || inV (.int x) (ns.map V.int)) := by simp [inV]
    rw [this, ih]
    by_cases h : n = x
    · subst h; simp [eqV]
    · have h' : ¬ x = n := fun z => h z.symm
      simp [eqV, h, h']
theorem flat_ints (ns : List Int) : (ns.map V.int).all flatV = true := by simp [flatV]
theorem ev_inL {neg : Bool} {x : Int} {ns : List Int} (ha : EvP K H0 ta ρ (PD (.int x))) (hb : EvP K H0 tb ρ (PS K (ns.map D.int))) : EvP K H0 (tOp (rIn K neg) ta tb) ρ (PD (.bl (if neg then !decide (x ∈ ns) else decide (x ∈ ns)))) :=
  ev_op ha hb fun H H1 H2 a y e1 e2 p1 p2 Q q => by
    obtain ⟨p, xs, rfl, hs, r⟩ := p2
    rw [Rp.intI p1]
    have := r.ints
    subst this
    refine ⟨p, _, rfl, .inl hs, rfl, flat_ints ns, q _ H2 (Same.refl _) ?_⟩
    rw [inV_ints]
    exact .bl _
theorem ev_inT {neg : Bool} {x : Int} {ns : List Int} (ha : EvP K H0 ta ρ (PD (.int x))) (hb : EvP K H0 tb ρ (PD (.tup (ns.map D.int)))) : EvP K H0 (tOp (rIn K neg) ta tb) ρ (PD (.bl (if neg then !decide (x ∈ ns) else decide (x ∈ ns)))) :=
  ev_op ha hb fun H H1 H2 a y e1 e2 p1 p2 Q q => by
    obtain ⟨p, xs, rfl, hs, r⟩ := Rp.tupI p2
    rw [Rp.intI p1]
    have := r.ints
    subst this
    refine ⟨p, _, rfl, .inr (.inl hs), rfl, flat_ints ns, q _ H2 (Same.refl _) ?_⟩
    rw [inV_ints]
    exact .bl _

/-! ### == of data -/
mutual
def toP : D → PyData
  | .non => .none
  | .bl b => .bool b
  | .int i => .int i
  | .str s => .str s
  | .tup ds => .tuple (toPs ds)
  | .ntup ds => .tuple (toPs ds)
def toPs : List D → List PyData
  | [] => []
  | d :: ds => toP d :: toPs ds
end
mutual
theorem Rp.dp {H : Hp} : ∀ {v : V} {d : D}, Rp H v d → Dp K H v (toP d)
  | _, _, .non => .non
  | _, _, .bl b => .bl b
  | _, _, .int i => .int i
  | _, _, .str s => .str s
  | _, _, .tup h r => .tup (.inl h) (Rps.dp r)
  | _, _, .ntup h n r => .tup (.inl (.inr ⟨_, h⟩)) (Rps.dp r)
theorem Rps.dp {H : Hp} : ∀ {vs : List V} {ds : List D}, Rps H vs ds → DpAll K H vs (toPs ds)
  | _, _, .nil => .nil
  | _, _, .cons h r => .cons (Rp.dp h) (Rps.dp r)
end
theorem eqv_ints : ∀ ns ms : List Int, PyData.eqvAll (toPs (ns.map D.int)) (toPs (ms.map D.int)) = decide (ns = ms)
  | [], [] => rfl
  | [], m :: ms => by simp [toPs, PyData.eqvAll]
  | n :: ns, [] => by simp [toPs, PyData.eqvAll]
  | n :: ns, m :: ms => by
    show (PyData.eqv (.int n) (.int m) && PyData.eqvAll (toPs (ns.map D.int)) (toPs (ms.map D.int))) = _
    rw [eqv_ints ns ms]
    show ((n == m) && decide (ns = ms)) = decide (n :: ns = m :: ms)
    by_cases h : n = m
    · subst h; simp
    · simp [h]
theorem lay_ints : ∀ ns : List Int, PyData.canLayAll0 (toPs (ns.map D.int)) = true ∧ PyData.depthAll (toPs (ns.map D.int)) = 0
  | [] => ⟨rfl, rfl⟩
  | n :: ns => by
    obtain ⟨h1, h2⟩ := lay_ints ns
    constructor
    · show (PyData.canLay0 (.int n) && PyData.canLayAll0 (toPs (ns.map D.int))) = true
      rw [h1]; rfl
    · show max (PyData.depth (.int n)) (PyData.depthAll (toPs (ns.map D.int))) = 0
      rw [h2]; rfl
theorem shaped_lints (ns : List Int) : SeqAt.shaped (.list (toPs (ns.map D.int))) = true := by
  obtain ⟨h1, h2⟩ := lay_ints ns
  show (PyData.canLay0 (.list _) && decide (PyData.depth (.list _) ≤ 64)) = true
  have e1 : PyData.canLay0 (.list (toPs (ns.map D.int))) = true := by simpa [PyData.canLay0] using h1
  have e2 : PyData.depth (.list (toPs (ns.map D.int))) = 1 := by
    show PyData.depthAll _ + 1 = 1
    rw [h2]
  rw [e1, e2]; rfl
theorem shaped_tints (ns : List Int) : SeqAt.shaped (.tuple (toPs (ns.map D.int))) = true := by
  obtain ⟨h1, h2⟩ := lay_ints ns
  show (PyData.canLay0 (.tuple _) && decide (PyData.depth (.tuple _) ≤ 64)) = true
  have e1 : PyData.canLay0 (.tuple (toPs (ns.map D.int))) = true := by simpa [PyData.canLay0] using h1
  have e2 : PyData.depth (.tuple (toPs (ns.map D.int))) = 1 := by
    show PyData.depthAll _ + 1 = 1
    rw [h2]
  rw [e1, e2]; rfl
theorem PS.dp {ds : List D} {H : Hp} {v : V} {H' : Hp} (h : PS K ds H v H') : Dp K H' v (.list (toPs ds)) := by
  obtain ⟨p, xs, rfl, h2, h3⟩ := h
  exact .lst h2 (Rps.dp h3)
theorem ev_eqLI {ns ms : List Int} (ha : EvP K H0 ta ρ (PS K (ns.map D.int))) (hb : EvP K H0 tb ρ (PS K (ms.map D.int))) : EvP K H0 (tOp (rEqD K) ta tb) ρ (PD (.bl (decide (ns = ms)))) :=
  ev_op ha hb fun H H1 H2 a y e1 e2 p1 p2 Q q => ⟨_, _, PS.dp (PS.mono e2 p1), PS.dp p2, shaped_lints ns, shaped_lints ms, q _ H2 (Same.refl _) (by
    show Rp H2 (.bl (PyData.eqvAll _ _)) _
    rw [eqv_ints]; exact .bl _)⟩
theorem ev_neLI {ns ms : List Int} (ha : EvP K H0 ta ρ (PS K (ns.map D.int))) (hb : EvP K H0 tb ρ (PS K (ms.map D.int))) : EvP K H0 (tOp (rNeD K) ta tb) ρ (PD (.bl (!decide (ns = ms)))) :=
  ev_op ha hb fun H H1 H2 a y e1 e2 p1 p2 Q q => ⟨_, _, PS.dp (PS.mono e2 p1), PS.dp p2, shaped_lints ns, shaped_lints ms, q _ H2 (Same.refl _) (by
    show Rp H2 (.bl (!PyData.eqvAll _ _)) _
    rw [eqv_ints]; exact .bl _)⟩
theorem ev_eqTI {ns ms : List Int} (ha : EvP K H0 ta ρ (PD (.tup (ns.map D.int)))) (hb : EvP K H0 tb ρ (PD (.tup (ms.map D.int)))) : EvP K H0 (tOp (rEqD K) ta tb) ρ (PD (.bl (decide (ns = ms)))) :=
  ev_op ha hb fun H H1 H2 a y e1 e2 p1 p2 Q q => ⟨_, _, Rp.dp (PD.mono e2 p1), Rp.dp p2, shaped_tints ns, shaped_tints ms, q _ H2 (Same.refl _) (by
    show Rp H2 (.bl (PyData.eqvAll _ _)) _
    rw [eqv_ints]; exact .bl _)⟩
theorem ev_neTI {ns ms : List Int} (ha : EvP K H0 ta ρ (PD (.tup (ns.map D.int)))) (hb : EvP K H0 tb ρ (PD (.tup (ms.map D.int)))) : EvP K H0 (tOp (rNeD K) ta tb) ρ (PD (.bl (!decide (ns = ms)))) :=
  ev_op ha hb fun H H1 H2 a y e1 e2 p1 p2 Q q => ⟨_, _, Rp.dp (PD.mono e2 p1), Rp.dp p2, shaped_tints ns, shaped_tints ms, q _ H2 (Same.refl _) (by
    show Rp H2 (.bl (!PyData.eqvAll _ _)) _
    rw [eqv_ints]; exact .bl _)⟩
theorem eqv_nil (ds : List D) : PyData.eqvAll (toPs ds) [] = ds.isEmpty := by cases ds <;> rfl
theorem shaped_lnil : SeqAt.shaped (.list (toPs [])) = true := shaped_lints []
/-- a list of any data against [] -/
theorem ev_eqLN {ds : List D} (ha : EvP K H0 ta ρ (PS K ds)) (hb : EvP K H0 tb ρ (PS K [])) (hs : SeqAt.shaped (.list (toPs ds)) = true) : EvP K H0 (tOp (rEqD K) ta tb) ρ (PD (.bl ds.isEmpty)) :=
  ev_op ha hb fun H H1 H2 a y e1 e2 p1 p2 Q q => ⟨_, _, PS.dp (PS.mono e2 p1), PS.dp p2, hs, shaped_lnil, q _ H2 (Same.refl _) (by
    show Rp H2 (.bl (PyData.eqvAll _ [])) _
    rw [eqv_nil]; exact .bl _)⟩
theorem ev_neLN {ds : List D} (ha : EvP K H0 ta ρ (PS K ds)) (hb : EvP K H0 tb ρ (PS K [])) (hs : SeqAt.shaped (.list (toPs ds)) = true) : EvP K H0 (tOp (rNeD K) ta tb) ρ (PD (.bl (!ds.isEmpty))) :=
  ev_op ha hb fun H H1 H2 a y e1 e2 p1 p2 Q q => ⟨_, _, PS.dp (PS.mono e2 p1), PS.dp p2, hs, shaped_lnil, q _ H2 (Same.refl _) (by
    show Rp H2 (.bl (!PyData.eqvAll _ [])) _
    rw [eqv_nil]; exact .bl _)⟩

/-! ### items, slices, lengths -/
theorem rps_at {H : Hp} {xs : List V} {ds : List D} {i : Int} {d : D} (r : Rps H xs ds) (h : atI ds i = some d) : ∃ v, atI xs i = some v ∧ Rp H v d := by
  unfold atI at h ⊢
  rw [r.length]
  cases e : ixN ds.length i with
  | none => rw [e] at h; cases h
  | some j =>
    rw [e] at h
    obtain ⟨v, h1, h2⟩ := r.get (show ds[j]? = some d from h)
    exact ⟨v, h1, h2⟩
theorem ev_ixL {ds : List D} {i : Int} {d : D} (ha : EvP K H0 ta ρ (PS K ds)) (hb : EvP K H0 tb ρ (PD (.int i))) (h : atI ds i = some d) : EvP K H0 (tOp (rIxL K) ta tb) ρ (PD d) :=
  ev_op ha hb fun H H1 H2 a y e1 e2 p1 p2 Q q => by
    obtain ⟨p, xs, rfl, hs, r⟩ := PS.mono e2 p1
    obtain ⟨v, h1, h2⟩ := rps_at r h
    exact ⟨p, xs, i, v, rfl, Rp.intI p2, hs, h1, q _ H2 (Same.refl _) h2⟩
theorem ev_ixT {ds : List D} {i : Int} {d : D} (ha : EvP K H0 ta ρ (PD (.tup ds))) (hb : EvP K H0 tb ρ (PD (.int i))) (h : atI ds i = some d) : EvP K H0 (tOp (rIxT K) ta tb) ρ (PD d) :=
  ev_op ha hb fun H H1 H2 a y e1 e2 p1 p2 Q q => by
    obtain ⟨p, xs, rfl, hs, r⟩ := Rp.tupI (PD.mono e2 p1)
    obtain ⟨v, h1, h2⟩ := rps_at r h
    exact ⟨p, xs, i, v, rfl, Rp.intI p2, .inl hs, h1, q _ H2 (Same.refl _) h2⟩
theorem ev_len {rest : TA} {ds : List D} (ha : EvP K H0 ta ρ (PS K ds)) : EvP K H0 (tCB (fun xs H Q => ∃ p ys, xs = [.ref p] ∧ (SqL K H p ys ∨ SqT K H p ys) ∧ Q (.int ys.length) H) (tCons ta tNil)) ρ (PD (.int ds.length)) := fun σ H s Q q =>
  ha σ H s _ fun x H1 e1 p1 => by
    obtain ⟨p, xs, rfl, hs, r⟩ := p1
    exact ⟨p, xs, rfl, .inl hs, q _ H1 e1 (by rw [r.length]; exact .int _)⟩
theorem ev_lenL {ds : List D} (ha : EvP K H0 ta ρ (PS K ds)) : EvP K H0 (tCB (fun xs H Q => ∃ p ys, xs = [.ref p] ∧ (SqL K H p ys ∨ SqT K H p ys) ∧ Q (.int ys.length) H) (tCons ta tNil)) ρ (PD (.int ds.length)) := ev_len (rest := tNil) ha
theorem ev_lenT {ds : List D} (ha : EvP K H0 ta ρ (PD (.tup ds))) : EvP K H0 (tCB (fun xs H Q => ∃ p ys, xs = [.ref p] ∧ (SqL K H p ys ∨ SqT K H p ys) ∧ Q (.int ys.length) H) (tCons ta tNil)) ρ (PD (.int ds.length)) := fun σ H s Q q =>
  ha σ H s _ fun x H1 e1 p1 => by
    obtain ⟨p, xs, rfl, hs, r⟩ := Rp.tupI p1
    exact ⟨p, xs, rfl, .inr (.inl hs), q _ H1 e1 (by rw [r.length]; exact .int _)⟩
theorem eo_none : EvO K H0 tNoPart ρ none := fun σ H s Q q => q H (Same.refl H)
theorem eo_some {i : Int} (h : EvP K H0 te ρ (PD (.int i))) : EvO K H0 (tPart te) ρ (some i) := fun σ H s Q q => h σ H s _ fun v H1 e p => ⟨i, Rp.intI p, q H1 e⟩
def cutD (ds : List D) (lo hi : Option Int) : List D := (ds.drop (HT.sIx ds.length 0 lo)).take (HT.sIx ds.length ds.length hi - HT.sIx ds.length 0 lo)
theorem rps_cut {H : Hp} {xs : List V} {ds : List D} (r : Rps H xs ds) (lo hi : Option Int) : Rps H (cutV xs lo hi) (cutD ds lo hi) := by
  unfold cutV cutD
  rw [r.length]
  exact (r.drop _).take _
theorem ev_slL {tl th : TO} {ds : List D} {lo hi : Option Int} (ha : EvP K H0 ta ρ (PS K ds)) (hl : EvO K H0 tl ρ lo) (hh : EvO K H0 th ρ hi) : EvP K H0 (L2.tSl (rSlL K) ta tl th) ρ (PN (cutD ds lo hi)) := fun σ H s Q q =>
  ha σ H s _ fun x H1 e1 p1 => hl σ H1 (s.ex e1) _ fun H2 e2 => hh σ H2 ((s.ex e1).ex e2) _ fun H3 e3 => by
    obtain ⟨p, xs, rfl, hs, r⟩ := PS.mono e3 (PS.mono e2 p1)
    refine ⟨p, xs, rfl, hs, fun c nc => q _ _ (((e1.trans e2).trans e3).trans (ex_new nc)) ⟨c, _, rfl, Same.free ((e1.trans e2).trans e3) nc, upd_same, (rps_cut r lo hi).mono (tex (ex_new nc))⟩⟩
theorem cut_whole {xs : List V} {lo hi : Option Int} (h : HT.sIx xs.length 0 lo = 0 ∧ HT.sIx xs.length xs.length hi = xs.length) : cutV xs lo hi = xs := by
  unfold cutV
  rw [h.1, h.2, List.drop_zero, Nat.sub_zero, List.take_length]
theorem ev_slT {tl th : TO} {ds : List D} {lo hi : Option Int} (ha : EvP K H0 ta ρ (PD (.tup ds))) (hl : EvO K H0 tl ρ lo) (hh : EvO K H0 th ρ hi) : EvP K H0 (L2.tSl (rSlA K) ta tl th) ρ (PD (.tup (cutD ds lo hi))) := fun σ H s Q q =>
  ha σ H s _ fun x H1 e1 p1 => hl σ H1 (s.ex e1) _ fun H2 e2 => hh σ H2 ((s.ex e1).ex e2) _ fun H3 e3 => by
    obtain ⟨p, xs, rfl, hs, r⟩ := Rp.tupI (PD.mono e3 (PD.mono e2 p1))
    have rc := rps_cut r lo hi
    refine ⟨p, xs, rfl, .inl hs, fun w => q _ _ ((e1.trans e2).trans e3) ?_, fun w c nc => q _ _ (((e1.trans e2).trans e3).trans (ex_new nc)) (.tup (.inl upd_same) (rc.mono (tex (ex_new nc))))⟩
    rw [cut_whole w] at rc
    exact .tup hs rc
theorem ev_rev {ds : List D} (ha : EvP K H0 ta ρ (PS K ds)) : EvP K H0 (tRevL K ta) ρ (PN ds.reverse) := fun σ H s Q q =>
  ha σ H s _ fun x H1 e1 p1 => by
    obtain ⟨p, xs, rfl, hs, r⟩ := p1
    exact ⟨p, xs, rfl, hs, fun c nc => q _ _ (e1.trans (ex_new nc)) ⟨c, _, rfl, Same.free e1 nc, upd_same, r.reverse.mono (tex (ex_new nc))⟩⟩

/-! ### arguments, displays, calls -/
theorem ea_nil : EvA K H0 tNil ρ [] := fun σ H s Q q => q [] H (Same.refl H) .nil
theorem ea_d {tr : TA} {d : D} {as : List Ar} (h : EvP K H0 te ρ (PD d)) (hr : EvA K H0 tr ρ as) : EvA K H0 (tCons te tr) ρ (.d d :: as) := fun σ H s Q q =>
  h σ H s _ fun v H1 e1 p1 => hr σ H1 (s.ex e1) _ fun vs H2 e2 p2 => q _ H2 (e1.trans e2) (.cons (show Rp H2 v d from Rp.mono (tex e2) p1) p2)
theorem ea_s {tr : TA} {ds : List D} {as : List Ar} (h : EvP K H0 te ρ (PS K ds)) (hr : EvA K H0 tr ρ as) : EvA K H0 (tCons te tr) ρ (.s ds :: as) := fun σ H s Q q =>
  h σ H s _ fun v H1 e1 p1 => hr σ H1 (s.ex e1) _ fun vs H2 e2 p2 => q _ H2 (e1.trans e2) (.cons (PS.mono (H := H) e2 p1) p2)
theorem EvA.n {ta : TA} {as : List Ar} (h : EvA K H0 ta ρ as) : EvAn K H0 ta ρ (fun bs => bs = as) := fun σ H s Q q => h σ H s Q fun vs H' e r => q vs H' as e rfl r
theorem ean_i {tr : TA} {S : List Ar → Prop} (h : EvP K H0 te ρ PZ) (hr : EvAn K H0 tr ρ S) : EvAn K H0 (tCons te tr) ρ (fun as => ∃ i r, as = .d (.int i) :: r ∧ S r) := fun σ H s Q q =>
  h σ H s _ fun v H1 e1 ⟨_, ⟨i, rfl⟩, p1⟩ => hr σ H1 (s.ex e1) _ fun vs H2 as e2 hs p2 => q _ H2 _ (e1.trans e2) ⟨i, as, rfl, hs⟩ (.cons (show Rp H2 v (.int i) from Rp.mono (tex e2) p1) p2)
theorem ean_d {tr : TA} {d : D} {S : List Ar → Prop} (h : EvP K H0 te ρ (PD d)) (hr : EvAn K H0 tr ρ S) : EvAn K H0 (tCons te tr) ρ (fun as => ∃ r, as = .d d :: r ∧ S r) := fun σ H s Q q =>
  h σ H s _ fun v H1 e1 p1 => hr σ H1 (s.ex e1) _ fun vs H2 as e2 hs p2 => q _ H2 _ (e1.trans e2) ⟨as, rfl, hs⟩ (.cons (show Rp H2 v d from Rp.mono (tex e2) p1) p2)
theorem arsD {H : Hp} : ∀ {vs : List V} {ds : List D}, ArsOk K H vs (ds.map Ar.d) → Rps H vs ds
  | _, [], h => by
    rw [List.map_nil] at h
    cases h
    exact .nil
  | _, d :: ds, h => by
    rw [List.map_cons] at h
    cases h with
    | cons h r => exact .cons h (arsD r)
theorem ev_tup {t : TA} {ds : List D} (h : EvA K H0 t ρ (ds.map Ar.d)) (hl : ds.length ≤ 1000) : EvP K H0 (tTup t) ρ (PD (.tup ds)) := fun σ H s Q q =>
  h σ H s _ fun vs H1 e1 p1 => ⟨by rw [(arsD p1).length]; exact Nat.le_of_lt (small1000 hl), fun c nc => q _ _ (e1.trans (ex_new nc)) (.tup (.inl upd_same) ((arsD p1).mono (tex (ex_new nc))))⟩
theorem ev_lst {t : TA} {ds : List D} (h : EvA K H0 t ρ (ds.map Ar.d)) (hl : ds.length ≤ 1000) : EvP K H0 (tLst t) ρ (PN ds) := fun σ H s Q q =>
  h σ H s _ fun vs H1 e1 p1 => ⟨by rw [(arsD p1).length]; exact Nat.le_of_lt (small1000 hl), fun c nc => q _ _ (e1.trans (ex_new nc)) ⟨c, _, rfl, Same.free e1 nc, upd_same, (arsD p1).mono (tex (ex_new nc))⟩⟩
theorem ev_call {t : TA} {as : List Ar} {pre : List Ar → PV → Prop} {E : XK} (h : EvA K H0 t ρ as) (hp : pre as P) (hb : ∀ H H1 v H', Ex H H1 → P H1 v H' → P H v H') : EvP K H0 (tCall (spec K pre) [] E t) ρ P := fun σ H s Q q =>
  h σ H s _ fun vs H1 e1 p1 => ⟨as, P, by rw [List.append_nil]; exact p1, hp, fun v H' e2 r => q v H' (e1.trans e2) (hb H H1 v H' e1 r)⟩
theorem ev_callD {t : TA} {as : List Ar} {pre : List Ar → PV → Prop} {E : XK} {d : D} (h : EvA K H0 t ρ as) (hp : pre as (PD d)) : EvP K H0 (tCall (spec K pre) [] E t) ρ (PD d) := ev_call h hp fun _ _ _ _ _ r => r
theorem ev_callDs {t : TA} {as : List Ar} {pre : List Ar → PV → Prop} {E : XK} {S : D → Prop} (h : EvA K H0 t ρ as) (hp : pre as (PDs S)) : EvP K H0 (tCall (spec K pre) [] E t) ρ (PDs S) := ev_call h hp fun _ _ _ _ _ r => r
theorem ev_callN {t : TA} {as : List Ar} {pre : List Ar → PV → Prop} {E : XK} {ds : List D} (h : EvA K H0 t ρ as) (hp : pre as (PN ds)) : EvP K H0 (tCall (spec K pre) [] E t) ρ (PN ds) := ev_call h hp fun _ _ _ _ e r => PN.base e r
theorem ev_callNs {t : TA} {as : List Ar} {pre : List Ar → PV → Prop} {E : XK} {S : List D → Prop} (h : EvA K H0 t ρ as) (hp : pre as (PNs S)) : EvP K H0 (tCall (spec K pre) [] E t) ρ (PNs S) := ev_call h hp fun _ _ _ _ e ⟨ds, hs, r⟩ => ⟨ds, hs, PN.base e r⟩
theorem ev_callA {t : TA} {S : List Ar → Prop} {pre : List Ar → PV → Prop} {E : XK} (h : EvAn K H0 t ρ S) (hp : ∀ as, S as → pre as P) (hb : ∀ H H1 v H', Ex H H1 → P H1 v H' → P H v H') : EvP K H0 (tCall (spec K pre) [] E t) ρ P := fun σ H s Q q =>
  h σ H s _ fun vs H1 as e1 hs p1 => ⟨as, P, by rw [List.append_nil]; exact p1, hp as hs, fun v H' e2 r => q v H' (e1.trans e2) (hb H H1 v H' e1 r)⟩
theorem ev_callADs {t : TA} {S : List Ar → Prop} {pre : List Ar → PV → Prop} {E : XK} {T : D → Prop} (h : EvAn K H0 t ρ S) (hp : ∀ as, S as → pre as (PDs T)) : EvP K H0 (tCall (spec K pre) [] E t) ρ (PDs T) := ev_callA h hp fun _ _ _ _ _ r => r
theorem ev_callANs {t : TA} {S : List Ar → Prop} {pre : List Ar → PV → Prop} {E : XK} {T : List D → Prop} (h : EvAn K H0 t ρ S) (hp : ∀ as, S as → pre as (PNs T)) : EvP K H0 (tCall (spec K pre) [] E t) ρ (PNs T) := ev_callA h hp fun _ _ _ _ e ⟨ds, hs, r⟩ => ⟨ds, hs, PN.base e r⟩

/-! ### built-in functions -/
theorem ev_sum {ns : List Int} (ha : EvP K H0 ta ρ (PS K (ns.map D.int))) : EvP K H0 (tCB (rSum K) (tCons ta tNil)) ρ (PD (.int ns.sum)) := fun σ H s Q q =>
  ha σ H s _ fun x H1 e1 p1 => by
    obtain ⟨p, xs, rfl, hs, r⟩ := p1
    have := r.ints
    subst this
    exact ⟨p, ns, rfl, hs, q _ H1 e1 (.int _)⟩
theorem ev_any {bs : List Bool} (ha : EvP K H0 ta ρ (PS K (bs.map D.bl))) : EvP K H0 (tCB (rAny K) (tCons ta tNil)) ρ (PD (.bl (bs.any id))) := fun σ H s Q q =>
  ha σ H s _ fun x H1 e1 p1 => by
    obtain ⟨p, xs, rfl, hs, r⟩ := p1
    have := r.bls
    subst this
    exact ⟨p, bs, rfl, hs, q _ H1 e1 (.bl _)⟩
theorem ev_all {bs : List Bool} (ha : EvP K H0 ta ρ (PS K (bs.map D.bl))) : EvP K H0 (tCB (rAll K) (tCons ta tNil)) ρ (PD (.bl (bs.all id))) := fun σ H s Q q =>
  ha σ H s _ fun x H1 e1 p1 => by
    obtain ⟨p, xs, rfl, hs, r⟩ := p1
    have := r.bls
    subst this
    exact ⟨p, bs, rfl, hs, q _ H1 e1 (.bl _)⟩
theorem ev_min {ns : List Int} {m : Int} (ha : EvP K H0 ta ρ (PS K (ns.map D.int))) (h0 : m ∈ ns) (hm : ∀ y ∈ ns, m ≤ y) : EvP K H0 (tCB (rMin K) (tCons ta tNil)) ρ (PD (.int m)) := fun σ H s Q q =>
  ha σ H s _ fun x H1 e1 p1 => by
    obtain ⟨p, xs, rfl, hs, r⟩ := p1
    have := r.ints
    subst this
    refine ⟨p, ns, rfl, hs, List.length_pos_of_mem h0, fun z hz hle => q _ H1 e1 ?_⟩
    have : z = m := Int.le_antisymm (hle m h0) (hm z hz)
    rw [this]
    exact .int _
theorem sorted_one : ∀ {a b : List Int}, a.Perm b → a.Pairwise (· ≤ ·) → b.Pairwise (· ≤ ·) → a = b := fun p h1 h2 => List.Perm.eq_of_pairwise (le := fun a b => a ≤ b) (fun _ _ _ _ h h' => Int.le_antisymm h h') h1 h2 p
theorem ev_sorted {ns ms : List Int} (ha : EvP K H0 ta ρ (PS K (ns.map D.int))) (hp : ms.Perm ns) (ho : ms.Pairwise (· ≤ ·)) : EvP K H0 (tCB (rSortedI K) (tCons ta tNil)) ρ (PN (ms.map D.int)) := fun σ H s Q q =>
  ha σ H s _ fun x H1 e1 p1 => by
    obtain ⟨p, xs, rfl, hs, r⟩ := p1
    have := r.ints
    subst this
    refine ⟨p, ns, rfl, hs, fun ns' c hp' ho' nc => ?_⟩
    have e : ns' = ms := sorted_one (hp'.trans hp.symm) ho' ho
    subst e
    exact q _ _ (e1.trans (ex_new nc)) ⟨c, _, rfl, Same.free e1 nc, upd_same, rps_ints _⟩
theorem ev_listT {ds : List D} (ha : EvP K H0 ta ρ (PD (.tup ds))) : EvP K H0 (tCB (fun xs H Q => ∃ p ys, xs = [.ref p] ∧ (SqL K H p ys ∨ SqT K H p ys) ∧ ∀ l, H l = none → Q (.ref l) (upd H l (.lst ys))) (tCons ta tNil)) ρ (PN ds) := fun σ H s Q q =>
  ha σ H s _ fun x H1 e1 p1 => by
    obtain ⟨p, xs, rfl, hs, r⟩ := Rp.tupI p1
    exact ⟨p, xs, rfl, .inr (.inl hs), fun c nc => q _ _ (e1.trans (ex_new nc)) ⟨c, _, rfl, Same.free e1 nc, upd_same, r.mono (tex (ex_new nc))⟩⟩
theorem ev_listTs {S : D → Prop} {T : List D → Prop} (ha : EvP K H0 ta ρ (PDs S)) (hs : ∀ d, S d → ∃ ds, d = .tup ds ∧ T ds) : EvP K H0 (tCB (fun xs H Q => ∃ p ys, xs = [.ref p] ∧ (SqL K H p ys ∨ SqT K H p ys) ∧ ∀ l, H l = none → Q (.ref l) (upd H l (.lst ys))) (tCons ta tNil)) ρ (PNs T) := fun σ H s Q q =>
  ha σ H s _ fun x H1 e1 ⟨d, hd, p1⟩ => by
    obtain ⟨ds, rfl, ht⟩ := hs d hd
    obtain ⟨p, xs, rfl, hs, r⟩ := Rp.tupI p1
    exact ⟨p, xs, rfl, .inr (.inl hs), fun c nc => q _ _ (e1.trans (ex_new nc)) ⟨ds, ht, c, _, rfl, Same.free e1 nc, upd_same, r.mono (tex (ex_new nc))⟩⟩
theorem ev_tupleL {ds : List D} (ha : EvP K H0 ta ρ (PS K ds)) : EvP K H0 (tCB (fun xs H Q => ∃ p ys, xs = [.ref p] ∧ ((SqL K H p ys ∧ ∀ l, H l = none → Q (.ref l) (upd H l (.tup ys))) ∨ (SqT K H p ys ∧ Q (.ref p) H))) (tCons ta tNil)) ρ (PD (.tup ds)) := fun σ H s Q q =>
  ha σ H s _ fun x H1 e1 p1 => by
    obtain ⟨p, xs, rfl, hs, r⟩ := p1
    exact ⟨p, xs, rfl, .inl ⟨hs, fun c nc => q _ _ (e1.trans (ex_new nc)) (.tup (.inl upd_same) (r.mono (tex (ex_new nc))))⟩⟩
theorem ev_tupleT {ds : List D} (ha : EvP K H0 ta ρ (PD (.tup ds))) : EvP K H0 (tCB (fun xs H Q => ∃ p ys, xs = [.ref p] ∧ ((SqL K H p ys ∧ ∀ l, H l = none → Q (.ref l) (upd H l (.tup ys))) ∨ (SqT K H p ys ∧ Q (.ref p) H))) (tCons ta tNil)) ρ (PD (.tup ds)) := fun σ H s Q q =>
  ha σ H s _ fun x H1 e1 p1 => by
    obtain ⟨p, xs, rfl, hs, r⟩ := Rp.tupI p1
    exact ⟨p, xs, rfl, .inr ⟨.inl hs, q _ H1 e1 (.tup hs r)⟩⟩
theorem ev_intI {i : Int} (ha : EvP K H0 ta ρ (PD (.int i))) : EvP K H0 (tCB (fun xs H Q => (∃ i, xs = [.int i] ∧ Q (.int i) H) ∨ ∃ k, xs = [.bl k] ∧ Q (.int (if k then 1 else 0)) H) (tCons ta tNil)) ρ (PD (.int i)) := fun σ H s Q q =>
  ha σ H s _ fun x H1 e1 p1 => .inl ⟨i, by rw [Rp.intI p1], q _ H1 e1 (.int _)⟩
theorem ev_intN (ha : EvP K H0 ta ρ PZ) : EvP K H0 (tCB (fun xs H Q => (∃ i, xs = [.int i] ∧ Q (.int i) H) ∨ ∃ k, xs = [.bl k] ∧ Q (.int (if k then 1 else 0)) H) (tCons ta tNil)) ρ PZ := fun σ H s Q q =>
  ha σ H s _ fun x H1 e1 ⟨_, ⟨i, rfl⟩, p1⟩ => .inl ⟨i, by rw [Rp.intI p1], q _ H1 e1 ⟨_, ⟨i, rfl⟩, .int _⟩⟩
theorem ev_intB {b : Bool} (ha : EvP K H0 ta ρ (PD (.bl b))) : EvP K H0 (tCB (fun xs H Q => (∃ i, xs = [.int i] ∧ Q (.int i) H) ∨ ∃ k, xs = [.bl k] ∧ Q (.int (if k then 1 else 0)) H) (tCons ta tNil)) ρ (PD (.int (if b then 1 else 0))) := fun σ H s Q q =>
  ha σ H s _ fun x H1 e1 p1 => .inr ⟨b, by rw [Rp.blI p1], q _ H1 e1 (.int _)⟩
theorem ev_max2 {i j : Int} (ha : EvP K H0 ta ρ (PD (.int i))) (hb : EvP K H0 tb ρ (PD (.int j))) : EvP K H0 (tCB (fun xs H Q => ∃ i j, xs = [.int i, .int j] ∧ Q (.int (if j > i then j else i)) H) (tCons ta (tCons tb tNil))) ρ (PD (.int (if j > i then j else i))) := fun σ H s Q q =>
  ha σ H s _ fun x H1 e1 p1 => hb σ H1 (s.ex e1) _ fun y H2 e2 p2 => ⟨i, j, by rw [Rp.intI p1, Rp.intI p2], q _ H2 (e1.trans e2) (.int _)⟩
theorem ev_min2 {i j : Int} (ha : EvP K H0 ta ρ (PD (.int i))) (hb : EvP K H0 tb ρ (PD (.int j))) : EvP K H0 (tCB (fun xs H Q => ∃ i j, xs = [.int i, .int j] ∧ Q (.int (if j < i then j else i)) H) (tCons ta (tCons tb tNil))) ρ (PD (.int (if j < i then j else i))) := fun σ H s Q q =>
  ha σ H s _ fun x H1 e1 p1 => hb σ H1 (s.ex e1) _ fun y H2 e2 p2 => ⟨i, j, by rw [Rp.intI p1, Rp.intI p2], q _ H2 (e1.trans e2) (.int _)⟩
theorem ev_catL {xs ys : List D} (ha : EvP K H0 ta ρ P1) (hb : EvP K H0 tb ρ P2) (h1 : ∀ H H' v, P1 H v H' → ∃ p zs, v = .ref p ∧ H' p = some (.lst zs) ∧ Rps H' zs xs) (h2 : ∀ H H' v, P2 H v H' → ∃ p zs, v = .ref p ∧ H' p = some (.lst zs) ∧ Rps H' zs ys)
    (hl : xs.length + ys.length ≤ 1000) : EvP K H0 (tOp rCat ta tb) ρ (PN (xs ++ ys)) :=
  ev_op ha hb fun H H1 H2 x y e1 e2 p1 p2 Q q => by
    obtain ⟨p, zs, rfl, k1, r1⟩ := h1 _ _ _ p1
    obtain ⟨p', zs', rfl, k2, r2⟩ := h2 _ _ _ p2
    refine ⟨p, p', zs, zs', rfl, rfl, e2 _ _ k1, k2, by rw [r1.length, r2.length]; exact Nat.le_of_lt (small1000 hl), fun c nc => q _ _ (ex_new nc) ⟨c, _, rfl, Same.free (e1.trans e2) nc, upd_same, ?_⟩⟩
    exact ((r1.mono (tex e2)).append r2).mono (tex (ex_new nc))
theorem ev_catT {xs ys : List D} (ha : EvP K H0 ta ρ (PD (.tup xs))) (hb : EvP K H0 tb ρ (PD (.tup ys))) (hl : xs.length + ys.length ≤ 1000) : EvP K H0 (tOp (rCatA K) ta tb) ρ (PD (.tup (xs ++ ys))) :=
  ev_op ha hb fun H H1 H2 x y e1 e2 p1 p2 Q q => by
    obtain ⟨p, zs, rfl, k1, r1⟩ := Rp.tupI (PD.mono e2 p1)
    obtain ⟨p', zs', rfl, k2, r2⟩ := Rp.tupI p2
    refine ⟨p, p', zs, zs', rfl, rfl, .inl k1, .inl k2, by rw [r1.length, r2.length]; exact Nat.le_of_lt (small1000 hl), fun w => q _ H2 (Same.refl _) ?_, fun w w' => q _ H2 (Same.refl _) ?_, fun w w' c nc => q _ _ (ex_new nc) (.tup (.inl upd_same) ((r1.append r2).mono (tex (ex_new nc))))⟩
    · subst w
      have z : xs = [] := List.length_eq_zero_iff.mp r1.length.symm
      subst z
      exact .tup k2 r2
    · subst w'
      have z : ys = [] := List.length_eq_zero_iff.mp r2.length.symm
      subst z
      rw [List.append_nil]
      exact .tup k1 r1
def tyD : D → String
  | .non => "NoneType" | .bl _ => "bool" | .int _ => "int" | .str _ => "str" | .tup _ => "tuple" | .ntup _ => "tuple"

/-! ### tests -/
theorem et_test {b : Bool} (h : EvP K H0 te ρ (PD (.bl b))) : EvT K H0 (tTest te) ρ b := fun σ H s Q q => h σ H s _ fun v H1 e p => ⟨b, Rp.blI p, q H1 e⟩
theorem et_B {b : Bool} (h : EvP K H0 te ρ (PD (.bl b))) : EvT K H0 (tB te) ρ b := fun σ H s Q q => h σ H s _ fun v H1 e p => ⟨b, Rp.blI p, q H1 e⟩
theorem et_yes : EvT K H0 tYes ρ true := fun σ H s Q q => q H (Same.refl H)
theorem et_and {t u : TT} {a b : Bool} (h1 : EvT K H0 t ρ a) (h2 : a = true → EvT K H0 u ρ b) : EvT K H0 (tAnd t u) ρ (a && b) := fun σ H s Q q => h1 σ H s _ fun H1 e => by
  cases a with
  | true =>
    show u σ H1 Q
    exact h2 rfl σ H1 (s.ex e) Q fun H2 e2 => q H2 (e.trans e2)
  | false =>
    show Q false H1
    exact q H1 e
theorem et_or {t u : TT} {a b : Bool} (h1 : EvT K H0 t ρ a) (h2 : a = false → EvT K H0 u ρ b) : EvT K H0 (tOr t u) ρ (a || b) := fun σ H s Q q => h1 σ H s _ fun H1 e => by
  cases a with
  | true =>
    show Q true H1
    exact q H1 e
  | false =>
    show u σ H1 Q
    exact h2 rfl σ H1 (s.ex e) Q fun H2 e2 => q H2 (e.trans e2)
theorem et_not {t : TT} {a : Bool} (h1 : EvT K H0 t ρ a) : EvT K H0 (tNot t) ρ (!a) := fun σ H s Q q => h1 σ H s _ fun H1 e => q H1 e
theorem ev_andV {a b : Bool} (h1 : EvP K H0 ta ρ (PD (.bl a))) (h2 : a = true → EvP K H0 tb ρ (PD (.bl b))) : EvP K H0 (tAndV ta tb) ρ (PD (.bl (a && b))) := fun σ H s Q q => h1 σ H s _ fun v H1 e p => ⟨a, Rp.blI p, by
  cases a with
  | true =>
    show tb σ H1 Q
    exact h2 rfl σ H1 (s.ex e) Q fun v H2 e2 p => q v H2 (e.trans e2) p
  | false =>
    show Q (.bl false) H1
    exact q _ H1 e (.bl _)⟩
theorem ev_orV {a b : Bool} (h1 : EvP K H0 ta ρ (PD (.bl a))) (h2 : a = false → EvP K H0 tb ρ (PD (.bl b))) : EvP K H0 (tOrV ta tb) ρ (PD (.bl (a || b))) := fun σ H s Q q => h1 σ H s _ fun v H1 e p => ⟨a, Rp.blI p, by
  cases a with
  | true =>
    show Q (.bl true) H1
    exact q _ H1 e (.bl _)
  | false =>
    show tb σ H1 Q
    exact h2 rfl σ H1 (s.ex e) Q fun v H2 e2 p => q v H2 (e.trans e2) p⟩
theorem ev_notV {a : Bool} (h1 : EvP K H0 ta ρ (PD (.bl a))) : EvP K H0 (tNotV ta) ρ (PD (.bl (!a))) := fun σ H s Q q => h1 σ H s _ fun v H1 e p => ⟨a, Rp.blI p, q _ H1 e (.bl _)⟩
/-- a < b < c of ints: the second comparison is asked if the first one holds -/
theorem ev_chain {g g' : Int → Int → Bool} {i j k : Int} (ha : EvP K H0 ta ρ (PD (.int i))) (hb : EvP K H0 tb ρ (PD (.int j))) (hc : g i j = true → EvP K H0 tc ρ (PD (.int k))) :
    EvP K H0 (tChain (rI0 fun i j => .bl (g i j)) (rI0 fun i j => .bl (g' i j)) ta tb tc) ρ (PD (.bl (g i j && g' j k))) := fun σ H s Q q =>
  ha σ H s _ fun x H1 e1 p1 => hb σ H1 (s.ex e1) _ fun y H2 e2 p2 => ⟨i, j, Rp.intI p1, Rp.intI p2, g i j, rfl, by
    cases hg : g i j with
    | true =>
      show tc σ H2 _
      exact hc hg σ H2 ((s.ex e1).ex e2) _ fun z H3 e3 p3 => ⟨j, k, Rp.intI p2, Rp.intI p3, q _ H3 ((e1.trans e2).trans e3) (by
        rw [hg, Bool.true_and]
        exact Rp.bl _)⟩
    | false =>
      show Q (.bl false) H2
      exact q _ H2 (e1.trans e2) (by
        rw [hg, Bool.false_and]
        exact Rp.bl _)⟩
/-- a == b == c of ints -/
theorem ev_chainEq {i j k : Int} (ha : EvP K H0 ta ρ (PD (.int i))) (hb : EvP K H0 tb ρ (PD (.int j))) (hc : i = j → EvP K H0 tc ρ (PD (.int k))) :
    EvP K H0 (tChain rEq rEq ta tb tc) ρ (PD (.bl (decide (i = j) && decide (j = k)))) := fun σ H s Q q =>
  ha σ H s _ fun x H1 e1 p1 => hb σ H1 (s.ex e1) _ fun y H2 e2 p2 => by
    have p1 := Rp.intI p1
    have p2 := Rp.intI p2
    subst p1 p2
    refine ⟨rfl, decide (V.int i = V.int j), rfl, ?_⟩
    rw [show decide (V.int i = V.int j) = decide (i = j) by simp]
    by_cases hij : i = j
    · rw [decide_eq_true hij]
      show tc σ H2 _
      refine hc hij σ H2 ((s.ex e1).ex e2) _ fun z H3 e3 p3 => ?_
      have p3 := Rp.intI p3
      subst p3
      refine ⟨rfl, q _ H3 ((e1.trans e2).trans e3) ?_⟩
      rw [show decide (V.int j = V.int k) = decide (j = k) by simp, decide_eq_true hij, Bool.true_and]
      exact Rp.bl _
    · rw [decide_eq_false hij]
      show Q (.bl false) H2
      exact q _ H2 (e1.trans e2) (by
        rw [decide_eq_false hij, Bool.false_and]
        exact Rp.bl _)
end
end Wk
/-! ## K2 -/
set_option Elab.async false
set_option linter.all false
set_option autoImplicit false
set_option maxRecDepth 100000
set_option maxHeartbeats 2000000
/-! Comprehensions, statements, loops, defs, over slots by data. -/
namespace Wk
open PySem PySem.Spec L2

section
variable {K : PySem.W.Frag} {H0 : Hp} {ρ : Ab} {te ta tb tc : TE} {P P1 P2 P3 : PV}

/-! ### isinstance -/
theorem Rp.ty {H : Hp} {v : V} {d : D} (h : Rp H v d) : TyX K H v (.type (tyD d)) := by
  cases h with
  | non => exact .base .non
  | bl b => exact .base (.bl b)
  | int i => exact .base (.int i)
  | str s => exact .base (.str s)
  | tup h r =>
    rcases h with h | ⟨o, h⟩
    · exact .base (.tup h)
    · exact .fTuple h
  | ntup h n r => exact .fTuple h
theorem ev_isi {d : D} {T : String} {b : Bool} (ha : EvP K H0 ta ρ (PD d)) (hb : kitB (tyD d) T = some b) : EvP K H0 (tCB (rIsi K) (tCons ta (tCons (tC (.ty T)) tNil))) ρ (PD (.bl b)) := fun σ H s Q q =>
  ha σ H s _ fun x H1 e1 p1 => ⟨x, .ty T, _, _, b, rfl, .ty T, p1.ty, kit_ty hb, q _ H1 e1 (.bl _)⟩

/-! ### targets -/
/-- a target takes the datum d: the slots behind it -/
def TgX (K : PySem.W.Frag) (H0 : Hp) (g : TG) (vs : List Nat) (d : D) (ρ : Ab) (M : Ab → Prop) : Prop :=
  ∀ v σ H, StOk K H0 ρ σ H → Rp H v d → ∀ Q : L2.St → Hp → Prop, (∀ ρ' σ', M ρ' → StOk K H0 ρ' σ' H → wipe σ' vs = wipe σ vs → Q σ' H) → g v σ H Q
theorem tg_name {j : Nat} {vs : List Nat} {d : D} {M : Ab → Prop} (h : M (ρ.set j (.d d))) (hj : j ∈ vs) : TgX K H0 (gName j) vs d ρ M := fun v σ H s r Q q =>
  q _ _ h (s.setd j r) (wipe_set hj)
def TgsX (K : PySem.W.Frag) (H0 : Hp) (g : TGs) (vs : List Nat) (ds : List D) (ρ : Ab) (M : Ab → Prop) : Prop :=
  ∀ xs σ H, StOk K H0 ρ σ H → Rps H xs ds → ∀ Q : L2.St → Hp → Prop, (∀ ρ' σ', M ρ' → StOk K H0 ρ' σ' H → wipe σ' vs = wipe σ vs → Q σ' H) → g xs σ H Q
theorem tgs_nil {vs : List Nat} {M : Ab → Prop} (h : M ρ) : TgsX K H0 gNil vs [] ρ M := fun xs σ H s r Q q => ⟨r.nilI, q _ _ h s rfl⟩
theorem tgs_cons {g : TG} {u : TGs} {vs : List Nat} {d : D} {ds : List D} {M : Ab → Prop} (h : TgX K H0 g vs d ρ fun ρ' => TgsX K H0 u vs ds ρ' M) : TgsX K H0 (gCons g u) vs (d :: ds) ρ M := fun xs σ H s r Q q => by
  obtain ⟨v, r', rfl, h1, h2⟩ := r.consI
  exact ⟨v, r', rfl, h v σ H s h1 _ fun ρ' σ' m s' w => m r' σ' H s' h2 Q fun ρ2 σ2 m2 s2 w2 => q ρ2 σ2 m2 s2 (w2.trans w)⟩
theorem tg_tup {n : Nat} {t : TGs} {vs : List Nat} {ds : List D} {M : Ab → Prop} (h : TgsX K H0 t vs ds ρ M) (hn : ds.length = n) : TgX K H0 (gTup K n t) vs (.tup ds) ρ M := fun v σ H s r Q q => by
  obtain ⟨a, xs, rfl, h1, h2⟩ := r.tupI
  exact ⟨a, xs, rfl, .inl h1, by rw [h2.length]; exact hn, h xs σ H s h2 Q q⟩

/-! ### what is walked -/
/-- the iterator J gives the data ds, while Keep holds -/
def ItP (J : It) (ds : List D) (Keep : Hp → Prop) : Prop :=
  ∀ H i, Keep H → (i < ds.length → J.go i H) ∧ (ds.length ≤ i → J.stop i H) ∧ ∀ x H', J.yld i H x H' → i < ds.length → H' = H ∧ ∃ d, ds[i]? = some d ∧ Rp H x d
/-- .. as long as nothing that stood is changed -/
def EvI (K : PySem.W.Frag) (H0 : Hp) (wi : TI) (ρ : Ab) (ds : List D) : Prop := ∀ σ H, StOk K H0 ρ σ H → ∀ R : It → Hp → Prop, (∀ J H1, Ex H H1 → ItP J ds (Ex H1) → R J H1) → wi σ H R
/-- .. as long as tuples stand -/
def EvJ (K : PySem.W.Frag) (H0 : Hp) (wi : TI) (ρ : Ab) (ds : List D) : Prop := ∀ σ H, StOk K H0 ρ σ H → ∀ R : It → Hp → Prop, (∀ J H1, Ex H H1 → ItP J ds (TEx H1) → R J H1) → wi σ H R
theorem EvJ.i {wi : TI} {ds : List D} (h : EvJ K H0 wi ρ ds) : EvI K H0 wi ρ ds := fun σ H s R r => h σ H s R fun J H1 e p => r J H1 e fun H2 i k => p H2 i (tex k)
def rngD (n : Nat) : List D := (List.range n).map fun (i : Nat) => D.int (i : Int)
theorem rngD_len (n : Nat) : (rngD n).length = n := by simp [rngD]
theorem rngD_get {n i : Nat} (h : i < n) : (rngD n)[i]? = some (.int (i : Int)) := by simp [rngD, h]
theorem ej_range {ta : TA} {n : Nat} (h : EvA K H0 ta ρ [.d (.int (n : Int))]) (hn : n ≤ 100000) : EvJ K H0 (iRng1 ta) ρ (rngD n) := fun σ H s R r => h σ H s _ fun vs H1 e p => by
  cases p with
  | cons h1 h2 =>
    cases h2
    have h1 := Rp.intI h1
    subst h1
    refine ⟨(n : Int), rfl, by omega, by omega, r _ H1 e fun H2 i k => ?_⟩
    have e1 : ((n : Int)).toNat = n := rfl
    rw [rngD_len]
    refine ⟨fun hi => hi, fun hi => hi, fun x H' y hi => ⟨y.1, .int (i : Int), rngD_get hi, ?_⟩⟩
    rw [y.2, show (0 : Int) + (i : Int) = (i : Int) from Int.zero_add _]
    exact .int _
theorem ej_range2 {ta : TA} {lo hi : Nat} (h : EvA K H0 ta ρ [.d (.int (lo : Int)), .d (.int (hi : Int))]) (hn : hi ≤ 100000) (hl : lo ≤ 100000) : EvJ K H0 (iRng2 ta) ρ ((List.range (hi - lo)).map fun (i : Nat) => D.int ((lo + i : Nat) : Int)) := fun σ H s R r => h σ H s _ fun vs H1 e p => by
  cases p with
  | cons h1 h2 =>
    cases h2 with
    | cons h3 h4 =>
      cases h4
      have h1 := Rp.intI h1
      have h3 := Rp.intI h3
      subst h1 h3
      refine ⟨(lo : Int), (hi : Int), rfl, by omega, r _ H1 e fun H2 i k => ?_⟩
      have e1 : ((hi : Int) - (lo : Int)).toNat = hi - lo := by omega
      rw [e1, List.length_map, List.length_range]
      refine ⟨fun hi => hi, fun hi => hi, fun x H' y hi => ⟨y.1, .int ((lo + i : Nat) : Int), by simp [hi], ?_⟩⟩
      rw [y.2, show (lo : Int) + (i : Int) = ((lo + i : Nat) : Int) by omega]
      exact .int _
theorem itp_tup {H1 : Hp} {a : Addr} {xs : List V} {ds : List D} (h : Rd H1 a (.tup xs)) (r : Rps H1 xs ds) : ItP (Itt K a) ds (TEx H1) := fun H i k => by
  have hs : SqT K H a xs := .inl (k.rd h)
  have hl := r.length
  refine ⟨fun hi => ?_, fun hi => ⟨xs, hs, by omega⟩, fun x H' y hi => ⟨y.1, ?_⟩⟩
  · obtain ⟨v, h1, h2⟩ := r.get (List.getElem?_eq_getElem hi)
    exact ⟨xs, v, hs, h1⟩
  · obtain ⟨d, h1, h2⟩ := r.get' (y.2 xs hs)
    exact ⟨d, h1, h2.mono k⟩
theorem ej_tup {ds : List D} (h : EvP K H0 te ρ (PD (.tup ds))) : EvJ K H0 (iTup K te) ρ ds := fun σ H s R r => h σ H s _ fun v H1 e p => by
  obtain ⟨a, xs, rfl, h1, h2⟩ := Rp.tupI p
  exact ⟨a, rfl, ⟨xs, .inl h1⟩, r _ H1 e (itp_tup h1 h2)⟩
theorem ei_list {ds : List D} (h : EvP K H0 te ρ (PS K ds)) : EvI K H0 (iList K te) ρ ds := fun σ H s R r => h σ H s _ fun v H1 e p => by
  obtain ⟨a, xs, rfl, h1, h2⟩ := p
  refine ⟨a, rfl, ⟨xs, h1⟩, r _ H1 e fun H2 i k => ?_⟩
  have hs : SqL K H2 a xs := sql_mono k h1
  have hl := h2.length
  refine ⟨fun hi => ?_, fun hi => ⟨xs, hs, by omega⟩, fun x H' y hi => ⟨y.1, ?_⟩⟩
  · obtain ⟨v, k1, k2⟩ := h2.get (List.getElem?_eq_getElem hi)
    exact ⟨xs, v, hs, k1⟩
  · obtain ⟨d, k1, k2⟩ := h2.get' (y.2 xs hs)
    exact ⟨d, k1, k2.mono (tex k)⟩

/-! ### comprehensions -/
/-- data, one for each of xs, as R says -/
inductive All2 {α : Type} (R : α → D → Prop) : List α → List D → Prop
  | nil : All2 R [] []
  | cons {x : α} {xs : List α} {d : D} {ds : List D} : R x d → All2 R xs ds → All2 R (x :: xs) (d :: ds)
theorem All2.snoc {α : Type} {R : α → D → Prop} {x : α} {d : D} (h : R x d) : ∀ {xs : List α} {ds : List D}, All2 R xs ds → All2 R (xs ++ [x]) (ds ++ [d])
  | _, _, .nil => .cons h .nil
  | _, _, .cons r t => .cons r (All2.snoc h t)
theorem All2.length {α : Type} {R : α → D → Prop} : ∀ {xs : List α} {ds : List D}, All2 R xs ds → ds.length = xs.length
  | _, _, .nil => rfl
  | _, _, .cons r t => by rw [List.length_cons, List.length_cons, All2.length t]
theorem All2.det {α : Type} {h : α → D} : ∀ {xs : List α} {ds : List D}, All2 (fun x d => d = h x) xs ds → ds = xs.map h
  | _, _, .nil => rfl
  | _, _, .cons r t => by rw [List.map_cons, r, All2.det t]
theorem All2.mem {α : Type} {R : α → D → Prop} {xs : List α} {ds : List D} (h : All2 R xs ds) {d : D} (hd : d ∈ ds) : ∃ x ∈ xs, R x d := by
  induction h with
  | nil => cases hd
  | cons r t ih =>
    rcases List.mem_cons.mp hd with e | e
    · exact ⟨_, List.mem_cons_self, e ▸ r⟩
    · obtain ⟨x, h1, h2⟩ := ih e
      exact ⟨x, List.mem_cons_of_mem _ h1, h2⟩
theorem ev_lcR {α : Type} {wi : TI} {g : TG} {tt : TT} {vs : List Nat} {xs : List α} (enc : α → D) (f : α → Bool) (R : α → D → Prop) (hi : EvI K H0 wi ρ (xs.map enc)) (hn : xs.length ≤ 100000)
    (hb : ∀ x ∈ xs, TgX K H0 g vs (enc x) (wipeA ρ vs) fun ρ2 => EvT K H0 tt ρ2 (f x) ∧ (f x = true → EvP K H0 te ρ2 (PDs (R x)))) :
    EvP K H0 (tLc wi g tt te vs) ρ (PNs (All2 R (xs.filter f))) := fun σ H s Q q => hi σ H s _ fun J H1 e1 it Dl hD => by
  refine ⟨fun i m H' => m = xs.length - i ∧ i ≤ xs.length ∧ Ex H1 H' ∧ ∃ acc ds, H' Dl = some (.lst acc) ∧ Rps H' acc ds ∧ All2 R ((xs.take i).filter f) ds,
    ⟨xs.length, by simp, Nat.zero_le _, ex_new hD, [], [], upd_same, .nil, by simp; exact .nil⟩, ?_⟩
  rintro i m H2 ⟨rfl, hle, e2, acc, ds, h1, h2, h3⟩
  obtain ⟨k1, k2, k3⟩ := it H2 i e2
  rw [List.length_map] at k1 k2 k3
  by_cases hlt : i < xs.length
  · refine .inr ⟨k1 hlt, fun H' => Ex H1 H' ∧ ∃ acc ds, H' Dl = some (.lst acc) ∧ Rps H' acc ds ∧ All2 R ((xs.take (i + 1)).filter f) ds, fun H' ⟨a, b⟩ => ⟨xs.length - (i + 1), by omega, rfl, hlt, a, b⟩, fun x H' y => ?_⟩
    obtain ⟨rfl, d, hd, rd⟩ := k3 x H' y hlt
    have hx : xs[i]? = some xs[i] := List.getElem?_eq_getElem hlt
    rw [List.getElem?_map, hx] at hd
    cases hd
    have s1 : StOk K H0 ρ σ H' := (s.ex e1).ex e2
    have ht : xs.take (i + 1) = xs.take i ++ [xs[i]] := List.take_succ_eq_append_getElem hlt
    refine hb xs[i] (List.getElem_mem hlt) x (L2.wipe σ vs) H' (s1.wipe vs) rd _ fun ρ2 σ2 ⟨m1, m2⟩ s2 w2 => ⟨w2.trans wipe_wipe, ?_⟩
    refine m1 σ2 H' s2 _ fun H3 e3 => ?_
    cases hf : f xs[i] with
    | true =>
      show te σ2 H3 _
      refine m2 hf σ2 H3 (s2.ex e3) _ fun v H4 e4 ⟨d, hd, rv⟩ => ?_
      have l1 : ds.length ≤ i := by
        rw [h3.length]
        exact Nat.le_trans (List.length_filter_le _ _) (by rw [List.length_take]; omega)
      have hDl : H4 Dl = some (.lst acc) := e4 _ _ (e3 _ _ h1)
      have te4 : TEx H4 (upd H4 Dl (.lst (acc ++ [v]))) := tex_lst hDl
      refine ⟨acc, hDl, ?_, ex_mut ((e2.trans e3).trans e4) hD, acc ++ [v], ds ++ [d], upd_same, ?_, ?_⟩
      · have := h2.length
        exact Nat.lt_of_le_of_lt (show acc.length ≤ 100000 by omega) (by decide)
      · exact (((h2.mono (tex e3)).mono (tex e4)).append (.cons rv .nil)).mono te4
      · rw [ht, List.filter_append, List.filter_cons, if_pos hf]
        exact All2.snoc hd h3
    | false =>
      show Ex H1 H3 ∧ _
      refine ⟨e2.trans e3, acc, ds, e3 _ _ h1, h2.mono (tex e3), ?_⟩
      rw [ht, List.filter_append, List.filter_cons, if_neg (by rw [hf]; decide), List.filter_nil, List.append_nil]
      exact h3
  · have ei : i = xs.length := by omega
    subst ei
    rw [List.take_length] at h3
    exact .inl ⟨k2 (Nat.le_refl _), q _ _ (e1.trans e2) ⟨ds, h3, Dl, acc, rfl, Same.free e1 hD, h1, h2⟩⟩
theorem ev_lc {α : Type} {wi : TI} {g : TG} {tt : TT} {vs : List Nat} {xs : List α} (enc : α → D) (f : α → Bool) (h : α → D) (hi : EvI K H0 wi ρ (xs.map enc)) (hn : xs.length ≤ 100000)
    (hb : ∀ x ∈ xs, TgX K H0 g vs (enc x) (wipeA ρ vs) fun ρ2 => EvT K H0 tt ρ2 (f x) ∧ (f x = true → EvP K H0 te ρ2 (PD (h x)))) :
    EvP K H0 (tLc wi g tt te vs) ρ (PN ((xs.filter f).map h)) := by
  refine (ev_lcR (R := fun x d => d = h x) enc f hi hn fun x hx => ?_).to fun H v H' ⟨ds, h1, h2⟩ => by rw [← h1.det]; exact h2
  intro v σ H s r Q q
  exact hb x hx v σ H s r Q fun ρ' σ' ⟨m1, m2⟩ s' w => q ρ' σ' ⟨m1, fun hf => (m2 hf).any rfl⟩ s' w
/-- without a test -/
theorem ev_lc1 {α : Type} {wi : TI} {g : TG} {vs : List Nat} {xs : List α} (enc : α → D) (h : α → D) (hi : EvI K H0 wi ρ (xs.map enc)) (hn : xs.length ≤ 100000)
    (hb : ∀ x ∈ xs, TgX K H0 g vs (enc x) (wipeA ρ vs) fun ρ2 => EvP K H0 te ρ2 (PD (h x))) :
    EvP K H0 (tLc wi g tYes te vs) ρ (PN (xs.map h)) := by
  have := ev_lc (tt := tYes) (te := te) (g := g) (vs := vs) enc (fun _ => true) h hi hn fun x hx => by
    intro v σ H s r Q q
    exact hb x hx v σ H s r Q fun ρ' σ' m s' w => q ρ' σ' ⟨et_yes, fun _ => m⟩ s' w
  rwa [List.filter_eq_self.mpr (fun _ _ => rfl)] at this
theorem ev_lcR1 {α : Type} {wi : TI} {g : TG} {vs : List Nat} {xs : List α} (enc : α → D) (R : α → D → Prop) (hi : EvI K H0 wi ρ (xs.map enc)) (hn : xs.length ≤ 100000)
    (hb : ∀ x ∈ xs, TgX K H0 g vs (enc x) (wipeA ρ vs) fun ρ2 => EvP K H0 te ρ2 (PDs (R x))) :
    EvP K H0 (tLc wi g tYes te vs) ρ (PNs (All2 R xs)) := by
  have := ev_lcR (tt := tYes) (te := te) (g := g) (vs := vs) enc (fun _ => true) R hi hn fun x hx => by
    intro v σ H s r Q q
    exact hb x hx v σ H s r Q fun ρ' σ' m s' w => q ρ' σ' ⟨et_yes, fun _ => m⟩ s' w
  rwa [List.filter_eq_self.mpr (fun _ _ => rfl)] at this
end

/-! ### statements -/
structure Po where
  N : Ab → Prop
  R : V → Hp → Prop
  B : Ab → Prop := fun _ => False
  C : Ab → Prop := fun _ => False
def Go (K : PySem.W.Frag) (H0 H : Hp) (M : Ab → Prop) (k : L2.St → Hp → Prop) : Prop := ∀ ρ' σ' H', M ρ' → StOk K H0 ρ' σ' H' → TEx H H' → k σ' H'
def Sx (K : PySem.W.Frag) (H0 : Hp) (ts : TS) (ρ : Ab) (po : Po) : Prop :=
  ∀ σ H E, StOk K H0 ρ σ H → Go K H0 H po.N E.nx → (∀ v H', Ex H0 H' → po.R v H' → E.rt v H') → Go K H0 H po.B E.bk → Go K H0 H po.C E.ct → ts E σ H
theorem Go.at {K : PySem.W.Frag} {H0 H H1 : Hp} {M : Ab → Prop} {k : L2.St → Hp → Prop} (g : Go K H0 H M k) (e : TEx H H1) : Go K H0 H1 M k := fun ρ' σ' H' m s t => g ρ' σ' H' m s (e.trans t)
section
variable {K : PySem.W.Frag} {H0 : Hp} {ρ : Ab} {te ta tb tc : TE} {P P1 P2 P3 : PV} {po : Po} {t u w : TS}
theorem sx_seq (h : Sx K H0 t ρ { po with N := fun ρ' => Sx K H0 u ρ' po }) : Sx K H0 (tSeq t u) ρ po := fun σ H E s n r b c =>
  h σ H { E with nx := u E } s (fun ρ' σ' H' m s' te => m σ' H' E s' (n.at te) r (b.at te) (c.at te)) r b c
theorem sx_next (h : po.N ρ) : Sx K H0 tNext ρ po := fun σ H E s n r b c => n ρ σ H h s (TEx.refl H)
theorem sx_break (h : po.B ρ) : Sx K H0 tBreak ρ po := fun σ H E s n r b c => b ρ σ H h s (TEx.refl H)
theorem sx_cont (h : po.C ρ) : Sx K H0 tCont ρ po := fun σ H E s n r b c => c ρ σ H h s (TEx.refl H)
/-- a weaker end -/
theorem Sx.imp {M : Ab → Prop} (h : Sx K H0 t ρ { po with N := M }) (f : ∀ ρ', M ρ' → po.N ρ') : Sx K H0 t ρ po := fun σ H E s n r b c => h σ H E s (fun ρ' σ' H' m => n ρ' σ' H' (f _ m)) r b c
theorem sx_setD {i : Nat} {d : D} (h : EvP K H0 te ρ (PD d)) (k : po.N (ρ.set i (.d d))) : Sx K H0 (tAsg te (gName i)) ρ po := fun σ H E s n r b c =>
  h σ H s _ fun v H1 e p => n _ _ H1 k ((s.ex e).setd i p) (tex e)
theorem sx_setDs {i : Nat} {S : D → Prop} (h : EvP K H0 te ρ (PDs S)) (k : ∀ d, S d → po.N (ρ.set i (.d d))) : Sx K H0 (tAsg te (gName i)) ρ po := fun σ H E s n r b c =>
  h σ H s _ fun v H1 e ⟨d, hd, p⟩ => n _ _ H1 (k d hd) ((s.ex e).setd i p) (tex e)
theorem sx_setI {i : Nat} (h : EvP K H0 te ρ PZ) (k : ∀ z : Int, po.N (ρ.set i (.d (.int z)))) : Sx K H0 (tAsg te (gName i)) ρ po := sx_setDs h fun d ⟨z, e⟩ => by rw [e]; exact k z
theorem sx_setN {i : Nat} {ds : List D} (h : EvP K H0 te ρ (PN ds)) (k : ∀ p, po.N (ρ.set i (.l p ds))) : Sx K H0 (tAsg te (gName i)) ρ po := fun σ H E s n r b c =>
  h σ H s _ fun v H1 e ⟨p, xs, h1, h2, h3, h4⟩ => by
    subst h1
    exact n _ _ H1 (k p) (s.setl i h2 e h3 h4) (tex e)
theorem sx_setNs {i : Nat} {S : List D → Prop} (h : EvP K H0 te ρ (PNs S)) (k : ∀ p ds, S ds → po.N (ρ.set i (.l p ds))) : Sx K H0 (tAsg te (gName i)) ρ po := fun σ H E s n r b c =>
  h σ H s _ fun v H1 e ⟨ds, hs, p, xs, h1, h2, h3, h4⟩ => by
    subst h1
    exact n _ _ H1 (k p ds hs) (s.setl i h2 e h3 h4) (tex e)
/-- a tuple is unpacked -/
theorem sx_unp {g : TG} {vs : List Nat} {d : D} (h : EvP K H0 te ρ (PD d)) (hg : TgX K H0 g vs d ρ po.N) : Sx K H0 (tAsg te g) ρ po := fun σ H E s n r b c =>
  h σ H s _ fun v H1 e p => hg v σ H1 (s.ex e) p _ fun ρ' σ' m s' _ => n ρ' σ' H1 m s' (tex e)
theorem sx_unps {g : TG} {vs : List Nat} {S : D → Prop} (h : EvP K H0 te ρ (PDs S)) (hg : ∀ d, S d → TgX K H0 g vs d ρ po.N) : Sx K H0 (tAsg te g) ρ po := fun σ H E s n r b c =>
  h σ H s _ fun v H1 e ⟨d, hd, p⟩ => hg d hd v σ H1 (s.ex e) p _ fun ρ' σ' m s' _ => n ρ' σ' H1 m s' (tex e)
theorem sx_if {tt : TT} {b : Bool} (h : EvT K H0 tt ρ b) (h1 : b = true → Sx K H0 t ρ po) (h2 : b = false → Sx K H0 u ρ po) : Sx K H0 (tIfS tt t u) ρ po := fun σ H E s n r bk c =>
  h σ H s _ fun H1 e => by
    cases b with
    | true =>
      show t E σ H1
      exact h1 rfl σ H1 E (s.ex e) (n.at (tex e)) r (bk.at (tex e)) (c.at (tex e))
    | false =>
      show u E σ H1
      exact h2 rfl σ H1 E (s.ex e) (n.at (tex e)) r (bk.at (tex e)) (c.at (tex e))
theorem sx_drop (h : EvP K H0 te ρ P) (k : po.N ρ) : Sx K H0 (tDrop te) ρ po := fun σ H E s n r b c =>
  h σ H s _ fun v H1 e p => n ρ σ H1 k (s.ex e) (tex e)
theorem sx_ret (h : EvP K H0 te ρ P) (k : ∀ H v H', Ex H0 H → P H v H' → Ex H0 H' → po.R v H') : Sx K H0 (tRet te) ρ po := fun σ H E s n r b c =>
  h σ H s _ fun v H1 e p => r v H1 (s.base.trans e) (k H v H1 s.base p (s.base.trans e))
theorem sx_retD {d : D} (h : EvP K H0 te ρ (PD d)) (k : ∀ v H', Rp H' v d → po.R v H') : Sx K H0 (tRet te) ρ po := sx_ret h fun H v H' _ p _ => k v H' p
theorem sx_retDs {S : D → Prop} (h : EvP K H0 te ρ (PDs S)) (k : ∀ d, S d → ∀ v H', Rp H' v d → po.R v H') : Sx K H0 (tRet te) ρ po := sx_ret h fun H v H' _ ⟨d, hd, p⟩ _ => k d hd v H' p
theorem sx_retN {ds : List D} (h : EvP K H0 te ρ (PN ds)) (k : ∀ v H', PN ds H0 v H' → po.R v H') : Sx K H0 (tRet te) ρ po := sx_ret h fun H v H' e p _ => k v H' (PN.base e p)
/-- an own list is handed back -/
theorem sx_retL {i : Nat} {p : Addr} {ds : List D} (h : ρ[i]? = some (.l p ds)) (k : ∀ v H', PN ds H0 v H' → po.R v H') : Sx K H0 (tRet (tVar i)) ρ po := fun σ H E s n r b c => by
  obtain ⟨x, h1, rfl, xs, h2, h3⟩ := s.sl i _ h
  exact ⟨_, h1, r _ H s.base (k _ H ⟨p, xs, rfl, s.fresh i _ p h rfl, h2, h3⟩)⟩
theorem sx_never (h : False) : Sx K H0 tNever ρ po := h.elim

/-! ### lists changed -/
theorem not_of_lt_idx {z : Int} : ∀ {ns : List Int} {m : Nat}, m < ns.idxOf z → (h : m < ns.length) → ns[m] ≠ z
  | n :: ns, m, hm, h, e => by
    rw [List.idxOf_cons] at hm
    cases hb : n == z with
    | true =>
      rw [hb] at hm
      exact absurd hm (by simp)
    | false =>
      rw [hb] at hm
      cases m with
      | zero =>
        have : n = z := e
        rw [this, beq_self_eq_true] at hb
        cases hb
      | succ m =>
        exact not_of_lt_idx (ns := ns) (m := m) (by simpa using hm) (by simpa using h) e
theorem own_ref {i : Nat} {p : Addr} {ds : List D} {σ : L2.St} {H : Hp} (h : ρ[i]? = some (.l p ds)) (s : StOk K H0 ρ σ H) : σ[i]? = some (some (.ref p)) ∧ ∃ xs, H p = some (.lst xs) ∧ Rps H xs ds := by
  obtain ⟨x, h1, rfl, xs, h2, h3⟩ := s.sl i _ h
  exact ⟨h1, xs, h2, h3⟩
theorem sx_appD {i : Nat} {p : Addr} {ds : List D} {d : D} (hi : ρ[i]? = some (.l p ds)) (h : EvP K H0 te ρ (PD d)) (hl : ds.length ≤ 1000) (k : po.N (ρ.set i (.l p (ds ++ [d])))) :
    Sx K H0 (tDrop (tBM K "list" rAppend (tVar i) (tCons te tNil))) ρ po := fun σ H E s n r b c => by
  obtain ⟨h1, xs, h2, h3⟩ := own_ref hi s
  refine ⟨.ref p, h1, .inl ⟨rfl, xs, .inl (.inl h2)⟩, h σ H s _ fun v H1 e pv => ?_⟩
  obtain ⟨s1, t1⟩ := (s.ex e).mut (xs' := xs ++ [v]) (ds' := ds ++ [d]) hi ((h3.mono (tex e)).append (.cons pv .nil))
  exact ⟨p, xs, v, rfl, rfl, e _ _ h2, by rw [h3.length]; exact small1000 hl, n _ σ _ k s1 ((tex e).trans t1)⟩
theorem sx_appDs {i : Nat} {p : Addr} {ds : List D} {S : D → Prop} (hi : ρ[i]? = some (.l p ds)) (h : EvP K H0 te ρ (PDs S)) (hl : ds.length ≤ 1000) (k : ∀ d, S d → po.N (ρ.set i (.l p (ds ++ [d])))) :
    Sx K H0 (tDrop (tBM K "list" rAppend (tVar i) (tCons te tNil))) ρ po := fun σ H E s n r b c => by
  obtain ⟨h1, xs, h2, h3⟩ := own_ref hi s
  refine ⟨.ref p, h1, .inl ⟨rfl, xs, .inl (.inl h2)⟩, h σ H s _ fun v H1 e ⟨d, hd, pv⟩ => ?_⟩
  obtain ⟨s1, t1⟩ := (s.ex e).mut (xs' := xs ++ [v]) (ds' := ds ++ [d]) hi ((h3.mono (tex e)).append (.cons pv .nil))
  exact ⟨p, xs, v, rfl, rfl, e _ _ h2, by rw [h3.length]; exact small1000 hl, n _ σ _ (k d hd) s1 ((tex e).trans t1)⟩
theorem sx_ext {i : Nat} {p : Addr} {ds es : List D} (hi : ρ[i]? = some (.l p ds)) (h : EvP K H0 te ρ (PN es)) (hl : ds.length + es.length ≤ 1000000) (k : po.N (ρ.set i (.l p (ds ++ es)))) :
    Sx K H0 (tDrop (tBM K "list" rExtend (tVar i) (tCons te tNil))) ρ po := fun σ H E s n r b c => by
  obtain ⟨h1, xs, h2, h3⟩ := own_ref hi s
  refine ⟨.ref p, h1, .inl ⟨rfl, xs, .inl (.inl h2)⟩, h σ H s _ fun v H1 e ⟨q, ys, k1, k2, k3, k4⟩ => ?_⟩
  subst k1
  obtain ⟨s1, t1⟩ := (s.ex e).mut (xs' := xs ++ ys) (ds' := ds ++ es) hi ((h3.mono (tex e)).append k4)
  exact ⟨p, q, xs, ys, rfl, rfl, e _ _ h2, k3, by rw [h3.length, k4.length]; exact Nat.le_trans hl (by decide), n _ σ _ k s1 ((tex e).trans t1)⟩
theorem sx_rev {i : Nat} {p : Addr} {ds : List D} (hi : ρ[i]? = some (.l p ds)) (k : po.N (ρ.set i (.l p ds.reverse))) :
    Sx K H0 (tDrop (tBM0 K "list" rReverse (tVar i))) ρ po := fun σ H E s n r b c => by
  obtain ⟨h1, xs, h2, h3⟩ := own_ref hi s
  obtain ⟨s1, t1⟩ := s.mut (xs' := xs.reverse) (ds' := ds.reverse) hi h3.reverse
  exact ⟨.ref p, h1, .inl ⟨rfl, xs, .inl (.inl h2)⟩, p, xs, rfl, rfl, h2, n _ σ _ k s1 t1⟩
theorem sx_remI {i : Nat} {p : Addr} {ns : List Int} {z : Int} (hi : ρ[i]? = some (.l p (ns.map D.int))) (h : EvP K H0 te ρ (PD (.int z))) (hz : z ∈ ns) (k : po.N (ρ.set i (.l p ((ns.erase z).map D.int)))) :
    Sx K H0 (tDrop (tBM K "list" rRemI (tVar i) (tCons te tNil))) ρ po := fun σ H E s n r b c => by
  obtain ⟨h1, xs, h2, h3⟩ := own_ref hi s
  have := h3.ints
  subst this
  refine ⟨.ref p, h1, .inl ⟨rfl, _, .inl (.inl h2)⟩, h σ H s _ fun v H1 e pv => ?_⟩
  have := Rp.intI pv
  subst this
  have hj := List.idxOf_lt_length_of_mem hz
  have ee : ns.erase z = ns.eraseIdx (ns.idxOf z) := List.erase_eq_eraseIdx_of_idxOf rfl
  obtain ⟨s1, t1⟩ := (s.ex e).mut (xs' := (ns.eraseIdx (ns.idxOf z)).map V.int) (ds' := (ns.erase z).map D.int) hi (by rw [ee]; exact rps_ints _)
  refine ⟨p, ns, z, ns.idxOf z, rfl, rfl, e _ _ h2, ?_, fun m hm q => ?_, n _ σ _ k s1 ((tex e).trans t1)⟩
  · rw [List.getElem?_eq_getElem hj, List.getElem_idxOf]
  · obtain ⟨hm', em⟩ := List.getElem?_eq_some_iff.mp q
    exact absurd em (not_of_lt_idx hm hm')
/-- x = y, y an own list that is not looked at any more -/
theorem sx_move {i j : Nat} {p : Addr} {ds : List D} (hj : ρ[j]? = some (.l p ds)) (hij : i ≠ j) (k : po.N ((ρ.set j .u).set i (.l p ds))) : Sx K H0 (tAsg (tVar j) (gName i)) ρ po := fun σ H E s n r b c => by
  obtain ⟨h1, xs, h2, h3⟩ := own_ref hj s
  refine ⟨.ref p, h1, n _ _ H k ((s.forget j).set i ⟨rfl, xs, h2, h3⟩ fun q z => ?_) (TEx.refl H)⟩
  cases z
  refine ⟨s.fresh j _ p hj rfl, fun l b hl hb ob => ?_⟩
  by_cases e : l = j
  · subst e
    have hlt : l < ρ.length := by
      have := (List.getElem?_eq_some_iff.mp hb).1
      rwa [List.length_set] at this
    rw [List.getElem?_set_self hlt] at hb
    cases hb
    cases ob
  · rw [List.getElem?_set_ne (Ne.symm e)] at hb
    exact e (s.ap l j b _ p hb hj ob rfl)
theorem sx_augI {i : Nat} {f : Int → Int → Int} {a b : Int} (hi : ρ[i]? = some (.d (.int a))) (h : EvP K H0 te ρ (PD (.int b))) (k : po.N (ρ.set i (.d (.int (f a b))))) : Sx K H0 (tAug i te (ipI f)) ρ po := fun σ H E s n r bk c => by
  obtain ⟨x, h1, v, rfl, r1⟩ := s.sl i _ hi
  have := Rp.intI r1
  subst this
  exact ⟨_, h1, h σ H s _ fun v H1 e p => ⟨a, b, rfl, Rp.intI p, n _ _ H1 k ((s.ex e).setd i (.int _)) (tex e)⟩⟩
theorem sx_augC {i : Nat} {C : Int → Int → Prop} {f : Int → Int → Int} {a b : Int} (hi : ρ[i]? = some (.d (.int a))) (h : EvP K H0 te ρ (PD (.int b))) (hc : C a b) (k : po.N (ρ.set i (.d (.int (f a b))))) : Sx K H0 (tAug i te (rI C fun i j => .int (f i j))) ρ po := fun σ H E s n r bk c => by
  obtain ⟨x, h1, v, rfl, r1⟩ := s.sl i _ hi
  have := Rp.intI r1
  subst this
  exact ⟨_, h1, h σ H s _ fun v H1 e p => ⟨a, b, rfl, Rp.intI p, hc, n _ _ H1 k ((s.ex e).setd i (.int _)) (tex e)⟩⟩
/-- a, b = x, y of data -/
theorem sx_par {i j : Nat} {x y : D} {t : TA} (h : EvA K H0 t ρ [.d x, .d y]) (k : po.N ((ρ.set i (.d x)).set j (.d y))) : Sx K H0 (tPar i j t) ρ po := fun σ H E s n r b c =>
  h σ H s _ fun vs H1 e p => by
    cases p with
    | cons h1 h2 =>
      cases h2 with
      | cons h3 h4 =>
        cases h4
        exact ⟨_, _, rfl, n _ _ H1 k (((s.ex e).setd i h1).setd j h3) (tex e)⟩

/-! ### loops -/
theorem sx_for {wi : TI} {g : TG} {ds : List D} {vs : List Nat} (hj : EvJ K H0 wi ρ ds) (I : Nat → Ab → Prop) (h0 : I 0 ρ)
    (hs : ∀ i d ρ', ds[i]? = some d → I i ρ' → TgX K H0 g vs d ρ' fun ρ2 => Sx K H0 t ρ2 { N := I (i + 1), R := po.R, B := po.N, C := I (i + 1) }) (hd : ∀ ρ', I ds.length ρ' → po.N ρ') :
    Sx K H0 (tFor wi g t) ρ po := fun σ H E s n r b c => hj σ H s _ fun J H1 e it => by
  refine ⟨fun i m σ' H' => m = ds.length - i ∧ i ≤ ds.length ∧ TEx H1 H' ∧ ∃ ρ', I i ρ' ∧ StOk K H0 ρ' σ' H', ⟨ds.length, by simp, Nat.zero_le _, TEx.refl _, ρ, h0, s.ex e⟩, ?_⟩
  rintro i m σ' H' ⟨rfl, hle, t1, ρ', hI, s'⟩
  obtain ⟨k1, k2, k3⟩ := it H' i t1
  by_cases hlt : i < ds.length
  · refine .inr ⟨k1 hlt, fun σ2 H2 => TEx H1 H2 ∧ ∃ ρ2, I (i + 1) ρ2 ∧ StOk K H0 ρ2 σ2 H2, fun σ2 H2 ⟨a, b⟩ => ⟨ds.length - (i + 1), by omega, rfl, hlt, a, b⟩, fun x H2 y => ?_⟩
    obtain ⟨rfl, d, hd', rd⟩ := k3 x H2 y hlt
    refine hs i d ρ' hd' hI x σ' H2 s' rd _ fun ρ2 σ2 m2 s2 _ => ?_
    exact m2 σ2 H2 _ s2 (fun ρ3 σ3 H3 m3 s3 t3 => ⟨t1.trans t3, ρ3, m3, s3⟩) r (fun ρ3 σ3 H3 m3 s3 t3 => n ρ3 σ3 H3 m3 s3 (((tex e).trans t1).trans t3)) (fun ρ3 σ3 H3 m3 s3 t3 => ⟨t1.trans t3, ρ3, m3, s3⟩)
  · have ei : i = ds.length := by omega
    subst ei
    exact .inl ⟨k2 (Nat.le_refl _), n ρ' σ' H' (hd ρ' hI) s' ((tex e).trans t1)⟩
/-- over a list in a slot that the loop does not change -/
theorem sx_forL {g : TG} {ds : List D} {vs : List Nat} {k : Nat} {p : Addr} (hk : ρ[k]? = some (.l p ds) ∨ ρ[k]? = some (.b p ds)) (I : Nat → Ab → Prop) (h0 : I 0 ρ)
    (hl : ∀ i ρ', I i ρ' → ρ'[k]? = some (.l p ds) ∨ ρ'[k]? = some (.b p ds))
    (hs : ∀ i d ρ', ds[i]? = some d → I i ρ' → TgX K H0 g vs d ρ' fun ρ2 => Sx K H0 t ρ2 { N := I (i + 1), R := po.R, B := po.N, C := I (i + 1) }) (hd : ∀ ρ', I ds.length ρ' → po.N ρ') :
    Sx K H0 (tFor (iList K (tVar k)) g t) ρ po := fun σ H E s n r b c => by
  have rd : ∀ {ρ' : Ab} {σ' : L2.St} {H' : Hp}, (ρ'[k]? = some (.l p ds) ∨ ρ'[k]? = some (.b p ds)) → StOk K H0 ρ' σ' H' → σ'[k]? = some (some (.ref p)) ∧ ∃ xs, SqL K H' p xs ∧ Rps H' xs ds := fun {ρ' σ' H'} h s' => by
    rcases h with h | h
    · obtain ⟨x, h1, rfl, xs, h2, h3⟩ := s'.sl k _ h
      exact ⟨h1, xs, .inl (.inl h2), h3⟩
    · obtain ⟨x, h1, rfl, xs, h2, h3⟩ := s'.sl k _ h
      exact ⟨h1, xs, sql_mono s'.base h2, h3⟩
  obtain ⟨h1, xs, h2, h3⟩ := rd hk s
  refine ⟨.ref p, h1, p, rfl, ⟨xs, h2⟩, fun i m σ' H' => m = ds.length - i ∧ i ≤ ds.length ∧ TEx H H' ∧ ∃ ρ', I i ρ' ∧ StOk K H0 ρ' σ' H', ⟨ds.length, by simp, Nat.zero_le _, TEx.refl _, ρ, h0, s⟩, ?_⟩
  rintro i m σ' H' ⟨rfl, hle, t1, ρ', hI, s'⟩
  obtain ⟨g1, ys, g2, g3⟩ := rd (hl i ρ' hI) s'
  have gl := g3.length
  by_cases hlt : i < ds.length
  · obtain ⟨v, v1, v2⟩ := g3.get (List.getElem?_eq_getElem hlt)
    refine .inr ⟨⟨ys, v, g2, v1⟩, fun σ2 H2 => TEx H H2 ∧ ∃ ρ2, I (i + 1) ρ2 ∧ StOk K H0 ρ2 σ2 H2, fun σ2 H2 ⟨a, b⟩ => ⟨ds.length - (i + 1), by omega, rfl, hlt, a, b⟩, fun x H2 y => ?_⟩
    obtain ⟨rfl, y⟩ := y
    have ex : v = x := Option.some.inj (v1.symm.trans (y ys g2))
    subst ex
    refine hs i _ ρ' (List.getElem?_eq_getElem hlt) hI v σ' H2 s' v2 _ fun ρ2 σ2 m2 s2 _ => ?_
    exact m2 σ2 H2 _ s2 (fun ρ3 σ3 H3 m3 s3 t3 => ⟨t1.trans t3, ρ3, m3, s3⟩) r (fun ρ3 σ3 H3 m3 s3 t3 => n ρ3 σ3 H3 m3 s3 (t1.trans t3)) (fun ρ3 σ3 H3 m3 s3 t3 => ⟨t1.trans t3, ρ3, m3, s3⟩)
  · have ei : i = ds.length := by omega
    subst ei
    exact .inl ⟨⟨ys, g2, by omega⟩, n ρ' σ' H' (hd ρ' hI) s' t1⟩
theorem sx_while {tt : TT} (W : Nat → Ab → Prop) (m0 : Nat) (h0 : W m0 ρ)
    (hs : ∀ m ρ', W m ρ' → ∃ b, EvT K H0 tt ρ' b ∧ (b = true → Sx K H0 t ρ' { N := fun ρ2 => ∃ m', m' < m ∧ W m' ρ2, R := po.R, B := po.N, C := fun ρ2 => ∃ m', m' < m ∧ W m' ρ2 }) ∧ (b = false → po.N ρ')) :
    Sx K H0 (tWhile tt t) ρ po := fun σ H E s n r b c => by
  refine ⟨fun m σ' H' => TEx H H' ∧ ∃ ρ', W m ρ' ∧ StOk K H0 ρ' σ' H', ⟨m0, TEx.refl _, ρ, h0, s⟩, ?_⟩
  rintro m σ' H' ⟨t1, ρ', hW, s'⟩
  obtain ⟨bb, h1, h2, h3⟩ := hs m ρ' hW
  refine h1 σ' H' s' _ fun H2 e => ?_
  cases bb with
  | true =>
    refine iteT ⟨fun σ2 H2 => ∃ m', m' < m ∧ TEx H H2 ∧ ∃ ρ2, W m' ρ2 ∧ StOk K H0 ρ2 σ2 H2, fun σ2 H2 ⟨m', a, b⟩ => ⟨m', a, b⟩, ?_⟩
    exact h2 rfl σ' H2 _ (s'.ex e) (fun ρ3 σ3 H3 ⟨m', l, m3⟩ s3 t3 => ⟨m', l, (t1.trans (tex e)).trans t3, ρ3, m3, s3⟩) r (fun ρ3 σ3 H3 m3 s3 t3 => n ρ3 σ3 H3 m3 s3 ((t1.trans (tex e)).trans t3)) (fun ρ3 σ3 H3 ⟨m', l, m3⟩ s3 t3 => ⟨m', l, (t1.trans (tex e)).trans t3, ρ3, m3, s3⟩)
  | false =>
    exact iteF (n ρ' σ' H2 (h3 rfl) (s'.ex e) (t1.trans (tex e)))
end

/-! ### a def -/
def toA (pf : Nat → Addr) : Nat → List Ar → Ab
  | _, [] => []
  | i, .d d :: as => .d d :: toA pf (i + 1) as
  | i, .s ds :: as => .b (pf i) ds :: toA pf (i + 1) as
theorem toA_len (pf : Nat → Addr) : ∀ (i : Nat) (as : List Ar), (toA pf i as).length = as.length
  | _, [] => rfl
  | i, .d d :: as => by rw [toA, List.length_cons, List.length_cons, toA_len pf (i + 1) as]
  | i, .s d :: as => by rw [toA, List.length_cons, List.length_cons, toA_len pf (i + 1) as]
def slotsA (pf : Nat → Addr) (n : Nat) (as : List Ar) : Ab := toA pf 0 as ++ List.replicate (n - as.length) .u
theorem args_slots {K : PySem.W.Frag} {H : Hp} : ∀ (vs : List V) (as : List Ar) (j : Nat), ArsOk K H vs as → ∃ pf : Nat → Addr, ∀ (i : Nat) (a : A), (toA pf j as)[i]? = some a → ∃ v, vs[i]? = some v ∧ Sl K H H (some v) a ∧ own a = none
  | _, _, j, .nil => ⟨fun _ => 0, fun i a h => by simp [toA] at h⟩
  | v :: vs, .d d :: as, j, .cons h r => by
    obtain ⟨pf, hp⟩ := args_slots vs as (j + 1) r
    refine ⟨pf, fun i a hi => ?_⟩
    cases i with
    | zero =>
      simp [toA] at hi
      subst hi
      exact ⟨v, rfl, ⟨v, rfl, h⟩, rfl⟩
    | succ i => exact hp i a (by simpa [toA] using hi)
  | v :: vs, .s ds :: as, j, .cons h r => by
    obtain ⟨pf, hp⟩ := args_slots vs as (j + 1) r
    obtain ⟨p, xs, rfl, h1, h2⟩ := h
    have same : ∀ (f g : Nat → Addr) (as : List Ar) (j : Nat), (∀ i, j ≤ i → f i = g i) → toA f j as = toA g j as := by
      intro f g as
      induction as with
      | nil => intro j _; rfl
      | cons a as ih =>
        intro j hj
        cases a with
        | d d => rw [toA, toA, ih (j + 1) fun i hi => hj i (by omega)]
        | s ds => rw [toA, toA, hj j (Nat.le_refl _), ih (j + 1) fun i hi => hj i (by omega)]
    refine ⟨fun i => if i = j then p else pf i, fun i a hi => ?_⟩
    cases i with
    | zero =>
      simp [toA] at hi
      subst hi
      exact ⟨.ref p, rfl, ⟨rfl, xs, h1, h2⟩, rfl⟩
    | succ i =>
      refine hp i a ?_
      rw [same pf (fun i => if i = j then p else pf i) as (j + 1) fun i hi => by simp [show i ≠ j by omega]]
      simpa [toA] using hi
/-- what a def's body has to show -/
abbrev poOf (H0 : Hp) (P : PV) : Po := { N := fun _ => ∀ H', Ex H0 H' → P H0 .non H', R := fun v H' => P H0 v H' }
section
variable {P : Program} {w : World} {K : PySem.W.Frag} {mg : Str → Option Value} {base : Heap}
theorem okOf {x qual : Str} {st : Stmt} {f : Addr} {fd : FuncData} {N ps : List Str} {k : Nat} {pre : List Ar → PV → Prop} (F : Fun K x qual st f fd) (S : FnScope N ps (defScope st)) (hN : ps.length ≤ N.length)
    (hlen : ∀ as R, pre as R → as.length = ps.length)
    (body : ∀ (cdv : Value) (Aa : Around) (outer : List Env) (s : Shared) (H0 : Hp) (E : XK), Room k (Aa.deeper (PyProof.Rows.envOfC qual (defScope st) s.heap.objs.size f cdv)) →
      ∃ t, PSs (cxOf CX0 P w K mg base N qual (defScope st) f cdv Aa outer s H0 E).nox (defBody st) t ∧ ∀ as R pf, pre as R → Sx K H0 t (slotsA pf N.length as) (poOf H0 R)) : FnOk P w K mg base CX0 (k + 1) f fd ps (spec K pre) := by
  refine F.ok S (fun vs H Q E h => ?_) (fun cdv Aa outer s H vs Q E hr h => ?_)
  · obtain ⟨as, R, h1, h2, _⟩ := h
    rw [h1.length]
    exact hlen as R h2
  · obtain ⟨as, R, h1, h2, h3⟩ := h
    obtain ⟨t, ht, hs⟩ := body cdv Aa outer s H E hr
    refine ⟨t, ht, ?_⟩
    obtain ⟨pf, hp⟩ := args_slots vs as 0 h1
    have lv := h1.length
    have ll := hlen as R h2
    refine hs as R pf h2 (L2.start N vs) H _ ?_ (fun ρ' σ' H' m s' te => h3 _ _ s'.base (m H' s'.base)) (fun v H' e r => h3 v H' e r) (fun _ _ _ z => z.elim) (fun _ _ _ z => z.elim)
    have ow : ∀ (i : Nat) (a : A), (slotsA pf N.length as)[i]? = some a → own a = none := fun i a hi => by
      unfold slotsA at hi
      by_cases hl : i < as.length
      · rw [List.getElem?_append_left (by rw [toA_len]; exact hl)] at hi
        obtain ⟨v, _, _, z⟩ := hp i a hi
        exact z
      · rw [List.getElem?_append_right (by rw [toA_len]; omega), List.getElem?_replicate] at hi
        split at hi
        · cases hi; rfl
        · cases hi
    refine ⟨?_, fun i a hi => ?_, fun i j a b p ha hb oa ob => ?_, Same.refl _, fun i a p ha oa => ?_⟩
    · unfold slotsA L2.start
      simp [toA_len, lv]
    · have hi0 := hi
      unfold slotsA at hi
      by_cases hl : i < as.length
      · rw [List.getElem?_append_left (by rw [toA_len]; exact hl)] at hi
        obtain ⟨v, hv, sl, _⟩ := hp i a hi
        refine ⟨some v, ?_, sl⟩
        unfold L2.start
        rw [List.getElem?_append_left (by rw [List.length_map, lv]; exact hl), List.getElem?_map, hv]
        rfl
      · rw [List.getElem?_append_right (by rw [toA_len]; omega), List.getElem?_replicate] at hi
        split at hi
        · cases hi
          have hlt : i < (L2.start N vs).length := by
            unfold L2.start
            rw [List.length_append, List.length_map, List.length_replicate]
            rename_i hh
            rw [toA_len] at hh
            omega
          exact ⟨_, List.getElem?_eq_getElem hlt, trivial⟩
        · cases hi
    · rw [ow i a ha] at oa
      cases oa
    · rw [ow i a ha] at oa
      cases oa
/-- a promise that asks what can't be -/
theorem ok_none {f : Addr} {fd : FuncData} {ps : List Str} {k : Nat} {pre : List Ar → PV → Prop} (h : ∀ as R, ¬ pre as R) : FnOk P w K mg base CX0 k f fd ps (spec K pre) :=
  ⟨fun vs H Q E ⟨as, R, _, h2, _⟩ => (h as R h2).elim, fun Aa outer s H args us vs Q E _ _ _ _ ⟨as, R, _, h2, _⟩ => (h as R h2).elim⟩
end
end Wk
/-! ## M0 -/
set_option linter.all false
set_option autoImplicit false
/-! Trees, told orders, wishes, rings: plain definitions. -/
namespace Wk
inductive Tr where
  | leaf (i : Nat)
  | node (row : Bool) (ps : List Tr)
mutual
/-- the things, as they stand in the tree -/
def Tr.flat : Tr → List Nat
  | .leaf i => [i]
  | .node _ ps => flats ps
def flats : List Tr → List Nat
  | [] => []
  | p :: ps => p.flat ++ flats ps
end
mutual
def Tr.dep : Tr → Nat
  | .leaf _ => 1
  | .node _ ps => deps ps + 1
def deps : List Tr → Nat
  | [] => 0
  | p :: ps => max p.dep (deps ps)
end
mutual
/-- the form of a tree: at least two parts, a row at least three -/
def Tr.Fm : Tr → Prop
  | .leaf _ => True
  | .node row ps => 2 ≤ ps.length ∧ (row = true → 3 ≤ ps.length) ∧ Fms ps
def Fms : List Tr → Prop
  | [] => True
  | p :: ps => p.Fm ∧ Fms ps
end
/-- a tree over n things -/
structure Tr.Ok (n : Nat) (t : Tr) : Prop where
  fm : t.Fm
  pm : t.flat.Perm (List.range n)
  lo : 1 ≤ n
  hi : n ≤ 9
/-- the parts' orders one after the other, in the sequence s -/
def pick (os : List (List Nat)) (s : List Nat) : List Nat := (s.map fun i => os.getD i []).flatten
def SeqOk (row : Bool) (k : Nat) (s : List Nat) : Prop :=
  if row then s = List.range k ∨ s = (List.range k).reverse else s.Perm (List.range k)
mutual
/-- a tree tells an order -/
def Told : Tr → List Nat → Prop
  | .leaf i, o => o = [i]
  | .node row ps, o => ∃ os s, Tolds ps os ∧ SeqOk row ps.length s ∧ o = pick os s
def Tolds : List Tr → List (List Nat) → Prop
  | [], os => os = []
  | p :: ps, os => ∃ o r, os = o :: r ∧ Told p o ∧ Tolds ps r
end
/-- a stands ahead of b -/
def Bef (a b : Nat) : List Nat → Prop
  | [] => False
  | x :: xs => (x = a ∧ b ∈ xs) ∨ Bef a b xs
instance decBef (a b : Nat) : (o : List Nat) → Decidable (Bef a b o)
  | [] => isFalse fun h => h
  | x :: xs => by
    unfold Bef
    have := decBef a b xs
    exact inferInstance
/-- a wish with its index -/
abbrev Tri := Nat × Nat × Nat
def keepT (o : List Nat) (told : List Tri) : Bool := told.all fun w => decide (Bef w.1 w.2.1 o)
def keepW (o : List Nat) (ws : List (Nat × Nat)) : Bool := ws.all fun w => decide (Bef w.1 w.2 o)
/-- the first part with a thing -/
def ixw (ps : List Tr) (a : Nat) : Nat := ps.findIdx fun p => decide (a ∈ p.flat)
/-- demands between parts -/
def met (ps : List Tr) (told : List Tri) : List Tri :=
  (told.filter fun w => decide (ixw ps w.1 ≠ ixw ps w.2.1)).map fun w => (ixw ps w.1, ixw ps w.2.1, w.2.2)
/-- the wishes within a part -/
def within (ps : List Tr) (told : List Tri) (k : Nat) : List Tri :=
  told.filter fun w => decide (ixw ps w.1 = k) && decide (k = ixw ps w.2.1)
def numb (ws : List (Nat × Nat)) : List Tri := (List.range ws.length).map fun i => ((ws.getD i (0, 0)).1, (ws.getD i (0, 0)).2, i)
/-- demands one after the other, from part i to part j, by their indexes -/
inductive Walk (dem : List Tri) : Nat → Nat → List Nat → Prop
  | one {i j x : Nat} : (i, j, x) ∈ dem → Walk dem i j [x]
  | snoc {i j k x : Nat} {r : List Nat} : Walk dem i j r → (j, k, x) ∈ dem → Walk dem i k (r ++ [x])
mutual
/-- a ring among wishes -/
def RingT : Tr → List Tri → List Nat → Prop
  | .leaf _, _, _ => False
  | .node row ps, told, r =>
    (if row then ∃ i j x i' j' y, (i, j, x) ∈ met ps told ∧ (i', j', y) ∈ met ps told ∧ i < j ∧ j' < i' ∧ r = [x, y]
      else ∃ s, Walk (met ps told) s s r) ∨ RingTs ps told ps 0 r
def RingTs (ps0 : List Tr) (told : List Tri) : List Tr → Nat → List Nat → Prop
  | [], _, _ => False
  | p :: ps, k, r => RingT p (within ps0 told k) r ∨ RingTs ps0 told ps (k + 1) r
end
def WsOk (n : Nat) (ws : List (Nat × Nat)) : Prop := ∀ w ∈ ws, w.1 ≠ w.2 ∧ w.1 < n ∧ w.2 < n
/-- all things of wishes are there, the two differ -/
def TdOk (fl : List Nat) (told : List Tri) : Prop := ∀ w ∈ told, w.1 ≠ w.2.1 ∧ w.1 ∈ fl ∧ w.2.1 ∈ fl
/-- all sequences of given things -/
def ins (x : Nat) : List Nat → List (List Nat)
  | [] => [[x]]
  | y :: ys => (x :: y :: ys) :: (ins x ys).map (y :: ·)
def perms : List Nat → List (List Nat)
  | [] => [[]]
  | x :: xs => (perms xs).flatMap (ins x)
def seqs (row : Bool) (k : Nat) : List (List Nat) := if row then [List.range k, (List.range k).reverse] else perms (List.range k)
/-- a sequence of parts keeps demands -/
def keepD (s : List Nat) (dem : List Tri) : Bool := dem.all fun d => decide (Bef d.1 d.2.1 s)
def lin (row : Bool) (k : Nat) (dem : List Tri) : Nat := (seqs row k).countP fun s => keepD s dem
mutual
/-- how many told orders keep wishes -/
def cntT : Tr → List Tri → Nat
  | .leaf _, _ => 1
  | .node row ps, told => lin row ps.length (met ps told) * cnts ps told ps 0
def cnts (ps0 : List Tr) (told : List Tri) : List Tr → Nat → Nat
  | [], _ => 1
  | p :: ps, k => cntT p (within ps0 told k) * cnts ps0 told ps (k + 1)
end
mutual
/-- all told orders -/
def allTold : Tr → List (List Nat)
  | .leaf i => [[i]]
  | .node row ps => (seqs row ps.length).flatMap fun s => (prods ps).map fun os => pick os s
def prods : List Tr → List (List (List Nat))
  | [] => [[]]
  | p :: ps => (allTold p).flatMap fun o => (prods ps).map fun r => o :: r
end
open Classical in
noncomputable def toldB (t : Tr) (o : List Nat) : Bool := decide (Told t o)
/-- the law's own look at a ring -/
def steps (ps : List Tr) (ws : List (Nat × Nat)) (r : List Nat) : List (Nat × Nat) :=
  r.flatMap fun x => (List.range ps.length).flatMap fun i => ((List.range ps.length).filter fun j =>
    decide (i ≠ j) && decide ((ws.getD x (0, 0)).1 ∈ (ps.getD i (.leaf 0)).flat) && decide ((ws.getD x (0, 0)).2 ∈ (ps.getD j (.leaf 0)).flat)).map fun j => (i, j)
def stepB (row : Bool) (st : List (Nat × Nat)) : Bool :=
  if row then decide (st.length = 2) && (decide ((st.getD 0 (0, 0)).1 < (st.getD 0 (0, 0)).2) != decide ((st.getD 1 (0, 0)).1 < (st.getD 1 (0, 0)).2))
  else (List.range st.length).all fun k => decide ((if k = 0 then st.getD (st.length - 1) (0, 0) else st.getD (k - 1) (0, 0)).2 = (st.getD k (0, 0)).1)
mutual
def lawRing (ws : List (Nat × Nat)) (r : List Nat) : Tr → Bool
  | .leaf _ => false
  | .node row ps => if (steps ps ws r).length = r.length then stepB row (steps ps ws r) else lawRings ws r ps
def lawRings (ws : List (Nat × Nat)) (r : List Nat) : List Tr → Bool
  | [] => false
  | p :: ps => lawRing ws r p || lawRings ws r ps
end
end Wk
/-! ## S0 -/
set_option Elab.async false
set_option linter.all false
set_option autoImplicit false
set_option maxRecDepth 100000
set_option maxHeartbeats 2000000
/-! The promises of the defs. -/
namespace Wk
open PySem PySem.Spec L2

def di (n : Nat) : D := .int (n : Int)
def dis (ns : List Nat) : List D := ns.map di
def dint (n : Nat) : Int := (n : Int)
theorem dis_eq (ns : List Nat) : dis ns = (ns.map dint).map D.int := by simp [dis, di, dint]
mutual
def Tr.enc : Tr → D
  | .leaf i => .int (i : Int)
  | .node row ps => .tup [.str (if row then "row" else "any"), .tup (encs ps)]
def encs : List Tr → List D
  | [] => []
  | p :: ps => p.enc :: encs ps
end
theorem encs_eq : ∀ ps : List Tr, encs ps = ps.map Tr.enc
  | [] => rfl
  | p :: ps => by rw [encs, List.map_cons, encs_eq ps]
def enc3 (w : Tri) : D := .tup [di w.1, di w.2.1, di w.2.2]
def encW (w : Nat × Nat) : D := .tup [di w.1, di w.2]
abbrev dstr (s : Str) : D := .str s

def pre_is_size : List Ar → PV → Prop := fun as P => ∃ n : Int, as = [.d (.int n)] ∧ P = PD (.bl (decide (1 ≤ n) && decide (n ≤ 24)))
def isInt : D → Bool
  | .int _ => true
  | _ => false
def pre_is_thing : List Ar → PV → Prop := fun as P => ∃ d : D, as = [.d d] ∧ ((∃ i, d = .int i) ∨ ∃ ds, d = .tup ds) ∧ P = PD (.bl (isInt d))
def pre_listed (m : Nat) : List Ar → PV → Prop := fun as P => ∃ t : Tr, as = [.d t.enc] ∧ t.dep ≤ m ∧ t.flat.length ≤ 100 ∧ P = PN (dis t.flat)
def pre_has_form (m : Nat) : List Ar → PV → Prop := fun as P => ∃ t : Tr, as = [.d t.enc] ∧ t.dep ≤ m ∧ t.Fm ∧ t.flat.length ≤ 100 ∧ P = PD (.bl true)
def pre_check_tree : List Ar → PV → Prop := fun as P => ∃ (n : Nat) (t : Tr), as = [.d (di n), .d t.enc] ∧ t.Ok n ∧ P = PD t.enc
def pre_need_tree : List Ar → PV → Prop := fun as P => ∃ (n : Nat) (t : Tr), as = [.d t.enc] ∧ t.Ok n ∧ P = PD .non
def pre_need_few_parts (m : Nat) : List Ar → PV → Prop := fun as P => ∃ t : Tr, as = [.d t.enc] ∧ t.dep ≤ m ∧ t.Fm ∧ t.flat.length ≤ 8 ∧ P = PD .non
def pre_check_different : List Ar → PV → Prop := fun as P => ∃ (n a b : Nat) (t : Tr), as = [.d t.enc, .d (.tup [di a, di b])] ∧ t.Ok n ∧ a ≠ b ∧ a < n ∧ b < n ∧ P = PD .non
def pre_index_with : List Ar → PV → Prop := fun as P => ∃ (ps : List Tr) (a : Nat), as = [.d (.tup (encs ps)), .d (di a)] ∧ a ∈ flats ps ∧ (flats ps).length ≤ 9 ∧ deps ps ≤ 9 ∧ ps.length ≤ 9 ∧ P = PD (di (ixw ps a))
def pre_check_wishes : List Ar → PV → Prop := fun as P => ∃ (n : Nat) (t : Tr) (ws : List (Nat × Nat)), as = [.d t.enc, .d (.tup (ws.map encW))] ∧ t.Ok n ∧ WsOk n ws ∧ ws.length ≤ 6 ∧ P = PD .non
def pre_numbered : List Ar → PV → Prop := fun as P => ∃ ws : List (Nat × Nat), as = [.d (.tup (ws.map encW))] ∧ ws.length ≤ 6 ∧ P = PN ((numb ws).map enc3)
/-- parts of a tree, wishes of their things -/
structure PtOk (ps : List Tr) (told : List Tri) : Prop where
  td : TdOk (flats ps) told
  ln : (flats ps).length ≤ 9
  dp : deps ps ≤ 9
  pl : ps.length ≤ 9
  tl : told.length ≤ 6
def pre_met_here : List Ar → PV → Prop := fun as P => ∃ (ps : List Tr) (told : List Tri), as = [.d (.tup (encs ps)), .s (told.map enc3)] ∧ PtOk ps told ∧ P = PN ((met ps told).map enc3)
def pre_met_within : List Ar → PV → Prop := fun as P => ∃ (ps : List Tr) (told : List Tri) (k : Nat), as = [.d (.tup (encs ps)), .s (told.map enc3), .d (di k)] ∧ PtOk ps told ∧ P = PN ((within ps told k).map enc3)
/-- demands among k parts -/
structure DmOk (k : Nat) (dem : List Tri) : Prop where
  lt : ∀ d ∈ dem, d.1 < k ∧ d.2.1 < k
  ne : ∀ d ∈ dem, d.1 ≠ d.2.1
  kk : k ≤ 9
  dl : dem.length ≤ 6
def ringS (dem : List Tri) (d : D) : Prop := ∃ r, d = .tup (dis r) ∧ r.length ≤ 100 ∧ ∃ s, Walk dem s s r
def pre_ring_from : List Ar → PV → Prop := fun as P => ∃ (k s : Nat) (dem : List Tri), as = [.d (di s), .s (dem.map enc3)] ∧ DmOk k dem ∧ P = PDs fun d => (d = .non ∧ ∀ r, ¬ Walk dem s s r) ∨ ringS dem d
def pre_ring_of_any : List Ar → PV → Prop := fun as P => ∃ (k : Nat) (dem : List Tri), as = [.d (di k), .s (dem.map enc3)] ∧ DmOk k dem ∧ P = PDs fun d => (d = .non ∧ ∀ s r, ¬ Walk dem s s r) ∨ ringS dem d
def rowS (dem : List Tri) (d : D) : Prop := ∃ i j x i' j' y, (i, j, x) ∈ dem ∧ (i', j', y) ∈ dem ∧ i < j ∧ j' < i' ∧ d = .tup [di x, di y]
def pre_ring_of_row : List Ar → PV → Prop := fun as P => ∃ (k : Nat) (dem : List Tri), as = [.s (dem.map enc3)] ∧ DmOk k dem ∧ P = PDs fun d => (d = .non ∧ ((∀ w ∈ dem, ¬ w.1 < w.2.1) ∨ ∀ w ∈ dem, ¬ w.2.1 < w.1)) ∨ rowS dem d
def pre_sequence_for : List Ar → PV → Prop := fun as P => ∃ (k : Nat) (dem : List Tri), as = [.d (di k), .s (dem.map enc3)] ∧ DmOk k dem ∧ (∀ s r, ¬ Walk dem s s r) ∧ P = PNs fun ds => ∃ s, ds = dis s ∧ s.Perm (List.range k) ∧ keepD s dem = true
/-- a tree and wishes of its things -/
structure TtOk (t : Tr) (told : List Tri) : Prop where
  td : TdOk t.flat told
  nd : t.flat.Nodup
  ln : t.flat.length ≤ 9
  fm : t.Fm
  dp : t.dep ≤ 9
  tl : told.length ≤ 6
def keptS (t : Tr) (told : List Tri) (d : D) : Prop :=
  (∃ o, d = .tup [.ntup (dis o), .non] ∧ Told t o ∧ keepT o told = true) ∨ ∃ r, d = .tup [.non, .tup (dis r)] ∧ r.length ≤ 100 ∧ RingT t told r
def pre_kept_within (m : Nat) : List Ar → PV → Prop := fun as P => ∃ (t : Tr) (told : List Tri), as = [.d t.enc, .s (told.map enc3)] ∧ t.dep ≤ m ∧ TtOk t told ∧ P = PDs (keptS t told)
def withS (t : Tr) (ws : List (Nat × Nat)) (d : D) : Prop :=
  (∃ o, d = .tup [dstr "order", .ntup (dis o)] ∧ Told t o ∧ keepT o (numb ws) = true) ∨ ∃ r, d = .tup [dstr "ring", .tup (dis r)] ∧ r.length ≤ 100 ∧ RingT t (numb ws) r
structure TwOk (n : Nat) (t : Tr) (ws : List (Nat × Nat)) : Prop where
  ok : t.Ok n
  wo : WsOk n ws
  wl : ws.length ≤ 6
  dp : t.dep ≤ 9
def pre_with_wishes : List Ar → PV → Prop := fun as P => ∃ (n : Nat) (t : Tr) (ws : List (Nat × Nat)), as = [.d t.enc, .d (.tup (ws.map encW))] ∧ TwOk n t ws ∧ P = PDs (withS t ws)
def pre_sequences_kept : List Ar → PV → Prop := fun as P => ∃ (k : Nat) (dem : List Tri), as = [.d (di k), .s (dem.map enc3)] ∧ DmOk k dem ∧ k ≤ 8 ∧ P = PD (di (lin false k dem))
def pre_count_within (m : Nat) : List Ar → PV → Prop := fun as P => ∃ (t : Tr) (told : List Tri), as = [.d t.enc, .s (told.map enc3)] ∧ t.dep ≤ m ∧ TtOk t told ∧ t.flat.length ≤ 8 ∧ P = PD (di (cntT t told))
def pre_count_with_wishes : List Ar → PV → Prop := fun as P => ∃ (n : Nat) (t : Tr) (ws : List (Nat × Nat)), as = [.d t.enc, .d (.tup (ws.map encW))] ∧ TwOk n t ws ∧ n ≤ 8 ∧ P = PD (di (cntT t (numb ws)))
def pre_is_wish_ring : List Ar → PV → Prop := fun as P => ∃ (n : Nat) (t : Tr) (ws : List (Nat × Nat)) (r : List Nat), as = [.d t.enc, .d (.tup (ws.map encW)), .d (.tup (dis r))] ∧ TwOk n t ws ∧ r.length ≤ 100 ∧ RingT t (numb ws) r ∧ P = PD (.bl true)

/-! ### the law's own -/
def pre_cell : List Ar → PV → Prop := fun as P => ∃ (ns : List Int) (k : Nat), as = [.s (ns.map D.int), .d (di k)] ∧ P = PZ
def pre_digits : List Ar → PV → Prop := fun as P => ∃ (c : Int) (ms : List Nat), as = [.d (.int c), .s (dis ms)] ∧ (∀ m ∈ ms, 0 < m) ∧ ms.length ≤ 9 ∧ (∀ m ∈ ms, m ≤ 100) ∧
  P = PNs (All2 (fun m d => ∃ z : Nat, d = di z ∧ z < m) ms)
def pre_rich : List Ar → PV → Prop := fun as P => ∃ c : Int, as = [.d (.int c)] ∧ P = PZ
def pre_order : List Ar → PV → Prop := fun as P => ∃ (c : Int) (n : Nat), as = [.d (.int c), .d (di n)] ∧ n ≤ 9 ∧ P = PDs fun d => ∃ o : List Nat, d = .tup (dis o) ∧ o.Perm (List.range n)
def pre_things (m : Nat) : List Ar → PV → Prop := fun as P => ∃ t : Tr, as = [.d t.enc] ∧ t.dep ≤ m ∧ t.flat.length ≤ 100 ∧ P = PN (dis t.flat)
def pre_told (m : Nat) : List Ar → PV → Prop := fun as P => ∃ (t : Tr) (o : List Nat), as = [.d t.enc, .d (.tup (dis o))] ∧ t.dep ≤ m ∧ t.dep ≤ 9 ∧ t.Fm ∧ t.flat.Nodup ∧ t.flat.length ≤ 9 ∧ o.Perm t.flat ∧ P = PD (.bl (toldB t o))
def pre_tree : List Ar → PV → Prop := fun as P => ∃ (c : Int) (n : Nat), as = [.d (.int c), .d (di n)] ∧ 1 ≤ n ∧ n ≤ 9 ∧ P = PDs fun d => ∃ t : Tr, d = t.enc ∧ t.Ok n
/-- t' is t with its parts in another allowed sequence -/
structure Shuf (t t' : Tr) : Prop where
  told : ∀ o, Told t' o → Told t o
  dep : t'.dep ≤ t.dep
  len : t'.flat.length = t.flat.length
  kind : isInt t'.enc = isInt t.enc
def pre_shuffled (m : Nat) : List Ar → PV → Prop := fun as P => ∃ (t : Tr) (c : Int), as = [.d t.enc, .d (.int c)] ∧ t.dep ≤ m ∧ t.flat.length ≤ 100 ∧ t.Fm ∧ P = PDs fun d => ∃ t' : Tr, d = t'.enc ∧ Shuf t t' ∧ t'.Fm
def pre_orders : List Ar → PV → Prop := fun as P => ∃ n : Nat, as = [.d (di n)] ∧ n ≤ 5 ∧ P = PNs fun ds => ∃ os : List (List Nat), ds = os.map (fun o => .ntup (dis o)) ∧ os.Nodup ∧ ∀ o, o ∈ os ↔ o.Perm (List.range n)
def pre_drawn_order (m : Nat) : List Ar → PV → Prop := fun as P => ∃ (t : Tr) (c : Int), as = [.d t.enc, .d (.int c)] ∧ t.dep ≤ m ∧ t.flat.length ≤ 100 ∧ t.Fm ∧ P = PDs fun d => ∃ o : List Nat, d = .ntup (dis o) ∧ Told t o
def pre_wishes : List Ar → PV → Prop := fun as P => ∃ (ns : List Int) (n : Nat) (o : List Nat), as = [.s (ns.map D.int), .d (di 4), .d (di n), .d (.tup (dis o))] ∧ 1 ≤ n ∧ n ≤ 9 ∧ o.Perm (List.range n) ∧
  P = PDs fun d => ∃ ws : List (Nat × Nat), d = .tup (ws.map encW) ∧ WsOk n ws ∧ ws.length ≤ 6
def pre_keeps : List Ar → PV → Prop := fun as P => ∃ (o : List Nat) (ws : List (Nat × Nat)) (a : Ar), as = [.d (.ntup (dis o)), a] ∧ (a = .d (.tup (ws.map encW)) ∨ a = .s (ws.map encW)) ∧ o.Nodup ∧ (∀ w ∈ ws, w.1 ≠ w.2 ∧ w.1 ∈ o ∧ w.2 ∈ o) ∧ ws.length ≤ 100 ∧ o.length ≤ 9 ∧ P = PD (.bl (keepW o ws))
def pre_lawring (m : Nat) : List Ar → PV → Prop := fun as P => ∃ (t : Tr) (ws : List (Nat × Nat)) (r : List Nat), as = [.d t.enc, .d (.tup (ws.map encW)), .d (.tup (dis r))] ∧ t.dep ≤ m ∧ t.dep ≤ 9 ∧ t.flat.length ≤ 9 ∧ t.flat.Nodup ∧ t.Fm ∧ r ≠ [] ∧ (∀ x ∈ r, x < ws.length) ∧ ws.length ≤ 6 ∧ r.length ≤ 100 ∧ P = PD (.bl (lawRing ws r t))
def pre_law : List Ar → PV → Prop := fun as P => ∃ ns : List Int, as = [.s (ns.map D.int)] ∧ ns.length ≤ 63 ∧ P = PD (.bl true)
end Wk
/-! ## K3 -/
set_option Elab.async false
set_option linter.all false
set_option autoImplicit false
set_option maxRecDepth 100000
set_option maxHeartbeats 2000000
/-! Rules that the layer lacks: sorted of a tuple, len(set(tuple)), tuple.index of ints, a walk over a list or a tuple; a def as a datum. -/
namespace Wk
open PySem PySem.Spec L2 PyProof.Rows

/-! ### sorted(t), t a tuple of ints -/
def rSortTup (K : PySem.W.Frag) : List V → Hp → VK → Prop := fun vs H Q => ∃ (t : Addr) (ns : List Int), vs = [V.ref t] ∧ SqT K H t (ns.map V.int) ∧
  ∀ (ms : List Int) (c : Addr), ms.Perm ns → ms.Pairwise (· ≤ ·) → H c = none → Q (.ref c) (upd H c (.lst (ms.map V.int)))
theorem cr_sortTup {X : Cx} : CallR X (.builtin "sorted") (rSortTup X.K) := by
  intro pins s σ H vs us Q I r h
  obtain ⟨t, ns, rfl, ht, q⟩ := h
  obtain ⟨its, rv, hl, hz⟩ := I.tuple ht
  rw [Vals.ref1 r]
  have hi := rv.ints
  have hzl : its.length ≤ sizeLine := by rw [← rv.length]; exact hz
  obtain ⟨o, ho, hc, n, hd⟩ := hl
  refine Calls.call_function_entry kind_sorted plain_sorted entry_sorted (args_sorted1 _) ?_
  unfold Builtin.«sorted»
  refine wpAny_bind (m := checkCount "sorted" 1 1 _) (wpAny_pure ?_)
  refine wpAny_bind (wpAny_collect_seq (hsz := by rw [List.size_toArray]; exact hzl) t (.inr rfl) ho hc hd fun h1 hk => ?_)
  refine wpAny_bind (wpAny_newList ?_ hzl)
  have hD : (h1.push (seqObj "list" its.toArray 0)).get? h1.objs.size = some (seqObj "list" its.toArray 0) := Heap.get?_push_size _ rfl
  have hin : ∀ b u, h1.get? b = some u → (h1.push (seqObj "list" its.toArray 0)).get? b = some u := fun b u e => Heap.get?_push_of_some _ e
  have I1 : Inv X pins σ H { s with heap := h1 } := I.kept (t' := s.toks) hk
  have hf : H h1.objs.size = none := I1.hok.fresh (Nat.le_refl _)
  refine wpAny_bind (wpAny_holding (wpAny_call_entry slot_list_sort ⟨_, hD, rfl⟩ entry_list_sort
    (SrtO.list_sort_ord SrtO.swo_int hD hzl (fun h2 => SrtO.ints_sortable hi h2) fun out a1 a2 => ⟨_, rfl, ?_⟩) (args_list_sort _)))
  refine wpAny_pure ⟨_, rfl, .ref h1.objs.size, upd H h1.objs.size (.lst ((out.map SrtO.iv).map V.int)), ?_, rfl, ?_⟩
  · obtain ⟨k1, k2, k3⟩ := SrtO.ints_out hi a1 a2
    obtain ⟨ep, he⟩ := sortedHeap_at (vs := its) (out := out.toArray) hD
    refine I1.laid (t' := s.toks) (fun b u e => ?_) (Nat.le_refl _) ⟨?_, out, ep, vals_of_ints k1, he⟩
    · have hlt := Heap.lt_size (hin b u e)
      rw [sortedHeap_old (Nat.ne_of_lt (Heap.lt_size e)) hlt]
      exact hin b u e
    · rw [List.length_map, k2.length_eq]
      rw [List.length_map] at hz
      exact hz
  · obtain ⟨k1, k2, k3⟩ := SrtO.ints_out hi a1 a2
    exact q _ _ k2 k3 hf

/-! ### t.index(k), t a tuple without a dict of its own -/
def tTIndex (to te : TE) : TE := fun σ H Q => to σ H fun x H1 => ∃ (t : Addr) (o : Obj) (ns : List Int), x = .ref t ∧ H1 t = some (.frz o (.tup (ns.map V.int))) ∧ o.dict = none ∧
  te σ H1 fun y H2 => ∃ k : Int, y = .int k ∧ H2 t = some (.frz o (.tup (ns.map V.int))) ∧ k ∈ ns ∧ Q (.int (ns.idxOf k : Nat)) H2
theorem pe_tindex {X : Cx} {o e : Expr} {to te : TE} {apos cpos : Pos} (ho : PE X o to) (he : PE X e te)
    (hs : starEach [e] X.env = [(false, eval e X.env)] := by rfl) (hbase : attributeBase o "index" X.env (eval o X.env) = eval o X.env := by rfl) (hline : (apos.endLine == cpos.line) = true := by rfl) :
    PE X (.Call (.Attribute o "index" apos) [e] [] cpos) (tTIndex to te) := by
  refine ⟨fun pins s σ H Q I h => ?_⟩
  refine PySem.Call_method1 hbase hs hline (thn (ho.run pins s σ H _ I h) fun v s1 ⟨x, H1, I1, r1, q1⟩ => ?_)
  obtain ⟨t, ob, ns, rfl, ht, hd, q1⟩ := q1
  cases r1
  have ok1 := I1.hok t _ ht
  obtain ⟨g1, _⟩ := ok1
  obtain ⟨its, rv, ⟨o1, e1, c1, n1, d1⟩, hz⟩ := I1.tuple (.inl (.inr ⟨ob, ht⟩))
  refine ⟨"tuple", "tuple.index", PySem.F.plainAttrs_tuple, PySem.F.slot_tuple_index, PySem.F.type_tuple_index, ⟨o1, e1, c1⟩, fun a ea => ?_, Calls.callWith_builtin rfl (Calls.evalArgs_plain (Calls.spliced_cons ?_))⟩
  · cases ea
    exact ⟨ob, g1, hd⟩
  · refine thn (he.run pins s1 σ H1 _ I1 q1) fun u s2 ⟨y, H2, I2, r2, q2⟩ => Calls.spliced_nil ?_
    obtain ⟨k, rfl, ht2, hk, q2⟩ := q2
    obtain ⟨its2, rv2, pl2, _⟩ := I2.tuple (.inl (.inr ⟨ob, ht2⟩))
    obtain ⟨tk, rfl⟩ := r2
    exact PySem.SeqAt.tuple_index_ints pl2 rv2.ints hk ⟨.int (ns.idxOf k : Nat), H2, I2.tok _, ⟨_, rfl⟩, q2⟩

/-! ### tuples whose object is known -/
def tTupS (t : TA) : TE := fun σ H Q => t σ H fun xs H1 => xs.length ≤ sizeLine ∧ ∀ (p : Addr) (o : Obj), H1 p = none → o.dict = none → Q (.ref p) (upd H1 p (.frz o (.tup xs)))
theorem pe_tupS {X : Cx} {es : List Expr} {t : TA} {pos : Pos} {x1} (h : PA X es t) : PE X (.Tuple es x1 pos) (tTupS t) := by
  refine ⟨fun pins s σ H Q I hq => ?_⟩
  refine wpAny_Tuple_spliced (thn (h.run pos pins s σ H _ I hq) fun us s1 ⟨xs, H1, I1, r, z, q⟩ => ⟨by rw [← r.length]; exact z, ?_⟩)
  have fr : H1 s1.heap.objs.size = none := I1.hok.fresh (Nat.le_refl _)
  have e : (s1.heap.push { cls := .type "tuple", data := .seq us.toArray }).get? s1.heap.objs.size = some { cls := .type "tuple", data := .seq us.toArray } := Heap.get?_push_size _ rfl
  exact ⟨.ref s1.heap.objs.size, _, I1.laid (t' := s1.toks) (o := .frz { cls := .type "tuple", data := .seq us.toArray } (.tup xs)) (fun b u w => Heap.get?_push_of_some _ w) (Nat.le_refl _) ⟨e, z, us, r, ⟨_, e, rfl, _, rfl⟩⟩, rfl, q _ _ fr rfl⟩
def rCatS (K : PySem.W.Frag) : R2 := fun x y H Q => ∃ a b xs ys, x = .ref a ∧ y = .ref b ∧ SqT K H a xs ∧ SqT K H b ys ∧ xs.length + ys.length ≤ sizeLine ∧
  (xs = [] → Q (.ref b) H) ∧ (xs ≠ [] → ys = [] → Q (.ref a) H) ∧ (xs ≠ [] → ys ≠ [] → ∀ (p : Addr) (o : Obj), H p = none → o.dict = none → Q (.ref p) (upd H p (.frz o (.tup (xs ++ ys)))))
theorem op_catS {X : Cx} : OpR X (binaryOp .Add) (rCatS X.K) := by
  intro pins s σ H x y v u Q I rx ry h
  obtain ⟨a, b, xs, ys, rfl, rfl, ha, hb, hz, q0, q1, q2⟩ := h
  by_cases hx : xs = []
  · exact op_catA pins s σ H _ _ v u Q I rx ry ⟨a, b, xs, ys, rfl, rfl, ha, hb, hz, q0, fun z => absurd hx z, fun z => absurd hx z⟩
  · cases rx
    cases ry
    obtain ⟨its, r1, p1, _⟩ := I.tuple ha
    obtain ⟨its2, r2, p2, _⟩ := I.tuple hb
    refine HT.cat_tup p1 p2 (fun z => hx (r1.nil_iff.mp z)) (fun z => ⟨.ref a, H, I, rfl, q1 hx (r2.nil_iff.mp z)⟩) (fun z => ?_) (by rw [← r1.length, ← r2.length]; exact hz)
    have e : (s.heap.push { cls := .type "tuple", data := .seq (its ++ its2).toArray }).get? s.heap.objs.size = some { cls := .type "tuple", data := .seq (its ++ its2).toArray } := Heap.get?_push_size _ rfl
    exact ⟨.ref s.heap.objs.size, _, I.laid (t' := s.toks) (o := .frz { cls := .type "tuple", data := .seq (its ++ its2).toArray } (.tup (xs ++ ys))) (fun c ob w => Heap.get?_push_of_some _ w) (Nat.le_refl _)
      ⟨e, by rw [List.length_append]; exact hz, _, r1.append r2, ⟨_, e, rfl, _, rfl⟩⟩, rfl, q2 hx (fun w => z (r2.nil_iff.mpr w)) _ _ (I.hok.fresh (Nat.le_refl _)) rfl⟩
def rSlS (K : PySem.W.Frag) : V → Option Int → Option Int → Hp → VK → Prop := fun x lo hi H Q => ∃ a xs, x = .ref a ∧ SqT K H a xs ∧
  (HT.sIx xs.length 0 lo = 0 ∧ HT.sIx xs.length xs.length hi = xs.length → Q (.ref a) H) ∧ (¬ (HT.sIx xs.length 0 lo = 0 ∧ HT.sIx xs.length xs.length hi = xs.length) → ∀ (p : Addr) (o : Obj), H p = none → o.dict = none → Q (.ref p) (upd H p (.frz o (.tup (cutV xs lo hi)))))
theorem sl_tupS {X : Cx} : SlR X (rSlS X.K) := by
  intro pins s σ H x v vl vu lo hi sl Q I rx hs pl pu h
  obtain ⟨a, xs, rfl, hx, q1, q2⟩ := h
  by_cases hw : HT.sIx xs.length 0 lo = 0 ∧ HT.sIx xs.length xs.length hi = xs.length
  · exact sl_tupA pins s σ H _ v vl vu lo hi sl Q I rx hs pl pu ⟨a, xs, rfl, hx, q1, fun z => absurd hw z⟩
  · cases rx
    obtain ⟨its, r, ht, hz⟩ := I.tuple hx
    have hlen : its.toArray.size = xs.length := by rw [List.size_toArray]; exact r.length.symm
    refine ⟨"tuple", _, PyProof.Rows.slot_tuple_getitem.lookup, ht.typeIs, ?_⟩
    refine HT.getItem_tuple_cut ht hs pl pu (by rw [hlen]; exact hw) ?_ (by rw [hlen]; exact hz)
    rw [hlen]
    have rc := (r.drop (HT.sIx xs.length 0 lo)).take (HT.sIx xs.length xs.length hi - HT.sIx xs.length 0 lo)
    exact ⟨.ref s.heap.objs.size, _, I.laid (t' := s.toks) (o := .frz _ (.tup (cutV xs lo hi))) (fun c ob w => Heap.get?_push_of_some _ w) (Nat.le_refl _)
      ⟨Heap.get?_push_size _ rfl, Nat.le_trans (cutV_length xs lo hi) hz, _, rc, IsTup.new _ _⟩, rfl, q2 hw _ _ (I.hok.fresh (Nat.le_refl _)) rfl⟩

/-! ### len(set(t)), t a tuple of ints that differ -/
def tLenSetT (K : PySem.W.Frag) (ta : TE) : TE := fun σ H Q => ta σ H fun x H1 => ∃ (l : Addr) (ns : List Int), x = .ref l ∧ SqT K H1 l (ns.map V.int) ∧ ns.Nodup ∧ ns.length ≤ 100 ∧ Q (.int (ns.length : Nat)) H1
theorem pe_lenSetT {X : Cx} {a : Expr} {ta : TE} {p p2 q pos : Pos} (hg : Gl X "len") (hm : X.mg "len" = none) (hg2 : Gl X "set") (hm2 : X.mg "set" = none) (ha : PE X a ta) (hc : X.calm = true := by rfl)
    (na : starEach [a] X.env = (false, eval a X.env) :: starEach [] X.env := by rfl) : PE X (.Call (.Name "len" p) [.Call (.Name "set" p2) [a] [] q] [] pos) (tLenSetT X.K ta) := by
  refine ⟨fun pins s σ H Q I h => ?_⟩
  refine Call_ (ld_blt I hg hm boot_len ?_)
  refine PyProof.Rows.callWith_builtin1 (PyProof.Rows.args_cons ?_ rfl) rfl rfl
  refine Call_ (ld_blt I hg2 hm2 boot_set ?_)
  refine PyProof.Rows.callWith_type1 (PyProof.Rows.args_cons (thn (ha.run pins s σ H _ I h) fun v s1 ⟨x, H1, I1, r1, q1⟩ => PyProof.Rows.args_nil ?_) na) na rfl
  obtain ⟨l, ns, rfl, hq, hnd, hl, q1⟩ := q1
  cases r1
  obtain ⟨its, r, pl, hz⟩ := I1.tuple hq
  refine call_set_tupI ns (I1.ok.hd hc) (show s1.heap.IsTuple l its.toArray from pl) r.ints (by unfold scanBound; omega) fun h' tk c R1 hcn k => ?_
  refine PyProof.Rows.args_nil ?_
  obtain ⟨o, es, ep, t, ho, hex, hdt, g, nd, hm3, hb, hf, hn, hr, hl2⟩ := R1
  have I2 : Inv X pins σ H1 { s1 with heap := h', toks := tk } := I1.kept k
  have pm : (es.toList.map keyOf).Perm ns := (List.perm_ext_iff_of_nodup nd hnd).mpr fun j => by rw [← hm3 j, decide_eq_true_eq]
  have hsz : es.size = ns.length := by
    rw [← pm.length_eq, List.length_map, Array.length_toList]
  refine call_len_set ho hex hdt hf (by rw [hsz]; omega) ⟨.int ns.length, H1, I2.tok _, ⟨_, by rw [hsz]⟩, q1⟩

/-! ### a walk over a list or a tuple -/
def iSeq (K : PySem.W.Frag) (tl : TE) : TI := fun σ H R => tl σ H fun x H1 => ∃ a, x = .ref a ∧ (((∃ xs, SqL K H1 a xs) ∧ R (Itl K a) H1) ∨ ((∃ xs, SqT K H1 a xs) ∧ R (Itt K a) H1))
theorem pi_seq {X : Cx} {tg l : Expr} {tl : TE} (hl : PE X l tl) : PI X tg l (iSeq X.K tl) := by
  refine ⟨fun pins s σ H R I h => ?_⟩
  refine thn (hl.run pins s σ H _ I h) fun v s1 ⟨x, H1, I1, r1, q1⟩ => ?_
  obtain ⟨a, rfl, q | q⟩ := q1
  · cases r1
    obtain ⟨⟨xs, hq⟩, q⟩ := q
    obtain ⟨its, rv, p, hz⟩ := I1.list hq
    refine wpAny_pyIter_list p.isList ?_
    refine ⟨s1.heap.objs.size, [s1.heap.objs.size], _, _, H1, rfl, I1.kept (t' := s1.toks) fun b o w => Heap.get?_push_of_some _ w, turn_list a _, ⟨_, Heap.get?_push_size _ rfl, rfl, rfl⟩, fun b hb => ?_, q⟩
    have e : b = s1.heap.objs.size := by simpa using hb
    subst e
    exact I1.fpOk (Nat.le_refl _) (I1.hok.fresh (Nat.le_refl _))
  · cases r1
    obtain ⟨⟨xs, hq⟩, q⟩ := q
    obtain ⟨its, rv, p, hz⟩ := I1.tuple hq
    refine wpAny_pyIter_tuple (show s1.heap.IsTuple a its.toArray from p) ?_
    refine ⟨s1.heap.objs.size, [s1.heap.objs.size], _, _, H1, rfl, I1.kept (t' := s1.toks) fun b o w => Heap.get?_push_of_some _ w, turn_tuple a _, ⟨_, Heap.get?_push_size _ rfl, rfl, rfl⟩, fun b hb => ?_, q⟩
    have e : b = s1.heap.objs.size := by simpa using hb
    subst e
    exact I1.fpOk (Nat.le_refl _) (I1.hok.fresh (Nat.le_refl _))

/-! ### a def as a datum -/
structure Cal (P : Program) (w : World) (K : PySem.W.Frag) (mg : Str → Option Value) (base : Heap) (k : Nat) (x : Str) (ps : List Str) (pre : List Ar → PV → Prop) : Prop where
  ex : ∃ (f : Addr) (fd : FuncData), FnOk P w K mg base CX0 k f fd ps (spec K pre) ∧ mg x = some (.ref f) ∧ PySem.W.keepIn K (.ref f) = true ∧ Binds K fd ps []
theorem Cal.mono {P : Program} {w : World} {K : PySem.W.Frag} {mg : Str → Option Value} {base : Heap} {j k : Nat} {x : Str} {ps : List Str} {pre : List Ar → PV → Prop} (c : Cal P w K mg base j x ps pre) (h : j ≤ k) : Cal P w K mg base k x ps pre := by
  obtain ⟨f, fd, h1, h2⟩ := c.ex
  exact ⟨f, fd, h1.mono h, h2⟩
theorem pe_cal {X : Cx} {k : Nat} {x : Str} {ps : List Str} {pre : List Ar → PV → Prop} {e : Expr} {es : List Expr} {t : TA} {p pos : Pos} (c : Cal X.prog X.w X.K X.mg X.base k x ps pre) (hr : Room k X.A) (hg : Gl X x) (ha : PA X (e :: es) t)
    (hdb : (x == ("__debug__" : Str)) = false := by decide)
    (he : starEach (e :: es) X.env = (false, eval e X.env) :: starEach es X.env := by rfl) (hpl : (backTo pos (starEach es X.env)).any (·.1) = false := by rfl) :
    PE X (.Call (.Name x p) (e :: es) [] pos) (tCall (spec X.K pre) [] E0 t) := by
  obtain ⟨f, fd, h1, h2, h3, h4⟩ := c.ex
  exact pe_call h1 hr hg h2 h3 h4 .nil pass0 ha hdb he hpl
end Wk
/-! ## K4 -/
set_option Elab.async false
set_option linter.all false
set_option autoImplicit false
set_option maxRecDepth 100000
set_option maxHeartbeats 2000000
/-! The text by places, short names of operations, what the top leaves. -/
namespace Wk
open PySem PySem.Spec L2
def topS (i : Nat) : Stmt := PySem.Challenge.pw_unpartedrows_k23_whole_wishes.main.body.getD i (.Pass ⟨0, 0, 0, 0⟩)
abbrev qAdd : R2 := rI0 fun i j => .int (i + j)
abbrev qSub : R2 := rI0 fun i j => .int (i - j)
abbrev qMul : R2 := rI CMul fun i j => .int (i * j)
abbrev qFdiv : R2 := rI CDivN fun i j => .int (i.fdiv j)
abbrev qMod : R2 := rI (fun _ j => j ≠ 0) fun i j => .int (i.fmod j)
abbrev qPow : R2 := rI CPow fun i j => .int (i ^ j.toNat)
abbrev qLt : R2 := rI0 fun i j => .bl (decide (i < j))
abbrev qLe : R2 := rI0 fun i j => .bl (decide (i ≤ j))
abbrev qGt : R2 := rI0 fun i j => .bl (decide (j < i))
abbrev qGe : R2 := rI0 fun i j => .bl (decide (j ≤ i))
abbrev qNeg : V → Hp → VK → Prop := rU fun i => .int (-i)
abbrev qIsN : R2 := fun x y H Q => y = .non ∧ Q (.bl (decide (x = .non))) H
abbrev qNotN : R2 := fun x y H Q => y = .non ∧ Q (.bl (!decide (x = .non))) H
abbrev qLen (K : PySem.W.Frag) : List V → Hp → VK → Prop := fun xs H Q => ∃ p ys, xs = [.ref p] ∧ (SqL K H p ys ∨ SqT K H p ys) ∧ Q (.int ys.length) H
abbrev qList (K : PySem.W.Frag) : List V → Hp → VK → Prop := fun xs H Q => ∃ p ys, xs = [.ref p] ∧ (SqL K H p ys ∨ SqT K H p ys) ∧ ∀ l, H l = none → Q (.ref l) (upd H l (.lst ys))
abbrev qTuple (K : PySem.W.Frag) : List V → Hp → VK → Prop := fun xs H Q => ∃ p ys, xs = [.ref p] ∧ ((SqL K H p ys ∧ ∀ l, H l = none → Q (.ref l) (upd H l (.tup ys))) ∨ (SqT K H p ys ∧ Q (.ref p) H))
abbrev qInt : List V → Hp → VK → Prop := fun xs H Q => (∃ i, xs = [.int i] ∧ Q (.int i) H) ∨ ∃ k, xs = [.bl k] ∧ Q (.int (if k then 1 else 0)) H
abbrev qMax2 : List V → Hp → VK → Prop := fun xs H Q => ∃ i j, xs = [.int i, .int j] ∧ Q (.int (if j > i then j else i)) H
abbrev qMin2 : List V → Hp → VK → Prop := fun xs H Q => ∃ i j, xs = [.int i, .int j] ∧ Q (.int (if j < i then j else i)) H
abbrev qInsert : V → List V → Hp → VK → Prop := fun x vs H Q => ∃ (l : Addr) (xs : List V) (i : Int) (y : V), x = .ref l ∧ vs = [.int i, y] ∧ H l = some (.lst xs) ∧ xs.length < sizeLine ∧ 0 ≤ i ∧ i < 2 ^ 63 ∧
    Q .non (upd H l (.lst (xs.take i.toNat ++ [y] ++ xs.drop i.toNat)))
theorem hu64 {Aa : Around} {k : Nat} (hr : Room k Aa) : Aa.units + 64 < cLine := by have := hr.un; omega
/-- what the top leaves: the built-ins are there, the constants stand -/
structure Tp (K : PySem.W.Frag) (mg : Str → Option Value) where
  b_isinstance : mg "isinstance" = none
  b_len : mg "len" = none
  b_min : mg "min" = none
  b_max : mg "max" = none
  b_sorted : mg "sorted" = none
  b_list : mg "list" = none
  b_range : mg "range" = none
  b_all : mg "all" = none
  b_any : mg "any" = none
  b_set : mg "set" = none
  b_sum : mg "sum" = none
  b_tuple : mg "tuple" = none
  b_int : mg "int" = none
  b_str : mg "str" = none
  g_MOST_THINGS : ∃ t, mg "MOST_THINGS" = some (.int 24 t)
  g_MOST_PARTS : ∃ t, mg "MOST_PARTS" = some (.int 8 t)
  aW : Addr
  g_WORDS : mg "WORDS" = some (.ref aW)
  sW : ∀ H, SqT K H aW [.str "any", .str "row"]
end Wk
/-! ## D0 -/
set_option Elab.async false
set_option linter.all false
set_option autoImplicit false
set_option maxRecDepth 100000
set_option maxHeartbeats 4000000
namespace Wk
open PySem PySem.Spec L2

/-! ### is_size: 0 n -/
abbrev s_is_size : Stmt := topS 6
abbrev N_is_size : List Str := ["n"]
theorem sc_is_size : FnScope N_is_size ["n"] (defScope s_is_size) := ⟨rfl, rfl, rfl, by decide +kernel, rfl, by decide +kernel, by decide +kernel⟩
def t_is_size (K : PySem.W.Frag) : TS :=
    (tRet (tChain qLe qLe (tC (.int 1)) (tVar 0) (tC (.int 24))))
theorem d_is_size {P : Program} {w : World} {K : PySem.W.Frag} {mg : Str → Option Value} {base : Heap} {k : Nat} (T : Tp K mg) {f : Addr} {cdv : Value} {Aa : Around} {outer : List Env} {s : Shared} {H0 : Hp} {E : XK}
    (hr : Room k (Aa.deeper (PyProof.Rows.envOfC "is_size" (defScope s_is_size) s.heap.objs.size f cdv))) :
    PSs (cxOf CX0 P w K mg base N_is_size "is_size" (defScope s_is_size) f cdv Aa outer s H0 E).nox (defBody s_is_size) (t_is_size K) := by
  have S := sc_is_size
  exact (pss_one (ps_ret (pe_chain op_le op_le pe_int (pv 0) (pe_glob (v := .int 24) (by rfl) T.g_MOST_THINGS.choose_spec ⟨_, rfl⟩))))
/-! ### is_thing: 0 tree -/
abbrev s_is_thing : Stmt := topS 9
abbrev N_is_thing : List Str := ["tree"]
theorem sc_is_thing : FnScope N_is_thing ["tree"] (defScope s_is_thing) := ⟨rfl, rfl, rfl, by decide +kernel, rfl, by decide +kernel, by decide +kernel⟩
def t_is_thing (K : PySem.W.Frag) : TS :=
    (tRet (tCB (rIsi K) (tCons (tVar 0) (tCons (tC (.ty "int")) tNil))))
theorem d_is_thing {P : Program} {w : World} {K : PySem.W.Frag} {mg : Str → Option Value} {base : Heap} {k : Nat} (T : Tp K mg) {f : Addr} {cdv : Value} {Aa : Around} {outer : List Env} {s : Shared} {H0 : Hp} {E : XK}
    (hr : Room k (Aa.deeper (PyProof.Rows.envOfC "is_thing" (defScope s_is_thing) s.heap.objs.size f cdv))) :
    PSs (cxOf CX0 P w K mg base N_is_thing "is_thing" (defScope s_is_thing) f cdv Aa outer s H0 E).nox (defBody s_is_thing) (t_is_thing K) := by
  have S := sc_is_thing
  exact (pss_one (ps_ret (pe_callB call_isi (by rfl) T.b_isinstance (by decide +kernel) (pa_cons (pv 0) (pa_cons (pe_bltn (v := .ty "int") (by rfl) T.b_int PyProof.Rows.boot_int rfl) pa_nil)))))
/-! ### listed: 0 tree, 1 found, 2 part -/
abbrev s_listed : Stmt := topS 10
abbrev N_listed : List Str := ["tree", "found", "part"]
theorem sc_listed : FnScope N_listed ["tree"] (defScope s_listed) := ⟨rfl, rfl, rfl, by decide +kernel, rfl, by decide +kernel, by decide +kernel⟩
def t_listed (K : PySem.W.Frag) (m_listed : Nat) : TS :=
    (tSeq (tIfS (tB (tCall (spec K pre_is_thing) [] E0 (tCons (tVar 0) tNil))) (tRet (tLst (tCons (tVar 0) tNil))) tNext)
    (tSeq (tAsg (tLst tNil) (gName 1))
    (tSeq (tFor (iTup K (tOp (rIxT K) (tVar 0) (tC (.int 1)))) (gName 2) (tDrop (tBM K "list" rExtend (tVar 1) (tCons (tCall (spec K (pre_listed m_listed)) [] E0 (tCons (tVar 2) tNil)) tNil))))
    (tRet (tVar 1)))))
theorem d_listed {P : Program} {w : World} {K : PySem.W.Frag} {mg : Str → Option Value} {base : Heap} {k : Nat} {m_listed : Nat} (T : Tp K mg) (C_listed : Cal P w K mg base k "listed" ["tree"] (pre_listed m_listed)) (C_is_thing : Cal P w K mg base k "is_thing" ["tree"] pre_is_thing) {f : Addr} {cdv : Value} {Aa : Around} {outer : List Env} {s : Shared} {H0 : Hp} {E : XK}
    (hr : Room k (Aa.deeper (PyProof.Rows.envOfC "listed" (defScope s_listed) s.heap.objs.size f cdv))) :
    PSs (cxOf CX0 P w K mg base N_listed "listed" (defScope s_listed) f cdv Aa outer s H0 E).nox (defBody s_listed) (t_listed K m_listed) := by
  have S := sc_listed
  exact (pss_cons (ps_if (pt_val (pe_cal C_is_thing hr (by rfl) (pa_cons (pv 0) pa_nil))) (pss_one (ps_ret (pe_lst (pa_cons (pv 0) pa_nil)))) pss_nil)
    (pss_cons (ps_set (i := 1) S.nd rfl (by first | exact Or.inl rfl | exact Or.inr rfl) (pe_lst pa_nil))
    (pss_cons (ps_for PassesOwn.never rfl (pi_tup (pe_ix ix_tup (pv 0) pe_int (fun _ _ => rfl))) (pg_name (i := 2) S.nd rfl (by first | exact Or.inl rfl | exact Or.inr rfl)) (pss_one (ps_expr (pe_bm PySem.F.plainAttrs_list PySem.F.slot_list_extend PySem.F.type_list_extend mt_extend (pv 1) (pa_cons (pe_cal C_listed hr (by rfl) (pa_cons (pv 2) pa_nil)) pa_nil)))))
    (pss_one (ps_ret (pv 1))))))
/-! ### has_form: 0 tree, 1 part -/
abbrev s_has_form : Stmt := topS 11
abbrev N_has_form : List Str := ["tree", "part"]
theorem sc_has_form : FnScope N_has_form ["tree"] (defScope s_has_form) := ⟨rfl, rfl, rfl, by decide +kernel, rfl, by decide +kernel, by decide +kernel⟩
def t_has_form (K : PySem.W.Frag) (aW : Addr) (m_has_form : Nat) : TS :=
    (tSeq (tIfS (tB (tCall (spec K pre_is_thing) [] E0 (tCons (tVar 0) tNil))) (tRet (tC (.bl true))) tNext)
    (tSeq (tIfS (tOr (tTest (tOp rNe (tCB (qLen K) (tCons (tVar 0) tNil)) (tC (.int 2)))) (tOr (tTest (tOp (rIn K true) (tOp (rIxT K) (tVar 0) (tC (.int 0))) (tC (.ref aW)))) (tOr (tB (tCall (spec K pre_is_thing) [] E0 (tCons (tOp (rIxT K) (tVar 0) (tC (.int 1))) tNil))) (tB (tCB (rIsi K) (tCons (tOp (rIxT K) (tVar 0) (tC (.int 1))) (tCons (tC (.ty "str")) tNil))))))) (tRet (tC (.bl false))) tNext)
    (tSeq (tIfS (tOr (tTest (tOp qLt (tCB (qLen K) (tCons (tOp (rIxT K) (tVar 0) (tC (.int 1))) tNil)) (tC (.int 2)))) (tAnd (tTest (tOp rEq (tOp (rIxT K) (tVar 0) (tC (.int 0))) (tC (.str "row")))) (tTest (tOp qLt (tCB (qLen K) (tCons (tOp (rIxT K) (tVar 0) (tC (.int 1))) tNil)) (tC (.int 3)))))) (tRet (tC (.bl false))) tNext)
    (tRet (tCB (rAll K) (tCons (tLc (iTup K (tOp (rIxT K) (tVar 0) (tC (.int 1)))) (gName 1) tYes (tCall (spec K (pre_has_form m_has_form)) [] E0 (tCons (tVar 1) tNil)) [1]) tNil))))))
theorem d_has_form {P : Program} {w : World} {K : PySem.W.Frag} {mg : Str → Option Value} {base : Heap} {k : Nat} {m_has_form : Nat} (T : Tp K mg) (C_has_form : Cal P w K mg base k "has_form" ["tree"] (pre_has_form m_has_form)) (C_is_thing : Cal P w K mg base k "is_thing" ["tree"] pre_is_thing) {f : Addr} {cdv : Value} {Aa : Around} {outer : List Env} {s : Shared} {H0 : Hp} {E : XK}
    (hr : Room k (Aa.deeper (PyProof.Rows.envOfC "has_form" (defScope s_has_form) s.heap.objs.size f cdv))) :
    PSs (cxOf CX0 P w K mg base N_has_form "has_form" (defScope s_has_form) f cdv Aa outer s H0 E).nox (defBody s_has_form) (t_has_form K T.aW m_has_form) := by
  have S := sc_has_form
  exact (pss_cons (ps_if (pt_val (pe_cal C_is_thing hr (by rfl) (pa_cons (pv 0) pa_nil))) (pss_one (ps_ret pe_bl)) pss_nil)
    (pss_cons (ps_if (PW.pt (pw_or (pt_cmpR op_ne (pe_callB call_len_seq (by rfl) T.b_len (by decide +kernel) (pa_cons (pv 0) pa_nil)) pe_int (nomark _)) (pw_or (pt_cmpR op_notIn_seq (pe_ix ix_tup (pv 0) pe_int (fun _ _ => rfl)) (pe_glob (v := .ref T.aW) (by rfl) T.g_WORDS rfl) (by rfl)) (pw_or (pt_val (pe_cal C_is_thing hr (by rfl) (pa_cons (pe_ix ix_tup (pv 0) pe_int (fun _ _ => rfl)) pa_nil))) (pw_or1 (pt_val (pe_callB call_isi (by rfl) T.b_isinstance (by decide +kernel) (pa_cons (pe_ix ix_tup (pv 0) pe_int (fun _ _ => rfl)) (pa_cons (pe_bltn (v := .ty "str") (by rfl) T.b_str PyProof.Rows.boot_str rfl) pa_nil))))))))) (pss_one (ps_ret pe_bl)) pss_nil)
    (pss_cons (ps_if (PW.pt (pw_or (pt_cmpR op_lt (pe_callB call_len_seq (by rfl) T.b_len (by decide +kernel) (pa_cons (pe_ix ix_tup (pv 0) pe_int (fun _ _ => rfl)) pa_nil)) pe_int (nomark _)) (pw_or1 (PW.pt (pw_and (pt_cmpR op_eq (pe_ix ix_tup (pv 0) pe_int (fun _ _ => rfl)) pe_str (nomark _)) (pw_and1 (pt_cmpR op_lt (pe_callB call_len_seq (by rfl) T.b_len (by decide +kernel) (pa_cons (pe_ix ix_tup (pv 0) pe_int (fun _ _ => rfl)) pa_nil)) pe_int (nomark _)))))))) (pss_one (ps_ret pe_bl)) pss_nil)
    (pss_one (ps_ret (pe_callB (cr_all rfl) (by rfl) T.b_all (by decide +kernel) (pa_cons (pe_lc (own := [("part", 1)]) (g := (gName 1)) (tt := tYes) (te := (tCall (spec K (pre_has_form m_has_form)) [] E0 (tCons (tVar 1) tNil))) (by rfl) S.nd (pi_tup (pe_ix ix_tup (pv 0) pe_int (fun _ _ => rfl))) (blkOk_by (N := N_has_form) (sc := defScope s_has_form) (by decide +kernel)) (fun _ _ _ _ _ => (pg_name (i := 1) S.nd rfl (by first | exact Or.inl rfl | exact Or.inr rfl))) (fun _ _ _ _ _ => pts_nil) (fun _ _ _ _ _ => (pe_cal C_has_form hr (by rfl) (pa_cons (pv 1) pa_nil)))) pa_nil)))))))
/-! ### check_tree: 0 n, 1 tree -/
abbrev s_check_tree : Stmt := topS 12
abbrev N_check_tree : List Str := ["n", "tree"]
theorem sc_check_tree : FnScope N_check_tree ["n", "tree"] (defScope s_check_tree) := ⟨rfl, rfl, rfl, by decide +kernel, rfl, by decide +kernel, by decide +kernel⟩
def t_check_tree (K : PySem.W.Frag) (m_has_form : Nat) (m_listed : Nat) : TS :=
    (tSeq (tIfS (tOr (tNot (tB (tCall (spec K pre_is_size) [] E0 (tCons (tVar 0) tNil)))) (tOr (tNot (tB (tCall (spec K (pre_has_form m_has_form)) [] E0 (tCons (tVar 1) tNil)))) (tTest (tOp (rNeD K) (tCB (rSortedI K) (tCons (tCall (spec K (pre_listed m_listed)) [] E0 (tCons (tVar 1) tNil)) tNil)) (tLstRg (tRg1 (tVar 0))))))) tNever tNext)
    (tRet (tVar 1)))
theorem d_check_tree {P : Program} {w : World} {K : PySem.W.Frag} {mg : Str → Option Value} {base : Heap} {k : Nat} {m_has_form : Nat} {m_listed : Nat} (T : Tp K mg) (C_is_size : Cal P w K mg base k "is_size" ["n"] pre_is_size) (C_has_form : Cal P w K mg base k "has_form" ["tree"] (pre_has_form m_has_form)) (C_listed : Cal P w K mg base k "listed" ["tree"] (pre_listed m_listed)) {f : Addr} {cdv : Value} {Aa : Around} {outer : List Env} {s : Shared} {H0 : Hp} {E : XK}
    (hr : Room k (Aa.deeper (PyProof.Rows.envOfC "check_tree" (defScope s_check_tree) s.heap.objs.size f cdv))) :
    PSs (cxOf CX0 P w K mg base N_check_tree "check_tree" (defScope s_check_tree) f cdv Aa outer s H0 E).nox (defBody s_check_tree) (t_check_tree K m_has_form m_listed) := by
  have S := sc_check_tree
  exact (pss_cons (ps_if (PW.pt (pw_or (pt_not (pt_val (pe_cal C_is_size hr (by rfl) (pa_cons (pv 0) pa_nil)))) (pw_or (pt_not (pt_val (pe_cal C_has_form hr (by rfl) (pa_cons (pv 1) pa_nil)))) (pw_or1 (pt_cmpR (op_neD (hu64 hr)) (pe_callB cr_sortedI (by rfl) T.b_sorted (by decide +kernel) (pa_cons (pe_cal C_listed hr (by rfl) (pa_cons (pv 1) pa_nil)) pa_nil)) (pe_listRg rfl (by rfl) T.b_list (prg_1 (by rfl) T.b_range (pv 0))) (nomark _)))))) (pss_one ps_never) pss_nil)
    (pss_one (ps_ret (pv 1))))
/-! ### need_tree: 0 tree -/
abbrev s_need_tree : Stmt := topS 13
abbrev N_need_tree : List Str := ["tree"]
theorem sc_need_tree : FnScope N_need_tree ["tree"] (defScope s_need_tree) := ⟨rfl, rfl, rfl, by decide +kernel, rfl, by decide +kernel, by decide +kernel⟩
def t_need_tree (K : PySem.W.Frag) (m_listed : Nat) (m_has_form : Nat) : TS :=
    (tSeq (tIfS (tNot (tB (tCall (spec K (pre_has_form m_has_form)) [] E0 (tCons (tVar 0) tNil)))) tNever tNext)
    (tDrop (tCall (spec K pre_check_tree) [] E0 (tCons (tCB (qLen K) (tCons (tCall (spec K (pre_listed m_listed)) [] E0 (tCons (tVar 0) tNil)) tNil)) (tCons (tVar 0) tNil)))))
theorem d_need_tree {P : Program} {w : World} {K : PySem.W.Frag} {mg : Str → Option Value} {base : Heap} {k : Nat} {m_listed : Nat} {m_has_form : Nat} (T : Tp K mg) (C_listed : Cal P w K mg base k "listed" ["tree"] (pre_listed m_listed)) (C_check_tree : Cal P w K mg base k "check_tree" ["n", "tree"] pre_check_tree) (C_has_form : Cal P w K mg base k "has_form" ["tree"] (pre_has_form m_has_form)) {f : Addr} {cdv : Value} {Aa : Around} {outer : List Env} {s : Shared} {H0 : Hp} {E : XK}
    (hr : Room k (Aa.deeper (PyProof.Rows.envOfC "need_tree" (defScope s_need_tree) s.heap.objs.size f cdv))) :
    PSs (cxOf CX0 P w K mg base N_need_tree "need_tree" (defScope s_need_tree) f cdv Aa outer s H0 E).nox (defBody s_need_tree) (t_need_tree K m_listed m_has_form) := by
  have S := sc_need_tree
  exact (pss_cons (ps_if (pt_not (pt_val (pe_cal C_has_form hr (by rfl) (pa_cons (pv 0) pa_nil)))) (pss_one ps_never) pss_nil)
    (pss_one (ps_expr (pe_cal C_check_tree hr (by rfl) (pa_cons (pe_callB call_len_seq (by rfl) T.b_len (by decide +kernel) (pa_cons (pe_cal C_listed hr (by rfl) (pa_cons (pv 0) pa_nil)) pa_nil)) (pa_cons (pv 0) pa_nil))))))
/-! ### need_few_parts: 0 tree, 1 part -/
abbrev s_need_few_parts : Stmt := topS 16
abbrev N_need_few_parts : List Str := ["tree", "part"]
theorem sc_need_few_parts : FnScope N_need_few_parts ["tree"] (defScope s_need_few_parts) := ⟨rfl, rfl, rfl, by decide +kernel, rfl, by decide +kernel, by decide +kernel⟩
def t_need_few_parts (K : PySem.W.Frag) (m_need_few_parts : Nat) : TS :=
    (tSeq (tIfS (tB (tCall (spec K pre_is_thing) [] E0 (tCons (tVar 0) tNil))) tRetN tNext)
    (tSeq (tIfS (tAnd (tTest (tOp rEq (tOp (rIxT K) (tVar 0) (tC (.int 0))) (tC (.str "any")))) (tTest (tOp qGt (tCB (qLen K) (tCons (tOp (rIxT K) (tVar 0) (tC (.int 1))) tNil)) (tC (.int 8))))) tNever tNext)
    (tFor (iTup K (tOp (rIxT K) (tVar 0) (tC (.int 1)))) (gName 1) (tDrop (tCall (spec K (pre_need_few_parts m_need_few_parts)) [] E0 (tCons (tVar 1) tNil))))))
theorem d_need_few_parts {P : Program} {w : World} {K : PySem.W.Frag} {mg : Str → Option Value} {base : Heap} {k : Nat} {m_need_few_parts : Nat} (T : Tp K mg) (C_need_few_parts : Cal P w K mg base k "need_few_parts" ["tree"] (pre_need_few_parts m_need_few_parts)) (C_is_thing : Cal P w K mg base k "is_thing" ["tree"] pre_is_thing) {f : Addr} {cdv : Value} {Aa : Around} {outer : List Env} {s : Shared} {H0 : Hp} {E : XK}
    (hr : Room k (Aa.deeper (PyProof.Rows.envOfC "need_few_parts" (defScope s_need_few_parts) s.heap.objs.size f cdv))) :
    PSs (cxOf CX0 P w K mg base N_need_few_parts "need_few_parts" (defScope s_need_few_parts) f cdv Aa outer s H0 E).nox (defBody s_need_few_parts) (t_need_few_parts K m_need_few_parts) := by
  have S := sc_need_few_parts
  exact (pss_cons (ps_if (pt_val (pe_cal C_is_thing hr (by rfl) (pa_cons (pv 0) pa_nil))) (pss_one ps_retN) pss_nil)
    (pss_cons (ps_if (PW.pt (pw_and (pt_cmpR op_eq (pe_ix ix_tup (pv 0) pe_int (fun _ _ => rfl)) pe_str (nomark _)) (pw_and1 (pt_cmpR op_gt (pe_callB call_len_seq (by rfl) T.b_len (by decide +kernel) (pa_cons (pe_ix ix_tup (pv 0) pe_int (fun _ _ => rfl)) pa_nil)) (pe_glob (v := .int 8) (by rfl) T.g_MOST_PARTS.choose_spec ⟨_, rfl⟩) (nomark _))))) (pss_one ps_never) pss_nil)
    (pss_one (ps_for PassesOwn.never rfl (pi_tup (pe_ix ix_tup (pv 0) pe_int (fun _ _ => rfl))) (pg_name (i := 1) S.nd rfl (by first | exact Or.inl rfl | exact Or.inr rfl)) (pss_one (ps_expr (pe_cal C_need_few_parts hr (by rfl) (pa_cons (pv 1) pa_nil))))))))
/-! ### check_different: 0 tree, 1 things, 2 n, 3 thing -/
abbrev s_check_different : Stmt := topS 18
abbrev N_check_different : List Str := ["tree", "things", "n", "thing"]
theorem sc_check_different : FnScope N_check_different ["tree", "things"] (defScope s_check_different) := ⟨rfl, rfl, rfl, by decide +kernel, rfl, by decide +kernel, by decide +kernel⟩
def t_check_different (K : PySem.W.Frag) (m_listed : Nat) : TS :=
    (tSeq (tDrop (tCall (spec K pre_need_tree) [] E0 (tCons (tVar 0) tNil)))
    (tSeq (tAsg (tCB (qLen K) (tCons (tCall (spec K (pre_listed m_listed)) [] E0 (tCons (tVar 0) tNil)) tNil)) (gName 2))
    (tIfS (tOr (tTest (tOp qLt (tLenSetT K (tVar 1)) (tCB (qLen K) (tCons (tVar 1) tNil)))) (tNot (tB (tCB (rAll K) (tCons (tLc (iTup K (tVar 1)) (gName 3) tYes (tChain qLe qLt (tC (.int 0)) (tVar 3) (tVar 2)) [3]) tNil))))) tNever tNext)))
theorem d_check_different {P : Program} {w : World} {K : PySem.W.Frag} {mg : Str → Option Value} {base : Heap} {k : Nat} {m_listed : Nat} (T : Tp K mg) (C_listed : Cal P w K mg base k "listed" ["tree"] (pre_listed m_listed)) (C_need_tree : Cal P w K mg base k "need_tree" ["tree"] pre_need_tree) {f : Addr} {cdv : Value} {Aa : Around} {outer : List Env} {s : Shared} {H0 : Hp} {E : XK}
    (hr : Room k (Aa.deeper (PyProof.Rows.envOfC "check_different" (defScope s_check_different) s.heap.objs.size f cdv))) :
    PSs (cxOf CX0 P w K mg base N_check_different "check_different" (defScope s_check_different) f cdv Aa outer s H0 E).nox (defBody s_check_different) (t_check_different K m_listed) := by
  have S := sc_check_different
  exact (pss_cons (ps_expr (pe_cal C_need_tree hr (by rfl) (pa_cons (pv 0) pa_nil)))
    (pss_cons (ps_set (i := 2) S.nd rfl (by first | exact Or.inl rfl | exact Or.inr rfl) (pe_callB call_len_seq (by rfl) T.b_len (by decide +kernel) (pa_cons (pe_cal C_listed hr (by rfl) (pa_cons (pv 0) pa_nil)) pa_nil)))
    (pss_one (ps_if (PW.pt (pw_or (pt_cmpR op_lt (pe_lenSetT (by rfl) T.b_len (by rfl) T.b_set (pv 1)) (pe_callB call_len_seq (by rfl) T.b_len (by decide +kernel) (pa_cons (pv 1) pa_nil)) (nomark _)) (pw_or1 (pt_not (pt_val (pe_callB (cr_all rfl) (by rfl) T.b_all (by decide +kernel) (pa_cons (pe_lc (own := [("thing", 3)]) (g := (gName 3)) (tt := tYes) (te := (tChain qLe qLt (tC (.int 0)) (tVar 3) (tVar 2))) (by rfl) S.nd (pi_tup (pv 1)) (blkOk_by (N := N_check_different) (sc := defScope s_check_different) (by decide +kernel)) (fun _ _ _ _ _ => (pg_name (i := 3) S.nd rfl (by first | exact Or.inl rfl | exact Or.inr rfl))) (fun _ _ _ _ _ => pts_nil) (fun _ _ _ _ _ => (pe_chain op_le op_lt pe_int (pv 3) (pv 2)))) pa_nil))))))) (pss_one ps_never) pss_nil))))
/-! ### index_with: 0 parts, 1 thing, 2 index -/
abbrev s_index_with : Stmt := topS 19
abbrev N_index_with : List Str := ["parts", "thing", "index"]
theorem sc_index_with : FnScope N_index_with ["parts", "thing"] (defScope s_index_with) := ⟨rfl, rfl, rfl, by decide +kernel, rfl, by decide +kernel, by decide +kernel⟩
def t_index_with (K : PySem.W.Frag) (m_listed : Nat) : TS :=
    (tRet (tCB (rMin K) (tCons (tLc (iRng1 (tCons (tCB (qLen K) (tCons (tVar 0) tNil)) tNil)) (gName 2) (tTest (tOp (rIn K false) (tVar 1) (tCall (spec K (pre_listed m_listed)) [] E0 (tCons (tOp (rIxT K) (tVar 0) (tVar 2)) tNil)))) (tVar 2) [2]) tNil)))
theorem d_index_with {P : Program} {w : World} {K : PySem.W.Frag} {mg : Str → Option Value} {base : Heap} {k : Nat} {m_listed : Nat} (T : Tp K mg) (C_listed : Cal P w K mg base k "listed" ["tree"] (pre_listed m_listed)) {f : Addr} {cdv : Value} {Aa : Around} {outer : List Env} {s : Shared} {H0 : Hp} {E : XK}
    (hr : Room k (Aa.deeper (PyProof.Rows.envOfC "index_with" (defScope s_index_with) s.heap.objs.size f cdv))) :
    PSs (cxOf CX0 P w K mg base N_index_with "index_with" (defScope s_index_with) f cdv Aa outer s H0 E).nox (defBody s_index_with) (t_index_with K m_listed) := by
  have S := sc_index_with
  exact (pss_one (ps_ret (pe_callB (cr_min rfl) (by rfl) T.b_min (by decide +kernel) (pa_cons (pe_lc (own := [("index", 2)]) (g := (gName 2)) (tt := (tTest (tOp (rIn K false) (tVar 1) (tCall (spec K (pre_listed m_listed)) [] E0 (tCons (tOp (rIxT K) (tVar 0) (tVar 2)) tNil))))) (te := (tVar 2)) (by rfl) S.nd (pi_range1 (by rfl) T.b_range (pa_cons (pe_callB call_len_seq (by rfl) T.b_len (by decide +kernel) (pa_cons (pv 0) pa_nil)) pa_nil)) (blkOk_by (N := N_index_with) (sc := defScope s_index_with) (by decide +kernel)) (fun _ _ _ _ _ => (pg_name (i := 2) S.nd rfl (by first | exact Or.inl rfl | exact Or.inr rfl))) (fun _ _ _ _ _ => (pts_one (pt_cmpR op_in_seq (pv 1) (pe_cal C_listed hr (by rfl) (pa_cons (pe_ix ix_tup (pv 0) (pv 2) (fun _ _ => rfl)) pa_nil)) (by rfl)))) (fun _ _ _ _ _ => (pv 2))) pa_nil))))
/-! ### check_wishes: 0 tree, 1 wishes, 2 wish -/
abbrev s_check_wishes : Stmt := topS 21
abbrev N_check_wishes : List Str := ["tree", "wishes", "wish"]
theorem sc_check_wishes : FnScope N_check_wishes ["tree", "wishes"] (defScope s_check_wishes) := ⟨rfl, rfl, rfl, by decide +kernel, rfl, by decide +kernel, by decide +kernel⟩
def t_check_wishes (K : PySem.W.Frag) : TS :=
    (tSeq (tDrop (tCall (spec K pre_need_tree) [] E0 (tCons (tVar 0) tNil)))
    (tFor (iTup K (tVar 1)) (gName 2) (tSeq (tIfS (tTest (tOp rNe (tCB (qLen K) (tCons (tVar 2) tNil)) (tC (.int 2)))) tNever tNext)
    (tDrop (tCall (spec K pre_check_different) [] E0 (tCons (tVar 0) (tCons (tVar 2) tNil)))))))
theorem d_check_wishes {P : Program} {w : World} {K : PySem.W.Frag} {mg : Str → Option Value} {base : Heap} {k : Nat} (T : Tp K mg) (C_check_different : Cal P w K mg base k "check_different" ["tree", "things"] pre_check_different) (C_need_tree : Cal P w K mg base k "need_tree" ["tree"] pre_need_tree) {f : Addr} {cdv : Value} {Aa : Around} {outer : List Env} {s : Shared} {H0 : Hp} {E : XK}
    (hr : Room k (Aa.deeper (PyProof.Rows.envOfC "check_wishes" (defScope s_check_wishes) s.heap.objs.size f cdv))) :
    PSs (cxOf CX0 P w K mg base N_check_wishes "check_wishes" (defScope s_check_wishes) f cdv Aa outer s H0 E).nox (defBody s_check_wishes) (t_check_wishes K) := by
  have S := sc_check_wishes
  exact (pss_cons (ps_expr (pe_cal C_need_tree hr (by rfl) (pa_cons (pv 0) pa_nil)))
    (pss_one (ps_for PassesOwn.never rfl (pi_tup (pv 1)) (pg_name (i := 2) S.nd rfl (by first | exact Or.inl rfl | exact Or.inr rfl)) (pss_cons (ps_if (pt_cmpR op_ne (pe_callB call_len_seq (by rfl) T.b_len (by decide +kernel) (pa_cons (pv 2) pa_nil)) pe_int (nomark _)) (pss_one ps_never) pss_nil)
    (pss_one (ps_expr (pe_cal C_check_different hr (by rfl) (pa_cons (pv 0) (pa_cons (pv 2) pa_nil)))))))))
/-! ### numbered: 0 wishes, 1 index -/
abbrev s_numbered : Stmt := topS 22
abbrev N_numbered : List Str := ["wishes", "index"]
theorem sc_numbered : FnScope N_numbered ["wishes"] (defScope s_numbered) := ⟨rfl, rfl, rfl, by decide +kernel, rfl, by decide +kernel, by decide +kernel⟩
def t_numbered (K : PySem.W.Frag) : TS :=
    (tRet (tLc (iRng1 (tCons (tCB (qLen K) (tCons (tVar 0) tNil)) tNil)) (gName 1) tYes (tTup (tCons (tOp (rIxT K) (tOp (rIxT K) (tVar 0) (tVar 1)) (tC (.int 0))) (tCons (tOp (rIxT K) (tOp (rIxT K) (tVar 0) (tVar 1)) (tC (.int 1))) (tCons (tVar 1) tNil)))) [1]))
theorem d_numbered {P : Program} {w : World} {K : PySem.W.Frag} {mg : Str → Option Value} {base : Heap} {k : Nat} (T : Tp K mg) {f : Addr} {cdv : Value} {Aa : Around} {outer : List Env} {s : Shared} {H0 : Hp} {E : XK}
    (hr : Room k (Aa.deeper (PyProof.Rows.envOfC "numbered" (defScope s_numbered) s.heap.objs.size f cdv))) :
    PSs (cxOf CX0 P w K mg base N_numbered "numbered" (defScope s_numbered) f cdv Aa outer s H0 E).nox (defBody s_numbered) (t_numbered K) := by
  have S := sc_numbered
  exact (pss_one (ps_ret (pe_lc (own := [("index", 1)]) (g := (gName 1)) (tt := tYes) (te := (tTup (tCons (tOp (rIxT K) (tOp (rIxT K) (tVar 0) (tVar 1)) (tC (.int 0))) (tCons (tOp (rIxT K) (tOp (rIxT K) (tVar 0) (tVar 1)) (tC (.int 1))) (tCons (tVar 1) tNil))))) (by rfl) S.nd (pi_range1 (by rfl) T.b_range (pa_cons (pe_callB call_len_seq (by rfl) T.b_len (by decide +kernel) (pa_cons (pv 0) pa_nil)) pa_nil)) (blkOk_by (N := N_numbered) (sc := defScope s_numbered) (by decide +kernel)) (fun _ _ _ _ _ => (pg_name (i := 1) S.nd rfl (by first | exact Or.inl rfl | exact Or.inr rfl))) (fun _ _ _ _ _ => pts_nil) (fun _ _ _ _ _ => (pe_tup (pa_cons (pe_ix ix_tup (pe_ix ix_tup (pv 0) (pv 1) (fun _ _ => rfl)) pe_int (fun _ _ => rfl)) (pa_cons (pe_ix ix_tup (pe_ix ix_tup (pv 0) (pv 1) (fun _ _ => rfl)) pe_int (fun _ _ => rfl)) (pa_cons (pv 1) pa_nil))))))))
/-! ### met_here: 0 parts, 1 told, 2 found, 3 a, 4 b, 5 index, 6 i, 7 j -/
abbrev s_met_here : Stmt := topS 23
abbrev N_met_here : List Str := ["parts", "told", "found", "a", "b", "index", "i", "j"]
theorem sc_met_here : FnScope N_met_here ["parts", "told"] (defScope s_met_here) := ⟨rfl, rfl, rfl, by decide +kernel, rfl, by decide +kernel, by decide +kernel⟩
def t_met_here (K : PySem.W.Frag) : TS :=
    (tSeq (tAsg (tLst tNil) (gName 2))
    (tSeq (tFor (iList K (tVar 1)) (gTup K 3 (gCons (gName 3) (gCons (gName 4) (gCons (gName 5) gNil)))) (tSeq (tAsg (tCall (spec K pre_index_with) [] E0 (tCons (tVar 0) (tCons (tVar 3) tNil))) (gName 6))
    (tSeq (tAsg (tCall (spec K pre_index_with) [] E0 (tCons (tVar 0) (tCons (tVar 4) tNil))) (gName 7))
    (tIfS (tTest (tOp rNe (tVar 6) (tVar 7))) (tDrop (tBM K "list" rAppend (tVar 2) (tCons (tTup (tCons (tVar 6) (tCons (tVar 7) (tCons (tVar 5) tNil)))) tNil))) tNext))))
    (tRet (tVar 2))))
theorem d_met_here {P : Program} {w : World} {K : PySem.W.Frag} {mg : Str → Option Value} {base : Heap} {k : Nat} (T : Tp K mg) (C_index_with : Cal P w K mg base k "index_with" ["parts", "thing"] pre_index_with) {f : Addr} {cdv : Value} {Aa : Around} {outer : List Env} {s : Shared} {H0 : Hp} {E : XK}
    (hr : Room k (Aa.deeper (PyProof.Rows.envOfC "met_here" (defScope s_met_here) s.heap.objs.size f cdv))) :
    PSs (cxOf CX0 P w K mg base N_met_here "met_here" (defScope s_met_here) f cdv Aa outer s H0 E).nox (defBody s_met_here) (t_met_here K) := by
  have S := sc_met_here
  exact (pss_cons (ps_set (i := 2) S.nd rfl (by first | exact Or.inl rfl | exact Or.inr rfl) (pe_lst pa_nil))
    (pss_cons (ps_for PassesOwn.never rfl (pi_list (pv 1)) (pg_tup rfl (pgs_cons (pg_name (i := 3) S.nd rfl (by first | exact Or.inl rfl | exact Or.inr rfl)) (pgs_cons (pg_name (i := 4) S.nd rfl (by first | exact Or.inl rfl | exact Or.inr rfl)) (pgs_cons (pg_name (i := 5) S.nd rfl (by first | exact Or.inl rfl | exact Or.inr rfl)) pgs_nil)))) (pss_cons (ps_set (i := 6) S.nd rfl (by first | exact Or.inl rfl | exact Or.inr rfl) (pe_cal C_index_with hr (by rfl) (pa_cons (pv 0) (pa_cons (pv 3) pa_nil))))
    (pss_cons (ps_set (i := 7) S.nd rfl (by first | exact Or.inl rfl | exact Or.inr rfl) (pe_cal C_index_with hr (by rfl) (pa_cons (pv 0) (pa_cons (pv 4) pa_nil))))
    (pss_one (ps_if (pt_cmpR op_ne (pv 6) (pv 7) (nomark _)) (pss_one (ps_expr (pe_bm PySem.F.plainAttrs_list PySem.F.slot_list_append PySem.F.type_list_append mt_append (pv 2) (pa_cons (pe_tup (pa_cons (pv 6) (pa_cons (pv 7) (pa_cons (pv 5) pa_nil)))) pa_nil)))) pss_nil)))))
    (pss_one (ps_ret (pv 2)))))
/-! ### met_within: 0 parts, 1 told, 2 part, 3 wish -/
abbrev s_met_within : Stmt := topS 24
abbrev N_met_within : List Str := ["parts", "told", "part", "wish"]
theorem sc_met_within : FnScope N_met_within ["parts", "told", "part"] (defScope s_met_within) := ⟨rfl, rfl, rfl, by decide +kernel, rfl, by decide +kernel, by decide +kernel⟩
def t_met_within (K : PySem.W.Frag) : TS :=
    (tRet (tLc (iList K (tVar 1)) (gName 3) (tTest (tChain rEq rEq (tCall (spec K pre_index_with) [] E0 (tCons (tVar 0) (tCons (tOp (rIxT K) (tVar 3) (tC (.int 0))) tNil))) (tVar 2) (tCall (spec K pre_index_with) [] E0 (tCons (tVar 0) (tCons (tOp (rIxT K) (tVar 3) (tC (.int 1))) tNil))))) (tVar 3) [3]))
theorem d_met_within {P : Program} {w : World} {K : PySem.W.Frag} {mg : Str → Option Value} {base : Heap} {k : Nat} (T : Tp K mg) (C_index_with : Cal P w K mg base k "index_with" ["parts", "thing"] pre_index_with) {f : Addr} {cdv : Value} {Aa : Around} {outer : List Env} {s : Shared} {H0 : Hp} {E : XK}
    (hr : Room k (Aa.deeper (PyProof.Rows.envOfC "met_within" (defScope s_met_within) s.heap.objs.size f cdv))) :
    PSs (cxOf CX0 P w K mg base N_met_within "met_within" (defScope s_met_within) f cdv Aa outer s H0 E).nox (defBody s_met_within) (t_met_within K) := by
  have S := sc_met_within
  exact (pss_one (ps_ret (pe_lc (own := [("wish", 3)]) (g := (gName 3)) (tt := (tTest (tChain rEq rEq (tCall (spec K pre_index_with) [] E0 (tCons (tVar 0) (tCons (tOp (rIxT K) (tVar 3) (tC (.int 0))) tNil))) (tVar 2) (tCall (spec K pre_index_with) [] E0 (tCons (tVar 0) (tCons (tOp (rIxT K) (tVar 3) (tC (.int 1))) tNil)))))) (te := (tVar 3)) (by rfl) S.nd (pi_list (pv 1)) (blkOk_by (N := N_met_within) (sc := defScope s_met_within) (by decide +kernel)) (fun _ _ _ _ _ => (pg_name (i := 3) S.nd rfl (by first | exact Or.inl rfl | exact Or.inr rfl))) (fun _ _ _ _ _ => (pts_one (pt_chain op_eq op_eq (pe_cal C_index_with hr (by rfl) (pa_cons (pv 0) (pa_cons (pe_ix ix_tup (pv 3) pe_int (fun _ _ => rfl)) pa_nil))) (pv 2) (pe_cal C_index_with hr (by rfl) (pa_cons (pv 0) (pa_cons (pe_ix ix_tup (pv 3) pe_int (fun _ _ => rfl)) pa_nil)))))) (fun _ _ _ _ _ => (pv 3)))))
/-! ### ring_from: 0 start, 1 demands, 2 chains, 3 seen, 4 at, 5 last, 6 wishes, 7 demand -/
abbrev s_ring_from : Stmt := topS 25
abbrev N_ring_from : List Str := ["start", "demands", "chains", "seen", "at", "last", "wishes", "demand"]
theorem sc_ring_from : FnScope N_ring_from ["start", "demands"] (defScope s_ring_from) := ⟨rfl, rfl, rfl, by decide +kernel, rfl, by decide +kernel, by decide +kernel⟩
def t_ring_from (K : PySem.W.Frag) : TS :=
    (tSeq (tAsg (tLc (iList K (tVar 1)) (gName 7) (tTest (tOp rEq (tOp (rIxT K) (tVar 7) (tC (.int 0))) (tVar 0))) (tTup (tCons (tOp (rIxT K) (tVar 7) (tC (.int 1))) (tCons (tTup (tCons (tOp (rIxT K) (tVar 7) (tC (.int 2))) tNil)) tNil))) [7]) (gName 2))
    (tSeq (tAsg tDNewK (gName 3))
    (tSeq (tAsg (tC (.int 0)) (gName 4))
    (tSeq (tWhile (tTest (tOp qLt (tVar 4) (tCB (qLen K) (tCons (tVar 2) tNil)))) (tSeq (tAsg (tOp (rIxL K) (tVar 2) (tVar 4)) (gTup K 2 (gCons (gName 5) (gCons (gName 6) gNil))))
    (tSeq (tIfS (tTest (tOp rEq (tVar 5) (tVar 0))) (tRet (tVar 6)) tNext)
    (tSeq (tIfS (tB (tDNotIn (tVar 5) (tVar 3))) (tSeq (sDPut (tVar 3) (tVar 5) (tC (.bl true)))
    (tDrop (tBM K "list" rExtend (tVar 2) (tCons (tLc (iList K (tVar 1)) (gName 7) (tTest (tOp rEq (tOp (rIxT K) (tVar 7) (tC (.int 0))) (tVar 5))) (tTup (tCons (tOp (rIxT K) (tVar 7) (tC (.int 1))) (tCons (tOp (rCatA K) (tVar 6) (tTup (tCons (tOp (rIxT K) (tVar 7) (tC (.int 2))) tNil))) tNil))) [7]) tNil)))) tNext)
    (tAug 4 (tC (.int 1)) (ipI fun i j => i + j))))))
    (tRet (tC .non))))))
theorem d_ring_from {P : Program} {w : World} {K : PySem.W.Frag} {mg : Str → Option Value} {base : Heap} {k : Nat} (T : Tp K mg) {f : Addr} {cdv : Value} {Aa : Around} {outer : List Env} {s : Shared} {H0 : Hp} {E : XK}
    (hr : Room k (Aa.deeper (PyProof.Rows.envOfC "ring_from" (defScope s_ring_from) s.heap.objs.size f cdv))) :
    PSs (cxOf CX0 P w K mg base N_ring_from "ring_from" (defScope s_ring_from) f cdv Aa outer s H0 E).nox (defBody s_ring_from) (t_ring_from K) := by
  have S := sc_ring_from
  exact (pss_cons (ps_setLc (i := 2) (own := [("demand", 7)]) (g := (gName 7)) (tt := (tTest (tOp rEq (tOp (rIxT K) (tVar 7) (tC (.int 0))) (tVar 0)))) (te := (tTup (tCons (tOp (rIxT K) (tVar 7) (tC (.int 1))) (tCons (tTup (tCons (tOp (rIxT K) (tVar 7) (tC (.int 2))) tNil)) tNil)))) (by rfl) S.nd rfl rfl (sw_true rfl rfl rfl (by decide +kernel)) (pi_list (pv 1)) (blkOk_by (N := N_ring_from) (sc := defScope s_ring_from) (by decide +kernel)) (fun _ _ _ _ _ => (pg_name (i := 7) S.nd rfl (by first | exact Or.inl rfl | exact Or.inr rfl))) (fun _ _ _ _ _ => (pts_one (pt_cmpR op_eq (pe_ix ix_tup (pv 7) pe_int (fun _ _ => rfl)) (pv 0) (nomark _)))) (fun _ _ _ _ _ => (pe_tup (pa_cons (pe_ix ix_tup (pv 7) pe_int (fun _ _ => rfl)) (pa_cons (pe_tup (pa_cons (pe_ix ix_tup (pv 7) pe_int (fun _ _ => rfl)) pa_nil)) pa_nil)))))
    (pss_cons (ps_set (i := 3) S.nd rfl (by first | exact Or.inl rfl | exact Or.inr rfl) pe_dnewK)
    (pss_cons (ps_set (i := 4) S.nd rfl (by first | exact Or.inl rfl | exact Or.inr rfl) pe_int)
    (pss_cons (ps_while PassesOwn.never (pt_cmpR op_lt (pv 4) (pe_callB call_len_seq (by rfl) T.b_len (by decide +kernel) (pa_cons (pv 2) pa_nil)) (nomark _)) (pss_cons (ps_asg (pe_ix ix_list (pv 2) (pv 4) (fun _ _ => rfl)) (pg_tup rfl (pgs_cons (pg_name (i := 5) S.nd rfl (by first | exact Or.inl rfl | exact Or.inr rfl)) (pgs_cons (pg_name (i := 6) S.nd rfl (by first | exact Or.inl rfl | exact Or.inr rfl)) pgs_nil))))
    (pss_cons (ps_if (pt_cmpR op_eq (pv 5) (pv 0) (nomark _)) (pss_one (ps_ret (pv 6))) pss_nil)
    (pss_cons (ps_if (pt_cmp (pc_dnotin (hu_of hr) (pv 5) (pv 3))) (pss_cons (ps_dput (hu_of hr) (pv 3) (pv 5) pe_bl rfl)
    (pss_one (ps_expr (pe_bm PySem.F.plainAttrs_list PySem.F.slot_list_extend PySem.F.type_list_extend mt_extend (pv 2) (pa_cons (pe_lc (own := [("demand", 7)]) (g := (gName 7)) (tt := (tTest (tOp rEq (tOp (rIxT K) (tVar 7) (tC (.int 0))) (tVar 5)))) (te := (tTup (tCons (tOp (rIxT K) (tVar 7) (tC (.int 1))) (tCons (tOp (rCatA K) (tVar 6) (tTup (tCons (tOp (rIxT K) (tVar 7) (tC (.int 2))) tNil))) tNil)))) (by rfl) S.nd (pi_list (pv 1)) (blkOk_by (N := N_ring_from) (sc := defScope s_ring_from) (by decide +kernel)) (fun _ _ _ _ _ => (pg_name (i := 7) S.nd rfl (by first | exact Or.inl rfl | exact Or.inr rfl))) (fun _ _ _ _ _ => (pts_one (pt_cmpR op_eq (pe_ix ix_tup (pv 7) pe_int (fun _ _ => rfl)) (pv 5) (nomark _)))) (fun _ _ _ _ _ => (pe_tup (pa_cons (pe_ix ix_tup (pv 7) pe_int (fun _ _ => rfl)) (pa_cons (pe_op op_catA (pv 6) (pe_tup (pa_cons (pe_ix ix_tup (pv 7) pe_int (fun _ _ => rfl)) pa_nil))) pa_nil))))) pa_nil))))) pss_nil)
    (pss_one (ps_aug (i := 4) S.nd rfl (by first | exact Or.inl rfl | exact Or.inr rfl) pe_int ip_add))))))
    (pss_one (ps_ret pe_non))))))
/-! ### ring_of_any: 0 k, 1 demands, 2 start, 3 ring -/
abbrev s_ring_of_any : Stmt := topS 26
abbrev N_ring_of_any : List Str := ["k", "demands", "start", "ring"]
theorem sc_ring_of_any : FnScope N_ring_of_any ["k", "demands"] (defScope s_ring_of_any) := ⟨rfl, rfl, rfl, by decide +kernel, rfl, by decide +kernel, by decide +kernel⟩
def t_ring_of_any (K : PySem.W.Frag) : TS :=
    (tSeq (tFor (iRng1 (tCons (tVar 0) tNil)) (gName 2) (tSeq (tAsg (tCall (spec K pre_ring_from) [] E0 (tCons (tVar 2) (tCons (tVar 1) tNil))) (gName 3))
    (tIfS (tTest (tOp qNotN (tVar 3) (tC .non))) (tRet (tVar 3)) tNext)))
    (tRet (tC .non)))
theorem d_ring_of_any {P : Program} {w : World} {K : PySem.W.Frag} {mg : Str → Option Value} {base : Heap} {k : Nat} (T : Tp K mg) (C_ring_from : Cal P w K mg base k "ring_from" ["start", "demands"] pre_ring_from) {f : Addr} {cdv : Value} {Aa : Around} {outer : List Env} {s : Shared} {H0 : Hp} {E : XK}
    (hr : Room k (Aa.deeper (PyProof.Rows.envOfC "ring_of_any" (defScope s_ring_of_any) s.heap.objs.size f cdv))) :
    PSs (cxOf CX0 P w K mg base N_ring_of_any "ring_of_any" (defScope s_ring_of_any) f cdv Aa outer s H0 E).nox (defBody s_ring_of_any) (t_ring_of_any K) := by
  have S := sc_ring_of_any
  exact (pss_cons (ps_for PassesOwn.never rfl (pi_range1 (by rfl) T.b_range (pa_cons (pv 0) pa_nil)) (pg_name (i := 2) S.nd rfl (by first | exact Or.inl rfl | exact Or.inr rfl)) (pss_cons (ps_set (i := 3) S.nd rfl (by first | exact Or.inl rfl | exact Or.inr rfl) (pe_cal C_ring_from hr (by rfl) (pa_cons (pv 2) (pa_cons (pv 1) pa_nil))))
    (pss_one (ps_if (pt_cmpR op_notN (pv 3) pe_non (nomark _)) (pss_one (ps_ret (pv 3))) pss_nil))))
    (pss_one (ps_ret pe_non)))
/-! ### ring_of_row: 0 demands, 1 onward, 2 backward, 3 i, 4 j, 5 index -/
abbrev s_ring_of_row : Stmt := topS 27
abbrev N_ring_of_row : List Str := ["demands", "onward", "backward", "i", "j", "index"]
theorem sc_ring_of_row : FnScope N_ring_of_row ["demands"] (defScope s_ring_of_row) := ⟨rfl, rfl, rfl, by decide +kernel, rfl, by decide +kernel, by decide +kernel⟩
def t_ring_of_row (K : PySem.W.Frag) : TS :=
    (tSeq (tAsg (tLc (iList K (tVar 0)) (gTup K 3 (gCons (gName 3) (gCons (gName 4) (gCons (gName 5) gNil)))) (tTest (tOp qLt (tVar 3) (tVar 4))) (tVar 5) [3, 4, 5]) (gName 1))
    (tSeq (tAsg (tLc (iList K (tVar 0)) (gTup K 3 (gCons (gName 3) (gCons (gName 4) (gCons (gName 5) gNil)))) (tTest (tOp qGt (tVar 3) (tVar 4))) (tVar 5) [3, 4, 5]) (gName 2))
    (tSeq (tIfS (tAnd (tTest (tOp (rNeD K) (tVar 1) (tLst tNil))) (tTest (tOp (rNeD K) (tVar 2) (tLst tNil)))) (tRet (tTup (tCons (tOp (rIxL K) (tVar 1) (tC (.int 0))) (tCons (tOp (rIxL K) (tVar 2) (tC (.int 0))) tNil)))) tNext)
    (tRet (tC .non)))))
theorem d_ring_of_row {P : Program} {w : World} {K : PySem.W.Frag} {mg : Str → Option Value} {base : Heap} {k : Nat} (T : Tp K mg) {f : Addr} {cdv : Value} {Aa : Around} {outer : List Env} {s : Shared} {H0 : Hp} {E : XK}
    (hr : Room k (Aa.deeper (PyProof.Rows.envOfC "ring_of_row" (defScope s_ring_of_row) s.heap.objs.size f cdv))) :
    PSs (cxOf CX0 P w K mg base N_ring_of_row "ring_of_row" (defScope s_ring_of_row) f cdv Aa outer s H0 E).nox (defBody s_ring_of_row) (t_ring_of_row K) := by
  have S := sc_ring_of_row
  exact (pss_cons (ps_setLc (i := 1) (own := [("i", 3), ("j", 4), ("index", 5)]) (g := (gTup K 3 (gCons (gName 3) (gCons (gName 4) (gCons (gName 5) gNil))))) (tt := (tTest (tOp qLt (tVar 3) (tVar 4)))) (te := (tVar 5)) (by rfl) S.nd rfl rfl (sw_true rfl rfl rfl (by decide +kernel)) (pi_list (pv 0)) (blkOk_by (N := N_ring_of_row) (sc := defScope s_ring_of_row) (by decide +kernel)) (fun _ _ _ _ _ => (pg_tup rfl (pgs_cons (pg_name (i := 3) S.nd rfl (by first | exact Or.inl rfl | exact Or.inr rfl)) (pgs_cons (pg_name (i := 4) S.nd rfl (by first | exact Or.inl rfl | exact Or.inr rfl)) (pgs_cons (pg_name (i := 5) S.nd rfl (by first | exact Or.inl rfl | exact Or.inr rfl)) pgs_nil))))) (fun _ _ _ _ _ => (pts_one (pt_cmpR op_lt (pv 3) (pv 4) (nomark _)))) (fun _ _ _ _ _ => (pv 5)))
    (pss_cons (ps_setLc (i := 2) (own := [("i", 3), ("j", 4), ("index", 5)]) (g := (gTup K 3 (gCons (gName 3) (gCons (gName 4) (gCons (gName 5) gNil))))) (tt := (tTest (tOp qGt (tVar 3) (tVar 4)))) (te := (tVar 5)) (by rfl) S.nd rfl rfl (sw_true rfl rfl rfl (by decide +kernel)) (pi_list (pv 0)) (blkOk_by (N := N_ring_of_row) (sc := defScope s_ring_of_row) (by decide +kernel)) (fun _ _ _ _ _ => (pg_tup rfl (pgs_cons (pg_name (i := 3) S.nd rfl (by first | exact Or.inl rfl | exact Or.inr rfl)) (pgs_cons (pg_name (i := 4) S.nd rfl (by first | exact Or.inl rfl | exact Or.inr rfl)) (pgs_cons (pg_name (i := 5) S.nd rfl (by first | exact Or.inl rfl | exact Or.inr rfl)) pgs_nil))))) (fun _ _ _ _ _ => (pts_one (pt_cmpR op_gt (pv 3) (pv 4) (nomark _)))) (fun _ _ _ _ _ => (pv 5)))
    (pss_cons (ps_if (PW.pt (pw_and (pt_cmpR (op_neD (hu64 hr)) (pv 1) (pe_lst pa_nil) (nomark _)) (pw_and1 (pt_cmpR (op_neD (hu64 hr)) (pv 2) (pe_lst pa_nil) (nomark _))))) (pss_one (ps_ret (pe_tup (pa_cons (pe_ix ix_list (pv 1) pe_int (fun _ _ => rfl)) (pa_cons (pe_ix ix_list (pv 2) pe_int (fun _ _ => rfl)) pa_nil))))) pss_nil)
    (pss_one (ps_ret pe_non)))))
/-! ### sequence_for: 0 k, 1 demands, 2 left, 3 found, 4 behind, 5 i, 6 j, 7 _, 8 index -/
abbrev s_sequence_for : Stmt := topS 28
abbrev N_sequence_for : List Str := ["k", "demands", "left", "found", "behind", "i", "j", "_", "index"]
theorem sc_sequence_for : FnScope N_sequence_for ["k", "demands"] (defScope s_sequence_for) := ⟨rfl, rfl, rfl, by decide +kernel, rfl, by decide +kernel, by decide +kernel⟩
def t_sequence_for (K : PySem.W.Frag) : TS :=
    (tSeq (tAsg (tLstRg (tRg1 (tVar 0))) (gName 2))
    (tSeq (tAsg (tLst tNil) (gName 3))
    (tSeq (tWhile (tTest (tOp (rNeD K) (tVar 2) (tLst tNil))) (tSeq (tAsg (tLc (iList K (tVar 1)) (gTup K 3 (gCons (gName 5) (gCons (gName 6) (gCons (gName 7) gNil)))) (tTest (tOp (rIn K false) (tVar 5) (tVar 2))) (tVar 6) [5, 6, 7]) (gName 4))
    (tSeq (tDrop (tBM K "list" rAppend (tVar 3) (tCons (tCB (rMin K) (tCons (tLc (iList K (tVar 2)) (gName 8) (tTest (tOp (rIn K true) (tVar 8) (tVar 4))) (tVar 8) [8]) tNil)) tNil)))
    (tDrop (tBM K "list" rRemI (tVar 2) (tCons (tOp (rIxL K) (tVar 3) (tUn qNeg (tC (.int 1)))) tNil))))))
    (tRet (tVar 3)))))
theorem d_sequence_for {P : Program} {w : World} {K : PySem.W.Frag} {mg : Str → Option Value} {base : Heap} {k : Nat} (T : Tp K mg) {f : Addr} {cdv : Value} {Aa : Around} {outer : List Env} {s : Shared} {H0 : Hp} {E : XK}
    (hr : Room k (Aa.deeper (PyProof.Rows.envOfC "sequence_for" (defScope s_sequence_for) s.heap.objs.size f cdv))) :
    PSs (cxOf CX0 P w K mg base N_sequence_for "sequence_for" (defScope s_sequence_for) f cdv Aa outer s H0 E).nox (defBody s_sequence_for) (t_sequence_for K) := by
  have S := sc_sequence_for
  exact (pss_cons (ps_set (i := 2) S.nd rfl (by first | exact Or.inl rfl | exact Or.inr rfl) (pe_listRg rfl (by rfl) T.b_list (prg_1 (by rfl) T.b_range (pv 0))))
    (pss_cons (ps_set (i := 3) S.nd rfl (by first | exact Or.inl rfl | exact Or.inr rfl) (pe_lst pa_nil))
    (pss_cons (ps_while PassesOwn.never (pt_cmpR (op_neD (hu64 hr)) (pv 2) (pe_lst pa_nil) (nomark _)) (pss_cons (ps_set (i := 4) S.nd rfl (by first | exact Or.inl rfl | exact Or.inr rfl) (pe_lc (own := [("i", 5), ("j", 6), ("_", 7)]) (g := (gTup K 3 (gCons (gName 5) (gCons (gName 6) (gCons (gName 7) gNil))))) (tt := (tTest (tOp (rIn K false) (tVar 5) (tVar 2)))) (te := (tVar 6)) (by rfl) S.nd (pi_list (pv 1)) (blkOk_by (N := N_sequence_for) (sc := defScope s_sequence_for) (by decide +kernel)) (fun _ _ _ _ _ => (pg_tup rfl (pgs_cons (pg_name (i := 5) S.nd rfl (by first | exact Or.inl rfl | exact Or.inr rfl)) (pgs_cons (pg_name (i := 6) S.nd rfl (by first | exact Or.inl rfl | exact Or.inr rfl)) (pgs_cons (pg_name (i := 7) S.nd rfl (by first | exact Or.inl rfl | exact Or.inr rfl)) pgs_nil))))) (fun _ _ _ _ _ => (pts_one (pt_cmpR op_in_seq (pv 5) (pv 2) (by rfl)))) (fun _ _ _ _ _ => (pv 6))))
    (pss_cons (ps_expr (pe_bm PySem.F.plainAttrs_list PySem.F.slot_list_append PySem.F.type_list_append mt_append (pv 3) (pa_cons (pe_callB (cr_min rfl) (by rfl) T.b_min (by decide +kernel) (pa_cons (pe_lc (own := [("index", 8)]) (g := (gName 8)) (tt := (tTest (tOp (rIn K true) (tVar 8) (tVar 4)))) (te := (tVar 8)) (by rfl) S.nd (pi_list (pv 2)) (blkOk_by (N := N_sequence_for) (sc := defScope s_sequence_for) (by decide +kernel)) (fun _ _ _ _ _ => (pg_name (i := 8) S.nd rfl (by first | exact Or.inl rfl | exact Or.inr rfl))) (fun _ _ _ _ _ => (pts_one (pt_cmpR op_notIn_seq (pv 8) (pv 4) (by rfl)))) (fun _ _ _ _ _ => (pv 8))) pa_nil)) pa_nil)))
    (pss_one (ps_expr (pe_bm PySem.F.plainAttrs_list PySem.F.slot_list_remove PySem.F.type_list_remove mt_remove (pv 2) (pa_cons (pe_ix ix_list (pv 3) (pe_un un_neg pe_int) (fun _ _ => rfl)) pa_nil)))))))
    (pss_one (ps_ret (pv 3))))))
/-! ### kept_within: 0 tree, 1 told, 2 word, 3 parts, 4 demands, 5 sequence, 6 ring, 7 found, 8 index, 9 inner, 10 i, 11 j, 12 _ -/
abbrev s_kept_within : Stmt := topS 29
abbrev N_kept_within : List Str := ["tree", "told", "word", "parts", "demands", "sequence", "ring", "found", "index", "inner", "i", "j", "_"]
theorem sc_kept_within : FnScope N_kept_within ["tree", "told"] (defScope s_kept_within) := ⟨rfl, rfl, rfl, by decide +kernel, rfl, by decide +kernel, by decide +kernel⟩
def t_kept_within (K : PySem.W.Frag) (m_kept_within : Nat) : TS :=
    (tSeq (tIfS (tB (tCall (spec K pre_is_thing) [] E0 (tCons (tVar 0) tNil))) (tRet (tTup (tCons (tTupS (tCons (tVar 0) tNil)) (tCons (tC .non) tNil)))) tNext)
    (tSeq (tAsg (tVar 0) (gTup K 2 (gCons (gName 2) (gCons (gName 3) gNil))))
    (tSeq (tAsg (tCall (spec K pre_met_here) [] E0 (tCons (tVar 3) (tCons (tVar 1) tNil))) (gName 4))
    (tSeq (tAsg (tLstRg (tRg1 (tCB (qLen K) (tCons (tVar 3) tNil)))) (gName 5))
    (tSeq (tIfS (tTest (tOp rEq (tVar 2) (tC (.str "any")))) (tSeq (tAsg (tCall (spec K pre_ring_of_any) [] E0 (tCons (tCB (qLen K) (tCons (tVar 3) tNil)) (tCons (tVar 4) tNil))) (gName 6))
    (tIfS (tTest (tOp qIsN (tVar 6) (tC .non))) (tAsg (tCall (spec K pre_sequence_for) [] E0 (tCons (tCB (qLen K) (tCons (tVar 3) tNil)) (tCons (tVar 4) tNil))) (gName 5)) tNext)) (tSeq (tAsg (tCall (spec K pre_ring_of_row) [] E0 (tCons (tVar 4) tNil)) (gName 6))
    (tIfS (tB (tCB (rAny K) (tCons (tLc (iList K (tVar 4)) (gTup K 3 (gCons (gName 10) (gCons (gName 11) (gCons (gName 12) gNil)))) tYes (tOp qGt (tVar 10) (tVar 11)) [10, 11, 12]) tNil))) (tDrop (tBM0 K "list" rReverse (tVar 5))) tNext)))
    (tSeq (tIfS (tTest (tOp qNotN (tVar 6) (tC .non))) (tRet (tTup (tCons (tC .non) (tCons (tVar 6) tNil)))) tNext)
    (tSeq (tAsg (tTupS tNil) (gName 7))
    (tSeq (tFor (iList K (tVar 5)) (gName 8) (tSeq (tAsg (tCall (spec K (pre_kept_within m_kept_within)) [] E0 (tCons (tOp (rIxT K) (tVar 3) (tVar 8)) (tCons (tCall (spec K pre_met_within) [] E0 (tCons (tVar 3) (tCons (tVar 1) (tCons (tVar 8) tNil)))) tNil))) (gTup K 2 (gCons (gName 9) (gCons (gName 6) gNil))))
    (tSeq (tIfS (tTest (tOp qNotN (tVar 6) (tC .non))) (tRet (tTup (tCons (tC .non) (tCons (tVar 6) tNil)))) tNext)
    (tAsg (tOp (rCatS K) (tVar 7) (tVar 9)) (gName 7)))))
    (tRet (tTup (tCons (tVar 7) (tCons (tC .non) tNil))))))))))))
theorem d_kept_within {P : Program} {w : World} {K : PySem.W.Frag} {mg : Str → Option Value} {base : Heap} {k : Nat} {m_kept_within : Nat} (T : Tp K mg) (C_met_within : Cal P w K mg base k "met_within" ["parts", "told", "part"] pre_met_within) (C_kept_within : Cal P w K mg base k "kept_within" ["tree", "told"] (pre_kept_within m_kept_within)) (C_sequence_for : Cal P w K mg base k "sequence_for" ["k", "demands"] pre_sequence_for) (C_ring_of_any : Cal P w K mg base k "ring_of_any" ["k", "demands"] pre_ring_of_any) (C_ring_of_row : Cal P w K mg base k "ring_of_row" ["demands"] pre_ring_of_row) (C_met_here : Cal P w K mg base k "met_here" ["parts", "told"] pre_met_here) (C_is_thing : Cal P w K mg base k "is_thing" ["tree"] pre_is_thing) {f : Addr} {cdv : Value} {Aa : Around} {outer : List Env} {s : Shared} {H0 : Hp} {E : XK}
    (hr : Room k (Aa.deeper (PyProof.Rows.envOfC "kept_within" (defScope s_kept_within) s.heap.objs.size f cdv))) :
    PSs (cxOf CX0 P w K mg base N_kept_within "kept_within" (defScope s_kept_within) f cdv Aa outer s H0 E).nox (defBody s_kept_within) (t_kept_within K m_kept_within) := by
  have S := sc_kept_within
  exact (pss_cons (ps_if (pt_val (pe_cal C_is_thing hr (by rfl) (pa_cons (pv 0) pa_nil))) (pss_one (ps_ret (pe_tup (pa_cons (pe_tupS (pa_cons (pv 0) pa_nil)) (pa_cons pe_non pa_nil))))) pss_nil)
    (pss_cons (ps_asg (pv 0) (pg_tup rfl (pgs_cons (pg_name (i := 2) S.nd rfl (by first | exact Or.inl rfl | exact Or.inr rfl)) (pgs_cons (pg_name (i := 3) S.nd rfl (by first | exact Or.inl rfl | exact Or.inr rfl)) pgs_nil))))
    (pss_cons (ps_set (i := 4) S.nd rfl (by first | exact Or.inl rfl | exact Or.inr rfl) (pe_cal C_met_here hr (by rfl) (pa_cons (pv 3) (pa_cons (pv 1) pa_nil))))
    (pss_cons (ps_set (i := 5) S.nd rfl (by first | exact Or.inl rfl | exact Or.inr rfl) (pe_listRg rfl (by rfl) T.b_list (prg_1 (by rfl) T.b_range (pe_callB call_len_seq (by rfl) T.b_len (by decide +kernel) (pa_cons (pv 3) pa_nil)))))
    (pss_cons (ps_if (pt_cmpR op_eq (pv 2) pe_str (nomark _)) (pss_cons (ps_set (i := 6) S.nd rfl (by first | exact Or.inl rfl | exact Or.inr rfl) (pe_cal C_ring_of_any hr (by rfl) (pa_cons (pe_callB call_len_seq (by rfl) T.b_len (by decide +kernel) (pa_cons (pv 3) pa_nil)) (pa_cons (pv 4) pa_nil))))
    (pss_one (ps_if (pt_cmpR op_isN (pv 6) pe_non (nomark _)) (pss_one (ps_set (i := 5) S.nd rfl (by first | exact Or.inl rfl | exact Or.inr rfl) (pe_cal C_sequence_for hr (by rfl) (pa_cons (pe_callB call_len_seq (by rfl) T.b_len (by decide +kernel) (pa_cons (pv 3) pa_nil)) (pa_cons (pv 4) pa_nil))))) pss_nil))) (pss_cons (ps_set (i := 6) S.nd rfl (by first | exact Or.inl rfl | exact Or.inr rfl) (pe_cal C_ring_of_row hr (by rfl) (pa_cons (pv 4) pa_nil)))
    (pss_one (ps_if (pt_val (pe_callB (cr_any rfl) (by rfl) T.b_any (by decide +kernel) (pa_cons (pe_lc (own := [("i", 10), ("j", 11), ("_", 12)]) (g := (gTup K 3 (gCons (gName 10) (gCons (gName 11) (gCons (gName 12) gNil))))) (tt := tYes) (te := (tOp qGt (tVar 10) (tVar 11))) (by rfl) S.nd (pi_list (pv 4)) (blkOk_by (N := N_kept_within) (sc := defScope s_kept_within) (by decide +kernel)) (fun _ _ _ _ _ => (pg_tup rfl (pgs_cons (pg_name (i := 10) S.nd rfl (by first | exact Or.inl rfl | exact Or.inr rfl)) (pgs_cons (pg_name (i := 11) S.nd rfl (by first | exact Or.inl rfl | exact Or.inr rfl)) (pgs_cons (pg_name (i := 12) S.nd rfl (by first | exact Or.inl rfl | exact Or.inr rfl)) pgs_nil))))) (fun _ _ _ _ _ => pts_nil) (fun _ _ _ _ _ => (pe_cmpR op_gt (pv 10) (pv 11) (nomark _)))) pa_nil))) (pss_one (ps_expr (pe_bm0 PySem.F.plainAttrs_list PySem.F.slot_list_reverse PySem.F.type_list_reverse mt_reverse (pv 5)))) pss_nil))))
    (pss_cons (ps_if (pt_cmpR op_notN (pv 6) pe_non (nomark _)) (pss_one (ps_ret (pe_tup (pa_cons pe_non (pa_cons (pv 6) pa_nil))))) pss_nil)
    (pss_cons (ps_set (i := 7) S.nd rfl (by first | exact Or.inl rfl | exact Or.inr rfl) (pe_tupS pa_nil))
    (pss_cons (ps_for PassesOwn.never rfl (pi_list (pv 5)) (pg_name (i := 8) S.nd rfl (by first | exact Or.inl rfl | exact Or.inr rfl)) (pss_cons (ps_asg (pe_cal C_kept_within hr (by rfl) (pa_cons (pe_ix ix_tup (pv 3) (pv 8) (fun _ _ => rfl)) (pa_cons (pe_cal C_met_within hr (by rfl) (pa_cons (pv 3) (pa_cons (pv 1) (pa_cons (pv 8) pa_nil)))) pa_nil))) (pg_tup rfl (pgs_cons (pg_name (i := 9) S.nd rfl (by first | exact Or.inl rfl | exact Or.inr rfl)) (pgs_cons (pg_name (i := 6) S.nd rfl (by first | exact Or.inl rfl | exact Or.inr rfl)) pgs_nil))))
    (pss_cons (ps_if (pt_cmpR op_notN (pv 6) pe_non (nomark _)) (pss_one (ps_ret (pe_tup (pa_cons pe_non (pa_cons (pv 6) pa_nil))))) pss_nil)
    (pss_one (ps_set (i := 7) S.nd rfl (by first | exact Or.inl rfl | exact Or.inr rfl) (pe_op op_catS (pv 7) (pv 9)))))))
    (pss_one (ps_ret (pe_tup (pa_cons (pv 7) (pa_cons pe_non pa_nil)))))))))))))
/-! ### with_wishes: 0 tree, 1 wishes, 2 order, 3 ring -/
abbrev s_with_wishes : Stmt := topS 30
abbrev N_with_wishes : List Str := ["tree", "wishes", "order", "ring"]
theorem sc_with_wishes : FnScope N_with_wishes ["tree", "wishes"] (defScope s_with_wishes) := ⟨rfl, rfl, rfl, by decide +kernel, rfl, by decide +kernel, by decide +kernel⟩
def t_with_wishes (K : PySem.W.Frag) (m_kept_within : Nat) : TS :=
    (tSeq (tDrop (tCall (spec K pre_check_wishes) [] E0 (tCons (tVar 0) (tCons (tVar 1) tNil))))
    (tSeq (tAsg (tCall (spec K (pre_kept_within m_kept_within)) [] E0 (tCons (tVar 0) (tCons (tCall (spec K pre_numbered) [] E0 (tCons (tVar 1) tNil)) tNil))) (gTup K 2 (gCons (gName 2) (gCons (gName 3) gNil))))
    (tSeq (tIfS (tTest (tOp qNotN (tVar 3) (tC .non))) (tRet (tTup (tCons (tC (.str "ring")) (tCons (tVar 3) tNil)))) tNext)
    (tRet (tTup (tCons (tC (.str "order")) (tCons (tVar 2) tNil)))))))
theorem d_with_wishes {P : Program} {w : World} {K : PySem.W.Frag} {mg : Str → Option Value} {base : Heap} {k : Nat} {m_kept_within : Nat} (T : Tp K mg) (C_numbered : Cal P w K mg base k "numbered" ["wishes"] pre_numbered) (C_kept_within : Cal P w K mg base k "kept_within" ["tree", "told"] (pre_kept_within m_kept_within)) (C_check_wishes : Cal P w K mg base k "check_wishes" ["tree", "wishes"] pre_check_wishes) {f : Addr} {cdv : Value} {Aa : Around} {outer : List Env} {s : Shared} {H0 : Hp} {E : XK}
    (hr : Room k (Aa.deeper (PyProof.Rows.envOfC "with_wishes" (defScope s_with_wishes) s.heap.objs.size f cdv))) :
    PSs (cxOf CX0 P w K mg base N_with_wishes "with_wishes" (defScope s_with_wishes) f cdv Aa outer s H0 E).nox (defBody s_with_wishes) (t_with_wishes K m_kept_within) := by
  have S := sc_with_wishes
  exact (pss_cons (ps_expr (pe_cal C_check_wishes hr (by rfl) (pa_cons (pv 0) (pa_cons (pv 1) pa_nil))))
    (pss_cons (ps_asg (pe_cal C_kept_within hr (by rfl) (pa_cons (pv 0) (pa_cons (pe_cal C_numbered hr (by rfl) (pa_cons (pv 1) pa_nil)) pa_nil))) (pg_tup rfl (pgs_cons (pg_name (i := 2) S.nd rfl (by first | exact Or.inl rfl | exact Or.inr rfl)) (pgs_cons (pg_name (i := 3) S.nd rfl (by first | exact Or.inl rfl | exact Or.inr rfl)) pgs_nil))))
    (pss_cons (ps_if (pt_cmpR op_notN (pv 3) pe_non (nomark _)) (pss_one (ps_ret (pe_tup (pa_cons pe_str (pa_cons (pv 3) pa_nil))))) pss_nil)
    (pss_one (ps_ret (pe_tup (pa_cons pe_str (pa_cons (pv 2) pa_nil))))))))
/-! ### count_within: 0 tree, 1 told, 2 word, 3 parts, 4 demands, 5 number, 6 index, 7 i, 8 j, 9 _ -/
abbrev s_count_within : Stmt := topS 32
abbrev N_count_within : List Str := ["tree", "told", "word", "parts", "demands", "number", "index", "i", "j", "_"]
theorem sc_count_within : FnScope N_count_within ["tree", "told"] (defScope s_count_within) := ⟨rfl, rfl, rfl, by decide +kernel, rfl, by decide +kernel, by decide +kernel⟩
def t_count_within (K : PySem.W.Frag) (m_count_within : Nat) : TS :=
    (tSeq (tIfS (tB (tCall (spec K pre_is_thing) [] E0 (tCons (tVar 0) tNil))) (tRet (tC (.int 1))) tNext)
    (tSeq (tAsg (tVar 0) (gTup K 2 (gCons (gName 2) (gCons (gName 3) gNil))))
    (tSeq (tAsg (tCall (spec K pre_met_here) [] E0 (tCons (tVar 3) (tCons (tVar 1) tNil))) (gName 4))
    (tSeq (tIfS (tTest (tOp rEq (tVar 2) (tC (.str "any")))) (tAsg (tCall (spec K pre_sequences_kept) [] E0 (tCons (tCB (qLen K) (tCons (tVar 3) tNil)) (tCons (tVar 4) tNil))) (gName 5)) (tAsg (tOp qAdd (tCB qInt (tCons (tCB (rAll K) (tCons (tLc (iList K (tVar 4)) (gTup K 3 (gCons (gName 7) (gCons (gName 8) (gCons (gName 9) gNil)))) tYes (tOp qLt (tVar 7) (tVar 8)) [7, 8, 9]) tNil)) tNil)) (tCB qInt (tCons (tCB (rAll K) (tCons (tLc (iList K (tVar 4)) (gTup K 3 (gCons (gName 7) (gCons (gName 8) (gCons (gName 9) gNil)))) tYes (tOp qGt (tVar 7) (tVar 8)) [7, 8, 9]) tNil)) tNil))) (gName 5)))
    (tSeq (tFor (iRng1 (tCons (tCB (qLen K) (tCons (tVar 3) tNil)) tNil)) (gName 6) (tAug 5 (tCall (spec K (pre_count_within m_count_within)) [] E0 (tCons (tOp (rIxT K) (tVar 3) (tVar 6)) (tCons (tCall (spec K pre_met_within) [] E0 (tCons (tVar 3) (tCons (tVar 1) (tCons (tVar 6) tNil)))) tNil))) qMul))
    (tRet (tVar 5)))))))
theorem d_count_within {P : Program} {w : World} {K : PySem.W.Frag} {mg : Str → Option Value} {base : Heap} {k : Nat} {m_count_within : Nat} (T : Tp K mg) (C_met_within : Cal P w K mg base k "met_within" ["parts", "told", "part"] pre_met_within) (C_count_within : Cal P w K mg base k "count_within" ["tree", "told"] (pre_count_within m_count_within)) (C_sequences_kept : Cal P w K mg base k "sequences_kept" ["k", "demands"] pre_sequences_kept) (C_met_here : Cal P w K mg base k "met_here" ["parts", "told"] pre_met_here) (C_is_thing : Cal P w K mg base k "is_thing" ["tree"] pre_is_thing) {f : Addr} {cdv : Value} {Aa : Around} {outer : List Env} {s : Shared} {H0 : Hp} {E : XK}
    (hr : Room k (Aa.deeper (PyProof.Rows.envOfC "count_within" (defScope s_count_within) s.heap.objs.size f cdv))) :
    PSs (cxOf CX0 P w K mg base N_count_within "count_within" (defScope s_count_within) f cdv Aa outer s H0 E).nox (defBody s_count_within) (t_count_within K m_count_within) := by
  have S := sc_count_within
  exact (pss_cons (ps_if (pt_val (pe_cal C_is_thing hr (by rfl) (pa_cons (pv 0) pa_nil))) (pss_one (ps_ret pe_int)) pss_nil)
    (pss_cons (ps_asg (pv 0) (pg_tup rfl (pgs_cons (pg_name (i := 2) S.nd rfl (by first | exact Or.inl rfl | exact Or.inr rfl)) (pgs_cons (pg_name (i := 3) S.nd rfl (by first | exact Or.inl rfl | exact Or.inr rfl)) pgs_nil))))
    (pss_cons (ps_set (i := 4) S.nd rfl (by first | exact Or.inl rfl | exact Or.inr rfl) (pe_cal C_met_here hr (by rfl) (pa_cons (pv 3) (pa_cons (pv 1) pa_nil))))
    (pss_cons (ps_if (pt_cmpR op_eq (pv 2) pe_str (nomark _)) (pss_one (ps_set (i := 5) S.nd rfl (by first | exact Or.inl rfl | exact Or.inr rfl) (pe_cal C_sequences_kept hr (by rfl) (pa_cons (pe_callB call_len_seq (by rfl) T.b_len (by decide +kernel) (pa_cons (pv 3) pa_nil)) (pa_cons (pv 4) pa_nil))))) (pss_one (ps_set (i := 5) S.nd rfl (by first | exact Or.inl rfl | exact Or.inr rfl) (pe_op op_add (pe_callTy call_int1 (by rfl) T.b_int (by decide +kernel) (pa_cons (pe_callB (cr_all rfl) (by rfl) T.b_all (by decide +kernel) (pa_cons (pe_lc (own := [("i", 7), ("j", 8), ("_", 9)]) (g := (gTup K 3 (gCons (gName 7) (gCons (gName 8) (gCons (gName 9) gNil))))) (tt := tYes) (te := (tOp qLt (tVar 7) (tVar 8))) (by rfl) S.nd (pi_list (pv 4)) (blkOk_by (N := N_count_within) (sc := defScope s_count_within) (by decide +kernel)) (fun _ _ _ _ _ => (pg_tup rfl (pgs_cons (pg_name (i := 7) S.nd rfl (by first | exact Or.inl rfl | exact Or.inr rfl)) (pgs_cons (pg_name (i := 8) S.nd rfl (by first | exact Or.inl rfl | exact Or.inr rfl)) (pgs_cons (pg_name (i := 9) S.nd rfl (by first | exact Or.inl rfl | exact Or.inr rfl)) pgs_nil))))) (fun _ _ _ _ _ => pts_nil) (fun _ _ _ _ _ => (pe_cmpR op_lt (pv 7) (pv 8) (nomark _)))) pa_nil)) pa_nil)) (pe_callTy call_int1 (by rfl) T.b_int (by decide +kernel) (pa_cons (pe_callB (cr_all rfl) (by rfl) T.b_all (by decide +kernel) (pa_cons (pe_lc (own := [("i", 7), ("j", 8), ("_", 9)]) (g := (gTup K 3 (gCons (gName 7) (gCons (gName 8) (gCons (gName 9) gNil))))) (tt := tYes) (te := (tOp qGt (tVar 7) (tVar 8))) (by rfl) S.nd (pi_list (pv 4)) (blkOk_by (N := N_count_within) (sc := defScope s_count_within) (by decide +kernel)) (fun _ _ _ _ _ => (pg_tup rfl (pgs_cons (pg_name (i := 7) S.nd rfl (by first | exact Or.inl rfl | exact Or.inr rfl)) (pgs_cons (pg_name (i := 8) S.nd rfl (by first | exact Or.inl rfl | exact Or.inr rfl)) (pgs_cons (pg_name (i := 9) S.nd rfl (by first | exact Or.inl rfl | exact Or.inr rfl)) pgs_nil))))) (fun _ _ _ _ _ => pts_nil) (fun _ _ _ _ _ => (pe_cmpR op_gt (pv 7) (pv 8) (nomark _)))) pa_nil)) pa_nil))))))
    (pss_cons (ps_for PassesOwn.never rfl (pi_range1 (by rfl) T.b_range (pa_cons (pe_callB call_len_seq (by rfl) T.b_len (by decide +kernel) (pa_cons (pv 3) pa_nil)) pa_nil)) (pg_name (i := 6) S.nd rfl (by first | exact Or.inl rfl | exact Or.inr rfl)) (pss_one (ps_aug (i := 5) S.nd rfl (by first | exact Or.inl rfl | exact Or.inr rfl) (pe_cal C_count_within hr (by rfl) (pa_cons (pe_ix ix_tup (pv 3) (pv 6) (fun _ _ => rfl)) (pa_cons (pe_cal C_met_within hr (by rfl) (pa_cons (pv 3) (pa_cons (pv 1) (pa_cons (pv 6) pa_nil)))) pa_nil))) iop_mul)))
    (pss_one (ps_ret (pv 5))))))))
/-! ### count_with_wishes: 0 tree, 1 wishes -/
abbrev s_count_with_wishes : Stmt := topS 33
abbrev N_count_with_wishes : List Str := ["tree", "wishes"]
theorem sc_count_with_wishes : FnScope N_count_with_wishes ["tree", "wishes"] (defScope s_count_with_wishes) := ⟨rfl, rfl, rfl, by decide +kernel, rfl, by decide +kernel, by decide +kernel⟩
def t_count_with_wishes (K : PySem.W.Frag) (m_count_within : Nat) (m_need_few_parts : Nat) : TS :=
    (tSeq (tDrop (tCall (spec K pre_check_wishes) [] E0 (tCons (tVar 0) (tCons (tVar 1) tNil))))
    (tSeq (tDrop (tCall (spec K (pre_need_few_parts m_need_few_parts)) [] E0 (tCons (tVar 0) tNil)))
    (tRet (tCall (spec K (pre_count_within m_count_within)) [] E0 (tCons (tVar 0) (tCons (tCall (spec K pre_numbered) [] E0 (tCons (tVar 1) tNil)) tNil))))))
theorem d_count_with_wishes {P : Program} {w : World} {K : PySem.W.Frag} {mg : Str → Option Value} {base : Heap} {k : Nat} {m_count_within : Nat} {m_need_few_parts : Nat} (T : Tp K mg) (C_numbered : Cal P w K mg base k "numbered" ["wishes"] pre_numbered) (C_count_within : Cal P w K mg base k "count_within" ["tree", "told"] (pre_count_within m_count_within)) (C_need_few_parts : Cal P w K mg base k "need_few_parts" ["tree"] (pre_need_few_parts m_need_few_parts)) (C_check_wishes : Cal P w K mg base k "check_wishes" ["tree", "wishes"] pre_check_wishes) {f : Addr} {cdv : Value} {Aa : Around} {outer : List Env} {s : Shared} {H0 : Hp} {E : XK}
    (hr : Room k (Aa.deeper (PyProof.Rows.envOfC "count_with_wishes" (defScope s_count_with_wishes) s.heap.objs.size f cdv))) :
    PSs (cxOf CX0 P w K mg base N_count_with_wishes "count_with_wishes" (defScope s_count_with_wishes) f cdv Aa outer s H0 E).nox (defBody s_count_with_wishes) (t_count_with_wishes K m_count_within m_need_few_parts) := by
  have S := sc_count_with_wishes
  exact (pss_cons (ps_expr (pe_cal C_check_wishes hr (by rfl) (pa_cons (pv 0) (pa_cons (pv 1) pa_nil))))
    (pss_cons (ps_expr (pe_cal C_need_few_parts hr (by rfl) (pa_cons (pv 0) pa_nil)))
    (pss_one (ps_ret (pe_cal C_count_within hr (by rfl) (pa_cons (pv 0) (pa_cons (pe_cal C_numbered hr (by rfl) (pa_cons (pv 1) pa_nil)) pa_nil)))))))
/-! ### is_wish_ring: 0 tree, 1 wishes, 2 indexes, 3 word, 4 parts, 5 steps, 6 index, 7 i, 8 j, 9 k, 10 step -/
abbrev s_is_wish_ring : Stmt := topS 34
abbrev N_is_wish_ring : List Str := ["tree", "wishes", "indexes", "word", "parts", "steps", "index", "i", "j", "k", "step"]
theorem sc_is_wish_ring : FnScope N_is_wish_ring ["tree", "wishes", "indexes"] (defScope s_is_wish_ring) := ⟨rfl, rfl, rfl, by decide +kernel, rfl, by decide +kernel, by decide +kernel⟩
def t_is_wish_ring (K : PySem.W.Frag) : TS :=
    (tSeq (tDrop (tCall (spec K pre_check_wishes) [] E0 (tCons (tVar 0) (tCons (tVar 1) tNil))))
    (tSeq (tIfS (tOr (tTest (tOp rEq (tCB (qLen K) (tCons (tVar 2) tNil)) (tC (.int 0)))) (tNot (tB (tCB (rAll K) (tCons (tLc (iTup K (tVar 2)) (gName 6) tYes (tChain qLe qLt (tC (.int 0)) (tVar 6) (tCB (qLen K) (tCons (tVar 1) tNil))) [6]) tNil))))) (tRet (tC (.bl false))) tNext)
    (tSeq (tWhile (tNot (tB (tCall (spec K pre_is_thing) [] E0 (tCons (tVar 0) tNil)))) (tSeq (tAsg (tVar 0) (gTup K 2 (gCons (gName 3) (gCons (gName 4) gNil))))
    (tSeq (tAsg (tLc (iTup K (tVar 2)) (gName 6) tYes (tTup (tCons (tCall (spec K pre_index_with) [] E0 (tCons (tVar 4) (tCons (tOp (rIxT K) (tOp (rIxT K) (tVar 1) (tVar 6)) (tC (.int 0))) tNil))) (tCons (tCall (spec K pre_index_with) [] E0 (tCons (tVar 4) (tCons (tOp (rIxT K) (tOp (rIxT K) (tVar 1) (tVar 6)) (tC (.int 1))) tNil))) tNil))) [6]) (gName 5))
    (tSeq (tIfS (tB (tCB (rAny K) (tCons (tLc (iList K (tVar 5)) (gTup K 2 (gCons (gName 7) (gCons (gName 8) gNil))) tYes (tOp rNe (tVar 7) (tVar 8)) [7, 8]) tNil))) (tSeq (tIfS (tNot (tB (tCB (rAll K) (tCons (tLc (iList K (tVar 5)) (gTup K 2 (gCons (gName 7) (gCons (gName 8) gNil))) tYes (tOp rNe (tVar 7) (tVar 8)) [7, 8]) tNil)))) (tRet (tC (.bl false))) tNext)
    (tSeq (tIfS (tTest (tOp rEq (tVar 3) (tC (.str "row")))) (tRet (tAndV (tOp rEq (tCB (qLen K) (tCons (tVar 5) tNil)) (tC (.int 2))) (tOp rNe (tOp qLt (tOp (rIxT K) (tOp (rIxL K) (tVar 5) (tC (.int 0))) (tC (.int 0))) (tOp (rIxT K) (tOp (rIxL K) (tVar 5) (tC (.int 0))) (tC (.int 1)))) (tOp qLt (tOp (rIxT K) (tOp (rIxL K) (tVar 5) (tC (.int 1))) (tC (.int 0))) (tOp (rIxT K) (tOp (rIxL K) (tVar 5) (tC (.int 1))) (tC (.int 1))))))) tNext)
    (tRet (tCB (rAll K) (tCons (tLc (iRng1 (tCons (tCB (qLen K) (tCons (tVar 5) tNil)) tNil)) (gName 9) tYes (tOp rEq (tOp (rIxT K) (tOp (rIxL K) (tVar 5) (tOp qSub (tVar 9) (tC (.int 1)))) (tC (.int 1))) (tOp (rIxT K) (tOp (rIxL K) (tVar 5) (tVar 9)) (tC (.int 0)))) [9]) tNil))))) tNext)
    (tSeq (tIfS (tB (tCB (rAny K) (tCons (tLc (iList K (tVar 5)) (gName 10) tYes (tOp (rNeD K) (tVar 10) (tOp (rIxL K) (tVar 5) (tC (.int 0)))) [10]) tNil))) (tRet (tC (.bl false))) tNext)
    (tAsg (tOp (rIxT K) (tVar 4) (tOp (rIxT K) (tOp (rIxL K) (tVar 5) (tC (.int 0))) (tC (.int 0)))) (gName 0)))))))
    (tRet (tC (.bl false))))))
theorem d_is_wish_ring {P : Program} {w : World} {K : PySem.W.Frag} {mg : Str → Option Value} {base : Heap} {k : Nat} (T : Tp K mg) (C_is_thing : Cal P w K mg base k "is_thing" ["tree"] pre_is_thing) (C_index_with : Cal P w K mg base k "index_with" ["parts", "thing"] pre_index_with) (C_check_wishes : Cal P w K mg base k "check_wishes" ["tree", "wishes"] pre_check_wishes) {f : Addr} {cdv : Value} {Aa : Around} {outer : List Env} {s : Shared} {H0 : Hp} {E : XK}
    (hr : Room k (Aa.deeper (PyProof.Rows.envOfC "is_wish_ring" (defScope s_is_wish_ring) s.heap.objs.size f cdv))) :
    PSs (cxOf CX0 P w K mg base N_is_wish_ring "is_wish_ring" (defScope s_is_wish_ring) f cdv Aa outer s H0 E).nox (defBody s_is_wish_ring) (t_is_wish_ring K) := by
  have S := sc_is_wish_ring
  exact (pss_cons (ps_expr (pe_cal C_check_wishes hr (by rfl) (pa_cons (pv 0) (pa_cons (pv 1) pa_nil))))
    (pss_cons (ps_if (PW.pt (pw_or (pt_cmpR op_eq (pe_callB call_len_seq (by rfl) T.b_len (by decide +kernel) (pa_cons (pv 2) pa_nil)) pe_int (nomark _)) (pw_or1 (pt_not (pt_val (pe_callB (cr_all rfl) (by rfl) T.b_all (by decide +kernel) (pa_cons (pe_lc (own := [("index", 6)]) (g := (gName 6)) (tt := tYes) (te := (tChain qLe qLt (tC (.int 0)) (tVar 6) (tCB (qLen K) (tCons (tVar 1) tNil)))) (by rfl) S.nd (pi_tup (pv 2)) (blkOk_by (N := N_is_wish_ring) (sc := defScope s_is_wish_ring) (by decide +kernel)) (fun _ _ _ _ _ => (pg_name (i := 6) S.nd rfl (by first | exact Or.inl rfl | exact Or.inr rfl))) (fun _ _ _ _ _ => pts_nil) (fun _ _ _ _ _ => (pe_chain op_le op_lt pe_int (pv 6) (pe_callB call_len_seq (by rfl) T.b_len (by decide +kernel) (pa_cons (pv 1) pa_nil))))) pa_nil))))))) (pss_one (ps_ret pe_bl)) pss_nil)
    (pss_cons (ps_while PassesOwn.never (pt_not (pt_val (pe_cal C_is_thing hr (by rfl) (pa_cons (pv 0) pa_nil)))) (pss_cons (ps_asg (pv 0) (pg_tup rfl (pgs_cons (pg_name (i := 3) S.nd rfl (by first | exact Or.inl rfl | exact Or.inr rfl)) (pgs_cons (pg_name (i := 4) S.nd rfl (by first | exact Or.inl rfl | exact Or.inr rfl)) pgs_nil))))
    (pss_cons (ps_set (i := 5) S.nd rfl (by first | exact Or.inl rfl | exact Or.inr rfl) (pe_lc (own := [("index", 6)]) (g := (gName 6)) (tt := tYes) (te := (tTup (tCons (tCall (spec K pre_index_with) [] E0 (tCons (tVar 4) (tCons (tOp (rIxT K) (tOp (rIxT K) (tVar 1) (tVar 6)) (tC (.int 0))) tNil))) (tCons (tCall (spec K pre_index_with) [] E0 (tCons (tVar 4) (tCons (tOp (rIxT K) (tOp (rIxT K) (tVar 1) (tVar 6)) (tC (.int 1))) tNil))) tNil)))) (by rfl) S.nd (pi_tup (pv 2)) (blkOk_by (N := N_is_wish_ring) (sc := defScope s_is_wish_ring) (by decide +kernel)) (fun _ _ _ _ _ => (pg_name (i := 6) S.nd rfl (by first | exact Or.inl rfl | exact Or.inr rfl))) (fun _ _ _ _ _ => pts_nil) (fun _ _ _ _ _ => (pe_tup (pa_cons (pe_cal C_index_with hr (by rfl) (pa_cons (pv 4) (pa_cons (pe_ix ix_tup (pe_ix ix_tup (pv 1) (pv 6) (fun _ _ => rfl)) pe_int (fun _ _ => rfl)) pa_nil))) (pa_cons (pe_cal C_index_with hr (by rfl) (pa_cons (pv 4) (pa_cons (pe_ix ix_tup (pe_ix ix_tup (pv 1) (pv 6) (fun _ _ => rfl)) pe_int (fun _ _ => rfl)) pa_nil))) pa_nil))))))
    (pss_cons (ps_if (pt_val (pe_callB (cr_any rfl) (by rfl) T.b_any (by decide +kernel) (pa_cons (pe_lc (own := [("i", 7), ("j", 8)]) (g := (gTup K 2 (gCons (gName 7) (gCons (gName 8) gNil)))) (tt := tYes) (te := (tOp rNe (tVar 7) (tVar 8))) (by rfl) S.nd (pi_list (pv 5)) (blkOk_by (N := N_is_wish_ring) (sc := defScope s_is_wish_ring) (by decide +kernel)) (fun _ _ _ _ _ => (pg_tup rfl (pgs_cons (pg_name (i := 7) S.nd rfl (by first | exact Or.inl rfl | exact Or.inr rfl)) (pgs_cons (pg_name (i := 8) S.nd rfl (by first | exact Or.inl rfl | exact Or.inr rfl)) pgs_nil)))) (fun _ _ _ _ _ => pts_nil) (fun _ _ _ _ _ => (pe_cmpR op_ne (pv 7) (pv 8) (nomark _)))) pa_nil))) (pss_cons (ps_if (pt_not (pt_val (pe_callB (cr_all rfl) (by rfl) T.b_all (by decide +kernel) (pa_cons (pe_lc (own := [("i", 7), ("j", 8)]) (g := (gTup K 2 (gCons (gName 7) (gCons (gName 8) gNil)))) (tt := tYes) (te := (tOp rNe (tVar 7) (tVar 8))) (by rfl) S.nd (pi_list (pv 5)) (blkOk_by (N := N_is_wish_ring) (sc := defScope s_is_wish_ring) (by decide +kernel)) (fun _ _ _ _ _ => (pg_tup rfl (pgs_cons (pg_name (i := 7) S.nd rfl (by first | exact Or.inl rfl | exact Or.inr rfl)) (pgs_cons (pg_name (i := 8) S.nd rfl (by first | exact Or.inl rfl | exact Or.inr rfl)) pgs_nil)))) (fun _ _ _ _ _ => pts_nil) (fun _ _ _ _ _ => (pe_cmpR op_ne (pv 7) (pv 8) (nomark _)))) pa_nil)))) (pss_one (ps_ret pe_bl)) pss_nil)
    (pss_cons (ps_if (pt_cmpR op_eq (pv 3) pe_str (nomark _)) (pss_one (ps_ret (pe_and (pe_cmpR op_eq (pe_callB call_len_seq (by rfl) T.b_len (by decide +kernel) (pa_cons (pv 5) pa_nil)) pe_int (nomark _)) (pe_one (pe_cmpR op_ne (pe_cmpR op_lt (pe_ix ix_tup (pe_ix ix_list (pv 5) pe_int (fun _ _ => rfl)) pe_int (fun _ _ => rfl)) (pe_ix ix_tup (pe_ix ix_list (pv 5) pe_int (fun _ _ => rfl)) pe_int (fun _ _ => rfl)) (nomark _)) (pe_cmpR op_lt (pe_ix ix_tup (pe_ix ix_list (pv 5) pe_int (fun _ _ => rfl)) pe_int (fun _ _ => rfl)) (pe_ix ix_tup (pe_ix ix_list (pv 5) pe_int (fun _ _ => rfl)) pe_int (fun _ _ => rfl)) (nomark _)) (nomark _)))))) pss_nil)
    (pss_one (ps_ret (pe_callB (cr_all rfl) (by rfl) T.b_all (by decide +kernel) (pa_cons (pe_lc (own := [("k", 9)]) (g := (gName 9)) (tt := tYes) (te := (tOp rEq (tOp (rIxT K) (tOp (rIxL K) (tVar 5) (tOp qSub (tVar 9) (tC (.int 1)))) (tC (.int 1))) (tOp (rIxT K) (tOp (rIxL K) (tVar 5) (tVar 9)) (tC (.int 0))))) (by rfl) S.nd (pi_range1 (by rfl) T.b_range (pa_cons (pe_callB call_len_seq (by rfl) T.b_len (by decide +kernel) (pa_cons (pv 5) pa_nil)) pa_nil)) (blkOk_by (N := N_is_wish_ring) (sc := defScope s_is_wish_ring) (by decide +kernel)) (fun _ _ _ _ _ => (pg_name (i := 9) S.nd rfl (by first | exact Or.inl rfl | exact Or.inr rfl))) (fun _ _ _ _ _ => pts_nil) (fun _ _ _ _ _ => (pe_cmpR op_eq (pe_ix ix_tup (pe_ix ix_list (pv 5) (pe_op op_sub (pv 9) pe_int) (fun _ _ => rfl)) pe_int (fun _ _ => rfl)) (pe_ix ix_tup (pe_ix ix_list (pv 5) (pv 9) (fun _ _ => rfl)) pe_int (fun _ _ => rfl)) (nomark _)))) pa_nil)))))) pss_nil)
    (pss_cons (ps_if (pt_val (pe_callB (cr_any rfl) (by rfl) T.b_any (by decide +kernel) (pa_cons (pe_lc (own := [("step", 10)]) (g := (gName 10)) (tt := tYes) (te := (tOp (rNeD K) (tVar 10) (tOp (rIxL K) (tVar 5) (tC (.int 0))))) (by rfl) S.nd (pi_list (pv 5)) (blkOk_by (N := N_is_wish_ring) (sc := defScope s_is_wish_ring) (by decide +kernel)) (fun _ _ _ _ _ => (pg_name (i := 10) S.nd rfl (by first | exact Or.inl rfl | exact Or.inr rfl))) (fun _ _ _ _ _ => pts_nil) (fun _ _ _ _ _ => (pe_cmpR (op_neD (hu64 hr)) (pv 10) (pe_ix ix_list (pv 5) pe_int (fun _ _ => rfl)) (nomark _)))) pa_nil))) (pss_one (ps_ret pe_bl)) pss_nil)
    (pss_one (ps_set (i := 0) S.nd rfl (by first | exact Or.inl rfl | exact Or.inr rfl) (pe_ix ix_tup (pv 4) (pe_ix ix_tup (pe_ix ix_list (pv 5) pe_int (fun _ _ => rfl)) pe_int (fun _ _ => rfl)) (fun _ _ => rfl)))))))))
    (pss_one (ps_ret pe_bl)))))
/-! ### _law_cell: 0 _law_script, 1 _law_k -/
abbrev s__law_cell : Stmt := topS 36
abbrev N__law_cell : List Str := ["_law_script", "_law_k"]
theorem sc__law_cell : FnScope N__law_cell ["_law_script", "_law_k"] (defScope s__law_cell) := ⟨rfl, rfl, rfl, by decide +kernel, rfl, by decide +kernel, by decide +kernel⟩
def t__law_cell (K : PySem.W.Frag) : TS :=
    (tSeq (tIfS (tTest (tOp qLt (tVar 1) (tCB (qLen K) (tCons (tVar 0) tNil)))) (tRet (tOp (rIxL K) (tVar 0) (tVar 1))) tNext)
    (tRet (tC (.int 0))))
theorem d__law_cell {P : Program} {w : World} {K : PySem.W.Frag} {mg : Str → Option Value} {base : Heap} {k : Nat} (T : Tp K mg) {f : Addr} {cdv : Value} {Aa : Around} {outer : List Env} {s : Shared} {H0 : Hp} {E : XK}
    (hr : Room k (Aa.deeper (PyProof.Rows.envOfC "_law_cell" (defScope s__law_cell) s.heap.objs.size f cdv))) :
    PSs (cxOf CX0 P w K mg base N__law_cell "_law_cell" (defScope s__law_cell) f cdv Aa outer s H0 E).nox (defBody s__law_cell) (t__law_cell K) := by
  have S := sc__law_cell
  exact (pss_cons (ps_if (pt_cmpR op_lt (pv 1) (pe_callB call_len_seq (by rfl) T.b_len (by decide +kernel) (pa_cons (pv 0) pa_nil)) (nomark _)) (pss_one (ps_ret (pe_ix ix_list (pv 0) (pv 1) (fun _ _ => rfl)))) pss_nil)
    (pss_one (ps_ret pe_int)))
/-! ### _law_digits: 0 _law_cell_here, 1 _law_sizes, 2 _law_row, 3 _law_size -/
abbrev s__law_digits : Stmt := topS 37
abbrev N__law_digits : List Str := ["_law_cell_here", "_law_sizes", "_law_row", "_law_size"]
theorem sc__law_digits : FnScope N__law_digits ["_law_cell_here", "_law_sizes"] (defScope s__law_digits) := ⟨rfl, rfl, rfl, by decide +kernel, rfl, by decide +kernel, by decide +kernel⟩
def t__law_digits (K : PySem.W.Frag) : TS :=
    (tSeq (tAsg (tLst tNil) (gName 2))
    (tSeq (tFor (iList K (tVar 1)) (gName 3) (tSeq (tDrop (tBM K "list" rAppend (tVar 2) (tCons (tOp qMod (tCB qInt (tCons (tVar 0) tNil)) (tVar 3)) tNil)))
    (tAsg (tOp qFdiv (tVar 0) (tVar 3)) (gName 0))))
    (tRet (tVar 2))))
theorem d__law_digits {P : Program} {w : World} {K : PySem.W.Frag} {mg : Str → Option Value} {base : Heap} {k : Nat} (T : Tp K mg) {f : Addr} {cdv : Value} {Aa : Around} {outer : List Env} {s : Shared} {H0 : Hp} {E : XK}
    (hr : Room k (Aa.deeper (PyProof.Rows.envOfC "_law_digits" (defScope s__law_digits) s.heap.objs.size f cdv))) :
    PSs (cxOf CX0 P w K mg base N__law_digits "_law_digits" (defScope s__law_digits) f cdv Aa outer s H0 E).nox (defBody s__law_digits) (t__law_digits K) := by
  have S := sc__law_digits
  exact (pss_cons (ps_set (i := 2) S.nd rfl (by first | exact Or.inl rfl | exact Or.inr rfl) (pe_lst pa_nil))
    (pss_cons (ps_for PassesOwn.never rfl (pi_list (pv 1)) (pg_name (i := 3) S.nd rfl (by first | exact Or.inl rfl | exact Or.inr rfl)) (pss_cons (ps_expr (pe_bm PySem.F.plainAttrs_list PySem.F.slot_list_append PySem.F.type_list_append mt_append (pv 2) (pa_cons (pe_op op_modN (pe_callTy call_int1 (by rfl) T.b_int (by decide +kernel) (pa_cons (pv 0) pa_nil)) (pv 3)) pa_nil)))
    (pss_one (ps_set (i := 0) S.nd rfl (by first | exact Or.inl rfl | exact Or.inr rfl) (pe_op op_fdivN (pv 0) (pv 3))))))
    (pss_one (ps_ret (pv 2)))))
/-! ### _law_rich: 0 _law_cell_here, 1 _law_low, 2 _law_high -/
abbrev s__law_rich : Stmt := topS 38
abbrev N__law_rich : List Str := ["_law_cell_here", "_law_low", "_law_high"]
theorem sc__law_rich : FnScope N__law_rich ["_law_cell_here"] (defScope s__law_rich) := ⟨rfl, rfl, rfl, by decide +kernel, rfl, by decide +kernel, by decide +kernel⟩
def t__law_rich (K : PySem.W.Frag) : TS :=
    (tSeq (tIfS (tTest (tOp qGe (tVar 0) (tOp qPow (tC (.int 10)) (tC (.int 18))))) (tRet (tVar 0)) tNext)
    (tSeq (tAsg (tOp qMod (tCB qInt (tCons (tOp qAdd (tOp qMul (tVar 0) (tC (.int 48271))) (tC (.int 11))) tNil)) (tC (.int 2147483647))) (gName 1))
    (tSeq (tAsg (tOp qMod (tCB qInt (tCons (tOp qAdd (tOp qAdd (tOp qMul (tVar 1) (tC (.int 69621))) (tOp qFdiv (tVar 0) (tC (.int 7)))) (tC (.int 5))) tNil)) (tC (.int 2147483629))) (gName 2))
    (tRet (tOp qAdd (tOp qMul (tVar 1) (tC (.int 2147483629))) (tVar 2))))))
theorem d__law_rich {P : Program} {w : World} {K : PySem.W.Frag} {mg : Str → Option Value} {base : Heap} {k : Nat} (T : Tp K mg) {f : Addr} {cdv : Value} {Aa : Around} {outer : List Env} {s : Shared} {H0 : Hp} {E : XK}
    (hr : Room k (Aa.deeper (PyProof.Rows.envOfC "_law_rich" (defScope s__law_rich) s.heap.objs.size f cdv))) :
    PSs (cxOf CX0 P w K mg base N__law_rich "_law_rich" (defScope s__law_rich) f cdv Aa outer s H0 E).nox (defBody s__law_rich) (t__law_rich K) := by
  have S := sc__law_rich
  exact (pss_cons (ps_if (pt_cmpR op_ge (pv 0) (pe_op op_pow pe_int pe_int) (nomark _)) (pss_one (ps_ret (pv 0))) pss_nil)
    (pss_cons (ps_set (i := 1) S.nd rfl (by first | exact Or.inl rfl | exact Or.inr rfl) (pe_op op_modN (pe_callTy call_int1 (by rfl) T.b_int (by decide +kernel) (pa_cons (pe_op op_add (pe_op op_mul (pv 0) pe_int) pe_int) pa_nil)) pe_int))
    (pss_cons (ps_set (i := 2) S.nd rfl (by first | exact Or.inl rfl | exact Or.inr rfl) (pe_op op_modN (pe_callTy call_int1 (by rfl) T.b_int (by decide +kernel) (pa_cons (pe_op op_add (pe_op op_add (pe_op op_mul (pv 1) pe_int) (pe_op op_fdivN (pv 0) pe_int)) pe_int) pa_nil)) pe_int))
    (pss_one (ps_ret (pe_op op_add (pe_op op_mul (pv 1) pe_int) (pv 2)))))))
/-! ### _law_order: 0 _law_cell_here, 1 _law_n, 2 _law_left, 3 _law_rest, 4 _law_order_here, 5 _law_k, 6 _law_thing -/
abbrev s__law_order : Stmt := topS 39
abbrev N__law_order : List Str := ["_law_cell_here", "_law_n", "_law_left", "_law_rest", "_law_order_here", "_law_k", "_law_thing"]
theorem sc__law_order : FnScope N__law_order ["_law_cell_here", "_law_n"] (defScope s__law_order) := ⟨rfl, rfl, rfl, by decide +kernel, rfl, by decide +kernel, by decide +kernel⟩
def t__law_order (K : PySem.W.Frag) : TS :=
    (tSeq (tAsg (tLc (iRng1 (tCons (tVar 1) tNil)) (gName 6) tYes (tVar 6) [6]) (gName 2))
    (tSeq (tAsg (tCall (spec K pre_rich) [] E0 (tCons (tVar 0) tNil)) (gName 3))
    (tSeq (tAsg (tLst tNil) (gName 4))
    (tSeq (tFor (iRng1 (tCons (tVar 1) tNil)) (gName 5) (tSeq (tDrop (tBM K "list" rAppend (tVar 4) (tCons (tBM K "list" rPopAt (tVar 2) (tCons (tOp qMod (tCB qInt (tCons (tVar 3) tNil)) (tOp qSub (tVar 1) (tVar 5))) tNil)) tNil)))
    (tSeq (tAsg (tOp qFdiv (tVar 3) (tOp qSub (tVar 1) (tVar 5))) (gName 3))
    (tIfS (tTest (tOp rEq (tVar 3) (tC (.int 0)))) (tAsg (tCall (spec K pre_rich) [] E0 (tCons (tOp qAdd (tOp qAdd (tVar 0) (tVar 5)) (tC (.int 1))) tNil)) (gName 3)) tNext))))
    (tRet (tCB (qTuple K) (tCons (tVar 4) tNil)))))))
theorem d__law_order {P : Program} {w : World} {K : PySem.W.Frag} {mg : Str → Option Value} {base : Heap} {k : Nat} (T : Tp K mg) (C__law_rich : Cal P w K mg base k "_law_rich" ["_law_cell_here"] pre_rich) {f : Addr} {cdv : Value} {Aa : Around} {outer : List Env} {s : Shared} {H0 : Hp} {E : XK}
    (hr : Room k (Aa.deeper (PyProof.Rows.envOfC "_law_order" (defScope s__law_order) s.heap.objs.size f cdv))) :
    PSs (cxOf CX0 P w K mg base N__law_order "_law_order" (defScope s__law_order) f cdv Aa outer s H0 E).nox (defBody s__law_order) (t__law_order K) := by
  have S := sc__law_order
  exact (pss_cons (ps_setLc (i := 2) (own := [("_law_thing", 6)]) (g := (gName 6)) (tt := tYes) (te := (tVar 6)) (by rfl) S.nd rfl rfl (sw_true rfl rfl rfl (by decide +kernel)) (pi_range1 (by rfl) T.b_range (pa_cons (pv 1) pa_nil)) (blkOk_by (N := N__law_order) (sc := defScope s__law_order) (by decide +kernel)) (fun _ _ _ _ _ => (pg_name (i := 6) S.nd rfl (by first | exact Or.inl rfl | exact Or.inr rfl))) (fun _ _ _ _ _ => pts_nil) (fun _ _ _ _ _ => (pv 6)))
    (pss_cons (ps_set (i := 3) S.nd rfl (by first | exact Or.inl rfl | exact Or.inr rfl) (pe_cal C__law_rich hr (by rfl) (pa_cons (pv 0) pa_nil)))
    (pss_cons (ps_set (i := 4) S.nd rfl (by first | exact Or.inl rfl | exact Or.inr rfl) (pe_lst pa_nil))
    (pss_cons (ps_for PassesOwn.never rfl (pi_range1 (by rfl) T.b_range (pa_cons (pv 1) pa_nil)) (pg_name (i := 5) S.nd rfl (by first | exact Or.inl rfl | exact Or.inr rfl)) (pss_cons (ps_expr (pe_bm PySem.F.plainAttrs_list PySem.F.slot_list_append PySem.F.type_list_append mt_append (pv 4) (pa_cons (pe_bm PySem.F.plainAttrs_list PySem.F.slot_list_pop PySem.F.type_list_pop mt_popAt (pv 2) (pa_cons (pe_op op_modN (pe_callTy call_int1 (by rfl) T.b_int (by decide +kernel) (pa_cons (pv 3) pa_nil)) (pe_op op_sub (pv 1) (pv 5))) pa_nil)) pa_nil)))
    (pss_cons (ps_set (i := 3) S.nd rfl (by first | exact Or.inl rfl | exact Or.inr rfl) (pe_op op_fdivN (pv 3) (pe_op op_sub (pv 1) (pv 5))))
    (pss_one (ps_if (pt_cmpR op_eq (pv 3) pe_int (nomark _)) (pss_one (ps_set (i := 3) S.nd rfl (by first | exact Or.inl rfl | exact Or.inr rfl) (pe_cal C__law_rich hr (by rfl) (pa_cons (pe_op op_add (pe_op op_add (pv 0) (pv 5)) pe_int) pa_nil)))) pss_nil)))))
    (pss_one (ps_ret (pe_callTy call_tuple_of (by rfl) T.b_tuple (by decide +kernel) (pa_cons (pv 4) pa_nil))))))))
/-! ### _law_things: 0 _law_tree_here, 1 _law_found, 2 _law_part -/
abbrev s__law_things : Stmt := topS 40
abbrev N__law_things : List Str := ["_law_tree_here", "_law_found", "_law_part"]
theorem sc__law_things : FnScope N__law_things ["_law_tree_here"] (defScope s__law_things) := ⟨rfl, rfl, rfl, by decide +kernel, rfl, by decide +kernel, by decide +kernel⟩
def t__law_things (K : PySem.W.Frag) (m__law_things : Nat) : TS :=
    (tSeq (tIfS (tB (tCB (rIsi K) (tCons (tVar 0) (tCons (tC (.ty "int")) tNil)))) (tRet (tLst (tCons (tVar 0) tNil))) tNext)
    (tSeq (tAsg (tLst tNil) (gName 1))
    (tSeq (tFor (iTup K (tOp (rIxT K) (tVar 0) (tC (.int 1)))) (gName 2) (tAsg (tOp rCat (tVar 1) (tCall (spec K (pre_things m__law_things)) [] E0 (tCons (tVar 2) tNil))) (gName 1)))
    (tRet (tVar 1)))))
theorem d__law_things {P : Program} {w : World} {K : PySem.W.Frag} {mg : Str → Option Value} {base : Heap} {k : Nat} {m__law_things : Nat} (T : Tp K mg) (C__law_things : Cal P w K mg base k "_law_things" ["_law_tree_here"] (pre_things m__law_things)) {f : Addr} {cdv : Value} {Aa : Around} {outer : List Env} {s : Shared} {H0 : Hp} {E : XK}
    (hr : Room k (Aa.deeper (PyProof.Rows.envOfC "_law_things" (defScope s__law_things) s.heap.objs.size f cdv))) :
    PSs (cxOf CX0 P w K mg base N__law_things "_law_things" (defScope s__law_things) f cdv Aa outer s H0 E).nox (defBody s__law_things) (t__law_things K m__law_things) := by
  have S := sc__law_things
  exact (pss_cons (ps_if (pt_val (pe_callB call_isi (by rfl) T.b_isinstance (by decide +kernel) (pa_cons (pv 0) (pa_cons (pe_bltn (v := .ty "int") (by rfl) T.b_int PyProof.Rows.boot_int rfl) pa_nil)))) (pss_one (ps_ret (pe_lst (pa_cons (pv 0) pa_nil)))) pss_nil)
    (pss_cons (ps_set (i := 1) S.nd rfl (by first | exact Or.inl rfl | exact Or.inr rfl) (pe_lst pa_nil))
    (pss_cons (ps_for PassesOwn.never rfl (pi_tup (pe_ix ix_tup (pv 0) pe_int (fun _ _ => rfl))) (pg_name (i := 2) S.nd rfl (by first | exact Or.inl rfl | exact Or.inr rfl)) (pss_one (ps_set (i := 1) S.nd rfl (by first | exact Or.inl rfl | exact Or.inr rfl) (pe_op op_cat (pv 1) (pe_cal C__law_things hr (by rfl) (pa_cons (pv 2) pa_nil))))))
    (pss_one (ps_ret (pv 1))))))
/-! ### _law_told: 0 _law_tree_here, 1 _law_order_here, 2 _law_rest, 3 _law_sequence, 4 _law_step, 5 _law_k, 6 _law_size -/
abbrev s__law_told : Stmt := topS 41
abbrev N__law_told : List Str := ["_law_tree_here", "_law_order_here", "_law_rest", "_law_sequence", "_law_step", "_law_k", "_law_size"]
theorem sc__law_told : FnScope N__law_told ["_law_tree_here", "_law_order_here"] (defScope s__law_told) := ⟨rfl, rfl, rfl, by decide +kernel, rfl, by decide +kernel, by decide +kernel⟩
def t__law_told (K : PySem.W.Frag) (m__law_things : Nat) (m__law_told : Nat) : TS :=
    (tSeq (tIfS (tB (tCB (rIsi K) (tCons (tVar 0) (tCons (tC (.ty "int")) tNil)))) (tRet (tOp (rEqD K) (tCB (qTuple K) (tCons (tVar 1) tNil)) (tTup (tCons (tVar 0) tNil)))) tNext)
    (tSeq (tAsg (tCB (qTuple K) (tCons (tVar 1) tNil)) (gName 2))
    (tSeq (tAsg (tLst tNil) (gName 3))
    (tSeq (tFor (iRng1 (tCons (tCB (qLen K) (tCons (tOp (rIxT K) (tVar 0) (tC (.int 1))) tNil)) tNil)) (gName 4) (tFor (iRng1 (tCons (tCB (qLen K) (tCons (tOp (rIxT K) (tVar 0) (tC (.int 1))) tNil)) tNil)) (gName 5) (tSeq (tAsg (tCB (qLen K) (tCons (tCall (spec K (pre_things m__law_things)) [] E0 (tCons (tOp (rIxT K) (tOp (rIxT K) (tVar 0) (tC (.int 1))) (tVar 5)) tNil)) tNil)) (gName 6))
    (tIfS (tAnd (tTest (tOp (rIn K true) (tVar 5) (tVar 3))) (tTest (tOp (rEqD K) (tCB (rSortTup K) (tCons (L2.tSl (rSlA K) (tVar 2) tNoPart (tPart (tVar 6))) tNil)) (tCB (rSortedI K) (tCons (tCall (spec K (pre_things m__law_things)) [] E0 (tCons (tOp (rIxT K) (tOp (rIxT K) (tVar 0) (tC (.int 1))) (tVar 5)) tNil)) tNil))))) (tSeq (tIfS (tNot (tB (tCall (spec K (pre_told m__law_told)) [] E0 (tCons (tOp (rIxT K) (tOp (rIxT K) (tVar 0) (tC (.int 1))) (tVar 5)) (tCons (L2.tSl (rSlA K) (tVar 2) tNoPart (tPart (tVar 6))) tNil))))) (tRet (tC (.bl false))) tNext)
    (tSeq (tDrop (tBM K "list" rAppend (tVar 3) (tCons (tVar 5) tNil)))
    (tSeq (tAsg (L2.tSl (rSlA K) (tVar 2) (tPart (tVar 6)) tNoPart) (gName 2))
    tBreak))) tNext))))
    (tSeq (tIfS (tOr (tTest (tOp qLt (tCB (qLen K) (tCons (tVar 3) tNil)) (tCB (qLen K) (tCons (tOp (rIxT K) (tVar 0) (tC (.int 1))) tNil)))) (tTest (tOp qGt (tCB (qLen K) (tCons (tVar 2) tNil)) (tC (.int 0))))) (tRet (tC (.bl false))) tNext)
    (tRet (tOrV (tOp rEq (tOp (rIxT K) (tVar 0) (tC (.int 0))) (tC (.str "any"))) (tOrV (tOp (rEqD K) (tVar 3) (tCB (rSortedI K) (tCons (tVar 3) tNil))) (tOp (rEqD K) (tVar 3) (tRevL K (tCB (rSortedI K) (tCons (tVar 3) tNil))))))))))))
theorem d__law_told {P : Program} {w : World} {K : PySem.W.Frag} {mg : Str → Option Value} {base : Heap} {k : Nat} {m__law_things : Nat} {m__law_told : Nat} (T : Tp K mg) (C__law_things : Cal P w K mg base k "_law_things" ["_law_tree_here"] (pre_things m__law_things)) (C__law_told : Cal P w K mg base k "_law_told" ["_law_tree_here", "_law_order_here"] (pre_told m__law_told)) {f : Addr} {cdv : Value} {Aa : Around} {outer : List Env} {s : Shared} {H0 : Hp} {E : XK}
    (hr : Room k (Aa.deeper (PyProof.Rows.envOfC "_law_told" (defScope s__law_told) s.heap.objs.size f cdv))) :
    PSs (cxOf CX0 P w K mg base N__law_told "_law_told" (defScope s__law_told) f cdv Aa outer s H0 E).nox (defBody s__law_told) (t__law_told K m__law_things m__law_told) := by
  have S := sc__law_told
  exact (pss_cons (ps_if (pt_val (pe_callB call_isi (by rfl) T.b_isinstance (by decide +kernel) (pa_cons (pv 0) (pa_cons (pe_bltn (v := .ty "int") (by rfl) T.b_int PyProof.Rows.boot_int rfl) pa_nil)))) (pss_one (ps_ret (pe_cmpR (op_eqD (hu64 hr)) (pe_callTy call_tuple_of (by rfl) T.b_tuple (by decide +kernel) (pa_cons (pv 1) pa_nil)) (pe_tup (pa_cons (pv 0) pa_nil)) (nomark _)))) pss_nil)
    (pss_cons (ps_set (i := 2) S.nd rfl (by first | exact Or.inl rfl | exact Or.inr rfl) (pe_callTy call_tuple_of (by rfl) T.b_tuple (by decide +kernel) (pa_cons (pv 1) pa_nil)))
    (pss_cons (ps_set (i := 3) S.nd rfl (by first | exact Or.inl rfl | exact Or.inr rfl) (pe_lst pa_nil))
    (pss_cons (ps_for PassesOwn.never rfl (pi_range1 (by rfl) T.b_range (pa_cons (pe_callB call_len_seq (by rfl) T.b_len (by decide +kernel) (pa_cons (pe_ix ix_tup (pv 0) pe_int (fun _ _ => rfl)) pa_nil)) pa_nil)) (pg_name (i := 4) S.nd rfl (by first | exact Or.inl rfl | exact Or.inr rfl)) (pss_one (ps_for PassesOwn.never rfl (pi_range1 (by rfl) T.b_range (pa_cons (pe_callB call_len_seq (by rfl) T.b_len (by decide +kernel) (pa_cons (pe_ix ix_tup (pv 0) pe_int (fun _ _ => rfl)) pa_nil)) pa_nil)) (pg_name (i := 5) S.nd rfl (by first | exact Or.inl rfl | exact Or.inr rfl)) (pss_cons (ps_set (i := 6) S.nd rfl (by first | exact Or.inl rfl | exact Or.inr rfl) (pe_callB call_len_seq (by rfl) T.b_len (by decide +kernel) (pa_cons (pe_cal C__law_things hr (by rfl) (pa_cons (pe_ix ix_tup (pe_ix ix_tup (pv 0) pe_int (fun _ _ => rfl)) (pv 5) (fun _ _ => rfl)) pa_nil)) pa_nil)))
    (pss_one (ps_if (PW.pt (pw_and (pt_cmpR op_notIn_seq (pv 5) (pv 3) (by rfl)) (pw_and1 (pt_cmpR (op_eqD (hu64 hr)) (pe_callB cr_sortTup (by rfl) T.b_sorted (by decide +kernel) (pa_cons (pe_slice sl_tupA (pv 2) po_none (po_some (pv 6))) pa_nil)) (pe_callB cr_sortedI (by rfl) T.b_sorted (by decide +kernel) (pa_cons (pe_cal C__law_things hr (by rfl) (pa_cons (pe_ix ix_tup (pe_ix ix_tup (pv 0) pe_int (fun _ _ => rfl)) (pv 5) (fun _ _ => rfl)) pa_nil)) pa_nil)) (nomark _))))) (pss_cons (ps_if (pt_not (pt_val (pe_cal C__law_told hr (by rfl) (pa_cons (pe_ix ix_tup (pe_ix ix_tup (pv 0) pe_int (fun _ _ => rfl)) (pv 5) (fun _ _ => rfl)) (pa_cons (pe_slice sl_tupA (pv 2) po_none (po_some (pv 6))) pa_nil))))) (pss_one (ps_ret pe_bl)) pss_nil)
    (pss_cons (ps_expr (pe_bm PySem.F.plainAttrs_list PySem.F.slot_list_append PySem.F.type_list_append mt_append (pv 3) (pa_cons (pv 5) pa_nil)))
    (pss_cons (ps_set (i := 2) S.nd rfl (by first | exact Or.inl rfl | exact Or.inr rfl) (pe_slice sl_tupA (pv 2) (po_some (pv 6)) po_none))
    (pss_one ps_break)))) pss_nil))))))
    (pss_cons (ps_if (PW.pt (pw_or (pt_cmpR op_lt (pe_callB call_len_seq (by rfl) T.b_len (by decide +kernel) (pa_cons (pv 3) pa_nil)) (pe_callB call_len_seq (by rfl) T.b_len (by decide +kernel) (pa_cons (pe_ix ix_tup (pv 0) pe_int (fun _ _ => rfl)) pa_nil)) (nomark _)) (pw_or1 (pt_cmpR op_gt (pe_callB call_len_seq (by rfl) T.b_len (by decide +kernel) (pa_cons (pv 2) pa_nil)) pe_int (nomark _))))) (pss_one (ps_ret pe_bl)) pss_nil)
    (pss_one (ps_ret (pe_or (pe_cmpR op_eq (pe_ix ix_tup (pv 0) pe_int (fun _ _ => rfl)) pe_str (nomark _)) (pe_or (pe_cmpR (op_eqD (hu64 hr)) (pv 3) (pe_callB cr_sortedI (by rfl) T.b_sorted (by decide +kernel) (pa_cons (pv 3) pa_nil)) (nomark _)) (pe_one (pe_cmpR (op_eqD (hu64 hr)) (pv 3) (pe_revL (pe_callB cr_sortedI (by rfl) T.b_sorted (by decide +kernel) (pa_cons (pv 3) pa_nil))) (nomark _))))))))))))
/-! ### _law_tree: 0 _law_cell_here, 1 _law_n, 2 _law_parts, 3 _law_rest, 4 _law_step, 5 _law_size, 6 _law_at, 7 _law_chosen, 8 _law_word -/
abbrev s__law_tree : Stmt := topS 42
abbrev N__law_tree : List Str := ["_law_cell_here", "_law_n", "_law_parts", "_law_rest", "_law_step", "_law_size", "_law_at", "_law_chosen", "_law_word"]
theorem sc__law_tree : FnScope N__law_tree ["_law_cell_here", "_law_n"] (defScope s__law_tree) := ⟨rfl, rfl, rfl, by decide +kernel, rfl, by decide +kernel, by decide +kernel⟩
def t__law_tree (K : PySem.W.Frag) : TS :=
    (tSeq (tAsg (tCB (qList K) (tCons (tCall (spec K pre_order) [] E0 (tCons (tVar 0) (tCons (tVar 1) tNil))) tNil)) (gName 2))
    (tSeq (tAsg (tCall (spec K pre_rich) [] E0 (tCons (tOp qAdd (tOp qFdiv (tVar 0) (tC (.int 3))) (tC (.int 7))) tNil)) (gName 3))
    (tSeq (tFor (iRng1 (tCons (tC (.int 30)) tNil)) (gName 4) (tSeq (tIfS (tTest (tOp qLt (tCB (qLen K) (tCons (tVar 2) tNil)) (tC (.int 2)))) tBreak tNext)
    (tSeq (tAsg (tOp qAdd (tC (.int 2)) (tOp qMod (tCB qInt (tCons (tVar 3) tNil)) (tC (.int 4)))) (gName 5))
    (tSeq (tIfS (tTest (tOp rEq (tOp qMod (tCB qInt (tCons (tOp qFdiv (tVar 3) (tC (.int 1024))) tNil)) (tC (.int 8))) (tC (.int 5)))) (tAsg (tC (.int 24)) (gName 5)) tNext)
    (tSeq (tAsg (tOp qMod (tCB qInt (tCons (tOp qFdiv (tVar 3) (tC (.int 4))) tNil)) (tCB (qLen K) (tCons (tVar 2) tNil))) (gName 6))
    (tSeq (tAsg (L2.tSl (rSlL K) (tVar 2) (tPart (tVar 6)) (tPart (tOp qAdd (tVar 6) (tVar 5)))) (gName 7))
    (tSeq (tIfS (tTest (tOp qGt (tCB (qLen K) (tCons (tVar 7) tNil)) (tC (.int 1)))) (tSeq (tAsg (tC (.str "any")) (gName 8))
    (tSeq (tIfS (tAnd (tTest (tOp qGt (tCB (qLen K) (tCons (tVar 7) tNil)) (tC (.int 2)))) (tTest (tOp rEq (tOp qMod (tCB qInt (tCons (tOp qFdiv (tVar 3) (tC (.int 64))) tNil)) (tC (.int 2))) (tC (.int 1))))) (tAsg (tC (.str "row")) (gName 8)) tNext)
    (tAsg (tOp rCat (tOp rCat (L2.tSl (rSlL K) (tVar 2) tNoPart (tPart (tVar 6))) (tLst (tCons (tTup (tCons (tVar 8) (tCons (tCB (qTuple K) (tCons (tVar 7) tNil)) tNil))) tNil))) (L2.tSl (rSlL K) (tVar 2) (tPart (tOp qAdd (tVar 6) (tVar 5))) tNoPart)) (gName 2)))) tNext)
    (tAsg (tOp qAdd (tOp qAdd (tOp qFdiv (tVar 3) (tC (.int 5))) (tOp qMul (tC (.int 1000003)) (tVar 4))) (tC (.int 17))) (gName 3)))))))))
    (tSeq (tIfS (tTest (tOp qGt (tCB (qLen K) (tCons (tVar 2) tNil)) (tC (.int 1)))) (tAsg (tLst (tCons (tTup (tCons (tC (.str "any")) (tCons (tCB (qTuple K) (tCons (tVar 2) tNil)) tNil))) tNil)) (gName 2)) tNext)
    (tRet (tOp (rIxL K) (tVar 2) (tC (.int 0))))))))
theorem d__law_tree {P : Program} {w : World} {K : PySem.W.Frag} {mg : Str → Option Value} {base : Heap} {k : Nat} (T : Tp K mg) (C__law_rich : Cal P w K mg base k "_law_rich" ["_law_cell_here"] pre_rich) (C__law_order : Cal P w K mg base k "_law_order" ["_law_cell_here", "_law_n"] pre_order) {f : Addr} {cdv : Value} {Aa : Around} {outer : List Env} {s : Shared} {H0 : Hp} {E : XK}
    (hr : Room k (Aa.deeper (PyProof.Rows.envOfC "_law_tree" (defScope s__law_tree) s.heap.objs.size f cdv))) :
    PSs (cxOf CX0 P w K mg base N__law_tree "_law_tree" (defScope s__law_tree) f cdv Aa outer s H0 E).nox (defBody s__law_tree) (t__law_tree K) := by
  have S := sc__law_tree
  exact (pss_cons (ps_set (i := 2) S.nd rfl (by first | exact Or.inl rfl | exact Or.inr rfl) (pe_callTy call_list_of (by rfl) T.b_list (by decide +kernel) (pa_cons (pe_cal C__law_order hr (by rfl) (pa_cons (pv 0) (pa_cons (pv 1) pa_nil))) pa_nil)))
    (pss_cons (ps_set (i := 3) S.nd rfl (by first | exact Or.inl rfl | exact Or.inr rfl) (pe_cal C__law_rich hr (by rfl) (pa_cons (pe_op op_add (pe_op op_fdivN (pv 0) pe_int) pe_int) pa_nil)))
    (pss_cons (ps_for PassesOwn.never rfl (pi_range1 (by rfl) T.b_range (pa_cons pe_int pa_nil)) (pg_name (i := 4) S.nd rfl (by first | exact Or.inl rfl | exact Or.inr rfl)) (pss_cons (ps_if (pt_cmpR op_lt (pe_callB call_len_seq (by rfl) T.b_len (by decide +kernel) (pa_cons (pv 2) pa_nil)) pe_int (nomark _)) (pss_one ps_break) pss_nil)
    (pss_cons (ps_set (i := 5) S.nd rfl (by first | exact Or.inl rfl | exact Or.inr rfl) (pe_op op_add pe_int (pe_op op_modN (pe_callTy call_int1 (by rfl) T.b_int (by decide +kernel) (pa_cons (pv 3) pa_nil)) pe_int)))
    (pss_cons (ps_if (pt_cmpR op_eq (pe_op op_modN (pe_callTy call_int1 (by rfl) T.b_int (by decide +kernel) (pa_cons (pe_op op_fdivN (pv 3) pe_int) pa_nil)) pe_int) pe_int (nomark _)) (pss_one (ps_set (i := 5) S.nd rfl (by first | exact Or.inl rfl | exact Or.inr rfl) pe_int)) pss_nil)
    (pss_cons (ps_set (i := 6) S.nd rfl (by first | exact Or.inl rfl | exact Or.inr rfl) (pe_op op_modN (pe_callTy call_int1 (by rfl) T.b_int (by decide +kernel) (pa_cons (pe_op op_fdivN (pv 3) pe_int) pa_nil)) (pe_callB call_len_seq (by rfl) T.b_len (by decide +kernel) (pa_cons (pv 2) pa_nil))))
    (pss_cons (ps_set (i := 7) S.nd rfl (by first | exact Or.inl rfl | exact Or.inr rfl) (pe_slice sl_list (pv 2) (po_some (pv 6)) (po_some (pe_op op_add (pv 6) (pv 5)))))
    (pss_cons (ps_if (pt_cmpR op_gt (pe_callB call_len_seq (by rfl) T.b_len (by decide +kernel) (pa_cons (pv 7) pa_nil)) pe_int (nomark _)) (pss_cons (ps_set (i := 8) S.nd rfl (by first | exact Or.inl rfl | exact Or.inr rfl) pe_str)
    (pss_cons (ps_if (PW.pt (pw_and (pt_cmpR op_gt (pe_callB call_len_seq (by rfl) T.b_len (by decide +kernel) (pa_cons (pv 7) pa_nil)) pe_int (nomark _)) (pw_and1 (pt_cmpR op_eq (pe_op op_modN (pe_callTy call_int1 (by rfl) T.b_int (by decide +kernel) (pa_cons (pe_op op_fdivN (pv 3) pe_int) pa_nil)) pe_int) pe_int (nomark _))))) (pss_one (ps_set (i := 8) S.nd rfl (by first | exact Or.inl rfl | exact Or.inr rfl) pe_str)) pss_nil)
    (pss_one (ps_set (i := 2) S.nd rfl (by first | exact Or.inl rfl | exact Or.inr rfl) (pe_op op_cat (pe_op op_cat (pe_slice sl_list (pv 2) po_none (po_some (pv 6))) (pe_lst (pa_cons (pe_tup (pa_cons (pv 8) (pa_cons (pe_callTy call_tuple_of (by rfl) T.b_tuple (by decide +kernel) (pa_cons (pv 7) pa_nil)) pa_nil))) pa_nil))) (pe_slice sl_list (pv 2) (po_some (pe_op op_add (pv 6) (pv 5))) po_none)))))) pss_nil)
    (pss_one (ps_set (i := 3) S.nd rfl (by first | exact Or.inl rfl | exact Or.inr rfl) (pe_op op_add (pe_op op_add (pe_op op_fdivN (pv 3) pe_int) (pe_op op_mul pe_int (pv 4))) pe_int))))))))))
    (pss_cons (ps_if (pt_cmpR op_gt (pe_callB call_len_seq (by rfl) T.b_len (by decide +kernel) (pa_cons (pv 2) pa_nil)) pe_int (nomark _)) (pss_one (ps_set (i := 2) S.nd rfl (by first | exact Or.inl rfl | exact Or.inr rfl) (pe_lst (pa_cons (pe_tup (pa_cons pe_str (pa_cons (pe_callTy call_tuple_of (by rfl) T.b_tuple (by decide +kernel) (pa_cons (pv 2) pa_nil)) pa_nil))) pa_nil)))) pss_nil)
    (pss_one (ps_ret (pe_ix ix_list (pv 2) pe_int (fun _ _ => rfl))))))))
/-! ### _law_shuffled: 0 _law_tree_here, 1 _law_cell_here, 2 _law_parts, 3 _law_rest, 4 _law_part, 5 _law_told_here -/
abbrev s__law_shuffled : Stmt := topS 43
abbrev N__law_shuffled : List Str := ["_law_tree_here", "_law_cell_here", "_law_parts", "_law_rest", "_law_part", "_law_told_here"]
theorem sc__law_shuffled : FnScope N__law_shuffled ["_law_tree_here", "_law_cell_here"] (defScope s__law_shuffled) := ⟨rfl, rfl, rfl, by decide +kernel, rfl, by decide +kernel, by decide +kernel⟩
def t__law_shuffled (K : PySem.W.Frag) (m__law_shuffled : Nat) : TS :=
    (tSeq (tIfS (tB (tCB (rIsi K) (tCons (tVar 0) (tCons (tC (.ty "int")) tNil)))) (tRet (tVar 0)) tNext)
    (tSeq (tAsg (tLst tNil) (gName 2))
    (tSeq (tAsg (tCall (spec K pre_rich) [] E0 (tCons (tVar 1) tNil)) (gName 3))
    (tSeq (tFor (iTup K (tOp (rIxT K) (tVar 0) (tC (.int 1)))) (gName 4) (tSeq (tAsg (tCall (spec K (pre_shuffled m__law_shuffled)) [] E0 (tCons (tVar 4) (tCons (tOp qAdd (tOp qFdiv (tVar 3) (tC (.int 3))) (tC (.int 5))) tNil))) (gName 5))
    (tSeq (tIfS (tTest (tOp rEq (tOp (rIxT K) (tVar 0) (tC (.int 0))) (tC (.str "any")))) (tDrop (tBM K "list" qInsert (tVar 2) (tCons (tOp qMod (tCB qInt (tCons (tVar 3) tNil)) (tOp qAdd (tCB (qLen K) (tCons (tVar 2) tNil)) (tC (.int 1)))) (tCons (tVar 5) tNil)))) (tDrop (tBM K "list" rAppend (tVar 2) (tCons (tVar 5) tNil))))
    (tAsg (tOp qAdd (tOp qFdiv (tVar 3) (tC (.int 7))) (tC (.int 99))) (gName 3)))))
    (tSeq (tIfS (tAnd (tTest (tOp rEq (tOp (rIxT K) (tVar 0) (tC (.int 0))) (tC (.str "row")))) (tTest (tOp rEq (tOp qMod (tCB qInt (tCons (tVar 1) tNil)) (tC (.int 2))) (tC (.int 1))))) (tAsg (tRevL K (tVar 2)) (gName 2)) tNext)
    (tRet (tTup (tCons (tOp (rIxT K) (tVar 0) (tC (.int 0))) (tCons (tCB (qTuple K) (tCons (tVar 2) tNil)) tNil)))))))))
theorem d__law_shuffled {P : Program} {w : World} {K : PySem.W.Frag} {mg : Str → Option Value} {base : Heap} {k : Nat} {m__law_shuffled : Nat} (T : Tp K mg) (C__law_shuffled : Cal P w K mg base k "_law_shuffled" ["_law_tree_here", "_law_cell_here"] (pre_shuffled m__law_shuffled)) (C__law_rich : Cal P w K mg base k "_law_rich" ["_law_cell_here"] pre_rich) {f : Addr} {cdv : Value} {Aa : Around} {outer : List Env} {s : Shared} {H0 : Hp} {E : XK}
    (hr : Room k (Aa.deeper (PyProof.Rows.envOfC "_law_shuffled" (defScope s__law_shuffled) s.heap.objs.size f cdv))) :
    PSs (cxOf CX0 P w K mg base N__law_shuffled "_law_shuffled" (defScope s__law_shuffled) f cdv Aa outer s H0 E).nox (defBody s__law_shuffled) (t__law_shuffled K m__law_shuffled) := by
  have S := sc__law_shuffled
  exact (pss_cons (ps_if (pt_val (pe_callB call_isi (by rfl) T.b_isinstance (by decide +kernel) (pa_cons (pv 0) (pa_cons (pe_bltn (v := .ty "int") (by rfl) T.b_int PyProof.Rows.boot_int rfl) pa_nil)))) (pss_one (ps_ret (pv 0))) pss_nil)
    (pss_cons (ps_set (i := 2) S.nd rfl (by first | exact Or.inl rfl | exact Or.inr rfl) (pe_lst pa_nil))
    (pss_cons (ps_set (i := 3) S.nd rfl (by first | exact Or.inl rfl | exact Or.inr rfl) (pe_cal C__law_rich hr (by rfl) (pa_cons (pv 1) pa_nil)))
    (pss_cons (ps_for PassesOwn.never rfl (pi_tup (pe_ix ix_tup (pv 0) pe_int (fun _ _ => rfl))) (pg_name (i := 4) S.nd rfl (by first | exact Or.inl rfl | exact Or.inr rfl)) (pss_cons (ps_set (i := 5) S.nd rfl (by first | exact Or.inl rfl | exact Or.inr rfl) (pe_cal C__law_shuffled hr (by rfl) (pa_cons (pv 4) (pa_cons (pe_op op_add (pe_op op_fdivN (pv 3) pe_int) pe_int) pa_nil))))
    (pss_cons (ps_if (pt_cmpR op_eq (pe_ix ix_tup (pv 0) pe_int (fun _ _ => rfl)) pe_str (nomark _)) (pss_one (ps_expr (pe_bm PySem.F.plainAttrs_list PySem.F.slot_list_insert PySem.F.type_list_insert mt_insert (pv 2) (pa_cons (pe_op op_modN (pe_callTy call_int1 (by rfl) T.b_int (by decide +kernel) (pa_cons (pv 3) pa_nil)) (pe_op op_add (pe_callB call_len_seq (by rfl) T.b_len (by decide +kernel) (pa_cons (pv 2) pa_nil)) pe_int)) (pa_cons (pv 5) pa_nil))))) (pss_one (ps_expr (pe_bm PySem.F.plainAttrs_list PySem.F.slot_list_append PySem.F.type_list_append mt_append (pv 2) (pa_cons (pv 5) pa_nil)))))
    (pss_one (ps_set (i := 3) S.nd rfl (by first | exact Or.inl rfl | exact Or.inr rfl) (pe_op op_add (pe_op op_fdivN (pv 3) pe_int) pe_int))))))
    (pss_cons (ps_if (PW.pt (pw_and (pt_cmpR op_eq (pe_ix ix_tup (pv 0) pe_int (fun _ _ => rfl)) pe_str (nomark _)) (pw_and1 (pt_cmpR op_eq (pe_op op_modN (pe_callTy call_int1 (by rfl) T.b_int (by decide +kernel) (pa_cons (pv 1) pa_nil)) pe_int) pe_int (nomark _))))) (pss_one (ps_set (i := 2) S.nd rfl (by first | exact Or.inl rfl | exact Or.inr rfl) (pe_revL (pv 2)))) pss_nil)
    (pss_one (ps_ret (pe_tup (pa_cons (pe_ix ix_tup (pv 0) pe_int (fun _ _ => rfl)) (pa_cons (pe_callTy call_tuple_of (by rfl) T.b_tuple (by decide +kernel) (pa_cons (pv 2) pa_nil)) pa_nil))))))))))
/-! ### _law_orders: 0 _law_n, 1 _law_orders_here, 2 _law_thing, 3 _law_longer, 4 _law_order_here, 5 _law_at -/
abbrev s__law_orders : Stmt := topS 44
abbrev N__law_orders : List Str := ["_law_n", "_law_orders_here", "_law_thing", "_law_longer", "_law_order_here", "_law_at"]
theorem sc__law_orders : FnScope N__law_orders ["_law_n"] (defScope s__law_orders) := ⟨rfl, rfl, rfl, by decide +kernel, rfl, by decide +kernel, by decide +kernel⟩
def t__law_orders (K : PySem.W.Frag) : TS :=
    (tSeq (tAsg (tLst (tCons (tTupS tNil) tNil)) (gName 1))
    (tSeq (tFor (iRng1 (tCons (tVar 0) tNil)) (gName 2) (tSeq (tAsg (tLst tNil) (gName 3))
    (tSeq (tFor (iList K (tVar 1)) (gName 4) (tFor (iRng1 (tCons (tOp qAdd (tCB (qLen K) (tCons (tVar 4) tNil)) (tC (.int 1))) tNil)) (gName 5) (tDrop (tBM K "list" rAppend (tVar 3) (tCons (tOp (rCatS K) (tOp (rCatS K) (L2.tSl (rSlS K) (tVar 4) tNoPart (tPart (tVar 5))) (tTupS (tCons (tVar 2) tNil))) (L2.tSl (rSlS K) (tVar 4) (tPart (tVar 5)) tNoPart)) tNil)))))
    (tAsg (tVar 3) (gName 1)))))
    (tRet (tVar 1))))
theorem d__law_orders {P : Program} {w : World} {K : PySem.W.Frag} {mg : Str → Option Value} {base : Heap} {k : Nat} (T : Tp K mg) {f : Addr} {cdv : Value} {Aa : Around} {outer : List Env} {s : Shared} {H0 : Hp} {E : XK}
    (hr : Room k (Aa.deeper (PyProof.Rows.envOfC "_law_orders" (defScope s__law_orders) s.heap.objs.size f cdv))) :
    PSs (cxOf CX0 P w K mg base N__law_orders "_law_orders" (defScope s__law_orders) f cdv Aa outer s H0 E).nox (defBody s__law_orders) (t__law_orders K) := by
  have S := sc__law_orders
  exact (pss_cons (ps_set (i := 1) S.nd rfl (by first | exact Or.inl rfl | exact Or.inr rfl) (pe_lst (pa_cons (pe_tupS pa_nil) pa_nil)))
    (pss_cons (ps_for PassesOwn.never rfl (pi_range1 (by rfl) T.b_range (pa_cons (pv 0) pa_nil)) (pg_name (i := 2) S.nd rfl (by first | exact Or.inl rfl | exact Or.inr rfl)) (pss_cons (ps_set (i := 3) S.nd rfl (by first | exact Or.inl rfl | exact Or.inr rfl) (pe_lst pa_nil))
    (pss_cons (ps_for PassesOwn.never rfl (pi_list (pv 1)) (pg_name (i := 4) S.nd rfl (by first | exact Or.inl rfl | exact Or.inr rfl)) (pss_one (ps_for PassesOwn.never rfl (pi_range1 (by rfl) T.b_range (pa_cons (pe_op op_add (pe_callB call_len_seq (by rfl) T.b_len (by decide +kernel) (pa_cons (pv 4) pa_nil)) pe_int) pa_nil)) (pg_name (i := 5) S.nd rfl (by first | exact Or.inl rfl | exact Or.inr rfl)) (pss_one (ps_expr (pe_bm PySem.F.plainAttrs_list PySem.F.slot_list_append PySem.F.type_list_append mt_append (pv 3) (pa_cons (pe_op op_catS (pe_op op_catS (pe_slice sl_tupS (pv 4) po_none (po_some (pv 5))) (pe_tupS (pa_cons (pv 2) pa_nil))) (pe_slice sl_tupS (pv 4) (po_some (pv 5)) po_none)) pa_nil)))))))
    (pss_one (ps_set (i := 1) S.nd rfl (by first | exact Or.inl rfl | exact Or.inr rfl) (pv 3))))))
    (pss_one (ps_ret (pv 1)))))
/-! ### _law_drawn_order: 0 _law_tree_here, 1 _law_cell_here, 2 _law_order_here, 3 _law_part -/
abbrev s__law_drawn_order : Stmt := topS 45
abbrev N__law_drawn_order : List Str := ["_law_tree_here", "_law_cell_here", "_law_order_here", "_law_part"]
theorem sc__law_drawn_order : FnScope N__law_drawn_order ["_law_tree_here", "_law_cell_here"] (defScope s__law_drawn_order) := ⟨rfl, rfl, rfl, by decide +kernel, rfl, by decide +kernel, by decide +kernel⟩
def t__law_drawn_order (K : PySem.W.Frag) (m__law_shuffled : Nat) (m__law_drawn_order : Nat) : TS :=
    (tSeq (tIfS (tB (tCB (rIsi K) (tCons (tVar 0) (tCons (tC (.ty "int")) tNil)))) (tRet (tTupS (tCons (tVar 0) tNil))) tNext)
    (tSeq (tAsg (tTupS tNil) (gName 2))
    (tSeq (tFor (iTup K (tOp (rIxT K) (tCall (spec K (pre_shuffled m__law_shuffled)) [] E0 (tCons (tVar 0) (tCons (tVar 1) tNil))) (tC (.int 1)))) (gName 3) (tAsg (tOp (rCatS K) (tVar 2) (tCall (spec K (pre_drawn_order m__law_drawn_order)) [] E0 (tCons (tVar 3) (tCons (tOp qAdd (tOp qFdiv (tVar 1) (tC (.int 3))) (tC (.int 11))) tNil)))) (gName 2)))
    (tRet (tVar 2)))))
theorem d__law_drawn_order {P : Program} {w : World} {K : PySem.W.Frag} {mg : Str → Option Value} {base : Heap} {k : Nat} {m__law_shuffled : Nat} {m__law_drawn_order : Nat} (T : Tp K mg) (C__law_shuffled : Cal P w K mg base k "_law_shuffled" ["_law_tree_here", "_law_cell_here"] (pre_shuffled m__law_shuffled)) (C__law_drawn_order : Cal P w K mg base k "_law_drawn_order" ["_law_tree_here", "_law_cell_here"] (pre_drawn_order m__law_drawn_order)) {f : Addr} {cdv : Value} {Aa : Around} {outer : List Env} {s : Shared} {H0 : Hp} {E : XK}
    (hr : Room k (Aa.deeper (PyProof.Rows.envOfC "_law_drawn_order" (defScope s__law_drawn_order) s.heap.objs.size f cdv))) :
    PSs (cxOf CX0 P w K mg base N__law_drawn_order "_law_drawn_order" (defScope s__law_drawn_order) f cdv Aa outer s H0 E).nox (defBody s__law_drawn_order) (t__law_drawn_order K m__law_shuffled m__law_drawn_order) := by
  have S := sc__law_drawn_order
  exact (pss_cons (ps_if (pt_val (pe_callB call_isi (by rfl) T.b_isinstance (by decide +kernel) (pa_cons (pv 0) (pa_cons (pe_bltn (v := .ty "int") (by rfl) T.b_int PyProof.Rows.boot_int rfl) pa_nil)))) (pss_one (ps_ret (pe_tupS (pa_cons (pv 0) pa_nil)))) pss_nil)
    (pss_cons (ps_set (i := 2) S.nd rfl (by first | exact Or.inl rfl | exact Or.inr rfl) (pe_tupS pa_nil))
    (pss_cons (ps_for PassesOwn.never rfl (pi_tup (pe_ix ix_tup (pe_cal C__law_shuffled hr (by rfl) (pa_cons (pv 0) (pa_cons (pv 1) pa_nil))) pe_int (fun _ _ => rfl))) (pg_name (i := 3) S.nd rfl (by first | exact Or.inl rfl | exact Or.inr rfl)) (pss_one (ps_set (i := 2) S.nd rfl (by first | exact Or.inl rfl | exact Or.inr rfl) (pe_op op_catS (pv 2) (pe_cal C__law_drawn_order hr (by rfl) (pa_cons (pv 3) (pa_cons (pe_op op_add (pe_op op_fdivN (pv 1) pe_int) pe_int) pa_nil)))))))
    (pss_one (ps_ret (pv 2))))))
/-! ### _law_wishes: 0 _law_script, 1 _law_at, 2 _law_n, 3 _law_order_here, 4 _law_wishes_here, 5 _law_k, 6 _law_d, 7 _law_other, 8 _law_low, 9 _law_high -/
abbrev s__law_wishes : Stmt := topS 46
abbrev N__law_wishes : List Str := ["_law_script", "_law_at", "_law_n", "_law_order_here", "_law_wishes_here", "_law_k", "_law_d", "_law_other", "_law_low", "_law_high"]
theorem sc__law_wishes : FnScope N__law_wishes ["_law_script", "_law_at", "_law_n", "_law_order_here"] (defScope s__law_wishes) := ⟨rfl, rfl, rfl, by decide +kernel, rfl, by decide +kernel, by decide +kernel⟩
def t__law_wishes (K : PySem.W.Frag) : TS :=
    (tSeq (tAsg (tLst tNil) (gName 4))
    (tSeq (tFor (iRng1 (tCons (tC (.int 6)) tNil)) (gName 5) (tIfS (tAnd (tTest (tOp qLt (tOp qAdd (tVar 1) (tVar 5)) (tCB (qLen K) (tCons (tVar 0) tNil)))) (tTest (tOp qGt (tVar 2) (tC (.int 1))))) (tSeq (tAsg (tCall (spec K pre_digits) [] E0 (tCons (tCall (spec K pre_rich) [] E0 (tCons (tOp qAdd (tCall (spec K pre_cell) [] E0 (tCons (tVar 0) (tCons (tOp qAdd (tVar 1) (tVar 5)) tNil))) (tVar 5)) tNil)) (tCons (tLst (tCons (tVar 2) (tCons (tOp qSub (tVar 2) (tC (.int 1))) (tCons (tC (.int 6)) tNil)))) tNil))) (gName 6))
    (tSeq (tAsg (tOp qAdd (tOp (rIxL K) (tVar 6) (tC (.int 1))) (tCB qInt (tCons (tOp qGe (tOp (rIxL K) (tVar 6) (tC (.int 1))) (tOp (rIxL K) (tVar 6) (tC (.int 0)))) tNil))) (gName 7))
    (tSeq (tAsg (tCB qMin2 (tCons (tOp (rIxL K) (tVar 6) (tC (.int 0))) (tCons (tVar 7) tNil))) (gName 8))
    (tSeq (tAsg (tCB qMax2 (tCons (tOp (rIxL K) (tVar 6) (tC (.int 0))) (tCons (tVar 7) tNil))) (gName 9))
    (tSeq (tIfS (tTest (tOp rEq (tOp (rIxL K) (tVar 6) (tC (.int 2))) (tC (.int 0)))) (tPar 8 9 (tCons (tVar 9) (tCons (tVar 8) tNil))) tNext)
    (tDrop (tBM K "list" rAppend (tVar 4) (tCons (tTup (tCons (tOp (rIxT K) (tVar 3) (tVar 8)) (tCons (tOp (rIxT K) (tVar 3) (tVar 9)) tNil))) tNil)))))))) tNext))
    (tRet (tCB (qTuple K) (tCons (tVar 4) tNil)))))
theorem d__law_wishes {P : Program} {w : World} {K : PySem.W.Frag} {mg : Str → Option Value} {base : Heap} {k : Nat} (T : Tp K mg) (C__law_cell : Cal P w K mg base k "_law_cell" ["_law_script", "_law_k"] pre_cell) (C__law_rich : Cal P w K mg base k "_law_rich" ["_law_cell_here"] pre_rich) (C__law_digits : Cal P w K mg base k "_law_digits" ["_law_cell_here", "_law_sizes"] pre_digits) {f : Addr} {cdv : Value} {Aa : Around} {outer : List Env} {s : Shared} {H0 : Hp} {E : XK}
    (hr : Room k (Aa.deeper (PyProof.Rows.envOfC "_law_wishes" (defScope s__law_wishes) s.heap.objs.size f cdv))) :
    PSs (cxOf CX0 P w K mg base N__law_wishes "_law_wishes" (defScope s__law_wishes) f cdv Aa outer s H0 E).nox (defBody s__law_wishes) (t__law_wishes K) := by
  have S := sc__law_wishes
  exact (pss_cons (ps_set (i := 4) S.nd rfl (by first | exact Or.inl rfl | exact Or.inr rfl) (pe_lst pa_nil))
    (pss_cons (ps_for PassesOwn.never rfl (pi_range1 (by rfl) T.b_range (pa_cons pe_int pa_nil)) (pg_name (i := 5) S.nd rfl (by first | exact Or.inl rfl | exact Or.inr rfl)) (pss_one (ps_if (PW.pt (pw_and (pt_cmpR op_lt (pe_op op_add (pv 1) (pv 5)) (pe_callB call_len_seq (by rfl) T.b_len (by decide +kernel) (pa_cons (pv 0) pa_nil)) (nomark _)) (pw_and1 (pt_cmpR op_gt (pv 2) pe_int (nomark _))))) (pss_cons (ps_set (i := 6) S.nd rfl (by first | exact Or.inl rfl | exact Or.inr rfl) (pe_cal C__law_digits hr (by rfl) (pa_cons (pe_cal C__law_rich hr (by rfl) (pa_cons (pe_op op_add (pe_cal C__law_cell hr (by rfl) (pa_cons (pv 0) (pa_cons (pe_op op_add (pv 1) (pv 5)) pa_nil))) (pv 5)) pa_nil)) (pa_cons (pe_lst (pa_cons (pv 2) (pa_cons (pe_op op_sub (pv 2) pe_int) (pa_cons pe_int pa_nil)))) pa_nil))))
    (pss_cons (ps_set (i := 7) S.nd rfl (by first | exact Or.inl rfl | exact Or.inr rfl) (pe_op op_add (pe_ix ix_list (pv 6) pe_int (fun _ _ => rfl)) (pe_callTy call_int1 (by rfl) T.b_int (by decide +kernel) (pa_cons (pe_cmpR op_ge (pe_ix ix_list (pv 6) pe_int (fun _ _ => rfl)) (pe_ix ix_list (pv 6) pe_int (fun _ _ => rfl)) (nomark _)) pa_nil))))
    (pss_cons (ps_set (i := 8) S.nd rfl (by first | exact Or.inl rfl | exact Or.inr rfl) (pe_callB (call_min2 rfl) (by rfl) T.b_min (by decide +kernel) (pa_cons (pe_ix ix_list (pv 6) pe_int (fun _ _ => rfl)) (pa_cons (pv 7) pa_nil))))
    (pss_cons (ps_set (i := 9) S.nd rfl (by first | exact Or.inl rfl | exact Or.inr rfl) (pe_callB (call_max2 rfl) (by rfl) T.b_max (by decide +kernel) (pa_cons (pe_ix ix_list (pv 6) pe_int (fun _ _ => rfl)) (pa_cons (pv 7) pa_nil))))
    (pss_cons (ps_if (pt_cmpR op_eq (pe_ix ix_list (pv 6) pe_int (fun _ _ => rfl)) pe_int (nomark _)) (pss_one (ps_par (i := 8) (j := 9) (by rfl) S.nd rfl rfl (by decide) rfl rfl (pa_cons (pv 9) (pa_cons (pv 8) pa_nil)) (by rfl))) pss_nil)
    (pss_one (ps_expr (pe_bm PySem.F.plainAttrs_list PySem.F.slot_list_append PySem.F.type_list_append mt_append (pv 4) (pa_cons (pe_tup (pa_cons (pe_ix ix_tup (pv 3) (pv 8) (fun _ _ => rfl)) (pa_cons (pe_ix ix_tup (pv 3) (pv 9) (fun _ _ => rfl)) pa_nil))) pa_nil))))))))) pss_nil)))
    (pss_one (ps_ret (pe_callTy call_tuple_of (by rfl) T.b_tuple (by decide +kernel) (pa_cons (pv 4) pa_nil))))))
/-! ### _law_keeps: 0 _law_order_here, 1 _law_wishes_here, 2 _law_wish -/
abbrev s__law_keeps : Stmt := topS 47
abbrev N__law_keeps : List Str := ["_law_order_here", "_law_wishes_here", "_law_wish"]
theorem sc__law_keeps : FnScope N__law_keeps ["_law_order_here", "_law_wishes_here"] (defScope s__law_keeps) := ⟨rfl, rfl, rfl, by decide +kernel, rfl, by decide +kernel, by decide +kernel⟩
def t__law_keeps (K : PySem.W.Frag) : TS :=
    (tRet (tOp (rEqD K) (tLc (iSeq K (tVar 1)) (gName 2) (tTest (tOp qGt (tTIndex (tVar 0) (tOp (rIxT K) (tVar 2) (tC (.int 0)))) (tTIndex (tVar 0) (tOp (rIxT K) (tVar 2) (tC (.int 1)))))) (tVar 2) [2]) (tLst tNil)))
theorem d__law_keeps {P : Program} {w : World} {K : PySem.W.Frag} {mg : Str → Option Value} {base : Heap} {k : Nat} (T : Tp K mg) {f : Addr} {cdv : Value} {Aa : Around} {outer : List Env} {s : Shared} {H0 : Hp} {E : XK}
    (hr : Room k (Aa.deeper (PyProof.Rows.envOfC "_law_keeps" (defScope s__law_keeps) s.heap.objs.size f cdv))) :
    PSs (cxOf CX0 P w K mg base N__law_keeps "_law_keeps" (defScope s__law_keeps) f cdv Aa outer s H0 E).nox (defBody s__law_keeps) (t__law_keeps K) := by
  have S := sc__law_keeps
  exact (pss_one (ps_ret (pe_cmpR (op_eqD (hu64 hr)) (pe_lc (own := [("_law_wish", 2)]) (g := (gName 2)) (tt := (tTest (tOp qGt (tTIndex (tVar 0) (tOp (rIxT K) (tVar 2) (tC (.int 0)))) (tTIndex (tVar 0) (tOp (rIxT K) (tVar 2) (tC (.int 1))))))) (te := (tVar 2)) (by rfl) S.nd (pi_seq (pv 1)) (blkOk_by (N := N__law_keeps) (sc := defScope s__law_keeps) (by decide +kernel)) (fun _ _ _ _ _ => (pg_name (i := 2) S.nd rfl (by first | exact Or.inl rfl | exact Or.inr rfl))) (fun _ _ _ _ _ => (pts_one (pt_cmpR op_gt (pe_tindex (pv 0) (pe_ix ix_tup (pv 2) pe_int (fun _ _ => rfl))) (pe_tindex (pv 0) (pe_ix ix_tup (pv 2) pe_int (fun _ _ => rfl))) (nomark _)))) (fun _ _ _ _ _ => (pv 2))) (pe_lst pa_nil) (nomark _))))
/-! ### _law_is_wish_ring: 0 _law_tree_here, 1 _law_wishes_here, 2 _law_indexes, 3 _law_steps, 4 _law_index, 5 _law_a, 6 _law_b, 7 _law_i, 8 _law_j, 9 _law_k, 10 _law_part -/
abbrev s__law_is_wish_ring : Stmt := topS 48
abbrev N__law_is_wish_ring : List Str := ["_law_tree_here", "_law_wishes_here", "_law_indexes", "_law_steps", "_law_index", "_law_a", "_law_b", "_law_i", "_law_j", "_law_k", "_law_part"]
theorem sc__law_is_wish_ring : FnScope N__law_is_wish_ring ["_law_tree_here", "_law_wishes_here", "_law_indexes"] (defScope s__law_is_wish_ring) := ⟨rfl, rfl, rfl, by decide +kernel, rfl, by decide +kernel, by decide +kernel⟩
def t__law_is_wish_ring (K : PySem.W.Frag) (m__law_is_wish_ring : Nat) (m__law_things : Nat) : TS :=
    (tSeq (tIfS (tOr (tB (tCB (rIsi K) (tCons (tVar 0) (tCons (tC (.ty "int")) tNil)))) (tOr (tTest (tOp rEq (tCB (qLen K) (tCons (tVar 2) tNil)) (tC (.int 0)))) (tTest (tOp (rNeD K) (tLc (iTup K (tVar 2)) (gName 9) (tOr (tTest (tOp qLt (tVar 9) (tC (.int 0)))) (tTest (tOp qGe (tVar 9) (tCB (qLen K) (tCons (tVar 1) tNil))))) (tVar 9) [9]) (tLst tNil))))) (tRet (tC (.bl false))) tNext)
    (tSeq (tAsg (tLst tNil) (gName 3))
    (tSeq (tFor (iTup K (tVar 2)) (gName 4) (tSeq (tAsg (tOp (rIxT K) (tVar 1) (tVar 4)) (gTup K 2 (gCons (gName 5) (gCons (gName 6) gNil))))
    (tFor (iRng1 (tCons (tCB (qLen K) (tCons (tOp (rIxT K) (tVar 0) (tC (.int 1))) tNil)) tNil)) (gName 7) (tFor (iRng1 (tCons (tCB (qLen K) (tCons (tOp (rIxT K) (tVar 0) (tC (.int 1))) tNil)) tNil)) (gName 8) (tIfS (tAnd (tTest (tOp rNe (tVar 7) (tVar 8))) (tAnd (tTest (tOp (rIn K false) (tVar 5) (tCall (spec K (pre_things m__law_things)) [] E0 (tCons (tOp (rIxT K) (tOp (rIxT K) (tVar 0) (tC (.int 1))) (tVar 7)) tNil)))) (tTest (tOp (rIn K false) (tVar 6) (tCall (spec K (pre_things m__law_things)) [] E0 (tCons (tOp (rIxT K) (tOp (rIxT K) (tVar 0) (tC (.int 1))) (tVar 8)) tNil)))))) (tDrop (tBM K "list" rAppend (tVar 3) (tCons (tTup (tCons (tVar 7) (tCons (tVar 8) tNil))) tNil))) tNext)))))
    (tSeq (tIfS (tTest (tOp rEq (tCB (qLen K) (tCons (tVar 3) tNil)) (tCB (qLen K) (tCons (tVar 2) tNil)))) (tSeq (tIfS (tTest (tOp rEq (tOp (rIxT K) (tVar 0) (tC (.int 0))) (tC (.str "row")))) (tRet (tAndV (tOp rEq (tCB (qLen K) (tCons (tVar 3) tNil)) (tC (.int 2))) (tOp rNe (tOp qLt (tOp (rIxT K) (tOp (rIxL K) (tVar 3) (tC (.int 0))) (tC (.int 0))) (tOp (rIxT K) (tOp (rIxL K) (tVar 3) (tC (.int 0))) (tC (.int 1)))) (tOp qLt (tOp (rIxT K) (tOp (rIxL K) (tVar 3) (tC (.int 1))) (tC (.int 0))) (tOp (rIxT K) (tOp (rIxL K) (tVar 3) (tC (.int 1))) (tC (.int 1))))))) tNext)
    (tRet (tOp (rEqD K) (tLc (iRng1 (tCons (tCB (qLen K) (tCons (tVar 3) tNil)) tNil)) (gName 9) (tTest (tOp rNe (tOp (rIxT K) (tOp (rIxL K) (tVar 3) (tOp qSub (tVar 9) (tC (.int 1)))) (tC (.int 1))) (tOp (rIxT K) (tOp (rIxL K) (tVar 3) (tVar 9)) (tC (.int 0))))) (tVar 9) [9]) (tLst tNil)))) tNext)
    (tRet (tOp (rNeD K) (tLc (iTup K (tOp (rIxT K) (tVar 0) (tC (.int 1)))) (gName 10) (tB (tCall (spec K (pre_lawring m__law_is_wish_ring)) [] E0 (tCons (tVar 10) (tCons (tVar 1) (tCons (tVar 2) tNil))))) (tVar 10) [10]) (tLst tNil)))))))
theorem d__law_is_wish_ring {P : Program} {w : World} {K : PySem.W.Frag} {mg : Str → Option Value} {base : Heap} {k : Nat} {m__law_is_wish_ring : Nat} {m__law_things : Nat} (T : Tp K mg) (C__law_is_wish_ring : Cal P w K mg base k "_law_is_wish_ring" ["_law_tree_here", "_law_wishes_here", "_law_indexes"] (pre_lawring m__law_is_wish_ring)) (C__law_things : Cal P w K mg base k "_law_things" ["_law_tree_here"] (pre_things m__law_things)) {f : Addr} {cdv : Value} {Aa : Around} {outer : List Env} {s : Shared} {H0 : Hp} {E : XK}
    (hr : Room k (Aa.deeper (PyProof.Rows.envOfC "_law_is_wish_ring" (defScope s__law_is_wish_ring) s.heap.objs.size f cdv))) :
    PSs (cxOf CX0 P w K mg base N__law_is_wish_ring "_law_is_wish_ring" (defScope s__law_is_wish_ring) f cdv Aa outer s H0 E).nox (defBody s__law_is_wish_ring) (t__law_is_wish_ring K m__law_is_wish_ring m__law_things) := by
  have S := sc__law_is_wish_ring
  exact (pss_cons (ps_if (PW.pt (pw_or (pt_val (pe_callB call_isi (by rfl) T.b_isinstance (by decide +kernel) (pa_cons (pv 0) (pa_cons (pe_bltn (v := .ty "int") (by rfl) T.b_int PyProof.Rows.boot_int rfl) pa_nil)))) (pw_or (pt_cmpR op_eq (pe_callB call_len_seq (by rfl) T.b_len (by decide +kernel) (pa_cons (pv 2) pa_nil)) pe_int (nomark _)) (pw_or1 (pt_cmpR (op_neD (hu64 hr)) (pe_lc (own := [("_law_k", 9)]) (g := (gName 9)) (tt := (tOr (tTest (tOp qLt (tVar 9) (tC (.int 0)))) (tTest (tOp qGe (tVar 9) (tCB (qLen K) (tCons (tVar 1) tNil)))))) (te := (tVar 9)) (by rfl) S.nd (pi_tup (pv 2)) (blkOk_by (N := N__law_is_wish_ring) (sc := defScope s__law_is_wish_ring) (by decide +kernel)) (fun _ _ _ _ _ => (pg_name (i := 9) S.nd rfl (by first | exact Or.inl rfl | exact Or.inr rfl))) (fun _ _ _ _ _ => (pts_one (PW.pt (pw_or (pt_cmpR op_lt (pv 9) pe_int (nomark _)) (pw_or1 (pt_cmpR op_ge (pv 9) (pe_callB call_len_seq (by rfl) T.b_len (by decide +kernel) (pa_cons (pv 1) pa_nil)) (nomark _))))))) (fun _ _ _ _ _ => (pv 9))) (pe_lst pa_nil) (nomark _)))))) (pss_one (ps_ret pe_bl)) pss_nil)
    (pss_cons (ps_set (i := 3) S.nd rfl (by first | exact Or.inl rfl | exact Or.inr rfl) (pe_lst pa_nil))
    (pss_cons (ps_for PassesOwn.never rfl (pi_tup (pv 2)) (pg_name (i := 4) S.nd rfl (by first | exact Or.inl rfl | exact Or.inr rfl)) (pss_cons (ps_asg (pe_ix ix_tup (pv 1) (pv 4) (fun _ _ => rfl)) (pg_tup rfl (pgs_cons (pg_name (i := 5) S.nd rfl (by first | exact Or.inl rfl | exact Or.inr rfl)) (pgs_cons (pg_name (i := 6) S.nd rfl (by first | exact Or.inl rfl | exact Or.inr rfl)) pgs_nil))))
    (pss_one (ps_for PassesOwn.never rfl (pi_range1 (by rfl) T.b_range (pa_cons (pe_callB call_len_seq (by rfl) T.b_len (by decide +kernel) (pa_cons (pe_ix ix_tup (pv 0) pe_int (fun _ _ => rfl)) pa_nil)) pa_nil)) (pg_name (i := 7) S.nd rfl (by first | exact Or.inl rfl | exact Or.inr rfl)) (pss_one (ps_for PassesOwn.never rfl (pi_range1 (by rfl) T.b_range (pa_cons (pe_callB call_len_seq (by rfl) T.b_len (by decide +kernel) (pa_cons (pe_ix ix_tup (pv 0) pe_int (fun _ _ => rfl)) pa_nil)) pa_nil)) (pg_name (i := 8) S.nd rfl (by first | exact Or.inl rfl | exact Or.inr rfl)) (pss_one (ps_if (PW.pt (pw_and (pt_cmpR op_ne (pv 7) (pv 8) (nomark _)) (pw_and (pt_cmpR op_in_seq (pv 5) (pe_cal C__law_things hr (by rfl) (pa_cons (pe_ix ix_tup (pe_ix ix_tup (pv 0) pe_int (fun _ _ => rfl)) (pv 7) (fun _ _ => rfl)) pa_nil)) (by rfl)) (pw_and1 (pt_cmpR op_in_seq (pv 6) (pe_cal C__law_things hr (by rfl) (pa_cons (pe_ix ix_tup (pe_ix ix_tup (pv 0) pe_int (fun _ _ => rfl)) (pv 8) (fun _ _ => rfl)) pa_nil)) (by rfl)))))) (pss_one (ps_expr (pe_bm PySem.F.plainAttrs_list PySem.F.slot_list_append PySem.F.type_list_append mt_append (pv 3) (pa_cons (pe_tup (pa_cons (pv 7) (pa_cons (pv 8) pa_nil))) pa_nil)))) pss_nil))))))))
    (pss_cons (ps_if (pt_cmpR op_eq (pe_callB call_len_seq (by rfl) T.b_len (by decide +kernel) (pa_cons (pv 3) pa_nil)) (pe_callB call_len_seq (by rfl) T.b_len (by decide +kernel) (pa_cons (pv 2) pa_nil)) (nomark _)) (pss_cons (ps_if (pt_cmpR op_eq (pe_ix ix_tup (pv 0) pe_int (fun _ _ => rfl)) pe_str (nomark _)) (pss_one (ps_ret (pe_and (pe_cmpR op_eq (pe_callB call_len_seq (by rfl) T.b_len (by decide +kernel) (pa_cons (pv 3) pa_nil)) pe_int (nomark _)) (pe_one (pe_cmpR op_ne (pe_cmpR op_lt (pe_ix ix_tup (pe_ix ix_list (pv 3) pe_int (fun _ _ => rfl)) pe_int (fun _ _ => rfl)) (pe_ix ix_tup (pe_ix ix_list (pv 3) pe_int (fun _ _ => rfl)) pe_int (fun _ _ => rfl)) (nomark _)) (pe_cmpR op_lt (pe_ix ix_tup (pe_ix ix_list (pv 3) pe_int (fun _ _ => rfl)) pe_int (fun _ _ => rfl)) (pe_ix ix_tup (pe_ix ix_list (pv 3) pe_int (fun _ _ => rfl)) pe_int (fun _ _ => rfl)) (nomark _)) (nomark _)))))) pss_nil)
    (pss_one (ps_ret (pe_cmpR (op_eqD (hu64 hr)) (pe_lc (own := [("_law_k", 9)]) (g := (gName 9)) (tt := (tTest (tOp rNe (tOp (rIxT K) (tOp (rIxL K) (tVar 3) (tOp qSub (tVar 9) (tC (.int 1)))) (tC (.int 1))) (tOp (rIxT K) (tOp (rIxL K) (tVar 3) (tVar 9)) (tC (.int 0)))))) (te := (tVar 9)) (by rfl) S.nd (pi_range1 (by rfl) T.b_range (pa_cons (pe_callB call_len_seq (by rfl) T.b_len (by decide +kernel) (pa_cons (pv 3) pa_nil)) pa_nil)) (blkOk_by (N := N__law_is_wish_ring) (sc := defScope s__law_is_wish_ring) (by decide +kernel)) (fun _ _ _ _ _ => (pg_name (i := 9) S.nd rfl (by first | exact Or.inl rfl | exact Or.inr rfl))) (fun _ _ _ _ _ => (pts_one (pt_cmpR op_ne (pe_ix ix_tup (pe_ix ix_list (pv 3) (pe_op op_sub (pv 9) pe_int) (fun _ _ => rfl)) pe_int (fun _ _ => rfl)) (pe_ix ix_tup (pe_ix ix_list (pv 3) (pv 9) (fun _ _ => rfl)) pe_int (fun _ _ => rfl)) (nomark _)))) (fun _ _ _ _ _ => (pv 9))) (pe_lst pa_nil) (nomark _))))) pss_nil)
    (pss_one (ps_ret (pe_cmpR (op_neD (hu64 hr)) (pe_lc (own := [("_law_part", 10)]) (g := (gName 10)) (tt := (tB (tCall (spec K (pre_lawring m__law_is_wish_ring)) [] E0 (tCons (tVar 10) (tCons (tVar 1) (tCons (tVar 2) tNil)))))) (te := (tVar 10)) (by rfl) S.nd (pi_tup (pe_ix ix_tup (pv 0) pe_int (fun _ _ => rfl))) (blkOk_by (N := N__law_is_wish_ring) (sc := defScope s__law_is_wish_ring) (by decide +kernel)) (fun _ _ _ _ _ => (pg_name (i := 10) S.nd rfl (by first | exact Or.inl rfl | exact Or.inr rfl))) (fun _ _ _ _ _ => (pts_one (pt_val (pe_cal C__law_is_wish_ring hr (by rfl) (pa_cons (pv 10) (pa_cons (pv 1) (pa_cons (pv 2) pa_nil))))))) (fun _ _ _ _ _ => (pv 10))) (pe_lst pa_nil) (nomark _))))))))
/-! ### law: 0 _law_script, 1 _law_d, 2 _law_n, 3 _law_tree_here, 4 _law_order_here, 5 _law_wishes_here, 6 _law_told_here, 7 _law_drawn, 8 _law_chosen, 9 _law_k, 10 _law_other, 11 _law_index -/
abbrev s_law : Stmt := topS 49
abbrev N_law : List Str := ["_law_script", "_law_d", "_law_n", "_law_tree_here", "_law_order_here", "_law_wishes_here", "_law_told_here", "_law_drawn", "_law_chosen", "_law_k", "_law_other", "_law_index"]
theorem sc_law : FnScope N_law ["_law_script"] (defScope s_law) := ⟨rfl, rfl, rfl, by decide +kernel, rfl, by decide +kernel, by decide +kernel⟩
def t_law (K : PySem.W.Frag) (m__law_is_wish_ring : Nat) (m__law_told : Nat) (m__law_drawn_order : Nat) : TS :=
    (tSeq (tAsg (tCall (spec K pre_digits) [] E0 (tCons (tCall (spec K pre_rich) [] E0 (tCons (tCall (spec K pre_cell) [] E0 (tCons (tVar 0) (tCons (tC (.int 0)) tNil))) tNil)) (tCons (tLst (tCons (tC (.int 9)) (tCons (tC (.int 2)) tNil))) tNil))) (gName 1))
    (tSeq (tAsg (tOp qAdd (tC (.int 1)) (tOp (rIxL K) (tLst (tCons (tOp (rIxL K) (tVar 1) (tC (.int 0))) (tCons (tOp qMod (tCB qInt (tCons (tOp (rIxL K) (tVar 1) (tC (.int 0))) tNil)) (tC (.int 5))) tNil))) (tOp (rIxL K) (tVar 1) (tC (.int 1))))) (gName 2))
    (tSeq (tAsg (tCall (spec K pre_tree) [] E0 (tCons (tCall (spec K pre_cell) [] E0 (tCons (tVar 0) (tCons (tC (.int 1)) tNil))) (tCons (tVar 2) tNil))) (gName 3))
    (tSeq (tAsg (tCall (spec K (pre_drawn_order m__law_drawn_order)) [] E0 (tCons (tVar 3) (tCons (tCall (spec K pre_rich) [] E0 (tCons (tCall (spec K pre_cell) [] E0 (tCons (tVar 0) (tCons (tC (.int 2)) tNil))) tNil)) tNil))) (gName 4))
    (tSeq (tAsg (tCall (spec K pre_wishes) [] E0 (tCons (tVar 0) (tCons (tC (.int 4)) (tCons (tVar 2) (tCons (tVar 4) tNil))))) (gName 5))
    (tSeq (tAsg (tCall (spec K pre_with_wishes) [] E0 (tCons (tVar 3) (tCons (tVar 5) tNil))) (gName 6))
    (tSeq (tIfS (tOr (tNot (tB (tCB (rIsi K) (tCons (tVar 6) (tCons (tC (.ty "tuple")) tNil))))) (tTest (tOp rNe (tCB (qLen K) (tCons (tVar 6) tNil)) (tC (.int 2))))) (tRet (tC (.bl false))) tNext)
    (tSeq (tAsg (tOp rCat (tLst (tCons (tVar 4) tNil)) (tLc (iRng1 (tCons (tC (.int 6)) tNil)) (gName 9) tYes (tCall (spec K (pre_drawn_order m__law_drawn_order)) [] E0 (tCons (tVar 3) (tCons (tCall (spec K pre_rich) [] E0 (tCons (tOp qAdd (tCall (spec K pre_cell) [] E0 (tCons (tVar 0) (tCons (tC (.int 3)) tNil))) (tVar 9)) tNil)) tNil))) [9])) (gName 7))
    (tSeq (tIfS (tTest (tOp qLt (tVar 2) (tC (.int 6)))) (tSeq (tAsg (tLc (iList K (tCall (spec K pre_orders) [] E0 (tCons (tVar 2) tNil))) (gName 10) (tB (tCall (spec K (pre_told m__law_told)) [] E0 (tCons (tVar 3) (tCons (tVar 10) tNil)))) (tVar 10) [10]) (gName 7))
    (tIfS (tTest (tOp rNe (tCall (spec K pre_count_with_wishes) [] E0 (tCons (tVar 3) (tCons (tVar 5) tNil))) (tCB (qLen K) (tCons (tLc (iList K (tVar 7)) (gName 10) (tB (tCall (spec K pre_keeps) [] E0 (tCons (tVar 10) (tCons (tVar 5) tNil)))) (tVar 10) [10]) tNil)))) (tRet (tC (.bl false))) tNext)) tNext)
    (tSeq (tIfS (tTest (tOp rEq (tOp (rIxT K) (tVar 6) (tC (.int 0))) (tC (.str "order")))) (tRet (tAndV (tCB (rIsi K) (tCons (tOp (rIxT K) (tVar 6) (tC (.int 1))) (tCons (tC (.ty "tuple")) tNil))) (tAndV (tCall (spec K (pre_told m__law_told)) [] E0 (tCons (tVar 3) (tCons (tOp (rIxT K) (tVar 6) (tC (.int 1))) tNil))) (tCall (spec K pre_keeps) [] E0 (tCons (tOp (rIxT K) (tVar 6) (tC (.int 1))) (tCons (tVar 5) tNil)))))) tNext)
    (tSeq (tIfS (tOr (tTest (tOp rNe (tOp (rIxT K) (tVar 6) (tC (.int 0))) (tC (.str "ring")))) (tOr (tNot (tB (tCB (rIsi K) (tCons (tOp (rIxT K) (tVar 6) (tC (.int 1))) (tCons (tC (.ty "tuple")) tNil))))) (tNot (tB (tCall (spec K (pre_lawring m__law_is_wish_ring)) [] E0 (tCons (tVar 3) (tCons (tVar 5) (tCons (tOp (rIxT K) (tVar 6) (tC (.int 1))) tNil)))))))) (tRet (tC (.bl false))) tNext)
    (tSeq (tIfS (tOr (tTest (tOp rNotB (tCall (spec K pre_is_wish_ring) [] E0 (tCons (tVar 3) (tCons (tVar 5) (tCons (tOp (rIxT K) (tVar 6) (tC (.int 1))) tNil)))) (tC (.bl true)))) (tB (tCall (spec K pre_keeps) [] E0 (tCons (tVar 4) (tCons (tVar 5) tNil))))) (tRet (tC (.bl false))) tNext)
    (tSeq (tAsg (tLc (iTup K (tOp (rIxT K) (tVar 6) (tC (.int 1)))) (gName 11) tYes (tOp (rIxT K) (tVar 5) (tVar 11)) [11]) (gName 8))
    (tRet (tOp (rEqD K) (tLc (iList K (tVar 7)) (gName 10) (tB (tCall (spec K pre_keeps) [] E0 (tCons (tVar 10) (tCons (tVar 8) tNil)))) (tVar 10) [10]) (tLst tNil))))))))))))))))
theorem d_law {P : Program} {w : World} {K : PySem.W.Frag} {mg : Str → Option Value} {base : Heap} {k : Nat} {m__law_is_wish_ring : Nat} {m__law_told : Nat} {m__law_drawn_order : Nat} (T : Tp K mg) (C__law_keeps : Cal P w K mg base k "_law_keeps" ["_law_order_here", "_law_wishes_here"] pre_keeps) (C_is_wish_ring : Cal P w K mg base k "is_wish_ring" ["tree", "wishes", "indexes"] pre_is_wish_ring) (C__law_is_wish_ring : Cal P w K mg base k "_law_is_wish_ring" ["_law_tree_here", "_law_wishes_here", "_law_indexes"] (pre_lawring m__law_is_wish_ring)) (C__law_told : Cal P w K mg base k "_law_told" ["_law_tree_here", "_law_order_here"] (pre_told m__law_told)) (C_count_with_wishes : Cal P w K mg base k "count_with_wishes" ["tree", "wishes"] pre_count_with_wishes) (C__law_orders : Cal P w K mg base k "_law_orders" ["_law_n"] pre_orders) (C__law_cell : Cal P w K mg base k "_law_cell" ["_law_script", "_law_k"] pre_cell) (C__law_rich : Cal P w K mg base k "_law_rich" ["_law_cell_here"] pre_rich) (C__law_drawn_order : Cal P w K mg base k "_law_drawn_order" ["_law_tree_here", "_law_cell_here"] (pre_drawn_order m__law_drawn_order)) (C_with_wishes : Cal P w K mg base k "with_wishes" ["tree", "wishes"] pre_with_wishes) (C__law_wishes : Cal P w K mg base k "_law_wishes" ["_law_script", "_law_at", "_law_n", "_law_order_here"] pre_wishes) (C__law_tree : Cal P w K mg base k "_law_tree" ["_law_cell_here", "_law_n"] pre_tree) (C__law_digits : Cal P w K mg base k "_law_digits" ["_law_cell_here", "_law_sizes"] pre_digits) {f : Addr} {cdv : Value} {Aa : Around} {outer : List Env} {s : Shared} {H0 : Hp} {E : XK}
    (hr : Room k (Aa.deeper (PyProof.Rows.envOfC "law" (defScope s_law) s.heap.objs.size f cdv))) :
    PSs (cxOf CX0 P w K mg base N_law "law" (defScope s_law) f cdv Aa outer s H0 E).nox (defBody s_law) (t_law K m__law_is_wish_ring m__law_told m__law_drawn_order) := by
  have S := sc_law
  exact (pss_cons (ps_set (i := 1) S.nd rfl (by first | exact Or.inl rfl | exact Or.inr rfl) (pe_cal C__law_digits hr (by rfl) (pa_cons (pe_cal C__law_rich hr (by rfl) (pa_cons (pe_cal C__law_cell hr (by rfl) (pa_cons (pv 0) (pa_cons pe_int pa_nil))) pa_nil)) (pa_cons (pe_lst (pa_cons pe_int (pa_cons pe_int pa_nil))) pa_nil))))
    (pss_cons (ps_set (i := 2) S.nd rfl (by first | exact Or.inl rfl | exact Or.inr rfl) (pe_op op_add pe_int (pe_ix ix_list (pe_lst (pa_cons (pe_ix ix_list (pv 1) pe_int (fun _ _ => rfl)) (pa_cons (pe_op op_modN (pe_callTy call_int1 (by rfl) T.b_int (by decide +kernel) (pa_cons (pe_ix ix_list (pv 1) pe_int (fun _ _ => rfl)) pa_nil)) pe_int) pa_nil))) (pe_ix ix_list (pv 1) pe_int (fun _ _ => rfl)) (fun _ _ => rfl))))
    (pss_cons (ps_set (i := 3) S.nd rfl (by first | exact Or.inl rfl | exact Or.inr rfl) (pe_cal C__law_tree hr (by rfl) (pa_cons (pe_cal C__law_cell hr (by rfl) (pa_cons (pv 0) (pa_cons pe_int pa_nil))) (pa_cons (pv 2) pa_nil))))
    (pss_cons (ps_set (i := 4) S.nd rfl (by first | exact Or.inl rfl | exact Or.inr rfl) (pe_cal C__law_drawn_order hr (by rfl) (pa_cons (pv 3) (pa_cons (pe_cal C__law_rich hr (by rfl) (pa_cons (pe_cal C__law_cell hr (by rfl) (pa_cons (pv 0) (pa_cons pe_int pa_nil))) pa_nil)) pa_nil))))
    (pss_cons (ps_set (i := 5) S.nd rfl (by first | exact Or.inl rfl | exact Or.inr rfl) (pe_cal C__law_wishes hr (by rfl) (pa_cons (pv 0) (pa_cons pe_int (pa_cons (pv 2) (pa_cons (pv 4) pa_nil))))))
    (pss_cons (ps_set (i := 6) S.nd rfl (by first | exact Or.inl rfl | exact Or.inr rfl) (pe_cal C_with_wishes hr (by rfl) (pa_cons (pv 3) (pa_cons (pv 5) pa_nil))))
    (pss_cons (ps_if (PW.pt (pw_or (pt_not (pt_val (pe_callB call_isi (by rfl) T.b_isinstance (by decide +kernel) (pa_cons (pv 6) (pa_cons (pe_bltn (v := .ty "tuple") (by rfl) T.b_tuple PyProof.Rows.boot_tuple rfl) pa_nil))))) (pw_or1 (pt_cmpR op_ne (pe_callB call_len_seq (by rfl) T.b_len (by decide +kernel) (pa_cons (pv 6) pa_nil)) pe_int (nomark _))))) (pss_one (ps_ret pe_bl)) pss_nil)
    (pss_cons (ps_set (i := 7) S.nd rfl (by first | exact Or.inl rfl | exact Or.inr rfl) (pe_op op_cat (pe_lst (pa_cons (pv 4) pa_nil)) (pe_lc (own := [("_law_k", 9)]) (g := (gName 9)) (tt := tYes) (te := (tCall (spec K (pre_drawn_order m__law_drawn_order)) [] E0 (tCons (tVar 3) (tCons (tCall (spec K pre_rich) [] E0 (tCons (tOp qAdd (tCall (spec K pre_cell) [] E0 (tCons (tVar 0) (tCons (tC (.int 3)) tNil))) (tVar 9)) tNil)) tNil)))) (by rfl) S.nd (pi_range1 (by rfl) T.b_range (pa_cons pe_int pa_nil)) (blkOk_by (N := N_law) (sc := defScope s_law) (by decide +kernel)) (fun _ _ _ _ _ => (pg_name (i := 9) S.nd rfl (by first | exact Or.inl rfl | exact Or.inr rfl))) (fun _ _ _ _ _ => pts_nil) (fun _ _ _ _ _ => (pe_cal C__law_drawn_order hr (by rfl) (pa_cons (pv 3) (pa_cons (pe_cal C__law_rich hr (by rfl) (pa_cons (pe_op op_add (pe_cal C__law_cell hr (by rfl) (pa_cons (pv 0) (pa_cons pe_int pa_nil))) (pv 9)) pa_nil)) pa_nil)))))))
    (pss_cons (ps_if (pt_cmpR op_lt (pv 2) pe_int (nomark _)) (pss_cons (ps_setLc (i := 7) (own := [("_law_other", 10)]) (g := (gName 10)) (tt := (tB (tCall (spec K (pre_told m__law_told)) [] E0 (tCons (tVar 3) (tCons (tVar 10) tNil))))) (te := (tVar 10)) (by rfl) S.nd rfl rfl (sw_true rfl rfl rfl (by decide +kernel)) (pi_list (pe_cal C__law_orders hr (by rfl) (pa_cons (pv 2) pa_nil))) (blkOk_by (N := N_law) (sc := defScope s_law) (by decide +kernel)) (fun _ _ _ _ _ => (pg_name (i := 10) S.nd rfl (by first | exact Or.inl rfl | exact Or.inr rfl))) (fun _ _ _ _ _ => (pts_one (pt_val (pe_cal C__law_told hr (by rfl) (pa_cons (pv 3) (pa_cons (pv 10) pa_nil)))))) (fun _ _ _ _ _ => (pv 10)))
    (pss_one (ps_if (pt_cmpR op_ne (pe_cal C_count_with_wishes hr (by rfl) (pa_cons (pv 3) (pa_cons (pv 5) pa_nil))) (pe_callB call_len_seq (by rfl) T.b_len (by decide +kernel) (pa_cons (pe_lc (own := [("_law_other", 10)]) (g := (gName 10)) (tt := (tB (tCall (spec K pre_keeps) [] E0 (tCons (tVar 10) (tCons (tVar 5) tNil))))) (te := (tVar 10)) (by rfl) S.nd (pi_list (pv 7)) (blkOk_by (N := N_law) (sc := defScope s_law) (by decide +kernel)) (fun _ _ _ _ _ => (pg_name (i := 10) S.nd rfl (by first | exact Or.inl rfl | exact Or.inr rfl))) (fun _ _ _ _ _ => (pts_one (pt_val (pe_cal C__law_keeps hr (by rfl) (pa_cons (pv 10) (pa_cons (pv 5) pa_nil)))))) (fun _ _ _ _ _ => (pv 10))) pa_nil)) (nomark _)) (pss_one (ps_ret pe_bl)) pss_nil))) pss_nil)
    (pss_cons (ps_if (pt_cmpR op_eq (pe_ix ix_tup (pv 6) pe_int (fun _ _ => rfl)) pe_str (nomark _)) (pss_one (ps_ret (pe_and (pe_callB call_isi (by rfl) T.b_isinstance (by decide +kernel) (pa_cons (pe_ix ix_tup (pv 6) pe_int (fun _ _ => rfl)) (pa_cons (pe_bltn (v := .ty "tuple") (by rfl) T.b_tuple PyProof.Rows.boot_tuple rfl) pa_nil))) (pe_and (pe_cal C__law_told hr (by rfl) (pa_cons (pv 3) (pa_cons (pe_ix ix_tup (pv 6) pe_int (fun _ _ => rfl)) pa_nil))) (pe_one (pe_cal C__law_keeps hr (by rfl) (pa_cons (pe_ix ix_tup (pv 6) pe_int (fun _ _ => rfl)) (pa_cons (pv 5) pa_nil)))))))) pss_nil)
    (pss_cons (ps_if (PW.pt (pw_or (pt_cmpR op_ne (pe_ix ix_tup (pv 6) pe_int (fun _ _ => rfl)) pe_str (nomark _)) (pw_or (pt_not (pt_val (pe_callB call_isi (by rfl) T.b_isinstance (by decide +kernel) (pa_cons (pe_ix ix_tup (pv 6) pe_int (fun _ _ => rfl)) (pa_cons (pe_bltn (v := .ty "tuple") (by rfl) T.b_tuple PyProof.Rows.boot_tuple rfl) pa_nil))))) (pw_or1 (pt_not (pt_val (pe_cal C__law_is_wish_ring hr (by rfl) (pa_cons (pv 3) (pa_cons (pv 5) (pa_cons (pe_ix ix_tup (pv 6) pe_int (fun _ _ => rfl)) pa_nil)))))))))) (pss_one (ps_ret pe_bl)) pss_nil)
    (pss_cons (ps_if (PW.pt (pw_or (pt_cmpR op_notBl (pe_cal C_is_wish_ring hr (by rfl) (pa_cons (pv 3) (pa_cons (pv 5) (pa_cons (pe_ix ix_tup (pv 6) pe_int (fun _ _ => rfl)) pa_nil)))) pe_bl (nomark _)) (pw_or1 (pt_val (pe_cal C__law_keeps hr (by rfl) (pa_cons (pv 4) (pa_cons (pv 5) pa_nil))))))) (pss_one (ps_ret pe_bl)) pss_nil)
    (pss_cons (ps_set (i := 8) S.nd rfl (by first | exact Or.inl rfl | exact Or.inr rfl) (pe_lc (own := [("_law_index", 11)]) (g := (gName 11)) (tt := tYes) (te := (tOp (rIxT K) (tVar 5) (tVar 11))) (by rfl) S.nd (pi_tup (pe_ix ix_tup (pv 6) pe_int (fun _ _ => rfl))) (blkOk_by (N := N_law) (sc := defScope s_law) (by decide +kernel)) (fun _ _ _ _ _ => (pg_name (i := 11) S.nd rfl (by first | exact Or.inl rfl | exact Or.inr rfl))) (fun _ _ _ _ _ => pts_nil) (fun _ _ _ _ _ => (pe_ix ix_tup (pv 5) (pv 11) (fun _ _ => rfl)))))
    (pss_one (ps_ret (pe_cmpR (op_eqD (hu64 hr)) (pe_lc (own := [("_law_other", 10)]) (g := (gName 10)) (tt := (tB (tCall (spec K pre_keeps) [] E0 (tCons (tVar 10) (tCons (tVar 8) tNil))))) (te := (tVar 10)) (by rfl) S.nd (pi_list (pv 7)) (blkOk_by (N := N_law) (sc := defScope s_law) (by decide +kernel)) (fun _ _ _ _ _ => (pg_name (i := 10) S.nd rfl (by first | exact Or.inl rfl | exact Or.inr rfl))) (fun _ _ _ _ _ => (pts_one (pt_val (pe_cal C__law_keeps hr (by rfl) (pa_cons (pv 10) (pa_cons (pv 8) pa_nil)))))) (fun _ _ _ _ _ => (pv 10))) (pe_lst pa_nil) (nomark _)))))))))))))))))
end Wk
/-! ## K5 -/
set_option Elab.async false
set_option linter.all false
set_option autoImplicit false
set_option maxRecDepth 100000
set_option maxHeartbeats 2000000
/-! More readings over slots by data. -/
namespace Wk
open PySem PySem.Spec L2
section
variable {K : PySem.W.Frag} {H0 : Hp} {ρ : Ab} {te ta tb tc : TE} {P P1 P2 P3 : PV} {po : Po}
theorem ev_weak {ds : List D} (h : EvP K H0 te ρ (PD (.ntup ds))) : EvP K H0 te ρ (PD (.tup ds)) := h.to fun _ _ _ r => Rp.weak r
theorem rgv_dis (n : Nat) : rgV 0 (n : Int) = (List.range n).map fun (i : Nat) => V.int (i : Int) := by
  unfold rgV
  rw [show ((n : Int) - 0).toNat = n by omega]
  apply List.map_congr_left
  intro i _
  rw [Int.zero_add]
theorem rps_dis {H : Hp} : ∀ ns : List Nat, Rps H (ns.map fun (i : Nat) => V.int (i : Int)) (dis ns)
  | [] => .nil
  | n :: ns => .cons (.int _) (rps_dis ns)
theorem ev_listRg {n : Nat} (h : EvP K H0 te ρ (PD (di n))) (hn : n ≤ 100000) : EvP K H0 (tLstRg (tRg1 te)) ρ (PN (dis (List.range n))) := fun σ H s Q q =>
  h σ H s _ fun v H1 e p => ⟨(n : Int), Rp.intI p, RgOk.of_le (by omega) (by omega) (by omega) (by omega), fun c nc => q _ _ (e.trans (ex_new nc)) ⟨c, _, rfl, Same.free e nc, upd_same, by rw [rgv_dis]; exact rps_dis _⟩⟩
theorem ev_lst0 : EvP K H0 (tLst tNil) ρ (PN []) := ev_lst (ds := []) ea_nil (by decide)
theorem ev_notInW {aW : Addr} {x : Str} (sW : ∀ H, SqT K H aW [.str "any", .str "row"]) (ha : EvP K H0 ta ρ (PD (.str x))) : EvP K H0 (tOp (rIn K true) ta (tC (.ref aW))) ρ (PD (.bl (!inV (.str x) [.str "any", .str "row"]))) := fun σ H s Q q =>
  ha σ H s _ fun v H1 e p => by
    rw [Rp.strI p]
    exact ⟨aW, _, rfl, .inr (sW H1), rfl, rfl, q _ H1 e (.bl _)⟩
theorem ev_lenSetT {ns : List Int} (h : EvP K H0 te ρ (PD (.tup (ns.map D.int)))) (hn : ns.Nodup) (hl : ns.length ≤ 100) : EvP K H0 (tLenSetT K te) ρ (PD (.int ns.length)) := fun σ H s Q q =>
  h σ H s _ fun v H1 e p => by
    obtain ⟨a, xs, rfl, h1, h2⟩ := Rp.tupI p
    have := h2.ints
    subst this
    exact ⟨a, ns, rfl, .inl h1, hn, hl, q _ H1 e (.int _)⟩
theorem ev_tindex {ns : List Int} {z : Int} (h : EvP K H0 ta ρ (PD (.ntup (ns.map D.int)))) (h2 : EvP K H0 tb ρ (PD (.int z))) (hz : z ∈ ns) : EvP K H0 (tTIndex ta tb) ρ (PD (.int (ns.idxOf z : Nat))) := fun σ H s Q q =>
  h σ H s _ fun v H1 e p => by
    obtain ⟨a, o, xs, rfl, k1, k2, k3⟩ := Rp.ntupI p
    have := k3.ints
    subst this
    refine ⟨a, o, ns, rfl, k1, k2, h2 σ H1 (s.ex e) _ fun v2 H2 e2 p2 => ⟨z, Rp.intI p2, e2 _ _ k1, hz, q _ H2 (e.trans e2) (.int _)⟩⟩
theorem ev_sortTup {ns ms : List Int} (h : EvP K H0 te ρ (PD (.tup (ns.map D.int)))) (hp : ms.Perm ns) (ho : ms.Pairwise (· ≤ ·)) : EvP K H0 (tCB (rSortTup K) (tCons te tNil)) ρ (PN (ms.map D.int)) := fun σ H s Q q =>
  h σ H s _ fun v H1 e p => by
    obtain ⟨a, xs, rfl, h1, h2⟩ := Rp.tupI p
    have := h2.ints
    subst this
    refine ⟨a, ns, rfl, .inl h1, fun ns' c hp' ho' nc => ?_⟩
    have e2 : ns' = ms := sorted_one (hp'.trans hp.symm) ho' ho
    subst e2
    exact q _ _ (e.trans (ex_new nc)) ⟨c, _, rfl, Same.free e nc, upd_same, rps_ints _⟩
theorem ev_tupS {t : TA} {ds : List D} (h : EvA K H0 t ρ (ds.map Ar.d)) (hl : ds.length ≤ 1000) : EvP K H0 (tTupS t) ρ (PD (.ntup ds)) := fun σ H s Q q =>
  h σ H s _ fun vs H1 e1 p1 => ⟨by rw [(arsD p1).length]; exact Nat.le_of_lt (small1000 hl), fun c o nc no => q _ _ (e1.trans (ex_new nc)) (.ntup upd_same no ((arsD p1).mono (tex (ex_new nc))))⟩
theorem ev_catS {xs ys : List D} (ha : EvP K H0 ta ρ (PD (.ntup xs))) (hb : EvP K H0 tb ρ (PD (.ntup ys))) (hl : xs.length + ys.length ≤ 1000) : EvP K H0 (tOp (rCatS K) ta tb) ρ (PD (.ntup (xs ++ ys))) :=
  ev_op ha hb fun H H1 H2 x y e1 e2 p1 p2 Q q => by
    obtain ⟨p, o, zs, rfl, k1, n1, r1⟩ := Rp.ntupI (PD.mono e2 p1)
    obtain ⟨p', o', zs', rfl, k2, n2, r2⟩ := Rp.ntupI p2
    refine ⟨p, p', zs, zs', rfl, rfl, .inl (.inr ⟨_, k1⟩), .inl (.inr ⟨_, k2⟩), by rw [r1.length, r2.length]; exact Nat.le_of_lt (small1000 hl), fun w => q _ H2 (Same.refl _) ?_, fun w w' => q _ H2 (Same.refl _) ?_, fun w w' c o nc no => q _ _ (ex_new nc) (.ntup upd_same no ((r1.append r2).mono (tex (ex_new nc))))⟩
    · subst w
      have z : xs = [] := List.length_eq_zero_iff.mp r1.length.symm
      subst z
      exact .ntup k2 n2 r2
    · subst w'
      have z : ys = [] := List.length_eq_zero_iff.mp r2.length.symm
      subst z
      rw [List.append_nil]
      exact .ntup k1 n1 r1
theorem ev_slS {tl th : TO} {ds : List D} {lo hi : Option Int} (ha : EvP K H0 ta ρ (PD (.ntup ds))) (hl : EvO K H0 tl ρ lo) (hh : EvO K H0 th ρ hi) : EvP K H0 (L2.tSl (rSlS K) ta tl th) ρ (PD (.ntup (cutD ds lo hi))) := fun σ H s Q q =>
  ha σ H s _ fun x H1 e1 p1 => hl σ H1 (s.ex e1) _ fun H2 e2 => hh σ H2 ((s.ex e1).ex e2) _ fun H3 e3 => by
    obtain ⟨p, o, xs, rfl, hs, no, r⟩ := Rp.ntupI (PD.mono e3 (PD.mono e2 p1))
    have rc := rps_cut r lo hi
    refine ⟨p, xs, rfl, .inl (.inr ⟨_, hs⟩), fun w => q _ _ ((e1.trans e2).trans e3) ?_, fun w c o' nc no' => q _ _ (((e1.trans e2).trans e3).trans (ex_new nc)) (.ntup upd_same no' (rc.mono (tex (ex_new nc))))⟩
    rw [cut_whole w] at rc
    exact .ntup hs no rc
theorem ei_seq {ds : List D} (h : EvP K H0 te ρ (PS K ds) ∨ EvP K H0 te ρ (PD (.tup ds))) : EvI K H0 (iSeq K te) ρ ds := fun σ H s R r => by
  rcases h with h | h
  · exact h σ H s _ fun v H1 e p => by
      obtain ⟨a, xs, rfl, h1, h2⟩ := p
      refine ⟨a, rfl, .inl ⟨⟨xs, h1⟩, r _ H1 e fun H2 i k => ?_⟩⟩
      have hs : SqL K H2 a xs := sql_mono k h1
      have hl := h2.length
      refine ⟨fun hi => ?_, fun hi => ⟨xs, hs, by omega⟩, fun x H' y hi => ⟨y.1, ?_⟩⟩
      · obtain ⟨v, k1, k2⟩ := h2.get (List.getElem?_eq_getElem hi)
        exact ⟨xs, v, hs, k1⟩
      · obtain ⟨d, k1, k2⟩ := h2.get' (y.2 xs hs)
        exact ⟨d, k1, k2.mono (tex k)⟩
  · exact h σ H s _ fun v H1 e p => by
      obtain ⟨a, xs, rfl, h1, h2⟩ := Rp.tupI p
      exact ⟨a, rfl, .inr ⟨⟨xs, .inl h1⟩, r _ H1 e fun H2 i k => itp_tup h1 h2 H2 i (tex k)⟩⟩
theorem sx_retn (h : ∀ H', Ex H0 H' → po.R .non H') : Sx K H0 tRetN ρ po := fun σ H E s n r b c => r .non H s.base (h H s.base)
end
/-! small numbers -/
theorem atI_dn {ds : List D} {i : Nat} {d : D} (h : ds[i]? = some d) : atI ds ((i : Nat) : Int) = some d := atI_nat h
theorem atI_0 {d : D} {ds : List D} : atI (d :: ds) 0 = some d := atI_nat (j := 0) rfl
theorem atI_1 {c d : D} {ds : List D} : atI (c :: d :: ds) 1 = some d := atI_nat (j := 1) rfl
theorem atI_2 {b c d : D} {ds : List D} : atI (b :: c :: d :: ds) 2 = some d := atI_nat (j := 2) rfl
end Wk
/-! ## M1 -/
set_option linter.all false
set_option autoImplicit false
/-! Trees: first facts. -/
namespace Wk
theorem flats_eq : ∀ ps : List Tr, flats ps = (ps.map Tr.flat).flatten
  | [] => rfl
  | p :: ps => by rw [flats, List.map_cons, List.flatten_cons, flats_eq ps]
theorem flats_append (a b : List Tr) : flats (a ++ b) = flats a ++ flats b := by simp [flats_eq]
theorem dep_pos (t : Tr) : 1 ≤ t.dep := by cases t <;> simp [Tr.dep]
theorem deps_mem : ∀ {ps : List Tr} {p : Tr}, p ∈ ps → p.dep ≤ deps ps
  | q :: ps, p, h => by
    rcases List.mem_cons.mp h with e | e
    · subst e; simp [deps]; omega
    · have := deps_mem e; simp [deps]; omega
theorem dep_node {row : Bool} {ps : List Tr} : (Tr.node row ps).dep = deps ps + 1 := by simp [Tr.dep]
theorem dep_part {row : Bool} {ps : List Tr} {p : Tr} {m : Nat} (h : (Tr.node row ps).dep ≤ m + 1) (hp : p ∈ ps) : p.dep ≤ m := by
  have := deps_mem hp
  rw [dep_node] at h
  omega
theorem fms_mem : ∀ {ps : List Tr} {p : Tr}, Fms ps → p ∈ ps → p.Fm
  | q :: ps, p, h, hp => by
    rw [Fms] at h
    rcases List.mem_cons.mp hp with e | e
    · exact e ▸ h.1
    · exact fms_mem h.2 e
theorem fms_of : ∀ {ps : List Tr}, (∀ p ∈ ps, p.Fm) → Fms ps
  | [], _ => by rw [Fms]; trivial
  | q :: ps, h => by
    rw [Fms]
    exact ⟨h q List.mem_cons_self, fms_of fun p hp => h p (List.mem_cons_of_mem _ hp)⟩
theorem fm_node {row : Bool} {ps : List Tr} : (Tr.node row ps).Fm ↔ 2 ≤ ps.length ∧ (row = true → 3 ≤ ps.length) ∧ Fms ps := by rw [Tr.Fm]
mutual
theorem flat_pos : ∀ (t : Tr), t.Fm → 1 ≤ t.flat.length
  | .leaf i, _ => by simp [Tr.flat]
  | .node row ps, h => by
    rw [fm_node] at h
    have := flats_pos ps h.2.2
    rw [Tr.flat]
    omega
theorem flats_pos : ∀ (ps : List Tr), Fms ps → ps.length ≤ (flats ps).length
  | [], _ => by simp
  | p :: ps, h => by
    rw [Fms] at h
    have h1 := flat_pos p h.1
    have h2 := flats_pos ps h.2
    rw [flats, List.length_append, List.length_cons]
    omega
end
mutual
theorem dep_le : ∀ (t : Tr), t.Fm → t.dep ≤ t.flat.length
  | .leaf i, _ => by simp [Tr.flat, Tr.dep]
  | .node row ps, h => by
    rw [fm_node] at h
    have := deps_le ps h.2.2 h.1
    rw [dep_node, Tr.flat]
    omega
theorem deps_le : ∀ (ps : List Tr), Fms ps → 2 ≤ ps.length → deps ps + 1 ≤ (flats ps).length
  | [], _, h => by simp at h
  | [p], _, h => by simp at h
  | [p, q], h, _ => by
    rw [Fms, Fms] at h
    have h1 := dep_le p h.1
    have h2 := dep_le q h.2.1
    have h3 := flat_pos p h.1
    have h4 := flat_pos q h.2.1
    simp [flats, deps]
    omega
  | p :: q :: r :: ps, h, _ => by
    rw [Fms] at h
    have h1 := dep_le p h.1
    have h2 := deps_le (q :: r :: ps) h.2 (by simp)
    have h3 := flat_pos p h.1
    rw [flats, deps, List.length_append]
    omega
end
theorem part_len : ∀ {ps : List Tr} {p : Tr}, p ∈ ps → p.flat.length ≤ (flats ps).length
  | q :: ps, p, h => by
    rw [flats, List.length_append]
    rcases List.mem_cons.mp h with e | e
    · subst e; omega
    · have := part_len e; omega
theorem mem_flats {ps : List Tr} {a : Nat} : a ∈ flats ps ↔ ∃ p ∈ ps, a ∈ p.flat := by
  rw [flats_eq, List.mem_flatten]
  constructor
  · rintro ⟨l, h1, h2⟩
    obtain ⟨p, h3, rfl⟩ := List.mem_map.mp h1
    exact ⟨p, h3, h2⟩
  · rintro ⟨p, h1, h2⟩
    exact ⟨_, List.mem_map_of_mem h1, h2⟩
theorem ixw_lt {ps : List Tr} {a : Nat} (h : a ∈ flats ps) : ixw ps a < ps.length := by
  obtain ⟨p, h1, h2⟩ := mem_flats.mp h
  exact List.findIdx_lt_length_of_exists ⟨p, h1, by simpa using h2⟩
theorem ixw_mem {ps : List Tr} {a : Nat} (h : a ∈ flats ps) : a ∈ (ps[ixw ps a]'(ixw_lt h)).flat := by
  have := List.findIdx_getElem (xs := ps) (p := fun p : Tr => decide (a ∈ p.flat)) (w := ixw_lt h)
  exact of_decide_eq_true this
theorem ixw_min {ps : List Tr} {a i : Nat} (hi : i < ps.length) (h : a ∈ ps[i].flat) : ixw ps a ≤ i := by
  rcases Nat.lt_or_ge i (ixw ps a) with z | z
  · exfalso
    have := List.not_of_lt_findIdx (p := fun p : Tr => decide (a ∈ p.flat)) z
    simp at this
    exact this h
  · exact z
theorem flats_take_le {ps : List Tr} (i : Nat) : (flats (ps.take i)).length ≤ (flats ps).length := by
  have h2 : flats ps = flats (ps.take i) ++ flats (ps.drop i) := by rw [← flats_append, List.take_append_drop]
  rw [h2, List.length_append]
  omega
theorem flats_take_succ {ps : List Tr} {i : Nat} {q : Tr} (hq : ps[i]? = some q) : flats (ps.take (i + 1)) = flats (ps.take i) ++ q.flat := by
  rw [List.take_add_one, hq, flats_append]
  simp [flats]
theorem Tr.Ok.len {n : Nat} {t : Tr} (h : t.Ok n) : t.flat.length = n := by rw [h.pm.length_eq, List.length_range]
theorem Tr.Ok.dep {n : Nat} {t : Tr} (h : t.Ok n) : t.dep ≤ 9 := Nat.le_trans (dep_le t h.fm) (by rw [h.len]; exact h.hi)
end Wk
/-! ## F1 -/
set_option Elab.async false
set_option linter.all false
set_option autoImplicit false
set_option maxRecDepth 100000
set_option maxHeartbeats 4000000
namespace Wk
open PySem PySem.Spec L2
section
variable {P : Program} {w : World} {K : PySem.W.Frag} {mg : Str → Option Value} {base : Heap} {f : Addr} {fd : FuncData} {k : Nat}
theorem ok_is_size (T : Tp K mg) (F : Fun K "is_size" "is_size" s_is_size f fd) : FnOk P w K mg base CX0 (k + 1) f fd ["n"] (spec K pre_is_size) := by
  refine okOf F sc_is_size (by decide) (by rintro _ _ ⟨_, rfl, _⟩; rfl) fun cdv Aa outer s H0 E hr => ⟨_, d_is_size T hr, ?_⟩
  rintro _ _ pf ⟨n, rfl, rfl⟩
  show Sx K H0 (t_is_size K) [.d (.int n)] _
  exact sx_retD (ev_chain ev_int (ev_var rfl) fun _ => ev_int) fun v H' r => r
theorem ok_is_thing (T : Tp K mg) (F : Fun K "is_thing" "is_thing" s_is_thing f fd) : FnOk P w K mg base CX0 (k + 1) f fd ["tree"] (spec K pre_is_thing) := by
  refine okOf F sc_is_thing (by decide) (by rintro _ _ ⟨_, rfl, _⟩; rfl) fun cdv Aa outer s H0 E hr => ⟨_, d_is_thing T hr, ?_⟩
  rintro _ _ pf ⟨d, rfl, hd, rfl⟩
  show Sx K H0 (t_is_thing K) [.d d] _
  refine sx_retD (ev_isi (ev_var rfl) ?_) fun v H' r => r
  rcases hd with ⟨i, rfl⟩ | ⟨ds, rfl⟩
  · show kitB "int" "int" = some true
    decide +kernel
  · show kitB "tuple" "int" = some false
    decide +kernel
/-! a tree's data -/
theorem enc_isInt_leaf (i : Nat) : isInt (Tr.leaf i).enc = true := rfl
theorem enc_cases (t : Tr) : (∃ i, t.enc = .int i) ∨ ∃ ds, t.enc = .tup ds := by
  cases t with
  | leaf i => exact .inl ⟨_, rfl⟩
  | node row ps => exact .inr ⟨_, rfl⟩
theorem dis_append (a b : List Nat) : dis (a ++ b) = dis a ++ dis b := by simp [dis]
theorem dis_len (a : List Nat) : (dis a).length = a.length := by simp [dis]
theorem ok_listed {m : Nat} (T : Tp K mg) (F : Fun K "listed" "listed" s_listed f fd) (C1 : Cal P w K mg base k "is_thing" ["tree"] pre_is_thing) (C2 : Cal P w K mg base k "listed" ["tree"] (pre_listed m)) :
    FnOk P w K mg base CX0 (k + 1) f fd ["tree"] (spec K (pre_listed (m + 1))) := by
  refine okOf F sc_listed (by decide) (by rintro _ _ ⟨_, rfl, _⟩; rfl) fun cdv Aa outer s H0 E hr => ⟨_, d_listed T (C_is_thing := C1) (C_listed := C2) hr, ?_⟩
  rintro _ _ pf ⟨t, rfl, hm, hl, rfl⟩
  show Sx K H0 (t_listed K m) [.d t.enc, .u, .u] _
  refine sx_seq (sx_if (et_B (ev_callD (ea_d (ev_var rfl) ea_nil) ⟨_, rfl, enc_cases t, rfl⟩)) (fun hb => ?_) fun hb => ?_)
  · cases t with
    | node row ps => cases hb
    | leaf i => exact sx_retN (ev_lst (ds := [di i]) (ea_d (ev_var rfl) ea_nil) (by show 1 ≤ 1000; decide)) fun v H' r => r
  · cases t with
    | leaf i => cases hb
    | node row ps =>
      refine sx_next ?_
      refine sx_seq (sx_setN (ev_lst (ds := []) ea_nil (by decide)) fun p => ?_)
      refine sx_seq (sx_for (vs := [2]) (ej_tup (ev_ixT (ev_var rfl) ev_int rfl)) (fun i ρ => ∃ a, ρ = [.d (Tr.node row ps).enc, .l p (dis (flats (ps.take i))), a]) ⟨.u, rfl⟩ ?_ ?_)
      · rintro i d ρ hd ⟨a, rfl⟩
        rw [encs_eq, List.getElem?_map] at hd
        obtain ⟨q, hq, rfl⟩ := Option.map_eq_some_iff.mp hd
        have e1 := flats_take_succ hq
        have hle : (flats (ps.take (i + 1))).length ≤ 100 := Nat.le_trans (flats_take_le _) hl
        rw [e1, List.length_append] at hle
        refine tg_name ?_ (by decide)
        refine sx_ext rfl (ev_callN (ea_d (ev_var rfl) ea_nil) ⟨q, rfl, ?_, by omega, rfl⟩) ?_ ⟨.d q.enc, ?_⟩
        · have := deps_mem (List.mem_of_getElem? hq)
          simp [Tr.dep] at hm
          omega
        · rw [dis_len, dis_len]; omega
        · show [_, A.l p _, _] = _
          rw [e1, dis_append]
      · rintro ρ ⟨a, rfl⟩
        refine sx_retL rfl fun v H' r => ?_
        rw [encs_eq, List.length_map, List.take_length] at r
        exact r
end
end Wk
/-! ## F2 -/
set_option Elab.async false
set_option linter.all false
set_option autoImplicit false
set_option maxRecDepth 100000
set_option maxHeartbeats 4000000
namespace Wk
open PySem PySem.Spec L2
section
variable {P : Program} {w : World} {K : PySem.W.Frag} {mg : Str → Option Value} {base : Heap} {f : Addr} {fd : FuncData} {k : Nat}
theorem all_true {α : Type} (ps : List α) : (ps.map fun _ => true).all id = true := by simp
theorem in_words (row : Bool) : inV (.str (if row then "row" else "any")) [.str "any", .str "row"] = true := by cases row <;> decide +kernel
theorem ok_has_form {m : Nat} (T : Tp K mg) (F : Fun K "has_form" "has_form" s_has_form f fd) (C1 : Cal P w K mg base k "is_thing" ["tree"] pre_is_thing) (C2 : Cal P w K mg base k "has_form" ["tree"] (pre_has_form m)) :
    FnOk P w K mg base CX0 (k + 1) f fd ["tree"] (spec K (pre_has_form (m + 1))) := by
  refine okOf F sc_has_form (by decide) (by rintro _ _ ⟨_, rfl, _⟩; rfl) fun cdv Aa outer s H0 E hr => ⟨_, d_has_form T (C_is_thing := C1) (C_has_form := C2) hr, ?_⟩
  rintro _ _ pf ⟨t, rfl, hm, hfm, hl, rfl⟩
  show Sx K H0 (t_has_form K T.aW m) [.d t.enc, .u] _
  refine sx_seq (sx_if (et_B (ev_callD (ea_d (ev_var rfl) ea_nil) ⟨_, rfl, enc_cases t, rfl⟩)) (fun hb => ?_) fun hb => ?_)
  · exact sx_retD ev_bl fun v H' r => r
  · cases t with
    | leaf i => cases hb
    | node row ps =>
      rw [fm_node] at hfm
      obtain ⟨f2, f3, f4⟩ := hfm
      have e0 : EvP K H0 (tOp (rIxT K) (tVar 0) (tC (.int 0))) [.d (Tr.node row ps).enc, .u] (PD (.str (if row then "row" else "any"))) := ev_ixT (ev_var rfl) ev_int rfl
      have e1 : EvP K H0 (tOp (rIxT K) (tVar 0) (tC (.int 1))) [.d (Tr.node row ps).enc, .u] (PD (.tup (encs ps))) := ev_ixT (ev_var rfl) ev_int rfl
      have el : (encs ps).length = ps.length := by rw [encs_eq, List.length_map]
      refine sx_next ?_
      refine sx_seq (sx_if (b := false) ?_ (fun h => nomatch h) fun _ => sx_next ?_)
      · refine (et_or (et_test (ev_neI (ev_lenT (ds := [.str (if row then "row" else "any"), .tup (encs ps)]) (ev_var rfl)) ev_int)) fun _ => et_or (et_test (ev_notInW T.sW e0)) fun _ => et_or (et_B (ev_callD (ea_d e1 ea_nil) ⟨_, rfl, .inr ⟨_, rfl⟩, rfl⟩)) fun _ => et_B (ev_isi (b := false) e1 ?_)).eqT ?_
        · show kitB "tuple" "str" = some false
          decide +kernel
        · rw [in_words row]; rfl
      · refine sx_seq (sx_if (b := false) ?_ (fun h => nomatch h) fun _ => sx_next ?_)
        · refine (et_or (et_test (ev_ib (ev_lenT e1) ev_int)) fun _ => et_and (et_test (ev_eqS e0 ev_str)) fun _ => et_test (ev_ib (ev_lenT e1) ev_int)).eqT ?_
          rw [el]
          have h2 : decide (((ps.length : Nat) : Int) < 2) = false := decide_eq_false (by omega)
          rw [h2, Bool.false_or]
          cases row with
          | false =>
            have : decide ((if false = true then ("row" : Str) else "any") = "row") = false := by decide +kernel
            rw [this]; rfl
          | true =>
            have h3 := f3 rfl
            have : decide (((ps.length : Nat) : Int) < 3) = false := decide_eq_false (by omega)
            rw [this, Bool.and_false]
        · have hp : ps.length ≤ 100 := Nat.le_trans (flats_pos ps f4) hl
          refine sx_retD ((ev_all (bs := ps.map fun _ => true) ((ev_lc1 (xs := ps) Tr.enc (fun _ => .bl true) (by rw [← encs_eq]; exact (ej_tup e1).i) (by omega) fun q hq => ?_).S.eqS ?_)).eqD ?_) fun v H' r => r
          · refine tg_name ?_ (by decide)
            exact ev_callD (ea_d (ev_var rfl) ea_nil) ⟨q, rfl, dep_part hm hq, fms_mem f4 hq, Nat.le_trans (part_len hq) hl, rfl⟩
          · simp
          · rw [all_true]
theorem pm_dint {a b : List Nat} (h : a.Perm b) : (a.map dint).Perm (b.map dint) := h.map _
theorem srt_range (n : Nat) : ((List.range n).map dint).Pairwise (· ≤ ·) := by
  rw [List.pairwise_map]
  exact List.pairwise_lt_range.imp fun {a b} h => by simp [dint]; omega
theorem ok_check_tree (T : Tp K mg) (F : Fun K "check_tree" "check_tree" s_check_tree f fd) (C1 : Cal P w K mg base k "is_size" ["n"] pre_is_size) (C2 : Cal P w K mg base k "has_form" ["tree"] (pre_has_form 9)) (C3 : Cal P w K mg base k "listed" ["tree"] (pre_listed 9)) :
    FnOk P w K mg base CX0 (k + 1) f fd ["n", "tree"] (spec K pre_check_tree) := by
  refine okOf F sc_check_tree (by decide) (by rintro _ _ ⟨_, _, rfl, _⟩; rfl) fun cdv Aa outer s H0 E hr => ⟨_, d_check_tree T (C_is_size := C1) (C_has_form := C2) (C_listed := C3) hr, ?_⟩
  rintro _ _ pf ⟨n, t, rfl, ok, rfl⟩
  show Sx K H0 (t_check_tree K 9 9) [.d (di n), .d t.enc] _
  have h1 := ok.lo
  have h9 := ok.hi
  have hl := ok.len
  refine sx_seq (sx_if (b := false) ?_ (fun h => nomatch h) fun _ => sx_next (sx_retD (ev_var rfl) fun v H' r => r))
  refine (et_or (et_not (et_B (ev_callD (ea_d (ev_var rfl) ea_nil) ⟨_, rfl, rfl⟩))) fun _ => et_or (et_not (et_B (ev_callD (ea_d (ev_var rfl) ea_nil) ⟨t, rfl, ok.dep, ok.fm, by omega, rfl⟩))) fun _ =>
    et_test (ev_neLI (ns := (List.range n).map dint) (ms := (List.range n).map dint) (ev_sorted (ns := t.flat.map dint) ((ev_callN (ea_d (ev_var rfl) ea_nil) ⟨t, rfl, ok.dep, by omega, rfl⟩).S.eqS (dis_eq _)) (pm_dint ok.pm.symm) (srt_range n)).S ((ev_listRg (ev_var rfl) (by omega)).S.eqS (dis_eq _)))).eqT ?_
  have a1 : decide ((1 : Int) ≤ (n : Int)) = true := decide_eq_true (by omega)
  have a2 : decide ((n : Int) ≤ 24) = true := decide_eq_true (by omega)
  rw [a1, a2]
  simp
theorem ok_need_tree (T : Tp K mg) (F : Fun K "need_tree" "need_tree" s_need_tree f fd) (C1 : Cal P w K mg base k "check_tree" ["n", "tree"] pre_check_tree) (C2 : Cal P w K mg base k "has_form" ["tree"] (pre_has_form 9)) (C3 : Cal P w K mg base k "listed" ["tree"] (pre_listed 9)) :
    FnOk P w K mg base CX0 (k + 1) f fd ["tree"] (spec K pre_need_tree) := by
  refine okOf F sc_need_tree (by decide) (by rintro _ _ ⟨_, _, rfl, _⟩; rfl) fun cdv Aa outer s H0 E hr => ⟨_, d_need_tree T (C_check_tree := C1) (C_has_form := C2) (C_listed := C3) hr, ?_⟩
  rintro _ _ pf ⟨n, t, rfl, ok, rfl⟩
  show Sx K H0 (t_need_tree K 9 9) [.d t.enc] _
  have h9 := ok.hi
  have hl := ok.len
  refine sx_seq (sx_if (et_not (et_B (ev_callD (ea_d (ev_var rfl) ea_nil) ⟨t, rfl, ok.dep, ok.fm, by omega, rfl⟩))) (fun h => nomatch h) fun _ => sx_next ?_)
  exact sx_drop (ev_callD (ea_d ((ev_lenL (ev_callN (ea_d (ev_var rfl) ea_nil) ⟨t, rfl, ok.dep, by omega, rfl⟩).S).eqD (by rw [dis_len, hl] <;> rfl)) (ea_d (ev_var rfl) ea_nil)) ⟨n, t, rfl, ok, rfl⟩) fun H' _ => Rp.non
theorem ok_need_few_parts {m : Nat} (T : Tp K mg) (F : Fun K "need_few_parts" "need_few_parts" s_need_few_parts f fd) (C1 : Cal P w K mg base k "is_thing" ["tree"] pre_is_thing) (C2 : Cal P w K mg base k "need_few_parts" ["tree"] (pre_need_few_parts m)) :
    FnOk P w K mg base CX0 (k + 1) f fd ["tree"] (spec K (pre_need_few_parts (m + 1))) := by
  refine okOf F sc_need_few_parts (by decide) (by rintro _ _ ⟨_, rfl, _⟩; rfl) fun cdv Aa outer s H0 E hr => ⟨_, d_need_few_parts T (C_is_thing := C1) (C_need_few_parts := C2) hr, ?_⟩
  rintro _ _ pf ⟨t, rfl, hm, hfm, hl, rfl⟩
  show Sx K H0 (t_need_few_parts K m) [.d t.enc, .u] _
  refine sx_seq (sx_if (et_B (ev_callD (ea_d (ev_var rfl) ea_nil) ⟨_, rfl, enc_cases t, rfl⟩)) (fun hb => sx_retn fun H' _ => Rp.non) fun hb => sx_next ?_)
  cases t with
  | leaf i => cases hb
  | node row ps =>
    rw [fm_node] at hfm
    obtain ⟨f2, f3, f4⟩ := hfm
    have e0 : EvP K H0 (tOp (rIxT K) (tVar 0) (tC (.int 0))) [.d (Tr.node row ps).enc, .u] (PD (.str (if row then "row" else "any"))) := ev_ixT (ev_var rfl) ev_int rfl
    have e1 : EvP K H0 (tOp (rIxT K) (tVar 0) (tC (.int 1))) [.d (Tr.node row ps).enc, .u] (PD (.tup (encs ps))) := ev_ixT (ev_var rfl) ev_int rfl
    have el : (encs ps).length = ps.length := by rw [encs_eq, List.length_map]
    have hp : ps.length ≤ 8 := Nat.le_trans (flats_pos ps f4) hl
    refine sx_seq (sx_if (b := false) ?_ (fun h => nomatch h) fun _ => sx_next ?_)
    · refine (et_and (et_test (ev_eqS e0 ev_str)) fun _ => et_test (ev_ib (ev_lenT e1) ev_int)).eqT ?_
      rw [el]
      have : decide ((8 : Int) < ((ps.length : Nat) : Int)) = false := decide_eq_false (by omega)
      rw [this, Bool.and_false]
    · refine sx_for (vs := [1]) (ej_tup e1) (fun i ρ => ∃ a, ρ = [.d (Tr.node row ps).enc, a]) ⟨.u, rfl⟩ ?_ ?_
      · rintro i d ρ hd ⟨a, rfl⟩
        rw [encs_eq, List.getElem?_map] at hd
        obtain ⟨q, hq, rfl⟩ := Option.map_eq_some_iff.mp hd
        have hq' := List.mem_of_getElem? hq
        refine tg_name ?_ (by decide)
        exact sx_drop (ev_callD (ea_d (ev_var rfl) ea_nil) ⟨q, rfl, dep_part hm hq', fms_mem f4 hq', Nat.le_trans (part_len hq') hl, rfl⟩) ⟨_, rfl⟩
      · rintro ρ ⟨a, rfl⟩ H' _
        exact Rp.non
theorem ok_check_different (T : Tp K mg) (F : Fun K "check_different" "check_different" s_check_different f fd) (C1 : Cal P w K mg base k "need_tree" ["tree"] pre_need_tree) (C3 : Cal P w K mg base k "listed" ["tree"] (pre_listed 9)) :
    FnOk P w K mg base CX0 (k + 1) f fd ["tree", "things"] (spec K pre_check_different) := by
  refine okOf F sc_check_different (by decide) (by rintro _ _ ⟨_, _, _, _, rfl, _⟩; rfl) fun cdv Aa outer s H0 E hr => ⟨_, d_check_different T (C_need_tree := C1) (C_listed := C3) hr, ?_⟩
  rintro _ _ pf ⟨n, a, b, t, rfl, ok, hab, ha, hb, rfl⟩
  show Sx K H0 (t_check_different K 9) [.d t.enc, .d (.tup [di a, di b]), .u, .u] _
  have hl := ok.len
  have h9 := ok.hi
  refine sx_seq (sx_drop (ev_callD (ea_d (ev_var rfl) ea_nil) ⟨n, t, rfl, ok, rfl⟩) ?_)
  refine sx_seq (sx_setD (d := di n) ((ev_lenL (ev_callN (ea_d (ev_var rfl) ea_nil) ⟨t, rfl, ok.dep, by omega, rfl⟩).S).eqD (by rw [dis_len, hl] <;> rfl)) ?_)
  show Sx K H0 _ [.d t.enc, .d (.tup [di a, di b]), .d (di n), .u] _
  refine sx_if (b := false) ?_ (fun h => nomatch h) fun _ => sx_next fun H' _ => Rp.non
  have hne : (a : Int) ≠ (b : Int) := by omega
  refine (et_or (et_test (ev_ib (ev_lenSetT (ns := [(a : Int), (b : Int)]) (ev_var rfl) (by simp [hne]) (by show 2 ≤ 100; decide)) (ev_lenT (ev_var rfl)))) fun _ => et_not (et_B (ev_all (bs := [true, true]) ((ev_lc1 (xs := [a, b]) di (fun _ => .bl true) (ej_tup (ev_var rfl)).i (by show 2 ≤ 100000; decide) fun q hq => ?_).S)))).eqT ?_
  · refine tg_name ?_ (by decide)
    refine (ev_chain ev_int (ev_var rfl) fun _ => ev_var rfl).eqD ?_
    have hq2 : q < n := by
      rcases List.mem_cons.mp hq with e | e
      · omega
      · rcases List.mem_cons.mp e with e | e
        · omega
        · cases e
    have b1 : decide ((0 : Int) ≤ (q : Int)) = true := decide_eq_true (by omega)
    have b2 : decide ((q : Int) < (n : Int)) = true := decide_eq_true (by omega)
    rw [b1, b2]; rfl
  · simp
end
end Wk
/-! ## F3 -/
set_option Elab.async false
set_option linter.all false
set_option autoImplicit false
set_option maxRecDepth 100000
set_option maxHeartbeats 4000000
namespace Wk
open PySem PySem.Spec L2
section
variable {P : Program} {w : World} {K : PySem.W.Frag} {mg : Str → Option Value} {base : Heap} {f : Addr} {fd : FuncData} {k : Nat}
theorem mem_dint {a : Nat} {l : List Nat} : ((a : Nat) : Int) ∈ l.map dint ↔ a ∈ l := by
  rw [List.mem_map]
  constructor
  · rintro ⟨b, h1, h2⟩
    have : b = a := by simp [dint] at h2; omega
    exact this ▸ h1
  · intro h
    exact ⟨a, h, rfl⟩
theorem dec_dint {a : Nat} {l : List Nat} : decide (((a : Nat) : Int) ∈ l.map dint) = decide (a ∈ l) := decide_eq_decide.mpr mem_dint
theorem encs_get {ps : List Tr} {i : Nat} (h : i < ps.length) : (encs ps)[i]? = some ps[i].enc := by
  rw [encs_eq, List.getElem?_map, List.getElem?_eq_getElem h]; rfl
theorem rngD_di (n : Nat) : rngD n = (List.range n).map di := rfl
theorem ok_index_with (T : Tp K mg) (F : Fun K "index_with" "index_with" s_index_with f fd) (C1 : Cal P w K mg base k "listed" ["tree"] (pre_listed 9)) :
    FnOk P w K mg base CX0 (k + 1) f fd ["parts", "thing"] (spec K pre_index_with) := by
  refine okOf F sc_index_with (by decide) (by rintro _ _ ⟨_, _, rfl, _⟩; rfl) fun cdv Aa outer s H0 E hr => ⟨_, d_index_with T (C_listed := C1) hr, ?_⟩
  rintro _ _ pf ⟨ps, a, rfl, ha, hl, hd, hp, rfl⟩
  show Sx K H0 (t_index_with K 9) [.d (.tup (encs ps)), .d (di a), .u] _
  have el : (encs ps).length = ps.length := by rw [encs_eq, List.length_map]
  have hx := ixw_lt ha
  refine sx_retD (ev_min (ns := (((List.range ps.length).filter fun i => decide (a ∈ (ps.getD i (.leaf 0)).flat)).map dint)) (m := ((ixw ps a : Nat) : Int))
    ((ev_lc (xs := List.range ps.length) di (fun i => decide (a ∈ (ps.getD i (.leaf 0)).flat)) di (ej_range (n := ps.length) (ea_d ((ev_lenT (ev_var rfl)).eqD (by rw [el])) ea_nil) (by omega)).i (by rw [List.length_range]; omega) fun i hi => ?_).S.eqS (dis_eq _)) ?_ ?_) fun v H' r => r
  · have hi' : i < ps.length := List.mem_range.mp hi
    have hq : ps[i] ∈ ps := List.getElem_mem hi'
    refine tg_name ?_ (by decide)
    refine ⟨(et_test (ev_inL (neg := false) (ns := ps[i].flat.map dint) (ev_var rfl) ((ev_callN (ea_d (ev_ixT (ev_var rfl) (ev_var rfl) (atI_dn (encs_get hi'))) ea_nil) ⟨ps[i], rfl, Nat.le_trans (deps_mem hq) hd, Nat.le_trans (part_len hq) (by omega), rfl⟩).S.eqS (dis_eq _)))).eqT ?_, fun _ => ev_var rfl⟩
    show decide _ = _
    rw [dec_dint, List.getD_eq_getElem?_getD, List.getElem?_eq_getElem hi']; rfl
  · rw [mem_dint, List.mem_filter, List.mem_range]
    refine ⟨hx, ?_⟩
    rw [List.getD_eq_getElem?_getD, List.getElem?_eq_getElem hx]
    exact decide_eq_true (ixw_mem ha)
  · intro y hy
    obtain ⟨i, h1, rfl⟩ := List.mem_map.mp hy
    rw [List.mem_filter, List.mem_range] at h1
    have h2 := h1.2
    rw [List.getD_eq_getElem?_getD, List.getElem?_eq_getElem h1.1] at h2
    have := ixw_min h1.1 (of_decide_eq_true h2)
    simp [dint]
    omega
theorem ok_check_wishes (T : Tp K mg) (F : Fun K "check_wishes" "check_wishes" s_check_wishes f fd) (C1 : Cal P w K mg base k "need_tree" ["tree"] pre_need_tree) (C2 : Cal P w K mg base k "check_different" ["tree", "things"] pre_check_different) :
    FnOk P w K mg base CX0 (k + 1) f fd ["tree", "wishes"] (spec K pre_check_wishes) := by
  refine okOf F sc_check_wishes (by decide) (by rintro _ _ ⟨_, _, _, rfl, _⟩; rfl) fun cdv Aa outer s H0 E hr => ⟨_, d_check_wishes T (C_need_tree := C1) (C_check_different := C2) hr, ?_⟩
  rintro _ _ pf ⟨n, t, ws, rfl, ok, hw, hl, rfl⟩
  show Sx K H0 (t_check_wishes K) [.d t.enc, .d (.tup (ws.map encW)), .u] _
  refine sx_seq (sx_drop (ev_callD (ea_d (ev_var rfl) ea_nil) ⟨n, t, rfl, ok, rfl⟩) ?_)
  refine sx_for (vs := [2]) (ej_tup (ev_var rfl)) (fun i ρ => ∃ a, ρ = [.d t.enc, .d (.tup (ws.map encW)), a]) ⟨.u, rfl⟩ ?_ ?_
  · rintro i d ρ hd ⟨a, rfl⟩
    rw [List.getElem?_map] at hd
    obtain ⟨q, hq, rfl⟩ := Option.map_eq_some_iff.mp hd
    obtain ⟨w1, w2, w3⟩ := hw q (List.mem_of_getElem? hq)
    refine tg_name ?_ (by decide)
    refine sx_seq (sx_if (b := false) ((et_test (ev_neI (ev_lenT (ds := [di q.1, di q.2]) (ev_var rfl)) ev_int)).eqT rfl) (fun h => nomatch h) fun _ => sx_next ?_)
    exact sx_drop (ev_callD (ea_d (ev_var rfl) (ea_d (ev_var rfl) ea_nil)) ⟨n, q.1, q.2, t, rfl, ok, w1, w2, w3, rfl⟩) ⟨_, rfl⟩
  · rintro ρ ⟨a, rfl⟩ H' _
    exact Rp.non
theorem ok_numbered (T : Tp K mg) (F : Fun K "numbered" "numbered" s_numbered f fd) : FnOk P w K mg base CX0 (k + 1) f fd ["wishes"] (spec K pre_numbered) := by
  refine okOf F sc_numbered (by decide) (by rintro _ _ ⟨_, rfl, _⟩; rfl) fun cdv Aa outer s H0 E hr => ⟨_, d_numbered T hr, ?_⟩
  rintro _ _ pf ⟨ws, rfl, hl, rfl⟩
  show Sx K H0 (t_numbered K) [.d (.tup (ws.map encW)), .u] _
  refine sx_retN ((ev_lc1 (xs := List.range ws.length) di (fun i => enc3 ((ws.getD i (0, 0)).1, (ws.getD i (0, 0)).2, i)) (ej_range (n := ws.length) (ea_d ((ev_lenT (ev_var rfl)).eqD (by rw [List.length_map])) ea_nil) (by omega)).i (by rw [List.length_range]; omega) fun i hi => ?_).eqN ?_) fun v H' r => r
  · have hi' : i < ws.length := List.mem_range.mp hi
    refine tg_name ?_ (by decide)
    have e : EvP K H0 (tOp (rIxT K) (tVar 0) (tVar 1)) [.d (.tup (ws.map encW)), .d (di i)] (PD (.tup [di ws[i].1, di ws[i].2])) :=
      ev_ixT (ev_var rfl) (ev_var rfl) (atI_dn (by rw [List.getElem?_map, List.getElem?_eq_getElem hi']; rfl))
    refine (ev_tup (ds := [di ws[i].1, di ws[i].2, di i]) (ea_d (ev_ixT e ev_int atI_0) (ea_d (ev_ixT e ev_int atI_1) (ea_d (ev_var rfl) ea_nil))) (by show 3 ≤ 1000; decide)).eqD ?_
    rw [List.getD_eq_getElem?_getD, List.getElem?_eq_getElem hi']; rfl
  · unfold numb
    rw [List.map_map]; rfl
theorem met_snoc (ps : List Tr) (l : List Tri) (x : Tri) : met ps (l ++ [x]) = met ps l ++ (if ixw ps x.1 ≠ ixw ps x.2.1 then [(ixw ps x.1, ixw ps x.2.1, x.2.2)] else []) := by
  unfold met
  rw [List.filter_append, List.map_append, List.filter_cons]
  by_cases h : ixw ps x.1 = ixw ps x.2.1 <;> simp [h]
theorem met_len (ps : List Tr) (l : List Tri) : (met ps l).length ≤ l.length := by
  unfold met
  rw [List.length_map]
  exact List.length_filter_le _ _
theorem within_len (ps : List Tr) (l : List Tri) (k : Nat) : (within ps l k).length ≤ l.length := List.length_filter_le _ _
theorem ok_met_here (T : Tp K mg) (F : Fun K "met_here" "met_here" s_met_here f fd) (C1 : Cal P w K mg base k "index_with" ["parts", "thing"] pre_index_with) :
    FnOk P w K mg base CX0 (k + 1) f fd ["parts", "told"] (spec K pre_met_here) := by
  refine okOf F sc_met_here (by decide) (by rintro _ _ ⟨_, _, rfl, _⟩; rfl) fun cdv Aa outer s H0 E hr => ⟨_, d_met_here T (C_index_with := C1) hr, ?_⟩
  rintro _ _ pf ⟨ps, told, rfl, ok, rfl⟩
  show Sx K H0 (t_met_here K) [.d (.tup (encs ps)), .b (pf 1) (told.map enc3), .u, .u, .u, .u, .u, .u] _
  refine sx_seq (sx_setN ev_lst0 fun p => ?_)
  refine sx_seq (sx_forL (vs := [3, 4, 5]) (k := 1) (.inr rfl) (fun i ρ => ∃ a b c d e, ρ = [.d (.tup (encs ps)), .b (pf 1) (told.map enc3), .l p ((met ps (told.take i)).map enc3), a, b, c, d, e]) ⟨.u, .u, .u, .u, .u, rfl⟩ ?_ ?_ ?_)
  · rintro i ρ ⟨a, b, c, d, e, rfl⟩
    exact .inr rfl
  · rintro i d ρ hd ⟨a, b, c, e, g, rfl⟩
    rw [List.getElem?_map] at hd
    obtain ⟨q, hq, rfl⟩ := Option.map_eq_some_iff.mp hd
    obtain ⟨_, m1, m2⟩ := ok.td q (List.mem_of_getElem? hq)
    refine tg_tup (tgs_cons (tg_name (tgs_cons (tg_name (tgs_cons (tg_name (tgs_nil ?_) (by decide))) (by decide))) (by decide))) rfl
    refine sx_seq (sx_setD (d := di (ixw ps q.1)) (ev_callD (ea_d (ev_var rfl) (ea_d (ev_var rfl) ea_nil)) ⟨ps, q.1, rfl, m1, ok.ln, ok.dp, ok.pl, rfl⟩) ?_)
    refine sx_seq (sx_setD (d := di (ixw ps q.2.1)) (ev_callD (ea_d (ev_var rfl) (ea_d (ev_var rfl) ea_nil)) ⟨ps, q.2.1, rfl, m2, ok.ln, ok.dp, ok.pl, rfl⟩) ?_)
    have et : told.take (i + 1) = told.take i ++ [q] := by rw [List.take_add_one, hq]; rfl
    have hl : (met ps (told.take i)).length ≤ 6 := Nat.le_trans (met_len _ _) (by rw [List.length_take]; have := ok.tl; omega)
    refine sx_if (et_test (ev_neI (i := ((ixw ps q.1 : Nat) : Int)) (j := ((ixw ps q.2.1 : Nat) : Int)) (ev_var rfl) (ev_var rfl))) (fun hb => ?_) fun hb => ?_
    · have hne : ixw ps q.1 ≠ ixw ps q.2.1 := fun z => by rw [z] at hb; simp at hb
      refine sx_appD rfl (ev_tup (ds := [di (ixw ps q.1), di (ixw ps q.2.1), di q.2.2]) (ea_d (ev_var rfl) (ea_d (ev_var rfl) (ea_d (ev_var rfl) ea_nil))) (by show 3 ≤ 1000; decide)) (by rw [List.length_map]; omega) ?_
      exact ⟨_, _, _, _, _, by rw [et, met_snoc, if_pos hne, List.map_append]; rfl⟩
    · have he : ixw ps q.1 = ixw ps q.2.1 := by
        simp at hb; omega
      exact sx_next ⟨_, _, _, _, _, by rw [et, met_snoc, if_neg (fun z => z he), List.append_nil]; rfl⟩
  · rintro ρ ⟨a, b, c, d, e, rfl⟩
    refine sx_retL rfl fun v H' r => ?_
    rw [List.length_map, List.take_length] at r
    exact r
theorem ok_met_within (T : Tp K mg) (F : Fun K "met_within" "met_within" s_met_within f fd) (C1 : Cal P w K mg base k "index_with" ["parts", "thing"] pre_index_with) :
    FnOk P w K mg base CX0 (k + 1) f fd ["parts", "told", "part"] (spec K pre_met_within) := by
  refine okOf F sc_met_within (by decide) (by rintro _ _ ⟨_, _, _, rfl, _⟩; rfl) fun cdv Aa outer s H0 E hr => ⟨_, d_met_within T (C_index_with := C1) hr, ?_⟩
  rintro _ _ pf ⟨ps, told, x, rfl, ok, rfl⟩
  show Sx K H0 (t_met_within K) [.d (.tup (encs ps)), .b (pf 1) (told.map enc3), .d (di x), .u] _
  refine sx_retN (ev_lc (xs := told) enc3 (fun w => decide (ixw ps w.1 = x) && decide (x = ixw ps w.2.1)) enc3 (ei_list (ev_varB rfl)) (by have := ok.tl; omega) fun q hq => ?_) fun v H' r => r
  obtain ⟨_, m1, m2⟩ := ok.td q hq
  refine tg_name ?_ (by decide)
  refine ⟨(et_test (ev_chainEq (ev_callD (ea_d (ev_var rfl) (ea_d (ev_ixT (ds := [di q.1, di q.2.1, di q.2.2]) (ev_var rfl) ev_int atI_0) ea_nil)) ⟨ps, q.1, rfl, m1, ok.ln, ok.dp, ok.pl, rfl⟩) (ev_var rfl) fun _ => ev_callD (ea_d (ev_var rfl) (ea_d (ev_ixT (ds := [di q.1, di q.2.1, di q.2.2]) (ev_var rfl) ev_int atI_1) ea_nil)) ⟨ps, q.2.1, rfl, m2, ok.ln, ok.dp, ok.pl, rfl⟩)).eqT ?_, fun _ => ev_var rfl⟩
  have e1 : decide (((ixw ps q.1 : Nat) : Int) = (x : Int)) = decide (ixw ps q.1 = x) := decide_eq_decide.mpr (by omega)
  have e2 : decide ((x : Int) = ((ixw ps q.2.1 : Nat) : Int)) = decide (x = ixw ps q.2.1) := decide_eq_decide.mpr (by omega)
  rw [e1, e2]
end
end Wk
/-! ## M2 -/
set_option linter.all false
set_option autoImplicit false
/-! Walks among demands; the search for a ring; a sequence without a ring; who stands ahead. -/
namespace Wk
/-! ### walks -/
theorem Walk.trans {dem : List Tri} {i j k : Nat} {r q : List Nat} (h : Walk dem i j r) (g : Walk dem j k q) : Walk dem i k (r ++ q) := by
  induction g with
  | one hd => exact .snoc h hd
  | snoc _ hd ih =>
    rw [← List.append_assoc]
    exact .snoc ih hd
theorem Walk.last {dem : List Tri} {i j : Nat} {r : List Nat} (h : Walk dem i j r) : ∃ l x, (l, j, x) ∈ dem := by
  cases h with
  | one hd => exact ⟨_, _, hd⟩
  | snoc _ hd => exact ⟨_, _, hd⟩
theorem Walk.first {dem : List Tri} {i j : Nat} {r : List Nat} (h : Walk dem i j r) : ∃ l x, (i, l, x) ∈ dem := by
  induction h with
  | one hd => exact ⟨_, _, hd⟩
  | snoc _ _ ih => exact ih
theorem sub_len {l L : List Nat} (hn : l.Nodup) (hs : ∀ x ∈ l, x ∈ L) : l.length ≤ L.length := by
  induction l generalizing L with
  | nil => simp
  | cons a l ih =>
    have ha : a ∈ L := hs a List.mem_cons_self
    rw [List.nodup_cons] at hn
    have h2 : l.length ≤ (L.erase a).length := ih hn.2 fun x hx => by
      have hne : x ≠ a := fun z => hn.1 (z ▸ hx)
      exact (List.mem_erase_of_ne hne).mpr (hs x (List.mem_cons_of_mem _ hx))
    rw [List.length_erase_of_mem ha] at h2
    have := List.length_pos_of_mem ha
    rw [List.length_cons]
    omega

/-! ### the search from a part -/
structure Bfs (dem : List Tri) (k s : Nat) (cs : List (Nat × List Nat)) (at' : Nat) (vis : List Nat) : Prop where
  wk : ∀ c ∈ cs, Walk dem s c.1 c.2
  le : at' ≤ cs.length
  ln : ∀ c ∈ cs, c.2.length ≤ vis.length + 1
  nd : vis.Nodup
  lt : ∀ v ∈ vis, v < k
  ns : s ∉ vis
  st : ∀ j x, (s, j, x) ∈ dem → ∃ r, (j, r) ∈ cs
  vs : ∀ v ∈ vis, ∀ j x, (v, j, x) ∈ dem → ∃ r, (j, r) ∈ cs
  pr : ∀ i c, i < at' → cs[i]? = some c → c.1 ∈ vis
  cl : cs.length ≤ 6 + 6 * vis.length
def outOf (dem : List Tri) (l : Nat) (r : List Nat) : List (Nat × List Nat) := (dem.filter fun d => decide (d.1 = l)).map fun d => (d.2.1, r ++ [d.2.2])
theorem outOf_len (dem : List Tri) (l : Nat) (r : List Nat) : (outOf dem l r).length ≤ dem.length := by
  unfold outOf
  rw [List.length_map]
  exact List.length_filter_le _ _
theorem mem_outOf {dem : List Tri} {l : Nat} {r : List Nat} {c : Nat × List Nat} : c ∈ outOf dem l r ↔ ∃ j x, (l, j, x) ∈ dem ∧ c = (j, r ++ [x]) := by
  unfold outOf
  simp only [List.mem_map, List.mem_filter, decide_eq_true_eq]
  constructor
  · rintro ⟨⟨a, b, x⟩, ⟨h1, h2⟩, rfl⟩
    simp only at h2
    subst h2
    exact ⟨b, x, h1, rfl⟩
  · rintro ⟨j, x, h1, rfl⟩
    exact ⟨(l, j, x), ⟨h1, rfl⟩, rfl⟩
theorem bfs_start {dem : List Tri} {k s : Nat} (hl : dem.length ≤ 6) : Bfs dem k s (outOf dem s []) 0 [] where
  wk := fun c hc => by
    obtain ⟨j, x, h1, rfl⟩ := mem_outOf.mp hc
    exact .one h1
  le := Nat.zero_le _
  ln := fun c hc => by
    obtain ⟨j, x, h1, rfl⟩ := mem_outOf.mp hc
    simp
  nd := List.nodup_nil
  lt := fun _ h => by cases h
  ns := by simp
  st := fun j x h => ⟨[] ++ [x], mem_outOf.mpr ⟨j, x, h, rfl⟩⟩
  vs := fun _ h => by cases h
  pr := fun _ _ h => absurd h (Nat.not_lt_zero _)
  cl := by have := outOf_len dem s []; simp; omega
/-- an entry whose part was met before -/
theorem Bfs.old {dem : List Tri} {k s : Nat} {cs : List (Nat × List Nat)} {a : Nat} {vis : List Nat} (b : Bfs dem k s cs a vis) {l : Nat} {r : List Nat} (hc : cs[a]? = some (l, r)) (hv : l ∈ vis) : Bfs dem k s cs (a + 1) vis where
  wk := b.wk
  le := (List.getElem?_eq_some_iff.mp hc).1
  ln := b.ln
  nd := b.nd
  lt := b.lt
  ns := b.ns
  st := b.st
  vs := b.vs
  pr := fun i c hi h => by
    by_cases e : i = a
    · subst e
      rw [hc] at h
      cases h
      exact hv
    · exact b.pr i c (by omega) h
  cl := b.cl
/-- an entry whose part is met now -/
theorem Bfs.new {dem : List Tri} {k s : Nat} {cs : List (Nat × List Nat)} {a : Nat} {vis : List Nat} (b : Bfs dem k s cs a vis) (hl : dem.length ≤ 6) (hk : ∀ d ∈ dem, d.1 < k ∧ d.2.1 < k) {l : Nat} {r : List Nat} (hc : cs[a]? = some (l, r)) (hs : l ≠ s) (hv : l ∉ vis) :
    Bfs dem k s (cs ++ outOf dem l r) (a + 1) (vis ++ [l]) := by
  have hm : (l, r) ∈ cs := List.mem_of_getElem? hc
  have hw := b.wk _ hm
  refine ⟨fun c h => ?_, ?_, fun c h => ?_, ?_, fun v h => ?_, fun h => ?_, fun j x h => ?_, fun v h j x hd => ?_, fun i c hi h => ?_, ?_⟩
  · rcases List.mem_append.mp h with h | h
    · exact b.wk c h
    · obtain ⟨j, x, h1, rfl⟩ := mem_outOf.mp h
      exact .snoc hw h1
  · have := (List.getElem?_eq_some_iff.mp hc).1
    rw [List.length_append]; omega
  · rw [List.length_append, List.length_singleton]
    rcases List.mem_append.mp h with h | h
    · have := b.ln c h; omega
    · obtain ⟨j, x, h1, rfl⟩ := mem_outOf.mp h
      have := b.ln _ hm
      simp at this ⊢
      omega
  · rw [List.nodup_append]
    refine ⟨b.nd, by simp, fun x hx y hy => ?_⟩
    simp at hy
    subst hy
    exact fun z => hv (z ▸ hx)
  · rcases List.mem_append.mp h with h | h
    · exact b.lt v h
    · simp at h
      subst h
      obtain ⟨q, x, hd⟩ := hw.last
      exact (hk _ hd).2
  · rcases List.mem_append.mp h with h | h
    · exact b.ns h
    · simp at h
      exact hs h.symm
  · obtain ⟨q, hq⟩ := b.st j x h
    exact ⟨q, List.mem_append_left _ hq⟩
  · rcases List.mem_append.mp h with h | h
    · obtain ⟨q, hq⟩ := b.vs v h j x hd
      exact ⟨q, List.mem_append_left _ hq⟩
    · simp at h
      subst h
      exact ⟨r ++ [x], List.mem_append_right _ (mem_outOf.mpr ⟨j, x, hd, rfl⟩)⟩
  · have hlt := (List.getElem?_eq_some_iff.mp hc).1
    rw [List.getElem?_append_left (by omega)] at h
    by_cases e : i = a
    · subst e
      rw [hc] at h
      cases h
      simp
    · exact List.mem_append_left _ (b.pr i c (by omega) h)
  · have := outOf_len dem l r
    have := b.cl
    rw [List.length_append, List.length_append, List.length_singleton]
    omega
theorem Bfs.vis_le {dem : List Tri} {k s : Nat} {cs : List (Nat × List Nat)} {a : Nat} {vis : List Nat} (b : Bfs dem k s cs a vis) : vis.length ≤ k := by
  have := sub_len (L := List.range k) b.nd fun v hv => List.mem_range.mpr (b.lt v hv)
  rwa [List.length_range] at this
/-- all entries are gone through: nothing leads back -/
theorem Bfs.done {dem : List Tri} {k s : Nat} {cs : List (Nat × List Nat)} {a : Nat} {vis : List Nat} (b : Bfs dem k s cs a vis) (ha : cs.length ≤ a) : ∀ r, ¬ Walk dem s s r := by
  have all : ∀ c ∈ cs, c.1 ∈ vis := fun c hc => by
    obtain ⟨i, hi⟩ := List.mem_iff_getElem?.mp hc
    exact b.pr i c (Nat.lt_of_lt_of_le (List.getElem?_eq_some_iff.mp hi).1 ha) hi
  have go : ∀ j r, Walk dem s j r → j ∈ vis := fun j r h => by
    generalize hi : s = i at h
    induction h with
    | one hd =>
      subst hi
      obtain ⟨q, hq⟩ := b.st _ _ hd
      exact all _ hq
    | snoc _ hd ih =>
      obtain ⟨q, hq⟩ := b.vs _ ih _ _ hd
      exact all _ hq
  exact fun r h => b.ns (go s r h)

/-! ### a sequence of the parts -/
/-- where each of L has a demand from within L, some walk comes back -/
theorem ring_of_full {dem : List Tri} {L : List Nat} (h0 : L ≠ []) (hp : ∀ j ∈ L, ∃ i x, (i, j, x) ∈ dem ∧ i ∈ L) : ∃ s r, Walk dem s s r := by
  apply Classical.byContradiction
  intro no
  have no' : ∀ s r, ¬ Walk dem s s r := fun s r h => no ⟨s, r, h⟩
  have go : ∀ n : Nat, ∃ (h : Nat) (l : List Nat), l.length = n ∧ (h :: l).Nodup ∧ (∀ x ∈ h :: l, x ∈ L) ∧ ∀ y ∈ l, ∃ r, Walk dem h y r := fun n => by
    induction n with
    | zero =>
      cases L with
      | nil => exact absurd rfl h0
      | cons a L => exact ⟨a, [], rfl, by simp, by simp, by simp⟩
    | succ n ih =>
      obtain ⟨h, l, h1, h2, h3, h4⟩ := ih
      obtain ⟨p, x, hd, hpL⟩ := hp h (h3 h List.mem_cons_self)
      have hn : p ∉ h :: l := fun z => by
        rcases List.mem_cons.mp z with e | e
        · subst e
          exact no' _ _ (.one hd)
        · obtain ⟨r, hr⟩ := h4 p e
          exact no' _ _ (.snoc hr hd)
      refine ⟨p, h :: l, by simp [h1], List.nodup_cons.mpr ⟨hn, h2⟩, fun y hy => ?_, fun y hy => ?_⟩
      · rcases List.mem_cons.mp hy with e | e
        · exact e ▸ hpL
        · exact h3 y e
      · rcases List.mem_cons.mp hy with e | e
        · subst e
          exact ⟨_, .one hd⟩
        · obtain ⟨r, hr⟩ := h4 y e
          exact ⟨_, (Walk.one hd).trans hr⟩
  obtain ⟨h, l, h1, h2, h3, _⟩ := go L.length
  have := sub_len h2 h3
  simp at this
  omega
theorem least_of : ∀ {l : List Nat}, l ≠ [] → ∃ m ∈ l, ∀ y ∈ l, m ≤ y
  | [], h => absurd rfl h
  | [a], _ => ⟨a, by simp, by simp⟩
  | a :: b :: l, _ => by
    obtain ⟨m, h1, h2⟩ := least_of (l := b :: l) (by simp)
    by_cases h : a ≤ m
    · exact ⟨a, by simp, fun y hy => by
        rcases List.mem_cons.mp hy with e | e
        · omega
        · have := h2 y e; omega⟩
    · exact ⟨m, List.mem_cons_of_mem _ h1, fun y hy => by
        rcases List.mem_cons.mp hy with e | e
        · omega
        · exact h2 y e⟩

/-! ### who stands ahead -/
theorem bef_left {a b : Nat} : ∀ {o : List Nat}, Bef a b o → a ∈ o ∧ b ∈ o
  | x :: xs, h => by
    rw [Bef] at h
    rcases h with ⟨rfl, h⟩ | h
    · exact ⟨List.mem_cons_self, List.mem_cons_of_mem _ h⟩
    · obtain ⟨h1, h2⟩ := bef_left h
      exact ⟨List.mem_cons_of_mem _ h1, List.mem_cons_of_mem _ h2⟩
theorem bef_append {a b : Nat} : ∀ {o q : List Nat}, Bef a b (o ++ q) ↔ Bef a b o ∨ (a ∈ o ∧ b ∈ q) ∨ Bef a b q
  | [], q => by simp [Bef]
  | x :: xs, q => by
    rw [List.cons_append, Bef, Bef, bef_append (o := xs) (q := q)]
    simp only [List.mem_append, List.mem_cons]
    constructor
    · rintro (⟨h1, h2 | h2⟩ | h | ⟨h1, h2⟩ | h)
      · exact .inl (.inl ⟨h1, h2⟩)
      · exact .inr (.inl ⟨.inl h1.symm, h2⟩)
      · exact .inl (.inr h)
      · exact .inr (.inl ⟨.inr h1, h2⟩)
      · exact .inr (.inr h)
    · rintro ((⟨h1, h2⟩ | h) | ⟨h1 | h1, h2⟩ | h)
      · exact .inl ⟨h1, .inl h2⟩
      · exact .inr (.inl h)
      · exact .inl ⟨h1.symm, .inr h2⟩
      · exact .inr (.inr (.inl ⟨h1, h2⟩))
      · exact .inr (.inr (.inr h))
/-- not both ways -/
theorem bef_asym {a b : Nat} : ∀ {o : List Nat}, o.Nodup → Bef a b o → ¬ Bef b a o
  | x :: xs, hn, h, g => by
    rw [List.nodup_cons] at hn
    rw [Bef] at h g
    rcases h with ⟨rfl, h⟩ | h
    · rcases g with ⟨rfl, g⟩ | g
      · exact hn.1 g
      · exact hn.1 (bef_left g).2
    · rcases g with ⟨rfl, g⟩ | g
      · exact hn.1 (bef_left h).2
      · exact bef_asym hn.2 h g
theorem bef_total {a b : Nat} : ∀ {o : List Nat}, a ∈ o → b ∈ o → a ≠ b → Bef a b o ∨ Bef b a o
  | x :: xs, ha, hb, hne => by
    rw [Bef, Bef]
    rcases List.mem_cons.mp ha with e | e
    · subst e
      rcases List.mem_cons.mp hb with e | e
      · exact absurd e.symm hne
      · exact .inl (.inl ⟨rfl, e⟩)
    · rcases List.mem_cons.mp hb with e' | e'
      · exact .inr (.inl ⟨e'.symm, e⟩)
      · rcases bef_total e e' hne with h | h
        · exact .inl (.inr h)
        · exact .inr (.inr h)
theorem bef_trans {a b c : Nat} : ∀ {o : List Nat}, o.Nodup → Bef a b o → Bef b c o → Bef a c o
  | x :: xs, hn, h, g => by
    rw [List.nodup_cons] at hn
    rw [Bef] at h g ⊢
    rcases h with ⟨rfl, h⟩ | h
    · rcases g with ⟨rfl, g⟩ | g
      · exact absurd h hn.1
      · exact .inl ⟨rfl, (bef_left g).2⟩
    · rcases g with ⟨rfl, g⟩ | g
      · exact absurd (bef_left h).2 hn.1
      · exact .inr (bef_trans hn.2 h g)
/-- parts' orders one after the other -/
theorem bef_flat {a b : Nat} {o : Nat → List Nat} : ∀ {s : List Nat}, (∃ i ∈ s, Bef a b (o i)) → Bef a b (s.map o).flatten
  | x :: xs, ⟨i, hi, h⟩ => by
    rw [List.map_cons, List.flatten_cons, bef_append]
    rcases List.mem_cons.mp hi with e | e
    · exact .inl (e ▸ h)
    · exact .inr (.inr (bef_flat ⟨i, e, h⟩))
theorem mem_flat_map {a : Nat} {o : Nat → List Nat} {s : List Nat} {i : Nat} (hi : i ∈ s) (h : a ∈ o i) : a ∈ (s.map o).flatten := by
  rw [List.mem_flatten]
  exact ⟨o i, List.mem_map_of_mem hi, h⟩
theorem bef_flat2 {a b i j : Nat} {o : Nat → List Nat} : ∀ {s : List Nat}, Bef i j s → a ∈ o i → b ∈ o j → Bef a b (s.map o).flatten
  | x :: xs, h, ha, hb => by
    rw [List.map_cons, List.flatten_cons, bef_append]
    rw [Bef] at h
    rcases h with ⟨rfl, h⟩ | h
    · exact .inr (.inl ⟨ha, mem_flat_map h hb⟩)
    · exact .inr (.inr (bef_flat2 h ha hb))
theorem bef_range {i j n : Nat} (h : i < j) (hj : j < n) : Bef i j (List.range n) := by
  induction n with
  | zero => omega
  | succ n ih =>
    rw [List.range_succ, bef_append]
    by_cases e : j = n
    · exact .inr (.inl ⟨List.mem_range.mpr (by omega), by simp [e]⟩)
    · exact .inl (ih (by omega))
theorem bef_rev {a b : Nat} : ∀ {o : List Nat}, Bef a b o.reverse ↔ Bef b a o
  | [] => by simp [Bef]
  | x :: xs => by
    rw [List.reverse_cons, bef_append, Bef, bef_rev (o := xs)]
    simp [Bef]
    constructor
    · rintro (h | ⟨h1, h2⟩)
      · exact .inr h
      · exact .inl ⟨h2.symm, h1⟩
    · rintro (⟨h1, h2⟩ | h)
      · exact .inr ⟨h2, h1.symm⟩
      · exact .inl h
/-- the sequence that is built: all demands on what is there are kept -/
structure SeqB (dem : List Tri) (k : Nat) (left found : List Nat) : Prop where
  pm : (found ++ left).Perm (List.range k)
  kp : ∀ d ∈ dem, d.2.1 ∈ found → Bef d.1 d.2.1 found
theorem SeqB.free {dem : List Tri} {k : Nat} {left found : List Nat} (b : SeqB dem k left found) (hl : left ≠ []) (hk : ∀ d ∈ dem, d.1 < k ∧ d.2.1 < k) (no : ∀ s r, ¬ Walk dem s s r) :
    (left.filter fun i => !decide (i ∈ (dem.filter fun d => decide (d.1 ∈ left)).map fun d => d.2.1)) ≠ [] := fun z => by
  obtain ⟨s, r, h⟩ := ring_of_full (dem := dem) (L := left) hl fun j hj => by
    have hz : j ∈ (dem.filter fun d => decide (d.1 ∈ left)).map fun d => d.2.1 := by
      apply Classical.byContradiction
      intro hn
      have : j ∈ left.filter fun i => !decide (i ∈ (dem.filter fun d => decide (d.1 ∈ left)).map fun d => d.2.1) := List.mem_filter.mpr ⟨hj, by simpa using hn⟩
      rw [z] at this
      cases this
    obtain ⟨⟨i, j', x⟩, h1, h2⟩ := List.mem_map.mp hz
    simp only at h2
    subst h2
    obtain ⟨h3, h4⟩ := List.mem_filter.mp h1
    exact ⟨i, x, h3, of_decide_eq_true h4⟩
  exact no s r h
theorem SeqB.step {dem : List Tri} {k : Nat} {left found : List Nat} (b : SeqB dem k left found) (hk : ∀ d ∈ dem, d.1 < k ∧ d.2.1 < k) (hne : ∀ d ∈ dem, d.1 ≠ d.2.1) {m : Nat} (hm : m ∈ left) (hf : m ∉ (dem.filter fun d => decide (d.1 ∈ left)).map fun d => d.2.1) :
    SeqB dem k (left.erase m) (found ++ [m]) := by
  refine ⟨?_, fun d hd h => ?_⟩
  · refine List.Perm.trans ?_ b.pm
    rw [List.append_assoc, List.singleton_append]
    exact (List.perm_cons_erase hm).symm.append_left found
  · rw [bef_append]
    rcases List.mem_append.mp h with h | h
    · exact .inl (b.kp d hd h)
    · simp at h
      have hi : d.1 ∈ found ++ left := b.pm.mem_iff.mpr (List.mem_range.mpr (hk d hd).1)
      rcases List.mem_append.mp hi with g | g
      · exact .inr (.inl ⟨g, by simp [h]⟩)
      · exfalso
        refine hf (List.mem_map.mpr ⟨d, List.mem_filter.mpr ⟨hd, decide_eq_true g⟩, h⟩)
end Wk
/-! ## F4 -/
set_option Elab.async false
set_option linter.all false
set_option autoImplicit false
set_option maxRecDepth 100000
set_option maxHeartbeats 4000000
namespace Wk
open PySem PySem.Spec L2
section
variable {K : PySem.W.Frag} {H0 : Hp} {ρ : Ab} {te ta tb tc : TE} {P P1 P2 P3 : PV} {po : Po}
/-! ### a dict of ints in a slot -/
theorem sx_dnew {i : Nat} (k : ∀ p, po.N (ρ.set i (.o p (.dK [])))) : Sx K H0 (tAsg tDNewK (gName i)) ρ po := fun σ H E s n r b c => fun p hp =>
  n _ _ _ (k p) ((s.ex (ex_new hp)).set i ⟨rfl, upd_same, fun z => z⟩ fun q z => by
    cases z
    exact ⟨s.free hp, fun j b _ hb => s.new hp hb⟩) (tex (ex_new hp))
theorem own_obj {i : Nat} {p : Addr} {o : HO} {σ : L2.St} {H : Hp} (h : ρ[i]? = some (.o p o)) (s : StOk K H0 ρ σ H) : σ[i]? = some (some (.ref p)) ∧ H p = some o := by
  obtain ⟨x, h1, rfl, h2, _⟩ := s.sl i _ h
  exact ⟨h1, h2⟩
theorem et_dnotin {i : Nat} {p : Addr} {kvs : List (Key × V)} {z : Int} (hi : ρ[i]? = some (.o p (.dK kvs))) (h : EvP K H0 te ρ (PD (.int z))) : EvT K H0 (tB (tDNotIn te (tVar i))) ρ (!(valV kvs (Sum.inl z)).isSome) := fun σ H s Q q =>
  h σ H s _ fun v H1 e pv => by
    obtain ⟨h1, h2⟩ := own_obj hi s
    have := Rp.intI pv
    subst this
    exact ⟨_, h1, p, _, rfl, DGet.k (k := Sum.inl z) (e _ _ h2), _, rfl, q H1 e⟩
theorem sx_dput {i : Nat} {p : Addr} {kvs : List (Key × V)} {z : Int} {x : Bool} (hi : ρ[i]? = some (.o p (.dK kvs))) (h : EvP K H0 te ρ (PD (.int z))) (hl : kvs.length ≤ 1000) (k : po.N (ρ.set i (.o p (.dK (putK kvs (Sum.inl z) (.bl x)))))) :
    Sx K H0 (sDPut (tVar i) te (tC (.bl x))) ρ po := fun σ H E s n r b c => by
  obtain ⟨h1, h2⟩ := own_obj hi s
  refine ⟨_, h1, h σ H s _ fun v H1 e pv => ?_⟩
  have := Rp.intI pv
  subst this
  obtain ⟨s1, t1⟩ := (s.ex e).muto (o' := .dK (putK kvs (Sum.inl z) (.bl x))) hi fun z => z
  exact ⟨p, _, rfl, DPut.k (k := Sum.inl z) (e _ _ h2) (small1000 hl), n _ _ _ k s1 ((tex e).trans t1)⟩
end
def visK (vis : List Nat) : List (Key × V) := vis.map fun (n : Nat) => (Sum.inl (n : Int), V.bl true)
theorem visK_val (l : Nat) (vis : List Nat) : (valV (visK vis) (Sum.inl (l : Int))).isSome = decide (l ∈ vis) := by
  induction vis with
  | nil => rfl
  | cons v vis ih =>
    by_cases e : v = l
    · subst e
      rw [show visK (v :: vis) = (Sum.inl (v : Int), V.bl true) :: visK vis from rfl, valV_pos rfl]
      simp
    · have hne : ¬ (Sum.inl (v : Int) : Key) = Sum.inl (l : Int) := fun z => e (by injection z with z; omega)
      rw [show visK (v :: vis) = (Sum.inl (v : Int), V.bl true) :: visK vis from rfl, valV_neg hne, ih]
      have e' : ¬ l = v := fun z => e z.symm
      simp [e']
theorem visK_put {l : Nat} {vis : List Nat} (h : l ∉ vis) : putK (visK vis) (Sum.inl (l : Int)) (.bl true) = visK (vis ++ [l]) := by
  rw [putK_new]
  · simp [visK]
  · have := visK_val l vis
    rw [decide_eq_false h] at this
    cases e : valV (visK vis) (Sum.inl (l : Int)) with
    | none => rfl
    | some x => rw [e] at this; cases this
def encC (c : Nat × List Nat) : D := .tup [di c.1, .tup (dis c.2)]
section
variable {P : Program} {w : World} {K : PySem.W.Frag} {mg : Str → Option Value} {base : Heap} {f : Addr} {fd : FuncData} {k : Nat}
theorem dec_int {a b : Nat} : decide ((a : Int) = (b : Int)) = decide (a = b) := decide_eq_decide.mpr (by omega)
theorem ok_ring_from (T : Tp K mg) (F : Fun K "ring_from" "ring_from" s_ring_from f fd) : FnOk P w K mg base CX0 (k + 1) f fd ["start", "demands"] (spec K pre_ring_from) := by
  refine okOf F sc_ring_from (by decide) (by rintro _ _ ⟨_, _, _, rfl, _⟩; rfl) fun cdv Aa outer s H0 E hr => ⟨_, d_ring_from T hr, ?_⟩
  rintro _ _ pf ⟨n, st, dem, rfl, ok, rfl⟩
  show Sx K H0 (t_ring_from K) [.d (di st), .b (pf 1) (dem.map enc3), .u, .u, .u, .u, .u, .u] _
  have hdl := ok.dl
  refine sx_seq (sx_setN (ds := (outOf dem st []).map encC) ((ev_lc (xs := dem) enc3 (fun d => decide (d.1 = st)) (fun d => encC (d.2.1, [] ++ [d.2.2])) (ei_list (ev_varB rfl)) (by omega) fun q hq => ?_).eqN ?_) fun p => ?_)
  · refine tg_name ?_ (by decide)
    refine ⟨(et_test (ev_eqI (i := (q.1 : Int)) (j := (st : Int)) (ev_ixT (ds := [di q.1, di q.2.1, di q.2.2]) (ev_var rfl) ev_int atI_0) (ev_var rfl))).eqT dec_int, fun _ => ?_⟩
    exact ev_tup (ds := [di q.2.1, .tup (dis [q.2.2])]) (ea_d (ev_ixT (ds := [di q.1, di q.2.1, di q.2.2]) (ev_var rfl) ev_int atI_1) (ea_d (ev_tup (ds := [di q.2.2]) (ea_d (ev_ixT (ds := [di q.1, di q.2.1, di q.2.2]) (ev_var rfl) ev_int atI_2) ea_nil) (by show 1 ≤ 1000; decide)) ea_nil)) (by show 2 ≤ 1000; decide)
  · unfold outOf
    rw [List.map_map]; rfl
  refine sx_seq (sx_dnew fun pd => ?_)
  refine sx_seq (sx_setD (d := di 0) ev_int ?_)
  refine sx_seq (sx_while (fun m ρ => ∃ cs a vis x y, m = (n - vis.length) * 7 + (cs.length - a) ∧ Bfs dem n st cs a vis ∧ ρ = [.d (di st), .b (pf 1) (dem.map enc3), .l p (cs.map encC), .o pd (.dK (visK vis)), .d (di a), x, y, .u]) _ ⟨_, _, _, .u, .u, rfl, bfs_start hdl, rfl⟩ ?_)
  rintro m ρ ⟨cs, a, vis, x, y, rfl, B, rfl⟩
  have hcl := B.cl
  have hvl := B.vis_le
  have hkk := ok.kk
  refine ⟨_, et_test (ev_ib (i := (a : Int)) (j := ((cs.map encC).length : Nat)) (ev_var rfl) (ev_lenL (ev_varL rfl))), fun hb => ?_, fun hb => ?_⟩
  · have hlt : a < cs.length := by
      have := of_decide_eq_true hb
      rw [List.length_map] at this
      omega
    obtain ⟨⟨l, r⟩, hc⟩ : ∃ c, cs[a]? = some c := ⟨_, List.getElem?_eq_getElem hlt⟩
    have hrl := B.ln _ (List.mem_of_getElem? hc)
    refine sx_seq (sx_unp (vs := [5, 6]) (d := encC (l, r)) (ev_ixL (ev_varL rfl) (ev_var rfl) (atI_dn (by rw [List.getElem?_map, hc]; rfl))) (tg_tup (tgs_cons (tg_name (tgs_cons (tg_name (tgs_nil ?_) (by decide))) (by decide))) rfl))
    refine sx_seq (sx_if (et_test (ev_eqI (i := (l : Int)) (j := (st : Int)) (ev_var rfl) (ev_var rfl))) (fun h1 => ?_) fun h1 => sx_next ?_)
    · rw [dec_int] at h1
      have h1 := of_decide_eq_true h1
      subst h1
      refine sx_retD (ev_var rfl) fun v H' rv => ⟨_, .inr ⟨r, rfl, ?_, l, B.wk _ (List.mem_of_getElem? hc)⟩, rv⟩
      simp at hrl
      omega
    · rw [dec_int] at h1
      have h1 := of_decide_eq_false h1
      refine sx_seq (sx_if (et_dnotin (z := (l : Int)) rfl (ev_var rfl)) (fun h2 => ?_) fun h2 => sx_next ?_)
      · rw [visK_val] at h2
        have h2 : l ∉ vis := by simpa using h2
        refine sx_seq (sx_dput (z := (l : Int)) rfl (ev_var rfl) (by simp [visK]; omega) ?_)
        refine sx_ext (es := (outOf dem l r).map encC) rfl ((ev_lc (xs := dem) enc3 (fun d => decide (d.1 = l)) (fun d => encC (d.2.1, r ++ [d.2.2])) (ei_list (ev_varB rfl)) (by omega) fun q hq => ?_).eqN ?_) ?_ ?_
        · refine tg_name ?_ (by decide)
          refine ⟨(et_test (ev_eqI (i := (q.1 : Int)) (j := (l : Int)) (ev_ixT (ds := [di q.1, di q.2.1, di q.2.2]) (ev_var rfl) ev_int atI_0) (ev_var rfl))).eqT dec_int, fun _ => ?_⟩
          refine ev_tup (ds := [di q.2.1, .tup (dis (r ++ [q.2.2]))]) (ea_d (ev_ixT (ds := [di q.1, di q.2.1, di q.2.2]) (ev_var rfl) ev_int atI_1) (ea_d ((ev_catT (xs := dis r) (ys := [di q.2.2]) (ev_var rfl) (ev_tup (ds := [di q.2.2]) (ea_d (ev_ixT (ds := [di q.1, di q.2.1, di q.2.2]) (ev_var rfl) ev_int atI_2) ea_nil) (by show 1 ≤ 1000; decide)) ?_).eqD ?_) ea_nil)) (by show 2 ≤ 1000; decide)
          · rw [dis_len]
            simp at hrl ⊢
            omega
          · rw [dis_append]; rfl
        · unfold outOf
          rw [List.map_map]; rfl
        · have := outOf_len dem l r
          rw [List.length_map, List.length_map]
          omega
        · refine sx_augI (a := (a : Int)) (b := 1) rfl ev_int ?_
          have hol := outOf_len dem l r
          refine ⟨_, ?_, cs ++ outOf dem l r, a + 1, vis ++ [l], .d (di l), .d (.tup (dis r)), rfl, B.new hdl ok.lt hc h1 h2, ?_⟩
          · have h5 := (B.new hdl ok.lt hc h1 h2).vis_le
            rw [List.length_append, List.length_singleton] at h5
            rw [List.length_append, List.length_append, List.length_singleton]
            omega
          · rw [visK_put h2, List.map_append]; rfl
      · rw [visK_val] at h2
        have h2 : l ∈ vis := by simpa using h2
        refine sx_augI (a := (a : Int)) (b := 1) rfl ev_int ?_
        exact ⟨_, by omega, cs, a + 1, vis, .d (di l), .d (.tup (dis r)), rfl, B.old hc h2, rfl⟩
  · have hge : cs.length ≤ a := by
      have := of_decide_eq_false hb
      rw [List.length_map] at this
      omega
    exact sx_retD ev_non fun v H' rv => ⟨_, .inl ⟨rfl, B.done hge⟩, rv⟩
end
end Wk
/-! ## M3 -/
set_option linter.all false
set_option autoImplicit false
/-! What the parts tell, put together. -/
namespace Wk
theorem told_node_iff {row : Bool} {ps : List Tr} {o : List Nat} : Told (.node row ps) o ↔ ∃ os s, Tolds ps os ∧ SeqOk row ps.length s ∧ o = pick os s := by rw [Told]
theorem told_leaf_iff {i : Nat} {o : List Nat} : Told (.leaf i) o ↔ o = [i] := by rw [Told]
theorem SeqOk.perm {row : Bool} {k : Nat} {s : List Nat} (h : SeqOk row k s) : s.Perm (List.range k) := by
  unfold SeqOk at h
  cases row with
  | false => exact h
  | true =>
    rcases h with h | h
    · rw [h]
    · rw [h]; exact List.reverse_perm _
theorem tolds_len : ∀ {ps : List Tr} {os : List (List Nat)}, Tolds ps os → os.length = ps.length
  | [], os, h => by rw [Tolds] at h; rw [h]; rfl
  | p :: ps, os, h => by
    rw [Tolds] at h
    obtain ⟨o, r, rfl, _, h2⟩ := h
    rw [List.length_cons, List.length_cons, tolds_len h2]
theorem tolds_get : ∀ {ps : List Tr} {os : List (List Nat)} {i : Nat} (hi : i < ps.length), Tolds ps os → Told ps[i] (os.getD i [])
  | p :: ps, os, i, hi, h => by
    rw [Tolds] at h
    obtain ⟨o, r, rfl, h1, h2⟩ := h
    cases i with
    | zero => exact h1
    | succ i => exact tolds_get (ps := ps) (os := r) (by simpa using hi) h2
theorem tolds_of : ∀ {ps : List Tr} {o : Nat → List Nat}, (∀ i (hi : i < ps.length), Told ps[i] (o i)) → Tolds ps ((List.range ps.length).map o)
  | [], o, _ => by rw [Tolds]; rfl
  | p :: ps, o, h => by
    rw [Tolds]
    refine ⟨o 0, (List.range ps.length).map fun i => o (i + 1), ?_, h 0 (by simp), tolds_of fun i hi => h (i + 1) (by simpa using hi)⟩
    rw [List.length_cons, List.range_succ_eq_map, List.map_cons, List.map_map]; rfl
theorem pick_of {k : Nat} {o : Nat → List Nat} {s : List Nat} (hs : ∀ i ∈ s, i < k) : pick ((List.range k).map o) s = (s.map o).flatten := by
  unfold pick
  congr 1
  apply List.map_congr_left
  intro i hi
  rw [List.getD_eq_getElem?_getD, List.getElem?_map, List.getElem?_range (hs i hi)]; rfl
theorem told_node {row : Bool} {ps : List Tr} {o : Nat → List Nat} {s : List Nat} (hs : SeqOk row ps.length s) (h : ∀ i (hi : i < ps.length), Told ps[i] (o i)) : Told (.node row ps) (s.map o).flatten := by
  rw [told_node_iff]
  refine ⟨_, s, tolds_of h, hs, ?_⟩
  rw [pick_of]
  intro i hi
  exact List.mem_range.mp (hs.perm.mem_iff.mp hi)
theorem pick_perm {os : List (List Nat)} {s : List Nat} (h : s.Perm (List.range os.length)) : (pick os s).Perm os.flatten := by
  unfold pick
  have h1 : (s.map fun i => os.getD i []).Perm ((List.range os.length).map fun i => os.getD i []) := h.map _
  have h2 : ((List.range os.length).map fun i => os.getD i []) = os := by
    apply List.ext_getElem
    · simp
    · intro i h3 h4
      simp [List.getD_eq_getElem?_getD, List.getElem?_eq_getElem h4]
  rw [h2] at h1
  exact h1.flatten
mutual
theorem told_perm : ∀ (t : Tr) {o : List Nat}, Told t o → o.Perm t.flat
  | .leaf i, o, h => by
    rw [told_leaf_iff] at h
    rw [h, Tr.flat]
  | .node row ps, o, h => by
    rw [told_node_iff] at h
    obtain ⟨os, s, h1, h2, rfl⟩ := h
    rw [Tr.flat]
    exact (pick_perm (by rw [tolds_len h1]; exact h2.perm)).trans (tolds_perm ps h1)
theorem tolds_perm : ∀ (ps : List Tr) {os : List (List Nat)}, Tolds ps os → os.flatten.Perm (flats ps)
  | [], os, h => by
    rw [Tolds] at h
    rw [h]; simp [flats]
  | p :: ps, os, h => by
    rw [Tolds] at h
    obtain ⟨o, r, rfl, h1, h2⟩ := h
    rw [List.flatten_cons, flats]
    exact (told_perm p h1).append (tolds_perm ps h2)
end
theorem mem_met {ps : List Tr} {told : List Tri} {i j x : Nat} : (i, j, x) ∈ met ps told ↔ ∃ a b, (a, b, x) ∈ told ∧ ixw ps a ≠ ixw ps b ∧ i = ixw ps a ∧ j = ixw ps b := by
  unfold met
  rw [List.mem_map]
  constructor
  · rintro ⟨⟨a, b, y⟩, h1, h2⟩
    obtain ⟨h3, h4⟩ := List.mem_filter.mp h1
    simp only [Prod.mk.injEq] at h2
    obtain ⟨rfl, rfl, rfl⟩ := h2
    exact ⟨a, b, h3, of_decide_eq_true h4, rfl, rfl⟩
  · rintro ⟨a, b, h1, h2, rfl, rfl⟩
    exact ⟨(a, b, x), List.mem_filter.mpr ⟨h1, decide_eq_true h2⟩, rfl⟩
theorem mem_within {ps : List Tr} {told : List Tri} {k : Nat} {w : Tri} : w ∈ within ps told k ↔ w ∈ told ∧ ixw ps w.1 = k ∧ ixw ps w.2.1 = k := by
  unfold within
  rw [List.mem_filter, Bool.and_eq_true, decide_eq_true_eq, decide_eq_true_eq]
  constructor
  · rintro ⟨h1, h2, h3⟩; exact ⟨h1, h2, h3.symm⟩
  · rintro ⟨h1, h2, h3⟩; exact ⟨h1, h2, h3.symm⟩
theorem keepT_iff {o : List Nat} {told : List Tri} : keepT o told = true ↔ ∀ w ∈ told, Bef w.1 w.2.1 o := by simp [keepT]
theorem keepD_iff {s : List Nat} {dem : List Tri} : keepD s dem = true ↔ ∀ d ∈ dem, Bef d.1 d.2.1 s := by simp [keepD]
/-- the parts' orders keep what is within them, the sequence keeps what is between them -/
theorem keep_node {ps : List Tr} {told : List Tri} {o : Nat → List Nat} {s : List Nat} (td : TdOk (flats ps) told) (hs : s.Perm (List.range ps.length)) (hp : ∀ i (hi : i < ps.length), (o i).Perm ps[i].flat)
    (h1 : keepD s (met ps told) = true) (h2 : ∀ i, i < ps.length → keepT (o i) (within ps told i) = true) : keepT (s.map o).flatten told = true := by
  rw [keepT_iff]
  rintro ⟨a, b, x⟩ hw
  obtain ⟨_, ha, hb⟩ := td _ hw
  have la := ixw_lt ha
  have lb := ixw_lt hb
  by_cases e : ixw ps a = ixw ps b
  · refine bef_flat ⟨ixw ps a, hs.mem_iff.mpr (List.mem_range.mpr la), ?_⟩
    exact keepT_iff.mp (h2 _ la) (a, b, x) (mem_within.mpr ⟨hw, rfl, e.symm⟩)
  · refine bef_flat2 (i := ixw ps a) (j := ixw ps b) ?_ ((hp _ la).mem_iff.mpr (ixw_mem ha)) ((hp _ lb).mem_iff.mpr (ixw_mem hb))
    exact keepD_iff.mp h1 _ (mem_met.mpr ⟨a, b, hw, e, rfl, rfl⟩)
theorem ringTs_of {ps0 : List Tr} {told : List Tri} {r : List Nat} : ∀ {ps : List Tr} {k i : Nat} (hi : i < ps.length), RingT ps[i] (within ps0 told (k + i)) r → RingTs ps0 told ps k r
  | p :: ps, k, 0, hi, h => by
    rw [RingTs]
    exact .inl h
  | p :: ps, k, i + 1, hi, h => by
    rw [RingTs]
    refine .inr (ringTs_of (ps := ps) (k := k + 1) (i := i) (by simpa using hi) ?_)
    rw [show k + 1 + i = k + (i + 1) by omega]
    exact h
theorem ringTs_iff {ps0 : List Tr} {told : List Tri} {r : List Nat} : ∀ {ps : List Tr} {k : Nat}, RingTs ps0 told ps k r → ∃ i, ∃ (hi : i < ps.length), RingT ps[i] (within ps0 told (k + i)) r
  | [], k, h => by rw [RingTs] at h; exact h.elim
  | p :: ps, k, h => by
    rw [RingTs] at h
    rcases h with h | h
    · exact ⟨0, by simp, h⟩
    · obtain ⟨i, hi, h⟩ := ringTs_iff h
      refine ⟨i + 1, by simpa using hi, ?_⟩
      rw [show k + (i + 1) = k + 1 + i by omega]
      exact h
theorem ring_node_iff {row : Bool} {ps : List Tr} {told : List Tri} {r : List Nat} : RingT (.node row ps) told r ↔
    (if row then ∃ i j x i' j' y, (i, j, x) ∈ met ps told ∧ (i', j', y) ∈ met ps told ∧ i < j ∧ j' < i' ∧ r = [x, y] else ∃ s, Walk (met ps told) s s r) ∨ RingTs ps told ps 0 r := by rw [RingT]
theorem within_td {ps : List Tr} {told : List Tri} (td : TdOk (flats ps) told) {i : Nat} (hi : i < ps.length) : TdOk ps[i].flat (within ps told i) := by
  rintro ⟨a, b, x⟩ h
  obtain ⟨h1, h2, h3⟩ := mem_within.mp h
  obtain ⟨h4, h5, h6⟩ := td _ h1
  have m1 := ixw_mem h5
  have m2 := ixw_mem h6
  simp only at h2 h3 m1 m2
  refine ⟨h4, ?_, ?_⟩
  · simp only [h2] at m1; exact m1
  · simp only [h3] at m2; exact m2
theorem flats_nodup_part : ∀ {ps : List Tr} {i : Nat} (hi : i < ps.length), (flats ps).Nodup → ps[i].flat.Nodup
  | p :: ps, i, hi, h => by
    rw [flats, List.nodup_append] at h
    cases i with
    | zero => exact h.1
    | succ i => exact flats_nodup_part (ps := ps) (by simpa using hi) h.2.1
/-- a thing stands in one part alone -/
theorem part_one : ∀ {ps : List Tr} {i j a : Nat} (hi : i < ps.length) (hj : j < ps.length), (flats ps).Nodup → a ∈ ps[i].flat → a ∈ ps[j].flat → i = j
  | p :: ps, i, j, a, hi, hj, h, h1, h2 => by
    rw [flats, List.nodup_append] at h
    obtain ⟨n1, n2, n3⟩ := h
    cases i with
    | zero =>
      cases j with
      | zero => rfl
      | succ j =>
        have h2' : a ∈ flats ps := mem_flats.mpr ⟨_, List.getElem_mem (by simpa using hj), h2⟩
        exact absurd rfl (n3 a h1 a h2')
    | succ i =>
      cases j with
      | zero =>
        have h1' : a ∈ flats ps := mem_flats.mpr ⟨_, List.getElem_mem (by simpa using hi), h1⟩
        exact absurd rfl (n3 a h2 a h1')
      | succ j => rw [part_one (ps := ps) (by simpa using hi) (by simpa using hj) n2 h1 h2]
theorem ixw_eq {ps : List Tr} {i a : Nat} (hi : i < ps.length) (hn : (flats ps).Nodup) (h : a ∈ ps[i].flat) : ixw ps a = i := by
  have hm : a ∈ flats ps := mem_flats.mpr ⟨_, List.getElem_mem hi, h⟩
  exact part_one (ixw_lt hm) hi hn (ixw_mem hm) h
end Wk
/-! ## F5 -/
set_option Elab.async false
set_option linter.all false
set_option autoImplicit false
set_option maxRecDepth 100000
set_option maxHeartbeats 4000000
namespace Wk
open PySem PySem.Spec L2
section
variable {P : Program} {w : World} {K : PySem.W.Frag} {mg : Str → Option Value} {base : Heap} {f : Addr} {fd : FuncData} {k : Nat}
theorem ok_ring_of_any (T : Tp K mg) (F : Fun K "ring_of_any" "ring_of_any" s_ring_of_any f fd) (C1 : Cal P w K mg base k "ring_from" ["start", "demands"] pre_ring_from) : FnOk P w K mg base CX0 (k + 1) f fd ["k", "demands"] (spec K pre_ring_of_any) := by
  refine okOf F sc_ring_of_any (by decide) (by rintro _ _ ⟨_, _, rfl, _⟩; rfl) fun cdv Aa outer s H0 E hr => ⟨_, d_ring_of_any T (C_ring_from := C1) hr, ?_⟩
  rintro _ _ pf ⟨n, dem, rfl, ok, rfl⟩
  show Sx K H0 (t_ring_of_any K) [.d (di n), .b (pf 1) (dem.map enc3), .u, .u] _
  have hk := ok.kk
  refine sx_seq (sx_for (vs := [2]) (ej_range (n := n) (ea_d (ev_var rfl) ea_nil) (by omega)) (fun i ρ => ∃ a b, ρ = [.d (di n), .b (pf 1) (dem.map enc3), a, b] ∧ ∀ st, st < i → ∀ r, ¬ Walk dem st st r) ⟨.u, .u, rfl, fun _ h => absurd h (Nat.not_lt_zero _)⟩ ?_ ?_)
  · rintro i d ρ hd ⟨a, b, rfl, hno⟩
    have hi : i < n := by
      have := (List.getElem?_eq_some_iff.mp hd).1
      rwa [rngD_len] at this
    rw [rngD_get hi] at hd
    cases hd
    refine tg_name ?_ (by decide)
    refine sx_seq (sx_setDs (ev_callDs (ea_d (ev_var rfl) (ea_s (ev_varB rfl) ea_nil)) ⟨n, i, dem, rfl, ok, rfl⟩) fun d hd => ?_)
    refine sx_if (et_test (ev_notN (ev_var rfl))) (fun hb => ?_) fun hb => ?_
    · rcases hd with ⟨rfl, _⟩ | hd
      · cases hb
      · exact sx_retD (ev_var rfl) fun v H' rv => ⟨d, .inr hd, rv⟩
    · rcases hd with ⟨rfl, hn⟩ | ⟨r, rfl, _⟩
      · refine sx_next ⟨_, _, rfl, fun st hst r => ?_⟩
        by_cases e : st = i
        · exact e ▸ hn r
        · exact hno st (by omega) r
      · cases hb
  · rintro ρ ⟨a, b, rfl, hno⟩
    refine sx_retD ev_non fun v H' rv => ⟨.non, .inl ⟨rfl, fun st r h => ?_⟩, rv⟩
    rw [rngD_len] at hno
    obtain ⟨l, x, hd⟩ := h.first
    exact hno st (ok.lt _ hd).1 r h
theorem dec_lt {a b : Nat} : decide ((a : Int) < (b : Int)) = decide (a < b) := decide_eq_decide.mpr (by omega)
theorem ok_ring_of_row (T : Tp K mg) (F : Fun K "ring_of_row" "ring_of_row" s_ring_of_row f fd) : FnOk P w K mg base CX0 (k + 1) f fd ["demands"] (spec K pre_ring_of_row) := by
  refine okOf F sc_ring_of_row (by decide) (by rintro _ _ ⟨_, _, rfl, _⟩; rfl) fun cdv Aa outer s H0 E hr => ⟨_, d_ring_of_row T hr, ?_⟩
  rintro _ _ pf ⟨n, dem, rfl, ok, rfl⟩
  show Sx K H0 (t_ring_of_row K) [.b (pf 0) (dem.map enc3), .u, .u, .u, .u, .u] _
  have hdl := ok.dl
  refine sx_seq (sx_setN (ds := dis ((dem.filter fun d => decide (d.1 < d.2.1)).map fun d => d.2.2)) ((ev_lc (xs := dem) enc3 (fun d => decide (d.1 < d.2.1)) (fun d => di d.2.2) (ei_list (ev_varB rfl)) (by omega) fun q hq => ?_).eqN (by simp [dis])) fun p => ?_)
  · refine tg_tup (tgs_cons (tg_name (tgs_cons (tg_name (tgs_cons (tg_name (tgs_nil ?_) (by decide))) (by decide))) (by decide))) rfl
    exact ⟨(et_test (ev_ib (i := (q.1 : Int)) (j := (q.2.1 : Int)) (ev_var rfl) (ev_var rfl))).eqT dec_lt, fun _ => ev_var rfl⟩
  refine sx_seq (sx_setN (ds := dis ((dem.filter fun d => decide (d.2.1 < d.1)).map fun d => d.2.2)) ((ev_lc (xs := dem) enc3 (fun d => decide (d.2.1 < d.1)) (fun d => di d.2.2) (ei_list (ev_varB rfl)) (by omega) fun q hq => ?_).eqN (by simp [dis])) fun p2 => ?_)
  · refine tg_tup (tgs_cons (tg_name (tgs_cons (tg_name (tgs_cons (tg_name (tgs_nil ?_) (by decide))) (by decide))) (by decide))) rfl
    exact ⟨(et_test (ev_ib (i := (q.1 : Int)) (j := (q.2.1 : Int)) (ev_var rfl) (ev_var rfl))).eqT dec_lt, fun _ => ev_var rfl⟩
  refine sx_seq (sx_if (et_and (et_test (ev_neLI (ms := []) ((ev_varL rfl).eqS (dis_eq _)) ev_lst0.S)) fun _ => et_test (ev_neLI (ms := []) ((ev_varL rfl).eqS (dis_eq _)) ev_lst0.S)) (fun hb => ?_) fun hb => sx_next ?_)
  · rw [Bool.and_eq_true] at hb
    obtain ⟨b1, b2⟩ := hb
    cases h1 : dem.filter fun d => decide (d.1 < d.2.1) with
    | nil => rw [h1] at b1; simp at b1
    | cons x xs =>
      cases h2 : dem.filter fun d => decide (d.2.1 < d.1) with
      | nil => rw [h2] at b2; simp at b2
      | cons y ys =>
        have m1 : x ∈ dem.filter fun d => decide (d.1 < d.2.1) := by rw [h1]; exact List.mem_cons_self
        have m2 : y ∈ dem.filter fun d => decide (d.2.1 < d.1) := by rw [h2]; exact List.mem_cons_self
        obtain ⟨m3, m4⟩ := List.mem_filter.mp m1
        obtain ⟨m5, m6⟩ := List.mem_filter.mp m2
        refine sx_retD (ev_tup (ds := [di x.2.2, di y.2.2]) (ea_d (ev_ixL (ev_varL rfl) ev_int atI_0) (ea_d (ev_ixL (ev_varL rfl) ev_int atI_0) ea_nil)) (by show 2 ≤ 1000; decide)) fun v H' rv => ⟨_, .inr ⟨x.1, x.2.1, x.2.2, y.1, y.2.1, y.2.2, m3, m5, of_decide_eq_true m4, of_decide_eq_true m6, rfl⟩, rv⟩
  · refine sx_retD ev_non fun v H' rv => ⟨.non, .inl ⟨rfl, ?_⟩, rv⟩
    rw [Bool.and_eq_false_iff] at hb
    rcases hb with hb | hb
    · refine .inl fun w hw h => ?_
      have : w ∈ dem.filter fun d => decide (d.1 < d.2.1) := List.mem_filter.mpr ⟨hw, decide_eq_true h⟩
      simp at hb
      exact absurd h (by have := hb w.1 w.2.1 w.2.2 hw; omega)
    · refine .inr fun w hw h => ?_
      simp at hb
      exact absurd h (by have := hb w.1 w.2.1 w.2.2 hw; omega)
theorem min_int {m : Nat} {l : List Nat} (h1 : m ∈ l) (h2 : ∀ y ∈ l, m ≤ y) : ((m : Int) ∈ l.map dint) ∧ ∀ y ∈ l.map dint, (m : Int) ≤ y := by
  refine ⟨mem_dint.mpr h1, fun y hy => ?_⟩
  obtain ⟨z, h3, rfl⟩ := List.mem_map.mp hy
  have := h2 z h3
  simp [dint]
  omega
theorem erase_dint {m : Nat} : ∀ {l : List Nat}, (l.map dint).erase ((m : Nat) : Int) = (l.erase m).map dint
  | [] => rfl
  | a :: l => by
    rw [List.map_cons, List.erase_cons, List.erase_cons]
    by_cases e : a = m
    · subst e
      simp [dint]
    · have e' : ¬ dint a = (m : Int) := fun z => e (by simp [dint] at z; omega)
      simp [e, e']
      exact erase_dint
abbrev behd (dem : List Tri) (left : List Nat) : List Nat := (dem.filter fun d => decide (d.1 ∈ left)).map fun d => d.2.1
theorem ok_sequence_for (T : Tp K mg) (F : Fun K "sequence_for" "sequence_for" s_sequence_for f fd) : FnOk P w K mg base CX0 (k + 1) f fd ["k", "demands"] (spec K pre_sequence_for) := by
  refine okOf F sc_sequence_for (by decide) (by rintro _ _ ⟨_, _, rfl, _⟩; rfl) fun cdv Aa outer s H0 E hr => ⟨_, d_sequence_for T hr, ?_⟩
  rintro _ _ pf ⟨n, dem, rfl, ok, hno, rfl⟩
  show Sx K H0 (t_sequence_for K) [.d (di n), .b (pf 1) (dem.map enc3), .u, .u, .u, .u, .u, .u, .u] _
  have hdl := ok.dl
  have hkk := ok.kk
  refine sx_seq (sx_setN (ev_listRg (ev_var rfl) (by omega)) fun p => ?_)
  refine sx_seq (sx_setN ev_lst0 fun p2 => ?_)
  refine sx_seq (sx_while (fun m ρ => ∃ left found a b c d e, m = left.length ∧ SeqB dem n left found ∧ ρ = [.d (di n), .b (pf 1) (dem.map enc3), .l p (dis left), .l p2 (dis found), a, b, c, d, e]) _ ⟨List.range n, [], .u, .u, .u, .u, .u, rfl, ⟨by simp, fun _ _ h => by cases h⟩, rfl⟩ ?_)
  rintro m ρ ⟨left, found, a, b, c, d, e, rfl, B, rfl⟩
  have hlen : found.length + left.length = n := by
    have := B.pm.length_eq
    rwa [List.length_append, List.length_range] at this
  refine ⟨_, et_test (ev_neLI (ms := []) ((ev_varL rfl).eqS (dis_eq _)) ev_lst0.S), fun hb => ?_, fun hb => ?_⟩
  · have hl : left ≠ [] := fun z => by rw [z] at hb; simp at hb
    have hfree := B.free hl ok.lt hno
    obtain ⟨x, hx, hmin⟩ := least_of hfree
    obtain ⟨x1, x2⟩ := List.mem_filter.mp hx
    have x2 : x ∉ behd dem left := by simpa using x2
    refine sx_seq (sx_setN (ds := dis (behd dem left)) ((ev_lc (xs := dem) enc3 (fun d => decide (d.1 ∈ left)) (fun d => di d.2.1) (ei_list (ev_varB rfl)) (by omega) fun q hq => ?_).eqN (by simp [dis])) fun p3 => ?_)
    · refine tg_tup (tgs_cons (tg_name (tgs_cons (tg_name (tgs_cons (tg_name (tgs_nil ?_) (by decide))) (by decide))) (by decide))) rfl
      exact ⟨(et_test (ev_inL (neg := false) (x := (q.1 : Int)) (ev_var rfl) ((ev_varL rfl).eqS (dis_eq _)))).eqT dec_dint, fun _ => ev_var rfl⟩
    refine sx_seq (sx_appD rfl (ev_min (ns := (left.filter fun i => !decide (i ∈ behd dem left)).map dint) (m := (x : Int)) ((ev_lc (xs := left) di (fun i => !decide (i ∈ behd dem left)) di (ei_list (ev_varL rfl)) (by omega) fun q hq => ?_).S.eqS (dis_eq _)) (min_int hx hmin).1 (min_int hx hmin).2) (by rw [dis_len]; omega) ?_)
    · refine tg_name ?_ (by decide)
      refine ⟨(et_test (ev_inL (neg := true) (x := (q : Int)) (ev_var rfl) ((ev_varL rfl).eqS (dis_eq _)))).eqT ?_, fun _ => ev_var rfl⟩
      show (!decide _) = _
      rw [dec_dint]
    refine sx_remI (ns := left.map dint) (z := (x : Int)) (by show some (A.l p (dis left)) = _; rw [dis_eq]) (ev_ixL (ev_varL rfl) (ev_neg ev_int) (atI_last _ _)) (mem_dint.mpr x1) ?_
    refine ⟨_, ?_, left.erase x, found ++ [x], .l p3 (dis (behd dem left)), b, c, d, e, rfl, B.step ok.lt ok.ne x1 x2, ?_⟩
    · rw [List.length_erase_of_mem x1]
      have := List.length_pos_of_mem x1
      omega
    · rw [erase_dint, ← dis_eq, dis_append]; rfl
  · have hl : left = [] := by
      simp at hb
      exact hb
    subst hl
    refine sx_retL rfl fun v H' rv => ⟨_, ⟨found, rfl, ?_, ?_⟩, rv⟩
    · have := B.pm
      rwa [List.append_nil] at this
    · rw [keepD_iff]
      intro d hd
      refine B.kp d hd ?_
      have := B.pm
      rw [List.append_nil] at this
      exact this.mem_iff.mpr (List.mem_range.mpr (ok.lt d hd).2)
end
end Wk
/-! ## F6 -/
set_option Elab.async false
set_option linter.all false
set_option autoImplicit false
set_option maxRecDepth 100000
set_option maxHeartbeats 4000000
namespace Wk
open PySem PySem.Spec L2
theorem TtOk.pt {row : Bool} {ps : List Tr} {told : List Tri} (h : TtOk (.node row ps) told) : PtOk ps told := by
  have e : (Tr.node row ps).flat = flats ps := by rw [Tr.flat]
  have hf := fm_node.mp h.fm
  have h1 := h.ln
  have h2 := h.dp
  have h3 := h.td
  rw [e] at h1 h3
  rw [dep_node] at h2
  exact ⟨h3, h1, by omega, Nat.le_trans (flats_pos ps hf.2.2) h1, h.tl⟩
theorem TtOk.part {row : Bool} {ps : List Tr} {told : List Tri} (h : TtOk (.node row ps) told) {i : Nat} (hi : i < ps.length) : TtOk ps[i] (within ps told i) := by
  have e : (Tr.node row ps).flat = flats ps := by rw [Tr.flat]
  have hf := fm_node.mp h.fm
  have hm : ps[i] ∈ ps := List.getElem_mem hi
  have h1 := h.ln
  have h4 := h.nd
  rw [e] at h1 h4
  exact ⟨within_td h.pt.td hi, flats_nodup_part hi h4, Nat.le_trans (part_len hm) h1, fms_mem hf.2.2 hm, Nat.le_trans (deps_mem hm) h.pt.dp, Nat.le_trans (within_len _ _ _) h.tl⟩
theorem PtOk.dm {ps : List Tr} {told : List Tri} (h : PtOk ps told) : DmOk ps.length (met ps told) where
  lt := fun d hd => by
    obtain ⟨i, j, x⟩ := d
    obtain ⟨a, b, h1, _, rfl, rfl⟩ := mem_met.mp hd
    obtain ⟨_, h2, h3⟩ := h.td _ h1
    exact ⟨ixw_lt h2, ixw_lt h3⟩
  ne := fun d hd => by
    obtain ⟨i, j, x⟩ := d
    obtain ⟨a, b, h1, h2, rfl, rfl⟩ := mem_met.mp hd
    exact h2
  kk := h.pl
  dl := Nat.le_trans (met_len _ _) h.tl
theorem flat_len9 {o : Nat → List Nat} : ∀ {s : List Nat}, (∀ j ∈ s, (o j).length ≤ 9) → (s.map o).flatten.length ≤ 9 * s.length
  | [], _ => by simp
  | x :: xs, h => by
    rw [List.map_cons, List.flatten_cons, List.length_append, List.length_cons]
    have h1 := h x List.mem_cons_self
    have h2 := flat_len9 (o := o) (s := xs) fun j hj => h j (List.mem_cons_of_mem _ hj)
    omega
section
variable {P : Program} {w : World} {K : PySem.W.Frag} {mg : Str → Option Value} {base : Heap} {f : Addr} {fd : FuncData} {k : Nat}
theorem ok_kept_within {m : Nat} (T : Tp K mg) (F : Fun K "kept_within" "kept_within" s_kept_within f fd) (C1 : Cal P w K mg base k "is_thing" ["tree"] pre_is_thing) (C2 : Cal P w K mg base k "met_here" ["parts", "told"] pre_met_here)
    (C3 : Cal P w K mg base k "met_within" ["parts", "told", "part"] pre_met_within) (C4 : Cal P w K mg base k "ring_of_any" ["k", "demands"] pre_ring_of_any) (C5 : Cal P w K mg base k "ring_of_row" ["demands"] pre_ring_of_row)
    (C6 : Cal P w K mg base k "sequence_for" ["k", "demands"] pre_sequence_for) (C7 : Cal P w K mg base k "kept_within" ["tree", "told"] (pre_kept_within m)) :
    FnOk P w K mg base CX0 (k + 1) f fd ["tree", "told"] (spec K (pre_kept_within (m + 1))) := by
  refine okOf F sc_kept_within (by decide) (by rintro _ _ ⟨_, _, rfl, _⟩; rfl) fun cdv Aa outer s H0 E hr => ⟨_, d_kept_within T (C_is_thing := C1) (C_met_here := C2) (C_met_within := C3) (C_ring_of_any := C4) (C_ring_of_row := C5) (C_sequence_for := C6) (C_kept_within := C7) hr, ?_⟩
  rintro _ _ pf ⟨t, told, rfl, hm, ok, rfl⟩
  show Sx K H0 (t_kept_within K m) [.d t.enc, .b (pf 1) (told.map enc3), .u, .u, .u, .u, .u, .u, .u, .u, .u, .u, .u] _
  refine sx_seq (sx_if (et_B (ev_callD (ea_d (ev_var rfl) ea_nil) ⟨_, rfl, enc_cases t, rfl⟩)) (fun hb => ?_) fun hb => sx_next ?_)
  · cases t with
    | node row ps => cases hb
    | leaf i =>
      refine sx_retD (ev_tup (ds := [.ntup [di i], .non]) (ea_d (ev_tupS (ds := [di i]) (ea_d (ev_var rfl) ea_nil) (by show 1 ≤ 1000; decide)) (ea_d ev_non ea_nil)) (by show 2 ≤ 1000; decide)) fun v H' rv => ⟨_, .inl ⟨[i], rfl, told_leaf_iff.mpr rfl, ?_⟩, rv⟩
      rw [keepT_iff]
      intro q hq
      obtain ⟨h1, h2, h3⟩ := ok.td q hq
      simp [Tr.flat] at h2 h3
      omega
  cases t with
  | leaf i => cases hb
  | node row ps =>
    have pt := ok.pt
    have dm := pt.dm
    have hkk := pt.pl
    have hfl : (flats ps).Nodup := by have := ok.nd; rwa [Tr.flat] at this
    have el : (encs ps).length = ps.length := by rw [encs_eq, List.length_map]
    have hmdl : (met ps told).length ≤ 6 := dm.dl
    refine sx_seq (sx_unp (vs := [2, 3]) (d := .tup [.str (if row then "row" else "any"), .tup (encs ps)]) (ev_var rfl) (tg_tup (tgs_cons (tg_name (tgs_cons (tg_name (tgs_nil ?_) (by decide))) (by decide))) rfl))
    refine sx_seq (sx_setN (ev_callN (ea_d (ev_var rfl) (ea_s (ev_varB rfl) ea_nil)) ⟨ps, told, rfl, pt, rfl⟩) fun p4 => ?_)
    refine sx_seq (sx_setN (ev_listRg (n := ps.length) ((ev_lenT (ev_var rfl)).eqD (by rw [el]; rfl)) (by omega)) fun p5 => ?_)
    refine sx_seq (Sx.imp (M := fun ρ' => ∃ (d : D) (a5 : A), ρ' = [.d (Tr.node row ps).enc, .b (pf 1) (told.map enc3), .d (.str (if row then "row" else "any")), .d (.tup (encs ps)), .l p4 ((met ps told).map enc3), a5, .d d, .u, .u, .u, .u, .u, .u] ∧
      ((d = .non ∧ ∃ s p5, a5 = .l p5 (dis s) ∧ SeqOk row ps.length s ∧ keepD s (met ps told) = true) ∨ ∃ r, d = .tup (dis r) ∧ r.length ≤ 100 ∧ RingT (.node row ps) told r)) ?_ ?_)
    · refine sx_if (et_test (ev_eqS (ev_var rfl) ev_str)) (fun hb => ?_) fun hb => ?_
      · have hrow : row = false := by
          cases row with
          | false => rfl
          | true => revert hb; decide +kernel
        subst hrow
        refine sx_seq (sx_setDs (ev_callDs (ea_d ((ev_lenT (ev_var rfl)).eqD (d' := di ps.length) (by rw [el]; rfl)) (ea_s (ev_varL rfl) ea_nil)) ⟨ps.length, met ps told, rfl, dm, rfl⟩) fun d hd => ?_)
        refine sx_if (et_test (ev_isN (ev_var rfl))) (fun hb2 => ?_) fun hb2 => ?_
        · rcases hd with ⟨rfl, hno⟩ | ⟨r, rfl, _⟩
          · refine sx_setNs (ev_callNs (ea_d ((ev_lenT (ev_var rfl)).eqD (d' := di ps.length) (by rw [el]; rfl)) (ea_s (ev_varL rfl) ea_nil)) ⟨ps.length, met ps told, rfl, dm, hno, rfl⟩) fun p ds ⟨s, e, hp, hk⟩ => ?_
            subst e
            exact ⟨.non, _, rfl, .inl ⟨rfl, s, p, rfl, hp, hk⟩⟩
          · cases hb2
        · rcases hd with ⟨rfl, hno⟩ | ⟨r, rfl, hl, st, hw⟩
          · cases hb2
          · exact sx_next ⟨_, _, rfl, .inr ⟨r, rfl, hl, ring_node_iff.mpr (.inl ⟨st, hw⟩)⟩⟩
      · have hrow : row = true := by
          cases row with
          | true => rfl
          | false => revert hb; decide +kernel
        subst hrow
        refine sx_seq (sx_setDs (ev_callDs (ea_s (ev_varL rfl) ea_nil) ⟨ps.length, met ps told, rfl, dm, rfl⟩) fun d hd => ?_)
        refine sx_if (b := ((met ps told).map fun d => decide (d.2.1 < d.1)).any id) (et_B (ev_any (bs := (met ps told).map fun d => decide (d.2.1 < d.1)) ((ev_lc1 (xs := met ps told) enc3 (fun d => .bl (decide (d.2.1 < d.1))) (ei_list (ev_varL rfl)) (by omega) fun q hq => ?_).S.eqS (by simp)))) (fun hb2 => ?_) fun hb2 => ?_
        · refine tg_tup (tgs_cons (tg_name (tgs_cons (tg_name (tgs_cons (tg_name (tgs_nil ?_) (by decide))) (by decide))) (by decide))) rfl
          exact (ev_ib (i := (q.1 : Int)) (j := (q.2.1 : Int)) (ev_var rfl) (ev_var rfl)).eqD (by rw [dec_lt])
        · refine sx_rev rfl ⟨d, _, rfl, ?_⟩
          rcases hd with ⟨rfl, hno⟩ | ⟨i, j, x, i', j', y, h1, h2, h3, h4, rfl⟩
          · refine .inl ⟨rfl, (List.range ps.length).reverse, p5, ?_, ?_, ?_⟩
            · rw [dis, dis, List.map_reverse]
            · exact .inr rfl
            · rw [keepD_iff]
              intro q hq
              rw [List.any_map, List.any_eq_true] at hb2
              obtain ⟨z, hz, hz2⟩ := hb2
              have hz2 : z.2.1 < z.1 := of_decide_eq_true hz2
              rcases hno with hno | hno
              · have a1 := hno q hq
                have a2 := dm.ne q hq
                have a3 := dm.lt q hq
                exact bef_rev.mpr (bef_range (by omega) a3.1)
              · exact absurd hz2 (hno z hz)
          · exact .inr ⟨[x, y], rfl, by show 2 ≤ 100; decide, ring_node_iff.mpr (.inl ⟨i, j, x, i', j', y, h1, h2, h3, h4, rfl⟩)⟩
        · refine sx_next ⟨d, _, rfl, ?_⟩
          rcases hd with ⟨rfl, hno⟩ | ⟨i, j, x, i', j', y, h1, h2, h3, h4, rfl⟩
          · refine .inl ⟨rfl, List.range ps.length, p5, rfl, .inl rfl, ?_⟩
            rw [keepD_iff]
            intro q hq
            rw [List.any_map] at hb2
            have a0 := List.any_eq_false.mp hb2 q hq
            have a1 : ¬ q.2.1 < q.1 := fun z => a0 (decide_eq_true z)
            have a2 := dm.ne q hq
            have a3 := dm.lt q hq
            exact bef_range (by omega) a3.2
          · exact .inr ⟨[x, y], rfl, by show 2 ≤ 100; decide, ring_node_iff.mpr (.inl ⟨i, j, x, i', j', y, h1, h2, h3, h4, rfl⟩)⟩
    · rintro ρ' ⟨d, a5, rfl, hd⟩
      refine sx_seq (sx_if (et_test (ev_notN (ev_var rfl))) (fun hb2 => ?_) fun hb2 => sx_next ?_)
      · rcases hd with ⟨rfl, _⟩ | ⟨r, rfl, hl, hr2⟩
        · cases hb2
        · exact sx_retD (ev_tup (ds := [.non, .tup (dis r)]) (ea_d ev_non (ea_d (ev_var rfl) ea_nil)) (by show 2 ≤ 1000; decide)) fun v H' rv => ⟨_, .inr ⟨r, rfl, hl, hr2⟩, rv⟩
      · rcases hd with ⟨rfl, sq, p5', rfl, hsq, hkd⟩ | ⟨r, rfl, hl, hr2⟩
        · have hperm := hsq.perm
          have hsn : sq.Nodup := hperm.nodup_iff.mpr List.nodup_range
          have hslen : sq.length = ps.length := by rw [hperm.length_eq, List.length_range]
          refine sx_seq (sx_setD (d := .ntup []) (ev_tupS (ds := []) ea_nil (by decide)) ?_)
          refine sx_seq (sx_forL (vs := [8]) (k := 5) (.inl rfl) (fun i ρ => ∃ (o : Nat → List Nat) (x6 x8 x9 : A), ρ = [.d (Tr.node row ps).enc, .b (pf 1) (told.map enc3), .d (.str (if row then "row" else "any")), .d (.tup (encs ps)), .l p4 ((met ps told).map enc3), .l p5' (dis sq), x6, .d (.ntup (dis ((sq.take i).map o).flatten)), x8, x9, .u, .u, .u] ∧
            ∀ j ∈ sq.take i, ∃ hj : j < ps.length, Told ps[j] (o j) ∧ keepT (o j) (within ps told j) = true) ⟨fun _ => [], _, .u, .u, rfl, fun j hj => by simp at hj⟩ ?_ ?_ ?_)
          · rintro i ρ ⟨o, x6, x8, x9, rfl, _⟩
            exact .inl rfl
          · rintro i d ρ hdi ⟨o, x6, x8, x9, rfl, ho⟩
            obtain ⟨j, hj, rfl⟩ : ∃ j, sq[i]? = some j ∧ di j = d := by
              rw [dis, List.getElem?_map] at hdi
              obtain ⟨j, h1, h2⟩ := Option.map_eq_some_iff.mp hdi
              exact ⟨j, h1, h2⟩
            have hilt := (List.getElem?_eq_some_iff.mp hj).1
            have hjm : j ∈ sq := List.mem_of_getElem? hj
            have hjk : j < ps.length := List.mem_range.mp (hperm.mem_iff.mp hjm)
            have hpm : ps[j] ∈ ps := List.getElem_mem hjk
            have hnot : j ∉ sq.take i := fun z => by
              obtain ⟨q, hq⟩ := List.mem_iff_getElem?.mp z
              rw [List.getElem?_take] at hq
              split at hq
              · rename_i hqi
                obtain ⟨h1, h2⟩ := List.getElem?_eq_some_iff.mp hq
                obtain ⟨h3, h4⟩ := List.getElem?_eq_some_iff.mp hj
                have := (List.pairwise_iff_getElem.mp hsn) q i h1 h3 hqi
                exact this (h2.trans h4.symm)
              · cases hq
            have htk : sq.take (i + 1) = sq.take i ++ [j] := by rw [List.take_add_one, hj]; rfl
            refine tg_name ?_ (by decide)
            refine sx_seq (sx_unps (vs := [9, 6]) (ev_callDs (ea_d (ev_ixT (ev_var rfl) (ev_var rfl) (atI_dn (encs_get hjk))) (ea_s (ev_callN (ea_d (ev_var rfl) (ea_s (ev_varB rfl) (ea_d (ev_var rfl) ea_nil))) ⟨ps, told, j, rfl, pt, rfl⟩).S ea_nil)) ⟨ps[j], within ps told j, rfl, dep_part hm hpm, ok.part hjk, rfl⟩) fun d hd => ?_)
            rcases hd with ⟨o', rfl, ht, hk'⟩ | ⟨r, rfl, hl, hr2⟩
            · refine tg_tup (tgs_cons (tg_name (tgs_cons (tg_name (tgs_nil ?_) (by decide))) (by decide))) rfl
              refine sx_seq (sx_if (b := false) ((et_test (ev_notN (d := .non) (ev_var rfl))).eqT rfl) (fun h => nomatch h) fun _ => sx_next ?_)
              have hlo' : o'.length ≤ 9 := by
                rw [(told_perm _ ht).length_eq]
                exact (ok.part hjk).ln
              have hfl9 : ((sq.take i).map o).flatten.length ≤ 9 * (sq.take i).length := flat_len9 fun q hq => by
                obtain ⟨hq1, hq2, _⟩ := ho q hq
                rw [(told_perm _ hq2).length_eq]
                exact (ok.part hq1).ln
              have hmap : (sq.take i).map (fun q => if q = j then o' else o q) = (sq.take i).map o := List.map_congr_left fun q hq => if_neg fun (z : q = j) => hnot (z ▸ hq)
              refine sx_setD (d := .ntup (dis (((sq.take (i + 1)).map fun q => if q = j then o' else o q).flatten))) ((ev_catS (xs := dis ((sq.take i).map o).flatten) (ys := dis o') (ev_var rfl) (ev_var rfl) ?_).eqD ?_) ⟨fun q => if q = j then o' else o q, _, _, _, rfl, fun q hq => ?_⟩
              · rw [dis_len, dis_len]
                rw [List.length_take] at hfl9
                omega
              · rw [htk, List.map_append, hmap, List.flatten_append, dis_append]
                simp
              · rw [htk] at hq
                rcases List.mem_append.mp hq with hq | hq
                · obtain ⟨h1, h2, h3⟩ := ho q hq
                  have hne : q ≠ j := fun z => hnot (z ▸ hq)
                  refine ⟨h1, ?_, ?_⟩
                  · simpa [hne] using h2
                  · simpa [hne] using h3
                · simp at hq
                  subst hq
                  exact ⟨hjk, by simpa using ht, by simpa using hk'⟩
            · refine tg_tup (tgs_cons (tg_name (tgs_cons (tg_name (tgs_nil ?_) (by decide))) (by decide))) rfl
              refine sx_seq (sx_if (b := true) ((et_test (ev_notN (d := .tup (dis r)) (ev_var rfl))).eqT rfl) (fun _ => ?_) fun h => nomatch h)
              refine sx_retD (ev_tup (ds := [.non, .tup (dis r)]) (ea_d ev_non (ea_d (ev_var rfl) ea_nil)) (by show 2 ≤ 1000; decide)) fun v H' rv => ⟨_, .inr ⟨r, rfl, hl, ring_node_iff.mpr (.inr (ringTs_of (i := j) hjk ?_))⟩, rv⟩
              rw [Nat.zero_add]
              exact hr2
          · rintro ρ ⟨o, x6, x8, x9, rfl, ho⟩
            rw [dis_len, List.take_length] at ho ⊢
            have ho' : ∀ j (hj : j < ps.length), Told ps[j] (o j) ∧ keepT (o j) (within ps told j) = true := fun j hj => by
              obtain ⟨_, h2⟩ := ho j (hperm.mem_iff.mpr (List.mem_range.mpr hj))
              exact h2
            refine sx_retD (ev_tup (ds := [.ntup (dis (sq.map o).flatten), .non]) (ea_d (ev_var rfl) (ea_d ev_non ea_nil)) (by show 2 ≤ 1000; decide)) fun v H' rv => ⟨_, .inl ⟨_, rfl, told_node hsq fun i hi => (ho' i hi).1, ?_⟩, rv⟩
            exact keep_node pt.td hperm (fun i hi => told_perm _ (ho' i hi).1) hkd fun i hi => (ho' i hi).2
        · cases hb2
end
end Wk
/-! ## M4 -/
set_option linter.all false
set_option autoImplicit false
/-! Rings step by step; how large a count is. -/
namespace Wk
theorem mem_numb {ws : List (Nat × Nat)} {a b x : Nat} : (a, b, x) ∈ numb ws ↔ ∃ (h : x < ws.length), ws[x] = (a, b) := by
  unfold numb
  rw [List.mem_map]
  constructor
  · rintro ⟨i, hi, e⟩
    rw [List.mem_range] at hi
    rw [List.getD_eq_getElem?_getD, List.getElem?_eq_getElem hi] at e
    simp only [Option.getD_some, Prod.mk.injEq] at e
    obtain ⟨rfl, rfl, rfl⟩ := e
    exact ⟨hi, rfl⟩
  · rintro ⟨h, e⟩
    refine ⟨x, List.mem_range.mpr h, ?_⟩
    rw [List.getD_eq_getElem?_getD, List.getElem?_eq_getElem h, e]
    rfl
theorem walk_mem {dem : List Tri} {i j : Nat} {r : List Nat} (h : Walk dem i j r) : ∀ x ∈ r, ∃ a b, (a, b, x) ∈ dem := by
  induction h with
  | one hd =>
    intro x hx
    simp at hx
    subst hx
    exact ⟨_, _, hd⟩
  | snoc _ hd ih =>
    intro x hx
    rcases List.mem_append.mp hx with hx | hx
    · exact ih x hx
    · simp at hx
      subst hx
      exact ⟨_, _, hd⟩
theorem walk_ne {dem : List Tri} {i j : Nat} {r : List Nat} (h : Walk dem i j r) : r ≠ [] := by
  cases h with
  | one hd => simp
  | snoc _ hd => simp
mutual
theorem ring_mem : ∀ (t : Tr) {told : List Tri} {r : List Nat}, RingT t told r → (∀ x ∈ r, ∃ a b, (a, b, x) ∈ told) ∧ r ≠ []
  | .leaf i, told, r, h => by rw [RingT] at h; exact h.elim
  | .node row ps, told, r, h => by
    rw [ring_node_iff] at h
    have up : ∀ {x : Nat}, (∃ a b, (a, b, x) ∈ met ps told) → ∃ a b, (a, b, x) ∈ told := by
      rintro x ⟨i, j, h1⟩
      obtain ⟨a, b, h2, _⟩ := mem_met.mp h1
      exact ⟨a, b, h2⟩
    rcases h with h | h
    · cases row with
      | true =>
        obtain ⟨i, j, x, i', j', y, h1, h2, _, _, rfl⟩ := h
        refine ⟨fun z hz => ?_, by simp⟩
        simp at hz
        rcases hz with rfl | rfl
        · exact up ⟨_, _, h1⟩
        · exact up ⟨_, _, h2⟩
      | false =>
        obtain ⟨s, h⟩ := h
        exact ⟨fun z hz => up (walk_mem h z hz), walk_ne h⟩
    · exact rings_mem ps h
theorem rings_mem {ps0 : List Tr} {told : List Tri} {r : List Nat} : ∀ (ps : List Tr) {k : Nat}, RingTs ps0 told ps k r → (∀ x ∈ r, ∃ a b, (a, b, x) ∈ told) ∧ r ≠ []
  | [], k, h => by rw [RingTs] at h; exact h.elim
  | p :: ps, k, h => by
    rw [RingTs] at h
    rcases h with h | h
    · obtain ⟨h1, h2⟩ := ring_mem p h
      refine ⟨fun x hx => ?_, h2⟩
      obtain ⟨a, b, h3⟩ := h1 x hx
      exact ⟨a, b, (mem_within.mp h3).1⟩
    · exact rings_mem ps h
end
/-- the steps of a walk, by a function of their indexes: from i, on and on, to j -/
structure StepsOk (st : List (Nat × Nat)) (i j : Nat) : Prop where
  ne : st ≠ []
  fst : ∀ a, st[0]? = some a → a.1 = i
  lst : ∀ a, st[st.length - 1]? = some a → a.2 = j
  lnk : ∀ k a b, st[k]? = some a → st[k + 1]? = some b → a.2 = b.1
theorem walk_steps {dem : List Tri} {i j : Nat} {r : List Nat} {f : Nat → Nat × Nat} (hf : ∀ a b x, (a, b, x) ∈ dem → f x = (a, b)) (h : Walk dem i j r) : StepsOk (r.map f) i j := by
  induction h with
  | one hd =>
    have e := hf _ _ _ hd
    refine ⟨by simp, fun a ha => ?_, fun a ha => ?_, fun k a b ha hb => ?_⟩
    · simp at ha; rw [← ha, e]
    · simp at ha; rw [← ha, e]
    · simp at hb
  | @snoc j k x r hw hd ih =>
    have e := hf _ _ _ hd
    have hpos : 0 < (r.map f).length := List.length_pos_iff.mpr ih.ne
    refine ⟨by simp, fun a ha => ?_, fun a ha => ?_, fun q a b ha hb => ?_⟩
    · rw [List.map_append, List.getElem?_append_left hpos] at ha
      exact ih.fst a ha
    · simp at ha
      rw [← ha, e]
    · rw [List.map_append] at ha hb
      by_cases h1 : q + 1 < (r.map f).length
      · rw [List.getElem?_append_left (by omega)] at ha
        rw [List.getElem?_append_left h1] at hb
        exact ih.lnk q a b ha hb
      · have h2 : q + 1 < (r.map f ++ List.map f [x]).length := (List.getElem?_eq_some_iff.mp hb).1
        rw [List.length_append] at h2
        simp only [List.length_map, List.length_singleton] at h2 h1
        have h3 : q = (r.map f).length - 1 := by rw [List.length_map]; omega
        rw [List.getElem?_append_left (by rw [List.length_map]; omega), h3] at ha
        have e1 := ih.lst a ha
        rw [List.getElem?_append_right (by rw [List.length_map]; omega)] at hb
        have h4 : q + 1 - (r.map f).length = 0 := by rw [List.length_map]; omega
        rw [h4] at hb
        simp at hb
        rw [e1, ← hb, e]
theorem StepsOk.all {st : List (Nat × Nat)} {i : Nat} (h : StepsOk st i i) : ∀ k, k < st.length → (if k = 0 then st.getD (st.length - 1) (0, 0) else st.getD (k - 1) (0, 0)).2 = (st.getD k (0, 0)).1 := by
  intro k hk
  rw [List.getD_eq_getElem?_getD, List.getD_eq_getElem?_getD, List.getD_eq_getElem?_getD, List.getElem?_eq_getElem hk]
  by_cases e : k = 0
  · subst e
    have hl : st.length - 1 < st.length := by omega
    rw [if_pos rfl, List.getElem?_eq_getElem hl]
    have h1 := h.lst _ (List.getElem?_eq_getElem hl)
    have h2 := h.fst _ (List.getElem?_eq_getElem hk)
    simp only [Option.getD_some]
    rw [h1, h2]
  · rw [if_neg e, List.getElem?_eq_getElem (show k - 1 < st.length by omega)]
    have h1 := h.lnk (k - 1) _ _ (List.getElem?_eq_getElem (show k - 1 < st.length by omega)) (by rw [show k - 1 + 1 = k by omega]; exact List.getElem?_eq_getElem hk)
    simp only [Option.getD_some]
    exact h1

/-! ### counts -/
def fact : Nat → Nat
  | 0 => 1
  | n + 1 => (n + 1) * fact n
theorem ins_len (x : Nat) : ∀ l : List Nat, (ins x l).length = l.length + 1
  | [] => rfl
  | y :: ys => by rw [ins, List.length_cons, List.length_map, ins_len x ys, List.length_cons]
theorem flatMap_len {α β : Type} {f : α → List β} {n : Nat} : ∀ {l : List α}, (∀ x ∈ l, (f x).length = n) → (l.flatMap f).length = n * l.length
  | [], _ => by simp
  | x :: l, h => by
    rw [List.flatMap_cons, List.length_append, h x List.mem_cons_self, flatMap_len (l := l) fun y hy => h y (List.mem_cons_of_mem _ hy), List.length_cons, Nat.mul_add]
    omega
theorem ins_perm (x : Nat) : ∀ {l o : List Nat}, o ∈ ins x l → o.Perm (x :: l)
  | [], o, h => by
    simp [ins] at h
    rw [h]
  | y :: ys, o, h => by
    rw [ins, List.mem_cons] at h
    rcases h with rfl | h
    · exact List.Perm.refl _
    · obtain ⟨q, hq, rfl⟩ := List.mem_map.mp h
      exact ((ins_perm x hq).cons y).trans (List.Perm.swap x y ys)
theorem perms_perm : ∀ {l o : List Nat}, o ∈ perms l → o.Perm l
  | [], o, h => by
    simp [perms] at h
    rw [h]
  | x :: xs, o, h => by
    rw [perms, List.mem_flatMap] at h
    obtain ⟨q, hq, ho⟩ := h
    exact (ins_perm x ho).trans ((perms_perm hq).cons x)
theorem perms_len : ∀ l : List Nat, (perms l).length = fact l.length
  | [] => rfl
  | x :: xs => by
    rw [perms, flatMap_len (n := xs.length + 1), perms_len xs, List.length_cons, fact]
    intro o ho
    rw [ins_len, (perms_perm ho).length_eq]
theorem fact_le {k : Nat} (h1 : 1 ≤ k) (h : k ≤ 8) : fact k ≤ 128 ^ (k - 1) := by
  have : k = 1 ∨ k = 2 ∨ k = 3 ∨ k = 4 ∨ k = 5 ∨ k = 6 ∨ k = 7 ∨ k = 8 := by omega
  rcases this with rfl | rfl | rfl | rfl | rfl | rfl | rfl | rfl <;> decide
theorem lin_le {row : Bool} {k : Nat} {dem : List Tri} (h1 : 2 ≤ k) (h : k ≤ 8) : lin row k dem ≤ 128 ^ (k - 1) := by
  unfold lin seqs
  cases row with
  | true =>
    refine Nat.le_trans List.countP_le_length ?_
    show 2 ≤ _
    have : 128 ^ 1 ≤ 128 ^ (k - 1) := Nat.pow_le_pow_right (by decide) (by omega)
    omega
  | false =>
    refine Nat.le_trans List.countP_le_length ?_
    show (perms (List.range k)).length ≤ _
    rw [perms_len, List.length_range]
    exact fact_le (by omega) h
mutual
theorem cnt_le : ∀ (t : Tr) (told : List Tri), t.Fm → t.flat.length ≤ 8 → cntT t told ≤ 128 ^ (t.flat.length - 1)
  | .leaf i, told, _, _ => by rw [cntT]; simp [Tr.flat]
  | .node row ps, told, hf, hl => by
    rw [fm_node] at hf
    rw [Tr.flat] at hl ⊢
    have hp := flats_pos ps hf.2.2
    have h1 := lin_le (row := row) (dem := met ps told) hf.1 (by omega)
    have h2 := cnts_le ps told ps 0 hf.2.2 hl
    rw [cntT]
    refine Nat.le_trans (Nat.mul_le_mul h1 h2) ?_
    rw [← Nat.pow_add]
    exact Nat.pow_le_pow_right (by decide) (by omega)
theorem cnts_le (ps0 : List Tr) (told : List Tri) : ∀ (ps : List Tr) (k : Nat), Fms ps → (flats ps).length ≤ 8 → cnts ps0 told ps k ≤ 128 ^ ((flats ps).length - ps.length)
  | [], k, _, _ => by rw [cnts]; simp [flats]
  | p :: ps, k, hf, hl => by
    rw [Fms] at hf
    rw [flats, List.length_append] at hl ⊢
    have h1 := cnt_le p (within ps0 told k) hf.1 (by omega)
    have h2 := cnts_le ps0 told ps (k + 1) hf.2 (by omega)
    have h3 := flat_pos p hf.1
    have h4 := flats_pos ps hf.2
    rw [cnts]
    refine Nat.le_trans (Nat.mul_le_mul h1 h2) ?_
    rw [← Nat.pow_add, List.length_cons]
    exact Nat.pow_le_pow_right (by decide) (by omega)
end
theorem bef_range_iff {i j n : Nat} (hi : i < n) (hj : j < n) : Bef i j (List.range n) ↔ i < j := by
  constructor
  · intro h
    rcases Nat.lt_or_ge i j with z | z
    · exact z
    · exfalso
      rcases Nat.lt_or_ge j i with y | y
      · exact bef_asym List.nodup_range h (bef_range y hi)
      · have e : i = j := by omega
        subst e
        exact bef_asym List.nodup_range h h
  · intro h
    exact bef_range h hj
theorem keep_range {k : Nat} {dem : List Tri} (hl : ∀ d ∈ dem, d.1 < k ∧ d.2.1 < k) : keepD (List.range k) dem = dem.all (fun d => decide (d.1 < d.2.1)) ∧ keepD (List.range k).reverse dem = dem.all (fun d => decide (d.2.1 < d.1)) := by
  unfold keepD
  constructor
  · apply Bool.eq_iff_iff.mpr
    rw [List.all_eq_true, List.all_eq_true]
    constructor
    · intro h d hd
      have := h d hd
      rw [decide_eq_true_eq] at this ⊢
      exact (bef_range_iff (hl d hd).1 (hl d hd).2).mp this
    · intro h d hd
      have := h d hd
      rw [decide_eq_true_eq] at this ⊢
      exact (bef_range_iff (hl d hd).1 (hl d hd).2).mpr this
  · apply Bool.eq_iff_iff.mpr
    rw [List.all_eq_true, List.all_eq_true]
    constructor
    · intro h d hd
      have := h d hd
      rw [decide_eq_true_eq] at this ⊢
      exact (bef_range_iff (hl d hd).2 (hl d hd).1).mp (bef_rev.mp this)
    · intro h d hd
      have := h d hd
      rw [decide_eq_true_eq] at this ⊢
      exact bef_rev.mpr ((bef_range_iff (hl d hd).2 (hl d hd).1).mpr this)
end Wk
/-! ## F7 -/
set_option Elab.async false
set_option linter.all false
set_option autoImplicit false
set_option maxRecDepth 100000
set_option maxHeartbeats 4000000
namespace Wk
open PySem PySem.Spec L2
theorem numb_len (ws : List (Nat × Nat)) : (numb ws).length = ws.length := by simp [numb]
theorem TwOk.tt {n : Nat} {t : Tr} {ws : List (Nat × Nat)} (h : TwOk n t ws) : TtOk t (numb ws) where
  td := fun q hq => by
    obtain ⟨a, b, x⟩ := q
    obtain ⟨hx, e⟩ := mem_numb.mp hq
    have := h.wo _ (List.getElem_mem hx)
    rw [e] at this
    exact ⟨this.1, h.ok.pm.mem_iff.mpr (List.mem_range.mpr this.2.1), h.ok.pm.mem_iff.mpr (List.mem_range.mpr this.2.2)⟩
  nd := h.ok.pm.nodup_iff.mpr List.nodup_range
  ln := by rw [h.ok.len]; exact h.ok.hi
  fm := h.ok.fm
  dp := h.dp
  tl := by rw [numb_len]; exact h.wl
section
variable {P : Program} {w : World} {K : PySem.W.Frag} {mg : Str → Option Value} {base : Heap} {f : Addr} {fd : FuncData} {k : Nat}
theorem ok_with_wishes (T : Tp K mg) (F : Fun K "with_wishes" "with_wishes" s_with_wishes f fd) (C1 : Cal P w K mg base k "check_wishes" ["tree", "wishes"] pre_check_wishes) (C2 : Cal P w K mg base k "numbered" ["wishes"] pre_numbered)
    (C3 : Cal P w K mg base k "kept_within" ["tree", "told"] (pre_kept_within 9)) : FnOk P w K mg base CX0 (k + 1) f fd ["tree", "wishes"] (spec K pre_with_wishes) := by
  refine okOf F sc_with_wishes (by decide) (by rintro _ _ ⟨_, _, _, rfl, _⟩; rfl) fun cdv Aa outer s H0 E hr => ⟨_, d_with_wishes T (C_check_wishes := C1) (C_numbered := C2) (C_kept_within := C3) hr, ?_⟩
  rintro _ _ pf ⟨n, t, ws, rfl, ok, rfl⟩
  show Sx K H0 (t_with_wishes K 9) [.d t.enc, .d (.tup (ws.map encW)), .u, .u] _
  refine sx_seq (sx_drop (ev_callD (ea_d (ev_var rfl) (ea_d (ev_var rfl) ea_nil)) ⟨n, t, ws, rfl, ok.ok, ok.wo, ok.wl, rfl⟩) ?_)
  refine sx_seq (sx_unps (vs := [2, 3]) (ev_callDs (ea_d (ev_var rfl) (ea_s (ev_callN (ea_d (ev_var rfl) ea_nil) ⟨ws, rfl, ok.wl, rfl⟩).S ea_nil)) ⟨t, numb ws, rfl, ok.dp, ok.tt, rfl⟩) fun d hd => ?_)
  rcases hd with ⟨o, rfl, h1, h2⟩ | ⟨r, rfl, h1, h2⟩
  · refine tg_tup (tgs_cons (tg_name (tgs_cons (tg_name (tgs_nil ?_) (by decide))) (by decide))) rfl
    refine sx_seq (sx_if (b := false) ((et_test (ev_notN (d := .non) (ev_var rfl))).eqT rfl) (fun h => nomatch h) fun _ => sx_next ?_)
    exact sx_retD (ev_tup (ds := [dstr "order", .ntup (dis o)]) (ea_d ev_str (ea_d (ev_var rfl) ea_nil)) (by show 2 ≤ 1000; decide)) fun v H' rv => ⟨_, .inl ⟨o, rfl, h1, h2⟩, rv⟩
  · refine tg_tup (tgs_cons (tg_name (tgs_cons (tg_name (tgs_nil ?_) (by decide))) (by decide))) rfl
    refine sx_seq (sx_if (b := true) ((et_test (ev_notN (d := .tup (dis r)) (ev_var rfl))).eqT rfl) (fun _ => ?_) fun h => nomatch h)
    exact sx_retD (ev_tup (ds := [dstr "ring", .tup (dis r)]) (ea_d ev_str (ea_d (ev_var rfl) ea_nil)) (by show 2 ≤ 1000; decide)) fun v H' rv => ⟨_, .inr ⟨r, rfl, h1, h2⟩, rv⟩
theorem cnts_drop {ps0 : List Tr} {told : List Tri} {ps : List Tr} {i : Nat} (hi : i < ps.length) (k : Nat) : cnts ps0 told (ps.drop i) k = cntT ps[i] (within ps0 told k) * cnts ps0 told (ps.drop (i + 1)) (k + 1) := by
  rw [List.drop_eq_getElem_cons hi, cnts]
theorem b2n {b : Bool} : (if b = true then (1 : Int) else 0) = ((if b = true then 1 else 0 : Nat) : Int) := by cases b <;> rfl
theorem lin_row (k : Nat) (dem : List Tri) : lin true k dem = (if keepD (List.range k) dem = true then 1 else 0) + (if keepD (List.range k).reverse dem = true then 1 else 0) := by
  unfold lin seqs
  rw [if_pos rfl, List.countP_cons, List.countP_cons, List.countP_nil]
  omega
theorem ok_count_within {m : Nat} (T : Tp K mg) (F : Fun K "count_within" "count_within" s_count_within f fd) (C1 : Cal P w K mg base k "is_thing" ["tree"] pre_is_thing) (C2 : Cal P w K mg base k "met_here" ["parts", "told"] pre_met_here)
    (C3 : Cal P w K mg base k "met_within" ["parts", "told", "part"] pre_met_within) (C4 : Cal P w K mg base k "sequences_kept" ["k", "demands"] pre_sequences_kept) (C5 : Cal P w K mg base k "count_within" ["tree", "told"] (pre_count_within m)) :
    FnOk P w K mg base CX0 (k + 1) f fd ["tree", "told"] (spec K (pre_count_within (m + 1))) := by
  refine okOf F sc_count_within (by decide) (by rintro _ _ ⟨_, _, rfl, _⟩; rfl) fun cdv Aa outer s H0 E hr => ⟨_, d_count_within T (C_is_thing := C1) (C_met_here := C2) (C_met_within := C3) (C_sequences_kept := C4) (C_count_within := C5) hr, ?_⟩
  rintro _ _ pf ⟨t, told, rfl, hm, ok, h8, rfl⟩
  show Sx K H0 (t_count_within K m) [.d t.enc, .b (pf 1) (told.map enc3), .u, .u, .u, .u, .u, .u, .u, .u] _
  refine sx_seq (sx_if (et_B (ev_callD (ea_d (ev_var rfl) ea_nil) ⟨_, rfl, enc_cases t, rfl⟩)) (fun hb => ?_) fun hb => sx_next ?_)
  · cases t with
    | node row ps => cases hb
    | leaf i => exact sx_retD (d := di 1) ev_int fun v H' rv => by rw [cntT]; exact rv
  cases t with
  | leaf i => cases hb
  | node row ps =>
    have pt := ok.pt
    have dm := pt.dm
    have hkk := pt.pl
    have hf := fm_node.mp ok.fm
    rw [Tr.flat] at h8
    have hp8 : ps.length ≤ 8 := Nat.le_trans (flats_pos ps hf.2.2) h8
    have el : (encs ps).length = ps.length := by rw [encs_eq, List.length_map]
    have hmdl : (met ps told).length ≤ 6 := dm.dl
    obtain ⟨kr1, kr2⟩ := keep_range dm.lt
    refine sx_seq (sx_unp (vs := [2, 3]) (d := .tup [.str (if row then "row" else "any"), .tup (encs ps)]) (ev_var rfl) (tg_tup (tgs_cons (tg_name (tgs_cons (tg_name (tgs_nil ?_) (by decide))) (by decide))) rfl))
    refine sx_seq (sx_setN (ev_callN (ea_d (ev_var rfl) (ea_s (ev_varB rfl) ea_nil)) ⟨ps, told, rfl, pt, rfl⟩) fun p4 => ?_)
    refine sx_seq (Sx.imp (M := fun ρ' => ρ' = [.d (Tr.node row ps).enc, .b (pf 1) (told.map enc3), .d (.str (if row then "row" else "any")), .d (.tup (encs ps)), .l p4 ((met ps told).map enc3), .d (di (lin row ps.length (met ps told))), .u, .u, .u, .u]) ?_ ?_)
    · refine sx_if (et_test (ev_eqS (ev_var rfl) ev_str)) (fun hb => ?_) fun hb => ?_
      · have hrow : row = false := by
          cases row with
          | false => rfl
          | true => revert hb; decide +kernel
        subst hrow
        exact sx_setD (ev_callD (ea_d ((ev_lenT (ev_var rfl)).eqD (d' := di ps.length) (by rw [el]; rfl)) (ea_s (ev_varL rfl) ea_nil)) ⟨ps.length, met ps told, rfl, dm, hp8, rfl⟩) rfl
      · have hrow : row = true := by
          cases row with
          | true => rfl
          | false => revert hb; decide +kernel
        subst hrow
        refine sx_setD ((ev_ii (ev_intB (ev_all (bs := (met ps told).map fun d => decide (d.1 < d.2.1)) ((ev_lc1 (xs := met ps told) enc3 (fun d => .bl (decide (d.1 < d.2.1))) (ei_list (ev_varL rfl)) (by omega) fun q hq => ?_).S.eqS (by simp)))) (ev_intB (ev_all (bs := (met ps told).map fun d => decide (d.2.1 < d.1)) ((ev_lc1 (xs := met ps told) enc3 (fun d => .bl (decide (d.2.1 < d.1))) (ei_list (ev_varL rfl)) (by omega) fun q hq => ?_).S.eqS (by simp))))).eqD (d' := di (lin true ps.length (met ps told))) ?_) rfl
        · refine tg_tup (tgs_cons (tg_name (tgs_cons (tg_name (tgs_cons (tg_name (tgs_nil ?_) (by decide))) (by decide))) (by decide))) rfl
          exact (ev_ib (i := (q.1 : Int)) (j := (q.2.1 : Int)) (ev_var rfl) (ev_var rfl)).eqD (by rw [dec_lt])
        · refine tg_tup (tgs_cons (tg_name (tgs_cons (tg_name (tgs_cons (tg_name (tgs_nil ?_) (by decide))) (by decide))) (by decide))) rfl
          exact (ev_ib (i := (q.1 : Int)) (j := (q.2.1 : Int)) (ev_var rfl) (ev_var rfl)).eqD (by rw [dec_lt])
        · have e1 : ((met ps told).map fun d => decide (d.1 < d.2.1)).all id = keepD (List.range ps.length) (met ps told) := by rw [kr1, List.all_map]; rfl
          have e2 : ((met ps told).map fun d => decide (d.2.1 < d.1)).all id = keepD (List.range ps.length).reverse (met ps told) := by rw [kr2, List.all_map]; rfl
          rw [e1, e2]
          rw [lin_row]
          generalize keepD (List.range ps.length) (met ps told) = b1
          generalize keepD (List.range ps.length).reverse (met ps told) = b2
          cases b1 <;> cases b2 <;> rfl
    · rintro ρ' rfl
      refine sx_seq (sx_for (vs := [6]) (ej_range (n := ps.length) (ea_d ((ev_lenT (ev_var rfl)).eqD (by rw [el])) ea_nil) (by omega)) (fun i ρ => ∃ (num : Nat) (a : A), ρ = [.d (Tr.node row ps).enc, .b (pf 1) (told.map enc3), .d (.str (if row then "row" else "any")), .d (.tup (encs ps)), .l p4 ((met ps told).map enc3), .d (di num), a, .u, .u, .u] ∧
        num * cnts ps told (ps.drop i) i = cntT (.node row ps) told) ⟨_, .u, rfl, by rw [List.drop_zero, cntT]⟩ ?_ ?_)
      · rintro i d ρ hd ⟨num, a, rfl, hnum⟩
        have hi : i < ps.length := by
          have := (List.getElem?_eq_some_iff.mp hd).1
          rwa [rngD_len] at this
        rw [rngD_get hi] at hd
        cases hd
        have hpm : ps[i] ∈ ps := List.getElem_mem hi
        have hpl : ps[i].flat.length ≤ 8 := Nat.le_trans (part_len hpm) h8
        have hcb := cnt_le ps[i] (within ps told i) (fms_mem hf.2.2 hpm) hpl
        have hcb2 : cntT ps[i] (within ps told i) ≤ 128 ^ 7 := Nat.le_trans hcb (Nat.pow_le_pow_right (by decide) (by omega))
        refine tg_name ?_ (by decide)
        refine sx_augC (a := (num : Int)) (b := ((cntT ps[i] (within ps told i) : Nat) : Int)) rfl (ev_callD (ea_d (ev_ixT (ev_var rfl) (ev_var rfl) (atI_dn (encs_get hi))) (ea_s (ev_callN (ea_d (ev_var rfl) (ea_s (ev_varB rfl) (ea_d (ev_var rfl) ea_nil))) ⟨ps, told, i, rfl, pt, rfl⟩).S ea_nil)) ⟨ps[i], within ps told i, rfl, dep_part hm hpm, ok.part hi, hpl, rfl⟩) (.inr ?_) ⟨num * cntT ps[i] (within ps told i), .d (di i), ?_, ?_⟩
        · have : (128 : Nat) ^ 7 < 2 ^ 64 := by decide
          constructor <;> omega
        · show [_, _, _, _, _, A.d (.int _), _, _, _, _] = _
          rw [← Int.natCast_mul]; rfl
        · rw [cnts_drop hi] at hnum
          rw [Nat.mul_assoc]
          exact hnum
      · rintro ρ ⟨num, a, rfl, hnum⟩
        rw [rngD_len, List.drop_length, cnts, Nat.mul_one] at hnum
        exact sx_retD (ev_var rfl) fun v H' rv => by rw [hnum] at rv; exact rv
theorem ok_count_with_wishes (T : Tp K mg) (F : Fun K "count_with_wishes" "count_with_wishes" s_count_with_wishes f fd) (C1 : Cal P w K mg base k "check_wishes" ["tree", "wishes"] pre_check_wishes) (C2 : Cal P w K mg base k "numbered" ["wishes"] pre_numbered)
    (C3 : Cal P w K mg base k "count_within" ["tree", "told"] (pre_count_within 9)) (C4 : Cal P w K mg base k "need_few_parts" ["tree"] (pre_need_few_parts 9)) : FnOk P w K mg base CX0 (k + 1) f fd ["tree", "wishes"] (spec K pre_count_with_wishes) := by
  refine okOf F sc_count_with_wishes (by decide) (by rintro _ _ ⟨_, _, _, rfl, _⟩; rfl) fun cdv Aa outer s H0 E hr => ⟨_, d_count_with_wishes T (C_check_wishes := C1) (C_numbered := C2) (C_count_within := C3) (C_need_few_parts := C4) hr, ?_⟩
  rintro _ _ pf ⟨n, t, ws, rfl, ok, h8, rfl⟩
  show Sx K H0 (t_count_with_wishes K 9 9) [.d t.enc, .d (.tup (ws.map encW))] _
  have hl : t.flat.length ≤ 8 := by rw [ok.ok.len]; exact h8
  refine sx_seq (sx_drop (ev_callD (ea_d (ev_var rfl) (ea_d (ev_var rfl) ea_nil)) ⟨n, t, ws, rfl, ok.ok, ok.wo, ok.wl, rfl⟩) ?_)
  refine sx_seq (sx_drop (ev_callD (ea_d (ev_var rfl) ea_nil) ⟨t, rfl, ok.dp, ok.ok.fm, hl, rfl⟩) ?_)
  exact sx_retD (ev_callD (ea_d (ev_var rfl) (ea_s (ev_callN (ea_d (ev_var rfl) ea_nil) ⟨ws, rfl, ok.wl, rfl⟩).S ea_nil)) ⟨t, numb ws, rfl, ok.dp, ok.tt, hl, rfl⟩) fun v H' rv => rv
end
end Wk
/-! ## F8 -/
set_option Elab.async false
set_option linter.all false
set_option autoImplicit false
set_option maxRecDepth 100000
set_option maxHeartbeats 4000000
namespace Wk
open PySem PySem.Spec L2
def encP (w : Nat × Nat) : D := .tup [di w.1, di w.2]
theorem encP_eq (w : Nat × Nat) : encP w = .tup ([w.1, w.2].map fun (n : Nat) => D.int (n : Int)) := rfl
/-- the step of a wish among parts -/
def stx (ps : List Tr) (ws : List (Nat × Nat)) (x : Nat) : Nat × Nat := (ixw ps (ws.getD x (0, 0)).1, ixw ps (ws.getD x (0, 0)).2)
theorem stx_met {ps : List Tr} {ws : List (Nat × Nat)} {told : List Tri} (hs : ∀ q ∈ told, q ∈ numb ws) : ∀ a b x, (a, b, x) ∈ met ps told → stx ps ws x = (a, b) := fun a b x h => by
  obtain ⟨p, q, h1, _, rfl, rfl⟩ := mem_met.mp h
  obtain ⟨hx, e⟩ := mem_numb.mp (hs _ h1)
  unfold stx
  rw [List.getD_eq_getElem?_getD, List.getElem?_eq_getElem hx, e]
  rfl
theorem stx_within {ps : List Tr} {ws : List (Nat × Nat)} {told : List Tri} (hs : ∀ q ∈ told, q ∈ numb ws) {k a b x : Nat} (h : (a, b, x) ∈ within ps told k) : stx ps ws x = (k, k) := by
  obtain ⟨h1, h2, h3⟩ := mem_within.mp h
  obtain ⟨hx, e⟩ := mem_numb.mp (hs _ h1)
  unfold stx
  rw [List.getD_eq_getElem?_getD, List.getElem?_eq_getElem hx, e]
  simp only [Option.getD_some]
  simp only at h2 h3
  rw [h2, h3]
section
variable {P : Program} {w : World} {K : PySem.W.Frag} {mg : Str → Option Value} {base : Heap} {f : Addr} {fd : FuncData} {k : Nat}
theorem encW_get {ws : List (Nat × Nat)} {x : Nat} (h : x < ws.length) : (ws.map encW)[x]? = some (.tup [di (ws.getD x (0, 0)).1, di (ws.getD x (0, 0)).2]) := by
  rw [List.getElem?_map, List.getElem?_eq_getElem h, List.getD_eq_getElem?_getD, List.getElem?_eq_getElem h]; rfl
theorem ok_is_wish_ring (T : Tp K mg) (F : Fun K "is_wish_ring" "is_wish_ring" s_is_wish_ring f fd) (C1 : Cal P w K mg base k "check_wishes" ["tree", "wishes"] pre_check_wishes) (C2 : Cal P w K mg base k "is_thing" ["tree"] pre_is_thing)
    (C3 : Cal P w K mg base k "index_with" ["parts", "thing"] pre_index_with) : FnOk P w K mg base CX0 (k + 1) f fd ["tree", "wishes", "indexes"] (spec K pre_is_wish_ring) := by
  refine okOf F sc_is_wish_ring (by decide) (by rintro _ _ ⟨_, _, _, _, rfl, _⟩; rfl) fun cdv Aa outer s H0 E hr => ⟨_, d_is_wish_ring T (C_check_wishes := C1) (C_is_thing := C2) (C_index_with := C3) hr, ?_⟩
  rintro _ _ pf ⟨n, t, ws, r, rfl, ok, hrl, hring, rfl⟩
  show Sx K H0 (t_is_wish_ring K) [.d t.enc, .d (.tup (ws.map encW)), .d (.tup (dis r)), .u, .u, .u, .u, .u, .u, .u, .u] _
  obtain ⟨hmem, hne⟩ := ring_mem t hring
  have hlt : ∀ x ∈ r, x < ws.length := fun x hx => by
    obtain ⟨a, b, h⟩ := hmem x hx
    exact (mem_numb.mp h).1
  have hpos : 0 < r.length := List.length_pos_iff.mpr hne
  refine sx_seq (sx_drop (ev_callD (ea_d (ev_var rfl) (ea_d (ev_var rfl) ea_nil)) ⟨n, t, ws, rfl, ok.ok, ok.wo, ok.wl, rfl⟩) ?_)
  refine sx_seq (sx_if (b := false) ?_ (fun h => nomatch h) fun _ => sx_next ?_)
  · refine (et_or (et_test (ev_eqI (ev_lenT (ds := dis r) (ev_var rfl)) ev_int)) fun _ => et_not (et_B (ev_all (bs := r.map fun _ => true) ((ev_lc1 (xs := r) di (fun _ => .bl true) (ej_tup (ev_var rfl)).i (by omega) fun q hq => ?_).S.eqS (by simp))))).eqT ?_
    · refine tg_name ?_ (by decide)
      refine (ev_chain (j := (q : Int)) ev_int (ev_var rfl) fun _ => ev_lenT (ds := ws.map encW) (ev_var rfl)).eqD ?_
      have h1 := hlt q hq
      have b1 : decide ((0 : Int) ≤ (q : Int)) = true := decide_eq_true (by omega)
      have b2 : decide ((q : Int) < ((ws.map encW).length : Nat)) = true := decide_eq_true (by rw [List.length_map]; omega)
      rw [b1, b2]; rfl
    · rw [dis_len, all_true]
      have : decide (((r.length : Nat) : Int) = 0) = false := decide_eq_false (by omega)
      rw [this]; rfl
  · refine sx_seq (sx_while (fun m ρ => ∃ (t' : Tr) (told : List Tri) (a b c : A), m = t'.dep ∧ ρ = [.d t'.enc, .d (.tup (ws.map encW)), .d (.tup (dis r)), a, b, c, .u, .u, .u, .u, .u] ∧ TtOk t' told ∧ (∀ q ∈ told, q ∈ numb ws) ∧ RingT t' told r) _
      ⟨t, numb ws, .u, .u, .u, rfl, rfl, ok.tt, fun q hq => hq, hring⟩ ?_)
    rintro m ρ ⟨t', told, a, b, c, rfl, rfl, tt, hs, hR⟩
    cases t' with
    | leaf i => rw [RingT] at hR; exact hR.elim
    | node row ps =>
      have pt := tt.pt
      have dm := pt.dm
      obtain ⟨hmem', _⟩ := ring_mem (.node row ps) hR
      have hfl : (flats ps).Nodup := by have := tt.nd; rwa [Tr.flat] at this
      refine ⟨true, et_not (et_B (ev_callD (d := .bl false) (ea_d (ev_var rfl) ea_nil) ⟨_, rfl, .inr ⟨_, rfl⟩, rfl⟩)), fun _ => ?_, fun h => nomatch h⟩
      refine sx_seq (sx_unp (vs := [3, 4]) (d := .tup [.str (if row then "row" else "any"), .tup (encs ps)]) (ev_var rfl) (tg_tup (tgs_cons (tg_name (tgs_cons (tg_name (tgs_nil ?_) (by decide))) (by decide))) rfl))
      refine sx_seq (sx_setN (ds := (r.map (stx ps ws)).map encP) ((ev_lc1 (xs := r) di (fun x => encP (stx ps ws x)) (ej_tup (ev_var rfl)).i (by omega) fun x hx => ?_).eqN (by rw [List.map_map]; rfl)) fun p5 => ?_)
      · refine tg_name ?_ (by decide)
        have hxl := hlt x hx
        obtain ⟨a', b', hab⟩ := hmem' x hx
        obtain ⟨_, m1, m2⟩ := pt.td _ hab
        obtain ⟨_, e⟩ := mem_numb.mp (hs _ hab)
        have e1 : (ws.getD x (0, 0)) = (a', b') := by rw [List.getD_eq_getElem?_getD, List.getElem?_eq_getElem hxl, e]; rfl
        refine ev_tup (ds := [di (stx ps ws x).1, di (stx ps ws x).2]) (ea_d (ev_callD (ea_d (ev_var rfl) (ea_d (ev_ixT (ev_ixT (ev_var rfl) (ev_var rfl) (atI_dn (encW_get hxl))) ev_int atI_0) ea_nil)) ⟨ps, _, rfl, by rw [e1]; exact m1, pt.ln, pt.dp, pt.pl, rfl⟩) (ea_d (ev_callD (ea_d (ev_var rfl) (ea_d (ev_ixT (ev_ixT (ev_var rfl) (ev_var rfl) (atI_dn (encW_get hxl))) ev_int atI_1) ea_nil)) ⟨ps, _, rfl, by rw [e1]; exact m2, pt.ln, pt.dp, pt.pl, rfl⟩) ea_nil)) (by show 2 ≤ 1000; decide)
      have hsl : (r.map (stx ps ws)).length ≤ 100000 := by rw [List.length_map]; omega
      have eany : ∀ {ρ : Ab}, ρ[5]? = some (.l p5 ((r.map (stx ps ws)).map encP)) → (wipeA ρ [7, 8]).length = 11 → EvP K H0 (tLc (iList K (tVar 5)) (gTup K 2 (gCons (gName 7) (gCons (gName 8) gNil))) tYes (tOp rNe (tVar 7) (tVar 8)) [7, 8]) ρ (PN (((r.map (stx ps ws)).map fun s => decide (s.1 ≠ s.2)).map D.bl)) := fun {ρ} h5 hlen =>
        (ev_lc1 (xs := r.map (stx ps ws)) encP (fun s => .bl (decide (s.1 ≠ s.2))) (ei_list (ev_varL h5)) hsl fun q hq => by
          refine tg_tup (tgs_cons (tg_name (tgs_cons (tg_name (tgs_nil ?_) (by decide))) (by decide))) rfl
          refine (ev_neI (i := (q.1 : Int)) (j := (q.2 : Int)) (ev_var ?_) (ev_var ?_)).eqD ?_
          · rw [List.getElem?_set_ne (by decide), List.getElem?_set_self (by rw [hlen]; decide)]; rfl
          · rw [List.getElem?_set_self (by rw [List.length_set, hlen]; decide)]; rfl
          · rw [dec_int]; simp).eqN (by rw [List.map_map, List.map_map, List.map_map]; rfl)
      rcases ring_node_iff.mp hR with hhere | hsub
      · -- the ring is among these parts
        have hall : ∀ x ∈ r, (stx ps ws x).1 ≠ (stx ps ws x).2 := fun x hx => by
          have : ∃ i j, (i, j, x) ∈ met ps told := by
            cases row with
            | true =>
              obtain ⟨i, j, y, i', j', z, h1, h2, _, _, rfl⟩ := hhere
              simp at hx
              rcases hx with rfl | rfl
              · exact ⟨_, _, h1⟩
              · exact ⟨_, _, h2⟩
            | false =>
              obtain ⟨st, hw⟩ := hhere
              exact walk_mem hw x hx
          obtain ⟨i, j, h⟩ := this
          rw [stx_met hs i j x h]
          exact dm.ne _ h
        refine sx_seq (sx_if (b := true) ((et_B (ev_any (eany rfl rfl).S)).eqT ?_) (fun _ => ?_) fun h => nomatch h)
        · rw [List.any_map, List.any_map, List.any_eq_true]
          obtain ⟨x, hx⟩ := List.exists_mem_of_ne_nil r hne
          exact ⟨x, hx, decide_eq_true (hall x hx)⟩
        refine sx_seq (sx_if (b := false) ((et_not (et_B (ev_all (eany rfl rfl).S))).eqT ?_) (fun h => nomatch h) fun _ => sx_next ?_)
        · rw [List.all_map, List.all_map]
          have : (r.all ((id ∘ fun s => decide (s.1 ≠ s.2)) ∘ stx ps ws)) = true := List.all_eq_true.mpr fun x hx => decide_eq_true (hall x hx)
          rw [this]; rfl
        cases row with
        | true =>
          obtain ⟨i, j, x, i', j', y, h1, h2, h3, h4, rfl⟩ := hhere
          have s1 := stx_met hs i j x h1
          have s2 := stx_met hs i' j' y h2
          refine sx_seq (sx_if (b := true) ((et_test (ev_eqS (ev_var rfl) ev_str)).eqT (by decide +kernel)) (fun _ => ?_) fun h => nomatch h)
          have g0 : EvP K H0 (tOp (rIxL K) (tVar 5) (tC (.int 0))) [.d (Tr.node true ps).enc, .d (.tup (ws.map encW)), .d (.tup (dis [x, y])), .d (.str "row"), .d (.tup (encs ps)), .l p5 (([x, y].map (stx ps ws)).map encP), .u, .u, .u, .u, .u] (PD (encP (i, j))) := ev_ixL (ev_varL rfl) ev_int (by rw [← s1]; exact atI_0)
          have g1 : EvP K H0 (tOp (rIxL K) (tVar 5) (tC (.int 1))) [.d (Tr.node true ps).enc, .d (.tup (ws.map encW)), .d (.tup (dis [x, y])), .d (.str "row"), .d (.tup (encs ps)), .l p5 (([x, y].map (stx ps ws)).map encP), .u, .u, .u, .u, .u] (PD (encP (i', j'))) := ev_ixL (ev_varL rfl) ev_int (by rw [← s2]; exact atI_1)
          refine sx_retD ((ev_andV (ev_eqI (ev_lenL (ev_varL rfl)) ev_int) fun _ => ev_neB (ev_ib (i := (i : Int)) (j := (j : Int)) (ev_ixT (ds := [di i, di j]) g0 ev_int atI_0) (ev_ixT (ds := [di i, di j]) g0 ev_int atI_1)) (ev_ib (i := (i' : Int)) (j := (j' : Int)) (ev_ixT (ds := [di i', di j']) g1 ev_int atI_0) (ev_ixT (ds := [di i', di j']) g1 ev_int atI_1))).eqD (d' := .bl true) ?_) fun v H' rv => rv
          have b1 : decide ((i : Int) < (j : Int)) = true := decide_eq_true (by omega)
          have b2 : decide ((i' : Int) < (j' : Int)) = false := decide_eq_false (by omega)
          rw [b1, b2]; rfl
        | false =>
          obtain ⟨st, hw⟩ := hhere
          have so := walk_steps (f := stx ps ws) (stx_met hs) hw
          have hstl : (r.map (stx ps ws)).length = r.length := List.length_map _
          refine sx_seq (sx_if (b := false) ((et_test (ev_eqS (ev_var rfl) ev_str)).eqT (by decide +kernel)) (fun h => nomatch h) fun _ => sx_next ?_)
          refine sx_retD ((ev_all (bs := (List.range r.length).map fun _ => true) ((ev_lc1 (xs := List.range r.length) di (fun _ => .bl true) (ej_range (n := r.length) (ea_d ((ev_lenL (ev_varL rfl)).eqD (by rw [List.length_map, List.length_map])) ea_nil) (by omega)).i (by rw [List.length_range]; omega) fun q hq => ?_).S.eqS (by simp))).eqD (d' := .bl true) (by rw [all_true])) fun v H' rv => rv
          have hq : q < r.length := List.mem_range.mp hq
          have hq2 : q < (r.map (stx ps ws)).length := by rw [hstl]; exact hq
          have lk := so.all q hq2
          refine tg_name ?_ (by decide)
          -- the step ahead, and this one
          have cur : ((r.map (stx ps ws)).map encP)[q]? = some (encP ((r.map (stx ps ws)).getD q (0, 0))) := by
            rw [List.getElem?_map, List.getD_eq_getElem?_getD, List.getElem?_eq_getElem hq2]; rfl
          have ahead : atI ((r.map (stx ps ws)).map encP) ((q : Int) - 1) = some (encP (if q = 0 then (r.map (stx ps ws)).getD ((r.map (stx ps ws)).length - 1) (0, 0) else (r.map (stx ps ws)).getD (q - 1) (0, 0))) := by
            by_cases e : q = 0
            · subst e
              rw [if_pos rfl]
              obtain ⟨l, z, hlz⟩ : ∃ l z, r.map (stx ps ws) = l ++ [z] := ⟨_, _, (List.dropLast_concat_getLast (l := r.map (stx ps ws)) (fun h => by rw [h] at hq2; exact absurd hq2 (Nat.not_lt_zero _))).symm⟩
              rw [hlz, List.map_append]
              show atI (l.map encP ++ [encP z]) (-1) = _
              rw [atI_last]
              simp
            · rw [if_neg e, show (q : Int) - 1 = ((q - 1 : Nat) : Int) by omega]
              refine atI_dn ?_
              rw [List.getElem?_map, List.getD_eq_getElem?_getD, List.getElem?_eq_getElem (show q - 1 < (r.map (stx ps ws)).length by omega)]; rfl
          refine (ev_eqI (ev_ixT (ev_ixL (ev_varL rfl) (ev_ii (i := (q : Int)) (j := 1) (ev_var rfl) ev_int) ahead) ev_int atI_1) (ev_ixT (ev_ixL (ev_varL rfl) (ev_var rfl) (atI_dn cur)) ev_int atI_0)).eqD ?_
          rw [lk, decide_eq_true rfl]
      · -- it is within one part
        obtain ⟨j, hj, hRj⟩ := ringTs_iff hsub
        rw [Nat.zero_add] at hRj
        obtain ⟨hmj, _⟩ := ring_mem ps[j] hRj
        have hst : ∀ x ∈ r, stx ps ws x = (j, j) := fun x hx => by
          obtain ⟨a', b', h⟩ := hmj x hx
          exact stx_within hs h
        have hpm : ps[j] ∈ ps := List.getElem_mem hj
        have hmap : r.map (stx ps ws) = r.map fun _ => (j, j) := List.map_congr_left hst
        refine sx_seq (sx_if (b := false) ((et_B (ev_any (eany rfl rfl).S)).eqT ?_) (fun h => nomatch h) fun _ => sx_next ?_)
        · rw [hmap]; simp
        obtain ⟨x0, xs0, hr0⟩ : ∃ x xs, r = x :: xs := by
          cases hrr : r with
          | nil => exact absurd hrr hne
          | cons x xs => exact ⟨x, xs, rfl⟩
        have hhead : atI ((r.map (stx ps ws)).map encP) 0 = some (encP (j, j)) := by
          rw [hmap, hr0]
          exact atI_0
        refine sx_seq (sx_if (b := false) ((et_B (ev_any (bs := (r.map (stx ps ws)).map fun _ => false) ((ev_lc1 (xs := r.map (stx ps ws)) encP (fun _ => .bl false) (ei_list (ev_varL rfl)) hsl fun q hq => ?_).S.eqS (by simp)))).eqT (by simp)) (fun h => nomatch h) fun _ => sx_next ?_)
        · refine tg_name ?_ (by decide)
          have hq : q = (j, j) := by
            rw [hmap] at hq
            obtain ⟨_, _, e⟩ := List.mem_map.mp hq
            exact e.symm
          subst hq
          refine (ev_neTI (ns := [(j : Int), (j : Int)]) (ms := [(j : Int), (j : Int)]) (ev_var rfl) (ev_ixL (ev_varL rfl) ev_int hhead)).eqD ?_
          rw [decide_eq_true rfl]; rfl
        · refine sx_setD (d := ps[j].enc) (ev_ixT (ev_var rfl) (ev_ixT (ds := [di j, di j]) (ev_ixL (ev_varL rfl) ev_int hhead) ev_int atI_0) (atI_dn (encs_get hj))) ?_
          refine ⟨ps[j].dep, ?_, ps[j], within ps told j, _, _, _, rfl, rfl, tt.part hj, fun q hq => hs q (mem_within.mp hq).1, hRj⟩
          have := deps_mem hpm
          rw [dep_node]
          omega
end
end Wk
/-! ## K6 -/
set_option Elab.async false
set_option linter.all false
set_option autoImplicit false
set_option maxRecDepth 100000
set_option maxHeartbeats 4000000
/-! Dicts whose keys are tuples: shown with one pair, walked by items, the sum of the values. -/
namespace Wk
open PySem PySem.Spec L2 PyProof.Rows
section
variable {X : Cx} {pins : List (Addr × Obj)} {σ : L2.St} {H : Hp} {s : Shared} {d : Addr}
theorem dt_at {h : Heap} {kvs : List (List Key × V)} (x : ObjOk X.prog X.w H h d (.dT kvs)) : (d == sysModules) = false ∧ ∃ (es : Array DictEntry) (ep : Nat), h.DictRaw d es ep ∧ es.size = kvs.length ∧
    ∀ (i : Nat) (k : List Key) (v : V), kvs[i]? = some (k, v) → ∃ (hi : i < es.size) (q : Addr), es[i].key = .ref q ∧ H q = some (.tup (k.map kV)) ∧ RelV v es[i].val := by
  obtain ⟨z, hs, xs, pr, o', es, ep, ho, hx, hdt, he, _⟩ := x
  have l1 : es.size = xs.length := size_of_entries he
  have l2 : kvs.length = xs.length := Paired.length pr
  refine ⟨hs, es, ep, ⟨o', ho, hx, hdt⟩, by omega, fun i k v e => ?_⟩
  obtain ⟨b, hb, e1, e2, e3⟩ := paired_get pr e
  have q := entry_at he i
  rw [hb] at q
  obtain ⟨hi, eq⟩ := Array.getElem?_eq_some_iff.mp q
  refine ⟨hi, b.2.1, by rw [eq]; rfl, e2, by rw [eq]; exact e3⟩
/-- the pairs of key and value, each a new tuple -/
def Itit (d : Addr) (o : Obj) (kvs : List (List Key × V)) : It :=
  ⟨fun i H => H d = some (.frz o (.dT kvs)) ∧ i < kvs.length, fun i H x H' => ∃ (T : Addr) (k : List Key) (v : V) (q : Addr), kvs[i]? = some (k, v) ∧ H q = some (.tup (k.map kV)) ∧ x = .ref T ∧ H T = none ∧ H' = upd H T (.tup [.ref q, v]), fun i H => H d = some (.frz o (.dT kvs)) ∧ kvs.length ≤ i⟩
theorem turn_itemsT {P : Program} {w : World} {K : PySem.W.Frag} {o : Obj} {es0 : Array DictEntry} {ep0 : Nat} {kvs : List (List Key × V)} {elts : List Expr} {kk : Nat} {tpos : Pos} (it : Addr) (hod : o.data = .dict es0 ep0) :
    Turn P w K (.Tuple elts kk tpos) (Itit d o kvs) [it] it (fun i h => ∃ ok ov, IsItemIter h it d i kvs.length ep0 ok ov) where
  mem := by simp
  obj := fun i h st b hb => by
    have e : b = it := by simpa using hb
    subst e
    obtain ⟨ok, ov, e⟩ := st
    exact ⟨_, e, fun v z => nomatch z⟩
  keep := fun i h h' st k => let ⟨ok, ov, e⟩ := st; ⟨ok, ov, k it (by simp) _ e⟩
  item := by
    intro X hP hw hK hc i pins s σ H E I hf st hg
    subst hP hw hK
    obtain ⟨hd, hi⟩ := hg
    obtain ⟨g1, g2⟩ := I.hok d _ hd
    obtain ⟨hsys, es, ep, hraw, hsz, ent⟩ := dt_at g2
    have hee : es = es0 ∧ ep = ep0 := by
      obtain ⟨o1, a1, a2, a3⟩ := hraw
      rw [g1] at a1
      cases a1
      exact dict_ep hod a3
    obtain ⟨rfl, rfl⟩ := hee
    obtain ⟨⟨k, v⟩, hkv⟩ : ∃ p, kvs[i]? = some p := ⟨kvs[i], List.getElem?_eq_getElem hi⟩
    obtain ⟨hie, q, e1, e2, e3⟩ := ent i k v hkv
    obtain ⟨ok, ov, he⟩ := st
    rw [← hsz] at he
    have hlt : it < s.heap.objs.size := Heap.lt_size he
    refine wpAny_pyNext_items_item_raw he hraw hie fun h' ho hT hz hk => ?_
    refine ⟨_, rfl, wpAny_letOwnedTupleGo_items (s := { s with heap := h' }) ho fun h'' he' sb => ?_⟩
    have hT2 : h''.get? s.heap.objs.size = some { cls := .type "tuple", data := .seq #[es[i].key, es[i].val] } := (sb.2 _ (Nat.ne_of_gt hlt)).trans hT
    have new : ObjOk X.prog X.w (upd H s.heap.objs.size (.tup [.ref q, v])) h'' s.heap.objs.size (.tup [.ref q, v]) :=
      ⟨by show 2 ≤ sizeLine; decide, [es[i].key, es[i].val], .cons e1 (.cons e3 .nil), ⟨_, hT2, rfl, _, rfl⟩⟩
    have I1 : Inv X pins σ (upd H s.heap.objs.size (.tup [.ref q, v])) { s with heap := h'' } :=
      I.turnedNew (t' := s.toks) (ch := [it]) (fun b ob hb e => (sb.2 b (by simpa using hb)).trans (hk b ob (by simpa using hb) e)) hf (Nat.le_refl _) new
    refine ⟨.ref s.heap.objs.size, _, I1, rfl, ⟨_, k, v, q, hkv, e2, rfl, I.hok.fresh (Nat.le_refl _), rfl⟩, ⟨es[i].key, es[i].val, ?_⟩, fun b hb => ?_⟩
    · rw [← hsz]; exact he'
    · have e : b = it := by simpa using hb
      rw [e, upd_ne (Nat.ne_of_lt hlt)]
      exact (hf it (by simp)).1
  done := by
    intro X hP hw hK hc i pins s σ H E I hf st hg
    subst hP hw hK
    obtain ⟨hd, hi⟩ := hg
    obtain ⟨g1, g2⟩ := I.hok d _ hd
    obtain ⟨hsys, es, ep, hraw, hsz, ent⟩ := dt_at g2
    have hee : es = es0 ∧ ep = ep0 := by
      obtain ⟨o1, a1, a2, a3⟩ := hraw
      rw [g1] at a1
      cases a1
      exact dict_ep hod a3
    obtain ⟨rfl, rfl⟩ := hee
    obtain ⟨f0, f1, f2, f3, f4, f5⟩ := hf it (by simp)
    obtain ⟨ok, ov, he⟩ := st
    rw [← hsz] at he
    exact wpAny_pyNext_items_end_raw (I.ok.hd hc) he hraw (by omega) fun h' eb => ⟨rfl, I.turned (t' := s.toks) (fun b ob hb e => eb b ob hb e) f0 f1 f3 f4 f5⟩
  self := fun Aa i s Q E st h => let ⟨_, _, e⟩ := st; wpAny_pyIter_itemiter e h
def iItemsT (td : TE) : TI := fun σ H R => td σ H fun x H1 => ∃ d o kvs, x = .ref d ∧ H1 d = some (.frz o (.dT kvs)) ∧ R (Itit d o kvs) H1
theorem pi_itemsT {e : Expr} {td : TE} {apos cpos : Pos} {elts : List Expr} {kk : Nat} {tpos : Pos} (he : PE X e td) (hbase : attributeBase e "items" X.env (eval e X.env) = eval e X.env := by rfl) (hline : (apos.endLine == cpos.line) = true := by rfl) :
    PI X (.Tuple elts kk tpos) (.Call (.Attribute e "items" apos) [] [] cpos) (iItemsT td) := by
  refine ⟨fun pins s σ H R I h => ?_⟩
  refine wpAny_Call_method (T := "dict") (id := "dict.items") hbase rfl hline PySem.F.plainAttrs_dict PySem.F.slot_dict_items PySem.F.type_dict_items (thn (he.run pins s σ H _ I h) fun u s1 ⟨x, H1, I1, rx, d, o, kvs, ex, hd, q⟩ => ?_)
  subst ex
  obtain rfl : u = Value.ref d := rx
  obtain ⟨g1, g2⟩ := I1.hok d _ hd
  obtain ⟨hsys, es, ep, hraw, hsz, ent⟩ := dt_at g2
  have hraw0 := hraw
  obtain ⟨o1, a1, a2, a3⟩ := hraw0
  rw [g1] at a1
  cases a1
  refine ⟨hraw.typeIs, fun b eb => ?_, ?_⟩
  · cases eb
    exact ⟨o, g1, a2.2.1⟩
  have I2 : Inv X pins σ H1 { s1 with heap := s1.heap.push { cls := .type "dict_items", data := .fields #[.ref d] } } := I1.kept (t' := s1.toks) fun b ob w => Heap.get?_push_of_some _ w
  have fin : wpAny (model X.prog X.w) X.A (pyIter (.ref s1.heap.objs.size)) (PIE X pins σ (.Tuple elts kk tpos) R) X.xe { s1 with heap := s1.heap.push { cls := .type "dict_items", data := .fields #[.ref d] } } := by
    refine wpAny_pyIter_items_raw (d := d) ⟨_, Heap.get?_push_size _ rfl, rfl, rfl⟩ (hraw.at fun o w => Heap.get?_push_of_some _ w) (pi_one (tk := s1.toks) I2 _ (turn_itemsT _ a3) ⟨.none, .none, ?_⟩ q)
    rw [← hsz]
    exact Heap.get?_push_size _ rfl
  show wpAny _ _ (callWith cpos (.builtin "dict.items") [.ref d] [] []) _ X.xe s1
  exact method_meetsIn PySem.F.slot_dict_items PySem.F.entry_dict_items rfl (PySem.evalArgs_none ⟨rfl, hraw.typeIs, PySem.F.args_dict_items_1 _, _, meets_dict_items_raw d hsys, ⟨es, ep, hraw⟩, fin⟩)
end

/-! ### sum(d.values()) -/
def tSumVals (td : TE) : TE := fun σ H Q => td σ H fun x H1 => ∃ (a : Addr) (kvs : List (List Key × V)) (ns : List Int), x = V.ref a ∧ H1 a = some (.dT kvs) ∧ kvs.map (·.2) = ns.map V.int ∧ Q (.int ns.sum) H1
theorem preSum_ints : ∀ (ns : List Int) (val : Nat → Int), (∀ i n, ns[i]? = some n → val i = n) → ∀ m, m ≤ ns.length → preSum val m = (ns.take m).sum
  | _, _, _, 0, _ => rfl
  | ns, val, hv, m + 1, hm => by
    have hx : ns[m]? = some ns[m] := List.getElem?_eq_getElem hm
    show preSum val m + val m = _
    rw [preSum_ints ns val hv m (Nat.le_of_succ_le hm), hv m _ hx, List.take_add_one, hx, List.sum_append]
    simp
theorem pe_sumValsT {X : Cx} {o : Expr} {p pos apos mpos : Pos} {td : TE} (hc : X.calm = true) (hg : Gl X "sum") (hm : X.mg "sum" = none) (hd : PE X o td) (hbase : attributeBase o "values" X.env (eval o X.env) = eval o X.env := by rfl) (hline : (apos.endLine == mpos.line) = true := by rfl)
    (hse : starEach [Expr.Call (.Attribute o "values" apos) [] [] mpos] X.env = [(false, eval (Expr.Call (.Attribute o "values" apos) [] [] mpos) X.env)] := by rfl) :
    PE X (.Call (.Name "sum" p) [.Call (.Attribute o "values" apos) [] [] mpos] [] pos) (tSumVals td) := by
  refine ⟨fun pins s σ H Q I h => ?_⟩
  refine wpAny_Call_Name_kw (ld_blt I hg hm boot_sum ?_)
  rw [hse]
  refine PySem.callWith_builtin1 (wpAny_Call_method0_late hbase hline (thn (hd.run pins s σ H _ I h) fun v s1 ⟨x, H1, I1, r1, a, kvs, ns, ex, ha, hv, q⟩ => ?_))
  subst ex
  obtain rfl : v = Value.ref a := r1
  obtain ⟨hsys, es, ep, hraw, hsz, ent⟩ := dt_at (I1.hok a _ ha)
  have hraw0 := hraw
  obtain ⟨ob, ho, hex, hdat⟩ := hraw0
  refine ⟨"dict", "dict.values", PySem.F.plainAttrs_dict, PySem.F.slot_dict_values, PySem.F.type_dict_values, ⟨ob, ho, hex.1⟩, fun b e => ?_, Calls.callWith_builtin rfl (PySem.evalArgs_none ?_)⟩
  · cases e
    exact ⟨ob, ho, hex.2.1⟩
  refine call_meetsIn PySem.F.slot_dict_values ⟨ob, ho, hex.1⟩ PySem.F.entry_dict_values (PySem.F.args_dict_values_1 _) (meets_dict_values_raw a hsys) ⟨⟨es, ep, hraw⟩, ?_⟩
  have k1 : ∀ b u, s1.heap.get? b = some u → (s1.heap.push { cls := .type "dict_values", data := .fields #[.ref a] }).get? b = some u := fun b u e => Heap.get?_push_of_some _ e
  have hraw1 : (s1.heap.push { cls := .type "dict_values", data := .fields #[.ref a] }).DictRaw a es ep := hraw.at fun o e => k1 a o e
  have hns : ns.length = kvs.length := by
    have := congrArg List.length hv
    rw [List.length_map, List.length_map] at this
    exact this.symm
  have hval : ∀ (i : Nat) (v : Value), (∃ hi : i < es.size, v = es[i].val) → ∃ t, v = Value.int (ns.getD i 0) t := fun i v ⟨hi, ev⟩ => by
    have hi2 : i < kvs.length := by omega
    obtain ⟨_, q', e1, e2, e3⟩ := ent i kvs[i].1 kvs[i].2 (List.getElem?_eq_getElem hi2)
    have e4 : (kvs.map (·.2))[i]? = some kvs[i].2 := by rw [List.getElem?_map, List.getElem?_eq_getElem hi2]; rfl
    rw [hv, List.getElem?_map] at e4
    obtain ⟨j, hj, e5⟩ := Option.map_eq_some_iff.mp e4
    rw [← e5] at e3
    obtain ⟨t, e6⟩ := e3
    refine ⟨t, ?_⟩
    rw [ev, e6, List.getD_eq_getElem?_getD, hj]; rfl
  have hlt : a < s1.heap.objs.size := Heap.lt_size ho
  have hsz1 : (s1.heap.push { cls := .type "dict_values", data := .fields #[.ref a] }).objs.size = s1.heap.objs.size + 1 := Heap.size_push _ _
  refine call_sum_walkAnyS (wpAny_pyIter_values_raw (v := s1.heap.objs.size) (d := a) ⟨_, Heap.get?_push_size _ rfl, rfl, rfl⟩ hraw1 ?_)
  refine ⟨_, _, _, _, es.size, _, _, fun i => ns.getD i 0, rfl, (Walks.rawValues (A := X.A.in1) (I.ok.hd hc) (s1.heap.push { cls := .type "dict_values", data := .fields #[.ref a] }).objs.size a (by rw [hsz1]; exact Nat.ne_of_lt (Nat.lt_succ_of_lt hlt)) es ep).toS,
    ⟨⟨_, Heap.get?_push_size _ rfl, rfl, rfl⟩, hraw1.at fun o e => Heap.get?_push_of_some _ e⟩, fun b hb => ?_, hval, fun s' t' hmv => ?_⟩
  · show b < ((s1.heap.push _).push _).objs.size
    rw [Heap.size_push, Heap.size_push]
    rw [hsz1] at hb
    rcases List.mem_cons.mp hb with e | hb
    · rw [e]; exact Nat.lt_succ_self _
    · have e : b = a := List.mem_singleton.mp hb
      rw [e]; exact Nat.lt_succ_of_lt (Nat.lt_succ_of_lt hlt)
  · have hk : ∀ b u, s1.heap.get? b = some u → s'.heap.get? b = some u := fun b u e => hmv.heap b u (fun hI => by
      have e1 := List.mem_singleton.mp hI
      have e2 := Heap.lt_size e
      rw [hsz1] at e1
      exact absurd e2 (by rw [e1]; exact Nat.not_lt.mpr (Nat.le_succ _))) (Heap.get?_push_of_some _ (k1 b u e))
    rw [Moved.eq_with hmv]
    have es2 : preSum (fun i => ns.getD i 0) es.size = ns.sum := by
      rw [preSum_ints ns _ (fun i n e => by rw [List.getD_eq_getElem?_getD, e]; rfl) es.size (by omega), hsz, ← hns, List.take_length]
    rw [es2]
    exact ⟨.int ns.sum, H1, I1.kept (t' := s'.toks) hk, ⟨_, rfl⟩, q⟩

/-! ### {k: v}, the key a tuple -/
def tDisp1T (tk tv : TE) : TE := fun σ H Q => ∀ p, H p = none → tk σ (upd H p (.dT [])) fun x H1 => tv σ H1 fun y H2 => H2 p = some (.dT []) ∧ ∃ b k, x = .ref b ∧ H2 b = some (.tup (k.map kV)) ∧ Q (.ref p) (upd H2 p (.dT [(k, y)]))
theorem pe_disp1T {X : Cx} {pos : Pos} {k v : Expr} {tk tv : TE} (hu : X.A.units + 1 < cLine) (hk : PE X k tk) (hv : PE X v tv) : PE X (.Dict [some k] [v] pos) (tDisp1T tk tv) := by
  refine ⟨fun pins s σ H Q I q => ?_⟩
  have hn := I.hok.fresh (Nat.le_refl s.heap.objs.size)
  have I1 := I.laid (a := s.heap.objs.size) (o := .dT []) (h' := s.heap.push { cls := .type "dict", data := .dict #[] }) (t' := s.toks) (fun _ _ q => Heap.get?_push_of_some _ q) (Nat.le_refl _) (dt_empty s.heap I.big)
  rw [PySem.arm_eval_Dict, zip_pairTrees [some k] [v] X.env pos rfl rfl, dictDisplay_pairs (pairTrees [some k] [v] X.env pos) (by simp [pairTrees]) (by simp [pairTrees])]
  refine wpAny_bind (wpAny_standAt (wpAny_bind (wpAny_subDictH (knd := tupleKind (mixKind X.prog X.w)) (show X.A.units < cLine from Nat.lt_of_succ_lt hu) (by simp [pairTrees]) ?_)))
  refine pairTrees_cons_walk (thn (hk.run pins _ σ _ _ I1 (q _ hn)) fun u s1 ⟨x, H1, I1', rx, q1⟩ => thn (hv.run pins s1 σ H1 _ I1' q1) fun w2 s2 ⟨y, H2, I2, ry, ep, b, ks, ex, eb, q2⟩ => pairTrees_nil_walk ?_)
  subst ex
  cases (show u = Value.ref b from rx)
  obtain ⟨z, hd, vs0, r0, dd⟩ := dt_of I2.hok ep
  cases r0
  refine ⟨[(ks, b, w2)], ⟨rfl, rfl, key_of I2.hok eb, trivial⟩, dd, fun h' tk dd' hs => wpAny_pure ⟨.ref s.heap.objs.size, _, ?_, rfl, q2⟩⟩
  obtain ⟨o, es, ep', hq, h2, h3, h4, _, h5⟩ := dd'
  refine d_write I2 (by rw [ep]; exact True.intro) hs ⟨o, hq⟩ ⟨by show 1 ≤ sizeLine; decide, hd, [(ks, b, w2)], .cons ⟨rfl, ?_, ry⟩ .nil, o, es, ep', hq, h2, h3, h4, h5⟩
  rw [upd_ne (ne_of eb ep (fun z => nomatch z))]
  exact eb

/-! ### counted tuples of ints -/
def encKey (s : List Nat) : List Key := s.map fun (n : Nat) => (Sum.inl (n : Int) : Key)
def encL (L : List (List Nat × Nat)) : List (List Key × V) := L.map fun q => (encKey q.1, V.int (q.2 : Int))
def getL (L : List (List Nat × Nat)) (s : List Nat) : Nat := ((L.find? fun q => decide (q.1 = s)).map (·.2)).getD 0
def putL (L : List (List Nat × Nat)) (s : List Nat) (n : Nat) : List (List Nat × Nat) :=
  if (L.any fun q => decide (q.1 = s)) = true then L.map (fun q => if q.1 = s then (q.1, n) else q) else L ++ [(s, n)]
theorem encKey_inj {s t : List Nat} : encKey s = encKey t ↔ s = t := by
  refine ⟨fun h => ?_, fun h => by rw [h]⟩
  unfold encKey at h
  exact (List.map_inj_right (fun a b e => by injection e with e; omega)).mp h
theorem encKey_map (s : List Nat) : (encKey s).map kV = s.map fun (n : Nat) => V.int (n : Int) := by
  unfold encKey
  rw [List.map_map]; rfl
theorem rps_key {H : Hp} (s : List Nat) : Rps H ((encKey s).map kV) (dis s) := by
  rw [encKey_map]
  exact rps_dis s
theorem encL_val (L : List (List Nat × Nat)) (s : List Nat) : valV (encL L) (encKey s) = (L.find? fun q => decide (q.1 = s)).map fun q => V.int (q.2 : Int) := by
  induction L with
  | nil => rfl
  | cons q L ih =>
    show valV ((encKey q.1, V.int (q.2 : Int)) :: encL L) (encKey s) = _
    by_cases e : q.1 = s
    · rw [valV_pos (encKey_inj.mpr e), List.find?_cons_of_pos (by simpa using e)]; rfl
    · rw [valV_neg (fun z => e (encKey_inj.mp z)), ih, List.find?_cons_of_neg (by simpa using e)]
theorem encL_get (L : List (List Nat × Nat)) (s : List Nat) : (valV (encL L) (encKey s)).getD (.int 0) = V.int (getL L s : Int) := by
  rw [encL_val]
  unfold getL
  cases L.find? fun q => decide (q.1 = s) <;> rfl
theorem encL_put (L : List (List Nat × Nat)) (s : List Nat) (n : Nat) : putK (encL L) (encKey s) (.int (n : Int)) = encL (putL L s n) := by
  have ea : ((encL L).any fun kv => decide (kv.1 = encKey s)) = L.any fun q => decide (q.1 = s) := by
    unfold encL
    rw [List.any_map]
    congr 1
    funext q
    simp [encKey_inj]
  unfold putK putL
  rw [ea]
  split
  · unfold encL
    rw [List.map_map, List.map_map]
    congr 1
    funext q
    show (if encKey q.1 = encKey s then (encKey q.1, V.int (n : Int)) else (encKey q.1, V.int (q.2 : Int))) = _
    by_cases e : q.1 = s
    · rw [if_pos (encKey_inj.mpr e)]; simp [e]
    · rw [if_neg (fun z => e (encKey_inj.mp z))]; simp [e]
  · unfold encL
    rw [List.map_append]; rfl
section
variable {K : PySem.W.Frag} {H0 : Hp} {ρ : Ab} {te ta tb tc : TE} {P1 : PV} {po : Po} {t : TS}
theorem sx_dnewT {i : Nat} (k : ∀ p, po.N (ρ.set i (.o p (.dT (encL []))))) : Sx K H0 (tAsg tDNewT (gName i)) ρ po := fun σ H E s n r b c => fun p hp =>
  n _ _ _ (k p) ((s.ex (ex_new hp)).set i ⟨rfl, upd_same, fun z => z⟩ fun q z => by
    cases z
    exact ⟨s.free hp, fun j b _ hb => s.new hp hb⟩) (tex (ex_new hp))
theorem sx_disp1 {i : Nat} {c : Nat} (hi : i < ρ.length) (k : ∀ p, po.N (ρ.set i (.o p (.dT (encL [([], c)]))))) : Sx K H0 (tAsg (tDisp1T (tTup tNil) (tC (.int (c : Int)))) (gName i)) ρ po := fun σ H E s n r b c' => fun p hp => by
  refine ⟨by show 0 ≤ sizeLine; decide, fun q hq => ?_⟩
  have hpq : p ≠ q := fun z => by
    subst z
    rw [upd_same] at hq
    cases hq
  have s1 : StOk K H0 (ρ.set i (.o p (.dT []))) (σ.set i (some (.ref p))) (upd H p (.dT [])) := (s.ex (ex_new hp)).set i ⟨rfl, upd_same, fun z => z⟩ fun q z => by
    cases z
    exact ⟨s.free hp, fun j b _ hb => s.new hp hb⟩
  have s2 := s1.ex (ex_new (o := .tup []) hq)
  obtain ⟨s3, t3⟩ := s2.muto (k := i) (p := p) (o' := .dT (encL [([], c)])) (List.getElem?_set_self hi) fun z => z
  rw [List.set_set] at s3
  refine ⟨by rw [upd_ne hpq, upd_same], q, [], rfl, upd_same, ?_⟩
  exact n _ _ _ (k p) s3 (((tex (ex_new hp)).trans (tex (ex_new hq))).trans t3)
/-- a thing of ours is locked while a statement runs -/
theorem sx_lock {j : Nat} {p : Addr} {u : HO} (hj : ρ[j]? = some (.o p u)) (hm : Mut (some u)) (hu : ∀ o, ¬ fixd (.frz o u)) (hu2 : ¬ fixd u)
    (h : ∀ od, Sx K H0 t (ρ.set j (.o p (.frz od u))) { N := fun ρ' => ρ'[j]? = some (.o p (.frz od u)) ∧ po.N (ρ'.set j (.o p u)), R := fun _ _ => False }) : Sx K H0 (tLock t) ρ po := fun σ H E s n r b c => by
  obtain ⟨h1, h2⟩ := own_obj hj s
  refine ⟨p, u, h2, hm, fun od => ?_⟩
  obtain ⟨s1, t1⟩ := s.muto hj (hu od)
  refine h od σ _ _ s1 (fun ρ' σ' H' m s' t' => ?_) (fun _ _ _ z => z.elim) (fun _ _ _ z => z.elim) (fun _ _ _ z => z.elim)
  obtain ⟨_, e2⟩ := own_obj m.1 s'
  obtain ⟨s3, t3⟩ := s'.muto m.1 hu2
  exact ⟨e2, n _ _ _ m.2 s3 ((t1.trans t').trans t3)⟩
theorem sx_items {j : Nat} {p : Addr} {od : Obj} {L : List (List Nat × Nat)} {g : TG} {vs : List Nat} (hj : ρ[j]? = some (.o p (.frz od (.dT (encL L))))) (I : Nat → Ab → Prop) (h0 : I 0 ρ)
    (hl : ∀ i ρ', I i ρ' → ρ'[j]? = some (.o p (.frz od (.dT (encL L)))))
    (hs : ∀ i q ρ', L[i]? = some q → I i ρ' → TgX K H0 g vs (.tup [.tup (dis q.1), di q.2]) ρ' fun ρ2 => Sx K H0 t ρ2 { N := I (i + 1), R := po.R, B := po.N, C := I (i + 1) }) (hd : ∀ ρ', I L.length ρ' → po.N ρ') :
    Sx K H0 (tFor (iItemsT (tVar j)) g t) ρ po := fun σ H E s n r b c => by
  obtain ⟨h1, h2⟩ := own_obj hj s
  have hel : (encL L).length = L.length := by simp [encL]
  refine ⟨.ref p, h1, p, od, encL L, rfl, h2, fun i m σ' H' => m = L.length - i ∧ i ≤ L.length ∧ TEx H H' ∧ ∃ ρ', I i ρ' ∧ StOk K H0 ρ' σ' H', ⟨L.length, by simp, Nat.zero_le _, TEx.refl _, ρ, h0, s⟩, ?_⟩
  rintro i m σ' H' ⟨rfl, hle, t1, ρ', hI, s'⟩
  obtain ⟨g1, g2⟩ := own_obj (hl i ρ' hI) s'
  by_cases hlt : i < L.length
  · refine .inr ⟨⟨g2, by rw [hel]; exact hlt⟩, fun σ2 H2 => TEx H H2 ∧ ∃ ρ2, I (i + 1) ρ2 ∧ StOk K H0 ρ2 σ2 H2, fun σ2 H2 ⟨a, b⟩ => ⟨L.length - (i + 1), by omega, rfl, hlt, a, b⟩, fun x H2 y => ?_⟩
    obtain ⟨T, k, v, q, e1, e2, rfl, hT, rfl⟩ := y
    have e3 : (encL L)[i]? = some (encKey L[i].1, V.int (L[i].2 : Int)) := by
      unfold encL
      rw [List.getElem?_map, List.getElem?_eq_getElem hlt]; rfl
    rw [e3] at e1
    cases e1
    have t2 : TEx H (upd H' T (.tup [.ref q, .int (L[i].2 : Int)])) := t1.trans (tex (ex_new hT))
    have e4 : upd H' T (.tup [.ref q, .int (L[i].2 : Int)]) q = some (.tup ((encKey L[i].1).map kV)) := ex_new hT _ _ e2
    refine hs i L[i] ρ' (List.getElem?_eq_getElem hlt) hI _ σ' _ (s'.ex (ex_new hT)) (.tup (.inl upd_same) (.cons (.tup (.inl e4) (rps_key _)) (.cons (.int _) .nil))) _ fun ρ2 σ2 m2 s2 _ => ?_
    exact m2 σ2 _ _ s2 (fun ρ3 σ3 H3 m3 s3 t3 => ⟨t2.trans t3, ρ3, m3, s3⟩) r (fun ρ3 σ3 H3 m3 s3 t3 => n ρ3 σ3 H3 m3 s3 (t2.trans t3)) (fun ρ3 σ3 H3 m3 s3 t3 => ⟨t2.trans t3, ρ3, m3, s3⟩)
  · have ei : i = L.length := by omega
    subst ei
    exact .inl ⟨⟨g2, by rw [hel]; exact Nat.le_refl _⟩, n ρ' σ' H' (hd ρ' hI) s' t1⟩
/-- the count at a new key goes up -/
theorem sx_dcount {ik il inu : Nat} {p : Addr} {L : List (List Nat × Nat)} {ks : List Nat} {m : Nat} (hl : ρ[il]? = some (.o p (.dT (encL L)))) (hn : ρ[inu]? = some (.d (di m))) (hk : EvP K H0 te ρ (PN (dis ks))) (h1 : il ≠ ik) (h2 : inu ≠ ik) (h3 : ik < ρ.length) (hlen : L.length ≤ 1000)
    (k : po.N ((ρ.set ik (.d (.tup (dis ks)))).set il (.o p (.dT (encL (putL L ks (getL L ks + m))))))) :
    Sx K H0 (tSeq (tAsg (tCB (qTuple K) (tCons te tNil)) (gName ik)) (sDPut (tVar il) (tVar ik) (tOp qAdd (tDGet2 (tVar il) (tVar ik) (tC (.int 0))) (tVar inu)))) ρ po := fun σ H E s n r b c => by
  refine hk σ H s _ fun v H1 e1 ⟨pl, xs, ev, f1, f2, f3⟩ => ?_
  have ex : xs = (encKey ks).map kV := by
    have f4 : Rps H1 xs ((ks.map dint).map D.int) := by rw [← dis_eq]; exact f3
    rw [f4.ints, encKey_map, List.map_map]; rfl
  subst ev ex
  refine ⟨pl, _, rfl, .inl ⟨.inl (.inl f2), fun bk hb => ?_⟩⟩
  have s2 := ((s.ex e1).ex (ex_new (o := .tup ((encKey ks).map kV)) hb)).setd ik (d := .tup (dis ks)) (v := .ref bk) (.tup (.inl upd_same) (rps_key ks))
  have hl2 : (ρ.set ik (.d (.tup (dis ks))))[il]? = some (.o p (.dT (encL L))) := by rw [List.getElem?_set_ne (Ne.symm h1)]; exact hl
  have hn2 : (ρ.set ik (.d (.tup (dis ks))))[inu]? = some (.d (di m)) := by rw [List.getElem?_set_ne (Ne.symm h2)]; exact hn
  obtain ⟨a1, a2⟩ := own_obj hl2 s2
  obtain ⟨_, c1, _, rfl, c3⟩ := s2.sl inu _ hn2
  have c3 := c3.intI
  subst c3
  have hks : (σ.set ik (some (V.ref bk)))[ik]? = some (some (V.ref bk)) := List.getElem?_set_self (by rw [s.len]; exact h3)
  refine ⟨_, a1, p, rfl, .inr ⟨_, .inl a2⟩, _, hks, _, DGet.t a2 upd_same, ?_⟩
  rw [encL_get]
  refine ⟨_, c1, _, _, rfl, rfl, ⟨_, a1, _, hks, p, _, rfl, DPut.t a2 upd_same (small1000 (by simp [encL]; exact hlen)), ?_⟩⟩
  obtain ⟨s3, t3⟩ := s2.muto (o' := .dT (encL (putL L ks (getL L ks + m)))) hl2 fun z => z
  have ep : putK (encL L) (encKey ks) (V.int ((getL L ks : Int) + (m : Int))) = encL (putL L ks (getL L ks + m)) := by
    rw [← encL_put]; rfl
  rw [ep]
  exact n _ _ _ k s3 (((tex e1).trans (tex (ex_new hb))).trans t3)
theorem sx_moveO {i j : Nat} {p : Addr} {u : HO} (hj : ρ[j]? = some (.o p u)) (hij : i ≠ j) (k : po.N ((ρ.set j .u).set i (.o p u))) : Sx K H0 (tAsg (tVar j) (gName i)) ρ po := fun σ H E s n r b c => by
  obtain ⟨x, h1, rfl, h2, h3⟩ := s.sl j _ hj
  refine ⟨.ref p, h1, n _ _ H k ((s.forget j).set i ⟨rfl, h2, h3⟩ fun q z => ?_) (TEx.refl H)⟩
  cases z
  refine ⟨s.fresh j _ p hj rfl, fun l b hl hb ob => ?_⟩
  by_cases e : l = j
  · subst e
    have hlt : l < ρ.length := by
      have := (List.getElem?_eq_some_iff.mp hb).1
      rwa [List.length_set] at this
    rw [List.getElem?_set_self hlt] at hb
    cases hb
    cases ob
  · rw [List.getElem?_set_ne (Ne.symm e)] at hb
    exact e (s.ap l j b _ p hb hj ob rfl)
theorem ev_sumVals {j : Nat} {p : Addr} {L : List (List Nat × Nat)} (hj : ρ[j]? = some (.o p (.dT (encL L)))) : EvP K H0 (tSumVals (tVar j)) ρ (PD (di (L.map (·.2)).sum)) := fun σ H s Q q => by
  obtain ⟨h1, h2⟩ := own_obj hj s
  refine ⟨_, h1, p, encL L, (L.map (·.2)).map dint, rfl, h2, by simp [encL, dint], ?_⟩
  have e : ((L.map (·.2)).map dint).sum = (((L.map (·.2)).sum : Nat) : Int) := by
    induction L.map (·.2) with
    | nil => rfl
    | cons a l ih => rw [List.map_cons, List.sum_cons, ih, List.sum_cons]; unfold dint; omega
  rw [e]
  exact q _ H (Same.refl _) (.int _)
end
end Wk
/-! ## D6 -/
set_option Elab.async false
set_option linter.all false
set_option autoImplicit false
set_option maxRecDepth 100000
set_option maxHeartbeats 4000000
namespace Wk
open PySem PySem.Spec L2

/-! ### sequences_kept: 0 k, 1 demands, 2 counts, 3 _, 4 longer, 5 chosen, 6 number, 7 index, 8 ahead, 9 key, 10 i, 11 j -/
abbrev s_sequences_kept : Stmt := topS 31
abbrev N_sequences_kept : List Str := ["k", "demands", "counts", "_", "longer", "chosen", "number", "index", "ahead", "key", "i", "j"]
theorem sc_sequences_kept : FnScope N_sequences_kept ["k", "demands"] (defScope s_sequences_kept) := ⟨rfl, rfl, rfl, by decide +kernel, rfl, by decide +kernel, by decide +kernel⟩
def t_sequences_kept (K : PySem.W.Frag) : TS :=
    (tSeq (tAsg (tDisp1T (tTup tNil) (tC (.int 1))) (gName 2))
    (tSeq (tFor (iRng1 (tCons (tVar 0) tNil)) (gName 3) (tSeq (tAsg tDNewT (gName 4))
    (tSeq (tLock (tFor (iItemsT (tVar 2)) (gTup K 2 (gCons (gName 5) (gCons (gName 6) gNil))) (tFor (iRng1 (tCons (tVar 0) tNil)) (gName 7) (tSeq (tAsg (tLc (iList K (tVar 1)) (gTup K 3 (gCons (gName 10) (gCons (gName 11) (gCons (gName 3) gNil)))) (tAnd (tTest (tOp rEq (tVar 11) (tVar 7))) (tTest (tOp (rIn K true) (tVar 10) (tVar 5)))) (tVar 10) [10, 11, 3]) (gName 8))
    (tIfS (tAnd (tTest (tOp (rIn K true) (tVar 7) (tVar 5))) (tTest (tOp (rEqD K) (tVar 8) (tLst tNil)))) (tSeq (tAsg (tCB (qTuple K) (tCons (tCB (rSortTup K) (tCons (tOp (rCatA K) (tVar 5) (tTup (tCons (tVar 7) tNil))) tNil)) tNil)) (gName 9))
    (sDPut (tVar 4) (tVar 9) (tOp qAdd (tDGet2 (tVar 4) (tVar 9) (tC (.int 0))) (tVar 6)))) tNext)))))
    (tAsg (tVar 4) (gName 2)))))
    (tRet (tSumVals (tVar 2)))))
theorem d_sequences_kept {P : Program} {w : World} {K : PySem.W.Frag} {mg : Str → Option Value} {base : Heap} {k : Nat} (T : Tp K mg) {f : Addr} {cdv : Value} {Aa : Around} {outer : List Env} {s : Shared} {H0 : Hp} {E : XK}
    (hr : Room k (Aa.deeper (PyProof.Rows.envOfC "sequences_kept" (defScope s_sequences_kept) s.heap.objs.size f cdv))) :
    PSs (cxOf CX0 P w K mg base N_sequences_kept "sequences_kept" (defScope s_sequences_kept) f cdv Aa outer s H0 E).nox (defBody s_sequences_kept) (t_sequences_kept K) := by
  have S := sc_sequences_kept
  exact (pss_cons (ps_set (i := 2) S.nd rfl (by first | exact Or.inl rfl | exact Or.inr rfl) (pe_disp1T (hu_of hr) (pe_tup pa_nil) pe_int))
    (pss_cons (ps_for PassesOwn.never rfl (pi_range1 (by rfl) T.b_range (pa_cons (pv 0) pa_nil)) (pg_name (i := 3) S.nd rfl (by first | exact Or.inl rfl | exact Or.inr rfl)) (pss_cons (ps_set (i := 4) S.nd rfl (by first | exact Or.inl rfl | exact Or.inr rfl) pe_dnewT)
    (pss_cons (ps_lock (ps_for PassesOwn.never rfl (pi_itemsT (pv 2)) (pg_tup rfl (pgs_cons (pg_name (i := 5) S.nd rfl (by first | exact Or.inl rfl | exact Or.inr rfl)) (pgs_cons (pg_name (i := 6) S.nd rfl (by first | exact Or.inl rfl | exact Or.inr rfl)) pgs_nil))) (pss_one (ps_for PassesOwn.never rfl (pi_range1 (by rfl) T.b_range (pa_cons (pv 0) pa_nil)) (pg_name (i := 7) S.nd rfl (by first | exact Or.inl rfl | exact Or.inr rfl)) (pss_cons (ps_setLc (i := 8) (own := [("i", 10), ("j", 11), ("_", 3)]) (g := (gTup K 3 (gCons (gName 10) (gCons (gName 11) (gCons (gName 3) gNil))))) (tt := (tAnd (tTest (tOp rEq (tVar 11) (tVar 7))) (tTest (tOp (rIn K true) (tVar 10) (tVar 5))))) (te := (tVar 10)) (by rfl) S.nd rfl rfl (sw_true rfl rfl rfl (by decide +kernel)) (pi_list (pv 1)) (blkOk_by (N := N_sequences_kept) (sc := defScope s_sequences_kept) (by decide +kernel)) (fun _ _ _ _ _ => (pg_tup rfl (pgs_cons (pg_name (i := 10) S.nd rfl (by first | exact Or.inl rfl | exact Or.inr rfl)) (pgs_cons (pg_name (i := 11) S.nd rfl (by first | exact Or.inl rfl | exact Or.inr rfl)) (pgs_cons (pg_name (i := 3) S.nd rfl (by first | exact Or.inl rfl | exact Or.inr rfl)) pgs_nil))))) (fun _ _ _ _ _ => (pts_one (PW.pt (pw_and (pt_cmpR op_eq (pv 11) (pv 7) (nomark _)) (pw_and1 (pt_cmpR op_notIn_seq (pv 10) (pv 5) (by rfl))))))) (fun _ _ _ _ _ => (pv 10)))
    (pss_one (ps_if (PW.pt (pw_and (pt_cmpR op_notIn_seq (pv 7) (pv 5) (by rfl)) (pw_and1 (pt_cmpR (op_eqD (hu64 hr)) (pv 8) (pe_lst pa_nil) (nomark _))))) (pss_cons (ps_set (i := 9) S.nd rfl (by first | exact Or.inl rfl | exact Or.inr rfl) (pe_callTy call_tuple_of (by rfl) T.b_tuple (by decide +kernel) (pa_cons (pe_callB cr_sortTup (by rfl) T.b_sorted (by decide +kernel) (pa_cons (pe_op op_catA (pv 5) (pe_tup (pa_cons (pv 7) pa_nil))) pa_nil)) pa_nil)))
    (pss_one (ps_dput (hu_of hr) (pv 4) (pv 9) (pe_op op_add (pe_dget2 (hu_of hr) (pv 4) (pv 9) pe_int ⟨rfl, rfl, rfl, rfl⟩) (pv 6)) rfl))) pss_nil)))))))
    (pss_one (ps_set (i := 2) S.nd rfl (by first | exact Or.inl rfl | exact Or.inr rfl) (pv 4))))))
    (pss_one (ps_ret (pe_sumValsT (by rfl) (by rfl) T.b_sum (pv 2))))))
end Wk
/-! ## M5 -/
set_option linter.all false
set_option autoImplicit false
/-! All sequences; the count of the sequences that keep demands, one part after the other. -/
namespace Wk
/-! ### all sequences -/
theorem ins_mid (x : Nat) : ∀ (a b : List Nat), a ++ x :: b ∈ ins x (a ++ b)
  | [], [] => by simp [ins]
  | [], y :: ys => by simp [ins]
  | y :: a, b => by
    rw [List.cons_append, List.cons_append, ins]
    exact List.mem_cons_of_mem _ (List.mem_map.mpr ⟨_, ins_mid x a b, rfl⟩)
theorem mem_perms : ∀ {l o : List Nat}, o.Perm l → o ∈ perms l
  | [], o, h => by rw [h.eq_nil]; simp [perms]
  | x :: xs, o, h => by
    obtain ⟨a, b, rfl⟩ := List.append_of_mem (h.symm.subset List.mem_cons_self)
    rw [perms, List.mem_flatMap]
    refine ⟨a ++ b, mem_perms ?_, ins_mid x a b⟩
    exact List.Perm.cons_inv (List.perm_middle.symm.trans h)
theorem perms_iff {l o : List Nat} : o ∈ perms l ↔ o.Perm l := ⟨perms_perm, mem_perms⟩
theorem ins_filter {x : Nat} {p : Nat → Bool} (hp : p x = false) : ∀ {l o : List Nat}, o ∈ ins x l → o.filter p = l.filter p
  | [], o, h => by
    simp [ins] at h
    rw [h]
    simp [hp]
  | y :: ys, o, h => by
    rw [ins, List.mem_cons] at h
    rcases h with rfl | h
    · rw [List.filter_cons_of_neg (by simp [hp])]
    · obtain ⟨q, hq, rfl⟩ := List.mem_map.mp h
      rw [List.filter_cons, List.filter_cons, ins_filter hp hq]
theorem nodup_map_inj {α β : Type} {f : α → β} (hf : ∀ a b, f a = f b → a = b) {l : List α} (h : l.Nodup) : (l.map f).Nodup := by
  unfold List.Nodup
  rw [List.pairwise_map]
  exact List.Pairwise.imp (fun {a b} hab e => hab (hf a b e)) h
theorem ins_nodup {x : Nat} : ∀ {l : List Nat}, x ∉ l → (ins x l).Nodup
  | [], _ => by simp [ins]
  | y :: ys, h => by
    rw [ins, List.nodup_cons]
    refine ⟨fun z => ?_, nodup_map_inj (fun a b e => by injection e) (ins_nodup fun z => h (List.mem_cons_of_mem _ z))⟩
    obtain ⟨q, _, e⟩ := List.mem_map.mp z
    injection e with e1 e2
    exact h (by rw [e1]; exact List.mem_cons_self)
theorem nodup_flatMap {α β : Type} {f : α → List β} {l : List α} (h1 : ∀ a ∈ l, (f a).Nodup) (h2 : l.Nodup) (h3 : ∀ a ∈ l, ∀ b ∈ l, ∀ x, x ∈ f a → x ∈ f b → a = b) : (l.flatMap f).Nodup := by
  induction l with
  | nil => simp
  | cons a l ih =>
    rw [List.nodup_cons] at h2
    rw [List.flatMap_cons, List.nodup_append]
    refine ⟨h1 a List.mem_cons_self, ih (fun b hb => h1 b (List.mem_cons_of_mem _ hb)) h2.2 (fun b hb c hc => h3 b (List.mem_cons_of_mem _ hb) c (List.mem_cons_of_mem _ hc)), fun x hx y hy e => ?_⟩
    subst e
    obtain ⟨b, hb, hxb⟩ := List.mem_flatMap.mp hy
    have := h3 a List.mem_cons_self b (List.mem_cons_of_mem _ hb) x hx hxb
    subst this
    exact h2.1 hb
theorem perms_nodup : ∀ {l : List Nat}, l.Nodup → (perms l).Nodup
  | [], _ => by simp [perms]
  | x :: xs, h => by
    rw [List.nodup_cons] at h
    rw [perms]
    refine nodup_flatMap (fun o ho => ins_nodup fun z => h.1 ((perms_perm ho).subset z)) (perms_nodup h.2) fun a ha b hb o hoa hob => ?_
    have e : ∀ c, c ∈ perms xs → o ∈ ins x c → c = o.filter fun y => decide (y ≠ x) := fun c hc hoc => by
      rw [ins_filter (by simp) hoc, List.filter_eq_self.mpr]
      intro y hy
      have : y ∈ xs := (perms_perm hc).subset hy
      have : y ≠ x := fun z => h.1 (z ▸ this)
      simpa using this
    rw [e a ha hoa, e b hb hob]
theorem same_len {α : Type} [DecidableEq α] {l m : List α} (hl : l.Nodup) (hm : m.Nodup) (h : ∀ x, x ∈ l ↔ x ∈ m) : l.length = m.length := by
  have le : ∀ {l m : List α}, l.Nodup → (∀ x ∈ l, x ∈ m) → l.length ≤ m.length := by
    intro l m hn hs
    induction l generalizing m with
    | nil => simp
    | cons a l ih =>
      have ha : a ∈ m := hs a List.mem_cons_self
      rw [List.nodup_cons] at hn
      have h2 : l.length ≤ (m.erase a).length := ih hn.2 fun x hx => by
        have hne : x ≠ a := fun z => hn.1 (z ▸ hx)
        exact (List.mem_erase_of_ne hne).mpr (hs x (List.mem_cons_of_mem _ hx))
      rw [List.length_erase_of_mem ha] at h2
      have := List.length_pos_of_mem ha
      rw [List.length_cons]
      omega
  exact Nat.le_antisymm (le hl fun x hx => (h x).mp hx) (le hm fun x hx => (h x).mpr hx)

/-! ### sequences that keep demands, grown from the front -/
def okN (dem : List Tri) (s : List Nat) (x : Nat) : Bool := decide (x ∉ s) && dem.all fun d => !decide (d.2.1 = x) || decide (d.1 ∈ s)
def ext (k : Nat) (dem : List Tri) : Nat → List Nat → List (List Nat)
  | 0, _ => [[]]
  | r + 1, s => ((List.range k).filter (okN dem s)).flatMap fun x => (ext k dem r (s ++ [x])).map (x :: ·)
def cntF (k : Nat) (dem : List Tri) : Nat → List Nat → Nat
  | 0, _ => 1
  | r + 1, s => (((List.range k).filter (okN dem s)).map fun x => cntF k dem r (s ++ [x])).sum
theorem ext_len (k : Nat) (dem : List Tri) : ∀ (r : Nat) (s : List Nat), (ext k dem r s).length = cntF k dem r s
  | 0, _ => rfl
  | r + 1, s => by
    rw [ext, cntF, List.length_flatMap]
    congr 1
    refine List.map_congr_left fun x _ => ?_
    rw [List.length_map, ext_len k dem r]
theorem okN_perm {dem : List Tri} {s t : List Nat} (h : s.Perm t) : okN dem s = okN dem t := by
  funext x
  unfold okN
  have e : ∀ y, (y ∈ s) = (y ∈ t) := fun y => propext h.mem_iff
  simp only [e]
theorem cntF_perm (k : Nat) (dem : List Tri) : ∀ (r : Nat) {s t : List Nat}, s.Perm t → cntF k dem r s = cntF k dem r t
  | 0, _, _, _ => rfl
  | r + 1, s, t, h => by
    rw [cntF, cntF, okN_perm h]
    congr 1
    refine List.map_congr_left fun x _ => ?_
    exact cntF_perm k dem r (h.append_right [x])
theorem ext_nodup (k : Nat) (dem : List Tri) : ∀ (r : Nat) (s : List Nat), (ext k dem r s).Nodup
  | 0, _ => by simp [ext]
  | r + 1, s => by
    rw [ext]
    refine nodup_flatMap (fun x _ => nodup_map_inj (fun a b e => by injection e) (ext_nodup k dem r _)) (List.nodup_range.filter _) fun a _ b _ o ha hb => ?_
    obtain ⟨_, _, e1⟩ := List.mem_map.mp ha
    obtain ⟨_, _, e2⟩ := List.mem_map.mp hb
    rw [← e1] at e2
    injection e2 with e3 _
    exact e3.symm
/-- e is a good way on from s -/
structure Good (k : Nat) (dem : List Tri) (s e : List Nat) : Prop where
  nd : e.Nodup
  dj : ∀ x ∈ e, x ∉ s
  lt : ∀ x ∈ e, x < k
  kp : ∀ d ∈ dem, d.2.1 ∈ e → d.1 ∈ s ∨ Bef d.1 d.2.1 e
theorem okN_iff {dem : List Tri} {s : List Nat} {x : Nat} : okN dem s x = true ↔ x ∉ s ∧ ∀ d ∈ dem, d.2.1 = x → d.1 ∈ s := by
  unfold okN
  rw [Bool.and_eq_true, decide_eq_true_eq, List.all_eq_true]
  refine and_congr Iff.rfl (forall_congr' fun d => forall_congr' fun _ => ?_)
  by_cases h : d.2.1 = x <;> simp [h]
theorem good_cons {k : Nat} {dem : List Tri} {s e : List Nat} {x : Nat} : Good k dem s (x :: e) ↔ x < k ∧ okN dem s x = true ∧ Good k dem (s ++ [x]) e := by
  rw [okN_iff]
  refine ⟨fun g => ?_, fun ⟨h1, ⟨h2, h3⟩, g⟩ => ?_⟩
  · have nd := List.nodup_cons.mp g.nd
    refine ⟨g.lt x List.mem_cons_self, ⟨g.dj x List.mem_cons_self, fun d hd e1 => ?_⟩, nd.2, fun y hy z => ?_, fun y hy => g.lt y (List.mem_cons_of_mem _ hy), fun d hd hm => ?_⟩
    · rcases g.kp d hd (by rw [e1]; exact List.mem_cons_self) with h | h
      · exact h
      · rw [e1] at h
        rcases h with ⟨_, h⟩ | h
        · exact absurd h nd.1
        · exact absurd (bef_left h).2 nd.1
    · rcases List.mem_append.mp z with z | z
      · exact g.dj y (List.mem_cons_of_mem _ hy) z
      · exact nd.1 (by rw [List.mem_singleton] at z; rw [← z]; exact hy)
    · rcases g.kp d hd (List.mem_cons_of_mem _ hm) with h | ⟨h, _⟩ | h
      · exact .inl (List.mem_append_left _ h)
      · exact .inl (List.mem_append_right _ (by rw [h]; exact List.mem_singleton_self _))
      · exact .inr h
  · refine ⟨List.nodup_cons.mpr ⟨fun z => g.dj x z (List.mem_append_right _ (List.mem_singleton_self _)), g.nd⟩, fun y hy z => ?_, fun y hy => ?_, fun d hd hm => ?_⟩
    · rcases List.mem_cons.mp hy with rfl | hy
      · exact h2 z
      · exact g.dj y hy (List.mem_append_left _ z)
    · rcases List.mem_cons.mp hy with rfl | hy
      · exact h1
      · exact g.lt y hy
    · rcases List.mem_cons.mp hm with e1 | hm
      · exact .inl (h3 d hd e1)
      · rcases g.kp d hd hm with h | h
        · rcases List.mem_append.mp h with h | h
          · exact .inl h
          · exact .inr (.inl ⟨(List.mem_singleton.mp h).symm, hm⟩)
        · exact .inr (.inr h)
theorem mem_ext {k : Nat} {dem : List Tri} : ∀ {r : Nat} {s e : List Nat}, e ∈ ext k dem r s ↔ e.length = r ∧ Good k dem s e
  | 0, s, e => by
    rw [ext, List.mem_singleton]
    refine ⟨fun h => ?_, fun h => List.eq_nil_of_length_eq_zero h.1⟩
    subst h
    exact ⟨rfl, List.nodup_nil, nofun, nofun, nofun⟩
  | r + 1, s, e => by
    rw [ext, List.mem_flatMap]
    refine ⟨?_, ?_⟩
    · rintro ⟨x, hx, he⟩
      rw [List.mem_filter, List.mem_range] at hx
      obtain ⟨q, hq, rfl⟩ := List.mem_map.mp he
      obtain ⟨h1, h2⟩ := mem_ext.mp hq
      exact ⟨by rw [List.length_cons, h1], good_cons.mpr ⟨hx.1, hx.2, h2⟩⟩
    · rintro ⟨h1, h2⟩
      cases e with
      | nil => simp at h1
      | cons x q =>
        obtain ⟨g1, g2, g3⟩ := good_cons.mp h2
        refine ⟨x, by rw [List.mem_filter, List.mem_range]; exact ⟨g1, g2⟩, List.mem_map.mpr ⟨q, mem_ext.mpr ⟨by simpa using h1, g3⟩, rfl⟩⟩
theorem nodup_full {k : Nat} {e : List Nat} (nd : e.Nodup) (lt : ∀ x ∈ e, x < k) (hl : e.length = k) : e.Perm (List.range k) := by
  refine (List.perm_ext_iff_of_nodup nd List.nodup_range).mpr fun x => ⟨fun h => List.mem_range.mpr (lt x h), fun h => ?_⟩
  apply Classical.byContradiction
  intro hx
  have := sub_len (l := x :: e) (L := List.range k) (List.nodup_cons.mpr ⟨hx, nd⟩) fun y hy => by
    rcases List.mem_cons.mp hy with rfl | hy
    · exact h
    · exact List.mem_range.mpr (lt y hy)
  simp at this
  omega
theorem cntF_lin {k : Nat} {dem : List Tri} (hd : ∀ d ∈ dem, d.1 < k ∧ d.2.1 < k) : cntF k dem k [] = lin false k dem := by
  rw [← ext_len]
  show _ = (perms (List.range k)).countP fun s => keepD s dem
  rw [List.countP_eq_length_filter]
  refine same_len (ext_nodup k dem k []) ((perms_nodup List.nodup_range).filter _) fun e => ?_
  rw [mem_ext, List.mem_filter, perms_iff]
  simp only [keepD_iff]
  refine ⟨fun ⟨h1, g⟩ => ?_, fun ⟨h1, h2⟩ => ?_⟩
  · have hp := nodup_full g.nd g.lt h1
    refine ⟨hp, fun d hdm => ?_⟩
    rcases g.kp d hdm (hp.symm.subset (List.mem_range.mpr (hd d hdm).2)) with h | h
    · cases h
    · exact h
  · refine ⟨by rw [h1.length_eq, List.length_range], h1.symm.nodup List.nodup_range, fun x _ => by simp, fun x hx => List.mem_range.mp (h1.subset hx), fun d hdm _ => .inr (h2 d hdm)⟩
end Wk
/-! ## F9 -/
set_option Elab.async false
set_option linter.all false
set_option autoImplicit false
set_option maxRecDepth 100000
set_option maxHeartbeats 4000000
namespace Wk
open PySem PySem.Spec L2
/-! ### weighed counts -/
def wsum (g : List Nat → Nat) (L : List (List Nat × Nat)) : Nat := (L.map fun q => q.2 * g q.1).sum
theorem any_keys {L : List (List Nat × Nat)} {s : List Nat} : (L.any fun q => decide (q.1 = s)) = true ↔ s ∈ L.map (·.1) := by
  rw [List.any_eq_true, List.mem_map]
  simp
theorem getL_cons_eq {q : List Nat × Nat} {L : List (List Nat × Nat)} {s : List Nat} (h : q.1 = s) : getL (q :: L) s = q.2 := by
  unfold getL
  rw [List.find?_cons_of_pos (by simpa using h)]; rfl
theorem getL_cons_ne {q : List Nat × Nat} {L : List (List Nat × Nat)} {s : List Nat} (h : ¬ q.1 = s) : getL (q :: L) s = getL L s := by
  unfold getL
  rw [List.find?_cons_of_neg (by simpa using h)]
theorem map_put_id {L : List (List Nat × Nat)} {s : List Nat} {v : Nat} (h : s ∉ L.map (·.1)) : L.map (fun q => if q.1 = s then (q.1, v) else q) = L := by
  induction L with
  | nil => rfl
  | cons q L ih =>
    rw [List.map_cons, List.mem_cons, not_or] at h
    rw [List.map_cons, if_neg (fun z => h.1 z.symm), ih h.2]
theorem wsum_map {g : List Nat → Nat} {s : List Nat} {v : Nat} : ∀ {L : List (List Nat × Nat)}, (L.map (·.1)).Nodup → s ∈ L.map (·.1) → wsum g (L.map fun q => if q.1 = s then (q.1, v) else q) + getL L s * g s = wsum g L + v * g s
  | [], _, h => by cases h
  | q :: L, nd, h => by
    rw [List.map_cons, List.nodup_cons] at nd
    by_cases e : q.1 = s
    · have hs : s ∉ L.map (·.1) := by rw [← e]; exact nd.1
      rw [List.map_cons, if_pos e, map_put_id hs, getL_cons_eq e]
      show (v * g q.1 + wsum g L) + q.2 * g s = (q.2 * g q.1 + wsum g L) + v * g s
      rw [e]
      omega
    · have hs : s ∈ L.map (·.1) := by
        rw [List.map_cons, List.mem_cons] at h
        rcases h with h | h
        · exact absurd h.symm e
        · exact h
      have ih := wsum_map (g := g) (v := v) nd.2 hs
      rw [List.map_cons, if_neg e, getL_cons_ne e]
      show (q.2 * g q.1 + wsum g (L.map _)) + _ = (q.2 * g q.1 + wsum g L) + v * g s
      omega
theorem getL_none {L : List (List Nat × Nat)} {s : List Nat} (h : s ∉ L.map (·.1)) : getL L s = 0 := by
  induction L with
  | nil => rfl
  | cons q L ih =>
    rw [List.map_cons, List.mem_cons, not_or] at h
    rw [getL_cons_ne (fun z => h.1 z.symm), ih h.2]
theorem wsum_put {g : List Nat → Nat} {s : List Nat} {n : Nat} {L : List (List Nat × Nat)} (nd : (L.map (·.1)).Nodup) : wsum g (putL L s (getL L s + n)) = wsum g L + n * g s := by
  unfold putL
  by_cases h : (L.any fun q => decide (q.1 = s)) = true
  · rw [if_pos h]
    have := wsum_map (g := g) (v := getL L s + n) nd (any_keys.mp h)
    rw [Nat.add_mul] at this
    omega
  · rw [if_neg h, getL_none (fun z => h (any_keys.mpr z))]
    unfold wsum
    rw [List.map_append, List.sum_append]
    simp
def subs : List Nat → List (List Nat)
  | [] => [[]]
  | x :: xs => subs xs ++ (subs xs).map (x :: ·)
theorem subs_len : ∀ l : List Nat, (subs l).length = 2 ^ l.length
  | [] => rfl
  | x :: xs => by rw [subs, List.length_append, List.length_map, subs_len xs, List.length_cons, Nat.pow_succ]; omega
theorem filter_subs (p : Nat → Bool) : ∀ l : List Nat, l.filter p ∈ subs l
  | [] => by simp [subs]
  | x :: xs => by
    rw [subs, List.mem_append]
    by_cases h : p x = true
    · rw [List.filter_cons_of_pos h]
      exact .inr (List.mem_map.mpr ⟨_, filter_subs p xs, rfl⟩)
    · rw [List.filter_cons_of_neg h]
      exact .inl (filter_subs p xs)
def kset (k : Nat) (s : List Nat) : List Nat := (List.range k).filter fun y => decide (y ∈ s)
theorem kset_perm {k : Nat} {s : List Nat} (nd : s.Nodup) (lt : ∀ x ∈ s, x < k) : (kset k s).Perm s := by
  refine (List.perm_ext_iff_of_nodup (List.nodup_range.filter _) nd).mpr fun x => ?_
  rw [List.mem_filter, List.mem_range]
  exact ⟨fun h => by simpa using h.2, fun h => ⟨lt x h, by simpa using h⟩⟩
structure KeyOk (k : Nat) (s : List Nat) : Prop where
  nd : s.Nodup
  lt : ∀ x ∈ s, x < k
  sb : s ∈ subs (List.range k)
theorem kset_ok (k : Nat) (s : List Nat) : KeyOk k (kset k s) where
  nd := List.nodup_range.filter _
  lt := fun x hx => by
    unfold kset at hx
    rw [List.mem_filter, List.mem_range] at hx
    exact hx.1
  sb := filter_subs _ _
structure CntOk (k : Nat) (L : List (List Nat × Nat)) : Prop where
  nd : (L.map (·.1)).Nodup
  ok : ∀ s ∈ L.map (·.1), KeyOk k s
theorem put_keys {L : List (List Nat × Nat)} {s : List Nat} {v : Nat} : (putL L s v).map (·.1) = if s ∈ L.map (·.1) then L.map (·.1) else L.map (·.1) ++ [s] := by
  unfold putL
  by_cases h : (L.any fun q => decide (q.1 = s)) = true
  · rw [if_pos h, if_pos (any_keys.mp h), List.map_map]
    refine List.map_congr_left fun q _ => ?_
    show (if q.1 = s then (q.1, v) else q).1 = q.1
    split <;> rfl
  · rw [if_neg h, if_neg (fun z => h (any_keys.mpr z)), List.map_append]; rfl
theorem CntOk.put {k : Nat} {L : List (List Nat × Nat)} {s : List Nat} {v : Nat} (h : CntOk k L) (hs : KeyOk k s) : CntOk k (putL L s v) := by
  refine ⟨?_, ?_⟩ <;> rw [put_keys] <;> split
  · exact h.nd
  · rename_i hn
    rw [List.nodup_append]
    exact ⟨h.nd, by simp, fun a ha b hb e => hn (by rw [List.mem_singleton] at hb; rw [← hb, ← e]; exact ha)⟩
  · exact h.ok
  · intro t ht
    rcases List.mem_append.mp ht with ht | ht
    · exact h.ok t ht
    · rw [List.mem_singleton] at ht
      rw [ht]; exact hs
theorem CntOk.len {k : Nat} {L : List (List Nat × Nat)} (h : CntOk k L) (hk : k ≤ 8) : L.length ≤ 256 := by
  have le : ∀ {l m : List (List Nat)}, l.Nodup → (∀ x ∈ l, x ∈ m) → l.length ≤ m.length := by
    intro l m hn hs
    induction l generalizing m with
    | nil => simp
    | cons a l ih =>
      have ha : a ∈ m := hs a List.mem_cons_self
      rw [List.nodup_cons] at hn
      have h2 : l.length ≤ (m.erase a).length := ih hn.2 fun x hx => by
        have hne : x ≠ a := fun z => hn.1 (z ▸ hx)
        exact (List.mem_erase_of_ne hne).mpr (hs x (List.mem_cons_of_mem _ hx))
      rw [List.length_erase_of_mem ha] at h2
      have := List.length_pos_of_mem ha
      rw [List.length_cons]
      omega
  have h1 := le h.nd fun x hx => (h.ok x hx).sb
  rw [subs_len, List.length_range, List.length_map] at h1
  exact Nat.le_trans h1 (Nat.pow_le_pow_right (by decide) hk)

section
variable {P : Program} {w : World} {K : PySem.W.Frag} {mg : Str → Option Value} {base : Heap} {f : Addr} {fd : FuncData} {k : Nat}
/-- a part's way on, up to part j -/
def upTo (dem : List Tri) (g : List Nat → Nat) (s : List Nat) (j : Nat) : Nat := (((List.range j).filter (okN dem s)).map fun x => g (s ++ [x])).sum
theorem upTo_succ (dem : List Tri) (g : List Nat → Nat) (s : List Nat) (j : Nat) : upTo dem g s (j + 1) = upTo dem g s j + if okN dem s j = true then g (s ++ [j]) else 0 := by
  unfold upTo
  rw [List.range_succ, List.filter_append, List.map_append, List.sum_append]
  by_cases h : okN dem s j = true
  · rw [if_pos h, List.filter_cons_of_pos h]; simp
  · rw [if_neg h, List.filter_cons_of_neg h]; simp
theorem wsum_take {g : List Nat → Nat} {L : List (List Nat × Nat)} {i : Nat} {q : List Nat × Nat} (h : L[i]? = some q) : wsum g (L.take (i + 1)) = wsum g (L.take i) + q.2 * g q.1 := by
  unfold wsum
  rw [List.take_add_one, h, List.map_append, List.sum_append]
  simp
theorem shaped_int : ∀ ns : List Nat, SeqAt.shaped (.list (toPs (ns.map di))) = true := by
  intro ns
  have := shaped_lints (ns.map dint)
  rwa [← dis_eq] at this
theorem ok_sequences_kept (T : Tp K mg) (F : Fun K "sequences_kept" "sequences_kept" s_sequences_kept f fd) : FnOk P w K mg base CX0 (k + 1) f fd ["k", "demands"] (spec K pre_sequences_kept) := by
  refine okOf F sc_sequences_kept (by decide) (by rintro _ _ ⟨_, _, rfl, _⟩; rfl) fun cdv Aa outer s H0 E hr => ⟨_, d_sequences_kept T hr, ?_⟩
  rintro _ _ pf ⟨n, dem, rfl, ok, h8, rfl⟩
  show Sx K H0 (t_sequences_kept K) [.d (di n), .b (pf 1) (dem.map enc3), .u, .u, .u, .u, .u, .u, .u, .u, .u, .u] _
  have hdl := ok.dl
  refine sx_seq (sx_disp1 (c := 1) (by show 2 < 12; decide) fun p0 => ?_)
  refine sx_seq (sx_for (vs := [3]) (ej_range (n := n) (ea_d (ev_var rfl) ea_nil) (by omega)) (fun r ρ => ∃ (p : Addr) (L : List (List Nat × Nat)) (x3 x5 x6 x7 x8 x9 : A),
    ρ = [.d (di n), .b (pf 1) (dem.map enc3), .o p (.dT (encL L)), x3, .u, x5, x6, x7, x8, x9, .u, .u] ∧ CntOk n L ∧ wsum (cntF n dem (n - r)) L = cntF n dem n []) ⟨p0, _, _, _, _, _, _, _, rfl, ⟨by simp, fun s hs => ?_⟩, ?_⟩ ?_ ?_)
  · simp at hs
    subst hs
    have := kset_ok n []
    have e : kset n [] = [] := by simp [kset]
    rwa [e] at this
  · simp [wsum]
  · rintro r d ρ hd ⟨p, L, x3, x5, x6, x7, x8, x9, rfl, hL, hW⟩
    have hr : r < n := by
      have := (List.getElem?_eq_some_iff.mp hd).1
      rwa [rngD_len] at this
    have hLl := hL.len h8
    refine tg_name ?_ (by decide)
    refine sx_seq (sx_dnewT fun pn => ?_)
    refine sx_seq (sx_lock (j := 2) rfl trivial (fun _ z => z) (fun z => z) fun od => ?_)
    refine sx_items (j := 2) (vs := [5, 6]) rfl (fun i ρ => ∃ (M : List (List Nat × Nat)) (x5 x6 x7 x8 x9 : A),
      ρ = [.d (di n), .b (pf 1) (dem.map enc3), .o p (.frz od (.dT (encL L))), .d d, .o pn (.dT (encL M)), x5, x6, x7, x8, x9, .u, .u] ∧ CntOk n M ∧ wsum (cntF n dem (n - (r + 1))) M = wsum (cntF n dem (n - r)) (L.take i)) ⟨[], _, _, _, _, _, rfl, ⟨by simp, by simp⟩, by simp [wsum]⟩ ?_ ?_ ?_
    · rintro i ρ' ⟨M, x5, x6, x7, x8, x9, rfl, _⟩
      rfl
    · rintro i ⟨cs, num⟩ ρ' hq ⟨M, x5, x6, x7, x8, x9, rfl, hM, hWM⟩
      have hcs : KeyOk n cs := hL.ok cs (List.mem_map.mpr ⟨_, List.mem_of_getElem? hq, rfl⟩)
      refine tg_tup (tgs_cons (tg_name (tgs_cons (tg_name (tgs_nil ?_) (by decide))) (by decide))) rfl
      refine sx_for (vs := [7]) (ej_range (n := n) (ea_d (ev_var rfl) ea_nil) (by omega)) (fun j ρ => ∃ (M : List (List Nat × Nat)) (x7 x8 x9 : A),
        ρ = [.d (di n), .b (pf 1) (dem.map enc3), .o p (.frz od (.dT (encL L))), .d d, .o pn (.dT (encL M)), .d (.tup (dis cs)), .d (di num), x7, x8, x9, .u, .u] ∧ CntOk n M ∧
        wsum (cntF n dem (n - (r + 1))) M = wsum (cntF n dem (n - r)) (L.take i) + num * upTo dem (cntF n dem (n - (r + 1))) cs j) ⟨M, _, _, _, rfl, hM, by rw [hWM]; simp [upTo]⟩ ?_ ?_
      · rintro j dj ρ hdj ⟨M, x7, x8, x9, rfl, hM, hWM⟩
        have hj : j < n := by
          have := (List.getElem?_eq_some_iff.mp hdj).1
          rwa [rngD_len] at this
        rw [rngD_get hj] at hdj
        cases hdj
        refine tg_name ?_ (by decide)
        refine sx_seq (sx_setN (ds := (dem.filter fun q => decide (q.2.1 = j) && !decide (q.1 ∈ cs)).map fun q => di q.1) ((ev_lc (xs := dem) enc3 (fun q => decide (q.2.1 = j) && !decide (q.1 ∈ cs)) (fun q => di q.1) (ei_list (ev_varB rfl)) (by omega) fun q hq => ?_)) fun pa => ?_)
        · refine tg_tup (tgs_cons (tg_name (tgs_cons (tg_name (tgs_cons (tg_name (tgs_nil ?_) (by decide))) (by decide))) (by decide))) rfl
          refine ⟨et_and ((et_test (ev_eqI (i := (q.2.1 : Int)) (j := (j : Int)) (ev_var rfl) (ev_var rfl))).eqT dec_int) fun _ => (et_test (ev_inT (x := (q.1 : Int)) (ns := cs.map dint) (ev_var rfl) ((ev_var rfl).eqD (by rw [← dis_eq])))).eqT ?_, fun _ => ev_var rfl⟩
          rw [if_pos rfl, dec_dint]
        · have hML := hM.len h8
          refine sx_if (b := okN dem cs j) ((et_and (et_test (ev_inT (x := (j : Int)) (ns := cs.map dint) (ev_var rfl) ((ev_var rfl).eqD (by rw [← dis_eq])))) fun _ => et_test (ev_eqLN (ds := (dem.filter fun q => decide (q.2.1 = j) && !decide (q.1 ∈ cs)).map fun q => di q.1) (ev_varL rfl) ev_lst0.S (by
              have := shaped_int ((dem.filter fun q => decide (q.2.1 = j) && !decide (q.1 ∈ cs)).map (·.1))
              rwa [List.map_map] at this))).eqT ?_) (fun hb => ?_) fun hb => sx_next ?_
          · rw [if_pos rfl, dec_dint]
            unfold okN
            have : ((dem.filter fun q => decide (q.2.1 = j) && !decide (q.1 ∈ cs)).map fun q => di q.1).isEmpty = dem.all fun d => !decide (d.2.1 = j) || decide (d.1 ∈ cs) := by
              rw [List.isEmpty_map]
              rw [Bool.eq_iff_iff, List.isEmpty_iff, List.filter_eq_nil_iff, List.all_eq_true]
              refine forall_congr' fun q => forall_congr' fun _ => ?_
              by_cases h1 : q.2.1 = j <;> by_cases h2 : q.1 ∈ cs <;> simp [h1, h2]
            rw [this]
            simp
          · have hok := okN_iff.mp hb
            have nd2 : (cs ++ [j]).Nodup := by
              rw [List.nodup_append]
              exact ⟨hcs.nd, by simp, fun a ha b hb e => hok.1 (by rw [List.mem_singleton] at hb; rw [← hb, ← e]; exact ha)⟩
            have lt2 : ∀ x ∈ cs ++ [j], x < n := fun x hx => by
              rcases List.mem_append.mp hx with hx | hx
              · exact hcs.lt x hx
              · rw [List.mem_singleton] at hx
                omega
            have hcl : cs.length ≤ n := by
              have := sub_len hcs.nd (L := List.range n) fun x hx => List.mem_range.mpr (hcs.lt x hx)
              rwa [List.length_range] at this
            have hp := kset_perm nd2 lt2
            refine sx_dcount (ks := kset n (cs ++ [j])) (p := pn) (L := M) (m := num) rfl rfl ((ev_sortTup (ns := (cs ++ [j]).map dint) (ms := (kset n (cs ++ [j])).map dint) ((ev_catT (xs := dis cs) (ys := [di j]) (ev_var rfl) (ev_tup (ds := [di j]) (ea_d (ev_var rfl) ea_nil) (by show 1 ≤ 1000; decide)) ?_).eqD ?_) (hp.map _) ?_).eqN (by rw [dis_eq])) (by decide) (by decide) (by show 9 < 12; decide) (by omega) ?_
            · rw [dis_len]
              show _ + 1 ≤ _
              omega
            · rw [← dis_eq, dis_append]; rfl
            · rw [List.pairwise_map]
              unfold kset
              refine List.Pairwise.filter _ ?_
              exact (List.pairwise_lt_range (n := n)).imp fun {a b} h => by
                unfold dint
                omega
            · refine ⟨_, _, _, _, rfl, hM.put (kset_ok n _), ?_⟩
              rw [wsum_put hM.nd, hWM, upTo_succ, if_pos hb, cntF_perm n dem _ hp, Nat.mul_add]
              omega
          · refine ⟨_, _, _, _, rfl, hM, ?_⟩
            rw [upTo_succ, if_neg (by rw [hb]; decide)]
            exact hWM
      · rintro ρ ⟨M, x7, x8, x9, rfl, hM, hWM⟩
        rw [rngD_len] at hWM
        refine ⟨M, _, _, _, _, _, rfl, hM, ?_⟩
        rw [hWM, wsum_take hq]
        congr 2
        have e : n - r = (n - (r + 1)) + 1 := by omega
        rw [e, cntF]; rfl
    · rintro ρ ⟨M, x5, x6, x7, x8, x9, rfl, hM, hWM⟩
      refine ⟨rfl, ?_⟩
      rw [List.take_length] at hWM
      refine sx_moveO (j := 4) (p := pn) (u := .dT (encL M)) rfl (by decide) ?_
      exact ⟨pn, M, _, _, _, _, _, _, rfl, hM, by rw [hWM, hW]⟩
  · rintro ρ ⟨p, L, x3, x5, x6, x7, x8, x9, rfl, hL, hW⟩
    rw [rngD_len, Nat.sub_self] at hW
    refine sx_retD (ev_sumVals rfl) fun v H' rv => ?_
    have e : (L.map (·.2)).sum = lin false n dem := by
      rw [← cntF_lin ok.lt, ← hW]
      unfold wsum cntF
      simp
    rw [e] at rv
    exact rv
end
end Wk
/-! ## G1 -/
set_option Elab.async false
set_option linter.all false
set_option autoImplicit false
set_option maxRecDepth 100000
set_option maxHeartbeats 4000000
namespace Wk
open PySem PySem.Spec L2
section
variable {K : PySem.W.Frag} {H0 : Hp} {ρ : Ab} {te ta tb tc : TE} {P1 P2 : PV} {po : Po}
/-- q.pop(te) goes to the end of p -/
theorem sx_popApp {i j n : Nat} {p q : Addr} {ds es : List D} {d : D} (hi : ρ[i]? = some (.l p ds)) (hj : ρ[j]? = some (.l q es)) (hij : i ≠ j) (h : EvP K H0 te ρ (PD (di n))) (hd : es[n]? = some d) (hn : n ≤ 1000) (hl : ds.length ≤ 1000)
    (k : po.N ((ρ.set j (.l q (es.eraseIdx n))).set i (.l p (ds ++ [d])))) :
    Sx K H0 (tDrop (tBM K "list" rAppend (tVar i) (tCons (tBM K "list" rPopAt (tVar j) (tCons te tNil)) tNil))) ρ po := fun σ H E s nn r b c => by
  obtain ⟨h1, xs, h2, h3⟩ := own_ref hi s
  obtain ⟨g1, ys, g2, g3⟩ := own_ref hj s
  obtain ⟨y, hy, ry⟩ := g3.get hd
  have hlt : n < ys.length := (List.getElem?_eq_some_iff.mp hy).1
  refine ⟨.ref p, h1, .inl ⟨rfl, xs, .inl (.inl h2)⟩, ?_⟩
  refine ⟨.ref q, g1, .inl ⟨rfl, ys, .inl (.inl g2)⟩, h σ H s _ fun v H1 e pv => ?_⟩
  have pv := Rp.intI pv
  subst pv
  obtain ⟨s1, t1⟩ := (s.ex e).mut (xs' := ys.eraseIdx n) (ds' := es.eraseIdx n) hj ((g3.mono (tex e)).eraseIdx n)
  have hi2 : (ρ.set j (.l q (es.eraseIdx n)))[i]? = some (.l p ds) := by rw [List.getElem?_set_ne (Ne.symm hij)]; exact hi
  obtain ⟨k1, zs, k2, k3⟩ := own_ref hi2 s1
  obtain ⟨s2, t2⟩ := s1.mut (xs' := zs ++ [y]) (ds' := ds ++ [d]) hi2 (k3.append (.cons (ry.mono ((tex e).trans t1)) .nil))
  refine ⟨q, ys, (n : Int), n, y, rfl, rfl, e _ _ g2, by omega, by omega, ?_, hy, ?_⟩
  · rw [seqIndex_of (by omega) (by omega)]; rfl
  · exact ⟨p, zs, y, rfl, rfl, k2, by rw [k3.length]; exact small1000 hl, nn _ σ _ k s2 (((tex e).trans t1).trans t2)⟩
theorem eraseIdx_map' {α β : Type} (f : α → β) : ∀ (l : List α) (n : Nat), (l.map f).eraseIdx n = (l.eraseIdx n).map f
  | [], _ => by simp
  | a :: l, 0 => by simp
  | a :: l, n + 1 => by
    rw [List.map_cons, List.eraseIdx_cons_succ, List.eraseIdx_cons_succ, List.map_cons, eraseIdx_map' f l n]
theorem get_erase_perm {α : Type} : ∀ (l : List α) (n : Nat) (h : n < l.length), (l[n] :: l.eraseIdx n).Perm l
  | a :: l, 0, _ => by simp
  | a :: l, n + 1, h => by
    rw [List.getElem_cons_succ, List.eraseIdx_cons_succ]
    exact (List.Perm.swap _ _ _).trans ((get_erase_perm l n (by simpa using h)).cons a)
def PL (ds : List D) : PV := fun _ v H' => ∃ p zs, v = .ref p ∧ H' p = some (.lst zs) ∧ Rps H' zs ds
theorem ev_varX {i : Nat} {p : Addr} {ds : List D} (h : ρ[i]? = some (.l p ds)) : EvP K H0 (tVar i) ρ (PL ds) := fun σ H s Q q => by
  obtain ⟨h1, xs, h2, h3⟩ := own_ref h s
  exact ⟨_, h1, q _ H (Same.refl H) ⟨p, xs, rfl, h2, h3⟩⟩
theorem ev_catX {xs ys : List D} (ha : EvP K H0 ta ρ (PL xs)) (hb : EvP K H0 tb ρ (PL ys)) (hl : xs.length + ys.length ≤ 1000) : EvP K H0 (tOp rCat ta tb) ρ (PN (xs ++ ys)) := ev_catL ha hb (fun _ _ _ h => h) (fun _ _ _ h => h) hl
theorem EvP.X {ds : List D} (h : EvP K H0 te ρ (PN ds)) : EvP K H0 te ρ (PL ds) := h.to fun H v H' ⟨p, xs, e, _, h1, h2⟩ => ⟨p, xs, e, h1, h2⟩
end
section
variable {P : Program} {w : World} {K : PySem.W.Frag} {mg : Str → Option Value} {base : Heap} {f : Addr} {fd : FuncData} {k : Nat}
theorem ok__law_cell (T : Tp K mg) (F : Fun K "_law_cell" "_law_cell" s__law_cell f fd) : FnOk P w K mg base CX0 (k + 1) f fd ["_law_script", "_law_k"] (spec K pre_cell) := by
  refine okOf F sc__law_cell (by decide) (by rintro _ _ ⟨_, _, rfl, _⟩; rfl) fun cdv Aa outer s H0 E hr => ⟨_, d__law_cell T hr, ?_⟩
  rintro _ _ pf ⟨ns, n, rfl, rfl⟩
  show Sx K H0 (t__law_cell K) [.b (pf 0) (ns.map D.int), .d (di n)] _
  refine sx_seq (sx_if (et_test (ev_ib (i := (n : Int)) (j := ((ns.map D.int).length : Nat)) (ev_var rfl) (ev_lenL (ev_varB rfl)))) (fun hb => ?_) fun _ => sx_next ?_)
  · have hlt : n < ns.length := by
      have := of_decide_eq_true hb
      rw [List.length_map] at this
      omega
    exact sx_retD (d := .int ns[n]) (ev_ixL (ev_varB rfl) (ev_var rfl) (atI_dn (by rw [List.getElem?_map, List.getElem?_eq_getElem hlt]; rfl))) fun v H' rv => ⟨_, ⟨_, rfl⟩, rv⟩
  · exact sx_retD ev_int fun v H' rv => ⟨_, ⟨_, rfl⟩, rv⟩
theorem fmod_nat {c : Int} {m : Nat} (hm : 0 < m) : ∃ z : Nat, c.fmod (m : Int) = (z : Int) ∧ z < m := by
  have h1 := Int.fmod_nonneg_of_pos c (b := (m : Int)) (by omega)
  have h2 := Int.fmod_lt_of_pos c (b := (m : Int)) (by omega)
  exact ⟨(c.fmod m).toNat, by omega, by omega⟩
theorem ok__law_digits (T : Tp K mg) (F : Fun K "_law_digits" "_law_digits" s__law_digits f fd) : FnOk P w K mg base CX0 (k + 1) f fd ["_law_cell_here", "_law_sizes"] (spec K pre_digits) := by
  refine okOf F sc__law_digits (by decide) (by rintro _ _ ⟨_, _, rfl, _⟩; rfl) fun cdv Aa outer s H0 E hr => ⟨_, d__law_digits T hr, ?_⟩
  rintro _ _ pf ⟨c, ms, rfl, hp, hl, hb, rfl⟩
  show Sx K H0 (t__law_digits K) [.d (.int c), .b (pf 1) (dis ms), .u, .u] _
  refine sx_seq (sx_setN (ev_lst (ds := []) ea_nil (by decide)) fun p => ?_)
  refine sx_seq (sx_forL (k := 1) (p := pf 1) (ds := dis ms) (vs := [3]) (.inr rfl) (fun i ρ => ∃ (c' : Int) (ds : List D) (a : A), ρ = [.d (.int c'), .b (pf 1) (dis ms), .l p ds, a] ∧ All2 (fun m d => ∃ z : Nat, d = di z ∧ z < m) (ms.take i) ds) ⟨c, [], .u, rfl, .nil⟩ ?_ ?_ ?_)
  · rintro i ρ ⟨c', ds, a, rfl, _⟩
    exact .inr rfl
  · rintro i d ρ hd ⟨c', ds, a, rfl, h2⟩
    unfold dis at hd
    rw [List.getElem?_map] at hd
    obtain ⟨m, hm, rfl⟩ := Option.map_eq_some_iff.mp hd
    have hm0 := hp m (List.mem_of_getElem? hm)
    have hm1 := hb m (List.mem_of_getElem? hm)
    obtain ⟨z, hz, hzl⟩ := fmod_nat (c := c') hm0
    refine tg_name ?_ (by decide)
    have hdl := h2.length
    rw [List.length_take] at hdl
    refine sx_seq (sx_appD (d := di z) (p := p) (ds := ds) rfl ((ev_iiC (C := fun _ j => j ≠ 0) (g := fun i j => i.fmod j) (i := c') (j := (m : Int)) (ev_intI (ev_var rfl)) (ev_var rfl) (by omega)).eqD (by rw [hz]; rfl)) (by omega) ?_)
    refine sx_setD (d := .int (c'.fdiv m)) (ev_iiC (C := CDivN) (g := fun i j => i.fdiv j) (i := c') (j := (m : Int)) (ev_var rfl) (ev_var rfl) ⟨by omega, by omega⟩) ?_
    refine ⟨c'.fdiv m, ds ++ [di z], .d (di m), rfl, ?_⟩
    rw [List.take_add_one, hm]
    exact All2.snoc ⟨z, rfl, hzl⟩ h2
  · rintro ρ ⟨c', ds, a, rfl, h2⟩
    rw [dis_len, List.take_length] at h2
    exact sx_retL (p := p) (ds := ds) rfl fun v H' r => ⟨ds, h2, r⟩
theorem ok__law_rich (T : Tp K mg) (F : Fun K "_law_rich" "_law_rich" s__law_rich f fd) : FnOk P w K mg base CX0 (k + 1) f fd ["_law_cell_here"] (spec K pre_rich) := by
  refine okOf F sc__law_rich (by decide) (by rintro _ _ ⟨_, rfl, _⟩; rfl) fun cdv Aa outer s H0 E hr => ⟨_, d__law_rich T hr, ?_⟩
  rintro _ _ pf ⟨c, rfl, rfl⟩
  show Sx K H0 (t__law_rich K) [.d (.int c), .u, .u] _
  refine sx_seq (sx_if (et_test (ev_ib (g := fun i j => decide (j ≤ i)) (i := c) (j := (10 : Int) ^ (18 : Int).toNat) (ev_var rfl) (ev_iiC (C := CPow) (g := fun i j => i ^ j.toNat) (i := 10) (j := 18) ev_int ev_int ⟨by decide, by decide, by decide⟩))) (fun _ => ?_) fun _ => sx_next ?_)
  · exact sx_retD (ev_var rfl) fun v H' rv => ⟨_, ⟨_, rfl⟩, rv⟩
  · refine sx_seq (sx_setD (ev_iiC (C := fun _ j => j ≠ 0) (g := fun i j => i.fmod j) (ev_intI (ev_ii (g := fun i j => i + j) (ev_iiC (C := CMul) (g := fun i j => i * j) (ev_var rfl) ev_int (.inr ⟨by decide, by decide⟩)) ev_int)) ev_int (by decide)) ?_)
    refine sx_seq (sx_setD (ev_iiC (C := fun _ j => j ≠ 0) (g := fun i j => i.fmod j) (ev_intI (ev_ii (g := fun i j => i + j) (ev_ii (g := fun i j => i + j) (ev_iiC (C := CMul) (g := fun i j => i * j) (ev_var rfl) ev_int (.inr ⟨by decide, by decide⟩)) (ev_iiC (C := CDivN) (g := fun i j => i.fdiv j) (ev_var rfl) ev_int ⟨by decide, by decide⟩)) ev_int)) ev_int (by decide)) ?_)
    exact sx_retD (ev_ii (g := fun i j => i + j) (ev_iiC (C := CMul) (g := fun i j => i * j) (ev_var rfl) ev_int (.inr ⟨by decide, by decide⟩)) (ev_var rfl)) fun v H' rv => ⟨_, ⟨_, rfl⟩, rv⟩
theorem ok__law_order (T : Tp K mg) (F : Fun K "_law_order" "_law_order" s__law_order f fd) (C1 : Cal P w K mg base k "_law_rich" ["_law_cell_here"] pre_rich) : FnOk P w K mg base CX0 (k + 1) f fd ["_law_cell_here", "_law_n"] (spec K pre_order) := by
  refine okOf F sc__law_order (by decide) (by rintro _ _ ⟨_, _, rfl, _⟩; rfl) fun cdv Aa outer s H0 E hr => ⟨_, d__law_order T (C__law_rich := C1) hr, ?_⟩
  rintro _ _ pf ⟨c, n, rfl, hn, rfl⟩
  show Sx K H0 (t__law_order K) [.d (.int c), .d (di n), .u, .u, .u, .u, .u] _
  refine sx_seq (sx_setN (ds := dis (List.range n)) (ev_lc1 (xs := List.range n) di di (ej_range (n := n) (ea_d (ev_var rfl) ea_nil) (by omega)).i (by simp; omega) fun q hq => tg_name (ev_var rfl) (by decide)) fun p => ?_)
  refine sx_seq (sx_setI (ev_callDs (ea_d (ev_var rfl) ea_nil) ⟨c, rfl, rfl⟩) fun z => ?_)
  refine sx_seq (sx_setN (ev_lst (ds := []) ea_nil (by decide)) fun q => ?_)
  refine sx_seq (sx_for (vs := [5]) (ej_range (n := n) (ea_d (ev_var rfl) ea_nil) (by omega)) (fun i ρ => ∃ (z : Int) (l o : List Nat) (a : A), ρ = [.d (.int c), .d (di n), .l p (dis l), .d (.int z), .l q (dis o), a, .u] ∧ (o ++ l).Perm (List.range n) ∧ o.length = i)
    ⟨z, List.range n, [], .u, rfl, List.Perm.refl _, rfl⟩ ?_ ?_)
  · rintro i d ρ hd ⟨z, l, o, a, rfl, hpm, hol⟩
    have hi : i < n := by
      have := (List.getElem?_eq_some_iff.mp hd).1
      rwa [rngD_len] at this
    rw [rngD_get hi] at hd
    cases hd
    have hll : l.length = n - i := by
      have := hpm.length_eq
      rw [List.length_append, List.length_range] at this
      omega
    obtain ⟨x, hx, hxl⟩ := fmod_nat (c := z) (m := n - i) (by omega)
    have esub : ((n : Int) - (i : Int)) = ((n - i : Nat) : Int) := by omega
    refine tg_name ?_ (by decide)
    refine sx_seq (sx_popApp (n := x) (p := q) (q := p) (ds := dis o) (es := dis l) (d := di l[x]) rfl rfl (by decide) ((ev_iiC (C := fun _ j => j ≠ 0) (g := fun i j => i.fmod j) (i := z) (j := (n : Int) - (i : Int)) (ev_intI (ev_var rfl)) (ev_ii (g := fun i j => i - j) (ev_var rfl) (ev_var rfl)) (by omega)).eqD (by rw [esub, hx]; rfl)) ?_ (by omega) (by rw [dis_len]; omega) ?_)
    · unfold dis
      rw [List.getElem?_map, List.getElem?_eq_getElem (by omega)]; rfl
    · have ee : (dis l).eraseIdx x = dis (l.eraseIdx x) := by
        unfold dis
        exact eraseIdx_map' _ _ _
      have ea : dis o ++ [di l[x]] = dis (o ++ [l[x]]) := by rw [dis_append]; rfl
      rw [ee, ea]
      have hpm2 : ((o ++ [l[x]]) ++ l.eraseIdx x).Perm (List.range n) := by
        refine List.Perm.trans ?_ hpm
        rw [List.append_assoc]
        refine List.Perm.append_left o ?_
        exact get_erase_perm l x (by omega)
      refine sx_seq (sx_setD (d := .int (z.fdiv ((n : Int) - (i : Int)))) (ev_iiC (C := CDivN) (g := fun i j => i.fdiv j) (i := z) (j := (n : Int) - (i : Int)) (ev_var rfl) (ev_ii (g := fun i j => i - j) (ev_var rfl) (ev_var rfl)) ⟨by omega, by omega⟩) ?_)
      refine sx_if (et_test (ev_eqI (ev_var rfl) ev_int)) (fun _ => ?_) fun _ => sx_next ?_
      · refine sx_setI (ev_callDs (ea_d (ev_ii (g := fun i j => i + j) (ev_ii (g := fun i j => i + j) (ev_var rfl) (ev_var rfl)) ev_int) ea_nil) ⟨_, rfl, rfl⟩) fun z2 => ?_
        exact ⟨z2, _, _, _, rfl, hpm2, by rw [List.length_append, hol]; rfl⟩
      · exact ⟨_, _, _, _, rfl, hpm2, by rw [List.length_append, hol]; rfl⟩
  · rintro ρ ⟨z, l, o, a, rfl, hpm, hol⟩
    rw [rngD_len] at hol
    have hl0 : l = [] := by
      have := hpm.length_eq
      rw [List.length_append, List.length_range] at this
      exact List.eq_nil_of_length_eq_zero (by omega)
    subst hl0
    rw [List.append_nil] at hpm
    exact sx_retD (d := .tup (dis o)) (ev_tupleL (ev_varL rfl)) fun v H' rv => ⟨_, ⟨o, rfl, hpm⟩, rv⟩
theorem isi_int {t : Tr} : kitB (tyD t.enc) "int" = some (isInt t.enc) := by
  cases t with
  | leaf i => show kitB "int" "int" = some true; decide +kernel
  | node row ps => show kitB "tuple" "int" = some false; decide +kernel
theorem ok__law_things {m : Nat} (T : Tp K mg) (F : Fun K "_law_things" "_law_things" s__law_things f fd) (C2 : Cal P w K mg base k "_law_things" ["_law_tree_here"] (pre_things m)) :
    FnOk P w K mg base CX0 (k + 1) f fd ["_law_tree_here"] (spec K (pre_things (m + 1))) := by
  refine okOf F sc__law_things (by decide) (by rintro _ _ ⟨_, rfl, _⟩; rfl) fun cdv Aa outer s H0 E hr => ⟨_, d__law_things T (C__law_things := C2) hr, ?_⟩
  rintro _ _ pf ⟨t, rfl, hm, hl, rfl⟩
  show Sx K H0 (t__law_things K m) [.d t.enc, .u, .u] _
  refine sx_seq (sx_if (et_B (ev_isi (ev_var rfl) isi_int)) (fun hb => ?_) fun hb => ?_)
  · cases t with
    | node row ps => cases hb
    | leaf i => exact sx_retN (ev_lst (ds := [di i]) (ea_d (ev_var rfl) ea_nil) (by show 1 ≤ 1000; decide)) fun v H' r => r
  · cases t with
    | leaf i => cases hb
    | node row ps =>
      refine sx_next ?_
      refine sx_seq (sx_setN (ev_lst (ds := []) ea_nil (by decide)) fun p => ?_)
      refine sx_seq (sx_for (vs := [2]) (ej_tup (ev_ixT (ev_var rfl) ev_int rfl)) (fun i ρ => ∃ p a, ρ = [.d (Tr.node row ps).enc, .l p (dis (flats (ps.take i))), a]) ⟨p, .u, rfl⟩ ?_ ?_)
      · rintro i d ρ hd ⟨p, a, rfl⟩
        rw [encs_eq, List.getElem?_map] at hd
        obtain ⟨q, hq, rfl⟩ := Option.map_eq_some_iff.mp hd
        have e1 := flats_take_succ hq
        have hle : (flats (ps.take (i + 1))).length ≤ 100 := Nat.le_trans (flats_take_le _) hl
        rw [e1, List.length_append] at hle
        refine tg_name ?_ (by decide)
        refine sx_setN (ds := dis (flats (ps.take (i + 1)))) ((ev_catX (ev_varX rfl) (ev_callN (ea_d (ev_var rfl) ea_nil) ⟨q, rfl, ?_, by omega, rfl⟩).X ?_).eqN ?_) fun p2 => ⟨p2, _, rfl⟩
        · rw [dis_len, dis_len]; omega
        · rw [e1, dis_append]
        · have := deps_mem (List.mem_of_getElem? hq)
          simp [Tr.dep] at hm
          omega
      · rintro ρ ⟨p, a, rfl⟩
        refine sx_retL (p := p) rfl fun v H' r => ?_
        rw [encs_eq, List.length_map, List.take_length] at r
        exact r
end
end Wk
/-! ## M6 -/
set_option linter.all false
set_option autoImplicit false
/-! Places in an order; all orders, the last thing put in last. -/
namespace Wk
theorem idx_ne {a x : Nat} (xs : List Nat) (h : x ≠ a) : (x :: xs).idxOf a = xs.idxOf a + 1 := by
  rw [List.idxOf_cons]
  have : (x == a) = false := beq_eq_false_iff_ne.mpr h
  rw [this]; rfl
theorem bef_idx {a b : Nat} : ∀ {o : List Nat}, o.Nodup → a ∈ o → b ∈ o → a ≠ b → (Bef a b o ↔ o.idxOf a < o.idxOf b)
  | [], _, h, _, _ => by cases h
  | x :: xs, nd, ha, hb, hne => by
    rw [List.nodup_cons] at nd
    have hB : Bef a b (x :: xs) ↔ (x = a ∧ b ∈ xs) ∨ Bef a b xs := Iff.rfl
    rw [hB]
    by_cases h1 : x = a
    · subst h1
      have hb2 : b ∈ xs := by
        rcases List.mem_cons.mp hb with h | h
        · exact absurd h.symm hne
        · exact h
      rw [List.idxOf_cons_self, idx_ne xs hne]
      exact ⟨fun _ => by omega, fun _ => .inl ⟨rfl, hb2⟩⟩
    · have ha2 : a ∈ xs := by
        rcases List.mem_cons.mp ha with h | h
        · exact absurd h.symm h1
        · exact h
      by_cases h2 : x = b
      · subst h2
        rw [List.idxOf_cons_self]
        refine ⟨fun h => ?_, fun h => by omega⟩
        rcases h with h | h
        · exact absurd h.1 h1
        · exact absurd (bef_left h).2 nd.1
      · have hb2 : b ∈ xs := by
          rcases List.mem_cons.mp hb with h | h
          · exact absurd h.symm h2
          · exact h
        rw [idx_ne xs h1, idx_ne xs h2, Nat.add_lt_add_iff_right, ← bef_idx nd.2 ha2 hb2 hne]
        exact ⟨fun h => h.resolve_left fun z => h1 z.1, .inr⟩
theorem keepW_iff {o : List Nat} {ws : List (Nat × Nat)} : keepW o ws = true ↔ ∀ w ∈ ws, Bef w.1 w.2 o := by simp [keepW]
/-- no wish the wrong way round -/
theorem keepW_idx {o : List Nat} {ws : List (Nat × Nat)} (nd : o.Nodup) (h : ∀ w ∈ ws, w.1 ≠ w.2 ∧ w.1 ∈ o ∧ w.2 ∈ o) : (ws.filter fun w => decide (o.idxOf w.2 < o.idxOf w.1)).isEmpty = keepW o ws := by
  rw [Bool.eq_iff_iff, List.isEmpty_iff, List.filter_eq_nil_iff, keepW_iff]
  refine forall_congr' fun w => forall_congr' fun hw => ?_
  obtain ⟨h1, h2, h3⟩ := h w hw
  rw [bef_idx nd h2 h3 h1]
  have : o.idxOf w.1 ≠ o.idxOf w.2 := fun z => h1 (by
    have e1 := List.getElem_idxOf (List.idxOf_lt_length_of_mem h2)
    have e2 := List.getElem_idxOf (List.idxOf_lt_length_of_mem h3)
    rw [← e1, ← e2]
    simp only [z])
  rw [decide_eq_true_eq]
  omega
theorem keep_numb {o : List Nat} {ws : List (Nat × Nat)} : keepT o (numb ws) = keepW o ws := by
  rw [Bool.eq_iff_iff, keepT_iff, keepW_iff]
  refine ⟨fun h w hw => ?_, fun h d hd => ?_⟩
  · obtain ⟨x, hx, rfl⟩ := List.mem_iff_getElem.mp hw
    exact h (ws[x].1, ws[x].2, x) (mem_numb.mpr ⟨hx, rfl⟩)
  · obtain ⟨a, b, x⟩ := d
    obtain ⟨hx, e⟩ := mem_numb.mp hd
    have := h ws[x] (List.getElem_mem hx)
    rw [e] at this
    exact this
def permsR : Nat → List (List Nat)
  | 0 => [[]]
  | n + 1 => (permsR n).flatMap (ins n)
theorem range_cons_perm (n : Nat) : (n :: List.range n).Perm (List.range (n + 1)) := by
  rw [List.range_succ]
  exact (List.perm_append_comm (l₁ := List.range n) (l₂ := [n])).symm
theorem permsR_iff : ∀ {n : Nat} {o : List Nat}, o ∈ permsR n ↔ o.Perm (List.range n)
  | 0, o => by
    rw [permsR, List.mem_singleton, List.range_zero]
    exact ⟨fun h => by rw [h], fun h => h.eq_nil⟩
  | n + 1, o => by
    rw [permsR, List.mem_flatMap]
    refine ⟨fun ⟨q, hq, ho⟩ => ?_, fun h => ?_⟩
    · exact ((ins_perm n ho).trans ((permsR_iff.mp hq).cons n)).trans (range_cons_perm n)
    · have h2 := h.trans (range_cons_perm n).symm
      obtain ⟨a, b, rfl⟩ := List.append_of_mem (h2.symm.subset List.mem_cons_self)
      exact ⟨a ++ b, permsR_iff.mpr (List.Perm.cons_inv (List.perm_middle.symm.trans h2)), ins_mid n a b⟩
theorem permsR_nodup : ∀ n : Nat, (permsR n).Nodup
  | 0 => by simp [permsR]
  | n + 1 => by
    rw [permsR]
    have hx : ∀ q ∈ permsR n, n ∉ q := fun q hq z => by
      have := (permsR_iff.mp hq).subset z
      rw [List.mem_range] at this
      omega
    refine nodup_flatMap (fun q hq => ins_nodup (hx q hq)) (permsR_nodup n) fun a ha b hb o hoa hob => ?_
    have e : ∀ c, c ∈ permsR n → o ∈ ins n c → c = o.filter fun y => decide (y ≠ n) := fun c hc hoc => by
      rw [ins_filter (by simp) hoc, List.filter_eq_self.mpr]
      intro y hy
      have : y ≠ n := fun z => hx c hc (z ▸ hy)
      simpa using this
    rw [e a ha hoa, e b hb hob]
theorem permsR_len : ∀ n : Nat, (permsR n).length = fact n
  | 0 => rfl
  | n + 1 => by
    rw [permsR, flatMap_len (n := n + 1), permsR_len n, fact]
    intro o ho
    rw [ins_len, (permsR_iff.mp ho).length_eq, List.length_range]
/-- x put in at place j -/
def putAt (x : Nat) (o : List Nat) (j : Nat) : List Nat := o.take j ++ x :: o.drop j
theorem ins_eq (x : Nat) : ∀ o : List Nat, (List.range (o.length + 1)).map (putAt x o) = ins x o
  | [] => rfl
  | y :: ys => by
    rw [List.length_cons, List.range_succ_eq_map, List.map_cons, List.map_map, ins, ← ins_eq x ys, List.map_map]
    rfl
end Wk
/-! ## G2 -/
set_option Elab.async false
set_option linter.all false
set_option autoImplicit false
set_option maxRecDepth 100000
set_option maxHeartbeats 4000000
namespace Wk
open PySem PySem.Spec L2
/-! ### data that == may look at -/
def Lay (n : Nat) (d : D) : Prop := PyData.canLay0 (toP d) = true ∧ PyData.depth (toP d) ≤ n
theorem lay_all {n : Nat} : ∀ {ds : List D}, (∀ d ∈ ds, Lay n d) → PyData.canLayAll0 (toPs ds) = true ∧ PyData.depthAll (toPs ds) ≤ n
  | [], _ => ⟨rfl, Nat.zero_le _⟩
  | d :: ds, h => by
    obtain ⟨h1, h2⟩ := lay_all fun c hc => h c (List.mem_cons_of_mem _ hc)
    obtain ⟨h3, h4⟩ := h d List.mem_cons_self
    constructor
    · show (PyData.canLay0 (toP d) && PyData.canLayAll0 (toPs ds)) = true
      rw [h1, h3]; rfl
    · show max (PyData.depth (toP d)) (PyData.depthAll (toPs ds)) ≤ n
      omega
theorem lay_int {n : Nat} (i : Int) : Lay n (.int i) := ⟨rfl, Nat.zero_le _⟩
theorem lay_word {n : Nat} (row : Bool) : Lay n (.str (if row then "row" else "any")) := by
  cases row
  · exact ⟨by decide +kernel, Nat.zero_le _⟩
  · exact ⟨by decide +kernel, Nat.zero_le _⟩
theorem lay_tup {n : Nat} {ds : List D} (h : ∀ d ∈ ds, Lay n d) : Lay (n + 1) (.tup ds) := by
  obtain ⟨h1, h2⟩ := lay_all h
  refine ⟨?_, ?_⟩
  · show PyData.canLay0 (.tuple (toPs ds)) = true
    simpa [PyData.canLay0] using h1
  · show PyData.depthAll (toPs ds) + 1 ≤ n + 1
    omega
theorem lay_ntup {n : Nat} {ds : List D} (h : ∀ d ∈ ds, Lay n d) : Lay (n + 1) (.ntup ds) := lay_tup h
theorem lay_mono {n m : Nat} {d : D} (h : Lay n d) (hm : n ≤ m) : Lay m d := ⟨h.1, Nat.le_trans h.2 hm⟩
theorem lay_dis {n : Nat} {o : List Nat} : ∀ d ∈ dis o, Lay n d := fun d hd => by
  obtain ⟨x, _, rfl⟩ := List.mem_map.mp hd
  exact lay_int _
theorem lay_encW {n : Nat} (w : Nat × Nat) : Lay (n + 1) (encW w) := lay_tup fun d hd => by
  rcases List.mem_cons.mp hd with rfl | hd
  · exact lay_int _
  · rw [List.mem_singleton] at hd
    subst hd
    exact lay_int _
theorem shaped_lay {ds : List D} (h : ∀ d ∈ ds, Lay 63 d) : SeqAt.shaped (.list (toPs ds)) = true := by
  obtain ⟨h1, h2⟩ := lay_all h
  show (PyData.canLay0 (.list _) && decide (PyData.depth (.list _) ≤ 64)) = true
  have e1 : PyData.canLay0 (.list (toPs ds)) = true := by simpa [PyData.canLay0] using h1
  have e2 : PyData.depth (.list (toPs ds)) ≤ 64 := by
    show PyData.depthAll _ + 1 ≤ 64
    omega
  rw [e1, decide_eq_true e2]; rfl
/-! ### cuts -/
theorem cut_to {ds : List D} (j : Nat) : cutD ds none (some (j : Int)) = ds.take j := by
  unfold cutD
  rw [HT.sIx_none, HT.sIx_nat, List.drop_zero, Nat.sub_zero]
  by_cases h : j ≤ ds.length
  · rw [Nat.min_eq_left h]
  · rw [Nat.min_eq_right (by omega), List.take_of_length_le (Nat.le_refl _), List.take_of_length_le (by omega)]
theorem cut_from {ds : List D} (j : Nat) : cutD ds (some (j : Int)) none = ds.drop j := by
  unfold cutD
  rw [HT.sIx_none, HT.sIx_nat]
  by_cases h : j ≤ ds.length
  · rw [Nat.min_eq_left h, List.take_of_length_le (by rw [List.length_drop]; exact Nat.le_refl _)]
  · rw [Nat.min_eq_right (by omega), List.drop_of_length_le (Nat.le_refl _), List.drop_of_length_le (by omega), List.take_nil]
theorem cut_mid {ds : List D} (i j : Nat) (h : i ≤ j) (hi : i ≤ ds.length) : cutD ds (some (i : Int)) (some (j : Int)) = (ds.drop i).take (j - i) := by
  unfold cutD
  rw [HT.sIx_nat, HT.sIx_nat, Nat.min_eq_left hi]
  by_cases hj : j ≤ ds.length
  · rw [Nat.min_eq_left hj]
  · rw [Nat.min_eq_right (by omega), List.take_of_length_le (by rw [List.length_drop]; exact Nat.le_refl _), List.take_of_length_le (by rw [List.length_drop]; omega)]
theorem all2_three {R : Nat → D → Prop} {a b c : Nat} {ds : List D} (h : All2 R [a, b, c] ds) : ∃ x y z, ds = [x, y, z] ∧ R a x ∧ R b y ∧ R c z := by
  cases h with
  | cons h1 h => cases h with
    | cons h2 h => cases h with
      | cons h3 h => cases h; exact ⟨_, _, _, rfl, h1, h2, h3⟩
theorem all2_two {R : Nat → D → Prop} {a b : Nat} {ds : List D} (h : All2 R [a, b] ds) : ∃ x y, ds = [x, y] ∧ R a x ∧ R b y := by
  cases h with
  | cons h1 h => cases h with
    | cons h2 h => cases h; exact ⟨_, _, rfl, h1, h2⟩
section
variable {P : Program} {w : World} {K : PySem.W.Frag} {mg : Str → Option Value} {base : Heap} {f : Addr} {fd : FuncData} {k : Nat}
theorem dis_idx {o : List Nat} {i : Nat} (h : i < o.length) : (dis o)[i]? = some (di o[i]) := by
  unfold dis
  rw [List.getElem?_map, List.getElem?_eq_getElem h]; rfl
theorem ok__law_wishes (T : Tp K mg) (F : Fun K "_law_wishes" "_law_wishes" s__law_wishes f fd) (C1 : Cal P w K mg base k "_law_cell" ["_law_script", "_law_k"] pre_cell) (C2 : Cal P w K mg base k "_law_rich" ["_law_cell_here"] pre_rich)
    (C3 : Cal P w K mg base k "_law_digits" ["_law_cell_here", "_law_sizes"] pre_digits) : FnOk P w K mg base CX0 (k + 1) f fd ["_law_script", "_law_at", "_law_n", "_law_order_here"] (spec K pre_wishes) := by
  refine okOf F sc__law_wishes (by decide) (by rintro _ _ ⟨_, _, _, rfl, _⟩; rfl) fun cdv Aa outer s H0 E hr => ⟨_, d__law_wishes T (C__law_cell := C1) (C__law_rich := C2) (C__law_digits := C3) hr, ?_⟩
  rintro _ _ pf ⟨ns, n, o, rfl, h1, h9, hpm, rfl⟩
  show Sx K H0 (t__law_wishes K) [.b (pf 0) (ns.map D.int), .d (di 4), .d (di n), .d (.tup (dis o)), .u, .u, .u, .u, .u, .u] _
  have hol : o.length = n := by rw [hpm.length_eq, List.length_range]
  have hnd : o.Nodup := hpm.symm.nodup List.nodup_range
  refine sx_seq (sx_setN (ev_lst (ds := []) ea_nil (by decide)) fun p => ?_)
  refine sx_seq (sx_for (vs := [5]) (ej_range (n := 6) (ea_d ev_int ea_nil) (by omega)) (fun i ρ => ∃ (ws : List (Nat × Nat)) (a5 a6 a7 a8 a9 : A), ρ = [.b (pf 0) (ns.map D.int), .d (di 4), .d (di n), .d (.tup (dis o)), .l p (ws.map encW), a5, a6, a7, a8, a9] ∧ WsOk n ws ∧ ws.length ≤ i)
    ⟨[], _, _, _, _, _, rfl, nofun, Nat.le_refl _⟩ ?_ ?_)
  · rintro i d ρ hd ⟨ws, a5, a6, a7, a8, a9, rfl, hws, hwl⟩
    have hi : i < 6 := by
      have := (List.getElem?_eq_some_iff.mp hd).1
      rwa [rngD_len] at this
    rw [rngD_get hi] at hd
    cases hd
    refine tg_name ?_ (by decide)
    refine sx_if (et_and (et_test (ev_ib (g := fun i j => decide (i < j)) (ev_ii (g := fun i j => i + j) (ev_var rfl) (ev_var rfl)) (ev_lenL (ev_varB rfl)))) fun _ => et_test (ev_ib (g := fun i j => decide (j < i)) (i := (n : Int)) (j := 1) (ev_var rfl) ev_int)) (fun hb => ?_) fun _ => sx_next ⟨ws, _, _, _, _, _, rfl, hws, by omega⟩
    rw [Bool.and_eq_true, decide_eq_true_eq, decide_eq_true_eq] at hb
    have hn1 : 1 < n := by have := hb.2; omega
    have enn : ((n : Int) - 1) = ((n - 1 : Nat) : Int) := by omega
    refine sx_seq (sx_setNs (S := All2 (fun m d => ∃ z : Nat, d = di z ∧ z < m) [n, n - 1, 6]) (ev_callANs (ean_i (ev_callADs (ean_i (ev_iiN (g := fun i j => i + j) (ev_callDs (ea_s (ev_varB rfl) (ea_d ((ev_ii (g := fun i j => i + j) (i := 4) (j := (i : Int)) (ev_var rfl) (ev_var rfl)).eqD (d' := di (4 + i)) (by show D.int _ = D.int _; congr 1)) ea_nil)) ⟨ns, 4 + i, rfl, rfl⟩) ((ev_var rfl).any ⟨(i : Int), rfl⟩)) ea_nil.n) ?_) (ea_s ((ev_lst (ds := [di n, .int ((n : Int) - 1), di 6]) (ea_d (ev_var rfl) (ea_d (ev_ii (g := fun i j => i - j) (ev_var rfl) ev_int) (ea_d ev_int ea_nil))) (by show 3 ≤ 1000; decide)).S.eqS (d' := dis [n, n - 1, 6]) (by rw [enn]; rfl)) ea_nil).n) ?_) fun pd ds hds => ?_)
    · rintro as ⟨i, r, rfl, rfl⟩
      exact ⟨i, rfl, rfl⟩
    · rintro as ⟨i, r, rfl, rfl⟩
      refine ⟨i, _, rfl, ?_, by show 3 ≤ 9; decide, ?_, rfl⟩
      · intro m hm
        simp at hm
        omega
      · intro m hm
        simp at hm
        omega
    · obtain ⟨_, _, _, rfl, ⟨a, rfl, ha⟩, ⟨b, rfl, hb'⟩, ⟨c, rfl, hc⟩⟩ := all2_three hds
      refine sx_seq (sx_setD (d := di (if a ≤ b then b + 1 else b)) ((ev_ii (g := fun i j => i + j) (ev_ixL (ev_varL rfl) ev_int atI_1) (ev_intB (ev_ib (g := fun i j => decide (j ≤ i)) (ev_ixL (ev_varL rfl) ev_int atI_1) (ev_ixL (ev_varL rfl) ev_int atI_0)))).eqD ?_) ?_)
      · show D.int _ = D.int _
        congr 1
        by_cases h : a ≤ b
        · rw [decide_eq_true (show (a : Int) ≤ (b : Int) by omega), if_pos h, if_pos rfl]; rfl
        · rw [decide_eq_false (show ¬ (a : Int) ≤ (b : Int) by omega), if_neg h, if_neg (by decide)]
          omega
      · obtain ⟨e, he⟩ : ∃ e, e = if a ≤ b then b + 1 else b := ⟨_, rfl⟩
        rw [← he]
        have hea : e ≠ a := by
          split at he <;> omega
        have hen : e < n := by
          split at he <;> omega
        refine sx_seq (sx_setD (d := di (if e < a then e else a)) ((ev_min2 (ev_ixL (ev_varL rfl) ev_int atI_0) (ev_var rfl)).eqD ?_) ?_)
        · show D.int _ = D.int _
          congr 1
          by_cases h : e < a
          · rw [if_pos h, if_pos (by omega)]
          · rw [if_neg h, if_neg (by omega)]
        · refine sx_seq (sx_setD (d := di (if a < e then e else a)) ((ev_max2 (ev_ixL (ev_varL rfl) ev_int atI_0) (ev_var rfl)).eqD ?_) ?_)
          · show D.int _ = D.int _
            congr 1
            by_cases h : a < e
            · rw [if_pos h, if_pos (by omega)]
            · rw [if_neg h, if_neg (by omega)]
          · refine sx_seq (Sx.imp (M := fun ρ' => ∃ (x y : Nat) (a6 a7 : A), ρ' = [.b (pf 0) (ns.map D.int), .d (di 4), .d (di n), .d (.tup (dis o)), .l p (ws.map encW), .d (di i), a6, a7, .d (di x), .d (di y)] ∧ x ≠ y ∧ x < n ∧ y < n) ?_ ?_)
            · refine sx_if (et_test (ev_eqI (ev_ixL (ev_varL rfl) ev_int atI_2) ev_int)) (fun _ => ?_) fun _ => sx_next ?_
              · refine sx_par (ea_d (ev_var rfl) (ea_d (ev_var rfl) ea_nil)) ?_
                refine ⟨_, _, _, _, rfl, ?_, ?_, ?_⟩
                all_goals (split <;> first | omega | (split <;> omega))
              · refine ⟨_, _, _, _, rfl, ?_, ?_, ?_⟩
                all_goals (split <;> first | omega | (split <;> omega))
            · rintro ρ' ⟨x, y, a6, a7, rfl, hxy, hx, hy⟩
              refine sx_appD (d := encW (o[x], o[y])) (ds := ws.map encW) (p := p) rfl (ev_tup (ds := [di o[x], di o[y]]) (ea_d (ev_ixT (ev_var rfl) (ev_var rfl) (atI_dn (dis_idx (by omega)))) (ea_d (ev_ixT (ev_var rfl) (ev_var rfl) (atI_dn (dis_idx (by omega)))) ea_nil)) (by show 2 ≤ 1000; decide)) (by rw [List.length_map]; omega) ?_
              refine ⟨ws ++ [(o[x], o[y])], _, _, _, _, _, by rw [List.map_append]; rfl, ?_, by rw [List.length_append, List.length_singleton]; omega⟩
              intro w hw
              rcases List.mem_append.mp hw with hw | hw
              · exact hws w hw
              · rw [List.mem_singleton] at hw
                subst hw
                refine ⟨fun z => hxy ((List.getElem_inj hnd).mp z), ?_, ?_⟩
                · exact List.mem_range.mp (hpm.subset (List.getElem_mem _))
                · exact List.mem_range.mp (hpm.subset (List.getElem_mem _))
  · rintro ρ ⟨ws, a5, a6, a7, a8, a9, rfl, hws, hwl⟩
    rw [rngD_len] at hwl
    exact sx_retD (d := .tup (ws.map encW)) (ev_tupleL (ev_varL rfl)) fun v H' rv => ⟨_, ⟨ws, rfl, hws, hwl⟩, rv⟩
theorem idx_dint {o : List Nat} {a : Nat} : (o.map dint).idxOf (a : Int) = o.idxOf a := by
  induction o with
  | nil => rfl
  | cons x xs ih =>
    rw [List.map_cons]
    by_cases h : x = a
    · subst h
      rw [List.idxOf_cons_self]
      exact List.idxOf_cons_self
    · rw [idx_ne xs h, List.idxOf_cons]
      have : (dint x == (a : Int)) = false := beq_eq_false_iff_ne.mpr fun z => h (by unfold dint at z; omega)
      rw [this, ih]; rfl
theorem ok__law_keeps (T : Tp K mg) (F : Fun K "_law_keeps" "_law_keeps" s__law_keeps f fd) : FnOk P w K mg base CX0 (k + 1) f fd ["_law_order_here", "_law_wishes_here"] (spec K pre_keeps) := by
  refine okOf F sc__law_keeps (by decide) (by rintro _ _ ⟨_, _, _, rfl, _⟩; rfl) fun cdv Aa outer s H0 E hr => ⟨_, d__law_keeps T hr, ?_⟩
  rintro _ _ pf ⟨o, ws, a, rfl, ha, hnd, hw, hwl, hol, rfl⟩
  have main : ∀ x : A, EvI K H0 (iSeq K (tVar 1)) [.d (.ntup (dis o)), x, .u] (ws.map encW) → Sx K H0 (t__law_keeps K) [.d (.ntup (dis o)), x, .u] (poOf H0 (PD (.bl (keepW o ws)))) := fun x hx => by
    refine sx_retD ((ev_eqLN (ds := (ws.filter fun w => decide (o.idxOf w.2 < o.idxOf w.1)).map encW) (ev_lc (xs := ws) encW (fun w => decide (o.idxOf w.2 < o.idxOf w.1)) encW hx (by omega) fun q hq => ?_).S ev_lst0.S (shaped_lay fun d hd => ?_)).eqD ?_) fun v H' r => r
    · refine tg_name ⟨(et_test (ev_ib (g := fun i j => decide (j < i)) (i := ((o.map dint).idxOf (q.1 : Int) : Nat)) (j := ((o.map dint).idxOf (q.2 : Int) : Nat)) (ev_tindex (ns := o.map dint) (z := (q.1 : Int)) ((ev_var rfl).eqD (by rw [← dis_eq])) (ev_ixT (ds := [di q.1, di q.2]) (ev_var rfl) ev_int atI_0) (mem_dint.mpr (hw q hq).2.1))
        (ev_tindex (ns := o.map dint) (z := (q.2 : Int)) ((ev_var rfl).eqD (by rw [← dis_eq])) (ev_ixT (ds := [di q.1, di q.2]) (ev_var rfl) ev_int atI_1) (mem_dint.mpr (hw q hq).2.2)))).eqT ?_, fun _ => ev_var rfl⟩ (by decide)
      rw [idx_dint, idx_dint]
      exact decide_eq_decide.mpr (by omega)
    · obtain ⟨w, _, rfl⟩ := List.mem_map.mp hd
      exact lay_encW w
    · rw [List.isEmpty_map, keepW_idx hnd hw]
  rcases ha with rfl | rfl
  · show Sx K H0 (t__law_keeps K) [.d (.ntup (dis o)), .d (.tup (ws.map encW)), .u] _
    exact main _ (ei_seq (.inr (ev_var rfl)))
  · show Sx K H0 (t__law_keeps K) [.d (.ntup (dis o)), .b (pf 1) (ws.map encW), .u] _
    exact main _ (ei_seq (.inl (ev_varB rfl)))
theorem ok__law_orders (T : Tp K mg) (F : Fun K "_law_orders" "_law_orders" s__law_orders f fd) : FnOk P w K mg base CX0 (k + 1) f fd ["_law_n"] (spec K pre_orders) := by
  refine okOf F sc__law_orders (by decide) (by rintro _ _ ⟨_, rfl, _⟩; rfl) fun cdv Aa outer s H0 E hr => ⟨_, d__law_orders T hr, ?_⟩
  rintro _ _ pf ⟨n, rfl, hn, rfl⟩
  show Sx K H0 (t__law_orders K) [.d (di n), .u, .u, .u, .u, .u] _
  obtain ⟨eo, heo⟩ : ∃ eo : List Nat → D, eo = fun o => .ntup (dis o) := ⟨_, rfl⟩
  refine sx_seq (sx_setN (ds := (permsR 0).map eo) ((ev_lst (ds := [.ntup []]) (ea_d (ev_tupS (ds := []) ea_nil (by decide)) ea_nil) (by show 1 ≤ 1000; decide)).eqN (by rw [heo]; rfl)) fun p => ?_)
  refine sx_seq (sx_for (vs := [2]) (ej_range (n := n) (ea_d (ev_var rfl) ea_nil) (by omega)) (fun i ρ => ∃ (p : Addr) (a2 a3 a4 a5 : A), ρ = [.d (di n), .l p ((permsR i).map eo), a2, a3, a4, a5]) ⟨p, _, _, _, _, rfl⟩ ?_ ?_)
  · rintro i d ρ hd ⟨p, a2, a3, a4, a5, rfl⟩
    have hi : i < n := by
      have := (List.getElem?_eq_some_iff.mp hd).1
      rwa [rngD_len] at this
    rw [rngD_get hi] at hd
    cases hd
    have hfl : ∀ j, j ≤ 5 → (permsR j).length ≤ 120 := fun j hj => by
      rw [permsR_len]
      have : j = 0 ∨ j = 1 ∨ j = 2 ∨ j = 3 ∨ j = 4 ∨ j = 5 := by omega
      rcases this with rfl | rfl | rfl | rfl | rfl | rfl <;> decide
    have hlen := hfl i (by omega)
    have hlen2 := hfl (i + 1) (by omega)
    refine tg_name ?_ (by decide)
    refine sx_seq (sx_setN (ev_lst (ds := []) ea_nil (by decide)) fun p2 => ?_)
    refine sx_seq (sx_forL (k := 1) (p := p) (ds := (permsR i).map eo) (vs := [4]) (.inl rfl) (fun j ρ => ∃ (a4 a5 : A), ρ = [.d (di n), .l p ((permsR i).map eo), .d (di i), .l p2 ((((permsR i).take j).flatMap (ins i)).map eo), a4, a5]) ⟨_, _, rfl⟩ ?_ ?_ ?_)
    · rintro j ρ ⟨a4, a5, rfl⟩
      exact .inl rfl
    · rintro j d ρ hd ⟨a4, a5, rfl⟩
      rw [List.getElem?_map] at hd
      obtain ⟨o, ho, rfl⟩ := Option.map_eq_some_iff.mp hd
      have hom := permsR_iff.mp (List.mem_of_getElem? ho)
      have hol : o.length = i := by rw [hom.length_eq, List.length_range]
      have elen : (permsR i).take (j + 1) = (permsR i).take j ++ [o] := by rw [List.take_add_one, ho]; rfl
      have hle : (((permsR i).take j).flatMap (ins i)).length + (i + 1) ≤ 120 := by
        have h1 : ((permsR i).take (j + 1)).Sublist (permsR i) := List.take_sublist _ _
        have h2 : (((permsR i).take (j + 1)).flatMap (ins i)).length ≤ (permsR (i + 1)).length := by
          rw [permsR]
          have e : (permsR i).flatMap (ins i) = ((permsR i).take (j + 1)).flatMap (ins i) ++ ((permsR i).drop (j + 1)).flatMap (ins i) := by
            rw [← List.flatMap_append, List.take_append_drop]
          rw [e, List.length_append]
          omega
        rw [elen, List.flatMap_append, List.length_append] at h2
        have h3 : ([o].flatMap (ins i)).length = i + 1 := by
          rw [List.flatMap_cons, List.flatMap_nil, List.append_nil, ins_len, hol]
        omega
      refine tg_name ?_ (by decide)
      refine sx_for (vs := [5]) (ej_range (n := i + 1) (ea_d ((ev_ii (g := fun i j => i + j) (i := (i : Int)) (j := 1) ((ev_lenT (ds := dis o) (ev_weak ((ev_var rfl).eqD (d := eo o) (by rw [heo])))).eqD (by rw [dis_len, hol])) ev_int).eqD (by rfl)) ea_nil) (by omega)) (fun t ρ => ∃ (a5 : A), ρ = [.d (di n), .l p ((permsR i).map eo), .d (di i), .l p2 ((((permsR i).take j).flatMap (ins i) ++ (List.range t).map (putAt i o)).map eo), .d (eo o), a5]) ⟨_, by simp; rfl⟩ ?_ ?_
      · rintro t d ρ hd ⟨a5, rfl⟩
        have ht : t < i + 1 := by
          have := (List.getElem?_eq_some_iff.mp hd).1
          rwa [rngD_len] at this
        rw [rngD_get ht] at hd
        cases hd
        refine tg_name ?_ (by decide)
        have hv : ∀ ρ : Ab, ρ[4]? = some (.d (eo o)) → EvP K H0 (tVar 4) ρ (PD (.ntup (dis o))) := fun ρ h => (ev_var h).eqD (by rw [heo])
        refine sx_appD (d := eo (putAt i o t)) (p := p2) rfl ((ev_catS (xs := dis (o.take t) ++ [di i]) (ys := dis (o.drop t)) (ev_catS (xs := dis (o.take t)) (ys := [di i]) ((ev_slS (hv _ rfl) eo_none (eo_some (ev_var rfl))).eqD ?_) (ev_tupS (ds := [di i]) (ea_d (ev_var rfl) ea_nil) (by show 1 ≤ 1000; decide)) ?_) ((ev_slS (hv _ rfl) (eo_some (ev_var rfl)) eo_none).eqD ?_) ?_).eqD ?_) ?_ ?_
        · rw [cut_to]; unfold dis; rw [List.map_take]
        · rw [dis_len, List.length_take]; show _ + 1 ≤ _; omega
        · rw [cut_from]; unfold dis; rw [List.map_drop]
        · rw [List.length_append, dis_len, dis_len, List.length_take, List.length_drop]; show _ + 1 + _ ≤ _; omega
        · rw [heo]
          show D.ntup _ = D.ntup _
          unfold putAt
          rw [dis_append, List.append_assoc]; rfl
        · rw [List.length_map, List.length_append, List.length_map, List.length_range]
          omega
        · refine ⟨.d (di t), ?_⟩
          have er : (List.range (t + 1)).map (putAt i o) = (List.range t).map (putAt i o) ++ [putAt i o t] := by rw [List.range_succ, List.map_append]; rfl
          rw [er, ← List.append_assoc, List.map_append (l₁ := _ ++ _)]; rfl
      · rintro ρ ⟨a5, rfl⟩
        refine ⟨.d (eo o), a5, ?_⟩
        rw [rngD_len]
        have e1 : (List.range (i + 1)).map (putAt i o) = ins i o := by rw [← ins_eq, hol]
        rw [e1, elen, List.flatMap_append, List.flatMap_cons, List.flatMap_nil, List.append_nil]
    · rintro ρ ⟨a4, a5, rfl⟩
      rw [List.length_map, List.take_length]
      refine sx_move (j := 3) (p := p2) (ds := ((permsR i).flatMap (ins i)).map eo) rfl (by decide) ?_
      exact ⟨p2, _, _, _, _, rfl⟩
  · rintro ρ ⟨p, a2, a3, a4, a5, rfl⟩
    rw [rngD_len]
    refine sx_retL (p := p) rfl fun v H' r => ⟨_, ⟨permsR n, by rw [heo], permsR_nodup n, fun o => permsR_iff⟩, r⟩
end
end Wk
/-! ## M7 -/
set_option linter.all false
set_option autoImplicit false
/-! Trees with their parts in another allowed sequence. -/
namespace Wk
theorem map_getD_range (s : List Nat) : (List.range s.length).map (fun i => s.getD i 0) = s := by
  refine List.ext_getElem (by simp) fun i h1 h2 => ?_
  rw [List.getElem_map, List.getElem_range, List.getD_eq_getElem?_getD, List.getElem?_eq_getElem h2]; rfl
theorem idx_get {s : List Nat} (nd : s.Nodup) {i : Nat} (h : i < s.length) : s.idxOf s[i] = i := by
  have hl := List.idxOf_lt_length_of_mem (List.getElem_mem h)
  exact (List.getElem_inj nd).mp (List.getElem_idxOf hl)
theorem told_shuffle {row : Bool} {ps : List Tr} {f : Nat → Tr} {s : List Nat} (hs : SeqOk row ps.length s) (hf : ∀ j (hj : j < ps.length) (o : List Nat), Told (f j) o → Told ps[j] o) :
    ∀ o, Told (.node row (s.map f)) o → Told (.node row ps) o := by
  intro o ho
  obtain ⟨os, s2, h1, h2, rfl⟩ := told_node_iff.mp ho
  have hp := hs.perm
  have hl : s.length = ps.length := by rw [hp.length_eq, List.length_range]
  have nd : s.Nodup := hp.symm.nodup List.nodup_range
  rw [List.length_map, hl] at h2
  have hp2 := h2.perm
  have lt2 : ∀ i ∈ s2, i < ps.length := fun i hi => List.mem_range.mp (hp2.subset hi)
  have e1 : pick os s2 = ((s2.map fun i => s.getD i 0).map fun j => os.getD (s.idxOf j) []).flatten := by
    unfold pick
    rw [List.map_map]
    congr 1
    refine List.map_congr_left fun i hi => ?_
    have hi2 : i < s.length := by rw [hl]; exact lt2 i hi
    show _ = os.getD (s.idxOf (s.getD i 0)) []
    rw [List.getD_eq_getElem?_getD (l := s), List.getElem?_eq_getElem hi2, Option.getD_some, idx_get nd hi2]
  rw [e1]
  refine told_node ?_ fun j hj => hf j hj _ ?_
  · have em := map_getD_range s
    rw [hl] at em
    cases row with
    | false =>
      have h3 : s2.Perm (List.range ps.length) := h2
      have h4 := h3.map fun i => s.getD i 0
      rw [em] at h4
      exact h4.trans hp
    | true =>
      have h3 : s2 = List.range ps.length ∨ s2 = (List.range ps.length).reverse := h2
      have h4 : s = List.range ps.length ∨ s = (List.range ps.length).reverse := hs
      show _ = _ ∨ _ = _
      rcases h3 with rfl | rfl
      · rw [em]; exact h4
      · rw [List.map_reverse, em]
        rcases h4 with h4 | h4
        · exact .inr (by rw [h4])
        · exact .inl (by rw [h4, List.reverse_reverse])
  · have hm : j ∈ s := hp.symm.subset (List.mem_range.mpr hj)
    have hi := List.idxOf_lt_length_of_mem hm
    have h3 := tolds_get (i := s.idxOf j) (by rw [List.length_map]; exact hi) h1
    rw [List.getElem_map, List.getElem_idxOf] at h3
    exact h3
theorem deps_le_of {m : Nat} : ∀ {qs : List Tr}, (∀ q ∈ qs, q.dep ≤ m) → deps qs ≤ m
  | [], _ => by simp [deps]
  | q :: qs, h => by
    rw [deps]
    exact Nat.max_le.mpr ⟨h q List.mem_cons_self, deps_le_of fun p hp => h p (List.mem_cons_of_mem _ hp)⟩
theorem flats_len (qs : List Tr) : (flats qs).length = (qs.map fun q => q.flat.length).sum := by
  induction qs with
  | nil => rfl
  | cons q qs ih => rw [flats, List.length_append, ih, List.map_cons, List.sum_cons]
theorem sum_perm {a b : List Nat} (h : a.Perm b) : a.sum = b.sum := by
  induction h with
  | nil => rfl
  | cons x _ ih => rw [List.sum_cons, List.sum_cons, ih]
  | swap x y l => rw [List.sum_cons, List.sum_cons, List.sum_cons, List.sum_cons]; omega
  | trans _ _ h1 h2 => rw [h1, h2]
theorem flats_len_shuffle {ps : List Tr} {f : Nat → Tr} {s : List Nat} (hs : s.Perm (List.range ps.length)) (hf : ∀ j (hj : j < ps.length), (f j).flat.length = ps[j].flat.length) : (flats (s.map f)).length = (flats ps).length := by
  rw [flats_len, flats_len, List.map_map, sum_perm (hs.map _)]
  congr 1
  refine List.ext_getElem (by simp) fun i h1 h2 => ?_
  rw [List.getElem_map, List.getElem_map, List.getElem_range]
  exact hf i (by simpa using h2)
theorem tolds_snoc : ∀ {ps : List Tr} {os : List (List Nat)} {p : Tr} {o : List Nat}, Tolds ps os → Told p o → Tolds (ps ++ [p]) (os ++ [o])
  | [], os, p, o, h, ho => by
    rw [Tolds] at h
    subst h
    show Tolds [p] [o]
    rw [Tolds]
    exact ⟨o, [], rfl, ho, by rw [Tolds]⟩
  | q :: qs, os, p, o, h, ho => by
    rw [Tolds] at h
    obtain ⟨a, r, rfl, h1, h2⟩ := h
    rw [List.cons_append, Tolds]
    exact ⟨a, r ++ [o], rfl, h1, tolds_snoc h2 ho⟩
theorem told_flat {row : Bool} {ps : List Tr} {os : List (List Nat)} (h : Tolds ps os) : Told (.node row ps) os.flatten := by
  refine told_node_iff.mpr ⟨os, List.range ps.length, h, ?_, ?_⟩
  · cases row with
    | false => exact List.Perm.refl _
    | true => exact .inl rfl
  · unfold pick
    congr 1
    rw [← tolds_len h]
    refine List.ext_getElem (by simp) fun i h1 h2 => ?_
    rw [List.getElem_map, List.getElem_range, List.getD_eq_getElem?_getD, List.getElem?_eq_getElem h1]; rfl
/-- i put in among a sequence of the first i -/
theorem put_perm {s : List Nat} {i z : Nat} (h : s.Perm (List.range i)) : (s.take z ++ [i] ++ s.drop z).Perm (List.range (i + 1)) := by
  refine List.Perm.trans ?_ (range_cons_perm i)
  rw [List.append_assoc]
  have : (s.take z ++ [i] ++ s.drop z).Perm (i :: (s.take z ++ s.drop z)) := by
    rw [List.append_assoc]
    exact List.perm_middle
  rw [List.append_assoc, List.take_append_drop] at this
  exact this.trans (h.cons i)
end Wk
/-! ## G3 -/
set_option Elab.async false
set_option linter.all false
set_option autoImplicit false
set_option maxRecDepth 100000
set_option maxHeartbeats 4000000
namespace Wk
open PySem PySem.Spec L2
section
variable {K : PySem.W.Frag} {H0 : Hp} {ρ : Ab} {te ta tb tc : TE} {P P1 P2 : PV} {po : Po} {t : TS}
theorem sx_ins {i z : Nat} {p : Addr} {ds : List D} {d : D} {ti tv : TE} (hi : ρ[i]? = some (.l p ds)) (h1 : EvP K H0 ti ρ (PD (di z))) (h2 : EvP K H0 tv ρ (PD d)) (hz : z ≤ 1000) (hl : ds.length ≤ 1000) (k : po.N (ρ.set i (.l p (ds.take z ++ [d] ++ ds.drop z)))) :
    Sx K H0 (tDrop (tBM K "list" qInsert (tVar i) (tCons ti (tCons tv tNil)))) ρ po := fun σ H E s n r b c => by
  obtain ⟨g1, xs, g2, g3⟩ := own_ref hi s
  refine ⟨.ref p, g1, .inl ⟨rfl, xs, .inl (.inl g2)⟩, h1 σ H s _ fun v H1 e1 p1 => h2 σ H1 (s.ex e1) _ fun v2 H2 e2 p2 => ?_⟩
  have p1 := Rp.intI p1
  subst p1
  have e := e1.trans e2
  have g4 := g3.mono (tex e)
  obtain ⟨s1, t1⟩ := (s.ex e).mut (xs' := xs.take z ++ [v2] ++ xs.drop z) (ds' := ds.take z ++ [d] ++ ds.drop z) hi (((g4.take z).append (.cons p2 .nil)).append (g4.drop z))
  exact ⟨p, xs, (z : Int), v2, rfl, rfl, e _ _ g2, by rw [g3.length]; exact small1000 hl, by omega, by omega, n _ σ _ k s1 ((tex e).trans t1)⟩
theorem ev_op1s {r : R2} {S : D → Prop} (ha : EvP K H0 ta ρ (PDs S)) (h : ∀ d, S d → ∀ ta', EvP K H0 ta' ρ (PD d) → EvP K H0 (tOp r ta' tb) ρ P) : EvP K H0 (tOp r ta tb) ρ P := fun σ H s Q q =>
  ha σ H s _ fun v H1 e ⟨d, hd, rv⟩ => by
    have := h d hd (fun σ' H' Q' => σ' = σ → H' = H → Q' v H1) (fun σ' H' s' Q' q' e1 e2 => by
      subst e1; subst e2
      exact q' v H1 e rv) σ H s Q q
    exact this rfl rfl
theorem ev_op2s {r : R2} {S : D → Prop} (ha : EvP K H0 ta ρ P1) (hb : EvP K H0 tb ρ (PDs S)) (h : ∀ d, S d → ∀ ta' tb', EvP K H0 ta' ρ P1 → EvP K H0 tb' ρ (PD d) → EvP K H0 (tOp r ta' tb') ρ P) : EvP K H0 (tOp r ta tb) ρ P := fun σ H s Q q =>
  ha σ H s _ fun x H1 e1 p1 => hb σ H1 (s.ex e1) _ fun y H2 e2 ⟨d, hd, ry⟩ => by
    have := h d hd (fun σ' H' Q' => σ' = σ → H' = H → Q' x H1) (fun σ' H' Q' => σ' = σ → H' = H1 → Q' y H2) (fun σ' H' s' Q' q' f1 f2 => by
      subst f1; subst f2
      exact q' x H1 e1 p1) (fun σ' H' s' Q' q' f1 f2 => by
      subst f1; subst f2
      exact q' y H2 e2 ry) σ H s Q q
    exact this rfl rfl rfl rfl
def EvJs (K : PySem.W.Frag) (H0 : Hp) (wi : TI) (ρ : Ab) (S : List D → Prop) : Prop := ∀ σ H, StOk K H0 ρ σ H → ∀ R : It → Hp → Prop, (∀ J H1 ds, S ds → Ex H H1 → ItP J ds (TEx H1) → R J H1) → wi σ H R
theorem ej_tups {S : D → Prop} {T : List D → Prop} (h : EvP K H0 te ρ (PDs S)) (hs : ∀ d, S d → ∃ ds, d = .tup ds ∧ T ds) : EvJs K H0 (iTup K te) ρ T := fun σ H s R r => h σ H s _ fun v H1 e ⟨d, hd, p⟩ => by
  obtain ⟨ds, rfl, ht⟩ := hs d hd
  obtain ⟨a, xs, rfl, h1, h2⟩ := Rp.tupI p
  exact ⟨a, rfl, ⟨xs, .inl h1⟩, r _ H1 ds ht e (itp_tup h1 h2)⟩
theorem sx_forS {wi : TI} {g : TG} {S : List D → Prop} (hj : EvJs K H0 wi ρ S) (h : ∀ ds, S ds → ∀ wi', EvJ K H0 wi' ρ ds → Sx K H0 (tFor wi' g t) ρ po) : Sx K H0 (tFor wi g t) ρ po := fun σ H E s n r b c =>
  hj σ H s _ fun J H1 ds hds e it => by
    have := h ds hds (fun σ' H' R => σ' = σ → H' = H → R J H1) (fun σ' H' s' R q e1 e2 => by
      subst e1; subst e2
      exact q J H1 e it) σ H E s n r b c
    exact this rfl rfl
end
section
variable {P : Program} {w : World} {K : PySem.W.Frag} {mg : Str → Option Value} {base : Heap} {f : Addr} {fd : FuncData} {k : Nat}
theorem fms_flats_le {ps : List Tr} {n : Nat} (hf : Fms ps) (hp : (flats ps).Perm (List.range n)) : ps.length ≤ n := by
  have h1 := flats_pos ps hf
  rw [hp.length_eq, List.length_range] at h1
  exact h1
theorem flats_leaf (o : List Nat) : flats (o.map Tr.leaf) = o := by
  induction o with
  | nil => rfl
  | cons x xs ih =>
    rw [List.map_cons, flats, ih]; rfl
theorem encs_leaf (o : List Nat) : encs (o.map Tr.leaf) = dis o := by
  rw [encs_eq, List.map_map]; rfl
theorem ok__law_tree (T : Tp K mg) (F : Fun K "_law_tree" "_law_tree" s__law_tree f fd) (C1 : Cal P w K mg base k "_law_rich" ["_law_cell_here"] pre_rich) (C2 : Cal P w K mg base k "_law_order" ["_law_cell_here", "_law_n"] pre_order) :
    FnOk P w K mg base CX0 (k + 1) f fd ["_law_cell_here", "_law_n"] (spec K pre_tree) := by
  refine okOf F sc__law_tree (by decide) (by rintro _ _ ⟨_, _, rfl, _⟩; rfl) fun cdv Aa outer s H0 E hr => ⟨_, d__law_tree T (C__law_rich := C1) (C__law_order := C2) hr, ?_⟩
  rintro _ _ pf ⟨c, n, rfl, hn1, hn9, rfl⟩
  show Sx K H0 (t__law_tree K) [.d (.int c), .d (di n), .u, .u, .u, .u, .u, .u, .u] _
  refine sx_seq (sx_setNs (S := fun ds => ∃ o : List Nat, ds = dis o ∧ o.Perm (List.range n)) (ev_listTs (ev_callDs (ea_d (ev_var rfl) (ea_d (ev_var rfl) ea_nil)) ⟨c, n, rfl, hn9, rfl⟩) fun d ⟨o, e, h⟩ => ⟨dis o, e, o, rfl, h⟩) fun p ds hds => ?_)
  obtain ⟨o, rfl, hpo⟩ := hds
  refine sx_seq (sx_setI (ev_callDs (ea_d (ev_ii (g := fun i j => i + j) (ev_iiC (C := CDivN) (g := fun i j => i.fdiv j) (ev_var rfl) ev_int ⟨by decide, by decide⟩) ev_int) ea_nil) ⟨_, rfl, rfl⟩) fun z => ?_)
  refine sx_seq (Sx.imp (M := fun ρ => ∃ (p : Addr) (ps : List Tr) (a3 a4 a5 a6 a7 a8 : A), ρ = [.d (.int c), .d (di n), .l p (encs ps), a3, a4, a5, a6, a7, a8] ∧ Fms ps ∧ (flats ps).Perm (List.range n)) ?_ ?_)
  · refine sx_for (vs := [4]) (ej_range (n := 30) (ea_d ev_int ea_nil) (by omega)) (fun i ρ => ∃ (p : Addr) (ps : List Tr) (z : Int) (a4 a5 a6 a7 a8 : A), ρ = [.d (.int c), .d (di n), .l p (encs ps), .d (.int z), a4, a5, a6, a7, a8] ∧ Fms ps ∧ (flats ps).Perm (List.range n))
      ⟨p, o.map Tr.leaf, z, _, _, _, _, _, by rw [encs_leaf]; rfl, fms_of fun q hq => ?_, by rw [flats_leaf]; exact hpo⟩ ?_ ?_
    · obtain ⟨x, _, rfl⟩ := List.mem_map.mp hq
      exact True.intro
    · rintro i d ρ hd ⟨p, ps, z, a4, a5, a6, a7, a8, rfl, hf, hp⟩
      have hi : i < 30 := by
        have := (List.getElem?_eq_some_iff.mp hd).1
        rwa [rngD_len] at this
      rw [rngD_get hi] at hd
      cases hd
      have hpl := fms_flats_le hf hp
      have el : (encs ps).length = ps.length := by rw [encs_eq, List.length_map]
      refine tg_name ?_ (by decide)
      refine sx_seq (sx_if (et_test (ev_ib (g := fun i j => decide (i < j)) (ev_lenL (ev_varL rfl)) ev_int)) (fun _ => sx_break ⟨p, ps, _, _, _, _, _, _, rfl, hf, hp⟩) fun hb => sx_next ?_)
      have hb := of_decide_eq_false hb
      rw [el] at hb
      obtain ⟨x, hx, hxl⟩ := fmod_nat (c := z) (m := 4) (by omega)
      obtain ⟨y, hy, hyl⟩ := fmod_nat (c := z.fdiv 4) (m := ps.length) (by omega)
      refine sx_seq (sx_setD (d := di (2 + x)) ((ev_ii (g := fun i j => i + j) ev_int (ev_iiC (C := fun _ j => j ≠ 0) (g := fun i j => i.fmod j) (i := z) (j := 4) (ev_intI (ev_var rfl)) ev_int (by decide))).eqD (by
        have hx : z.fmod 4 = (x : Int) := hx
        rw [hx]; rfl)) ?_)
      refine sx_seq (Sx.imp (M := fun ρ => ∃ sz : Nat, ρ = [.d (.int c), .d (di n), .l p (encs ps), .d (.int z), .d (di i), .d (di sz), a6, a7, a8] ∧ 2 ≤ sz ∧ sz ≤ 24) ?_ ?_)
      · refine sx_if (et_test (ev_eqI (ev_iiC (C := fun _ j => j ≠ 0) (g := fun i j => i.fmod j) (ev_intI (ev_iiC (C := CDivN) (g := fun i j => i.fdiv j) (ev_var rfl) ev_int ⟨by decide, by decide⟩)) ev_int (by decide)) ev_int)) (fun _ => ?_) fun _ => sx_next ?_
        · exact sx_setD (d := di 24) ev_int ⟨24, rfl, by omega, by omega⟩
        · exact ⟨2 + x, rfl, by omega, by omega⟩
      · rintro ρ ⟨sz, rfl, hs1, hs2⟩
        refine sx_seq (sx_setD (d := di y) ((ev_iiC (C := fun _ j => j ≠ 0) (g := fun i j => i.fmod j) (i := z.fdiv 4) (j := ((encs ps).length : Nat)) (ev_intI (ev_iiC (C := CDivN) (g := fun i j => i.fdiv j) (ev_var rfl) ev_int ⟨by decide, by decide⟩)) (ev_lenL (ev_varL rfl)) (by rw [el]; omega)).eqD (by rw [el, hy]; rfl)) ?_)
        have eat : ∀ ρ : Ab, ρ[6]? = some (.d (di y)) → ρ[5]? = some (.d (di sz)) → EvP K H0 (tOp qAdd (tVar 6) (tVar 5)) ρ (PD (.int ((y + sz : Nat) : Int))) := fun ρ h1 h2 => (ev_ii (g := fun i j => i + j) (ev_var h1) (ev_var h2)).eqD (by show D.int _ = D.int _; congr 1)
        refine sx_seq (sx_setN (ds := encs ((ps.drop y).take sz)) ((ev_slL (ev_varL rfl) (eo_some (ev_var rfl)) (eo_some (eat _ rfl rfl))).eqN ?_) fun pc => ?_)
        · rw [cut_mid y (y + sz) (by omega) (by rw [el]; omega), encs_eq, encs_eq, ← List.map_drop, ← List.map_take, Nat.add_sub_cancel_left]
        · obtain ⟨ch, hch⟩ : ∃ ch, ch = (ps.drop y).take sz := ⟨_, rfl⟩
          rw [← hch]
          have ecl : (encs ch).length = ch.length := by rw [encs_eq, List.length_map]
          have hfm : ∀ q ∈ ps, q.Fm := fun q hq => fms_mem hf hq
          have hchm : ∀ q ∈ ch, q ∈ ps := fun q hq => by
            rw [hch] at hq
            exact List.mem_of_mem_drop (List.mem_of_mem_take hq)
          have hchl : ch.length ≤ ps.length := by rw [hch, List.length_take, List.length_drop]; omega
          have esplit : ps = ps.take y ++ (ch ++ ps.drop (y + sz)) := by
            rw [hch, ← List.drop_drop, List.take_append_drop, List.take_append_drop]
          refine sx_seq (Sx.imp (M := fun ρ => ∃ (p : Addr) (ps : List Tr) (a7 a8 : A), ρ = [.d (.int c), .d (di n), .l p (encs ps), .d (.int z), .d (di i), .d (di sz), .d (di y), a7, a8] ∧ Fms ps ∧ (flats ps).Perm (List.range n)) ?_ ?_)
          · refine sx_if (et_test (ev_ib (g := fun i j => decide (j < i)) (ev_lenL (ev_varL rfl)) ev_int)) (fun hb2 => ?_) fun _ => sx_next ⟨p, ps, _, _, rfl, hf, hp⟩
            have hb2 := of_decide_eq_true hb2
            rw [ecl] at hb2
            refine sx_seq (sx_setD (d := .str (if false then "row" else "any")) ev_str ?_)
            refine sx_seq (Sx.imp (M := fun ρ => ∃ row : Bool, ρ = [.d (.int c), .d (di n), .l p (encs ps), .d (.int z), .d (di i), .d (di sz), .d (di y), .l pc (encs ch), .d (.str (if row then "row" else "any"))] ∧ (row = true → 3 ≤ ch.length)) ?_ ?_)
            · refine sx_if (et_and (et_test (ev_ib (g := fun i j => decide (j < i)) (ev_lenL (ev_varL rfl)) ev_int)) fun _ => et_test (ev_eqI (ev_iiC (C := fun _ j => j ≠ 0) (g := fun i j => i.fmod j) (ev_intI (ev_iiC (C := CDivN) (g := fun i j => i.fdiv j) (ev_var rfl) ev_int ⟨by decide, by decide⟩)) ev_int (by decide)) ev_int)) (fun hb3 => ?_) fun _ => sx_next ⟨false, rfl, fun h => nomatch h⟩
              rw [Bool.and_eq_true] at hb3
              have hb3 := of_decide_eq_true hb3.1
              rw [ecl] at hb3
              exact sx_setD (d := .str (if true then "row" else "any")) ev_str ⟨true, rfl, fun _ => by omega⟩
            · rintro ρ ⟨row, rfl, hrow⟩
              obtain ⟨ps2, hps2⟩ : ∃ ps2, ps2 = ps.take y ++ ([Tr.node row ch] ++ ps.drop (y + sz)) := ⟨_, rfl⟩
              have hf2 : Fms ps2 := fms_of fun q hq => by
                rw [hps2] at hq
                rcases List.mem_append.mp hq with hq | hq
                · exact hfm q (List.mem_of_mem_take hq)
                · rcases List.mem_append.mp hq with hq | hq
                  · rw [List.mem_singleton] at hq
                    subst hq
                    exact fm_node.mpr ⟨by omega, hrow, fms_of fun q hq => hfm q (hchm q hq)⟩
                  · exact hfm q (List.mem_of_mem_drop hq)
              have hfl2 : flats ps2 = flats ps := by
                have e1 : flats ps = flats (ps.take y ++ (ch ++ ps.drop (y + sz))) := congrArg flats esplit
                rw [e1, hps2, flats_append, flats_append, flats_append, flats_append]
                congr 2
                show (Tr.node row ch).flat ++ [] = _
                rw [List.append_nil, Tr.flat]
              refine sx_setN (ds := encs ps2) ((ev_catX (ev_catX (xs := encs (ps.take y)) (ys := [(Tr.node row ch).enc]) ((ev_slL (ev_varL rfl) eo_none (eo_some (ev_var rfl))).eqN ?_).X (ev_lst (ds := [(Tr.node row ch).enc]) (ea_d (ev_tup (ds := [.str (if row then "row" else "any"), .tup (encs ch)]) (ea_d (ev_var rfl) (ea_d (ev_tupleL (ev_varL rfl)) ea_nil)) (by show 2 ≤ 1000; decide)) ea_nil) (by show 1 ≤ 1000; decide)).X ?_).X ((ev_slL (ev_varL rfl) (eo_some (eat _ rfl rfl)) eo_none).eqN (d' := encs (ps.drop (y + sz))) ?_).X ?_).eqN ?_) fun p2 => ⟨p2, ps2, _, _, rfl, hf2, by rw [hfl2]; exact hp⟩
              · rw [cut_to, encs_eq, encs_eq, List.map_take]
              · rw [encs_eq, List.length_map, List.length_take]; show _ + 1 ≤ _; omega
              · rw [cut_from, encs_eq, encs_eq, List.map_drop]
              · rw [List.length_append, encs_eq, encs_eq, List.length_map, List.length_map, List.length_take, List.length_drop]; show _ + 1 + _ ≤ _; omega
              · rw [hps2, encs_eq, encs_eq, encs_eq, List.map_append, List.map_append, List.append_assoc]; rfl
          · rintro ρ ⟨p, ps, a7, a8, rfl, hf, hp⟩
            refine sx_setD (ev_ii (g := fun i j => i + j) (ev_ii (g := fun i j => i + j) (ev_iiC (C := CDivN) (g := fun i j => i.fdiv j) (ev_var rfl) ev_int ⟨by decide, by decide⟩) (ev_iiC (C := CMul) (g := fun i j => i * j) ev_int (ev_var rfl) (.inl ⟨by decide, by decide⟩))) ev_int) ?_
            exact ⟨p, ps, _, _, _, _, _, _, rfl, hf, hp⟩
    · rintro ρ ⟨p, ps, z, a4, a5, a6, a7, a8, rfl, hf, hp⟩
      exact ⟨p, ps, _, _, _, _, _, _, rfl, hf, hp⟩
  · rintro ρ ⟨p, ps, a3, a4, a5, a6, a7, a8, rfl, hf, hp⟩
    have el : (encs ps).length = ps.length := by rw [encs_eq, List.length_map]
    refine sx_seq (Sx.imp (M := fun ρ => ∃ (p : Addr) (t : Tr) (rest : List D) (a3 a4 a5 a6 a7 a8 : A), ρ = [.d (.int c), .d (di n), .l p (t.enc :: rest), a3, a4, a5, a6, a7, a8] ∧ t.Ok n) ?_ ?_)
    · refine sx_if (et_test (ev_ib (g := fun i j => decide (j < i)) (ev_lenL (ev_varL rfl)) ev_int)) (fun hb => ?_) fun hb => sx_next ?_
      · have hb := of_decide_eq_true hb
        rw [el] at hb
        refine sx_setN (ds := [(Tr.node false ps).enc]) (ev_lst (ds := [(Tr.node false ps).enc]) (ea_d (ev_tup (ds := [.str (if false then "row" else "any"), .tup (encs ps)]) (ea_d ev_str (ea_d (ev_tupleL (ev_varL rfl)) ea_nil)) (by show 2 ≤ 1000; decide)) ea_nil) (by show 1 ≤ 1000; decide)) fun p2 => ⟨p2, .node false ps, [], _, _, _, _, _, _, rfl, fm_node.mpr ⟨by omega, (fun h => nomatch h), hf⟩, ?_, hn1, hn9⟩
        rw [Tr.flat]
        exact hp
      · have hb := of_decide_eq_false hb
        rw [el] at hb
        cases ps with
        | nil =>
          have := hp.length_eq
          rw [List.length_range] at this
          simp [flats] at this
          omega
        | cons t r =>
          cases r with
          | cons q r =>
            simp at hb
            omega
          | nil =>
            refine ⟨p, t, [], _, _, _, _, _, _, rfl, fms_mem hf List.mem_cons_self, ?_, hn1, hn9⟩
            have : flats [t] = t.flat := by simp [flats]
            rw [this] at hp
            exact hp
    · rintro ρ ⟨p, t, rest, a3, a4, a5, a6, a7, a8, rfl, ht⟩
      exact sx_retD (ev_ixL (ev_varL rfl) ev_int atI_0) fun v H' rv => ⟨_, ⟨t, rfl, ht⟩, rv⟩
end
end Wk
/-! ## G4 -/
set_option Elab.async false
set_option linter.all false
set_option autoImplicit false
set_option maxRecDepth 100000
set_option maxHeartbeats 4000000
namespace Wk
open PySem PySem.Spec L2
section
variable {P : Program} {w : World} {K : PySem.W.Frag} {mg : Str → Option Value} {base : Heap} {f : Addr} {fd : FuncData} {k : Nat}
theorem shuf_node {row : Bool} {ps : List Tr} {g : Nat → Tr} {s : List Nat} (hs : SeqOk row ps.length s) (hf : (Tr.node row ps).Fm) (h : ∀ j (hj : j < ps.length), Shuf ps[j] (g j) ∧ (g j).Fm) :
    Shuf (.node row ps) (.node row (s.map g)) ∧ (Tr.node row (s.map g)).Fm := by
  have hp := hs.perm
  have hl : s.length = ps.length := by rw [hp.length_eq, List.length_range]
  have lt : ∀ i ∈ s, i < ps.length := fun i hi => List.mem_range.mp (hp.subset hi)
  have hf := fm_node.mp hf
  refine ⟨⟨told_shuffle hs fun j hj => (h j hj).1.told, ?_, ?_, rfl⟩, fm_node.mpr ⟨by rw [List.length_map, hl]; exact hf.1, by rw [List.length_map, hl]; exact hf.2.1, fms_of fun q hq => ?_⟩⟩
  · rw [dep_node, dep_node]
    refine Nat.succ_le_succ (deps_le_of fun q hq => ?_)
    obtain ⟨i, hi, rfl⟩ := List.mem_map.mp hq
    exact Nat.le_trans (h i (lt i hi)).1.dep (deps_mem (List.getElem_mem _))
  · rw [Tr.flat, Tr.flat]
    exact flats_len_shuffle hp fun j hj => (h j hj).1.len
  · obtain ⟨i, hi, rfl⟩ := List.mem_map.mp hq
    exact (h i (lt i hi)).2
theorem row_eqS {row : Bool} : decide ((if row then ("row" : Str) else "any") = "any") = !row := by cases row <;> decide +kernel
theorem row_eqR {row : Bool} : decide ((if row then ("row" : Str) else "any") = "row") = row := by cases row <;> decide +kernel
theorem ok__law_shuffled {m : Nat} (T : Tp K mg) (F : Fun K "_law_shuffled" "_law_shuffled" s__law_shuffled f fd) (C1 : Cal P w K mg base k "_law_rich" ["_law_cell_here"] pre_rich) (C2 : Cal P w K mg base k "_law_shuffled" ["_law_tree_here", "_law_cell_here"] (pre_shuffled m)) :
    FnOk P w K mg base CX0 (k + 1) f fd ["_law_tree_here", "_law_cell_here"] (spec K (pre_shuffled (m + 1))) := by
  refine okOf F sc__law_shuffled (by decide) (by rintro _ _ ⟨_, _, rfl, _⟩; rfl) fun cdv Aa outer s H0 E hr => ⟨_, d__law_shuffled T (C__law_rich := C1) (C__law_shuffled := C2) hr, ?_⟩
  rintro _ _ pf ⟨t, c, rfl, hm, hl, hfm, rfl⟩
  show Sx K H0 (t__law_shuffled K m) [.d t.enc, .d (.int c), .u, .u, .u, .u] _
  refine sx_seq (sx_if (et_B (ev_isi (ev_var rfl) isi_int)) (fun hb => ?_) fun hb => ?_)
  · exact sx_retD (ev_var rfl) fun v H' rv => ⟨_, ⟨t, rfl, ⟨fun _ h => h, Nat.le_refl _, rfl, rfl⟩, hfm⟩, rv⟩
  · cases t with
    | leaf i => cases hb
    | node row ps =>
      refine sx_next ?_
      have hfn := fm_node.mp hfm
      rw [Tr.flat] at hl
      have hpl : ps.length ≤ 100 := Nat.le_trans (flats_pos ps hfn.2.2) hl
      have el : (encs ps).length = ps.length := by rw [encs_eq, List.length_map]
      refine sx_seq (sx_setN (ev_lst (ds := []) ea_nil (by decide)) fun p => ?_)
      refine sx_seq (sx_setI (ev_callDs (ea_d (ev_var rfl) ea_nil) ⟨c, rfl, rfl⟩) fun z => ?_)
      refine sx_seq (sx_for (vs := [4]) (ej_tup (ev_ixT (ds := [.str (if row then "row" else "any"), .tup (encs ps)]) (ev_var rfl) ev_int atI_1)) (fun i ρ => ∃ (z : Int) (s : List Nat) (g : Nat → Tr) (a4 a5 : A), ρ = [.d (Tr.node row ps).enc, .d (.int c), .l p ((s.map g).map Tr.enc), .d (.int z), a4, a5] ∧
        s.Perm (List.range i) ∧ (row = true → s = List.range i) ∧ ∀ j (hj : j < ps.length), j < i → Shuf ps[j] (g j) ∧ (g j).Fm) ⟨z, [], fun _ => .leaf 0, _, _, rfl, List.Perm.refl _, fun _ => rfl, fun j _ h => absurd h (Nat.not_lt_zero j)⟩ ?_ ?_)
      · rintro i d ρ hd ⟨z, s, g, a4, a5, rfl, hp, hrow, hg⟩
        rw [encs_eq, List.getElem?_map] at hd
        obtain ⟨q, hq, rfl⟩ := Option.map_eq_some_iff.mp hd
        obtain ⟨hi, hqe⟩ := List.getElem?_eq_some_iff.mp hq
        have hqm : q ∈ ps := List.mem_of_getElem? hq
        have hsl : s.length = i := by rw [hp.length_eq, List.length_range]
        refine tg_name ?_ (by decide)
        refine sx_seq (sx_setDs (S := fun d => ∃ t' : Tr, d = t'.enc ∧ Shuf q t' ∧ t'.Fm) (ev_callDs (ea_d (ev_var rfl) (ea_d (ev_ii (g := fun i j => i + j) (ev_iiC (C := CDivN) (g := fun i j => i.fdiv j) (ev_var rfl) ev_int ⟨by decide, by decide⟩) ev_int) ea_nil)) ⟨q, _, rfl, ?_, Nat.le_trans (part_len hqm) hl, fms_mem hfn.2.2 hqm, rfl⟩) fun d hd => ?_)
        · exact dep_part hm hqm
        · obtain ⟨t', rfl, hsh, ht'⟩ := hd
          obtain ⟨g2, hg2⟩ : ∃ g2 : Nat → Tr, g2 = fun j => if j = i then t' else g j := ⟨_, rfl⟩
          have egi : g2 i = t' := by rw [hg2]; simp
          have egs : s.map g2 = s.map g := List.map_congr_left fun j hj => by
            have := List.mem_range.mp (hp.subset hj)
            rw [hg2]
            show (if j = i then t' else g j) = g j
            rw [if_neg (by omega)]
          have hall : ∀ j (hj : j < ps.length), j < i + 1 → Shuf ps[j] (g2 j) ∧ (g2 j).Fm := fun j hj hji => by
            by_cases e : j = i
            · subst e
              rw [egi, hqe]
              exact ⟨hsh, ht'⟩
            · have : g2 j = g j := by rw [hg2]; simp [e]
              rw [this]
              exact hg j hj (by omega)
          refine sx_seq (Sx.imp (M := fun ρ => ∃ (s : List Nat), ρ = [.d (Tr.node row ps).enc, .d (.int c), .l p ((s.map g2).map Tr.enc), .d (.int z), .d q.enc, .d t'.enc] ∧ s.Perm (List.range (i + 1)) ∧ (row = true → s = List.range (i + 1))) ?_ ?_)
          · refine sx_if (et_test (ev_eqS (ev_ixT (ds := [.str (if row then "row" else "any"), .tup (encs ps)]) (ev_var rfl) ev_int atI_0) ev_str)) (fun hb => ?_) fun hb => ?_
            · rw [row_eqS] at hb
              have hrf : row = false := by simpa using hb
              subst hrf
              have hdl : ((s.map g).map Tr.enc).length = i := by rw [List.length_map, List.length_map, hsl]
              obtain ⟨y, hy, hyl⟩ := fmod_nat (c := z) (m := i + 1) (by omega)
              refine sx_ins (z := y) (p := p) rfl ((ev_iiC (C := fun _ j => j ≠ 0) (g := fun i j => i.fmod j) (i := z) (j := (((s.map g).map Tr.enc).length : Nat) + 1) (ev_intI (ev_var rfl)) (ev_ii (g := fun i j => i + j) (ev_lenL (ev_varL rfl)) ev_int) (by omega)).eqD ?_) (ev_var rfl) (by omega) (by omega) ?_
              · rw [hdl]
                have : z.fmod ((i : Int) + 1) = (y : Int) := hy
                rw [this]; rfl
              · refine ⟨s.take y ++ [i] ++ s.drop y, ?_, put_perm hp, fun h => nomatch h⟩
                have : ((s.take y ++ [i] ++ s.drop y).map g2).map Tr.enc = ((s.map g).map Tr.enc).take y ++ [t'.enc] ++ ((s.map g).map Tr.enc).drop y := by
                  rw [← egs, List.map_append, List.map_append, List.map_append, List.map_append, List.map_take, List.map_take, List.map_drop, List.map_drop]
                  show _ ++ [(g2 i).enc] ++ _ = _
                  rw [egi]
                rw [this]; rfl
            · rw [row_eqS] at hb
              have hrt : row = true := by simpa using hb
              subst hrt
              refine sx_appD (d := t'.enc) (p := p) rfl (ev_var rfl) (by rw [List.length_map, List.length_map]; omega) ⟨s ++ [i], ?_, ?_, fun _ => ?_⟩
              · have : ((s ++ [i]).map g2).map Tr.enc = (s.map g).map Tr.enc ++ [t'.enc] := by
                  rw [List.map_append, List.map_append, egs]
                  show _ ++ [(g2 i).enc] = _
                  rw [egi]
                rw [this]; rfl
              · rw [hrow rfl, ← List.range_succ]
              · rw [hrow rfl, ← List.range_succ]
          · rintro ρ ⟨s, rfl, hp2, hrow2⟩
            refine sx_setD (ev_ii (g := fun i j => i + j) (ev_iiC (C := CDivN) (g := fun i j => i.fdiv j) (ev_var rfl) ev_int ⟨by decide, by decide⟩) ev_int) ?_
            exact ⟨_, s, g2, _, _, rfl, hp2, hrow2, hall⟩
      · rintro ρ ⟨z, s, g, a4, a5, rfl, hp, hrow, hg⟩
        rw [el] at hp hrow hg
        have hg : ∀ j (hj : j < ps.length), Shuf ps[j] (g j) ∧ (g j).Fm := fun j hj => hg j hj hj
        refine sx_seq (Sx.imp (M := fun ρ => ∃ (p : Addr) (s : List Nat), ρ = [.d (Tr.node row ps).enc, .d (.int c), .l p ((s.map g).map Tr.enc), .d (.int z), a4, a5] ∧ SeqOk row ps.length s) ?_ ?_)
        · refine sx_if (et_and (et_test (ev_eqS (ev_ixT (ds := [.str (if row then "row" else "any"), .tup (encs ps)]) (ev_var rfl) ev_int atI_0) ev_str)) fun _ => et_test (ev_eqI (ev_iiC (C := fun _ j => j ≠ 0) (g := fun i j => i.fmod j) (ev_intI (ev_var rfl)) ev_int (by decide)) ev_int)) (fun hb => ?_) fun hb => sx_next ?_
          · rw [Bool.and_eq_true, row_eqR] at hb
            have hrt := hb.1
            subst hrt
            refine sx_setN (ev_rev (ev_varL rfl)) fun p2 => ⟨p2, s.reverse, ?_, ?_⟩
            · rw [List.map_reverse, List.map_reverse]; rfl
            · show _ = _ ∨ _ = _
              rw [hrow rfl]
              exact .inr rfl
          · refine ⟨p, s, rfl, ?_⟩
            cases row with
            | false => exact hp
            | true => exact .inl (hrow rfl)
        · rintro ρ ⟨p, s, rfl, hs⟩
          obtain ⟨h1, h2⟩ := shuf_node hs hfm hg
          refine sx_retD (d := (Tr.node row (s.map g)).enc) ((ev_tup (ds := [.str (if row then "row" else "any"), .tup ((s.map g).map Tr.enc)]) (ea_d (ev_ixT (ds := [.str (if row then "row" else "any"), .tup (encs ps)]) (ev_var rfl) ev_int atI_0) (ea_d (ev_tupleL (ev_varL rfl)) ea_nil)) (by show 2 ≤ 1000; decide)).eqD ?_) fun v H' rv => ⟨_, ⟨_, rfl, h1, h2⟩, rv⟩
          rw [Tr.enc, encs_eq]
theorem ok__law_drawn_order {m : Nat} (hm9 : m + 1 ≤ 9) (T : Tp K mg) (F : Fun K "_law_drawn_order" "_law_drawn_order" s__law_drawn_order f fd) (C1 : Cal P w K mg base k "_law_shuffled" ["_law_tree_here", "_law_cell_here"] (pre_shuffled 9)) (C2 : Cal P w K mg base k "_law_drawn_order" ["_law_tree_here", "_law_cell_here"] (pre_drawn_order m)) :
    FnOk P w K mg base CX0 (k + 1) f fd ["_law_tree_here", "_law_cell_here"] (spec K (pre_drawn_order (m + 1))) := by
  refine okOf F sc__law_drawn_order (by decide) (by rintro _ _ ⟨_, _, rfl, _⟩; rfl) fun cdv Aa outer s H0 E hr => ⟨_, d__law_drawn_order T (C__law_shuffled := C1) (C__law_drawn_order := C2) hr, ?_⟩
  rintro _ _ pf ⟨t, c, rfl, hm, hl, hfm, rfl⟩
  show Sx K H0 (t__law_drawn_order K 9 m) [.d t.enc, .d (.int c), .u, .u] _
  refine sx_seq (sx_if (et_B (ev_isi (ev_var rfl) isi_int)) (fun hb => ?_) fun hb => ?_)
  · cases t with
    | node row ps => cases hb
    | leaf i => exact sx_retD (ev_tupS (ds := [di i]) (ea_d (ev_var rfl) ea_nil) (by show 1 ≤ 1000; decide)) fun v H' rv => ⟨_, ⟨[i], rfl, told_leaf_iff.mpr rfl⟩, rv⟩
  · cases t with
    | leaf i => cases hb
    | node row ps =>
      refine sx_next ?_
      refine sx_seq (sx_setD (ev_tupS (ds := []) ea_nil (by decide)) ?_)
      refine sx_seq (sx_forS (S := fun ds => ∃ (row' : Bool) (qs : List Tr), ds = encs qs ∧ Shuf (.node row ps) (.node row' qs) ∧ (Tr.node row' qs).Fm) (ej_tups (S := fun d => ∃ (row' : Bool) (qs : List Tr), d = .tup (encs qs) ∧ Shuf (.node row ps) (.node row' qs) ∧ (Tr.node row' qs).Fm) (ev_op1s (S := fun d => ∃ t' : Tr, d = t'.enc ∧ Shuf (.node row ps) t' ∧ t'.Fm) (ev_callDs (ea_d (ev_var rfl) (ea_d (ev_var rfl) ea_nil)) ⟨.node row ps, c, rfl, by omega, hl, hfm, rfl⟩) fun d ⟨t', e1, hsh, hf'⟩ ta' ht => ?_) ?_) fun ds hds wi hwi => ?_)
      · subst e1
        cases t' with
        | leaf i => exact absurd (show true = false from hsh.kind) (by decide)
        | node row' qs => exact (ev_ixT (ds := [.str (if row' then "row" else "any"), .tup (encs qs)]) ht ev_int atI_1).any ⟨row', qs, rfl, hsh, hf'⟩
      · rintro d ⟨row', qs, rfl, h⟩
        exact ⟨_, rfl, row', qs, rfl, h⟩
      · obtain ⟨row', qs, rfl, hsh, hf'⟩ := hds
        have hq' := fm_node.mp hf'
        have hfl : (flats qs).length ≤ 100 := by
          have := hsh.len
          rw [Tr.flat] at this
          omega
        have el : (encs qs).length = qs.length := by rw [encs_eq, List.length_map]
        refine sx_for (vs := [3]) hwi (fun i ρ => ∃ (os : List (List Nat)) (a : A), ρ = [.d (Tr.node row ps).enc, .d (.int c), .d (.ntup (dis os.flatten)), a] ∧ Tolds (qs.take i) os) ⟨[], _, rfl, by rw [List.take_zero, Tolds]⟩ ?_ ?_
        · rintro i d ρ hd ⟨os, a, rfl, hos⟩
          rw [encs_eq, List.getElem?_map] at hd
          obtain ⟨q, hq, rfl⟩ := Option.map_eq_some_iff.mp hd
          have hqm : q ∈ qs := List.mem_of_getElem? hq
          have hdq : q.dep ≤ m := by
            have h1 := hsh.dep
            rw [dep_node] at h1
            have h2 := deps_mem hqm
            omega
          have hol : os.flatten.length + q.flat.length ≤ 100 := by
            rw [(tolds_perm _ hos).length_eq]
            have h1 := flats_take_succ hq
            have h2 : (flats (qs.take (i + 1))).length ≤ (flats qs).length := flats_take_le _
            rw [h1, List.length_append] at h2
            omega
          refine tg_name ?_ (by decide)
          refine sx_setDs (S := fun d => ∃ o : List Nat, d = .ntup (dis (os.flatten ++ o)) ∧ Told q o) (ev_op2s (P1 := PD (.ntup (dis os.flatten))) (S := fun d => ∃ o : List Nat, d = .ntup (dis o) ∧ Told q o) (ev_var rfl) (ev_callDs (ea_d (ev_var rfl) (ea_d (ev_ii (g := fun i j => i + j) (ev_iiC (C := CDivN) (g := fun i j => i.fdiv j) (ev_var rfl) ev_int ⟨by decide, by decide⟩) ev_int) ea_nil)) ⟨q, _, rfl, hdq, Nat.le_trans (part_len hqm) hfl, fms_mem hq'.2.2 hqm, rfl⟩) fun d hd ta' tb' h1 h2 => ?_) fun d hd => ?_
          · obtain ⟨o, rfl, ho⟩ := hd
            refine ((ev_catS h1 h2 ?_).eqD ?_).any ⟨o, rfl, ho⟩
            · rw [dis_len, dis_len, (told_perm q ho).length_eq]
              omega
            · rw [dis_append]
          · obtain ⟨o, rfl, ho⟩ := hd
            refine ⟨os ++ [o], _, by rw [List.flatten_append]; simp; rfl, ?_⟩
            rw [List.take_add_one, hq]
            exact tolds_snoc hos ho
        · rintro ρ ⟨os, a, rfl, hos⟩
          rw [el, List.take_length] at hos
          exact sx_retD (ev_var rfl) fun v H' rv => ⟨_, ⟨os.flatten, rfl, hsh.told _ (told_flat hos)⟩, rv⟩
end
end Wk
/-! ## M8 -/
set_option linter.all false
set_option autoImplicit false
/-! Reading an order part by part. -/
namespace Wk
/-! ### sorting -/
def sIns (x : Nat) : List Nat → List Nat
  | [] => [x]
  | y :: ys => if x ≤ y then x :: y :: ys else y :: sIns x ys
def srt : List Nat → List Nat
  | [] => []
  | x :: xs => sIns x (srt xs)
theorem sIns_perm (x : Nat) : ∀ l : List Nat, (sIns x l).Perm (x :: l)
  | [] => List.Perm.refl _
  | y :: ys => by
    rw [sIns]
    split
    · exact List.Perm.refl _
    · exact ((sIns_perm x ys).cons y).trans (List.Perm.swap x y ys)
theorem srt_perm : ∀ l : List Nat, (srt l).Perm l
  | [] => List.Perm.refl _
  | x :: xs => (sIns_perm x (srt xs)).trans ((srt_perm xs).cons x)
theorem sIns_sorted (x : Nat) : ∀ {l : List Nat}, l.Pairwise (· ≤ ·) → (sIns x l).Pairwise (· ≤ ·)
  | [], _ => by simp [sIns]
  | y :: ys, h => by
    rw [List.pairwise_cons] at h
    rw [sIns]
    split
    · rename_i hxy
      rw [List.pairwise_cons, List.pairwise_cons]
      refine ⟨fun z hz => ?_, h.1, h.2⟩
      rcases List.mem_cons.mp hz with rfl | hz
      · exact hxy
      · exact Nat.le_trans hxy (h.1 z hz)
    · rename_i hxy
      rw [List.pairwise_cons]
      refine ⟨fun z hz => ?_, sIns_sorted x h.2⟩
      rcases List.mem_cons.mp ((sIns_perm x ys).subset hz) with rfl | hz
      · omega
      · exact h.1 z hz
theorem srt_sorted : ∀ l : List Nat, (srt l).Pairwise (· ≤ ·)
  | [] => List.Pairwise.nil
  | x :: xs => sIns_sorted x (srt_sorted xs)
theorem sorted_eq : ∀ {a b : List Nat}, a.Perm b → a.Pairwise (· ≤ ·) → b.Pairwise (· ≤ ·) → a = b
  | [], b, h, _, _ => h.symm.eq_nil.symm
  | x :: xs, b, h, ha, hb => by
    cases b with
    | nil => exact h.eq_nil
    | cons y ys =>
      rw [List.pairwise_cons] at ha hb
      have hxy : x = y := by
        have h1 : x ≤ y := by
          rcases List.mem_cons.mp (h.symm.subset List.mem_cons_self) with e | e
          · omega
          · exact ha.1 y e
        have h2 : y ≤ x := by
          rcases List.mem_cons.mp (h.subset List.mem_cons_self) with e | e
          · omega
          · exact hb.1 x e
        omega
      subst hxy
      rw [sorted_eq (List.Perm.cons_inv h) ha.2 hb.2]
theorem srt_iff {a b : List Nat} : srt a = srt b ↔ a.Perm b :=
  ⟨fun h => ((srt_perm a).symm.trans (by rw [h])).trans (srt_perm b), fun h => sorted_eq (((srt_perm a).trans h).trans (srt_perm b).symm) (srt_sorted a) (srt_sorted b)⟩
theorem srt_rng {s : List Nat} {n : Nat} (h : s.Perm (List.range n)) : srt s = List.range n :=
  sorted_eq ((srt_perm s).trans h) (srt_sorted s) (List.pairwise_lt_range.imp fun {a b} h => Nat.le_of_lt h)

/-! ### reading -/
theorem told_split {row : Bool} {ps : List Tr} {o : List Nat} (h : Told (.node row ps) o) : ∃ (s : List Nat) (g : Nat → List Nat), SeqOk row ps.length s ∧ (∀ j (hj : j < ps.length), Told ps[j] (g j)) ∧ o = (s.map g).flatten := by
  obtain ⟨os, s, h1, h2, rfl⟩ := told_node_iff.mp h
  exact ⟨s, fun j => os.getD j [], h2, fun j hj => tolds_get hj h1, rfl⟩
def Comp (row : Bool) (ps : List Tr) (o : List Nat) (st : Nat) (seq rest : List Nat) : Prop :=
  ∀ (s : List Nat) (g : Nat → List Nat), SeqOk row ps.length s → (∀ j (hj : j < ps.length), Told ps[j] (g j)) → o = (s.map g).flatten → seq = s.take st ∧ rest = ((s.drop st).map g).flatten
/-- part k stands at the front of what is left -/
def Hit (ps : List Tr) (seq rest : List Nat) (k : Nat) (q : Tr) : Prop := ps[k]? = some q ∧ k ∉ seq ∧ (rest.take q.flat.length).Perm q.flat
section
variable {row : Bool} {ps : List Tr} {o seq rest : List Nat} {st : Nat}
theorem comp_zero : Comp row ps o 0 [] o := fun s g _ _ h => ⟨by simp, by simpa using h⟩
theorem seq_drop {s : List Nat} {st : Nat} (h : st < s.length) : s.drop st = s[st] :: s.drop (st + 1) := by
  rw [List.drop_eq_getElem_cons h]
theorem hit_one (nd : (flats ps).Nodup) (hf : Fms ps) {s : List Nat} {g : Nat → List Nat} (hs : s.Perm (List.range ps.length)) (hg : ∀ j (hj : j < ps.length), Told ps[j] (g j)) (hst : st < s.length) (hr : rest = ((s.drop st).map g).flatten) :
    ∃ (hi : s[st] < ps.length), (rest.take ps[s[st]].flat.length = g s[st]) ∧ rest.drop ps[s[st]].flat.length = ((s.drop (st + 1)).map g).flatten ∧ (g s[st]).Perm ps[s[st]].flat ∧ ∀ k q, Hit ps seq rest k q → k = s[st] := by
  have hi : s[st] < ps.length := List.mem_range.mp (hs.subset (List.getElem_mem hst))
  have hgp := told_perm _ (hg _ hi)
  have er : rest = g s[st] ++ ((s.drop (st + 1)).map g).flatten := by rw [hr, seq_drop hst, List.map_cons, List.flatten_cons]
  refine ⟨hi, ?_, ?_, hgp, fun k q ⟨h1, h2, h3⟩ => ?_⟩
  · rw [er, ← hgp.length_eq, List.take_left]
  · rw [er, ← hgp.length_eq, List.drop_left]
  · obtain ⟨hk, rfl⟩ := List.getElem?_eq_some_iff.mp h1
    have p1 := flat_pos _ (fms_mem hf (List.getElem_mem hk))
    have p2 := flat_pos _ (fms_mem hf (List.getElem_mem hi))
    have p3 : 0 < (g s[st]).length := by rw [hgp.length_eq]; omega
    obtain ⟨x, l, hx⟩ : ∃ x l, g s[st] = x :: l := by
      cases e : g s[st] with
      | nil => rw [e] at p3; simp at p3
      | cons x l => exact ⟨x, l, rfl⟩
    have m1 : x ∈ ps[s[st]].flat := hgp.subset (by rw [hx]; exact List.mem_cons_self)
    have m2 : x ∈ ps[k].flat := h3.subset (by
      rw [er, hx]
      obtain ⟨z, hz⟩ : ∃ z, ps[k].flat.length = z + 1 := ⟨ps[k].flat.length - 1, by omega⟩
      rw [hz, List.cons_append, List.take_succ_cons]
      exact List.mem_cons_self)
    exact part_one hk hi nd m2 m1
theorem comp_hit (nd : (flats ps).Nodup) (hf : Fms ps) (h : Comp row ps o st seq rest) (hst : st < ps.length) {k : Nat} {q : Tr} (hk : Hit ps seq rest k q) : Comp row ps o (st + 1) (seq ++ [k]) (rest.drop q.flat.length) := fun s g h1 h2 h3 => by
  obtain ⟨e1, e2⟩ := h s g h1 h2 h3
  have hp := h1.perm
  have hl : s.length = ps.length := by rw [hp.length_eq, List.length_range]
  have hst2 : st < s.length := by rw [hl]; exact hst
  obtain ⟨hi, a1, a2, _, a3⟩ := hit_one (seq := seq) nd hf hp h2 hst2 e2
  have ek := a3 k q hk
  subst ek
  have eq : q = ps[s[st]] := by
    have := hk.1
    rw [List.getElem?_eq_getElem hi] at this
    injection this with this
    exact this.symm
  rw [eq]
  refine ⟨?_, a2⟩
  rw [e1, List.take_add_one, List.getElem?_eq_getElem hst2]; rfl
theorem not_mem_take {s : List Nat} (nd : s.Nodup) {st : Nat} (h : st < s.length) : s[st] ∉ s.take st := fun z => by
  obtain ⟨i, hi, e⟩ := List.mem_iff_getElem.mp z
  rw [List.getElem_take] at e
  rw [List.length_take] at hi
  have := (List.getElem_inj nd).mp e
  omega
theorem comp_miss (nd : (flats ps).Nodup) (hf : Fms ps) (h : Comp row ps o st seq rest) (hst : st < ps.length) (hno : ∀ k q, ¬ Hit ps seq rest k q) {seq' rest' : List Nat} : Comp row ps o (st + 1) seq' rest' := fun s g h1 h2 h3 => by
  obtain ⟨e1, e2⟩ := h s g h1 h2 h3
  have hp := h1.perm
  have hl : s.length = ps.length := by rw [hp.length_eq, List.length_range]
  have hst2 : st < s.length := by rw [hl]; exact hst
  obtain ⟨hi, a1, a2, a4, a3⟩ := hit_one (seq := seq) nd hf hp h2 hst2 e2
  refine absurd ⟨List.getElem?_eq_getElem hi, ?_, ?_⟩ (hno s[st] ps[s[st]])
  · rw [e1]
    exact not_mem_take (hp.symm.nodup List.nodup_range) hst2
  · rw [a1]; exact a4
theorem comp_false (nd : (flats ps).Nodup) (hf : Fms ps) (h : Comp row ps o st seq rest) (hst : st < ps.length) {k : Nat} {q : Tr} (hk : Hit ps seq rest k q) (hn : ¬ Told q (rest.take q.flat.length)) : ¬ Told (.node row ps) o := fun ht => by
  obtain ⟨s, g, h1, h2, h3⟩ := told_split ht
  obtain ⟨e1, e2⟩ := h s g h1 h2 h3
  have hp := h1.perm
  have hl : s.length = ps.length := by rw [hp.length_eq, List.length_range]
  have hst2 : st < s.length := by rw [hl]; exact hst
  obtain ⟨hi, a1, a2, a4, a3⟩ := hit_one (seq := seq) nd hf hp h2 hst2 e2
  have ek := a3 k q hk
  subst ek
  have eq : q = ps[s[st]] := by
    have := hk.1
    rw [List.getElem?_eq_getElem hi] at this
    injection this with this
    exact this.symm
  rw [eq, a1] at hn
  exact hn (h2 _ hi)
theorem comp_end (h : Comp row ps o ps.length seq rest) (ht : Told (.node row ps) o) : SeqOk row ps.length seq ∧ rest = [] := by
  obtain ⟨s, g, h1, h2, h3⟩ := told_split ht
  obtain ⟨e1, e2⟩ := h s g h1 h2 h3
  have hl : s.length = ps.length := by rw [h1.perm.length_eq, List.length_range]
  rw [← hl, List.take_length] at e1
  rw [← hl, List.drop_length] at e2
  rw [e1]
  exact ⟨h1, by simpa using e2⟩
end
end Wk
/-! ## G5 -/
set_option Elab.async false
set_option linter.all false
set_option autoImplicit false
set_option maxRecDepth 100000
set_option maxHeartbeats 4000000
namespace Wk
open PySem PySem.Spec L2
section
variable {P : Program} {w : World} {K : PySem.W.Frag} {mg : Str → Option Value} {base : Heap} {f : Addr} {fd : FuncData} {k : Nat}
theorem toldB_of {t : Tr} {o : List Nat} {b : Bool} (h : b = true ↔ Told t o) : b = toldB t o := by
  unfold toldB
  cases b with
  | true => exact (@decide_eq_true _ (Classical.propDecidable _) (h.mp rfl)).symm
  | false => exact (@decide_eq_false _ (Classical.propDecidable _) (fun z => by have := h.mpr z; cases this)).symm
theorem toldB_iff {t : Tr} {o : List Nat} : toldB t o = true ↔ Told t o := by
  unfold toldB
  exact @decide_eq_true_iff _ (Classical.propDecidable _)
theorem dint_inj {a b : List Nat} : a.map dint = b.map dint ↔ a = b := List.map_inj_right fun x y e => by unfold dint at e; omega
theorem srt_dint {a : List Nat} : ((srt a).map dint).Pairwise (· ≤ ·) := by
  rw [List.pairwise_map]
  exact (srt_sorted a).imp fun {a b} h => by unfold dint; omega
theorem ok__law_told {m : Nat} (T : Tp K mg) (F : Fun K "_law_told" "_law_told" s__law_told f fd) (C1 : Cal P w K mg base k "_law_things" ["_law_tree_here"] (pre_things 9)) (C2 : Cal P w K mg base k "_law_told" ["_law_tree_here", "_law_order_here"] (pre_told m)) :
    FnOk P w K mg base CX0 (k + 1) f fd ["_law_tree_here", "_law_order_here"] (spec K (pre_told (m + 1))) := by
  refine okOf F sc__law_told (by decide) (by rintro _ _ ⟨_, _, rfl, _⟩; rfl) fun cdv Aa outer s H0 E hr => ⟨_, d__law_told T (C__law_things := C1) (C__law_told := C2) hr, ?_⟩
  rintro _ _ pf ⟨t, o, rfl, hm, h9, hfm, hnd, hl, hpo, rfl⟩
  show Sx K H0 (t__law_told K 9 m) [.d t.enc, .d (.tup (dis o)), .u, .u, .u, .u, .u] _
  refine sx_seq (sx_if (et_B (ev_isi (ev_var rfl) isi_int)) (fun hb => ?_) fun hb => ?_)
  · cases t with
    | node row ps => cases hb
    | leaf i =>
      refine sx_retD ((ev_eqTI (ns := o.map dint) (ms := [i].map dint) (ev_tupleT ((ev_var rfl).eqD (by rw [← dis_eq]))) (ev_tup (ds := [di i]) (ea_d (ev_var rfl) ea_nil) (by show 1 ≤ 1000; decide))).eqD ?_) fun v H' r => r
      congr 1
      refine toldB_of ?_
      rw [decide_eq_true_eq, dint_inj, told_leaf_iff]
  · cases t with
    | leaf i => cases hb
    | node row ps =>
      refine sx_next ?_
      have hfn := fm_node.mp hfm
      rw [Tr.flat] at hl hnd hpo
      have hpl : ps.length ≤ 9 := Nat.le_trans (flats_pos ps hfn.2.2) hl
      have el : (encs ps).length = ps.length := by rw [encs_eq, List.length_map]
      have hol : o.length ≤ 9 := by rw [hpo.length_eq]; exact hl
      have hdp : ∀ q ∈ ps, q.dep ≤ 9 ∧ q.dep ≤ m := fun q hq => ⟨by
        have := deps_mem hq
        rw [dep_node] at h9
        omega, dep_part hm hq⟩
      refine sx_seq (sx_setD (d := .tup (dis o)) (ev_tupleT (ev_var rfl)) ?_)
      refine sx_seq (sx_setN (ev_lst (ds := []) ea_nil (by decide)) fun p => ?_)
      have e1 : ∀ ρ : Ab, ρ[0]? = some (.d (Tr.node row ps).enc) → EvP K H0 (tOp (rIxT K) (tVar 0) (tC (.int 1))) ρ (PD (.tup (encs ps))) := fun ρ h => ev_ixT (ds := [.str (if row then "row" else "any"), .tup (encs ps)]) (ev_var h) ev_int atI_1
      have e0 : ∀ ρ : Ab, ρ[0]? = some (.d (Tr.node row ps).enc) → EvP K H0 (tOp (rIxT K) (tVar 0) (tC (.int 0))) ρ (PD (.str (if row then "row" else "any"))) := fun ρ h => ev_ixT (ds := [.str (if row then "row" else "any"), .tup (encs ps)]) (ev_var h) ev_int atI_0
      refine sx_seq (sx_for (vs := [4]) (ej_range (n := ps.length) (ea_d ((ev_lenT (e1 _ rfl)).eqD (by rw [el])) ea_nil) (by omega)) (fun st ρ => ∃ (seq rest : List Nat) (g : Nat → List Nat) (a4 a5 a6 : A), ρ = [.d (Tr.node row ps).enc, .d (.tup (dis o)), .d (.tup (dis rest)), .l p (dis seq), a4, a5, a6] ∧
        Comp row ps o st seq rest ∧ o = (seq.map g).flatten ++ rest ∧ seq.Nodup ∧ ∀ j ∈ seq, ∃ (hj : j < ps.length), Told ps[j] (g j)) ⟨[], o, fun _ => [], _, _, _, rfl, comp_zero, rfl, List.nodup_nil, nofun⟩ ?_ ?_)
      · rintro st d ρ hd ⟨seq, rest, g, a4, a5, a6, rfl, hC, ho, hsn, hst⟩
        have hstn : st < ps.length := by
          have := (List.getElem?_eq_some_iff.mp hd).1
          rwa [rngD_len] at this
        rw [rngD_get hstn] at hd
        cases hd
        have hrl : rest.length ≤ 9 := by
          have := congrArg List.length ho
          rw [List.length_append] at this
          omega
        have hsql : seq.length ≤ ps.length := by
          have := sub_len hsn (L := List.range ps.length) fun x hx => List.mem_range.mpr (hst x hx).1
          rwa [List.length_range] at this
        refine tg_name ?_ (by decide)
        refine sx_for (vs := [5]) (ej_range (n := ps.length) (ea_d ((ev_lenT (e1 _ rfl)).eqD (by rw [el])) ea_nil) (by omega)) (fun k ρ => ∃ (a5 a6 : A), ρ = [.d (Tr.node row ps).enc, .d (.tup (dis o)), .d (.tup (dis rest)), .l p (dis seq), .d (di st), a5, a6] ∧ ∀ k' q, k' < k → ¬ Hit ps seq rest k' q) ⟨_, _, rfl, fun _ _ h => absurd h (Nat.not_lt_zero _)⟩ ?_ ?_
        · rintro k d ρ hd ⟨a5, a6, rfl, hno⟩
          have hk : k < ps.length := by
            have := (List.getElem?_eq_some_iff.mp hd).1
            rwa [rngD_len] at this
          rw [rngD_get hk] at hd
          cases hd
          obtain ⟨q, hq⟩ : ∃ q, ps[k]? = some q := ⟨ps[k], List.getElem?_eq_getElem hk⟩
          have hqe : ps[k] = q := by
            have := hq
            rw [List.getElem?_eq_getElem hk] at this
            injection this
          have hqm : q ∈ ps := List.mem_of_getElem? hq
          have hql : q.flat.length ≤ 9 := Nat.le_trans (part_len hqm) hl
          have eq1 : (encs ps)[k]? = some q.enc := by rw [encs_get hk, hqe]
          have epart : ∀ ρ : Ab, ρ[0]? = some (.d (Tr.node row ps).enc) → ρ[5]? = some (.d (di k)) → EvP K H0 (tOp (rIxT K) (tOp (rIxT K) (tVar 0) (tC (.int 1))) (tVar 5)) ρ (PD q.enc) := fun ρ h h5 => ev_ixT (e1 ρ h) (ev_var h5) (atI_dn eq1)
          have ethings : ∀ ρ : Ab, ρ[0]? = some (.d (Tr.node row ps).enc) → ρ[5]? = some (.d (di k)) → EvP K H0 (tCall (spec K (pre_things 9)) [] E0 (tCons (tOp (rIxT K) (tOp (rIxT K) (tVar 0) (tC (.int 1))) (tVar 5)) tNil)) ρ (PN (dis q.flat)) := fun ρ h h5 =>
            ev_callN (ea_d (epart ρ h h5) ea_nil) ⟨q, rfl, (hdp q hqm).1, by omega, rfl⟩
          have ecut : ∀ ρ : Ab, ρ[2]? = some (.d (.tup (dis rest))) → ρ[6]? = some (.d (di q.flat.length)) → EvP K H0 (L2.tSl (rSlA K) (tVar 2) tNoPart (tPart (tVar 6))) ρ (PD (.tup (dis (rest.take q.flat.length)))) := fun ρ h h6 =>
            (ev_slT (ev_var h) eo_none (eo_some (ev_var h6))).eqD (by rw [cut_to]; unfold dis; rw [List.map_take])
          refine tg_name ?_ (by decide)
          refine sx_seq (sx_setD (d := di q.flat.length) ((ev_lenL (ethings _ rfl rfl).S).eqD (by rw [dis_len]; rfl)) ?_)
          refine sx_if (b := decide (k ∉ seq) && decide (srt (rest.take q.flat.length) = srt q.flat)) ((et_and (et_test (ev_inL (neg := true) (x := (k : Int)) (ns := seq.map dint) (ev_var rfl) ((ev_varL rfl).eqS (by rw [dis_eq])))) fun _ => et_test (ev_eqLI (ns := (srt (rest.take q.flat.length)).map dint) (ms := (srt q.flat).map dint) (ev_sortTup (ns := (rest.take q.flat.length).map dint) ((ecut _ rfl rfl).eqD (by rw [← dis_eq])) ((srt_perm _).map _) srt_dint).S (ev_sorted (ns := q.flat.map dint) ((ethings _ rfl rfl).S.eqS (by rw [dis_eq])) ((srt_perm _).map _) srt_dint).S)).eqT ?_) (fun hb => ?_) fun hb => sx_next ?_
          · rw [if_pos rfl, dec_dint]
            congr 1
            · simp
            · exact decide_eq_decide.mpr dint_inj
          · rw [Bool.and_eq_true, decide_eq_true_eq, decide_eq_true_eq, srt_iff] at hb
            have hit : Hit ps seq rest k q := ⟨hq, hb.1, hb.2⟩
            have htk : (rest.take q.flat.length).length ≤ 9 := by rw [List.length_take]; omega
            refine sx_seq (sx_if (et_not (et_B (ev_callD (ea_d (epart _ rfl rfl) (ea_d (ecut _ rfl rfl) ea_nil)) ⟨q, rest.take q.flat.length, rfl, (hdp q hqm).2, (hdp q hqm).1, fms_mem hfn.2.2 hqm, hqe ▸ flats_nodup_part hk hnd, hql, hb.2, rfl⟩))) (fun hf => ?_) fun hf => sx_next ?_)
            · refine sx_retD ev_bl fun v H' r => ?_
              have hnt : ¬ Told q (rest.take q.flat.length) := fun z => by
                rw [toldB_iff.mpr z] at hf
                cases hf
              have e : false = toldB (.node row ps) o := toldB_of ⟨(fun z => nomatch z), fun z => absurd z (comp_false hnd hfn.2.2 hC hstn hit hnt)⟩
              show PD (.bl (toldB (.node row ps) o)) H0 v H'
              rw [← e]; exact r
            · have htold : Told q (rest.take q.flat.length) := toldB_iff.mp (by simpa using hf)
              refine sx_seq (sx_appD (d := di k) (ds := dis seq) (p := p) rfl (ev_var rfl) (by rw [dis_len]; omega) ?_)
              refine sx_seq (sx_setD (d := .tup (dis (rest.drop q.flat.length))) ((ev_slT (ev_var rfl) (eo_some (ev_var rfl)) eo_none).eqD (by rw [cut_from]; unfold dis; rw [List.map_drop])) ?_)
              refine sx_break ?_
              obtain ⟨g2, hg2⟩ : ∃ g2 : Nat → List Nat, g2 = fun j => if j = k then rest.take q.flat.length else g j := ⟨_, rfl⟩
              have egs : seq.map g2 = seq.map g := List.map_congr_left fun j hj => by
                have hjk : ¬ j = k := fun z => hb.1 (z ▸ hj)
                rw [hg2]
                show (if j = k then _ else g j) = g j
                rw [if_neg hjk]
              have egk : g2 k = rest.take q.flat.length := by rw [hg2]; simp
              refine ⟨seq ++ [k], rest.drop q.flat.length, g2, _, _, _, by rw [dis_append]; rfl, comp_hit hnd hfn.2.2 hC hstn hit, ?_, ?_, fun j hj => ?_⟩
              · rw [List.map_append, List.flatten_append, egs]
                show o = _ ++ ((g2 k) ++ []) ++ _
                rw [egk, List.append_nil, List.append_assoc, List.take_append_drop]
                exact ho
              · rw [List.nodup_append]
                exact ⟨hsn, by simp, fun a ha b hb2 e => hb.1 (by rw [List.mem_singleton] at hb2; rw [← hb2, ← e]; exact ha)⟩
              · rcases List.mem_append.mp hj with hj | hj
                · obtain ⟨h1, h2⟩ := hst j hj
                  refine ⟨h1, ?_⟩
                  have hjk : ¬ j = k := fun z => hb.1 (z ▸ hj)
                  have : g2 j = g j := by
                    rw [hg2]
                    show (if j = k then _ else g j) = g j
                    rw [if_neg hjk]
                  rw [this]; exact h2
                · rw [List.mem_singleton] at hj
                  subst hj
                  exact ⟨hk, by rw [egk, hqe]; exact htold⟩
          · refine ⟨_, _, rfl, fun k' q' hk' hh => ?_⟩
            rcases Nat.lt_succ_iff_lt_or_eq.mp hk' with h | h
            · exact hno k' q' h hh
            · subst h
              have e : q' = q := by
                have := hh.1
                rw [hq] at this
                injection this with this
                exact this.symm
              subst e
              have : (decide (k' ∉ seq) && decide (srt (rest.take q'.flat.length) = srt q'.flat)) = true := by
                rw [Bool.and_eq_true, decide_eq_true_eq, decide_eq_true_eq, srt_iff]
                exact hh.2
              rw [this] at hb
              cases hb
        · rintro ρ ⟨a5, a6, rfl, hno⟩
          rw [rngD_len] at hno
          exact ⟨seq, rest, g, _, _, _, rfl, comp_miss hnd hfn.2.2 hC hstn fun k q hh => hno k q (List.getElem?_eq_some_iff.mp hh.1).1 hh, ho, hsn, hst⟩
      · rintro ρ ⟨seq, rest, g, a4, a5, a6, rfl, hC, ho, hsn, hst⟩
        rw [rngD_len] at hC
        have hsql : seq.length ≤ ps.length := by
          have := sub_len hsn (L := List.range ps.length) fun x hx => List.mem_range.mpr (hst x hx).1
          rwa [List.length_range] at this
        refine sx_seq (sx_if (et_or (et_test (ev_ib (g := fun i j => decide (i < j)) (ev_lenL (ev_varL rfl)) (ev_lenT (e1 _ rfl)))) fun _ => et_test (ev_ib (g := fun i j => decide (j < i)) (ev_lenT (ev_var rfl)) ev_int)) (fun hb => ?_) fun hb => sx_next ?_)
        · refine sx_retD ev_bl fun v H' r => ?_
          have e : false = toldB (.node row ps) o := toldB_of ⟨(fun z => nomatch z), fun z => by
            obtain ⟨h1, h2⟩ := comp_end hC z
            rw [Bool.or_eq_true, decide_eq_true_eq, decide_eq_true_eq, dis_len, dis_len, el] at hb
            have h3 := h1.perm.length_eq
            rw [List.length_range] at h3
            rw [h2] at hb
            simp at hb
            omega⟩
          show PD (.bl (toldB (.node row ps) o)) H0 v H'
          rw [← e]; exact r
        · rw [Bool.or_eq_false_iff, decide_eq_false_iff_not, decide_eq_false_iff_not, dis_len, dis_len, el] at hb
          have hr0 : rest = [] := List.eq_nil_of_length_eq_zero (by omega)
          subst hr0
          have hsp : seq.Perm (List.range ps.length) := nodup_full hsn (fun x hx => (hst x hx).1) (by omega)
          have hsr := srt_rng hsp
          rw [List.append_nil] at ho
          have es : EvP K H0 (tVar 3) [.d (Tr.node row ps).enc, .d (.tup (dis o)), .d (.tup (dis [])), .l p (dis seq), a4, a5, a6] (PS K ((seq.map dint).map D.int)) := (ev_varL (ds := dis seq) (p := p) rfl).eqS (dis_eq seq)
          refine sx_retD ((ev_orV (ev_eqS (e0 _ rfl) ev_str) fun _ => ev_orV (ev_eqLI (ns := seq.map dint) (ms := (srt seq).map dint) es (ev_sorted (ns := seq.map dint) es ((srt_perm _).map _) srt_dint).S) fun _ => ev_eqLI (ns := seq.map dint) (ms := (srt seq).reverse.map dint) es ((ev_rev (ev_sorted (ns := seq.map dint) es ((srt_perm _).map _) srt_dint).S).S.eqS (by rw [← List.map_reverse, ← List.map_reverse]))).eqD (d' := .bl (toldB (.node row ps) o)) ?_) fun v H' r => r
          congr 1
          refine toldB_of ?_
          rw [row_eqS, hsr]
          have hdec : ∀ l : List Nat, decide (seq.map dint = l.map dint) = decide (seq = l) := fun l => decide_eq_decide.mpr dint_inj
          rw [hdec, hdec]
          constructor
          · intro h
            rw [ho]
            refine told_node ?_ fun j hj => (hst j (hsp.symm.subset (List.mem_range.mpr hj))).2
            cases row with
            | false => exact hsp
            | true =>
              simp at h
              exact h
          · intro h
            obtain ⟨h1, _⟩ := comp_end hC h
            cases row with
            | false => rfl
            | true =>
              have h1 : seq = List.range ps.length ∨ seq = (List.range ps.length).reverse := h1
              simp
              exact h1
end
end Wk
/-! ## G6 -/
set_option Elab.async false
set_option linter.all false
set_option autoImplicit false
set_option maxRecDepth 100000
set_option maxHeartbeats 4000000
namespace Wk
open PySem PySem.Spec L2
mutual
theorem lay_enc : (t : Tr) → Lay (2 * t.dep) t.enc
  | .leaf i => lay_int _
  | .node row ps => by
    rw [dep_node, Tr.enc]
    refine lay_tup (n := 2 * deps ps + 1) fun d hd => ?_
    rcases List.mem_cons.mp hd with rfl | hd
    · exact lay_word row
    · rw [List.mem_singleton] at hd
      subst hd
      exact lay_tup (lay_encs ps)
theorem lay_encs : (ps : List Tr) → ∀ d ∈ encs ps, Lay (2 * deps ps) d
  | [], d, h => by
    rw [encs] at h
    cases h
  | p :: ps, d, h => by
    rw [encs] at h
    rw [deps]
    rcases List.mem_cons.mp h with rfl | h
    · exact lay_mono (lay_enc p) (by omega)
    · exact lay_mono (lay_encs ps d h) (by omega)
end
theorem lawRings_any (ws : List (Nat × Nat)) (r : List Nat) : ∀ ps : List Tr, lawRings ws r ps = ps.any (lawRing ws r)
  | [] => by rw [lawRings]; rfl
  | p :: ps => by rw [lawRings, List.any_cons, lawRings_any ws r ps]
theorem flatMap_le {α β : Type} {f : α → List β} {n : Nat} : ∀ {l : List α}, (∀ x ∈ l, (f x).length ≤ n) → (l.flatMap f).length ≤ n * l.length
  | [], _ => by simp
  | x :: l, h => by
    rw [List.flatMap_cons, List.length_append, List.length_cons, Nat.mul_add]
    have h1 := h x List.mem_cons_self
    have h2 := flatMap_le (l := l) fun y hy => h y (List.mem_cons_of_mem _ hy)
    omega
/-- one wish's steps from part i, to the parts below j -/
def stp (ps : List Tr) (w : Nat × Nat) (i j : Nat) : List (Nat × Nat) := ((List.range j).filter fun j =>
    decide (i ≠ j) && decide (w.1 ∈ (ps.getD i (.leaf 0)).flat) && decide (w.2 ∈ (ps.getD j (.leaf 0)).flat)).map fun j => (i, j)
theorem steps_eq (ps : List Tr) (ws : List (Nat × Nat)) (r : List Nat) : steps ps ws r = r.flatMap fun x => (List.range ps.length).flatMap fun i => stp ps (ws.getD x (0, 0)) i ps.length := rfl
theorem stp_le (ps : List Tr) (w : Nat × Nat) (i j : Nat) : (stp ps w i j).length ≤ j := by
  unfold stp
  rw [List.length_map]
  exact Nat.le_trans (List.length_filter_le _ _) (by rw [List.length_range]; exact Nat.le_refl _)
theorem stps_le (ps : List Tr) (w : Nat × Nat) (i n : Nat) (hn : n ≤ 9) (hi : i ≤ 9) : ((List.range i).flatMap fun i => stp ps w i n).length ≤ 81 := by
  have := flatMap_le (f := fun i => stp ps w i n) (l := List.range i) (n := n) fun x _ => stp_le ps w x n
  rw [List.length_range] at this
  have h2 : n * i ≤ 9 * 9 := Nat.mul_le_mul hn hi
  omega
theorem steps_le (ps : List Tr) (ws : List (Nat × Nat)) (r : List Nat) (hn : ps.length ≤ 9) : (steps ps ws r).length ≤ 81 * r.length := by
  rw [steps_eq]
  exact flatMap_le fun x _ => stps_le ps _ _ _ hn hn
section
variable {K : PySem.W.Frag} {H0 : Hp} {ρ : Ab} {te ta tb tc : TE} {po : Po}
theorem sx_appB {i : Nat} {p : Addr} {ds : List D} {d : D} (hi : ρ[i]? = some (.l p ds)) (h : EvP K H0 te ρ (PD d)) (hl : ds.length ≤ 100000) (k : po.N (ρ.set i (.l p (ds ++ [d])))) :
    Sx K H0 (tDrop (tBM K "list" rAppend (tVar i) (tCons te tNil))) ρ po := fun σ H E s n r b c => by
  obtain ⟨h1, xs, h2, h3⟩ := own_ref hi s
  refine ⟨.ref p, h1, .inl ⟨rfl, xs, .inl (.inl h2)⟩, h σ H s _ fun v H1 e pv => ?_⟩
  obtain ⟨s1, t1⟩ := (s.ex e).mut (xs' := xs ++ [v]) (ds' := ds ++ [d]) hi ((h3.mono (tex e)).append (.cons pv .nil))
  exact ⟨p, xs, v, rfl, rfl, e _ _ h2, by rw [h3.length, sizeLine_eq]; omega, n _ σ _ k s1 ((tex e).trans t1)⟩
end
section
variable {P : Program} {w : World} {K : PySem.W.Frag} {mg : Str → Option Value} {base : Heap} {f : Addr} {fd : FuncData} {k : Nat}
theorem atI_before {ds : List D} {i : Nat} {d : D} (hi : i < ds.length) (h : ds[if i = 0 then ds.length - 1 else i - 1]? = some d) : atI ds ((i : Int) - 1) = some d := by
  by_cases e : i = 0
  · subst e
    rw [if_pos rfl] at h
    unfold atI
    have : ixN ds.length (((0 : Nat) : Int) - 1) = some (ds.length - 1) := by
      unfold ixN
      rw [if_neg (by omega), if_pos (by omega)]
      congr 1
      omega
    rw [this]; exact h
  · rw [if_neg e] at h
    have : ((i : Int) - 1) = ((i - 1 : Nat) : Int) := by omega
    rw [this]
    exact atI_nat h
theorem encW_at {st : List (Nat × Nat)} {i : Nat} (h : i < st.length) : (st.map encW)[i]? = some (encW (st.getD i (0, 0))) := by
  rw [List.getElem?_map, List.getElem?_eq_getElem h, List.getD_eq_getElem?_getD, List.getElem?_eq_getElem h]; rfl
theorem ok__law_is_wish_ring {m : Nat} (T : Tp K mg) (F : Fun K "_law_is_wish_ring" "_law_is_wish_ring" s__law_is_wish_ring f fd) (C1 : Cal P w K mg base k "_law_things" ["_law_tree_here"] (pre_things 9))
    (C2 : Cal P w K mg base k "_law_is_wish_ring" ["_law_tree_here", "_law_wishes_here", "_law_indexes"] (pre_lawring m)) :
    FnOk P w K mg base CX0 (k + 1) f fd ["_law_tree_here", "_law_wishes_here", "_law_indexes"] (spec K (pre_lawring (m + 1))) := by
  refine okOf F sc__law_is_wish_ring (by decide) (by rintro _ _ ⟨_, _, _, rfl, _⟩; rfl) fun cdv Aa outer s H0 E hr => ⟨_, d__law_is_wish_ring T (C__law_things := C1) (C__law_is_wish_ring := C2) hr, ?_⟩
  rintro _ _ pf ⟨t, ws, r, rfl, hm, h9, hl, hnd, hfm, hr0, hrw, hwl, hrl, rfl⟩
  show Sx K H0 (t__law_is_wish_ring K m 9) [.d t.enc, .d (.tup (ws.map encW)), .d (.tup (dis r)), .u, .u, .u, .u, .u, .u, .u, .u] _
  have hrpos : 0 < r.length := List.length_pos_iff.mpr hr0
  refine sx_seq (sx_if (b := isInt t.enc) ((et_or (et_B (ev_isi (ev_var rfl) isi_int)) fun _ => et_or (et_test (ev_eqI (ev_lenT (ev_var rfl)) ev_int)) fun _ => et_test (ev_neLN (ds := []) ((ev_lc (xs := r) di (fun x => decide ((x : Int) < 0) || decide (((ws.map encW).length : Int) ≤ (x : Int))) di (ej_tup (ds := dis r) (ev_var rfl)).i (by omega) fun q hq => ?_).S.eqS ?_) ev_lst0.S shaped_lnil)).eqT ?_) (fun hb => ?_) fun hb => ?_)
  · exact tg_name ⟨et_or (et_test (ev_ib (g := fun i j => decide (i < j)) (ev_var rfl) ev_int)) fun _ => et_test (ev_ib (g := fun i j => decide (j ≤ i)) (ev_var rfl) (ev_lenT (ev_var rfl))), fun _ => ev_var rfl⟩ (by decide)
  · have : (r.filter fun x : Nat => decide ((x : Int) < 0) || decide (((ws.map encW).length : Int) ≤ (x : Int))) = [] := by
      rw [List.filter_eq_nil_iff]
      intro x hx
      have := hrw x hx
      rw [List.length_map, Bool.or_eq_true, decide_eq_true_eq, decide_eq_true_eq]
      omega
    rw [this]; rfl
  · have : decide (((dis r).length : Int) = 0) = false := decide_eq_false (by rw [dis_len]; omega)
    rw [this]
    simp
  · cases t with
    | node row ps => cases hb
    | leaf i => exact sx_retD ev_bl fun v H' r => by rw [lawRing]; exact r
  · cases t with
    | leaf i => cases hb
    | node row ps =>
      refine sx_next ?_
      have hfn := fm_node.mp hfm
      rw [Tr.flat] at hl hnd
      have hpl : ps.length ≤ 9 := Nat.le_trans (flats_pos ps hfn.2.2) hl
      have el : (encs ps).length = ps.length := by rw [encs_eq, List.length_map]
      have hdp : ∀ q ∈ ps, q.dep ≤ 9 ∧ q.dep ≤ m := fun q hq => ⟨by
        have := deps_mem hq
        rw [dep_node] at h9
        omega, dep_part hm hq⟩
      have e1 : ∀ ρ : Ab, ρ[0]? = some (.d (Tr.node row ps).enc) → EvP K H0 (tOp (rIxT K) (tVar 0) (tC (.int 1))) ρ (PD (.tup (encs ps))) := fun ρ h => ev_ixT (ds := [.str (if row then "row" else "any"), .tup (encs ps)]) (ev_var h) ev_int atI_1
      have e0 : ∀ ρ : Ab, ρ[0]? = some (.d (Tr.node row ps).enc) → EvP K H0 (tOp (rIxT K) (tVar 0) (tC (.int 0))) ρ (PD (.str (if row then "row" else "any"))) := fun ρ h => ev_ixT (ds := [.str (if row then "row" else "any"), .tup (encs ps)]) (ev_var h) ev_int atI_0
      have ething : ∀ (ρ : Ab) (x i : Nat) (hi : i < ps.length), ρ[0]? = some (.d (Tr.node row ps).enc) → ρ[x]? = some (.d (di i)) → EvP K H0 (tCall (spec K (pre_things 9)) [] E0 (tCons (tOp (rIxT K) (tOp (rIxT K) (tVar 0) (tC (.int 1))) (tVar x)) tNil)) ρ (PN ((ps[i].flat.map dint).map D.int)) := fun ρ x i hi h hx =>
        (ev_callN (ea_d (ev_ixT (e1 ρ h) (ev_var hx) (atI_dn (encs_get hi))) ea_nil) ⟨ps[i], rfl, (hdp _ (List.getElem_mem hi)).1, by have := part_len (List.getElem_mem hi); omega, rfl⟩).eqN (dis_eq _)
      refine sx_seq (sx_setN (ev_lst (ds := []) ea_nil (by decide)) fun p => ?_)
      refine sx_seq (sx_for (vs := [4]) (ej_tup (ds := dis r) (ev_var rfl)) (fun x ρ => ∃ (a4 a5 a6 a7 a8 : A), ρ = [.d (Tr.node row ps).enc, .d (.tup (ws.map encW)), .d (.tup (dis r)), .l p ((steps ps ws (r.take x)).map encW), a4, a5, a6, a7, a8, .u, .u]) ⟨_, _, _, _, _, rfl⟩ ?_ ?_)
      · rintro x d ρ hd ⟨a4, a5, a6, a7, a8, rfl⟩
        unfold dis at hd
        rw [List.getElem?_map] at hd
        obtain ⟨z, hz, rfl⟩ := Option.map_eq_some_iff.mp hd
        have hzl := hrw z (List.mem_of_getElem? hz)
        obtain ⟨wz, hwz⟩ : ∃ wz, wz = ws.getD z (0, 0) := ⟨_, rfl⟩
        have hst1 : (steps ps ws (r.take x)).length ≤ 8100 := by
          have := steps_le ps ws (r.take x) hpl
          rw [List.length_take] at this
          have h2 : min x r.length ≤ 100 := by omega
          omega
        refine tg_name ?_ (by decide)
        refine sx_seq (sx_unp (vs := [5, 6]) (d := encW wz) (ev_ixT (ev_var rfl) (ev_var rfl) (atI_dn (by rw [hwz]; exact encW_at hzl))) (tg_tup (tgs_cons (tg_name (tgs_cons (tg_name (tgs_nil ?_) (by decide))) (by decide))) rfl))
        refine sx_for (vs := [7]) (ej_range (n := ps.length) (ea_d ((ev_lenT (e1 _ rfl)).eqD (by rw [el])) ea_nil) (by omega)) (fun i ρ => ∃ (a7 a8 : A), ρ = [.d (Tr.node row ps).enc, .d (.tup (ws.map encW)), .d (.tup (dis r)), .l p ((steps ps ws (r.take x) ++ (List.range i).flatMap fun i => stp ps wz i ps.length).map encW), .d (di z), .d (di wz.1), .d (di wz.2), a7, a8, .u, .u]) ⟨a7, a8, by simp⟩ ?_ ?_
        · rintro i d ρ hd ⟨a7, a8, rfl⟩
          have hi : i < ps.length := by
            have := (List.getElem?_eq_some_iff.mp hd).1
            rwa [rngD_len] at this
          rw [rngD_get hi] at hd
          cases hd
          have hst2 := stps_le ps wz i ps.length hpl (by omega)
          refine tg_name ?_ (by decide)
          refine sx_for (vs := [8]) (ej_range (n := ps.length) (ea_d ((ev_lenT (e1 _ rfl)).eqD (by rw [el])) ea_nil) (by omega)) (fun j ρ => ∃ (a8 : A), ρ = [.d (Tr.node row ps).enc, .d (.tup (ws.map encW)), .d (.tup (dis r)), .l p ((steps ps ws (r.take x) ++ ((List.range i).flatMap fun i => stp ps wz i ps.length) ++ stp ps wz i j).map encW), .d (di z), .d (di wz.1), .d (di wz.2), .d (di i), a8, .u, .u]) ⟨_, by
            have : stp ps wz i 0 = [] := rfl
            rw [this, List.append_nil]; rfl⟩ ?_ ?_
          · rintro j d ρ hd ⟨a8, rfl⟩
            have hj : j < ps.length := by
              have := (List.getElem?_eq_some_iff.mp hd).1
              rwa [rngD_len] at this
            rw [rngD_get hj] at hd
            cases hd
            have hst3 := stp_le ps wz i j
            have gi : ps.getD i (.leaf 0) = ps[i] := by rw [List.getD_eq_getElem?_getD, List.getElem?_eq_getElem hi]; rfl
            have gj : ps.getD j (.leaf 0) = ps[j] := by rw [List.getD_eq_getElem?_getD, List.getElem?_eq_getElem hj]; rfl
            have esucc : stp ps wz i (j + 1) = stp ps wz i j ++ if (decide (i ≠ j) && decide (wz.1 ∈ ps[i].flat) && decide (wz.2 ∈ ps[j].flat)) = true then [(i, j)] else [] := by
              unfold stp
              rw [List.range_succ, List.filter_append, List.map_append]
              congr 1
              rw [List.filter_cons, gi, gj, List.filter_nil]
              split <;> rfl
            refine tg_name ?_ (by decide)
            refine sx_if (b := decide (i ≠ j) && decide (wz.1 ∈ ps[i].flat) && decide (wz.2 ∈ ps[j].flat)) ((et_and (et_test (ev_neI (i := (i : Int)) (j := (j : Int)) (ev_var rfl) (ev_var rfl))) fun _ => et_and (et_test (ev_inL (neg := false) (x := (wz.1 : Int)) (ns := ps[i].flat.map dint) (ev_var rfl) (ething _ 7 i hi rfl rfl).S)) fun _ => et_test (ev_inL (neg := false) (x := (wz.2 : Int)) (ns := ps[j].flat.map dint) (ev_var rfl) (ething _ 8 j hj rfl rfl).S)).eqT ?_) (fun hb => ?_) fun hb => sx_next ?_
            · rw [if_neg (by decide), if_neg (by decide), dec_dint, dec_dint, ← Bool.and_assoc]
              congr 2
              rw [Bool.eq_iff_iff]
              simp
              omega
            · rw [hb, if_pos rfl] at esucc
              refine sx_appB (d := encW (i, j)) (p := p) rfl (ev_tup (ds := [di i, di j]) (ea_d (ev_var rfl) (ea_d (ev_var rfl) ea_nil)) (by show 2 ≤ 1000; decide)) (by rw [List.length_map, List.length_append, List.length_append]; omega) ⟨.d (di j), ?_⟩
              · rw [esucc, ← List.append_assoc (_ ++ _), List.map_append (l₁ := _ ++ stp ps wz i j)]; rfl
            · rw [hb, if_neg (by decide), List.append_nil] at esucc
              exact ⟨_, by rw [esucc]; rfl⟩
          · rintro ρ ⟨a8, rfl⟩
            rw [rngD_len]
            refine ⟨.d (di i), a8, ?_⟩
            have : ((List.range (i + 1)).flatMap fun i => stp ps wz i ps.length) = ((List.range i).flatMap fun i => stp ps wz i ps.length) ++ stp ps wz i ps.length := by
              rw [List.range_succ, List.flatMap_append]
              simp
            rw [this, List.append_assoc]
        · rintro ρ ⟨a7, a8, rfl⟩
          rw [rngD_len]
          refine ⟨.d (di z), .d (di wz.1), .d (di wz.2), a7, a8, ?_⟩
          · have : steps ps ws (r.take (x + 1)) = steps ps ws (r.take x) ++ (List.range ps.length).flatMap fun i => stp ps wz i ps.length := by
              rw [steps_eq, steps_eq, List.take_add_one, hz, List.flatMap_append, hwz]
              simp
            rw [this]
      · rintro ρ ⟨a4, a5, a6, a7, a8, rfl⟩
        rw [dis_len, List.take_length]
        obtain ⟨st, hst⟩ : ∃ st, st = steps ps ws r := ⟨_, rfl⟩
        rw [← hst]
        have hstl : st.length ≤ 8100 := by
          have := steps_le ps ws r hpl
          rw [hst]; omega
        have elr : lawRing ws r (.node row ps) = if st.length = r.length then stepB row st else lawRings ws r ps := by rw [lawRing, hst]
        refine sx_seq (sx_if (et_test (ev_eqI (i := ((st.map encW).length : Nat)) (j := ((dis r).length : Nat)) (ev_lenL (ev_varL rfl)) (ev_lenT (ev_var rfl)))) (fun hb => ?_) fun hb => sx_next ?_)
        · have hb := of_decide_eq_true hb
          rw [List.length_map, dis_len] at hb
          rw [if_pos (by omega)] at elr
          refine sx_seq (sx_if (et_test (ev_eqS (e0 _ rfl) ev_str)) (fun hb2 => ?_) fun hb2 => sx_next ?_)
          · rw [row_eqR] at hb2
            subst hb2
            refine sx_retD (d := .bl (lawRing ws r (.node true ps))) ?_ fun v H' r => r
            rw [elr]
            have hat : ∀ (ρ : Ab) (i j : Nat) (hi : i < st.length) (hj : j < 2), ρ[3]? = some (.l p (st.map encW)) → EvP K H0 (tOp (rIxT K) (tOp (rIxL K) (tVar 3) (tC (.int (i : Int)))) (tC (.int (j : Int)))) ρ (PD (if j = 0 then di (st.getD i (0, 0)).1 else di (st.getD i (0, 0)).2)) := fun ρ i j hi hj h =>
              ev_ixT (ds := [di (st.getD i (0, 0)).1, di (st.getD i (0, 0)).2]) (ev_ixL (ev_varL h) ev_int (atI_dn (encW_at hi))) ev_int (by
                have : j = 0 ∨ j = 1 := by omega
                rcases this with rfl | rfl
                · exact atI_0
                · exact atI_1)
            by_cases h2 : st.length = 2
            · refine (ev_andV (ev_eqI (ev_lenL (ev_varL rfl)) ev_int) fun _ => ev_neB (ev_ib (g := fun i j => decide (i < j)) (i := ((st.getD 0 (0, 0)).1 : Nat)) (j := ((st.getD 0 (0, 0)).2 : Nat)) (hat _ 0 0 (by omega) (by omega) rfl) (hat _ 0 1 (by omega) (by omega) rfl)) (ev_ib (g := fun i j => decide (i < j)) (i := ((st.getD 1 (0, 0)).1 : Nat)) (j := ((st.getD 1 (0, 0)).2 : Nat)) (hat _ 1 0 (by omega) (by omega) rfl) (hat _ 1 1 (by omega) (by omega) rfl))).eqD ?_
              unfold stepB
              rw [if_pos rfl, List.length_map, dec_lt, dec_lt]
              have : decide (((st.length : Nat) : Int) = 2) = decide (st.length = 2) := decide_eq_decide.mpr (by omega)
              rw [this]
              generalize decide ((st.getD 0 (0, 0)).1 < (st.getD 0 (0, 0)).2) = b1
              generalize decide ((st.getD 1 (0, 0)).1 < (st.getD 1 (0, 0)).2) = b2
              cases b1 <;> cases b2 <;> rfl
            · refine (ev_andV (b := false) (ev_eqI (ev_lenL (ev_varL rfl)) ev_int) fun h => ?_).eqD ?_
              · have := of_decide_eq_true h
                rw [List.length_map] at this
                omega
              · unfold stepB
                rw [if_pos rfl, decide_eq_false h2, Bool.and_false, Bool.false_and]
          · rw [row_eqR] at hb2
            subst hb2
            refine sx_retD (d := .bl (lawRing ws r (.node false ps))) ?_ fun v H' r => r
            rw [elr]
            obtain ⟨pv, hpv⟩ : ∃ pv : Nat → Nat, pv = fun k => if k = 0 then st.length - 1 else k - 1 := ⟨_, rfl⟩
            refine (ev_eqLN (ds := ((List.range st.length).filter fun k => !decide ((st.getD (pv k) (0, 0)).2 = (st.getD k (0, 0)).1)).map di) (ev_lc (xs := List.range st.length) di (fun k => !decide ((st.getD (pv k) (0, 0)).2 = (st.getD k (0, 0)).1)) di (ej_range (n := st.length) (ea_d ((ev_lenL (ev_varL rfl)).eqD (by rw [List.length_map])) ea_nil) (by omega)).i (by rw [List.length_range]; omega) fun q hq => ?_).S ev_lst0.S (shaped_int _)).eqD ?_
            · have hq := List.mem_range.mp hq
              have hpq : pv q < st.length := by
                rw [hpv]
                show (if q = 0 then _ else _) < _
                split <;> omega
              refine tg_name ⟨(et_test (ev_neI (i := ((st.getD (pv q) (0, 0)).2 : Nat)) (j := ((st.getD q (0, 0)).1 : Nat)) (ev_ixT (ds := [di (st.getD (pv q) (0, 0)).1, di (st.getD (pv q) (0, 0)).2]) (ev_ixL (ev_varL rfl) (ev_ii (g := fun i j => i - j) (ev_var rfl) ev_int) (atI_before (by rw [List.length_map]; exact hq) ?_)) ev_int atI_1) (ev_ixT (ds := [di (st.getD q (0, 0)).1, di (st.getD q (0, 0)).2]) (ev_ixL (ev_varL rfl) (ev_var rfl) (atI_dn (encW_at hq))) ev_int atI_0))).eqT ?_, fun _ => ev_var rfl⟩ (by decide)
              · rw [List.length_map]
                have := encW_at hpq
                rw [hpv] at this
                rw [hpv]
                exact this
              · rw [Bool.eq_iff_iff]
                simp
                omega
            · congr 1
              unfold stepB
              rw [if_neg (by decide), List.isEmpty_map, Bool.eq_iff_iff, List.isEmpty_iff, List.filter_eq_nil_iff, List.all_eq_true]
              refine forall_congr' fun q => forall_congr' fun _ => ?_
              have : st.getD (pv q) (0, 0) = if q = 0 then st.getD (st.length - 1) (0, 0) else st.getD (q - 1) (0, 0) := by
                rw [hpv]
                show st.getD (if q = 0 then _ else _) (0, 0) = _
                split <;> rfl
              rw [this]
              simp
        · have hb := of_decide_eq_false hb
          rw [List.length_map, dis_len] at hb
          rw [if_neg (by omega)] at elr
          refine sx_retD (d := .bl (lawRing ws r (.node row ps))) ((ev_neLN (ds := (ps.filter (lawRing ws r)).map Tr.enc) (ev_lc (xs := ps) Tr.enc (lawRing ws r) Tr.enc (by rw [← encs_eq]; exact (ej_tup (e1 _ rfl)).i) (by omega) fun q hq => ?_).S ev_lst0.S (shaped_lay fun d hd => ?_)).eqD ?_) fun v H' r => r
          · obtain ⟨i, hi, hqi⟩ := List.mem_iff_getElem.mp hq
            exact tg_name ⟨et_B (ev_callD (ea_d (ev_var rfl) (ea_d (ev_var rfl) (ea_d (ev_var rfl) ea_nil))) ⟨q, ws, r, rfl, (hdp q hq).2, (hdp q hq).1, Nat.le_trans (part_len hq) hl, hqi ▸ flats_nodup_part hi hnd, fms_mem hfn.2.2 hq, hr0, hrw, hwl, hrl, rfl⟩), fun _ => ev_var rfl⟩ (by decide)
          · obtain ⟨q, hq, rfl⟩ := List.mem_map.mp hd
            have hqm := (List.mem_filter.mp hq).1
            exact lay_mono (lay_enc q) (by have := (hdp q hqm).1; omega)
          · congr 1
            rw [elr, lawRings_any, List.isEmpty_map, Bool.eq_iff_iff, List.any_eq_true]
            cases e : ps.filter (lawRing ws r) with
            | nil =>
              rw [List.filter_eq_nil_iff] at e
              simp
              intro x hx
              have := e x hx
              simpa using this
            | cons a l =>
              have : a ∈ ps.filter (lawRing ws r) := by rw [e]; exact List.mem_cons_self
              rw [List.mem_filter] at this
              exact ⟨fun _ => ⟨a, this⟩, fun _ => rfl⟩
end
end Wk
/-! ## M9 -/
set_option linter.all false
set_option autoImplicit false
/-! All told orders, how many keep wishes. -/
namespace Wk
theorem countP_pairs {α β γ : Type} {f : α → β → γ} {P : γ → Bool} {p : α → Bool} {q : β → Bool} {m : List β} : ∀ {l : List α}, (∀ a ∈ l, ∀ b ∈ m, P (f a b) = (p a && q b)) → (l.flatMap fun a => m.map (f a)).countP P = l.countP p * m.countP q
  | [], _ => by simp
  | a :: l, h => by
    rw [List.flatMap_cons, List.countP_append, countP_pairs fun c hc => h c (List.mem_cons_of_mem _ hc), List.countP_cons, Nat.add_mul, List.countP_map]
    have e : m.countP (P ∘ f a) = if p a = true then m.countP q else 0 := by
      have h1 : ∀ b ∈ m, P (f a b) = (p a && q b) := h a List.mem_cons_self
      have e2 : m.countP (P ∘ f a) = m.countP fun b => p a && q b := List.countP_congr fun b hb => by
        show P (f a b) = true ↔ _
        rw [h1 b hb]
      rw [e2]
      cases p a with
      | true => simp
      | false => simp
    rw [e]
    cases p a with
    | true => simp; omega
    | false => simp
theorem mem_seqs {row : Bool} {k : Nat} {s : List Nat} : s ∈ seqs row k ↔ SeqOk row k s := by
  cases row with
  | true =>
    show s ∈ [_, _] ↔ _ ∨ _
    simp
  | false => exact perms_iff
mutual
theorem mem_allTold : ∀ (t : Tr) {o : List Nat}, o ∈ allTold t ↔ Told t o
  | .leaf i, o => by rw [allTold, List.mem_singleton, told_leaf_iff]
  | .node row ps, o => by
    rw [allTold, List.mem_flatMap, told_node_iff]
    constructor
    · rintro ⟨s, hs, ho⟩
      obtain ⟨os, hos, rfl⟩ := List.mem_map.mp ho
      exact ⟨os, s, (mem_prods ps).mp hos, mem_seqs.mp hs, rfl⟩
    · rintro ⟨os, s, h1, h2, rfl⟩
      exact ⟨s, mem_seqs.mpr h2, List.mem_map.mpr ⟨os, (mem_prods ps).mpr h1, rfl⟩⟩
theorem mem_prods : ∀ (ps : List Tr) {os : List (List Nat)}, os ∈ prods ps ↔ Tolds ps os
  | [], os => by rw [prods, List.mem_singleton, Tolds]
  | p :: ps, os => by
    rw [prods, List.mem_flatMap, Tolds]
    constructor
    · rintro ⟨o, ho, h⟩
      obtain ⟨r, hr, rfl⟩ := List.mem_map.mp h
      exact ⟨o, r, rfl, (mem_allTold p).mp ho, (mem_prods ps).mp hr⟩
    · rintro ⟨o, r, rfl, h1, h2⟩
      exact ⟨o, (mem_allTold p).mpr h1, List.mem_map.mpr ⟨r, (mem_prods ps).mpr h2, rfl⟩⟩
end
/-! ### one way only -/
theorem flat_cut {ps : List Tr} {g : Nat → List Nat} (nd : (flats ps).Nodup) (hg : ∀ j (hj : j < ps.length), (g j).Perm ps[j].flat) {j : Nat} (hj : j < ps.length) : ∀ {s : List Nat}, s.Nodup → (∀ i ∈ s, i < ps.length) → j ∈ s → ((s.map g).flatten).filter (fun x => decide (x ∈ ps[j].flat)) = g j
  | [], _, _, h => by cases h
  | i :: s, hn, hs, h => by
    rw [List.nodup_cons] at hn
    have hi := hs i List.mem_cons_self
    rw [List.map_cons, List.flatten_cons, List.filter_append]
    have other : ∀ {s : List Nat}, (∀ i ∈ s, i < ps.length) → j ∉ s → ((s.map g).flatten).filter (fun x => decide (x ∈ ps[j].flat)) = [] := fun {s} h1 h2 => by
      rw [List.filter_eq_nil_iff]
      intro x hx hd
      obtain ⟨l, hl, hxl⟩ := List.mem_flatten.mp hx
      obtain ⟨i, hi, rfl⟩ := List.mem_map.mp hl
      have := part_one (h1 i hi) hj nd ((hg i (h1 i hi)).subset hxl) (of_decide_eq_true hd)
      exact h2 (this ▸ hi)
    by_cases e : i = j
    · subst e
      rw [other (fun a ha => hs a (List.mem_cons_of_mem _ ha)) hn.1, List.append_nil, List.filter_eq_self]
      intro x hx
      exact decide_eq_true ((hg i hi).subset hx)
    · have h3 : j ∈ s := by
        rcases List.mem_cons.mp h with h | h
        · exact absurd h.symm e
        · exact h
      rw [flat_cut nd hg hj hn.2 (fun a ha => hs a (List.mem_cons_of_mem _ ha)) h3, List.filter_eq_nil_iff.mpr, List.nil_append]
      intro x hx hd
      exact e (part_one hi hj nd ((hg i hi).subset hx) (of_decide_eq_true hd))
theorem seq_same {ps : List Tr} {g : Nat → List Nat} (nd : (flats ps).Nodup) (hf : Fms ps) (hg : ∀ j (hj : j < ps.length), (g j).Perm ps[j].flat) : ∀ {s s' : List Nat}, (∀ i ∈ s, i < ps.length) → (∀ i ∈ s', i < ps.length) → (s.map g).flatten = (s'.map g).flatten → s = s'
  | [], [], _, _, _ => rfl
  | [], i :: s', _, h, e => by
    have hi := h i List.mem_cons_self
    have := flat_pos _ (fms_mem hf (List.getElem_mem hi))
    rw [← (hg i hi).length_eq] at this
    rw [List.map_nil, List.flatten_nil, List.map_cons, List.flatten_cons] at e
    have h9 := congrArg List.length e
    rw [List.length_append, List.length_nil] at h9
    omega
  | i :: s, [], h, _, e => by
    have hi := h i List.mem_cons_self
    have := flat_pos _ (fms_mem hf (List.getElem_mem hi))
    rw [← (hg i hi).length_eq] at this
    rw [List.map_nil, List.flatten_nil, List.map_cons, List.flatten_cons] at e
    have h9 := congrArg List.length e
    rw [List.length_append, List.length_nil] at h9
    omega
  | i :: s, i' :: s', h, h', e => by
    have hi := h i List.mem_cons_self
    have hi' := h' i' List.mem_cons_self
    have p1 := flat_pos _ (fms_mem hf (List.getElem_mem hi))
    rw [← (hg i hi).length_eq] at p1
    have p2 := flat_pos _ (fms_mem hf (List.getElem_mem hi'))
    rw [← (hg i' hi').length_eq] at p2
    rw [List.map_cons, List.flatten_cons, List.map_cons, List.flatten_cons] at e
    have hii : i = i' := by
      cases e1 : g i with
      | nil => rw [e1] at p1; simp at p1
      | cons x l =>
        cases e2 : g i' with
        | nil => rw [e2] at p2; simp at p2
        | cons y l' =>
          rw [e1, e2, List.cons_append, List.cons_append] at e
          injection e with e3 _
          subst e3
          exact part_one hi hi' nd ((hg i hi).subset (by rw [e1]; exact List.mem_cons_self)) ((hg i' hi').subset (by rw [e2]; exact List.mem_cons_self))
    subst hii
    rw [seq_same nd hf hg (fun a ha => h a (List.mem_cons_of_mem _ ha)) (fun a ha => h' a (List.mem_cons_of_mem _ ha)) (List.append_cancel_left e)]
theorem pick_one {ps : List Tr} (nd : (flats ps).Nodup) (hf : Fms ps) {os os' : List (List Nat)} {s s' : List Nat} (h : Tolds ps os) (h' : Tolds ps os') (hs : s.Perm (List.range ps.length)) (hs' : s'.Perm (List.range ps.length)) (e : pick os s = pick os' s') : s = s' ∧ os = os' := by
  have lt : ∀ {s : List Nat}, s.Perm (List.range ps.length) → ∀ i ∈ s, i < ps.length := fun h i hi => List.mem_range.mp (h.subset hi)
  have hg : ∀ {os : List (List Nat)}, Tolds ps os → ∀ j (hj : j < ps.length), (os.getD j []).Perm ps[j].flat := fun h j hj => told_perm _ (tolds_get hj h)
  have eg : ∀ j, j < ps.length → os.getD j [] = os'.getD j [] := fun j hj => by
    have a := flat_cut nd (hg h) hj (hs.symm.nodup List.nodup_range) (lt hs) (hs.symm.subset (List.mem_range.mpr hj))
    have b := flat_cut nd (hg h') hj (hs'.symm.nodup List.nodup_range) (lt hs') (hs'.symm.subset (List.mem_range.mpr hj))
    rw [← a, ← b]
    unfold pick at e
    rw [e]
  have eo : os = os' := by
    refine List.ext_getElem (by rw [tolds_len h, tolds_len h']) fun i h1 h2 => ?_
    have := eg i (by rw [← tolds_len h]; exact h1)
    rw [List.getD_eq_getElem?_getD, List.getD_eq_getElem?_getD, List.getElem?_eq_getElem h1, List.getElem?_eq_getElem h2] at this
    exact this
  subst eo
  exact ⟨seq_same nd hf (hg h) (lt hs) (lt hs') e, rfl⟩
theorem nodup_map_on {α β : Type} {f : α → β} {l : List α} (hf : ∀ a ∈ l, ∀ b ∈ l, f a = f b → a = b) (h : l.Nodup) : (l.map f).Nodup := by
  induction l with
  | nil => simp
  | cons a l ih =>
    rw [List.nodup_cons] at h
    rw [List.map_cons, List.nodup_cons]
    refine ⟨fun z => ?_, ih (fun b hb c hc => hf b (List.mem_cons_of_mem _ hb) c (List.mem_cons_of_mem _ hc)) h.2⟩
    obtain ⟨b, hb, e⟩ := List.mem_map.mp z
    have := hf b (List.mem_cons_of_mem _ hb) a List.mem_cons_self e
    exact h.1 (this ▸ hb)
theorem seqs_nodup {row : Bool} {k : Nat} (h : row = true → 3 ≤ k) : (seqs row k).Nodup := by
  cases row with
  | false => exact perms_nodup List.nodup_range
  | true =>
    show ([List.range k, (List.range k).reverse]).Nodup
    rw [List.nodup_cons]
    refine ⟨fun z => ?_, by simp⟩
    rw [List.mem_singleton] at z
    have h3 := h rfl
    have e1 : (List.range k)[0]? = some 0 := by rw [List.getElem?_range (by omega)]
    rw [z, List.getElem?_reverse (by rw [List.length_range]; omega), List.length_range, List.getElem?_range (by omega)] at e1
    injection e1 with e1
    omega
theorem parts_nodup : ∀ {ps : List Tr}, (flats ps).Nodup → ∀ p ∈ ps, p.flat.Nodup := fun {ps} h p hp => by
  obtain ⟨i, hi, rfl⟩ := List.mem_iff_getElem.mp hp
  exact flats_nodup_part hi h
mutual
theorem allTold_nodup : ∀ (t : Tr), t.Fm → t.flat.Nodup → (allTold t).Nodup
  | .leaf i, _, _ => by simp [allTold]
  | .node row ps, hf, hn => by
    have hf := fm_node.mp hf
    rw [Tr.flat] at hn
    rw [allTold]
    have tp : ∀ {os : List (List Nat)}, os ∈ prods ps → Tolds ps os := fun h => (mem_prods ps).mp h
    refine nodup_flatMap (fun s hs => nodup_map_on (fun os ho os' ho' e => ?_) (prods_nodup ps hf.2.2 (parts_nodup hn))) (seqs_nodup hf.2.1) fun s hs s' hs' o ho ho' => ?_
    · exact (pick_one hn hf.2.2 (tp ho) (tp ho') (mem_seqs.mp hs).perm (mem_seqs.mp hs).perm e).2
    · obtain ⟨os, h1, rfl⟩ := List.mem_map.mp ho
      obtain ⟨os', h2, e⟩ := List.mem_map.mp ho'
      exact (pick_one hn hf.2.2 (tp h1) (tp h2) (mem_seqs.mp hs).perm (mem_seqs.mp hs').perm e.symm).1
theorem prods_nodup : ∀ (ps : List Tr), Fms ps → (∀ p ∈ ps, p.flat.Nodup) → (prods ps).Nodup
  | [], _, _ => by simp [prods]
  | p :: ps, hf, hn => by
    rw [Fms] at hf
    rw [prods]
    refine nodup_flatMap (fun o _ => nodup_map_inj (fun a b e => by injection e) (prods_nodup ps hf.2 fun q hq => hn q (List.mem_cons_of_mem _ hq))) (allTold_nodup p hf.1 (hn p List.mem_cons_self)) fun o _ o' _ x h1 h2 => ?_
    obtain ⟨_, _, e1⟩ := List.mem_map.mp h1
    obtain ⟨_, _, e2⟩ := List.mem_map.mp h2
    rw [← e1] at e2
    injection e2 with e3 _
    exact e3.symm
end
/-! ### the count -/
def keepAll (ps0 : List Tr) (told : List Tri) : List (List Nat) → Nat → Bool
  | [], _ => true
  | o :: os, k => keepT o (within ps0 told k) && keepAll ps0 told os (k + 1)
theorem keepAll_iff {ps0 : List Tr} {told : List Tri} : ∀ {os : List (List Nat)} {k : Nat}, keepAll ps0 told os k = true ↔ ∀ i, i < os.length → keepT (os.getD i []) (within ps0 told (k + i)) = true
  | [], k => ⟨fun _ i h => absurd h (Nat.not_lt_zero i), fun _ => rfl⟩
  | o :: os, k => by
    rw [keepAll, Bool.and_eq_true, keepAll_iff]
    constructor
    · rintro ⟨h1, h2⟩ i hi
      cases i with
      | zero => exact h1
      | succ i =>
        have := h2 i (by simpa using hi)
        rw [show k + (i + 1) = k + 1 + i by omega]
        simpa using this
    · intro h
      refine ⟨h 0 (by simp), fun i hi => ?_⟩
      have := h (i + 1) (by simpa using hi)
      rw [show k + (i + 1) = k + 1 + i by omega] at this
      simpa using this
/-- .. and the other way round -/
theorem keep_back {row : Bool} {ps : List Tr} {told : List Tri} {o : Nat → List Nat} {s : List Nat} (td : TdOk (flats ps) told) (nd : (flats ps).Nodup) (hs : SeqOk row ps.length s) (hg : ∀ i (hi : i < ps.length), Told ps[i] (o i))
    (h : keepT (s.map o).flatten told = true) : keepD s (met ps told) = true ∧ ∀ i, i < ps.length → keepT (o i) (within ps told i) = true := by
  have hp : ∀ i (hi : i < ps.length), (o i).Perm ps[i].flat := fun i hi => told_perm _ (hg i hi)
  have hall : ((s.map o).flatten).Nodup := by
    have := told_perm _ (told_node hs hg)
    rw [Tr.flat] at this
    exact this.symm.nodup nd
  have ms : ∀ i, i < ps.length → i ∈ s := fun i hi => hs.perm.symm.subset (List.mem_range.mpr hi)
  rw [keepT_iff] at h
  constructor
  · rw [keepD_iff]
    rintro ⟨i, j, x⟩ hd
    obtain ⟨a, b, hw, hne, rfl, rfl⟩ := mem_met.mp hd
    obtain ⟨_, ha, hb⟩ := td _ hw
    have la := ixw_lt ha
    have lb := ixw_lt hb
    rcases bef_total (ms _ la) (ms _ lb) hne with h1 | h1
    · exact h1
    · exact absurd (h _ hw) (bef_asym hall (bef_flat2 h1 ((hp _ lb).symm.subset (ixw_mem hb)) ((hp _ la).symm.subset (ixw_mem ha))))
  · intro i hi
    rw [keepT_iff]
    rintro ⟨a, b, x⟩ hd
    obtain ⟨hw, e1, e2⟩ := mem_within.mp hd
    obtain ⟨hne, ha, hb⟩ := td _ hw
    have ma : a ∈ o i := by
      have := ixw_mem ha
      simp only [e1] at this
      exact (hp _ hi).symm.subset this
    have mb : b ∈ o i := by
      have := ixw_mem hb
      simp only [e2] at this
      exact (hp _ hi).symm.subset this
    rcases bef_total ma mb hne with h1 | h1
    · exact h1
    · exact absurd (h _ hw) (bef_asym hall (bef_flat ⟨i, ms i hi, h1⟩))
mutual
theorem cntT_eq : ∀ (t : Tr) {told : List Tri}, t.Fm → t.flat.Nodup → TdOk t.flat told → cntT t told = (allTold t).countP fun o => keepT o told
  | .leaf i, told, _, _, td => by
    have : told = [] := by
      cases told with
      | nil => rfl
      | cons w r =>
        obtain ⟨h1, h2, h3⟩ := td w List.mem_cons_self
        rw [Tr.flat, List.mem_singleton] at h2 h3
        exact absurd (h2.trans h3.symm) h1
    subst this
    rw [cntT, allTold]
    rfl
  | .node row ps, told, hf, hn, td => by
    have hf := fm_node.mp hf
    rw [Tr.flat] at hn td
    rw [cntT, allTold, countP_pairs (f := fun s os => pick os s) (p := fun s => keepD s (met ps told)) (q := fun os => keepAll ps told os 0)]
    · rw [cnts_eq ps told ps 0 hf.2.2 (parts_nodup hn) fun i hi => by rw [Nat.zero_add]; exact within_td td hi]
      rfl
    · intro s hs os hos
      have hs := mem_seqs.mp hs
      have hos := (mem_prods ps).mp hos
      have hp : ∀ i (hi : i < ps.length), (os.getD i []).Perm ps[i].flat := fun i hi => told_perm _ (tolds_get hi hos)
      rw [Bool.eq_iff_iff, Bool.and_eq_true, keepAll_iff, tolds_len hos]
      simp only [Nat.zero_add]
      show keepT (s.map fun i => os.getD i []).flatten told = true ↔ _
      exact ⟨fun h => keep_back (row := row) td hn hs (fun i hi => tolds_get hi hos) h, fun h => keep_node (o := fun i => os.getD i []) td hs.perm hp h.1 h.2⟩
theorem cnts_eq (ps0 : List Tr) (told : List Tri) : ∀ (ps : List Tr) (k : Nat), Fms ps → (∀ p ∈ ps, p.flat.Nodup) → (∀ i (hi : i < ps.length), TdOk ps[i].flat (within ps0 told (k + i))) → cnts ps0 told ps k = (prods ps).countP fun os => keepAll ps0 told os k
  | [], k, _, _, _ => by rw [cnts, prods]; rfl
  | p :: ps, k, hf, hn, td => by
    rw [Fms] at hf
    rw [cnts, prods, countP_pairs (f := fun o r => o :: r) (p := fun o => keepT o (within ps0 told k)) (q := fun os => keepAll ps0 told os (k + 1)) fun a _ b _ => rfl]
    have h0 : TdOk p.flat (within ps0 told k) := by
      have := td 0 (by simp)
      simpa using this
    rw [cntT_eq p hf.1 (hn p List.mem_cons_self) h0, cnts_eq ps0 told ps (k + 1) hf.2 (fun q hq => hn q (List.mem_cons_of_mem _ hq)) fun i hi => by
      have := td (i + 1) (by simpa using hi)
      rw [show k + (i + 1) = k + 1 + i by omega] at this
      simpa using this]
end
/-- told orders among all, that keep wishes -/
theorem cnt_all {t : Tr} {told : List Tri} {os : List (List Nat)} (hf : t.Fm) (hn : t.flat.Nodup) (td : TdOk t.flat told) (ho : os.Nodup) (hm : ∀ o, o ∈ os ↔ o.Perm t.flat) {P Q : List Nat → Bool} (hP : ∀ o, P o = true ↔ Told t o) (hQ : ∀ o, Told t o → Q o = keepT o told) :
    ((os.filter P).filter Q).length = cntT t told := by
  rw [cntT_eq t hf hn td, List.countP_eq_length_filter]
  refine same_len ((ho.filter _).filter _) ((allTold_nodup t hf hn).filter _) fun o => ?_
  rw [List.mem_filter, List.mem_filter, List.mem_filter, mem_allTold, hm, hP]
  constructor
  · rintro ⟨⟨h1, h2⟩, h3⟩
    exact ⟨h2, by rw [← hQ o h2]; exact h3⟩
  · rintro ⟨h1, h2⟩
    exact ⟨⟨told_perm t h1, h1⟩, by rw [hQ o h1]; exact h2⟩
end Wk
/-! ## M10 -/
set_option linter.all false
set_option autoImplicit false
/-! Rings: the law's own look says yes; no told order keeps a ring's wishes. -/
namespace Wk
theorem filter_only {p : Nat → Bool} {c : Nat} : ∀ {n : Nat}, c < n → (∀ j, j < n → j ≠ c → p j = false) → (List.range n).filter p = if p c = true then [c] else []
  | n + 1, hc, h => by
    rw [List.range_succ, List.filter_append]
    by_cases e : c = n
    · subst e
      rw [List.filter_eq_nil_iff.mpr, List.nil_append, List.filter_cons, List.filter_nil]
      intro j hj
      have := List.mem_range.mp hj
      rw [h j (by omega) (by omega)]
      decide
    · rw [filter_only (n := n) (by omega) fun j h1 h2 => h j (by omega) h2, List.filter_cons, List.filter_nil, h n (by omega) (fun z => e z.symm)]
      simp
theorem flatMap_only {β : Type} {f : Nat → List β} {c : Nat} : ∀ {n : Nat}, c < n → (∀ j, j < n → j ≠ c → f j = []) → (List.range n).flatMap f = f c
  | n + 1, hc, h => by
    rw [List.range_succ, List.flatMap_append]
    have e1 : [n].flatMap f = f n := by simp
    rw [e1]
    by_cases e : c = n
    · subst e
      have : (List.range c).flatMap f = [] := by
        rw [List.flatMap_eq_nil_iff]
        intro j hj
        have := List.mem_range.mp hj
        exact h j (by omega) (by omega)
      rw [this, List.nil_append]
    · rw [flatMap_only (n := n) (by omega) fun j h1 h2 => h j (by omega) h2, h n (by omega) (fun z => e z.symm), List.append_nil]
def oneStep (ps : List Tr) (w : Nat × Nat) : List (Nat × Nat) := (List.range ps.length).flatMap fun i => ((List.range ps.length).filter fun j =>
    decide (i ≠ j) && decide (w.1 ∈ (ps.getD i (.leaf 0)).flat) && decide (w.2 ∈ (ps.getD j (.leaf 0)).flat)).map fun j => (i, j)
theorem steps_one (ps : List Tr) (ws : List (Nat × Nat)) (r : List Nat) : steps ps ws r = r.flatMap fun x => oneStep ps (ws.getD x (0, 0)) := rfl
theorem getD_part {ps : List Tr} {i : Nat} (h : i < ps.length) : ps.getD i (.leaf 0) = ps[i] := by
  rw [List.getD_eq_getElem?_getD, List.getElem?_eq_getElem h]; rfl
theorem one_step {ps : List Tr} (nd : (flats ps).Nodup) {a b : Nat} (ha : a ∈ flats ps) (hb : b ∈ flats ps) : oneStep ps (a, b) = if ixw ps a = ixw ps b then [] else [(ixw ps a, ixw ps b)] := by
  have la := ixw_lt ha
  have lb := ixw_lt hb
  have ma := ixw_mem ha
  have mb := ixw_mem hb
  unfold oneStep
  rw [flatMap_only la]
  · rw [filter_only lb]
    · rw [getD_part la, getD_part lb]
      by_cases e : ixw ps a = ixw ps b
      · rw [if_pos e, if_neg (by simp [e])]; rfl
      · rw [if_neg e, if_pos (by simp [e, ma, mb])]; rfl
    · intro j hj hne
      rw [getD_part hj]
      have : b ∉ ps[j].flat := fun z => hne (part_one hj lb nd z mb)
      simp [this]
  · intro i hi hne
    rw [getD_part hi]
    have : a ∉ ps[i].flat := fun z => hne (part_one hi la nd z ma)
    rw [List.filter_eq_nil_iff.mpr]
    · rfl
    · intro j _
      simp [this]
theorem numb_get {ws : List (Nat × Nat)} {a b x : Nat} (h : (a, b, x) ∈ numb ws) : ws.getD x (0, 0) = (a, b) := by
  obtain ⟨hx, e⟩ := mem_numb.mp h
  rw [List.getD_eq_getElem?_getD, List.getElem?_eq_getElem hx, Option.getD_some, e]
theorem flatMap_map {α β : Type} {f : α → List β} {g : α → β} {l : List α} (h : ∀ x ∈ l, f x = [g x]) : l.flatMap f = l.map g := by
  induction l with
  | nil => rfl
  | cons a l ih => rw [List.flatMap_cons, List.map_cons, h a List.mem_cons_self, ih fun x hx => h x (List.mem_cons_of_mem _ hx)]; rfl
/-- a wish's two parts -/
def ends (ps : List Tr) (ws : List (Nat × Nat)) (x : Nat) : Nat × Nat := (ixw ps (ws.getD x (0, 0)).1, ixw ps (ws.getD x (0, 0)).2)
theorem steps_met {ps : List Tr} {told : List Tri} {ws : List (Nat × Nat)} {r : List Nat} (nd : (flats ps).Nodup) (td : TdOk (flats ps) told) (sub : ∀ w ∈ told, w ∈ numb ws) (hr : ∀ x ∈ r, ∃ i j, (i, j, x) ∈ met ps told) :
    steps ps ws r = r.map (ends ps ws) := by
  rw [steps_one]
  refine flatMap_map fun x hx => ?_
  obtain ⟨i, j, h⟩ := hr x hx
  obtain ⟨a, b, hw, hne, rfl, rfl⟩ := mem_met.mp h
  obtain ⟨_, ha, hb⟩ := td _ hw
  unfold ends
  rw [numb_get (sub _ hw), one_step nd ha hb, if_neg hne]
theorem ends_met {ps : List Tr} {told : List Tri} {ws : List (Nat × Nat)} (sub : ∀ w ∈ told, w ∈ numb ws) (i j x : Nat) (h : (i, j, x) ∈ met ps told) : ends ps ws x = (i, j) := by
  obtain ⟨a, b, hw, hne, rfl, rfl⟩ := mem_met.mp h
  unfold ends
  rw [numb_get (sub _ hw)]
mutual
theorem ring_law {ws : List (Nat × Nat)} : ∀ (t : Tr) {told : List Tri} {r : List Nat}, t.flat.Nodup → TdOk t.flat told → (∀ w ∈ told, w ∈ numb ws) → RingT t told r → lawRing ws r t = true
  | .leaf i, told, r, _, _, _, h => by rw [RingT] at h; exact h.elim
  | .node row ps, told, r, nd, td, sub, h => by
    rw [Tr.flat] at nd td
    rw [lawRing]
    rcases ring_node_iff.mp h with h | h
    · cases row with
      | true =>
        rw [if_pos rfl] at h
        obtain ⟨i, j, x, i', j', y, h1, h2, h3, h4, rfl⟩ := h
        have e := steps_met (r := [x, y]) nd td sub fun z hz => by
          rcases List.mem_cons.mp hz with rfl | hz
          · exact ⟨i, j, h1⟩
          · rw [List.mem_singleton] at hz
            subst hz
            exact ⟨i', j', h2⟩
        rw [List.map_cons, List.map_cons, List.map_nil, ends_met sub _ _ _ h1, ends_met sub _ _ _ h2] at e
        rw [e, if_pos (show [(i, j), (i', j')].length = [x, y].length from rfl)]
        unfold stepB
        rw [if_pos rfl]
        have a1 : decide (i < j) = true := decide_eq_true h3
        have a2 : decide (i' < j') = false := decide_eq_false (by omega)
        show (decide (2 = 2) && (decide (i < j) != decide (i' < j'))) = true
        rw [a1, a2]; rfl
      | false =>
        rw [if_neg (by decide)] at h
        obtain ⟨s, hw⟩ := h
        have e := steps_met (r := r) nd td sub fun z hz => walk_mem hw z hz
        rw [e, if_pos (by rw [List.length_map])]
        unfold stepB
        rw [if_neg (by decide), List.all_eq_true]
        intro k hk
        exact decide_eq_true ((walk_steps (ends_met sub) hw).all k (List.mem_range.mp hk))
    · obtain ⟨i, hi, h⟩ := ringTs_iff h
      rw [Nat.zero_add] at h
      obtain ⟨h1, h2⟩ := ring_mem _ h
      have e : steps ps ws r = [] := by
        rw [steps_one, List.flatMap_eq_nil_iff]
        intro x hx
        obtain ⟨a, b, hw⟩ := h1 x hx
        obtain ⟨hw, e1, e2⟩ := mem_within.mp hw
        obtain ⟨_, ha, hb⟩ := td _ hw
        rw [numb_get (sub _ hw), one_step nd ha hb, if_pos (by rw [e1, e2])]
      rw [e, if_neg (fun z => h2 (List.eq_nil_of_length_eq_zero z.symm))]
      exact rings_law ps (fun p hp => parts_nodup nd p hp) hi (within_td td hi) (fun w hw => sub w (mem_within.mp hw).1) h
theorem rings_law {ws : List (Nat × Nat)} : ∀ (ps : List Tr) {told : List Tri} {r : List Nat} {i : Nat}, (∀ p ∈ ps, p.flat.Nodup) → ∀ (hi : i < ps.length), TdOk ps[i].flat told → (∀ w ∈ told, w ∈ numb ws) → RingT ps[i] told r → lawRings ws r ps = true
  | p :: ps, told, r, 0, nd, hi, td, sub, h => by
    rw [lawRings, ring_law p (nd p List.mem_cons_self) td sub h]; rfl
  | p :: ps, told, r, i + 1, nd, hi, td, sub, h => by
    rw [lawRings, rings_law ps (i := i) (fun q hq => nd q (List.mem_cons_of_mem _ hq)) (by simpa using hi) td sub h, Bool.or_true]
end
/-! ### no told order keeps a ring -/
theorem walk_bef {dem : List Tri} {i j : Nat} {r s : List Nat} (nd : s.Nodup) (hk : ∀ d ∈ dem, Bef d.1 d.2.1 s) (h : Walk dem i j r) : Bef i j s := by
  induction h with
  | one hd => exact hk _ hd
  | snoc _ hd ih => exact bef_trans nd ih (hk _ hd)
theorem ring_not : ∀ (m : Nat) (t : Tr) {told : List Tri} {r o : List Nat}, t.dep ≤ m → t.flat.Nodup → TdOk t.flat told → RingT t told r → Told t o → keepT o told = true → False
  | 0, t, _, _, _, hm, _, _, _, _, _ => by have := dep_pos t; omega
  | m + 1, .leaf i, told, r, o, hm, nd, td, h, ho, hk => by rw [RingT] at h; exact h
  | m + 1, .node row ps, told, r, o, hm, nd, td, h, ho, hk => by
    rw [Tr.flat] at nd td
    obtain ⟨s, g, hs, hg, rfl⟩ := told_split ho
    obtain ⟨k1, k2⟩ := keep_back td nd hs hg hk
    rw [keepD_iff] at k1
    have sn : s.Nodup := hs.perm.symm.nodup List.nodup_range
    rcases ring_node_iff.mp h with h | h
    · cases row with
      | true =>
        rw [if_pos rfl] at h
        obtain ⟨i, j, x, i', j', y, h1, h2, h3, h4, rfl⟩ := h
        have b1 := k1 _ h1
        have b2 := k1 _ h2
        have lt : ∀ {a b z : Nat}, (a, b, z) ∈ met ps told → a < ps.length ∧ b < ps.length := fun h => by
          obtain ⟨a, b, hw, _, rfl, rfl⟩ := mem_met.mp h
          obtain ⟨_, ha, hb⟩ := td _ hw
          exact ⟨ixw_lt ha, ixw_lt hb⟩
        have hs : s = List.range ps.length ∨ s = (List.range ps.length).reverse := hs
        rcases hs with rfl | rfl
        · have := (bef_range_iff (lt h2).1 (lt h2).2).mp b2
          omega
        · rw [bef_rev] at b1
          have := (bef_range_iff (lt h1).2 (lt h1).1).mp b1
          omega
      | false =>
        rw [if_neg (by decide)] at h
        obtain ⟨c, hw⟩ := h
        have := walk_bef sn k1 hw
        exact bef_asym sn this this
    · obtain ⟨i, hi, h⟩ := ringTs_iff h
      rw [Nat.zero_add] at h
      exact ring_not m ps[i] (dep_part hm (List.getElem_mem hi)) (flats_nodup_part hi nd) (within_td td hi) h (hg i hi) (k2 i hi)
theorem walk_mono {dem dem' : List Tri} {i j : Nat} {r R : List Nat} (hs : ∀ w ∈ dem, w.2.2 ∈ R → w ∈ dem') (h : Walk dem i j r) (hr : ∀ x ∈ r, x ∈ R) : Walk dem' i j r := by
  induction h with
  | one hd => exact .one (hs _ hd (hr _ List.mem_cons_self))
  | snoc _ hd ih => exact .snoc (ih fun x hx => hr x (List.mem_append_left _ hx)) (hs _ hd (hr _ (List.mem_append_right _ (List.mem_singleton_self _))))
theorem ring_mono : ∀ (m : Nat) (t : Tr) {told told' : List Tri} {r : List Nat}, t.dep ≤ m → (∀ w ∈ told, w.2.2 ∈ r → w ∈ told') → RingT t told r → RingT t told' r
  | 0, t, _, _, _, hm, _, _ => by have := dep_pos t; omega
  | m + 1, .leaf i, _, _, _, _, _, h => by rw [RingT] at h; exact h.elim
  | m + 1, .node row ps, told, told', r, hm, hs, h => by
    have hmet : ∀ w ∈ met ps told, w.2.2 ∈ r → w ∈ met ps told' := fun w hw hx => by
      obtain ⟨i, j, x⟩ := w
      obtain ⟨a, b, h1, h2, h3, h4⟩ := mem_met.mp hw
      exact mem_met.mpr ⟨a, b, hs _ h1 hx, h2, h3, h4⟩
    refine ring_node_iff.mpr ?_
    rcases ring_node_iff.mp h with h | h
    · refine .inl ?_
      cases row with
      | true =>
        rw [if_pos rfl] at h ⊢
        obtain ⟨i, j, x, i', j', y, h1, h2, h3, h4, rfl⟩ := h
        exact ⟨i, j, x, i', j', y, hmet _ h1 List.mem_cons_self, hmet _ h2 (List.mem_cons_of_mem _ List.mem_cons_self), h3, h4, rfl⟩
      | false =>
        rw [if_neg (by decide)] at h ⊢
        obtain ⟨c, hw⟩ := h
        exact ⟨c, walk_mono hmet hw fun x hx => hx⟩
    · obtain ⟨i, hi, h⟩ := ringTs_iff h
      refine .inr (ringTs_of (k := 0) hi (ring_mono m ps[i] (dep_part hm (List.getElem_mem hi)) (fun w hw hx => ?_) h))
      obtain ⟨h1, h2, h3⟩ := mem_within.mp hw
      exact mem_within.mpr ⟨hs w h1 hx, h2, h3⟩
theorem ring_none {t : Tr} {ws : List (Nat × Nat)} {r o : List Nat} (nd : t.flat.Nodup) (td : TdOk t.flat (numb ws)) (h : RingT t (numb ws) r) (ho : Told t o) : keepW o (r.map fun x => ws.getD x (0, 0)) = false := by
  rw [Bool.eq_false_iff]
  intro hk
  rw [keepW_iff] at hk
  refine ring_not t.dep t (told := (numb ws).filter fun w => decide (w.2.2 ∈ r)) (Nat.le_refl _) nd (fun w hw => td w (List.mem_filter.mp hw).1) (ring_mono t.dep t (Nat.le_refl _) (fun w hw hx => List.mem_filter.mpr ⟨hw, decide_eq_true hx⟩) h) ho ?_
  rw [keepT_iff]
  rintro ⟨a, b, x⟩ hw
  obtain ⟨h1, h2⟩ := List.mem_filter.mp hw
  have := hk (ws.getD x (0, 0)) (List.mem_map.mpr ⟨x, of_decide_eq_true h2, rfl⟩)
  rw [numb_get h1] at this
  exact this
theorem ring_none_all {t : Tr} {ws : List (Nat × Nat)} {r o : List Nat} (nd : t.flat.Nodup) (td : TdOk t.flat (numb ws)) (h : RingT t (numb ws) r) (ho : Told t o) : keepW o ws = false := by
  rw [Bool.eq_false_iff]
  intro hk
  rw [← keep_numb] at hk
  exact ring_not t.dep t (Nat.le_refl _) nd td h ho hk
end Wk
/-! ## G7 -/
set_option Elab.async false
set_option linter.all false
set_option autoImplicit false
set_option maxRecDepth 100000
set_option maxHeartbeats 4000000
namespace Wk
open PySem PySem.Spec L2
section
variable {K : PySem.W.Frag} {H0 : Hp} {ρ : Ab} {te ta tb tc : TE} {P P1 P2 : PV} {po : Po} {t : TS}
theorem ev_catXs {xs : List D} {S : List D → Prop} (ha : EvP K H0 ta ρ (PL xs)) (hb : EvP K H0 tb ρ (PNs S)) (hl : ∀ ys, S ys → xs.length + ys.length ≤ 1000) : EvP K H0 (tOp rCat ta tb) ρ (PNs fun ds => ∃ ys, S ys ∧ ds = xs ++ ys) :=
  ev_op ha hb fun H H1 H2 x y e1 e2 p1 ⟨ys, hs, p2⟩ Q q => by
    obtain ⟨p, zs, rfl, k1, r1⟩ := p1
    obtain ⟨p', zs', rfl, _, k2, r2⟩ := p2
    refine ⟨p, p', zs, zs', rfl, rfl, e2 _ _ k1, k2, by rw [r1.length, r2.length]; exact Nat.le_of_lt (small1000 (hl ys hs)), fun c nc => q _ _ (ex_new nc) ⟨_, ⟨ys, hs, rfl⟩, c, _, rfl, Same.free (e1.trans e2) nc, upd_same, ?_⟩⟩
    exact ((r1.mono (tex e2)).append r2).mono (tex (ex_new nc))
def EvIs (K : PySem.W.Frag) (H0 : Hp) (wi : TI) (ρ : Ab) (S : List D → Prop) : Prop := ∀ σ H, StOk K H0 ρ σ H → ∀ R : It → Hp → Prop, (∀ J H1 ds, S ds → Ex H H1 → ItP J ds (Ex H1) → R J H1) → wi σ H R
theorem ei_lists {S : List D → Prop} (h : EvP K H0 te ρ (PNs S)) : EvIs K H0 (iList K te) ρ S := fun σ H s R r => by
  refine h σ H s _ fun v H1 e ⟨ds, hs, p⟩ => ?_
  have := ei_list (K := K) (H0 := H0) (te := fun σ' H' Q' => σ' = σ → H' = H → Q' v H1) (ρ := ρ) (ds := ds) (fun σ' H' s' Q' q' e1 e2 => by
    subst e1; subst e2
    exact q' v H1 e p.s) σ H s R fun J H2 e' it => r J H2 ds hs e' it
  exact this rfl rfl
theorem ev_lcs {wi : TI} {g : TG} {tt : TT} {vs : List Nat} {S : List D → Prop} (hj : EvIs K H0 wi ρ S) (h : ∀ ds, S ds → ∀ wi', EvI K H0 wi' ρ ds → EvP K H0 (tLc wi' g tt te vs) ρ P) : EvP K H0 (tLc wi g tt te vs) ρ P := fun σ H s Q q =>
  hj σ H s _ fun J H1 ds hds e it => by
    have := h ds hds (fun σ' H' R => σ' = σ → H' = H → R J H1) (fun σ' H' s' R q' e1 e2 => by
      subst e1; subst e2
      exact q' J H1 e it) σ H s Q q
    exact this rfl rfl
end
section
variable {P : Program} {w : World} {K : PySem.W.Frag} {mg : Str → Option Value} {base : Heap} {f : Addr} {fd : FuncData} {k : Nat}
theorem fact_le5 {n : Nat} (h : n ≤ 5) : fact n ≤ 120 := by
  have : n = 0 ∨ n = 1 ∨ n = 2 ∨ n = 3 ∨ n = 4 ∨ n = 5 := by omega
  rcases this with rfl | rfl | rfl | rfl | rfl | rfl <;> decide
theorem ok_law (T : Tp K mg) (F : Fun K "law" "law" s_law f fd) (C1 : Cal P w K mg base k "_law_keeps" ["_law_order_here", "_law_wishes_here"] pre_keeps) (C2 : Cal P w K mg base k "is_wish_ring" ["tree", "wishes", "indexes"] pre_is_wish_ring)
    (C3 : Cal P w K mg base k "_law_is_wish_ring" ["_law_tree_here", "_law_wishes_here", "_law_indexes"] (pre_lawring 9)) (C4 : Cal P w K mg base k "_law_told" ["_law_tree_here", "_law_order_here"] (pre_told 9)) (C5 : Cal P w K mg base k "count_with_wishes" ["tree", "wishes"] pre_count_with_wishes)
    (C6 : Cal P w K mg base k "_law_orders" ["_law_n"] pre_orders) (C7 : Cal P w K mg base k "_law_cell" ["_law_script", "_law_k"] pre_cell) (C8 : Cal P w K mg base k "_law_rich" ["_law_cell_here"] pre_rich) (C9 : Cal P w K mg base k "_law_drawn_order" ["_law_tree_here", "_law_cell_here"] (pre_drawn_order 9))
    (C10 : Cal P w K mg base k "with_wishes" ["tree", "wishes"] pre_with_wishes) (C11 : Cal P w K mg base k "_law_wishes" ["_law_script", "_law_at", "_law_n", "_law_order_here"] pre_wishes) (C12 : Cal P w K mg base k "_law_tree" ["_law_cell_here", "_law_n"] pre_tree) (C13 : Cal P w K mg base k "_law_digits" ["_law_cell_here", "_law_sizes"] pre_digits) :
    FnOk P w K mg base CX0 (k + 1) f fd ["_law_script"] (spec K pre_law) := by
  refine okOf F sc_law (by decide) (by rintro _ _ ⟨_, rfl, _⟩; rfl) fun cdv Aa outer s H0 E hr => ⟨_, d_law T (C__law_keeps := C1) (C_is_wish_ring := C2) (C__law_is_wish_ring := C3) (C__law_told := C4) (C_count_with_wishes := C5) (C__law_orders := C6) (C__law_cell := C7) (C__law_rich := C8) (C__law_drawn_order := C9) (C_with_wishes := C10) (C__law_wishes := C11) (C__law_tree := C12) (C__law_digits := C13) hr, ?_⟩
  rintro _ _ pf ⟨ns, rfl, hnl, rfl⟩
  show Sx K H0 (t_law K 9 9 9) [.b (pf 0) (ns.map D.int), .u, .u, .u, .u, .u, .u, .u, .u, .u, .u, .u] _
  have ecell : ∀ (ρ : Ab) (j : Nat), ρ[0]? = some (.b (pf 0) (ns.map D.int)) → EvP K H0 (tCall (spec K pre_cell) [] E0 (tCons (tVar 0) (tCons (tC (.int (j : Int))) tNil))) ρ PZ := fun ρ j h => ev_callDs (ea_s (ev_varB h) (ea_d (ev_int (i := (j : Int))) ea_nil)) ⟨ns, j, rfl, rfl⟩
  have erich : ∀ (ρ : Ab) (te : TE), EvP K H0 te ρ PZ → EvP K H0 (tCall (spec K pre_rich) [] E0 (tCons te tNil)) ρ PZ := fun ρ te h => ev_callADs (ean_i h ea_nil.n) (by
    rintro as ⟨i, r, rfl, rfl⟩
    exact ⟨i, rfl, rfl⟩)
  refine sx_seq (sx_setNs (S := All2 (fun m d => ∃ z : Nat, d = di z ∧ z < m) [9, 2]) (ev_callANs (ean_i (erich _ _ (ecell _ 0 rfl)) (ea_s (ev_lst (ds := dis [9, 2]) (ea_d ev_int (ea_d ev_int ea_nil)) (by show 2 ≤ 1000; decide)).S ea_nil).n) ?_) fun pd ds hds => ?_)
  · rintro as ⟨i, r, rfl, rfl⟩
    refine ⟨i, [9, 2], rfl, ?_, by show 2 ≤ 9; decide, ?_, rfl⟩
    · intro m hm
      simp at hm
      omega
    · intro m hm
      simp at hm
      omega
  obtain ⟨_, _, rfl, ⟨a, rfl, ha⟩, ⟨b, rfl, hb⟩⟩ := all2_two hds
  obtain ⟨y, hy, hy5⟩ := fmod_nat (c := (a : Int)) (m := 5) (by omega)
  obtain ⟨n, hn⟩ : ∃ n, n = 1 + (if b = 0 then a else y) := ⟨_, rfl⟩
  have hn1 : 1 ≤ n := by rw [hn]; omega
  have hn9 : n ≤ 9 := by
    rw [hn]
    split <;> omega
  refine sx_seq (sx_setD (d := di n) ((ev_ii (g := fun i j => i + j) (i := 1) (j := ((if b = 0 then a else y : Nat) : Int)) ev_int (ev_ixL (ds := [di a, di y]) (i := (b : Int)) (ev_lst (ds := [di a, di y]) (ea_d (ev_ixL (ev_varL rfl) ev_int atI_0) (ea_d ((ev_iiC (C := fun _ j => j ≠ 0) (g := fun i j => i.fmod j) (i := (a : Int)) (j := 5) (ev_intI (ev_ixL (ev_varL rfl) ev_int atI_0)) ev_int (by decide)).eqD (by
      have hy : (a : Int).fmod 5 = (y : Int) := hy
      rw [hy]; rfl)) ea_nil)) (by show 2 ≤ 1000; decide)).S (ev_ixL (ev_varL rfl) ev_int atI_1) ?_)).eqD ?_) ?_)
  · have : b = 0 ∨ b = 1 := by omega
    rcases this with rfl | rfl
    · exact atI_0
    · exact atI_1
  · rw [hn]
    show D.int _ = D.int _
    congr 1
  refine sx_seq (sx_setDs (S := fun d => ∃ t : Tr, d = t.enc ∧ t.Ok n) (ev_callADs (ean_i (ecell _ 1 rfl) (ea_d (ev_var rfl) ea_nil).n) (by
    rintro as ⟨i, r, rfl, rfl⟩
    exact ⟨i, n, rfl, hn1, hn9, rfl⟩)) fun d hd => ?_)
  obtain ⟨t, rfl, ht⟩ := hd
  have htl : t.flat.length = n := ht.len
  have htn : t.flat.Nodup := ht.pm.symm.nodup List.nodup_range
  have edrawn : ∀ (ρ : Ab) (te : TE), ρ[3]? = some (.d t.enc) → EvP K H0 te ρ PZ → EvP K H0 (tCall (spec K (pre_drawn_order 9)) [] E0 (tCons (tVar 3) (tCons te tNil))) ρ (PDs fun d => ∃ o : List Nat, d = .ntup (dis o) ∧ Told t o) := fun ρ te h h2 => ev_callADs (ean_d (ev_var h) (ean_i h2 ea_nil.n)) (by
    rintro as ⟨r, rfl, i, r, rfl, rfl⟩
    exact ⟨t, i, rfl, ht.dep, by omega, ht.fm, rfl⟩)
  refine sx_seq (sx_setDs (edrawn _ _ rfl (erich _ _ (ecell _ 2 rfl))) fun d hd => ?_)
  obtain ⟨o, rfl, ho⟩ := hd
  have hop : o.Perm (List.range n) := (told_perm t ho).trans ht.pm
  refine sx_seq (sx_setDs (S := fun d => ∃ ws : List (Nat × Nat), d = .tup (ws.map encW) ∧ WsOk n ws ∧ ws.length ≤ 6) (ev_callDs (ea_s (ev_varB rfl) (ea_d ev_int (ea_d (ev_var rfl) (ea_d (ev_weak (ev_var rfl)) ea_nil)))) ⟨ns, n, o, rfl, hn1, hn9, hop, rfl⟩) fun d hd => ?_)
  obtain ⟨ws, rfl, hws, hwl⟩ := hd
  have tw : TwOk n t ws := ⟨ht, hws, hwl, ht.dep⟩
  have tt := tw.tt
  have hin : ∀ {q : List Nat}, Told t q → q.Nodup ∧ q.length ≤ 9 ∧ ∀ x, x < n → x ∈ q := fun {q} hq => by
    have h1 := (told_perm t hq).trans ht.pm
    exact ⟨h1.symm.nodup List.nodup_range, by rw [h1.length_eq, List.length_range]; exact hn9, fun x hx => h1.symm.subset (List.mem_range.mpr hx)⟩
  have ekeep : ∀ (ρ : Ab) (te tw : TE) (q : List Nat) (us : List (Nat × Nat)), Told t q → (∀ u ∈ us, u ∈ ws) → us.length ≤ 100 → EvP K H0 te ρ (PD (.ntup (dis q))) → EvP K H0 tw ρ (PD (.tup (us.map encW))) ∨ EvP K H0 tw ρ (PS K (us.map encW)) →
      EvP K H0 (tCall (spec K pre_keeps) [] E0 (tCons te (tCons tw tNil))) ρ (PD (.bl (keepW q us))) := fun ρ te tw q us hq hus hul h1 h2 => by
    obtain ⟨q1, q2, q3⟩ := hin hq
    have hall : ∀ u ∈ us, u.1 ≠ u.2 ∧ u.1 ∈ q ∧ u.2 ∈ q := fun u hu => by
      obtain ⟨a1, a2, a3⟩ := hws u (hus u hu)
      exact ⟨a1, q3 _ a2, q3 _ a3⟩
    rcases h2 with h2 | h2
    · exact ev_callD (ea_d h1 (ea_d h2 ea_nil)) ⟨q, us, _, rfl, .inl rfl, q1, hall, hul, q2, rfl⟩
    · exact ev_callD (ea_d h1 (ea_s h2 ea_nil)) ⟨q, us, _, rfl, .inr rfl, q1, hall, hul, q2, rfl⟩
  have etold : ∀ (ρ : Ab) (te : TE) (q : List Nat), ρ[3]? = some (.d t.enc) → q.Perm t.flat → EvP K H0 te ρ (PD (.tup (dis q))) → EvP K H0 (tCall (spec K (pre_told 9)) [] E0 (tCons (tVar 3) (tCons te tNil))) ρ (PD (.bl (toldB t q))) := fun ρ te q h hq h2 =>
    ev_callD (ea_d (ev_var h) (ea_d h2 ea_nil)) ⟨t, q, rfl, ht.dep, ht.dep, ht.fm, htn, by omega, hq, rfl⟩
  refine sx_seq (sx_setDs (ev_callDs (ea_d (ev_var rfl) (ea_d (ev_var rfl) ea_nil)) ⟨n, t, ws, rfl, tw, rfl⟩) fun dw hdw => ?_)
  have hpair : ∃ s e, dw = .tup [.str s, e] ∧ kitB (tyD e) "tuple" = some true ∧ withS t ws dw := by
    rcases hdw with ⟨q, rfl, h⟩ | ⟨r, rfl, h⟩
    · exact ⟨_, _, rfl, by show kitB "tuple" "tuple" = some true; decide +kernel, .inl ⟨q, rfl, h⟩⟩
    · exact ⟨_, _, rfl, by show kitB "tuple" "tuple" = some true; decide +kernel, .inr ⟨r, rfl, h⟩⟩
  obtain ⟨sw, ew, rfl, hty, hdw⟩ := hpair
  refine sx_seq (sx_if (b := false) ((et_or (et_not (et_B (ev_isi (b := true) (ev_var rfl) (by show kitB "tuple" "tuple" = some true; decide +kernel)))) fun _ => et_test (ev_neI (ev_lenT (ev_var rfl)) ev_int)).eqT rfl) (fun h => nomatch h) fun _ => sx_next ?_)
  obtain ⟨eo, heo⟩ : ∃ eo : List Nat → D, eo = fun o => .ntup (dis o) := ⟨_, rfl⟩
  refine sx_seq (sx_setNs (S := fun ds => ∃ dl : List (List Nat), ds = dl.map eo ∧ (∀ q ∈ dl, Told t q) ∧ dl.length ≤ 1000) ((ev_catXs (xs := [.ntup (dis o)]) (ev_lst (ds := [.ntup (dis o)]) (ea_d (ev_var rfl) ea_nil) (by show 1 ≤ 1000; decide)).X (ev_lcR1 (xs := List.range 6) di (fun _ d => ∃ q : List Nat, d = .ntup (dis q) ∧ Told t q) (ej_range (n := 6) (ea_d ev_int ea_nil) (by omega)).i (by decide) fun x hx => ?_) fun ys hys => ?_).to fun H v H' ⟨ds, h1, h2⟩ => ?_) fun p7 ds hds => ?_)
  · exact tg_name (edrawn _ _ rfl (erich _ _ (ev_iiN (g := fun i j => i + j) (ecell _ 3 rfl) ((ev_var rfl).any ⟨(x : Int), rfl⟩)))) (by decide)
  · have := hys.length
    rw [this]
    show 1 + 6 ≤ 1000
    decide
  · obtain ⟨ys, hys, rfl⟩ := h1
    have hyl := hys.length
    have : ∀ (xs : List Nat) (ys : List D), All2 (fun _ d => ∃ q : List Nat, d = .ntup (dis q) ∧ Told t q) xs ys → ∃ dl : List (List Nat), ys = dl.map eo ∧ ∀ q ∈ dl, Told t q := by
      intro xs ys h
      induction h with
      | nil => exact ⟨[], rfl, nofun⟩
      | cons h1 _ ih =>
        obtain ⟨q, rfl, hq⟩ := h1
        obtain ⟨dl, rfl, hdl⟩ := ih
        refine ⟨q :: dl, by rw [List.map_cons, heo], fun z hz => ?_⟩
        rcases List.mem_cons.mp hz with rfl | hz
        · exact hq
        · exact hdl z hz
    obtain ⟨dl, rfl, hdl⟩ := this _ _ hys
    refine ⟨_, ⟨o :: dl, by rw [List.map_cons, heo]; rfl, fun z hz => ?_, ?_⟩, h2⟩
    · rcases List.mem_cons.mp hz with rfl | hz
      · exact ho
      · exact hdl z hz
    · rw [List.length_map, List.length_range] at hyl
      rw [List.length_cons, hyl]
      decide
  obtain ⟨dl, rfl, hdl, hdll⟩ := hds
  refine sx_seq (Sx.imp (M := fun ρ => ∃ (p7 : Addr) (dl : List (List Nat)), ρ = [.b (pf 0) (ns.map D.int), .l pd [di a, di b], .d (di n), .d t.enc, .d (.ntup (dis o)), .d (.tup (ws.map encW)), .d (.tup [.str sw, ew]), .l p7 (dl.map eo), .u, .u, .u, .u] ∧ (∀ q ∈ dl, Told t q) ∧ dl.length ≤ 1000) ?_ ?_)
  · refine sx_if (et_test (ev_ib (g := fun i j => decide (i < j)) (i := (n : Int)) (j := 6) (ev_var rfl) ev_int)) (fun hb6 => ?_) fun _ => sx_next ⟨p7, dl, rfl, hdl, hdll⟩
    have hn5 : n ≤ 5 := by
      have := of_decide_eq_true hb6
      omega
    refine sx_seq (sx_setNs (S := fun ds => ∃ os : List (List Nat), ds = (os.filter (toldB t)).map eo ∧ os.Nodup ∧ (∀ q, q ∈ os ↔ q.Perm (List.range n)) ∧ os.length ≤ 120) (ev_lcs (ei_lists (ev_callNs (ea_d (ev_var rfl) ea_nil) ⟨n, rfl, hn5, rfl⟩)) fun ds hds wi hwi => ?_) fun p8 ds hds => ?_)
    · obtain ⟨os, rfl, h1, h2⟩ := hds
      have hol : os.length ≤ 120 := by
        rw [same_len h1 (permsR_nodup n) fun q => by rw [h2, permsR_iff], permsR_len]
        exact fact_le5 hn5
      refine (ev_lc (xs := os) (fun q => .ntup (dis q)) (toldB t) eo hwi (by omega) fun q hq => ?_).to fun H v H' hN => ⟨_, ⟨os, rfl, h1, h2, hol⟩, hN⟩
      exact tg_name ⟨et_B (etold _ _ q rfl (((h2 q).mp hq).trans ht.pm.symm) (ev_weak (ev_var rfl))), fun _ => (ev_var rfl).eqD (by rw [heo])⟩ (by decide)
    · obtain ⟨os, rfl, h1, h2, h3⟩ := hds
      have hfl : (os.filter (toldB t)).length ≤ 120 := Nat.le_trans (List.length_filter_le _ _) h3
      have hfm : ∀ q ∈ os.filter (toldB t), Told t q := fun q hq => toldB_iff.mp (List.mem_filter.mp hq).2
      refine sx_if (b := false) ((et_test (ev_neI (i := ((cntT t (numb ws) : Nat) : Int)) (ev_callD (ea_d (ev_var rfl) (ea_d (ev_var rfl) ea_nil)) ⟨n, t, ws, rfl, tw, by omega, rfl⟩) (ev_lenL (ds := ((os.filter (toldB t)).filter fun q => keepW q ws).map eo) (ev_lc (xs := os.filter (toldB t)) eo (fun q => keepW q ws) eo (ei_list (ev_varL rfl)) (by omega) fun q hq => ?_).S))).eqT ?_) (fun h => nomatch h) fun _ => sx_next ⟨p8, os.filter (toldB t), rfl, hfm, by omega⟩
      · exact tg_name ⟨et_B (ekeep _ _ _ q ws (hfm q hq) (fun u hu => hu) (by omega) ((ev_var rfl).eqD (by rw [heo])) (.inl (ev_var rfl))), fun _ => ev_var rfl⟩ (by decide)
      · rw [List.length_map, cnt_all (t := t) (told := numb ws) ht.fm htn tt.td h1 (fun q => by rw [h2]; exact ⟨fun h => h.trans ht.pm.symm, fun h => h.trans ht.pm⟩) (fun q => toldB_iff) fun q _ => keep_numb.symm]
        simp
  · rintro ρ ⟨p7, dl, rfl, hdl, hdll⟩
    have eT0 : ∀ ρ : Ab, ρ[6]? = some (.d (.tup [.str sw, ew])) → EvP K H0 (tOp (rIxT K) (tVar 6) (tC (.int 0))) ρ (PD (.str sw)) := fun ρ h => ev_ixT (ev_var h) ev_int atI_0
    have eT1 : ∀ ρ : Ab, ρ[6]? = some (.d (.tup [.str sw, ew])) → EvP K H0 (tOp (rIxT K) (tVar 6) (tC (.int 1))) ρ (PD ew) := fun ρ h => ev_ixT (ev_var h) ev_int atI_1
    refine sx_seq (sx_if (et_test (ev_eqS (eT0 _ rfl) ev_str)) (fun hbo => ?_) fun hbo => sx_next ?_)
    · have hbo := of_decide_eq_true hbo
      rcases hdw with ⟨q, e, hq, hk⟩ | ⟨r, e, hr⟩
      · cases e
        refine sx_retD ((ev_andV (ev_isi (eT1 _ rfl) hty) fun _ => ev_andV (etold _ _ q rfl (told_perm t hq) (ev_weak (eT1 _ rfl))) fun _ => ekeep _ _ _ q ws hq (fun u hu => hu) (by omega) (eT1 _ rfl) (.inl (ev_var rfl))).eqD ?_) fun v H' r => r
        rw [toldB_iff.mpr hq, ← keep_numb, hk]; rfl
      · cases e
        exact absurd hbo (by decide +kernel)
    · have hbo := of_decide_eq_false hbo
      rcases hdw with ⟨q, e, hq, hk⟩ | ⟨r, e, hrl, hr⟩
      · cases e
        exact absurd rfl hbo
      · cases e
        obtain ⟨hr1, hr2⟩ := ring_mem t hr
        have hrw : ∀ x ∈ r, x < ws.length := fun x hx => by
          obtain ⟨a, b, h⟩ := hr1 x hx
          exact (mem_numb.mp h).1
        have hlaw := ring_law (ws := ws) t htn tt.td (fun w h => h) hr
        refine sx_seq (sx_if (b := false) ((et_or (et_test (ev_neS (eT0 _ rfl) ev_str)) fun _ => et_or (et_not (et_B (ev_isi (eT1 _ rfl) hty))) fun _ => et_not (et_B (ev_callD (ea_d (ev_var rfl) (ea_d (ev_var rfl) (ea_d (eT1 _ rfl) ea_nil))) ⟨t, ws, r, rfl, ht.dep, ht.dep, by omega, htn, ht.fm, hr2, hrw, hwl, hrl, rfl⟩))).eqT ?_) (fun h => nomatch h) fun _ => sx_next ?_)
        · rw [hlaw]
          decide +kernel
        · refine sx_seq (sx_if (b := false) ((et_or (et_test (ev_notBl (ev_callD (ea_d (ev_var rfl) (ea_d (ev_var rfl) (ea_d (eT1 _ rfl) ea_nil))) ⟨n, t, ws, r, rfl, tw, hrl, hr, rfl⟩) ev_bl)) fun _ => et_B (ekeep _ _ _ o ws ho (fun u hu => hu) (by omega) (ev_var rfl) (.inl (ev_var rfl)))).eqT ?_) (fun h => nomatch h) fun _ => sx_next ?_)
          · rw [ring_none_all htn tt.td hr ho]; rfl
          · refine sx_seq (sx_setN (ds := (r.map fun x => ws.getD x (0, 0)).map encW) ((ev_lc1 (xs := r) di (fun x => encW (ws.getD x (0, 0))) (ej_tup (ds := dis r) (eT1 _ rfl)).i (by omega) fun x hx => ?_).eqN (by rw [List.map_map]; rfl)) fun p8 => ?_)
            · exact tg_name (ev_ixT (ev_var rfl) (ev_var rfl) (atI_dn (encW_at (hrw x hx)))) (by decide)
            · have hsub : ∀ u ∈ r.map (fun x => ws.getD x (0, 0)), u ∈ ws := fun u hu => by
                obtain ⟨x, hx, rfl⟩ := List.mem_map.mp hu
                have := hrw x hx
                rw [List.getD_eq_getElem?_getD, List.getElem?_eq_getElem this]
                exact List.getElem_mem this
              refine sx_retD ((ev_eqLN (ds := []) ((ev_lc (xs := dl) eo (fun q => keepW q (r.map fun x => ws.getD x (0, 0))) eo (ei_list (ev_varL rfl)) (by omega) fun q hq => ?_).S.eqS ?_) ev_lst0.S shaped_lnil).eqD (by rfl)) fun v H' r => r
              · exact tg_name ⟨et_B (ekeep _ _ _ q _ (hdl q hq) hsub (by rw [List.length_map]; exact hrl) ((ev_var rfl).eqD (by rw [heo])) (.inr (ev_varL rfl))), fun _ => ev_var rfl⟩ (by decide)
              · have : (dl.filter fun q => keepW q (r.map fun x => ws.getD x (0, 0))) = [] := by
                  rw [List.filter_eq_nil_iff]
                  intro q hq
                  rw [ring_none htn tt.td hr (hdl q hq)]
                  decide
                rw [this]; rfl
end
end Wk
/-! ## H1 -/
set_option Elab.async false
set_option linter.all false
set_option autoImplicit false
set_option maxRecDepth 100000
set_option maxHeartbeats 4000000
/-! The chain of promises, from the defs of the top. -/
namespace Wk
open PySem PySem.Spec L2 PyProof.Rows
/-- a def of the top: its function object, its name's value -/
structure Df (K : PySem.W.Frag) (mg : Str → Option Value) (x : Str) (st : Stmt) (ps : List Str) : Prop where
  ex : ∃ (f : Addr) (fd : FuncData), Fun K x x st f fd ∧ mg x = some (.ref f) ∧ Binds K fd ps []
section
variable {P : Program} {w : World} {K : PySem.W.Frag} {mg : Str → Option Value} {base : Heap}
theorem Df.cal {x : Str} {st : Stmt} {ps : List Str} {k : Nat} {pre : List Ar → PV → Prop} (d : Df K mg x st ps) (h : ∀ f fd, Fun K x x st f fd → FnOk P w K mg base CX0 k f fd ps (spec K pre)) : Cal P w K mg base k x ps pre := by
  obtain ⟨f, fd, F, g, b⟩ := d.ex
  exact ⟨f, fd, h f fd F, g, F.kp, b⟩
theorem Df.deep {x : Str} {st : Stmt} {ps : List Str} {pre : Nat → List Ar → PV → Prop} {M : Nat} (d : Df K mg x st ps) (h0 : ∀ as R, ¬ pre 0 as R) (k0 : Nat) (h : ∀ k m f fd, k0 ≤ k → m + 1 ≤ M → Fun K x x st f fd → Cal P w K mg base k x ps (pre m) → FnOk P w K mg base CX0 (k + 1) f fd ps (spec K (pre (m + 1)))) :
    ∀ m, m ≤ M → Cal P w K mg base (k0 + m) x ps (pre m)
  | 0, _ => d.cal fun f fd _ => ok_none h0
  | m + 1, hm => d.cal fun f fd F => h (k0 + m) m f fd (Nat.le_add_right _ _) hm F (Df.deep d h0 k0 h m (Nat.le_of_succ_le hm))
structure Defs (K : PySem.W.Frag) (mg : Str → Option Value) : Prop where
  d_is_size : Df K mg "is_size" s_is_size ["n"]
  d_is_thing : Df K mg "is_thing" s_is_thing ["tree"]
  d_listed : Df K mg "listed" s_listed ["tree"]
  d_has_form : Df K mg "has_form" s_has_form ["tree"]
  d_check_tree : Df K mg "check_tree" s_check_tree ["n", "tree"]
  d_need_tree : Df K mg "need_tree" s_need_tree ["tree"]
  d_need_few_parts : Df K mg "need_few_parts" s_need_few_parts ["tree"]
  d_check_different : Df K mg "check_different" s_check_different ["tree", "things"]
  d_index_with : Df K mg "index_with" s_index_with ["parts", "thing"]
  d_check_wishes : Df K mg "check_wishes" s_check_wishes ["tree", "wishes"]
  d_numbered : Df K mg "numbered" s_numbered ["wishes"]
  d_met_here : Df K mg "met_here" s_met_here ["parts", "told"]
  d_met_within : Df K mg "met_within" s_met_within ["parts", "told", "part"]
  d_ring_from : Df K mg "ring_from" s_ring_from ["start", "demands"]
  d_ring_of_any : Df K mg "ring_of_any" s_ring_of_any ["k", "demands"]
  d_ring_of_row : Df K mg "ring_of_row" s_ring_of_row ["demands"]
  d_sequence_for : Df K mg "sequence_for" s_sequence_for ["k", "demands"]
  d_kept_within : Df K mg "kept_within" s_kept_within ["tree", "told"]
  d_with_wishes : Df K mg "with_wishes" s_with_wishes ["tree", "wishes"]
  d_sequences_kept : Df K mg "sequences_kept" s_sequences_kept ["k", "demands"]
  d_count_within : Df K mg "count_within" s_count_within ["tree", "told"]
  d_count_with_wishes : Df K mg "count_with_wishes" s_count_with_wishes ["tree", "wishes"]
  d_is_wish_ring : Df K mg "is_wish_ring" s_is_wish_ring ["tree", "wishes", "indexes"]
  d__law_cell : Df K mg "_law_cell" s__law_cell ["_law_script", "_law_k"]
  d__law_digits : Df K mg "_law_digits" s__law_digits ["_law_cell_here", "_law_sizes"]
  d__law_rich : Df K mg "_law_rich" s__law_rich ["_law_cell_here"]
  d__law_order : Df K mg "_law_order" s__law_order ["_law_cell_here", "_law_n"]
  d__law_things : Df K mg "_law_things" s__law_things ["_law_tree_here"]
  d__law_told : Df K mg "_law_told" s__law_told ["_law_tree_here", "_law_order_here"]
  d__law_tree : Df K mg "_law_tree" s__law_tree ["_law_cell_here", "_law_n"]
  d__law_shuffled : Df K mg "_law_shuffled" s__law_shuffled ["_law_tree_here", "_law_cell_here"]
  d__law_orders : Df K mg "_law_orders" s__law_orders ["_law_n"]
  d__law_drawn_order : Df K mg "_law_drawn_order" s__law_drawn_order ["_law_tree_here", "_law_cell_here"]
  d__law_wishes : Df K mg "_law_wishes" s__law_wishes ["_law_script", "_law_at", "_law_n", "_law_order_here"]
  d__law_keeps : Df K mg "_law_keeps" s__law_keeps ["_law_order_here", "_law_wishes_here"]
  d__law_is_wish_ring : Df K mg "_law_is_wish_ring" s__law_is_wish_ring ["_law_tree_here", "_law_wishes_here", "_law_indexes"]
  d_law : Df K mg "law" s_law ["_law_script"]
theorem no_dep {t : Tr} (h : t.dep ≤ 0) : False := by have := dep_pos t; omega
theorem law_chain (T : Tp K mg) (D : Defs K mg) : ∃ (f : Addr) (fd : FuncData), Fun K "law" "law" s_law f fd ∧ mg "law" = some (.ref f) ∧ FnOk P w K mg base CX0 23 f fd ["_law_script"] (spec K pre_law) := by
  have c_is_size : Cal P w K mg base 1 "is_size" ["n"] pre_is_size := D.d_is_size.cal fun f fd F => ok_is_size (k := 0) T F 
  have c_is_thing : Cal P w K mg base 1 "is_thing" ["tree"] pre_is_thing := D.d_is_thing.cal fun f fd F => ok_is_thing (k := 0) T F 
  have c_listed : Cal P w K mg base 10 "listed" ["tree"] (pre_listed 9) := (D.d_listed.deep (pre := pre_listed) (M := 9) ?n_listed 1 fun k m f fd hk hm F C => ok_listed T F (c_is_thing.mono (by omega)) C) 9 (by omega)
  have c_has_form : Cal P w K mg base 10 "has_form" ["tree"] (pre_has_form 9) := (D.d_has_form.deep (pre := pre_has_form) (M := 9) ?n_has_form 1 fun k m f fd hk hm F C => ok_has_form T F (c_is_thing.mono (by omega)) C) 9 (by omega)
  have c_check_tree : Cal P w K mg base 11 "check_tree" ["n", "tree"] pre_check_tree := D.d_check_tree.cal fun f fd F => ok_check_tree (k := 10) T F (c_is_size.mono (by omega)) (c_has_form.mono (by omega)) (c_listed.mono (by omega))
  have c_need_tree : Cal P w K mg base 12 "need_tree" ["tree"] pre_need_tree := D.d_need_tree.cal fun f fd F => ok_need_tree (k := 11) T F (c_check_tree.mono (by omega)) (c_has_form.mono (by omega)) (c_listed.mono (by omega))
  have c_need_few_parts : Cal P w K mg base 10 "need_few_parts" ["tree"] (pre_need_few_parts 9) := (D.d_need_few_parts.deep (pre := pre_need_few_parts) (M := 9) ?n_need_few_parts 1 fun k m f fd hk hm F C => ok_need_few_parts T F (c_is_thing.mono (by omega)) C) 9 (by omega)
  have c_check_different : Cal P w K mg base 13 "check_different" ["tree", "things"] pre_check_different := D.d_check_different.cal fun f fd F => ok_check_different (k := 12) T F (c_need_tree.mono (by omega)) (c_listed.mono (by omega))
  have c_index_with : Cal P w K mg base 11 "index_with" ["parts", "thing"] pre_index_with := D.d_index_with.cal fun f fd F => ok_index_with (k := 10) T F (c_listed.mono (by omega))
  have c_check_wishes : Cal P w K mg base 14 "check_wishes" ["tree", "wishes"] pre_check_wishes := D.d_check_wishes.cal fun f fd F => ok_check_wishes (k := 13) T F (c_need_tree.mono (by omega)) (c_check_different.mono (by omega))
  have c_numbered : Cal P w K mg base 1 "numbered" ["wishes"] pre_numbered := D.d_numbered.cal fun f fd F => ok_numbered (k := 0) T F 
  have c_met_here : Cal P w K mg base 12 "met_here" ["parts", "told"] pre_met_here := D.d_met_here.cal fun f fd F => ok_met_here (k := 11) T F (c_index_with.mono (by omega))
  have c_met_within : Cal P w K mg base 12 "met_within" ["parts", "told", "part"] pre_met_within := D.d_met_within.cal fun f fd F => ok_met_within (k := 11) T F (c_index_with.mono (by omega))
  have c_ring_from : Cal P w K mg base 1 "ring_from" ["start", "demands"] pre_ring_from := D.d_ring_from.cal fun f fd F => ok_ring_from (k := 0) T F 
  have c_ring_of_any : Cal P w K mg base 2 "ring_of_any" ["k", "demands"] pre_ring_of_any := D.d_ring_of_any.cal fun f fd F => ok_ring_of_any (k := 1) T F (c_ring_from.mono (by omega))
  have c_ring_of_row : Cal P w K mg base 1 "ring_of_row" ["demands"] pre_ring_of_row := D.d_ring_of_row.cal fun f fd F => ok_ring_of_row (k := 0) T F 
  have c_sequence_for : Cal P w K mg base 1 "sequence_for" ["k", "demands"] pre_sequence_for := D.d_sequence_for.cal fun f fd F => ok_sequence_for (k := 0) T F 
  have c_kept_within : Cal P w K mg base 21 "kept_within" ["tree", "told"] (pre_kept_within 9) := (D.d_kept_within.deep (pre := pre_kept_within) (M := 9) ?n_kept_within 12 fun k m f fd hk hm F C => ok_kept_within T F (c_is_thing.mono (by omega)) (c_met_here.mono (by omega)) (c_met_within.mono (by omega)) (c_ring_of_any.mono (by omega)) (c_ring_of_row.mono (by omega)) (c_sequence_for.mono (by omega)) C) 9 (by omega)
  have c_with_wishes : Cal P w K mg base 22 "with_wishes" ["tree", "wishes"] pre_with_wishes := D.d_with_wishes.cal fun f fd F => ok_with_wishes (k := 21) T F (c_check_wishes.mono (by omega)) (c_numbered.mono (by omega)) (c_kept_within.mono (by omega))
  have c_sequences_kept : Cal P w K mg base 1 "sequences_kept" ["k", "demands"] pre_sequences_kept := D.d_sequences_kept.cal fun f fd F => ok_sequences_kept (k := 0) T F 
  have c_count_within : Cal P w K mg base 21 "count_within" ["tree", "told"] (pre_count_within 9) := (D.d_count_within.deep (pre := pre_count_within) (M := 9) ?n_count_within 12 fun k m f fd hk hm F C => ok_count_within T F (c_is_thing.mono (by omega)) (c_met_here.mono (by omega)) (c_met_within.mono (by omega)) (c_sequences_kept.mono (by omega)) C) 9 (by omega)
  have c_count_with_wishes : Cal P w K mg base 22 "count_with_wishes" ["tree", "wishes"] pre_count_with_wishes := D.d_count_with_wishes.cal fun f fd F => ok_count_with_wishes (k := 21) T F (c_check_wishes.mono (by omega)) (c_numbered.mono (by omega)) (c_count_within.mono (by omega)) (c_need_few_parts.mono (by omega))
  have c_is_wish_ring : Cal P w K mg base 15 "is_wish_ring" ["tree", "wishes", "indexes"] pre_is_wish_ring := D.d_is_wish_ring.cal fun f fd F => ok_is_wish_ring (k := 14) T F (c_check_wishes.mono (by omega)) (c_is_thing.mono (by omega)) (c_index_with.mono (by omega))
  have c__law_cell : Cal P w K mg base 1 "_law_cell" ["_law_script", "_law_k"] pre_cell := D.d__law_cell.cal fun f fd F => ok__law_cell (k := 0) T F 
  have c__law_digits : Cal P w K mg base 1 "_law_digits" ["_law_cell_here", "_law_sizes"] pre_digits := D.d__law_digits.cal fun f fd F => ok__law_digits (k := 0) T F 
  have c__law_rich : Cal P w K mg base 1 "_law_rich" ["_law_cell_here"] pre_rich := D.d__law_rich.cal fun f fd F => ok__law_rich (k := 0) T F 
  have c__law_order : Cal P w K mg base 2 "_law_order" ["_law_cell_here", "_law_n"] pre_order := D.d__law_order.cal fun f fd F => ok__law_order (k := 1) T F (c__law_rich.mono (by omega))
  have c__law_things : Cal P w K mg base 9 "_law_things" ["_law_tree_here"] (pre_things 9) := (D.d__law_things.deep (pre := pre_things) (M := 9) ?n__law_things 0 fun k m f fd hk hm F C => ok__law_things T F  C) 9 (by omega)
  have c__law_told : Cal P w K mg base 18 "_law_told" ["_law_tree_here", "_law_order_here"] (pre_told 9) := (D.d__law_told.deep (pre := pre_told) (M := 9) ?n__law_told 9 fun k m f fd hk hm F C => ok__law_told T F (c__law_things.mono (by omega)) C) 9 (by omega)
  have c__law_tree : Cal P w K mg base 3 "_law_tree" ["_law_cell_here", "_law_n"] pre_tree := D.d__law_tree.cal fun f fd F => ok__law_tree (k := 2) T F (c__law_rich.mono (by omega)) (c__law_order.mono (by omega))
  have c__law_shuffled : Cal P w K mg base 10 "_law_shuffled" ["_law_tree_here", "_law_cell_here"] (pre_shuffled 9) := (D.d__law_shuffled.deep (pre := pre_shuffled) (M := 9) ?n__law_shuffled 1 fun k m f fd hk hm F C => ok__law_shuffled T F (c__law_rich.mono (by omega)) C) 9 (by omega)
  have c__law_orders : Cal P w K mg base 1 "_law_orders" ["_law_n"] pre_orders := D.d__law_orders.cal fun f fd F => ok__law_orders (k := 0) T F 
  have c__law_drawn_order : Cal P w K mg base 19 "_law_drawn_order" ["_law_tree_here", "_law_cell_here"] (pre_drawn_order 9) := (D.d__law_drawn_order.deep (pre := pre_drawn_order) (M := 9) ?n__law_drawn_order 10 fun k m f fd hk hm F C => ok__law_drawn_order hm T F (c__law_shuffled.mono (by omega)) C) 9 (by omega)
  have c__law_wishes : Cal P w K mg base 2 "_law_wishes" ["_law_script", "_law_at", "_law_n", "_law_order_here"] pre_wishes := D.d__law_wishes.cal fun f fd F => ok__law_wishes (k := 1) T F (c__law_cell.mono (by omega)) (c__law_rich.mono (by omega)) (c__law_digits.mono (by omega))
  have c__law_keeps : Cal P w K mg base 1 "_law_keeps" ["_law_order_here", "_law_wishes_here"] pre_keeps := D.d__law_keeps.cal fun f fd F => ok__law_keeps (k := 0) T F 
  have c__law_is_wish_ring : Cal P w K mg base 18 "_law_is_wish_ring" ["_law_tree_here", "_law_wishes_here", "_law_indexes"] (pre_lawring 9) := (D.d__law_is_wish_ring.deep (pre := pre_lawring) (M := 9) ?n__law_is_wish_ring 9 fun k m f fd hk hm F C => ok__law_is_wish_ring T F (c__law_things.mono (by omega)) C) 9 (by omega)
  obtain ⟨f, fd, F, g, _⟩ := D.d_law.ex
  exact ⟨f, fd, F, g, ok_law (k := 22) T F (c__law_keeps.mono (by omega)) (c_is_wish_ring.mono (by omega)) (c__law_is_wish_ring.mono (by omega)) (c__law_told.mono (by omega)) (c_count_with_wishes.mono (by omega)) (c__law_orders.mono (by omega)) (c__law_cell.mono (by omega)) (c__law_rich.mono (by omega)) (c__law_drawn_order.mono (by omega)) (c_with_wishes.mono (by omega)) (c__law_wishes.mono (by omega)) (c__law_tree.mono (by omega)) (c__law_digits.mono (by omega))⟩
  case n_listed =>
    rintro as R ⟨t, h⟩
    first | exact no_dep h.2.1 | (obtain ⟨_, _, h2, _⟩ := h; exact no_dep h2) | (obtain ⟨_, _, _, h2, _⟩ := h; exact no_dep h2)
  case n_has_form =>
    rintro as R ⟨t, h⟩
    first | exact no_dep h.2.1 | (obtain ⟨_, _, h2, _⟩ := h; exact no_dep h2) | (obtain ⟨_, _, _, h2, _⟩ := h; exact no_dep h2)
  case n_need_few_parts =>
    rintro as R ⟨t, h⟩
    first | exact no_dep h.2.1 | (obtain ⟨_, _, h2, _⟩ := h; exact no_dep h2) | (obtain ⟨_, _, _, h2, _⟩ := h; exact no_dep h2)
  case n_kept_within =>
    rintro as R ⟨t, h⟩
    first | exact no_dep h.2.1 | (obtain ⟨_, _, h2, _⟩ := h; exact no_dep h2) | (obtain ⟨_, _, _, h2, _⟩ := h; exact no_dep h2)
  case n_count_within =>
    rintro as R ⟨t, h⟩
    first | exact no_dep h.2.1 | (obtain ⟨_, _, h2, _⟩ := h; exact no_dep h2) | (obtain ⟨_, _, _, h2, _⟩ := h; exact no_dep h2)
  case n__law_things =>
    rintro as R ⟨t, h⟩
    first | exact no_dep h.2.1 | (obtain ⟨_, _, h2, _⟩ := h; exact no_dep h2) | (obtain ⟨_, _, _, h2, _⟩ := h; exact no_dep h2)
  case n__law_told =>
    rintro as R ⟨t, h⟩
    first | exact no_dep h.2.1 | (obtain ⟨_, _, h2, _⟩ := h; exact no_dep h2) | (obtain ⟨_, _, _, h2, _⟩ := h; exact no_dep h2)
  case n__law_shuffled =>
    rintro as R ⟨t, h⟩
    first | exact no_dep h.2.1 | (obtain ⟨_, _, h2, _⟩ := h; exact no_dep h2) | (obtain ⟨_, _, _, h2, _⟩ := h; exact no_dep h2)
  case n__law_drawn_order =>
    rintro as R ⟨t, h⟩
    first | exact no_dep h.2.1 | (obtain ⟨_, _, h2, _⟩ := h; exact no_dep h2) | (obtain ⟨_, _, _, h2, _⟩ := h; exact no_dep h2)
  case n__law_is_wish_ring =>
    rintro as R ⟨t, h⟩
    first | exact no_dep h.2.1 | (obtain ⟨_, _, h2, _⟩ := h; exact no_dep h2) | (obtain ⟨_, _, _, h2, _⟩ := h; exact no_dep h2)
end
/-! ### the top's facts -/
def dd_is_size : He.DefD := ⟨("is_size", none), "is_size", "is_size", defArgs s_is_size, defBody s_is_size, defScope s_is_size, [], []⟩
def dd_is_thing : He.DefD := ⟨("is_thing", none), "is_thing", "is_thing", defArgs s_is_thing, defBody s_is_thing, defScope s_is_thing, [], []⟩
def dd_listed : He.DefD := ⟨("listed", none), "listed", "listed", defArgs s_listed, defBody s_listed, defScope s_listed, [], []⟩
def dd_has_form : He.DefD := ⟨("has_form", none), "has_form", "has_form", defArgs s_has_form, defBody s_has_form, defScope s_has_form, [], []⟩
def dd_check_tree : He.DefD := ⟨("check_tree", none), "check_tree", "check_tree", defArgs s_check_tree, defBody s_check_tree, defScope s_check_tree, [], []⟩
def dd_need_tree : He.DefD := ⟨("need_tree", none), "need_tree", "need_tree", defArgs s_need_tree, defBody s_need_tree, defScope s_need_tree, [], []⟩
def dd_need_few_parts : He.DefD := ⟨("need_few_parts", none), "need_few_parts", "need_few_parts", defArgs s_need_few_parts, defBody s_need_few_parts, defScope s_need_few_parts, [], []⟩
def dd_check_different : He.DefD := ⟨("check_different", none), "check_different", "check_different", defArgs s_check_different, defBody s_check_different, defScope s_check_different, [], []⟩
def dd_index_with : He.DefD := ⟨("index_with", none), "index_with", "index_with", defArgs s_index_with, defBody s_index_with, defScope s_index_with, [], []⟩
def dd_check_wishes : He.DefD := ⟨("check_wishes", none), "check_wishes", "check_wishes", defArgs s_check_wishes, defBody s_check_wishes, defScope s_check_wishes, [], []⟩
def dd_numbered : He.DefD := ⟨("numbered", none), "numbered", "numbered", defArgs s_numbered, defBody s_numbered, defScope s_numbered, [], []⟩
def dd_met_here : He.DefD := ⟨("met_here", none), "met_here", "met_here", defArgs s_met_here, defBody s_met_here, defScope s_met_here, [], []⟩
def dd_met_within : He.DefD := ⟨("met_within", none), "met_within", "met_within", defArgs s_met_within, defBody s_met_within, defScope s_met_within, [], []⟩
def dd_ring_from : He.DefD := ⟨("ring_from", none), "ring_from", "ring_from", defArgs s_ring_from, defBody s_ring_from, defScope s_ring_from, [], []⟩
def dd_ring_of_any : He.DefD := ⟨("ring_of_any", none), "ring_of_any", "ring_of_any", defArgs s_ring_of_any, defBody s_ring_of_any, defScope s_ring_of_any, [], []⟩
def dd_ring_of_row : He.DefD := ⟨("ring_of_row", none), "ring_of_row", "ring_of_row", defArgs s_ring_of_row, defBody s_ring_of_row, defScope s_ring_of_row, [], []⟩
def dd_sequence_for : He.DefD := ⟨("sequence_for", none), "sequence_for", "sequence_for", defArgs s_sequence_for, defBody s_sequence_for, defScope s_sequence_for, [], []⟩
def dd_kept_within : He.DefD := ⟨("kept_within", none), "kept_within", "kept_within", defArgs s_kept_within, defBody s_kept_within, defScope s_kept_within, [], []⟩
def dd_with_wishes : He.DefD := ⟨("with_wishes", none), "with_wishes", "with_wishes", defArgs s_with_wishes, defBody s_with_wishes, defScope s_with_wishes, [], []⟩
def dd_sequences_kept : He.DefD := ⟨("sequences_kept", none), "sequences_kept", "sequences_kept", defArgs s_sequences_kept, defBody s_sequences_kept, defScope s_sequences_kept, [], []⟩
def dd_count_within : He.DefD := ⟨("count_within", none), "count_within", "count_within", defArgs s_count_within, defBody s_count_within, defScope s_count_within, [], []⟩
def dd_count_with_wishes : He.DefD := ⟨("count_with_wishes", none), "count_with_wishes", "count_with_wishes", defArgs s_count_with_wishes, defBody s_count_with_wishes, defScope s_count_with_wishes, [], []⟩
def dd_is_wish_ring : He.DefD := ⟨("is_wish_ring", none), "is_wish_ring", "is_wish_ring", defArgs s_is_wish_ring, defBody s_is_wish_ring, defScope s_is_wish_ring, [], []⟩
def dd__law_cell : He.DefD := ⟨("_law_cell", none), "_law_cell", "_law_cell", defArgs s__law_cell, defBody s__law_cell, defScope s__law_cell, [], []⟩
def dd__law_digits : He.DefD := ⟨("_law_digits", none), "_law_digits", "_law_digits", defArgs s__law_digits, defBody s__law_digits, defScope s__law_digits, [], []⟩
def dd__law_rich : He.DefD := ⟨("_law_rich", none), "_law_rich", "_law_rich", defArgs s__law_rich, defBody s__law_rich, defScope s__law_rich, [], []⟩
def dd__law_order : He.DefD := ⟨("_law_order", none), "_law_order", "_law_order", defArgs s__law_order, defBody s__law_order, defScope s__law_order, [], []⟩
def dd__law_things : He.DefD := ⟨("_law_things", none), "_law_things", "_law_things", defArgs s__law_things, defBody s__law_things, defScope s__law_things, [], []⟩
def dd__law_told : He.DefD := ⟨("_law_told", none), "_law_told", "_law_told", defArgs s__law_told, defBody s__law_told, defScope s__law_told, [], []⟩
def dd__law_tree : He.DefD := ⟨("_law_tree", none), "_law_tree", "_law_tree", defArgs s__law_tree, defBody s__law_tree, defScope s__law_tree, [], []⟩
def dd__law_shuffled : He.DefD := ⟨("_law_shuffled", none), "_law_shuffled", "_law_shuffled", defArgs s__law_shuffled, defBody s__law_shuffled, defScope s__law_shuffled, [], []⟩
def dd__law_orders : He.DefD := ⟨("_law_orders", none), "_law_orders", "_law_orders", defArgs s__law_orders, defBody s__law_orders, defScope s__law_orders, [], []⟩
def dd__law_drawn_order : He.DefD := ⟨("_law_drawn_order", none), "_law_drawn_order", "_law_drawn_order", defArgs s__law_drawn_order, defBody s__law_drawn_order, defScope s__law_drawn_order, [], []⟩
def dd__law_wishes : He.DefD := ⟨("_law_wishes", none), "_law_wishes", "_law_wishes", defArgs s__law_wishes, defBody s__law_wishes, defScope s__law_wishes, [], []⟩
def dd__law_keeps : He.DefD := ⟨("_law_keeps", none), "_law_keeps", "_law_keeps", defArgs s__law_keeps, defBody s__law_keeps, defScope s__law_keeps, [], []⟩
def dd__law_is_wish_ring : He.DefD := ⟨("_law_is_wish_ring", none), "_law_is_wish_ring", "_law_is_wish_ring", defArgs s__law_is_wish_ring, defBody s__law_is_wish_ring, defScope s__law_is_wish_ring, [], []⟩
def dd_law : He.DefD := ⟨("law", none), "law", "law", defArgs s_law, defBody s_law, defScope s_law, [], []⟩
def fn1 : List He.DefD := [dd_is_size, dd_is_thing, dd_listed, dd_has_form, dd_check_tree, dd_need_tree, dd_need_few_parts, dd_check_different, dd_index_with, dd_check_wishes, dd_numbered, dd_met_here, dd_met_within, dd_ring_from, dd_ring_of_any, dd_ring_of_row, dd_sequence_for, dd_kept_within]
def fn2 : List He.DefD := [dd_with_wishes, dd_sequences_kept, dd_count_within, dd_count_with_wishes, dd_is_wish_ring, dd__law_cell, dd__law_digits, dd__law_rich, dd__law_order, dd__law_things, dd__law_told, dd__law_tree, dd__law_shuffled, dd__law_orders, dd__law_drawn_order, dd__law_wishes, dd__law_keeps, dd__law_is_wish_ring, dd_law]
def fn : List He.DefD := fn1 ++ fn2
def fa1 : List He.Fa := [.glo "is_size", .glo "is_thing", .glo "listed", .glo "has_form", .glo "check_tree", .glo "need_tree", .glo "need_few_parts", .glo "check_different", .glo "index_with", .glo "check_wishes", .glo "numbered", .glo "met_here", .glo "met_within", .glo "ring_from", .glo "ring_of_any", .glo "ring_of_row", .glo "sequence_for", .glo "kept_within"]
def fa2 : List He.Fa := [.glo "with_wishes", .glo "sequences_kept", .glo "count_within", .glo "count_with_wishes", .glo "is_wish_ring", .glo "_law_cell", .glo "_law_digits", .glo "_law_rich", .glo "_law_order", .glo "_law_things", .glo "_law_told", .glo "_law_tree", .glo "_law_shuffled", .glo "_law_orders", .glo "_law_drawn_order", .glo "_law_wishes", .glo "_law_keeps", .glo "_law_is_wish_ring", .glo "law"]
def fa3 : List He.Fa := [.free "isinstance", .free "len", .free "min", .free "max", .free "sorted", .free "list", .free "range", .free "all", .free "any", .free "set", .free "sum", .free "tuple", .free "int", .free "str", .int "MOST_THINGS" 24, .int "MOST_PARTS" 8, .glo "WORDS"]
def fa : List He.Fa := fa1 ++ (fa2 ++ fa3)
def names1 : List Str := ["UnpartedError", "InvalidTree", "OutOfRange", "MOST_THINGS", "is_size", "WORDS", "is_thing", "listed", "has_form", "check_tree", "need_tree", "MOST_PARTS", "need_few_parts", "check_different", "index_with", "check_wishes", "numbered", "met_here", "met_within", "ring_from", "ring_of_any"]
def names2 : List Str := ["ring_of_row", "sequence_for", "kept_within", "with_wishes", "sequences_kept", "count_within", "count_with_wishes", "is_wish_ring", "_law_cell", "_law_digits", "_law_rich", "_law_order", "_law_things", "_law_told", "_law_tree", "_law_shuffled", "_law_orders", "_law_drawn_order", "_law_wishes", "_law_keeps", "_law_is_wish_ring"]
def names : List Str := names1 ++ names2
def exW (K : PySem.W.Frag) : Bool := He.tupB K "WORDS" [.str "any", .str "row"]
section
variable {K : PySem.W.Frag} {h : Heap} {mg : Str → Option Value}
theorem df_of (X : K.In h) (G : h.Ns mainGlobals mg) (c : He.SaysD fa fn K) {x : Str} {st : Stmt} {ps : List Str} (hd : (⟨(x, none), x, x, defArgs st, defBody st, defScope st, [], []⟩ : He.DefD) ∈ fn) (hg : He.Fa.glo x ∈ fa)
    (hb : ∀ (f : Addr) (fd : FuncData), Fun K x x st f fd → Binds K fd ps []) : Df K mg x st ps := by
  obtain ⟨fd, F⟩ := c.defs hd
  obtain ⟨oc, od, dV, kV, doc, pm, an, cdv, ct, osl, e, lk, hc, hdv, _⟩ := F.ex
  have e0 : dV = .none := by
    rcases hdv with ⟨_, e⟩ | ⟨hne, _⟩
    · exact e
    · exact absurd rfl hne
  subst e0
  have F2 : Fun K x x st (He.fAd K (x, none)) fd := ⟨⟨oc, od, kV, doc, pm, an, cdv, ct, osl, e, lk, hc⟩, F.kp⟩
  exact ⟨_, fd, F2, He.glo_ok X G (c.facts hg), hb _ _ F2⟩
theorem mem_fn1 {d : He.DefD} (h : d ∈ fn1) : d ∈ fn := List.mem_append_left _ h
theorem mem_fn2 {d : He.DefD} (h : d ∈ fn2) : d ∈ fn := List.mem_append_right _ h
theorem mem_fa1 {d : He.Fa} (h : d ∈ fa1) : d ∈ fa := List.mem_append_left _ h
theorem mem_fa2 {d : He.Fa} (h : d ∈ fa2) : d ∈ fa := List.mem_append_right _ (List.mem_append_left _ h)
theorem mem_fa3 {d : He.Fa} (h : d ∈ fa3) : d ∈ fa := List.mem_append_right _ (List.mem_append_right _ h)
theorem at_mem {α : Type} {l : List α} {a : α} (i : Nat) (h : l[i]? = some a) : a ∈ l := List.mem_of_getElem? h
theorem defs_of (X : K.In h) (G : h.Ns mainGlobals mg) (c : He.SaysD fa fn K) : Defs K mg where
  d_is_size := df_of X G c (mem_fn1 (at_mem (a := dd_is_size) 0 rfl)) (mem_fa1 (at_mem 0 rfl)) fun f fd F => F.binds (ps := ["n"]) fun _ _ _ _ _ _ us hl => match us, hl with | [_], _ => rfl
  d_is_thing := df_of X G c (mem_fn1 (at_mem (a := dd_is_thing) 1 rfl)) (mem_fa1 (at_mem 1 rfl)) fun f fd F => F.binds (ps := ["tree"]) fun _ _ _ _ _ _ us hl => match us, hl with | [_], _ => rfl
  d_listed := df_of X G c (mem_fn1 (at_mem (a := dd_listed) 2 rfl)) (mem_fa1 (at_mem 2 rfl)) fun f fd F => F.binds (ps := ["tree"]) fun _ _ _ _ _ _ us hl => match us, hl with | [_], _ => rfl
  d_has_form := df_of X G c (mem_fn1 (at_mem (a := dd_has_form) 3 rfl)) (mem_fa1 (at_mem 3 rfl)) fun f fd F => F.binds (ps := ["tree"]) fun _ _ _ _ _ _ us hl => match us, hl with | [_], _ => rfl
  d_check_tree := df_of X G c (mem_fn1 (at_mem (a := dd_check_tree) 4 rfl)) (mem_fa1 (at_mem 4 rfl)) fun f fd F => F.binds (ps := ["n", "tree"]) fun _ _ _ _ _ _ us hl => match us, hl with | [_, _], _ => rfl
  d_need_tree := df_of X G c (mem_fn1 (at_mem (a := dd_need_tree) 5 rfl)) (mem_fa1 (at_mem 5 rfl)) fun f fd F => F.binds (ps := ["tree"]) fun _ _ _ _ _ _ us hl => match us, hl with | [_], _ => rfl
  d_need_few_parts := df_of X G c (mem_fn1 (at_mem (a := dd_need_few_parts) 6 rfl)) (mem_fa1 (at_mem 6 rfl)) fun f fd F => F.binds (ps := ["tree"]) fun _ _ _ _ _ _ us hl => match us, hl with | [_], _ => rfl
  d_check_different := df_of X G c (mem_fn1 (at_mem (a := dd_check_different) 7 rfl)) (mem_fa1 (at_mem 7 rfl)) fun f fd F => F.binds (ps := ["tree", "things"]) fun _ _ _ _ _ _ us hl => match us, hl with | [_, _], _ => rfl
  d_index_with := df_of X G c (mem_fn1 (at_mem (a := dd_index_with) 8 rfl)) (mem_fa1 (at_mem 8 rfl)) fun f fd F => F.binds (ps := ["parts", "thing"]) fun _ _ _ _ _ _ us hl => match us, hl with | [_, _], _ => rfl
  d_check_wishes := df_of X G c (mem_fn1 (at_mem (a := dd_check_wishes) 9 rfl)) (mem_fa1 (at_mem 9 rfl)) fun f fd F => F.binds (ps := ["tree", "wishes"]) fun _ _ _ _ _ _ us hl => match us, hl with | [_, _], _ => rfl
  d_numbered := df_of X G c (mem_fn1 (at_mem (a := dd_numbered) 10 rfl)) (mem_fa1 (at_mem 10 rfl)) fun f fd F => F.binds (ps := ["wishes"]) fun _ _ _ _ _ _ us hl => match us, hl with | [_], _ => rfl
  d_met_here := df_of X G c (mem_fn1 (at_mem (a := dd_met_here) 11 rfl)) (mem_fa1 (at_mem 11 rfl)) fun f fd F => F.binds (ps := ["parts", "told"]) fun _ _ _ _ _ _ us hl => match us, hl with | [_, _], _ => rfl
  d_met_within := df_of X G c (mem_fn1 (at_mem (a := dd_met_within) 12 rfl)) (mem_fa1 (at_mem 12 rfl)) fun f fd F => F.binds (ps := ["parts", "told", "part"]) fun _ _ _ _ _ _ us hl => match us, hl with | [_, _, _], _ => rfl
  d_ring_from := df_of X G c (mem_fn1 (at_mem (a := dd_ring_from) 13 rfl)) (mem_fa1 (at_mem 13 rfl)) fun f fd F => F.binds (ps := ["start", "demands"]) fun _ _ _ _ _ _ us hl => match us, hl with | [_, _], _ => rfl
  d_ring_of_any := df_of X G c (mem_fn1 (at_mem (a := dd_ring_of_any) 14 rfl)) (mem_fa1 (at_mem 14 rfl)) fun f fd F => F.binds (ps := ["k", "demands"]) fun _ _ _ _ _ _ us hl => match us, hl with | [_, _], _ => rfl
  d_ring_of_row := df_of X G c (mem_fn1 (at_mem (a := dd_ring_of_row) 15 rfl)) (mem_fa1 (at_mem 15 rfl)) fun f fd F => F.binds (ps := ["demands"]) fun _ _ _ _ _ _ us hl => match us, hl with | [_], _ => rfl
  d_sequence_for := df_of X G c (mem_fn1 (at_mem (a := dd_sequence_for) 16 rfl)) (mem_fa1 (at_mem 16 rfl)) fun f fd F => F.binds (ps := ["k", "demands"]) fun _ _ _ _ _ _ us hl => match us, hl with | [_, _], _ => rfl
  d_kept_within := df_of X G c (mem_fn1 (at_mem (a := dd_kept_within) 17 rfl)) (mem_fa1 (at_mem 17 rfl)) fun f fd F => F.binds (ps := ["tree", "told"]) fun _ _ _ _ _ _ us hl => match us, hl with | [_, _], _ => rfl
  d_with_wishes := df_of X G c (mem_fn2 (at_mem (a := dd_with_wishes) 0 rfl)) (mem_fa2 (at_mem 0 rfl)) fun f fd F => F.binds (ps := ["tree", "wishes"]) fun _ _ _ _ _ _ us hl => match us, hl with | [_, _], _ => rfl
  d_sequences_kept := df_of X G c (mem_fn2 (at_mem (a := dd_sequences_kept) 1 rfl)) (mem_fa2 (at_mem 1 rfl)) fun f fd F => F.binds (ps := ["k", "demands"]) fun _ _ _ _ _ _ us hl => match us, hl with | [_, _], _ => rfl
  d_count_within := df_of X G c (mem_fn2 (at_mem (a := dd_count_within) 2 rfl)) (mem_fa2 (at_mem 2 rfl)) fun f fd F => F.binds (ps := ["tree", "told"]) fun _ _ _ _ _ _ us hl => match us, hl with | [_, _], _ => rfl
  d_count_with_wishes := df_of X G c (mem_fn2 (at_mem (a := dd_count_with_wishes) 3 rfl)) (mem_fa2 (at_mem 3 rfl)) fun f fd F => F.binds (ps := ["tree", "wishes"]) fun _ _ _ _ _ _ us hl => match us, hl with | [_, _], _ => rfl
  d_is_wish_ring := df_of X G c (mem_fn2 (at_mem (a := dd_is_wish_ring) 4 rfl)) (mem_fa2 (at_mem 4 rfl)) fun f fd F => F.binds (ps := ["tree", "wishes", "indexes"]) fun _ _ _ _ _ _ us hl => match us, hl with | [_, _, _], _ => rfl
  d__law_cell := df_of X G c (mem_fn2 (at_mem (a := dd__law_cell) 5 rfl)) (mem_fa2 (at_mem 5 rfl)) fun f fd F => F.binds (ps := ["_law_script", "_law_k"]) fun _ _ _ _ _ _ us hl => match us, hl with | [_, _], _ => rfl
  d__law_digits := df_of X G c (mem_fn2 (at_mem (a := dd__law_digits) 6 rfl)) (mem_fa2 (at_mem 6 rfl)) fun f fd F => F.binds (ps := ["_law_cell_here", "_law_sizes"]) fun _ _ _ _ _ _ us hl => match us, hl with | [_, _], _ => rfl
  d__law_rich := df_of X G c (mem_fn2 (at_mem (a := dd__law_rich) 7 rfl)) (mem_fa2 (at_mem 7 rfl)) fun f fd F => F.binds (ps := ["_law_cell_here"]) fun _ _ _ _ _ _ us hl => match us, hl with | [_], _ => rfl
  d__law_order := df_of X G c (mem_fn2 (at_mem (a := dd__law_order) 8 rfl)) (mem_fa2 (at_mem 8 rfl)) fun f fd F => F.binds (ps := ["_law_cell_here", "_law_n"]) fun _ _ _ _ _ _ us hl => match us, hl with | [_, _], _ => rfl
  d__law_things := df_of X G c (mem_fn2 (at_mem (a := dd__law_things) 9 rfl)) (mem_fa2 (at_mem 9 rfl)) fun f fd F => F.binds (ps := ["_law_tree_here"]) fun _ _ _ _ _ _ us hl => match us, hl with | [_], _ => rfl
  d__law_told := df_of X G c (mem_fn2 (at_mem (a := dd__law_told) 10 rfl)) (mem_fa2 (at_mem 10 rfl)) fun f fd F => F.binds (ps := ["_law_tree_here", "_law_order_here"]) fun _ _ _ _ _ _ us hl => match us, hl with | [_, _], _ => rfl
  d__law_tree := df_of X G c (mem_fn2 (at_mem (a := dd__law_tree) 11 rfl)) (mem_fa2 (at_mem 11 rfl)) fun f fd F => F.binds (ps := ["_law_cell_here", "_law_n"]) fun _ _ _ _ _ _ us hl => match us, hl with | [_, _], _ => rfl
  d__law_shuffled := df_of X G c (mem_fn2 (at_mem (a := dd__law_shuffled) 12 rfl)) (mem_fa2 (at_mem 12 rfl)) fun f fd F => F.binds (ps := ["_law_tree_here", "_law_cell_here"]) fun _ _ _ _ _ _ us hl => match us, hl with | [_, _], _ => rfl
  d__law_orders := df_of X G c (mem_fn2 (at_mem (a := dd__law_orders) 13 rfl)) (mem_fa2 (at_mem 13 rfl)) fun f fd F => F.binds (ps := ["_law_n"]) fun _ _ _ _ _ _ us hl => match us, hl with | [_], _ => rfl
  d__law_drawn_order := df_of X G c (mem_fn2 (at_mem (a := dd__law_drawn_order) 14 rfl)) (mem_fa2 (at_mem 14 rfl)) fun f fd F => F.binds (ps := ["_law_tree_here", "_law_cell_here"]) fun _ _ _ _ _ _ us hl => match us, hl with | [_, _], _ => rfl
  d__law_wishes := df_of X G c (mem_fn2 (at_mem (a := dd__law_wishes) 15 rfl)) (mem_fa2 (at_mem 15 rfl)) fun f fd F => F.binds (ps := ["_law_script", "_law_at", "_law_n", "_law_order_here"]) fun _ _ _ _ _ _ us hl => match us, hl with | [_, _, _, _], _ => rfl
  d__law_keeps := df_of X G c (mem_fn2 (at_mem (a := dd__law_keeps) 16 rfl)) (mem_fa2 (at_mem 16 rfl)) fun f fd F => F.binds (ps := ["_law_order_here", "_law_wishes_here"]) fun _ _ _ _ _ _ us hl => match us, hl with | [_, _], _ => rfl
  d__law_is_wish_ring := df_of X G c (mem_fn2 (at_mem (a := dd__law_is_wish_ring) 17 rfl)) (mem_fa2 (at_mem 17 rfl)) fun f fd F => F.binds (ps := ["_law_tree_here", "_law_wishes_here", "_law_indexes"]) fun _ _ _ _ _ _ us hl => match us, hl with | [_, _, _], _ => rfl
  d_law := df_of X G c (mem_fn2 (at_mem (a := dd_law) 18 rfl)) (mem_fa2 (at_mem 18 rfl)) fun f fd F => F.binds (ps := ["_law_script"]) fun _ _ _ _ _ _ us hl => match us, hl with | [_], _ => rfl
def tp_of (X : K.In h) (G : h.Ns mainGlobals mg) (c : He.SaysD fa fn K) (ex : exW K = true) : Tp K mg where
  b_isinstance := He.free_ok X G (c.facts (mem_fa3 (at_mem 0 rfl)))
  b_len := He.free_ok X G (c.facts (mem_fa3 (at_mem 1 rfl)))
  b_min := He.free_ok X G (c.facts (mem_fa3 (at_mem 2 rfl)))
  b_max := He.free_ok X G (c.facts (mem_fa3 (at_mem 3 rfl)))
  b_sorted := He.free_ok X G (c.facts (mem_fa3 (at_mem 4 rfl)))
  b_list := He.free_ok X G (c.facts (mem_fa3 (at_mem 5 rfl)))
  b_range := He.free_ok X G (c.facts (mem_fa3 (at_mem 6 rfl)))
  b_all := He.free_ok X G (c.facts (mem_fa3 (at_mem 7 rfl)))
  b_any := He.free_ok X G (c.facts (mem_fa3 (at_mem 8 rfl)))
  b_set := He.free_ok X G (c.facts (mem_fa3 (at_mem 9 rfl)))
  b_sum := He.free_ok X G (c.facts (mem_fa3 (at_mem 10 rfl)))
  b_tuple := He.free_ok X G (c.facts (mem_fa3 (at_mem 11 rfl)))
  b_int := He.free_ok X G (c.facts (mem_fa3 (at_mem 12 rfl)))
  b_str := He.free_ok X G (c.facts (mem_fa3 (at_mem 13 rfl)))
  g_MOST_THINGS := He.int_ok X G (c.facts (mem_fa3 (at_mem 14 rfl)))
  g_MOST_PARTS := He.int_ok X G (c.facts (mem_fa3 (at_mem 15 rfl)))
  aW := He.ga K "WORDS"
  g_WORDS := He.glo_ok X G (c.facts (mem_fa3 (at_mem 16 rfl)))
  sW := fun H => He.tupB_ok ex H
end
def LV : Nat := 23
end Wk
/-! ## H2 -/
set_option Elab.async false
set_option linter.all false
set_option autoImplicit false
set_option maxRecDepth 100000
set_option maxHeartbeats 0
/-! The top's run, and the law. -/
namespace Wk
open PySem PySem.Spec L2 PyProof.Rows
abbrev R : PySem.W.OpenRow := PySem.W.OpenLaw.row PySem.Challenge.rw_unpartedrows_k23_whole_wishes
abbrev hk : PySem.W.Hook := He.hookX 4 fa fn [] [] exW
def ob (s : PySem.W.SharedT) : He.AlX := He.obsX 4 fa fn [] [] exW (HandSHeadRun.getT s)
theorem ob_eq (s : PySem.W.SharedT) : ob s = hk.obs s.abs := He.obsX_eq (HandSHeadRun.getT_eq s)
theorem run (w : World) : HandSHeadRun.RunEq R (PySem.W.view R.prog [49]) hk ob 6000 names w := by
  intro os
  kernel_rfl
end Wk
/-! ## H3 -/
set_option Elab.async false
set_option linter.all false
set_option autoImplicit false
set_option maxRecDepth 100000
set_option maxHeartbeats 0
namespace Wk
open PySem PySem.Spec L2 PyProof.Rows
theorem facts {P : Program} {w : World} {K : PySem.W.Frag} {h : Heap} {mg : Str → Option Value} {f : Addr} (X : K.In h) (G : h.Ns mainGlobals mg) (hfa : mg ("law" : Str) = some (.ref f)) (c : He.SaysD fa fn K) (ex : exW K = true) :
    ∃ fd : FuncData, (∀ (s : Shared) (v : Value), BindsTo s fd ⟨[v], []⟩ [("_law_script", v)]) ∧ ∀ base : Heap, K.In base → base.Ns mainGlobals mg → FnOk P w K mg base CX0 LV f fd ["_law_script"] (spec K pre_law) := by
  have T := tp_of X G c ex
  have D := defs_of X G c
  obtain ⟨fd, F⟩ := c.defs (mem_fn2 (at_mem (a := dd_law) 18 rfl))
  have b := FunD.bindsA (ps := ["_law_script"]) F fun _ _ _ _ _ _ us hl => match us, hl with | [_], _ => rfl
  have e1 := He.glo_ok X G (c.facts (mem_fa2 (at_mem (a := He.Fa.glo "law") 18 rfl)))
  have e := hfa.symm.trans e1
  cases e
  refine ⟨fd, fun s v => b s [v] rfl, fun base _ _ => ?_⟩
  obtain ⟨f2, fd2, F2, g2, ok⟩ := law_chain (P := P) (w := w) (base := base) T D
  have e2 := e1.symm.trans g2
  cases e2
  obtain ⟨_, _, _, _, _, _, _, _, _, _, q1, lk1, _⟩ := F.ex
  obtain ⟨_, _, _, _, _, _, _, _, _, q2, lk2, _⟩ := F2.ex
  have e3 := lk1.symm.trans lk2
  injection e3 with e3
  injection e3 with _ _ e3 _
  injection e3 with e3
  rw [e3]
  exact ok
theorem says_law {K : PySem.W.Frag} {H : Hp} {a : Addr} {ns : List Int} (hl : ns.length ≤ 63) (hS : SqL K H a (ns.map V.int)) (E : XK) : spec K pre_law [.ref a] H (fun v _ => v = .bl true) E :=
  ⟨[.s (ns.map D.int)], PD (.bl true), .cons ⟨a, _, rfl, hS, rps_ints ns⟩ .nil, ⟨ns, rfl, hl, rfl⟩, fun v H' _ r => Rp.blI r⟩
end Wk
open PySem PySem.W PySem.Calls PyProof.Rows
theorem PySem.Challenge.cw_unpartedrows_k23_whole_wishes_holds : PySem.Challenge.rw_unpartedrows_k23_whole_wishes.Holds := by
  w_on; o_law
  refine HandSHeadRun.head_any (r := OpenLaw.row PySem.Challenge.rw_unpartedrows_k23_whole_wishes) (q := view (OpenLaw.row PySem.Challenge.rw_unpartedrows_k23_whole_wishes).prog [49]) (H := Wk.hk) (ob := Wk.ob) (M := 6000) (loose := Wk.names) (d := HandSHeadRun.topDef (OpenLaw.row PySem.Challenge.rw_unpartedrows_k23_whole_wishes).prog 49) (kwd := []) Wk.ob_eq
    (by kernel_rfl) (fun s => by kernel_rfl) Wk.run (by kernel_rfl) (by kernel_rfl) (by kernel_rfl) (by rfl) (by first | assumption | decide +kernel) (by decide +kernel) ⟨rfl, rfl, rfl, rfl, rfl, by decide +kernel⟩ ?hw ?hc
  case hw => w_witness2
  case hc =>
    refine L2.walk_ofE (l := PySem.Challenge.rw_unpartedrows_k23_whole_wishes) (n := 63) (k := Wk.LV) (x := "_law_script") (CX := L2.CX0) rfl (by decide) (by kernel_rfl) ⟨rfl, by decide, by decide⟩ ?F (fun _ _ _ _ z => z)
    intro w mg fa h Y G hmg0
    obtain ⟨K, KX, c⟩ := Y
    have hmg : mg ("law" : PySem.Str) = some (.ref fa) := by
      have e : (HandSHeadRun.topDef (OpenLaw.row PySem.Challenge.rw_unpartedrows_k23_whole_wishes).prog 49).name = ("law" : PySem.Str) := by kernel_rfl
      rw [← e]
      exact hmg0
    obtain ⟨fd, hb, hF⟩ := Wk.facts (P := (PySem.Challenge.rw_unpartedrows_k23_whole_wishes).prog) (w := w) KX G hmg c.t.d c.more
    exact ⟨K, fd, Wk.spec K Wk.pre_law, KX, hb, fun H a ns hl _ hS => Wk.says_law hl hS _, hF⟩
