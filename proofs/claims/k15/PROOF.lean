import PyProof.Rows.All
import Wide.All
import OpenK.AllK
import Wide.FinOn
import HandS.ForMost
import HandS.Exc
import HandS.TryOnly
import HandS.TryMany
import HandS.ExcOwn
import HandS.WordsExc
import HandS.Wide
import HandS.Conv
import HandS.IsInst
import HandS.Zip
import HandS.TupAny
import KE.KExcSuper
import HandS.TupMul
import HandS.Gcd
import HandS.TupLe
import HandS.ExcField
import KE.GoesMore
import HandS.Deep
import HandS.Style
import HandS.Star
import HandS.SortKw
import KE.DatumOrd
import KE.Datum
import KE.KTupSum
import KE.GoesNew
import PyProof.ExcBaseAll.OverflowError
import PyProof.ExcBaseAll.IndexError
import PySem.Challenge.RW_ringstairs_k15_whole_greatest_heaps_and
set_option Elab.async false
set_option linter.all false
section
set_option maxRecDepth 100000
set_option maxHeartbeats 0

namespace Sm
open PySem L2

/-- plain data of a program; cel n: the n-th changing list of the state -/
inductive D where
  | non | bl (b : Bool) | int (i : Int) | str (x : Str)
  | tup (ds : List D) | lst (ds : List D)
  | cel (n : Nat) | opq (v : V)
  | err (c f : Str) (d : D)
  | dk (ks : List Key) (ds : List D) | dt (ks : List (List Key)) (ds : List D)
  deriving Inhabited

inductive Ob where
  | l (ds : List D)

abbrev Cells := List (Option Ob)
abbrev Env := List (Option D)

variable {K : PySem.W.Frag} {mg : Str → Option Value}

mutual
inductive Dat (K : PySem.W.Frag) (H : Hp) (ρ : List Addr) : V → D → Prop
  | non : Dat K H ρ .non .non
  | bl (b : Bool) : Dat K H ρ (.bl b) (.bl b)
  | int (i : Int) : Dat K H ρ (.int i) (.int i)
  | str (x : Str) : Dat K H ρ (.str x) (.str x)
  | tup {a : Addr} {xs : List V} {ds : List D} (h : SqT K H a xs) (hs : Dats K H ρ xs ds) : Dat K H ρ (.ref a) (.tup ds)
  | lst {a : Addr} {xs : List V} {ds : List D} (h : SqL K H a xs) (hs : Dats K H ρ xs ds) : Dat K H ρ (.ref a) (.lst ds)
  | cel {n : Nat} {a : Addr} (h : ρ[n]? = some a) : Dat K H ρ (.ref a) (.cel n)
  | opq (v : V) : Dat K H ρ v (.opq v)
  | dk {a : Addr} {ks : List Key} {xs : List V} {ds : List D} (h : H a = some (.dK (ks.zip xs))) (hl : ks.length = xs.length) (hs : Dats K H ρ xs ds) : Dat K H ρ (.ref a) (.dk ks ds)
  | dt {a : Addr} {ks : List (List Key)} {xs : List V} {ds : List D} (h : H a = some (.dT (ks.zip xs))) (hl : ks.length = xs.length) (hs : Dats K H ρ xs ds) : Dat K H ρ (.ref a) (.dt ks ds)
inductive Dats (K : PySem.W.Frag) (H : Hp) (ρ : List Addr) : List V → List D → Prop
  | nil : Dats K H ρ [] []
  | cons {v : V} {vs : List V} {d : D} {ds : List D} (h : Dat K H ρ v d) (hs : Dats K H ρ vs ds) : Dats K H ρ (v :: vs) (d :: ds)
end

theorem pre_get {ρ ρ' : List Addr} {n : Nat} {a : Addr} (p : ρ <+: ρ') (h : ρ[n]? = some a) : ρ'[n]? = some a := by
  obtain ⟨t, rfl⟩ := p
  have hn : n < ρ.length := (List.getElem?_eq_some_iff.mp h).1
  rw [List.getElem?_append_left hn]
  exact h

theorem same_rd {H H' : Hp} {a : Addr} {u : HO} (e : Same H H') (h : Rd H a u) : Rd H' a u := by
  rcases h with h | ⟨o, h⟩
  · exact .inl (e a _ h)
  · exact .inr ⟨o, e a _ h⟩
theorem same_l {H H' : Hp} {a : Addr} {xs : List V} (e : Same H H') (h : SqL K H a xs) : SqL K H' a xs := by
  rcases h with h | h
  · exact .inl (same_rd e h)
  · exact .inr h
theorem same_t {H H' : Hp} {a : Addr} {xs : List V} (e : Same H H') (h : SqT K H a xs) : SqT K H' a xs := by
  rcases h with h | h
  · exact .inl (same_rd e h)
  · exact .inr h

mutual
theorem Dat.mono {H H' : Hp} {ρ ρ' : List Addr} (e : Same H H') (p : ρ <+: ρ') {v : V} {d : D} (q : Dat K H ρ v d) : Dat K H' ρ' v d :=
  match q with
  | .non => .non
  | .bl b => .bl b
  | .int i => .int i
  | .str x => .str x
  | .tup h hs => .tup (same_t e h) (Dats.mono e p hs)
  | .lst h hs => .lst (same_l e h) (Dats.mono e p hs)
  | .cel h => .cel (pre_get p h)
  | .opq v => .opq v
  | .dk h hl hs => .dk (e _ _ h) hl (Dats.mono e p hs)
  | .dt h hl hs => .dt (e _ _ h) hl (Dats.mono e p hs)
theorem Dats.mono {H H' : Hp} {ρ ρ' : List Addr} (e : Same H H') (p : ρ <+: ρ') {vs : List V} {ds : List D} (q : Dats K H ρ vs ds) : Dats K H' ρ' vs ds :=
  match q with
  | .nil => .nil
  | .cons h hs => .cons (Dat.mono e p h) (Dats.mono e p hs)
end

theorem Dats.len {H : Hp} {ρ : List Addr} : ∀ {vs : List V} {ds : List D}, Dats K H ρ vs ds → vs.length = ds.length
  | _, _, .nil => rfl
  | _, _, .cons _ hs => by rw [List.length_cons, List.length_cons, Dats.len hs]
theorem Dats.get {H : Hp} {ρ : List Addr} : ∀ {vs : List V} {ds : List D} {i : Nat} {d : D}, Dats K H ρ vs ds → ds[i]? = some d → ∃ v, vs[i]? = some v ∧ Dat K H ρ v d
  | _, _, _, _, .nil, h => by simp at h
  | _, _, 0, _, .cons h _, e => by
    have e' := Option.some.inj e
    subst e'
    exact ⟨_, rfl, h⟩
  | _, _, i + 1, _, .cons _ hs, e => by
    obtain ⟨v, h1, h2⟩ := Dats.get (i := i) hs (by simpa using e)
    exact ⟨v, by simpa using h1, h2⟩
theorem Dats.getV {H : Hp} {ρ : List Addr} : ∀ {vs : List V} {ds : List D} {i : Nat} {v : V}, Dats K H ρ vs ds → vs[i]? = some v → ∃ d, ds[i]? = some d ∧ Dat K H ρ v d
  | _, _, _, _, .nil, h => by simp at h
  | _, _, 0, _, .cons h _, e => by
    have e' := Option.some.inj e
    subst e'
    exact ⟨_, rfl, h⟩
  | _, _, i + 1, _, .cons _ hs, e => by
    obtain ⟨v, h1, h2⟩ := Dats.getV (i := i) hs (by simpa using e)
    exact ⟨v, by simpa using h1, h2⟩
theorem Dats.app {H : Hp} {ρ : List Addr} : ∀ {vs : List V} {ds : List D} {ws : List V} {es : List D}, Dats K H ρ vs ds → Dats K H ρ ws es → Dats K H ρ (vs ++ ws) (ds ++ es)
  | _, _, _, _, .nil, k => k
  | _, _, _, _, .cons h hs, k => .cons h (Dats.app hs k)
theorem Dats.take {H : Hp} {ρ : List Addr} : ∀ {vs : List V} {ds : List D} (n : Nat), Dats K H ρ vs ds → Dats K H ρ (vs.take n) (ds.take n)
  | _, _, 0, _ => .nil
  | _, _, _ + 1, .nil => .nil
  | _, _, n + 1, .cons h hs => .cons h (Dats.take n hs)
theorem Dats.drop {H : Hp} {ρ : List Addr} : ∀ {vs : List V} {ds : List D} (n : Nat), Dats K H ρ vs ds → Dats K H ρ (vs.drop n) (ds.drop n)
  | _, _, 0, h => h
  | _, _, _ + 1, .nil => .nil
  | _, _, n + 1, .cons _ hs => Dats.drop n hs
theorem Dats.set {H : Hp} {ρ : List Addr} {v : V} {d : D} (h : Dat K H ρ v d) : ∀ {vs : List V} {ds : List D} (n : Nat), Dats K H ρ vs ds → Dats K H ρ (vs.set n v) (ds.set n d)
  | _, _, _, .nil => .nil
  | _, _, 0, .cons _ hs => .cons h hs
  | _, _, n + 1, .cons q hs => .cons q (Dats.set h n hs)
theorem Dats.erase {H : Hp} {ρ : List Addr} : ∀ {vs : List V} {ds : List D} (n : Nat), Dats K H ρ vs ds → Dats K H ρ (vs.eraseIdx n) (ds.eraseIdx n)
  | _, _, _, .nil => .nil
  | _, _, 0, .cons _ hs => hs
  | _, _, n + 1, .cons q hs => .cons q (Dats.erase n hs)

mutual
/-- no changing list within -/
def nocel : D → Bool
  | .tup ds => nocels ds
  | .lst ds => nocels ds
  | .dk _ ds => nocels ds
  | .dt _ ds => nocels ds
  | .cel _ => false
  | .err _ _ _ => false
  | _ => true
def nocels : List D → Bool
  | [] => true
  | d :: ds => nocel d && nocels ds
end
mutual
theorem Dat.bare {H : Hp} {ρ : List Addr} {v : V} {d : D} (q : Dat K H ρ v d) (n : nocel d = true) : Dat K H [] v d :=
  match q with
  | .non => .non
  | .bl b => .bl b
  | .int i => .int i
  | .str x => .str x
  | .tup h hs => .tup h (Dats.bare hs (by simpa [nocel] using n))
  | .lst h hs => .lst h (Dats.bare hs (by simpa [nocel] using n))
  | .cel h => by simp [nocel] at n
  | .opq v => .opq v
  | .dk h hl hs => .dk h hl (Dats.bare hs (by simpa [nocel] using n))
  | .dt h hl hs => .dt h hl (Dats.bare hs (by simpa [nocel] using n))
theorem Dats.bare {H : Hp} {ρ : List Addr} {vs : List V} {ds : List D} (q : Dats K H ρ vs ds) (n : nocels ds = true) : Dats K H [] vs ds :=
  match q with
  | .nil => .nil
  | .cons h hs => .cons (Dat.bare h (by simp [nocels] at n; exact n.1)) (Dats.bare hs (by simp [nocels] at n; exact n.2))
end

/-- what a live cell is in the heap: its items hold no changing list -/
inductive ObR (K : PySem.W.Frag) (Hf : Hp) : Option HO → Ob → Prop
  | l {vs : List V} {ds : List D} (h : Dats K Hf [] vs ds) : ObR K Hf (some (.lst vs)) (.l ds)

/-- Hf: what stays; F: the frame, which no step touches; C: what changes -/
structure SR (K : PySem.W.Frag) (Hf F : Hp) (ρ : List Addr) (C : Cells) (H : Hp) : Prop where
  ex : Same Hf H
  fr : Same F H
  ap : ∀ b o, F b = some o → Hf b = none
  len : ρ.length = C.length
  cel : ∀ (n : Nat) (a : Addr) (o : Ob), ρ[n]? = some a → C[n]? = some (some o) → (Hf a = none ∧ F a = none) ∧ ObR K Hf (H a) o
  inj : ∀ (m n : Nat) (a : Addr) (o u : Ob), ρ[m]? = some a → ρ[n]? = some a → C[m]? = some (some o) → C[n]? = some (some u) → m = n

theorem ObR.mono {Hf Hf' : Hp} (e : Same Hf Hf') {ho : Option HO} {o : Ob} (h : ObR K Hf ho o) : ObR K Hf' ho o := by
  cases h with
  | l h => exact .l (h.mono e (List.prefix_refl _))
theorem ObR.lst {Hf : Hp} {ho : Option HO} {ds : List D} (h : ObR K Hf ho (.l ds)) : ∃ vs, ho = some (.lst vs) ∧ Dats K Hf [] vs ds := by
  cases h with
  | l h => exact ⟨_, rfl, h⟩
theorem ObR.some {Hf : Hp} {ho : Option HO} {o : Ob} (h : ObR K Hf ho o) : ∃ u, ho = some u := by
  cases h with
  | l h => exact ⟨_, rfl⟩

/-- a new object that stays as it is -/
theorem SR.new {Hf F : Hp} {ρ : List Addr} {C : Cells} {H : Hp} (S : SR K Hf F ρ C H) {p : Addr} {o : HO} (hp : H p = none) : SR K (upd Hf p o) F ρ C (upd H p o) ∧ Same Hf (upd Hf p o) := by
  have hf : Hf p = none := S.ex.free hp
  have e0 : Same Hf (upd Hf p o) := fun b u h => by
    rw [upd_ne (ne_of_none h hf)]
    exact h
  refine ⟨⟨fun b u h => ?_, fun b u h => ?_, fun b u h => ?_, S.len, fun n a u h1 h2 => ?_, S.inj⟩, e0⟩
  · by_cases hb : b = p
    · subst hb
      rw [upd_same] at h ⊢
      exact h
    · rw [upd_ne hb] at h ⊢
      exact S.ex b u h
  · rw [upd_ne (ne_of_none (S.fr b u h) hp)]
    exact S.fr b u h
  · rw [upd_ne (ne_of_none (S.fr b u h) hp)]
    exact S.ap b u h
  · obtain ⟨k1, k2⟩ := S.cel n a u h1 h2
    obtain ⟨w, hw⟩ := k2.some
    have ha : a ≠ p := ne_of_none hw hp
    rw [upd_ne ha, upd_ne ha]
    exact ⟨k1, k2.mono e0⟩
/-- a new changing list -/
theorem SR.newCel {Hf F : Hp} {ρ : List Addr} {C : Cells} {H : Hp} (S : SR K Hf F ρ C H) {p : Addr} {vs : List V} {ds : List D} (hp : H p = none) (h : Dats K Hf [] vs ds) :
    SR K Hf F (ρ ++ [p]) (C ++ [some (.l ds)]) (upd H p (.lst vs)) := by
  have hf : Hf p = none := S.ex.free hp
  refine ⟨fun b u q => ?_, fun b u q => ?_, S.ap, by rw [List.length_append, List.length_append, S.len]; rfl, fun n a u h1 h2 => ?_, fun m n a o u h1 h2 h3 h4 => ?_⟩
  · rw [upd_ne (ne_of_none q hf)]
    exact S.ex b u q
  · rw [upd_ne (ne_of_none (S.fr b u q) hp)]
    exact S.fr b u q
  · by_cases hn : n < ρ.length
    · rw [List.getElem?_append_left hn] at h1
      rw [List.getElem?_append_left (by rw [← S.len]; exact hn)] at h2
      obtain ⟨k1, k2⟩ := S.cel n a u h1 h2
      obtain ⟨w, hw⟩ := k2.some
      rw [upd_ne (ne_of_none hw hp)]
      exact ⟨k1, k2⟩
    · have hn' := (List.getElem?_eq_some_iff.mp h1).1
      rw [List.length_append] at hn'
      have hl : ([p] : List Addr).length = 1 := rfl
      have en : n = ρ.length := by omega
      subst en
      rw [List.getElem?_append_right (Nat.le_refl _), Nat.sub_self] at h1
      have ea : p = a := Option.some.inj h1
      rw [S.len, List.getElem?_append_right (Nat.le_refl _), Nat.sub_self] at h2
      have eu : Ob.l ds = u := Option.some.inj (Option.some.inj h2)
      subst ea
      subst eu
      rw [upd_same]
      exact ⟨⟨hf, S.fr.free hp⟩, .l h⟩
  · have old : ∀ {k : Nat} {b : Addr} {o : Ob}, k < ρ.length → (ρ ++ [p])[k]? = some b → (C ++ [some (.l ds)])[k]? = some (some o) → ρ[k]? = some b ∧ C[k]? = some (some o) ∧ b ≠ p := fun {k b o} hk g1 g2 => by
      rw [List.getElem?_append_left hk] at g1
      rw [List.getElem?_append_left (by rw [← S.len]; exact hk)] at g2
      obtain ⟨_, k2⟩ := S.cel k b o g1 g2
      obtain ⟨w, hw⟩ := k2.some
      exact ⟨g1, g2, ne_of_none hw hp⟩
    have new : ∀ {k : Nat} {b : Addr}, ¬ k < ρ.length → (ρ ++ [p])[k]? = some b → k = ρ.length ∧ p = b := fun {k b} hk g1 => by
      have hn' := (List.getElem?_eq_some_iff.mp g1).1
      rw [List.length_append] at hn'
      have hl : ([p] : List Addr).length = 1 := rfl
      have en : k = ρ.length := by omega
      subst en
      rw [List.getElem?_append_right (Nat.le_refl _), Nat.sub_self] at g1
      exact ⟨rfl, Option.some.inj g1⟩
    by_cases hm : m < ρ.length
    · obtain ⟨a1, a2, a3⟩ := old hm h1 h3
      by_cases hn : n < ρ.length
      · obtain ⟨b1, b2, b3⟩ := old hn h2 h4
        exact S.inj m n a o u a1 b1 a2 b2
      · exact absurd (new hn h2).2.symm a3
    · obtain ⟨rfl, e1⟩ := new hm h1
      by_cases hn : n < ρ.length
      · obtain ⟨b1, b2, b3⟩ := old hn h2 h4
        exact absurd e1.symm b3
      · exact (new hn h2).1.symm
/-- a changing list is changed -/
theorem SR.setCel {Hf F : Hp} {ρ : List Addr} {C : Cells} {H : Hp} (S : SR K Hf F ρ C H) {n : Nat} {a : Addr} {o : Ob} {vs : List V} {ds : List D} (hn : ρ[n]? = some a) (hc : C[n]? = some (some o)) (h : Dats K Hf [] vs ds) :
    SR K Hf F ρ (C.set n (some (.l ds))) (upd H a (.lst vs)) := by
  have hf := (S.cel n a o hn hc).1
  have hl : n < C.length := (List.getElem?_eq_some_iff.mp hc).1
  have live : ∀ {m : Nat} {u : Ob}, (C.set n (some (.l ds)))[m]? = some (some u) → ∃ u', C[m]? = some (some u') := fun {m u} g => by
    by_cases hm : n = m
    · exact ⟨o, by rw [← hm]; exact hc⟩
    · rw [List.getElem?_set_ne hm] at g
      exact ⟨u, g⟩
  refine ⟨fun b u q => ?_, fun b u q => ?_, S.ap, by rw [List.length_set]; exact S.len, fun m b u h1 h2 => ?_, fun i j b u w h1 h2 h3 h4 => ?_⟩
  · rw [upd_ne (ne_of_none q hf.1)]
    exact S.ex b u q
  · rw [upd_ne (ne_of_none q hf.2)]
    exact S.fr b u q
  · by_cases hm : n = m
    · subst hm
      rw [List.getElem?_set_self hl] at h2
      have eu : Ob.l ds = u := Option.some.inj (Option.some.inj h2)
      subst eu
      have eb : a = b := Option.some.inj (hn.symm.trans h1)
      subst eb
      rw [upd_same]
      exact ⟨hf, .l h⟩
    · rw [List.getElem?_set_ne hm] at h2
      obtain ⟨k1, k2⟩ := S.cel m b u h1 h2
      have hb : b ≠ a := fun e => hm (S.inj n m a o u hn (by rw [← e]; exact h1) hc h2)
      rw [upd_ne hb]
      exact ⟨k1, k2⟩
  · obtain ⟨u', g3⟩ := live h3
    obtain ⟨w', g4⟩ := live h4
    exact S.inj i j b u' w' h1 h2 g3 g4
/-- a cell is given up -/
theorem SR.drop {Hf F : Hp} {ρ : List Addr} {C : Cells} {H : Hp} (S : SR K Hf F ρ C H) (n : Nat) : SR K Hf F ρ (C.set n none) H := by
  have live : ∀ {m : Nat} {u : Ob}, (C.set n none)[m]? = some (some u) → C[m]? = some (some u) := fun {m u} g => by
    by_cases hm : n = m
    · subst hm
      by_cases hl : n < C.length
      · rw [List.getElem?_set_self hl] at g
        cases g
      · rw [List.getElem?_eq_none (by rw [List.length_set]; omega)] at g
        cases g
    · rw [List.getElem?_set_ne hm] at g
      exact g
  exact ⟨S.ex, S.fr, S.ap, by rw [List.length_set]; exact S.len, fun m b u h1 h2 => S.cel m b u h1 (live h2), fun i j b u w h1 h2 h3 h4 => S.inj i j b u w h1 h2 (live h3) (live h4)⟩
/-- a changing list changes no more: it is data from now on -/
theorem SR.freeze {Hf F : Hp} {ρ : List Addr} {C : Cells} {H : Hp} (S : SR K Hf F ρ C H) {n : Nat} {a : Addr} {ds : List D} (hn : ρ[n]? = some a) (hc : C[n]? = some (some (.l ds))) :
    ∃ Hf', Same Hf Hf' ∧ SR K Hf' F ρ (C.set n none) H ∧ Dat K Hf' ρ (.ref a) (.lst ds) := by
  obtain ⟨hf, k⟩ := S.cel n a _ hn hc
  obtain ⟨vs, hv, hd⟩ := k.lst
  have e0 : Same Hf (upd Hf a (.lst vs)) := fun b u h => by
    rw [upd_ne (ne_of_none h hf.1)]
    exact h
  have S' := S.drop n
  refine ⟨upd Hf a (.lst vs), e0, ⟨fun b u h => ?_, S'.fr, fun b u h => ?_, S'.len, fun m b u h1 h2 => ?_, S'.inj⟩, .lst (.inl (.inl upd_same)) (hd.mono e0 List.nil_prefix)⟩
  · by_cases hb : b = a
    · subst hb
      rw [upd_same] at h
      rw [hv]
      exact h
    · rw [upd_ne hb] at h
      exact S.ex b u h
  · rw [upd_ne (ne_of_none h hf.2)]
    exact S.ap b u h
  · obtain ⟨k1, k2⟩ := S'.cel m b u h1 h2
    have hm : m ≠ n := fun e => by
      subst e
      have hl : m < C.length := (List.getElem?_eq_some_iff.mp hc).1
      rw [List.getElem?_set_self hl] at h2
      cases h2
    have h2' : C[m]? = some (some u) := by
      rw [List.getElem?_set_ne (Ne.symm hm)] at h2
      exact h2
    have hb : b ≠ a := fun e => hm (S.inj m n a u _ (by rw [← e]; exact h1) hn h2' hc)
    rw [upd_ne hb]
    exact ⟨k1, k2.mono e0⟩
/-- cells behind the first n are forgotten -/
theorem SR.cut {Hf F : Hp} {ρ : List Addr} {C : Cells} {H : Hp} (S : SR K Hf F ρ C H) (n : Nat) : SR K Hf F (ρ.take n) (C.take n) H := by
  refine ⟨S.ex, S.fr, S.ap, by rw [List.length_take, List.length_take, S.len], fun m a o h1 h2 => ?_, fun i j a o u h1 h2 h3 h4 => ?_⟩
  · rw [List.getElem?_take] at h1 h2
    split at h1
    · rename_i hm
      rw [if_pos hm] at h2
      exact S.cel m a o h1 h2
    · cases h1
  · rw [List.getElem?_take] at h1 h2 h3 h4
    split at h1
    · rename_i hi
      rw [if_pos hi] at h3
      split at h2
      · rename_i hj
        rw [if_pos hj] at h4
        exact S.inj i j a o u h1 h2 h3 h4
      · cases h2
    · cases h1

/-- within an except suite: the error's slot, the error, its class, its own dict -/
abbrev XC := Option (Nat × Addr × Value × Option Addr)
def isErr : D → Bool
  | .err _ _ _ => true
  | _ => false
theorem Dat.noErr {H : Hp} {ρ : List Addr} {v : V} {d : D} (h : Dat K H ρ v d) : isErr d = false := by cases h <;> rfl
/-- the slots' values -/
structure EnvR (K : PySem.W.Frag) (mg : Str → Option Value) (xc : XC) (Hf : Hp) (ρ : List Addr) (σ : L2.St) (env : Env) : Prop where
  len : σ.length = env.length
  at_ : ∀ (i : Nat) (d : D), env[i]? = some (some d) → isErr d = false → ∃ v, σ[i]? = some (some v) ∧ Dat K Hf ρ v d
  exc : ∀ (i : Nat) (a : Addr) (cls : Value) (dd : Option Addr) (c f : Str) (d : D), xc = some (i, a, cls, dd) → env[i]? = some (some (.err c f d)) →
    σ[i]? = some (some (.ref a)) ∧ ∃ (b C : Addr) (v : V), dd = some b ∧ cls = .ref C ∧ mg c = some (.ref C) ∧ Hf b = some (.xd [(f, v)]) ∧ Dat K Hf ρ v d
variable {xc : XC}
theorem EnvR.mono {Hf Hf' : Hp} {ρ ρ' : List Addr} {σ : L2.St} {env : Env} (h : EnvR K mg xc Hf ρ σ env) (e : Same Hf Hf') (p : ρ <+: ρ') : EnvR K mg xc Hf' ρ' σ env :=
  ⟨h.len, fun i d q n => by
    obtain ⟨v, h1, h2⟩ := h.at_ i d q n
    exact ⟨v, h1, h2.mono e p⟩, fun i a cls dd c f d hx q => by
    obtain ⟨h1, b, C, v, h2, h3, h4, h5, h6⟩ := h.exc i a cls dd c f d hx q
    exact ⟨h1, b, C, v, h2, h3, h4, e _ _ h5, h6.mono e p⟩⟩
theorem set_some {env : Env} {i j : Nat} {d e : D} (h : (env.set i (some d))[j]? = some (some e)) : (i = j ∧ e = d ∧ i < env.length) ∨ (i ≠ j ∧ env[j]? = some (some e)) := by
  by_cases hi : i = j
  · subst hi
    by_cases hl : i < env.length
    · rw [List.getElem?_set_self hl] at h
      exact .inl ⟨rfl, (Option.some.inj (Option.some.inj h)).symm, hl⟩
    · rw [List.getElem?_eq_none (by rw [List.length_set]; omega)] at h
      cases h
  · rw [List.getElem?_set_ne hi] at h
    exact .inr ⟨hi, h⟩
theorem EnvR.set {Hf : Hp} {ρ : List Addr} {σ : L2.St} {env : Env} (h : EnvR K mg xc Hf ρ σ env) {v : V} {d : D} (q : Dat K Hf ρ v d) (i : Nat) : EnvR K mg xc Hf ρ (σ.set i (some v)) (env.set i (some d)) := by
  refine ⟨by rw [List.length_set, List.length_set]; exact h.len, fun j e hj n => ?_, fun j a cls dd c f e hx hj => ?_⟩
  · rcases set_some hj with ⟨rfl, rfl, hl⟩ | ⟨hi, hj⟩
    · exact ⟨v, List.getElem?_set_self (by rw [h.len]; exact hl), q⟩
    · rw [List.getElem?_set_ne hi]
      exact h.at_ j e hj n
  · rcases set_some hj with ⟨rfl, rfl, hl⟩ | ⟨hi, hj⟩
    · have := q.noErr
      cases this
    · rw [List.getElem?_set_ne hi]
      exact h.exc j a cls dd c f e hx hj
theorem EnvR.plain {Hf : Hp} {ρ : List Addr} {σ : L2.St} {env : Env} (h : EnvR K mg xc Hf ρ σ env) : EnvR K mg none Hf ρ σ env := ⟨h.len, h.at_, fun _ _ _ _ _ _ _ hx => nomatch hx⟩
/-- what is wished of an exception, and the suite that one is in -/
structure Wh where
  w : WX
  xc : XC := none
end Sm
end
section
set_option maxRecDepth 100000
set_option maxHeartbeats 0
namespace Sm
open PySem L2
variable {K : PySem.W.Frag} {mg : Str → Option Value}

/-! ### the pure machine: what a piece of program comes to over slots and cells -/
inductive R (α : Type) where
  | ok (a : α) (C : Cells)
  | ex (c : Str) (p : Option (Str × D)) (C : Cells)
abbrev S (α : Type) := Env → Cells → Option (R α)
def S.bind {α β : Type} (s : S α) (k : α → S β) : S β := fun e C => match s e C with
  | none => none
  | some (.ex c p C') => some (.ex c p C')
  | some (.ok a C') => k a e C'
def S.val {α : Type} (a : α) : S α := fun _ C => some (.ok a C)
def S.opt {α : Type} (o : Option α) : S α := fun _ C => match o with
  | some a => some (.ok a C)
  | none => none

/-- an exception of the class named c, with what it keeps -/
def ExR (K : PySem.W.Frag) (mg : Str → Option Value) (Hf : Hp) (ρ : List Addr) (c : Str) (p : Option (Str × D)) (cls : Value) (dd : Option Addr) : Prop :=
  ∃ a : Addr, mg c = some (.ref a) ∧ cls = .ref a ∧ match p with
    | none => dd = none
    | some (f, d) => ∃ (b : Addr) (v : V), dd = some b ∧ Hf b = some (.xd [(f, v)]) ∧ Dat K Hf ρ v d

section
variable {α β γ δ : Type}
/-- what is to be shown of an outcome -/
def Go (K : PySem.W.Frag) (mg : Str → Option Value) (W : Wh) (Rel : Hp → List Addr → β → α → Prop) (σ : L2.St) (Hf F : Hp) (ρ : List Addr) (r : Option (R α)) (Q : β → Hp → Prop) : Prop :=
  match r with
  | none => False
  | some (.ok a C') => ∀ v H' Hf' ρ', Same Hf Hf' → ρ <+: ρ' → SR K Hf' F ρ' C' H' → Rel Hf' ρ' v a → Q v H'
  | some (.ex c p C') => ∀ cls dd H' Hf' ρ', Same Hf Hf' → ρ <+: ρ' → SR K Hf' F ρ' C' H' → ExR K mg Hf' ρ' c p cls dd → W.w cls dd σ H'
def tG (K : PySem.W.Frag) (mg : Str → Option Value) (W : Wh) (Rel : Hp → List Addr → β → α → Prop) (s : S α) : L2.St → Hp → (β → Hp → Prop) → Prop := fun σ H Q =>
  ∃ Hf F ρ env C, SR K Hf F ρ C H ∧ EnvR K mg W.xc Hf ρ σ env ∧ Go K mg W Rel σ Hf F ρ (s env C) Q

variable {W : Wh} {σ : L2.St} {Hf Hf1 F : Hp} {ρ ρ1 : List Addr} {C : Cells} {env : Env} {H : Hp}
theorem Go.later {Rel : Hp → List Addr → β → α → Prop} {r : Option (R α)} {Q : β → Hp → Prop} (h : Go K mg W Rel σ Hf F ρ r Q) (e : Same Hf Hf1) (p : ρ <+: ρ1) : Go K mg W Rel σ Hf1 F ρ1 r Q := by
  cases r with
  | none => exact h
  | some r =>
    cases r with
    | ok a C' => exact fun v H' Hf' ρ' e' p' => h v H' Hf' ρ' (e.trans e') (p.trans p')
    | ex c q C' => exact fun cls dd H' Hf' ρ' e' p' => h cls dd H' Hf' ρ' (e.trans e') (p.trans p')
theorem Go.mono {Rel : Hp → List Addr → β → α → Prop} {r : Option (R α)} {Q Q' : β → Hp → Prop} (h : Go K mg W Rel σ Hf F ρ r Q) (k : ∀ v H', Q v H' → Q' v H') : Go K mg W Rel σ Hf F ρ r Q' := by
  cases r with
  | none => exact h
  | some r =>
    cases r with
    | ok a C' => exact fun v H' Hf' ρ' e' p' s' q' => k _ _ (h v H' Hf' ρ' e' p' s' q')
    | ex c q C' => exact h
/-- a part first, the rest behind it -/
theorem Go.bind {Rel : Hp → List Addr → β → α → Prop} {Rel2 : Hp → List Addr → δ → γ → Prop} {s : S α} {k : α → S γ} {Q : δ → Hp → Prop} (h : Go K mg W Rel2 σ Hf F ρ (S.bind s k env C) Q) :
    Go K mg W Rel σ Hf F ρ (s env C) (fun v H1 => ∃ Hf1 ρ1 C1 a, Same Hf Hf1 ∧ ρ <+: ρ1 ∧ SR K Hf1 F ρ1 C1 H1 ∧ Rel Hf1 ρ1 v a ∧ Go K mg W Rel2 σ Hf1 F ρ1 (k a env C1) Q) := by
  unfold S.bind at h
  cases e : s env C with
  | none =>
    rw [e] at h
    exact h
  | some r =>
    rw [e] at h
    cases r with
    | ok a C' => exact fun v H' Hf' ρ' e' p' s' q' => ⟨Hf', ρ', C', a, e', p', s', q', Go.later h e' p'⟩
    | ex c q C' => exact h
theorem Go.val {Rel : Hp → List Addr → β → α → Prop} {a : α} {Q : β → Hp → Prop} {v : β} (h : Go K mg W Rel σ Hf F ρ (S.val a env C) Q) (S0 : SR K Hf F ρ C H) (r : Rel Hf ρ v a) : Q v H :=
  h v H Hf ρ (Same.refl _) (List.prefix_refl _) S0 r
theorem Go.opt {Rel : Hp → List Addr → β → α → Prop} {o : Option α} {Q : β → Hp → Prop} (h : Go K mg W Rel σ Hf F ρ (S.opt o env C) Q) : ∃ a, o = some a ∧ Go K mg W Rel σ Hf F ρ (S.val a env C) Q := by
  cases o with
  | none => exact h.elim
  | some a => exact ⟨a, rfl, h⟩
end

abbrev REq : Hp → List Addr → Bool → Bool → Prop := fun _ _ a b => a = b
def tE (K : PySem.W.Frag) (mg : Str → Option Value) (W : Wh) (s : S D) : TE := tG K mg W (Dat K) s
def tA (K : PySem.W.Frag) (mg : Str → Option Value) (W : Wh) (s : S (List D)) : TA := tG K mg W (Dats K) s
def tT (K : PySem.W.Frag) (mg : Str → Option Value) (W : Wh) (s : S Bool) : TT := tG K mg W REq s

/-- the judgements -/
def SE (X : Cx) (W : Wh) (e : Expr) (s : S D) : Prop := PE X e (tE X.K X.mg W s)
def SA (X : Cx) (W : Wh) (es : List Expr) (s : S (List D)) : Prop := PA X es (tA X.K X.mg W s)
def SB (X : Cx) (W : Wh) (e : Expr) (s : S Bool) : Prop := PT X e (tT X.K X.mg W s)

section
variable {X : Cx} {W : Wh}
theorem pe_imp {e : Expr} {t u : TE} (h : PE X e t) (k : ∀ σ H Q, u σ H Q → t σ H Q) : PE X e u := ⟨fun pins s σ H Q I q => h.run pins s σ H Q I (k σ H Q q)⟩
theorem pa_imp {e : List Expr} {t u : TA} (h : PA X e t) (k : ∀ σ H Q, u σ H Q → t σ H Q) : PA X e u := ⟨fun pos pins s σ H Q I q => h.run pos pins s σ H Q I (k σ H Q q)⟩
theorem pt_imp {e : Expr} {t u : TT} (h : PT X e t) (k : ∀ σ H Q, u σ H Q → t σ H Q) : PT X e u := ⟨fun pins s σ H Q I q => h.run pins s σ H Q I (k σ H Q q)⟩
theorem pw_imp {e : Expr} {t u : TT} (h : PW X e t) (k : ∀ σ H Q, u σ H Q → t σ H Q) : PW X e u := ⟨fun wh pins s σ H Q I q => h.run wh pins s σ H Q I (k σ H Q q)⟩
theorem ps_imp {e : Stmt} {t u : TS} (h : PS X e t) (k : ∀ D σ H, u D σ H → t D σ H) : PS X e u := ⟨fun pins s σ H D I q => h.run pins s σ H D I (k D σ H q)⟩
theorem pss_imp {e : List Stmt} {t u : TS} (h : PSs X e t) (k : ∀ D σ H, u D σ H → t D σ H) : PSs X e u := ⟨fun pins s σ H D I q => h.run pins s σ H D I (k D σ H q)⟩

/-! ### names, constants -/
def xV (i : Nat) : S D := fun env C => match env[i]? with
  | some (some d) => if isErr d = true then none else some (.ok d C)
  | _ => none
theorem se_var {i : Nat} {x : Str} {pos : Pos} (h : PE X (.Name x pos) (tVar i)) : SE X W (.Name x pos) (xV i) := pe_imp h fun σ H Q ⟨Hf, F, ρ, env, C, S0, E0, g⟩ => by
  unfold xV at g
  split at g
  · rename_i d e
    split at g
    · exact g.elim
    rename_i hn
    obtain ⟨v, h1, h2⟩ := E0.at_ i d e (by simpa using hn)
    exact ⟨v, h1, g v H Hf ρ (Same.refl _) (List.prefix_refl _) S0 h2⟩
  · exact g.elim
theorem se_const {e : Expr} {v : V} {d : D} (h : PE X e (tC v)) (r : ∀ Hf ρ, Dat X.K Hf ρ v d) : SE X W e (S.val d) := pe_imp h fun σ H Q ⟨Hf, F, ρ, env, C, S0, E0, g⟩ => Go.val g S0 (r Hf ρ)

/-! ### operators by values -/
/-- a value as it is to be read now: a changing list is its items -/
def vw (C : Cells) (d : D) : D := match d with
  | .cel n => match C[n]? with
    | some (some (.l ds)) => .lst ds
    | _ => d
  | _ => d
/-- what is read: its items are data that stays -/
inductive Vw (K : PySem.W.Frag) (H : Hp) (Hf : Hp) (ρ : List Addr) : V → D → Prop
  | dat {v : V} {d : D} (h : Dat K Hf ρ v d) : Vw K H Hf ρ v d
  | now {a : Addr} {xs : List V} {ds : List D} (h : SqL K H a xs) (hs : Dats K Hf ρ xs ds) : Vw K H Hf ρ (.ref a) (.lst ds)
theorem vw_ok {Hf F : Hp} {ρ : List Addr} {C : Cells} {H : Hp} {v : V} {d : D} (S0 : SR K Hf F ρ C H) (h : Dat K Hf ρ v d) : Vw K H Hf ρ v (vw C d) := by
  cases h with
  | @cel n a h =>
    unfold vw
    simp only []
    split
    · rename_i ds e
      obtain ⟨_, k⟩ := S0.cel n a _ h e
      obtain ⟨vs, hv, hd⟩ := k.lst
      exact .now (.inl (.inl hv)) (hd.mono (Same.refl _) List.nil_prefix)
    · exact .dat (.cel h)
  | non => exact .dat .non
  | bl b => exact .dat (.bl b)
  | int i => exact .dat (.int i)
  | str x => exact .dat (.str x)
  | tup h hs => exact .dat (.tup h hs)
  | lst h hs => exact .dat (.lst h hs)
  | opq v => exact .dat (.opq v)
  | dk h hl hs => exact .dat (.dk h hl hs)
  | dt h hl hs => exact .dat (.dt h hl hs)
/-- what an answer has to keep -/
def Ans (K : PySem.W.Frag) (Hf F : Hp) (ρ : List Addr) (C : Cells) (d : D) (Q : VK) : Prop := ∀ v H' Hf' ρ', Same Hf Hf' → ρ <+: ρ' → SR K Hf' F ρ' C H' → Dat K Hf' ρ' v d → Q v H'
/-- r, a rule by values, does what f tells of data -/
def Op2 (K : PySem.W.Frag) (r : R2) (f : D → D → Option D) : Prop := ∀ (Hf F : Hp) (ρ : List Addr) (C : Cells) (H : Hp) (x y : V) (a b d : D) (Q : VK), SR K Hf F ρ C H → Vw K H Hf ρ x a → Vw K H Hf ρ y b → f a b = some d → Ans K Hf F ρ C d Q → r x y H Q
def x2 (f : D → D → Option D) (a b : S D) : S D := S.bind a fun x => S.bind b fun y => fun env C => S.opt (f (vw C x) (vw C y)) env C
theorem go2 {r : R2} {f : D → D → Option D} {sa sb : S D} {ta tb : TE} (hf : Op2 X.K r f) {σ : L2.St} {H : Hp} {Q : VK} (ha : ∀ σ H Q, tE X.K X.mg W sa σ H Q → ta σ H Q) (hb : ∀ σ H Q, tE X.K X.mg W sb σ H Q → tb σ H Q)
    (h : tE X.K X.mg W (x2 f sa sb) σ H Q) : tOp r ta tb σ H Q := by
  obtain ⟨Hf, F, ρ, env, C, S0, E0, g⟩ := h
  refine ha σ H _ ⟨Hf, F, ρ, env, C, S0, E0, (Go.bind g).mono fun x H1 ⟨Hf1, ρ1, C1, a, e1, p1, S1, A1, g1⟩ => ?_⟩
  refine hb σ H1 _ ⟨Hf1, F, ρ1, env, C1, S1, E0.mono e1 p1, (Go.bind g1).mono fun y H2 ⟨Hf2, ρ2, C2, b, e2, p2, S2, B2, g2⟩ => ?_⟩
  obtain ⟨d, hd, g3⟩ := Go.opt g2
  exact hf Hf2 F ρ2 C2 H2 x y _ _ d Q S2 (vw_ok S2 (A1.mono e2 p2)) (vw_ok S2 B2) hd fun v H' Hf' ρ' e3 p3 S3 D3 => g3 v H' Hf' ρ' e3 p3 S3 D3
theorem se_op {op : Operator} {a b : Expr} {pos : Pos} {r : R2} {f : D → D → Option D} {sa sb : S D} (ho : OpR X (binaryOp op) r) (hf : Op2 X.K r f) (ha : SE X W a sa) (hb : SE X W b sb) : SE X W (.BinOp a op b pos) (x2 f sa sb) :=
  pe_imp (pe_op ho ha hb) fun _ _ _ h => go2 hf (fun _ _ _ q => q) (fun _ _ _ q => q) h
theorem se_cmp {op : CmpOp} {a b : Expr} {pos : Pos} {r : R2} {f : D → D → Option D} {sa sb : S D} (ho : OpR X (compareOp op) r) (hf : Op2 X.K r f) (ha : SE X W a sa) (hb : SE X W b sb) (hm : behindInMarks op b = false) : SE X W (.Compare a [op] [b] pos) (x2 f sa sb) :=
  pe_imp (pe_cmpR ho ha hb hm) fun _ _ _ h => go2 hf (fun _ _ _ q => q) (fun _ _ _ q => q) h
theorem se_sub {a b : Expr} {pos : Pos} {r : R2} {f : D → D → Option D} {sa sb : S D} (ho : IxR X r) (hf : Op2 X.K r f) (ha : SE X W a sa) (hb : SE X W b sb) (hs : PlainIx b) : SE X W (.Subscript a b pos) (x2 f sa sb) :=
  pe_imp (pe_ix ho ha hb hs) fun _ _ _ h => go2 hf (fun _ _ _ q => q) (fun _ _ _ q => q) h
/-- a test of data -/
def xB (s : S D) : S Bool := S.bind s fun d => S.opt (match d with
  | .bl b => some b
  | _ => none)
theorem goB {s : S D} {σ : L2.St} {H : Hp} {Q : Bool → Hp → Prop} (h : tT X.K X.mg W (xB s) σ H Q) : tE X.K X.mg W s σ H fun x H1 => ∃ k, x = .bl k ∧ Q k H1 := by
  obtain ⟨Hf, F, ρ, env, C, S0, E0, g⟩ := h
  refine ⟨Hf, F, ρ, env, C, S0, E0, (Go.bind g).mono fun x H1 ⟨Hf1, ρ1, C1, a, e1, p1, S1, A1, g1⟩ => ?_⟩
  obtain ⟨d, hd, g3⟩ := Go.opt g1
  cases a with
  | bl b =>
    cases A1
    have e : b = d := Option.some.inj hd
    exact ⟨b, rfl, g3 b H1 Hf1 ρ1 (Same.refl _) (List.prefix_refl _) S1 e⟩
  | _ => cases hd
theorem sb_cmp {op : CmpOp} {a b : Expr} {pos : Pos} {r : R2} {f : D → D → Option D} {sa sb : S D} (ho : OpR X (compareOp op) r) (hf : Op2 X.K r f) (ha : SE X W a sa) (hb : SE X W b sb) (hm : behindInMarks op b = false) : SB X W (.Compare a [op] [b] pos) (xB (x2 f sa sb)) :=
  pt_imp (pt_cmpR ho ha hb hm) fun _ _ _ h => go2 hf (fun _ _ _ q => q) (fun _ _ _ q => q) (goB h)
theorem sb_val {e : Expr} {s : S D} (h : SE X W e s) (he : ∀ whole, isTrue e X.env whole = (do let v ← whole; standAt e.pos; holding [v] (truthy v))) : SB X W e (xB s) :=
  pt_imp (pt_val h he) fun σ H Q q => goB q
/-! ### and, or, not, if -/
def xAnd (a b : S Bool) : S Bool := S.bind a fun x => if x = true then b else S.val false
def xOr (a b : S Bool) : S Bool := S.bind a fun x => if x = true then S.val true else b
def xNot (a : S Bool) : S Bool := S.bind a fun x => S.val (!x)
def xIf {α : Type} (c : S Bool) (a b : S α) : S α := S.bind c fun x => if x = true then a else b
def xD (s : S Bool) : S D := S.bind s fun b => S.val (.bl b)
theorem sw_and {a b : Expr} {rest : List Expr} {pos : Pos} {sa sb : S Bool} (ha : SB X W a sa) (hb : PW X (.BoolOp .And (b :: rest) pos) (tT X.K X.mg W sb)) : PW X (.BoolOp .And (a :: b :: rest) pos) (tT X.K X.mg W (xAnd sa sb)) :=
  pw_imp (pw_and ha hb) fun σ H Q ⟨Hf, F, ρ, env, C, S0, E0, g⟩ => ⟨Hf, F, ρ, env, C, S0, E0, (Go.bind g).mono fun x H1 ⟨Hf1, ρ1, C1, a, e1, p1, S1, A1, g1⟩ => by
    have A2 : x = a := A1
    subst A2
    cases x with
    | true => exact ⟨Hf1, F, ρ1, env, C1, S1, E0.mono e1 p1, g1⟩
    | false => exact g1 false H1 Hf1 ρ1 (Same.refl _) (List.prefix_refl _) S1 rfl⟩
theorem sw_or {a b : Expr} {rest : List Expr} {pos : Pos} {sa sb : S Bool} (ha : SB X W a sa) (hb : PW X (.BoolOp .Or (b :: rest) pos) (tT X.K X.mg W sb)) : PW X (.BoolOp .Or (a :: b :: rest) pos) (tT X.K X.mg W (xOr sa sb)) :=
  pw_imp (pw_or ha hb) fun σ H Q ⟨Hf, F, ρ, env, C, S0, E0, g⟩ => ⟨Hf, F, ρ, env, C, S0, E0, (Go.bind g).mono fun x H1 ⟨Hf1, ρ1, C1, a, e1, p1, S1, A1, g1⟩ => by
    have A2 : x = a := A1
    subst A2
    cases x with
    | false => exact ⟨Hf1, F, ρ1, env, C1, S1, E0.mono e1 p1, g1⟩
    | true => exact g1 true H1 Hf1 ρ1 (Same.refl _) (List.prefix_refl _) S1 rfl⟩
theorem sw_and1 {a : Expr} {pos : Pos} {sa : S Bool} (ha : SB X W a sa) : PW X (.BoolOp .And [a] pos) (tT X.K X.mg W sa) := pw_and1 ha
theorem sw_or1 {a : Expr} {pos : Pos} {sa : S Bool} (ha : SB X W a sa) : PW X (.BoolOp .Or [a] pos) (tT X.K X.mg W sa) := pw_or1 ha
theorem sb_w {e : Expr} {s : S Bool} (h : PW X e (tT X.K X.mg W s)) : SB X W e s := h.pt
theorem sb_not {a : Expr} {pos : Pos} {sa : S Bool} (ha : SB X W a sa) : SB X W (.UnaryOp .Not a pos) (xNot sa) :=
  pt_imp (pt_not ha) fun σ H Q ⟨Hf, F, ρ, env, C, S0, E0, g⟩ => ⟨Hf, F, ρ, env, C, S0, E0, (Go.bind g).mono fun x H1 ⟨Hf1, ρ1, C1, a, e1, p1, S1, A1, g1⟩ => by
    have A2 : x = a := A1
    subst A2
    exact g1 (!x) H1 Hf1 ρ1 (Same.refl _) (List.prefix_refl _) S1 rfl⟩
theorem se_if {c a b : Expr} {pos : Pos} {sc : S Bool} {sa sb : S D} (hc : SB X W c sc) (ha : SE X W a sa) (hb : SE X W b sb) : SE X W (.IfExp c a b pos) (xIf sc sa sb) :=
  pe_imp (pe_ifExp hc ha hb) fun σ H Q ⟨Hf, F, ρ, env, C, S0, E0, g⟩ => ⟨Hf, F, ρ, env, C, S0, E0, (Go.bind g).mono fun x H1 ⟨Hf1, ρ1, C1, a, e1, p1, S1, A1, g1⟩ => by
    have A2 : x = a := A1
    subst A2
    cases x with
    | true => exact ⟨Hf1, F, ρ1, env, C1, S1, E0.mono e1 p1, g1⟩
    | false => exact ⟨Hf1, F, ρ1, env, C1, S1, E0.mono e1 p1, g1⟩⟩
/-- bools as values -/
theorem goD {s : S D} {σ : L2.St} {H : Hp} {Q : VK} {k : Bool → S D} (h : tE X.K X.mg W (S.bind (xB s) k) σ H Q) :
    tE X.K X.mg W s σ H fun x H1 => ∃ b, x = .bl b ∧ tE X.K X.mg W (k b) σ H1 Q := by
  obtain ⟨Hf, F, ρ, env, C, S0, E0, g⟩ := h
  have g0 := Go.bind (Rel := REq) g
  have g1 : tT X.K X.mg W (xB s) σ H (fun b H1 => tE X.K X.mg W (k b) σ H1 Q) := ⟨Hf, F, ρ, env, C, S0, E0, g0.mono fun x H1 ⟨Hf1, ρ1, C1, a, e1, p1, S1, A1, g1⟩ => by
    have A2 : x = a := A1
    subst A2
    exact ⟨Hf1, F, ρ1, env, C1, S1, E0.mono e1 p1, g1⟩⟩
  exact goB g1
def xAndV (a b : S D) : S D := S.bind (xB a) fun x => if x = true then b else S.val (.bl false)
def xOrV (a b : S D) : S D := S.bind (xB a) fun x => if x = true then S.val (.bl true) else b
def xNotV (a : S D) : S D := S.bind (xB a) fun x => S.val (.bl (!x))
theorem se_and {a b : Expr} {rest : List Expr} {pos : Pos} {sa sb : S D} (ha : SE X W a sa) (hb : SE X W (.BoolOp .And (b :: rest) pos) sb) : SE X W (.BoolOp .And (a :: b :: rest) pos) (xAndV sa sb) :=
  pe_imp (pe_and ha hb) fun σ H Q h => by
    have h1 := goD h
    obtain ⟨Hf, F, ρ, env, C, S0, E0, g⟩ := h1
    refine ⟨Hf, F, ρ, env, C, S0, E0, g.mono fun x H1 ⟨b, e, q⟩ => ⟨b, e, ?_⟩⟩
    cases b with
    | true => exact q
    | false =>
      obtain ⟨Hf1, F, ρ1, env1, C1, S1, E1, g1⟩ := q
      exact Go.val (env := env1) g1 S1 (.bl false)
theorem se_or {a b : Expr} {rest : List Expr} {pos : Pos} {sa sb : S D} (ha : SE X W a sa) (hb : SE X W (.BoolOp .Or (b :: rest) pos) sb) : SE X W (.BoolOp .Or (a :: b :: rest) pos) (xOrV sa sb) :=
  pe_imp (pe_or ha hb) fun σ H Q h => by
    have h1 := goD h
    obtain ⟨Hf, F, ρ, env, C, S0, E0, g⟩ := h1
    refine ⟨Hf, F, ρ, env, C, S0, E0, g.mono fun x H1 ⟨b, e, q⟩ => ⟨b, e, ?_⟩⟩
    cases b with
    | false => exact q
    | true =>
      obtain ⟨Hf1, F, ρ1, env1, C1, S1, E1, g1⟩ := q
      exact Go.val (env := env1) g1 S1 (.bl true)
theorem se_one {op : BoolOp} {a : Expr} {pos : Pos} {sa : S D} (ha : SE X W a sa) : SE X W (.BoolOp op [a] pos) sa := pe_one ha
theorem se_not {a : Expr} {pos : Pos} {sa : S D} (ha : SE X W a sa) : SE X W (.UnaryOp .Not a pos) (xNotV sa) :=
  pe_imp (pe_not ha) fun σ H Q h => by
    have h1 := goD h
    obtain ⟨Hf, F, ρ, env, C, S0, E0, g⟩ := h1
    refine ⟨Hf, F, ρ, env, C, S0, E0, g.mono fun x H1 ⟨b, e, q⟩ => ⟨b, e, ?_⟩⟩
    obtain ⟨Hf1, F, ρ1, env1, C1, S1, E1, g1⟩ := q
    exact Go.val g1 S1 (.bl _)
/-! ### a < b < c -/
def xChain (f f' : D → D → Option D) (a b c : S D) : S D := S.bind a fun x => S.bind b fun y => S.bind (xB fun env C => S.opt (f (vw C x) (vw C y)) env C) fun k => if k = true then S.bind c fun z => (fun env C => S.opt (f' (vw C y) (vw C z)) env C) else S.val (.bl false)
theorem goChain {r r' : R2} {f f' : D → D → Option D} {sa sb sc : S D} (hf : Op2 X.K r f) (hf' : Op2 X.K r' f') {σ : L2.St} {H : Hp} {Q : VK} (h : tE X.K X.mg W (xChain f f' sa sb sc) σ H Q) :
    tChain r r' (tE X.K X.mg W sa) (tE X.K X.mg W sb) (tE X.K X.mg W sc) σ H Q := by
  obtain ⟨Hf, F, ρ, env, C, S0, E0, g⟩ := h
  refine ⟨Hf, F, ρ, env, C, S0, E0, (Go.bind g).mono fun x H1 ⟨Hf1, ρ1, C1, a, e1, p1, S1, A1, g1⟩ => ?_⟩
  refine ⟨Hf1, F, ρ1, env, C1, S1, E0.mono e1 p1, (Go.bind g1).mono fun y H2 ⟨Hf2, ρ2, C2, b, e2, p2, S2, B2, g2⟩ => ?_⟩
  have g3 := Go.bind (Rel := REq) g2
  have hd : ∃ d, f (vw C2 a) (vw C2 b) = some d := by
    cases q : f (vw C2 a) (vw C2 b) with
    | some d => exact ⟨d, rfl⟩
    | none =>
      unfold xB S.bind at g3
      simp only [q, S.opt] at g3
      exact g3.elim
  obtain ⟨d, hd⟩ := hd
  refine hf Hf2 F ρ2 C2 H2 x y _ _ d _ S2 (vw_ok S2 (A1.mono e2 p2)) (vw_ok S2 B2) hd fun z H3 Hf3 ρ3 e3 p3 S3 D3 => ?_
  unfold xB S.bind at g3
  simp only [hd, S.opt] at g3
  cases d with
  | bl k =>
    cases D3
    obtain ⟨Hf4, ρ4, C4, k', e4, p4, S4, A4, g4⟩ := g3 k H3 Hf3 ρ3 e3 p3 S3 rfl
    have A5 : k = k' := A4
    subst A5
    refine ⟨k, rfl, ?_⟩
    cases k with
    | true =>
      have g4 : Go X.K X.mg W (Dat X.K) σ Hf4 F ρ4 (S.bind sc (fun z env C => S.opt (f' (vw C b) (vw C z)) env C) env C4) Q := g4
      refine ⟨Hf4, F, ρ4, env, C4, S4, E0.mono ((e1.trans e2).trans e4) ((p1.trans p2).trans p4), (Go.bind g4).mono fun z H5 ⟨Hf5, ρ5, C5, c, e5, p5, S5, A5, g5⟩ => ?_⟩
      obtain ⟨d', hd', g6⟩ := Go.opt g5
      exact hf' Hf5 F ρ5 C5 H5 y z _ _ d' Q S5 (vw_ok S5 (B2.mono (e4.trans e5) (p4.trans p5))) (vw_ok S5 A5) hd' fun v H' Hf' ρ' e7 p7 S7 D7 => g6 v H' Hf' ρ' e7 p7 S7 D7
    | false => exact Go.val (env := env) g4 S4 (.bl false)
  | _ => exact g3.elim
/-! ### argument lists, displays -/
def aNil : S (List D) := S.val []
def aCons (a : S D) (r : S (List D)) : S (List D) := S.bind a fun x => S.bind r fun xs => S.val (x :: xs)
theorem sa_nil : SA X W [] aNil := pa_imp pa_nil fun σ H Q ⟨Hf, F, ρ, env, C, S0, E0, g⟩ => Go.val g S0 .nil
theorem sa_cons {e : Expr} {es : List Expr} {s : S D} {r : S (List D)} (he : SE X W e s) (hr : SA X W es r) (hs : starEach (e :: es) X.env = (false, eval e X.env) :: starEach es X.env) : SA X W (e :: es) (aCons s r) :=
  pa_imp (pa_cons he hr hs) fun σ H Q ⟨Hf, F, ρ, env, C, S0, E0, g⟩ => ⟨Hf, F, ρ, env, C, S0, E0, (Go.bind g).mono fun x H1 ⟨Hf1, ρ1, C1, a, e1, p1, S1, A1, g1⟩ =>
    ⟨Hf1, F, ρ1, env, C1, S1, E0.mono e1 p1, (Go.bind g1).mono fun xs H2 ⟨Hf2, ρ2, C2, as, e2, p2, S2, A2, g2⟩ => Go.val g2 S2 (.cons (A1.mono e2 p2) A2)⟩⟩
/-- few enough for one object -/
def few {α : Type} (f : List D → α) (ds : List D) : Option α := if ds.length ≤ 1000000 then some (f ds) else none
theorem few_ok {α : Type} {f : List D → α} {ds : List D} {d : α} (h : few f ds = some d) : ds.length ≤ sizeLine ∧ d = f ds := by
  unfold few at h
  split at h
  · rename_i q
    exact ⟨Nat.le_trans q (by decide), (Option.some.inj h).symm⟩
  · cases h
def xTup (s : S (List D)) : S D := S.bind s fun ds => S.opt (few .tup ds)
theorem Go.newT {σ : L2.St} {Hf F : Hp} {ρ : List Addr} {C : Cells} {env : Env} {H : Hp} {Q : VK} {ds : List D} {xs : List V} (g : Go K mg W (Dat K) σ Hf F ρ (S.val (D.tup ds) env C) Q) (S0 : SR K Hf F ρ C H) (h : Dats K Hf ρ xs ds) : ∀ p, H p = none → Q (.ref p) (upd H p (.tup xs)) := fun p hp => by
  obtain ⟨S1, e1⟩ := S0.new (o := .tup xs) hp
  exact g (.ref p) _ _ ρ e1 (List.prefix_refl _) S1 (.tup (.inl (.inl upd_same)) (h.mono e1 (List.prefix_refl _)))
theorem se_tup {es : List Expr} {x1} {pos : Pos} {s : S (List D)} (h : SA X W es s) : SE X W (.Tuple es x1 pos) (xTup s) :=
  pe_imp (pe_tup h) fun σ H Q ⟨Hf, F, ρ, env, C, S0, E0, g⟩ => ⟨Hf, F, ρ, env, C, S0, E0, (Go.bind g).mono fun xs H1 ⟨Hf1, ρ1, C1, ds, e1, p1, S1, A1, g1⟩ => by
    obtain ⟨d, hd, g2⟩ := Go.opt g1
    obtain ⟨hl, rfl⟩ := few_ok hd
    exact ⟨by rw [A1.len]; exact hl, Go.newT g2 S1 A1⟩⟩

/-! ### new lists: data from the start (xF), or a list that will change (xC) -/
/-- a new list stands in the heap, nowhere known -/
inductive Fresh (K : PySem.W.Frag) (H : Hp) (Hf F : Hp) (ρ : List Addr) (C : Cells) : V → List D → Prop
  | mk {p : Addr} {vs : List V} {ds : List D} (h : H p = some (.lst vs)) (hs : Dats K Hf ρ vs ds) (S1 : SR K (upd Hf p (.lst vs)) F ρ C H) (S2 : nocels ds = true → SR K Hf F (ρ ++ [p]) (C ++ [some (.l ds)]) H) (nf : Hf p = none) : Fresh K H Hf F ρ C (.ref p) ds
def GoL (K : PySem.W.Frag) (mg : Str → Option Value) (W : Wh) (σ : L2.St) (Hf F : Hp) (ρ : List Addr) (r : Option (R (List D))) (Q : VK) : Prop :=
  match r with
  | none => False
  | some (.ok ds C') => ∀ v H' Hf' ρ', Same Hf Hf' → ρ <+: ρ' → Fresh K H' Hf' F ρ' C' v ds → Q v H'
  | some (.ex c p C') => ∀ cls dd H' Hf' ρ', Same Hf Hf' → ρ <+: ρ' → SR K Hf' F ρ' C' H' → ExR K mg Hf' ρ' c p cls dd → W.w cls dd σ H'
def tL (K : PySem.W.Frag) (mg : Str → Option Value) (W : Wh) (s : S (List D)) : TE := fun σ H Q => ∃ Hf F ρ env C, SR K Hf F ρ C H ∧ EnvR K mg W.xc Hf ρ σ env ∧ GoL K mg W σ Hf F ρ (s env C) Q
def SL (X : Cx) (W : Wh) (e : Expr) (s : S (List D)) : Prop := PE X e (tL X.K X.mg W s)
def xF (s : S (List D)) : S D := S.bind s fun ds => S.val (.lst ds)
def xC (s : S (List D)) : S D := S.bind s fun ds => fun _ C => if nocels ds = true then some (.ok (.cel C.length) (C ++ [some (.l ds)])) else none
theorem goL_of {α : Type} {σ : L2.St} {Hf : Hp} {ρ : List Addr} {env : Env} {C : Cells} {s : S (List D)} {k : List D → S D} {Q : VK} (h : Go K mg W (Dat K) σ Hf F ρ (S.bind s k env C) Q)
    (hk : ∀ ds C' v H' Hf' ρ', Same Hf Hf' → ρ <+: ρ' → Fresh K H' Hf' F ρ' C' v ds → Go K mg W (Dat K) σ Hf' F ρ' (k ds env C') Q → Q v H') : GoL K mg W σ Hf F ρ (s env C) Q := by
  unfold S.bind at h
  cases e : s env C with
  | none =>
    rw [e] at h
    exact h
  | some r =>
    rw [e] at h
    cases r with
    | ok ds C' => exact fun v H' Hf' ρ' e' p' f' => hk ds C' v H' Hf' ρ' e' p' f' (Go.later h e' p')
    | ex c q C' => exact h
theorem se_F {e : Expr} {s : S (List D)} (h : SL X W e s) : SE X W e (xF s) := pe_imp h fun σ H Q ⟨Hf, F, ρ, env, C, S0, E0, g⟩ => ⟨Hf, F, ρ, env, C, S0, E0, goL_of (α := Unit) g fun ds C' v H' Hf' ρ' e' p' f' g' => by
  cases f' with
  | @mk p vs _ h hs S1 S2 nf =>
    have e1 : Same Hf' (upd Hf' p (.lst vs)) := fun b u q => by
      rw [upd_ne (ne_of_none q nf)]
      exact q
    exact g' _ H' _ ρ' e1 (List.prefix_refl _) S1 (.lst (.inl (.inl upd_same)) (hs.mono e1 (List.prefix_refl _)))⟩
theorem se_C {e : Expr} {s : S (List D)} (h : SL X W e s) : SE X W e (xC s) := pe_imp h fun σ H Q ⟨Hf, F, ρ, env, C, S0, E0, g⟩ => ⟨Hf, F, ρ, env, C, S0, E0, goL_of (α := Unit) g fun ds C' v H' Hf' ρ' e' p' f' g' => by
  cases f' with
  | @mk p vs _ h hs S1 S2 nf =>
    have hl : ρ'.length = C'.length := S1.len
    have hn : nocels ds = true := by
      cases q : nocels ds with
      | true => rfl
      | false =>
        simp only [q] at g'
        exact g'.elim
    simp only [hn, if_true] at g'
    exact g' _ H' Hf' _ (Same.refl _) (List.prefix_append _ _) (S2 hn) (.cel (by rw [← hl, List.getElem?_append_right (Nat.le_refl _), Nat.sub_self]; rfl))⟩
theorem fresh_new {H Hf F : Hp} {ρ : List Addr} {C : Cells} {p : Addr} {vs : List V} {ds : List D} (S0 : SR K Hf F ρ C H) (hp : H p = none) (h : Dats K Hf ρ vs ds) : Fresh K (upd H p (.lst vs)) Hf F ρ C (.ref p) ds :=
  .mk upd_same h (S0.new hp).1 (fun n => S0.newCel hp (h.bare n)) (S0.ex.free hp)
theorem sl_lst {es : List Expr} {pos : Pos} {s : S (List D)} (h : SA X W es s) : SL X W (.List es pos) (S.bind s fun ds => S.opt (few id ds)) :=
  pe_imp (pe_lst h) fun σ H Q ⟨Hf, F, ρ, env, C, S0, E0, g⟩ => ⟨Hf, F, ρ, env, C, S0, E0, by
    unfold S.bind at g
    cases e : s env C with
    | none =>
      rw [e] at g
      exact g
    | some r =>
      rw [e] at g
      cases r with
      | ex c q C' => exact g
      | ok ds C' =>
        refine fun vs H' Hf' ρ' e' p' S' A' => ?_
        have g' : GoL X.K X.mg W σ Hf F ρ (S.opt (few id ds) env C') Q := g
        cases hd : few id ds with
        | none =>
          rw [hd] at g'
          exact g'.elim
        | some d =>
          rw [hd] at g'
          obtain ⟨hl, rfl⟩ := few_ok hd
          exact ⟨by rw [A'.len]; exact hl, fun p hp => g' (.ref p) _ Hf' ρ' e' p' (fresh_new S' hp A')⟩⟩
end
end Sm
end
section
set_option maxRecDepth 100000
set_option maxHeartbeats 0
namespace Sm
open PySem L2
variable {K : PySem.W.Frag} {mg : Str → Option Value}

/-! ### statements -/
inductive RS where
  | nx (e : Env) (C : Cells)
  | ret (d : D) (C : Cells)
  | bk (e : Env) (C : Cells)
  | ct (e : Env) (C : Cells)
  | ex (c : Str) (p : Option (Str × D)) (e : Env) (C : Cells)
abbrev SS := Env → Cells → Option RS
def GoS (K : PySem.W.Frag) (mg : Str → Option Value) (W : Wh) (Hf F : Hp) (ρ : List Addr) (r : Option RS) (D : Ends) : Prop :=
  match r with
  | none => False
  | some (.nx e C') => ∀ σ' H' Hf' ρ', Same Hf Hf' → ρ <+: ρ' → SR K Hf' F ρ' C' H' → EnvR K mg W.xc Hf' ρ' σ' e → D.nx σ' H'
  | some (.bk e C') => ∀ σ' H' Hf' ρ', Same Hf Hf' → ρ <+: ρ' → SR K Hf' F ρ' C' H' → EnvR K mg W.xc Hf' ρ' σ' e → D.bk σ' H'
  | some (.ct e C') => ∀ σ' H' Hf' ρ', Same Hf Hf' → ρ <+: ρ' → SR K Hf' F ρ' C' H' → EnvR K mg W.xc Hf' ρ' σ' e → D.ct σ' H'
  | some (.ret d C') => ∀ v H' Hf' ρ', Same Hf Hf' → ρ <+: ρ' → SR K Hf' F ρ' C' H' → Dat K Hf' ρ' v d → D.rt v H'
  | some (.ex c p e C') => ∀ cls dd σ' H' Hf' ρ', Same Hf Hf' → ρ <+: ρ' → SR K Hf' F ρ' C' H' → EnvR K mg W.xc Hf' ρ' σ' e → ExR K mg Hf' ρ' c p cls dd → W.w cls dd σ' H'
def tS (K : PySem.W.Frag) (mg : Str → Option Value) (W : Wh) (s : SS) : TS := fun D σ H => ∃ Hf F ρ env C, SR K Hf F ρ C H ∧ EnvR K mg W.xc Hf ρ σ env ∧ GoS K mg W Hf F ρ (s env C) D
def SC (X : Cx) (W : Wh) (st : Stmt) (s : SS) : Prop := PS X st (tS X.K X.mg W s)
def SCs (X : Cx) (W : Wh) (st : List Stmt) (s : SS) : Prop := PSs X st (tS X.K X.mg W s)

section
variable {W : Wh} {σ : L2.St} {Hf Hf1 F : Hp} {ρ ρ1 : List Addr} {C : Cells} {env : Env} {H : Hp} {D D' : Ends}
theorem GoS.later {r : Option RS} (h : GoS K mg W Hf F ρ r D) (e : Same Hf Hf1) (p : ρ <+: ρ1) : GoS K mg W Hf1 F ρ1 r D := by
  cases r with
  | none => exact h
  | some r =>
    cases r with
    | nx a C' => exact fun v H' Hf' ρ' e' p' => h v H' Hf' ρ' (e.trans e') (p.trans p')
    | bk a C' => exact fun v H' Hf' ρ' e' p' => h v H' Hf' ρ' (e.trans e') (p.trans p')
    | ct a C' => exact fun v H' Hf' ρ' e' p' => h v H' Hf' ρ' (e.trans e') (p.trans p')
    | ret a C' => exact fun v H' Hf' ρ' e' p' => h v H' Hf' ρ' (e.trans e') (p.trans p')
    | ex c q a C' => exact fun cls dd σ' H' Hf' ρ' e' p' => h cls dd σ' H' Hf' ρ' (e.trans e') (p.trans p')
/-- an expression's part in a statement -/
def xDo {α : Type} (s : S α) (k : α → SS) : SS := fun e C => match s e C with
  | none => none
  | some (.ex c p C') => some (.ex c p e C')
  | some (.ok a C') => k a e C'
theorem GoS.doit {α β : Type} {Rel : Hp → List Addr → β → α → Prop} {s : S α} {k : α → SS} (E0 : EnvR K mg W.xc Hf ρ σ env) (h : GoS K mg W Hf F ρ (xDo s k env C) D) :
    Go K mg W Rel σ Hf F ρ (s env C) (fun v H1 => ∃ Hf1 ρ1 C1 a, Same Hf Hf1 ∧ ρ <+: ρ1 ∧ SR K Hf1 F ρ1 C1 H1 ∧ Rel Hf1 ρ1 v a ∧ GoS K mg W Hf1 F ρ1 (k a env C1) D) := by
  unfold xDo at h
  cases e : s env C with
  | none =>
    rw [e] at h
    exact h
  | some r =>
    rw [e] at h
    cases r with
    | ok a C' => exact fun v H' Hf' ρ' e' p' s' q' => ⟨Hf', ρ', C', a, e', p', s', q', GoS.later h e' p'⟩
    | ex c q C' => exact fun cls dd H' Hf' ρ' e' p' s' x' => h cls dd σ H' Hf' ρ' e' p' s' (E0.mono e' p') x'
/-- one after the other -/
def xSeq (a b : SS) : SS := fun e C => match a e C with
  | some (.nx e' C') => b e' C'
  | r => r
def xNext : SS := fun e C => some (.nx e C)
theorem goSeq {a b : SS} (h : tS K mg W (xSeq a b) D σ H) : tS K mg W a { D with nx := tS K mg W b D } σ H := by
  obtain ⟨Hf, F, ρ, env, C, S0, E0, g⟩ := h
  refine ⟨Hf, F, ρ, env, C, S0, E0, ?_⟩
  unfold xSeq at g
  cases e : a env C with
  | none =>
    rw [e] at g
    exact g
  | some r =>
    rw [e] at g
    cases r with
    | nx e' C' => exact fun σ' H' Hf' ρ' e1 p1 s1 n1 => ⟨Hf', F, ρ', e', C', s1, n1, GoS.later g e1 p1⟩
    | bk a C' => exact g
    | ct a C' => exact g
    | ret a C' => exact g
    | ex c q a C' => exact g
end

section
variable {X : Cx} {W : Wh}
theorem ss_nil : SCs X W [] xNext := pss_imp pss_nil fun D σ H ⟨Hf, F, ρ, env, C, S0, E0, g⟩ => g σ H Hf ρ (Same.refl _) (List.prefix_refl _) S0 E0
theorem ss_one {st : Stmt} {s : SS} (h : SC X W st s) : SCs X W [st] s := pss_one h
theorem ss_cons {st : Stmt} {rest : List Stmt} {a b : SS} (h1 : SC X W st a) (h2 : SCs X W rest b) : SCs X W (st :: rest) (xSeq a b) :=
  pss_imp (pss_cons h1 h2) fun D σ H h => goSeq h
def xPass : SS := xNext
theorem sc_pass {pos : Pos} : SC X W (.Pass pos) xNext := ps_imp ps_pass fun D σ H ⟨Hf, F, ρ, env, C, S0, E0, g⟩ => g σ H Hf ρ (Same.refl _) (List.prefix_refl _) S0 E0
def xBreak : SS := fun e C => some (.bk e C)
def xCont : SS := fun e C => some (.ct e C)
theorem sc_break {pos : Pos} : SC X W (.Break pos) xBreak := ps_imp ps_break fun D σ H ⟨Hf, F, ρ, env, C, S0, E0, g⟩ => g σ H Hf ρ (Same.refl _) (List.prefix_refl _) S0 E0
theorem sc_cont {pos : Pos} : SC X W (.Continue pos) xCont := ps_imp ps_continue fun D σ H ⟨Hf, F, ρ, env, C, S0, E0, g⟩ => g σ H Hf ρ (Same.refl _) (List.prefix_refl _) S0 E0
/-- what can not be reached, or is not told: nothing is said -/
def xStop : SS := fun _ _ => none
theorem sc_stop {st : Stmt} : SC X W st xStop := ps_imp ps_never fun D σ H ⟨_, _, _, _, _, _, _, g⟩ => g.elim
theorem ss_stop {st : List Stmt} : SCs X W st xStop := pss_imp pss_never fun D σ H ⟨_, _, _, _, _, _, _, g⟩ => g.elim
def xRet (s : S D) : SS := xDo s fun d _ C => some (.ret d C)
theorem sc_ret {e : Expr} {pos : Pos} {s : S D} (h : SE X W e s) : SC X W (.Return (some e) pos) (xRet s) :=
  ps_imp (ps_ret h) fun D σ H ⟨Hf, F, ρ, env, C, S0, E0, g⟩ => ⟨Hf, F, ρ, env, C, S0, E0, (GoS.doit E0 g).mono fun v H1 ⟨Hf1, ρ1, C1, a, e1, p1, S1, A1, g1⟩ => g1 v H1 Hf1 ρ1 (Same.refl _) (List.prefix_refl _) S1 A1⟩
def xRetN : SS := fun _ C => some (.ret .non C)
theorem sc_retN {pos : Pos} : SC X W (.Return none pos) xRetN :=
  ps_imp ps_retN fun D σ H ⟨Hf, F, ρ, env, C, S0, E0, g⟩ => g .non H Hf ρ (Same.refl _) (List.prefix_refl _) S0 .non
def xExp (s : S D) : SS := xDo s fun _ e C => some (.nx e C)
theorem sc_exp {e : Expr} {pos : Pos} {s : S D} (h : SE X W e s) (hs : swapsWith e none pos.line X.env = pure false) : SC X W (.Expr e pos) (xExp s) :=
  ps_imp (ps_expr h hs) fun D σ H ⟨Hf, F, ρ, env, C, S0, E0, g⟩ => ⟨Hf, F, ρ, env, C, S0, E0, (GoS.doit E0 g).mono fun v H1 ⟨Hf1, ρ1, C1, a, e1, p1, S1, A1, g1⟩ => g1 σ H1 Hf1 ρ1 (Same.refl _) (List.prefix_refl _) S1 (E0.mono e1 p1)⟩
def xIfS (c : S Bool) (a b : SS) : SS := xDo c fun x => if x = true then a else b
theorem sc_if {c : Expr} {a b : List Stmt} {pos : Pos} {sc : S Bool} {sa sb : SS} (hc : SB X W c sc) (ha : SCs X W a sa) (hb : SCs X W b sb) : SC X W (.If c a b pos) (xIfS sc sa sb) :=
  ps_imp (ps_if hc ha hb) fun D σ H ⟨Hf, F, ρ, env, C, S0, E0, g⟩ => ⟨Hf, F, ρ, env, C, S0, E0, (GoS.doit E0 g).mono fun v H1 ⟨Hf1, ρ1, C1, a, e1, p1, S1, A1, g1⟩ => by
    have A2 : v = a := A1
    subst A2
    cases v with
    | true => exact ⟨Hf1, F, ρ1, env, C1, S1, E0.mono e1 p1, g1⟩
    | false => exact ⟨Hf1, F, ρ1, env, C1, S1, E0.mono e1 p1, g1⟩⟩

/-! ### targets -/
/-- a target: what it makes of the slots; which slots -/
structure Tg where
  put : D → Env → Option Env
  at_ : List Nat
structure Tgs where
  put : List D → Env → Option Env
  at_ : List Nat
def gG (K : PySem.W.Frag) (mg : Str → Option Value) (xc : XC) (t : Tg) : TG := fun v σ H Q => ∃ Hf F ρ env C d, SR K Hf F ρ C H ∧ EnvR K mg xc Hf ρ σ env ∧ Dat K Hf ρ v d ∧ ∃ env', t.put d env = some env' ∧ ∀ σ', EnvR K mg xc Hf ρ σ' env' → (∀ j, j ∉ t.at_ → σ'[j]? = σ[j]?) → Q σ' H
def gGs (K : PySem.W.Frag) (mg : Str → Option Value) (xc : XC) (t : Tgs) : TGs := fun vs σ H Q => ∃ Hf F ρ env C ds, SR K Hf F ρ C H ∧ EnvR K mg xc Hf ρ σ env ∧ Dats K Hf ρ vs ds ∧ ∃ env', t.put ds env = some env' ∧ ∀ σ', EnvR K mg xc Hf ρ σ' env' → (∀ j, j ∉ t.at_ → σ'[j]? = σ[j]?) → Q σ' H
def SG (X : Cx) (W : Wh) (e : Expr) (t : Tg) : Prop := PG X e (gG X.K X.mg W.xc t)
def SGs (X : Cx) (W : Wh) (es : List Expr) (t : Tgs) : Prop := PGs X es (gGs X.K X.mg W.xc t)
theorem pg_imp {e : Expr} {t u : TG} (h : PG X e t) (k : ∀ v σ H Q, u v σ H Q → t v σ H Q) : PG X e u := by
  obtain ⟨r⟩ := h
  refine ⟨?_⟩
  intros
  exact r _ _ _ _ _ _ _ (by assumption) (by assumption) (k _ _ _ _ (by assumption))
theorem pgs_imp {e : List Expr} {t u : TGs} (h : PGs X e t) (k : ∀ v σ H Q, u v σ H Q → t v σ H Q) : PGs X e u := by
  obtain ⟨r⟩ := h
  refine ⟨?_⟩
  intros
  exact r _ _ _ _ _ _ _ (by assumption) (by assumption) (k _ _ _ _ (by assumption))
def gN (i : Nat) : Tg := ⟨fun d e => some (e.set i (some d)), [i]⟩
theorem sg_name {i : Nat} {x : Str} {pos : Pos} (h : PG X (.Name x pos) (gName i)) : SG X W (.Name x pos) (gN i) := pg_imp h fun v σ H Q ⟨Hf, F, ρ, env, C, d, S0, E0, D0, env', he, k⟩ => by
  have e := Option.some.inj he
  subst e
  exact k _ (E0.set D0 i) fun j hj => List.getElem?_set_ne (fun e => hj (by rw [e]; exact List.mem_singleton.mpr rfl))
def gsN : Tgs := ⟨fun ds e => match ds with
  | [] => some e
  | _ => none, []⟩
def gsC (t : Tg) (u : Tgs) : Tgs := ⟨fun ds e => match ds with
  | d :: ds => (t.put d e).bind (u.put ds)
  | _ => none, t.at_ ++ u.at_⟩
theorem sgs_nil : SGs X W [] gsN := pgs_imp pgs_nil fun v σ H Q ⟨Hf, F, ρ, env, C, ds, S0, E0, D0, env', he, k⟩ => by
  cases D0 with
  | nil =>
    have e := Option.some.inj he
    subst e
    exact ⟨rfl, k _ E0 fun j _ => rfl⟩
  | cons _ _ => cases he
theorem sgs_cons {e : Expr} {es : List Expr} {t : Tg} {u : Tgs} (h1 : SG X W e t) (h2 : SGs X W es u) (hs : List.map (fun x => x.snd) (assignEach (e :: es) X.env) = assign e X.env :: List.map (fun x => x.snd) (assignEach es X.env)) : SGs X W (e :: es) (gsC t u) :=
  pgs_imp (pgs_cons h1 h2 hs) fun vs σ H Q ⟨Hf, F, ρ, env, C, ds, S0, E0, D0, env', he, k⟩ => by
    cases D0 with
    | nil => cases he
    | @cons v vs d ds h hs =>
      have he' : (t.put d env).bind (u.put ds) = some env' := he
      cases ht : t.put d env with
      | none =>
        rw [ht] at he'
        cases he'
      | some e1 =>
        rw [ht] at he'
        have he2 : u.put ds e1 = some env' := he'
        exact ⟨v, vs, rfl, Hf, F, ρ, env, C, d, S0, E0, h, e1, ht, fun σ1 E1 f1 => ⟨Hf, F, ρ, e1, C, ds, S0, E1, hs, env', he2, fun σ2 E2 f2 => k σ2 E2 fun j hj => by
          rw [f2 j fun z => hj (List.mem_append_right _ z), f1 j fun z => hj (List.mem_append_left _ z)]⟩⟩
def gT (u : Tgs) : Tg := ⟨fun d e => match d with
  | .tup ds => u.put ds e
  | _ => none, u.at_⟩

theorem sg_tup {es : List Expr} {k : Nat} {pos : Pos} {u : Tgs} {n : Nat} (h : ∀ t, PGs X es t → PG X (.Tuple es k pos) (gTup X.K n t)) (hu : SGs X W es u) (hn : ∀ ds e e', u.put ds e = some e' → ds.length = n) : SG X W (.Tuple es k pos) (gT u) :=
  pg_imp (h _ hu) fun v σ H Q ⟨Hf, F, ρ, env, C, d, S0, E0, D0, env', he, q⟩ => by
    cases D0 with
    | @tup a xs ds h hs =>
      exact ⟨a, xs, rfl, same_t S0.ex h, by rw [hs.len]; exact hn _ _ _ he, Hf, F, ρ, env, C, ds, S0, E0, hs, env', he, q⟩
    | _ => cases he
theorem gsN_len {ds : List D} {e e' : Env} (h : gsN.put ds e = some e') : ds.length = 0 := by
  cases ds with
  | nil => rfl
  | cons _ _ => cases h
theorem gsC_len {t : Tg} {u : Tgs} {n : Nat} (hu : ∀ ds e e', u.put ds e = some e' → ds.length = n) {ds : List D} {e e' : Env} (h : (gsC t u).put ds e = some e') : ds.length = n + 1 := by
  cases ds with
  | nil => cases h
  | cons d ds =>
    have h' : (t.put d e).bind (u.put ds) = some e' := h
    cases ht : t.put d e with
    | none =>
      rw [ht] at h'
      cases h'
    | some e1 =>
      rw [ht] at h'
      rw [List.length_cons, hu ds e1 e' h']
def xAsg (s : S D) (t : Tg) : SS := xDo s fun d e C => (t.put d e).map (RS.nx · C)
theorem goAsg {s : S D} {t : Tg} {g : TG} (hg : ∀ v σ H Q, gG X.K X.mg W.xc t v σ H Q → g v σ H Q) {D : Ends} {σ : L2.St} {H : Hp} (h : tS X.K X.mg W (xAsg s t) D σ H) : tAsg (tE X.K X.mg W s) g D σ H := by
  obtain ⟨Hf, F, ρ, env, C, S0, E0, g0⟩ := h
  refine ⟨Hf, F, ρ, env, C, S0, E0, (GoS.doit E0 g0).mono fun v H1 ⟨Hf1, ρ1, C1, a, e1, p1, S1, A1, g1⟩ => ?_⟩
  cases ht : t.put a env with
  | none =>
    rw [ht] at g1
    exact g1.elim
  | some env' =>
    rw [ht] at g1
    exact hg _ _ _ _ ⟨Hf1, F, ρ1, env, C1, a, S1, E0.mono e1 p1, A1, env', ht, fun σ' E' _ => g1 σ' H1 Hf1 ρ1 (Same.refl _) (List.prefix_refl _) S1 E'⟩
theorem sc_asg {tg e : Expr} {pos : Pos} {s : S D} {t : Tg} (he : SE X W e s) (hg : SG X W tg t) (hs : swapsWithSole [tg] e pos.line X.env = pure false) (hw : swappedStores [tg] e X.env = pure none) (h1 : List.map (fun x => x.snd) (assignEach [tg] X.env) = [assign tg X.env]) : SC X W (.Assign [tg] e pos) (xAsg s t) :=
  ps_imp (ps_asg he hg hs hw h1) fun D σ H h => goAsg (fun _ _ _ _ q => q) h
theorem sc_set {i : Nat} {x : Str} {e : Expr} {pos pos' : Pos} {s : S D} (h : PS X (.Assign [.Name x pos'] e pos) (tAsg (tE X.K X.mg W s) (gName i))) : SC X W (.Assign [.Name x pos'] e pos) (xAsg s (gN i)) :=
  ps_imp h fun D σ H q => goAsg (fun v σ H Q ⟨Hf, F, ρ, env, C, d, S0, E0, D0, env', he, k⟩ => by
    have e := Option.some.inj he
    subst e
    exact k _ (E0.set D0 i) fun j hj => List.getElem?_set_ne (fun e => hj (by rw [e]; exact List.mem_singleton.mpr rfl))) q
/-- x op= e, ints -/
def xAug (i : Nat) (f : D → D → Option D) (s : S D) : SS := xDo (xV i) fun x => xDo s fun y env C => (f x y).map fun z => RS.nx (env.set i (some z)) C

/-! ### calls of defs -/
abbrev Fn := List D → Cells → Option (R D)
def WF (E : XK) : Wh := ⟨fun cls dd _ H => E cls dd H, none⟩
def spS (K : PySem.W.Frag) (mg : Str → Option Value) (n : Nat) (f : Fn) : Sp := fun vs H Q E => vs.length = n ∧ ∃ Hf F ρ C ds, SR K Hf F ρ C H ∧ Dats K Hf ρ vs ds ∧ Go K mg (WF E) (Dat K) [] Hf F ρ (f ds C) Q
/-- x is a def that does f -/
structure Cal (P : Program) (w : World) (K : PySem.W.Frag) (mg : Str → Option Value) (base : Heap) (x : Str) (n k : Nat) (f : Fn) : Prop where
  ex : ∃ (a : Addr) (fd : FuncData) (ps : List Str), mg x = some (.ref a) ∧ PySem.W.keepIn K (.ref a) = true ∧ Binds K fd ps [] ∧ FnOk P w K mg base (L2.CX P w) k a fd ps (spS K mg n f)
  ar : ∀ ds C, f ds C ≠ none → ds.length = n
theorem Cal.mono {P : Program} {w : World} {base : Heap} {x : Str} {n j k : Nat} {f : Fn} (h : Cal P w K mg base x n j f) (hk : j ≤ k) : Cal P w K mg base x n k f := by
  obtain ⟨a, fd, ps, h1, h2, h3, h4⟩ := h.ex
  exact ⟨⟨a, fd, ps, h1, h2, h3, h4.mono hk⟩, h.ar⟩
def xCall (f : Fn) (s : S (List D)) : S D := S.bind s fun ds _ C => f ds C
theorem goCall {f : Fn} {n : Nat} (ar : ∀ ds C, f ds C ≠ none → ds.length = n) {s : S (List D)} {σ : L2.St} {H : Hp} {Q : VK} (h : tE X.K X.mg W (xCall f s) σ H Q) :
    tCallS (spS X.K X.mg n f) (WE W.w) (tA X.K X.mg W s) σ H Q := by
  obtain ⟨Hf, F, ρ, env, C, S0, E0, g⟩ := h
  refine ⟨Hf, F, ρ, env, C, S0, E0, (Go.bind g).mono fun vs H1 ⟨Hf1, ρ1, C1, ds, e1, p1, S1, A1, g1⟩ => ?_⟩
  have hn : f ds C1 ≠ none := fun z => by
    have g2 : Go X.K X.mg W (Dat X.K) σ Hf1 F ρ1 (f ds C1) Q := g1
    rw [z] at g2
    exact g2
  refine ⟨by rw [A1.len]; exact ar _ _ hn, Hf1, F, ρ1, C1, ds, S1, A1, ?_⟩
  have g2 : Go X.K X.mg W (Dat X.K) σ Hf1 F ρ1 (f ds C1) Q := g1
  cases hr : f ds C1 with
  | none => exact absurd hr hn
  | some r =>
    rw [hr] at g2
    cases r with
    | ok d C' => exact g2
    | ex c p C' => exact g2
theorem se_call {x : Str} {p pos : Pos} {e : Expr} {es : List Expr} {n k : Nat} {f : Fn} {s : S (List D)} (c : Cal X.prog X.w X.K X.mg X.base x n k f) (tk : Takes X W.w) (hr : Room k X.A) (hg : Gl X x) (ha : SA X W (e :: es) s)
    (hdb : (x == ("__debug__" : Str)) = false) (he : starEach (e :: es) X.env = (false, eval e X.env) :: starEach es X.env) (hpl : (backTo pos (starEach es X.env)).any (·.1) = false) : SE X W (.Call (.Name x p) (e :: es) [] pos) (xCall f s) := by
  obtain ⟨a, fd, ps, h1, h2, h3, h4⟩ := c.ex
  exact pe_imp (pe_callS h4 hr hg h1 h2 h3 (fun σ => passAt tk σ) ha hdb he hpl) fun σ H Q h => goCall c.ar h
/-- a def: n parameters, m names, its body -/
def fin (n : Nat) (d : D) (C : Cells) : Option (R D) :=
  if nocel d = true then some (.ok d (C.take n)) else match d with
    | .cel m => if m < n then some (.ok d (C.take n)) else match C[m]? with
      | some (some o) => some (.ok (.cel n) (C.take n ++ [some o]))
      | _ => none
    | _ => none
def xDef (n m : Nat) (b : SS) : Fn := fun ds C => if ds.length = n then match b (ds.map some ++ List.replicate (m - n) none) C with
    | some (.nx _ C') => some (.ok .non (C'.take C.length))
    | some (.ret d C') => fin C.length d C'
    | some (.ex c p _ C') => match p with
      | none => some (.ex c none (C'.take C.length))
      | some (f, d) => if nocel d = true then some (.ex c (some (f, d)) (C'.take C.length)) else none
    | _ => none
  else none
theorem xDef_ar {n m : Nat} {b : SS} (ds : List D) (C : Cells) (h : xDef n m b ds C ≠ none) : ds.length = n := by
  unfold xDef at h
  split at h
  · assumption
  · exact absurd rfl h
theorem env_start {Hf : Hp} {ρ : List Addr} {N : List Str} {vs : List V} {ds : List D} (h : Dats K Hf ρ vs ds) (n : Nat) (hn : ds.length = n) : EnvR K mg none Hf ρ (L2.start N vs) (ds.map some ++ List.replicate (N.length - n) none) := by
  have hl := h.len
  refine ⟨?_, fun i d hi _ => ?_, fun _ _ _ _ _ _ _ hx => nomatch hx⟩
  · unfold L2.start
    rw [List.length_append, List.length_append, List.length_map, List.length_map, List.length_replicate, List.length_replicate, hl, hn]
  · by_cases hlt : i < ds.length
    · rw [List.getElem?_append_left (by rw [List.length_map]; exact hlt), List.getElem?_map] at hi
      cases e : ds[i]? with
      | none =>
        rw [e] at hi
        cases hi
      | some d' =>
        rw [e] at hi
        have e' : d' = d := Option.some.inj (Option.some.inj hi)
        subst e'
        obtain ⟨v, h1, h2⟩ := h.get e
        refine ⟨v, ?_, h2⟩
        unfold L2.start
        rw [List.getElem?_append_left (by rw [List.length_map, hl]; exact hlt), List.getElem?_map, h1]
        rfl
    · rw [List.getElem?_append_right (by rw [List.length_map]; omega), List.getElem?_replicate] at hi
      split at hi <;> cases hi
theorem pre_take {ρ ρ' : List Addr} (p : ρ <+: ρ') : ρ'.take ρ.length = ρ := by
  obtain ⟨t, rfl⟩ := p
  simp
/-- what is told of a def's body is told of the def -/
theorem goDef {N : List Str} {n : Nat} {b : SS} {E : XK} {vs : List V} {H : Hp} {Q : VK} (h : spS K mg n (xDef n N.length b) vs H Q E) : tS K mg (WF E) b { nx := fun _ H' => Q .non H', rt := Q } (L2.start N vs) H := by
  obtain ⟨hv, Hf, F, ρ, C, ds, S0, D0, g⟩ := h
  have hn : ds.length = n := by rw [← D0.len]; exact hv
  refine ⟨Hf, F, ρ, _, C, S0, env_start D0 n hn, ?_⟩
  unfold xDef at g
  rw [if_pos hn] at g
  have back : ∀ {ρ' : List Addr} {C' : Cells} {H' Hf' : Hp}, ρ <+: ρ' → SR K Hf' F ρ' C' H' → SR K Hf' F ρ (C'.take C.length) H' := fun {ρ' C' H' Hf'} p s => by
    have q := s.cut C.length
    rw [← S0.len, pre_take p, S0.len] at q
    exact q
  cases hb : b (ds.map some ++ List.replicate (N.length - n) none) C with
  | none =>
    rw [hb] at g
    exact g
  | some r =>
    rw [hb] at g
    cases r with
    | nx e C' => exact fun σ' H' Hf' ρ' e1 p1 s1 n1 => g .non H' Hf' ρ e1 (List.prefix_refl _) (back p1 s1) .non
    | bk e C' => exact g.elim
    | ct e C' => exact g.elim
    | ex c p e C' =>
      cases p with
      | none => exact fun cls dd σ' H' Hf' ρ' e1 p1 s1 n1 ⟨a, x1, x2, x3⟩ => g cls dd H' Hf' ρ e1 (List.prefix_refl _) (back p1 s1) ⟨a, x1, x2, x3⟩
      | some q =>
        obtain ⟨f, d⟩ := q
        simp only [] at g
        split at g
        · rename_i nc
          exact fun cls dd σ' H' Hf' ρ' e1 p1 s1 n1 ⟨a, x1, x2, b', v, x3, x4, x5⟩ => g cls dd H' Hf' ρ e1 (List.prefix_refl _) (back p1 s1) ⟨a, x1, x2, b', v, x3, x4, (x5.bare nc).mono (Same.refl _) List.nil_prefix⟩
        · exact g.elim
    | ret d C' =>
      refine fun v H' Hf' ρ' e1 p1 s1 d1 => ?_
      simp only [] at g
      unfold fin at g
      split at g
      · rename_i nc
        exact g v H' Hf' ρ e1 (List.prefix_refl _) (back p1 s1) ((d1.bare nc).mono (Same.refl _) List.nil_prefix)
      · split at g
        · rename_i m hnc
          cases d1 with
          | @cel _ a hm =>
            split at g
            · rename_i hlt
              refine g (.ref a) H' Hf' ρ e1 (List.prefix_refl _) (back p1 s1) (.cel ?_)
              obtain ⟨t, rfl⟩ := p1
              rw [List.getElem?_append_left (by rw [S0.len]; exact hlt)] at hm
              exact hm
            · rename_i hge
              split at g
              · rename_i o ho
                obtain ⟨k1, k2⟩ := s1.cel m a o hm ho
                have s2 := back p1 s1
                have lenC : (C'.take C.length).length = C.length := by
                  have := s2.len
                  rw [S0.len] at this
                  exact this.symm
                refine g (.ref a) H' Hf' (ρ ++ [a]) e1 (List.prefix_append _ _) ⟨s2.ex, s2.fr, s2.ap, by rw [List.length_append, List.length_append, s2.len]; rfl, fun i b u h1 h2 => ?_, fun i j b u w h1 h2 h3 h4 => ?_⟩ (.cel (by rw [← S0.len, List.getElem?_append_right (Nat.le_refl _), Nat.sub_self]; rfl))
                · by_cases hi : i < ρ.length
                  · rw [List.getElem?_append_left hi] at h1
                    rw [List.getElem?_append_left (by rw [lenC, ← S0.len]; exact hi)] at h2
                    exact s2.cel i b u h1 h2
                  · have hi' := (List.getElem?_eq_some_iff.mp h1).1
                    rw [List.length_append] at hi'
                    have hone : ([a] : List Addr).length = 1 := rfl
                    have ei : i = ρ.length := by omega
                    subst ei
                    rw [List.getElem?_append_right (Nat.le_refl _), Nat.sub_self] at h1
                    rw [List.getElem?_append_right (by rw [lenC, S0.len]; exact Nat.le_refl _), lenC, S0.len, Nat.sub_self] at h2
                    have eb : a = b := Option.some.inj h1
                    have eu : o = u := Option.some.inj (Option.some.inj h2)
                    subst eb
                    subst eu
                    exact ⟨k1, k2⟩
                · -- where a cell of the new table stood before
                  have org : ∀ {i : Nat} {u : Ob}, (ρ ++ [a])[i]? = some b → (C'.take C.length ++ [some o])[i]? = some (some u) → ∃ i', ρ'[i']? = some b ∧ (∃ u', C'[i']? = some (some u')) ∧ (i < ρ.length → i' = i) ∧ (¬ i < ρ.length → i' = m ∧ i = ρ.length) := fun {i u} g1 g2 => by
                    by_cases hi : i < ρ.length
                    · rw [List.getElem?_append_left hi] at g1
                      rw [List.getElem?_append_left (by rw [lenC, ← S0.len]; exact hi)] at g2
                      refine ⟨i, pre_get p1 g1, ⟨u, ?_⟩, fun _ => rfl, fun z => absurd hi z⟩
                      rw [List.getElem?_take, if_pos (by rw [← S0.len]; exact hi)] at g2
                      exact g2
                    · have hi' := (List.getElem?_eq_some_iff.mp g1).1
                      rw [List.length_append] at hi'
                      have hone : ([a] : List Addr).length = 1 := rfl
                      have ei : i = ρ.length := by omega
                      subst ei
                      rw [List.getElem?_append_right (Nat.le_refl _), Nat.sub_self] at g1
                      have eb : a = b := Option.some.inj g1
                      subst eb
                      exact ⟨m, hm, ⟨o, ho⟩, fun z => absurd z hi, fun _ => ⟨rfl, rfl⟩⟩
                  obtain ⟨i', a1, ⟨u', a2⟩, a3, a4⟩ := org h1 h3
                  obtain ⟨j', b1, ⟨w', b2⟩, b3, b4⟩ := org h2 h4
                  have e := s1.inj i' j' b u' w' a1 b1 a2 b2
                  have hm0 : ρ.length ≤ m := by rw [S0.len]; omega
                  by_cases hi : i < ρ.length
                  · by_cases hj : j < ρ.length
                    · rw [← a3 hi, ← b3 hj, e]
                    · have := a3 hi
                      have := (b4 hj).1
                      omega
                  · by_cases hj : j < ρ.length
                    · have := b3 hj
                      have := (a4 hi).1
                      omega
                    · rw [(a4 hi).2, (b4 hj).2]
              · exact g.elim
        · exact g.elim
end
end Sm
end
section
set_option maxRecDepth 100000
set_option maxHeartbeats 0
namespace Sm
open PySem L2
variable {K : PySem.W.Frag} {mg : Str → Option Value}

/-! ### sameness of data, decided -/
mutual
def deq : D → D → Bool
  | .non, .non => true
  | .bl a, .bl b => a == b
  | .int a, .int b => a == b
  | .str a, .str b => a == b
  | .tup a, .tup b => deqs a b
  | .lst a, .lst b => deqs a b
  | .cel a, .cel b => a == b
  | .opq a, .opq b => decide (a = b)
  | .err a b c, .err a' b' c' => a == a' && b == b' && deq c c'
  | .dk a b, .dk a' b' => decide (a = a') && deqs b b'
  | .dt a b, .dt a' b' => decide (a = a') && deqs b b'
  | _, _ => false
def deqs : List D → List D → Bool
  | [], [] => true
  | a :: r, b :: t => deq a b && deqs r t
  | _, _ => false
end
mutual
theorem deq_eq : ∀ (a b : D), deq a b = true → a = b
  | .non, b, h => by cases b <;> simp [deq] at h ⊢
  | .bl a, b, h => by cases b <;> simp [deq] at h ⊢; exact h
  | .int a, b, h => by cases b <;> simp [deq] at h ⊢; exact h
  | .str a, b, h => by cases b <;> simp [deq] at h ⊢; exact h
  | .tup a, b, h => by
    cases b <;> simp [deq] at h ⊢
    exact deqs_eq _ _ h
  | .lst a, b, h => by
    cases b <;> simp [deq] at h ⊢
    exact deqs_eq _ _ h
  | .cel a, b, h => by cases b <;> simp [deq] at h ⊢; exact h
  | .opq a, b, h => by cases b <;> simp [deq] at h ⊢; exact h
  | .err a b c, d, h => by
    cases d <;> simp [deq] at h ⊢
    exact ⟨h.1.1, h.1.2, deq_eq _ _ h.2⟩
  | .dk a b, d, h => by
    cases d <;> simp [deq] at h ⊢
    exact ⟨h.1, deqs_eq _ _ h.2⟩
  | .dt a b, d, h => by
    cases d <;> simp [deq] at h ⊢
    exact ⟨h.1, deqs_eq _ _ h.2⟩
theorem deqs_eq : ∀ (a b : List D), deqs a b = true → a = b
  | [], b, h => by cases b <;> simp [deqs] at h ⊢
  | a :: r, b, h => by
    cases b with
    | nil => simp [deqs] at h
    | cons c t =>
      simp [deqs] at h
      rw [deq_eq a c h.1, deqs_eq r t h.2]
end
mutual
theorem deq_self : ∀ a : D, deq a a = true
  | .non => rfl
  | .bl a => by simp [deq]
  | .int a => by simp [deq]
  | .str a => by simp [deq]
  | .tup a => by simp [deq, deqs_self a]
  | .lst a => by simp [deq, deqs_self a]
  | .cel a => by simp [deq]
  | .opq a => by simp [deq]
  | .err a b c => by simp [deq, deq_self c]
  | .dk a b => by simp [deq, deqs_self b]
  | .dt a b => by simp [deq, deqs_self b]
theorem deqs_self : ∀ a : List D, deqs a a = true
  | [] => rfl
  | a :: r => by simp [deqs, deq_self a, deqs_self r]
end

/-! ### what is walked -/
abbrev Gd := Cells → Bool
def gd0 : Gd := fun _ => true
/-- the n-th cell still holds ds -/
def gdC (n : Nat) (ds : List D) : Gd := fun C => match C[n]? with
  | some (some (.l es)) => deqs es ds
  | _ => false
def Wk (K : PySem.W.Frag) (Hf : Hp) (ρ : List Addr) (J : It) (p : List D × Gd) : Prop := ∀ (i : Nat) (Hf' F' : Hp) (ρ' : List Addr) (C' : Cells) (H' : Hp), Same Hf Hf' → ρ <+: ρ' → SR K Hf' F' ρ' C' H' → p.2 C' = true →
  (i < p.1.length → J.go i H' ∧ ∀ x H2, J.yld i H' x H2 → ∃ d Hf2, p.1[i]? = some d ∧ Same Hf' Hf2 ∧ SR K Hf2 F' ρ' C' H2 ∧ Dat K Hf2 ρ' x d) ∧ (p.1.length ≤ i → J.stop i H')
theorem Wk.later {Hf Hf' : Hp} {ρ ρ' : List Addr} {J : It} {p : List D × Gd} (h : Wk K Hf ρ J p) (e : Same Hf Hf') (q : ρ <+: ρ') : Wk K Hf' ρ' J p := fun i Hf2 F2 ρ2 C2 H2 e2 q2 => h i Hf2 F2 ρ2 C2 H2 (e.trans e2) (q.trans q2)
abbrev SW := S (List D × Gd)
def tI (K : PySem.W.Frag) (mg : Str → Option Value) (W : Wh) (s : SW) : TI := tG K mg W (Wk K) s
def SI (X : Cx) (W : Wh) (tg e : Expr) (s : SW) : Prop := PI X tg e (tI X.K X.mg W s)
/-- the items of a list, a tuple, a changing list -/
def items (d : D) (C : Cells) : Option (List D × Gd) := match d with
  | .lst ds => some (ds, gd0)
  | .tup ds => some (ds, gd0)
  | .cel n => match C[n]? with
    | some (some (.l ds)) => some (ds, gdC n ds)
    | _ => none
  | _ => none
def iV (s : S D) : SW := S.bind s fun d env C => S.opt (items d C) env C
section
variable {X : Cx} {W : Wh}
theorem wk_l {Hf : Hp} {ρ : List Addr} {a : Addr} {ds : List D} {g : Gd} (h : ∀ Hf' F' ρ' C' H', Same Hf Hf' → ρ <+: ρ' → SR K Hf' F' ρ' C' H' → g C' = true → ∃ xs, SqL K H' a xs ∧ Dats K Hf' ρ' xs ds) :
    Wk K Hf ρ (Itl K a) (ds, g) := fun i Hf' F' ρ' C' H' e p S0 hg => by
  obtain ⟨xs, hx, hd⟩ := h Hf' F' ρ' C' H' e p S0 hg
  have hl := hd.len
  refine ⟨fun hi => ?_, fun hi => ⟨xs, hx, by rw [hl]; exact hi⟩⟩
  have hi' : i < xs.length := by rw [hl]; exact hi
  refine ⟨⟨xs, xs[i], hx, List.getElem?_eq_getElem hi'⟩, fun x H2 hy => ?_⟩
  obtain ⟨e2, hy⟩ := hy
  subst e2
  obtain ⟨d, h1, h2⟩ := hd.getV (hy xs hx)
  exact ⟨d, Hf', h1, Same.refl _, S0, h2⟩
theorem wk_t {Hf : Hp} {ρ : List Addr} {a : Addr} {xs : List V} {ds : List D} (hx : SqT K Hf a xs) (hd : Dats K Hf ρ xs ds) : Wk K Hf ρ (Itt K a) (ds, gd0) := fun i Hf' F' ρ' C' H' e p S0 hg => by
  have hl := hd.len
  have hx' : SqT K H' a xs := same_t S0.ex (same_t e hx)
  refine ⟨fun hi => ?_, fun hi => ⟨xs, hx', by rw [hl]; exact hi⟩⟩
  have hi' : i < xs.length := by rw [hl]; exact hi
  refine ⟨⟨xs, xs[i], hx', List.getElem?_eq_getElem hi'⟩, fun x H2 hy => ?_⟩
  obtain ⟨e2, hy⟩ := hy
  subst e2
  obtain ⟨d, h1, h2⟩ := (hd.mono e p).getV (hy xs hx')
  exact ⟨d, Hf', h1, Same.refl _, S0, h2⟩
/-- what iterating over a value needs: a list's or a tuple's items -/
def rIt (K : PySem.W.Frag) (x : V) (H1 : Hp) (R : It → Hp → Prop) : Prop := ∃ a, x = .ref a ∧ ((∃ xs, SqL K H1 a xs ∧ R (Itl K a) H1) ∨ ∃ xs, SqT K H1 a xs ∧ R (Itt K a) H1)
theorem items_ok {Hf F : Hp} {ρ : List Addr} {C : Cells} {H : Hp} {v : V} {d : D} {p : List D × Gd} {R : It → Hp → Prop} (S0 : SR K Hf F ρ C H) (h : Dat K Hf ρ v d) (hp : items d C = some p) (k : ∀ J, Wk K Hf ρ J p → R J H) : rIt K v H R := by
  cases h with
  | @tup a xs ds h hs =>
    have e := Option.some.inj hp
    subst e
    exact ⟨a, rfl, .inr ⟨xs, same_t S0.ex h, k _ (wk_t h hs)⟩⟩
  | @lst a xs ds h hs =>
    have e := Option.some.inj hp
    subst e
    exact ⟨a, rfl, .inl ⟨xs, same_l S0.ex h, k _ (wk_l fun Hf' F' ρ' C' H' e q S1 _ => ⟨xs, same_l S1.ex (same_l e h), hs.mono e q⟩)⟩⟩
  | @cel n a h =>
    unfold items at hp
    simp only [] at hp
    split at hp
    · rename_i ds hc
      have e := Option.some.inj hp
      subst e
      obtain ⟨_, k2⟩ := S0.cel n a _ h hc
      obtain ⟨vs, hv, hd⟩ := k2.lst
      refine ⟨a, rfl, .inl ⟨vs, .inl (.inl hv), k _ (wk_l fun Hf' F' ρ' C' H' e q S1 hg => ?_)⟩⟩
      unfold gdC at hg
      split at hg
      · rename_i es hc'
        have := deqs_eq _ _ hg
        subst this
        obtain ⟨_, k3⟩ := S1.cel n a _ (pre_get q h) hc'
        obtain ⟨vs', hv', hd'⟩ := k3.lst
        exact ⟨vs', .inl (.inl hv'), hd'.mono (Same.refl _) List.nil_prefix⟩
      · cases hg
    · cases hp
  | _ => cases hp
theorem pi_seq {tg l : Expr} {tl : TE} (hl : PE X l tl) : PI X tg l (fun σ H R => tl σ H fun x H1 => rIt X.K x H1 R) := by
  refine ⟨fun pins s σ H R I h => thn (hl.run pins s σ H _ I h) fun v s1 hh => ?_⟩
  obtain ⟨x, H1, I1, r1, a, e, q⟩ := hh
  subst e
  obtain rfl : v = Value.ref a := r1
  have one : ∀ b, b ∈ [s1.heap.objs.size] → FpOk X pins H1 b := fun b hb => by
    rw [List.mem_singleton.mp hb]
    exact I1.fpOk (Nat.le_refl _) I1.fresh
  rcases q with ⟨xs, hq, q⟩ | ⟨xs, hq, q⟩
  · obtain ⟨its, rv, p, hz⟩ := I1.list hq
    exact wpAny_pyIter_list p.isList ⟨s1.heap.objs.size, [s1.heap.objs.size], _, Itl X.K a, H1, rfl, I1.kept (t' := s1.toks) (fun b o e => Heap.get?_push_of_some _ e),
      turn_list a _, ⟨_, Heap.get?_push_size _ rfl, rfl, rfl⟩, one, q⟩
  · obtain ⟨its, rv, p, hz⟩ := I1.tuple hq
    exact wpAny_pyIter_tuple (show s1.heap.IsTuple a its.toArray from p) ⟨s1.heap.objs.size, [s1.heap.objs.size], _, Itt X.K a, H1, rfl, I1.kept (t' := s1.toks) (fun b o e => Heap.get?_push_of_some _ e),
      turn_tuple a _, ⟨_, Heap.get?_push_size _ rfl, rfl, rfl⟩, one, q⟩
theorem pi_imp {tg l : Expr} {t u : TI} (h : PI X tg l t) (k : ∀ σ H R, u σ H R → t σ H R) : PI X tg l u := ⟨fun pins s σ H R I q => h.run pins s σ H R I (k σ H R q)⟩
theorem si_val {tg l : Expr} {s : S D} (h : SE X W l s) : SI X W tg l (iV s) := pi_imp (pi_seq h) fun σ H R ⟨Hf, F, ρ, env, C, S0, E0, g⟩ =>
  ⟨Hf, F, ρ, env, C, S0, E0, (Go.bind g).mono fun v H1 ⟨Hf1, ρ1, C1, a, e1, p1, S1, A1, g1⟩ => by
    obtain ⟨p, hp, g2⟩ := Go.opt g1
    exact items_ok S1 A1 hp fun J w => g2 J H1 Hf1 ρ1 (Same.refl _) (List.prefix_refl _) S1 w⟩
/-! ### ranges -/
def zs (lo : Int) (n : Nat) : List D := (List.range n).map fun i => D.int (lo + (i : Nat))
theorem zs_len (lo : Int) (n : Nat) : (zs lo n).length = n := by
  unfold zs
  rw [List.length_map, List.length_range]
theorem zs_get {lo : Int} {n i : Nat} (h : i < n) : (zs lo n)[i]? = some (.int (lo + (i : Nat))) := by
  unfold zs
  rw [List.getElem?_map, List.getElem?_range h]
  rfl
theorem wk_r {Hf : Hp} {ρ : List Addr} {lo : Int} {n : Nat} : Wk K Hf ρ (Itr lo n) (zs lo n, gd0) := fun i Hf' F' ρ' C' H' e p S0 hg => by
  have hl : ((zs lo n, gd0) : List D × Gd).1.length = n := zs_len lo n
  refine ⟨fun hi => ⟨show i < n by omega, fun x H2 hy => ?_⟩, fun hi => show n ≤ i by omega⟩
  obtain ⟨e2, hy⟩ := hy
  subst e2
  subst hy
  exact ⟨_, Hf', zs_get (by omega), Same.refl _, S0, .int _⟩
/-- small enough for a range; chosen, so that the kernel never counts down such numbers -/
theorem inRng_ex : ∃ f : Int → Bool, ∀ j, f j = decide (-4611686018427387904 ≤ j ∧ j < 4611686018427387904) := ⟨fun j => decide (-4611686018427387904 ≤ j ∧ j < 4611686018427387904), fun _ => rfl⟩
noncomputable def inRng : Int → Bool := Classical.choose inRng_ex
theorem inRng_iff {j : Int} : inRng j = true ↔ -4611686018427387904 ≤ j ∧ j < 4611686018427387904 := by
  rw [show inRng j = _ from Classical.choose_spec inRng_ex j, decide_eq_true_eq]
noncomputable def rng1 (ds : List D) : Option (List D × Gd) := match ds with
  | [.int j] => if inRng j = true then some (zs 0 j.toNat, gd0) else none
  | _ => none
noncomputable def rng2 (ds : List D) : Option (List D × Gd) := match ds with
  | [.int i, .int j] => if inRng i = true ∧ inRng j = true then some (zs i (j - i).toNat, gd0) else none
  | _ => none
noncomputable def iR1 (s : S (List D)) : SW := S.bind s fun ds => S.opt (rng1 ds)
noncomputable def iR2 (s : S (List D)) : SW := S.bind s fun ds => S.opt (rng2 ds)
theorem si_r1 {tg a : Expr} {p pos : Pos} {s : S (List D)} (h : PI X tg (.Call (.Name "range" p) [a] [] pos) (iRng1 (tA X.K X.mg W s))) : SI X W tg (.Call (.Name "range" p) [a] [] pos) (iR1 s) := pi_imp h fun σ H R ⟨Hf, F, ρ, env, C, S0, E0, g⟩ =>
  ⟨Hf, F, ρ, env, C, S0, E0, (Go.bind g).mono fun vs H1 ⟨Hf1, ρ1, C1, ds, e1, p1, S1, A1, g1⟩ => by
    obtain ⟨q, hq, g2⟩ := Go.opt g1
    unfold rng1 at hq
    split at hq
    · rename_i j
      split at hq
      · rename_i hj
        have hj := inRng_iff.mp hj
        have e := Option.some.inj hq
        subst e
        cases A1 with
        | cons h1 h2 =>
          cases h1
          cases h2
          exact ⟨j, rfl, hj.1, hj.2, g2 _ H1 Hf1 ρ1 (Same.refl _) (List.prefix_refl _) S1 wk_r⟩
      · cases hq
    · cases hq⟩
theorem si_r2 {tg a b : Expr} {p pos : Pos} {s : S (List D)} (h : PI X tg (.Call (.Name "range" p) [a, b] [] pos) (iRng2 (tA X.K X.mg W s))) : SI X W tg (.Call (.Name "range" p) [a, b] [] pos) (iR2 s) := pi_imp h fun σ H R ⟨Hf, F, ρ, env, C, S0, E0, g⟩ =>
  ⟨Hf, F, ρ, env, C, S0, E0, (Go.bind g).mono fun vs H1 ⟨Hf1, ρ1, C1, ds, e1, p1, S1, A1, g1⟩ => by
    obtain ⟨q, hq, g2⟩ := Go.opt g1
    unfold rng2 at hq
    split at hq
    · rename_i i j
      split at hq
      · rename_i hj
        have hj := And.intro (inRng_iff.mp hj.1) (inRng_iff.mp hj.2)
        have e := Option.some.inj hq
        subst e
        cases A1 with
        | cons h1 h2 =>
          cases h1
          cases h2 with
          | cons h3 h4 =>
            cases h3
            cases h4
            exact ⟨i, j, rfl, ⟨hj.1.1, hj.1.2, hj.2.1, hj.2.2⟩, g2 _ H1 Hf1 ρ1 (Same.refl _) (List.prefix_refl _) S1 wk_r⟩
      · cases hq
    · cases hq⟩
/-! ### for -/
def lp (g : Gd) (t : Tg) (b : SS) : List D → SS
  | [] => fun e C => if g C = true then some (.nx e C) else none
  | d :: r => fun e C => if g C = true then match t.put d e with
      | none => none
      | some e1 => match b e1 C with
        | some (.nx e2 C2) => lp g t b r e2 C2
        | some (.ct e2 C2) => lp g t b r e2 C2
        | some (.bk e2 C2) => some (.nx e2 C2)
        | o => o
    else none
def xFor (it : SW) (t : Tg) (b : SS) : SS := xDo it fun p => lp p.2 t b p.1
theorem sc_for {tg iter : Expr} {body : List Stmt} {pos : Pos} {it : SW} {t : Tg} {b : SS} (hp : PassesOwn (model X.prog X.w) X.A X.env X.xe) (hc : X.calm = true) (hi : SI X W tg iter it) (hg : SG X W tg t) (hb : SCs X W body b)
    (hs : ∀ x, foldedSetIterable iter X.env x = pure x) : SC X W (.For tg iter body [] pos) (xFor it t b) :=
  ps_imp (ps_for hp hc hi hg hb hs) fun D σ H ⟨Hf, F, ρ, env, C, S0, E0, g0⟩ => ⟨Hf, F, ρ, env, C, S0, E0, (GoS.doit E0 g0).mono fun J H1 ⟨Hf1, ρ1, C1, p, e1, p1, S1, w1, g1⟩ => by
    obtain ⟨ds, g⟩ := p
    refine ⟨fun i m σ2 H2 => i ≤ ds.length ∧ m = ds.length - i ∧ ∃ Hf2 ρ2 env2 C2, Same Hf1 Hf2 ∧ ρ1 <+: ρ2 ∧ SR X.K Hf2 F ρ2 C2 H2 ∧ EnvR X.K X.mg W.xc Hf2 ρ2 σ2 env2 ∧ GoS X.K X.mg W Hf2 F ρ2 (lp g t b (ds.drop i) env2 C2) D,
      ⟨ds.length, Nat.zero_le _, rfl, Hf1, ρ1, env, C1, Same.refl _, List.prefix_refl _, S1, E0.mono e1 p1, g1⟩, ?_⟩
    rintro i m σ2 H2 ⟨hi, rfl, Hf2, ρ2, env2, C2, e2, p2, S2, E2, g2⟩
    by_cases hlt : i < ds.length
    · rw [List.drop_eq_getElem_cons hlt] at g2
      unfold lp at g2
      split at g2
      · rename_i hgd
        obtain ⟨go, yl⟩ := (w1 i Hf2 F ρ2 C2 H2 e2 p2 S2 hgd).1 hlt
        refine .inr ⟨go, fun σ' H' => ∃ Hf3 ρ3 env3 C3, Same Hf2 Hf3 ∧ ρ2 <+: ρ3 ∧ SR X.K Hf3 F ρ3 C3 H' ∧ EnvR X.K X.mg W.xc Hf3 ρ3 σ' env3 ∧ GoS X.K X.mg W Hf3 F ρ3 (lp g t b (ds.drop (i + 1)) env3 C3) D,
          fun σ' H' ⟨Hf3, ρ3, env3, C3, e3, p3, S3, E3, g3⟩ => ⟨ds.length - (i + 1), by omega, hlt, rfl, Hf3, ρ3, env3, C3, e2.trans e3, p2.trans p3, S3, E3, g3⟩, fun x H3 hy => ?_⟩
        obtain ⟨d, Hf3, hd, e3, S3, D3⟩ := yl x H3 hy
        have ed : ds[i] = d := by
          rw [List.getElem?_eq_getElem hlt] at hd
          exact Option.some.inj hd
        rw [ed] at g2
        cases ht : t.put d env2 with
        | none =>
          rw [ht] at g2
          exact g2.elim
        | some env3 =>
          rw [ht] at g2
          refine ⟨Hf3, F, ρ2, env2, C2, d, S3, E2.mono e3 (List.prefix_refl _), D3, env3, ht, fun σ4 E4 _ => ⟨Hf3, F, ρ2, env3, C2, S3, E4, ?_⟩⟩
          simp only [] at g2
          cases hb' : b env3 C2 with
          | none =>
            rw [hb'] at g2
            exact g2
          | some r =>
            rw [hb'] at g2
            cases r with
            | nx e' C' => exact fun σ' H' Hf' ρ' e4 p4 s4 n4 => ⟨Hf', ρ', e', C', e3.trans e4, p4, s4, n4, (g2.later e3 (List.prefix_refl _)).later e4 p4⟩
            | ct e' C' => exact fun σ' H' Hf' ρ' e4 p4 s4 n4 => ⟨Hf', ρ', e', C', e3.trans e4, p4, s4, n4, (g2.later e3 (List.prefix_refl _)).later e4 p4⟩
            | bk e' C' => exact fun σ' H' Hf' ρ' e4 p4 s4 n4 => g2 σ' H' Hf' ρ' (e3.trans e4) p4 s4 n4
            | ret d' C' => exact fun v H' Hf' ρ' e4 p4 s4 n4 => g2 v H' Hf' ρ' (e3.trans e4) p4 s4 n4
            | ex c q e' C' => exact fun cls dd σ' H' Hf' ρ' e4 p4 s4 n4 x4 => g2 cls dd σ' H' Hf' ρ' (e3.trans e4) p4 s4 n4 x4
      · exact g2.elim
    · have ei : i = ds.length := by omega
      subst ei
      rw [List.drop_eq_nil_of_le (Nat.le_refl _)] at g2
      unfold lp at g2
      split at g2
      · rename_i hgd
        exact .inl ⟨(w1 _ Hf2 F ρ2 C2 H2 e2 p2 S2 hgd).2 (Nat.le_refl _), g2 σ2 H2 Hf2 ρ2 (Same.refl _) (List.prefix_refl _) S2 E2⟩
      · exact g2.elim⟩
/-! ### while -/
def wh (c : S Bool) (b : SS) : Nat → SS
  | 0 => fun _ _ => none
  | n + 1 => xDo c fun k => if k = true then (fun e C => match b e C with
      | some (.nx e2 C2) => wh c b n e2 C2
      | some (.ct e2 C2) => wh c b n e2 C2
      | some (.bk e2 C2) => some (.nx e2 C2)
      | o => o)
    else xNext
theorem sc_while {c : Expr} {body : List Stmt} {pos : Pos} {sc : S Bool} {b : SS} (n : Nat) (hp : PassesOwn (model X.prog X.w) X.A X.env X.xe) (hc : SB X W c sc) (hb : SCs X W body b) : SC X W (.While c body [] pos) (wh sc b n) :=
  ps_imp (ps_while hp hc hb) fun D σ H ⟨Hf, F, ρ, env, C, S0, E0, g0⟩ => by
    refine ⟨fun m σ2 H2 => ∃ Hf2 ρ2 env2 C2, Same Hf Hf2 ∧ ρ <+: ρ2 ∧ SR X.K Hf2 F ρ2 C2 H2 ∧ EnvR X.K X.mg W.xc Hf2 ρ2 σ2 env2 ∧ GoS X.K X.mg W Hf2 F ρ2 (wh sc b m env2 C2) D, ⟨n, Hf, ρ, env, C, Same.refl _, List.prefix_refl _, S0, E0, g0⟩, ?_⟩
    rintro m σ2 H2 ⟨Hf2, ρ2, env2, C2, e2, p2, S2, E2, g2⟩
    cases m with
    | zero => exact g2.elim
    | succ m =>
      unfold wh at g2
      refine ⟨Hf2, F, ρ2, env2, C2, S2, E2, (GoS.doit E2 g2).mono fun k H3 ⟨Hf3, ρ3, C3, k', e3, p3, S3, A3, g3⟩ => ?_⟩
      have A4 : k = k' := A3
      subst A4
      cases k with
      | false => exact g3 σ2 H3 Hf3 ρ3 (Same.refl _) (List.prefix_refl _) S3 (E2.mono e3 p3)
      | true =>
        refine ⟨fun σ' H' => ∃ Hf4 ρ4 env4 C4, Same Hf Hf4 ∧ ρ <+: ρ4 ∧ SR X.K Hf4 F ρ4 C4 H' ∧ EnvR X.K X.mg W.xc Hf4 ρ4 σ' env4 ∧ GoS X.K X.mg W Hf4 F ρ4 (wh sc b m env4 C4) D, fun σ' H' q => ⟨m, Nat.lt_succ_self m, q⟩, Hf3, F, ρ3, env2, C3, S3, E2.mono e3 p3, ?_⟩
        have g4 : GoS X.K X.mg W Hf3 F ρ3 (match b env2 C3 with
          | some (.nx e2 C2) => wh sc b m e2 C2
          | some (.ct e2 C2) => wh sc b m e2 C2
          | some (.bk e2 C2) => some (.nx e2 C2)
          | o => o) D := g3
        cases hb' : b env2 C3 with
        | none =>
          rw [hb'] at g4
          exact g4
        | some r =>
          rw [hb'] at g4
          cases r with
          | nx e' C' => exact fun σ' H' Hf' ρ' e4 p4 s4 n4 => ⟨Hf', ρ', e', C', (e2.trans e3).trans e4, (p2.trans p3).trans p4, s4, n4, g4.later e4 p4⟩
          | ct e' C' => exact fun σ' H' Hf' ρ' e4 p4 s4 n4 => ⟨Hf', ρ', e', C', (e2.trans e3).trans e4, (p2.trans p3).trans p4, s4, n4, g4.later e4 p4⟩
          | bk e' C' => exact g4
          | ret d' C' => exact g4
          | ex c q e' C' => exact g4
/-! ### list comprehensions -/
def wipeE (e : Env) : List Nat → Env
  | [] => e
  | v :: vs => (wipeE e vs).set v none
theorem EnvR.wipe {xc : XC} {Hf : Hp} {ρ : List Addr} {σ : L2.St} {env : Env} (h : EnvR K mg xc Hf ρ σ env) : ∀ vs, EnvR K mg xc Hf ρ (L2.wipe σ vs) (wipeE env vs)
  | [] => h
  | v :: vs => by
    have h1 := EnvR.wipe h vs
    refine ⟨by unfold L2.wipe wipeE; rw [List.length_set, List.length_set]; exact h1.len, fun j d hj n => ?_, fun j a cls dd c f d hx hj => ?_⟩
    all_goals
     unfold wipeE at hj
     unfold L2.wipe
     by_cases hv : v = j
     · subst hv
       by_cases hl : v < (wipeE env vs).length
       · rw [List.getElem?_set_self hl] at hj
         cases hj
       · rw [List.getElem?_eq_none (by rw [List.length_set]; omega)] at hj
         cases hj
     rw [List.getElem?_set_ne hv] at hj ⊢
    · exact h1.at_ j d hj n
    · exact h1.exc j a cls dd c f d hx hj
theorem wipe_get {σ : L2.St} {i : Nat} : ∀ {vs : List Nat}, i ∉ vs → (L2.wipe σ vs)[i]? = σ[i]?
  | [], _ => rfl
  | v :: vs, h => by
    unfold L2.wipe
    rw [List.getElem?_set_ne (fun e => h (by rw [e]; exact List.mem_cons_self)), wipe_get fun z => h (List.mem_cons_of_mem _ z)]
theorem wipe_at {σ : L2.St} {i : Nat} : ∀ {vs : List Nat}, i ∈ vs → i < σ.length → (L2.wipe σ vs)[i]? = some none
  | [], h, _ => by cases h
  | v :: vs, h, hl => by
    unfold L2.wipe
    by_cases hv : v = i
    · subst hv
      exact List.getElem?_set_self (by rw [L2.wipe_length]; exact hl)
    · rw [List.getElem?_set_ne hv]
      exact wipe_at ((List.mem_cons.mp h).resolve_left fun e => hv e.symm) hl
theorem wipe_same {σ σ2 : L2.St} {vs : List Nat} (hl : σ2.length = σ.length) (h : ∀ j, j ∉ vs → σ2[j]? = σ[j]?) : L2.wipe σ2 vs = L2.wipe σ vs := by
  apply List.ext_getElem?
  intro i
  by_cases hi : i ∈ vs
  · by_cases hlt : i < σ.length
    · rw [wipe_at hi hlt, wipe_at hi (by rw [hl]; exact hlt)]
    · rw [List.getElem?_eq_none (by rw [L2.wipe_length]; omega), List.getElem?_eq_none (by rw [L2.wipe_length]; omega)]
  · rw [wipe_get hi, wipe_get hi, h i hi]
theorem wipe_wipe {σ : L2.St} {vs : List Nat} : L2.wipe (L2.wipe σ vs) vs = L2.wipe σ vs := wipe_same (L2.wipe_length _ _) fun j hj => wipe_get hj
/-- the turns of a comprehension: what they give -/
def lcs (g : Gd) (t : Tg) (c : S Bool) (x : S D) : List D → S (List D)
  | [] => fun _ C => if g C = true then some (.ok [] C) else none
  | d :: r => fun e C => if g C = true then match t.put d e with
      | none => none
      | some e1 => match c e1 C with
        | some (.ok true C1) => match x e1 C1 with
          | some (.ok y C2) => match lcs g t c x r e C2 with
            | some (.ok ys C3) => some (.ok (y :: ys) C3)
            | _ => none
          | _ => none
        | some (.ok false C1) => lcs g t c x r e C1
        | _ => none
    else none
def xLc (it : SW) (t : Tg) (c : S Bool) (x : S D) (vs : List Nat) : S (List D) := S.bind it fun p => if p.1.length ≤ 1000000 then (fun e C => lcs p.2 t c x p.1 (wipeE e vs) C) else fun _ _ => none
abbrev W0 : Wh := ⟨fun _ _ _ _ => False, none⟩
/-- a list that is being made stands in the frame -/
theorem SR.intoF {Hf F : Hp} {ρ : List Addr} {C : Cells} {H : Hp} (S : SR K Hf F ρ C H) {p : Addr} {o : HO} (hp : H p = none) : SR K Hf (upd F p o) ρ C (upd H p o) := by
  have hf : Hf p = none := S.ex.free hp
  refine ⟨fun b u h => ?_, fun b u h => ?_, fun b u h => ?_, S.len, fun n a u h1 h2 => ?_, S.inj⟩
  · rw [upd_ne (ne_of_none (S.ex b u h) hp)]
    exact S.ex b u h
  · by_cases hb : b = p
    · subst hb
      rw [upd_same] at h ⊢
      exact h
    · rw [upd_ne hb] at h ⊢
      exact S.fr b u h
  · by_cases hb : b = p
    · subst hb
      exact hf
    · rw [upd_ne hb] at h
      exact S.ap b u h
  · obtain ⟨k1, k2⟩ := S.cel n a u h1 h2
    obtain ⟨w, hw⟩ := k2.some
    have ha : a ≠ p := ne_of_none hw hp
    rw [upd_ne ha, upd_ne ha]
    exact ⟨k1, k2⟩
theorem SR.growF {Hf F : Hp} {ρ : List Addr} {C : Cells} {H : Hp} {p : Addr} {o u : HO} (S : SR K Hf (upd F p o) ρ C H) : SR K Hf (upd F p u) ρ C (upd H p u) := by
  have hf : Hf p = none := S.ap p o upd_same
  refine ⟨fun b w h => ?_, fun b w h => ?_, fun b w h => ?_, S.len, fun n a w h1 h2 => ?_, S.inj⟩
  · rw [upd_ne (ne_of_none h hf)]
    exact S.ex b w h
  · by_cases hb : b = p
    · subst hb
      rw [upd_same] at h ⊢
      exact h
    · rw [upd_ne hb] at h ⊢
      exact S.fr b w (by rw [upd_ne hb]; exact h)
  · by_cases hb : b = p
    · subst hb
      exact hf
    · rw [upd_ne hb] at h
      exact S.ap b w (by rw [upd_ne hb]; exact h)
  · obtain ⟨⟨k0, k1⟩, k2⟩ := S.cel n a w h1 h2
    have ha : a ≠ p := fun e => by
      subst e
      rw [upd_same] at k1
      cases k1
    rw [upd_ne ha] at k1
    rw [upd_ne ha, upd_ne ha]
    exact ⟨⟨k0, k1⟩, k2⟩
/-- at the end: the list is fresh -/
theorem SR.outF {Hf F : Hp} {ρ : List Addr} {C : Cells} {H : Hp} {p : Addr} {vs : List V} {ds : List D} (hF : F p = none) (S : SR K Hf (upd F p (.lst vs)) ρ C H) (h : Dats K Hf ρ vs ds) : Fresh K H Hf F ρ C (.ref p) ds := by
  have hf : Hf p = none := S.ap p _ upd_same
  have hH : H p = some (.lst vs) := S.fr p _ upd_same
  have nb : ∀ {n : Nat} {a : Addr} {o : Ob}, ρ[n]? = some a → C[n]? = some (some o) → a ≠ p ∧ Hf a = none ∧ F a = none ∧ ObR K Hf (H a) o := fun {n a o} h1 h2 => by
    obtain ⟨⟨k0, k1⟩, k2⟩ := S.cel n a o h1 h2
    have ha : a ≠ p := fun e => by
      subst e
      rw [upd_same] at k1
      cases k1
    rw [upd_ne ha] at k1
    exact ⟨ha, k0, k1, k2⟩
  have fr : Same F H := fun b o q => S.fr b o (by rw [upd_ne (ne_of_none q hF)]; exact q)
  have ap : ∀ b o, F b = some o → Hf b = none := fun b o q => S.ap b o (by rw [upd_ne (ne_of_none q hF)]; exact q)
  have e0 : Same Hf (upd Hf p (.lst vs)) := fun b u q => by
    rw [upd_ne (ne_of_none q hf)]
    exact q
  refine .mk hH h ⟨fun b u q => ?_, fr, fun b o q => ?_, S.len, fun n a o h1 h2 => ?_, S.inj⟩ (fun nc => ⟨S.ex, fr, ap, by rw [List.length_append, List.length_append, S.len]; rfl, fun n a u h1 h2 => ?_, fun m n a o u h1 h2 h3 h4 => ?_⟩) hf
  · by_cases hb : b = p
    · subst hb
      rw [upd_same] at q
      rw [hH]
      exact q
    · rw [upd_ne hb] at q
      exact S.ex b u q
  · rw [upd_ne (ne_of_none q hF)]
    exact ap b o q
  · obtain ⟨ha, k0, k1, k2⟩ := nb h1 h2
    rw [upd_ne ha]
    exact ⟨⟨k0, k1⟩, k2.mono e0⟩
  · by_cases hn : n < ρ.length
    · rw [List.getElem?_append_left hn] at h1
      rw [List.getElem?_append_left (by rw [← S.len]; exact hn)] at h2
      obtain ⟨ha, k0, k1, k2⟩ := nb h1 h2
      exact ⟨⟨k0, k1⟩, k2⟩
    · have hn' := (List.getElem?_eq_some_iff.mp h1).1
      rw [List.length_append] at hn'
      have hone : ([p] : List Addr).length = 1 := rfl
      have en : n = ρ.length := by omega
      subst en
      rw [List.getElem?_append_right (Nat.le_refl _), Nat.sub_self] at h1
      rw [S.len, List.getElem?_append_right (Nat.le_refl _), Nat.sub_self] at h2
      have ea : p = a := Option.some.inj h1
      have eu : Ob.l ds = u := Option.some.inj (Option.some.inj h2)
      subst ea
      subst eu
      rw [hH]
      exact ⟨⟨hf, hF⟩, .l (h.bare nc)⟩
  · have old : ∀ {k : Nat} {b : Addr} {o : Ob}, k < ρ.length → (ρ ++ [p])[k]? = some b → (C ++ [some (.l ds)])[k]? = some (some o) → ρ[k]? = some b ∧ C[k]? = some (some o) ∧ b ≠ p := fun {k b o} hk g1 g2 => by
      rw [List.getElem?_append_left hk] at g1
      rw [List.getElem?_append_left (by rw [← S.len]; exact hk)] at g2
      exact ⟨g1, g2, (nb g1 g2).1⟩
    have new : ∀ {k : Nat} {b : Addr}, ¬ k < ρ.length → (ρ ++ [p])[k]? = some b → k = ρ.length ∧ p = b := fun {k b} hk g1 => by
      have hn' := (List.getElem?_eq_some_iff.mp g1).1
      rw [List.length_append] at hn'
      have hone : ([p] : List Addr).length = 1 := rfl
      have en : k = ρ.length := by omega
      subst en
      rw [List.getElem?_append_right (Nat.le_refl _), Nat.sub_self] at g1
      exact ⟨rfl, Option.some.inj g1⟩
    by_cases hm : m < ρ.length
    · obtain ⟨a1, a2, a3⟩ := old hm h1 h3
      by_cases hn : n < ρ.length
      · obtain ⟨b1, b2, b3⟩ := old hn h2 h4
        exact S.inj m n a o u a1 b1 a2 b2
      · exact absurd (new hn h2).2.symm a3
    · obtain ⟨rfl, e1⟩ := new hm h1
      by_cases hn : n < ρ.length
      · obtain ⟨b1, b2, b3⟩ := old hn h2 h4
        exact absurd e1.symm b3
      · exact (new hn h2).1.symm
/-- the reading of a comprehension -/
theorem goLc {it : SW} {t : Tg} {c : S Bool} {x : S D} {vs : List Nat} (hv : ∀ j ∈ t.at_, j ∈ vs) {σ : L2.St} {H : Hp} {Q : VK} (hput : ∀ d e e', t.put d e = some e' → e'.length = e.length) (h : tL X.K X.mg W (xLc it t c x vs) σ H Q) :
    tLc (tI X.K X.mg W it) (gG X.K X.mg none t) (tT X.K X.mg W0 c) (tE X.K X.mg W0 x) vs σ H Q := by
  obtain ⟨Hf, F, ρ, env, C, S0, E0, g⟩ := h
  refine ⟨Hf, F, ρ, env, C, S0, E0, ?_⟩
  unfold xLc S.bind at g
  cases hit : it env C with
  | none =>
    rw [hit] at g
    exact g
  | some r =>
    rw [hit] at g
    cases r with
    | ex c' p C' => exact g
    | ok p C' =>
      obtain ⟨ds, gd⟩ := p
      refine fun J H1 Hf1 ρ1 e1 p1 S1 w1 Dl hD => ?_
      simp only [] at g
      split at g
      · rename_i hfew
        have E1 := (E0.mono e1 p1).plain.wipe vs
        have hF : F Dl = none := S1.fr.free hD
        -- acc: what has been made
        refine ⟨fun i m H2 => i ≤ ds.length ∧ m = ds.length - i ∧ ∃ Hf2 ρ2 C2 acc dacc, Same Hf1 Hf2 ∧ ρ1 <+: ρ2 ∧ SR X.K Hf2 (upd F Dl (.lst acc)) ρ2 C2 H2 ∧ acc.length ≤ i ∧ Dats X.K Hf2 ρ2 acc dacc ∧
          (match lcs gd t c x (ds.drop i) (wipeE env vs) C2 with
            | some (.ok ys C3) => ∀ v H' Hf' ρ', Same Hf2 Hf' → ρ2 <+: ρ' → Fresh X.K H' Hf' F ρ' C3 v (dacc ++ ys) → Q v H'
            | _ => False), ⟨ds.length, Nat.zero_le _, rfl, Hf1, ρ1, C', [], [], Same.refl _, List.prefix_refl _, S1.intoF hD, Nat.zero_le _, .nil, ?_⟩, ?_⟩
        · have g : GoL X.K X.mg W σ Hf F ρ (lcs gd t c x ds (wipeE env vs) C') Q := g
          cases hl : lcs gd t c x ds (wipeE env vs) C' with
          | none =>
            rw [hl] at g
            exact g.elim
          | some r =>
            rw [hl] at g
            rw [List.drop_zero, hl]
            cases r with
            | ok ys C3 => exact fun v H' Hf' ρ' e' p' f' => g v H' Hf' ρ' (e1.trans e') (p1.trans p') f'
            | ex c' q C3 =>
              have no : ∀ (l : List D) (C : Cells) (e : Env) (c' : Str) (q : Option (Str × D)) (C3 : Cells), lcs gd t c x l e C ≠ some (.ex c' q C3) := by
                intro l
                induction l with
                | nil =>
                  intro C e c' q C3 z
                  unfold lcs at z
                  split at z <;> cases z
                | cons d r ih =>
                  intro C e c' q C3 z
                  unfold lcs at z
                  split at z
                  · split at z
                    · cases z
                    · split at z
                      · split at z
                        · split at z <;> cases z
                        · cases z
                      · exact ih _ _ _ _ _ z
                      · cases z
                  · cases z
              exact absurd hl (no _ _ _ _ _ _)
        · rintro i m H2 ⟨hi, rfl, Hf2, ρ2, C2, acc, dacc, e2, p2, S2, hacc, D2, g2⟩
          by_cases hlt : i < ds.length
          · rw [List.drop_eq_getElem_cons hlt] at g2
            unfold lcs at g2
            by_cases hgd : gd C2 = true
            · rw [if_pos hgd] at g2
              obtain ⟨go, yl⟩ := (w1 i Hf2 _ ρ2 C2 H2 e2 p2 S2 hgd).1 hlt
              refine .inr ⟨go, fun H3 => ∃ Hf3 ρ3 C3 acc' dacc', Same Hf1 Hf3 ∧ ρ1 <+: ρ3 ∧ SR X.K Hf3 (upd F Dl (.lst acc')) ρ3 C3 H3 ∧ acc'.length ≤ i + 1 ∧ Dats X.K Hf3 ρ3 acc' dacc' ∧
                (match lcs gd t c x (ds.drop (i + 1)) (wipeE env vs) C3 with
                  | some (.ok ys C3) => ∀ v H' Hf' ρ', Same Hf3 Hf' → ρ3 <+: ρ' → Fresh X.K H' Hf' F ρ' C3 v (dacc' ++ ys) → Q v H'
                  | _ => False), fun H3 q => ⟨ds.length - (i + 1), by omega, hlt, rfl, q⟩, fun y H3 hy => ?_⟩
              obtain ⟨d, Hf3, hd, e3, S3, D3⟩ := yl y H3 hy
              have ed : ds[i] = d := by
                rw [List.getElem?_eq_getElem hlt] at hd
                exact Option.some.inj hd
              rw [ed] at g2
              cases ht : t.put d (wipeE env vs) with
              | none =>
                rw [ht] at g2
                exact g2.elim
              | some env3 =>
                rw [ht] at g2
                simp only [] at g2
                have E3 := E1.mono (e2.trans e3) p2
                refine ⟨Hf3, _, ρ2, wipeE env vs, C2, d, S3, E3, D3, env3, ht, fun σ4 E4 f4 => ⟨?_, Hf3, _, ρ2, env3, C2, S3, E4, ?_⟩⟩
                · rw [← wipe_wipe (σ := σ)]
                  refine wipe_same ?_ fun j hj => f4 j fun z => hj (hv j z)
                  rw [E4.len, hput _ _ _ ht, E3.len]
                · cases hc : c env3 C2 with
                  | none =>
                    rw [hc] at g2
                    exact g2.elim
                  | some rc =>
                    rw [hc] at g2
                    cases rc with
                    | ex c' q C3 => exact g2.elim
                    | ok b C3 =>
                      refine fun b' H4 Hf4 ρ4 e4 p4 S4 hb => ?_
                      have hb' : b' = b := hb
                      subst hb'
                      cases b' with
                      | false =>
                        simp only [] at g2
                        refine ⟨Hf4, ρ4, C3, acc, dacc, (e2.trans e3).trans e4, p2.trans p4, S4, Nat.le_succ_of_le hacc, D2.mono (e3.trans e4) p4, ?_⟩
                        cases hl : lcs gd t c x (ds.drop (i + 1)) (wipeE env vs) C3 with
                        | none =>
                          rw [hl] at g2
                          exact g2
                        | some r =>
                          rw [hl] at g2
                          cases r with
                          | ex _ _ _ => exact g2
                          | ok ys C5 => exact fun v H' Hf' ρ' e' p' f' => g2 v H' Hf' ρ' ((e3.trans e4).trans e') (p4.trans p') f'
                      | true =>
                        simp only [] at g2
                        refine L2.iteT ?_
                        refine ⟨Hf4, _, ρ4, env3, C3, S4, E4.mono e4 p4, ?_⟩
                        cases hx : x env3 C3 with
                        | none =>
                          rw [hx] at g2
                          exact g2.elim
                        | some rx =>
                          rw [hx] at g2
                          cases rx with
                          | ex c' q C5 => exact g2.elim
                          | ok dy C5 =>
                            refine fun vy H5 Hf5 ρ5 e5 p5 S5 D5 => ⟨acc, S5.fr Dl _ upd_same, Nat.lt_of_le_of_lt hacc (Nat.lt_of_lt_of_le hlt (Nat.le_trans hfew (by decide))), ?_⟩
                            simp only [] at g2
                            refine ⟨Hf5, ρ5, C5, acc ++ [vy], dacc ++ [dy], ((e2.trans e3).trans e4).trans e5, (p2.trans p4).trans p5, S5.growF, by rw [List.length_append]; exact Nat.succ_le_succ hacc, (D2.mono ((e3.trans e4).trans e5) (p4.trans p5)).app (.cons D5 .nil), ?_⟩
                            cases hl : lcs gd t c x (ds.drop (i + 1)) (wipeE env vs) C5 with
                            | none =>
                              rw [hl] at g2
                              exact g2
                            | some r =>
                              rw [hl] at g2
                              cases r with
                              | ex _ _ _ => exact g2
                              | ok ys C6 =>
                                refine fun v H' Hf' ρ' e' p' f' => g2 v H' Hf' ρ' (((e3.trans e4).trans e5).trans e') ((p4.trans p5).trans p') ?_
                                rw [List.append_assoc] at f'
                                exact f'
            · rw [if_neg hgd] at g2
              exact g2.elim
          · have ei : i = ds.length := by omega
            subst ei
            rw [List.drop_eq_nil_of_le (Nat.le_refl _)] at g2
            unfold lcs at g2
            by_cases hgd : gd C2 = true
            · rw [if_pos hgd] at g2
              refine .inl ⟨(w1 _ Hf2 _ ρ2 C2 H2 e2 p2 S2 hgd).2 (Nat.le_refl _), g2 _ H2 Hf2 ρ2 (Same.refl _) (List.prefix_refl _) ?_⟩
              rw [List.append_nil]
              exact S2.outF hF D2
            · rw [if_neg hgd] at g2
              exact g2.elim
      · exact g.elim
end
end Sm
end
section
set_option maxRecDepth 100000
set_option maxHeartbeats 0
namespace SmX
open PySem PySem.W PySem.Calls PyProof.Rows

/-! ### an own error whose __init__ says super().__init__(f); self.f = f -/
def sA (f : Str) (p1 p2 : Pos) : Arguments := { posonlyargs := [], args := [{ arg := "self", annotation := none, pos := p1 }, { arg := f, annotation := none, pos := p2 }], vararg := none, kwonlyargs := [], kw_defaults := [], kwarg := none, defaults := [] }
def sB (f : Str) (q1 q2 q3 q4 q5 q6 q7 q8 q9 q0 : Pos) : List Stmt :=
  [.Expr (.Call (.Attribute (.Call (.Name "super" q1) [] [] q2) "__init__" q3) [.Name f q4] [] q5) q6, .Assign [.Attribute (.Name "self" q7) f q8] (.Name f q9) q0]
def sS (f : Str) : Scope := { kind := .function, names := [(PySem.Str.ofString "self", .local), (f, .local), (PySem.Str.ofString "__class__", .free), (PySem.Str.ofString "super", .globalImplicit)], isGenerator := false, isCoroutine := false, more := [] }
/-- how o.m(..) is evaluated, the line told -/
def MethEv (o : Expr) (m : Str) (apos pos : Pos) (args : List Expr) (pl : Sem Bool) : Prop := ∀ env : Env, eval (.Call (.Attribute o m apos) args [] pos) env = (do
      let ov ← attributeBase o m env (eval o env)
      standAt apos.atName
      let (f, first) ← holding [ov] (getMethod ov m pl)
      callWith pos f first (backTo pos (starEach args env)) [])
structure SupEnd (h h' : Heap) (x C dx : Addr) (f : Str) (v : Value) : Prop where
  keep : ∀ b o, b ≠ x → h.get? b = some o → h'.get? b = some o
  obj : ∃ t1, h'.get? x = some (excObj C t1 (some dx) .none)
  dbig : h.objs.size ≤ dx
  dne : dx ≠ x
  ns : h'.Ns1 dx (fun y => if y = f then some v else none)
/-- what the written part says of such a class at C, with its __init__ at fI -/
structure SupTxt (P : Program) (K : Frag) (mg : Str → Option Value) (B i newId : String) (bmB : List Value) (C fI : Addr) (x f : Str) : Prop where
  gC : mg x = some (.ref C)
  kC : keepIn K (.ref C) = true
  cls : ∃ nm q N bs bm sn sub ab col dd k0 k1 k2 k3 k5, K.lookup C = some (excClassObj nm q C N bs bm true sn sub ab col dd k0 k1 k2 k3 k5 newId)
  inn : excInitIn K C bmB newId = true
  ovr : excOver K C bmB = true
  sa : findIn K (.ref C) "__setattr__" = some (some (.builtin "object.__setattr__"))
  ga : findIn K (.ref C) "__getattribute__" = some (some (.builtin "BaseException.__getattribute__"))
  gg : findIn K (.ref C) "__getattr__" = some none
  noF : findIn K (.ref C) f = some none
  iC : findIn K (.ref C) "__init__" = some (some (.ref fI))
  tI : typeIn K (.ref fI) = some (.type "function")
  exC : subIn K (.ref C) (.type "BaseException") = some true
  exB : subIn K (.ref C) (.type B) = some true
  tyC : typeIn K (.ref C) = some (.type "type")
  hdC : hasDictIn K C = true
  self : mroIn K C (.ref C) = some true
  sup : ks_superIn K C C "__init__" = some (some (.builtin i))
  opq : nsIn K cStatics "thirdparty.any" = some none
  sg : nsIn K mainGlobals "super" = some none
  top : (P.main.scope.names.lookup ("super" : Str)).isSome = false
  fn : ∃ (oc : Value) (od : Option Addr) (doc pm : Value) (an : Option Addr) (cda cc : Addr) (ct : Value) (osl : Array (Option Value)) (q : Str) (p1 p2 q1 q2 q3 q4 q5 q6 q7 q8 q9 q0 : Pos)
    (ccl cl : Value) (cdd cld : Option Addr) (ccs csl : Array (Option Value)) (vs : Array Value) (file : Str) (tf : Tok),
    K.lookup fI = some ⟨oc, od, .func (ksFn "__init__" q (sA f p1 p2) (sB f q1 q2 q3 q4 q5 q6 q7 q8 q9 q0) (sS f) .none .none doc pm an (.ref cda) ct cc), osl⟩ ∧ codeIn K (.ref cda) q = true ∧
    K.lookup cda = some ⟨ccl, cdd, .fields vs, ccs⟩ ∧ vs[2]? = some (.str file tf) ∧ ((P.main.file : Str) == file) = true ∧ K.lookup cc = some ⟨cl, cld, .cell (some (.ref C)), csl⟩ ∧
    ∃ pl, MethEv (.Call (.Name "super" q1) [] [] q2) "__init__" q3 q5 [.Name f q4] pl

section
variable {prog : Program} {w : World} {A : Around} {E : Value → Shared → Prop} {R : Result → Shared → Prop} {K : Frag} {mg : Str → Option Value} {C fI : Addr} {B i newId : String} {bmB : List Value} {n f : Str}
/-- the first attribute of an error -/
theorem sup_osa {x t0 : Addr} {name : Str} {tk : Tok} {v : Value} {hp : Heap} {g : Array GenState} {d : Drawn} {t : Nat} {os : OsState} (SF : StoreFacts B bmB "object.__setattr__" "object") (X : K.In hp) (hx : hp.get? x = some (excObj C t0 none .none)) (ho : excOver K C bmB = true)
    (ht : findIn K (.ref C) name = some none) (hh : hasDictIn K C = true)
    (hq : ∀ h' tk' dx, (∀ b o, b ≠ x → hp.get? b = some o → h'.get? b = some o) → hp.objs.size ≤ dx → dx ≠ x → h'.get? x = some (excObj C t0 (some dx) .none) → h'.Ns1 dx (fun y => if y = name then some v else none) → R (.ok (.ret .none)) ⟨h', g, d, tk', os⟩) :
    codeAny (model prog w) A (.call (.builtin "object.__setattr__") ⟨[.ref x, .str name tk, v], []⟩) R ⟨hp, g, d, t, os⟩ := by
  have hxs : x ≠ hp.objs.size := Nat.ne_of_lt (Heap.lt_size hx)
  obtain ⟨cd, hc, hd'⟩ := any_some hh
  have hcls : Looks (model prog w) hp (classData C) cd := looks_clsIn X hc
  refine osa_openX (od := none) (r := none) SF X ⟨hx, rfl, rfl, trivial⟩ ho (by unfold takerIn; rw [ht]; rfl) fun b => ?_
  show wpAny _ _ (Builtin.ObjectAttr.storeInOwnDict (.ref x) (.ref C) (.str name tk) name v b) _ _ _
  obtain ⟨nm, bs, mro, ns, qn, hd, sn, sb, ab, col, del⟩ := cd
  have hd2 : hd = true := hd'
  subst hd2
  unfold Builtin.ObjectAttr.storeInOwnDict Builtin.ObjectAttr.ownDictForStores
  repeat (first
    | with_reducible refine HandSPX.store_in_new ?_ ?_
    | with_reducible refine wpAny_loadPart_at hx ?_
    | with_reducible refine hcls.at ?_
    | wp_step)
  · refine ⟨_, #[], _, (Heap.get?_update_ne _ _ _ _ hxs.symm).trans (Heap.get?_push_at rfl rfl), rfl, ?_, fun _ => rfl⟩
    intro e he
    exact absurd he (by simp)
  · intro h' tk' hn' hs
    refine hq h' tk' hp.objs.size (fun b o hb ho => ?_) (Nat.le_refl _) hxs.symm ?_ hn'
    · have e1 := hs.2 b (Nat.ne_of_lt (Heap.lt_size ho))
      exact e1.trans ((Heap.get?_update_ne _ _ _ _ hb).trans (Heap.get?_push_of_some _ ho))
    · refine (hs.2 x hxs).trans (Heap.get?_update_self _ (Heap.get?_push_of_some _ hx) rfl)
/-- what is reckoned of a name f -/
structure NmOk (f : Str) : Prop where
  k : (sS f).names.lookup f = some .local
  d : (f == ("__debug__" : Str)) = false
  c : ∀ y ∈ (sS f).names, y.2 ≠ .cell
  l1 : ∀ a b : Value, [(PySem.Str.ofString "self", a), (f, b)].reverse.lookup f = some b
  l0 : ∀ a b : Value, [(PySem.Str.ofString "self", a), (f, b)].reverse.lookup ("self" : Str) = some a
  bind : ∀ (q : Str) (p1 p2 : Pos) (b : List Stmt) (doc pm : Value) (an : Option Addr) (cda cc : Addr) (ct a v : Value), bindArgs (ksFn "__init__" q (sA f p1 p2) b (sS f) .none .none doc pm an (.ref cda) ct cc) ⟨[a, v], []⟩ = pure [(PySem.Str.ofString "self", a), (f, v)]
  ks : (sS f).names.lookup ("super" : Str) = some .globalImplicit
  kc : (sS f).names.lookup ("__class__" : Str) = some .free
  k0 : (sS f).names.lookup ("self" : Str) = some .local
theorem nm_given : NmOk "given" := ⟨by decide +kernel, by decide, by decide +kernel, fun _ _ => rfl, fun _ _ => rfl, fun _ _ _ _ _ _ _ _ _ _ _ _ => rfl, by decide +kernel, by decide +kernel, by decide +kernel⟩
theorem nm_limit : NmOk "limit" := ⟨by decide +kernel, by decide, by decide +kernel, fun _ _ => rfl, fun _ _ => rfl, fun _ _ _ _ _ _ _ _ _ _ _ _ => rfl, by decide +kernel, by decide +kernel, by decide +kernel⟩
theorem sup_init (KF : KxsFacts B i) (FB : ExcBaseFacts B newId i bmB) (SF : StoreFacts B bmB "object.__setattr__" "object") (T : SupTxt prog K mg B i newId bmB C fI n f) (hf : NmOk f) {x t0 : Addr} {v : Value} {s : Shared} (X : K.In s.heap) (G : s.heap.Ns mainGlobals mg)
    (Bt : ∃ mb, s.heap.Ns builtinsNs mb ∧ ∀ y : Str, y ≠ "__name__" → mb y = bootBuiltins y) (hlim : s.heap.NoLimit) (hx : s.heap.get? x = some (excObj C t0 none .none)) (hnx : K.lookup x = none) (hroom : A.depth < recursionLimit)
    (hq : ∀ h' tk dx, SupEnd s.heap h' x C dx f v → R (.ok (.ret .none)) { s with heap := h', toks := tk }) : codeAny (model prog w) A (.call (.ref fI) ⟨[.ref x, v], []⟩) R s := by
  obtain ⟨oc, od, doc, pm, an, cda, cc, ct, osl, q, p1, p2, q1, q2, q3, q4, q5, q6, q7, q8, q9, q0, ccl, cl, cdd, cld, ccs, csl, vs, file, tf, ho, hcd, hcode, hvs, hfile, hcell, pl, hev⟩ := T.fn
  obtain ⟨mb, hb1, hb2⟩ := Bt
  obtain ⟨oC, hC1, cdC, hC2⟩ : ∃ oC, s.heap.get? C = some oC ∧ ∃ cdC, oC.data = .cls cdC := by
    obtain ⟨nm, q, N, bs, bm, sn, sub, ab, col, dd, k0, k1, k2, k3, k5, hC⟩ := T.cls
    exact ⟨_, X _ _ hC, _, rfl⟩
  refine ks_codeAny_call_defAt (fd := ksFn "__init__" q (sA f p1 p2) (sB f q1 q2 q3 q4 q5 q6 q7 q8 q9 q0) (sS f) .none .none doc pm an (.ref cda) ct cc) (body := sB f q1 q2 q3 q4 q5 q6 q7 q8 q9 q0) (binds := [("self", .ref x), (f, v)])
    hroom (X _ _ ho) rfl hlim (codeRec_of X hcd) rfl (BindsTo.of_eq (hf.bind _ _ _ _ _ _ _ _ _ _ _ _)) hf.c ?_ (fun h₁ hns k1 => ?_) rfl rfl rfl
  · intro y hy
    rcases List.mem_cons.mp hy with rfl | hy
    · exact hf.k0
    · rcases List.mem_cons.mp hy with rfl | hy
      · exact hf.k
      · cases hy
  · have X₁ : K.In h₁ := X.keeps k1
    have hx₁ := k1 _ _ hx
    have hxL : s.heap.objs.size ≠ x := Nat.ne_of_gt (Heap.lt_size hx)
    -- what stays through the body: the frame L, the heap without x
    have frame : ∃ G0 : Heap, (∀ b, b ≠ x → G0.get? b = s.heap.get? b) ∧ G0.get? x = none ∧ G0.objs.size ≤ s.heap.objs.size := by
      refine ⟨hideAll s.heap [x], fun b hb => ?_, hideAll_none _ List.mem_cons_self, Nat.le_of_eq (hideAll_size _ _)⟩
      cases e : s.heap.get? b with
      | some o => exact hideAll_get _ e (fun z => hb (List.mem_singleton.mp z))
      | none =>
        cases e2 : (hideAll s.heap [x]).get? b with
        | none => rfl
        | some o =>
          have := of_hideAll [x] e2
          rw [e] at this
          cases this
    obtain ⟨G0, g1, g2, g3⟩ := frame
    have F1 : Fr G0 s.heap.objs.size h₁ (fun y => [(PySem.Str.ofString "self", Value.ref x), (f, v)].reverse.lookup y) := ⟨hns, fun b o e => k1 b o (by
      by_cases hb : b = x
      · subst hb
        rw [g2] at e
        cases e
      · rw [← g1 b hb]
        exact e), g3⟩
    have N1 : News G0 s.heap.objs.size h₁ [(x, excObj C t0 none .none)] := fun p hp => by
      rw [List.mem_singleton.mp hp]
      exact ⟨hx₁, hxL.symm, g2⟩
    have XG : K.In G0 := fun a o e => by
      by_cases ha : a = x
      · subst ha
        rw [hnx] at e
        cases e
      · rw [g1 a ha]
        exact X a o e
    obtain ⟨nm, qn, N, bs, bm, sn, sub, ab, col, dd, k0, k1', k2, k3, k5, hCK⟩ := T.cls
    have hc : clsIn K C = some { name := nm, bases := bs, mro := .ref C :: bm, ns := N, qualname := qn, hasDict := true, slotNames := sn, subclasses := sub, abstract := ab, collection := col, hasDel := false } := by
      unfold clsIn
      rw [hCK] <;> rfl
    have hCget := X₁ _ _ hCK
    -- super().__init__(f)
    refine ks_wpAt_execs_cons (ks_wpAt_Expr_any (ks_wpAt_MethodCall (pl := pl) ?_ (hev _)) rfl rfl)
    refine ks_wpAt_super_base (env := ksEnv q (sS f) s.heap.objs.size fI (.ref cda) cc) hf.ks hf.kc (by decide) rfl (X₁ _ _ ho) rfl rfl rfl (X₁ _ _ hcode) rfl hvs hfile T.top ?_
    refine ks_loadName_global rfl hf.ks (loadGlobal_builtin (env := ksEnv q (sS f) s.heap.objs.size fI (.ref cda) cc) (G.keeps k1) (mg_none_of X G T.sg) (hb1.keeps k1) ((hb2 _ (by decide +kernel)).trans (by decide +kernel)) ⟨rfl, ?_⟩)
    refine wpAny_loadName_free rfl hf.kc rfl ⟨_, X₁ _ _ hcell, rfl⟩ ?_
    refine wpAny_loadName_local rfl hf.k0 F1.ns (hf.l0 _ _) ?_
    refine ks_wpAny_isType_cls hCget rfl ⟨rfl, ?_⟩
    refine ks_wpAny_call_super hCget rfl hx₁ rfl (fun c e => nomatch e) (looks_mroIn X₁ T.self) fun h2 e2 kk2 => ?_
    obtain ⟨F2, N2, l2⟩ := ks_newsPush (s := ⟨h₁, s.gens, s.drawn, 0, s.os⟩) (o := ks_superObj C x C) F1 N1 rfl e2 kk2
    have I2 : InstAt h2 x (excObj C t0 none .none) C none := ⟨kk2 _ _ hx₁, rfl, rfl, trivial⟩
    refine kxs_method (s := ⟨h2, s.gens, s.drawn, _, s.os⟩) KF F2 XG N2 List.mem_cons_self I2 T.opq T.sup T.exB (by decide) fun u h3 F3 N3 l3 => ?_
    refine kxs_callWith1 (i := i) (x := x) N3 List.mem_cons_self ?_ rfl rfl
    show wpAny _ _ (spliced ((false, eval (.Name f q4) (ksEnv q (sS f) s.heap.objs.size fI (.ref cda) cc)) :: backTo q5 (starEach [] (ksEnv q (sS f) s.heap.objs.size fI (.ref cda) cc)))) _ _ _
    have ldF : ∀ {A' : Around} {E' : Value → Shared → Prop} {s' : Shared} {p : Pos} {Q' : Value → Shared → Prop}, Fr G0 s.heap.objs.size s'.heap (fun y => [(PySem.Str.ofString "self", Value.ref x), (f, v)].reverse.lookup y) → Q' v s' →
        wpAny (model prog w) A' (eval (.Name f p) (ksEnv q (sS f) s.heap.objs.size fI (.ref cda) cc)) Q' E' s' := fun F' q' => wpAny_Name (wpAny_loadName_local rfl hf.k F'.ns (hf.l1 _ _) q') hf.d
    have ldS : ∀ {A' : Around} {E' : Value → Shared → Prop} {s' : Shared} {p : Pos} {Q' : Value → Shared → Prop}, Fr G0 s.heap.objs.size s'.heap (fun y => [(PySem.Str.ofString "self", Value.ref x), (f, v)].reverse.lookup y) → Q' (.ref x) s' →
        wpAny (model prog w) A' (eval (.Name "self" p) (ksEnv q (sS f) s.heap.objs.size fI (.ref cda) cc)) Q' E' s' := fun F' q' => wpAny_Name (wpAny_loadName_local rfl hf.k0 F'.ns (hf.l0 _ _) q') (by decide)
    refine Calls.spliced_cons (ldF F3 (Calls.spliced_nil ⟨kxs_at N3 List.mem_cons_self, ?_⟩))
    have ux : u ≠ x := Nat.ne_of_gt (l3 (x, excObj C t0 none .none) (by simp))
    have sx : h₁.objs.size ≠ x := Nat.ne_of_gt (Heap.lt_size hx₁)
    refine kxs_call F3 XG N3 FB T.inn List.mem_cons_self (.tail ux (.tail sx (.head (fun p hp => nomatch hp)))) (by show 1 ≤ sizeLine; decide) fun t4 h4 F4 N4 l4 => ?_
    -- self.f = f
    refine ks_wpAt_execs_cons (ks_wpAt_Assign_Attr (wpAt_of_wpAny (ldF F4 (ldS F4 ?_))) rfl)
    have X4 : K.In h4 := XG.keeps F4.keep
    have hx4 := (N4 (x, excObj C t4 none .none) (by simp)).1
    refine set_plain X4 (ox := excObj C t4 none .none) (od := none) ⟨hx4, rfl, rfl, trivial⟩ T.sa ?_
    refine sup_osa SF X4 hx4 T.ovr T.noF T.hdC fun h5 tk5 dx k5 dn dne hx5 hn5 => ?_
    refine wpAt_of_wpAny (wpAny_execs_nil ?_)
    refine hq h5 _ dx ⟨fun b o hb e => k5 b o hb (F4.keep b o (by rw [g1 b hb]; exact e)), ⟨t4, hx5⟩, Nat.le_trans (Nat.le_of_lt F4.ns.lt) dn, dne, hn5⟩
/-- C(v): a new error -/
structure SupMade (h h' : Heap) (e C d : Addr) (f : Str) (v : Value) : Prop where
  keep : ∀ b o, h.get? b = some o → h'.get? b = some o
  new : h.objs.size ≤ e
  obj : ∃ t1, h'.get? e = some (excObj C t1 (some d) .none)
  dbig : h.objs.size ≤ d
  dne : d ≠ e
  ns : h'.Ns1 d (fun y => if y = f then some v else none)
theorem sup_made (KF : KxsFacts B i) (FB : ExcBaseFacts B newId i bmB) (SF : StoreFacts B bmB "object.__setattr__" "object") (T : SupTxt prog K mg B i newId bmB C fI n f) (hf : NmOk f) {v : Value} {s : Shared} (X : K.In s.heap) (G : s.heap.Ns mainGlobals mg)
    (Bt : ∃ mb, s.heap.Ns builtinsNs mb ∧ ∀ y : Str, y ≠ "__name__" → mb y = bootBuiltins y) (hlim : s.heap.NoLimit) (hroom : A.depth + 1 < recursionLimit)
    (hq : ∀ h' tk e d, SupMade s.heap h' e C d f v → R (.ok (.ret (.ref e))) { s with heap := h', toks := tk }) : codeAny (model prog w) A (.call (.ref C) ⟨[v], []⟩) R s := by
  obtain ⟨hoI, hoI2⟩ : ∃ oI, s.heap.get? fI = some oI ∧ oI.cls = .type "function" := by
    have ht : (K.lookup fI).map (·.cls) = some (.type "function") := T.tI
    cases z : K.lookup fI with
    | none =>
      rw [z] at ht
      cases ht
    | some oI =>
      rw [z] at ht
      exact ⟨oI, X _ _ z, Option.some.inj ht⟩
  obtain ⟨nm, N, qn, bs, bm, hdct, sn, sub, ab, col, dd, k0, k1, k2, k3, k5, hC, hT⟩ := excInit_of X T.inn
  obtain ⟨hp, g, dr, tk, os⟩ := s
  have k : ∀ b o, hp.get? b = some o → ((hp.push (kdv_tup [v])).push (HandSPX.excO C hp.objs.size)).get? b = some o := fun b o e => Heap.get?_push_of_some _ (Heap.get?_push_of_some _ e)
  have hget : ((hp.push (kdv_tup [v])).push (HandSPX.excO C hp.objs.size)).get? (hp.objs.size + 1) = some (HandSPX.excO C hp.objs.size) := by heap_get
  have hnx : K.lookup (hp.objs.size + 1) = none := by
    cases e : K.lookup (hp.objs.size + 1) with
    | none => rfl
    | some o => exact absurd (Nat.lt_of_succ_lt (Heap.lt_size (show hp.get? _ = some o from X _ _ e))) (Nat.lt_irrefl _)
  refine HandSPX.call_own FB hT hC (looks_findIn X T.iC) (fun self => exc_bind hoI2.1 hoI2.2 self) (by show 1 ≤ sizeLine; decide) ?_
  refine sup_init (s := ⟨(hp.push (kdv_tup [v])).push (HandSPX.excO C hp.objs.size), g, dr, tk, os⟩) KF FB SF T hf (X.keeps k) (G.keeps k) ⟨Bt.choose, Bt.choose_spec.1.keeps k, Bt.choose_spec.2⟩ (hlim.keeps k) hget hnx ?_ fun h' tk' dx M => ?_
  · show A.depth + 1 < recursionLimit
    exact hroom
  · have old : ∀ b o, hp.get? b = some o → h'.get? b = some o := fun b o e => M.keep b o (Nat.ne_of_lt (Nat.lt_succ_of_lt (Heap.lt_size e))) (k b o e)
    have z : hp.objs.size + 1 + 1 ≤ dx := by
      have q := M.dbig
      first
        | (simpa only [Heap.size_push] using q)
        | exact q
        | (rw [Heap.size_push, Heap.size_push] at q; exact q)
    exact ⟨rfl, hq h' tk' (hp.objs.size + 1) dx ⟨old, Nat.le_succ _, M.obj, Nat.le_trans (Nat.le_trans (Nat.le_succ _) (Nat.le_succ _)) z, M.dne, M.ns⟩⟩
end
end SmX

namespace Sm
open PySem L2 PySem.W PySem.Calls PyProof.Rows
theorem relO_one {v : V} {v' : Value} (r : RelV v v') (f g : Str) : RelO (List.lookup g [(f, v)]) (if g = f then some v' else none) := by
  by_cases hw : g = f
  · subst hw
    rw [if_pos rfl]
    have q : List.lookup g [(g, v)] = some v := by simp [List.lookup]
    rw [q]
    exact r
  · rw [if_neg hw]
    have qw : (g == f) = false := by simpa using hw
    have q2 : List.lookup g [(f, v)] = none := by simp [List.lookup, qw]
    rw [q2]
    trivial
section
variable {X : Cx} {C fI : Addr} {B i newId : String} {bmB : List Value} {n f : Str}
/-- C(e), an own error with one field -/
def tMkSup (C : Addr) (f : Str) (ta : TA) : L2.St → Hp → XK → Prop := fun σ H Q => ta σ H fun vs H1 => ∃ v, vs = [v] ∧ ∀ d, H1 d = none → Q (.ref C) (some d) (upd H1 d (.xd [(f, v)]))
theorem pmk_sup {a : Expr} {ta : TA} {p pos : Pos} {k : Nat} (KF : KxsFacts B i) (FB : ExcBaseFacts B newId i bmB) (SF : StoreFacts B bmB "object.__setattr__" "object") (T : SmX.SupTxt X.prog X.K X.mg B i newId bmB C fI n f) (hf : SmX.NmOk f) (hr : Room (k + 1) X.A) (ha : PA X [a] ta) (hg : Gl X n) (hdb : (n == ("__debug__" : Str)) = false)
    (he : starEach (a :: []) X.env = (false, eval a X.env) :: starEach [] X.env) (hpl : (backTo pos (starEach [] X.env)).any (·.1) = false) : PMk X (.Call (.Name n p) [a] [] pos) (tMkSup C f ta) := by
  intro pins s σ H Q I h
  refine wpAny_Call_Name_kw (ld_glob I hg T.gC ?_ hdb)
  refine callWith_K (h₀ := X.base) I.ok.mod.kin T.kC (thn (ha.run pos pins s σ H _ I h) fun us s1 hh => ?_) he hpl
  obtain ⟨vs, H1, I1, r1, v, ev, q1⟩ := hh
  subst ev
  refine ⟨I1.kIn, ?_⟩
  obtain ⟨v', rfl, rv⟩ := r1.one
  have hlim := I1.nolimit
  have G1 : s1.heap.Ns mainGlobals X.mg := I1.ok.mod.glob.keeps I1.bk
  have B1 : ∃ mb, s1.heap.Ns builtinsNs mb ∧ ∀ y : Str, y ≠ "__name__" → mb y = bootBuiltins y := by
    obtain ⟨mb, h1, h2⟩ := I1.ok.mod.blt
    exact ⟨mb, h1.keeps I1.bk, h2⟩
  have KI := I1.kIn
  obtain ⟨hp, g, dr, tk, os⟩ := s1
  show wpAny _ _ (call (.ref C) [v']) _ _ _
  refine wpAny_call (SmX.sup_made KF FB SF T hf KI G1 B1 hlim (by have := hr.dp; omega) fun h' tk' e d M => ?_)
  show MkP X pins σ Q (.ref e) ⟨h', g, dr, tk', os⟩
  obtain ⟨t1, hoe⟩ := M.obj
  have hns := M.ns
  -- the heap without the error itself
  obtain ⟨G', g1, g2⟩ := restrict h' fun b => decide (b ≠ e)
  have gk : ∀ b, b ≠ e → G'.get? b = h'.get? b := fun b hb => g1 b (decide_eq_true hb)
  have ge : G'.get? e = none := g2 e (by simp)
  have old : ∀ b o, hp.get? b = some o → G'.get? b = some o := fun b o q => (gk b (Nat.ne_of_lt (Nat.lt_of_lt_of_le (Heap.lt_size q) M.new))).trans (M.keep b o q)
  have ob : ObjOk X.prog X.w (upd H1 d (.xd [(f, v)])) G' d (.xd [(f, v)]) := ⟨_, hns.at (fun o q => (gk d M.dne).trans q), fun g => relO_one rv f g⟩
  have J : Inv X pins σ (upd H1 d (.xd [(f, v)])) ⟨G', g, dr, tk', os⟩ := I1.laid (t' := tk') old M.dbig ob
  refine ⟨e, _, _, ⟨G', g, dr, tk', os⟩, _, .ref C, some d, rfl, J, fun b o q => ?_, ge, hoe, ⟨rfl, rfl⟩, rfl, rfl, ?_, rfl, I1.bare, raises_own T.exC T.tyC, q1 d (I1.hok.fresh M.dbig)⟩
  · by_cases hb : b = e
    · have q' : G'.get? b = some o := q
      rw [hb, ge] at q'
      cases q'
    · exact (gk b hb).symm.trans q
  · rw [upd_ne (Ne.symm M.dne)]
    exact I1.hok.fresh M.new
end
end Sm
end
section
set_option maxRecDepth 100000
set_option maxHeartbeats 0
namespace Sm
open PySem L2
variable {K : PySem.W.Frag} {mg : Str → Option Value}

/-! ### raise, try -/
section
variable {X : Cx} {W : Wh}
def xRaise (c : Str) : SS := fun e C => some (.ex c none e C)
theorem sc_raise {e : Expr} {pos : Pos} {a : Addr} {c : Str} (hc : X.calm = true) (tk : Takes X W.w) (he : PMk X e (fun _ H Q => Q (.ref a) none H)) (gC : X.mg c = some (.ref a)) : SC X W (.Raise (some e) none pos) (xRaise c) :=
  ps_imp (ps_raise hc tk he) fun D σ H ⟨Hf, F, ρ, env, C, S0, E0, g⟩ => g (.ref a) none σ H Hf ρ (Same.refl _) (List.prefix_refl _) S0 E0 ⟨a, gC, rfl, rfl⟩
def xRaiseF (c f : Str) (s : S (List D)) : SS := xDo s fun ds e C => match ds with
  | [d] => some (.ex c (some (f, d)) e C)
  | _ => none
theorem sc_raiseF {e : Expr} {pos : Pos} {a : Addr} {c f : Str} {s : S (List D)} (hc : X.calm = true) (tk : Takes X W.w) (he : PMk X e (tMkSup a f (tA X.K X.mg W s))) (gC : X.mg c = some (.ref a)) : SC X W (.Raise (some e) none pos) (xRaiseF c f s) :=
  ps_imp (ps_raise hc tk he) fun D σ H ⟨Hf, F, ρ, env, C, S0, E0, g⟩ => ⟨Hf, F, ρ, env, C, S0, E0, (GoS.doit E0 g).mono fun vs H1 ⟨Hf1, ρ1, C1, ds, e1, p1, S1, A1, g1⟩ => by
    match ds, A1, g1 with
    | [d], .cons (v := v) h .nil, g1 =>
      refine ⟨v, rfl, fun b hb => ?_⟩
      obtain ⟨S2, e2⟩ := S1.new (o := .xd [(f, v)]) hb
      exact g1 (.ref a) (some b) σ _ _ ρ1 e2 (List.prefix_refl _) S2 ((E0.mono e1 p1).mono e2 (List.prefix_refl _)) ⟨a, gC, rfl, b, v, rfl, upd_same, h.mono e2 (List.prefix_refl _)⟩
    | [], _, g1 => exact g1.elim
    | _ :: _ :: _, _, g1 => exact g1.elim⟩
/-- e.f in a suite that holds the error, of class c, in slot i -/
def xErr (i : Nat) (c f : Str) : S D := fun env C => match env[i]? with
  | some (some (.err b g d)) => if c = b ∧ f = g then some (.ok d C) else none
  | _ => none
theorem se_err {a C : Addr} {oe : Obj} {cls : Value} {d : Option Addr} {pn : List (Addr × Obj)} {x : Str} {p pos : Pos} {n c : Str} {i : Nat} {w : WX} (T : XfC X.K C) (hno : PySem.W.findIn X.K (.ref C) n = some none) (gC : X.mg c = some (.ref C))
    (hz : Zc cls d oe) (hf : ∃ vs, oe.data = .fields vs) (he : PE (X.suite a ((a, oe) :: pn)) (.Name x p) (tVar i)) (hb : attributeBase (.Name x p) n X.env (eval (.Name x p) X.env) = eval (.Name x p) X.env) :
    SE (X.suite a ((a, oe) :: pn)) ⟨w, some (i, a, cls, d)⟩ (.Attribute (.Name x p) n pos) (xErr i c n) :=
  pe_imp (pe_xf T hno hz hf he hb) fun σ H Q ⟨Hf, F, ρ, env, Ce, S0, E0, g⟩ => by
    unfold xErr at g
    split at g
    · rename_i c' f' dl hi
      split at g
      · rename_i hff
        obtain ⟨hc, hff⟩ := hff
        subst hff
        subst hc
        obtain ⟨h1, b, C', v, h2, h3, h4, h5, h6⟩ := E0.exc i a cls d _ _ dl rfl hi
        have h4' : X.mg c = some (.ref C') := h4
        rw [gC] at h4'
        cases h4'
        refine ⟨.ref a, h1, rfl, h3, b, _, v, h2, S0.ex _ _ h5, ?_, g v H Hf ρ (Same.refl _) (List.prefix_refl _) S0 h6⟩
        simp [List.lookup]
      · exact g.elim
    · exact g.elim
/-- which errors a clause takes -/
abbrev Tb := List (Str × Bool)
def Catch (K : PySem.W.Frag) (mg : Str → Option Value) (c : Value) (tb : Tb) : Prop := ∀ p ∈ tb, ∃ a : Addr, mg p.1 = some (.ref a) ∧ PySem.W.exmOne K (.ref a) c = some p.2
theorem Catch.get {c : Value} {tb : Tb} (h : Catch K mg c tb) {x : Str} {b : Bool} (e : tb.lookup x = some b) {a : Addr} (ha : mg x = some (.ref a)) : PySem.W.exmOne K (.ref a) c = some b := by
  have hm : (x, b) ∈ tb := PySem.mem_of_lookup e
  obtain ⟨a', h1, h2⟩ := h _ hm
  have h1' : mg x = some (.ref a') := h1
  rw [ha] at h1'
  cases h1'
  exact h2
/-- try: b except c as e (slot i): s, which returns -/
def xTry1 (tb : Tb) (i : Nat) (b s : SS) : SS := fun e C => match b e C with
  | some (.ex c p e1 C1) => match tb.lookup c with
    | some true => match p with
      | some (f, d) => if i < e1.length then match s (e1.set i (some (.err c f d))) C1 with
        | some (.ret d2 C2) => some (.ret d2 C2)
        | _ => none
        else none
      | none => none
    | some false => some (.ex c p e1 C1)
    | none => none
  | o => o
theorem sc_try1 {x n : Str} {c : Value} {i : Nat} {body suite : List Stmt} {b₀ : Stmt} {np pos pos' : Pos} {tb : Tb} {b s : SS} (hs : X.stack = X.env :: X.outer) (hf : X.env.frame = some X.env.locals) (hN : X.N.Nodup) (hi : X.N[i]? = some n) (hln : X.env.kindOf n = some .local) (hc : Names X x c) (tk : Takes X W.w) (hx : W.xc = none)
    (ct : Catch X.K X.mg c tb) (hb : ∀ (w : WX) (pn : List (Addr × Obj)) (xe : Value → Shared → Prop), Takes (X.tr pn xe) w → PassesOwn (model X.prog X.w) X.A X.env xe → SCs (X.tr pn xe) ⟨w, none⟩ body b)
    (hsu : ∀ (a : Addr) (oe : Obj) (cls : Value) (d : Option Addr) (pn : List (Addr × Obj)), Zc cls d oe → (∃ vs, oe.data = .fields vs) → SCs (X.suite a ((a, oe) :: pn)) ⟨fun _ _ _ _ => False, some (i, a, cls, d)⟩ (b₀ :: suite) s) :
    SC X W (.Try body [.ExceptHandler (some (.Name x np)) (some n) (b₀ :: suite) pos'] [] [] pos) (xTry1 tb i b s) :=
  ps_imp (ps_try_as (tb := fun w => tS X.K X.mg ⟨w, none⟩ b) (ts := fun a cls d => tS X.K X.mg ⟨fun _ _ _ _ => False, some (i, a, cls, d)⟩ s) (Wout := W.w) hs hf hN hi hln hc tk hb hsu) fun D σ H ⟨Hf, F, ρ, env, C, S0, E0, g⟩ => by
    refine ⟨Hf, F, ρ, env, C, S0, E0.plain, ?_⟩
    unfold xTry1 at g
    cases hb' : b env C with
    | none =>
      rw [hb'] at g
      exact g
    | some r =>
      rw [hb'] at g
      cases r with
      | nx e' C' => exact fun σ' H' Hf' ρ' e1 p1 s1 n1 => g σ' H' Hf' ρ' e1 p1 s1 ⟨n1.len, n1.at_, fun _ _ _ _ _ _ _ hxx => by rw [hx] at hxx; cases hxx⟩
      | ct e' C' => exact fun σ' H' Hf' ρ' e1 p1 s1 n1 => g σ' H' Hf' ρ' e1 p1 s1 ⟨n1.len, n1.at_, fun _ _ _ _ _ _ _ hxx => by rw [hx] at hxx; cases hxx⟩
      | bk e' C' => exact fun σ' H' Hf' ρ' e1 p1 s1 n1 => g σ' H' Hf' ρ' e1 p1 s1 ⟨n1.len, n1.at_, fun _ _ _ _ _ _ _ hxx => by rw [hx] at hxx; cases hxx⟩
      | ret d' C' => exact g
      | ex c' p e' C' =>
        refine fun cls dd σ' H' Hf' ρ' e1 p1 s1 n1 x1 => ?_
        obtain ⟨a, xa, xc, xp⟩ := x1
        simp only [] at g
        cases ht : tb.lookup c' with
        | none =>
          rw [ht] at g
          exact g.elim
        | some bb =>
          rw [ht] at g
          have em := ct.get ht xa
          refine ⟨bb, by rw [xc]; exact em, fun hbb a' ha' => ?_, fun hbb => ?_⟩
          · subst hbb
            cases p with
            | none => exact g.elim
            | some q =>
              obtain ⟨f, d⟩ := q
              obtain ⟨b', v, xb, xh, xd⟩ := xp
              simp only [] at g
              split at g
              · rename_i hlen
                refine ⟨Hf', F, ρ', e'.set i (some (.err c' f d)), C', s1, ⟨by rw [List.length_set, List.length_set]; exact n1.len, fun j dj hj hnj => ?_, fun j a2 cls2 dd2 c2 f2 d2 hxx hj => ?_⟩, ?_⟩
                · rcases set_some hj with ⟨rfl, rfl, hl⟩ | ⟨hij, hj⟩
                  · cases hnj
                  · rw [List.getElem?_set_ne hij]
                    exact n1.at_ j dj hj hnj
                · have hxx' := Option.some.inj hxx
                  simp only [Prod.mk.injEq] at hxx'
                  obtain ⟨rfl, rfl, rfl, rfl⟩ := hxx'
                  rcases set_some hj with ⟨_, hd, hl⟩ | ⟨hij, hj⟩
                  · cases hd
                    exact ⟨List.getElem?_set_self (by rw [n1.len]; exact hlen), b', a, v, xb, xc, xa, xh, xd⟩
                  · exact absurd rfl hij
                · cases hs' : s (e'.set i (some (.err c' f d))) C' with
                  | none =>
                    rw [hs'] at g
                    exact g
                  | some r =>
                    rw [hs'] at g
                    cases r with
                    | ret d2 C2 => exact fun v' H2 Hf2 ρ2 e2 p2 s2 d2 => g v' H2 Hf2 ρ2 (e1.trans e2) (p1.trans p2) s2 d2
                    | _ => exact g.elim
              · exact g.elim
          · subst hbb
            exact g cls dd σ' H' Hf' ρ' e1 p1 s1 ⟨n1.len, n1.at_, fun _ _ _ _ _ _ _ hxx => by rw [hx] at hxx; cases hxx⟩ ⟨a, xa, xc, xp⟩
end
/-! ### a def of the text -/
section
open PyProof.Rows
variable {P : Program} {w : World} {base : Heap}
theorem cal_of {x qual : Str} {st : Stmt} {f : Addr} {fd : FuncData} {N ps : List Str} {n k : Nat} {b : SS} (F : L2.Fun K x qual st f fd) (gF : mg x = some (.ref f)) (hb : Binds K fd ps []) (Sc : FnScope N ps (defScope st)) (hn : ps.length = n)
    (body : ∀ (cdv : Value) (A : Around) (outer : List PySem.Env) (s : Shared) (H : Hp) (E : XK), Room k (A.deeper (envOfC qual (defScope st) s.heap.objs.size f cdv)) → SCs (cxOf (L2.CX P w) P w K mg base N qual (defScope st) f cdv A outer s H E) (WF E) (defBody st) b) :
    Cal P w K mg base x n (k + 1) (xDef n N.length b) := by
  refine ⟨⟨f, fd, ps, gF, F.kp, hb, F.okX Sc (fun vs H Q E h => by rw [hn]; exact h.1) fun cdv A outer s H vs Q E hr h => ?_⟩, xDef_ar⟩
  exact ⟨_, body cdv A outer s H E hr, goDef h⟩
/-- what a body's context lets out -/
theorem takes_def {N : List Str} {qual : Str} {scope : Scope} {f : Addr} {cd : Value} {A : Around} {outer : List PySem.Env} {s : Shared} {H : Hp} {E : XK} : Takes (cxOf (L2.CX P w) P w K mg base N qual scope f cd A outer s H E) (WF E).w :=
  takes_of rfl rfl rfl rfl
end
end Sm
end
section
set_option maxRecDepth 100000
set_option maxHeartbeats 0
namespace Sm
open PySem L2
variable {K : PySem.W.Frag} {mg : Str → Option Value}

/-! ### operators of data -/
theorem Ans.here {Hf F : Hp} {ρ : List Addr} {C : Cells} {H : Hp} {d : D} {Q : VK} {v : V} (k : Ans K Hf F ρ C d Q) (S0 : SR K Hf F ρ C H) (h : Dat K Hf ρ v d) : Q v H := k v H Hf ρ (Same.refl _) (List.prefix_refl _) S0 h
theorem Ans.tup {Hf F : Hp} {ρ : List Addr} {C : Cells} {H : Hp} {ds : List D} {xs : List V} {Q : VK} (k : Ans K Hf F ρ C (.tup ds) Q) (S0 : SR K Hf F ρ C H) (h : Dats K Hf ρ xs ds) : ∀ p, H p = none → Q (.ref p) (upd H p (.tup xs)) := fun p hp => by
  obtain ⟨S1, e1⟩ := S0.new (o := .tup xs) hp
  exact k _ _ _ ρ e1 (List.prefix_refl _) S1 (.tup (.inl (.inl upd_same)) (h.mono e1 (List.prefix_refl _)))
theorem Ans.lst {Hf F : Hp} {ρ : List Addr} {C : Cells} {H : Hp} {ds : List D} {xs : List V} {Q : VK} (k : Ans K Hf F ρ C (.lst ds) Q) (S0 : SR K Hf F ρ C H) (h : Dats K Hf ρ xs ds) : ∀ p, H p = none → Q (.ref p) (upd H p (.lst xs)) := fun p hp => by
  obtain ⟨S1, e1⟩ := S0.new (o := .lst xs) hp
  exact k _ _ _ ρ e1 (List.prefix_refl _) S1 (.lst (.inl (.inl upd_same)) (h.mono e1 (List.prefix_refl _)))
theorem Vw.int {H Hf : Hp} {ρ : List Addr} {v : V} {i : Int} (h : Vw K H Hf ρ v (.int i)) : v = .int i := by
  cases h with
  | dat h => cases h; rfl
theorem Vw.bl {H Hf : Hp} {ρ : List Addr} {v : V} {i : Bool} (h : Vw K H Hf ρ v (.bl i)) : v = .bl i := by
  cases h with
  | dat h => cases h; rfl
theorem Vw.str {H Hf : Hp} {ρ : List Addr} {v : V} {i : Str} (h : Vw K H Hf ρ v (.str i)) : v = .str i := by
  cases h with
  | dat h => cases h; rfl
theorem Vw.non {H Hf : Hp} {ρ : List Addr} {v : V} (h : Vw K H Hf ρ v .non) : v = .non := by
  cases h with
  | dat h => cases h; rfl
theorem Vw.tup {H Hf : Hp} {ρ : List Addr} {v : V} {ds : List D} (e : Same Hf H) (h : Vw K H Hf ρ v (.tup ds)) : ∃ a xs, v = .ref a ∧ SqT K H a xs ∧ SqT K Hf a xs ∧ Dats K Hf ρ xs ds := by
  cases h with
  | dat h =>
    cases h with
    | tup h hs => exact ⟨_, _, rfl, same_t e h, h, hs⟩
theorem Vw.lst {H Hf : Hp} {ρ : List Addr} {v : V} {ds : List D} (e : Same Hf H) (h : Vw K H Hf ρ v (.lst ds)) : ∃ a xs, v = .ref a ∧ SqL K H a xs ∧ Dats K Hf ρ xs ds := by
  cases h with
  | dat h =>
    cases h with
    | lst h hs => exact ⟨_, _, rfl, same_l e h, hs⟩
  | now h hs => exact ⟨_, _, rfl, h, hs⟩
def i2 (f : Int → Int → Option D) : D → D → Option D
  | .int a, .int b => f a b
  | _, _ => none
/-- a rule over ints -/
theorem op2_i {C : Int → Int → Prop} {g : Int → Int → V} {f : Int → Int → Option D} (h : ∀ a b d, f a b = some d → C a b ∧ ∀ Hf ρ, Dat K Hf ρ (g a b) d) : Op2 K (rI C g) (i2 f) := by
  intro Hf F ρ Cs H x y a b d Q S0 ha hb he k
  cases a with
  | int i =>
    cases b with
    | int j =>
      obtain ⟨h1, h2⟩ := h i j d he
      exact ⟨i, j, ha.int, hb.int, h1, k.here S0 (h2 _ _)⟩
    | _ => cases he
  | _ => cases he
theorem op2_i0 {g : Int → Int → V} {f : Int → Int → Option D} (h : ∀ a b d, f a b = some d → ∀ Hf ρ, Dat K Hf ρ (g a b) d) : Op2 K (rI0 g) (i2 f) := by
  intro Hf F ρ Cs H x y a b d Q S0 ha hb he k
  cases a with
  | int i =>
    cases b with
    | int j => exact ⟨i, j, ha.int, hb.int, k.here S0 (h i j d he _ _)⟩
    | _ => cases he
  | _ => cases he
def dSub : D → D → Option D := i2 fun a b => some (.int (a - b))
theorem op_dSub : Op2 K (rI0 fun i j => .int (i - j)) dSub := op2_i0 fun a b d e Hf ρ => by cases e; exact .int _
def dLt : D → D → Option D := i2 fun a b => some (.bl (decide (a < b)))
def dLe : D → D → Option D := i2 fun a b => some (.bl (decide (a ≤ b)))
def dGt : D → D → Option D := i2 fun a b => some (.bl (decide (b < a)))
def dGe : D → D → Option D := i2 fun a b => some (.bl (decide (b ≤ a)))
theorem op_dLt : Op2 K (rI0 fun i j => .bl (decide (i < j))) dLt := op2_i0 fun a b d e Hf ρ => by cases e; exact .bl _
theorem op_dLe : Op2 K (rI0 fun i j => .bl (decide (i ≤ j))) dLe := op2_i0 fun a b d e Hf ρ => by cases e; exact .bl _
theorem op_dGt : Op2 K (rI0 fun i j => .bl (decide (j < i))) dGt := op2_i0 fun a b d e Hf ρ => by cases e; exact .bl _
theorem op_dGe : Op2 K (rI0 fun i j => .bl (decide (j ≤ i))) dGe := op2_i0 fun a b d e Hf ρ => by cases e; exact .bl _
/-- a % b, b above 0 -/
def dMod : D → D → Option D := i2 fun a b => if 0 < b then some (.int (a % b)) else none
theorem op_dMod : Op2 K (rI (fun _ j => 0 < j) fun i j => .int (i % j)) dMod := op2_i fun a b d e => by
  by_cases h : 0 < b
  · rw [if_pos h] at e
    cases e
    exact ⟨h, fun _ _ => .int _⟩
  · rw [if_neg h] at e
    cases e
/-- a // b, b above 0 and not too long -/
def dDiv : D → D → Option D := i2 fun a b => if 0 < b ∧ b.natAbs < 2 ^ 8000 then some (.int (a / b)) else none
theorem op_dDiv : Op2 K (rI CDivW fun i j => .int (i / j)) dDiv := op2_i fun a b d e => by
  by_cases h : 0 < b ∧ b.natAbs < 2 ^ 8000
  · rw [if_pos h] at e
    cases e
    exact ⟨wide_div h.1 h.2 (by decide) (by decide), fun _ _ => .int _⟩
  · rw [if_neg h] at e
    cases e
/-- a ** b -/
def dPow : D → D → Option D := i2 fun a b => if 0 ≤ b ∧ (Builtin.Int.intBits a : Int) * b ≤ 2 ^ 27 then some (.int (a ^ b.toNat)) else none
def CPowW (i j : Int) : Prop := 0 ≤ j ∧ (Builtin.Int.intBits i : Int) * j ≤ 2 ^ 27
theorem op_powW {X : Cx} : OpR X (binaryOp .Pow) (rI CPowW fun i j => .int (i ^ j.toNat)) := opI fun _ _ _ _ _ _ _ hc q => PyProof.Rows.pow_int hc.1 hc.2 q
theorem op_dPow : Op2 K (rI CPowW fun i j => .int (i ^ j.toNat)) dPow := op2_i fun a b d e => by
  by_cases h : 0 ≤ b ∧ (Builtin.Int.intBits a : Int) * b ≤ 2 ^ 27
  · rw [if_pos h] at e
    cases e
    exact ⟨h, fun _ _ => .int _⟩
  · rw [if_neg h] at e
    cases e
/-- a * b: ints that are not too long, or a tuple some times -/
def dMul : D → D → Option D
  | .int a, .int b => if (a.natAbs < 2 ^ 400000 ∧ b.natAbs < 2 ^ 400000) then some (.int (a * b)) else none
  | .tup ds, .int b => if ds ≠ [] ∧ 2 ≤ b ∧ b ≤ 1000 ∧ ds.length ≤ 1000 then some (.tup (List.replicate b.toNat ds).flatten) else none
  | _, _ => none
theorem Dats.rep {H : Hp} {ρ : List Addr} {vs : List V} {ds : List D} (h : Dats K H ρ vs ds) : ∀ n, Dats K H ρ (List.replicate n vs).flatten (List.replicate n ds).flatten
  | 0 => .nil
  | n + 1 => by
    rw [List.replicate_succ, List.replicate_succ, List.flatten_cons, List.flatten_cons]
    exact h.app (Dats.rep h n)
theorem op_dMul : Op2 K (fun x y H Q => rI CMulW (fun i j => .int (i * j)) x y H Q ∨ rRepT K x y H Q) dMul := by
  intro Hf F ρ Cs H x y a b d Q S0 ha hb he k
  cases a with
  | int i =>
    cases b with
    | int j =>
      refine .inl ⟨i, j, ha.int, hb.int, ?_⟩
      unfold dMul at he
      simp only [] at he
      split at he
      · rename_i h
        have e := Option.some.inj he
        subst e
        exact ⟨wide_mul h.1 h.2 (by decide) (by decide) (by decide), k.here S0 (.int _)⟩
      · cases he
    | _ => cases he
  | tup ds =>
    cases b with
    | int j =>
      refine .inr ?_
      unfold dMul at he
      simp only [] at he
      split at he
      · rename_i h
        have e := Option.some.inj he
        subst e
        obtain ⟨a, xs, rfl, hx, _, hs⟩ := ha.tup S0.ex
        have hl := hs.len
        refine ⟨a, j, xs, rfl, hb.int, hx, fun z => h.1 ?_, h.2.1, h.2.2.1, by omega, k.tup S0 (hs.rep _)⟩
        subst z
        cases hs
        rfl
      · cases he
    | _ => cases he
  | _ => cases he
/-- a + b -/
def dAdd : D → D → Option D
  | .int a, .int b => some (.int (a + b))
  | .str a, .str b => if a.length + b.length ≤ 1000000 then some (.str (a ++ b)) else none
  | .tup a, .tup b => if a.length + b.length ≤ 1000000 then some (.tup (a ++ b)) else none
  | .lst a, .lst b => if a.length + b.length ≤ 1000000 then some (.lst (a ++ b)) else none
  | _, _ => none
def rCatL (K : PySem.W.Frag) : R2 := fun x y H Q => ∃ a b xs ys, x = .ref a ∧ y = .ref b ∧ SqL K H a xs ∧ SqL K H b ys ∧ xs.length + ys.length ≤ sizeLine ∧ ∀ p, H p = none → Q (.ref p) (upd H p (.lst (xs ++ ys)))
theorem op_catL {X : Cx} : OpR X (binaryOp .Add) (rCatL X.K) := by
  intro pins s σ H x y v u Q I rx ry h
  obtain ⟨a, b, xs, ys, rfl, rfl, ha, hb, hz, q⟩ := h
  cases rx
  cases ry
  obtain ⟨its, r1, p1, _⟩ := I.list ha
  obtain ⟨its2, r2, p2, _⟩ := I.list hb
  obtain ⟨⟨c1, d1, t1, s1⟩, h1, e1, n1, f1⟩ := p1.isList
  obtain ⟨⟨c2, d2, t2, s2⟩, h2, e2, n2, f2⟩ := p2.isList
  simp only at e1 f1 e2 f2
  subst e1 f1 e2 f2
  have l1 := r1.length
  have l2 := r2.length
  refine PySem.concat_meets ⟨_, h1, rfl⟩ ⟨_, h2, rfl⟩ PySem.noFill_list_add PySem.seq_list_add PySem.F.slot_list_add PySem.F.entry_list_add (PySem.F.args_list_add_2 _ _) (PyProof.Rows.list_addW a b its.toArray its2.toArray n1 n2 d1 d2 s1 s2 (by rw [List.size_toArray, List.size_toArray]; omega)) ⟨h1, h2, ?_⟩
  rw [show its.toArray ++ its2.toArray = (its ++ its2).toArray by simp]
  exact ⟨.ref _, _, I.lnew (t' := s.toks) (r1.append r2) (by rw [List.length_append]; exact hz), rfl, q _ I.fresh⟩
theorem small_ok {n : Nat} (h : n ≤ 1000000) : n ≤ sizeLine := Nat.le_trans h (by decide)
abbrev rAddAny (K : PySem.W.Frag) : R2 := fun x y H Q => rI0 (fun i j => .int (i + j)) x y H Q ∨ ((∃ i j, x = .str i ∧ y = .str j ∧ i.length + j.length ≤ sizeLine ∧ Q (.str (i ++ j)) H) ∨ (rCatA K x y H Q ∨ rCatL K x y H Q))
theorem or_add {X : Cx} : OpR X (binaryOp .Add) (rAddAny X.K) := op_add.or (op_add_str.or (op_catA.or op_catL))
theorem op_dAdd : Op2 K (rAddAny K) dAdd := by
  intro Hf F ρ Cs H x y a b d Q S0 ha hb he k
  cases a with
  | int i =>
    cases b with
    | int j =>
      have e := Option.some.inj he
      subst e
      exact .inl ⟨i, j, ha.int, hb.int, k.here S0 (.int _)⟩
    | _ => cases he
  | str i =>
    cases b with
    | str j =>
      unfold dAdd at he
      simp only [] at he
      split at he
      · have e := Option.some.inj he
        subst e
        exact .inr (.inl ⟨i, j, ha.str, hb.str, small_ok (by assumption), k.here S0 (.str _)⟩)
      · cases he
    | _ => cases he
  | tup as =>
    cases b with
    | tup bs =>
      unfold dAdd at he
      simp only [] at he
      split at he
      · have e := Option.some.inj he
        subst e
        obtain ⟨a, xs, rfl, hx, hxf, hs⟩ := ha.tup S0.ex
        obtain ⟨b, ys, rfl, hy, hyf, ht⟩ := hb.tup S0.ex
        have l1 := hs.len
        have l2 := ht.len
        refine .inr (.inr (.inl ⟨a, b, xs, ys, rfl, rfl, hx, hy, small_ok (by omega), fun z => ?_, fun _ z => ?_, fun _ _ => k.tup S0 (hs.app ht)⟩))
        · subst z
          cases hs
          exact k.here S0 (.tup hyf ht)
        · subst z
          cases ht
          rw [List.append_nil] at k
          exact k.here S0 (.tup hxf hs)
      · cases he
    | _ => cases he
  | lst as =>
    cases b with
    | lst bs =>
      unfold dAdd at he
      simp only [] at he
      split at he
      · have e := Option.some.inj he
        subst e
        obtain ⟨a, xs, rfl, hx, hs⟩ := ha.lst S0.ex
        obtain ⟨b, ys, rfl, hy, ht⟩ := hb.lst S0.ex
        have l1 := hs.len
        have l2 := ht.len
        exact .inr (.inr (.inr ⟨a, b, xs, ys, rfl, rfl, hx, hy, small_ok (by omega), k.lst S0 (hs.app ht)⟩))
      · cases he
    | _ => cases he
  | _ => cases he
/-! ### subscripts -/
def dIx : D → D → Option D
  | .lst ds, .int i => atI ds i
  | .tup ds, .int i => atI ds i
  | _, _ => none
theorem atI_dats {H : Hp} {ρ : List Addr} {xs : List V} {ds : List D} {i : Int} {d : D} (h : Dats K H ρ xs ds) (e : atI ds i = some d) : ∃ v, atI xs i = some v ∧ Dat K H ρ v d := by
  unfold atI at e ⊢
  rw [h.len]
  cases q : ixN ds.length i with
  | none =>
    rw [q] at e
    cases e
  | some j =>
    rw [q] at e
    obtain ⟨v, h1, h2⟩ := h.get (show ds[j]? = some d from e)
    exact ⟨v, h1, h2⟩
theorem op_dIx : Op2 K (fun x y H Q => rIxL K x y H Q ∨ rIxT K x y H Q) dIx := by
  intro Hf F ρ Cs H x y a b d Q S0 ha hb he k
  cases a with
  | lst ds =>
    cases b with
    | int i =>
      obtain ⟨a, xs, rfl, hx, hs⟩ := ha.lst S0.ex
      obtain ⟨v, h1, h2⟩ := atI_dats hs he
      exact .inl ⟨a, xs, i, v, rfl, hb.int, hx, h1, k.here S0 h2⟩
    | _ => cases he
  | tup ds =>
    cases b with
    | int i =>
      obtain ⟨a, xs, rfl, hx, _, hs⟩ := ha.tup S0.ex
      obtain ⟨v, h1, h2⟩ := atI_dats hs he
      exact .inr ⟨a, xs, i, v, rfl, hb.int, hx, h1, k.here S0 h2⟩
    | _ => cases he
  | _ => cases he
theorem ix_any {X : Cx} : IxR X (fun x y H Q => rIxL X.K x y H Q ∨ rIxT X.K x y H Q) := ix_list.or ix_tup
/-! ### is None -/
def dIs : D → D → Option D
  | .err _ _ _, _ => none
  | .opq _, _ => none
  | .non, .non => some (.bl true)
  | _, .non => some (.bl false)
  | _, _ => none
def dIsNot : D → D → Option D := fun a b => match dIs a b with
  | some (.bl k) => some (.bl (!k))
  | _ => none
theorem dIs_ok {Hf F H : Hp} {ρ : List Addr} {Cs : Cells} {x y : V} {a b d : D} (S0 : SR K Hf F ρ Cs H) (ha : Vw K H Hf ρ x a) (hb : Vw K H Hf ρ y b) (he : dIs a b = some d) : y = .non ∧ d = .bl (decide (x = .non)) := by
  cases b with
  | non =>
    refine ⟨hb.non, ?_⟩
    cases ha with
    | dat h =>
      cases h <;> first
        | (cases he; rfl)
        | cases he
    | now h hs => cases he; rfl
  | _ => cases a <;> cases he
theorem op_dIs : Op2 K (fun x y H Q => y = .non ∧ Q (.bl (decide (x = .non))) H) dIs := by
  intro Hf F ρ Cs H x y a b d Q S0 ha hb he k
  obtain ⟨h1, h2⟩ := dIs_ok S0 ha hb he
  subst h2
  exact ⟨h1, k.here S0 (.bl _)⟩
theorem op_dIsNot : Op2 K (fun x y H Q => y = .non ∧ Q (.bl (!decide (x = .non))) H) dIsNot := by
  intro Hf F ρ Cs H x y a b d Q S0 ha hb he k
  unfold dIsNot at he
  split at he
  · rename_i kk hh
    obtain ⟨h1, h2⟩ := dIs_ok S0 ha hb hh
    cases h2
    have e := Option.some.inj he
    subst e
    exact ⟨h1, k.here S0 (.bl _)⟩
  · cases he
/-! ### == and != of data of any depth -/
mutual
def toP : D → PyData
  | .non => .none
  | .bl b => .bool b
  | .int i => .int i
  | .str x => .str x
  | .tup ds => .tuple (toPs ds)
  | .lst ds => .list (toPs ds)
  | _ => .none
def toPs : List D → List PyData
  | [] => []
  | d :: ds => toP d :: toPs ds
end
mutual
/-- data that == reads, of nesting up to n -/
def okE : D → Nat → Bool
  | .non, _ => true
  | .bl _, _ => true
  | .int _, _ => true
  | .str x, _ => PySem.PyData.strOk x
  | .tup ds, n => match n with
    | 0 => false
    | n + 1 => okEs ds n
  | .lst ds, n => match n with
    | 0 => false
    | n + 1 => okEs ds n
  | _, _ => false
def okEs : List D → Nat → Bool
  | [], _ => true
  | d :: ds, n => okE d n && okEs ds n
end
mutual
def eqd : D → D → Bool
  | .non, .non => true
  | .bl a, .bl b => a == b
  | .bl a, .int j => (if a then 1 else 0) == j
  | .int i, .bl b => i == (if b then 1 else 0)
  | .int i, .int j => i == j
  | .str x, .str y => x == y
  | .tup a, .tup b => eqds a b
  | .lst a, .lst b => eqds a b
  | _, _ => false
def eqds : List D → List D → Bool
  | [], [] => true
  | a :: r, b :: t => eqd a b && eqds r t
  | _, _ => false
end
mutual
theorem okE_lay : ∀ (d : D) (n : Nat), okE d n = true → (toP d).canLay0 = true ∧ (toP d).depth ≤ n
  | .non, n, h => ⟨rfl, Nat.zero_le _⟩
  | .bl b, n, h => ⟨rfl, Nat.zero_le _⟩
  | .int b, n, h => ⟨rfl, Nat.zero_le _⟩
  | .str x, n, h => ⟨by simpa [okE, toP, PyData.canLay0] using h, Nat.zero_le _⟩
  | .tup ds, 0, h => by simp [okE] at h
  | .tup ds, n + 1, h => by
    obtain ⟨h1, h2⟩ := okEs_lay ds n (by simpa [okE] using h)
    exact ⟨by simpa [toP, PyData.canLay0] using h1, by simp only [toP, PyData.depth]; omega⟩
  | .lst ds, 0, h => by simp [okE] at h
  | .lst ds, n + 1, h => by
    obtain ⟨h1, h2⟩ := okEs_lay ds n (by simpa [okE] using h)
    exact ⟨by simpa [toP, PyData.canLay0] using h1, by simp only [toP, PyData.depth]; omega⟩
  | .cel _, n, h => by simp [okE] at h
  | .opq _, n, h => by simp [okE] at h
  | .err _ _ _, n, h => by simp [okE] at h
  | .dk _ _, n, h => by simp [okE] at h
  | .dt _ _, n, h => by simp [okE] at h
theorem okEs_lay : ∀ (ds : List D) (n : Nat), okEs ds n = true → PyData.canLayAll0 (toPs ds) = true ∧ PyData.depthAll (toPs ds) ≤ n
  | [], n, h => ⟨rfl, Nat.zero_le _⟩
  | d :: ds, n, h => by
    simp [okEs] at h
    obtain ⟨h1, h2⟩ := okE_lay d n h.1
    obtain ⟨h3, h4⟩ := okEs_lay ds n h.2
    exact ⟨by simp [toPs, PyData.canLayAll0, h1, h3], by simp only [toPs, PyData.depthAll]; omega⟩
end
theorem okE_shaped {d : D} (h : okE d 60 = true) : SeqAt.shaped (toP d) = true := by
  obtain ⟨h1, h2⟩ := okE_lay d 60 h
  unfold SeqAt.shaped
  rw [h1, Bool.true_and]
  exact decide_eq_true (by omega)
mutual
theorem eqd_eqv : ∀ (a b : D) (n m : Nat), okE a n = true → okE b m = true → eqd a b = PyData.eqv (toP a) (toP b)
  | .non, b, n, m, ha, hb => by cases b <;> first | rfl | (cases m <;> simp [okE] at hb)
  | .bl x, b, n, m, ha, hb => by cases b <;> first | rfl | (cases m <;> simp [okE] at hb)
  | .int x, b, n, m, ha, hb => by cases b <;> first | rfl | (cases m <;> simp [okE] at hb)
  | .str x, b, n, m, ha, hb => by cases b <;> first | rfl | (cases m <;> simp [okE] at hb)
  | .tup x, b, n, m, ha, hb => by
    cases b with
    | tup y =>
      cases n with
      | zero => simp [okE] at ha
      | succ n =>
        cases m with
        | zero => simp [okE] at hb
        | succ m => simpa [eqd, toP, PyData.eqv] using eqds_eqv x y n m (by simpa [okE] using ha) (by simpa [okE] using hb)
    | _ => first | rfl | (cases m <;> simp [okE] at hb)
  | .lst x, b, n, m, ha, hb => by
    cases b with
    | lst y =>
      cases n with
      | zero => simp [okE] at ha
      | succ n =>
        cases m with
        | zero => simp [okE] at hb
        | succ m => simpa [eqd, toP, PyData.eqv] using eqds_eqv x y n m (by simpa [okE] using ha) (by simpa [okE] using hb)
    | _ => first | rfl | (cases m <;> simp [okE] at hb)
  | .cel _, b, n, m, ha, hb => by cases n <;> simp [okE] at ha
  | .opq _, b, n, m, ha, hb => by cases n <;> simp [okE] at ha
  | .err _ _ _, b, n, m, ha, hb => by cases n <;> simp [okE] at ha
  | .dk _ _, b, n, m, ha, hb => by cases n <;> simp [okE] at ha
  | .dt _ _, b, n, m, ha, hb => by cases n <;> simp [okE] at ha
theorem eqds_eqv : ∀ (a b : List D) (n m : Nat), okEs a n = true → okEs b m = true → eqds a b = PyData.eqvAll (toPs a) (toPs b)
  | [], [], n, m, ha, hb => rfl
  | [], b :: t, n, m, ha, hb => rfl
  | a :: r, [], n, m, ha, hb => rfl
  | a :: r, b :: t, n, m, ha, hb => by
    simp [okEs] at ha hb
    simp only [eqds, toPs, PyData.eqvAll]
    rw [eqd_eqv a b n m ha.1 hb.1, eqds_eqv r t n m ha.2 hb.2]
end
mutual
theorem Dat.dp {H : Hp} {ρ : List Addr} {v : V} {d : D} (q : Dat K H ρ v d) (n : Nat) (h : okE d n = true) : Dp K H v (toP d) :=
  match q with
  | .non => .non
  | .bl b => .bl b
  | .int i => .int i
  | .str x => .str x
  | .tup hx hs => by
    cases n with
    | zero => simp [okE] at h
    | succ n => exact .tup hx (Dats.dp hs n (by simpa [okE] using h))
  | .lst hx hs => by
    cases n with
    | zero => simp [okE] at h
    | succ n => exact .lst hx (Dats.dp hs n (by simpa [okE] using h))
  | .cel _ => by cases n <;> simp [okE] at h
  | .opq _ => by cases n <;> simp [okE] at h
  | .dk _ _ _ => by cases n <;> simp [okE] at h
  | .dt _ _ _ => by cases n <;> simp [okE] at h
theorem Dats.dp {H : Hp} {ρ : List Addr} {vs : List V} {ds : List D} (q : Dats K H ρ vs ds) (n : Nat) (h : okEs ds n = true) : DpAll K H vs (toPs ds) :=
  match q with
  | .nil => .nil
  | .cons hx hs => .cons (Dat.dp hx n (by simp [okEs] at h; exact h.1)) (Dats.dp hs n (by simp [okEs] at h; exact h.2))
end
theorem Vw.dp {H Hf : Hp} {ρ : List Addr} {v : V} {d : D} (e : Same Hf H) (q : Vw K H Hf ρ v d) (h : okE d 60 = true) : Dp K H v (toP d) := by
  cases q with
  | dat q => exact (q.mono e (List.prefix_refl _)).dp 60 h
  | now hx hs => exact .lst hx ((hs.mono e (List.prefix_refl _)).dp 59 (by simpa [okE] using h))
def dEq : D → D → Option D := fun a b => if okE a 60 = true ∧ okE b 60 = true then some (.bl (eqd a b)) else none
def dNe : D → D → Option D := fun a b => if okE a 60 = true ∧ okE b 60 = true then some (.bl (!eqd a b)) else none
theorem op_dEq : Op2 K (rEqD K) dEq := by
  intro Hf F ρ Cs H x y a b d Q S0 ha hb he k
  unfold dEq at he
  split at he
  · rename_i h
    have e := Option.some.inj he
    subst e
    refine ⟨toP a, toP b, ha.dp S0.ex h.1, hb.dp S0.ex h.2, okE_shaped h.1, okE_shaped h.2, ?_⟩
    rw [← eqd_eqv a b 60 60 h.1 h.2]
    exact k.here S0 (.bl _)
  · cases he
theorem op_dNe : Op2 K (rNeD K) dNe := by
  intro Hf F ρ Cs H x y a b d Q S0 ha hb he k
  unfold dNe at he
  split at he
  · rename_i h
    have e := Option.some.inj he
    subst e
    refine ⟨toP a, toP b, ha.dp S0.ex h.1, hb.dp S0.ex h.2, okE_shaped h.1, okE_shaped h.2, ?_⟩
    rw [← eqd_eqv a b 60 60 h.1 h.2]
    exact k.here S0 (.bl _)
  · cases he
/-! ### one operand -/
def Op1 (K : PySem.W.Frag) (r : V → Hp → VK → Prop) (f : D → Option D) : Prop := ∀ (Hf F : Hp) (ρ : List Addr) (C : Cells) (H : Hp) (x : V) (a d : D) (Q : VK), SR K Hf F ρ C H → Vw K H Hf ρ x a → f a = some d → Ans K Hf F ρ C d Q → r x H Q
def x1 (f : D → Option D) (a : S D) : S D := S.bind a fun x => fun env C => S.opt (f (vw C x)) env C
section
variable {X : Cx} {W : Wh}
theorem se_un {op : UnaryOp} {a : Expr} {pos : Pos} {r : V → Hp → VK → Prop} {f : D → Option D} {sa : S D} (ho : UnR X (unaryOp op) r) (hf : Op1 X.K r f) (ha : SE X W a sa) : SE X W (.UnaryOp op a pos) (x1 f sa) :=
  pe_imp (pe_un ho ha) fun σ H Q ⟨Hf, F, ρ, env, C, S0, E0, g⟩ => ⟨Hf, F, ρ, env, C, S0, E0, (Go.bind g).mono fun x H1 ⟨Hf1, ρ1, C1, a, e1, p1, S1, A1, g1⟩ => by
    obtain ⟨d, hd, g2⟩ := Go.opt g1
    exact hf Hf1 F ρ1 C1 H1 x _ d Q S1 (vw_ok S1 A1) hd fun v H' Hf' ρ' e3 p3 S3 D3 => g2 v H' Hf' ρ' e3 p3 S3 D3⟩
end
def dNeg : D → Option D
  | .int a => some (.int (-a))
  | _ => none
theorem op_dNeg : Op1 K (rU fun i => .int (-i)) dNeg := by
  intro Hf F ρ Cs H x a d Q S0 ha he k
  cases a with
  | int i =>
    cases he
    exact ⟨i, ha.int, k.here S0 (.int _)⟩
  | _ => cases he
/-! ### calls of built-ins -/
/-- the arguments as they are read now -/
inductive Vws (K : PySem.W.Frag) (H : Hp) (Hf : Hp) (ρ : List Addr) : List V → List D → Prop
  | nil : Vws K H Hf ρ [] []
  | cons {v : V} {vs : List V} {d : D} {ds : List D} (h : Vw K H Hf ρ v d) (hs : Vws K H Hf ρ vs ds) : Vws K H Hf ρ (v :: vs) (d :: ds)
theorem vws_ok {Hf F : Hp} {ρ : List Addr} {C : Cells} {H : Hp} (S0 : SR K Hf F ρ C H) : ∀ {vs : List V} {ds : List D}, Dats K Hf ρ vs ds → Vws K H Hf ρ vs (ds.map (vw C))
  | _, _, .nil => .nil
  | _, _, .cons h hs => .cons (vw_ok S0 h) (vws_ok S0 hs)
def OpN (K : PySem.W.Frag) (r : List V → Hp → VK → Prop) (f : List D → Option D) : Prop := ∀ (Hf F : Hp) (ρ : List Addr) (C : Cells) (H : Hp) (xs : List V) (as : List D) (d : D) (Q : VK), SR K Hf F ρ C H → Vws K H Hf ρ xs as → f as = some d → Ans K Hf F ρ C d Q → r xs H Q
def xN (f : List D → Option D) (a : S (List D)) : S D := S.bind a fun xs => fun env C => S.opt (f (xs.map (vw C))) env C
theorem goN {X : Cx} {W : Wh} {r : List V → Hp → VK → Prop} {f : List D → Option D} {sa : S (List D)} (hf : OpN X.K r f) {σ : L2.St} {H : Hp} {Q : VK} (h : tE X.K X.mg W (xN f sa) σ H Q) : tCB r (tA X.K X.mg W sa) σ H Q := by
  obtain ⟨Hf, F, ρ, env, C, S0, E0, g⟩ := h
  refine ⟨Hf, F, ρ, env, C, S0, E0, (Go.bind g).mono fun xs H1 ⟨Hf1, ρ1, C1, as, e1, p1, S1, A1, g1⟩ => ?_⟩
  obtain ⟨d, hd, g2⟩ := Go.opt g1
  exact hf Hf1 F ρ1 C1 H1 xs _ d Q S1 (vws_ok S1 A1) hd fun v H' Hf' ρ' e3 p3 S3 D3 => g2 v H' Hf' ρ' e3 p3 S3 D3
theorem se_bi {X : Cx} {W : Wh} {x : Str} {p pos : Pos} {es : List Expr} {r : List V → Hp → VK → Prop} {f : List D → Option D} {s : S (List D)} (hf : OpN X.K r f) (h : PE X (.Call (.Name x p) es [] pos) (tCB r (tA X.K X.mg W s))) : SE X W (.Call (.Name x p) es [] pos) (xN f s) :=
  pe_imp h fun _ _ _ q => goN hf q
def dAbs : List D → Option D
  | [.int a] => some (.int (if a < 0 then -a else a))
  | _ => none
theorem op_dAbs : OpN K (fun xs H Q => ∃ i, xs = [.int i] ∧ Q (.int (if i < 0 then -i else i)) H) dAbs := by
  intro Hf F ρ Cs H xs as d Q S0 ha he k
  unfold dAbs at he
  split at he
  · cases he
    cases ha with
    | cons h hs =>
      cases hs
      exact ⟨_, by rw [h.int], k.here S0 (.int _)⟩
  · cases he
def dInt : List D → Option D
  | [.int a] => some (.int a)
  | [.bl a] => some (.int (if a then 1 else 0))
  | _ => none
theorem op_dInt : OpN K (fun xs H Q => (∃ i, xs = [.int i] ∧ Q (.int i) H) ∨ ∃ k, xs = [.bl k] ∧ Q (.int (if k then 1 else 0)) H) dInt := by
  intro Hf F ρ Cs H xs as d Q S0 ha he k
  unfold dInt at he
  split at he
  · cases he
    cases ha with
    | cons h hs =>
      cases hs
      exact .inl ⟨_, by rw [h.int], k.here S0 (.int _)⟩
  · cases he
    cases ha with
    | cons h hs =>
      cases hs
      exact .inr ⟨_, by rw [h.bl], k.here S0 (.int _)⟩
  · cases he
def dLen : List D → Option D
  | [.lst ds] => some (.int ds.length)
  | [.tup ds] => some (.int ds.length)
  | _ => none
theorem op_dLen : OpN K (fun xs H Q => ∃ p ys, xs = [.ref p] ∧ (SqL K H p ys ∨ SqT K H p ys) ∧ Q (.int ys.length) H) dLen := by
  intro Hf F ρ Cs H xs as d Q S0 ha he k
  unfold dLen at he
  split at he
  · cases he
    cases ha with
    | cons h hs =>
      cases hs
      obtain ⟨a, xs, rfl, hx, hd⟩ := h.lst S0.ex
      exact ⟨a, xs, rfl, .inl hx, k.here S0 (by rw [hd.len]; exact .int _)⟩
  · cases he
    cases ha with
    | cons h hs =>
      cases hs
      obtain ⟨a, xs, rfl, hx, _, hd⟩ := h.tup S0.ex
      exact ⟨a, xs, rfl, .inr hx, k.here S0 (by rw [hd.len]; exact .int _)⟩
  · cases he
def dMin2 : List D → Option D
  | [.int a, .int b] => some (.int (if b < a then b else a))
  | _ => none
def dMax2 : List D → Option D
  | [.int a, .int b] => some (.int (if b > a then b else a))
  | _ => none
theorem op_dMin2 : OpN K (fun xs H Q => ∃ i j, xs = [.int i, .int j] ∧ Q (.int (if j < i then j else i)) H) dMin2 := by
  intro Hf F ρ Cs H xs as d Q S0 ha he k
  unfold dMin2 at he
  split at he
  · cases he
    cases ha with
    | cons h hs =>
      cases hs with
      | cons h2 hs =>
        cases hs
        exact ⟨_, _, by rw [h.int, h2.int], k.here S0 (.int _)⟩
  · cases he
theorem op_dMax2 : OpN K (fun xs H Q => ∃ i j, xs = [.int i, .int j] ∧ Q (.int (if j > i then j else i)) H) dMax2 := by
  intro Hf F ρ Cs H xs as d Q S0 ha he k
  unfold dMax2 at he
  split at he
  · cases he
    cases ha with
    | cons h hs =>
      cases hs with
      | cons h2 hs =>
        cases hs
        exact ⟨_, _, by rw [h.int, h2.int], k.here S0 (.int _)⟩
  · cases he
def dGcd : List D → Option D
  | [.int a, .int b] => some (.int (Nat.gcd a.natAbs b.natAbs : Nat))
  | _ => none
theorem op_dGcd : OpN K rGcd dGcd := by
  intro Hf F ρ Cs H xs as d Q S0 ha he k
  unfold dGcd at he
  split at he
  · cases he
    cases ha with
    | cons h hs =>
      cases hs with
      | cons h2 hs =>
        cases hs
        exact ⟨_, _, by rw [h.int, h2.int], k.here S0 (.int _)⟩
  · cases he
/-- tuple(xs) -/
def dTuple : List D → Option D
  | [.lst ds] => some (.tup ds)
  | [.tup ds] => some (.tup ds)
  | _ => none
theorem op_dTuple : OpN K (fun xs H Q => ∃ p ys, xs = [.ref p] ∧ ((SqL K H p ys ∧ ∀ l, H l = none → Q (.ref l) (upd H l (.tup ys))) ∨ (SqT K H p ys ∧ Q (.ref p) H))) dTuple := by
  intro Hf F ρ Cs H xs as d Q S0 ha he k
  unfold dTuple at he
  split at he
  · cases he
    cases ha with
    | cons h hs =>
      cases hs
      obtain ⟨a, xs, rfl, hx, hd⟩ := h.lst S0.ex
      exact ⟨a, xs, rfl, .inl ⟨hx, k.tup S0 hd⟩⟩
  · cases he
    cases ha with
    | cons h hs =>
      cases hs
      obtain ⟨a, xs, rfl, hx, hxf, hd⟩ := h.tup S0.ex
      exact ⟨a, xs, rfl, .inr ⟨hx, k.here S0 (.tup hxf hd)⟩⟩
  · cases he
/-- all(xs), any(xs), of truth values -/
def bls : List D → Option (List Bool)
  | [] => some []
  | .bl b :: ds => (bls ds).map (b :: ·)
  | _ => none
theorem bls_ok {H : Hp} {ρ : List Addr} : ∀ {xs : List V} {ds : List D} {bs : List Bool}, Dats K H ρ xs ds → bls ds = some bs → xs = bs.map V.bl
  | _, _, bs, .nil, h => by
    have e : [] = bs := Option.some.inj h
    subst e
    rfl
  | _, _, bs, .cons (d := d) (ds := ds) h hs, e => by
    cases d with
    | bl b =>
      have e' : (bls ds).map (b :: ·) = some bs := e
      cases q : bls ds with
      | none =>
        rw [q] at e'
        cases e'
      | some cs =>
        rw [q] at e'
        have e2 : b :: cs = bs := Option.some.inj e'
        subst e2
        cases h
        rw [bls_ok hs q]
        rfl
    | _ => cases e
def dAll : List D → Option D
  | [.lst ds] => (bls ds).map fun bs => .bl (bs.all id)
  | _ => none
def dAny : List D → Option D
  | [.lst ds] => (bls ds).map fun bs => .bl (bs.any id)
  | _ => none
theorem op_dAll : OpN K (rAll K) dAll := by
  intro Hf F ρ Cs H xs as d Q S0 ha he k
  unfold dAll at he
  split at he
  · cases ha with
    | cons h hs =>
      cases hs
      obtain ⟨a, xs, rfl, hx, hd⟩ := h.lst S0.ex
      obtain ⟨bs, h1, h2⟩ := Option.map_eq_some_iff.mp he
      subst h2
      have := bls_ok hd h1
      subst this
      exact ⟨a, bs, rfl, hx, k.here S0 (.bl _)⟩
  · cases he
theorem op_dAny : OpN K (rAny K) dAny := by
  intro Hf F ρ Cs H xs as d Q S0 ha he k
  unfold dAny at he
  split at he
  · cases ha with
    | cons h hs =>
      cases hs
      obtain ⟨a, xs, rfl, hx, hd⟩ := h.lst S0.ex
      obtain ⟨bs, h1, h2⟩ := Option.map_eq_some_iff.mp he
      subst h2
      have := bls_ok hd h1
      subst this
      exact ⟨a, bs, rfl, hx, k.here S0 (.bl _)⟩
  · cases he
end Sm
end
section
set_option maxRecDepth 100000
set_option maxHeartbeats 0
namespace Sm
open PySem L2
variable {K : PySem.W.Frag} {mg : Str → Option Value}

/-! ### isinstance of built-in classes -/
def tyN : D → Option String
  | .non => some "NoneType"
  | .bl _ => some "bool"
  | .int _ => some "int"
  | .str _ => some "str"
  | .tup _ => some "tuple"
  | .lst _ => some "list"
  | .dk _ _ => some "dict"
  | .dt _ _ => some "dict"
  | _ => none
def dIsi : List D → Option D
  | [x, .opq (.ty T)] => (tyN x).bind fun n => (kitB n T).map D.bl
  | _ => none
theorem ty_seq {H : Hp} {a : Addr} {xs : List V} (h : SqL K H a xs) : TyX K H (.ref a) (.type "list") := by
  rcases h with (h | ⟨o, h⟩) | ⟨o, its, n, h, hc, _⟩
  · exact .base (.lst h)
  · exact .base (.frz h)
  · exact .kList h hc
theorem ty_tup {H : Hp} {a : Addr} {xs : List V} (h : SqT K H a xs) : TyX K H (.ref a) (.type "tuple") := by
  rcases h with (h | ⟨o, h⟩) | ⟨o, its, n, h, hc, _⟩
  · exact .base (.tup h)
  · exact .fTuple h
  · exact .kTuple h hc
theorem ty_of {H Hf : Hp} {ρ : List Addr} {v : V} {d : D} {n : String} (e : Same Hf H) (h : Vw K H Hf ρ v d) (hn : tyN d = some n) : TyX K H v (.type n) := by
  cases h with
  | dat h =>
    cases h with
    | non => cases hn; exact .base .non
    | bl b => cases hn; exact .base (.bl b)
    | int b => cases hn; exact .base (.int b)
    | str b => cases hn; exact .base (.str b)
    | tup h hs => cases hn; exact ty_tup (same_t e h)
    | lst h hs => cases hn; exact ty_seq (same_l e h)
    | cel h => cases hn
    | opq v => cases hn
    | dk h hl hs =>
      cases hn
      exact .base (.dK (e _ _ h))
    | dt h hl hs =>
      cases hn
      exact .base (.dT (e _ _ h))
  | now h hs => cases hn; exact ty_seq h
theorem op_dIsi : OpN K (rIsi K) dIsi := by
  intro Hf F ρ Cs H xs as d Q S0 ha he k
  unfold dIsi at he
  split at he
  · rename_i x T
    cases ha with
    | cons h hs =>
      cases hs with
      | cons h2 hs =>
        cases hs
        obtain ⟨n, hn, he⟩ := Option.bind_eq_some_iff.mp he
        obtain ⟨b, hb, he⟩ := Option.map_eq_some_iff.mp he
        subst he
        have e2 : ∀ {v : V}, Vw K H Hf ρ v (.opq (.ty T)) → v = V.ty T := fun q => by
          cases q with
          | dat q => cases q; rfl
        have e3 := e2 h2
        subst e3
        exact ⟨_, _, _, _, b, rfl, .ty T, ty_of S0.ex h hn, kit_ty hb, k.here S0 (.bl _)⟩
  · cases he

/-! ### methods that change a list -/
def live (r : D) (C : Cells) : Option (Nat × List D) := match r with
  | .cel n => match C[n]? with
    | some (some (.l ds)) => some (n, ds)
    | _ => none
  | _ => none
/-- o.m(as): f tells the answer and the cell's new items -/
def xM (f : List D → List D → Option (D × List D)) (sr : S D) (sa : S (List D)) : S D := S.bind sr fun r => fun e C => if (live r C).isSome = true then S.bind sa (fun as _ C2 => match live r C2 with
    | some (n, ds) => match f ds as with
      | some (d, es) => if nocels es = true then some (.ok d (C2.set n (some (.l es)))) else none
      | none => none
    | none => none) e C else none
def OpM (K : PySem.W.Frag) (r : V → List V → Hp → VK → Prop) (f : List D → List D → Option (D × List D)) : Prop := ∀ (Hf : Hp) (ρ : List Addr) (H : Hp) (a : Addr) (xs vs : List V) (ds as es : List D) (d : D) (Q : VK), H a = some (.lst xs) → Dats K Hf ρ xs ds → Dats K Hf ρ vs as → f ds as = some (d, es) →
  (∀ v ys, Dat K Hf ρ v d → Dats K Hf ρ ys es → Q v (upd H a (.lst ys))) → r (.ref a) vs H Q
section
variable {X : Cx} {W : Wh}
theorem goM {r : V → List V → Hp → VK → Prop} {f : List D → List D → Option (D × List D)} {sr : S D} {sa : S (List D)} (hf : OpM X.K r f) {σ : L2.St} {H : Hp} {Q : VK} (h : tE X.K X.mg W (xM f sr sa) σ H Q) : tBM X.K "list" r (tE X.K X.mg W sr) (tA X.K X.mg W sa) σ H Q := by
  obtain ⟨Hf, F, ρ, env, C, S0, E0, g⟩ := h
  refine ⟨Hf, F, ρ, env, C, S0, E0, (Go.bind g).mono fun x H1 ⟨Hf1, ρ1, C1, a, e1, p1, S1, A1, g1⟩ => ?_⟩
  try simp only [] at g1
  split at g1
  · rename_i hlv
    have cell : ∀ {C : Cells} {n : Nat} {ds : List D}, live a C = some (n, ds) → a = .cel n ∧ C[n]? = some (some (.l ds)) := fun {C n ds} q => by
      unfold live at q
      split at q
      · rename_i m
        split at q
        · rename_i ds' hc
          have q' := Option.some.inj q
          simp only [Prod.mk.injEq] at q'
          obtain ⟨rfl, rfl⟩ := q'
          exact ⟨rfl, hc⟩
        · cases q
      · cases q
    obtain ⟨⟨n, ds⟩, hl⟩ := Option.isSome_iff_exists.mp hlv
    obtain ⟨rfl, hc⟩ := cell hl
    cases A1 with
    | @cel _ ad hn =>
      obtain ⟨_, k2⟩ := S1.cel n ad _ hn hc
      obtain ⟨vs, hv, hd⟩ := k2.lst
      refine ⟨.inl ⟨rfl, vs, .inl (.inl hv)⟩, ?_⟩
      refine ⟨Hf1, F, ρ1, env, C1, S1, E0.mono e1 p1, (Go.bind g1).mono fun ws H2 ⟨Hf2, ρ2, C2, as, e2, p2, S2, A2, g2⟩ => ?_⟩
      try simp only [] at g2
      cases hl2 : live (.cel n) C2 with
      | none =>
        rw [hl2] at g2
        exact g2.elim
      | some q =>
        obtain ⟨m, ds2⟩ := q
        obtain ⟨hm, hc2⟩ := cell hl2
        cases hm
        rw [hl2] at g2
        simp only [] at g2
        cases hff : f ds2 as with
        | none =>
          rw [hff] at g2
          exact g2.elim
        | some q =>
          obtain ⟨d, es⟩ := q
          rw [hff] at g2
          simp only [] at g2
          split at g2
          · rename_i nc
            have hn2 := pre_get p2 hn
            obtain ⟨_, k3⟩ := S2.cel n ad _ hn2 hc2
            obtain ⟨vs2, hv2, hd2⟩ := k3.lst
            exact hf Hf2 ρ2 H2 ad vs2 ws ds2 as es d Q hv2 (hd2.mono (Same.refl _) List.nil_prefix) A2 hff fun v ys h1 h2 => g2 v _ Hf2 ρ2 (Same.refl _) (List.prefix_refl _) (S2.setCel hn2 hc2 (h2.bare nc)) h1
          · exact g2.elim
  · exact g1.elim
theorem se_m {o : Expr} {m : Str} {p pos : Pos} {es : List Expr} {r : V → List V → Hp → VK → Prop} {f : List D → List D → Option (D × List D)} {sr : S D} {sa : S (List D)} (hf : OpM X.K r f) (h : PE X (.Call (.Attribute o m p) es [] pos) (tBM X.K "list" r (tE X.K X.mg W sr) (tA X.K X.mg W sa))) :
    SE X W (.Call (.Attribute o m p) es [] pos) (xM f sr sa) := pe_imp h fun _ _ _ q => goM hf q
theorem se_m0 {o : Expr} {m : Str} {p pos : Pos} {r : V → List V → Hp → VK → Prop} {f : List D → List D → Option (D × List D)} {sr : S D} (hf : OpM X.K r f) (h : PE X (.Call (.Attribute o m p) [] [] pos) (tBM0 X.K "list" r (tE X.K X.mg W sr))) :
    SE X W (.Call (.Attribute o m p) [] [] pos) (xM f sr aNil) := pe_imp h fun σ H Q q => by
  obtain ⟨Hf, F, ρ, env, C, S0, E0, g⟩ := goM hf q
  exact ⟨Hf, F, ρ, env, C, S0, E0, g.mono fun v H1 ⟨h1, h2⟩ => ⟨h1, by
    obtain ⟨Hf1, F1, ρ1, env1, C1, S1, E1, g1⟩ := h2
    exact Go.val (env := env1) g1 S1 .nil⟩⟩
/-- xs[i] = e -/
def xSetI (so si sv : S D) : SS := xDo sv fun v => xDo so fun o => xDo si fun i => fun e C => match o, i with
  | .cel n, .int k => match C[n]? with
    | some (some (.l ds)) => match ixN ds.length k with
      | some j => if nocel v = true then some (.nx e (C.set n (some (.l (ds.set j v))))) else none
      | none => none
    | _ => none
  | _, _ => none
theorem sc_seti {o i e : Expr} {pp pos : Pos} {so si sv : S D} (h : PS X (.Assign [.Subscript o i pp] e pos) (tAsg (tE X.K X.mg W sv) (gSub (tE X.K X.mg W so) (tE X.K X.mg W si) rSetL))) : SC X W (.Assign [.Subscript o i pp] e pos) (xSetI so si sv) :=
  ps_imp h fun D σ H ⟨Hf, F, ρ, env, C, S0, E0, g⟩ => ⟨Hf, F, ρ, env, C, S0, E0, (GoS.doit E0 g).mono fun v H1 ⟨Hf1, ρ1, C1, dv, e1, p1, S1, A1, g1⟩ =>
    ⟨Hf1, F, ρ1, env, C1, S1, E0.mono e1 p1, (GoS.doit (E0.mono e1 p1) g1).mono fun x H2 ⟨Hf2, ρ2, C2, dx, e2, p2, S2, A2, g2⟩ =>
      ⟨Hf2, F, ρ2, env, C2, S2, (E0.mono e1 p1).mono e2 p2, (GoS.doit ((E0.mono e1 p1).mono e2 p2) g2).mono fun y H3 ⟨Hf3, ρ3, C3, dy, e3, p3, S3, A3, g3⟩ => by
        match dx, dy, A2, A3, g3 with
        | .cel n, .int k, .cel (a := ad) hn, .int _, g3 =>
          cases hc : C3[n]? with
          | none =>
            simp only [hc] at g3
            exact g3.elim
          | some oo =>
            cases oo with
            | none =>
              simp only [hc] at g3
              exact g3.elim
            | some o =>
              cases o with
              | l ds =>
                simp only [hc] at g3
                cases hj : ixN ds.length k with
                | none =>
                  simp only [hj] at g3
                  exact g3.elim
                | some j =>
                  simp only [hj] at g3
                  split at g3
                  · rename_i nc
                    have hn3 := pre_get p3 hn
                    obtain ⟨_, k2⟩ := S3.cel n ad _ hn3 hc
                    obtain ⟨vs, hv, hd⟩ := k2.lst
                    have hvv := (A1.mono (e2.trans e3) (p2.trans p3)).bare nc
                    exact ⟨ad, vs, k, j, rfl, rfl, hv, by rw [hd.len]; exact hj, g3 σ _ Hf3 ρ3 (Same.refl _) (List.prefix_refl _) (S3.setCel hn3 hc (hd.set hvv j)) (((E0.mono e1 p1).mono e2 p2).mono e3 p3)⟩
                  · exact g3.elim⟩⟩⟩
/-! ### a list that changes no more -/
def xFrz (s : S D) : S D := S.bind s fun d _ C => match live d C with
  | some (n, ds) => some (.ok (.lst ds) (C.set n none))
  | none => none
theorem se_frz {e : Expr} {s : S D} (h : SE X W e s) : SE X W e (xFrz s) := pe_imp h fun σ H Q ⟨Hf, F, ρ, env, C, S0, E0, g⟩ => ⟨Hf, F, ρ, env, C, S0, E0, (Go.bind g).mono fun x H1 ⟨Hf1, ρ1, C1, a, e1, p1, S1, A1, g1⟩ => by
  try simp only [] at g1
  cases hl : live a C1 with
  | none =>
    rw [hl] at g1
    exact g1.elim
  | some q =>
    obtain ⟨n, ds⟩ := q
    rw [hl] at g1
    unfold live at hl
    split at hl
    · split at hl
      · rename_i m ds' hc
        have q' := Option.some.inj hl
        simp only [Prod.mk.injEq] at q'
        obtain ⟨rfl, rfl⟩ := q'
        cases A1 with
        | @cel _ ad hn =>
          obtain ⟨Hf2, e2, S2, D2⟩ := S1.freeze hn hc
          exact g1 _ H1 Hf2 ρ1 e2 (List.prefix_refl _) S2 D2
      · cases hl
    · cases hl⟩
/-! ### comprehensions as lists -/
theorem sl_lc {e : Expr} {it : SW} {t : Tg} {c : S Bool} {x : S D} {vs : List Nat} (hv : ∀ j ∈ t.at_, j ∈ vs) (hput : ∀ d e e', t.put d e = some e' → e'.length = e.length)
    (h : PE X e (tLc (tI X.K X.mg W it) (gG X.K X.mg none t) (tT X.K X.mg W0 c) (tE X.K X.mg W0 x) vs)) : SL X W e (xLc it t c x vs) := pe_imp h fun _ _ _ q => goLc hv hput q
theorem goF {s : S (List D)} {σ : L2.St} {H : Hp} {Q : VK} (h : tE X.K X.mg W (xF s) σ H Q) : tL X.K X.mg W s σ H Q := by
  obtain ⟨Hf, F, ρ, env, C, S0, E0, g⟩ := h
  refine ⟨Hf, F, ρ, env, C, S0, E0, goL_of (α := Unit) g fun ds C' v H' Hf' ρ' e' p' f' g' => ?_⟩
  cases f' with
  | @mk p vs _ h hs S1 S2 nf =>
    have e1 : Same Hf' (upd Hf' p (.lst vs)) := fun b u q => by
      rw [upd_ne (ne_of_none q nf)]
      exact q
    exact g' _ H' _ ρ' e1 (List.prefix_refl _) S1 (.lst (.inl (.inl upd_same)) (hs.mono e1 (List.prefix_refl _)))
theorem goC {s : S (List D)} {σ : L2.St} {H : Hp} {Q : VK} (h : tE X.K X.mg W (xC s) σ H Q) : tL X.K X.mg W s σ H Q := by
  obtain ⟨Hf, F, ρ, env, C, S0, E0, g⟩ := h
  refine ⟨Hf, F, ρ, env, C, S0, E0, goL_of (α := Unit) g fun ds C' v H' Hf' ρ' e' p' f' g' => ?_⟩
  cases f' with
  | @mk p vs _ h hs S1 S2 nf =>
    have hl : ρ'.length = C'.length := S1.len
    have hn : nocels ds = true := by
      cases q : nocels ds with
      | true => rfl
      | false =>
        simp only [q] at g'
        exact g'.elim
    simp only [hn, if_true] at g'
    exact g' _ H' Hf' _ (Same.refl _) (List.prefix_append _ _) (S2 hn) (.cel (by rw [← hl, List.getElem?_append_right (Nat.le_refl _), Nat.sub_self]; rfl))
/-- y = [..] -/
theorem goSet {s : S D} {i : Nat} {te : TE} (k : ∀ σ H Q, tE X.K X.mg W s σ H Q → te σ H Q) {D : Ends} {σ : L2.St} {H : Hp} (h : tS X.K X.mg W (xAsg s (gN i)) D σ H) : tAsg te (gName i) D σ H := by
  have q := goAsg (X := X) (W := W) (s := s) (t := gN i) (g := gName i) (fun v σ H Q ⟨Hf, F, ρ, env, C, d, S0, E0, D0, env', he, k⟩ => by
    have e := Option.some.inj he
    subst e
    exact k _ (E0.set D0 i) fun j hj => List.getElem?_set_ne (fun e => hj (by rw [e]; exact List.mem_singleton.mpr rfl))) h
  exact k σ H _ q
theorem sc_setL {i : Nat} {x : Str} {e : Expr} {pos pos' : Pos} {s : S D} {te : TE} (k : ∀ σ H Q, tE X.K X.mg W s σ H Q → te σ H Q) (h : PS X (.Assign [.Name x pos'] e pos) (tAsg te (gName i))) : SC X W (.Assign [.Name x pos'] e pos) (xAsg s (gN i)) :=
  ps_imp h fun D σ H q => goSet k q
end
def mAppend : List D → List D → Option (D × List D) := fun ds as => match as with
  | [d] => if ds.length < 1000000 then some (.non, ds ++ [d]) else none
  | _ => none
theorem op_mAppend : OpM K rAppend mAppend := by
  intro Hf ρ H a xs vs ds as es d Q hH hd ha hf k
  unfold mAppend at hf
  split at hf
  · split at hf
    · rename_i hlt
      have e := Option.some.inj hf
      simp only [Prod.mk.injEq] at e
      obtain ⟨rfl, rfl⟩ := e
      cases ha with
      | cons h hs =>
        cases hs
        exact ⟨a, xs, _, rfl, rfl, hH, by rw [hd.len]; exact Nat.lt_of_lt_of_le hlt (by decide), k _ _ .non (hd.app (.cons h .nil))⟩
    · cases hf
  · cases hf
def mPop : List D → List D → Option (D × List D) := fun ds as => match as with
  | [.int i] => if -9223372036854775808 ≤ i ∧ i < 9223372036854775808 then match seqIndex? i ds.length with
    | some j => match ds[j]? with
      | some d => some (d, ds.eraseIdx j)
      | none => none
    | none => none
    else none
  | _ => none
theorem op_mPop : OpM K rPopAt mPop := by
  intro Hf ρ H a xs vs ds as es d Q hH hd ha hf k
  unfold mPop at hf
  split at hf
  · rename_i i
    split at hf
    · rename_i hi
      split at hf
      · rename_i j hj
        split at hf
        · rename_i d' hd'
          have e := Option.some.inj hf
          simp only [Prod.mk.injEq] at e
          obtain ⟨rfl, rfl⟩ := e
          cases ha with
          | cons h hs =>
            cases hs
            cases h
            obtain ⟨v, h1, h2⟩ := hd.get hd'
            exact ⟨a, xs, i, j, v, rfl, rfl, hH, hi.1, hi.2, by rw [hd.len]; exact hj, h1, k _ _ h2 (hd.erase j)⟩
        · cases hf
      · cases hf
    · cases hf
  · cases hf
def mPopL : List D → List D → Option (D × List D) := fun ds as => match as with
  | [] => match ds[ds.length - 1]? with
    | some d => some (d, ds.dropLast)
    | none => none
  | _ => none
theorem Dats.dropLast {H : Hp} {ρ : List Addr} {vs : List V} {ds : List D} (h : Dats K H ρ vs ds) : Dats K H ρ vs.dropLast ds.dropLast := by
  rw [List.dropLast_eq_take, List.dropLast_eq_take, h.len]
  exact h.take _
theorem op_mPopL : OpM K rPop mPopL := by
  intro Hf ρ H a xs vs ds as es d Q hH hd ha hf k
  unfold mPopL at hf
  split at hf
  · split at hf
    · rename_i d' hd'
      have e := Option.some.inj hf
      simp only [Prod.mk.injEq] at e
      obtain ⟨rfl, rfl⟩ := e
      cases ha
      rw [← hd.len] at hd'
      obtain ⟨v, h1, h2⟩ := hd.get hd'
      exact ⟨a, xs, v, rfl, rfl, hH, h1, k _ _ h2 hd.dropLast⟩
    · cases hf
  · cases hf
end Sm
end
section
set_option maxRecDepth 100000
set_option maxHeartbeats 0
namespace SmX
open PySem
open Sem (wp)
open AutoSeq1 (wpAny_loadPart')
/-! ### enumerate(a tuple) -/
theorem enum_newT (l : Addr) (its : Array Value) (n : Nat) (dct : Option Addr) (sl : Array (Option Value)) :
    Meets (Builtin.«enumerate.__new__» ⟨[.type "enumerate", .ref l], []⟩) (fun _ R s => s.heap.get? l = some { cls := .type "tuple", dict := dct, data := .seq its n, slots := sl } ∧
      R (.ok (.ret (.ref (s.heap.push { cls := .type "tuple_iterator", data := .fields #[.ref l, .int 0 0] }).objs.size)))
        { s with heap := (s.heap.push { cls := .type "tuple_iterator", data := .fields #[.ref l, .int 0 0] }).push { cls := .type "enumerate", data := .fields #[.none, .bool false, .ref s.heap.objs.size, rawInt 0, .none, .none] } }) :=
  .of_wp fun prog w A R s h => by
    obtain ⟨hp, g, d, tk, os⟩ := s
    obtain ⟨hl, h⟩ := h
    have hsub := sub_enumerate
    have hT : Heap.IsTuple (Shared.heap ⟨hp, g, d, tk, os⟩) l its := ⟨_, hl, rfl, n, rfl⟩
    wp_walk using wpAny_loadPart' hl
    refine wpAny_stack_any fun st => wpAny_pure ?_
    split
    · rename_i c _ _ _ _ _
      cases (c == Value.type "enumerate") <;>
        (wp_walk using wpAny_loadPart' hl, wpAny_pyIter_tuple hT
         exact ⟨_, rfl, h⟩)
    · wp_walk using wpAny_loadPart' hl, wpAny_pyIter_tuple hT
      exact ⟨_, rfl, h⟩
section
variable {prog : Program} {w : World} {A : Around} {E : Value → Shared → Prop} {s : Shared}
theorem enum_callT {l : Addr} {its : Array Value} {Q : Value → Shared → Prop} (hT : s.heap.IsTuple l its)
    (h : ∀ h', IsEnum h' (s.heap.objs.size + 1) s.heap.objs.size 0 .none → h'.IsTupleIter s.heap.objs.size l 0 → (∀ b o, s.heap.get? b = some o → h'.get? b = some o) → Q (.ref (s.heap.objs.size + 1)) { s with heap := h' }) :
    wpAny (model prog w) A (call (.type "enumerate") [.ref l]) Q E s := by
  obtain ⟨⟨c, dct, dt, sl⟩, hl, hc, n, hd⟩ := hT
  have hc' : c = .type "tuple" := hc
  have hd' : dt = .seq its n := hd
  subst hc' hd'
  refine callType_new F.called_enumerate (by decide) (F.typeCall_enumerate_1 _) (F.newCall_enumerate_1 _) (fun obj => F.args_object_init_2 obj _) F.entry_enumerate_new (enum_newT l its n dct sl) ⟨hl, ?_⟩
  have hz : (s.heap.push { cls := .type "tuple_iterator", data := .fields #[.ref l, .int 0 0] }).objs.size = s.heap.objs.size + 1 := Heap.size_push ..
  show _ ∧ _
  rw [hz]
  have he : IsEnum ((s.heap.push { cls := .type "tuple_iterator", data := .fields #[.ref l, .int 0 0] }).push
      { cls := .type "enumerate", data := .fields #[.none, .bool false, .ref s.heap.objs.size, rawInt 0, .none, .none] }) (s.heap.objs.size + 1) s.heap.objs.size 0 .none := by
    have q := Heap.get?_push_size (s.heap.push { cls := .type "tuple_iterator", data := .fields #[.ref l, .int 0 0] }) (o := { cls := .type "enumerate", data := .fields #[.none, .bool false, .ref s.heap.objs.size, rawInt 0, .none, .none] }) rfl
    rw [hz] at q
    exact q
  exact ⟨⟨_, he, rfl⟩, h _ he ⟨_, Heap.get?_push_of_some _ (Heap.get?_push_size _ rfl), rfl, rfl⟩ fun b o x => Heap.get?_push_of_some _ (Heap.get?_push_of_some _ x)⟩
theorem enum_endT {e it l : Addr} {i : Nat} {its : Array Value} {old : Value} {Q : Option Value → Shared → Prop} (hh : A.handled = none) (he : IsEnum s.heap e it i old) (hit : s.heap.IsTupleIter it l i) (hl : s.heap.IsTuple l its) (hx : its[i]? = none)
    (hQ : ∀ h', Heap.ExtBut it s.heap h' → Q none { s with heap := h' }) : wpAny (model prog w) A (pyNext (.ref e)) Q E s := by
  have hT : s.TypeIs (.ref e) "enumerate" := ⟨_, he, rfl⟩
  unfold pyNext
  refine wpAny_bind (wpAny_attempt (wpAny_callSpecial?_slot (name := Str.ofString "__next__") hT F.slot_enumerate_next (wpAny_call_entry F.slot_enumerate_next hT F.entry_enumerate_next ?_ (F.args_enumerate_next_1 _))))
  show wpAny _ _ (field (.ref e) 2 >>= _) _ _ s
  refine wpAny_bind (wpAny_field he rfl (x := .ref it) rfl (wpAny_bind (wpAny_nextOf_tuple_end hh hit hl hx fun h' x he' hx' => ?_)))
  obtain ⟨o, ho, hc⟩ := hx'
  exact wpAny_bind (wpAny_isInstance (T := "StopIteration") (b := true) ⟨o, ho, hc⟩ isSubtype_stop (wpAny_pure (hQ _ he')))
end
end SmX
namespace Sm
open PySem L2
open PySem.Spec PyProof.Rows
variable {K : PySem.W.Frag} {mg : Str → Option Value}
/-- the tuple at a, each item in a new pair -/
def IteT (K : PySem.W.Frag) (a : Addr) : It :=
  ⟨fun i H => ∃ (xs : List V) (x : V), SqT K H a xs ∧ xs[i]? = some x,
   fun i H v H' => ∃ T x, v = .ref T ∧ H T = none ∧ H' = upd H T (.tup [.int (i : Nat), x]) ∧ ∀ xs, SqT K H a xs → xs[i]? = some x,
   fun i H => ∃ xs : List V, SqT K H a xs ∧ xs.length ≤ i⟩
theorem turn_enumT {P : Program} {w : World} {elts : List Expr} {kk : Nat} {tpos : Pos} (a e it : Addr) :
    Turn P w K (.Tuple elts kk tpos) (IteT K a) [e, it] e (fun i h => (∃ old, IsEnum h e it ((i : Nat) : Int) old) ∧ h.IsTupleIter it a i ∧ e ≠ it) where
  mem := List.mem_cons_self
  obj := fun i h st b hb => by
    obtain ⟨⟨old, he⟩, ⟨o, ho, hc, hd⟩, _⟩ := st
    rcases (show b = e ∨ b = it by simpa using hb) with rfl | rfl
    · exact ⟨_, he, fun v q => nomatch q⟩
    · refine ⟨o, ho, fun v q => ?_⟩
      rw [hd] at q
      cases q
  keep := fun i h h' st k => by
    obtain ⟨⟨old, he⟩, hi, hne⟩ := st
    exact ⟨⟨old, k e (by simp) _ he⟩, hi.at fun o q => k it (by simp) o q, hne⟩
  item := by
    intro X hP hw hK hc i pins s σ H E I hf st hg
    subst hP hw hK
    obtain ⟨⟨old, he⟩, hit, hne⟩ := st
    obtain ⟨xs, x, hq, hx⟩ := hg
    obtain ⟨its, rv, p, hz⟩ := I.tuple hq
    obtain ⟨u, hu, ru⟩ := rv.get hx
    have ul : i < its.toArray.size := by
      rw [List.size_toArray]
      exact (List.getElem?_eq_some_iff.mp hu).1
    have hel := Heap.lt_size he
    have hil : it < s.heap.objs.size := by
      obtain ⟨_, q, _⟩ := hit
      exact Heap.lt_size q
    have hT : s.heap.IsTuple a its.toArray := p
    have tie : a ≠ it := by
      rintro rfl
      obtain ⟨o1, q1, c1, _⟩ := hT
      obtain ⟨o2, q2, c2, _⟩ := hit
      rw [q1] at q2
      cases q2
      rw [c1] at c2
      exact absurd (Value.type.inj c2) (by decide)
    have aef : e ∉ [it, a] := by
      intro hm
      rcases (show e = it ∨ e = a by simpa using hm) with z | z
      · exact hne z
      · subst z
        obtain ⟨o1, q1, c1, _⟩ := hT
        rw [he] at q1
        cases q1
        exact absurd (Value.type.inj c1) (by decide)
    refine wpAny_pyNext_enum_itemD (Draws.tuple (A := X.A.in1) (I.ok.hd hc) it a tie its.toArray) he ⟨hit, hT⟩ ul hne aef fun x' h' tk hx' ho hst hnew hsz hk => ?_
    have ex : x' = u := by
      have q : its.toArray[i]? = some x' := hx'
      rw [← Array.getElem?_toList] at q
      exact Option.some.inj (q.symm.trans hu)
    subst ex
    refine ⟨_, rfl, wpAny_letOwnedTupleGo_enum (s := { s with heap := h', toks := tk + 1 }) ho fun h'' he' sb => ?_⟩
    have hT2 : h''.get? s.heap.objs.size = some { cls := .type "tuple", data := .seq #[.int i tk, x'] } := (sb.2 _ (Nat.ne_of_gt hel)).trans hnew
    have new : ObjOk X.prog X.w (upd H s.heap.objs.size (.tup [.int (i : Nat), x])) h'' s.heap.objs.size (.tup [.int (i : Nat), x]) :=
      ⟨by show 2 ≤ sizeLine; decide, [.int i tk, x'], .cons ⟨_, rfl⟩ (.cons ru .nil), ⟨_, hT2, rfl, _, rfl⟩⟩
    have I1 : Inv X pins σ (upd H s.heap.objs.size (.tup [.int (i : Nat), x])) { s with heap := h'', toks := tk + 1 } := by
      refine I.turnedNew (ch := [e, it]) (fun b ob hb q => ?_) hf (Nat.le_refl _) new
      have be : b ≠ e := fun z => hb (by simp [z])
      exact (sb.2 b be).trans (hk b ob be (fun z => hb (by simp [z])) q)
    refine ⟨.ref s.heap.objs.size, _, I1, rfl, ⟨_, x, rfl, I.hok.fresh (Nat.le_refl _), rfl, fun ys hy => ?_⟩, ⟨⟨x', ?_⟩, hst.1.at fun o q => (sb.2 it (Ne.symm hne)).trans q, hne⟩, fun b hb => ?_⟩
    · rw [I.tuple_inj hy hq]
      exact hx
    · rw [show ((i + 1 : Nat) : Int) = (i : Int) + 1 by omega]
      exact he'
    · have hb' : b ≠ s.heap.objs.size := by
        rcases (show b = e ∨ b = it by simpa using hb) with z | z
        · rw [z]
          exact Nat.ne_of_lt hel
        · rw [z]
          exact Nat.ne_of_lt hil
      rw [upd_ne hb']
      exact (hf b hb).1
  done := by
    intro X hP hw hK hc i pins s σ H E I hf st hg
    subst hP hw hK
    obtain ⟨⟨old, he⟩, hit, hne⟩ := st
    obtain ⟨xs, hq, hx⟩ := hg
    obtain ⟨its, rv, p, hz⟩ := I.tuple hq
    obtain ⟨f0, f1, f2, f3, f4, f5⟩ := hf it (by simp)
    have hl := rv.length
    have hT : s.heap.IsTuple a its.toArray := p
    have hx' : its.toArray[i]? = none := by
      rw [← Array.getElem?_toList]
      exact List.getElem?_eq_none (by simp; omega)
    exact SmX.enum_endT (I.ok.hd hc) he hit hT hx' fun h' eb => ⟨rfl, I.turned (t' := s.toks) (fun b o hb q => eb b o hb q) f0 f1 f3 f4 f5⟩
  self := fun A i s Q E st h => by
    obtain ⟨⟨_, he⟩, _⟩ := st
    exact wpAny_pyIter_enum he h
/-- enumerate of a list or a tuple -/
def iEnumA (K : PySem.W.Frag) (ta : TA) : TI := fun σ H R => ta σ H fun vs H1 => ∃ a, vs = [.ref a] ∧ ((∃ xs, SqL K H1 a xs ∧ R (Ite K a) H1) ∨ ∃ xs, SqT K H1 a xs ∧ R (IteT K a) H1)
theorem pi_enumA {X : Cx} {e : Expr} {ta : TA} {p pos tpos : Pos} {elts : List Expr} {kk : Nat} (hg : Gl X "enumerate") (hm : X.mg "enumerate" = none) (ha : PA X [e] ta) (hs : starEach [e] X.env = [(false, eval e X.env)]) :
    PI X (.Tuple elts kk tpos) (.Call (.Name "enumerate" p) [e] [] pos) (iEnumA X.K ta) := by
  refine ⟨fun pins s σ H R I h => Call_ (ld_blt I hg hm boot_enumerate (PyProof.Rows.callWith_type1 (thn (ha.run pos pins s σ H _ I h) fun us s1 hh => ?_) hs rfl))⟩
  obtain ⟨vs, H1, I1, r1, a, ex, q⟩ := hh
  subst ex
  obtain ⟨u, rfl, ru⟩ := r1.one
  obtain rfl : u = Value.ref a := ru
  have two : ∀ b ∈ [s1.heap.objs.size + 1, s1.heap.objs.size], FpOk X pins H1 b := fun b hb => by
    have hle : s1.heap.objs.size ≤ b := by
      rcases (show b = s1.heap.objs.size + 1 ∨ b = s1.heap.objs.size by simpa using hb) with z | z <;> omega
    exact I1.fpOk hle (I1.hok.fresh hle)
  rcases q with ⟨xs, hq, q⟩ | ⟨xs, hq, q⟩
  · obtain ⟨its, rv, p', hz⟩ := I1.list hq
    refine call_enumerate_list p'.isList fun h' he hit hsz hk => wpAny_pyIter_enum he ?_
    exact ⟨s1.heap.objs.size + 1, [s1.heap.objs.size + 1, s1.heap.objs.size], _, Ite X.K a, H1, rfl, I1.kept (t' := s1.toks) hk, turn_enum a (s1.heap.objs.size + 1) s1.heap.objs.size, ⟨⟨.none, he⟩, hit, Nat.succ_ne_self _⟩, two, q⟩
  · obtain ⟨its, rv, p', hz⟩ := I1.tuple hq
    refine SmX.enum_callT (show s1.heap.IsTuple a its.toArray from p') fun h' he hit hk => wpAny_pyIter_enum he ?_
    exact ⟨s1.heap.objs.size + 1, [s1.heap.objs.size + 1, s1.heap.objs.size], _, IteT X.K a, H1, rfl, I1.kept (t' := s1.toks) hk, turn_enumT a (s1.heap.objs.size + 1) s1.heap.objs.size, ⟨⟨.none, he⟩, hit, Nat.succ_ne_self _⟩, two, q⟩
/-- the items with their places -/
def enums (ds : List D) : List D := (ds.zipIdx 0).map fun p => .tup [.int (p.2 : Nat), p.1]
theorem enums_get {ds : List D} {i : Nat} {d : D} (h : ds[i]? = some d) : (enums ds)[i]? = some (.tup [.int (i : Nat), d]) := by
  unfold enums
  rw [List.getElem?_map, List.getElem?_zipIdx, h]
  simp
theorem enums_len (ds : List D) : (enums ds).length = ds.length := by
  unfold enums
  simp
section
variable {X : Cx} {W : Wh}
/-- a new pair is data at once -/
theorem SR.pair {Hf F : Hp} {ρ : List Addr} {C : Cells} {H : Hp} {xs : List V} {ds : List D} (S0 : SR K Hf F ρ C H) {T : Addr} (hT : H T = none) (h : Dats K Hf ρ xs ds) : ∃ Hf2, Same Hf Hf2 ∧ SR K Hf2 F ρ C (upd H T (.tup xs)) ∧ Dat K Hf2 ρ (.ref T) (.tup ds) := by
  obtain ⟨S1, e1⟩ := S0.new (o := .tup xs) hT
  exact ⟨_, e1, S1, .tup (.inl (.inl upd_same)) (h.mono e1 (List.prefix_refl _))⟩
theorem wk_el {Hf : Hp} {ρ : List Addr} {a : Addr} {ds : List D} {g : Gd} (h : ∀ Hf' F' ρ' C' H', Same Hf Hf' → ρ <+: ρ' → SR K Hf' F' ρ' C' H' → g C' = true → ∃ xs, SqL K H' a xs ∧ Dats K Hf' ρ' xs ds) :
    Wk K Hf ρ (Ite K a) (enums ds, g) := fun i Hf' F' ρ' C' H' e p S0 hg => by
  obtain ⟨xs, hx, hd⟩ := h Hf' F' ρ' C' H' e p S0 hg
  have hl := hd.len
  have hE : ((enums ds, g) : List D × Gd).1.length = ds.length := enums_len ds
  refine ⟨fun hi => ?_, fun hi => ⟨xs, hx, by omega⟩⟩
  have hi' : i < xs.length := by omega
  refine ⟨⟨xs, xs[i], hx, List.getElem?_eq_getElem hi'⟩, fun x H2 hy => ?_⟩
  obtain ⟨T, y, rfl, hT, rfl, hyy⟩ := hy
  obtain ⟨d, h1, h2⟩ := hd.getV (hyy xs hx)
  obtain ⟨Hf2, e2, S2, D2⟩ := S0.pair hT (.cons (.int (i : Nat)) (.cons h2 .nil))
  exact ⟨_, Hf2, enums_get h1, e2, S2, D2⟩
theorem wk_et {Hf : Hp} {ρ : List Addr} {a : Addr} {xs : List V} {ds : List D} (hx : SqT K Hf a xs) (hd : Dats K Hf ρ xs ds) : Wk K Hf ρ (IteT K a) (enums ds, gd0) := fun i Hf' F' ρ' C' H' e p S0 hg => by
  have hl := hd.len
  have hx' : SqT K H' a xs := same_t S0.ex (same_t e hx)
  have hE : ((enums ds, gd0) : List D × Gd).1.length = ds.length := enums_len ds
  refine ⟨fun hi => ?_, fun hi => ⟨xs, hx', by omega⟩⟩
  have hi' : i < xs.length := by omega
  refine ⟨⟨xs, xs[i], hx', List.getElem?_eq_getElem hi'⟩, fun x H2 hy => ?_⟩
  obtain ⟨T, y, rfl, hT, rfl, hyy⟩ := hy
  obtain ⟨d, h1, h2⟩ := (hd.mono e p).getV (hyy xs hx')
  obtain ⟨Hf2, e2, S2, D2⟩ := S0.pair hT (.cons (.int (i : Nat)) (.cons h2 .nil))
  exact ⟨_, Hf2, enums_get h1, e2, S2, D2⟩
def items1 (ds : List D) (C : Cells) : Option (List D × Gd) := match ds with
  | [d] => (items d C).map fun p => (enums p.1, p.2)
  | _ => none
def iEn (s : S (List D)) : SW := S.bind s fun ds env C => S.opt (items1 ds C) env C
theorem si_enum {elts : List Expr} {kk : Nat} {tpos p pos : Pos} {e : Expr} {s : S (List D)} (h : PI X (.Tuple elts kk tpos) (.Call (.Name "enumerate" p) [e] [] pos) (iEnumA X.K (tA X.K X.mg W s))) :
    SI X W (.Tuple elts kk tpos) (.Call (.Name "enumerate" p) [e] [] pos) (iEn s) := pi_imp h fun σ H R ⟨Hf, F, ρ, env, C, S0, E0, g⟩ =>
  ⟨Hf, F, ρ, env, C, S0, E0, (Go.bind g).mono fun vs H1 ⟨Hf1, ρ1, C1, ds, e1, p1, S1, A1, g1⟩ => by
    obtain ⟨q, hq, g2⟩ := Go.opt g1
    match ds, A1, hq with
    | [d], .cons (v := v) hv .nil, hq =>
      have hq' : (items d C1).map (fun p => (enums p.1, p.2)) = some q := hq
      obtain ⟨p0, hp, rfl⟩ := Option.map_eq_some_iff.mp hq'
      have fin : ∀ J, Wk X.K Hf1 ρ1 J (enums p0.1, p0.2) → R J H1 := fun J w => g2 J H1 Hf1 ρ1 (Same.refl _) (List.prefix_refl _) S1 w
      cases hv with
      | @tup a xs ds h hs =>
        have e := Option.some.inj hp
        subst e
        exact ⟨a, rfl, .inr ⟨xs, same_t S1.ex h, fin _ (wk_et h hs)⟩⟩
      | @lst a xs ds h hs =>
        have e := Option.some.inj hp
        subst e
        exact ⟨a, rfl, .inl ⟨xs, same_l S1.ex h, fin _ (wk_el fun Hf' F' ρ' C' H' e q S2 _ => ⟨xs, same_l S2.ex (same_l e h), hs.mono e q⟩)⟩⟩
      | @cel n a h =>
        unfold items at hp
        simp only [] at hp
        split at hp
        · rename_i ds hc
          have e := Option.some.inj hp
          subst e
          obtain ⟨_, k2⟩ := S1.cel n a _ h hc
          obtain ⟨vs, hv, hd⟩ := k2.lst
          refine ⟨a, rfl, .inl ⟨vs, .inl (.inl hv), fin _ (wk_el fun Hf' F' ρ' C' H' e q S2 hg => ?_)⟩⟩
          have hg' : gdC n ds C' = true := hg
          unfold gdC at hg'
          split at hg'
          · rename_i es hc'
            have := deqs_eq _ _ hg'
            subst this
            obtain ⟨_, k3⟩ := S2.cel n a _ (pre_get q h) hc'
            obtain ⟨vs', hv', hd'⟩ := k3.lst
            exact ⟨vs', .inl (.inl hv'), hd'.mono (Same.refl _) List.nil_prefix⟩
          · cases hg'
        · cases hp
      | _ => cases hp
    | [], _, hq => cases hq
    | _ :: _ :: _, _, hq => cases hq⟩
end
end Sm
end
section
set_option maxRecDepth 100000
set_option maxHeartbeats 0
namespace Sm
open PySem L2
variable {K : PySem.W.Frag} {mg : Str → Option Value}
/-! ### comprehensions with two clauses -/
def lcs2 (g : Gd) (t : Tg) (c : S Bool) (it1 : SW) (t1 : Tg) (c1 : S Bool) (x : S D) (vs1 : List Nat) : List D → S (List D)
  | [] => fun _ C => if g C = true then some (.ok [] C) else none
  | d :: r => fun e C => if g C = true then match t.put d e with
      | none => none
      | some e1 => match c e1 C with
        | some (.ok true C1) => match it1 e1 C1 with
          | some (.ok p C2) => match lcs p.2 t1 c1 x p.1 (wipeE e1 vs1) C2 with
            | some (.ok ys C3) => match lcs2 g t c it1 t1 c1 x vs1 r e C3 with
              | some (.ok zs C4) => some (.ok (ys ++ zs) C4)
              | _ => none
            | _ => none
          | _ => none
        | some (.ok false C1) => lcs2 g t c it1 t1 c1 x vs1 r e C1
        | _ => none
    else none
def xLc2 (it : SW) (t : Tg) (c : S Bool) (it1 : SW) (t1 : Tg) (c1 : S Bool) (x : S D) (vs vs1 : List Nat) : S (List D) := S.bind it fun p e C => match lcs2 p.2 t c it1 t1 c1 x vs1 p.1 (wipeE e vs) C with
  | some (.ok ys C3) => if ys.length ≤ 1000000 then some (.ok ys C3) else none
  | _ => none
section
variable {X : Cx} {W : Wh}
/-- what follows a loop that gives ys -/
def Rest (K : PySem.W.Frag) (F : Hp) (Hf : Hp) (ρ : List Addr) (n : Nat) (r : Option (R (List D))) (k : List D → Cells → Hp → List Addr → Prop) : Prop := match r with
  | some (.ok ys C3) => n + ys.length ≤ 1000000 ∧ ∀ Hf' ρ', Same Hf Hf' → ρ <+: ρ' → k ys C3 Hf' ρ'
  | _ => False
theorem goLc2 {it it1 : SW} {t t1 : Tg} {c c1 : S Bool} {x : S D} {vs vs1 : List Nat} (hv : ∀ j ∈ t.at_, j ∈ vs) (hv1 : ∀ j ∈ t1.at_, j ∈ vs1) {σ : L2.St} {H : Hp} {Q : VK} (hput : ∀ d e e', t.put d e = some e' → e'.length = e.length) (hput1 : ∀ d e e', t1.put d e = some e' → e'.length = e.length)
    (h : tL X.K X.mg W (xLc2 it t c it1 t1 c1 x vs vs1) σ H Q) :
    tLc2 (tI X.K X.mg W it) (gG X.K X.mg none t) (tT X.K X.mg W0 c) (tI X.K X.mg W0 it1) (gG X.K X.mg none t1) (tT X.K X.mg W0 c1) (tE X.K X.mg W0 x) vs vs1 σ H Q := by
  obtain ⟨Hf, F, ρ, env, C, S0, E0, g⟩ := h
  refine ⟨Hf, F, ρ, env, C, S0, E0, ?_⟩
  unfold xLc2 S.bind at g
  cases hit : it env C with
  | none =>
    rw [hit] at g
    exact g
  | some r =>
    rw [hit] at g
    cases r with
    | ex c' p C' => exact g
    | ok p C' =>
      obtain ⟨ds, gd⟩ := p
      refine fun J H1 Hf1 ρ1 e1 p1 S1 w1 Dl hD => ?_
      simp only [] at g
      have E1 := (E0.mono e1 p1).plain.wipe vs
      have hF : F Dl = none := S1.fr.free hD
      -- what is left to show behind the outer loop, from acc
      have fin : ∀ (acc : List V) (dacc : List D) (C3 : Cells) (H2 Hf2 : Hp) (ρ2 : List Addr) (zs : List D) (C4 : Cells), lcs2 gd t c it1 t1 c1 x vs1 ds (wipeE env vs) C' = some (.ok zs C4) → Same Hf1 Hf2 → ρ1 <+: ρ2 → C3 = C4 → dacc = zs → SR X.K Hf2 (upd F Dl (.lst acc)) ρ2 C3 H2 → Dats X.K Hf2 ρ2 acc dacc → Q (.ref Dl) H2 := by
        intro acc dacc C3 H2 Hf2 ρ2 zs C4 hz e2 p2 e3 e4 S2 D2
        subst e3
        subst e4
        have g1 : GoL X.K X.mg W σ Hf F ρ (match lcs2 gd t c it1 t1 c1 x vs1 ds (wipeE env vs) C' with
          | some (.ok ys C3) => if ys.length ≤ 1000000 then some (.ok ys C3) else none
          | _ => none) Q := g
        rw [hz] at g1
        simp only [] at g1
        split at g1
        · exact g1 _ H2 Hf2 ρ2 (e1.trans e2) (p1.trans p2) (S2.outF hF D2)
        · exact g1.elim
      have tot : ∃ zs C4, lcs2 gd t c it1 t1 c1 x vs1 ds (wipeE env vs) C' = some (.ok zs C4) ∧ zs.length ≤ 1000000 := by
        have g1 : GoL X.K X.mg W σ Hf F ρ (match lcs2 gd t c it1 t1 c1 x vs1 ds (wipeE env vs) C' with
          | some (.ok ys C3) => if ys.length ≤ 1000000 then some (.ok ys C3) else none
          | _ => none) Q := g
        cases hz : lcs2 gd t c it1 t1 c1 x vs1 ds (wipeE env vs) C' with
        | none =>
          rw [hz] at g1
          exact g1.elim
        | some r =>
          rw [hz] at g1
          cases r with
          | ex _ _ _ => exact g1.elim
          | ok zs C4 =>
            simp only [] at g1
            split at g1
            · exact ⟨zs, C4, rfl, by assumption⟩
            · exact g1.elim
      obtain ⟨zs, C4, htot, hlen⟩ := tot
      -- the word: acc so far, and what the rest gives makes the whole
      let W1 : Nat → Hp → Prop := fun i H2 => ∃ Hf2 ρ2 C2 acc dacc ys, Same Hf1 Hf2 ∧ ρ1 <+: ρ2 ∧ SR X.K Hf2 (upd F Dl (.lst acc)) ρ2 C2 H2 ∧ Dats X.K Hf2 ρ2 acc dacc ∧
          lcs2 gd t c it1 t1 c1 x vs1 (ds.drop i) (wipeE env vs) C2 = some (.ok ys C4) ∧ dacc ++ ys = zs
      refine ⟨fun i m H2 => i ≤ ds.length ∧ m = ds.length - i ∧ W1 i H2, ⟨ds.length, Nat.zero_le _, rfl, Hf1, ρ1, C', [], [], zs, Same.refl _, List.prefix_refl _, S1.intoF hD, .nil, by rw [List.drop_zero]; exact htot, rfl⟩, ?_⟩
      rintro i m H2 ⟨hi, rfl, Hf2, ρ2, C2, acc, dacc, ys, e2, p2, S2, D2, g2, hz⟩
      by_cases hlt : i < ds.length
      · rw [List.drop_eq_getElem_cons hlt] at g2
        unfold lcs2 at g2
        by_cases hgd : gd C2 = true
        · rw [if_pos hgd] at g2
          obtain ⟨go, yl⟩ := (w1 i Hf2 _ ρ2 C2 H2 e2 p2 S2 hgd).1 hlt
          refine .inr ⟨go, W1 (i + 1), fun H3 q => ⟨ds.length - (i + 1), by omega, hlt, rfl, q⟩, fun y H3 hy => ?_⟩
          obtain ⟨d, Hf3, hd, e3, S3, D3⟩ := yl y H3 hy
          have ed : ds[i] = d := by
            rw [List.getElem?_eq_getElem hlt] at hd
            exact Option.some.inj hd
          rw [ed] at g2
          cases ht : t.put d (wipeE env vs) with
          | none =>
            rw [ht] at g2
            cases g2
          | some env3 =>
            rw [ht] at g2
            simp only [] at g2
            have E3 := E1.mono (e2.trans e3) p2
            refine ⟨Hf3, _, ρ2, wipeE env vs, C2, d, S3, E3, D3, env3, ht, fun σ4 E4 f4 => ⟨?_, Hf3, _, ρ2, env3, C2, S3, E4, ?_⟩⟩
            · rw [← wipe_wipe (σ := σ)]
              refine wipe_same ?_ fun j hj => f4 j fun z => hj (hv j z)
              rw [E4.len, hput _ _ _ ht, E3.len]
            · cases hc : c env3 C2 with
              | none =>
                rw [hc] at g2
                cases g2
              | some rc =>
                rw [hc] at g2
                cases rc with
                | ex c' q C3 => cases g2
                | ok b C3 =>
                  refine fun b' H4 Hf4 ρ4 e4 p4 S4 hb => ?_
                  have hb' : b' = b := hb
                  subst hb'
                  cases b' with
                  | false =>
                    simp only [] at g2
                    exact ⟨Hf4, ρ4, C3, acc, dacc, ys, (e2.trans e3).trans e4, p2.trans p4, S4, D2.mono (e3.trans e4) p4, g2, hz⟩
                  | true =>
                    simp only [] at g2
                    refine L2.iteT ?_
                    have E4' := E4.mono e4 p4
                    refine ⟨Hf4, _, ρ4, env3, C3, S4, E4', ?_⟩
                    cases hit1 : it1 env3 C3 with
                    | none =>
                      rw [hit1] at g2
                      cases g2
                    | some ri =>
                      rw [hit1] at g2
                      cases ri with
                      | ex _ _ _ => cases g2
                      | ok pp C5 =>
                        obtain ⟨ds1, gd1⟩ := pp
                        refine fun J1 H5 Hf5 ρ5 e5 p5 S5 w5 => ?_
                        simp only [] at g2
                        have E5 := (E4'.mono e5 p5).wipe vs1
                        cases hl : lcs gd1 t1 c1 x ds1 (wipeE env3 vs1) C5 with
                        | none =>
                          rw [hl] at g2
                          cases g2
                        | some rl =>
                          rw [hl] at g2
                          cases rl with
                          | ex _ _ _ => cases g2
                          | ok ys1 C6 =>
                            simp only [] at g2
                            cases hl2 : lcs2 gd t c it1 t1 c1 x vs1 (ds.drop (i + 1)) (wipeE env vs) C6 with
                            | none =>
                              rw [hl2] at g2
                              cases g2
                            | some r2 =>
                              rw [hl2] at g2
                              cases r2 with
                              | ex _ _ _ => cases g2
                              | ok ys2 C7 =>
                                simp only [Option.some.injEq, R.ok.injEq] at g2
                                obtain ⟨g2a, g2b⟩ := g2
                                subst g2b
                                subst g2a
                                -- the inner loop
                                let V1 : Nat → Hp → Prop := fun j H6 => ∃ Hf6 ρ6 C8 acc' dacc' ys', Same Hf5 Hf6 ∧ ρ5 <+: ρ6 ∧ SR X.K Hf6 (upd F Dl (.lst acc')) ρ6 C8 H6 ∧ Dats X.K Hf6 ρ6 acc' dacc' ∧
                                  lcs gd1 t1 c1 x (ds1.drop j) (wipeE env3 vs1) C8 = some (.ok ys' C6) ∧ dacc' ++ ys' ++ ys2 = zs
                                have e15 : Same Hf1 Hf5 := ((e2.trans e3).trans e4).trans e5
                                have p15 : ρ1 <+: ρ5 := (p2.trans p4).trans p5
                                refine ⟨fun j k H6 => j ≤ ds1.length ∧ k = ds1.length - j ∧ V1 j H6, ⟨ds1.length, Nat.zero_le _, rfl, Hf5, ρ5, C5, acc, dacc, ys1, Same.refl _, List.prefix_refl _, S5, D2.mono ((e3.trans e4).trans e5) (p4.trans p5), by rw [List.drop_zero]; exact hl, by rw [List.append_assoc]; exact hz⟩, ?_⟩
                                rintro j k H6 ⟨hj, rfl, Hf6, ρ6, C8, acc', dacc', ys', e6, p6, S6, D6, g6, hz6⟩
                                by_cases hjt : j < ds1.length
                                · rw [List.drop_eq_getElem_cons hjt] at g6
                                  unfold lcs at g6
                                  by_cases hgd1 : gd1 C8 = true
                                  · rw [if_pos hgd1] at g6
                                    obtain ⟨go1, yl1⟩ := (w5 j Hf6 _ ρ6 C8 H6 e6 p6 S6 hgd1).1 hjt
                                    refine .inr ⟨go1, V1 (j + 1), fun H7 q => ⟨ds1.length - (j + 1), by omega, hjt, rfl, q⟩, fun y7 H7 hy7 => ?_⟩
                                    obtain ⟨d7, Hf7, hd7, e7, S7, D7⟩ := yl1 y7 H7 hy7
                                    have ed7 : ds1[j] = d7 := by
                                      rw [List.getElem?_eq_getElem hjt] at hd7
                                      exact Option.some.inj hd7
                                    rw [ed7] at g6
                                    cases ht1 : t1.put d7 (wipeE env3 vs1) with
                                    | none =>
                                      rw [ht1] at g6
                                      cases g6
                                    | some env7 =>
                                      rw [ht1] at g6
                                      simp only [] at g6
                                      have E7 := E5.mono (e6.trans e7) p6
                                      refine ⟨Hf7, _, ρ6, wipeE env3 vs1, C8, d7, S7, E7, D7, env7, ht1, fun σ8 E8 f8 => ⟨?_, Hf7, _, ρ6, env7, C8, S7, E8, ?_⟩⟩
                                      · rw [← wipe_wipe (σ := σ4)]
                                        refine wipe_same ?_ fun jj hjj => f8 jj fun z => hjj (hv1 jj z)
                                        rw [E8.len, hput1 _ _ _ ht1, E7.len]
                                      · cases hc1 : c1 env7 C8 with
                                        | none =>
                                          rw [hc1] at g6
                                          cases g6
                                        | some rc =>
                                          rw [hc1] at g6
                                          cases rc with
                                          | ex _ _ _ => cases g6
                                          | ok b C9 =>
                                            refine fun b' H8 Hf8 ρ8 e8 p8 S8 hb => ?_
                                            have hb' : b' = b := hb
                                            subst hb'
                                            cases b' with
                                            | false =>
                                              simp only [] at g6
                                              exact ⟨Hf8, ρ8, C9, acc', dacc', ys', (e6.trans e7).trans e8, p6.trans p8, S8, D6.mono (e7.trans e8) p8, g6, hz6⟩
                                            | true =>
                                              simp only [] at g6
                                              refine L2.iteT ?_
                                              refine ⟨Hf8, _, ρ8, env7, C9, S8, E8.mono e8 p8, ?_⟩
                                              cases hx : x env7 C9 with
                                              | none =>
                                                rw [hx] at g6
                                                cases g6
                                              | some rx =>
                                                rw [hx] at g6
                                                cases rx with
                                                | ex _ _ _ => cases g6
                                                | ok dy C10 =>
                                                  simp only [] at g6
                                                  cases hl3 : lcs gd1 t1 c1 x (ds1.drop (j + 1)) (wipeE env3 vs1) C10 with
                                                  | none =>
                                                    rw [hl3] at g6
                                                    cases g6
                                                  | some r3 =>
                                                    rw [hl3] at g6
                                                    cases r3 with
                                                    | ex _ _ _ => cases g6
                                                    | ok ys3 C11 =>
                                                      simp only [Option.some.injEq, R.ok.injEq] at g6
                                                      obtain ⟨g6a, g6b⟩ := g6
                                                      subst g6b
                                                      subst g6a
                                                      refine fun vy H9 Hf9 ρ9 e9 p9 S9 D9 => ⟨acc', S9.fr Dl _ upd_same, ?_, ?_⟩
                                                      · have q := congrArg List.length hz6
                                                        simp only [List.length_append, List.length_cons] at q
                                                        have q2 := D6.len
                                                        have q3 : (1000000 : Nat) < sizeLine := by decide
                                                        omega
                                                      · refine ⟨Hf9, ρ9, C10, acc' ++ [vy], dacc' ++ [dy], ys3, ((e6.trans e7).trans e8).trans e9, (p6.trans p8).trans p9, S9.growF, (D6.mono ((e7.trans e8).trans e9) (p8.trans p9)).app (.cons D9 .nil), hl3, ?_⟩
                                                        rw [← hz6]
                                                        simp
                                  · rw [if_neg hgd1] at g6
                                    cases g6
                                · have ej : j = ds1.length := by omega
                                  subst ej
                                  rw [List.drop_eq_nil_of_le (Nat.le_refl _)] at g6
                                  unfold lcs at g6
                                  by_cases hgd1 : gd1 C8 = true
                                  · rw [if_pos hgd1] at g6
                                    simp only [Option.some.injEq, R.ok.injEq] at g6
                                    obtain ⟨g6a, g6b⟩ := g6
                                    subst g6b
                                    subst g6a
                                    rw [List.append_nil] at hz6
                                    exact .inl ⟨(w5 _ Hf6 _ ρ6 _ H6 e6 p6 S6 hgd1).2 (Nat.le_refl _), Hf6, ρ6, _, acc', dacc', ys2, e15.trans e6, p15.trans p6, S6, D6, hl2, hz6⟩
                                  · rw [if_neg hgd1] at g6
                                    cases g6
        · rw [if_neg hgd] at g2
          cases g2
      · have ei : i = ds.length := by omega
        subst ei
        rw [List.drop_eq_nil_of_le (Nat.le_refl _)] at g2
        unfold lcs2 at g2
        by_cases hgd : gd C2 = true
        · rw [if_pos hgd] at g2
          simp only [Option.some.injEq, R.ok.injEq] at g2
          obtain ⟨g2a, g2b⟩ := g2
          subst g2a
          rw [List.append_nil] at hz
          exact .inl ⟨(w1 _ Hf2 _ ρ2 C2 H2 e2 p2 S2 hgd).2 (Nat.le_refl _), fin acc dacc C2 H2 Hf2 ρ2 zs C4 htot e2 p2 g2b hz S2 D2⟩
        · rw [if_neg hgd] at g2
          cases g2
theorem sl_lc2 {e : Expr} {it it1 : SW} {t t1 : Tg} {c c1 : S Bool} {x : S D} {vs vs1 : List Nat} (hv : ∀ j ∈ t.at_, j ∈ vs) (hv1 : ∀ j ∈ t1.at_, j ∈ vs1) (hput : ∀ d e e', t.put d e = some e' → e'.length = e.length) (hput1 : ∀ d e e', t1.put d e = some e' → e'.length = e.length)
    (h : PE X e (tLc2 (tI X.K X.mg W it) (gG X.K X.mg none t) (tT X.K X.mg W0 c) (tI X.K X.mg W0 it1) (gG X.K X.mg none t1) (tT X.K X.mg W0 c1) (tE X.K X.mg W0 x) vs vs1)) : SL X W e (xLc2 it t c it1 t1 c1 x vs vs1) := pe_imp h fun _ _ _ q => goLc2 hv hv1 hput hput1 q
end
/-! ### targets keep the number of slots -/
theorem gN_len (i : Nat) (d : D) (e e' : Env) (h : (gN i).put d e = some e') : e'.length = e.length := by
  have q := Option.some.inj h
  rw [← q, List.length_set]
theorem gsN_lenE (ds : List D) (e e' : Env) (h : gsN.put ds e = some e') : e'.length = e.length := by
  cases ds with
  | nil =>
    have q := Option.some.inj h
    rw [← q]
  | cons _ _ => cases h
theorem gsC_lenE {t : Tg} {u : Tgs} (h1 : ∀ d e e', t.put d e = some e' → e'.length = e.length) (h2 : ∀ ds e e', u.put ds e = some e' → e'.length = e.length) (ds : List D) (e e' : Env) (h : (gsC t u).put ds e = some e') : e'.length = e.length := by
  cases ds with
  | nil => cases h
  | cons d ds =>
    obtain ⟨e1, q1, q2⟩ := Option.bind_eq_some_iff.mp (show (t.put d e).bind (u.put ds) = some e' from h)
    rw [h2 _ _ _ q2, h1 _ _ _ q1]
theorem gT_len {u : Tgs} (h : ∀ ds e e', u.put ds e = some e' → e'.length = e.length) (d : D) (e e' : Env) (q : (gT u).put d e = some e') : e'.length = e.length := by
  cases d with
  | tup ds => exact h ds e e' q
  | _ => cases q
/-- no tests -/
theorem st_nil {X : Cx} {W : Wh} : PTs X [] (tT X.K X.mg W (S.val true)) := ⟨fun pins s σ H Q I h => by
  obtain ⟨Hf, F, ρ, env, C, S0, E0, g⟩ := h
  exact (pts_nil (X := X)).run pins s σ H Q I (Go.val (env := env) g S0 (v := true) rfl)⟩
end Sm
end
section
set_option maxRecDepth 100000
set_option maxHeartbeats 0
namespace Sm
open PySem L2
variable {K : PySem.W.Frag} {mg : Str → Option Value}
section
variable {X : Cx} {W : Wh}
/-! ### two comparisons in a row -/
theorem se_chain {op op' : CmpOp} {a b c : Expr} {pos : Pos} {r r' : R2} {f f' : D → D → Option D} {sa sb sc : S D} (ho : OpR X (compareOp op) r) (hf : Op2 X.K r f) (ho' : OpR X (compareOp op') r') (hf' : Op2 X.K r' f') (ha : SE X W a sa) (hb : SE X W b sb) (hc : SE X W c sc)
    (hm : lastMarks [op, op'] [b, c] = false) : SE X W (.Compare a [op, op'] [b, c] pos) (xChain f f' sa sb sc) := pe_imp (pe_chain ho ho' ha hb hc hm) fun _ _ _ q => goChain hf hf' q
theorem sb_chain {op op' : CmpOp} {a b c : Expr} {pos : Pos} {r r' : R2} {f f' : D → D → Option D} {sa sb sc : S D} (ho : OpR X (compareOp op) r) (hf : Op2 X.K r f) (ho' : OpR X (compareOp op') r') (hf' : Op2 X.K r' f') (ha : SE X W a sa) (hb : SE X W b sb) (hc : SE X W c sc)
    (hm : lastMarks [op, op'] [b, c] = false) : SB X W (.Compare a [op, op'] [b, c] pos) (xB (xChain f f' sa sb sc)) := pt_imp (pt_chain ho ho' ha hb hc hm) fun _ _ _ q => goChain hf hf' (goB q)
/-! ### a, b = x, y -/
def xPar (i j : Nat) (s : S (List D)) : SS := xDo s fun ds e C => match ds with
  | [x, y] => some (.nx ((e.set i (some x)).set j (some y)) C)
  | _ => none
theorem sc_par {i j : Nat} {x y : Str} {a b : Expr} {px py pt pos : Pos} {kt k2 pt2} {s : S (List D)} (h : PS X (.Assign [.Tuple [.Name x px, .Name y py] kt pt] (.Tuple [a, b] k2 pt2) pos) (tPar i j (tA X.K X.mg W s))) :
    SC X W (.Assign [.Tuple [.Name x px, .Name y py] kt pt] (.Tuple [a, b] k2 pt2) pos) (xPar i j s) :=
  ps_imp h fun D σ H ⟨Hf, F, ρ, env, C, S0, E0, g⟩ => ⟨Hf, F, ρ, env, C, S0, E0, (GoS.doit E0 g).mono fun vs H1 ⟨Hf1, ρ1, C1, ds, e1, p1, S1, A1, g1⟩ => by
    match ds, A1, g1 with
    | [d, d'], .cons (v := v) h (.cons (v := v') h' .nil), g1 => exact ⟨v, v', rfl, g1 _ H1 Hf1 ρ1 (Same.refl _) (List.prefix_refl _) S1 (((E0.mono e1 p1).set h i).set h' j)⟩
    | [], _, g1 => exact g1.elim
    | [_], _, g1 => exact g1.elim
    | _ :: _ :: _ :: _, _, g1 => exact g1.elim⟩
/-! ### an empty dict, as data -/
theorem se_dnil {pos : Pos} : SE X W (.Dict [] [] pos) (S.val (.dk [] [])) := pe_imp pe_dnewK fun σ H Q ⟨Hf, F, ρ, env, C, S0, E0, g⟩ => fun p hp => by
  obtain ⟨S1, e1⟩ := S0.new (o := .dK []) hp
  exact g (.ref p) _ _ ρ e1 (List.prefix_refl _) S1 (.dk upd_same rfl .nil)
/-! ### what stands at the top -/
theorem se_ty {e : Expr} {T : String} (h : PE X e (tC (.ty T))) : SE X W e (S.val (.opq (.ty T))) := se_const h fun _ _ => .opq _
theorem se_int {i j pos} : SE X W (.Constant (.int i) j pos) (S.val (.int i)) := se_const pe_int fun _ _ => .int _
theorem se_bl {i j pos} : SE X W (.Constant (.bool i) j pos) (S.val (.bl i)) := se_const pe_bl fun _ _ => .bl _
theorem se_non {j pos} : SE X W (.Constant .none j pos) (S.val .non) := se_const pe_non fun _ _ => .non
theorem se_str {i j pos} : SE X W (.Constant (.str i) j pos) (S.val (.str i)) := se_const pe_str fun _ _ => .str _
theorem se_gint {x : Str} {pos : Pos} {i : Int} {t : Tok} (hg : Gl X x) (hm : X.mg x = some (.int i t)) (hd : (x == ("__debug__" : Str)) = false) : SE X W (.Name x pos) (S.val (.int i)) := se_const (pe_glob (v := .int i) hg hm ⟨_, rfl⟩ hd) fun _ _ => .int _
theorem se_gintE {x : Str} {pos : Pos} {i : Int} (hg : Gl X x) (hm : ∃ t, X.mg x = some (.int i t)) (hd : (x == ("__debug__" : Str)) = false) : SE X W (.Name x pos) (S.val (.int i)) := by
  obtain ⟨t, hm⟩ := hm
  exact se_gint hg hm hd
end
section
open PyProof.Rows
variable {P : Program} {w : World} {base : Heap}
/-- a def of the text, by its object -/
theorem ok_of {x qual : Str} {st : Stmt} {f : Addr} {fd : FuncData} {N ps : List Str} {n k : Nat} {b : SS} (F : L2.Fun K x qual st f fd) (Sc : FnScope N ps (defScope st)) (hn : ps.length = n)
    (body : ∀ (cdv : Value) (A : Around) (outer : List PySem.Env) (s : Shared) (H : Hp) (E : XK), Room k (A.deeper (envOfC qual (defScope st) s.heap.objs.size f cdv)) → SCs (cxOf (L2.CX P w) P w K mg base N qual (defScope st) f cdv A outer s H E) (WF E) (defBody st) b) :
    FnOk P w K mg base (L2.CX P w) (k + 1) f fd ps (spS K mg n (xDef n N.length b)) :=
  F.okX Sc (fun vs H Q E h => by rw [hn]; exact h.1) fun cdv A outer s H vs Q E hr h => ⟨_, body cdv A outer s H E hr, goDef h⟩
end
/-- what a law promises -/
def spLaw (K : PySem.W.Frag) : Sp := fun vs H Q _ => ∃ (a : Addr) (ns : List Int), vs = [.ref a] ∧ SqL K H a (ns.map V.int) ∧ ns.length ≤ 63 ∧ ∀ H', Q (.bl true) H'
theorem dats_ints {H : Hp} {ρ : List Addr} : ∀ ns : List Int, Dats K H ρ (ns.map V.int) (ns.map D.int)
  | [] => .nil
  | n :: ns => .cons (.int n) (dats_ints ns)
/-- a law, from what its text comes to at each script -/
theorem law_end {f : Fn} (h : ∀ ns : List Int, ns.length ≤ 63 → f [.lst (ns.map D.int)] [] = some (.ok (.bl true) [])) {vs : List V} {H : Hp} {Q : VK} {E : XK} (q : spLaw K vs H Q E) : spS K mg 1 f vs H Q E := by
  obtain ⟨a, ns, rfl, hS, hl, k⟩ := q
  refine ⟨rfl, H, fun _ => none, [], [], [.lst (ns.map D.int)], ⟨Same.refl _, fun b o z => (by cases z), fun b o z => (by cases z), rfl, fun n a o z => (by simp at z), fun m n a o u z => (by simp at z)⟩, .cons (.lst hS (dats_ints ns)) .nil, ?_⟩
  rw [h ns hl]
  exact fun v H' Hf' ρ' _ _ _ d => by
    cases d
    exact k H'
theorem cx_none {P : Program} {w : World} (H : Hp) (s : Shared) (e : Value) (s' : Shared) : L2.CX P w [] H s (fun _ _ _ => False) e s' → False := fun ⟨_, _, _, _, _, _, _, _, _, _, _, _, z⟩ => z
end Sm
end
section
set_option maxRecDepth 100000
set_option maxHeartbeats 0
set_option exponentiation.threshold 1000000
namespace Sm
open PySem L2
/-! ### reckoning -/
def typed : D → Bool
  | .non => true
  | .bl _ => true
  | .int _ => true
  | .str _ => true
  | .tup _ => true
  | .lst _ => true
  | .dk _ _ => true
  | _ => false
def wholeB : D → Bool
  | .int _ => true
  | _ => false
def tupB : D → Bool
  | .tup _ => true
  | _ => false
def blB : D → Bool
  | .bl _ => true
  | _ => false
def intB : D → Bool
  | .int _ => true
  | .bl _ => true
  | _ => false
section
variable {C : Cells} {d : D}
theorem isi_int (h : typed d = true) : dIsi [d, .opq (.ty "int")] = some (.bl (intB d)) := by
  cases d <;> first | rfl | (simp [typed] at h)
theorem isi_bool (h : typed d = true) : dIsi [d, .opq (.ty "bool")] = some (.bl (blB d)) := by
  cases d <;> first | rfl | (simp [typed] at h)
theorem isi_tup (h : typed d = true) : dIsi [d, .opq (.ty "tuple")] = some (.bl (tupB d)) := by
  cases d <;> first | rfl | (simp [typed] at h)
theorem vw_t (h : typed d = true) : vw C d = d := by
  cases d <;> first | rfl | (simp [typed] at h)
theorem ie_t (h : typed d = true) : isErr d = false := by
  cases d <;> first | rfl | (simp [typed] at h)
theorem vw_n : vw C .non = .non := rfl
theorem vw_b {b : Bool} : vw C (.bl b) = .bl b := rfl
theorem vw_i {i : Int} : vw C (.int i) = .int i := rfl
theorem vw_s {x : Str} : vw C (.str x) = .str x := rfl
theorem vw_u {ds : List D} : vw C (.tup ds) = .tup ds := rfl
theorem vw_l {ds : List D} : vw C (.lst ds) = .lst ds := rfl
theorem vw_o {v : V} : vw C (.opq v) = .opq v := rfl
theorem vw_c {n : Nat} {ds : List D} (h : C[n]? = some (some (.l ds))) : vw C (.cel n) = .lst ds := by
  unfold vw
  simp [h]
theorem ie_n : isErr .non = false := rfl
theorem ie_b {b : Bool} : isErr (.bl b) = false := rfl
theorem ie_i {i : Int} : isErr (.int i) = false := rfl
theorem ie_s {x : Str} : isErr (.str x) = false := rfl
theorem ie_u {ds : List D} : isErr (.tup ds) = false := rfl
theorem ie_l {ds : List D} : isErr (.lst ds) = false := rfl
theorem ie_c {n : Nat} : isErr (.cel n) = false := rfl
theorem x10 : ixN 1 0 = some 0 := rfl
theorem x20 : ixN 2 0 = some 0 := rfl
theorem x21 : ixN 2 1 = some 1 := rfl
theorem x30 : ixN 3 0 = some 0 := rfl
theorem x31 : ixN 3 1 = some 1 := rfl
theorem x32 : ixN 3 2 = some 2 := rfl
theorem ixN_nat {n i : Nat} (h : i < n) : ixN n (i : Int) = some i := by
  unfold ixN
  have : (0 : Int) ≤ (i : Int) := Int.natCast_nonneg i
  simp [h, this]
theorem fin_b {b : Bool} : fin C.length (.bl b) C = some (.ok (.bl b) C) := by simp [fin, nocel]
theorem fin_i {b : Int} : fin C.length (.int b) C = some (.ok (.int b) C) := by simp [fin, nocel]
theorem fin_n {k : Nat} (h : nocel d = true) : fin k d C = some (.ok d (C.take k)) := by simp [fin, h]
theorem small2 {b : Int} {n k : Nat} (h : b.natAbs < 2 ^ k) (hk : k ≤ n) : b.natAbs < 2 ^ n := Nat.lt_of_lt_of_le h (Nat.pow_le_pow_right (by decide) hk)
theorem eq_ii {i j : Int} : dEq (.int i) (.int j) = some (.bl (i == j)) := by simp [dEq, okE, eqd]
theorem ne_ii {i j : Int} : dNe (.int i) (.int j) = some (.bl (!(i == j))) := by simp [dNe, okE, eqd]
/-- the items of a walk are done one by one, and none stops -/
theorem lcs_map {g : Gd} {t : Tg} {c : S Bool} {x : S D} {e : Env} {C : Cells} (hg : g C = true) {p : D → Bool} {f : D → D} : ∀ (ds : List D), (∀ d ∈ ds, ∃ e1, t.put d e = some e1 ∧ c e1 C = some (.ok (p d) C) ∧ (p d = true → x e1 C = some (.ok (f d) C))) →
    lcs g t c x ds e C = some (.ok ((ds.filter p).map f) C)
  | [], _ => by
    unfold lcs
    rw [if_pos hg]
    rfl
  | d :: r, h => by
    obtain ⟨e1, h1, h2, h3⟩ := h d List.mem_cons_self
    have ih := lcs_map hg r fun d' hd' => h d' (List.mem_cons_of_mem _ hd')
    unfold lcs
    rw [if_pos hg, h1]
    cases hp : p d with
    | false =>
      rw [hp] at h2
      simp only [h2, ih, List.filter_cons, hp, Bool.false_eq_true, if_false]
    | true =>
      rw [hp] at h2
      simp only [h2, h3 hp, ih, List.filter_cons, hp, if_true, List.map_cons]
/-- the cells go on changing: an invariant P -/
theorem lcs_inv {t : Tg} {x : S D} {e : Env} (P : Nat → Cells → Prop) (Y : D → Prop) : ∀ (ds : List D) (k : Nat) (C : Cells), P k C → (∀ d ∈ ds, ∀ k C, P k C → ∃ e1, t.put d e = some e1 ∧ ∃ y C1, x e1 C = some (.ok y C1) ∧ Y y ∧ P (k + 1) C1) →
    ∃ ys C1, lcs gd0 t (S.val true) x ds e C = some (.ok ys C1) ∧ ys.length = ds.length ∧ (∀ y ∈ ys, Y y) ∧ P (k + ds.length) C1
  | [], k, C, h, _ => ⟨[], C, by unfold lcs; rfl, rfl, fun y hy => (by cases hy), h⟩
  | d :: r, k, C, h, hs => by
    obtain ⟨e1, h1, y, C1, h2, h3, h4⟩ := hs d List.mem_cons_self k C h
    obtain ⟨ys, C2, g1, g2, g3, g4⟩ := lcs_inv P Y r (k + 1) C1 h4 fun d' hd' => hs d' (List.mem_cons_of_mem _ hd')
    refine ⟨y :: ys, C2, ?_, by simp [g2], ?_, ?_⟩
    · unfold lcs
      simp only [gd0, if_true, h1, S.val, h2, g1]
    · intro z hz
      rcases List.mem_cons.mp hz with rfl | hz
      · exact h3
      · exact g3 z hz
    · rw [List.length_cons]
      have : k + (r.length + 1) = k + 1 + r.length := by omega
      rw [this]
      exact g4
end
end Sm
end
section
set_option maxRecDepth 100000
set_option maxHeartbeats 0
set_option exponentiation.threshold 1000000
namespace Sm
open L2
theorem xLc_ok {it : SW} {t : Tg} {c : S Bool} {x : S D} {vs : List Nat} {e : Env} {C C1 C2 : Cells} {ds ys : List D} {g : Gd} (hi : it e C = some (.ok (ds, g) C1)) (hl : ds.length ≤ 1000000) (h : lcs g t c x ds (wipeE e vs) C1 = some (.ok ys C2)) : xLc it t c x vs e C = some (.ok ys C2) := by
  unfold xLc S.bind
  rw [hi]
  simp only [hl, if_true]
  exact h
theorem xFor_ok {it : SW} {t : Tg} {b : SS} {e : Env} {C C1 : Cells} {ds : List D} {g : Gd} (hi : it e C = some (.ok (ds, g) C1)) : xFor it t b e C = lp g t b ds e C1 := by
  unfold xFor xDo
  rw [hi]
/-- a loop whose turns all go on: P of the slots and the cells -/
theorem lp_inv {t : Tg} {b : SS} (P : Nat → Env → Cells → Prop) : ∀ (ds : List D) (k : Nat) (e : Env) (C : Cells), P k e C → (∀ d ∈ ds, ∀ j e C, j < k + ds.length → P j e C → ∃ e1, t.put d e = some e1 ∧ ∃ e2 C2, b e1 C = some (.nx e2 C2) ∧ P (j + 1) e2 C2) →
    ∃ e2 C2, lp gd0 t b ds e C = some (.nx e2 C2) ∧ P (k + ds.length) e2 C2
  | [], k, e, C, h, _ => ⟨e, C, by unfold lp; rfl, h⟩
  | d :: r, k, e, C, h, hs => by
    obtain ⟨e1, h1, e2, C2, h2, h3⟩ := hs d List.mem_cons_self k e C (by rw [List.length_cons]; omega) h
    obtain ⟨e3, C3, g1, g2⟩ := lp_inv P r (k + 1) e2 C2 h3 fun d' hd' j e C hj => hs d' (List.mem_cons_of_mem _ hd') j e C (by rw [List.length_cons]; omega)
    refine ⟨e3, C3, ?_, ?_⟩
    · unfold lp
      simp only [gd0, if_true, h1, h2, g1]
    · rw [List.length_cons]
      have : k + (r.length + 1) = k + 1 + r.length := by omega
      rw [this]
      exact g2
/-- a comprehension whose cells go on changing: an invariant P -/
theorem lcs_go {t : Tg} {x : S D} {e : Env} (P : Nat → Cells → Prop) (Y : D → Prop) : ∀ (ds : List D) (k : Nat) (C : Cells), P k C → (∀ d ∈ ds, ∀ j C, j < k + ds.length → P j C → ∃ e1, t.put d e = some e1 ∧ ∃ y C1, x e1 C = some (.ok y C1) ∧ Y y ∧ P (j + 1) C1) →
    ∃ ys C1, lcs gd0 t (S.val true) x ds e C = some (.ok ys C1) ∧ ys.length = ds.length ∧ (∀ y ∈ ys, Y y) ∧ P (k + ds.length) C1
  | [], k, C, h, _ => ⟨[], C, by unfold lcs; rfl, rfl, fun y hy => (by cases hy), h⟩
  | d :: r, k, C, h, hs => by
    obtain ⟨e1, h1, y, C1, h2, h3, h4⟩ := hs d List.mem_cons_self k C (by rw [List.length_cons]; omega) h
    obtain ⟨ys, C2, g1, g2, g3, g4⟩ := lcs_go P Y r (k + 1) C1 h4 fun d' hd' j C hj => hs d' (List.mem_cons_of_mem _ hd') j C (by rw [List.length_cons]; omega)
    refine ⟨y :: ys, C2, ?_, by simp [g2], ?_, ?_⟩
    · unfold lcs
      simp only [gd0, if_true, h1, S.val, h2, g1]
    · intro z hz
      rcases List.mem_cons.mp hz with rfl | hz
      · exact h3
      · exact g3 z hz
    · rw [List.length_cons]
      have : k + (r.length + 1) = k + 1 + r.length := by omega
      rw [this]
      exact g4
theorem rng1_ok {z : Int} (h0 : 0 ≤ z) (h1 : z ≤ 1000000) : rng1 [.int z] = some (zs 0 z.toNat, gd0) := by
  have h : inRng z = true := inRng_iff.mpr (by omega)
  unfold rng1
  simp only [h, if_true]
theorem rng1_nat {n : Nat} (h1 : n ≤ 1000000) : rng1 [.int (n : Int)] = some (zs 0 n, gd0) := by
  rw [rng1_ok (by omega) (by omega)]
  rfl
theorem zs_mem {lo : Int} {n : Nat} {d : D} (h : d ∈ zs lo n) : ∃ i : Nat, i < n ∧ d = .int (lo + (i : Nat)) := by
  unfold zs at h
  obtain ⟨i, h1, h2⟩ := List.mem_map.mp h
  exact ⟨i, List.mem_range.mp h1, h2.symm⟩
end Sm
end
section
set_option maxRecDepth 100000
set_option maxHeartbeats 0
namespace Sm
open PySem L2 RZ
variable {K : PySem.W.Frag} {mg : Str → Option Value}
theorem units65 {k : Nat} {A : PySem.Around} (r : Room k A) : A.units + 65 < PySem.cLine := by
  have := r.un
  omega
/-! ### x in xs -/
def dIn : D → D → Option D := fun a b => match b with
  | .lst ds => if okE a 60 = true ∧ okE (.lst ds) 60 = true then some (.bl (ds.any fun z => eqd z a)) else none
  | _ => none
def dNotIn : D → D → Option D := fun a b => match b with
  | .lst ds => if okE a 60 = true ∧ okE (.lst ds) 60 = true then some (.bl (!ds.any fun z => eqd z a)) else none
  | _ => none
theorem any_eqv {a : D} {n : Nat} (ha : okE a n = true) : ∀ {ds : List D} {m : Nat}, okEs ds m = true → (toPs ds).any (fun z => PyData.eqv z (toP a)) = ds.any fun z => eqd z a
  | [], _, _ => rfl
  | d :: ds, m, h => by
    simp only [okEs, Bool.and_eq_true] at h
    simp only [toPs, List.any_cons, eqd_eqv d a m n h.1 ha, any_eqv ha h.2]
theorem in_ok {Hf F H : Hp} {ρ : List Addr} {Cs : Cells} {x y : V} {a : D} {ds : List D} (S0 : SR K Hf F ρ Cs H) (ha : Vw K H Hf ρ x a) (hb : Vw K H Hf ρ y (.lst ds)) (h : okE a 60 = true ∧ okE (.lst ds) 60 = true) :
    Dp K H x (toP a) ∧ Dp K H y (.list (toPs ds)) ∧ SeqAt.shaped (toP a) = true ∧ SeqAt.shaped (.list (toPs ds)) = true ∧ (toPs ds).any (fun z => PyData.eqv z (toP a)) = ds.any fun z => eqd z a :=
  ⟨ha.dp S0.ex h.1, hb.dp S0.ex h.2, okE_shaped h.1, okE_shaped h.2, any_eqv h.1 (m := 59) (by simpa [okE] using h.2)⟩
theorem op_dIn : Op2 K (rInD K) dIn := by
  intro Hf F ρ Cs H x y a b d Q S0 ha hb he k
  cases b with
  | lst ds =>
    unfold dIn at he
    simp only [] at he
    split at he
    · rename_i h
      have e := Option.some.inj he
      subst e
      obtain ⟨h1, h2, h3, h4, h5⟩ := in_ok S0 ha hb h
      refine ⟨_, _, h1, h2, h3, h4, ?_⟩
      rw [h5]
      exact k.here S0 (.bl _)
    · cases he
  | _ => cases he
theorem op_dNotIn : Op2 K (rNotInD K) dNotIn := by
  intro Hf F ρ Cs H x y a b d Q S0 ha hb he k
  cases b with
  | lst ds =>
    unfold dNotIn at he
    simp only [] at he
    split at he
    · rename_i h
      have e := Option.some.inj he
      subst e
      obtain ⟨h1, h2, h3, h4, h5⟩ := in_ok S0 ha hb h
      refine ⟨_, _, h1, h2, h3, h4, ?_⟩
      rw [h5]
      exact k.here S0 (.bl _)
    · cases he
  | _ => cases he
/-! ### parts -/
def cutD (ds : List D) (lo hi : Option Int) : List D := (ds.drop (HT.sIx ds.length 0 lo)).take (HT.sIx ds.length ds.length hi - HT.sIx ds.length 0 lo)
theorem cut_dats {H : Hp} {ρ : List Addr} {xs : List V} {ds : List D} (h : Dats K H ρ xs ds) (lo hi : Option Int) : Dats K H ρ (cutV xs lo hi) (cutD ds lo hi) := by
  unfold cutV cutD
  rw [h.len]
  exact (h.drop _).take _
abbrev ROp : Hp → List Addr → Option Int → Option Int → Prop := fun _ _ a b => a = b
def tO (K : PySem.W.Frag) (mg : Str → Option Value) (W : Wh) (s : S (Option Int)) : TO := tG K mg W ROp s
section
variable {X : Cx} {W : Wh}
def SO (X : Cx) (W : Wh) (e : Option Expr) (s : S (Option Int)) : Prop := PO X e (tO X.K X.mg W s)
theorem po_imp {e : Option Expr} {t u : TO} (h : PO X e t) (k : ∀ σ H Q, u σ H Q → t σ H Q) : PO X e u := ⟨fun pins s σ H Q I q => h.run pins s σ H Q I (k σ H Q q)⟩
def oNo : S (Option Int) := S.val none
def oE (s : S D) : S (Option Int) := S.bind s fun d => S.opt (match d with
  | .int i => some (some i)
  | _ => none)
theorem so_no : SO X W none oNo := po_imp po_none fun σ H Q ⟨Hf, F, ρ, env, C, S0, E0, g⟩ => Go.val g S0 rfl
theorem so_e {e : Expr} {s : S D} (h : SE X W e s) : SO X W (some e) (oE s) := po_imp (po_some h) fun σ H Q ⟨Hf, F, ρ, env, C, S0, E0, g⟩ => ⟨Hf, F, ρ, env, C, S0, E0, (Go.bind g).mono fun x H1 ⟨Hf1, ρ1, C1, a, e1, p1, S1, A1, g1⟩ => by
  obtain ⟨d, hd, g3⟩ := Go.opt g1
  cases a with
  | int i =>
    cases A1
    have e : some i = d := Option.some.inj hd
    exact ⟨i, rfl, g3 (some i) H1 Hf1 ρ1 (Same.refl _) (List.prefix_refl _) S1 e⟩
  | _ => cases hd⟩
def dSl (d : D) (lo hi : Option Int) : Option D := match d with
  | .tup ds => some (.tup (cutD ds lo hi))
  | .lst ds => some (.lst (cutD ds lo hi))
  | _ => none
def xSl (s : S D) (lo hi : S (Option Int)) : S D := S.bind s fun d => S.bind lo fun l => S.bind hi fun h => fun env C => S.opt (dSl (vw C d) l h) env C
theorem cutD_all {ds : List D} {lo hi : Option Int} (h : HT.sIx ds.length 0 lo = 0 ∧ HT.sIx ds.length ds.length hi = ds.length) : cutD ds lo hi = ds := by
  unfold cutD
  rw [h.1, h.2]
  simp
theorem se_sl {e : Expr} {lo hi : Option Expr} {pos p2 : Pos} {s : S D} {l h : S (Option Int)} (he : SE X W e s) (hl : SO X W lo l) (hh : SO X W hi h) : SE X W (.Subscript e (.Slice lo hi none p2) pos) (xSl s l h) :=
  pe_imp (pe_slice (r := fun x lo hi H Q => rSlA X.K x lo hi H Q ∨ rSlL X.K x lo hi H Q) (SlR.or sl_tupA sl_list) he hl hh) fun σ H Q ⟨Hf, F, ρ, env, C, S0, E0, g⟩ =>
    ⟨Hf, F, ρ, env, C, S0, E0, (Go.bind g).mono fun x H1 ⟨Hf1, ρ1, C1, a, e1, p1, S1, A1, g1⟩ =>
      ⟨Hf1, F, ρ1, env, C1, S1, E0.mono e1 p1, (Go.bind g1).mono fun lo H2 ⟨Hf2, ρ2, C2, b, e2, p2, S2, B2, g2⟩ =>
        ⟨Hf2, F, ρ2, env, C2, S2, (E0.mono e1 p1).mono e2 p2, (Go.bind g2).mono fun hi H3 ⟨Hf3, ρ3, C3, c, e3, p3, S3, B3, g3⟩ => by
          have eb : lo = b := B2
          have ec : hi = c := B3
          subst eb
          subst ec
          obtain ⟨d, hd, g4⟩ := Go.opt g3
          have k : Ans X.K Hf3 F ρ3 C3 d Q := fun v H' Hf' ρ' e' p' S' D' => g4 v H' Hf' ρ' e' p' S' D'
          have hv := vw_ok S3 (A1.mono (e2.trans e3) (p2.trans p3))
          cases hw : vw C3 a with
          | tup ds =>
            rw [hw] at hd hv
            have e := Option.some.inj hd
            subst e
            obtain ⟨ad, xs, rfl, hx, hxf, hs⟩ := hv.tup S3.ex
            have hl := hs.len
            refine .inl ⟨ad, xs, rfl, hx, fun hz => ?_, fun _ => k.tup S3 (cut_dats hs _ _)⟩
            rw [hl] at hz
            rw [cutD_all hz] at k
            exact k.here S3 (.tup hxf hs)
          | lst ds =>
            rw [hw] at hd hv
            have e := Option.some.inj hd
            subst e
            obtain ⟨ad, xs, rfl, hx, hs⟩ := hv.lst S3.ex
            exact .inr ⟨ad, xs, rfl, hx, k.lst S3 (cut_dats hs _ _)⟩
          | _ =>
            rw [hw] at hd
            cases hd⟩⟩⟩
/-! ### list(xs): a new list -/
def lsOf (ds : List D) : Option (List D) := match ds with
  | [.lst es] => some es
  | [.tup es] => some es
  | _ => none
def xLs (s : S (List D)) : S (List D) := S.bind s fun ds => fun env C => S.opt (lsOf (ds.map (vw C))) env C
theorem sl_ls {x : Str} {p pos : Pos} {es : List Expr} {s : S (List D)} (h : PE X (.Call (.Name x p) es [] pos) (tCB (fun xs H Q => ∃ p ys, xs = [.ref p] ∧ (SqL X.K H p ys ∨ SqT X.K H p ys) ∧ ∀ l, H l = none → Q (.ref l) (upd H l (.lst ys))) (tA X.K X.mg W s))) :
    SL X W (.Call (.Name x p) es [] pos) (xLs s) := pe_imp h fun σ H Q ⟨Hf, F, ρ, env, C, S0, E0, g⟩ => ⟨Hf, F, ρ, env, C, S0, E0, by
    unfold xLs S.bind at g
    cases e : s env C with
    | none =>
      rw [e] at g
      exact g
    | some r =>
      rw [e] at g
      cases r with
      | ex c q C' => exact g
      | ok ds C' =>
        refine fun vs H' Hf' ρ' e' p' S' A' => ?_
        have g' : GoL X.K X.mg W σ Hf F ρ (S.opt (lsOf (ds.map (vw C'))) env C') Q := g
        cases hd : lsOf (ds.map (vw C')) with
        | none =>
          rw [hd] at g'
          exact g'.elim
        | some es =>
          rw [hd] at g'
          have hv := vws_ok S' A'
          unfold lsOf at hd
          split at hd
          · rename_i es0 heq
            have e0 := Option.some.inj hd
            subst e0
            rw [heq] at hv
            cases hv with
            | cons h hs =>
              cases hs
              obtain ⟨a, xs, rfl, hx, hs⟩ := h.lst S'.ex
              exact ⟨a, xs, rfl, .inl hx, fun l hl => g' (.ref l) _ Hf' ρ' e' p' (fresh_new S' hl hs)⟩
          · rename_i es0 heq
            have e0 := Option.some.inj hd
            subst e0
            rw [heq] at hv
            cases hv with
            | cons h hs =>
              cases hs
              obtain ⟨a, xs, rfl, hx, hxf, hs⟩ := h.tup S'.ex
              exact ⟨a, xs, rfl, .inr hx, fun l hl => g' (.ref l) _ Hf' ρ' e' p' (fresh_new S' hl hs)⟩
          · cases hd⟩
/-! ### o.extend(a new list) -/
def xExt (sr : S D) (sl : S (List D)) : S D := S.bind sr fun r => fun e C => if (live r C).isSome = true then (match sl e C with
  | some (.ok zs C2) => match live r C2 with
    | some (n, ds) => if nocels (ds ++ zs) = true ∧ ds.length + zs.length ≤ 1000000 then some (.ok .non (C2.set n (some (.l (ds ++ zs))))) else none
    | none => none
  | some (.ex c p C2) => some (.ex c p C2)
  | none => none) else none
theorem live_cell {a : D} {C : Cells} {n : Nat} {ds : List D} (q : live a C = some (n, ds)) : a = .cel n ∧ C[n]? = some (some (.l ds)) := by
  unfold live at q
  split at q
  · rename_i m
    split at q
    · rename_i ds' hc
      have q' := Option.some.inj q
      simp only [Prod.mk.injEq] at q'
      obtain ⟨rfl, rfl⟩ := q'
      exact ⟨rfl, hc⟩
    · cases q
  · cases q
theorem se_ext {o e : Expr} {p pos : Pos} {sr : S D} {sl : S (List D)} (h : PE X (.Call (.Attribute o "extend" p) [e] [] pos) (tBM X.K "list" rExtend (tE X.K X.mg W sr) (tCons (tL X.K X.mg W sl) tNil))) :
    SE X W (.Call (.Attribute o "extend" p) [e] [] pos) (xExt sr sl) := pe_imp h fun σ H Q ⟨Hf, F, ρ, env, C, S0, E0, g⟩ =>
  ⟨Hf, F, ρ, env, C, S0, E0, (Go.bind g).mono fun x H1 ⟨Hf1, ρ1, C1, a, e1, p1, S1, A1, g1⟩ => by
    try simp only [] at g1
    split at g1
    · rename_i hlv
      obtain ⟨⟨n, ds⟩, hl⟩ := Option.isSome_iff_exists.mp hlv
      obtain ⟨rfl, hc⟩ := live_cell hl
      cases A1 with
      | @cel _ ad hn =>
        obtain ⟨_, k2⟩ := S1.cel n ad _ hn hc
        obtain ⟨vs, hv, hd⟩ := k2.lst
        refine ⟨.inl ⟨rfl, vs, .inl (.inl hv)⟩, ?_⟩
        refine ⟨Hf1, F, ρ1, env, C1, S1, E0.mono e1 p1, ?_⟩
        cases hs : sl env C1 with
        | none =>
          rw [hs] at g1
          exact g1.elim
        | some r =>
          rw [hs] at g1
          cases r with
          | ex c q C2 => exact g1
          | ok zs C2 =>
            refine fun v H2 Hf2 ρ2 e2 p2 f2 => ?_
            simp only [] at g1
            cases hl2 : live (.cel n) C2 with
            | none =>
              rw [hl2] at g1
              exact g1.elim
            | some q =>
              obtain ⟨m, ds2⟩ := q
              obtain ⟨hm, hc2⟩ := live_cell hl2
              cases hm
              rw [hl2] at g1
              simp only [] at g1
              split at g1
              · rename_i nc
                cases f2 with
                | @mk pp ws _ hh hs2 S2 S2' nf =>
                  have e0 : Same Hf2 (upd Hf2 pp (.lst ws)) := fun b u q => by
                    rw [upd_ne (ne_of_none q nf)]
                    exact q
                  have hn2 := pre_get p2 hn
                  obtain ⟨_, k3⟩ := S2.cel n ad _ hn2 hc2
                  obtain ⟨vs2, hv2, hd2⟩ := k3.lst
                  have hd2' : Dats X.K (upd Hf2 pp (.lst ws)) ρ2 (vs2 ++ ws) (ds2 ++ zs) := (hd2.mono (Same.refl _) List.nil_prefix).app (hs2.mono e0 (List.prefix_refl _))
                  have l1 := hd2.len
                  have l2 := hs2.len
                  refine ⟨ad, pp, vs2, ws, rfl, rfl, hv2, hh, by rw [l1, l2]; exact small_ok nc.2, ?_⟩
                  exact g1 .non _ (upd Hf2 pp (.lst ws)) ρ2 (e2.trans e0) p2 (S2.setCel hn2 hc2 (hd2'.bare nc.1)) .non
              · exact g1.elim
    · exact g1.elim⟩
/-! ### zip of two -/
def prs (xs ys : List D) : List D := (xs.zip ys).map fun p => .tup [p.1, p.2]
theorem prs_get {xs ys : List D} {i : Nat} {x y : D} (h1 : xs[i]? = some x) (h2 : ys[i]? = some y) : (prs xs ys)[i]? = some (.tup [x, y]) := by
  unfold prs
  have : (xs.zip ys)[i]? = some (x, y) := by simp [List.getElem?_zip_eq_some, h1, h2]
  rw [List.getElem?_map, this]
  rfl
theorem prs_len (xs ys : List D) : (prs xs ys).length = min xs.length ys.length := by
  unfold prs
  simp
theorem wk_zt {Hf : Hp} {ρ : List Addr} {a b : Addr} {xs ys : List V} {ds es : List D} (hx : SqT K Hf a xs) (hd : Dats K Hf ρ xs ds) (hy : SqT K Hf b ys) (he : Dats K Hf ρ ys es) : Wk K Hf ρ (ItzT K a b) (prs ds es, gd0) := fun i Hf' F' ρ' C' H' e p S0 hg => by
  have hl := hd.len
  have hl2 := he.len
  have hx' : SqT K H' a xs := same_t S0.ex (same_t e hx)
  have hy' : SqT K H' b ys := same_t S0.ex (same_t e hy)
  have hE : ((prs ds es, gd0) : List D × Gd).1.length = min ds.length es.length := prs_len ds es
  refine ⟨fun hi => ?_, fun hi => ⟨xs, ys, hx', hy', by omega⟩⟩
  have hi' : i < xs.length := by omega
  have hi2 : i < ys.length := by omega
  refine ⟨⟨xs, ys, xs[i], ys[i], hx', hy', List.getElem?_eq_getElem hi', List.getElem?_eq_getElem hi2⟩, fun x H2 hyy => ?_⟩
  obtain ⟨T, u, w, rfl, hT, rfl, hu, hw⟩ := hyy
  obtain ⟨d, h1, h2⟩ := (hd.mono e p).getV (hu xs hx')
  obtain ⟨f, h3, h4⟩ := (he.mono e p).getV (hw ys hy')
  obtain ⟨Hf2, e2, S2, D2⟩ := S0.pair hT (.cons h2 (.cons h4 .nil))
  exact ⟨_, Hf2, prs_get h1 h3, e2, S2, D2⟩
theorem wk_zl {Hf : Hp} {ρ : List Addr} {a b : Addr} {ds es : List D} {g g' : Gd} (h : ∀ Hf' F' ρ' C' H', Same Hf Hf' → ρ <+: ρ' → SR K Hf' F' ρ' C' H' → g C' = true → ∃ xs, SqL K H' a xs ∧ Dats K Hf' ρ' xs ds)
    (h' : ∀ Hf' F' ρ' C' H', Same Hf Hf' → ρ <+: ρ' → SR K Hf' F' ρ' C' H' → g' C' = true → ∃ xs, SqL K H' b xs ∧ Dats K Hf' ρ' xs es) : Wk K Hf ρ (Itz K a b) (prs ds es, fun C => g C && g' C) := fun i Hf' F' ρ' C' H' e p S0 hg => by
  have hg2 : g C' = true ∧ g' C' = true := by simpa using hg
  obtain ⟨xs, hx', hd⟩ := h Hf' F' ρ' C' H' e p S0 hg2.1
  obtain ⟨ys, hy', he⟩ := h' Hf' F' ρ' C' H' e p S0 hg2.2
  have hl := hd.len
  have hl2 := he.len
  have hE : ((prs ds es, fun C => g C && g' C) : List D × Gd).1.length = min ds.length es.length := prs_len ds es
  refine ⟨fun hi => ?_, fun hi => ⟨xs, ys, hx', hy', by omega⟩⟩
  have hi' : i < xs.length := by omega
  have hi2 : i < ys.length := by omega
  refine ⟨⟨xs, ys, xs[i], ys[i], hx', hy', List.getElem?_eq_getElem hi', List.getElem?_eq_getElem hi2⟩, fun x H2 hyy => ?_⟩
  obtain ⟨T, u, w, rfl, hT, rfl, hu, hw⟩ := hyy
  obtain ⟨d, h1, h2⟩ := hd.getV (hu xs hx')
  obtain ⟨f, h3, h4⟩ := he.getV (hw ys hy')
  obtain ⟨Hf2, e2, S2, D2⟩ := S0.pair hT (.cons h2 (.cons h4 .nil))
  exact ⟨_, Hf2, prs_get h1 h3, e2, S2, D2⟩
/-- a list, or a changing one -/
def litems (d : D) (C : Cells) : Option (List D × Gd) := match d with
  | .lst ds => some (ds, gd0)
  | .cel n => match C[n]? with
    | some (some (.l ds)) => some (ds, gdC n ds)
    | _ => none
  | _ => none
theorem litems_ok {Hf F : Hp} {ρ : List Addr} {C : Cells} {H : Hp} {v : V} {d : D} {p : List D × Gd} (S0 : SR K Hf F ρ C H) (h : Dat K Hf ρ v d) (hp : litems d C = some p) :
    ∃ a xs, v = .ref a ∧ SqL K H a xs ∧ ∀ Hf' F' ρ' C' H', Same Hf Hf' → ρ <+: ρ' → SR K Hf' F' ρ' C' H' → p.2 C' = true → ∃ xs, SqL K H' a xs ∧ Dats K Hf' ρ' xs p.1 := by
  cases h with
  | @lst a xs ds h hs =>
    have e := Option.some.inj hp
    subst e
    exact ⟨a, xs, rfl, same_l S0.ex h, fun Hf' F' ρ' C' H' e q S2 _ => ⟨xs, same_l S2.ex (same_l e h), hs.mono e q⟩⟩
  | @cel n a h =>
    unfold litems at hp
    simp only [] at hp
    split at hp
    · rename_i ds hc
      have e := Option.some.inj hp
      subst e
      obtain ⟨_, k2⟩ := S0.cel n a _ h hc
      obtain ⟨vs, hv, hd⟩ := k2.lst
      refine ⟨a, vs, rfl, .inl (.inl hv), fun Hf' F' ρ' C' H' e q S2 hg => ?_⟩
      have hg' : gdC n ds C' = true := hg
      unfold gdC at hg'
      split at hg'
      · rename_i es hc'
        have := deqs_eq _ _ hg'
        subst this
        obtain ⟨_, k3⟩ := S2.cel n a _ (pre_get q h) hc'
        obtain ⟨vs', hv', hd'⟩ := k3.lst
        exact ⟨vs', .inl (.inl hv'), hd'.mono (Same.refl _) List.nil_prefix⟩
      · cases hg'
    · cases hp
  | _ => cases hp
def zips (ds : List D) (C : Cells) : Option (List D × Gd) := match ds with
  | [.tup xs, .tup ys] => some (prs xs ys, gd0)
  | [x, y] => match litems x C, litems y C with
    | some p, some q => some (prs p.1 q.1, fun C => p.2 C && q.2 C)
    | _, _ => none
  | _ => none
def iZp (s : S (List D)) : SW := S.bind s fun ds env C => S.opt (zips ds C) env C
theorem si_zip {elts : List Expr} {kk : Nat} {tpos p pos : Pos} {e e2 : Expr} {s : S (List D)} (h : PI X (.Tuple elts kk tpos) (.Call (.Name "zip" p) [e, e2] [] pos) (iZipA X.K (tA X.K X.mg W s))) :
    SI X W (.Tuple elts kk tpos) (.Call (.Name "zip" p) [e, e2] [] pos) (iZp s) := pi_imp h fun σ H R ⟨Hf, F, ρ, env, C, S0, E0, g⟩ =>
  ⟨Hf, F, ρ, env, C, S0, E0, (Go.bind g).mono fun vs H1 ⟨Hf1, ρ1, C1, ds, e1, p1, S1, A1, g1⟩ => by
    obtain ⟨q, hq, g2⟩ := Go.opt g1
    unfold zips at hq
    split at hq
    · rename_i xs ys
      have e := Option.some.inj hq
      subst e
      cases A1 with
      | cons h1 h2 =>
        cases h2 with
        | cons h2 h3 =>
          cases h3
          cases h1 with
          | @tup a us _ ha hus =>
            cases h2 with
            | @tup b ws _ hb hws =>
              exact ⟨a, b, us, ws, rfl, .inr ⟨same_t S1.ex ha, same_t S1.ex hb, g2 _ H1 Hf1 ρ1 (Same.refl _) (List.prefix_refl _) S1 (wk_zt ha hus hb hws)⟩⟩
    · split at hq
      · rename_i pp qq hp1 hp2
        have e := Option.some.inj hq
        subst e
        cases A1 with
        | cons h1 h2 =>
          cases h2 with
          | cons h2 h3 =>
            cases h3
            obtain ⟨a, us, rfl, ha, ka⟩ := litems_ok S1 h1 hp1
            obtain ⟨b, ws, rfl, hb, kb⟩ := litems_ok S1 h2 hp2
            exact ⟨a, b, us, ws, rfl, .inl ⟨ha, hb, g2 _ H1 Hf1 ρ1 (Same.refl _) (List.prefix_refl _) S1 (wk_zl ka kb)⟩⟩
      · cases hq
    · cases hq⟩
/-! ### x op= e, the slot read first -/
def xAugI (i : Nat) (f : D → D → Option D) (s : S D) : SS := fun e C => match e[i]? with
  | some (some x) => if isErr x = true then none else xDo s (fun y e2 C2 => match x, y with
    | .int a, .int b => (f (.int a) (.int b)).map fun z => RS.nx (e2.set i (some z)) C2
    | _, _ => none) e C
  | _ => none
theorem goAug {i : Nat} {f : D → D → Option D} {s : S D} {ti : TIp} (hf : ∀ (a b : Int) (d : D) (H : Hp) (Q : VK), f (.int a) (.int b) = some d → (∀ v, (∀ Hf ρ, Dat X.K Hf ρ v d) → Q v H) → ti (.int a) (.int b) H Q) {D0 : Ends} {σ : L2.St} {H : Hp} (h : tS X.K X.mg W (xAugI i f s) D0 σ H) : tAug i (tE X.K X.mg W s) ti D0 σ H := by
  obtain ⟨Hf, F, ρ, env, C, S0, E0, g⟩ := h
  unfold xAugI at g
  split at g
  · rename_i x hx
    split at g
    · exact g.elim
    · rename_i hne
      obtain ⟨v, h1, h2⟩ := E0.at_ i x hx (by simpa using hne)
      refine ⟨v, h1, Hf, F, ρ, env, C, S0, E0, (GoS.doit E0 g).mono fun y H1 ⟨Hf1, ρ1, C1, b, e1, p1, S1, B1, g1⟩ => ?_⟩
      cases x with
      | int a =>
        cases h2
        cases b with
        | int b =>
          cases B1
          simp only [] at g1
          cases hz : f (.int a) (.int b) with
          | none =>
            rw [hz] at g1
            exact g1.elim
          | some z =>
            rw [hz] at g1
            exact hf a b z H1 _ hz fun v hv => g1 _ H1 Hf1 ρ1 (Same.refl _) (List.prefix_refl _) S1 ((E0.mono e1 p1).set (hv _ _) i)
        | _ => exact g1.elim
      | _ => cases b <;> exact g1.elim
  · exact g.elim
theorem sc_aug {i : Nat} {x : Str} {e : Expr} {op : Operator} {pos pos' : Pos} {f : D → D → Option D} {s : S D} {ti : TIp} (hf : ∀ (a b : Int) (d : D) (H : Hp) (Q : VK), f (.int a) (.int b) = some d → (∀ v, (∀ Hf ρ, Dat X.K Hf ρ v d) → Q v H) → ti (.int a) (.int b) H Q)
    (h : PS X (.AugAssign (.Name x pos') op e pos) (tAug i (tE X.K X.mg W s) ti)) : SC X W (.AugAssign (.Name x pos') op e pos) (xAugI i f s) := ps_imp h fun D σ H q => goAug hf q
theorem au_add (a b : Int) (d : D) (H : Hp) (Q : VK) (h : dAdd (.int a) (.int b) = some d) (k : ∀ v, (∀ Hf ρ, Dat K Hf ρ v d) → Q v H) : ipI (fun i j => i + j) (.int a) (.int b) H Q := by
  have e := Option.some.inj h
  subst e
  exact ⟨a, b, rfl, rfl, k _ fun _ _ => .int _⟩
theorem au_sub (a b : Int) (d : D) (H : Hp) (Q : VK) (h : dSub (.int a) (.int b) = some d) (k : ∀ v, (∀ Hf ρ, Dat K Hf ρ v d) → Q v H) : ipI (fun i j => i - j) (.int a) (.int b) H Q := by
  have e := Option.some.inj h
  subst e
  exact ⟨a, b, rfl, rfl, k _ fun _ _ => .int _⟩
/-- ints times ints -/
def ipM : TIp := fun x y H Q => ∃ i j, x = .int i ∧ y = .int j ∧ CMulW i j ∧ Q (.int (i * j)) H
theorem ip_mulW : PIp X .Mult ipM := by
  intro pins s σ H x y v u Q I r1 r2 h
  obtain ⟨i, j, e1, e2, hc, q⟩ := h
  subst e1; subst e2
  obtain ⟨t, rfl⟩ := r1
  obtain ⟨t', rfl⟩ := r2
  exact PySem.P.imul_int ⟨.int _, H, I.tok _, ⟨_, rfl⟩, q⟩ hc.ok
theorem au_mul (a b : Int) (d : D) (H : Hp) (Q : VK) (h : dMul (.int a) (.int b) = some d) (k : ∀ v, (∀ Hf ρ, Dat K Hf ρ v d) → Q v H) : ipM (.int a) (.int b) H Q := by
  unfold dMul at h
  simp only [] at h
  split at h
  · rename_i hh
    have e := Option.some.inj h
    subst e
    exact ⟨a, b, rfl, rfl, wide_mul hh.1 hh.2 (by decide) (by decide) (by decide), k _ fun _ _ => .int _⟩
  · cases h
end
end Sm
end
section
set_option maxRecDepth 100000
set_option maxHeartbeats 0
namespace SmX
open PySem PySem.Spec PyProof.Rows L2
/-! ### t * 1, t * 0 -/
theorem mul_self (l : Addr) (items : Array Value) (n : Nat) (dd : Option Addr) (sl : Array (Option Value)) (x : Int) (u : Tok) (c0 : (decide (x < -(2 ^ 63)) || decide (x ≥ 2 ^ 63)) = false) (c1 : (items.isEmpty || x == 1) = true) :
    Meets (Builtin.«tuple.__mul__» ⟨[.ref l, .int x u], []⟩) (fun _ R s => s.heap.get? l = some { cls := .type "tuple", dict := dd, data := .seq items n, slots := sl } ∧ R (.ok (.ret (Value.ref l))) s) :=
  .of_wp fun prog w A R s h => by
    obtain ⟨hp, g, d, tk, os⟩ := s
    obtain ⟨hl, h⟩ := h
    have f1 := AutoSeq1.idx_int
    wp_walk using AutoSeq1.wpAny_loadPart' hl
    repeat (first
      | (refine wpAny_ite_false (decide_eq_false (by rw [c0]; exact Bool.false_ne_true)) ?_; wp_walk using AutoSeq1.wpAny_loadPart' hl)
      | (refine wpAny_ite_true (decide_eq_true (by rw [c1])) ?_; wp_walk using AutoSeq1.wpAny_loadPart' hl))
    exact ⟨_, rfl, h⟩
theorem mul_none (l : Addr) (items : Array Value) (n : Nat) (dd : Option Addr) (sl : Array (Option Value)) (x : Int) (u : Tok) (c0 : (decide (x < -(2 ^ 63)) || decide (x ≥ 2 ^ 63)) = false) (c1 : (items.isEmpty || x == 1) = false) (c2 : (decide (x ≤ 0) || items.isEmpty) = true) :
    Meets (Builtin.«tuple.__mul__» ⟨[.ref l, .int x u], []⟩) (fun _ R s => s.heap.get? l = some { cls := .type "tuple", dict := dd, data := .seq items n, slots := sl } ∧ R (.ok (.ret (Value.ref s.heap.objs.size))) { s with heap := s.heap.push { cls := Value.type "tuple", data := Data.seq #[] }, toks := s.toks }) :=
  .of_wp fun prog w A R s h => by
    obtain ⟨hp, g, d, tk, os⟩ := s
    obtain ⟨hl, h⟩ := h
    have f1 := AutoSeq1.idx_int
    wp_walk using AutoSeq1.wpAny_loadPart' hl
    repeat (first
      | (refine wpAny_ite_false (decide_eq_false (by rw [c0]; exact Bool.false_ne_true)) ?_; wp_walk using AutoSeq1.wpAny_loadPart' hl)
      | (refine wpAny_ite_false (decide_eq_false (by rw [c1]; exact Bool.false_ne_true)) ?_; wp_walk using AutoSeq1.wpAny_loadPart' hl)
      | (refine wpAny_ite_true (decide_eq_true (by rw [c2])) ?_; wp_walk using AutoSeq1.wpAny_loadPart' hl))
    exact ⟨_, rfl, h⟩
end SmX
namespace Sm
open PySem L2 PySem.Spec PyProof.Rows
variable {K : PySem.W.Frag} {mg : Str → Option Value}
/-- t * 1 is t; t * 0 is () -/
def rRep1 (K : PySem.W.Frag) : R2 := fun x y H Q => ∃ l k xs, x = .ref l ∧ y = .int k ∧ SqT K H l xs ∧ -1000 ≤ k ∧ k ≤ 1000 ∧ (((xs = [] ∨ k = 1) ∧ Q (.ref l) H) ∨ (xs ≠ [] ∧ k ≤ 0 ∧ ∀ p, H p = none → Q (.ref p) (upd H p (.tup []))))
theorem op_rep1 {X : Cx} : OpR X (binaryOp .Mult) (rRep1 X.K) := by
  intro pins s σ H x y v u Q I rx ry h
  obtain ⟨l, k, xs, rfl, rfl, hT, h1, h2, h⟩ := h
  cases rx
  obtain ⟨t, rfl⟩ := ry
  obtain ⟨its, r, ⟨⟨cls, dd, data, sl⟩, ho, hc, n, hd⟩, hs⟩ := I.tuple hT
  simp only at hc hd
  subst hc hd
  have hle : its.length = xs.length := r.length.symm
  have c0 : (decide (k < -(2 ^ 63)) || decide (k ≥ 2 ^ 63)) = false := by
    rw [decide_eq_false (by omega), decide_eq_false (by omega)] <;> rfl
  rcases h with ⟨hh, q⟩ | ⟨hne, hk, q⟩
  · have c1 : (its.toArray.isEmpty || k == 1) = true := by
      rcases hh with e | e
      · have : its = [] := List.eq_nil_of_length_eq_zero (by rw [hle, e]; rfl)
        rw [this]
        rfl
      · rw [e]
        simp
    exact wpAny_binaryOp_repeat_ref (T := "tuple") (U := "int") (by decide) ⟨_, ho, rfl⟩ (fun s' => typeIs_int s' k t) noFill_tuple_mul F.fills_int_mul F.slot_int_rmul repeat_tuple F.slot_int_index.lookup
      (call_meets F.slot_int_rmul (typeIs_int s k t) F.entry_int_rmul (F.args_int_rmul_2 _ _) (int_rmul_tuple k t l its.toArray n dd sl)
        ⟨ho, rfl, ⟨_, ho, rfl⟩, call_meets F.slot_tuple_mul ⟨_, ho, rfl⟩ F.entry_tuple_mul (F.args_tuple_mul_2 _ _) (SmX.mul_self l its.toArray n dd sl k t c0 c1) ⟨ho, .ref l, H, I, rfl, q⟩⟩)
  · have hn : its ≠ [] := fun e => hne (by
      rw [e] at hle
      exact List.eq_nil_of_length_eq_zero hle.symm)
    have hi : its.toArray.isEmpty = false := by
      cases its with
      | nil => exact absurd rfl hn
      | cons a b => rfl
    have c1 : (its.toArray.isEmpty || k == 1) = false := by
      rw [hi, Bool.false_or]
      exact beq_eq_false_iff_ne.mpr (by omega)
    have c2 : (decide (k ≤ 0) || its.toArray.isEmpty) = true := by
      rw [decide_eq_true hk, Bool.true_or]
    refine wpAny_binaryOp_repeat_ref (T := "tuple") (U := "int") (by decide) ⟨_, ho, rfl⟩ (fun s' => typeIs_int s' k t) noFill_tuple_mul F.fills_int_mul F.slot_int_rmul repeat_tuple F.slot_int_index.lookup
      (call_meets F.slot_int_rmul (typeIs_int s k t) F.entry_int_rmul (F.args_int_rmul_2 _ _) (int_rmul_tuple k t l its.toArray n dd sl)
        ⟨ho, rfl, ⟨_, ho, rfl⟩, call_meets F.slot_tuple_mul ⟨_, ho, rfl⟩ F.entry_tuple_mul (F.args_tuple_mul_2 _ _) (SmX.mul_none l its.toArray n dd sl k t c0 c1 c2) ⟨ho, ?_⟩⟩)
    exact ⟨.ref s.heap.objs.size, _, I.laid (a := s.heap.objs.size) (o := .tup []) (t' := s.toks) (fun _ _ q => Heap.get?_push_of_some _ q) (Nat.le_refl _) ⟨Nat.zero_le _, [], .nil, IsTup.new _ _⟩, rfl, q _ I.fresh⟩
/-- ints, or a tuple some times, none and one too -/
def dMulA : D → D → Option D
  | .int a, .int b => dMul (.int a) (.int b)
  | .tup ds, .int b => if -1000 ≤ b ∧ b ≤ 1000 ∧ ds.length ≤ 1000 then some (.tup (List.replicate b.toNat ds).flatten) else none
  | _, _ => none
theorem flat_nil {α : Type} : ∀ n : Nat, (List.replicate n ([] : List α)).flatten = []
  | 0 => rfl
  | n + 1 => by rw [List.replicate_succ, List.flatten_cons, flat_nil n]; rfl
theorem op_dMulA : Op2 K (fun x y H Q => rI CMulW (fun i j => .int (i * j)) x y H Q ∨ rRepT K x y H Q ∨ rRep1 K x y H Q) dMulA := by
  intro Hf F ρ Cs H x y a b d Q S0 ha hb he k
  cases a with
  | int i =>
    cases b with
    | int j =>
      rcases op_dMul Hf F ρ Cs H x y _ _ d Q S0 ha hb he k with h | h
      · exact .inl h
      · exact .inr (.inl h)
    | _ => cases he
  | tup ds =>
    cases b with
    | int j =>
      unfold dMulA at he
      simp only [] at he
      split at he
      · rename_i h
        have e := Option.some.inj he
        subst e
        obtain ⟨a, xs, rfl, hx, hxf, hs⟩ := ha.tup S0.ex
        have hl := hs.len
        by_cases hn : xs = []
        · subst hn
          cases hs
          rw [flat_nil] at k
          exact .inr (.inr ⟨a, j, [], rfl, hb.int, hx, h.1, h.2.1, .inl ⟨.inl rfl, k.here S0 (.tup hxf .nil)⟩⟩)
        · by_cases h1 : j = 1
          · subst h1
            have e1 : (List.replicate (1 : Int).toNat ds).flatten = ds := by simp
            rw [e1] at k
            exact .inr (.inr ⟨a, 1, xs, rfl, hb.int, hx, h.1, h.2.1, .inl ⟨.inr rfl, k.here S0 (.tup hxf hs)⟩⟩)
          · by_cases h0 : j ≤ 0
            · have e1 : (List.replicate j.toNat ds).flatten = [] := by
                rw [show j.toNat = 0 by omega]
                rfl
              rw [e1] at k
              exact .inr (.inr ⟨a, j, xs, rfl, hb.int, hx, h.1, h.2.1, .inr ⟨hn, h0, k.tup S0 .nil⟩⟩)
            · exact .inr (.inl ⟨a, j, xs, rfl, hb.int, hx, hn, by omega, h.2.1, by omega, k.tup S0 (hs.rep _)⟩)
      · cases he
    | _ => cases he
  | _ => cases he
end Sm
end
section
set_option maxRecDepth 100000
set_option maxHeartbeats 0
namespace Sm
open PySem L2
variable {K : PySem.W.Frag} {mg : Str → Option Value}
/-! ### lists of ints: sum, max, min, sorted -/
def intsOf : List D → Option (List Int)
  | [] => some []
  | .int i :: ds => (intsOf ds).map (i :: ·)
  | _ => none
theorem intsOf_ok {H : Hp} {ρ : List Addr} : ∀ {xs : List V} {ds : List D} {ns : List Int}, Dats K H ρ xs ds → intsOf ds = some ns → xs = ns.map V.int
  | _, _, ns, .nil, h => by
    have e : [] = ns := Option.some.inj h
    subst e
    rfl
  | _, _, ns, .cons (d := d) (ds := ds) h hs, e => by
    cases d with
    | int i =>
      have e' : (intsOf ds).map (i :: ·) = some ns := e
      obtain ⟨ms, h1, h2⟩ := Option.map_eq_some_iff.mp e'
      subst h2
      cases h
      rw [intsOf_ok hs h1]
      rfl
    | _ => cases e
theorem intsOf_map : ∀ ns : List Int, intsOf (ns.map D.int) = some ns
  | [] => rfl
  | n :: ns => by
    show (intsOf (ns.map D.int)).map (n :: ·) = _
    rw [intsOf_map ns]
    rfl
theorem dats_of_ints {H : Hp} {ρ : List Addr} (ns : List Int) : Dats K H ρ (ns.map V.int) (ns.map D.int) := dats_ints ns
def dSumL : List D → Option D
  | [.lst ds] => (intsOf ds).map fun ns => .int ns.sum
  | _ => none
theorem op_dSumL : OpN K (rSum K) dSumL := by
  intro Hf F ρ Cs H xs as d Q S0 ha he k
  unfold dSumL at he
  split at he
  · cases ha with
    | cons h hs =>
      cases hs
      obtain ⟨a, xs, rfl, hx, hd⟩ := h.lst S0.ex
      obtain ⟨ns, h1, h2⟩ := Option.map_eq_some_iff.mp he
      subst h2
      have := intsOf_ok hd h1
      subst this
      exact ⟨a, ns, rfl, hx, k.here S0 (.int _)⟩
  · cases he
def maxI : Int → List Int → Int
  | m, [] => m
  | m, n :: ns => maxI (if m < n then n else m) ns
theorem maxI_ok : ∀ (ns : List Int) (m : Int), (maxI m ns = m ∨ maxI m ns ∈ ns) ∧ m ≤ maxI m ns ∧ ∀ n ∈ ns, n ≤ maxI m ns
  | [], m => ⟨.inl rfl, Int.le_refl _, fun n hn => by cases hn⟩
  | n :: ns, m => by
    obtain ⟨h1, h2, h3⟩ := maxI_ok ns (if m < n then n else m)
    have e : maxI m (n :: ns) = maxI (if m < n then n else m) ns := rfl
    rw [e]
    refine ⟨?_, ?_, fun z hz => ?_⟩
    · rcases h1 with h1 | h1
      · rw [h1]
        split
        · exact .inr List.mem_cons_self
        · exact .inl rfl
      · exact .inr (List.mem_cons_of_mem _ h1)
    · exact Int.le_trans (by split <;> omega) h2
    · rcases List.mem_cons.mp hz with rfl | hz
      · exact Int.le_trans (by split <;> omega) h2
      · exact h3 z hz
def dMaxL : List D → Option D
  | [.lst ds] => match intsOf ds with
    | some (n :: ns) => some (.int (maxI n ns))
    | _ => none
  | _ => none
theorem op_dMaxL : OpN K (rMax K) dMaxL := by
  intro Hf F ρ Cs H xs as d Q S0 ha he k
  unfold dMaxL at he
  split at he
  · split at he
    · rename_i n ns h1
      have e := Option.some.inj he
      subst e
      cases ha with
      | cons h hs =>
        cases hs
        obtain ⟨a, xs, rfl, hx, hd⟩ := h.lst S0.ex
        have := intsOf_ok hd h1
        subst this
        refine ⟨a, n :: ns, rfl, hx, Nat.succ_pos _, fun m hm hall => ?_⟩
        obtain ⟨p1, p2, p3⟩ := maxI_ok ns n
        have e1 : m = maxI n ns := by
          have q1 : m ≤ maxI n ns := by
            rcases List.mem_cons.mp hm with rfl | hm
            · exact p2
            · exact p3 m hm
          have q2 : maxI n ns ≤ m := by
            rcases p1 with p1 | p1
            · rw [p1]
              exact hall n List.mem_cons_self
            · exact hall _ (List.mem_cons_of_mem _ p1)
          omega
        rw [e1]
        exact k.here S0 (.int _)
    · cases he
  · cases he
end Sm
end
section
set_option maxRecDepth 100000
set_option maxHeartbeats 0
namespace Sm
open PySem L2
variable {K : PySem.W.Frag} {mg : Str → Option Value}
def minI : Int → List Int → Int
  | m, [] => m
  | m, n :: ns => minI (if n < m then n else m) ns
theorem minI_ok : ∀ (ns : List Int) (m : Int), (minI m ns = m ∨ minI m ns ∈ ns) ∧ minI m ns ≤ m ∧ ∀ n ∈ ns, minI m ns ≤ n
  | [], m => ⟨.inl rfl, Int.le_refl _, fun n hn => by cases hn⟩
  | n :: ns, m => by
    obtain ⟨h1, h2, h3⟩ := minI_ok ns (if n < m then n else m)
    have e : minI m (n :: ns) = minI (if n < m then n else m) ns := rfl
    rw [e]
    refine ⟨?_, ?_, fun z hz => ?_⟩
    · rcases h1 with h1 | h1
      · rw [h1]
        split
        · exact .inr List.mem_cons_self
        · exact .inl rfl
      · exact .inr (List.mem_cons_of_mem _ h1)
    · exact Int.le_trans h2 (by split <;> omega)
    · rcases List.mem_cons.mp hz with rfl | hz
      · exact Int.le_trans h2 (by split <;> omega)
      · exact h3 z hz
def dMinL : List D → Option D
  | [.lst ds] => match intsOf ds with
    | some (n :: ns) => some (.int (minI n ns))
    | _ => none
  | _ => none
theorem op_dMinL : OpN K (rMin K) dMinL := by
  intro Hf F ρ Cs H xs as d Q S0 ha he k
  unfold dMinL at he
  split at he
  · split at he
    · rename_i n ns h1
      have e := Option.some.inj he
      subst e
      cases ha with
      | cons h hs =>
        cases hs
        obtain ⟨a, xs, rfl, hx, hd⟩ := h.lst S0.ex
        have := intsOf_ok hd h1
        subst this
        refine ⟨a, n :: ns, rfl, hx, Nat.succ_pos _, fun m hm hall => ?_⟩
        obtain ⟨p1, p2, p3⟩ := minI_ok ns n
        have e1 : m = minI n ns := by
          have q1 : minI n ns ≤ m := by
            rcases List.mem_cons.mp hm with rfl | hm
            · exact p2
            · exact p3 m hm
          have q2 : m ≤ minI n ns := by
            rcases p1 with p1 | p1
            · rw [p1]
              exact hall n List.mem_cons_self
            · exact hall _ (List.mem_cons_of_mem _ p1)
          omega
        rw [e1]
        exact k.here S0 (.int _)
    · cases he
  · cases he
/-! ### sorted(a list of ints) -/
def insI (m : Int) : List Int → List Int
  | [] => [m]
  | n :: ns => if m ≤ n then m :: n :: ns else n :: insI m ns
def sortI : List Int → List Int
  | [] => []
  | n :: ns => insI n (sortI ns)
theorem insI_perm (m : Int) : ∀ ns : List Int, (insI m ns).Perm (m :: ns)
  | [] => List.Perm.refl _
  | n :: ns => by
    unfold insI
    split
    · exact List.Perm.refl _
    · exact ((insI_perm m ns).cons n).trans (List.Perm.swap m n ns)
theorem sortI_perm : ∀ ns : List Int, (sortI ns).Perm ns
  | [] => List.Perm.refl _
  | n :: ns => (insI_perm n (sortI ns)).trans ((sortI_perm ns).cons n)
theorem insI_mem {m z : Int} {ns : List Int} (h : z ∈ insI m ns) : z = m ∨ z ∈ ns := by
  have := (insI_perm m ns).mem_iff.mp h
  exact List.mem_cons.mp this
theorem insI_sorted {m : Int} : ∀ {ns : List Int}, ns.Pairwise (· ≤ ·) → (insI m ns).Pairwise (· ≤ ·)
  | [], _ => List.pairwise_singleton _ _
  | n :: ns, h => by
    obtain ⟨h1, h2⟩ := List.pairwise_cons.mp h
    unfold insI
    split
    · rename_i hle
      exact List.pairwise_cons.mpr ⟨fun z hz => by
        rcases List.mem_cons.mp hz with rfl | hz
        · exact hle
        · exact Int.le_trans hle (h1 z hz), h⟩
    · rename_i hle
      exact List.pairwise_cons.mpr ⟨fun z hz => by
        rcases insI_mem hz with rfl | hz
        · omega
        · exact h1 z hz, insI_sorted h2⟩
theorem sortI_sorted : ∀ ns : List Int, (sortI ns).Pairwise (· ≤ ·)
  | [] => List.Pairwise.nil
  | n :: ns => insI_sorted (sortI_sorted ns)
theorem sorted_uniq : ∀ {xs ys : List Int}, xs.Pairwise (· ≤ ·) → ys.Pairwise (· ≤ ·) → xs.Perm ys → xs = ys
  | [], ys, _, _, h => (List.nil_perm.mp h).symm
  | x :: xs, [], _, _, h => by
    have := h.length_eq
    simp at this
  | x :: xs, y :: ys, hx, hy, h => by
    obtain ⟨x1, x2⟩ := List.pairwise_cons.mp hx
    obtain ⟨y1, y2⟩ := List.pairwise_cons.mp hy
    have e : x = y := by
      have a1 : x ∈ y :: ys := h.mem_iff.mp List.mem_cons_self
      have a2 : y ∈ x :: xs := h.mem_iff.mpr List.mem_cons_self
      have b1 : y ≤ x := by
        rcases List.mem_cons.mp a1 with e | a1
        · omega
        · exact y1 x a1
      have b2 : x ≤ y := by
        rcases List.mem_cons.mp a2 with e | a2
        · omega
        · exact x1 y a2
      omega
    subst e
    rw [sorted_uniq x2 y2 (List.Perm.cons_inv h)]
def srt (ds : List D) : Option (List D) := match ds with
  | [.lst es] => (intsOf es).bind fun ns => if ns.length < 64 then some ((sortI ns).map D.int) else none
  | _ => none
def xSrt (s : S (List D)) : S (List D) := S.bind s fun ds => fun env C => S.opt (srt (ds.map (vw C))) env C
section
variable {X : Cx} {W : Wh}
theorem sl_srt {x : Str} {p pos : Pos} {es : List Expr} {s : S (List D)} (h : PE X (.Call (.Name x p) es [] pos) (tCB (rSorted X.K) (tA X.K X.mg W s))) :
    SL X W (.Call (.Name x p) es [] pos) (xSrt s) := pe_imp h fun σ H Q ⟨Hf, F, ρ, env, C, S0, E0, g⟩ => ⟨Hf, F, ρ, env, C, S0, E0, by
    unfold xSrt S.bind at g
    cases e : s env C with
    | none =>
      rw [e] at g
      exact g
    | some r =>
      rw [e] at g
      cases r with
      | ex c q C' => exact g
      | ok ds C' =>
        refine fun vs H' Hf' ρ' e' p' S' A' => ?_
        have g' : GoL X.K X.mg W σ Hf F ρ (S.opt (srt (ds.map (vw C'))) env C') Q := g
        cases hd : srt (ds.map (vw C')) with
        | none =>
          rw [hd] at g'
          exact g'.elim
        | some es =>
          rw [hd] at g'
          have hv := vws_ok S' A'
          unfold srt at hd
          split at hd
          · rename_i es0 heq
            obtain ⟨ns, h1, h2⟩ := Option.bind_eq_some_iff.mp hd
            split at h2
            · rename_i hlt
              have e0 := Option.some.inj h2
              subst e0
              rw [heq] at hv
              cases hv with
              | cons h hs =>
                cases hs
                obtain ⟨a, xs, rfl, hx, hs⟩ := h.lst S'.ex
                have := intsOf_ok hs h1
                subst this
                refine ⟨a, ns, rfl, hx, hlt, fun ns' l hp hs' hl => ?_⟩
                have en : ns' = sortI ns := sorted_uniq hs' (sortI_sorted ns) (hp.trans (sortI_perm ns).symm)
                subst en
                exact g' (.ref l) _ Hf' ρ' e' p' (fresh_new S' hl (dats_ints _))
            · cases h2
          · cases hd⟩
end
end Sm
end
section
set_option maxRecDepth 100000
set_option maxHeartbeats 0
namespace Sm
open PySem L2
variable {X : Cx} {W : Wh}
/-! ### xs[::-1] of a list -/
def rvD : D → Option (List D)
  | .lst ds => some ds.reverse
  | _ => none
def xRv (s : S D) : S (List D) := S.bind s fun d => fun env C => S.opt (rvD (vw C d)) env C
theorem Dats.rev {K : PySem.W.Frag} {H : Hp} {ρ : List Addr} : ∀ {xs : List V} {ds : List D}, Dats K H ρ xs ds → Dats K H ρ xs.reverse ds.reverse
  | _, _, .nil => .nil
  | _, _, .cons h hs => by
    rw [List.reverse_cons, List.reverse_cons]
    exact (Dats.rev hs).app (.cons h .nil)
theorem sl_rv {e : Expr} {k : Nat} {p1 p2 p3 pos : Pos} {s : S D} (he : SE X W e s) : SL X W (.Subscript e (.Slice none none (some (.UnaryOp .USub (.Constant (.int 1) k p1) p2)) p3) pos) (xRv s) :=
  pe_imp (pe_revL he) fun σ H Q ⟨Hf, F, ρ, env, C, S0, E0, g⟩ => ⟨Hf, F, ρ, env, C, S0, E0, by
    unfold xRv S.bind at g
    cases e : s env C with
    | none =>
      rw [e] at g
      exact g
    | some r =>
      rw [e] at g
      cases r with
      | ex c q C' => exact g
      | ok d C' =>
        refine fun x H' Hf' ρ' e' p' S' A' => ?_
        have g' : GoL X.K X.mg W σ Hf F ρ (S.opt (rvD (vw C' d)) env C') Q := g
        cases hd : rvD (vw C' d) with
        | none =>
          rw [hd] at g'
          exact g'.elim
        | some es =>
          rw [hd] at g'
          have hv := vw_ok S' A'
          unfold rvD at hd
          split at hd
          · rename_i es0 heq
            have e0 := Option.some.inj hd
            subst e0
            rw [heq] at hv
            obtain ⟨a, xs, rfl, hx, hs⟩ := hv.lst S'.ex
            exact ⟨a, xs, rfl, hx, fun l hl => g' (.ref l) _ Hf' ρ' e' p' (fresh_new S' hl hs.rev)⟩
          · cases hd⟩
end Sm
end
section
set_option maxRecDepth 100000
set_option maxHeartbeats 0
namespace Sm
open PySem L2
section
variable {X : Cx} {W : Wh}
/-! ### starred arguments -/
def seqD : D → Option (List D)
  | .lst ds => some ds
  | .tup ds => some ds
  | _ => none
def aStar (a : S D) (r : S (List D)) : S (List D) := S.bind a fun x => S.bind (fun env C => S.opt (seqD (vw C x)) env C) fun xs => S.bind r fun ys => S.val (xs ++ ys)
theorem sa_star {e : Expr} {es : List Expr} {p : Pos} {s : S D} {r : S (List D)} (he : SE X W e s) (hr : SA X W es r) (hs : starEach (.Starred e p :: es) X.env = (true, eval e X.env) :: starEach es X.env) : SA X W (.Starred e p :: es) (aStar s r) :=
  pa_imp (StX.pa_star he hr hs) fun σ H Q ⟨Hf, F, ρ, env, C, S0, E0, g⟩ => ⟨Hf, F, ρ, env, C, S0, E0, (Go.bind g).mono fun x H1 ⟨Hf1, ρ1, C1, a, e1, p1, S1, A1, g1⟩ => by
    have hd : ∃ ds, seqD (vw C1 a) = some ds := by
      cases q : seqD (vw C1 a) with
      | some d => exact ⟨d, rfl⟩
      | none =>
        unfold S.bind at g1
        simp only [q, S.opt] at g1
        exact g1.elim
    obtain ⟨ds, hd⟩ := hd
    have hv := vw_ok S1 A1
    have hx : ∃ p xs, x = V.ref p ∧ (SqT X.K H1 p xs ∨ SqL X.K H1 p xs) ∧ Dats X.K Hf1 ρ1 xs ds := by
      cases q : vw C1 a with
      | lst es =>
        rw [q] at hv hd
        have e0 : es = ds := Option.some.inj hd
        subst e0
        obtain ⟨b, xs, rfl, hx, hs⟩ := hv.lst S1.ex
        exact ⟨b, xs, rfl, .inr hx, hs⟩
      | tup es =>
        rw [q] at hv hd
        have e0 : es = ds := Option.some.inj hd
        subst e0
        obtain ⟨b, xs, rfl, hx, _, hs⟩ := hv.tup S1.ex
        exact ⟨b, xs, rfl, .inl hx, hs⟩
      | _ => rw [q] at hd; cases hd
    obtain ⟨b, xs, rfl, hx, hs⟩ := hx
    have g2 : Go X.K X.mg W (Dats X.K) σ Hf1 F ρ1 (S.bind r (fun ys => S.val (ds ++ ys)) env C1) Q := by
      have h := g1
      unfold S.bind at h
      simp only [hd, S.opt] at h
      exact h
    exact ⟨b, xs, rfl, hx, Hf1, F, ρ1, env, C1, S1, E0.mono e1 p1, (Go.bind g2).mono fun ys H2 ⟨Hf2, ρ2, C2, as, e2, p2, S2, A2, g3⟩ => Go.val g3 S2 ((hs.mono e2 p2).app A2)⟩⟩
/-! ### range(i, j, -1) -/
def zsD (i : Int) (n : Nat) : List D := (List.range n).map fun k => D.int (i - (k : Nat))
theorem zsD_len (lo : Int) (n : Nat) : (zsD lo n).length = n := by
  unfold zsD
  rw [List.length_map, List.length_range]
theorem zsD_get {lo : Int} {n i : Nat} (h : i < n) : (zsD lo n)[i]? = some (.int (lo - (i : Nat))) := by
  unfold zsD
  rw [List.getElem?_map, List.getElem?_range h]
  rfl
theorem wk_rd {K : PySem.W.Frag} {Hf : Hp} {ρ : List Addr} {lo : Int} {n : Nat} : Wk K Hf ρ (Itc lo (-1) n) (zsD lo n, gd0) := fun i Hf' F' ρ' C' H' e p S0 hg => by
  have hl : ((zsD lo n, gd0) : List D × Gd).1.length = n := zsD_len lo n
  refine ⟨fun hi => ⟨show i < n by omega, fun x H2 hy => ?_⟩, fun hi => show n ≤ i by omega⟩
  obtain ⟨e2, hy⟩ := hy
  subst e2
  subst hy
  have e3 : lo + (i : Nat) * (-1 : Int) = lo - (i : Nat) := by omega
  rw [e3]
  exact ⟨_, Hf', zsD_get (by omega), Same.refl _, S0, .int _⟩
noncomputable def rng3 (ds : List D) : Option (List D × Gd) := match ds with
  | [.int i, .int j, .int c] => if c = -1 ∧ inRng i = true ∧ inRng j = true then some (zsD i (i - j).toNat, gd0) else none
  | _ => none
noncomputable def iR3 (s : S (List D)) : SW := S.bind s fun ds => S.opt (rng3 ds)
theorem si_r3 {tg a b c : Expr} {p pos : Pos} {s : S (List D)} (h : PI X tg (.Call (.Name "range" p) [a, b, c] [] pos) (iRng3 (tA X.K X.mg W s))) : SI X W tg (.Call (.Name "range" p) [a, b, c] [] pos) (iR3 s) := pi_imp h fun σ H R ⟨Hf, F, ρ, env, C, S0, E0, g⟩ =>
  ⟨Hf, F, ρ, env, C, S0, E0, (Go.bind g).mono fun vs H1 ⟨Hf1, ρ1, C1, ds, e1, p1, S1, A1, g1⟩ => by
    obtain ⟨q, hq, g2⟩ := Go.opt g1
    unfold rng3 at hq
    split at hq
    · rename_i i j c
      split at hq
      · rename_i hj
        have e := Option.some.inj hq
        subst e
        obtain ⟨rfl, hi, hj⟩ := hj
        have hi := inRng_iff.mp hi
        have hj := inRng_iff.mp hj
        cases A1 with
        | cons h1 h2 =>
          cases h1
          cases h2 with
          | cons h3 h4 =>
            cases h3
            cases h4 with
            | cons h5 h6 =>
              cases h5
              cases h6
              exact ⟨i, j, -1, (i - j).toNat, rfl, RgC.neg hi.1 hi.2 hj.1 hj.2, g2 _ H1 Hf1 ρ1 (Same.refl _) (List.prefix_refl _) S1 wk_rd⟩
      · cases hq
    · cases hq⟩
end
/-! ### max(xs, default=d), min(xs, default=d) -/
open PySem.W in
theorem maxOf_int : ∀ (ns : List Int) (m : Int), (maxOf m ns = m ∨ maxOf m ns ∈ ns) ∧ m ≤ maxOf m ns ∧ ∀ n ∈ ns, n ≤ maxOf m ns
  | [], m => ⟨.inl rfl, Int.le_refl _, fun n hn => by cases hn⟩
  | n :: ns, m => by
    obtain ⟨h1, h2, h3⟩ := maxOf_int ns (if DatumOrd.lt m n = true then n else m)
    have e : maxOf m (n :: ns) = maxOf (if DatumOrd.lt m n = true then n else m) ns := rfl
    have hl : DatumOrd.lt m n = decide (m < n) := rfl
    rw [e]
    rw [hl] at h1 h2 h3 ⊢
    by_cases q : m < n
    · simp only [q, decide_true, if_true] at h1 h2 h3 ⊢
      refine ⟨.inr ?_, by omega, fun z hz => ?_⟩
      · rcases h1 with h1 | h1
        · rw [h1]; exact List.mem_cons_self
        · exact List.mem_cons_of_mem _ h1
      · rcases List.mem_cons.mp hz with rfl | hz
        · exact h2
        · exact h3 z hz
    · simp only [q, decide_false, Bool.false_eq_true, if_false] at h1 h2 h3 ⊢
      refine ⟨?_, h2, fun z hz => ?_⟩
      · rcases h1 with h1 | h1
        · exact .inl h1
        · exact .inr (List.mem_cons_of_mem _ h1)
      · rcases List.mem_cons.mp hz with rfl | hz
        · omega
        · exact h3 z hz
def rMaxDf (K : PySem.W.Frag) : List V → List V → Hp → VK → Prop := fun vs zs H Q => ∃ (a : Addr) (ns : List Int) (z : V), vs = [V.ref a] ∧ zs = [z] ∧ (SqL K H a (ns.map V.int) ∨ SqT K H a (ns.map V.int)) ∧ (ns = [] → Q z H) ∧ ∀ m, m ∈ ns → (∀ y ∈ ns, y ≤ m) → Q (.int m) H
open PySem.W in
theorem cr_maxDf {X : Cx} (hc : X.calm = true) (hu : X.A.units + 65 < PySem.cLine) : CallRK X (.builtin "max") [Str.ofString "default"] (rMaxDf X.K) := by
  intro pins s σ H vs zs us ws Q I r rz h
  obtain ⟨a, ns, z, rfl, rfl, hs, q0, q⟩ := h
  obtain rfl := Vals.ref1 r
  obtain ⟨w1, rfl, e1⟩ := vals1 rz
  have hd : X.A.units + 1 + Datum.depth Int < PySem.cLine := by
    have : Datum.depth Int = 0 := rfl
    omega
  have key : ∀ (y : Int) (ys : List Int) (v : Value) (h' : Heap) (tk : Nat), ns = y :: ys → Holds h' v (maxOf y ys) → (∀ b o, s.heap.get? b = some o → h'.get? b = some o) → EP X pins σ Q v { s with heap := h', toks := tk } := fun y ys v h' tk e hv hk => by
    subst e
    obtain ⟨m1, m2, m3⟩ := maxOf_int ys y
    obtain ⟨t, rfl⟩ : ∃ t, v = .int (maxOf y ys) t := by
      obtain ⟨as, hr⟩ := hv
      cases hr
      exact ⟨_, rfl⟩
    refine ⟨.int _, H, I.kept hk, ⟨t, rfl⟩, q _ ?_ fun n hn => ?_⟩
    · rcases m1 with m1 | m1
      · rw [m1]; exact List.mem_cons_self
      · exact List.mem_cons_of_mem _ m1
    · rcases List.mem_cons.mp hn with rfl | hn
      · exact m2
      · exact m3 n hn
  rcases hs with hs | hs
  · obtain ⟨its, rv, hl, _⟩ := I.list hs
    exact max_list_datum_default (xs := ns) (I.ok.hd hc) hl.isList (HoldAll.of_ints rv.ints) hd (fun e h' tk hk => ⟨z, H, I.kept hk, e1, q0 e⟩) fun y ys i v h' tk e _ hv hk => key y ys v h' tk e hv hk
  · obtain ⟨its, rv, hl, _⟩ := I.tuple hs
    exact max_tuple_datum_default (xs := ns) (I.ok.hd hc) hl (HoldAll.of_ints rv.ints) hd (fun e h' tk hk => ⟨z, H, I.kept hk, e1, q0 e⟩) fun y ys i v h' tk e _ hv hk => key y ys v h' tk e hv hk
def maxD0 (z : D) : List Int → D
  | [] => z
  | n :: ns => .int (maxI n ns)
def dMaxDf : List D → List D → Option D
  | [.lst ds], [z] => (intsOf ds).map (maxD0 z)
  | [.tup ds], [z] => (intsOf ds).map (maxD0 z)
  | _, _ => none
def xNK (f : List D → List D → Option D) (a z : S (List D)) : S D := S.bind a fun xs => S.bind z fun zs => fun env C => S.opt (f (xs.map (vw C)) zs) env C
theorem pk_imp {X : Cx} {kws : List Keyword} {t u : TA} (h : PK X kws t) (k : ∀ σ H Q, u σ H Q → t σ H Q) : PK X kws u := ⟨fun pos pins s σ H Q I q => h.run pos pins s σ H Q I (k σ H Q q)⟩
def SK (X : Cx) (W : Wh) (kws : List Keyword) (s : S (List D)) : Prop := PK X kws (tA X.K X.mg W s)
theorem sk_nil {X : Cx} {W : Wh} : SK X W [] aNil := pk_imp pk_nil fun σ H Q ⟨Hf, F, ρ, env, C, S0, E0, g⟩ => Go.val g S0 .nil
theorem sk_cons {X : Cx} {W : Wh} {nm : Option Str} {e : Expr} {kpos : Pos} {kws : List Keyword} {s : S D} {r : S (List D)} (he : SE X W e s) (hr : SK X W kws r) : SK X W (⟨nm, e, kpos⟩ :: kws) (aCons s r) :=
  pk_imp (pk_cons he hr) fun σ H Q ⟨Hf, F, ρ, env, C, S0, E0, g⟩ => ⟨Hf, F, ρ, env, C, S0, E0, (Go.bind g).mono fun x H1 ⟨Hf1, ρ1, C1, a, e1, p1, S1, A1, g1⟩ =>
    ⟨Hf1, F, ρ1, env, C1, S1, E0.mono e1 p1, (Go.bind g1).mono fun xs H2 ⟨Hf2, ρ2, C2, as, e2, p2, S2, A2, g2⟩ => Go.val g2 S2 (.cons (A1.mono e2 p2) A2)⟩⟩
/-- a built-in with keywords, by its values -/
def OpNK (K : PySem.W.Frag) (r : List V → List V → Hp → VK → Prop) (f : List D → List D → Option D) : Prop := ∀ (Hf F : Hp) (ρ : List Addr) (C : Cells) (H : Hp) (xs zs : List V) (as bs : List D) (d : D) (Q : VK), SR K Hf F ρ C H → Vws K H Hf ρ xs as → Dats K Hf ρ zs bs → f as bs = some d → Ans K Hf F ρ C d Q → r xs zs H Q
theorem se_bik {X : Cx} {W : Wh} {e : Expr} {r : List V → List V → Hp → VK → Prop} {f : List D → List D → Option D} {s z : S (List D)} (hf : OpNK X.K r f) (h : PE X e (tCKw r (tA X.K X.mg W s) (tA X.K X.mg W z))) : SE X W e (xNK f s z) :=
  pe_imp h fun σ H Q ⟨Hf, F, ρ, env, C, S0, E0, g⟩ => ⟨Hf, F, ρ, env, C, S0, E0, (Go.bind g).mono fun xs H1 ⟨Hf1, ρ1, C1, as, e1, p1, S1, A1, g1⟩ =>
    ⟨Hf1, F, ρ1, env, C1, S1, E0.mono e1 p1, (Go.bind g1).mono fun zs H2 ⟨Hf2, ρ2, C2, bs, e2, p2, S2, A2, g2⟩ => by
      obtain ⟨d, hd, g3⟩ := Go.opt g2
      exact hf Hf2 F ρ2 C2 H2 xs zs _ bs d Q S2 (vws_ok S2 (A1.mono e2 p2)) A2 hd fun v H' Hf' ρ' e3 p3 S3 D3 => g3 v H' Hf' ρ' e3 p3 S3 D3⟩⟩
theorem maxI_in {n m : Int} {ns : List Int} (h1 : m ∈ n :: ns) (h2 : ∀ y ∈ n :: ns, y ≤ m) : m = maxI n ns := by
  obtain ⟨a1, a2, a3⟩ := maxI_ok ns n
  have b1 : maxI n ns ≤ m := by
    rcases a1 with a1 | a1
    · rw [a1]; exact h2 n List.mem_cons_self
    · exact h2 _ (List.mem_cons_of_mem _ a1)
  have b2 : m ≤ maxI n ns := by
    rcases List.mem_cons.mp h1 with rfl | h1
    · exact a2
    · exact a3 m h1
  omega
theorem op_dMaxDf {K : PySem.W.Frag} : OpNK K (rMaxDf K) dMaxDf := by
  intro Hf F ρ Cs H xs zs as bs d Q S0 ha hb he k
  have fin : ∀ (a : Addr) (ns : List Int) (z : V) (zd : D), Dat K Hf ρ z zd → (SqL K H a (ns.map V.int) ∨ SqT K H a (ns.map V.int)) → maxD0 zd ns = d → rMaxDf K [V.ref a] [z] H Q := fun a ns z zd hz hs e => by
    refine ⟨a, ns, z, rfl, rfl, hs, fun e0 => ?_, fun m m1 m2 => ?_⟩
    · subst e0
      have e : zd = d := e
      subst e
      exact k.here S0 hz
    · cases ns with
      | nil => cases m1
      | cons n ns =>
        have e : D.int (maxI n ns) = d := e
        rw [maxI_in m1 m2]
        subst e
        exact k.here S0 (.int _)
  unfold dMaxDf at he
  split at he
  · obtain ⟨ns, h1, h2⟩ := Option.map_eq_some_iff.mp he
    cases ha with
    | cons h hs =>
      cases hs
      obtain ⟨a, ys, rfl, hx, hd⟩ := h.lst S0.ex
      have := intsOf_ok hd h1
      subst this
      cases hb with
      | cons hz hb =>
        cases hb
        exact fin a ns _ _ hz (.inl hx) h2
  · obtain ⟨ns, h1, h2⟩ := Option.map_eq_some_iff.mp he
    cases ha with
    | cons h hs =>
      cases hs
      obtain ⟨a, ys, rfl, hx, _, hd⟩ := h.tup S0.ex
      have := intsOf_ok hd h1
      subst this
      cases hb with
      | cons hz hb =>
        cases hb
        exact fin a ns _ _ hz (.inr hx) h2
  · cases he
end Sm
end
section
set_option maxRecDepth 100000
set_option maxHeartbeats 0
namespace Sm
open PySem L2 RZ
variable {K : PySem.W.Frag} {mg : Str → Option Value}
/-! ### a in a tuple of ints -/
def rInT (K : PySem.W.Frag) : R2 := fun x y H Q => ∃ (i : Int) (a : Addr) (ns : List Int), x = V.int i ∧ y = V.ref a ∧ SqT K H a (ns.map V.int) ∧ Q (.bl (decide (i ∈ ns))) H
def rNotInT (K : PySem.W.Frag) : R2 := fun x y H Q => ∃ (i : Int) (a : Addr) (ns : List Int), x = V.int i ∧ y = V.ref a ∧ SqT K H a (ns.map V.int) ∧ Q (.bl (decide (i ∉ ns))) H
section
variable {X : Cx}
open PySem.W PySem.SeqAt in
theorem op_inT (hu : X.A.units + 65 < PySem.cLine) : OpR X (compareOp .In) (rInT X.K) := by
  intro pins s σ H x y v u Q I rx ry h
  obtain ⟨i, a, ns, rfl, rfl, hs, q⟩ := h
  obtain ⟨t, rfl⟩ := rx
  obtain rfl : u = Value.ref a := ry
  obtain ⟨its, rv, hl, _⟩ := I.tuple hs
  refine in_tuple_datum (xs := ns) (x := i) hl (HoldAll.of_ints rv.ints) (holds_int i t) ?_ ⟨.bl _, H, I, rfl, q⟩
  have : Datum.depth Int = 0 := rfl
  omega
open PySem.W PySem.SeqAt in
theorem op_notInT (hu : X.A.units + 65 < PySem.cLine) : OpR X (compareOp .NotIn) (rNotInT X.K) := by
  intro pins s σ H x y v u Q I rx ry h
  obtain ⟨i, a, ns, rfl, rfl, hs, q⟩ := h
  obtain ⟨t, rfl⟩ := rx
  obtain rfl : u = Value.ref a := ry
  obtain ⟨its, rv, hl, _⟩ := I.tuple hs
  refine notIn_tuple_datum (xs := ns) (x := i) hl (HoldAll.of_ints rv.ints) (holds_int i t) ?_ ⟨.bl _, H, I, rfl, q⟩
  have : Datum.depth Int = 0 := rfl
  omega
end
/-- in, over lists of data and tuples of ints -/
def dInA : D → D → Option D := fun a b => match b with
  | .tup ds => match a with
    | .int i => (intsOf ds).map fun ns => .bl (decide (i ∈ ns))
    | _ => none
  | _ => dIn a b
def dNotInA : D → D → Option D := fun a b => match b with
  | .tup ds => match a with
    | .int i => (intsOf ds).map fun ns => .bl (decide (i ∉ ns))
    | _ => none
  | _ => dNotIn a b
theorem op_dInA : Op2 K (fun x y H Q => rInD K x y H Q ∨ rInT K x y H Q) dInA := by
  intro Hf F ρ Cs H x y a b d Q S0 ha hb he k
  by_cases hq : ∃ ds, b = .tup ds
  · obtain ⟨ds, rfl⟩ := hq
    cases a with
    | int i =>
      obtain ⟨ns, h1, h2⟩ := Option.map_eq_some_iff.mp (show (intsOf ds).map (fun ns => D.bl (decide (i ∈ ns))) = some d from he)
      subst h2
      obtain ⟨b, xs, rfl, hx, _, hd⟩ := hb.tup S0.ex
      have := intsOf_ok hd h1
      subst this
      exact .inr ⟨i, b, ns, ha.int, rfl, hx, k.here S0 (.bl _)⟩
    | _ => cases he
  · refine .inl (op_dIn Hf F ρ Cs H x y a b d Q S0 ha hb ?_ k)
    unfold dInA at he
    cases b with
    | tup ds => exact absurd ⟨ds, rfl⟩ hq
    | _ => exact he
theorem op_dNotInA : Op2 K (fun x y H Q => rNotInD K x y H Q ∨ rNotInT K x y H Q) dNotInA := by
  intro Hf F ρ Cs H x y a b d Q S0 ha hb he k
  by_cases hq : ∃ ds, b = .tup ds
  · obtain ⟨ds, rfl⟩ := hq
    cases a with
    | int i =>
      obtain ⟨ns, h1, h2⟩ := Option.map_eq_some_iff.mp (show (intsOf ds).map (fun ns => D.bl (decide (i ∉ ns))) = some d from he)
      subst h2
      obtain ⟨b, xs, rfl, hx, _, hd⟩ := hb.tup S0.ex
      have := intsOf_ok hd h1
      subst this
      exact .inr ⟨i, b, ns, ha.int, rfl, hx, k.here S0 (.bl _)⟩
    | _ => cases he
  · refine .inl (op_dNotIn Hf F ρ Cs H x y a b d Q S0 ha hb ?_ k)
    unfold dNotInA at he
    cases b with
    | tup ds => exact absurd ⟨ds, rfl⟩ hq
    | _ => exact he
/-! ### max, min of a list or a tuple of ints, not empty -/
def rMaxA (K : PySem.W.Frag) : List V → Hp → VK → Prop := fun vs H Q => ∃ (a : Addr) (ns : List Int), vs = [V.ref a] ∧ (SqL K H a (ns.map V.int) ∨ SqT K H a (ns.map V.int)) ∧ 0 < ns.length ∧ ∀ m, m ∈ ns → (∀ y, y ∈ ns → y ≤ m) → Q (.int m) H
open PySem.W in
theorem cr_maxA {X : Cx} (hc : X.calm = true) (hu : X.A.units + 65 < PySem.cLine) : CallR X (.builtin "max") (rMaxA X.K) := by
  intro pins s σ H vs us Q I r h
  obtain ⟨a, ns, rfl, hs, hne, q⟩ := h
  rcases hs with hs | hs
  · exact cr_max hc pins s σ H _ us Q I r ⟨a, ns, rfl, hs, hne, q⟩
  · obtain rfl := Vals.ref1 r
    cases ns with
    | nil => exact absurd hne (Nat.lt_irrefl 0)
    | cons y ys =>
      have hd : X.A.units + 1 + Datum.depth Int < PySem.cLine := by
        have : Datum.depth Int = 0 := rfl
        omega
      obtain ⟨its, rv, hl, _⟩ := I.tuple hs
      refine max_tuple_datum (x := y) (xs := ys) (I.ok.hd hc) hl (HoldAll.of_ints rv.ints) hd fun i v h' tk _ hv hk => ?_
      obtain ⟨m1, m2, m3⟩ := maxOf_int ys y
      obtain ⟨t, rfl⟩ : ∃ t, v = .int (maxOf y ys) t := by
        obtain ⟨as, hr⟩ := hv
        cases hr
        exact ⟨_, rfl⟩
      refine ⟨.int _, H, I.kept hk, ⟨t, rfl⟩, q _ ?_ fun n hn => ?_⟩
      · rcases m1 with m1 | m1
        · rw [m1]; exact List.mem_cons_self
        · exact List.mem_cons_of_mem _ m1
      · rcases List.mem_cons.mp hn with rfl | hn
        · exact m2
        · exact m3 n hn
def maxL : List Int → Option D
  | [] => none
  | n :: ns => some (.int (maxI n ns))
def dMaxA : List D → Option D
  | [.lst ds] => (intsOf ds).bind maxL
  | [.tup ds] => (intsOf ds).bind maxL
  | _ => none
theorem op_dMaxA : OpN K (rMaxA K) dMaxA := by
  intro Hf F ρ Cs H xs as d Q S0 ha he k
  have fin : ∀ (a : Addr) (ns : List Int), (SqL K H a (ns.map V.int) ∨ SqT K H a (ns.map V.int)) → maxL ns = some d → rMaxA K [V.ref a] H Q := fun a ns hs e => by
    cases ns with
    | nil => cases e
    | cons n ns =>
      have e := Option.some.inj e
      subst e
      exact ⟨a, n :: ns, rfl, hs, by simp, fun m m1 m2 => by rw [maxI_in m1 m2]; exact k.here S0 (.int _)⟩
  unfold dMaxA at he
  split at he
  · obtain ⟨ns, h1, h2⟩ := Option.bind_eq_some_iff.mp he
    cases ha with
    | cons h hs =>
      cases hs
      obtain ⟨a, ys, rfl, hx, hd⟩ := h.lst S0.ex
      have := intsOf_ok hd h1
      subst this
      exact fin a ns (.inl hx) h2
  · obtain ⟨ns, h1, h2⟩ := Option.bind_eq_some_iff.mp he
    cases ha with
    | cons h hs =>
      cases hs
      obtain ⟨a, ys, rfl, hx, _, hd⟩ := h.tup S0.ex
      have := intsOf_ok hd h1
      subst this
      exact fin a ns (.inr hx) h2
  · cases he
end Sm
end
section
set_option maxRecDepth 100000
set_option maxHeartbeats 0
namespace Sm
open PySem L2 RZ
variable {K : PySem.W.Frag} {mg : Str → Option Value}
/-! ### sum(xs), min(xs), of lists and tuples of ints -/
def rSumA (K : PySem.W.Frag) : List V → Hp → VK → Prop := fun vs H Q => ∃ (a : Addr) (ns : List Int), vs = [V.ref a] ∧ (SqL K H a (ns.map V.int) ∨ SqT K H a (ns.map V.int)) ∧ Q (.int ns.sum) H
open PySem.W PyProof.Rows in
theorem cr_sumA {X : Cx} (hc : X.calm = true) : CallR X (.builtin "sum") (rSumA X.K) := by
  intro pins s σ H vs us Q I r h
  obtain ⟨a, ns, rfl, hs, q⟩ := h
  rcases hs with hs | hs
  · exact cr_sum hc pins s σ H _ us Q I r ⟨a, ns, rfl, hs, q⟩
  · obtain rfl := Vals.ref1 r
    obtain ⟨its, rv, hl, _⟩ := I.tuple hs
    obtain ⟨xs, hx⟩ := rv.ints.allInts.items
    have hn : numsOf its.toArray.toList = ns := by rw [show its.toArray.toList = its from rfl, rv.ints.numsOf]
    rw [hx] at hl hn
    rw [nums_intItems] at hn
    refine ktm_sumG (I.ok.hd hc) hl fun h' tk t' hk => ?_
    rw [preSum_eq, List.take_of_length_le (by simp), hn]
    exact ⟨.int _, H, I.kept hk, ⟨_, rfl⟩, q⟩
def dSumA : List D → Option D
  | [.lst ds] => (intsOf ds).map fun ns => .int ns.sum
  | [.tup ds] => (intsOf ds).map fun ns => .int ns.sum
  | _ => none
theorem op_dSumA : OpN K (rSumA K) dSumA := by
  intro Hf F ρ Cs H xs as d Q S0 ha he k
  unfold dSumA at he
  split at he
  · cases ha with
    | cons h hs =>
      cases hs
      obtain ⟨a, xs, rfl, hx, hd⟩ := h.lst S0.ex
      obtain ⟨ns, h1, h2⟩ := Option.map_eq_some_iff.mp he
      subst h2
      have := intsOf_ok hd h1
      subst this
      exact ⟨a, ns, rfl, .inl hx, k.here S0 (.int _)⟩
  · cases ha with
    | cons h hs =>
      cases hs
      obtain ⟨a, xs, rfl, hx, _, hd⟩ := h.tup S0.ex
      obtain ⟨ns, h1, h2⟩ := Option.map_eq_some_iff.mp he
      subst h2
      have := intsOf_ok hd h1
      subst this
      exact ⟨a, ns, rfl, .inr hx, k.here S0 (.int _)⟩
  · cases he
end Sm
end
section
set_option maxRecDepth 100000
set_option maxHeartbeats 0
namespace Sm
open PySem L2
section
variable {X : Cx} {W : Wh}
/-! ### list(range(n)) -/
def lrD : D → Option (List D)
  | .int n => if n ≤ 1000000 ∧ -1000000 ≤ n then some (zs 0 n.toNat) else none
  | _ => none
def xLr (s : S D) : S (List D) := S.bind s fun d => fun env C => S.opt (lrD d) env C
theorem rgV_zs {K : PySem.W.Frag} {H : Hp} {ρ : List Addr} (n : Int) : Dats K H ρ (rgV 0 n) (zs 0 n.toNat) := by
  unfold rgV zs
  rw [Int.sub_zero]
  generalize List.range n.toNat = l
  induction l with
  | nil => exact .nil
  | cons a r ih => exact .cons (.int _) ih
theorem sl_lr {e : Expr} {p1 p2 pos1 pos : Pos} {s : S D} (h : PE X (.Call (.Name "list" p1) [.Call (.Name "range" p2) [e] [] pos1] [] pos) (tLstRg (tRg1 (tE X.K X.mg W s)))) :
    SL X W (.Call (.Name "list" p1) [.Call (.Name "range" p2) [e] [] pos1] [] pos) (xLr s) :=
  pe_imp h fun σ H Q ⟨Hf, F, ρ, env, C, S0, E0, g⟩ => ⟨Hf, F, ρ, env, C, S0, E0, by
    unfold xLr S.bind at g
    cases e : s env C with
    | none =>
      rw [e] at g
      exact g
    | some r =>
      rw [e] at g
      cases r with
      | ex c q C' => exact g
      | ok d C' =>
        refine fun x H' Hf' ρ' e' p' S' A' => ?_
        have g' : GoL X.K X.mg W σ Hf F ρ (S.opt (lrD d) env C') Q := g
        cases hd : lrD d with
        | none =>
          rw [hd] at g'
          exact g'.elim
        | some es =>
          rw [hd] at g'
          cases d with
          | int n =>
            cases A'
            have hd : (if n ≤ 1000000 ∧ -1000000 ≤ n then some (zs 0 n.toNat) else none) = some es := hd
            split at hd
            · rename_i hn
              have e0 := Option.some.inj hd
              subst e0
              exact ⟨n, rfl, ⟨by omega, by omega, by omega, by omega, by omega⟩, fun l hl => g' (.ref l) _ Hf' ρ' e' p' (fresh_new S' hl (rgV_zs n))⟩
            · cases hd
          | _ => cases hd⟩
/-! ### xs[i], ys[j] = a, b -/
def setAt (so si : S D) (v : D) : SS := xDo so fun o => xDo si fun i => fun e C => match o, i with
  | .cel n, .int k => match C[n]? with
    | some (some (.l ds)) => match ixN ds.length k with
      | some j => if nocel v = true then some (.nx e (C.set n (some (.l (ds.set j v))))) else none
      | none => none
    | _ => none
  | _, _ => none
theorem goSetAt {K : PySem.W.Frag} {mg : Str → Option Value} {Hf F : Hp} {ρ : List Addr} {σ : L2.St} {env : Env} {C : Cells} {H : Hp} {so si : S D} {v : V} {dv : D} {D0 : Ends} {Q : L2.St → Hp → Prop} (E0 : EnvR K mg W.xc Hf ρ σ env) (S0 : SR K Hf F ρ C H) (A1 : Dat K Hf ρ v dv)
    (g : GoS K mg W Hf F ρ (setAt so si dv env C) D0) (hQ : ∀ σ H, D0.nx σ H → Q σ H) : gSub (tE K mg W so) (tE K mg W si) rSetL v σ H Q :=
  ⟨Hf, F, ρ, env, C, S0, E0, (GoS.doit E0 g).mono fun x H2 ⟨Hf2, ρ2, C2, dx, e2, p2, S2, A2, g2⟩ =>
      ⟨Hf2, F, ρ2, env, C2, S2, E0.mono e2 p2, (GoS.doit (E0.mono e2 p2) g2).mono fun y H3 ⟨Hf3, ρ3, C3, dy, e3, p3, S3, A3, g3⟩ => by
        match dx, dy, A2, A3, g3 with
        | .cel n, .int k, .cel (a := ad) hn, .int _, g3 =>
          cases hc : C3[n]? with
          | none =>
            simp only [hc] at g3
            exact g3.elim
          | some oo =>
            cases oo with
            | none =>
              simp only [hc] at g3
              exact g3.elim
            | some o =>
              cases o with
              | l ds =>
                simp only [hc] at g3
                cases hj : ixN ds.length k with
                | none =>
                  simp only [hj] at g3
                  exact g3.elim
                | some j =>
                  simp only [hj] at g3
                  split at g3
                  · rename_i nc
                    have hn3 := pre_get p3 hn
                    obtain ⟨_, k2⟩ := S3.cel n ad _ hn3 hc
                    obtain ⟨vs, hv, hd⟩ := k2.lst
                    have hvv := (A1.mono (e2.trans e3) (p2.trans p3)).bare nc
                    exact ⟨ad, vs, k, j, rfl, rfl, hv, by rw [hd.len]; exact hj, hQ _ _ (g3 σ _ Hf3 ρ3 (Same.refl _) (List.prefix_refl _) (S3.setCel hn3 hc (hd.set hvv j)) ((E0.mono e2 p2).mono e3 p3))⟩
                  · exact g3.elim⟩⟩
def xSetI2 (o1 i1 o2 i2 : S D) (sv : S D) : SS := xDo sv fun t => match t with
  | .tup [d1, d2] => fun e C => match setAt o1 i1 d1 e C with
    | some (.nx e' C') => setAt o2 i2 d2 e' C'
    | _ => none
  | _ => fun _ _ => none
theorem sc_seti2 {o1 i1 o2 i2 e : Expr} {pp1 pp2 pt pos : Pos} {kt : Nat} {so1 si1 so2 si2 sv : S D} (h : PS X (.Assign [.Tuple [.Subscript o1 i1 pp1, .Subscript o2 i2 pp2] kt pt] e pos) (tAsg (tE X.K X.mg W sv) (gTup X.K 2 (gCons (gSub (tE X.K X.mg W so1) (tE X.K X.mg W si1) rSetL) (gCons (gSub (tE X.K X.mg W so2) (tE X.K X.mg W si2) rSetL) gNil))))) :
    SC X W (.Assign [.Tuple [.Subscript o1 i1 pp1, .Subscript o2 i2 pp2] kt pt] e pos) (xSetI2 so1 si1 so2 si2 sv) :=
  ps_imp h fun D σ H ⟨Hf, F, ρ, env, C, S0, E0, g⟩ => ⟨Hf, F, ρ, env, C, S0, E0, (GoS.doit E0 g).mono fun v H1 ⟨Hf1, ρ1, C1, dv, e1, p1, S1, A1, g1⟩ => by
    have E1 := E0.mono e1 p1
    have hdv : ∃ d1 d2, dv = .tup [d1, d2] := by
      match dv, g1 with
      | .tup [d1, d2], _ => exact ⟨d1, d2, rfl⟩
      | .tup [], g1 => exact g1.elim
      | .tup [_], g1 => exact g1.elim
      | .tup (_ :: _ :: _ :: _), g1 => exact g1.elim
      | .non, g1 => exact g1.elim
      | .bl _, g1 => exact g1.elim
      | .int _, g1 => exact g1.elim
      | .str _, g1 => exact g1.elim
      | .lst _, g1 => exact g1.elim
      | .cel _, g1 => exact g1.elim
      | .opq _, g1 => exact g1.elim
      | .err _ _ _, g1 => exact g1.elim
      | .dk _ _, g1 => exact g1.elim
      | .dt _ _, g1 => exact g1.elim
    obtain ⟨d1, d2, rfl⟩ := hdv
    have hA : ∃ a x1 x2, v = .ref a ∧ SqT X.K Hf1 a [x1, x2] ∧ Dat X.K Hf1 ρ1 x1 d1 ∧ Dat X.K Hf1 ρ1 x2 d2 := by
      cases A1 with
      | tup h hs =>
        cases hs with
        | cons h1 hs =>
          cases hs with
          | cons h2 hs =>
            cases hs
            exact ⟨_, _, _, rfl, h, h1, h2⟩
    obtain ⟨a, v1, v2, rfl, hq, B1, B2⟩ := hA
    refine ⟨a, [v1, v2], rfl, same_t S1.ex hq, rfl, v1, [v2], rfl, ?_⟩
    have g2 : GoS X.K X.mg W Hf1 F ρ1 (match setAt so1 si1 d1 env C1 with | some (.nx e' C') => setAt so2 si2 d2 e' C' | _ => none) D := g1
    cases hs : setAt so1 si1 d1 env C1 with
    | none =>
      rw [hs] at g2
      exact g2.elim
    | some r =>
      rw [hs] at g2
      cases r with
      | nx e' C' =>
        have g2 : GoS X.K X.mg W Hf1 F ρ1 (setAt so2 si2 d2 e' C') D := g2
        refine goSetAt (D0 := { D with nx := fun σ H => gCons (gSub (tE X.K X.mg W so2) (tE X.K X.mg W si2) rSetL) gNil [v2] σ H D.nx }) E1 S1 B1 ?_ fun σ H q => q
        rw [hs]
        intro σ' H' Hf' ρ' e p S' E'
        refine ⟨v2, [], rfl, ?_⟩
        exact goSetAt (D0 := D) E' S' (B2.mono e p) (g2.later e p) fun σ H q => ⟨rfl, q⟩
      | _ => exact g2.elim⟩
end
/-! ### min of a list or a tuple of ints, not empty -/
def rMinA (K : PySem.W.Frag) : List V → Hp → VK → Prop := fun vs H Q => ∃ (a : Addr) (ns : List Int), vs = [V.ref a] ∧ (SqL K H a (ns.map V.int) ∨ SqT K H a (ns.map V.int)) ∧ 0 < ns.length ∧ ∀ m, m ∈ ns → (∀ y, y ∈ ns → m ≤ y) → Q (.int m) H
open PySem.W in
theorem minOf_int : ∀ (ns : List Int) (m : Int), (minOf m ns = m ∨ minOf m ns ∈ ns) ∧ minOf m ns ≤ m ∧ ∀ n ∈ ns, minOf m ns ≤ n
  | [], m => ⟨.inl rfl, Int.le_refl _, fun n hn => by cases hn⟩
  | n :: ns, m => by
    obtain ⟨h1, h2, h3⟩ := minOf_int ns (if DatumOrd.lt n m = true then n else m)
    have e : minOf m (n :: ns) = minOf (if DatumOrd.lt n m = true then n else m) ns := rfl
    have hl : DatumOrd.lt n m = decide (n < m) := rfl
    rw [e]
    rw [hl] at h1 h2 h3 ⊢
    by_cases q : n < m
    · simp only [q, decide_true, if_true] at h1 h2 h3 ⊢
      refine ⟨.inr ?_, by omega, fun z hz => ?_⟩
      · rcases h1 with h1 | h1
        · rw [h1]; exact List.mem_cons_self
        · exact List.mem_cons_of_mem _ h1
      · rcases List.mem_cons.mp hz with rfl | hz
        · exact h2
        · exact h3 z hz
    · simp only [q, decide_false, Bool.false_eq_true, if_false] at h1 h2 h3 ⊢
      refine ⟨?_, h2, fun z hz => ?_⟩
      · rcases h1 with h1 | h1
        · exact .inl h1
        · exact .inr (List.mem_cons_of_mem _ h1)
      · rcases List.mem_cons.mp hz with rfl | hz
        · omega
        · exact h3 z hz
open PySem.W in
theorem cr_minA {X : Cx} (hc : X.calm = true) (hu : X.A.units + 65 < PySem.cLine) : CallR X (.builtin "min") (rMinA X.K) := by
  intro pins s σ H vs us Q I r h
  obtain ⟨a, ns, rfl, hs, hne, q⟩ := h
  rcases hs with hs | hs
  · exact cr_min hc pins s σ H _ us Q I r ⟨a, ns, rfl, hs, hne, q⟩
  · obtain rfl := Vals.ref1 r
    cases ns with
    | nil => exact absurd hne (Nat.lt_irrefl 0)
    | cons y ys =>
      have hd : X.A.units + 1 + Datum.depth Int < PySem.cLine := by
        have : Datum.depth Int = 0 := rfl
        omega
      obtain ⟨its, rv, hl, _⟩ := I.tuple hs
      refine min_tuple_datum (x := y) (xs := ys) (I.ok.hd hc) hl (HoldAll.of_ints rv.ints) hd fun i v h' tk _ hv hk => ?_
      obtain ⟨m1, m2, m3⟩ := minOf_int ys y
      obtain ⟨t, rfl⟩ : ∃ t, v = .int (minOf y ys) t := by
        obtain ⟨as, hr⟩ := hv
        cases hr
        exact ⟨_, rfl⟩
      refine ⟨.int _, H, I.kept hk, ⟨t, rfl⟩, q _ ?_ fun n hn => ?_⟩
      · rcases m1 with m1 | m1
        · rw [m1]; exact List.mem_cons_self
        · exact List.mem_cons_of_mem _ m1
      · rcases List.mem_cons.mp hn with rfl | hn
        · exact m2
        · exact m3 n hn
theorem minI_in {n m : Int} {ns : List Int} (h1 : m ∈ n :: ns) (h2 : ∀ y ∈ n :: ns, m ≤ y) : m = minI n ns := by
  obtain ⟨a1, a2, a3⟩ := minI_ok ns n
  have b1 : m ≤ minI n ns := by
    rcases a1 with a1 | a1
    · rw [a1]; exact h2 n List.mem_cons_self
    · exact h2 _ (List.mem_cons_of_mem _ a1)
  have b2 : minI n ns ≤ m := by
    rcases List.mem_cons.mp h1 with rfl | h1
    · exact a2
    · exact a3 m h1
  omega
def minL : List Int → Option D
  | [] => none
  | n :: ns => some (.int (minI n ns))
def dMinA : List D → Option D
  | [.lst ds] => (intsOf ds).bind minL
  | [.tup ds] => (intsOf ds).bind minL
  | _ => none
theorem op_dMinA {K : PySem.W.Frag} : OpN K (rMinA K) dMinA := by
  intro Hf F ρ Cs H xs as d Q S0 ha he k
  have fin : ∀ (a : Addr) (ns : List Int), (SqL K H a (ns.map V.int) ∨ SqT K H a (ns.map V.int)) → minL ns = some d → rMinA K [V.ref a] H Q := fun a ns hs e => by
    cases ns with
    | nil => cases e
    | cons n ns =>
      have e := Option.some.inj e
      subst e
      exact ⟨a, n :: ns, rfl, hs, by simp, fun m m1 m2 => by rw [minI_in m1 m2]; exact k.here S0 (.int _)⟩
  unfold dMinA at he
  split at he
  · obtain ⟨ns, h1, h2⟩ := Option.bind_eq_some_iff.mp he
    cases ha with
    | cons h hs =>
      cases hs
      obtain ⟨a, ys, rfl, hx, hd⟩ := h.lst S0.ex
      have := intsOf_ok hd h1
      subst this
      exact fin a ns (.inl hx) h2
  · obtain ⟨ns, h1, h2⟩ := Option.bind_eq_some_iff.mp he
    cases ha with
    | cons h hs =>
      cases hs
      obtain ⟨a, ys, rfl, hx, _, hd⟩ := h.tup S0.ex
      have := intsOf_ok hd h1
      subst this
      exact fin a ns (.inr hx) h2
  · cases he
/-! ### a, b = a list -/
def gL (u : Tgs) : Tg := ⟨fun d e => match d with
  | .lst ds => u.put ds e
  | _ => none, u.at_⟩
theorem sg_lst {X : Cx} {W : Wh} {es : List Expr} {k : Nat} {pos : Pos} {u : Tgs} {n : Nat} (h : ∀ t, PGs X es t → PG X (.Tuple es k pos) (gLst X.K n t)) (hu : SGs X W es u) (hn : ∀ ds e e', u.put ds e = some e' → ds.length = n) : SG X W (.Tuple es k pos) (gL u) :=
  pg_imp (h _ hu) fun v σ H Q ⟨Hf, F, ρ, env, C, d, S0, E0, D0, env', he, q⟩ => by
    cases D0 with
    | @lst a xs ds h hs =>
      exact ⟨a, xs, rfl, same_l S0.ex h, by rw [hs.len]; exact hn _ _ _ he, Hf, F, ρ, env, C, ds, S0, E0, hs, env', he, q⟩
    | _ => cases he
end Sm
end
section
set_option maxRecDepth 100000
set_option maxHeartbeats 0
namespace SmX
open PySem PySem.Spec PyProof.Rows L2
/-! ### zip of three tuples -/
def Itz3 (K : PySem.W.Frag) (a b c : Addr) (n : Nat) : It :=
  ⟨fun i H => i < n ∧ ∃ xs ys zs : List V, SqT K H a xs ∧ SqT K H b ys ∧ SqT K H c zs ∧ min (min xs.length ys.length) zs.length = n,
    fun i H v H' => ∃ T x y z, v = .ref T ∧ H T = none ∧ H' = upd H T (.tup [x, y, z]) ∧ (∀ xs, SqT K H a xs → xs[i]? = some x) ∧ (∀ ys, SqT K H b ys → ys[i]? = some y) ∧ ∀ zs, SqT K H c zs → zs[i]? = some z,
    fun i H => n ≤ i ∧ ∃ xs ys zs : List V, SqT K H a xs ∧ SqT K H b ys ∧ SqT K H c zs ∧ min (min xs.length ys.length) zs.length = n⟩
abbrev fp3 (z TI TO i1 i2 i3 : Addr) : List Addr := [z, TI, TO, i1, i2, i3]
abbrev tn3 (a b c : Addr) (n : Nat) (z TI TO i1 i2 i3 : Addr) : Nat → Heap → Prop := fun i h => i ≤ n ∧ IsZip h z TI TO .none ∧ IsTupOf3 h TI (.ref i1) (.ref i2) (.ref i3) ∧ (∃ x y u, IsTupOf3 h TO x y u) ∧ h.IsTupleIter i1 a i ∧ h.IsTupleIter i2 b i ∧ h.IsTupleIter i3 c i
theorem turn_zip3 {P : Program} {w : World} {K : PySem.W.Frag} {elts : List Expr} {kk : Nat} {tpos : Pos} {a b c z TI TO i1 i2 i3 : Addr} {n : Nat} (D : ZipSep3 z TI TO i1 i2 i3 [i1, a] [i2, b] [i3, c]) (ha : a ≠ i1) (hb : b ≠ i2) (hc3 : c ≠ i3) :
    Turn P w K (.Tuple elts kk tpos) (Itz3 K a b c n) (fp3 z TI TO i1 i2 i3) z (tn3 a b c n z TI TO i1 i2 i3) where
  mem := by simp
  obj := fun i h st d hd => by
    obtain ⟨_, hz, hTI, ⟨x, y, u, hTO⟩, ⟨o1, e1, _, d1⟩, ⟨o2, e2, _, d2⟩, ⟨o3, e3, _, d3⟩⟩ := st
    have e' : d = z ∨ d = TI ∨ d = TO ∨ d = i1 ∨ d = i2 ∨ d = i3 := by simpa using hd
    rcases e' with q | q | q | q | q | q
    · rw [q]; exact ⟨_, hz, fun v q => nomatch q⟩
    · rw [q]; exact ⟨_, hTI, fun v q => nomatch q⟩
    · rw [q]; exact ⟨_, hTO, fun v q => nomatch q⟩
    · rw [q]; exact ⟨o1, e1, fun v q => by rw [d1] at q; cases q⟩
    · rw [q]; exact ⟨o2, e2, fun v q => by rw [d2] at q; cases q⟩
    · rw [q]; exact ⟨o3, e3, fun v q => by rw [d3] at q; cases q⟩
  keep := fun i h h' st k => by
    obtain ⟨hi, hz, hTI, ⟨x, y, u, hTO⟩, h1, h2, h3⟩ := st
    exact ⟨hi, k z (by simp) _ hz, k TI (by simp) _ hTI, ⟨x, y, u, k TO (by simp) _ hTO⟩, h1.at fun o q => k i1 (by simp) o q, h2.at fun o q => k i2 (by simp) o q, h3.at fun o q => k i3 (by simp) o q⟩
  item := by
    intro X hP hw hK hc i pins s σ H E I hf st hg
    subst hP hw hK
    obtain ⟨_, hz, hTI, hTO, h1, h2, h3⟩ := st
    obtain ⟨hin, xs, ys, zs, hqx, hqy, hqz, hn⟩ := hg
    obtain ⟨its, rv, p, _⟩ := I.tuple hqx
    obtain ⟨its2, rv2, p2, _⟩ := I.tuple hqy
    obtain ⟨its3, rv3, p3, _⟩ := I.tuple hqz
    have l1 := rv.length
    have l2 := rv2.length
    have l3 := rv3.length
    have hh : X.A.in1.handled = none := I.ok.hd hc
    have W := GoesN.zip3 (elts := elts) (x1 := kk) (pos := tpos) D (Draws.tuple hh i1 a ha its.toArray) (Draws.tuple hh i2 b hb its2.toArray) (Draws.tuple hh i3 c hc3 its3.toArray) (prog := X.prog) (w := X.w) (A := X.A)
    have hlt : ∀ d, d ∈ fp3 z TI TO i1 i2 i3 → d < s.heap.objs.size := fun d hd => by
      obtain ⟨x0, y0, u0, hTO⟩ := hTO
      have e' : d = z ∨ d = TI ∨ d = TO ∨ d = i1 ∨ d = i2 ∨ d = i3 := by simpa using hd
      rcases e' with q | q | q | q | q | q
      · rw [q]; exact Heap.lt_size hz
      · rw [q]; exact Heap.lt_size hTI
      · rw [q]; exact Heap.lt_size hTO
      · rw [q]; obtain ⟨_, e1, _⟩ := h1; exact Heap.lt_size e1
      · rw [q]; obtain ⟨_, e1, _⟩ := h2; exact Heap.lt_size e1
      · rw [q]; obtain ⟨_, e1, _⟩ := h3; exact Heap.lt_size e1
    refine W.goes i s _ E (by simp; omega) ⟨hz, hTI, hTO, ⟨h1, p⟩, ⟨h2, p2⟩, ⟨h3, p3⟩⟩ fun v h' tk hY st' hk htk => ?_
    obtain ⟨T, u1, u2, u3, rfl, hT, g1, g2, g3, hTup⟩ := hY
    have g1 : its[i]? = some u1 := by simpa using g1
    have g2 : its2[i]? = some u2 := by simpa using g2
    have g3 : its3[i]? = some u3 := by simpa using g3
    have hx : i < xs.length := by omega
    have hy : i < ys.length := by omega
    have hz' : i < zs.length := by omega
    have r1 : RelV xs[i] u1 := by
      obtain ⟨u, hu, ru⟩ := rv.get (List.getElem?_eq_getElem hx)
      rw [g1] at hu
      exact (Option.some.inj hu) ▸ ru
    have r2 : RelV ys[i] u2 := by
      obtain ⟨u, hu, ru⟩ := rv2.get (List.getElem?_eq_getElem hy)
      rw [g2] at hu
      exact (Option.some.inj hu) ▸ ru
    have r3 : RelV zs[i] u3 := by
      obtain ⟨u, hu, ru⟩ := rv3.get (List.getElem?_eq_getElem hz')
      rw [g3] at hu
      exact (Option.some.inj hu) ▸ ru
    obtain ⟨sz, sTI, sTO, ⟨s1, _⟩, ⟨s2, _⟩, ⟨s3, _⟩⟩ := st'
    have new : ObjOk X.prog X.w (upd H T (.tup [xs[i], ys[i], zs[i]])) h' T (.tup [xs[i], ys[i], zs[i]]) :=
      ⟨by show 3 ≤ sizeLine; decide, [u1, u2, u3], .cons r1 (.cons r2 (.cons r3 .nil)), hTup⟩
    have I1 : Inv X pins σ (upd H T (.tup [xs[i], ys[i], zs[i]])) { s with heap := h', toks := tk } :=
      I.turnedNew (t' := tk) (ch := fp3 z TI TO i1 i2 i3) (fun d o hd q => hk d o (fun z => hd (by simp at z ⊢; rcases z with z | z | z | z | z <;> simp [z])) q) hf hT new
    refine ⟨.ref T, _, I1, rfl, ⟨T, xs[i], ys[i], zs[i], rfl, I.hok.fresh hT, rfl, fun l hl => by rw [I.tuple_inj hl hqx]; exact List.getElem?_eq_getElem hx, fun l hl => by rw [I.tuple_inj hl hqy]; exact List.getElem?_eq_getElem hy, fun l hl => by rw [I.tuple_inj hl hqz]; exact List.getElem?_eq_getElem hz'⟩, ⟨hin, sz, sTI, sTO, s1, s2, s3⟩, fun d hd => ?_⟩
    rw [upd_ne (Nat.ne_of_lt (Nat.lt_of_lt_of_le (hlt d hd) hT))]
    exact (hf d hd).1
  done := by
    intro X hP hw hK hc i pins s σ H E I hf st hg
    subst hP hw hK
    obtain ⟨hi, hz, hTI, hTO, h1, h2, h3⟩ := st
    obtain ⟨hin, xs, ys, zs, hqx, hqy, hqz, hn⟩ := hg
    obtain ⟨its, rv, p, _⟩ := I.tuple hqx
    obtain ⟨its2, rv2, p2, _⟩ := I.tuple hqy
    obtain ⟨its3, rv3, p3, _⟩ := I.tuple hqz
    have l1 := rv.length
    have l2 := rv2.length
    have l3 := rv3.length
    have hh : X.A.in1.handled = none := I.ok.hd hc
    have W := GoesN.zip3 (elts := elts) (x1 := kk) (pos := tpos) D (Draws.tuple hh i1 a ha its.toArray) (Draws.tuple hh i2 b hb its2.toArray) (Draws.tuple hh i3 c hc3 its3.toArray) (prog := X.prog) (w := X.w) (A := X.A)
    have e : i = min (min its.toArray.size its2.toArray.size) its3.toArray.size := by simp; omega
    rw [e] at h1 h2 h3
    exact W.stops s _ E ⟨hz, hTI, hTO, ⟨h1, p⟩, ⟨h2, p2⟩, ⟨h3, p3⟩⟩ fun h' tk hk htk => I.turnedL (t' := tk) (ch := fp3 z TI TO i1 i2 i3) (fun d o hd q => hk d o (fun z => hd (by simp at z ⊢; rcases z with z | z | z | z | z <;> simp [z])) q) hf
  self := fun A i s Q E st h => wpAny_pyIter_zip st.2.1 h
def iZip3 (K : PySem.W.Frag) (ta : TA) : TI := fun σ H R => ta σ H fun vs H1 => ∃ a b c xs ys zs, vs = [.ref a, .ref b, .ref c] ∧ SqT K H1 a xs ∧ SqT K H1 b ys ∧ SqT K H1 c zs ∧ R (Itz3 K a b c (min (min xs.length ys.length) zs.length)) H1
theorem pi_zip3 {X : Cx} {e e2 e3 : Expr} {ta : TA} {p pos tpos : Pos} {elts : List Expr} {kk : Nat} (hg : Gl X "zip") (hm : X.mg "zip" = none) (ha : PA X [e, e2, e3] ta)
    (hs : starEach [e, e2, e3] X.env = (false, eval e X.env) :: starEach [e2, e3] X.env := by rfl) (hpl : (backTo pos (starEach [e2, e3] X.env)).any (·.1) = false := by rfl) :
    PI X (.Tuple elts kk tpos) (.Call (.Name "zip" p) [e, e2, e3] [] pos) (iZip3 X.K ta) := by
  refine ⟨fun pins s σ H R I h => ?_⟩
  refine Call_ (ld_blt I hg hm PyProof.Rows.boot_zip (PyProof.Rows.callWith_type1 (thn (ha.run pos pins s σ H _ I h) fun us s1 ⟨vs, H1, I1, r1, q1⟩ => ?_) hs hpl))
  obtain ⟨a, b, c, xs, ys, zs, ex, hqx, hqy, hqz, q⟩ := q1
  subst ex
  cases r1 with
  | cons r rr =>
    cases rr with
    | cons r' rr =>
      cases rr with
      | cons r'' rr =>
        cases rr
        cases r
        cases r'
        cases r''
        obtain ⟨its, rv, p1, _⟩ := I1.tuple hqx
        obtain ⟨its2, rv2, p2, _⟩ := I1.tuple hqy
        obtain ⟨its3, rv3, p3, _⟩ := I1.tuple hqz
        obtain ⟨o1, ho1, _⟩ := id p1
        obtain ⟨o2, ho2, _⟩ := id p2
        obtain ⟨o3, ho3, _⟩ := id p3
        have b1 := Heap.lt_size ho1
        have b2 := Heap.lt_size ho2
        have b3 := Heap.lt_size ho3
        have fresh6 : ∀ d, d ∈ fp3 (s1.heap.objs.size + 5) (s1.heap.objs.size + 3) (s1.heap.objs.size + 4) s1.heap.objs.size (s1.heap.objs.size + 1) (s1.heap.objs.size + 2) → FpOk X pins H1 d := fun d hd => by
          have hle : s1.heap.objs.size ≤ d := by
            have e' : d = s1.heap.objs.size + 5 ∨ d = s1.heap.objs.size + 3 ∨ d = s1.heap.objs.size + 4 ∨ d = s1.heap.objs.size ∨ d = s1.heap.objs.size + 1 ∨ d = s1.heap.objs.size + 2 := by simpa using hd
            rcases e' with z | z | z | z | z | z
            · rw [z]; exact Nat.le_add_right _ _
            · rw [z]; exact Nat.le_add_right _ _
            · rw [z]; exact Nat.le_add_right _ _
            · rw [z]; exact Nat.le_refl _
            · rw [z]; exact Nat.le_add_right _ _
            · rw [z]; exact Nat.le_add_right _ _
          exact I1.fpOk hle (I1.hok.fresh hle)
        refine zip_begins3 (begins_tuple a its.toArray) (begins_tuple b its2.toArray) (begins_tuple c its3.toArray) p1 p2 p3 fun h' hz hTI hTO h1 h2 h3 hsz hk => wpAny_pyIter_zip hz ?_
        have I2 : Inv X pins σ H1 { s1 with heap := h' } := I1.kept (t' := s1.toks) hk
        exact ⟨s1.heap.objs.size + 5, fp3 (s1.heap.objs.size + 5) (s1.heap.objs.size + 3) (s1.heap.objs.size + 4) s1.heap.objs.size (s1.heap.objs.size + 1) (s1.heap.objs.size + 2), _, _, H1, rfl, I2,
          turn_zip3 (zip_sep3 (N := s1.heap.objs.size) (fp1 := [a]) (fp2 := [b]) (fp3 := [c]) (fun d hd => by rw [List.mem_singleton.mp hd]; exact b1) (fun d hd => by rw [List.mem_singleton.mp hd]; exact b2) (fun d hd => by rw [List.mem_singleton.mp hd]; exact b3)) (Nat.ne_of_lt b1) (Nat.ne_of_lt (Nat.lt_succ_of_lt b2)) (Nat.ne_of_lt (Nat.lt_succ_of_lt (Nat.lt_succ_of_lt b3))),
          ⟨Nat.zero_le _, hz, hTI, ⟨_, _, _, hTO⟩, ⟨_, h1, rfl, rfl⟩, ⟨_, h2, rfl, rfl⟩, ⟨_, h3, rfl, rfl⟩⟩, fresh6, q⟩
end SmX
namespace Sm
open PySem L2
variable {K : PySem.W.Frag}
def prs3 (xs ys zs : List D) : List D := (xs.zip (ys.zip zs)).map fun p => .tup [p.1, p.2.1, p.2.2]
theorem prs3_len (xs ys zs : List D) : (prs3 xs ys zs).length = min (min xs.length ys.length) zs.length := by
  unfold prs3
  simp
theorem prs3_get {xs ys zs : List D} {i : Nat} {x y z : D} (h1 : xs[i]? = some x) (h2 : ys[i]? = some y) (h3 : zs[i]? = some z) : (prs3 xs ys zs)[i]? = some (.tup [x, y, z]) := by
  unfold prs3
  have h4 : (ys.zip zs)[i]? = some (y, z) := by simp [List.getElem?_zip_eq_some, h2, h3]
  have : (xs.zip (ys.zip zs))[i]? = some (x, (y, z)) := by simp [List.getElem?_zip_eq_some, h1, h4, h2, h3]
  rw [List.getElem?_map, this]
  rfl
theorem wk_z3 {Hf : Hp} {ρ : List Addr} {a b c : Addr} {xs ys zs : List V} {ds es fs : List D} (hx : SqT K Hf a xs) (hd : Dats K Hf ρ xs ds) (hy : SqT K Hf b ys) (he : Dats K Hf ρ ys es) (hz : SqT K Hf c zs) (hw : Dats K Hf ρ zs fs) : Wk K Hf ρ (SmX.Itz3 K a b c (min (min xs.length ys.length) zs.length)) (prs3 ds es fs, gd0) := fun i Hf' F' ρ' C' H' e p S0 hg => by
  have hl := hd.len
  have hl2 := he.len
  have hl3 := hw.len
  have hx' : SqT K H' a xs := same_t S0.ex (same_t e hx)
  have hy' : SqT K H' b ys := same_t S0.ex (same_t e hy)
  have hz' : SqT K H' c zs := same_t S0.ex (same_t e hz)
  have hE : ((prs3 ds es fs, gd0) : List D × Gd).1.length = min (min ds.length es.length) fs.length := prs3_len ds es fs
  refine ⟨fun hi => ?_, fun hi => ⟨by omega, xs, ys, zs, hx', hy', hz', rfl⟩⟩
  refine ⟨⟨by omega, xs, ys, zs, hx', hy', hz', rfl⟩, fun x H2 hyy => ?_⟩
  obtain ⟨T, u, w, v, rfl, hT, rfl, hu, hw1, hv⟩ := hyy
  obtain ⟨d, h1, h2⟩ := (hd.mono e p).getV (hu xs hx')
  obtain ⟨f, h3, h4⟩ := (he.mono e p).getV (hw1 ys hy')
  obtain ⟨g, h5, h6⟩ := (hw.mono e p).getV (hv zs hz')
  obtain ⟨Hf2, e2, S2, D2⟩ := S0.pair hT (.cons h2 (.cons h4 (.cons h6 .nil)))
  exact ⟨_, Hf2, prs3_get h1 h3 h5, e2, S2, D2⟩
def zips3 (ds : List D) : Option (List D × Gd) := match ds with
  | [.tup xs, .tup ys, .tup zs] => some (prs3 xs ys zs, gd0)
  | _ => none
def iZ3 (s : S (List D)) : SW := S.bind s fun ds => S.opt (zips3 ds)
section
variable {X : Cx} {W : Wh}
theorem si_zip3 {elts : List Expr} {kk : Nat} {tpos p pos : Pos} {e e2 e3 : Expr} {s : S (List D)} (h : PI X (.Tuple elts kk tpos) (.Call (.Name "zip" p) [e, e2, e3] [] pos) (SmX.iZip3 X.K (tA X.K X.mg W s))) :
    SI X W (.Tuple elts kk tpos) (.Call (.Name "zip" p) [e, e2, e3] [] pos) (iZ3 s) := pi_imp h fun σ H R ⟨Hf, F, ρ, env, C, S0, E0, g⟩ =>
  ⟨Hf, F, ρ, env, C, S0, E0, (Go.bind g).mono fun vs H1 ⟨Hf1, ρ1, C1, ds, e1, p1, S1, A1, g1⟩ => by
    obtain ⟨q, hq, g2⟩ := Go.opt g1
    unfold zips3 at hq
    split at hq
    · rename_i xs ys zs
      have e := Option.some.inj hq
      subst e
      cases A1 with
      | cons h1 h2 =>
        cases h2 with
        | cons h3 h4 =>
          cases h4 with
          | cons h5 h6 =>
            cases h6
            cases h1 with
            | @tup a xs' _ k1 k2 =>
              cases h3 with
              | @tup b ys' _ k3 k4 =>
                cases h5 with
                | @tup c zs' _ k5 k6 =>
                  exact ⟨a, b, c, xs', ys', zs', rfl, same_t S1.ex k1, same_t S1.ex k3, same_t S1.ex k5, g2 _ H1 Hf1 ρ1 (Same.refl _) (List.prefix_refl _) S1 (wk_z3 k1 k2 k3 k4 k5 k6)⟩
    · cases hq⟩
end
end Sm
end
section
set_option maxRecDepth 100000
set_option maxHeartbeats 0
open PyProof.Rows PySem PySem.W PySem.Calls PySem.Spec
namespace Sk15
noncomputable section
open PySem L2 Sm
def topS (i : Nat) : Stmt := PySem.Challenge.pw_ringstairs_k15_whole_greatest_heaps_and.main.body.getD i (.Pass ⟨0, 0, 0, 0⟩)
/-! ### what the defs come to -/
def b__law_dice : SS := xSeq (xAsg (x2 dAdd (x2 dMulA (S.val (.int (101))) (xV 1)) (S.val (.int (47)))) (gN 2)) (xSeq (xIfS (xB (x2 dLt (xV 1) (xN dLen (aCons (xV 0) (aNil))))) (xAsg (x2 dIx (xV 0) (xV 1)) (gN 2)) (xNext)) (xSeq (xAsg (x2 dMod (xN dInt (aCons (xN dAbs (aCons (xV 2) (aNil))) (aNil))) (x2 dPow (x2 dPow (S.val (.int (10))) (S.val (.int (60)))) (S.val (.int (10))))) (gN 3)) (xSeq (xAsg (x2 dDiv (xV 3) (x2 dPow (S.val (.int (10))) (S.val (.int (18))))) (gN 4)) (xSeq (xAsg (x2 dAdd (x2 dAdd (x2 dAdd (x2 dMulA (x2 dMod (xV 3) (S.val (.int (2147482697)))) (S.val (.int (60497)))) (x2 dMulA (S.val (.int (3533))) (xV 1))) (x2 dMulA (S.val (.int (89))) (xN dInt (aCons (x2 dLt (xV 2) (S.val (.int (0)))) (aNil))))) (S.val (.int (109)))) (gN 5)) (xRet (xC (S.bind (aCons (xV 4) (aCons (x2 dMod (xV 5) (S.val (.int (2147482661)))) (aCons (S.val (.int (0))) (aNil)))) fun ds => S.opt (few id ds))))))))
def m__law_dice : Fn := xDef 2 6 b__law_dice
def b__law_roll : SS := xSeq (xAsg (xN dInt (aCons (xV 1) (aNil))) (gN 2)) (xSeq (xIfS (xB (x2 dGt (x2 dIx (xV 0) (S.val (.int (0)))) (S.val (.int (0))))) (xSeq (xAsg (x2 dMod (x2 dIx (xV 0) (S.val (.int (0)))) (xV 2)) (gN 5)) (xSeq (xSetI (xV 0) (S.val (.int (0))) (x2 dDiv (x2 dIx (xV 0) (S.val (.int (0)))) (xV 2))) (xRet (xN dInt (aCons (xV 5) (aNil)))))) (xNext)) (xSeq (xSetI (xV 0) (S.val (.int (2))) (x2 dAdd (x2 dIx (xV 0) (S.val (.int (2)))) (S.val (.int (1))))) (xSeq (xAsg (x2 dMod (x2 dAdd (x2 dIx (xV 0) (S.val (.int (1)))) (x2 dMulA (S.val (.int (1000409))) (x2 dIx (xV 0) (S.val (.int (2)))))) (S.val (.int (2305843009213693951)))) (gN 3)) (xSeq (xAsg (x2 dAdd (x2 dMulA (x2 dMod (x2 dMulA (xV 3) (xV 3)) (S.val (.int (2305843009213693921)))) (xV 3)) (x2 dMulA (S.val (.int (9479))) (x2 dIx (xV 0) (S.val (.int (2)))))) (gN 4)) (xSeq (xAsg (x2 dMod (xV 4) (S.val (.int (2305843009213693907)))) (gN 4)) (xRet (xN dInt (aCons (x2 dMod (x2 dDiv (xV 4) (S.val (.int (4096)))) (xV 2)) (aNil)))))))))
def m__law_roll : Fn := xDef 2 6 b__law_roll
def b__law_ring : SS := xSeq (xAsg (x2 dAdd (S.val (.int (2))) (xCall m__law_roll (aCons (xV 0) (aCons (x2 dSub (xV 1) (S.val (.int (1)))) (aNil))))) (gN 2)) (xRet (xTup (aCons (xV 2) (aCons (x2 dAdd (S.val (.int (1))) (xCall m__law_roll (aCons (xV 0) (aCons (x2 dSub (xV 2) (S.val (.int (1)))) (aNil))))) (aNil)))))
def m__law_ring : Fn := xDef 2 3 b__law_ring
def b__law_one_of : SS := xRet (x2 dIx (xV 1) (xCall m__law_roll (aCons (xV 0) (aCons (xN dLen (aCons (xV 1) (aNil))) (aNil)))))
def m__law_one_of : Fn := xDef 2 2 b__law_one_of
def q1__law_common : S Bool := xB (x2 dNe (xV 1) (S.val (.int (0))))
def q2__law_common : SS := xPar 0 1 (aCons (xV 1) (aCons (x2 dMod (xV 0) (xV 1)) (aNil)))
def q3__law_common : SS := wh (q1__law_common) (q2__law_common) 100
def b__law_common : SS := xSeq (q3__law_common) (xRet (xV 0))
def m__law_common : Fn := xDef 2 2 b__law_common
def q1__law_ring_of : S (List D) := xLc (iR2 (aCons (S.val (.int (1))) (aCons (xV 1) (aNil)))) (gN 5) (xB (x2 dEq (xCall m__law_common (aCons (xV 1) (aCons (xV 5) (aNil)))) (S.val (.int (1))))) (xV 5) [5]
def b__law_ring_of : SS := xSeq (xAsg (x2 dAdd (S.val (.int (1))) (xCall m__law_roll (aCons (xV 0) (aCons (xV 2) (aNil))))) (gN 3)) (xSeq (xAsg (xF (q1__law_ring_of)) (gN 4)) (xRet (xTup (aCons (x2 dMulA (xV 1) (xV 3)) (aCons (x2 dMulA (xV 3) (xCall m__law_one_of (aCons (xV 0) (aCons (xV 4) (aNil))))) (aNil))))))
def m__law_ring_of : Fn := xDef 3 6 b__law_ring_of
def q1__law_chain : S (List D) := xLc (iR1 (aCons (xV 1) (aNil))) (gN 4) (S.val true) (xCall m__law_ring_of (aCons (xV 0) (aCons (xV 3) (aCons (x2 dDiv (xV 2) (xV 3)) (aNil))))) [4]
def q2__law_chain : S (List D) := xLc (iR1 (aCons (xV 1) (aNil))) (gN 4) (S.val true) (xCall m__law_ring (aCons (xV 0) (aCons (xV 2) (aNil)))) [4]
def b__law_chain : SS := xSeq (xIfS (xB (x2 dEq (xCall m__law_roll (aCons (xV 0) (aCons (S.val (.int (3))) (aNil)))) (S.val (.int (0))))) (xSeq (xAsg (x2 dAdd (S.val (.int (2))) (xCall m__law_roll (aCons (xV 0) (aCons (xN dMin2 (aCons (S.val (.int (3))) (aCons (x2 dSub (xV 2) (S.val (.int (1)))) (aNil)))) (aNil))))) (gN 3)) (xRet (xN dTuple (aCons (xF (q1__law_chain)) (aNil))))) (xNext)) (xRet (xN dTuple (aCons (xF (q2__law_chain)) (aNil))))
def m__law_chain : Fn := xDef 3 5 b__law_chain
def q1__law_tuple : SS := xExp (xM mAppend (xV 2) (aCons (xIf (xB (x2 dEq (xCall m__law_roll (aCons (xV 0) (aCons (S.val (.int (4))) (aNil)))) (S.val (.int (0))))) (xCall m__law_roll (aCons (xV 0) (aCons (xV 3) (aNil)))) (x2 dMod (x2 dMulA (x2 dSub (xCall m__law_roll (aCons (xV 0) (aCons (S.val (.int (5))) (aNil)))) (S.val (.int (2)))) (xV 4)) (xV 3))) (aNil)))
def q2__law_tuple : SS := xFor (iV (xV 1)) (gT (gsC (gN 3) (gsC (gN 4) (gsN)))) (q1__law_tuple)
def b__law_tuple : SS := xSeq (xAsg (xC (S.bind (aNil) fun ds => S.opt (few id ds))) (gN 2)) (xSeq (q2__law_tuple) (xRet (xN dTuple (aCons (xV 2) (aNil)))))
def m__law_tuple : Fn := xDef 2 5 b__law_tuple
def q1_holds_in : S (List D) := xLc (iZp (aCons (xV 0) (aCons (xV 1) (aNil)))) (gT (gsC (gN 2) (gsC (gN 3) (gsN)))) (S.val true) (x2 dGe (xV 2) (xV 3)) [2, 3]
def b_holds_in : SS := xRet (xAndV (x2 dLe (xN dLen (aCons (xV 1) (aNil))) (xN dLen (aCons (xV 0) (aNil)))) (xN dAll (aCons (xF (q1_holds_in)) (aNil))))
def m_holds_in : Fn := xDef 2 4 b_holds_in
def b_is_whole : SS := xRet (xAndV (xN dIsi (aCons (xV 0) (aCons (S.val (.opq (.ty "int"))) (aNil)))) (xNotV (xN dIsi (aCons (xV 0) (aCons (S.val (.opq (.ty "bool"))) (aNil))))))
def m_is_whole : Fn := xDef 1 1 b_is_whole
def b_is_within : SS := xRet (xAndV (xCall m_is_whole (aCons (xV 0) (aNil))) (xChain dLe dLe (xV 1) (xV 0) (xV 2)))
def m_is_within : Fn := xDef 3 3 b_is_within
def q1_is_heap_in : S (List D) := xLc (iV (xV 0)) (gN 1) (S.val true) (xCall m_is_within (aCons (xV 1) (aCons (S.val (.int (1))) (aCons (S.val (.int (60))) (aNil))))) [1]
def q2_is_heap_in : S (List D) := xLc (iZp (aCons (xV 0) (aCons (xSl (xV 0) (oE (S.val (.int (1)))) (oNo)) (aNil)))) (gT (gsC (gN 2) (gsC (gN 3) (gsN)))) (S.val true) (x2 dGe (xV 2) (xV 3)) [2, 3]
def b_is_heap_in : SS := xSeq (xIfS (xOr (xNot (xB (xN dIsi (aCons (xV 0) (aCons (S.val (.opq (.ty "tuple"))) (aNil)))))) (xB (x2 dGt (xN dLen (aCons (xV 0) (aNil))) (S.val (.int (60)))))) (xRet (S.val (.bl false))) (xNext)) (xSeq (xIfS (xNot (xB (xN dAll (aCons (xF (q1_is_heap_in)) (aNil))))) (xRet (S.val (.bl false))) (xNext)) (xRet (xN dAll (aCons (xF (q2_is_heap_in)) (aNil)))))
def m_is_heap_in : Fn := xDef 1 4 b_is_heap_in
def b_require_heap : SS := xIfS (xNot (xB (xCall m_is_heap_in (aCons (xV 0) (aNil))))) (xStop) (xNext)
def m_require_heap : Fn := xDef 1 1 b_require_heap
def b_require_two_heaps : SS := xSeq (xExp (xCall m_require_heap (aCons (xV 0) (aNil)))) (xExp (xCall m_require_heap (aCons (xV 1) (aNil))))
def m_require_two_heaps : Fn := xDef 2 2 b_require_two_heaps
def b_is_held : SS := xSeq (xExp (xCall m_require_two_heaps (aCons (xV 0) (aCons (xV 1) (aNil))))) (xRet (xCall m_holds_in (aCons (xV 0) (aCons (xV 1) (aNil)))))
def m_is_held : Fn := xDef 2 2 b_is_held
def q1_common_in : S (List D) := xLc (iZp (aCons (xV 0) (aCons (xV 1) (aNil)))) (gT (gsC (gN 2) (gsC (gN 3) (gsN)))) (S.val true) (xN dMin2 (aCons (xV 2) (aCons (xV 3) (aNil)))) [2, 3]
def b_common_in : SS := xRet (xN dTuple (aCons (xF (q1_common_in)) (aNil)))
def m_common_in : Fn := xDef 2 4 b_common_in
def b_common_of : SS := xSeq (xExp (xCall m_require_two_heaps (aCons (xV 0) (aCons (xV 1) (aNil))))) (xRet (xCall m_common_in (aCons (xV 0) (aCons (xV 1) (aNil)))))
def m_common_of : Fn := xDef 2 2 b_common_of
def b_is_ring_in : SS := xSeq (xIfS (xOr (xNot (xB (xN dIsi (aCons (xV 0) (aCons (S.val (.opq (.ty "tuple"))) (aNil)))))) (xOr (xB (x2 dNe (xN dLen (aCons (xV 0) (aNil))) (S.val (.int (2))))) (xNot (xB (xCall m_is_within (aCons (x2 dIx (xV 0) (S.val (.int (0)))) (aCons (S.val (.int (2))) (aCons (S.val (.int (60))) (aNil))))))))) (xRet (S.val (.bl false))) (xNext)) (xRet (xCall m_is_within (aCons (x2 dIx (xV 0) (S.val (.int (1)))) (aCons (S.val (.int (1))) (aCons (x2 dSub (x2 dIx (xV 0) (S.val (.int (0)))) (S.val (.int (1)))) (aNil))))))
def m_is_ring_in : Fn := xDef 1 1 b_is_ring_in
def q1_addable_columns : S (List D) := xLc (iR3 (aCons (xN dLen (aCons (xV 0) (aNil))) (aCons (x1 dNeg (S.val (.int (1)))) (aCons (x1 dNeg (S.val (.int (1)))) (aNil))))) (gN 2) (xOr (xB (x2 dEq (xV 2) (S.val (.int (0))))) (xB (x2 dGt (x2 dIx (xV 1) (x2 dSub (xV 2) (S.val (.int (1))))) (x2 dIx (xV 1) (xV 2))))) (xV 2) [2]
def b_addable_columns : SS := xSeq (xAsg (xTup (aStar (xV 0) (aCons (S.val (.int (0))) (aNil)))) (gN 1)) (xRet (xF (q1_addable_columns)))
def m_addable_columns : Fn := xDef 1 3 b_addable_columns
def q1_risen : S (List D) := xLc (iEn (aCons (xTup (aStar (xV 0) (aCons (S.val (.int (0))) (aNil)))) (aNil))) (gT (gsC (gN 3) (gsC (gN 4) (gsN)))) (S.val true) (x2 dAdd (xV 4) (xN dInt (aCons (x2 dInA (xV 3) (xV 1)) (aNil)))) [3, 4]
def q2_risen : S (List D) := xLc (iV (xV 2)) (gN 4) (xB (x2 dGt (xV 4) (S.val (.int (0))))) (xV 4) [4]
def b_risen : SS := xSeq (xAsg (xF (q1_risen)) (gN 2)) (xRet (xN dTuple (aCons (xF (q2_risen)) (aNil))))
def m_risen : Fn := xDef 2 5 b_risen
def q1_grown_in : S (List D) := xLc (iV (xCall m_addable_columns (aCons (xV 0) (aNil)))) (gN 7) (S.val true) (xTup (aCons (xV 7) (aCons (x2 dSub (xV 7) (x2 dIx (xV 3) (xV 7))) (aNil)))) [7]
def q2_grown_in : S (List D) := xLc (iV (xV 4)) (gT (gsC (gN 7) (gsC (gN 8) (gsN)))) (xB (x2 dEq (x2 dMod (x2 dSub (x2 dMulA (xV 8) (xV 6)) (xV 2)) (xV 5)) (S.val (.int (0))))) (xV 7) [7, 8]
def b_grown_in : SS := xSeq (xAsg (xV 1) (gT (gsC (gN 5) (gsC (gN 6) (gsN))))) (xSeq (xAsg (xTup (aStar (xV 0) (aCons (S.val (.int (0))) (aNil)))) (gN 3)) (xSeq (xAsg (xF (q1_grown_in)) (gN 4)) (xRet (xCall m_risen (aCons (xV 0) (aCons (xF (q2_grown_in)) (aNil)))))))
def m_grown_in : Fn := xDef 3 9 b_grown_in
def b_require_small_sides : SS := xSeq (xIfS (xOr (xB (x2 dGt (xN dLen (aCons (xV 0) (aNil))) (S.val (.int (60))))) (xB (x2 dGt (xNK dMaxDf (aCons (xV 0) (aNil)) (aCons (S.val (.int (0))) aNil)) (S.val (.int (60)))))) (xStop) (xNext)) (xRet (xV 0))
def m_require_small_sides : Fn := xDef 1 1 b_require_small_sides
def b_grown : SS := xSeq (xExp (xCall m_require_heap (aCons (xV 0) (aNil)))) (xSeq (xIfS (xNot (xB (xCall m_is_ring_in (aCons (xV 1) (aNil))))) (xStop) (xNext)) (xSeq (xIfS (xNot (xB (xCall m_is_within (aCons (xV 2) (aCons (S.val (.int (0))) (aCons (x2 dSub (x2 dIx (xV 1) (S.val (.int (0)))) (S.val (.int (1)))) (aNil))))))) (xStop) (xNext)) (xRet (xCall m_require_small_sides (aCons (xCall m_grown_in (aCons (xV 0) (aCons (xV 1) (aCons (xV 2) (aNil))))) (aNil))))))
def m_grown : Fn := xDef 3 3 b_grown
def q1_is_chain_in : S (List D) := xLc (iV (xV 0)) (gN 1) (S.val true) (xCall m_is_ring_in (aCons (xV 1) (aNil))) [1]
def b_is_chain_in : SS := xRet (xAndV (xN dIsi (aCons (xV 0) (aCons (S.val (.opq (.ty "tuple"))) (aNil)))) (xAndV (xChain dLe dLe (S.val (.int (1))) (xN dLen (aCons (xV 0) (aNil))) (S.val (.int (12)))) (xN dAll (aCons (xF (q1_is_chain_in)) (aNil)))))
def m_is_chain_in : Fn := xDef 1 2 b_is_chain_in
def b_require_chain : SS := xIfS (xNot (xB (xCall m_is_chain_in (aCons (xV 0) (aNil))))) (xStop) (xNext)
def m_require_chain : Fn := xDef 1 1 b_require_chain
def q1_is_tuple_in : S (List D) := xLc (iZp (aCons (xV 0) (aCons (xV 1) (aNil)))) (gT (gsC (gN 2) (gsC (gN 3) (gsN)))) (S.val true) (xCall m_is_within (aCons (xV 3) (aCons (S.val (.int (0))) (aCons (x2 dSub (x2 dIx (xV 2) (S.val (.int (0)))) (S.val (.int (1)))) (aNil))))) [2, 3]
def b_is_tuple_in : SS := xSeq (xIfS (xOr (xNot (xB (xN dIsi (aCons (xV 1) (aCons (S.val (.opq (.ty "tuple"))) (aNil)))))) (xB (x2 dNe (xN dLen (aCons (xV 1) (aNil))) (xN dLen (aCons (xV 0) (aNil)))))) (xRet (S.val (.bl false))) (xNext)) (xRet (xN dAll (aCons (xF (q1_is_tuple_in)) (aNil))))
def m_is_tuple_in : Fn := xDef 2 4 b_is_tuple_in
def b_require_tuple : SS := xIfS (xNot (xB (xCall m_is_tuple_in (aCons (xV 0) (aCons (xV 1) (aNil)))))) (xStop) (xNext)
def m_require_tuple : Fn := xDef 2 2 b_require_tuple
def q1_heaps_in : SS := xExp (xM mAppend (xV 2) (aCons (xCall m_grown_in (aCons (x2 dIx (xV 2) (x1 dNeg (S.val (.int (1))))) (aCons (xV 3) (aCons (xV 4) (aNil))))) (aNil)))
def q2_heaps_in : SS := xFor (iZp (aCons (xV 0) (aCons (xV 1) (aNil)))) (gT (gsC (gN 3) (gsC (gN 4) (gsN)))) (q1_heaps_in)
def b_heaps_in : SS := xSeq (xAsg (xC (S.bind (aCons (xTup (aNil)) (aNil)) fun ds => S.opt (few id ds))) (gN 2)) (xSeq (q2_heaps_in) (xRet (xN dTuple (aCons (xV 2) (aNil)))))
def m_heaps_in : Fn := xDef 2 5 b_heaps_in
def b_heap_in : SS := xRet (x2 dIx (xCall m_heaps_in (aCons (xV 0) (aCons (xV 1) (aNil)))) (x1 dNeg (S.val (.int (1)))))
def m_heap_in : Fn := xDef 2 2 b_heap_in
def b_heap_of : SS := xSeq (xExp (xCall m_require_chain (aCons (xV 0) (aNil)))) (xSeq (xExp (xCall m_require_tuple (aCons (xV 0) (aCons (xV 1) (aNil))))) (xRet (xCall m_heap_in (aCons (xV 0) (aCons (xV 1) (aNil))))))
def m_heap_of : Fn := xDef 2 2 b_heap_of
def q1__law_grown : SS := xSeq (xAsg (xIf (xB (x2 dLt (xV 4) (xN dLen (aCons (xV 0) (aNil))))) (x2 dIx (xV 0) (xV 4)) (S.val (.int (0)))) (gN 7)) (xSeq (xAsg (xOrV (x2 dEq (xV 4) (S.val (.int (0)))) (x2 dGt (x2 dIx (xV 0) (x2 dSub (xV 4) (S.val (.int (1))))) (xV 7))) (gN 8)) (xIfS (xAnd (xB (xV 8)) (xB (x2 dEq (x2 dMod (x2 dSub (x2 dMulA (x2 dSub (xV 4) (xV 7)) (xV 6)) (xV 2)) (xV 5)) (S.val (.int (0)))))) (xIfS (xB (x2 dLt (xV 4) (xN dLen (aCons (xV 0) (aNil))))) (xSetI (xV 3) (xV 4) (x2 dAdd (xV 7) (S.val (.int (1))))) (xExp (xM mAppend (xV 3) (aCons (S.val (.int (1))) (aNil))))) (xNext)))
def q2__law_grown : SS := xFor (iR1 (aCons (x2 dAdd (xN dLen (aCons (xV 0) (aNil))) (S.val (.int (1)))) (aNil))) (gN 4) (q1__law_grown)
def b__law_grown : SS := xSeq (xAsg (xV 1) (gT (gsC (gN 5) (gsC (gN 6) (gsN))))) (xSeq (xAsg (xC (xLs (aCons (xV 0) (aNil)))) (gN 3)) (xSeq (q2__law_grown) (xRet (xN dTuple (aCons (xV 3) (aNil))))))
def m__law_grown : Fn := xDef 3 9 b__law_grown
def q1__law_heap : SS := xAsg (xCall m__law_grown (aCons (xV 2) (aCons (xV 3) (aCons (xV 4) (aNil))))) (gN 2)
def q2__law_heap : SS := xFor (iZp (aCons (xV 0) (aCons (xV 1) (aNil)))) (gT (gsC (gN 3) (gsC (gN 4) (gsN)))) (q1__law_heap)
def b__law_heap : SS := xSeq (xAsg (xTup (aNil)) (gN 2)) (xSeq (q2__law_heap) (xRet (xV 2)))
def m__law_heap : Fn := xDef 2 5 b__law_heap
def q1__law_some_added : SS := xSeq (xAsg (xIf (xB (x2 dLt (xV 5) (xN dLen (aCons (xV 1) (aNil))))) (x2 dIx (xV 1) (xV 5)) (S.val (.int (0)))) (gN 8)) (xSeq (xAsg (xOrV (x2 dEq (xV 5) (S.val (.int (0)))) (x2 dGt (x2 dIx (xV 1) (x2 dSub (xV 5) (S.val (.int (1))))) (xV 8))) (gN 9)) (xIfS (xAnd (xB (xV 9)) (xAnd (xB (x2 dEq (x2 dMod (x2 dSub (x2 dMulA (x2 dSub (xV 5) (xV 8)) (xV 7)) (xV 3)) (xV 6)) (S.val (.int (0))))) (xB (x2 dGt (xCall m__law_roll (aCons (xV 0) (aCons (S.val (.int (3))) (aNil)))) (S.val (.int (0))))))) (xIfS (xB (x2 dLt (xV 5) (xN dLen (aCons (xV 1) (aNil))))) (xSetI (xV 4) (xV 5) (x2 dAdd (xV 8) (S.val (.int (1))))) (xExp (xM mAppend (xV 4) (aCons (S.val (.int (1))) (aNil))))) (xNext)))
def q2__law_some_added : SS := xFor (iR1 (aCons (x2 dAdd (xN dLen (aCons (xV 1) (aNil))) (S.val (.int (1)))) (aNil))) (gN 5) (q1__law_some_added)
def b__law_some_added : SS := xSeq (xAsg (xV 2) (gT (gsC (gN 6) (gsC (gN 7) (gsN))))) (xSeq (xAsg (xC (xLs (aCons (xV 1) (aNil)))) (gN 4)) (xSeq (q2__law_some_added) (xRet (xN dTuple (aCons (xV 4) (aNil))))))
def m__law_some_added : Fn := xDef 4 10 b__law_some_added
def q1__law_held : S (List D) := xLc (iZp (aCons (xV 0) (aCons (xV 1) (aNil)))) (gT (gsC (gN 2) (gsC (gN 3) (gsN)))) (xB (x2 dLt (xV 2) (xV 3))) (S.val (.int (1))) [2, 3]
def b__law_held : SS := xRet (xAndV (x2 dLe (xN dLen (aCons (xV 1) (aNil))) (xN dLen (aCons (xV 0) (aNil)))) (x2 dEq (xF (q1__law_held)) (xF (S.bind (aNil) fun ds => S.opt (few id ds)))))
def m__law_held : Fn := xDef 2 4 b__law_held
def q1__law_meet_of : S (List D) := xLc (iZp (aCons (xV 0) (aCons (xV 1) (aNil)))) (gT (gsC (gN 2) (gsC (gN 3) (gsN)))) (S.val true) (xN dMin2 (aCons (xV 2) (aCons (xV 3) (aNil)))) [2, 3]
def b__law_meet_of : SS := xRet (xN dTuple (aCons (xF (q1__law_meet_of)) (aNil)))
def m__law_meet_of : Fn := xDef 2 4 b__law_meet_of
def q1__law_growth_right : SS := xSeq (xPar 4 10 (aCons (xCall m__law_some_added (aCons (xV 0) (aCons (xV 4) (aCons (xV 7) (aCons (xV 8) (aNil)))))) (aCons (xCall m__law_roll (aCons (xV 0) (aCons (x2 dIx (xV 7) (S.val (.int (0)))) (aNil)))) (aNil)))) (xSeq (xPar 5 6 (aCons (xCall m__law_grown (aCons (xV 5) (aCons (xV 7) (aCons (xV 10) (aNil))))) (aCons (xCall m__law_some_added (aCons (xV 0) (aCons (xV 6) (aCons (xV 7) (aCons (xV 8) (aNil)))))) (aNil)))) (xSeq (xAsg (xCall m_grown (aCons (xCall m_common_of (aCons (xV 5) (aCons (xV 6) (aNil)))) (aCons (xV 7) (aCons (xV 8) (aNil))))) (gN 9)) (xSeq (xIfS (xB (x2 dNe (xV 9) (xCall m_common_of (aCons (xCall m_grown (aCons (xV 5) (aCons (xV 7) (aCons (xV 8) (aNil))))) (aCons (xCall m_grown (aCons (xV 6) (aCons (xV 7) (aCons (xV 8) (aNil))))) (aNil)))))) (xRet (S.val (.bl false))) (xNext)) (xIfS (xB (x2 dNe (xV 9) (xCall m__law_meet_of (aCons (xCall m__law_grown (aCons (xV 5) (aCons (xV 7) (aCons (xV 8) (aNil))))) (aCons (xCall m__law_grown (aCons (xV 6) (aCons (xV 7) (aCons (xV 8) (aNil))))) (aNil)))))) (xRet (S.val (.bl false))) (xNext)))))
def q2__law_growth_right : SS := xFor (iZp (aCons (xV 1) (aCons (xV 2) (aNil)))) (gT (gsC (gN 7) (gsC (gN 8) (gsN)))) (q1__law_growth_right)
def b__law_growth_right : SS := xSeq (xAsg (xTup (aCons (xTup (aNil)) (aCons (xTup (aNil)) (aCons (xTup (aNil)) (aNil))))) (gT (gsC (gN 4) (gsC (gN 5) (gsC (gN 6) (gsN)))))) (xSeq (q2__law_growth_right) (xSeq (xAsg (xCall m_heap_of (aCons (xV 1) (aCons (xV 2) (aNil)))) (gN 3)) (xRet (xAndV (xCall m_is_held (aCons (xV 3) (aCons (xV 4) (aNil)))) (xAndV (xCall m_is_held (aCons (xV 3) (aCons (xV 6) (aNil)))) (xAndV (xCall m__law_held (aCons (xV 3) (aCons (xV 4) (aNil)))) (x2 dEq (xV 3) (xCall m__law_heap (aCons (xV 1) (aCons (xV 2) (aNil)))))))))))
def m__law_growth_right : Fn := xDef 3 11 b__law_growth_right
def b_is_integer : SS := xRet (xAndV (xCall m_is_whole (aCons (xV 0) (aNil))) (x2 dLt (xN dAbs (aCons (xV 0) (aNil))) (S.val (.int (1000000000000000000000000000000000000000000000000000000000000)))))
def m_is_integer : Fn := xDef 1 1 b_is_integer
def b_require_integer : SS := xIfS (xNot (xB (xCall m_is_integer (aCons (xV 0) (aNil))))) (xStop) (xNext)
def m_require_integer : Fn := xDef 1 1 b_require_integer
def q1_moved_ends_in : S (List D) := xLc (iZp (aCons (xV 0) (aCons (xV 2) (aNil)))) (gT (gsC (gT (gsC (gN 7) (gsC (gN 8) (gsN)))) (gsC (gN 6) (gsN)))) (S.val true) (x2 dMod (x2 dAdd (xV 6) (x2 dMulA (xV 3) (xV 8))) (xV 7)) [6, 7, 8]
def b_moved_ends_in : SS := xSeq (xAsg (xF (q1_moved_ends_in)) (gN 5)) (xRet (xTup (aCons (x2 dAdd (x2 dAdd (xV 1) (xV 3)) (xV 4)) (aCons (xN dTuple (aCons (xV 5) (aNil))) (aNil)))))
def m_moved_ends_in : Fn := xDef 5 9 b_moved_ends_in
def b_require_short_class : SS := xSeq (xIfS (xNot (xB (xCall m_is_integer (aCons (x2 dIx (xV 0) (S.val (.int (0)))) (aNil))))) (xStop) (xNext)) (xRet (xV 0))
def m_require_short_class : Fn := xDef 1 1 b_require_short_class
def b_is_class_in : SS := xRet (xAndV (xN dIsi (aCons (xV 1) (aCons (S.val (.opq (.ty "tuple"))) (aNil)))) (xAndV (x2 dEq (xN dLen (aCons (xV 1) (aNil))) (S.val (.int (2)))) (xAndV (xCall m_is_integer (aCons (x2 dIx (xV 1) (S.val (.int (0)))) (aNil))) (xCall m_is_tuple_in (aCons (xV 0) (aCons (x2 dIx (xV 1) (S.val (.int (1)))) (aNil)))))))
def m_is_class_in : Fn := xDef 2 2 b_is_class_in
def b_require_class : SS := xIfS (xNot (xB (xCall m_is_class_in (aCons (xV 0) (aCons (xV 1) (aNil)))))) (xStop) (xNext)
def m_require_class : Fn := xDef 2 2 b_require_class
def b_class_with_ends : SS := xSeq (xExp (xCall m_require_chain (aCons (xV 0) (aNil)))) (xSeq (xExp (xCall m_require_class (aCons (xV 0) (aCons (xV 1) (aNil))))) (xSeq (xExp (xCall m_require_integer (aCons (xV 2) (aNil)))) (xSeq (xExp (xCall m_require_integer (aCons (xV 3) (aNil)))) (xRet (xCall m_require_short_class (aCons (xCall m_moved_ends_in (aCons (xV 0) (aCons (x2 dIx (xV 1) (S.val (.int (0)))) (aCons (x2 dIx (xV 1) (S.val (.int (1)))) (aCons (xV 2) (aCons (xV 3) (aNil))))))) (aNil)))))))
def m_class_with_ends : Fn := xDef 4 4 b_class_with_ends
def q1__law_moved_right : S (List D) := xLc (iZp (aCons (xV 1) (aCons (xV 2) (aNil)))) (gT (gsC (gT (gsC (gN 15) (gsC (gN 16) (gsN)))) (gsC (gN 9) (gsN)))) (S.val true) (x2 dMod (x2 dAdd (xV 9) (x2 dMulA (xV 3) (xV 16))) (xV 15)) [9, 15, 16]
def q2__law_moved_right : S (List D) := xLc (iR2 (aCons (x1 dNeg (S.val (.int (3)))) (aCons (S.val (.int (4))) (aNil)))) (gN 17) (xB (x2 dEq (x2 dMod (x2 dSub (x2 dMulA (xV 17) (xV 16)) (xV 9)) (xV 15)) (S.val (.int (0))))) (xV 17) [17]
def q3__law_moved_right : S (List D) := xLc (iR2 (aCons (x2 dSub (xV 3) (S.val (.int (3)))) (aCons (x2 dAdd (xV 3) (S.val (.int (4)))) (aNil)))) (gN 17) (xB (x2 dEq (x2 dMod (x2 dSub (x2 dMulA (xV 17) (xV 16)) (xV 10)) (xV 15)) (S.val (.int (0))))) (x2 dSub (xV 17) (xV 3)) [17]
def q4__law_moved_right : SS := xSeq (xAsg (xF (q2__law_moved_right)) (gN 11)) (xIfS (xB (x2 dNe (xV 11) (xF (q3__law_moved_right)))) (xRet (S.val (.bl false))) (xNext))
def q5__law_moved_right : SS := xFor (iZ3 (aCons (xV 1) (aCons (xV 2) (aCons (xV 8) (aNil))))) (gT (gsC (gT (gsC (gN 15) (gsC (gN 16) (gsN)))) (gsC (gN 9) (gsC (gN 10) (gsN))))) (q4__law_moved_right)
def q6__law_moved_right : SS := xAsg (xCall m__law_grown (aCons (xV 12) (aCons (xV 14) (aCons (xV 9) (aNil))))) (gN 12)
def q7__law_moved_right : SS := xFor (iZp (aCons (xSl (xV 1) (oNo) (oE (xV 13))) (aCons (xV 2) (aNil)))) (gT (gsC (gN 14) (gsC (gN 9) (gsN)))) (q6__law_moved_right)
def q8__law_moved_right : S (List D) := xLc (iR1 (aCons (x2 dIx (x2 dIx (xV 1) (xV 13)) (S.val (.int (0)))) (aNil))) (gN 9) (xB (x2 dEq (xCall m_grown (aCons (xV 12) (aCons (x2 dIx (xV 1) (xV 13)) (aCons (xV 9) (aNil))))) (xV 12))) (xV 9) [9]
def b__law_moved_right : SS := xSeq (xAsg (x2 dSub (xCall m__law_roll (aCons (xV 0) (aCons (S.val (.int (9))) (aNil)))) (S.val (.int (4)))) (gN 3)) (xSeq (xAsg (xCall m_class_with_ends (aCons (xV 1) (aCons (xTup (aCons (S.val (.int (3))) (aCons (xV 2) (aNil)))) (aCons (xV 3) (aCons (S.val (.int (2))) (aNil)))))) (gT (gsC (gN 7) (gsC (gN 8) (gsN))))) (xSeq (xIfS (xOr (xB (x2 dNe (xV 7) (x2 dAdd (S.val (.int (5))) (xV 3)))) (xB (x2 dNe (xV 8) (xN dTuple (aCons (xF (q1__law_moved_right)) (aNil)))))) (xRet (S.val (.bl false))) (xNext)) (xSeq (q5__law_moved_right) (xSeq (xAsg (xTup (aCons (xTup (aNil)) (aCons (xCall m__law_roll (aCons (xV 0) (aCons (xN dLen (aCons (xV 1) (aNil))) (aNil)))) (aNil)))) (gT (gsC (gN 12) (gsC (gN 13) (gsN))))) (xSeq (q7__law_moved_right) (xSeq (xAsg (xF (q8__law_moved_right)) (gN 4)) (xSeq (xIfS (xB (x2 dEq (xV 4) (xF (S.bind (aNil) fun ds => S.opt (few id ds))))) (xRet (S.val (.bl true))) (xNext)) (xSeq (xAsg (x2 dAdd (x2 dAdd (xSl (xV 2) (oNo) (oE (xV 13))) (xTup (aCons (xCall m__law_one_of (aCons (xV 0) (aCons (xV 4) (aNil)))) (aNil)))) (xSl (xV 2) (oE (x2 dAdd (xV 13) (S.val (.int (1))))) (oNo))) (gN 5)) (xSeq (xAsg (x2 dAdd (x2 dAdd (xSl (xV 5) (oNo) (oE (xV 13))) (xTup (aCons (xCall m__law_one_of (aCons (xV 0) (aCons (xV 4) (aNil)))) (aNil)))) (xSl (xV 2) (oE (x2 dAdd (xV 13) (S.val (.int (1))))) (oNo))) (gN 6)) (xRet (xAndV (x2 dEq (xCall m_heap_of (aCons (xV 1) (aCons (xV 5) (aNil)))) (xCall m_heap_of (aCons (xV 1) (aCons (xV 6) (aNil))))) (xCall m_is_held (aCons (xCall m_heap_of (aCons (xV 1) (aCons (xV 2) (aNil)))) (aCons (xCall m_heap_of (aCons (xV 1) (aCons (xV 5) (aNil)))) (aNil)))))))))))))))
def m__law_moved_right : Fn := xDef 3 18 b__law_moved_right
def q1_flipped_in : S (List D) := xLc (iV (xV 0)) (gN 2) (xB (x2 dGt (xV 2) (xV 1))) (xV 2) [2]
def q2_flipped_in : S (List D) := xLc (iR1 (aCons (xNK dMaxDf (aCons (xV 0) (aNil)) (aCons (S.val (.int (0))) aNil)) (aNil))) (gN 1) (S.val true) (xN dLen (aCons (xF (q1_flipped_in)) (aNil))) [1]
def b_flipped_in : SS := xRet (xN dTuple (aCons (xF (q2_flipped_in)) (aNil)))
def m_flipped_in : Fn := xDef 1 3 b_flipped_in
def b_turned_over : SS := xSeq (xExp (xCall m_require_heap (aCons (xV 0) (aNil)))) (xRet (xCall m_flipped_in (aCons (xV 0) (aNil))))
def m_turned_over : Fn := xDef 1 1 b_turned_over
def q1__law_turned_right : S (List D) := xLc (iZp (aCons (xV 0) (aCons (xV 1) (aNil)))) (gT (gsC (gT (gsC (gN 4) (gsC (gN 5) (gsN)))) (gsC (gN 3) (gsN)))) (S.val true) (x2 dMod (x2 dSub (S.val (.int (0))) (xV 3)) (xV 4)) [3, 4, 5]
def b__law_turned_right : SS := xSeq (xAsg (xN dTuple (aCons (xF (q1__law_turned_right)) (aNil))) (gN 2)) (xRet (x2 dEq (xCall m_heap_of (aCons (xV 0) (aCons (xV 2) (aNil)))) (xCall m_turned_over (aCons (xCall m_heap_of (aCons (xV 0) (aCons (xV 1) (aNil)))) (aNil)))))
def m__law_turned_right : Fn := xDef 2 6 b__law_turned_right
def q1_law : SS := xSeq (xAsg (xCall m__law_dice (aCons (xV 0) (aCons (xV 1) (aNil)))) (gN 2)) (xSeq (xAsg (xCall m__law_chain (aCons (xV 2) (aCons (x2 dAdd (S.val (.int (1))) (xCall m__law_roll (aCons (xV 2) (aCons (S.val (.int (8))) (aNil))))) (aCons (S.val (.int (5))) (aNil))))) (gN 3)) (xSeq (xAsg (xCall m__law_tuple (aCons (xV 2) (aCons (xV 3) (aNil)))) (gN 4)) (xSeq (xIfS (xOr (xNot (xB (xCall m__law_growth_right (aCons (xV 2) (aCons (xV 3) (aCons (xV 4) (aNil))))))) (xNot (xB (xCall m__law_moved_right (aCons (xV 2) (aCons (xV 3) (aCons (xV 4) (aNil)))))))) (xRet (S.val (.bl false))) (xNext)) (xIfS (xNot (xB (xCall m__law_turned_right (aCons (xV 3) (aCons (xV 4) (aNil)))))) (xRet (S.val (.bl false))) (xNext)))))
def q2_law : SS := xFor (iR1 (aCons (xN dMax2 (aCons (S.val (.int (1))) (aCons (xN dMin2 (aCons (xN dLen (aCons (xV 0) (aNil))) (aCons (S.val (.int (5))) (aNil)))) (aNil)))) (aNil))) (gN 1) (q1_law)
def b_law : SS := xSeq (q2_law) (xRet (S.val (.bl true)))
def m_law : Fn := xDef 1 5 b_law
/-! ### the texts -/
abbrev st__law_dice : Stmt := topS 47
abbrev N__law_dice : List Str := ["_law_script", "_law_at", "_law_cell", "_law_great", "_law_left", "_law_mixed"]
theorem sc__law_dice : FnScope ["_law_script", "_law_at", "_law_cell", "_law_great", "_law_left", "_law_mixed"] ["_law_script", "_law_at"] (defScope st__law_dice) := ⟨rfl, rfl, rfl, by decide +kernel, rfl, by decide +kernel, by decide +kernel⟩
abbrev st__law_roll : Stmt := topS 48
abbrev N__law_roll : List Str := ["_law_dice_here", "_law_total", "_law_size", "_law_one", "_law_two", "_law_drawn"]
theorem sc__law_roll : FnScope ["_law_dice_here", "_law_total", "_law_size", "_law_one", "_law_two", "_law_drawn"] ["_law_dice_here", "_law_total"] (defScope st__law_roll) := ⟨rfl, rfl, rfl, by decide +kernel, rfl, by decide +kernel, by decide +kernel⟩
abbrev st__law_ring : Stmt := topS 51
abbrev N__law_ring : List Str := ["_law_dice_here", "_law_most", "_law_n"]
theorem sc__law_ring : FnScope ["_law_dice_here", "_law_most", "_law_n"] ["_law_dice_here", "_law_most"] (defScope st__law_ring) := ⟨rfl, rfl, rfl, by decide +kernel, rfl, by decide +kernel, by decide +kernel⟩
abbrev st__law_one_of : Stmt := topS 49
abbrev N__law_one_of : List Str := ["_law_dice_here", "_law_items"]
theorem sc__law_one_of : FnScope ["_law_dice_here", "_law_items"] ["_law_dice_here", "_law_items"] (defScope st__law_one_of) := ⟨rfl, rfl, rfl, by decide +kernel, rfl, by decide +kernel, by decide +kernel⟩
abbrev st__law_common : Stmt := topS 50
abbrev N__law_common : List Str := ["_law_one", "_law_other"]
theorem sc__law_common : FnScope ["_law_one", "_law_other"] ["_law_one", "_law_other"] (defScope st__law_common) := ⟨rfl, rfl, rfl, by decide +kernel, rfl, by decide +kernel, by decide +kernel⟩
abbrev st__law_ring_of : Stmt := topS 52
abbrev N__law_ring_of : List Str := ["_law_dice_here", "_law_k", "_law_times", "_law_more", "_law_steps", "_law_one"]
theorem sc__law_ring_of : FnScope ["_law_dice_here", "_law_k", "_law_times", "_law_more", "_law_steps", "_law_one"] ["_law_dice_here", "_law_k", "_law_times"] (defScope st__law_ring_of) := ⟨rfl, rfl, rfl, by decide +kernel, rfl, by decide +kernel, by decide +kernel⟩
abbrev st__law_chain : Stmt := topS 53
abbrev N__law_chain : List Str := ["_law_dice_here", "_law_rings", "_law_most", "_law_k", "_law_turn"]
theorem sc__law_chain : FnScope ["_law_dice_here", "_law_rings", "_law_most", "_law_k", "_law_turn"] ["_law_dice_here", "_law_rings", "_law_most"] (defScope st__law_chain) := ⟨rfl, rfl, rfl, by decide +kernel, rfl, by decide +kernel, by decide +kernel⟩
abbrev st__law_tuple : Stmt := topS 54
abbrev N__law_tuple : List Str := ["_law_dice_here", "_law_chain_here", "_law_found", "_law_n", "_law_s"]
theorem sc__law_tuple : FnScope ["_law_dice_here", "_law_chain_here", "_law_found", "_law_n", "_law_s"] ["_law_dice_here", "_law_chain_here"] (defScope st__law_tuple) := ⟨rfl, rfl, rfl, by decide +kernel, rfl, by decide +kernel, by decide +kernel⟩
abbrev st_holds_in : Stmt := topS 30
abbrev N_holds_in : List Str := ["heap", "other", "one", "two"]
theorem sc_holds_in : FnScope ["heap", "other", "one", "two"] ["heap", "other"] (defScope st_holds_in) := ⟨rfl, rfl, rfl, by decide +kernel, rfl, by decide +kernel, by decide +kernel⟩
abbrev st_is_whole : Stmt := topS 12
abbrev N_is_whole : List Str := ["value"]
theorem sc_is_whole : FnScope ["value"] ["value"] (defScope st_is_whole) := ⟨rfl, rfl, rfl, by decide +kernel, rfl, by decide +kernel, by decide +kernel⟩
abbrev st_is_within : Stmt := topS 14
abbrev N_is_within : List Str := ["value", "least", "most"]
theorem sc_is_within : FnScope ["value", "least", "most"] ["value", "least", "most"] (defScope st_is_within) := ⟨rfl, rfl, rfl, by decide +kernel, rfl, by decide +kernel, by decide +kernel⟩
abbrev st_is_heap_in : Stmt := topS 29
abbrev N_is_heap_in : List Str := ["value", "height", "one", "other"]
theorem sc_is_heap_in : FnScope ["value", "height", "one", "other"] ["value"] (defScope st_is_heap_in) := ⟨rfl, rfl, rfl, by decide +kernel, rfl, by decide +kernel, by decide +kernel⟩
abbrev st_require_heap : Stmt := topS 38
abbrev N_require_heap : List Str := ["heap"]
theorem sc_require_heap : FnScope ["heap"] ["heap"] (defScope st_require_heap) := ⟨rfl, rfl, rfl, by decide +kernel, rfl, by decide +kernel, by decide +kernel⟩
abbrev st_require_two_heaps : Stmt := topS 39
abbrev N_require_two_heaps : List Str := ["one", "other"]
theorem sc_require_two_heaps : FnScope ["one", "other"] ["one", "other"] (defScope st_require_two_heaps) := ⟨rfl, rfl, rfl, by decide +kernel, rfl, by decide +kernel, by decide +kernel⟩
abbrev st_is_held : Stmt := topS 41
abbrev N_is_held : List Str := ["heap", "other"]
theorem sc_is_held : FnScope ["heap", "other"] ["heap", "other"] (defScope st_is_held) := ⟨rfl, rfl, rfl, by decide +kernel, rfl, by decide +kernel, by decide +kernel⟩
abbrev st_common_in : Stmt := topS 32
abbrev N_common_in : List Str := ["one", "other", "left", "right"]
theorem sc_common_in : FnScope ["one", "other", "left", "right"] ["one", "other"] (defScope st_common_in) := ⟨rfl, rfl, rfl, by decide +kernel, rfl, by decide +kernel, by decide +kernel⟩
abbrev st_common_of : Stmt := topS 43
abbrev N_common_of : List Str := ["one", "other"]
theorem sc_common_of : FnScope ["one", "other"] ["one", "other"] (defScope st_common_of) := ⟨rfl, rfl, rfl, by decide +kernel, rfl, by decide +kernel, by decide +kernel⟩
abbrev st_is_ring_in : Stmt := topS 15
abbrev N_is_ring_in : List Str := ["value"]
theorem sc_is_ring_in : FnScope ["value"] ["value"] (defScope st_is_ring_in) := ⟨rfl, rfl, rfl, by decide +kernel, rfl, by decide +kernel, by decide +kernel⟩
abbrev st_addable_columns : Stmt := topS 33
abbrev N_addable_columns : List Str := ["heap", "heights", "column"]
theorem sc_addable_columns : FnScope ["heap", "heights", "column"] ["heap"] (defScope st_addable_columns) := ⟨rfl, rfl, rfl, by decide +kernel, rfl, by decide +kernel, by decide +kernel⟩
abbrev st_risen : Stmt := topS 34
abbrev N_risen : List Str := ["heap", "columns", "heights", "column", "height"]
theorem sc_risen : FnScope ["heap", "columns", "heights", "column", "height"] ["heap", "columns"] (defScope st_risen) := ⟨rfl, rfl, rfl, by decide +kernel, rfl, by decide +kernel, by decide +kernel⟩
abbrev st_grown_in : Stmt := topS 35
abbrev N_grown_in : List Str := ["heap", "ring", "place", "heights", "diagonals", "size", "step", "column", "diagonal"]
theorem sc_grown_in : FnScope ["heap", "ring", "place", "heights", "diagonals", "size", "step", "column", "diagonal"] ["heap", "ring", "place"] (defScope st_grown_in) := ⟨rfl, rfl, rfl, by decide +kernel, rfl, by decide +kernel, by decide +kernel⟩
abbrev st_require_small_sides : Stmt := topS 40
abbrev N_require_small_sides : List Str := ["heap"]
theorem sc_require_small_sides : FnScope ["heap"] ["heap"] (defScope st_require_small_sides) := ⟨rfl, rfl, rfl, by decide +kernel, rfl, by decide +kernel, by decide +kernel⟩
abbrev st_grown : Stmt := topS 44
abbrev N_grown : List Str := ["heap", "ring", "place"]
theorem sc_grown : FnScope ["heap", "ring", "place"] ["heap", "ring", "place"] (defScope st_grown) := ⟨rfl, rfl, rfl, by decide +kernel, rfl, by decide +kernel, by decide +kernel⟩
abbrev st_is_chain_in : Stmt := topS 16
abbrev N_is_chain_in : List Str := ["value", "ring"]
theorem sc_is_chain_in : FnScope ["value", "ring"] ["value"] (defScope st_is_chain_in) := ⟨rfl, rfl, rfl, by decide +kernel, rfl, by decide +kernel, by decide +kernel⟩
abbrev st_require_chain : Stmt := topS 17
abbrev N_require_chain : List Str := ["value"]
theorem sc_require_chain : FnScope ["value"] ["value"] (defScope st_require_chain) := ⟨rfl, rfl, rfl, by decide +kernel, rfl, by decide +kernel, by decide +kernel⟩
abbrev st_is_tuple_in : Stmt := topS 20
abbrev N_is_tuple_in : List Str := ["chain", "value", "ring", "place"]
theorem sc_is_tuple_in : FnScope ["chain", "value", "ring", "place"] ["chain", "value"] (defScope st_is_tuple_in) := ⟨rfl, rfl, rfl, by decide +kernel, rfl, by decide +kernel, by decide +kernel⟩
abbrev st_require_tuple : Stmt := topS 24
abbrev N_require_tuple : List Str := ["chain", "value"]
theorem sc_require_tuple : FnScope ["chain", "value"] ["chain", "value"] (defScope st_require_tuple) := ⟨rfl, rfl, rfl, by decide +kernel, rfl, by decide +kernel, by decide +kernel⟩
abbrev st_heaps_in : Stmt := topS 36
abbrev N_heaps_in : List Str := ["chain", "places", "found", "ring", "place"]
theorem sc_heaps_in : FnScope ["chain", "places", "found", "ring", "place"] ["chain", "places"] (defScope st_heaps_in) := ⟨rfl, rfl, rfl, by decide +kernel, rfl, by decide +kernel, by decide +kernel⟩
abbrev st_heap_in : Stmt := topS 37
abbrev N_heap_in : List Str := ["chain", "places"]
theorem sc_heap_in : FnScope ["chain", "places"] ["chain", "places"] (defScope st_heap_in) := ⟨rfl, rfl, rfl, by decide +kernel, rfl, by decide +kernel, by decide +kernel⟩
abbrev st_heap_of : Stmt := topS 45
abbrev N_heap_of : List Str := ["chain", "places"]
theorem sc_heap_of : FnScope ["chain", "places"] ["chain", "places"] (defScope st_heap_of) := ⟨rfl, rfl, rfl, by decide +kernel, rfl, by decide +kernel, by decide +kernel⟩
abbrev st__law_grown : Stmt := topS 55
abbrev N__law_grown : List Str := ["_law_heap_here", "_law_ring_here", "_law_x", "_law_found", "_law_column", "_law_n", "_law_s", "_law_height", "_law_can_rise"]
theorem sc__law_grown : FnScope ["_law_heap_here", "_law_ring_here", "_law_x", "_law_found", "_law_column", "_law_n", "_law_s", "_law_height", "_law_can_rise"] ["_law_heap_here", "_law_ring_here", "_law_x"] (defScope st__law_grown) := ⟨rfl, rfl, rfl, by decide +kernel, rfl, by decide +kernel, by decide +kernel⟩
abbrev st__law_heap : Stmt := topS 56
abbrev N__law_heap : List Str := ["_law_chain_here", "_law_x", "_law_heap_here", "_law_ring_here", "_law_place"]
theorem sc__law_heap : FnScope ["_law_chain_here", "_law_x", "_law_heap_here", "_law_ring_here", "_law_place"] ["_law_chain_here", "_law_x"] (defScope st__law_heap) := ⟨rfl, rfl, rfl, by decide +kernel, rfl, by decide +kernel, by decide +kernel⟩
abbrev st__law_some_added : Stmt := topS 57
abbrev N__law_some_added : List Str := ["_law_dice_here", "_law_heap_here", "_law_ring_here", "_law_place", "_law_found", "_law_column", "_law_n", "_law_s", "_law_height", "_law_can_rise"]
theorem sc__law_some_added : FnScope ["_law_dice_here", "_law_heap_here", "_law_ring_here", "_law_place", "_law_found", "_law_column", "_law_n", "_law_s", "_law_height", "_law_can_rise"] ["_law_dice_here", "_law_heap_here", "_law_ring_here", "_law_place"] (defScope st__law_some_added) := ⟨rfl, rfl, rfl, by decide +kernel, rfl, by decide +kernel, by decide +kernel⟩
abbrev st__law_held : Stmt := topS 58
abbrev N__law_held : List Str := ["_law_one", "_law_other", "_law_left", "_law_right"]
theorem sc__law_held : FnScope ["_law_one", "_law_other", "_law_left", "_law_right"] ["_law_one", "_law_other"] (defScope st__law_held) := ⟨rfl, rfl, rfl, by decide +kernel, rfl, by decide +kernel, by decide +kernel⟩
abbrev st__law_meet_of : Stmt := topS 59
abbrev N__law_meet_of : List Str := ["_law_one", "_law_other", "_law_left", "_law_right"]
theorem sc__law_meet_of : FnScope ["_law_one", "_law_other", "_law_left", "_law_right"] ["_law_one", "_law_other"] (defScope st__law_meet_of) := ⟨rfl, rfl, rfl, by decide +kernel, rfl, by decide +kernel, by decide +kernel⟩
abbrev st__law_growth_right : Stmt := topS 60
abbrev N__law_growth_right : List Str := ["_law_dice_here", "_law_chain_here", "_law_x", "_law_heap_here", "_law_few", "_law_one", "_law_other", "_law_ring_here", "_law_place", "_law_both", "_law_two"]
theorem sc__law_growth_right : FnScope ["_law_dice_here", "_law_chain_here", "_law_x", "_law_heap_here", "_law_few", "_law_one", "_law_other", "_law_ring_here", "_law_place", "_law_both", "_law_two"] ["_law_dice_here", "_law_chain_here", "_law_x"] (defScope st__law_growth_right) := ⟨rfl, rfl, rfl, by decide +kernel, rfl, by decide +kernel, by decide +kernel⟩
abbrev st_is_integer : Stmt := topS 13
abbrev N_is_integer : List Str := ["value"]
theorem sc_is_integer : FnScope ["value"] ["value"] (defScope st_is_integer) := ⟨rfl, rfl, rfl, by decide +kernel, rfl, by decide +kernel, by decide +kernel⟩
abbrev st_require_integer : Stmt := topS 18
abbrev N_require_integer : List Str := ["value"]
theorem sc_require_integer : FnScope ["value"] ["value"] (defScope st_require_integer) := ⟨rfl, rfl, rfl, by decide +kernel, rfl, by decide +kernel, by decide +kernel⟩
abbrev st_moved_ends_in : Stmt := topS 21
abbrev N_moved_ends_in : List Str := ["chain", "degree", "places", "a", "b", "moved", "place", "size", "door"]
theorem sc_moved_ends_in : FnScope ["chain", "degree", "places", "a", "b", "moved", "place", "size", "door"] ["chain", "degree", "places", "a", "b"] (defScope st_moved_ends_in) := ⟨rfl, rfl, rfl, by decide +kernel, rfl, by decide +kernel, by decide +kernel⟩
abbrev st_require_short_class : Stmt := topS 23
abbrev N_require_short_class : List Str := ["found"]
theorem sc_require_short_class : FnScope ["found"] ["found"] (defScope st_require_short_class) := ⟨rfl, rfl, rfl, by decide +kernel, rfl, by decide +kernel, by decide +kernel⟩
abbrev st_is_class_in : Stmt := topS 22
abbrev N_is_class_in : List Str := ["chain", "value"]
theorem sc_is_class_in : FnScope ["chain", "value"] ["chain", "value"] (defScope st_is_class_in) := ⟨rfl, rfl, rfl, by decide +kernel, rfl, by decide +kernel, by decide +kernel⟩
abbrev st_require_class : Stmt := topS 25
abbrev N_require_class : List Str := ["chain", "value"]
theorem sc_require_class : FnScope ["chain", "value"] ["chain", "value"] (defScope st_require_class) := ⟨rfl, rfl, rfl, by decide +kernel, rfl, by decide +kernel, by decide +kernel⟩
abbrev st_class_with_ends : Stmt := topS 26
abbrev N_class_with_ends : List Str := ["chain", "one", "a", "b"]
theorem sc_class_with_ends : FnScope ["chain", "one", "a", "b"] ["chain", "one", "a", "b"] (defScope st_class_with_ends) := ⟨rfl, rfl, rfl, by decide +kernel, rfl, by decide +kernel, by decide +kernel⟩
abbrev st__law_moved_right : Stmt := topS 61
abbrev N__law_moved_right : List Str := ["_law_dice_here", "_law_chain_here", "_law_x", "_law_a", "_law_idle", "_law_left", "_law_other", "_law_total", "_law_moved_tuple", "_law_place", "_law_later", "_law_let", "_law_heap_here", "_law_at", "_law_ring_here", "_law_n", "_law_s", "_law_c"]
theorem sc__law_moved_right : FnScope ["_law_dice_here", "_law_chain_here", "_law_x", "_law_a", "_law_idle", "_law_left", "_law_other", "_law_total", "_law_moved_tuple", "_law_place", "_law_later", "_law_let", "_law_heap_here", "_law_at", "_law_ring_here", "_law_n", "_law_s", "_law_c"] ["_law_dice_here", "_law_chain_here", "_law_x"] (defScope st__law_moved_right) := ⟨rfl, rfl, rfl, by decide +kernel, rfl, by decide +kernel, by decide +kernel⟩
abbrev st_flipped_in : Stmt := topS 31
abbrev N_flipped_in : List Str := ["heap", "row", "height"]
theorem sc_flipped_in : FnScope ["heap", "row", "height"] ["heap"] (defScope st_flipped_in) := ⟨rfl, rfl, rfl, by decide +kernel, rfl, by decide +kernel, by decide +kernel⟩
abbrev st_turned_over : Stmt := topS 42
abbrev N_turned_over : List Str := ["heap"]
theorem sc_turned_over : FnScope ["heap"] ["heap"] (defScope st_turned_over) := ⟨rfl, rfl, rfl, by decide +kernel, rfl, by decide +kernel, by decide +kernel⟩
abbrev st__law_turned_right : Stmt := topS 62
abbrev N__law_turned_right : List Str := ["_law_chain_here", "_law_x", "_law_over", "_law_place", "_law_n", "_law_s"]
theorem sc__law_turned_right : FnScope ["_law_chain_here", "_law_x", "_law_over", "_law_place", "_law_n", "_law_s"] ["_law_chain_here", "_law_x"] (defScope st__law_turned_right) := ⟨rfl, rfl, rfl, by decide +kernel, rfl, by decide +kernel, by decide +kernel⟩
abbrev st_law : Stmt := topS 63
abbrev N_law : List Str := ["_law_script", "_law_at", "_law_dice_here", "_law_chain_here", "_law_x"]
theorem sc_law : FnScope ["_law_script", "_law_at", "_law_dice_here", "_law_chain_here", "_law_x"] ["_law_script"] (defScope st_law) := ⟨rfl, rfl, rfl, by decide +kernel, rfl, by decide +kernel, by decide +kernel⟩
/-! ### what stands at the top -/
structure Tops (P : Program) (K : PySem.W.Frag) (mg : Str → Option Value) : Prop where
  b_abs : mg "abs" = none
  b_all : mg "all" = none
  b_bool : mg "bool" = none
  b_enumerate : mg "enumerate" = none
  b_int : mg "int" = none
  b_isinstance : mg "isinstance" = none
  b_len : mg "len" = none
  b_list : mg "list" = none
  b_max : mg "max" = none
  b_min : mg "min" = none
  b_range : mg "range" = none
  b_tuple : mg "tuple" = none
  b_zip : mg "zip" = none
  c_MOST_PLACES : ∃ t, mg "MOST_PLACES" = some (.int (60) t)
  c_MOST_RINGS : ∃ t, mg "MOST_RINGS" = some (.int (12) t)
  c_MOST_SIDE : ∃ t, mg "MOST_SIDE" = some (.int (60) t)
  c_SIXTY_DIGITS : ∃ t, mg "SIXTY_DIGITS" = some (.int (1000000000000000000000000000000000000000000000000000000000000) t)
section
variable {P : Program} {w : World} {K : PySem.W.Frag} {mg : Str → Option Value} {base : Heap}
theorem k__law_dice {f : Addr} {fd : FuncData} (T : Tops P K mg) (F : L2.Fun K "_law_dice" "_law_dice" st__law_dice f fd) (gF : mg "_law_dice" = some (.ref f)) (hb : Binds K fd ["_law_script", "_law_at"] [])  : Cal P w K mg base "_law_dice" 2 1 m__law_dice :=
  cal_of F gF hb sc__law_dice rfl fun cdv A outer s H E hr => (ss_cons (sc_set (ps_set (i := 2) sc__law_dice.nd rfl (by first | exact Or.inl rfl | exact Or.inr rfl) (se_op or_add op_dAdd (se_op (op_mulW.or (op_repT.or op_rep1)) op_dMulA se_int (se_var (pv 1))) se_int)))
      (ss_cons (sc_if (sb_cmp op_lt op_dLt (se_var (pv 1)) (se_bi op_dLen (pe_callB call_len_seq (by rfl) T.b_len PySem.boot_len (sa_cons (se_var (pv 0)) sa_nil rfl))) (nomark _)) (ss_one (sc_set (ps_set (i := 2) sc__law_dice.nd rfl (by first | exact Or.inl rfl | exact Or.inr rfl) (se_sub ix_any op_dIx (se_var (pv 0)) (se_var (pv 1)) (fun _ _ => rfl))))) ss_nil)
      (ss_cons (sc_set (ps_set (i := 3) sc__law_dice.nd rfl (by first | exact Or.inl rfl | exact Or.inr rfl) (se_op op_mod op_dMod (se_bi op_dInt (pe_callTy call_int1 (by rfl) T.b_int PyProof.Rows.boot_int (sa_cons (se_bi op_dAbs (pe_callB call_abs (by rfl) T.b_abs PyProof.Rows.boot_abs (sa_cons (se_var (pv 2)) sa_nil rfl))) sa_nil rfl))) (se_op op_powW op_dPow (se_op op_powW op_dPow se_int se_int) se_int))))
      (ss_cons (sc_set (ps_set (i := 4) sc__law_dice.nd rfl (by first | exact Or.inl rfl | exact Or.inr rfl) (se_op op_fdivW op_dDiv (se_var (pv 3)) (se_op op_powW op_dPow se_int se_int))))
      (ss_cons (sc_set (ps_set (i := 5) sc__law_dice.nd rfl (by first | exact Or.inl rfl | exact Or.inr rfl) (se_op or_add op_dAdd (se_op or_add op_dAdd (se_op or_add op_dAdd (se_op (op_mulW.or (op_repT.or op_rep1)) op_dMulA (se_op op_mod op_dMod (se_var (pv 3)) se_int) se_int) (se_op (op_mulW.or (op_repT.or op_rep1)) op_dMulA se_int (se_var (pv 1)))) (se_op (op_mulW.or (op_repT.or op_rep1)) op_dMulA se_int (se_bi op_dInt (pe_callTy call_int1 (by rfl) T.b_int PyProof.Rows.boot_int (sa_cons (se_cmp op_lt op_dLt (se_var (pv 2)) se_int (nomark _)) sa_nil rfl))))) se_int)))
      (ss_one (sc_ret (se_C (sl_lst (sa_cons (se_var (pv 4)) (sa_cons (se_op op_mod op_dMod (se_var (pv 5)) se_int) (sa_cons se_int sa_nil rfl) rfl) rfl))))))))))
theorem k__law_roll {f : Addr} {fd : FuncData} (T : Tops P K mg) (F : L2.Fun K "_law_roll" "_law_roll" st__law_roll f fd) (gF : mg "_law_roll" = some (.ref f)) (hb : Binds K fd ["_law_dice_here", "_law_total"] [])  : Cal P w K mg base "_law_roll" 2 1 m__law_roll :=
  cal_of F gF hb sc__law_roll rfl fun cdv A outer s H E hr => (ss_cons (sc_set (ps_set (i := 2) sc__law_roll.nd rfl (by first | exact Or.inl rfl | exact Or.inr rfl) (se_bi op_dInt (pe_callTy call_int1 (by rfl) T.b_int PyProof.Rows.boot_int (sa_cons (se_var (pv 1)) sa_nil rfl)))))
      (ss_cons (sc_if (sb_cmp op_gt op_dGt (se_sub ix_any op_dIx (se_var (pv 0)) se_int (fun _ _ => rfl)) se_int (nomark _)) (ss_cons (sc_set (ps_set (i := 5) sc__law_roll.nd rfl (by first | exact Or.inl rfl | exact Or.inr rfl) (se_op op_mod op_dMod (se_sub ix_any op_dIx (se_var (pv 0)) se_int (fun _ _ => rfl)) (se_var (pv 2)))))
      (ss_cons (sc_seti (ps_asg (se_op op_fdivW op_dDiv (se_sub ix_any op_dIx (se_var (pv 0)) se_int (fun _ _ => rfl)) (se_var (pv 2))) (pg_sub (se_var (pv 0)) se_int set_list)))
      (ss_one (sc_ret (se_bi op_dInt (pe_callTy call_int1 (by rfl) T.b_int PyProof.Rows.boot_int (sa_cons (se_var (pv 5)) sa_nil rfl))))))) ss_nil)
      (ss_cons (sc_seti (ps_asg (se_op or_add op_dAdd (se_sub ix_any op_dIx (se_var (pv 0)) se_int (fun _ _ => rfl)) se_int) (pg_sub (se_var (pv 0)) se_int set_list)))
      (ss_cons (sc_set (ps_set (i := 3) sc__law_roll.nd rfl (by first | exact Or.inl rfl | exact Or.inr rfl) (se_op op_mod op_dMod (se_op or_add op_dAdd (se_sub ix_any op_dIx (se_var (pv 0)) se_int (fun _ _ => rfl)) (se_op (op_mulW.or (op_repT.or op_rep1)) op_dMulA se_int (se_sub ix_any op_dIx (se_var (pv 0)) se_int (fun _ _ => rfl)))) se_int)))
      (ss_cons (sc_set (ps_set (i := 4) sc__law_roll.nd rfl (by first | exact Or.inl rfl | exact Or.inr rfl) (se_op or_add op_dAdd (se_op (op_mulW.or (op_repT.or op_rep1)) op_dMulA (se_op op_mod op_dMod (se_op (op_mulW.or (op_repT.or op_rep1)) op_dMulA (se_var (pv 3)) (se_var (pv 3))) se_int) (se_var (pv 3))) (se_op (op_mulW.or (op_repT.or op_rep1)) op_dMulA se_int (se_sub ix_any op_dIx (se_var (pv 0)) se_int (fun _ _ => rfl))))))
      (ss_cons (sc_set (ps_set (i := 4) sc__law_roll.nd rfl (by first | exact Or.inl rfl | exact Or.inr rfl) (se_op op_mod op_dMod (se_var (pv 4)) se_int)))
      (ss_one (sc_ret (se_bi op_dInt (pe_callTy call_int1 (by rfl) T.b_int PyProof.Rows.boot_int (sa_cons (se_op op_mod op_dMod (se_op op_fdivW op_dDiv (se_var (pv 4)) se_int) (se_var (pv 2))) sa_nil rfl)))))))))))
theorem k__law_ring {f : Addr} {fd : FuncData} (T : Tops P K mg) (F : L2.Fun K "_law_ring" "_law_ring" st__law_ring f fd) (gF : mg "_law_ring" = some (.ref f)) (hb : Binds K fd ["_law_dice_here", "_law_most"] []) (c__law_roll : Cal P w K mg base "_law_roll" 2 1 m__law_roll) : Cal P w K mg base "_law_ring" 2 2 m__law_ring :=
  cal_of F gF hb sc__law_ring rfl fun cdv A outer s H E hr => (ss_cons (sc_set (ps_set (i := 2) sc__law_ring.nd rfl (by first | exact Or.inl rfl | exact Or.inr rfl) (se_op or_add op_dAdd se_int (se_call c__law_roll takes_def (hr.mono (by decide)) (by rfl) (sa_cons (se_var (pv 0)) (sa_cons (se_op op_sub op_dSub (se_var (pv 1)) se_int) sa_nil rfl) rfl) (by decide) rfl rfl))))
      (ss_one (sc_ret (se_tup (sa_cons (se_var (pv 2)) (sa_cons (se_op or_add op_dAdd se_int (se_call c__law_roll takes_def (hr.mono (by decide)) (by rfl) (sa_cons (se_var (pv 0)) (sa_cons (se_op op_sub op_dSub (se_var (pv 2)) se_int) sa_nil rfl) rfl) (by decide) rfl rfl)) sa_nil rfl) rfl)))))
theorem k__law_one_of {f : Addr} {fd : FuncData} (T : Tops P K mg) (F : L2.Fun K "_law_one_of" "_law_one_of" st__law_one_of f fd) (gF : mg "_law_one_of" = some (.ref f)) (hb : Binds K fd ["_law_dice_here", "_law_items"] []) (c__law_roll : Cal P w K mg base "_law_roll" 2 1 m__law_roll) : Cal P w K mg base "_law_one_of" 2 2 m__law_one_of :=
  cal_of F gF hb sc__law_one_of rfl fun cdv A outer s H E hr => (ss_one (sc_ret (se_sub ix_any op_dIx (se_var (pv 1)) (se_call c__law_roll takes_def (hr.mono (by decide)) (by rfl) (sa_cons (se_var (pv 0)) (sa_cons (se_bi op_dLen (pe_callB call_len_seq (by rfl) T.b_len PySem.boot_len (sa_cons (se_var (pv 1)) sa_nil rfl))) sa_nil rfl) rfl) (by decide) rfl rfl) (fun _ _ => rfl))))
theorem k__law_common {f : Addr} {fd : FuncData} (T : Tops P K mg) (F : L2.Fun K "_law_common" "_law_common" st__law_common f fd) (gF : mg "_law_common" = some (.ref f)) (hb : Binds K fd ["_law_one", "_law_other"] [])  : Cal P w K mg base "_law_common" 2 1 m__law_common :=
  cal_of F gF hb sc__law_common rfl fun cdv A outer s H E hr => (ss_cons (sc_while 100 (passes_of rfl) (sb_cmp (op_neD hr.units) op_dNe (se_var (pv 1)) se_int (nomark _)) (ss_one (sc_par (ps_par (i := 0) (j := 1) rfl sc__law_common.nd rfl rfl (by decide) rfl rfl (sa_cons (se_var (pv 1)) (sa_cons (se_op op_mod op_dMod (se_var (pv 0)) (se_var (pv 1))) sa_nil rfl) rfl) rfl))))
      (ss_one (sc_ret (se_var (pv 0)))))
theorem k__law_ring_of {f : Addr} {fd : FuncData} (T : Tops P K mg) (F : L2.Fun K "_law_ring_of" "_law_ring_of" st__law_ring_of f fd) (gF : mg "_law_ring_of" = some (.ref f)) (hb : Binds K fd ["_law_dice_here", "_law_k", "_law_times"] []) (c__law_roll : Cal P w K mg base "_law_roll" 2 1 m__law_roll) (c__law_one_of : Cal P w K mg base "_law_one_of" 2 2 m__law_one_of) (c__law_common : Cal P w K mg base "_law_common" 2 1 m__law_common) : Cal P w K mg base "_law_ring_of" 3 3 m__law_ring_of :=
  cal_of F gF hb sc__law_ring_of rfl fun cdv A outer s H E hr => (ss_cons (sc_set (ps_set (i := 3) sc__law_ring_of.nd rfl (by first | exact Or.inl rfl | exact Or.inr rfl) (se_op or_add op_dAdd se_int (se_call c__law_roll takes_def (hr.mono (by decide)) (by rfl) (sa_cons (se_var (pv 0)) (sa_cons (se_var (pv 2)) sa_nil rfl) rfl) (by decide) rfl rfl))))
      (ss_cons (by first | exact sc_setL (fun _ _ _ q => goLc (by decide) (gN_len _) (goF q)) (ps_setLc (i := 4) (own := [("_law_one", 5)]) (g := gG _ _ none (gN 5)) rfl sc__law_ring_of.nd rfl rfl (sw_true rfl rfl rfl (by decide +kernel)) (si_r2 (pi_range2 (by rfl) T.b_range (sa_cons se_int (sa_cons (se_var (pv 1)) sa_nil rfl) rfl))) (blkOk_by (N := N__law_ring_of) (sc := defScope st__law_ring_of) (by decide +kernel)) (fun _ _ _ _ _ => (sg_name (W := W0) (pg_name sc__law_ring_of.nd rfl (by first | exact Or.inl rfl | exact Or.inr rfl)))) (fun _ _ _ _ _ => (pts_one (sb_cmp (op_eqD hr.units) op_dEq (se_call c__law_common takes_none5 (hr.mono (by decide)) (by rfl) (sa_cons (se_var (pv 1)) (sa_cons (se_var (pv 5)) sa_nil rfl) rfl) (by decide) rfl rfl) se_int (nomark _)))) (fun _ _ _ _ _ => (se_var (pv 5)))) | exact sc_set (ps_set (i := 4) sc__law_ring_of.nd rfl (by first | exact Or.inl rfl | exact Or.inr rfl) (se_F (sl_lc (by decide) (gN_len _) (pe_lc (own := [("_law_one", 5)]) (g := gG _ _ none (gN 5)) rfl sc__law_ring_of.nd (si_r2 (pi_range2 (by rfl) T.b_range (sa_cons se_int (sa_cons (se_var (pv 1)) sa_nil rfl) rfl))) (blkOk_by (N := N__law_ring_of) (sc := defScope st__law_ring_of) (by decide +kernel)) (fun _ _ _ _ _ => (sg_name (W := W0) (pg_name sc__law_ring_of.nd rfl (by first | exact Or.inl rfl | exact Or.inr rfl)))) (fun _ _ _ _ _ => (pts_one (sb_cmp (op_eqD hr.units) op_dEq (se_call c__law_common takes_none5 (hr.mono (by decide)) (by rfl) (sa_cons (se_var (pv 1)) (sa_cons (se_var (pv 5)) sa_nil rfl) rfl) (by decide) rfl rfl) se_int (nomark _)))) (fun _ _ _ _ _ => (se_var (pv 5))))))))
      (ss_one (sc_ret (se_tup (sa_cons (se_op (op_mulW.or (op_repT.or op_rep1)) op_dMulA (se_var (pv 1)) (se_var (pv 3))) (sa_cons (se_op (op_mulW.or (op_repT.or op_rep1)) op_dMulA (se_var (pv 3)) (se_call c__law_one_of takes_def (hr.mono (by decide)) (by rfl) (sa_cons (se_var (pv 0)) (sa_cons (se_var (pv 4)) sa_nil rfl) rfl) (by decide) rfl rfl)) sa_nil rfl) rfl))))))
theorem k__law_chain {f : Addr} {fd : FuncData} (T : Tops P K mg) (F : L2.Fun K "_law_chain" "_law_chain" st__law_chain f fd) (gF : mg "_law_chain" = some (.ref f)) (hb : Binds K fd ["_law_dice_here", "_law_rings", "_law_most"] []) (c__law_roll : Cal P w K mg base "_law_roll" 2 1 m__law_roll) (c__law_ring : Cal P w K mg base "_law_ring" 2 2 m__law_ring) (c__law_ring_of : Cal P w K mg base "_law_ring_of" 3 3 m__law_ring_of) : Cal P w K mg base "_law_chain" 3 4 m__law_chain :=
  cal_of F gF hb sc__law_chain rfl fun cdv A outer s H E hr => (ss_cons (sc_if (sb_cmp (op_eqD hr.units) op_dEq (se_call c__law_roll takes_def (hr.mono (by decide)) (by rfl) (sa_cons (se_var (pv 0)) (sa_cons se_int sa_nil rfl) rfl) (by decide) rfl rfl) se_int (nomark _)) (ss_cons (sc_set (ps_set (i := 3) sc__law_chain.nd rfl (by first | exact Or.inl rfl | exact Or.inr rfl) (se_op or_add op_dAdd se_int (se_call c__law_roll takes_def (hr.mono (by decide)) (by rfl) (sa_cons (se_var (pv 0)) (sa_cons (se_bi op_dMin2 (pe_callB (call_min2 rfl) (by rfl) T.b_min PyProof.Rows.boot_min (sa_cons se_int (sa_cons (se_op op_sub op_dSub (se_var (pv 2)) se_int) sa_nil rfl) rfl))) sa_nil rfl) rfl) (by decide) rfl rfl))))
      (ss_one (sc_ret (se_bi op_dTuple (pe_callTy call_tuple_of (by rfl) T.b_tuple PyProof.Rows.boot_tuple (sa_cons (se_F (sl_lc (by decide) (gN_len _) (pe_lc (own := [("_law_turn", 4)]) (g := gG _ _ none (gN 4)) rfl sc__law_chain.nd (si_r1 (pi_range1 (by rfl) T.b_range (sa_cons (se_var (pv 1)) sa_nil rfl))) (blkOk_by (N := N__law_chain) (sc := defScope st__law_chain) (by decide +kernel)) (fun _ _ _ _ _ => (sg_name (W := W0) (pg_name sc__law_chain.nd rfl (by first | exact Or.inl rfl | exact Or.inr rfl)))) (fun _ _ _ _ _ => st_nil) (fun _ _ _ _ _ => (se_call c__law_ring_of takes_none5 (hr.mono (by decide)) (by rfl) (sa_cons (se_var (pv 0)) (sa_cons (se_var (pv 3)) (sa_cons (se_op op_fdivW op_dDiv (se_var (pv 2)) (se_var (pv 3))) sa_nil rfl) rfl) rfl) (by decide) rfl rfl))))) sa_nil rfl)))))) ss_nil)
      (ss_one (sc_ret (se_bi op_dTuple (pe_callTy call_tuple_of (by rfl) T.b_tuple PyProof.Rows.boot_tuple (sa_cons (se_F (sl_lc (by decide) (gN_len _) (pe_lc (own := [("_law_turn", 4)]) (g := gG _ _ none (gN 4)) rfl sc__law_chain.nd (si_r1 (pi_range1 (by rfl) T.b_range (sa_cons (se_var (pv 1)) sa_nil rfl))) (blkOk_by (N := N__law_chain) (sc := defScope st__law_chain) (by decide +kernel)) (fun _ _ _ _ _ => (sg_name (W := W0) (pg_name sc__law_chain.nd rfl (by first | exact Or.inl rfl | exact Or.inr rfl)))) (fun _ _ _ _ _ => st_nil) (fun _ _ _ _ _ => (se_call c__law_ring takes_none5 (hr.mono (by decide)) (by rfl) (sa_cons (se_var (pv 0)) (sa_cons (se_var (pv 2)) sa_nil rfl) rfl) (by decide) rfl rfl))))) sa_nil rfl))))))
theorem k__law_tuple {f : Addr} {fd : FuncData} (T : Tops P K mg) (F : L2.Fun K "_law_tuple" "_law_tuple" st__law_tuple f fd) (gF : mg "_law_tuple" = some (.ref f)) (hb : Binds K fd ["_law_dice_here", "_law_chain_here"] []) (c__law_roll : Cal P w K mg base "_law_roll" 2 1 m__law_roll) : Cal P w K mg base "_law_tuple" 2 2 m__law_tuple :=
  cal_of F gF hb sc__law_tuple rfl fun cdv A outer s H E hr => (ss_cons (sc_set (ps_set (i := 2) sc__law_tuple.nd rfl (by first | exact Or.inl rfl | exact Or.inr rfl) (se_C (sl_lst sa_nil))))
      (ss_cons (sc_for (passes_of rfl) rfl (si_val (se_var (pv 1))) (sg_tup (W := _) (fun _ h => pg_tup rfl h) (sgs_cons (W := _) (sg_name (W := _) (pg_name sc__law_tuple.nd rfl (by first | exact Or.inl rfl | exact Or.inr rfl))) (sgs_cons (W := _) (sg_name (W := _) (pg_name sc__law_tuple.nd rfl (by first | exact Or.inl rfl | exact Or.inr rfl))) (sgs_nil (W := _)) rfl) rfl) (fun _ _ _ q => gsC_len (fun _ _ _ q => gsC_len (fun _ _ _ q => gsN_len q) q) q)) (ss_one (sc_exp (se_m op_mAppend (pe_bm PySem.F.plainAttrs_list PySem.F.slot_list_append PySem.F.type_list_append mt_append (se_var (pv 2)) (sa_cons (se_if (sb_cmp (op_eqD hr.units) op_dEq (se_call c__law_roll takes_def (hr.mono (by decide)) (by rfl) (sa_cons (se_var (pv 0)) (sa_cons se_int sa_nil rfl) rfl) (by decide) rfl rfl) se_int (nomark _)) (se_call c__law_roll takes_def (hr.mono (by decide)) (by rfl) (sa_cons (se_var (pv 0)) (sa_cons (se_var (pv 3)) sa_nil rfl) rfl) (by decide) rfl rfl) (se_op op_mod op_dMod (se_op (op_mulW.or (op_repT.or op_rep1)) op_dMulA (se_op op_sub op_dSub (se_call c__law_roll takes_def (hr.mono (by decide)) (by rfl) (sa_cons (se_var (pv 0)) (sa_cons se_int sa_nil rfl) rfl) (by decide) rfl rfl) se_int) (se_var (pv 4))) (se_var (pv 3)))) sa_nil rfl))) rfl)) (by intro _; rfl))
      (ss_one (sc_ret (se_bi op_dTuple (pe_callTy call_tuple_of (by rfl) T.b_tuple PyProof.Rows.boot_tuple (sa_cons (se_var (pv 2)) sa_nil rfl)))))))
theorem k_holds_in {f : Addr} {fd : FuncData} (T : Tops P K mg) (F : L2.Fun K "holds_in" "holds_in" st_holds_in f fd) (gF : mg "holds_in" = some (.ref f)) (hb : Binds K fd ["heap", "other"] [])  : Cal P w K mg base "holds_in" 2 1 m_holds_in :=
  cal_of F gF hb sc_holds_in rfl fun cdv A outer s H E hr => (ss_one (sc_ret (se_and (se_cmp op_le op_dLe (se_bi op_dLen (pe_callB call_len_seq (by rfl) T.b_len PySem.boot_len (sa_cons (se_var (pv 1)) sa_nil rfl))) (se_bi op_dLen (pe_callB call_len_seq (by rfl) T.b_len PySem.boot_len (sa_cons (se_var (pv 0)) sa_nil rfl))) (nomark _)) (se_one (se_bi op_dAll (pe_callB (cr_all rfl) (by rfl) T.b_all PyProof.Rows.boot_all (sa_cons (se_F (sl_lc (by decide) (gT_len (gsC_lenE (gN_len _) (gsC_lenE (gN_len _) (gsN_lenE)))) (pe_lc (own := [("one", 2), ("two", 3)]) (g := gG _ _ none (gT (gsC (gN 2) (gsC (gN 3) (gsN))))) rfl sc_holds_in.nd (si_zip (RZ.pi_zipA (by rfl) T.b_zip (sa_cons (se_var (pv 0)) (sa_cons (se_var (pv 1)) sa_nil rfl) rfl))) (blkOk_by (N := N_holds_in) (sc := defScope st_holds_in) (by decide +kernel)) (fun _ _ _ _ _ => (sg_tup (W := W0) (fun _ h => pg_tup rfl h) (sgs_cons (W := W0) (sg_name (W := W0) (pg_name sc_holds_in.nd rfl (by first | exact Or.inl rfl | exact Or.inr rfl))) (sgs_cons (W := W0) (sg_name (W := W0) (pg_name sc_holds_in.nd rfl (by first | exact Or.inl rfl | exact Or.inr rfl))) (sgs_nil (W := W0)) rfl) rfl) (fun _ _ _ q => gsC_len (fun _ _ _ q => gsC_len (fun _ _ _ q => gsN_len q) q) q))) (fun _ _ _ _ _ => st_nil) (fun _ _ _ _ _ => (se_cmp op_ge op_dGe (se_var (pv 2)) (se_var (pv 3)) (nomark _)))))) sa_nil rfl)))))))
theorem k_is_whole {f : Addr} {fd : FuncData} (T : Tops P K mg) (F : L2.Fun K "is_whole" "is_whole" st_is_whole f fd) (gF : mg "is_whole" = some (.ref f)) (hb : Binds K fd ["value"] [])  : Cal P w K mg base "is_whole" 1 1 m_is_whole :=
  cal_of F gF hb sc_is_whole rfl fun cdv A outer s H E hr => (ss_one (sc_ret (se_and (se_bi op_dIsi (pe_callB call_isi (by rfl) T.b_isinstance PyProof.Rows.boot_isinstance (sa_cons (se_var (pv 0)) (sa_cons (se_ty (pe_bltn (by rfl) T.b_int (by decide +kernel) rfl)) sa_nil rfl) rfl))) (se_one (se_not (se_bi op_dIsi (pe_callB call_isi (by rfl) T.b_isinstance PyProof.Rows.boot_isinstance (sa_cons (se_var (pv 0)) (sa_cons (se_ty (pe_bltn (by rfl) T.b_bool (by decide +kernel) rfl)) sa_nil rfl) rfl))))))))
theorem k_is_within {f : Addr} {fd : FuncData} (T : Tops P K mg) (F : L2.Fun K "is_within" "is_within" st_is_within f fd) (gF : mg "is_within" = some (.ref f)) (hb : Binds K fd ["value", "least", "most"] []) (c_is_whole : Cal P w K mg base "is_whole" 1 1 m_is_whole) : Cal P w K mg base "is_within" 3 2 m_is_within :=
  cal_of F gF hb sc_is_within rfl fun cdv A outer s H E hr => (ss_one (sc_ret (se_and (se_call c_is_whole takes_def (hr.mono (by decide)) (by rfl) (sa_cons (se_var (pv 0)) sa_nil rfl) (by decide) rfl rfl) (se_one (se_chain op_le op_dLe op_le op_dLe (se_var (pv 1)) (se_var (pv 0)) (se_var (pv 2)) rfl)))))
theorem k_is_heap_in {f : Addr} {fd : FuncData} (T : Tops P K mg) (F : L2.Fun K "is_heap_in" "is_heap_in" st_is_heap_in f fd) (gF : mg "is_heap_in" = some (.ref f)) (hb : Binds K fd ["value"] []) (c_is_within : Cal P w K mg base "is_within" 3 2 m_is_within) : Cal P w K mg base "is_heap_in" 1 3 m_is_heap_in :=
  cal_of F gF hb sc_is_heap_in rfl fun cdv A outer s H E hr => (ss_cons (sc_if (sb_w (sw_or (sb_not (sb_val (se_bi op_dIsi (pe_callB call_isi (by rfl) T.b_isinstance PyProof.Rows.boot_isinstance (sa_cons (se_var (pv 0)) (sa_cons (se_ty (pe_bltn (by rfl) T.b_tuple (by decide +kernel) rfl)) sa_nil rfl) rfl))) (fun _ => rfl))) (sw_or1 (sb_cmp op_gt op_dGt (se_bi op_dLen (pe_callB call_len_seq (by rfl) T.b_len PySem.boot_len (sa_cons (se_var (pv 0)) sa_nil rfl))) (se_gintE rfl T.c_MOST_SIDE (by decide)) (nomark _))))) (ss_one (sc_ret se_bl)) ss_nil)
      (ss_cons (sc_if (sb_not (sb_val (se_bi op_dAll (pe_callB (cr_all rfl) (by rfl) T.b_all PyProof.Rows.boot_all (sa_cons (se_F (sl_lc (by decide) (gN_len _) (pe_lc (own := [("height", 1)]) (g := gG _ _ none (gN 1)) rfl sc_is_heap_in.nd (si_val (se_var (pv 0))) (blkOk_by (N := N_is_heap_in) (sc := defScope st_is_heap_in) (by decide +kernel)) (fun _ _ _ _ _ => (sg_name (W := W0) (pg_name sc_is_heap_in.nd rfl (by first | exact Or.inl rfl | exact Or.inr rfl)))) (fun _ _ _ _ _ => st_nil) (fun _ _ _ _ _ => (se_call c_is_within takes_none5 (hr.mono (by decide)) (by rfl) (sa_cons (se_var (pv 1)) (sa_cons se_int (sa_cons (se_gintE rfl T.c_MOST_SIDE (by decide)) sa_nil rfl) rfl) rfl) (by decide) rfl rfl))))) sa_nil rfl))) (fun _ => rfl))) (ss_one (sc_ret se_bl)) ss_nil)
      (ss_one (sc_ret (se_bi op_dAll (pe_callB (cr_all rfl) (by rfl) T.b_all PyProof.Rows.boot_all (sa_cons (se_F (sl_lc (by decide) (gT_len (gsC_lenE (gN_len _) (gsC_lenE (gN_len _) (gsN_lenE)))) (pe_lc (own := [("one", 2), ("other", 3)]) (g := gG _ _ none (gT (gsC (gN 2) (gsC (gN 3) (gsN))))) rfl sc_is_heap_in.nd (si_zip (RZ.pi_zipA (by rfl) T.b_zip (sa_cons (se_var (pv 0)) (sa_cons (se_sl (se_var (pv 0)) (so_e se_int) so_no) sa_nil rfl) rfl))) (blkOk_by (N := N_is_heap_in) (sc := defScope st_is_heap_in) (by decide +kernel)) (fun _ _ _ _ _ => (sg_tup (W := W0) (fun _ h => pg_tup rfl h) (sgs_cons (W := W0) (sg_name (W := W0) (pg_name sc_is_heap_in.nd rfl (by first | exact Or.inl rfl | exact Or.inr rfl))) (sgs_cons (W := W0) (sg_name (W := W0) (pg_name sc_is_heap_in.nd rfl (by first | exact Or.inl rfl | exact Or.inr rfl))) (sgs_nil (W := W0)) rfl) rfl) (fun _ _ _ q => gsC_len (fun _ _ _ q => gsC_len (fun _ _ _ q => gsN_len q) q) q))) (fun _ _ _ _ _ => st_nil) (fun _ _ _ _ _ => (se_cmp op_ge op_dGe (se_var (pv 2)) (se_var (pv 3)) (nomark _)))))) sa_nil rfl)))))))
theorem k_require_heap {f : Addr} {fd : FuncData} (T : Tops P K mg) (F : L2.Fun K "require_heap" "require_heap" st_require_heap f fd) (gF : mg "require_heap" = some (.ref f)) (hb : Binds K fd ["heap"] []) (c_is_heap_in : Cal P w K mg base "is_heap_in" 1 3 m_is_heap_in) : Cal P w K mg base "require_heap" 1 4 m_require_heap :=
  cal_of F gF hb sc_require_heap rfl fun cdv A outer s H E hr => (ss_one (sc_if (sb_not (sb_val (se_call c_is_heap_in takes_def (hr.mono (by decide)) (by rfl) (sa_cons (se_var (pv 0)) sa_nil rfl) (by decide) rfl rfl) (fun _ => rfl))) (ss_one sc_stop) ss_nil))
theorem k_require_two_heaps {f : Addr} {fd : FuncData} (T : Tops P K mg) (F : L2.Fun K "require_two_heaps" "require_two_heaps" st_require_two_heaps f fd) (gF : mg "require_two_heaps" = some (.ref f)) (hb : Binds K fd ["one", "other"] []) (c_require_heap : Cal P w K mg base "require_heap" 1 4 m_require_heap) : Cal P w K mg base "require_two_heaps" 2 5 m_require_two_heaps :=
  cal_of F gF hb sc_require_two_heaps rfl fun cdv A outer s H E hr => (ss_cons (sc_exp (se_call c_require_heap takes_def (hr.mono (by decide)) (by rfl) (sa_cons (se_var (pv 0)) sa_nil rfl) (by decide) rfl rfl) rfl)
      (ss_one (sc_exp (se_call c_require_heap takes_def (hr.mono (by decide)) (by rfl) (sa_cons (se_var (pv 1)) sa_nil rfl) (by decide) rfl rfl) rfl)))
theorem k_is_held {f : Addr} {fd : FuncData} (T : Tops P K mg) (F : L2.Fun K "is_held" "is_held" st_is_held f fd) (gF : mg "is_held" = some (.ref f)) (hb : Binds K fd ["heap", "other"] []) (c_holds_in : Cal P w K mg base "holds_in" 2 1 m_holds_in) (c_require_two_heaps : Cal P w K mg base "require_two_heaps" 2 5 m_require_two_heaps) : Cal P w K mg base "is_held" 2 6 m_is_held :=
  cal_of F gF hb sc_is_held rfl fun cdv A outer s H E hr => (ss_cons (sc_exp (se_call c_require_two_heaps takes_def (hr.mono (by decide)) (by rfl) (sa_cons (se_var (pv 0)) (sa_cons (se_var (pv 1)) sa_nil rfl) rfl) (by decide) rfl rfl) rfl)
      (ss_one (sc_ret (se_call c_holds_in takes_def (hr.mono (by decide)) (by rfl) (sa_cons (se_var (pv 0)) (sa_cons (se_var (pv 1)) sa_nil rfl) rfl) (by decide) rfl rfl))))
theorem k_common_in {f : Addr} {fd : FuncData} (T : Tops P K mg) (F : L2.Fun K "common_in" "common_in" st_common_in f fd) (gF : mg "common_in" = some (.ref f)) (hb : Binds K fd ["one", "other"] [])  : Cal P w K mg base "common_in" 2 1 m_common_in :=
  cal_of F gF hb sc_common_in rfl fun cdv A outer s H E hr => (ss_one (sc_ret (se_bi op_dTuple (pe_callTy call_tuple_of (by rfl) T.b_tuple PyProof.Rows.boot_tuple (sa_cons (se_F (sl_lc (by decide) (gT_len (gsC_lenE (gN_len _) (gsC_lenE (gN_len _) (gsN_lenE)))) (pe_lc (own := [("left", 2), ("right", 3)]) (g := gG _ _ none (gT (gsC (gN 2) (gsC (gN 3) (gsN))))) rfl sc_common_in.nd (si_zip (RZ.pi_zipA (by rfl) T.b_zip (sa_cons (se_var (pv 0)) (sa_cons (se_var (pv 1)) sa_nil rfl) rfl))) (blkOk_by (N := N_common_in) (sc := defScope st_common_in) (by decide +kernel)) (fun _ _ _ _ _ => (sg_tup (W := W0) (fun _ h => pg_tup rfl h) (sgs_cons (W := W0) (sg_name (W := W0) (pg_name sc_common_in.nd rfl (by first | exact Or.inl rfl | exact Or.inr rfl))) (sgs_cons (W := W0) (sg_name (W := W0) (pg_name sc_common_in.nd rfl (by first | exact Or.inl rfl | exact Or.inr rfl))) (sgs_nil (W := W0)) rfl) rfl) (fun _ _ _ q => gsC_len (fun _ _ _ q => gsC_len (fun _ _ _ q => gsN_len q) q) q))) (fun _ _ _ _ _ => st_nil) (fun _ _ _ _ _ => (se_bi op_dMin2 (pe_callB (call_min2 rfl) (by rfl) T.b_min PyProof.Rows.boot_min (sa_cons (se_var (pv 2)) (sa_cons (se_var (pv 3)) sa_nil rfl) rfl))))))) sa_nil rfl)))))
theorem k_common_of {f : Addr} {fd : FuncData} (T : Tops P K mg) (F : L2.Fun K "common_of" "common_of" st_common_of f fd) (gF : mg "common_of" = some (.ref f)) (hb : Binds K fd ["one", "other"] []) (c_common_in : Cal P w K mg base "common_in" 2 1 m_common_in) (c_require_two_heaps : Cal P w K mg base "require_two_heaps" 2 5 m_require_two_heaps) : Cal P w K mg base "common_of" 2 6 m_common_of :=
  cal_of F gF hb sc_common_of rfl fun cdv A outer s H E hr => (ss_cons (sc_exp (se_call c_require_two_heaps takes_def (hr.mono (by decide)) (by rfl) (sa_cons (se_var (pv 0)) (sa_cons (se_var (pv 1)) sa_nil rfl) rfl) (by decide) rfl rfl) rfl)
      (ss_one (sc_ret (se_call c_common_in takes_def (hr.mono (by decide)) (by rfl) (sa_cons (se_var (pv 0)) (sa_cons (se_var (pv 1)) sa_nil rfl) rfl) (by decide) rfl rfl))))
theorem k_is_ring_in {f : Addr} {fd : FuncData} (T : Tops P K mg) (F : L2.Fun K "is_ring_in" "is_ring_in" st_is_ring_in f fd) (gF : mg "is_ring_in" = some (.ref f)) (hb : Binds K fd ["value"] []) (c_is_within : Cal P w K mg base "is_within" 3 2 m_is_within) : Cal P w K mg base "is_ring_in" 1 3 m_is_ring_in :=
  cal_of F gF hb sc_is_ring_in rfl fun cdv A outer s H E hr => (ss_cons (sc_if (sb_w (sw_or (sb_not (sb_val (se_bi op_dIsi (pe_callB call_isi (by rfl) T.b_isinstance PyProof.Rows.boot_isinstance (sa_cons (se_var (pv 0)) (sa_cons (se_ty (pe_bltn (by rfl) T.b_tuple (by decide +kernel) rfl)) sa_nil rfl) rfl))) (fun _ => rfl))) (sw_or (sb_cmp (op_neD hr.units) op_dNe (se_bi op_dLen (pe_callB call_len_seq (by rfl) T.b_len PySem.boot_len (sa_cons (se_var (pv 0)) sa_nil rfl))) se_int (nomark _)) (sw_or1 (sb_not (sb_val (se_call c_is_within takes_def (hr.mono (by decide)) (by rfl) (sa_cons (se_sub ix_any op_dIx (se_var (pv 0)) se_int (fun _ _ => rfl)) (sa_cons se_int (sa_cons (se_gintE rfl T.c_MOST_PLACES (by decide)) sa_nil rfl) rfl) rfl) (by decide) rfl rfl) (fun _ => rfl))))))) (ss_one (sc_ret se_bl)) ss_nil)
      (ss_one (sc_ret (se_call c_is_within takes_def (hr.mono (by decide)) (by rfl) (sa_cons (se_sub ix_any op_dIx (se_var (pv 0)) se_int (fun _ _ => rfl)) (sa_cons se_int (sa_cons (se_op op_sub op_dSub (se_sub ix_any op_dIx (se_var (pv 0)) se_int (fun _ _ => rfl)) se_int) sa_nil rfl) rfl) rfl) (by decide) rfl rfl))))
theorem k_addable_columns {f : Addr} {fd : FuncData} (T : Tops P K mg) (F : L2.Fun K "addable_columns" "addable_columns" st_addable_columns f fd) (gF : mg "addable_columns" = some (.ref f)) (hb : Binds K fd ["heap"] [])  : Cal P w K mg base "addable_columns" 1 1 m_addable_columns :=
  cal_of F gF hb sc_addable_columns rfl fun cdv A outer s H E hr => (ss_cons (sc_set (ps_set (i := 1) sc_addable_columns.nd rfl (by first | exact Or.inl rfl | exact Or.inr rfl) (se_tup (sa_star (se_var (pv 0)) (sa_cons se_int sa_nil rfl) rfl))))
      (ss_one (sc_ret (se_F (sl_lc (by decide) (gN_len _) (pe_lc (own := [("column", 2)]) (g := gG _ _ none (gN 2)) rfl sc_addable_columns.nd (si_r3 (pi_range3 (by rfl) T.b_range (sa_cons (se_bi op_dLen (pe_callB call_len_seq (by rfl) T.b_len PySem.boot_len (sa_cons (se_var (pv 0)) sa_nil rfl))) (sa_cons (se_un un_neg op_dNeg se_int) (sa_cons (se_un un_neg op_dNeg se_int) sa_nil rfl) rfl) rfl))) (blkOk_by (N := N_addable_columns) (sc := defScope st_addable_columns) (by decide +kernel)) (fun _ _ _ _ _ => (sg_name (W := W0) (pg_name sc_addable_columns.nd rfl (by first | exact Or.inl rfl | exact Or.inr rfl)))) (fun _ _ _ _ _ => (pts_one (sb_w (sw_or (sb_cmp (op_eqD hr.units) op_dEq (se_var (pv 2)) se_int (nomark _)) (sw_or1 (sb_cmp op_gt op_dGt (se_sub ix_any op_dIx (se_var (pv 1)) (se_op op_sub op_dSub (se_var (pv 2)) se_int) (fun _ _ => rfl)) (se_sub ix_any op_dIx (se_var (pv 1)) (se_var (pv 2)) (fun _ _ => rfl)) (nomark _))))))) (fun _ _ _ _ _ => (se_var (pv 2)))))))))
theorem k_risen {f : Addr} {fd : FuncData} (T : Tops P K mg) (F : L2.Fun K "risen" "risen" st_risen f fd) (gF : mg "risen" = some (.ref f)) (hb : Binds K fd ["heap", "columns"] [])  : Cal P w K mg base "risen" 2 1 m_risen :=
  cal_of F gF hb sc_risen rfl fun cdv A outer s H E hr => (ss_cons (by first | exact sc_setL (fun _ _ _ q => goLc (by decide) (gT_len (gsC_lenE (gN_len _) (gsC_lenE (gN_len _) (gsN_lenE)))) (goF q)) (ps_setLc (i := 2) (own := [("column", 3), ("height", 4)]) (g := gG _ _ none (gT (gsC (gN 3) (gsC (gN 4) (gsN))))) rfl sc_risen.nd rfl rfl (sw_true rfl rfl rfl (by decide +kernel)) (si_enum (pi_enumA (by rfl) T.b_enumerate (sa_cons (se_tup (sa_star (se_var (pv 0)) (sa_cons se_int sa_nil rfl) rfl)) sa_nil rfl) rfl)) (blkOk_by (N := N_risen) (sc := defScope st_risen) (by decide +kernel)) (fun _ _ _ _ _ => (sg_tup (W := W0) (fun _ h => pg_tup rfl h) (sgs_cons (W := W0) (sg_name (W := W0) (pg_name sc_risen.nd rfl (by first | exact Or.inl rfl | exact Or.inr rfl))) (sgs_cons (W := W0) (sg_name (W := W0) (pg_name sc_risen.nd rfl (by first | exact Or.inl rfl | exact Or.inr rfl))) (sgs_nil (W := W0)) rfl) rfl) (fun _ _ _ q => gsC_len (fun _ _ _ q => gsC_len (fun _ _ _ q => gsN_len q) q) q))) (fun _ _ _ _ _ => st_nil) (fun _ _ _ _ _ => (se_op or_add op_dAdd (se_var (pv 4)) (se_bi op_dInt (pe_callTy call_int1 (by rfl) T.b_int PyProof.Rows.boot_int (sa_cons (se_cmp ((op_inD (units65 hr)).or (op_inT (units65 hr))) op_dInA (se_var (pv 3)) (se_var (pv 1)) (by with_unfolding_all rfl)) sa_nil rfl)))))) | exact sc_set (ps_set (i := 2) sc_risen.nd rfl (by first | exact Or.inl rfl | exact Or.inr rfl) (se_F (sl_lc (by decide) (gT_len (gsC_lenE (gN_len _) (gsC_lenE (gN_len _) (gsN_lenE)))) (pe_lc (own := [("column", 3), ("height", 4)]) (g := gG _ _ none (gT (gsC (gN 3) (gsC (gN 4) (gsN))))) rfl sc_risen.nd (si_enum (pi_enumA (by rfl) T.b_enumerate (sa_cons (se_tup (sa_star (se_var (pv 0)) (sa_cons se_int sa_nil rfl) rfl)) sa_nil rfl) rfl)) (blkOk_by (N := N_risen) (sc := defScope st_risen) (by decide +kernel)) (fun _ _ _ _ _ => (sg_tup (W := W0) (fun _ h => pg_tup rfl h) (sgs_cons (W := W0) (sg_name (W := W0) (pg_name sc_risen.nd rfl (by first | exact Or.inl rfl | exact Or.inr rfl))) (sgs_cons (W := W0) (sg_name (W := W0) (pg_name sc_risen.nd rfl (by first | exact Or.inl rfl | exact Or.inr rfl))) (sgs_nil (W := W0)) rfl) rfl) (fun _ _ _ q => gsC_len (fun _ _ _ q => gsC_len (fun _ _ _ q => gsN_len q) q) q))) (fun _ _ _ _ _ => st_nil) (fun _ _ _ _ _ => (se_op or_add op_dAdd (se_var (pv 4)) (se_bi op_dInt (pe_callTy call_int1 (by rfl) T.b_int PyProof.Rows.boot_int (sa_cons (se_cmp ((op_inD (units65 hr)).or (op_inT (units65 hr))) op_dInA (se_var (pv 3)) (se_var (pv 1)) (by with_unfolding_all rfl)) sa_nil rfl))))))))))
      (ss_one (sc_ret (se_bi op_dTuple (pe_callTy call_tuple_of (by rfl) T.b_tuple PyProof.Rows.boot_tuple (sa_cons (se_F (sl_lc (by decide) (gN_len _) (pe_lc (own := [("height", 4)]) (g := gG _ _ none (gN 4)) rfl sc_risen.nd (si_val (se_var (pv 2))) (blkOk_by (N := N_risen) (sc := defScope st_risen) (by decide +kernel)) (fun _ _ _ _ _ => (sg_name (W := W0) (pg_name sc_risen.nd rfl (by first | exact Or.inl rfl | exact Or.inr rfl)))) (fun _ _ _ _ _ => (pts_one (sb_cmp op_gt op_dGt (se_var (pv 4)) se_int (nomark _)))) (fun _ _ _ _ _ => (se_var (pv 4)))))) sa_nil rfl))))))
theorem k_grown_in {f : Addr} {fd : FuncData} (T : Tops P K mg) (F : L2.Fun K "grown_in" "grown_in" st_grown_in f fd) (gF : mg "grown_in" = some (.ref f)) (hb : Binds K fd ["heap", "ring", "place"] []) (c_addable_columns : Cal P w K mg base "addable_columns" 1 1 m_addable_columns) (c_risen : Cal P w K mg base "risen" 2 1 m_risen) : Cal P w K mg base "grown_in" 3 2 m_grown_in :=
  cal_of F gF hb sc_grown_in rfl fun cdv A outer s H E hr => (ss_cons (sc_asg (se_var (pv 1)) (sg_tup (W := _) (fun _ h => pg_tup rfl h) (sgs_cons (W := _) (sg_name (W := _) (pg_name sc_grown_in.nd rfl (by first | exact Or.inl rfl | exact Or.inr rfl))) (sgs_cons (W := _) (sg_name (W := _) (pg_name sc_grown_in.nd rfl (by first | exact Or.inl rfl | exact Or.inr rfl))) (sgs_nil (W := _)) rfl) rfl) (fun _ _ _ q => gsC_len (fun _ _ _ q => gsC_len (fun _ _ _ q => gsN_len q) q) q)) rfl rfl rfl)
      (ss_cons (sc_set (ps_set (i := 3) sc_grown_in.nd rfl (by first | exact Or.inl rfl | exact Or.inr rfl) (se_tup (sa_star (se_var (pv 0)) (sa_cons se_int sa_nil rfl) rfl))))
      (ss_cons (by first | exact sc_setL (fun _ _ _ q => goLc (by decide) (gN_len _) (goF q)) (ps_setLc (i := 4) (own := [("column", 7)]) (g := gG _ _ none (gN 7)) rfl sc_grown_in.nd rfl rfl (sw_true rfl rfl rfl (by decide +kernel)) (si_val (se_call c_addable_columns takes_def (hr.mono (by decide)) (by rfl) (sa_cons (se_var (pv 0)) sa_nil rfl) (by decide) rfl rfl)) (blkOk_by (N := N_grown_in) (sc := defScope st_grown_in) (by decide +kernel)) (fun _ _ _ _ _ => (sg_name (W := W0) (pg_name sc_grown_in.nd rfl (by first | exact Or.inl rfl | exact Or.inr rfl)))) (fun _ _ _ _ _ => st_nil) (fun _ _ _ _ _ => (se_tup (sa_cons (se_var (pv 7)) (sa_cons (se_op op_sub op_dSub (se_var (pv 7)) (se_sub ix_any op_dIx (se_var (pv 3)) (se_var (pv 7)) (fun _ _ => rfl))) sa_nil rfl) rfl)))) | exact sc_set (ps_set (i := 4) sc_grown_in.nd rfl (by first | exact Or.inl rfl | exact Or.inr rfl) (se_F (sl_lc (by decide) (gN_len _) (pe_lc (own := [("column", 7)]) (g := gG _ _ none (gN 7)) rfl sc_grown_in.nd (si_val (se_call c_addable_columns takes_def (hr.mono (by decide)) (by rfl) (sa_cons (se_var (pv 0)) sa_nil rfl) (by decide) rfl rfl)) (blkOk_by (N := N_grown_in) (sc := defScope st_grown_in) (by decide +kernel)) (fun _ _ _ _ _ => (sg_name (W := W0) (pg_name sc_grown_in.nd rfl (by first | exact Or.inl rfl | exact Or.inr rfl)))) (fun _ _ _ _ _ => st_nil) (fun _ _ _ _ _ => (se_tup (sa_cons (se_var (pv 7)) (sa_cons (se_op op_sub op_dSub (se_var (pv 7)) (se_sub ix_any op_dIx (se_var (pv 3)) (se_var (pv 7)) (fun _ _ => rfl))) sa_nil rfl) rfl))))))))
      (ss_one (sc_ret (se_call c_risen takes_def (hr.mono (by decide)) (by rfl) (sa_cons (se_var (pv 0)) (sa_cons (se_F (sl_lc (by decide) (gT_len (gsC_lenE (gN_len _) (gsC_lenE (gN_len _) (gsN_lenE)))) (pe_lc (own := [("column", 7), ("diagonal", 8)]) (g := gG _ _ none (gT (gsC (gN 7) (gsC (gN 8) (gsN))))) rfl sc_grown_in.nd (si_val (se_var (pv 4))) (blkOk_by (N := N_grown_in) (sc := defScope st_grown_in) (by decide +kernel)) (fun _ _ _ _ _ => (sg_tup (W := W0) (fun _ h => pg_tup rfl h) (sgs_cons (W := W0) (sg_name (W := W0) (pg_name sc_grown_in.nd rfl (by first | exact Or.inl rfl | exact Or.inr rfl))) (sgs_cons (W := W0) (sg_name (W := W0) (pg_name sc_grown_in.nd rfl (by first | exact Or.inl rfl | exact Or.inr rfl))) (sgs_nil (W := W0)) rfl) rfl) (fun _ _ _ q => gsC_len (fun _ _ _ q => gsC_len (fun _ _ _ q => gsN_len q) q) q))) (fun _ _ _ _ _ => (pts_one (sb_cmp (op_eqD hr.units) op_dEq (se_op op_mod op_dMod (se_op op_sub op_dSub (se_op (op_mulW.or (op_repT.or op_rep1)) op_dMulA (se_var (pv 8)) (se_var (pv 6))) (se_var (pv 2))) (se_var (pv 5))) se_int (nomark _)))) (fun _ _ _ _ _ => (se_var (pv 7)))))) sa_nil rfl) rfl) (by decide) rfl rfl))))))
theorem k_require_small_sides {f : Addr} {fd : FuncData} (T : Tops P K mg) (F : L2.Fun K "require_small_sides" "require_small_sides" st_require_small_sides f fd) (gF : mg "require_small_sides" = some (.ref f)) (hb : Binds K fd ["heap"] [])  : Cal P w K mg base "require_small_sides" 1 1 m_require_small_sides :=
  cal_of F gF hb sc_require_small_sides rfl fun cdv A outer s H E hr => (ss_cons (sc_if (sb_w (sw_or (sb_cmp op_gt op_dGt (se_bi op_dLen (pe_callB call_len_seq (by rfl) T.b_len PySem.boot_len (sa_cons (se_var (pv 0)) sa_nil rfl))) (se_gintE rfl T.c_MOST_SIDE (by decide)) (nomark _)) (sw_or1 (sb_cmp op_gt op_dGt (se_bik op_dMaxDf (pe_callBK (cr_maxDf rfl (units65 hr)) (by rfl) T.b_max PyProof.Rows.boot_max (sa_cons (se_var (pv 0)) sa_nil rfl) (sk_cons se_int sk_nil))) (se_gintE rfl T.c_MOST_SIDE (by decide)) (nomark _))))) (ss_one sc_stop) ss_nil)
      (ss_one (sc_ret (se_var (pv 0)))))
theorem k_grown {f : Addr} {fd : FuncData} (T : Tops P K mg) (F : L2.Fun K "grown" "grown" st_grown f fd) (gF : mg "grown" = some (.ref f)) (hb : Binds K fd ["heap", "ring", "place"] []) (c_is_within : Cal P w K mg base "is_within" 3 2 m_is_within) (c_is_ring_in : Cal P w K mg base "is_ring_in" 1 3 m_is_ring_in) (c_grown_in : Cal P w K mg base "grown_in" 3 2 m_grown_in) (c_require_heap : Cal P w K mg base "require_heap" 1 4 m_require_heap) (c_require_small_sides : Cal P w K mg base "require_small_sides" 1 1 m_require_small_sides) : Cal P w K mg base "grown" 3 5 m_grown :=
  cal_of F gF hb sc_grown rfl fun cdv A outer s H E hr => (ss_cons (sc_exp (se_call c_require_heap takes_def (hr.mono (by decide)) (by rfl) (sa_cons (se_var (pv 0)) sa_nil rfl) (by decide) rfl rfl) rfl)
      (ss_cons (sc_if (sb_not (sb_val (se_call c_is_ring_in takes_def (hr.mono (by decide)) (by rfl) (sa_cons (se_var (pv 1)) sa_nil rfl) (by decide) rfl rfl) (fun _ => rfl))) (ss_one sc_stop) ss_nil)
      (ss_cons (sc_if (sb_not (sb_val (se_call c_is_within takes_def (hr.mono (by decide)) (by rfl) (sa_cons (se_var (pv 2)) (sa_cons se_int (sa_cons (se_op op_sub op_dSub (se_sub ix_any op_dIx (se_var (pv 1)) se_int (fun _ _ => rfl)) se_int) sa_nil rfl) rfl) rfl) (by decide) rfl rfl) (fun _ => rfl))) (ss_one sc_stop) ss_nil)
      (ss_one (sc_ret (se_call c_require_small_sides takes_def (hr.mono (by decide)) (by rfl) (sa_cons (se_call c_grown_in takes_def (hr.mono (by decide)) (by rfl) (sa_cons (se_var (pv 0)) (sa_cons (se_var (pv 1)) (sa_cons (se_var (pv 2)) sa_nil rfl) rfl) rfl) (by decide) rfl rfl) sa_nil rfl) (by decide) rfl rfl))))))
theorem k_is_chain_in {f : Addr} {fd : FuncData} (T : Tops P K mg) (F : L2.Fun K "is_chain_in" "is_chain_in" st_is_chain_in f fd) (gF : mg "is_chain_in" = some (.ref f)) (hb : Binds K fd ["value"] []) (c_is_ring_in : Cal P w K mg base "is_ring_in" 1 3 m_is_ring_in) : Cal P w K mg base "is_chain_in" 1 4 m_is_chain_in :=
  cal_of F gF hb sc_is_chain_in rfl fun cdv A outer s H E hr => (ss_one (sc_ret (se_and (se_bi op_dIsi (pe_callB call_isi (by rfl) T.b_isinstance PyProof.Rows.boot_isinstance (sa_cons (se_var (pv 0)) (sa_cons (se_ty (pe_bltn (by rfl) T.b_tuple (by decide +kernel) rfl)) sa_nil rfl) rfl))) (se_and (se_chain op_le op_dLe op_le op_dLe se_int (se_bi op_dLen (pe_callB call_len_seq (by rfl) T.b_len PySem.boot_len (sa_cons (se_var (pv 0)) sa_nil rfl))) (se_gintE rfl T.c_MOST_RINGS (by decide)) rfl) (se_one (se_bi op_dAll (pe_callB (cr_all rfl) (by rfl) T.b_all PyProof.Rows.boot_all (sa_cons (se_F (sl_lc (by decide) (gN_len _) (pe_lc (own := [("ring", 1)]) (g := gG _ _ none (gN 1)) rfl sc_is_chain_in.nd (si_val (se_var (pv 0))) (blkOk_by (N := N_is_chain_in) (sc := defScope st_is_chain_in) (by decide +kernel)) (fun _ _ _ _ _ => (sg_name (W := W0) (pg_name sc_is_chain_in.nd rfl (by first | exact Or.inl rfl | exact Or.inr rfl)))) (fun _ _ _ _ _ => st_nil) (fun _ _ _ _ _ => (se_call c_is_ring_in takes_none5 (hr.mono (by decide)) (by rfl) (sa_cons (se_var (pv 1)) sa_nil rfl) (by decide) rfl rfl))))) sa_nil rfl))))))))
theorem k_require_chain {f : Addr} {fd : FuncData} (T : Tops P K mg) (F : L2.Fun K "require_chain" "require_chain" st_require_chain f fd) (gF : mg "require_chain" = some (.ref f)) (hb : Binds K fd ["value"] []) (c_is_chain_in : Cal P w K mg base "is_chain_in" 1 4 m_is_chain_in) : Cal P w K mg base "require_chain" 1 5 m_require_chain :=
  cal_of F gF hb sc_require_chain rfl fun cdv A outer s H E hr => (ss_one (sc_if (sb_not (sb_val (se_call c_is_chain_in takes_def (hr.mono (by decide)) (by rfl) (sa_cons (se_var (pv 0)) sa_nil rfl) (by decide) rfl rfl) (fun _ => rfl))) (ss_one sc_stop) ss_nil))
theorem k_is_tuple_in {f : Addr} {fd : FuncData} (T : Tops P K mg) (F : L2.Fun K "is_tuple_in" "is_tuple_in" st_is_tuple_in f fd) (gF : mg "is_tuple_in" = some (.ref f)) (hb : Binds K fd ["chain", "value"] []) (c_is_within : Cal P w K mg base "is_within" 3 2 m_is_within) : Cal P w K mg base "is_tuple_in" 2 3 m_is_tuple_in :=
  cal_of F gF hb sc_is_tuple_in rfl fun cdv A outer s H E hr => (ss_cons (sc_if (sb_w (sw_or (sb_not (sb_val (se_bi op_dIsi (pe_callB call_isi (by rfl) T.b_isinstance PyProof.Rows.boot_isinstance (sa_cons (se_var (pv 1)) (sa_cons (se_ty (pe_bltn (by rfl) T.b_tuple (by decide +kernel) rfl)) sa_nil rfl) rfl))) (fun _ => rfl))) (sw_or1 (sb_cmp (op_neD hr.units) op_dNe (se_bi op_dLen (pe_callB call_len_seq (by rfl) T.b_len PySem.boot_len (sa_cons (se_var (pv 1)) sa_nil rfl))) (se_bi op_dLen (pe_callB call_len_seq (by rfl) T.b_len PySem.boot_len (sa_cons (se_var (pv 0)) sa_nil rfl))) (nomark _))))) (ss_one (sc_ret se_bl)) ss_nil)
      (ss_one (sc_ret (se_bi op_dAll (pe_callB (cr_all rfl) (by rfl) T.b_all PyProof.Rows.boot_all (sa_cons (se_F (sl_lc (by decide) (gT_len (gsC_lenE (gN_len _) (gsC_lenE (gN_len _) (gsN_lenE)))) (pe_lc (own := [("ring", 2), ("place", 3)]) (g := gG _ _ none (gT (gsC (gN 2) (gsC (gN 3) (gsN))))) rfl sc_is_tuple_in.nd (si_zip (RZ.pi_zipA (by rfl) T.b_zip (sa_cons (se_var (pv 0)) (sa_cons (se_var (pv 1)) sa_nil rfl) rfl))) (blkOk_by (N := N_is_tuple_in) (sc := defScope st_is_tuple_in) (by decide +kernel)) (fun _ _ _ _ _ => (sg_tup (W := W0) (fun _ h => pg_tup rfl h) (sgs_cons (W := W0) (sg_name (W := W0) (pg_name sc_is_tuple_in.nd rfl (by first | exact Or.inl rfl | exact Or.inr rfl))) (sgs_cons (W := W0) (sg_name (W := W0) (pg_name sc_is_tuple_in.nd rfl (by first | exact Or.inl rfl | exact Or.inr rfl))) (sgs_nil (W := W0)) rfl) rfl) (fun _ _ _ q => gsC_len (fun _ _ _ q => gsC_len (fun _ _ _ q => gsN_len q) q) q))) (fun _ _ _ _ _ => st_nil) (fun _ _ _ _ _ => (se_call c_is_within takes_none5 (hr.mono (by decide)) (by rfl) (sa_cons (se_var (pv 3)) (sa_cons se_int (sa_cons (se_op op_sub op_dSub (se_sub ix_any op_dIx (se_var (pv 2)) se_int (fun _ _ => rfl)) se_int) sa_nil rfl) rfl) rfl) (by decide) rfl rfl))))) sa_nil rfl))))))
theorem k_require_tuple {f : Addr} {fd : FuncData} (T : Tops P K mg) (F : L2.Fun K "require_tuple" "require_tuple" st_require_tuple f fd) (gF : mg "require_tuple" = some (.ref f)) (hb : Binds K fd ["chain", "value"] []) (c_is_tuple_in : Cal P w K mg base "is_tuple_in" 2 3 m_is_tuple_in) : Cal P w K mg base "require_tuple" 2 4 m_require_tuple :=
  cal_of F gF hb sc_require_tuple rfl fun cdv A outer s H E hr => (ss_one (sc_if (sb_not (sb_val (se_call c_is_tuple_in takes_def (hr.mono (by decide)) (by rfl) (sa_cons (se_var (pv 0)) (sa_cons (se_var (pv 1)) sa_nil rfl) rfl) (by decide) rfl rfl) (fun _ => rfl))) (ss_one sc_stop) ss_nil))
theorem k_heaps_in {f : Addr} {fd : FuncData} (T : Tops P K mg) (F : L2.Fun K "heaps_in" "heaps_in" st_heaps_in f fd) (gF : mg "heaps_in" = some (.ref f)) (hb : Binds K fd ["chain", "places"] []) (c_grown_in : Cal P w K mg base "grown_in" 3 2 m_grown_in) : Cal P w K mg base "heaps_in" 2 3 m_heaps_in :=
  cal_of F gF hb sc_heaps_in rfl fun cdv A outer s H E hr => (ss_cons (sc_set (ps_set (i := 2) sc_heaps_in.nd rfl (by first | exact Or.inl rfl | exact Or.inr rfl) (se_C (sl_lst (sa_cons (se_tup sa_nil) sa_nil rfl)))))
      (ss_cons (sc_for (passes_of rfl) rfl (si_zip (RZ.pi_zipA (by rfl) T.b_zip (sa_cons (se_var (pv 0)) (sa_cons (se_var (pv 1)) sa_nil rfl) rfl))) (sg_tup (W := _) (fun _ h => pg_tup rfl h) (sgs_cons (W := _) (sg_name (W := _) (pg_name sc_heaps_in.nd rfl (by first | exact Or.inl rfl | exact Or.inr rfl))) (sgs_cons (W := _) (sg_name (W := _) (pg_name sc_heaps_in.nd rfl (by first | exact Or.inl rfl | exact Or.inr rfl))) (sgs_nil (W := _)) rfl) rfl) (fun _ _ _ q => gsC_len (fun _ _ _ q => gsC_len (fun _ _ _ q => gsN_len q) q) q)) (ss_one (sc_exp (se_m op_mAppend (pe_bm PySem.F.plainAttrs_list PySem.F.slot_list_append PySem.F.type_list_append mt_append (se_var (pv 2)) (sa_cons (se_call c_grown_in takes_def (hr.mono (by decide)) (by rfl) (sa_cons (se_sub ix_any op_dIx (se_var (pv 2)) (se_un un_neg op_dNeg se_int) (fun _ _ => rfl)) (sa_cons (se_var (pv 3)) (sa_cons (se_var (pv 4)) sa_nil rfl) rfl) rfl) (by decide) rfl rfl) sa_nil rfl))) rfl)) (by intro _; rfl))
      (ss_one (sc_ret (se_bi op_dTuple (pe_callTy call_tuple_of (by rfl) T.b_tuple PyProof.Rows.boot_tuple (sa_cons (se_var (pv 2)) sa_nil rfl)))))))
theorem k_heap_in {f : Addr} {fd : FuncData} (T : Tops P K mg) (F : L2.Fun K "heap_in" "heap_in" st_heap_in f fd) (gF : mg "heap_in" = some (.ref f)) (hb : Binds K fd ["chain", "places"] []) (c_heaps_in : Cal P w K mg base "heaps_in" 2 3 m_heaps_in) : Cal P w K mg base "heap_in" 2 4 m_heap_in :=
  cal_of F gF hb sc_heap_in rfl fun cdv A outer s H E hr => (ss_one (sc_ret (se_sub ix_any op_dIx (se_call c_heaps_in takes_def (hr.mono (by decide)) (by rfl) (sa_cons (se_var (pv 0)) (sa_cons (se_var (pv 1)) sa_nil rfl) rfl) (by decide) rfl rfl) (se_un un_neg op_dNeg se_int) (fun _ _ => rfl))))
theorem k_heap_of {f : Addr} {fd : FuncData} (T : Tops P K mg) (F : L2.Fun K "heap_of" "heap_of" st_heap_of f fd) (gF : mg "heap_of" = some (.ref f)) (hb : Binds K fd ["chain", "places"] []) (c_require_chain : Cal P w K mg base "require_chain" 1 5 m_require_chain) (c_require_tuple : Cal P w K mg base "require_tuple" 2 4 m_require_tuple) (c_heap_in : Cal P w K mg base "heap_in" 2 4 m_heap_in) : Cal P w K mg base "heap_of" 2 6 m_heap_of :=
  cal_of F gF hb sc_heap_of rfl fun cdv A outer s H E hr => (ss_cons (sc_exp (se_call c_require_chain takes_def (hr.mono (by decide)) (by rfl) (sa_cons (se_var (pv 0)) sa_nil rfl) (by decide) rfl rfl) rfl)
      (ss_cons (sc_exp (se_call c_require_tuple takes_def (hr.mono (by decide)) (by rfl) (sa_cons (se_var (pv 0)) (sa_cons (se_var (pv 1)) sa_nil rfl) rfl) (by decide) rfl rfl) rfl)
      (ss_one (sc_ret (se_call c_heap_in takes_def (hr.mono (by decide)) (by rfl) (sa_cons (se_var (pv 0)) (sa_cons (se_var (pv 1)) sa_nil rfl) rfl) (by decide) rfl rfl)))))
theorem k__law_grown {f : Addr} {fd : FuncData} (T : Tops P K mg) (F : L2.Fun K "_law_grown" "_law_grown" st__law_grown f fd) (gF : mg "_law_grown" = some (.ref f)) (hb : Binds K fd ["_law_heap_here", "_law_ring_here", "_law_x"] [])  : Cal P w K mg base "_law_grown" 3 1 m__law_grown :=
  cal_of F gF hb sc__law_grown rfl fun cdv A outer s H E hr => (ss_cons (sc_asg (se_var (pv 1)) (sg_tup (W := _) (fun _ h => pg_tup rfl h) (sgs_cons (W := _) (sg_name (W := _) (pg_name sc__law_grown.nd rfl (by first | exact Or.inl rfl | exact Or.inr rfl))) (sgs_cons (W := _) (sg_name (W := _) (pg_name sc__law_grown.nd rfl (by first | exact Or.inl rfl | exact Or.inr rfl))) (sgs_nil (W := _)) rfl) rfl) (fun _ _ _ q => gsC_len (fun _ _ _ q => gsC_len (fun _ _ _ q => gsN_len q) q) q)) rfl rfl rfl)
      (ss_cons (sc_set (ps_set (i := 3) sc__law_grown.nd rfl (by first | exact Or.inl rfl | exact Or.inr rfl) (se_C (sl_ls (pe_callTy call_list_of (by rfl) T.b_list PyProof.Rows.boot_list (sa_cons (se_var (pv 0)) sa_nil rfl))))))
      (ss_cons (sc_for (passes_of rfl) rfl (si_r1 (pi_range1 (by rfl) T.b_range (sa_cons (se_op or_add op_dAdd (se_bi op_dLen (pe_callB call_len_seq (by rfl) T.b_len PySem.boot_len (sa_cons (se_var (pv 0)) sa_nil rfl))) se_int) sa_nil rfl))) (sg_name (W := _) (pg_name sc__law_grown.nd rfl (by first | exact Or.inl rfl | exact Or.inr rfl))) (ss_cons (sc_set (ps_set (i := 7) sc__law_grown.nd rfl (by first | exact Or.inl rfl | exact Or.inr rfl) (se_if (sb_cmp op_lt op_dLt (se_var (pv 4)) (se_bi op_dLen (pe_callB call_len_seq (by rfl) T.b_len PySem.boot_len (sa_cons (se_var (pv 0)) sa_nil rfl))) (nomark _)) (se_sub ix_any op_dIx (se_var (pv 0)) (se_var (pv 4)) (fun _ _ => rfl)) se_int)))
      (ss_cons (sc_set (ps_set (i := 8) sc__law_grown.nd rfl (by first | exact Or.inl rfl | exact Or.inr rfl) (se_or (se_cmp (op_eqD hr.units) op_dEq (se_var (pv 4)) se_int (nomark _)) (se_one (se_cmp op_gt op_dGt (se_sub ix_any op_dIx (se_var (pv 0)) (se_op op_sub op_dSub (se_var (pv 4)) se_int) (fun _ _ => rfl)) (se_var (pv 7)) (nomark _))))))
      (ss_one (sc_if (sb_w (sw_and (sb_val (se_var (pv 8)) (fun _ => rfl)) (sw_and1 (sb_cmp (op_eqD hr.units) op_dEq (se_op op_mod op_dMod (se_op op_sub op_dSub (se_op (op_mulW.or (op_repT.or op_rep1)) op_dMulA (se_op op_sub op_dSub (se_var (pv 4)) (se_var (pv 7))) (se_var (pv 6))) (se_var (pv 2))) (se_var (pv 5))) se_int (nomark _))))) (ss_one (sc_if (sb_cmp op_lt op_dLt (se_var (pv 4)) (se_bi op_dLen (pe_callB call_len_seq (by rfl) T.b_len PySem.boot_len (sa_cons (se_var (pv 0)) sa_nil rfl))) (nomark _)) (ss_one (sc_seti (ps_asg (se_op or_add op_dAdd (se_var (pv 7)) se_int) (pg_sub (se_var (pv 3)) (se_var (pv 4)) set_list)))) (ss_one (sc_exp (se_m op_mAppend (pe_bm PySem.F.plainAttrs_list PySem.F.slot_list_append PySem.F.type_list_append mt_append (se_var (pv 3)) (sa_cons se_int sa_nil rfl))) rfl)))) ss_nil)))) (by intro _; rfl))
      (ss_one (sc_ret (se_bi op_dTuple (pe_callTy call_tuple_of (by rfl) T.b_tuple PyProof.Rows.boot_tuple (sa_cons (se_var (pv 3)) sa_nil rfl))))))))
theorem k__law_heap {f : Addr} {fd : FuncData} (T : Tops P K mg) (F : L2.Fun K "_law_heap" "_law_heap" st__law_heap f fd) (gF : mg "_law_heap" = some (.ref f)) (hb : Binds K fd ["_law_chain_here", "_law_x"] []) (c__law_grown : Cal P w K mg base "_law_grown" 3 1 m__law_grown) : Cal P w K mg base "_law_heap" 2 2 m__law_heap :=
  cal_of F gF hb sc__law_heap rfl fun cdv A outer s H E hr => (ss_cons (sc_set (ps_set (i := 2) sc__law_heap.nd rfl (by first | exact Or.inl rfl | exact Or.inr rfl) (se_tup sa_nil)))
      (ss_cons (sc_for (passes_of rfl) rfl (si_zip (RZ.pi_zipA (by rfl) T.b_zip (sa_cons (se_var (pv 0)) (sa_cons (se_var (pv 1)) sa_nil rfl) rfl))) (sg_tup (W := _) (fun _ h => pg_tup rfl h) (sgs_cons (W := _) (sg_name (W := _) (pg_name sc__law_heap.nd rfl (by first | exact Or.inl rfl | exact Or.inr rfl))) (sgs_cons (W := _) (sg_name (W := _) (pg_name sc__law_heap.nd rfl (by first | exact Or.inl rfl | exact Or.inr rfl))) (sgs_nil (W := _)) rfl) rfl) (fun _ _ _ q => gsC_len (fun _ _ _ q => gsC_len (fun _ _ _ q => gsN_len q) q) q)) (ss_one (sc_set (ps_set (i := 2) sc__law_heap.nd rfl (by first | exact Or.inl rfl | exact Or.inr rfl) (se_call c__law_grown takes_def (hr.mono (by decide)) (by rfl) (sa_cons (se_var (pv 2)) (sa_cons (se_var (pv 3)) (sa_cons (se_var (pv 4)) sa_nil rfl) rfl) rfl) (by decide) rfl rfl)))) (by intro _; rfl))
      (ss_one (sc_ret (se_var (pv 2))))))
theorem k__law_some_added {f : Addr} {fd : FuncData} (T : Tops P K mg) (F : L2.Fun K "_law_some_added" "_law_some_added" st__law_some_added f fd) (gF : mg "_law_some_added" = some (.ref f)) (hb : Binds K fd ["_law_dice_here", "_law_heap_here", "_law_ring_here", "_law_place"] []) (c__law_roll : Cal P w K mg base "_law_roll" 2 1 m__law_roll) : Cal P w K mg base "_law_some_added" 4 2 m__law_some_added :=
  cal_of F gF hb sc__law_some_added rfl fun cdv A outer s H E hr => (ss_cons (sc_asg (se_var (pv 2)) (sg_tup (W := _) (fun _ h => pg_tup rfl h) (sgs_cons (W := _) (sg_name (W := _) (pg_name sc__law_some_added.nd rfl (by first | exact Or.inl rfl | exact Or.inr rfl))) (sgs_cons (W := _) (sg_name (W := _) (pg_name sc__law_some_added.nd rfl (by first | exact Or.inl rfl | exact Or.inr rfl))) (sgs_nil (W := _)) rfl) rfl) (fun _ _ _ q => gsC_len (fun _ _ _ q => gsC_len (fun _ _ _ q => gsN_len q) q) q)) rfl rfl rfl)
      (ss_cons (sc_set (ps_set (i := 4) sc__law_some_added.nd rfl (by first | exact Or.inl rfl | exact Or.inr rfl) (se_C (sl_ls (pe_callTy call_list_of (by rfl) T.b_list PyProof.Rows.boot_list (sa_cons (se_var (pv 1)) sa_nil rfl))))))
      (ss_cons (sc_for (passes_of rfl) rfl (si_r1 (pi_range1 (by rfl) T.b_range (sa_cons (se_op or_add op_dAdd (se_bi op_dLen (pe_callB call_len_seq (by rfl) T.b_len PySem.boot_len (sa_cons (se_var (pv 1)) sa_nil rfl))) se_int) sa_nil rfl))) (sg_name (W := _) (pg_name sc__law_some_added.nd rfl (by first | exact Or.inl rfl | exact Or.inr rfl))) (ss_cons (sc_set (ps_set (i := 8) sc__law_some_added.nd rfl (by first | exact Or.inl rfl | exact Or.inr rfl) (se_if (sb_cmp op_lt op_dLt (se_var (pv 5)) (se_bi op_dLen (pe_callB call_len_seq (by rfl) T.b_len PySem.boot_len (sa_cons (se_var (pv 1)) sa_nil rfl))) (nomark _)) (se_sub ix_any op_dIx (se_var (pv 1)) (se_var (pv 5)) (fun _ _ => rfl)) se_int)))
      (ss_cons (sc_set (ps_set (i := 9) sc__law_some_added.nd rfl (by first | exact Or.inl rfl | exact Or.inr rfl) (se_or (se_cmp (op_eqD hr.units) op_dEq (se_var (pv 5)) se_int (nomark _)) (se_one (se_cmp op_gt op_dGt (se_sub ix_any op_dIx (se_var (pv 1)) (se_op op_sub op_dSub (se_var (pv 5)) se_int) (fun _ _ => rfl)) (se_var (pv 8)) (nomark _))))))
      (ss_one (sc_if (sb_w (sw_and (sb_val (se_var (pv 9)) (fun _ => rfl)) (sw_and (sb_cmp (op_eqD hr.units) op_dEq (se_op op_mod op_dMod (se_op op_sub op_dSub (se_op (op_mulW.or (op_repT.or op_rep1)) op_dMulA (se_op op_sub op_dSub (se_var (pv 5)) (se_var (pv 8))) (se_var (pv 7))) (se_var (pv 3))) (se_var (pv 6))) se_int (nomark _)) (sw_and1 (sb_cmp op_gt op_dGt (se_call c__law_roll takes_def (hr.mono (by decide)) (by rfl) (sa_cons (se_var (pv 0)) (sa_cons se_int sa_nil rfl) rfl) (by decide) rfl rfl) se_int (nomark _)))))) (ss_one (sc_if (sb_cmp op_lt op_dLt (se_var (pv 5)) (se_bi op_dLen (pe_callB call_len_seq (by rfl) T.b_len PySem.boot_len (sa_cons (se_var (pv 1)) sa_nil rfl))) (nomark _)) (ss_one (sc_seti (ps_asg (se_op or_add op_dAdd (se_var (pv 8)) se_int) (pg_sub (se_var (pv 4)) (se_var (pv 5)) set_list)))) (ss_one (sc_exp (se_m op_mAppend (pe_bm PySem.F.plainAttrs_list PySem.F.slot_list_append PySem.F.type_list_append mt_append (se_var (pv 4)) (sa_cons se_int sa_nil rfl))) rfl)))) ss_nil)))) (by intro _; rfl))
      (ss_one (sc_ret (se_bi op_dTuple (pe_callTy call_tuple_of (by rfl) T.b_tuple PyProof.Rows.boot_tuple (sa_cons (se_var (pv 4)) sa_nil rfl))))))))
theorem k__law_held {f : Addr} {fd : FuncData} (T : Tops P K mg) (F : L2.Fun K "_law_held" "_law_held" st__law_held f fd) (gF : mg "_law_held" = some (.ref f)) (hb : Binds K fd ["_law_one", "_law_other"] [])  : Cal P w K mg base "_law_held" 2 1 m__law_held :=
  cal_of F gF hb sc__law_held rfl fun cdv A outer s H E hr => (ss_one (sc_ret (se_and (se_cmp op_le op_dLe (se_bi op_dLen (pe_callB call_len_seq (by rfl) T.b_len PySem.boot_len (sa_cons (se_var (pv 1)) sa_nil rfl))) (se_bi op_dLen (pe_callB call_len_seq (by rfl) T.b_len PySem.boot_len (sa_cons (se_var (pv 0)) sa_nil rfl))) (nomark _)) (se_one (se_cmp (op_eqD hr.units) op_dEq (se_F (sl_lc (by decide) (gT_len (gsC_lenE (gN_len _) (gsC_lenE (gN_len _) (gsN_lenE)))) (pe_lc (own := [("_law_left", 2), ("_law_right", 3)]) (g := gG _ _ none (gT (gsC (gN 2) (gsC (gN 3) (gsN))))) rfl sc__law_held.nd (si_zip (RZ.pi_zipA (by rfl) T.b_zip (sa_cons (se_var (pv 0)) (sa_cons (se_var (pv 1)) sa_nil rfl) rfl))) (blkOk_by (N := N__law_held) (sc := defScope st__law_held) (by decide +kernel)) (fun _ _ _ _ _ => (sg_tup (W := W0) (fun _ h => pg_tup rfl h) (sgs_cons (W := W0) (sg_name (W := W0) (pg_name sc__law_held.nd rfl (by first | exact Or.inl rfl | exact Or.inr rfl))) (sgs_cons (W := W0) (sg_name (W := W0) (pg_name sc__law_held.nd rfl (by first | exact Or.inl rfl | exact Or.inr rfl))) (sgs_nil (W := W0)) rfl) rfl) (fun _ _ _ q => gsC_len (fun _ _ _ q => gsC_len (fun _ _ _ q => gsN_len q) q) q))) (fun _ _ _ _ _ => (pts_one (sb_cmp op_lt op_dLt (se_var (pv 2)) (se_var (pv 3)) (nomark _)))) (fun _ _ _ _ _ => se_int)))) (se_F (sl_lst sa_nil)) (nomark _))))))
theorem k__law_meet_of {f : Addr} {fd : FuncData} (T : Tops P K mg) (F : L2.Fun K "_law_meet_of" "_law_meet_of" st__law_meet_of f fd) (gF : mg "_law_meet_of" = some (.ref f)) (hb : Binds K fd ["_law_one", "_law_other"] [])  : Cal P w K mg base "_law_meet_of" 2 1 m__law_meet_of :=
  cal_of F gF hb sc__law_meet_of rfl fun cdv A outer s H E hr => (ss_one (sc_ret (se_bi op_dTuple (pe_callTy call_tuple_of (by rfl) T.b_tuple PyProof.Rows.boot_tuple (sa_cons (se_F (sl_lc (by decide) (gT_len (gsC_lenE (gN_len _) (gsC_lenE (gN_len _) (gsN_lenE)))) (pe_lc (own := [("_law_left", 2), ("_law_right", 3)]) (g := gG _ _ none (gT (gsC (gN 2) (gsC (gN 3) (gsN))))) rfl sc__law_meet_of.nd (si_zip (RZ.pi_zipA (by rfl) T.b_zip (sa_cons (se_var (pv 0)) (sa_cons (se_var (pv 1)) sa_nil rfl) rfl))) (blkOk_by (N := N__law_meet_of) (sc := defScope st__law_meet_of) (by decide +kernel)) (fun _ _ _ _ _ => (sg_tup (W := W0) (fun _ h => pg_tup rfl h) (sgs_cons (W := W0) (sg_name (W := W0) (pg_name sc__law_meet_of.nd rfl (by first | exact Or.inl rfl | exact Or.inr rfl))) (sgs_cons (W := W0) (sg_name (W := W0) (pg_name sc__law_meet_of.nd rfl (by first | exact Or.inl rfl | exact Or.inr rfl))) (sgs_nil (W := W0)) rfl) rfl) (fun _ _ _ q => gsC_len (fun _ _ _ q => gsC_len (fun _ _ _ q => gsN_len q) q) q))) (fun _ _ _ _ _ => st_nil) (fun _ _ _ _ _ => (se_bi op_dMin2 (pe_callB (call_min2 rfl) (by rfl) T.b_min PyProof.Rows.boot_min (sa_cons (se_var (pv 2)) (sa_cons (se_var (pv 3)) sa_nil rfl) rfl))))))) sa_nil rfl)))))
theorem k__law_growth_right {f : Addr} {fd : FuncData} (T : Tops P K mg) (F : L2.Fun K "_law_growth_right" "_law_growth_right" st__law_growth_right f fd) (gF : mg "_law_growth_right" = some (.ref f)) (hb : Binds K fd ["_law_dice_here", "_law_chain_here", "_law_x"] []) (c_is_held : Cal P w K mg base "is_held" 2 6 m_is_held) (c_common_of : Cal P w K mg base "common_of" 2 6 m_common_of) (c_grown : Cal P w K mg base "grown" 3 5 m_grown) (c_heap_of : Cal P w K mg base "heap_of" 2 6 m_heap_of) (c__law_roll : Cal P w K mg base "_law_roll" 2 1 m__law_roll) (c__law_grown : Cal P w K mg base "_law_grown" 3 1 m__law_grown) (c__law_heap : Cal P w K mg base "_law_heap" 2 2 m__law_heap) (c__law_some_added : Cal P w K mg base "_law_some_added" 4 2 m__law_some_added) (c__law_held : Cal P w K mg base "_law_held" 2 1 m__law_held) (c__law_meet_of : Cal P w K mg base "_law_meet_of" 2 1 m__law_meet_of) : Cal P w K mg base "_law_growth_right" 3 7 m__law_growth_right :=
  cal_of F gF hb sc__law_growth_right rfl fun cdv A outer s H E hr => (ss_cons (sc_asg (se_tup (sa_cons (se_tup sa_nil) (sa_cons (se_tup sa_nil) (sa_cons (se_tup sa_nil) sa_nil rfl) rfl) rfl)) (sg_tup (W := _) (fun _ h => pg_tup rfl h) (sgs_cons (W := _) (sg_name (W := _) (pg_name sc__law_growth_right.nd rfl (by first | exact Or.inl rfl | exact Or.inr rfl))) (sgs_cons (W := _) (sg_name (W := _) (pg_name sc__law_growth_right.nd rfl (by first | exact Or.inl rfl | exact Or.inr rfl))) (sgs_cons (W := _) (sg_name (W := _) (pg_name sc__law_growth_right.nd rfl (by first | exact Or.inl rfl | exact Or.inr rfl))) (sgs_nil (W := _)) rfl) rfl) rfl) (fun _ _ _ q => gsC_len (fun _ _ _ q => gsC_len (fun _ _ _ q => gsC_len (fun _ _ _ q => gsN_len q) q) q) q)) rfl rfl rfl)
      (ss_cons (sc_for (passes_of rfl) rfl (si_zip (RZ.pi_zipA (by rfl) T.b_zip (sa_cons (se_var (pv 1)) (sa_cons (se_var (pv 2)) sa_nil rfl) rfl))) (sg_tup (W := _) (fun _ h => pg_tup rfl h) (sgs_cons (W := _) (sg_name (W := _) (pg_name sc__law_growth_right.nd rfl (by first | exact Or.inl rfl | exact Or.inr rfl))) (sgs_cons (W := _) (sg_name (W := _) (pg_name sc__law_growth_right.nd rfl (by first | exact Or.inl rfl | exact Or.inr rfl))) (sgs_nil (W := _)) rfl) rfl) (fun _ _ _ q => gsC_len (fun _ _ _ q => gsC_len (fun _ _ _ q => gsN_len q) q) q)) (ss_cons (sc_par (ps_par (i := 4) (j := 10) rfl sc__law_growth_right.nd rfl rfl (by decide) rfl rfl (sa_cons (se_call c__law_some_added takes_def (hr.mono (by decide)) (by rfl) (sa_cons (se_var (pv 0)) (sa_cons (se_var (pv 4)) (sa_cons (se_var (pv 7)) (sa_cons (se_var (pv 8)) sa_nil rfl) rfl) rfl) rfl) (by decide) rfl rfl) (sa_cons (se_call c__law_roll takes_def (hr.mono (by decide)) (by rfl) (sa_cons (se_var (pv 0)) (sa_cons (se_sub ix_any op_dIx (se_var (pv 7)) se_int (fun _ _ => rfl)) sa_nil rfl) rfl) (by decide) rfl rfl) sa_nil rfl) rfl) rfl))
      (ss_cons (sc_par (ps_par (i := 5) (j := 6) rfl sc__law_growth_right.nd rfl rfl (by decide) rfl rfl (sa_cons (se_call c__law_grown takes_def (hr.mono (by decide)) (by rfl) (sa_cons (se_var (pv 5)) (sa_cons (se_var (pv 7)) (sa_cons (se_var (pv 10)) sa_nil rfl) rfl) rfl) (by decide) rfl rfl) (sa_cons (se_call c__law_some_added takes_def (hr.mono (by decide)) (by rfl) (sa_cons (se_var (pv 0)) (sa_cons (se_var (pv 6)) (sa_cons (se_var (pv 7)) (sa_cons (se_var (pv 8)) sa_nil rfl) rfl) rfl) rfl) (by decide) rfl rfl) sa_nil rfl) rfl) rfl))
      (ss_cons (sc_set (ps_set (i := 9) sc__law_growth_right.nd rfl (by first | exact Or.inl rfl | exact Or.inr rfl) (se_call c_grown takes_def (hr.mono (by decide)) (by rfl) (sa_cons (se_call c_common_of takes_def (hr.mono (by decide)) (by rfl) (sa_cons (se_var (pv 5)) (sa_cons (se_var (pv 6)) sa_nil rfl) rfl) (by decide) rfl rfl) (sa_cons (se_var (pv 7)) (sa_cons (se_var (pv 8)) sa_nil rfl) rfl) rfl) (by decide) rfl rfl)))
      (ss_cons (sc_if (sb_cmp (op_neD hr.units) op_dNe (se_var (pv 9)) (se_call c_common_of takes_def (hr.mono (by decide)) (by rfl) (sa_cons (se_call c_grown takes_def (hr.mono (by decide)) (by rfl) (sa_cons (se_var (pv 5)) (sa_cons (se_var (pv 7)) (sa_cons (se_var (pv 8)) sa_nil rfl) rfl) rfl) (by decide) rfl rfl) (sa_cons (se_call c_grown takes_def (hr.mono (by decide)) (by rfl) (sa_cons (se_var (pv 6)) (sa_cons (se_var (pv 7)) (sa_cons (se_var (pv 8)) sa_nil rfl) rfl) rfl) (by decide) rfl rfl) sa_nil rfl) rfl) (by decide) rfl rfl) (nomark _)) (ss_one (sc_ret se_bl)) ss_nil)
      (ss_one (sc_if (sb_cmp (op_neD hr.units) op_dNe (se_var (pv 9)) (se_call c__law_meet_of takes_def (hr.mono (by decide)) (by rfl) (sa_cons (se_call c__law_grown takes_def (hr.mono (by decide)) (by rfl) (sa_cons (se_var (pv 5)) (sa_cons (se_var (pv 7)) (sa_cons (se_var (pv 8)) sa_nil rfl) rfl) rfl) (by decide) rfl rfl) (sa_cons (se_call c__law_grown takes_def (hr.mono (by decide)) (by rfl) (sa_cons (se_var (pv 6)) (sa_cons (se_var (pv 7)) (sa_cons (se_var (pv 8)) sa_nil rfl) rfl) rfl) (by decide) rfl rfl) sa_nil rfl) rfl) (by decide) rfl rfl) (nomark _)) (ss_one (sc_ret se_bl)) ss_nil)))))) (by intro _; rfl))
      (ss_cons (sc_set (ps_set (i := 3) sc__law_growth_right.nd rfl (by first | exact Or.inl rfl | exact Or.inr rfl) (se_call c_heap_of takes_def (hr.mono (by decide)) (by rfl) (sa_cons (se_var (pv 1)) (sa_cons (se_var (pv 2)) sa_nil rfl) rfl) (by decide) rfl rfl)))
      (ss_one (sc_ret (se_and (se_call c_is_held takes_def (hr.mono (by decide)) (by rfl) (sa_cons (se_var (pv 3)) (sa_cons (se_var (pv 4)) sa_nil rfl) rfl) (by decide) rfl rfl) (se_and (se_call c_is_held takes_def (hr.mono (by decide)) (by rfl) (sa_cons (se_var (pv 3)) (sa_cons (se_var (pv 6)) sa_nil rfl) rfl) (by decide) rfl rfl) (se_and (se_call c__law_held takes_def (hr.mono (by decide)) (by rfl) (sa_cons (se_var (pv 3)) (sa_cons (se_var (pv 4)) sa_nil rfl) rfl) (by decide) rfl rfl) (se_one (se_cmp (op_eqD hr.units) op_dEq (se_var (pv 3)) (se_call c__law_heap takes_def (hr.mono (by decide)) (by rfl) (sa_cons (se_var (pv 1)) (sa_cons (se_var (pv 2)) sa_nil rfl) rfl) (by decide) rfl rfl) (nomark _)))))))))))
theorem k_is_integer {f : Addr} {fd : FuncData} (T : Tops P K mg) (F : L2.Fun K "is_integer" "is_integer" st_is_integer f fd) (gF : mg "is_integer" = some (.ref f)) (hb : Binds K fd ["value"] []) (c_is_whole : Cal P w K mg base "is_whole" 1 1 m_is_whole) : Cal P w K mg base "is_integer" 1 2 m_is_integer :=
  cal_of F gF hb sc_is_integer rfl fun cdv A outer s H E hr => (ss_one (sc_ret (se_and (se_call c_is_whole takes_def (hr.mono (by decide)) (by rfl) (sa_cons (se_var (pv 0)) sa_nil rfl) (by decide) rfl rfl) (se_one (se_cmp op_lt op_dLt (se_bi op_dAbs (pe_callB call_abs (by rfl) T.b_abs PyProof.Rows.boot_abs (sa_cons (se_var (pv 0)) sa_nil rfl))) (se_gintE rfl T.c_SIXTY_DIGITS (by decide)) (nomark _))))))
theorem k_require_integer {f : Addr} {fd : FuncData} (T : Tops P K mg) (F : L2.Fun K "require_integer" "require_integer" st_require_integer f fd) (gF : mg "require_integer" = some (.ref f)) (hb : Binds K fd ["value"] []) (c_is_integer : Cal P w K mg base "is_integer" 1 2 m_is_integer) : Cal P w K mg base "require_integer" 1 3 m_require_integer :=
  cal_of F gF hb sc_require_integer rfl fun cdv A outer s H E hr => (ss_one (sc_if (sb_not (sb_val (se_call c_is_integer takes_def (hr.mono (by decide)) (by rfl) (sa_cons (se_var (pv 0)) sa_nil rfl) (by decide) rfl rfl) (fun _ => rfl))) (ss_one sc_stop) ss_nil))
theorem k_moved_ends_in {f : Addr} {fd : FuncData} (T : Tops P K mg) (F : L2.Fun K "moved_ends_in" "moved_ends_in" st_moved_ends_in f fd) (gF : mg "moved_ends_in" = some (.ref f)) (hb : Binds K fd ["chain", "degree", "places", "a", "b"] [])  : Cal P w K mg base "moved_ends_in" 5 1 m_moved_ends_in :=
  cal_of F gF hb sc_moved_ends_in rfl fun cdv A outer s H E hr => (ss_cons (by first | exact sc_setL (fun _ _ _ q => goLc (by decide) (gT_len (gsC_lenE (gT_len (gsC_lenE (gN_len _) (gsC_lenE (gN_len _) (gsN_lenE)))) (gsC_lenE (gN_len _) (gsN_lenE)))) (goF q)) (ps_setLc (i := 5) (own := [("place", 6), ("size", 7), ("door", 8)]) (g := gG _ _ none (gT (gsC (gT (gsC (gN 7) (gsC (gN 8) (gsN)))) (gsC (gN 6) (gsN))))) rfl sc_moved_ends_in.nd rfl rfl (sw_true rfl rfl rfl (by decide +kernel)) (si_zip (RZ.pi_zipA (by rfl) T.b_zip (sa_cons (se_var (pv 0)) (sa_cons (se_var (pv 2)) sa_nil rfl) rfl))) (blkOk_by (N := N_moved_ends_in) (sc := defScope st_moved_ends_in) (by decide +kernel)) (fun _ _ _ _ _ => (sg_tup (W := W0) (fun _ h => pg_tup rfl h) (sgs_cons (W := W0) (sg_tup (W := W0) (fun _ h => pg_tup rfl h) (sgs_cons (W := W0) (sg_name (W := W0) (pg_name sc_moved_ends_in.nd rfl (by first | exact Or.inl rfl | exact Or.inr rfl))) (sgs_cons (W := W0) (sg_name (W := W0) (pg_name sc_moved_ends_in.nd rfl (by first | exact Or.inl rfl | exact Or.inr rfl))) (sgs_nil (W := W0)) rfl) rfl) (fun _ _ _ q => gsC_len (fun _ _ _ q => gsC_len (fun _ _ _ q => gsN_len q) q) q)) (sgs_cons (W := W0) (sg_name (W := W0) (pg_name sc_moved_ends_in.nd rfl (by first | exact Or.inl rfl | exact Or.inr rfl))) (sgs_nil (W := W0)) rfl) rfl) (fun _ _ _ q => gsC_len (fun _ _ _ q => gsC_len (fun _ _ _ q => gsN_len q) q) q))) (fun _ _ _ _ _ => st_nil) (fun _ _ _ _ _ => (se_op op_mod op_dMod (se_op or_add op_dAdd (se_var (pv 6)) (se_op (op_mulW.or (op_repT.or op_rep1)) op_dMulA (se_var (pv 3)) (se_var (pv 8)))) (se_var (pv 7))))) | exact sc_set (ps_set (i := 5) sc_moved_ends_in.nd rfl (by first | exact Or.inl rfl | exact Or.inr rfl) (se_F (sl_lc (by decide) (gT_len (gsC_lenE (gT_len (gsC_lenE (gN_len _) (gsC_lenE (gN_len _) (gsN_lenE)))) (gsC_lenE (gN_len _) (gsN_lenE)))) (pe_lc (own := [("place", 6), ("size", 7), ("door", 8)]) (g := gG _ _ none (gT (gsC (gT (gsC (gN 7) (gsC (gN 8) (gsN)))) (gsC (gN 6) (gsN))))) rfl sc_moved_ends_in.nd (si_zip (RZ.pi_zipA (by rfl) T.b_zip (sa_cons (se_var (pv 0)) (sa_cons (se_var (pv 2)) sa_nil rfl) rfl))) (blkOk_by (N := N_moved_ends_in) (sc := defScope st_moved_ends_in) (by decide +kernel)) (fun _ _ _ _ _ => (sg_tup (W := W0) (fun _ h => pg_tup rfl h) (sgs_cons (W := W0) (sg_tup (W := W0) (fun _ h => pg_tup rfl h) (sgs_cons (W := W0) (sg_name (W := W0) (pg_name sc_moved_ends_in.nd rfl (by first | exact Or.inl rfl | exact Or.inr rfl))) (sgs_cons (W := W0) (sg_name (W := W0) (pg_name sc_moved_ends_in.nd rfl (by first | exact Or.inl rfl | exact Or.inr rfl))) (sgs_nil (W := W0)) rfl) rfl) (fun _ _ _ q => gsC_len (fun _ _ _ q => gsC_len (fun _ _ _ q => gsN_len q) q) q)) (sgs_cons (W := W0) (sg_name (W := W0) (pg_name sc_moved_ends_in.nd rfl (by first | exact Or.inl rfl | exact Or.inr rfl))) (sgs_nil (W := W0)) rfl) rfl) (fun _ _ _ q => gsC_len (fun _ _ _ q => gsC_len (fun _ _ _ q => gsN_len q) q) q))) (fun _ _ _ _ _ => st_nil) (fun _ _ _ _ _ => (se_op op_mod op_dMod (se_op or_add op_dAdd (se_var (pv 6)) (se_op (op_mulW.or (op_repT.or op_rep1)) op_dMulA (se_var (pv 3)) (se_var (pv 8)))) (se_var (pv 7)))))))))
      (ss_one (sc_ret (se_tup (sa_cons (se_op or_add op_dAdd (se_op or_add op_dAdd (se_var (pv 1)) (se_var (pv 3))) (se_var (pv 4))) (sa_cons (se_bi op_dTuple (pe_callTy call_tuple_of (by rfl) T.b_tuple PyProof.Rows.boot_tuple (sa_cons (se_var (pv 5)) sa_nil rfl))) sa_nil rfl) rfl)))))
theorem k_require_short_class {f : Addr} {fd : FuncData} (T : Tops P K mg) (F : L2.Fun K "require_short_class" "require_short_class" st_require_short_class f fd) (gF : mg "require_short_class" = some (.ref f)) (hb : Binds K fd ["found"] []) (c_is_integer : Cal P w K mg base "is_integer" 1 2 m_is_integer) : Cal P w K mg base "require_short_class" 1 3 m_require_short_class :=
  cal_of F gF hb sc_require_short_class rfl fun cdv A outer s H E hr => (ss_cons (sc_if (sb_not (sb_val (se_call c_is_integer takes_def (hr.mono (by decide)) (by rfl) (sa_cons (se_sub ix_any op_dIx (se_var (pv 0)) se_int (fun _ _ => rfl)) sa_nil rfl) (by decide) rfl rfl) (fun _ => rfl))) (ss_one sc_stop) ss_nil)
      (ss_one (sc_ret (se_var (pv 0)))))
theorem k_is_class_in {f : Addr} {fd : FuncData} (T : Tops P K mg) (F : L2.Fun K "is_class_in" "is_class_in" st_is_class_in f fd) (gF : mg "is_class_in" = some (.ref f)) (hb : Binds K fd ["chain", "value"] []) (c_is_integer : Cal P w K mg base "is_integer" 1 2 m_is_integer) (c_is_tuple_in : Cal P w K mg base "is_tuple_in" 2 3 m_is_tuple_in) : Cal P w K mg base "is_class_in" 2 4 m_is_class_in :=
  cal_of F gF hb sc_is_class_in rfl fun cdv A outer s H E hr => (ss_one (sc_ret (se_and (se_bi op_dIsi (pe_callB call_isi (by rfl) T.b_isinstance PyProof.Rows.boot_isinstance (sa_cons (se_var (pv 1)) (sa_cons (se_ty (pe_bltn (by rfl) T.b_tuple (by decide +kernel) rfl)) sa_nil rfl) rfl))) (se_and (se_cmp (op_eqD hr.units) op_dEq (se_bi op_dLen (pe_callB call_len_seq (by rfl) T.b_len PySem.boot_len (sa_cons (se_var (pv 1)) sa_nil rfl))) se_int (nomark _)) (se_and (se_call c_is_integer takes_def (hr.mono (by decide)) (by rfl) (sa_cons (se_sub ix_any op_dIx (se_var (pv 1)) se_int (fun _ _ => rfl)) sa_nil rfl) (by decide) rfl rfl) (se_one (se_call c_is_tuple_in takes_def (hr.mono (by decide)) (by rfl) (sa_cons (se_var (pv 0)) (sa_cons (se_sub ix_any op_dIx (se_var (pv 1)) se_int (fun _ _ => rfl)) sa_nil rfl) rfl) (by decide) rfl rfl)))))))
theorem k_require_class {f : Addr} {fd : FuncData} (T : Tops P K mg) (F : L2.Fun K "require_class" "require_class" st_require_class f fd) (gF : mg "require_class" = some (.ref f)) (hb : Binds K fd ["chain", "value"] []) (c_is_class_in : Cal P w K mg base "is_class_in" 2 4 m_is_class_in) : Cal P w K mg base "require_class" 2 5 m_require_class :=
  cal_of F gF hb sc_require_class rfl fun cdv A outer s H E hr => (ss_one (sc_if (sb_not (sb_val (se_call c_is_class_in takes_def (hr.mono (by decide)) (by rfl) (sa_cons (se_var (pv 0)) (sa_cons (se_var (pv 1)) sa_nil rfl) rfl) (by decide) rfl rfl) (fun _ => rfl))) (ss_one sc_stop) ss_nil))
theorem k_class_with_ends {f : Addr} {fd : FuncData} (T : Tops P K mg) (F : L2.Fun K "class_with_ends" "class_with_ends" st_class_with_ends f fd) (gF : mg "class_with_ends" = some (.ref f)) (hb : Binds K fd ["chain", "one", "a", "b"] []) (c_require_chain : Cal P w K mg base "require_chain" 1 5 m_require_chain) (c_require_integer : Cal P w K mg base "require_integer" 1 3 m_require_integer) (c_moved_ends_in : Cal P w K mg base "moved_ends_in" 5 1 m_moved_ends_in) (c_require_short_class : Cal P w K mg base "require_short_class" 1 3 m_require_short_class) (c_require_class : Cal P w K mg base "require_class" 2 5 m_require_class) : Cal P w K mg base "class_with_ends" 4 6 m_class_with_ends :=
  cal_of F gF hb sc_class_with_ends rfl fun cdv A outer s H E hr => (ss_cons (sc_exp (se_call c_require_chain takes_def (hr.mono (by decide)) (by rfl) (sa_cons (se_var (pv 0)) sa_nil rfl) (by decide) rfl rfl) rfl)
      (ss_cons (sc_exp (se_call c_require_class takes_def (hr.mono (by decide)) (by rfl) (sa_cons (se_var (pv 0)) (sa_cons (se_var (pv 1)) sa_nil rfl) rfl) (by decide) rfl rfl) rfl)
      (ss_cons (sc_exp (se_call c_require_integer takes_def (hr.mono (by decide)) (by rfl) (sa_cons (se_var (pv 2)) sa_nil rfl) (by decide) rfl rfl) rfl)
      (ss_cons (sc_exp (se_call c_require_integer takes_def (hr.mono (by decide)) (by rfl) (sa_cons (se_var (pv 3)) sa_nil rfl) (by decide) rfl rfl) rfl)
      (ss_one (sc_ret (se_call c_require_short_class takes_def (hr.mono (by decide)) (by rfl) (sa_cons (se_call c_moved_ends_in takes_def (hr.mono (by decide)) (by rfl) (sa_cons (se_var (pv 0)) (sa_cons (se_sub ix_any op_dIx (se_var (pv 1)) se_int (fun _ _ => rfl)) (sa_cons (se_sub ix_any op_dIx (se_var (pv 1)) se_int (fun _ _ => rfl)) (sa_cons (se_var (pv 2)) (sa_cons (se_var (pv 3)) sa_nil rfl) rfl) rfl) rfl) rfl) (by decide) rfl rfl) sa_nil rfl) (by decide) rfl rfl)))))))
theorem k__law_moved_right {f : Addr} {fd : FuncData} (T : Tops P K mg) (F : L2.Fun K "_law_moved_right" "_law_moved_right" st__law_moved_right f fd) (gF : mg "_law_moved_right" = some (.ref f)) (hb : Binds K fd ["_law_dice_here", "_law_chain_here", "_law_x"] []) (c_class_with_ends : Cal P w K mg base "class_with_ends" 4 6 m_class_with_ends) (c_is_held : Cal P w K mg base "is_held" 2 6 m_is_held) (c_grown : Cal P w K mg base "grown" 3 5 m_grown) (c_heap_of : Cal P w K mg base "heap_of" 2 6 m_heap_of) (c__law_roll : Cal P w K mg base "_law_roll" 2 1 m__law_roll) (c__law_one_of : Cal P w K mg base "_law_one_of" 2 2 m__law_one_of) (c__law_grown : Cal P w K mg base "_law_grown" 3 1 m__law_grown) : Cal P w K mg base "_law_moved_right" 3 7 m__law_moved_right :=
  cal_of F gF hb sc__law_moved_right rfl fun cdv A outer s H E hr => (ss_cons (sc_set (ps_set (i := 3) sc__law_moved_right.nd rfl (by first | exact Or.inl rfl | exact Or.inr rfl) (se_op op_sub op_dSub (se_call c__law_roll takes_def (hr.mono (by decide)) (by rfl) (sa_cons (se_var (pv 0)) (sa_cons se_int sa_nil rfl) rfl) (by decide) rfl rfl) se_int)))
      (ss_cons (sc_asg (se_call c_class_with_ends takes_def (hr.mono (by decide)) (by rfl) (sa_cons (se_var (pv 1)) (sa_cons (se_tup (sa_cons se_int (sa_cons (se_var (pv 2)) sa_nil rfl) rfl)) (sa_cons (se_var (pv 3)) (sa_cons se_int sa_nil rfl) rfl) rfl) rfl) (by decide) rfl rfl) (sg_tup (W := _) (fun _ h => pg_tup rfl h) (sgs_cons (W := _) (sg_name (W := _) (pg_name sc__law_moved_right.nd rfl (by first | exact Or.inl rfl | exact Or.inr rfl))) (sgs_cons (W := _) (sg_name (W := _) (pg_name sc__law_moved_right.nd rfl (by first | exact Or.inl rfl | exact Or.inr rfl))) (sgs_nil (W := _)) rfl) rfl) (fun _ _ _ q => gsC_len (fun _ _ _ q => gsC_len (fun _ _ _ q => gsN_len q) q) q)) rfl rfl rfl)
      (ss_cons (sc_if (sb_w (sw_or (sb_cmp (op_neD hr.units) op_dNe (se_var (pv 7)) (se_op or_add op_dAdd se_int (se_var (pv 3))) (nomark _)) (sw_or1 (sb_cmp (op_neD hr.units) op_dNe (se_var (pv 8)) (se_bi op_dTuple (pe_callTy call_tuple_of (by rfl) T.b_tuple PyProof.Rows.boot_tuple (sa_cons (se_F (sl_lc (by decide) (gT_len (gsC_lenE (gT_len (gsC_lenE (gN_len _) (gsC_lenE (gN_len _) (gsN_lenE)))) (gsC_lenE (gN_len _) (gsN_lenE)))) (pe_lc (own := [("_law_place", 9), ("_law_n", 15), ("_law_s", 16)]) (g := gG _ _ none (gT (gsC (gT (gsC (gN 15) (gsC (gN 16) (gsN)))) (gsC (gN 9) (gsN))))) rfl sc__law_moved_right.nd (si_zip (RZ.pi_zipA (by rfl) T.b_zip (sa_cons (se_var (pv 1)) (sa_cons (se_var (pv 2)) sa_nil rfl) rfl))) (blkOk_by (N := N__law_moved_right) (sc := defScope st__law_moved_right) (by decide +kernel)) (fun _ _ _ _ _ => (sg_tup (W := W0) (fun _ h => pg_tup rfl h) (sgs_cons (W := W0) (sg_tup (W := W0) (fun _ h => pg_tup rfl h) (sgs_cons (W := W0) (sg_name (W := W0) (pg_name sc__law_moved_right.nd rfl (by first | exact Or.inl rfl | exact Or.inr rfl))) (sgs_cons (W := W0) (sg_name (W := W0) (pg_name sc__law_moved_right.nd rfl (by first | exact Or.inl rfl | exact Or.inr rfl))) (sgs_nil (W := W0)) rfl) rfl) (fun _ _ _ q => gsC_len (fun _ _ _ q => gsC_len (fun _ _ _ q => gsN_len q) q) q)) (sgs_cons (W := W0) (sg_name (W := W0) (pg_name sc__law_moved_right.nd rfl (by first | exact Or.inl rfl | exact Or.inr rfl))) (sgs_nil (W := W0)) rfl) rfl) (fun _ _ _ q => gsC_len (fun _ _ _ q => gsC_len (fun _ _ _ q => gsN_len q) q) q))) (fun _ _ _ _ _ => st_nil) (fun _ _ _ _ _ => (se_op op_mod op_dMod (se_op or_add op_dAdd (se_var (pv 9)) (se_op (op_mulW.or (op_repT.or op_rep1)) op_dMulA (se_var (pv 3)) (se_var (pv 16)))) (se_var (pv 15))))))) sa_nil rfl))) (nomark _))))) (ss_one (sc_ret se_bl)) ss_nil)
      (ss_cons (sc_for (passes_of rfl) rfl (si_zip3 (SmX.pi_zip3 (by rfl) T.b_zip (sa_cons (se_var (pv 1)) (sa_cons (se_var (pv 2)) (sa_cons (se_var (pv 8)) sa_nil rfl) rfl) rfl))) (sg_tup (W := _) (fun _ h => pg_tup rfl h) (sgs_cons (W := _) (sg_tup (W := _) (fun _ h => pg_tup rfl h) (sgs_cons (W := _) (sg_name (W := _) (pg_name sc__law_moved_right.nd rfl (by first | exact Or.inl rfl | exact Or.inr rfl))) (sgs_cons (W := _) (sg_name (W := _) (pg_name sc__law_moved_right.nd rfl (by first | exact Or.inl rfl | exact Or.inr rfl))) (sgs_nil (W := _)) rfl) rfl) (fun _ _ _ q => gsC_len (fun _ _ _ q => gsC_len (fun _ _ _ q => gsN_len q) q) q)) (sgs_cons (W := _) (sg_name (W := _) (pg_name sc__law_moved_right.nd rfl (by first | exact Or.inl rfl | exact Or.inr rfl))) (sgs_cons (W := _) (sg_name (W := _) (pg_name sc__law_moved_right.nd rfl (by first | exact Or.inl rfl | exact Or.inr rfl))) (sgs_nil (W := _)) rfl) rfl) rfl) (fun _ _ _ q => gsC_len (fun _ _ _ q => gsC_len (fun _ _ _ q => gsC_len (fun _ _ _ q => gsN_len q) q) q) q)) (ss_cons (by first | exact sc_setL (fun _ _ _ q => goLc (by decide) (gN_len _) (goF q)) (ps_setLc (i := 11) (own := [("_law_c", 17)]) (g := gG _ _ none (gN 17)) rfl sc__law_moved_right.nd rfl rfl (sw_true rfl rfl rfl (by decide +kernel)) (si_r2 (pi_range2 (by rfl) T.b_range (sa_cons (se_un un_neg op_dNeg se_int) (sa_cons se_int sa_nil rfl) rfl))) (blkOk_by (N := N__law_moved_right) (sc := defScope st__law_moved_right) (by decide +kernel)) (fun _ _ _ _ _ => (sg_name (W := W0) (pg_name sc__law_moved_right.nd rfl (by first | exact Or.inl rfl | exact Or.inr rfl)))) (fun _ _ _ _ _ => (pts_one (sb_cmp (op_eqD hr.units) op_dEq (se_op op_mod op_dMod (se_op op_sub op_dSub (se_op (op_mulW.or (op_repT.or op_rep1)) op_dMulA (se_var (pv 17)) (se_var (pv 16))) (se_var (pv 9))) (se_var (pv 15))) se_int (nomark _)))) (fun _ _ _ _ _ => (se_var (pv 17)))) | exact sc_set (ps_set (i := 11) sc__law_moved_right.nd rfl (by first | exact Or.inl rfl | exact Or.inr rfl) (se_F (sl_lc (by decide) (gN_len _) (pe_lc (own := [("_law_c", 17)]) (g := gG _ _ none (gN 17)) rfl sc__law_moved_right.nd (si_r2 (pi_range2 (by rfl) T.b_range (sa_cons (se_un un_neg op_dNeg se_int) (sa_cons se_int sa_nil rfl) rfl))) (blkOk_by (N := N__law_moved_right) (sc := defScope st__law_moved_right) (by decide +kernel)) (fun _ _ _ _ _ => (sg_name (W := W0) (pg_name sc__law_moved_right.nd rfl (by first | exact Or.inl rfl | exact Or.inr rfl)))) (fun _ _ _ _ _ => (pts_one (sb_cmp (op_eqD hr.units) op_dEq (se_op op_mod op_dMod (se_op op_sub op_dSub (se_op (op_mulW.or (op_repT.or op_rep1)) op_dMulA (se_var (pv 17)) (se_var (pv 16))) (se_var (pv 9))) (se_var (pv 15))) se_int (nomark _)))) (fun _ _ _ _ _ => (se_var (pv 17))))))))
      (ss_one (sc_if (sb_cmp (op_neD hr.units) op_dNe (se_var (pv 11)) (se_F (sl_lc (by decide) (gN_len _) (pe_lc (own := [("_law_c", 17)]) (g := gG _ _ none (gN 17)) rfl sc__law_moved_right.nd (si_r2 (pi_range2 (by rfl) T.b_range (sa_cons (se_op op_sub op_dSub (se_var (pv 3)) se_int) (sa_cons (se_op or_add op_dAdd (se_var (pv 3)) se_int) sa_nil rfl) rfl))) (blkOk_by (N := N__law_moved_right) (sc := defScope st__law_moved_right) (by decide +kernel)) (fun _ _ _ _ _ => (sg_name (W := W0) (pg_name sc__law_moved_right.nd rfl (by first | exact Or.inl rfl | exact Or.inr rfl)))) (fun _ _ _ _ _ => (pts_one (sb_cmp (op_eqD hr.units) op_dEq (se_op op_mod op_dMod (se_op op_sub op_dSub (se_op (op_mulW.or (op_repT.or op_rep1)) op_dMulA (se_var (pv 17)) (se_var (pv 16))) (se_var (pv 10))) (se_var (pv 15))) se_int (nomark _)))) (fun _ _ _ _ _ => (se_op op_sub op_dSub (se_var (pv 17)) (se_var (pv 3))))))) (nomark _)) (ss_one (sc_ret se_bl)) ss_nil))) (by intro _; rfl))
      (ss_cons (sc_asg (se_tup (sa_cons (se_tup sa_nil) (sa_cons (se_call c__law_roll takes_def (hr.mono (by decide)) (by rfl) (sa_cons (se_var (pv 0)) (sa_cons (se_bi op_dLen (pe_callB call_len_seq (by rfl) T.b_len PySem.boot_len (sa_cons (se_var (pv 1)) sa_nil rfl))) sa_nil rfl) rfl) (by decide) rfl rfl) sa_nil rfl) rfl)) (sg_tup (W := _) (fun _ h => pg_tup rfl h) (sgs_cons (W := _) (sg_name (W := _) (pg_name sc__law_moved_right.nd rfl (by first | exact Or.inl rfl | exact Or.inr rfl))) (sgs_cons (W := _) (sg_name (W := _) (pg_name sc__law_moved_right.nd rfl (by first | exact Or.inl rfl | exact Or.inr rfl))) (sgs_nil (W := _)) rfl) rfl) (fun _ _ _ q => gsC_len (fun _ _ _ q => gsC_len (fun _ _ _ q => gsN_len q) q) q)) rfl rfl rfl)
      (ss_cons (sc_for (passes_of rfl) rfl (si_zip (RZ.pi_zipA (by rfl) T.b_zip (sa_cons (se_sl (se_var (pv 1)) so_no (so_e (se_var (pv 13)))) (sa_cons (se_var (pv 2)) sa_nil rfl) rfl))) (sg_tup (W := _) (fun _ h => pg_tup rfl h) (sgs_cons (W := _) (sg_name (W := _) (pg_name sc__law_moved_right.nd rfl (by first | exact Or.inl rfl | exact Or.inr rfl))) (sgs_cons (W := _) (sg_name (W := _) (pg_name sc__law_moved_right.nd rfl (by first | exact Or.inl rfl | exact Or.inr rfl))) (sgs_nil (W := _)) rfl) rfl) (fun _ _ _ q => gsC_len (fun _ _ _ q => gsC_len (fun _ _ _ q => gsN_len q) q) q)) (ss_one (sc_set (ps_set (i := 12) sc__law_moved_right.nd rfl (by first | exact Or.inl rfl | exact Or.inr rfl) (se_call c__law_grown takes_def (hr.mono (by decide)) (by rfl) (sa_cons (se_var (pv 12)) (sa_cons (se_var (pv 14)) (sa_cons (se_var (pv 9)) sa_nil rfl) rfl) rfl) (by decide) rfl rfl)))) (by intro _; rfl))
      (ss_cons (by first | exact sc_setL (fun _ _ _ q => goLc (by decide) (gN_len _) (goF q)) (ps_setLc (i := 4) (own := [("_law_place", 9)]) (g := gG _ _ none (gN 9)) rfl sc__law_moved_right.nd rfl rfl (sw_true rfl rfl rfl (by decide +kernel)) (si_r1 (pi_range1 (by rfl) T.b_range (sa_cons (se_sub ix_any op_dIx (se_sub ix_any op_dIx (se_var (pv 1)) (se_var (pv 13)) (fun _ _ => rfl)) se_int (fun _ _ => rfl)) sa_nil rfl))) (blkOk_by (N := N__law_moved_right) (sc := defScope st__law_moved_right) (by decide +kernel)) (fun _ _ _ _ _ => (sg_name (W := W0) (pg_name sc__law_moved_right.nd rfl (by first | exact Or.inl rfl | exact Or.inr rfl)))) (fun _ _ _ _ _ => (pts_one (sb_cmp (op_eqD hr.units) op_dEq (se_call c_grown takes_none5 (hr.mono (by decide)) (by rfl) (sa_cons (se_var (pv 12)) (sa_cons (se_sub ix_any op_dIx (se_var (pv 1)) (se_var (pv 13)) (fun _ _ => rfl)) (sa_cons (se_var (pv 9)) sa_nil rfl) rfl) rfl) (by decide) rfl rfl) (se_var (pv 12)) (nomark _)))) (fun _ _ _ _ _ => (se_var (pv 9)))) | exact sc_set (ps_set (i := 4) sc__law_moved_right.nd rfl (by first | exact Or.inl rfl | exact Or.inr rfl) (se_F (sl_lc (by decide) (gN_len _) (pe_lc (own := [("_law_place", 9)]) (g := gG _ _ none (gN 9)) rfl sc__law_moved_right.nd (si_r1 (pi_range1 (by rfl) T.b_range (sa_cons (se_sub ix_any op_dIx (se_sub ix_any op_dIx (se_var (pv 1)) (se_var (pv 13)) (fun _ _ => rfl)) se_int (fun _ _ => rfl)) sa_nil rfl))) (blkOk_by (N := N__law_moved_right) (sc := defScope st__law_moved_right) (by decide +kernel)) (fun _ _ _ _ _ => (sg_name (W := W0) (pg_name sc__law_moved_right.nd rfl (by first | exact Or.inl rfl | exact Or.inr rfl)))) (fun _ _ _ _ _ => (pts_one (sb_cmp (op_eqD hr.units) op_dEq (se_call c_grown takes_none5 (hr.mono (by decide)) (by rfl) (sa_cons (se_var (pv 12)) (sa_cons (se_sub ix_any op_dIx (se_var (pv 1)) (se_var (pv 13)) (fun _ _ => rfl)) (sa_cons (se_var (pv 9)) sa_nil rfl) rfl) rfl) (by decide) rfl rfl) (se_var (pv 12)) (nomark _)))) (fun _ _ _ _ _ => (se_var (pv 9))))))))
      (ss_cons (sc_if (sb_cmp (op_eqD hr.units) op_dEq (se_var (pv 4)) (se_F (sl_lst sa_nil)) (nomark _)) (ss_one (sc_ret se_bl)) ss_nil)
      (ss_cons (sc_set (ps_set (i := 5) sc__law_moved_right.nd rfl (by first | exact Or.inl rfl | exact Or.inr rfl) (se_op or_add op_dAdd (se_op or_add op_dAdd (se_sl (se_var (pv 2)) so_no (so_e (se_var (pv 13)))) (se_tup (sa_cons (se_call c__law_one_of takes_def (hr.mono (by decide)) (by rfl) (sa_cons (se_var (pv 0)) (sa_cons (se_var (pv 4)) sa_nil rfl) rfl) (by decide) rfl rfl) sa_nil rfl))) (se_sl (se_var (pv 2)) (so_e (se_op or_add op_dAdd (se_var (pv 13)) se_int)) so_no))))
      (ss_cons (sc_set (ps_set (i := 6) sc__law_moved_right.nd rfl (by first | exact Or.inl rfl | exact Or.inr rfl) (se_op or_add op_dAdd (se_op or_add op_dAdd (se_sl (se_var (pv 5)) so_no (so_e (se_var (pv 13)))) (se_tup (sa_cons (se_call c__law_one_of takes_def (hr.mono (by decide)) (by rfl) (sa_cons (se_var (pv 0)) (sa_cons (se_var (pv 4)) sa_nil rfl) rfl) (by decide) rfl rfl) sa_nil rfl))) (se_sl (se_var (pv 2)) (so_e (se_op or_add op_dAdd (se_var (pv 13)) se_int)) so_no))))
      (ss_one (sc_ret (se_and (se_cmp (op_eqD hr.units) op_dEq (se_call c_heap_of takes_def (hr.mono (by decide)) (by rfl) (sa_cons (se_var (pv 1)) (sa_cons (se_var (pv 5)) sa_nil rfl) rfl) (by decide) rfl rfl) (se_call c_heap_of takes_def (hr.mono (by decide)) (by rfl) (sa_cons (se_var (pv 1)) (sa_cons (se_var (pv 6)) sa_nil rfl) rfl) (by decide) rfl rfl) (nomark _)) (se_one (se_call c_is_held takes_def (hr.mono (by decide)) (by rfl) (sa_cons (se_call c_heap_of takes_def (hr.mono (by decide)) (by rfl) (sa_cons (se_var (pv 1)) (sa_cons (se_var (pv 2)) sa_nil rfl) rfl) (by decide) rfl rfl) (sa_cons (se_call c_heap_of takes_def (hr.mono (by decide)) (by rfl) (sa_cons (se_var (pv 1)) (sa_cons (se_var (pv 5)) sa_nil rfl) rfl) (by decide) rfl rfl) sa_nil rfl) rfl) (by decide) rfl rfl)))))))))))))))
theorem k_flipped_in {f : Addr} {fd : FuncData} (T : Tops P K mg) (F : L2.Fun K "flipped_in" "flipped_in" st_flipped_in f fd) (gF : mg "flipped_in" = some (.ref f)) (hb : Binds K fd ["heap"] [])  : Cal P w K mg base "flipped_in" 1 1 m_flipped_in :=
  cal_of F gF hb sc_flipped_in rfl fun cdv A outer s H E hr => (ss_one (sc_ret (se_bi op_dTuple (pe_callTy call_tuple_of (by rfl) T.b_tuple PyProof.Rows.boot_tuple (sa_cons (se_F (sl_lc (by decide) (gN_len _) (pe_lc (own := [("row", 1)]) (g := gG _ _ none (gN 1)) rfl sc_flipped_in.nd (si_r1 (pi_range1 (by rfl) T.b_range (sa_cons (se_bik op_dMaxDf (pe_callBK (cr_maxDf rfl (units65 hr)) (by rfl) T.b_max PyProof.Rows.boot_max (sa_cons (se_var (pv 0)) sa_nil rfl) (sk_cons se_int sk_nil))) sa_nil rfl))) (blkOk_by (N := N_flipped_in) (sc := defScope st_flipped_in) (by decide +kernel)) (fun _ _ _ _ _ => (sg_name (W := W0) (pg_name sc_flipped_in.nd rfl (by first | exact Or.inl rfl | exact Or.inr rfl)))) (fun _ _ _ _ _ => st_nil) (fun _ _ _ _ _ => (se_bi op_dLen (pe_callB call_len_seq (by rfl) T.b_len PySem.boot_len (sa_cons (se_F (sl_lc (by decide) (gN_len _) (pe_lc (own := [("height", 2)]) (g := gG _ _ none (gN 2)) rfl sc_flipped_in.nd (si_val (se_var (pv 0))) (blkOk_by (by kernel_rfl)) (fun _ _ _ _ _ => (sg_name (W := W0) (pg_name sc_flipped_in.nd rfl (by first | exact Or.inl rfl | exact Or.inr rfl)))) (fun _ _ _ _ _ => (pts_one (sb_cmp op_gt op_dGt (se_var (pv 2)) (se_var (pv 1)) (nomark _)))) (fun _ _ _ _ _ => (se_var (pv 2)))))) sa_nil rfl))))))) sa_nil rfl)))))
theorem k_turned_over {f : Addr} {fd : FuncData} (T : Tops P K mg) (F : L2.Fun K "turned_over" "turned_over" st_turned_over f fd) (gF : mg "turned_over" = some (.ref f)) (hb : Binds K fd ["heap"] []) (c_flipped_in : Cal P w K mg base "flipped_in" 1 1 m_flipped_in) (c_require_heap : Cal P w K mg base "require_heap" 1 4 m_require_heap) : Cal P w K mg base "turned_over" 1 5 m_turned_over :=
  cal_of F gF hb sc_turned_over rfl fun cdv A outer s H E hr => (ss_cons (sc_exp (se_call c_require_heap takes_def (hr.mono (by decide)) (by rfl) (sa_cons (se_var (pv 0)) sa_nil rfl) (by decide) rfl rfl) rfl)
      (ss_one (sc_ret (se_call c_flipped_in takes_def (hr.mono (by decide)) (by rfl) (sa_cons (se_var (pv 0)) sa_nil rfl) (by decide) rfl rfl))))
theorem k__law_turned_right {f : Addr} {fd : FuncData} (T : Tops P K mg) (F : L2.Fun K "_law_turned_right" "_law_turned_right" st__law_turned_right f fd) (gF : mg "_law_turned_right" = some (.ref f)) (hb : Binds K fd ["_law_chain_here", "_law_x"] []) (c_turned_over : Cal P w K mg base "turned_over" 1 5 m_turned_over) (c_heap_of : Cal P w K mg base "heap_of" 2 6 m_heap_of) : Cal P w K mg base "_law_turned_right" 2 7 m__law_turned_right :=
  cal_of F gF hb sc__law_turned_right rfl fun cdv A outer s H E hr => (ss_cons (sc_set (ps_set (i := 2) sc__law_turned_right.nd rfl (by first | exact Or.inl rfl | exact Or.inr rfl) (se_bi op_dTuple (pe_callTy call_tuple_of (by rfl) T.b_tuple PyProof.Rows.boot_tuple (sa_cons (se_F (sl_lc (by decide) (gT_len (gsC_lenE (gT_len (gsC_lenE (gN_len _) (gsC_lenE (gN_len _) (gsN_lenE)))) (gsC_lenE (gN_len _) (gsN_lenE)))) (pe_lc (own := [("_law_place", 3), ("_law_n", 4), ("_law_s", 5)]) (g := gG _ _ none (gT (gsC (gT (gsC (gN 4) (gsC (gN 5) (gsN)))) (gsC (gN 3) (gsN))))) rfl sc__law_turned_right.nd (si_zip (RZ.pi_zipA (by rfl) T.b_zip (sa_cons (se_var (pv 0)) (sa_cons (se_var (pv 1)) sa_nil rfl) rfl))) (blkOk_by (N := N__law_turned_right) (sc := defScope st__law_turned_right) (by decide +kernel)) (fun _ _ _ _ _ => (sg_tup (W := W0) (fun _ h => pg_tup rfl h) (sgs_cons (W := W0) (sg_tup (W := W0) (fun _ h => pg_tup rfl h) (sgs_cons (W := W0) (sg_name (W := W0) (pg_name sc__law_turned_right.nd rfl (by first | exact Or.inl rfl | exact Or.inr rfl))) (sgs_cons (W := W0) (sg_name (W := W0) (pg_name sc__law_turned_right.nd rfl (by first | exact Or.inl rfl | exact Or.inr rfl))) (sgs_nil (W := W0)) rfl) rfl) (fun _ _ _ q => gsC_len (fun _ _ _ q => gsC_len (fun _ _ _ q => gsN_len q) q) q)) (sgs_cons (W := W0) (sg_name (W := W0) (pg_name sc__law_turned_right.nd rfl (by first | exact Or.inl rfl | exact Or.inr rfl))) (sgs_nil (W := W0)) rfl) rfl) (fun _ _ _ q => gsC_len (fun _ _ _ q => gsC_len (fun _ _ _ q => gsN_len q) q) q))) (fun _ _ _ _ _ => st_nil) (fun _ _ _ _ _ => (se_op op_mod op_dMod (se_op op_sub op_dSub se_int (se_var (pv 3))) (se_var (pv 4))))))) sa_nil rfl)))))
      (ss_one (sc_ret (se_cmp (op_eqD hr.units) op_dEq (se_call c_heap_of takes_def (hr.mono (by decide)) (by rfl) (sa_cons (se_var (pv 0)) (sa_cons (se_var (pv 2)) sa_nil rfl) rfl) (by decide) rfl rfl) (se_call c_turned_over takes_def (hr.mono (by decide)) (by rfl) (sa_cons (se_call c_heap_of takes_def (hr.mono (by decide)) (by rfl) (sa_cons (se_var (pv 0)) (sa_cons (se_var (pv 1)) sa_nil rfl) rfl) (by decide) rfl rfl) sa_nil rfl) (by decide) rfl rfl) (nomark _)))))
end
theorem ok_law {P : Program} {w : World} {K : PySem.W.Frag} {mg : Str → Option Value} {base : Heap} {f : Addr} {fd : FuncData} (T : Tops P K mg) (F : L2.Fun K "law" "law" st_law f fd) (c__law_dice : Cal P w K mg base "_law_dice" 2 1 m__law_dice) (c__law_roll : Cal P w K mg base "_law_roll" 2 1 m__law_roll) (c__law_chain : Cal P w K mg base "_law_chain" 3 4 m__law_chain) (c__law_tuple : Cal P w K mg base "_law_tuple" 2 2 m__law_tuple) (c__law_growth_right : Cal P w K mg base "_law_growth_right" 3 7 m__law_growth_right) (c__law_moved_right : Cal P w K mg base "_law_moved_right" 3 7 m__law_moved_right) (c__law_turned_right : Cal P w K mg base "_law_turned_right" 2 7 m__law_turned_right) : FnOk P w K mg base (L2.CX P w) 8 f fd ["_law_script"] (spS K mg 1 m_law) :=
  ok_of F sc_law rfl fun cdv A outer s H E hr => (ss_cons (sc_for (passes_of rfl) rfl (si_r1 (pi_range1 (by rfl) T.b_range (sa_cons (se_bi op_dMax2 (pe_callB (call_max2 rfl) (by rfl) T.b_max PyProof.Rows.boot_max (sa_cons se_int (sa_cons (se_bi op_dMin2 (pe_callB (call_min2 rfl) (by rfl) T.b_min PyProof.Rows.boot_min (sa_cons (se_bi op_dLen (pe_callB call_len_seq (by rfl) T.b_len PySem.boot_len (sa_cons (se_var (pv 0)) sa_nil rfl))) (sa_cons se_int sa_nil rfl) rfl))) sa_nil rfl) rfl))) sa_nil rfl))) (sg_name (W := _) (pg_name sc_law.nd rfl (by first | exact Or.inl rfl | exact Or.inr rfl))) (ss_cons (sc_set (ps_set (i := 2) sc_law.nd rfl (by first | exact Or.inl rfl | exact Or.inr rfl) (se_call c__law_dice takes_def (hr.mono (by decide)) (by rfl) (sa_cons (se_var (pv 0)) (sa_cons (se_var (pv 1)) sa_nil rfl) rfl) (by decide) rfl rfl)))
      (ss_cons (sc_set (ps_set (i := 3) sc_law.nd rfl (by first | exact Or.inl rfl | exact Or.inr rfl) (se_call c__law_chain takes_def (hr.mono (by decide)) (by rfl) (sa_cons (se_var (pv 2)) (sa_cons (se_op or_add op_dAdd se_int (se_call c__law_roll takes_def (hr.mono (by decide)) (by rfl) (sa_cons (se_var (pv 2)) (sa_cons se_int sa_nil rfl) rfl) (by decide) rfl rfl)) (sa_cons se_int sa_nil rfl) rfl) rfl) (by decide) rfl rfl)))
      (ss_cons (sc_set (ps_set (i := 4) sc_law.nd rfl (by first | exact Or.inl rfl | exact Or.inr rfl) (se_call c__law_tuple takes_def (hr.mono (by decide)) (by rfl) (sa_cons (se_var (pv 2)) (sa_cons (se_var (pv 3)) sa_nil rfl) rfl) (by decide) rfl rfl)))
      (ss_cons (sc_if (sb_w (sw_or (sb_not (sb_val (se_call c__law_growth_right takes_def (hr.mono (by decide)) (by rfl) (sa_cons (se_var (pv 2)) (sa_cons (se_var (pv 3)) (sa_cons (se_var (pv 4)) sa_nil rfl) rfl) rfl) (by decide) rfl rfl) (fun _ => rfl))) (sw_or1 (sb_not (sb_val (se_call c__law_moved_right takes_def (hr.mono (by decide)) (by rfl) (sa_cons (se_var (pv 2)) (sa_cons (se_var (pv 3)) (sa_cons (se_var (pv 4)) sa_nil rfl) rfl) rfl) (by decide) rfl rfl) (fun _ => rfl)))))) (ss_one (sc_ret se_bl)) ss_nil)
      (ss_one (sc_if (sb_not (sb_val (se_call c__law_turned_right takes_def (hr.mono (by decide)) (by rfl) (sa_cons (se_var (pv 3)) (sa_cons (se_var (pv 4)) sa_nil rfl) rfl) (by decide) rfl rfl) (fun _ => rfl))) (ss_one (sc_ret se_bl)) ss_nil)))))) (by intro _; rfl))
      (ss_one (sc_ret se_bl)))
theorem all_mk {w : World} {K : PySem.W.Frag} {h : Heap} {mg : Str → Option Value} {fa : Addr} (X : K.In h) (G : h.Ns mainGlobals mg) (hfa : mg "law" = some (.ref fa))
    {f__law_dice : Addr} {od__law_dice an__law_dice : Option Addr} {sl__law_dice : Array (Option Value)} {oc__law_dice kV__law_dice dc__law_dice pm__law_dice cd__law_dice ct__law_dice : Value}
    {f__law_roll : Addr} {od__law_roll an__law_roll : Option Addr} {sl__law_roll : Array (Option Value)} {oc__law_roll kV__law_roll dc__law_roll pm__law_roll cd__law_roll ct__law_roll : Value}
    {f__law_ring : Addr} {od__law_ring an__law_ring : Option Addr} {sl__law_ring : Array (Option Value)} {oc__law_ring kV__law_ring dc__law_ring pm__law_ring cd__law_ring ct__law_ring : Value}
    {f__law_one_of : Addr} {od__law_one_of an__law_one_of : Option Addr} {sl__law_one_of : Array (Option Value)} {oc__law_one_of kV__law_one_of dc__law_one_of pm__law_one_of cd__law_one_of ct__law_one_of : Value}
    {f__law_common : Addr} {od__law_common an__law_common : Option Addr} {sl__law_common : Array (Option Value)} {oc__law_common kV__law_common dc__law_common pm__law_common cd__law_common ct__law_common : Value}
    {f__law_ring_of : Addr} {od__law_ring_of an__law_ring_of : Option Addr} {sl__law_ring_of : Array (Option Value)} {oc__law_ring_of kV__law_ring_of dc__law_ring_of pm__law_ring_of cd__law_ring_of ct__law_ring_of : Value}
    {f__law_chain : Addr} {od__law_chain an__law_chain : Option Addr} {sl__law_chain : Array (Option Value)} {oc__law_chain kV__law_chain dc__law_chain pm__law_chain cd__law_chain ct__law_chain : Value}
    {f__law_tuple : Addr} {od__law_tuple an__law_tuple : Option Addr} {sl__law_tuple : Array (Option Value)} {oc__law_tuple kV__law_tuple dc__law_tuple pm__law_tuple cd__law_tuple ct__law_tuple : Value}
    {f_holds_in : Addr} {od_holds_in an_holds_in : Option Addr} {sl_holds_in : Array (Option Value)} {oc_holds_in kV_holds_in dc_holds_in pm_holds_in cd_holds_in ct_holds_in : Value}
    {f_is_whole : Addr} {od_is_whole an_is_whole : Option Addr} {sl_is_whole : Array (Option Value)} {oc_is_whole kV_is_whole dc_is_whole pm_is_whole cd_is_whole ct_is_whole : Value}
    {f_is_within : Addr} {od_is_within an_is_within : Option Addr} {sl_is_within : Array (Option Value)} {oc_is_within kV_is_within dc_is_within pm_is_within cd_is_within ct_is_within : Value}
    {f_is_heap_in : Addr} {od_is_heap_in an_is_heap_in : Option Addr} {sl_is_heap_in : Array (Option Value)} {oc_is_heap_in kV_is_heap_in dc_is_heap_in pm_is_heap_in cd_is_heap_in ct_is_heap_in : Value}
    {f_require_heap : Addr} {od_require_heap an_require_heap : Option Addr} {sl_require_heap : Array (Option Value)} {oc_require_heap kV_require_heap dc_require_heap pm_require_heap cd_require_heap ct_require_heap : Value}
    {f_require_two_heaps : Addr} {od_require_two_heaps an_require_two_heaps : Option Addr} {sl_require_two_heaps : Array (Option Value)} {oc_require_two_heaps kV_require_two_heaps dc_require_two_heaps pm_require_two_heaps cd_require_two_heaps ct_require_two_heaps : Value}
    {f_is_held : Addr} {od_is_held an_is_held : Option Addr} {sl_is_held : Array (Option Value)} {oc_is_held kV_is_held dc_is_held pm_is_held cd_is_held ct_is_held : Value}
    {f_common_in : Addr} {od_common_in an_common_in : Option Addr} {sl_common_in : Array (Option Value)} {oc_common_in kV_common_in dc_common_in pm_common_in cd_common_in ct_common_in : Value}
    {f_common_of : Addr} {od_common_of an_common_of : Option Addr} {sl_common_of : Array (Option Value)} {oc_common_of kV_common_of dc_common_of pm_common_of cd_common_of ct_common_of : Value}
    {f_is_ring_in : Addr} {od_is_ring_in an_is_ring_in : Option Addr} {sl_is_ring_in : Array (Option Value)} {oc_is_ring_in kV_is_ring_in dc_is_ring_in pm_is_ring_in cd_is_ring_in ct_is_ring_in : Value}
    {f_addable_columns : Addr} {od_addable_columns an_addable_columns : Option Addr} {sl_addable_columns : Array (Option Value)} {oc_addable_columns kV_addable_columns dc_addable_columns pm_addable_columns cd_addable_columns ct_addable_columns : Value}
    {f_risen : Addr} {od_risen an_risen : Option Addr} {sl_risen : Array (Option Value)} {oc_risen kV_risen dc_risen pm_risen cd_risen ct_risen : Value}
    {f_grown_in : Addr} {od_grown_in an_grown_in : Option Addr} {sl_grown_in : Array (Option Value)} {oc_grown_in kV_grown_in dc_grown_in pm_grown_in cd_grown_in ct_grown_in : Value}
    {f_require_small_sides : Addr} {od_require_small_sides an_require_small_sides : Option Addr} {sl_require_small_sides : Array (Option Value)} {oc_require_small_sides kV_require_small_sides dc_require_small_sides pm_require_small_sides cd_require_small_sides ct_require_small_sides : Value}
    {f_grown : Addr} {od_grown an_grown : Option Addr} {sl_grown : Array (Option Value)} {oc_grown kV_grown dc_grown pm_grown cd_grown ct_grown : Value}
    {f_is_chain_in : Addr} {od_is_chain_in an_is_chain_in : Option Addr} {sl_is_chain_in : Array (Option Value)} {oc_is_chain_in kV_is_chain_in dc_is_chain_in pm_is_chain_in cd_is_chain_in ct_is_chain_in : Value}
    {f_require_chain : Addr} {od_require_chain an_require_chain : Option Addr} {sl_require_chain : Array (Option Value)} {oc_require_chain kV_require_chain dc_require_chain pm_require_chain cd_require_chain ct_require_chain : Value}
    {f_is_tuple_in : Addr} {od_is_tuple_in an_is_tuple_in : Option Addr} {sl_is_tuple_in : Array (Option Value)} {oc_is_tuple_in kV_is_tuple_in dc_is_tuple_in pm_is_tuple_in cd_is_tuple_in ct_is_tuple_in : Value}
    {f_require_tuple : Addr} {od_require_tuple an_require_tuple : Option Addr} {sl_require_tuple : Array (Option Value)} {oc_require_tuple kV_require_tuple dc_require_tuple pm_require_tuple cd_require_tuple ct_require_tuple : Value}
    {f_heaps_in : Addr} {od_heaps_in an_heaps_in : Option Addr} {sl_heaps_in : Array (Option Value)} {oc_heaps_in kV_heaps_in dc_heaps_in pm_heaps_in cd_heaps_in ct_heaps_in : Value}
    {f_heap_in : Addr} {od_heap_in an_heap_in : Option Addr} {sl_heap_in : Array (Option Value)} {oc_heap_in kV_heap_in dc_heap_in pm_heap_in cd_heap_in ct_heap_in : Value}
    {f_heap_of : Addr} {od_heap_of an_heap_of : Option Addr} {sl_heap_of : Array (Option Value)} {oc_heap_of kV_heap_of dc_heap_of pm_heap_of cd_heap_of ct_heap_of : Value}
    {f__law_grown : Addr} {od__law_grown an__law_grown : Option Addr} {sl__law_grown : Array (Option Value)} {oc__law_grown kV__law_grown dc__law_grown pm__law_grown cd__law_grown ct__law_grown : Value}
    {f__law_heap : Addr} {od__law_heap an__law_heap : Option Addr} {sl__law_heap : Array (Option Value)} {oc__law_heap kV__law_heap dc__law_heap pm__law_heap cd__law_heap ct__law_heap : Value}
    {f__law_some_added : Addr} {od__law_some_added an__law_some_added : Option Addr} {sl__law_some_added : Array (Option Value)} {oc__law_some_added kV__law_some_added dc__law_some_added pm__law_some_added cd__law_some_added ct__law_some_added : Value}
    {f__law_held : Addr} {od__law_held an__law_held : Option Addr} {sl__law_held : Array (Option Value)} {oc__law_held kV__law_held dc__law_held pm__law_held cd__law_held ct__law_held : Value}
    {f__law_meet_of : Addr} {od__law_meet_of an__law_meet_of : Option Addr} {sl__law_meet_of : Array (Option Value)} {oc__law_meet_of kV__law_meet_of dc__law_meet_of pm__law_meet_of cd__law_meet_of ct__law_meet_of : Value}
    {f__law_growth_right : Addr} {od__law_growth_right an__law_growth_right : Option Addr} {sl__law_growth_right : Array (Option Value)} {oc__law_growth_right kV__law_growth_right dc__law_growth_right pm__law_growth_right cd__law_growth_right ct__law_growth_right : Value}
    {f_is_integer : Addr} {od_is_integer an_is_integer : Option Addr} {sl_is_integer : Array (Option Value)} {oc_is_integer kV_is_integer dc_is_integer pm_is_integer cd_is_integer ct_is_integer : Value}
    {f_require_integer : Addr} {od_require_integer an_require_integer : Option Addr} {sl_require_integer : Array (Option Value)} {oc_require_integer kV_require_integer dc_require_integer pm_require_integer cd_require_integer ct_require_integer : Value}
    {f_moved_ends_in : Addr} {od_moved_ends_in an_moved_ends_in : Option Addr} {sl_moved_ends_in : Array (Option Value)} {oc_moved_ends_in kV_moved_ends_in dc_moved_ends_in pm_moved_ends_in cd_moved_ends_in ct_moved_ends_in : Value}
    {f_require_short_class : Addr} {od_require_short_class an_require_short_class : Option Addr} {sl_require_short_class : Array (Option Value)} {oc_require_short_class kV_require_short_class dc_require_short_class pm_require_short_class cd_require_short_class ct_require_short_class : Value}
    {f_is_class_in : Addr} {od_is_class_in an_is_class_in : Option Addr} {sl_is_class_in : Array (Option Value)} {oc_is_class_in kV_is_class_in dc_is_class_in pm_is_class_in cd_is_class_in ct_is_class_in : Value}
    {f_require_class : Addr} {od_require_class an_require_class : Option Addr} {sl_require_class : Array (Option Value)} {oc_require_class kV_require_class dc_require_class pm_require_class cd_require_class ct_require_class : Value}
    {f_class_with_ends : Addr} {od_class_with_ends an_class_with_ends : Option Addr} {sl_class_with_ends : Array (Option Value)} {oc_class_with_ends kV_class_with_ends dc_class_with_ends pm_class_with_ends cd_class_with_ends ct_class_with_ends : Value}
    {f__law_moved_right : Addr} {od__law_moved_right an__law_moved_right : Option Addr} {sl__law_moved_right : Array (Option Value)} {oc__law_moved_right kV__law_moved_right dc__law_moved_right pm__law_moved_right cd__law_moved_right ct__law_moved_right : Value}
    {f_flipped_in : Addr} {od_flipped_in an_flipped_in : Option Addr} {sl_flipped_in : Array (Option Value)} {oc_flipped_in kV_flipped_in dc_flipped_in pm_flipped_in cd_flipped_in ct_flipped_in : Value}
    {f_turned_over : Addr} {od_turned_over an_turned_over : Option Addr} {sl_turned_over : Array (Option Value)} {oc_turned_over kV_turned_over dc_turned_over pm_turned_over cd_turned_over ct_turned_over : Value}
    {f__law_turned_right : Addr} {od__law_turned_right an__law_turned_right : Option Addr} {sl__law_turned_right : Array (Option Value)} {oc__law_turned_right kV__law_turned_right dc__law_turned_right pm__law_turned_right cd__law_turned_right ct__law_turned_right : Value}
    {f_law : Addr} {od_law an_law : Option Addr} {sl_law : Array (Option Value)} {oc_law kV_law dc_law pm_law cd_law ct_law : Value}
    {t_MOST_PLACES : Tok}
    {t_MOST_RINGS : Tok}
    {t_MOST_SIDE : Tok}
    {t_SIXTY_DIGITS : Tok}
    (a__law_dice : PySem.W.nsIn K mainGlobals "_law_dice" = some (some (.ref f__law_dice)))
    (l__law_dice : K.lookup f__law_dice = some ⟨oc__law_dice, od__law_dice, .func (PySem.W.fnOf "_law_dice" "_law_dice" (defArgs st__law_dice) (defBody st__law_dice) (defScope st__law_dice) .none kV__law_dice dc__law_dice pm__law_dice an__law_dice cd__law_dice ct__law_dice), sl__law_dice⟩)
    (d__law_dice : PySem.W.codeIn K cd__law_dice "_law_dice" = true)
    (e__law_dice : PySem.W.keepIn K (.ref f__law_dice) = true)
    (a__law_roll : PySem.W.nsIn K mainGlobals "_law_roll" = some (some (.ref f__law_roll)))
    (l__law_roll : K.lookup f__law_roll = some ⟨oc__law_roll, od__law_roll, .func (PySem.W.fnOf "_law_roll" "_law_roll" (defArgs st__law_roll) (defBody st__law_roll) (defScope st__law_roll) .none kV__law_roll dc__law_roll pm__law_roll an__law_roll cd__law_roll ct__law_roll), sl__law_roll⟩)
    (d__law_roll : PySem.W.codeIn K cd__law_roll "_law_roll" = true)
    (e__law_roll : PySem.W.keepIn K (.ref f__law_roll) = true)
    (a__law_ring : PySem.W.nsIn K mainGlobals "_law_ring" = some (some (.ref f__law_ring)))
    (l__law_ring : K.lookup f__law_ring = some ⟨oc__law_ring, od__law_ring, .func (PySem.W.fnOf "_law_ring" "_law_ring" (defArgs st__law_ring) (defBody st__law_ring) (defScope st__law_ring) .none kV__law_ring dc__law_ring pm__law_ring an__law_ring cd__law_ring ct__law_ring), sl__law_ring⟩)
    (d__law_ring : PySem.W.codeIn K cd__law_ring "_law_ring" = true)
    (e__law_ring : PySem.W.keepIn K (.ref f__law_ring) = true)
    (a__law_one_of : PySem.W.nsIn K mainGlobals "_law_one_of" = some (some (.ref f__law_one_of)))
    (l__law_one_of : K.lookup f__law_one_of = some ⟨oc__law_one_of, od__law_one_of, .func (PySem.W.fnOf "_law_one_of" "_law_one_of" (defArgs st__law_one_of) (defBody st__law_one_of) (defScope st__law_one_of) .none kV__law_one_of dc__law_one_of pm__law_one_of an__law_one_of cd__law_one_of ct__law_one_of), sl__law_one_of⟩)
    (d__law_one_of : PySem.W.codeIn K cd__law_one_of "_law_one_of" = true)
    (e__law_one_of : PySem.W.keepIn K (.ref f__law_one_of) = true)
    (a__law_common : PySem.W.nsIn K mainGlobals "_law_common" = some (some (.ref f__law_common)))
    (l__law_common : K.lookup f__law_common = some ⟨oc__law_common, od__law_common, .func (PySem.W.fnOf "_law_common" "_law_common" (defArgs st__law_common) (defBody st__law_common) (defScope st__law_common) .none kV__law_common dc__law_common pm__law_common an__law_common cd__law_common ct__law_common), sl__law_common⟩)
    (d__law_common : PySem.W.codeIn K cd__law_common "_law_common" = true)
    (e__law_common : PySem.W.keepIn K (.ref f__law_common) = true)
    (a__law_ring_of : PySem.W.nsIn K mainGlobals "_law_ring_of" = some (some (.ref f__law_ring_of)))
    (l__law_ring_of : K.lookup f__law_ring_of = some ⟨oc__law_ring_of, od__law_ring_of, .func (PySem.W.fnOf "_law_ring_of" "_law_ring_of" (defArgs st__law_ring_of) (defBody st__law_ring_of) (defScope st__law_ring_of) .none kV__law_ring_of dc__law_ring_of pm__law_ring_of an__law_ring_of cd__law_ring_of ct__law_ring_of), sl__law_ring_of⟩)
    (d__law_ring_of : PySem.W.codeIn K cd__law_ring_of "_law_ring_of" = true)
    (e__law_ring_of : PySem.W.keepIn K (.ref f__law_ring_of) = true)
    (a__law_chain : PySem.W.nsIn K mainGlobals "_law_chain" = some (some (.ref f__law_chain)))
    (l__law_chain : K.lookup f__law_chain = some ⟨oc__law_chain, od__law_chain, .func (PySem.W.fnOf "_law_chain" "_law_chain" (defArgs st__law_chain) (defBody st__law_chain) (defScope st__law_chain) .none kV__law_chain dc__law_chain pm__law_chain an__law_chain cd__law_chain ct__law_chain), sl__law_chain⟩)
    (d__law_chain : PySem.W.codeIn K cd__law_chain "_law_chain" = true)
    (e__law_chain : PySem.W.keepIn K (.ref f__law_chain) = true)
    (a__law_tuple : PySem.W.nsIn K mainGlobals "_law_tuple" = some (some (.ref f__law_tuple)))
    (l__law_tuple : K.lookup f__law_tuple = some ⟨oc__law_tuple, od__law_tuple, .func (PySem.W.fnOf "_law_tuple" "_law_tuple" (defArgs st__law_tuple) (defBody st__law_tuple) (defScope st__law_tuple) .none kV__law_tuple dc__law_tuple pm__law_tuple an__law_tuple cd__law_tuple ct__law_tuple), sl__law_tuple⟩)
    (d__law_tuple : PySem.W.codeIn K cd__law_tuple "_law_tuple" = true)
    (e__law_tuple : PySem.W.keepIn K (.ref f__law_tuple) = true)
    (a_holds_in : PySem.W.nsIn K mainGlobals "holds_in" = some (some (.ref f_holds_in)))
    (l_holds_in : K.lookup f_holds_in = some ⟨oc_holds_in, od_holds_in, .func (PySem.W.fnOf "holds_in" "holds_in" (defArgs st_holds_in) (defBody st_holds_in) (defScope st_holds_in) .none kV_holds_in dc_holds_in pm_holds_in an_holds_in cd_holds_in ct_holds_in), sl_holds_in⟩)
    (d_holds_in : PySem.W.codeIn K cd_holds_in "holds_in" = true)
    (e_holds_in : PySem.W.keepIn K (.ref f_holds_in) = true)
    (a_is_whole : PySem.W.nsIn K mainGlobals "is_whole" = some (some (.ref f_is_whole)))
    (l_is_whole : K.lookup f_is_whole = some ⟨oc_is_whole, od_is_whole, .func (PySem.W.fnOf "is_whole" "is_whole" (defArgs st_is_whole) (defBody st_is_whole) (defScope st_is_whole) .none kV_is_whole dc_is_whole pm_is_whole an_is_whole cd_is_whole ct_is_whole), sl_is_whole⟩)
    (d_is_whole : PySem.W.codeIn K cd_is_whole "is_whole" = true)
    (e_is_whole : PySem.W.keepIn K (.ref f_is_whole) = true)
    (a_is_within : PySem.W.nsIn K mainGlobals "is_within" = some (some (.ref f_is_within)))
    (l_is_within : K.lookup f_is_within = some ⟨oc_is_within, od_is_within, .func (PySem.W.fnOf "is_within" "is_within" (defArgs st_is_within) (defBody st_is_within) (defScope st_is_within) .none kV_is_within dc_is_within pm_is_within an_is_within cd_is_within ct_is_within), sl_is_within⟩)
    (d_is_within : PySem.W.codeIn K cd_is_within "is_within" = true)
    (e_is_within : PySem.W.keepIn K (.ref f_is_within) = true)
    (a_is_heap_in : PySem.W.nsIn K mainGlobals "is_heap_in" = some (some (.ref f_is_heap_in)))
    (l_is_heap_in : K.lookup f_is_heap_in = some ⟨oc_is_heap_in, od_is_heap_in, .func (PySem.W.fnOf "is_heap_in" "is_heap_in" (defArgs st_is_heap_in) (defBody st_is_heap_in) (defScope st_is_heap_in) .none kV_is_heap_in dc_is_heap_in pm_is_heap_in an_is_heap_in cd_is_heap_in ct_is_heap_in), sl_is_heap_in⟩)
    (d_is_heap_in : PySem.W.codeIn K cd_is_heap_in "is_heap_in" = true)
    (e_is_heap_in : PySem.W.keepIn K (.ref f_is_heap_in) = true)
    (a_require_heap : PySem.W.nsIn K mainGlobals "require_heap" = some (some (.ref f_require_heap)))
    (l_require_heap : K.lookup f_require_heap = some ⟨oc_require_heap, od_require_heap, .func (PySem.W.fnOf "require_heap" "require_heap" (defArgs st_require_heap) (defBody st_require_heap) (defScope st_require_heap) .none kV_require_heap dc_require_heap pm_require_heap an_require_heap cd_require_heap ct_require_heap), sl_require_heap⟩)
    (d_require_heap : PySem.W.codeIn K cd_require_heap "require_heap" = true)
    (e_require_heap : PySem.W.keepIn K (.ref f_require_heap) = true)
    (a_require_two_heaps : PySem.W.nsIn K mainGlobals "require_two_heaps" = some (some (.ref f_require_two_heaps)))
    (l_require_two_heaps : K.lookup f_require_two_heaps = some ⟨oc_require_two_heaps, od_require_two_heaps, .func (PySem.W.fnOf "require_two_heaps" "require_two_heaps" (defArgs st_require_two_heaps) (defBody st_require_two_heaps) (defScope st_require_two_heaps) .none kV_require_two_heaps dc_require_two_heaps pm_require_two_heaps an_require_two_heaps cd_require_two_heaps ct_require_two_heaps), sl_require_two_heaps⟩)
    (d_require_two_heaps : PySem.W.codeIn K cd_require_two_heaps "require_two_heaps" = true)
    (e_require_two_heaps : PySem.W.keepIn K (.ref f_require_two_heaps) = true)
    (a_is_held : PySem.W.nsIn K mainGlobals "is_held" = some (some (.ref f_is_held)))
    (l_is_held : K.lookup f_is_held = some ⟨oc_is_held, od_is_held, .func (PySem.W.fnOf "is_held" "is_held" (defArgs st_is_held) (defBody st_is_held) (defScope st_is_held) .none kV_is_held dc_is_held pm_is_held an_is_held cd_is_held ct_is_held), sl_is_held⟩)
    (d_is_held : PySem.W.codeIn K cd_is_held "is_held" = true)
    (e_is_held : PySem.W.keepIn K (.ref f_is_held) = true)
    (a_common_in : PySem.W.nsIn K mainGlobals "common_in" = some (some (.ref f_common_in)))
    (l_common_in : K.lookup f_common_in = some ⟨oc_common_in, od_common_in, .func (PySem.W.fnOf "common_in" "common_in" (defArgs st_common_in) (defBody st_common_in) (defScope st_common_in) .none kV_common_in dc_common_in pm_common_in an_common_in cd_common_in ct_common_in), sl_common_in⟩)
    (d_common_in : PySem.W.codeIn K cd_common_in "common_in" = true)
    (e_common_in : PySem.W.keepIn K (.ref f_common_in) = true)
    (a_common_of : PySem.W.nsIn K mainGlobals "common_of" = some (some (.ref f_common_of)))
    (l_common_of : K.lookup f_common_of = some ⟨oc_common_of, od_common_of, .func (PySem.W.fnOf "common_of" "common_of" (defArgs st_common_of) (defBody st_common_of) (defScope st_common_of) .none kV_common_of dc_common_of pm_common_of an_common_of cd_common_of ct_common_of), sl_common_of⟩)
    (d_common_of : PySem.W.codeIn K cd_common_of "common_of" = true)
    (e_common_of : PySem.W.keepIn K (.ref f_common_of) = true)
    (a_is_ring_in : PySem.W.nsIn K mainGlobals "is_ring_in" = some (some (.ref f_is_ring_in)))
    (l_is_ring_in : K.lookup f_is_ring_in = some ⟨oc_is_ring_in, od_is_ring_in, .func (PySem.W.fnOf "is_ring_in" "is_ring_in" (defArgs st_is_ring_in) (defBody st_is_ring_in) (defScope st_is_ring_in) .none kV_is_ring_in dc_is_ring_in pm_is_ring_in an_is_ring_in cd_is_ring_in ct_is_ring_in), sl_is_ring_in⟩)
    (d_is_ring_in : PySem.W.codeIn K cd_is_ring_in "is_ring_in" = true)
    (e_is_ring_in : PySem.W.keepIn K (.ref f_is_ring_in) = true)
    (a_addable_columns : PySem.W.nsIn K mainGlobals "addable_columns" = some (some (.ref f_addable_columns)))
    (l_addable_columns : K.lookup f_addable_columns = some ⟨oc_addable_columns, od_addable_columns, .func (PySem.W.fnOf "addable_columns" "addable_columns" (defArgs st_addable_columns) (defBody st_addable_columns) (defScope st_addable_columns) .none kV_addable_columns dc_addable_columns pm_addable_columns an_addable_columns cd_addable_columns ct_addable_columns), sl_addable_columns⟩)
    (d_addable_columns : PySem.W.codeIn K cd_addable_columns "addable_columns" = true)
    (e_addable_columns : PySem.W.keepIn K (.ref f_addable_columns) = true)
    (a_risen : PySem.W.nsIn K mainGlobals "risen" = some (some (.ref f_risen)))
    (l_risen : K.lookup f_risen = some ⟨oc_risen, od_risen, .func (PySem.W.fnOf "risen" "risen" (defArgs st_risen) (defBody st_risen) (defScope st_risen) .none kV_risen dc_risen pm_risen an_risen cd_risen ct_risen), sl_risen⟩)
    (d_risen : PySem.W.codeIn K cd_risen "risen" = true)
    (e_risen : PySem.W.keepIn K (.ref f_risen) = true)
    (a_grown_in : PySem.W.nsIn K mainGlobals "grown_in" = some (some (.ref f_grown_in)))
    (l_grown_in : K.lookup f_grown_in = some ⟨oc_grown_in, od_grown_in, .func (PySem.W.fnOf "grown_in" "grown_in" (defArgs st_grown_in) (defBody st_grown_in) (defScope st_grown_in) .none kV_grown_in dc_grown_in pm_grown_in an_grown_in cd_grown_in ct_grown_in), sl_grown_in⟩)
    (d_grown_in : PySem.W.codeIn K cd_grown_in "grown_in" = true)
    (e_grown_in : PySem.W.keepIn K (.ref f_grown_in) = true)
    (a_require_small_sides : PySem.W.nsIn K mainGlobals "require_small_sides" = some (some (.ref f_require_small_sides)))
    (l_require_small_sides : K.lookup f_require_small_sides = some ⟨oc_require_small_sides, od_require_small_sides, .func (PySem.W.fnOf "require_small_sides" "require_small_sides" (defArgs st_require_small_sides) (defBody st_require_small_sides) (defScope st_require_small_sides) .none kV_require_small_sides dc_require_small_sides pm_require_small_sides an_require_small_sides cd_require_small_sides ct_require_small_sides), sl_require_small_sides⟩)
    (d_require_small_sides : PySem.W.codeIn K cd_require_small_sides "require_small_sides" = true)
    (e_require_small_sides : PySem.W.keepIn K (.ref f_require_small_sides) = true)
    (a_grown : PySem.W.nsIn K mainGlobals "grown" = some (some (.ref f_grown)))
    (l_grown : K.lookup f_grown = some ⟨oc_grown, od_grown, .func (PySem.W.fnOf "grown" "grown" (defArgs st_grown) (defBody st_grown) (defScope st_grown) .none kV_grown dc_grown pm_grown an_grown cd_grown ct_grown), sl_grown⟩)
    (d_grown : PySem.W.codeIn K cd_grown "grown" = true)
    (e_grown : PySem.W.keepIn K (.ref f_grown) = true)
    (a_is_chain_in : PySem.W.nsIn K mainGlobals "is_chain_in" = some (some (.ref f_is_chain_in)))
    (l_is_chain_in : K.lookup f_is_chain_in = some ⟨oc_is_chain_in, od_is_chain_in, .func (PySem.W.fnOf "is_chain_in" "is_chain_in" (defArgs st_is_chain_in) (defBody st_is_chain_in) (defScope st_is_chain_in) .none kV_is_chain_in dc_is_chain_in pm_is_chain_in an_is_chain_in cd_is_chain_in ct_is_chain_in), sl_is_chain_in⟩)
    (d_is_chain_in : PySem.W.codeIn K cd_is_chain_in "is_chain_in" = true)
    (e_is_chain_in : PySem.W.keepIn K (.ref f_is_chain_in) = true)
    (a_require_chain : PySem.W.nsIn K mainGlobals "require_chain" = some (some (.ref f_require_chain)))
    (l_require_chain : K.lookup f_require_chain = some ⟨oc_require_chain, od_require_chain, .func (PySem.W.fnOf "require_chain" "require_chain" (defArgs st_require_chain) (defBody st_require_chain) (defScope st_require_chain) .none kV_require_chain dc_require_chain pm_require_chain an_require_chain cd_require_chain ct_require_chain), sl_require_chain⟩)
    (d_require_chain : PySem.W.codeIn K cd_require_chain "require_chain" = true)
    (e_require_chain : PySem.W.keepIn K (.ref f_require_chain) = true)
    (a_is_tuple_in : PySem.W.nsIn K mainGlobals "is_tuple_in" = some (some (.ref f_is_tuple_in)))
    (l_is_tuple_in : K.lookup f_is_tuple_in = some ⟨oc_is_tuple_in, od_is_tuple_in, .func (PySem.W.fnOf "is_tuple_in" "is_tuple_in" (defArgs st_is_tuple_in) (defBody st_is_tuple_in) (defScope st_is_tuple_in) .none kV_is_tuple_in dc_is_tuple_in pm_is_tuple_in an_is_tuple_in cd_is_tuple_in ct_is_tuple_in), sl_is_tuple_in⟩)
    (d_is_tuple_in : PySem.W.codeIn K cd_is_tuple_in "is_tuple_in" = true)
    (e_is_tuple_in : PySem.W.keepIn K (.ref f_is_tuple_in) = true)
    (a_require_tuple : PySem.W.nsIn K mainGlobals "require_tuple" = some (some (.ref f_require_tuple)))
    (l_require_tuple : K.lookup f_require_tuple = some ⟨oc_require_tuple, od_require_tuple, .func (PySem.W.fnOf "require_tuple" "require_tuple" (defArgs st_require_tuple) (defBody st_require_tuple) (defScope st_require_tuple) .none kV_require_tuple dc_require_tuple pm_require_tuple an_require_tuple cd_require_tuple ct_require_tuple), sl_require_tuple⟩)
    (d_require_tuple : PySem.W.codeIn K cd_require_tuple "require_tuple" = true)
    (e_require_tuple : PySem.W.keepIn K (.ref f_require_tuple) = true)
    (a_heaps_in : PySem.W.nsIn K mainGlobals "heaps_in" = some (some (.ref f_heaps_in)))
    (l_heaps_in : K.lookup f_heaps_in = some ⟨oc_heaps_in, od_heaps_in, .func (PySem.W.fnOf "heaps_in" "heaps_in" (defArgs st_heaps_in) (defBody st_heaps_in) (defScope st_heaps_in) .none kV_heaps_in dc_heaps_in pm_heaps_in an_heaps_in cd_heaps_in ct_heaps_in), sl_heaps_in⟩)
    (d_heaps_in : PySem.W.codeIn K cd_heaps_in "heaps_in" = true)
    (e_heaps_in : PySem.W.keepIn K (.ref f_heaps_in) = true)
    (a_heap_in : PySem.W.nsIn K mainGlobals "heap_in" = some (some (.ref f_heap_in)))
    (l_heap_in : K.lookup f_heap_in = some ⟨oc_heap_in, od_heap_in, .func (PySem.W.fnOf "heap_in" "heap_in" (defArgs st_heap_in) (defBody st_heap_in) (defScope st_heap_in) .none kV_heap_in dc_heap_in pm_heap_in an_heap_in cd_heap_in ct_heap_in), sl_heap_in⟩)
    (d_heap_in : PySem.W.codeIn K cd_heap_in "heap_in" = true)
    (e_heap_in : PySem.W.keepIn K (.ref f_heap_in) = true)
    (a_heap_of : PySem.W.nsIn K mainGlobals "heap_of" = some (some (.ref f_heap_of)))
    (l_heap_of : K.lookup f_heap_of = some ⟨oc_heap_of, od_heap_of, .func (PySem.W.fnOf "heap_of" "heap_of" (defArgs st_heap_of) (defBody st_heap_of) (defScope st_heap_of) .none kV_heap_of dc_heap_of pm_heap_of an_heap_of cd_heap_of ct_heap_of), sl_heap_of⟩)
    (d_heap_of : PySem.W.codeIn K cd_heap_of "heap_of" = true)
    (e_heap_of : PySem.W.keepIn K (.ref f_heap_of) = true)
    (a__law_grown : PySem.W.nsIn K mainGlobals "_law_grown" = some (some (.ref f__law_grown)))
    (l__law_grown : K.lookup f__law_grown = some ⟨oc__law_grown, od__law_grown, .func (PySem.W.fnOf "_law_grown" "_law_grown" (defArgs st__law_grown) (defBody st__law_grown) (defScope st__law_grown) .none kV__law_grown dc__law_grown pm__law_grown an__law_grown cd__law_grown ct__law_grown), sl__law_grown⟩)
    (d__law_grown : PySem.W.codeIn K cd__law_grown "_law_grown" = true)
    (e__law_grown : PySem.W.keepIn K (.ref f__law_grown) = true)
    (a__law_heap : PySem.W.nsIn K mainGlobals "_law_heap" = some (some (.ref f__law_heap)))
    (l__law_heap : K.lookup f__law_heap = some ⟨oc__law_heap, od__law_heap, .func (PySem.W.fnOf "_law_heap" "_law_heap" (defArgs st__law_heap) (defBody st__law_heap) (defScope st__law_heap) .none kV__law_heap dc__law_heap pm__law_heap an__law_heap cd__law_heap ct__law_heap), sl__law_heap⟩)
    (d__law_heap : PySem.W.codeIn K cd__law_heap "_law_heap" = true)
    (e__law_heap : PySem.W.keepIn K (.ref f__law_heap) = true)
    (a__law_some_added : PySem.W.nsIn K mainGlobals "_law_some_added" = some (some (.ref f__law_some_added)))
    (l__law_some_added : K.lookup f__law_some_added = some ⟨oc__law_some_added, od__law_some_added, .func (PySem.W.fnOf "_law_some_added" "_law_some_added" (defArgs st__law_some_added) (defBody st__law_some_added) (defScope st__law_some_added) .none kV__law_some_added dc__law_some_added pm__law_some_added an__law_some_added cd__law_some_added ct__law_some_added), sl__law_some_added⟩)
    (d__law_some_added : PySem.W.codeIn K cd__law_some_added "_law_some_added" = true)
    (e__law_some_added : PySem.W.keepIn K (.ref f__law_some_added) = true)
    (a__law_held : PySem.W.nsIn K mainGlobals "_law_held" = some (some (.ref f__law_held)))
    (l__law_held : K.lookup f__law_held = some ⟨oc__law_held, od__law_held, .func (PySem.W.fnOf "_law_held" "_law_held" (defArgs st__law_held) (defBody st__law_held) (defScope st__law_held) .none kV__law_held dc__law_held pm__law_held an__law_held cd__law_held ct__law_held), sl__law_held⟩)
    (d__law_held : PySem.W.codeIn K cd__law_held "_law_held" = true)
    (e__law_held : PySem.W.keepIn K (.ref f__law_held) = true)
    (a__law_meet_of : PySem.W.nsIn K mainGlobals "_law_meet_of" = some (some (.ref f__law_meet_of)))
    (l__law_meet_of : K.lookup f__law_meet_of = some ⟨oc__law_meet_of, od__law_meet_of, .func (PySem.W.fnOf "_law_meet_of" "_law_meet_of" (defArgs st__law_meet_of) (defBody st__law_meet_of) (defScope st__law_meet_of) .none kV__law_meet_of dc__law_meet_of pm__law_meet_of an__law_meet_of cd__law_meet_of ct__law_meet_of), sl__law_meet_of⟩)
    (d__law_meet_of : PySem.W.codeIn K cd__law_meet_of "_law_meet_of" = true)
    (e__law_meet_of : PySem.W.keepIn K (.ref f__law_meet_of) = true)
    (a__law_growth_right : PySem.W.nsIn K mainGlobals "_law_growth_right" = some (some (.ref f__law_growth_right)))
    (l__law_growth_right : K.lookup f__law_growth_right = some ⟨oc__law_growth_right, od__law_growth_right, .func (PySem.W.fnOf "_law_growth_right" "_law_growth_right" (defArgs st__law_growth_right) (defBody st__law_growth_right) (defScope st__law_growth_right) .none kV__law_growth_right dc__law_growth_right pm__law_growth_right an__law_growth_right cd__law_growth_right ct__law_growth_right), sl__law_growth_right⟩)
    (d__law_growth_right : PySem.W.codeIn K cd__law_growth_right "_law_growth_right" = true)
    (e__law_growth_right : PySem.W.keepIn K (.ref f__law_growth_right) = true)
    (a_is_integer : PySem.W.nsIn K mainGlobals "is_integer" = some (some (.ref f_is_integer)))
    (l_is_integer : K.lookup f_is_integer = some ⟨oc_is_integer, od_is_integer, .func (PySem.W.fnOf "is_integer" "is_integer" (defArgs st_is_integer) (defBody st_is_integer) (defScope st_is_integer) .none kV_is_integer dc_is_integer pm_is_integer an_is_integer cd_is_integer ct_is_integer), sl_is_integer⟩)
    (d_is_integer : PySem.W.codeIn K cd_is_integer "is_integer" = true)
    (e_is_integer : PySem.W.keepIn K (.ref f_is_integer) = true)
    (a_require_integer : PySem.W.nsIn K mainGlobals "require_integer" = some (some (.ref f_require_integer)))
    (l_require_integer : K.lookup f_require_integer = some ⟨oc_require_integer, od_require_integer, .func (PySem.W.fnOf "require_integer" "require_integer" (defArgs st_require_integer) (defBody st_require_integer) (defScope st_require_integer) .none kV_require_integer dc_require_integer pm_require_integer an_require_integer cd_require_integer ct_require_integer), sl_require_integer⟩)
    (d_require_integer : PySem.W.codeIn K cd_require_integer "require_integer" = true)
    (e_require_integer : PySem.W.keepIn K (.ref f_require_integer) = true)
    (a_moved_ends_in : PySem.W.nsIn K mainGlobals "moved_ends_in" = some (some (.ref f_moved_ends_in)))
    (l_moved_ends_in : K.lookup f_moved_ends_in = some ⟨oc_moved_ends_in, od_moved_ends_in, .func (PySem.W.fnOf "moved_ends_in" "moved_ends_in" (defArgs st_moved_ends_in) (defBody st_moved_ends_in) (defScope st_moved_ends_in) .none kV_moved_ends_in dc_moved_ends_in pm_moved_ends_in an_moved_ends_in cd_moved_ends_in ct_moved_ends_in), sl_moved_ends_in⟩)
    (d_moved_ends_in : PySem.W.codeIn K cd_moved_ends_in "moved_ends_in" = true)
    (e_moved_ends_in : PySem.W.keepIn K (.ref f_moved_ends_in) = true)
    (a_require_short_class : PySem.W.nsIn K mainGlobals "require_short_class" = some (some (.ref f_require_short_class)))
    (l_require_short_class : K.lookup f_require_short_class = some ⟨oc_require_short_class, od_require_short_class, .func (PySem.W.fnOf "require_short_class" "require_short_class" (defArgs st_require_short_class) (defBody st_require_short_class) (defScope st_require_short_class) .none kV_require_short_class dc_require_short_class pm_require_short_class an_require_short_class cd_require_short_class ct_require_short_class), sl_require_short_class⟩)
    (d_require_short_class : PySem.W.codeIn K cd_require_short_class "require_short_class" = true)
    (e_require_short_class : PySem.W.keepIn K (.ref f_require_short_class) = true)
    (a_is_class_in : PySem.W.nsIn K mainGlobals "is_class_in" = some (some (.ref f_is_class_in)))
    (l_is_class_in : K.lookup f_is_class_in = some ⟨oc_is_class_in, od_is_class_in, .func (PySem.W.fnOf "is_class_in" "is_class_in" (defArgs st_is_class_in) (defBody st_is_class_in) (defScope st_is_class_in) .none kV_is_class_in dc_is_class_in pm_is_class_in an_is_class_in cd_is_class_in ct_is_class_in), sl_is_class_in⟩)
    (d_is_class_in : PySem.W.codeIn K cd_is_class_in "is_class_in" = true)
    (e_is_class_in : PySem.W.keepIn K (.ref f_is_class_in) = true)
    (a_require_class : PySem.W.nsIn K mainGlobals "require_class" = some (some (.ref f_require_class)))
    (l_require_class : K.lookup f_require_class = some ⟨oc_require_class, od_require_class, .func (PySem.W.fnOf "require_class" "require_class" (defArgs st_require_class) (defBody st_require_class) (defScope st_require_class) .none kV_require_class dc_require_class pm_require_class an_require_class cd_require_class ct_require_class), sl_require_class⟩)
    (d_require_class : PySem.W.codeIn K cd_require_class "require_class" = true)
    (e_require_class : PySem.W.keepIn K (.ref f_require_class) = true)
    (a_class_with_ends : PySem.W.nsIn K mainGlobals "class_with_ends" = some (some (.ref f_class_with_ends)))
    (l_class_with_ends : K.lookup f_class_with_ends = some ⟨oc_class_with_ends, od_class_with_ends, .func (PySem.W.fnOf "class_with_ends" "class_with_ends" (defArgs st_class_with_ends) (defBody st_class_with_ends) (defScope st_class_with_ends) .none kV_class_with_ends dc_class_with_ends pm_class_with_ends an_class_with_ends cd_class_with_ends ct_class_with_ends), sl_class_with_ends⟩)
    (d_class_with_ends : PySem.W.codeIn K cd_class_with_ends "class_with_ends" = true)
    (e_class_with_ends : PySem.W.keepIn K (.ref f_class_with_ends) = true)
    (a__law_moved_right : PySem.W.nsIn K mainGlobals "_law_moved_right" = some (some (.ref f__law_moved_right)))
    (l__law_moved_right : K.lookup f__law_moved_right = some ⟨oc__law_moved_right, od__law_moved_right, .func (PySem.W.fnOf "_law_moved_right" "_law_moved_right" (defArgs st__law_moved_right) (defBody st__law_moved_right) (defScope st__law_moved_right) .none kV__law_moved_right dc__law_moved_right pm__law_moved_right an__law_moved_right cd__law_moved_right ct__law_moved_right), sl__law_moved_right⟩)
    (d__law_moved_right : PySem.W.codeIn K cd__law_moved_right "_law_moved_right" = true)
    (e__law_moved_right : PySem.W.keepIn K (.ref f__law_moved_right) = true)
    (a_flipped_in : PySem.W.nsIn K mainGlobals "flipped_in" = some (some (.ref f_flipped_in)))
    (l_flipped_in : K.lookup f_flipped_in = some ⟨oc_flipped_in, od_flipped_in, .func (PySem.W.fnOf "flipped_in" "flipped_in" (defArgs st_flipped_in) (defBody st_flipped_in) (defScope st_flipped_in) .none kV_flipped_in dc_flipped_in pm_flipped_in an_flipped_in cd_flipped_in ct_flipped_in), sl_flipped_in⟩)
    (d_flipped_in : PySem.W.codeIn K cd_flipped_in "flipped_in" = true)
    (e_flipped_in : PySem.W.keepIn K (.ref f_flipped_in) = true)
    (a_turned_over : PySem.W.nsIn K mainGlobals "turned_over" = some (some (.ref f_turned_over)))
    (l_turned_over : K.lookup f_turned_over = some ⟨oc_turned_over, od_turned_over, .func (PySem.W.fnOf "turned_over" "turned_over" (defArgs st_turned_over) (defBody st_turned_over) (defScope st_turned_over) .none kV_turned_over dc_turned_over pm_turned_over an_turned_over cd_turned_over ct_turned_over), sl_turned_over⟩)
    (d_turned_over : PySem.W.codeIn K cd_turned_over "turned_over" = true)
    (e_turned_over : PySem.W.keepIn K (.ref f_turned_over) = true)
    (a__law_turned_right : PySem.W.nsIn K mainGlobals "_law_turned_right" = some (some (.ref f__law_turned_right)))
    (l__law_turned_right : K.lookup f__law_turned_right = some ⟨oc__law_turned_right, od__law_turned_right, .func (PySem.W.fnOf "_law_turned_right" "_law_turned_right" (defArgs st__law_turned_right) (defBody st__law_turned_right) (defScope st__law_turned_right) .none kV__law_turned_right dc__law_turned_right pm__law_turned_right an__law_turned_right cd__law_turned_right ct__law_turned_right), sl__law_turned_right⟩)
    (d__law_turned_right : PySem.W.codeIn K cd__law_turned_right "_law_turned_right" = true)
    (e__law_turned_right : PySem.W.keepIn K (.ref f__law_turned_right) = true)
    (a_law : PySem.W.nsIn K mainGlobals "law" = some (some (.ref f_law)))
    (l_law : K.lookup f_law = some ⟨oc_law, od_law, .func (PySem.W.fnOf "law" "law" (defArgs st_law) (defBody st_law) (defScope st_law) .none kV_law dc_law pm_law an_law cd_law ct_law), sl_law⟩)
    (d_law : PySem.W.codeIn K cd_law "law" = true)
    (e_law : PySem.W.keepIn K (.ref f_law) = true)
    (z_abs : PySem.W.nsIn K mainGlobals "abs" = some none)
    (z_all : PySem.W.nsIn K mainGlobals "all" = some none)
    (z_bool : PySem.W.nsIn K mainGlobals "bool" = some none)
    (z_enumerate : PySem.W.nsIn K mainGlobals "enumerate" = some none)
    (z_int : PySem.W.nsIn K mainGlobals "int" = some none)
    (z_isinstance : PySem.W.nsIn K mainGlobals "isinstance" = some none)
    (z_len : PySem.W.nsIn K mainGlobals "len" = some none)
    (z_list : PySem.W.nsIn K mainGlobals "list" = some none)
    (z_max : PySem.W.nsIn K mainGlobals "max" = some none)
    (z_min : PySem.W.nsIn K mainGlobals "min" = some none)
    (z_range : PySem.W.nsIn K mainGlobals "range" = some none)
    (z_tuple : PySem.W.nsIn K mainGlobals "tuple" = some none)
    (z_zip : PySem.W.nsIn K mainGlobals "zip" = some none)
    (z_MOST_PLACES : PySem.W.nsIn K mainGlobals "MOST_PLACES" = some (some (.int (60) t_MOST_PLACES)))
    (z_MOST_RINGS : PySem.W.nsIn K mainGlobals "MOST_RINGS" = some (some (.int (12) t_MOST_RINGS)))
    (z_MOST_SIDE : PySem.W.nsIn K mainGlobals "MOST_SIDE" = some (some (.int (60) t_MOST_SIDE)))
    (z_SIXTY_DIGITS : PySem.W.nsIn K mainGlobals "SIXTY_DIGITS" = some (some (.int (1000000000000000000000000000000000000000000000000000000000000) t_SIXTY_DIGITS)))
    (law_true : ∀ ns : List Int, ns.length ≤ 63 → m_law [.lst (ns.map D.int)] [] = some (.ok (.bl true) [])) :
    ∃ fd : FuncData, (∀ (s : Shared) (v : Value), BindsTo s fd ⟨[v], []⟩ [("_law_script", v)]) ∧ ∀ base : Heap, K.In base → base.Ns mainGlobals mg → FnOk PySem.Challenge.pw_ringstairs_k15_whole_greatest_heaps_and w K mg base (L2.CX PySem.Challenge.pw_ringstairs_k15_whole_greatest_heaps_and w) 8 fa fd ["_law_script"] (Sm.spLaw K) := by
  have e := hfa.symm.trans (PySem.W.mg_of X G a_law)
  cases e
  have T : Tops PySem.Challenge.pw_ringstairs_k15_whole_greatest_heaps_and K mg := ⟨PySem.W.mg_none_of X G z_abs, PySem.W.mg_none_of X G z_all, PySem.W.mg_none_of X G z_bool, PySem.W.mg_none_of X G z_enumerate, PySem.W.mg_none_of X G z_int, PySem.W.mg_none_of X G z_isinstance, PySem.W.mg_none_of X G z_len, PySem.W.mg_none_of X G z_list, PySem.W.mg_none_of X G z_max, PySem.W.mg_none_of X G z_min, PySem.W.mg_none_of X G z_range, PySem.W.mg_none_of X G z_tuple, PySem.W.mg_none_of X G z_zip, ⟨_, PySem.W.mg_of X G z_MOST_PLACES⟩, ⟨_, PySem.W.mg_of X G z_MOST_RINGS⟩, ⟨_, PySem.W.mg_of X G z_MOST_SIDE⟩, ⟨_, PySem.W.mg_of X G z_SIXTY_DIGITS⟩⟩
  have F__law_dice := fun_mk (st := st__law_dice) l__law_dice d__law_dice e__law_dice
  have B__law_dice := F__law_dice.binds (ps := ["_law_script", "_law_at"]) fun _ _ _ _ _ _ us hl => match us, hl with | [_, _], _ => rfl
  have c__law_dice := fun base : Heap => k__law_dice (w := w) (base := base) T F__law_dice (PySem.W.mg_of X G a__law_dice) B__law_dice 
  have F__law_roll := fun_mk (st := st__law_roll) l__law_roll d__law_roll e__law_roll
  have B__law_roll := F__law_roll.binds (ps := ["_law_dice_here", "_law_total"]) fun _ _ _ _ _ _ us hl => match us, hl with | [_, _], _ => rfl
  have c__law_roll := fun base : Heap => k__law_roll (w := w) (base := base) T F__law_roll (PySem.W.mg_of X G a__law_roll) B__law_roll 
  have F__law_ring := fun_mk (st := st__law_ring) l__law_ring d__law_ring e__law_ring
  have B__law_ring := F__law_ring.binds (ps := ["_law_dice_here", "_law_most"]) fun _ _ _ _ _ _ us hl => match us, hl with | [_, _], _ => rfl
  have c__law_ring := fun base : Heap => k__law_ring (w := w) (base := base) T F__law_ring (PySem.W.mg_of X G a__law_ring) B__law_ring (c__law_roll base)
  have F__law_one_of := fun_mk (st := st__law_one_of) l__law_one_of d__law_one_of e__law_one_of
  have B__law_one_of := F__law_one_of.binds (ps := ["_law_dice_here", "_law_items"]) fun _ _ _ _ _ _ us hl => match us, hl with | [_, _], _ => rfl
  have c__law_one_of := fun base : Heap => k__law_one_of (w := w) (base := base) T F__law_one_of (PySem.W.mg_of X G a__law_one_of) B__law_one_of (c__law_roll base)
  have F__law_common := fun_mk (st := st__law_common) l__law_common d__law_common e__law_common
  have B__law_common := F__law_common.binds (ps := ["_law_one", "_law_other"]) fun _ _ _ _ _ _ us hl => match us, hl with | [_, _], _ => rfl
  have c__law_common := fun base : Heap => k__law_common (w := w) (base := base) T F__law_common (PySem.W.mg_of X G a__law_common) B__law_common 
  have F__law_ring_of := fun_mk (st := st__law_ring_of) l__law_ring_of d__law_ring_of e__law_ring_of
  have B__law_ring_of := F__law_ring_of.binds (ps := ["_law_dice_here", "_law_k", "_law_times"]) fun _ _ _ _ _ _ us hl => match us, hl with | [_, _, _], _ => rfl
  have c__law_ring_of := fun base : Heap => k__law_ring_of (w := w) (base := base) T F__law_ring_of (PySem.W.mg_of X G a__law_ring_of) B__law_ring_of (c__law_roll base) (c__law_one_of base) (c__law_common base)
  have F__law_chain := fun_mk (st := st__law_chain) l__law_chain d__law_chain e__law_chain
  have B__law_chain := F__law_chain.binds (ps := ["_law_dice_here", "_law_rings", "_law_most"]) fun _ _ _ _ _ _ us hl => match us, hl with | [_, _, _], _ => rfl
  have c__law_chain := fun base : Heap => k__law_chain (w := w) (base := base) T F__law_chain (PySem.W.mg_of X G a__law_chain) B__law_chain (c__law_roll base) (c__law_ring base) (c__law_ring_of base)
  have F__law_tuple := fun_mk (st := st__law_tuple) l__law_tuple d__law_tuple e__law_tuple
  have B__law_tuple := F__law_tuple.binds (ps := ["_law_dice_here", "_law_chain_here"]) fun _ _ _ _ _ _ us hl => match us, hl with | [_, _], _ => rfl
  have c__law_tuple := fun base : Heap => k__law_tuple (w := w) (base := base) T F__law_tuple (PySem.W.mg_of X G a__law_tuple) B__law_tuple (c__law_roll base)
  have F_holds_in := fun_mk (st := st_holds_in) l_holds_in d_holds_in e_holds_in
  have B_holds_in := F_holds_in.binds (ps := ["heap", "other"]) fun _ _ _ _ _ _ us hl => match us, hl with | [_, _], _ => rfl
  have c_holds_in := fun base : Heap => k_holds_in (w := w) (base := base) T F_holds_in (PySem.W.mg_of X G a_holds_in) B_holds_in 
  have F_is_whole := fun_mk (st := st_is_whole) l_is_whole d_is_whole e_is_whole
  have B_is_whole := F_is_whole.binds (ps := ["value"]) fun _ _ _ _ _ _ us hl => match us, hl with | [_], _ => rfl
  have c_is_whole := fun base : Heap => k_is_whole (w := w) (base := base) T F_is_whole (PySem.W.mg_of X G a_is_whole) B_is_whole 
  have F_is_within := fun_mk (st := st_is_within) l_is_within d_is_within e_is_within
  have B_is_within := F_is_within.binds (ps := ["value", "least", "most"]) fun _ _ _ _ _ _ us hl => match us, hl with | [_, _, _], _ => rfl
  have c_is_within := fun base : Heap => k_is_within (w := w) (base := base) T F_is_within (PySem.W.mg_of X G a_is_within) B_is_within (c_is_whole base)
  have F_is_heap_in := fun_mk (st := st_is_heap_in) l_is_heap_in d_is_heap_in e_is_heap_in
  have B_is_heap_in := F_is_heap_in.binds (ps := ["value"]) fun _ _ _ _ _ _ us hl => match us, hl with | [_], _ => rfl
  have c_is_heap_in := fun base : Heap => k_is_heap_in (w := w) (base := base) T F_is_heap_in (PySem.W.mg_of X G a_is_heap_in) B_is_heap_in (c_is_within base)
  have F_require_heap := fun_mk (st := st_require_heap) l_require_heap d_require_heap e_require_heap
  have B_require_heap := F_require_heap.binds (ps := ["heap"]) fun _ _ _ _ _ _ us hl => match us, hl with | [_], _ => rfl
  have c_require_heap := fun base : Heap => k_require_heap (w := w) (base := base) T F_require_heap (PySem.W.mg_of X G a_require_heap) B_require_heap (c_is_heap_in base)
  have F_require_two_heaps := fun_mk (st := st_require_two_heaps) l_require_two_heaps d_require_two_heaps e_require_two_heaps
  have B_require_two_heaps := F_require_two_heaps.binds (ps := ["one", "other"]) fun _ _ _ _ _ _ us hl => match us, hl with | [_, _], _ => rfl
  have c_require_two_heaps := fun base : Heap => k_require_two_heaps (w := w) (base := base) T F_require_two_heaps (PySem.W.mg_of X G a_require_two_heaps) B_require_two_heaps (c_require_heap base)
  have F_is_held := fun_mk (st := st_is_held) l_is_held d_is_held e_is_held
  have B_is_held := F_is_held.binds (ps := ["heap", "other"]) fun _ _ _ _ _ _ us hl => match us, hl with | [_, _], _ => rfl
  have c_is_held := fun base : Heap => k_is_held (w := w) (base := base) T F_is_held (PySem.W.mg_of X G a_is_held) B_is_held (c_holds_in base) (c_require_two_heaps base)
  have F_common_in := fun_mk (st := st_common_in) l_common_in d_common_in e_common_in
  have B_common_in := F_common_in.binds (ps := ["one", "other"]) fun _ _ _ _ _ _ us hl => match us, hl with | [_, _], _ => rfl
  have c_common_in := fun base : Heap => k_common_in (w := w) (base := base) T F_common_in (PySem.W.mg_of X G a_common_in) B_common_in 
  have F_common_of := fun_mk (st := st_common_of) l_common_of d_common_of e_common_of
  have B_common_of := F_common_of.binds (ps := ["one", "other"]) fun _ _ _ _ _ _ us hl => match us, hl with | [_, _], _ => rfl
  have c_common_of := fun base : Heap => k_common_of (w := w) (base := base) T F_common_of (PySem.W.mg_of X G a_common_of) B_common_of (c_common_in base) (c_require_two_heaps base)
  have F_is_ring_in := fun_mk (st := st_is_ring_in) l_is_ring_in d_is_ring_in e_is_ring_in
  have B_is_ring_in := F_is_ring_in.binds (ps := ["value"]) fun _ _ _ _ _ _ us hl => match us, hl with | [_], _ => rfl
  have c_is_ring_in := fun base : Heap => k_is_ring_in (w := w) (base := base) T F_is_ring_in (PySem.W.mg_of X G a_is_ring_in) B_is_ring_in (c_is_within base)
  have F_addable_columns := fun_mk (st := st_addable_columns) l_addable_columns d_addable_columns e_addable_columns
  have B_addable_columns := F_addable_columns.binds (ps := ["heap"]) fun _ _ _ _ _ _ us hl => match us, hl with | [_], _ => rfl
  have c_addable_columns := fun base : Heap => k_addable_columns (w := w) (base := base) T F_addable_columns (PySem.W.mg_of X G a_addable_columns) B_addable_columns 
  have F_risen := fun_mk (st := st_risen) l_risen d_risen e_risen
  have B_risen := F_risen.binds (ps := ["heap", "columns"]) fun _ _ _ _ _ _ us hl => match us, hl with | [_, _], _ => rfl
  have c_risen := fun base : Heap => k_risen (w := w) (base := base) T F_risen (PySem.W.mg_of X G a_risen) B_risen 
  have F_grown_in := fun_mk (st := st_grown_in) l_grown_in d_grown_in e_grown_in
  have B_grown_in := F_grown_in.binds (ps := ["heap", "ring", "place"]) fun _ _ _ _ _ _ us hl => match us, hl with | [_, _, _], _ => rfl
  have c_grown_in := fun base : Heap => k_grown_in (w := w) (base := base) T F_grown_in (PySem.W.mg_of X G a_grown_in) B_grown_in (c_addable_columns base) (c_risen base)
  have F_require_small_sides := fun_mk (st := st_require_small_sides) l_require_small_sides d_require_small_sides e_require_small_sides
  have B_require_small_sides := F_require_small_sides.binds (ps := ["heap"]) fun _ _ _ _ _ _ us hl => match us, hl with | [_], _ => rfl
  have c_require_small_sides := fun base : Heap => k_require_small_sides (w := w) (base := base) T F_require_small_sides (PySem.W.mg_of X G a_require_small_sides) B_require_small_sides 
  have F_grown := fun_mk (st := st_grown) l_grown d_grown e_grown
  have B_grown := F_grown.binds (ps := ["heap", "ring", "place"]) fun _ _ _ _ _ _ us hl => match us, hl with | [_, _, _], _ => rfl
  have c_grown := fun base : Heap => k_grown (w := w) (base := base) T F_grown (PySem.W.mg_of X G a_grown) B_grown (c_is_within base) (c_is_ring_in base) (c_grown_in base) (c_require_heap base) (c_require_small_sides base)
  have F_is_chain_in := fun_mk (st := st_is_chain_in) l_is_chain_in d_is_chain_in e_is_chain_in
  have B_is_chain_in := F_is_chain_in.binds (ps := ["value"]) fun _ _ _ _ _ _ us hl => match us, hl with | [_], _ => rfl
  have c_is_chain_in := fun base : Heap => k_is_chain_in (w := w) (base := base) T F_is_chain_in (PySem.W.mg_of X G a_is_chain_in) B_is_chain_in (c_is_ring_in base)
  have F_require_chain := fun_mk (st := st_require_chain) l_require_chain d_require_chain e_require_chain
  have B_require_chain := F_require_chain.binds (ps := ["value"]) fun _ _ _ _ _ _ us hl => match us, hl with | [_], _ => rfl
  have c_require_chain := fun base : Heap => k_require_chain (w := w) (base := base) T F_require_chain (PySem.W.mg_of X G a_require_chain) B_require_chain (c_is_chain_in base)
  have F_is_tuple_in := fun_mk (st := st_is_tuple_in) l_is_tuple_in d_is_tuple_in e_is_tuple_in
  have B_is_tuple_in := F_is_tuple_in.binds (ps := ["chain", "value"]) fun _ _ _ _ _ _ us hl => match us, hl with | [_, _], _ => rfl
  have c_is_tuple_in := fun base : Heap => k_is_tuple_in (w := w) (base := base) T F_is_tuple_in (PySem.W.mg_of X G a_is_tuple_in) B_is_tuple_in (c_is_within base)
  have F_require_tuple := fun_mk (st := st_require_tuple) l_require_tuple d_require_tuple e_require_tuple
  have B_require_tuple := F_require_tuple.binds (ps := ["chain", "value"]) fun _ _ _ _ _ _ us hl => match us, hl with | [_, _], _ => rfl
  have c_require_tuple := fun base : Heap => k_require_tuple (w := w) (base := base) T F_require_tuple (PySem.W.mg_of X G a_require_tuple) B_require_tuple (c_is_tuple_in base)
  have F_heaps_in := fun_mk (st := st_heaps_in) l_heaps_in d_heaps_in e_heaps_in
  have B_heaps_in := F_heaps_in.binds (ps := ["chain", "places"]) fun _ _ _ _ _ _ us hl => match us, hl with | [_, _], _ => rfl
  have c_heaps_in := fun base : Heap => k_heaps_in (w := w) (base := base) T F_heaps_in (PySem.W.mg_of X G a_heaps_in) B_heaps_in (c_grown_in base)
  have F_heap_in := fun_mk (st := st_heap_in) l_heap_in d_heap_in e_heap_in
  have B_heap_in := F_heap_in.binds (ps := ["chain", "places"]) fun _ _ _ _ _ _ us hl => match us, hl with | [_, _], _ => rfl
  have c_heap_in := fun base : Heap => k_heap_in (w := w) (base := base) T F_heap_in (PySem.W.mg_of X G a_heap_in) B_heap_in (c_heaps_in base)
  have F_heap_of := fun_mk (st := st_heap_of) l_heap_of d_heap_of e_heap_of
  have B_heap_of := F_heap_of.binds (ps := ["chain", "places"]) fun _ _ _ _ _ _ us hl => match us, hl with | [_, _], _ => rfl
  have c_heap_of := fun base : Heap => k_heap_of (w := w) (base := base) T F_heap_of (PySem.W.mg_of X G a_heap_of) B_heap_of (c_require_chain base) (c_require_tuple base) (c_heap_in base)
  have F__law_grown := fun_mk (st := st__law_grown) l__law_grown d__law_grown e__law_grown
  have B__law_grown := F__law_grown.binds (ps := ["_law_heap_here", "_law_ring_here", "_law_x"]) fun _ _ _ _ _ _ us hl => match us, hl with | [_, _, _], _ => rfl
  have c__law_grown := fun base : Heap => k__law_grown (w := w) (base := base) T F__law_grown (PySem.W.mg_of X G a__law_grown) B__law_grown 
  have F__law_heap := fun_mk (st := st__law_heap) l__law_heap d__law_heap e__law_heap
  have B__law_heap := F__law_heap.binds (ps := ["_law_chain_here", "_law_x"]) fun _ _ _ _ _ _ us hl => match us, hl with | [_, _], _ => rfl
  have c__law_heap := fun base : Heap => k__law_heap (w := w) (base := base) T F__law_heap (PySem.W.mg_of X G a__law_heap) B__law_heap (c__law_grown base)
  have F__law_some_added := fun_mk (st := st__law_some_added) l__law_some_added d__law_some_added e__law_some_added
  have B__law_some_added := F__law_some_added.binds (ps := ["_law_dice_here", "_law_heap_here", "_law_ring_here", "_law_place"]) fun _ _ _ _ _ _ us hl => match us, hl with | [_, _, _, _], _ => rfl
  have c__law_some_added := fun base : Heap => k__law_some_added (w := w) (base := base) T F__law_some_added (PySem.W.mg_of X G a__law_some_added) B__law_some_added (c__law_roll base)
  have F__law_held := fun_mk (st := st__law_held) l__law_held d__law_held e__law_held
  have B__law_held := F__law_held.binds (ps := ["_law_one", "_law_other"]) fun _ _ _ _ _ _ us hl => match us, hl with | [_, _], _ => rfl
  have c__law_held := fun base : Heap => k__law_held (w := w) (base := base) T F__law_held (PySem.W.mg_of X G a__law_held) B__law_held 
  have F__law_meet_of := fun_mk (st := st__law_meet_of) l__law_meet_of d__law_meet_of e__law_meet_of
  have B__law_meet_of := F__law_meet_of.binds (ps := ["_law_one", "_law_other"]) fun _ _ _ _ _ _ us hl => match us, hl with | [_, _], _ => rfl
  have c__law_meet_of := fun base : Heap => k__law_meet_of (w := w) (base := base) T F__law_meet_of (PySem.W.mg_of X G a__law_meet_of) B__law_meet_of 
  have F__law_growth_right := fun_mk (st := st__law_growth_right) l__law_growth_right d__law_growth_right e__law_growth_right
  have B__law_growth_right := F__law_growth_right.binds (ps := ["_law_dice_here", "_law_chain_here", "_law_x"]) fun _ _ _ _ _ _ us hl => match us, hl with | [_, _, _], _ => rfl
  have c__law_growth_right := fun base : Heap => k__law_growth_right (w := w) (base := base) T F__law_growth_right (PySem.W.mg_of X G a__law_growth_right) B__law_growth_right (c_is_held base) (c_common_of base) (c_grown base) (c_heap_of base) (c__law_roll base) (c__law_grown base) (c__law_heap base) (c__law_some_added base) (c__law_held base) (c__law_meet_of base)
  have F_is_integer := fun_mk (st := st_is_integer) l_is_integer d_is_integer e_is_integer
  have B_is_integer := F_is_integer.binds (ps := ["value"]) fun _ _ _ _ _ _ us hl => match us, hl with | [_], _ => rfl
  have c_is_integer := fun base : Heap => k_is_integer (w := w) (base := base) T F_is_integer (PySem.W.mg_of X G a_is_integer) B_is_integer (c_is_whole base)
  have F_require_integer := fun_mk (st := st_require_integer) l_require_integer d_require_integer e_require_integer
  have B_require_integer := F_require_integer.binds (ps := ["value"]) fun _ _ _ _ _ _ us hl => match us, hl with | [_], _ => rfl
  have c_require_integer := fun base : Heap => k_require_integer (w := w) (base := base) T F_require_integer (PySem.W.mg_of X G a_require_integer) B_require_integer (c_is_integer base)
  have F_moved_ends_in := fun_mk (st := st_moved_ends_in) l_moved_ends_in d_moved_ends_in e_moved_ends_in
  have B_moved_ends_in := F_moved_ends_in.binds (ps := ["chain", "degree", "places", "a", "b"]) fun _ _ _ _ _ _ us hl => match us, hl with | [_, _, _, _, _], _ => rfl
  have c_moved_ends_in := fun base : Heap => k_moved_ends_in (w := w) (base := base) T F_moved_ends_in (PySem.W.mg_of X G a_moved_ends_in) B_moved_ends_in 
  have F_require_short_class := fun_mk (st := st_require_short_class) l_require_short_class d_require_short_class e_require_short_class
  have B_require_short_class := F_require_short_class.binds (ps := ["found"]) fun _ _ _ _ _ _ us hl => match us, hl with | [_], _ => rfl
  have c_require_short_class := fun base : Heap => k_require_short_class (w := w) (base := base) T F_require_short_class (PySem.W.mg_of X G a_require_short_class) B_require_short_class (c_is_integer base)
  have F_is_class_in := fun_mk (st := st_is_class_in) l_is_class_in d_is_class_in e_is_class_in
  have B_is_class_in := F_is_class_in.binds (ps := ["chain", "value"]) fun _ _ _ _ _ _ us hl => match us, hl with | [_, _], _ => rfl
  have c_is_class_in := fun base : Heap => k_is_class_in (w := w) (base := base) T F_is_class_in (PySem.W.mg_of X G a_is_class_in) B_is_class_in (c_is_integer base) (c_is_tuple_in base)
  have F_require_class := fun_mk (st := st_require_class) l_require_class d_require_class e_require_class
  have B_require_class := F_require_class.binds (ps := ["chain", "value"]) fun _ _ _ _ _ _ us hl => match us, hl with | [_, _], _ => rfl
  have c_require_class := fun base : Heap => k_require_class (w := w) (base := base) T F_require_class (PySem.W.mg_of X G a_require_class) B_require_class (c_is_class_in base)
  have F_class_with_ends := fun_mk (st := st_class_with_ends) l_class_with_ends d_class_with_ends e_class_with_ends
  have B_class_with_ends := F_class_with_ends.binds (ps := ["chain", "one", "a", "b"]) fun _ _ _ _ _ _ us hl => match us, hl with | [_, _, _, _], _ => rfl
  have c_class_with_ends := fun base : Heap => k_class_with_ends (w := w) (base := base) T F_class_with_ends (PySem.W.mg_of X G a_class_with_ends) B_class_with_ends (c_require_chain base) (c_require_integer base) (c_moved_ends_in base) (c_require_short_class base) (c_require_class base)
  have F__law_moved_right := fun_mk (st := st__law_moved_right) l__law_moved_right d__law_moved_right e__law_moved_right
  have B__law_moved_right := F__law_moved_right.binds (ps := ["_law_dice_here", "_law_chain_here", "_law_x"]) fun _ _ _ _ _ _ us hl => match us, hl with | [_, _, _], _ => rfl
  have c__law_moved_right := fun base : Heap => k__law_moved_right (w := w) (base := base) T F__law_moved_right (PySem.W.mg_of X G a__law_moved_right) B__law_moved_right (c_class_with_ends base) (c_is_held base) (c_grown base) (c_heap_of base) (c__law_roll base) (c__law_one_of base) (c__law_grown base)
  have F_flipped_in := fun_mk (st := st_flipped_in) l_flipped_in d_flipped_in e_flipped_in
  have B_flipped_in := F_flipped_in.binds (ps := ["heap"]) fun _ _ _ _ _ _ us hl => match us, hl with | [_], _ => rfl
  have c_flipped_in := fun base : Heap => k_flipped_in (w := w) (base := base) T F_flipped_in (PySem.W.mg_of X G a_flipped_in) B_flipped_in 
  have F_turned_over := fun_mk (st := st_turned_over) l_turned_over d_turned_over e_turned_over
  have B_turned_over := F_turned_over.binds (ps := ["heap"]) fun _ _ _ _ _ _ us hl => match us, hl with | [_], _ => rfl
  have c_turned_over := fun base : Heap => k_turned_over (w := w) (base := base) T F_turned_over (PySem.W.mg_of X G a_turned_over) B_turned_over (c_flipped_in base) (c_require_heap base)
  have F__law_turned_right := fun_mk (st := st__law_turned_right) l__law_turned_right d__law_turned_right e__law_turned_right
  have B__law_turned_right := F__law_turned_right.binds (ps := ["_law_chain_here", "_law_x"]) fun _ _ _ _ _ _ us hl => match us, hl with | [_, _], _ => rfl
  have c__law_turned_right := fun base : Heap => k__law_turned_right (w := w) (base := base) T F__law_turned_right (PySem.W.mg_of X G a__law_turned_right) B__law_turned_right (c_turned_over base) (c_heap_of base)
  have F_law := fun_mk (st := st_law) l_law d_law e_law
  exact ⟨_, fun s v => .of_eq rfl, fun base _ _ => (ok_law T F_law (c__law_dice base) (c__law_roll base) (c__law_chain base) (c__law_tuple base) (c__law_growth_right base) (c__law_moved_right base) (c__law_turned_right base)).imp fun vs H Q E q => Sm.law_end law_true q⟩
end
end Sk15
end
section
set_option maxRecDepth 100000
set_option maxHeartbeats 0
set_option exponentiation.threshold 1000000
namespace Sm
open PySem L2
/-! ### reckoning with typed lists -/
theorem lcs_T {α : Type} {g : Gd} {t : Tg} {c : S Bool} {x : S D} {e : Env} {C : Cells} (hg : g C = true) (en : α → D) (p : α → Bool) (f : α → D) : ∀ (xs : List α), (∀ a ∈ xs, ∃ e1, t.put (en a) e = some e1 ∧ c e1 C = some (.ok (p a) C) ∧ (p a = true → x e1 C = some (.ok (f a) C))) →
    lcs g t c x (xs.map en) e C = some (.ok ((xs.filter p).map f) C)
  | [], _ => by
    show lcs g t c x [] e C = _
    unfold lcs
    rw [if_pos hg]
    rfl
  | d :: r, h => by
    obtain ⟨e1, h1, h2, h3⟩ := h d List.mem_cons_self
    have ih := lcs_T hg en p f r fun d' hd' => h d' (List.mem_cons_of_mem _ hd')
    rw [List.map_cons]
    unfold lcs
    rw [if_pos hg, h1]
    cases hp : p d with
    | false =>
      rw [hp] at h2
      simp only [h2, ih, List.filter_cons, hp, Bool.false_eq_true, if_false]
    | true =>
      rw [hp] at h2
      simp only [h2, h3 hp, ih, List.filter_cons, hp, if_true, List.map_cons]
/-- a comprehension with a test -/
theorem lc_T {α : Type} {it : SW} {t : Tg} {c : S Bool} {x : S D} {vs : List Nat} {e : Env} {C : Cells} {g : Gd} (en : α → D) (xs : List α) (p : α → Bool) (f : α → D) (hi : it e C = some (.ok (xs.map en, g) C)) (hg : g C = true) (hl : xs.length ≤ 1000000)
    (h : ∀ a ∈ xs, ∃ e1, t.put (en a) (wipeE e vs) = some e1 ∧ c e1 C = some (.ok (p a) C) ∧ (p a = true → x e1 C = some (.ok (f a) C))) : xLc it t c x vs e C = some (.ok ((xs.filter p).map f) C) :=
  xLc_ok hi (by rw [List.length_map]; exact hl) (lcs_T hg en p f xs h)
/-- a comprehension without a test -/
theorem lc_T0 {α : Type} {it : SW} {t : Tg} {x : S D} {vs : List Nat} {e : Env} {C : Cells} {g : Gd} (en : α → D) (xs : List α) (f : α → D) (hi : it e C = some (.ok (xs.map en, g) C)) (hg : g C = true) (hl : xs.length ≤ 1000000)
    (h : ∀ a ∈ xs, ∃ e1, t.put (en a) (wipeE e vs) = some e1 ∧ x e1 C = some (.ok (f a) C)) : xLc it t (S.val true) x vs e C = some (.ok (xs.map f) C) := by
  have e1 := lc_T (c := S.val true) (x := x) (vs := vs) (t := t) en xs (fun _ => true) f hi hg hl fun a ha => by
    obtain ⟨e1, h1, h2⟩ := h a ha
    exact ⟨e1, h1, rfl, fun _ => h2⟩
  rwa [List.filter_eq_self.mpr fun _ _ => rfl] at e1
/-- a loop with a state -/
theorem lp_T {α σ : Type} {t : Tg} {b : SS} (en : α → D) (f : σ → α → σ) (R : σ → Env → Cells → Prop) : ∀ (xs : List α) (s : σ) (e : Env) (C : Cells), R s e C → (∀ a ∈ xs, ∀ s e C, R s e C → ∃ e1, t.put (en a) e = some e1 ∧ ∃ e2 C2, b e1 C = some (.nx e2 C2) ∧ R (f s a) e2 C2) →
    ∃ e2 C2, lp gd0 t b (xs.map en) e C = some (.nx e2 C2) ∧ R (xs.foldl f s) e2 C2
  | [], s, e, C, h, _ => ⟨e, C, by show lp gd0 t b [] e C = _; unfold lp; rfl, h⟩
  | d :: r, s, e, C, h, hs => by
    obtain ⟨e1, h1, e2, C2, h2, h3⟩ := hs d List.mem_cons_self s e C h
    obtain ⟨e3, C3, g1, g2⟩ := lp_T en f R r (f s d) e2 C2 h3 fun d' hd' => hs d' (List.mem_cons_of_mem _ hd')
    refine ⟨e3, C3, ?_, g2⟩
    rw [List.map_cons]
    unfold lp
    simp only [gd0, if_true, h1, h2, g1]
theorem seq_nx {a b : SS} {e e' : Env} {C C' : Cells} (h : a e C = some (.nx e' C')) : xSeq a b e C = b e' C' := by
  unfold xSeq
  rw [h]
abbrev iD (ns : List Int) : List D := ns.map D.int
/-- a tuple, a list of ints -/
abbrev iT (ns : List Int) : D := .tup (ns.map D.int)
abbrev iL (ns : List Int) : D := .lst (ns.map D.int)
theorem nocels_i : ∀ ns : List Int, nocels (ns.map D.int) = true
  | [] => rfl
  | n :: ns => by
    show (nocel (.int n) && nocels (ns.map D.int)) = true
    rw [nocels_i ns]
    rfl
theorem nocels_all : ∀ {ds : List D}, (∀ d ∈ ds, nocel d = true) → nocels ds = true
  | [], _ => rfl
  | d :: ds, h => by
    simp only [nocels, h d List.mem_cons_self, nocels_all fun d' hd' => h d' (List.mem_cons_of_mem _ hd'), Bool.and_true]
theorem okEs_i : ∀ (ns : List Int) (k : Nat), okEs (ns.map D.int) k = true
  | [], k => by simp [okEs]
  | n :: ns, k => by
    rw [List.map_cons]
    cases k <;> simp [okEs, okE, okEs_i ns]
theorem ixN_i {n : Nat} {i : Int} (h0 : 0 ≤ i) (h1 : i < n) : ixN n i = some i.toNat := by
  unfold ixN
  simp [h0, h1]
theorem getD_map {ns : List Int} {i : Nat} (h : i < ns.length) : (ns.map D.int)[i]? = some (.int (ns.getD i 0)) := by
  rw [List.getElem?_map, List.getD_eq_getElem?_getD, List.getElem?_eq_getElem h]
  rfl
theorem ix_T {ns : List Int} {i : Nat} (h : i < ns.length) : dIx (iT ns) (.int (i : Nat)) = some (.int (ns.getD i 0)) := by
  have hl : i < (ns.map D.int).length := by rw [List.length_map]; exact h
  unfold dIx atI
  simp only [ixN_nat hl, Option.bind_some, getD_map h]
theorem ix_L {ns : List Int} {i : Nat} (h : i < ns.length) : dIx (iL ns) (.int (i : Nat)) = some (.int (ns.getD i 0)) := by
  have hl : i < (ns.map D.int).length := by rw [List.length_map]; exact h
  unfold dIx atI
  simp only [ixN_nat hl, Option.bind_some, getD_map h]
theorem eqd_i : ∀ xs ys : List Int, eqds (xs.map D.int) (ys.map D.int) = decide (xs = ys)
  | [], [] => by simp [eqds]
  | [], y :: ys => by simp [eqds]
  | x :: xs, [] => by simp [eqds]
  | x :: xs, y :: ys => by
    rw [List.map_cons, List.map_cons]
    simp only [eqds, eqd_i xs ys, eqd]
    by_cases h : x = y <;> simp [h]
theorem bls_T {α : Type} (p : α → Bool) : ∀ xs : List α, bls (xs.map fun a => .bl (p a)) = some (xs.map p)
  | [] => rfl
  | d :: ds => by
    show ((bls (ds.map fun d => .bl (p d))).map (p d :: ·)) = _
    rw [bls_T p ds]
    rfl
theorem all_T {α : Type} (p : α → Bool) (xs : List α) : dAll [.lst (xs.map fun a => .bl (p a))] = some (.bl (xs.all p)) := by
  unfold dAll
  simp only [bls_T, Option.map_some, List.all_map]
  rfl
theorem any_T {α : Type} (p : α → Bool) (xs : List α) : dAny [.lst (xs.map fun a => .bl (p a))] = some (.bl (xs.any p)) := by
  unfold dAny
  simp only [bls_T, Option.map_some, List.any_map]
  rfl
end Sm
end
section
set_option maxRecDepth 100000
set_option maxHeartbeats 0
set_option exponentiation.threshold 1000000
namespace Sm
open PySem L2
theorem prs_map2 {α β : Type} (f : α → D) (g : β → D) (xs : List α) (ys : List β) : prs (xs.map f) (ys.map g) = (xs.zip ys).map fun p => .tup [f p.1, g p.2] := by
  unfold prs
  rw [List.zip_map, List.map_map]
  rfl
theorem enums_map {α : Type} (f : α → D) (xs : List α) : enums (xs.map f) = (xs.zipIdx 0).map fun p => .tup [.int (p.2 : Nat), f p.1] := by
  unfold enums
  rw [List.zipIdx_map, List.map_map]
  rfl
theorem cut_from {ds : List D} {n : Nat} : cutD ds (some (n : Int)) none = ds.drop n := by
  unfold cutD
  rw [HT.sIx_nat, HT.sIx_none]
  by_cases h : n ≤ ds.length
  · rw [Nat.min_eq_left h, List.take_of_length_le (by rw [List.length_drop]; exact Nat.le_refl _)]
  · rw [Nat.min_eq_right (by omega), List.drop_of_length_le (Nat.le_refl _), List.drop_of_length_le (by omega), List.take_nil]
theorem cut_to {ds : List D} {n : Nat} : cutD ds none (some (n : Int)) = ds.take n := by
  unfold cutD
  rw [HT.sIx_nat, HT.sIx_none, List.drop_zero, Nat.sub_zero]
  by_cases h : n ≤ ds.length
  · rw [Nat.min_eq_left h]
  · rw [Nat.min_eq_right (by omega), List.take_of_length_le (Nat.le_refl _), List.take_of_length_le (by omega)]
theorem lcs2_T {α β : Type} {g : Gd} {t t1 : Tg} {c : S Bool} {it1 : SW} {c1 : S Bool} {x : S D} {e : Env} {vs1 : List Nat} {C : Cells} (hg : g C = true) (en : α → D) (en1 : β → D) (ys : α → List β) (p : α → Bool) (p1 : α → β → Bool) (f : α → β → D) : ∀ (xs : List α),
    (∀ a ∈ xs, ∃ e1, t.put (en a) e = some e1 ∧ c e1 C = some (.ok (p a) C) ∧ (p a = true → ∃ g1, it1 e1 C = some (.ok ((ys a).map en1, g1) C) ∧ g1 C = true ∧ ∀ b ∈ ys a, ∃ e2, t1.put (en1 b) (wipeE e1 vs1) = some e2 ∧ c1 e2 C = some (.ok (p1 a b) C) ∧ (p1 a b = true → x e2 C = some (.ok (f a b) C)))) →
    lcs2 g t c it1 t1 c1 x vs1 (xs.map en) e C = some (.ok ((xs.filter p).flatMap fun a => ((ys a).filter (p1 a)).map (f a)) C)
  | [], _ => by
    show lcs2 g t c it1 t1 c1 x vs1 [] e C = _
    unfold lcs2
    rw [if_pos hg]
    rfl
  | a :: r, h => by
    obtain ⟨e1, h1, h2, h3⟩ := h a List.mem_cons_self
    have ih := lcs2_T hg en en1 ys p p1 f r fun d' hd' => h d' (List.mem_cons_of_mem _ hd')
    rw [List.map_cons]
    unfold lcs2
    rw [if_pos hg, h1]
    cases hp : p a with
    | false =>
      rw [hp] at h2
      simp only [h2, ih, List.filter_cons, hp, Bool.false_eq_true, if_false]
    | true =>
      rw [hp] at h2
      obtain ⟨g1, k1, k2, k3⟩ := h3 hp
      have k4 := lcs_T k2 en1 (p1 a) (f a) (ys a) k3
      simp only [h2, k1, k4, ih, List.filter_cons, hp, if_true, List.flatMap_cons]
theorem lc2_T {α β : Type} {it it1 : SW} {t t1 : Tg} {c c1 : S Bool} {x : S D} {vs vs1 : List Nat} {e : Env} {C : Cells} {g : Gd} (en : α → D) (en1 : β → D) (xs : List α) (ys : α → List β) (p : α → Bool) (p1 : α → β → Bool) (f : α → β → D) (hi : it e C = some (.ok (xs.map en, g) C)) (hg : g C = true)
    (hl : ((xs.filter p).flatMap fun a => ((ys a).filter (p1 a)).map (f a)).length ≤ 1000000)
    (h : ∀ a ∈ xs, ∃ e1, t.put (en a) (wipeE e vs) = some e1 ∧ c e1 C = some (.ok (p a) C) ∧ (p a = true → ∃ g1, it1 e1 C = some (.ok ((ys a).map en1, g1) C) ∧ g1 C = true ∧ ∀ b ∈ ys a, ∃ e2, t1.put (en1 b) (wipeE e1 vs1) = some e2 ∧ c1 e2 C = some (.ok (p1 a b) C) ∧ (p1 a b = true → x e2 C = some (.ok (f a b) C)))) :
    xLc2 it t c it1 t1 c1 x vs vs1 e C = some (.ok ((xs.filter p).flatMap fun a => ((ys a).filter (p1 a)).map (f a)) C) := by
  have k := lcs2_T (t := t) (t1 := t1) (c := c) (c1 := c1) (x := x) (it1 := it1) (vs1 := vs1) (e := wipeE e vs) hg en en1 ys p p1 f xs h
  unfold xLc2 S.bind
  simp only [hi, k, hl, if_true]
/-- without tests -/
theorem lc2_T0 {α β : Type} {it it1 : SW} {t t1 : Tg} {x : S D} {vs vs1 : List Nat} {e : Env} {C : Cells} {g : Gd} (en : α → D) (en1 : β → D) (xs : List α) (ys : α → List β) (f : α → β → D) (hi : it e C = some (.ok (xs.map en, g) C)) (hg : g C = true)
    (hl : (xs.flatMap fun a => (ys a).map (f a)).length ≤ 1000000)
    (h : ∀ a ∈ xs, ∃ e1, t.put (en a) (wipeE e vs) = some e1 ∧ ∃ g1, it1 e1 C = some (.ok ((ys a).map en1, g1) C) ∧ g1 C = true ∧ ∀ b ∈ ys a, ∃ e2, t1.put (en1 b) (wipeE e1 vs1) = some e2 ∧ x e2 C = some (.ok (f a b) C)) :
    xLc2 it t (S.val true) it1 t1 (S.val true) x vs vs1 e C = some (.ok (xs.flatMap fun a => (ys a).map (f a)) C) := by
  have F1 : ∀ {γ : Type} (l : List γ), l.filter (fun _ => true) = l := fun l => List.filter_eq_self.mpr fun _ _ => rfl
  have k := lc2_T (t := t) (t1 := t1) (c := S.val true) (c1 := S.val true) (x := x) (it1 := it1) (vs := vs) (vs1 := vs1) en en1 xs ys (fun _ => true) (fun _ _ => true) f hi hg (by simp only [F1]; exact hl) fun a ha => by
    obtain ⟨e1, h1, g1, h2, h3, h4⟩ := h a ha
    refine ⟨e1, h1, rfl, fun _ => ⟨g1, h2, h3, fun b hb => ?_⟩⟩
    obtain ⟨e2, h5, h6⟩ := h4 b hb
    exact ⟨e2, h5, rfl, fun _ => h6⟩
  simpa only [F1] using k
theorem rng1_T {n : Nat} (h : n ≤ 1000000) : rng1 [.int (n : Int)] = some ((List.range n).map fun i => D.int (i : Nat), gd0) := by
  rw [rng1_nat h]
  unfold zs
  congr 2
  apply List.map_congr_left
  intro i _
  congr 1
  omega
theorem rng1_Z {z : Int} (h0 : 0 ≤ z) (h : z ≤ 1000000) : rng1 [.int z] = some ((List.range z.toNat).map fun i => D.int (i : Nat), gd0) := by
  obtain ⟨k, rfl⟩ := Int.eq_ofNat_of_zero_le h0
  exact rng1_T (by omega)
theorem at10 {a : D} : atI [a] 0 = some a := rfl
theorem at20 {a b : D} : atI [a, b] 0 = some a := rfl
theorem at21 {a b : D} : atI [a, b] 1 = some b := rfl
theorem at30 {a b c : D} : atI [a, b, c] 0 = some a := rfl
theorem at31 {a b c : D} : atI [a, b, c] 1 = some b := rfl
theorem at32 {a b c : D} : atI [a, b, c] 2 = some c := rfl
theorem cst0 : ((0 : Nat) : Int) = 0 := rfl
theorem cst1 : ((1 : Nat) : Int) = 1 := rfl
theorem cst2 : ((2 : Nat) : Int) = 2 := rfl
theorem cst3 : ((3 : Nat) : Int) = 3 := rfl
/-- a loop with a state; each turn knows what came before it -/
theorem lp_P {α σ : Type} {t : Tg} {b : SS} (en : α → D) (f : σ → α → σ) (R : σ → Env → Cells → Prop) : ∀ (xs : List α) (s : σ) (e : Env) (C : Cells), R s e C → (∀ pre a post e C, xs = pre ++ a :: post → R (pre.foldl f s) e C → ∃ e1, t.put (en a) e = some e1 ∧ ∃ e2 C2, b e1 C = some (.nx e2 C2) ∧ R (f (pre.foldl f s) a) e2 C2) →
    ∃ e2 C2, lp gd0 t b (xs.map en) e C = some (.nx e2 C2) ∧ R (xs.foldl f s) e2 C2
  | [], s, e, C, h, _ => ⟨e, C, by show lp gd0 t b [] e C = _; unfold lp; rfl, h⟩
  | d :: r, s, e, C, h, hs => by
    obtain ⟨e1, h1, e2, C2, h2, h3⟩ := hs [] d r e C rfl h
    obtain ⟨e3, C3, g1, g2⟩ := lp_P en f R r (f s d) e2 C2 h3 fun pre a post e C hx hR => hs (d :: pre) a post e C (by rw [hx]; rfl) hR
    refine ⟨e3, C3, ?_, g2⟩
    rw [List.map_cons]
    unfold lp
    simp only [gd0, if_true, h1, h2, g1]
theorem range_split {n : Nat} {pre post : List Nat} {a : Nat} (h : List.range n = pre ++ a :: post) : pre = List.range a ∧ a < n := by
  have hl : n = pre.length + (post.length + 1) := by
    have := congrArg List.length h
    simpa using this
  have ha : a = pre.length := by
    have := congrArg (fun l => l[pre.length]?) h
    simp [List.getElem?_range (show pre.length < n by omega)] at this
    exact this.symm
  refine ⟨?_, by omega⟩
  have := congrArg (List.take pre.length) h
  rw [List.take_left, List.take_range, Nat.min_eq_left (by omega)] at this
  rw [← this, ← ha]
theorem rng2_ok {i j : Int} (h0 : -1000000 ≤ i ∧ i ≤ 1000000) (h1 : -1000000 ≤ j ∧ j ≤ 1000000) : rng2 [.int i, .int j] = some (zs i (j - i).toNat, gd0) := by
  have h : inRng i = true ∧ inRng j = true := ⟨inRng_iff.mpr (by omega), inRng_iff.mpr (by omega)⟩
  unfold rng2
  simp only [h, and_self, if_true]
theorem rng3_ok {i : Int} (h0 : -1 ≤ i ∧ i ≤ 1000000) : rng3 [.int i, .int (-1), .int (-1)] = some (zsD i (i + 1).toNat, gd0) := by
  have h : inRng i = true ∧ inRng (-1) = true := ⟨inRng_iff.mpr (by omega), inRng_iff.mpr (by omega)⟩
  unfold rng3
  simp only [h, and_self, if_true]
  rw [show i - -1 = i + 1 by omega]
theorem iR2_ok {s : S (List D)} {e : Env} {C C1 : Cells} {i j : Int} (h : s e C = some (.ok [.int i, .int j] C1)) (h0 : -1000000 ≤ i ∧ i ≤ 1000000) (h1 : -1000000 ≤ j ∧ j ≤ 1000000) : iR2 s e C = some (.ok (zs i (j - i).toNat, gd0) C1) := by
  unfold iR2 S.bind
  simp only [h, rng2_ok h0 h1]
  rfl
/-- a loop, by what it has done -/
theorem lp_pre {α : Type} {t : Tg} {b : SS} (en : α → D) (R : List α → Env → Cells → Prop) (xs : List α) (e : Env) (C : Cells) (h : R [] e C) (hs : ∀ pre a post e C, xs = pre ++ a :: post → R pre e C → ∃ e1, t.put (en a) e = some e1 ∧ ∃ e2 C2, b e1 C = some (.nx e2 C2) ∧ R (pre ++ [a]) e2 C2) :
    ∃ e2 C2, lp gd0 t b (xs.map en) e C = some (.nx e2 C2) ∧ R xs e2 C2 := by
  have hf : ∀ (l acc : List α), l.foldl (fun s a => s ++ [a]) acc = acc ++ l := fun l => by
    induction l with
    | nil => simp
    | cons a r ih => intro acc; rw [List.foldl_cons, ih]; simp
  obtain ⟨e2, C2, h1, h2⟩ := lp_P (t := t) (b := b) en (fun (s : List α) a => s ++ [a]) R xs [] e C h fun pre a post e C hx hR => by
    rw [hf, List.nil_append] at hR ⊢
    exact hs pre a post e C hx hR
  rw [hf, List.nil_append] at h2
  exact ⟨e2, C2, h1, h2⟩
theorem set_at {C : Cells} {n : Nat} {x y : Option Ob} (h : n < C.length) : (C.set n y)[n]? = some y := List.getElem?_set_self h
theorem any_i (z : Int) (bs : List Int) : ((bs.map D.int).any fun d => eqd d (.int z)) = bs.any fun b => b == z := by
  rw [List.any_map]
  rfl
theorem dIn_i (z : Int) (bs : List Int) : dInA (.int z) (iL bs) = some (.bl (bs.any fun b => b == z)) := by
  have h1 : okE (iL bs) 60 = true := okEs_i bs 59
  show (if okE (D.int z) 60 = true ∧ okE (iL bs) 60 = true then some (D.bl ((bs.map D.int).any fun d => eqd d (.int z))) else none) = _
  rw [if_pos ⟨rfl, h1⟩, any_i]
theorem dNotIn_i (z : Int) (bs : List Int) : dNotInA (.int z) (iL bs) = some (.bl (!bs.any fun b => b == z)) := by
  have h1 : okE (iL bs) 60 = true := okEs_i bs 59
  show (if okE (D.int z) 60 = true ∧ okE (iL bs) 60 = true then some (D.bl (!(bs.map D.int).any fun d => eqd d (.int z))) else none) = _
  rw [if_pos ⟨rfl, h1⟩, any_i]
theorem fin_iL {C : Cells} {ns : List Int} : fin C.length (iL ns) C = some (.ok (iL ns) C) := by
  rw [fin_n (show nocel (iL ns) = true from nocels_i ns), List.take_length]
theorem fin_iT {C : Cells} {ns : List Int} : fin C.length (iT ns) C = some (.ok (iT ns) C) := by
  rw [fin_n (show nocel (iT ns) = true from nocels_i ns), List.take_length]
end Sm
end
section
namespace Hk
/-- falling positive heights -/
structure Heap (B : Nat) (hs : List Int) : Prop where
  len : hs.length ≤ B
  fall : ∀ i j : Nat, i ≤ j → j < hs.length → hs.getD j 0 ≤ hs.getD i 0
  pos : ∀ i : Nat, i < hs.length → 1 ≤ hs.getD i 0 ∧ hs.getD i 0 ≤ B
theorem cnt (r : Int) : ∀ (hs : List Int), (∀ i j : Nat, i ≤ j → j < hs.length → hs.getD j 0 ≤ hs.getD i 0) →
    ∃ n, n ≤ hs.length ∧ (∀ j, j < n → r < hs.getD j 0) ∧ (∀ j, n ≤ j → j < hs.length → hs.getD j 0 ≤ r) ∧ ∀ m, m ≤ n → ((hs.drop m).filter fun h => decide (r < h)).length = n - m
  | [], _ => ⟨0, Nat.le_refl _, fun j hj => absurd hj (Nat.not_lt_zero _), fun j _ hj => absurd hj (Nat.not_lt_zero _), fun m _ => by simp⟩
  | h :: t, hf => by
    obtain ⟨n, n1, n2, n3, n4⟩ := cnt r t fun i j hij hj => by
      have := hf (i + 1) (j + 1) (by omega) (by simp; omega)
      simpa using this
    by_cases hr : r < h
    · refine ⟨n + 1, by simp; omega, fun j hj => ?_, fun j hj hl => ?_, fun m hm => ?_⟩
      · cases j with
        | zero => simpa using hr
        | succ j => simpa using n2 j (by omega)
      · cases j with
        | zero => omega
        | succ j => simpa using n3 j (by omega) (by simp at hl; omega)
      · cases m with
        | zero =>
          have := n4 0 (Nat.zero_le _)
          simp at this
          simp [List.filter_cons, hr, this]
        | succ m =>
          have := n4 m (by omega)
          rw [List.drop_succ_cons, this]
          omega
    · refine ⟨0, Nat.zero_le _, fun j hj => absurd hj (Nat.not_lt_zero _), fun j _ hl => ?_, fun m hm => ?_⟩
      · have := hf 0 j (Nat.zero_le _) hl
        have e : (h :: t).getD 0 0 = h := rfl
        omega
      · have hm : m = 0 := by omega
        subst hm
        rw [List.drop_zero]
        have : (h :: t).filter (fun h => decide (r < h)) = [] := by
          refine List.filter_eq_nil_iff.mpr fun z hz => ?_
          obtain ⟨i, hi, e⟩ := List.getElem_of_mem hz
          have := hf 0 i (Nat.zero_le _) hi
          have e1 : (h :: t).getD 0 0 = h := rfl
          have e2 : (h :: t).getD i 0 = z := by
            rw [List.getD_eq_getElem?_getD, List.getElem?_eq_getElem hi, e]
            rfl
          simp
          omega
        rw [this]
        rfl
def hk (hs : List Int) (c : Nat) (r : Int) : Int := hs.getD c 0 - r + (((hs.drop (c + 1)).filter fun h => decide (r < h)).length : Int)
def bead (hs : List Int) (c : Nat) : Int := hs.getD c 0 - c - 1
variable {B : Nat} {hs : List Int}
/-- a hook ends at a gap -/
theorem hook_gap (F : Heap B hs) {c : Nat} {r : Int} (hc : c < hs.length) (h0 : 0 ≤ r) (h1 : r < hs.getD c 0) :
    -(hs.length : Int) ≤ bead hs c - hk hs c r ∧ (∀ j, j < hs.length → bead hs j ≠ bead hs c - hk hs c r) ∧ 0 < hk hs c r := by
  obtain ⟨n, n1, n2, n3, n4⟩ := cnt r hs F.fall
  have hn : c < n := by
    by_cases q : c < n
    · exact q
    · have := n3 c (by omega) hc
      omega
  have e := n4 (c + 1) hn
  have g : bead hs c - hk hs c r = r - n := by
    unfold bead hk
    rw [e]
    omega
  rw [g]
  refine ⟨by omega, fun j hj q => ?_, ?_⟩
  · unfold bead at q
    by_cases q2 : j < n
    · have := n2 j q2
      omega
    · have := n3 j (by omega) hj
      omega
  · unfold hk
    omega
theorem last_above (F : Heap B hs) {x : Int} (hx : ∀ j, j < hs.length → bead hs j ≠ x) : ∀ (d c : Nat), c + d + 1 = hs.length → x < bead hs c →
    ∃ n, c < n ∧ n ≤ hs.length ∧ x < bead hs (n - 1) ∧ (n < hs.length → bead hs n < x)
  | 0, c, hd, h => ⟨c + 1, by omega, by omega, by simpa using h, fun q => by omega⟩
  | d + 1, c, hd, h => by
    by_cases q : x < bead hs (c + 1)
    · obtain ⟨n, n1, n2, n3, n4⟩ := last_above F hx d (c + 1) (by omega) q
      exact ⟨n, by omega, n2, n3, n4⟩
    · have := hx (c + 1) (by omega)
      exact ⟨c + 1, by omega, by omega, by simpa using h, fun _ => by omega⟩
/-- each gap below a bead is a hook's end -/
theorem gap_hook (F : Heap B hs) {c : Nat} {x : Int} (hc : c < hs.length) (h0 : -(hs.length : Int) ≤ x) (h1 : x < bead hs c) (hx : ∀ j, j < hs.length → bead hs j ≠ x) :
    ∃ r, 0 ≤ r ∧ r < hs.getD c 0 ∧ hk hs c r = bead hs c - x := by
  obtain ⟨n, n1, n2, n3, n4⟩ := last_above F hx (hs.length - c - 1) c (by omega) h1
  have a1 : x + n < hs.getD (n - 1) 0 := by
    unfold bead at n3
    omega
  have a2 := F.fall c (n - 1) (by omega) (by omega)
  have a3 : n < hs.length → hs.getD n 0 ≤ x + n := fun q => by
    have := n4 q
    unfold bead at this
    omega
  refine ⟨x + n, ?_, by omega, ?_⟩
  · by_cases q : n < hs.length
    · have := (F.pos n q).1
      have := a3 q
      omega
    · omega
  · obtain ⟨m, m1, m2, m3, m4⟩ := cnt (x + n) hs F.fall
    have e1 : n ≤ m := by
      by_cases q : n ≤ m
      · exact q
      · have := m3 (n - 1) (by omega) (by omega)
        omega
    have e2 : m ≤ n := by
      by_cases q : n < m
      · have := m2 n q
        have := a3 (by omega)
        omega
      · omega
    have e := m4 (c + 1) (by omega)
    unfold hk bead
    rw [e]
    omega
/-- no hook of k squares -/
def NoHook (hs : List Int) (k : Int) : Prop := ∀ (c : Nat) (r : Int), c < hs.length → 0 ≤ r → r < hs.getD c 0 → hk hs c r ≠ k
def IsCore (hs : List Int) (k : Int) : Prop := ∀ c, c < hs.length → bead hs c - k < -(hs.length : Int) ∨ ∃ j, j < hs.length ∧ bead hs j = bead hs c - k
theorem core_iff (F : Heap B hs) {k : Int} (hk0 : 0 < k) : NoHook hs k ↔ IsCore hs k := by
  constructor
  · intro h c hc
    by_cases q : bead hs c - k < -(hs.length : Int)
    · exact .inl q
    · right
      refine Classical.byContradiction fun q2 => ?_
      obtain ⟨r, r0, r1, e⟩ := gap_hook F (x := bead hs c - k) hc (by omega) (by omega) fun j hj q3 => q2 ⟨j, hj, q3⟩
      exact h c r hc r0 r1 (by omega)
  · intro h c r hc r0 r1 e
    obtain ⟨g1, g2, g3⟩ := hook_gap F hc r0 r1
    rw [e] at g1 g2
    rcases h c hc with h | ⟨j, hj, h⟩
    · omega
    · exact g2 j hj h
theorem core_down (F : Heap B hs) {k : Int} (hk0 : 0 < k) (h : IsCore hs k) {c : Nat} (hc : c < hs.length) : ∀ m : Nat, -(hs.length : Int) ≤ bead hs c - m * k → ∃ j, j < hs.length ∧ bead hs j = bead hs c - m * k
  | 0, _ => ⟨c, hc, by simp⟩
  | m + 1, q => by
    have e : ((m + 1 : Nat) : Int) * k = m * k + k := by
      rw [Int.natCast_succ, Int.add_mul, Int.one_mul]
    rw [e] at q ⊢
    obtain ⟨j, hj, ej⟩ := core_down F hk0 h hc m (by omega)
    rcases h j hj with h2 | ⟨i, hi, h2⟩
    · omega
    · exact ⟨i, hi, by omega⟩
theorem core_mult (F : Heap B hs) {k : Int} (hk0 : 0 < k) (h : NoHook hs k) {c : Nat} {r : Int} (hc : c < hs.length) (h0 : 0 ≤ r) (h1 : r < hs.getD c 0) : hk hs c r % k ≠ 0 := by
  intro q
  obtain ⟨g1, g2, g3⟩ := hook_gap F hc h0 h1
  have e : hk hs c r = hk hs c r / k * k := by
    have := Int.mul_ediv_add_emod (hk hs c r) k
    rw [q, Int.mul_comm] at this
    omega
  have hn : 0 ≤ hk hs c r / k := Int.ediv_nonneg (by omega) (by omega)
  obtain ⟨m, hm⟩ := Int.eq_ofNat_of_zero_le hn
  rw [hm] at e
  rw [e] at g1 g2
  obtain ⟨j, hj, ej⟩ := core_down F hk0 ((core_iff F hk0).mp h) hc m g1
  exact g2 j hj ej
end Hk
end
section
set_option maxRecDepth 100000
set_option maxHeartbeats 0
set_option exponentiation.threshold 1000000
namespace Sk15
open PySem L2 Sm
theorem vw_k {C : Cells} {ks : List Key} {ds : List D} : vw C (.dk ks ds) = .dk ks ds := rfl
theorem ie_k {ks : List Key} {ds : List D} : isErr (.dk ks ds) = false := rfl
/-- the dice that stand in the n-th cell, thrown k times -/
def Dc (C : Cells) (n k : Nat) : Prop := ∃ a b c : Int, C[n]? = some (some (.l [.int a, .int b, .int c])) ∧ 0 ≤ a ∧ 0 ≤ b ∧ b < 2147483648 ∧ 0 ≤ c ∧ c ≤ k
theorem small_dec {b : Int} (h0 : 0 ≤ b) (h : b < 2 ^ 80) : b.natAbs < 2 ^ 400000 := by
  refine Nat.lt_of_lt_of_le (m := 2 ^ 80) (by omega) (Nat.pow_le_pow_right (by decide) (by decide))
theorem Dc.mono {C : Cells} {n j k : Nat} (h : Dc C n j) (hk : j ≤ k) : Dc C n k := by
  obtain ⟨a, b, c, h1, h2, h3, h4, h5, h6⟩ := h
  exact ⟨a, b, c, h1, h2, h3, h4, h5, by omega⟩
theorem Dc.lt {C : Cells} {n j : Nat} (h : Dc C n j) : n < C.length := by
  obtain ⟨a, b, c, h1, _⟩ := h
  exact (List.getElem?_eq_some_iff.mp h1).1
theorem set_fr {C : Cells} {n m : Nat} {x : Option Ob} (hm : m ≠ n) : ((C.set n x).take C.length)[m]? = C[m]? := by
  rw [List.take_of_length_le (by simp), List.getElem?_set_ne (fun e => hm e.symm)]
theorem roll_fr {C : Cells} {n k : Nat} {z : Int} (D : Dc C n k) (hk : k ≤ 1000000) (h0 : 0 < z) (h1 : z < 2 ^ 80) :
    ∃ v C', m__law_roll [.cel n, .int z] C = some (.ok (.int v) C') ∧ 0 ≤ v ∧ v < z ∧ C'.length = C.length ∧ Dc C' n (k + 1) ∧ ∀ m, m ≠ n → C'[m]? = C[m]? := by
  obtain ⟨a, b, c, hC, ha, hb, hb2, hc, hc2⟩ := D
  have hz : z.natAbs < 2 ^ 8000 := Nat.lt_of_lt_of_le (m := 2 ^ 80) (by omega) (Nat.pow_le_pow_right (by decide) (by decide))
  have hn : n < C.length := (List.getElem?_eq_some_iff.mp hC).1
  have hv := vw_c hC
  unfold m__law_roll b__law_roll
  by_cases hp : 0 < a
  · simp only [↓xDef, ↓xSeq, ↓xDo, ↓xNext, ↓xRet, ↓xExp, ↓xIfS, ↓xAsg, ↓gN, ↓gT, ↓gsC, ↓gsN, ↓xV, ↓S.val, ↓S.bind, ↓S.opt, ↓x2, ↓x1, ↓xN, ↓xB, ↓xD, ↓xAnd, ↓xOr, ↓xNot, ↓xIf, ↓xAndV, ↓xOrV, ↓xNotV, ↓xChain, ↓aNil, ↓aCons, ↓xTup, ↓few, ↓xF, ↓xC, ↓xSetI, ↓xPar, ↓xCall, ↓xFrz, ↓xM, live, i2, dSub, dAdd, dMul, dMulA, dMod, dDiv, dLt, dLe, dGt, dGe, dIx, atI, dNeg, dAbs, dInt, dLen, dMin2, dMax2, dGcd, dTuple, ↓iR1, ↓iR2, ↓iV, items, ↓iEn, items1, nocel, nocels, List.map_cons, List.map_nil, List.getElem?_cons_zero, List.getElem?_cons_succ, List.getElem?_nil, List.set_cons_zero, List.set_cons_succ, List.length_cons, List.length_nil, List.replicate, List.cons_append, List.nil_append, Nat.reduceAdd, Nat.reduceSub, Bool.false_eq_true, if_true, if_false, Option.map_some, Option.bind_some, Option.bind_none, Bool.and_true, Bool.and_false, Bool.true_and, Bool.not_true, Bool.not_false, decide_true, decide_false, vw_n, vw_b, vw_i, vw_s, vw_u, vw_l, vw_o, ie_n, ie_b, ie_i, ie_s, ie_u, ie_l, ie_c, x10, x20, x21, x30, x31, x32, fin_b, fin_i, eq_ii, ne_ii, List.take_length, vw_k, ie_k, id_eq, Nat.reduceLeDiff, ↓xSl, ↓xAugI, ↓oE, ↓oNo, ↓xLs, ↓xExt, ↓iZp, hC, hv, hp, h0, hz, and_self]
    refine ⟨_, _, rfl, Int.emod_nonneg _ (by omega), Int.emod_lt_of_pos _ h0, ?_, ?_, fun m hm => ?_⟩
    · simp
    · refine ⟨a / z, b, c, ?_, Int.ediv_nonneg ha (by omega), hb, hb2, hc, by omega⟩
      rw [List.getElem?_take, if_pos hn, List.getElem?_set_self hn]
    · exact set_fr hm
  · have hC2 : (C.set n (some (Ob.l [D.int a, D.int b, D.int (c + 1)])))[n]? = some (some (Ob.l [D.int a, D.int b, D.int (c + 1)])) := List.getElem?_set_self hn
    have hv2 := vw_c hC2
    have e1 : ∀ x : Int, (x % 2305843009213693951).natAbs < 2 ^ 400000 := fun x => small_dec (Int.emod_nonneg _ (by decide)) (by have := Int.emod_lt_of_pos x (b := 2305843009213693951) (by decide); omega)
    have e2 : ∀ x : Int, (x % 2305843009213693921).natAbs < 2 ^ 400000 := fun x => small_dec (Int.emod_nonneg _ (by decide)) (by have := Int.emod_lt_of_pos x (b := 2305843009213693921) (by decide); omega)
    have e3 : (c + 1).natAbs < 2 ^ 400000 := small_dec (by omega) (by omega)
    have e4 : (1000409 : Int).natAbs < 2 ^ 400000 := small_dec (by decide) (by decide)
    have e5 : (9479 : Int).natAbs < 2 ^ 400000 := small_dec (by decide) (by decide)
    have e6 : (0 : Int) < 2305843009213693951 ∧ (0 : Int) < 2305843009213693921 ∧ (0 : Int) < 2305843009213693907 := by decide
    have e7 : (0 : Int) < 4096 ∧ (4096 : Int).natAbs < 2 ^ 8000 := ⟨by decide, Nat.lt_of_lt_of_le (m := 2 ^ 80) (by decide) (Nat.pow_le_pow_right (by decide) (by decide))⟩
    simp only [↓xDef, ↓xSeq, ↓xDo, ↓xNext, ↓xRet, ↓xExp, ↓xIfS, ↓xAsg, ↓gN, ↓gT, ↓gsC, ↓gsN, ↓xV, ↓S.val, ↓S.bind, ↓S.opt, ↓x2, ↓x1, ↓xN, ↓xB, ↓xD, ↓xAnd, ↓xOr, ↓xNot, ↓xIf, ↓xAndV, ↓xOrV, ↓xNotV, ↓xChain, ↓aNil, ↓aCons, ↓xTup, ↓few, ↓xF, ↓xC, ↓xSetI, ↓xPar, ↓xCall, ↓xFrz, ↓xM, live, i2, dSub, dAdd, dMul, dMulA, dMod, dDiv, dLt, dLe, dGt, dGe, dIx, atI, dNeg, dAbs, dInt, dLen, dMin2, dMax2, dGcd, dTuple, ↓iR1, ↓iR2, ↓iV, items, ↓iEn, items1, nocel, nocels, List.map_cons, List.map_nil, List.getElem?_cons_zero, List.getElem?_cons_succ, List.getElem?_nil, List.set_cons_zero, List.set_cons_succ, List.length_cons, List.length_nil, List.replicate, List.cons_append, List.nil_append, Nat.reduceAdd, Nat.reduceSub, Bool.false_eq_true, if_true, if_false, Option.map_some, Option.bind_some, Option.bind_none, Bool.and_true, Bool.and_false, Bool.true_and, Bool.not_true, Bool.not_false, decide_true, decide_false, vw_n, vw_b, vw_i, vw_s, vw_u, vw_l, vw_o, ie_n, ie_b, ie_i, ie_s, ie_u, ie_l, ie_c, x10, x20, x21, x30, x31, x32, fin_b, fin_i, eq_ii, ne_ii, List.take_length, vw_k, ie_k, id_eq, Nat.reduceLeDiff, ↓xSl, ↓xAugI, ↓oE, ↓oNo, ↓xLs, ↓xExt, ↓iZp, hC, hv, hv2, hC2, hp, h0, hz, and_self, e1, e2, e3, e4, e5, e6.1, e6.2.1, e6.2.2, e7]
    refine ⟨_, _, rfl, Int.emod_nonneg _ (by omega), Int.emod_lt_of_pos _ h0, ?_, ?_, fun m hm => ?_⟩
    · simp
    · refine ⟨a, b, c + 1, ?_, ha, hb, hb2, by omega, by omega⟩
      rw [List.getElem?_take, if_pos hn, List.getElem?_set_self hn]
    · exact set_fr hm
theorem roll {C : Cells} {n k : Nat} {z : Int} (D : Dc C n k) (hk : k ≤ 1000000) (h0 : 0 < z) (h1 : z < 2 ^ 80) :
    ∃ v C', m__law_roll [.cel n, .int z] C = some (.ok (.int v) C') ∧ 0 ≤ v ∧ v < z ∧ C'.length = C.length ∧ Dc C' n (k + 1) := by
  obtain ⟨v, C', h1, h2, h3, h4, h5, _⟩ := roll_fr D hk h0 h1
  exact ⟨v, C', h1, h2, h3, h4, h5⟩
/-! ### what is judged -/
theorem is_whole {d : D} (C : Cells) (h : typed d = true) : m_is_whole [d] C = some (.ok (.bl (wholeB d)) C) := by
  unfold m_is_whole b_is_whole
  cases d <;> first | (simp [typed] at h; done) | (simp [↓xDef, ↓xSeq, ↓xDo, ↓xNext, ↓xRet, ↓xExp, ↓xIfS, ↓xAsg, ↓gN, ↓gT, ↓gsC, ↓gsN, ↓xV, ↓S.val, ↓S.bind, ↓S.opt, ↓x2, ↓x1, ↓xN, ↓xB, ↓xD, ↓xAnd, ↓xOr, ↓xNot, ↓xIf, ↓xAndV, ↓xOrV, ↓xNotV, ↓xChain, ↓aNil, ↓aCons, ↓xTup, ↓few, ↓xF, ↓xC, ↓xSetI, ↓xPar, ↓xCall, ↓xFrz, ↓xM, live, i2, dSub, dAdd, dMul, dMulA, dMod, dDiv, dLt, dLe, dGt, dGe, dIx, atI, dNeg, dAbs, dInt, dLen, dMin2, dMax2, dGcd, dTuple, ↓iR1, ↓iR2, ↓iV, items, ↓iEn, items1, nocel, nocels, List.map_cons, List.map_nil, List.getElem?_cons_zero, List.getElem?_cons_succ, List.getElem?_nil, List.set_cons_zero, List.set_cons_succ, List.length_cons, List.length_nil, List.replicate, List.cons_append, List.nil_append, Nat.reduceAdd, Nat.reduceSub, Bool.false_eq_true, if_true, if_false, Option.map_some, Option.bind_some, Option.bind_none, Bool.and_true, Bool.and_false, Bool.true_and, Bool.not_true, Bool.not_false, decide_true, decide_false, vw_n, vw_b, vw_i, vw_s, vw_u, vw_l, vw_o, ie_n, ie_b, ie_i, ie_s, ie_u, ie_l, ie_c, x10, x20, x21, x30, x31, x32, fin_b, fin_i, eq_ii, ne_ii, List.take_length, vw_k, ie_k, id_eq, Nat.reduceLeDiff, ↓xSl, ↓xAugI, ↓oE, ↓oNo, ↓xLs, ↓xExt, ↓iZp, isi_int h, isi_bool h, intB, blB, wholeB]; done)
def withinB (d : D) (lo hi : Int) : Bool := match d with
  | .int i => decide (lo ≤ i) && decide (i ≤ hi)
  | _ => false
theorem is_within {d : D} {lo hi : Int} (C : Cells) (h : typed d = true) : m_is_within [d, .int lo, .int hi] C = some (.ok (.bl (withinB d lo hi)) C) := by
  unfold m_is_within b_is_within
  simp only [↓xDef, ↓xSeq, ↓xDo, ↓xNext, ↓xRet, ↓xExp, ↓xIfS, ↓xAsg, ↓gN, ↓gT, ↓gsC, ↓gsN, ↓xV, ↓S.val, ↓S.bind, ↓S.opt, ↓x2, ↓x1, ↓xN, ↓xB, ↓xD, ↓xAnd, ↓xOr, ↓xNot, ↓xIf, ↓xAndV, ↓xOrV, ↓xNotV, ↓xChain, ↓aNil, ↓aCons, ↓xTup, ↓few, ↓xF, ↓xC, ↓xSetI, ↓xPar, ↓xCall, ↓xFrz, ↓xM, live, i2, dSub, dAdd, dMul, dMulA, dMod, dDiv, dLt, dLe, dGt, dGe, dIx, atI, dNeg, dAbs, dInt, dLen, dMin2, dMax2, dGcd, dTuple, ↓iR1, ↓iR2, ↓iV, items, ↓iEn, items1, nocel, nocels, List.map_cons, List.map_nil, List.getElem?_cons_zero, List.getElem?_cons_succ, List.getElem?_nil, List.set_cons_zero, List.set_cons_succ, List.length_cons, List.length_nil, List.replicate, List.cons_append, List.nil_append, Nat.reduceAdd, Nat.reduceSub, Bool.false_eq_true, if_true, if_false, Option.map_some, Option.bind_some, Option.bind_none, Bool.and_true, Bool.and_false, Bool.true_and, Bool.not_true, Bool.not_false, decide_true, decide_false, vw_n, vw_b, vw_i, vw_s, vw_u, vw_l, vw_o, ie_n, ie_b, ie_i, ie_s, ie_u, ie_l, ie_c, x10, x20, x21, x30, x31, x32, fin_b, fin_i, eq_ii, ne_ii, List.take_length, vw_k, ie_k, id_eq, Nat.reduceLeDiff, ↓xSl, ↓xAugI, ↓oE, ↓oNo, ↓xLs, ↓xExt, ↓iZp, vw_t h, ie_t h, is_whole C h]
  cases d <;> first | (simp [↓xDef, ↓xSeq, ↓xDo, ↓xNext, ↓xRet, ↓xExp, ↓xIfS, ↓xAsg, ↓gN, ↓gT, ↓gsC, ↓gsN, ↓xV, ↓S.val, ↓S.bind, ↓S.opt, ↓x2, ↓x1, ↓xN, ↓xB, ↓xD, ↓xAnd, ↓xOr, ↓xNot, ↓xIf, ↓xAndV, ↓xOrV, ↓xNotV, ↓xChain, ↓aNil, ↓aCons, ↓xTup, ↓few, ↓xF, ↓xC, ↓xSetI, ↓xPar, ↓xCall, ↓xFrz, ↓xM, live, i2, dSub, dAdd, dMul, dMulA, dMod, dDiv, dLt, dLe, dGt, dGe, dIx, atI, dNeg, dAbs, dInt, dLen, dMin2, dMax2, dGcd, dTuple, ↓iR1, ↓iR2, ↓iV, items, ↓iEn, items1, nocel, nocels, List.map_cons, List.map_nil, List.getElem?_cons_zero, List.getElem?_cons_succ, List.getElem?_nil, List.set_cons_zero, List.set_cons_succ, List.length_cons, List.length_nil, List.replicate, List.cons_append, List.nil_append, Nat.reduceAdd, Nat.reduceSub, Bool.false_eq_true, if_true, if_false, Option.map_some, Option.bind_some, Option.bind_none, Bool.and_true, Bool.and_false, Bool.true_and, Bool.not_true, Bool.not_false, decide_true, decide_false, vw_n, vw_b, vw_i, vw_s, vw_u, vw_l, vw_o, ie_n, ie_b, ie_i, ie_s, ie_u, ie_l, ie_c, x10, x20, x21, x30, x31, x32, fin_b, fin_i, eq_ii, ne_ii, List.take_length, vw_k, ie_k, id_eq, Nat.reduceLeDiff, ↓xSl, ↓xAugI, ↓oE, ↓oNo, ↓xLs, ↓xExt, ↓iZp, wholeB, withinB, dLe]; done) | skip
  rename_i i
  by_cases hq : lo ≤ i <;> simp [↓xDef, ↓xSeq, ↓xDo, ↓xNext, ↓xRet, ↓xExp, ↓xIfS, ↓xAsg, ↓gN, ↓gT, ↓gsC, ↓gsN, ↓xV, ↓S.val, ↓S.bind, ↓S.opt, ↓x2, ↓x1, ↓xN, ↓xB, ↓xD, ↓xAnd, ↓xOr, ↓xNot, ↓xIf, ↓xAndV, ↓xOrV, ↓xNotV, ↓xChain, ↓aNil, ↓aCons, ↓xTup, ↓few, ↓xF, ↓xC, ↓xSetI, ↓xPar, ↓xCall, ↓xFrz, ↓xM, live, i2, dSub, dAdd, dMul, dMulA, dMod, dDiv, dLt, dLe, dGt, dGe, dIx, atI, dNeg, dAbs, dInt, dLen, dMin2, dMax2, dGcd, dTuple, ↓iR1, ↓iR2, ↓iV, items, ↓iEn, items1, nocel, nocels, List.map_cons, List.map_nil, List.getElem?_cons_zero, List.getElem?_cons_succ, List.getElem?_nil, List.set_cons_zero, List.set_cons_succ, List.length_cons, List.length_nil, List.replicate, List.cons_append, List.nil_append, Nat.reduceAdd, Nat.reduceSub, Bool.false_eq_true, if_true, if_false, Option.map_some, Option.bind_some, Option.bind_none, Bool.and_true, Bool.and_false, Bool.true_and, Bool.not_true, Bool.not_false, decide_true, decide_false, vw_n, vw_b, vw_i, vw_s, vw_u, vw_l, vw_o, ie_n, ie_b, ie_i, ie_s, ie_u, ie_l, ie_c, x10, x20, x21, x30, x31, x32, fin_b, fin_i, eq_ii, ne_ii, List.take_length, vw_k, ie_k, id_eq, Nat.reduceLeDiff, ↓xSl, ↓xAugI, ↓oE, ↓oNo, ↓xLs, ↓xExt, ↓iZp, wholeB, withinB, dLe, hq]
def ringB : D → Bool
  | .tup [x, y] => withinB x 2 60 && (match x with
    | .int i => withinB y 1 (i - 1)
    | _ => false)
  | _ => false
def typedT : D → Bool
  | .tup ds => ds.all typed
  | d => typed d
theorem typedT_t {d : D} (h : typedT d = true) : typed d = true := by
  cases d <;> first | rfl | exact h
theorem is_ring_in {d : D} (C : Cells) (h : typedT d = true) : m_is_ring_in [d] C = some (.ok (.bl (ringB d)) C) := by
  have h1 := typedT_t h
  unfold m_is_ring_in b_is_ring_in
  simp only [↓xDef, ↓xSeq, ↓xDo, ↓xNext, ↓xRet, ↓xExp, ↓xIfS, ↓xAsg, ↓gN, ↓gT, ↓gsC, ↓gsN, ↓xV, ↓S.val, ↓S.bind, ↓S.opt, ↓x2, ↓x1, ↓xN, ↓xB, ↓xD, ↓xAnd, ↓xOr, ↓xNot, ↓xIf, ↓xAndV, ↓xOrV, ↓xNotV, ↓xChain, ↓aNil, ↓aCons, ↓xTup, ↓few, ↓xF, ↓xC, ↓xSetI, ↓xPar, ↓xCall, ↓xFrz, ↓xM, live, i2, dSub, dAdd, dMul, dMulA, dMod, dDiv, dLt, dLe, dGt, dGe, dIx, atI, dNeg, dAbs, dInt, dLen, dMin2, dMax2, dGcd, dTuple, ↓iR1, ↓iR2, ↓iV, items, ↓iEn, items1, nocel, nocels, List.map_cons, List.map_nil, List.getElem?_cons_zero, List.getElem?_cons_succ, List.getElem?_nil, List.set_cons_zero, List.set_cons_succ, List.length_cons, List.length_nil, List.replicate, List.cons_append, List.nil_append, Nat.reduceAdd, Nat.reduceSub, Bool.false_eq_true, if_true, if_false, Option.map_some, Option.bind_some, Option.bind_none, Bool.and_true, Bool.and_false, Bool.true_and, Bool.not_true, Bool.not_false, decide_true, decide_false, vw_n, vw_b, vw_i, vw_s, vw_u, vw_l, vw_o, ie_n, ie_b, ie_i, ie_s, ie_u, ie_l, ie_c, x10, x20, x21, x30, x31, x32, fin_b, fin_i, eq_ii, ne_ii, List.take_length, vw_k, ie_k, id_eq, Nat.reduceLeDiff, ↓xSl, ↓xAugI, ↓oE, ↓oNo, ↓xLs, ↓xExt, ↓iZp, vw_t h1, ie_t h1, isi_tup h1]
  cases d with
  | tup ds =>
    simp only [↓xDef, ↓xSeq, ↓xDo, ↓xNext, ↓xRet, ↓xExp, ↓xIfS, ↓xAsg, ↓gN, ↓gT, ↓gsC, ↓gsN, ↓xV, ↓S.val, ↓S.bind, ↓S.opt, ↓x2, ↓x1, ↓xN, ↓xB, ↓xD, ↓xAnd, ↓xOr, ↓xNot, ↓xIf, ↓xAndV, ↓xOrV, ↓xNotV, ↓xChain, ↓aNil, ↓aCons, ↓xTup, ↓few, ↓xF, ↓xC, ↓xSetI, ↓xPar, ↓xCall, ↓xFrz, ↓xM, live, i2, dSub, dAdd, dMul, dMulA, dMod, dDiv, dLt, dLe, dGt, dGe, dIx, atI, dNeg, dAbs, dInt, dLen, dMin2, dMax2, dGcd, dTuple, ↓iR1, ↓iR2, ↓iV, items, ↓iEn, items1, nocel, nocels, List.map_cons, List.map_nil, List.getElem?_cons_zero, List.getElem?_cons_succ, List.getElem?_nil, List.set_cons_zero, List.set_cons_succ, List.length_cons, List.length_nil, List.replicate, List.cons_append, List.nil_append, Nat.reduceAdd, Nat.reduceSub, Bool.false_eq_true, if_true, if_false, Option.map_some, Option.bind_some, Option.bind_none, Bool.and_true, Bool.and_false, Bool.true_and, Bool.not_true, Bool.not_false, decide_true, decide_false, vw_n, vw_b, vw_i, vw_s, vw_u, vw_l, vw_o, ie_n, ie_b, ie_i, ie_s, ie_u, ie_l, ie_c, x10, x20, x21, x30, x31, x32, fin_b, fin_i, eq_ii, ne_ii, List.take_length, vw_k, ie_k, id_eq, Nat.reduceLeDiff, ↓xSl, ↓xAugI, ↓oE, ↓oNo, ↓xLs, ↓xExt, ↓iZp, tupB]
    by_cases hl : ds.length = 2
    · match ds, hl, h with
      | [x, y], _, h =>
        have hx : typed x = true := by simp [typedT] at h; exact h.1
        have hy : typed y = true := by simp [typedT] at h; exact h.2
        simp only [↓xDef, ↓xSeq, ↓xDo, ↓xNext, ↓xRet, ↓xExp, ↓xIfS, ↓xAsg, ↓gN, ↓gT, ↓gsC, ↓gsN, ↓xV, ↓S.val, ↓S.bind, ↓S.opt, ↓x2, ↓x1, ↓xN, ↓xB, ↓xD, ↓xAnd, ↓xOr, ↓xNot, ↓xIf, ↓xAndV, ↓xOrV, ↓xNotV, ↓xChain, ↓aNil, ↓aCons, ↓xTup, ↓few, ↓xF, ↓xC, ↓xSetI, ↓xPar, ↓xCall, ↓xFrz, ↓xM, live, i2, dSub, dAdd, dMul, dMulA, dMod, dDiv, dLt, dLe, dGt, dGe, dIx, atI, dNeg, dAbs, dInt, dLen, dMin2, dMax2, dGcd, dTuple, ↓iR1, ↓iR2, ↓iV, items, ↓iEn, items1, nocel, nocels, List.map_cons, List.map_nil, List.getElem?_cons_zero, List.getElem?_cons_succ, List.getElem?_nil, List.set_cons_zero, List.set_cons_succ, List.length_cons, List.length_nil, List.replicate, List.cons_append, List.nil_append, Nat.reduceAdd, Nat.reduceSub, Bool.false_eq_true, if_true, if_false, Option.map_some, Option.bind_some, Option.bind_none, Bool.and_true, Bool.and_false, Bool.true_and, Bool.not_true, Bool.not_false, decide_true, decide_false, vw_n, vw_b, vw_i, vw_s, vw_u, vw_l, vw_o, ie_n, ie_b, ie_i, ie_s, ie_u, ie_l, ie_c, x10, x20, x21, x30, x31, x32, fin_b, fin_i, eq_ii, ne_ii, List.take_length, vw_k, ie_k, id_eq, Nat.reduceLeDiff, ↓xSl, ↓xAugI, ↓oE, ↓oNo, ↓xLs, ↓xExt, ↓iZp, is_within C hx]
        cases hw : withinB x 2 60 with
        | false => simp [↓xDef, ↓xSeq, ↓xDo, ↓xNext, ↓xRet, ↓xExp, ↓xIfS, ↓xAsg, ↓gN, ↓gT, ↓gsC, ↓gsN, ↓xV, ↓S.val, ↓S.bind, ↓S.opt, ↓x2, ↓x1, ↓xN, ↓xB, ↓xD, ↓xAnd, ↓xOr, ↓xNot, ↓xIf, ↓xAndV, ↓xOrV, ↓xNotV, ↓xChain, ↓aNil, ↓aCons, ↓xTup, ↓few, ↓xF, ↓xC, ↓xSetI, ↓xPar, ↓xCall, ↓xFrz, ↓xM, live, i2, dSub, dAdd, dMul, dMulA, dMod, dDiv, dLt, dLe, dGt, dGe, dIx, atI, dNeg, dAbs, dInt, dLen, dMin2, dMax2, dGcd, dTuple, ↓iR1, ↓iR2, ↓iV, items, ↓iEn, items1, nocel, nocels, List.map_cons, List.map_nil, List.getElem?_cons_zero, List.getElem?_cons_succ, List.getElem?_nil, List.set_cons_zero, List.set_cons_succ, List.length_cons, List.length_nil, List.replicate, List.cons_append, List.nil_append, Nat.reduceAdd, Nat.reduceSub, Bool.false_eq_true, if_true, if_false, Option.map_some, Option.bind_some, Option.bind_none, Bool.and_true, Bool.and_false, Bool.true_and, Bool.not_true, Bool.not_false, decide_true, decide_false, vw_n, vw_b, vw_i, vw_s, vw_u, vw_l, vw_o, ie_n, ie_b, ie_i, ie_s, ie_u, ie_l, ie_c, x10, x20, x21, x30, x31, x32, fin_b, fin_i, eq_ii, ne_ii, List.take_length, vw_k, ie_k, id_eq, Nat.reduceLeDiff, ↓xSl, ↓xAugI, ↓oE, ↓oNo, ↓xLs, ↓xExt, ↓iZp, is_within C hx, hw, ringB]
        | true =>
          cases x with
          | int i =>
            simp [↓xDef, ↓xSeq, ↓xDo, ↓xNext, ↓xRet, ↓xExp, ↓xIfS, ↓xAsg, ↓gN, ↓gT, ↓gsC, ↓gsN, ↓xV, ↓S.val, ↓S.bind, ↓S.opt, ↓x2, ↓x1, ↓xN, ↓xB, ↓xD, ↓xAnd, ↓xOr, ↓xNot, ↓xIf, ↓xAndV, ↓xOrV, ↓xNotV, ↓xChain, ↓aNil, ↓aCons, ↓xTup, ↓few, ↓xF, ↓xC, ↓xSetI, ↓xPar, ↓xCall, ↓xFrz, ↓xM, live, i2, dSub, dAdd, dMul, dMulA, dMod, dDiv, dLt, dLe, dGt, dGe, dIx, atI, dNeg, dAbs, dInt, dLen, dMin2, dMax2, dGcd, dTuple, ↓iR1, ↓iR2, ↓iV, items, ↓iEn, items1, nocel, nocels, List.map_cons, List.map_nil, List.getElem?_cons_zero, List.getElem?_cons_succ, List.getElem?_nil, List.set_cons_zero, List.set_cons_succ, List.length_cons, List.length_nil, List.replicate, List.cons_append, List.nil_append, Nat.reduceAdd, Nat.reduceSub, Bool.false_eq_true, if_true, if_false, Option.map_some, Option.bind_some, Option.bind_none, Bool.and_true, Bool.and_false, Bool.true_and, Bool.not_true, Bool.not_false, decide_true, decide_false, vw_n, vw_b, vw_i, vw_s, vw_u, vw_l, vw_o, ie_n, ie_b, ie_i, ie_s, ie_u, ie_l, ie_c, x10, x20, x21, x30, x31, x32, fin_b, fin_i, eq_ii, ne_ii, List.take_length, vw_k, ie_k, id_eq, Nat.reduceLeDiff, ↓xSl, ↓xAugI, ↓oE, ↓oNo, ↓xLs, ↓xExt, ↓iZp, is_within C hx, hw, ringB, is_within C hy]
          | _ => simp [withinB] at hw
    · have hl2 : ((ds.length : Int) == 2) = false := by simp; omega
      have hr : ringB (.tup ds) = false := by
        match ds, hl with
        | [], _ => rfl
        | [_], _ => rfl
        | _ :: _ :: _ :: _, _ => rfl
        | [_, _], h => exact absurd rfl h
      simp [↓xDef, ↓xSeq, ↓xDo, ↓xNext, ↓xRet, ↓xExp, ↓xIfS, ↓xAsg, ↓gN, ↓gT, ↓gsC, ↓gsN, ↓xV, ↓S.val, ↓S.bind, ↓S.opt, ↓x2, ↓x1, ↓xN, ↓xB, ↓xD, ↓xAnd, ↓xOr, ↓xNot, ↓xIf, ↓xAndV, ↓xOrV, ↓xNotV, ↓xChain, ↓aNil, ↓aCons, ↓xTup, ↓few, ↓xF, ↓xC, ↓xSetI, ↓xPar, ↓xCall, ↓xFrz, ↓xM, live, i2, dSub, dAdd, dMul, dMulA, dMod, dDiv, dLt, dLe, dGt, dGe, dIx, atI, dNeg, dAbs, dInt, dLen, dMin2, dMax2, dGcd, dTuple, ↓iR1, ↓iR2, ↓iV, items, ↓iEn, items1, nocel, nocels, List.map_cons, List.map_nil, List.getElem?_cons_zero, List.getElem?_cons_succ, List.getElem?_nil, List.set_cons_zero, List.set_cons_succ, List.length_cons, List.length_nil, List.replicate, List.cons_append, List.nil_append, Nat.reduceAdd, Nat.reduceSub, Bool.false_eq_true, if_true, if_false, Option.map_some, Option.bind_some, Option.bind_none, Bool.and_true, Bool.and_false, Bool.true_and, Bool.not_true, Bool.not_false, decide_true, decide_false, vw_n, vw_b, vw_i, vw_s, vw_u, vw_l, vw_o, ie_n, ie_b, ie_i, ie_s, ie_u, ie_l, ie_c, x10, x20, x21, x30, x31, x32, fin_b, fin_i, eq_ii, ne_ii, List.take_length, vw_k, ie_k, id_eq, Nat.reduceLeDiff, ↓xSl, ↓xAugI, ↓oE, ↓oNo, ↓xLs, ↓xExt, ↓iZp, hl2, hr]
  | _ => simp [↓xDef, ↓xSeq, ↓xDo, ↓xNext, ↓xRet, ↓xExp, ↓xIfS, ↓xAsg, ↓gN, ↓gT, ↓gsC, ↓gsN, ↓xV, ↓S.val, ↓S.bind, ↓S.opt, ↓x2, ↓x1, ↓xN, ↓xB, ↓xD, ↓xAnd, ↓xOr, ↓xNot, ↓xIf, ↓xAndV, ↓xOrV, ↓xNotV, ↓xChain, ↓aNil, ↓aCons, ↓xTup, ↓few, ↓xF, ↓xC, ↓xSetI, ↓xPar, ↓xCall, ↓xFrz, ↓xM, live, i2, dSub, dAdd, dMul, dMulA, dMod, dDiv, dLt, dLe, dGt, dGe, dIx, atI, dNeg, dAbs, dInt, dLen, dMin2, dMax2, dGcd, dTuple, ↓iR1, ↓iR2, ↓iV, items, ↓iEn, items1, nocel, nocels, List.map_cons, List.map_nil, List.getElem?_cons_zero, List.getElem?_cons_succ, List.getElem?_nil, List.set_cons_zero, List.set_cons_succ, List.length_cons, List.length_nil, List.replicate, List.cons_append, List.nil_append, Nat.reduceAdd, Nat.reduceSub, Bool.false_eq_true, if_true, if_false, Option.map_some, Option.bind_some, Option.bind_none, Bool.and_true, Bool.and_false, Bool.true_and, Bool.not_true, Bool.not_false, decide_true, decide_false, vw_n, vw_b, vw_i, vw_s, vw_u, vw_l, vw_o, ie_n, ie_b, ie_i, ie_s, ie_u, ie_l, ie_c, x10, x20, x21, x30, x31, x32, fin_b, fin_i, eq_ii, ne_ii, List.take_length, vw_k, ie_k, id_eq, Nat.reduceLeDiff, ↓xSl, ↓xAugI, ↓oE, ↓oNo, ↓xLs, ↓xExt, ↓iZp, tupB, ringB]
def chainB : D → Bool
  | .tup ds => decide (1 ≤ ds.length) && decide (ds.length ≤ 12) && ds.all ringB
  | _ => false
def typedC : D → Bool
  | .tup ds => ds.all typedT
  | d => typed d
theorem bls_map (p : D → Bool) : ∀ ds : List D, bls (ds.map fun d => .bl (p d)) = some (ds.map p)
  | [] => rfl
  | d :: ds => by
    show ((bls (ds.map fun d => .bl (p d))).map (p d :: ·)) = _
    rw [bls_map p ds]
    rfl
theorem lc_chain {ds : List D} (C : Cells) (h : ds.all typedT = true) (hl : ds.length ≤ 1000000) : q1_is_chain_in [some (.tup ds), none] C = some (.ok (ds.map fun d => .bl (ringB d)) C) := by
  have e := lcs_map (g := gd0) (t := gN 1) (c := S.val true) (x := xCall m_is_ring_in (aCons (xV 1) aNil)) (e := [some (.tup ds), none]) (C := C) rfl (p := fun _ => true) (f := fun d => .bl (ringB d)) ds fun d hd => by
    have ht : typedT d = true := List.all_eq_true.mp h d hd
    refine ⟨[some (.tup ds), some d], rfl, rfl, fun _ => ?_⟩
    simp only [↓xDef, ↓xSeq, ↓xDo, ↓xNext, ↓xRet, ↓xExp, ↓xIfS, ↓xAsg, ↓gN, ↓gT, ↓gsC, ↓gsN, ↓xV, ↓S.val, ↓S.bind, ↓S.opt, ↓x2, ↓x1, ↓xN, ↓xB, ↓xD, ↓xAnd, ↓xOr, ↓xNot, ↓xIf, ↓xAndV, ↓xOrV, ↓xNotV, ↓xChain, ↓aNil, ↓aCons, ↓xTup, ↓few, ↓xF, ↓xC, ↓xSetI, ↓xPar, ↓xCall, ↓xFrz, ↓xM, live, i2, dSub, dAdd, dMul, dMulA, dMod, dDiv, dLt, dLe, dGt, dGe, dIx, atI, dNeg, dAbs, dInt, dLen, dMin2, dMax2, dGcd, dTuple, ↓iR1, ↓iR2, ↓iV, items, ↓iEn, items1, nocel, nocels, List.map_cons, List.map_nil, List.getElem?_cons_zero, List.getElem?_cons_succ, List.getElem?_nil, List.set_cons_zero, List.set_cons_succ, List.length_cons, List.length_nil, List.replicate, List.cons_append, List.nil_append, Nat.reduceAdd, Nat.reduceSub, Bool.false_eq_true, if_true, if_false, Option.map_some, Option.bind_some, Option.bind_none, Bool.and_true, Bool.and_false, Bool.true_and, Bool.not_true, Bool.not_false, decide_true, decide_false, vw_n, vw_b, vw_i, vw_s, vw_u, vw_l, vw_o, ie_n, ie_b, ie_i, ie_s, ie_u, ie_l, ie_c, x10, x20, x21, x30, x31, x32, fin_b, fin_i, eq_ii, ne_ii, List.take_length, vw_k, ie_k, id_eq, Nat.reduceLeDiff, ↓xSl, ↓xAugI, ↓oE, ↓oNo, ↓xLs, ↓xExt, ↓iZp, ie_t (typedT_t ht), is_ring_in C ht]
  rw [List.filter_eq_self.mpr (fun _ _ => rfl)] at e
  exact xLc_ok (by simp only [↓xDef, ↓xSeq, ↓xDo, ↓xNext, ↓xRet, ↓xExp, ↓xIfS, ↓xAsg, ↓gN, ↓gT, ↓gsC, ↓gsN, ↓xV, ↓S.val, ↓S.bind, ↓S.opt, ↓x2, ↓x1, ↓xN, ↓xB, ↓xD, ↓xAnd, ↓xOr, ↓xNot, ↓xIf, ↓xAndV, ↓xOrV, ↓xNotV, ↓xChain, ↓aNil, ↓aCons, ↓xTup, ↓few, ↓xF, ↓xC, ↓xSetI, ↓xPar, ↓xCall, ↓xFrz, ↓xM, live, i2, dSub, dAdd, dMul, dMulA, dMod, dDiv, dLt, dLe, dGt, dGe, dIx, atI, dNeg, dAbs, dInt, dLen, dMin2, dMax2, dGcd, dTuple, ↓iR1, ↓iR2, ↓iV, items, ↓iEn, items1, nocel, nocels, List.map_cons, List.map_nil, List.getElem?_cons_zero, List.getElem?_cons_succ, List.getElem?_nil, List.set_cons_zero, List.set_cons_succ, List.length_cons, List.length_nil, List.replicate, List.cons_append, List.nil_append, Nat.reduceAdd, Nat.reduceSub, Bool.false_eq_true, if_true, if_false, Option.map_some, Option.bind_some, Option.bind_none, Bool.and_true, Bool.and_false, Bool.true_and, Bool.not_true, Bool.not_false, decide_true, decide_false, vw_n, vw_b, vw_i, vw_s, vw_u, vw_l, vw_o, ie_n, ie_b, ie_i, ie_s, ie_u, ie_l, ie_c, x10, x20, x21, x30, x31, x32, fin_b, fin_i, eq_ii, ne_ii, List.take_length, vw_k, ie_k, id_eq, Nat.reduceLeDiff, ↓xSl, ↓xAugI, ↓oE, ↓oNo, ↓xLs, ↓xExt, ↓iZp]) hl e
theorem is_chain_in {d : D} (C : Cells) (h : typedC d = true) : m_is_chain_in [d] C = some (.ok (.bl (chainB d)) C) := by
  have h1 : typed d = true := by cases d <;> first | rfl | exact h
  unfold m_is_chain_in b_is_chain_in
  cases d with
  | tup ds =>
    have h : ds.all typedT = true := h
    simp only [↓xDef, ↓xSeq, ↓xDo, ↓xNext, ↓xRet, ↓xExp, ↓xIfS, ↓xAsg, ↓gN, ↓gT, ↓gsC, ↓gsN, ↓xV, ↓S.val, ↓S.bind, ↓S.opt, ↓x2, ↓x1, ↓xN, ↓xB, ↓xD, ↓xAnd, ↓xOr, ↓xNot, ↓xIf, ↓xAndV, ↓xOrV, ↓xNotV, ↓xChain, ↓aNil, ↓aCons, ↓xTup, ↓few, ↓xF, ↓xC, ↓xSetI, ↓xPar, ↓xCall, ↓xFrz, ↓xM, live, i2, dSub, dAdd, dMul, dMulA, dMod, dDiv, dLt, dLe, dGt, dGe, dIx, atI, dNeg, dAbs, dInt, dLen, dMin2, dMax2, dGcd, dTuple, ↓iR1, ↓iR2, ↓iV, items, ↓iEn, items1, nocel, nocels, List.map_cons, List.map_nil, List.getElem?_cons_zero, List.getElem?_cons_succ, List.getElem?_nil, List.set_cons_zero, List.set_cons_succ, List.length_cons, List.length_nil, List.replicate, List.cons_append, List.nil_append, Nat.reduceAdd, Nat.reduceSub, Bool.false_eq_true, if_true, if_false, Option.map_some, Option.bind_some, Option.bind_none, Bool.and_true, Bool.and_false, Bool.true_and, Bool.not_true, Bool.not_false, decide_true, decide_false, vw_n, vw_b, vw_i, vw_s, vw_u, vw_l, vw_o, ie_n, ie_b, ie_i, ie_s, ie_u, ie_l, ie_c, x10, x20, x21, x30, x31, x32, fin_b, fin_i, eq_ii, ne_ii, List.take_length, vw_k, ie_k, id_eq, Nat.reduceLeDiff, ↓xSl, ↓xAugI, ↓oE, ↓oNo, ↓xLs, ↓xExt, ↓iZp, isi_tup h1, tupB, chainB]
    by_cases hl1 : 1 ≤ ds.length
    · have q1 : decide ((1 : Int) ≤ (ds.length : Int)) = true := by simp; omega
      by_cases hl2 : ds.length ≤ 12
      · have q2 : decide ((ds.length : Int) ≤ 12) = true := by simp; omega
        simp only [↓xDef, ↓xSeq, ↓xDo, ↓xNext, ↓xRet, ↓xExp, ↓xIfS, ↓xAsg, ↓gN, ↓gT, ↓gsC, ↓gsN, ↓xV, ↓S.val, ↓S.bind, ↓S.opt, ↓x2, ↓x1, ↓xN, ↓xB, ↓xD, ↓xAnd, ↓xOr, ↓xNot, ↓xIf, ↓xAndV, ↓xOrV, ↓xNotV, ↓xChain, ↓aNil, ↓aCons, ↓xTup, ↓few, ↓xF, ↓xC, ↓xSetI, ↓xPar, ↓xCall, ↓xFrz, ↓xM, live, i2, dSub, dAdd, dMul, dMulA, dMod, dDiv, dLt, dLe, dGt, dGe, dIx, atI, dNeg, dAbs, dInt, dLen, dMin2, dMax2, dGcd, dTuple, ↓iR1, ↓iR2, ↓iV, items, ↓iEn, items1, nocel, nocels, List.map_cons, List.map_nil, List.getElem?_cons_zero, List.getElem?_cons_succ, List.getElem?_nil, List.set_cons_zero, List.set_cons_succ, List.length_cons, List.length_nil, List.replicate, List.cons_append, List.nil_append, Nat.reduceAdd, Nat.reduceSub, Bool.false_eq_true, if_true, if_false, Option.map_some, Option.bind_some, Option.bind_none, Bool.and_true, Bool.and_false, Bool.true_and, Bool.not_true, Bool.not_false, decide_true, decide_false, vw_n, vw_b, vw_i, vw_s, vw_u, vw_l, vw_o, ie_n, ie_b, ie_i, ie_s, ie_u, ie_l, ie_c, x10, x20, x21, x30, x31, x32, fin_b, fin_i, eq_ii, ne_ii, List.take_length, vw_k, ie_k, id_eq, Nat.reduceLeDiff, ↓xSl, ↓xAugI, ↓oE, ↓oNo, ↓xLs, ↓xExt, ↓iZp, lc_chain C h (by omega), q1, q2, dAll, bls_map, hl1, hl2, dLe]
        rw [List.all_map]
        rfl
      · have q2 : decide ((ds.length : Int) ≤ 12) = false := by simp; omega
        simp only [↓xDef, ↓xSeq, ↓xDo, ↓xNext, ↓xRet, ↓xExp, ↓xIfS, ↓xAsg, ↓gN, ↓gT, ↓gsC, ↓gsN, ↓xV, ↓S.val, ↓S.bind, ↓S.opt, ↓x2, ↓x1, ↓xN, ↓xB, ↓xD, ↓xAnd, ↓xOr, ↓xNot, ↓xIf, ↓xAndV, ↓xOrV, ↓xNotV, ↓xChain, ↓aNil, ↓aCons, ↓xTup, ↓few, ↓xF, ↓xC, ↓xSetI, ↓xPar, ↓xCall, ↓xFrz, ↓xM, live, i2, dSub, dAdd, dMul, dMulA, dMod, dDiv, dLt, dLe, dGt, dGe, dIx, atI, dNeg, dAbs, dInt, dLen, dMin2, dMax2, dGcd, dTuple, ↓iR1, ↓iR2, ↓iV, items, ↓iEn, items1, nocel, nocels, List.map_cons, List.map_nil, List.getElem?_cons_zero, List.getElem?_cons_succ, List.getElem?_nil, List.set_cons_zero, List.set_cons_succ, List.length_cons, List.length_nil, List.replicate, List.cons_append, List.nil_append, Nat.reduceAdd, Nat.reduceSub, Bool.false_eq_true, if_true, if_false, Option.map_some, Option.bind_some, Option.bind_none, Bool.and_true, Bool.and_false, Bool.true_and, Bool.not_true, Bool.not_false, decide_true, decide_false, vw_n, vw_b, vw_i, vw_s, vw_u, vw_l, vw_o, ie_n, ie_b, ie_i, ie_s, ie_u, ie_l, ie_c, x10, x20, x21, x30, x31, x32, fin_b, fin_i, eq_ii, ne_ii, List.take_length, vw_k, ie_k, id_eq, Nat.reduceLeDiff, ↓xSl, ↓xAugI, ↓oE, ↓oNo, ↓xLs, ↓xExt, ↓iZp, q1, q2, hl1, hl2, dLe, Bool.false_and]
    · have q1 : decide ((1 : Int) ≤ (ds.length : Int)) = false := by simp; omega
      simp only [↓xDef, ↓xSeq, ↓xDo, ↓xNext, ↓xRet, ↓xExp, ↓xIfS, ↓xAsg, ↓gN, ↓gT, ↓gsC, ↓gsN, ↓xV, ↓S.val, ↓S.bind, ↓S.opt, ↓x2, ↓x1, ↓xN, ↓xB, ↓xD, ↓xAnd, ↓xOr, ↓xNot, ↓xIf, ↓xAndV, ↓xOrV, ↓xNotV, ↓xChain, ↓aNil, ↓aCons, ↓xTup, ↓few, ↓xF, ↓xC, ↓xSetI, ↓xPar, ↓xCall, ↓xFrz, ↓xM, live, i2, dSub, dAdd, dMul, dMulA, dMod, dDiv, dLt, dLe, dGt, dGe, dIx, atI, dNeg, dAbs, dInt, dLen, dMin2, dMax2, dGcd, dTuple, ↓iR1, ↓iR2, ↓iV, items, ↓iEn, items1, nocel, nocels, List.map_cons, List.map_nil, List.getElem?_cons_zero, List.getElem?_cons_succ, List.getElem?_nil, List.set_cons_zero, List.set_cons_succ, List.length_cons, List.length_nil, List.replicate, List.cons_append, List.nil_append, Nat.reduceAdd, Nat.reduceSub, Bool.false_eq_true, if_true, if_false, Option.map_some, Option.bind_some, Option.bind_none, Bool.and_true, Bool.and_false, Bool.true_and, Bool.not_true, Bool.not_false, decide_true, decide_false, vw_n, vw_b, vw_i, vw_s, vw_u, vw_l, vw_o, ie_n, ie_b, ie_i, ie_s, ie_u, ie_l, ie_c, x10, x20, x21, x30, x31, x32, fin_b, fin_i, eq_ii, ne_ii, List.take_length, vw_k, ie_k, id_eq, Nat.reduceLeDiff, ↓xSl, ↓xAugI, ↓oE, ↓oNo, ↓xLs, ↓xExt, ↓iZp, q1, hl1, dLe, decide_false, Bool.false_and]
  | _ => first | (simp [typed] at h1; done) | simp only [↓xDef, ↓xSeq, ↓xDo, ↓xNext, ↓xRet, ↓xExp, ↓xIfS, ↓xAsg, ↓gN, ↓gT, ↓gsC, ↓gsN, ↓xV, ↓S.val, ↓S.bind, ↓S.opt, ↓x2, ↓x1, ↓xN, ↓xB, ↓xD, ↓xAnd, ↓xOr, ↓xNot, ↓xIf, ↓xAndV, ↓xOrV, ↓xNotV, ↓xChain, ↓aNil, ↓aCons, ↓xTup, ↓few, ↓xF, ↓xC, ↓xSetI, ↓xPar, ↓xCall, ↓xFrz, ↓xM, live, i2, dSub, dAdd, dMul, dMulA, dMod, dDiv, dLt, dLe, dGt, dGe, dIx, atI, dNeg, dAbs, dInt, dLen, dMin2, dMax2, dGcd, dTuple, ↓iR1, ↓iR2, ↓iV, items, ↓iEn, items1, nocel, nocels, List.map_cons, List.map_nil, List.getElem?_cons_zero, List.getElem?_cons_succ, List.getElem?_nil, List.set_cons_zero, List.set_cons_succ, List.length_cons, List.length_nil, List.replicate, List.cons_append, List.nil_append, Nat.reduceAdd, Nat.reduceSub, Bool.false_eq_true, if_true, if_false, Option.map_some, Option.bind_some, Option.bind_none, Bool.and_true, Bool.and_false, Bool.true_and, Bool.not_true, Bool.not_false, decide_true, decide_false, vw_n, vw_b, vw_i, vw_s, vw_u, vw_l, vw_o, ie_n, ie_b, ie_i, ie_s, ie_u, ie_l, ie_c, x10, x20, x21, x30, x31, x32, fin_b, fin_i, eq_ii, ne_ii, List.take_length, vw_k, ie_k, id_eq, Nat.reduceLeDiff, ↓xSl, ↓xAugI, ↓oE, ↓oNo, ↓xLs, ↓xExt, ↓iZp, isi_tup h1, tupB, chainB]
theorem req_chain {d : D} (C : Cells) (h : typedC d = true) (hc : chainB d = true) : m_require_chain [d] C = some (.ok .non C) := by
  have h1 : typed d = true := by cases d <;> first | rfl | exact h
  unfold m_require_chain b_require_chain
  simp only [↓xDef, ↓xSeq, ↓xDo, ↓xNext, ↓xRet, ↓xExp, ↓xIfS, ↓xAsg, ↓gN, ↓gT, ↓gsC, ↓gsN, ↓xV, ↓S.val, ↓S.bind, ↓S.opt, ↓x2, ↓x1, ↓xN, ↓xB, ↓xD, ↓xAnd, ↓xOr, ↓xNot, ↓xIf, ↓xAndV, ↓xOrV, ↓xNotV, ↓xChain, ↓aNil, ↓aCons, ↓xTup, ↓few, ↓xF, ↓xC, ↓xSetI, ↓xPar, ↓xCall, ↓xFrz, ↓xM, live, i2, dSub, dAdd, dMul, dMulA, dMod, dDiv, dLt, dLe, dGt, dGe, dIx, atI, dNeg, dAbs, dInt, dLen, dMin2, dMax2, dGcd, dTuple, ↓iR1, ↓iR2, ↓iV, items, ↓iEn, items1, nocel, nocels, List.map_cons, List.map_nil, List.getElem?_cons_zero, List.getElem?_cons_succ, List.getElem?_nil, List.set_cons_zero, List.set_cons_succ, List.length_cons, List.length_nil, List.replicate, List.cons_append, List.nil_append, Nat.reduceAdd, Nat.reduceSub, Bool.false_eq_true, if_true, if_false, Option.map_some, Option.bind_some, Option.bind_none, Bool.and_true, Bool.and_false, Bool.true_and, Bool.not_true, Bool.not_false, decide_true, decide_false, vw_n, vw_b, vw_i, vw_s, vw_u, vw_l, vw_o, ie_n, ie_b, ie_i, ie_s, ie_u, ie_l, ie_c, x10, x20, x21, x30, x31, x32, fin_b, fin_i, eq_ii, ne_ii, List.take_length, vw_k, ie_k, id_eq, Nat.reduceLeDiff, ↓xSl, ↓xAugI, ↓oE, ↓oNo, ↓xLs, ↓xExt, ↓iZp, ie_t h1, is_chain_in C h, hc]
/-- a ring -/
abbrev rg (n s : Int) : D := .tup [.int n, .int s]
theorem ring_ok {n s : Int} (h1 : 2 ≤ n) (h2 : n ≤ 60) (h3 : 1 ≤ s) (h4 : s < n) : ringB (rg n s) = true := by
  simp [ringB, withinB, h1, h2, h3]
  omega
theorem one_of {C : Cells} {n k : Nat} {ds : List D} (D0 : Dc C n k) (hk : k ≤ 1000000) (h0 : ds ≠ []) (h1 : ds.length < 1000000) (hc : ∀ d ∈ ds, nocel d = true) :
    ∃ d C', m__law_one_of [.cel n, .lst ds] C = some (.ok d C') ∧ d ∈ ds ∧ C'.length = C.length ∧ Dc C' n (k + 1) := by
  have hp : 0 < ds.length := List.length_pos_iff.mpr h0
  obtain ⟨v, C', e, v0, v1, hl, D1⟩ := roll (z := (ds.length : Int)) D0 hk (by omega) (by omega)
  obtain ⟨i, rfl⟩ := Int.eq_ofNat_of_zero_le v0
  have hi : i < ds.length := by omega
  refine ⟨ds[i], C', ?_, List.getElem_mem hi, hl, D1⟩
  unfold m__law_one_of b__law_one_of
  have q : fin C.length ds[i] C' = some (.ok ds[i] C') := by
    rw [fin_n (hc _ (List.getElem_mem hi)), ← hl, List.take_length]
  simp only [↓xDef, ↓xSeq, ↓xDo, ↓xNext, ↓xRet, ↓xExp, ↓xIfS, ↓xAsg, ↓gN, ↓gT, ↓gsC, ↓gsN, ↓xV, ↓S.val, ↓S.bind, ↓S.opt, ↓x2, ↓x1, ↓xN, ↓xB, ↓xD, ↓xAnd, ↓xOr, ↓xNot, ↓xIf, ↓xAndV, ↓xOrV, ↓xNotV, ↓xChain, ↓aNil, ↓aCons, ↓xTup, ↓few, ↓xF, ↓xC, ↓xSetI, ↓xPar, ↓xCall, ↓xFrz, ↓xM, live, i2, dSub, dAdd, dMul, dMulA, dMod, dDiv, dLt, dLe, dGt, dGe, dIx, atI, dNeg, dAbs, dInt, dLen, dMin2, dMax2, dGcd, dTuple, ↓iR1, ↓iR2, ↓iV, items, ↓iEn, items1, nocel, nocels, List.map_cons, List.map_nil, List.getElem?_cons_zero, List.getElem?_cons_succ, List.getElem?_nil, List.set_cons_zero, List.set_cons_succ, List.length_cons, List.length_nil, List.replicate, List.cons_append, List.nil_append, Nat.reduceAdd, Nat.reduceSub, Bool.false_eq_true, if_true, if_false, Option.map_some, Option.bind_some, Option.bind_none, Bool.and_true, Bool.and_false, Bool.true_and, Bool.not_true, Bool.not_false, decide_true, decide_false, vw_n, vw_b, vw_i, vw_s, vw_u, vw_l, vw_o, ie_n, ie_b, ie_i, ie_s, ie_u, ie_l, ie_c, x10, x20, x21, x30, x31, x32, fin_b, fin_i, eq_ii, ne_ii, List.take_length, vw_k, ie_k, id_eq, Nat.reduceLeDiff, ↓xSl, ↓xAugI, ↓oE, ↓oNo, ↓xLs, ↓xExt, ↓iZp, e, ixN_nat hi, List.getElem?_eq_getElem hi, q]
theorem ring_made {C : Cells} {n k : Nat} {m : Int} (D0 : Dc C n k) (hk : k ≤ 900000) (h0 : 2 ≤ m) (h1 : m ≤ 1000) :
    ∃ a s C', m__law_ring [.cel n, .int m] C = some (.ok (rg a s) C') ∧ 2 ≤ a ∧ a ≤ m ∧ 1 ≤ s ∧ s < a ∧ C'.length = C.length ∧ Dc C' n (k + 2) := by
  obtain ⟨v, C1, e1, v0, v1, hl, D1⟩ := roll (z := m - 1) D0 (by omega) (by omega) (by omega)
  obtain ⟨u, C2, e2, u0, u1, hl2, D2⟩ := roll (z := 2 + v - 1) D1 (by omega) (by omega) (by omega)
  refine ⟨2 + v, 1 + u, C2, ?_, by omega, by omega, by omega, by omega, by omega, D2⟩
  unfold m__law_ring b__law_ring
  have q : fin C.length (rg (2 + v) (1 + u)) C2 = some (.ok (rg (2 + v) (1 + u)) C2) := by
    rw [fin_n rfl, ← hl, ← hl2, List.take_length]
  simp only [↓xDef, ↓xSeq, ↓xDo, ↓xNext, ↓xRet, ↓xExp, ↓xIfS, ↓xAsg, ↓gN, ↓gT, ↓gsC, ↓gsN, ↓xV, ↓S.val, ↓S.bind, ↓S.opt, ↓x2, ↓x1, ↓xN, ↓xB, ↓xD, ↓xAnd, ↓xOr, ↓xNot, ↓xIf, ↓xAndV, ↓xOrV, ↓xNotV, ↓xChain, ↓aNil, ↓aCons, ↓xTup, ↓few, ↓xF, ↓xC, ↓xSetI, ↓xPar, ↓xCall, ↓xFrz, ↓xM, live, i2, dSub, dAdd, dMul, dMulA, dMod, dDiv, dLt, dLe, dGt, dGe, dIx, atI, dNeg, dAbs, dInt, dLen, dMin2, dMax2, dGcd, dTuple, ↓iR1, ↓iR2, ↓iV, items, ↓iEn, items1, nocel, nocels, List.map_cons, List.map_nil, List.getElem?_cons_zero, List.getElem?_cons_succ, List.getElem?_nil, List.set_cons_zero, List.set_cons_succ, List.length_cons, List.length_nil, List.replicate, List.cons_append, List.nil_append, Nat.reduceAdd, Nat.reduceSub, Bool.false_eq_true, if_true, if_false, Option.map_some, Option.bind_some, Option.bind_none, Bool.and_true, Bool.and_false, Bool.true_and, Bool.not_true, Bool.not_false, decide_true, decide_false, vw_n, vw_b, vw_i, vw_s, vw_u, vw_l, vw_o, ie_n, ie_b, ie_i, ie_s, ie_u, ie_l, ie_c, x10, x20, x21, x30, x31, x32, fin_b, fin_i, eq_ii, ne_ii, List.take_length, vw_k, ie_k, id_eq, Nat.reduceLeDiff, ↓xSl, ↓xAugI, ↓oE, ↓oNo, ↓xLs, ↓xExt, ↓iZp, e1, e2, Nat.reduceLeDiff, q]
theorem common {k o g : Int} (C : Cells) (h : b__law_common [some (.int k), some (.int o)] C = some (.ret (.int g) C)) : m__law_common [.int k, .int o] C = some (.ok (.int g) C) := by
  unfold m__law_common
  simp only [↓xDef, ↓xSeq, ↓xDo, ↓xNext, ↓xRet, ↓xExp, ↓xIfS, ↓xAsg, ↓gN, ↓gT, ↓gsC, ↓gsN, ↓xV, ↓S.val, ↓S.bind, ↓S.opt, ↓x2, ↓x1, ↓xN, ↓xB, ↓xD, ↓xAnd, ↓xOr, ↓xNot, ↓xIf, ↓xAndV, ↓xOrV, ↓xNotV, ↓xChain, ↓aNil, ↓aCons, ↓xTup, ↓few, ↓xF, ↓xC, ↓xSetI, ↓xPar, ↓xCall, ↓xFrz, ↓xM, live, i2, dSub, dAdd, dMul, dMulA, dMod, dDiv, dLt, dLe, dGt, dGe, dIx, atI, dNeg, dAbs, dInt, dLen, dMin2, dMax2, dGcd, dTuple, ↓iR1, ↓iR2, ↓iV, items, ↓iEn, items1, nocel, nocels, List.map_cons, List.map_nil, List.getElem?_cons_zero, List.getElem?_cons_succ, List.getElem?_nil, List.set_cons_zero, List.set_cons_succ, List.length_cons, List.length_nil, List.replicate, List.cons_append, List.nil_append, Nat.reduceAdd, Nat.reduceSub, Bool.false_eq_true, if_true, if_false, Option.map_some, Option.bind_some, Option.bind_none, Bool.and_true, Bool.and_false, Bool.true_and, Bool.not_true, Bool.not_false, decide_true, decide_false, vw_n, vw_b, vw_i, vw_s, vw_u, vw_l, vw_o, ie_n, ie_b, ie_i, ie_s, ie_u, ie_l, ie_c, x10, x20, x21, x30, x31, x32, fin_b, fin_i, eq_ii, ne_ii, List.take_length, vw_k, ie_k, id_eq, Nat.reduceLeDiff, ↓xSl, ↓xAugI, ↓oE, ↓oNo, ↓xLs, ↓xExt, ↓iZp, h]
theorem com21 (C : Cells) : m__law_common [.int 2, .int 1] C = some (.ok (.int 1) C) := common C rfl
theorem com31 (C : Cells) : m__law_common [.int 3, .int 1] C = some (.ok (.int 1) C) := common C rfl
theorem com32 (C : Cells) : m__law_common [.int 3, .int 2] C = some (.ok (.int 1) C) := common C rfl
theorem com41 (C : Cells) : m__law_common [.int 4, .int 1] C = some (.ok (.int 1) C) := common C rfl
theorem com42 (C : Cells) : m__law_common [.int 4, .int 2] C = some (.ok (.int 2) C) := common C rfl
theorem com43 (C : Cells) : m__law_common [.int 4, .int 3] C = some (.ok (.int 1) C) := common C rfl
theorem steps_of {k : Int} (hk : k = 2 ∨ k = 3 ∨ k = 4) (C : Cells) (a b c : D) : ∃ ds : List D, q1__law_ring_of [some a, some (.int k), some b, some c, none, none] C = some (.ok ds C) ∧ ds ≠ [] ∧ ds.length ≤ 3 ∧ ∀ d ∈ ds, ∃ o, d = .int o ∧ 1 ≤ o ∧ o < k := by
  rcases hk with rfl | rfl | rfl
  · refine ⟨[.int 1], ?_, by simp, by simp, fun d hd => ⟨1, by simpa using hd, by decide, by decide⟩⟩
    refine xLc_ok (ds := [.int 1]) (g := gd0) (C1 := C) (iR2_ok (i := 1) (j := 2) rfl (by decide) (by decide)) (by simp) ?_
    simp only [↓xDef, ↓xSeq, ↓xDo, ↓xNext, ↓xRet, ↓xExp, ↓xIfS, ↓xAsg, ↓gN, ↓gT, ↓gsC, ↓gsN, ↓xV, ↓S.val, ↓S.bind, ↓S.opt, ↓x2, ↓x1, ↓xN, ↓xB, ↓xD, ↓xAnd, ↓xOr, ↓xNot, ↓xIf, ↓xAndV, ↓xOrV, ↓xNotV, ↓xChain, ↓aNil, ↓aCons, ↓xTup, ↓few, ↓xF, ↓xC, ↓xSetI, ↓xPar, ↓xCall, ↓xFrz, ↓xM, live, i2, dSub, dAdd, dMul, dMulA, dMod, dDiv, dLt, dLe, dGt, dGe, dIx, atI, dNeg, dAbs, dInt, dLen, dMin2, dMax2, dGcd, dTuple, ↓iR1, ↓iR2, ↓iV, items, ↓iEn, items1, nocel, nocels, List.map_cons, List.map_nil, List.getElem?_cons_zero, List.getElem?_cons_succ, List.getElem?_nil, List.set_cons_zero, List.set_cons_succ, List.length_cons, List.length_nil, List.replicate, List.cons_append, List.nil_append, Nat.reduceAdd, Nat.reduceSub, Bool.false_eq_true, if_true, if_false, Option.map_some, Option.bind_some, Option.bind_none, Bool.and_true, Bool.and_false, Bool.true_and, Bool.not_true, Bool.not_false, decide_true, decide_false, vw_n, vw_b, vw_i, vw_s, vw_u, vw_l, vw_o, ie_n, ie_b, ie_i, ie_s, ie_u, ie_l, ie_c, x10, x20, x21, x30, x31, x32, fin_b, fin_i, eq_ii, ne_ii, List.take_length, vw_k, ie_k, id_eq, Nat.reduceLeDiff, ↓xSl, ↓xAugI, ↓oE, ↓oNo, ↓xLs, ↓xExt, ↓iZp, lcs, gd0, wipeE, com21]
    rfl
  · refine ⟨[.int 1, .int 2], ?_, by simp, by simp, fun d hd => ?_⟩
    · refine xLc_ok (ds := [.int 1, .int 2]) (g := gd0) (C1 := C) (iR2_ok (i := 1) (j := 3) rfl (by decide) (by decide)) (by simp) ?_
      simp only [↓xDef, ↓xSeq, ↓xDo, ↓xNext, ↓xRet, ↓xExp, ↓xIfS, ↓xAsg, ↓gN, ↓gT, ↓gsC, ↓gsN, ↓xV, ↓S.val, ↓S.bind, ↓S.opt, ↓x2, ↓x1, ↓xN, ↓xB, ↓xD, ↓xAnd, ↓xOr, ↓xNot, ↓xIf, ↓xAndV, ↓xOrV, ↓xNotV, ↓xChain, ↓aNil, ↓aCons, ↓xTup, ↓few, ↓xF, ↓xC, ↓xSetI, ↓xPar, ↓xCall, ↓xFrz, ↓xM, live, i2, dSub, dAdd, dMul, dMulA, dMod, dDiv, dLt, dLe, dGt, dGe, dIx, atI, dNeg, dAbs, dInt, dLen, dMin2, dMax2, dGcd, dTuple, ↓iR1, ↓iR2, ↓iV, items, ↓iEn, items1, nocel, nocels, List.map_cons, List.map_nil, List.getElem?_cons_zero, List.getElem?_cons_succ, List.getElem?_nil, List.set_cons_zero, List.set_cons_succ, List.length_cons, List.length_nil, List.replicate, List.cons_append, List.nil_append, Nat.reduceAdd, Nat.reduceSub, Bool.false_eq_true, if_true, if_false, Option.map_some, Option.bind_some, Option.bind_none, Bool.and_true, Bool.and_false, Bool.true_and, Bool.not_true, Bool.not_false, decide_true, decide_false, vw_n, vw_b, vw_i, vw_s, vw_u, vw_l, vw_o, ie_n, ie_b, ie_i, ie_s, ie_u, ie_l, ie_c, x10, x20, x21, x30, x31, x32, fin_b, fin_i, eq_ii, ne_ii, List.take_length, vw_k, ie_k, id_eq, Nat.reduceLeDiff, ↓xSl, ↓xAugI, ↓oE, ↓oNo, ↓xLs, ↓xExt, ↓iZp, lcs, gd0, wipeE, com31, com32]
      rfl
    · simp at hd
      rcases hd with rfl | rfl
      · exact ⟨1, rfl, by decide, by decide⟩
      · exact ⟨2, rfl, by decide, by decide⟩
  · refine ⟨[.int 1, .int 3], ?_, by simp, by simp, fun d hd => ?_⟩
    · refine xLc_ok (ds := [.int 1, .int 2, .int 3]) (g := gd0) (C1 := C) (iR2_ok (i := 1) (j := 4) rfl (by decide) (by decide)) (by simp) ?_
      simp only [↓xDef, ↓xSeq, ↓xDo, ↓xNext, ↓xRet, ↓xExp, ↓xIfS, ↓xAsg, ↓gN, ↓gT, ↓gsC, ↓gsN, ↓xV, ↓S.val, ↓S.bind, ↓S.opt, ↓x2, ↓x1, ↓xN, ↓xB, ↓xD, ↓xAnd, ↓xOr, ↓xNot, ↓xIf, ↓xAndV, ↓xOrV, ↓xNotV, ↓xChain, ↓aNil, ↓aCons, ↓xTup, ↓few, ↓xF, ↓xC, ↓xSetI, ↓xPar, ↓xCall, ↓xFrz, ↓xM, live, i2, dSub, dAdd, dMul, dMulA, dMod, dDiv, dLt, dLe, dGt, dGe, dIx, atI, dNeg, dAbs, dInt, dLen, dMin2, dMax2, dGcd, dTuple, ↓iR1, ↓iR2, ↓iV, items, ↓iEn, items1, nocel, nocels, List.map_cons, List.map_nil, List.getElem?_cons_zero, List.getElem?_cons_succ, List.getElem?_nil, List.set_cons_zero, List.set_cons_succ, List.length_cons, List.length_nil, List.replicate, List.cons_append, List.nil_append, Nat.reduceAdd, Nat.reduceSub, Bool.false_eq_true, if_true, if_false, Option.map_some, Option.bind_some, Option.bind_none, Bool.and_true, Bool.and_false, Bool.true_and, Bool.not_true, Bool.not_false, decide_true, decide_false, vw_n, vw_b, vw_i, vw_s, vw_u, vw_l, vw_o, ie_n, ie_b, ie_i, ie_s, ie_u, ie_l, ie_c, x10, x20, x21, x30, x31, x32, fin_b, fin_i, eq_ii, ne_ii, List.take_length, vw_k, ie_k, id_eq, Nat.reduceLeDiff, ↓xSl, ↓xAugI, ↓oE, ↓oNo, ↓xLs, ↓xExt, ↓iZp, lcs, gd0, wipeE, com41, com42, com43]
      rfl
    · simp at hd
      rcases hd with rfl | rfl
      · exact ⟨1, rfl, by decide, by decide⟩
      · exact ⟨3, rfl, by decide, by decide⟩
theorem ring_of {C : Cells} {n k : Nat} {z t : Int} (hz : z = 2 ∨ z = 3 ∨ z = 4) (D0 : Dc C n k) (hk : k ≤ 900000) (h0 : 1 ≤ t) (h1 : t ≤ 1000) :
    ∃ a s C', m__law_ring_of [.cel n, .int z, .int t] C = some (.ok (rg a s) C') ∧ 2 ≤ a ∧ a ≤ z * t ∧ 1 ≤ s ∧ s < a ∧ C'.length = C.length ∧ Dc C' n (k + 2) := by
  obtain ⟨v, C1, e1, v0, v1, hl, D1⟩ := roll (z := t) D0 (by omega) (by omega) (by omega)
  obtain ⟨ds, hq, hne, hlen, hds⟩ := steps_of hz C1 (.cel n) (.int t) (.int (1 + v))
  obtain ⟨d, C2, e2, hd, hl2, D2⟩ := one_of (ds := ds) D1 (by omega) hne (by omega) fun d hd => by
    obtain ⟨o, rfl, _⟩ := hds d hd
    rfl
  obtain ⟨o, rfl, o1, o2⟩ := hds d hd
  have b1 : z.natAbs < 2 ^ 400000 := small_dec (by omega) (by omega)
  have b2 : (1 + v).natAbs < 2 ^ 400000 := small_dec (by omega) (by omega)
  have b3 : o.natAbs < 2 ^ 400000 := small_dec (by omega) (by omega)
  have m1 : 1 ≤ (1 + v) * o := by
    have := Int.mul_le_mul (show (1 : Int) ≤ 1 + v by omega) o1 (by omega) (by omega)
    omega
  have m2 : (1 + v) * o < z * (1 + v) := by
    rw [Int.mul_comm z]
    exact Int.mul_lt_mul_of_pos_left o2 (by omega)
  have m3 : z * (1 + v) ≤ z * t := Int.mul_le_mul_of_nonneg_left (by omega) (by omega)
  refine ⟨z * (1 + v), (1 + v) * o, C2, ?_, by omega, m3, m1, m2, by omega, D2⟩
  unfold m__law_ring_of b__law_ring_of
  have q : fin C.length (rg (z * (1 + v)) ((1 + v) * o)) C2 = some (.ok (rg (z * (1 + v)) ((1 + v) * o)) C2) := by
    rw [fin_n rfl, ← hl, ← hl2, List.take_length]
  simp only [↓xDef, ↓xSeq, ↓xDo, ↓xNext, ↓xRet, ↓xExp, ↓xIfS, ↓xAsg, ↓gN, ↓gT, ↓gsC, ↓gsN, ↓xV, ↓S.val, ↓S.bind, ↓S.opt, ↓x2, ↓x1, ↓xN, ↓xB, ↓xD, ↓xAnd, ↓xOr, ↓xNot, ↓xIf, ↓xAndV, ↓xOrV, ↓xNotV, ↓xChain, ↓aNil, ↓aCons, ↓xTup, ↓few, ↓xF, ↓xC, ↓xSetI, ↓xPar, ↓xCall, ↓xFrz, ↓xM, live, i2, dSub, dAdd, dMul, dMulA, dMod, dDiv, dLt, dLe, dGt, dGe, dIx, atI, dNeg, dAbs, dInt, dLen, dMin2, dMax2, dGcd, dTuple, ↓iR1, ↓iR2, ↓iV, items, ↓iEn, items1, nocel, nocels, List.map_cons, List.map_nil, List.getElem?_cons_zero, List.getElem?_cons_succ, List.getElem?_nil, List.set_cons_zero, List.set_cons_succ, List.length_cons, List.length_nil, List.replicate, List.cons_append, List.nil_append, Nat.reduceAdd, Nat.reduceSub, Bool.false_eq_true, if_true, if_false, Option.map_some, Option.bind_some, Option.bind_none, Bool.and_true, Bool.and_false, Bool.true_and, Bool.not_true, Bool.not_false, decide_true, decide_false, vw_n, vw_b, vw_i, vw_s, vw_u, vw_l, vw_o, ie_n, ie_b, ie_i, ie_s, ie_u, ie_l, ie_c, x10, x20, x21, x30, x31, x32, fin_b, fin_i, eq_ii, ne_ii, List.take_length, vw_k, ie_k, id_eq, Nat.reduceLeDiff, ↓xSl, ↓xAugI, ↓oE, ↓oNo, ↓xLs, ↓xExt, ↓iZp, e1, e2, hq, b1, b2, b3, and_self, Nat.reduceLeDiff, q]
def isRg (d : D) : Prop := ∃ a s : Int, d = rg a s ∧ 2 ≤ a ∧ a ≤ 60 ∧ 1 ≤ s ∧ s < a
theorem isRg.nc {d : D} (h : isRg d) : nocel d = true := by
  obtain ⟨a, s, rfl, _⟩ := h
  rfl
theorem rng_ok {r : Int} (h0 : 0 ≤ r) (h1 : r ≤ 1000000) : (-4611686018427387904 ≤ r ∧ r < 4611686018427387904) := by omega
def isRgM (mo : Int) (d : D) : Prop := ∃ a s : Int, d = rg a s ∧ 2 ≤ a ∧ a ≤ mo ∧ 1 ≤ s ∧ s < a
theorem isRgM.rg {mo : Int} {d : D} (h : isRgM mo d) (hm : mo ≤ 60) : isRg d := by
  obtain ⟨a, s, rfl, h1, h2, h3, h4⟩ := h
  exact ⟨a, s, rfl, h1, by omega, h3, h4⟩
theorem chain_made {C : Cells} {n k : Nat} {r : Int} (D0 : Dc C n k) (hk : k ≤ 800000) (h0 : 1 ≤ r) (h1 : r ≤ 40) {mo : Int} (h2 : 2 ≤ mo) (h3 : mo ≤ 60) :
    ∃ ds C', m__law_chain [.cel n, .int r, .int mo] C = some (.ok (.tup ds) C') ∧ ds.length = r.toNat ∧ (∀ d ∈ ds, isRgM mo d) ∧ C'.length = C.length ∧ Dc C' n (k + 100) := by
  obtain ⟨v, C1, e1, v0, v1, hl, D1⟩ := roll (z := 3) D0 (by omega) (by omega) (by omega)
  have hr := rng1_ok (z := r) (by omega) (by omega)
  by_cases hv : v = 0
  · subst hv
    obtain ⟨m0, hm0⟩ : ∃ m0 : Int, (if mo - 1 < 3 then mo - 1 else 3) = m0 := ⟨_, rfl⟩
    have hm1 : 1 ≤ m0 ∧ m0 ≤ 3 ∧ m0 ≤ mo - 1 := by split at hm0 <;> omega
    obtain ⟨w, C2, e2, w0, w1, hl2, D2⟩ := roll (z := m0) D1 (by omega) (by omega) (by omega)
    have hz : 2 + w = 2 ∨ 2 + w = 3 ∨ 2 + w = 4 := by omega
    have ht : 1 ≤ mo / (2 + w) ∧ mo / (2 + w) ≤ 1000 ∧ (2 + w) * (mo / (2 + w)) ≤ mo := by
      rcases hz with h | h | h <;> rw [h] <;> omega
    have b1 : (0 : Int) < 2 + w := by omega
    have b2 : (2 + w).natAbs < 2 ^ 8000 := Nat.lt_of_lt_of_le (m := 2 ^ 8) (by omega) (Nat.pow_le_pow_right (by decide) (by decide))
    obtain ⟨ds, C3, e3, g1, g2, g3, g4⟩ := lcs_go (t := gN 4) (x := xCall m__law_ring_of (aCons (xV 0) (aCons (xV 3) (aCons (x2 dDiv (xV 2) (xV 3)) aNil)))) (e := [some (.cel n), some (.int r), some (.int mo), some (.int (2 + w)), none])
      (fun j C' => C'.length = C.length ∧ Dc C' n (k + 2 + 2 * j)) (isRgM mo) (zs 0 r.toNat) 0 C2 ⟨by omega, D2⟩ fun d hd j C' hj ⟨p1, p2⟩ => by
        rw [zs_len] at hj
        obtain ⟨a, s, C4, e4, a1, a2, s1, s2, hl4, D4⟩ := ring_of hz p2 (by omega) ht.1 ht.2.1
        refine ⟨_, rfl, rg a s, C4, ?_, ⟨a, s, rfl, a1, by omega, s1, s2⟩, by omega, D4⟩
        simp only [↓xDef, ↓xSeq, ↓xDo, ↓xNext, ↓xRet, ↓xExp, ↓xIfS, ↓xAsg, ↓gN, ↓gT, ↓gsC, ↓gsN, ↓xV, ↓S.val, ↓S.bind, ↓S.opt, ↓x2, ↓x1, ↓xN, ↓xB, ↓xD, ↓xAnd, ↓xOr, ↓xNot, ↓xIf, ↓xAndV, ↓xOrV, ↓xNotV, ↓xChain, ↓aNil, ↓aCons, ↓xTup, ↓few, ↓xF, ↓xC, ↓xSetI, ↓xPar, ↓xCall, ↓xFrz, ↓xM, live, i2, dSub, dAdd, dMul, dMulA, dMod, dDiv, dLt, dLe, dGt, dGe, dIx, atI, dNeg, dAbs, dInt, dLen, dMin2, dMax2, dGcd, dTuple, ↓iR1, ↓iR2, ↓iV, items, ↓iEn, items1, nocel, nocels, List.map_cons, List.map_nil, List.getElem?_cons_zero, List.getElem?_cons_succ, List.getElem?_nil, List.set_cons_zero, List.set_cons_succ, List.length_cons, List.length_nil, List.replicate, List.cons_append, List.nil_append, Nat.reduceAdd, Nat.reduceSub, Bool.false_eq_true, if_true, if_false, Option.map_some, Option.bind_some, Option.bind_none, Bool.and_true, Bool.and_false, Bool.true_and, Bool.not_true, Bool.not_false, decide_true, decide_false, vw_n, vw_b, vw_i, vw_s, vw_u, vw_l, vw_o, ie_n, ie_b, ie_i, ie_s, ie_u, ie_l, ie_c, x10, x20, x21, x30, x31, x32, fin_b, fin_i, eq_ii, ne_ii, List.take_length, vw_k, ie_k, id_eq, Nat.reduceLeDiff, ↓xSl, ↓xAugI, ↓oE, ↓oNo, ↓xLs, ↓xExt, ↓iZp, b1, b2, and_self, e4]
    rw [zs_len] at g1 g4
    refine ⟨ds, C3, ?_, g1, g2, g3, g4.mono (by omega)⟩
    have q : fin C.length (.tup ds) C3 = some (.ok (.tup ds) C3) := by
      rw [fin_n (show nocel (.tup ds) = true from nocels_all fun d hd => ((g2 d hd).rg h3).nc), ← g3, List.take_length]
    have hq : q1__law_chain [some (.cel n), some (.int r), some (.int mo), some (.int (2 + w)), none] C2 = some (.ok ds C3) :=
      xLc_ok (ds := zs 0 r.toNat) (g := gd0) (C1 := C2) (by simp only [↓xDef, ↓xSeq, ↓xDo, ↓xNext, ↓xRet, ↓xExp, ↓xIfS, ↓xAsg, ↓gN, ↓gT, ↓gsC, ↓gsN, ↓xV, ↓S.val, ↓S.bind, ↓S.opt, ↓x2, ↓x1, ↓xN, ↓xB, ↓xD, ↓xAnd, ↓xOr, ↓xNot, ↓xIf, ↓xAndV, ↓xOrV, ↓xNotV, ↓xChain, ↓aNil, ↓aCons, ↓xTup, ↓few, ↓xF, ↓xC, ↓xSetI, ↓xPar, ↓xCall, ↓xFrz, ↓xM, live, i2, dSub, dAdd, dMul, dMulA, dMod, dDiv, dLt, dLe, dGt, dGe, dIx, atI, dNeg, dAbs, dInt, dLen, dMin2, dMax2, dGcd, dTuple, ↓iR1, ↓iR2, ↓iV, items, ↓iEn, items1, nocel, nocels, List.map_cons, List.map_nil, List.getElem?_cons_zero, List.getElem?_cons_succ, List.getElem?_nil, List.set_cons_zero, List.set_cons_succ, List.length_cons, List.length_nil, List.replicate, List.cons_append, List.nil_append, Nat.reduceAdd, Nat.reduceSub, Bool.false_eq_true, if_true, if_false, Option.map_some, Option.bind_some, Option.bind_none, Bool.and_true, Bool.and_false, Bool.true_and, Bool.not_true, Bool.not_false, decide_true, decide_false, vw_n, vw_b, vw_i, vw_s, vw_u, vw_l, vw_o, ie_n, ie_b, ie_i, ie_s, ie_u, ie_l, ie_c, x10, x20, x21, x30, x31, x32, fin_b, fin_i, eq_ii, ne_ii, List.take_length, vw_k, ie_k, id_eq, Nat.reduceLeDiff, ↓xSl, ↓xAugI, ↓oE, ↓oNo, ↓xLs, ↓xExt, ↓iZp, hr]) (by rw [zs_len]; omega) e3
    unfold m__law_chain b__law_chain
    simp only [↓xDef, ↓xSeq, ↓xDo, ↓xNext, ↓xRet, ↓xExp, ↓xIfS, ↓xAsg, ↓gN, ↓gT, ↓gsC, ↓gsN, ↓xV, ↓S.val, ↓S.bind, ↓S.opt, ↓x2, ↓x1, ↓xN, ↓xB, ↓xD, ↓xAnd, ↓xOr, ↓xNot, ↓xIf, ↓xAndV, ↓xOrV, ↓xNotV, ↓xChain, ↓aNil, ↓aCons, ↓xTup, ↓few, ↓xF, ↓xC, ↓xSetI, ↓xPar, ↓xCall, ↓xFrz, ↓xM, live, i2, dSub, dAdd, dMul, dMulA, dMod, dDiv, dLt, dLe, dGt, dGe, dIx, atI, dNeg, dAbs, dInt, dLen, dMin2, dMax2, dGcd, dTuple, ↓iR1, ↓iR2, ↓iV, items, ↓iEn, items1, nocel, nocels, List.map_cons, List.map_nil, List.getElem?_cons_zero, List.getElem?_cons_succ, List.getElem?_nil, List.set_cons_zero, List.set_cons_succ, List.length_cons, List.length_nil, List.replicate, List.cons_append, List.nil_append, Nat.reduceAdd, Nat.reduceSub, Bool.false_eq_true, if_true, if_false, Option.map_some, Option.bind_some, Option.bind_none, Bool.and_true, Bool.and_false, Bool.true_and, Bool.not_true, Bool.not_false, decide_true, decide_false, vw_n, vw_b, vw_i, vw_s, vw_u, vw_l, vw_o, ie_n, ie_b, ie_i, ie_s, ie_u, ie_l, ie_c, x10, x20, x21, x30, x31, x32, fin_b, fin_i, eq_ii, ne_ii, List.take_length, vw_k, ie_k, id_eq, Nat.reduceLeDiff, ↓xSl, ↓xAugI, ↓oE, ↓oNo, ↓xLs, ↓xExt, ↓iZp, e1, e2, hq, hm0, if_false, Nat.reduceLeDiff, q, beq_self_eq_true]
  · obtain ⟨ds, C3, e3, g1, g2, g3, g4⟩ := lcs_go (t := gN 4) (x := xCall m__law_ring (aCons (xV 0) (aCons (xV 2) aNil))) (e := [some (.cel n), some (.int r), some (.int mo), none, none])
      (fun j C' => C'.length = C.length ∧ Dc C' n (k + 1 + 2 * j)) (isRgM mo) (zs 0 r.toNat) 0 C1 ⟨by omega, D1⟩ fun d hd j C' hj ⟨p1, p2⟩ => by
        rw [zs_len] at hj
        obtain ⟨a, s, C4, e4, a1, a2, s1, s2, hl4, D4⟩ := ring_made (m := mo) p2 (by omega) (by omega) (by omega)
        refine ⟨_, rfl, rg a s, C4, ?_, ⟨a, s, rfl, a1, by omega, s1, s2⟩, by omega, D4⟩
        simp only [↓xDef, ↓xSeq, ↓xDo, ↓xNext, ↓xRet, ↓xExp, ↓xIfS, ↓xAsg, ↓gN, ↓gT, ↓gsC, ↓gsN, ↓xV, ↓S.val, ↓S.bind, ↓S.opt, ↓x2, ↓x1, ↓xN, ↓xB, ↓xD, ↓xAnd, ↓xOr, ↓xNot, ↓xIf, ↓xAndV, ↓xOrV, ↓xNotV, ↓xChain, ↓aNil, ↓aCons, ↓xTup, ↓few, ↓xF, ↓xC, ↓xSetI, ↓xPar, ↓xCall, ↓xFrz, ↓xM, live, i2, dSub, dAdd, dMul, dMulA, dMod, dDiv, dLt, dLe, dGt, dGe, dIx, atI, dNeg, dAbs, dInt, dLen, dMin2, dMax2, dGcd, dTuple, ↓iR1, ↓iR2, ↓iV, items, ↓iEn, items1, nocel, nocels, List.map_cons, List.map_nil, List.getElem?_cons_zero, List.getElem?_cons_succ, List.getElem?_nil, List.set_cons_zero, List.set_cons_succ, List.length_cons, List.length_nil, List.replicate, List.cons_append, List.nil_append, Nat.reduceAdd, Nat.reduceSub, Bool.false_eq_true, if_true, if_false, Option.map_some, Option.bind_some, Option.bind_none, Bool.and_true, Bool.and_false, Bool.true_and, Bool.not_true, Bool.not_false, decide_true, decide_false, vw_n, vw_b, vw_i, vw_s, vw_u, vw_l, vw_o, ie_n, ie_b, ie_i, ie_s, ie_u, ie_l, ie_c, x10, x20, x21, x30, x31, x32, fin_b, fin_i, eq_ii, ne_ii, List.take_length, vw_k, ie_k, id_eq, Nat.reduceLeDiff, ↓xSl, ↓xAugI, ↓oE, ↓oNo, ↓xLs, ↓xExt, ↓iZp, e4]
    rw [zs_len] at g1 g4
    refine ⟨ds, C3, ?_, g1, g2, g3, g4.mono (by omega)⟩
    have q : fin C.length (.tup ds) C3 = some (.ok (.tup ds) C3) := by
      rw [fin_n (show nocel (.tup ds) = true from nocels_all fun d hd => ((g2 d hd).rg h3).nc), ← g3, List.take_length]
    have hq : q2__law_chain [some (.cel n), some (.int r), some (.int mo), none, none] C1 = some (.ok ds C3) :=
      xLc_ok (ds := zs 0 r.toNat) (g := gd0) (C1 := C1) (by simp only [↓xDef, ↓xSeq, ↓xDo, ↓xNext, ↓xRet, ↓xExp, ↓xIfS, ↓xAsg, ↓gN, ↓gT, ↓gsC, ↓gsN, ↓xV, ↓S.val, ↓S.bind, ↓S.opt, ↓x2, ↓x1, ↓xN, ↓xB, ↓xD, ↓xAnd, ↓xOr, ↓xNot, ↓xIf, ↓xAndV, ↓xOrV, ↓xNotV, ↓xChain, ↓aNil, ↓aCons, ↓xTup, ↓few, ↓xF, ↓xC, ↓xSetI, ↓xPar, ↓xCall, ↓xFrz, ↓xM, live, i2, dSub, dAdd, dMul, dMulA, dMod, dDiv, dLt, dLe, dGt, dGe, dIx, atI, dNeg, dAbs, dInt, dLen, dMin2, dMax2, dGcd, dTuple, ↓iR1, ↓iR2, ↓iV, items, ↓iEn, items1, nocel, nocels, List.map_cons, List.map_nil, List.getElem?_cons_zero, List.getElem?_cons_succ, List.getElem?_nil, List.set_cons_zero, List.set_cons_succ, List.length_cons, List.length_nil, List.replicate, List.cons_append, List.nil_append, Nat.reduceAdd, Nat.reduceSub, Bool.false_eq_true, if_true, if_false, Option.map_some, Option.bind_some, Option.bind_none, Bool.and_true, Bool.and_false, Bool.true_and, Bool.not_true, Bool.not_false, decide_true, decide_false, vw_n, vw_b, vw_i, vw_s, vw_u, vw_l, vw_o, ie_n, ie_b, ie_i, ie_s, ie_u, ie_l, ie_c, x10, x20, x21, x30, x31, x32, fin_b, fin_i, eq_ii, ne_ii, List.take_length, vw_k, ie_k, id_eq, Nat.reduceLeDiff, ↓xSl, ↓xAugI, ↓oE, ↓oNo, ↓xLs, ↓xExt, ↓iZp, hr]) (by rw [zs_len]; omega) e3
    have hv2 : (v == 0) = false := by simpa using hv
    unfold m__law_chain b__law_chain
    simp only [↓xDef, ↓xSeq, ↓xDo, ↓xNext, ↓xRet, ↓xExp, ↓xIfS, ↓xAsg, ↓gN, ↓gT, ↓gsC, ↓gsN, ↓xV, ↓S.val, ↓S.bind, ↓S.opt, ↓x2, ↓x1, ↓xN, ↓xB, ↓xD, ↓xAnd, ↓xOr, ↓xNot, ↓xIf, ↓xAndV, ↓xOrV, ↓xNotV, ↓xChain, ↓aNil, ↓aCons, ↓xTup, ↓few, ↓xF, ↓xC, ↓xSetI, ↓xPar, ↓xCall, ↓xFrz, ↓xM, live, i2, dSub, dAdd, dMul, dMulA, dMod, dDiv, dLt, dLe, dGt, dGe, dIx, atI, dNeg, dAbs, dInt, dLen, dMin2, dMax2, dGcd, dTuple, ↓iR1, ↓iR2, ↓iV, items, ↓iEn, items1, nocel, nocels, List.map_cons, List.map_nil, List.getElem?_cons_zero, List.getElem?_cons_succ, List.getElem?_nil, List.set_cons_zero, List.set_cons_succ, List.length_cons, List.length_nil, List.replicate, List.cons_append, List.nil_append, Nat.reduceAdd, Nat.reduceSub, Bool.false_eq_true, if_true, if_false, Option.map_some, Option.bind_some, Option.bind_none, Bool.and_true, Bool.and_false, Bool.true_and, Bool.not_true, Bool.not_false, decide_true, decide_false, vw_n, vw_b, vw_i, vw_s, vw_u, vw_l, vw_o, ie_n, ie_b, ie_i, ie_s, ie_u, ie_l, ie_c, x10, x20, x21, x30, x31, x32, fin_b, fin_i, eq_ii, ne_ii, List.take_length, vw_k, ie_k, id_eq, Nat.reduceLeDiff, ↓xSl, ↓xAugI, ↓oE, ↓oNo, ↓xLs, ↓xExt, ↓iZp, e1, hv2, hq, q]
theorem pw_9 : dPow (.int 10) (.int 9) = some (.int 1000000000) := by
  unfold dPow i2
  simp only []
  rw [if_pos (by decide +kernel)]
  rfl
theorem pw_50 : dPow (.int 10) (.int 50) = some (.int 100000000000000000000000000000000000000000000000000) := by
  unfold dPow i2
  simp only []
  rw [if_pos (by decide +kernel)]
  rfl
theorem pw_60 : dPow (.int 10) (.int 60) = some (.int 1000000000000000000000000000000000000000000000000000000000000) := by
  unfold dPow i2
  simp only []
  rw [if_pos (by decide +kernel)]
  rfl
theorem pw_18 : dPow (.int 10) (.int 18) = some (.int 1000000000000000000) := by
  unfold dPow i2
  simp only []
  rw [if_pos (by decide +kernel)]
  rfl
theorem pw_600 : dPow (.int 1000000000000000000000000000000000000000000000000000000000000) (.int 10) = some (.int (1000000000000000000000000000000000000000000000000000000000000 ^ 10)) := by
  unfold dPow i2
  simp only []
  rw [if_pos (by decide +kernel)]
  rfl
theorem at_end {C : Cells} {x : Option Ob} : (C ++ [x])[C.length]? = some x := by simp
theorem set_end {C : Cells} {x y : Option Ob} : (C ++ [x]).set C.length y = C ++ [y] := by simp
theorem ixN_int {n : Nat} {i : Int} (h0 : 0 ≤ i) (h1 : i < n) : ixN n i = some i.toNat := by
  unfold ixN
  simp [h0, h1]
theorem fin_end {C : Cells} {o : Ob} : fin C.length (.cel C.length) (C ++ [some o]) = some (.ok (.cel C.length) (C ++ [some o])) := by
  simp [fin, nocel]
theorem dice_of (C : Cells) {z I B : Int} (h0 : 0 ≤ I) (h1 : I ≤ 6) (hB : 0 < B) : ∃ l m : Int, 0 ≤ l ∧ 0 ≤ m ∧ m < 2147483648 ∧
    l = (if z < 0 then -z else z) % B / 1000000000000000000 ∧ m = ((if z < 0 then -z else z) % B % 2147482697 * 60497 + 3533 * I + 89 * (if decide (z < 0) = true then 1 else 0) + 109) % 2147482661 := by
  refine ⟨_, _, ?_, ?_, ?_, rfl, rfl⟩
  · exact Int.ediv_nonneg (Int.emod_nonneg _ (by omega)) (by decide)
  · exact Int.emod_nonneg _ (by decide)
  · have := Int.emod_lt_of_pos ((if z < 0 then -z else z) % B % 2147482697 * 60497 + 3533 * I + 89 * (if decide (z < 0) = true then 1 else 0) + 109) (b := 2147482661) (by decide)
    omega
theorem dice {ns : List Int} (C : Cells) {I : Int} (h0 : 0 ≤ I) (h1 : I ≤ 6) : ∃ l m : Int, m__law_dice [.lst (ns.map D.int), .int I] C = some (.ok (.cel C.length) (C ++ [some (.l [.int l, .int m, .int 0])])) ∧ 0 ≤ l ∧ 0 ≤ m ∧ m < 2147483648 := by
  have c1 : (101 : Int).natAbs < 2 ^ 400000 := small_dec (by decide) (by decide)
  have c2 : I.natAbs < 2 ^ 400000 := small_dec h0 (by omega)
  have c3 : (3533 : Int).natAbs < 2 ^ 400000 := small_dec (by decide) (by decide)
  have c4 : (89 : Int).natAbs < 2 ^ 400000 := small_dec (by decide) (by decide)
  have c5 : (60497 : Int).natAbs < 2 ^ 400000 := small_dec (by decide) (by decide)
  have c6 : ∀ x : Int, (x % 2147482697).natAbs < 2 ^ 400000 := fun x => small_dec (Int.emod_nonneg _ (by decide)) (by have := Int.emod_lt_of_pos x (b := 2147482697) (by decide); omega)
  have c7 : ∀ p : Prop, ∀ _ : Decidable p, (if p then (1 : Int) else 0).natAbs < 2 ^ 400000 := fun p _ => by
    split
    · exact small_dec (by decide) (by decide)
    · exact small_dec (by decide) (by decide)
  have c8 : (0 : Int) < 1000000000000000000 ∧ (1000000000000000000 : Int).natAbs < 2 ^ 8000 := ⟨by decide, Nat.lt_of_lt_of_le (m := 2 ^ 80) (by decide) (Nat.pow_le_pow_right (by decide) (by decide))⟩
  have c9 : (0 : Int) < 2147482697 ∧ (0 : Int) < 2147482661 := by decide
  have p6 := pw_600
  obtain ⟨B, hB⟩ : ∃ B : Int, B = 1000000000000000000000000000000000000000000000000000000000000 ^ 10 := ⟨_, rfl⟩
  have hB0 : 0 < B := by rw [hB]; exact Int.pow_pos (by decide)
  rw [← hB] at p6
  obtain ⟨la, hla⟩ : ∃ x : Int, ((ns.map D.int).length : Int) = x := ⟨_, rfl⟩
  by_cases hlt : I < la
  · have hi : I.toNat < ns.length := by
      rw [List.length_map] at hla
      omega
    obtain ⟨z, hz⟩ : ∃ z, (ns.map D.int)[I.toNat]? = some (.int z) := ⟨ns[I.toNat], by simp [hi]⟩
    have hx : ixN (ns.map D.int).length I = some I.toNat := ixN_int h0 (by rw [hla]; exact hlt)
    generalize ns.map D.int = LL at *
    obtain ⟨l, m, l0, m0, m1, hl, hm⟩ := dice_of C (z := z) h0 h1 hB0
    refine ⟨l, m, ?_, l0, m0, m1⟩
    rw [hl, hm]
    have fe := fin_end (C := C) (o := .l [.int ((if z < 0 then -z else z) % B / 1000000000000000000), .int (((if z < 0 then -z else z) % B % 2147482697 * 60497 + 3533 * I + 89 * (if decide (z < 0) = true then 1 else 0) + 109) % 2147482661), .int 0])
    unfold m__law_dice b__law_dice
    simp only [↓xDef, ↓xSeq, ↓xDo, ↓xNext, ↓xRet, ↓xExp, ↓xIfS, ↓xAsg, ↓gN, ↓gT, ↓gsC, ↓gsN, ↓xV, ↓S.val, ↓S.bind, ↓S.opt, ↓x2, ↓x1, ↓xN, ↓xB, ↓xD, ↓xAnd, ↓xOr, ↓xNot, ↓xIf, ↓xAndV, ↓xOrV, ↓xNotV, ↓xChain, ↓aNil, ↓aCons, ↓xTup, ↓few, ↓xF, ↓xC, ↓xSetI, ↓xPar, ↓xCall, ↓xFrz, ↓xM, live, i2, dSub, dAdd, dMul, dMulA, dMod, dDiv, dLt, dLe, dGt, dGe, dIx, atI, dNeg, dAbs, dInt, dLen, dMin2, dMax2, dGcd, dTuple, ↓iR1, ↓iR2, ↓iV, items, ↓iEn, items1, nocel, nocels, List.map_cons, List.map_nil, List.getElem?_cons_zero, List.getElem?_cons_succ, List.getElem?_nil, List.set_cons_zero, List.set_cons_succ, List.length_cons, List.length_nil, List.replicate, List.cons_append, List.nil_append, Nat.reduceAdd, Nat.reduceSub, Bool.false_eq_true, if_true, if_false, Option.map_some, Option.bind_some, Option.bind_none, Bool.and_true, Bool.and_false, Bool.true_and, Bool.not_true, Bool.not_false, decide_true, decide_false, vw_n, vw_b, vw_i, vw_s, vw_u, vw_l, vw_o, ie_n, ie_b, ie_i, ie_s, ie_u, ie_l, ie_c, x10, x20, x21, x30, x31, x32, fin_b, fin_i, eq_ii, ne_ii, List.take_length, vw_k, ie_k, id_eq, Nat.reduceLeDiff, ↓xSl, ↓xAugI, ↓oE, ↓oNo, ↓xLs, ↓xExt, ↓iZp, c1, c2, c3, c4, c5, c6, c7, c8, c9.1, c9.2, pw_60, pw_18, p6, hB0, hla, hlt, hx, hz, and_self, fe]
  · generalize ns.map D.int = LL at *
    obtain ⟨l, m, l0, m0, m1, hl, hm⟩ := dice_of C (z := 101 * I + 47) h0 h1 hB0
    refine ⟨l, m, ?_, l0, m0, m1⟩
    rw [hl, hm]
    have fe := fin_end (C := C) (o := .l [.int ((if 101 * I + 47 < 0 then -(101 * I + 47) else 101 * I + 47) % B / 1000000000000000000), .int (((if 101 * I + 47 < 0 then -(101 * I + 47) else 101 * I + 47) % B % 2147482697 * 60497 + 3533 * I + 89 * (if decide (101 * I + 47 < 0) = true then 1 else 0) + 109) % 2147482661), .int 0])
    unfold m__law_dice b__law_dice
    simp only [↓xDef, ↓xSeq, ↓xDo, ↓xNext, ↓xRet, ↓xExp, ↓xIfS, ↓xAsg, ↓gN, ↓gT, ↓gsC, ↓gsN, ↓xV, ↓S.val, ↓S.bind, ↓S.opt, ↓x2, ↓x1, ↓xN, ↓xB, ↓xD, ↓xAnd, ↓xOr, ↓xNot, ↓xIf, ↓xAndV, ↓xOrV, ↓xNotV, ↓xChain, ↓aNil, ↓aCons, ↓xTup, ↓few, ↓xF, ↓xC, ↓xSetI, ↓xPar, ↓xCall, ↓xFrz, ↓xM, live, i2, dSub, dAdd, dMul, dMulA, dMod, dDiv, dLt, dLe, dGt, dGe, dIx, atI, dNeg, dAbs, dInt, dLen, dMin2, dMax2, dGcd, dTuple, ↓iR1, ↓iR2, ↓iV, items, ↓iEn, items1, nocel, nocels, List.map_cons, List.map_nil, List.getElem?_cons_zero, List.getElem?_cons_succ, List.getElem?_nil, List.set_cons_zero, List.set_cons_succ, List.length_cons, List.length_nil, List.replicate, List.cons_append, List.nil_append, Nat.reduceAdd, Nat.reduceSub, Bool.false_eq_true, if_true, if_false, Option.map_some, Option.bind_some, Option.bind_none, Bool.and_true, Bool.and_false, Bool.true_and, Bool.not_true, Bool.not_false, decide_true, decide_false, vw_n, vw_b, vw_i, vw_s, vw_u, vw_l, vw_o, ie_n, ie_b, ie_i, ie_s, ie_u, ie_l, ie_c, x10, x20, x21, x30, x31, x32, fin_b, fin_i, eq_ii, ne_ii, List.take_length, vw_k, ie_k, id_eq, Nat.reduceLeDiff, ↓xSl, ↓xAugI, ↓oE, ↓oNo, ↓xLs, ↓xExt, ↓iZp, c1, c2, c3, c4, c5, c6, c7, c8, c9.1, c9.2, pw_60, pw_18, p6, hB0, hla, hlt, and_self, fe]

end Sk15
end
section
set_option maxRecDepth 100000
set_option maxHeartbeats 0
set_option exponentiation.threshold 1000000
namespace Sk15
open PySem L2 Sm
/-! ### chains as plain lists -/
abbrev Ch := List (Int × Int)
def rd (c : Int × Int) : D := .tup [.int c.1, .int c.2]
def chD (cs : Ch) : D := .tup (cs.map rd)
def Cv (cs : Ch) : Prop := ∀ c ∈ cs, 2 ≤ c.1 ∧ c.1 ≤ 60 ∧ 1 ≤ c.2 ∧ c.2 < c.1
theorem Cv.tl {c : Int × Int} {cs : Ch} (h : Cv (c :: cs)) : Cv cs := fun z hz => h z (List.mem_cons_of_mem _ hz)
theorem nc_rd (cs : Ch) : nocels (cs.map rd) = true := nocels_all fun d hd => by
  obtain ⟨c, _, rfl⟩ := List.mem_map.mp hd
  rfl
theorem ie_ch (cs : Ch) : isErr (chD cs) = false := rfl
theorem ch_ds {cs : Ch} (h : Cv cs) : ∀ d ∈ cs.map rd, isRg d := fun d hd => by
  obtain ⟨c, hc, rfl⟩ := List.mem_map.mp hd
  obtain ⟨h1, h2, h3, h4⟩ := h c hc
  exact ⟨c.1, c.2, rfl, h1, h2, h3, h4⟩
theorem ch_of {mo : Int} {ds : List D} (h : ∀ d ∈ ds, isRgM mo d) (hm : mo ≤ 60) : ∃ cs : Ch, ds = cs.map rd ∧ Cv cs ∧ ∀ c ∈ cs, c.1 ≤ mo := by
  induction ds with
  | nil => exact ⟨[], rfl, fun c hc => (by cases hc), fun c hc => (by cases hc)⟩
  | cons d r ih =>
    obtain ⟨cs, rfl, hv, hw⟩ := ih fun d' hd' => h d' (List.mem_cons_of_mem _ hd')
    obtain ⟨a, s, rfl, h1, h2, h3, h4⟩ := h d List.mem_cons_self
    refine ⟨(a, s) :: cs, rfl, fun c hc => ?_, fun c hc => ?_⟩
    · rcases List.mem_cons.mp hc with rfl | hc
      · exact ⟨h1, by show a ≤ 60; omega, h3, h4⟩
      · exact hv c hc
    · rcases List.mem_cons.mp hc with rfl | hc
      · exact h2
      · exact hw c hc
/-- a tuple of a place of each ring -/
def Tv : Ch → List Int → Prop
  | [], [] => True
  | c :: cs, x :: xs => (0 ≤ x ∧ x < c.1) ∧ Tv cs xs
  | _, _ => False
theorem Tv.len : ∀ {cs : Ch} {xs : List Int}, Tv cs xs → xs.length = cs.length
  | [], [], _ => rfl
  | c :: cs, x :: xs, h => by rw [List.length_cons, List.length_cons, Tv.len h.2]
  | [], _ :: _, h => h.elim
  | _ :: _, [], h => h.elim
theorem Tv.zip : ∀ {cs : Ch} {xs : List Int}, Tv cs xs → ∀ p ∈ cs.zip xs, p.1 ∈ cs ∧ 0 ≤ p.2 ∧ p.2 < p.1.1
  | [], [], _, p, hp => by cases hp
  | c :: cs, x :: xs, h, p, hp => by
    rcases List.mem_cons.mp hp with rfl | hp
    · exact ⟨List.mem_cons_self, h.1⟩
    · obtain ⟨h1, h2⟩ := Tv.zip h.2 p hp
      exact ⟨List.mem_cons_of_mem _ h1, h2⟩
  | [], _ :: _, h, _, _ => h.elim
  | _ :: _, [], h, _, _ => h.elim
theorem ring_in {n s : Int} (h1 : 2 ≤ n) (h2 : n ≤ 60) (h3 : 1 ≤ s) (h4 : s < n) (C : Cells) : m_is_ring_in [.tup [.int n, .int s]] C = some (.ok (.bl true) C) := by
  rw [is_ring_in C (show typedT (.tup [.int n, .int s]) = true from rfl), ring_ok h1 h2 h3 h4]
theorem chain_rq {cs : Ch} (h : Cv cs) (h1 : 1 ≤ cs.length) (h2 : cs.length ≤ 12) (C : Cells) : m_require_chain [chD cs] C = some (.ok .non C) := by
  have hds := ch_ds h
  have t : typedC (chD cs) = true := List.all_eq_true.mpr fun d hd => by
    obtain ⟨a, s, rfl, _⟩ := hds d hd
    rfl
  have c : chainB (chD cs) = true := by
    have : (cs.map rd).all ringB = true := List.all_eq_true.mpr fun d hd => by
      obtain ⟨a, s, rfl, a1, a2, s1, s2⟩ := hds d hd
      exact ring_ok a1 a2 s1 s2
    show (decide (1 ≤ (cs.map rd).length) && decide ((cs.map rd).length ≤ 12) && (cs.map rd).all ringB) = true
    rw [this, List.length_map]
    simp [h1, h2]
  exact req_chain C t c
theorem chain_of {C : Cells} {n k : Nat} {r mo : Int} (D0 : Dc C n k) (hk : k ≤ 800000) (h0 : 1 ≤ r) (h1 : r ≤ 40) (h2 : 2 ≤ mo) (h3 : mo ≤ 60) :
    ∃ cs C', m__law_chain [.cel n, .int r, .int mo] C = some (.ok (chD cs) C') ∧ cs.length = r.toNat ∧ Cv cs ∧ (∀ c ∈ cs, c.1 ≤ mo) ∧ C'.length = C.length ∧ Dc C' n (k + 100) := by
  obtain ⟨ds, C', e, hl, g, g2, g3⟩ := chain_made D0 hk h0 h1 h2 h3
  obtain ⟨cs, rfl, hv, hm⟩ := ch_of g h3
  exact ⟨cs, C', e, by rw [List.length_map] at hl; exact hl, hv, hm, g2, g3⟩
theorem ring_drawn {C : Cells} {n k : Nat} {m : Int} (D0 : Dc C n k) (hk : k ≤ 900000) (h0 : 2 ≤ m) (h1 : m ≤ 1000) :
    ∃ a s C', m__law_ring [.cel n, .int m] C = some (.ok (.tup [.int a, .int s]) C') ∧ 2 ≤ a ∧ a ≤ m ∧ 1 ≤ s ∧ s < a ∧ C'.length = C.length ∧ Dc C' n (k + 2) := ring_made D0 hk h0 h1
theorem is_tuple_t {cs : Ch} {xs : List Int} (hl : cs.length ≤ 1000) (h : Tv cs xs) (C : Cells) : m_is_tuple_in [chD cs, iT xs] C = some (.ok (.bl true) C) := by
  have l1 : q1_is_tuple_in [some (chD cs), some (iT xs), none, none] C = some (.ok ((cs.zip xs).map fun p => .bl (decide (0 ≤ p.2) && decide (p.2 ≤ p.1.1 - 1))) C) := by
    unfold q1_is_tuple_in
    refine lc_T0 (g := gd0) (fun p : (Int × Int) × Int => .tup [rd p.1, .int p.2]) _ _ ?_ rfl (by rw [List.length_zip]; omega) fun p hp => ?_
    · unfold chD
      simp only [↓xDef, ↓xSeq, ↓xDo, ↓xNext, ↓xRet, ↓xExp, ↓xIfS, ↓xAsg, ↓gN, ↓gT, ↓gsC, ↓gsN, ↓xV, ↓S.val, ↓S.bind, ↓S.opt, ↓x2, ↓x1, ↓xN, ↓xB, ↓xD, ↓xAnd, ↓xOr, ↓xNot, ↓xIf, ↓xAndV, ↓xOrV, ↓xNotV, ↓xChain, ↓aNil, ↓aCons, ↓xTup, ↓few, ↓xF, ↓xC, ↓xSetI, ↓xPar, ↓xCall, ↓xFrz, ↓xM, live, i2, dSub, dAdd, dMul, dMulA, dMod, dDiv, dLt, dLe, dGt, dGe, dIx, atI, dNeg, dAbs, dInt, dLen, dMin2, dMax2, dGcd, dTuple, ↓iR1, ↓iR2, ↓iV, items, ↓iEn, items1, nocel, nocels, List.map_cons, List.map_nil, List.getElem?_cons_zero, List.getElem?_cons_succ, List.getElem?_nil, List.set_cons_zero, List.set_cons_succ, List.length_cons, List.length_nil, List.replicate, List.cons_append, List.nil_append, Nat.reduceAdd, Nat.reduceSub, Bool.false_eq_true, if_true, if_false, Option.map_some, Option.bind_some, Option.bind_none, Bool.and_true, Bool.and_false, Bool.true_and, Bool.not_true, Bool.not_false, decide_true, decide_false, vw_n, vw_b, vw_i, vw_s, vw_u, vw_l, vw_o, ie_n, ie_b, ie_i, ie_s, ie_u, ie_l, ie_c, x10, x20, x21, x30, x31, x32, fin_b, fin_i, eq_ii, ne_ii, List.take_length, vw_k, ie_k, id_eq, Nat.reduceLeDiff, ↓xSl, ↓xAugI, ↓oE, ↓oNo, ↓xLs, ↓xExt, ↓iZp, zips, prs_map2]
    · refine ⟨[some (chD cs), some (iT xs), some (rd p.1), some (.int p.2)], rfl, ?_⟩
      have w := is_within (d := .int p.2) (lo := 0) (hi := p.1.1 - 1) C rfl
      unfold rd
      simp only [↓xDef, ↓xSeq, ↓xDo, ↓xNext, ↓xRet, ↓xExp, ↓xIfS, ↓xAsg, ↓gN, ↓gT, ↓gsC, ↓gsN, ↓xV, ↓S.val, ↓S.bind, ↓S.opt, ↓x2, ↓x1, ↓xN, ↓xB, ↓xD, ↓xAnd, ↓xOr, ↓xNot, ↓xIf, ↓xAndV, ↓xOrV, ↓xNotV, ↓xChain, ↓aNil, ↓aCons, ↓xTup, ↓few, ↓xF, ↓xC, ↓xSetI, ↓xPar, ↓xCall, ↓xFrz, ↓xM, live, i2, dSub, dAdd, dMul, dMulA, dMod, dDiv, dLt, dLe, dGt, dGe, dIx, at10, at20, at21, at30, at31, at32, cst0, cst1, cst2, cst3, dNeg, dAbs, dInt, dLen, dMin2, dMax2, dGcd, dTuple, ↓iR1, ↓iR2, ↓iV, items, ↓iEn, items1, nocel, nocels, List.map_cons, List.map_nil, List.getElem?_cons_zero, List.getElem?_cons_succ, List.getElem?_nil, List.set_cons_zero, List.set_cons_succ, List.length_cons, List.length_nil, List.replicate, List.cons_append, List.nil_append, Nat.reduceAdd, Nat.reduceSub, Bool.false_eq_true, if_true, if_false, Option.map_some, Option.bind_some, Option.bind_none, Bool.and_true, Bool.and_false, Bool.true_and, Bool.not_true, Bool.not_false, decide_true, decide_false, vw_n, vw_b, vw_i, vw_s, vw_u, vw_l, vw_o, ie_n, ie_b, ie_i, ie_s, ie_u, ie_l, ie_c, x10, x20, x21, x30, x31, x32, fin_b, fin_i, eq_ii, ne_ii, List.take_length, vw_k, ie_k, id_eq, Nat.reduceLeDiff, ↓xSl, ↓xAugI, ↓oE, ↓oNo, ↓xLs, ↓xExt, ↓iZp, w, withinB]
  have ha : ((cs.zip xs).all fun p => decide (0 ≤ p.2) && decide (p.2 ≤ p.1.1 - 1)) = true := by
    rw [List.all_eq_true]
    intro p hp
    obtain ⟨_, h1, h2⟩ := h.zip p hp
    simp [h1]
    omega
  obtain ⟨lx, hlx⟩ : ∃ x : Int, ((xs.map D.int).length : Int) = x := ⟨_, rfl⟩
  obtain ⟨lc', hlc⟩ : ∃ x : Int, ((cs.map rd).length : Int) = x := ⟨_, rfl⟩
  have hb : (lx == lc') = true := by
    have := h.len
    rw [List.length_map] at hlx hlc
    simp
    omega
  have hch : chD cs = .tup (cs.map rd) := rfl
  have tt : ∀ x : List D, dIsi [.tup x, .opq (.ty "tuple")] = some (.bl true) := fun x => isi_tup (d := .tup x) rfl
  have hA : dAll [.lst ((cs.zip xs).map fun p => .bl (decide (0 ≤ p.2) && decide (p.2 ≤ p.1.1 - 1)))] = some (.bl true) := by rw [all_T, ha]
  rw [hch] at l1 ⊢
  unfold m_is_tuple_in b_is_tuple_in
  simp only [↓xDef, ↓xSeq, ↓xDo, ↓xNext, ↓xRet, ↓xExp, ↓xIfS, ↓xAsg, ↓gN, ↓gT, ↓gsC, ↓gsN, ↓xV, ↓S.val, ↓S.bind, ↓S.opt, ↓x2, ↓x1, ↓xN, ↓xB, ↓xD, ↓xAnd, ↓xOr, ↓xNot, ↓xIf, ↓xAndV, ↓xOrV, ↓xNotV, ↓xChain, ↓aNil, ↓aCons, ↓xTup, ↓few, ↓xF, ↓xC, ↓xSetI, ↓xPar, ↓xCall, ↓xFrz, ↓xM, live, i2, dSub, dAdd, dMul, dMulA, dMod, dDiv, dLt, dLe, dGt, dGe, dIx, at10, at20, at21, at30, at31, at32, cst0, cst1, cst2, cst3, dNeg, dAbs, dInt, dLen, dMin2, dMax2, dGcd, dTuple, ↓iR1, ↓iR2, ↓iV, items, ↓iEn, items1, nocel, nocels, List.map_cons, List.map_nil, List.getElem?_cons_zero, List.getElem?_cons_succ, List.getElem?_nil, List.set_cons_zero, List.set_cons_succ, List.length_cons, List.length_nil, List.replicate, List.cons_append, List.nil_append, Nat.reduceAdd, Nat.reduceSub, Bool.false_eq_true, if_true, if_false, Option.map_some, Option.bind_some, Option.bind_none, Bool.and_true, Bool.and_false, Bool.true_and, Bool.not_true, Bool.not_false, decide_true, decide_false, vw_n, vw_b, vw_i, vw_s, vw_u, vw_l, vw_o, ie_n, ie_b, ie_i, ie_s, ie_u, ie_l, ie_c, x10, x20, x21, x30, x31, x32, fin_b, fin_i, eq_ii, ne_ii, List.take_length, vw_k, ie_k, id_eq, Nat.reduceLeDiff, ↓xSl, ↓xAugI, ↓oE, ↓oNo, ↓xLs, ↓xExt, ↓iZp, tt, hlx, hlc, hb, l1, hA]
theorem req_tuple {cs : Ch} {xs : List Int} (hl : cs.length ≤ 1000) (h : Tv cs xs) (C : Cells) : m_require_tuple [chD cs, iT xs] C = some (.ok .non C) := by
  have e := is_tuple_t hl h C
  have ec := ie_ch cs
  unfold m_require_tuple b_require_tuple
  simp only [↓xDef, ↓xSeq, ↓xDo, ↓xNext, ↓xRet, ↓xExp, ↓xIfS, ↓xAsg, ↓gN, ↓gT, ↓gsC, ↓gsN, ↓xV, ↓S.val, ↓S.bind, ↓S.opt, ↓x2, ↓x1, ↓xN, ↓xB, ↓xD, ↓xAnd, ↓xOr, ↓xNot, ↓xIf, ↓xAndV, ↓xOrV, ↓xNotV, ↓xChain, ↓aNil, ↓aCons, ↓xTup, ↓few, ↓xF, ↓xC, ↓xSetI, ↓xPar, ↓xCall, ↓xFrz, ↓xM, live, i2, dSub, dAdd, dMul, dMulA, dMod, dDiv, dLt, dLe, dGt, dGe, dIx, at10, at20, at21, at30, at31, at32, cst0, cst1, cst2, cst3, dNeg, dAbs, dInt, dLen, dMin2, dMax2, dGcd, dTuple, ↓iR1, ↓iR2, ↓iV, items, ↓iEn, items1, nocel, nocels, List.map_cons, List.map_nil, List.getElem?_cons_zero, List.getElem?_cons_succ, List.getElem?_nil, List.set_cons_zero, List.set_cons_succ, List.length_cons, List.length_nil, List.replicate, List.cons_append, List.nil_append, Nat.reduceAdd, Nat.reduceSub, Bool.false_eq_true, if_true, if_false, Option.map_some, Option.bind_some, Option.bind_none, Bool.and_true, Bool.and_false, Bool.true_and, Bool.not_true, Bool.not_false, decide_true, decide_false, vw_n, vw_b, vw_i, vw_s, vw_u, vw_l, vw_o, ie_n, ie_b, ie_i, ie_s, ie_u, ie_l, ie_c, x10, x20, x21, x30, x31, x32, fin_b, fin_i, eq_ii, ne_ii, List.take_length, vw_k, ie_k, id_eq, Nat.reduceLeDiff, ↓xSl, ↓xAugI, ↓oE, ↓oNo, ↓xLs, ↓xExt, ↓iZp, ec, e]
theorem is_integer_i {i : Int} (h : i.natAbs < 10 ^ 60) (C : Cells) : m_is_integer [.int i] C = some (.ok (.bl true) C) := by
  have e := is_whole (d := .int i) C rfl
  have h1 : (if i < 0 then -i else i) < 1000000000000000000000000000000000000000000000000000000000000 := by
    have : (i.natAbs : Int) < ((10 ^ 60 : Nat) : Int) := Int.ofNat_lt.mpr h
    have h2 : ((10 ^ 60 : Nat) : Int) = 1000000000000000000000000000000000000000000000000000000000000 := by decide +kernel
    rw [h2] at this
    split <;> omega
  have h2 : wholeB (.int i) = true := rfl
  have h3 : decide ((if i < 0 then -i else i) < 1000000000000000000000000000000000000000000000000000000000000) = true := by rw [decide_eq_true_eq]; exact h1
  unfold m_is_integer b_is_integer
  simp only [↓xDef, ↓xSeq, ↓xDo, ↓xNext, ↓xRet, ↓xExp, ↓xIfS, ↓xAsg, ↓gN, ↓gT, ↓gsC, ↓gsN, ↓xV, ↓S.val, ↓S.bind, ↓S.opt, ↓x2, ↓x1, ↓xN, ↓xB, ↓xD, ↓xAnd, ↓xOr, ↓xNot, ↓xIf, ↓xAndV, ↓xOrV, ↓xNotV, ↓xChain, ↓aNil, ↓aCons, ↓xTup, ↓few, ↓xF, ↓xC, ↓xSetI, ↓xPar, ↓xCall, ↓xFrz, ↓xM, live, i2, dSub, dAdd, dMul, dMulA, dMod, dDiv, dLt, dLe, dGt, dGe, dIx, at10, at20, at21, at30, at31, at32, cst0, cst1, cst2, cst3, dNeg, dAbs, dInt, dLen, dMin2, dMax2, dGcd, dTuple, ↓iR1, ↓iR2, ↓iV, items, ↓iEn, items1, nocel, nocels, List.map_cons, List.map_nil, List.getElem?_cons_zero, List.getElem?_cons_succ, List.getElem?_nil, List.set_cons_zero, List.set_cons_succ, List.length_cons, List.length_nil, List.replicate, List.cons_append, List.nil_append, Nat.reduceAdd, Nat.reduceSub, Bool.false_eq_true, if_true, if_false, Option.map_some, Option.bind_some, Option.bind_none, Bool.and_true, Bool.and_false, Bool.true_and, Bool.not_true, Bool.not_false, decide_true, decide_false, vw_n, vw_b, vw_i, vw_s, vw_u, vw_l, vw_o, ie_n, ie_b, ie_i, ie_s, ie_u, ie_l, ie_c, x10, x20, x21, x30, x31, x32, fin_b, fin_i, eq_ii, ne_ii, List.take_length, vw_k, ie_k, id_eq, Nat.reduceLeDiff, ↓xSl, ↓xAugI, ↓oE, ↓oNo, ↓xLs, ↓xExt, ↓iZp, e, h2, h3]

end Sk15
end
section
set_option maxRecDepth 100000
set_option maxHeartbeats 0
set_option exponentiation.threshold 1000000
namespace Sk15
open PySem L2 Sm
def fallB : List Int → Bool
  | a :: b :: r => decide (b ≤ a) && fallB (b :: r)
  | _ => true
def iOf : D → Int
  | .int i => i
  | _ => 0
def heapB : D → Bool
  | .tup ds => decide (ds.length ≤ 60) && (ds.all (fun d => withinB d 1 60) && fallB (ds.map iOf))
  | _ => false
theorem within_ints : ∀ {ds : List D} {lo hi : Int}, ds.all (fun d => withinB d lo hi) = true → ds = (ds.map iOf).map D.int
  | [], _, _, _ => rfl
  | d :: ds, lo, hi, h => by
    rw [List.all_cons, Bool.and_eq_true] at h
    have ih := within_ints h.2
    cases d with
    | int i =>
      rw [List.map_cons, List.map_cons, ← ih]
      rfl
    | _ => simp [withinB] at h
theorem fall_zip : ∀ ns : List Int, ((ns.zip (ns.drop 1)).all fun p => decide (p.2 ≤ p.1)) = fallB ns
  | [] => rfl
  | [_] => rfl
  | a :: b :: r => by
    have ih := fall_zip (b :: r)
    show (decide (b ≤ a) && (((b :: r).zip ((b :: r).drop 1)).all fun p => decide (p.2 ≤ p.1))) = _
    rw [ih]
    rfl
theorem int_within {i lo hi : Int} : withinB (.int i) lo hi = true ↔ lo ≤ i ∧ i ≤ hi := by simp [withinB]
/-- a heap, by its heights -/
structure Hp0 (hs : List Int) : Prop where
  len : hs.length ≤ 60
  rng : ∀ h ∈ hs, 1 ≤ h ∧ h ≤ 60
  fall : hs.Pairwise (· ≥ ·)
theorem fallB_pw : ∀ {hs : List Int}, fallB hs = true ↔ hs.Pairwise (· ≥ ·)
  | [] => by simp [fallB]
  | [_] => by simp [fallB]
  | a :: b :: r => by
    have ih := fallB_pw (hs := b :: r)
    show (decide (b ≤ a) && fallB (b :: r)) = true ↔ _
    rw [Bool.and_eq_true, ih, decide_eq_true_eq]
    constructor
    · rintro ⟨h1, h2⟩
      refine List.pairwise_cons.mpr ⟨fun z hz => ?_, h2⟩
      rcases List.mem_cons.mp hz with rfl | hz
      · exact h1
      · have := (List.pairwise_cons.mp h2).1 z hz
        show z ≤ a
        omega
    · intro h
      exact ⟨(List.pairwise_cons.mp h).1 b List.mem_cons_self, (List.pairwise_cons.mp h).2⟩
theorem Hp0.ok {hs : List Int} (h : Hp0 hs) : heapB (iT hs) = true := by
  have e : (hs.map D.int).map iOf = hs := by
    rw [List.map_map]
    exact List.map_id' hs
  have h1 : (hs.map D.int).all (fun d => withinB d 1 60) = true := by
    rw [List.all_map, List.all_eq_true]
    intro z hz
    exact int_within.mpr (h.rng z hz)
  show (decide ((hs.map D.int).length ≤ 60) && ((hs.map D.int).all (fun d => withinB d 1 60) && fallB ((hs.map D.int).map iOf))) = true
  rw [h1, e, fallB_pw.mpr h.fall, List.length_map]
  simp [h.len]
theorem heapB_of {d : D} (h : heapB d = true) : ∃ hs, d = iT hs ∧ Hp0 hs := by
  cases d with
  | tup ds =>
    have h : (decide (ds.length ≤ 60) && (ds.all (fun d => withinB d 1 60) && fallB (ds.map iOf))) = true := h
    rw [Bool.and_eq_true, Bool.and_eq_true, decide_eq_true_eq] at h
    obtain ⟨h1, h2, h3⟩ := h
    have e := within_ints h2
    refine ⟨ds.map iOf, by rw [iT, ← e], by rw [List.length_map]; exact h1, fun z hz => ?_, fallB_pw.mp h3⟩
    rw [e, List.all_map, List.all_eq_true] at h2
    exact int_within.mp (h2 z hz)
  | _ => simp [heapB] at h
theorem typedT_i (hs : List Int) : typedT (iT hs) = true := by
  show (hs.map D.int).all typed = true
  rw [List.all_map, List.all_eq_true]
  intro _ _
  rfl
theorem is_heap_in {d : D} (C : Cells) (h : typedT d = true) : m_is_heap_in [d] C = some (.ok (.bl (heapB d)) C) := by
  have h1 := typedT_t h
  unfold m_is_heap_in b_is_heap_in
  cases d with
  | tup ds =>
    by_cases hl : ds.length ≤ 60
    · have q1 : decide ((ds.length : Int) > 60) = false := by simp; omega
      have l1 : q1_is_heap_in [some (.tup ds), none, none, none] C = some (.ok (ds.map fun d => .bl (withinB d 1 60)) C) := by
        unfold q1_is_heap_in
        refine lc_T0 (g := gd0) (fun d => d) ds _ (by simp only [↓xDef, ↓xSeq, ↓xDo, ↓xNext, ↓xRet, ↓xExp, ↓xIfS, ↓xAsg, ↓gN, ↓gT, ↓gsC, ↓gsN, ↓xV, ↓S.val, ↓S.bind, ↓S.opt, ↓x2, ↓x1, ↓xN, ↓xB, ↓xD, ↓xAnd, ↓xOr, ↓xNot, ↓xIf, ↓xAndV, ↓xOrV, ↓xNotV, ↓xChain, ↓aNil, ↓aCons, ↓xTup, ↓few, ↓xF, ↓xC, ↓xSetI, ↓xPar, ↓xCall, ↓xFrz, ↓xM, live, i2, dSub, dAdd, dMul, dMulA, dMod, dDiv, dLt, dLe, dGt, dGe, dIx, atI, dNeg, dAbs, dInt, dLen, dMin2, dMax2, dGcd, dTuple, ↓iR1, ↓iR2, ↓iV, items, ↓iEn, items1, nocel, nocels, List.map_cons, List.map_nil, List.getElem?_cons_zero, List.getElem?_cons_succ, List.getElem?_nil, List.set_cons_zero, List.set_cons_succ, List.length_cons, List.length_nil, List.replicate, List.cons_append, List.nil_append, Nat.reduceAdd, Nat.reduceSub, Bool.false_eq_true, if_true, if_false, Option.map_some, Option.bind_some, Option.bind_none, Bool.and_true, Bool.and_false, Bool.true_and, Bool.not_true, Bool.not_false, decide_true, decide_false, vw_n, vw_b, vw_i, vw_s, vw_u, vw_l, vw_o, ie_n, ie_b, ie_i, ie_s, ie_u, ie_l, ie_c, x10, x20, x21, x30, x31, x32, fin_b, fin_i, eq_ii, ne_ii, List.take_length, vw_k, ie_k, id_eq, Nat.reduceLeDiff, ↓xSl, ↓xAugI, ↓oE, ↓oNo, ↓xLs, ↓xExt, ↓iZp, List.map_id']) rfl (by omega) fun d hd => ?_
        have ht : typed d = true := List.all_eq_true.mp h d hd
        exact ⟨[some (.tup ds), some d, none, none], rfl, by simp only [↓xDef, ↓xSeq, ↓xDo, ↓xNext, ↓xRet, ↓xExp, ↓xIfS, ↓xAsg, ↓gN, ↓gT, ↓gsC, ↓gsN, ↓xV, ↓S.val, ↓S.bind, ↓S.opt, ↓x2, ↓x1, ↓xN, ↓xB, ↓xD, ↓xAnd, ↓xOr, ↓xNot, ↓xIf, ↓xAndV, ↓xOrV, ↓xNotV, ↓xChain, ↓aNil, ↓aCons, ↓xTup, ↓few, ↓xF, ↓xC, ↓xSetI, ↓xPar, ↓xCall, ↓xFrz, ↓xM, live, i2, dSub, dAdd, dMul, dMulA, dMod, dDiv, dLt, dLe, dGt, dGe, dIx, atI, dNeg, dAbs, dInt, dLen, dMin2, dMax2, dGcd, dTuple, ↓iR1, ↓iR2, ↓iV, items, ↓iEn, items1, nocel, nocels, List.map_cons, List.map_nil, List.getElem?_cons_zero, List.getElem?_cons_succ, List.getElem?_nil, List.set_cons_zero, List.set_cons_succ, List.length_cons, List.length_nil, List.replicate, List.cons_append, List.nil_append, Nat.reduceAdd, Nat.reduceSub, Bool.false_eq_true, if_true, if_false, Option.map_some, Option.bind_some, Option.bind_none, Bool.and_true, Bool.and_false, Bool.true_and, Bool.not_true, Bool.not_false, decide_true, decide_false, vw_n, vw_b, vw_i, vw_s, vw_u, vw_l, vw_o, ie_n, ie_b, ie_i, ie_s, ie_u, ie_l, ie_c, x10, x20, x21, x30, x31, x32, fin_b, fin_i, eq_ii, ne_ii, List.take_length, vw_k, ie_k, id_eq, Nat.reduceLeDiff, ↓xSl, ↓xAugI, ↓oE, ↓oNo, ↓xLs, ↓xExt, ↓iZp, ie_t ht, is_within C ht]⟩
      cases hw : ds.all (fun d => withinB d 1 60) with
      | false => simp only [↓xDef, ↓xSeq, ↓xDo, ↓xNext, ↓xRet, ↓xExp, ↓xIfS, ↓xAsg, ↓gN, ↓gT, ↓gsC, ↓gsN, ↓xV, ↓S.val, ↓S.bind, ↓S.opt, ↓x2, ↓x1, ↓xN, ↓xB, ↓xD, ↓xAnd, ↓xOr, ↓xNot, ↓xIf, ↓xAndV, ↓xOrV, ↓xNotV, ↓xChain, ↓aNil, ↓aCons, ↓xTup, ↓few, ↓xF, ↓xC, ↓xSetI, ↓xPar, ↓xCall, ↓xFrz, ↓xM, live, i2, dSub, dAdd, dMul, dMulA, dMod, dDiv, dLt, dLe, dGt, dGe, dIx, atI, dNeg, dAbs, dInt, dLen, dMin2, dMax2, dGcd, dTuple, ↓iR1, ↓iR2, ↓iV, items, ↓iEn, items1, nocel, nocels, List.map_cons, List.map_nil, List.getElem?_cons_zero, List.getElem?_cons_succ, List.getElem?_nil, List.set_cons_zero, List.set_cons_succ, List.length_cons, List.length_nil, List.replicate, List.cons_append, List.nil_append, Nat.reduceAdd, Nat.reduceSub, Bool.false_eq_true, if_true, if_false, Option.map_some, Option.bind_some, Option.bind_none, Bool.and_true, Bool.and_false, Bool.true_and, Bool.not_true, Bool.not_false, decide_true, decide_false, vw_n, vw_b, vw_i, vw_s, vw_u, vw_l, vw_o, ie_n, ie_b, ie_i, ie_s, ie_u, ie_l, ie_c, x10, x20, x21, x30, x31, x32, fin_b, fin_i, eq_ii, ne_ii, List.take_length, vw_k, ie_k, id_eq, Nat.reduceLeDiff, ↓xSl, ↓xAugI, ↓oE, ↓oNo, ↓xLs, ↓xExt, ↓iZp, isi_tup h1, tupB, q1, l1, all_T, hw, heapB, Bool.false_and]
      | true =>
        obtain ⟨ns, rfl⟩ : ∃ ns : List Int, ds = ns.map D.int := ⟨_, within_ints hw⟩
        have l2 : q2_is_heap_in [some (iT ns), none, none, none] C = some (.ok ((ns.zip (ns.drop 1)).map fun p => .bl (decide (p.2 ≤ p.1))) C) := by
          unfold q2_is_heap_in
          refine lc_T0 (g := gd0) (fun p : Int × Int => .tup [.int p.1, .int p.2]) _ _ ?_ rfl (by rw [List.length_zip]; rw [List.length_map] at hl; omega) fun p hp => ⟨[some (iT ns), none, some (.int p.1), some (.int p.2)], rfl, by simp only [↓xDef, ↓xSeq, ↓xDo, ↓xNext, ↓xRet, ↓xExp, ↓xIfS, ↓xAsg, ↓gN, ↓gT, ↓gsC, ↓gsN, ↓xV, ↓S.val, ↓S.bind, ↓S.opt, ↓x2, ↓x1, ↓xN, ↓xB, ↓xD, ↓xAnd, ↓xOr, ↓xNot, ↓xIf, ↓xAndV, ↓xOrV, ↓xNotV, ↓xChain, ↓aNil, ↓aCons, ↓xTup, ↓few, ↓xF, ↓xC, ↓xSetI, ↓xPar, ↓xCall, ↓xFrz, ↓xM, live, i2, dSub, dAdd, dMul, dMulA, dMod, dDiv, dLt, dLe, dGt, dGe, dIx, atI, dNeg, dAbs, dInt, dLen, dMin2, dMax2, dGcd, dTuple, ↓iR1, ↓iR2, ↓iV, items, ↓iEn, items1, nocel, nocels, List.map_cons, List.map_nil, List.getElem?_cons_zero, List.getElem?_cons_succ, List.getElem?_nil, List.set_cons_zero, List.set_cons_succ, List.length_cons, List.length_nil, List.replicate, List.cons_append, List.nil_append, Nat.reduceAdd, Nat.reduceSub, Bool.false_eq_true, if_true, if_false, Option.map_some, Option.bind_some, Option.bind_none, Bool.and_true, Bool.and_false, Bool.true_and, Bool.not_true, Bool.not_false, decide_true, decide_false, vw_n, vw_b, vw_i, vw_s, vw_u, vw_l, vw_o, ie_n, ie_b, ie_i, ie_s, ie_u, ie_l, ie_c, x10, x20, x21, x30, x31, x32, fin_b, fin_i, eq_ii, ne_ii, List.take_length, vw_k, ie_k, id_eq, Nat.reduceLeDiff, ↓xSl, ↓xAugI, ↓oE, ↓oNo, ↓xLs, ↓xExt, ↓iZp]⟩
          have c1 : cutD (ns.map D.int) (some 1) none = (ns.drop 1).map D.int := by rw [← Int.natCast_one, cut_from, List.map_drop]
          simp only [↓xDef, ↓xSeq, ↓xDo, ↓xNext, ↓xRet, ↓xExp, ↓xIfS, ↓xAsg, ↓gN, ↓gT, ↓gsC, ↓gsN, ↓xV, ↓S.val, ↓S.bind, ↓S.opt, ↓x2, ↓x1, ↓xN, ↓xB, ↓xD, ↓xAnd, ↓xOr, ↓xNot, ↓xIf, ↓xAndV, ↓xOrV, ↓xNotV, ↓xChain, ↓aNil, ↓aCons, ↓xTup, ↓few, ↓xF, ↓xC, ↓xSetI, ↓xPar, ↓xCall, ↓xFrz, ↓xM, live, i2, dSub, dAdd, dMul, dMulA, dMod, dDiv, dLt, dLe, dGt, dGe, dIx, atI, dNeg, dAbs, dInt, dLen, dMin2, dMax2, dGcd, dTuple, ↓iR1, ↓iR2, ↓iV, items, ↓iEn, items1, nocel, nocels, List.map_cons, List.map_nil, List.getElem?_cons_zero, List.getElem?_cons_succ, List.getElem?_nil, List.set_cons_zero, List.set_cons_succ, List.length_cons, List.length_nil, List.replicate, List.cons_append, List.nil_append, Nat.reduceAdd, Nat.reduceSub, Bool.false_eq_true, if_true, if_false, Option.map_some, Option.bind_some, Option.bind_none, Bool.and_true, Bool.and_false, Bool.true_and, Bool.not_true, Bool.not_false, decide_true, decide_false, vw_n, vw_b, vw_i, vw_s, vw_u, vw_l, vw_o, ie_n, ie_b, ie_i, ie_s, ie_u, ie_l, ie_c, x10, x20, x21, x30, x31, x32, fin_b, fin_i, eq_ii, ne_ii, List.take_length, vw_k, ie_k, id_eq, Nat.reduceLeDiff, ↓xSl, ↓xAugI, ↓oE, ↓oNo, ↓xLs, ↓xExt, ↓iZp, dSl, c1, zips, prs_map2]
        have hi : (ns.map D.int).map iOf = ns := by
          rw [List.map_map]
          exact List.map_id' ns
        have hl2 : decide ((ns.map D.int).length ≤ 60) = true := by simpa using hl
        simp only [↓xDef, ↓xSeq, ↓xDo, ↓xNext, ↓xRet, ↓xExp, ↓xIfS, ↓xAsg, ↓gN, ↓gT, ↓gsC, ↓gsN, ↓xV, ↓S.val, ↓S.bind, ↓S.opt, ↓x2, ↓x1, ↓xN, ↓xB, ↓xD, ↓xAnd, ↓xOr, ↓xNot, ↓xIf, ↓xAndV, ↓xOrV, ↓xNotV, ↓xChain, ↓aNil, ↓aCons, ↓xTup, ↓few, ↓xF, ↓xC, ↓xSetI, ↓xPar, ↓xCall, ↓xFrz, ↓xM, live, i2, dSub, dAdd, dMul, dMulA, dMod, dDiv, dLt, dLe, dGt, dGe, dIx, atI, dNeg, dAbs, dInt, dLen, dMin2, dMax2, dGcd, dTuple, ↓iR1, ↓iR2, ↓iV, items, ↓iEn, items1, nocel, nocels, List.map_cons, List.map_nil, List.getElem?_cons_zero, List.getElem?_cons_succ, List.getElem?_nil, List.set_cons_zero, List.set_cons_succ, List.length_cons, List.length_nil, List.replicate, List.cons_append, List.nil_append, Nat.reduceAdd, Nat.reduceSub, Bool.false_eq_true, if_true, if_false, Option.map_some, Option.bind_some, Option.bind_none, Bool.and_true, Bool.and_false, Bool.true_and, Bool.not_true, Bool.not_false, decide_true, decide_false, vw_n, vw_b, vw_i, vw_s, vw_u, vw_l, vw_o, ie_n, ie_b, ie_i, ie_s, ie_u, ie_l, ie_c, x10, x20, x21, x30, x31, x32, fin_b, fin_i, eq_ii, ne_ii, List.take_length, vw_k, ie_k, id_eq, Nat.reduceLeDiff, ↓xSl, ↓xAugI, ↓oE, ↓oNo, ↓xLs, ↓xExt, ↓iZp, isi_tup h1, tupB, q1, l1, l2, all_T, hw, heapB, fall_zip, hi, hl2]
    · have q1 : decide ((ds.length : Int) > 60) = true := by simp; omega
      simp only [↓xDef, ↓xSeq, ↓xDo, ↓xNext, ↓xRet, ↓xExp, ↓xIfS, ↓xAsg, ↓gN, ↓gT, ↓gsC, ↓gsN, ↓xV, ↓S.val, ↓S.bind, ↓S.opt, ↓x2, ↓x1, ↓xN, ↓xB, ↓xD, ↓xAnd, ↓xOr, ↓xNot, ↓xIf, ↓xAndV, ↓xOrV, ↓xNotV, ↓xChain, ↓aNil, ↓aCons, ↓xTup, ↓few, ↓xF, ↓xC, ↓xSetI, ↓xPar, ↓xCall, ↓xFrz, ↓xM, live, i2, dSub, dAdd, dMul, dMulA, dMod, dDiv, dLt, dLe, dGt, dGe, dIx, atI, dNeg, dAbs, dInt, dLen, dMin2, dMax2, dGcd, dTuple, ↓iR1, ↓iR2, ↓iV, items, ↓iEn, items1, nocel, nocels, List.map_cons, List.map_nil, List.getElem?_cons_zero, List.getElem?_cons_succ, List.getElem?_nil, List.set_cons_zero, List.set_cons_succ, List.length_cons, List.length_nil, List.replicate, List.cons_append, List.nil_append, Nat.reduceAdd, Nat.reduceSub, Bool.false_eq_true, if_true, if_false, Option.map_some, Option.bind_some, Option.bind_none, Bool.and_true, Bool.and_false, Bool.true_and, Bool.not_true, Bool.not_false, decide_true, decide_false, vw_n, vw_b, vw_i, vw_s, vw_u, vw_l, vw_o, ie_n, ie_b, ie_i, ie_s, ie_u, ie_l, ie_c, x10, x20, x21, x30, x31, x32, fin_b, fin_i, eq_ii, ne_ii, List.take_length, vw_k, ie_k, id_eq, Nat.reduceLeDiff, ↓xSl, ↓xAugI, ↓oE, ↓oNo, ↓xLs, ↓xExt, ↓iZp, isi_tup h1, tupB, q1, heapB, hl, Bool.false_and]
  | _ => first | (simp [typed] at h1; done) | simp only [↓xDef, ↓xSeq, ↓xDo, ↓xNext, ↓xRet, ↓xExp, ↓xIfS, ↓xAsg, ↓gN, ↓gT, ↓gsC, ↓gsN, ↓xV, ↓S.val, ↓S.bind, ↓S.opt, ↓x2, ↓x1, ↓xN, ↓xB, ↓xD, ↓xAnd, ↓xOr, ↓xNot, ↓xIf, ↓xAndV, ↓xOrV, ↓xNotV, ↓xChain, ↓aNil, ↓aCons, ↓xTup, ↓few, ↓xF, ↓xC, ↓xSetI, ↓xPar, ↓xCall, ↓xFrz, ↓xM, live, i2, dSub, dAdd, dMul, dMulA, dMod, dDiv, dLt, dLe, dGt, dGe, dIx, atI, dNeg, dAbs, dInt, dLen, dMin2, dMax2, dGcd, dTuple, ↓iR1, ↓iR2, ↓iV, items, ↓iEn, items1, nocel, nocels, List.map_cons, List.map_nil, List.getElem?_cons_zero, List.getElem?_cons_succ, List.getElem?_nil, List.set_cons_zero, List.set_cons_succ, List.length_cons, List.length_nil, List.replicate, List.cons_append, List.nil_append, Nat.reduceAdd, Nat.reduceSub, Bool.false_eq_true, if_true, if_false, Option.map_some, Option.bind_some, Option.bind_none, Bool.and_true, Bool.and_false, Bool.true_and, Bool.not_true, Bool.not_false, decide_true, decide_false, vw_n, vw_b, vw_i, vw_s, vw_u, vw_l, vw_o, ie_n, ie_b, ie_i, ie_s, ie_u, ie_l, ie_c, x10, x20, x21, x30, x31, x32, fin_b, fin_i, eq_ii, ne_ii, List.take_length, vw_k, ie_k, id_eq, Nat.reduceLeDiff, ↓xSl, ↓xAugI, ↓oE, ↓oNo, ↓xLs, ↓xExt, ↓iZp, isi_tup h1, tupB, heapB]
theorem is_heap_i {hs : List Int} (h : Hp0 hs) (C : Cells) : m_is_heap_in [iT hs] C = some (.ok (.bl true) C) := by rw [is_heap_in C (typedT_i hs), h.ok]
theorem req_heap {hs : List Int} (h : Hp0 hs) (C : Cells) : m_require_heap [iT hs] C = some (.ok .non C) := by
  unfold m_require_heap b_require_heap
  simp only [↓xDef, ↓xSeq, ↓xDo, ↓xNext, ↓xRet, ↓xExp, ↓xIfS, ↓xAsg, ↓gN, ↓gT, ↓gsC, ↓gsN, ↓xV, ↓S.val, ↓S.bind, ↓S.opt, ↓x2, ↓x1, ↓xN, ↓xB, ↓xD, ↓xAnd, ↓xOr, ↓xNot, ↓xIf, ↓xAndV, ↓xOrV, ↓xNotV, ↓xChain, ↓aNil, ↓aCons, ↓xTup, ↓few, ↓xF, ↓xC, ↓xSetI, ↓xPar, ↓xCall, ↓xFrz, ↓xM, live, i2, dSub, dAdd, dMul, dMulA, dMod, dDiv, dLt, dLe, dGt, dGe, dIx, atI, dNeg, dAbs, dInt, dLen, dMin2, dMax2, dGcd, dTuple, ↓iR1, ↓iR2, ↓iV, items, ↓iEn, items1, nocel, nocels, List.map_cons, List.map_nil, List.getElem?_cons_zero, List.getElem?_cons_succ, List.getElem?_nil, List.set_cons_zero, List.set_cons_succ, List.length_cons, List.length_nil, List.replicate, List.cons_append, List.nil_append, Nat.reduceAdd, Nat.reduceSub, Bool.false_eq_true, if_true, if_false, Option.map_some, Option.bind_some, Option.bind_none, Bool.and_true, Bool.and_false, Bool.true_and, Bool.not_true, Bool.not_false, decide_true, decide_false, vw_n, vw_b, vw_i, vw_s, vw_u, vw_l, vw_o, ie_n, ie_b, ie_i, ie_s, ie_u, ie_l, ie_c, x10, x20, x21, x30, x31, x32, fin_b, fin_i, eq_ii, ne_ii, List.take_length, vw_k, ie_k, id_eq, Nat.reduceLeDiff, ↓xSl, ↓xAugI, ↓oE, ↓oNo, ↓xLs, ↓xExt, ↓iZp, is_heap_i h]
/-- the squares, column by column -/
def sqs (hs : List Int) : List (Nat × Nat) := (hs.zipIdx 0).flatMap fun p => (List.range p.1.toNat).map fun r => (p.2, r)
def pD (p : Nat × Nat) : D := .tup [.int p.1, .int p.2]
theorem flat_len {α β : Type} {f : α → List β} {k : Nat} : ∀ {xs : List α}, (∀ a ∈ xs, (f a).length ≤ k) → (xs.flatMap f).length ≤ xs.length * k
  | [], _ => by simp
  | a :: r, h => by
    have ih := flat_len (xs := r) fun b hb => h b (List.mem_cons_of_mem _ hb)
    have h1 := h a List.mem_cons_self
    rw [List.flatMap_cons, List.length_append, List.length_cons, Nat.succ_mul]
    omega
theorem zipIdx_mem {hs : List Int} {p : Int × Nat} (h : p ∈ hs.zipIdx 0) : p.2 < hs.length ∧ p.1 = hs.getD p.2 0 ∧ p.1 ∈ hs := by
  obtain ⟨h1, h2⟩ := List.mem_zipIdx' h
  refine ⟨h1, ?_, ?_⟩
  · rw [List.getD_eq_getElem?_getD, List.getElem?_eq_getElem h1, h2]
    rfl
  · rw [h2]
    exact List.getElem_mem h1
theorem sqs_len {hs : List Int} (h : Hp0 hs) : (sqs hs).length ≤ 3600 := by
  have := flat_len (k := 60) (f := fun p : Int × Nat => (List.range p.1.toNat).map fun r => (p.2, r)) (xs := hs.zipIdx 0) fun p hp => by
    rw [List.length_map, List.length_range]
    have := (h.rng _ (zipIdx_mem hp).2.2).2
    omega
  rw [List.length_zipIdx] at this
  have h1 := h.len
  unfold sqs
  omega
end Sk15
end
section
set_option maxRecDepth 100000
set_option maxHeartbeats 0
set_option exponentiation.threshold 1000000
namespace Sk15
open PySem L2 Sm
/-- may column i rise, where a ring n, s with the place x lets it? -/
def glet (n s x : Int) (hs : List Int) (i : Nat) : Bool := (decide (i = 0) || decide (hs.getD i 0 < hs.getD (i - 1) 0)) && (((i : Int) - hs.getD i 0) * s - x) % n == 0
def stepG (n s x : Int) (hs : List Int) (F : List Int) (i : Nat) : List Int := if glet n s x hs i then (if i < hs.length then F.set i (hs.getD i 0 + 1) else F ++ [1]) else F
def grow (n s x : Int) (hs : List Int) : List Int := ((List.range hs.length).map fun i => hs.getD i 0 + if glet n s x hs i then 1 else 0) ++ if glet n s x hs hs.length then [1] else []
theorem fold_grow {n s x : Int} {hs : List Int} : ∀ j, j ≤ hs.length → (List.range j).foldl (stepG n s x hs) hs = ((List.range j).map fun i => hs.getD i 0 + if glet n s x hs i then 1 else 0) ++ hs.drop j
  | 0, _ => by simp
  | j + 1, h => by
    rw [List.range_succ, List.foldl_append, fold_grow j (by omega), List.map_append, List.foldl_cons, List.foldl_nil]
    have e : hs.drop j = hs.getD j 0 :: hs.drop (j + 1) := by
      rw [List.drop_eq_getElem_cons (by omega)]
      simp [List.getD_eq_getElem?_getD, show j < hs.length by omega]
    rw [e]
    unfold stepG
    by_cases q : glet n s x hs j = true
    · simp only [q, if_true, show j < hs.length from h]
      rw [List.set_append_right _ _ (by simp)]
      simp [q]
    · simp [q]
theorem fold_all {n s x : Int} {hs : List Int} : (List.range (hs.length + 1)).foldl (stepG n s x hs) hs = grow n s x hs := by
  rw [List.range_succ, List.foldl_append, fold_grow _ (Nat.le_refl _), List.drop_length, List.append_nil, List.foldl_cons, List.foldl_nil]
  unfold stepG grow
  by_cases q : glet n s x hs hs.length = true
  · simp [q]
  · simp [q]
/-- a heap of at most k columns and rows -/
structure Hg (k : Nat) (hs : List Int) : Prop where
  len : hs.length ≤ k
  rng : ∀ i, i < hs.length → 1 ≤ hs.getD i 0 ∧ hs.getD i 0 ≤ k
  fall : ∀ i, i + 1 < hs.length → hs.getD (i + 1) 0 ≤ hs.getD i 0
theorem Hg.mono {j k : Nat} {hs : List Int} (h : Hg j hs) (hk : j ≤ k) : Hg k hs := ⟨by have := h.len; omega, fun i hi => by have := h.rng i hi; omega, h.fall⟩
theorem Hg.le {k : Nat} {hs : List Int} (h : Hg k hs) : ∀ {i j : Nat}, i ≤ j → j < hs.length → hs.getD j 0 ≤ hs.getD i 0 := by
  intro i j hij hj
  induction j with
  | zero => rw [show i = 0 by omega]; exact Int.le_refl _
  | succ j ih =>
    by_cases q : i = j + 1
    · rw [q]; exact Int.le_refl _
    · have h1 := ih (by omega) (by omega)
      have h2 := h.fall j hj
      omega
theorem mem_getD {hs : List Int} {z : Int} (h : z ∈ hs) : ∃ i, i < hs.length ∧ z = hs.getD i 0 := by
  obtain ⟨i, hi, e⟩ := List.getElem_of_mem h
  exact ⟨i, hi, by simp [List.getD_eq_getElem?_getD, hi, e]⟩
theorem getD_mem' {hs : List Int} {i : Nat} (h : i < hs.length) : hs.getD i 0 ∈ hs := by
  rw [List.getD_eq_getElem?_getD, List.getElem?_eq_getElem h]
  exact List.getElem_mem h
theorem pw_of {hs : List Int} : (∀ i j : Nat, i ≤ j → j < hs.length → hs.getD j 0 ≤ hs.getD i 0) → hs.Pairwise (· ≥ ·) := fun h => by
  rw [List.pairwise_iff_getElem]
  intro i j hi hj hij
  have := h i j (by omega) hj
  simpa [List.getD_eq_getElem?_getD, hi, hj] using this
theorem of_pw {hs : List Int} (h : hs.Pairwise (· ≥ ·)) : ∀ i j : Nat, i ≤ j → j < hs.length → hs.getD j 0 ≤ hs.getD i 0 := by
  intro i j hij hj
  by_cases q : i = j
  · rw [q]; exact Int.le_refl _
  · have := List.pairwise_iff_getElem.mp h i j (by omega) hj (by omega)
    simpa [List.getD_eq_getElem?_getD, show i < hs.length by omega, hj] using this
theorem Hg.hp0 {k : Nat} {hs : List Int} (h : Hg k hs) (hk : k ≤ 60) : Hp0 hs := by
  refine ⟨by have := h.len; omega, fun z hz => ?_, pw_of fun i j => h.le⟩
  obtain ⟨i, hi, rfl⟩ := mem_getD hz
  have := h.rng i hi
  omega
theorem Hp0.hg {hs : List Int} (h : Hp0 hs) : Hg 60 hs := ⟨h.len, fun i hi => h.rng _ (getD_mem' hi), fun i hi => of_pw h.fall i (i + 1) (by omega) hi⟩
theorem Hp0.hk {hs : List Int} (h : Hp0 hs) : Hk.Heap 60 hs := ⟨h.len, fun i j => of_pw h.fall i j, fun i hi => h.rng _ (getD_mem' hi)⟩
theorem grow_get {n s x : Int} {hs : List Int} {i : Nat} (hi : i < hs.length) : (grow n s x hs).getD i 0 = hs.getD i 0 + if glet n s x hs i then 1 else 0 := by
  unfold grow
  rw [List.getD_eq_getElem?_getD, List.getElem?_append_left (by simpa using hi)]
  simp [hi]
theorem grow_end {n s x : Int} {hs : List Int} (h : glet n s x hs hs.length = true) : (grow n s x hs).getD hs.length 0 = 1 ∧ (grow n s x hs).length = hs.length + 1 := by
  unfold grow
  rw [List.getD_eq_getElem?_getD, List.getElem?_append_right (by simp)]
  simp [h]
theorem grow_end0 {n s x : Int} {hs : List Int} (h : ¬ glet n s x hs hs.length = true) : (grow n s x hs).length = hs.length := by
  unfold grow
  simp [h]
theorem glet_rise {n s x : Int} {hs : List Int} {i : Nat} (h : glet n s x hs (i + 1) = true) : hs.getD (i + 1) 0 < hs.getD i 0 := by
  unfold glet at h
  simp at h
  simpa [List.getD_eq_getElem?_getD] using h.1
theorem hg_grow {k : Nat} {hs : List Int} (h : Hg k hs) (n s x : Int) : Hg (k + 1) (grow n s x hs) := by
  have hl := h.len
  have lg : (grow n s x hs).length = hs.length ∨ (grow n s x hs).length = hs.length + 1 ∧ (grow n s x hs).getD hs.length 0 = 1 := by
    by_cases q : glet n s x hs hs.length = true
    · exact .inr ⟨(grow_end q).2, (grow_end q).1⟩
    · exact .inl (grow_end0 q)
  have each : ∀ i, i < hs.length → hs.getD i 0 ≤ (grow n s x hs).getD i 0 ∧ (grow n s x hs).getD i 0 ≤ hs.getD i 0 + 1 := fun i hi => by
    rw [grow_get hi]
    split <;> omega
  refine ⟨by omega, fun i hi => ?_, fun i hi => ?_⟩
  · by_cases q : i < hs.length
    · have := each i q
      have := h.rng i q
      omega
    · rcases lg with lg | ⟨lg, e⟩
      · omega
      · rw [show i = hs.length by omega, e]
        omega
  · by_cases q : i + 1 < hs.length
    · have h1 := each i (by omega)
      have h2 := each (i + 1) q
      have h3 := h.fall i q
      by_cases r : glet n s x hs (i + 1) = true
      · have := glet_rise r
        omega
      · rw [grow_get q, if_neg r]
        omega
    · rcases lg with lg | ⟨lg, e⟩
      · omega
      · rw [show i + 1 = hs.length by omega, e]
        have := each i (by omega)
        have := h.rng i (by omega)
        omega
theorem grown_turn {n s x : Int} {hs F : List Int} {i : Nat} (h : Hg 60 hs) (hF : F.length = hs.length) (hi : i ≤ hs.length) (hn : 0 < n) (hs0 : s.natAbs < 2 ^ 100) {C : Cells} {t7 t8 : Option D} : ∃ t7' t8', q1__law_grown [some (iT hs), some (.tup [.int n, .int s]), some (.int x), some (.cel C.length), some (.int i), some (.int n), some (.int s), t7, t8] (C ++ [some (.l (F.map D.int))]) =
    some (.nx [some (iT hs), some (.tup [.int n, .int s]), some (.int x), some (.cel C.length), some (.int i), some (.int n), some (.int s), t7', t8'] (C ++ [some (.l ((stepG n s x hs F i).map D.int))])) := by
  have hv : vw (C ++ [some (.l (F.map D.int))]) (.cel C.length) = .lst (F.map D.int) := vw_c (by simp)
  have hlv : (C ++ [some (Ob.l (F.map D.int))])[C.length]? = some (some (Ob.l (F.map D.int))) := by simp
  have hset : ∀ y : Option Ob, (C ++ [some (Ob.l (F.map D.int))]).set C.length y = C ++ [y] := fun y => by simp
  have hx : (hs.length : Int) ≤ 60 := by have := h.len; omega
  have hl : decide ((i : Int) < ((hs.map D.int).length : Int)) = decide (i < hs.length) := by rw [List.length_map]; simp
  have hp : i = 0 ∨ ∃ v, hs.getD (i - 1) 0 = v ∧ atI (hs.map D.int) ((i : Int) - 1) = some (.int v) := by
    by_cases q : i = 0
    · exact .inl q
    · refine .inr ⟨_, rfl, ?_⟩
      have := ix_T (ns := hs) (i := i - 1) (by omega)
      rw [Int.natCast_sub (by omega)] at this
      exact this
  have hgl : glet n s x hs i = ((decide (i = 0) || decide (hs.getD i 0 < hs.getD (i - 1) 0)) && (((i : Int) - hs.getD i 0) * s - x) % n == 0) := rfl
  have hz : ((i : Int) == 0) = decide (i = 0) := by
    rw [Bool.eq_iff_iff]
    simp
  have hv0 : 0 ≤ hs.getD i 0 ∧ hs.getD i 0 ≤ 60 := by
    by_cases q : i < hs.length
    · have := h.rng i q
      omega
    · rw [List.getD_eq_getElem?_getD, List.getElem?_eq_none (by omega)]
      exact ⟨Int.le_refl _, by decide⟩
  have hat : i < hs.length → atI (hs.map D.int) (i : Int) = some (.int (hs.getD i 0)) := fun q => ix_T q
  have hno : ¬ i < hs.length → hs.getD i 0 = 0 := fun q => by
    rw [List.getD_eq_getElem?_getD, List.getElem?_eq_none (by omega)]
    rfl
  have hst : ∀ v : Int, i < hs.length → (F.map D.int).set i (D.int v) = (F.set i v).map D.int := fun v _ => by rw [List.map_set]
  have hxN : i < hs.length → ixN (F.map D.int).length (i : Int) = some i := fun q => ixN_nat (by rw [List.length_map]; omega)
  unfold stepG
  rw [hgl]
  have I0 : 0 ≤ (i : Int) ∧ (i : Int) ≤ 60 := by omega
  obtain ⟨I, hI⟩ : ∃ I : Int, (i : Int) = I := ⟨_, rfl⟩
  rw [hI] at hl hp hat hxN hz I0 ⊢
  have m1 : s.natAbs < 2 ^ 400000 := Nat.lt_of_lt_of_le hs0 (Nat.pow_le_pow_right (by decide) (by decide))
  have k1 : atI (hs.map D.int) I = some (.int (hs.getD i 0)) ∧ i < hs.length ∨ hs.getD i 0 = 0 ∧ ¬ i < hs.length := by
    by_cases q : i < hs.length
    · exact .inl ⟨hat q, q⟩
    · exact .inr ⟨hno q, q⟩
  generalize hs.getD i 0 = h0 at hv0 k1 ⊢
  have m2 : (I - h0).natAbs < 2 ^ 400000 := Nat.lt_of_lt_of_le (m := 2 ^ 10) (by omega) (Nat.pow_le_pow_right (by decide) (by decide))
  -- can it rise?
  have rise : ∃ r : Bool, (decide (i = 0) || decide (h0 < hs.getD (i - 1) 0)) = r ∧ xOrV (x2 dEq (xV 4) (S.val (.int 0))) (x2 dGt (x2 dIx (xV 0) (x2 dSub (xV 4) (S.val (.int 1)))) (xV 7)) [some (iT hs), some (.tup [.int n, .int s]), some (.int x), some (.cel C.length), some (.int I), some (.int n), some (.int s), some (.int h0), t8] (C ++ [some (.l (F.map D.int))]) = some (.ok (.bl r) (C ++ [some (.l (F.map D.int))])) := by
    rcases hp with rfl | ⟨v, h1, h2⟩
    · refine ⟨true, rfl, ?_⟩
      simp only [↓xDef, ↓xSeq, ↓xDo, ↓xNext, ↓xRet, ↓xExp, ↓xIfS, ↓xAsg, ↓gN, ↓gT, ↓gsC, ↓gsN, ↓xV, ↓S.val, ↓S.bind, ↓S.opt, ↓x2, ↓x1, ↓xN, ↓xB, ↓xD, ↓xAnd, ↓xOr, ↓xNot, ↓xIf, ↓xAndV, ↓xOrV, ↓xNotV, ↓xChain, ↓aNil, ↓aCons, ↓xTup, ↓few, ↓xF, ↓xC, ↓xSetI, ↓xPar, ↓xCall, ↓xFrz, ↓xM, live, i2, dSub, dAdd, dMul, dMulA, dMod, dDiv, dLt, dLe, dGt, dGe, dIx, at10, at20, at21, at30, at31, at32, cst0, cst1, cst2, cst3, dNeg, dAbs, dInt, dLen, dMin2, dMax2, dGcd, dTuple, ↓iR1, ↓iR2, ↓iV, items, ↓iEn, items1, nocel, nocels, List.map_cons, List.map_nil, List.getElem?_cons_zero, List.getElem?_cons_succ, List.getElem?_nil, List.set_cons_zero, List.set_cons_succ, List.length_cons, List.length_nil, List.replicate, List.cons_append, List.nil_append, Nat.reduceAdd, Nat.reduceSub, Bool.false_eq_true, if_true, if_false, Option.map_some, Option.bind_some, Option.bind_none, Bool.and_true, Bool.and_false, Bool.true_and, Bool.not_true, Bool.not_false, decide_true, decide_false, vw_n, vw_b, vw_i, vw_s, vw_u, vw_l, vw_o, ie_n, ie_b, ie_i, ie_s, ie_u, ie_l, ie_c, x10, x20, x21, x30, x31, x32, fin_b, fin_i, eq_ii, ne_ii, List.take_length, vw_k, ie_k, id_eq, Nat.reduceLeDiff, ↓xSl, ↓xAugI, ↓oE, ↓oNo, ↓xLs, ↓xExt, ↓iZp, hz]
    · refine ⟨_, rfl, ?_⟩
      rw [h1]
      by_cases q : i = 0
      · simp only [↓xDef, ↓xSeq, ↓xDo, ↓xNext, ↓xRet, ↓xExp, ↓xIfS, ↓xAsg, ↓gN, ↓gT, ↓gsC, ↓gsN, ↓xV, ↓S.val, ↓S.bind, ↓S.opt, ↓x2, ↓x1, ↓xN, ↓xB, ↓xD, ↓xAnd, ↓xOr, ↓xNot, ↓xIf, ↓xAndV, ↓xOrV, ↓xNotV, ↓xChain, ↓aNil, ↓aCons, ↓xTup, ↓few, ↓xF, ↓xC, ↓xSetI, ↓xPar, ↓xCall, ↓xFrz, ↓xM, live, i2, dSub, dAdd, dMul, dMulA, dMod, dDiv, dLt, dLe, dGt, dGe, dIx, at10, at20, at21, at30, at31, at32, cst0, cst1, cst2, cst3, dNeg, dAbs, dInt, dLen, dMin2, dMax2, dGcd, dTuple, ↓iR1, ↓iR2, ↓iV, items, ↓iEn, items1, nocel, nocels, List.map_cons, List.map_nil, List.getElem?_cons_zero, List.getElem?_cons_succ, List.getElem?_nil, List.set_cons_zero, List.set_cons_succ, List.length_cons, List.length_nil, List.replicate, List.cons_append, List.nil_append, Nat.reduceAdd, Nat.reduceSub, Bool.false_eq_true, if_true, if_false, Option.map_some, Option.bind_some, Option.bind_none, Bool.and_true, Bool.and_false, Bool.true_and, Bool.not_true, Bool.not_false, decide_true, decide_false, vw_n, vw_b, vw_i, vw_s, vw_u, vw_l, vw_o, ie_n, ie_b, ie_i, ie_s, ie_u, ie_l, ie_c, x10, x20, x21, x30, x31, x32, fin_b, fin_i, eq_ii, ne_ii, List.take_length, vw_k, ie_k, id_eq, Nat.reduceLeDiff, ↓xSl, ↓xAugI, ↓oE, ↓oNo, ↓xLs, ↓xExt, ↓iZp, hz, q, Bool.true_or]
      · simp only [↓xDef, ↓xSeq, ↓xDo, ↓xNext, ↓xRet, ↓xExp, ↓xIfS, ↓xAsg, ↓gN, ↓gT, ↓gsC, ↓gsN, ↓xV, ↓S.val, ↓S.bind, ↓S.opt, ↓x2, ↓x1, ↓xN, ↓xB, ↓xD, ↓xAnd, ↓xOr, ↓xNot, ↓xIf, ↓xAndV, ↓xOrV, ↓xNotV, ↓xChain, ↓aNil, ↓aCons, ↓xTup, ↓few, ↓xF, ↓xC, ↓xSetI, ↓xPar, ↓xCall, ↓xFrz, ↓xM, live, i2, dSub, dAdd, dMul, dMulA, dMod, dDiv, dLt, dLe, dGt, dGe, dIx, at10, at20, at21, at30, at31, at32, cst0, cst1, cst2, cst3, dNeg, dAbs, dInt, dLen, dMin2, dMax2, dGcd, dTuple, ↓iR1, ↓iR2, ↓iV, items, ↓iEn, items1, nocel, nocels, List.map_cons, List.map_nil, List.getElem?_cons_zero, List.getElem?_cons_succ, List.getElem?_nil, List.set_cons_zero, List.set_cons_succ, List.length_cons, List.length_nil, List.replicate, List.cons_append, List.nil_append, Nat.reduceAdd, Nat.reduceSub, Bool.false_eq_true, if_true, if_false, Option.map_some, Option.bind_some, Option.bind_none, Bool.and_true, Bool.and_false, Bool.true_and, Bool.not_true, Bool.not_false, decide_true, decide_false, vw_n, vw_b, vw_i, vw_s, vw_u, vw_l, vw_o, ie_n, ie_b, ie_i, ie_s, ie_u, ie_l, ie_c, x10, x20, x21, x30, x31, x32, fin_b, fin_i, eq_ii, ne_ii, List.take_length, vw_k, ie_k, id_eq, Nat.reduceLeDiff, ↓xSl, ↓xAugI, ↓oE, ↓oNo, ↓xLs, ↓xExt, ↓iZp, hz, q, h2, Bool.false_or]
  obtain ⟨r, hr, rise⟩ := rise
  rw [hr]
  refine ⟨some (.int h0), some (.bl r), ?_⟩
  unfold q1__law_grown
  have a1 : xAsg (xIf (xB (x2 dLt (xV 4) (xN dLen (aCons (xV 0) (aNil))))) (x2 dIx (xV 0) (xV 4)) (S.val (.int (0)))) (gN 7) [some (iT hs), some (.tup [.int n, .int s]), some (.int x), some (.cel C.length), some (.int I), some (.int n), some (.int s), t7, t8] (C ++ [some (.l (F.map D.int))]) =
      some (.nx [some (iT hs), some (.tup [.int n, .int s]), some (.int x), some (.cel C.length), some (.int I), some (.int n), some (.int s), some (.int h0), t8] (C ++ [some (.l (F.map D.int))])) := by
    rcases k1 with ⟨k1, k2⟩ | ⟨k1, k2⟩
    · simp only [↓xDef, ↓xSeq, ↓xDo, ↓xNext, ↓xRet, ↓xExp, ↓xIfS, ↓xAsg, ↓gN, ↓gT, ↓gsC, ↓gsN, ↓xV, ↓S.val, ↓S.bind, ↓S.opt, ↓x2, ↓x1, ↓xN, ↓xB, ↓xD, ↓xAnd, ↓xOr, ↓xNot, ↓xIf, ↓xAndV, ↓xOrV, ↓xNotV, ↓xChain, ↓aNil, ↓aCons, ↓xTup, ↓few, ↓xF, ↓xC, ↓xSetI, ↓xPar, ↓xCall, ↓xFrz, ↓xM, live, i2, dSub, dAdd, dMul, dMulA, dMod, dDiv, dLt, dLe, dGt, dGe, dIx, at10, at20, at21, at30, at31, at32, cst0, cst1, cst2, cst3, dNeg, dAbs, dInt, dLen, dMin2, dMax2, dGcd, dTuple, ↓iR1, ↓iR2, ↓iV, items, ↓iEn, items1, nocel, nocels, List.map_cons, List.map_nil, List.getElem?_cons_zero, List.getElem?_cons_succ, List.getElem?_nil, List.set_cons_zero, List.set_cons_succ, List.length_cons, List.length_nil, List.replicate, List.cons_append, List.nil_append, Nat.reduceAdd, Nat.reduceSub, Bool.false_eq_true, if_true, if_false, Option.map_some, Option.bind_some, Option.bind_none, Bool.and_true, Bool.and_false, Bool.true_and, Bool.not_true, Bool.not_false, decide_true, decide_false, vw_n, vw_b, vw_i, vw_s, vw_u, vw_l, vw_o, ie_n, ie_b, ie_i, ie_s, ie_u, ie_l, ie_c, x10, x20, x21, x30, x31, x32, fin_b, fin_i, eq_ii, ne_ii, List.take_length, vw_k, ie_k, id_eq, Nat.reduceLeDiff, ↓xSl, ↓xAugI, ↓oE, ↓oNo, ↓xLs, ↓xExt, ↓iZp, hl, k2, k1]
    · subst k1
      simp only [↓xDef, ↓xSeq, ↓xDo, ↓xNext, ↓xRet, ↓xExp, ↓xIfS, ↓xAsg, ↓gN, ↓gT, ↓gsC, ↓gsN, ↓xV, ↓S.val, ↓S.bind, ↓S.opt, ↓x2, ↓x1, ↓xN, ↓xB, ↓xD, ↓xAnd, ↓xOr, ↓xNot, ↓xIf, ↓xAndV, ↓xOrV, ↓xNotV, ↓xChain, ↓aNil, ↓aCons, ↓xTup, ↓few, ↓xF, ↓xC, ↓xSetI, ↓xPar, ↓xCall, ↓xFrz, ↓xM, live, i2, dSub, dAdd, dMul, dMulA, dMod, dDiv, dLt, dLe, dGt, dGe, dIx, at10, at20, at21, at30, at31, at32, cst0, cst1, cst2, cst3, dNeg, dAbs, dInt, dLen, dMin2, dMax2, dGcd, dTuple, ↓iR1, ↓iR2, ↓iV, items, ↓iEn, items1, nocel, nocels, List.map_cons, List.map_nil, List.getElem?_cons_zero, List.getElem?_cons_succ, List.getElem?_nil, List.set_cons_zero, List.set_cons_succ, List.length_cons, List.length_nil, List.replicate, List.cons_append, List.nil_append, Nat.reduceAdd, Nat.reduceSub, Bool.false_eq_true, if_true, if_false, Option.map_some, Option.bind_some, Option.bind_none, Bool.and_true, Bool.and_false, Bool.true_and, Bool.not_true, Bool.not_false, decide_true, decide_false, vw_n, vw_b, vw_i, vw_s, vw_u, vw_l, vw_o, ie_n, ie_b, ie_i, ie_s, ie_u, ie_l, ie_c, x10, x20, x21, x30, x31, x32, fin_b, fin_i, eq_ii, ne_ii, List.take_length, vw_k, ie_k, id_eq, Nat.reduceLeDiff, ↓xSl, ↓xAugI, ↓oE, ↓oNo, ↓xLs, ↓xExt, ↓iZp, hl, k2]
  rw [seq_nx a1, seq_nx (e' := [some (iT hs), some (.tup [.int n, .int s]), some (.int x), some (.cel C.length), some (.int I), some (.int n), some (.int s), some (.int h0), some (.bl r)]) (C' := C ++ [some (.l (F.map D.int))]) (by
    unfold xAsg xDo
    rw [rise]
    rfl)]
  cases r with
  | false => simp only [↓xDef, ↓xSeq, ↓xDo, ↓xNext, ↓xRet, ↓xExp, ↓xIfS, ↓xAsg, ↓gN, ↓gT, ↓gsC, ↓gsN, ↓xV, ↓S.val, ↓S.bind, ↓S.opt, ↓x2, ↓x1, ↓xN, ↓xB, ↓xD, ↓xAnd, ↓xOr, ↓xNot, ↓xIf, ↓xAndV, ↓xOrV, ↓xNotV, ↓xChain, ↓aNil, ↓aCons, ↓xTup, ↓few, ↓xF, ↓xC, ↓xSetI, ↓xPar, ↓xCall, ↓xFrz, ↓xM, live, i2, dSub, dAdd, dMul, dMulA, dMod, dDiv, dLt, dLe, dGt, dGe, dIx, at10, at20, at21, at30, at31, at32, cst0, cst1, cst2, cst3, dNeg, dAbs, dInt, dLen, dMin2, dMax2, dGcd, dTuple, ↓iR1, ↓iR2, ↓iV, items, ↓iEn, items1, nocel, nocels, List.map_cons, List.map_nil, List.getElem?_cons_zero, List.getElem?_cons_succ, List.getElem?_nil, List.set_cons_zero, List.set_cons_succ, List.length_cons, List.length_nil, List.replicate, List.cons_append, List.nil_append, Nat.reduceAdd, Nat.reduceSub, Bool.false_eq_true, if_true, if_false, Option.map_some, Option.bind_some, Option.bind_none, Bool.and_true, Bool.and_false, Bool.true_and, Bool.not_true, Bool.not_false, decide_true, decide_false, vw_n, vw_b, vw_i, vw_s, vw_u, vw_l, vw_o, ie_n, ie_b, ie_i, ie_s, ie_u, ie_l, ie_c, x10, x20, x21, x30, x31, x32, fin_b, fin_i, eq_ii, ne_ii, List.take_length, vw_k, ie_k, id_eq, Nat.reduceLeDiff, ↓xSl, ↓xAugI, ↓oE, ↓oNo, ↓xLs, ↓xExt, ↓iZp, Bool.false_and]
  | true =>
    by_cases q : ((I - h0) * s - x) % n = 0
    · rcases k1 with ⟨k1, k2⟩ | ⟨k1, k2⟩
      · simp only [↓xDef, ↓xSeq, ↓xDo, ↓xNext, ↓xRet, ↓xExp, ↓xIfS, ↓xAsg, ↓gN, ↓gT, ↓gsC, ↓gsN, ↓xV, ↓S.val, ↓S.bind, ↓S.opt, ↓x2, ↓x1, ↓xN, ↓xB, ↓xD, ↓xAnd, ↓xOr, ↓xNot, ↓xIf, ↓xAndV, ↓xOrV, ↓xNotV, ↓xChain, ↓aNil, ↓aCons, ↓xTup, ↓few, ↓xF, ↓xC, ↓xSetI, ↓xPar, ↓xCall, ↓xFrz, ↓xM, live, i2, dSub, dAdd, dMul, dMulA, dMod, dDiv, dLt, dLe, dGt, dGe, dIx, at10, at20, at21, at30, at31, at32, cst0, cst1, cst2, cst3, dNeg, dAbs, dInt, dLen, dMin2, dMax2, dGcd, dTuple, ↓iR1, ↓iR2, ↓iV, items, ↓iEn, items1, nocel, nocels, List.map_cons, List.map_nil, List.getElem?_cons_zero, List.getElem?_cons_succ, List.getElem?_nil, List.set_cons_zero, List.set_cons_succ, List.length_cons, List.length_nil, List.replicate, List.cons_append, List.nil_append, Nat.reduceAdd, Nat.reduceSub, Bool.false_eq_true, if_true, if_false, Option.map_some, Option.bind_some, Option.bind_none, Bool.and_true, Bool.and_false, Bool.true_and, Bool.not_true, Bool.not_false, decide_true, decide_false, vw_n, vw_b, vw_i, vw_s, vw_u, vw_l, vw_o, ie_n, ie_b, ie_i, ie_s, ie_u, ie_l, ie_c, x10, x20, x21, x30, x31, x32, fin_b, fin_i, eq_ii, ne_ii, List.take_length, vw_k, ie_k, id_eq, Nat.reduceLeDiff, ↓xSl, ↓xAugI, ↓oE, ↓oNo, ↓xLs, ↓xExt, ↓iZp, hl, k2, m1, m2, and_self, hn, q, hv, hlv, hxN k2, hset, hst _ k2, beq_self_eq_true]
      · have hap : F.map D.int ++ [D.int 1] = (F ++ [1]).map D.int := by rw [List.map_append]; rfl
        have h3 : (F.map D.int).length < 1000000 := by rw [List.length_map]; omega
        simp only [↓xDef, ↓xSeq, ↓xDo, ↓xNext, ↓xRet, ↓xExp, ↓xIfS, ↓xAsg, ↓gN, ↓gT, ↓gsC, ↓gsN, ↓xV, ↓S.val, ↓S.bind, ↓S.opt, ↓x2, ↓x1, ↓xN, ↓xB, ↓xD, ↓xAnd, ↓xOr, ↓xNot, ↓xIf, ↓xAndV, ↓xOrV, ↓xNotV, ↓xChain, ↓aNil, ↓aCons, ↓xTup, ↓few, ↓xF, ↓xC, ↓xSetI, ↓xPar, ↓xCall, ↓xFrz, ↓xM, live, i2, dSub, dAdd, dMul, dMulA, dMod, dDiv, dLt, dLe, dGt, dGe, dIx, at10, at20, at21, at30, at31, at32, cst0, cst1, cst2, cst3, dNeg, dAbs, dInt, dLen, dMin2, dMax2, dGcd, dTuple, ↓iR1, ↓iR2, ↓iV, items, ↓iEn, items1, nocel, nocels, List.map_cons, List.map_nil, List.getElem?_cons_zero, List.getElem?_cons_succ, List.getElem?_nil, List.set_cons_zero, List.set_cons_succ, List.length_cons, List.length_nil, List.replicate, List.cons_append, List.nil_append, Nat.reduceAdd, Nat.reduceSub, Bool.false_eq_true, if_true, if_false, Option.map_some, Option.bind_some, Option.bind_none, Bool.and_true, Bool.and_false, Bool.true_and, Bool.not_true, Bool.not_false, decide_true, decide_false, vw_n, vw_b, vw_i, vw_s, vw_u, vw_l, vw_o, ie_n, ie_b, ie_i, ie_s, ie_u, ie_l, ie_c, x10, x20, x21, x30, x31, x32, fin_b, fin_i, eq_ii, ne_ii, List.take_length, vw_k, ie_k, id_eq, Nat.reduceLeDiff, ↓xSl, ↓xAugI, ↓oE, ↓oNo, ↓xLs, ↓xExt, ↓iZp, hl, k2, m1, m2, and_self, hn, q, hv, hlv, hset, mAppend, hap, beq_self_eq_true, h3, nocels_i, Option.isSome_some]
    · have q2 : (((I - h0) * s - x) % n == 0) = false := by simpa using q
      simp only [↓xDef, ↓xSeq, ↓xDo, ↓xNext, ↓xRet, ↓xExp, ↓xIfS, ↓xAsg, ↓gN, ↓gT, ↓gsC, ↓gsN, ↓xV, ↓S.val, ↓S.bind, ↓S.opt, ↓x2, ↓x1, ↓xN, ↓xB, ↓xD, ↓xAnd, ↓xOr, ↓xNot, ↓xIf, ↓xAndV, ↓xOrV, ↓xNotV, ↓xChain, ↓aNil, ↓aCons, ↓xTup, ↓few, ↓xF, ↓xC, ↓xSetI, ↓xPar, ↓xCall, ↓xFrz, ↓xM, live, i2, dSub, dAdd, dMul, dMulA, dMod, dDiv, dLt, dLe, dGt, dGe, dIx, at10, at20, at21, at30, at31, at32, cst0, cst1, cst2, cst3, dNeg, dAbs, dInt, dLen, dMin2, dMax2, dGcd, dTuple, ↓iR1, ↓iR2, ↓iV, items, ↓iEn, items1, nocel, nocels, List.map_cons, List.map_nil, List.getElem?_cons_zero, List.getElem?_cons_succ, List.getElem?_nil, List.set_cons_zero, List.set_cons_succ, List.length_cons, List.length_nil, List.replicate, List.cons_append, List.nil_append, Nat.reduceAdd, Nat.reduceSub, Bool.false_eq_true, if_true, if_false, Option.map_some, Option.bind_some, Option.bind_none, Bool.and_true, Bool.and_false, Bool.true_and, Bool.not_true, Bool.not_false, decide_true, decide_false, vw_n, vw_b, vw_i, vw_s, vw_u, vw_l, vw_o, ie_n, ie_b, ie_i, ie_s, ie_u, ie_l, ie_c, x10, x20, x21, x30, x31, x32, fin_b, fin_i, eq_ii, ne_ii, List.take_length, vw_k, ie_k, id_eq, Nat.reduceLeDiff, ↓xSl, ↓xAugI, ↓oE, ↓oNo, ↓xLs, ↓xExt, ↓iZp, m1, m2, and_self, hn, q2]
theorem law_grown {n s x : Int} {hs : List Int} (h : Hg 60 hs) (hn : 0 < n) (hs0 : s.natAbs < 2 ^ 100) (C : Cells) : m__law_grown [iT hs, .tup [.int n, .int s], .int x] C = some (.ok (iT (grow n s x hs)) C) := by
  have hl := h.len
  obtain ⟨e2, C2, g1, t4, t7, t8, e1, e3⟩ := lp_P (t := gN 4) (b := q1__law_grown) (fun i : Nat => D.int (i : Nat)) (stepG n s x hs)
    (fun F e C' => ∃ t4 t7 t8 : Option D, e = [some (iT hs), some (.tup [.int n, .int s]), some (.int x), some (.cel C.length), t4, some (.int n), some (.int s), t7, t8] ∧ C' = C ++ [some (.l (F.map D.int))])
    (List.range (hs.length + 1)) hs [some (iT hs), some (.tup [.int n, .int s]), some (.int x), some (.cel C.length), none, some (.int n), some (.int s), none, none] (C ++ [some (.l (hs.map D.int))]) ⟨none, none, none, rfl, rfl⟩ fun pre i post e C' hx ⟨t4, t7, t8, e1, e2⟩ => by
      subst e1
      subst e2
      obtain ⟨rfl, hi⟩ := range_split hx
      obtain ⟨t7', t8', g⟩ := grown_turn (F := (List.range i).foldl (stepG n s x hs) hs) (i := i) (x := x) h (by rw [fold_grow i (by omega)]; simp; omega) (by omega) hn hs0 (C := C) (t7 := t7) (t8 := t8)
      exact ⟨_, rfl, _, _, g, some (.int i), t7', t8', rfl, rfl⟩
  subst e1
  subst e3
  rw [fold_all] at g1
  have hr := rng1_Z (z := ((hs.map D.int).length : Int) + 1) (by omega) (by rw [List.length_map]; omega)
  have e : (((hs.map D.int).length : Int) + 1).toNat = hs.length + 1 := by rw [List.length_map]; omega
  rw [e] at hr
  have hq : q2__law_grown [some (iT hs), some (.tup [.int n, .int s]), some (.int x), some (.cel C.length), none, some (.int n), some (.int s), none, none] (C ++ [some (.l (hs.map D.int))]) = some (.nx [some (iT hs), some (.tup [.int n, .int s]), some (.int x), some (.cel C.length), t4, some (.int n), some (.int s), t7, t8] (C ++ [some (.l ((grow n s x hs).map D.int))])) := by
    unfold q2__law_grown
    refine (xFor_ok (ds := (List.range (hs.length + 1)).map fun i : Nat => D.int (i : Nat)) (g := gd0) (C1 := C ++ [some (.l (hs.map D.int))]) ?_).trans g1
    obtain ⟨L, hL⟩ : ∃ L : Int, ((hs.map D.int).length : Int) = L := ⟨_, rfl⟩
    rw [hL] at hr
    simp only [↓xDef, ↓xSeq, ↓xDo, ↓xNext, ↓xRet, ↓xExp, ↓xIfS, ↓xAsg, ↓gN, ↓gT, ↓gsC, ↓gsN, ↓xV, ↓S.val, ↓S.bind, ↓S.opt, ↓x2, ↓x1, ↓xN, ↓xB, ↓xD, ↓xAnd, ↓xOr, ↓xNot, ↓xIf, ↓xAndV, ↓xOrV, ↓xNotV, ↓xChain, ↓aNil, ↓aCons, ↓xTup, ↓few, ↓xF, ↓xC, ↓xSetI, ↓xPar, ↓xCall, ↓xFrz, ↓xM, live, i2, dSub, dAdd, dMul, dMulA, dMod, dDiv, dLt, dLe, dGt, dGe, dIx, at10, at20, at21, at30, at31, at32, cst0, cst1, cst2, cst3, dNeg, dAbs, dInt, dLen, dMin2, dMax2, dGcd, dTuple, ↓iR1, ↓iR2, ↓iV, items, ↓iEn, items1, nocel, nocels, List.map_cons, List.map_nil, List.getElem?_cons_zero, List.getElem?_cons_succ, List.getElem?_nil, List.set_cons_zero, List.set_cons_succ, List.length_cons, List.length_nil, List.replicate, List.cons_append, List.nil_append, Nat.reduceAdd, Nat.reduceSub, Bool.false_eq_true, if_true, if_false, Option.map_some, Option.bind_some, Option.bind_none, Bool.and_true, Bool.and_false, Bool.true_and, Bool.not_true, Bool.not_false, decide_true, decide_false, vw_n, vw_b, vw_i, vw_s, vw_u, vw_l, vw_o, ie_n, ie_b, ie_i, ie_s, ie_u, ie_l, ie_c, x10, x20, x21, x30, x31, x32, fin_b, fin_i, eq_ii, ne_ii, List.take_length, vw_k, ie_k, id_eq, Nat.reduceLeDiff, ↓xSl, ↓xAugI, ↓oE, ↓oNo, ↓xLs, ↓xExt, ↓iZp, hL, hr]
  have hv : vw (C ++ [some (.l ((grow n s x hs).map D.int))]) (.cel C.length) = .lst ((grow n s x hs).map D.int) := vw_c (by simp)
  have hf : fin C.length (iT (grow n s x hs)) (C ++ [some (.l ((grow n s x hs).map D.int))]) = some (.ok (iT (grow n s x hs)) C) := by
    rw [fin_n (show nocel (iT _) = true from nocels_i _), List.take_left]
  unfold m__law_grown b__law_grown
  simp only [↓xDef, ↓xSeq, ↓xDo, ↓xNext, ↓xRet, ↓xExp, ↓xIfS, ↓xAsg, ↓gN, ↓gT, ↓gsC, ↓gsN, ↓xV, ↓S.val, ↓S.bind, ↓S.opt, ↓x2, ↓x1, ↓xN, ↓xB, ↓xD, ↓xAnd, ↓xOr, ↓xNot, ↓xIf, ↓xAndV, ↓xOrV, ↓xNotV, ↓xChain, ↓aNil, ↓aCons, ↓xTup, ↓few, ↓xF, ↓xC, ↓xSetI, ↓xPar, ↓xCall, ↓xFrz, ↓xM, live, i2, dSub, dAdd, dMul, dMulA, dMod, dDiv, dLt, dLe, dGt, dGe, dIx, at10, at20, at21, at30, at31, at32, cst0, cst1, cst2, cst3, dNeg, dAbs, dInt, dLen, dMin2, dMax2, dGcd, dTuple, ↓iR1, ↓iR2, ↓iV, items, ↓iEn, items1, nocel, nocels, List.map_cons, List.map_nil, List.getElem?_cons_zero, List.getElem?_cons_succ, List.getElem?_nil, List.set_cons_zero, List.set_cons_succ, List.length_cons, List.length_nil, List.replicate, List.cons_append, List.nil_append, Nat.reduceAdd, Nat.reduceSub, Bool.false_eq_true, if_true, if_false, Option.map_some, Option.bind_some, Option.bind_none, Bool.and_true, Bool.and_false, Bool.true_and, Bool.not_true, Bool.not_false, decide_true, decide_false, vw_n, vw_b, vw_i, vw_s, vw_u, vw_l, vw_o, ie_n, ie_b, ie_i, ie_s, ie_u, ie_l, ie_c, x10, x20, x21, x30, x31, x32, fin_b, fin_i, eq_ii, ne_ii, List.take_length, vw_k, ie_k, id_eq, Nat.reduceLeDiff, ↓xSl, ↓xAugI, ↓oE, ↓oNo, ↓xLs, ↓xExt, ↓iZp, hq, hv, hf, lsOf, nocels_i]

end Sk15
end
section
set_option maxRecDepth 100000
set_option maxHeartbeats 0
set_option exponentiation.threshold 1000000
namespace Sk15
open PySem L2 Sm
theorem Dc.app {C : Cells} {n j : Nat} (h : Dc C n j) (x : Option Ob) : Dc (C ++ [x]) n j := by
  obtain ⟨a, b, c, h1, h2⟩ := h
  refine ⟨a, b, c, ?_, h2⟩
  rw [List.getElem?_append_left (List.getElem?_eq_some_iff.mp h1).1]
  exact h1
theorem Dc.cong {C C' : Cells} {n j : Nat} (e : C'[n]? = C[n]?) (h : Dc C n j) : Dc C' n j := by
  obtain ⟨a, b, c, h1, h2⟩ := h
  exact ⟨a, b, c, e.trans h1, h2⟩
theorem gdC_ok {C : Cells} {n : Nat} {ds : List D} (h : C[n]? = some (some (.l ds))) : gdC n ds C = true := by
  unfold gdC
  simp only [h, deqs_self]
theorem ints_of {B : Int} : ∀ {ds : List D}, (∀ d ∈ ds, ∃ i, d = .int i ∧ 0 ≤ i ∧ i < B) → ∃ ns : List Int, ds = ns.map D.int ∧ ∀ i ∈ ns, 0 ≤ i ∧ i < B
  | [], _ => ⟨[], rfl, fun i hi => by cases hi⟩
  | d :: ds, h => by
    obtain ⟨ns, rfl, h1⟩ := ints_of fun d' hd' => h d' (List.mem_cons_of_mem _ hd')
    obtain ⟨i, rfl, h2⟩ := h d List.mem_cons_self
    exact ⟨i :: ns, rfl, fun z hz => by
      rcases List.mem_cons.mp hz with rfl | hz
      · exact h2
      · exact h1 z hz⟩
theorem hg_nil : Hg 0 [] := ⟨Nat.le_refl _, fun i hi => absurd hi (Nat.not_lt_zero _), fun i hi => absurd hi (Nat.not_lt_zero _)⟩
theorem at_i {ns : List Int} {i : Nat} (h : i < ns.length) : atI (ns.map D.int) (i : Int) = some (.int (ns.getD i 0)) := ix_T h
theorem getD_set {hs : List Int} {i j : Nat} {v : Int} (hi : i < hs.length) : (hs.set i v).getD j 0 = if i = j then v else hs.getD j 0 := by
  rw [List.getD_eq_getElem?_getD, List.getElem?_set, List.getD_eq_getElem?_getD]
  by_cases q : i = j
  · subst q; simp [hi]
  · simp [q]
theorem hg_raise {k : Nat} {hs : List Int} {i : Nat} (h : Hg k hs) (hi : i < hs.length) (hr : i = 0 ∨ hs.getD i 0 < hs.getD (i - 1) 0) : Hg (k + 1) (hs.set i (hs.getD i 0 + 1)) := by
  have hl := h.len
  refine ⟨by rw [List.length_set]; omega, fun j hj => ?_, fun j hj => ?_⟩
  · rw [List.length_set] at hj
    rw [getD_set hi]
    have := h.rng j hj
    split
    · rename_i e; subst e; omega
    · omega
  · rw [List.length_set] at hj
    rw [getD_set hi, getD_set hi]
    have h3 := h.fall j hj
    by_cases q1 : i = j + 1
    · subst q1
      simp only [Nat.add_sub_cancel] at hr
      rw [if_pos rfl, if_neg (by omega)]
      omega
    · rw [if_neg q1]
      split
      · rename_i e; subst e; omega
      · exact h3
theorem getD_drop_cat {hs : List Int} {i j : Nat} (hi : i < hs.length) : (hs.take i ++ hs.drop (i + 1)).getD j 0 = if j < i then hs.getD j 0 else hs.getD (j + 1) 0 := by
  rw [List.getD_eq_getElem?_getD]
  by_cases q : j < i
  · rw [List.getElem?_append_left (by rw [List.length_take]; omega), List.getElem?_take, if_pos q, if_pos q, List.getD_eq_getElem?_getD]
  · rw [List.getElem?_append_right (by rw [List.length_take]; omega), List.getElem?_drop, if_neg q, List.getD_eq_getElem?_getD, List.length_take, Nat.min_eq_left (by omega)]
    congr 2
    omega
theorem hg_drop {k : Nat} {hs : List Int} {i : Nat} (h : Hg k hs) (hi : i < hs.length) : Hg k (hs.take i ++ hs.drop (i + 1)) := by
  have hl := h.len
  have e : (hs.take i ++ hs.drop (i + 1)).length = hs.length - 1 := by rw [List.length_append, List.length_take, List.length_drop]; omega
  refine ⟨by omega, fun j hj => ?_, fun j hj => ?_⟩
  · rw [getD_drop_cat hi]
    split
    · exact h.rng j (by omega)
    · exact h.rng (j + 1) (by omega)
  · rw [getD_drop_cat hi, getD_drop_cat hi]
    split <;> split
    · exact h.fall j (by omega)
    · omega
    · exact h.le (by omega) (by omega)
    · exact h.fall (j + 1) (by omega)

end Sk15
end
section
set_option maxRecDepth 100000
set_option maxHeartbeats 0
set_option exponentiation.threshold 1000000
namespace Sk15
open PySem L2 Sm
theorem Tv.snoc : ∀ {cs : Ch} {xs : List Int} {c : Int × Int} {x : Int}, Tv cs xs → 0 ≤ x → x < c.1 → Tv (cs ++ [c]) (xs ++ [x])
  | [], [], _, _, _, h0, h1 => ⟨⟨h0, h1⟩, trivial⟩
  | _ :: _, _ :: _, _, _, h, h0, h1 => ⟨h.1, Tv.snoc h.2 h0 h1⟩
  | [], _ :: _, _, _, h, _, _ => h.elim
  | _ :: _, [], _, _, h, _, _ => h.elim
def stepH (h : List Int) (p : (Int × Int) × Int) : List Int := grow p.1.1 p.1.2 p.2 h
/-- the heap of a tuple -/
def heapF (cs : Ch) (xs : List Int) : List Int := (cs.zip xs).foldl stepH []
theorem hg_fold : ∀ (ps : List ((Int × Int) × Int)) {k : Nat} {h : List Int}, Hg k h → Hg (k + ps.length) (ps.foldl stepH h)
  | [], _, _, h => h
  | p :: ps, k, h, hh => by
    rw [List.foldl_cons, List.length_cons, show k + (ps.length + 1) = k + 1 + ps.length by omega]
    exact hg_fold ps (hg_grow hh _ _ _)
theorem hg_heapF {cs : Ch} {xs : List Int} (h : Tv cs xs) : Hg cs.length (heapF cs xs) := by
  have := hg_fold (cs.zip xs) hg_nil
  rw [List.length_zip, h.len, Nat.min_self, Nat.zero_add] at this
  exact this
theorem tuple_drawn {cs : Ch} (hv : Cv cs) (hl : cs.length ≤ 1000) {C : Cells} {N k : Nat} (D0 : Dc C N k) (hk : k ≤ 800000) :
    ∃ xs C', m__law_tuple [.cel N, chD cs] C = some (.ok (iT xs) C') ∧ Tv cs xs ∧ C'.length = C.length ∧ Dc C' N (k + 2 * cs.length) := by
  have hN := D0.lt
  obtain ⟨e2, C2, g1, xs, t3, t4, rfl, hT, hc, hlen, D2⟩ := lp_pre (t := gT (gsC (gN 3) (gsC (gN 4) gsN))) (b := q1__law_tuple) rd
    (fun pre e C' => ∃ (xs : List Int) (t3 t4 : Option D), e = [some (.cel N), some (chD cs), some (.cel C.length), t3, t4] ∧ Tv pre xs ∧ C'[C.length]? = some (some (.l (xs.map D.int))) ∧ C'.length = C.length + 1 ∧ Dc C' N (k + 2 * pre.length))
    cs [some (.cel N), some (chD cs), some (.cel C.length), none, none] (C ++ [some (.l [])]) ⟨[], none, none, rfl, trivial, by simp, by simp, D0.app _⟩ fun pre c post e C' hx ⟨xs, t3, t4, he, hT, hc, hlen, D1⟩ => by
      subst he
      have hpl : pre.length < cs.length := by rw [hx]; simp
      obtain ⟨c1, c2, c3, c4⟩ := hv c (by rw [hx]; simp)
      obtain ⟨n, s⟩ := c
      dsimp only at c1 c2 c3 c4
      obtain ⟨w, C3, e3, w0, w1, l3, D3, f3⟩ := roll_fr (z := 4) D1 (by omega) (by decide) (by decide)
      have hxl := hT.len
      have hfn : ∀ (x : Int) (C5 : Cells), 0 ≤ x → x < n → C5.length = C.length + 1 → C5[C.length]? = some (some (.l (xs.map D.int))) → Dc C5 N (k + 2 * (pre.length + 1)) →
          Tv (pre ++ [(n, s)]) (xs ++ [x]) ∧ (C5.set C.length (some (.l ((xs ++ [x]).map D.int))))[C.length]? = some (some (.l ((xs ++ [x]).map D.int))) ∧ (C5.set C.length (some (.l ((xs ++ [x]).map D.int)))).length = C.length + 1 ∧ Dc (C5.set C.length (some (.l ((xs ++ [x]).map D.int)))) N (k + 2 * (pre ++ [(n, s)]).length) := fun x C5 x0 x1 h1 h2 h3 => by
        refine ⟨hT.snoc x0 x1, List.getElem?_set_self (by omega), by rw [List.length_set]; exact h1, ?_⟩
        rw [List.length_append]
        exact h3.cong (List.getElem?_set_ne (by omega))
      have hc3 : C3[C.length]? = some (some (.l (xs.map D.int))) := by rw [f3 _ (by omega)]; exact hc
      have hap : ∀ x : Int, xs.map D.int ++ [D.int x] = (xs ++ [x]).map D.int := fun x => by simp
      have hle : (xs.map D.int).length < 1000000 := by rw [List.length_map]; omega
      by_cases q : w = 0
      · subst q
        obtain ⟨x, C4, e4, x0, x1, l4, D4, f4⟩ := roll_fr (z := n) D3 (by omega) (by omega) (by omega)
        have hc4 : C4[C.length]? = some (some (.l (xs.map D.int))) := by rw [f4 _ (by omega)]; exact hc3
        refine ⟨[some (.cel N), some (chD cs), some (.cel C.length), some (.int n), some (.int s)], rfl, [some (.cel N), some (chD cs), some (.cel C.length), some (.int n), some (.int s)], C4.set C.length (some (.l ((xs ++ [x]).map D.int))), ?_, _, _, _, rfl, hfn x C4 x0 x1 (by omega) hc4 (D4.mono (by omega))⟩
        unfold q1__law_tuple
        simp only [↓xDef, ↓xSeq, ↓xDo, ↓xNext, ↓xRet, ↓xExp, ↓xIfS, ↓xAsg, ↓gN, ↓gT, ↓gsC, ↓gsN, ↓xV, ↓S.val, ↓S.bind, ↓S.opt, ↓x2, ↓x1, ↓xN, ↓xB, ↓xD, ↓xAnd, ↓xOr, ↓xNot, ↓xIf, ↓xAndV, ↓xOrV, ↓xNotV, ↓xChain, ↓aNil, ↓aCons, ↓xTup, ↓few, ↓xF, ↓xC, ↓xSetI, ↓xPar, ↓xCall, ↓xFrz, ↓xM, live, i2, dSub, dAdd, dMul, dMulA, dMod, dDiv, dLt, dLe, dGt, dGe, dIx, at10, at20, at21, at30, at31, at32, cst0, cst1, cst2, cst3, dNeg, dAbs, dInt, dLen, dMin2, dMax2, dGcd, dTuple, ↓iR1, ↓iR2, ↓iV, items, ↓iEn, items1, nocel, nocels, List.map_cons, List.map_nil, List.getElem?_cons_zero, List.getElem?_cons_succ, List.getElem?_nil, List.set_cons_zero, List.set_cons_succ, List.length_cons, List.length_nil, List.replicate, List.cons_append, List.nil_append, Nat.reduceAdd, Nat.reduceSub, Bool.false_eq_true, if_true, if_false, Option.map_some, Option.bind_some, Option.bind_none, Bool.and_true, Bool.and_false, Bool.true_and, Bool.not_true, Bool.not_false, decide_true, decide_false, vw_n, vw_b, vw_i, vw_s, vw_u, vw_l, vw_o, ie_n, ie_b, ie_i, ie_s, ie_u, ie_l, ie_c, x10, x20, x21, x30, x31, x32, fin_b, fin_i, eq_ii, ne_ii, List.take_length, vw_k, ie_k, id_eq, Nat.reduceLeDiff, ↓xSl, ↓xAugI, ↓oE, ↓oNo, ↓xLs, ↓xExt, ↓iZp, e3, e4, hc, hc4, mAppend, hap, hle, nocels_i, beq_self_eq_true, Option.isSome_some]
      · have q2 : (w == 0) = false := by simpa using q
        obtain ⟨u, C4, e4, u0, u1, l4, D4, f4⟩ := roll_fr (z := 5) D3 (by omega) (by decide) (by decide)
        have hc4 : C4[C.length]? = some (some (.l (xs.map D.int))) := by rw [f4 _ (by omega)]; exact hc3
        have x0 : 0 ≤ (u - 2) * s % n := Int.emod_nonneg _ (by omega)
        have x1 : (u - 2) * s % n < n := Int.emod_lt_of_pos _ (by omega)
        have m1 : (u - 2).natAbs < 2 ^ 400000 := Nat.lt_of_lt_of_le (m := 2 ^ 10) (by omega) (Nat.pow_le_pow_right (by decide) (by decide))
        have m2 : s.natAbs < 2 ^ 400000 := Nat.lt_of_lt_of_le (m := 2 ^ 10) (by omega) (Nat.pow_le_pow_right (by decide) (by decide))
        have n0 : 0 < n := by omega
        refine ⟨[some (.cel N), some (chD cs), some (.cel C.length), some (.int n), some (.int s)], rfl, [some (.cel N), some (chD cs), some (.cel C.length), some (.int n), some (.int s)], C4.set C.length (some (.l ((xs ++ [(u - 2) * s % n]).map D.int))), ?_, _, _, _, rfl, hfn _ C4 x0 x1 (by omega) hc4 (D4.mono (by omega))⟩
        unfold q1__law_tuple
        simp only [↓xDef, ↓xSeq, ↓xDo, ↓xNext, ↓xRet, ↓xExp, ↓xIfS, ↓xAsg, ↓gN, ↓gT, ↓gsC, ↓gsN, ↓xV, ↓S.val, ↓S.bind, ↓S.opt, ↓x2, ↓x1, ↓xN, ↓xB, ↓xD, ↓xAnd, ↓xOr, ↓xNot, ↓xIf, ↓xAndV, ↓xOrV, ↓xNotV, ↓xChain, ↓aNil, ↓aCons, ↓xTup, ↓few, ↓xF, ↓xC, ↓xSetI, ↓xPar, ↓xCall, ↓xFrz, ↓xM, live, i2, dSub, dAdd, dMul, dMulA, dMod, dDiv, dLt, dLe, dGt, dGe, dIx, at10, at20, at21, at30, at31, at32, cst0, cst1, cst2, cst3, dNeg, dAbs, dInt, dLen, dMin2, dMax2, dGcd, dTuple, ↓iR1, ↓iR2, ↓iV, items, ↓iEn, items1, nocel, nocels, List.map_cons, List.map_nil, List.getElem?_cons_zero, List.getElem?_cons_succ, List.getElem?_nil, List.set_cons_zero, List.set_cons_succ, List.length_cons, List.length_nil, List.replicate, List.cons_append, List.nil_append, Nat.reduceAdd, Nat.reduceSub, Bool.false_eq_true, if_true, if_false, Option.map_some, Option.bind_some, Option.bind_none, Bool.and_true, Bool.and_false, Bool.true_and, Bool.not_true, Bool.not_false, decide_true, decide_false, vw_n, vw_b, vw_i, vw_s, vw_u, vw_l, vw_o, ie_n, ie_b, ie_i, ie_s, ie_u, ie_l, ie_c, x10, x20, x21, x30, x31, x32, fin_b, fin_i, eq_ii, ne_ii, List.take_length, vw_k, ie_k, id_eq, Nat.reduceLeDiff, ↓xSl, ↓xAugI, ↓oE, ↓oNo, ↓xLs, ↓xExt, ↓iZp, e3, e4, hc, hc4, q2, m1, m2, n0, mAppend, hap, hle, nocels_i, Option.isSome_some, and_self]
  refine ⟨xs, C2.take C.length, ?_, hT, by rw [List.length_take]; omega, D2.cong (by rw [List.getElem?_take, if_pos (by omega)])⟩
  have hq : q2__law_tuple [some (.cel N), some (chD cs), some (.cel C.length), none, none] (C ++ [some (.l [])]) = some (.nx [some (.cel N), some (chD cs), some (.cel C.length), t3, t4] C2) := by
    unfold q2__law_tuple
    refine (xFor_ok (ds := cs.map rd) (g := gd0) (C1 := C ++ [some (.l [])]) ?_).trans g1
    unfold chD
    simp only [↓xDef, ↓xSeq, ↓xDo, ↓xNext, ↓xRet, ↓xExp, ↓xIfS, ↓xAsg, ↓gN, ↓gT, ↓gsC, ↓gsN, ↓xV, ↓S.val, ↓S.bind, ↓S.opt, ↓x2, ↓x1, ↓xN, ↓xB, ↓xD, ↓xAnd, ↓xOr, ↓xNot, ↓xIf, ↓xAndV, ↓xOrV, ↓xNotV, ↓xChain, ↓aNil, ↓aCons, ↓xTup, ↓few, ↓xF, ↓xC, ↓xSetI, ↓xPar, ↓xCall, ↓xFrz, ↓xM, live, i2, dSub, dAdd, dMul, dMulA, dMod, dDiv, dLt, dLe, dGt, dGe, dIx, at10, at20, at21, at30, at31, at32, cst0, cst1, cst2, cst3, dNeg, dAbs, dInt, dLen, dMin2, dMax2, dGcd, dTuple, ↓iR1, ↓iR2, ↓iV, items, ↓iEn, items1, nocel, nocels, List.map_cons, List.map_nil, List.getElem?_cons_zero, List.getElem?_cons_succ, List.getElem?_nil, List.set_cons_zero, List.set_cons_succ, List.length_cons, List.length_nil, List.replicate, List.cons_append, List.nil_append, Nat.reduceAdd, Nat.reduceSub, Bool.false_eq_true, if_true, if_false, Option.map_some, Option.bind_some, Option.bind_none, Bool.and_true, Bool.and_false, Bool.true_and, Bool.not_true, Bool.not_false, decide_true, decide_false, vw_n, vw_b, vw_i, vw_s, vw_u, vw_l, vw_o, ie_n, ie_b, ie_i, ie_s, ie_u, ie_l, ie_c, x10, x20, x21, x30, x31, x32, fin_b, fin_i, eq_ii, ne_ii, List.take_length, vw_k, ie_k, id_eq, Nat.reduceLeDiff, ↓xSl, ↓xAugI, ↓oE, ↓oNo, ↓xLs, ↓xExt, ↓iZp]
  have hv2 := vw_c hc
  have hf : fin C.length (iT xs) C2 = some (.ok (iT xs) (C2.take C.length)) := fin_n (show nocel (iT _) = true from nocels_i _)
  have hec := ie_ch cs
  unfold m__law_tuple b__law_tuple
  simp only [↓xDef, ↓xSeq, ↓xDo, ↓xNext, ↓xRet, ↓xExp, ↓xIfS, ↓xAsg, ↓gN, ↓gT, ↓gsC, ↓gsN, ↓xV, ↓S.val, ↓S.bind, ↓S.opt, ↓x2, ↓x1, ↓xN, ↓xB, ↓xD, ↓xAnd, ↓xOr, ↓xNot, ↓xIf, ↓xAndV, ↓xOrV, ↓xNotV, ↓xChain, ↓aNil, ↓aCons, ↓xTup, ↓few, ↓xF, ↓xC, ↓xSetI, ↓xPar, ↓xCall, ↓xFrz, ↓xM, live, i2, dSub, dAdd, dMul, dMulA, dMod, dDiv, dLt, dLe, dGt, dGe, dIx, at10, at20, at21, at30, at31, at32, cst0, cst1, cst2, cst3, dNeg, dAbs, dInt, dLen, dMin2, dMax2, dGcd, dTuple, ↓iR1, ↓iR2, ↓iV, items, ↓iEn, items1, nocel, nocels, List.map_cons, List.map_nil, List.getElem?_cons_zero, List.getElem?_cons_succ, List.getElem?_nil, List.set_cons_zero, List.set_cons_succ, List.length_cons, List.length_nil, List.replicate, List.cons_append, List.nil_append, Nat.reduceAdd, Nat.reduceSub, Bool.false_eq_true, if_true, if_false, Option.map_some, Option.bind_some, Option.bind_none, Bool.and_true, Bool.and_false, Bool.true_and, Bool.not_true, Bool.not_false, decide_true, decide_false, vw_n, vw_b, vw_i, vw_s, vw_u, vw_l, vw_o, ie_n, ie_b, ie_i, ie_s, ie_u, ie_l, ie_c, x10, x20, x21, x30, x31, x32, fin_b, fin_i, eq_ii, ne_ii, List.take_length, vw_k, ie_k, id_eq, Nat.reduceLeDiff, ↓xSl, ↓xAugI, ↓oE, ↓oNo, ↓xLs, ↓xExt, ↓iZp, hec, hq, hv2, hf]
theorem law_heap {cs : Ch} {xs : List Int} (hv : Cv cs) (h : Tv cs xs) (hl : cs.length ≤ 60) (C : Cells) : m__law_heap [chD cs, iT xs] C = some (.ok (iT (heapF cs xs)) C) := by
  obtain ⟨e2, C2, g1, t3, t4, rfl, rfl⟩ := lp_pre (t := gT (gsC (gN 3) (gsC (gN 4) gsN))) (b := q1__law_heap) (fun p : (Int × Int) × Int => .tup [rd p.1, .int p.2])
    (fun pre e C' => ∃ (t3 t4 : Option D), e = [some (chD cs), some (iT xs), some (iT (pre.foldl stepH [])), t3, t4] ∧ C' = C)
    (cs.zip xs) [some (chD cs), some (iT xs), some (iT []), none, none] C ⟨none, none, rfl, rfl⟩ fun pre p post e C' hx ⟨t3, t4, he, hC⟩ => by
      subst he hC
      have hpl : pre.length < (cs.zip xs).length := by rw [hx]; simp
      rw [List.length_zip] at hpl
      obtain ⟨k1, k2, k3⟩ := h.zip p (by rw [hx]; simp)
      obtain ⟨c1, c2, c3, c4⟩ := hv _ k1
      have hg := hg_fold pre hg_nil
      obtain ⟨⟨n, s⟩, x⟩ := p
      dsimp only at c1 c2 c3 c4
      have e := law_grown (n := n) (s := s) (x := x) (hg.mono (show 0 + pre.length ≤ 60 by omega)) (by omega) (by omega) C'
      refine ⟨[some (chD cs), some (iT xs), some (iT (pre.foldl stepH [])), some (rd (n, s)), some (.int x)], rfl, [some (chD cs), some (iT xs), some (iT (grow n s x (pre.foldl stepH []))), some (rd (n, s)), some (.int x)], C', ?_, some (rd (n, s)), some (.int x), ?_, rfl⟩
      · unfold q1__law_heap rd
        simp only [↓xDef, ↓xSeq, ↓xDo, ↓xNext, ↓xRet, ↓xExp, ↓xIfS, ↓xAsg, ↓gN, ↓gT, ↓gsC, ↓gsN, ↓xV, ↓S.val, ↓S.bind, ↓S.opt, ↓x2, ↓x1, ↓xN, ↓xB, ↓xD, ↓xAnd, ↓xOr, ↓xNot, ↓xIf, ↓xAndV, ↓xOrV, ↓xNotV, ↓xChain, ↓aNil, ↓aCons, ↓xTup, ↓few, ↓xF, ↓xC, ↓xSetI, ↓xPar, ↓xCall, ↓xFrz, ↓xM, live, i2, dSub, dAdd, dMul, dMulA, dMod, dDiv, dLt, dLe, dGt, dGe, dIx, at10, at20, at21, at30, at31, at32, cst0, cst1, cst2, cst3, dNeg, dAbs, dInt, dLen, dMin2, dMax2, dGcd, dTuple, ↓iR1, ↓iR2, ↓iV, items, ↓iEn, items1, nocel, nocels, List.map_cons, List.map_nil, List.getElem?_cons_zero, List.getElem?_cons_succ, List.getElem?_nil, List.set_cons_zero, List.set_cons_succ, List.length_cons, List.length_nil, List.replicate, List.cons_append, List.nil_append, Nat.reduceAdd, Nat.reduceSub, Bool.false_eq_true, if_true, if_false, Option.map_some, Option.bind_some, Option.bind_none, Bool.and_true, Bool.and_false, Bool.true_and, Bool.not_true, Bool.not_false, decide_true, decide_false, vw_n, vw_b, vw_i, vw_s, vw_u, vw_l, vw_o, ie_n, ie_b, ie_i, ie_s, ie_u, ie_l, ie_c, x10, x20, x21, x30, x31, x32, fin_b, fin_i, eq_ii, ne_ii, List.take_length, vw_k, ie_k, id_eq, Nat.reduceLeDiff, ↓xSl, ↓xAugI, ↓oE, ↓oNo, ↓xLs, ↓xExt, ↓iZp, e]
      · rw [List.foldl_append]
        rfl
  have hq : q2__law_heap [some (chD cs), some (iT xs), some (.tup []), none, none] C2 = some (.nx [some (chD cs), some (iT xs), some (iT (heapF cs xs)), t3, t4] C2) := by
    unfold q2__law_heap
    refine (xFor_ok (ds := (cs.zip xs).map fun p : (Int × Int) × Int => .tup [rd p.1, .int p.2]) (g := gd0) (C1 := C2) ?_).trans g1
    unfold chD
    simp only [↓xDef, ↓xSeq, ↓xDo, ↓xNext, ↓xRet, ↓xExp, ↓xIfS, ↓xAsg, ↓gN, ↓gT, ↓gsC, ↓gsN, ↓xV, ↓S.val, ↓S.bind, ↓S.opt, ↓x2, ↓x1, ↓xN, ↓xB, ↓xD, ↓xAnd, ↓xOr, ↓xNot, ↓xIf, ↓xAndV, ↓xOrV, ↓xNotV, ↓xChain, ↓aNil, ↓aCons, ↓xTup, ↓few, ↓xF, ↓xC, ↓xSetI, ↓xPar, ↓xCall, ↓xFrz, ↓xM, live, i2, dSub, dAdd, dMul, dMulA, dMod, dDiv, dLt, dLe, dGt, dGe, dIx, at10, at20, at21, at30, at31, at32, cst0, cst1, cst2, cst3, dNeg, dAbs, dInt, dLen, dMin2, dMax2, dGcd, dTuple, ↓iR1, ↓iR2, ↓iV, items, ↓iEn, items1, nocel, nocels, List.map_cons, List.map_nil, List.getElem?_cons_zero, List.getElem?_cons_succ, List.getElem?_nil, List.set_cons_zero, List.set_cons_succ, List.length_cons, List.length_nil, List.replicate, List.cons_append, List.nil_append, Nat.reduceAdd, Nat.reduceSub, Bool.false_eq_true, if_true, if_false, Option.map_some, Option.bind_some, Option.bind_none, Bool.and_true, Bool.and_false, Bool.true_and, Bool.not_true, Bool.not_false, decide_true, decide_false, vw_n, vw_b, vw_i, vw_s, vw_u, vw_l, vw_o, ie_n, ie_b, ie_i, ie_s, ie_u, ie_l, ie_c, x10, x20, x21, x30, x31, x32, fin_b, fin_i, eq_ii, ne_ii, List.take_length, vw_k, ie_k, id_eq, Nat.reduceLeDiff, ↓xSl, ↓xAugI, ↓oE, ↓oNo, ↓xLs, ↓xExt, ↓iZp, zips, prs_map2]
  have hec := ie_ch cs
  unfold m__law_heap b__law_heap
  simp only [↓xDef, ↓xSeq, ↓xDo, ↓xNext, ↓xRet, ↓xExp, ↓xIfS, ↓xAsg, ↓gN, ↓gT, ↓gsC, ↓gsN, ↓xV, ↓S.val, ↓S.bind, ↓S.opt, ↓x2, ↓x1, ↓xN, ↓xB, ↓xD, ↓xAnd, ↓xOr, ↓xNot, ↓xIf, ↓xAndV, ↓xOrV, ↓xNotV, ↓xChain, ↓aNil, ↓aCons, ↓xTup, ↓few, ↓xF, ↓xC, ↓xSetI, ↓xPar, ↓xCall, ↓xFrz, ↓xM, live, i2, dSub, dAdd, dMul, dMulA, dMod, dDiv, dLt, dLe, dGt, dGe, dIx, at10, at20, at21, at30, at31, at32, cst0, cst1, cst2, cst3, dNeg, dAbs, dInt, dLen, dMin2, dMax2, dGcd, dTuple, ↓iR1, ↓iR2, ↓iV, items, ↓iEn, items1, nocel, nocels, List.map_cons, List.map_nil, List.getElem?_cons_zero, List.getElem?_cons_succ, List.getElem?_nil, List.set_cons_zero, List.set_cons_succ, List.length_cons, List.length_nil, List.replicate, List.cons_append, List.nil_append, Nat.reduceAdd, Nat.reduceSub, Bool.false_eq_true, if_true, if_false, Option.map_some, Option.bind_some, Option.bind_none, Bool.and_true, Bool.and_false, Bool.true_and, Bool.not_true, Bool.not_false, decide_true, decide_false, vw_n, vw_b, vw_i, vw_s, vw_u, vw_l, vw_o, ie_n, ie_b, ie_i, ie_s, ie_u, ie_l, ie_c, x10, x20, x21, x30, x31, x32, fin_b, fin_i, eq_ii, ne_ii, List.take_length, vw_k, ie_k, id_eq, Nat.reduceLeDiff, ↓xSl, ↓xAugI, ↓oE, ↓oNo, ↓xLs, ↓xExt, ↓iZp, hq, fin_iT]
end Sk15
end
section
set_option maxRecDepth 100000
set_option maxHeartbeats 0
set_option exponentiation.threshold 1000000
namespace Sk15
open PySem L2 Sm
theorem lst_tup_eq {xs ys : List D} : (D.tup xs = D.tup ys) = (xs = ys) := by simp
/-- may a square be added at column i? -/
def canA (hs : List Int) (i : Nat) : Bool := decide (i = 0) || decide (hs.getD i 0 < hs.getD (i - 1) 0)
/-- each column with P rises by one -/
def riseS (P : Nat → Bool) (hs : List Int) : List Int := ((List.range hs.length).map fun i => hs.getD i 0 + if P i then 1 else 0) ++ if P hs.length then [1] else []
theorem grow_rise (n s x : Int) (hs : List Int) : grow n s x hs = riseS (glet n s x hs) hs := rfl
theorem glet_eq (n s x : Int) (hs : List Int) (i : Nat) : glet n s x hs i = (canA hs i && (((i : Int) - hs.getD i 0) * s - x) % n == 0) := rfl
theorem riseS_congr {P Q : Nat → Bool} {hs : List Int} (h : ∀ i, i ≤ hs.length → P i = Q i) : riseS P hs = riseS Q hs := by
  unfold riseS
  rw [h hs.length (Nat.le_refl _)]
  congr 1
  refine List.map_congr_left fun i hi => ?_
  rw [h i (by have := List.mem_range.mp hi; omega)]
def nD (i : Nat) : D := .int (i : Int)
theorem getD_app0 (hs : List Int) (i : Nat) : (hs ++ [0]).getD i 0 = hs.getD i 0 := by
  rw [List.getD_eq_getElem?_getD, List.getD_eq_getElem?_getD, List.getElem?_append]
  split
  · rfl
  · rw [List.getElem?_eq_none (l := hs) (by omega)]
    by_cases q : i - hs.length = 0
    · rw [q]; rfl
    · rw [List.getElem?_eq_none (by simp; omega)]
theorem getD_out {hs : List Int} {i : Nat} (h : hs.length ≤ i) : hs.getD i 0 = 0 := by
  rw [List.getD_eq_getElem?_getD, List.getElem?_eq_none h]
  rfl
theorem rise_get (P : Nat → Bool) (hs : List Int) (i : Nat) : (riseS P hs).getD i 0 = hs.getD i 0 + if i ≤ hs.length ∧ P i = true then 1 else 0 := by
  unfold riseS
  rw [List.getD_eq_getElem?_getD, List.getElem?_append]
  by_cases q : i < hs.length
  · rw [if_pos (by simpa using q)]
    have q2 : i ≤ hs.length := by omega
    simp [q, q2]
  · rw [if_neg (by simpa using q), getD_out (by omega)]
    simp only [List.length_map, List.length_range]
    by_cases e : i = hs.length
    · subst e
      cases P hs.length <;> simp
    · have h1 : ¬ (i ≤ hs.length ∧ P i = true) := fun z => by have := z.1; omega
      have h2 : i - hs.length ≠ 0 := by omega
      rw [if_neg h1]
      cases P hs.length
      · simp
      · rw [if_pos rfl, List.getElem?_eq_none (by simp; omega)]; rfl
theorem rise_len (P : Nat → Bool) (hs : List Int) : (riseS P hs).length = hs.length + if P hs.length = true then 1 else 0 := by
  unfold riseS
  cases P hs.length <;> simp
/-- lists without 0 are told by their numbers -/
theorem ext_pos {xs ys : List Int} (hx : ∀ z ∈ xs, 1 ≤ z) (hy : ∀ z ∈ ys, 1 ≤ z) (h : ∀ i, xs.getD i 0 = ys.getD i 0) : xs = ys := by
  have key : ∀ {as bs : List Int}, (∀ z ∈ bs, 1 ≤ z) → (∀ i, as.getD i 0 = bs.getD i 0) → bs.length ≤ as.length := fun {as bs} hb h => by
    by_cases q : bs.length ≤ as.length
    · exact q
    · have := hb _ (getD_mem' (show as.length < bs.length by omega))
      rw [← h, getD_out (Nat.le_refl _)] at this
      omega
  have hl : xs.length = ys.length := Nat.le_antisymm (key hx fun i => (h i).symm) (key hy h)
  refine List.ext_getElem hl fun i h1 h2 => ?_
  have := h i
  simpa [List.getD_eq_getElem?_getD, h1, h2] using this
theorem hg_rise {k : Nat} {hs : List Int} {P : Nat → Bool} (h : Hg k hs) (hP : ∀ i, i ≤ hs.length → P i = true → canA hs i = true) : Hg (k + 1) (riseS P hs) := by
  have hl := h.len
  have ll := rise_len P hs
  have h01 : ∀ i : Nat, 0 ≤ (if i ≤ hs.length ∧ P i = true then (1 : Int) else 0) ∧ (if i ≤ hs.length ∧ P i = true then (1 : Int) else 0) ≤ 1 := fun i => by split <;> omega
  refine ⟨by rw [ll]; split <;> omega, fun i hi => ?_, fun i hi => ?_⟩
  · rw [rise_get]
    by_cases q : i < hs.length
    · have := h.rng i q
      have := h01 i
      omega
    · rw [ll] at hi
      by_cases r : P hs.length = true
      · rw [if_pos r] at hi
        rw [show i = hs.length by omega, getD_out (Nat.le_refl _), if_pos ⟨Nat.le_refl _, r⟩]
        omega
      · rw [if_neg r] at hi
        omega
  · rw [rise_get, rise_get]
    have a0 := h01 i
    have hi1 : i + 1 ≤ hs.length := by
      rw [ll] at hi
      split at hi <;> omega
    have hf : hs.getD (i + 1) 0 ≤ hs.getD i 0 := by
      by_cases q : i + 1 < hs.length
      · exact h.fall i q
      · rw [getD_out (by omega)]
        have := h.rng i (by omega)
        omega
    by_cases r : P (i + 1) = true
    · have := hP (i + 1) hi1 r
      unfold canA at this
      simp at this
      rw [if_pos ⟨hi1, r⟩]
      have h2 : hs.getD (i + 1) 0 < hs.getD i 0 := by simpa [List.getD_eq_getElem?_getD] using this
      omega
    · rw [if_neg (fun z => r z.2)]
      omega
theorem Hg.pos {k : Nat} {hs : List Int} (h : Hg k hs) : ∀ z ∈ hs, 1 ≤ z := fun z hz => by
  obtain ⟨i, hi, rfl⟩ := mem_getD hz
  exact (h.rng i hi).1
/-- the columns at which a square can be added, the last one first -/
def acols (hs : List Int) : List Nat := (List.range (hs.length + 1)).reverse.filter (canA hs)
theorem acols_mem {hs : List Int} {i : Nat} : i ∈ acols hs ↔ i ≤ hs.length ∧ canA hs i = true := by
  unfold acols
  rw [List.mem_filter, List.mem_reverse, List.mem_range]
  constructor
  · rintro ⟨a, b⟩; exact ⟨by omega, b⟩
  · rintro ⟨a, b⟩; exact ⟨by omega, b⟩
theorem acols_len (hs : List Int) : (acols hs).length ≤ hs.length + 1 := by
  unfold acols
  refine Nat.le_trans (List.length_filter_le _ _) ?_
  simp
theorem zsD_rev (n : Nat) : zsD (n : Int) (n + 1) = (List.range (n + 1)).reverse.map nD := by
  unfold zsD
  rw [List.range_eq_range', List.reverse_range', ← List.range_eq_range', List.map_map]
  refine List.map_congr_left fun k hk => ?_
  have := List.mem_range.mp hk
  show D.int _ = D.int _
  congr 1
  simp
  omega
theorem nocels_n (l : List Nat) : nocels (l.map nD) = true := nocels_all fun d hd => by
  obtain ⟨i, _, rfl⟩ := List.mem_map.mp hd
  rfl
theorem fin_nL {C : Cells} {l : List Nat} : fin C.length (.lst (l.map nD)) C = some (.ok (.lst (l.map nD)) C) := by
  rw [fin_n (show nocel (.lst _) = true from nocels_n l), List.take_length]
theorem addable_columns {hs : List Int} (h : hs.length ≤ 60) (C : Cells) : m_addable_columns [iT hs] C = some (.ok (.lst ((acols hs).map nD)) C) := by
  have hap : hs.map D.int ++ [D.int 0] = (hs ++ [0]).map D.int := by simp
  have hal : ((hs ++ [0]).map D.int).length ≤ 1000000 := by rw [List.length_map, List.length_append, List.length_singleton]; omega
  have l1 : q1_addable_columns [some (iT hs), some (iT (hs ++ [0])), none] C = some (.ok ((acols hs).map nD) C) := by
    have hr := rng3_ok (i := ((hs.map D.int).length : Int)) (by rw [List.length_map]; omega)
    have hz : zsD ((hs.map D.int).length : Int) (((hs.map D.int).length : Int) + 1).toNat = (List.range (hs.length + 1)).reverse.map nD := by
      rw [List.length_map, show ((hs.length : Int) + 1).toNat = hs.length + 1 by omega, zsD_rev]
    obtain ⟨L, hL⟩ : ∃ L : Int, ((hs.map D.int).length : Int) = L := ⟨_, rfl⟩
    rw [hL] at hr hz
    rw [hz] at hr
    unfold q1_addable_columns acols
    refine lc_T (g := gd0) nD _ (canA hs) nD (by simp only [↓xDef, ↓xSeq, ↓xDo, ↓xNext, ↓xRet, ↓xExp, ↓xIfS, ↓xAsg, ↓gN, ↓gT, ↓gsC, ↓gsN, ↓xV, ↓S.val, ↓S.bind, ↓S.opt, ↓x2, ↓x1, ↓xN, ↓xB, ↓xD, ↓xAnd, ↓xOr, ↓xNot, ↓xIf, ↓xAndV, ↓xOrV, ↓xNotV, ↓xChain, ↓aNil, ↓aCons, ↓xTup, ↓few, ↓xF, ↓xC, ↓xSetI, ↓xPar, ↓xCall, ↓xFrz, ↓xM, live, i2, dSub, dAdd, dMul, dMulA, dMod, dDiv, dLt, dLe, dGt, dGe, dIx, at10, at20, at21, at30, at31, at32, cst0, cst1, cst2, cst3, dNeg, dAbs, dInt, dLen, dMin2, dMax2, dGcd, dTuple, ↓iR1, ↓iR2, ↓iV, items, ↓iEn, items1, nocel, nocels, List.map_cons, List.map_nil, List.getElem?_cons_zero, List.getElem?_cons_succ, List.getElem?_nil, List.set_cons_zero, List.set_cons_succ, List.length_cons, List.length_nil, List.replicate, List.cons_append, List.nil_append, Nat.reduceAdd, Nat.reduceSub, Bool.false_eq_true, if_true, if_false, Option.map_some, Option.bind_some, Option.bind_none, Bool.and_true, Bool.and_false, Bool.true_and, Bool.not_true, Bool.not_false, decide_true, decide_false, vw_n, vw_b, vw_i, vw_s, vw_u, vw_l, vw_o, ie_n, ie_b, ie_i, ie_s, ie_u, ie_l, ie_c, x10, x20, x21, x30, x31, x32, fin_b, fin_i, eq_ii, ne_ii, List.take_length, vw_k, ie_k, id_eq, Nat.reduceLeDiff, ↓xSl, ↓xAugI, ↓oE, ↓oNo, ↓xLs, ↓xExt, ↓iZp, iR3, hL, hr]) rfl (by simp; omega) fun i hi => ?_
    have hi : i < hs.length + 1 := List.mem_range.mp (List.mem_reverse.mp hi)
    refine ⟨[some (iT hs), some (iT (hs ++ [0])), some (nD i)], rfl, ?_, fun _ => by simp only [↓xDef, ↓xSeq, ↓xDo, ↓xNext, ↓xRet, ↓xExp, ↓xIfS, ↓xAsg, ↓gN, ↓gT, ↓gsC, ↓gsN, ↓xV, ↓S.val, ↓S.bind, ↓S.opt, ↓x2, ↓x1, ↓xN, ↓xB, ↓xD, ↓xAnd, ↓xOr, ↓xNot, ↓xIf, ↓xAndV, ↓xOrV, ↓xNotV, ↓xChain, ↓aNil, ↓aCons, ↓xTup, ↓few, ↓xF, ↓xC, ↓xSetI, ↓xPar, ↓xCall, ↓xFrz, ↓xM, live, i2, dSub, dAdd, dMul, dMulA, dMod, dDiv, dLt, dLe, dGt, dGe, dIx, atI, dNeg, dAbs, dInt, dLen, dMin2, dMax2, dGcd, dTuple, ↓iR1, ↓iR2, ↓iV, items, ↓iEn, items1, nocel, nocels, List.map_cons, List.map_nil, List.getElem?_cons_zero, List.getElem?_cons_succ, List.getElem?_nil, List.set_cons_zero, List.set_cons_succ, List.length_cons, List.length_nil, List.replicate, List.cons_append, List.nil_append, Nat.reduceAdd, Nat.reduceSub, Bool.false_eq_true, if_true, if_false, Option.map_some, Option.bind_some, Option.bind_none, Bool.and_true, Bool.and_false, Bool.true_and, Bool.not_true, Bool.not_false, decide_true, decide_false, vw_n, vw_b, vw_i, vw_s, vw_u, vw_l, vw_o, ie_n, ie_b, ie_i, ie_s, ie_u, ie_l, ie_c, x10, x20, x21, x30, x31, x32, fin_b, fin_i, eq_ii, ne_ii, List.take_length, vw_k, ie_k, id_eq, Nat.reduceLeDiff, ↓xSl, ↓xAugI, ↓oE, ↓oNo, ↓xLs, ↓xExt, ↓iZp, nD]⟩
    have l2 := ix_T (ns := hs ++ [0]) (i := i) (by simp; omega)
    rw [getD_app0] at l2
    by_cases q : i = 0
    · subst q
      simp only [↓xDef, ↓xSeq, ↓xDo, ↓xNext, ↓xRet, ↓xExp, ↓xIfS, ↓xAsg, ↓gN, ↓gT, ↓gsC, ↓gsN, ↓xV, ↓S.val, ↓S.bind, ↓S.opt, ↓x2, ↓x1, ↓xN, ↓xB, ↓xD, ↓xAnd, ↓xOr, ↓xNot, ↓xIf, ↓xAndV, ↓xOrV, ↓xNotV, ↓xChain, ↓aNil, ↓aCons, ↓xTup, ↓few, ↓xF, ↓xC, ↓xSetI, ↓xPar, ↓xCall, ↓xFrz, ↓xM, live, i2, dSub, dAdd, dMul, dMulA, dMod, dDiv, dLt, dLe, dGt, dGe, dIx, at10, at20, at21, at30, at31, at32, cst0, cst1, cst2, cst3, dNeg, dAbs, dInt, dLen, dMin2, dMax2, dGcd, dTuple, ↓iR1, ↓iR2, ↓iV, items, ↓iEn, items1, nocel, nocels, List.map_cons, List.map_nil, List.getElem?_cons_zero, List.getElem?_cons_succ, List.getElem?_nil, List.set_cons_zero, List.set_cons_succ, List.length_cons, List.length_nil, List.replicate, List.cons_append, List.nil_append, Nat.reduceAdd, Nat.reduceSub, Bool.false_eq_true, if_true, if_false, Option.map_some, Option.bind_some, Option.bind_none, Bool.and_true, Bool.and_false, Bool.true_and, Bool.not_true, Bool.not_false, decide_true, decide_false, vw_n, vw_b, vw_i, vw_s, vw_u, vw_l, vw_o, ie_n, ie_b, ie_i, ie_s, ie_u, ie_l, ie_c, x10, x20, x21, x30, x31, x32, fin_b, fin_i, eq_ii, ne_ii, List.take_length, vw_k, ie_k, id_eq, Nat.reduceLeDiff, ↓xSl, ↓xAugI, ↓oE, ↓oNo, ↓xLs, ↓xExt, ↓iZp, nD, cst0, beq_self_eq_true]
      rfl
    · have l3 := ix_T (ns := hs ++ [0]) (i := i - 1) (by simp; omega)
      rw [getD_app0, Int.natCast_sub (by omega)] at l3
      have hz : ((i : Int) == 0) = false := by simpa using q
      have hc : canA hs i = decide (hs.getD i 0 < hs.getD (i - 1) 0) := by unfold canA; simp [q]
      rw [hc]
      unfold nD
      generalize hs.getD (i - 1) 0 = v at l3 ⊢
      obtain ⟨I, hI⟩ : ∃ I : Int, (i : Int) = I := ⟨_, rfl⟩
      rw [hI] at l2 l3 hz ⊢
      have l2' : atI ((hs ++ [0]).map D.int) I = some (.int (hs.getD i 0)) := l2
      have l3' : atI ((hs ++ [0]).map D.int) (I - 1) = some (.int v) := l3
      simp only [↓xDef, ↓xSeq, ↓xDo, ↓xNext, ↓xRet, ↓xExp, ↓xIfS, ↓xAsg, ↓gN, ↓gT, ↓gsC, ↓gsN, ↓xV, ↓S.val, ↓S.bind, ↓S.opt, ↓x2, ↓x1, ↓xN, ↓xB, ↓xD, ↓xAnd, ↓xOr, ↓xNot, ↓xIf, ↓xAndV, ↓xOrV, ↓xNotV, ↓xChain, ↓aNil, ↓aCons, ↓xTup, ↓few, ↓xF, ↓xC, ↓xSetI, ↓xPar, ↓xCall, ↓xFrz, ↓xM, live, i2, dSub, dAdd, dMul, dMulA, dMod, dDiv, dLt, dLe, dGt, dGe, dIx, at10, at20, at21, at30, at31, at32, cst0, cst1, cst2, cst3, dNeg, dAbs, dInt, dLen, dMin2, dMax2, dGcd, dTuple, ↓iR1, ↓iR2, ↓iV, items, ↓iEn, items1, nocel, nocels, List.map_cons, List.map_nil, List.getElem?_cons_zero, List.getElem?_cons_succ, List.getElem?_nil, List.set_cons_zero, List.set_cons_succ, List.length_cons, List.length_nil, List.replicate, List.cons_append, List.nil_append, Nat.reduceAdd, Nat.reduceSub, Bool.false_eq_true, if_true, if_false, Option.map_some, Option.bind_some, Option.bind_none, Bool.and_true, Bool.and_false, Bool.true_and, Bool.not_true, Bool.not_false, decide_true, decide_false, vw_n, vw_b, vw_i, vw_s, vw_u, vw_l, vw_o, ie_n, ie_b, ie_i, ie_s, ie_u, ie_l, ie_c, x10, x20, x21, x30, x31, x32, fin_b, fin_i, eq_ii, ne_ii, List.take_length, vw_k, ie_k, id_eq, Nat.reduceLeDiff, ↓xSl, ↓xAugI, ↓oE, ↓oNo, ↓xLs, ↓xExt, ↓iZp, hz, l2', l3']
  unfold m_addable_columns b_addable_columns
  simp only [↓xDef, ↓xSeq, ↓xDo, ↓xNext, ↓xRet, ↓xExp, ↓xIfS, ↓xAsg, ↓gN, ↓gT, ↓gsC, ↓gsN, ↓xV, ↓S.val, ↓S.bind, ↓S.opt, ↓x2, ↓x1, ↓xN, ↓xB, ↓xD, ↓xAnd, ↓xOr, ↓xNot, ↓xIf, ↓xAndV, ↓xOrV, ↓xNotV, ↓xChain, ↓aNil, ↓aCons, ↓xTup, ↓few, ↓xF, ↓xC, ↓xSetI, ↓xPar, ↓xCall, ↓xFrz, ↓xM, live, i2, dSub, dAdd, dMul, dMulA, dMod, dDiv, dLt, dLe, dGt, dGe, dIx, at10, at20, at21, at30, at31, at32, cst0, cst1, cst2, cst3, dNeg, dAbs, dInt, dLen, dMin2, dMax2, dGcd, dTuple, ↓iR1, ↓iR2, ↓iV, items, ↓iEn, items1, nocel, nocels, List.map_cons, List.map_nil, List.getElem?_cons_zero, List.getElem?_cons_succ, List.getElem?_nil, List.set_cons_zero, List.set_cons_succ, List.length_cons, List.length_nil, List.replicate, List.cons_append, List.nil_append, Nat.reduceAdd, Nat.reduceSub, Bool.false_eq_true, if_true, if_false, Option.map_some, Option.bind_some, Option.bind_none, Bool.and_true, Bool.and_false, Bool.true_and, Bool.not_true, Bool.not_false, decide_true, decide_false, vw_n, vw_b, vw_i, vw_s, vw_u, vw_l, vw_o, ie_n, ie_b, ie_i, ie_s, ie_u, ie_l, ie_c, x10, x20, x21, x30, x31, x32, fin_b, fin_i, eq_ii, ne_ii, List.take_length, vw_k, ie_k, id_eq, Nat.reduceLeDiff, ↓xSl, ↓xAugI, ↓oE, ↓oNo, ↓xLs, ↓xExt, ↓iZp, aStar, seqD, hap, hal, l1, fin_nL]
theorem any_cast (cols : List Nat) (i : Nat) : ((cols.map fun c : Nat => (c : Int)).any fun b => b == (i : Int)) = cols.any fun c => c == i := by
  rw [List.any_map]
  congr 1
  funext c
  show ((c : Int) == (i : Int)) = (c == i)
  rw [Bool.eq_iff_iff, beq_iff_eq, beq_iff_eq]
  omega
theorem iL_n (cols : List Nat) : (D.lst (cols.map nD)) = iL (cols.map fun c : Nat => (c : Int)) := by
  unfold iL
  rw [List.map_map]
  rfl
theorem rise_filter (P : Nat → Bool) {hs : List Int} (h : ∀ z ∈ hs, 1 ≤ z) : ((((hs ++ [0]).zipIdx 0).map fun p : Int × Nat => p.1 + if P p.2 then (1 : Int) else 0).filter fun z => decide (0 < z)) = riseS P hs := by
  unfold riseS
  rw [List.zipIdx_append, List.map_append, List.filter_append]
  congr 1
  · rw [List.filter_eq_self.mpr]
    · refine List.ext_getElem (by simp) fun i h1 h2 => ?_
      simp at h1
      simp [List.getD_eq_getElem?_getD, h1]
    · intro z hz
      obtain ⟨p, hp, rfl⟩ := List.mem_map.mp hz
      have := h _ (zipIdx_mem hp).2.2
      rw [decide_eq_true_eq]
      split <;> omega
  · simp
    cases P hs.length <;> simp
theorem risen {hs : List Int} {cols : List Nat} (h : hs.length ≤ 60) (hp : ∀ z ∈ hs, 1 ≤ z) (C : Cells) : m_risen [iT hs, .lst (cols.map nD)] C = some (.ok (iT (riseS (fun i => cols.any fun c => c == i) hs)) C) := by
  have hap : hs.map D.int ++ [D.int 0] = (hs ++ [0]).map D.int := by simp
  have hal : ((hs ++ [0]).map D.int).length ≤ 1000000 := by rw [List.length_map, List.length_append, List.length_singleton]; omega
  rw [iL_n]
  obtain ⟨bs, hbs⟩ : ∃ bs : List Int, bs = cols.map fun c : Nat => (c : Int) := ⟨_, rfl⟩
  rw [← hbs]
  obtain ⟨R1, hR⟩ : ∃ R1 : List Int, R1 = ((hs ++ [0]).zipIdx 0).map fun p : Int × Nat => p.1 + if (cols.any fun c => c == p.2) then (1 : Int) else 0 := ⟨_, rfl⟩
  have l1 : q1_risen [some (iT hs), some (iL bs), none, none, none] C = some (.ok (R1.map D.int) C) := by
    rw [hR, List.map_map]
    unfold q1_risen
    refine lc_T0 (g := gd0) (fun p : Int × Nat => .tup [.int (p.2 : Nat), .int p.1]) _ _ (by simp only [↓xDef, ↓xSeq, ↓xDo, ↓xNext, ↓xRet, ↓xExp, ↓xIfS, ↓xAsg, ↓gN, ↓gT, ↓gsC, ↓gsN, ↓xV, ↓S.val, ↓S.bind, ↓S.opt, ↓x2, ↓x1, ↓xN, ↓xB, ↓xD, ↓xAnd, ↓xOr, ↓xNot, ↓xIf, ↓xAndV, ↓xOrV, ↓xNotV, ↓xChain, ↓aNil, ↓aCons, ↓xTup, ↓few, ↓xF, ↓xC, ↓xSetI, ↓xPar, ↓xCall, ↓xFrz, ↓xM, live, i2, dSub, dAdd, dMul, dMulA, dMod, dDiv, dLt, dLe, dGt, dGe, dIx, atI, dNeg, dAbs, dInt, dLen, dMin2, dMax2, dGcd, dTuple, ↓iR1, ↓iR2, ↓iV, items, ↓iEn, items1, nocel, nocels, List.map_cons, List.map_nil, List.getElem?_cons_zero, List.getElem?_cons_succ, List.getElem?_nil, List.set_cons_zero, List.set_cons_succ, List.length_cons, List.length_nil, List.replicate, List.cons_append, List.nil_append, Nat.reduceAdd, Nat.reduceSub, Bool.false_eq_true, if_true, if_false, Option.map_some, Option.bind_some, Option.bind_none, Bool.and_true, Bool.and_false, Bool.true_and, Bool.not_true, Bool.not_false, decide_true, decide_false, vw_n, vw_b, vw_i, vw_s, vw_u, vw_l, vw_o, ie_n, ie_b, ie_i, ie_s, ie_u, ie_l, ie_c, x10, x20, x21, x30, x31, x32, fin_b, fin_i, eq_ii, ne_ii, List.take_length, vw_k, ie_k, id_eq, Nat.reduceLeDiff, ↓xSl, ↓xAugI, ↓oE, ↓oNo, ↓xLs, ↓xExt, ↓iZp, aStar, seqD, hap, hal, enums_map]) rfl (by rw [List.length_zipIdx]; simp; omega) fun p _ => ?_
    have e := dIn_i (p.2 : Int) bs
    rw [show (bs.any fun b => b == (p.2 : Int)) = cols.any fun c => c == p.2 by rw [hbs, any_cast]] at e
    refine ⟨[some (iT hs), some (iL bs), none, some (.int (p.2 : Nat)), some (.int p.1)], rfl, ?_⟩
    show _ = some (R.ok (D.int (p.1 + if (cols.any fun c => c == p.2) then (1 : Int) else 0)) C)
    generalize (cols.any fun c => c == p.2) = b at e ⊢
    obtain ⟨I, hI⟩ : ∃ I : Int, (p.2 : Int) = I := ⟨_, rfl⟩
    rw [hI] at e ⊢
    simp only [↓xDef, ↓xSeq, ↓xDo, ↓xNext, ↓xRet, ↓xExp, ↓xIfS, ↓xAsg, ↓gN, ↓gT, ↓gsC, ↓gsN, ↓xV, ↓S.val, ↓S.bind, ↓S.opt, ↓x2, ↓x1, ↓xN, ↓xB, ↓xD, ↓xAnd, ↓xOr, ↓xNot, ↓xIf, ↓xAndV, ↓xOrV, ↓xNotV, ↓xChain, ↓aNil, ↓aCons, ↓xTup, ↓few, ↓xF, ↓xC, ↓xSetI, ↓xPar, ↓xCall, ↓xFrz, ↓xM, live, i2, dSub, dAdd, dMul, dMulA, dMod, dDiv, dLt, dLe, dGt, dGe, dIx, atI, dNeg, dAbs, dInt, dLen, dMin2, dMax2, dGcd, dTuple, ↓iR1, ↓iR2, ↓iV, items, ↓iEn, items1, nocel, nocels, List.map_cons, List.map_nil, List.getElem?_cons_zero, List.getElem?_cons_succ, List.getElem?_nil, List.set_cons_zero, List.set_cons_succ, List.length_cons, List.length_nil, List.replicate, List.cons_append, List.nil_append, Nat.reduceAdd, Nat.reduceSub, Bool.false_eq_true, if_true, if_false, Option.map_some, Option.bind_some, Option.bind_none, Bool.and_true, Bool.and_false, Bool.true_and, Bool.not_true, Bool.not_false, decide_true, decide_false, vw_n, vw_b, vw_i, vw_s, vw_u, vw_l, vw_o, ie_n, ie_b, ie_i, ie_s, ie_u, ie_l, ie_c, x10, x20, x21, x30, x31, x32, fin_b, fin_i, eq_ii, ne_ii, List.take_length, vw_k, ie_k, id_eq, Nat.reduceLeDiff, ↓xSl, ↓xAugI, ↓oE, ↓oNo, ↓xLs, ↓xExt, ↓iZp, e]
  have hR2 := rise_filter (fun i => cols.any fun c => c == i) hp
  have hRl : R1.length ≤ 61 := by rw [hR]; simp; omega
  rw [← hR] at hR2
  rw [← hR2]
  have l2 : q2_risen [some (iT hs), some (iL bs), some (iL R1), none, none] C = some (.ok ((R1.filter fun z => decide (0 < z)).map D.int) C) := by
    unfold q2_risen
    refine lc_T (g := gd0) D.int R1 (fun z => decide (0 < z)) D.int (by simp only [↓xDef, ↓xSeq, ↓xDo, ↓xNext, ↓xRet, ↓xExp, ↓xIfS, ↓xAsg, ↓gN, ↓gT, ↓gsC, ↓gsN, ↓xV, ↓S.val, ↓S.bind, ↓S.opt, ↓x2, ↓x1, ↓xN, ↓xB, ↓xD, ↓xAnd, ↓xOr, ↓xNot, ↓xIf, ↓xAndV, ↓xOrV, ↓xNotV, ↓xChain, ↓aNil, ↓aCons, ↓xTup, ↓few, ↓xF, ↓xC, ↓xSetI, ↓xPar, ↓xCall, ↓xFrz, ↓xM, live, i2, dSub, dAdd, dMul, dMulA, dMod, dDiv, dLt, dLe, dGt, dGe, dIx, atI, dNeg, dAbs, dInt, dLen, dMin2, dMax2, dGcd, dTuple, ↓iR1, ↓iR2, ↓iV, items, ↓iEn, items1, nocel, nocels, List.map_cons, List.map_nil, List.getElem?_cons_zero, List.getElem?_cons_succ, List.getElem?_nil, List.set_cons_zero, List.set_cons_succ, List.length_cons, List.length_nil, List.replicate, List.cons_append, List.nil_append, Nat.reduceAdd, Nat.reduceSub, Bool.false_eq_true, if_true, if_false, Option.map_some, Option.bind_some, Option.bind_none, Bool.and_true, Bool.and_false, Bool.true_and, Bool.not_true, Bool.not_false, decide_true, decide_false, vw_n, vw_b, vw_i, vw_s, vw_u, vw_l, vw_o, ie_n, ie_b, ie_i, ie_s, ie_u, ie_l, ie_c, x10, x20, x21, x30, x31, x32, fin_b, fin_i, eq_ii, ne_ii, List.take_length, vw_k, ie_k, id_eq, Nat.reduceLeDiff, ↓xSl, ↓xAugI, ↓oE, ↓oNo, ↓xLs, ↓xExt, ↓iZp]) rfl (by omega) fun z _ => ⟨[some (iT hs), some (iL bs), some (iL R1), none, some (.int z)], rfl, by simp only [↓xDef, ↓xSeq, ↓xDo, ↓xNext, ↓xRet, ↓xExp, ↓xIfS, ↓xAsg, ↓gN, ↓gT, ↓gsC, ↓gsN, ↓xV, ↓S.val, ↓S.bind, ↓S.opt, ↓x2, ↓x1, ↓xN, ↓xB, ↓xD, ↓xAnd, ↓xOr, ↓xNot, ↓xIf, ↓xAndV, ↓xOrV, ↓xNotV, ↓xChain, ↓aNil, ↓aCons, ↓xTup, ↓few, ↓xF, ↓xC, ↓xSetI, ↓xPar, ↓xCall, ↓xFrz, ↓xM, live, i2, dSub, dAdd, dMul, dMulA, dMod, dDiv, dLt, dLe, dGt, dGe, dIx, atI, dNeg, dAbs, dInt, dLen, dMin2, dMax2, dGcd, dTuple, ↓iR1, ↓iR2, ↓iV, items, ↓iEn, items1, nocel, nocels, List.map_cons, List.map_nil, List.getElem?_cons_zero, List.getElem?_cons_succ, List.getElem?_nil, List.set_cons_zero, List.set_cons_succ, List.length_cons, List.length_nil, List.replicate, List.cons_append, List.nil_append, Nat.reduceAdd, Nat.reduceSub, Bool.false_eq_true, if_true, if_false, Option.map_some, Option.bind_some, Option.bind_none, Bool.and_true, Bool.and_false, Bool.true_and, Bool.not_true, Bool.not_false, decide_true, decide_false, vw_n, vw_b, vw_i, vw_s, vw_u, vw_l, vw_o, ie_n, ie_b, ie_i, ie_s, ie_u, ie_l, ie_c, x10, x20, x21, x30, x31, x32, fin_b, fin_i, eq_ii, ne_ii, List.take_length, vw_k, ie_k, id_eq, Nat.reduceLeDiff, ↓xSl, ↓xAugI, ↓oE, ↓oNo, ↓xLs, ↓xExt, ↓iZp], fun _ => by simp only [↓xDef, ↓xSeq, ↓xDo, ↓xNext, ↓xRet, ↓xExp, ↓xIfS, ↓xAsg, ↓gN, ↓gT, ↓gsC, ↓gsN, ↓xV, ↓S.val, ↓S.bind, ↓S.opt, ↓x2, ↓x1, ↓xN, ↓xB, ↓xD, ↓xAnd, ↓xOr, ↓xNot, ↓xIf, ↓xAndV, ↓xOrV, ↓xNotV, ↓xChain, ↓aNil, ↓aCons, ↓xTup, ↓few, ↓xF, ↓xC, ↓xSetI, ↓xPar, ↓xCall, ↓xFrz, ↓xM, live, i2, dSub, dAdd, dMul, dMulA, dMod, dDiv, dLt, dLe, dGt, dGe, dIx, atI, dNeg, dAbs, dInt, dLen, dMin2, dMax2, dGcd, dTuple, ↓iR1, ↓iR2, ↓iV, items, ↓iEn, items1, nocel, nocels, List.map_cons, List.map_nil, List.getElem?_cons_zero, List.getElem?_cons_succ, List.getElem?_nil, List.set_cons_zero, List.set_cons_succ, List.length_cons, List.length_nil, List.replicate, List.cons_append, List.nil_append, Nat.reduceAdd, Nat.reduceSub, Bool.false_eq_true, if_true, if_false, Option.map_some, Option.bind_some, Option.bind_none, Bool.and_true, Bool.and_false, Bool.true_and, Bool.not_true, Bool.not_false, decide_true, decide_false, vw_n, vw_b, vw_i, vw_s, vw_u, vw_l, vw_o, ie_n, ie_b, ie_i, ie_s, ie_u, ie_l, ie_c, x10, x20, x21, x30, x31, x32, fin_b, fin_i, eq_ii, ne_ii, List.take_length, vw_k, ie_k, id_eq, Nat.reduceLeDiff, ↓xSl, ↓xAugI, ↓oE, ↓oNo, ↓xLs, ↓xExt, ↓iZp]⟩
  unfold m_risen b_risen
  simp only [↓xDef, ↓xSeq, ↓xDo, ↓xNext, ↓xRet, ↓xExp, ↓xIfS, ↓xAsg, ↓gN, ↓gT, ↓gsC, ↓gsN, ↓xV, ↓S.val, ↓S.bind, ↓S.opt, ↓x2, ↓x1, ↓xN, ↓xB, ↓xD, ↓xAnd, ↓xOr, ↓xNot, ↓xIf, ↓xAndV, ↓xOrV, ↓xNotV, ↓xChain, ↓aNil, ↓aCons, ↓xTup, ↓few, ↓xF, ↓xC, ↓xSetI, ↓xPar, ↓xCall, ↓xFrz, ↓xM, live, i2, dSub, dAdd, dMul, dMulA, dMod, dDiv, dLt, dLe, dGt, dGe, dIx, atI, dNeg, dAbs, dInt, dLen, dMin2, dMax2, dGcd, dTuple, ↓iR1, ↓iR2, ↓iV, items, ↓iEn, items1, nocel, nocels, List.map_cons, List.map_nil, List.getElem?_cons_zero, List.getElem?_cons_succ, List.getElem?_nil, List.set_cons_zero, List.set_cons_succ, List.length_cons, List.length_nil, List.replicate, List.cons_append, List.nil_append, Nat.reduceAdd, Nat.reduceSub, Bool.false_eq_true, if_true, if_false, Option.map_some, Option.bind_some, Option.bind_none, Bool.and_true, Bool.and_false, Bool.true_and, Bool.not_true, Bool.not_false, decide_true, decide_false, vw_n, vw_b, vw_i, vw_s, vw_u, vw_l, vw_o, ie_n, ie_b, ie_i, ie_s, ie_u, ie_l, ie_c, x10, x20, x21, x30, x31, x32, fin_b, fin_i, eq_ii, ne_ii, List.take_length, vw_k, ie_k, id_eq, Nat.reduceLeDiff, ↓xSl, ↓xAugI, ↓oE, ↓oNo, ↓xLs, ↓xExt, ↓iZp, l1, l2, fin_iT]
theorem grown_in {n s x : Int} {k : Nat} {hs : List Int} (h : Hg k hs) (hk : k ≤ 60) (hn : 0 < n) (hs0 : s.natAbs < 2 ^ 100) (C : Cells) : m_grown_in [iT hs, .tup [.int n, .int s], .int x] C = some (.ok (iT (grow n s x hs)) C) := by
  have hl : hs.length ≤ 60 := Nat.le_trans h.len hk
  have hac := addable_columns hl C
  have hap : hs.map D.int ++ [D.int 0] = (hs ++ [0]).map D.int := by simp
  have hal : ((hs ++ [0]).map D.int).length ≤ 1000000 := by rw [List.length_map, List.length_append, List.length_singleton]; omega
  have m1 : s.natAbs < 2 ^ 400000 := Nat.lt_of_lt_of_le hs0 (Nat.pow_le_pow_right (by decide) (by decide))
  have l1 : q1_grown_in [some (iT hs), some (.tup [.int n, .int s]), some (.int x), some (iT (hs ++ [0])), none, some (.int n), some (.int s), none, none] C = some (.ok ((acols hs).map fun i : Nat => .tup [nD i, .int ((i : Int) - hs.getD i 0)]) C) := by
    unfold q1_grown_in
    refine lc_T0 (g := gd0) nD _ _ (by simp only [↓xDef, ↓xSeq, ↓xDo, ↓xNext, ↓xRet, ↓xExp, ↓xIfS, ↓xAsg, ↓gN, ↓gT, ↓gsC, ↓gsN, ↓xV, ↓S.val, ↓S.bind, ↓S.opt, ↓x2, ↓x1, ↓xN, ↓xB, ↓xD, ↓xAnd, ↓xOr, ↓xNot, ↓xIf, ↓xAndV, ↓xOrV, ↓xNotV, ↓xChain, ↓aNil, ↓aCons, ↓xTup, ↓few, ↓xF, ↓xC, ↓xSetI, ↓xPar, ↓xCall, ↓xFrz, ↓xM, live, i2, dSub, dAdd, dMul, dMulA, dMod, dDiv, dLt, dLe, dGt, dGe, dIx, at10, at20, at21, at30, at31, at32, cst0, cst1, cst2, cst3, dNeg, dAbs, dInt, dLen, dMin2, dMax2, dGcd, dTuple, ↓iR1, ↓iR2, ↓iV, items, ↓iEn, items1, nocel, nocels, List.map_cons, List.map_nil, List.getElem?_cons_zero, List.getElem?_cons_succ, List.getElem?_nil, List.set_cons_zero, List.set_cons_succ, List.length_cons, List.length_nil, List.replicate, List.cons_append, List.nil_append, Nat.reduceAdd, Nat.reduceSub, Bool.false_eq_true, if_true, if_false, Option.map_some, Option.bind_some, Option.bind_none, Bool.and_true, Bool.and_false, Bool.true_and, Bool.not_true, Bool.not_false, decide_true, decide_false, vw_n, vw_b, vw_i, vw_s, vw_u, vw_l, vw_o, ie_n, ie_b, ie_i, ie_s, ie_u, ie_l, ie_c, x10, x20, x21, x30, x31, x32, fin_b, fin_i, eq_ii, ne_ii, List.take_length, vw_k, ie_k, id_eq, Nat.reduceLeDiff, ↓xSl, ↓xAugI, ↓oE, ↓oNo, ↓xLs, ↓xExt, ↓iZp, hac]) rfl (by have := acols_len hs; omega) fun i hi => ?_
    have l2 := ix_T (ns := hs ++ [0]) (i := i) (by have := (acols_mem.mp hi).1; simp; omega)
    rw [getD_app0] at l2
    refine ⟨[some (iT hs), some (.tup [.int n, .int s]), some (.int x), some (iT (hs ++ [0])), none, some (.int n), some (.int s), some (nD i), none], rfl, ?_⟩
    unfold nD
    obtain ⟨I, hI⟩ : ∃ I : Int, (i : Int) = I := ⟨_, rfl⟩
    rw [hI] at l2 ⊢
    have l2' : atI ((hs ++ [0]).map D.int) I = some (.int (hs.getD i 0)) := l2
    simp only [↓xDef, ↓xSeq, ↓xDo, ↓xNext, ↓xRet, ↓xExp, ↓xIfS, ↓xAsg, ↓gN, ↓gT, ↓gsC, ↓gsN, ↓xV, ↓S.val, ↓S.bind, ↓S.opt, ↓x2, ↓x1, ↓xN, ↓xB, ↓xD, ↓xAnd, ↓xOr, ↓xNot, ↓xIf, ↓xAndV, ↓xOrV, ↓xNotV, ↓xChain, ↓aNil, ↓aCons, ↓xTup, ↓few, ↓xF, ↓xC, ↓xSetI, ↓xPar, ↓xCall, ↓xFrz, ↓xM, live, i2, dSub, dAdd, dMul, dMulA, dMod, dDiv, dLt, dLe, dGt, dGe, dIx, at10, at20, at21, at30, at31, at32, cst0, cst1, cst2, cst3, dNeg, dAbs, dInt, dLen, dMin2, dMax2, dGcd, dTuple, ↓iR1, ↓iR2, ↓iV, items, ↓iEn, items1, nocel, nocels, List.map_cons, List.map_nil, List.getElem?_cons_zero, List.getElem?_cons_succ, List.getElem?_nil, List.set_cons_zero, List.set_cons_succ, List.length_cons, List.length_nil, List.replicate, List.cons_append, List.nil_append, Nat.reduceAdd, Nat.reduceSub, Bool.false_eq_true, if_true, if_false, Option.map_some, Option.bind_some, Option.bind_none, Bool.and_true, Bool.and_false, Bool.true_and, Bool.not_true, Bool.not_false, decide_true, decide_false, vw_n, vw_b, vw_i, vw_s, vw_u, vw_l, vw_o, ie_n, ie_b, ie_i, ie_s, ie_u, ie_l, ie_c, x10, x20, x21, x30, x31, x32, fin_b, fin_i, eq_ii, ne_ii, List.take_length, vw_k, ie_k, id_eq, Nat.reduceLeDiff, ↓xSl, ↓xAugI, ↓oE, ↓oNo, ↓xLs, ↓xExt, ↓iZp, l2']
  have l2 : q2_grown_in [some (iT hs), some (.tup [.int n, .int s]), some (.int x), some (iT (hs ++ [0])), some (.lst ((acols hs).map fun i : Nat => .tup [nD i, .int ((i : Int) - hs.getD i 0)])), some (.int n), some (.int s), none, none] C = some (.ok (((acols hs).filter fun i : Nat => (((i : Int) - hs.getD i 0) * s - x) % n == 0).map nD) C) := by
    unfold q2_grown_in
    refine lc_T (g := gd0) (fun i : Nat => D.tup [nD i, .int ((i : Int) - hs.getD i 0)]) _ (fun i : Nat => (((i : Int) - hs.getD i 0) * s - x) % n == 0) nD (by simp only [↓xDef, ↓xSeq, ↓xDo, ↓xNext, ↓xRet, ↓xExp, ↓xIfS, ↓xAsg, ↓gN, ↓gT, ↓gsC, ↓gsN, ↓xV, ↓S.val, ↓S.bind, ↓S.opt, ↓x2, ↓x1, ↓xN, ↓xB, ↓xD, ↓xAnd, ↓xOr, ↓xNot, ↓xIf, ↓xAndV, ↓xOrV, ↓xNotV, ↓xChain, ↓aNil, ↓aCons, ↓xTup, ↓few, ↓xF, ↓xC, ↓xSetI, ↓xPar, ↓xCall, ↓xFrz, ↓xM, live, i2, dSub, dAdd, dMul, dMulA, dMod, dDiv, dLt, dLe, dGt, dGe, dIx, at10, at20, at21, at30, at31, at32, cst0, cst1, cst2, cst3, dNeg, dAbs, dInt, dLen, dMin2, dMax2, dGcd, dTuple, ↓iR1, ↓iR2, ↓iV, items, ↓iEn, items1, nocel, nocels, List.map_cons, List.map_nil, List.getElem?_cons_zero, List.getElem?_cons_succ, List.getElem?_nil, List.set_cons_zero, List.set_cons_succ, List.length_cons, List.length_nil, List.replicate, List.cons_append, List.nil_append, Nat.reduceAdd, Nat.reduceSub, Bool.false_eq_true, if_true, if_false, Option.map_some, Option.bind_some, Option.bind_none, Bool.and_true, Bool.and_false, Bool.true_and, Bool.not_true, Bool.not_false, decide_true, decide_false, vw_n, vw_b, vw_i, vw_s, vw_u, vw_l, vw_o, ie_n, ie_b, ie_i, ie_s, ie_u, ie_l, ie_c, x10, x20, x21, x30, x31, x32, fin_b, fin_i, eq_ii, ne_ii, List.take_length, vw_k, ie_k, id_eq, Nat.reduceLeDiff, ↓xSl, ↓xAugI, ↓oE, ↓oNo, ↓xLs, ↓xExt, ↓iZp]) rfl (by have := acols_len hs; omega) fun i hi => ?_
    have hi := (acols_mem.mp hi).1
    refine ⟨[some (iT hs), some (.tup [.int n, .int s]), some (.int x), some (iT (hs ++ [0])), some (.lst ((acols hs).map fun i : Nat => .tup [nD i, .int ((i : Int) - hs.getD i 0)])), some (.int n), some (.int s), some (nD i), some (.int ((i : Int) - hs.getD i 0))], rfl, ?_, fun _ => by simp only [↓xDef, ↓xSeq, ↓xDo, ↓xNext, ↓xRet, ↓xExp, ↓xIfS, ↓xAsg, ↓gN, ↓gT, ↓gsC, ↓gsN, ↓xV, ↓S.val, ↓S.bind, ↓S.opt, ↓x2, ↓x1, ↓xN, ↓xB, ↓xD, ↓xAnd, ↓xOr, ↓xNot, ↓xIf, ↓xAndV, ↓xOrV, ↓xNotV, ↓xChain, ↓aNil, ↓aCons, ↓xTup, ↓few, ↓xF, ↓xC, ↓xSetI, ↓xPar, ↓xCall, ↓xFrz, ↓xM, live, i2, dSub, dAdd, dMul, dMulA, dMod, dDiv, dLt, dLe, dGt, dGe, dIx, atI, dNeg, dAbs, dInt, dLen, dMin2, dMax2, dGcd, dTuple, ↓iR1, ↓iR2, ↓iV, items, ↓iEn, items1, nocel, nocels, List.map_cons, List.map_nil, List.getElem?_cons_zero, List.getElem?_cons_succ, List.getElem?_nil, List.set_cons_zero, List.set_cons_succ, List.length_cons, List.length_nil, List.replicate, List.cons_append, List.nil_append, Nat.reduceAdd, Nat.reduceSub, Bool.false_eq_true, if_true, if_false, Option.map_some, Option.bind_some, Option.bind_none, Bool.and_true, Bool.and_false, Bool.true_and, Bool.not_true, Bool.not_false, decide_true, decide_false, vw_n, vw_b, vw_i, vw_s, vw_u, vw_l, vw_o, ie_n, ie_b, ie_i, ie_s, ie_u, ie_l, ie_c, x10, x20, x21, x30, x31, x32, fin_b, fin_i, eq_ii, ne_ii, List.take_length, vw_k, ie_k, id_eq, Nat.reduceLeDiff, ↓xSl, ↓xAugI, ↓oE, ↓oNo, ↓xLs, ↓xExt, ↓iZp, nD]⟩
    have hb : 0 ≤ hs.getD i 0 ∧ hs.getD i 0 ≤ 60 := by
      by_cases q : i < hs.length
      · have := h.rng i q
        omega
      · rw [getD_out (by omega)]
        omega
    have m2 : ((i : Int) - hs.getD i 0).natAbs < 2 ^ 400000 := Nat.lt_of_lt_of_le (m := 2 ^ 10) (by omega) (Nat.pow_le_pow_right (by decide) (by decide))
    obtain ⟨v, hv⟩ : ∃ v : Int, (i : Int) - hs.getD i 0 = v := ⟨_, rfl⟩
    rw [hv] at m2 ⊢
    generalize (D.lst ((acols hs).map fun i : Nat => .tup [nD i, .int ((i : Int) - hs.getD i 0)])) = LL
    simp only [↓xDef, ↓xSeq, ↓xDo, ↓xNext, ↓xRet, ↓xExp, ↓xIfS, ↓xAsg, ↓gN, ↓gT, ↓gsC, ↓gsN, ↓xV, ↓S.val, ↓S.bind, ↓S.opt, ↓x2, ↓x1, ↓xN, ↓xB, ↓xD, ↓xAnd, ↓xOr, ↓xNot, ↓xIf, ↓xAndV, ↓xOrV, ↓xNotV, ↓xChain, ↓aNil, ↓aCons, ↓xTup, ↓few, ↓xF, ↓xC, ↓xSetI, ↓xPar, ↓xCall, ↓xFrz, ↓xM, live, i2, dSub, dAdd, dMul, dMulA, dMod, dDiv, dLt, dLe, dGt, dGe, dIx, at10, at20, at21, at30, at31, at32, cst0, cst1, cst2, cst3, dNeg, dAbs, dInt, dLen, dMin2, dMax2, dGcd, dTuple, ↓iR1, ↓iR2, ↓iV, items, ↓iEn, items1, nocel, nocels, List.map_cons, List.map_nil, List.getElem?_cons_zero, List.getElem?_cons_succ, List.getElem?_nil, List.set_cons_zero, List.set_cons_succ, List.length_cons, List.length_nil, List.replicate, List.cons_append, List.nil_append, Nat.reduceAdd, Nat.reduceSub, Bool.false_eq_true, if_true, if_false, Option.map_some, Option.bind_some, Option.bind_none, Bool.and_true, Bool.and_false, Bool.true_and, Bool.not_true, Bool.not_false, decide_true, decide_false, vw_n, vw_b, vw_i, vw_s, vw_u, vw_l, vw_o, ie_n, ie_b, ie_i, ie_s, ie_u, ie_l, ie_c, x10, x20, x21, x30, x31, x32, fin_b, fin_i, eq_ii, ne_ii, List.take_length, vw_k, ie_k, id_eq, Nat.reduceLeDiff, ↓xSl, ↓xAugI, ↓oE, ↓oNo, ↓xLs, ↓xExt, ↓iZp, m1, m2, and_self, hn]
  have l3 := risen (cols := (acols hs).filter fun i : Nat => (((i : Int) - hs.getD i 0) * s - x) % n == 0) hl h.pos C
  have l4 : riseS (fun i => ((acols hs).filter fun i : Nat => (((i : Int) - hs.getD i 0) * s - x) % n == 0).any fun c => c == i) hs = grow n s x hs := by
    rw [grow_rise]
    refine riseS_congr fun i hi => ?_
    rw [glet_eq, Bool.eq_iff_iff, List.any_eq_true]
    constructor
    · rintro ⟨j, hj, hji⟩
      rw [List.mem_filter, acols_mem] at hj
      have : j = i := by simpa using hji
      subst this
      rw [hj.1.2, hj.2]
      rfl
    · intro q
      rw [Bool.and_eq_true] at q
      exact ⟨i, List.mem_filter.mpr ⟨acols_mem.mpr ⟨hi, q.1⟩, q.2⟩, by simp⟩
  rw [l4] at l3
  generalize (((acols hs).filter fun i : Nat => (((i : Int) - hs.getD i 0) * s - x) % n == 0).map nD) = L2 at l2 l3
  generalize ((acols hs).map fun i : Nat => D.tup [nD i, .int ((i : Int) - hs.getD i 0)]) = L1 at l1 l2
  have hf : fin C.length (iT (grow n s x hs)) C = some (.ok (iT (grow n s x hs)) C) := fin_iT
  unfold m_grown_in b_grown_in
  simp only [↓xDef, ↓xSeq, ↓xDo, ↓xNext, ↓xRet, ↓xExp, ↓xIfS, ↓xAsg, ↓gN, ↓gT, ↓gsC, ↓gsN, ↓xV, ↓S.val, ↓S.bind, ↓S.opt, ↓x2, ↓x1, ↓xN, ↓xB, ↓xD, ↓xAnd, ↓xOr, ↓xNot, ↓xIf, ↓xAndV, ↓xOrV, ↓xNotV, ↓xChain, ↓aNil, ↓aCons, ↓xTup, ↓few, ↓xF, ↓xC, ↓xSetI, ↓xPar, ↓xCall, ↓xFrz, ↓xM, live, i2, dSub, dAdd, dMul, dMulA, dMod, dDiv, dLt, dLe, dGt, dGe, dIx, at10, at20, at21, at30, at31, at32, cst0, cst1, cst2, cst3, dNeg, dAbs, dInt, dLen, dMin2, dMax2, dGcd, dTuple, ↓iR1, ↓iR2, ↓iV, items, ↓iEn, items1, nocel, nocels, List.map_cons, List.map_nil, List.getElem?_cons_zero, List.getElem?_cons_succ, List.getElem?_nil, List.set_cons_zero, List.set_cons_succ, List.length_cons, List.length_nil, List.replicate, List.cons_append, List.nil_append, Nat.reduceAdd, Nat.reduceSub, Bool.false_eq_true, if_true, if_false, Option.map_some, Option.bind_some, Option.bind_none, Bool.and_true, Bool.and_false, Bool.true_and, Bool.not_true, Bool.not_false, decide_true, decide_false, vw_n, vw_b, vw_i, vw_s, vw_u, vw_l, vw_o, ie_n, ie_b, ie_i, ie_s, ie_u, ie_l, ie_c, x10, x20, x21, x30, x31, x32, fin_b, fin_i, eq_ii, ne_ii, List.take_length, vw_k, ie_k, id_eq, Nat.reduceLeDiff, ↓xSl, ↓xAugI, ↓oE, ↓oNo, ↓xLs, ↓xExt, ↓iZp, aStar, seqD, hap, hal, l1, l2, l3, hf]
theorem small_sides {k : Nat} {hs : List Int} (h : Hg k hs) (hk : k ≤ 60) (C : Cells) : m_require_small_sides [iT hs] C = some (.ok (iT hs) C) := by
  have hl := h.len
  obtain ⟨m, hm, hm2⟩ : ∃ m, dMaxDf [iT hs] [.int 0] = some (.int m) ∧ m ≤ 60 := by
    show ∃ m, (intsOf (hs.map D.int)).map (maxD0 (.int 0)) = some (.int m) ∧ m ≤ 60
    rw [intsOf_map, Option.map_some]
    cases hs with
    | nil => exact ⟨0, rfl, by decide⟩
    | cons a r =>
      refine ⟨maxI a r, rfl, ?_⟩
      have h60 : ∀ z ∈ a :: r, z ≤ 60 := fun z hz => by
        obtain ⟨i, hi, rfl⟩ := mem_getD hz
        have := h.rng i hi
        omega
      rcases (maxI_ok r a).1 with e | e
      · rw [e]; exact h60 _ List.mem_cons_self
      · exact h60 _ (List.mem_cons_of_mem _ e)
  have d1 : decide (((hs.map D.int).length : Int) > 60) = false := by rw [List.length_map]; simp; omega
  have d2 : decide (m > 60) = false := by simp; omega
  unfold m_require_small_sides b_require_small_sides
  simp only [↓xDef, ↓xSeq, ↓xDo, ↓xNext, ↓xRet, ↓xExp, ↓xIfS, ↓xAsg, ↓gN, ↓gT, ↓gsC, ↓gsN, ↓xV, ↓S.val, ↓S.bind, ↓S.opt, ↓x2, ↓x1, ↓xN, ↓xB, ↓xD, ↓xAnd, ↓xOr, ↓xNot, ↓xIf, ↓xAndV, ↓xOrV, ↓xNotV, ↓xChain, ↓aNil, ↓aCons, ↓xTup, ↓few, ↓xF, ↓xC, ↓xSetI, ↓xPar, ↓xCall, ↓xFrz, ↓xM, live, i2, dSub, dAdd, dMul, dMulA, dMod, dDiv, dLt, dLe, dGt, dGe, dIx, atI, dNeg, dAbs, dInt, dLen, dMin2, dMax2, dGcd, dTuple, ↓iR1, ↓iR2, ↓iV, items, ↓iEn, items1, nocel, nocels, List.map_cons, List.map_nil, List.getElem?_cons_zero, List.getElem?_cons_succ, List.getElem?_nil, List.set_cons_zero, List.set_cons_succ, List.length_cons, List.length_nil, List.replicate, List.cons_append, List.nil_append, Nat.reduceAdd, Nat.reduceSub, Bool.false_eq_true, if_true, if_false, Option.map_some, Option.bind_some, Option.bind_none, Bool.and_true, Bool.and_false, Bool.true_and, Bool.not_true, Bool.not_false, decide_true, decide_false, vw_n, vw_b, vw_i, vw_s, vw_u, vw_l, vw_o, ie_n, ie_b, ie_i, ie_s, ie_u, ie_l, ie_c, x10, x20, x21, x30, x31, x32, fin_b, fin_i, eq_ii, ne_ii, List.take_length, vw_k, ie_k, id_eq, Nat.reduceLeDiff, ↓xSl, ↓xAugI, ↓oE, ↓oNo, ↓xLs, ↓xExt, ↓iZp, xNK, hm, d1, d2, fin_iT]
theorem grown {n s x : Int} {k : Nat} {hs : List Int} (h : Hg k hs) (hk : k + 1 ≤ 60) (h1 : 2 ≤ n) (h2 : n ≤ 60) (h3 : 1 ≤ s) (h4 : s < n) (h5 : 0 ≤ x) (h6 : x < n) (C : Cells) : m_grown [iT hs, .tup [.int n, .int s], .int x] C = some (.ok (iT (grow n s x hs)) C) := by
  have e1 := req_heap (h.hp0 (by omega)) C
  have e2 := ring_in h1 h2 h3 h4 C
  have e3 := is_within (d := .int x) (lo := 0) (hi := n - 1) C rfl
  have w4 : withinB (.int x) 0 (n - 1) = true := by simp [withinB]; omega
  rw [w4] at e3
  have e4 := grown_in (n := n) (s := s) (x := x) h (by omega) (by omega) (Nat.lt_of_lt_of_le (m := 2 ^ 10) (by omega) (Nat.pow_le_pow_right (by decide) (by decide))) C
  have e5 := small_sides (hg_grow h n s x) hk C
  have hf : fin C.length (iT (grow n s x hs)) C = some (.ok (iT (grow n s x hs)) C) := fin_iT
  unfold m_grown b_grown
  simp only [↓xDef, ↓xSeq, ↓xDo, ↓xNext, ↓xRet, ↓xExp, ↓xIfS, ↓xAsg, ↓gN, ↓gT, ↓gsC, ↓gsN, ↓xV, ↓S.val, ↓S.bind, ↓S.opt, ↓x2, ↓x1, ↓xN, ↓xB, ↓xD, ↓xAnd, ↓xOr, ↓xNot, ↓xIf, ↓xAndV, ↓xOrV, ↓xNotV, ↓xChain, ↓aNil, ↓aCons, ↓xTup, ↓few, ↓xF, ↓xC, ↓xSetI, ↓xPar, ↓xCall, ↓xFrz, ↓xM, live, i2, dSub, dAdd, dMul, dMulA, dMod, dDiv, dLt, dLe, dGt, dGe, dIx, at10, at20, at21, at30, at31, at32, cst0, cst1, cst2, cst3, dNeg, dAbs, dInt, dLen, dMin2, dMax2, dGcd, dTuple, ↓iR1, ↓iR2, ↓iV, items, ↓iEn, items1, nocel, nocels, List.map_cons, List.map_nil, List.getElem?_cons_zero, List.getElem?_cons_succ, List.getElem?_nil, List.set_cons_zero, List.set_cons_succ, List.length_cons, List.length_nil, List.replicate, List.cons_append, List.nil_append, Nat.reduceAdd, Nat.reduceSub, Bool.false_eq_true, if_true, if_false, Option.map_some, Option.bind_some, Option.bind_none, Bool.and_true, Bool.and_false, Bool.true_and, Bool.not_true, Bool.not_false, decide_true, decide_false, vw_n, vw_b, vw_i, vw_s, vw_u, vw_l, vw_o, ie_n, ie_b, ie_i, ie_s, ie_u, ie_l, ie_c, x10, x20, x21, x30, x31, x32, fin_b, fin_i, eq_ii, ne_ii, List.take_length, vw_k, ie_k, id_eq, Nat.reduceLeDiff, ↓xSl, ↓xAugI, ↓oE, ↓oNo, ↓xLs, ↓xExt, ↓iZp, e1, e2, e3, e4, e5, hf]
/-- the heaps along a chain -/
def hps (ps : List ((Int × Int) × Int)) : List D := (List.range (ps.length + 1)).map fun k => iT ((ps.take k).foldl stepH [])
theorem hps_snoc (ps : List ((Int × Int) × Int)) (p : (Int × Int) × Int) : hps (ps ++ [p]) = hps ps ++ [iT ((ps ++ [p]).foldl stepH [])] := by
  unfold hps
  rw [List.length_append, List.length_singleton, List.range_succ (n := ps.length + 1), List.map_append]
  congr 1
  · refine List.map_congr_left fun k hk => ?_
    have := List.mem_range.mp hk
    rw [List.take_append_of_le_length (by omega)]
  · rw [List.map_singleton, List.take_of_length_le (by simp)]
theorem hps_last (ps : List ((Int × Int) × Int)) : ∃ ds, hps ps = ds ++ [iT (ps.foldl stepH [])] := by
  refine ⟨(List.range ps.length).map fun k => iT ((ps.take k).foldl stepH []), ?_⟩
  unfold hps
  rw [List.range_succ, List.map_append, List.map_singleton, List.take_length]
theorem at_last (ds : List D) (d : D) : atI (ds ++ [d]) (-1) = some d := by
  have hx : ixN (ds ++ [d]).length (-1) = some ds.length := by
    unfold ixN
    have h1 : ((-1 : Int) + ((ds ++ [d]).length : Int)).toNat = ds.length := by rw [List.length_append, List.length_singleton]; omega
    have h2 : (0 : Int) ≤ -1 + ((ds ++ [d]).length : Int) := by rw [List.length_append, List.length_singleton]; omega
    have h3 : (-1 : Int) + ((ds ++ [d]).length : Int) < ((ds ++ [d]).length : Int) := by omega
    have h4 : -((ds ++ [d]).length : Int) ≤ -1 := by rw [List.length_append, List.length_singleton]; omega
    rw [if_neg (show ¬ ((0 : Int) ≤ -1) by decide), if_pos h4, Int.add_comm]
    rw [Int.add_comm]
    first | rw [h1] | rw [Int.add_comm, h1]
  unfold atI
  rw [hx, Option.bind_some, List.getElem?_append_right (Nat.le_refl _), Nat.sub_self]
  rfl
theorem hps_at (ps : List ((Int × Int) × Int)) : atI (hps ps) (-1) = some (iT (ps.foldl stepH [])) := by
  obtain ⟨ds, e⟩ := hps_last ps
  rw [e, at_last]
theorem hps_nc (ps : List ((Int × Int) × Int)) : nocels (hps ps) = true := nocels_all fun d hd => by
  obtain ⟨k, _, rfl⟩ := List.mem_map.mp hd
  exact nocels_i _
theorem hps_len (ps : List ((Int × Int) × Int)) : (hps ps).length = ps.length + 1 := by simp [hps]
theorem heaps_in {cs : Ch} {xs : List Int} (hv : Cv cs) (h : Tv cs xs) (hl : cs.length ≤ 58) (C : Cells) : m_heaps_in [chD cs, iT xs] C = some (.ok (.tup (hps (cs.zip xs))) C) := by
  obtain ⟨e2, C2, g1, t3, t4, rfl, rfl⟩ := lp_pre (t := gT (gsC (gN 3) (gsC (gN 4) gsN))) (b := q1_heaps_in) (fun p : (Int × Int) × Int => .tup [rd p.1, .int p.2])
    (fun pre e C' => ∃ (t3 t4 : Option D), e = [some (chD cs), some (iT xs), some (.cel C.length), t3, t4] ∧ C' = C ++ [some (.l (hps pre))])
    (cs.zip xs) [some (chD cs), some (iT xs), some (.cel C.length), none, none] (C ++ [some (.l (hps []))]) ⟨none, none, rfl, rfl⟩ fun pre p post e C' hx ⟨t3, t4, he, hC⟩ => by
      subst he hC
      have hpl : pre.length < (cs.zip xs).length := by rw [hx]; simp
      rw [List.length_zip] at hpl
      obtain ⟨k1, k2, k3⟩ := h.zip p (by rw [hx]; simp)
      obtain ⟨c1, c2, c3, c4⟩ := hv _ k1
      have hg := hg_fold pre hg_nil
      obtain ⟨⟨n, s⟩, x⟩ := p
      dsimp only at c1 c2 c3 c4
      have e := grown_in (n := n) (s := s) (x := x) hg (show 0 + pre.length ≤ 60 by omega) (by omega) (Nat.lt_of_lt_of_le (m := 2 ^ 10) (by omega) (Nat.pow_le_pow_right (by decide) (by decide))) (C ++ [some (.l (hps pre))])
      refine ⟨[some (chD cs), some (iT xs), some (.cel C.length), some (rd (n, s)), some (.int x)], rfl, [some (chD cs), some (iT xs), some (.cel C.length), some (rd (n, s)), some (.int x)], C ++ [some (.l (hps (pre ++ [((n, s), x)])))], ?_, some (rd (n, s)), some (.int x), rfl, rfl⟩
      have hv : vw (C ++ [some (.l (hps pre))]) (.cel C.length) = .lst (hps pre) := vw_c (by simp)
      have hc : (C ++ [some (Ob.l (hps pre))])[C.length]? = some (some (.l (hps pre))) := by simp
      have hset : ∀ y : Option Ob, (C ++ [some (Ob.l (hps pre))]).set C.length y = C ++ [y] := fun y => by simp
      have ha := hps_at pre
      have hle : (hps pre).length < 1000000 := by rw [hps_len]; omega
      have hnc := hps_nc (pre ++ [((n, s), x)])
      rw [hps_snoc, List.foldl_append] at hnc
      have hnc : nocels (hps pre ++ [iT (grow n s x (pre.foldl stepH []))]) = true := hnc
      rw [hps_snoc, List.foldl_append]
      show _ = some (RS.nx _ (C ++ [some (.l (hps pre ++ [iT (grow n s x (pre.foldl stepH []))]))]))
      unfold q1_heaps_in rd
      simp only [↓xDef, ↓xSeq, ↓xDo, ↓xNext, ↓xRet, ↓xExp, ↓xIfS, ↓xAsg, ↓gN, ↓gT, ↓gsC, ↓gsN, ↓xV, ↓S.val, ↓S.bind, ↓S.opt, ↓x2, ↓x1, ↓xN, ↓xB, ↓xD, ↓xAnd, ↓xOr, ↓xNot, ↓xIf, ↓xAndV, ↓xOrV, ↓xNotV, ↓xChain, ↓aNil, ↓aCons, ↓xTup, ↓few, ↓xF, ↓xC, ↓xSetI, ↓xPar, ↓xCall, ↓xFrz, ↓xM, live, i2, dSub, dAdd, dMul, dMulA, dMod, dDiv, dLt, dLe, dGt, dGe, dIx, at10, at20, at21, at30, at31, at32, cst0, cst1, cst2, cst3, dNeg, dAbs, dInt, dLen, dMin2, dMax2, dGcd, dTuple, ↓iR1, ↓iR2, ↓iV, items, ↓iEn, items1, nocel, nocels, List.map_cons, List.map_nil, List.getElem?_cons_zero, List.getElem?_cons_succ, List.getElem?_nil, List.set_cons_zero, List.set_cons_succ, List.length_cons, List.length_nil, List.replicate, List.cons_append, List.nil_append, Nat.reduceAdd, Nat.reduceSub, Bool.false_eq_true, if_true, if_false, Option.map_some, Option.bind_some, Option.bind_none, Bool.and_true, Bool.and_false, Bool.true_and, Bool.not_true, Bool.not_false, decide_true, decide_false, vw_n, vw_b, vw_i, vw_s, vw_u, vw_l, vw_o, ie_n, ie_b, ie_i, ie_s, ie_u, ie_l, ie_c, x10, x20, x21, x30, x31, x32, fin_b, fin_i, eq_ii, ne_ii, List.take_length, vw_k, ie_k, id_eq, Nat.reduceLeDiff, ↓xSl, ↓xAugI, ↓oE, ↓oNo, ↓xLs, ↓xExt, ↓iZp, hv, hc, ha, e, hset, mAppend, hle, nocels_i, hnc, Option.isSome_some]
  have hq : q2_heaps_in [some (chD cs), some (iT xs), some (.cel C.length), none, none] (C ++ [some (.l (hps []))]) = some (.nx [some (chD cs), some (iT xs), some (.cel C.length), t3, t4] (C ++ [some (.l (hps (cs.zip xs)))])) := by
    unfold q2_heaps_in
    refine (xFor_ok (ds := (cs.zip xs).map fun p : (Int × Int) × Int => .tup [rd p.1, .int p.2]) (g := gd0) (C1 := C ++ [some (.l (hps []))]) ?_).trans g1
    unfold chD
    simp only [↓xDef, ↓xSeq, ↓xDo, ↓xNext, ↓xRet, ↓xExp, ↓xIfS, ↓xAsg, ↓gN, ↓gT, ↓gsC, ↓gsN, ↓xV, ↓S.val, ↓S.bind, ↓S.opt, ↓x2, ↓x1, ↓xN, ↓xB, ↓xD, ↓xAnd, ↓xOr, ↓xNot, ↓xIf, ↓xAndV, ↓xOrV, ↓xNotV, ↓xChain, ↓aNil, ↓aCons, ↓xTup, ↓few, ↓xF, ↓xC, ↓xSetI, ↓xPar, ↓xCall, ↓xFrz, ↓xM, live, i2, dSub, dAdd, dMul, dMulA, dMod, dDiv, dLt, dLe, dGt, dGe, dIx, at10, at20, at21, at30, at31, at32, cst0, cst1, cst2, cst3, dNeg, dAbs, dInt, dLen, dMin2, dMax2, dGcd, dTuple, ↓iR1, ↓iR2, ↓iV, items, ↓iEn, items1, nocel, nocels, List.map_cons, List.map_nil, List.getElem?_cons_zero, List.getElem?_cons_succ, List.getElem?_nil, List.set_cons_zero, List.set_cons_succ, List.length_cons, List.length_nil, List.replicate, List.cons_append, List.nil_append, Nat.reduceAdd, Nat.reduceSub, Bool.false_eq_true, if_true, if_false, Option.map_some, Option.bind_some, Option.bind_none, Bool.and_true, Bool.and_false, Bool.true_and, Bool.not_true, Bool.not_false, decide_true, decide_false, vw_n, vw_b, vw_i, vw_s, vw_u, vw_l, vw_o, ie_n, ie_b, ie_i, ie_s, ie_u, ie_l, ie_c, x10, x20, x21, x30, x31, x32, fin_b, fin_i, eq_ii, ne_ii, List.take_length, vw_k, ie_k, id_eq, Nat.reduceLeDiff, ↓xSl, ↓xAugI, ↓oE, ↓oNo, ↓xLs, ↓xExt, ↓iZp, zips, prs_map2]
  have hv : vw (C ++ [some (.l (hps (cs.zip xs)))]) (.cel C.length) = .lst (hps (cs.zip xs)) := vw_c (by simp)
  have hf : fin C.length (.tup (hps (cs.zip xs))) (C ++ [some (.l (hps (cs.zip xs)))]) = some (.ok (.tup (hps (cs.zip xs))) C) := by
    rw [fin_n (show nocel (.tup _) = true from hps_nc _), List.take_left]
  have h0 : hps [] = [.tup []] := rfl
  rw [h0] at hq
  unfold m_heaps_in b_heaps_in
  simp only [↓xDef, ↓xSeq, ↓xDo, ↓xNext, ↓xRet, ↓xExp, ↓xIfS, ↓xAsg, ↓gN, ↓gT, ↓gsC, ↓gsN, ↓xV, ↓S.val, ↓S.bind, ↓S.opt, ↓x2, ↓x1, ↓xN, ↓xB, ↓xD, ↓xAnd, ↓xOr, ↓xNot, ↓xIf, ↓xAndV, ↓xOrV, ↓xNotV, ↓xChain, ↓aNil, ↓aCons, ↓xTup, ↓few, ↓xF, ↓xC, ↓xSetI, ↓xPar, ↓xCall, ↓xFrz, ↓xM, live, i2, dSub, dAdd, dMul, dMulA, dMod, dDiv, dLt, dLe, dGt, dGe, dIx, at10, at20, at21, at30, at31, at32, cst0, cst1, cst2, cst3, dNeg, dAbs, dInt, dLen, dMin2, dMax2, dGcd, dTuple, ↓iR1, ↓iR2, ↓iV, items, ↓iEn, items1, nocel, nocels, List.map_cons, List.map_nil, List.getElem?_cons_zero, List.getElem?_cons_succ, List.getElem?_nil, List.set_cons_zero, List.set_cons_succ, List.length_cons, List.length_nil, List.replicate, List.cons_append, List.nil_append, Nat.reduceAdd, Nat.reduceSub, Bool.false_eq_true, if_true, if_false, Option.map_some, Option.bind_some, Option.bind_none, Bool.and_true, Bool.and_false, Bool.true_and, Bool.not_true, Bool.not_false, decide_true, decide_false, vw_n, vw_b, vw_i, vw_s, vw_u, vw_l, vw_o, ie_n, ie_b, ie_i, ie_s, ie_u, ie_l, ie_c, x10, x20, x21, x30, x31, x32, fin_b, fin_i, eq_ii, ne_ii, List.take_length, vw_k, ie_k, id_eq, Nat.reduceLeDiff, ↓xSl, ↓xAugI, ↓oE, ↓oNo, ↓xLs, ↓xExt, ↓iZp, hq, hv, hf]
theorem heap_in {cs : Ch} {xs : List Int} (hv : Cv cs) (h : Tv cs xs) (hl : cs.length ≤ 58) (C : Cells) : m_heap_in [chD cs, iT xs] C = some (.ok (iT (heapF cs xs)) C) := by
  have e := heaps_in hv h hl C
  have ec := ie_ch cs
  have ha := hps_at (cs.zip xs)
  unfold m_heap_in b_heap_in heapF
  simp only [↓xDef, ↓xSeq, ↓xDo, ↓xNext, ↓xRet, ↓xExp, ↓xIfS, ↓xAsg, ↓gN, ↓gT, ↓gsC, ↓gsN, ↓xV, ↓S.val, ↓S.bind, ↓S.opt, ↓x2, ↓x1, ↓xN, ↓xB, ↓xD, ↓xAnd, ↓xOr, ↓xNot, ↓xIf, ↓xAndV, ↓xOrV, ↓xNotV, ↓xChain, ↓aNil, ↓aCons, ↓xTup, ↓few, ↓xF, ↓xC, ↓xSetI, ↓xPar, ↓xCall, ↓xFrz, ↓xM, live, i2, dSub, dAdd, dMul, dMulA, dMod, dDiv, dLt, dLe, dGt, dGe, dIx, at10, at20, at21, at30, at31, at32, cst0, cst1, cst2, cst3, dNeg, dAbs, dInt, dLen, dMin2, dMax2, dGcd, dTuple, ↓iR1, ↓iR2, ↓iV, items, ↓iEn, items1, nocel, nocels, List.map_cons, List.map_nil, List.getElem?_cons_zero, List.getElem?_cons_succ, List.getElem?_nil, List.set_cons_zero, List.set_cons_succ, List.length_cons, List.length_nil, List.replicate, List.cons_append, List.nil_append, Nat.reduceAdd, Nat.reduceSub, Bool.false_eq_true, if_true, if_false, Option.map_some, Option.bind_some, Option.bind_none, Bool.and_true, Bool.and_false, Bool.true_and, Bool.not_true, Bool.not_false, decide_true, decide_false, vw_n, vw_b, vw_i, vw_s, vw_u, vw_l, vw_o, ie_n, ie_b, ie_i, ie_s, ie_u, ie_l, ie_c, x10, x20, x21, x30, x31, x32, fin_b, fin_i, eq_ii, ne_ii, List.take_length, vw_k, ie_k, id_eq, Nat.reduceLeDiff, ↓xSl, ↓xAugI, ↓oE, ↓oNo, ↓xLs, ↓xExt, ↓iZp, ec, e, ha, fin_iT]
theorem heap_of {cs : Ch} {xs : List Int} (hv : Cv cs) (h : Tv cs xs) (h1 : 1 ≤ cs.length) (h2 : cs.length ≤ 12) (C : Cells) : m_heap_of [chD cs, iT xs] C = some (.ok (iT (heapF cs xs)) C) := by
  have e := heap_in hv h (by omega) C
  have ec := ie_ch cs
  have e1 := chain_rq hv h1 h2 C
  have e2 := req_tuple (by omega) h C
  unfold m_heap_of b_heap_of
  simp only [↓xDef, ↓xSeq, ↓xDo, ↓xNext, ↓xRet, ↓xExp, ↓xIfS, ↓xAsg, ↓gN, ↓gT, ↓gsC, ↓gsN, ↓xV, ↓S.val, ↓S.bind, ↓S.opt, ↓x2, ↓x1, ↓xN, ↓xB, ↓xD, ↓xAnd, ↓xOr, ↓xNot, ↓xIf, ↓xAndV, ↓xOrV, ↓xNotV, ↓xChain, ↓aNil, ↓aCons, ↓xTup, ↓few, ↓xF, ↓xC, ↓xSetI, ↓xPar, ↓xCall, ↓xFrz, ↓xM, live, i2, dSub, dAdd, dMul, dMulA, dMod, dDiv, dLt, dLe, dGt, dGe, dIx, at10, at20, at21, at30, at31, at32, cst0, cst1, cst2, cst3, dNeg, dAbs, dInt, dLen, dMin2, dMax2, dGcd, dTuple, ↓iR1, ↓iR2, ↓iV, items, ↓iEn, items1, nocel, nocels, List.map_cons, List.map_nil, List.getElem?_cons_zero, List.getElem?_cons_succ, List.getElem?_nil, List.set_cons_zero, List.set_cons_succ, List.length_cons, List.length_nil, List.replicate, List.cons_append, List.nil_append, Nat.reduceAdd, Nat.reduceSub, Bool.false_eq_true, if_true, if_false, Option.map_some, Option.bind_some, Option.bind_none, Bool.and_true, Bool.and_false, Bool.true_and, Bool.not_true, Bool.not_false, decide_true, decide_false, vw_n, vw_b, vw_i, vw_s, vw_u, vw_l, vw_o, ie_n, ie_b, ie_i, ie_s, ie_u, ie_l, ie_c, x10, x20, x21, x30, x31, x32, fin_b, fin_i, eq_ii, ne_ii, List.take_length, vw_k, ie_k, id_eq, Nat.reduceLeDiff, ↓xSl, ↓xAugI, ↓oE, ↓oNo, ↓xLs, ↓xExt, ↓iZp, ec, e, e1, e2, fin_iT]

end Sk15
end
section
set_option maxRecDepth 100000
set_option maxHeartbeats 0
set_option exponentiation.threshold 1000000
namespace Sk15
open PySem L2 Sm
theorem canA_iff {hs : List Int} {j : Nat} : canA hs j = true ↔ j = 0 ∨ hs.getD j 0 < hs.getD (j - 1) 0 := by
  unfold canA
  rw [Bool.or_eq_true, decide_eq_true_eq, decide_eq_true_eq]
theorem glet_iff {n s x : Int} {hs : List Int} {i : Nat} : glet n s x hs i = true ↔ (i = 0 ∨ hs.getD i 0 < hs.getD (i - 1) 0) ∧ (((i : Int) - hs.getD i 0) * s - x) % n = 0 := by
  rw [glet_eq, Bool.and_eq_true, canA_iff, beq_iff_eq]
theorem Hg.le' {k : Nat} {hs : List Int} (h : Hg k hs) {i j : Nat} (hij : i ≤ j) : hs.getD j 0 ≤ hs.getD i 0 := by
  by_cases q : j < hs.length
  · exact h.le hij q
  · rw [getD_out (by omega)]
    by_cases q2 : i < hs.length
    · have := h.rng i q2
      omega
    · rw [getD_out (by omega)]
      exact Int.le_refl _
theorem Hg.nn {k : Nat} {hs : List Int} (h : Hg k hs) (i : Nat) : 0 ≤ hs.getD i 0 := by
  by_cases q : i < hs.length
  · have := h.rng i q; omega
  · rw [getD_out (by omega)]; exact Int.le_refl _
theorem grow_at (n s x : Int) (hs : List Int) (i : Nat) : (grow n s x hs).getD i 0 = hs.getD i 0 + if glet n s x hs i = true then 1 else 0 := by
  rw [grow_rise, rise_get]
  by_cases q : i ≤ hs.length
  · simp [q]
  · have : ¬ glet n s x hs i = true := fun z => by
      rcases (glet_iff.mp z).1 with e | e
      · omega
      · rw [getD_out (by omega), getD_out (by omega)] at e
        omega
    rw [if_neg this, if_neg (fun z => q z.1)]
def LeH (A B : List Int) : Prop := ∀ i : Nat, A.getD i 0 ≤ B.getD i 0
/-- growing goes along with what two heaps have in common -/
theorem grow_min {k l : Nat} {A B M : List Int} (hA : Hg k A) (hB : Hg l B) (h : ∀ i : Nat, M.getD i 0 = min (A.getD i 0) (B.getD i 0)) (n s x : Int) :
    ∀ i : Nat, (grow n s x M).getD i 0 = min ((grow n s x A).getD i 0) ((grow n s x B).getD i 0) := by
  intro i
  rw [grow_at, grow_at, grow_at]
  have e := h i
  have e2 := h (i - 1)
  have lA := hA.le' (show i - 1 ≤ i by omega)
  have lB := hB.le' (show i - 1 ≤ i by omega)
  rcases Int.lt_trichotomy (A.getD i 0) (B.getD i 0) with q | q | q
  · have eM : M.getD i 0 = A.getD i 0 := by omega
    have : glet n s x M i = glet n s x A i := by
      rw [Bool.eq_iff_iff, glet_iff, glet_iff, eM]
      refine and_congr_left fun _ => or_congr_right ?_
      omega
    rw [this, eM]
    split <;> split <;> omega
  · have eM : M.getD i 0 = A.getD i 0 := by omega
    have : glet n s x M i = (glet n s x A i && glet n s x B i) := by
      rw [Bool.eq_iff_iff, Bool.and_eq_true, glet_iff, glet_iff, glet_iff, eM, ← q]
      constructor
      · rintro ⟨a, b⟩
        exact ⟨⟨a.imp_right fun a => by omega, b⟩, a.imp_right fun a => by omega, b⟩
      · rintro ⟨⟨a, b⟩, a', _⟩
        refine ⟨?_, b⟩
        rcases a with a | a
        · exact .inl a
        · rcases a' with a' | a'
          · exact .inl a'
          · exact .inr (by omega)
    rw [this, eM, ← q]
    cases glet n s x A i <;> cases glet n s x B i <;> simp <;> omega
  · have eM : M.getD i 0 = B.getD i 0 := by omega
    have : glet n s x M i = glet n s x B i := by
      rw [Bool.eq_iff_iff, glet_iff, glet_iff, eM]
      refine and_congr_left fun _ => or_congr_right ?_
      omega
    rw [this, eM]
    split <;> split <;> omega
theorem grow_mono {k l : Nat} {A B : List Int} (hA : Hg k A) (hB : Hg l B) (h : LeH A B) (n s x : Int) : LeH (grow n s x A) (grow n s x B) := fun i => by
  have := grow_min (M := A) hA hB (fun i => by have := h i; omega) n s x i
  omega
theorem grow_ge (A : List Int) (n s x : Int) : LeH A (grow n s x A) := fun i => by
  rw [grow_at]
  split <;> omega
theorem emod_uniq {a n x y : Int} (hn : 0 < n) (x0 : 0 ≤ x) (x1 : x < n) (y0 : 0 ≤ y) (y1 : y < n) (h1 : (a - x) % n = 0) (h2 : (a - y) % n = 0) : x = y := by
  have e1 := Int.emod_eq_emod_iff_emod_sub_eq_zero.mpr h1
  have e2 := Int.emod_eq_emod_iff_emod_sub_eq_zero.mpr h2
  rw [e1] at e2
  rwa [Int.emod_eq_of_lt x0 x1, Int.emod_eq_of_lt y0 y1] at e2
/-- two places of a ring have in common what was there -/
theorem grow_split {n s p q : Int} (hn : 0 < n) (p0 : 0 ≤ p) (p1 : p < n) (q0 : 0 ≤ q) (q1 : q < n) (hpq : p ≠ q) (H : List Int) (i : Nat) : H.getD i 0 = min ((grow n s p H).getD i 0) ((grow n s q H).getD i 0) := by
  rw [grow_at, grow_at]
  by_cases a : glet n s p H i = true
  · by_cases b : glet n s q H i = true
    · exact absurd (emod_uniq hn p0 p1 q0 q1 (glet_iff.mp a).2 (glet_iff.mp b).2) hpq
    · rw [if_pos a, if_neg b]; omega
  · rw [if_neg a]
    split <;> omega
/-- does A hold B? -/
def holdB (A B : List Int) : Bool := decide (B.length ≤ A.length) && (A.zip B).all fun p => decide (p.2 ≤ p.1)
theorem holdB_iff {k l : Nat} {A B : List Int} (hA : Hg k A) (hB : Hg l B) : holdB A B = true ↔ LeH B A := by
  unfold holdB
  rw [Bool.and_eq_true, decide_eq_true_eq, List.all_eq_true]
  constructor
  · rintro ⟨h1, h2⟩ i
    by_cases q : i < B.length
    · have := h2 (A[i]'(by omega), B[i]) (by
        rw [List.mem_iff_getElem]
        exact ⟨i, by simp; omega, by simp⟩)
      simp at this
      simpa [List.getD_eq_getElem?_getD, q, show i < A.length by omega] using this
    · rw [getD_out (hs := B) (by omega)]
      exact hA.nn i
  · intro h
    have hl : B.length ≤ A.length := by
      by_cases q : B.length ≤ A.length
      · exact q
      · have h1 := h A.length
        have h2 := hB.rng A.length (by omega)
        rw [getD_out (hs := A) (Nat.le_refl _)] at h1
        omega
    refine ⟨hl, fun p hp => ?_⟩
    obtain ⟨i, hi, rfl⟩ := List.getElem_of_mem hp
    rw [List.length_zip] at hi
    have := h i
    simp [List.getD_eq_getElem?_getD, show i < B.length by omega, show i < A.length by omega] at this
    simpa using this
theorem holds_in {A B : List Int} (hA : A.length ≤ 1000) (C : Cells) : m_holds_in [iT A, iT B] C = some (.ok (.bl (holdB A B)) C) := by
  have l1 : q1_holds_in [some (iT A), some (iT B), none, none] C = some (.ok ((A.zip B).map fun p => .bl (decide (p.2 ≤ p.1))) C) := by
    unfold q1_holds_in
    refine lc_T0 (g := gd0) (fun p : Int × Int => .tup [.int p.1, .int p.2]) _ _ (by simp only [↓xDef, ↓xSeq, ↓xDo, ↓xNext, ↓xRet, ↓xExp, ↓xIfS, ↓xAsg, ↓gN, ↓gT, ↓gsC, ↓gsN, ↓xV, ↓S.val, ↓S.bind, ↓S.opt, ↓x2, ↓x1, ↓xN, ↓xB, ↓xD, ↓xAnd, ↓xOr, ↓xNot, ↓xIf, ↓xAndV, ↓xOrV, ↓xNotV, ↓xChain, ↓aNil, ↓aCons, ↓xTup, ↓few, ↓xF, ↓xC, ↓xSetI, ↓xPar, ↓xCall, ↓xFrz, ↓xM, live, i2, dSub, dAdd, dMul, dMulA, dMod, dDiv, dLt, dLe, dGt, dGe, dIx, atI, dNeg, dAbs, dInt, dLen, dMin2, dMax2, dGcd, dTuple, ↓iR1, ↓iR2, ↓iV, items, ↓iEn, items1, nocel, nocels, List.map_cons, List.map_nil, List.getElem?_cons_zero, List.getElem?_cons_succ, List.getElem?_nil, List.set_cons_zero, List.set_cons_succ, List.length_cons, List.length_nil, List.replicate, List.cons_append, List.nil_append, Nat.reduceAdd, Nat.reduceSub, Bool.false_eq_true, if_true, if_false, Option.map_some, Option.bind_some, Option.bind_none, Bool.and_true, Bool.and_false, Bool.true_and, Bool.not_true, Bool.not_false, decide_true, decide_false, vw_n, vw_b, vw_i, vw_s, vw_u, vw_l, vw_o, ie_n, ie_b, ie_i, ie_s, ie_u, ie_l, ie_c, x10, x20, x21, x30, x31, x32, fin_b, fin_i, eq_ii, ne_ii, List.take_length, vw_k, ie_k, id_eq, Nat.reduceLeDiff, ↓xSl, ↓xAugI, ↓oE, ↓oNo, ↓xLs, ↓xExt, ↓iZp, zips, prs_map2]) rfl (by rw [List.length_zip]; omega) fun p hp => ⟨[some (iT A), some (iT B), some (.int p.1), some (.int p.2)], rfl, by simp only [↓xDef, ↓xSeq, ↓xDo, ↓xNext, ↓xRet, ↓xExp, ↓xIfS, ↓xAsg, ↓gN, ↓gT, ↓gsC, ↓gsN, ↓xV, ↓S.val, ↓S.bind, ↓S.opt, ↓x2, ↓x1, ↓xN, ↓xB, ↓xD, ↓xAnd, ↓xOr, ↓xNot, ↓xIf, ↓xAndV, ↓xOrV, ↓xNotV, ↓xChain, ↓aNil, ↓aCons, ↓xTup, ↓few, ↓xF, ↓xC, ↓xSetI, ↓xPar, ↓xCall, ↓xFrz, ↓xM, live, i2, dSub, dAdd, dMul, dMulA, dMod, dDiv, dLt, dLe, dGt, dGe, dIx, atI, dNeg, dAbs, dInt, dLen, dMin2, dMax2, dGcd, dTuple, ↓iR1, ↓iR2, ↓iV, items, ↓iEn, items1, nocel, nocels, List.map_cons, List.map_nil, List.getElem?_cons_zero, List.getElem?_cons_succ, List.getElem?_nil, List.set_cons_zero, List.set_cons_succ, List.length_cons, List.length_nil, List.replicate, List.cons_append, List.nil_append, Nat.reduceAdd, Nat.reduceSub, Bool.false_eq_true, if_true, if_false, Option.map_some, Option.bind_some, Option.bind_none, Bool.and_true, Bool.and_false, Bool.true_and, Bool.not_true, Bool.not_false, decide_true, decide_false, vw_n, vw_b, vw_i, vw_s, vw_u, vw_l, vw_o, ie_n, ie_b, ie_i, ie_s, ie_u, ie_l, ie_c, x10, x20, x21, x30, x31, x32, fin_b, fin_i, eq_ii, ne_ii, List.take_length, vw_k, ie_k, id_eq, Nat.reduceLeDiff, ↓xSl, ↓xAugI, ↓oE, ↓oNo, ↓xLs, ↓xExt, ↓iZp]⟩
  have hl : decide (((B.map D.int).length : Int) ≤ ((A.map D.int).length : Int)) = decide (B.length ≤ A.length) := by
    rw [List.length_map, List.length_map]
    simp
  unfold m_holds_in b_holds_in holdB
  cases h : decide (B.length ≤ A.length) with
  | false =>
    rw [h] at hl
    simp only [↓xDef, ↓xSeq, ↓xDo, ↓xNext, ↓xRet, ↓xExp, ↓xIfS, ↓xAsg, ↓gN, ↓gT, ↓gsC, ↓gsN, ↓xV, ↓S.val, ↓S.bind, ↓S.opt, ↓x2, ↓x1, ↓xN, ↓xB, ↓xD, ↓xAnd, ↓xOr, ↓xNot, ↓xIf, ↓xAndV, ↓xOrV, ↓xNotV, ↓xChain, ↓aNil, ↓aCons, ↓xTup, ↓few, ↓xF, ↓xC, ↓xSetI, ↓xPar, ↓xCall, ↓xFrz, ↓xM, live, i2, dSub, dAdd, dMul, dMulA, dMod, dDiv, dLt, dLe, dGt, dGe, dIx, atI, dNeg, dAbs, dInt, dLen, dMin2, dMax2, dGcd, dTuple, ↓iR1, ↓iR2, ↓iV, items, ↓iEn, items1, nocel, nocels, List.map_cons, List.map_nil, List.getElem?_cons_zero, List.getElem?_cons_succ, List.getElem?_nil, List.set_cons_zero, List.set_cons_succ, List.length_cons, List.length_nil, List.replicate, List.cons_append, List.nil_append, Nat.reduceAdd, Nat.reduceSub, Bool.false_eq_true, if_true, if_false, Option.map_some, Option.bind_some, Option.bind_none, Bool.and_true, Bool.and_false, Bool.true_and, Bool.not_true, Bool.not_false, decide_true, decide_false, vw_n, vw_b, vw_i, vw_s, vw_u, vw_l, vw_o, ie_n, ie_b, ie_i, ie_s, ie_u, ie_l, ie_c, x10, x20, x21, x30, x31, x32, fin_b, fin_i, eq_ii, ne_ii, List.take_length, vw_k, ie_k, id_eq, Nat.reduceLeDiff, ↓xSl, ↓xAugI, ↓oE, ↓oNo, ↓xLs, ↓xExt, ↓iZp, hl, Bool.false_and]
  | true =>
    rw [h] at hl
    simp only [↓xDef, ↓xSeq, ↓xDo, ↓xNext, ↓xRet, ↓xExp, ↓xIfS, ↓xAsg, ↓gN, ↓gT, ↓gsC, ↓gsN, ↓xV, ↓S.val, ↓S.bind, ↓S.opt, ↓x2, ↓x1, ↓xN, ↓xB, ↓xD, ↓xAnd, ↓xOr, ↓xNot, ↓xIf, ↓xAndV, ↓xOrV, ↓xNotV, ↓xChain, ↓aNil, ↓aCons, ↓xTup, ↓few, ↓xF, ↓xC, ↓xSetI, ↓xPar, ↓xCall, ↓xFrz, ↓xM, live, i2, dSub, dAdd, dMul, dMulA, dMod, dDiv, dLt, dLe, dGt, dGe, dIx, atI, dNeg, dAbs, dInt, dLen, dMin2, dMax2, dGcd, dTuple, ↓iR1, ↓iR2, ↓iV, items, ↓iEn, items1, nocel, nocels, List.map_cons, List.map_nil, List.getElem?_cons_zero, List.getElem?_cons_succ, List.getElem?_nil, List.set_cons_zero, List.set_cons_succ, List.length_cons, List.length_nil, List.replicate, List.cons_append, List.nil_append, Nat.reduceAdd, Nat.reduceSub, Bool.false_eq_true, if_true, if_false, Option.map_some, Option.bind_some, Option.bind_none, Bool.and_true, Bool.and_false, Bool.true_and, Bool.not_true, Bool.not_false, decide_true, decide_false, vw_n, vw_b, vw_i, vw_s, vw_u, vw_l, vw_o, ie_n, ie_b, ie_i, ie_s, ie_u, ie_l, ie_c, x10, x20, x21, x30, x31, x32, fin_b, fin_i, eq_ii, ne_ii, List.take_length, vw_k, ie_k, id_eq, Nat.reduceLeDiff, ↓xSl, ↓xAugI, ↓oE, ↓oNo, ↓xLs, ↓xExt, ↓iZp, hl, l1, all_T, Bool.true_and]

end Sk15
end
section
set_option maxRecDepth 100000
set_option maxHeartbeats 0
set_option exponentiation.threshold 1000000
namespace Sk15
open PySem L2 Sm
/-! ### heaps turned over, heaps in common -/
def topH : List Int → Int
  | [] => 0
  | n :: r => maxI n r
def flipH (hs : List Int) : List Int := (List.range (topH hs).toNat).map fun r : Nat => ((hs.filter fun h => decide ((r : Int) < h)).length : Int)
theorem topH_eq {k : Nat} {hs : List Int} (h : Hg k hs) : topH hs = hs.getD 0 0 := by
  cases hs with
  | nil => rfl
  | cons n r =>
    obtain ⟨h1, h2, _⟩ := maxI_ok r n
    show maxI n r = n
    rcases h1 with e | e
    · exact e
    · obtain ⟨i, hi, e2⟩ := mem_getD e
      have := h.le' (show 0 ≤ i + 1 by omega)
      have e3 : (n :: r).getD (i + 1) 0 = r.getD i 0 := by simp
      have e4 : (n :: r).getD 0 0 = n := rfl
      omega
theorem count_lt {r : Int} (hr : 0 ≤ r) : ∀ {hs : List Int}, hs.Pairwise (· ≥ ·) → ∀ c : Nat, (c : Int) < ((hs.filter fun h => decide (r < h)).length : Int) ↔ r < hs.getD c 0
  | [], _, c => by
    show (c : Int) < ((0 : Nat) : Int) ↔ r < 0
    omega
  | a :: t, h, c => by
    obtain ⟨h1, h2⟩ := List.pairwise_cons.mp h
    by_cases q : r < a
    · rw [List.filter_cons_of_pos (by simpa using q), List.length_cons]
      cases c with
      | zero => exact ⟨fun _ => q, fun _ => by omega⟩
      | succ c =>
        have ih := count_lt hr h2 c
        have e : (a :: t).getD (c + 1) 0 = t.getD c 0 := by simp
        rw [e, ← ih]
        omega
    · have hn : (a :: t).filter (fun h => decide (r < h)) = [] := by
        rw [List.filter_eq_nil_iff]
        intro z hz
        rcases List.mem_cons.mp hz with rfl | hz
        · simpa using q
        · have : a ≥ z := h1 z hz
          simp
          omega
      rw [hn]
      constructor
      · intro z
        simp at z
        omega
      · intro z
        by_cases hc : c < (a :: t).length
        · have hm := getD_mem' hc
          rcases List.mem_cons.mp hm with e | hm
          · omega
          · have : a ≥ _ := h1 _ hm
            omega
        · rw [getD_out (by omega)] at z
          omega
theorem Hg.pw {k : Nat} {hs : List Int} (h : Hg k hs) : hs.Pairwise (· ≥ ·) := pw_of fun i j a b => h.le a b
theorem flip_ins {k : Nat} {hs : List Int} (h : Hg k hs) (c r : Nat) : (c : Int) < (flipH hs).getD r 0 ↔ (r : Int) < hs.getD c 0 := by
  unfold flipH
  by_cases q : r < (topH hs).toNat
  · rw [List.getD_eq_getElem?_getD, List.getElem?_map, List.getElem?_range q]
    exact count_lt (by omega) h.pw c
  · rw [getD_out (by simp; omega)]
    have h1 := topH_eq h
    have h2 := h.le' (show 0 ≤ c by omega)
    have h3 := h.nn 0
    constructor <;> intro z <;> omega
theorem hg_flip {k : Nat} {hs : List Int} (h : Hg k hs) : Hg k (flipH hs) := by
  have hl : (flipH hs).length = (topH hs).toNat := by simp [flipH]
  have h1 := topH_eq h
  have ht : topH hs ≤ k := by
    rw [h1]
    by_cases q : 0 < hs.length
    · exact (h.rng 0 q).2
    · rw [getD_out (by omega)]; omega
  have nn : ∀ r, 0 ≤ (flipH hs).getD r 0 := fun r => by
    by_cases q : r < (flipH hs).length
    · unfold flipH
      rw [List.getD_eq_getElem?_getD, List.getElem?_map, List.getElem?_range (by omega)]
      exact Int.natCast_nonneg _
    · rw [getD_out (by omega)]; exact Int.le_refl _
  refine ⟨by omega, fun r hr => ⟨?_, ?_⟩, fun r hr => ?_⟩
  · have := (flip_ins h 0 r).mpr (by omega)
    omega
  · unfold flipH
    rw [List.getD_eq_getElem?_getD, List.getElem?_map, List.getElem?_range (by omega)]
    have h2 := List.length_filter_le (fun z => decide ((r : Int) < z)) hs
    have h3 := h.len
    show ((hs.filter fun z => decide ((r : Int) < z)).length : Int) ≤ k
    omega
  · by_cases q : (flipH hs).getD (r + 1) 0 ≤ (flipH hs).getD r 0
    · exact q
    · have n0 := nn r
      have a := (flip_ins h ((flipH hs).getD r 0).toNat (r + 1)).mp (by omega)
      have b := (flip_ins h ((flipH hs).getD r 0).toNat r).mpr (by omega)
      omega
theorem ext_ins {k l : Nat} {A B : List Int} (hA : Hg k A) (hB : Hg l B) (h : ∀ c r : Nat, (r : Int) < A.getD c 0 ↔ (r : Int) < B.getD c 0) : A = B := by
  refine ext_pos hA.pos hB.pos fun i => ?_
  have a := hA.nn i
  have b := hB.nn i
  rcases Int.lt_trichotomy (A.getD i 0) (B.getD i 0) with q | q | q
  · have := (h i (A.getD i 0).toNat).mpr (by omega)
    omega
  · exact q
  · have := (h i (B.getD i 0).toNat).mp (by omega)
    omega
theorem grow_ins {k : Nat} {H : List Int} (h : Hg k H) (n s x : Int) (c r : Nat) : (r : Int) < (grow n s x H).getD c 0 ↔ (r : Int) < H.getD c 0 ∨ ((c = 0 ∨ (r : Int) < H.getD (c - 1) 0) ∧ (r = 0 ∨ ((r - 1 : Nat) : Int) < H.getD c 0) ∧ (((c : Int) - r) * s - x) % n = 0) := by
  have nn := h.nn c
  rw [grow_at]
  constructor
  · intro q
    by_cases q1 : (r : Int) < H.getD c 0
    · exact .inl q1
    · by_cases g : glet n s x H c = true
      · rw [if_pos g] at q
        have e : H.getD c 0 = r := by omega
        obtain ⟨g1, g2⟩ := glet_iff.mp g
        rw [e] at g1 g2
        exact .inr ⟨g1, by omega, g2⟩
      · rw [if_neg g] at q
        omega
  · rintro (q | ⟨q1, q2, q3⟩)
    · split <;> omega
    · by_cases q4 : (r : Int) < H.getD c 0
      · split <;> omega
      · have e : H.getD c 0 = r := by omega
        have g : glet n s x H c = true := glet_iff.mpr ⟨by rw [e]; exact q1, by rw [e]; exact q3⟩
        rw [if_pos g]
        omega
theorem sub_emod_r (a b n : Int) : (a - b % n) % n = (a - b) % n := by rw [Int.sub_emod, Int.emod_emod, ← Int.sub_emod]
theorem neg_zero_mod {a n : Int} : (-a) % n = 0 ↔ a % n = 0 := by
  constructor
  · intro h
    exact Int.emod_eq_zero_of_dvd (Int.dvd_neg.mp (Int.dvd_of_emod_eq_zero h))
  · intro h
    exact Int.emod_eq_zero_of_dvd (Int.dvd_neg.mpr (Int.dvd_of_emod_eq_zero h))
theorem flip_grow {k : Nat} {H : List Int} (h : Hg k H) (n s x : Int) : flipH (grow n s x H) = grow n s ((0 - x) % n) (flipH H) := by
  have hg := hg_grow h n s x
  refine ext_ins (hg_flip hg) (hg_grow (hg_flip h) n s _) fun c r => ?_
  rw [flip_ins hg, grow_ins h, grow_ins (hg_flip h)]
  have e : (((c : Int) - r) * s - (0 - x) % n) % n = 0 ↔ (((r : Int) - c) * s - x) % n = 0 := by
    rw [sub_emod_r, ← neg_zero_mod]
    have : -(((c : Int) - r) * s - (0 - x)) = ((r : Int) - c) * s - x := by
      rw [show (r : Int) - c = -((c : Int) - r) by omega, Int.neg_mul]
      omega
    rw [this]
  rw [e, flip_ins h r c]
  have e1 : (c = 0 ∨ (r : Int) < (flipH H).getD (c - 1) 0) ↔ (c = 0 ∨ ((c - 1 : Nat) : Int) < H.getD r 0) := or_congr_right (flip_ins h r (c - 1))
  have e2 : (r = 0 ∨ ((r - 1 : Nat) : Int) < (flipH H).getD c 0) ↔ (r = 0 ∨ (c : Int) < H.getD (r - 1) 0) := or_congr_right (flip_ins h (r - 1) c)
  rw [e1, e2]
  constructor
  · rintro (a | ⟨a, b, d⟩)
    · exact .inl a
    · exact .inr ⟨b, a, d⟩
  · rintro (a | ⟨a, b, d⟩)
    · exact .inl a
    · exact .inr ⟨b, a, d⟩
theorem flip_flip {k : Nat} {H : List Int} (h : Hg k H) : flipH (flipH H) = H := ext_ins (hg_flip (hg_flip h)) h fun c r => by rw [flip_ins (hg_flip h), flip_ins h]
/-- the places counted the other way -/
def overX (cs : Ch) (xs : List Int) : List Int := (cs.zip xs).map fun p => (0 - p.2) % p.1.1
theorem tv_over : ∀ {cs : Ch} {xs : List Int}, Tv cs xs → Tv cs (overX cs xs)
  | [], [], _ => trivial
  | c :: cs, x :: xs, h => ⟨⟨Int.emod_nonneg _ (by have := h.1; show c.1 ≠ 0; omega), Int.emod_lt_of_pos _ (by have := h.1; show 0 < c.1; omega)⟩, tv_over h.2⟩
  | [], _ :: _, h => h.elim
  | _ :: _, [], h => h.elim
theorem fold_over : ∀ (cs : Ch) (xs : List Int) {k : Nat} {h : List Int}, Hg k h → (cs.zip (overX cs xs)).foldl stepH (flipH h) = flipH ((cs.zip xs).foldl stepH h)
  | [], _, _, _, _ => rfl
  | _ :: _, [], _, _, _ => rfl
  | c :: cs, x :: xs, k, h, hh => by
    show (cs.zip (overX cs xs)).foldl stepH (grow c.1 c.2 ((0 - x) % c.1) (flipH h)) = flipH ((cs.zip xs).foldl stepH (grow c.1 c.2 x h))
    rw [← flip_grow hh, fold_over cs xs (hg_grow hh _ _ _)]
theorem heapF_over (cs : Ch) (xs : List Int) : heapF cs (overX cs xs) = flipH (heapF cs xs) := fold_over cs xs hg_nil
def minH (A B : List Int) : List Int := (A.zip B).map fun p => if p.2 < p.1 then p.2 else p.1
theorem min_get {k l : Nat} {A B : List Int} (hA : Hg k A) (hB : Hg l B) (i : Nat) : (minH A B).getD i 0 = min (A.getD i 0) (B.getD i 0) := by
  unfold minH
  have a := hA.nn i
  have b := hB.nn i
  by_cases q : i < A.length ∧ i < B.length
  · have hz : (A.zip B)[i]? = some (A[i], B[i]) := by simp [List.getElem?_zip_eq_some, q]
    rw [List.getD_eq_getElem?_getD, List.getElem?_map, hz, List.getD_eq_getElem?_getD, List.getD_eq_getElem?_getD, List.getElem?_eq_getElem q.1, List.getElem?_eq_getElem q.2]
    show (if B[i] < A[i] then B[i] else A[i]) = min A[i] B[i]
    split <;> omega
  · rw [getD_out (by rw [List.length_map, List.length_zip]; omega)]
    by_cases q1 : i < A.length
    · rw [getD_out (hs := B) (by omega)]
      omega
    · rw [getD_out (hs := A) (by omega)]
      omega
theorem hg_min {k l : Nat} {A B : List Int} (hA : Hg k A) (hB : Hg l B) : Hg k (minH A B) := by
  have hl : (minH A B).length = min A.length B.length := by simp [minH]
  have h1 := hA.len
  refine ⟨by omega, fun i hi => ?_, fun i hi => ?_⟩
  · rw [min_get hA hB]
    have := hA.rng i (by omega)
    have := hB.rng i (by omega)
    omega
  · rw [min_get hA hB, min_get hA hB]
    have := hA.fall i (by omega)
    have := hB.fall i (by omega)
    omega
theorem grow_minH {k l : Nat} {A B : List Int} (hA : Hg k A) (hB : Hg l B) (n s x : Int) : grow n s x (minH A B) = minH (grow n s x A) (grow n s x B) := by
  have gA := hg_grow hA n s x
  have gB := hg_grow hB n s x
  refine ext_pos (hg_grow (hg_min hA hB) n s x).pos (hg_min gA gB).pos fun i => ?_
  rw [min_get gA gB]
  exact grow_min hA hB (fun i => min_get hA hB i) n s x i
theorem flipped_in {k : Nat} {hs : List Int} (h : Hg k hs) (hk : k ≤ 1000) (C : Cells) : m_flipped_in [iT hs] C = some (.ok (iT (flipH hs)) C) := by
  have h1 := topH_eq h
  have hl := h.len
  have ht0 := h.nn 0
  have ht : topH hs ≤ k := by
    rw [h1]
    by_cases q : 0 < hs.length
    · exact (h.rng 0 q).2
    · rw [getD_out (by omega)]; omega
  have e1 : dMaxDf [iT hs] [.int 0] = some (.int (topH hs)) := by
    show (intsOf (hs.map D.int)).map (maxD0 (.int 0)) = _
    rw [intsOf_map]
    cases hs <;> rfl
  have l2 : q2_flipped_in [some (iT hs), none, none] C = some (.ok ((flipH hs).map D.int) C) := by
    unfold flipH
    rw [List.map_map]
    have hr := rng1_Z (z := topH hs) (by omega) (by omega)
    unfold q2_flipped_in
    refine lc_T0 (g := gd0) (fun i : Nat => D.int (i : Nat)) _ _ (by simp only [↓xDef, ↓xSeq, ↓xDo, ↓xNext, ↓xRet, ↓xExp, ↓xIfS, ↓xAsg, ↓gN, ↓gT, ↓gsC, ↓gsN, ↓xV, ↓S.val, ↓S.bind, ↓S.opt, ↓x2, ↓x1, ↓xN, ↓xB, ↓xD, ↓xAnd, ↓xOr, ↓xNot, ↓xIf, ↓xAndV, ↓xOrV, ↓xNotV, ↓xChain, ↓aNil, ↓aCons, ↓xTup, ↓few, ↓xF, ↓xC, ↓xSetI, ↓xPar, ↓xCall, ↓xFrz, ↓xM, live, i2, dSub, dAdd, dMul, dMulA, dMod, dDiv, dLt, dLe, dGt, dGe, dIx, atI, dNeg, dAbs, dInt, dLen, dMin2, dMax2, dGcd, dTuple, ↓iR1, ↓iR2, ↓iV, items, ↓iEn, items1, nocel, nocels, List.map_cons, List.map_nil, List.getElem?_cons_zero, List.getElem?_cons_succ, List.getElem?_nil, List.set_cons_zero, List.set_cons_succ, List.length_cons, List.length_nil, List.replicate, List.cons_append, List.nil_append, Nat.reduceAdd, Nat.reduceSub, Bool.false_eq_true, if_true, if_false, Option.map_some, Option.bind_some, Option.bind_none, Bool.and_true, Bool.and_false, Bool.true_and, Bool.not_true, Bool.not_false, decide_true, decide_false, vw_n, vw_b, vw_i, vw_s, vw_u, vw_l, vw_o, ie_n, ie_b, ie_i, ie_s, ie_u, ie_l, ie_c, x10, x20, x21, x30, x31, x32, fin_b, fin_i, eq_ii, ne_ii, List.take_length, vw_k, ie_k, id_eq, Nat.reduceLeDiff, ↓xSl, ↓xAugI, ↓oE, ↓oNo, ↓xLs, ↓xExt, ↓iZp, xNK, e1, hr]) rfl (by simp; omega) fun r hr => ⟨[some (iT hs), some (.int (r : Nat)), none], rfl, ?_⟩
    show _ = some (R.ok (D.int ((hs.filter fun h => decide ((r : Int) < h)).length : Int)) C)
    obtain ⟨I, hI⟩ : ∃ I : Int, (r : Int) = I := ⟨_, rfl⟩
    rw [hI]
    have l1 : q1_flipped_in [some (iT hs), some (.int I), none] C = some (.ok ((hs.filter fun h => decide (I < h)).map D.int) C) := by
      unfold q1_flipped_in
      exact lc_T (g := gd0) D.int _ (fun h => decide (I < h)) D.int (by simp only [↓xDef, ↓xSeq, ↓xDo, ↓xNext, ↓xRet, ↓xExp, ↓xIfS, ↓xAsg, ↓gN, ↓gT, ↓gsC, ↓gsN, ↓xV, ↓S.val, ↓S.bind, ↓S.opt, ↓x2, ↓x1, ↓xN, ↓xB, ↓xD, ↓xAnd, ↓xOr, ↓xNot, ↓xIf, ↓xAndV, ↓xOrV, ↓xNotV, ↓xChain, ↓aNil, ↓aCons, ↓xTup, ↓few, ↓xF, ↓xC, ↓xSetI, ↓xPar, ↓xCall, ↓xFrz, ↓xM, live, i2, dSub, dAdd, dMul, dMulA, dMod, dDiv, dLt, dLe, dGt, dGe, dIx, atI, dNeg, dAbs, dInt, dLen, dMin2, dMax2, dGcd, dTuple, ↓iR1, ↓iR2, ↓iV, items, ↓iEn, items1, nocel, nocels, List.map_cons, List.map_nil, List.getElem?_cons_zero, List.getElem?_cons_succ, List.getElem?_nil, List.set_cons_zero, List.set_cons_succ, List.length_cons, List.length_nil, List.replicate, List.cons_append, List.nil_append, Nat.reduceAdd, Nat.reduceSub, Bool.false_eq_true, if_true, if_false, Option.map_some, Option.bind_some, Option.bind_none, Bool.and_true, Bool.and_false, Bool.true_and, Bool.not_true, Bool.not_false, decide_true, decide_false, vw_n, vw_b, vw_i, vw_s, vw_u, vw_l, vw_o, ie_n, ie_b, ie_i, ie_s, ie_u, ie_l, ie_c, x10, x20, x21, x30, x31, x32, fin_b, fin_i, eq_ii, ne_ii, List.take_length, vw_k, ie_k, id_eq, Nat.reduceLeDiff, ↓xSl, ↓xAugI, ↓oE, ↓oNo, ↓xLs, ↓xExt, ↓iZp]) rfl (by omega) fun z _ => ⟨[some (iT hs), some (.int I), some (.int z)], rfl, by simp only [↓xDef, ↓xSeq, ↓xDo, ↓xNext, ↓xRet, ↓xExp, ↓xIfS, ↓xAsg, ↓gN, ↓gT, ↓gsC, ↓gsN, ↓xV, ↓S.val, ↓S.bind, ↓S.opt, ↓x2, ↓x1, ↓xN, ↓xB, ↓xD, ↓xAnd, ↓xOr, ↓xNot, ↓xIf, ↓xAndV, ↓xOrV, ↓xNotV, ↓xChain, ↓aNil, ↓aCons, ↓xTup, ↓few, ↓xF, ↓xC, ↓xSetI, ↓xPar, ↓xCall, ↓xFrz, ↓xM, live, i2, dSub, dAdd, dMul, dMulA, dMod, dDiv, dLt, dLe, dGt, dGe, dIx, atI, dNeg, dAbs, dInt, dLen, dMin2, dMax2, dGcd, dTuple, ↓iR1, ↓iR2, ↓iV, items, ↓iEn, items1, nocel, nocels, List.map_cons, List.map_nil, List.getElem?_cons_zero, List.getElem?_cons_succ, List.getElem?_nil, List.set_cons_zero, List.set_cons_succ, List.length_cons, List.length_nil, List.replicate, List.cons_append, List.nil_append, Nat.reduceAdd, Nat.reduceSub, Bool.false_eq_true, if_true, if_false, Option.map_some, Option.bind_some, Option.bind_none, Bool.and_true, Bool.and_false, Bool.true_and, Bool.not_true, Bool.not_false, decide_true, decide_false, vw_n, vw_b, vw_i, vw_s, vw_u, vw_l, vw_o, ie_n, ie_b, ie_i, ie_s, ie_u, ie_l, ie_c, x10, x20, x21, x30, x31, x32, fin_b, fin_i, eq_ii, ne_ii, List.take_length, vw_k, ie_k, id_eq, Nat.reduceLeDiff, ↓xSl, ↓xAugI, ↓oE, ↓oNo, ↓xLs, ↓xExt, ↓iZp], fun _ => by simp only [↓xDef, ↓xSeq, ↓xDo, ↓xNext, ↓xRet, ↓xExp, ↓xIfS, ↓xAsg, ↓gN, ↓gT, ↓gsC, ↓gsN, ↓xV, ↓S.val, ↓S.bind, ↓S.opt, ↓x2, ↓x1, ↓xN, ↓xB, ↓xD, ↓xAnd, ↓xOr, ↓xNot, ↓xIf, ↓xAndV, ↓xOrV, ↓xNotV, ↓xChain, ↓aNil, ↓aCons, ↓xTup, ↓few, ↓xF, ↓xC, ↓xSetI, ↓xPar, ↓xCall, ↓xFrz, ↓xM, live, i2, dSub, dAdd, dMul, dMulA, dMod, dDiv, dLt, dLe, dGt, dGe, dIx, atI, dNeg, dAbs, dInt, dLen, dMin2, dMax2, dGcd, dTuple, ↓iR1, ↓iR2, ↓iV, items, ↓iEn, items1, nocel, nocels, List.map_cons, List.map_nil, List.getElem?_cons_zero, List.getElem?_cons_succ, List.getElem?_nil, List.set_cons_zero, List.set_cons_succ, List.length_cons, List.length_nil, List.replicate, List.cons_append, List.nil_append, Nat.reduceAdd, Nat.reduceSub, Bool.false_eq_true, if_true, if_false, Option.map_some, Option.bind_some, Option.bind_none, Bool.and_true, Bool.and_false, Bool.true_and, Bool.not_true, Bool.not_false, decide_true, decide_false, vw_n, vw_b, vw_i, vw_s, vw_u, vw_l, vw_o, ie_n, ie_b, ie_i, ie_s, ie_u, ie_l, ie_c, x10, x20, x21, x30, x31, x32, fin_b, fin_i, eq_ii, ne_ii, List.take_length, vw_k, ie_k, id_eq, Nat.reduceLeDiff, ↓xSl, ↓xAugI, ↓oE, ↓oNo, ↓xLs, ↓xExt, ↓iZp]⟩
    have e2 : (((hs.filter fun h => decide (I < h)).map D.int).length : Int) = ((hs.filter fun h => decide (I < h)).length : Int) := by rw [List.length_map]
    rw [← e2]
    generalize ((hs.filter fun h => decide (I < h)).map D.int) = L1 at l1 ⊢
    simp only [↓xDef, ↓xSeq, ↓xDo, ↓xNext, ↓xRet, ↓xExp, ↓xIfS, ↓xAsg, ↓gN, ↓gT, ↓gsC, ↓gsN, ↓xV, ↓S.val, ↓S.bind, ↓S.opt, ↓x2, ↓x1, ↓xN, ↓xB, ↓xD, ↓xAnd, ↓xOr, ↓xNot, ↓xIf, ↓xAndV, ↓xOrV, ↓xNotV, ↓xChain, ↓aNil, ↓aCons, ↓xTup, ↓few, ↓xF, ↓xC, ↓xSetI, ↓xPar, ↓xCall, ↓xFrz, ↓xM, live, i2, dSub, dAdd, dMul, dMulA, dMod, dDiv, dLt, dLe, dGt, dGe, dIx, atI, dNeg, dAbs, dInt, dLen, dMin2, dMax2, dGcd, dTuple, ↓iR1, ↓iR2, ↓iV, items, ↓iEn, items1, nocel, nocels, List.map_cons, List.map_nil, List.getElem?_cons_zero, List.getElem?_cons_succ, List.getElem?_nil, List.set_cons_zero, List.set_cons_succ, List.length_cons, List.length_nil, List.replicate, List.cons_append, List.nil_append, Nat.reduceAdd, Nat.reduceSub, Bool.false_eq_true, if_true, if_false, Option.map_some, Option.bind_some, Option.bind_none, Bool.and_true, Bool.and_false, Bool.true_and, Bool.not_true, Bool.not_false, decide_true, decide_false, vw_n, vw_b, vw_i, vw_s, vw_u, vw_l, vw_o, ie_n, ie_b, ie_i, ie_s, ie_u, ie_l, ie_c, x10, x20, x21, x30, x31, x32, fin_b, fin_i, eq_ii, ne_ii, List.take_length, vw_k, ie_k, id_eq, Nat.reduceLeDiff, ↓xSl, ↓xAugI, ↓oE, ↓oNo, ↓xLs, ↓xExt, ↓iZp, l1]
  have hf : fin C.length (iT (flipH hs)) C = some (.ok (iT (flipH hs)) C) := fin_iT
  unfold m_flipped_in b_flipped_in
  simp only [↓xDef, ↓xSeq, ↓xDo, ↓xNext, ↓xRet, ↓xExp, ↓xIfS, ↓xAsg, ↓gN, ↓gT, ↓gsC, ↓gsN, ↓xV, ↓S.val, ↓S.bind, ↓S.opt, ↓x2, ↓x1, ↓xN, ↓xB, ↓xD, ↓xAnd, ↓xOr, ↓xNot, ↓xIf, ↓xAndV, ↓xOrV, ↓xNotV, ↓xChain, ↓aNil, ↓aCons, ↓xTup, ↓few, ↓xF, ↓xC, ↓xSetI, ↓xPar, ↓xCall, ↓xFrz, ↓xM, live, i2, dSub, dAdd, dMul, dMulA, dMod, dDiv, dLt, dLe, dGt, dGe, dIx, atI, dNeg, dAbs, dInt, dLen, dMin2, dMax2, dGcd, dTuple, ↓iR1, ↓iR2, ↓iV, items, ↓iEn, items1, nocel, nocels, List.map_cons, List.map_nil, List.getElem?_cons_zero, List.getElem?_cons_succ, List.getElem?_nil, List.set_cons_zero, List.set_cons_succ, List.length_cons, List.length_nil, List.replicate, List.cons_append, List.nil_append, Nat.reduceAdd, Nat.reduceSub, Bool.false_eq_true, if_true, if_false, Option.map_some, Option.bind_some, Option.bind_none, Bool.and_true, Bool.and_false, Bool.true_and, Bool.not_true, Bool.not_false, decide_true, decide_false, vw_n, vw_b, vw_i, vw_s, vw_u, vw_l, vw_o, ie_n, ie_b, ie_i, ie_s, ie_u, ie_l, ie_c, x10, x20, x21, x30, x31, x32, fin_b, fin_i, eq_ii, ne_ii, List.take_length, vw_k, ie_k, id_eq, Nat.reduceLeDiff, ↓xSl, ↓xAugI, ↓oE, ↓oNo, ↓xLs, ↓xExt, ↓iZp, l2, hf]
theorem turned_over {k : Nat} {hs : List Int} (h : Hg k hs) (hk : k ≤ 60) (C : Cells) : m_turned_over [iT hs] C = some (.ok (iT (flipH hs)) C) := by
  have e1 := req_heap (h.hp0 hk) C
  have e2 := flipped_in h (by omega) C
  have hf : fin C.length (iT (flipH hs)) C = some (.ok (iT (flipH hs)) C) := fin_iT
  unfold m_turned_over b_turned_over
  simp only [↓xDef, ↓xSeq, ↓xDo, ↓xNext, ↓xRet, ↓xExp, ↓xIfS, ↓xAsg, ↓gN, ↓gT, ↓gsC, ↓gsN, ↓xV, ↓S.val, ↓S.bind, ↓S.opt, ↓x2, ↓x1, ↓xN, ↓xB, ↓xD, ↓xAnd, ↓xOr, ↓xNot, ↓xIf, ↓xAndV, ↓xOrV, ↓xNotV, ↓xChain, ↓aNil, ↓aCons, ↓xTup, ↓few, ↓xF, ↓xC, ↓xSetI, ↓xPar, ↓xCall, ↓xFrz, ↓xM, live, i2, dSub, dAdd, dMul, dMulA, dMod, dDiv, dLt, dLe, dGt, dGe, dIx, atI, dNeg, dAbs, dInt, dLen, dMin2, dMax2, dGcd, dTuple, ↓iR1, ↓iR2, ↓iV, items, ↓iEn, items1, nocel, nocels, List.map_cons, List.map_nil, List.getElem?_cons_zero, List.getElem?_cons_succ, List.getElem?_nil, List.set_cons_zero, List.set_cons_succ, List.length_cons, List.length_nil, List.replicate, List.cons_append, List.nil_append, Nat.reduceAdd, Nat.reduceSub, Bool.false_eq_true, if_true, if_false, Option.map_some, Option.bind_some, Option.bind_none, Bool.and_true, Bool.and_false, Bool.true_and, Bool.not_true, Bool.not_false, decide_true, decide_false, vw_n, vw_b, vw_i, vw_s, vw_u, vw_l, vw_o, ie_n, ie_b, ie_i, ie_s, ie_u, ie_l, ie_c, x10, x20, x21, x30, x31, x32, fin_b, fin_i, eq_ii, ne_ii, List.take_length, vw_k, ie_k, id_eq, Nat.reduceLeDiff, ↓xSl, ↓xAugI, ↓oE, ↓oNo, ↓xLs, ↓xExt, ↓iZp, e1, e2, hf]
theorem two_heaps {k l : Nat} {A B : List Int} (hA : Hg k A) (hk : k ≤ 60) (hB : Hg l B) (hl : l ≤ 60) (C : Cells) : m_require_two_heaps [iT A, iT B] C = some (.ok .non C) := by
  have e1 := req_heap (hA.hp0 hk) C
  have e2 := req_heap (hB.hp0 hl) C
  unfold m_require_two_heaps b_require_two_heaps
  simp only [↓xDef, ↓xSeq, ↓xDo, ↓xNext, ↓xRet, ↓xExp, ↓xIfS, ↓xAsg, ↓gN, ↓gT, ↓gsC, ↓gsN, ↓xV, ↓S.val, ↓S.bind, ↓S.opt, ↓x2, ↓x1, ↓xN, ↓xB, ↓xD, ↓xAnd, ↓xOr, ↓xNot, ↓xIf, ↓xAndV, ↓xOrV, ↓xNotV, ↓xChain, ↓aNil, ↓aCons, ↓xTup, ↓few, ↓xF, ↓xC, ↓xSetI, ↓xPar, ↓xCall, ↓xFrz, ↓xM, live, i2, dSub, dAdd, dMul, dMulA, dMod, dDiv, dLt, dLe, dGt, dGe, dIx, atI, dNeg, dAbs, dInt, dLen, dMin2, dMax2, dGcd, dTuple, ↓iR1, ↓iR2, ↓iV, items, ↓iEn, items1, nocel, nocels, List.map_cons, List.map_nil, List.getElem?_cons_zero, List.getElem?_cons_succ, List.getElem?_nil, List.set_cons_zero, List.set_cons_succ, List.length_cons, List.length_nil, List.replicate, List.cons_append, List.nil_append, Nat.reduceAdd, Nat.reduceSub, Bool.false_eq_true, if_true, if_false, Option.map_some, Option.bind_some, Option.bind_none, Bool.and_true, Bool.and_false, Bool.true_and, Bool.not_true, Bool.not_false, decide_true, decide_false, vw_n, vw_b, vw_i, vw_s, vw_u, vw_l, vw_o, ie_n, ie_b, ie_i, ie_s, ie_u, ie_l, ie_c, x10, x20, x21, x30, x31, x32, fin_b, fin_i, eq_ii, ne_ii, List.take_length, vw_k, ie_k, id_eq, Nat.reduceLeDiff, ↓xSl, ↓xAugI, ↓oE, ↓oNo, ↓xLs, ↓xExt, ↓iZp, e1, e2]
theorem common_in {A B : List Int} (hA : A.length ≤ 1000) (C : Cells) : m_common_in [iT A, iT B] C = some (.ok (iT (minH A B)) C) := by
  have l1 : q1_common_in [some (iT A), some (iT B), none, none] C = some (.ok ((minH A B).map D.int) C) := by
    unfold minH
    rw [List.map_map]
    unfold q1_common_in
    exact lc_T0 (g := gd0) (fun p : Int × Int => .tup [.int p.1, .int p.2]) _ _ (by simp only [↓xDef, ↓xSeq, ↓xDo, ↓xNext, ↓xRet, ↓xExp, ↓xIfS, ↓xAsg, ↓gN, ↓gT, ↓gsC, ↓gsN, ↓xV, ↓S.val, ↓S.bind, ↓S.opt, ↓x2, ↓x1, ↓xN, ↓xB, ↓xD, ↓xAnd, ↓xOr, ↓xNot, ↓xIf, ↓xAndV, ↓xOrV, ↓xNotV, ↓xChain, ↓aNil, ↓aCons, ↓xTup, ↓few, ↓xF, ↓xC, ↓xSetI, ↓xPar, ↓xCall, ↓xFrz, ↓xM, live, i2, dSub, dAdd, dMul, dMulA, dMod, dDiv, dLt, dLe, dGt, dGe, dIx, atI, dNeg, dAbs, dInt, dLen, dMin2, dMax2, dGcd, dTuple, ↓iR1, ↓iR2, ↓iV, items, ↓iEn, items1, nocel, nocels, List.map_cons, List.map_nil, List.getElem?_cons_zero, List.getElem?_cons_succ, List.getElem?_nil, List.set_cons_zero, List.set_cons_succ, List.length_cons, List.length_nil, List.replicate, List.cons_append, List.nil_append, Nat.reduceAdd, Nat.reduceSub, Bool.false_eq_true, if_true, if_false, Option.map_some, Option.bind_some, Option.bind_none, Bool.and_true, Bool.and_false, Bool.true_and, Bool.not_true, Bool.not_false, decide_true, decide_false, vw_n, vw_b, vw_i, vw_s, vw_u, vw_l, vw_o, ie_n, ie_b, ie_i, ie_s, ie_u, ie_l, ie_c, x10, x20, x21, x30, x31, x32, fin_b, fin_i, eq_ii, ne_ii, List.take_length, vw_k, ie_k, id_eq, Nat.reduceLeDiff, ↓xSl, ↓xAugI, ↓oE, ↓oNo, ↓xLs, ↓xExt, ↓iZp, zips, prs_map2]) rfl (by rw [List.length_zip]; omega) fun p hp => ⟨[some (iT A), some (iT B), some (.int p.1), some (.int p.2)], rfl, by simp only [↓xDef, ↓xSeq, ↓xDo, ↓xNext, ↓xRet, ↓xExp, ↓xIfS, ↓xAsg, ↓gN, ↓gT, ↓gsC, ↓gsN, ↓xV, ↓S.val, ↓S.bind, ↓S.opt, ↓x2, ↓x1, ↓xN, ↓xB, ↓xD, ↓xAnd, ↓xOr, ↓xNot, ↓xIf, ↓xAndV, ↓xOrV, ↓xNotV, ↓xChain, ↓aNil, ↓aCons, ↓xTup, ↓few, ↓xF, ↓xC, ↓xSetI, ↓xPar, ↓xCall, ↓xFrz, ↓xM, live, i2, dSub, dAdd, dMul, dMulA, dMod, dDiv, dLt, dLe, dGt, dGe, dIx, atI, dNeg, dAbs, dInt, dLen, dMin2, dMax2, dGcd, dTuple, ↓iR1, ↓iR2, ↓iV, items, ↓iEn, items1, nocel, nocels, List.map_cons, List.map_nil, List.getElem?_cons_zero, List.getElem?_cons_succ, List.getElem?_nil, List.set_cons_zero, List.set_cons_succ, List.length_cons, List.length_nil, List.replicate, List.cons_append, List.nil_append, Nat.reduceAdd, Nat.reduceSub, Bool.false_eq_true, if_true, if_false, Option.map_some, Option.bind_some, Option.bind_none, Bool.and_true, Bool.and_false, Bool.true_and, Bool.not_true, Bool.not_false, decide_true, decide_false, vw_n, vw_b, vw_i, vw_s, vw_u, vw_l, vw_o, ie_n, ie_b, ie_i, ie_s, ie_u, ie_l, ie_c, x10, x20, x21, x30, x31, x32, fin_b, fin_i, eq_ii, ne_ii, List.take_length, vw_k, ie_k, id_eq, Nat.reduceLeDiff, ↓xSl, ↓xAugI, ↓oE, ↓oNo, ↓xLs, ↓xExt, ↓iZp]; rfl⟩
  have hf : fin C.length (iT (minH A B)) C = some (.ok (iT (minH A B)) C) := fin_iT
  unfold m_common_in b_common_in
  simp only [↓xDef, ↓xSeq, ↓xDo, ↓xNext, ↓xRet, ↓xExp, ↓xIfS, ↓xAsg, ↓gN, ↓gT, ↓gsC, ↓gsN, ↓xV, ↓S.val, ↓S.bind, ↓S.opt, ↓x2, ↓x1, ↓xN, ↓xB, ↓xD, ↓xAnd, ↓xOr, ↓xNot, ↓xIf, ↓xAndV, ↓xOrV, ↓xNotV, ↓xChain, ↓aNil, ↓aCons, ↓xTup, ↓few, ↓xF, ↓xC, ↓xSetI, ↓xPar, ↓xCall, ↓xFrz, ↓xM, live, i2, dSub, dAdd, dMul, dMulA, dMod, dDiv, dLt, dLe, dGt, dGe, dIx, atI, dNeg, dAbs, dInt, dLen, dMin2, dMax2, dGcd, dTuple, ↓iR1, ↓iR2, ↓iV, items, ↓iEn, items1, nocel, nocels, List.map_cons, List.map_nil, List.getElem?_cons_zero, List.getElem?_cons_succ, List.getElem?_nil, List.set_cons_zero, List.set_cons_succ, List.length_cons, List.length_nil, List.replicate, List.cons_append, List.nil_append, Nat.reduceAdd, Nat.reduceSub, Bool.false_eq_true, if_true, if_false, Option.map_some, Option.bind_some, Option.bind_none, Bool.and_true, Bool.and_false, Bool.true_and, Bool.not_true, Bool.not_false, decide_true, decide_false, vw_n, vw_b, vw_i, vw_s, vw_u, vw_l, vw_o, ie_n, ie_b, ie_i, ie_s, ie_u, ie_l, ie_c, x10, x20, x21, x30, x31, x32, fin_b, fin_i, eq_ii, ne_ii, List.take_length, vw_k, ie_k, id_eq, Nat.reduceLeDiff, ↓xSl, ↓xAugI, ↓oE, ↓oNo, ↓xLs, ↓xExt, ↓iZp, l1, hf]
theorem common_of {k l : Nat} {A B : List Int} (hA : Hg k A) (hk : k ≤ 60) (hB : Hg l B) (hl : l ≤ 60) (C : Cells) : m_common_of [iT A, iT B] C = some (.ok (iT (minH A B)) C) := by
  have e1 := two_heaps hA hk hB hl C
  have e2 := common_in (A := A) (B := B) (by have := hA.len; omega) C
  have hf : fin C.length (iT (minH A B)) C = some (.ok (iT (minH A B)) C) := fin_iT
  unfold m_common_of b_common_of
  simp only [↓xDef, ↓xSeq, ↓xDo, ↓xNext, ↓xRet, ↓xExp, ↓xIfS, ↓xAsg, ↓gN, ↓gT, ↓gsC, ↓gsN, ↓xV, ↓S.val, ↓S.bind, ↓S.opt, ↓x2, ↓x1, ↓xN, ↓xB, ↓xD, ↓xAnd, ↓xOr, ↓xNot, ↓xIf, ↓xAndV, ↓xOrV, ↓xNotV, ↓xChain, ↓aNil, ↓aCons, ↓xTup, ↓few, ↓xF, ↓xC, ↓xSetI, ↓xPar, ↓xCall, ↓xFrz, ↓xM, live, i2, dSub, dAdd, dMul, dMulA, dMod, dDiv, dLt, dLe, dGt, dGe, dIx, atI, dNeg, dAbs, dInt, dLen, dMin2, dMax2, dGcd, dTuple, ↓iR1, ↓iR2, ↓iV, items, ↓iEn, items1, nocel, nocels, List.map_cons, List.map_nil, List.getElem?_cons_zero, List.getElem?_cons_succ, List.getElem?_nil, List.set_cons_zero, List.set_cons_succ, List.length_cons, List.length_nil, List.replicate, List.cons_append, List.nil_append, Nat.reduceAdd, Nat.reduceSub, Bool.false_eq_true, if_true, if_false, Option.map_some, Option.bind_some, Option.bind_none, Bool.and_true, Bool.and_false, Bool.true_and, Bool.not_true, Bool.not_false, decide_true, decide_false, vw_n, vw_b, vw_i, vw_s, vw_u, vw_l, vw_o, ie_n, ie_b, ie_i, ie_s, ie_u, ie_l, ie_c, x10, x20, x21, x30, x31, x32, fin_b, fin_i, eq_ii, ne_ii, List.take_length, vw_k, ie_k, id_eq, Nat.reduceLeDiff, ↓xSl, ↓xAugI, ↓oE, ↓oNo, ↓xLs, ↓xExt, ↓iZp, e1, e2, hf]
theorem is_held {k l : Nat} {A B : List Int} (hA : Hg k A) (hk : k ≤ 60) (hB : Hg l B) (hl : l ≤ 60) (C : Cells) : m_is_held [iT A, iT B] C = some (.ok (.bl (holdB A B)) C) := by
  have e1 := two_heaps hA hk hB hl C
  have e2 := holds_in (A := A) (B := B) (by have := hA.len; omega) C
  unfold m_is_held b_is_held
  simp only [↓xDef, ↓xSeq, ↓xDo, ↓xNext, ↓xRet, ↓xExp, ↓xIfS, ↓xAsg, ↓gN, ↓gT, ↓gsC, ↓gsN, ↓xV, ↓S.val, ↓S.bind, ↓S.opt, ↓x2, ↓x1, ↓xN, ↓xB, ↓xD, ↓xAnd, ↓xOr, ↓xNot, ↓xIf, ↓xAndV, ↓xOrV, ↓xNotV, ↓xChain, ↓aNil, ↓aCons, ↓xTup, ↓few, ↓xF, ↓xC, ↓xSetI, ↓xPar, ↓xCall, ↓xFrz, ↓xM, live, i2, dSub, dAdd, dMul, dMulA, dMod, dDiv, dLt, dLe, dGt, dGe, dIx, atI, dNeg, dAbs, dInt, dLen, dMin2, dMax2, dGcd, dTuple, ↓iR1, ↓iR2, ↓iV, items, ↓iEn, items1, nocel, nocels, List.map_cons, List.map_nil, List.getElem?_cons_zero, List.getElem?_cons_succ, List.getElem?_nil, List.set_cons_zero, List.set_cons_succ, List.length_cons, List.length_nil, List.replicate, List.cons_append, List.nil_append, Nat.reduceAdd, Nat.reduceSub, Bool.false_eq_true, if_true, if_false, Option.map_some, Option.bind_some, Option.bind_none, Bool.and_true, Bool.and_false, Bool.true_and, Bool.not_true, Bool.not_false, decide_true, decide_false, vw_n, vw_b, vw_i, vw_s, vw_u, vw_l, vw_o, ie_n, ie_b, ie_i, ie_s, ie_u, ie_l, ie_c, x10, x20, x21, x30, x31, x32, fin_b, fin_i, eq_ii, ne_ii, List.take_length, vw_k, ie_k, id_eq, Nat.reduceLeDiff, ↓xSl, ↓xAugI, ↓oE, ↓oNo, ↓xLs, ↓xExt, ↓iZp, e1, e2]

end Sk15
end
section
set_option maxRecDepth 100000
set_option maxHeartbeats 0
set_option exponentiation.threshold 1000000
namespace Sk15
open PySem L2 Sm
/-! ### heaps grown with some squares left out -/
def stepP (P : Nat → Bool) (hs : List Int) (F : List Int) (i : Nat) : List Int := if P i then (if i < hs.length then F.set i (hs.getD i 0 + 1) else F ++ [1]) else F
theorem fold_P {P : Nat → Bool} {hs : List Int} : ∀ j, j ≤ hs.length → (List.range j).foldl (stepP P hs) hs = ((List.range j).map fun i => hs.getD i 0 + if P i then 1 else 0) ++ hs.drop j
  | 0, _ => by simp
  | j + 1, h => by
    rw [List.range_succ, List.foldl_append, fold_P j (by omega), List.map_append, List.foldl_cons, List.foldl_nil]
    have e : hs.drop j = hs.getD j 0 :: hs.drop (j + 1) := by
      rw [List.drop_eq_getElem_cons (by omega)]
      simp [List.getD_eq_getElem?_getD, show j < hs.length by omega]
    rw [e]
    unfold stepP
    by_cases q : P j = true
    · simp only [q, if_true, show j < hs.length from h]
      rw [List.set_append_right _ _ (by simp)]
      simp [q]
    · simp [q]
theorem fold_allP {P : Nat → Bool} {hs : List Int} : (List.range (hs.length + 1)).foldl (stepP P hs) hs = riseS P hs := by
  rw [List.range_succ, List.foldl_append, fold_P _ (Nat.le_refl _), List.drop_length, List.append_nil, List.foldl_cons, List.foldl_nil]
  unfold stepP riseS
  by_cases q : P hs.length = true
  · simp [q]
  · simp [q]
theorem fold_congr {P Q : Nat → Bool} {hs : List Int} : ∀ (l : List Nat) (F : List Int), (∀ i ∈ l, P i = Q i) → l.foldl (stepP P hs) F = l.foldl (stepP Q hs) F
  | [], _, _ => rfl
  | i :: l, F, h => by
    rw [List.foldl_cons, List.foldl_cons]
    have : stepP P hs F i = stepP Q hs F i := by unfold stepP; rw [h i List.mem_cons_self]
    rw [this]
    exact fold_congr l _ fun j hj => h j (List.mem_cons_of_mem _ hj)
theorem stepP_len {P : Nat → Bool} {hs F : List Int} {i : Nat} : F.length ≤ (stepP P hs F i).length ∧ (stepP P hs F i).length ≤ F.length + 1 := by
  unfold stepP
  split
  · split
    · rw [List.length_set]; omega
    · rw [List.length_append, List.length_singleton]; omega
  · omega
theorem some_added {n s x : Int} {hs : List Int} (h : Hg 50 hs) (hn : 0 < n) (hs0 : s.natAbs < 2 ^ 100) {C : Cells} {N k : Nat} (D0 : Dc C N k) (hk : k ≤ 800000) :
    ∃ (P : Nat → Bool) (C' : Cells), m__law_some_added [.cel N, iT hs, .tup [.int n, .int s], .int x] C = some (.ok (iT (riseS P hs)) C') ∧ (∀ i, P i = true → glet n s x hs i = true) ∧ C'.length = C.length ∧ Dc C' N (k + hs.length + 1) := by
  have hN := D0.lt
  have hl := h.len
  obtain ⟨e2, C2, g1, t5, t8, t9, P, rfl, hP, hc2, hl2, D2⟩ := lp_pre (t := gN 5) (b := q1__law_some_added) (fun i : Nat => D.int (i : Nat))
    (fun pre e C' => ∃ (t5 t8 t9 : Option D) (P : Nat → Bool), e = [some (.cel N), some (iT hs), some (.tup [.int n, .int s]), some (.int x), some (.cel C.length), t5, some (.int n), some (.int s), t8, t9] ∧
      (∀ i, P i = true → glet n s x hs i = true) ∧ C'[C.length]? = some (some (.l ((pre.foldl (stepP P hs) hs).map D.int))) ∧ C'.length = C.length + 1 ∧ Dc C' N (k + pre.length))
    (List.range (hs.length + 1)) [some (.cel N), some (iT hs), some (.tup [.int n, .int s]), some (.int x), some (.cel C.length), none, some (.int n), some (.int s), none, none] (C ++ [some (.l (hs.map D.int))]) ⟨none, none, none, fun _ => false, rfl, (fun i q => by cases q), by simp, by simp, D0.app _⟩ fun pre i post e C' hx ⟨t5, t8, t9, P, he, hP, hc, hlen, D1⟩ => by
      subst he
      obtain ⟨hpre, hi⟩ := range_split hx
      have hpl : pre.length = i := by rw [hpre, List.length_range]
      have hil : i ≤ hs.length := by omega
      have hFl : (pre.foldl (stepP P hs) hs).length = hs.length := by
        rw [hpre, fold_P i hil]
        simp
        omega
      rw [List.length_append, List.length_singleton, hpl]
      -- the next state, with b for column i
      have next : ∀ (b : Bool) (C5 : Cells) (t8' t9' : Option D), (b = true → glet n s x hs i = true) → C5.length = C.length + 1 → Dc C5 N (k + (i + 1)) → C5[C.length]? = some (some (.l ((stepP (fun _ => b) hs (pre.foldl (stepP P hs) hs) i).map D.int))) →
          ∃ (t5 t8 t9 : Option D) (P : Nat → Bool), [some (D.cel N), some (iT hs), some (.tup [.int n, .int s]), some (.int x), some (.cel C.length), some (.int (i : Nat)), some (.int n), some (.int s), t8', t9'] = [some (.cel N), some (iT hs), some (.tup [.int n, .int s]), some (.int x), some (.cel C.length), t5, some (.int n), some (.int s), t8, t9] ∧
      (∀ i, P i = true → glet n s x hs i = true) ∧ C5[C.length]? = some (some (.l (((pre ++ [i]).foldl (stepP P hs) hs).map D.int))) ∧ C5.length = C.length + 1 ∧ Dc C5 N (k + (i + 1)) := fun b C5 t8' t9' hb h1 h2 h3 => by
        refine ⟨_, _, _, fun j => if j = i then b else P j, rfl, fun j hj => ?_, ?_, h1, h2⟩
        · by_cases q : j = i
          · subst q
            simp only [if_true] at hj
            exact hb hj
          · simp only [if_neg q] at hj
            exact hP j hj
        · rw [h3, List.foldl_append]
          congr 4
          have e1 : pre.foldl (stepP (fun j => if j = i then b else P j) hs) hs = pre.foldl (stepP P hs) hs := fold_congr _ _ fun j hj => by
            rw [hpre] at hj
            have := List.mem_range.mp hj
            show (if j = i then b else P j) = P j
            rw [if_neg (by omega)]
          rw [e1]
          rw [List.foldl_cons, List.foldl_nil]
          unfold stepP
          simp
      obtain ⟨F, hF⟩ : ∃ F, F = pre.foldl (stepP P hs) hs := ⟨_, rfl⟩
      rw [← hF] at hc hFl next
      have hv := vw_c hc
      have hgl : glet n s x hs i = ((decide (i = 0) || decide (hs.getD i 0 < hs.getD (i - 1) 0)) && (((i : Int) - hs.getD i 0) * s - x) % n == 0) := rfl
      have hl' : decide ((i : Int) < ((hs.map D.int).length : Int)) = decide (i < hs.length) := by rw [List.length_map]; simp
      have hp : i = 0 ∨ ∃ v, hs.getD (i - 1) 0 = v ∧ atI (hs.map D.int) ((i : Int) - 1) = some (.int v) := by
        by_cases q : i = 0
        · exact .inl q
        · refine .inr ⟨_, rfl, ?_⟩
          have := ix_T (ns := hs) (i := i - 1) (by omega)
          rw [Int.natCast_sub (by omega)] at this
          exact this
      have hz : ((i : Int) == 0) = decide (i = 0) := by
        rw [Bool.eq_iff_iff]
        simp
      have hv0 : 0 ≤ hs.getD i 0 ∧ hs.getD i 0 ≤ 60 := by
        by_cases q : i < hs.length
        · have := h.rng i q
          omega
        · rw [getD_out (by omega)]
          omega
      have k1 : atI (hs.map D.int) (i : Int) = some (.int (hs.getD i 0)) ∧ i < hs.length ∨ hs.getD i 0 = 0 ∧ ¬ i < hs.length := by
        by_cases q : i < hs.length
        · exact .inl ⟨ix_T q, q⟩
        · exact .inr ⟨getD_out (by omega), q⟩
      have hxN : i < hs.length → ixN (F.map D.int).length (i : Int) = some i := fun q => ixN_nat (by rw [List.length_map]; omega)
      have hst : ∀ v : Int, (F.map D.int).set i (D.int v) = (F.set i v).map D.int := fun v => by rw [List.map_set]
      have hsP : stepP (fun _ => true) hs F i = if i < hs.length then F.set i (hs.getD i 0 + 1) else F ++ [1] := by unfold stepP; simp
      have hsN : stepP (fun _ => false) hs F i = F := by unfold stepP; simp
      have D1' : Dc C' N (k + (i + 1)) := by rw [hpl] at D1; exact D1.mono (by omega)
      have nextN : ∀ (C5 : Cells) (t8' t9' : Option D), C5.length = C.length + 1 → Dc C5 N (k + (i + 1)) → C5[C.length]? = some (some (.l (F.map D.int))) → _ := fun C5 t8' t9' h1 h2 h3 => next false C5 t8' t9' (fun z => by cases z) h1 h2 (by rw [hsN]; exact h3)
      have m1 : s.natAbs < 2 ^ 400000 := Nat.lt_of_lt_of_le hs0 (Nat.pow_le_pow_right (by decide) (by decide))
      obtain ⟨h0, hh0⟩ : ∃ h0, hs.getD i 0 = h0 := ⟨_, rfl⟩
      rw [hh0] at hgl hv0 k1 hsP
      have I0 : 0 ≤ (i : Int) ∧ (i : Int) ≤ 60 := by omega
      obtain ⟨I, hI⟩ : ∃ I : Int, (i : Int) = I := ⟨_, rfl⟩
      rw [hI] at hl' hp hz hgl k1 hxN I0 next nextN
      have m2 : (I - h0).natAbs < 2 ^ 400000 := Nat.lt_of_lt_of_le (m := 2 ^ 10) (by omega) (Nat.pow_le_pow_right (by decide) (by decide))
      refine ⟨_, rfl, ?_⟩
      show ∃ e2 C2, q1__law_some_added [some (.cel N), some (iT hs), some (.tup [.int n, .int s]), some (.int x), some (.cel C.length), some (.int (i : Nat)), some (.int n), some (.int s), t8, t9] C' = _ ∧ _
      rw [hI]
      have rise : ∃ r : Bool, (decide (i = 0) || decide (h0 < hs.getD (i - 1) 0)) = r ∧ xOrV (x2 dEq (xV 5) (S.val (.int 0))) (x2 dGt (x2 dIx (xV 1) (x2 dSub (xV 5) (S.val (.int 1)))) (xV 8)) [some (.cel N), some (iT hs), some (.tup [.int n, .int s]), some (.int x), some (.cel C.length), some (.int I), some (.int n), some (.int s), some (.int h0), t9] C' = some (.ok (.bl r) C') := by
        rcases hp with rfl | ⟨v, h1, h2⟩
        · refine ⟨true, rfl, ?_⟩
          simp only [↓xDef, ↓xSeq, ↓xDo, ↓xNext, ↓xRet, ↓xExp, ↓xIfS, ↓xAsg, ↓gN, ↓gT, ↓gsC, ↓gsN, ↓xV, ↓S.val, ↓S.bind, ↓S.opt, ↓x2, ↓x1, ↓xN, ↓xB, ↓xD, ↓xAnd, ↓xOr, ↓xNot, ↓xIf, ↓xAndV, ↓xOrV, ↓xNotV, ↓xChain, ↓aNil, ↓aCons, ↓xTup, ↓few, ↓xF, ↓xC, ↓xSetI, ↓xPar, ↓xCall, ↓xFrz, ↓xM, live, i2, dSub, dAdd, dMul, dMulA, dMod, dDiv, dLt, dLe, dGt, dGe, dIx, at10, at20, at21, at30, at31, at32, cst0, cst1, cst2, cst3, dNeg, dAbs, dInt, dLen, dMin2, dMax2, dGcd, dTuple, ↓iR1, ↓iR2, ↓iV, items, ↓iEn, items1, nocel, nocels, List.map_cons, List.map_nil, List.getElem?_cons_zero, List.getElem?_cons_succ, List.getElem?_nil, List.set_cons_zero, List.set_cons_succ, List.length_cons, List.length_nil, List.replicate, List.cons_append, List.nil_append, Nat.reduceAdd, Nat.reduceSub, Bool.false_eq_true, if_true, if_false, Option.map_some, Option.bind_some, Option.bind_none, Bool.and_true, Bool.and_false, Bool.true_and, Bool.not_true, Bool.not_false, decide_true, decide_false, vw_n, vw_b, vw_i, vw_s, vw_u, vw_l, vw_o, ie_n, ie_b, ie_i, ie_s, ie_u, ie_l, ie_c, x10, x20, x21, x30, x31, x32, fin_b, fin_i, eq_ii, ne_ii, List.take_length, vw_k, ie_k, id_eq, Nat.reduceLeDiff, ↓xSl, ↓xAugI, ↓oE, ↓oNo, ↓xLs, ↓xExt, ↓iZp, hz]
        · refine ⟨_, rfl, ?_⟩
          rw [h1]
          by_cases q : i = 0
          · simp only [↓xDef, ↓xSeq, ↓xDo, ↓xNext, ↓xRet, ↓xExp, ↓xIfS, ↓xAsg, ↓gN, ↓gT, ↓gsC, ↓gsN, ↓xV, ↓S.val, ↓S.bind, ↓S.opt, ↓x2, ↓x1, ↓xN, ↓xB, ↓xD, ↓xAnd, ↓xOr, ↓xNot, ↓xIf, ↓xAndV, ↓xOrV, ↓xNotV, ↓xChain, ↓aNil, ↓aCons, ↓xTup, ↓few, ↓xF, ↓xC, ↓xSetI, ↓xPar, ↓xCall, ↓xFrz, ↓xM, live, i2, dSub, dAdd, dMul, dMulA, dMod, dDiv, dLt, dLe, dGt, dGe, dIx, at10, at20, at21, at30, at31, at32, cst0, cst1, cst2, cst3, dNeg, dAbs, dInt, dLen, dMin2, dMax2, dGcd, dTuple, ↓iR1, ↓iR2, ↓iV, items, ↓iEn, items1, nocel, nocels, List.map_cons, List.map_nil, List.getElem?_cons_zero, List.getElem?_cons_succ, List.getElem?_nil, List.set_cons_zero, List.set_cons_succ, List.length_cons, List.length_nil, List.replicate, List.cons_append, List.nil_append, Nat.reduceAdd, Nat.reduceSub, Bool.false_eq_true, if_true, if_false, Option.map_some, Option.bind_some, Option.bind_none, Bool.and_true, Bool.and_false, Bool.true_and, Bool.not_true, Bool.not_false, decide_true, decide_false, vw_n, vw_b, vw_i, vw_s, vw_u, vw_l, vw_o, ie_n, ie_b, ie_i, ie_s, ie_u, ie_l, ie_c, x10, x20, x21, x30, x31, x32, fin_b, fin_i, eq_ii, ne_ii, List.take_length, vw_k, ie_k, id_eq, Nat.reduceLeDiff, ↓xSl, ↓xAugI, ↓oE, ↓oNo, ↓xLs, ↓xExt, ↓iZp, hz, q, Bool.true_or]
          · simp only [↓xDef, ↓xSeq, ↓xDo, ↓xNext, ↓xRet, ↓xExp, ↓xIfS, ↓xAsg, ↓gN, ↓gT, ↓gsC, ↓gsN, ↓xV, ↓S.val, ↓S.bind, ↓S.opt, ↓x2, ↓x1, ↓xN, ↓xB, ↓xD, ↓xAnd, ↓xOr, ↓xNot, ↓xIf, ↓xAndV, ↓xOrV, ↓xNotV, ↓xChain, ↓aNil, ↓aCons, ↓xTup, ↓few, ↓xF, ↓xC, ↓xSetI, ↓xPar, ↓xCall, ↓xFrz, ↓xM, live, i2, dSub, dAdd, dMul, dMulA, dMod, dDiv, dLt, dLe, dGt, dGe, dIx, at10, at20, at21, at30, at31, at32, cst0, cst1, cst2, cst3, dNeg, dAbs, dInt, dLen, dMin2, dMax2, dGcd, dTuple, ↓iR1, ↓iR2, ↓iV, items, ↓iEn, items1, nocel, nocels, List.map_cons, List.map_nil, List.getElem?_cons_zero, List.getElem?_cons_succ, List.getElem?_nil, List.set_cons_zero, List.set_cons_succ, List.length_cons, List.length_nil, List.replicate, List.cons_append, List.nil_append, Nat.reduceAdd, Nat.reduceSub, Bool.false_eq_true, if_true, if_false, Option.map_some, Option.bind_some, Option.bind_none, Bool.and_true, Bool.and_false, Bool.true_and, Bool.not_true, Bool.not_false, decide_true, decide_false, vw_n, vw_b, vw_i, vw_s, vw_u, vw_l, vw_o, ie_n, ie_b, ie_i, ie_s, ie_u, ie_l, ie_c, x10, x20, x21, x30, x31, x32, fin_b, fin_i, eq_ii, ne_ii, List.take_length, vw_k, ie_k, id_eq, Nat.reduceLeDiff, ↓xSl, ↓xAugI, ↓oE, ↓oNo, ↓xLs, ↓xExt, ↓iZp, hz, q, h2, Bool.false_or]
      obtain ⟨r, hr, rise⟩ := rise
      rw [hr] at hgl
      have a1 : xAsg (xIf (xB (x2 dLt (xV 5) (xN dLen (aCons (xV 1) (aNil))))) (x2 dIx (xV 1) (xV 5)) (S.val (.int (0)))) (gN 8) [some (.cel N), some (iT hs), some (.tup [.int n, .int s]), some (.int x), some (.cel C.length), some (.int I), some (.int n), some (.int s), t8, t9] C' =
          some (.nx [some (.cel N), some (iT hs), some (.tup [.int n, .int s]), some (.int x), some (.cel C.length), some (.int I), some (.int n), some (.int s), some (.int h0), t9] C') := by
        rcases k1 with ⟨k1, k2⟩ | ⟨k1, k2⟩
        · simp only [↓xDef, ↓xSeq, ↓xDo, ↓xNext, ↓xRet, ↓xExp, ↓xIfS, ↓xAsg, ↓gN, ↓gT, ↓gsC, ↓gsN, ↓xV, ↓S.val, ↓S.bind, ↓S.opt, ↓x2, ↓x1, ↓xN, ↓xB, ↓xD, ↓xAnd, ↓xOr, ↓xNot, ↓xIf, ↓xAndV, ↓xOrV, ↓xNotV, ↓xChain, ↓aNil, ↓aCons, ↓xTup, ↓few, ↓xF, ↓xC, ↓xSetI, ↓xPar, ↓xCall, ↓xFrz, ↓xM, live, i2, dSub, dAdd, dMul, dMulA, dMod, dDiv, dLt, dLe, dGt, dGe, dIx, at10, at20, at21, at30, at31, at32, cst0, cst1, cst2, cst3, dNeg, dAbs, dInt, dLen, dMin2, dMax2, dGcd, dTuple, ↓iR1, ↓iR2, ↓iV, items, ↓iEn, items1, nocel, nocels, List.map_cons, List.map_nil, List.getElem?_cons_zero, List.getElem?_cons_succ, List.getElem?_nil, List.set_cons_zero, List.set_cons_succ, List.length_cons, List.length_nil, List.replicate, List.cons_append, List.nil_append, Nat.reduceAdd, Nat.reduceSub, Bool.false_eq_true, if_true, if_false, Option.map_some, Option.bind_some, Option.bind_none, Bool.and_true, Bool.and_false, Bool.true_and, Bool.not_true, Bool.not_false, decide_true, decide_false, vw_n, vw_b, vw_i, vw_s, vw_u, vw_l, vw_o, ie_n, ie_b, ie_i, ie_s, ie_u, ie_l, ie_c, x10, x20, x21, x30, x31, x32, fin_b, fin_i, eq_ii, ne_ii, List.take_length, vw_k, ie_k, id_eq, Nat.reduceLeDiff, ↓xSl, ↓xAugI, ↓oE, ↓oNo, ↓xLs, ↓xExt, ↓iZp, hl', k2, k1]
        · subst k1
          simp only [↓xDef, ↓xSeq, ↓xDo, ↓xNext, ↓xRet, ↓xExp, ↓xIfS, ↓xAsg, ↓gN, ↓gT, ↓gsC, ↓gsN, ↓xV, ↓S.val, ↓S.bind, ↓S.opt, ↓x2, ↓x1, ↓xN, ↓xB, ↓xD, ↓xAnd, ↓xOr, ↓xNot, ↓xIf, ↓xAndV, ↓xOrV, ↓xNotV, ↓xChain, ↓aNil, ↓aCons, ↓xTup, ↓few, ↓xF, ↓xC, ↓xSetI, ↓xPar, ↓xCall, ↓xFrz, ↓xM, live, i2, dSub, dAdd, dMul, dMulA, dMod, dDiv, dLt, dLe, dGt, dGe, dIx, at10, at20, at21, at30, at31, at32, cst0, cst1, cst2, cst3, dNeg, dAbs, dInt, dLen, dMin2, dMax2, dGcd, dTuple, ↓iR1, ↓iR2, ↓iV, items, ↓iEn, items1, nocel, nocels, List.map_cons, List.map_nil, List.getElem?_cons_zero, List.getElem?_cons_succ, List.getElem?_nil, List.set_cons_zero, List.set_cons_succ, List.length_cons, List.length_nil, List.replicate, List.cons_append, List.nil_append, Nat.reduceAdd, Nat.reduceSub, Bool.false_eq_true, if_true, if_false, Option.map_some, Option.bind_some, Option.bind_none, Bool.and_true, Bool.and_false, Bool.true_and, Bool.not_true, Bool.not_false, decide_true, decide_false, vw_n, vw_b, vw_i, vw_s, vw_u, vw_l, vw_o, ie_n, ie_b, ie_i, ie_s, ie_u, ie_l, ie_c, x10, x20, x21, x30, x31, x32, fin_b, fin_i, eq_ii, ne_ii, List.take_length, vw_k, ie_k, id_eq, Nat.reduceLeDiff, ↓xSl, ↓xAugI, ↓oE, ↓oNo, ↓xLs, ↓xExt, ↓iZp, hl', k2]
      unfold q1__law_some_added
      rw [seq_nx a1, seq_nx (e' := [some (.cel N), some (iT hs), some (.tup [.int n, .int s]), some (.int x), some (.cel C.length), some (.int I), some (.int n), some (.int s), some (.int h0), some (.bl r)]) (C' := C') (by
        unfold xAsg xDo
        rw [rise]
        rfl)]
      cases r with
      | false => exact ⟨[some (.cel N), some (iT hs), some (.tup [.int n, .int s]), some (.int x), some (.cel C.length), some (.int I), some (.int n), some (.int s), some (.int h0), some (.bl false)], C', by simp only [↓xDef, ↓xSeq, ↓xDo, ↓xNext, ↓xRet, ↓xExp, ↓xIfS, ↓xAsg, ↓gN, ↓gT, ↓gsC, ↓gsN, ↓xV, ↓S.val, ↓S.bind, ↓S.opt, ↓x2, ↓x1, ↓xN, ↓xB, ↓xD, ↓xAnd, ↓xOr, ↓xNot, ↓xIf, ↓xAndV, ↓xOrV, ↓xNotV, ↓xChain, ↓aNil, ↓aCons, ↓xTup, ↓few, ↓xF, ↓xC, ↓xSetI, ↓xPar, ↓xCall, ↓xFrz, ↓xM, live, i2, dSub, dAdd, dMul, dMulA, dMod, dDiv, dLt, dLe, dGt, dGe, dIx, at10, at20, at21, at30, at31, at32, cst0, cst1, cst2, cst3, dNeg, dAbs, dInt, dLen, dMin2, dMax2, dGcd, dTuple, ↓iR1, ↓iR2, ↓iV, items, ↓iEn, items1, nocel, nocels, List.map_cons, List.map_nil, List.getElem?_cons_zero, List.getElem?_cons_succ, List.getElem?_nil, List.set_cons_zero, List.set_cons_succ, List.length_cons, List.length_nil, List.replicate, List.cons_append, List.nil_append, Nat.reduceAdd, Nat.reduceSub, Bool.false_eq_true, if_true, if_false, Option.map_some, Option.bind_some, Option.bind_none, Bool.and_true, Bool.and_false, Bool.true_and, Bool.not_true, Bool.not_false, decide_true, decide_false, vw_n, vw_b, vw_i, vw_s, vw_u, vw_l, vw_o, ie_n, ie_b, ie_i, ie_s, ie_u, ie_l, ie_c, x10, x20, x21, x30, x31, x32, fin_b, fin_i, eq_ii, ne_ii, List.take_length, vw_k, ie_k, id_eq, Nat.reduceLeDiff, ↓xSl, ↓xAugI, ↓oE, ↓oNo, ↓xLs, ↓xExt, ↓iZp, Bool.false_and], nextN C' _ _ hlen D1' hc⟩
      | true =>
        by_cases q : ((I - h0) * s - x) % n = 0
        · obtain ⟨v, C3, e3, v0, v1, l3, D3, f3⟩ := roll_fr (z := 3) D1 (by omega) (by decide) (by decide)
          rw [hpl] at D3
          have hc3 : C3[C.length]? = some (some (.l (F.map D.int))) := by rw [f3 _ (by omega)]; exact hc
          have hv3 := vw_c hc3
          by_cases q3 : 0 < v
          · have q3' : decide (0 < v) = true := by simpa using q3
            have hglt : glet n s x hs i = true := by rw [hgl]; simp [q]
            refine ⟨[some (.cel N), some (iT hs), some (.tup [.int n, .int s]), some (.int x), some (.cel C.length), some (.int I), some (.int n), some (.int s), some (.int h0), some (.bl true)], C3.set C.length (some (.l ((stepP (fun _ => true) hs F i).map D.int))), ?_, next true _ _ _ (fun _ => hglt) (by rw [List.length_set]; omega) ((D3.mono (by omega)).cong (by rw [List.getElem?_set_ne (by omega)])) (List.getElem?_set_self (by omega))⟩
            rw [hsP]
            rcases k1 with ⟨k1, k2⟩ | ⟨k1, k2⟩
            · rw [if_pos k2, ← hst]
              simp only [↓xDef, ↓xSeq, ↓xDo, ↓xNext, ↓xRet, ↓xExp, ↓xIfS, ↓xAsg, ↓gN, ↓gT, ↓gsC, ↓gsN, ↓xV, ↓S.val, ↓S.bind, ↓S.opt, ↓x2, ↓x1, ↓xN, ↓xB, ↓xD, ↓xAnd, ↓xOr, ↓xNot, ↓xIf, ↓xAndV, ↓xOrV, ↓xNotV, ↓xChain, ↓aNil, ↓aCons, ↓xTup, ↓few, ↓xF, ↓xC, ↓xSetI, ↓xPar, ↓xCall, ↓xFrz, ↓xM, live, i2, dSub, dAdd, dMul, dMulA, dMod, dDiv, dLt, dLe, dGt, dGe, dIx, at10, at20, at21, at30, at31, at32, cst0, cst1, cst2, cst3, dNeg, dAbs, dInt, dLen, dMin2, dMax2, dGcd, dTuple, ↓iR1, ↓iR2, ↓iV, items, ↓iEn, items1, nocel, nocels, List.map_cons, List.map_nil, List.getElem?_cons_zero, List.getElem?_cons_succ, List.getElem?_nil, List.set_cons_zero, List.set_cons_succ, List.length_cons, List.length_nil, List.replicate, List.cons_append, List.nil_append, Nat.reduceAdd, Nat.reduceSub, Bool.false_eq_true, if_true, if_false, Option.map_some, Option.bind_some, Option.bind_none, Bool.and_true, Bool.and_false, Bool.true_and, Bool.not_true, Bool.not_false, decide_true, decide_false, vw_n, vw_b, vw_i, vw_s, vw_u, vw_l, vw_o, ie_n, ie_b, ie_i, ie_s, ie_u, ie_l, ie_c, x10, x20, x21, x30, x31, x32, fin_b, fin_i, eq_ii, ne_ii, List.take_length, vw_k, ie_k, id_eq, Nat.reduceLeDiff, ↓xSl, ↓xAugI, ↓oE, ↓oNo, ↓xLs, ↓xExt, ↓iZp, hl', k2, m1, m2, and_self, hn, q, e3, q3', hv3, hc3, hxN k2, beq_self_eq_true]
            · have hap : F.map D.int ++ [D.int 1] = (F ++ [1]).map D.int := by rw [List.map_append]; rfl
              have h3 : (F.map D.int).length < 1000000 := by rw [List.length_map]; omega
              rw [if_neg k2]
              simp only [↓xDef, ↓xSeq, ↓xDo, ↓xNext, ↓xRet, ↓xExp, ↓xIfS, ↓xAsg, ↓gN, ↓gT, ↓gsC, ↓gsN, ↓xV, ↓S.val, ↓S.bind, ↓S.opt, ↓x2, ↓x1, ↓xN, ↓xB, ↓xD, ↓xAnd, ↓xOr, ↓xNot, ↓xIf, ↓xAndV, ↓xOrV, ↓xNotV, ↓xChain, ↓aNil, ↓aCons, ↓xTup, ↓few, ↓xF, ↓xC, ↓xSetI, ↓xPar, ↓xCall, ↓xFrz, ↓xM, live, i2, dSub, dAdd, dMul, dMulA, dMod, dDiv, dLt, dLe, dGt, dGe, dIx, at10, at20, at21, at30, at31, at32, cst0, cst1, cst2, cst3, dNeg, dAbs, dInt, dLen, dMin2, dMax2, dGcd, dTuple, ↓iR1, ↓iR2, ↓iV, items, ↓iEn, items1, nocel, nocels, List.map_cons, List.map_nil, List.getElem?_cons_zero, List.getElem?_cons_succ, List.getElem?_nil, List.set_cons_zero, List.set_cons_succ, List.length_cons, List.length_nil, List.replicate, List.cons_append, List.nil_append, Nat.reduceAdd, Nat.reduceSub, Bool.false_eq_true, if_true, if_false, Option.map_some, Option.bind_some, Option.bind_none, Bool.and_true, Bool.and_false, Bool.true_and, Bool.not_true, Bool.not_false, decide_true, decide_false, vw_n, vw_b, vw_i, vw_s, vw_u, vw_l, vw_o, ie_n, ie_b, ie_i, ie_s, ie_u, ie_l, ie_c, x10, x20, x21, x30, x31, x32, fin_b, fin_i, eq_ii, ne_ii, List.take_length, vw_k, ie_k, id_eq, Nat.reduceLeDiff, ↓xSl, ↓xAugI, ↓oE, ↓oNo, ↓xLs, ↓xExt, ↓iZp, hl', k2, m1, m2, and_self, hn, q, e3, q3', hv3, hc3, mAppend, hap, beq_self_eq_true, h3, nocels_i, Option.isSome_some]
          · have q3' : decide (0 < v) = false := by simpa using q3
            exact ⟨[some (.cel N), some (iT hs), some (.tup [.int n, .int s]), some (.int x), some (.cel C.length), some (.int I), some (.int n), some (.int s), some (.int h0), some (.bl true)], C3, by simp only [↓xDef, ↓xSeq, ↓xDo, ↓xNext, ↓xRet, ↓xExp, ↓xIfS, ↓xAsg, ↓gN, ↓gT, ↓gsC, ↓gsN, ↓xV, ↓S.val, ↓S.bind, ↓S.opt, ↓x2, ↓x1, ↓xN, ↓xB, ↓xD, ↓xAnd, ↓xOr, ↓xNot, ↓xIf, ↓xAndV, ↓xOrV, ↓xNotV, ↓xChain, ↓aNil, ↓aCons, ↓xTup, ↓few, ↓xF, ↓xC, ↓xSetI, ↓xPar, ↓xCall, ↓xFrz, ↓xM, live, i2, dSub, dAdd, dMul, dMulA, dMod, dDiv, dLt, dLe, dGt, dGe, dIx, at10, at20, at21, at30, at31, at32, cst0, cst1, cst2, cst3, dNeg, dAbs, dInt, dLen, dMin2, dMax2, dGcd, dTuple, ↓iR1, ↓iR2, ↓iV, items, ↓iEn, items1, nocel, nocels, List.map_cons, List.map_nil, List.getElem?_cons_zero, List.getElem?_cons_succ, List.getElem?_nil, List.set_cons_zero, List.set_cons_succ, List.length_cons, List.length_nil, List.replicate, List.cons_append, List.nil_append, Nat.reduceAdd, Nat.reduceSub, Bool.false_eq_true, if_true, if_false, Option.map_some, Option.bind_some, Option.bind_none, Bool.and_true, Bool.and_false, Bool.true_and, Bool.not_true, Bool.not_false, decide_true, decide_false, vw_n, vw_b, vw_i, vw_s, vw_u, vw_l, vw_o, ie_n, ie_b, ie_i, ie_s, ie_u, ie_l, ie_c, x10, x20, x21, x30, x31, x32, fin_b, fin_i, eq_ii, ne_ii, List.take_length, vw_k, ie_k, id_eq, Nat.reduceLeDiff, ↓xSl, ↓xAugI, ↓oE, ↓oNo, ↓xLs, ↓xExt, ↓iZp, m1, m2, and_self, hn, q, e3, q3', beq_self_eq_true], nextN C3 _ _ (by omega) (D3.mono (by omega)) hc3⟩
        · have q2 : (((I - h0) * s - x) % n == 0) = false := by simpa using q
          exact ⟨[some (.cel N), some (iT hs), some (.tup [.int n, .int s]), some (.int x), some (.cel C.length), some (.int I), some (.int n), some (.int s), some (.int h0), some (.bl true)], C', by simp only [↓xDef, ↓xSeq, ↓xDo, ↓xNext, ↓xRet, ↓xExp, ↓xIfS, ↓xAsg, ↓gN, ↓gT, ↓gsC, ↓gsN, ↓xV, ↓S.val, ↓S.bind, ↓S.opt, ↓x2, ↓x1, ↓xN, ↓xB, ↓xD, ↓xAnd, ↓xOr, ↓xNot, ↓xIf, ↓xAndV, ↓xOrV, ↓xNotV, ↓xChain, ↓aNil, ↓aCons, ↓xTup, ↓few, ↓xF, ↓xC, ↓xSetI, ↓xPar, ↓xCall, ↓xFrz, ↓xM, live, i2, dSub, dAdd, dMul, dMulA, dMod, dDiv, dLt, dLe, dGt, dGe, dIx, at10, at20, at21, at30, at31, at32, cst0, cst1, cst2, cst3, dNeg, dAbs, dInt, dLen, dMin2, dMax2, dGcd, dTuple, ↓iR1, ↓iR2, ↓iV, items, ↓iEn, items1, nocel, nocels, List.map_cons, List.map_nil, List.getElem?_cons_zero, List.getElem?_cons_succ, List.getElem?_nil, List.set_cons_zero, List.set_cons_succ, List.length_cons, List.length_nil, List.replicate, List.cons_append, List.nil_append, Nat.reduceAdd, Nat.reduceSub, Bool.false_eq_true, if_true, if_false, Option.map_some, Option.bind_some, Option.bind_none, Bool.and_true, Bool.and_false, Bool.true_and, Bool.not_true, Bool.not_false, decide_true, decide_false, vw_n, vw_b, vw_i, vw_s, vw_u, vw_l, vw_o, ie_n, ie_b, ie_i, ie_s, ie_u, ie_l, ie_c, x10, x20, x21, x30, x31, x32, fin_b, fin_i, eq_ii, ne_ii, List.take_length, vw_k, ie_k, id_eq, Nat.reduceLeDiff, ↓xSl, ↓xAugI, ↓oE, ↓oNo, ↓xLs, ↓xExt, ↓iZp, m1, m2, and_self, hn, q2], nextN C' _ _ hlen D1' hc⟩
  rw [fold_allP] at hc2
  rw [List.length_range] at D2
  have hr := rng1_Z (z := ((hs.map D.int).length : Int) + 1) (by omega) (by rw [List.length_map]; omega)
  have e : (((hs.map D.int).length : Int) + 1).toNat = hs.length + 1 := by rw [List.length_map]; omega
  rw [e] at hr
  have hq : q2__law_some_added [some (.cel N), some (iT hs), some (.tup [.int n, .int s]), some (.int x), some (.cel C.length), none, some (.int n), some (.int s), none, none] (C ++ [some (.l (hs.map D.int))]) = some (.nx [some (.cel N), some (iT hs), some (.tup [.int n, .int s]), some (.int x), some (.cel C.length), t5, some (.int n), some (.int s), t8, t9] C2) := by
    unfold q2__law_some_added
    refine (xFor_ok (ds := (List.range (hs.length + 1)).map fun i : Nat => D.int (i : Nat)) (g := gd0) (C1 := C ++ [some (.l (hs.map D.int))]) ?_).trans g1
    obtain ⟨L, hL⟩ : ∃ L : Int, ((hs.map D.int).length : Int) = L := ⟨_, rfl⟩
    rw [hL] at hr
    simp only [↓xDef, ↓xSeq, ↓xDo, ↓xNext, ↓xRet, ↓xExp, ↓xIfS, ↓xAsg, ↓gN, ↓gT, ↓gsC, ↓gsN, ↓xV, ↓S.val, ↓S.bind, ↓S.opt, ↓x2, ↓x1, ↓xN, ↓xB, ↓xD, ↓xAnd, ↓xOr, ↓xNot, ↓xIf, ↓xAndV, ↓xOrV, ↓xNotV, ↓xChain, ↓aNil, ↓aCons, ↓xTup, ↓few, ↓xF, ↓xC, ↓xSetI, ↓xPar, ↓xCall, ↓xFrz, ↓xM, live, i2, dSub, dAdd, dMul, dMulA, dMod, dDiv, dLt, dLe, dGt, dGe, dIx, at10, at20, at21, at30, at31, at32, cst0, cst1, cst2, cst3, dNeg, dAbs, dInt, dLen, dMin2, dMax2, dGcd, dTuple, ↓iR1, ↓iR2, ↓iV, items, ↓iEn, items1, nocel, nocels, List.map_cons, List.map_nil, List.getElem?_cons_zero, List.getElem?_cons_succ, List.getElem?_nil, List.set_cons_zero, List.set_cons_succ, List.length_cons, List.length_nil, List.replicate, List.cons_append, List.nil_append, Nat.reduceAdd, Nat.reduceSub, Bool.false_eq_true, if_true, if_false, Option.map_some, Option.bind_some, Option.bind_none, Bool.and_true, Bool.and_false, Bool.true_and, Bool.not_true, Bool.not_false, decide_true, decide_false, vw_n, vw_b, vw_i, vw_s, vw_u, vw_l, vw_o, ie_n, ie_b, ie_i, ie_s, ie_u, ie_l, ie_c, x10, x20, x21, x30, x31, x32, fin_b, fin_i, eq_ii, ne_ii, List.take_length, vw_k, ie_k, id_eq, Nat.reduceLeDiff, ↓xSl, ↓xAugI, ↓oE, ↓oNo, ↓xLs, ↓xExt, ↓iZp, hL, hr]
  have hv := vw_c hc2
  have hf : fin C.length (iT (riseS P hs)) C2 = some (.ok (iT (riseS P hs)) (C2.take C.length)) := fin_n (show nocel (iT _) = true from nocels_i _)
  refine ⟨P, C2.take C.length, ?_, hP, by rw [List.length_take]; omega, (D2.mono (by omega)).cong (by rw [List.getElem?_take, if_pos hN])⟩
  unfold m__law_some_added b__law_some_added
  simp only [↓xDef, ↓xSeq, ↓xDo, ↓xNext, ↓xRet, ↓xExp, ↓xIfS, ↓xAsg, ↓gN, ↓gT, ↓gsC, ↓gsN, ↓xV, ↓S.val, ↓S.bind, ↓S.opt, ↓x2, ↓x1, ↓xN, ↓xB, ↓xD, ↓xAnd, ↓xOr, ↓xNot, ↓xIf, ↓xAndV, ↓xOrV, ↓xNotV, ↓xChain, ↓aNil, ↓aCons, ↓xTup, ↓few, ↓xF, ↓xC, ↓xSetI, ↓xPar, ↓xCall, ↓xFrz, ↓xM, live, i2, dSub, dAdd, dMul, dMulA, dMod, dDiv, dLt, dLe, dGt, dGe, dIx, at10, at20, at21, at30, at31, at32, cst0, cst1, cst2, cst3, dNeg, dAbs, dInt, dLen, dMin2, dMax2, dGcd, dTuple, ↓iR1, ↓iR2, ↓iV, items, ↓iEn, items1, nocel, nocels, List.map_cons, List.map_nil, List.getElem?_cons_zero, List.getElem?_cons_succ, List.getElem?_nil, List.set_cons_zero, List.set_cons_succ, List.length_cons, List.length_nil, List.replicate, List.cons_append, List.nil_append, Nat.reduceAdd, Nat.reduceSub, Bool.false_eq_true, if_true, if_false, Option.map_some, Option.bind_some, Option.bind_none, Bool.and_true, Bool.and_false, Bool.true_and, Bool.not_true, Bool.not_false, decide_true, decide_false, vw_n, vw_b, vw_i, vw_s, vw_u, vw_l, vw_o, ie_n, ie_b, ie_i, ie_s, ie_u, ie_l, ie_c, x10, x20, x21, x30, x31, x32, fin_b, fin_i, eq_ii, ne_ii, List.take_length, vw_k, ie_k, id_eq, Nat.reduceLeDiff, ↓xSl, ↓xAugI, ↓oE, ↓oNo, ↓xLs, ↓xExt, ↓iZp, hq, hv, hf, lsOf, nocels_i]
theorem some_hg {k : Nat} {n s x : Int} {hs : List Int} (h : Hg k hs) {P : Nat → Bool} (hP : ∀ i, P i = true → glet n s x hs i = true) : Hg (k + 1) (riseS P hs) :=
  hg_rise h fun i _ q => by
    have := hP i q
    rw [glet_eq, Bool.and_eq_true] at this
    exact this.1
theorem some_le {k l : Nat} {n s x : Int} {hs H : List Int} (h : Hg k hs) (hH : Hg l H) (hle : LeH hs H) {P : Nat → Bool} (hP : ∀ i, P i = true → glet n s x hs i = true) : LeH (riseS P hs) (grow n s x H) := fun i => by
  refine Int.le_trans ?_ (grow_mono h hH hle n s x i)
  rw [rise_get, grow_at]
  by_cases q : i ≤ hs.length ∧ P i = true
  · rw [if_pos q, if_pos (hP i q.2)]
    omega
  · rw [if_neg q]
    split <;> omega
end Sk15
end
section
set_option maxRecDepth 100000
set_option maxHeartbeats 0
set_option exponentiation.threshold 1000000
namespace Sk15
open PySem L2 Sm
theorem okEs_all {n : Nat} : ∀ {ds : List D}, (∀ d ∈ ds, okE d n = true) → okEs ds n = true
  | [], _ => by simp [okEs]
  | d :: ds, h => by
    simp only [okEs, h d List.mem_cons_self, okEs_all fun d' hd' => h d' (List.mem_cons_of_mem _ hd'), Bool.and_true]
theorem eq_iT (xs ys : List Int) : dEq (iT xs) (iT ys) = some (.bl (decide (xs = ys))) := by
  unfold dEq
  rw [if_pos ⟨okEs_i xs 59, okEs_i ys 59⟩]
  show some (D.bl (eqds (xs.map D.int) (ys.map D.int))) = _
  rw [eqd_i]
theorem ne_iT (xs ys : List Int) : dNe (iT xs) (iT ys) = some (.bl (!decide (xs = ys))) := by
  unfold dNe
  rw [if_pos ⟨okEs_i xs 59, okEs_i ys 59⟩]
  show some (D.bl (!eqds (xs.map D.int) (ys.map D.int))) = _
  rw [eqd_i]
theorem ne_iL (xs ys : List Int) : dNe (iL xs) (iL ys) = some (.bl (!decide (xs = ys))) := by
  unfold dNe
  rw [if_pos ⟨okEs_i xs 59, okEs_i ys 59⟩]
  show some (D.bl (!eqds (xs.map D.int) (ys.map D.int))) = _
  rw [eqd_i]
theorem eq_iL (xs ys : List Int) : dEq (iL xs) (iL ys) = some (.bl (decide (xs = ys))) := by
  unfold dEq
  rw [if_pos ⟨okEs_i xs 59, okEs_i ys 59⟩]
  show some (D.bl (eqds (xs.map D.int) (ys.map D.int))) = _
  rw [eqd_i]
theorem law_held {A B : List Int} (hA : A.length ≤ 1000) (C : Cells) : m__law_held [iT A, iT B] C = some (.ok (.bl (holdB A B)) C) := by
  have l1 : q1__law_held [some (iT A), some (iT B), none, none] C = some (.ok (((A.zip B).filter fun p => decide (p.1 < p.2)).map fun _ => D.int 1) C) := by
    unfold q1__law_held
    refine lc_T (g := gd0) (fun p : Int × Int => .tup [.int p.1, .int p.2]) _ (fun p : Int × Int => decide (p.1 < p.2)) (fun _ => D.int 1) (by simp only [↓xDef, ↓xSeq, ↓xDo, ↓xNext, ↓xRet, ↓xExp, ↓xIfS, ↓xAsg, ↓gN, ↓gT, ↓gsC, ↓gsN, ↓xV, ↓S.val, ↓S.bind, ↓S.opt, ↓x2, ↓x1, ↓xN, ↓xB, ↓xD, ↓xAnd, ↓xOr, ↓xNot, ↓xIf, ↓xAndV, ↓xOrV, ↓xNotV, ↓xChain, ↓aNil, ↓aCons, ↓xTup, ↓few, ↓xF, ↓xC, ↓xSetI, ↓xPar, ↓xCall, ↓xFrz, ↓xM, live, i2, dSub, dAdd, dMul, dMulA, dMod, dDiv, dLt, dLe, dGt, dGe, dIx, atI, dNeg, dAbs, dInt, dLen, dMin2, dMax2, dGcd, dTuple, ↓iR1, ↓iR2, ↓iV, items, ↓iEn, items1, nocel, nocels, List.map_cons, List.map_nil, List.getElem?_cons_zero, List.getElem?_cons_succ, List.getElem?_nil, List.set_cons_zero, List.set_cons_succ, List.length_cons, List.length_nil, List.replicate, List.cons_append, List.nil_append, Nat.reduceAdd, Nat.reduceSub, Bool.false_eq_true, if_true, if_false, Option.map_some, Option.bind_some, Option.bind_none, Bool.and_true, Bool.and_false, Bool.true_and, Bool.not_true, Bool.not_false, decide_true, decide_false, vw_n, vw_b, vw_i, vw_s, vw_u, vw_l, vw_o, ie_n, ie_b, ie_i, ie_s, ie_u, ie_l, ie_c, x10, x20, x21, x30, x31, x32, fin_b, fin_i, eq_ii, ne_ii, List.take_length, vw_k, ie_k, id_eq, Nat.reduceLeDiff, ↓xSl, ↓xAugI, ↓oE, ↓oNo, ↓xLs, ↓xExt, ↓iZp, zips, prs_map2]) rfl (by rw [List.length_zip]; omega) fun p hp => ⟨[some (iT A), some (iT B), some (.int p.1), some (.int p.2)], rfl, by simp only [↓xDef, ↓xSeq, ↓xDo, ↓xNext, ↓xRet, ↓xExp, ↓xIfS, ↓xAsg, ↓gN, ↓gT, ↓gsC, ↓gsN, ↓xV, ↓S.val, ↓S.bind, ↓S.opt, ↓x2, ↓x1, ↓xN, ↓xB, ↓xD, ↓xAnd, ↓xOr, ↓xNot, ↓xIf, ↓xAndV, ↓xOrV, ↓xNotV, ↓xChain, ↓aNil, ↓aCons, ↓xTup, ↓few, ↓xF, ↓xC, ↓xSetI, ↓xPar, ↓xCall, ↓xFrz, ↓xM, live, i2, dSub, dAdd, dMul, dMulA, dMod, dDiv, dLt, dLe, dGt, dGe, dIx, atI, dNeg, dAbs, dInt, dLen, dMin2, dMax2, dGcd, dTuple, ↓iR1, ↓iR2, ↓iV, items, ↓iEn, items1, nocel, nocels, List.map_cons, List.map_nil, List.getElem?_cons_zero, List.getElem?_cons_succ, List.getElem?_nil, List.set_cons_zero, List.set_cons_succ, List.length_cons, List.length_nil, List.replicate, List.cons_append, List.nil_append, Nat.reduceAdd, Nat.reduceSub, Bool.false_eq_true, if_true, if_false, Option.map_some, Option.bind_some, Option.bind_none, Bool.and_true, Bool.and_false, Bool.true_and, Bool.not_true, Bool.not_false, decide_true, decide_false, vw_n, vw_b, vw_i, vw_s, vw_u, vw_l, vw_o, ie_n, ie_b, ie_i, ie_s, ie_u, ie_l, ie_c, x10, x20, x21, x30, x31, x32, fin_b, fin_i, eq_ii, ne_ii, List.take_length, vw_k, ie_k, id_eq, Nat.reduceLeDiff, ↓xSl, ↓xAugI, ↓oE, ↓oNo, ↓xLs, ↓xExt, ↓iZp], fun _ => by simp only [↓xDef, ↓xSeq, ↓xDo, ↓xNext, ↓xRet, ↓xExp, ↓xIfS, ↓xAsg, ↓gN, ↓gT, ↓gsC, ↓gsN, ↓xV, ↓S.val, ↓S.bind, ↓S.opt, ↓x2, ↓x1, ↓xN, ↓xB, ↓xD, ↓xAnd, ↓xOr, ↓xNot, ↓xIf, ↓xAndV, ↓xOrV, ↓xNotV, ↓xChain, ↓aNil, ↓aCons, ↓xTup, ↓few, ↓xF, ↓xC, ↓xSetI, ↓xPar, ↓xCall, ↓xFrz, ↓xM, live, i2, dSub, dAdd, dMul, dMulA, dMod, dDiv, dLt, dLe, dGt, dGe, dIx, atI, dNeg, dAbs, dInt, dLen, dMin2, dMax2, dGcd, dTuple, ↓iR1, ↓iR2, ↓iV, items, ↓iEn, items1, nocel, nocels, List.map_cons, List.map_nil, List.getElem?_cons_zero, List.getElem?_cons_succ, List.getElem?_nil, List.set_cons_zero, List.set_cons_succ, List.length_cons, List.length_nil, List.replicate, List.cons_append, List.nil_append, Nat.reduceAdd, Nat.reduceSub, Bool.false_eq_true, if_true, if_false, Option.map_some, Option.bind_some, Option.bind_none, Bool.and_true, Bool.and_false, Bool.true_and, Bool.not_true, Bool.not_false, decide_true, decide_false, vw_n, vw_b, vw_i, vw_s, vw_u, vw_l, vw_o, ie_n, ie_b, ie_i, ie_s, ie_u, ie_l, ie_c, x10, x20, x21, x30, x31, x32, fin_b, fin_i, eq_ii, ne_ii, List.take_length, vw_k, ie_k, id_eq, Nat.reduceLeDiff, ↓xSl, ↓xAugI, ↓oE, ↓oNo, ↓xLs, ↓xExt, ↓iZp]⟩
  have hE : dEq (.lst (((A.zip B).filter fun p => decide (p.1 < p.2)).map fun _ => D.int 1)) (.lst []) = some (.bl ((A.zip B).all fun p => decide (p.2 ≤ p.1))) := by
    have hb : (((A.zip B).filter fun p => decide (p.1 < p.2)).isEmpty) = (A.zip B).all fun p => decide (p.2 ≤ p.1) := by
      rw [Bool.eq_iff_iff, List.isEmpty_iff, List.filter_eq_nil_iff, List.all_eq_true]
      refine forall_congr' fun p => forall_congr' fun _ => ?_
      simp
    rw [← hb]
    generalize ((A.zip B).filter fun p => decide (p.1 < p.2)) = zs
    have ok : okEs (zs.map fun _ => D.int 1) 59 = true := okEs_all fun d hd => by
      obtain ⟨p, _, rfl⟩ := List.mem_map.mp hd
      rfl
    unfold dEq
    rw [if_pos ⟨ok, rfl⟩]
    cases zs <;> rfl
  have hl : decide (((B.map D.int).length : Int) ≤ ((A.map D.int).length : Int)) = decide (B.length ≤ A.length) := by
    rw [List.length_map, List.length_map]
    simp
  unfold m__law_held b__law_held holdB
  cases h : decide (B.length ≤ A.length) with
  | false =>
    rw [h] at hl
    simp only [↓xDef, ↓xSeq, ↓xDo, ↓xNext, ↓xRet, ↓xExp, ↓xIfS, ↓xAsg, ↓gN, ↓gT, ↓gsC, ↓gsN, ↓xV, ↓S.val, ↓S.bind, ↓S.opt, ↓x2, ↓x1, ↓xN, ↓xB, ↓xD, ↓xAnd, ↓xOr, ↓xNot, ↓xIf, ↓xAndV, ↓xOrV, ↓xNotV, ↓xChain, ↓aNil, ↓aCons, ↓xTup, ↓few, ↓xF, ↓xC, ↓xSetI, ↓xPar, ↓xCall, ↓xFrz, ↓xM, live, i2, dSub, dAdd, dMul, dMulA, dMod, dDiv, dLt, dLe, dGt, dGe, dIx, atI, dNeg, dAbs, dInt, dLen, dMin2, dMax2, dGcd, dTuple, ↓iR1, ↓iR2, ↓iV, items, ↓iEn, items1, nocel, nocels, List.map_cons, List.map_nil, List.getElem?_cons_zero, List.getElem?_cons_succ, List.getElem?_nil, List.set_cons_zero, List.set_cons_succ, List.length_cons, List.length_nil, List.replicate, List.cons_append, List.nil_append, Nat.reduceAdd, Nat.reduceSub, Bool.false_eq_true, if_true, if_false, Option.map_some, Option.bind_some, Option.bind_none, Bool.and_true, Bool.and_false, Bool.true_and, Bool.not_true, Bool.not_false, decide_true, decide_false, vw_n, vw_b, vw_i, vw_s, vw_u, vw_l, vw_o, ie_n, ie_b, ie_i, ie_s, ie_u, ie_l, ie_c, x10, x20, x21, x30, x31, x32, fin_b, fin_i, eq_ii, ne_ii, List.take_length, vw_k, ie_k, id_eq, Nat.reduceLeDiff, ↓xSl, ↓xAugI, ↓oE, ↓oNo, ↓xLs, ↓xExt, ↓iZp, hl, Bool.false_and]
  | true =>
    rw [h] at hl
    simp only [↓xDef, ↓xSeq, ↓xDo, ↓xNext, ↓xRet, ↓xExp, ↓xIfS, ↓xAsg, ↓gN, ↓gT, ↓gsC, ↓gsN, ↓xV, ↓S.val, ↓S.bind, ↓S.opt, ↓x2, ↓x1, ↓xN, ↓xB, ↓xD, ↓xAnd, ↓xOr, ↓xNot, ↓xIf, ↓xAndV, ↓xOrV, ↓xNotV, ↓xChain, ↓aNil, ↓aCons, ↓xTup, ↓few, ↓xF, ↓xC, ↓xSetI, ↓xPar, ↓xCall, ↓xFrz, ↓xM, live, i2, dSub, dAdd, dMul, dMulA, dMod, dDiv, dLt, dLe, dGt, dGe, dIx, atI, dNeg, dAbs, dInt, dLen, dMin2, dMax2, dGcd, dTuple, ↓iR1, ↓iR2, ↓iV, items, ↓iEn, items1, nocel, nocels, List.map_cons, List.map_nil, List.getElem?_cons_zero, List.getElem?_cons_succ, List.getElem?_nil, List.set_cons_zero, List.set_cons_succ, List.length_cons, List.length_nil, List.replicate, List.cons_append, List.nil_append, Nat.reduceAdd, Nat.reduceSub, Bool.false_eq_true, if_true, if_false, Option.map_some, Option.bind_some, Option.bind_none, Bool.and_true, Bool.and_false, Bool.true_and, Bool.not_true, Bool.not_false, decide_true, decide_false, vw_n, vw_b, vw_i, vw_s, vw_u, vw_l, vw_o, ie_n, ie_b, ie_i, ie_s, ie_u, ie_l, ie_c, x10, x20, x21, x30, x31, x32, fin_b, fin_i, eq_ii, ne_ii, List.take_length, vw_k, ie_k, id_eq, Nat.reduceLeDiff, ↓xSl, ↓xAugI, ↓oE, ↓oNo, ↓xLs, ↓xExt, ↓iZp, hl, l1, hE, Bool.true_and]
theorem meet_of {A B : List Int} (hA : A.length ≤ 1000) (C : Cells) : m__law_meet_of [iT A, iT B] C = some (.ok (iT (minH A B)) C) := by
  have l1 : q1__law_meet_of [some (iT A), some (iT B), none, none] C = some (.ok ((minH A B).map D.int) C) := by
    unfold minH
    rw [List.map_map]
    unfold q1__law_meet_of
    exact lc_T0 (g := gd0) (fun p : Int × Int => .tup [.int p.1, .int p.2]) _ _ (by simp only [↓xDef, ↓xSeq, ↓xDo, ↓xNext, ↓xRet, ↓xExp, ↓xIfS, ↓xAsg, ↓gN, ↓gT, ↓gsC, ↓gsN, ↓xV, ↓S.val, ↓S.bind, ↓S.opt, ↓x2, ↓x1, ↓xN, ↓xB, ↓xD, ↓xAnd, ↓xOr, ↓xNot, ↓xIf, ↓xAndV, ↓xOrV, ↓xNotV, ↓xChain, ↓aNil, ↓aCons, ↓xTup, ↓few, ↓xF, ↓xC, ↓xSetI, ↓xPar, ↓xCall, ↓xFrz, ↓xM, live, i2, dSub, dAdd, dMul, dMulA, dMod, dDiv, dLt, dLe, dGt, dGe, dIx, atI, dNeg, dAbs, dInt, dLen, dMin2, dMax2, dGcd, dTuple, ↓iR1, ↓iR2, ↓iV, items, ↓iEn, items1, nocel, nocels, List.map_cons, List.map_nil, List.getElem?_cons_zero, List.getElem?_cons_succ, List.getElem?_nil, List.set_cons_zero, List.set_cons_succ, List.length_cons, List.length_nil, List.replicate, List.cons_append, List.nil_append, Nat.reduceAdd, Nat.reduceSub, Bool.false_eq_true, if_true, if_false, Option.map_some, Option.bind_some, Option.bind_none, Bool.and_true, Bool.and_false, Bool.true_and, Bool.not_true, Bool.not_false, decide_true, decide_false, vw_n, vw_b, vw_i, vw_s, vw_u, vw_l, vw_o, ie_n, ie_b, ie_i, ie_s, ie_u, ie_l, ie_c, x10, x20, x21, x30, x31, x32, fin_b, fin_i, eq_ii, ne_ii, List.take_length, vw_k, ie_k, id_eq, Nat.reduceLeDiff, ↓xSl, ↓xAugI, ↓oE, ↓oNo, ↓xLs, ↓xExt, ↓iZp, zips, prs_map2]) rfl (by rw [List.length_zip]; omega) fun p hp => ⟨[some (iT A), some (iT B), some (.int p.1), some (.int p.2)], rfl, by simp only [↓xDef, ↓xSeq, ↓xDo, ↓xNext, ↓xRet, ↓xExp, ↓xIfS, ↓xAsg, ↓gN, ↓gT, ↓gsC, ↓gsN, ↓xV, ↓S.val, ↓S.bind, ↓S.opt, ↓x2, ↓x1, ↓xN, ↓xB, ↓xD, ↓xAnd, ↓xOr, ↓xNot, ↓xIf, ↓xAndV, ↓xOrV, ↓xNotV, ↓xChain, ↓aNil, ↓aCons, ↓xTup, ↓few, ↓xF, ↓xC, ↓xSetI, ↓xPar, ↓xCall, ↓xFrz, ↓xM, live, i2, dSub, dAdd, dMul, dMulA, dMod, dDiv, dLt, dLe, dGt, dGe, dIx, atI, dNeg, dAbs, dInt, dLen, dMin2, dMax2, dGcd, dTuple, ↓iR1, ↓iR2, ↓iV, items, ↓iEn, items1, nocel, nocels, List.map_cons, List.map_nil, List.getElem?_cons_zero, List.getElem?_cons_succ, List.getElem?_nil, List.set_cons_zero, List.set_cons_succ, List.length_cons, List.length_nil, List.replicate, List.cons_append, List.nil_append, Nat.reduceAdd, Nat.reduceSub, Bool.false_eq_true, if_true, if_false, Option.map_some, Option.bind_some, Option.bind_none, Bool.and_true, Bool.and_false, Bool.true_and, Bool.not_true, Bool.not_false, decide_true, decide_false, vw_n, vw_b, vw_i, vw_s, vw_u, vw_l, vw_o, ie_n, ie_b, ie_i, ie_s, ie_u, ie_l, ie_c, x10, x20, x21, x30, x31, x32, fin_b, fin_i, eq_ii, ne_ii, List.take_length, vw_k, ie_k, id_eq, Nat.reduceLeDiff, ↓xSl, ↓xAugI, ↓oE, ↓oNo, ↓xLs, ↓xExt, ↓iZp]; rfl⟩
  have hf : fin C.length (iT (minH A B)) C = some (.ok (iT (minH A B)) C) := fin_iT
  unfold m__law_meet_of b__law_meet_of
  simp only [↓xDef, ↓xSeq, ↓xDo, ↓xNext, ↓xRet, ↓xExp, ↓xIfS, ↓xAsg, ↓gN, ↓gT, ↓gsC, ↓gsN, ↓xV, ↓S.val, ↓S.bind, ↓S.opt, ↓x2, ↓x1, ↓xN, ↓xB, ↓xD, ↓xAnd, ↓xOr, ↓xNot, ↓xIf, ↓xAndV, ↓xOrV, ↓xNotV, ↓xChain, ↓aNil, ↓aCons, ↓xTup, ↓few, ↓xF, ↓xC, ↓xSetI, ↓xPar, ↓xCall, ↓xFrz, ↓xM, live, i2, dSub, dAdd, dMul, dMulA, dMod, dDiv, dLt, dLe, dGt, dGe, dIx, atI, dNeg, dAbs, dInt, dLen, dMin2, dMax2, dGcd, dTuple, ↓iR1, ↓iR2, ↓iV, items, ↓iEn, items1, nocel, nocels, List.map_cons, List.map_nil, List.getElem?_cons_zero, List.getElem?_cons_succ, List.getElem?_nil, List.set_cons_zero, List.set_cons_succ, List.length_cons, List.length_nil, List.replicate, List.cons_append, List.nil_append, Nat.reduceAdd, Nat.reduceSub, Bool.false_eq_true, if_true, if_false, Option.map_some, Option.bind_some, Option.bind_none, Bool.and_true, Bool.and_false, Bool.true_and, Bool.not_true, Bool.not_false, decide_true, decide_false, vw_n, vw_b, vw_i, vw_s, vw_u, vw_l, vw_o, ie_n, ie_b, ie_i, ie_s, ie_u, ie_l, ie_c, x10, x20, x21, x30, x31, x32, fin_b, fin_i, eq_ii, ne_ii, List.take_length, vw_k, ie_k, id_eq, Nat.reduceLeDiff, ↓xSl, ↓xAugI, ↓oE, ↓oNo, ↓xLs, ↓xExt, ↓iZp, l1, hf]
theorem fold_hg (ps : List ((Int × Int) × Int)) : Hg ps.length (ps.foldl stepH []) := by
  have := hg_fold ps hg_nil
  rwa [Nat.zero_add] at this
theorem growth {cs : Ch} {xs : List Int} (hv : Cv cs) (hT : Tv cs xs) (h1 : 1 ≤ cs.length) (h8 : cs.length ≤ 8) {C : Cells} {N k : Nat} (D0 : Dc C N k) (hk : k ≤ 600000) :
    ∃ C', m__law_growth_right [.cel N, chD cs, iT xs] C = some (.ok (.bl true) C') ∧ C'.length = C.length ∧ Dc C' N (k + 300) := by
  have hec := ie_ch cs
  obtain ⟨e2, C2, g1, t7, t8, t9, t10, fe, one, other, rfl, hf, ho, hot, le1, le2, l2, D2⟩ := lp_pre (t := gT (gsC (gN 7) (gsC (gN 8) gsN))) (b := q1__law_growth_right) (fun p : (Int × Int) × Int => .tup [rd p.1, .int p.2])
    (fun pre e C' => ∃ (t7 t8 t9 t10 : Option D) (fe one other : List Int), e = [some (.cel N), some (chD cs), some (iT xs), none, some (iT fe), some (iT one), some (iT other), t7, t8, t9, t10] ∧ Hg pre.length fe ∧ Hg pre.length one ∧ Hg pre.length other ∧ LeH fe (pre.foldl stepH []) ∧ LeH other (pre.foldl stepH []) ∧ C'.length = C.length ∧ Dc C' N (k + 30 * pre.length))
    (cs.zip xs) [some (.cel N), some (chD cs), some (iT xs), none, some (iT []), some (iT []), some (iT []), none, none, none, none] C ⟨none, none, none, none, [], [], [], rfl, hg_nil, hg_nil, hg_nil, fun i => Int.le_refl _, fun i => Int.le_refl _, rfl, D0⟩ fun pre p post e C' hx ⟨t7, t8, t9, t10, fe, one, other, he, hf, ho, hot, le1, le2, hl, D1⟩ => by
      subst he
      have hpl : pre.length < (cs.zip xs).length := by rw [hx]; simp
      rw [List.length_zip] at hpl
      obtain ⟨k1, k2, k3⟩ := hT.zip p (by rw [hx]; simp)
      obtain ⟨c1, c2, c3, c4⟩ := hv _ k1
      obtain ⟨⟨n, s⟩, x⟩ := p
      dsimp only at c1 c2 c3 c4 k2 k3
      have hn : 0 < n := by omega
      have hsm : s.natAbs < 2 ^ 100 := Nat.lt_of_lt_of_le (m := 2 ^ 10) (by omega) (Nat.pow_le_pow_right (by decide) (by decide))
      obtain ⟨P, C3, e3, hP, l3, D3⟩ := some_added (x := x) (hf.mono (show pre.length ≤ 50 by omega)) hn hsm D1 (by omega)
      have hfl := hf.len
      obtain ⟨y, C4, e4, y0, y1, l4, D4⟩ := roll (z := n) D3 (by omega) (by omega) (by omega)
      have e5 := law_grown (n := n) (s := s) (x := y) (ho.mono (show pre.length ≤ 60 by omega)) hn hsm C4
      obtain ⟨Q, C5, e6, hQ, l5, D5⟩ := some_added (x := x) (hot.mono (show pre.length ≤ 50 by omega)) hn hsm D4 (by omega)
      have hol := hot.len
      have g1 := hg_grow ho n s y
      have g2 := some_hg hot hQ
      have e7 := common_of g1 (by omega) g2 (by omega) C5
      have e8 := grown (n := n) (s := s) (x := x) (hg_min g1 g2) (by omega) c1 c2 c3 c4 k2 k3 C5
      have e9 := grown (n := n) (s := s) (x := x) g1 (by omega) c1 c2 c3 c4 k2 k3 C5
      have e10 := grown (n := n) (s := s) (x := x) g2 (by omega) c1 c2 c3 c4 k2 k3 C5
      have e11 := common_of (hg_grow g1 n s x) (by omega) (hg_grow g2 n s x) (by omega) C5
      rw [← grow_minH g1 g2] at e11
      have e12 := law_grown (n := n) (s := s) (x := x) (g1.mono (show pre.length + 1 ≤ 60 by omega)) hn hsm C5
      have e13 := law_grown (n := n) (s := s) (x := x) (g2.mono (show pre.length + 1 ≤ 60 by omega)) hn hsm C5
      have e14 := meet_of (A := grow n s x (grow n s y one)) (B := grow n s x (riseS Q other)) (by have := (hg_grow g1 n s x).len; omega) C5
      rw [← grow_minH g1 g2] at e14
      have N1 := ne_iT (grow n s x (minH (grow n s y one) (riseS Q other))) (grow n s x (minH (grow n s y one) (riseS Q other)))
      rw [decide_eq_true rfl] at N1
      have hfo : (pre ++ [((n, s), x)]).foldl stepH [] = grow n s x (pre.foldl stepH []) := by rw [List.foldl_append]; rfl
      rw [hfo, List.length_append, List.length_singleton]
      have hfd := fold_hg pre
      refine ⟨[some (.cel N), some (chD cs), some (iT xs), none, some (iT fe), some (iT one), some (iT other), some (rd (n, s)), some (.int x), t9, t10], rfl, [some (.cel N), some (chD cs), some (iT xs), none, some (iT (riseS P fe)), some (iT (grow n s y one)), some (iT (riseS Q other)), some (rd (n, s)), some (.int x), some (iT (grow n s x (minH (grow n s y one) (riseS Q other)))), some (.int y)], C5, ?_, _, _, _, _, _, _, _, rfl, some_hg hf hP, g1, g2, some_le hf hfd le1 hP, some_le hot hfd le2 hQ, by omega, D5.mono (by omega)⟩
      generalize grow n s x (minH (grow n s y one) (riseS Q other)) = both at *
      generalize minH (grow n s y one) (riseS Q other) = mh at *
      generalize grow n s x (grow n s y one) = ga at *
      generalize grow n s x (riseS Q other) = gb at *
      generalize grow n s y one = o1 at *
      generalize riseS Q other = o2 at *
      generalize riseS P fe = fw at *
      unfold q1__law_growth_right rd
      rw [seq_nx (e' := [some (.cel N), some (chD cs), some (iT xs), none, some (iT fw), some (iT one), some (iT other), some (.tup [.int n, .int s]), some (.int x), t9, some (.int y)]) (C' := C4) (by simp only [↓xDef, ↓xSeq, ↓xDo, ↓xNext, ↓xRet, ↓xExp, ↓xIfS, ↓xAsg, ↓gN, ↓gT, ↓gsC, ↓gsN, ↓xV, ↓S.val, ↓S.bind, ↓S.opt, ↓x2, ↓x1, ↓xN, ↓xB, ↓xD, ↓xAnd, ↓xOr, ↓xNot, ↓xIf, ↓xAndV, ↓xOrV, ↓xNotV, ↓xChain, ↓aNil, ↓aCons, ↓xTup, ↓few, ↓xF, ↓xC, ↓xSetI, ↓xPar, ↓xCall, ↓xFrz, ↓xM, live, i2, dSub, dAdd, dMul, dMulA, dMod, dDiv, dLt, dLe, dGt, dGe, dIx, at10, at20, at21, at30, at31, at32, cst0, cst1, cst2, cst3, dNeg, dAbs, dInt, dLen, dMin2, dMax2, dGcd, dTuple, ↓iR1, ↓iR2, ↓iV, items, ↓iEn, items1, nocel, nocels, List.map_cons, List.map_nil, List.getElem?_cons_zero, List.getElem?_cons_succ, List.getElem?_nil, List.set_cons_zero, List.set_cons_succ, List.length_cons, List.length_nil, List.replicate, List.cons_append, List.nil_append, Nat.reduceAdd, Nat.reduceSub, Bool.false_eq_true, if_true, if_false, Option.map_some, Option.bind_some, Option.bind_none, Bool.and_true, Bool.and_false, Bool.true_and, Bool.not_true, Bool.not_false, decide_true, decide_false, vw_n, vw_b, vw_i, vw_s, vw_u, vw_l, vw_o, ie_n, ie_b, ie_i, ie_s, ie_u, ie_l, ie_c, x10, x20, x21, x30, x31, x32, fin_b, fin_i, eq_ii, ne_ii, List.take_length, vw_k, ie_k, id_eq, Nat.reduceLeDiff, ↓xSl, ↓xAugI, ↓oE, ↓oNo, ↓xLs, ↓xExt, ↓iZp, e3, e4])]
      rw [seq_nx (e' := [some (.cel N), some (chD cs), some (iT xs), none, some (iT fw), some (iT o1), some (iT o2), some (.tup [.int n, .int s]), some (.int x), t9, some (.int y)]) (C' := C5) (by simp only [↓xDef, ↓xSeq, ↓xDo, ↓xNext, ↓xRet, ↓xExp, ↓xIfS, ↓xAsg, ↓gN, ↓gT, ↓gsC, ↓gsN, ↓xV, ↓S.val, ↓S.bind, ↓S.opt, ↓x2, ↓x1, ↓xN, ↓xB, ↓xD, ↓xAnd, ↓xOr, ↓xNot, ↓xIf, ↓xAndV, ↓xOrV, ↓xNotV, ↓xChain, ↓aNil, ↓aCons, ↓xTup, ↓few, ↓xF, ↓xC, ↓xSetI, ↓xPar, ↓xCall, ↓xFrz, ↓xM, live, i2, dSub, dAdd, dMul, dMulA, dMod, dDiv, dLt, dLe, dGt, dGe, dIx, at10, at20, at21, at30, at31, at32, cst0, cst1, cst2, cst3, dNeg, dAbs, dInt, dLen, dMin2, dMax2, dGcd, dTuple, ↓iR1, ↓iR2, ↓iV, items, ↓iEn, items1, nocel, nocels, List.map_cons, List.map_nil, List.getElem?_cons_zero, List.getElem?_cons_succ, List.getElem?_nil, List.set_cons_zero, List.set_cons_succ, List.length_cons, List.length_nil, List.replicate, List.cons_append, List.nil_append, Nat.reduceAdd, Nat.reduceSub, Bool.false_eq_true, if_true, if_false, Option.map_some, Option.bind_some, Option.bind_none, Bool.and_true, Bool.and_false, Bool.true_and, Bool.not_true, Bool.not_false, decide_true, decide_false, vw_n, vw_b, vw_i, vw_s, vw_u, vw_l, vw_o, ie_n, ie_b, ie_i, ie_s, ie_u, ie_l, ie_c, x10, x20, x21, x30, x31, x32, fin_b, fin_i, eq_ii, ne_ii, List.take_length, vw_k, ie_k, id_eq, Nat.reduceLeDiff, ↓xSl, ↓xAugI, ↓oE, ↓oNo, ↓xLs, ↓xExt, ↓iZp, e5, e6])]
      rw [seq_nx (e' := [some (.cel N), some (chD cs), some (iT xs), none, some (iT fw), some (iT o1), some (iT o2), some (.tup [.int n, .int s]), some (.int x), some (iT both), some (.int y)]) (C' := C5) (by simp only [↓xDef, ↓xSeq, ↓xDo, ↓xNext, ↓xRet, ↓xExp, ↓xIfS, ↓xAsg, ↓gN, ↓gT, ↓gsC, ↓gsN, ↓xV, ↓S.val, ↓S.bind, ↓S.opt, ↓x2, ↓x1, ↓xN, ↓xB, ↓xD, ↓xAnd, ↓xOr, ↓xNot, ↓xIf, ↓xAndV, ↓xOrV, ↓xNotV, ↓xChain, ↓aNil, ↓aCons, ↓xTup, ↓few, ↓xF, ↓xC, ↓xSetI, ↓xPar, ↓xCall, ↓xFrz, ↓xM, live, i2, dSub, dAdd, dMul, dMulA, dMod, dDiv, dLt, dLe, dGt, dGe, dIx, at10, at20, at21, at30, at31, at32, cst0, cst1, cst2, cst3, dNeg, dAbs, dInt, dLen, dMin2, dMax2, dGcd, dTuple, ↓iR1, ↓iR2, ↓iV, items, ↓iEn, items1, nocel, nocels, List.map_cons, List.map_nil, List.getElem?_cons_zero, List.getElem?_cons_succ, List.getElem?_nil, List.set_cons_zero, List.set_cons_succ, List.length_cons, List.length_nil, List.replicate, List.cons_append, List.nil_append, Nat.reduceAdd, Nat.reduceSub, Bool.false_eq_true, if_true, if_false, Option.map_some, Option.bind_some, Option.bind_none, Bool.and_true, Bool.and_false, Bool.true_and, Bool.not_true, Bool.not_false, decide_true, decide_false, vw_n, vw_b, vw_i, vw_s, vw_u, vw_l, vw_o, ie_n, ie_b, ie_i, ie_s, ie_u, ie_l, ie_c, x10, x20, x21, x30, x31, x32, fin_b, fin_i, eq_ii, ne_ii, List.take_length, vw_k, ie_k, id_eq, Nat.reduceLeDiff, ↓xSl, ↓xAugI, ↓oE, ↓oNo, ↓xLs, ↓xExt, ↓iZp, e7, e8])]
      rw [seq_nx (e' := [some (.cel N), some (chD cs), some (iT xs), none, some (iT fw), some (iT o1), some (iT o2), some (.tup [.int n, .int s]), some (.int x), some (iT both), some (.int y)]) (C' := C5) (by simp only [↓xDef, ↓xSeq, ↓xDo, ↓xNext, ↓xRet, ↓xExp, ↓xIfS, ↓xAsg, ↓gN, ↓gT, ↓gsC, ↓gsN, ↓xV, ↓S.val, ↓S.bind, ↓S.opt, ↓x2, ↓x1, ↓xN, ↓xB, ↓xD, ↓xAnd, ↓xOr, ↓xNot, ↓xIf, ↓xAndV, ↓xOrV, ↓xNotV, ↓xChain, ↓aNil, ↓aCons, ↓xTup, ↓few, ↓xF, ↓xC, ↓xSetI, ↓xPar, ↓xCall, ↓xFrz, ↓xM, live, i2, dSub, dAdd, dMul, dMulA, dMod, dDiv, dLt, dLe, dGt, dGe, dIx, at10, at20, at21, at30, at31, at32, cst0, cst1, cst2, cst3, dNeg, dAbs, dInt, dLen, dMin2, dMax2, dGcd, dTuple, ↓iR1, ↓iR2, ↓iV, items, ↓iEn, items1, nocel, nocels, List.map_cons, List.map_nil, List.getElem?_cons_zero, List.getElem?_cons_succ, List.getElem?_nil, List.set_cons_zero, List.set_cons_succ, List.length_cons, List.length_nil, List.replicate, List.cons_append, List.nil_append, Nat.reduceAdd, Nat.reduceSub, Bool.false_eq_true, if_true, if_false, Option.map_some, Option.bind_some, Option.bind_none, Bool.and_true, Bool.and_false, Bool.true_and, Bool.not_true, Bool.not_false, decide_true, decide_false, vw_n, vw_b, vw_i, vw_s, vw_u, vw_l, vw_o, ie_n, ie_b, ie_i, ie_s, ie_u, ie_l, ie_c, x10, x20, x21, x30, x31, x32, fin_b, fin_i, eq_ii, ne_ii, List.take_length, vw_k, ie_k, id_eq, Nat.reduceLeDiff, ↓xSl, ↓xAugI, ↓oE, ↓oNo, ↓xLs, ↓xExt, ↓iZp, e9, e10, e11, N1])]
      simp only [↓xDef, ↓xSeq, ↓xDo, ↓xNext, ↓xRet, ↓xExp, ↓xIfS, ↓xAsg, ↓gN, ↓gT, ↓gsC, ↓gsN, ↓xV, ↓S.val, ↓S.bind, ↓S.opt, ↓x2, ↓x1, ↓xN, ↓xB, ↓xD, ↓xAnd, ↓xOr, ↓xNot, ↓xIf, ↓xAndV, ↓xOrV, ↓xNotV, ↓xChain, ↓aNil, ↓aCons, ↓xTup, ↓few, ↓xF, ↓xC, ↓xSetI, ↓xPar, ↓xCall, ↓xFrz, ↓xM, live, i2, dSub, dAdd, dMul, dMulA, dMod, dDiv, dLt, dLe, dGt, dGe, dIx, at10, at20, at21, at30, at31, at32, cst0, cst1, cst2, cst3, dNeg, dAbs, dInt, dLen, dMin2, dMax2, dGcd, dTuple, ↓iR1, ↓iR2, ↓iV, items, ↓iEn, items1, nocel, nocels, List.map_cons, List.map_nil, List.getElem?_cons_zero, List.getElem?_cons_succ, List.getElem?_nil, List.set_cons_zero, List.set_cons_succ, List.length_cons, List.length_nil, List.replicate, List.cons_append, List.nil_append, Nat.reduceAdd, Nat.reduceSub, Bool.false_eq_true, if_true, if_false, Option.map_some, Option.bind_some, Option.bind_none, Bool.and_true, Bool.and_false, Bool.true_and, Bool.not_true, Bool.not_false, decide_true, decide_false, vw_n, vw_b, vw_i, vw_s, vw_u, vw_l, vw_o, ie_n, ie_b, ie_i, ie_s, ie_u, ie_l, ie_c, x10, x20, x21, x30, x31, x32, fin_b, fin_i, eq_ii, ne_ii, List.take_length, vw_k, ie_k, id_eq, Nat.reduceLeDiff, ↓xSl, ↓xAugI, ↓oE, ↓oNo, ↓xLs, ↓xExt, ↓iZp, e12, e13, e14, N1]
  have hzl : (cs.zip xs).length = cs.length := by rw [List.length_zip, hT.len, Nat.min_self]
  rw [hzl] at hf ho hot D2
  have hq : q2__law_growth_right [some (.cel N), some (chD cs), some (iT xs), none, some (iT []), some (iT []), some (iT []), none, none, none, none] C = some (.nx [some (.cel N), some (chD cs), some (iT xs), none, some (iT fe), some (iT one), some (iT other), t7, t8, t9, t10] C2) := by
    unfold q2__law_growth_right
    refine (xFor_ok (ds := (cs.zip xs).map fun p : (Int × Int) × Int => .tup [rd p.1, .int p.2]) (g := gd0) (C1 := C) ?_).trans g1
    unfold chD
    simp only [↓xDef, ↓xSeq, ↓xDo, ↓xNext, ↓xRet, ↓xExp, ↓xIfS, ↓xAsg, ↓gN, ↓gT, ↓gsC, ↓gsN, ↓xV, ↓S.val, ↓S.bind, ↓S.opt, ↓x2, ↓x1, ↓xN, ↓xB, ↓xD, ↓xAnd, ↓xOr, ↓xNot, ↓xIf, ↓xAndV, ↓xOrV, ↓xNotV, ↓xChain, ↓aNil, ↓aCons, ↓xTup, ↓few, ↓xF, ↓xC, ↓xSetI, ↓xPar, ↓xCall, ↓xFrz, ↓xM, live, i2, dSub, dAdd, dMul, dMulA, dMod, dDiv, dLt, dLe, dGt, dGe, dIx, at10, at20, at21, at30, at31, at32, cst0, cst1, cst2, cst3, dNeg, dAbs, dInt, dLen, dMin2, dMax2, dGcd, dTuple, ↓iR1, ↓iR2, ↓iV, items, ↓iEn, items1, nocel, nocels, List.map_cons, List.map_nil, List.getElem?_cons_zero, List.getElem?_cons_succ, List.getElem?_nil, List.set_cons_zero, List.set_cons_succ, List.length_cons, List.length_nil, List.replicate, List.cons_append, List.nil_append, Nat.reduceAdd, Nat.reduceSub, Bool.false_eq_true, if_true, if_false, Option.map_some, Option.bind_some, Option.bind_none, Bool.and_true, Bool.and_false, Bool.true_and, Bool.not_true, Bool.not_false, decide_true, decide_false, vw_n, vw_b, vw_i, vw_s, vw_u, vw_l, vw_o, ie_n, ie_b, ie_i, ie_s, ie_u, ie_l, ie_c, x10, x20, x21, x30, x31, x32, fin_b, fin_i, eq_ii, ne_ii, List.take_length, vw_k, ie_k, id_eq, Nat.reduceLeDiff, ↓xSl, ↓xAugI, ↓oE, ↓oNo, ↓xLs, ↓xExt, ↓iZp, zips, prs_map2]
  have hF := hg_heapF hT
  have e1 := heap_of hv hT h1 (by omega) C2
  have e2 := is_held hF (by omega) hf (by omega) C2
  have e3 := is_held hF (by omega) hot (by omega) C2
  have e4 := law_held (A := heapF cs xs) (B := fe) (by have := hF.len; omega) C2
  have e5 := law_heap hv hT (by omega) C2
  have b1 : holdB (heapF cs xs) fe = true := (holdB_iff hF hf).mpr le1
  have b2 : holdB (heapF cs xs) other = true := (holdB_iff hF hot).mpr le2
  rw [b1] at e2 e4
  rw [b2] at e3
  have E1 := eq_iT (heapF cs xs) (heapF cs xs)
  rw [decide_eq_true rfl] at E1
  refine ⟨C2, ?_, l2, D2.mono (by omega)⟩
  have hfin : ∀ b : Bool, fin C.length (.bl b) C2 = some (.ok (.bl b) C2) := fun b => by rw [show C.length = C2.length by omega]; exact fin_b
  simp only [iT, List.map_nil] at hq
  unfold m__law_growth_right b__law_growth_right
  simp only [↓xDef, ↓xSeq, ↓xDo, ↓xNext, ↓xRet, ↓xExp, ↓xIfS, ↓xAsg, ↓gN, ↓gT, ↓gsC, ↓gsN, ↓xV, ↓S.val, ↓S.bind, ↓S.opt, ↓x2, ↓x1, ↓xN, ↓xB, ↓xD, ↓xAnd, ↓xOr, ↓xNot, ↓xIf, ↓xAndV, ↓xOrV, ↓xNotV, ↓xChain, ↓aNil, ↓aCons, ↓xTup, ↓few, ↓xF, ↓xC, ↓xSetI, ↓xPar, ↓xCall, ↓xFrz, ↓xM, live, i2, dSub, dAdd, dMul, dMulA, dMod, dDiv, dLt, dLe, dGt, dGe, dIx, at10, at20, at21, at30, at31, at32, cst0, cst1, cst2, cst3, dNeg, dAbs, dInt, dLen, dMin2, dMax2, dGcd, dTuple, ↓iR1, ↓iR2, ↓iV, items, ↓iEn, items1, nocel, nocels, List.map_cons, List.map_nil, List.getElem?_cons_zero, List.getElem?_cons_succ, List.getElem?_nil, List.set_cons_zero, List.set_cons_succ, List.length_cons, List.length_nil, List.replicate, List.cons_append, List.nil_append, Nat.reduceAdd, Nat.reduceSub, Bool.false_eq_true, if_true, if_false, Option.map_some, Option.bind_some, Option.bind_none, Bool.and_true, Bool.and_false, Bool.true_and, Bool.not_true, Bool.not_false, decide_true, decide_false, vw_n, vw_b, vw_i, vw_s, vw_u, vw_l, vw_o, ie_n, ie_b, ie_i, ie_s, ie_u, ie_l, ie_c, x10, x20, x21, x30, x31, x32, fin_b, fin_i, eq_ii, ne_ii, List.take_length, vw_k, ie_k, id_eq, Nat.reduceLeDiff, ↓xSl, ↓xAugI, ↓oE, ↓oNo, ↓xLs, ↓xExt, ↓iZp, hec, hq, e1, e2, e3, e4, e5, E1, hfin]
end Sk15
end
section
set_option maxRecDepth 100000
set_option maxHeartbeats 0
set_option exponentiation.threshold 1000000
namespace Sk15
open PySem L2 Sm
theorem turned {cs : Ch} {xs : List Int} (hv : Cv cs) (hT : Tv cs xs) (h1 : 1 ≤ cs.length) (h8 : cs.length ≤ 8) (C : Cells) : m__law_turned_right [chD cs, iT xs] C = some (.ok (.bl true) C) := by
  have hec := ie_ch cs
  have l1 : q1__law_turned_right [some (chD cs), some (iT xs), none, none, none, none] C = some (.ok ((overX cs xs).map D.int) C) := by
    unfold overX
    rw [List.map_map]
    unfold q1__law_turned_right
    refine lc_T0 (g := gd0) (fun p : (Int × Int) × Int => .tup [rd p.1, .int p.2]) _ _ (by unfold chD; simp only [↓xDef, ↓xSeq, ↓xDo, ↓xNext, ↓xRet, ↓xExp, ↓xIfS, ↓xAsg, ↓gN, ↓gT, ↓gsC, ↓gsN, ↓xV, ↓S.val, ↓S.bind, ↓S.opt, ↓x2, ↓x1, ↓xN, ↓xB, ↓xD, ↓xAnd, ↓xOr, ↓xNot, ↓xIf, ↓xAndV, ↓xOrV, ↓xNotV, ↓xChain, ↓aNil, ↓aCons, ↓xTup, ↓few, ↓xF, ↓xC, ↓xSetI, ↓xPar, ↓xCall, ↓xFrz, ↓xM, live, i2, dSub, dAdd, dMul, dMulA, dMod, dDiv, dLt, dLe, dGt, dGe, dIx, at10, at20, at21, at30, at31, at32, cst0, cst1, cst2, cst3, dNeg, dAbs, dInt, dLen, dMin2, dMax2, dGcd, dTuple, ↓iR1, ↓iR2, ↓iV, items, ↓iEn, items1, nocel, nocels, List.map_cons, List.map_nil, List.getElem?_cons_zero, List.getElem?_cons_succ, List.getElem?_nil, List.set_cons_zero, List.set_cons_succ, List.length_cons, List.length_nil, List.replicate, List.cons_append, List.nil_append, Nat.reduceAdd, Nat.reduceSub, Bool.false_eq_true, if_true, if_false, Option.map_some, Option.bind_some, Option.bind_none, Bool.and_true, Bool.and_false, Bool.true_and, Bool.not_true, Bool.not_false, decide_true, decide_false, vw_n, vw_b, vw_i, vw_s, vw_u, vw_l, vw_o, ie_n, ie_b, ie_i, ie_s, ie_u, ie_l, ie_c, x10, x20, x21, x30, x31, x32, fin_b, fin_i, eq_ii, ne_ii, List.take_length, vw_k, ie_k, id_eq, Nat.reduceLeDiff, ↓xSl, ↓xAugI, ↓oE, ↓oNo, ↓xLs, ↓xExt, ↓iZp, zips, prs_map2]) rfl (by rw [List.length_zip]; omega) fun p hp => ?_
    obtain ⟨k1, _, _⟩ := hT.zip p hp
    have := (hv _ k1).1
    have hn : 0 < p.1.1 := by omega
    refine ⟨[some (chD cs), some (iT xs), none, some (.int p.2), some (.int p.1.1), some (.int p.1.2)], rfl, ?_⟩
    show _ = some (R.ok (D.int ((0 - p.2) % p.1.1)) C)
    simp only [↓xDef, ↓xSeq, ↓xDo, ↓xNext, ↓xRet, ↓xExp, ↓xIfS, ↓xAsg, ↓gN, ↓gT, ↓gsC, ↓gsN, ↓xV, ↓S.val, ↓S.bind, ↓S.opt, ↓x2, ↓x1, ↓xN, ↓xB, ↓xD, ↓xAnd, ↓xOr, ↓xNot, ↓xIf, ↓xAndV, ↓xOrV, ↓xNotV, ↓xChain, ↓aNil, ↓aCons, ↓xTup, ↓few, ↓xF, ↓xC, ↓xSetI, ↓xPar, ↓xCall, ↓xFrz, ↓xM, live, i2, dSub, dAdd, dMul, dMulA, dMod, dDiv, dLt, dLe, dGt, dGe, dIx, at10, at20, at21, at30, at31, at32, cst0, cst1, cst2, cst3, dNeg, dAbs, dInt, dLen, dMin2, dMax2, dGcd, dTuple, ↓iR1, ↓iR2, ↓iV, items, ↓iEn, items1, nocel, nocels, List.map_cons, List.map_nil, List.getElem?_cons_zero, List.getElem?_cons_succ, List.getElem?_nil, List.set_cons_zero, List.set_cons_succ, List.length_cons, List.length_nil, List.replicate, List.cons_append, List.nil_append, Nat.reduceAdd, Nat.reduceSub, Bool.false_eq_true, if_true, if_false, Option.map_some, Option.bind_some, Option.bind_none, Bool.and_true, Bool.and_false, Bool.true_and, Bool.not_true, Bool.not_false, decide_true, decide_false, vw_n, vw_b, vw_i, vw_s, vw_u, vw_l, vw_o, ie_n, ie_b, ie_i, ie_s, ie_u, ie_l, ie_c, x10, x20, x21, x30, x31, x32, fin_b, fin_i, eq_ii, ne_ii, List.take_length, vw_k, ie_k, id_eq, Nat.reduceLeDiff, ↓xSl, ↓xAugI, ↓oE, ↓oNo, ↓xLs, ↓xExt, ↓iZp, hn]
  have e1 := heap_of hv (tv_over hT) h1 (by omega) C
  have e2 := heap_of hv hT h1 (by omega) C
  have e3 := turned_over (hg_heapF hT) (by omega) C
  rw [heapF_over] at e1
  have E1 := eq_iT (flipH (heapF cs xs)) (flipH (heapF cs xs))
  rw [decide_eq_true rfl] at E1
  unfold m__law_turned_right b__law_turned_right
  simp only [↓xDef, ↓xSeq, ↓xDo, ↓xNext, ↓xRet, ↓xExp, ↓xIfS, ↓xAsg, ↓gN, ↓gT, ↓gsC, ↓gsN, ↓xV, ↓S.val, ↓S.bind, ↓S.opt, ↓x2, ↓x1, ↓xN, ↓xB, ↓xD, ↓xAnd, ↓xOr, ↓xNot, ↓xIf, ↓xAndV, ↓xOrV, ↓xNotV, ↓xChain, ↓aNil, ↓aCons, ↓xTup, ↓few, ↓xF, ↓xC, ↓xSetI, ↓xPar, ↓xCall, ↓xFrz, ↓xM, live, i2, dSub, dAdd, dMul, dMulA, dMod, dDiv, dLt, dLe, dGt, dGe, dIx, at10, at20, at21, at30, at31, at32, cst0, cst1, cst2, cst3, dNeg, dAbs, dInt, dLen, dMin2, dMax2, dGcd, dTuple, ↓iR1, ↓iR2, ↓iV, items, ↓iEn, items1, nocel, nocels, List.map_cons, List.map_nil, List.getElem?_cons_zero, List.getElem?_cons_succ, List.getElem?_nil, List.set_cons_zero, List.set_cons_succ, List.length_cons, List.length_nil, List.replicate, List.cons_append, List.nil_append, Nat.reduceAdd, Nat.reduceSub, Bool.false_eq_true, if_true, if_false, Option.map_some, Option.bind_some, Option.bind_none, Bool.and_true, Bool.and_false, Bool.true_and, Bool.not_true, Bool.not_false, decide_true, decide_false, vw_n, vw_b, vw_i, vw_s, vw_u, vw_l, vw_o, ie_n, ie_b, ie_i, ie_s, ie_u, ie_l, ie_c, x10, x20, x21, x30, x31, x32, fin_b, fin_i, eq_ii, ne_ii, List.take_length, vw_k, ie_k, id_eq, Nat.reduceLeDiff, ↓xSl, ↓xAugI, ↓oE, ↓oNo, ↓xLs, ↓xExt, ↓iZp, hec, l1, e1, e2, e3, E1]
/-! ### chips at both ends -/
def movX (cs : Ch) (xs : List Int) (a : Int) : List Int := (cs.zip xs).map fun p => (p.2 + a * p.1.2) % p.1.1
theorem tv_mov : ∀ {cs : Ch} {xs : List Int} (a : Int), Tv cs xs → Tv cs (movX cs xs a)
  | [], [], _, _ => trivial
  | c :: cs, x :: xs, a, h => ⟨⟨Int.emod_nonneg _ (by have := h.1; show c.1 ≠ 0; omega), Int.emod_lt_of_pos _ (by have := h.1; show 0 < c.1; omega)⟩, tv_mov a h.2⟩
  | [], _ :: _, _, h => h.elim
  | _ :: _, [], _, h => h.elim
theorem small_a {a : Int} (h : -10 ≤ a ∧ a ≤ 10) : a.natAbs < 2 ^ 400000 := Nat.lt_of_lt_of_le (m := 2 ^ 10) (by omega) (Nat.pow_le_pow_right (by decide) (by decide))
theorem small_s {s n : Int} (h : 1 ≤ s) (h2 : s < n) (h3 : n ≤ 60) : s.natAbs < 2 ^ 400000 := Nat.lt_of_lt_of_le (m := 2 ^ 10) (by omega) (Nat.pow_le_pow_right (by decide) (by decide))
theorem int_ok {i : Int} (h : -100 ≤ i ∧ i ≤ 100) (C : Cells) : m_is_integer [.int i] C = some (.ok (.bl true) C) := is_integer_i (Nat.lt_of_lt_of_le (m := 10 ^ 3) (by omega) (by decide +kernel)) C
theorem with_ends {cs : Ch} {xs : List Int} {a : Int} (ha : -10 ≤ a ∧ a ≤ 10) (hv : Cv cs) (hT : Tv cs xs) (h1 : 1 ≤ cs.length) (h8 : cs.length ≤ 8) (C : Cells) :
    m_class_with_ends [chD cs, .tup [.int 3, iT xs], .int a, .int 2] C = some (.ok (.tup [.int (3 + a + 2), iT (movX cs xs a)]) C) := by
  have hec := ie_ch cs
  have e1 := chain_rq hv h1 (by omega) C
  have e2 := is_tuple_t (by omega) hT C
  have i3 := int_ok (i := 3) (by decide) C
  have i2' := int_ok (i := 2) (by decide) C
  have ia := int_ok (i := a) (by omega) C
  have it := int_ok (i := 3 + a + 2) (by omega) C
  have tt : ∀ x : List D, dIsi [.tup x, .opq (.ty "tuple")] = some (.bl true) := fun x => isi_tup (d := .tup x) rfl
  have e3 : m_is_class_in [chD cs, .tup [.int 3, iT xs]] C = some (.ok (.bl true) C) := by
    unfold m_is_class_in b_is_class_in
    simp only [↓xDef, ↓xSeq, ↓xDo, ↓xNext, ↓xRet, ↓xExp, ↓xIfS, ↓xAsg, ↓gN, ↓gT, ↓gsC, ↓gsN, ↓xV, ↓S.val, ↓S.bind, ↓S.opt, ↓x2, ↓x1, ↓xN, ↓xB, ↓xD, ↓xAnd, ↓xOr, ↓xNot, ↓xIf, ↓xAndV, ↓xOrV, ↓xNotV, ↓xChain, ↓aNil, ↓aCons, ↓xTup, ↓few, ↓xF, ↓xC, ↓xSetI, ↓xPar, ↓xCall, ↓xFrz, ↓xM, live, i2, dSub, dAdd, dMul, dMulA, dMod, dDiv, dLt, dLe, dGt, dGe, dIx, at10, at20, at21, at30, at31, at32, cst0, cst1, cst2, cst3, dNeg, dAbs, dInt, dLen, dMin2, dMax2, dGcd, dTuple, ↓iR1, ↓iR2, ↓iV, items, ↓iEn, items1, nocel, nocels, List.map_cons, List.map_nil, List.getElem?_cons_zero, List.getElem?_cons_succ, List.getElem?_nil, List.set_cons_zero, List.set_cons_succ, List.length_cons, List.length_nil, List.replicate, List.cons_append, List.nil_append, Nat.reduceAdd, Nat.reduceSub, Bool.false_eq_true, if_true, if_false, Option.map_some, Option.bind_some, Option.bind_none, Bool.and_true, Bool.and_false, Bool.true_and, Bool.not_true, Bool.not_false, decide_true, decide_false, vw_n, vw_b, vw_i, vw_s, vw_u, vw_l, vw_o, ie_n, ie_b, ie_i, ie_s, ie_u, ie_l, ie_c, x10, x20, x21, x30, x31, x32, fin_b, fin_i, eq_ii, ne_ii, List.take_length, vw_k, ie_k, id_eq, Nat.reduceLeDiff, ↓xSl, ↓xAugI, ↓oE, ↓oNo, ↓xLs, ↓xExt, ↓iZp, hec, tt, i3, e2, cst2, beq_self_eq_true]
  have e4 : m_require_class [chD cs, .tup [.int 3, iT xs]] C = some (.ok .non C) := by
    unfold m_require_class b_require_class
    simp only [↓xDef, ↓xSeq, ↓xDo, ↓xNext, ↓xRet, ↓xExp, ↓xIfS, ↓xAsg, ↓gN, ↓gT, ↓gsC, ↓gsN, ↓xV, ↓S.val, ↓S.bind, ↓S.opt, ↓x2, ↓x1, ↓xN, ↓xB, ↓xD, ↓xAnd, ↓xOr, ↓xNot, ↓xIf, ↓xAndV, ↓xOrV, ↓xNotV, ↓xChain, ↓aNil, ↓aCons, ↓xTup, ↓few, ↓xF, ↓xC, ↓xSetI, ↓xPar, ↓xCall, ↓xFrz, ↓xM, live, i2, dSub, dAdd, dMul, dMulA, dMod, dDiv, dLt, dLe, dGt, dGe, dIx, at10, at20, at21, at30, at31, at32, cst0, cst1, cst2, cst3, dNeg, dAbs, dInt, dLen, dMin2, dMax2, dGcd, dTuple, ↓iR1, ↓iR2, ↓iV, items, ↓iEn, items1, nocel, nocels, List.map_cons, List.map_nil, List.getElem?_cons_zero, List.getElem?_cons_succ, List.getElem?_nil, List.set_cons_zero, List.set_cons_succ, List.length_cons, List.length_nil, List.replicate, List.cons_append, List.nil_append, Nat.reduceAdd, Nat.reduceSub, Bool.false_eq_true, if_true, if_false, Option.map_some, Option.bind_some, Option.bind_none, Bool.and_true, Bool.and_false, Bool.true_and, Bool.not_true, Bool.not_false, decide_true, decide_false, vw_n, vw_b, vw_i, vw_s, vw_u, vw_l, vw_o, ie_n, ie_b, ie_i, ie_s, ie_u, ie_l, ie_c, x10, x20, x21, x30, x31, x32, fin_b, fin_i, eq_ii, ne_ii, List.take_length, vw_k, ie_k, id_eq, Nat.reduceLeDiff, ↓xSl, ↓xAugI, ↓oE, ↓oNo, ↓xLs, ↓xExt, ↓iZp, hec, e3]
  have e5 : m_require_integer [.int a] C = some (.ok .non C) := by
    unfold m_require_integer b_require_integer
    simp only [↓xDef, ↓xSeq, ↓xDo, ↓xNext, ↓xRet, ↓xExp, ↓xIfS, ↓xAsg, ↓gN, ↓gT, ↓gsC, ↓gsN, ↓xV, ↓S.val, ↓S.bind, ↓S.opt, ↓x2, ↓x1, ↓xN, ↓xB, ↓xD, ↓xAnd, ↓xOr, ↓xNot, ↓xIf, ↓xAndV, ↓xOrV, ↓xNotV, ↓xChain, ↓aNil, ↓aCons, ↓xTup, ↓few, ↓xF, ↓xC, ↓xSetI, ↓xPar, ↓xCall, ↓xFrz, ↓xM, live, i2, dSub, dAdd, dMul, dMulA, dMod, dDiv, dLt, dLe, dGt, dGe, dIx, at10, at20, at21, at30, at31, at32, cst0, cst1, cst2, cst3, dNeg, dAbs, dInt, dLen, dMin2, dMax2, dGcd, dTuple, ↓iR1, ↓iR2, ↓iV, items, ↓iEn, items1, nocel, nocels, List.map_cons, List.map_nil, List.getElem?_cons_zero, List.getElem?_cons_succ, List.getElem?_nil, List.set_cons_zero, List.set_cons_succ, List.length_cons, List.length_nil, List.replicate, List.cons_append, List.nil_append, Nat.reduceAdd, Nat.reduceSub, Bool.false_eq_true, if_true, if_false, Option.map_some, Option.bind_some, Option.bind_none, Bool.and_true, Bool.and_false, Bool.true_and, Bool.not_true, Bool.not_false, decide_true, decide_false, vw_n, vw_b, vw_i, vw_s, vw_u, vw_l, vw_o, ie_n, ie_b, ie_i, ie_s, ie_u, ie_l, ie_c, x10, x20, x21, x30, x31, x32, fin_b, fin_i, eq_ii, ne_ii, List.take_length, vw_k, ie_k, id_eq, Nat.reduceLeDiff, ↓xSl, ↓xAugI, ↓oE, ↓oNo, ↓xLs, ↓xExt, ↓iZp, ia]
  have e6 : m_require_integer [.int 2] C = some (.ok .non C) := by
    unfold m_require_integer b_require_integer
    simp only [↓xDef, ↓xSeq, ↓xDo, ↓xNext, ↓xRet, ↓xExp, ↓xIfS, ↓xAsg, ↓gN, ↓gT, ↓gsC, ↓gsN, ↓xV, ↓S.val, ↓S.bind, ↓S.opt, ↓x2, ↓x1, ↓xN, ↓xB, ↓xD, ↓xAnd, ↓xOr, ↓xNot, ↓xIf, ↓xAndV, ↓xOrV, ↓xNotV, ↓xChain, ↓aNil, ↓aCons, ↓xTup, ↓few, ↓xF, ↓xC, ↓xSetI, ↓xPar, ↓xCall, ↓xFrz, ↓xM, live, i2, dSub, dAdd, dMul, dMulA, dMod, dDiv, dLt, dLe, dGt, dGe, dIx, at10, at20, at21, at30, at31, at32, cst0, cst1, cst2, cst3, dNeg, dAbs, dInt, dLen, dMin2, dMax2, dGcd, dTuple, ↓iR1, ↓iR2, ↓iV, items, ↓iEn, items1, nocel, nocels, List.map_cons, List.map_nil, List.getElem?_cons_zero, List.getElem?_cons_succ, List.getElem?_nil, List.set_cons_zero, List.set_cons_succ, List.length_cons, List.length_nil, List.replicate, List.cons_append, List.nil_append, Nat.reduceAdd, Nat.reduceSub, Bool.false_eq_true, if_true, if_false, Option.map_some, Option.bind_some, Option.bind_none, Bool.and_true, Bool.and_false, Bool.true_and, Bool.not_true, Bool.not_false, decide_true, decide_false, vw_n, vw_b, vw_i, vw_s, vw_u, vw_l, vw_o, ie_n, ie_b, ie_i, ie_s, ie_u, ie_l, ie_c, x10, x20, x21, x30, x31, x32, fin_b, fin_i, eq_ii, ne_ii, List.take_length, vw_k, ie_k, id_eq, Nat.reduceLeDiff, ↓xSl, ↓xAugI, ↓oE, ↓oNo, ↓xLs, ↓xExt, ↓iZp, i2']
  have l1 : q1_moved_ends_in [some (chD cs), some (.int 3), some (iT xs), some (.int a), some (.int 2), none, none, none, none] C = some (.ok ((movX cs xs a).map D.int) C) := by
    unfold movX
    rw [List.map_map]
    unfold q1_moved_ends_in
    refine lc_T0 (g := gd0) (fun p : (Int × Int) × Int => .tup [rd p.1, .int p.2]) _ _ (by unfold chD; simp only [↓xDef, ↓xSeq, ↓xDo, ↓xNext, ↓xRet, ↓xExp, ↓xIfS, ↓xAsg, ↓gN, ↓gT, ↓gsC, ↓gsN, ↓xV, ↓S.val, ↓S.bind, ↓S.opt, ↓x2, ↓x1, ↓xN, ↓xB, ↓xD, ↓xAnd, ↓xOr, ↓xNot, ↓xIf, ↓xAndV, ↓xOrV, ↓xNotV, ↓xChain, ↓aNil, ↓aCons, ↓xTup, ↓few, ↓xF, ↓xC, ↓xSetI, ↓xPar, ↓xCall, ↓xFrz, ↓xM, live, i2, dSub, dAdd, dMul, dMulA, dMod, dDiv, dLt, dLe, dGt, dGe, dIx, at10, at20, at21, at30, at31, at32, cst0, cst1, cst2, cst3, dNeg, dAbs, dInt, dLen, dMin2, dMax2, dGcd, dTuple, ↓iR1, ↓iR2, ↓iV, items, ↓iEn, items1, nocel, nocels, List.map_cons, List.map_nil, List.getElem?_cons_zero, List.getElem?_cons_succ, List.getElem?_nil, List.set_cons_zero, List.set_cons_succ, List.length_cons, List.length_nil, List.replicate, List.cons_append, List.nil_append, Nat.reduceAdd, Nat.reduceSub, Bool.false_eq_true, if_true, if_false, Option.map_some, Option.bind_some, Option.bind_none, Bool.and_true, Bool.and_false, Bool.true_and, Bool.not_true, Bool.not_false, decide_true, decide_false, vw_n, vw_b, vw_i, vw_s, vw_u, vw_l, vw_o, ie_n, ie_b, ie_i, ie_s, ie_u, ie_l, ie_c, x10, x20, x21, x30, x31, x32, fin_b, fin_i, eq_ii, ne_ii, List.take_length, vw_k, ie_k, id_eq, Nat.reduceLeDiff, ↓xSl, ↓xAugI, ↓oE, ↓oNo, ↓xLs, ↓xExt, ↓iZp, zips, prs_map2]) rfl (by rw [List.length_zip]; omega) fun p hp => ?_
    obtain ⟨k1, _, _⟩ := hT.zip p hp
    obtain ⟨c1, c2, c3, c4⟩ := hv _ k1
    have hn : 0 < p.1.1 := by omega
    have m1 := small_a ha
    have m2 := small_s c3 c4 c2
    refine ⟨[some (chD cs), some (.int 3), some (iT xs), some (.int a), some (.int 2), none, some (.int p.2), some (.int p.1.1), some (.int p.1.2)], rfl, ?_⟩
    show _ = some (R.ok (D.int ((p.2 + a * p.1.2) % p.1.1)) C)
    simp only [↓xDef, ↓xSeq, ↓xDo, ↓xNext, ↓xRet, ↓xExp, ↓xIfS, ↓xAsg, ↓gN, ↓gT, ↓gsC, ↓gsN, ↓xV, ↓S.val, ↓S.bind, ↓S.opt, ↓x2, ↓x1, ↓xN, ↓xB, ↓xD, ↓xAnd, ↓xOr, ↓xNot, ↓xIf, ↓xAndV, ↓xOrV, ↓xNotV, ↓xChain, ↓aNil, ↓aCons, ↓xTup, ↓few, ↓xF, ↓xC, ↓xSetI, ↓xPar, ↓xCall, ↓xFrz, ↓xM, live, i2, dSub, dAdd, dMul, dMulA, dMod, dDiv, dLt, dLe, dGt, dGe, dIx, at10, at20, at21, at30, at31, at32, cst0, cst1, cst2, cst3, dNeg, dAbs, dInt, dLen, dMin2, dMax2, dGcd, dTuple, ↓iR1, ↓iR2, ↓iV, items, ↓iEn, items1, nocel, nocels, List.map_cons, List.map_nil, List.getElem?_cons_zero, List.getElem?_cons_succ, List.getElem?_nil, List.set_cons_zero, List.set_cons_succ, List.length_cons, List.length_nil, List.replicate, List.cons_append, List.nil_append, Nat.reduceAdd, Nat.reduceSub, Bool.false_eq_true, if_true, if_false, Option.map_some, Option.bind_some, Option.bind_none, Bool.and_true, Bool.and_false, Bool.true_and, Bool.not_true, Bool.not_false, decide_true, decide_false, vw_n, vw_b, vw_i, vw_s, vw_u, vw_l, vw_o, ie_n, ie_b, ie_i, ie_s, ie_u, ie_l, ie_c, x10, x20, x21, x30, x31, x32, fin_b, fin_i, eq_ii, ne_ii, List.take_length, vw_k, ie_k, id_eq, Nat.reduceLeDiff, ↓xSl, ↓xAugI, ↓oE, ↓oNo, ↓xLs, ↓xExt, ↓iZp, m1, m2, and_self, hn]
  have hf1 : ∀ d : Int, fin C.length (.tup [.int d, iT (movX cs xs a)]) C = some (.ok (.tup [.int d, iT (movX cs xs a)]) C) := fun d => by
    rw [fin_n (show nocel (.tup [.int d, iT (movX cs xs a)]) = true by
      show (true && (nocel (iT (movX cs xs a)) && true)) = true
      rw [show nocel (iT (movX cs xs a)) = true from nocels_i _]
      rfl), List.take_length]
  have e7 : m_moved_ends_in [chD cs, .int 3, iT xs, .int a, .int 2] C = some (.ok (.tup [.int (3 + a + 2), iT (movX cs xs a)]) C) := by
    have hf := hf1 (3 + a + 2)
    unfold m_moved_ends_in b_moved_ends_in
    simp only [↓xDef, ↓xSeq, ↓xDo, ↓xNext, ↓xRet, ↓xExp, ↓xIfS, ↓xAsg, ↓gN, ↓gT, ↓gsC, ↓gsN, ↓xV, ↓S.val, ↓S.bind, ↓S.opt, ↓x2, ↓x1, ↓xN, ↓xB, ↓xD, ↓xAnd, ↓xOr, ↓xNot, ↓xIf, ↓xAndV, ↓xOrV, ↓xNotV, ↓xChain, ↓aNil, ↓aCons, ↓xTup, ↓few, ↓xF, ↓xC, ↓xSetI, ↓xPar, ↓xCall, ↓xFrz, ↓xM, live, i2, dSub, dAdd, dMul, dMulA, dMod, dDiv, dLt, dLe, dGt, dGe, dIx, at10, at20, at21, at30, at31, at32, cst0, cst1, cst2, cst3, dNeg, dAbs, dInt, dLen, dMin2, dMax2, dGcd, dTuple, ↓iR1, ↓iR2, ↓iV, items, ↓iEn, items1, nocel, nocels, List.map_cons, List.map_nil, List.getElem?_cons_zero, List.getElem?_cons_succ, List.getElem?_nil, List.set_cons_zero, List.set_cons_succ, List.length_cons, List.length_nil, List.replicate, List.cons_append, List.nil_append, Nat.reduceAdd, Nat.reduceSub, Bool.false_eq_true, if_true, if_false, Option.map_some, Option.bind_some, Option.bind_none, Bool.and_true, Bool.and_false, Bool.true_and, Bool.not_true, Bool.not_false, decide_true, decide_false, vw_n, vw_b, vw_i, vw_s, vw_u, vw_l, vw_o, ie_n, ie_b, ie_i, ie_s, ie_u, ie_l, ie_c, x10, x20, x21, x30, x31, x32, fin_b, fin_i, eq_ii, ne_ii, List.take_length, vw_k, ie_k, id_eq, Nat.reduceLeDiff, ↓xSl, ↓xAugI, ↓oE, ↓oNo, ↓xLs, ↓xExt, ↓iZp, l1, hf]
  have e8 : m_require_short_class [.tup [.int (3 + a + 2), iT (movX cs xs a)]] C = some (.ok (.tup [.int (3 + a + 2), iT (movX cs xs a)]) C) := by
    have hf := hf1 (3 + a + 2)
    unfold m_require_short_class b_require_short_class
    simp only [↓xDef, ↓xSeq, ↓xDo, ↓xNext, ↓xRet, ↓xExp, ↓xIfS, ↓xAsg, ↓gN, ↓gT, ↓gsC, ↓gsN, ↓xV, ↓S.val, ↓S.bind, ↓S.opt, ↓x2, ↓x1, ↓xN, ↓xB, ↓xD, ↓xAnd, ↓xOr, ↓xNot, ↓xIf, ↓xAndV, ↓xOrV, ↓xNotV, ↓xChain, ↓aNil, ↓aCons, ↓xTup, ↓few, ↓xF, ↓xC, ↓xSetI, ↓xPar, ↓xCall, ↓xFrz, ↓xM, live, i2, dSub, dAdd, dMul, dMulA, dMod, dDiv, dLt, dLe, dGt, dGe, dIx, at10, at20, at21, at30, at31, at32, cst0, cst1, cst2, cst3, dNeg, dAbs, dInt, dLen, dMin2, dMax2, dGcd, dTuple, ↓iR1, ↓iR2, ↓iV, items, ↓iEn, items1, nocel, nocels, List.map_cons, List.map_nil, List.getElem?_cons_zero, List.getElem?_cons_succ, List.getElem?_nil, List.set_cons_zero, List.set_cons_succ, List.length_cons, List.length_nil, List.replicate, List.cons_append, List.nil_append, Nat.reduceAdd, Nat.reduceSub, Bool.false_eq_true, if_true, if_false, Option.map_some, Option.bind_some, Option.bind_none, Bool.and_true, Bool.and_false, Bool.true_and, Bool.not_true, Bool.not_false, decide_true, decide_false, vw_n, vw_b, vw_i, vw_s, vw_u, vw_l, vw_o, ie_n, ie_b, ie_i, ie_s, ie_u, ie_l, ie_c, x10, x20, x21, x30, x31, x32, fin_b, fin_i, eq_ii, ne_ii, List.take_length, vw_k, ie_k, id_eq, Nat.reduceLeDiff, ↓xSl, ↓xAugI, ↓oE, ↓oNo, ↓xLs, ↓xExt, ↓iZp, it, hf]
  have hf := hf1 (3 + a + 2)
  unfold m_class_with_ends b_class_with_ends
  simp only [↓xDef, ↓xSeq, ↓xDo, ↓xNext, ↓xRet, ↓xExp, ↓xIfS, ↓xAsg, ↓gN, ↓gT, ↓gsC, ↓gsN, ↓xV, ↓S.val, ↓S.bind, ↓S.opt, ↓x2, ↓x1, ↓xN, ↓xB, ↓xD, ↓xAnd, ↓xOr, ↓xNot, ↓xIf, ↓xAndV, ↓xOrV, ↓xNotV, ↓xChain, ↓aNil, ↓aCons, ↓xTup, ↓few, ↓xF, ↓xC, ↓xSetI, ↓xPar, ↓xCall, ↓xFrz, ↓xM, live, i2, dSub, dAdd, dMul, dMulA, dMod, dDiv, dLt, dLe, dGt, dGe, dIx, at10, at20, at21, at30, at31, at32, cst0, cst1, cst2, cst3, dNeg, dAbs, dInt, dLen, dMin2, dMax2, dGcd, dTuple, ↓iR1, ↓iR2, ↓iV, items, ↓iEn, items1, nocel, nocels, List.map_cons, List.map_nil, List.getElem?_cons_zero, List.getElem?_cons_succ, List.getElem?_nil, List.set_cons_zero, List.set_cons_succ, List.length_cons, List.length_nil, List.replicate, List.cons_append, List.nil_append, Nat.reduceAdd, Nat.reduceSub, Bool.false_eq_true, if_true, if_false, Option.map_some, Option.bind_some, Option.bind_none, Bool.and_true, Bool.and_false, Bool.true_and, Bool.not_true, Bool.not_false, decide_true, decide_false, vw_n, vw_b, vw_i, vw_s, vw_u, vw_l, vw_o, ie_n, ie_b, ie_i, ie_s, ie_u, ie_l, ie_c, x10, x20, x21, x30, x31, x32, fin_b, fin_i, eq_ii, ne_ii, List.take_length, vw_k, ie_k, id_eq, Nat.reduceLeDiff, ↓xSl, ↓xAugI, ↓oE, ↓oNo, ↓xLs, ↓xExt, ↓iZp, hec, e1, e4, e5, e6, e7, e8, hf]
theorem let_moved {n s x a k : Int} : ((((a - 3 + k) * s - (x + a * s) % n) % n) == 0) = (((-3 + k) * s - x) % n == 0) := by
  rw [sub_emod_r]
  have e : (a - 3 + k) * s - (x + a * s) = (-3 + k) * s - x := by
    rw [show a - 3 + k = (-3 + k) + a by omega, Int.add_mul]
    omega
  rw [e]
theorem prs3_map (cs : Ch) (xs ys : List Int) : prs3 (cs.map rd) (xs.map D.int) (ys.map D.int) = (cs.zip (xs.zip ys)).map fun p => .tup [rd p.1, .int p.2.1, .int p.2.2] := by
  unfold prs3
  rw [List.zip_map (f := D.int) (g := D.int), List.zip_map, List.map_map]
  rfl
theorem zip_self_map {α β : Type} (f : α → β) (xs : List α) : xs.zip (xs.map f) = xs.map fun x => (x, f x) := by
  induction xs with
  | nil => rfl
  | cons a r ih => rw [List.map_cons, List.zip_cons_cons, ih]; rfl
theorem zip3_mem : ∀ {cs : Ch} {xs : List Int} {a : Int}, Tv cs xs → ∀ p ∈ cs.zip (xs.zip (movX cs xs a)), p.1 ∈ cs ∧ p.2.2 = (p.2.1 + a * p.1.2) % p.1.1
  | [], [], _, _, p, hp => by cases hp
  | c :: cs, x :: xs, a, h, p, hp => by
    have hp : p ∈ (c, (x, (x + a * c.2) % c.1)) :: cs.zip (xs.zip (movX cs xs a)) := hp
    rcases List.mem_cons.mp hp with rfl | hp
    · exact ⟨List.mem_cons_self, rfl⟩
    · obtain ⟨h1, h2⟩ := zip3_mem h.2 p hp
      exact ⟨List.mem_cons_of_mem _ h1, h2⟩
  | [], _ :: _, _, h, _, _ => h.elim
  | _ :: _, [], _, h, _, _ => h.elim
theorem zs_map (lo : Int) (n : Nat) : zs lo n = (List.range n).map fun k : Nat => D.int (lo + (k : Nat)) := rfl
theorem lets_run {cs : Ch} {xs : List Int} {a : Int} (ha : -10 ≤ a ∧ a ≤ 10) (hv : Cv cs) (hT : Tv cs xs) (h8 : cs.length ≤ 8) {w0 w4 w5 w6 w7 w9 w10 w11 w12 w13 w14 w15 w16 w17 : Option D} (C : Cells) :
    ∃ y9 y10 y11 y15 y16, q5__law_moved_right [w0, some (chD cs), some (iT xs), some (.int a), w4, w5, w6, w7, some (iT (movX cs xs a)), w9, w10, w11, w12, w13, w14, w15, w16, none] C = some (.nx [w0, some (chD cs), some (iT xs), some (.int a), w4, w5, w6, w7, some (iT (movX cs xs a)), y9, y10, y11, w12, w13, w14, y15, y16, none] C) := by
  obtain ⟨e2, C2, g1, y9, y10, y11, y15, y16, rfl, rfl⟩ := lp_pre (t := gT (gsC (gT (gsC (gN 15) (gsC (gN 16) gsN))) (gsC (gN 9) (gsC (gN 10) gsN)))) (b := q4__law_moved_right) (fun p : (Int × Int) × (Int × Int) => .tup [rd p.1, .int p.2.1, .int p.2.2])
    (fun pre e C' => ∃ (y9 y10 y11 y15 y16 : Option D), e = [w0, some (chD cs), some (iT xs), some (.int a), w4, w5, w6, w7, some (iT (movX cs xs a)), y9, y10, y11, w12, w13, w14, y15, y16, none] ∧ C' = C)
    (cs.zip (xs.zip (movX cs xs a))) [w0, some (chD cs), some (iT xs), some (.int a), w4, w5, w6, w7, some (iT (movX cs xs a)), w9, w10, w11, w12, w13, w14, w15, w16, none] C ⟨w9, w10, w11, w15, w16, rfl, rfl⟩ fun pre p post e C' hx ⟨y9, y10, y11, y15, y16, he, hC⟩ => by
      subst he hC
      obtain ⟨k1, k2⟩ := zip3_mem hT p (by rw [hx]; simp)
      obtain ⟨⟨n, s⟩, x, z⟩ := p
      obtain ⟨c1, c2, c3, c4⟩ := hv _ k1
      dsimp only at c1 c2 c3 c4 k2
      have hn : 0 < n := by omega
      have m2 := small_s c3 c4 c2
      obtain ⟨L1, hL1⟩ : ∃ L1 : List Int, L1 = ((List.range 7).filter fun k : Nat => ((-3 + (k : Int)) * s - x) % n == 0).map fun k : Nat => -3 + (k : Int) := ⟨_, rfl⟩
      have hl1 : (List.range 7).length = 7 := by simp
      have q2 : q2__law_moved_right [w0, some (chD cs), some (iT xs), some (.int a), w4, w5, w6, w7, some (iT (movX cs xs a)), some (.int x), some (.int z), y11, w12, w13, w14, some (.int n), some (.int s), none] C' = some (.ok (L1.map D.int) C') := by
        rw [hL1, List.map_map]
        have hr := rng2_ok (i := -3) (j := 4) (by decide) (by decide)
        have e7 : ((4 : Int) - -3).toNat = 7 := by decide
        rw [e7, zs_map] at hr
        unfold q2__law_moved_right
        refine lc_T (g := gd0) (fun k : Nat => D.int (-3 + (k : Nat))) (List.range 7) (fun k : Nat => ((-3 + (k : Int)) * s - x) % n == 0) _ (by simp only [↓xDef, ↓xSeq, ↓xDo, ↓xNext, ↓xRet, ↓xExp, ↓xIfS, ↓xAsg, ↓gN, ↓gT, ↓gsC, ↓gsN, ↓xV, ↓S.val, ↓S.bind, ↓S.opt, ↓x2, ↓x1, ↓xN, ↓xB, ↓xD, ↓xAnd, ↓xOr, ↓xNot, ↓xIf, ↓xAndV, ↓xOrV, ↓xNotV, ↓xChain, ↓aNil, ↓aCons, ↓xTup, ↓few, ↓xF, ↓xC, ↓xSetI, ↓xPar, ↓xCall, ↓xFrz, ↓xM, live, i2, dSub, dAdd, dMul, dMulA, dMod, dDiv, dLt, dLe, dGt, dGe, dIx, at10, at20, at21, at30, at31, at32, cst0, cst1, cst2, cst3, dNeg, dAbs, dInt, dLen, dMin2, dMax2, dGcd, dTuple, ↓iR1, ↓iR2, ↓iV, items, ↓iEn, items1, nocel, nocels, List.map_cons, List.map_nil, List.getElem?_cons_zero, List.getElem?_cons_succ, List.getElem?_nil, List.set_cons_zero, List.set_cons_succ, List.length_cons, List.length_nil, List.replicate, List.cons_append, List.nil_append, Nat.reduceAdd, Nat.reduceSub, Bool.false_eq_true, if_true, if_false, Option.map_some, Option.bind_some, Option.bind_none, Bool.and_true, Bool.and_false, Bool.true_and, Bool.not_true, Bool.not_false, decide_true, decide_false, vw_n, vw_b, vw_i, vw_s, vw_u, vw_l, vw_o, ie_n, ie_b, ie_i, ie_s, ie_u, ie_l, ie_c, x10, x20, x21, x30, x31, x32, fin_b, fin_i, eq_ii, ne_ii, List.take_length, vw_k, ie_k, id_eq, Nat.reduceLeDiff, ↓xSl, ↓xAugI, ↓oE, ↓oNo, ↓xLs, ↓xExt, ↓iZp, hr]) rfl (by simp) fun k hk => ⟨[w0, some (chD cs), some (iT xs), some (.int a), w4, w5, w6, w7, some (iT (movX cs xs a)), some (.int x), some (.int z), y11, w12, w13, w14, some (.int n), some (.int s), some (.int (-3 + (k : Nat)))], rfl, ?_, fun _ => by simp only [↓xDef, ↓xSeq, ↓xDo, ↓xNext, ↓xRet, ↓xExp, ↓xIfS, ↓xAsg, ↓gN, ↓gT, ↓gsC, ↓gsN, ↓xV, ↓S.val, ↓S.bind, ↓S.opt, ↓x2, ↓x1, ↓xN, ↓xB, ↓xD, ↓xAnd, ↓xOr, ↓xNot, ↓xIf, ↓xAndV, ↓xOrV, ↓xNotV, ↓xChain, ↓aNil, ↓aCons, ↓xTup, ↓few, ↓xF, ↓xC, ↓xSetI, ↓xPar, ↓xCall, ↓xFrz, ↓xM, live, i2, dSub, dAdd, dMul, dMulA, dMod, dDiv, dLt, dLe, dGt, dGe, dIx, at10, at20, at21, at30, at31, at32, cst0, cst1, cst2, cst3, dNeg, dAbs, dInt, dLen, dMin2, dMax2, dGcd, dTuple, ↓iR1, ↓iR2, ↓iV, items, ↓iEn, items1, nocel, nocels, List.map_cons, List.map_nil, List.getElem?_cons_zero, List.getElem?_cons_succ, List.getElem?_nil, List.set_cons_zero, List.set_cons_succ, List.length_cons, List.length_nil, List.replicate, List.cons_append, List.nil_append, Nat.reduceAdd, Nat.reduceSub, Bool.false_eq_true, if_true, if_false, Option.map_some, Option.bind_some, Option.bind_none, Bool.and_true, Bool.and_false, Bool.true_and, Bool.not_true, Bool.not_false, decide_true, decide_false, vw_n, vw_b, vw_i, vw_s, vw_u, vw_l, vw_o, ie_n, ie_b, ie_i, ie_s, ie_u, ie_l, ie_c, x10, x20, x21, x30, x31, x32, fin_b, fin_i, eq_ii, ne_ii, List.take_length, vw_k, ie_k, id_eq, Nat.reduceLeDiff, ↓xSl, ↓xAugI, ↓oE, ↓oNo, ↓xLs, ↓xExt, ↓iZp]; rfl⟩
        have hk := List.mem_range.mp hk
        have m1 : (-3 + (k : Int)).natAbs < 2 ^ 400000 := Nat.lt_of_lt_of_le (m := 2 ^ 10) (by omega) (Nat.pow_le_pow_right (by decide) (by decide))
        generalize -3 + ((k : Nat) : Int) = c at m1 ⊢
        simp only [↓xDef, ↓xSeq, ↓xDo, ↓xNext, ↓xRet, ↓xExp, ↓xIfS, ↓xAsg, ↓gN, ↓gT, ↓gsC, ↓gsN, ↓xV, ↓S.val, ↓S.bind, ↓S.opt, ↓x2, ↓x1, ↓xN, ↓xB, ↓xD, ↓xAnd, ↓xOr, ↓xNot, ↓xIf, ↓xAndV, ↓xOrV, ↓xNotV, ↓xChain, ↓aNil, ↓aCons, ↓xTup, ↓few, ↓xF, ↓xC, ↓xSetI, ↓xPar, ↓xCall, ↓xFrz, ↓xM, live, i2, dSub, dAdd, dMul, dMulA, dMod, dDiv, dLt, dLe, dGt, dGe, dIx, at10, at20, at21, at30, at31, at32, cst0, cst1, cst2, cst3, dNeg, dAbs, dInt, dLen, dMin2, dMax2, dGcd, dTuple, ↓iR1, ↓iR2, ↓iV, items, ↓iEn, items1, nocel, nocels, List.map_cons, List.map_nil, List.getElem?_cons_zero, List.getElem?_cons_succ, List.getElem?_nil, List.set_cons_zero, List.set_cons_succ, List.length_cons, List.length_nil, List.replicate, List.cons_append, List.nil_append, Nat.reduceAdd, Nat.reduceSub, Bool.false_eq_true, if_true, if_false, Option.map_some, Option.bind_some, Option.bind_none, Bool.and_true, Bool.and_false, Bool.true_and, Bool.not_true, Bool.not_false, decide_true, decide_false, vw_n, vw_b, vw_i, vw_s, vw_u, vw_l, vw_o, ie_n, ie_b, ie_i, ie_s, ie_u, ie_l, ie_c, x10, x20, x21, x30, x31, x32, fin_b, fin_i, eq_ii, ne_ii, List.take_length, vw_k, ie_k, id_eq, Nat.reduceLeDiff, ↓xSl, ↓xAugI, ↓oE, ↓oNo, ↓xLs, ↓xExt, ↓iZp, m1, m2, and_self, hn]
      have q3 : q3__law_moved_right [w0, some (chD cs), some (iT xs), some (.int a), w4, w5, w6, w7, some (iT (movX cs xs a)), some (.int x), some (.int z), some (iL L1), w12, w13, w14, some (.int n), some (.int s), none] C' = some (.ok (L1.map D.int) C') := by
        rw [hL1, List.map_map]
        have hfil : ((List.range 7).filter fun k : Nat => ((-3 + (k : Int)) * s - x) % n == 0) = (List.range 7).filter fun k : Nat => ((a - 3 + (k : Int)) * s - z) % n == 0 := List.filter_congr fun k _ => by rw [k2, let_moved]
        rw [hfil]
        have hr := rng2_ok (i := a - 3) (j := a + 4) (by omega) (by omega)
        have e7 : ((a + 4) - (a - 3)).toNat = 7 := by omega
        rw [e7, zs_map] at hr
        unfold q3__law_moved_right
        refine lc_T (g := gd0) (fun k : Nat => D.int (a - 3 + (k : Nat))) (List.range 7) (fun k : Nat => ((a - 3 + (k : Int)) * s - z) % n == 0) _ (by simp only [↓xDef, ↓xSeq, ↓xDo, ↓xNext, ↓xRet, ↓xExp, ↓xIfS, ↓xAsg, ↓gN, ↓gT, ↓gsC, ↓gsN, ↓xV, ↓S.val, ↓S.bind, ↓S.opt, ↓x2, ↓x1, ↓xN, ↓xB, ↓xD, ↓xAnd, ↓xOr, ↓xNot, ↓xIf, ↓xAndV, ↓xOrV, ↓xNotV, ↓xChain, ↓aNil, ↓aCons, ↓xTup, ↓few, ↓xF, ↓xC, ↓xSetI, ↓xPar, ↓xCall, ↓xFrz, ↓xM, live, i2, dSub, dAdd, dMul, dMulA, dMod, dDiv, dLt, dLe, dGt, dGe, dIx, at10, at20, at21, at30, at31, at32, cst0, cst1, cst2, cst3, dNeg, dAbs, dInt, dLen, dMin2, dMax2, dGcd, dTuple, ↓iR1, ↓iR2, ↓iV, items, ↓iEn, items1, nocel, nocels, List.map_cons, List.map_nil, List.getElem?_cons_zero, List.getElem?_cons_succ, List.getElem?_nil, List.set_cons_zero, List.set_cons_succ, List.length_cons, List.length_nil, List.replicate, List.cons_append, List.nil_append, Nat.reduceAdd, Nat.reduceSub, Bool.false_eq_true, if_true, if_false, Option.map_some, Option.bind_some, Option.bind_none, Bool.and_true, Bool.and_false, Bool.true_and, Bool.not_true, Bool.not_false, decide_true, decide_false, vw_n, vw_b, vw_i, vw_s, vw_u, vw_l, vw_o, ie_n, ie_b, ie_i, ie_s, ie_u, ie_l, ie_c, x10, x20, x21, x30, x31, x32, fin_b, fin_i, eq_ii, ne_ii, List.take_length, vw_k, ie_k, id_eq, Nat.reduceLeDiff, ↓xSl, ↓xAugI, ↓oE, ↓oNo, ↓xLs, ↓xExt, ↓iZp, hr]) rfl (by simp) fun k hk => ⟨[w0, some (chD cs), some (iT xs), some (.int a), w4, w5, w6, w7, some (iT (movX cs xs a)), some (.int x), some (.int z), some (iL (((List.range 7).filter fun k : Nat => ((a - 3 + (k : Int)) * s - z) % n == 0).map fun k : Nat => -3 + (k : Int))), w12, w13, w14, some (.int n), some (.int s), some (.int (a - 3 + (k : Nat)))], rfl, ?_, fun _ => ?_⟩
        · have hk := List.mem_range.mp hk
          have m1 : (a - 3 + (k : Int)).natAbs < 2 ^ 400000 := Nat.lt_of_lt_of_le (m := 2 ^ 10) (by omega) (Nat.pow_le_pow_right (by decide) (by decide))
          generalize a - 3 + ((k : Nat) : Int) = c at m1 ⊢
          generalize (iL (((List.range 7).filter fun k : Nat => ((a - 3 + (k : Int)) * s - z) % n == 0).map fun k : Nat => -3 + (k : Int))) = LL
          simp only [↓xDef, ↓xSeq, ↓xDo, ↓xNext, ↓xRet, ↓xExp, ↓xIfS, ↓xAsg, ↓gN, ↓gT, ↓gsC, ↓gsN, ↓xV, ↓S.val, ↓S.bind, ↓S.opt, ↓x2, ↓x1, ↓xN, ↓xB, ↓xD, ↓xAnd, ↓xOr, ↓xNot, ↓xIf, ↓xAndV, ↓xOrV, ↓xNotV, ↓xChain, ↓aNil, ↓aCons, ↓xTup, ↓few, ↓xF, ↓xC, ↓xSetI, ↓xPar, ↓xCall, ↓xFrz, ↓xM, live, i2, dSub, dAdd, dMul, dMulA, dMod, dDiv, dLt, dLe, dGt, dGe, dIx, at10, at20, at21, at30, at31, at32, cst0, cst1, cst2, cst3, dNeg, dAbs, dInt, dLen, dMin2, dMax2, dGcd, dTuple, ↓iR1, ↓iR2, ↓iV, items, ↓iEn, items1, nocel, nocels, List.map_cons, List.map_nil, List.getElem?_cons_zero, List.getElem?_cons_succ, List.getElem?_nil, List.set_cons_zero, List.set_cons_succ, List.length_cons, List.length_nil, List.replicate, List.cons_append, List.nil_append, Nat.reduceAdd, Nat.reduceSub, Bool.false_eq_true, if_true, if_false, Option.map_some, Option.bind_some, Option.bind_none, Bool.and_true, Bool.and_false, Bool.true_and, Bool.not_true, Bool.not_false, decide_true, decide_false, vw_n, vw_b, vw_i, vw_s, vw_u, vw_l, vw_o, ie_n, ie_b, ie_i, ie_s, ie_u, ie_l, ie_c, x10, x20, x21, x30, x31, x32, fin_b, fin_i, eq_ii, ne_ii, List.take_length, vw_k, ie_k, id_eq, Nat.reduceLeDiff, ↓xSl, ↓xAugI, ↓oE, ↓oNo, ↓xLs, ↓xExt, ↓iZp, m1, m2, and_self, hn]
        · show _ = some (R.ok (D.int (-3 + (k : Nat))) C')
          have e : a - 3 + ((k : Nat) : Int) - a = -3 + (k : Nat) := by omega
          rw [← e]
          generalize a - 3 + ((k : Nat) : Int) = c
          generalize (iL (((List.range 7).filter fun k : Nat => ((a - 3 + (k : Int)) * s - z) % n == 0).map fun k : Nat => -3 + (k : Int))) = LL
          simp only [↓xDef, ↓xSeq, ↓xDo, ↓xNext, ↓xRet, ↓xExp, ↓xIfS, ↓xAsg, ↓gN, ↓gT, ↓gsC, ↓gsN, ↓xV, ↓S.val, ↓S.bind, ↓S.opt, ↓x2, ↓x1, ↓xN, ↓xB, ↓xD, ↓xAnd, ↓xOr, ↓xNot, ↓xIf, ↓xAndV, ↓xOrV, ↓xNotV, ↓xChain, ↓aNil, ↓aCons, ↓xTup, ↓few, ↓xF, ↓xC, ↓xSetI, ↓xPar, ↓xCall, ↓xFrz, ↓xM, live, i2, dSub, dAdd, dMul, dMulA, dMod, dDiv, dLt, dLe, dGt, dGe, dIx, at10, at20, at21, at30, at31, at32, cst0, cst1, cst2, cst3, dNeg, dAbs, dInt, dLen, dMin2, dMax2, dGcd, dTuple, ↓iR1, ↓iR2, ↓iV, items, ↓iEn, items1, nocel, nocels, List.map_cons, List.map_nil, List.getElem?_cons_zero, List.getElem?_cons_succ, List.getElem?_nil, List.set_cons_zero, List.set_cons_succ, List.length_cons, List.length_nil, List.replicate, List.cons_append, List.nil_append, Nat.reduceAdd, Nat.reduceSub, Bool.false_eq_true, if_true, if_false, Option.map_some, Option.bind_some, Option.bind_none, Bool.and_true, Bool.and_false, Bool.true_and, Bool.not_true, Bool.not_false, decide_true, decide_false, vw_n, vw_b, vw_i, vw_s, vw_u, vw_l, vw_o, ie_n, ie_b, ie_i, ie_s, ie_u, ie_l, ie_c, x10, x20, x21, x30, x31, x32, fin_b, fin_i, eq_ii, ne_ii, List.take_length, vw_k, ie_k, id_eq, Nat.reduceLeDiff, ↓xSl, ↓xAugI, ↓oE, ↓oNo, ↓xLs, ↓xExt, ↓iZp]
      have N1 := ne_iL L1 L1
      rw [decide_eq_true rfl] at N1
      refine ⟨[w0, some (chD cs), some (iT xs), some (.int a), w4, w5, w6, w7, some (iT (movX cs xs a)), some (.int x), some (.int z), y11, w12, w13, w14, some (.int n), some (.int s), none], rfl, [w0, some (chD cs), some (iT xs), some (.int a), w4, w5, w6, w7, some (iT (movX cs xs a)), some (.int x), some (.int z), some (iL L1), w12, w13, w14, some (.int n), some (.int s), none], C', ?_, _, _, _, _, _, rfl, rfl⟩
      unfold q4__law_moved_right
      simp only [↓xDef, ↓xSeq, ↓xDo, ↓xNext, ↓xRet, ↓xExp, ↓xIfS, ↓xAsg, ↓gN, ↓gT, ↓gsC, ↓gsN, ↓xV, ↓S.val, ↓S.bind, ↓S.opt, ↓x2, ↓x1, ↓xN, ↓xB, ↓xD, ↓xAnd, ↓xOr, ↓xNot, ↓xIf, ↓xAndV, ↓xOrV, ↓xNotV, ↓xChain, ↓aNil, ↓aCons, ↓xTup, ↓few, ↓xF, ↓xC, ↓xSetI, ↓xPar, ↓xCall, ↓xFrz, ↓xM, live, i2, dSub, dAdd, dMul, dMulA, dMod, dDiv, dLt, dLe, dGt, dGe, dIx, at10, at20, at21, at30, at31, at32, cst0, cst1, cst2, cst3, dNeg, dAbs, dInt, dLen, dMin2, dMax2, dGcd, dTuple, ↓iR1, ↓iR2, ↓iV, items, ↓iEn, items1, nocel, nocels, List.map_cons, List.map_nil, List.getElem?_cons_zero, List.getElem?_cons_succ, List.getElem?_nil, List.set_cons_zero, List.set_cons_succ, List.length_cons, List.length_nil, List.replicate, List.cons_append, List.nil_append, Nat.reduceAdd, Nat.reduceSub, Bool.false_eq_true, if_true, if_false, Option.map_some, Option.bind_some, Option.bind_none, Bool.and_true, Bool.and_false, Bool.true_and, Bool.not_true, Bool.not_false, decide_true, decide_false, vw_n, vw_b, vw_i, vw_s, vw_u, vw_l, vw_o, ie_n, ie_b, ie_i, ie_s, ie_u, ie_l, ie_c, x10, x20, x21, x30, x31, x32, fin_b, fin_i, eq_ii, ne_ii, List.take_length, vw_k, ie_k, id_eq, Nat.reduceLeDiff, ↓xSl, ↓xAugI, ↓oE, ↓oNo, ↓xLs, ↓xExt, ↓iZp, q2, q3, N1]
  refine ⟨y9, y10, y11, y15, y16, ?_⟩
  unfold q5__law_moved_right
  refine (xFor_ok (ds := (cs.zip (xs.zip (movX cs xs a))).map fun p : (Int × Int) × (Int × Int) => .tup [rd p.1, .int p.2.1, .int p.2.2]) (g := gd0) (C1 := C2) ?_).trans g1
  rw [← prs3_map]
  unfold chD
  simp only [↓xDef, ↓xSeq, ↓xDo, ↓xNext, ↓xRet, ↓xExp, ↓xIfS, ↓xAsg, ↓gN, ↓gT, ↓gsC, ↓gsN, ↓xV, ↓S.val, ↓S.bind, ↓S.opt, ↓x2, ↓x1, ↓xN, ↓xB, ↓xD, ↓xAnd, ↓xOr, ↓xNot, ↓xIf, ↓xAndV, ↓xOrV, ↓xNotV, ↓xChain, ↓aNil, ↓aCons, ↓xTup, ↓few, ↓xF, ↓xC, ↓xSetI, ↓xPar, ↓xCall, ↓xFrz, ↓xM, live, i2, dSub, dAdd, dMul, dMulA, dMod, dDiv, dLt, dLe, dGt, dGe, dIx, at10, at20, at21, at30, at31, at32, cst0, cst1, cst2, cst3, dNeg, dAbs, dInt, dLen, dMin2, dMax2, dGcd, dTuple, ↓iR1, ↓iR2, ↓iV, items, ↓iEn, items1, nocel, nocels, List.map_cons, List.map_nil, List.getElem?_cons_zero, List.getElem?_cons_succ, List.getElem?_nil, List.set_cons_zero, List.set_cons_succ, List.length_cons, List.length_nil, List.replicate, List.cons_append, List.nil_append, Nat.reduceAdd, Nat.reduceSub, Bool.false_eq_true, if_true, if_false, Option.map_some, Option.bind_some, Option.bind_none, Bool.and_true, Bool.and_false, Bool.true_and, Bool.not_true, Bool.not_false, decide_true, decide_false, vw_n, vw_b, vw_i, vw_s, vw_u, vw_l, vw_o, ie_n, ie_b, ie_i, ie_s, ie_u, ie_l, ie_c, x10, x20, x21, x30, x31, x32, fin_b, fin_i, eq_ii, ne_ii, List.take_length, vw_k, ie_k, id_eq, Nat.reduceLeDiff, ↓xSl, ↓xAugI, ↓oE, ↓oNo, ↓xLs, ↓xExt, ↓iZp, iZ3, zips3]
end Sk15
end
section
set_option maxRecDepth 100000
set_option maxHeartbeats 0
set_option exponentiation.threshold 1000000
namespace Sk15
open PySem L2 Sm
theorem fold_split : ∀ (cs : Ch) (xs : List Int) (i : Nat) (c : Int × Int) (h : List Int), cs[i]? = some c → i < xs.length → ∀ p, (cs.zip (xs.set i p)).foldl stepH h = ((cs.drop (i + 1)).zip (xs.drop (i + 1))).foldl stepH (stepH (((cs.take i).zip xs).foldl stepH h) (c, p))
  | [], _, _, _, _, h, _, _ => by simp at h
  | _ :: _, [], i, _, _, _, h, _ => absurd h (Nat.not_lt_zero _)
  | c0 :: cs, x0 :: xs, 0, c, h, hc, _, p => by
    have : c0 = c := by simpa using hc
    subst this
    rfl
  | c0 :: cs, x0 :: xs, i + 1, c, h, hc, hi, p => by
    have ih := fold_split cs xs i c (stepH h (c0, x0)) (by simpa using hc) (by simpa using hi) p
    exact ih
theorem fold_mono : ∀ (ps : List ((Int × Int) × Int)) {k l : Nat} {A B : List Int}, Hg k A → Hg l B → LeH A B → LeH (ps.foldl stepH A) (ps.foldl stepH B)
  | [], _, _, _, _, _, _, h => h
  | p :: ps, _, _, _, _, hA, hB, h => fold_mono ps (hg_grow hA _ _ _) (hg_grow hB _ _ _) (grow_mono hA hB h _ _ _)
theorem tv_set : ∀ {cs : Ch} {xs : List Int} {i : Nat} {c : Int × Int} {p : Int}, Tv cs xs → cs[i]? = some c → 0 ≤ p → p < c.1 → Tv cs (xs.set i p)
  | [], [], _, _, _, _, h, _, _ => by simp at h
  | c0 :: cs, x0 :: xs, 0, c, p, hT, hc, h0, h1 => by
    have : c0 = c := by simpa using hc
    subst this
    exact ⟨⟨h0, h1⟩, hT.2⟩
  | c0 :: cs, x0 :: xs, i + 1, c, p, hT, hc, h0, h1 => ⟨hT.1, tv_set hT.2 (by simpa using hc) h0 h1⟩
  | [], _ :: _, _, _, _, h, _, _, _ => h.elim
  | _ :: _, [], _, _, _, h, _, _, _ => h.elim
theorem set_getD {xs : List Int} {i : Nat} (h : i < xs.length) : xs.set i (xs.getD i 0) = xs := by
  refine List.ext_getElem (by simp) fun j h1 h2 => ?_
  rw [List.getElem_set]
  split
  · rename_i e
    subst e
    simp [List.getD_eq_getElem?_getD, h]
  · rfl
theorem set_cut {xs : List Int} {i : Nat} (h : i < xs.length) (p : Int) : (xs.take i).map D.int ++ [D.int p] ++ (xs.drop (i + 1)).map D.int = (xs.set i p).map D.int := by
  rw [List.set_eq_take_append_cons_drop, if_pos h]
  simp
theorem moved {cs : Ch} {xs : List Int} (hv : Cv cs) (hT : Tv cs xs) (h1 : 1 ≤ cs.length) (h8 : cs.length ≤ 8) {C : Cells} {N k : Nat} (D0 : Dc C N k) (hk : k ≤ 600000) :
    ∃ C', m__law_moved_right [.cel N, chD cs, iT xs] C = some (.ok (.bl true) C') ∧ C'.length = C.length ∧ Dc C' N (k + 10) := by
  have hec := ie_ch cs
  have hxl := hT.len
  obtain ⟨v, C1, e1, v0, v1, l1, D1⟩ := roll (z := 9) D0 (by omega) (by decide) (by decide)
  obtain ⟨a, ha⟩ : ∃ a, v - 4 = a := ⟨_, rfl⟩
  have hab : -10 ≤ a ∧ a ≤ 10 := by omega
  have e2 := with_ends hab hv hT h1 h8 C1
  have q1 : q1__law_moved_right [some (.cel N), some (chD cs), some (iT xs), some (.int a), none, none, none, some (.int (3 + a + 2)), some (iT (movX cs xs a)), none, none, none, none, none, none, none, none, none] C1 = some (.ok ((movX cs xs a).map D.int) C1) := by
    have hm : (movX cs xs a).map D.int = (cs.zip xs).map fun p => D.int ((p.2 + a * p.1.2) % p.1.1) := by
      unfold movX
      rw [List.map_map]
      rfl
    generalize hM : iT (movX cs xs a) = M
    rw [hm]
    unfold q1__law_moved_right
    refine lc_T0 (g := gd0) (fun p : (Int × Int) × Int => .tup [rd p.1, .int p.2]) _ _ (by unfold chD; simp only [↓xDef, ↓xSeq, ↓xDo, ↓xNext, ↓xRet, ↓xExp, ↓xIfS, ↓xAsg, ↓gN, ↓gT, ↓gsC, ↓gsN, ↓xV, ↓S.val, ↓S.bind, ↓S.opt, ↓x2, ↓x1, ↓xN, ↓xB, ↓xD, ↓xAnd, ↓xOr, ↓xNot, ↓xIf, ↓xAndV, ↓xOrV, ↓xNotV, ↓xChain, ↓aNil, ↓aCons, ↓xTup, ↓few, ↓xF, ↓xC, ↓xSetI, ↓xPar, ↓xCall, ↓xFrz, ↓xM, live, i2, dSub, dAdd, dMul, dMulA, dMod, dDiv, dLt, dLe, dGt, dGe, dIx, at10, at20, at21, at30, at31, at32, cst0, cst1, cst2, cst3, dNeg, dAbs, dInt, dLen, dMin2, dMax2, dGcd, dTuple, ↓iR1, ↓iR2, ↓iV, items, ↓iEn, items1, nocel, nocels, List.map_cons, List.map_nil, List.getElem?_cons_zero, List.getElem?_cons_succ, List.getElem?_nil, List.set_cons_zero, List.set_cons_succ, List.length_cons, List.length_nil, List.replicate, List.cons_append, List.nil_append, Nat.reduceAdd, Nat.reduceSub, Bool.false_eq_true, if_true, if_false, Option.map_some, Option.bind_some, Option.bind_none, Bool.and_true, Bool.and_false, Bool.true_and, Bool.not_true, Bool.not_false, decide_true, decide_false, vw_n, vw_b, vw_i, vw_s, vw_u, vw_l, vw_o, ie_n, ie_b, ie_i, ie_s, ie_u, ie_l, ie_c, x10, x20, x21, x30, x31, x32, fin_b, fin_i, eq_ii, ne_ii, List.take_length, vw_k, ie_k, id_eq, Nat.reduceLeDiff, ↓xSl, ↓xAugI, ↓oE, ↓oNo, ↓xLs, ↓xExt, ↓iZp, zips, prs_map2]) rfl (by rw [List.length_zip]; omega) fun p hp => ?_
    obtain ⟨k1, _, _⟩ := hT.zip p hp
    obtain ⟨c1, c2, c3, c4⟩ := hv _ k1
    have hn : 0 < p.1.1 := by omega
    have m1 := small_a hab
    have m2 := small_s c3 c4 c2
    refine ⟨[some (.cel N), some (chD cs), some (iT xs), some (.int a), none, none, none, some (.int (3 + a + 2)), some M, some (.int p.2), none, none, none, none, none, some (.int p.1.1), some (.int p.1.2), none], rfl, ?_⟩
    show _ = some (R.ok (D.int ((p.2 + a * p.1.2) % p.1.1)) C1)
    simp only [↓xDef, ↓xSeq, ↓xDo, ↓xNext, ↓xRet, ↓xExp, ↓xIfS, ↓xAsg, ↓gN, ↓gT, ↓gsC, ↓gsN, ↓xV, ↓S.val, ↓S.bind, ↓S.opt, ↓x2, ↓x1, ↓xN, ↓xB, ↓xD, ↓xAnd, ↓xOr, ↓xNot, ↓xIf, ↓xAndV, ↓xOrV, ↓xNotV, ↓xChain, ↓aNil, ↓aCons, ↓xTup, ↓few, ↓xF, ↓xC, ↓xSetI, ↓xPar, ↓xCall, ↓xFrz, ↓xM, live, i2, dSub, dAdd, dMul, dMulA, dMod, dDiv, dLt, dLe, dGt, dGe, dIx, at10, at20, at21, at30, at31, at32, cst0, cst1, cst2, cst3, dNeg, dAbs, dInt, dLen, dMin2, dMax2, dGcd, dTuple, ↓iR1, ↓iR2, ↓iV, items, ↓iEn, items1, nocel, nocels, List.map_cons, List.map_nil, List.getElem?_cons_zero, List.getElem?_cons_succ, List.getElem?_nil, List.set_cons_zero, List.set_cons_succ, List.length_cons, List.length_nil, List.replicate, List.cons_append, List.nil_append, Nat.reduceAdd, Nat.reduceSub, Bool.false_eq_true, if_true, if_false, Option.map_some, Option.bind_some, Option.bind_none, Bool.and_true, Bool.and_false, Bool.true_and, Bool.not_true, Bool.not_false, decide_true, decide_false, vw_n, vw_b, vw_i, vw_s, vw_u, vw_l, vw_o, ie_n, ie_b, ie_i, ie_s, ie_u, ie_l, ie_c, x10, x20, x21, x30, x31, x32, fin_b, fin_i, eq_ii, ne_ii, List.take_length, vw_k, ie_k, id_eq, Nat.reduceLeDiff, ↓xSl, ↓xAugI, ↓oE, ↓oNo, ↓xLs, ↓xExt, ↓iZp, m1, m2, and_self, hn]
  have N1 := ne_iT (movX cs xs a) (movX cs xs a)
  rw [decide_eq_true rfl] at N1
  have hsum : (3 + a + 2 == 5 + a) = true := by simp; omega
  obtain ⟨y9, y10, y11, y15, y16, g5⟩ := lets_run hab hv hT h8 (w0 := some (.cel N)) (w4 := none) (w5 := none) (w6 := none) (w7 := some (.int (3 + a + 2))) (w9 := none) (w10 := none) (w11 := none) (w12 := none) (w13 := none) (w14 := none) (w15 := none) (w16 := none) (w17 := none) C1
  obtain ⟨w, C2, e3, w0, w1, l2, D2⟩ := roll (z := ((cs.map rd).length : Int)) D1 (by omega) (by rw [List.length_map]; omega) (by rw [List.length_map]; omega)
  obtain ⟨i, rfl⟩ := Int.eq_ofNat_of_zero_le w0
  have hi : i < cs.length := by rw [List.length_map] at w1; omega
  have hix : i < xs.length := by omega
  obtain ⟨⟨n, s⟩, hcs⟩ : ∃ c, cs[i]? = some c := ⟨_, List.getElem?_eq_getElem hi⟩
  have hmem : (n, s) ∈ cs := by
    obtain ⟨z, e⟩ := List.getElem?_eq_some_iff.mp hcs
    exact e ▸ List.getElem_mem z
  obtain ⟨c1, c2, c3, c4⟩ := hv _ hmem
  dsimp only at c1 c2 c3 c4
  have hn : 0 < n := by omega
  obtain ⟨H, hH⟩ : ∃ H, H = ((cs.take i).zip xs).foldl stepH [] := ⟨_, rfl⟩
  have hzl : ((cs.take i).zip xs).length = i := by rw [List.length_zip, List.length_take]; omega
  have hgH : Hg i H := by
    have := fold_hg ((cs.take i).zip xs)
    rw [hzl, ← hH] at this
    exact this
  -- the heap of the first rings
  obtain ⟨e7, C7, g7, z9, z14, rfl, rfl⟩ := lp_pre (t := gT (gsC (gN 14) (gsC (gN 9) gsN))) (b := q6__law_moved_right) (fun p : (Int × Int) × Int => .tup [rd p.1, .int p.2])
    (fun pre e C' => ∃ (z9 z14 : Option D), e = [some (.cel N), some (chD cs), some (iT xs), some (.int a), none, none, none, some (.int (3 + a + 2)), some (iT (movX cs xs a)), z9, y10, y11, some (iT (pre.foldl stepH [])), some (.int (i : Nat)), z14, y15, y16, none] ∧ C' = C2)
    ((cs.take i).zip xs) [some (.cel N), some (chD cs), some (iT xs), some (.int a), none, none, none, some (.int (3 + a + 2)), some (iT (movX cs xs a)), y9, y10, y11, some (iT []), some (.int (i : Nat)), none, y15, y16, none] C2 ⟨y9, none, rfl, rfl⟩ fun pre p post e C' hx ⟨z9, z14, he, hC⟩ => by
      subst he hC
      have hpl : pre.length < ((cs.take i).zip xs).length := by rw [hx]; simp
      rw [hzl] at hpl
      have hpm : p.1 ∈ cs := by
        have : p ∈ (cs.take i).zip xs := by rw [hx]; simp
        obtain ⟨p1, p2⟩ := p
        exact List.mem_of_mem_take (List.of_mem_zip this).1
      obtain ⟨k1, k2, k3, k4⟩ := hv _ hpm
      obtain ⟨⟨n', s'⟩, x⟩ := p
      dsimp only at k1 k2 k3 k4
      have e := law_grown (n := n') (s := s') (x := x) ((fold_hg pre).mono (show pre.length ≤ 60 by omega)) (by omega) (Nat.lt_of_lt_of_le (m := 2 ^ 10) (by omega) (Nat.pow_le_pow_right (by decide) (by decide))) C'
      refine ⟨[some (.cel N), some (chD cs), some (iT xs), some (.int a), none, none, none, some (.int (3 + a + 2)), some (iT (movX cs xs a)), some (.int x), y10, y11, some (iT (pre.foldl stepH [])), some (.int (i : Nat)), some (rd (n', s')), y15, y16, none], rfl, [some (.cel N), some (chD cs), some (iT xs), some (.int a), none, none, none, some (.int (3 + a + 2)), some (iT (movX cs xs a)), some (.int x), y10, y11, some (iT (grow n' s' x (pre.foldl stepH []))), some (.int (i : Nat)), some (rd (n', s')), y15, y16, none], C', ?_, some (.int x), some (rd (n', s')), ?_, rfl⟩
      · unfold q6__law_moved_right rd
        simp only [↓xDef, ↓xSeq, ↓xDo, ↓xNext, ↓xRet, ↓xExp, ↓xIfS, ↓xAsg, ↓gN, ↓gT, ↓gsC, ↓gsN, ↓xV, ↓S.val, ↓S.bind, ↓S.opt, ↓x2, ↓x1, ↓xN, ↓xB, ↓xD, ↓xAnd, ↓xOr, ↓xNot, ↓xIf, ↓xAndV, ↓xOrV, ↓xNotV, ↓xChain, ↓aNil, ↓aCons, ↓xTup, ↓few, ↓xF, ↓xC, ↓xSetI, ↓xPar, ↓xCall, ↓xFrz, ↓xM, live, i2, dSub, dAdd, dMul, dMulA, dMod, dDiv, dLt, dLe, dGt, dGe, dIx, at10, at20, at21, at30, at31, at32, cst0, cst1, cst2, cst3, dNeg, dAbs, dInt, dLen, dMin2, dMax2, dGcd, dTuple, ↓iR1, ↓iR2, ↓iV, items, ↓iEn, items1, nocel, nocels, List.map_cons, List.map_nil, List.getElem?_cons_zero, List.getElem?_cons_succ, List.getElem?_nil, List.set_cons_zero, List.set_cons_succ, List.length_cons, List.length_nil, List.replicate, List.cons_append, List.nil_append, Nat.reduceAdd, Nat.reduceSub, Bool.false_eq_true, if_true, if_false, Option.map_some, Option.bind_some, Option.bind_none, Bool.and_true, Bool.and_false, Bool.true_and, Bool.not_true, Bool.not_false, decide_true, decide_false, vw_n, vw_b, vw_i, vw_s, vw_u, vw_l, vw_o, ie_n, ie_b, ie_i, ie_s, ie_u, ie_l, ie_c, x10, x20, x21, x30, x31, x32, fin_b, fin_i, eq_ii, ne_ii, List.take_length, vw_k, ie_k, id_eq, Nat.reduceLeDiff, ↓xSl, ↓xAugI, ↓oE, ↓oNo, ↓xLs, ↓xExt, ↓iZp, e]
      · rw [List.foldl_append]
        rfl
  rw [← hH] at g7
  have cut1 : cutD (cs.map rd) none (some (i : Int)) = (cs.take i).map rd := by rw [cut_to, List.map_take]
  have q7 : q7__law_moved_right [some (.cel N), some (chD cs), some (iT xs), some (.int a), none, none, none, some (.int (3 + a + 2)), some (iT (movX cs xs a)), y9, y10, y11, some (iT []), some (.int (i : Nat)), none, y15, y16, none] C7 = some (.nx [some (.cel N), some (chD cs), some (iT xs), some (.int a), none, none, none, some (.int (3 + a + 2)), some (iT (movX cs xs a)), z9, y10, y11, some (iT H), some (.int (i : Nat)), z14, y15, y16, none] C7) := by
    unfold q7__law_moved_right
    refine (xFor_ok (ds := ((cs.take i).zip xs).map fun p : (Int × Int) × Int => .tup [rd p.1, .int p.2]) (g := gd0) (C1 := C7) ?_).trans g7
    obtain ⟨I, hI⟩ : ∃ I : Int, (i : Int) = I := ⟨_, rfl⟩
    rw [hI] at cut1 ⊢
    have hpr := prs_map2 rd D.int (cs.take i) xs
    generalize (cs.take i).map rd = T at cut1 hpr
    unfold chD
    simp only [↓xDef, ↓xSeq, ↓xDo, ↓xNext, ↓xRet, ↓xExp, ↓xIfS, ↓xAsg, ↓gN, ↓gT, ↓gsC, ↓gsN, ↓xV, ↓S.val, ↓S.bind, ↓S.opt, ↓x2, ↓x1, ↓xN, ↓xB, ↓xD, ↓xAnd, ↓xOr, ↓xNot, ↓xIf, ↓xAndV, ↓xOrV, ↓xNotV, ↓xChain, ↓aNil, ↓aCons, ↓xTup, ↓few, ↓xF, ↓xC, ↓xSetI, ↓xPar, ↓xCall, ↓xFrz, ↓xM, live, i2, dSub, dAdd, dMul, dMulA, dMod, dDiv, dLt, dLe, dGt, dGe, dIx, at10, at20, at21, at30, at31, at32, cst0, cst1, cst2, cst3, dNeg, dAbs, dInt, dLen, dMin2, dMax2, dGcd, dTuple, ↓iR1, ↓iR2, ↓iV, items, ↓iEn, items1, nocel, nocels, List.map_cons, List.map_nil, List.getElem?_cons_zero, List.getElem?_cons_succ, List.getElem?_nil, List.set_cons_zero, List.set_cons_succ, List.length_cons, List.length_nil, List.replicate, List.cons_append, List.nil_append, Nat.reduceAdd, Nat.reduceSub, Bool.false_eq_true, if_true, if_false, Option.map_some, Option.bind_some, Option.bind_none, Bool.and_true, Bool.and_false, Bool.true_and, Bool.not_true, Bool.not_false, decide_true, decide_false, vw_n, vw_b, vw_i, vw_s, vw_u, vw_l, vw_o, ie_n, ie_b, ie_i, ie_s, ie_u, ie_l, ie_c, x10, x20, x21, x30, x31, x32, fin_b, fin_i, eq_ii, ne_ii, List.take_length, vw_k, ie_k, id_eq, Nat.reduceLeDiff, ↓xSl, ↓xAugI, ↓oE, ↓oNo, ↓xLs, ↓xExt, ↓iZp, dSl, cut1, zips, hpr]
  -- the places at which nothing is added
  obtain ⟨idl, hidl⟩ : ∃ idl : List Int, idl = ((List.range n.toNat).filter fun p : Nat => decide (grow n s p H = H)).map fun p : Nat => (p : Int) := ⟨_, rfl⟩
  have hxi : atI (cs.map rd) (i : Int) = some (rd (n, s)) := by
    unfold atI
    rw [ixN_nat (by rw [List.length_map]; exact hi), Option.bind_some, List.getElem?_map, hcs]
    rfl
  obtain ⟨I, hI⟩ : ∃ I : Int, (i : Int) = I := ⟨_, rfl⟩
  have q8 : q8__law_moved_right [some (.cel N), some (chD cs), some (iT xs), some (.int a), none, none, none, some (.int (3 + a + 2)), some (iT (movX cs xs a)), z9, y10, y11, some (iT H), some (.int (i : Nat)), z14, y15, y16, none] C7 = some (.ok (idl.map D.int) C7) := by
    rw [hidl, List.map_map]
    have hr := rng1_Z (z := n) (by omega) (by omega)
    rw [hI] at hxi ⊢
    unfold q8__law_moved_right
    refine lc_T (g := gd0) (fun p : Nat => D.int (p : Nat)) (List.range n.toNat) (fun p : Nat => decide (grow n s p H = H)) _ (by unfold chD; simp only [↓xDef, ↓xSeq, ↓xDo, ↓xNext, ↓xRet, ↓xExp, ↓xIfS, ↓xAsg, ↓gN, ↓gT, ↓gsC, ↓gsN, ↓xV, ↓S.val, ↓S.bind, ↓S.opt, ↓x2, ↓x1, ↓xN, ↓xB, ↓xD, ↓xAnd, ↓xOr, ↓xNot, ↓xIf, ↓xAndV, ↓xOrV, ↓xNotV, ↓xChain, ↓aNil, ↓aCons, ↓xTup, ↓few, ↓xF, ↓xC, ↓xSetI, ↓xPar, ↓xCall, ↓xFrz, ↓xM, live, i2, dSub, dAdd, dMul, dMulA, dMod, dDiv, dLt, dLe, dGt, dGe, dIx, at10, at20, at21, at30, at31, at32, cst0, cst1, cst2, cst3, dNeg, dAbs, dInt, dLen, dMin2, dMax2, dGcd, dTuple, ↓iR1, ↓iR2, ↓iV, items, ↓iEn, items1, nocel, nocels, List.map_cons, List.map_nil, List.getElem?_cons_zero, List.getElem?_cons_succ, List.getElem?_nil, List.set_cons_zero, List.set_cons_succ, List.length_cons, List.length_nil, List.replicate, List.cons_append, List.nil_append, Nat.reduceAdd, Nat.reduceSub, Bool.false_eq_true, if_true, if_false, Option.map_some, Option.bind_some, Option.bind_none, Bool.and_true, Bool.and_false, Bool.true_and, Bool.not_true, Bool.not_false, decide_true, decide_false, vw_n, vw_b, vw_i, vw_s, vw_u, vw_l, vw_o, ie_n, ie_b, ie_i, ie_s, ie_u, ie_l, ie_c, x10, x20, x21, x30, x31, x32, fin_b, fin_i, eq_ii, ne_ii, List.take_length, vw_k, ie_k, id_eq, Nat.reduceLeDiff, ↓xSl, ↓xAugI, ↓oE, ↓oNo, ↓xLs, ↓xExt, ↓iZp, hxi, rd, hr]) rfl (by simp; omega) fun p hp => ?_
    have hp := List.mem_range.mp hp
    refine ⟨[some (.cel N), some (chD cs), some (iT xs), some (.int a), none, none, none, some (.int (3 + a + 2)), some (iT (movX cs xs a)), some (.int (p : Nat)), y10, y11, some (iT H), some (.int I), z14, y15, y16, none], rfl, ?_, fun _ => by simp only [↓xDef, ↓xSeq, ↓xDo, ↓xNext, ↓xRet, ↓xExp, ↓xIfS, ↓xAsg, ↓gN, ↓gT, ↓gsC, ↓gsN, ↓xV, ↓S.val, ↓S.bind, ↓S.opt, ↓x2, ↓x1, ↓xN, ↓xB, ↓xD, ↓xAnd, ↓xOr, ↓xNot, ↓xIf, ↓xAndV, ↓xOrV, ↓xNotV, ↓xChain, ↓aNil, ↓aCons, ↓xTup, ↓few, ↓xF, ↓xC, ↓xSetI, ↓xPar, ↓xCall, ↓xFrz, ↓xM, live, i2, dSub, dAdd, dMul, dMulA, dMod, dDiv, dLt, dLe, dGt, dGe, dIx, at10, at20, at21, at30, at31, at32, cst0, cst1, cst2, cst3, dNeg, dAbs, dInt, dLen, dMin2, dMax2, dGcd, dTuple, ↓iR1, ↓iR2, ↓iV, items, ↓iEn, items1, nocel, nocels, List.map_cons, List.map_nil, List.getElem?_cons_zero, List.getElem?_cons_succ, List.getElem?_nil, List.set_cons_zero, List.set_cons_succ, List.length_cons, List.length_nil, List.replicate, List.cons_append, List.nil_append, Nat.reduceAdd, Nat.reduceSub, Bool.false_eq_true, if_true, if_false, Option.map_some, Option.bind_some, Option.bind_none, Bool.and_true, Bool.and_false, Bool.true_and, Bool.not_true, Bool.not_false, decide_true, decide_false, vw_n, vw_b, vw_i, vw_s, vw_u, vw_l, vw_o, ie_n, ie_b, ie_i, ie_s, ie_u, ie_l, ie_c, x10, x20, x21, x30, x31, x32, fin_b, fin_i, eq_ii, ne_ii, List.take_length, vw_k, ie_k, id_eq, Nat.reduceLeDiff, ↓xSl, ↓xAugI, ↓oE, ↓oNo, ↓xLs, ↓xExt, ↓iZp]; rfl⟩
    have e := grown (n := n) (s := s) (x := (p : Int)) hgH (by omega) c1 c2 c3 c4 (by omega) (by omega) C7
    have E := eq_iT (grow n s p H) H
    generalize grow n s p H = G at e E ⊢
    obtain ⟨Pp, hP⟩ : ∃ Pp : Int, (p : Int) = Pp := ⟨_, rfl⟩
    rw [hP] at e ⊢
    unfold chD
    simp only [↓xDef, ↓xSeq, ↓xDo, ↓xNext, ↓xRet, ↓xExp, ↓xIfS, ↓xAsg, ↓gN, ↓gT, ↓gsC, ↓gsN, ↓xV, ↓S.val, ↓S.bind, ↓S.opt, ↓x2, ↓x1, ↓xN, ↓xB, ↓xD, ↓xAnd, ↓xOr, ↓xNot, ↓xIf, ↓xAndV, ↓xOrV, ↓xNotV, ↓xChain, ↓aNil, ↓aCons, ↓xTup, ↓few, ↓xF, ↓xC, ↓xSetI, ↓xPar, ↓xCall, ↓xFrz, ↓xM, live, i2, dSub, dAdd, dMul, dMulA, dMod, dDiv, dLt, dLe, dGt, dGe, dIx, at10, at20, at21, at30, at31, at32, cst0, cst1, cst2, cst3, dNeg, dAbs, dInt, dLen, dMin2, dMax2, dGcd, dTuple, ↓iR1, ↓iR2, ↓iV, items, ↓iEn, items1, nocel, nocels, List.map_cons, List.map_nil, List.getElem?_cons_zero, List.getElem?_cons_succ, List.getElem?_nil, List.set_cons_zero, List.set_cons_succ, List.length_cons, List.length_nil, List.replicate, List.cons_append, List.nil_append, Nat.reduceAdd, Nat.reduceSub, Bool.false_eq_true, if_true, if_false, Option.map_some, Option.bind_some, Option.bind_none, Bool.and_true, Bool.and_false, Bool.true_and, Bool.not_true, Bool.not_false, decide_true, decide_false, vw_n, vw_b, vw_i, vw_s, vw_u, vw_l, vw_o, ie_n, ie_b, ie_i, ie_s, ie_u, ie_l, ie_c, x10, x20, x21, x30, x31, x32, fin_b, fin_i, eq_ii, ne_ii, List.take_length, vw_k, ie_k, id_eq, Nat.reduceLeDiff, ↓xSl, ↓xAugI, ↓oE, ↓oNo, ↓xLs, ↓xExt, ↓iZp, hxi, rd, e, E]
  have hE := eq_iL idl []
  simp only [iL, List.map_nil] at hE
  have hfin : ∀ (b : Bool) (C9 : Cells), C9.length = C.length → fin C.length (.bl b) C9 = some (.ok (.bl b) C9) := fun b C9 h => by rw [← h]; exact fin_b
  have pre8 : ∀ tail : SS, xSeq (xAsg (x2 dSub (xCall m__law_roll (aCons (xV 0) (aCons (S.val (.int (9))) (aNil)))) (S.val (.int (4)))) (gN 3)) tail [some (.cel N), some (chD cs), some (iT xs), none, none, none, none, none, none, none, none, none, none, none, none, none, none, none] C = tail [some (.cel N), some (chD cs), some (iT xs), some (.int a), none, none, none, none, none, none, none, none, none, none, none, none, none, none] C1 := fun tail => by
    refine seq_nx (a := xAsg (x2 dSub (xCall m__law_roll (aCons (xV 0) (aCons (S.val (.int (9))) (aNil)))) (S.val (.int (4)))) (gN 3)) ?_
    simp only [↓xDef, ↓xSeq, ↓xDo, ↓xNext, ↓xRet, ↓xExp, ↓xIfS, ↓xAsg, ↓gN, ↓gT, ↓gsC, ↓gsN, ↓xV, ↓S.val, ↓S.bind, ↓S.opt, ↓x2, ↓x1, ↓xN, ↓xB, ↓xD, ↓xAnd, ↓xOr, ↓xNot, ↓xIf, ↓xAndV, ↓xOrV, ↓xNotV, ↓xChain, ↓aNil, ↓aCons, ↓xTup, ↓few, ↓xF, ↓xC, ↓xSetI, ↓xPar, ↓xCall, ↓xFrz, ↓xM, live, i2, dSub, dAdd, dMul, dMulA, dMod, dDiv, dLt, dLe, dGt, dGe, dIx, at10, at20, at21, at30, at31, at32, cst0, cst1, cst2, cst3, dNeg, dAbs, dInt, dLen, dMin2, dMax2, dGcd, dTuple, ↓iR1, ↓iR2, ↓iV, items, ↓iEn, items1, nocel, nocels, List.map_cons, List.map_nil, List.getElem?_cons_zero, List.getElem?_cons_succ, List.getElem?_nil, List.set_cons_zero, List.set_cons_succ, List.length_cons, List.length_nil, List.replicate, List.cons_append, List.nil_append, Nat.reduceAdd, Nat.reduceSub, Bool.false_eq_true, if_true, if_false, Option.map_some, Option.bind_some, Option.bind_none, Bool.and_true, Bool.and_false, Bool.true_and, Bool.not_true, Bool.not_false, decide_true, decide_false, vw_n, vw_b, vw_i, vw_s, vw_u, vw_l, vw_o, ie_n, ie_b, ie_i, ie_s, ie_u, ie_l, ie_c, x10, x20, x21, x30, x31, x32, fin_b, fin_i, eq_ii, ne_ii, List.take_length, vw_k, ie_k, id_eq, Nat.reduceLeDiff, ↓xSl, ↓xAugI, ↓oE, ↓oNo, ↓xLs, ↓xExt, ↓iZp, e1, ha]
  by_cases hem : idl = []
  · rw [decide_eq_true hem] at hE
    refine ⟨C7, ?_, by omega, D2.mono (by omega)⟩
    have hf := hfin true C7 (by omega)
    unfold m__law_moved_right b__law_moved_right
    simp only [↓xDef, List.length_cons, List.length_nil, Nat.reduceAdd, if_true, List.map_cons, List.map_nil, List.replicate, List.cons_append, List.nil_append, Nat.reduceSub]
    rw [pre8]
    rw [seq_nx (e' := [some (.cel N), some (chD cs), some (iT xs), some (.int a), none, none, none, some (.int (3 + a + 2)), some (iT (movX cs xs a)), none, none, none, none, none, none, none, none, none]) (C' := C1) (by simp only [↓xDef, ↓xSeq, ↓xDo, ↓xNext, ↓xRet, ↓xExp, ↓xIfS, ↓xAsg, ↓gN, ↓gT, ↓gsC, ↓gsN, ↓xV, ↓S.val, ↓S.bind, ↓S.opt, ↓x2, ↓x1, ↓xN, ↓xB, ↓xD, ↓xAnd, ↓xOr, ↓xNot, ↓xIf, ↓xAndV, ↓xOrV, ↓xNotV, ↓xChain, ↓aNil, ↓aCons, ↓xTup, ↓few, ↓xF, ↓xC, ↓xSetI, ↓xPar, ↓xCall, ↓xFrz, ↓xM, live, i2, dSub, dAdd, dMul, dMulA, dMod, dDiv, dLt, dLe, dGt, dGe, dIx, at10, at20, at21, at30, at31, at32, cst0, cst1, cst2, cst3, dNeg, dAbs, dInt, dLen, dMin2, dMax2, dGcd, dTuple, ↓iR1, ↓iR2, ↓iV, items, ↓iEn, items1, nocel, nocels, List.map_cons, List.map_nil, List.getElem?_cons_zero, List.getElem?_cons_succ, List.getElem?_nil, List.set_cons_zero, List.set_cons_succ, List.length_cons, List.length_nil, List.replicate, List.cons_append, List.nil_append, Nat.reduceAdd, Nat.reduceSub, Bool.false_eq_true, if_true, if_false, Option.map_some, Option.bind_some, Option.bind_none, Bool.and_true, Bool.and_false, Bool.true_and, Bool.not_true, Bool.not_false, decide_true, decide_false, vw_n, vw_b, vw_i, vw_s, vw_u, vw_l, vw_o, ie_n, ie_b, ie_i, ie_s, ie_u, ie_l, ie_c, x10, x20, x21, x30, x31, x32, fin_b, fin_i, eq_ii, ne_ii, List.take_length, vw_k, ie_k, id_eq, Nat.reduceLeDiff, ↓xSl, ↓xAugI, ↓oE, ↓oNo, ↓xLs, ↓xExt, ↓iZp, hec, e2])]
    rw [seq_nx (e' := [some (.cel N), some (chD cs), some (iT xs), some (.int a), none, none, none, some (.int (3 + a + 2)), some (iT (movX cs xs a)), none, none, none, none, none, none, none, none, none]) (C' := C1) (by simp only [↓xDef, ↓xSeq, ↓xDo, ↓xNext, ↓xRet, ↓xExp, ↓xIfS, ↓xAsg, ↓gN, ↓gT, ↓gsC, ↓gsN, ↓xV, ↓S.val, ↓S.bind, ↓S.opt, ↓x2, ↓x1, ↓xN, ↓xB, ↓xD, ↓xAnd, ↓xOr, ↓xNot, ↓xIf, ↓xAndV, ↓xOrV, ↓xNotV, ↓xChain, ↓aNil, ↓aCons, ↓xTup, ↓few, ↓xF, ↓xC, ↓xSetI, ↓xPar, ↓xCall, ↓xFrz, ↓xM, live, i2, dSub, dAdd, dMul, dMulA, dMod, dDiv, dLt, dLe, dGt, dGe, dIx, at10, at20, at21, at30, at31, at32, cst0, cst1, cst2, cst3, dNeg, dAbs, dInt, dLen, dMin2, dMax2, dGcd, dTuple, ↓iR1, ↓iR2, ↓iV, items, ↓iEn, items1, nocel, nocels, List.map_cons, List.map_nil, List.getElem?_cons_zero, List.getElem?_cons_succ, List.getElem?_nil, List.set_cons_zero, List.set_cons_succ, List.length_cons, List.length_nil, List.replicate, List.cons_append, List.nil_append, Nat.reduceAdd, Nat.reduceSub, Bool.false_eq_true, if_true, if_false, Option.map_some, Option.bind_some, Option.bind_none, Bool.and_true, Bool.and_false, Bool.true_and, Bool.not_true, Bool.not_false, decide_true, decide_false, vw_n, vw_b, vw_i, vw_s, vw_u, vw_l, vw_o, ie_n, ie_b, ie_i, ie_s, ie_u, ie_l, ie_c, x10, x20, x21, x30, x31, x32, fin_b, fin_i, eq_ii, ne_ii, List.take_length, vw_k, ie_k, id_eq, Nat.reduceLeDiff, ↓xSl, ↓xAugI, ↓oE, ↓oNo, ↓xLs, ↓xExt, ↓iZp, hsum, q1, N1])]
    rw [seq_nx g5]
    rw [seq_nx (e' := [some (.cel N), some (chD cs), some (iT xs), some (.int a), none, none, none, some (.int (3 + a + 2)), some (iT (movX cs xs a)), y9, y10, y11, some (iT []), some (.int (i : Nat)), none, y15, y16, none]) (C' := C7) (by unfold chD; simp only [↓xDef, ↓xSeq, ↓xDo, ↓xNext, ↓xRet, ↓xExp, ↓xIfS, ↓xAsg, ↓gN, ↓gT, ↓gsC, ↓gsN, ↓xV, ↓S.val, ↓S.bind, ↓S.opt, ↓x2, ↓x1, ↓xN, ↓xB, ↓xD, ↓xAnd, ↓xOr, ↓xNot, ↓xIf, ↓xAndV, ↓xOrV, ↓xNotV, ↓xChain, ↓aNil, ↓aCons, ↓xTup, ↓few, ↓xF, ↓xC, ↓xSetI, ↓xPar, ↓xCall, ↓xFrz, ↓xM, live, i2, dSub, dAdd, dMul, dMulA, dMod, dDiv, dLt, dLe, dGt, dGe, dIx, at10, at20, at21, at30, at31, at32, cst0, cst1, cst2, cst3, dNeg, dAbs, dInt, dLen, dMin2, dMax2, dGcd, dTuple, ↓iR1, ↓iR2, ↓iV, items, ↓iEn, items1, nocel, nocels, List.map_cons, List.map_nil, List.getElem?_cons_zero, List.getElem?_cons_succ, List.getElem?_nil, List.set_cons_zero, List.set_cons_succ, List.length_cons, List.length_nil, List.replicate, List.cons_append, List.nil_append, Nat.reduceAdd, Nat.reduceSub, Bool.false_eq_true, if_true, if_false, Option.map_some, Option.bind_some, Option.bind_none, Bool.and_true, Bool.and_false, Bool.true_and, Bool.not_true, Bool.not_false, decide_true, decide_false, vw_n, vw_b, vw_i, vw_s, vw_u, vw_l, vw_o, ie_n, ie_b, ie_i, ie_s, ie_u, ie_l, ie_c, x10, x20, x21, x30, x31, x32, fin_b, fin_i, eq_ii, ne_ii, List.take_length, vw_k, ie_k, id_eq, Nat.reduceLeDiff, ↓xSl, ↓xAugI, ↓oE, ↓oNo, ↓xLs, ↓xExt, ↓iZp, e3]; rfl)]
    rw [seq_nx q7]
    rw [seq_nx (e' := [some (.cel N), some (chD cs), some (iT xs), some (.int a), some (iL idl), none, none, some (.int (3 + a + 2)), some (iT (movX cs xs a)), z9, y10, y11, some (iT H), some (.int (i : Nat)), z14, y15, y16, none]) (C' := C7) (by simp only [↓xDef, ↓xSeq, ↓xDo, ↓xNext, ↓xRet, ↓xExp, ↓xIfS, ↓xAsg, ↓gN, ↓gT, ↓gsC, ↓gsN, ↓xV, ↓S.val, ↓S.bind, ↓S.opt, ↓x2, ↓x1, ↓xN, ↓xB, ↓xD, ↓xAnd, ↓xOr, ↓xNot, ↓xIf, ↓xAndV, ↓xOrV, ↓xNotV, ↓xChain, ↓aNil, ↓aCons, ↓xTup, ↓few, ↓xF, ↓xC, ↓xSetI, ↓xPar, ↓xCall, ↓xFrz, ↓xM, live, i2, dSub, dAdd, dMul, dMulA, dMod, dDiv, dLt, dLe, dGt, dGe, dIx, at10, at20, at21, at30, at31, at32, cst0, cst1, cst2, cst3, dNeg, dAbs, dInt, dLen, dMin2, dMax2, dGcd, dTuple, ↓iR1, ↓iR2, ↓iV, items, ↓iEn, items1, nocel, nocels, List.map_cons, List.map_nil, List.getElem?_cons_zero, List.getElem?_cons_succ, List.getElem?_nil, List.set_cons_zero, List.set_cons_succ, List.length_cons, List.length_nil, List.replicate, List.cons_append, List.nil_append, Nat.reduceAdd, Nat.reduceSub, Bool.false_eq_true, if_true, if_false, Option.map_some, Option.bind_some, Option.bind_none, Bool.and_true, Bool.and_false, Bool.true_and, Bool.not_true, Bool.not_false, decide_true, decide_false, vw_n, vw_b, vw_i, vw_s, vw_u, vw_l, vw_o, ie_n, ie_b, ie_i, ie_s, ie_u, ie_l, ie_c, x10, x20, x21, x30, x31, x32, fin_b, fin_i, eq_ii, ne_ii, List.take_length, vw_k, ie_k, id_eq, Nat.reduceLeDiff, ↓xSl, ↓xAugI, ↓oE, ↓oNo, ↓xLs, ↓xExt, ↓iZp, q8])]
    simp only [↓xDef, ↓xSeq, ↓xDo, ↓xNext, ↓xRet, ↓xExp, ↓xIfS, ↓xAsg, ↓gN, ↓gT, ↓gsC, ↓gsN, ↓xV, ↓S.val, ↓S.bind, ↓S.opt, ↓x2, ↓x1, ↓xN, ↓xB, ↓xD, ↓xAnd, ↓xOr, ↓xNot, ↓xIf, ↓xAndV, ↓xOrV, ↓xNotV, ↓xChain, ↓aNil, ↓aCons, ↓xTup, ↓few, ↓xF, ↓xC, ↓xSetI, ↓xPar, ↓xCall, ↓xFrz, ↓xM, live, i2, dSub, dAdd, dMul, dMulA, dMod, dDiv, dLt, dLe, dGt, dGe, dIx, at10, at20, at21, at30, at31, at32, cst0, cst1, cst2, cst3, dNeg, dAbs, dInt, dLen, dMin2, dMax2, dGcd, dTuple, ↓iR1, ↓iR2, ↓iV, items, ↓iEn, items1, nocel, nocels, List.map_cons, List.map_nil, List.getElem?_cons_zero, List.getElem?_cons_succ, List.getElem?_nil, List.set_cons_zero, List.set_cons_succ, List.length_cons, List.length_nil, List.replicate, List.cons_append, List.nil_append, Nat.reduceAdd, Nat.reduceSub, Bool.false_eq_true, if_true, if_false, Option.map_some, Option.bind_some, Option.bind_none, Bool.and_true, Bool.and_false, Bool.true_and, Bool.not_true, Bool.not_false, decide_true, decide_false, vw_n, vw_b, vw_i, vw_s, vw_u, vw_l, vw_o, ie_n, ie_b, ie_i, ie_s, ie_u, ie_l, ie_c, x10, x20, x21, x30, x31, x32, fin_b, fin_i, eq_ii, ne_ii, List.take_length, vw_k, ie_k, id_eq, Nat.reduceLeDiff, ↓xSl, ↓xAugI, ↓oE, ↓oNo, ↓xLs, ↓xExt, ↓iZp, hE, hf]
  · rw [decide_eq_false hem] at hE
    have hid : ∀ z ∈ idl, 0 ≤ z ∧ z < n ∧ grow n s z H = H := fun z hz => by
      rw [hidl] at hz
      obtain ⟨p, hp, rfl⟩ := List.mem_map.mp hz
      obtain ⟨h1, h2⟩ := List.mem_filter.mp hp
      have := List.mem_range.mp h1
      exact ⟨by omega, by omega, by simpa using h2⟩
    have hil : idl.length ≤ 60 := by
      rw [hidl, List.length_map]
      refine Nat.le_trans (List.length_filter_le _ _) ?_
      simp
      omega
    have one : ∀ {C9 : Cells} {j : Nat}, Dc C9 N j → j ≤ 700000 → ∃ p C', m__law_one_of [.cel N, iL idl] C9 = some (.ok (.int p) C') ∧ p ∈ idl ∧ C'.length = C9.length ∧ Dc C' N (j + 1) := fun D9 hj => by
      obtain ⟨d, C', e, hd, hl, D'⟩ := one_of (ds := idl.map D.int) D9 (by omega) (by simpa using hem) (by rw [List.length_map]; omega) (fun d hd => by
        obtain ⟨z, _, rfl⟩ := List.mem_map.mp hd
        rfl)
      obtain ⟨z, hz, rfl⟩ := List.mem_map.mp hd
      exact ⟨z, C', e, hz, hl, D'⟩
    obtain ⟨p, C8, e8, hp, l8, D8⟩ := one D2 (by omega)
    obtain ⟨q, C9, e9, hq, l9, D9⟩ := one D8 (by omega)
    obtain ⟨p0, p1, pg⟩ := hid p hp
    obtain ⟨q0, q1', qg⟩ := hid q hq
    have tp := tv_set (p := p) hT hcs p0 p1
    have tq := tv_set (p := q) hT hcs q0 q1'
    have fp : heapF cs (xs.set i p) = ((cs.drop (i + 1)).zip (xs.drop (i + 1))).foldl stepH H := by
      unfold heapF
      rw [fold_split cs xs i (n, s) [] hcs hix p, ← hH]
      show List.foldl stepH (grow n s p H) _ = _
      rw [pg]
    have fq : heapF cs (xs.set i q) = ((cs.drop (i + 1)).zip (xs.drop (i + 1))).foldl stepH H := by
      unfold heapF
      rw [fold_split cs xs i (n, s) [] hcs hix q, ← hH]
      show List.foldl stepH (grow n s q H) _ = _
      rw [qg]
    have fx : heapF cs xs = ((cs.drop (i + 1)).zip (xs.drop (i + 1))).foldl stepH (grow n s (xs.getD i 0) H) := by
      have := fold_split cs xs i (n, s) [] hcs hix (xs.getD i 0)
      rw [set_getD hix, ← hH] at this
      exact this
    have hle : LeH (heapF cs (xs.set i p)) (heapF cs xs) := by
      rw [fp, fx]
      exact fold_mono _ hgH (hg_grow hgH n s _) (grow_ge H n s _)
    have k1 := heap_of hv tp h1 (by omega) C9
    have k2 := heap_of hv tq h1 (by omega) C9
    have k3 := heap_of hv hT h1 (by omega) C9
    have k4 := is_held (hg_heapF hT) (by omega) (hg_heapF tp) (by omega) C9
    have hb : holdB (heapF cs xs) (heapF cs (xs.set i p)) = true := (holdB_iff (hg_heapF hT) (hg_heapF tp)).mpr hle
    rw [hb] at k4
    have E1 := eq_iT (heapF cs (xs.set i p)) (heapF cs (xs.set i q))
    rw [fp, fq, decide_eq_true rfl, ← fp] at E1
    rw [fq, ← fp] at k2
    have s1 : cutD (xs.map D.int) none (some (i : Int)) = (xs.take i).map D.int := by rw [cut_to, List.map_take]
    have s2 : cutD (xs.map D.int) (some ((i : Int) + 1)) none = (xs.drop (i + 1)).map D.int := by rw [← Int.natCast_succ, cut_from, List.map_drop]
    have s3 : cutD ((xs.set i p).map D.int) none (some (i : Int)) = (xs.take i).map D.int := by
      rw [cut_to, ← List.map_take]
      congr 1
      rw [List.take_set_of_le (Nat.le_refl _)]
    have j1 := set_cut hix p
    have j2 := set_cut hix q
    have b1 : ((xs.take i).map D.int).length + 1 ≤ 1000000 := by rw [List.length_map, List.length_take]; omega
    have b2 : ∀ z : Int, ((xs.take i).map D.int ++ [D.int z]).length + ((xs.drop (i + 1)).map D.int).length ≤ 1000000 := fun z => by rw [List.length_append, List.length_map, List.length_take, List.length_map, List.length_drop, List.length_singleton]; omega
    refine ⟨C9, ?_, by omega, D9.mono (by omega)⟩
    have hf := hfin true C9 (by omega)
    unfold m__law_moved_right b__law_moved_right
    simp only [↓xDef, List.length_cons, List.length_nil, Nat.reduceAdd, if_true, List.map_cons, List.map_nil, List.replicate, List.cons_append, List.nil_append, Nat.reduceSub]
    rw [pre8]
    rw [seq_nx (e' := [some (.cel N), some (chD cs), some (iT xs), some (.int a), none, none, none, some (.int (3 + a + 2)), some (iT (movX cs xs a)), none, none, none, none, none, none, none, none, none]) (C' := C1) (by simp only [↓xDef, ↓xSeq, ↓xDo, ↓xNext, ↓xRet, ↓xExp, ↓xIfS, ↓xAsg, ↓gN, ↓gT, ↓gsC, ↓gsN, ↓xV, ↓S.val, ↓S.bind, ↓S.opt, ↓x2, ↓x1, ↓xN, ↓xB, ↓xD, ↓xAnd, ↓xOr, ↓xNot, ↓xIf, ↓xAndV, ↓xOrV, ↓xNotV, ↓xChain, ↓aNil, ↓aCons, ↓xTup, ↓few, ↓xF, ↓xC, ↓xSetI, ↓xPar, ↓xCall, ↓xFrz, ↓xM, live, i2, dSub, dAdd, dMul, dMulA, dMod, dDiv, dLt, dLe, dGt, dGe, dIx, at10, at20, at21, at30, at31, at32, cst0, cst1, cst2, cst3, dNeg, dAbs, dInt, dLen, dMin2, dMax2, dGcd, dTuple, ↓iR1, ↓iR2, ↓iV, items, ↓iEn, items1, nocel, nocels, List.map_cons, List.map_nil, List.getElem?_cons_zero, List.getElem?_cons_succ, List.getElem?_nil, List.set_cons_zero, List.set_cons_succ, List.length_cons, List.length_nil, List.replicate, List.cons_append, List.nil_append, Nat.reduceAdd, Nat.reduceSub, Bool.false_eq_true, if_true, if_false, Option.map_some, Option.bind_some, Option.bind_none, Bool.and_true, Bool.and_false, Bool.true_and, Bool.not_true, Bool.not_false, decide_true, decide_false, vw_n, vw_b, vw_i, vw_s, vw_u, vw_l, vw_o, ie_n, ie_b, ie_i, ie_s, ie_u, ie_l, ie_c, x10, x20, x21, x30, x31, x32, fin_b, fin_i, eq_ii, ne_ii, List.take_length, vw_k, ie_k, id_eq, Nat.reduceLeDiff, ↓xSl, ↓xAugI, ↓oE, ↓oNo, ↓xLs, ↓xExt, ↓iZp, hec, e2])]
    rw [seq_nx (e' := [some (.cel N), some (chD cs), some (iT xs), some (.int a), none, none, none, some (.int (3 + a + 2)), some (iT (movX cs xs a)), none, none, none, none, none, none, none, none, none]) (C' := C1) (by simp only [↓xDef, ↓xSeq, ↓xDo, ↓xNext, ↓xRet, ↓xExp, ↓xIfS, ↓xAsg, ↓gN, ↓gT, ↓gsC, ↓gsN, ↓xV, ↓S.val, ↓S.bind, ↓S.opt, ↓x2, ↓x1, ↓xN, ↓xB, ↓xD, ↓xAnd, ↓xOr, ↓xNot, ↓xIf, ↓xAndV, ↓xOrV, ↓xNotV, ↓xChain, ↓aNil, ↓aCons, ↓xTup, ↓few, ↓xF, ↓xC, ↓xSetI, ↓xPar, ↓xCall, ↓xFrz, ↓xM, live, i2, dSub, dAdd, dMul, dMulA, dMod, dDiv, dLt, dLe, dGt, dGe, dIx, at10, at20, at21, at30, at31, at32, cst0, cst1, cst2, cst3, dNeg, dAbs, dInt, dLen, dMin2, dMax2, dGcd, dTuple, ↓iR1, ↓iR2, ↓iV, items, ↓iEn, items1, nocel, nocels, List.map_cons, List.map_nil, List.getElem?_cons_zero, List.getElem?_cons_succ, List.getElem?_nil, List.set_cons_zero, List.set_cons_succ, List.length_cons, List.length_nil, List.replicate, List.cons_append, List.nil_append, Nat.reduceAdd, Nat.reduceSub, Bool.false_eq_true, if_true, if_false, Option.map_some, Option.bind_some, Option.bind_none, Bool.and_true, Bool.and_false, Bool.true_and, Bool.not_true, Bool.not_false, decide_true, decide_false, vw_n, vw_b, vw_i, vw_s, vw_u, vw_l, vw_o, ie_n, ie_b, ie_i, ie_s, ie_u, ie_l, ie_c, x10, x20, x21, x30, x31, x32, fin_b, fin_i, eq_ii, ne_ii, List.take_length, vw_k, ie_k, id_eq, Nat.reduceLeDiff, ↓xSl, ↓xAugI, ↓oE, ↓oNo, ↓xLs, ↓xExt, ↓iZp, hsum, q1, N1])]
    rw [seq_nx g5]
    rw [seq_nx (e' := [some (.cel N), some (chD cs), some (iT xs), some (.int a), none, none, none, some (.int (3 + a + 2)), some (iT (movX cs xs a)), y9, y10, y11, some (iT []), some (.int (i : Nat)), none, y15, y16, none]) (C' := C7) (by unfold chD; simp only [↓xDef, ↓xSeq, ↓xDo, ↓xNext, ↓xRet, ↓xExp, ↓xIfS, ↓xAsg, ↓gN, ↓gT, ↓gsC, ↓gsN, ↓xV, ↓S.val, ↓S.bind, ↓S.opt, ↓x2, ↓x1, ↓xN, ↓xB, ↓xD, ↓xAnd, ↓xOr, ↓xNot, ↓xIf, ↓xAndV, ↓xOrV, ↓xNotV, ↓xChain, ↓aNil, ↓aCons, ↓xTup, ↓few, ↓xF, ↓xC, ↓xSetI, ↓xPar, ↓xCall, ↓xFrz, ↓xM, live, i2, dSub, dAdd, dMul, dMulA, dMod, dDiv, dLt, dLe, dGt, dGe, dIx, at10, at20, at21, at30, at31, at32, cst0, cst1, cst2, cst3, dNeg, dAbs, dInt, dLen, dMin2, dMax2, dGcd, dTuple, ↓iR1, ↓iR2, ↓iV, items, ↓iEn, items1, nocel, nocels, List.map_cons, List.map_nil, List.getElem?_cons_zero, List.getElem?_cons_succ, List.getElem?_nil, List.set_cons_zero, List.set_cons_succ, List.length_cons, List.length_nil, List.replicate, List.cons_append, List.nil_append, Nat.reduceAdd, Nat.reduceSub, Bool.false_eq_true, if_true, if_false, Option.map_some, Option.bind_some, Option.bind_none, Bool.and_true, Bool.and_false, Bool.true_and, Bool.not_true, Bool.not_false, decide_true, decide_false, vw_n, vw_b, vw_i, vw_s, vw_u, vw_l, vw_o, ie_n, ie_b, ie_i, ie_s, ie_u, ie_l, ie_c, x10, x20, x21, x30, x31, x32, fin_b, fin_i, eq_ii, ne_ii, List.take_length, vw_k, ie_k, id_eq, Nat.reduceLeDiff, ↓xSl, ↓xAugI, ↓oE, ↓oNo, ↓xLs, ↓xExt, ↓iZp, e3]; rfl)]
    rw [seq_nx q7]
    rw [seq_nx (e' := [some (.cel N), some (chD cs), some (iT xs), some (.int a), some (iL idl), none, none, some (.int (3 + a + 2)), some (iT (movX cs xs a)), z9, y10, y11, some (iT H), some (.int (i : Nat)), z14, y15, y16, none]) (C' := C7) (by simp only [↓xDef, ↓xSeq, ↓xDo, ↓xNext, ↓xRet, ↓xExp, ↓xIfS, ↓xAsg, ↓gN, ↓gT, ↓gsC, ↓gsN, ↓xV, ↓S.val, ↓S.bind, ↓S.opt, ↓x2, ↓x1, ↓xN, ↓xB, ↓xD, ↓xAnd, ↓xOr, ↓xNot, ↓xIf, ↓xAndV, ↓xOrV, ↓xNotV, ↓xChain, ↓aNil, ↓aCons, ↓xTup, ↓few, ↓xF, ↓xC, ↓xSetI, ↓xPar, ↓xCall, ↓xFrz, ↓xM, live, i2, dSub, dAdd, dMul, dMulA, dMod, dDiv, dLt, dLe, dGt, dGe, dIx, at10, at20, at21, at30, at31, at32, cst0, cst1, cst2, cst3, dNeg, dAbs, dInt, dLen, dMin2, dMax2, dGcd, dTuple, ↓iR1, ↓iR2, ↓iV, items, ↓iEn, items1, nocel, nocels, List.map_cons, List.map_nil, List.getElem?_cons_zero, List.getElem?_cons_succ, List.getElem?_nil, List.set_cons_zero, List.set_cons_succ, List.length_cons, List.length_nil, List.replicate, List.cons_append, List.nil_append, Nat.reduceAdd, Nat.reduceSub, Bool.false_eq_true, if_true, if_false, Option.map_some, Option.bind_some, Option.bind_none, Bool.and_true, Bool.and_false, Bool.true_and, Bool.not_true, Bool.not_false, decide_true, decide_false, vw_n, vw_b, vw_i, vw_s, vw_u, vw_l, vw_o, ie_n, ie_b, ie_i, ie_s, ie_u, ie_l, ie_c, x10, x20, x21, x30, x31, x32, fin_b, fin_i, eq_ii, ne_ii, List.take_length, vw_k, ie_k, id_eq, Nat.reduceLeDiff, ↓xSl, ↓xAugI, ↓oE, ↓oNo, ↓xLs, ↓xExt, ↓iZp, q8])]
    rw [seq_nx (e' := [some (.cel N), some (chD cs), some (iT xs), some (.int a), some (iL idl), none, none, some (.int (3 + a + 2)), some (iT (movX cs xs a)), z9, y10, y11, some (iT H), some (.int (i : Nat)), z14, y15, y16, none]) (C' := C7) (by simp only [↓xDef, ↓xSeq, ↓xDo, ↓xNext, ↓xRet, ↓xExp, ↓xIfS, ↓xAsg, ↓gN, ↓gT, ↓gsC, ↓gsN, ↓xV, ↓S.val, ↓S.bind, ↓S.opt, ↓x2, ↓x1, ↓xN, ↓xB, ↓xD, ↓xAnd, ↓xOr, ↓xNot, ↓xIf, ↓xAndV, ↓xOrV, ↓xNotV, ↓xChain, ↓aNil, ↓aCons, ↓xTup, ↓few, ↓xF, ↓xC, ↓xSetI, ↓xPar, ↓xCall, ↓xFrz, ↓xM, live, i2, dSub, dAdd, dMul, dMulA, dMod, dDiv, dLt, dLe, dGt, dGe, dIx, at10, at20, at21, at30, at31, at32, cst0, cst1, cst2, cst3, dNeg, dAbs, dInt, dLen, dMin2, dMax2, dGcd, dTuple, ↓iR1, ↓iR2, ↓iV, items, ↓iEn, items1, nocel, nocels, List.map_cons, List.map_nil, List.getElem?_cons_zero, List.getElem?_cons_succ, List.getElem?_nil, List.set_cons_zero, List.set_cons_succ, List.length_cons, List.length_nil, List.replicate, List.cons_append, List.nil_append, Nat.reduceAdd, Nat.reduceSub, Bool.false_eq_true, if_true, if_false, Option.map_some, Option.bind_some, Option.bind_none, Bool.and_true, Bool.and_false, Bool.true_and, Bool.not_true, Bool.not_false, decide_true, decide_false, vw_n, vw_b, vw_i, vw_s, vw_u, vw_l, vw_o, ie_n, ie_b, ie_i, ie_s, ie_u, ie_l, ie_c, x10, x20, x21, x30, x31, x32, fin_b, fin_i, eq_ii, ne_ii, List.take_length, vw_k, ie_k, id_eq, Nat.reduceLeDiff, ↓xSl, ↓xAugI, ↓oE, ↓oNo, ↓xLs, ↓xExt, ↓iZp, hE])]
    rw [hI] at s1 s2 s3 ⊢
    generalize heapF cs (xs.set i p) = F1 at *
    generalize heapF cs xs = F0 at *
    rw [seq_nx (e' := [some (.cel N), some (chD cs), some (iT xs), some (.int a), some (iL idl), some (iT (xs.set i p)), none, some (.int (3 + a + 2)), some (iT (movX cs xs a)), z9, y10, y11, some (iT H), some (.int I), z14, y15, y16, none]) (C' := C8) (by simp only [↓xDef, ↓xSeq, ↓xDo, ↓xNext, ↓xRet, ↓xExp, ↓xIfS, ↓xAsg, ↓gN, ↓gT, ↓gsC, ↓gsN, ↓xV, ↓S.val, ↓S.bind, ↓S.opt, ↓x2, ↓x1, ↓xN, ↓xB, ↓xD, ↓xAnd, ↓xOr, ↓xNot, ↓xIf, ↓xAndV, ↓xOrV, ↓xNotV, ↓xChain, ↓aNil, ↓aCons, ↓xTup, ↓few, ↓xF, ↓xC, ↓xSetI, ↓xPar, ↓xCall, ↓xFrz, ↓xM, live, i2, dSub, dAdd, dMul, dMulA, dMod, dDiv, dLt, dLe, dGt, dGe, dIx, at10, at20, at21, at30, at31, at32, cst0, cst1, cst2, cst3, dNeg, dAbs, dInt, dLen, dMin2, dMax2, dGcd, dTuple, ↓iR1, ↓iR2, ↓iV, items, ↓iEn, items1, nocel, nocels, List.map_cons, List.map_nil, List.getElem?_cons_zero, List.getElem?_cons_succ, List.getElem?_nil, List.set_cons_zero, List.set_cons_succ, List.length_cons, List.length_nil, List.replicate, List.cons_append, List.nil_append, Nat.reduceAdd, Nat.reduceSub, Bool.false_eq_true, if_true, if_false, Option.map_some, Option.bind_some, Option.bind_none, Bool.and_true, Bool.and_false, Bool.true_and, Bool.not_true, Bool.not_false, decide_true, decide_false, vw_n, vw_b, vw_i, vw_s, vw_u, vw_l, vw_o, ie_n, ie_b, ie_i, ie_s, ie_u, ie_l, ie_c, x10, x20, x21, x30, x31, x32, fin_b, fin_i, eq_ii, ne_ii, List.take_length, vw_k, ie_k, id_eq, Nat.reduceLeDiff, ↓xSl, ↓xAugI, ↓oE, ↓oNo, ↓xLs, ↓xExt, ↓iZp, dSl, s1, s2, e8, dAdd, b1, b2, j1])]
    rw [seq_nx (e' := [some (.cel N), some (chD cs), some (iT xs), some (.int a), some (iL idl), some (iT (xs.set i p)), some (iT (xs.set i q)), some (.int (3 + a + 2)), some (iT (movX cs xs a)), z9, y10, y11, some (iT H), some (.int I), z14, y15, y16, none]) (C' := C9) (by simp only [↓xDef, ↓xSeq, ↓xDo, ↓xNext, ↓xRet, ↓xExp, ↓xIfS, ↓xAsg, ↓gN, ↓gT, ↓gsC, ↓gsN, ↓xV, ↓S.val, ↓S.bind, ↓S.opt, ↓x2, ↓x1, ↓xN, ↓xB, ↓xD, ↓xAnd, ↓xOr, ↓xNot, ↓xIf, ↓xAndV, ↓xOrV, ↓xNotV, ↓xChain, ↓aNil, ↓aCons, ↓xTup, ↓few, ↓xF, ↓xC, ↓xSetI, ↓xPar, ↓xCall, ↓xFrz, ↓xM, live, i2, dSub, dAdd, dMul, dMulA, dMod, dDiv, dLt, dLe, dGt, dGe, dIx, at10, at20, at21, at30, at31, at32, cst0, cst1, cst2, cst3, dNeg, dAbs, dInt, dLen, dMin2, dMax2, dGcd, dTuple, ↓iR1, ↓iR2, ↓iV, items, ↓iEn, items1, nocel, nocels, List.map_cons, List.map_nil, List.getElem?_cons_zero, List.getElem?_cons_succ, List.getElem?_nil, List.set_cons_zero, List.set_cons_succ, List.length_cons, List.length_nil, List.replicate, List.cons_append, List.nil_append, Nat.reduceAdd, Nat.reduceSub, Bool.false_eq_true, if_true, if_false, Option.map_some, Option.bind_some, Option.bind_none, Bool.and_true, Bool.and_false, Bool.true_and, Bool.not_true, Bool.not_false, decide_true, decide_false, vw_n, vw_b, vw_i, vw_s, vw_u, vw_l, vw_o, ie_n, ie_b, ie_i, ie_s, ie_u, ie_l, ie_c, x10, x20, x21, x30, x31, x32, fin_b, fin_i, eq_ii, ne_ii, List.take_length, vw_k, ie_k, id_eq, Nat.reduceLeDiff, ↓xSl, ↓xAugI, ↓oE, ↓oNo, ↓xLs, ↓xExt, ↓iZp, dSl, s3, s2, e9, dAdd, b1, b2, j2])]
    simp only [↓xDef, ↓xSeq, ↓xDo, ↓xNext, ↓xRet, ↓xExp, ↓xIfS, ↓xAsg, ↓gN, ↓gT, ↓gsC, ↓gsN, ↓xV, ↓S.val, ↓S.bind, ↓S.opt, ↓x2, ↓x1, ↓xN, ↓xB, ↓xD, ↓xAnd, ↓xOr, ↓xNot, ↓xIf, ↓xAndV, ↓xOrV, ↓xNotV, ↓xChain, ↓aNil, ↓aCons, ↓xTup, ↓few, ↓xF, ↓xC, ↓xSetI, ↓xPar, ↓xCall, ↓xFrz, ↓xM, live, i2, dSub, dAdd, dMul, dMulA, dMod, dDiv, dLt, dLe, dGt, dGe, dIx, at10, at20, at21, at30, at31, at32, cst0, cst1, cst2, cst3, dNeg, dAbs, dInt, dLen, dMin2, dMax2, dGcd, dTuple, ↓iR1, ↓iR2, ↓iV, items, ↓iEn, items1, nocel, nocels, List.map_cons, List.map_nil, List.getElem?_cons_zero, List.getElem?_cons_succ, List.getElem?_nil, List.set_cons_zero, List.set_cons_succ, List.length_cons, List.length_nil, List.replicate, List.cons_append, List.nil_append, Nat.reduceAdd, Nat.reduceSub, Bool.false_eq_true, if_true, if_false, Option.map_some, Option.bind_some, Option.bind_none, Bool.and_true, Bool.and_false, Bool.true_and, Bool.not_true, Bool.not_false, decide_true, decide_false, vw_n, vw_b, vw_i, vw_s, vw_u, vw_l, vw_o, ie_n, ie_b, ie_i, ie_s, ie_u, ie_l, ie_c, x10, x20, x21, x30, x31, x32, fin_b, fin_i, eq_ii, ne_ii, List.take_length, vw_k, ie_k, id_eq, Nat.reduceLeDiff, ↓xSl, ↓xAugI, ↓oE, ↓oNo, ↓xLs, ↓xExt, ↓iZp, hec, k1, k2, k3, k4, E1, hf]
end Sk15
end
section
set_option maxRecDepth 100000
set_option maxHeartbeats 0
set_option exponentiation.threshold 1000000
namespace Sk15
open PySem L2 Sm
theorem at_turn {ns : List Int} {I : Int} (h0 : 0 ≤ I) (h1 : I ≤ 5) (C : Cells) (w2 w3 w4 : Option D) : ∃ y2 y3 y4 C', q1_law [some (.lst (ns.map D.int)), some (.int I), w2, w3, w4] C = some (.nx [some (.lst (ns.map D.int)), some (.int I), y2, y3, y4] C') := by
  obtain ⟨l, m, e1, l0, m0, m1⟩ := dice (ns := ns) C h0 (by omega)
  generalize hLL : ns.map D.int = LL at e1 ⊢
  have D1 : Dc (C ++ [some (.l [.int l, .int m, .int 0])]) C.length 0 := ⟨l, m, 0, at_end, l0, m0, m1, by decide, by decide⟩
  generalize C ++ [some (Ob.l [D.int l, D.int m, D.int 0])] = C1 at e1 D1
  generalize C.length = N at e1 D1
  obtain ⟨v, C2, e2, v0, v1, l2, D2⟩ := roll (z := 8) D1 (by omega) (by decide) (by decide)
  obtain ⟨cs, C3, e3, hl, hv, _, l3, D3⟩ := chain_of (r := 1 + v) (mo := 5) D2 (by omega) (by omega) (by omega) (by decide) (by decide)
  obtain ⟨xs, C4, e4, hT, l4, D4⟩ := tuple_drawn hv (by omega) D3 (by omega)
  obtain ⟨C5, e5, l5, D5⟩ := growth hv hT (by omega) (by omega) D4 (by omega)
  obtain ⟨C6, e6, l6, D6⟩ := moved hv hT (by omega) (by omega) D5 (by omega)
  have e7 := turned hv hT (by omega) (by omega) C6
  have hec := ie_ch cs
  refine ⟨some (.cel N), some (chD cs), some (iT xs), C6, ?_⟩
  unfold q1_law
  generalize chD cs = CH at *
  simp only [↓xDef, ↓xSeq, ↓xDo, ↓xNext, ↓xRet, ↓xExp, ↓xIfS, ↓xAsg, ↓gN, ↓gT, ↓gsC, ↓gsN, ↓xV, ↓S.val, ↓S.bind, ↓S.opt, ↓x2, ↓x1, ↓xN, ↓xB, ↓xD, ↓xAnd, ↓xOr, ↓xNot, ↓xIf, ↓xAndV, ↓xOrV, ↓xNotV, ↓xChain, ↓aNil, ↓aCons, ↓xTup, ↓few, ↓xF, ↓xC, ↓xSetI, ↓xPar, ↓xCall, ↓xFrz, ↓xM, live, i2, dSub, dAdd, dMul, dMulA, dMod, dDiv, dLt, dLe, dGt, dGe, dIx, at10, at20, at21, at30, at31, at32, cst0, cst1, cst2, cst3, dNeg, dAbs, dInt, dLen, dMin2, dMax2, dGcd, dTuple, ↓iR1, ↓iR2, ↓iV, items, ↓iEn, items1, nocel, nocels, List.map_cons, List.map_nil, List.getElem?_cons_zero, List.getElem?_cons_succ, List.getElem?_nil, List.set_cons_zero, List.set_cons_succ, List.length_cons, List.length_nil, List.replicate, List.cons_append, List.nil_append, Nat.reduceAdd, Nat.reduceSub, Bool.false_eq_true, if_true, if_false, Option.map_some, Option.bind_some, Option.bind_none, Bool.and_true, Bool.and_false, Bool.true_and, Bool.not_true, Bool.not_false, decide_true, decide_false, vw_n, vw_b, vw_i, vw_s, vw_u, vw_l, vw_o, ie_n, ie_b, ie_i, ie_s, ie_u, ie_l, ie_c, x10, x20, x21, x30, x31, x32, fin_b, fin_i, eq_ii, ne_ii, List.take_length, vw_k, ie_k, id_eq, Nat.reduceLeDiff, ↓xSl, ↓xAugI, ↓oE, ↓oNo, ↓xLs, ↓xExt, ↓iZp, hec, e1, e2, e3, e4, e5, e6, e7]
theorem law_true : ∀ ns : List Int, ns.length ≤ 63 → m_law [.lst (ns.map D.int)] [] = some (.ok (.bl true) []) := by
  intro ns _
  obtain ⟨la, hla⟩ : ∃ x : Int, ((ns.map D.int).length : Int) = x := ⟨_, rfl⟩
  obtain ⟨u, hu⟩ : ∃ x : Int, (if 5 < la then 5 else la) = x := ⟨_, rfl⟩
  obtain ⟨z, hz⟩ : ∃ x : Int, (if u > 1 then u else 1) = x := ⟨_, rfl⟩
  have hz0 : 0 ≤ z ∧ z ≤ 5 := by
    have : 0 ≤ la := by omega
    split at hu <;> split at hz <;> omega
  obtain ⟨e2, C2, hl, ⟨t1, t2, t3, t4, rfl⟩⟩ := lp_inv (t := gN 1) (b := q1_law) (fun j e C' => ∃ t1 t2 t3 t4 : Option D, e = [some (.lst (ns.map D.int)), t1, t2, t3, t4]) (zs 0 z.toNat) 0 [some (.lst (ns.map D.int)), none, none, none, none] [] ⟨none, none, none, none, rfl⟩ fun d hd j e C1 hj ⟨t1, t2, t3, t4, he⟩ => by
    subst he
    obtain ⟨i, hi, rfl⟩ := zs_mem hd
    have b1 : (0 : Int) + (i : Nat) ≤ 5 := by omega
    have b0 : (0 : Int) ≤ 0 + (i : Nat) := by omega
    generalize ((0 : Int) + (i : Nat)) = I at b0 b1 ⊢
    obtain ⟨y2, y3, y4, C', h⟩ := at_turn (ns := ns) b0 b1 C1 t2 t3 t4
    exact ⟨_, rfl, _, C', h, _, _, _, _, rfl⟩
  have hq : q2_law [some (.lst (ns.map D.int)), none, none, none, none] [] = some (.nx [some (.lst (ns.map D.int)), t1, t2, t3, t4] C2) := by
    unfold q2_law
    rw [xFor_ok (ds := zs 0 z.toNat) (g := gd0) (C1 := [])]
    · exact hl
    · generalize ns.map D.int = LL at hla ⊢
      simp only [↓xDef, ↓xSeq, ↓xDo, ↓xNext, ↓xRet, ↓xExp, ↓xIfS, ↓xAsg, ↓gN, ↓gT, ↓gsC, ↓gsN, ↓xV, ↓S.val, ↓S.bind, ↓S.opt, ↓x2, ↓x1, ↓xN, ↓xB, ↓xD, ↓xAnd, ↓xOr, ↓xNot, ↓xIf, ↓xAndV, ↓xOrV, ↓xNotV, ↓xChain, ↓aNil, ↓aCons, ↓xTup, ↓few, ↓xF, ↓xC, ↓xSetI, ↓xPar, ↓xCall, ↓xFrz, ↓xM, live, i2, dSub, dAdd, dMul, dMulA, dMod, dDiv, dLt, dLe, dGt, dGe, dIx, atI, dNeg, dAbs, dInt, dLen, dMin2, dMax2, dGcd, dTuple, ↓iR1, ↓iR2, ↓iV, items, ↓iEn, items1, nocel, nocels, List.map_cons, List.map_nil, List.getElem?_cons_zero, List.getElem?_cons_succ, List.getElem?_nil, List.set_cons_zero, List.set_cons_succ, List.length_cons, List.length_nil, List.replicate, List.cons_append, List.nil_append, Nat.reduceAdd, Nat.reduceSub, Bool.false_eq_true, if_true, if_false, Option.map_some, Option.bind_some, Option.bind_none, Bool.and_true, Bool.and_false, Bool.true_and, Bool.not_true, Bool.not_false, decide_true, decide_false, vw_n, vw_b, vw_i, vw_s, vw_u, vw_l, vw_o, ie_n, ie_b, ie_i, ie_s, ie_u, ie_l, ie_c, x10, x20, x21, x30, x31, x32, fin_b, fin_i, eq_ii, ne_ii, List.take_length, vw_k, ie_k, id_eq, Nat.reduceLeDiff, ↓xSl, ↓xAugI, ↓oE, ↓oNo, ↓xLs, ↓xExt, ↓iZp, hla, hu, hz, rng1_ok hz0.1 (show z ≤ 1000000 by omega)]
  generalize ns.map D.int = LL at hq ⊢
  unfold m_law b_law
  simp only [↓xDef, ↓xSeq, ↓xDo, ↓xNext, ↓xRet, ↓xExp, ↓xIfS, ↓xAsg, ↓gN, ↓gT, ↓gsC, ↓gsN, ↓xV, ↓S.val, ↓S.bind, ↓S.opt, ↓x2, ↓x1, ↓xN, ↓xB, ↓xD, ↓xAnd, ↓xOr, ↓xNot, ↓xIf, ↓xAndV, ↓xOrV, ↓xNotV, ↓xChain, ↓aNil, ↓aCons, ↓xTup, ↓few, ↓xF, ↓xC, ↓xSetI, ↓xPar, ↓xCall, ↓xFrz, ↓xM, live, i2, dSub, dAdd, dMul, dMulA, dMod, dDiv, dLt, dLe, dGt, dGe, dIx, atI, dNeg, dAbs, dInt, dLen, dMin2, dMax2, dGcd, dTuple, ↓iR1, ↓iR2, ↓iV, items, ↓iEn, items1, nocel, nocels, List.map_cons, List.map_nil, List.getElem?_cons_zero, List.getElem?_cons_succ, List.getElem?_nil, List.set_cons_zero, List.set_cons_succ, List.length_cons, List.length_nil, List.replicate, List.cons_append, List.nil_append, Nat.reduceAdd, Nat.reduceSub, Bool.false_eq_true, if_true, if_false, Option.map_some, Option.bind_some, Option.bind_none, Bool.and_true, Bool.and_false, Bool.true_and, Bool.not_true, Bool.not_false, decide_true, decide_false, vw_n, vw_b, vw_i, vw_s, vw_u, vw_l, vw_o, ie_n, ie_b, ie_i, ie_s, ie_u, ie_l, ie_c, x10, x20, x21, x30, x31, x32, fin_b, fin_i, eq_ii, ne_ii, List.take_length, vw_k, ie_k, id_eq, Nat.reduceLeDiff, ↓xSl, ↓xAugI, ↓oE, ↓oNo, ↓xLs, ↓xExt, ↓iZp, hq, fin, nocel, List.take_zero]
end Sk15
end
section
set_option maxRecDepth 100000
open PySem PySem.W PyProof.Rows
set_option maxRecDepth 100000 in
set_option maxHeartbeats 0 in
theorem PySem.Challenge.cw_ringstairs_k15_whole_greatest_heaps_and_holds : PySem.Challenge.rw_ringstairs_k15_whole_greatest_heaps_and.Holds := by
  w_on; o_law; k_head; (case hw => w_witness2)
  k_fill
  refine L2.walk_of (l := PySem.Challenge.rw_ringstairs_k15_whole_greatest_heaps_and) (n := 63) (k := 8) (x := "_law_script") (CX := fun w => L2.CX PySem.Challenge.pw_ringstairs_k15_whole_greatest_heaps_and w) (sp := fun w => Sm.spLaw _) rfl (by decide) rfl ⟨rfl, by decide, by decide⟩ (fun w h Y => PySem.W.kIn_of Y) ?F (fun _ _ a ns hl _ hS => ⟨a, ns, rfl, hS, hl, fun _ => rfl⟩) (fun _ H s e s' => Sm.cx_none H s e s')
  case F =>
    intro w mg fa h KX G hmg
    refine' Sk15.all_mk KX G hmg ?a__law_dice ?l__law_dice ?d__law_dice ?e__law_dice ?a__law_roll ?l__law_roll ?d__law_roll ?e__law_roll ?a__law_ring ?l__law_ring ?d__law_ring ?e__law_ring ?a__law_one_of ?l__law_one_of ?d__law_one_of ?e__law_one_of ?a__law_common ?l__law_common ?d__law_common ?e__law_common ?a__law_ring_of ?l__law_ring_of ?d__law_ring_of ?e__law_ring_of ?a__law_chain ?l__law_chain ?d__law_chain ?e__law_chain ?a__law_tuple ?l__law_tuple ?d__law_tuple ?e__law_tuple ?a_holds_in ?l_holds_in ?d_holds_in ?e_holds_in ?a_is_whole ?l_is_whole ?d_is_whole ?e_is_whole ?a_is_within ?l_is_within ?d_is_within ?e_is_within ?a_is_heap_in ?l_is_heap_in ?d_is_heap_in ?e_is_heap_in ?a_require_heap ?l_require_heap ?d_require_heap ?e_require_heap ?a_require_two_heaps ?l_require_two_heaps ?d_require_two_heaps ?e_require_two_heaps ?a_is_held ?l_is_held ?d_is_held ?e_is_held ?a_common_in ?l_common_in ?d_common_in ?e_common_in ?a_common_of ?l_common_of ?d_common_of ?e_common_of ?a_is_ring_in ?l_is_ring_in ?d_is_ring_in ?e_is_ring_in ?a_addable_columns ?l_addable_columns ?d_addable_columns ?e_addable_columns ?a_risen ?l_risen ?d_risen ?e_risen ?a_grown_in ?l_grown_in ?d_grown_in ?e_grown_in ?a_require_small_sides ?l_require_small_sides ?d_require_small_sides ?e_require_small_sides ?a_grown ?l_grown ?d_grown ?e_grown ?a_is_chain_in ?l_is_chain_in ?d_is_chain_in ?e_is_chain_in ?a_require_chain ?l_require_chain ?d_require_chain ?e_require_chain ?a_is_tuple_in ?l_is_tuple_in ?d_is_tuple_in ?e_is_tuple_in ?a_require_tuple ?l_require_tuple ?d_require_tuple ?e_require_tuple ?a_heaps_in ?l_heaps_in ?d_heaps_in ?e_heaps_in ?a_heap_in ?l_heap_in ?d_heap_in ?e_heap_in ?a_heap_of ?l_heap_of ?d_heap_of ?e_heap_of ?a__law_grown ?l__law_grown ?d__law_grown ?e__law_grown ?a__law_heap ?l__law_heap ?d__law_heap ?e__law_heap ?a__law_some_added ?l__law_some_added ?d__law_some_added ?e__law_some_added ?a__law_held ?l__law_held ?d__law_held ?e__law_held ?a__law_meet_of ?l__law_meet_of ?d__law_meet_of ?e__law_meet_of ?a__law_growth_right ?l__law_growth_right ?d__law_growth_right ?e__law_growth_right ?a_is_integer ?l_is_integer ?d_is_integer ?e_is_integer ?a_require_integer ?l_require_integer ?d_require_integer ?e_require_integer ?a_moved_ends_in ?l_moved_ends_in ?d_moved_ends_in ?e_moved_ends_in ?a_require_short_class ?l_require_short_class ?d_require_short_class ?e_require_short_class ?a_is_class_in ?l_is_class_in ?d_is_class_in ?e_is_class_in ?a_require_class ?l_require_class ?d_require_class ?e_require_class ?a_class_with_ends ?l_class_with_ends ?d_class_with_ends ?e_class_with_ends ?a__law_moved_right ?l__law_moved_right ?d__law_moved_right ?e__law_moved_right ?a_flipped_in ?l_flipped_in ?d_flipped_in ?e_flipped_in ?a_turned_over ?l_turned_over ?d_turned_over ?e_turned_over ?a__law_turned_right ?l__law_turned_right ?d__law_turned_right ?e__law_turned_right ?a_law ?l_law ?d_law ?e_law ?z_abs ?z_all ?z_bool ?z_enumerate ?z_int ?z_isinstance ?z_len ?z_list ?z_max ?z_min ?z_range ?z_tuple ?z_zip ?z_MOST_PLACES ?z_MOST_RINGS ?z_MOST_SIDE ?z_SIXTY_DIGITS Sk15.law_true
    (case a__law_dice => first | k_is | rfl | decide)
    (case l__law_dice => first | k_is | rfl | decide)
    (case d__law_dice => first | k_is | rfl | decide)
    (case e__law_dice => first | k_is | rfl | decide)
    (case a__law_roll => first | k_is | rfl | decide)
    (case l__law_roll => first | k_is | rfl | decide)
    (case d__law_roll => first | k_is | rfl | decide)
    (case e__law_roll => first | k_is | rfl | decide)
    (case a__law_ring => first | k_is | rfl | decide)
    (case l__law_ring => first | k_is | rfl | decide)
    (case d__law_ring => first | k_is | rfl | decide)
    (case e__law_ring => first | k_is | rfl | decide)
    (case a__law_one_of => first | k_is | rfl | decide)
    (case l__law_one_of => first | k_is | rfl | decide)
    (case d__law_one_of => first | k_is | rfl | decide)
    (case e__law_one_of => first | k_is | rfl | decide)
    (case a__law_common => first | k_is | rfl | decide)
    (case l__law_common => first | k_is | rfl | decide)
    (case d__law_common => first | k_is | rfl | decide)
    (case e__law_common => first | k_is | rfl | decide)
    (case a__law_ring_of => first | k_is | rfl | decide)
    (case l__law_ring_of => first | k_is | rfl | decide)
    (case d__law_ring_of => first | k_is | rfl | decide)
    (case e__law_ring_of => first | k_is | rfl | decide)
    (case a__law_chain => first | k_is | rfl | decide)
    (case l__law_chain => first | k_is | rfl | decide)
    (case d__law_chain => first | k_is | rfl | decide)
    (case e__law_chain => first | k_is | rfl | decide)
    (case a__law_tuple => first | k_is | rfl | decide)
    (case l__law_tuple => first | k_is | rfl | decide)
    (case d__law_tuple => first | k_is | rfl | decide)
    (case e__law_tuple => first | k_is | rfl | decide)
    (case a_holds_in => first | k_is | rfl | decide)
    (case l_holds_in => first | k_is | rfl | decide)
    (case d_holds_in => first | k_is | rfl | decide)
    (case e_holds_in => first | k_is | rfl | decide)
    (case a_is_whole => first | k_is | rfl | decide)
    (case l_is_whole => first | k_is | rfl | decide)
    (case d_is_whole => first | k_is | rfl | decide)
    (case e_is_whole => first | k_is | rfl | decide)
    (case a_is_within => first | k_is | rfl | decide)
    (case l_is_within => first | k_is | rfl | decide)
    (case d_is_within => first | k_is | rfl | decide)
    (case e_is_within => first | k_is | rfl | decide)
    (case a_is_heap_in => first | k_is | rfl | decide)
    (case l_is_heap_in => first | k_is | rfl | decide)
    (case d_is_heap_in => first | k_is | rfl | decide)
    (case e_is_heap_in => first | k_is | rfl | decide)
    (case a_require_heap => first | k_is | rfl | decide)
    (case l_require_heap => first | k_is | rfl | decide)
    (case d_require_heap => first | k_is | rfl | decide)
    (case e_require_heap => first | k_is | rfl | decide)
    (case a_require_two_heaps => first | k_is | rfl | decide)
    (case l_require_two_heaps => first | k_is | rfl | decide)
    (case d_require_two_heaps => first | k_is | rfl | decide)
    (case e_require_two_heaps => first | k_is | rfl | decide)
    (case a_is_held => first | k_is | rfl | decide)
    (case l_is_held => first | k_is | rfl | decide)
    (case d_is_held => first | k_is | rfl | decide)
    (case e_is_held => first | k_is | rfl | decide)
    (case a_common_in => first | k_is | rfl | decide)
    (case l_common_in => first | k_is | rfl | decide)
    (case d_common_in => first | k_is | rfl | decide)
    (case e_common_in => first | k_is | rfl | decide)
    (case a_common_of => first | k_is | rfl | decide)
    (case l_common_of => first | k_is | rfl | decide)
    (case d_common_of => first | k_is | rfl | decide)
    (case e_common_of => first | k_is | rfl | decide)
    (case a_is_ring_in => first | k_is | rfl | decide)
    (case l_is_ring_in => first | k_is | rfl | decide)
    (case d_is_ring_in => first | k_is | rfl | decide)
    (case e_is_ring_in => first | k_is | rfl | decide)
    (case a_addable_columns => first | k_is | rfl | decide)
    (case l_addable_columns => first | k_is | rfl | decide)
    (case d_addable_columns => first | k_is | rfl | decide)
    (case e_addable_columns => first | k_is | rfl | decide)
    (case a_risen => first | k_is | rfl | decide)
    (case l_risen => first | k_is | rfl | decide)
    (case d_risen => first | k_is | rfl | decide)
    (case e_risen => first | k_is | rfl | decide)
    (case a_grown_in => first | k_is | rfl | decide)
    (case l_grown_in => first | k_is | rfl | decide)
    (case d_grown_in => first | k_is | rfl | decide)
    (case e_grown_in => first | k_is | rfl | decide)
    (case a_require_small_sides => first | k_is | rfl | decide)
    (case l_require_small_sides => first | k_is | rfl | decide)
    (case d_require_small_sides => first | k_is | rfl | decide)
    (case e_require_small_sides => first | k_is | rfl | decide)
    (case a_grown => first | k_is | rfl | decide)
    (case l_grown => first | k_is | rfl | decide)
    (case d_grown => first | k_is | rfl | decide)
    (case e_grown => first | k_is | rfl | decide)
    (case a_is_chain_in => first | k_is | rfl | decide)
    (case l_is_chain_in => first | k_is | rfl | decide)
    (case d_is_chain_in => first | k_is | rfl | decide)
    (case e_is_chain_in => first | k_is | rfl | decide)
    (case a_require_chain => first | k_is | rfl | decide)
    (case l_require_chain => first | k_is | rfl | decide)
    (case d_require_chain => first | k_is | rfl | decide)
    (case e_require_chain => first | k_is | rfl | decide)
    (case a_is_tuple_in => first | k_is | rfl | decide)
    (case l_is_tuple_in => first | k_is | rfl | decide)
    (case d_is_tuple_in => first | k_is | rfl | decide)
    (case e_is_tuple_in => first | k_is | rfl | decide)
    (case a_require_tuple => first | k_is | rfl | decide)
    (case l_require_tuple => first | k_is | rfl | decide)
    (case d_require_tuple => first | k_is | rfl | decide)
    (case e_require_tuple => first | k_is | rfl | decide)
    (case a_heaps_in => first | k_is | rfl | decide)
    (case l_heaps_in => first | k_is | rfl | decide)
    (case d_heaps_in => first | k_is | rfl | decide)
    (case e_heaps_in => first | k_is | rfl | decide)
    (case a_heap_in => first | k_is | rfl | decide)
    (case l_heap_in => first | k_is | rfl | decide)
    (case d_heap_in => first | k_is | rfl | decide)
    (case e_heap_in => first | k_is | rfl | decide)
    (case a_heap_of => first | k_is | rfl | decide)
    (case l_heap_of => first | k_is | rfl | decide)
    (case d_heap_of => first | k_is | rfl | decide)
    (case e_heap_of => first | k_is | rfl | decide)
    (case a__law_grown => first | k_is | rfl | decide)
    (case l__law_grown => first | k_is | rfl | decide)
    (case d__law_grown => first | k_is | rfl | decide)
    (case e__law_grown => first | k_is | rfl | decide)
    (case a__law_heap => first | k_is | rfl | decide)
    (case l__law_heap => first | k_is | rfl | decide)
    (case d__law_heap => first | k_is | rfl | decide)
    (case e__law_heap => first | k_is | rfl | decide)
    (case a__law_some_added => first | k_is | rfl | decide)
    (case l__law_some_added => first | k_is | rfl | decide)
    (case d__law_some_added => first | k_is | rfl | decide)
    (case e__law_some_added => first | k_is | rfl | decide)
    (case a__law_held => first | k_is | rfl | decide)
    (case l__law_held => first | k_is | rfl | decide)
    (case d__law_held => first | k_is | rfl | decide)
    (case e__law_held => first | k_is | rfl | decide)
    (case a__law_meet_of => first | k_is | rfl | decide)
    (case l__law_meet_of => first | k_is | rfl | decide)
    (case d__law_meet_of => first | k_is | rfl | decide)
    (case e__law_meet_of => first | k_is | rfl | decide)
    (case a__law_growth_right => first | k_is | rfl | decide)
    (case l__law_growth_right => first | k_is | rfl | decide)
    (case d__law_growth_right => first | k_is | rfl | decide)
    (case e__law_growth_right => first | k_is | rfl | decide)
    (case a_is_integer => first | k_is | rfl | decide)
    (case l_is_integer => first | k_is | rfl | decide)
    (case d_is_integer => first | k_is | rfl | decide)
    (case e_is_integer => first | k_is | rfl | decide)
    (case a_require_integer => first | k_is | rfl | decide)
    (case l_require_integer => first | k_is | rfl | decide)
    (case d_require_integer => first | k_is | rfl | decide)
    (case e_require_integer => first | k_is | rfl | decide)
    (case a_moved_ends_in => first | k_is | rfl | decide)
    (case l_moved_ends_in => first | k_is | rfl | decide)
    (case d_moved_ends_in => first | k_is | rfl | decide)
    (case e_moved_ends_in => first | k_is | rfl | decide)
    (case a_require_short_class => first | k_is | rfl | decide)
    (case l_require_short_class => first | k_is | rfl | decide)
    (case d_require_short_class => first | k_is | rfl | decide)
    (case e_require_short_class => first | k_is | rfl | decide)
    (case a_is_class_in => first | k_is | rfl | decide)
    (case l_is_class_in => first | k_is | rfl | decide)
    (case d_is_class_in => first | k_is | rfl | decide)
    (case e_is_class_in => first | k_is | rfl | decide)
    (case a_require_class => first | k_is | rfl | decide)
    (case l_require_class => first | k_is | rfl | decide)
    (case d_require_class => first | k_is | rfl | decide)
    (case e_require_class => first | k_is | rfl | decide)
    (case a_class_with_ends => first | k_is | rfl | decide)
    (case l_class_with_ends => first | k_is | rfl | decide)
    (case d_class_with_ends => first | k_is | rfl | decide)
    (case e_class_with_ends => first | k_is | rfl | decide)
    (case a__law_moved_right => first | k_is | rfl | decide)
    (case l__law_moved_right => first | k_is | rfl | decide)
    (case d__law_moved_right => first | k_is | rfl | decide)
    (case e__law_moved_right => first | k_is | rfl | decide)
    (case a_flipped_in => first | k_is | rfl | decide)
    (case l_flipped_in => first | k_is | rfl | decide)
    (case d_flipped_in => first | k_is | rfl | decide)
    (case e_flipped_in => first | k_is | rfl | decide)
    (case a_turned_over => first | k_is | rfl | decide)
    (case l_turned_over => first | k_is | rfl | decide)
    (case d_turned_over => first | k_is | rfl | decide)
    (case e_turned_over => first | k_is | rfl | decide)
    (case a__law_turned_right => first | k_is | rfl | decide)
    (case l__law_turned_right => first | k_is | rfl | decide)
    (case d__law_turned_right => first | k_is | rfl | decide)
    (case e__law_turned_right => first | k_is | rfl | decide)
    (case a_law => first | k_is | rfl | decide)
    (case l_law => first | k_is | rfl | decide)
    (case d_law => first | k_is | rfl | decide)
    (case e_law => first | k_is | rfl | decide)
    (case z_abs => first | k_is | rfl | decide)
    (case z_all => first | k_is | rfl | decide)
    (case z_bool => first | k_is | rfl | decide)
    (case z_enumerate => first | k_is | rfl | decide)
    (case z_int => first | k_is | rfl | decide)
    (case z_isinstance => first | k_is | rfl | decide)
    (case z_len => first | k_is | rfl | decide)
    (case z_list => first | k_is | rfl | decide)
    (case z_max => first | k_is | rfl | decide)
    (case z_min => first | k_is | rfl | decide)
    (case z_range => first | k_is | rfl | decide)
    (case z_tuple => first | k_is | rfl | decide)
    (case z_zip => first | k_is | rfl | decide)
    (case z_MOST_PLACES => first | k_is | rfl | decide)
    (case z_MOST_RINGS => first | k_is | rfl | decide)
    (case z_MOST_SIDE => first | k_is | rfl | decide)
    (case z_SIXTY_DIGITS => first | k_is | rfl | decide)
end
