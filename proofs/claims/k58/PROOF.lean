import PyProof.Rows.All
import Wide.All
import OpenK.AllK
import Wide.FinOn
import HandS.ForMost
import HandS.Exc
import HandS.TryOnly
import HandS.TryMany
import HandS.ExcOwn
import HandS.WordsExc
import HandS.Wide
import HandS.Conv
import HandS.IsInst
import HandS.Zip
import HandS.TupAny
import HandS.Lambda
import KE.KExcSuper
import HandS.TupMul
import HandS.Gcd
import HandS.TupLe
import HandS.ExcField
import KE.GoesMore
import HandS.Deep
import HandS.Style
import HandS.Star
import HandS.SortKw
import KE.DatumOrd
import KE.Datum
import KE.KTupSum
import KE.GoesNew
import HandS.DictTup
import HandS.DictComp
import KE.KDictCopyH
import KE.SortData
import KE.KDictPairs
import KE.KDictKeyed
import KE.KDictOf
import HandS.EndTab
import KE.KNest
import PyProof.ReprRoads
import HandS.RaiseMore
import HandS.CallLocal
import KE.KDictDisplayH
import KE.KMathGC
import PyProof.ExcBaseAll.OverflowError
import PyProof.ExcBaseAll.IndexError
import PySem.Challenge.RW_ringstairs_k58_errors_of_counts
set_option Elab.async false
set_option linter.all false
section
set_option maxRecDepth 100000
set_option maxHeartbeats 0

namespace Sm
open PySem L2

/-- plain data of a program; cel n: the n-th changing list of the state -/
inductive D where
  | non | bl (b : Bool) | int (i : Int) | str (x : Str)
  | tup (ds : List D) | lst (ds : List D)
  | cel (n : Nat) | opq (v : V)
  | err (c f : Str) (d : D)
  | fn (x : Str)
  | dk (ks : List Key) (ds : List D) | dt (ks : List (List Key)) (ds : List D)
  deriving Inhabited

inductive Ob where
  | l (ds : List D)
  | t (ks : List (List Key)) (ds : List D)

abbrev Cells := List (Option Ob)
/-- a dict's key as data -/
def kD : Key → D
  | .inl i => .int i
  | .inr x => .str x
def kT (k : List Key) : D := .tup (k.map kD)
abbrev Env := List (Option D)

variable {K : PySem.W.Frag} {mg : Str → Option Value}
/-- the tables of code objects of a law, with the name that their code objects bear -/
class Tabs0 where
  T : List (Addr × Str)
instance (priority := low) tabs_none : Tabs0 := ⟨[]⟩
/-- a table whose code objects are known to stay -/
def TabR (Hf H : Hp) (P : Addr) (q : Str) : Prop := ∃ ps : Array Value, H P = some (.tbl ps) ∧ TriplesOk ps.toList ∧ ∀ (pos : Pos) (cv : Value), codeAmong pos ps.toList = some cv → ∃ c, cv = .ref c ∧ Hf c = some (LamX.CodeO c q)
theorem TabR.mono {Hf Hf' H H' : Hp} {P : Addr} {q : Str} (h : TabR Hf H P q) (e : ∀ b o, Hf b = some o → Hf' b = some o) (k : ∀ o, H P = some o → (∃ ps, o = .tbl ps) → H' P = some o) : TabR Hf' H' P q := by
  obtain ⟨ps, h1, h2, h3⟩ := h
  refine ⟨ps, k _ h1 ⟨ps, rfl⟩, h2, fun pos cv hc => ?_⟩
  obtain ⟨c, e1, e2⟩ := h3 pos cv hc
  exact ⟨c, e1, e _ _ e2⟩
theorem TabR.ne {Hf H : Hp} {P p : Addr} {q : Str} (h : TabR Hf H P q) (hp : H p = none) : P ≠ p := fun e => by
  obtain ⟨ps, h1, _⟩ := h
  rw [e, hp] at h1
  cases h1
theorem TabR.ne2 {Hf H : Hp} {P p : Addr} {q : Str} {o : HO} (h : TabR Hf H P q) (hp : H p = some o) (ho : ∀ ps, o ≠ .tbl ps) : P ≠ p := fun e => by
  obtain ⟨ps, h1, _⟩ := h
  rw [e, hp] at h1
  exact ho ps (Option.some.inj h1)
variable [Tabs0]

mutual
inductive Dat (K : PySem.W.Frag) (H : Hp) (ρ : List Addr) : V → D → Prop
  | non : Dat K H ρ .non .non
  | bl (b : Bool) : Dat K H ρ (.bl b) (.bl b)
  | int (i : Int) : Dat K H ρ (.int i) (.int i)
  | str (x : Str) : Dat K H ρ (.str x) (.str x)
  | tup {a : Addr} {xs : List V} {ds : List D} (h : H a = some (.tup xs)) (hs : Dats K H ρ xs ds) : Dat K H ρ (.ref a) (.tup ds)
  | lst {a : Addr} {xs : List V} {ds : List D} (h : SqL K H a xs) (hs : Dats K H ρ xs ds) : Dat K H ρ (.ref a) (.lst ds)
  | cel {n : Nat} {a : Addr} (h : ρ[n]? = some a) : Dat K H ρ (.ref a) (.cel n)
  | opq (v : V) : Dat K H ρ v (.opq v)
  | fn {x : Str} {a : Addr} (h : PySem.W.nsIn K mainGlobals x = some (some (.ref a))) : Dat K H ρ (.ref a) (.fn x)
  | dk {a : Addr} {ks : List Key} {xs : List V} {ds : List D} (h : ∃ o, H a = some (.frz o (.dK (ks.zip xs)))) (hl : ks.length = xs.length) (hs : Dats K H ρ xs ds) : Dat K H ρ (.ref a) (.dk ks ds)
  | dt {a : Addr} {ks : List (List Key)} {xs : List V} {ds : List D} (h : ∃ o, H a = some (.frz o (.dT (ks.zip xs)))) (hl : ks.length = xs.length) (hs : Dats K H ρ xs ds) : Dat K H ρ (.ref a) (.dt ks ds)
inductive Dats (K : PySem.W.Frag) (H : Hp) (ρ : List Addr) : List V → List D → Prop
  | nil : Dats K H ρ [] []
  | cons {v : V} {vs : List V} {d : D} {ds : List D} (h : Dat K H ρ v d) (hs : Dats K H ρ vs ds) : Dats K H ρ (v :: vs) (d :: ds)
end

theorem pre_get {ρ ρ' : List Addr} {n : Nat} {a : Addr} (p : ρ <+: ρ') (h : ρ[n]? = some a) : ρ'[n]? = some a := by
  obtain ⟨t, rfl⟩ := p
  have hn : n < ρ.length := (List.getElem?_eq_some_iff.mp h).1
  rw [List.getElem?_append_left hn]
  exact h

theorem same_rd {H H' : Hp} {a : Addr} {u : HO} (e : Same H H') (h : Rd H a u) : Rd H' a u := by
  rcases h with h | ⟨o, h⟩
  · exact .inl (e a _ h)
  · exact .inr ⟨o, e a _ h⟩
theorem same_l {H H' : Hp} {a : Addr} {xs : List V} (e : Same H H') (h : SqL K H a xs) : SqL K H' a xs := by
  rcases h with h | h
  · exact .inl (same_rd e h)
  · exact .inr h
theorem same_t {H H' : Hp} {a : Addr} {xs : List V} (e : Same H H') (h : SqT K H a xs) : SqT K H' a xs := by
  rcases h with h | h
  · exact .inl (same_rd e h)
  · exact .inr h

mutual
theorem Dat.mono {H H' : Hp} {ρ ρ' : List Addr} (e : Same H H') (p : ρ <+: ρ') {v : V} {d : D} (q : Dat K H ρ v d) : Dat K H' ρ' v d :=
  match q with
  | .non => .non
  | .bl b => .bl b
  | .int i => .int i
  | .str x => .str x
  | .tup h hs => .tup (e _ _ h) (Dats.mono e p hs)
  | .lst h hs => .lst (same_l e h) (Dats.mono e p hs)
  | .cel h => .cel (pre_get p h)
  | .opq v => .opq v
  | .fn h => .fn h
  | .dk ⟨o, h⟩ hl hs => .dk ⟨o, e _ _ h⟩ hl (Dats.mono e p hs)
  | .dt ⟨o, h⟩ hl hs => .dt ⟨o, e _ _ h⟩ hl (Dats.mono e p hs)
theorem Dats.mono {H H' : Hp} {ρ ρ' : List Addr} (e : Same H H') (p : ρ <+: ρ') {vs : List V} {ds : List D} (q : Dats K H ρ vs ds) : Dats K H' ρ' vs ds :=
  match q with
  | .nil => .nil
  | .cons h hs => .cons (Dat.mono e p h) (Dats.mono e p hs)
end

theorem Dat.kV {H : Hp} {ρ : List Addr} : ∀ k : Key, Dat K H ρ (L2.kV k) (kD k)
  | .inl i => .int i
  | .inr x => .str x
theorem Dats.kVs {H : Hp} {ρ : List Addr} : ∀ k : List Key, Dats K H ρ (k.map L2.kV) (k.map kD)
  | [] => .nil
  | x :: k => .cons (Dat.kV x) (Dats.kVs k)
theorem Dats.len {H : Hp} {ρ : List Addr} : ∀ {vs : List V} {ds : List D}, Dats K H ρ vs ds → vs.length = ds.length
  | _, _, .nil => rfl
  | _, _, .cons _ hs => by rw [List.length_cons, List.length_cons, Dats.len hs]
theorem Dats.get {H : Hp} {ρ : List Addr} : ∀ {vs : List V} {ds : List D} {i : Nat} {d : D}, Dats K H ρ vs ds → ds[i]? = some d → ∃ v, vs[i]? = some v ∧ Dat K H ρ v d
  | _, _, _, _, .nil, h => by simp at h
  | _, _, 0, _, .cons h _, e => by
    have e' := Option.some.inj e
    subst e'
    exact ⟨_, rfl, h⟩
  | _, _, i + 1, _, .cons _ hs, e => by
    obtain ⟨v, h1, h2⟩ := Dats.get (i := i) hs (by simpa using e)
    exact ⟨v, by simpa using h1, h2⟩
theorem Dats.getV {H : Hp} {ρ : List Addr} : ∀ {vs : List V} {ds : List D} {i : Nat} {v : V}, Dats K H ρ vs ds → vs[i]? = some v → ∃ d, ds[i]? = some d ∧ Dat K H ρ v d
  | _, _, _, _, .nil, h => by simp at h
  | _, _, 0, _, .cons h _, e => by
    have e' := Option.some.inj e
    subst e'
    exact ⟨_, rfl, h⟩
  | _, _, i + 1, _, .cons _ hs, e => by
    obtain ⟨v, h1, h2⟩ := Dats.getV (i := i) hs (by simpa using e)
    exact ⟨v, by simpa using h1, h2⟩
theorem Dats.app {H : Hp} {ρ : List Addr} : ∀ {vs : List V} {ds : List D} {ws : List V} {es : List D}, Dats K H ρ vs ds → Dats K H ρ ws es → Dats K H ρ (vs ++ ws) (ds ++ es)
  | _, _, _, _, .nil, k => k
  | _, _, _, _, .cons h hs, k => .cons h (Dats.app hs k)
theorem Dats.take {H : Hp} {ρ : List Addr} : ∀ {vs : List V} {ds : List D} (n : Nat), Dats K H ρ vs ds → Dats K H ρ (vs.take n) (ds.take n)
  | _, _, 0, _ => .nil
  | _, _, _ + 1, .nil => .nil
  | _, _, n + 1, .cons h hs => .cons h (Dats.take n hs)
theorem Dats.drop {H : Hp} {ρ : List Addr} : ∀ {vs : List V} {ds : List D} (n : Nat), Dats K H ρ vs ds → Dats K H ρ (vs.drop n) (ds.drop n)
  | _, _, 0, h => h
  | _, _, _ + 1, .nil => .nil
  | _, _, n + 1, .cons _ hs => Dats.drop n hs
theorem Dats.set {H : Hp} {ρ : List Addr} {v : V} {d : D} (h : Dat K H ρ v d) : ∀ {vs : List V} {ds : List D} (n : Nat), Dats K H ρ vs ds → Dats K H ρ (vs.set n v) (ds.set n d)
  | _, _, _, .nil => .nil
  | _, _, 0, .cons _ hs => .cons h hs
  | _, _, n + 1, .cons q hs => .cons q (Dats.set h n hs)
theorem Dats.erase {H : Hp} {ρ : List Addr} : ∀ {vs : List V} {ds : List D} (n : Nat), Dats K H ρ vs ds → Dats K H ρ (vs.eraseIdx n) (ds.eraseIdx n)
  | _, _, _, .nil => .nil
  | _, _, 0, .cons _ hs => hs
  | _, _, n + 1, .cons q hs => .cons q (Dats.erase n hs)

mutual
/-- no changing list within -/
def nocel : D → Bool
  | .tup ds => nocels ds
  | .lst ds => nocels ds
  | .dk _ ds => nocels ds
  | .dt _ ds => nocels ds
  | .cel _ => false
  | .err _ _ _ => false
  | _ => true
def nocels : List D → Bool
  | [] => true
  | d :: ds => nocel d && nocels ds
end
mutual
theorem Dat.bare {H : Hp} {ρ : List Addr} {v : V} {d : D} (q : Dat K H ρ v d) (n : nocel d = true) : Dat K H [] v d :=
  match q with
  | .non => .non
  | .bl b => .bl b
  | .int i => .int i
  | .str x => .str x
  | .tup h hs => .tup h (Dats.bare hs (by simpa [nocel] using n))
  | .lst h hs => .lst h (Dats.bare hs (by simpa [nocel] using n))
  | .cel h => by simp [nocel] at n
  | .opq v => .opq v
  | .fn h => .fn h
  | .dk h hl hs => .dk h hl (Dats.bare hs (by simpa [nocel] using n))
  | .dt h hl hs => .dt h hl (Dats.bare hs (by simpa [nocel] using n))
theorem Dats.bare {H : Hp} {ρ : List Addr} {vs : List V} {ds : List D} (q : Dats K H ρ vs ds) (n : nocels ds = true) : Dats K H [] vs ds :=
  match q with
  | .nil => .nil
  | .cons h hs => .cons (Dat.bare h (by simp [nocels] at n; exact n.1)) (Dats.bare hs (by simp [nocels] at n; exact n.2))
end

/-- what a live cell is in the heap: its items hold no changing list -/
inductive ObR (K : PySem.W.Frag) (Hf : Hp) : Option HO → Ob → Prop
  | l {vs : List V} {ds : List D} (h : Dats K Hf [] vs ds) : ObR K Hf (some (.lst vs)) (.l ds)
  | t {ks : List (List Key)} {vs : List V} {ds : List D} (hl : ks.length = vs.length) (h : Dats K Hf [] vs ds) : ObR K Hf (some (.dT (ks.zip vs))) (.t ks ds)

/-- what may stand both in the data and in the frame -/
def Stay : HO → Prop
  | .tup _ => True
  | .ext _ => True
  | _ => False
/-- Hf: what stays; F: the frame, which no step touches; C: what changes -/
structure SR (K : PySem.W.Frag) (Hf F : Hp) (ρ : List Addr) (C : Cells) (H : Hp) : Prop where
  ex : Same Hf H
  fr : Same F H
  ap : ∀ b o, F b = some o → Hf b = none ∨ Stay o
  len : ρ.length = C.length
  cel : ∀ (n : Nat) (a : Addr) (o : Ob), ρ[n]? = some a → C[n]? = some (some o) → (Hf a = none ∧ F a = none) ∧ ObR K Hf (H a) o
  inj : ∀ (m n : Nat) (a : Addr) (o u : Ob), ρ[m]? = some a → ρ[n]? = some a → C[m]? = some (some o) → C[n]? = some (some u) → m = n
  tab : ∀ p ∈ Tabs0.T, (Hf p.1 = none ∧ F p.1 = none) ∧ TabR Hf H p.1 p.2
  nt : ∀ b ps, Hf b ≠ some (.tbl ps) ∧ F b ≠ some (.tbl ps)

theorem ObR.mono {Hf Hf' : Hp} (e : Same Hf Hf') {ho : Option HO} {o : Ob} (h : ObR K Hf ho o) : ObR K Hf' ho o := by
  cases h with
  | l h => exact .l (h.mono e (List.prefix_refl _))
  | t hl h => exact .t hl (h.mono e (List.prefix_refl _))
theorem ObR.lst {Hf : Hp} {ho : Option HO} {ds : List D} (h : ObR K Hf ho (.l ds)) : ∃ vs, ho = some (.lst vs) ∧ Dats K Hf [] vs ds := by
  cases h with
  | l h => exact ⟨_, rfl, h⟩
theorem ObR.some {Hf : Hp} {ho : Option HO} {o : Ob} (h : ObR K Hf ho o) : ∃ u, ho = some u := by
  cases h with
  | l h => exact ⟨_, rfl⟩
  | t hl h => exact ⟨_, rfl⟩
theorem ObR.ntbl {Hf : Hp} {ho : Option HO} {o : Ob} (h : ObR K Hf ho o) : ∃ u, ho = Option.some u ∧ ∀ ps, u ≠ .tbl ps := by
  cases h with
  | l h => exact ⟨_, rfl, fun ps e => by cases e⟩
  | t hl h => exact ⟨_, rfl, fun ps e => by cases e⟩
theorem ObR.dct {Hf : Hp} {ho : Option HO} {ks : List (List Key)} {ds : List D} (h : ObR K Hf ho (.t ks ds)) : ∃ vs, ho = Option.some (.dT (ks.zip vs)) ∧ ks.length = vs.length ∧ Dats K Hf [] vs ds := by
  cases h with
  | t hl h => exact ⟨_, rfl, hl, h⟩

/-- a new object that stays as it is -/
theorem SR.new {Hf F : Hp} {ρ : List Addr} {C : Cells} {H : Hp} (S : SR K Hf F ρ C H) {p : Addr} {o : HO} (hp : H p = none) (ho : ∀ ps, o ≠ .tbl ps := by intro _ e; cases e) : SR K (upd Hf p o) F ρ C (upd H p o) ∧ Same Hf (upd Hf p o) := by
  have hf : Hf p = none := S.ex.free hp
  have e0 : Same Hf (upd Hf p o) := fun b u h => by
    rw [upd_ne (ne_of_none h hf)]
    exact h
  refine ⟨⟨fun b u h => ?_, fun b u h => ?_, fun b u h => ?_, S.len, fun n a u h1 h2 => ?_, S.inj, fun t ht => ?_, fun b ps => ⟨fun e => by
    by_cases hb : b = p
    · rw [hb, upd_same] at e
      exact ho ps (Option.some.inj e)
    · rw [upd_ne hb] at e
      exact (S.nt b ps).1 e, (S.nt b ps).2⟩⟩, e0⟩
  · by_cases hb : b = p
    · subst hb
      rw [upd_same] at h ⊢
      exact h
    · rw [upd_ne hb] at h ⊢
      exact S.ex b u h
  · rw [upd_ne (ne_of_none (S.fr b u h) hp)]
    exact S.fr b u h
  · rw [upd_ne (ne_of_none (S.fr b u h) hp)]
    exact S.ap b u h
  · obtain ⟨k1, k2⟩ := S.cel n a u h1 h2
    obtain ⟨w, hw⟩ := k2.some
    have ha : a ≠ p := ne_of_none hw hp
    rw [upd_ne ha, upd_ne ha]
    exact ⟨k1, k2.mono e0⟩
  · obtain ⟨k1, k2⟩ := S.tab t ht
    have ha : t.1 ≠ p := k2.ne hp
    rw [upd_ne ha]
    exact ⟨k1, k2.mono e0 fun o h _ => by rw [upd_ne ha]; exact h⟩
/-- a new changing list -/
theorem SR.newOb {Hf F : Hp} {ρ : List Addr} {C : Cells} {H : Hp} (S : SR K Hf F ρ C H) {p : Addr} {ho : HO} {ob : Ob} (hp : H p = none) (h : ObR K Hf (some ho) ob) :
    SR K Hf F (ρ ++ [p]) (C ++ [some ob]) (upd H p ho) := by
  have hf : Hf p = none := S.ex.free hp
  refine ⟨fun b u q => ?_, fun b u q => ?_, S.ap, by rw [List.length_append, List.length_append, S.len]; rfl, fun n a u h1 h2 => ?_, fun m n a o u h1 h2 h3 h4 => ?_, fun t ht => ⟨(S.tab t ht).1, (S.tab t ht).2.mono (fun _ _ h => h) fun o h _ => by rw [upd_ne ((S.tab t ht).2.ne hp)]; exact h⟩, S.nt⟩
  · rw [upd_ne (ne_of_none q hf)]
    exact S.ex b u q
  · rw [upd_ne (ne_of_none (S.fr b u q) hp)]
    exact S.fr b u q
  · by_cases hn : n < ρ.length
    · rw [List.getElem?_append_left hn] at h1
      rw [List.getElem?_append_left (by rw [← S.len]; exact hn)] at h2
      obtain ⟨k1, k2⟩ := S.cel n a u h1 h2
      obtain ⟨w, hw⟩ := k2.some
      rw [upd_ne (ne_of_none hw hp)]
      exact ⟨k1, k2⟩
    · have hn' := (List.getElem?_eq_some_iff.mp h1).1
      rw [List.length_append] at hn'
      have hl : ([p] : List Addr).length = 1 := rfl
      have en : n = ρ.length := by omega
      subst en
      rw [List.getElem?_append_right (Nat.le_refl _), Nat.sub_self] at h1
      have ea : p = a := Option.some.inj h1
      rw [S.len, List.getElem?_append_right (Nat.le_refl _), Nat.sub_self] at h2
      have eu : ob = u := Option.some.inj (Option.some.inj h2)
      subst ea
      subst eu
      rw [upd_same]
      exact ⟨⟨hf, S.fr.free hp⟩, h⟩
  · have old : ∀ {k : Nat} {b : Addr} {o : Ob}, k < ρ.length → (ρ ++ [p])[k]? = some b → (C ++ [some ob])[k]? = some (some o) → ρ[k]? = some b ∧ C[k]? = some (some o) ∧ b ≠ p := fun {k b o} hk g1 g2 => by
      rw [List.getElem?_append_left hk] at g1
      rw [List.getElem?_append_left (by rw [← S.len]; exact hk)] at g2
      obtain ⟨_, k2⟩ := S.cel k b o g1 g2
      obtain ⟨w, hw⟩ := k2.some
      exact ⟨g1, g2, ne_of_none hw hp⟩
    have new : ∀ {k : Nat} {b : Addr}, ¬ k < ρ.length → (ρ ++ [p])[k]? = some b → k = ρ.length ∧ p = b := fun {k b} hk g1 => by
      have hn' := (List.getElem?_eq_some_iff.mp g1).1
      rw [List.length_append] at hn'
      have hl : ([p] : List Addr).length = 1 := rfl
      have en : k = ρ.length := by omega
      subst en
      rw [List.getElem?_append_right (Nat.le_refl _), Nat.sub_self] at g1
      exact ⟨rfl, Option.some.inj g1⟩
    by_cases hm : m < ρ.length
    · obtain ⟨a1, a2, a3⟩ := old hm h1 h3
      by_cases hn : n < ρ.length
      · obtain ⟨b1, b2, b3⟩ := old hn h2 h4
        exact S.inj m n a o u a1 b1 a2 b2
      · exact absurd (new hn h2).2.symm a3
    · obtain ⟨rfl, e1⟩ := new hm h1
      by_cases hn : n < ρ.length
      · obtain ⟨b1, b2, b3⟩ := old hn h2 h4
        exact absurd e1.symm b3
      · exact (new hn h2).1.symm
theorem SR.newCel {Hf F : Hp} {ρ : List Addr} {C : Cells} {H : Hp} (S : SR K Hf F ρ C H) {p : Addr} {vs : List V} {ds : List D} (hp : H p = none) (h : Dats K Hf [] vs ds) :
    SR K Hf F (ρ ++ [p]) (C ++ [some (.l ds)]) (upd H p (.lst vs)) := S.newOb hp (.l h)
/-- a changing list is changed -/
theorem SR.setOb {Hf F : Hp} {ρ : List Addr} {C : Cells} {H : Hp} (S : SR K Hf F ρ C H) {n : Nat} {a : Addr} {o ob : Ob} {ho : HO} (hn : ρ[n]? = some a) (hc : C[n]? = some (some o)) (h : ObR K Hf (some ho) ob) :
    SR K Hf F ρ (C.set n (some ob)) (upd H a ho) := by
  have hf := (S.cel n a o hn hc).1
  have hl : n < C.length := (List.getElem?_eq_some_iff.mp hc).1
  have live : ∀ {m : Nat} {u : Ob}, (C.set n (some ob))[m]? = some (some u) → ∃ u', C[m]? = some (some u') := fun {m u} g => by
    by_cases hm : n = m
    · exact ⟨o, by rw [← hm]; exact hc⟩
    · rw [List.getElem?_set_ne hm] at g
      exact ⟨u, g⟩
  refine ⟨fun b u q => ?_, fun b u q => ?_, S.ap, by rw [List.length_set]; exact S.len, fun m b u h1 h2 => ?_, fun i j b u w h1 h2 h3 h4 => ?_, fun t ht => ⟨(S.tab t ht).1, (S.tab t ht).2.mono (fun _ _ h => h) fun o' h' _ => by
    obtain ⟨w, hw, hn⟩ := (S.cel n a o hn hc).2.ntbl
    rw [upd_ne ((S.tab t ht).2.ne2 hw hn)]
    exact h'⟩, S.nt⟩
  · rw [upd_ne (ne_of_none q hf.1)]
    exact S.ex b u q
  · rw [upd_ne (ne_of_none q hf.2)]
    exact S.fr b u q
  · by_cases hm : n = m
    · subst hm
      rw [List.getElem?_set_self hl] at h2
      have eu : ob = u := Option.some.inj (Option.some.inj h2)
      subst eu
      have eb : a = b := Option.some.inj (hn.symm.trans h1)
      subst eb
      rw [upd_same]
      exact ⟨hf, h⟩
    · rw [List.getElem?_set_ne hm] at h2
      obtain ⟨k1, k2⟩ := S.cel m b u h1 h2
      have hb : b ≠ a := fun e => hm (S.inj n m a o u hn (by rw [← e]; exact h1) hc h2)
      rw [upd_ne hb]
      exact ⟨k1, k2⟩
  · obtain ⟨u', g3⟩ := live h3
    obtain ⟨w', g4⟩ := live h4
    exact S.inj i j b u' w' h1 h2 g3 g4
theorem SR.setCel {Hf F : Hp} {ρ : List Addr} {C : Cells} {H : Hp} (S : SR K Hf F ρ C H) {n : Nat} {a : Addr} {o : Ob} {vs : List V} {ds : List D} (hn : ρ[n]? = some a) (hc : C[n]? = some (some o)) (h : Dats K Hf [] vs ds) :
    SR K Hf F ρ (C.set n (some (.l ds))) (upd H a (.lst vs)) := S.setOb hn hc (.l h)
/-- a cell is given up -/
theorem SR.drop {Hf F : Hp} {ρ : List Addr} {C : Cells} {H : Hp} (S : SR K Hf F ρ C H) (n : Nat) : SR K Hf F ρ (C.set n none) H := by
  have live : ∀ {m : Nat} {u : Ob}, (C.set n none)[m]? = some (some u) → C[m]? = some (some u) := fun {m u} g => by
    by_cases hm : n = m
    · subst hm
      by_cases hl : n < C.length
      · rw [List.getElem?_set_self hl] at g
        cases g
      · rw [List.getElem?_eq_none (by rw [List.length_set]; omega)] at g
        cases g
    · rw [List.getElem?_set_ne hm] at g
      exact g
  exact ⟨S.ex, S.fr, S.ap, by rw [List.length_set]; exact S.len, fun m b u h1 h2 => S.cel m b u h1 (live h2), fun i j b u w h1 h2 h3 h4 => S.inj i j b u w h1 h2 (live h3) (live h4), S.tab, S.nt⟩
/-- a changing list changes no more: it is data from now on -/
theorem SR.freeze {Hf F : Hp} {ρ : List Addr} {C : Cells} {H : Hp} (S : SR K Hf F ρ C H) {n : Nat} {a : Addr} {ds : List D} (hn : ρ[n]? = some a) (hc : C[n]? = some (some (.l ds))) :
    ∃ Hf', Same Hf Hf' ∧ SR K Hf' F ρ (C.set n none) H ∧ Dat K Hf' ρ (.ref a) (.lst ds) := by
  obtain ⟨hf, k⟩ := S.cel n a _ hn hc
  obtain ⟨vs, hv, hd⟩ := k.lst
  have e0 : Same Hf (upd Hf a (.lst vs)) := fun b u h => by
    rw [upd_ne (ne_of_none h hf.1)]
    exact h
  have S' := S.drop n
  refine ⟨upd Hf a (.lst vs), e0, ⟨fun b u h => ?_, S'.fr, fun b u h => ?_, S'.len, fun m b u h1 h2 => ?_, S'.inj, fun t ht => by
    have ha := (S.tab t ht).2.ne2 hv (fun ps e => by cases e)
    exact ⟨by rw [upd_ne ha]; exact (S.tab t ht).1, (S.tab t ht).2.mono e0 fun o h _ => h⟩, fun b ps => ⟨fun e => by
    by_cases hb : b = a
    · rw [hb, upd_same] at e
      cases e
    · rw [upd_ne hb] at e
      exact (S.nt b ps).1 e, (S.nt b ps).2⟩⟩, .lst (.inl (.inl upd_same)) (hd.mono e0 List.nil_prefix)⟩
  · by_cases hb : b = a
    · subst hb
      rw [upd_same] at h
      rw [hv]
      exact h
    · rw [upd_ne hb] at h
      exact S.ex b u h
  · rw [upd_ne (ne_of_none h hf.2)]
    exact S.ap b u h
  · obtain ⟨k1, k2⟩ := S'.cel m b u h1 h2
    have hm : m ≠ n := fun e => by
      subst e
      have hl : m < C.length := (List.getElem?_eq_some_iff.mp hc).1
      rw [List.getElem?_set_self hl] at h2
      cases h2
    have h2' : C[m]? = some (some u) := by
      rw [List.getElem?_set_ne (Ne.symm hm)] at h2
      exact h2
    have hb : b ≠ a := fun e => hm (S.inj m n a u _ (by rw [← e]; exact h1) hn h2' hc)
    rw [upd_ne hb]
    exact ⟨k1, k2.mono e0⟩
/-- a tuple that stands is data -/
theorem SR.addTup {Hf F : Hp} {ρ : List Addr} {C : Cells} {H : Hp} (S : SR K Hf F ρ C H) {q : Addr} {xs : List V} (hq : H q = some (.tup xs)) : ∃ Hf', Same Hf Hf' ∧ SR K Hf' F ρ C H ∧ Hf' q = some (.tup xs) := by
  cases hn : Hf q with
  | some o =>
    have := S.ex q o hn
    rw [hq] at this
    exact ⟨Hf, fun b u h => h, S, by rw [hn]; exact this.symm⟩
  | none =>
    have e0 : Same Hf (upd Hf q (.tup xs)) := fun b u h => by
      rw [upd_ne (ne_of_none h hn)]
      exact h
    refine ⟨_, e0, ⟨fun b u h => ?_, S.fr, fun b u h => ?_, S.len, fun n a u h1 h2 => ?_, S.inj, fun t ht => by
      have ha := (S.tab t ht).2.ne2 hq (fun ps e => by cases e)
      exact ⟨by rw [upd_ne ha]; exact (S.tab t ht).1, (S.tab t ht).2.mono e0 fun o h _ => h⟩, fun b ps => ⟨fun e => by
    by_cases hb : b = q
    · rw [hb, upd_same] at e
      cases e
    · rw [upd_ne hb] at e
      exact (S.nt b ps).1 e, (S.nt b ps).2⟩⟩, upd_same⟩
    · by_cases hb : b = q
      · subst hb
        rw [upd_same] at h
        rw [hq]
        exact h
      · rw [upd_ne hb] at h
        exact S.ex b u h
    · by_cases hb : b = q
      · subst hb
        have := S.fr b u h
        rw [hq] at this
        exact .inr (by rw [← Option.some.inj this]; trivial)
      · rw [upd_ne hb]
        exact S.ap b u h
    · obtain ⟨k1, k2⟩ := S.cel n a u h1 h2
      have ha : a ≠ q := fun e => by
        subst e
        rw [hq] at k2
        cases k2
      rw [upd_ne ha]
      exact ⟨k1, k2.mono e0⟩
/-- a dict changes no more: it is locked, and data from now on -/
theorem SR.lockT {Hf F : Hp} {ρ : List Addr} {C : Cells} {H : Hp} (S : SR K Hf F ρ C H) {n : Nat} {a : Addr} {ks : List (List Key)} {ds : List D} (hn : ρ[n]? = some a) (hc : C[n]? = some (some (.t ks ds))) :
    ∃ vs, H a = some (.dT (ks.zip vs)) ∧ ∀ od, ∃ Hf', Same Hf Hf' ∧ SR K Hf' F ρ (C.set n none) (upd H a (.frz od (.dT (ks.zip vs)))) ∧ Dat K Hf' ρ (.ref a) (.dt ks ds) := by
  obtain ⟨hf, k⟩ := S.cel n a _ hn hc
  obtain ⟨vs, hv, hl, hd⟩ := k.dct
  refine ⟨vs, hv, fun od => ?_⟩
  have e0 : Same Hf (upd Hf a (.frz od (.dT (ks.zip vs)))) := fun b u h => by
    rw [upd_ne (ne_of_none h hf.1)]
    exact h
  have S' := S.drop n
  refine ⟨_, e0, ⟨fun b u h => ?_, fun b u h => ?_, fun b u h => ?_, S'.len, fun m b u h1 h2 => ?_, S'.inj, fun t ht => by
    have ha := (S.tab t ht).2.ne2 hv (fun ps e => by cases e)
    exact ⟨by rw [upd_ne ha]; exact (S.tab t ht).1, (S.tab t ht).2.mono e0 fun o h _ => by rw [upd_ne ha]; exact h⟩, fun b ps => ⟨fun e => by
    by_cases hb : b = a
    · rw [hb, upd_same] at e
      cases e
    · rw [upd_ne hb] at e
      exact (S.nt b ps).1 e, (S.nt b ps).2⟩⟩, .dt ⟨od, upd_same⟩ hl (hd.mono e0 List.nil_prefix)⟩
  · by_cases hb : b = a
    · subst hb
      rw [upd_same] at h ⊢
      exact h
    · rw [upd_ne hb] at h ⊢
      exact S.ex b u h
  · rw [upd_ne (ne_of_none h hf.2)]
    exact S.fr b u h
  · rw [upd_ne (ne_of_none h hf.2)]
    exact S.ap b u h
  · obtain ⟨k1, k2⟩ := S'.cel m b u h1 h2
    have hm : m ≠ n := fun e => by
      subst e
      have hl : m < C.length := (List.getElem?_eq_some_iff.mp hc).1
      rw [List.getElem?_set_self hl] at h2
      cases h2
    have h2' : C[m]? = some (some u) := by
      rw [List.getElem?_set_ne (Ne.symm hm)] at h2
      exact h2
    have hb : b ≠ a := fun e => hm (S.inj m n a u _ (by rw [← e]; exact h1) hn h2' hc)
    rw [upd_ne hb, upd_ne hb]
    exact ⟨k1, k2.mono e0⟩
/-- a new dict that is locked at once -/
theorem SR.newT {Hf F : Hp} {ρ : List Addr} {C : Cells} {H : Hp} (S : SR K Hf F ρ C H) {p : Addr} {od : Obj} {ks : List (List Key)} {xs : List V} {ds : List D} (hp : H p = none) (hl : ks.length = xs.length) (hd : Dats K Hf ρ xs ds) :
    ∃ Hf', Same Hf Hf' ∧ SR K Hf' F ρ C (upd H p (.frz od (.dT (ks.zip xs)))) ∧ Dat K Hf' ρ (.ref p) (.dt ks ds) := by
  obtain ⟨S1, e1⟩ := S.new (o := .frz od (.dT (ks.zip xs))) hp
  exact ⟨_, e1, S1, .dt ⟨od, upd_same⟩ hl (hd.mono e1 (List.prefix_refl _))⟩
/-- cells behind the first n are forgotten -/
theorem SR.cut {Hf F : Hp} {ρ : List Addr} {C : Cells} {H : Hp} (S : SR K Hf F ρ C H) (n : Nat) : SR K Hf F (ρ.take n) (C.take n) H := by
  refine ⟨S.ex, S.fr, S.ap, by rw [List.length_take, List.length_take, S.len], fun m a o h1 h2 => ?_, fun i j a o u h1 h2 h3 h4 => ?_, S.tab, S.nt⟩
  · rw [List.getElem?_take] at h1 h2
    split at h1
    · rename_i hm
      rw [if_pos hm] at h2
      exact S.cel m a o h1 h2
    · cases h1
  · rw [List.getElem?_take] at h1 h2 h3 h4
    split at h1
    · rename_i hi
      rw [if_pos hi] at h3
      split at h2
      · rename_i hj
        rw [if_pos hj] at h4
        exact S.inj i j a o u h1 h2 h3 h4
      · cases h2
    · cases h1

/-- within an except suite: the error's slot, the error, its class, its own dict -/
abbrev XC := Option (Nat × Addr × Value × Option Addr)
def isErr : D → Bool
  | .err _ _ _ => true
  | _ => false
theorem Dat.noErr {H : Hp} {ρ : List Addr} {v : V} {d : D} (h : Dat K H ρ v d) : isErr d = false := by cases h <;> rfl
/-- the slots' values -/
structure EnvR (K : PySem.W.Frag) (mg : Str → Option Value) (xc : XC) (Hf : Hp) (ρ : List Addr) (σ : L2.St) (env : Env) : Prop where
  len : σ.length = env.length
  at_ : ∀ (i : Nat) (d : D), env[i]? = some (some d) → isErr d = false → ∃ v, σ[i]? = some (some v) ∧ Dat K Hf ρ v d
  exc : ∀ (i : Nat) (a : Addr) (cls : Value) (dd : Option Addr) (c f : Str) (d : D), xc = some (i, a, cls, dd) → env[i]? = some (some (.err c f d)) →
    σ[i]? = some (some (.ref a)) ∧ ∃ (b C : Addr) (v : V), dd = some b ∧ cls = .ref C ∧ mg c = some (.ref C) ∧ Hf b = some (.xd [(f, v)]) ∧ Dat K Hf ρ v d
variable {xc : XC}
theorem EnvR.mono {Hf Hf' : Hp} {ρ ρ' : List Addr} {σ : L2.St} {env : Env} (h : EnvR K mg xc Hf ρ σ env) (e : Same Hf Hf') (p : ρ <+: ρ') : EnvR K mg xc Hf' ρ' σ env :=
  ⟨h.len, fun i d q n => by
    obtain ⟨v, h1, h2⟩ := h.at_ i d q n
    exact ⟨v, h1, h2.mono e p⟩, fun i a cls dd c f d hx q => by
    obtain ⟨h1, b, C, v, h2, h3, h4, h5, h6⟩ := h.exc i a cls dd c f d hx q
    exact ⟨h1, b, C, v, h2, h3, h4, e _ _ h5, h6.mono e p⟩⟩
theorem set_some {env : Env} {i j : Nat} {d e : D} (h : (env.set i (some d))[j]? = some (some e)) : (i = j ∧ e = d ∧ i < env.length) ∨ (i ≠ j ∧ env[j]? = some (some e)) := by
  by_cases hi : i = j
  · subst hi
    by_cases hl : i < env.length
    · rw [List.getElem?_set_self hl] at h
      exact .inl ⟨rfl, (Option.some.inj (Option.some.inj h)).symm, hl⟩
    · rw [List.getElem?_eq_none (by rw [List.length_set]; omega)] at h
      cases h
  · rw [List.getElem?_set_ne hi] at h
    exact .inr ⟨hi, h⟩
theorem EnvR.set {Hf : Hp} {ρ : List Addr} {σ : L2.St} {env : Env} (h : EnvR K mg xc Hf ρ σ env) {v : V} {d : D} (q : Dat K Hf ρ v d) (i : Nat) : EnvR K mg xc Hf ρ (σ.set i (some v)) (env.set i (some d)) := by
  refine ⟨by rw [List.length_set, List.length_set]; exact h.len, fun j e hj n => ?_, fun j a cls dd c f e hx hj => ?_⟩
  · rcases set_some hj with ⟨rfl, rfl, hl⟩ | ⟨hi, hj⟩
    · exact ⟨v, List.getElem?_set_self (by rw [h.len]; exact hl), q⟩
    · rw [List.getElem?_set_ne hi]
      exact h.at_ j e hj n
  · rcases set_some hj with ⟨rfl, rfl, hl⟩ | ⟨hi, hj⟩
    · have := q.noErr
      cases this
    · rw [List.getElem?_set_ne hi]
      exact h.exc j a cls dd c f e hx hj
theorem EnvR.plain {Hf : Hp} {ρ : List Addr} {σ : L2.St} {env : Env} (h : EnvR K mg xc Hf ρ σ env) : EnvR K mg none Hf ρ σ env := ⟨h.len, h.at_, fun _ _ _ _ _ _ _ hx => nomatch hx⟩
/-- what is wished of an exception, and the suite that one is in -/
structure Wh where
  w : WX
  xc : XC := none
end Sm
end
section
set_option maxRecDepth 100000
set_option maxHeartbeats 0
namespace Sm
variable [Tabs0]
open PySem L2
variable {K : PySem.W.Frag} {mg : Str → Option Value}

/-! ### the pure machine: what a piece of program comes to over slots and cells -/
inductive R (α : Type) where
  | ok (a : α) (C : Cells)
  | ex (c : Str) (p : Option (Str × D)) (C : Cells)
abbrev S (α : Type) := Env → Cells → Option (R α)
def S.bind {α β : Type} (s : S α) (k : α → S β) : S β := fun e C => match s e C with
  | none => none
  | some (.ex c p C') => some (.ex c p C')
  | some (.ok a C') => k a e C'
def S.val {α : Type} (a : α) : S α := fun _ C => some (.ok a C)
def S.opt {α : Type} (o : Option α) : S α := fun _ C => match o with
  | some a => some (.ok a C)
  | none => none

/-- an exception of the class named c, with what it keeps -/
def ExR (K : PySem.W.Frag) (mg : Str → Option Value) (Hf : Hp) (ρ : List Addr) (c : Str) (p : Option (Str × D)) (cls : Value) (dd : Option Addr) : Prop :=
  ∃ a : Addr, mg c = some (.ref a) ∧ cls = .ref a ∧ match p with
    | none => dd = none
    | some (f, d) => ∃ (b : Addr) (v : V), dd = some b ∧ Hf b = some (.xd [(f, v)]) ∧ Dat K Hf ρ v d

section
variable {α β γ δ : Type}
/-- what is to be shown of an outcome -/
def Go (K : PySem.W.Frag) (mg : Str → Option Value) (W : Wh) (Rel : Hp → List Addr → β → α → Prop) (σ : L2.St) (Hf F : Hp) (ρ : List Addr) (r : Option (R α)) (Q : β → Hp → Prop) : Prop :=
  match r with
  | none => False
  | some (.ok a C') => ∀ v H' Hf' ρ', Same Hf Hf' → ρ <+: ρ' → SR K Hf' F ρ' C' H' → Rel Hf' ρ' v a → Q v H'
  | some (.ex c p C') => ∀ cls dd H' Hf' ρ', Same Hf Hf' → ρ <+: ρ' → SR K Hf' F ρ' C' H' → ExR K mg Hf' ρ' c p cls dd → W.w cls dd σ H'
def tG (K : PySem.W.Frag) (mg : Str → Option Value) (W : Wh) (Rel : Hp → List Addr → β → α → Prop) (s : S α) : L2.St → Hp → (β → Hp → Prop) → Prop := fun σ H Q =>
  ∃ Hf F ρ env C, SR K Hf F ρ C H ∧ EnvR K mg W.xc Hf ρ σ env ∧ Go K mg W Rel σ Hf F ρ (s env C) Q

variable {W : Wh} {σ : L2.St} {Hf Hf1 F : Hp} {ρ ρ1 : List Addr} {C : Cells} {env : Env} {H : Hp}
theorem Go.later {Rel : Hp → List Addr → β → α → Prop} {r : Option (R α)} {Q : β → Hp → Prop} (h : Go K mg W Rel σ Hf F ρ r Q) (e : Same Hf Hf1) (p : ρ <+: ρ1) : Go K mg W Rel σ Hf1 F ρ1 r Q := by
  cases r with
  | none => exact h
  | some r =>
    cases r with
    | ok a C' => exact fun v H' Hf' ρ' e' p' => h v H' Hf' ρ' (e.trans e') (p.trans p')
    | ex c q C' => exact fun cls dd H' Hf' ρ' e' p' => h cls dd H' Hf' ρ' (e.trans e') (p.trans p')
theorem Go.mono {Rel : Hp → List Addr → β → α → Prop} {r : Option (R α)} {Q Q' : β → Hp → Prop} (h : Go K mg W Rel σ Hf F ρ r Q) (k : ∀ v H', Q v H' → Q' v H') : Go K mg W Rel σ Hf F ρ r Q' := by
  cases r with
  | none => exact h
  | some r =>
    cases r with
    | ok a C' => exact fun v H' Hf' ρ' e' p' s' q' => k _ _ (h v H' Hf' ρ' e' p' s' q')
    | ex c q C' => exact h
/-- a part first, the rest behind it -/
theorem Go.bind {Rel : Hp → List Addr → β → α → Prop} {Rel2 : Hp → List Addr → δ → γ → Prop} {s : S α} {k : α → S γ} {Q : δ → Hp → Prop} (h : Go K mg W Rel2 σ Hf F ρ (S.bind s k env C) Q) :
    Go K mg W Rel σ Hf F ρ (s env C) (fun v H1 => ∃ Hf1 ρ1 C1 a, Same Hf Hf1 ∧ ρ <+: ρ1 ∧ SR K Hf1 F ρ1 C1 H1 ∧ Rel Hf1 ρ1 v a ∧ Go K mg W Rel2 σ Hf1 F ρ1 (k a env C1) Q) := by
  unfold S.bind at h
  cases e : s env C with
  | none =>
    rw [e] at h
    exact h
  | some r =>
    rw [e] at h
    cases r with
    | ok a C' => exact fun v H' Hf' ρ' e' p' s' q' => ⟨Hf', ρ', C', a, e', p', s', q', Go.later h e' p'⟩
    | ex c q C' => exact h
theorem Go.val {Rel : Hp → List Addr → β → α → Prop} {a : α} {Q : β → Hp → Prop} {v : β} (h : Go K mg W Rel σ Hf F ρ (S.val a env C) Q) (S0 : SR K Hf F ρ C H) (r : Rel Hf ρ v a) : Q v H :=
  h v H Hf ρ (Same.refl _) (List.prefix_refl _) S0 r
theorem Go.opt {Rel : Hp → List Addr → β → α → Prop} {o : Option α} {Q : β → Hp → Prop} (h : Go K mg W Rel σ Hf F ρ (S.opt o env C) Q) : ∃ a, o = some a ∧ Go K mg W Rel σ Hf F ρ (S.val a env C) Q := by
  cases o with
  | none => exact h.elim
  | some a => exact ⟨a, rfl, h⟩
end

abbrev REq : Hp → List Addr → Bool → Bool → Prop := fun _ _ a b => a = b
def tE (K : PySem.W.Frag) (mg : Str → Option Value) (W : Wh) (s : S D) : TE := tG K mg W (Dat K) s
def tA (K : PySem.W.Frag) (mg : Str → Option Value) (W : Wh) (s : S (List D)) : TA := tG K mg W (Dats K) s
def tT (K : PySem.W.Frag) (mg : Str → Option Value) (W : Wh) (s : S Bool) : TT := tG K mg W REq s

/-- the judgements -/
def SE (X : Cx) (W : Wh) (e : Expr) (s : S D) : Prop := PE X e (tE X.K X.mg W s)
def SA (X : Cx) (W : Wh) (es : List Expr) (s : S (List D)) : Prop := PA X es (tA X.K X.mg W s)
def SB (X : Cx) (W : Wh) (e : Expr) (s : S Bool) : Prop := PT X e (tT X.K X.mg W s)

section
variable {X : Cx} {W : Wh}
theorem pe_imp {e : Expr} {t u : TE} (h : PE X e t) (k : ∀ σ H Q, u σ H Q → t σ H Q) : PE X e u := ⟨fun pins s σ H Q I q => h.run pins s σ H Q I (k σ H Q q)⟩
theorem pa_imp {e : List Expr} {t u : TA} (h : PA X e t) (k : ∀ σ H Q, u σ H Q → t σ H Q) : PA X e u := ⟨fun pos pins s σ H Q I q => h.run pos pins s σ H Q I (k σ H Q q)⟩
theorem pt_imp {e : Expr} {t u : TT} (h : PT X e t) (k : ∀ σ H Q, u σ H Q → t σ H Q) : PT X e u := ⟨fun pins s σ H Q I q => h.run pins s σ H Q I (k σ H Q q)⟩
theorem pw_imp {e : Expr} {t u : TT} (h : PW X e t) (k : ∀ σ H Q, u σ H Q → t σ H Q) : PW X e u := ⟨fun wh pins s σ H Q I q => h.run wh pins s σ H Q I (k σ H Q q)⟩
theorem ps_imp {e : Stmt} {t u : TS} (h : PS X e t) (k : ∀ D σ H, u D σ H → t D σ H) : PS X e u := ⟨fun pins s σ H D I q => h.run pins s σ H D I (k D σ H q)⟩
theorem pss_imp {e : List Stmt} {t u : TS} (h : PSs X e t) (k : ∀ D σ H, u D σ H → t D σ H) : PSs X e u := ⟨fun pins s σ H D I q => h.run pins s σ H D I (k D σ H q)⟩

/-! ### names, constants -/
def xV (i : Nat) : S D := fun env C => match env[i]? with
  | some (some d) => if isErr d = true then none else some (.ok d C)
  | _ => none
theorem se_var {i : Nat} {x : Str} {pos : Pos} (h : PE X (.Name x pos) (tVar i)) : SE X W (.Name x pos) (xV i) := pe_imp h fun σ H Q ⟨Hf, F, ρ, env, C, S0, E0, g⟩ => by
  unfold xV at g
  split at g
  · rename_i d e
    split at g
    · exact g.elim
    rename_i hn
    obtain ⟨v, h1, h2⟩ := E0.at_ i d e (by simpa using hn)
    exact ⟨v, h1, g v H Hf ρ (Same.refl _) (List.prefix_refl _) S0 h2⟩
  · exact g.elim
theorem se_const {e : Expr} {v : V} {d : D} (h : PE X e (tC v)) (r : ∀ Hf ρ, Dat X.K Hf ρ v d) : SE X W e (S.val d) := pe_imp h fun σ H Q ⟨Hf, F, ρ, env, C, S0, E0, g⟩ => Go.val g S0 (r Hf ρ)

/-! ### operators by values -/
/-- a value as it is to be read now: a changing list is its items -/
def vw (C : Cells) (d : D) : D := match d with
  | .cel n => match C[n]? with
    | some (some (.l ds)) => .lst ds
    | some (some (.t ks ds)) => .dt ks ds
    | _ => d
  | _ => d
/-- what is read: its items are data that stays -/
inductive Vw (K : PySem.W.Frag) (H : Hp) (Hf : Hp) (ρ : List Addr) : V → D → Prop
  | dat {v : V} {d : D} (h : Dat K Hf ρ v d) : Vw K H Hf ρ v d
  | now {a : Addr} {xs : List V} {ds : List D} (h : SqL K H a xs) (hs : Dats K Hf ρ xs ds) : Vw K H Hf ρ (.ref a) (.lst ds)
  | nowT {a : Addr} {ks : List (List Key)} {xs : List V} {ds : List D} (h : Rd H a (.dT (ks.zip xs))) (hl : ks.length = xs.length) (hs : Dats K Hf ρ xs ds) : Vw K H Hf ρ (.ref a) (.dt ks ds)
theorem vw_ok {Hf F : Hp} {ρ : List Addr} {C : Cells} {H : Hp} {v : V} {d : D} (S0 : SR K Hf F ρ C H) (h : Dat K Hf ρ v d) : Vw K H Hf ρ v (vw C d) := by
  cases h with
  | @cel n a h =>
    unfold vw
    simp only []
    split
    · rename_i ds e
      obtain ⟨_, k⟩ := S0.cel n a _ h e
      obtain ⟨vs, hv, hd⟩ := k.lst
      exact .now (.inl (.inl hv)) (hd.mono (Same.refl _) List.nil_prefix)
    · rename_i ks ds e
      obtain ⟨_, k⟩ := S0.cel n a _ h e
      obtain ⟨vs, hv, hl, hd⟩ := k.dct
      exact .nowT (.inl hv) hl (hd.mono (Same.refl _) List.nil_prefix)
    · exact .dat (.cel h)
  | non => exact .dat .non
  | bl b => exact .dat (.bl b)
  | int i => exact .dat (.int i)
  | str x => exact .dat (.str x)
  | tup h hs => exact .dat (.tup h hs)
  | lst h hs => exact .dat (.lst h hs)
  | opq v => exact .dat (.opq v)
  | fn h => exact .dat (.fn h)
  | dk h hl hs => exact .dat (.dk h hl hs)
  | dt h hl hs => exact .dat (.dt h hl hs)
/-- what an answer has to keep -/
def Ans (K : PySem.W.Frag) (Hf F : Hp) (ρ : List Addr) (C : Cells) (d : D) (Q : VK) : Prop := ∀ v H' Hf' ρ', Same Hf Hf' → ρ <+: ρ' → SR K Hf' F ρ' C H' → Dat K Hf' ρ' v d → Q v H'
/-- r, a rule by values, does what f tells of data -/
def Op2 (K : PySem.W.Frag) (r : R2) (f : D → D → Option D) : Prop := ∀ (Hf F : Hp) (ρ : List Addr) (C : Cells) (H : Hp) (x y : V) (a b d : D) (Q : VK), SR K Hf F ρ C H → Vw K H Hf ρ x a → Vw K H Hf ρ y b → f a b = some d → Ans K Hf F ρ C d Q → r x y H Q
def x2 (f : D → D → Option D) (a b : S D) : S D := S.bind a fun x => S.bind b fun y => fun env C => S.opt (f (vw C x) (vw C y)) env C
theorem go2 {r : R2} {f : D → D → Option D} {sa sb : S D} {ta tb : TE} (hf : Op2 X.K r f) {σ : L2.St} {H : Hp} {Q : VK} (ha : ∀ σ H Q, tE X.K X.mg W sa σ H Q → ta σ H Q) (hb : ∀ σ H Q, tE X.K X.mg W sb σ H Q → tb σ H Q)
    (h : tE X.K X.mg W (x2 f sa sb) σ H Q) : tOp r ta tb σ H Q := by
  obtain ⟨Hf, F, ρ, env, C, S0, E0, g⟩ := h
  refine ha σ H _ ⟨Hf, F, ρ, env, C, S0, E0, (Go.bind g).mono fun x H1 ⟨Hf1, ρ1, C1, a, e1, p1, S1, A1, g1⟩ => ?_⟩
  refine hb σ H1 _ ⟨Hf1, F, ρ1, env, C1, S1, E0.mono e1 p1, (Go.bind g1).mono fun y H2 ⟨Hf2, ρ2, C2, b, e2, p2, S2, B2, g2⟩ => ?_⟩
  obtain ⟨d, hd, g3⟩ := Go.opt g2
  exact hf Hf2 F ρ2 C2 H2 x y _ _ d Q S2 (vw_ok S2 (A1.mono e2 p2)) (vw_ok S2 B2) hd fun v H' Hf' ρ' e3 p3 S3 D3 => g3 v H' Hf' ρ' e3 p3 S3 D3
theorem se_op {op : Operator} {a b : Expr} {pos : Pos} {r : R2} {f : D → D → Option D} {sa sb : S D} (ho : OpR X (binaryOp op) r) (hf : Op2 X.K r f) (ha : SE X W a sa) (hb : SE X W b sb) : SE X W (.BinOp a op b pos) (x2 f sa sb) :=
  pe_imp (pe_op ho ha hb) fun _ _ _ h => go2 hf (fun _ _ _ q => q) (fun _ _ _ q => q) h
theorem se_cmp {op : CmpOp} {a b : Expr} {pos : Pos} {r : R2} {f : D → D → Option D} {sa sb : S D} (ho : OpR X (compareOp op) r) (hf : Op2 X.K r f) (ha : SE X W a sa) (hb : SE X W b sb) (hm : behindInMarks op b = false) : SE X W (.Compare a [op] [b] pos) (x2 f sa sb) :=
  pe_imp (pe_cmpR ho ha hb hm) fun _ _ _ h => go2 hf (fun _ _ _ q => q) (fun _ _ _ q => q) h
theorem se_sub {a b : Expr} {pos : Pos} {r : R2} {f : D → D → Option D} {sa sb : S D} (ho : IxR X r) (hf : Op2 X.K r f) (ha : SE X W a sa) (hb : SE X W b sb) (hs : PlainIx b) : SE X W (.Subscript a b pos) (x2 f sa sb) :=
  pe_imp (pe_ix ho ha hb hs) fun _ _ _ h => go2 hf (fun _ _ _ q => q) (fun _ _ _ q => q) h
/-- a test of data -/
def xB (s : S D) : S Bool := S.bind s fun d => S.opt (match d with
  | .bl b => some b
  | _ => none)
theorem goB {s : S D} {σ : L2.St} {H : Hp} {Q : Bool → Hp → Prop} (h : tT X.K X.mg W (xB s) σ H Q) : tE X.K X.mg W s σ H fun x H1 => ∃ k, x = .bl k ∧ Q k H1 := by
  obtain ⟨Hf, F, ρ, env, C, S0, E0, g⟩ := h
  refine ⟨Hf, F, ρ, env, C, S0, E0, (Go.bind g).mono fun x H1 ⟨Hf1, ρ1, C1, a, e1, p1, S1, A1, g1⟩ => ?_⟩
  obtain ⟨d, hd, g3⟩ := Go.opt g1
  cases a with
  | bl b =>
    cases A1
    have e : b = d := Option.some.inj hd
    exact ⟨b, rfl, g3 b H1 Hf1 ρ1 (Same.refl _) (List.prefix_refl _) S1 e⟩
  | _ => cases hd
theorem sb_cmp {op : CmpOp} {a b : Expr} {pos : Pos} {r : R2} {f : D → D → Option D} {sa sb : S D} (ho : OpR X (compareOp op) r) (hf : Op2 X.K r f) (ha : SE X W a sa) (hb : SE X W b sb) (hm : behindInMarks op b = false) : SB X W (.Compare a [op] [b] pos) (xB (x2 f sa sb)) :=
  pt_imp (pt_cmpR ho ha hb hm) fun _ _ _ h => go2 hf (fun _ _ _ q => q) (fun _ _ _ q => q) (goB h)
theorem sb_val {e : Expr} {s : S D} (h : SE X W e s) (he : ∀ whole, isTrue e X.env whole = (do let v ← whole; standAt e.pos; holding [v] (truthy v))) : SB X W e (xB s) :=
  pt_imp (pt_val h he) fun σ H Q q => goB q
/-! ### and, or, not, if -/
def xAnd (a b : S Bool) : S Bool := S.bind a fun x => if x = true then b else S.val false
def xOr (a b : S Bool) : S Bool := S.bind a fun x => if x = true then S.val true else b
def xNot (a : S Bool) : S Bool := S.bind a fun x => S.val (!x)
def xIf {α : Type} (c : S Bool) (a b : S α) : S α := S.bind c fun x => if x = true then a else b
def xD (s : S Bool) : S D := S.bind s fun b => S.val (.bl b)
theorem sw_and {a b : Expr} {rest : List Expr} {pos : Pos} {sa sb : S Bool} (ha : SB X W a sa) (hb : PW X (.BoolOp .And (b :: rest) pos) (tT X.K X.mg W sb)) : PW X (.BoolOp .And (a :: b :: rest) pos) (tT X.K X.mg W (xAnd sa sb)) :=
  pw_imp (pw_and ha hb) fun σ H Q ⟨Hf, F, ρ, env, C, S0, E0, g⟩ => ⟨Hf, F, ρ, env, C, S0, E0, (Go.bind g).mono fun x H1 ⟨Hf1, ρ1, C1, a, e1, p1, S1, A1, g1⟩ => by
    have A2 : x = a := A1
    subst A2
    cases x with
    | true => exact ⟨Hf1, F, ρ1, env, C1, S1, E0.mono e1 p1, g1⟩
    | false => exact g1 false H1 Hf1 ρ1 (Same.refl _) (List.prefix_refl _) S1 rfl⟩
theorem sw_or {a b : Expr} {rest : List Expr} {pos : Pos} {sa sb : S Bool} (ha : SB X W a sa) (hb : PW X (.BoolOp .Or (b :: rest) pos) (tT X.K X.mg W sb)) : PW X (.BoolOp .Or (a :: b :: rest) pos) (tT X.K X.mg W (xOr sa sb)) :=
  pw_imp (pw_or ha hb) fun σ H Q ⟨Hf, F, ρ, env, C, S0, E0, g⟩ => ⟨Hf, F, ρ, env, C, S0, E0, (Go.bind g).mono fun x H1 ⟨Hf1, ρ1, C1, a, e1, p1, S1, A1, g1⟩ => by
    have A2 : x = a := A1
    subst A2
    cases x with
    | false => exact ⟨Hf1, F, ρ1, env, C1, S1, E0.mono e1 p1, g1⟩
    | true => exact g1 true H1 Hf1 ρ1 (Same.refl _) (List.prefix_refl _) S1 rfl⟩
theorem sw_and1 {a : Expr} {pos : Pos} {sa : S Bool} (ha : SB X W a sa) : PW X (.BoolOp .And [a] pos) (tT X.K X.mg W sa) := pw_and1 ha
theorem sw_or1 {a : Expr} {pos : Pos} {sa : S Bool} (ha : SB X W a sa) : PW X (.BoolOp .Or [a] pos) (tT X.K X.mg W sa) := pw_or1 ha
theorem sb_w {e : Expr} {s : S Bool} (h : PW X e (tT X.K X.mg W s)) : SB X W e s := h.pt
theorem sb_not {a : Expr} {pos : Pos} {sa : S Bool} (ha : SB X W a sa) : SB X W (.UnaryOp .Not a pos) (xNot sa) :=
  pt_imp (pt_not ha) fun σ H Q ⟨Hf, F, ρ, env, C, S0, E0, g⟩ => ⟨Hf, F, ρ, env, C, S0, E0, (Go.bind g).mono fun x H1 ⟨Hf1, ρ1, C1, a, e1, p1, S1, A1, g1⟩ => by
    have A2 : x = a := A1
    subst A2
    exact g1 (!x) H1 Hf1 ρ1 (Same.refl _) (List.prefix_refl _) S1 rfl⟩
theorem se_if {c a b : Expr} {pos : Pos} {sc : S Bool} {sa sb : S D} (hc : SB X W c sc) (ha : SE X W a sa) (hb : SE X W b sb) : SE X W (.IfExp c a b pos) (xIf sc sa sb) :=
  pe_imp (pe_ifExp hc ha hb) fun σ H Q ⟨Hf, F, ρ, env, C, S0, E0, g⟩ => ⟨Hf, F, ρ, env, C, S0, E0, (Go.bind g).mono fun x H1 ⟨Hf1, ρ1, C1, a, e1, p1, S1, A1, g1⟩ => by
    have A2 : x = a := A1
    subst A2
    cases x with
    | true => exact ⟨Hf1, F, ρ1, env, C1, S1, E0.mono e1 p1, g1⟩
    | false => exact ⟨Hf1, F, ρ1, env, C1, S1, E0.mono e1 p1, g1⟩⟩
/-- bools as values -/
theorem goD {s : S D} {σ : L2.St} {H : Hp} {Q : VK} {k : Bool → S D} (h : tE X.K X.mg W (S.bind (xB s) k) σ H Q) :
    tE X.K X.mg W s σ H fun x H1 => ∃ b, x = .bl b ∧ tE X.K X.mg W (k b) σ H1 Q := by
  obtain ⟨Hf, F, ρ, env, C, S0, E0, g⟩ := h
  have g0 := Go.bind (Rel := REq) g
  have g1 : tT X.K X.mg W (xB s) σ H (fun b H1 => tE X.K X.mg W (k b) σ H1 Q) := ⟨Hf, F, ρ, env, C, S0, E0, g0.mono fun x H1 ⟨Hf1, ρ1, C1, a, e1, p1, S1, A1, g1⟩ => by
    have A2 : x = a := A1
    subst A2
    exact ⟨Hf1, F, ρ1, env, C1, S1, E0.mono e1 p1, g1⟩⟩
  exact goB g1
def xAndV (a b : S D) : S D := S.bind (xB a) fun x => if x = true then b else S.val (.bl false)
def xOrV (a b : S D) : S D := S.bind (xB a) fun x => if x = true then S.val (.bl true) else b
def xNotV (a : S D) : S D := S.bind (xB a) fun x => S.val (.bl (!x))
theorem se_and {a b : Expr} {rest : List Expr} {pos : Pos} {sa sb : S D} (ha : SE X W a sa) (hb : SE X W (.BoolOp .And (b :: rest) pos) sb) : SE X W (.BoolOp .And (a :: b :: rest) pos) (xAndV sa sb) :=
  pe_imp (pe_and ha hb) fun σ H Q h => by
    have h1 := goD h
    obtain ⟨Hf, F, ρ, env, C, S0, E0, g⟩ := h1
    refine ⟨Hf, F, ρ, env, C, S0, E0, g.mono fun x H1 ⟨b, e, q⟩ => ⟨b, e, ?_⟩⟩
    cases b with
    | true => exact q
    | false =>
      obtain ⟨Hf1, F, ρ1, env1, C1, S1, E1, g1⟩ := q
      exact Go.val (env := env1) g1 S1 (.bl false)
theorem se_or {a b : Expr} {rest : List Expr} {pos : Pos} {sa sb : S D} (ha : SE X W a sa) (hb : SE X W (.BoolOp .Or (b :: rest) pos) sb) : SE X W (.BoolOp .Or (a :: b :: rest) pos) (xOrV sa sb) :=
  pe_imp (pe_or ha hb) fun σ H Q h => by
    have h1 := goD h
    obtain ⟨Hf, F, ρ, env, C, S0, E0, g⟩ := h1
    refine ⟨Hf, F, ρ, env, C, S0, E0, g.mono fun x H1 ⟨b, e, q⟩ => ⟨b, e, ?_⟩⟩
    cases b with
    | false => exact q
    | true =>
      obtain ⟨Hf1, F, ρ1, env1, C1, S1, E1, g1⟩ := q
      exact Go.val (env := env1) g1 S1 (.bl true)
theorem se_one {op : BoolOp} {a : Expr} {pos : Pos} {sa : S D} (ha : SE X W a sa) : SE X W (.BoolOp op [a] pos) sa := pe_one ha
theorem se_not {a : Expr} {pos : Pos} {sa : S D} (ha : SE X W a sa) : SE X W (.UnaryOp .Not a pos) (xNotV sa) :=
  pe_imp (pe_not ha) fun σ H Q h => by
    have h1 := goD h
    obtain ⟨Hf, F, ρ, env, C, S0, E0, g⟩ := h1
    refine ⟨Hf, F, ρ, env, C, S0, E0, g.mono fun x H1 ⟨b, e, q⟩ => ⟨b, e, ?_⟩⟩
    obtain ⟨Hf1, F, ρ1, env1, C1, S1, E1, g1⟩ := q
    exact Go.val g1 S1 (.bl _)
/-! ### a < b < c -/
def xChain (f f' : D → D → Option D) (a b c : S D) : S D := S.bind a fun x => S.bind b fun y => S.bind (xB fun env C => S.opt (f (vw C x) (vw C y)) env C) fun k => if k = true then S.bind c fun z => (fun env C => S.opt (f' (vw C y) (vw C z)) env C) else S.val (.bl false)
theorem goChain {r r' : R2} {f f' : D → D → Option D} {sa sb sc : S D} (hf : Op2 X.K r f) (hf' : Op2 X.K r' f') {σ : L2.St} {H : Hp} {Q : VK} (h : tE X.K X.mg W (xChain f f' sa sb sc) σ H Q) :
    tChain r r' (tE X.K X.mg W sa) (tE X.K X.mg W sb) (tE X.K X.mg W sc) σ H Q := by
  obtain ⟨Hf, F, ρ, env, C, S0, E0, g⟩ := h
  refine ⟨Hf, F, ρ, env, C, S0, E0, (Go.bind g).mono fun x H1 ⟨Hf1, ρ1, C1, a, e1, p1, S1, A1, g1⟩ => ?_⟩
  refine ⟨Hf1, F, ρ1, env, C1, S1, E0.mono e1 p1, (Go.bind g1).mono fun y H2 ⟨Hf2, ρ2, C2, b, e2, p2, S2, B2, g2⟩ => ?_⟩
  have g3 := Go.bind (Rel := REq) g2
  have hd : ∃ d, f (vw C2 a) (vw C2 b) = some d := by
    cases q : f (vw C2 a) (vw C2 b) with
    | some d => exact ⟨d, rfl⟩
    | none =>
      unfold xB S.bind at g3
      simp only [q, S.opt] at g3
      exact g3.elim
  obtain ⟨d, hd⟩ := hd
  refine hf Hf2 F ρ2 C2 H2 x y _ _ d _ S2 (vw_ok S2 (A1.mono e2 p2)) (vw_ok S2 B2) hd fun z H3 Hf3 ρ3 e3 p3 S3 D3 => ?_
  unfold xB S.bind at g3
  simp only [hd, S.opt] at g3
  cases d with
  | bl k =>
    cases D3
    obtain ⟨Hf4, ρ4, C4, k', e4, p4, S4, A4, g4⟩ := g3 k H3 Hf3 ρ3 e3 p3 S3 rfl
    have A5 : k = k' := A4
    subst A5
    refine ⟨k, rfl, ?_⟩
    cases k with
    | true =>
      have g4 : Go X.K X.mg W (Dat X.K) σ Hf4 F ρ4 (S.bind sc (fun z env C => S.opt (f' (vw C b) (vw C z)) env C) env C4) Q := g4
      refine ⟨Hf4, F, ρ4, env, C4, S4, E0.mono ((e1.trans e2).trans e4) ((p1.trans p2).trans p4), (Go.bind g4).mono fun z H5 ⟨Hf5, ρ5, C5, c, e5, p5, S5, A5, g5⟩ => ?_⟩
      obtain ⟨d', hd', g6⟩ := Go.opt g5
      exact hf' Hf5 F ρ5 C5 H5 y z _ _ d' Q S5 (vw_ok S5 (B2.mono (e4.trans e5) (p4.trans p5))) (vw_ok S5 A5) hd' fun v H' Hf' ρ' e7 p7 S7 D7 => g6 v H' Hf' ρ' e7 p7 S7 D7
    | false => exact Go.val (env := env) g4 S4 (.bl false)
  | _ => exact g3.elim
/-! ### argument lists, displays -/
def aNil : S (List D) := S.val []
def aCons (a : S D) (r : S (List D)) : S (List D) := S.bind a fun x => S.bind r fun xs => S.val (x :: xs)
theorem sa_nil : SA X W [] aNil := pa_imp pa_nil fun σ H Q ⟨Hf, F, ρ, env, C, S0, E0, g⟩ => Go.val g S0 .nil
theorem sa_cons {e : Expr} {es : List Expr} {s : S D} {r : S (List D)} (he : SE X W e s) (hr : SA X W es r) (hs : starEach (e :: es) X.env = (false, eval e X.env) :: starEach es X.env) : SA X W (e :: es) (aCons s r) :=
  pa_imp (pa_cons he hr hs) fun σ H Q ⟨Hf, F, ρ, env, C, S0, E0, g⟩ => ⟨Hf, F, ρ, env, C, S0, E0, (Go.bind g).mono fun x H1 ⟨Hf1, ρ1, C1, a, e1, p1, S1, A1, g1⟩ =>
    ⟨Hf1, F, ρ1, env, C1, S1, E0.mono e1 p1, (Go.bind g1).mono fun xs H2 ⟨Hf2, ρ2, C2, as, e2, p2, S2, A2, g2⟩ => Go.val g2 S2 (.cons (A1.mono e2 p2) A2)⟩⟩
/-- few enough for one object -/
def few {α : Type} (f : List D → α) (ds : List D) : Option α := if ds.length ≤ 1000000 then some (f ds) else none
theorem few_ok {α : Type} {f : List D → α} {ds : List D} {d : α} (h : few f ds = some d) : ds.length ≤ sizeLine ∧ d = f ds := by
  unfold few at h
  split at h
  · rename_i q
    exact ⟨Nat.le_trans q (by decide), (Option.some.inj h).symm⟩
  · cases h
def xTup (s : S (List D)) : S D := S.bind s fun ds => S.opt (few .tup ds)
theorem Go.newT {σ : L2.St} {Hf F : Hp} {ρ : List Addr} {C : Cells} {env : Env} {H : Hp} {Q : VK} {ds : List D} {xs : List V} (g : Go K mg W (Dat K) σ Hf F ρ (S.val (D.tup ds) env C) Q) (S0 : SR K Hf F ρ C H) (h : Dats K Hf ρ xs ds) : ∀ p, H p = none → Q (.ref p) (upd H p (.tup xs)) := fun p hp => by
  obtain ⟨S1, e1⟩ := S0.new (o := .tup xs) hp
  exact g (.ref p) _ _ ρ e1 (List.prefix_refl _) S1 (.tup upd_same (h.mono e1 (List.prefix_refl _)))
theorem se_tup {es : List Expr} {x1} {pos : Pos} {s : S (List D)} (h : SA X W es s) : SE X W (.Tuple es x1 pos) (xTup s) :=
  pe_imp (pe_tup h) fun σ H Q ⟨Hf, F, ρ, env, C, S0, E0, g⟩ => ⟨Hf, F, ρ, env, C, S0, E0, (Go.bind g).mono fun xs H1 ⟨Hf1, ρ1, C1, ds, e1, p1, S1, A1, g1⟩ => by
    obtain ⟨d, hd, g2⟩ := Go.opt g1
    obtain ⟨hl, rfl⟩ := few_ok hd
    exact ⟨by rw [A1.len]; exact hl, Go.newT g2 S1 A1⟩⟩

/-! ### new lists: data from the start (xF), or a list that will change (xC) -/
/-- a new list stands in the heap, nowhere known -/
inductive Fresh (K : PySem.W.Frag) (H : Hp) (Hf F : Hp) (ρ : List Addr) (C : Cells) : V → List D → Prop
  | mk {p : Addr} {vs : List V} {ds : List D} (h : H p = some (.lst vs)) (hs : Dats K Hf ρ vs ds) (S1 : SR K (upd Hf p (.lst vs)) F ρ C H) (S2 : nocels ds = true → SR K Hf F (ρ ++ [p]) (C ++ [some (.l ds)]) H) (nf : Hf p = none) : Fresh K H Hf F ρ C (.ref p) ds
def GoL (K : PySem.W.Frag) (mg : Str → Option Value) (W : Wh) (σ : L2.St) (Hf F : Hp) (ρ : List Addr) (r : Option (R (List D))) (Q : VK) : Prop :=
  match r with
  | none => False
  | some (.ok ds C') => ∀ v H' Hf' ρ', Same Hf Hf' → ρ <+: ρ' → Fresh K H' Hf' F ρ' C' v ds → Q v H'
  | some (.ex c p C') => ∀ cls dd H' Hf' ρ', Same Hf Hf' → ρ <+: ρ' → SR K Hf' F ρ' C' H' → ExR K mg Hf' ρ' c p cls dd → W.w cls dd σ H'
def tL (K : PySem.W.Frag) (mg : Str → Option Value) (W : Wh) (s : S (List D)) : TE := fun σ H Q => ∃ Hf F ρ env C, SR K Hf F ρ C H ∧ EnvR K mg W.xc Hf ρ σ env ∧ GoL K mg W σ Hf F ρ (s env C) Q
def SL (X : Cx) (W : Wh) (e : Expr) (s : S (List D)) : Prop := PE X e (tL X.K X.mg W s)
def xF (s : S (List D)) : S D := S.bind s fun ds => S.val (.lst ds)
def xC (s : S (List D)) : S D := S.bind s fun ds => fun _ C => if nocels ds = true then some (.ok (.cel C.length) (C ++ [some (.l ds)])) else none
theorem goL_of {α : Type} {σ : L2.St} {Hf : Hp} {ρ : List Addr} {env : Env} {C : Cells} {s : S (List D)} {k : List D → S D} {Q : VK} (h : Go K mg W (Dat K) σ Hf F ρ (S.bind s k env C) Q)
    (hk : ∀ ds C' v H' Hf' ρ', Same Hf Hf' → ρ <+: ρ' → Fresh K H' Hf' F ρ' C' v ds → Go K mg W (Dat K) σ Hf' F ρ' (k ds env C') Q → Q v H') : GoL K mg W σ Hf F ρ (s env C) Q := by
  unfold S.bind at h
  cases e : s env C with
  | none =>
    rw [e] at h
    exact h
  | some r =>
    rw [e] at h
    cases r with
    | ok ds C' => exact fun v H' Hf' ρ' e' p' f' => hk ds C' v H' Hf' ρ' e' p' f' (Go.later h e' p')
    | ex c q C' => exact h
theorem se_F {e : Expr} {s : S (List D)} (h : SL X W e s) : SE X W e (xF s) := pe_imp h fun σ H Q ⟨Hf, F, ρ, env, C, S0, E0, g⟩ => ⟨Hf, F, ρ, env, C, S0, E0, goL_of (α := Unit) g fun ds C' v H' Hf' ρ' e' p' f' g' => by
  cases f' with
  | @mk p vs _ h hs S1 S2 nf =>
    have e1 : Same Hf' (upd Hf' p (.lst vs)) := fun b u q => by
      rw [upd_ne (ne_of_none q nf)]
      exact q
    exact g' _ H' _ ρ' e1 (List.prefix_refl _) S1 (.lst (.inl (.inl upd_same)) (hs.mono e1 (List.prefix_refl _)))⟩
theorem se_C {e : Expr} {s : S (List D)} (h : SL X W e s) : SE X W e (xC s) := pe_imp h fun σ H Q ⟨Hf, F, ρ, env, C, S0, E0, g⟩ => ⟨Hf, F, ρ, env, C, S0, E0, goL_of (α := Unit) g fun ds C' v H' Hf' ρ' e' p' f' g' => by
  cases f' with
  | @mk p vs _ h hs S1 S2 nf =>
    have hl : ρ'.length = C'.length := S1.len
    have hn : nocels ds = true := by
      cases q : nocels ds with
      | true => rfl
      | false =>
        simp only [q] at g'
        exact g'.elim
    simp only [hn, if_true] at g'
    exact g' _ H' Hf' _ (Same.refl _) (List.prefix_append _ _) (S2 hn) (.cel (by rw [← hl, List.getElem?_append_right (Nat.le_refl _), Nat.sub_self]; rfl))⟩
theorem fresh_new {H Hf F : Hp} {ρ : List Addr} {C : Cells} {p : Addr} {vs : List V} {ds : List D} (S0 : SR K Hf F ρ C H) (hp : H p = none) (h : Dats K Hf ρ vs ds) : Fresh K (upd H p (.lst vs)) Hf F ρ C (.ref p) ds :=
  .mk upd_same h (S0.new hp).1 (fun n => S0.newCel hp (h.bare n)) (S0.ex.free hp)
theorem sl_lst {es : List Expr} {pos : Pos} {s : S (List D)} (h : SA X W es s) : SL X W (.List es pos) (S.bind s fun ds => S.opt (few id ds)) :=
  pe_imp (pe_lst h) fun σ H Q ⟨Hf, F, ρ, env, C, S0, E0, g⟩ => ⟨Hf, F, ρ, env, C, S0, E0, by
    unfold S.bind at g
    cases e : s env C with
    | none =>
      rw [e] at g
      exact g
    | some r =>
      rw [e] at g
      cases r with
      | ex c q C' => exact g
      | ok ds C' =>
        refine fun vs H' Hf' ρ' e' p' S' A' => ?_
        have g' : GoL X.K X.mg W σ Hf F ρ (S.opt (few id ds) env C') Q := g
        cases hd : few id ds with
        | none =>
          rw [hd] at g'
          exact g'.elim
        | some d =>
          rw [hd] at g'
          obtain ⟨hl, rfl⟩ := few_ok hd
          exact ⟨by rw [A'.len]; exact hl, fun p hp => g' (.ref p) _ Hf' ρ' e' p' (fresh_new S' hp A')⟩⟩
end
end Sm
end
section
set_option maxRecDepth 100000
set_option maxHeartbeats 0
namespace Sm
variable [Tabs0]
open PySem L2
variable {K : PySem.W.Frag} {mg : Str → Option Value}

/-! ### statements -/
inductive RS where
  | nx (e : Env) (C : Cells)
  | ret (d : D) (C : Cells)
  | bk (e : Env) (C : Cells)
  | ct (e : Env) (C : Cells)
  | ex (c : Str) (p : Option (Str × D)) (e : Env) (C : Cells)
abbrev SS := Env → Cells → Option RS
def GoS (K : PySem.W.Frag) (mg : Str → Option Value) (W : Wh) (Hf F : Hp) (ρ : List Addr) (r : Option RS) (D : Ends) : Prop :=
  match r with
  | none => False
  | some (.nx e C') => ∀ σ' H' Hf' ρ', Same Hf Hf' → ρ <+: ρ' → SR K Hf' F ρ' C' H' → EnvR K mg W.xc Hf' ρ' σ' e → D.nx σ' H'
  | some (.bk e C') => ∀ σ' H' Hf' ρ', Same Hf Hf' → ρ <+: ρ' → SR K Hf' F ρ' C' H' → EnvR K mg W.xc Hf' ρ' σ' e → D.bk σ' H'
  | some (.ct e C') => ∀ σ' H' Hf' ρ', Same Hf Hf' → ρ <+: ρ' → SR K Hf' F ρ' C' H' → EnvR K mg W.xc Hf' ρ' σ' e → D.ct σ' H'
  | some (.ret d C') => ∀ v H' Hf' ρ', Same Hf Hf' → ρ <+: ρ' → SR K Hf' F ρ' C' H' → Dat K Hf' ρ' v d → D.rt v H'
  | some (.ex c p e C') => ∀ cls dd σ' H' Hf' ρ', Same Hf Hf' → ρ <+: ρ' → SR K Hf' F ρ' C' H' → EnvR K mg W.xc Hf' ρ' σ' e → ExR K mg Hf' ρ' c p cls dd → W.w cls dd σ' H'
def tS (K : PySem.W.Frag) (mg : Str → Option Value) (W : Wh) (s : SS) : TS := fun D σ H => ∃ Hf F ρ env C, SR K Hf F ρ C H ∧ EnvR K mg W.xc Hf ρ σ env ∧ GoS K mg W Hf F ρ (s env C) D
def SC (X : Cx) (W : Wh) (st : Stmt) (s : SS) : Prop := PS X st (tS X.K X.mg W s)
def SCs (X : Cx) (W : Wh) (st : List Stmt) (s : SS) : Prop := PSs X st (tS X.K X.mg W s)

section
variable {W : Wh} {σ : L2.St} {Hf Hf1 F : Hp} {ρ ρ1 : List Addr} {C : Cells} {env : Env} {H : Hp} {D D' : Ends}
theorem GoS.later {r : Option RS} (h : GoS K mg W Hf F ρ r D) (e : Same Hf Hf1) (p : ρ <+: ρ1) : GoS K mg W Hf1 F ρ1 r D := by
  cases r with
  | none => exact h
  | some r =>
    cases r with
    | nx a C' => exact fun v H' Hf' ρ' e' p' => h v H' Hf' ρ' (e.trans e') (p.trans p')
    | bk a C' => exact fun v H' Hf' ρ' e' p' => h v H' Hf' ρ' (e.trans e') (p.trans p')
    | ct a C' => exact fun v H' Hf' ρ' e' p' => h v H' Hf' ρ' (e.trans e') (p.trans p')
    | ret a C' => exact fun v H' Hf' ρ' e' p' => h v H' Hf' ρ' (e.trans e') (p.trans p')
    | ex c q a C' => exact fun cls dd σ' H' Hf' ρ' e' p' => h cls dd σ' H' Hf' ρ' (e.trans e') (p.trans p')
/-- an expression's part in a statement -/
def xDo {α : Type} (s : S α) (k : α → SS) : SS := fun e C => match s e C with
  | none => none
  | some (.ex c p C') => some (.ex c p e C')
  | some (.ok a C') => k a e C'
theorem GoS.doit {α β : Type} {Rel : Hp → List Addr → β → α → Prop} {s : S α} {k : α → SS} (E0 : EnvR K mg W.xc Hf ρ σ env) (h : GoS K mg W Hf F ρ (xDo s k env C) D) :
    Go K mg W Rel σ Hf F ρ (s env C) (fun v H1 => ∃ Hf1 ρ1 C1 a, Same Hf Hf1 ∧ ρ <+: ρ1 ∧ SR K Hf1 F ρ1 C1 H1 ∧ Rel Hf1 ρ1 v a ∧ GoS K mg W Hf1 F ρ1 (k a env C1) D) := by
  unfold xDo at h
  cases e : s env C with
  | none =>
    rw [e] at h
    exact h
  | some r =>
    rw [e] at h
    cases r with
    | ok a C' => exact fun v H' Hf' ρ' e' p' s' q' => ⟨Hf', ρ', C', a, e', p', s', q', GoS.later h e' p'⟩
    | ex c q C' => exact fun cls dd H' Hf' ρ' e' p' s' x' => h cls dd σ H' Hf' ρ' e' p' s' (E0.mono e' p') x'
/-- one after the other -/
def xSeq (a b : SS) : SS := fun e C => match a e C with
  | some (.nx e' C') => b e' C'
  | r => r
def xNext : SS := fun e C => some (.nx e C)
theorem goSeq {a b : SS} (h : tS K mg W (xSeq a b) D σ H) : tS K mg W a { D with nx := tS K mg W b D } σ H := by
  obtain ⟨Hf, F, ρ, env, C, S0, E0, g⟩ := h
  refine ⟨Hf, F, ρ, env, C, S0, E0, ?_⟩
  unfold xSeq at g
  cases e : a env C with
  | none =>
    rw [e] at g
    exact g
  | some r =>
    rw [e] at g
    cases r with
    | nx e' C' => exact fun σ' H' Hf' ρ' e1 p1 s1 n1 => ⟨Hf', F, ρ', e', C', s1, n1, GoS.later g e1 p1⟩
    | bk a C' => exact g
    | ct a C' => exact g
    | ret a C' => exact g
    | ex c q a C' => exact g
end

section
variable {X : Cx} {W : Wh}
theorem ss_nil : SCs X W [] xNext := pss_imp pss_nil fun D σ H ⟨Hf, F, ρ, env, C, S0, E0, g⟩ => g σ H Hf ρ (Same.refl _) (List.prefix_refl _) S0 E0
theorem ss_one {st : Stmt} {s : SS} (h : SC X W st s) : SCs X W [st] s := pss_one h
theorem ss_cons {st : Stmt} {rest : List Stmt} {a b : SS} (h1 : SC X W st a) (h2 : SCs X W rest b) : SCs X W (st :: rest) (xSeq a b) :=
  pss_imp (pss_cons h1 h2) fun D σ H h => goSeq h
def xPass : SS := xNext
theorem sc_pass {pos : Pos} : SC X W (.Pass pos) xNext := ps_imp ps_pass fun D σ H ⟨Hf, F, ρ, env, C, S0, E0, g⟩ => g σ H Hf ρ (Same.refl _) (List.prefix_refl _) S0 E0
def xBreak : SS := fun e C => some (.bk e C)
def xCont : SS := fun e C => some (.ct e C)
theorem sc_break {pos : Pos} : SC X W (.Break pos) xBreak := ps_imp ps_break fun D σ H ⟨Hf, F, ρ, env, C, S0, E0, g⟩ => g σ H Hf ρ (Same.refl _) (List.prefix_refl _) S0 E0
theorem sc_cont {pos : Pos} : SC X W (.Continue pos) xCont := ps_imp ps_continue fun D σ H ⟨Hf, F, ρ, env, C, S0, E0, g⟩ => g σ H Hf ρ (Same.refl _) (List.prefix_refl _) S0 E0
/-- what can not be reached, or is not told: nothing is said -/
def xStop : SS := fun _ _ => none
theorem sc_stop {st : Stmt} : SC X W st xStop := ps_imp ps_never fun D σ H ⟨_, _, _, _, _, _, _, g⟩ => g.elim
theorem ss_stop {st : List Stmt} : SCs X W st xStop := pss_imp pss_never fun D σ H ⟨_, _, _, _, _, _, _, g⟩ => g.elim
def xRet (s : S D) : SS := xDo s fun d _ C => some (.ret d C)
theorem sc_ret {e : Expr} {pos : Pos} {s : S D} (h : SE X W e s) : SC X W (.Return (some e) pos) (xRet s) :=
  ps_imp (ps_ret h) fun D σ H ⟨Hf, F, ρ, env, C, S0, E0, g⟩ => ⟨Hf, F, ρ, env, C, S0, E0, (GoS.doit E0 g).mono fun v H1 ⟨Hf1, ρ1, C1, a, e1, p1, S1, A1, g1⟩ => g1 v H1 Hf1 ρ1 (Same.refl _) (List.prefix_refl _) S1 A1⟩
def xRetN : SS := fun _ C => some (.ret .non C)
theorem sc_retN {pos : Pos} : SC X W (.Return none pos) xRetN :=
  ps_imp ps_retN fun D σ H ⟨Hf, F, ρ, env, C, S0, E0, g⟩ => g .non H Hf ρ (Same.refl _) (List.prefix_refl _) S0 .non
def xExp (s : S D) : SS := xDo s fun _ e C => some (.nx e C)
theorem sc_exp {e : Expr} {pos : Pos} {s : S D} (h : SE X W e s) (hs : swapsWith e none pos.line X.env = pure false) : SC X W (.Expr e pos) (xExp s) :=
  ps_imp (ps_expr h hs) fun D σ H ⟨Hf, F, ρ, env, C, S0, E0, g⟩ => ⟨Hf, F, ρ, env, C, S0, E0, (GoS.doit E0 g).mono fun v H1 ⟨Hf1, ρ1, C1, a, e1, p1, S1, A1, g1⟩ => g1 σ H1 Hf1 ρ1 (Same.refl _) (List.prefix_refl _) S1 (E0.mono e1 p1)⟩
def xIfS (c : S Bool) (a b : SS) : SS := xDo c fun x => if x = true then a else b
theorem sc_if {c : Expr} {a b : List Stmt} {pos : Pos} {sc : S Bool} {sa sb : SS} (hc : SB X W c sc) (ha : SCs X W a sa) (hb : SCs X W b sb) : SC X W (.If c a b pos) (xIfS sc sa sb) :=
  ps_imp (ps_if hc ha hb) fun D σ H ⟨Hf, F, ρ, env, C, S0, E0, g⟩ => ⟨Hf, F, ρ, env, C, S0, E0, (GoS.doit E0 g).mono fun v H1 ⟨Hf1, ρ1, C1, a, e1, p1, S1, A1, g1⟩ => by
    have A2 : v = a := A1
    subst A2
    cases v with
    | true => exact ⟨Hf1, F, ρ1, env, C1, S1, E0.mono e1 p1, g1⟩
    | false => exact ⟨Hf1, F, ρ1, env, C1, S1, E0.mono e1 p1, g1⟩⟩

/-! ### targets -/
/-- a target: what it makes of the slots; which slots -/
structure Tg where
  put : D → Env → Option Env
  at_ : List Nat
structure Tgs where
  put : List D → Env → Option Env
  at_ : List Nat
def gG (K : PySem.W.Frag) (mg : Str → Option Value) (xc : XC) (t : Tg) : TG := fun v σ H Q => ∃ Hf F ρ env C d, SR K Hf F ρ C H ∧ EnvR K mg xc Hf ρ σ env ∧ Dat K Hf ρ v d ∧ ∃ env', t.put d env = some env' ∧ ∀ σ', EnvR K mg xc Hf ρ σ' env' → (∀ j, j ∉ t.at_ → σ'[j]? = σ[j]?) → Q σ' H
def gGs (K : PySem.W.Frag) (mg : Str → Option Value) (xc : XC) (t : Tgs) : TGs := fun vs σ H Q => ∃ Hf F ρ env C ds, SR K Hf F ρ C H ∧ EnvR K mg xc Hf ρ σ env ∧ Dats K Hf ρ vs ds ∧ ∃ env', t.put ds env = some env' ∧ ∀ σ', EnvR K mg xc Hf ρ σ' env' → (∀ j, j ∉ t.at_ → σ'[j]? = σ[j]?) → Q σ' H
def SG (X : Cx) (W : Wh) (e : Expr) (t : Tg) : Prop := PG X e (gG X.K X.mg W.xc t)
def SGs (X : Cx) (W : Wh) (es : List Expr) (t : Tgs) : Prop := PGs X es (gGs X.K X.mg W.xc t)
theorem pg_imp {e : Expr} {t u : TG} (h : PG X e t) (k : ∀ v σ H Q, u v σ H Q → t v σ H Q) : PG X e u := by
  obtain ⟨r⟩ := h
  refine ⟨?_⟩
  intros
  exact r _ _ _ _ _ _ _ (by assumption) (by assumption) (k _ _ _ _ (by assumption))
theorem pgs_imp {e : List Expr} {t u : TGs} (h : PGs X e t) (k : ∀ v σ H Q, u v σ H Q → t v σ H Q) : PGs X e u := by
  obtain ⟨r⟩ := h
  refine ⟨?_⟩
  intros
  exact r _ _ _ _ _ _ _ (by assumption) (by assumption) (k _ _ _ _ (by assumption))
def gN (i : Nat) : Tg := ⟨fun d e => some (e.set i (some d)), [i]⟩
theorem sg_name {i : Nat} {x : Str} {pos : Pos} (h : PG X (.Name x pos) (gName i)) : SG X W (.Name x pos) (gN i) := pg_imp h fun v σ H Q ⟨Hf, F, ρ, env, C, d, S0, E0, D0, env', he, k⟩ => by
  have e := Option.some.inj he
  subst e
  exact k _ (E0.set D0 i) fun j hj => List.getElem?_set_ne (fun e => hj (by rw [e]; exact List.mem_singleton.mpr rfl))
def gsN : Tgs := ⟨fun ds e => match ds with
  | [] => some e
  | _ => none, []⟩
def gsC (t : Tg) (u : Tgs) : Tgs := ⟨fun ds e => match ds with
  | d :: ds => (t.put d e).bind (u.put ds)
  | _ => none, t.at_ ++ u.at_⟩
theorem sgs_nil : SGs X W [] gsN := pgs_imp pgs_nil fun v σ H Q ⟨Hf, F, ρ, env, C, ds, S0, E0, D0, env', he, k⟩ => by
  cases D0 with
  | nil =>
    have e := Option.some.inj he
    subst e
    exact ⟨rfl, k _ E0 fun j _ => rfl⟩
  | cons _ _ => cases he
theorem sgs_cons {e : Expr} {es : List Expr} {t : Tg} {u : Tgs} (h1 : SG X W e t) (h2 : SGs X W es u) (hs : List.map (fun x => x.snd) (assignEach (e :: es) X.env) = assign e X.env :: List.map (fun x => x.snd) (assignEach es X.env)) : SGs X W (e :: es) (gsC t u) :=
  pgs_imp (pgs_cons h1 h2 hs) fun vs σ H Q ⟨Hf, F, ρ, env, C, ds, S0, E0, D0, env', he, k⟩ => by
    cases D0 with
    | nil => cases he
    | @cons v vs d ds h hs =>
      have he' : (t.put d env).bind (u.put ds) = some env' := he
      cases ht : t.put d env with
      | none =>
        rw [ht] at he'
        cases he'
      | some e1 =>
        rw [ht] at he'
        have he2 : u.put ds e1 = some env' := he'
        exact ⟨v, vs, rfl, Hf, F, ρ, env, C, d, S0, E0, h, e1, ht, fun σ1 E1 f1 => ⟨Hf, F, ρ, e1, C, ds, S0, E1, hs, env', he2, fun σ2 E2 f2 => k σ2 E2 fun j hj => by
          rw [f2 j fun z => hj (List.mem_append_right _ z), f1 j fun z => hj (List.mem_append_left _ z)]⟩⟩
def gT (u : Tgs) : Tg := ⟨fun d e => match d with
  | .tup ds => u.put ds e
  | _ => none, u.at_⟩

theorem sg_tup {es : List Expr} {k : Nat} {pos : Pos} {u : Tgs} {n : Nat} (h : ∀ t, PGs X es t → PG X (.Tuple es k pos) (gTup X.K n t)) (hu : SGs X W es u) (hn : ∀ ds e e', u.put ds e = some e' → ds.length = n) : SG X W (.Tuple es k pos) (gT u) :=
  pg_imp (h _ hu) fun v σ H Q ⟨Hf, F, ρ, env, C, d, S0, E0, D0, env', he, q⟩ => by
    cases D0 with
    | @tup a xs ds h hs =>
      exact ⟨a, xs, rfl, .inl (.inl (S0.ex _ _ h)), by rw [hs.len]; exact hn _ _ _ he, Hf, F, ρ, env, C, ds, S0, E0, hs, env', he, q⟩
    | _ => cases he
theorem gsN_len {ds : List D} {e e' : Env} (h : gsN.put ds e = some e') : ds.length = 0 := by
  cases ds with
  | nil => rfl
  | cons _ _ => cases h
theorem gsC_len {t : Tg} {u : Tgs} {n : Nat} (hu : ∀ ds e e', u.put ds e = some e' → ds.length = n) {ds : List D} {e e' : Env} (h : (gsC t u).put ds e = some e') : ds.length = n + 1 := by
  cases ds with
  | nil => cases h
  | cons d ds =>
    have h' : (t.put d e).bind (u.put ds) = some e' := h
    cases ht : t.put d e with
    | none =>
      rw [ht] at h'
      cases h'
    | some e1 =>
      rw [ht] at h'
      rw [List.length_cons, hu ds e1 e' h']
def xAsg (s : S D) (t : Tg) : SS := xDo s fun d e C => (t.put d e).map (RS.nx · C)
theorem goAsg {s : S D} {t : Tg} {g : TG} (hg : ∀ v σ H Q, gG X.K X.mg W.xc t v σ H Q → g v σ H Q) {D : Ends} {σ : L2.St} {H : Hp} (h : tS X.K X.mg W (xAsg s t) D σ H) : tAsg (tE X.K X.mg W s) g D σ H := by
  obtain ⟨Hf, F, ρ, env, C, S0, E0, g0⟩ := h
  refine ⟨Hf, F, ρ, env, C, S0, E0, (GoS.doit E0 g0).mono fun v H1 ⟨Hf1, ρ1, C1, a, e1, p1, S1, A1, g1⟩ => ?_⟩
  cases ht : t.put a env with
  | none =>
    rw [ht] at g1
    exact g1.elim
  | some env' =>
    rw [ht] at g1
    exact hg _ _ _ _ ⟨Hf1, F, ρ1, env, C1, a, S1, E0.mono e1 p1, A1, env', ht, fun σ' E' _ => g1 σ' H1 Hf1 ρ1 (Same.refl _) (List.prefix_refl _) S1 E'⟩
theorem sc_asg {tg e : Expr} {pos : Pos} {s : S D} {t : Tg} (he : SE X W e s) (hg : SG X W tg t) (hs : swapsWithSole [tg] e pos.line X.env = pure false) (hw : swappedStores [tg] e X.env = pure none) (h1 : List.map (fun x => x.snd) (assignEach [tg] X.env) = [assign tg X.env]) : SC X W (.Assign [tg] e pos) (xAsg s t) :=
  ps_imp (ps_asg he hg hs hw h1) fun D σ H h => goAsg (fun _ _ _ _ q => q) h
theorem sc_set {i : Nat} {x : Str} {e : Expr} {pos pos' : Pos} {s : S D} (h : PS X (.Assign [.Name x pos'] e pos) (tAsg (tE X.K X.mg W s) (gName i))) : SC X W (.Assign [.Name x pos'] e pos) (xAsg s (gN i)) :=
  ps_imp h fun D σ H q => goAsg (fun v σ H Q ⟨Hf, F, ρ, env, C, d, S0, E0, D0, env', he, k⟩ => by
    have e := Option.some.inj he
    subst e
    exact k _ (E0.set D0 i) fun j hj => List.getElem?_set_ne (fun e => hj (by rw [e]; exact List.mem_singleton.mpr rfl))) q
/-- x op= e, ints -/
def xAug (i : Nat) (f : D → D → Option D) (s : S D) : SS := xDo (xV i) fun x => xDo s fun y env C => (f x y).map fun z => RS.nx (env.set i (some z)) C

/-! ### calls of defs -/
abbrev Fn := List D → Cells → Option (R D)
def WF (E : XK) : Wh := ⟨fun cls dd _ H => E cls dd H, none⟩
def spS (K : PySem.W.Frag) (mg : Str → Option Value) (n : Nat) (f : Fn) : Sp := fun vs H Q E => vs.length = n ∧ ∃ Hf F ρ C ds, SR K Hf F ρ C H ∧ Dats K Hf ρ vs ds ∧ Go K mg (WF E) (Dat K) [] Hf F ρ (f ds C) Q
/-- a def's promise, where no text of an object is under way -/
structure FnG (P : Program) (w : World) (K : PySem.W.Frag) (mg : Str → Option Value) (base : Heap) (k : Nat) (f : Addr) (fd : FuncData) (ps : List Str) (sp : Sp) : Prop where
  lg : ∀ vs H Q E, sp vs H Q E → vs.length = ps.length
  go : ∀ (A : Around) (fs : List PySem.Env) (s : Shared) (H : Hp) (args : Args) (us : List Value) (vs : List V) (Q : VK) (E : XK), A.guards = some [] → Room k A → Env0 P w K mg base A fs s H → BindsTo s fd args (ps.zip us) → Vals vs us → sp vs H Q E →
    codeAny (model P w) A (.call (.ref f) args) (CR (L2.CX P w) fs P w H s Q E) s
theorem FnG.mono {P : Program} {w : World} {base : Heap} {j k : Nat} {f : Addr} {fd : FuncData} {ps : List Str} {sp : Sp} (F : FnG P w K mg base j f fd ps sp) (h : j ≤ k) : FnG P w K mg base k f fd ps sp :=
  ⟨F.lg, fun A fs s H args us vs Q E gd hr => F.go A fs s H args us vs Q E gd (hr.mono h)⟩
theorem FnG.imp {P : Program} {w : World} {base : Heap} {k : Nat} {f : Addr} {fd : FuncData} {ps : List Str} {sp sp' : Sp} (F : FnG P w K mg base k f fd ps sp) (h : ∀ vs H Q E, sp' vs H Q E → sp vs H Q E) : FnG P w K mg base k f fd ps sp' :=
  ⟨fun vs H Q E q => F.lg vs H Q E (h _ _ _ _ q), fun A fs s H args us vs Q E gd hr e0 hb hv q => F.go A fs s H args us vs Q E gd hr e0 hb hv (h _ _ _ _ q)⟩
/-- a call of a def by its name -/
theorem pe_callG {X : Cx} {k : Nat} {f : Addr} {fd : FuncData} {ps : List Str} {sp : Sp} {E : L2.St → XK} {x : Str} {p pos : Pos} {e : Expr} {es : List Expr} {t : TA} (F : FnG X.prog X.w X.K X.mg X.base k f fd ps sp) (gd : X.A.guards = some []) (hr : Room k X.A) (hg : Gl X x) (hm : X.mg x = some (.ref f)) (hk : PySem.W.keepIn X.K (.ref f) = true)
    (hb : Binds X.K fd ps []) (hx : ∀ σ, PassesAt (L2.CX X.prog X.w) X σ (E σ)) (ha : PA X (e :: es) t) (hdb : (x == ("__debug__" : Str)) = false) (he : starEach (e :: es) X.env = (false, eval e X.env) :: starEach es X.env) (hpl : (backTo pos (starEach es X.env)).any (·.1) = false) :
    PE X (.Call (.Name x p) (e :: es) [] pos) (tCallS sp E t) := ⟨fun pins s σ H Q I h => by
  refine wpAny_Call_Name_kw (ld_glob I hg hm (PySem.W.callWith_K (h₀ := X.base) I.ok.mod.kin hk (thn (ha.run pos pins s σ H _ I h) fun us s1 ⟨vs, H1, I1, r, q⟩ => ⟨I1.kIn, ?_⟩) he hpl) hdb)
  have b := hb s1 us I1.kIn (by rw [List.append_nil, ← r.length]; exact F.lg _ _ _ _ q)
  rw [List.append_nil] at b
  refine wpAny_call (codeAny_mono (F.go X.A X.stack s1 H1 ⟨us, []⟩ us vs Q (E σ) gd hr I1.env0 b r q) fun r s2 hq => ?_)
  match r, hq with
  | .error ev, hq => exact hx σ pins H1 s1 ev s2 I1 hq
  | .ok (.ret u), hq => exact I1.after hq
  | .ok .next, hq => exact hq.elim
  | .ok .brk, hq => exact hq.elim
  | .ok .cont, hq => exact hq.elim⟩
/-- x is a def that does f -/
structure Cal (P : Program) (w : World) (K : PySem.W.Frag) (mg : Str → Option Value) (base : Heap) (x : Str) (n k : Nat) (f : Fn) : Prop where
  ex : ∃ (a : Addr) (fd : FuncData) (ps : List Str), mg x = some (.ref a) ∧ PySem.W.keepIn K (.ref a) = true ∧ Binds K fd ps [] ∧ FnG P w K mg base k a fd ps (spS K mg n f)
  ar : ∀ ds C, f ds C ≠ none → ds.length = n
theorem Cal.mono {P : Program} {w : World} {base : Heap} {x : Str} {n j k : Nat} {f : Fn} (h : Cal P w K mg base x n j f) (hk : j ≤ k) : Cal P w K mg base x n k f := by
  obtain ⟨a, fd, ps, h1, h2, h3, h4⟩ := h.ex
  exact ⟨⟨a, fd, ps, h1, h2, h3, h4.mono hk⟩, h.ar⟩
def xCall (f : Fn) (s : S (List D)) : S D := S.bind s fun ds _ C => f ds C
theorem goCall {f : Fn} {n : Nat} (ar : ∀ ds C, f ds C ≠ none → ds.length = n) {s : S (List D)} {σ : L2.St} {H : Hp} {Q : VK} (h : tE X.K X.mg W (xCall f s) σ H Q) :
    tCallS (spS X.K X.mg n f) (WE W.w) (tA X.K X.mg W s) σ H Q := by
  obtain ⟨Hf, F, ρ, env, C, S0, E0, g⟩ := h
  refine ⟨Hf, F, ρ, env, C, S0, E0, (Go.bind g).mono fun vs H1 ⟨Hf1, ρ1, C1, ds, e1, p1, S1, A1, g1⟩ => ?_⟩
  have hn : f ds C1 ≠ none := fun z => by
    have g2 : Go X.K X.mg W (Dat X.K) σ Hf1 F ρ1 (f ds C1) Q := g1
    rw [z] at g2
    exact g2
  refine ⟨by rw [A1.len]; exact ar _ _ hn, Hf1, F, ρ1, C1, ds, S1, A1, ?_⟩
  have g2 : Go X.K X.mg W (Dat X.K) σ Hf1 F ρ1 (f ds C1) Q := g1
  cases hr : f ds C1 with
  | none => exact absurd hr hn
  | some r =>
    rw [hr] at g2
    cases r with
    | ok d C' => exact g2
    | ex c p C' => exact g2
theorem se_call {x : Str} {p pos : Pos} {e : Expr} {es : List Expr} {n k : Nat} {f : Fn} {s : S (List D)} (c : Cal X.prog X.w X.K X.mg X.base x n k f) (tk : Takes X W.w) (hr : Room k X.A) (gd : X.A.guards = some []) (hg : Gl X x) (ha : SA X W (e :: es) s)
    (hdb : (x == ("__debug__" : Str)) = false) (he : starEach (e :: es) X.env = (false, eval e X.env) :: starEach es X.env) (hpl : (backTo pos (starEach es X.env)).any (·.1) = false) : SE X W (.Call (.Name x p) (e :: es) [] pos) (xCall f s) := by
  obtain ⟨a, fd, ps, h1, h2, h3, h4⟩ := c.ex
  exact pe_imp (pe_callG h4 gd hr hg h1 h2 h3 (fun σ => passAt tk σ) ha hdb he hpl) fun σ H Q h => goCall c.ar h
/-- a def: n parameters, m names, its body -/
def fin (n : Nat) (d : D) (C : Cells) : Option (R D) :=
  if nocel d = true then some (.ok d (C.take n)) else match d with
    | .cel m => if m < n then some (.ok d (C.take n)) else match C[m]? with
      | some (some o) => some (.ok (.cel n) (C.take n ++ [some o]))
      | _ => none
    | _ => none
def xDef (n m : Nat) (b : SS) : Fn := fun ds C => if ds.length = n then match b (ds.map some ++ List.replicate (m - n) none) C with
    | some (.nx _ C') => some (.ok .non (C'.take C.length))
    | some (.ret d C') => fin C.length d C'
    | some (.ex c p _ C') => match p with
      | none => some (.ex c none (C'.take C.length))
      | some (f, d) => if nocel d = true then some (.ex c (some (f, d)) (C'.take C.length)) else none
    | _ => none
  else none
theorem xDef_ar {n m : Nat} {b : SS} (ds : List D) (C : Cells) (h : xDef n m b ds C ≠ none) : ds.length = n := by
  unfold xDef at h
  split at h
  · assumption
  · exact absurd rfl h
theorem env_start {Hf : Hp} {ρ : List Addr} {N : List Str} {vs : List V} {ds : List D} (h : Dats K Hf ρ vs ds) (n : Nat) (hn : ds.length = n) : EnvR K mg none Hf ρ (L2.start N vs) (ds.map some ++ List.replicate (N.length - n) none) := by
  have hl := h.len
  refine ⟨?_, fun i d hi _ => ?_, fun _ _ _ _ _ _ _ hx => nomatch hx⟩
  · unfold L2.start
    rw [List.length_append, List.length_append, List.length_map, List.length_map, List.length_replicate, List.length_replicate, hl, hn]
  · by_cases hlt : i < ds.length
    · rw [List.getElem?_append_left (by rw [List.length_map]; exact hlt), List.getElem?_map] at hi
      cases e : ds[i]? with
      | none =>
        rw [e] at hi
        cases hi
      | some d' =>
        rw [e] at hi
        have e' : d' = d := Option.some.inj (Option.some.inj hi)
        subst e'
        obtain ⟨v, h1, h2⟩ := h.get e
        refine ⟨v, ?_, h2⟩
        unfold L2.start
        rw [List.getElem?_append_left (by rw [List.length_map, hl]; exact hlt), List.getElem?_map, h1]
        rfl
    · rw [List.getElem?_append_right (by rw [List.length_map]; omega), List.getElem?_replicate] at hi
      split at hi <;> cases hi
theorem pre_take {ρ ρ' : List Addr} (p : ρ <+: ρ') : ρ'.take ρ.length = ρ := by
  obtain ⟨t, rfl⟩ := p
  simp
/-- what is told of a def's body is told of the def -/
theorem goDef {N : List Str} {n : Nat} {b : SS} {E : XK} {vs : List V} {H : Hp} {Q : VK} (h : spS K mg n (xDef n N.length b) vs H Q E) : tS K mg (WF E) b { nx := fun _ H' => Q .non H', rt := Q } (L2.start N vs) H := by
  obtain ⟨hv, Hf, F, ρ, C, ds, S0, D0, g⟩ := h
  have hn : ds.length = n := by rw [← D0.len]; exact hv
  refine ⟨Hf, F, ρ, _, C, S0, env_start D0 n hn, ?_⟩
  unfold xDef at g
  rw [if_pos hn] at g
  have back : ∀ {ρ' : List Addr} {C' : Cells} {H' Hf' : Hp}, ρ <+: ρ' → SR K Hf' F ρ' C' H' → SR K Hf' F ρ (C'.take C.length) H' := fun {ρ' C' H' Hf'} p s => by
    have q := s.cut C.length
    rw [← S0.len, pre_take p, S0.len] at q
    exact q
  cases hb : b (ds.map some ++ List.replicate (N.length - n) none) C with
  | none =>
    rw [hb] at g
    exact g
  | some r =>
    rw [hb] at g
    cases r with
    | nx e C' => exact fun σ' H' Hf' ρ' e1 p1 s1 n1 => g .non H' Hf' ρ e1 (List.prefix_refl _) (back p1 s1) .non
    | bk e C' => exact g.elim
    | ct e C' => exact g.elim
    | ex c p e C' =>
      cases p with
      | none => exact fun cls dd σ' H' Hf' ρ' e1 p1 s1 n1 ⟨a, x1, x2, x3⟩ => g cls dd H' Hf' ρ e1 (List.prefix_refl _) (back p1 s1) ⟨a, x1, x2, x3⟩
      | some q =>
        obtain ⟨f, d⟩ := q
        simp only [] at g
        split at g
        · rename_i nc
          exact fun cls dd σ' H' Hf' ρ' e1 p1 s1 n1 ⟨a, x1, x2, b', v, x3, x4, x5⟩ => g cls dd H' Hf' ρ e1 (List.prefix_refl _) (back p1 s1) ⟨a, x1, x2, b', v, x3, x4, (x5.bare nc).mono (Same.refl _) List.nil_prefix⟩
        · exact g.elim
    | ret d C' =>
      refine fun v H' Hf' ρ' e1 p1 s1 d1 => ?_
      simp only [] at g
      unfold fin at g
      split at g
      · rename_i nc
        exact g v H' Hf' ρ e1 (List.prefix_refl _) (back p1 s1) ((d1.bare nc).mono (Same.refl _) List.nil_prefix)
      · split at g
        · rename_i m hnc
          cases d1 with
          | @cel _ a hm =>
            split at g
            · rename_i hlt
              refine g (.ref a) H' Hf' ρ e1 (List.prefix_refl _) (back p1 s1) (.cel ?_)
              obtain ⟨t, rfl⟩ := p1
              rw [List.getElem?_append_left (by rw [S0.len]; exact hlt)] at hm
              exact hm
            · rename_i hge
              split at g
              · rename_i o ho
                obtain ⟨k1, k2⟩ := s1.cel m a o hm ho
                have s2 := back p1 s1
                have lenC : (C'.take C.length).length = C.length := by
                  have := s2.len
                  rw [S0.len] at this
                  exact this.symm
                refine g (.ref a) H' Hf' (ρ ++ [a]) e1 (List.prefix_append _ _) ⟨s2.ex, s2.fr, s2.ap, by rw [List.length_append, List.length_append, s2.len]; rfl, fun i b u h1 h2 => ?_, fun i j b u w h1 h2 h3 h4 => ?_, s2.tab, s2.nt⟩ (.cel (by rw [← S0.len, List.getElem?_append_right (Nat.le_refl _), Nat.sub_self]; rfl))
                · by_cases hi : i < ρ.length
                  · rw [List.getElem?_append_left hi] at h1
                    rw [List.getElem?_append_left (by rw [lenC, ← S0.len]; exact hi)] at h2
                    exact s2.cel i b u h1 h2
                  · have hi' := (List.getElem?_eq_some_iff.mp h1).1
                    rw [List.length_append] at hi'
                    have hone : ([a] : List Addr).length = 1 := rfl
                    have ei : i = ρ.length := by omega
                    subst ei
                    rw [List.getElem?_append_right (Nat.le_refl _), Nat.sub_self] at h1
                    rw [List.getElem?_append_right (by rw [lenC, S0.len]; exact Nat.le_refl _), lenC, S0.len, Nat.sub_self] at h2
                    have eb : a = b := Option.some.inj h1
                    have eu : o = u := Option.some.inj (Option.some.inj h2)
                    subst eb
                    subst eu
                    exact ⟨k1, k2⟩
                · -- where a cell of the new table stood before
                  have org : ∀ {i : Nat} {u : Ob}, (ρ ++ [a])[i]? = some b → (C'.take C.length ++ [some o])[i]? = some (some u) → ∃ i', ρ'[i']? = some b ∧ (∃ u', C'[i']? = some (some u')) ∧ (i < ρ.length → i' = i) ∧ (¬ i < ρ.length → i' = m ∧ i = ρ.length) := fun {i u} g1 g2 => by
                    by_cases hi : i < ρ.length
                    · rw [List.getElem?_append_left hi] at g1
                      rw [List.getElem?_append_left (by rw [lenC, ← S0.len]; exact hi)] at g2
                      refine ⟨i, pre_get p1 g1, ⟨u, ?_⟩, fun _ => rfl, fun z => absurd hi z⟩
                      rw [List.getElem?_take, if_pos (by rw [← S0.len]; exact hi)] at g2
                      exact g2
                    · have hi' := (List.getElem?_eq_some_iff.mp g1).1
                      rw [List.length_append] at hi'
                      have hone : ([a] : List Addr).length = 1 := rfl
                      have ei : i = ρ.length := by omega
                      subst ei
                      rw [List.getElem?_append_right (Nat.le_refl _), Nat.sub_self] at g1
                      have eb : a = b := Option.some.inj g1
                      subst eb
                      exact ⟨m, hm, ⟨o, ho⟩, fun z => absurd z hi, fun _ => ⟨rfl, rfl⟩⟩
                  obtain ⟨i', a1, ⟨u', a2⟩, a3, a4⟩ := org h1 h3
                  obtain ⟨j', b1, ⟨w', b2⟩, b3, b4⟩ := org h2 h4
                  have e := s1.inj i' j' b u' w' a1 b1 a2 b2
                  have hm0 : ρ.length ≤ m := by rw [S0.len]; omega
                  by_cases hi : i < ρ.length
                  · by_cases hj : j < ρ.length
                    · rw [← a3 hi, ← b3 hj, e]
                    · have := a3 hi
                      have := (b4 hj).1
                      omega
                  · by_cases hj : j < ρ.length
                    · have := b3 hj
                      have := (a4 hi).1
                      omega
                    · rw [(a4 hi).2, (b4 hj).2]
              · exact g.elim
        · exact g.elim
end
end Sm
end
section
set_option maxRecDepth 100000
set_option maxHeartbeats 0
namespace Sm
variable [Tabs0]
open PySem L2
variable {K : PySem.W.Frag} {mg : Str → Option Value}

/-! ### sameness of data, decided -/
mutual
def deq : D → D → Bool
  | .non, .non => true
  | .bl a, .bl b => a == b
  | .int a, .int b => a == b
  | .str a, .str b => a == b
  | .tup a, .tup b => deqs a b
  | .lst a, .lst b => deqs a b
  | .cel a, .cel b => a == b
  | .opq a, .opq b => decide (a = b)
  | .fn a, .fn b => a == b
  | .err a b c, .err a' b' c' => a == a' && b == b' && deq c c'
  | .dk a b, .dk a' b' => decide (a = a') && deqs b b'
  | .dt a b, .dt a' b' => decide (a = a') && deqs b b'
  | _, _ => false
def deqs : List D → List D → Bool
  | [], [] => true
  | a :: r, b :: t => deq a b && deqs r t
  | _, _ => false
end
mutual
theorem deq_eq : ∀ (a b : D), deq a b = true → a = b
  | .non, b, h => by cases b <;> simp [deq] at h ⊢
  | .bl a, b, h => by cases b <;> simp [deq] at h ⊢; exact h
  | .int a, b, h => by cases b <;> simp [deq] at h ⊢; exact h
  | .str a, b, h => by cases b <;> simp [deq] at h ⊢; exact h
  | .tup a, b, h => by
    cases b <;> simp [deq] at h ⊢
    exact deqs_eq _ _ h
  | .lst a, b, h => by
    cases b <;> simp [deq] at h ⊢
    exact deqs_eq _ _ h
  | .cel a, b, h => by cases b <;> simp [deq] at h ⊢; exact h
  | .opq a, b, h => by cases b <;> simp [deq] at h ⊢; exact h
  | .fn a, b, h => by cases b <;> simp [deq] at h ⊢; exact h
  | .err a b c, d, h => by
    cases d <;> simp [deq] at h ⊢
    exact ⟨h.1.1, h.1.2, deq_eq _ _ h.2⟩
  | .dk a b, d, h => by
    cases d <;> simp [deq] at h ⊢
    exact ⟨h.1, deqs_eq _ _ h.2⟩
  | .dt a b, d, h => by
    cases d <;> simp [deq] at h ⊢
    exact ⟨h.1, deqs_eq _ _ h.2⟩
theorem deqs_eq : ∀ (a b : List D), deqs a b = true → a = b
  | [], b, h => by cases b <;> simp [deqs] at h ⊢
  | a :: r, b, h => by
    cases b with
    | nil => simp [deqs] at h
    | cons c t =>
      simp [deqs] at h
      rw [deq_eq a c h.1, deqs_eq r t h.2]
end
mutual
theorem deq_self : ∀ a : D, deq a a = true
  | .non => rfl
  | .bl a => by simp [deq]
  | .int a => by simp [deq]
  | .str a => by simp [deq]
  | .tup a => by simp [deq, deqs_self a]
  | .lst a => by simp [deq, deqs_self a]
  | .cel a => by simp [deq]
  | .opq a => by simp [deq]
  | .fn a => by simp [deq]
  | .err a b c => by simp [deq, deq_self c]
  | .dk a b => by simp [deq, deqs_self b]
  | .dt a b => by simp [deq, deqs_self b]
theorem deqs_self : ∀ a : List D, deqs a a = true
  | [] => rfl
  | a :: r => by simp [deqs, deq_self a, deqs_self r]
end

/-- an object that changes no more is locked -/
theorem pe_lockP {e : Expr} {t : TE} (h : PE X e t) : PE X e (fun σ H Q => t σ H fun x H1 => ∃ d u, x = .ref d ∧ H1 d = some u ∧ Mut (some u) ∧ ∀ od, Q x (upd H1 d (.frz od u))) := by
  refine ⟨fun pins s σ H Q I hw => ?_⟩
  refine thn (h.run pins s σ H _ I hw) fun v s1 ⟨x, H1, I1, r, d, u, ex, hd, mu, q⟩ => ?_
  obtain ⟨od, I2⟩ := I1.lock hd mu
  exact ⟨x, _, I2, r, q od⟩
/-! ### what is walked -/
abbrev Gd := Cells → Bool
def gd0 : Gd := fun _ => true
/-- the n-th cell still holds ds -/
def gdC (n : Nat) (ds : List D) : Gd := fun C => match C[n]? with
  | some (some (.l es)) => deqs es ds
  | _ => false
def Wk (K : PySem.W.Frag) (Hf : Hp) (ρ : List Addr) (J : It) (p : List D × Gd) : Prop := ∀ (i : Nat) (Hf' F' : Hp) (ρ' : List Addr) (C' : Cells) (H' : Hp), Same Hf Hf' → ρ <+: ρ' → SR K Hf' F' ρ' C' H' → p.2 C' = true →
  (i < p.1.length → J.go i H' ∧ ∀ x H2, J.yld i H' x H2 → ∃ d Hf2, p.1[i]? = some d ∧ Same Hf' Hf2 ∧ SR K Hf2 F' ρ' C' H2 ∧ Dat K Hf2 ρ' x d) ∧ (p.1.length ≤ i → J.stop i H')
theorem Wk.later {Hf Hf' : Hp} {ρ ρ' : List Addr} {J : It} {p : List D × Gd} (h : Wk K Hf ρ J p) (e : Same Hf Hf') (q : ρ <+: ρ') : Wk K Hf' ρ' J p := fun i Hf2 F2 ρ2 C2 H2 e2 q2 => h i Hf2 F2 ρ2 C2 H2 (e.trans e2) (q.trans q2)
abbrev SW := S (List D × Gd)
def tI (K : PySem.W.Frag) (mg : Str → Option Value) (W : Wh) (s : SW) : TI := tG K mg W (Wk K) s
def SI (X : Cx) (W : Wh) (tg e : Expr) (s : SW) : Prop := PI X tg e (tI X.K X.mg W s)
/-- the items of a list, a tuple, a changing list -/
def items (d : D) (C : Cells) : Option (List D × Gd) := match d with
  | .lst ds => some (ds, gd0)
  | .tup ds => some (ds, gd0)
  | .cel n => match C[n]? with
    | some (some (.l ds)) => some (ds, gdC n ds)
    | _ => none
  | .dt ks _ => some (ks.map kT, gd0)
  | .dk ks _ => some (ks.map kD, gd0)
  | _ => none
def iV (s : S D) : SW := S.bind s fun d env C => S.opt (items d C) env C
section
variable {X : Cx} {W : Wh}
theorem wk_l {Hf : Hp} {ρ : List Addr} {a : Addr} {ds : List D} {g : Gd} (h : ∀ Hf' F' ρ' C' H', Same Hf Hf' → ρ <+: ρ' → SR K Hf' F' ρ' C' H' → g C' = true → ∃ xs, SqL K H' a xs ∧ Dats K Hf' ρ' xs ds) :
    Wk K Hf ρ (Itl K a) (ds, g) := fun i Hf' F' ρ' C' H' e p S0 hg => by
  obtain ⟨xs, hx, hd⟩ := h Hf' F' ρ' C' H' e p S0 hg
  have hl := hd.len
  refine ⟨fun hi => ?_, fun hi => ⟨xs, hx, by rw [hl]; exact hi⟩⟩
  have hi' : i < xs.length := by rw [hl]; exact hi
  refine ⟨⟨xs, xs[i], hx, List.getElem?_eq_getElem hi'⟩, fun x H2 hy => ?_⟩
  obtain ⟨e2, hy⟩ := hy
  subst e2
  obtain ⟨d, h1, h2⟩ := hd.getV (hy xs hx)
  exact ⟨d, Hf', h1, Same.refl _, S0, h2⟩
theorem wk_t {Hf : Hp} {ρ : List Addr} {a : Addr} {xs : List V} {ds : List D} (hx : SqT K Hf a xs) (hd : Dats K Hf ρ xs ds) : Wk K Hf ρ (Itt K a) (ds, gd0) := fun i Hf' F' ρ' C' H' e p S0 hg => by
  have hl := hd.len
  have hx' : SqT K H' a xs := same_t S0.ex (same_t e hx)
  refine ⟨fun hi => ?_, fun hi => ⟨xs, hx', by rw [hl]; exact hi⟩⟩
  have hi' : i < xs.length := by rw [hl]; exact hi
  refine ⟨⟨xs, xs[i], hx', List.getElem?_eq_getElem hi'⟩, fun x H2 hy => ?_⟩
  obtain ⟨e2, hy⟩ := hy
  subst e2
  obtain ⟨d, h1, h2⟩ := (hd.mono e p).getV (hy xs hx')
  exact ⟨d, Hf', h1, Same.refl _, S0, h2⟩
theorem wk_dt {Hf : Hp} {ρ : List Addr} {a : Addr} {o : Obj} {ks : List (List Key)} {xs : List V} (hx : Hf a = some (.frz o (.dT (ks.zip xs)))) (hl : ks.length = xs.length) : Wk K Hf ρ (Itkt a o (ks.zip xs)) (ks.map kT, gd0) := fun i Hf' F' ρ' C' H' e p S0 hg => by
  have hlz : (ks.zip xs).length = ks.length := by rw [List.length_zip]; omega
  have hH := S0.ex _ _ (e _ _ hx)
  refine ⟨fun hi => ?_, fun hi => ⟨hH, by rw [hlz]; simpa using hi⟩⟩
  have hi' : i < ks.length := by simpa using hi
  refine ⟨⟨hH, by rw [hlz]; exact hi'⟩, fun x H2 ⟨e2, k, v, q, h1, h2, h3⟩ => ?_⟩
  subst e2 h2
  obtain ⟨Hf2, e3, S2, h4⟩ := S0.addTup h3
  have hk : ks[i]? = some k := by
    rw [List.getElem?_zip_eq_some] at h1
    exact h1.1
  exact ⟨kT k, Hf2, by rw [List.getElem?_map, hk]; rfl, e3, S2, .tup h4 (Dats.kVs k)⟩
theorem wk_dk {Hf : Hp} {ρ : List Addr} {a : Addr} {o : Obj} {ks : List Key} {xs : List V} (hx : Hf a = some (.frz o (.dK (ks.zip xs)))) (hl : ks.length = xs.length) : Wk K Hf ρ (Itk a o (ks.zip xs)) (ks.map kD, gd0) := fun i Hf' F' ρ' C' H' e p S0 hg => by
  have hlz : (ks.zip xs).length = ks.length := by rw [List.length_zip]; omega
  have hH := S0.ex _ _ (e _ _ hx)
  refine ⟨fun hi => ?_, fun hi => ⟨hH, by rw [hlz]; simpa using hi⟩⟩
  have hi' : i < ks.length := by simpa using hi
  refine ⟨⟨hH, by rw [hlz]; exact hi'⟩, fun x H2 ⟨e2, k, v, h1, h2⟩ => ?_⟩
  subst e2 h2
  have hk : ks[i]? = some k := by
    rw [List.getElem?_zip_eq_some] at h1
    exact h1.1
  exact ⟨kD k, Hf', by rw [List.getElem?_map, hk]; rfl, Same.refl _, S0, Dat.kV k⟩
/-- what iterating over a value needs: a list's or a tuple's items -/
def rIt (K : PySem.W.Frag) (x : V) (H1 : Hp) (R : It → Hp → Prop) : Prop := ∃ a, x = .ref a ∧ ((∃ xs, SqL K H1 a xs ∧ R (Itl K a) H1) ∨ (∃ xs, SqT K H1 a xs ∧ R (Itt K a) H1) ∨ (∃ o kvs, H1 a = some (.frz o (.dT kvs)) ∧ R (Itkt a o kvs) H1) ∨ ∃ o kvs, H1 a = some (.frz o (.dK kvs)) ∧ R (Itk a o kvs) H1)
theorem items_ok {Hf F : Hp} {ρ : List Addr} {C : Cells} {H : Hp} {v : V} {d : D} {p : List D × Gd} {R : It → Hp → Prop} (S0 : SR K Hf F ρ C H) (h : Dat K Hf ρ v d) (hp : items d C = some p) (k : ∀ J, Wk K Hf ρ J p → R J H) : rIt K v H R := by
  cases h with
  | @tup a xs ds h hs =>
    have e := Option.some.inj hp
    subst e
    exact ⟨a, rfl, .inr (.inl ⟨xs, .inl (.inl (S0.ex _ _ h)), k _ (wk_t (.inl (.inl h)) hs)⟩)⟩
  | @lst a xs ds h hs =>
    have e := Option.some.inj hp
    subst e
    exact ⟨a, rfl, .inl ⟨xs, same_l S0.ex h, k _ (wk_l fun Hf' F' ρ' C' H' e q S1 _ => ⟨xs, same_l S1.ex (same_l e h), hs.mono e q⟩)⟩⟩
  | @cel n a h =>
    unfold items at hp
    simp only [] at hp
    split at hp
    · rename_i ds hc
      have e := Option.some.inj hp
      subst e
      obtain ⟨_, k2⟩ := S0.cel n a _ h hc
      obtain ⟨vs, hv, hd⟩ := k2.lst
      refine ⟨a, rfl, .inl ⟨vs, .inl (.inl hv), k _ (wk_l fun Hf' F' ρ' C' H' e q S1 hg => ?_)⟩⟩
      unfold gdC at hg
      split at hg
      · rename_i es hc'
        have := deqs_eq _ _ hg
        subst this
        obtain ⟨_, k3⟩ := S1.cel n a _ (pre_get q h) hc'
        obtain ⟨vs', hv', hd'⟩ := k3.lst
        exact ⟨vs', .inl (.inl hv'), hd'.mono (Same.refl _) List.nil_prefix⟩
      · cases hg
    · cases hp
  | @dt a ks xs ds h hl hs =>
    have e := Option.some.inj hp
    subst e
    obtain ⟨o, h⟩ := h
    exact ⟨a, rfl, .inr (.inr (.inl ⟨o, _, S0.ex _ _ h, k _ (wk_dt h hl)⟩))⟩
  | @dk a ks xs ds h hl hs =>
    have e := Option.some.inj hp
    subst e
    obtain ⟨o, h⟩ := h
    exact ⟨a, rfl, .inr (.inr (.inr ⟨o, _, S0.ex _ _ h, k _ (wk_dk h hl)⟩))⟩
  | _ => cases hp
theorem pi_seq {tg l : Expr} {tl : TE} (hl : PE X l tl) : PI X tg l (fun σ H R => tl σ H fun x H1 => rIt X.K x H1 R) := by
  refine ⟨fun pins s σ H R I h => thn (hl.run pins s σ H _ I h) fun v s1 hh => ?_⟩
  obtain ⟨x, H1, I1, r1, a, e, q⟩ := hh
  subst e
  obtain rfl : v = Value.ref a := r1
  have one : ∀ b, b ∈ [s1.heap.objs.size] → FpOk X pins H1 b := fun b hb => by
    rw [List.mem_singleton.mp hb]
    exact I1.fpOk (Nat.le_refl _) I1.fresh
  rcases q with ⟨xs, hq, q⟩ | ⟨xs, hq, q⟩ | ⟨o, kvs, hd, q⟩ | ⟨o, kvs, hd, q⟩
  rotate_left 3
  · obtain ⟨hs, hgd, hx, es, ep, vs, hdt, hsz, ent⟩ := I1.frzK hd
    refine iter_keys hs hgd hx hdt (pi_one (tk := s1.toks) I1 _ (turn_keys _ hdt) ⟨_, Heap.get?_push_size _ rfl, rfl, ?_⟩ q)
    rw [hsz] <;> rfl
  rotate_left 2
  · obtain ⟨hs, hgd, hx, es, ep, hdt, hsz, ent⟩ := I1.frzT hd
    refine iter_keys hs hgd hx hdt (pi_one (tk := s1.toks) I1 _ (turn_keysT _ hdt) ⟨_, Heap.get?_push_size _ rfl, rfl, ?_⟩ q)
    rw [hsz] <;> rfl
  · obtain ⟨its, rv, p, hz⟩ := I1.list hq
    exact wpAny_pyIter_list p.isList ⟨s1.heap.objs.size, [s1.heap.objs.size], _, Itl X.K a, H1, rfl, I1.kept (t' := s1.toks) (fun b o e => Heap.get?_push_of_some _ e),
      turn_list a _, ⟨_, Heap.get?_push_size _ rfl, rfl, rfl⟩, one, q⟩
  · obtain ⟨its, rv, p, hz⟩ := I1.tuple hq
    exact wpAny_pyIter_tuple (show s1.heap.IsTuple a its.toArray from p) ⟨s1.heap.objs.size, [s1.heap.objs.size], _, Itt X.K a, H1, rfl, I1.kept (t' := s1.toks) (fun b o e => Heap.get?_push_of_some _ e),
      turn_tuple a _, ⟨_, Heap.get?_push_size _ rfl, rfl, rfl⟩, one, q⟩
theorem pi_imp {tg l : Expr} {t u : TI} (h : PI X tg l t) (k : ∀ σ H R, u σ H R → t σ H R) : PI X tg l u := ⟨fun pins s σ H R I q => h.run pins s σ H R I (k σ H R q)⟩
theorem si_val {tg l : Expr} {s : S D} (h : SE X W l s) : SI X W tg l (iV s) := pi_imp (pi_seq h) fun σ H R ⟨Hf, F, ρ, env, C, S0, E0, g⟩ =>
  ⟨Hf, F, ρ, env, C, S0, E0, (Go.bind g).mono fun v H1 ⟨Hf1, ρ1, C1, a, e1, p1, S1, A1, g1⟩ => by
    obtain ⟨p, hp, g2⟩ := Go.opt g1
    exact items_ok S1 A1 hp fun J w => g2 J H1 Hf1 ρ1 (Same.refl _) (List.prefix_refl _) S1 w⟩
/-! ### ranges -/
def zs (lo : Int) (n : Nat) : List D := (List.range n).map fun i => D.int (lo + (i : Nat))
theorem zs_len (lo : Int) (n : Nat) : (zs lo n).length = n := by
  unfold zs
  rw [List.length_map, List.length_range]
theorem zs_get {lo : Int} {n i : Nat} (h : i < n) : (zs lo n)[i]? = some (.int (lo + (i : Nat))) := by
  unfold zs
  rw [List.getElem?_map, List.getElem?_range h]
  rfl
theorem wk_r {Hf : Hp} {ρ : List Addr} {lo : Int} {n : Nat} : Wk K Hf ρ (Itr lo n) (zs lo n, gd0) := fun i Hf' F' ρ' C' H' e p S0 hg => by
  have hl : ((zs lo n, gd0) : List D × Gd).1.length = n := zs_len lo n
  refine ⟨fun hi => ⟨show i < n by omega, fun x H2 hy => ?_⟩, fun hi => show n ≤ i by omega⟩
  obtain ⟨e2, hy⟩ := hy
  subst e2
  subst hy
  exact ⟨_, Hf', zs_get (by omega), Same.refl _, S0, .int _⟩
/-- small enough for a range; told by the constructors, so that the kernel never counts down such numbers -/
def inRng : Int → Bool
  | .ofNat n => Nat.ble n 4611686018427387903
  | .negSucc n => Nat.ble n 4611686018427387903
theorem inRng_iff {j : Int} : inRng j = true ↔ -4611686018427387904 ≤ j ∧ j < 4611686018427387904 := by
  cases j with
  | ofNat n =>
    rw [show inRng (.ofNat n) = Nat.ble n 4611686018427387903 from rfl, Nat.ble_eq, Int.ofNat_eq_natCast]
    omega
  | negSucc n =>
    rw [show inRng (.negSucc n) = Nat.ble n 4611686018427387903 from rfl, Nat.ble_eq]
    omega
def rng1 (ds : List D) : Option (List D × Gd) := match ds with
  | [.int j] => if inRng j = true then some (zs 0 j.toNat, gd0) else none
  | _ => none
def rng2 (ds : List D) : Option (List D × Gd) := match ds with
  | [.int i, .int j] => if inRng i = true ∧ inRng j = true then some (zs i (j - i).toNat, gd0) else none
  | _ => none
def iR1 (s : S (List D)) : SW := S.bind s fun ds => S.opt (rng1 ds)
def iR2 (s : S (List D)) : SW := S.bind s fun ds => S.opt (rng2 ds)
theorem si_r1 {tg a : Expr} {p pos : Pos} {s : S (List D)} (h : PI X tg (.Call (.Name "range" p) [a] [] pos) (iRng1 (tA X.K X.mg W s))) : SI X W tg (.Call (.Name "range" p) [a] [] pos) (iR1 s) := pi_imp h fun σ H R ⟨Hf, F, ρ, env, C, S0, E0, g⟩ =>
  ⟨Hf, F, ρ, env, C, S0, E0, (Go.bind g).mono fun vs H1 ⟨Hf1, ρ1, C1, ds, e1, p1, S1, A1, g1⟩ => by
    obtain ⟨q, hq, g2⟩ := Go.opt g1
    unfold rng1 at hq
    split at hq
    · rename_i j
      split at hq
      · rename_i hj
        have hj := inRng_iff.mp hj
        have e := Option.some.inj hq
        subst e
        cases A1 with
        | cons h1 h2 =>
          cases h1
          cases h2
          exact ⟨j, rfl, hj.1, hj.2, g2 _ H1 Hf1 ρ1 (Same.refl _) (List.prefix_refl _) S1 wk_r⟩
      · cases hq
    · cases hq⟩
theorem si_r2 {tg a b : Expr} {p pos : Pos} {s : S (List D)} (h : PI X tg (.Call (.Name "range" p) [a, b] [] pos) (iRng2 (tA X.K X.mg W s))) : SI X W tg (.Call (.Name "range" p) [a, b] [] pos) (iR2 s) := pi_imp h fun σ H R ⟨Hf, F, ρ, env, C, S0, E0, g⟩ =>
  ⟨Hf, F, ρ, env, C, S0, E0, (Go.bind g).mono fun vs H1 ⟨Hf1, ρ1, C1, ds, e1, p1, S1, A1, g1⟩ => by
    obtain ⟨q, hq, g2⟩ := Go.opt g1
    unfold rng2 at hq
    split at hq
    · rename_i i j
      split at hq
      · rename_i hj
        have hj := And.intro (inRng_iff.mp hj.1) (inRng_iff.mp hj.2)
        have e := Option.some.inj hq
        subst e
        cases A1 with
        | cons h1 h2 =>
          cases h1
          cases h2 with
          | cons h3 h4 =>
            cases h3
            cases h4
            exact ⟨i, j, rfl, ⟨hj.1.1, hj.1.2, hj.2.1, hj.2.2⟩, g2 _ H1 Hf1 ρ1 (Same.refl _) (List.prefix_refl _) S1 wk_r⟩
      · cases hq
    · cases hq⟩
/-! ### for -/
def lp (g : Gd) (t : Tg) (b : SS) : List D → SS
  | [] => fun e C => if g C = true then some (.nx e C) else none
  | d :: r => fun e C => if g C = true then match t.put d e with
      | none => none
      | some e1 => match b e1 C with
        | some (.nx e2 C2) => lp g t b r e2 C2
        | some (.ct e2 C2) => lp g t b r e2 C2
        | some (.bk e2 C2) => some (.nx e2 C2)
        | o => o
    else none
def xFor (it : SW) (t : Tg) (b : SS) : SS := xDo it fun p => lp p.2 t b p.1
theorem sc_for {tg iter : Expr} {body : List Stmt} {pos : Pos} {it : SW} {t : Tg} {b : SS} (hp : PassesOwn (model X.prog X.w) X.A X.env X.xe) (hc : X.calm = true) (hi : SI X W tg iter it) (hg : SG X W tg t) (hb : SCs X W body b)
    (hs : ∀ x, foldedSetIterable iter X.env x = pure x) : SC X W (.For tg iter body [] pos) (xFor it t b) :=
  ps_imp (ps_for hp hc hi hg hb hs) fun D σ H ⟨Hf, F, ρ, env, C, S0, E0, g0⟩ => ⟨Hf, F, ρ, env, C, S0, E0, (GoS.doit E0 g0).mono fun J H1 ⟨Hf1, ρ1, C1, p, e1, p1, S1, w1, g1⟩ => by
    obtain ⟨ds, g⟩ := p
    refine ⟨fun i m σ2 H2 => i ≤ ds.length ∧ m = ds.length - i ∧ ∃ Hf2 ρ2 env2 C2, Same Hf1 Hf2 ∧ ρ1 <+: ρ2 ∧ SR X.K Hf2 F ρ2 C2 H2 ∧ EnvR X.K X.mg W.xc Hf2 ρ2 σ2 env2 ∧ GoS X.K X.mg W Hf2 F ρ2 (lp g t b (ds.drop i) env2 C2) D,
      ⟨ds.length, Nat.zero_le _, rfl, Hf1, ρ1, env, C1, Same.refl _, List.prefix_refl _, S1, E0.mono e1 p1, g1⟩, ?_⟩
    rintro i m σ2 H2 ⟨hi, rfl, Hf2, ρ2, env2, C2, e2, p2, S2, E2, g2⟩
    by_cases hlt : i < ds.length
    · rw [List.drop_eq_getElem_cons hlt] at g2
      unfold lp at g2
      split at g2
      · rename_i hgd
        obtain ⟨go, yl⟩ := (w1 i Hf2 F ρ2 C2 H2 e2 p2 S2 hgd).1 hlt
        refine .inr ⟨go, fun σ' H' => ∃ Hf3 ρ3 env3 C3, Same Hf2 Hf3 ∧ ρ2 <+: ρ3 ∧ SR X.K Hf3 F ρ3 C3 H' ∧ EnvR X.K X.mg W.xc Hf3 ρ3 σ' env3 ∧ GoS X.K X.mg W Hf3 F ρ3 (lp g t b (ds.drop (i + 1)) env3 C3) D,
          fun σ' H' ⟨Hf3, ρ3, env3, C3, e3, p3, S3, E3, g3⟩ => ⟨ds.length - (i + 1), by omega, hlt, rfl, Hf3, ρ3, env3, C3, e2.trans e3, p2.trans p3, S3, E3, g3⟩, fun x H3 hy => ?_⟩
        obtain ⟨d, Hf3, hd, e3, S3, D3⟩ := yl x H3 hy
        have ed : ds[i] = d := by
          rw [List.getElem?_eq_getElem hlt] at hd
          exact Option.some.inj hd
        rw [ed] at g2
        cases ht : t.put d env2 with
        | none =>
          rw [ht] at g2
          exact g2.elim
        | some env3 =>
          rw [ht] at g2
          refine ⟨Hf3, F, ρ2, env2, C2, d, S3, E2.mono e3 (List.prefix_refl _), D3, env3, ht, fun σ4 E4 _ => ⟨Hf3, F, ρ2, env3, C2, S3, E4, ?_⟩⟩
          simp only [] at g2
          cases hb' : b env3 C2 with
          | none =>
            rw [hb'] at g2
            exact g2
          | some r =>
            rw [hb'] at g2
            cases r with
            | nx e' C' => exact fun σ' H' Hf' ρ' e4 p4 s4 n4 => ⟨Hf', ρ', e', C', e3.trans e4, p4, s4, n4, (g2.later e3 (List.prefix_refl _)).later e4 p4⟩
            | ct e' C' => exact fun σ' H' Hf' ρ' e4 p4 s4 n4 => ⟨Hf', ρ', e', C', e3.trans e4, p4, s4, n4, (g2.later e3 (List.prefix_refl _)).later e4 p4⟩
            | bk e' C' => exact fun σ' H' Hf' ρ' e4 p4 s4 n4 => g2 σ' H' Hf' ρ' (e3.trans e4) p4 s4 n4
            | ret d' C' => exact fun v H' Hf' ρ' e4 p4 s4 n4 => g2 v H' Hf' ρ' (e3.trans e4) p4 s4 n4
            | ex c q e' C' => exact fun cls dd σ' H' Hf' ρ' e4 p4 s4 n4 x4 => g2 cls dd σ' H' Hf' ρ' (e3.trans e4) p4 s4 n4 x4
      · exact g2.elim
    · have ei : i = ds.length := by omega
      subst ei
      rw [List.drop_eq_nil_of_le (Nat.le_refl _)] at g2
      unfold lp at g2
      split at g2
      · rename_i hgd
        exact .inl ⟨(w1 _ Hf2 F ρ2 C2 H2 e2 p2 S2 hgd).2 (Nat.le_refl _), g2 σ2 H2 Hf2 ρ2 (Same.refl _) (List.prefix_refl _) S2 E2⟩
      · exact g2.elim⟩
/-! ### while -/
def wh (c : S Bool) (b : SS) : Nat → SS
  | 0 => fun _ _ => none
  | n + 1 => xDo c fun k => if k = true then (fun e C => match b e C with
      | some (.nx e2 C2) => wh c b n e2 C2
      | some (.ct e2 C2) => wh c b n e2 C2
      | some (.bk e2 C2) => some (.nx e2 C2)
      | o => o)
    else xNext
theorem sc_while {c : Expr} {body : List Stmt} {pos : Pos} {sc : S Bool} {b : SS} (n : Nat) (hp : PassesOwn (model X.prog X.w) X.A X.env X.xe) (hc : SB X W c sc) (hb : SCs X W body b) : SC X W (.While c body [] pos) (wh sc b n) :=
  ps_imp (ps_while hp hc hb) fun D σ H ⟨Hf, F, ρ, env, C, S0, E0, g0⟩ => by
    refine ⟨fun m σ2 H2 => ∃ Hf2 ρ2 env2 C2, Same Hf Hf2 ∧ ρ <+: ρ2 ∧ SR X.K Hf2 F ρ2 C2 H2 ∧ EnvR X.K X.mg W.xc Hf2 ρ2 σ2 env2 ∧ GoS X.K X.mg W Hf2 F ρ2 (wh sc b m env2 C2) D, ⟨n, Hf, ρ, env, C, Same.refl _, List.prefix_refl _, S0, E0, g0⟩, ?_⟩
    rintro m σ2 H2 ⟨Hf2, ρ2, env2, C2, e2, p2, S2, E2, g2⟩
    cases m with
    | zero => exact g2.elim
    | succ m =>
      unfold wh at g2
      refine ⟨Hf2, F, ρ2, env2, C2, S2, E2, (GoS.doit E2 g2).mono fun k H3 ⟨Hf3, ρ3, C3, k', e3, p3, S3, A3, g3⟩ => ?_⟩
      have A4 : k = k' := A3
      subst A4
      cases k with
      | false => exact g3 σ2 H3 Hf3 ρ3 (Same.refl _) (List.prefix_refl _) S3 (E2.mono e3 p3)
      | true =>
        refine ⟨fun σ' H' => ∃ Hf4 ρ4 env4 C4, Same Hf Hf4 ∧ ρ <+: ρ4 ∧ SR X.K Hf4 F ρ4 C4 H' ∧ EnvR X.K X.mg W.xc Hf4 ρ4 σ' env4 ∧ GoS X.K X.mg W Hf4 F ρ4 (wh sc b m env4 C4) D, fun σ' H' q => ⟨m, Nat.lt_succ_self m, q⟩, Hf3, F, ρ3, env2, C3, S3, E2.mono e3 p3, ?_⟩
        have g4 : GoS X.K X.mg W Hf3 F ρ3 (match b env2 C3 with
          | some (.nx e2 C2) => wh sc b m e2 C2
          | some (.ct e2 C2) => wh sc b m e2 C2
          | some (.bk e2 C2) => some (.nx e2 C2)
          | o => o) D := g3
        cases hb' : b env2 C3 with
        | none =>
          rw [hb'] at g4
          exact g4
        | some r =>
          rw [hb'] at g4
          cases r with
          | nx e' C' => exact fun σ' H' Hf' ρ' e4 p4 s4 n4 => ⟨Hf', ρ', e', C', (e2.trans e3).trans e4, (p2.trans p3).trans p4, s4, n4, g4.later e4 p4⟩
          | ct e' C' => exact fun σ' H' Hf' ρ' e4 p4 s4 n4 => ⟨Hf', ρ', e', C', (e2.trans e3).trans e4, (p2.trans p3).trans p4, s4, n4, g4.later e4 p4⟩
          | bk e' C' => exact g4
          | ret d' C' => exact g4
          | ex c q e' C' => exact g4
/-! ### list comprehensions -/
def wipeE (e : Env) : List Nat → Env
  | [] => e
  | v :: vs => (wipeE e vs).set v none
theorem EnvR.wipe {xc : XC} {Hf : Hp} {ρ : List Addr} {σ : L2.St} {env : Env} (h : EnvR K mg xc Hf ρ σ env) : ∀ vs, EnvR K mg xc Hf ρ (L2.wipe σ vs) (wipeE env vs)
  | [] => h
  | v :: vs => by
    have h1 := EnvR.wipe h vs
    refine ⟨by unfold L2.wipe wipeE; rw [List.length_set, List.length_set]; exact h1.len, fun j d hj n => ?_, fun j a cls dd c f d hx hj => ?_⟩
    all_goals
     unfold wipeE at hj
     unfold L2.wipe
     by_cases hv : v = j
     · subst hv
       by_cases hl : v < (wipeE env vs).length
       · rw [List.getElem?_set_self hl] at hj
         cases hj
       · rw [List.getElem?_eq_none (by rw [List.length_set]; omega)] at hj
         cases hj
     rw [List.getElem?_set_ne hv] at hj ⊢
    · exact h1.at_ j d hj n
    · exact h1.exc j a cls dd c f d hx hj
theorem wipe_get {σ : L2.St} {i : Nat} : ∀ {vs : List Nat}, i ∉ vs → (L2.wipe σ vs)[i]? = σ[i]?
  | [], _ => rfl
  | v :: vs, h => by
    unfold L2.wipe
    rw [List.getElem?_set_ne (fun e => h (by rw [e]; exact List.mem_cons_self)), wipe_get fun z => h (List.mem_cons_of_mem _ z)]
theorem wipe_at {σ : L2.St} {i : Nat} : ∀ {vs : List Nat}, i ∈ vs → i < σ.length → (L2.wipe σ vs)[i]? = some none
  | [], h, _ => by cases h
  | v :: vs, h, hl => by
    unfold L2.wipe
    by_cases hv : v = i
    · subst hv
      exact List.getElem?_set_self (by rw [L2.wipe_length]; exact hl)
    · rw [List.getElem?_set_ne hv]
      exact wipe_at ((List.mem_cons.mp h).resolve_left fun e => hv e.symm) hl
theorem wipe_same {σ σ2 : L2.St} {vs : List Nat} (hl : σ2.length = σ.length) (h : ∀ j, j ∉ vs → σ2[j]? = σ[j]?) : L2.wipe σ2 vs = L2.wipe σ vs := by
  apply List.ext_getElem?
  intro i
  by_cases hi : i ∈ vs
  · by_cases hlt : i < σ.length
    · rw [wipe_at hi hlt, wipe_at hi (by rw [hl]; exact hlt)]
    · rw [List.getElem?_eq_none (by rw [L2.wipe_length]; omega), List.getElem?_eq_none (by rw [L2.wipe_length]; omega)]
  · rw [wipe_get hi, wipe_get hi, h i hi]
theorem wipe_wipe {σ : L2.St} {vs : List Nat} : L2.wipe (L2.wipe σ vs) vs = L2.wipe σ vs := wipe_same (L2.wipe_length _ _) fun j hj => wipe_get hj
/-- the turns of a comprehension: what they give -/
def lcs (g : Gd) (t : Tg) (c : S Bool) (x : S D) : List D → S (List D)
  | [] => fun _ C => if g C = true then some (.ok [] C) else none
  | d :: r => fun e C => if g C = true then match t.put d e with
      | none => none
      | some e1 => match c e1 C with
        | some (.ok true C1) => match x e1 C1 with
          | some (.ok y C2) => match lcs g t c x r e C2 with
            | some (.ok ys C3) => some (.ok (y :: ys) C3)
            | _ => none
          | _ => none
        | some (.ok false C1) => lcs g t c x r e C1
        | _ => none
    else none
def xLc (it : SW) (t : Tg) (c : S Bool) (x : S D) (vs : List Nat) : S (List D) := S.bind it fun p => if p.1.length ≤ 1000000 then (fun e C => lcs p.2 t c x p.1 (wipeE e vs) C) else fun _ _ => none
abbrev W0 : Wh := ⟨fun _ _ _ _ => False, none⟩
/-- a list that is being made stands in the frame -/
theorem SR.intoF {Hf F : Hp} {ρ : List Addr} {C : Cells} {H : Hp} (S : SR K Hf F ρ C H) {p : Addr} {o : HO} (hp : H p = none) (ho : ∀ ps, o ≠ .tbl ps := by intro _ e; cases e) : SR K Hf (upd F p o) ρ C (upd H p o) := by
  have hf : Hf p = none := S.ex.free hp
  refine ⟨fun b u h => ?_, fun b u h => ?_, fun b u h => ?_, S.len, fun n a u h1 h2 => ?_, S.inj, fun t ht => by
    obtain ⟨k1, k2⟩ := S.tab t ht
    have ha := k2.ne hp
    exact ⟨⟨k1.1, by rw [upd_ne ha]; exact k1.2⟩, k2.mono (fun _ _ h => h) fun o h _ => by rw [upd_ne ha]; exact h⟩, fun b ps => ⟨(S.nt b ps).1, fun e => by
    by_cases hb : b = p
    · rw [hb, upd_same] at e
      exact ho ps (Option.some.inj e)
    · rw [upd_ne hb] at e
      exact (S.nt b ps).2 e⟩⟩
  · rw [upd_ne (ne_of_none (S.ex b u h) hp)]
    exact S.ex b u h
  · by_cases hb : b = p
    · subst hb
      rw [upd_same] at h ⊢
      exact h
    · rw [upd_ne hb] at h ⊢
      exact S.fr b u h
  · by_cases hb : b = p
    · subst hb
      exact .inl hf
    · rw [upd_ne hb] at h
      exact S.ap b u h
  · obtain ⟨k1, k2⟩ := S.cel n a u h1 h2
    obtain ⟨w, hw⟩ := k2.some
    have ha : a ≠ p := ne_of_none hw hp
    rw [upd_ne ha, upd_ne ha]
    exact ⟨k1, k2⟩
theorem SR.growF {Hf F : Hp} {ρ : List Addr} {C : Cells} {H : Hp} {p : Addr} {o u : HO} (S : SR K Hf (upd F p o) ρ C H) (ho : ¬ Stay o := by intro h; exact h) (hu : ∀ ps, u ≠ .tbl ps := by intro _ e; cases e) : SR K Hf (upd F p u) ρ C (upd H p u) := by
  have hf : Hf p = none := (S.ap p o upd_same).resolve_right ho
  refine ⟨fun b w h => ?_, fun b w h => ?_, fun b w h => ?_, S.len, fun n a w h1 h2 => ?_, S.inj, fun t ht => by
    obtain ⟨k1, k2⟩ := S.tab t ht
    have ha : t.1 ≠ p := fun e => by
      have := k1.2
      rw [e, upd_same] at this
      cases this
    exact ⟨⟨k1.1, by rw [upd_ne ha]; have := k1.2; rw [upd_ne ha] at this; exact this⟩, k2.mono (fun _ _ h => h) fun o h _ => by rw [upd_ne ha]; exact h⟩, fun b ps => ⟨(S.nt b ps).1, fun e => by
    by_cases hb : b = p
    · rw [hb, upd_same] at e
      exact hu ps (Option.some.inj e)
    · rw [upd_ne hb] at e
      exact (S.nt b ps).2 (by rw [upd_ne hb]; exact e)⟩⟩
  · rw [upd_ne (ne_of_none h hf)]
    exact S.ex b w h
  · by_cases hb : b = p
    · subst hb
      rw [upd_same] at h ⊢
      exact h
    · rw [upd_ne hb] at h ⊢
      exact S.fr b w (by rw [upd_ne hb]; exact h)
  · by_cases hb : b = p
    · subst hb
      exact .inl hf
    · rw [upd_ne hb] at h
      exact S.ap b w (by rw [upd_ne hb]; exact h)
  · obtain ⟨⟨k0, k1⟩, k2⟩ := S.cel n a w h1 h2
    have ha : a ≠ p := fun e => by
      subst e
      rw [upd_same] at k1
      cases k1
    rw [upd_ne ha] at k1
    rw [upd_ne ha, upd_ne ha]
    exact ⟨⟨k0, k1⟩, k2⟩
/-- at the end: the list is fresh -/
theorem SR.outF {Hf F : Hp} {ρ : List Addr} {C : Cells} {H : Hp} {p : Addr} {vs : List V} {ds : List D} (hF : F p = none) (S : SR K Hf (upd F p (.lst vs)) ρ C H) (h : Dats K Hf ρ vs ds) : Fresh K H Hf F ρ C (.ref p) ds := by
  have hf : Hf p = none := (S.ap p _ upd_same).resolve_right fun h => h
  have hH : H p = some (.lst vs) := S.fr p _ upd_same
  have nb : ∀ {n : Nat} {a : Addr} {o : Ob}, ρ[n]? = some a → C[n]? = some (some o) → a ≠ p ∧ Hf a = none ∧ F a = none ∧ ObR K Hf (H a) o := fun {n a o} h1 h2 => by
    obtain ⟨⟨k0, k1⟩, k2⟩ := S.cel n a o h1 h2
    have ha : a ≠ p := fun e => by
      subst e
      rw [upd_same] at k1
      cases k1
    rw [upd_ne ha] at k1
    exact ⟨ha, k0, k1, k2⟩
  have fr : Same F H := fun b o q => S.fr b o (by rw [upd_ne (ne_of_none q hF)]; exact q)
  have ap : ∀ b o, F b = some o → Hf b = none ∨ Stay o := fun b o q => S.ap b o (by rw [upd_ne (ne_of_none q hF)]; exact q)
  have e0 : Same Hf (upd Hf p (.lst vs)) := fun b u q => by
    rw [upd_ne (ne_of_none q hf)]
    exact q
  have tb : ∀ t ∈ Tabs0.T, t.1 ≠ p ∧ F t.1 = none := fun t ht => by
    have k1 := (S.tab t ht).1.2
    have ha : t.1 ≠ p := fun e => by
      rw [e, upd_same] at k1
      cases k1
    rw [upd_ne ha] at k1
    exact ⟨ha, k1⟩
  have nF : ∀ b ps, F b ≠ some (.tbl ps) := fun b ps e => by
    by_cases hb : b = p
    · rw [hb, hF] at e
      cases e
    · exact (S.nt b ps).2 (by rw [upd_ne hb]; exact e)
  refine .mk hH h ⟨fun b u q => ?_, fr, fun b o q => ?_, S.len, fun n a o h1 h2 => ?_, S.inj, fun t ht => ⟨⟨by rw [upd_ne (tb t ht).1]; exact (S.tab t ht).1.1, (tb t ht).2⟩, (S.tab t ht).2.mono e0 fun o h _ => h⟩, fun b ps => ⟨fun e => by
    by_cases hb : b = p
    · rw [hb, upd_same] at e
      cases e
    · rw [upd_ne hb] at e
      exact (S.nt b ps).1 e, nF b ps⟩⟩ (fun nc => ⟨S.ex, fr, ap, by rw [List.length_append, List.length_append, S.len]; rfl, fun n a u h1 h2 => ?_, fun m n a o u h1 h2 h3 h4 => ?_, fun t ht => ⟨⟨(S.tab t ht).1.1, (tb t ht).2⟩, (S.tab t ht).2⟩, fun b ps => ⟨(S.nt b ps).1, nF b ps⟩⟩) hf
  · by_cases hb : b = p
    · subst hb
      rw [upd_same] at q
      rw [hH]
      exact q
    · rw [upd_ne hb] at q
      exact S.ex b u q
  · rw [upd_ne (ne_of_none q hF)]
    exact ap b o q
  · obtain ⟨ha, k0, k1, k2⟩ := nb h1 h2
    rw [upd_ne ha]
    exact ⟨⟨k0, k1⟩, k2.mono e0⟩
  · by_cases hn : n < ρ.length
    · rw [List.getElem?_append_left hn] at h1
      rw [List.getElem?_append_left (by rw [← S.len]; exact hn)] at h2
      obtain ⟨ha, k0, k1, k2⟩ := nb h1 h2
      exact ⟨⟨k0, k1⟩, k2⟩
    · have hn' := (List.getElem?_eq_some_iff.mp h1).1
      rw [List.length_append] at hn'
      have hone : ([p] : List Addr).length = 1 := rfl
      have en : n = ρ.length := by omega
      subst en
      rw [List.getElem?_append_right (Nat.le_refl _), Nat.sub_self] at h1
      rw [S.len, List.getElem?_append_right (Nat.le_refl _), Nat.sub_self] at h2
      have ea : p = a := Option.some.inj h1
      have eu : Ob.l ds = u := Option.some.inj (Option.some.inj h2)
      subst ea
      subst eu
      rw [hH]
      exact ⟨⟨hf, hF⟩, .l (h.bare nc)⟩
  · have old : ∀ {k : Nat} {b : Addr} {o : Ob}, k < ρ.length → (ρ ++ [p])[k]? = some b → (C ++ [some (.l ds)])[k]? = some (some o) → ρ[k]? = some b ∧ C[k]? = some (some o) ∧ b ≠ p := fun {k b o} hk g1 g2 => by
      rw [List.getElem?_append_left hk] at g1
      rw [List.getElem?_append_left (by rw [← S.len]; exact hk)] at g2
      exact ⟨g1, g2, (nb g1 g2).1⟩
    have new : ∀ {k : Nat} {b : Addr}, ¬ k < ρ.length → (ρ ++ [p])[k]? = some b → k = ρ.length ∧ p = b := fun {k b} hk g1 => by
      have hn' := (List.getElem?_eq_some_iff.mp g1).1
      rw [List.length_append] at hn'
      have hone : ([p] : List Addr).length = 1 := rfl
      have en : k = ρ.length := by omega
      subst en
      rw [List.getElem?_append_right (Nat.le_refl _), Nat.sub_self] at g1
      exact ⟨rfl, Option.some.inj g1⟩
    by_cases hm : m < ρ.length
    · obtain ⟨a1, a2, a3⟩ := old hm h1 h3
      by_cases hn : n < ρ.length
      · obtain ⟨b1, b2, b3⟩ := old hn h2 h4
        exact S.inj m n a o u a1 b1 a2 b2
      · exact absurd (new hn h2).2.symm a3
    · obtain ⟨rfl, e1⟩ := new hm h1
      by_cases hn : n < ρ.length
      · obtain ⟨b1, b2, b3⟩ := old hn h2 h4
        exact absurd e1.symm b3
      · exact (new hn h2).1.symm
/-- the reading of a comprehension -/
theorem goLc {it : SW} {t : Tg} {c : S Bool} {x : S D} {vs : List Nat} (hv : ∀ j ∈ t.at_, j ∈ vs) {σ : L2.St} {H : Hp} {Q : VK} (hput : ∀ d e e', t.put d e = some e' → e'.length = e.length) (h : tL X.K X.mg W (xLc it t c x vs) σ H Q) :
    tLc (tI X.K X.mg W it) (gG X.K X.mg none t) (tT X.K X.mg W0 c) (tE X.K X.mg W0 x) vs σ H Q := by
  obtain ⟨Hf, F, ρ, env, C, S0, E0, g⟩ := h
  refine ⟨Hf, F, ρ, env, C, S0, E0, ?_⟩
  unfold xLc S.bind at g
  cases hit : it env C with
  | none =>
    rw [hit] at g
    exact g
  | some r =>
    rw [hit] at g
    cases r with
    | ex c' p C' => exact g
    | ok p C' =>
      obtain ⟨ds, gd⟩ := p
      refine fun J H1 Hf1 ρ1 e1 p1 S1 w1 Dl hD => ?_
      simp only [] at g
      split at g
      · rename_i hfew
        have E1 := (E0.mono e1 p1).plain.wipe vs
        have hF : F Dl = none := S1.fr.free hD
        -- acc: what has been made
        refine ⟨fun i m H2 => i ≤ ds.length ∧ m = ds.length - i ∧ ∃ Hf2 ρ2 C2 acc dacc, Same Hf1 Hf2 ∧ ρ1 <+: ρ2 ∧ SR X.K Hf2 (upd F Dl (.lst acc)) ρ2 C2 H2 ∧ acc.length ≤ i ∧ Dats X.K Hf2 ρ2 acc dacc ∧
          (match lcs gd t c x (ds.drop i) (wipeE env vs) C2 with
            | some (.ok ys C3) => ∀ v H' Hf' ρ', Same Hf2 Hf' → ρ2 <+: ρ' → Fresh X.K H' Hf' F ρ' C3 v (dacc ++ ys) → Q v H'
            | _ => False), ⟨ds.length, Nat.zero_le _, rfl, Hf1, ρ1, C', [], [], Same.refl _, List.prefix_refl _, S1.intoF hD, Nat.zero_le _, .nil, ?_⟩, ?_⟩
        · have g : GoL X.K X.mg W σ Hf F ρ (lcs gd t c x ds (wipeE env vs) C') Q := g
          cases hl : lcs gd t c x ds (wipeE env vs) C' with
          | none =>
            rw [hl] at g
            exact g.elim
          | some r =>
            rw [hl] at g
            rw [List.drop_zero, hl]
            cases r with
            | ok ys C3 => exact fun v H' Hf' ρ' e' p' f' => g v H' Hf' ρ' (e1.trans e') (p1.trans p') f'
            | ex c' q C3 =>
              have no : ∀ (l : List D) (C : Cells) (e : Env) (c' : Str) (q : Option (Str × D)) (C3 : Cells), lcs gd t c x l e C ≠ some (.ex c' q C3) := by
                intro l
                induction l with
                | nil =>
                  intro C e c' q C3 z
                  unfold lcs at z
                  split at z <;> cases z
                | cons d r ih =>
                  intro C e c' q C3 z
                  unfold lcs at z
                  split at z
                  · split at z
                    · cases z
                    · split at z
                      · split at z
                        · split at z <;> cases z
                        · cases z
                      · exact ih _ _ _ _ _ z
                      · cases z
                  · cases z
              exact absurd hl (no _ _ _ _ _ _)
        · rintro i m H2 ⟨hi, rfl, Hf2, ρ2, C2, acc, dacc, e2, p2, S2, hacc, D2, g2⟩
          by_cases hlt : i < ds.length
          · rw [List.drop_eq_getElem_cons hlt] at g2
            unfold lcs at g2
            by_cases hgd : gd C2 = true
            · rw [if_pos hgd] at g2
              obtain ⟨go, yl⟩ := (w1 i Hf2 _ ρ2 C2 H2 e2 p2 S2 hgd).1 hlt
              refine .inr ⟨go, fun H3 => ∃ Hf3 ρ3 C3 acc' dacc', Same Hf1 Hf3 ∧ ρ1 <+: ρ3 ∧ SR X.K Hf3 (upd F Dl (.lst acc')) ρ3 C3 H3 ∧ acc'.length ≤ i + 1 ∧ Dats X.K Hf3 ρ3 acc' dacc' ∧
                (match lcs gd t c x (ds.drop (i + 1)) (wipeE env vs) C3 with
                  | some (.ok ys C3) => ∀ v H' Hf' ρ', Same Hf3 Hf' → ρ3 <+: ρ' → Fresh X.K H' Hf' F ρ' C3 v (dacc' ++ ys) → Q v H'
                  | _ => False), fun H3 q => ⟨ds.length - (i + 1), by omega, hlt, rfl, q⟩, fun y H3 hy => ?_⟩
              obtain ⟨d, Hf3, hd, e3, S3, D3⟩ := yl y H3 hy
              have ed : ds[i] = d := by
                rw [List.getElem?_eq_getElem hlt] at hd
                exact Option.some.inj hd
              rw [ed] at g2
              cases ht : t.put d (wipeE env vs) with
              | none =>
                rw [ht] at g2
                exact g2.elim
              | some env3 =>
                rw [ht] at g2
                simp only [] at g2
                have E3 := E1.mono (e2.trans e3) p2
                refine ⟨Hf3, _, ρ2, wipeE env vs, C2, d, S3, E3, D3, env3, ht, fun σ4 E4 f4 => ⟨?_, Hf3, _, ρ2, env3, C2, S3, E4, ?_⟩⟩
                · rw [← wipe_wipe (σ := σ)]
                  refine wipe_same ?_ fun j hj => f4 j fun z => hj (hv j z)
                  rw [E4.len, hput _ _ _ ht, E3.len]
                · cases hc : c env3 C2 with
                  | none =>
                    rw [hc] at g2
                    exact g2.elim
                  | some rc =>
                    rw [hc] at g2
                    cases rc with
                    | ex c' q C3 => exact g2.elim
                    | ok b C3 =>
                      refine fun b' H4 Hf4 ρ4 e4 p4 S4 hb => ?_
                      have hb' : b' = b := hb
                      subst hb'
                      cases b' with
                      | false =>
                        simp only [] at g2
                        refine ⟨Hf4, ρ4, C3, acc, dacc, (e2.trans e3).trans e4, p2.trans p4, S4, Nat.le_succ_of_le hacc, D2.mono (e3.trans e4) p4, ?_⟩
                        cases hl : lcs gd t c x (ds.drop (i + 1)) (wipeE env vs) C3 with
                        | none =>
                          rw [hl] at g2
                          exact g2
                        | some r =>
                          rw [hl] at g2
                          cases r with
                          | ex _ _ _ => exact g2
                          | ok ys C5 => exact fun v H' Hf' ρ' e' p' f' => g2 v H' Hf' ρ' ((e3.trans e4).trans e') (p4.trans p') f'
                      | true =>
                        simp only [] at g2
                        refine L2.iteT ?_
                        refine ⟨Hf4, _, ρ4, env3, C3, S4, E4.mono e4 p4, ?_⟩
                        cases hx : x env3 C3 with
                        | none =>
                          rw [hx] at g2
                          exact g2.elim
                        | some rx =>
                          rw [hx] at g2
                          cases rx with
                          | ex c' q C5 => exact g2.elim
                          | ok dy C5 =>
                            refine fun vy H5 Hf5 ρ5 e5 p5 S5 D5 => ⟨acc, S5.fr Dl _ upd_same, Nat.lt_of_le_of_lt hacc (Nat.lt_of_lt_of_le hlt (Nat.le_trans hfew (by decide))), ?_⟩
                            simp only [] at g2
                            refine ⟨Hf5, ρ5, C5, acc ++ [vy], dacc ++ [dy], ((e2.trans e3).trans e4).trans e5, (p2.trans p4).trans p5, S5.growF, by rw [List.length_append]; exact Nat.succ_le_succ hacc, (D2.mono ((e3.trans e4).trans e5) (p4.trans p5)).app (.cons D5 .nil), ?_⟩
                            cases hl : lcs gd t c x (ds.drop (i + 1)) (wipeE env vs) C5 with
                            | none =>
                              rw [hl] at g2
                              exact g2
                            | some r =>
                              rw [hl] at g2
                              cases r with
                              | ex _ _ _ => exact g2
                              | ok ys C6 =>
                                refine fun v H' Hf' ρ' e' p' f' => g2 v H' Hf' ρ' (((e3.trans e4).trans e5).trans e') ((p4.trans p5).trans p') ?_
                                rw [List.append_assoc] at f'
                                exact f'
            · rw [if_neg hgd] at g2
              exact g2.elim
          · have ei : i = ds.length := by omega
            subst ei
            rw [List.drop_eq_nil_of_le (Nat.le_refl _)] at g2
            unfold lcs at g2
            by_cases hgd : gd C2 = true
            · rw [if_pos hgd] at g2
              refine .inl ⟨(w1 _ Hf2 _ ρ2 C2 H2 e2 p2 S2 hgd).2 (Nat.le_refl _), g2 _ H2 Hf2 ρ2 (Same.refl _) (List.prefix_refl _) ?_⟩
              rw [List.append_nil]
              exact S2.outF hF D2
            · rw [if_neg hgd] at g2
              exact g2.elim
      · exact g.elim
end
end Sm
end
section
set_option maxRecDepth 100000
set_option maxHeartbeats 0
namespace SmX
open PySem PySem.W PySem.Calls PyProof.Rows

/-! ### an own error whose __init__ says super().__init__(f); self.f = f -/
def sA (f : Str) (p1 p2 : Pos) : Arguments := { posonlyargs := [], args := [{ arg := "self", annotation := none, pos := p1 }, { arg := f, annotation := none, pos := p2 }], vararg := none, kwonlyargs := [], kw_defaults := [], kwarg := none, defaults := [] }
def sB (f : Str) (q1 q2 q3 q4 q5 q6 q7 q8 q9 q0 : Pos) : List Stmt :=
  [.Expr (.Call (.Attribute (.Call (.Name "super" q1) [] [] q2) "__init__" q3) [.Name f q4] [] q5) q6, .Assign [.Attribute (.Name "self" q7) f q8] (.Name f q9) q0]
def sS (f : Str) : Scope := { kind := .function, names := [(PySem.Str.ofString "self", .local), (f, .local), (PySem.Str.ofString "__class__", .free), (PySem.Str.ofString "super", .globalImplicit)], isGenerator := false, isCoroutine := false, more := [] }
/-- how o.m(..) is evaluated, the line told -/
def MethEv (o : Expr) (m : Str) (apos pos : Pos) (args : List Expr) (pl : Sem Bool) : Prop := ∀ env : Env, eval (.Call (.Attribute o m apos) args [] pos) env = (do
      let ov ← attributeBase o m env (eval o env)
      standAt apos.atName
      let (f, first) ← holding [ov] (getMethod ov m pl)
      callWith pos f first (backTo pos (starEach args env)) [])
structure SupEnd (h h' : Heap) (x C dx : Addr) (f : Str) (v : Value) : Prop where
  keep : ∀ b o, b ≠ x → h.get? b = some o → h'.get? b = some o
  obj : ∃ t1, h'.get? x = some (excObj C t1 (some dx) .none)
  dbig : h.objs.size ≤ dx
  dne : dx ≠ x
  ns : h'.Ns1 dx (fun y => if y = f then some v else none)
/-- what the written part says of such a class at C, with its __init__ at fI -/
structure SupTxt (P : Program) (K : Frag) (mg : Str → Option Value) (B i newId : String) (bmB : List Value) (C fI : Addr) (x f : Str) : Prop where
  gC : mg x = some (.ref C)
  kC : keepIn K (.ref C) = true
  cls : ∃ nm q N bs bm sn sub ab col dd k0 k1 k2 k3 k5, K.lookup C = some (excClassObj nm q C N bs bm true sn sub ab col dd k0 k1 k2 k3 k5 newId)
  inn : excInitIn K C bmB newId = true
  ovr : excOver K C bmB = true
  sa : findIn K (.ref C) "__setattr__" = some (some (.builtin "object.__setattr__"))
  ga : findIn K (.ref C) "__getattribute__" = some (some (.builtin "BaseException.__getattribute__"))
  gg : findIn K (.ref C) "__getattr__" = some none
  noF : findIn K (.ref C) f = some none
  iC : findIn K (.ref C) "__init__" = some (some (.ref fI))
  tI : typeIn K (.ref fI) = some (.type "function")
  exC : subIn K (.ref C) (.type "BaseException") = some true
  exB : subIn K (.ref C) (.type B) = some true
  tyC : typeIn K (.ref C) = some (.type "type")
  hdC : hasDictIn K C = true
  self : mroIn K C (.ref C) = some true
  sup : ks_superIn K C C "__init__" = some (some (.builtin i))
  opq : nsIn K cStatics "thirdparty.any" = some none
  sg : nsIn K mainGlobals "super" = some none
  top : (P.main.scope.names.lookup ("super" : Str)).isSome = false
  fn : ∃ (oc : Value) (od : Option Addr) (doc pm : Value) (an : Option Addr) (cda cc : Addr) (ct : Value) (osl : Array (Option Value)) (q : Str) (p1 p2 q1 q2 q3 q4 q5 q6 q7 q8 q9 q0 : Pos)
    (ccl cl : Value) (cdd cld : Option Addr) (ccs csl : Array (Option Value)) (vs : Array Value) (file : Str) (tf : Tok),
    K.lookup fI = some ⟨oc, od, .func (ksFn "__init__" q (sA f p1 p2) (sB f q1 q2 q3 q4 q5 q6 q7 q8 q9 q0) (sS f) .none .none doc pm an (.ref cda) ct cc), osl⟩ ∧ codeIn K (.ref cda) q = true ∧
    K.lookup cda = some ⟨ccl, cdd, .fields vs, ccs⟩ ∧ vs[2]? = some (.str file tf) ∧ ((P.main.file : Str) == file) = true ∧ K.lookup cc = some ⟨cl, cld, .cell (some (.ref C)), csl⟩ ∧
    ∃ pl, MethEv (.Call (.Name "super" q1) [] [] q2) "__init__" q3 q5 [.Name f q4] pl

section
variable {prog : Program} {w : World} {A : Around} {E : Value → Shared → Prop} {R : Result → Shared → Prop} {K : Frag} {mg : Str → Option Value} {C fI : Addr} {B i newId : String} {bmB : List Value} {n f : Str}
/-- the first attribute of an error -/
theorem sup_osa {x t0 : Addr} {name : Str} {tk : Tok} {v : Value} {hp : Heap} {g : Array GenState} {d : Drawn} {t : Nat} {os : OsState} (SF : StoreFacts B bmB "object.__setattr__" "object") (X : K.In hp) (hx : hp.get? x = some (excObj C t0 none .none)) (ho : excOver K C bmB = true)
    (ht : findIn K (.ref C) name = some none) (hh : hasDictIn K C = true)
    (hq : ∀ h' tk' dx, (∀ b o, b ≠ x → hp.get? b = some o → h'.get? b = some o) → hp.objs.size ≤ dx → dx ≠ x → h'.get? x = some (excObj C t0 (some dx) .none) → h'.Ns1 dx (fun y => if y = name then some v else none) → R (.ok (.ret .none)) ⟨h', g, d, tk', os⟩) :
    codeAny (model prog w) A (.call (.builtin "object.__setattr__") ⟨[.ref x, .str name tk, v], []⟩) R ⟨hp, g, d, t, os⟩ := by
  have hxs : x ≠ hp.objs.size := Nat.ne_of_lt (Heap.lt_size hx)
  obtain ⟨cd, hc, hd'⟩ := any_some hh
  have hcls : Looks (model prog w) hp (classData C) cd := looks_clsIn X hc
  refine osa_openX (od := none) (r := none) SF X ⟨hx, rfl, rfl, trivial⟩ ho (by unfold takerIn; rw [ht]; rfl) fun b => ?_
  show wpAny _ _ (Builtin.ObjectAttr.storeInOwnDict (.ref x) (.ref C) (.str name tk) name v b) _ _ _
  obtain ⟨nm, bs, mro, ns, qn, hd, sn, sb, ab, col, del⟩ := cd
  have hd2 : hd = true := hd'
  subst hd2
  unfold Builtin.ObjectAttr.storeInOwnDict Builtin.ObjectAttr.ownDictForStores
  repeat (first
    | with_reducible refine HandSPX.store_in_new ?_ ?_
    | with_reducible refine wpAny_loadPart_at hx ?_
    | with_reducible refine hcls.at ?_
    | wp_step)
  · refine ⟨_, #[], _, (Heap.get?_update_ne _ _ _ _ hxs.symm).trans (Heap.get?_push_at rfl rfl), rfl, ?_, fun _ => rfl⟩
    intro e he
    exact absurd he (by simp)
  · intro h' tk' hn' hs
    refine hq h' tk' hp.objs.size (fun b o hb ho => ?_) (Nat.le_refl _) hxs.symm ?_ hn'
    · have e1 := hs.2 b (Nat.ne_of_lt (Heap.lt_size ho))
      exact e1.trans ((Heap.get?_update_ne _ _ _ _ hb).trans (Heap.get?_push_of_some _ ho))
    · refine (hs.2 x hxs).trans (Heap.get?_update_self _ (Heap.get?_push_of_some _ hx) rfl)
/-- what is reckoned of a name f -/
structure NmOk (f : Str) : Prop where
  k : (sS f).names.lookup f = some .local
  d : (f == ("__debug__" : Str)) = false
  c : ∀ y ∈ (sS f).names, y.2 ≠ .cell
  l1 : ∀ a b : Value, [(PySem.Str.ofString "self", a), (f, b)].reverse.lookup f = some b
  l0 : ∀ a b : Value, [(PySem.Str.ofString "self", a), (f, b)].reverse.lookup ("self" : Str) = some a
  bind : ∀ (q : Str) (p1 p2 : Pos) (b : List Stmt) (doc pm : Value) (an : Option Addr) (cda cc : Addr) (ct a v : Value), bindArgs (ksFn "__init__" q (sA f p1 p2) b (sS f) .none .none doc pm an (.ref cda) ct cc) ⟨[a, v], []⟩ = pure [(PySem.Str.ofString "self", a), (f, v)]
  ks : (sS f).names.lookup ("super" : Str) = some .globalImplicit
  kc : (sS f).names.lookup ("__class__" : Str) = some .free
  k0 : (sS f).names.lookup ("self" : Str) = some .local
theorem nm_given : NmOk "given" := ⟨by decide +kernel, by decide, by decide +kernel, fun _ _ => rfl, fun _ _ => rfl, fun _ _ _ _ _ _ _ _ _ _ _ _ => rfl, by decide +kernel, by decide +kernel, by decide +kernel⟩
theorem nm_limit : NmOk "limit" := ⟨by decide +kernel, by decide, by decide +kernel, fun _ _ => rfl, fun _ _ => rfl, fun _ _ _ _ _ _ _ _ _ _ _ _ => rfl, by decide +kernel, by decide +kernel, by decide +kernel⟩
theorem sup_init (KF : KxsFacts B i) (FB : ExcBaseFacts B newId i bmB) (SF : StoreFacts B bmB "object.__setattr__" "object") (T : SupTxt prog K mg B i newId bmB C fI n f) (hf : NmOk f) {x t0 : Addr} {v : Value} {s : Shared} (X : K.In s.heap) (G : s.heap.Ns mainGlobals mg)
    (Bt : ∃ mb, s.heap.Ns builtinsNs mb ∧ ∀ y : Str, y ≠ "__name__" → mb y = bootBuiltins y) (hlim : s.heap.NoLimit) (hx : s.heap.get? x = some (excObj C t0 none .none)) (hnx : K.lookup x = none) (hroom : A.depth < recursionLimit)
    (hq : ∀ h' tk dx, SupEnd s.heap h' x C dx f v → R (.ok (.ret .none)) { s with heap := h', toks := tk }) : codeAny (model prog w) A (.call (.ref fI) ⟨[.ref x, v], []⟩) R s := by
  obtain ⟨oc, od, doc, pm, an, cda, cc, ct, osl, q, p1, p2, q1, q2, q3, q4, q5, q6, q7, q8, q9, q0, ccl, cl, cdd, cld, ccs, csl, vs, file, tf, ho, hcd, hcode, hvs, hfile, hcell, pl, hev⟩ := T.fn
  obtain ⟨mb, hb1, hb2⟩ := Bt
  obtain ⟨oC, hC1, cdC, hC2⟩ : ∃ oC, s.heap.get? C = some oC ∧ ∃ cdC, oC.data = .cls cdC := by
    obtain ⟨nm, q, N, bs, bm, sn, sub, ab, col, dd, k0, k1, k2, k3, k5, hC⟩ := T.cls
    exact ⟨_, X _ _ hC, _, rfl⟩
  refine ks_codeAny_call_defAt (fd := ksFn "__init__" q (sA f p1 p2) (sB f q1 q2 q3 q4 q5 q6 q7 q8 q9 q0) (sS f) .none .none doc pm an (.ref cda) ct cc) (body := sB f q1 q2 q3 q4 q5 q6 q7 q8 q9 q0) (binds := [("self", .ref x), (f, v)])
    hroom (X _ _ ho) rfl hlim (codeRec_of X hcd) rfl (BindsTo.of_eq (hf.bind _ _ _ _ _ _ _ _ _ _ _ _)) hf.c ?_ (fun h₁ hns k1 => ?_) rfl rfl rfl
  · intro y hy
    rcases List.mem_cons.mp hy with rfl | hy
    · exact hf.k0
    · rcases List.mem_cons.mp hy with rfl | hy
      · exact hf.k
      · cases hy
  · have X₁ : K.In h₁ := X.keeps k1
    have hx₁ := k1 _ _ hx
    have hxL : s.heap.objs.size ≠ x := Nat.ne_of_gt (Heap.lt_size hx)
    -- what stays through the body: the frame L, the heap without x
    have frame : ∃ G0 : Heap, (∀ b, b ≠ x → G0.get? b = s.heap.get? b) ∧ G0.get? x = none ∧ G0.objs.size ≤ s.heap.objs.size := by
      refine ⟨hideAll s.heap [x], fun b hb => ?_, hideAll_none _ List.mem_cons_self, Nat.le_of_eq (hideAll_size _ _)⟩
      cases e : s.heap.get? b with
      | some o => exact hideAll_get _ e (fun z => hb (List.mem_singleton.mp z))
      | none =>
        cases e2 : (hideAll s.heap [x]).get? b with
        | none => rfl
        | some o =>
          have := of_hideAll [x] e2
          rw [e] at this
          cases this
    obtain ⟨G0, g1, g2, g3⟩ := frame
    have F1 : Fr G0 s.heap.objs.size h₁ (fun y => [(PySem.Str.ofString "self", Value.ref x), (f, v)].reverse.lookup y) := ⟨hns, fun b o e => k1 b o (by
      by_cases hb : b = x
      · subst hb
        rw [g2] at e
        cases e
      · rw [← g1 b hb]
        exact e), g3⟩
    have N1 : News G0 s.heap.objs.size h₁ [(x, excObj C t0 none .none)] := fun p hp => by
      rw [List.mem_singleton.mp hp]
      exact ⟨hx₁, hxL.symm, g2⟩
    have XG : K.In G0 := fun a o e => by
      by_cases ha : a = x
      · subst ha
        rw [hnx] at e
        cases e
      · rw [g1 a ha]
        exact X a o e
    obtain ⟨nm, qn, N, bs, bm, sn, sub, ab, col, dd, k0, k1', k2, k3, k5, hCK⟩ := T.cls
    have hc : clsIn K C = some { name := nm, bases := bs, mro := .ref C :: bm, ns := N, qualname := qn, hasDict := true, slotNames := sn, subclasses := sub, abstract := ab, collection := col, hasDel := false } := by
      unfold clsIn
      rw [hCK] <;> rfl
    have hCget := X₁ _ _ hCK
    -- super().__init__(f)
    refine ks_wpAt_execs_cons (ks_wpAt_Expr_any (ks_wpAt_MethodCall (pl := pl) ?_ (hev _)) rfl rfl)
    refine ks_wpAt_super_base (env := ksEnv q (sS f) s.heap.objs.size fI (.ref cda) cc) hf.ks hf.kc (by decide) rfl (X₁ _ _ ho) rfl rfl rfl (X₁ _ _ hcode) rfl hvs hfile T.top ?_
    refine ks_loadName_global rfl hf.ks (loadGlobal_builtin (env := ksEnv q (sS f) s.heap.objs.size fI (.ref cda) cc) (G.keeps k1) (mg_none_of X G T.sg) (hb1.keeps k1) ((hb2 _ (by decide +kernel)).trans (by decide +kernel)) ⟨rfl, ?_⟩)
    refine wpAny_loadName_free rfl hf.kc rfl ⟨_, X₁ _ _ hcell, rfl⟩ ?_
    refine wpAny_loadName_local rfl hf.k0 F1.ns (hf.l0 _ _) ?_
    refine ks_wpAny_isType_cls hCget rfl ⟨rfl, ?_⟩
    refine ks_wpAny_call_super hCget rfl hx₁ rfl (fun c e => nomatch e) (looks_mroIn X₁ T.self) fun h2 e2 kk2 => ?_
    obtain ⟨F2, N2, l2⟩ := ks_newsPush (s := ⟨h₁, s.gens, s.drawn, 0, s.os⟩) (o := ks_superObj C x C) F1 N1 rfl e2 kk2
    have I2 : InstAt h2 x (excObj C t0 none .none) C none := ⟨kk2 _ _ hx₁, rfl, rfl, trivial⟩
    refine kxs_method (s := ⟨h2, s.gens, s.drawn, _, s.os⟩) KF F2 XG N2 List.mem_cons_self I2 T.opq T.sup T.exB (by decide) fun u h3 F3 N3 l3 => ?_
    refine kxs_callWith1 (i := i) (x := x) N3 List.mem_cons_self ?_ rfl rfl
    show wpAny _ _ (spliced ((false, eval (.Name f q4) (ksEnv q (sS f) s.heap.objs.size fI (.ref cda) cc)) :: backTo q5 (starEach [] (ksEnv q (sS f) s.heap.objs.size fI (.ref cda) cc)))) _ _ _
    have ldF : ∀ {A' : Around} {E' : Value → Shared → Prop} {s' : Shared} {p : Pos} {Q' : Value → Shared → Prop}, Fr G0 s.heap.objs.size s'.heap (fun y => [(PySem.Str.ofString "self", Value.ref x), (f, v)].reverse.lookup y) → Q' v s' →
        wpAny (model prog w) A' (eval (.Name f p) (ksEnv q (sS f) s.heap.objs.size fI (.ref cda) cc)) Q' E' s' := fun F' q' => wpAny_Name (wpAny_loadName_local rfl hf.k F'.ns (hf.l1 _ _) q') hf.d
    have ldS : ∀ {A' : Around} {E' : Value → Shared → Prop} {s' : Shared} {p : Pos} {Q' : Value → Shared → Prop}, Fr G0 s.heap.objs.size s'.heap (fun y => [(PySem.Str.ofString "self", Value.ref x), (f, v)].reverse.lookup y) → Q' (.ref x) s' →
        wpAny (model prog w) A' (eval (.Name "self" p) (ksEnv q (sS f) s.heap.objs.size fI (.ref cda) cc)) Q' E' s' := fun F' q' => wpAny_Name (wpAny_loadName_local rfl hf.k0 F'.ns (hf.l0 _ _) q') (by decide)
    refine Calls.spliced_cons (ldF F3 (Calls.spliced_nil ⟨kxs_at N3 List.mem_cons_self, ?_⟩))
    have ux : u ≠ x := Nat.ne_of_gt (l3 (x, excObj C t0 none .none) (by simp))
    have sx : h₁.objs.size ≠ x := Nat.ne_of_gt (Heap.lt_size hx₁)
    refine kxs_call F3 XG N3 FB T.inn List.mem_cons_self (.tail ux (.tail sx (.head (fun p hp => nomatch hp)))) (by show 1 ≤ sizeLine; decide) fun t4 h4 F4 N4 l4 => ?_
    -- self.f = f
    refine ks_wpAt_execs_cons (ks_wpAt_Assign_Attr (wpAt_of_wpAny (ldF F4 (ldS F4 ?_))) rfl)
    have X4 : K.In h4 := XG.keeps F4.keep
    have hx4 := (N4 (x, excObj C t4 none .none) (by simp)).1
    refine set_plain X4 (ox := excObj C t4 none .none) (od := none) ⟨hx4, rfl, rfl, trivial⟩ T.sa ?_
    refine sup_osa SF X4 hx4 T.ovr T.noF T.hdC fun h5 tk5 dx k5 dn dne hx5 hn5 => ?_
    refine wpAt_of_wpAny (wpAny_execs_nil ?_)
    refine hq h5 _ dx ⟨fun b o hb e => k5 b o hb (F4.keep b o (by rw [g1 b hb]; exact e)), ⟨t4, hx5⟩, Nat.le_trans (Nat.le_of_lt F4.ns.lt) dn, dne, hn5⟩
/-- C(v): a new error -/
structure SupMade (h h' : Heap) (e C d : Addr) (f : Str) (v : Value) : Prop where
  keep : ∀ b o, h.get? b = some o → h'.get? b = some o
  new : h.objs.size ≤ e
  obj : ∃ t1, h'.get? e = some (excObj C t1 (some d) .none)
  dbig : h.objs.size ≤ d
  dne : d ≠ e
  ns : h'.Ns1 d (fun y => if y = f then some v else none)
theorem sup_made (KF : KxsFacts B i) (FB : ExcBaseFacts B newId i bmB) (SF : StoreFacts B bmB "object.__setattr__" "object") (T : SupTxt prog K mg B i newId bmB C fI n f) (hf : NmOk f) {v : Value} {s : Shared} (X : K.In s.heap) (G : s.heap.Ns mainGlobals mg)
    (Bt : ∃ mb, s.heap.Ns builtinsNs mb ∧ ∀ y : Str, y ≠ "__name__" → mb y = bootBuiltins y) (hlim : s.heap.NoLimit) (hroom : A.depth + 1 < recursionLimit)
    (hq : ∀ h' tk e d, SupMade s.heap h' e C d f v → R (.ok (.ret (.ref e))) { s with heap := h', toks := tk }) : codeAny (model prog w) A (.call (.ref C) ⟨[v], []⟩) R s := by
  obtain ⟨hoI, hoI2⟩ : ∃ oI, s.heap.get? fI = some oI ∧ oI.cls = .type "function" := by
    have ht : (K.lookup fI).map (·.cls) = some (.type "function") := T.tI
    cases z : K.lookup fI with
    | none =>
      rw [z] at ht
      cases ht
    | some oI =>
      rw [z] at ht
      exact ⟨oI, X _ _ z, Option.some.inj ht⟩
  obtain ⟨nm, N, qn, bs, bm, hdct, sn, sub, ab, col, dd, k0, k1, k2, k3, k5, hC, hT⟩ := excInit_of X T.inn
  obtain ⟨hp, g, dr, tk, os⟩ := s
  have k : ∀ b o, hp.get? b = some o → ((hp.push (kdv_tup [v])).push (HandSPX.excO C hp.objs.size)).get? b = some o := fun b o e => Heap.get?_push_of_some _ (Heap.get?_push_of_some _ e)
  have hget : ((hp.push (kdv_tup [v])).push (HandSPX.excO C hp.objs.size)).get? (hp.objs.size + 1) = some (HandSPX.excO C hp.objs.size) := by heap_get
  have hnx : K.lookup (hp.objs.size + 1) = none := by
    cases e : K.lookup (hp.objs.size + 1) with
    | none => rfl
    | some o => exact absurd (Nat.lt_of_succ_lt (Heap.lt_size (show hp.get? _ = some o from X _ _ e))) (Nat.lt_irrefl _)
  refine HandSPX.call_own FB hT hC (looks_findIn X T.iC) (fun self => exc_bind hoI2.1 hoI2.2 self) (by show 1 ≤ sizeLine; decide) ?_
  refine sup_init (s := ⟨(hp.push (kdv_tup [v])).push (HandSPX.excO C hp.objs.size), g, dr, tk, os⟩) KF FB SF T hf (X.keeps k) (G.keeps k) ⟨Bt.choose, Bt.choose_spec.1.keeps k, Bt.choose_spec.2⟩ (hlim.keeps k) hget hnx ?_ fun h' tk' dx M => ?_
  · show A.depth + 1 < recursionLimit
    exact hroom
  · have old : ∀ b o, hp.get? b = some o → h'.get? b = some o := fun b o e => M.keep b o (Nat.ne_of_lt (Nat.lt_succ_of_lt (Heap.lt_size e))) (k b o e)
    have z : hp.objs.size + 1 + 1 ≤ dx := by
      have q := M.dbig
      first
        | (simpa only [Heap.size_push] using q)
        | exact q
        | (rw [Heap.size_push, Heap.size_push] at q; exact q)
    exact ⟨rfl, hq h' tk' (hp.objs.size + 1) dx ⟨old, Nat.le_succ _, M.obj, Nat.le_trans (Nat.le_trans (Nat.le_succ _) (Nat.le_succ _)) z, M.dne, M.ns⟩⟩
end
end SmX

namespace Sm
open PySem L2 PySem.W PySem.Calls PyProof.Rows
theorem relO_one {v : V} {v' : Value} (r : RelV v v') (f g : Str) : RelO (List.lookup g [(f, v)]) (if g = f then some v' else none) := by
  by_cases hw : g = f
  · subst hw
    rw [if_pos rfl]
    have q : List.lookup g [(g, v)] = some v := by simp [List.lookup]
    rw [q]
    exact r
  · rw [if_neg hw]
    have qw : (g == f) = false := by simpa using hw
    have q2 : List.lookup g [(f, v)] = none := by simp [List.lookup, qw]
    rw [q2]
    trivial
section
variable {X : Cx} {C fI : Addr} {B i newId : String} {bmB : List Value} {n f : Str}
/-- C(e), an own error with one field -/
def tMkSup (C : Addr) (f : Str) (ta : TA) : L2.St → Hp → XK → Prop := fun σ H Q => ta σ H fun vs H1 => ∃ v, vs = [v] ∧ ∀ d, H1 d = none → Q (.ref C) (some d) (upd H1 d (.xd [(f, v)]))
theorem pmk_sup {a : Expr} {ta : TA} {p pos : Pos} {k : Nat} (KF : KxsFacts B i) (FB : ExcBaseFacts B newId i bmB) (SF : StoreFacts B bmB "object.__setattr__" "object") (T : SmX.SupTxt X.prog X.K X.mg B i newId bmB C fI n f) (hf : SmX.NmOk f) (hr : Room (k + 1) X.A) (ha : PA X [a] ta) (hg : Gl X n) (hdb : (n == ("__debug__" : Str)) = false)
    (he : starEach (a :: []) X.env = (false, eval a X.env) :: starEach [] X.env) (hpl : (backTo pos (starEach [] X.env)).any (·.1) = false) : PMk X (.Call (.Name n p) [a] [] pos) (tMkSup C f ta) := by
  intro pins s σ H Q I h
  refine wpAny_Call_Name_kw (ld_glob I hg T.gC ?_ hdb)
  refine callWith_K (h₀ := X.base) I.ok.mod.kin T.kC (thn (ha.run pos pins s σ H _ I h) fun us s1 hh => ?_) he hpl
  obtain ⟨vs, H1, I1, r1, v, ev, q1⟩ := hh
  subst ev
  refine ⟨I1.kIn, ?_⟩
  obtain ⟨v', rfl, rv⟩ := r1.one
  have hlim := I1.nolimit
  have G1 : s1.heap.Ns mainGlobals X.mg := I1.ok.mod.glob.keeps I1.bk
  have B1 : ∃ mb, s1.heap.Ns builtinsNs mb ∧ ∀ y : Str, y ≠ "__name__" → mb y = bootBuiltins y := by
    obtain ⟨mb, h1, h2⟩ := I1.ok.mod.blt
    exact ⟨mb, h1.keeps I1.bk, h2⟩
  have KI := I1.kIn
  obtain ⟨hp, g, dr, tk, os⟩ := s1
  show wpAny _ _ (call (.ref C) [v']) _ _ _
  refine wpAny_call (SmX.sup_made KF FB SF T hf KI G1 B1 hlim (by have := hr.dp; omega) fun h' tk' e d M => ?_)
  show MkP X pins σ Q (.ref e) ⟨h', g, dr, tk', os⟩
  obtain ⟨t1, hoe⟩ := M.obj
  have hns := M.ns
  -- the heap without the error itself
  obtain ⟨G', g1, g2⟩ := restrict h' fun b => decide (b ≠ e)
  have gk : ∀ b, b ≠ e → G'.get? b = h'.get? b := fun b hb => g1 b (decide_eq_true hb)
  have ge : G'.get? e = none := g2 e (by simp)
  have old : ∀ b o, hp.get? b = some o → G'.get? b = some o := fun b o q => (gk b (Nat.ne_of_lt (Nat.lt_of_lt_of_le (Heap.lt_size q) M.new))).trans (M.keep b o q)
  have ob : ObjOk X.prog X.w (upd H1 d (.xd [(f, v)])) G' d (.xd [(f, v)]) := ⟨_, hns.at (fun o q => (gk d M.dne).trans q), fun g => relO_one rv f g⟩
  have J : Inv X pins σ (upd H1 d (.xd [(f, v)])) ⟨G', g, dr, tk', os⟩ := I1.laid (t' := tk') old M.dbig ob
  refine ⟨e, _, _, ⟨G', g, dr, tk', os⟩, _, .ref C, some d, rfl, J, fun b o q => ?_, ge, hoe, ⟨rfl, rfl⟩, rfl, rfl, ?_, rfl, I1.bare, raises_own T.exC T.tyC, q1 d (I1.hok.fresh M.dbig)⟩
  · by_cases hb : b = e
    · have q' : G'.get? b = some o := q
      rw [hb, ge] at q'
      cases q'
    · exact (gk b hb).symm.trans q
  · rw [upd_ne (Ne.symm M.dne)]
    exact I1.hok.fresh M.new
end
end Sm
end
section
set_option maxRecDepth 100000
set_option maxHeartbeats 0
namespace Sm
variable [Tabs0]
open PySem L2
variable {K : PySem.W.Frag} {mg : Str → Option Value}

/-! ### raise, try -/
section
variable {X : Cx} {W : Wh}
def xRaise (c : Str) : SS := fun e C => some (.ex c none e C)
theorem sc_raise {e : Expr} {pos : Pos} {a : Addr} {c : Str} (hc : X.calm = true) (tk : Takes X W.w) (he : PMk X e (fun _ H Q => Q (.ref a) none H)) (gC : X.mg c = some (.ref a)) : SC X W (.Raise (some e) none pos) (xRaise c) :=
  ps_imp (ps_raise hc tk he) fun D σ H ⟨Hf, F, ρ, env, C, S0, E0, g⟩ => g (.ref a) none σ H Hf ρ (Same.refl _) (List.prefix_refl _) S0 E0 ⟨a, gC, rfl, rfl⟩
def xRaiseF (c f : Str) (s : S (List D)) : SS := xDo s fun ds e C => match ds with
  | [d] => some (.ex c (some (f, d)) e C)
  | _ => none
theorem sc_raiseF {e : Expr} {pos : Pos} {a : Addr} {c f : Str} {s : S (List D)} (hc : X.calm = true) (tk : Takes X W.w) (he : PMk X e (tMkSup a f (tA X.K X.mg W s))) (gC : X.mg c = some (.ref a)) : SC X W (.Raise (some e) none pos) (xRaiseF c f s) :=
  ps_imp (ps_raise hc tk he) fun D σ H ⟨Hf, F, ρ, env, C, S0, E0, g⟩ => ⟨Hf, F, ρ, env, C, S0, E0, (GoS.doit E0 g).mono fun vs H1 ⟨Hf1, ρ1, C1, ds, e1, p1, S1, A1, g1⟩ => by
    match ds, A1, g1 with
    | [d], .cons (v := v) h .nil, g1 =>
      refine ⟨v, rfl, fun b hb => ?_⟩
      obtain ⟨S2, e2⟩ := S1.new (o := .xd [(f, v)]) hb
      exact g1 (.ref a) (some b) σ _ _ ρ1 e2 (List.prefix_refl _) S2 ((E0.mono e1 p1).mono e2 (List.prefix_refl _)) ⟨a, gC, rfl, b, v, rfl, upd_same, h.mono e2 (List.prefix_refl _)⟩
    | [], _, g1 => exact g1.elim
    | _ :: _ :: _, _, g1 => exact g1.elim⟩
/-- e.f in a suite that holds the error, of class c, in slot i -/
def xErr (i : Nat) (c f : Str) : S D := fun env C => match env[i]? with
  | some (some (.err b g d)) => if c = b ∧ f = g then some (.ok d C) else none
  | _ => none
theorem se_err {a C : Addr} {oe : Obj} {cls : Value} {d : Option Addr} {pn : List (Addr × Obj)} {x : Str} {p pos : Pos} {n c : Str} {i : Nat} {w : WX} (T : XfC X.K C) (hno : PySem.W.findIn X.K (.ref C) n = some none) (gC : X.mg c = some (.ref C))
    (hz : Zc cls d oe) (hf : ∃ vs, oe.data = .fields vs) (he : PE (X.suite a ((a, oe) :: pn)) (.Name x p) (tVar i)) (hb : attributeBase (.Name x p) n X.env (eval (.Name x p) X.env) = eval (.Name x p) X.env) :
    SE (X.suite a ((a, oe) :: pn)) ⟨w, some (i, a, cls, d)⟩ (.Attribute (.Name x p) n pos) (xErr i c n) :=
  pe_imp (pe_xf T hno hz hf he hb) fun σ H Q ⟨Hf, F, ρ, env, Ce, S0, E0, g⟩ => by
    unfold xErr at g
    split at g
    · rename_i c' f' dl hi
      split at g
      · rename_i hff
        obtain ⟨hc, hff⟩ := hff
        subst hff
        subst hc
        obtain ⟨h1, b, C', v, h2, h3, h4, h5, h6⟩ := E0.exc i a cls d _ _ dl rfl hi
        have h4' : X.mg c = some (.ref C') := h4
        rw [gC] at h4'
        cases h4'
        refine ⟨.ref a, h1, rfl, h3, b, _, v, h2, S0.ex _ _ h5, ?_, g v H Hf ρ (Same.refl _) (List.prefix_refl _) S0 h6⟩
        simp [List.lookup]
      · exact g.elim
    · exact g.elim
/-- which errors a clause takes -/
abbrev Tb := List (Str × Bool)
def Catch (K : PySem.W.Frag) (mg : Str → Option Value) (c : Value) (tb : Tb) : Prop := ∀ p ∈ tb, ∃ a : Addr, mg p.1 = some (.ref a) ∧ PySem.W.exmOne K (.ref a) c = some p.2
theorem Catch.get {c : Value} {tb : Tb} (h : Catch K mg c tb) {x : Str} {b : Bool} (e : tb.lookup x = some b) {a : Addr} (ha : mg x = some (.ref a)) : PySem.W.exmOne K (.ref a) c = some b := by
  have hm : (x, b) ∈ tb := PySem.mem_of_lookup e
  obtain ⟨a', h1, h2⟩ := h _ hm
  have h1' : mg x = some (.ref a') := h1
  rw [ha] at h1'
  cases h1'
  exact h2
/-- try: b except c as e (slot i): s, which returns -/
def xTry1 (tb : Tb) (i : Nat) (b s : SS) : SS := fun e C => match b e C with
  | some (.ex c p e1 C1) => match tb.lookup c with
    | some true => match p with
      | some (f, d) => if i < e1.length then match s (e1.set i (some (.err c f d))) C1 with
        | some (.ret d2 C2) => some (.ret d2 C2)
        | _ => none
        else none
      | none => none
    | some false => some (.ex c p e1 C1)
    | none => none
  | o => o
theorem sc_try1 {x n : Str} {c : Value} {i : Nat} {body suite : List Stmt} {b₀ : Stmt} {np pos pos' : Pos} {tb : Tb} {b s : SS} (hs : X.stack = X.env :: X.outer) (hf : X.env.frame = some X.env.locals) (hN : X.N.Nodup) (hi : X.N[i]? = some n) (hln : X.env.kindOf n = some .local) (hc : Names X x c) (tk : Takes X W.w) (hx : W.xc = none)
    (ct : Catch X.K X.mg c tb) (hb : ∀ (w : WX) (pn : List (Addr × Obj)) (xe : Value → Shared → Prop), Takes (X.tr pn xe) w → PassesOwn (model X.prog X.w) X.A X.env xe → SCs (X.tr pn xe) ⟨w, none⟩ body b)
    (hsu : ∀ (a : Addr) (oe : Obj) (cls : Value) (d : Option Addr) (pn : List (Addr × Obj)), Zc cls d oe → (∃ vs, oe.data = .fields vs) → SCs (X.suite a ((a, oe) :: pn)) ⟨fun _ _ _ _ => False, some (i, a, cls, d)⟩ (b₀ :: suite) s) :
    SC X W (.Try body [.ExceptHandler (some (.Name x np)) (some n) (b₀ :: suite) pos'] [] [] pos) (xTry1 tb i b s) :=
  ps_imp (ps_try_as (tb := fun w => tS X.K X.mg ⟨w, none⟩ b) (ts := fun a cls d => tS X.K X.mg ⟨fun _ _ _ _ => False, some (i, a, cls, d)⟩ s) (Wout := W.w) hs hf hN hi hln hc tk hb hsu) fun D σ H ⟨Hf, F, ρ, env, C, S0, E0, g⟩ => by
    refine ⟨Hf, F, ρ, env, C, S0, E0.plain, ?_⟩
    unfold xTry1 at g
    cases hb' : b env C with
    | none =>
      rw [hb'] at g
      exact g
    | some r =>
      rw [hb'] at g
      cases r with
      | nx e' C' => exact fun σ' H' Hf' ρ' e1 p1 s1 n1 => g σ' H' Hf' ρ' e1 p1 s1 ⟨n1.len, n1.at_, fun _ _ _ _ _ _ _ hxx => by rw [hx] at hxx; cases hxx⟩
      | ct e' C' => exact fun σ' H' Hf' ρ' e1 p1 s1 n1 => g σ' H' Hf' ρ' e1 p1 s1 ⟨n1.len, n1.at_, fun _ _ _ _ _ _ _ hxx => by rw [hx] at hxx; cases hxx⟩
      | bk e' C' => exact fun σ' H' Hf' ρ' e1 p1 s1 n1 => g σ' H' Hf' ρ' e1 p1 s1 ⟨n1.len, n1.at_, fun _ _ _ _ _ _ _ hxx => by rw [hx] at hxx; cases hxx⟩
      | ret d' C' => exact g
      | ex c' p e' C' =>
        refine fun cls dd σ' H' Hf' ρ' e1 p1 s1 n1 x1 => ?_
        obtain ⟨a, xa, xc, xp⟩ := x1
        simp only [] at g
        cases ht : tb.lookup c' with
        | none =>
          rw [ht] at g
          exact g.elim
        | some bb =>
          rw [ht] at g
          have em := ct.get ht xa
          refine ⟨bb, by rw [xc]; exact em, fun hbb a' ha' => ?_, fun hbb => ?_⟩
          · subst hbb
            cases p with
            | none => exact g.elim
            | some q =>
              obtain ⟨f, d⟩ := q
              obtain ⟨b', v, xb, xh, xd⟩ := xp
              simp only [] at g
              split at g
              · rename_i hlen
                refine ⟨Hf', F, ρ', e'.set i (some (.err c' f d)), C', s1, ⟨by rw [List.length_set, List.length_set]; exact n1.len, fun j dj hj hnj => ?_, fun j a2 cls2 dd2 c2 f2 d2 hxx hj => ?_⟩, ?_⟩
                · rcases set_some hj with ⟨rfl, rfl, hl⟩ | ⟨hij, hj⟩
                  · cases hnj
                  · rw [List.getElem?_set_ne hij]
                    exact n1.at_ j dj hj hnj
                · have hxx' := Option.some.inj hxx
                  simp only [Prod.mk.injEq] at hxx'
                  obtain ⟨rfl, rfl, rfl, rfl⟩ := hxx'
                  rcases set_some hj with ⟨_, hd, hl⟩ | ⟨hij, hj⟩
                  · cases hd
                    exact ⟨List.getElem?_set_self (by rw [n1.len]; exact hlen), b', a, v, xb, xc, xa, xh, xd⟩
                  · exact absurd rfl hij
                · cases hs' : s (e'.set i (some (.err c' f d))) C' with
                  | none =>
                    rw [hs'] at g
                    exact g
                  | some r =>
                    rw [hs'] at g
                    cases r with
                    | ret d2 C2 => exact fun v' H2 Hf2 ρ2 e2 p2 s2 d2 => g v' H2 Hf2 ρ2 (e1.trans e2) (p1.trans p2) s2 d2
                    | _ => exact g.elim
              · exact g.elim
          · subst hbb
            exact g cls dd σ' H' Hf' ρ' e1 p1 s1 ⟨n1.len, n1.at_, fun _ _ _ _ _ _ _ hxx => by rw [hx] at hxx; cases hxx⟩ ⟨a, xa, xc, xp⟩
end
/-! ### a def of the text -/
section
open PyProof.Rows
variable {P : Program} {w : World} {base : Heap}
/-- a def by its body -/
theorem fnG_of {x qual : Str} {st : Stmt} {f : Addr} {fd : FuncData} {N ps : List Str} {n k : Nat} {b : SS} (F : L2.Fun K x qual st f fd) (Sc : FnScope N ps (defScope st)) (hn : ps.length = n)
    (body : ∀ (cdv : Value) (A : Around) (outer : List PySem.Env) (s : Shared) (H : Hp) (E : XK), Room k (A.deeper (envOfC qual (defScope st) s.heap.objs.size f cdv)) → (A.deeper (envOfC qual (defScope st) s.heap.objs.size f cdv)).guards = some [] → SCs (cxOf (L2.CX P w) P w K mg base N qual (defScope st) f cdv A outer s H E) (WF E) (defBody st) b) :
    FnG P w K mg base (k + 1) f fd ps (spS K mg n (xDef n N.length b)) := by
  have hl : ∀ vs H Q E, spS K mg n (xDef n N.length b) vs H Q E → vs.length = ps.length := fun vs H Q E h => by rw [hn]; exact h.1
  obtain ⟨oc, od, kV, doc, pm, an, cdv, ct, osl, rfl, lk, hcd⟩ := F.ex
  exact ⟨hl, fun A fs s H args us vs Q E gd hr e0 hb r h => LamX.run_ofS lk hcd Sc hr e0 hb r (hl _ _ _ _ h) fun hr' => ⟨_, body cdv A fs s H E hr' gd, goDef h⟩⟩
theorem cal_of {x qual : Str} {st : Stmt} {f : Addr} {fd : FuncData} {N ps : List Str} {n k : Nat} {b : SS} (F : L2.Fun K x qual st f fd) (gF : mg x = some (.ref f)) (hb : Binds K fd ps []) (Sc : FnScope N ps (defScope st)) (hn : ps.length = n)
    (body : ∀ (cdv : Value) (A : Around) (outer : List PySem.Env) (s : Shared) (H : Hp) (E : XK), Room k (A.deeper (envOfC qual (defScope st) s.heap.objs.size f cdv)) → (A.deeper (envOfC qual (defScope st) s.heap.objs.size f cdv)).guards = some [] → SCs (cxOf (L2.CX P w) P w K mg base N qual (defScope st) f cdv A outer s H E) (WF E) (defBody st) b) :
    Cal P w K mg base x n (k + 1) (xDef n N.length b) := by
  exact ⟨⟨f, fd, ps, gF, F.kp, hb, fnG_of F Sc hn body⟩, xDef_ar⟩
/-- what a body's context lets out -/
theorem takes_def {N : List Str} {qual : Str} {scope : Scope} {f : Addr} {cd : Value} {A : Around} {outer : List PySem.Env} {s : Shared} {H : Hp} {E : XK} : Takes (cxOf (L2.CX P w) P w K mg base N qual scope f cd A outer s H E) (WF E).w :=
  takes_of rfl rfl rfl rfl
end
end Sm
end
section
set_option maxRecDepth 100000
set_option maxHeartbeats 0
namespace Sm
variable [Tabs0]
open PySem L2
variable {K : PySem.W.Frag} {mg : Str → Option Value}

/-! ### operators of data -/
theorem Ans.here {Hf F : Hp} {ρ : List Addr} {C : Cells} {H : Hp} {d : D} {Q : VK} {v : V} (k : Ans K Hf F ρ C d Q) (S0 : SR K Hf F ρ C H) (h : Dat K Hf ρ v d) : Q v H := k v H Hf ρ (Same.refl _) (List.prefix_refl _) S0 h
theorem Ans.tup {Hf F : Hp} {ρ : List Addr} {C : Cells} {H : Hp} {ds : List D} {xs : List V} {Q : VK} (k : Ans K Hf F ρ C (.tup ds) Q) (S0 : SR K Hf F ρ C H) (h : Dats K Hf ρ xs ds) : ∀ p, H p = none → Q (.ref p) (upd H p (.tup xs)) := fun p hp => by
  obtain ⟨S1, e1⟩ := S0.new (o := .tup xs) hp
  exact k _ _ _ ρ e1 (List.prefix_refl _) S1 (.tup upd_same (h.mono e1 (List.prefix_refl _)))
theorem Ans.lst {Hf F : Hp} {ρ : List Addr} {C : Cells} {H : Hp} {ds : List D} {xs : List V} {Q : VK} (k : Ans K Hf F ρ C (.lst ds) Q) (S0 : SR K Hf F ρ C H) (h : Dats K Hf ρ xs ds) : ∀ p, H p = none → Q (.ref p) (upd H p (.lst xs)) := fun p hp => by
  obtain ⟨S1, e1⟩ := S0.new (o := .lst xs) hp
  exact k _ _ _ ρ e1 (List.prefix_refl _) S1 (.lst (.inl (.inl upd_same)) (h.mono e1 (List.prefix_refl _)))
theorem Vw.int {H Hf : Hp} {ρ : List Addr} {v : V} {i : Int} (h : Vw K H Hf ρ v (.int i)) : v = .int i := by
  cases h with
  | dat h => cases h; rfl
theorem Vw.bl {H Hf : Hp} {ρ : List Addr} {v : V} {i : Bool} (h : Vw K H Hf ρ v (.bl i)) : v = .bl i := by
  cases h with
  | dat h => cases h; rfl
theorem Vw.str {H Hf : Hp} {ρ : List Addr} {v : V} {i : Str} (h : Vw K H Hf ρ v (.str i)) : v = .str i := by
  cases h with
  | dat h => cases h; rfl
theorem Vw.non {H Hf : Hp} {ρ : List Addr} {v : V} (h : Vw K H Hf ρ v .non) : v = .non := by
  cases h with
  | dat h => cases h; rfl
theorem Vw.tup {H Hf : Hp} {ρ : List Addr} {v : V} {ds : List D} (e : Same Hf H) (h : Vw K H Hf ρ v (.tup ds)) : ∃ a xs, v = .ref a ∧ SqT K H a xs ∧ Hf a = some (.tup xs) ∧ Dats K Hf ρ xs ds := by
  cases h with
  | dat h =>
    cases h with
    | tup h hs => exact ⟨_, _, rfl, .inl (.inl (e _ _ h)), h, hs⟩
theorem Vw.lst {H Hf : Hp} {ρ : List Addr} {v : V} {ds : List D} (e : Same Hf H) (h : Vw K H Hf ρ v (.lst ds)) : ∃ a xs, v = .ref a ∧ SqL K H a xs ∧ Dats K Hf ρ xs ds := by
  cases h with
  | dat h =>
    cases h with
    | lst h hs => exact ⟨_, _, rfl, same_l e h, hs⟩
  | now h hs => exact ⟨_, _, rfl, h, hs⟩
def i2 (f : Int → Int → Option D) : D → D → Option D
  | .int a, .int b => f a b
  | _, _ => none
/-- a rule over ints -/
theorem op2_i {C : Int → Int → Prop} {g : Int → Int → V} {f : Int → Int → Option D} (h : ∀ a b d, f a b = some d → C a b ∧ ∀ Hf ρ, Dat K Hf ρ (g a b) d) : Op2 K (rI C g) (i2 f) := by
  intro Hf F ρ Cs H x y a b d Q S0 ha hb he k
  cases a with
  | int i =>
    cases b with
    | int j =>
      obtain ⟨h1, h2⟩ := h i j d he
      exact ⟨i, j, ha.int, hb.int, h1, k.here S0 (h2 _ _)⟩
    | _ => cases he
  | _ => cases he
theorem op2_i0 {g : Int → Int → V} {f : Int → Int → Option D} (h : ∀ a b d, f a b = some d → ∀ Hf ρ, Dat K Hf ρ (g a b) d) : Op2 K (rI0 g) (i2 f) := by
  intro Hf F ρ Cs H x y a b d Q S0 ha hb he k
  cases a with
  | int i =>
    cases b with
    | int j => exact ⟨i, j, ha.int, hb.int, k.here S0 (h i j d he _ _)⟩
    | _ => cases he
  | _ => cases he
def dSub : D → D → Option D := i2 fun a b => some (.int (a - b))
theorem op_dSub : Op2 K (rI0 fun i j => .int (i - j)) dSub := op2_i0 fun a b d e Hf ρ => by cases e; exact .int _
def dLt : D → D → Option D := i2 fun a b => some (.bl (decide (a < b)))
def dLe : D → D → Option D := i2 fun a b => some (.bl (decide (a ≤ b)))
def dGt : D → D → Option D := i2 fun a b => some (.bl (decide (b < a)))
def dGe : D → D → Option D := i2 fun a b => some (.bl (decide (b ≤ a)))
theorem op_dLt : Op2 K (rI0 fun i j => .bl (decide (i < j))) dLt := op2_i0 fun a b d e Hf ρ => by cases e; exact .bl _
theorem op_dLe : Op2 K (rI0 fun i j => .bl (decide (i ≤ j))) dLe := op2_i0 fun a b d e Hf ρ => by cases e; exact .bl _
theorem op_dGt : Op2 K (rI0 fun i j => .bl (decide (j < i))) dGt := op2_i0 fun a b d e Hf ρ => by cases e; exact .bl _
theorem op_dGe : Op2 K (rI0 fun i j => .bl (decide (j ≤ i))) dGe := op2_i0 fun a b d e Hf ρ => by cases e; exact .bl _
/-- a % b, b above 0 -/
def dMod : D → D → Option D := i2 fun a b => if 0 < b then some (.int (a % b)) else none
theorem op_dMod : Op2 K (rI (fun _ j => 0 < j) fun i j => .int (i % j)) dMod := op2_i fun a b d e => by
  by_cases h : 0 < b
  · rw [if_pos h] at e
    cases e
    exact ⟨h, fun _ _ => .int _⟩
  · rw [if_neg h] at e
    cases e
/-- a // b, b above 0 and not too long -/
def dDiv : D → D → Option D := i2 fun a b => if 0 < b ∧ b.natAbs < 2 ^ 8000 then some (.int (a / b)) else none
theorem op_dDiv : Op2 K (rI CDivW fun i j => .int (i / j)) dDiv := op2_i fun a b d e => by
  by_cases h : 0 < b ∧ b.natAbs < 2 ^ 8000
  · rw [if_pos h] at e
    cases e
    exact ⟨wide_div h.1 h.2 (by decide) (by decide), fun _ _ => .int _⟩
  · rw [if_neg h] at e
    cases e
/-- a ** b -/
def dPow : D → D → Option D := i2 fun a b => if 0 ≤ b ∧ (Builtin.Int.intBits a : Int) * b ≤ 2 ^ 27 then some (.int (a ^ b.toNat)) else none
def CPowW (i j : Int) : Prop := 0 ≤ j ∧ (Builtin.Int.intBits i : Int) * j ≤ 2 ^ 27
theorem op_powW {X : Cx} : OpR X (binaryOp .Pow) (rI CPowW fun i j => .int (i ^ j.toNat)) := opI fun _ _ _ _ _ _ _ hc q => PyProof.Rows.pow_int hc.1 hc.2 q
theorem op_dPow : Op2 K (rI CPowW fun i j => .int (i ^ j.toNat)) dPow := op2_i fun a b d e => by
  by_cases h : 0 ≤ b ∧ (Builtin.Int.intBits a : Int) * b ≤ 2 ^ 27
  · rw [if_pos h] at e
    cases e
    exact ⟨h, fun _ _ => .int _⟩
  · rw [if_neg h] at e
    cases e
/-- a * b: ints that are not too long, or a tuple some times -/
def dMul : D → D → Option D
  | .int a, .int b => if (a.natAbs < 2 ^ 400000 ∧ b.natAbs < 2 ^ 400000) then some (.int (a * b)) else none
  | .tup ds, .int b => if ds ≠ [] ∧ 2 ≤ b ∧ b ≤ 1000 ∧ ds.length ≤ 1000 then some (.tup (List.replicate b.toNat ds).flatten) else none
  | _, _ => none
theorem Dats.rep {H : Hp} {ρ : List Addr} {vs : List V} {ds : List D} (h : Dats K H ρ vs ds) : ∀ n, Dats K H ρ (List.replicate n vs).flatten (List.replicate n ds).flatten
  | 0 => .nil
  | n + 1 => by
    rw [List.replicate_succ, List.replicate_succ, List.flatten_cons, List.flatten_cons]
    exact h.app (Dats.rep h n)
theorem op_dMul : Op2 K (fun x y H Q => rI CMulW (fun i j => .int (i * j)) x y H Q ∨ rRepT K x y H Q) dMul := by
  intro Hf F ρ Cs H x y a b d Q S0 ha hb he k
  cases a with
  | int i =>
    cases b with
    | int j =>
      refine .inl ⟨i, j, ha.int, hb.int, ?_⟩
      unfold dMul at he
      simp only [] at he
      split at he
      · rename_i h
        have e := Option.some.inj he
        subst e
        exact ⟨wide_mul h.1 h.2 (by decide) (by decide) (by decide), k.here S0 (.int _)⟩
      · cases he
    | _ => cases he
  | tup ds =>
    cases b with
    | int j =>
      refine .inr ?_
      unfold dMul at he
      simp only [] at he
      split at he
      · rename_i h
        have e := Option.some.inj he
        subst e
        obtain ⟨a, xs, rfl, hx, _, hs⟩ := ha.tup S0.ex
        have hl := hs.len
        refine ⟨a, j, xs, rfl, hb.int, hx, fun z => h.1 ?_, h.2.1, h.2.2.1, by omega, k.tup S0 (hs.rep _)⟩
        subst z
        cases hs
        rfl
      · cases he
    | _ => cases he
  | _ => cases he
/-- a + b -/
def dAdd : D → D → Option D
  | .int a, .int b => some (.int (a + b))
  | .str a, .str b => if a.length + b.length ≤ 1000000 then some (.str (a ++ b)) else none
  | .tup a, .tup b => if a.length + b.length ≤ 1000000 then some (.tup (a ++ b)) else none
  | .lst a, .lst b => if a.length + b.length ≤ 1000000 then some (.lst (a ++ b)) else none
  | _, _ => none
def rCatL (K : PySem.W.Frag) : R2 := fun x y H Q => ∃ a b xs ys, x = .ref a ∧ y = .ref b ∧ SqL K H a xs ∧ SqL K H b ys ∧ xs.length + ys.length ≤ sizeLine ∧ ∀ p, H p = none → Q (.ref p) (upd H p (.lst (xs ++ ys)))
theorem op_catL {X : Cx} : OpR X (binaryOp .Add) (rCatL X.K) := by
  intro pins s σ H x y v u Q I rx ry h
  obtain ⟨a, b, xs, ys, rfl, rfl, ha, hb, hz, q⟩ := h
  cases rx
  cases ry
  obtain ⟨its, r1, p1, _⟩ := I.list ha
  obtain ⟨its2, r2, p2, _⟩ := I.list hb
  obtain ⟨⟨c1, d1, t1, s1⟩, h1, e1, n1, f1⟩ := p1.isList
  obtain ⟨⟨c2, d2, t2, s2⟩, h2, e2, n2, f2⟩ := p2.isList
  simp only at e1 f1 e2 f2
  subst e1 f1 e2 f2
  have l1 := r1.length
  have l2 := r2.length
  refine PySem.concat_meets ⟨_, h1, rfl⟩ ⟨_, h2, rfl⟩ PySem.noFill_list_add PySem.seq_list_add PySem.F.slot_list_add PySem.F.entry_list_add (PySem.F.args_list_add_2 _ _) (PyProof.Rows.list_addW a b its.toArray its2.toArray n1 n2 d1 d2 s1 s2 (by rw [List.size_toArray, List.size_toArray]; omega)) ⟨h1, h2, ?_⟩
  rw [show its.toArray ++ its2.toArray = (its ++ its2).toArray by simp]
  exact ⟨.ref _, _, I.lnew (t' := s.toks) (r1.append r2) (by rw [List.length_append]; exact hz), rfl, q _ I.fresh⟩
theorem small_ok {n : Nat} (h : n ≤ 1000000) : n ≤ sizeLine := Nat.le_trans h (by decide)
abbrev rAddAny (K : PySem.W.Frag) : R2 := fun x y H Q => rI0 (fun i j => .int (i + j)) x y H Q ∨ ((∃ i j, x = .str i ∧ y = .str j ∧ i.length + j.length ≤ sizeLine ∧ Q (.str (i ++ j)) H) ∨ (rCatA K x y H Q ∨ rCatL K x y H Q))
theorem or_add {X : Cx} : OpR X (binaryOp .Add) (rAddAny X.K) := op_add.or (op_add_str.or (op_catA.or op_catL))
theorem op_dAdd : Op2 K (rAddAny K) dAdd := by
  intro Hf F ρ Cs H x y a b d Q S0 ha hb he k
  cases a with
  | int i =>
    cases b with
    | int j =>
      have e := Option.some.inj he
      subst e
      exact .inl ⟨i, j, ha.int, hb.int, k.here S0 (.int _)⟩
    | _ => cases he
  | str i =>
    cases b with
    | str j =>
      unfold dAdd at he
      simp only [] at he
      split at he
      · have e := Option.some.inj he
        subst e
        exact .inr (.inl ⟨i, j, ha.str, hb.str, small_ok (by assumption), k.here S0 (.str _)⟩)
      · cases he
    | _ => cases he
  | tup as =>
    cases b with
    | tup bs =>
      unfold dAdd at he
      simp only [] at he
      split at he
      · have e := Option.some.inj he
        subst e
        obtain ⟨a, xs, rfl, hx, hxf, hs⟩ := ha.tup S0.ex
        obtain ⟨b, ys, rfl, hy, hyf, ht⟩ := hb.tup S0.ex
        have l1 := hs.len
        have l2 := ht.len
        refine .inr (.inr (.inl ⟨a, b, xs, ys, rfl, rfl, hx, hy, small_ok (by omega), fun z => ?_, fun _ z => ?_, fun _ _ => k.tup S0 (hs.app ht)⟩))
        · subst z
          cases hs
          exact k.here S0 (.tup hyf ht)
        · subst z
          cases ht
          rw [List.append_nil] at k
          exact k.here S0 (.tup hxf hs)
      · cases he
    | _ => cases he
  | lst as =>
    cases b with
    | lst bs =>
      unfold dAdd at he
      simp only [] at he
      split at he
      · have e := Option.some.inj he
        subst e
        obtain ⟨a, xs, rfl, hx, hs⟩ := ha.lst S0.ex
        obtain ⟨b, ys, rfl, hy, ht⟩ := hb.lst S0.ex
        have l1 := hs.len
        have l2 := ht.len
        exact .inr (.inr (.inr ⟨a, b, xs, ys, rfl, rfl, hx, hy, small_ok (by omega), k.lst S0 (hs.app ht)⟩))
      · cases he
    | _ => cases he
  | _ => cases he
/-! ### subscripts -/
def dIx : D → D → Option D
  | .lst ds, .int i => atI ds i
  | .tup ds, .int i => atI ds i
  | _, _ => none
theorem atI_dats {H : Hp} {ρ : List Addr} {xs : List V} {ds : List D} {i : Int} {d : D} (h : Dats K H ρ xs ds) (e : atI ds i = some d) : ∃ v, atI xs i = some v ∧ Dat K H ρ v d := by
  unfold atI at e ⊢
  rw [h.len]
  cases q : ixN ds.length i with
  | none =>
    rw [q] at e
    cases e
  | some j =>
    rw [q] at e
    obtain ⟨v, h1, h2⟩ := h.get (show ds[j]? = some d from e)
    exact ⟨v, h1, h2⟩
theorem op_dIx : Op2 K (fun x y H Q => rIxL K x y H Q ∨ rIxT K x y H Q) dIx := by
  intro Hf F ρ Cs H x y a b d Q S0 ha hb he k
  cases a with
  | lst ds =>
    cases b with
    | int i =>
      obtain ⟨a, xs, rfl, hx, hs⟩ := ha.lst S0.ex
      obtain ⟨v, h1, h2⟩ := atI_dats hs he
      exact .inl ⟨a, xs, i, v, rfl, hb.int, hx, h1, k.here S0 h2⟩
    | _ => cases he
  | tup ds =>
    cases b with
    | int i =>
      obtain ⟨a, xs, rfl, hx, _, hs⟩ := ha.tup S0.ex
      obtain ⟨v, h1, h2⟩ := atI_dats hs he
      exact .inr ⟨a, xs, i, v, rfl, hb.int, hx, h1, k.here S0 h2⟩
    | _ => cases he
  | _ => cases he
theorem ix_any {X : Cx} : IxR X (fun x y H Q => rIxL X.K x y H Q ∨ rIxT X.K x y H Q) := ix_list.or ix_tup
/-! ### is None -/
def dIs : D → D → Option D
  | .err _ _ _, _ => none
  | .opq _, _ => none
  | .non, .non => some (.bl true)
  | _, .non => some (.bl false)
  | _, _ => none
def dIsNot : D → D → Option D := fun a b => match dIs a b with
  | some (.bl k) => some (.bl (!k))
  | _ => none
theorem dIs_ok {Hf F H : Hp} {ρ : List Addr} {Cs : Cells} {x y : V} {a b d : D} (S0 : SR K Hf F ρ Cs H) (ha : Vw K H Hf ρ x a) (hb : Vw K H Hf ρ y b) (he : dIs a b = some d) : y = .non ∧ d = .bl (decide (x = .non)) := by
  cases b with
  | non =>
    refine ⟨hb.non, ?_⟩
    cases ha with
    | dat h =>
      cases h <;> first
        | (cases he; rfl)
        | cases he
    | now h hs => cases he; rfl
    | nowT h hl hs => cases he; rfl
  | _ => cases a <;> cases he
theorem op_dIs : Op2 K (fun x y H Q => y = .non ∧ Q (.bl (decide (x = .non))) H) dIs := by
  intro Hf F ρ Cs H x y a b d Q S0 ha hb he k
  obtain ⟨h1, h2⟩ := dIs_ok S0 ha hb he
  subst h2
  exact ⟨h1, k.here S0 (.bl _)⟩
theorem op_dIsNot : Op2 K (fun x y H Q => y = .non ∧ Q (.bl (!decide (x = .non))) H) dIsNot := by
  intro Hf F ρ Cs H x y a b d Q S0 ha hb he k
  unfold dIsNot at he
  split at he
  · rename_i kk hh
    obtain ⟨h1, h2⟩ := dIs_ok S0 ha hb hh
    cases h2
    have e := Option.some.inj he
    subst e
    exact ⟨h1, k.here S0 (.bl _)⟩
  · cases he
/-! ### == and != of data of any depth -/
mutual
def toP : D → PyData
  | .non => .none
  | .bl b => .bool b
  | .int i => .int i
  | .str x => .str x
  | .tup ds => .tuple (toPs ds)
  | .lst ds => .list (toPs ds)
  | _ => .none
def toPs : List D → List PyData
  | [] => []
  | d :: ds => toP d :: toPs ds
end
mutual
/-- data that == reads, of nesting up to n -/
def okE : D → Nat → Bool
  | .non, _ => true
  | .bl _, _ => true
  | .int _, _ => true
  | .str x, _ => PySem.PyData.strOk x
  | .tup ds, n => match n with
    | 0 => false
    | n + 1 => okEs ds n
  | .lst ds, n => match n with
    | 0 => false
    | n + 1 => okEs ds n
  | _, _ => false
def okEs : List D → Nat → Bool
  | [], _ => true
  | d :: ds, n => okE d n && okEs ds n
end
mutual
def eqd : D → D → Bool
  | .non, .non => true
  | .bl a, .bl b => a == b
  | .bl a, .int j => (if a then 1 else 0) == j
  | .int i, .bl b => i == (if b then 1 else 0)
  | .int i, .int j => i == j
  | .str x, .str y => x == y
  | .tup a, .tup b => eqds a b
  | .lst a, .lst b => eqds a b
  | _, _ => false
def eqds : List D → List D → Bool
  | [], [] => true
  | a :: r, b :: t => eqd a b && eqds r t
  | _, _ => false
end
mutual
theorem okE_lay : ∀ (d : D) (n : Nat), okE d n = true → (toP d).canLay0 = true ∧ (toP d).depth ≤ n
  | .non, n, h => ⟨rfl, Nat.zero_le _⟩
  | .bl b, n, h => ⟨rfl, Nat.zero_le _⟩
  | .int b, n, h => ⟨rfl, Nat.zero_le _⟩
  | .str x, n, h => ⟨by simpa [okE, toP, PyData.canLay0] using h, Nat.zero_le _⟩
  | .tup ds, 0, h => by simp [okE] at h
  | .tup ds, n + 1, h => by
    obtain ⟨h1, h2⟩ := okEs_lay ds n (by simpa [okE] using h)
    exact ⟨by simpa [toP, PyData.canLay0] using h1, by simp only [toP, PyData.depth]; omega⟩
  | .lst ds, 0, h => by simp [okE] at h
  | .lst ds, n + 1, h => by
    obtain ⟨h1, h2⟩ := okEs_lay ds n (by simpa [okE] using h)
    exact ⟨by simpa [toP, PyData.canLay0] using h1, by simp only [toP, PyData.depth]; omega⟩
  | .cel _, n, h => by simp [okE] at h
  | .opq _, n, h => by simp [okE] at h
  | .err _ _ _, n, h => by simp [okE] at h
  | .dk _ _, n, h => by simp [okE] at h
  | .dt _ _, n, h => by simp [okE] at h
theorem okEs_lay : ∀ (ds : List D) (n : Nat), okEs ds n = true → PyData.canLayAll0 (toPs ds) = true ∧ PyData.depthAll (toPs ds) ≤ n
  | [], n, h => ⟨rfl, Nat.zero_le _⟩
  | d :: ds, n, h => by
    simp [okEs] at h
    obtain ⟨h1, h2⟩ := okE_lay d n h.1
    obtain ⟨h3, h4⟩ := okEs_lay ds n h.2
    exact ⟨by simp [toPs, PyData.canLayAll0, h1, h3], by simp only [toPs, PyData.depthAll]; omega⟩
end
theorem okE_shaped {d : D} (h : okE d 60 = true) : SeqAt.shaped (toP d) = true := by
  obtain ⟨h1, h2⟩ := okE_lay d 60 h
  unfold SeqAt.shaped
  rw [h1, Bool.true_and]
  exact decide_eq_true (by omega)
mutual
theorem eqd_eqv : ∀ (a b : D) (n m : Nat), okE a n = true → okE b m = true → eqd a b = PyData.eqv (toP a) (toP b)
  | .non, b, n, m, ha, hb => by cases b <;> first | rfl | (cases m <;> simp [okE] at hb)
  | .bl x, b, n, m, ha, hb => by cases b <;> first | rfl | (cases m <;> simp [okE] at hb)
  | .int x, b, n, m, ha, hb => by cases b <;> first | rfl | (cases m <;> simp [okE] at hb)
  | .str x, b, n, m, ha, hb => by cases b <;> first | rfl | (cases m <;> simp [okE] at hb)
  | .tup x, b, n, m, ha, hb => by
    cases b with
    | tup y =>
      cases n with
      | zero => simp [okE] at ha
      | succ n =>
        cases m with
        | zero => simp [okE] at hb
        | succ m => simpa [eqd, toP, PyData.eqv] using eqds_eqv x y n m (by simpa [okE] using ha) (by simpa [okE] using hb)
    | _ => first | rfl | (cases m <;> simp [okE] at hb)
  | .lst x, b, n, m, ha, hb => by
    cases b with
    | lst y =>
      cases n with
      | zero => simp [okE] at ha
      | succ n =>
        cases m with
        | zero => simp [okE] at hb
        | succ m => simpa [eqd, toP, PyData.eqv] using eqds_eqv x y n m (by simpa [okE] using ha) (by simpa [okE] using hb)
    | _ => first | rfl | (cases m <;> simp [okE] at hb)
  | .cel _, b, n, m, ha, hb => by cases n <;> simp [okE] at ha
  | .opq _, b, n, m, ha, hb => by cases n <;> simp [okE] at ha
  | .err _ _ _, b, n, m, ha, hb => by cases n <;> simp [okE] at ha
  | .dk _ _, b, n, m, ha, hb => by cases n <;> simp [okE] at ha
  | .dt _ _, b, n, m, ha, hb => by cases n <;> simp [okE] at ha
theorem eqds_eqv : ∀ (a b : List D) (n m : Nat), okEs a n = true → okEs b m = true → eqds a b = PyData.eqvAll (toPs a) (toPs b)
  | [], [], n, m, ha, hb => rfl
  | [], b :: t, n, m, ha, hb => rfl
  | a :: r, [], n, m, ha, hb => rfl
  | a :: r, b :: t, n, m, ha, hb => by
    simp [okEs] at ha hb
    simp only [eqds, toPs, PyData.eqvAll]
    rw [eqd_eqv a b n m ha.1 hb.1, eqds_eqv r t n m ha.2 hb.2]
end
mutual
theorem Dat.dp {H : Hp} {ρ : List Addr} {v : V} {d : D} (q : Dat K H ρ v d) (n : Nat) (h : okE d n = true) : Dp K H v (toP d) :=
  match q with
  | .non => .non
  | .bl b => .bl b
  | .int i => .int i
  | .str x => .str x
  | .tup hx hs => by
    cases n with
    | zero => simp [okE] at h
    | succ n => exact .tup (.inl (.inl hx)) (Dats.dp hs n (by simpa [okE] using h))
  | .lst hx hs => by
    cases n with
    | zero => simp [okE] at h
    | succ n => exact .lst hx (Dats.dp hs n (by simpa [okE] using h))
  | .cel _ => by cases n <;> simp [okE] at h
  | .opq _ => by cases n <;> simp [okE] at h
  | .dk _ _ _ => by cases n <;> simp [okE] at h
  | .dt _ _ _ => by cases n <;> simp [okE] at h
theorem Dats.dp {H : Hp} {ρ : List Addr} {vs : List V} {ds : List D} (q : Dats K H ρ vs ds) (n : Nat) (h : okEs ds n = true) : DpAll K H vs (toPs ds) :=
  match q with
  | .nil => .nil
  | .cons hx hs => .cons (Dat.dp hx n (by simp [okEs] at h; exact h.1)) (Dats.dp hs n (by simp [okEs] at h; exact h.2))
end
theorem Vw.dp {H Hf : Hp} {ρ : List Addr} {v : V} {d : D} (e : Same Hf H) (q : Vw K H Hf ρ v d) (h : okE d 60 = true) : Dp K H v (toP d) := by
  cases q with
  | dat q => exact (q.mono e (List.prefix_refl _)).dp 60 h
  | now hx hs => exact .lst hx ((hs.mono e (List.prefix_refl _)).dp 59 (by simpa [okE] using h))
  | nowT hx hl hs => simp [okE] at h
def dEq : D → D → Option D := fun a b => if okE a 60 = true ∧ okE b 60 = true then some (.bl (eqd a b)) else none
def dNe : D → D → Option D := fun a b => if okE a 60 = true ∧ okE b 60 = true then some (.bl (!eqd a b)) else none
theorem op_dEq : Op2 K (rEqD K) dEq := by
  intro Hf F ρ Cs H x y a b d Q S0 ha hb he k
  unfold dEq at he
  split at he
  · rename_i h
    have e := Option.some.inj he
    subst e
    refine ⟨toP a, toP b, ha.dp S0.ex h.1, hb.dp S0.ex h.2, okE_shaped h.1, okE_shaped h.2, ?_⟩
    rw [← eqd_eqv a b 60 60 h.1 h.2]
    exact k.here S0 (.bl _)
  · cases he
theorem op_dNe : Op2 K (rNeD K) dNe := by
  intro Hf F ρ Cs H x y a b d Q S0 ha hb he k
  unfold dNe at he
  split at he
  · rename_i h
    have e := Option.some.inj he
    subst e
    refine ⟨toP a, toP b, ha.dp S0.ex h.1, hb.dp S0.ex h.2, okE_shaped h.1, okE_shaped h.2, ?_⟩
    rw [← eqd_eqv a b 60 60 h.1 h.2]
    exact k.here S0 (.bl _)
  · cases he
/-! ### one operand -/
def Op1 (K : PySem.W.Frag) (r : V → Hp → VK → Prop) (f : D → Option D) : Prop := ∀ (Hf F : Hp) (ρ : List Addr) (C : Cells) (H : Hp) (x : V) (a d : D) (Q : VK), SR K Hf F ρ C H → Vw K H Hf ρ x a → f a = some d → Ans K Hf F ρ C d Q → r x H Q
def x1 (f : D → Option D) (a : S D) : S D := S.bind a fun x => fun env C => S.opt (f (vw C x)) env C
section
variable {X : Cx} {W : Wh}
theorem se_un {op : UnaryOp} {a : Expr} {pos : Pos} {r : V → Hp → VK → Prop} {f : D → Option D} {sa : S D} (ho : UnR X (unaryOp op) r) (hf : Op1 X.K r f) (ha : SE X W a sa) : SE X W (.UnaryOp op a pos) (x1 f sa) :=
  pe_imp (pe_un ho ha) fun σ H Q ⟨Hf, F, ρ, env, C, S0, E0, g⟩ => ⟨Hf, F, ρ, env, C, S0, E0, (Go.bind g).mono fun x H1 ⟨Hf1, ρ1, C1, a, e1, p1, S1, A1, g1⟩ => by
    obtain ⟨d, hd, g2⟩ := Go.opt g1
    exact hf Hf1 F ρ1 C1 H1 x _ d Q S1 (vw_ok S1 A1) hd fun v H' Hf' ρ' e3 p3 S3 D3 => g2 v H' Hf' ρ' e3 p3 S3 D3⟩
end
def dNeg : D → Option D
  | .int a => some (.int (-a))
  | _ => none
theorem op_dNeg : Op1 K (rU fun i => .int (-i)) dNeg := by
  intro Hf F ρ Cs H x a d Q S0 ha he k
  cases a with
  | int i =>
    cases he
    exact ⟨i, ha.int, k.here S0 (.int _)⟩
  | _ => cases he
/-! ### calls of built-ins -/
/-- the arguments as they are read now -/
inductive Vws (K : PySem.W.Frag) (H : Hp) (Hf : Hp) (ρ : List Addr) : List V → List D → Prop
  | nil : Vws K H Hf ρ [] []
  | cons {v : V} {vs : List V} {d : D} {ds : List D} (h : Vw K H Hf ρ v d) (hs : Vws K H Hf ρ vs ds) : Vws K H Hf ρ (v :: vs) (d :: ds)
theorem vws_ok {Hf F : Hp} {ρ : List Addr} {C : Cells} {H : Hp} (S0 : SR K Hf F ρ C H) : ∀ {vs : List V} {ds : List D}, Dats K Hf ρ vs ds → Vws K H Hf ρ vs (ds.map (vw C))
  | _, _, .nil => .nil
  | _, _, .cons h hs => .cons (vw_ok S0 h) (vws_ok S0 hs)
def OpN (K : PySem.W.Frag) (r : List V → Hp → VK → Prop) (f : List D → Option D) : Prop := ∀ (Hf F : Hp) (ρ : List Addr) (C : Cells) (H : Hp) (xs : List V) (as : List D) (d : D) (Q : VK), SR K Hf F ρ C H → Vws K H Hf ρ xs as → f as = some d → Ans K Hf F ρ C d Q → r xs H Q
def xN (f : List D → Option D) (a : S (List D)) : S D := S.bind a fun xs => fun env C => S.opt (f (xs.map (vw C))) env C
theorem goN {X : Cx} {W : Wh} {r : List V → Hp → VK → Prop} {f : List D → Option D} {sa : S (List D)} (hf : OpN X.K r f) {σ : L2.St} {H : Hp} {Q : VK} (h : tE X.K X.mg W (xN f sa) σ H Q) : tCB r (tA X.K X.mg W sa) σ H Q := by
  obtain ⟨Hf, F, ρ, env, C, S0, E0, g⟩ := h
  refine ⟨Hf, F, ρ, env, C, S0, E0, (Go.bind g).mono fun xs H1 ⟨Hf1, ρ1, C1, as, e1, p1, S1, A1, g1⟩ => ?_⟩
  obtain ⟨d, hd, g2⟩ := Go.opt g1
  exact hf Hf1 F ρ1 C1 H1 xs _ d Q S1 (vws_ok S1 A1) hd fun v H' Hf' ρ' e3 p3 S3 D3 => g2 v H' Hf' ρ' e3 p3 S3 D3
theorem se_bi {X : Cx} {W : Wh} {x : Str} {p pos : Pos} {es : List Expr} {r : List V → Hp → VK → Prop} {f : List D → Option D} {s : S (List D)} (hf : OpN X.K r f) (h : PE X (.Call (.Name x p) es [] pos) (tCB r (tA X.K X.mg W s))) : SE X W (.Call (.Name x p) es [] pos) (xN f s) :=
  pe_imp h fun _ _ _ q => goN hf q
def dAbs : List D → Option D
  | [.int a] => some (.int (if a < 0 then -a else a))
  | _ => none
theorem op_dAbs : OpN K (fun xs H Q => ∃ i, xs = [.int i] ∧ Q (.int (if i < 0 then -i else i)) H) dAbs := by
  intro Hf F ρ Cs H xs as d Q S0 ha he k
  unfold dAbs at he
  split at he
  · cases he
    cases ha with
    | cons h hs =>
      cases hs
      exact ⟨_, by rw [h.int], k.here S0 (.int _)⟩
  · cases he
def dInt : List D → Option D
  | [.int a] => some (.int a)
  | [.bl a] => some (.int (if a then 1 else 0))
  | _ => none
theorem op_dInt : OpN K (fun xs H Q => (∃ i, xs = [.int i] ∧ Q (.int i) H) ∨ ∃ k, xs = [.bl k] ∧ Q (.int (if k then 1 else 0)) H) dInt := by
  intro Hf F ρ Cs H xs as d Q S0 ha he k
  unfold dInt at he
  split at he
  · cases he
    cases ha with
    | cons h hs =>
      cases hs
      exact .inl ⟨_, by rw [h.int], k.here S0 (.int _)⟩
  · cases he
    cases ha with
    | cons h hs =>
      cases hs
      exact .inr ⟨_, by rw [h.bl], k.here S0 (.int _)⟩
  · cases he
def dLen : List D → Option D
  | [.lst ds] => some (.int ds.length)
  | [.tup ds] => some (.int ds.length)
  | _ => none
theorem op_dLen : OpN K (fun xs H Q => ∃ p ys, xs = [.ref p] ∧ (SqL K H p ys ∨ SqT K H p ys) ∧ Q (.int ys.length) H) dLen := by
  intro Hf F ρ Cs H xs as d Q S0 ha he k
  unfold dLen at he
  split at he
  · cases he
    cases ha with
    | cons h hs =>
      cases hs
      obtain ⟨a, xs, rfl, hx, hd⟩ := h.lst S0.ex
      exact ⟨a, xs, rfl, .inl hx, k.here S0 (by rw [hd.len]; exact .int _)⟩
  · cases he
    cases ha with
    | cons h hs =>
      cases hs
      obtain ⟨a, xs, rfl, hx, _, hd⟩ := h.tup S0.ex
      exact ⟨a, xs, rfl, .inr hx, k.here S0 (by rw [hd.len]; exact .int _)⟩
  · cases he
def dMin2 : List D → Option D
  | [.int a, .int b] => some (.int (if b < a then b else a))
  | _ => none
def dMax2 : List D → Option D
  | [.int a, .int b] => some (.int (if b > a then b else a))
  | _ => none
theorem op_dMin2 : OpN K (fun xs H Q => ∃ i j, xs = [.int i, .int j] ∧ Q (.int (if j < i then j else i)) H) dMin2 := by
  intro Hf F ρ Cs H xs as d Q S0 ha he k
  unfold dMin2 at he
  split at he
  · cases he
    cases ha with
    | cons h hs =>
      cases hs with
      | cons h2 hs =>
        cases hs
        exact ⟨_, _, by rw [h.int, h2.int], k.here S0 (.int _)⟩
  · cases he
theorem op_dMax2 : OpN K (fun xs H Q => ∃ i j, xs = [.int i, .int j] ∧ Q (.int (if j > i then j else i)) H) dMax2 := by
  intro Hf F ρ Cs H xs as d Q S0 ha he k
  unfold dMax2 at he
  split at he
  · cases he
    cases ha with
    | cons h hs =>
      cases hs with
      | cons h2 hs =>
        cases hs
        exact ⟨_, _, by rw [h.int, h2.int], k.here S0 (.int _)⟩
  · cases he
def dGcd : List D → Option D
  | [.int a, .int b] => some (.int (Nat.gcd a.natAbs b.natAbs : Nat))
  | _ => none
theorem op_dGcd : OpN K rGcd dGcd := by
  intro Hf F ρ Cs H xs as d Q S0 ha he k
  unfold dGcd at he
  split at he
  · cases he
    cases ha with
    | cons h hs =>
      cases hs with
      | cons h2 hs =>
        cases hs
        exact ⟨_, _, by rw [h.int, h2.int], k.here S0 (.int _)⟩
  · cases he
/-- tuple(xs) -/
def dTuple : List D → Option D
  | [.lst ds] => some (.tup ds)
  | [.tup ds] => some (.tup ds)
  | _ => none
theorem op_dTuple : OpN K (fun xs H Q => ∃ p ys, xs = [.ref p] ∧ ((SqL K H p ys ∧ ∀ l, H l = none → Q (.ref l) (upd H l (.tup ys))) ∨ (SqT K H p ys ∧ Q (.ref p) H))) dTuple := by
  intro Hf F ρ Cs H xs as d Q S0 ha he k
  unfold dTuple at he
  split at he
  · cases he
    cases ha with
    | cons h hs =>
      cases hs
      obtain ⟨a, xs, rfl, hx, hd⟩ := h.lst S0.ex
      exact ⟨a, xs, rfl, .inl ⟨hx, k.tup S0 hd⟩⟩
  · cases he
    cases ha with
    | cons h hs =>
      cases hs
      obtain ⟨a, xs, rfl, hx, hxf, hd⟩ := h.tup S0.ex
      exact ⟨a, xs, rfl, .inr ⟨hx, k.here S0 (.tup hxf hd)⟩⟩
  · cases he
/-- all(xs), any(xs), of truth values -/
def bls : List D → Option (List Bool)
  | [] => some []
  | .bl b :: ds => (bls ds).map (b :: ·)
  | _ => none
theorem bls_ok {H : Hp} {ρ : List Addr} : ∀ {xs : List V} {ds : List D} {bs : List Bool}, Dats K H ρ xs ds → bls ds = some bs → xs = bs.map V.bl
  | _, _, bs, .nil, h => by
    have e : [] = bs := Option.some.inj h
    subst e
    rfl
  | _, _, bs, .cons (d := d) (ds := ds) h hs, e => by
    cases d with
    | bl b =>
      have e' : (bls ds).map (b :: ·) = some bs := e
      cases q : bls ds with
      | none =>
        rw [q] at e'
        cases e'
      | some cs =>
        rw [q] at e'
        have e2 : b :: cs = bs := Option.some.inj e'
        subst e2
        cases h
        rw [bls_ok hs q]
        rfl
    | _ => cases e
def dAll : List D → Option D
  | [.lst ds] => (bls ds).map fun bs => .bl (bs.all id)
  | _ => none
def dAny : List D → Option D
  | [.lst ds] => (bls ds).map fun bs => .bl (bs.any id)
  | _ => none
theorem op_dAll : OpN K (rAll K) dAll := by
  intro Hf F ρ Cs H xs as d Q S0 ha he k
  unfold dAll at he
  split at he
  · cases ha with
    | cons h hs =>
      cases hs
      obtain ⟨a, xs, rfl, hx, hd⟩ := h.lst S0.ex
      obtain ⟨bs, h1, h2⟩ := Option.map_eq_some_iff.mp he
      subst h2
      have := bls_ok hd h1
      subst this
      exact ⟨a, bs, rfl, hx, k.here S0 (.bl _)⟩
  · cases he
theorem op_dAny : OpN K (rAny K) dAny := by
  intro Hf F ρ Cs H xs as d Q S0 ha he k
  unfold dAny at he
  split at he
  · cases ha with
    | cons h hs =>
      cases hs
      obtain ⟨a, xs, rfl, hx, hd⟩ := h.lst S0.ex
      obtain ⟨bs, h1, h2⟩ := Option.map_eq_some_iff.mp he
      subst h2
      have := bls_ok hd h1
      subst this
      exact ⟨a, bs, rfl, hx, k.here S0 (.bl _)⟩
  · cases he
end Sm
end
section
set_option maxRecDepth 100000
set_option maxHeartbeats 0
namespace Sm
variable [Tabs0]
open PySem L2
variable {K : PySem.W.Frag} {mg : Str → Option Value}

/-! ### isinstance of built-in classes -/
def tyN : D → Option String
  | .non => some "NoneType"
  | .bl _ => some "bool"
  | .int _ => some "int"
  | .str _ => some "str"
  | .tup _ => some "tuple"
  | .lst _ => some "list"
  | .dk _ _ => some "dict"
  | .dt _ _ => some "dict"
  | _ => none
def dIsi : List D → Option D
  | [x, .opq (.ty T)] => (tyN x).bind fun n => (kitB n T).map D.bl
  | _ => none
theorem ty_seq {H : Hp} {a : Addr} {xs : List V} (h : SqL K H a xs) : TyX K H (.ref a) (.type "list") := by
  rcases h with (h | ⟨o, h⟩) | ⟨o, its, n, h, hc, _⟩
  · exact .base (.lst h)
  · exact .base (.frz h)
  · exact .kList h hc
theorem ty_tup {H : Hp} {a : Addr} {xs : List V} (h : SqT K H a xs) : TyX K H (.ref a) (.type "tuple") := by
  rcases h with (h | ⟨o, h⟩) | ⟨o, its, n, h, hc, _⟩
  · exact .base (.tup h)
  · exact .fTuple h
  · exact .kTuple h hc
/-- .. a dict of tuples that changes no more, too -/
def TyY (K : PySem.W.Frag) (H : Hp) (x : V) (t : Value) : Prop := TyX K H x t ∨ ∃ a o u, x = .ref a ∧ H a = some (.frz o u) ∧ ((∃ kvs, u = .dT kvs) ∨ ∃ kvs, u = .dK kvs) ∧ t = .type "dict"
theorem ty_dt {H : Hp} {a : Addr} {kvs : List (List Key × V)} (h : Rd H a (.dT kvs)) : TyY K H (.ref a) (.type "dict") := by
  rcases h with h | ⟨o, h⟩
  · exact .inl (.base (.dT h))
  · exact .inr ⟨a, o, _, rfl, h, .inl ⟨kvs, rfl⟩, rfl⟩
theorem ty_of {H Hf : Hp} {ρ : List Addr} {v : V} {d : D} {n : String} (e : Same Hf H) (h : Vw K H Hf ρ v d) (hn : tyN d = some n) : TyY K H v (.type n) := by
  cases h with
  | dat h =>
    cases h with
    | non => cases hn; exact .inl (.base .non)
    | bl b => cases hn; exact .inl (.base (.bl b))
    | int b => cases hn; exact .inl (.base (.int b))
    | str b => cases hn; exact .inl (.base (.str b))
    | tup h hs => cases hn; exact .inl (.base (.tup (e _ _ h)))
    | lst h hs => cases hn; exact .inl (ty_seq (same_l e h))
    | cel h => cases hn
    | opq v => cases hn
    | fn h => cases hn
    | dk h hl hs =>
      cases hn
      obtain ⟨o, h⟩ := h
      exact .inr ⟨_, o, _, rfl, e _ _ h, .inr ⟨_, rfl⟩, rfl⟩
    | dt h hl hs =>
      cases hn
      obtain ⟨o, h⟩ := h
      exact .inr ⟨_, o, _, rfl, e _ _ h, .inl ⟨_, rfl⟩, rfl⟩
  | now h hs => cases hn; exact .inl (ty_seq h)
  | nowT h hl hs => cases hn; exact ty_dt h
def rIsiY (K : PySem.W.Frag) : List V → Hp → VK → Prop := fun xs H Q => ∃ (x c : V) (t u : Value) (b : Bool), xs = [x, c] ∧ ClsV c u ∧ TyY K H x t ∧ PySem.W.kitOne K t u = some b ∧ Q (.bl b) H
theorem call_isiY {X : Cx} : CallR X (.builtin "isinstance") (rIsiY X.K) := by
  intro pins s σ H xs us Q I r h
  obtain ⟨x, c, t, u, b, rfl, k, ty, e, q⟩ := h
  rcases ty with ty | ⟨a, o, hu, rfl, ea, hk, rfl⟩
  · exact call_isi pins s σ H [x, c] us Q I r ⟨x, c, t, u, b, rfl, k, ty, e, q⟩
  · obtain ⟨u1, u2, rfl, r1, r2⟩ := vals2 r
    have e2 := k.eq r2
    subst e2
    cases (show u1 = Value.ref a from r1)
    rcases hk with ⟨kvs, rfl⟩ | ⟨kvs, rfl⟩
    · obtain ⟨_, _, _, xs, _, o', es, ep, h1, h2, _⟩ := (show ObjOk X.prog X.w H s.heap a (.frz o (.dT kvs)) from I.hok a _ ea)
      exact PySem.W.kia_one PySem.W.kitx_dict I.kIn ⟨o', h1, h2.1⟩ e (fun z => nomatch z) fun tk => ⟨.bl b, H, I.tok tk, rfl, q⟩
    · obtain ⟨_, h1, h2, _⟩ := I.frzK ea
      exact PySem.W.kia_one PySem.W.kitx_dict I.kIn ⟨o, h1, h2.1⟩ e (fun z => nomatch z) fun tk => ⟨.bl b, H, I.tok tk, rfl, q⟩
theorem op_dIsi : OpN K (rIsiY K) dIsi := by
  intro Hf F ρ Cs H xs as d Q S0 ha he k
  unfold dIsi at he
  split at he
  · rename_i x T
    cases ha with
    | cons h hs =>
      cases hs with
      | cons h2 hs =>
        cases hs
        obtain ⟨n, hn, he⟩ := Option.bind_eq_some_iff.mp he
        obtain ⟨b, hb, he⟩ := Option.map_eq_some_iff.mp he
        subst he
        have e2 : ∀ {v : V}, Vw K H Hf ρ v (.opq (.ty T)) → v = V.ty T := fun q => by
          cases q with
          | dat q => cases q; rfl
        have e3 := e2 h2
        subst e3
        exact ⟨_, _, _, _, b, rfl, .ty T, ty_of S0.ex h hn, kit_ty hb, k.here S0 (.bl _)⟩
  · cases he

/-! ### methods that change a list -/
def live (r : D) (C : Cells) : Option (Nat × List D) := match r with
  | .cel n => match C[n]? with
    | some (some (.l ds)) => some (n, ds)
    | _ => none
  | _ => none
/-- o.m(as): f tells the answer and the cell's new items -/
def xM (f : List D → List D → Option (D × List D)) (sr : S D) (sa : S (List D)) : S D := S.bind sr fun r => fun e C => if (live r C).isSome = true then S.bind sa (fun as _ C2 => match live r C2 with
    | some (n, ds) => match f ds as with
      | some (d, es) => if nocels es = true then some (.ok d (C2.set n (some (.l es)))) else none
      | none => none
    | none => none) e C else none
def OpM (K : PySem.W.Frag) (r : V → List V → Hp → VK → Prop) (f : List D → List D → Option (D × List D)) : Prop := ∀ (Hf : Hp) (ρ : List Addr) (H : Hp) (a : Addr) (xs vs : List V) (ds as es : List D) (d : D) (Q : VK), H a = some (.lst xs) → Dats K Hf ρ xs ds → Dats K Hf ρ vs as → f ds as = some (d, es) →
  (∀ v ys, Dat K Hf ρ v d → Dats K Hf ρ ys es → Q v (upd H a (.lst ys))) → r (.ref a) vs H Q
section
variable {X : Cx} {W : Wh}
theorem goM {r : V → List V → Hp → VK → Prop} {f : List D → List D → Option (D × List D)} {sr : S D} {sa : S (List D)} (hf : OpM X.K r f) {σ : L2.St} {H : Hp} {Q : VK} (h : tE X.K X.mg W (xM f sr sa) σ H Q) : tBM X.K "list" r (tE X.K X.mg W sr) (tA X.K X.mg W sa) σ H Q := by
  obtain ⟨Hf, F, ρ, env, C, S0, E0, g⟩ := h
  refine ⟨Hf, F, ρ, env, C, S0, E0, (Go.bind g).mono fun x H1 ⟨Hf1, ρ1, C1, a, e1, p1, S1, A1, g1⟩ => ?_⟩
  try simp only [] at g1
  split at g1
  · rename_i hlv
    have cell : ∀ {C : Cells} {n : Nat} {ds : List D}, live a C = some (n, ds) → a = .cel n ∧ C[n]? = some (some (.l ds)) := fun {C n ds} q => by
      unfold live at q
      split at q
      · rename_i m
        split at q
        · rename_i ds' hc
          have q' := Option.some.inj q
          simp only [Prod.mk.injEq] at q'
          obtain ⟨rfl, rfl⟩ := q'
          exact ⟨rfl, hc⟩
        · cases q
      · cases q
    obtain ⟨⟨n, ds⟩, hl⟩ := Option.isSome_iff_exists.mp hlv
    obtain ⟨rfl, hc⟩ := cell hl
    cases A1 with
    | @cel _ ad hn =>
      obtain ⟨_, k2⟩ := S1.cel n ad _ hn hc
      obtain ⟨vs, hv, hd⟩ := k2.lst
      refine ⟨.inl ⟨rfl, vs, .inl (.inl hv)⟩, ?_⟩
      refine ⟨Hf1, F, ρ1, env, C1, S1, E0.mono e1 p1, (Go.bind g1).mono fun ws H2 ⟨Hf2, ρ2, C2, as, e2, p2, S2, A2, g2⟩ => ?_⟩
      try simp only [] at g2
      cases hl2 : live (.cel n) C2 with
      | none =>
        rw [hl2] at g2
        exact g2.elim
      | some q =>
        obtain ⟨m, ds2⟩ := q
        obtain ⟨hm, hc2⟩ := cell hl2
        cases hm
        rw [hl2] at g2
        simp only [] at g2
        cases hff : f ds2 as with
        | none =>
          rw [hff] at g2
          exact g2.elim
        | some q =>
          obtain ⟨d, es⟩ := q
          rw [hff] at g2
          simp only [] at g2
          split at g2
          · rename_i nc
            have hn2 := pre_get p2 hn
            obtain ⟨_, k3⟩ := S2.cel n ad _ hn2 hc2
            obtain ⟨vs2, hv2, hd2⟩ := k3.lst
            exact hf Hf2 ρ2 H2 ad vs2 ws ds2 as es d Q hv2 (hd2.mono (Same.refl _) List.nil_prefix) A2 hff fun v ys h1 h2 => g2 v _ Hf2 ρ2 (Same.refl _) (List.prefix_refl _) (S2.setCel hn2 hc2 (h2.bare nc)) h1
          · exact g2.elim
  · exact g1.elim
theorem se_m {o : Expr} {m : Str} {p pos : Pos} {es : List Expr} {r : V → List V → Hp → VK → Prop} {f : List D → List D → Option (D × List D)} {sr : S D} {sa : S (List D)} (hf : OpM X.K r f) (h : PE X (.Call (.Attribute o m p) es [] pos) (tBM X.K "list" r (tE X.K X.mg W sr) (tA X.K X.mg W sa))) :
    SE X W (.Call (.Attribute o m p) es [] pos) (xM f sr sa) := pe_imp h fun _ _ _ q => goM hf q
theorem se_m0 {o : Expr} {m : Str} {p pos : Pos} {r : V → List V → Hp → VK → Prop} {f : List D → List D → Option (D × List D)} {sr : S D} (hf : OpM X.K r f) (h : PE X (.Call (.Attribute o m p) [] [] pos) (tBM0 X.K "list" r (tE X.K X.mg W sr))) :
    SE X W (.Call (.Attribute o m p) [] [] pos) (xM f sr aNil) := pe_imp h fun σ H Q q => by
  obtain ⟨Hf, F, ρ, env, C, S0, E0, g⟩ := goM hf q
  exact ⟨Hf, F, ρ, env, C, S0, E0, g.mono fun v H1 ⟨h1, h2⟩ => ⟨h1, by
    obtain ⟨Hf1, F1, ρ1, env1, C1, S1, E1, g1⟩ := h2
    exact Go.val (env := env1) g1 S1 .nil⟩⟩
/-- xs[i] = e -/
def xSetI (so si sv : S D) : SS := xDo sv fun v => xDo so fun o => xDo si fun i => fun e C => match o, i with
  | .cel n, .int k => match C[n]? with
    | some (some (.l ds)) => match ixN ds.length k with
      | some j => if nocel v = true then some (.nx e (C.set n (some (.l (ds.set j v))))) else none
      | none => none
    | _ => none
  | _, _ => none
theorem sc_seti {o i e : Expr} {pp pos : Pos} {so si sv : S D} (h : PS X (.Assign [.Subscript o i pp] e pos) (tAsg (tE X.K X.mg W sv) (gSub (tE X.K X.mg W so) (tE X.K X.mg W si) rSetL))) : SC X W (.Assign [.Subscript o i pp] e pos) (xSetI so si sv) :=
  ps_imp h fun D σ H ⟨Hf, F, ρ, env, C, S0, E0, g⟩ => ⟨Hf, F, ρ, env, C, S0, E0, (GoS.doit E0 g).mono fun v H1 ⟨Hf1, ρ1, C1, dv, e1, p1, S1, A1, g1⟩ =>
    ⟨Hf1, F, ρ1, env, C1, S1, E0.mono e1 p1, (GoS.doit (E0.mono e1 p1) g1).mono fun x H2 ⟨Hf2, ρ2, C2, dx, e2, p2, S2, A2, g2⟩ =>
      ⟨Hf2, F, ρ2, env, C2, S2, (E0.mono e1 p1).mono e2 p2, (GoS.doit ((E0.mono e1 p1).mono e2 p2) g2).mono fun y H3 ⟨Hf3, ρ3, C3, dy, e3, p3, S3, A3, g3⟩ => by
        match dx, dy, A2, A3, g3 with
        | .cel n, .int k, .cel (a := ad) hn, .int _, g3 =>
          cases hc : C3[n]? with
          | none =>
            simp only [hc] at g3
            exact g3.elim
          | some oo =>
            cases oo with
            | none =>
              simp only [hc] at g3
              exact g3.elim
            | some o =>
              cases o with
              | l ds =>
                simp only [hc] at g3
                cases hj : ixN ds.length k with
                | none =>
                  simp only [hj] at g3
                  exact g3.elim
                | some j =>
                  simp only [hj] at g3
                  split at g3
                  · rename_i nc
                    have hn3 := pre_get p3 hn
                    obtain ⟨_, k2⟩ := S3.cel n ad _ hn3 hc
                    obtain ⟨vs, hv, hd⟩ := k2.lst
                    have hvv := (A1.mono (e2.trans e3) (p2.trans p3)).bare nc
                    exact ⟨ad, vs, k, j, rfl, rfl, hv, by rw [hd.len]; exact hj, g3 σ _ Hf3 ρ3 (Same.refl _) (List.prefix_refl _) (S3.setCel hn3 hc (hd.set hvv j)) (((E0.mono e1 p1).mono e2 p2).mono e3 p3)⟩
                  · exact g3.elim
              | t ks ds =>
                simp only [hc] at g3
                exact g3.elim⟩⟩⟩
/-! ### a list that changes no more -/
def xFrz (s : S D) : S D := S.bind s fun d _ C => match live d C with
  | some (n, ds) => some (.ok (.lst ds) (C.set n none))
  | none => none
theorem se_frz {e : Expr} {s : S D} (h : SE X W e s) : SE X W e (xFrz s) := pe_imp h fun σ H Q ⟨Hf, F, ρ, env, C, S0, E0, g⟩ => ⟨Hf, F, ρ, env, C, S0, E0, (Go.bind g).mono fun x H1 ⟨Hf1, ρ1, C1, a, e1, p1, S1, A1, g1⟩ => by
  try simp only [] at g1
  cases hl : live a C1 with
  | none =>
    rw [hl] at g1
    exact g1.elim
  | some q =>
    obtain ⟨n, ds⟩ := q
    rw [hl] at g1
    unfold live at hl
    split at hl
    · split at hl
      · rename_i m ds' hc
        have q' := Option.some.inj hl
        simp only [Prod.mk.injEq] at q'
        obtain ⟨rfl, rfl⟩ := q'
        cases A1 with
        | @cel _ ad hn =>
          obtain ⟨Hf2, e2, S2, D2⟩ := S1.freeze hn hc
          exact g1 _ H1 Hf2 ρ1 e2 (List.prefix_refl _) S2 D2
      · cases hl
    · cases hl⟩
/-! ### comprehensions as lists -/
theorem sl_lc {e : Expr} {it : SW} {t : Tg} {c : S Bool} {x : S D} {vs : List Nat} (hv : ∀ j ∈ t.at_, j ∈ vs) (hput : ∀ d e e', t.put d e = some e' → e'.length = e.length)
    (h : PE X e (tLc (tI X.K X.mg W it) (gG X.K X.mg none t) (tT X.K X.mg W0 c) (tE X.K X.mg W0 x) vs)) : SL X W e (xLc it t c x vs) := pe_imp h fun _ _ _ q => goLc hv hput q
theorem goF {s : S (List D)} {σ : L2.St} {H : Hp} {Q : VK} (h : tE X.K X.mg W (xF s) σ H Q) : tL X.K X.mg W s σ H Q := by
  obtain ⟨Hf, F, ρ, env, C, S0, E0, g⟩ := h
  refine ⟨Hf, F, ρ, env, C, S0, E0, goL_of (α := Unit) g fun ds C' v H' Hf' ρ' e' p' f' g' => ?_⟩
  cases f' with
  | @mk p vs _ h hs S1 S2 nf =>
    have e1 : Same Hf' (upd Hf' p (.lst vs)) := fun b u q => by
      rw [upd_ne (ne_of_none q nf)]
      exact q
    exact g' _ H' _ ρ' e1 (List.prefix_refl _) S1 (.lst (.inl (.inl upd_same)) (hs.mono e1 (List.prefix_refl _)))
theorem goC {s : S (List D)} {σ : L2.St} {H : Hp} {Q : VK} (h : tE X.K X.mg W (xC s) σ H Q) : tL X.K X.mg W s σ H Q := by
  obtain ⟨Hf, F, ρ, env, C, S0, E0, g⟩ := h
  refine ⟨Hf, F, ρ, env, C, S0, E0, goL_of (α := Unit) g fun ds C' v H' Hf' ρ' e' p' f' g' => ?_⟩
  cases f' with
  | @mk p vs _ h hs S1 S2 nf =>
    have hl : ρ'.length = C'.length := S1.len
    have hn : nocels ds = true := by
      cases q : nocels ds with
      | true => rfl
      | false =>
        simp only [q] at g'
        exact g'.elim
    simp only [hn, if_true] at g'
    exact g' _ H' Hf' _ (Same.refl _) (List.prefix_append _ _) (S2 hn) (.cel (by rw [← hl, List.getElem?_append_right (Nat.le_refl _), Nat.sub_self]; rfl))
/-- y = [..] -/
theorem goSet {s : S D} {i : Nat} {te : TE} (k : ∀ σ H Q, tE X.K X.mg W s σ H Q → te σ H Q) {D : Ends} {σ : L2.St} {H : Hp} (h : tS X.K X.mg W (xAsg s (gN i)) D σ H) : tAsg te (gName i) D σ H := by
  have q := goAsg (X := X) (W := W) (s := s) (t := gN i) (g := gName i) (fun v σ H Q ⟨Hf, F, ρ, env, C, d, S0, E0, D0, env', he, k⟩ => by
    have e := Option.some.inj he
    subst e
    exact k _ (E0.set D0 i) fun j hj => List.getElem?_set_ne (fun e => hj (by rw [e]; exact List.mem_singleton.mpr rfl))) h
  exact k σ H _ q
theorem sc_setL {i : Nat} {x : Str} {e : Expr} {pos pos' : Pos} {s : S D} {te : TE} (k : ∀ σ H Q, tE X.K X.mg W s σ H Q → te σ H Q) (h : PS X (.Assign [.Name x pos'] e pos) (tAsg te (gName i))) : SC X W (.Assign [.Name x pos'] e pos) (xAsg s (gN i)) :=
  ps_imp h fun D σ H q => goSet k q
end
def mAppend : List D → List D → Option (D × List D) := fun ds as => match as with
  | [d] => if ds.length < 1000000 then some (.non, ds ++ [d]) else none
  | _ => none
theorem op_mAppend : OpM K rAppend mAppend := by
  intro Hf ρ H a xs vs ds as es d Q hH hd ha hf k
  unfold mAppend at hf
  split at hf
  · split at hf
    · rename_i hlt
      have e := Option.some.inj hf
      simp only [Prod.mk.injEq] at e
      obtain ⟨rfl, rfl⟩ := e
      cases ha with
      | cons h hs =>
        cases hs
        exact ⟨a, xs, _, rfl, rfl, hH, by rw [hd.len]; exact Nat.lt_of_lt_of_le hlt (by decide), k _ _ .non (hd.app (.cons h .nil))⟩
    · cases hf
  · cases hf
def mPop : List D → List D → Option (D × List D) := fun ds as => match as with
  | [.int i] => if -9223372036854775808 ≤ i ∧ i < 9223372036854775808 then match seqIndex? i ds.length with
    | some j => match ds[j]? with
      | some d => some (d, ds.eraseIdx j)
      | none => none
    | none => none
    else none
  | _ => none
theorem op_mPop : OpM K rPopAt mPop := by
  intro Hf ρ H a xs vs ds as es d Q hH hd ha hf k
  unfold mPop at hf
  split at hf
  · rename_i i
    split at hf
    · rename_i hi
      split at hf
      · rename_i j hj
        split at hf
        · rename_i d' hd'
          have e := Option.some.inj hf
          simp only [Prod.mk.injEq] at e
          obtain ⟨rfl, rfl⟩ := e
          cases ha with
          | cons h hs =>
            cases hs
            cases h
            obtain ⟨v, h1, h2⟩ := hd.get hd'
            exact ⟨a, xs, i, j, v, rfl, rfl, hH, hi.1, hi.2, by rw [hd.len]; exact hj, h1, k _ _ h2 (hd.erase j)⟩
        · cases hf
      · cases hf
    · cases hf
  · cases hf
def mPopL : List D → List D → Option (D × List D) := fun ds as => match as with
  | [] => match ds[ds.length - 1]? with
    | some d => some (d, ds.dropLast)
    | none => none
  | _ => none
theorem Dats.dropLast {H : Hp} {ρ : List Addr} {vs : List V} {ds : List D} (h : Dats K H ρ vs ds) : Dats K H ρ vs.dropLast ds.dropLast := by
  rw [List.dropLast_eq_take, List.dropLast_eq_take, h.len]
  exact h.take _
theorem op_mPopL : OpM K rPop mPopL := by
  intro Hf ρ H a xs vs ds as es d Q hH hd ha hf k
  unfold mPopL at hf
  split at hf
  · split at hf
    · rename_i d' hd'
      have e := Option.some.inj hf
      simp only [Prod.mk.injEq] at e
      obtain ⟨rfl, rfl⟩ := e
      cases ha
      rw [← hd.len] at hd'
      obtain ⟨v, h1, h2⟩ := hd.get hd'
      exact ⟨a, xs, v, rfl, rfl, hH, h1, k _ _ h2 hd.dropLast⟩
    · cases hf
  · cases hf
end Sm
end
section
set_option maxRecDepth 100000
set_option maxHeartbeats 0
namespace SmX
open PySem
open Sem (wp)
open AutoSeq1 (wpAny_loadPart')
/-! ### enumerate(a tuple) -/
theorem enum_newT (l : Addr) (its : Array Value) (n : Nat) (dct : Option Addr) (sl : Array (Option Value)) :
    Meets (Builtin.«enumerate.__new__» ⟨[.type "enumerate", .ref l], []⟩) (fun _ R s => s.heap.get? l = some { cls := .type "tuple", dict := dct, data := .seq its n, slots := sl } ∧
      R (.ok (.ret (.ref (s.heap.push { cls := .type "tuple_iterator", data := .fields #[.ref l, .int 0 0] }).objs.size)))
        { s with heap := (s.heap.push { cls := .type "tuple_iterator", data := .fields #[.ref l, .int 0 0] }).push { cls := .type "enumerate", data := .fields #[.none, .bool false, .ref s.heap.objs.size, rawInt 0, .none, .none] } }) :=
  .of_wp fun prog w A R s h => by
    obtain ⟨hp, g, d, tk, os⟩ := s
    obtain ⟨hl, h⟩ := h
    have hsub := sub_enumerate
    have hT : Heap.IsTuple (Shared.heap ⟨hp, g, d, tk, os⟩) l its := ⟨_, hl, rfl, n, rfl⟩
    wp_walk using wpAny_loadPart' hl
    refine wpAny_stack_any fun st => wpAny_pure ?_
    split
    · rename_i c _ _ _ _ _
      cases (c == Value.type "enumerate") <;>
        (wp_walk using wpAny_loadPart' hl, wpAny_pyIter_tuple hT
         exact ⟨_, rfl, h⟩)
    · wp_walk using wpAny_loadPart' hl, wpAny_pyIter_tuple hT
      exact ⟨_, rfl, h⟩
section
variable {prog : Program} {w : World} {A : Around} {E : Value → Shared → Prop} {s : Shared}
theorem enum_callT {l : Addr} {its : Array Value} {Q : Value → Shared → Prop} (hT : s.heap.IsTuple l its)
    (h : ∀ h', IsEnum h' (s.heap.objs.size + 1) s.heap.objs.size 0 .none → h'.IsTupleIter s.heap.objs.size l 0 → (∀ b o, s.heap.get? b = some o → h'.get? b = some o) → Q (.ref (s.heap.objs.size + 1)) { s with heap := h' }) :
    wpAny (model prog w) A (call (.type "enumerate") [.ref l]) Q E s := by
  obtain ⟨⟨c, dct, dt, sl⟩, hl, hc, n, hd⟩ := hT
  have hc' : c = .type "tuple" := hc
  have hd' : dt = .seq its n := hd
  subst hc' hd'
  refine callType_new F.called_enumerate (by decide) (F.typeCall_enumerate_1 _) (F.newCall_enumerate_1 _) (fun obj => F.args_object_init_2 obj _) F.entry_enumerate_new (enum_newT l its n dct sl) ⟨hl, ?_⟩
  have hz : (s.heap.push { cls := .type "tuple_iterator", data := .fields #[.ref l, .int 0 0] }).objs.size = s.heap.objs.size + 1 := Heap.size_push ..
  show _ ∧ _
  rw [hz]
  have he : IsEnum ((s.heap.push { cls := .type "tuple_iterator", data := .fields #[.ref l, .int 0 0] }).push
      { cls := .type "enumerate", data := .fields #[.none, .bool false, .ref s.heap.objs.size, rawInt 0, .none, .none] }) (s.heap.objs.size + 1) s.heap.objs.size 0 .none := by
    have q := Heap.get?_push_size (s.heap.push { cls := .type "tuple_iterator", data := .fields #[.ref l, .int 0 0] }) (o := { cls := .type "enumerate", data := .fields #[.none, .bool false, .ref s.heap.objs.size, rawInt 0, .none, .none] }) rfl
    rw [hz] at q
    exact q
  exact ⟨⟨_, he, rfl⟩, h _ he ⟨_, Heap.get?_push_of_some _ (Heap.get?_push_size _ rfl), rfl, rfl⟩ fun b o x => Heap.get?_push_of_some _ (Heap.get?_push_of_some _ x)⟩
theorem enum_endT {e it l : Addr} {i : Nat} {its : Array Value} {old : Value} {Q : Option Value → Shared → Prop} (hh : A.handled = none) (he : IsEnum s.heap e it i old) (hit : s.heap.IsTupleIter it l i) (hl : s.heap.IsTuple l its) (hx : its[i]? = none)
    (hQ : ∀ h', Heap.ExtBut it s.heap h' → Q none { s with heap := h' }) : wpAny (model prog w) A (pyNext (.ref e)) Q E s := by
  have hT : s.TypeIs (.ref e) "enumerate" := ⟨_, he, rfl⟩
  unfold pyNext
  refine wpAny_bind (wpAny_attempt (wpAny_callSpecial?_slot (name := Str.ofString "__next__") hT F.slot_enumerate_next (wpAny_call_entry F.slot_enumerate_next hT F.entry_enumerate_next ?_ (F.args_enumerate_next_1 _))))
  show wpAny _ _ (field (.ref e) 2 >>= _) _ _ s
  refine wpAny_bind (wpAny_field he rfl (x := .ref it) rfl (wpAny_bind (wpAny_nextOf_tuple_end hh hit hl hx fun h' x he' hx' => ?_)))
  obtain ⟨o, ho, hc⟩ := hx'
  exact wpAny_bind (wpAny_isInstance (T := "StopIteration") (b := true) ⟨o, ho, hc⟩ isSubtype_stop (wpAny_pure (hQ _ he')))
end
end SmX
namespace Sm
variable [Tabs0]
open PySem L2
open PySem.Spec PyProof.Rows
variable {K : PySem.W.Frag} {mg : Str → Option Value}
/-- the tuple at a, each item in a new pair -/
def IteT (K : PySem.W.Frag) (a : Addr) : It :=
  ⟨fun i H => ∃ (xs : List V) (x : V), SqT K H a xs ∧ xs[i]? = some x,
   fun i H v H' => ∃ T x, v = .ref T ∧ H T = none ∧ H' = upd H T (.tup [.int (i : Nat), x]) ∧ ∀ xs, SqT K H a xs → xs[i]? = some x,
   fun i H => ∃ xs : List V, SqT K H a xs ∧ xs.length ≤ i⟩
theorem turn_enumT {P : Program} {w : World} {elts : List Expr} {kk : Nat} {tpos : Pos} (a e it : Addr) :
    Turn P w K (.Tuple elts kk tpos) (IteT K a) [e, it] e (fun i h => (∃ old, IsEnum h e it ((i : Nat) : Int) old) ∧ h.IsTupleIter it a i ∧ e ≠ it) where
  mem := List.mem_cons_self
  obj := fun i h st b hb => by
    obtain ⟨⟨old, he⟩, ⟨o, ho, hc, hd⟩, _⟩ := st
    rcases (show b = e ∨ b = it by simpa using hb) with rfl | rfl
    · exact ⟨_, he, fun v q => nomatch q⟩
    · refine ⟨o, ho, fun v q => ?_⟩
      rw [hd] at q
      cases q
  keep := fun i h h' st k => by
    obtain ⟨⟨old, he⟩, hi, hne⟩ := st
    exact ⟨⟨old, k e (by simp) _ he⟩, hi.at fun o q => k it (by simp) o q, hne⟩
  item := by
    intro X hP hw hK hc i pins s σ H E I hf st hg
    subst hP hw hK
    obtain ⟨⟨old, he⟩, hit, hne⟩ := st
    obtain ⟨xs, x, hq, hx⟩ := hg
    obtain ⟨its, rv, p, hz⟩ := I.tuple hq
    obtain ⟨u, hu, ru⟩ := rv.get hx
    have ul : i < its.toArray.size := by
      rw [List.size_toArray]
      exact (List.getElem?_eq_some_iff.mp hu).1
    have hel := Heap.lt_size he
    have hil : it < s.heap.objs.size := by
      obtain ⟨_, q, _⟩ := hit
      exact Heap.lt_size q
    have hT : s.heap.IsTuple a its.toArray := p
    have tie : a ≠ it := by
      rintro rfl
      obtain ⟨o1, q1, c1, _⟩ := hT
      obtain ⟨o2, q2, c2, _⟩ := hit
      rw [q1] at q2
      cases q2
      rw [c1] at c2
      exact absurd (Value.type.inj c2) (by decide)
    have aef : e ∉ [it, a] := by
      intro hm
      rcases (show e = it ∨ e = a by simpa using hm) with z | z
      · exact hne z
      · subst z
        obtain ⟨o1, q1, c1, _⟩ := hT
        rw [he] at q1
        cases q1
        exact absurd (Value.type.inj c1) (by decide)
    refine wpAny_pyNext_enum_itemD (Draws.tuple (A := X.A.in1) (I.ok.hd hc) it a tie its.toArray) he ⟨hit, hT⟩ ul hne aef fun x' h' tk hx' ho hst hnew hsz hk => ?_
    have ex : x' = u := by
      have q : its.toArray[i]? = some x' := hx'
      rw [← Array.getElem?_toList] at q
      exact Option.some.inj (q.symm.trans hu)
    subst ex
    refine ⟨_, rfl, wpAny_letOwnedTupleGo_enum (s := { s with heap := h', toks := tk + 1 }) ho fun h'' he' sb => ?_⟩
    have hT2 : h''.get? s.heap.objs.size = some { cls := .type "tuple", data := .seq #[.int i tk, x'] } := (sb.2 _ (Nat.ne_of_gt hel)).trans hnew
    have new : ObjOk X.prog X.w (upd H s.heap.objs.size (.tup [.int (i : Nat), x])) h'' s.heap.objs.size (.tup [.int (i : Nat), x]) :=
      ⟨by show 2 ≤ sizeLine; decide, [.int i tk, x'], .cons ⟨_, rfl⟩ (.cons ru .nil), ⟨_, hT2, rfl, _, rfl⟩⟩
    have I1 : Inv X pins σ (upd H s.heap.objs.size (.tup [.int (i : Nat), x])) { s with heap := h'', toks := tk + 1 } := by
      refine I.turnedNew (ch := [e, it]) (fun b ob hb q => ?_) hf (Nat.le_refl _) new
      have be : b ≠ e := fun z => hb (by simp [z])
      exact (sb.2 b be).trans (hk b ob be (fun z => hb (by simp [z])) q)
    refine ⟨.ref s.heap.objs.size, _, I1, rfl, ⟨_, x, rfl, I.hok.fresh (Nat.le_refl _), rfl, fun ys hy => ?_⟩, ⟨⟨x', ?_⟩, hst.1.at fun o q => (sb.2 it (Ne.symm hne)).trans q, hne⟩, fun b hb => ?_⟩
    · rw [I.tuple_inj hy hq]
      exact hx
    · rw [show ((i + 1 : Nat) : Int) = (i : Int) + 1 by omega]
      exact he'
    · have hb' : b ≠ s.heap.objs.size := by
        rcases (show b = e ∨ b = it by simpa using hb) with z | z
        · rw [z]
          exact Nat.ne_of_lt hel
        · rw [z]
          exact Nat.ne_of_lt hil
      rw [upd_ne hb']
      exact (hf b hb).1
  done := by
    intro X hP hw hK hc i pins s σ H E I hf st hg
    subst hP hw hK
    obtain ⟨⟨old, he⟩, hit, hne⟩ := st
    obtain ⟨xs, hq, hx⟩ := hg
    obtain ⟨its, rv, p, hz⟩ := I.tuple hq
    obtain ⟨f0, f1, f2, f3, f4, f5⟩ := hf it (by simp)
    have hl := rv.length
    have hT : s.heap.IsTuple a its.toArray := p
    have hx' : its.toArray[i]? = none := by
      rw [← Array.getElem?_toList]
      exact List.getElem?_eq_none (by simp; omega)
    exact SmX.enum_endT (I.ok.hd hc) he hit hT hx' fun h' eb => ⟨rfl, I.turned (t' := s.toks) (fun b o hb q => eb b o hb q) f0 f1 f3 f4 f5⟩
  self := fun A i s Q E st h => by
    obtain ⟨⟨_, he⟩, _⟩ := st
    exact wpAny_pyIter_enum he h
/-- enumerate of a list or a tuple -/
def iEnumA (K : PySem.W.Frag) (ta : TA) : TI := fun σ H R => ta σ H fun vs H1 => ∃ a, vs = [.ref a] ∧ ((∃ xs, SqL K H1 a xs ∧ R (Ite K a) H1) ∨ ∃ xs, SqT K H1 a xs ∧ R (IteT K a) H1)
theorem pi_enumA {X : Cx} {e : Expr} {ta : TA} {p pos tpos : Pos} {elts : List Expr} {kk : Nat} (hg : Gl X "enumerate") (hm : X.mg "enumerate" = none) (ha : PA X [e] ta) (hs : starEach [e] X.env = [(false, eval e X.env)]) :
    PI X (.Tuple elts kk tpos) (.Call (.Name "enumerate" p) [e] [] pos) (iEnumA X.K ta) := by
  refine ⟨fun pins s σ H R I h => Call_ (ld_blt I hg hm boot_enumerate (PyProof.Rows.callWith_type1 (thn (ha.run pos pins s σ H _ I h) fun us s1 hh => ?_) hs rfl))⟩
  obtain ⟨vs, H1, I1, r1, a, ex, q⟩ := hh
  subst ex
  obtain ⟨u, rfl, ru⟩ := r1.one
  obtain rfl : u = Value.ref a := ru
  have two : ∀ b ∈ [s1.heap.objs.size + 1, s1.heap.objs.size], FpOk X pins H1 b := fun b hb => by
    have hle : s1.heap.objs.size ≤ b := by
      rcases (show b = s1.heap.objs.size + 1 ∨ b = s1.heap.objs.size by simpa using hb) with z | z <;> omega
    exact I1.fpOk hle (I1.hok.fresh hle)
  rcases q with ⟨xs, hq, q⟩ | ⟨xs, hq, q⟩
  · obtain ⟨its, rv, p', hz⟩ := I1.list hq
    refine call_enumerate_list p'.isList fun h' he hit hsz hk => wpAny_pyIter_enum he ?_
    exact ⟨s1.heap.objs.size + 1, [s1.heap.objs.size + 1, s1.heap.objs.size], _, Ite X.K a, H1, rfl, I1.kept (t' := s1.toks) hk, turn_enum a (s1.heap.objs.size + 1) s1.heap.objs.size, ⟨⟨.none, he⟩, hit, Nat.succ_ne_self _⟩, two, q⟩
  · obtain ⟨its, rv, p', hz⟩ := I1.tuple hq
    refine SmX.enum_callT (show s1.heap.IsTuple a its.toArray from p') fun h' he hit hk => wpAny_pyIter_enum he ?_
    exact ⟨s1.heap.objs.size + 1, [s1.heap.objs.size + 1, s1.heap.objs.size], _, IteT X.K a, H1, rfl, I1.kept (t' := s1.toks) hk, turn_enumT a (s1.heap.objs.size + 1) s1.heap.objs.size, ⟨⟨.none, he⟩, hit, Nat.succ_ne_self _⟩, two, q⟩
/-- the items with their places -/
def enums (ds : List D) : List D := (ds.zipIdx 0).map fun p => .tup [.int (p.2 : Nat), p.1]
theorem enums_get {ds : List D} {i : Nat} {d : D} (h : ds[i]? = some d) : (enums ds)[i]? = some (.tup [.int (i : Nat), d]) := by
  unfold enums
  rw [List.getElem?_map, List.getElem?_zipIdx, h]
  simp
theorem enums_len (ds : List D) : (enums ds).length = ds.length := by
  unfold enums
  simp
section
variable {X : Cx} {W : Wh}
/-- a new pair is data at once -/
theorem SR.pair {Hf F : Hp} {ρ : List Addr} {C : Cells} {H : Hp} {xs : List V} {ds : List D} (S0 : SR K Hf F ρ C H) {T : Addr} (hT : H T = none) (h : Dats K Hf ρ xs ds) : ∃ Hf2, Same Hf Hf2 ∧ SR K Hf2 F ρ C (upd H T (.tup xs)) ∧ Dat K Hf2 ρ (.ref T) (.tup ds) := by
  obtain ⟨S1, e1⟩ := S0.new (o := .tup xs) hT
  exact ⟨_, e1, S1, .tup upd_same (h.mono e1 (List.prefix_refl _))⟩
theorem wk_el {Hf : Hp} {ρ : List Addr} {a : Addr} {ds : List D} {g : Gd} (h : ∀ Hf' F' ρ' C' H', Same Hf Hf' → ρ <+: ρ' → SR K Hf' F' ρ' C' H' → g C' = true → ∃ xs, SqL K H' a xs ∧ Dats K Hf' ρ' xs ds) :
    Wk K Hf ρ (Ite K a) (enums ds, g) := fun i Hf' F' ρ' C' H' e p S0 hg => by
  obtain ⟨xs, hx, hd⟩ := h Hf' F' ρ' C' H' e p S0 hg
  have hl := hd.len
  have hE : ((enums ds, g) : List D × Gd).1.length = ds.length := enums_len ds
  refine ⟨fun hi => ?_, fun hi => ⟨xs, hx, by omega⟩⟩
  have hi' : i < xs.length := by omega
  refine ⟨⟨xs, xs[i], hx, List.getElem?_eq_getElem hi'⟩, fun x H2 hy => ?_⟩
  obtain ⟨T, y, rfl, hT, rfl, hyy⟩ := hy
  obtain ⟨d, h1, h2⟩ := hd.getV (hyy xs hx)
  obtain ⟨Hf2, e2, S2, D2⟩ := S0.pair hT (.cons (.int (i : Nat)) (.cons h2 .nil))
  exact ⟨_, Hf2, enums_get h1, e2, S2, D2⟩
theorem wk_et {Hf : Hp} {ρ : List Addr} {a : Addr} {xs : List V} {ds : List D} (hx : SqT K Hf a xs) (hd : Dats K Hf ρ xs ds) : Wk K Hf ρ (IteT K a) (enums ds, gd0) := fun i Hf' F' ρ' C' H' e p S0 hg => by
  have hl := hd.len
  have hx' : SqT K H' a xs := same_t S0.ex (same_t e hx)
  have hE : ((enums ds, gd0) : List D × Gd).1.length = ds.length := enums_len ds
  refine ⟨fun hi => ?_, fun hi => ⟨xs, hx', by omega⟩⟩
  have hi' : i < xs.length := by omega
  refine ⟨⟨xs, xs[i], hx', List.getElem?_eq_getElem hi'⟩, fun x H2 hy => ?_⟩
  obtain ⟨T, y, rfl, hT, rfl, hyy⟩ := hy
  obtain ⟨d, h1, h2⟩ := (hd.mono e p).getV (hyy xs hx')
  obtain ⟨Hf2, e2, S2, D2⟩ := S0.pair hT (.cons (.int (i : Nat)) (.cons h2 .nil))
  exact ⟨_, Hf2, enums_get h1, e2, S2, D2⟩
def items1 (ds : List D) (C : Cells) : Option (List D × Gd) := match ds with
  | [.dt _ _] => none
  | [.dk _ _] => none
  | [d] => (items d C).map fun p => (enums p.1, p.2)
  | _ => none
def iEn (s : S (List D)) : SW := S.bind s fun ds env C => S.opt (items1 ds C) env C
theorem si_enum {elts : List Expr} {kk : Nat} {tpos p pos : Pos} {e : Expr} {s : S (List D)} (h : PI X (.Tuple elts kk tpos) (.Call (.Name "enumerate" p) [e] [] pos) (iEnumA X.K (tA X.K X.mg W s))) :
    SI X W (.Tuple elts kk tpos) (.Call (.Name "enumerate" p) [e] [] pos) (iEn s) := pi_imp h fun σ H R ⟨Hf, F, ρ, env, C, S0, E0, g⟩ =>
  ⟨Hf, F, ρ, env, C, S0, E0, (Go.bind g).mono fun vs H1 ⟨Hf1, ρ1, C1, ds, e1, p1, S1, A1, g1⟩ => by
    obtain ⟨q, hq, g2⟩ := Go.opt g1
    match ds, A1, hq with
    | [d], .cons (v := v) hv .nil, hq =>
      have hnd : ∀ ks es, d ≠ .dt ks es := fun ks es e => by subst e; cases hq
      have hnk : ∀ ks es, d ≠ .dk ks es := fun ks es e => by subst e; cases hq
      have hq' : (items d C1).map (fun p => (enums p.1, p.2)) = some q := by
        cases d <;> first
          | exact hq
          | cases hq
      obtain ⟨p0, hp, rfl⟩ := Option.map_eq_some_iff.mp hq'
      have fin : ∀ J, Wk X.K Hf1 ρ1 J (enums p0.1, p0.2) → R J H1 := fun J w => g2 J H1 Hf1 ρ1 (Same.refl _) (List.prefix_refl _) S1 w
      cases hv with
      | @tup a xs ds h hs =>
        have e := Option.some.inj hp
        subst e
        exact ⟨a, rfl, .inr ⟨xs, .inl (.inl (S1.ex _ _ h)), fin _ (wk_et (.inl (.inl h)) hs)⟩⟩
      | @lst a xs ds h hs =>
        have e := Option.some.inj hp
        subst e
        exact ⟨a, rfl, .inl ⟨xs, same_l S1.ex h, fin _ (wk_el fun Hf' F' ρ' C' H' e q S2 _ => ⟨xs, same_l S2.ex (same_l e h), hs.mono e q⟩)⟩⟩
      | @cel n a h =>
        unfold items at hp
        simp only [] at hp
        split at hp
        · rename_i ds hc
          have e := Option.some.inj hp
          subst e
          obtain ⟨_, k2⟩ := S1.cel n a _ h hc
          obtain ⟨vs, hv, hd⟩ := k2.lst
          refine ⟨a, rfl, .inl ⟨vs, .inl (.inl hv), fin _ (wk_el fun Hf' F' ρ' C' H' e q S2 hg => ?_)⟩⟩
          have hg' : gdC n ds C' = true := hg
          unfold gdC at hg'
          split at hg'
          · rename_i es hc'
            have := deqs_eq _ _ hg'
            subst this
            obtain ⟨_, k3⟩ := S2.cel n a _ (pre_get q h) hc'
            obtain ⟨vs', hv', hd'⟩ := k3.lst
            exact ⟨vs', .inl (.inl hv'), hd'.mono (Same.refl _) List.nil_prefix⟩
          · cases hg'
        · cases hp
      | dt h hl hs => exact absurd rfl (hnd _ _)
      | dk h hl hs => exact absurd rfl (hnk _ _)
      | _ => cases hp
    | [], _, hq => cases hq
    | d1 :: d2 :: ds, _, hq => cases d1 <;> cases hq⟩
end
end Sm
end
section
set_option maxRecDepth 100000
set_option maxHeartbeats 0
namespace Sm
variable [Tabs0]
open PySem L2
variable {K : PySem.W.Frag} {mg : Str → Option Value}
/-! ### comprehensions with two clauses -/
def lcs2 (g : Gd) (t : Tg) (c : S Bool) (it1 : SW) (t1 : Tg) (c1 : S Bool) (x : S D) (vs1 : List Nat) : List D → S (List D)
  | [] => fun _ C => if g C = true then some (.ok [] C) else none
  | d :: r => fun e C => if g C = true then match t.put d e with
      | none => none
      | some e1 => match c e1 C with
        | some (.ok true C1) => match it1 e1 C1 with
          | some (.ok p C2) => match lcs p.2 t1 c1 x p.1 (wipeE e1 vs1) C2 with
            | some (.ok ys C3) => match lcs2 g t c it1 t1 c1 x vs1 r e C3 with
              | some (.ok zs C4) => some (.ok (ys ++ zs) C4)
              | _ => none
            | _ => none
          | _ => none
        | some (.ok false C1) => lcs2 g t c it1 t1 c1 x vs1 r e C1
        | _ => none
    else none
def xLc2 (it : SW) (t : Tg) (c : S Bool) (it1 : SW) (t1 : Tg) (c1 : S Bool) (x : S D) (vs vs1 : List Nat) : S (List D) := S.bind it fun p e C => match lcs2 p.2 t c it1 t1 c1 x vs1 p.1 (wipeE e vs) C with
  | some (.ok ys C3) => if ys.length ≤ 1000000 then some (.ok ys C3) else none
  | _ => none
section
variable {X : Cx} {W : Wh}
/-- what follows a loop that gives ys -/
def Rest (K : PySem.W.Frag) (F : Hp) (Hf : Hp) (ρ : List Addr) (n : Nat) (r : Option (R (List D))) (k : List D → Cells → Hp → List Addr → Prop) : Prop := match r with
  | some (.ok ys C3) => n + ys.length ≤ 1000000 ∧ ∀ Hf' ρ', Same Hf Hf' → ρ <+: ρ' → k ys C3 Hf' ρ'
  | _ => False
theorem goLc2 {it it1 : SW} {t t1 : Tg} {c c1 : S Bool} {x : S D} {vs vs1 : List Nat} (hv : ∀ j ∈ t.at_, j ∈ vs) (hv1 : ∀ j ∈ t1.at_, j ∈ vs1) {σ : L2.St} {H : Hp} {Q : VK} (hput : ∀ d e e', t.put d e = some e' → e'.length = e.length) (hput1 : ∀ d e e', t1.put d e = some e' → e'.length = e.length)
    (h : tL X.K X.mg W (xLc2 it t c it1 t1 c1 x vs vs1) σ H Q) :
    tLc2 (tI X.K X.mg W it) (gG X.K X.mg none t) (tT X.K X.mg W0 c) (tI X.K X.mg W0 it1) (gG X.K X.mg none t1) (tT X.K X.mg W0 c1) (tE X.K X.mg W0 x) vs vs1 σ H Q := by
  obtain ⟨Hf, F, ρ, env, C, S0, E0, g⟩ := h
  refine ⟨Hf, F, ρ, env, C, S0, E0, ?_⟩
  unfold xLc2 S.bind at g
  cases hit : it env C with
  | none =>
    rw [hit] at g
    exact g
  | some r =>
    rw [hit] at g
    cases r with
    | ex c' p C' => exact g
    | ok p C' =>
      obtain ⟨ds, gd⟩ := p
      refine fun J H1 Hf1 ρ1 e1 p1 S1 w1 Dl hD => ?_
      simp only [] at g
      have E1 := (E0.mono e1 p1).plain.wipe vs
      have hF : F Dl = none := S1.fr.free hD
      -- what is left to show behind the outer loop, from acc
      have fin : ∀ (acc : List V) (dacc : List D) (C3 : Cells) (H2 Hf2 : Hp) (ρ2 : List Addr) (zs : List D) (C4 : Cells), lcs2 gd t c it1 t1 c1 x vs1 ds (wipeE env vs) C' = some (.ok zs C4) → Same Hf1 Hf2 → ρ1 <+: ρ2 → C3 = C4 → dacc = zs → SR X.K Hf2 (upd F Dl (.lst acc)) ρ2 C3 H2 → Dats X.K Hf2 ρ2 acc dacc → Q (.ref Dl) H2 := by
        intro acc dacc C3 H2 Hf2 ρ2 zs C4 hz e2 p2 e3 e4 S2 D2
        subst e3
        subst e4
        have g1 : GoL X.K X.mg W σ Hf F ρ (match lcs2 gd t c it1 t1 c1 x vs1 ds (wipeE env vs) C' with
          | some (.ok ys C3) => if ys.length ≤ 1000000 then some (.ok ys C3) else none
          | _ => none) Q := g
        rw [hz] at g1
        simp only [] at g1
        split at g1
        · exact g1 _ H2 Hf2 ρ2 (e1.trans e2) (p1.trans p2) (S2.outF hF D2)
        · exact g1.elim
      have tot : ∃ zs C4, lcs2 gd t c it1 t1 c1 x vs1 ds (wipeE env vs) C' = some (.ok zs C4) ∧ zs.length ≤ 1000000 := by
        have g1 : GoL X.K X.mg W σ Hf F ρ (match lcs2 gd t c it1 t1 c1 x vs1 ds (wipeE env vs) C' with
          | some (.ok ys C3) => if ys.length ≤ 1000000 then some (.ok ys C3) else none
          | _ => none) Q := g
        cases hz : lcs2 gd t c it1 t1 c1 x vs1 ds (wipeE env vs) C' with
        | none =>
          rw [hz] at g1
          exact g1.elim
        | some r =>
          rw [hz] at g1
          cases r with
          | ex _ _ _ => exact g1.elim
          | ok zs C4 =>
            simp only [] at g1
            split at g1
            · exact ⟨zs, C4, rfl, by assumption⟩
            · exact g1.elim
      obtain ⟨zs, C4, htot, hlen⟩ := tot
      -- the word: acc so far, and what the rest gives makes the whole
      let W1 : Nat → Hp → Prop := fun i H2 => ∃ Hf2 ρ2 C2 acc dacc ys, Same Hf1 Hf2 ∧ ρ1 <+: ρ2 ∧ SR X.K Hf2 (upd F Dl (.lst acc)) ρ2 C2 H2 ∧ Dats X.K Hf2 ρ2 acc dacc ∧
          lcs2 gd t c it1 t1 c1 x vs1 (ds.drop i) (wipeE env vs) C2 = some (.ok ys C4) ∧ dacc ++ ys = zs
      refine ⟨fun i m H2 => i ≤ ds.length ∧ m = ds.length - i ∧ W1 i H2, ⟨ds.length, Nat.zero_le _, rfl, Hf1, ρ1, C', [], [], zs, Same.refl _, List.prefix_refl _, S1.intoF hD, .nil, by rw [List.drop_zero]; exact htot, rfl⟩, ?_⟩
      rintro i m H2 ⟨hi, rfl, Hf2, ρ2, C2, acc, dacc, ys, e2, p2, S2, D2, g2, hz⟩
      by_cases hlt : i < ds.length
      · rw [List.drop_eq_getElem_cons hlt] at g2
        unfold lcs2 at g2
        by_cases hgd : gd C2 = true
        · rw [if_pos hgd] at g2
          obtain ⟨go, yl⟩ := (w1 i Hf2 _ ρ2 C2 H2 e2 p2 S2 hgd).1 hlt
          refine .inr ⟨go, W1 (i + 1), fun H3 q => ⟨ds.length - (i + 1), by omega, hlt, rfl, q⟩, fun y H3 hy => ?_⟩
          obtain ⟨d, Hf3, hd, e3, S3, D3⟩ := yl y H3 hy
          have ed : ds[i] = d := by
            rw [List.getElem?_eq_getElem hlt] at hd
            exact Option.some.inj hd
          rw [ed] at g2
          cases ht : t.put d (wipeE env vs) with
          | none =>
            rw [ht] at g2
            cases g2
          | some env3 =>
            rw [ht] at g2
            simp only [] at g2
            have E3 := E1.mono (e2.trans e3) p2
            refine ⟨Hf3, _, ρ2, wipeE env vs, C2, d, S3, E3, D3, env3, ht, fun σ4 E4 f4 => ⟨?_, Hf3, _, ρ2, env3, C2, S3, E4, ?_⟩⟩
            · rw [← wipe_wipe (σ := σ)]
              refine wipe_same ?_ fun j hj => f4 j fun z => hj (hv j z)
              rw [E4.len, hput _ _ _ ht, E3.len]
            · cases hc : c env3 C2 with
              | none =>
                rw [hc] at g2
                cases g2
              | some rc =>
                rw [hc] at g2
                cases rc with
                | ex c' q C3 => cases g2
                | ok b C3 =>
                  refine fun b' H4 Hf4 ρ4 e4 p4 S4 hb => ?_
                  have hb' : b' = b := hb
                  subst hb'
                  cases b' with
                  | false =>
                    simp only [] at g2
                    exact ⟨Hf4, ρ4, C3, acc, dacc, ys, (e2.trans e3).trans e4, p2.trans p4, S4, D2.mono (e3.trans e4) p4, g2, hz⟩
                  | true =>
                    simp only [] at g2
                    refine L2.iteT ?_
                    have E4' := E4.mono e4 p4
                    refine ⟨Hf4, _, ρ4, env3, C3, S4, E4', ?_⟩
                    cases hit1 : it1 env3 C3 with
                    | none =>
                      rw [hit1] at g2
                      cases g2
                    | some ri =>
                      rw [hit1] at g2
                      cases ri with
                      | ex _ _ _ => cases g2
                      | ok pp C5 =>
                        obtain ⟨ds1, gd1⟩ := pp
                        refine fun J1 H5 Hf5 ρ5 e5 p5 S5 w5 => ?_
                        simp only [] at g2
                        have E5 := (E4'.mono e5 p5).wipe vs1
                        cases hl : lcs gd1 t1 c1 x ds1 (wipeE env3 vs1) C5 with
                        | none =>
                          rw [hl] at g2
                          cases g2
                        | some rl =>
                          rw [hl] at g2
                          cases rl with
                          | ex _ _ _ => cases g2
                          | ok ys1 C6 =>
                            simp only [] at g2
                            cases hl2 : lcs2 gd t c it1 t1 c1 x vs1 (ds.drop (i + 1)) (wipeE env vs) C6 with
                            | none =>
                              rw [hl2] at g2
                              cases g2
                            | some r2 =>
                              rw [hl2] at g2
                              cases r2 with
                              | ex _ _ _ => cases g2
                              | ok ys2 C7 =>
                                simp only [Option.some.injEq, R.ok.injEq] at g2
                                obtain ⟨g2a, g2b⟩ := g2
                                subst g2b
                                subst g2a
                                -- the inner loop
                                let V1 : Nat → Hp → Prop := fun j H6 => ∃ Hf6 ρ6 C8 acc' dacc' ys', Same Hf5 Hf6 ∧ ρ5 <+: ρ6 ∧ SR X.K Hf6 (upd F Dl (.lst acc')) ρ6 C8 H6 ∧ Dats X.K Hf6 ρ6 acc' dacc' ∧
                                  lcs gd1 t1 c1 x (ds1.drop j) (wipeE env3 vs1) C8 = some (.ok ys' C6) ∧ dacc' ++ ys' ++ ys2 = zs
                                have e15 : Same Hf1 Hf5 := ((e2.trans e3).trans e4).trans e5
                                have p15 : ρ1 <+: ρ5 := (p2.trans p4).trans p5
                                refine ⟨fun j k H6 => j ≤ ds1.length ∧ k = ds1.length - j ∧ V1 j H6, ⟨ds1.length, Nat.zero_le _, rfl, Hf5, ρ5, C5, acc, dacc, ys1, Same.refl _, List.prefix_refl _, S5, D2.mono ((e3.trans e4).trans e5) (p4.trans p5), by rw [List.drop_zero]; exact hl, by rw [List.append_assoc]; exact hz⟩, ?_⟩
                                rintro j k H6 ⟨hj, rfl, Hf6, ρ6, C8, acc', dacc', ys', e6, p6, S6, D6, g6, hz6⟩
                                by_cases hjt : j < ds1.length
                                · rw [List.drop_eq_getElem_cons hjt] at g6
                                  unfold lcs at g6
                                  by_cases hgd1 : gd1 C8 = true
                                  · rw [if_pos hgd1] at g6
                                    obtain ⟨go1, yl1⟩ := (w5 j Hf6 _ ρ6 C8 H6 e6 p6 S6 hgd1).1 hjt
                                    refine .inr ⟨go1, V1 (j + 1), fun H7 q => ⟨ds1.length - (j + 1), by omega, hjt, rfl, q⟩, fun y7 H7 hy7 => ?_⟩
                                    obtain ⟨d7, Hf7, hd7, e7, S7, D7⟩ := yl1 y7 H7 hy7
                                    have ed7 : ds1[j] = d7 := by
                                      rw [List.getElem?_eq_getElem hjt] at hd7
                                      exact Option.some.inj hd7
                                    rw [ed7] at g6
                                    cases ht1 : t1.put d7 (wipeE env3 vs1) with
                                    | none =>
                                      rw [ht1] at g6
                                      cases g6
                                    | some env7 =>
                                      rw [ht1] at g6
                                      simp only [] at g6
                                      have E7 := E5.mono (e6.trans e7) p6
                                      refine ⟨Hf7, _, ρ6, wipeE env3 vs1, C8, d7, S7, E7, D7, env7, ht1, fun σ8 E8 f8 => ⟨?_, Hf7, _, ρ6, env7, C8, S7, E8, ?_⟩⟩
                                      · rw [← wipe_wipe (σ := σ4)]
                                        refine wipe_same ?_ fun jj hjj => f8 jj fun z => hjj (hv1 jj z)
                                        rw [E8.len, hput1 _ _ _ ht1, E7.len]
                                      · cases hc1 : c1 env7 C8 with
                                        | none =>
                                          rw [hc1] at g6
                                          cases g6
                                        | some rc =>
                                          rw [hc1] at g6
                                          cases rc with
                                          | ex _ _ _ => cases g6
                                          | ok b C9 =>
                                            refine fun b' H8 Hf8 ρ8 e8 p8 S8 hb => ?_
                                            have hb' : b' = b := hb
                                            subst hb'
                                            cases b' with
                                            | false =>
                                              simp only [] at g6
                                              exact ⟨Hf8, ρ8, C9, acc', dacc', ys', (e6.trans e7).trans e8, p6.trans p8, S8, D6.mono (e7.trans e8) p8, g6, hz6⟩
                                            | true =>
                                              simp only [] at g6
                                              refine L2.iteT ?_
                                              refine ⟨Hf8, _, ρ8, env7, C9, S8, E8.mono e8 p8, ?_⟩
                                              cases hx : x env7 C9 with
                                              | none =>
                                                rw [hx] at g6
                                                cases g6
                                              | some rx =>
                                                rw [hx] at g6
                                                cases rx with
                                                | ex _ _ _ => cases g6
                                                | ok dy C10 =>
                                                  simp only [] at g6
                                                  cases hl3 : lcs gd1 t1 c1 x (ds1.drop (j + 1)) (wipeE env3 vs1) C10 with
                                                  | none =>
                                                    rw [hl3] at g6
                                                    cases g6
                                                  | some r3 =>
                                                    rw [hl3] at g6
                                                    cases r3 with
                                                    | ex _ _ _ => cases g6
                                                    | ok ys3 C11 =>
                                                      simp only [Option.some.injEq, R.ok.injEq] at g6
                                                      obtain ⟨g6a, g6b⟩ := g6
                                                      subst g6b
                                                      subst g6a
                                                      refine fun vy H9 Hf9 ρ9 e9 p9 S9 D9 => ⟨acc', S9.fr Dl _ upd_same, ?_, ?_⟩
                                                      · have q := congrArg List.length hz6
                                                        simp only [List.length_append, List.length_cons] at q
                                                        have q2 := D6.len
                                                        have q3 : (1000000 : Nat) < sizeLine := by decide
                                                        omega
                                                      · refine ⟨Hf9, ρ9, C10, acc' ++ [vy], dacc' ++ [dy], ys3, ((e6.trans e7).trans e8).trans e9, (p6.trans p8).trans p9, S9.growF, (D6.mono ((e7.trans e8).trans e9) (p8.trans p9)).app (.cons D9 .nil), hl3, ?_⟩
                                                        rw [← hz6]
                                                        simp
                                  · rw [if_neg hgd1] at g6
                                    cases g6
                                · have ej : j = ds1.length := by omega
                                  subst ej
                                  rw [List.drop_eq_nil_of_le (Nat.le_refl _)] at g6
                                  unfold lcs at g6
                                  by_cases hgd1 : gd1 C8 = true
                                  · rw [if_pos hgd1] at g6
                                    simp only [Option.some.injEq, R.ok.injEq] at g6
                                    obtain ⟨g6a, g6b⟩ := g6
                                    subst g6b
                                    subst g6a
                                    rw [List.append_nil] at hz6
                                    exact .inl ⟨(w5 _ Hf6 _ ρ6 _ H6 e6 p6 S6 hgd1).2 (Nat.le_refl _), Hf6, ρ6, _, acc', dacc', ys2, e15.trans e6, p15.trans p6, S6, D6, hl2, hz6⟩
                                  · rw [if_neg hgd1] at g6
                                    cases g6
        · rw [if_neg hgd] at g2
          cases g2
      · have ei : i = ds.length := by omega
        subst ei
        rw [List.drop_eq_nil_of_le (Nat.le_refl _)] at g2
        unfold lcs2 at g2
        by_cases hgd : gd C2 = true
        · rw [if_pos hgd] at g2
          simp only [Option.some.injEq, R.ok.injEq] at g2
          obtain ⟨g2a, g2b⟩ := g2
          subst g2a
          rw [List.append_nil] at hz
          exact .inl ⟨(w1 _ Hf2 _ ρ2 C2 H2 e2 p2 S2 hgd).2 (Nat.le_refl _), fin acc dacc C2 H2 Hf2 ρ2 zs C4 htot e2 p2 g2b hz S2 D2⟩
        · rw [if_neg hgd] at g2
          cases g2
theorem sl_lc2 {e : Expr} {it it1 : SW} {t t1 : Tg} {c c1 : S Bool} {x : S D} {vs vs1 : List Nat} (hv : ∀ j ∈ t.at_, j ∈ vs) (hv1 : ∀ j ∈ t1.at_, j ∈ vs1) (hput : ∀ d e e', t.put d e = some e' → e'.length = e.length) (hput1 : ∀ d e e', t1.put d e = some e' → e'.length = e.length)
    (h : PE X e (tLc2 (tI X.K X.mg W it) (gG X.K X.mg none t) (tT X.K X.mg W0 c) (tI X.K X.mg W0 it1) (gG X.K X.mg none t1) (tT X.K X.mg W0 c1) (tE X.K X.mg W0 x) vs vs1)) : SL X W e (xLc2 it t c it1 t1 c1 x vs vs1) := pe_imp h fun _ _ _ q => goLc2 hv hv1 hput hput1 q
end
/-! ### targets keep the number of slots -/
theorem gN_len (i : Nat) (d : D) (e e' : Env) (h : (gN i).put d e = some e') : e'.length = e.length := by
  have q := Option.some.inj h
  rw [← q, List.length_set]
theorem gsN_lenE (ds : List D) (e e' : Env) (h : gsN.put ds e = some e') : e'.length = e.length := by
  cases ds with
  | nil =>
    have q := Option.some.inj h
    rw [← q]
  | cons _ _ => cases h
theorem gsC_lenE {t : Tg} {u : Tgs} (h1 : ∀ d e e', t.put d e = some e' → e'.length = e.length) (h2 : ∀ ds e e', u.put ds e = some e' → e'.length = e.length) (ds : List D) (e e' : Env) (h : (gsC t u).put ds e = some e') : e'.length = e.length := by
  cases ds with
  | nil => cases h
  | cons d ds =>
    obtain ⟨e1, q1, q2⟩ := Option.bind_eq_some_iff.mp (show (t.put d e).bind (u.put ds) = some e' from h)
    rw [h2 _ _ _ q2, h1 _ _ _ q1]
theorem gT_len {u : Tgs} (h : ∀ ds e e', u.put ds e = some e' → e'.length = e.length) (d : D) (e e' : Env) (q : (gT u).put d e = some e') : e'.length = e.length := by
  cases d with
  | tup ds => exact h ds e e' q
  | _ => cases q
/-- no tests -/
theorem st_nil {X : Cx} {W : Wh} : PTs X [] (tT X.K X.mg W (S.val true)) := ⟨fun pins s σ H Q I h => by
  obtain ⟨Hf, F, ρ, env, C, S0, E0, g⟩ := h
  exact (pts_nil (X := X)).run pins s σ H Q I (Go.val (env := env) g S0 (v := true) rfl)⟩
end Sm
end
section
set_option maxRecDepth 100000
set_option maxHeartbeats 0
namespace Sm
variable [Tabs0]
open PySem L2
variable {K : PySem.W.Frag} {mg : Str → Option Value}
section
variable {X : Cx} {W : Wh}
/-! ### two comparisons in a row -/
theorem se_chain {op op' : CmpOp} {a b c : Expr} {pos : Pos} {r r' : R2} {f f' : D → D → Option D} {sa sb sc : S D} (ho : OpR X (compareOp op) r) (hf : Op2 X.K r f) (ho' : OpR X (compareOp op') r') (hf' : Op2 X.K r' f') (ha : SE X W a sa) (hb : SE X W b sb) (hc : SE X W c sc)
    (hm : lastMarks [op, op'] [b, c] = false) : SE X W (.Compare a [op, op'] [b, c] pos) (xChain f f' sa sb sc) := pe_imp (pe_chain ho ho' ha hb hc hm) fun _ _ _ q => goChain hf hf' q
theorem sb_chain {op op' : CmpOp} {a b c : Expr} {pos : Pos} {r r' : R2} {f f' : D → D → Option D} {sa sb sc : S D} (ho : OpR X (compareOp op) r) (hf : Op2 X.K r f) (ho' : OpR X (compareOp op') r') (hf' : Op2 X.K r' f') (ha : SE X W a sa) (hb : SE X W b sb) (hc : SE X W c sc)
    (hm : lastMarks [op, op'] [b, c] = false) : SB X W (.Compare a [op, op'] [b, c] pos) (xB (xChain f f' sa sb sc)) := pt_imp (pt_chain ho ho' ha hb hc hm) fun _ _ _ q => goChain hf hf' (goB q)
/-! ### a, b = x, y -/
def xPar (i j : Nat) (s : S (List D)) : SS := xDo s fun ds e C => match ds with
  | [x, y] => some (.nx ((e.set i (some x)).set j (some y)) C)
  | _ => none
theorem sc_par {i j : Nat} {x y : Str} {a b : Expr} {px py pt pos : Pos} {kt k2 pt2} {s : S (List D)} (h : PS X (.Assign [.Tuple [.Name x px, .Name y py] kt pt] (.Tuple [a, b] k2 pt2) pos) (tPar i j (tA X.K X.mg W s))) :
    SC X W (.Assign [.Tuple [.Name x px, .Name y py] kt pt] (.Tuple [a, b] k2 pt2) pos) (xPar i j s) :=
  ps_imp h fun D σ H ⟨Hf, F, ρ, env, C, S0, E0, g⟩ => ⟨Hf, F, ρ, env, C, S0, E0, (GoS.doit E0 g).mono fun vs H1 ⟨Hf1, ρ1, C1, ds, e1, p1, S1, A1, g1⟩ => by
    match ds, A1, g1 with
    | [d, d'], .cons (v := v) h (.cons (v := v') h' .nil), g1 => exact ⟨v, v', rfl, g1 _ H1 Hf1 ρ1 (Same.refl _) (List.prefix_refl _) S1 (((E0.mono e1 p1).set h i).set h' j)⟩
    | [], _, g1 => exact g1.elim
    | [_], _, g1 => exact g1.elim
    | _ :: _ :: _ :: _, _, g1 => exact g1.elim⟩
/-! ### an empty dict, as data -/
theorem se_dnil {pos : Pos} : SE X W (.Dict [] [] pos) (S.val (.dk [] [])) := pe_imp (pe_lockP pe_dnewK) fun σ H Q ⟨Hf, F, ρ, env, C, S0, E0, g⟩ => fun p hp => by
  refine ⟨p, _, rfl, upd_same, trivial, fun od => ?_⟩
  rw [upd_upd]
  obtain ⟨S1, e1⟩ := S0.new (o := .frz od (.dK [])) hp
  exact g (.ref p) _ _ ρ e1 (List.prefix_refl _) S1 (.dk ⟨od, upd_same⟩ rfl .nil)
/-! ### what stands at the top -/
theorem se_ty {e : Expr} {T : String} (h : PE X e (tC (.ty T))) : SE X W e (S.val (.opq (.ty T))) := se_const h fun _ _ => .opq _
theorem se_int {i j pos} : SE X W (.Constant (.int i) j pos) (S.val (.int i)) := se_const pe_int fun _ _ => .int _
theorem se_bl {i j pos} : SE X W (.Constant (.bool i) j pos) (S.val (.bl i)) := se_const pe_bl fun _ _ => .bl _
theorem se_non {j pos} : SE X W (.Constant .none j pos) (S.val .non) := se_const pe_non fun _ _ => .non
theorem se_str {i j pos} : SE X W (.Constant (.str i) j pos) (S.val (.str i)) := se_const pe_str fun _ _ => .str _
theorem se_gint {x : Str} {pos : Pos} {i : Int} {t : Tok} (hg : Gl X x) (hm : X.mg x = some (.int i t)) (hd : (x == ("__debug__" : Str)) = false) : SE X W (.Name x pos) (S.val (.int i)) := se_const (pe_glob (v := .int i) hg hm ⟨_, rfl⟩ hd) fun _ _ => .int _
theorem se_gintE {x : Str} {pos : Pos} {i : Int} (hg : Gl X x) (hm : ∃ t, X.mg x = some (.int i t)) (hd : (x == ("__debug__" : Str)) = false) : SE X W (.Name x pos) (S.val (.int i)) := by
  obtain ⟨t, hm⟩ := hm
  exact se_gint hg hm hd
end
section
open PyProof.Rows
variable {P : Program} {w : World} {base : Heap}
end
/-- what a law promises -/
def spLaw (K : PySem.W.Frag) : Sp := fun vs H Q _ => ∃ (a : Addr) (ns : List Int), vs = [.ref a] ∧ SqL K H a (ns.map V.int) ∧ ns.length ≤ 63 ∧ ∀ H', Q (.bl true) H'
theorem dats_ints {H : Hp} {ρ : List Addr} : ∀ ns : List Int, Dats K H ρ (ns.map V.int) (ns.map D.int)
  | [] => .nil
  | n :: ns => .cons (.int n) (dats_ints ns)
/-- a law, from what its text comes to at each script -/
theorem law_end {f : Fn} (h : ∀ ns : List Int, ns.length ≤ 63 → f [.lst (ns.map D.int)] [] = some (.ok (.bl true) [])) {vs : List V} {H : Hp} {Q : VK} {E : XK} (q : spLaw K vs H Q E) (hT : ∀ p ∈ Tabs0.T, H p.1 = some (.tbl #[]) := by intro p hp; exact absurd hp List.not_mem_nil) : spS K mg 1 f vs H Q E := by
  obtain ⟨a, ns, rfl, hS, hl, k⟩ := q
  classical
  obtain ⟨Hf, hHf⟩ : ∃ Hf : Hp, Hf = fun b => if ∃ ps, H b = some (.tbl ps) then none else H b := ⟨_, rfl⟩
  have e1 : Same Hf H := fun b o z => by
    rw [hHf] at z
    simp only [] at z
    split at z
    · cases z
    · exact z
  have e2 : ∀ b o, H b = some o → (∀ ps, o ≠ .tbl ps) → Hf b = some o := fun b o z n => by
    rw [hHf]
    simp only []
    rw [if_neg (fun ⟨ps, y⟩ => n ps (by rw [z] at y; exact Option.some.inj y))]
    exact z
  have hS2 : SqL K Hf a (ns.map V.int) := by
    rcases hS with (hS | ⟨o, hS⟩) | hS
    · exact .inl (.inl (e2 _ _ hS fun ps z => by cases z))
    · exact .inl (.inr ⟨o, e2 _ _ hS fun ps z => by cases z⟩)
    · exact .inr hS
  refine ⟨rfl, Hf, fun _ => none, [], [], [.lst (ns.map D.int)], ⟨e1, fun b o z => (by cases z), fun b o z => (by cases z), rfl, fun n a o z => (by simp at z), fun m n a o u z => (by simp at z), fun p hp => ⟨⟨?_, rfl⟩, #[], hT p hp, True.intro, fun pos cv hc => ?_⟩, fun b ps => ⟨fun z => ?_, fun z => by cases z⟩⟩, .cons (.lst hS2 (dats_ints ns)) .nil, ?_⟩
  · rw [hHf]
    simp only []
    rw [if_pos ⟨_, hT p hp⟩]
  · have z : codeAmong pos [] = some cv := hc
    simp [codeAmong] at z
  · have y := e1 b _ z
    rw [hHf] at z
    simp only [] at z
    rw [if_pos ⟨ps, y⟩] at z
    cases z
  · rw [h ns hl]
    exact fun v H' Hf' ρ' _ _ _ d => by
      cases d
      exact k H'
theorem cx_none {P : Program} {w : World} (H : Hp) (s : Shared) (e : Value) (s' : Shared) : L2.CX P w [] H s (fun _ _ _ => False) e s' → False := fun ⟨_, _, _, _, _, _, _, _, _, _, _, _, z⟩ => z
end Sm
end
section
set_option maxRecDepth 100000
set_option maxHeartbeats 0
set_option exponentiation.threshold 1000000
namespace Sm
open PySem L2
/-! ### reckoning -/
def typed : D → Bool
  | .non => true
  | .bl _ => true
  | .int _ => true
  | .str _ => true
  | .tup _ => true
  | .lst _ => true
  | .dk _ _ => true
  | _ => false
def wholeB : D → Bool
  | .int _ => true
  | _ => false
def tupB : D → Bool
  | .tup _ => true
  | _ => false
def blB : D → Bool
  | .bl _ => true
  | _ => false
def intB : D → Bool
  | .int _ => true
  | .bl _ => true
  | _ => false
section
variable {C : Cells} {d : D}
theorem isi_int (h : typed d = true) : dIsi [d, .opq (.ty "int")] = some (.bl (intB d)) := by
  cases d <;> first | rfl | (simp [typed] at h)
theorem isi_bool (h : typed d = true) : dIsi [d, .opq (.ty "bool")] = some (.bl (blB d)) := by
  cases d <;> first | rfl | (simp [typed] at h)
theorem isi_tup (h : typed d = true) : dIsi [d, .opq (.ty "tuple")] = some (.bl (tupB d)) := by
  cases d <;> first | rfl | (simp [typed] at h)
theorem vw_t (h : typed d = true) : vw C d = d := by
  cases d <;> first | rfl | (simp [typed] at h)
theorem ie_t (h : typed d = true) : isErr d = false := by
  cases d <;> first | rfl | (simp [typed] at h)
theorem vw_n : vw C .non = .non := rfl
theorem vw_b {b : Bool} : vw C (.bl b) = .bl b := rfl
theorem vw_i {i : Int} : vw C (.int i) = .int i := rfl
theorem vw_s {x : Str} : vw C (.str x) = .str x := rfl
theorem vw_u {ds : List D} : vw C (.tup ds) = .tup ds := rfl
theorem vw_l {ds : List D} : vw C (.lst ds) = .lst ds := rfl
theorem vw_o {v : V} : vw C (.opq v) = .opq v := rfl
theorem vw_c {n : Nat} {ds : List D} (h : C[n]? = some (some (.l ds))) : vw C (.cel n) = .lst ds := by
  unfold vw
  simp [h]
theorem ie_n : isErr .non = false := rfl
theorem ie_b {b : Bool} : isErr (.bl b) = false := rfl
theorem ie_i {i : Int} : isErr (.int i) = false := rfl
theorem ie_s {x : Str} : isErr (.str x) = false := rfl
theorem ie_u {ds : List D} : isErr (.tup ds) = false := rfl
theorem ie_l {ds : List D} : isErr (.lst ds) = false := rfl
theorem ie_c {n : Nat} : isErr (.cel n) = false := rfl
theorem x10 : ixN 1 0 = some 0 := rfl
theorem x20 : ixN 2 0 = some 0 := rfl
theorem x21 : ixN 2 1 = some 1 := rfl
theorem x30 : ixN 3 0 = some 0 := rfl
theorem x31 : ixN 3 1 = some 1 := rfl
theorem x32 : ixN 3 2 = some 2 := rfl
theorem ixN_nat {n i : Nat} (h : i < n) : ixN n (i : Int) = some i := by
  unfold ixN
  have : (0 : Int) ≤ (i : Int) := Int.natCast_nonneg i
  simp [h, this]
theorem fin_b {b : Bool} : fin C.length (.bl b) C = some (.ok (.bl b) C) := by simp [fin, nocel]
theorem fin_i {b : Int} : fin C.length (.int b) C = some (.ok (.int b) C) := by simp [fin, nocel]
theorem fin_n {k : Nat} (h : nocel d = true) : fin k d C = some (.ok d (C.take k)) := by simp [fin, h]
theorem small2 {b : Int} {n k : Nat} (h : b.natAbs < 2 ^ k) (hk : k ≤ n) : b.natAbs < 2 ^ n := Nat.lt_of_lt_of_le h (Nat.pow_le_pow_right (by decide) hk)
theorem eq_ii {i j : Int} : dEq (.int i) (.int j) = some (.bl (i == j)) := by simp [dEq, okE, eqd]
theorem ne_ii {i j : Int} : dNe (.int i) (.int j) = some (.bl (!(i == j))) := by simp [dNe, okE, eqd]
/-- the items of a walk are done one by one, and none stops -/
theorem lcs_map {g : Gd} {t : Tg} {c : S Bool} {x : S D} {e : Env} {C : Cells} (hg : g C = true) {p : D → Bool} {f : D → D} : ∀ (ds : List D), (∀ d ∈ ds, ∃ e1, t.put d e = some e1 ∧ c e1 C = some (.ok (p d) C) ∧ (p d = true → x e1 C = some (.ok (f d) C))) →
    lcs g t c x ds e C = some (.ok ((ds.filter p).map f) C)
  | [], _ => by
    unfold lcs
    rw [if_pos hg]
    rfl
  | d :: r, h => by
    obtain ⟨e1, h1, h2, h3⟩ := h d List.mem_cons_self
    have ih := lcs_map hg r fun d' hd' => h d' (List.mem_cons_of_mem _ hd')
    unfold lcs
    rw [if_pos hg, h1]
    cases hp : p d with
    | false =>
      rw [hp] at h2
      simp only [h2, ih, List.filter_cons, hp, Bool.false_eq_true, if_false]
    | true =>
      rw [hp] at h2
      simp only [h2, h3 hp, ih, List.filter_cons, hp, if_true, List.map_cons]
/-- the cells go on changing: an invariant P -/
theorem lcs_inv {t : Tg} {x : S D} {e : Env} (P : Nat → Cells → Prop) (Y : D → Prop) : ∀ (ds : List D) (k : Nat) (C : Cells), P k C → (∀ d ∈ ds, ∀ k C, P k C → ∃ e1, t.put d e = some e1 ∧ ∃ y C1, x e1 C = some (.ok y C1) ∧ Y y ∧ P (k + 1) C1) →
    ∃ ys C1, lcs gd0 t (S.val true) x ds e C = some (.ok ys C1) ∧ ys.length = ds.length ∧ (∀ y ∈ ys, Y y) ∧ P (k + ds.length) C1
  | [], k, C, h, _ => ⟨[], C, by unfold lcs; rfl, rfl, fun y hy => (by cases hy), h⟩
  | d :: r, k, C, h, hs => by
    obtain ⟨e1, h1, y, C1, h2, h3, h4⟩ := hs d List.mem_cons_self k C h
    obtain ⟨ys, C2, g1, g2, g3, g4⟩ := lcs_inv P Y r (k + 1) C1 h4 fun d' hd' => hs d' (List.mem_cons_of_mem _ hd')
    refine ⟨y :: ys, C2, ?_, by simp [g2], ?_, ?_⟩
    · unfold lcs
      simp only [gd0, if_true, h1, S.val, h2, g1]
    · intro z hz
      rcases List.mem_cons.mp hz with rfl | hz
      · exact h3
      · exact g3 z hz
    · rw [List.length_cons]
      have : k + (r.length + 1) = k + 1 + r.length := by omega
      rw [this]
      exact g4
end
end Sm
end
section
set_option maxRecDepth 100000
set_option maxHeartbeats 0
set_option exponentiation.threshold 1000000
namespace Sm
open L2
theorem xLc_ok {it : SW} {t : Tg} {c : S Bool} {x : S D} {vs : List Nat} {e : Env} {C C1 C2 : Cells} {ds ys : List D} {g : Gd} (hi : it e C = some (.ok (ds, g) C1)) (hl : ds.length ≤ 1000000) (h : lcs g t c x ds (wipeE e vs) C1 = some (.ok ys C2)) : xLc it t c x vs e C = some (.ok ys C2) := by
  unfold xLc S.bind
  rw [hi]
  simp only [hl, if_true]
  exact h
theorem xFor_ok {it : SW} {t : Tg} {b : SS} {e : Env} {C C1 : Cells} {ds : List D} {g : Gd} (hi : it e C = some (.ok (ds, g) C1)) : xFor it t b e C = lp g t b ds e C1 := by
  unfold xFor xDo
  rw [hi]
/-- a loop whose turns all go on: P of the slots and the cells -/
theorem lp_inv {t : Tg} {b : SS} (P : Nat → Env → Cells → Prop) : ∀ (ds : List D) (k : Nat) (e : Env) (C : Cells), P k e C → (∀ d ∈ ds, ∀ j e C, j < k + ds.length → P j e C → ∃ e1, t.put d e = some e1 ∧ ∃ e2 C2, b e1 C = some (.nx e2 C2) ∧ P (j + 1) e2 C2) →
    ∃ e2 C2, lp gd0 t b ds e C = some (.nx e2 C2) ∧ P (k + ds.length) e2 C2
  | [], k, e, C, h, _ => ⟨e, C, by unfold lp; rfl, h⟩
  | d :: r, k, e, C, h, hs => by
    obtain ⟨e1, h1, e2, C2, h2, h3⟩ := hs d List.mem_cons_self k e C (by rw [List.length_cons]; omega) h
    obtain ⟨e3, C3, g1, g2⟩ := lp_inv P r (k + 1) e2 C2 h3 fun d' hd' j e C hj => hs d' (List.mem_cons_of_mem _ hd') j e C (by rw [List.length_cons]; omega)
    refine ⟨e3, C3, ?_, ?_⟩
    · unfold lp
      simp only [gd0, if_true, h1, h2, g1]
    · rw [List.length_cons]
      have : k + (r.length + 1) = k + 1 + r.length := by omega
      rw [this]
      exact g2
/-- a comprehension whose cells go on changing: an invariant P -/
theorem lcs_go {t : Tg} {x : S D} {e : Env} (P : Nat → Cells → Prop) (Y : D → Prop) : ∀ (ds : List D) (k : Nat) (C : Cells), P k C → (∀ d ∈ ds, ∀ j C, j < k + ds.length → P j C → ∃ e1, t.put d e = some e1 ∧ ∃ y C1, x e1 C = some (.ok y C1) ∧ Y y ∧ P (j + 1) C1) →
    ∃ ys C1, lcs gd0 t (S.val true) x ds e C = some (.ok ys C1) ∧ ys.length = ds.length ∧ (∀ y ∈ ys, Y y) ∧ P (k + ds.length) C1
  | [], k, C, h, _ => ⟨[], C, by unfold lcs; rfl, rfl, fun y hy => (by cases hy), h⟩
  | d :: r, k, C, h, hs => by
    obtain ⟨e1, h1, y, C1, h2, h3, h4⟩ := hs d List.mem_cons_self k C (by rw [List.length_cons]; omega) h
    obtain ⟨ys, C2, g1, g2, g3, g4⟩ := lcs_go P Y r (k + 1) C1 h4 fun d' hd' j C hj => hs d' (List.mem_cons_of_mem _ hd') j C (by rw [List.length_cons]; omega)
    refine ⟨y :: ys, C2, ?_, by simp [g2], ?_, ?_⟩
    · unfold lcs
      simp only [gd0, if_true, h1, S.val, h2, g1]
    · intro z hz
      rcases List.mem_cons.mp hz with rfl | hz
      · exact h3
      · exact g3 z hz
    · rw [List.length_cons]
      have : k + (r.length + 1) = k + 1 + r.length := by omega
      rw [this]
      exact g4
theorem rng1_ok {z : Int} (h0 : 0 ≤ z) (h1 : z ≤ 1000000) : rng1 [.int z] = some (zs 0 z.toNat, gd0) := by
  have h : inRng z = true := inRng_iff.mpr (by omega)
  unfold rng1
  simp only [h, if_true]
theorem rng1_nat {n : Nat} (h1 : n ≤ 1000000) : rng1 [.int (n : Int)] = some (zs 0 n, gd0) := by
  rw [rng1_ok (by omega) (by omega)]
  rfl
theorem zs_mem {lo : Int} {n : Nat} {d : D} (h : d ∈ zs lo n) : ∃ i : Nat, i < n ∧ d = .int (lo + (i : Nat)) := by
  unfold zs at h
  obtain ⟨i, h1, h2⟩ := List.mem_map.mp h
  exact ⟨i, List.mem_range.mp h1, h2.symm⟩
end Sm
end
section
set_option maxRecDepth 100000
set_option maxHeartbeats 0
namespace Sm
variable [Tabs0]
open PySem L2 RZ
variable {K : PySem.W.Frag} {mg : Str → Option Value}
theorem units65 {k : Nat} {A : PySem.Around} (r : Room k A) : A.units + 65 < PySem.cLine := by
  have := r.un
  omega
/-! ### x in xs -/
def dIn : D → D → Option D := fun a b => match b with
  | .lst ds => if okE a 60 = true ∧ okE (.lst ds) 60 = true then some (.bl (ds.any fun z => eqd z a)) else none
  | _ => none
def dNotIn : D → D → Option D := fun a b => match b with
  | .lst ds => if okE a 60 = true ∧ okE (.lst ds) 60 = true then some (.bl (!ds.any fun z => eqd z a)) else none
  | _ => none
theorem any_eqv {a : D} {n : Nat} (ha : okE a n = true) : ∀ {ds : List D} {m : Nat}, okEs ds m = true → (toPs ds).any (fun z => PyData.eqv z (toP a)) = ds.any fun z => eqd z a
  | [], _, _ => rfl
  | d :: ds, m, h => by
    simp only [okEs, Bool.and_eq_true] at h
    simp only [toPs, List.any_cons, eqd_eqv d a m n h.1 ha, any_eqv ha h.2]
theorem in_ok {Hf F H : Hp} {ρ : List Addr} {Cs : Cells} {x y : V} {a : D} {ds : List D} (S0 : SR K Hf F ρ Cs H) (ha : Vw K H Hf ρ x a) (hb : Vw K H Hf ρ y (.lst ds)) (h : okE a 60 = true ∧ okE (.lst ds) 60 = true) :
    Dp K H x (toP a) ∧ Dp K H y (.list (toPs ds)) ∧ SeqAt.shaped (toP a) = true ∧ SeqAt.shaped (.list (toPs ds)) = true ∧ (toPs ds).any (fun z => PyData.eqv z (toP a)) = ds.any fun z => eqd z a :=
  ⟨ha.dp S0.ex h.1, hb.dp S0.ex h.2, okE_shaped h.1, okE_shaped h.2, any_eqv h.1 (m := 59) (by simpa [okE] using h.2)⟩
theorem op_dIn : Op2 K (rInD K) dIn := by
  intro Hf F ρ Cs H x y a b d Q S0 ha hb he k
  cases b with
  | lst ds =>
    unfold dIn at he
    simp only [] at he
    split at he
    · rename_i h
      have e := Option.some.inj he
      subst e
      obtain ⟨h1, h2, h3, h4, h5⟩ := in_ok S0 ha hb h
      refine ⟨_, _, h1, h2, h3, h4, ?_⟩
      rw [h5]
      exact k.here S0 (.bl _)
    · cases he
  | _ => cases he
theorem op_dNotIn : Op2 K (rNotInD K) dNotIn := by
  intro Hf F ρ Cs H x y a b d Q S0 ha hb he k
  cases b with
  | lst ds =>
    unfold dNotIn at he
    simp only [] at he
    split at he
    · rename_i h
      have e := Option.some.inj he
      subst e
      obtain ⟨h1, h2, h3, h4, h5⟩ := in_ok S0 ha hb h
      refine ⟨_, _, h1, h2, h3, h4, ?_⟩
      rw [h5]
      exact k.here S0 (.bl _)
    · cases he
  | _ => cases he
/-! ### parts -/
def cutD (ds : List D) (lo hi : Option Int) : List D := (ds.drop (HT.sIx ds.length 0 lo)).take (HT.sIx ds.length ds.length hi - HT.sIx ds.length 0 lo)
theorem cut_dats {H : Hp} {ρ : List Addr} {xs : List V} {ds : List D} (h : Dats K H ρ xs ds) (lo hi : Option Int) : Dats K H ρ (cutV xs lo hi) (cutD ds lo hi) := by
  unfold cutV cutD
  rw [h.len]
  exact (h.drop _).take _
abbrev ROp : Hp → List Addr → Option Int → Option Int → Prop := fun _ _ a b => a = b
def tO (K : PySem.W.Frag) (mg : Str → Option Value) (W : Wh) (s : S (Option Int)) : TO := tG K mg W ROp s
section
variable {X : Cx} {W : Wh}
def SO (X : Cx) (W : Wh) (e : Option Expr) (s : S (Option Int)) : Prop := PO X e (tO X.K X.mg W s)
theorem po_imp {e : Option Expr} {t u : TO} (h : PO X e t) (k : ∀ σ H Q, u σ H Q → t σ H Q) : PO X e u := ⟨fun pins s σ H Q I q => h.run pins s σ H Q I (k σ H Q q)⟩
def oNo : S (Option Int) := S.val none
def oE (s : S D) : S (Option Int) := S.bind s fun d => S.opt (match d with
  | .int i => some (some i)
  | _ => none)
theorem so_no : SO X W none oNo := po_imp po_none fun σ H Q ⟨Hf, F, ρ, env, C, S0, E0, g⟩ => Go.val g S0 rfl
theorem so_e {e : Expr} {s : S D} (h : SE X W e s) : SO X W (some e) (oE s) := po_imp (po_some h) fun σ H Q ⟨Hf, F, ρ, env, C, S0, E0, g⟩ => ⟨Hf, F, ρ, env, C, S0, E0, (Go.bind g).mono fun x H1 ⟨Hf1, ρ1, C1, a, e1, p1, S1, A1, g1⟩ => by
  obtain ⟨d, hd, g3⟩ := Go.opt g1
  cases a with
  | int i =>
    cases A1
    have e : some i = d := Option.some.inj hd
    exact ⟨i, rfl, g3 (some i) H1 Hf1 ρ1 (Same.refl _) (List.prefix_refl _) S1 e⟩
  | _ => cases hd⟩
def dSl (d : D) (lo hi : Option Int) : Option D := match d with
  | .tup ds => some (.tup (cutD ds lo hi))
  | .lst ds => some (.lst (cutD ds lo hi))
  | _ => none
def xSl (s : S D) (lo hi : S (Option Int)) : S D := S.bind s fun d => S.bind lo fun l => S.bind hi fun h => fun env C => S.opt (dSl (vw C d) l h) env C
theorem cutD_all {ds : List D} {lo hi : Option Int} (h : HT.sIx ds.length 0 lo = 0 ∧ HT.sIx ds.length ds.length hi = ds.length) : cutD ds lo hi = ds := by
  unfold cutD
  rw [h.1, h.2]
  simp
theorem se_sl {e : Expr} {lo hi : Option Expr} {pos p2 : Pos} {s : S D} {l h : S (Option Int)} (he : SE X W e s) (hl : SO X W lo l) (hh : SO X W hi h) : SE X W (.Subscript e (.Slice lo hi none p2) pos) (xSl s l h) :=
  pe_imp (pe_slice (r := fun x lo hi H Q => rSlA X.K x lo hi H Q ∨ rSlL X.K x lo hi H Q) (SlR.or sl_tupA sl_list) he hl hh) fun σ H Q ⟨Hf, F, ρ, env, C, S0, E0, g⟩ =>
    ⟨Hf, F, ρ, env, C, S0, E0, (Go.bind g).mono fun x H1 ⟨Hf1, ρ1, C1, a, e1, p1, S1, A1, g1⟩ =>
      ⟨Hf1, F, ρ1, env, C1, S1, E0.mono e1 p1, (Go.bind g1).mono fun lo H2 ⟨Hf2, ρ2, C2, b, e2, p2, S2, B2, g2⟩ =>
        ⟨Hf2, F, ρ2, env, C2, S2, (E0.mono e1 p1).mono e2 p2, (Go.bind g2).mono fun hi H3 ⟨Hf3, ρ3, C3, c, e3, p3, S3, B3, g3⟩ => by
          have eb : lo = b := B2
          have ec : hi = c := B3
          subst eb
          subst ec
          obtain ⟨d, hd, g4⟩ := Go.opt g3
          have k : Ans X.K Hf3 F ρ3 C3 d Q := fun v H' Hf' ρ' e' p' S' D' => g4 v H' Hf' ρ' e' p' S' D'
          have hv := vw_ok S3 (A1.mono (e2.trans e3) (p2.trans p3))
          cases hw : vw C3 a with
          | tup ds =>
            rw [hw] at hd hv
            have e := Option.some.inj hd
            subst e
            obtain ⟨ad, xs, rfl, hx, hxf, hs⟩ := hv.tup S3.ex
            have hl := hs.len
            refine .inl ⟨ad, xs, rfl, hx, fun hz => ?_, fun _ => k.tup S3 (cut_dats hs _ _)⟩
            rw [hl] at hz
            rw [cutD_all hz] at k
            exact k.here S3 (.tup hxf hs)
          | lst ds =>
            rw [hw] at hd hv
            have e := Option.some.inj hd
            subst e
            obtain ⟨ad, xs, rfl, hx, hs⟩ := hv.lst S3.ex
            exact .inr ⟨ad, xs, rfl, hx, k.lst S3 (cut_dats hs _ _)⟩
          | _ =>
            rw [hw] at hd
            cases hd⟩⟩⟩
/-! ### list(xs): a new list -/
def lsOf (ds : List D) : Option (List D) := match ds with
  | [.lst es] => some es
  | [.tup es] => some es
  | _ => none
def xLs (s : S (List D)) : S (List D) := S.bind s fun ds => fun env C => S.opt (lsOf (ds.map (vw C))) env C
theorem sl_ls {x : Str} {p pos : Pos} {es : List Expr} {s : S (List D)} (h : PE X (.Call (.Name x p) es [] pos) (tCB (fun xs H Q => ∃ p ys, xs = [.ref p] ∧ (SqL X.K H p ys ∨ SqT X.K H p ys) ∧ ∀ l, H l = none → Q (.ref l) (upd H l (.lst ys))) (tA X.K X.mg W s))) :
    SL X W (.Call (.Name x p) es [] pos) (xLs s) := pe_imp h fun σ H Q ⟨Hf, F, ρ, env, C, S0, E0, g⟩ => ⟨Hf, F, ρ, env, C, S0, E0, by
    unfold xLs S.bind at g
    cases e : s env C with
    | none =>
      rw [e] at g
      exact g
    | some r =>
      rw [e] at g
      cases r with
      | ex c q C' => exact g
      | ok ds C' =>
        refine fun vs H' Hf' ρ' e' p' S' A' => ?_
        have g' : GoL X.K X.mg W σ Hf F ρ (S.opt (lsOf (ds.map (vw C'))) env C') Q := g
        cases hd : lsOf (ds.map (vw C')) with
        | none =>
          rw [hd] at g'
          exact g'.elim
        | some es =>
          rw [hd] at g'
          have hv := vws_ok S' A'
          unfold lsOf at hd
          split at hd
          · rename_i es0 heq
            have e0 := Option.some.inj hd
            subst e0
            rw [heq] at hv
            cases hv with
            | cons h hs =>
              cases hs
              obtain ⟨a, xs, rfl, hx, hs⟩ := h.lst S'.ex
              exact ⟨a, xs, rfl, .inl hx, fun l hl => g' (.ref l) _ Hf' ρ' e' p' (fresh_new S' hl hs)⟩
          · rename_i es0 heq
            have e0 := Option.some.inj hd
            subst e0
            rw [heq] at hv
            cases hv with
            | cons h hs =>
              cases hs
              obtain ⟨a, xs, rfl, hx, hxf, hs⟩ := h.tup S'.ex
              exact ⟨a, xs, rfl, .inr hx, fun l hl => g' (.ref l) _ Hf' ρ' e' p' (fresh_new S' hl hs)⟩
          · cases hd⟩
/-! ### o.extend(a new list) -/
def xExt (sr : S D) (sl : S (List D)) : S D := S.bind sr fun r => fun e C => if (live r C).isSome = true then (match sl e C with
  | some (.ok zs C2) => match live r C2 with
    | some (n, ds) => if nocels (ds ++ zs) = true ∧ ds.length + zs.length ≤ 1000000 then some (.ok .non (C2.set n (some (.l (ds ++ zs))))) else none
    | none => none
  | some (.ex c p C2) => some (.ex c p C2)
  | none => none) else none
theorem live_cell {a : D} {C : Cells} {n : Nat} {ds : List D} (q : live a C = some (n, ds)) : a = .cel n ∧ C[n]? = some (some (.l ds)) := by
  unfold live at q
  split at q
  · rename_i m
    split at q
    · rename_i ds' hc
      have q' := Option.some.inj q
      simp only [Prod.mk.injEq] at q'
      obtain ⟨rfl, rfl⟩ := q'
      exact ⟨rfl, hc⟩
    · cases q
  · cases q
theorem se_ext {o e : Expr} {p pos : Pos} {sr : S D} {sl : S (List D)} (h : PE X (.Call (.Attribute o "extend" p) [e] [] pos) (tBM X.K "list" rExtend (tE X.K X.mg W sr) (tCons (tL X.K X.mg W sl) tNil))) :
    SE X W (.Call (.Attribute o "extend" p) [e] [] pos) (xExt sr sl) := pe_imp h fun σ H Q ⟨Hf, F, ρ, env, C, S0, E0, g⟩ =>
  ⟨Hf, F, ρ, env, C, S0, E0, (Go.bind g).mono fun x H1 ⟨Hf1, ρ1, C1, a, e1, p1, S1, A1, g1⟩ => by
    try simp only [] at g1
    split at g1
    · rename_i hlv
      obtain ⟨⟨n, ds⟩, hl⟩ := Option.isSome_iff_exists.mp hlv
      obtain ⟨rfl, hc⟩ := live_cell hl
      cases A1 with
      | @cel _ ad hn =>
        obtain ⟨_, k2⟩ := S1.cel n ad _ hn hc
        obtain ⟨vs, hv, hd⟩ := k2.lst
        refine ⟨.inl ⟨rfl, vs, .inl (.inl hv)⟩, ?_⟩
        refine ⟨Hf1, F, ρ1, env, C1, S1, E0.mono e1 p1, ?_⟩
        cases hs : sl env C1 with
        | none =>
          rw [hs] at g1
          exact g1.elim
        | some r =>
          rw [hs] at g1
          cases r with
          | ex c q C2 => exact g1
          | ok zs C2 =>
            refine fun v H2 Hf2 ρ2 e2 p2 f2 => ?_
            simp only [] at g1
            cases hl2 : live (.cel n) C2 with
            | none =>
              rw [hl2] at g1
              exact g1.elim
            | some q =>
              obtain ⟨m, ds2⟩ := q
              obtain ⟨hm, hc2⟩ := live_cell hl2
              cases hm
              rw [hl2] at g1
              simp only [] at g1
              split at g1
              · rename_i nc
                cases f2 with
                | @mk pp ws _ hh hs2 S2 S2' nf =>
                  have e0 : Same Hf2 (upd Hf2 pp (.lst ws)) := fun b u q => by
                    rw [upd_ne (ne_of_none q nf)]
                    exact q
                  have hn2 := pre_get p2 hn
                  obtain ⟨_, k3⟩ := S2.cel n ad _ hn2 hc2
                  obtain ⟨vs2, hv2, hd2⟩ := k3.lst
                  have hd2' : Dats X.K (upd Hf2 pp (.lst ws)) ρ2 (vs2 ++ ws) (ds2 ++ zs) := (hd2.mono (Same.refl _) List.nil_prefix).app (hs2.mono e0 (List.prefix_refl _))
                  have l1 := hd2.len
                  have l2 := hs2.len
                  refine ⟨ad, pp, vs2, ws, rfl, rfl, hv2, hh, by rw [l1, l2]; exact small_ok nc.2, ?_⟩
                  exact g1 .non _ (upd Hf2 pp (.lst ws)) ρ2 (e2.trans e0) p2 (S2.setCel hn2 hc2 (hd2'.bare nc.1)) .non
              · exact g1.elim
    · exact g1.elim⟩
/-! ### zip of two -/
def prs (xs ys : List D) : List D := (xs.zip ys).map fun p => .tup [p.1, p.2]
theorem prs_get {xs ys : List D} {i : Nat} {x y : D} (h1 : xs[i]? = some x) (h2 : ys[i]? = some y) : (prs xs ys)[i]? = some (.tup [x, y]) := by
  unfold prs
  have : (xs.zip ys)[i]? = some (x, y) := by simp [List.getElem?_zip_eq_some, h1, h2]
  rw [List.getElem?_map, this]
  rfl
theorem prs_len (xs ys : List D) : (prs xs ys).length = min xs.length ys.length := by
  unfold prs
  simp
theorem wk_zt {Hf : Hp} {ρ : List Addr} {a b : Addr} {xs ys : List V} {ds es : List D} (hx : SqT K Hf a xs) (hd : Dats K Hf ρ xs ds) (hy : SqT K Hf b ys) (he : Dats K Hf ρ ys es) : Wk K Hf ρ (ItzT K a b) (prs ds es, gd0) := fun i Hf' F' ρ' C' H' e p S0 hg => by
  have hl := hd.len
  have hl2 := he.len
  have hx' : SqT K H' a xs := same_t S0.ex (same_t e hx)
  have hy' : SqT K H' b ys := same_t S0.ex (same_t e hy)
  have hE : ((prs ds es, gd0) : List D × Gd).1.length = min ds.length es.length := prs_len ds es
  refine ⟨fun hi => ?_, fun hi => ⟨xs, ys, hx', hy', by omega⟩⟩
  have hi' : i < xs.length := by omega
  have hi2 : i < ys.length := by omega
  refine ⟨⟨xs, ys, xs[i], ys[i], hx', hy', List.getElem?_eq_getElem hi', List.getElem?_eq_getElem hi2⟩, fun x H2 hyy => ?_⟩
  obtain ⟨T, u, w, rfl, hT, rfl, hu, hw⟩ := hyy
  obtain ⟨d, h1, h2⟩ := (hd.mono e p).getV (hu xs hx')
  obtain ⟨f, h3, h4⟩ := (he.mono e p).getV (hw ys hy')
  obtain ⟨Hf2, e2, S2, D2⟩ := S0.pair hT (.cons h2 (.cons h4 .nil))
  exact ⟨_, Hf2, prs_get h1 h3, e2, S2, D2⟩
theorem wk_zl {Hf : Hp} {ρ : List Addr} {a b : Addr} {ds es : List D} {g g' : Gd} (h : ∀ Hf' F' ρ' C' H', Same Hf Hf' → ρ <+: ρ' → SR K Hf' F' ρ' C' H' → g C' = true → ∃ xs, SqL K H' a xs ∧ Dats K Hf' ρ' xs ds)
    (h' : ∀ Hf' F' ρ' C' H', Same Hf Hf' → ρ <+: ρ' → SR K Hf' F' ρ' C' H' → g' C' = true → ∃ xs, SqL K H' b xs ∧ Dats K Hf' ρ' xs es) : Wk K Hf ρ (Itz K a b) (prs ds es, fun C => g C && g' C) := fun i Hf' F' ρ' C' H' e p S0 hg => by
  have hg2 : g C' = true ∧ g' C' = true := by simpa using hg
  obtain ⟨xs, hx', hd⟩ := h Hf' F' ρ' C' H' e p S0 hg2.1
  obtain ⟨ys, hy', he⟩ := h' Hf' F' ρ' C' H' e p S0 hg2.2
  have hl := hd.len
  have hl2 := he.len
  have hE : ((prs ds es, fun C => g C && g' C) : List D × Gd).1.length = min ds.length es.length := prs_len ds es
  refine ⟨fun hi => ?_, fun hi => ⟨xs, ys, hx', hy', by omega⟩⟩
  have hi' : i < xs.length := by omega
  have hi2 : i < ys.length := by omega
  refine ⟨⟨xs, ys, xs[i], ys[i], hx', hy', List.getElem?_eq_getElem hi', List.getElem?_eq_getElem hi2⟩, fun x H2 hyy => ?_⟩
  obtain ⟨T, u, w, rfl, hT, rfl, hu, hw⟩ := hyy
  obtain ⟨d, h1, h2⟩ := hd.getV (hu xs hx')
  obtain ⟨f, h3, h4⟩ := he.getV (hw ys hy')
  obtain ⟨Hf2, e2, S2, D2⟩ := S0.pair hT (.cons h2 (.cons h4 .nil))
  exact ⟨_, Hf2, prs_get h1 h3, e2, S2, D2⟩
/-- a list, or a changing one -/
def litems (d : D) (C : Cells) : Option (List D × Gd) := match d with
  | .lst ds => some (ds, gd0)
  | .cel n => match C[n]? with
    | some (some (.l ds)) => some (ds, gdC n ds)
    | _ => none
  | _ => none
theorem litems_ok {Hf F : Hp} {ρ : List Addr} {C : Cells} {H : Hp} {v : V} {d : D} {p : List D × Gd} (S0 : SR K Hf F ρ C H) (h : Dat K Hf ρ v d) (hp : litems d C = some p) :
    ∃ a xs, v = .ref a ∧ SqL K H a xs ∧ ∀ Hf' F' ρ' C' H', Same Hf Hf' → ρ <+: ρ' → SR K Hf' F' ρ' C' H' → p.2 C' = true → ∃ xs, SqL K H' a xs ∧ Dats K Hf' ρ' xs p.1 := by
  cases h with
  | @lst a xs ds h hs =>
    have e := Option.some.inj hp
    subst e
    exact ⟨a, xs, rfl, same_l S0.ex h, fun Hf' F' ρ' C' H' e q S2 _ => ⟨xs, same_l S2.ex (same_l e h), hs.mono e q⟩⟩
  | @cel n a h =>
    unfold litems at hp
    simp only [] at hp
    split at hp
    · rename_i ds hc
      have e := Option.some.inj hp
      subst e
      obtain ⟨_, k2⟩ := S0.cel n a _ h hc
      obtain ⟨vs, hv, hd⟩ := k2.lst
      refine ⟨a, vs, rfl, .inl (.inl hv), fun Hf' F' ρ' C' H' e q S2 hg => ?_⟩
      have hg' : gdC n ds C' = true := hg
      unfold gdC at hg'
      split at hg'
      · rename_i es hc'
        have := deqs_eq _ _ hg'
        subst this
        obtain ⟨_, k3⟩ := S2.cel n a _ (pre_get q h) hc'
        obtain ⟨vs', hv', hd'⟩ := k3.lst
        exact ⟨vs', .inl (.inl hv'), hd'.mono (Same.refl _) List.nil_prefix⟩
      · cases hg'
    · cases hp
  | _ => cases hp
def zips (ds : List D) (C : Cells) : Option (List D × Gd) := match ds with
  | [.tup xs, .tup ys] => some (prs xs ys, gd0)
  | [x, y] => match litems x C, litems y C with
    | some p, some q => some (prs p.1 q.1, fun C => p.2 C && q.2 C)
    | _, _ => none
  | _ => none
def iZp (s : S (List D)) : SW := S.bind s fun ds env C => S.opt (zips ds C) env C
theorem si_zip {elts : List Expr} {kk : Nat} {tpos p pos : Pos} {e e2 : Expr} {s : S (List D)} (h : PI X (.Tuple elts kk tpos) (.Call (.Name "zip" p) [e, e2] [] pos) (iZipA X.K (tA X.K X.mg W s))) :
    SI X W (.Tuple elts kk tpos) (.Call (.Name "zip" p) [e, e2] [] pos) (iZp s) := pi_imp h fun σ H R ⟨Hf, F, ρ, env, C, S0, E0, g⟩ =>
  ⟨Hf, F, ρ, env, C, S0, E0, (Go.bind g).mono fun vs H1 ⟨Hf1, ρ1, C1, ds, e1, p1, S1, A1, g1⟩ => by
    obtain ⟨q, hq, g2⟩ := Go.opt g1
    unfold zips at hq
    split at hq
    · rename_i xs ys
      have e := Option.some.inj hq
      subst e
      cases A1 with
      | cons h1 h2 =>
        cases h2 with
        | cons h2 h3 =>
          cases h3
          cases h1 with
          | @tup a us _ ha hus =>
            cases h2 with
            | @tup b ws _ hb hws =>
              exact ⟨a, b, us, ws, rfl, .inr ⟨.inl (.inl (S1.ex _ _ ha)), .inl (.inl (S1.ex _ _ hb)), g2 _ H1 Hf1 ρ1 (Same.refl _) (List.prefix_refl _) S1 (wk_zt (.inl (.inl ha)) hus (.inl (.inl hb)) hws)⟩⟩
    · split at hq
      · rename_i pp qq hp1 hp2
        have e := Option.some.inj hq
        subst e
        cases A1 with
        | cons h1 h2 =>
          cases h2 with
          | cons h2 h3 =>
            cases h3
            obtain ⟨a, us, rfl, ha, ka⟩ := litems_ok S1 h1 hp1
            obtain ⟨b, ws, rfl, hb, kb⟩ := litems_ok S1 h2 hp2
            exact ⟨a, b, us, ws, rfl, .inl ⟨ha, hb, g2 _ H1 Hf1 ρ1 (Same.refl _) (List.prefix_refl _) S1 (wk_zl ka kb)⟩⟩
      · cases hq
    · cases hq⟩
/-! ### x op= e, the slot read first -/
def xAugI (i : Nat) (f : D → D → Option D) (s : S D) : SS := fun e C => match e[i]? with
  | some (some x) => if isErr x = true then none else xDo s (fun y e2 C2 => match x, y with
    | .int a, .int b => (f (.int a) (.int b)).map fun z => RS.nx (e2.set i (some z)) C2
    | _, _ => none) e C
  | _ => none
theorem goAug {i : Nat} {f : D → D → Option D} {s : S D} {ti : TIp} (hf : ∀ (a b : Int) (d : D) (H : Hp) (Q : VK), f (.int a) (.int b) = some d → (∀ v, (∀ Hf ρ, Dat X.K Hf ρ v d) → Q v H) → ti (.int a) (.int b) H Q) {D0 : Ends} {σ : L2.St} {H : Hp} (h : tS X.K X.mg W (xAugI i f s) D0 σ H) : tAug i (tE X.K X.mg W s) ti D0 σ H := by
  obtain ⟨Hf, F, ρ, env, C, S0, E0, g⟩ := h
  unfold xAugI at g
  split at g
  · rename_i x hx
    split at g
    · exact g.elim
    · rename_i hne
      obtain ⟨v, h1, h2⟩ := E0.at_ i x hx (by simpa using hne)
      refine ⟨v, h1, Hf, F, ρ, env, C, S0, E0, (GoS.doit E0 g).mono fun y H1 ⟨Hf1, ρ1, C1, b, e1, p1, S1, B1, g1⟩ => ?_⟩
      cases x with
      | int a =>
        cases h2
        cases b with
        | int b =>
          cases B1
          simp only [] at g1
          cases hz : f (.int a) (.int b) with
          | none =>
            rw [hz] at g1
            exact g1.elim
          | some z =>
            rw [hz] at g1
            exact hf a b z H1 _ hz fun v hv => g1 _ H1 Hf1 ρ1 (Same.refl _) (List.prefix_refl _) S1 ((E0.mono e1 p1).set (hv _ _) i)
        | _ => exact g1.elim
      | _ => cases b <;> exact g1.elim
  · exact g.elim
theorem sc_aug {i : Nat} {x : Str} {e : Expr} {op : Operator} {pos pos' : Pos} {f : D → D → Option D} {s : S D} {ti : TIp} (hf : ∀ (a b : Int) (d : D) (H : Hp) (Q : VK), f (.int a) (.int b) = some d → (∀ v, (∀ Hf ρ, Dat X.K Hf ρ v d) → Q v H) → ti (.int a) (.int b) H Q)
    (h : PS X (.AugAssign (.Name x pos') op e pos) (tAug i (tE X.K X.mg W s) ti)) : SC X W (.AugAssign (.Name x pos') op e pos) (xAugI i f s) := ps_imp h fun D σ H q => goAug hf q
theorem au_add (a b : Int) (d : D) (H : Hp) (Q : VK) (h : dAdd (.int a) (.int b) = some d) (k : ∀ v, (∀ Hf ρ, Dat K Hf ρ v d) → Q v H) : ipI (fun i j => i + j) (.int a) (.int b) H Q := by
  have e := Option.some.inj h
  subst e
  exact ⟨a, b, rfl, rfl, k _ fun _ _ => .int _⟩
theorem au_sub (a b : Int) (d : D) (H : Hp) (Q : VK) (h : dSub (.int a) (.int b) = some d) (k : ∀ v, (∀ Hf ρ, Dat K Hf ρ v d) → Q v H) : ipI (fun i j => i - j) (.int a) (.int b) H Q := by
  have e := Option.some.inj h
  subst e
  exact ⟨a, b, rfl, rfl, k _ fun _ _ => .int _⟩
/-- ints times ints -/
def ipM : TIp := fun x y H Q => ∃ i j, x = .int i ∧ y = .int j ∧ CMulW i j ∧ Q (.int (i * j)) H
theorem ip_mulW : PIp X .Mult ipM := by
  intro pins s σ H x y v u Q I r1 r2 h
  obtain ⟨i, j, e1, e2, hc, q⟩ := h
  subst e1; subst e2
  obtain ⟨t, rfl⟩ := r1
  obtain ⟨t', rfl⟩ := r2
  exact PySem.P.imul_int ⟨.int _, H, I.tok _, ⟨_, rfl⟩, q⟩ hc.ok
theorem au_mul (a b : Int) (d : D) (H : Hp) (Q : VK) (h : dMul (.int a) (.int b) = some d) (k : ∀ v, (∀ Hf ρ, Dat K Hf ρ v d) → Q v H) : ipM (.int a) (.int b) H Q := by
  unfold dMul at h
  simp only [] at h
  split at h
  · rename_i hh
    have e := Option.some.inj h
    subst e
    exact ⟨a, b, rfl, rfl, wide_mul hh.1 hh.2 (by decide) (by decide) (by decide), k _ fun _ _ => .int _⟩
  · cases h
end
end Sm
end
section
set_option maxRecDepth 100000
set_option maxHeartbeats 0
namespace SmX
open PySem PySem.Spec PyProof.Rows L2
/-! ### t * 1, t * 0 -/
theorem mul_self (l : Addr) (items : Array Value) (n : Nat) (dd : Option Addr) (sl : Array (Option Value)) (x : Int) (u : Tok) (c0 : (decide (x < -(2 ^ 63)) || decide (x ≥ 2 ^ 63)) = false) (c1 : (items.isEmpty || x == 1) = true) :
    Meets (Builtin.«tuple.__mul__» ⟨[.ref l, .int x u], []⟩) (fun _ R s => s.heap.get? l = some { cls := .type "tuple", dict := dd, data := .seq items n, slots := sl } ∧ R (.ok (.ret (Value.ref l))) s) :=
  .of_wp fun prog w A R s h => by
    obtain ⟨hp, g, d, tk, os⟩ := s
    obtain ⟨hl, h⟩ := h
    have f1 := AutoSeq1.idx_int
    wp_walk using AutoSeq1.wpAny_loadPart' hl
    repeat (first
      | (refine wpAny_ite_false (decide_eq_false (by rw [c0]; exact Bool.false_ne_true)) ?_; wp_walk using AutoSeq1.wpAny_loadPart' hl)
      | (refine wpAny_ite_true (decide_eq_true (by rw [c1])) ?_; wp_walk using AutoSeq1.wpAny_loadPart' hl))
    exact ⟨_, rfl, h⟩
theorem mul_none (l : Addr) (items : Array Value) (n : Nat) (dd : Option Addr) (sl : Array (Option Value)) (x : Int) (u : Tok) (c0 : (decide (x < -(2 ^ 63)) || decide (x ≥ 2 ^ 63)) = false) (c1 : (items.isEmpty || x == 1) = false) (c2 : (decide (x ≤ 0) || items.isEmpty) = true) :
    Meets (Builtin.«tuple.__mul__» ⟨[.ref l, .int x u], []⟩) (fun _ R s => s.heap.get? l = some { cls := .type "tuple", dict := dd, data := .seq items n, slots := sl } ∧ R (.ok (.ret (Value.ref s.heap.objs.size))) { s with heap := s.heap.push { cls := Value.type "tuple", data := Data.seq #[] }, toks := s.toks }) :=
  .of_wp fun prog w A R s h => by
    obtain ⟨hp, g, d, tk, os⟩ := s
    obtain ⟨hl, h⟩ := h
    have f1 := AutoSeq1.idx_int
    wp_walk using AutoSeq1.wpAny_loadPart' hl
    repeat (first
      | (refine wpAny_ite_false (decide_eq_false (by rw [c0]; exact Bool.false_ne_true)) ?_; wp_walk using AutoSeq1.wpAny_loadPart' hl)
      | (refine wpAny_ite_false (decide_eq_false (by rw [c1]; exact Bool.false_ne_true)) ?_; wp_walk using AutoSeq1.wpAny_loadPart' hl)
      | (refine wpAny_ite_true (decide_eq_true (by rw [c2])) ?_; wp_walk using AutoSeq1.wpAny_loadPart' hl))
    exact ⟨_, rfl, h⟩
end SmX
namespace Sm
variable [Tabs0]
open PySem L2 PySem.Spec PyProof.Rows
variable {K : PySem.W.Frag} {mg : Str → Option Value}
/-- t * 1 is t; t * 0 is () -/
def rRep1 (K : PySem.W.Frag) : R2 := fun x y H Q => ∃ l k xs, x = .ref l ∧ y = .int k ∧ SqT K H l xs ∧ -1000 ≤ k ∧ k ≤ 1000 ∧ (((xs = [] ∨ k = 1) ∧ Q (.ref l) H) ∨ (xs ≠ [] ∧ k ≤ 0 ∧ ∀ p, H p = none → Q (.ref p) (upd H p (.tup []))))
theorem op_rep1 {X : Cx} : OpR X (binaryOp .Mult) (rRep1 X.K) := by
  intro pins s σ H x y v u Q I rx ry h
  obtain ⟨l, k, xs, rfl, rfl, hT, h1, h2, h⟩ := h
  cases rx
  obtain ⟨t, rfl⟩ := ry
  obtain ⟨its, r, ⟨⟨cls, dd, data, sl⟩, ho, hc, n, hd⟩, hs⟩ := I.tuple hT
  simp only at hc hd
  subst hc hd
  have hle : its.length = xs.length := r.length.symm
  have c0 : (decide (k < -(2 ^ 63)) || decide (k ≥ 2 ^ 63)) = false := by
    rw [decide_eq_false (by omega), decide_eq_false (by omega)] <;> rfl
  rcases h with ⟨hh, q⟩ | ⟨hne, hk, q⟩
  · have c1 : (its.toArray.isEmpty || k == 1) = true := by
      rcases hh with e | e
      · have : its = [] := List.eq_nil_of_length_eq_zero (by rw [hle, e]; rfl)
        rw [this]
        rfl
      · rw [e]
        simp
    exact wpAny_binaryOp_repeat_ref (T := "tuple") (U := "int") (by decide) ⟨_, ho, rfl⟩ (fun s' => typeIs_int s' k t) noFill_tuple_mul F.fills_int_mul F.slot_int_rmul repeat_tuple F.slot_int_index.lookup
      (call_meets F.slot_int_rmul (typeIs_int s k t) F.entry_int_rmul (F.args_int_rmul_2 _ _) (int_rmul_tuple k t l its.toArray n dd sl)
        ⟨ho, rfl, ⟨_, ho, rfl⟩, call_meets F.slot_tuple_mul ⟨_, ho, rfl⟩ F.entry_tuple_mul (F.args_tuple_mul_2 _ _) (SmX.mul_self l its.toArray n dd sl k t c0 c1) ⟨ho, .ref l, H, I, rfl, q⟩⟩)
  · have hn : its ≠ [] := fun e => hne (by
      rw [e] at hle
      exact List.eq_nil_of_length_eq_zero hle.symm)
    have hi : its.toArray.isEmpty = false := by
      cases its with
      | nil => exact absurd rfl hn
      | cons a b => rfl
    have c1 : (its.toArray.isEmpty || k == 1) = false := by
      rw [hi, Bool.false_or]
      exact beq_eq_false_iff_ne.mpr (by omega)
    have c2 : (decide (k ≤ 0) || its.toArray.isEmpty) = true := by
      rw [decide_eq_true hk, Bool.true_or]
    refine wpAny_binaryOp_repeat_ref (T := "tuple") (U := "int") (by decide) ⟨_, ho, rfl⟩ (fun s' => typeIs_int s' k t) noFill_tuple_mul F.fills_int_mul F.slot_int_rmul repeat_tuple F.slot_int_index.lookup
      (call_meets F.slot_int_rmul (typeIs_int s k t) F.entry_int_rmul (F.args_int_rmul_2 _ _) (int_rmul_tuple k t l its.toArray n dd sl)
        ⟨ho, rfl, ⟨_, ho, rfl⟩, call_meets F.slot_tuple_mul ⟨_, ho, rfl⟩ F.entry_tuple_mul (F.args_tuple_mul_2 _ _) (SmX.mul_none l its.toArray n dd sl k t c0 c1 c2) ⟨ho, ?_⟩⟩)
    exact ⟨.ref s.heap.objs.size, _, I.laid (a := s.heap.objs.size) (o := .tup []) (t' := s.toks) (fun _ _ q => Heap.get?_push_of_some _ q) (Nat.le_refl _) ⟨Nat.zero_le _, [], .nil, IsTup.new _ _⟩, rfl, q _ I.fresh⟩
/-- ints, or a tuple some times, none and one too -/
def dMulA : D → D → Option D
  | .int a, .int b => dMul (.int a) (.int b)
  | .tup ds, .int b => if -1000 ≤ b ∧ b ≤ 1000 ∧ ds.length ≤ 1000 then some (.tup (List.replicate b.toNat ds).flatten) else none
  | _, _ => none
theorem flat_nil {α : Type} : ∀ n : Nat, (List.replicate n ([] : List α)).flatten = []
  | 0 => rfl
  | n + 1 => by rw [List.replicate_succ, List.flatten_cons, flat_nil n]; rfl
theorem op_dMulA : Op2 K (fun x y H Q => rI CMulW (fun i j => .int (i * j)) x y H Q ∨ rRepT K x y H Q ∨ rRep1 K x y H Q) dMulA := by
  intro Hf F ρ Cs H x y a b d Q S0 ha hb he k
  cases a with
  | int i =>
    cases b with
    | int j =>
      rcases op_dMul Hf F ρ Cs H x y _ _ d Q S0 ha hb he k with h | h
      · exact .inl h
      · exact .inr (.inl h)
    | _ => cases he
  | tup ds =>
    cases b with
    | int j =>
      unfold dMulA at he
      simp only [] at he
      split at he
      · rename_i h
        have e := Option.some.inj he
        subst e
        obtain ⟨a, xs, rfl, hx, hxf, hs⟩ := ha.tup S0.ex
        have hl := hs.len
        by_cases hn : xs = []
        · subst hn
          cases hs
          rw [flat_nil] at k
          exact .inr (.inr ⟨a, j, [], rfl, hb.int, hx, h.1, h.2.1, .inl ⟨.inl rfl, k.here S0 (.tup hxf .nil)⟩⟩)
        · by_cases h1 : j = 1
          · subst h1
            have e1 : (List.replicate (1 : Int).toNat ds).flatten = ds := by simp
            rw [e1] at k
            exact .inr (.inr ⟨a, 1, xs, rfl, hb.int, hx, h.1, h.2.1, .inl ⟨.inr rfl, k.here S0 (.tup hxf hs)⟩⟩)
          · by_cases h0 : j ≤ 0
            · have e1 : (List.replicate j.toNat ds).flatten = [] := by
                rw [show j.toNat = 0 by omega]
                rfl
              rw [e1] at k
              exact .inr (.inr ⟨a, j, xs, rfl, hb.int, hx, h.1, h.2.1, .inr ⟨hn, h0, k.tup S0 .nil⟩⟩)
            · exact .inr (.inl ⟨a, j, xs, rfl, hb.int, hx, hn, by omega, h.2.1, by omega, k.tup S0 (hs.rep _)⟩)
      · cases he
    | _ => cases he
  | _ => cases he
end Sm
end
section
set_option maxRecDepth 100000
set_option maxHeartbeats 0
namespace Sm
variable [Tabs0]
open PySem L2
variable {K : PySem.W.Frag} {mg : Str → Option Value}
/-! ### lists of ints: sum, max, min, sorted -/
def intsOf : List D → Option (List Int)
  | [] => some []
  | .int i :: ds => (intsOf ds).map (i :: ·)
  | _ => none
theorem intsOf_ok {H : Hp} {ρ : List Addr} : ∀ {xs : List V} {ds : List D} {ns : List Int}, Dats K H ρ xs ds → intsOf ds = some ns → xs = ns.map V.int
  | _, _, ns, .nil, h => by
    have e : [] = ns := Option.some.inj h
    subst e
    rfl
  | _, _, ns, .cons (d := d) (ds := ds) h hs, e => by
    cases d with
    | int i =>
      have e' : (intsOf ds).map (i :: ·) = some ns := e
      obtain ⟨ms, h1, h2⟩ := Option.map_eq_some_iff.mp e'
      subst h2
      cases h
      rw [intsOf_ok hs h1]
      rfl
    | _ => cases e
theorem intsOf_map : ∀ ns : List Int, intsOf (ns.map D.int) = some ns
  | [] => rfl
  | n :: ns => by
    show (intsOf (ns.map D.int)).map (n :: ·) = _
    rw [intsOf_map ns]
    rfl
theorem dats_of_ints {H : Hp} {ρ : List Addr} (ns : List Int) : Dats K H ρ (ns.map V.int) (ns.map D.int) := dats_ints ns
def dSumL : List D → Option D
  | [.lst ds] => (intsOf ds).map fun ns => .int ns.sum
  | _ => none
theorem op_dSumL : OpN K (rSum K) dSumL := by
  intro Hf F ρ Cs H xs as d Q S0 ha he k
  unfold dSumL at he
  split at he
  · cases ha with
    | cons h hs =>
      cases hs
      obtain ⟨a, xs, rfl, hx, hd⟩ := h.lst S0.ex
      obtain ⟨ns, h1, h2⟩ := Option.map_eq_some_iff.mp he
      subst h2
      have := intsOf_ok hd h1
      subst this
      exact ⟨a, ns, rfl, hx, k.here S0 (.int _)⟩
  · cases he
def maxI : Int → List Int → Int
  | m, [] => m
  | m, n :: ns => maxI (if m < n then n else m) ns
theorem maxI_ok : ∀ (ns : List Int) (m : Int), (maxI m ns = m ∨ maxI m ns ∈ ns) ∧ m ≤ maxI m ns ∧ ∀ n ∈ ns, n ≤ maxI m ns
  | [], m => ⟨.inl rfl, Int.le_refl _, fun n hn => by cases hn⟩
  | n :: ns, m => by
    obtain ⟨h1, h2, h3⟩ := maxI_ok ns (if m < n then n else m)
    have e : maxI m (n :: ns) = maxI (if m < n then n else m) ns := rfl
    rw [e]
    refine ⟨?_, ?_, fun z hz => ?_⟩
    · rcases h1 with h1 | h1
      · rw [h1]
        split
        · exact .inr List.mem_cons_self
        · exact .inl rfl
      · exact .inr (List.mem_cons_of_mem _ h1)
    · exact Int.le_trans (by split <;> omega) h2
    · rcases List.mem_cons.mp hz with rfl | hz
      · exact Int.le_trans (by split <;> omega) h2
      · exact h3 z hz
def dMaxL : List D → Option D
  | [.lst ds] => match intsOf ds with
    | some (n :: ns) => some (.int (maxI n ns))
    | _ => none
  | _ => none
theorem op_dMaxL : OpN K (rMax K) dMaxL := by
  intro Hf F ρ Cs H xs as d Q S0 ha he k
  unfold dMaxL at he
  split at he
  · split at he
    · rename_i n ns h1
      have e := Option.some.inj he
      subst e
      cases ha with
      | cons h hs =>
        cases hs
        obtain ⟨a, xs, rfl, hx, hd⟩ := h.lst S0.ex
        have := intsOf_ok hd h1
        subst this
        refine ⟨a, n :: ns, rfl, hx, Nat.succ_pos _, fun m hm hall => ?_⟩
        obtain ⟨p1, p2, p3⟩ := maxI_ok ns n
        have e1 : m = maxI n ns := by
          have q1 : m ≤ maxI n ns := by
            rcases List.mem_cons.mp hm with rfl | hm
            · exact p2
            · exact p3 m hm
          have q2 : maxI n ns ≤ m := by
            rcases p1 with p1 | p1
            · rw [p1]
              exact hall n List.mem_cons_self
            · exact hall _ (List.mem_cons_of_mem _ p1)
          omega
        rw [e1]
        exact k.here S0 (.int _)
    · cases he
  · cases he
end Sm
end
section
set_option maxRecDepth 100000
set_option maxHeartbeats 0
namespace Sm
variable [Tabs0]
open PySem L2
variable {K : PySem.W.Frag} {mg : Str → Option Value}
def minI : Int → List Int → Int
  | m, [] => m
  | m, n :: ns => minI (if n < m then n else m) ns
theorem minI_ok : ∀ (ns : List Int) (m : Int), (minI m ns = m ∨ minI m ns ∈ ns) ∧ minI m ns ≤ m ∧ ∀ n ∈ ns, minI m ns ≤ n
  | [], m => ⟨.inl rfl, Int.le_refl _, fun n hn => by cases hn⟩
  | n :: ns, m => by
    obtain ⟨h1, h2, h3⟩ := minI_ok ns (if n < m then n else m)
    have e : minI m (n :: ns) = minI (if n < m then n else m) ns := rfl
    rw [e]
    refine ⟨?_, ?_, fun z hz => ?_⟩
    · rcases h1 with h1 | h1
      · rw [h1]
        split
        · exact .inr List.mem_cons_self
        · exact .inl rfl
      · exact .inr (List.mem_cons_of_mem _ h1)
    · exact Int.le_trans h2 (by split <;> omega)
    · rcases List.mem_cons.mp hz with rfl | hz
      · exact Int.le_trans h2 (by split <;> omega)
      · exact h3 z hz
def dMinL : List D → Option D
  | [.lst ds] => match intsOf ds with
    | some (n :: ns) => some (.int (minI n ns))
    | _ => none
  | _ => none
theorem op_dMinL : OpN K (rMin K) dMinL := by
  intro Hf F ρ Cs H xs as d Q S0 ha he k
  unfold dMinL at he
  split at he
  · split at he
    · rename_i n ns h1
      have e := Option.some.inj he
      subst e
      cases ha with
      | cons h hs =>
        cases hs
        obtain ⟨a, xs, rfl, hx, hd⟩ := h.lst S0.ex
        have := intsOf_ok hd h1
        subst this
        refine ⟨a, n :: ns, rfl, hx, Nat.succ_pos _, fun m hm hall => ?_⟩
        obtain ⟨p1, p2, p3⟩ := minI_ok ns n
        have e1 : m = minI n ns := by
          have q1 : minI n ns ≤ m := by
            rcases List.mem_cons.mp hm with rfl | hm
            · exact p2
            · exact p3 m hm
          have q2 : m ≤ minI n ns := by
            rcases p1 with p1 | p1
            · rw [p1]
              exact hall n List.mem_cons_self
            · exact hall _ (List.mem_cons_of_mem _ p1)
          omega
        rw [e1]
        exact k.here S0 (.int _)
    · cases he
  · cases he
/-! ### sorted(a list of ints) -/
def insI (m : Int) : List Int → List Int
  | [] => [m]
  | n :: ns => if m ≤ n then m :: n :: ns else n :: insI m ns
def sortI : List Int → List Int
  | [] => []
  | n :: ns => insI n (sortI ns)
theorem insI_perm (m : Int) : ∀ ns : List Int, (insI m ns).Perm (m :: ns)
  | [] => List.Perm.refl _
  | n :: ns => by
    unfold insI
    split
    · exact List.Perm.refl _
    · exact ((insI_perm m ns).cons n).trans (List.Perm.swap m n ns)
theorem sortI_perm : ∀ ns : List Int, (sortI ns).Perm ns
  | [] => List.Perm.refl _
  | n :: ns => (insI_perm n (sortI ns)).trans ((sortI_perm ns).cons n)
theorem insI_mem {m z : Int} {ns : List Int} (h : z ∈ insI m ns) : z = m ∨ z ∈ ns := by
  have := (insI_perm m ns).mem_iff.mp h
  exact List.mem_cons.mp this
theorem insI_sorted {m : Int} : ∀ {ns : List Int}, ns.Pairwise (· ≤ ·) → (insI m ns).Pairwise (· ≤ ·)
  | [], _ => List.pairwise_singleton _ _
  | n :: ns, h => by
    obtain ⟨h1, h2⟩ := List.pairwise_cons.mp h
    unfold insI
    split
    · rename_i hle
      exact List.pairwise_cons.mpr ⟨fun z hz => by
        rcases List.mem_cons.mp hz with rfl | hz
        · exact hle
        · exact Int.le_trans hle (h1 z hz), h⟩
    · rename_i hle
      exact List.pairwise_cons.mpr ⟨fun z hz => by
        rcases insI_mem hz with rfl | hz
        · omega
        · exact h1 z hz, insI_sorted h2⟩
theorem sortI_sorted : ∀ ns : List Int, (sortI ns).Pairwise (· ≤ ·)
  | [] => List.Pairwise.nil
  | n :: ns => insI_sorted (sortI_sorted ns)
theorem sorted_uniq : ∀ {xs ys : List Int}, xs.Pairwise (· ≤ ·) → ys.Pairwise (· ≤ ·) → xs.Perm ys → xs = ys
  | [], ys, _, _, h => (List.nil_perm.mp h).symm
  | x :: xs, [], _, _, h => by
    have := h.length_eq
    simp at this
  | x :: xs, y :: ys, hx, hy, h => by
    obtain ⟨x1, x2⟩ := List.pairwise_cons.mp hx
    obtain ⟨y1, y2⟩ := List.pairwise_cons.mp hy
    have e : x = y := by
      have a1 : x ∈ y :: ys := h.mem_iff.mp List.mem_cons_self
      have a2 : y ∈ x :: xs := h.mem_iff.mpr List.mem_cons_self
      have b1 : y ≤ x := by
        rcases List.mem_cons.mp a1 with e | a1
        · omega
        · exact y1 x a1
      have b2 : x ≤ y := by
        rcases List.mem_cons.mp a2 with e | a2
        · omega
        · exact x1 y a2
      omega
    subst e
    rw [sorted_uniq x2 y2 (List.Perm.cons_inv h)]
def srt (ds : List D) : Option (List D) := match ds with
  | [.lst es] => (intsOf es).bind fun ns => if ns.length < 64 then some ((sortI ns).map D.int) else none
  | _ => none
def xSrt (s : S (List D)) : S (List D) := S.bind s fun ds => fun env C => S.opt (srt (ds.map (vw C))) env C
section
variable {X : Cx} {W : Wh}
theorem sl_srt {x : Str} {p pos : Pos} {es : List Expr} {s : S (List D)} (h : PE X (.Call (.Name x p) es [] pos) (tCB (rSorted X.K) (tA X.K X.mg W s))) :
    SL X W (.Call (.Name x p) es [] pos) (xSrt s) := pe_imp h fun σ H Q ⟨Hf, F, ρ, env, C, S0, E0, g⟩ => ⟨Hf, F, ρ, env, C, S0, E0, by
    unfold xSrt S.bind at g
    cases e : s env C with
    | none =>
      rw [e] at g
      exact g
    | some r =>
      rw [e] at g
      cases r with
      | ex c q C' => exact g
      | ok ds C' =>
        refine fun vs H' Hf' ρ' e' p' S' A' => ?_
        have g' : GoL X.K X.mg W σ Hf F ρ (S.opt (srt (ds.map (vw C'))) env C') Q := g
        cases hd : srt (ds.map (vw C')) with
        | none =>
          rw [hd] at g'
          exact g'.elim
        | some es =>
          rw [hd] at g'
          have hv := vws_ok S' A'
          unfold srt at hd
          split at hd
          · rename_i es0 heq
            obtain ⟨ns, h1, h2⟩ := Option.bind_eq_some_iff.mp hd
            split at h2
            · rename_i hlt
              have e0 := Option.some.inj h2
              subst e0
              rw [heq] at hv
              cases hv with
              | cons h hs =>
                cases hs
                obtain ⟨a, xs, rfl, hx, hs⟩ := h.lst S'.ex
                have := intsOf_ok hs h1
                subst this
                refine ⟨a, ns, rfl, hx, hlt, fun ns' l hp hs' hl => ?_⟩
                have en : ns' = sortI ns := sorted_uniq hs' (sortI_sorted ns) (hp.trans (sortI_perm ns).symm)
                subst en
                exact g' (.ref l) _ Hf' ρ' e' p' (fresh_new S' hl (dats_ints _))
            · cases h2
          · cases hd⟩
end
end Sm
end
section
set_option maxRecDepth 100000
set_option maxHeartbeats 0
namespace Sm
variable [Tabs0]
open PySem L2
variable {X : Cx} {W : Wh}
/-! ### xs[::-1] of a list -/
def rvD : D → Option (List D)
  | .lst ds => some ds.reverse
  | _ => none
def xRv (s : S D) : S (List D) := S.bind s fun d => fun env C => S.opt (rvD (vw C d)) env C
theorem Dats.rev {K : PySem.W.Frag} {H : Hp} {ρ : List Addr} : ∀ {xs : List V} {ds : List D}, Dats K H ρ xs ds → Dats K H ρ xs.reverse ds.reverse
  | _, _, .nil => .nil
  | _, _, .cons h hs => by
    rw [List.reverse_cons, List.reverse_cons]
    exact (Dats.rev hs).app (.cons h .nil)
theorem sl_rv {e : Expr} {k : Nat} {p1 p2 p3 pos : Pos} {s : S D} (he : SE X W e s) : SL X W (.Subscript e (.Slice none none (some (.UnaryOp .USub (.Constant (.int 1) k p1) p2)) p3) pos) (xRv s) :=
  pe_imp (pe_revL he) fun σ H Q ⟨Hf, F, ρ, env, C, S0, E0, g⟩ => ⟨Hf, F, ρ, env, C, S0, E0, by
    unfold xRv S.bind at g
    cases e : s env C with
    | none =>
      rw [e] at g
      exact g
    | some r =>
      rw [e] at g
      cases r with
      | ex c q C' => exact g
      | ok d C' =>
        refine fun x H' Hf' ρ' e' p' S' A' => ?_
        have g' : GoL X.K X.mg W σ Hf F ρ (S.opt (rvD (vw C' d)) env C') Q := g
        cases hd : rvD (vw C' d) with
        | none =>
          rw [hd] at g'
          exact g'.elim
        | some es =>
          rw [hd] at g'
          have hv := vw_ok S' A'
          unfold rvD at hd
          split at hd
          · rename_i es0 heq
            have e0 := Option.some.inj hd
            subst e0
            rw [heq] at hv
            obtain ⟨a, xs, rfl, hx, hs⟩ := hv.lst S'.ex
            exact ⟨a, xs, rfl, hx, fun l hl => g' (.ref l) _ Hf' ρ' e' p' (fresh_new S' hl hs.rev)⟩
          · cases hd⟩
end Sm
end
section
set_option maxRecDepth 100000
set_option maxHeartbeats 0
namespace Sm
variable [Tabs0]
open PySem L2
section
variable {X : Cx} {W : Wh}
/-! ### starred arguments -/
def seqD : D → Option (List D)
  | .lst ds => some ds
  | .tup ds => some ds
  | _ => none
def aStar (a : S D) (r : S (List D)) : S (List D) := S.bind a fun x => S.bind (fun env C => S.opt (seqD (vw C x)) env C) fun xs => S.bind r fun ys => S.val (xs ++ ys)
theorem sa_star {e : Expr} {es : List Expr} {p : Pos} {s : S D} {r : S (List D)} (he : SE X W e s) (hr : SA X W es r) (hs : starEach (.Starred e p :: es) X.env = (true, eval e X.env) :: starEach es X.env) : SA X W (.Starred e p :: es) (aStar s r) :=
  pa_imp (StX.pa_star he hr hs) fun σ H Q ⟨Hf, F, ρ, env, C, S0, E0, g⟩ => ⟨Hf, F, ρ, env, C, S0, E0, (Go.bind g).mono fun x H1 ⟨Hf1, ρ1, C1, a, e1, p1, S1, A1, g1⟩ => by
    have hd : ∃ ds, seqD (vw C1 a) = some ds := by
      cases q : seqD (vw C1 a) with
      | some d => exact ⟨d, rfl⟩
      | none =>
        unfold S.bind at g1
        simp only [q, S.opt] at g1
        exact g1.elim
    obtain ⟨ds, hd⟩ := hd
    have hv := vw_ok S1 A1
    have hx : ∃ p xs, x = V.ref p ∧ (SqT X.K H1 p xs ∨ SqL X.K H1 p xs) ∧ Dats X.K Hf1 ρ1 xs ds := by
      cases q : vw C1 a with
      | lst es =>
        rw [q] at hv hd
        have e0 : es = ds := Option.some.inj hd
        subst e0
        obtain ⟨b, xs, rfl, hx, hs⟩ := hv.lst S1.ex
        exact ⟨b, xs, rfl, .inr hx, hs⟩
      | tup es =>
        rw [q] at hv hd
        have e0 : es = ds := Option.some.inj hd
        subst e0
        obtain ⟨b, xs, rfl, hx, _, hs⟩ := hv.tup S1.ex
        exact ⟨b, xs, rfl, .inl hx, hs⟩
      | _ => rw [q] at hd; cases hd
    obtain ⟨b, xs, rfl, hx, hs⟩ := hx
    have g2 : Go X.K X.mg W (Dats X.K) σ Hf1 F ρ1 (S.bind r (fun ys => S.val (ds ++ ys)) env C1) Q := by
      have h := g1
      unfold S.bind at h
      simp only [hd, S.opt] at h
      exact h
    exact ⟨b, xs, rfl, hx, Hf1, F, ρ1, env, C1, S1, E0.mono e1 p1, (Go.bind g2).mono fun ys H2 ⟨Hf2, ρ2, C2, as, e2, p2, S2, A2, g3⟩ => Go.val g3 S2 ((hs.mono e2 p2).app A2)⟩⟩
/-! ### range(i, j, -1) -/
def zsD (i : Int) (n : Nat) : List D := (List.range n).map fun k => D.int (i - (k : Nat))
theorem zsD_len (lo : Int) (n : Nat) : (zsD lo n).length = n := by
  unfold zsD
  rw [List.length_map, List.length_range]
theorem zsD_get {lo : Int} {n i : Nat} (h : i < n) : (zsD lo n)[i]? = some (.int (lo - (i : Nat))) := by
  unfold zsD
  rw [List.getElem?_map, List.getElem?_range h]
  rfl
theorem wk_rd {K : PySem.W.Frag} {Hf : Hp} {ρ : List Addr} {lo : Int} {n : Nat} : Wk K Hf ρ (Itc lo (-1) n) (zsD lo n, gd0) := fun i Hf' F' ρ' C' H' e p S0 hg => by
  have hl : ((zsD lo n, gd0) : List D × Gd).1.length = n := zsD_len lo n
  refine ⟨fun hi => ⟨show i < n by omega, fun x H2 hy => ?_⟩, fun hi => show n ≤ i by omega⟩
  obtain ⟨e2, hy⟩ := hy
  subst e2
  subst hy
  have e3 : lo + (i : Nat) * (-1 : Int) = lo - (i : Nat) := by omega
  rw [e3]
  exact ⟨_, Hf', zsD_get (by omega), Same.refl _, S0, .int _⟩
def rng3 (ds : List D) : Option (List D × Gd) := match ds with
  | [.int i, .int j, .int c] => if c = -1 ∧ inRng i = true ∧ inRng j = true then some (zsD i (i - j).toNat, gd0) else none
  | _ => none
def iR3 (s : S (List D)) : SW := S.bind s fun ds => S.opt (rng3 ds)
theorem si_r3 {tg a b c : Expr} {p pos : Pos} {s : S (List D)} (h : PI X tg (.Call (.Name "range" p) [a, b, c] [] pos) (iRng3 (tA X.K X.mg W s))) : SI X W tg (.Call (.Name "range" p) [a, b, c] [] pos) (iR3 s) := pi_imp h fun σ H R ⟨Hf, F, ρ, env, C, S0, E0, g⟩ =>
  ⟨Hf, F, ρ, env, C, S0, E0, (Go.bind g).mono fun vs H1 ⟨Hf1, ρ1, C1, ds, e1, p1, S1, A1, g1⟩ => by
    obtain ⟨q, hq, g2⟩ := Go.opt g1
    unfold rng3 at hq
    split at hq
    · rename_i i j c
      split at hq
      · rename_i hj
        have e := Option.some.inj hq
        subst e
        obtain ⟨rfl, hi, hj⟩ := hj
        have hi := inRng_iff.mp hi
        have hj := inRng_iff.mp hj
        cases A1 with
        | cons h1 h2 =>
          cases h1
          cases h2 with
          | cons h3 h4 =>
            cases h3
            cases h4 with
            | cons h5 h6 =>
              cases h5
              cases h6
              exact ⟨i, j, -1, (i - j).toNat, rfl, RgC.neg hi.1 hi.2 hj.1 hj.2, g2 _ H1 Hf1 ρ1 (Same.refl _) (List.prefix_refl _) S1 wk_rd⟩
      · cases hq
    · cases hq⟩
end
/-! ### max(xs, default=d), min(xs, default=d) -/
open PySem.W in
theorem maxOf_int : ∀ (ns : List Int) (m : Int), (maxOf m ns = m ∨ maxOf m ns ∈ ns) ∧ m ≤ maxOf m ns ∧ ∀ n ∈ ns, n ≤ maxOf m ns
  | [], m => ⟨.inl rfl, Int.le_refl _, fun n hn => by cases hn⟩
  | n :: ns, m => by
    obtain ⟨h1, h2, h3⟩ := maxOf_int ns (if DatumOrd.lt m n = true then n else m)
    have e : maxOf m (n :: ns) = maxOf (if DatumOrd.lt m n = true then n else m) ns := rfl
    have hl : DatumOrd.lt m n = decide (m < n) := rfl
    rw [e]
    rw [hl] at h1 h2 h3 ⊢
    by_cases q : m < n
    · simp only [q, decide_true, if_true] at h1 h2 h3 ⊢
      refine ⟨.inr ?_, by omega, fun z hz => ?_⟩
      · rcases h1 with h1 | h1
        · rw [h1]; exact List.mem_cons_self
        · exact List.mem_cons_of_mem _ h1
      · rcases List.mem_cons.mp hz with rfl | hz
        · exact h2
        · exact h3 z hz
    · simp only [q, decide_false, Bool.false_eq_true, if_false] at h1 h2 h3 ⊢
      refine ⟨?_, h2, fun z hz => ?_⟩
      · rcases h1 with h1 | h1
        · exact .inl h1
        · exact .inr (List.mem_cons_of_mem _ h1)
      · rcases List.mem_cons.mp hz with rfl | hz
        · omega
        · exact h3 z hz
def rMaxDf (K : PySem.W.Frag) : List V → List V → Hp → VK → Prop := fun vs zs H Q => ∃ (a : Addr) (ns : List Int) (z : V), vs = [V.ref a] ∧ zs = [z] ∧ (SqL K H a (ns.map V.int) ∨ SqT K H a (ns.map V.int)) ∧ (ns = [] → Q z H) ∧ ∀ m, m ∈ ns → (∀ y ∈ ns, y ≤ m) → Q (.int m) H
open PySem.W in
theorem cr_maxDf {X : Cx} (hc : X.calm = true) (hu : X.A.units + 65 < PySem.cLine) : CallRK X (.builtin "max") [Str.ofString "default"] (rMaxDf X.K) := by
  intro pins s σ H vs zs us ws Q I r rz h
  obtain ⟨a, ns, z, rfl, rfl, hs, q0, q⟩ := h
  obtain rfl := Vals.ref1 r
  obtain ⟨w1, rfl, e1⟩ := vals1 rz
  have hd : X.A.units + 1 + Datum.depth Int < PySem.cLine := by
    have : Datum.depth Int = 0 := rfl
    omega
  have key : ∀ (y : Int) (ys : List Int) (v : Value) (h' : Heap) (tk : Nat), ns = y :: ys → Holds h' v (maxOf y ys) → (∀ b o, s.heap.get? b = some o → h'.get? b = some o) → EP X pins σ Q v { s with heap := h', toks := tk } := fun y ys v h' tk e hv hk => by
    subst e
    obtain ⟨m1, m2, m3⟩ := maxOf_int ys y
    obtain ⟨t, rfl⟩ : ∃ t, v = .int (maxOf y ys) t := by
      obtain ⟨as, hr⟩ := hv
      cases hr
      exact ⟨_, rfl⟩
    refine ⟨.int _, H, I.kept hk, ⟨t, rfl⟩, q _ ?_ fun n hn => ?_⟩
    · rcases m1 with m1 | m1
      · rw [m1]; exact List.mem_cons_self
      · exact List.mem_cons_of_mem _ m1
    · rcases List.mem_cons.mp hn with rfl | hn
      · exact m2
      · exact m3 n hn
  rcases hs with hs | hs
  · obtain ⟨its, rv, hl, _⟩ := I.list hs
    exact max_list_datum_default (xs := ns) (I.ok.hd hc) hl.isList (HoldAll.of_ints rv.ints) hd (fun e h' tk hk => ⟨z, H, I.kept hk, e1, q0 e⟩) fun y ys i v h' tk e _ hv hk => key y ys v h' tk e hv hk
  · obtain ⟨its, rv, hl, _⟩ := I.tuple hs
    exact max_tuple_datum_default (xs := ns) (I.ok.hd hc) hl (HoldAll.of_ints rv.ints) hd (fun e h' tk hk => ⟨z, H, I.kept hk, e1, q0 e⟩) fun y ys i v h' tk e _ hv hk => key y ys v h' tk e hv hk
def maxD0 (z : D) : List Int → D
  | [] => z
  | n :: ns => .int (maxI n ns)
def dMaxDf : List D → List D → Option D
  | [.lst ds], [z] => (intsOf ds).map (maxD0 z)
  | [.tup ds], [z] => (intsOf ds).map (maxD0 z)
  | _, _ => none
def xNK (f : List D → List D → Option D) (a z : S (List D)) : S D := S.bind a fun xs => S.bind z fun zs => fun env C => S.opt (f (xs.map (vw C)) zs) env C
theorem pk_imp {X : Cx} {kws : List Keyword} {t u : TA} (h : PK X kws t) (k : ∀ σ H Q, u σ H Q → t σ H Q) : PK X kws u := ⟨fun pos pins s σ H Q I q => h.run pos pins s σ H Q I (k σ H Q q)⟩
def SK (X : Cx) (W : Wh) (kws : List Keyword) (s : S (List D)) : Prop := PK X kws (tA X.K X.mg W s)
theorem sk_nil {X : Cx} {W : Wh} : SK X W [] aNil := pk_imp pk_nil fun σ H Q ⟨Hf, F, ρ, env, C, S0, E0, g⟩ => Go.val g S0 .nil
theorem sk_cons {X : Cx} {W : Wh} {nm : Option Str} {e : Expr} {kpos : Pos} {kws : List Keyword} {s : S D} {r : S (List D)} (he : SE X W e s) (hr : SK X W kws r) : SK X W (⟨nm, e, kpos⟩ :: kws) (aCons s r) :=
  pk_imp (pk_cons he hr) fun σ H Q ⟨Hf, F, ρ, env, C, S0, E0, g⟩ => ⟨Hf, F, ρ, env, C, S0, E0, (Go.bind g).mono fun x H1 ⟨Hf1, ρ1, C1, a, e1, p1, S1, A1, g1⟩ =>
    ⟨Hf1, F, ρ1, env, C1, S1, E0.mono e1 p1, (Go.bind g1).mono fun xs H2 ⟨Hf2, ρ2, C2, as, e2, p2, S2, A2, g2⟩ => Go.val g2 S2 (.cons (A1.mono e2 p2) A2)⟩⟩
/-- a built-in with keywords, by its values -/
def OpNK (K : PySem.W.Frag) (r : List V → List V → Hp → VK → Prop) (f : List D → List D → Option D) : Prop := ∀ (Hf F : Hp) (ρ : List Addr) (C : Cells) (H : Hp) (xs zs : List V) (as bs : List D) (d : D) (Q : VK), SR K Hf F ρ C H → Vws K H Hf ρ xs as → Dats K Hf ρ zs bs → f as bs = some d → Ans K Hf F ρ C d Q → r xs zs H Q
theorem se_bik {X : Cx} {W : Wh} {e : Expr} {r : List V → List V → Hp → VK → Prop} {f : List D → List D → Option D} {s z : S (List D)} (hf : OpNK X.K r f) (h : PE X e (tCKw r (tA X.K X.mg W s) (tA X.K X.mg W z))) : SE X W e (xNK f s z) :=
  pe_imp h fun σ H Q ⟨Hf, F, ρ, env, C, S0, E0, g⟩ => ⟨Hf, F, ρ, env, C, S0, E0, (Go.bind g).mono fun xs H1 ⟨Hf1, ρ1, C1, as, e1, p1, S1, A1, g1⟩ =>
    ⟨Hf1, F, ρ1, env, C1, S1, E0.mono e1 p1, (Go.bind g1).mono fun zs H2 ⟨Hf2, ρ2, C2, bs, e2, p2, S2, A2, g2⟩ => by
      obtain ⟨d, hd, g3⟩ := Go.opt g2
      exact hf Hf2 F ρ2 C2 H2 xs zs _ bs d Q S2 (vws_ok S2 (A1.mono e2 p2)) A2 hd fun v H' Hf' ρ' e3 p3 S3 D3 => g3 v H' Hf' ρ' e3 p3 S3 D3⟩⟩
theorem maxI_in {n m : Int} {ns : List Int} (h1 : m ∈ n :: ns) (h2 : ∀ y ∈ n :: ns, y ≤ m) : m = maxI n ns := by
  obtain ⟨a1, a2, a3⟩ := maxI_ok ns n
  have b1 : maxI n ns ≤ m := by
    rcases a1 with a1 | a1
    · rw [a1]; exact h2 n List.mem_cons_self
    · exact h2 _ (List.mem_cons_of_mem _ a1)
  have b2 : m ≤ maxI n ns := by
    rcases List.mem_cons.mp h1 with rfl | h1
    · exact a2
    · exact a3 m h1
  omega
theorem op_dMaxDf {K : PySem.W.Frag} : OpNK K (rMaxDf K) dMaxDf := by
  intro Hf F ρ Cs H xs zs as bs d Q S0 ha hb he k
  have fin : ∀ (a : Addr) (ns : List Int) (z : V) (zd : D), Dat K Hf ρ z zd → (SqL K H a (ns.map V.int) ∨ SqT K H a (ns.map V.int)) → maxD0 zd ns = d → rMaxDf K [V.ref a] [z] H Q := fun a ns z zd hz hs e => by
    refine ⟨a, ns, z, rfl, rfl, hs, fun e0 => ?_, fun m m1 m2 => ?_⟩
    · subst e0
      have e : zd = d := e
      subst e
      exact k.here S0 hz
    · cases ns with
      | nil => cases m1
      | cons n ns =>
        have e : D.int (maxI n ns) = d := e
        rw [maxI_in m1 m2]
        subst e
        exact k.here S0 (.int _)
  unfold dMaxDf at he
  split at he
  · obtain ⟨ns, h1, h2⟩ := Option.map_eq_some_iff.mp he
    cases ha with
    | cons h hs =>
      cases hs
      obtain ⟨a, ys, rfl, hx, hd⟩ := h.lst S0.ex
      have := intsOf_ok hd h1
      subst this
      cases hb with
      | cons hz hb =>
        cases hb
        exact fin a ns _ _ hz (.inl hx) h2
  · obtain ⟨ns, h1, h2⟩ := Option.map_eq_some_iff.mp he
    cases ha with
    | cons h hs =>
      cases hs
      obtain ⟨a, ys, rfl, hx, _, hd⟩ := h.tup S0.ex
      have := intsOf_ok hd h1
      subst this
      cases hb with
      | cons hz hb =>
        cases hb
        exact fin a ns _ _ hz (.inr hx) h2
  · cases he
end Sm
end
section
set_option maxRecDepth 100000
set_option maxHeartbeats 0
namespace Sm
variable [Tabs0]
open PySem L2 RZ
variable {K : PySem.W.Frag} {mg : Str → Option Value}
/-! ### a in a tuple of ints -/
def rInT (K : PySem.W.Frag) : R2 := fun x y H Q => ∃ (i : Int) (a : Addr) (ns : List Int), x = V.int i ∧ y = V.ref a ∧ SqT K H a (ns.map V.int) ∧ Q (.bl (decide (i ∈ ns))) H
def rNotInT (K : PySem.W.Frag) : R2 := fun x y H Q => ∃ (i : Int) (a : Addr) (ns : List Int), x = V.int i ∧ y = V.ref a ∧ SqT K H a (ns.map V.int) ∧ Q (.bl (decide (i ∉ ns))) H
section
variable {X : Cx}
open PySem.W PySem.SeqAt in
theorem op_inT (hu : X.A.units + 65 < PySem.cLine) : OpR X (compareOp .In) (rInT X.K) := by
  intro pins s σ H x y v u Q I rx ry h
  obtain ⟨i, a, ns, rfl, rfl, hs, q⟩ := h
  obtain ⟨t, rfl⟩ := rx
  obtain rfl : u = Value.ref a := ry
  obtain ⟨its, rv, hl, _⟩ := I.tuple hs
  refine in_tuple_datum (xs := ns) (x := i) hl (HoldAll.of_ints rv.ints) (holds_int i t) ?_ ⟨.bl _, H, I, rfl, q⟩
  have : Datum.depth Int = 0 := rfl
  omega
open PySem.W PySem.SeqAt in
theorem op_notInT (hu : X.A.units + 65 < PySem.cLine) : OpR X (compareOp .NotIn) (rNotInT X.K) := by
  intro pins s σ H x y v u Q I rx ry h
  obtain ⟨i, a, ns, rfl, rfl, hs, q⟩ := h
  obtain ⟨t, rfl⟩ := rx
  obtain rfl : u = Value.ref a := ry
  obtain ⟨its, rv, hl, _⟩ := I.tuple hs
  refine notIn_tuple_datum (xs := ns) (x := i) hl (HoldAll.of_ints rv.ints) (holds_int i t) ?_ ⟨.bl _, H, I, rfl, q⟩
  have : Datum.depth Int = 0 := rfl
  omega
end
/-- in, over lists of data and tuples of ints -/
def dInA : D → D → Option D := fun a b => match b with
  | .tup ds => match a with
    | .int i => (intsOf ds).map fun ns => .bl (decide (i ∈ ns))
    | _ => none
  | _ => dIn a b
def dNotInA : D → D → Option D := fun a b => match b with
  | .tup ds => match a with
    | .int i => (intsOf ds).map fun ns => .bl (decide (i ∉ ns))
    | _ => none
  | _ => dNotIn a b
theorem op_dInA : Op2 K (fun x y H Q => rInD K x y H Q ∨ rInT K x y H Q) dInA := by
  intro Hf F ρ Cs H x y a b d Q S0 ha hb he k
  by_cases hq : ∃ ds, b = .tup ds
  · obtain ⟨ds, rfl⟩ := hq
    cases a with
    | int i =>
      obtain ⟨ns, h1, h2⟩ := Option.map_eq_some_iff.mp (show (intsOf ds).map (fun ns => D.bl (decide (i ∈ ns))) = some d from he)
      subst h2
      obtain ⟨b, xs, rfl, hx, _, hd⟩ := hb.tup S0.ex
      have := intsOf_ok hd h1
      subst this
      exact .inr ⟨i, b, ns, ha.int, rfl, hx, k.here S0 (.bl _)⟩
    | _ => cases he
  · refine .inl (op_dIn Hf F ρ Cs H x y a b d Q S0 ha hb ?_ k)
    unfold dInA at he
    cases b with
    | tup ds => exact absurd ⟨ds, rfl⟩ hq
    | _ => exact he
theorem op_dNotInA : Op2 K (fun x y H Q => rNotInD K x y H Q ∨ rNotInT K x y H Q) dNotInA := by
  intro Hf F ρ Cs H x y a b d Q S0 ha hb he k
  by_cases hq : ∃ ds, b = .tup ds
  · obtain ⟨ds, rfl⟩ := hq
    cases a with
    | int i =>
      obtain ⟨ns, h1, h2⟩ := Option.map_eq_some_iff.mp (show (intsOf ds).map (fun ns => D.bl (decide (i ∉ ns))) = some d from he)
      subst h2
      obtain ⟨b, xs, rfl, hx, _, hd⟩ := hb.tup S0.ex
      have := intsOf_ok hd h1
      subst this
      exact .inr ⟨i, b, ns, ha.int, rfl, hx, k.here S0 (.bl _)⟩
    | _ => cases he
  · refine .inl (op_dNotIn Hf F ρ Cs H x y a b d Q S0 ha hb ?_ k)
    unfold dNotInA at he
    cases b with
    | tup ds => exact absurd ⟨ds, rfl⟩ hq
    | _ => exact he
/-! ### max, min of a list or a tuple of ints, not empty -/
def rMaxA (K : PySem.W.Frag) : List V → Hp → VK → Prop := fun vs H Q => ∃ (a : Addr) (ns : List Int), vs = [V.ref a] ∧ (SqL K H a (ns.map V.int) ∨ SqT K H a (ns.map V.int)) ∧ 0 < ns.length ∧ ∀ m, m ∈ ns → (∀ y, y ∈ ns → y ≤ m) → Q (.int m) H
open PySem.W in
theorem cr_maxA {X : Cx} (hc : X.calm = true) (hu : X.A.units + 65 < PySem.cLine) : CallR X (.builtin "max") (rMaxA X.K) := by
  intro pins s σ H vs us Q I r h
  obtain ⟨a, ns, rfl, hs, hne, q⟩ := h
  rcases hs with hs | hs
  · exact cr_max hc pins s σ H _ us Q I r ⟨a, ns, rfl, hs, hne, q⟩
  · obtain rfl := Vals.ref1 r
    cases ns with
    | nil => exact absurd hne (Nat.lt_irrefl 0)
    | cons y ys =>
      have hd : X.A.units + 1 + Datum.depth Int < PySem.cLine := by
        have : Datum.depth Int = 0 := rfl
        omega
      obtain ⟨its, rv, hl, _⟩ := I.tuple hs
      refine max_tuple_datum (x := y) (xs := ys) (I.ok.hd hc) hl (HoldAll.of_ints rv.ints) hd fun i v h' tk _ hv hk => ?_
      obtain ⟨m1, m2, m3⟩ := maxOf_int ys y
      obtain ⟨t, rfl⟩ : ∃ t, v = .int (maxOf y ys) t := by
        obtain ⟨as, hr⟩ := hv
        cases hr
        exact ⟨_, rfl⟩
      refine ⟨.int _, H, I.kept hk, ⟨t, rfl⟩, q _ ?_ fun n hn => ?_⟩
      · rcases m1 with m1 | m1
        · rw [m1]; exact List.mem_cons_self
        · exact List.mem_cons_of_mem _ m1
      · rcases List.mem_cons.mp hn with rfl | hn
        · exact m2
        · exact m3 n hn
def maxL : List Int → Option D
  | [] => none
  | n :: ns => some (.int (maxI n ns))
def dMaxA : List D → Option D
  | [.lst ds] => (intsOf ds).bind maxL
  | [.tup ds] => (intsOf ds).bind maxL
  | _ => none
theorem op_dMaxA : OpN K (rMaxA K) dMaxA := by
  intro Hf F ρ Cs H xs as d Q S0 ha he k
  have fin : ∀ (a : Addr) (ns : List Int), (SqL K H a (ns.map V.int) ∨ SqT K H a (ns.map V.int)) → maxL ns = some d → rMaxA K [V.ref a] H Q := fun a ns hs e => by
    cases ns with
    | nil => cases e
    | cons n ns =>
      have e := Option.some.inj e
      subst e
      exact ⟨a, n :: ns, rfl, hs, by simp, fun m m1 m2 => by rw [maxI_in m1 m2]; exact k.here S0 (.int _)⟩
  unfold dMaxA at he
  split at he
  · obtain ⟨ns, h1, h2⟩ := Option.bind_eq_some_iff.mp he
    cases ha with
    | cons h hs =>
      cases hs
      obtain ⟨a, ys, rfl, hx, hd⟩ := h.lst S0.ex
      have := intsOf_ok hd h1
      subst this
      exact fin a ns (.inl hx) h2
  · obtain ⟨ns, h1, h2⟩ := Option.bind_eq_some_iff.mp he
    cases ha with
    | cons h hs =>
      cases hs
      obtain ⟨a, ys, rfl, hx, _, hd⟩ := h.tup S0.ex
      have := intsOf_ok hd h1
      subst this
      exact fin a ns (.inr hx) h2
  · cases he
end Sm
end
section
set_option maxRecDepth 100000
set_option maxHeartbeats 0
namespace Sm
variable [Tabs0]
open PySem L2 RZ
variable {K : PySem.W.Frag} {mg : Str → Option Value}
/-! ### sum(xs), min(xs), of lists and tuples of ints -/
def rSumA (K : PySem.W.Frag) : List V → Hp → VK → Prop := fun vs H Q => ∃ (a : Addr) (ns : List Int), vs = [V.ref a] ∧ (SqL K H a (ns.map V.int) ∨ SqT K H a (ns.map V.int)) ∧ Q (.int ns.sum) H
open PySem.W PyProof.Rows in
theorem cr_sumA {X : Cx} (hc : X.calm = true) : CallR X (.builtin "sum") (rSumA X.K) := by
  intro pins s σ H vs us Q I r h
  obtain ⟨a, ns, rfl, hs, q⟩ := h
  rcases hs with hs | hs
  · exact cr_sum hc pins s σ H _ us Q I r ⟨a, ns, rfl, hs, q⟩
  · obtain rfl := Vals.ref1 r
    obtain ⟨its, rv, hl, _⟩ := I.tuple hs
    obtain ⟨xs, hx⟩ := rv.ints.allInts.items
    have hn : numsOf its.toArray.toList = ns := by rw [show its.toArray.toList = its from rfl, rv.ints.numsOf]
    rw [hx] at hl hn
    rw [nums_intItems] at hn
    refine ktm_sumG (I.ok.hd hc) hl fun h' tk t' hk => ?_
    rw [preSum_eq, List.take_of_length_le (by simp), hn]
    exact ⟨.int _, H, I.kept hk, ⟨_, rfl⟩, q⟩
def dSumA : List D → Option D
  | [.lst ds] => (intsOf ds).map fun ns => .int ns.sum
  | [.tup ds] => (intsOf ds).map fun ns => .int ns.sum
  | _ => none
theorem op_dSumA : OpN K (rSumA K) dSumA := by
  intro Hf F ρ Cs H xs as d Q S0 ha he k
  unfold dSumA at he
  split at he
  · cases ha with
    | cons h hs =>
      cases hs
      obtain ⟨a, xs, rfl, hx, hd⟩ := h.lst S0.ex
      obtain ⟨ns, h1, h2⟩ := Option.map_eq_some_iff.mp he
      subst h2
      have := intsOf_ok hd h1
      subst this
      exact ⟨a, ns, rfl, .inl hx, k.here S0 (.int _)⟩
  · cases ha with
    | cons h hs =>
      cases hs
      obtain ⟨a, xs, rfl, hx, _, hd⟩ := h.tup S0.ex
      obtain ⟨ns, h1, h2⟩ := Option.map_eq_some_iff.mp he
      subst h2
      have := intsOf_ok hd h1
      subst this
      exact ⟨a, ns, rfl, .inr hx, k.here S0 (.int _)⟩
  · cases he
end Sm
end
section
set_option maxRecDepth 100000
set_option maxHeartbeats 0
namespace Sm
variable [Tabs0]
open PySem L2
section
variable {X : Cx} {W : Wh}
/-! ### list(range(n)) -/
def lrD : D → Option (List D)
  | .int n => if n ≤ 1000000 ∧ -1000000 ≤ n then some (zs 0 n.toNat) else none
  | _ => none
def xLr (s : S D) : S (List D) := S.bind s fun d => fun env C => S.opt (lrD d) env C
theorem rgV_zs {K : PySem.W.Frag} {H : Hp} {ρ : List Addr} (n : Int) : Dats K H ρ (rgV 0 n) (zs 0 n.toNat) := by
  unfold rgV zs
  rw [Int.sub_zero]
  generalize List.range n.toNat = l
  induction l with
  | nil => exact .nil
  | cons a r ih => exact .cons (.int _) ih
theorem sl_lr {e : Expr} {p1 p2 pos1 pos : Pos} {s : S D} (h : PE X (.Call (.Name "list" p1) [.Call (.Name "range" p2) [e] [] pos1] [] pos) (tLstRg (tRg1 (tE X.K X.mg W s)))) :
    SL X W (.Call (.Name "list" p1) [.Call (.Name "range" p2) [e] [] pos1] [] pos) (xLr s) :=
  pe_imp h fun σ H Q ⟨Hf, F, ρ, env, C, S0, E0, g⟩ => ⟨Hf, F, ρ, env, C, S0, E0, by
    unfold xLr S.bind at g
    cases e : s env C with
    | none =>
      rw [e] at g
      exact g
    | some r =>
      rw [e] at g
      cases r with
      | ex c q C' => exact g
      | ok d C' =>
        refine fun x H' Hf' ρ' e' p' S' A' => ?_
        have g' : GoL X.K X.mg W σ Hf F ρ (S.opt (lrD d) env C') Q := g
        cases hd : lrD d with
        | none =>
          rw [hd] at g'
          exact g'.elim
        | some es =>
          rw [hd] at g'
          cases d with
          | int n =>
            cases A'
            have hd : (if n ≤ 1000000 ∧ -1000000 ≤ n then some (zs 0 n.toNat) else none) = some es := hd
            split at hd
            · rename_i hn
              have e0 := Option.some.inj hd
              subst e0
              exact ⟨n, rfl, ⟨by omega, by omega, by omega, by omega, by omega⟩, fun l hl => g' (.ref l) _ Hf' ρ' e' p' (fresh_new S' hl (rgV_zs n))⟩
            · cases hd
          | _ => cases hd⟩
/-! ### xs[i], ys[j] = a, b -/
def setAt (so si : S D) (v : D) : SS := xDo so fun o => xDo si fun i => fun e C => match o, i with
  | .cel n, .int k => match C[n]? with
    | some (some (.l ds)) => match ixN ds.length k with
      | some j => if nocel v = true then some (.nx e (C.set n (some (.l (ds.set j v))))) else none
      | none => none
    | _ => none
  | _, _ => none
theorem goSetAt {K : PySem.W.Frag} {mg : Str → Option Value} {Hf F : Hp} {ρ : List Addr} {σ : L2.St} {env : Env} {C : Cells} {H : Hp} {so si : S D} {v : V} {dv : D} {D0 : Ends} {Q : L2.St → Hp → Prop} (E0 : EnvR K mg W.xc Hf ρ σ env) (S0 : SR K Hf F ρ C H) (A1 : Dat K Hf ρ v dv)
    (g : GoS K mg W Hf F ρ (setAt so si dv env C) D0) (hQ : ∀ σ H, D0.nx σ H → Q σ H) : gSub (tE K mg W so) (tE K mg W si) rSetL v σ H Q :=
  ⟨Hf, F, ρ, env, C, S0, E0, (GoS.doit E0 g).mono fun x H2 ⟨Hf2, ρ2, C2, dx, e2, p2, S2, A2, g2⟩ =>
      ⟨Hf2, F, ρ2, env, C2, S2, E0.mono e2 p2, (GoS.doit (E0.mono e2 p2) g2).mono fun y H3 ⟨Hf3, ρ3, C3, dy, e3, p3, S3, A3, g3⟩ => by
        match dx, dy, A2, A3, g3 with
        | .cel n, .int k, .cel (a := ad) hn, .int _, g3 =>
          cases hc : C3[n]? with
          | none =>
            simp only [hc] at g3
            exact g3.elim
          | some oo =>
            cases oo with
            | none =>
              simp only [hc] at g3
              exact g3.elim
            | some o =>
              cases o with
              | l ds =>
                simp only [hc] at g3
                cases hj : ixN ds.length k with
                | none =>
                  simp only [hj] at g3
                  exact g3.elim
                | some j =>
                  simp only [hj] at g3
                  split at g3
                  · rename_i nc
                    have hn3 := pre_get p3 hn
                    obtain ⟨_, k2⟩ := S3.cel n ad _ hn3 hc
                    obtain ⟨vs, hv, hd⟩ := k2.lst
                    have hvv := (A1.mono (e2.trans e3) (p2.trans p3)).bare nc
                    exact ⟨ad, vs, k, j, rfl, rfl, hv, by rw [hd.len]; exact hj, hQ _ _ (g3 σ _ Hf3 ρ3 (Same.refl _) (List.prefix_refl _) (S3.setCel hn3 hc (hd.set hvv j)) ((E0.mono e2 p2).mono e3 p3))⟩
                  · exact g3.elim
              | t ks ds =>
                simp only [hc] at g3
                exact g3.elim⟩⟩
def xSetI2 (o1 i1 o2 i2 : S D) (sv : S D) : SS := xDo sv fun t => match t with
  | .tup [d1, d2] => fun e C => match setAt o1 i1 d1 e C with
    | some (.nx e' C') => setAt o2 i2 d2 e' C'
    | _ => none
  | _ => fun _ _ => none
theorem sc_seti2 {o1 i1 o2 i2 e : Expr} {pp1 pp2 pt pos : Pos} {kt : Nat} {so1 si1 so2 si2 sv : S D} (h : PS X (.Assign [.Tuple [.Subscript o1 i1 pp1, .Subscript o2 i2 pp2] kt pt] e pos) (tAsg (tE X.K X.mg W sv) (gTup X.K 2 (gCons (gSub (tE X.K X.mg W so1) (tE X.K X.mg W si1) rSetL) (gCons (gSub (tE X.K X.mg W so2) (tE X.K X.mg W si2) rSetL) gNil))))) :
    SC X W (.Assign [.Tuple [.Subscript o1 i1 pp1, .Subscript o2 i2 pp2] kt pt] e pos) (xSetI2 so1 si1 so2 si2 sv) :=
  ps_imp h fun D σ H ⟨Hf, F, ρ, env, C, S0, E0, g⟩ => ⟨Hf, F, ρ, env, C, S0, E0, (GoS.doit E0 g).mono fun v H1 ⟨Hf1, ρ1, C1, dv, e1, p1, S1, A1, g1⟩ => by
    have E1 := E0.mono e1 p1
    have hdv : ∃ d1 d2, dv = .tup [d1, d2] := by
      match dv, g1 with
      | .tup [d1, d2], _ => exact ⟨d1, d2, rfl⟩
      | .tup [], g1 => exact g1.elim
      | .tup [_], g1 => exact g1.elim
      | .tup (_ :: _ :: _ :: _), g1 => exact g1.elim
      | .non, g1 => exact g1.elim
      | .bl _, g1 => exact g1.elim
      | .int _, g1 => exact g1.elim
      | .str _, g1 => exact g1.elim
      | .lst _, g1 => exact g1.elim
      | .cel _, g1 => exact g1.elim
      | .opq _, g1 => exact g1.elim
      | .err _ _ _, g1 => exact g1.elim
      | .dk _ _, g1 => exact g1.elim
      | .dt _ _, g1 => exact g1.elim
    obtain ⟨d1, d2, rfl⟩ := hdv
    have hA : ∃ a x1 x2, v = .ref a ∧ SqT X.K Hf1 a [x1, x2] ∧ Dat X.K Hf1 ρ1 x1 d1 ∧ Dat X.K Hf1 ρ1 x2 d2 := by
      cases A1 with
      | tup h hs =>
        cases hs with
        | cons h1 hs =>
          cases hs with
          | cons h2 hs =>
            cases hs
            exact ⟨_, _, _, rfl, .inl (.inl h), h1, h2⟩
    obtain ⟨a, v1, v2, rfl, hq, B1, B2⟩ := hA
    refine ⟨a, [v1, v2], rfl, same_t S1.ex hq, rfl, v1, [v2], rfl, ?_⟩
    have g2 : GoS X.K X.mg W Hf1 F ρ1 (match setAt so1 si1 d1 env C1 with | some (.nx e' C') => setAt so2 si2 d2 e' C' | _ => none) D := g1
    cases hs : setAt so1 si1 d1 env C1 with
    | none =>
      rw [hs] at g2
      exact g2.elim
    | some r =>
      rw [hs] at g2
      cases r with
      | nx e' C' =>
        have g2 : GoS X.K X.mg W Hf1 F ρ1 (setAt so2 si2 d2 e' C') D := g2
        refine goSetAt (D0 := { D with nx := fun σ H => gCons (gSub (tE X.K X.mg W so2) (tE X.K X.mg W si2) rSetL) gNil [v2] σ H D.nx }) E1 S1 B1 ?_ fun σ H q => q
        rw [hs]
        intro σ' H' Hf' ρ' e p S' E'
        refine ⟨v2, [], rfl, ?_⟩
        exact goSetAt (D0 := D) E' S' (B2.mono e p) (g2.later e p) fun σ H q => ⟨rfl, q⟩
      | _ => exact g2.elim⟩
end
/-! ### min of a list or a tuple of ints, not empty -/
def rMinA (K : PySem.W.Frag) : List V → Hp → VK → Prop := fun vs H Q => ∃ (a : Addr) (ns : List Int), vs = [V.ref a] ∧ (SqL K H a (ns.map V.int) ∨ SqT K H a (ns.map V.int)) ∧ 0 < ns.length ∧ ∀ m, m ∈ ns → (∀ y, y ∈ ns → m ≤ y) → Q (.int m) H
open PySem.W in
theorem minOf_int : ∀ (ns : List Int) (m : Int), (minOf m ns = m ∨ minOf m ns ∈ ns) ∧ minOf m ns ≤ m ∧ ∀ n ∈ ns, minOf m ns ≤ n
  | [], m => ⟨.inl rfl, Int.le_refl _, fun n hn => by cases hn⟩
  | n :: ns, m => by
    obtain ⟨h1, h2, h3⟩ := minOf_int ns (if DatumOrd.lt n m = true then n else m)
    have e : minOf m (n :: ns) = minOf (if DatumOrd.lt n m = true then n else m) ns := rfl
    have hl : DatumOrd.lt n m = decide (n < m) := rfl
    rw [e]
    rw [hl] at h1 h2 h3 ⊢
    by_cases q : n < m
    · simp only [q, decide_true, if_true] at h1 h2 h3 ⊢
      refine ⟨.inr ?_, by omega, fun z hz => ?_⟩
      · rcases h1 with h1 | h1
        · rw [h1]; exact List.mem_cons_self
        · exact List.mem_cons_of_mem _ h1
      · rcases List.mem_cons.mp hz with rfl | hz
        · exact h2
        · exact h3 z hz
    · simp only [q, decide_false, Bool.false_eq_true, if_false] at h1 h2 h3 ⊢
      refine ⟨?_, h2, fun z hz => ?_⟩
      · rcases h1 with h1 | h1
        · exact .inl h1
        · exact .inr (List.mem_cons_of_mem _ h1)
      · rcases List.mem_cons.mp hz with rfl | hz
        · omega
        · exact h3 z hz
open PySem.W in
theorem cr_minA {X : Cx} (hc : X.calm = true) (hu : X.A.units + 65 < PySem.cLine) : CallR X (.builtin "min") (rMinA X.K) := by
  intro pins s σ H vs us Q I r h
  obtain ⟨a, ns, rfl, hs, hne, q⟩ := h
  rcases hs with hs | hs
  · exact cr_min hc pins s σ H _ us Q I r ⟨a, ns, rfl, hs, hne, q⟩
  · obtain rfl := Vals.ref1 r
    cases ns with
    | nil => exact absurd hne (Nat.lt_irrefl 0)
    | cons y ys =>
      have hd : X.A.units + 1 + Datum.depth Int < PySem.cLine := by
        have : Datum.depth Int = 0 := rfl
        omega
      obtain ⟨its, rv, hl, _⟩ := I.tuple hs
      refine min_tuple_datum (x := y) (xs := ys) (I.ok.hd hc) hl (HoldAll.of_ints rv.ints) hd fun i v h' tk _ hv hk => ?_
      obtain ⟨m1, m2, m3⟩ := minOf_int ys y
      obtain ⟨t, rfl⟩ : ∃ t, v = .int (minOf y ys) t := by
        obtain ⟨as, hr⟩ := hv
        cases hr
        exact ⟨_, rfl⟩
      refine ⟨.int _, H, I.kept hk, ⟨t, rfl⟩, q _ ?_ fun n hn => ?_⟩
      · rcases m1 with m1 | m1
        · rw [m1]; exact List.mem_cons_self
        · exact List.mem_cons_of_mem _ m1
      · rcases List.mem_cons.mp hn with rfl | hn
        · exact m2
        · exact m3 n hn
theorem minI_in {n m : Int} {ns : List Int} (h1 : m ∈ n :: ns) (h2 : ∀ y ∈ n :: ns, m ≤ y) : m = minI n ns := by
  obtain ⟨a1, a2, a3⟩ := minI_ok ns n
  have b1 : m ≤ minI n ns := by
    rcases a1 with a1 | a1
    · rw [a1]; exact h2 n List.mem_cons_self
    · exact h2 _ (List.mem_cons_of_mem _ a1)
  have b2 : minI n ns ≤ m := by
    rcases List.mem_cons.mp h1 with rfl | h1
    · exact a2
    · exact a3 m h1
  omega
def minL : List Int → Option D
  | [] => none
  | n :: ns => some (.int (minI n ns))
def dMinA : List D → Option D
  | [.lst ds] => (intsOf ds).bind minL
  | [.tup ds] => (intsOf ds).bind minL
  | _ => none
theorem op_dMinA {K : PySem.W.Frag} : OpN K (rMinA K) dMinA := by
  intro Hf F ρ Cs H xs as d Q S0 ha he k
  have fin : ∀ (a : Addr) (ns : List Int), (SqL K H a (ns.map V.int) ∨ SqT K H a (ns.map V.int)) → minL ns = some d → rMinA K [V.ref a] H Q := fun a ns hs e => by
    cases ns with
    | nil => cases e
    | cons n ns =>
      have e := Option.some.inj e
      subst e
      exact ⟨a, n :: ns, rfl, hs, by simp, fun m m1 m2 => by rw [minI_in m1 m2]; exact k.here S0 (.int _)⟩
  unfold dMinA at he
  split at he
  · obtain ⟨ns, h1, h2⟩ := Option.bind_eq_some_iff.mp he
    cases ha with
    | cons h hs =>
      cases hs
      obtain ⟨a, ys, rfl, hx, hd⟩ := h.lst S0.ex
      have := intsOf_ok hd h1
      subst this
      exact fin a ns (.inl hx) h2
  · obtain ⟨ns, h1, h2⟩ := Option.bind_eq_some_iff.mp he
    cases ha with
    | cons h hs =>
      cases hs
      obtain ⟨a, ys, rfl, hx, _, hd⟩ := h.tup S0.ex
      have := intsOf_ok hd h1
      subst this
      exact fin a ns (.inr hx) h2
  · cases he
/-! ### a, b = a list -/
def gL (u : Tgs) : Tg := ⟨fun d e => match d with
  | .lst ds => u.put ds e
  | _ => none, u.at_⟩
theorem sg_lst {X : Cx} {W : Wh} {es : List Expr} {k : Nat} {pos : Pos} {u : Tgs} {n : Nat} (h : ∀ t, PGs X es t → PG X (.Tuple es k pos) (gLst X.K n t)) (hu : SGs X W es u) (hn : ∀ ds e e', u.put ds e = some e' → ds.length = n) : SG X W (.Tuple es k pos) (gL u) :=
  pg_imp (h _ hu) fun v σ H Q ⟨Hf, F, ρ, env, C, d, S0, E0, D0, env', he, q⟩ => by
    cases D0 with
    | @lst a xs ds h hs =>
      exact ⟨a, xs, rfl, same_l S0.ex h, by rw [hs.len]; exact hn _ _ _ he, Hf, F, ρ, env, C, ds, S0, E0, hs, env', he, q⟩
    | _ => cases he
end Sm
end
section
set_option maxRecDepth 100000
set_option maxHeartbeats 0
namespace SmX
open PySem PySem.Spec PyProof.Rows L2
/-! ### zip of three tuples -/
def Itz3 (K : PySem.W.Frag) (a b c : Addr) (n : Nat) : It :=
  ⟨fun i H => i < n ∧ ∃ xs ys zs : List V, SqT K H a xs ∧ SqT K H b ys ∧ SqT K H c zs ∧ min (min xs.length ys.length) zs.length = n,
    fun i H v H' => ∃ T x y z, v = .ref T ∧ H T = none ∧ H' = upd H T (.tup [x, y, z]) ∧ (∀ xs, SqT K H a xs → xs[i]? = some x) ∧ (∀ ys, SqT K H b ys → ys[i]? = some y) ∧ ∀ zs, SqT K H c zs → zs[i]? = some z,
    fun i H => n ≤ i ∧ ∃ xs ys zs : List V, SqT K H a xs ∧ SqT K H b ys ∧ SqT K H c zs ∧ min (min xs.length ys.length) zs.length = n⟩
abbrev fp3 (z TI TO i1 i2 i3 : Addr) : List Addr := [z, TI, TO, i1, i2, i3]
abbrev tn3 (a b c : Addr) (n : Nat) (z TI TO i1 i2 i3 : Addr) : Nat → Heap → Prop := fun i h => i ≤ n ∧ IsZip h z TI TO .none ∧ IsTupOf3 h TI (.ref i1) (.ref i2) (.ref i3) ∧ (∃ x y u, IsTupOf3 h TO x y u) ∧ h.IsTupleIter i1 a i ∧ h.IsTupleIter i2 b i ∧ h.IsTupleIter i3 c i
theorem turn_zip3 {P : Program} {w : World} {K : PySem.W.Frag} {elts : List Expr} {kk : Nat} {tpos : Pos} {a b c z TI TO i1 i2 i3 : Addr} {n : Nat} (D : ZipSep3 z TI TO i1 i2 i3 [i1, a] [i2, b] [i3, c]) (ha : a ≠ i1) (hb : b ≠ i2) (hc3 : c ≠ i3) :
    Turn P w K (.Tuple elts kk tpos) (Itz3 K a b c n) (fp3 z TI TO i1 i2 i3) z (tn3 a b c n z TI TO i1 i2 i3) where
  mem := by simp
  obj := fun i h st d hd => by
    obtain ⟨_, hz, hTI, ⟨x, y, u, hTO⟩, ⟨o1, e1, _, d1⟩, ⟨o2, e2, _, d2⟩, ⟨o3, e3, _, d3⟩⟩ := st
    have e' : d = z ∨ d = TI ∨ d = TO ∨ d = i1 ∨ d = i2 ∨ d = i3 := by simpa using hd
    rcases e' with q | q | q | q | q | q
    · rw [q]; exact ⟨_, hz, fun v q => nomatch q⟩
    · rw [q]; exact ⟨_, hTI, fun v q => nomatch q⟩
    · rw [q]; exact ⟨_, hTO, fun v q => nomatch q⟩
    · rw [q]; exact ⟨o1, e1, fun v q => by rw [d1] at q; cases q⟩
    · rw [q]; exact ⟨o2, e2, fun v q => by rw [d2] at q; cases q⟩
    · rw [q]; exact ⟨o3, e3, fun v q => by rw [d3] at q; cases q⟩
  keep := fun i h h' st k => by
    obtain ⟨hi, hz, hTI, ⟨x, y, u, hTO⟩, h1, h2, h3⟩ := st
    exact ⟨hi, k z (by simp) _ hz, k TI (by simp) _ hTI, ⟨x, y, u, k TO (by simp) _ hTO⟩, h1.at fun o q => k i1 (by simp) o q, h2.at fun o q => k i2 (by simp) o q, h3.at fun o q => k i3 (by simp) o q⟩
  item := by
    intro X hP hw hK hc i pins s σ H E I hf st hg
    subst hP hw hK
    obtain ⟨_, hz, hTI, hTO, h1, h2, h3⟩ := st
    obtain ⟨hin, xs, ys, zs, hqx, hqy, hqz, hn⟩ := hg
    obtain ⟨its, rv, p, _⟩ := I.tuple hqx
    obtain ⟨its2, rv2, p2, _⟩ := I.tuple hqy
    obtain ⟨its3, rv3, p3, _⟩ := I.tuple hqz
    have l1 := rv.length
    have l2 := rv2.length
    have l3 := rv3.length
    have hh : X.A.in1.handled = none := I.ok.hd hc
    have W := GoesN.zip3 (elts := elts) (x1 := kk) (pos := tpos) D (Draws.tuple hh i1 a ha its.toArray) (Draws.tuple hh i2 b hb its2.toArray) (Draws.tuple hh i3 c hc3 its3.toArray) (prog := X.prog) (w := X.w) (A := X.A)
    have hlt : ∀ d, d ∈ fp3 z TI TO i1 i2 i3 → d < s.heap.objs.size := fun d hd => by
      obtain ⟨x0, y0, u0, hTO⟩ := hTO
      have e' : d = z ∨ d = TI ∨ d = TO ∨ d = i1 ∨ d = i2 ∨ d = i3 := by simpa using hd
      rcases e' with q | q | q | q | q | q
      · rw [q]; exact Heap.lt_size hz
      · rw [q]; exact Heap.lt_size hTI
      · rw [q]; exact Heap.lt_size hTO
      · rw [q]; obtain ⟨_, e1, _⟩ := h1; exact Heap.lt_size e1
      · rw [q]; obtain ⟨_, e1, _⟩ := h2; exact Heap.lt_size e1
      · rw [q]; obtain ⟨_, e1, _⟩ := h3; exact Heap.lt_size e1
    refine W.goes i s _ E (by simp; omega) ⟨hz, hTI, hTO, ⟨h1, p⟩, ⟨h2, p2⟩, ⟨h3, p3⟩⟩ fun v h' tk hY st' hk htk => ?_
    obtain ⟨T, u1, u2, u3, rfl, hT, g1, g2, g3, hTup⟩ := hY
    have g1 : its[i]? = some u1 := by simpa using g1
    have g2 : its2[i]? = some u2 := by simpa using g2
    have g3 : its3[i]? = some u3 := by simpa using g3
    have hx : i < xs.length := by omega
    have hy : i < ys.length := by omega
    have hz' : i < zs.length := by omega
    have r1 : RelV xs[i] u1 := by
      obtain ⟨u, hu, ru⟩ := rv.get (List.getElem?_eq_getElem hx)
      rw [g1] at hu
      exact (Option.some.inj hu) ▸ ru
    have r2 : RelV ys[i] u2 := by
      obtain ⟨u, hu, ru⟩ := rv2.get (List.getElem?_eq_getElem hy)
      rw [g2] at hu
      exact (Option.some.inj hu) ▸ ru
    have r3 : RelV zs[i] u3 := by
      obtain ⟨u, hu, ru⟩ := rv3.get (List.getElem?_eq_getElem hz')
      rw [g3] at hu
      exact (Option.some.inj hu) ▸ ru
    obtain ⟨sz, sTI, sTO, ⟨s1, _⟩, ⟨s2, _⟩, ⟨s3, _⟩⟩ := st'
    have new : ObjOk X.prog X.w (upd H T (.tup [xs[i], ys[i], zs[i]])) h' T (.tup [xs[i], ys[i], zs[i]]) :=
      ⟨by show 3 ≤ sizeLine; decide, [u1, u2, u3], .cons r1 (.cons r2 (.cons r3 .nil)), hTup⟩
    have I1 : Inv X pins σ (upd H T (.tup [xs[i], ys[i], zs[i]])) { s with heap := h', toks := tk } :=
      I.turnedNew (t' := tk) (ch := fp3 z TI TO i1 i2 i3) (fun d o hd q => hk d o (fun z => hd (by simp at z ⊢; rcases z with z | z | z | z | z <;> simp [z])) q) hf hT new
    refine ⟨.ref T, _, I1, rfl, ⟨T, xs[i], ys[i], zs[i], rfl, I.hok.fresh hT, rfl, fun l hl => by rw [I.tuple_inj hl hqx]; exact List.getElem?_eq_getElem hx, fun l hl => by rw [I.tuple_inj hl hqy]; exact List.getElem?_eq_getElem hy, fun l hl => by rw [I.tuple_inj hl hqz]; exact List.getElem?_eq_getElem hz'⟩, ⟨hin, sz, sTI, sTO, s1, s2, s3⟩, fun d hd => ?_⟩
    rw [upd_ne (Nat.ne_of_lt (Nat.lt_of_lt_of_le (hlt d hd) hT))]
    exact (hf d hd).1
  done := by
    intro X hP hw hK hc i pins s σ H E I hf st hg
    subst hP hw hK
    obtain ⟨hi, hz, hTI, hTO, h1, h2, h3⟩ := st
    obtain ⟨hin, xs, ys, zs, hqx, hqy, hqz, hn⟩ := hg
    obtain ⟨its, rv, p, _⟩ := I.tuple hqx
    obtain ⟨its2, rv2, p2, _⟩ := I.tuple hqy
    obtain ⟨its3, rv3, p3, _⟩ := I.tuple hqz
    have l1 := rv.length
    have l2 := rv2.length
    have l3 := rv3.length
    have hh : X.A.in1.handled = none := I.ok.hd hc
    have W := GoesN.zip3 (elts := elts) (x1 := kk) (pos := tpos) D (Draws.tuple hh i1 a ha its.toArray) (Draws.tuple hh i2 b hb its2.toArray) (Draws.tuple hh i3 c hc3 its3.toArray) (prog := X.prog) (w := X.w) (A := X.A)
    have e : i = min (min its.toArray.size its2.toArray.size) its3.toArray.size := by simp; omega
    rw [e] at h1 h2 h3
    exact W.stops s _ E ⟨hz, hTI, hTO, ⟨h1, p⟩, ⟨h2, p2⟩, ⟨h3, p3⟩⟩ fun h' tk hk htk => I.turnedL (t' := tk) (ch := fp3 z TI TO i1 i2 i3) (fun d o hd q => hk d o (fun z => hd (by simp at z ⊢; rcases z with z | z | z | z | z <;> simp [z])) q) hf
  self := fun A i s Q E st h => wpAny_pyIter_zip st.2.1 h
def iZip3 (K : PySem.W.Frag) (ta : TA) : TI := fun σ H R => ta σ H fun vs H1 => ∃ a b c xs ys zs, vs = [.ref a, .ref b, .ref c] ∧ SqT K H1 a xs ∧ SqT K H1 b ys ∧ SqT K H1 c zs ∧ R (Itz3 K a b c (min (min xs.length ys.length) zs.length)) H1
theorem pi_zip3 {X : Cx} {e e2 e3 : Expr} {ta : TA} {p pos tpos : Pos} {elts : List Expr} {kk : Nat} (hg : Gl X "zip") (hm : X.mg "zip" = none) (ha : PA X [e, e2, e3] ta)
    (hs : starEach [e, e2, e3] X.env = (false, eval e X.env) :: starEach [e2, e3] X.env := by rfl) (hpl : (backTo pos (starEach [e2, e3] X.env)).any (·.1) = false := by rfl) :
    PI X (.Tuple elts kk tpos) (.Call (.Name "zip" p) [e, e2, e3] [] pos) (iZip3 X.K ta) := by
  refine ⟨fun pins s σ H R I h => ?_⟩
  refine Call_ (ld_blt I hg hm PyProof.Rows.boot_zip (PyProof.Rows.callWith_type1 (thn (ha.run pos pins s σ H _ I h) fun us s1 ⟨vs, H1, I1, r1, q1⟩ => ?_) hs hpl))
  obtain ⟨a, b, c, xs, ys, zs, ex, hqx, hqy, hqz, q⟩ := q1
  subst ex
  cases r1 with
  | cons r rr =>
    cases rr with
    | cons r' rr =>
      cases rr with
      | cons r'' rr =>
        cases rr
        cases r
        cases r'
        cases r''
        obtain ⟨its, rv, p1, _⟩ := I1.tuple hqx
        obtain ⟨its2, rv2, p2, _⟩ := I1.tuple hqy
        obtain ⟨its3, rv3, p3, _⟩ := I1.tuple hqz
        obtain ⟨o1, ho1, _⟩ := id p1
        obtain ⟨o2, ho2, _⟩ := id p2
        obtain ⟨o3, ho3, _⟩ := id p3
        have b1 := Heap.lt_size ho1
        have b2 := Heap.lt_size ho2
        have b3 := Heap.lt_size ho3
        have fresh6 : ∀ d, d ∈ fp3 (s1.heap.objs.size + 5) (s1.heap.objs.size + 3) (s1.heap.objs.size + 4) s1.heap.objs.size (s1.heap.objs.size + 1) (s1.heap.objs.size + 2) → FpOk X pins H1 d := fun d hd => by
          have hle : s1.heap.objs.size ≤ d := by
            have e' : d = s1.heap.objs.size + 5 ∨ d = s1.heap.objs.size + 3 ∨ d = s1.heap.objs.size + 4 ∨ d = s1.heap.objs.size ∨ d = s1.heap.objs.size + 1 ∨ d = s1.heap.objs.size + 2 := by simpa using hd
            rcases e' with z | z | z | z | z | z
            · rw [z]; exact Nat.le_add_right _ _
            · rw [z]; exact Nat.le_add_right _ _
            · rw [z]; exact Nat.le_add_right _ _
            · rw [z]; exact Nat.le_refl _
            · rw [z]; exact Nat.le_add_right _ _
            · rw [z]; exact Nat.le_add_right _ _
          exact I1.fpOk hle (I1.hok.fresh hle)
        refine zip_begins3 (begins_tuple a its.toArray) (begins_tuple b its2.toArray) (begins_tuple c its3.toArray) p1 p2 p3 fun h' hz hTI hTO h1 h2 h3 hsz hk => wpAny_pyIter_zip hz ?_
        have I2 : Inv X pins σ H1 { s1 with heap := h' } := I1.kept (t' := s1.toks) hk
        exact ⟨s1.heap.objs.size + 5, fp3 (s1.heap.objs.size + 5) (s1.heap.objs.size + 3) (s1.heap.objs.size + 4) s1.heap.objs.size (s1.heap.objs.size + 1) (s1.heap.objs.size + 2), _, _, H1, rfl, I2,
          turn_zip3 (zip_sep3 (N := s1.heap.objs.size) (fp1 := [a]) (fp2 := [b]) (fp3 := [c]) (fun d hd => by rw [List.mem_singleton.mp hd]; exact b1) (fun d hd => by rw [List.mem_singleton.mp hd]; exact b2) (fun d hd => by rw [List.mem_singleton.mp hd]; exact b3)) (Nat.ne_of_lt b1) (Nat.ne_of_lt (Nat.lt_succ_of_lt b2)) (Nat.ne_of_lt (Nat.lt_succ_of_lt (Nat.lt_succ_of_lt b3))),
          ⟨Nat.zero_le _, hz, hTI, ⟨_, _, _, hTO⟩, ⟨_, h1, rfl, rfl⟩, ⟨_, h2, rfl, rfl⟩, ⟨_, h3, rfl, rfl⟩⟩, fresh6, q⟩
end SmX
namespace Sm
variable [Tabs0]
open PySem L2
variable {K : PySem.W.Frag}
def prs3 (xs ys zs : List D) : List D := (xs.zip (ys.zip zs)).map fun p => .tup [p.1, p.2.1, p.2.2]
theorem prs3_len (xs ys zs : List D) : (prs3 xs ys zs).length = min (min xs.length ys.length) zs.length := by
  unfold prs3
  simp
theorem prs3_get {xs ys zs : List D} {i : Nat} {x y z : D} (h1 : xs[i]? = some x) (h2 : ys[i]? = some y) (h3 : zs[i]? = some z) : (prs3 xs ys zs)[i]? = some (.tup [x, y, z]) := by
  unfold prs3
  have h4 : (ys.zip zs)[i]? = some (y, z) := by simp [List.getElem?_zip_eq_some, h2, h3]
  have : (xs.zip (ys.zip zs))[i]? = some (x, (y, z)) := by simp [List.getElem?_zip_eq_some, h1, h4, h2, h3]
  rw [List.getElem?_map, this]
  rfl
theorem wk_z3 {Hf : Hp} {ρ : List Addr} {a b c : Addr} {xs ys zs : List V} {ds es fs : List D} (hx : SqT K Hf a xs) (hd : Dats K Hf ρ xs ds) (hy : SqT K Hf b ys) (he : Dats K Hf ρ ys es) (hz : SqT K Hf c zs) (hw : Dats K Hf ρ zs fs) : Wk K Hf ρ (SmX.Itz3 K a b c (min (min xs.length ys.length) zs.length)) (prs3 ds es fs, gd0) := fun i Hf' F' ρ' C' H' e p S0 hg => by
  have hl := hd.len
  have hl2 := he.len
  have hl3 := hw.len
  have hx' : SqT K H' a xs := same_t S0.ex (same_t e hx)
  have hy' : SqT K H' b ys := same_t S0.ex (same_t e hy)
  have hz' : SqT K H' c zs := same_t S0.ex (same_t e hz)
  have hE : ((prs3 ds es fs, gd0) : List D × Gd).1.length = min (min ds.length es.length) fs.length := prs3_len ds es fs
  refine ⟨fun hi => ?_, fun hi => ⟨by omega, xs, ys, zs, hx', hy', hz', rfl⟩⟩
  refine ⟨⟨by omega, xs, ys, zs, hx', hy', hz', rfl⟩, fun x H2 hyy => ?_⟩
  obtain ⟨T, u, w, v, rfl, hT, rfl, hu, hw1, hv⟩ := hyy
  obtain ⟨d, h1, h2⟩ := (hd.mono e p).getV (hu xs hx')
  obtain ⟨f, h3, h4⟩ := (he.mono e p).getV (hw1 ys hy')
  obtain ⟨g, h5, h6⟩ := (hw.mono e p).getV (hv zs hz')
  obtain ⟨Hf2, e2, S2, D2⟩ := S0.pair hT (.cons h2 (.cons h4 (.cons h6 .nil)))
  exact ⟨_, Hf2, prs3_get h1 h3 h5, e2, S2, D2⟩
def zips3 (ds : List D) : Option (List D × Gd) := match ds with
  | [.tup xs, .tup ys, .tup zs] => some (prs3 xs ys zs, gd0)
  | _ => none
def iZ3 (s : S (List D)) : SW := S.bind s fun ds => S.opt (zips3 ds)
section
variable {X : Cx} {W : Wh}
theorem si_zip3 {elts : List Expr} {kk : Nat} {tpos p pos : Pos} {e e2 e3 : Expr} {s : S (List D)} (h : PI X (.Tuple elts kk tpos) (.Call (.Name "zip" p) [e, e2, e3] [] pos) (SmX.iZip3 X.K (tA X.K X.mg W s))) :
    SI X W (.Tuple elts kk tpos) (.Call (.Name "zip" p) [e, e2, e3] [] pos) (iZ3 s) := pi_imp h fun σ H R ⟨Hf, F, ρ, env, C, S0, E0, g⟩ =>
  ⟨Hf, F, ρ, env, C, S0, E0, (Go.bind g).mono fun vs H1 ⟨Hf1, ρ1, C1, ds, e1, p1, S1, A1, g1⟩ => by
    obtain ⟨q, hq, g2⟩ := Go.opt g1
    unfold zips3 at hq
    split at hq
    · rename_i xs ys zs
      have e := Option.some.inj hq
      subst e
      cases A1 with
      | cons h1 h2 =>
        cases h2 with
        | cons h3 h4 =>
          cases h4 with
          | cons h5 h6 =>
            cases h6
            cases h1 with
            | @tup a xs' _ k1 k2 =>
              cases h3 with
              | @tup b ys' _ k3 k4 =>
                cases h5 with
                | @tup c zs' _ k5 k6 =>
                  exact ⟨a, b, c, xs', ys', zs', rfl, .inl (.inl (S1.ex _ _ k1)), .inl (.inl (S1.ex _ _ k3)), .inl (.inl (S1.ex _ _ k5)), g2 _ H1 Hf1 ρ1 (Same.refl _) (List.prefix_refl _) S1 (wk_z3 (.inl (.inl k1)) k2 (.inl (.inl k3)) k4 (.inl (.inl k5)) k6)⟩
    · cases hq⟩
end
end Sm
end
section
set_option maxRecDepth 100000
set_option maxHeartbeats 0
namespace Sm
variable [Tabs0]
open PySem L2
variable {K : PySem.W.Frag} {mg : Str → Option Value}

/-! ### dicts whose keys are tuples of ints and texts -/
def ky1 : D → Option Key
  | .int i => some (.inl i)
  | .str x => some (.inr x)
  | _ => none
def kyA : List D → Option (List Key)
  | [] => some []
  | d :: ds => match ky1 d, kyA ds with
    | some k, some ks => some (k :: ks)
    | _, _ => none
/-- the key that a value is -/
def ky : D → Option (List Key)
  | .tup ds => kyA ds
  | _ => none
theorem ky1_kD : ∀ k : Key, ky1 (kD k) = some k
  | .inl _ => rfl
  | .inr _ => rfl
theorem kyA_kD : ∀ k : List Key, kyA (k.map kD) = some k
  | [] => rfl
  | x :: k => by
    show (match ky1 (kD x), kyA (k.map kD) with | some k, some ks => some (k :: ks) | _, _ => none) = _
    rw [ky1_kD, kyA_kD k]
theorem ky_kT (k : List Key) : ky (kT k) = some k := kyA_kD k
theorem ky1_ok {H : Hp} {ρ : List Addr} {v : V} {d : D} {k : Key} (h : Dat K H ρ v d) (e : ky1 d = some k) : v = kV k := by
  cases h <;> first
    | (cases e; rfl)
    | cases e
theorem kyA_ok {H : Hp} {ρ : List Addr} : ∀ {vs : List V} {ds : List D} {k : List Key}, Dats K H ρ vs ds → kyA ds = some k → vs = k.map kV
  | _, _, _, .nil, e => by cases e; rfl
  | _, _, _, .cons (d := d) (ds := ds) h hs, e => by
    unfold kyA at e
    split at e
    · rename_i k1 k2 e1 e2
      cases e
      rw [ky1_ok h e1, kyA_ok hs e2]
      rfl
    · cases e
theorem ky_ok {H Hf : Hp} {ρ : List Addr} {v : V} {d : D} {k : List Key} (e : Same Hf H) (h : Vw K H Hf ρ v d) (hk : ky d = some k) : ∃ b, v = .ref b ∧ H b = some (.tup (k.map kV)) := by
  cases d with
  | tup ds =>
    obtain ⟨a, xs, rfl, _, h2, h3⟩ := h.tup e
    have := kyA_ok h3 hk
    subst this
    exact ⟨a, rfl, e _ _ h2⟩
  | _ => cases hk
/-- what stands at a key -/
def dVal : List (List Key) → List D → List Key → Option D
  | k' :: ks, d :: ds, k => if k' = k then some d else dVal ks ds k
  | _, _, _ => none
theorem dVal_ok {H : Hp} {ρ : List Addr} {k : List Key} : ∀ {ks : List (List Key)} {xs : List V} {ds : List D}, ks.length = xs.length → Dats K H ρ xs ds →
    (valV (ks.zip xs) k = none ∧ dVal ks ds k = none) ∨ ∃ v d, valV (ks.zip xs) k = some v ∧ dVal ks ds k = some d ∧ Dat K H ρ v d
  | [], _, _, _, .nil => .inl ⟨rfl, rfl⟩
  | [], _ :: _, _, h, _ => by simp at h
  | _ :: _, _, _, h, .nil => by simp at h
  | k' :: ks, v :: xs, d :: ds, h, .cons hd hs => by
    by_cases hk : k' = k
    · refine .inr ⟨v, d, ?_, ?_, hd⟩
      · rw [List.zip_cons_cons, valV_pos hk]
      · unfold dVal
        rw [if_pos hk]
    · rw [List.zip_cons_cons, valV_neg hk]
      unfold dVal
      rw [if_neg hk]
      exact dVal_ok (by simpa using h) hs
/-- what a changing or a locked dict is -/
theorem Vw.dt {H Hf : Hp} {ρ : List Addr} {v : V} {ks : List (List Key)} {ds : List D} (e : Same Hf H) (h : Vw K H Hf ρ v (.dt ks ds)) : ∃ a xs, v = .ref a ∧ Rd H a (.dT (ks.zip xs)) ∧ ks.length = xs.length ∧ Dats K Hf ρ xs ds := by
  cases h with
  | dat h =>
    cases h with
    | dt h hl hs =>
      obtain ⟨o, h⟩ := h
      exact ⟨_, _, rfl, .inr ⟨o, e _ _ h⟩, hl, hs⟩
  | nowT h hl hs => exact ⟨_, _, rfl, h, hl, hs⟩
/-! d[k], k in d -/
def rDGet (x y : V) (H : Hp) (Q : VK) : Prop := ∃ a v, x = .ref a ∧ DGet H a y (some v) ∧ Q v H
def dDGet : D → D → Option D
  | .dt ks ds, y => (ky y).bind fun k => dVal ks ds k
  | _, _ => none
theorem op_dDGet : Op2 K rDGet dDGet := by
  intro Hf F ρ Cs H x y a b d Q S0 ha hb he k
  cases a with
  | dt ks ds =>
    obtain ⟨kk, h1, h2⟩ := Option.bind_eq_some_iff.mp (show (ky b).bind (fun k => dVal ks ds k) = some d from he)
    obtain ⟨q, rfl, hq⟩ := ky_ok S0.ex hb h1
    obtain ⟨a, xs, rfl, hr, hl, hs⟩ := ha.dt S0.ex
    rcases dVal_ok (k := kk) hl hs with ⟨_, h3⟩ | ⟨v, d', h3, h4, h5⟩
    · rw [h3] at h2
      cases h2
    · rw [h4] at h2
      cases h2
      exact ⟨a, v, rfl, .inr ⟨_, kk, q, hr, rfl, hq, h3.symm⟩, k.here S0 h5⟩
  | _ => cases he
def dDIn : D → D → Option D
  | y, .dt ks ds => (ky y).map fun k => .bl (dVal ks ds k).isSome
  | _, _ => none
def dDNotIn : D → D → Option D
  | y, .dt ks ds => (ky y).map fun k => .bl (!(dVal ks ds k).isSome)
  | _, _ => none
def rDIn (y x : V) (H : Hp) (Q : VK) : Prop := ∃ a o, x = .ref a ∧ DGet H a y o ∧ Q (.bl o.isSome) H
def rDNotIn (y x : V) (H : Hp) (Q : VK) : Prop := ∃ a o, x = .ref a ∧ DGet H a y o ∧ Q (.bl (!o.isSome)) H
theorem dIn_go {Hf F H : Hp} {ρ : List Addr} {Cs : Cells} {x y : V} {a : D} {ks : List (List Key)} {ds : List D} {kk : List Key} (S0 : SR K Hf F ρ Cs H) (ha : Vw K H Hf ρ x a) (hb : Vw K H Hf ρ y (.dt ks ds)) (h1 : ky a = some kk) :
    ∃ b o, y = .ref b ∧ DGet H b x o ∧ o.isSome = (dVal ks ds kk).isSome := by
  obtain ⟨q, rfl, hq⟩ := ky_ok S0.ex ha h1
  obtain ⟨b, xs, rfl, hr, hl, hs⟩ := hb.dt S0.ex
  refine ⟨b, valV (ks.zip xs) kk, rfl, .inr ⟨_, kk, q, hr, rfl, hq, rfl⟩, ?_⟩
  rcases dVal_ok (k := kk) hl hs with ⟨h2, h3⟩ | ⟨v, d', h2, h3, _⟩ <;> rw [h2, h3] <;> rfl
theorem op_dDIn : Op2 K rDIn dDIn := by
  intro Hf F ρ Cs H x y a b d Q S0 ha hb he k
  cases b with
  | dt ks ds =>
    obtain ⟨kk, h1, rfl⟩ := Option.map_eq_some_iff.mp (show (ky a).map (fun k => D.bl (dVal ks ds k).isSome) = some d from he)
    obtain ⟨b, o, rfl, hg, ho⟩ := dIn_go S0 ha hb h1
    exact ⟨b, o, rfl, hg, by rw [ho]; exact k.here S0 (.bl _)⟩
  | _ => cases a <;> cases he
theorem op_dDNotIn : Op2 K rDNotIn dDNotIn := by
  intro Hf F ρ Cs H x y a b d Q S0 ha hb he k
  cases b with
  | dt ks ds =>
    obtain ⟨kk, h1, rfl⟩ := Option.map_eq_some_iff.mp (show (ky a).map (fun k => D.bl (!(dVal ks ds k).isSome)) = some d from he)
    obtain ⟨b, o, rfl, hg, ho⟩ := dIn_go S0 ha hb h1
    exact ⟨b, o, rfl, hg, by rw [ho]; exact k.here S0 (.bl _)⟩
  | _ => cases a <;> cases he
section
variable {X : Cx} {W : Wh}
theorem se_dget {o i : Expr} {pos : Pos} {so si : S D} (hu : X.A.units + 1 < cLine) (ho : SE X W o so) (hi : SE X W i si) (hs : NoSl i) : SE X W (.Subscript o i pos) (x2 dDGet so si) :=
  pe_imp (pe_dget hu ho hi hs) fun _ _ _ q => go2 (r := rDGet) op_dDGet (fun _ _ _ q => q) (fun _ _ _ q => q) q
theorem op_inR (hu : X.A.units + 1 < cLine) : OpR X (compareOp .In) rDIn := by
  intro pins s σ H x y u v Q I rx ry h
  obtain ⟨a, o, rfl, g, q⟩ := h
  obtain rfl : v = Value.ref a := ry
  exact d_in hu I g rx fun s3 I3 => ⟨.bl o.isSome, H, I3, rfl, q⟩
theorem op_notInR (hu : X.A.units + 1 < cLine) : OpR X (compareOp .NotIn) rDNotIn := by
  intro pins s σ H x y u v Q I rx ry h
  obtain ⟨a, o, rfl, g, q⟩ := h
  obtain rfl : v = Value.ref a := ry
  exact d_notIn hu I g rx fun s3 I3 => ⟨.bl (!o.isSome), H, I3, rfl, q⟩
/-! d.get(k, x) -/
def dDGet2 : D → D → D → Option D
  | .dt ks ds, y, z => (ky y).map fun k => (dVal ks ds k).getD z
  | _, _, _ => none
def isDt : D → Bool
  | .dt _ _ => true
  | _ => false
def xDGet2 (so si sz : S D) : S D := S.bind so fun x => fun env C => if isDt (vw C x) = true then (S.bind si fun y => S.bind sz fun z => fun env C => S.opt (dDGet2 (vw C x) (vw C y) z) env C) env C else none
theorem se_dget2 {o e f : Expr} {apos cpos : Pos} {so si sz : S D} (hu : X.A.units + 1 < cLine) (ho : SE X W o so) (he : SE X W e si) (hf : SE X W f sz) (m : M2 X o "get" apos e f cpos) :
    SE X W (.Call (.Attribute o "get" apos) [e, f] [] cpos) (xDGet2 so si sz) := pe_imp (pe_dget2 hu ho he hf m) fun σ H Q ⟨Hf, F, ρ, env, C, S0, E0, g⟩ =>
  ⟨Hf, F, ρ, env, C, S0, E0, (Go.bind g).mono fun x H1 ⟨Hf1, ρ1, C1, dx, e1, p1, S1, A1, g1⟩ => by
    try simp only [] at g1
    by_cases hd : isDt (vw C1 dx) = true
    · rw [if_pos hd] at g1
      have v1 := vw_ok S1 A1
      obtain ⟨ks, ds, hks⟩ : ∃ ks ds, vw C1 dx = .dt ks ds := by
        generalize vw C1 dx = w at hd
        cases w with
        | dt ks ds => exact ⟨ks, ds, rfl⟩
        | _ => cases hd
      rw [hks] at v1
      obtain ⟨a, xs, rfl, hr, hl, hs⟩ := v1.dt S1.ex
      refine ⟨a, rfl, .inr ⟨_, hr⟩, Hf1, F, ρ1, env, C1, S1, E0.mono e1 p1, (Go.bind g1).mono fun y H2 ⟨Hf2, ρ2, C2, dy, e2, p2, S2, A2, g2⟩ => ?_⟩
      refine ⟨Hf2, F, ρ2, env, C2, S2, (E0.mono e1 p1).mono e2 p2, (Go.bind g2).mono fun z H3 ⟨Hf3, ρ3, C3, dz, e3, p3, S3, A3, g3⟩ => ?_⟩
      obtain ⟨dd, h3, g4⟩ := Go.opt g3
      have vx := vw_ok S3 ((A1.mono e2 p2).mono e3 p3)
      have vy := vw_ok S3 (A2.mono e3 p3)
      generalize vw C3 dx = wx at vx h3
      generalize vw C3 dy = wy at vy h3
      cases wx with
      | dt ks3 ds3 =>
        obtain ⟨kk, h5, rfl⟩ := Option.map_eq_some_iff.mp (show (ky wy).map (fun k => (dVal ks3 ds3 k).getD dz) = some dd from h3)
        obtain ⟨q, rfl, hq⟩ := ky_ok S3.ex vy h5
        obtain ⟨a', xs3, ea, hr3, hl3, hs3⟩ := vx.dt S3.ex
        cases ea
        refine ⟨valV (ks3.zip xs3) kk, .inr ⟨_, kk, q, hr3, rfl, hq, rfl⟩, ?_⟩
        rcases dVal_ok (k := kk) hl3 hs3 with ⟨h6, h7⟩ | ⟨v, d', h6, h7, h8⟩
        · rw [h6]
          rw [h7] at g4
          exact g4 z H3 Hf3 ρ3 (Same.refl _) (List.prefix_refl _) S3 A3
        · rw [h6]
          rw [h7] at g4
          exact g4 v H3 Hf3 ρ3 (Same.refl _) (List.prefix_refl _) S3 h8
      | _ => cases h3
    · rw [if_neg hd] at g1
      exact g1.elim⟩
end
end Sm
end
section
set_option maxRecDepth 100000
set_option maxHeartbeats 0
namespace Sm
variable [Tabs0]
open PySem L2
variable {K : PySem.W.Frag} {mg : Str → Option Value}

/-! ### a dict of tuples that changes -/
def hasK (ks : List (List Key)) (k : List Key) : Bool := ks.any fun k' => decide (k' = k)
theorem hasK_iff {ks : List (List Key)} {k : List Key} : hasK ks k = true ↔ k ∈ ks := by
  unfold hasK
  rw [List.any_eq_true]
  constructor
  · rintro ⟨x, h1, h2⟩
    rw [← of_decide_eq_true h2]
    exact h1
  · exact fun h => ⟨k, h, decide_eq_true rfl⟩
def addK (ks : List (List Key)) (k : List Key) : List (List Key) := if hasK ks k = true then ks else ks ++ [k]
def putV {α : Type} (ks : List (List Key)) (xs : List α) (k : List Key) (x : α) : List α := if hasK ks k = true then List.zipWith (fun k' y => if k' = k then x else y) ks xs else xs ++ [x]
theorem any_mem {k : List Key} : ∀ {ks : List (List Key)} {xs : List V}, ks.length = xs.length → ((ks.zip xs).any fun kv => decide (kv.1 = k)) = hasK ks k
  | [], _, _ => by simp [hasK]
  | _ :: _, [], h => by simp at h
  | k' :: ks, x :: xs, h => by
    rw [List.zip_cons_cons, List.any_cons, any_mem (by simpa using h)]
    rfl
theorem zipW {k : List Key} {v : V} : ∀ {ks : List (List Key)} {xs : List V}, ks.length = xs.length → (ks.zip xs).map (fun kv => if kv.1 = k then (kv.1, v) else kv) = ks.zip (List.zipWith (fun k' y => if k' = k then v else y) ks xs)
  | [], _, _ => by simp
  | _ :: _, [], h => by simp at h
  | k' :: ks, x :: xs, h => by
    rw [List.zip_cons_cons, List.map_cons, zipW (by simpa using h), List.zipWith_cons_cons, List.zip_cons_cons]
    by_cases e : k' = k
    · simp [e]
    · simp [e]
theorem putK_zip {k : List Key} {v : V} {ks : List (List Key)} {xs : List V} (h : ks.length = xs.length) : putK (ks.zip xs) k v = (addK ks k).zip (putV ks xs k v) := by
  unfold putK addK putV
  rw [any_mem h]
  by_cases e : hasK ks k = true
  · rw [if_pos e, if_pos e, if_pos e, zipW h]
  · rw [if_neg e, if_neg e, if_neg e, List.zip_append h]
    rfl
theorem putV_len {α : Type} {k : List Key} {v : α} {ks : List (List Key)} {xs : List α} (h : ks.length = xs.length) : (addK ks k).length = (putV ks xs k v).length := by
  unfold addK putV
  by_cases e : hasK ks k = true
  · rw [if_pos e, if_pos e, List.length_zipWith]
    omega
  · rw [if_neg e, if_neg e, List.length_append, List.length_append, h]
    rfl
theorem Dats.zw {H : Hp} {ρ : List Addr} {k : List Key} {v : V} {d : D} (h : Dat K H ρ v d) : ∀ (ks : List (List Key)) {xs : List V} {ds : List D}, Dats K H ρ xs ds →
    Dats K H ρ (List.zipWith (fun k' y => if k' = k then v else y) ks xs) (List.zipWith (fun k' y => if k' = k then d else y) ks ds)
  | [], _, _, _ => .nil
  | _ :: _, _, _, .nil => .nil
  | k' :: ks, x :: xs, y :: ds, .cons h1 hs => by
    rw [List.zipWith_cons_cons, List.zipWith_cons_cons]
    refine .cons ?_ (Dats.zw h ks hs)
    by_cases e : k' = k
    · rw [if_pos e, if_pos e]
      exact h
    · rw [if_neg e, if_neg e]
      exact h1
theorem Dats.put {H : Hp} {ρ : List Addr} {k : List Key} {v : V} {d : D} {ks : List (List Key)} {xs : List V} {ds : List D} (h : Dat K H ρ v d) (hs : Dats K H ρ xs ds) : Dats K H ρ (putV ks xs k v) (putV ks ds k d) := by
  unfold putV
  by_cases e : hasK ks k = true
  · rw [if_pos e, if_pos e]
    exact Dats.zw h ks hs
  · rw [if_neg e, if_neg e]
    exact hs.app (.cons h .nil)
section
variable {X : Cx} {W : Wh}
/-- {}, to be changed -/
def xNewT : S D := fun _ C => some (.ok (.cel C.length) (C ++ [some (.t [] [])]))
theorem se_newT {pos : Pos} : SE X W (.Dict [] [] pos) xNewT := pe_imp pe_dnewT fun σ H Q ⟨Hf, F, ρ, env, C, S0, E0, g⟩ => fun p hp => by
  have S1 : SR X.K Hf F (ρ ++ [p]) (C ++ [some (.t [] [])]) (upd H p (.dT [])) := S0.newOb hp (.t (ks := []) rfl .nil)
  exact g (.ref p) _ Hf _ (Same.refl _) (List.prefix_append _ _) S1 (.cel (by rw [← S0.len, List.getElem?_append_right (Nat.le_refl _), Nat.sub_self]; rfl))
/-- o[i] = e, o a changing dict -/
def xSetT (so si sv : S D) : SS := xDo sv fun v => xDo so fun o => xDo si fun i => fun e C => match o with
  | .cel n => match C[n]? with
    | some (some (.t ks ds)) => match ky (vw C i) with
      | some k => if nocel v = true ∧ ks.length < 1000000 then some (.nx e (C.set n (some (.t (addK ks k) (putV ks ds k v))))) else none
      | none => none
    | _ => none
  | _ => none
theorem sc_sett {o i e : Expr} {pp pos : Pos} {so si sv : S D} (hu : X.A.units + 1 < cLine) (ho : SE X W o so) (hi : SE X W i si) (he : SE X W e sv) (hs : swapsWith e (some (.Subscript o i pp)) pos.line X.env = pure false) :
    SC X W (.Assign [.Subscript o i pp] e pos) (xSetT so si sv) :=
  ps_imp (ps_dput hu ho hi he hs) fun D σ H ⟨Hf, F, ρ, env, C, S0, E0, g⟩ => ⟨Hf, F, ρ, env, C, S0, E0, (GoS.doit E0 g).mono fun v H1 ⟨Hf1, ρ1, C1, dv, e1, p1, S1, A1, g1⟩ =>
    ⟨Hf1, F, ρ1, env, C1, S1, E0.mono e1 p1, (GoS.doit (E0.mono e1 p1) g1).mono fun x H2 ⟨Hf2, ρ2, C2, dx, e2, p2, S2, A2, g2⟩ =>
      ⟨Hf2, F, ρ2, env, C2, S2, (E0.mono e1 p1).mono e2 p2, (GoS.doit ((E0.mono e1 p1).mono e2 p2) g2).mono fun y H3 ⟨Hf3, ρ3, C3, dy, e3, p3, S3, A3, g3⟩ => by
        match dx, A2, g3 with
        | .cel n, .cel (a := ad) hn, g3 =>
          cases hc : C3[n]? with
          | none =>
            simp only [hc] at g3
            exact g3.elim
          | some oo =>
            cases oo with
            | none =>
              simp only [hc] at g3
              exact g3.elim
            | some o =>
              cases o with
              | l ds =>
                simp only [hc] at g3
                exact g3.elim
              | t ks ds =>
                simp only [hc] at g3
                cases hk : ky (vw C3 dy) with
                | none =>
                  simp only [hk] at g3
                  exact g3.elim
                | some k =>
                  simp only [hk] at g3
                  split at g3
                  · rename_i nc
                    have hn3 := pre_get p3 hn
                    obtain ⟨_, k2⟩ := S3.cel n ad _ hn3 hc
                    obtain ⟨vs, hv, hl, hd⟩ := k2.dct
                    obtain ⟨b, rfl, hb⟩ := ky_ok S3.ex (vw_ok S3 A3) hk
                    have hvv := (A1.mono (e2.trans e3) (p2.trans p3)).bare nc.1
                    have hlt : (ks.zip vs).length < sizeLine := by
                      rw [List.length_zip, sizeLine_eq]
                      omega
                    refine ⟨ad, upd H3 ad (.dT (putK (ks.zip vs) k v)), rfl, DPut.t hv hb hlt, ?_⟩
                    rw [putK_zip hl]
                    exact g3 σ _ Hf3 ρ3 (Same.refl _) (List.prefix_refl _) (S3.setOb hn3 hc (.t (putV_len hl) (Dats.put hvv hd))) (((E0.mono e1 p1).mono e2 p2).mono e3 p3)
                  · exact g3.elim⟩⟩⟩
/-! ### dicts that change no more -/
def liveT (r : D) (C : Cells) : Option (Nat × List (List Key) × List D) := match r with
  | .cel n => match C[n]? with
    | some (some (.t ks ds)) => some (n, ks, ds)
    | _ => none
  | _ => none
def xFrzT (s : S D) : S D := S.bind s fun d _ C => match liveT d C with
  | some (n, ks, ds) => some (.ok (.dt ks ds) (C.set n none))
  | none => none
theorem se_frzT {e : Expr} {s : S D} (h : SE X W e s) : SE X W e (xFrzT s) := pe_imp (pe_lockP h) fun σ H Q ⟨Hf, F, ρ, env, C, S0, E0, g⟩ => ⟨Hf, F, ρ, env, C, S0, E0, (Go.bind g).mono fun x H1 ⟨Hf1, ρ1, C1, a, e1, p1, S1, A1, g1⟩ => by
  try simp only [] at g1
  cases hl : liveT a C1 with
  | none =>
    rw [hl] at g1
    exact g1.elim
  | some q =>
    obtain ⟨n, ks, ds⟩ := q
    rw [hl] at g1
    unfold liveT at hl
    split at hl
    · split at hl
      · rename_i m ks' ds' hc
        have q' := Option.some.inj hl
        simp only [Prod.mk.injEq] at q'
        obtain ⟨rfl, rfl, rfl⟩ := q'
        cases A1 with
        | @cel _ ad hn =>
          obtain ⟨vs, hv, k⟩ := S1.lockT hn hc
          refine ⟨ad, _, rfl, hv, True.intro, fun od => ?_⟩
          obtain ⟨Hf2, e2, S2, D2⟩ := k od
          exact g1 _ _ Hf2 ρ1 e2 (List.prefix_refl _) S2 D2
      · cases hl
    · cases hl⟩
/-- {} as data -/
theorem se_nilT {pos : Pos} : SE X W (.Dict [] [] pos) (S.val (.dt [] [])) := pe_imp (pe_lockP pe_dnewT) fun σ H Q ⟨Hf, F, ρ, env, C, S0, E0, g⟩ => fun p hp => by
  refine ⟨p, _, rfl, upd_same, True.intro, fun od => ?_⟩
  obtain ⟨Hf1, e1, S1, D1⟩ := S0.newT (od := od) (ks := []) (xs := []) (ds := []) hp rfl .nil
  have hh : upd (upd H p (.dT [])) p (.frz od (.dT [])) = upd H p (.frz od (.dT [])) := upd_upd
  rw [hh]
  exact g (.ref p) _ Hf1 ρ e1 (List.prefix_refl _) S1 D1
end
end Sm
end
section
set_option maxRecDepth 100000
set_option maxHeartbeats 0
namespace Sm
variable [Tabs0]
open PySem L2
variable {K : PySem.W.Frag} {mg : Str → Option Value}

/-! ### d.items(), keys that are tuples -/
theorem frzT2 {X : Cx} {pins : List (Addr × Obj)} {σ : L2.St} {H : Hp} {s : Shared} {d : Addr} {o : Obj} {kvs : List (List Key × V)} (I : Inv X pins σ H s) (h : H d = some (.frz o (.dT kvs))) :
    (d == sysModules) = false ∧ s.heap.get? d = some o ∧ o.ExactDict ∧ ∃ (es : Array DictEntry) (ep : Nat), o.data = .dict es ep ∧ es.size = kvs.length ∧
      ∀ (i : Nat) (k : List Key) (v : V), kvs[i]? = some (k, v) → ∃ (en : DictEntry) (q : Addr), es[i]? = some en ∧ en.key = .ref q ∧ H q = some (.tup (k.map kV)) ∧ RelV v en.val := by
  obtain ⟨hd, z, hs, xs, pr, o', es, ep, ho, hx, hdt, he, _⟩ := I.hok d _ h
  rw [hd] at ho
  cases ho
  refine ⟨hs, hd, hx, es, ep, hdt, ?_, fun i k v e => ?_⟩
  · have l1 : es.size = xs.length := size_of_entries he
    have l2 : kvs.length = xs.length := Paired.length pr
    omega
  · obtain ⟨b, hb, e1, e2, e3⟩ := paired_get pr e
    have q := entry_at he i
    rw [hb] at q
    exact ⟨_, b.2.1, q, rfl, e2, e3⟩
/-- the pairs, each a new tuple -/
def ItiT (d : Addr) (o : Obj) (kvs : List (List Key × V)) : It :=
  ⟨fun i H => H d = some (.frz o (.dT kvs)) ∧ i < kvs.length, fun i H x H' => ∃ T k v q, kvs[i]? = some (k, v) ∧ x = .ref T ∧ H T = none ∧ H q = some (.tup (k.map kV)) ∧ H' = upd H T (.tup [.ref q, v]), fun i H => H d = some (.frz o (.dT kvs)) ∧ kvs.length ≤ i⟩
theorem turn_itemsT {P : Program} {w : World} {d : Addr} {o : Obj} {es : Array DictEntry} {ep : Nat} {kvs : List (List Key × V)} {elts : List Expr} {kk : Nat} {tpos : Pos} (it : Addr) (hod : o.data = .dict es ep) :
    Turn P w K (.Tuple elts kk tpos) (ItiT d o kvs) [it] it (fun i h => ∃ ok ov, IsItemIter h it d i kvs.length ep ok ov) where
  mem := by simp
  obj := fun i h st b hb => by
    have e : b = it := by simpa using hb
    subst e
    obtain ⟨ok, ov, e⟩ := st
    exact ⟨_, e, fun v z => nomatch z⟩
  keep := fun i h h' st k => let ⟨ok, ov, e⟩ := st; ⟨ok, ov, k it (by simp) _ e⟩
  item := by
    intro X hP hw hK hc i pins s σ H E I hf st hg
    subst hP hw hK
    obtain ⟨hd, hi⟩ := hg
    obtain ⟨hs, hgd, hx, es', ep', hdt, hsz, ent⟩ := frzT2 I hd
    obtain ⟨rfl, rfl⟩ := dict_ep hod hdt
    obtain ⟨⟨k, v⟩, hkv⟩ : ∃ p, kvs[i]? = some p := ⟨kvs[i], List.getElem?_eq_getElem hi⟩
    obtain ⟨en, q, hen, hkey, hq, hrv⟩ := ent i k v hkv
    obtain ⟨ok, ov, he⟩ := st
    rw [← hsz] at he hi
    have hen' : es'[i] = en := by
      have := Array.getElem?_eq_getElem hi
      rw [this] at hen
      exact Option.some.inj hen
    have hlt : it < s.heap.objs.size := Heap.lt_size he
    refine DT.nextI he ⟨o, hgd, hx, hdt⟩ hi fun h' ho hT hz hk => ?_
    rw [hen', hkey] at ho hT
    refine ⟨_, rfl, wpAny_letOwnedTupleGo_items (s := { s with heap := h' }) ho fun h'' he' sb => ?_⟩
    have hT2 : h''.get? s.heap.objs.size = some { cls := .type "tuple", data := .seq #[.ref q, en.val] } := (sb.2 _ (Nat.ne_of_gt hlt)).trans hT
    have new : ObjOk X.prog X.w (upd H s.heap.objs.size (.tup [.ref q, v])) h'' s.heap.objs.size (.tup [.ref q, v]) :=
      ⟨by show 2 ≤ sizeLine; decide, [.ref q, en.val], .cons rfl (.cons hrv .nil), ⟨_, hT2, rfl, _, rfl⟩⟩
    have I1 : Inv X pins σ (upd H s.heap.objs.size (.tup [.ref q, v])) { s with heap := h'' } :=
      I.turnedNew (t' := s.toks) (ch := [it]) (fun b ob hb e => (sb.2 b (by simpa using hb)).trans (hk b ob (by simpa using hb) e)) hf (Nat.le_refl _) new
    refine ⟨.ref s.heap.objs.size, _, I1, rfl, ⟨_, k, v, q, hkv, rfl, I.hok.fresh (Nat.le_refl _), hq, rfl⟩, ⟨.ref q, en.val, ?_⟩, fun b hb => ?_⟩
    · rw [← hsz]; exact he'
    · have e : b = it := by simpa using hb
      rw [e, upd_ne (Nat.ne_of_lt hlt)]
      exact (hf it (by simp)).1
  done := by
    intro X hP hw hK hc i pins s σ H E I hf st hg
    subst hP hw hK
    obtain ⟨hd, hi⟩ := hg
    obtain ⟨f0, f1, f2, f3, f4, f5⟩ := hf it (by simp)
    obtain ⟨hs, hgd, hx, es', ep', hdt, hsz, ent⟩ := frzT2 I hd
    obtain ⟨rfl, rfl⟩ := dict_ep hod hdt
    obtain ⟨ok, ov, he⟩ := st
    rw [← hsz] at he hi
    exact DT.endI (I.ok.hd hc) he ⟨o, hgd, hx, hdt⟩ hi fun h' eb => ⟨rfl, I.turned (t' := s.toks) (fun b ob hb e => eb b ob hb e) f0 f1 f3 f4 f5⟩
  self := fun A i s Q E st h => let ⟨_, _, e⟩ := st; PySem.W.kcp_self e h
def iItemsT (td : TE) : TI := fun σ H R => td σ H fun x H1 => ∃ d o kvs, x = .ref d ∧ H1 d = some (.frz o (.dT kvs)) ∧ R (ItiT d o kvs) H1
section
variable {X : Cx} {W : Wh}
theorem pi_itemsT {e : Expr} {td : TE} {apos cpos : Pos} {elts : List Expr} {kk : Nat} {tpos : Pos} (he : PE X e td) (hbase : attributeBase e "items" X.env (eval e X.env) = eval e X.env := by rfl) (hline : (apos.endLine == cpos.line) = true := by rfl) :
    PI X (.Tuple elts kk tpos) (.Call (.Attribute e "items" apos) [] [] cpos) (iItemsT td) := by
  refine ⟨fun pins s σ H R I h => ?_⟩
  refine wpAny_Call_method (T := "dict") (id := "dict.items") hbase rfl hline F.plainAttrs_dict F.slot_dict_items F.type_dict_items (thn (he.run pins s σ H _ I h) fun u s1 ⟨x, H1, I1, rx, d, o, kvs, ex, hd, q⟩ => ?_)
  subst ex
  obtain rfl : u = Value.ref d := rx
  obtain ⟨hs, hgd, hx, es, ep, hdt, hsz, ent⟩ := frzT2 I1 hd
  have raw : DT.Raw s1.heap d es ep := ⟨o, hgd, hx, hdt⟩
  refine ⟨raw.typeIs, fun b q => by cases q; exact ⟨o, hgd, hx.2.1⟩, ?_⟩
  have I2 : Inv X pins σ H1 { s1 with heap := s1.heap.push { cls := .type "dict_items", data := .fields #[.ref d] } } := I1.kept (t' := s1.toks) fun b ob q => Heap.get?_push_of_some _ q
  have fin : wpAny (model X.prog X.w) X.A (pyIter (.ref s1.heap.objs.size)) (PIE X pins σ (.Tuple elts kk tpos) R) X.xe { s1 with heap := s1.heap.push { cls := .type "dict_items", data := .fields #[.ref d] } } := by
    refine DT.iterI (d := d) ⟨_, Heap.get?_push_size _ rfl, rfl, rfl⟩ (raw.push _) (pi_one (tk := s1.toks) I2 _ (turn_itemsT _ hdt) ⟨.none, .none, ?_⟩ q)
    rw [← hsz]
    exact Heap.get?_push_size _ rfl
  show wpAny _ _ (callWith cpos (.builtin "dict.items") [.ref d] [] []) _ X.xe s1
  exact method_meetsIn F.slot_dict_items F.entry_dict_items rfl (PySem.evalArgs_none ⟨rfl, raw.typeIs, F.args_dict_items_1 _, _, DT.meetsItems hs, raw, fin⟩)
/-- the pairs of a locked dict -/
def its2 (ks : List (List Key)) (ds : List D) : List D := List.zipWith (fun k d => .tup [kT k, d]) ks ds
theorem its2_len {ks : List (List Key)} {ds : List D} (h : ks.length = ds.length) : (its2 ks ds).length = ks.length := by
  unfold its2
  rw [List.length_zipWith]
  omega
theorem wk_it {Hf : Hp} {ρ : List Addr} {a : Addr} {o : Obj} {ks : List (List Key)} {xs : List V} {ds : List D} (hx : Hf a = some (.frz o (.dT (ks.zip xs)))) (hl : ks.length = xs.length) (hs : Dats K Hf ρ xs ds) : Wk K Hf ρ (ItiT a o (ks.zip xs)) (its2 ks ds, gd0) := fun i Hf' F' ρ' C' H' e p S0 hg => by
  have hld := hs.len
  have hli : (its2 ks ds).length = ks.length := its2_len (by omega)
  have hlz : (ks.zip xs).length = ks.length := by rw [List.length_zip]; omega
  have hH := S0.ex _ _ (e _ _ hx)
  refine ⟨fun hi => ?_, fun hi => ⟨hH, by rw [hlz, ← hli]; exact hi⟩⟩
  have hi' : i < ks.length := by rw [← hli]; exact hi
  refine ⟨⟨hH, by rw [hlz]; exact hi'⟩, fun x H2 ⟨T, k, v, q, h1, h2, hT, h3, h4⟩ => ?_⟩
  subst h2 h4
  rw [List.getElem?_zip_eq_some] at h1
  obtain ⟨hk, hv⟩ := h1
  obtain ⟨Hf2, e3, S2, h5⟩ := S0.addTup h3
  obtain ⟨d, hd1, hd2⟩ := ((hs.mono e p).mono e3 (List.prefix_refl _)).getV hv
  have hkey : Dat K Hf2 ρ' (.ref q) (kT k) := .tup h5 (Dats.kVs k)
  obtain ⟨Hf3, e4, S3, D3⟩ := S2.pair hT (.cons hkey (.cons hd2 .nil))
  refine ⟨_, Hf3, ?_, e3.trans e4, S3, D3⟩
  unfold its2
  rw [List.getElem?_zipWith, hk, hd1]
def ditems : D → Option (List D × Gd)
  | .dt ks ds => some (its2 ks ds, gd0)
  | _ => none
def iItT (s : S D) : SW := S.bind s fun d env C => S.opt (ditems d) env C
theorem si_itemsT {e : Expr} {s : S D} {apos cpos : Pos} {elts : List Expr} {kk : Nat} {tpos : Pos} (he : SE X W e s) (hbase : attributeBase e "items" X.env (eval e X.env) = eval e X.env := by rfl) (hline : (apos.endLine == cpos.line) = true := by rfl) :
    SI X W (.Tuple elts kk tpos) (.Call (.Attribute e "items" apos) [] [] cpos) (iItT s) := pi_imp (pi_itemsT he hbase hline) fun σ H R ⟨Hf, F, ρ, env, C, S0, E0, g⟩ =>
  ⟨Hf, F, ρ, env, C, S0, E0, (Go.bind g).mono fun v H1 ⟨Hf1, ρ1, C1, a, e1, p1, S1, A1, g1⟩ => by
    obtain ⟨p, hp, g2⟩ := Go.opt g1
    cases A1 with
    | @dt ad ks xs ds h hl hs =>
      have e := Option.some.inj hp
      subst e
      obtain ⟨o, h⟩ := h
      exact ⟨ad, o, _, rfl, S1.ex _ _ h, g2 _ H1 Hf1 ρ1 (Same.refl _) (List.prefix_refl _) S1 (wk_it h hl hs)⟩
    | _ => cases hp⟩
end
end Sm
end
section
set_option maxRecDepth 100000
set_option maxHeartbeats 0
namespace Sm
variable [Tabs0]
open PySem L2
variable {K : PySem.W.Frag} {mg : Str → Option Value}

/-! ### *d.items() in a display -/
/-- new tuples at ps: the pairs of kvs -/
def Its (H2 : Hp) (ps : List V) (kvs : List (List Key × V)) : Prop := ps.length = kvs.length ∧ ∀ (j : Nat) (k : List Key) (v : V), kvs[j]? = some (k, v) → ∃ p q, ps[j]? = some (.ref p) ∧ H2 p = some (.tup [.ref q, v]) ∧ H2 q = some (.tup (k.map kV))
def tStarIt (te : TE) (t : TA) : TA := fun σ H Q => te σ H fun x H1 => ∃ d o kvs, x = .ref d ∧ H1 d = some (.frz o (.dT kvs)) ∧ ∀ H2 ps, Same H1 H2 → Its H2 ps kvs → t σ H2 fun ys H3 => Q (ps ++ ys) H3
theorem vals_refs : ∀ as : List Addr, Vals (as.map V.ref) (as.map Value.ref)
  | [] => .nil
  | a :: as => .cons rfl (vals_refs as)
section
variable {X : Cx} {W : Wh}
theorem pa_starIt {o : Expr} {es : List Expr} {p apos cpos : Pos} {td : TE} {t : TA} (hc : X.calm = true) (he : PE X o td) (hr : PA X es t)
    (hs : starEach (.Starred (.Call (.Attribute o "items" apos) [] [] cpos) p :: es) X.env = (true, eval (.Call (.Attribute o "items" apos) [] [] cpos) X.env) :: starEach es X.env := by rfl)
    (hbase : attributeBase o "items" X.env (eval o X.env) = eval o X.env := by rfl) (hline : (apos.endLine == cpos.line) = true := by rfl) :
    PA X (.Starred (.Call (.Attribute o "items" apos) [] [] cpos) p :: es) (tStarIt td t) := by
  refine ⟨fun pos pins s σ H Q I h => ?_⟩
  refine PySem.W.items_star ?_ hs
  refine wpAny_Call_method (T := "dict") (id := "dict.items") hbase rfl hline F.plainAttrs_dict F.slot_dict_items F.type_dict_items (thn (he.run pins s σ H _ I h) fun u s1 ⟨x, H1, I1, rx, d, od, kvs, ex, hd, q⟩ => ?_)
  subst ex
  obtain rfl : u = Value.ref d := rx
  obtain ⟨hsm, hgd, hx, es', ep, hdt, hsz, ent⟩ := frzT2 I1 hd
  have raw : DT.Raw s1.heap d es' ep := ⟨od, hgd, hx, hdt⟩
  refine ⟨raw.typeIs, fun b q => by cases q; exact ⟨od, hgd, hx.2.1⟩, ?_⟩
  have view : (s1.heap.push { cls := .type "dict_items", data := .fields #[.ref d] }).IsItemsView s1.heap.objs.size d := ⟨_, Heap.get?_push_size _ rfl, rfl, rfl⟩
  have hT : Shared.TypeIs { s1 with heap := s1.heap.push { cls := .type "dict_items", data := .fields #[.ref d] } } (.ref s1.heap.objs.size) "dict_items" := ⟨_, Heap.get?_push_size _ rfl, rfl⟩
  have hz : kvs.length ≤ sizeLine := by
    obtain ⟨_, z, _⟩ := I1.hok d _ hd
    exact z
  refine (?_ : PySem.W.StarOf (model X.prog X.w) X.A X.xe (.ref s1.heap.objs.size) _ { s1 with heap := s1.heap.push { cls := .type "dict_items", data := .fields #[.ref d] } } → _) ?_
  · intro fin
    show wpAny _ _ (callWith cpos (.builtin "dict.items") [.ref d] [] []) _ X.xe s1
    exact method_meetsIn F.slot_dict_items F.entry_dict_items rfl (PySem.evalArgs_none ⟨rfl, raw.typeIs, F.args_dict_items_1 _, _, DT.meetsItems hsm, raw, fin⟩)
  have z : ∀ (Q2 : List Value → Shared → Prop), (∀ h' tk as, (∀ b o, s1.heap.get? b = some o → h'.get? b = some o) → as.length = es'.size → DT.Made es' s1.heap.objs.size h' as → Q2 (as.map Value.ref) { s1 with heap := h', toks := tk }) →
      PySem.W.StarOf (model X.prog X.w) X.A X.xe (.ref s1.heap.objs.size) Q2 { s1 with heap := s1.heap.push { cls := .type "dict_items", data := .fields #[.ref d] } } := fun Q2 k => by
    unfold PySem.W.StarOf notIterableAtAll
    refine wpAny_bind (wpAny_specialOf hT PySem.F.slot_dict_items_iter.lookup (wpAny_pure ⟨rfl, ?_⟩))
    refine DT.collectI (es := es') (ep := ep) (I1.ok.hd hc) view (raw.push _) (by omega) fun h' tk as hk hlt hl hG => ?_
    exact k h' tk as (fun b o e => hk b o (Heap.get?_push_of_some _ e)) hl (hG.low (by show s1.heap.objs.size ≤ (s1.heap.push _).objs.size; rw [Heap.size_push]; exact Nat.le_succ _))
  refine z _ fun h' tk as hk hl hG => ?_
  have nd : as.Nodup := List.Pairwise.imp (fun h => Nat.ne_of_lt h) hG.rise
  have I2 : Inv X pins σ H1 { s1 with heap := h', toks := tk } := I1.kept (t' := tk) hk
  obtain ⟨H2, I3, g, tk2⟩ := DX.takeT (P := fun (a : Addr) (vs : List V) => ∃ (j : Nat) (k : List Key) (v : V) (q : Addr), as[j]? = some a ∧ kvs[j]? = some (k, v) ∧ H1 q = some (.tup (k.map kV)) ∧ vs = [.ref q, v]) I1 as H1 I2 nd fun a ha => by
    obtain ⟨j, hj⟩ := List.mem_iff_getElem?.mp ha
    obtain ⟨en, hen, hobj⟩ := hG.pairs j a hj
    have hjl : j < kvs.length := by
      have := (List.getElem?_eq_some_iff.mp hj).1
      omega
    obtain ⟨en', q', hen', hkey, hq, hrv⟩ := ent j kvs[j].1 kvs[j].2 (List.getElem?_eq_getElem hjl)
    have ee : en' = en := by
      rw [hen] at hen'
      exact (Option.some.inj hen').symm
    subst ee
    have hab := hG.above a ha
    rw [hkey] at hobj
    exact ⟨Nat.le_of_lt hab, I1.hok.fresh (Nat.le_of_lt hab), [.ref q', kvs[j].2], ⟨j, _, _, q', hj, List.getElem?_eq_getElem hjl, hq, rfl⟩, fun H2 => ⟨by show 2 ≤ sizeLine; decide, [.ref q', en'.val], .cons rfl (.cons hrv .nil), ⟨_, hobj, rfl, _, rfl⟩⟩⟩
  have hits : Its H2 (as.map V.ref) kvs := by
    refine ⟨by rw [List.length_map]; omega, fun j k v hj => ?_⟩
    have hjl : j < as.length := by
      have := (List.getElem?_eq_some_iff.mp hj).1
      omega
    have hja := List.getElem?_eq_getElem hjl
    obtain ⟨vs, ⟨j', k', v', q', h1, h2, h3, rfl⟩, h4⟩ := tk2 as[j] (List.getElem_mem hjl)
    have ej : j' = j := by
      have hj' := (List.getElem?_eq_some_iff.mp h1)
      obtain ⟨hl', e'⟩ := hj'
      have hr := List.pairwise_iff_getElem.mp hG.rise
      rcases Nat.lt_trichotomy j' j with hlt | heq | hgt
      · exact absurd e' (Nat.ne_of_lt (hr j' j hl' hjl hlt))
      · exact heq
      · exact absurd e'.symm (Nat.ne_of_lt (hr j j' hjl hl' hgt))
    subst ej
    rw [hj] at h2
    cases h2
    exact ⟨as[j'], q', by rw [List.getElem?_map, hja]; rfl, h4, g _ _ h3⟩
  exact thn (hr.run pos pins _ σ H2 _ I3 (q H2 (as.map V.ref) (fun b o e => g b o e) hits)) fun ws s3 ⟨vs, H3, I4, r3, q3⟩ => ⟨as.map V.ref ++ vs, H3, I4, (vals_refs as).append r3, q3⟩
theorem SR.ext {Hf F : Hp} {ρ : List Addr} {C : Cells} {H H2 : Hp} (S : SR K Hf F ρ C H) (e : Same H H2) : SR K Hf F ρ C H2 :=
  ⟨fun b u h => e _ _ (S.ex b u h), fun b u h => e _ _ (S.fr b u h), S.ap, S.len, fun n a o h1 h2 => by
    obtain ⟨k1, k2⟩ := S.cel n a o h1 h2
    obtain ⟨w, hw⟩ := k2.some
    have := e _ _ hw
    rw [hw] at k2
    rw [this]
    exact ⟨k1, k2⟩, S.inj, fun t ht => ⟨(S.tab t ht).1, (S.tab t ht).2.mono (fun _ _ h => h) fun o h _ => e _ _ h⟩, S.nt⟩
theorem its_dats {F : Hp} {ρ : List Addr} {C : Cells} {H2 : Hp} : ∀ {ks : List (List Key)} {xs : List V} {ds : List D} {ps : List V} {Hf : Hp}, SR K Hf F ρ C H2 → ks.length = xs.length → Dats K Hf ρ xs ds → Its H2 ps (ks.zip xs) →
    ∃ Hf2, Same Hf Hf2 ∧ SR K Hf2 F ρ C H2 ∧ Dats K Hf2 ρ ps (its2 ks ds)
  | [], xs, ds, ps, Hf, S0, hl, hs, hi => by
    have h0 : ps = [] := by
      have := hi.1
      simpa using this
    subst h0
    exact ⟨Hf, Same.refl _, S0, .nil⟩
  | k :: ks, [], _, _, _, _, hl, _, _ => by simp at hl
  | k :: ks, x :: xs, _ :: _, [], _, _, _, _, hi => by have := hi.1; simp at this
  | k :: ks, x :: xs, d :: ds, p :: ps, Hf, S0, hl, .cons h1 hs, hi => by
    obtain ⟨pa, q, e1, e2, e3⟩ := hi.2 0 k x rfl
    cases Option.some.inj e1
    obtain ⟨Hf1, s1, S1, t1⟩ := S0.addTup e3
    obtain ⟨Hf2, s2, S2, t2⟩ := S1.addTup e2
    have e12 := s1.trans s2
    obtain ⟨Hf3, s3, S3, D3⟩ := its_dats (ks := ks) (xs := xs) (ps := ps) S2 (by simpa using hl) (hs.mono e12 (List.prefix_refl _)) ⟨by have := hi.1; simpa using this, fun j k v hj => hi.2 (j + 1) k v hj⟩
    refine ⟨Hf3, e12.trans s3, S3, ?_⟩
    show Dats K Hf3 ρ _ (D.tup [kT k, d] :: its2 ks ds)
    exact .cons (.tup (s3 _ _ t2) (.cons (.tup (s3 _ _ (s2 _ _ t1)) (Dats.kVs k)) (.cons ((h1.mono e12 (List.prefix_refl _)).mono s3 (List.prefix_refl _)) .nil))) D3
def ditl : D → Option (List D)
  | .dt ks ds => some (its2 ks ds)
  | _ => none
def aStarIt (a : S D) (r : S (List D)) : S (List D) := S.bind a fun x => S.bind (S.opt (ditl x)) fun xs => S.bind r fun ys => S.val (xs ++ ys)
theorem sa_starIt {o : Expr} {es : List Expr} {p apos cpos : Pos} {s : S D} {r : S (List D)} (hc : X.calm = true) (he : SE X W o s) (hr : SA X W es r)
    (hs : starEach (.Starred (.Call (.Attribute o "items" apos) [] [] cpos) p :: es) X.env = (true, eval (.Call (.Attribute o "items" apos) [] [] cpos) X.env) :: starEach es X.env := by rfl)
    (hbase : attributeBase o "items" X.env (eval o X.env) = eval o X.env := by rfl) (hline : (apos.endLine == cpos.line) = true := by rfl) :
    SA X W (.Starred (.Call (.Attribute o "items" apos) [] [] cpos) p :: es) (aStarIt s r) :=
  pa_imp (pa_starIt hc he hr hs hbase hline) fun σ H Q ⟨Hf, F, ρ, env, C, S0, E0, g⟩ => ⟨Hf, F, ρ, env, C, S0, E0, (Go.bind g).mono fun x H1 ⟨Hf1, ρ1, C1, a, e1, p1, S1, A1, g1⟩ => by
    cases A1 with
    | @dt ad ks xs ds h hl hs =>
      obtain ⟨o, h⟩ := h
      refine ⟨ad, o, _, rfl, S1.ex _ _ h, fun H2 ps e hi => ?_⟩
      obtain ⟨Hf2, s2, S2, D2⟩ := its_dats (S1.ext e) hl hs hi
      have g2 : Go X.K X.mg W (Dats X.K) σ Hf1 F ρ1 (S.bind r (fun ys => S.val (its2 ks ds ++ ys)) env C1) Q := g1
      refine ⟨Hf2, F, ρ1, env, C1, S2, (E0.mono e1 p1).mono s2 (List.prefix_refl _), (Go.bind (Go.later g2 s2 (List.prefix_refl _))).mono fun ys H3 ⟨Hf3, ρ3, C3, b, e3, p3, S3, A3, g3⟩ => ?_⟩
      exact Go.val (env := env) g3 S3 ((D2.mono e3 p3).app A3)
    | _ =>
      unfold S.bind at g1
      exact g1.elim⟩
end
end Sm
end
section
set_option maxRecDepth 100000
set_option maxHeartbeats 0
namespace Sm
variable [Tabs0]
open PySem PySem.Spec PyProof.Rows L2

/-! ### {k: v for .. in ..}, the keys tuples: as the kit's rule for ints and texts -/
/-- d[k] = v by a comprehension, k a tuple -/
theorem d_dictSetT {X : Cx} {pins : List (Addr × Obj)} {σ : L2.St} {H : Hp} {s : Shared} {E : Value → Shared → Prop} {D b : Addr} {kvs : List (List Key × V)} {k : List Key} {v : V} {u r : Value} {Q : Unit → Shared → Prop} (hu : X.A.units + 1 < cLine) (I : Inv X pins σ H s) (hD : H D = some (.dT kvs)) (hz : kvs.length < sizeLine)
    (ry : RelV (.ref b) u) (hb : H b = some (.tup (k.map kV))) (rv : RelV v r) (h : ∀ s', Inv X pins σ (upd H D (.dT (putK kvs k v))) s' → Q () s') : wpAny (model X.prog X.w) X.A (dictSet D u r) Q E s := by
  cases (show u = Value.ref b from ry)
  obtain ⟨z, hd, xs, rel, dd⟩ := dt_of I.hok hD
  have hzv : xs.length ≤ sizeLine := by rw [← Paired.length rel]; exact z
  have hl : (putK kvs k v).length ≤ sizeLine := by have := length_putK kvs k v; omega
  refine wpAny_dictSet_heap (hsz := hzv) (show X.A.units < cLine by omega) (key_of I.hok hb) dd fun h' dd' hs => h _ ?_
  obtain ⟨q, es, ep, hq, h2, h3, h4, _, h5⟩ := dd'
  refine d_write I (by rw [hD]; exact True.intro) hs ⟨q, hq⟩ ⟨hl, hd, _, (rel.put k hb rv).keeps fun c ys ec => ?_, q, es, ep, hq, h2, h3, h4, h5⟩
  rw [upd_ne (ne_of ec hD (fun z => nomatch z))]
  exact ec
section
variable {X : Cx}
/-- {k: v for target in iter if ..}, keys tuples: D the new dict -/
def tDcT (wi : TI) (g : TG) (tt : TT) (tk tv : TE) (vs : List Nat) : TE := fun σ H Q => wi σ H fun J H1 => ∀ D, H1 D = none → ∃ W : Nat → Nat → Hp → Prop, (∃ m, W 0 m (upd H1 D (.dT []))) ∧ ∀ i m H, W i m H →
  (J.stop i H ∧ Q (.ref D) H) ∨ (J.go i H ∧ ∃ Nx : Hp → Prop, (∀ H', Nx H' → ∃ m', m' < m ∧ W (i + 1) m' H') ∧ ∀ x H', J.yld i H x H' → g x (wipe σ vs) H' fun σ2 H2 => wipe σ2 vs = wipe σ vs ∧ tt σ2 H2 fun b H3 =>
    if b = true then tk σ2 H3 fun y H4 => tv σ2 H4 fun z H5 => ∃ kvs k b, y = .ref b ∧ H5 b = some (.tup (k.map kV)) ∧ H5 D = some (.dT kvs) ∧ kvs.length < sizeLine ∧ Nx (upd H5 D (.dT (putK kvs k z))) else Nx H3)
theorem dcT_core {pins : List (Addr × Obj)} {s : Shared} {σ : L2.St} {H : Hp} {Q : VK} {kx vx tg iter : Expr} {ifs : List Expr} {scope : Scope} {own : List (Str × Nat)} {pos pos' : Pos} {wi : TI} {g : TG} {tt : TT} {tk tv : TE} {use : Option (Value → Sem Unit)} {Qf : Value → Shared → Prop}
    (hu : X.A.units + 1 < cLine) (hc : X.calm = true) (hN : X.N.Nodup) (I : Inv X pins σ H s) (hi : PI X tg iter wi) (ok : BlkOk X.N X.env.scope scope own)
    (hg : ∀ (s : Shared) (H : Hp) (C : Addr) (cl : List (Str × Addr)) (fp : List Addr), PG (X.blk s H scope (compEnvC scope cl C X.env) fp) tg g) (ht : ∀ (s : Shared) (H : Hp) (C : Addr) (cl : List (Str × Addr)) (fp : List Addr), PTs (X.blk s H scope (compEnvC scope cl C X.env) fp) ifs tt)
    (hk : ∀ (s : Shared) (H : Hp) (C : Addr) (cl : List (Str × Addr)) (fp : List Addr), PE (X.blk s H scope (compEnvC scope cl C X.env) fp) kx tk)
    (he : ∀ (s : Shared) (H : Hp) (C : Addr) (cl : List (Str × Addr)) (fp : List Addr), PE (X.blk s H scope (compEnvC scope cl C X.env) fp) vx tv) (hs : ∀ x, foldedSetIterable iter X.env x = pure x)
    (h : tDcT wi g tt tk tv (own.map (·.2)) σ H Q)
    (hRR : ∀ D C s' m H', Inv X pins σ H' s' → Q (.ref D) H' → s'.heap.Ns C m → FpOk X pins H' C → compPost (model X.prog X.w) X.A X.xe use Qf (.ref D) C (.ok .next) s') :
    wpAny (model X.prog X.w) X.A (comprehension (.DictComp kx vx [⟨tg, iter, ifs, 0⟩] scope pos) scope X.env pos' newDict false (eval iter X.env) use) Qf X.xe s := by
  have hfree : ∀ y ∈ scope.names, y.2 = .free → ∃ c, X.env.cells.lookup y.1 = some c := fun y hy e => by
    rcases ok.free y hy e with k | k
    · exact I.ok.has _ (.inl k)
    · exact I.ok.has _ (.inr k)
  refine wpAny_comprehension_free (use := use) rfl hs (closure_ok hfree) ok.kind (fun y hy e => by rw [ok.uniq y hy, e])
    (thn (hi.run pins s σ H _ I h) fun xv s1 hx => thn hx fun itv s2 h2 => ?_)
  obtain ⟨it, fp, tn, J, H2, e, I2, T, st2, f2, q⟩ := h2
  subst e
  refine wpAny_newObj_type (newEnv_comp ?_)
  generalize hD : s2.heap.objs.size = D
  have hDn : H2 D = none := I2.hok.fresh (Nat.le_of_eq hD)
  obtain ⟨W, ⟨m0, w0⟩, turn⟩ := q D hDn
  -- the new list
  generalize hs3 : ({ s2 with heap := s2.heap.push { cls := .type "dict", data := .dict #[] } } : Shared) = s3
  have I3 : Inv X pins σ (upd H2 D (.dT [])) s3 := by
    rw [← hs3]
    refine I2.laid (t' := s2.toks) (fun b o e => Heap.get?_push_of_some _ e) (Nat.le_of_eq hD) ?_
    rw [← hD]
    exact dt_empty s2.heap I2.big
  have h3 : s3.heap = s2.heap.push { cls := .type "dict", data := .dict #[] } := by rw [← hs3]
  have sz : ∀ b ∈ fp, b < s2.heap.objs.size := fun b hb => by
    obtain ⟨o, e, _⟩ := T.obj _ _ st2 b hb
    exact Heap.lt_size e
  have f3 : ∀ b ∈ fp, FpOk X pins (upd H2 D (.dT [])) b ∧ b < s3.heap.objs.size := fun b hb => by
    have hlt := sz b hb
    refine ⟨⟨?_, (f2 b hb).2⟩, by rw [h3, Heap.size_push]; exact Nat.lt_succ_of_lt hlt⟩
    rw [upd_ne (by rw [← hD]; exact Nat.ne_of_lt hlt)]
    exact (f2 b hb).1
  have st3 : tn 0 s3.heap := T.keep _ _ _ st2 fun b _ o e => by rw [h3]; exact Heap.get?_push_of_some _ e
  have I4 := block_start I3 ok hN f3
  have pg := hg s3 (upd H2 D (.dT [])) s3.heap.objs.size (cellsFrom (s3.heap.objs.size + 1) scope.names (cloFrom X.env.cells scope.names [])) fp
  have pt := ht s3 (upd H2 D (.dT [])) s3.heap.objs.size (cellsFrom (s3.heap.objs.size + 1) scope.names (cloFrom X.env.cells scope.names [])) fp
  have pk := hk s3 (upd H2 D (.dT [])) s3.heap.objs.size (cellsFrom (s3.heap.objs.size + 1) scope.names (cloFrom X.env.cells scope.names [])) fp
  have pe := he s3 (upd H2 D (.dT [])) s3.heap.objs.size (cellsFrom (s3.heap.objs.size + 1) scope.names (cloFrom X.env.cells scope.names [])) fp
  show codeAny _ _ (.compStart (.DictComp kx vx [⟨tg, iter, ifs, 0⟩] scope pos) 0 (.ref it) (.ref D) (compEnvC scope (cellsFrom (s3.heap.objs.size + 1) scope.names (cloFrom X.env.cells scope.names [])) s3.heap.objs.size X.env)) (compPost (model X.prog X.w) X.A X.xe use Qf (.ref D) s3.heap.objs.size) { s3 with heap := pushCells (s3.heap.push { cls := .type "dict", data := .dict #[] }) scope.names }
  have nfp : ∀ b ∈ fp, (upd H2 D (.dT [])) b = none := fun b hb => (f3 b hb).1.1
  generalize hce : compEnvC scope (cellsFrom (s3.heap.objs.size + 1) scope.names (cloFrom X.env.cells scope.names [])) s3.heap.objs.size X.env = ce at I4 pg pt pk pe ⊢
  have cL : ce.locals = s3.heap.objs.size := by subst hce; rfl
  generalize hH3 : upd H2 D (.dT []) = H3 at I3 I4 pg pt pk pe w0 nfp f3
  generalize hs4 : ({ s3 with heap := pushCells (s3.heap.push { cls := .type "dict", data := .dict #[] }) scope.names } : Shared) = s4 at I4 ⊢
  have st4 : tn 0 s4.heap := T.keep _ _ _ st3 fun b _ o e => by rw [← hs4]; exact pushCells_keeps _ _ _ _ (Heap.get?_push_of_some _ e)
  have stat : ∀ {σ' : L2.St} {H' : Hp} {s' : Shared}, Inv (X.blk s3 H3 scope ce fp) [] σ' H' s' → (∀ b ∈ fp, H' b = none) → ∀ b ∈ fp, FpOk (X.blk s3 H3 scope ce fp) [] H' b := fun {σ' H' s'} I' hn b hb =>
    ⟨hn b hb, (I'.ok.exf b hb).1, I'.ok.exfs b hb, .inl hb, fun x c e => (I'.ok.exf b hb).2 x c e, fun p hp => absurd (show p ∈ ([] : List (Addr × Obj)) ++ [] from hp) (by simp)⟩
  have loop : codeAny (model X.prog X.w) X.A (.compLoop (.DictComp kx vx [⟨tg, iter, ifs, 0⟩] scope pos) 0 (.ref it) (.ref D) ce) (compPost (model X.prog X.w) X.A X.xe use Qf (.ref D) s3.heap.objs.size) s4 := by
    refine L2.compLoop_anyD (fun n s' => ∃ i H', Inv (X.blk s3 H3 scope ce fp) [] (wipe σ (own.map (·.2))) H' s' ∧ tn i s'.heap ∧ (∀ b ∈ fp, H' b = none) ∧ W i n H') ?_ m0 ⟨0, H3, I4, st4, nfp, w0⟩
    rintro n s5 ⟨i, H5, I5, st5, n5, w5⟩
    rcases turn i n H5 w5 with ⟨stop, qq⟩ | ⟨go, Nx, hNx, step⟩
    · have td := T.done (X.blk s3 H3 scope ce fp) rfl rfl rfl hc i [] s5 _ H5 (fun _ _ => False) I5 (stat I5 n5) st5 stop
      refine thnF td fun r s6 ⟨hr, I6⟩ => ?_
      subst hr
      -- back in the def's context
      have I7 : Inv X pins σ H5 s6 := I3.call' (ch := fp) I6.os I6.base I6.hok I6.bare fun b hb => ⟨(f3 b hb).1.2.2.2.1, (f3 b hb).1.2.1, (f3 b hb).1.2.2.2.2.1, (f3 b hb).1.2.2.2.2.2⟩
      have nC : H5 s3.heap.objs.size = none := by
        have z : H5 ce.locals = none := I6.free
        rw [cL] at z
        exact z
      obtain ⟨m, hn, _⟩ := I6.loc
      have hn : s6.heap.Ns ce.locals m := hn
      rw [cL] at hn
      exact hRR D s3.heap.objs.size s6 m H5 I7 qq hn (I3.fpOk (Nat.le_refl _) nC)
    · have ti := T.item (X.blk s3 H3 scope ce fp) rfl rfl rfl hc i [] s5 _ H5 (fun _ _ => False) I5 (stat I5 n5) st5 go
      refine thnF ti fun r s6 ⟨u, hr, h6⟩ => ?_
      subst hr
      refine thnF h6 fun _ s7 ⟨x, H7, I7, r7, y7, st7, n7⟩ => ?_
      have I7' := I7.pinned (stat I7 n7) (T.obj _ _ st7)
      refine thnF (pg.run _ s7 _ H7 x u _ I7' r7 (step x H7 y7)) fun _ s8 ⟨σ8, H8, I8, hw8, q8⟩ => ?_
      refine thnF (pt.run _ s8 σ8 H8 _ I8 q8) fun b s9 ⟨H9, I9, q9⟩ => ?_
      -- the turn's end
      have fin : ∀ {s' : Shared} {H' : Hp}, Inv (X.blk s3 H3 scope ce fp) ([] ++ pinsAt fp s7.heap) σ8 H' s' → Nx H' → ∃ m, m < n ∧ ∃ i H', Inv (X.blk s3 H3 scope ce fp) [] (wipe σ (own.map (·.2))) H' s' ∧ tn i s'.heap ∧ (∀ b ∈ fp, H' b = none) ∧ W i m H' := fun {s' H'} I' nx => by
        obtain ⟨m', hm, w'⟩ := hNx H' nx
        have pin' : ∀ b ∈ fp, ∀ o, s7.heap.get? b = some o → s'.heap.get? b = some o ∧ H' b = none := fun b hb o e =>
          let z := I'.pin (b, o) (List.mem_append_right _ (List.mem_append_right _ (mem_pinsAt hb e)))
          ⟨z.1, z.2.1⟩
        have hl : (wipe σ (own.map (·.2))).length = σ8.length := by rw [← hw8, wipe_length]
        refine ⟨m', hm, i + 1, H', (I'.unpinned (pins := [])).weak hl (fun j v e => ?_), T.keep _ _ _ st7 fun b hb o e => (pin' b hb o e).1, fun b hb => ?_, w'⟩
        · rw [← hw8] at e
          exact (wipe_some e).1
        · obtain ⟨o, e, _⟩ := T.obj _ _ st7 b hb
          exact (pin' b hb o e).2
      cases b with
      | false =>
        simp only [Bool.false_eq_true, if_false] at q9 ⊢
        exact fin I9 q9
      | true =>
        simp only [if_true] at q9 ⊢
        refine thnF (pk.run _ s9 σ8 H9 _ I9 q9) fun z s10 ⟨yk, H10, I10, r10, q10⟩ => ?_
        refine thnF (pe.run _ s10 σ8 H10 _ I10 q10) fun z2 s11 ⟨yv, H11, I11, r11, kvs, k, kb, ek, hkb, hD11, hz11, nx⟩ => ?_
        subst ek
        exact d_dictSetT (X := X.blk s3 H3 scope ce fp) hu I11 hD11 hz11 r10 hkb r11 fun s12 I12 => fin I12 nx
  exact codeAny_compStart_dict loop (T.self X.A 0 _ _ _ st4 loop)
/-- as a value -/
theorem pe_dcT {kx vx tg iter : Expr} {ifs : List Expr} {scope : Scope} {own : List (Str × Nat)} {pos : Pos} {wi : TI} {g : TG} {tt : TT} {tk tv : TE} (hu : X.A.units + 1 < cLine) (hc : X.calm = true) (hN : X.N.Nodup) (hi : PI X tg iter wi) (ok : BlkOk X.N X.env.scope scope own)
    (hg : ∀ (s : Shared) (H : Hp) (C : Addr) (cl : List (Str × Addr)) (fp : List Addr), PG (X.blk s H scope (compEnvC scope cl C X.env) fp) tg g) (ht : ∀ (s : Shared) (H : Hp) (C : Addr) (cl : List (Str × Addr)) (fp : List Addr), PTs (X.blk s H scope (compEnvC scope cl C X.env) fp) ifs tt)
    (hk : ∀ (s : Shared) (H : Hp) (C : Addr) (cl : List (Str × Addr)) (fp : List Addr), PE (X.blk s H scope (compEnvC scope cl C X.env) fp) kx tk)
    (he : ∀ (s : Shared) (H : Hp) (C : Addr) (cl : List (Str × Addr)) (fp : List Addr), PE (X.blk s H scope (compEnvC scope cl C X.env) fp) vx tv) (hs : ∀ x, foldedSetIterable iter X.env x = pure x := by intro _; rfl) :
    PE X (.DictComp kx vx [⟨tg, iter, ifs, 0⟩] scope pos) (tDcT wi g tt tk tv (own.map (·.2))) := by
  refine ⟨fun pins s σ H Q I h => ?_⟩
  rw [arm_eval_DictComp]
  refine dcT_core hu hc hN I hi ok hg ht hk he hs h fun D C s' m H' I' q hn f => ⟨m, hn, fun h'' sb => ?_⟩
  obtain ⟨f0, f1, f2, f3, f4, f5⟩ := f
  exact ⟨.ref D, H', I'.turned (t' := s'.toks) (fun b o hb e => (sb.2 b hb).trans e) f0 f1 f3 f4 f5, rfl, q⟩
end
variable {K : PySem.W.Frag} {mg : Str → Option Value}
def dcs (g : Gd) (t : Tg) (c : S Bool) (kx vx : S D) : List D → List (List Key) → List D → S D
  | [], ks, ds => fun _ C => if g C = true then some (.ok (.dt ks ds) C) else none
  | d :: r, ks, ds => fun e C => if g C = true then match t.put d e with
      | none => none
      | some e1 => match c e1 C with
        | some (.ok true C1) => match kx e1 C1 with
          | some (.ok k C2) => match vx e1 C2 with
            | some (.ok v C3) => match ky (vw C3 k) with
              | some kk => dcs g t c kx vx r (addK ks kk) (putV ks ds kk v) e C3
              | none => none
            | _ => none
          | _ => none
        | some (.ok false C1) => dcs g t c kx vx r ks ds e C1
        | _ => none
    else none
def okS (s : S D) : S D := fun e C => match s e C with
  | some (.ok d C') => some (.ok d C')
  | _ => none
def xDc (it : SW) (t : Tg) (c : S Bool) (kx vx : S D) (vs : List Nat) : S D := S.bind it fun p => if p.1.length ≤ 1000000 then (fun e C => okS (dcs p.2 t c kx vx p.1 [] []) (wipeE e vs) C) else fun _ _ => none
theorem SR.outT {Hf F : Hp} {ρ : List Addr} {C : Cells} {H : Hp} {p : Addr} {ks : List (List Key)} {xs : List V} {ds : List D} (hF : F p = none) (S : SR K Hf (upd F p (.dT (ks.zip xs))) ρ C H) (hl : ks.length = xs.length) (h : Dats K Hf ρ xs ds) :
    H p = some (.dT (ks.zip xs)) ∧ ∀ od, ∃ Hf', Same Hf Hf' ∧ SR K Hf' F ρ C (upd H p (.frz od (.dT (ks.zip xs)))) ∧ Dat K Hf' ρ (.ref p) (.dt ks ds) := by
  have hf : Hf p = none := (S.ap p _ upd_same).resolve_right fun h => h
  have hH : H p = some (.dT (ks.zip xs)) := S.fr p _ upd_same
  refine ⟨hH, fun od => ?_⟩
  have e0 : Same Hf (upd Hf p (.frz od (.dT (ks.zip xs)))) := fun b u q => by
    rw [upd_ne (ne_of_none q hf)]
    exact q
  have tb : ∀ t ∈ Tabs0.T, t.1 ≠ p ∧ F t.1 = none := fun t ht => by
    have k1 := (S.tab t ht).1.2
    have ha : t.1 ≠ p := fun e => by
      rw [e, upd_same] at k1
      cases k1
    rw [upd_ne ha] at k1
    exact ⟨ha, k1⟩
  have nF : ∀ b ps, F b ≠ some (.tbl ps) := fun b ps e => by
    by_cases hb : b = p
    · rw [hb, hF] at e
      cases e
    · exact (S.nt b ps).2 (by rw [upd_ne hb]; exact e)
  refine ⟨_, e0, ⟨fun b u q => ?_, fun b u q => ?_, fun b o q => ?_, S.len, fun n a o h1 h2 => ?_, S.inj, fun t ht => ⟨⟨by rw [upd_ne (tb t ht).1]; exact (S.tab t ht).1.1, (tb t ht).2⟩, (S.tab t ht).2.mono e0 fun o h _ => by rw [upd_ne (tb t ht).1]; exact h⟩, fun b ps => ⟨fun e => by
    by_cases hb : b = p
    · rw [hb, upd_same] at e
      cases e
    · rw [upd_ne hb] at e
      exact (S.nt b ps).1 e, nF b ps⟩⟩, .dt ⟨od, upd_same⟩ hl (h.mono e0 (List.prefix_refl _))⟩
  · by_cases hb : b = p
    · subst hb
      rw [upd_same] at q ⊢
      exact q
    · rw [upd_ne hb] at q ⊢
      exact S.ex b u q
  · have hb : b ≠ p := ne_of_none q hF
    rw [upd_ne hb]
    exact S.fr b u (by rw [upd_ne hb]; exact q)
  · have hb : b ≠ p := ne_of_none q hF
    rw [upd_ne hb]
    exact S.ap b o (by rw [upd_ne hb]; exact q)
  · obtain ⟨⟨k0, k1⟩, k2⟩ := S.cel n a o h1 h2
    have ha : a ≠ p := fun e => by
      subst e
      rw [upd_same] at k1
      cases k1
    rw [upd_ne ha] at k1
    rw [upd_ne ha, upd_ne ha]
    exact ⟨⟨k0, k1⟩, k2.mono e0⟩
theorem addK_len (ks : List (List Key)) (k : List Key) : (addK ks k).length ≤ ks.length + 1 := by
  unfold addK
  split
  · omega
  · rw [List.length_append]
    exact Nat.le_refl _
section
variable {X : Cx} {W : Wh}
theorem goDc {it : SW} {t : Tg} {c : S Bool} {kx vx : S D} {vs : List Nat} (hv : ∀ j ∈ t.at_, j ∈ vs) {σ : L2.St} {H : Hp} {Q : VK} (hput : ∀ d e e', t.put d e = some e' → e'.length = e.length) (h : tE X.K X.mg W (xDc it t c kx vx vs) σ H Q) :
    tDcT (tI X.K X.mg W it) (gG X.K X.mg none t) (tT X.K X.mg W0 c) (tE X.K X.mg W0 kx) (tE X.K X.mg W0 vx) vs σ H (fun x H1 => ∃ d u, x = .ref d ∧ H1 d = some u ∧ Mut (some u) ∧ ∀ od, Q x (upd H1 d (.frz od u))) := by
  obtain ⟨Hf, F, ρ, env, C, S0, E0, g⟩ := h
  refine ⟨Hf, F, ρ, env, C, S0, E0, ?_⟩
  unfold xDc S.bind at g
  cases hit : it env C with
  | none =>
    rw [hit] at g
    exact g
  | some r =>
    rw [hit] at g
    cases r with
    | ex c' p C' => exact g
    | ok p C' =>
      obtain ⟨ds, gd⟩ := p
      refine fun J H1 Hf1 ρ1 e1 p1 S1 w1 Dl hD => ?_
      simp only [] at g
      split at g
      · rename_i hfew
        have E1 := (E0.mono e1 p1).plain.wipe vs
        have hF : F Dl = none := S1.fr.free hD
        refine ⟨fun i m H2 => i ≤ ds.length ∧ m = ds.length - i ∧ ∃ Hf2 ρ2 C2 ks xs dd, Same Hf1 Hf2 ∧ ρ1 <+: ρ2 ∧ SR X.K Hf2 (upd F Dl (.dT (ks.zip xs))) ρ2 C2 H2 ∧ ks.length ≤ i ∧ ks.length = xs.length ∧ Dats X.K Hf2 ρ2 xs dd ∧
          (match dcs gd t c kx vx (ds.drop i) ks dd (wipeE env vs) C2 with
            | some (.ok d C3) => ∀ v H' Hf' ρ', Same Hf2 Hf' → ρ2 <+: ρ' → SR X.K Hf' F ρ' C3 H' → Dat X.K Hf' ρ' v d → Q v H'
            | _ => False), ⟨ds.length, Nat.zero_le _, rfl, Hf1, ρ1, C', [], [], [], Same.refl _, List.prefix_refl _, S1.intoF hD, Nat.zero_le _, rfl, .nil, ?_⟩, ?_⟩
        · rw [List.drop_zero]
          have g : Go X.K X.mg W (Dat X.K) σ Hf F ρ (match dcs gd t c kx vx ds [] [] (wipeE env vs) C' with | some (R.ok d C') => some (R.ok d C') | _ => none) Q := g
          cases hl : dcs gd t c kx vx ds [] [] (wipeE env vs) C' with
          | none =>
            rw [hl] at g
            exact g.elim
          | some r =>
            rw [hl] at g
            cases r with
            | ok y C3 => exact fun v H' Hf' ρ' e' p' s' d' => g v H' Hf' ρ' (e1.trans e') (p1.trans p') s' d'
            | ex c' q C3 => exact g.elim
        · rintro i m H2 ⟨hi, rfl, Hf2, ρ2, C2, ks, xs, dd, e2, p2, S2, hks, hkx, D2, g2⟩
          by_cases hlt : i < ds.length
          · rw [List.drop_eq_getElem_cons hlt] at g2
            unfold dcs at g2
            by_cases hgd : gd C2 = true
            · rw [if_pos hgd] at g2
              obtain ⟨go, yl⟩ := (w1 i Hf2 _ ρ2 C2 H2 e2 p2 S2 hgd).1 hlt
              refine .inr ⟨go, fun H3 => ∃ Hf3 ρ3 C3 ks xs dd, Same Hf1 Hf3 ∧ ρ1 <+: ρ3 ∧ SR X.K Hf3 (upd F Dl (.dT (ks.zip xs))) ρ3 C3 H3 ∧ ks.length ≤ i + 1 ∧ ks.length = xs.length ∧ Dats X.K Hf3 ρ3 xs dd ∧
                (match dcs gd t c kx vx (ds.drop (i + 1)) ks dd (wipeE env vs) C3 with
                  | some (.ok d C3) => ∀ v H' Hf' ρ', Same Hf3 Hf' → ρ3 <+: ρ' → SR X.K Hf' F ρ' C3 H' → Dat X.K Hf' ρ' v d → Q v H'
                  | _ => False), fun H3 q => ⟨ds.length - (i + 1), by omega, hlt, rfl, q⟩, fun y H3 hy => ?_⟩
              obtain ⟨d, Hf3, hd, e3, S3, D3⟩ := yl y H3 hy
              have ed : ds[i] = d := by
                rw [List.getElem?_eq_getElem hlt] at hd
                exact Option.some.inj hd
              rw [ed] at g2
              cases ht : t.put d (wipeE env vs) with
              | none =>
                rw [ht] at g2
                exact g2.elim
              | some env3 =>
                rw [ht] at g2
                simp only [] at g2
                have E3 := E1.mono (e2.trans e3) p2
                refine ⟨Hf3, _, ρ2, wipeE env vs, C2, d, S3, E3, D3, env3, ht, fun σ4 E4 f4 => ⟨?_, Hf3, _, ρ2, env3, C2, S3, E4, ?_⟩⟩
                · rw [← wipe_wipe (σ := σ)]
                  refine wipe_same ?_ fun j hj => f4 j fun z => hj (hv j z)
                  rw [E4.len, hput _ _ _ ht, E3.len]
                · cases hc : c env3 C2 with
                  | none =>
                    rw [hc] at g2
                    exact g2.elim
                  | some rc =>
                    rw [hc] at g2
                    cases rc with
                    | ex c' q C3 => exact g2.elim
                    | ok b C3 =>
                      refine fun b' H4 Hf4 ρ4 e4 p4 S4 hb => ?_
                      have hb' : b' = b := hb
                      subst hb'
                      cases b' with
                      | false =>
                        simp only [] at g2
                        refine ⟨Hf4, ρ4, C3, ks, xs, dd, (e2.trans e3).trans e4, p2.trans p4, S4, Nat.le_succ_of_le hks, hkx, D2.mono (e3.trans e4) p4, ?_⟩
                        cases hl : dcs gd t c kx vx (ds.drop (i + 1)) ks dd (wipeE env vs) C3 with
                        | none =>
                          rw [hl] at g2
                          exact g2
                        | some r =>
                          rw [hl] at g2
                          cases r with
                          | ex _ _ _ => exact g2
                          | ok ys C5 => exact fun v H' Hf' ρ' e' p' s' d' => g2 v H' Hf' ρ' ((e3.trans e4).trans e') (p4.trans p') s' d'
                      | true =>
                        simp only [] at g2
                        refine L2.iteT ?_
                        refine ⟨Hf4, _, ρ4, env3, C3, S4, E4.mono e4 p4, ?_⟩
                        cases hk : kx env3 C3 with
                        | none =>
                          rw [hk] at g2
                          exact g2.elim
                        | some rk =>
                          rw [hk] at g2
                          cases rk with
                          | ex c' q C5 => exact g2.elim
                          | ok dk C5 =>
                            simp only [] at g2
                            refine fun vk H5 Hf5 ρ5 e5 p5 S5 D5 => ⟨Hf5, _, ρ5, env3, C5, S5, (E4.mono e4 p4).mono e5 p5, ?_⟩
                            cases hx : vx env3 C5 with
                            | none =>
                              rw [hx] at g2
                              exact g2.elim
                            | some rx =>
                              rw [hx] at g2
                              cases rx with
                              | ex c' q C6 => exact g2.elim
                              | ok dy C6 =>
                                simp only [] at g2
                                refine fun vy H6 Hf6 ρ6 e6 p6 S6 D6 => ?_
                                cases hkk : ky (vw C6 dk) with
                                | none =>
                                  rw [hkk] at g2
                                  exact g2.elim
                                | some kk =>
                                  rw [hkk] at g2
                                  simp only [] at g2
                                  obtain ⟨kb, rfl, hkb⟩ := ky_ok S6.ex (vw_ok S6 (D5.mono e6 p6)) hkk
                                  have hlt2 : (ks.zip xs).length < sizeLine := by
                                    rw [List.length_zip, sizeLine_eq]
                                    omega
                                  refine ⟨ks.zip xs, kk, kb, rfl, hkb, S6.fr Dl _ upd_same, hlt2, ?_⟩
                                  rw [putK_zip hkx]
                                  have eall := ((e3.trans e4).trans e5).trans e6
                                  have pall := (p4.trans p5).trans p6
                                  have al := addK_len ks kk
                                  refine ⟨Hf6, ρ6, C6, addK ks kk, putV ks xs kk vy, putV ks dd kk dy, e2.trans eall, p2.trans pall, S6.growF, by omega, putV_len hkx, Dats.put D6 (D2.mono eall pall), ?_⟩
                                  cases hl : dcs gd t c kx vx (ds.drop (i + 1)) (addK ks kk) (putV ks dd kk dy) (wipeE env vs) C6 with
                                  | none =>
                                    rw [hl] at g2
                                    exact g2
                                  | some r =>
                                    rw [hl] at g2
                                    cases r with
                                    | ex _ _ _ => exact g2
                                    | ok ys C7 => exact fun v H' Hf' ρ' e' p' s' d' => g2 v H' Hf' ρ' (eall.trans e') (pall.trans p') s' d'
            · rw [if_neg hgd] at g2
              exact g2.elim
          · have ei : i = ds.length := by omega
            subst ei
            rw [List.drop_eq_nil_of_le (Nat.le_refl _)] at g2
            unfold dcs at g2
            by_cases hgd : gd C2 = true
            · rw [if_pos hgd] at g2
              obtain ⟨hH, fin⟩ := S2.outT hF hkx D2
              refine .inl ⟨(w1 _ Hf2 _ ρ2 C2 H2 e2 p2 S2 hgd).2 (Nat.le_refl _), Dl, _, rfl, hH, True.intro, fun od => ?_⟩
              obtain ⟨Hf3, e3, S3, D3⟩ := fin od
              exact g2 _ _ Hf3 ρ2 e3 (List.prefix_refl _) S3 D3
            · rw [if_neg hgd] at g2
              exact g2.elim
      · exact g.elim
theorem se_dc {e : Expr} {it : SW} {t : Tg} {c : S Bool} {kx vx : S D} {vs : List Nat} (hv : ∀ j ∈ t.at_, j ∈ vs) (hput : ∀ d e e', t.put d e = some e' → e'.length = e.length)
    (h : PE X e (tDcT (tI X.K X.mg W it) (gG X.K X.mg none t) (tT X.K X.mg W0 c) (tE X.K X.mg W0 kx) (tE X.K X.mg W0 vx) vs)) : SE X W e (xDc it t c kx vx vs) := pe_imp (pe_lockP h) fun _ _ _ q => goDc hv hput q
end
end Sm
end
section
set_option maxRecDepth 100000
set_option maxHeartbeats 0
namespace Sm
variable [Tabs0]
open PySem PySem.W PySem.Calls PySem.Spec PyProof.Rows PyProof.V

section
variable {prog : Program} {w : World} {A : Around} {E : Value → Shared → Prop} {s : Shared}
/-- a dict's keys, put together -/
theorem collectK {R : List Value → Shared → Prop} {d : Addr} {es : Array DictEntry} {ep : Nat} (hh : A.handled = none) (lo : (d == sysModules) = false) (hm : s.heap.DictRaw d es ep) (hn : es.size ≤ sizeLine)
    (h : ∀ (h' : Heap) (tk : Nat) (vs : Array Value), (∀ b o, s.heap.get? b = some o → h'.get? b = some o) → s.heap.objs.size < h'.objs.size → ItemsOf (fun i v => ∃ hi : i < es.size, v = es[i].key) vs es.size → R vs.toList { s with heap := h', toks := tk }) :
    wpAny (model prog w) A (collect (.ref d)) R E s := by
  have KS := KdlSrc.rawDict (prog := prog) (w := w) (d := d) (es := es) (ep := ep) lo
  have hd : d < s.heap.objs.size := (KS.there _ hm).1
  unfold collect
  refine wpAny_bind (wpAny_runValue (codeAny_builtin entry_proto_collect' ?_))
  rw [Around.under_plainId PySem.F.plain_proto_collect _]
  show wpAny _ A.in1 (newList [] >>= fun l => again (.builtin "list.__iadd__" ⟨[l, .ref d], []⟩)) _ _ s
  refine wpAny_bind (wpAny_newObj_type ?_)
  refine wpAny_pure ⟨plainId_quiet PySem.F.plain_list_iadd _, codeAny_builtin entry_list_iadd' ?_⟩
  rw [Around.under_plainId PySem.F.plain_list_iadd _]
  have hS₁ : (s.heap.push { cls := .type "list", data := .seq ([] : List Value).toArray }).get? s.heap.objs.size = some { cls := .type "list", data := .seq #[] 0 } := Heap.get?_push_size _ rfl
  have hm1 : (s.heap.push { cls := .type "list", data := .seq ([] : List Value).toArray }).DictRaw d es ep := KS.keep _ _ hm fun b _ o e => Heap.get?_push_of_some _ e
  show wpAny _ A.in1 (Builtin.List.listExtendWith (.ref s.heap.objs.size) (.ref d) (.ref s.heap.objs.size)) _ _ _
  have key := kdl_extend (A := A) (s := { s with heap := s.heap.push { cls := .type "list", data := .seq ([] : List Value).toArray } })
    (R := fun (q : Result) (s' : Shared) => ∃ (h' : Heap) (tk : Nat) (acc' : Array Value) (c' : Nat), q = .ok (.ret (.ref s.heap.objs.size)) ∧ s' = { s with heap := h', toks := tk } ∧
      (∀ b o, s.heap.get? b = some o → h'.get? b = some o) ∧ h'.get? s.heap.objs.size = some { cls := .type "list", dict := none, data := .seq acc' c', slots := #[] } ∧ ItemsOf (fun i v => ∃ hi : i < es.size, v = es[i].key) acc' es.size)
    KS hh hm1 s.heap.objs.size (Nat.ne_of_gt hd) (Nat.ne_of_gt hd) (.ref s.heap.objs.size) 0 hS₁
    (fun h' tk acc' c' hk hS' hG => ⟨h', tk, acc', c', rfl, rfl, fun b o e => hk b o (Nat.ne_of_lt (Heap.lt_size e)) (Heap.get?_push_of_some _ e), hS', hG⟩) hn
  refine wpAny_mono key (fun fin s' x => ?_) fun e s' x => ?_
  · cases fin with
    | done f =>
      obtain ⟨h', tk, acc', c', e, rfl, hk, hS', hG⟩ := x
      cases e
      show wpAny _ A (load s.heap.objs.size >>= _) _ _ _
      refine wpAny_bind (wpAny_load hS' ?_)
      refine wpAny_pure ?_
      show R acc'.toList _
      exact h h' tk acc' hk (Heap.lt_size hS') hG
    | again c₁ =>
      refine ⟨x.1, codeAny_mono x.2 fun q s₂ y => ?_⟩
      obtain ⟨h', tk, acc', c', rfl, rfl, hk, hS', hG⟩ := y
      show wpAny _ A (load s.heap.objs.size >>= _) _ _ _
      refine wpAny_bind (wpAny_load hS' ?_)
      refine wpAny_pure ?_
      show R acc'.toList _
      exact h h' tk acc' hk (Heap.lt_size hS') hG
  · obtain ⟨_, _, _, _, e', _⟩ := x
    cases e'
/-- sorted(d) up to the sort of the keys -/
theorem sortedK {Q : Value → Shared → Prop} {d : Addr} {es : Array DictEntry} {ep : Nat} (hh : A.handled = none) (lo : (d == sysModules) = false) (hm : s.heap.DictRaw d es ep) (hn : es.size ≤ sizeLine)
    (h : ∀ (h' : Heap) (tk : Nat) (vs : List Value), (∀ b o, s.heap.get? b = some o → h'.get? b = some o) → s.heap.objs.size < h'.objs.size → vs.length = es.size → (∀ j (v : Value), vs[j]? = some v → ∃ hj : j < es.size, v = es[j].key) →
      wpAny (model prog w) A.in1 (call (.builtin "list.sort") [.ref h'.objs.size]) (fun _ s' => Q (.ref h'.objs.size) s') E { s with heap := h'.push { cls := .type "list", data := .seq vs.toArray }, toks := tk }) :
    wpAny (model prog w) A (call (.builtin "sorted") [.ref d]) Q E s := by
  refine call_function_entry kind_sorted plain_sorted entry_sorted (args_sorted1 _) ?_
  unfold Builtin.«sorted»
  refine wpAny_bind (m := checkCount "sorted" 1 1 _) (wpAny_pure ?_)
  refine wpAny_bind (collectK (A := A.in1) (es := es) (ep := ep) hh lo hm hn fun h' tk vs hk hlt hG => ?_)
  have hsz : vs.toList.length = es.size := by rw [Array.length_toList]; exact hG.1
  refine wpAny_bind (wpAny_newList ?_ (by rw [hsz]; exact hn))
  have hg := h h' tk vs.toList hk hlt hsz (fun j v e => hG.2 j v (by simpa using e))
  refine wpAny_bind (wpAny_holding (wpAny_mono hg (fun _ s' x => ?_) fun _ _ e => e))
  exact wpAny_pure ⟨_, rfl, x⟩
end
open L2
/-- rows of ints as data -/
def encI (k : List Int) : PyData := .tuple (k.map .int)
def leI : List Int → List Int → Bool := dataLe false encI
def sortR (ns : List (List Int)) : List (List Int) := ns.mergeSort leI
theorem readsI {h : Heap} : ∀ {k : List Int} {its : List Value}, Vals (k.map V.int) its → ReadsAll h its (k.map .int) []
  | [], _, .nil => .nil
  | i :: k, _, .cons r rs => by
    obtain ⟨t, rfl⟩ := r
    have := ReadsAll.cons (h := h) (.int i t) (readsI rs)
    simpa using this
theorem each_get {α β : Type} {R : α → β → Prop} : ∀ {as : List α} {bs : List β}, as.length = bs.length → (∀ (j : Nat) a b, as[j]? = some a → bs[j]? = some b → R a b) → EachIs R as bs
  | [], [], _, _ => .nil
  | [], _ :: _, h, _ => by simp at h
  | _ :: _, [], h, _ => by simp at h
  | a :: as, b :: bs, h, k => .cons (k 0 a b rfl rfl) (each_get (by simpa using h) fun j a b h1 h2 => k (j + 1) a b h1 h2)
/-- tuples of ints that stand -/
def KeyR (H : Hp) (y : V) (n : List Int) : Prop := ∃ q, y = .ref q ∧ H q = some (.tup (n.map V.int))
def KeyU (H : Hp) (u : Value) (n : List Int) : Prop := ∃ q, u = .ref q ∧ H q = some (.tup (n.map V.int))
theorem keyL {H : Hp} : ∀ {us : List Value} {ns : List (List Int)}, EachIs (KeyU H) us ns → ∃ ys, Vals ys us ∧ EachIs (KeyR H) ys ns
  | _, _, .nil => ⟨[], .nil, .nil⟩
  | _, _, .cons ⟨q, e, h⟩ t => by
    obtain ⟨ys, h1, h2⟩ := keyL t
    subst e
    exact ⟨.ref q :: ys, .cons rfl h1, .cons ⟨q, rfl, h⟩ h2⟩
def rSortD : List V → Hp → VK → Prop := fun vs H Q => ∃ (a : Addr) (kvs : List (List Key × V)) (ns : List (List Int)), vs = [.ref a] ∧ Rd H a (.dT kvs) ∧ kvs.map (·.1) = ns.map (·.map Sum.inl) ∧ (∀ n ∈ ns, n ≠ []) ∧
  ∀ (ys : List V) (p : Addr), EachIs (KeyR H) ys (sortR ns) → H p = none → Q (.ref p) (upd H p (.lst ys))
theorem kV_inl (n : List Int) : (n.map Sum.inl).map kV = n.map V.int := by
  rw [List.map_map]
  rfl
theorem cr_sortedD {X : Cx} (hc : X.calm = true) (hu : X.A.units + 64 < cLine) : CallR X (.builtin "sorted") rSortD := by
  intro pins s σ H vs us Q I r h
  obtain ⟨a, kvs, ns, rfl, ha, hks, hne, q⟩ := h
  obtain rfl := Vals.ref1 r
  obtain ⟨z, hd, xs', rel, o, es, ep, ho, hx, hdat, hes, his, hnd⟩ := dt_rd I.hok ha
  have l1 : kvs.length = xs'.length := Paired.length rel
  have l2 : es.size = xs'.length := size_of_entries hes
  have l3 : kvs.length = ns.length := by
    have := congrArg List.length hks
    simpa using this
  refine sortedK (es := es) (ep := ep) (I.ok.hd hc) hd ⟨o, ho, hx, hdat⟩ (by omega) fun h' tk vs hk hlt hl hG => ?_
  have hL : h'.objs.size ≠ s.heap.objs.size := Nat.ne_of_gt hlt
  have e1 : EachIs (KeyU H) vs ns := each_get (by omega) fun j v n hv hn => by
    obtain ⟨hj, rfl⟩ := hG j v hv
    have hjx : j < xs'.length := by omega
    have hjk : j < kvs.length := by omega
    obtain ⟨b, hb, r1, r2, r3⟩ := paired_get rel (List.getElem?_eq_getElem hjk)
    have he := entry_at hes j
    rw [hb, Array.getElem?_eq_getElem hj] at he
    have he' : es[j] = entryOfKey (tupleKind (mixKind X.prog X.w)) b := by simpa using he
    have hkn : kvs[j].1 = n.map Sum.inl := by
      have := congrArg (fun l => l[j]?) hks
      simp only [List.getElem?_map, List.getElem?_eq_getElem hjk, hn, Option.map_some] at this
      exact Option.some.inj this
    refine ⟨b.2.1, by rw [he']; rfl, ?_⟩
    rw [← kV_inl, ← hkn]
    exact r2
  have hpush : ∀ b o, s.heap.get? b = some o → (h'.push { cls := .type "list", data := .seq vs.toArray }).get? b = some o := fun b o e => Heap.get?_push_of_some _ (hk b o e)
  have hob : (h'.push { cls := .type "list", data := .seq vs.toArray }).get? h'.objs.size = some (seqObj "list" vs.toArray 0) := Heap.get?_push_size _ rfl
  have er : EachIs (fun v b => ∃ as, Reads (h'.push { cls := .type "list", data := .seq vs.toArray }) v (encI b) as ∧ h'.objs.size ∉ as) vs ns := e1.mono fun v b ⟨q, e, hq⟩ => by
    subst e
    obtain ⟨_, its, rv, ot, hot, hct, nt, hdt⟩ := (show ObjOk X.prog X.w H s.heap q (.tup (b.map V.int)) from I.hok q _ hq)
    exact ⟨[], .tuple (hpush _ _ hot) hct hdt (by simpa using readsI rv), by simp⟩
  refine list_sort_data (R := KeyU H) (enc := encI) (bs := ns) hob e1 er (AllAlike.of fun b b' => ?_) (.inl fun d hd => ?_) (by omega) (fun b hb => ?_) fun out ho2 eo => ?_
  · show alike (.tuple _) (.tuple _) = true
    simp only [alike]
    exact alike_ints _ _
  · obtain ⟨b, hb, rfl⟩ := List.mem_map.mp hd
    cases b with
    | nil => exact absurd rfl (hne _ hb)
    | cons i b => exact ⟨_, _, rfl⟩
  · show X.A.units + 1 + 1 + (PyData.tuple _).depth < cLine
    have := depth_ints b
    rw [PyData.depth, this]
    omega
  · obtain ⟨ys, hy1, hy2⟩ := keyL eo
    obtain ⟨ep2, hat⟩ := sortedHeap_at (out := out.toArray) hob
    have hylen : ys.length ≤ sizeLine := by rw [hy1.length, ho2]; omega
    refine ⟨.ref h'.objs.size, upd H h'.objs.size (.lst ys), I.laid (t' := tk) (fun b o e => ?_) (Nat.le_of_lt hlt) ⟨hylen, out, ep2, hy1, hat⟩, rfl, q ys _ hy2 (I.hok.fresh (Nat.le_of_lt hlt))⟩
    have hb1 := hpush b o e
    rw [sortedHeap_old (Nat.ne_of_lt (Heap.lt_size (hk b o e))) (Heap.lt_size hb1)]
    exact hb1

/-! ### sorted(d), the keys rows of ints -/
def kInt : Key → Option Int
  | .inl i => some i
  | .inr _ => none
def kRow : List Key → Option (List Int)
  | [] => some []
  | k :: ks => match kInt k, kRow ks with
    | some i, some r => some (i :: r)
    | _, _ => none
def rowsK : List (List Key) → Option (List (List Int))
  | [] => some []
  | k :: ks => match kRow k, rowsK ks with
    | some (i :: r), some rs => some ((i :: r) :: rs)
    | _, _ => none
def rowD (n : List Int) : D := .tup (n.map D.int)
theorem kRow_ok : ∀ {k : List Key} {n : List Int}, kRow k = some n → k = n.map Sum.inl
  | [], _, e => by cases e; rfl
  | k :: ks, n, e => by
    unfold kRow at e
    split at e
    · rename_i i r h1 h2
      cases e
      rw [kRow_ok h2]
      cases k with
      | inl j => cases h1; rfl
      | inr x => cases h1
    · cases e
theorem rowsK_ok : ∀ {ks : List (List Key)} {ns : List (List Int)}, rowsK ks = some ns → ks = ns.map (·.map Sum.inl) ∧ ∀ n ∈ ns, n ≠ []
  | [], _, e => by cases e; exact ⟨rfl, fun n h => by cases h⟩
  | k :: ks, n, e => by
    unfold rowsK at e
    split at e
    · rename_i i r rs h1 h2
      cases e
      obtain ⟨e1, e2⟩ := rowsK_ok h2
      refine ⟨by rw [kRow_ok h1, e1]; rfl, fun n h => ?_⟩
      rcases List.mem_cons.mp h with rfl | h
      · exact List.cons_ne_nil _ _
      · exact e2 n h
    · cases e
def srtD : List D → Option (List D)
  | [.dt ks _] => (rowsK ks).map fun ns => (sortR ns).map rowD
  | _ => none
def xSrtD (s : S (List D)) : S (List D) := S.bind s fun ds => fun env C => S.opt (srtD (ds.map (vw C))) env C
theorem rows_dats {K : PySem.W.Frag} {F : Hp} {ρ : List Addr} {C : Cells} {H : Hp} : ∀ {ys : List V} {ns : List (List Int)} {Hf : Hp}, SR K Hf F ρ C H → EachIs (KeyR H) ys ns → ∃ Hf2, Same Hf Hf2 ∧ SR K Hf2 F ρ C H ∧ Dats K Hf2 ρ ys (ns.map rowD)
  | _, _, Hf, S0, .nil => ⟨Hf, Same.refl _, S0, .nil⟩
  | _, _, Hf, S0, .cons ⟨q, e, h⟩ t => by
    subst e
    obtain ⟨Hf1, s1, S1, t1⟩ := S0.addTup h
    obtain ⟨Hf2, s2, S2, D2⟩ := rows_dats S1 t
    exact ⟨Hf2, s1.trans s2, S2, .cons (.tup (s2 _ _ t1) (dats_ints _)) D2⟩
section
variable {X : Cx} {W : Wh}
theorem sl_srtD {x : Str} {p pos : Pos} {es : List Expr} {s : S (List D)} (h : PE X (.Call (.Name x p) es [] pos) (tCB rSortD (tA X.K X.mg W s))) :
    SL X W (.Call (.Name x p) es [] pos) (xSrtD s) := pe_imp h fun σ H Q ⟨Hf, F, ρ, env, C, S0, E0, g⟩ => ⟨Hf, F, ρ, env, C, S0, E0, by
    unfold xSrtD S.bind at g
    cases e : s env C with
    | none =>
      rw [e] at g
      exact g
    | some r =>
      rw [e] at g
      cases r with
      | ex c q C' => exact g
      | ok ds C' =>
        refine fun vs H' Hf' ρ' e' p' S' A' => ?_
        have g' : GoL X.K X.mg W σ Hf F ρ (S.opt (srtD (ds.map (vw C'))) env C') Q := g
        cases hd : srtD (ds.map (vw C')) with
        | none =>
          rw [hd] at g'
          exact g'.elim
        | some es =>
          rw [hd] at g'
          have hv := vws_ok S' A'
          unfold srtD at hd
          split at hd
          · rename_i ks ds0 heq
            obtain ⟨ns, h1, h2⟩ := Option.map_eq_some_iff.mp hd
            subst h2
            rw [heq] at hv
            cases hv with
            | cons h hs =>
              cases hs
              obtain ⟨a, xs, rfl, hx, hl, hs⟩ := h.dt S'.ex
              obtain ⟨e1, e2⟩ := rowsK_ok h1
              refine ⟨a, ks.zip xs, ns, rfl, hx, ?_, e2, fun ys l hy hl => ?_⟩
              · rw [← e1]
                have : (ks.zip xs).map (·.1) = ks := List.map_fst_zip (by omega)
                exact this
              · obtain ⟨Hf2, s2, S2, D2⟩ := rows_dats S' hy
                exact g' (.ref l) _ Hf2 ρ' (e'.trans s2) p' (fresh_new S2 hl D2)
          · cases hd⟩
end
theorem un1 {n : Nat} (h : n + 65 < cLine) : n + 1 < cLine := by omega
theorem un64 {n : Nat} (h : n + 65 < cLine) : n + 64 < cLine := by omega
end Sm
end
section
set_option maxRecDepth 100000
set_option maxHeartbeats 0
namespace Sm
variable [Tabs0]
open PySem PyProof.Rows L2
/-! ### dict(xs), xs a list of pairs, the keys tuples -/
def mergeT (kvs more : List (List Key × V)) : List (List Key × V) := more.foldl (fun acc kv => putK acc kv.1 kv.2) kvs
theorem KT.mergeT {H : Hp} : ∀ {more : List (List Key × V)} {rs : List (List Key × Addr × Value)} {kvs : List (List Key × V)} {xs : List (List Key × Addr × Value)}, KT H more rs → KT H kvs xs → KT H (mergeT kvs more) (storedAllH xs rs)
  | _, _, _, _, .nil, r => r
  | _, _, kvs0, xs0, .cons (a := p) (b := q) ⟨h1, h2, h3⟩ t, r => by
    obtain ⟨k, v⟩ := p
    obtain ⟨k', b, u⟩ := q
    cases (show k = k' from h1)
    have := KT.mergeT (kvs := putK kvs0 k v) (xs := storedH xs0 k b u) t (L2.KT.put r k h2 h3)
    exact this
theorem mergeT_len : ∀ (more kvs : List (List Key × V)), (mergeT kvs more).length ≤ kvs.length + more.length
  | [], kvs => Nat.le_refl _
  | p :: more, kvs => by
    have h1 := mergeT_len more (putK kvs p.1 p.2)
    have h2 := length_putK kvs p.1 p.2
    show (mergeT (putK kvs p.1 p.2) more).length ≤ _
    rw [List.length_cons]
    omega
section
variable {X : Cx}
theorem pairsT_of {pins : List (Addr × Obj)} {σ : L2.St} {H : Hp} {s : Shared} (I : Inv X pins σ H s) : ∀ {ps : List Addr} {kvs : List (List Key × V)}, Paired (fun p kv => ∃ q, SqT X.K H p [.ref q, kv.2] ∧ H q = some (.tup (kv.1.map kV))) ps kvs →
    ∃ prs : List (List Key × Addr × Value), KT H kvs prs ∧ prs.length = ps.length ∧ ∀ (j : Nat) (x : List Key × Addr × Value), prs[j]? = some x → ∃ b : Addr, ps[j]? = some b ∧ s.heap.IsTuple b #[.ref x.2.1, x.2.2]
  | _, _, .nil => ⟨[], .nil, rfl, fun j q e => by simp at e⟩
  | _, _, .cons (a := p) (b := kv) ⟨q, h, hq⟩ t => by
    obtain ⟨prs, r, hl, hp⟩ := pairsT_of I t
    obtain ⟨its, rv, ht, _⟩ := I.tuple h
    obtain ⟨u, y, ei, ru, ry⟩ := vals2 rv
    subst ei
    cases (show u = Value.ref q from ru)
    refine ⟨(kv.1, q, y) :: prs, .cons ⟨rfl, hq, ry⟩ r, by rw [List.length_cons, List.length_cons, hl], fun j x e => ?_⟩
    cases j with
    | zero =>
      have e' : (kv.1, q, y) = x := Option.some.inj e
      subst e'
      exact ⟨p, rfl, ht⟩
    | succ j =>
      obtain ⟨b, e1, e2⟩ := hp j x (by simpa using e)
      exact ⟨b, by simpa using e1, e2⟩
def rDictPT (K : PySem.W.Frag) : List V → Hp → VK → Prop := fun xs H Q => ∃ (a : Addr) (ps : List Addr) (kvs : List (List Key × V)), xs = [.ref a] ∧ SqL K H a (ps.map V.ref) ∧ Paired (fun p kv => ∃ q, SqT K H p [.ref q, kv.2] ∧ H q = some (.tup (kv.1.map kV))) ps kvs ∧
    ∀ p, H p = none → Q (.ref p) (upd H p (.dT (mergeT [] kvs)))
theorem call_dictPT (hcalm : X.calm = true) (hu : X.A.units + 65 < cLine) : CallR X (.type "dict") (rDictPT X.K) := by
  intro pins s σ H xs us Q I r q
  obtain ⟨a, ps, kvs, ex, hq, hp, q⟩ := q
  subst ex
  obtain rfl := Vals.ref1 r
  obtain ⟨its, rv, pl, hz⟩ := I.list hq
  have ei := refs_at rv
  subst ei
  rw [List.length_map] at hz
  obtain ⟨prs, rel, hl, hpr⟩ := pairsT_of I hp
  obtain ⟨o, n, ho, hc, hd, hdat⟩ := pl
  have hkl : kvs.length = prs.length := Paired.length rel
  have P := PairArg.list (prog := X.prog) (w := X.w) a (ps.map Value.ref).toArray (fun j => ps.getD j 0) (prs.map fun x => (Value.ref x.2.1, x.2.2))
  refine call_dict_pairsH (knd := tupleKind (mixKind X.prog X.w)) (ps := prs) P (I.ok.hd hcalm) (show X.A.units + 1 + 1 < cLine by omega) ⟨⟨o, n, ho, hc, hd, hdat⟩, by simp [hl], fun j k v e => ?_⟩ ⟨by simp, fun i key v e => ?_⟩ (fun h' hk x hx => ?_) (by rw [List.length_map]; omega) fun h' tk hd' hk => ?_
  · rw [List.getElem?_map] at e
    obtain ⟨x, hx, ex⟩ := Option.map_eq_some_iff.mp e
    cases ex
    obtain ⟨b, hb, ht⟩ := hpr j x hx
    have : ps.getD j 0 = b := by rw [List.getD_eq_getElem?_getD, hb]; rfl
    refine ⟨by simp [List.getD_eq_getElem?_getD, hb], ?_⟩
    show PairAt s.heap (ps.getD j 0) _ _
    rw [this]
    exact .inl ht
  · have e : (prs.map fun x => (Value.ref x.2.1, x.2.2))[i]? = some (key, v) := e
    rw [List.getElem?_map] at e
    obtain ⟨x, hx, ex⟩ := Option.map_eq_some_iff.mp e
    cases ex
    exact ⟨x.1, x.2.1, hx, rfl⟩
  · have hkey : (tupleKind (mixKind X.prog X.w)).is s.heap x.1 x.2.1 := by
      obtain ⟨j, hj⟩ := List.mem_iff_getElem?.mp hx
      have hjl := (List.getElem?_eq_some_iff.mp hj).1
      obtain ⟨y, hy, e1, e2, _⟩ := paired_get rel (List.getElem?_eq_getElem (by omega : j < kvs.length))
      rw [hj] at hy
      cases hy
      have e2 : H x.2.1 = some (.tup (kvs[j].1.map kV)) := e2
      rw [show kvs[j].1 = x.1 from e1] at e2
      exact key_of I.hok e2
    exact tupleKind_stays.stays (fun b o' vs n' e _ => hk b o' (Nat.ne_of_lt (Heap.lt_size e)) (by simp) e) hkey
  · have hm : (s.heap.objs.size == sysModules) = false := beq_eq_false_iff_ne.mpr (Nat.ne_of_gt I.big)
    have rel2 := KT.mergeT rel (show KT H [] [] from .nil)
    have hlen : (mergeT [] kvs).length ≤ sizeLine := by
      have := mergeT_len kvs []
      have h0 : ([] : List (List Key × V)).length = 0 := rfl
      omega
    obtain ⟨o2, es, ep, h1, h2, h3, h4, _, h5⟩ := hd'
    have hfree := I.hok.fresh (Nat.le_refl s.heap.objs.size)
    refine ⟨.ref s.heap.objs.size, upd H s.heap.objs.size (.dT (mergeT [] kvs)), I.laid (t' := tk) (fun b ob e => hk b ob (by simp) e) (Nat.le_refl _) ⟨hlen, hm, _, rel2.keeps fun c ys ec => ?_, o2, es, ep, h1, h2, h3, h4, h5⟩, rfl, q _ hfree⟩
    rw [upd_ne (ne_of_none ec hfree)]
    exact ec
end
def mrg {α : Type} (ks : List (List Key)) (xs : List α) : List (List Key × α) → List (List Key) × List α
  | [] => (ks, xs)
  | p :: l => mrg (addK ks p.1) (putV ks xs p.1 p.2) l
theorem mergeT_zip : ∀ (l : List (List Key × V)) {ks : List (List Key)} {xs : List V}, ks.length = xs.length → mergeT (ks.zip xs) l = (mrg ks xs l).1.zip (mrg ks xs l).2 ∧ (mrg ks xs l).1.length = (mrg ks xs l).2.length
  | [], ks, xs, h => ⟨rfl, h⟩
  | p :: l, ks, xs, h => by
    have := mergeT_zip l (putV_len (k := p.1) (v := p.2) h)
    show mergeT (putK (ks.zip xs) p.1 p.2) l = (mrg (addK ks p.1) (putV ks xs p.1 p.2) l).1.zip (mrg (addK ks p.1) (putV ks xs p.1 p.2) l).2 ∧ (mrg (addK ks p.1) (putV ks xs p.1 p.2) l).1.length = (mrg (addK ks p.1) (putV ks xs p.1 p.2) l).2.length
    rw [putK_zip h]
    exact this
theorem mrg_dats {K : PySem.W.Frag} {H : Hp} {ρ : List Addr} : ∀ {l : List (List Key × V)} {l' : List (List Key × D)} {ks : List (List Key)} {xs : List V} {ds : List D}, l.map (·.1) = l'.map (·.1) → Dats K H ρ (l.map (·.2)) (l'.map (·.2)) → Dats K H ρ xs ds →
    (mrg ks xs l).1 = (mrg ks ds l').1 ∧ Dats K H ρ (mrg ks xs l).2 (mrg ks ds l').2
  | [], [], _, _, _, _, _, h => ⟨rfl, h⟩
  | [], _ :: _, _, _, _, e, _, _ => by simp at e
  | _ :: _, [], _, _, _, e, _, _ => by simp at e
  | (k, v) :: l, (k', d) :: l', ks, xs, ds, e, hv, h => by
    rw [List.map_cons, List.map_cons, List.cons.injEq] at e
    have e1 : k = k' := e.1
    subst e1
    cases hv with
    | cons h1 hs => exact mrg_dats (ks := addK ks k) e.2 hs (Dats.put h1 h)
def dpairs : List D → Option (List (List Key × D))
  | [] => some []
  | .tup [k, v] :: r => match ky k, dpairs r with
    | some kk, some l => some ((kk, v) :: l)
    | _, _ => none
  | _ => none
theorem ky_tup {K : PySem.W.Frag} {Hf : Hp} {ρ : List Addr} {v : V} {d : D} {k : List Key} (h : Dat K Hf ρ v d) (hk : ky d = some k) : ∃ q, v = .ref q ∧ Hf q = some (.tup (k.map kV)) := by
  cases h with
  | tup h hs =>
    have := kyA_ok hs hk
    subst this
    exact ⟨_, rfl, h⟩
  | _ => cases hk
theorem dpairs_ok {K : PySem.W.Frag} {Hf H : Hp} {ρ : List Addr} (e : Same Hf H) : ∀ {xs : List V} {items : List D} {l' : List (List Key × D)}, Dats K Hf ρ xs items → dpairs items = some l' →
    ∃ (ps : List Addr) (l : List (List Key × V)), xs = ps.map V.ref ∧ Paired (fun p kv => ∃ q, SqT K H p [.ref q, kv.2] ∧ H q = some (.tup (kv.1.map kV))) ps l ∧ l.map (·.1) = l'.map (·.1) ∧ Dats K Hf ρ (l.map (·.2)) (l'.map (·.2))
  | _, _, _, .nil, hd => by
    cases hd
    exact ⟨[], [], rfl, .nil, rfl, .nil⟩
  | _, _, _, .cons (v := v) (d := d) (ds := ds) h hs, hd => by
    unfold dpairs at hd
    split at hd
    · rename_i heq
      cases heq
    · rename_i k v' r heq
      cases heq
      split at hd
      · rename_i kk l h1 h2
        cases hd
        cases h with
        | tup ha hb =>
          cases hb with
          | cons hk hb =>
            cases hb with
            | cons hv hb =>
              cases hb
              obtain ⟨q, rfl, hq⟩ := ky_tup hk h1
              obtain ⟨ps, l2, rfl, p2, p3, p4⟩ := dpairs_ok e hs h2
              exact ⟨_ :: ps, (kk, _) :: l2, rfl, .cons ⟨q, .inl (.inl (e _ _ ha)), e _ _ hq⟩ p2, by rw [List.map_cons, List.map_cons, p3], .cons hv p4⟩
      · cases hd
    · cases hd
def dictP : List D → Option (List (List Key) × List D)
  | [.lst items] => (dpairs items).map (mrg [] [])
  | _ => none
def xDictP (s : S (List D)) : S D := S.bind s fun ds => fun env C => S.opt ((dictP (ds.map (vw C))).map fun p => D.dt p.1 p.2) env C
def xDictPC (s : S (List D)) : S D := S.bind s fun ds => fun _ C => match dictP (ds.map (vw C)) with
  | some p => if nocels p.2 = true then some (.ok (.cel C.length) (C ++ [some (.t p.1 p.2)])) else none
  | none => none
theorem dictP_ok {K : PySem.W.Frag} {Hf F H : Hp} {ρ : List Addr} {C : Cells} {vs : List V} {ds : List D} {p : List (List Key) × List D} (S0 : SR K Hf F ρ C H) (A : Dats K Hf ρ vs ds) (hp : dictP (ds.map (vw C)) = some p) :
    ∃ (a : Addr) (ps : List Addr) (l : List (List Key × V)) (xs : List V), vs = [.ref a] ∧ SqL K H a (ps.map V.ref) ∧ Paired (fun p kv => ∃ q, SqT K H p [.ref q, kv.2] ∧ H q = some (.tup (kv.1.map kV))) ps l ∧ mergeT [] l = p.1.zip xs ∧ p.1.length = xs.length ∧ Dats K Hf ρ xs p.2 := by
  have hv := vws_ok S0 A
  unfold dictP at hp
  split at hp
  · rename_i items heq
    obtain ⟨l', h1, h2⟩ := Option.map_eq_some_iff.mp hp
    rw [heq] at hv
    cases hv with
    | cons h hs =>
      cases hs
      obtain ⟨a, xs, rfl, hx, hd⟩ := h.lst S0.ex
      obtain ⟨ps, l, rfl, p2, p3, p4⟩ := dpairs_ok S0.ex hd h1
      obtain ⟨z1, z2⟩ := mergeT_zip l (ks := []) (xs := []) rfl
      obtain ⟨y1, y2⟩ := mrg_dats (ks := []) p3 p4 (show Dats K Hf ρ [] [] from .nil)
      rw [h2] at y1 y2
      exact ⟨a, ps, l, (mrg [] [] l).2, rfl, hx, p2, by rw [← y1]; exact z1, by rw [← y1]; exact z2, y2⟩
  · cases hp
section
variable {X : Cx} {W : Wh}
theorem se_dictP {x : Str} {p pos : Pos} {es : List Expr} {s : S (List D)} (h : PE X (.Call (.Name x p) es [] pos) (tCB (rDictPT X.K) (tA X.K X.mg W s))) :
    SE X W (.Call (.Name x p) es [] pos) (xDictP s) := pe_imp (pe_lockP h) fun σ H Q ⟨Hf, F, ρ, env, C, S0, E0, g⟩ => ⟨Hf, F, ρ, env, C, S0, E0, (Go.bind g).mono fun vs H1 ⟨Hf1, ρ1, C1, ds, e1, p1, S1, A1, g1⟩ => by
  obtain ⟨d, hd, g2⟩ := Go.opt g1
  obtain ⟨pr, hpr, rfl⟩ := Option.map_eq_some_iff.mp hd
  obtain ⟨a, ps, l, xs, rfl, k1, k2, k3, k4, k5⟩ := dictP_ok S1 A1 hpr
  refine ⟨a, ps, l, rfl, k1, k2, fun q hq => ?_⟩
  refine ⟨q, _, rfl, upd_same, True.intro, fun od => ?_⟩
  rw [k3]
  obtain ⟨Hf2, e2, S2, D2⟩ := S1.newT (od := od) hq k4 k5
  have hh : upd (upd H1 q (.dT (pr.1.zip xs))) q (.frz od (.dT (pr.1.zip xs))) = upd H1 q (.frz od (.dT (pr.1.zip xs))) := upd_upd
  rw [hh]
  exact g2 (.ref q) _ Hf2 ρ1 e2 (List.prefix_refl _) S2 D2⟩
theorem se_dictPC {x : Str} {p pos : Pos} {es : List Expr} {s : S (List D)} (h : PE X (.Call (.Name x p) es [] pos) (tCB (rDictPT X.K) (tA X.K X.mg W s))) :
    SE X W (.Call (.Name x p) es [] pos) (xDictPC s) := pe_imp h fun σ H Q ⟨Hf, F, ρ, env, C, S0, E0, g⟩ => ⟨Hf, F, ρ, env, C, S0, E0, (Go.bind g).mono fun vs H1 ⟨Hf1, ρ1, C1, ds, e1, p1, S1, A1, g1⟩ => by
  cases hpr : dictP (ds.map (vw C1)) with
  | none =>
    simp only [hpr] at g1
    exact g1.elim
  | some pr =>
    simp only [hpr] at g1
    obtain ⟨a, ps, l, xs, rfl, k1, k2, k3, k4, k5⟩ := dictP_ok S1 A1 hpr
    refine ⟨a, ps, l, rfl, k1, k2, fun q hq => ?_⟩
    split at g1
    · rename_i nc
      rw [k3]
      have S2 : SR X.K Hf1 F (ρ1 ++ [q]) (C1 ++ [some (.t pr.1 pr.2)]) (upd H1 q (.dT (pr.1.zip xs))) := S1.newOb hq (.t k4 (k5.bare nc))
      exact g1 (.ref q) _ Hf1 _ (Same.refl _) (List.prefix_append _ _) S2 (.cel (by rw [← S1.len, List.getElem?_append_right (Nat.le_refl _), Nat.sub_self]; rfl))
    · exact g1.elim⟩
end
end Sm
end
section
set_option maxRecDepth 100000
set_option maxHeartbeats 0
namespace Sm
variable [Tabs0]
open PySem PySem.W PySem.Calls PySem.Spec PyProof.Rows PyProof.V
/-! ### dict(d), the keys rows of ints whose hashes are apart -/
section
variable {prog : Program} {w : World} {A : Around} {E : Value → Shared → Prop} {s : Shared} {K : Type} [DecidableEq K] {knd : HeapKind prog w K}
theorem call_dictH {o : Addr} {more : List (K × Addr × Value)} {Q : Value → Shared → Prop} (hu : knd.room A.in1.in1) (hoS : (o == sysModules) = false) (ho : s.heap.DictOfH knd o more) (hst : knd.Stays)
    (hap : (more.map fun x => knd.hash x.1).Nodup) (hsz : more.length ≤ sizeLine)
    (h : ∀ h', h'.DictOfH knd s.heap.objs.size more → (∀ b o, s.heap.get? b = some o → h'.get? b = some o) → Q (.ref s.heap.objs.size) { s with heap := h' }) :
    wpAny (model prog w) A (call (.type "dict") [.ref o]) Q E s := by
  refine callType_codes (Q₁ := fun obj s₁ => obj = .ref s.heap.objs.size ∧ s₁ = { s with heap := s.heap.push { cls := .type "dict", data := .dict #[] } }) F.kt_called_dict (F.kt_typeCall_dict_1 _) F.entry_dict_init (kt_code_dict_new _ ⟨rfl, rfl⟩) ?_
  rintro obj s₁ ⟨rfl, rfl⟩
  have hkeep : ∀ b x, s.heap.get? b = some x → (s.heap.push { cls := .type "dict", data := .dict #[] }).get? b = some x := fun b x e => Heap.get?_push_of_some _ e
  have hnew : (s.heap.push { cls := .type "dict", data := .dict #[] }).DictOfH knd s.heap.objs.size [] := Heap.DictOfH.new s.heap
  have his : ∀ y ∈ more, knd.is s.heap y.1 y.2.1 := let ⟨_, _, _, _, _, _, _, his, _⟩ := ho; his
  have ho' : (s.heap.push { cls := .type "dict", data := .dict #[] }).DictOfH knd o more := ho.at' (fun x e => hkeep _ _ e) fun y hy => hst.stays (fun b x vs n e _ => hkeep b x e) (his y hy)
  have hn : (more.map (·.1)).Nodup := ho.nodup
  have hdo : s.heap.objs.size ≠ o := fun e => absurd ho.lt_size (by rw [e]; exact Nat.lt_irrefl _)
  refine ⟨hnew.typeIs, F.args_dict_init_2 _ _, ?_⟩
  unfold Builtin.«dict.__init__»
  refine wpAny_bind ?_
  unfold Builtin.Dict.selfAndRest
  refine wpAny_bind (wpAny_notOrdered_dict hnew.typeIs ?_)
  show wpAny _ _ (pure (s.heap.objs.size, [Value.ref o])) _ _ _
  refine wpAny_pure ?_
  show wpAny _ _ (Builtin.Dict.updateFrom "dict.__init__" s.heap.objs.size (.ref o) [] .none) _ _ _
  refine updateFrom_dictH (A := A.in1) (knd := knd) (kvs := []) .none hu hdo hoS hnew ho' (.inr ⟨fun x hx => hst.tuple (s := { s with heap := s.heap.push { cls := .type "dict", data := .dict #[] } }) (hst.stays (fun b x vs n e _ => hkeep b x e) (his x hx)), hap⟩) (by simpa using hsz) fun h' hd' _ hs' => ?_
  rw [storedAllH_nil_of_nodup more hn] at hd'
  exact ⟨rfl, h h' hd' fun b x e => (hs'.2 b (Nat.ne_of_lt (Heap.lt_size e))).trans (hkeep b x e)⟩
end
open L2
def hashR (n : List Int) : Int := reduceHash (Builtin.Tuple.tupleHashOf (n.map hashInt))
theorem hash_inl {P : Program} {w : World} (n : List Int) : (tupleKind (mixKind P w)).hash (n.map Sum.inl) = hashR n := by
  show reduceHash (Builtin.Tuple.tupleHashOf ((n.map Sum.inl).map (keyH w))) = _
  rw [List.map_map]
  rfl
def rDictDT : List V → Hp → VK → Prop := fun xs H Q => ∃ (a : Addr) (kvs : List (List Key × V)) (ns : List (List Int)), xs = [.ref a] ∧ Rd H a (.dT kvs) ∧ kvs.map (·.1) = ns.map (·.map Sum.inl) ∧ (ns.map hashR).Nodup ∧ ∀ p, H p = none → Q (.ref p) (upd H p (.dT kvs))
theorem call_dictDT {X : Cx} (hu : X.A.units + 65 < cLine) : CallR X (.type "dict") rDictDT := by
  intro pins s σ H xs us Q I r q
  obtain ⟨a, kvs, ns, ex, hd, hk, hn, q⟩ := q
  subst ex
  obtain rfl := Vals.ref1 r
  obtain ⟨z, lo, prs, rel, dd⟩ := dt_rd I.hok hd
  have hlen : kvs.length = prs.length := Paired.length rel
  have hkeys : ∀ {l : List (List Key × V)} {m : List (List Key × Addr × Value)}, KT H l m → l.map (·.1) = m.map (·.1) := fun {l m} h => by
    induction h with
    | nil => rfl
    | cons h _ ih => rw [List.map_cons, List.map_cons, h.1, ih]
  have hap : (prs.map fun x => (tupleKind (mixKind X.prog X.w)).hash x.1).Nodup := by
    have e : prs.map (fun x => (tupleKind (mixKind X.prog X.w)).hash x.1) = ns.map hashR := by
      have e1 : prs.map (fun x => (tupleKind (mixKind X.prog X.w)).hash x.1) = (prs.map (·.1)).map (tupleKind (mixKind X.prog X.w)).hash := by rw [List.map_map]; rfl
      rw [e1, ← hkeys rel, hk, List.map_map]
      apply List.map_congr_left
      intro n _
      exact hash_inl n
    rw [e]
    exact hn
  refine call_dictH (knd := tupleKind (mixKind X.prog X.w)) (show X.A.units + 1 + 1 < cLine by omega) lo dd tupleKind_stays hap (by omega) fun h' d' hk' => ?_
  have hm : (s.heap.objs.size == sysModules) = false := beq_eq_false_iff_ne.mpr (Nat.ne_of_gt I.big)
  obtain ⟨o2, es, ep, h1, h2, h3, h4, _, h5⟩ := d'
  have hfree := I.hok.fresh (Nat.le_refl s.heap.objs.size)
  refine ⟨.ref s.heap.objs.size, upd H s.heap.objs.size (.dT kvs), I.laid (t' := s.toks) hk' (Nat.le_refl _) ⟨z, hm, prs, rel.keeps fun c ys ec => ?_, o2, es, ep, h1, h2, h3, h4, h5⟩, rfl, q _ hfree⟩
  rw [upd_ne (ne_of_none ec hfree)]
  exact ec
/-! as data, as a changing dict -/
def apart : List Int → Bool
  | [] => true
  | x :: l => !(l.any fun y => y == x) && apart l
theorem apart_ok : ∀ {l : List Int}, apart l = true → l.Nodup
  | [], _ => List.nodup_nil
  | x :: l, h => by
    unfold apart at h
    rw [Bool.and_eq_true] at h
    rw [List.nodup_cons]
    refine ⟨fun hm => ?_, apart_ok h.2⟩
    have : (l.any fun y => y == x) = true := List.any_eq_true.mpr ⟨x, hm, by simp⟩
    rw [this] at h
    exact absurd h.1 (by simp)
theorem apart_of : ∀ {l : List Int}, l.Nodup → apart l = true
  | [], _ => rfl
  | x :: l, h => by
    rw [List.nodup_cons] at h
    unfold apart
    rw [apart_of h.2, Bool.and_true]
    cases q : l.any fun y => y == x with
    | false => rfl
    | true =>
      obtain ⟨y, hy, e⟩ := List.any_eq_true.mp q
      have : y = x := by simpa using e
      subst this
      exact absurd hy h.1
def dictD : List D → Option (List (List Key) × List D)
  | [.dt ks ds] => (rowsK ks).bind fun ns => if apart (ns.map hashR) = true then some (ks, ds) else none
  | _ => none
def xDictD (s : S (List D)) : S D := S.bind s fun ds => fun env C => S.opt ((dictD (ds.map (vw C))).map fun p => D.dt p.1 p.2) env C
def xDictDC (s : S (List D)) : S D := S.bind s fun ds => fun _ C => match dictD (ds.map (vw C)) with
  | some p => if nocels p.2 = true then some (.ok (.cel C.length) (C ++ [some (.t p.1 p.2)])) else none
  | none => none
theorem dictD_ok {K : PySem.W.Frag} {Hf F H : Hp} {ρ : List Addr} {C : Cells} {vs : List V} {ds : List D} {p : List (List Key) × List D} (S0 : SR K Hf F ρ C H) (A : Dats K Hf ρ vs ds) (hp : dictD (ds.map (vw C)) = some p) :
    ∃ (a : Addr) (ns : List (List Int)) (xs : List V), vs = [.ref a] ∧ Rd H a (.dT (p.1.zip xs)) ∧ (p.1.zip xs).map (·.1) = ns.map (·.map Sum.inl) ∧ (ns.map hashR).Nodup ∧ p.1.length = xs.length ∧ Dats K Hf ρ xs p.2 := by
  have hv := vws_ok S0 A
  unfold dictD at hp
  split at hp
  · rename_i ks ds0 heq
    obtain ⟨ns, h1, h2⟩ := Option.bind_eq_some_iff.mp hp
    split at h2
    · rename_i hap
      cases h2
      rw [heq] at hv
      cases hv with
      | cons h hs =>
        cases hs
        obtain ⟨a, xs, rfl, hx, hl, hd⟩ := h.dt S0.ex
        refine ⟨a, ns, xs, rfl, hx, ?_, apart_ok hap, hl, hd⟩
        rw [← (rowsK_ok h1).1]
        exact List.map_fst_zip (show ks.length ≤ xs.length by omega)
    · cases h2
  · cases hp
section
variable {X : Cx} {W : Wh}
theorem se_dictD {x : Str} {p pos : Pos} {es : List Expr} {s : S (List D)} (h : PE X (.Call (.Name x p) es [] pos) (tCB rDictDT (tA X.K X.mg W s))) :
    SE X W (.Call (.Name x p) es [] pos) (xDictD s) := pe_imp (pe_lockP h) fun σ H Q ⟨Hf, F, ρ, env, C, S0, E0, g⟩ => ⟨Hf, F, ρ, env, C, S0, E0, (Go.bind g).mono fun vs H1 ⟨Hf1, ρ1, C1, ds, e1, p1, S1, A1, g1⟩ => by
  obtain ⟨d, hd, g2⟩ := Go.opt g1
  obtain ⟨pr, hpr, rfl⟩ := Option.map_eq_some_iff.mp hd
  obtain ⟨a, ns, xs, rfl, k1, k2, k3, k4, k5⟩ := dictD_ok S1 A1 hpr
  refine ⟨a, _, ns, rfl, k1, k2, k3, fun q hq => ?_⟩
  refine ⟨q, _, rfl, upd_same, True.intro, fun od => ?_⟩
  obtain ⟨Hf2, e2, S2, D2⟩ := S1.newT (od := od) hq k4 k5
  have hh : upd (upd H1 q (.dT (pr.1.zip xs))) q (.frz od (.dT (pr.1.zip xs))) = upd H1 q (.frz od (.dT (pr.1.zip xs))) := upd_upd
  rw [hh]
  exact g2 (.ref q) _ Hf2 ρ1 e2 (List.prefix_refl _) S2 D2⟩
theorem se_dictDC {x : Str} {p pos : Pos} {es : List Expr} {s : S (List D)} (h : PE X (.Call (.Name x p) es [] pos) (tCB rDictDT (tA X.K X.mg W s))) :
    SE X W (.Call (.Name x p) es [] pos) (xDictDC s) := pe_imp h fun σ H Q ⟨Hf, F, ρ, env, C, S0, E0, g⟩ => ⟨Hf, F, ρ, env, C, S0, E0, (Go.bind g).mono fun vs H1 ⟨Hf1, ρ1, C1, ds, e1, p1, S1, A1, g1⟩ => by
  cases hpr : dictD (ds.map (vw C1)) with
  | none =>
    simp only [hpr] at g1
    exact g1.elim
  | some pr =>
    simp only [hpr] at g1
    obtain ⟨a, ns, xs, rfl, k1, k2, k3, k4, k5⟩ := dictD_ok S1 A1 hpr
    refine ⟨a, _, ns, rfl, k1, k2, k3, fun q hq => ?_⟩
    split at g1
    · rename_i nc
      have S2 : SR X.K Hf1 F (ρ1 ++ [q]) (C1 ++ [some (.t pr.1 pr.2)]) (upd H1 q (.dT (pr.1.zip xs))) := S1.newOb hq (.t k4 (k5.bare nc))
      exact g1 (.ref q) _ Hf1 _ (Same.refl _) (List.prefix_append _ _) S2 (.cel (by rw [← S1.len, List.getElem?_append_right (Nat.le_refl _), Nat.sub_self]; rfl))
    · exact g1.elim⟩
end
end Sm
end
section
set_option maxRecDepth 100000
set_option maxHeartbeats 0
namespace Sm
variable [Tabs0]
open PySem PySem.W PySem.Calls PySem.Spec PyProof.Rows PyProof.V
/-! ### == of dicts with tuple keys -/
section
variable {prog : Program} {w : World} {K : Type} [DecidableEq K] {knd : HeapKind prog w K} {A : Around} {E : Value → Shared → Prop} {s : Shared}
inductive HitsH {K : Type} [DecidableEq K] (A : Around) (s : Shared) (kb : List (K × Addr × Value)) : List (K × Addr × Value) → Bool → Prop
  | nil : HitsH A s kb [] true
  | miss {k : K} {z : Addr} {v : Value} {r : List (K × Addr × Value)} : atKey kb k = none → HitsH A s kb ((k, z, v) :: r) false
  | hit {k : K} {z : Addr} {v : Value} {y : Addr × Value} {r : List (K × Addr × Value)} {e b : Bool} : atKey kb k = some y → SeqAt.EqAt A s v y.2 e → HitsH A s kb r b → HitsH A s kb ((k, z, v) :: r) (e && b)
theorem HitsH.inv {kb : List (K × Addr × Value)} {k : K} {z : Addr} {v : Value} {r : List (K × Addr × Value)} {b : Bool} (h : HitsH A s kb ((k, z, v) :: r) b) :
    (atKey kb k = none ∧ b = false) ∨ ∃ y e b', atKey kb k = some y ∧ SeqAt.EqAt A s v y.2 e ∧ HitsH A s kb r b' ∧ b = (e && b') := by
  cases h with
  | miss hn => exact .inl ⟨hn, rfl⟩
  | hit hy he hr => exact .inr ⟨_, _, _, hy, he, hr, rfl⟩
theorem samePairsH {nm : String} {a b : Addr} {ka kb : List (K × Addr × Value)} {r : Bool} {Q : Bool → Shared → Prop} (hu : knd.room A) (ha : (a == sysModules) = false) (hb : (b == sysModules) = false)
    (da : s.heap.DictOfH knd a ka) (db : s.heap.DictOfH knd b kb) (hits : ka.length = kb.length → HitsH A s kb ka r) (h : Q (ka.length == kb.length && r) s) :
    wpAny (model prog w) A (Builtin.Dict.samePairs nm a b) Q E s := by
  obtain ⟨oa, es, ep, hoa, _, hda, hea, hisa, hna⟩ := da
  obtain ⟨ob, es', ep', hob, _, hdb, heb, hisb, hnb⟩ := db
  have hla : ka.length = es.size := (size_of_entries hea).symm
  have hlb : kb.length = es'.size := (size_of_entries heb).symm
  rw [hla, hlb] at h
  unfold Builtin.Dict.samePairs Builtin.Dict.showsAll
  rw [if_neg (show ¬ (a == sysModules) = true by rw [ha]; exact Bool.false_ne_true), if_neg (show ¬ (b == sysModules) = true by rw [hb]; exact Bool.false_ne_true)]
  refine wpAny_bind (wpAny_pure (wpAny_bind (wpAny_pure ?_)))
  refine wpAny_bind (wpAny_dictEntries hoa hda ?_)
  dsimp only
  refine wpAny_bind (wpAny_dictEntries hob hdb ?_)
  by_cases hsz : es.size = es'.size
  case neg =>
    rw [if_pos (by simpa using hsz)]
    have hbf : (es.size == es'.size) = false := by simpa using hsz
    rw [hbf, Bool.false_and] at h
    exact wpAny_bind (wpAny_rule (wpAny_pure h))
  case pos =>
    have h' : Q r s := by simpa [hsz] using h
    have hits' := hits (by rw [hla, hlb]; exact hsz)
    rw [if_neg (by rw [hsz]; simp)]
    refine wpAny_bind (wpAny_dictEpoch hoa hda ?_)
    refine wpAny_bind ?_
    rw [Std.Legacy.Range.forIn_eq_forIn_range']
    simp only [Std.Legacy.Range.size, Nat.sub_zero, Nat.add_sub_cancel, Nat.div_one]
    refine wpAny_forIn_list _
      (fun rest q s' => s' = s ∧ q = (none, ()) ∧ ∃ i, rest = List.range' i (es.size - i) ∧ i ≤ es.size ∧ HitsH A s kb (ka.drop i) r)
      _ ?_ ?_ _ _ ⟨rfl, rfl, 0, by simp, Nat.zero_le _, hits'⟩
    · rintro x rest q s' ⟨rfl, rfl, i, hr, hi, hpre⟩
      have hlt : i < es.size := by
        rcases Nat.lt_or_ge i es.size with h | h
        · exact h
        · rw [Nat.sub_eq_zero_of_le h] at hr; simp at hr
      obtain ⟨rfl, hrest⟩ : x = i ∧ rest = List.range' (i + 1) (es.size - (i + 1)) := by
        have e : es.size - i = (es.size - (i + 1)) + 1 := by omega
        rw [e, List.range'_succ] at hr
        injection hr with h1 h2
        exact ⟨h1, h2⟩
      refine wpAny_bind (wpAny_dictEntries hoa hda ?_)
      have hlt' : x < ka.length := by rw [hla]; exact hlt
      obtain ⟨⟨k, z, v⟩, hkv⟩ : ∃ y, ka[x] = y := ⟨_, rfl⟩
      have hdrop : ka.drop x = (k, z, v) :: ka.drop (x + 1) := by rw [← hkv]; exact List.drop_eq_getElem_cons hlt'
      have hex : es[x]? = some (entryOfKey knd (k, z, v)) := by
        rw [entry_at hea, List.getElem?_eq_getElem hlt', hkv]
        rfl
      rw [hex]
      have hkey : knd.is s'.heap k z := hisa (k, z, v) (by rw [← hkv]; exact List.getElem_mem hlt')
      rw [hdrop] at hpre
      show wpAny _ _ (holding [.ref z, v] _ >>= _) _ _ _
      refine wpAny_bind (wpAny_holding (wpAny_bind (wpAny_dictFind_heap hu hkey hob hdb heb hisb hnb (fun hno => ?_) fun j p hj => ?_)))
      · have hn : atKey kb k = none := atKey_none_of_get hno
        rcases hpre.inv with ⟨_, er⟩ | ⟨y, _, _, hy, _⟩
        · rw [er] at h'
          refine wpAny_pure ?_
          show wpAny _ _ (if (!false) = true then _ else _) _ _ _
          rw [if_pos (by decide)]
          exact wpAny_pure (wpAny_pure h')
        · rw [hn] at hy; exact nomatch hy
      · have hv' : atKey kb k = some p := atKey_of_get hnb hj
        have hej : es'[j]? = some (entryOfKey knd (k, p)) := by rw [entry_at heb, hj]; rfl
        refine wpAny_bind (wpAny_dictEntries hob hdb ?_)
        rw [hej]
        rcases hpre.inv with ⟨hn, _⟩ | ⟨y, e, b', hy, he, hrr, er⟩
        · rw [hv'] at hn; exact nomatch hn
        · have ey : p = y := Option.some.inj (hv'.symm.trans hy)
          subst ey
          refine wpAny_holding (he prog w _ _ ?_)
          cases e with
          | false =>
            rw [er, Bool.false_and] at h'
            show wpAny _ _ (if (!false) = true then _ else _) _ _ _
            rw [if_pos (by decide)]
            exact wpAny_pure (wpAny_pure h')
          | true =>
            rw [Bool.true_and] at er
            rw [← er] at hrr
            show wpAny _ _ (if (!true) = true then _ else _) _ _ _
            rw [if_neg (by decide)]
            refine wpAny_bind (wpAny_dictEpoch hoa hda ?_)
            rw [if_neg (by simp)]
            exact wpAny_pure ⟨rfl, rfl, x + 1, hrest, hlt, hrr⟩
    · rintro q s' ⟨rfl, rfl, i, hr, hi, hpre⟩
      have hin : i = es.size := by
        rcases Nat.lt_or_ge i es.size with h | h
        · have e : es.size - i = (es.size - (i + 1)) + 1 := by omega
          rw [e, List.range'_succ] at hr; exact nomatch hr
        · exact Nat.le_antisymm hi h
      refine wpAny_pure ?_
      rw [hin, ← hla, List.drop_length] at hpre
      cases hpre
      exact h'
theorem eqH {a b : Addr} {ka kb : List (K × Addr × Value)} {r : Bool} {Q : Value → Shared → Prop} (hk : knd.room A.in1) (ha : (a == sysModules) = false) (hb : (b == sysModules) = false)
    (da : s.heap.DictOfH knd a ka) (db : s.heap.DictOfH knd b kb) (hu : A.units < cLine) (hits : ka.length = kb.length → HitsH A.in1 s kb ka r) (h : Q (.bool (ka.length == kb.length && r)) s) :
    wpAny (model prog w) A (compareOp .Eq (.ref a) (.ref b)) Q E s := by
  refine wpAny_richCompare_same_room (op := .Eq) da.typeIs db.typeIs PySem.F.slot_dict_eq (wpAny_call_entry PySem.F.slot_dict_eq da.typeIs PySem.F.entry_dict_eq ?_ (PySem.F.args_dict_eq_2 _ _)) hu
  show wpAny _ _ (Builtin.Dict.dictSlotArgs "__eq__" ⟨[.ref a, .ref b], []⟩ >>= _) _ _ s
  refine wpAny_bind ?_
  unfold Builtin.Dict.dictSlotArgs
  refine wpAny_bind (wpAny_notOrdered_dict da.typeIs ?_)
  show wpAny _ _ (pure (Value.ref a, Value.ref b)) _ _ s
  refine wpAny_pure ?_
  refine wpAny_bind (wpAny_isInstance (T := "dict") db.typeIs PySem.F.sub_dict_dict ?_)
  simp only [Bool.not_true, Bool.false_eq_true, if_false]
  refine wpAny_bind (wpAny_pure (wpAny_bind (wpAny_pure ?_)))
  refine wpAny_bind (samePairsH hk ha hb da db hits ?_)
  refine wpAny_pure ⟨_, rfl, ?_, ?_⟩
  · exact fun x => nomatch x
  · simpa using h
theorem neH {a b : Addr} {ka kb : List (K × Addr × Value)} {r : Bool} {Q : Value → Shared → Prop} (hk : knd.room A.in1) (ha : (a == sysModules) = false) (hb : (b == sysModules) = false)
    (da : s.heap.DictOfH knd a ka) (db : s.heap.DictOfH knd b kb) (hu : A.units < cLine) (hits : ka.length = kb.length → HitsH A.in1 s kb ka r) (h : Q (.bool (!(ka.length == kb.length && r))) s) :
    wpAny (model prog w) A (compareOp .NotEq (.ref a) (.ref b)) Q E s := by
  refine wpAny_richCompare_same_room (op := .NotEq) da.typeIs db.typeIs PySem.F.slot_dict_ne (wpAny_call_entry PySem.F.slot_dict_ne da.typeIs PySem.F.entry_dict_ne ?_ (PySem.F.args_dict_ne_2 _ _)) hu
  show wpAny _ _ (Builtin.Dict.dictSlotArgs "__ne__" ⟨[.ref a, .ref b], []⟩ >>= _) _ _ s
  refine wpAny_bind ?_
  unfold Builtin.Dict.dictSlotArgs
  refine wpAny_bind (wpAny_notOrdered_dict da.typeIs ?_)
  show wpAny _ _ (pure (Value.ref a, Value.ref b)) _ _ s
  refine wpAny_pure ?_
  refine wpAny_bind (wpAny_isInstance (T := "dict") db.typeIs PySem.F.sub_dict_dict ?_)
  simp only [Bool.not_true, Bool.false_eq_true, if_false]
  refine wpAny_bind (wpAny_pure (wpAny_bind (wpAny_pure ?_)))
  refine wpAny_bind (samePairsH hk ha hb da db hits ?_)
  refine wpAny_pure ⟨_, rfl, ?_, ?_⟩
  · exact fun x => nomatch x
  · simpa using h
end
open L2
/-! with ints as values -/
def intV : V → Option Int
  | .int i => some i
  | _ => none
def eqV1 (ls : List (List Key × V)) (p : List Key × V) : Bool := match valV ls p.1 with
  | some y => decide (intV y = intV p.2)
  | none => false
def intsV (ls : List (List Key × V)) : Prop := ∀ p ∈ ls, ∃ i, p.2 = .int i
theorem hits_of {H : Hp} {A : Around} {s : Shared} {ls : List (List Key × V)} {vb : List (List Key × Addr × Value)} (rb : KT H ls vb) (hb : intsV ls) : ∀ {ks : List (List Key × V)} {va : List (List Key × Addr × Value)}, KT H ks va → intsV ks → HitsH A s vb va (ks.all (eqV1 ls)) := by
  intro ks va ra ha
  induction ra with
  | nil => exact .nil
  | @cons p q ps qs h t ih =>
    obtain ⟨h1, _, h2⟩ := h
    obtain ⟨i, hi⟩ := ha p List.mem_cons_self
    obtain ⟨k, z, v⟩ := q
    have ih := ih fun x hx => ha x (List.mem_cons_of_mem _ hx)
    have hval := rb.val k
    have h1 : p.1 = k := h1
    rw [List.all_cons]
    cases hy : atKey vb k with
    | none =>
      have e : eqV1 ls p = false := by
        unfold eqV1
        rw [h1]
        rw [hy] at hval
        cases hz : valV ls k with
        | none => rfl
        | some y => rw [hz] at hval; exact hval.elim
      rw [e, Bool.false_and]
      exact .miss hy
    | some y =>
      rw [hy] at hval
      cases hz : valV ls k with
      | none => rw [hz] at hval; exact hval.elim
      | some x =>
        rw [hz] at hval
        have hval : RelV x y.2 := hval
        obtain ⟨j, hj⟩ : ∃ j, x = .int j := by
          unfold valV at hz
          obtain ⟨kv, hf, rfl⟩ := Option.map_eq_some_iff.mp hz
          exact hb kv (List.mem_of_find?_eq_some hf)
        have e : eqV1 ls p = (i == j) := by
          unfold eqV1
          rw [h1, hz, hj, hi]
          show decide (some j = some i) = _
          by_cases q : i = j
          · subst q
            simp
          · have : ¬ j = i := fun z => q z.symm
            simp [q, this]
        rw [e]
        refine .hit hy ?_ ih
        rw [hj] at hval
        have h2 : RelV p.2 v := h2
        rw [hi] at h2
        obtain ⟨t1, rfl⟩ : ∃ t, v = .int i t := h2
        obtain ⟨t2, e2⟩ : ∃ t, y.2 = .int j t := hval
        rw [e2]
        exact SeqAt.EqAt.int_int i t1 j t2
def rEqT : R2 := fun x y H Q => ∃ a b ks ls, x = .ref a ∧ y = .ref b ∧ Rd H a (.dT ks) ∧ Rd H b (.dT ls) ∧ intsV ks ∧ intsV ls ∧ Q (.bl (ks.length == ls.length && ks.all (eqV1 ls))) H
def rNeT : R2 := fun x y H Q => ∃ a b ks ls, x = .ref a ∧ y = .ref b ∧ Rd H a (.dT ks) ∧ Rd H b (.dT ls) ∧ intsV ks ∧ intsV ls ∧ Q (.bl (!(ks.length == ls.length && ks.all (eqV1 ls)))) H
theorem op_eqT {X : Cx} (hu : X.A.units + 64 < cLine) : OpR X (compareOp .Eq) rEqT := by
  intro pins s σ H x y v u Q I rx ry h
  obtain ⟨a, b, ks, ls, rfl, rfl, ea, eb, i1, i2, q⟩ := h
  obtain rfl : v = Value.ref a := rx
  obtain rfl : u = Value.ref b := ry
  obtain ⟨_, ya, va, ra, da⟩ := dt_rd I.hok ea
  obtain ⟨_, yb, vb, rb, db⟩ := dt_rd I.hok eb
  refine eqH (knd := tupleKind (mixKind X.prog X.w)) (show X.A.units + 1 < cLine by omega) ya yb da db (by omega) (fun _ => hits_of rb i2 ra i1) (fin_bl I q ?_)
  rw [Paired.length ra, Paired.length rb]
theorem op_neT {X : Cx} (hu : X.A.units + 64 < cLine) : OpR X (compareOp .NotEq) rNeT := by
  intro pins s σ H x y v u Q I rx ry h
  obtain ⟨a, b, ks, ls, rfl, rfl, ea, eb, i1, i2, q⟩ := h
  obtain rfl : v = Value.ref a := rx
  obtain rfl : u = Value.ref b := ry
  obtain ⟨_, ya, va, ra, da⟩ := dt_rd I.hok ea
  obtain ⟨_, yb, vb, rb, db⟩ := dt_rd I.hok eb
  refine neH (knd := tupleKind (mixKind X.prog X.w)) (show X.A.units + 1 < cLine by omega) ya yb da db (by omega) (fun _ => hits_of rb i2 ra i1) (fin_bl I q ?_)
  rw [Paired.length ra, Paired.length rb]
/-! as data -/
def dInts : List D → Bool
  | [] => true
  | .int _ :: ds => dInts ds
  | _ => false
def eqT (ks : List (List Key)) (ds : List D) (ls : List (List Key)) (es : List D) : Bool := ks.length == ls.length && (ks.zip ds).all fun p => match dVal ls es p.1, p.2 with
  | some (.int j), .int i => decide (j = i)
  | _, _ => false
def dEqT : D → D → Option D
  | .dt ks ds, .dt ls es => if dInts ds = true ∧ dInts es = true then some (.bl (eqT ks ds ls es)) else none
  | _, _ => none
def dNeT : D → D → Option D
  | .dt ks ds, .dt ls es => if dInts ds = true ∧ dInts es = true then some (.bl (!eqT ks ds ls es)) else none
  | _, _ => none
variable {K : PySem.W.Frag}
theorem dInts_V {H : Hp} {ρ : List Addr} : ∀ {xs : List V} {ds : List D}, Dats K H ρ xs ds → dInts ds = true → ∀ v ∈ xs, ∃ i, v = .int i
  | _, _, .nil, _, v, h => by cases h
  | _, _, .cons (d := d) hd hs, e, v, h => by
    cases hd with
    | int i =>
      have e : dInts _ = true := e
      rcases List.mem_cons.mp h with rfl | h
      · exact ⟨i, rfl⟩
      · exact dInts_V hs e v h
    | _ => exact absurd e (by simp [dInts])
theorem intsV_of {H : Hp} {ρ : List Addr} {xs : List V} {ds : List D} {ks : List (List Key)} (h : Dats K H ρ xs ds) (e : dInts ds = true) : intsV (ks.zip xs) := fun p hp => dInts_V h e p.2 (List.of_mem_zip hp).2
theorem eqT_ok {H : Hp} {ρ : List Addr} {ls : List (List Key)} {ys : List V} {es : List D} (hl : ls.length = ys.length) (hb : Dats K H ρ ys es) (ib : dInts es = true) : ∀ {ks : List (List Key)} {xs : List V} {ds : List D}, Dats K H ρ xs ds → dInts ds = true →
    (ks.zip xs).all (eqV1 (ls.zip ys)) = ((ks.zip ds).all fun p => match dVal ls es p.1, p.2 with
      | some (.int j), .int i => decide (j = i)
      | _, _ => false)
  | [], xs, ds, _, _ => by simp
  | _ :: _, _, _, .nil, _ => by simp
  | k :: ks, _, _, .cons hd hs, e => by
    cases hd with
    | int i =>
      have e : dInts _ = true := e
      rw [List.zip_cons_cons, List.zip_cons_cons, List.all_cons, List.all_cons, eqT_ok hl hb ib hs e]
      congr 1
      unfold eqV1
      rcases dVal_ok (k := k) hl hb with ⟨h1, h2⟩ | ⟨v, d, h1, h2, h3⟩
      · simp only [h1, h2]
      · simp only [h1, h2]
        have hv : ∃ j, v = .int j := by
          unfold valV at h1
          obtain ⟨kv, hf, rfl⟩ := Option.map_eq_some_iff.mp h1
          exact intsV_of hb ib kv (List.mem_of_find?_eq_some hf)
        obtain ⟨j, rfl⟩ := hv
        have hde : d = .int j := by
          have hm : d ∈ es := by
            have : ∀ {ls : List (List Key)} {es : List D}, dVal ls es k = some d → d ∈ es := fun {ls es} => by
              induction ls generalizing es with
              | nil => intro h; simp [dVal] at h
              | cons l ls ih =>
                intro h
                cases es with
                | nil => simp [dVal] at h
                | cons x es =>
                  unfold dVal at h
                  split at h
                  · cases h
                    exact List.mem_cons_self
                  · exact List.mem_cons_of_mem _ (ih h)
            exact this h2
          have : ∀ {es : List D}, dInts es = true → d ∈ es → ∃ i, d = .int i := fun {es} => by
            induction es with
            | nil => intro _ h; cases h
            | cons x es ih =>
              intro h1 h2
              cases x with
              | int i =>
                rcases List.mem_cons.mp h2 with rfl | h2
                · exact ⟨i, rfl⟩
                · exact ih h1 h2
              | _ => simp [dInts] at h1
          obtain ⟨i', rfl⟩ := this ib hm
          cases h3
          rfl
        subst hde
        show decide (some j = some i) = decide (j = i)
        simp
    | _ => exact absurd e (by simp [dInts])
theorem op_dEqT : Op2 K rEqT dEqT := by
  intro Hf F ρ Cs H x y a b d Q S0 ha hb he k
  cases a with
  | dt ks ds =>
    cases b with
    | dt ls es =>
      have he : (if dInts ds = true ∧ dInts es = true then some (D.bl (eqT ks ds ls es)) else none) = some d := he
      split at he
      · rename_i h
        cases he
        obtain ⟨p, xs, rfl, hr, hl, hs⟩ := ha.dt S0.ex
        obtain ⟨q, ys, rfl, hr2, hl2, hs2⟩ := hb.dt S0.ex
        refine ⟨p, q, _, _, rfl, rfl, hr, hr2, intsV_of hs h.1, intsV_of hs2 h.2, ?_⟩
        rw [eqT_ok hl2 hs2 h.2 hs h.1, List.length_zip, List.length_zip, ← hl, ← hl2, Nat.min_self, Nat.min_self]
        exact k.here S0 (.bl _)
      · cases he
    | _ => cases he
  | _ => cases he
theorem op_dNeT : Op2 K rNeT dNeT := by
  intro Hf F ρ Cs H x y a b d Q S0 ha hb he k
  cases a with
  | dt ks ds =>
    cases b with
    | dt ls es =>
      have he : (if dInts ds = true ∧ dInts es = true then some (D.bl (!eqT ks ds ls es)) else none) = some d := he
      split at he
      · rename_i h
        cases he
        obtain ⟨p, xs, rfl, hr, hl, hs⟩ := ha.dt S0.ex
        obtain ⟨q, ys, rfl, hr2, hl2, hs2⟩ := hb.dt S0.ex
        refine ⟨p, q, _, _, rfl, rfl, hr, hr2, intsV_of hs h.1, intsV_of hs2 h.2, ?_⟩
        rw [eqT_ok hl2 hs2 h.2 hs h.1, List.length_zip, List.length_zip, ← hl, ← hl2, Nat.min_self, Nat.min_self]
        exact k.here S0 (.bl _)
      · cases he
    | _ => cases he
  | _ => cases he
end Sm
end
section
set_option maxRecDepth 100000
set_option maxHeartbeats 0
namespace Sm
variable [Tabs0]
open PySem L2 PyProof.Rows PySem.Spec
/-! ### the truth of any value; a or b by values -/
section
variable {X : Cx} {W : Wh} {a b : Expr} {rest : List Expr} {pos : Pos} {ta tb : TE}
theorem pe_orT (ha : PE X a ta) (hb : PE X (.BoolOp .Or (b :: rest) pos) tb) : PE X (.BoolOp .Or (a :: b :: rest) pos) (fun σ H Q => ta σ H fun x H1 => ∃ k, TruV X.K x H1 k ∧ if k = true then Q x H1 else tb σ H1 Q) := by
  refine ⟨fun pins s σ H Q I h => ?_⟩
  refine BoolOp_or (thn (ha.run pins s σ H _ I h) fun v s1 ⟨x, H1, I1, r1, k, hk, q1⟩ => ?_)
  refine wpAny_mono (tru_ok pins s1 σ H1 x v (fun c H' => c = k ∧ H' = H1) I1 r1 ⟨k, hk, rfl, rfl⟩) (fun c s2 z => ?_) fun _ _ z => z
  obtain ⟨H2, I2, rfl, rfl⟩ := z
  cases c with
  | true => exact ⟨x, _, I2, r1, q1⟩
  | false => exact hb.run pins s2 σ _ Q I2 q1
def truD : D → Option Bool
  | .non => some false
  | .bl b => some b
  | .int i => some (i != 0)
  | .tup ds => some (!ds.isEmpty)
  | .lst ds => some (!ds.isEmpty)
  | _ => none
theorem emp_len {vs : List V} {ds : List D} (h : vs.length = ds.length) : ds.isEmpty = vs.isEmpty := by
  cases vs <;> cases ds <;> first | rfl | (simp at h; done)
theorem truV_ok {K : PySem.W.Frag} {H Hf : Hp} {ρ : List Addr} {v : V} {d : D} {k : Bool} (e : Same Hf H) (h : Vw K H Hf ρ v d) (hk : truD d = some k) : TruV K v H k := by
  cases d with
  | non => cases hk; rw [h.non]; rfl
  | bl b => cases hk; rw [h.bl]; rfl
  | int i => cases hk; rw [h.int]; rfl
  | tup ds =>
    cases hk
    obtain ⟨a, xs, rfl, h1, _, h2⟩ := h.tup e
    exact .inr (.inl ⟨xs, h1, by rw [emp_len h2.len]⟩)
  | lst ds =>
    cases hk
    obtain ⟨a, xs, rfl, h1, h2⟩ := h.lst e
    exact .inl ⟨xs, h1, by rw [emp_len h2.len]⟩
  | _ => cases hk
def xOrD (a b : S D) : S D := S.bind a fun x => fun e C => match truD (vw C x) with
  | some true => some (.ok x C)
  | some false => b e C
  | none => none
theorem se_orD {sa sb : S D} (ha : SE X W a sa) (hb : SE X W (.BoolOp .Or (b :: rest) pos) sb) : SE X W (.BoolOp .Or (a :: b :: rest) pos) (xOrD sa sb) :=
  pe_imp (pe_orT ha hb) fun σ H Q ⟨Hf, F, ρ, env, C, S0, E0, g⟩ => ⟨Hf, F, ρ, env, C, S0, E0, (Go.bind g).mono fun x H1 ⟨Hf1, ρ1, C1, dx, e1, p1, S1, A1, g1⟩ => by
    try simp only [] at g1
    have v1 := vw_ok S1 A1
    cases ht : truD (vw C1 dx) with
    | none =>
      rw [ht] at g1
      exact g1.elim
    | some k =>
      rw [ht] at g1
      refine ⟨k, truV_ok S1.ex v1 ht, ?_⟩
      cases k with
      | true => exact Go.val (env := env) g1 S1 A1
      | false => exact ⟨Hf1, F, ρ1, env, C1, S1, E0.mono e1 p1, g1⟩⟩
end
end Sm
end
section
set_option maxRecDepth 100000
set_option maxHeartbeats 0
namespace Sm
variable [Tabs0]
open PySem PySem.Spec PyProof.Rows HT L2
/-! ### t[::-1] of a tuple -/
section
variable {prog : Program} {w : World} {A : Around} {E : Value → Shared → Prop} {s : Shared}
theorem applied_rev {sl : Addr} {vl vu vs : Value} {n : Nat} {Q : Int × Int × Nat → Shared → Prop} (hs : s.heap.IsSliceOf sl vl vu vs) (pl : IsPart vl none) (pu : IsPart vu none) (ps : IsPart vs (some (-1)))
    (h : Q ((n : Int) - 1, -1, n) s) : wpAny (model prog w) A (Builtin.Slice.sliceApplied (.ref sl) (pure (n : Int))) Q E s := by
  obtain ⟨os, hos, hcs, hds⟩ := id hs
  unfold Builtin.Slice.sliceApplied Builtin.Slice.sliceFields
  refine wpAny_bind (wpAny_bind (wpAny_field hos hds (x := vl) rfl (wpAny_bind (wpAny_field hos hds (x := vu) rfl (wpAny_bind (wpAny_field hos hds (x := vs) rfl (wpAny_pure ?_)))))))
  refine wpAny_bind (slicePart_ ps ?_)
  show wpAny _ _ (if ((-1 : Int) == 0) = true then _ else _) _ _ s
  rw [if_neg (by decide)]
  refine wpAny_bind (slicePart_ pl (wpAny_bind (slicePart_ pu (wpAny_bind (wpAny_pure ?_)))))
  show wpAny _ _ (pure ((n : Int) - 1, (-1 : Int), Builtin.Slice.slicePlaces ((n : Int) - 1) (-1) (-1))) _ _ s
  have e : Builtin.Slice.slicePlaces ((n : Int) - 1) (-1) (-1) = n := by
    unfold Builtin.Slice.slicePlaces
    have h1 : ¬ ((-1 : Int) > 0) := by omega
    simp only [h1, if_false]
    rw [show (- -1 : Int) = 1 by decide, Int.ediv_one]
    split <;> omega
  rw [e]
  exact wpAny_pure h
theorem pick_rev (xs : Array Value) : ((List.range xs.size).filterMap fun (m : Nat) => xs[((xs.size : Int) - 1 + (m : Int) * -1).toNat]?).toArray = xs.toList.reverse.toArray := by
  congr 1
  have e : (fun (m : Nat) => xs[((xs.size : Int) - 1 + (m : Int) * -1).toNat]?) = fun m => xs[xs.size - 1 - m]? := by
    funext m
    have : ((xs.size : Int) - 1 + (m : Int) * -1).toNat = xs.size - 1 - m := by omega
    rw [this]
  rw [e]
  have := PySem.W.krv_all xs
  have e2 : (List.range xs.size).filterMap (fun m => xs[xs.size - 1 - m]?) = ((List.range xs.size).map (fun k => xs.size - 1 - k)).filterMap (fun i => xs[i]?) := by
    rw [List.filterMap_map]
    rfl
  rw [e2, PySem.W.krv_range, List.filterMap_reverse, this]
theorem getItem_tuple_rev {t sl : Addr} {items : Array Value} {vl vu vs : Value} {Q : Value → Shared → Prop} (ht : IsTup s.heap t items) (hs : s.heap.IsSliceOf sl vl vu vs) (pl : IsPart vl none) (pu : IsPart vu none) (ps : IsPart vs (some (-1)))
    (h : Q (.ref s.heap.objs.size) { s with heap := s.heap.push { cls := .type "tuple", data := .seq items.toList.reverse.toArray } })
    (hsz : items.size ≤ sizeLine) : wpAny (model prog w) A (getItem (.ref t) (.ref sl)) Q E s := by
  have htake : sizeOk (.seq items.toList.reverse.toArray) := by
    show items.toList.reverse.toArray.size ≤ sizeLine
    rw [List.size_toArray, List.length_reverse, Array.length_toList]
    exact hsz
  obtain ⟨os, hos, hcs, hds⟩ := id hs
  have hTs : s.TypeIs (.ref sl) "slice" := ⟨os, hos, hcs⟩
  unfold getItem
  try with_reducible refine wpAny_holding ?_
  first | refine wpAny_bind (wpAny_pure ?_) | skip
  refine wpAny_bind (wpAny_sequenceKey ht.typeIs (by decide) ?_)
  refine wpAny_bind (wpAny_callSpecial?_slot (name := Str.ofString "__getitem__") ht.typeIs PyProof.Rows.slot_tuple_getitem
    (wpAny_call_entry PyProof.Rows.slot_tuple_getitem ht.typeIs entry_tuple_getitem ?_ (args_tuple_getitem _ _)))
  show wpAny _ _ (Builtin.Tuple.tupleItemsOf (.ref t) >>= _) _ _ s
  refine wpAny_bind (tupleItemsOf_ ht ?_)
  refine wpAny_bind (wpAny_typeOf hTs ?_)
  rw [if_pos (by decide)]
  refine wpAny_bind (applied_rev hs pl pu ps ?_)
  have hno : ¬ ((((items.size : Int) - 1) == 0 && (-1 : Int) == 1 && items.size == items.size) = true) := by simp
  show wpAny _ _ (if (((items.size : Int) - 1) == 0 && (-1 : Int) == 1 && items.size == items.size) = true then _ else _) _ _ s
  rw [if_neg hno, pick_rev]
  first
    | exact wpAny_bind (m := Builtin.Tuple.tupleExact _) (wpAny_newObj_type (wpAny_pure ⟨_, rfl, wpAny_pure h⟩) htake)
    | exact wpAny_bind (m := Builtin.Tuple.tupleExact _) (wpAny_newObj_type (wpAny_bind (wpAny_pure (wpAny_pure ⟨_, rfl, wpAny_pure h⟩))) htake)
    | exact wpAny_bind (wpAny_bind (m := Builtin.Tuple.tupleExact _) (wpAny_newObj_type (wpAny_pure (wpAny_pure ⟨_, rfl, wpAny_pure h⟩)) htake))
    | exact wpAny_bind (wpAny_bind (m := Builtin.Tuple.tupleExact _) (wpAny_newObj_type (wpAny_pure ⟨_, rfl, wpAny_pure h⟩) htake))
end
section
variable {X : Cx} {W : Wh}
def tRevT (K : PySem.W.Frag) (te : TE) : TE := fun σ H Q => te σ H fun x H1 => ∃ a xs, x = .ref a ∧ SqT K H1 a xs ∧ ∀ p, H1 p = none → Q (.ref p) (upd H1 p (.tup xs.reverse))
theorem pe_revT {e : Expr} {te : TE} {k : Nat} {p1 p2 p3 pos : Pos} (he : PE X e te) : PE X (.Subscript e (.Slice none none (some (.UnaryOp .USub (.Constant (.int 1) k p1) p2)) p3) pos) (tRevT X.K te) := by
  refine ⟨fun pins s σ H Q I h => ?_⟩
  refine Subscript_ (thn (he.run pins s σ H _ I h) fun v s1 ⟨x, H1, I1, r1, q1⟩ => ?_)
  obtain ⟨a, xs, ex, hx, q⟩ := q1
  subst ex
  cases r1
  have hst : PO X (some (.UnaryOp .USub (.Constant (.int 1) k p1) p2)) (tPart (tUn (rU fun i => .int (-i)) (tC (.int 1)))) := po_some (pe_un un_neg pe_int)
  refine wpAny_Slice (thn (po_none.run pins s1 σ H1 (fun o H2 => o = none ∧ H2 = H1) I1 ⟨rfl, rfl⟩) fun vl s2 ⟨l, H2, I2, pl, el, e2⟩ => ?_)
  subst el e2
  refine thn (po_none.run pins s2 σ H2 (fun o H3 => o = none ∧ H3 = H2) I2 ⟨rfl, rfl⟩) fun vu s3 ⟨u, H3, I3, pu, eu, e3⟩ => ?_
  subst eu e3
  refine thn (hst.run pins s3 σ H3 (fun o H4 => o = some (-1) ∧ H4 = H3) I3 ⟨1, rfl, -1, rfl, rfl, rfl⟩) fun vs s4 ⟨o, H4, I4, ps, eo, e4⟩ => ?_
  subst eo e4
  have I5 : Inv X pins σ H4 { s4 with heap := s4.heap.push { cls := .type "slice", data := .fields #[vl, vu, vs] } } := I4.kept (t' := s4.toks) fun b ob q => Heap.get?_push_of_some _ q
  obtain ⟨its, r, ht, hz⟩ := I5.tuple hx
  have hlen := r.length
  show wpAny (model X.prog X.w) X.A (subscriptTail e (.Slice none none (some (.UnaryOp .USub (.Constant (.int 1) k p1) p2)) p3) (.ref a) (.ref s4.heap.objs.size)) (EP X pins σ Q) X.xe { s4 with heap := s4.heap.push { cls := .type "slice", data := .fields #[vl, vu, vs] } }
  refine tail_any (ops := [.ref a, .ref s4.heap.objs.size]) ht.typeIs (PyProof.Rows.slot_tuple_getitem.lookup) ?_ (by with_unfolding_all rfl)
  refine getItem_tuple_rev ht (Heap.IsSliceOf.new _ vl vu vs) pl pu ps ?_ (by rw [List.size_toArray]; omega)
  refine ⟨.ref _, _, I5.laid (t' := s4.toks) (o := .tup xs.reverse) (fun b ob q => Heap.get?_push_of_some _ q) (Nat.le_refl _) ?_, rfl, q _ (I5.hok.fresh (Nat.le_refl _))⟩
  exact ⟨by rw [List.length_reverse]; exact hz, _, r.reverse, IsTup.new _ _⟩
def rvT : D → Option D
  | .tup ds => some (.tup ds.reverse)
  | _ => none
theorem se_rvT {e : Expr} {k : Nat} {p1 p2 p3 pos : Pos} {s : S D} (he : SE X W e s) : SE X W (.Subscript e (.Slice none none (some (.UnaryOp .USub (.Constant (.int 1) k p1) p2)) p3) pos) (x1 rvT s) :=
  pe_imp (pe_revT he) fun σ H Q ⟨Hf, F, ρ, env, C, S0, E0, g⟩ => ⟨Hf, F, ρ, env, C, S0, E0, (Go.bind g).mono fun x H1 ⟨Hf1, ρ1, C1, a, e1, p1, S1, A1, g1⟩ => by
    obtain ⟨d, hd, g2⟩ := Go.opt g1
    have hv := vw_ok S1 A1
    cases hva : vw C1 a with
    | tup ds =>
      rw [hva] at hd hv
      cases hd
      obtain ⟨b, xs, rfl, h1, h2, h3⟩ := hv.tup S1.ex
      exact ⟨b, xs, rfl, h1, Go.newT g2 S1 (Dats.rev h3)⟩
    | _ => rw [hva] at hd; cases hd⟩
end
end Sm
end
section
set_option maxRecDepth 100000
set_option maxHeartbeats 0
namespace Sm
variable [Tabs0]
open PySem L2
/-! ### list(d) of a dict with tuple keys -/
def lsT : List D → Option (List D)
  | [.dt ks _] => some (ks.map kT)
  | _ => none
def xLsT (s : S (List D)) : S (List D) := S.bind s fun ds => fun env C => S.opt (lsT (ds.map (vw C))) env C
theorem keys_dats {K : PySem.W.Frag} {F : Hp} {ρ : List Addr} {C : Cells} {H : Hp} : ∀ {kvs : List (List Key × V)} {bs : List Addr} {Hf : Hp}, SR K Hf F ρ C H → IsKeys H kvs bs → ∃ Hf2, Same Hf Hf2 ∧ SR K Hf2 F ρ C H ∧ Dats K Hf2 ρ (bs.map V.ref) ((kvs.map (·.1)).map kT)
  | _, _, Hf, S0, .nil => ⟨Hf, Same.refl _, S0, .nil⟩
  | _, _, Hf, S0, .cons h t => by
    obtain ⟨Hf1, s1, S1, t1⟩ := S0.addTup h
    obtain ⟨Hf2, s2, S2, D2⟩ := keys_dats S1 t
    exact ⟨Hf2, s1.trans s2, S2, .cons (.tup (s2 _ _ t1) (Dats.kVs _)) D2⟩
section
variable {X : Cx} {W : Wh}
theorem sl_lsT {x : Str} {p pos : Pos} {es : List Expr} {s : S (List D)} (h : PE X (.Call (.Name x p) es [] pos) (tCB (fun xs H Q => ∃ d kvs, xs = [V.ref d] ∧ Rd H d (.dT kvs) ∧ ∀ p bs, H p = none → IsKeys H kvs bs → Q (.ref p) (upd H p (.lst (bs.map V.ref)))) (tA X.K X.mg W s))) :
    SL X W (.Call (.Name x p) es [] pos) (xLsT s) := pe_imp h fun σ H Q ⟨Hf, F, ρ, env, C, S0, E0, g⟩ => ⟨Hf, F, ρ, env, C, S0, E0, by
    unfold xLsT S.bind at g
    cases e : s env C with
    | none =>
      rw [e] at g
      exact g
    | some r =>
      rw [e] at g
      cases r with
      | ex c q C' => exact g
      | ok ds C' =>
        refine fun vs H' Hf' ρ' e' p' S' A' => ?_
        have g' : GoL X.K X.mg W σ Hf F ρ (S.opt (lsT (ds.map (vw C'))) env C') Q := g
        cases hd : lsT (ds.map (vw C')) with
        | none =>
          rw [hd] at g'
          exact g'.elim
        | some es =>
          rw [hd] at g'
          have hv := vws_ok S' A'
          unfold lsT at hd
          split at hd
          · rename_i ks ds0 heq
            cases hd
            rw [heq] at hv
            cases hv with
            | cons h hs =>
              cases hs
              obtain ⟨a, xs, rfl, hx, hl, hs⟩ := h.dt S'.ex
              refine ⟨a, ks.zip xs, rfl, hx, fun l bs hl2 hk => ?_⟩
              obtain ⟨Hf2, s2, S2, D2⟩ := keys_dats S' hk
              have e1 : (ks.zip xs).map (·.1) = ks := List.map_fst_zip (by omega)
              rw [e1] at D2
              exact g' (.ref l) _ Hf2 ρ' (e'.trans s2) p' (fresh_new S2 hl2 D2)
          · cases hd⟩
/-! ### a dict in a told list is locked -/
theorem ps_lock {st : Stmt} {t : TS} (h : PS X st t) : PS X st (fun D σ H => ∃ d u, H d = some u ∧ Mut (some u) ∧ ∀ od, t D σ (upd H d (.frz od u))) := by
  refine ⟨fun pins s σ H D I hw => ?_⟩
  obtain ⟨d, u, hd, mu, q⟩ := hw
  obtain ⟨od, I2⟩ := I.lock hd mu
  exact h.run pins s σ _ D I2 (q od)
def xLockE (i j : Nat) : SS := fun e C => match e[i]? with
  | some (some (.lst ds)) => match ds[j]? with
    | some (.cel n) => match C[n]? with
      | some (some (.t ks es)) => some (.nx (e.set i (some (.lst (ds.set j (.dt ks es))))) (C.set n none))
      | _ => none
    | _ => none
  | _ => none
theorem set_same {α : Type} : ∀ {l : List α} {i : Nat} {x : α}, l[i]? = some x → l.set i x = l
  | _ :: _, 0, x, h => by cases h; rfl
  | a :: l, i + 1, x, h => by
    have := set_same (l := l) (i := i) (x := x) (by simpa using h)
    rw [List.set_cons_succ, this]
  | [], i, x, h => by simp at h
theorem sc_lockE {st : Stmt} {s : SS} (i j : Nat) (h : SC X W st s) : SC X W st (xSeq (xLockE i j) s) := by
  refine ps_imp (ps_lock h) fun D σ H ⟨Hf, F, ρ, env, C, S0, E0, g⟩ => ?_
  unfold xSeq xLockE at g
  cases he : env[i]? with
  | none => rw [he] at g; exact g.elim
  | some o =>
    rw [he] at g
    cases o with
    | none => exact g.elim
    | some d =>
      cases d with
      | lst ds =>
        simp only [] at g
        cases hj : ds[j]? with
        | none => rw [hj] at g; exact g.elim
        | some dj =>
          rw [hj] at g
          cases dj with
          | cel n =>
            simp only [] at g
            cases hc : C[n]? with
            | none => rw [hc] at g; exact g.elim
            | some oc =>
              rw [hc] at g
              cases oc with
              | none => exact g.elim
              | some ob =>
                cases ob with
                | l _ => exact g.elim
                | t ks es =>
                  simp only [] at g
                  obtain ⟨v, hv, hdv⟩ := E0.at_ i _ he rfl
                  cases hdv with
                  | lst hl hs =>
                    obtain ⟨w, hw, hdw⟩ := hs.get hj
                    cases hdw with
                    | @cel _ ad hn =>
                      obtain ⟨vs, hva, k⟩ := S0.lockT hn hc
                      refine ⟨ad, _, hva, True.intro, fun od => ?_⟩
                      obtain ⟨Hf2, e2, S2, D2⟩ := k od
                      have hs2 := hs.mono e2 (List.prefix_refl ρ)
                      have hset := Dats.set D2 j hs2
                      rw [set_same hw] at hset
                      have E2 := (E0.mono e2 (List.prefix_refl ρ)).set (.lst (same_l e2 hl) hset) i
                      rw [set_same hv] at E2
                      exact ⟨Hf2, F, ρ, _, _, S2, E2, GoS.later g e2 (List.prefix_refl ρ)⟩
          | _ => exact g.elim
      | _ => exact g.elim
end
end Sm
end
section
set_option maxRecDepth 100000
set_option maxHeartbeats 0
namespace Sm
open PySem PySem.Spec PyProof.Rows L2 LamX

/-! ### the end of a law: tables of code objects, no text of an object under way -/
section
variable {P : Program} {w : World} {K : PySem.W.Frag} {mg mb : Str → Option Value} {k : Nat} {fa a : Addr} {cs : List (Addr × Addr)} {fd : FuncData} {x : Str} {sp : Sp} {z : Shared} {vs : List Value} {ns : List Int}
abbrev emTab : Obj := { cls := .none, data := .fields #[] }
abbrev scrO (vs : List Value) : Obj := { cls := .type "list", data := .seq vs.toArray }
/-- what is tracked at the law's call: the tables, and the script unless the object knows it -/
noncomputable def trkH (K : PySem.W.Frag) (ts : List Addr) (a : Addr) (vs : List Value) (ns : List Int) : Hp := fun b =>
  if b ∈ ts then some (.tbl #[]) else if b = a ∧ K.lookup a = none then some (.frz (scrO vs) (.lst (ns.map V.int))) else none
theorem trkH_tab {ts : List Addr} {b : Addr} (h : b ∈ ts) : trkH K ts a vs ns b = some (.tbl #[]) := if_pos h
theorem trkH_cases {ts : List Addr} {b : Addr} {u : HO} (h : trkH K ts a vs ns b = some u) : (b ∈ ts ∧ u = .tbl #[]) ∨ (b ∉ ts ∧ b = a ∧ K.lookup a = none ∧ u = .frz (scrO vs) (.lst (ns.map V.int))) := by
  unfold trkH at h
  split at h
  · rename_i hb
    exact .inl ⟨hb, (Option.some.inj h).symm⟩
  · rename_i hb
    split at h
    · rename_i hc
      exact .inr ⟨hb, hc.1, hc.2, (Option.some.inj h).symm⟩
    · cases h
theorem law_run (KX : K.In z.heap) (gl : z.heap.Ns mainGlobals mg) (bl : z.heap.Ns builtinsNs mb) (bb : ∀ y : Str, y ≠ "__name__" → mb y = bootBuiltins y) (lim : z.heap.NoLimit) (ng : z.gens = #[])
    (tE : ∀ p ∈ cs, z.heap.get? p.2 = some emTab) (tN : ∀ p ∈ cs, K.lookup p.2 = none) (tC : ∀ p ∈ cs, PySem.W.CodeHd z.heap p.1 p.2)
    (bm : ∃ (m : Addr) (o : Obj), mg "__builtins__" = some (.ref m) ∧ m ≠ builtinsNs ∧ z.heap.get? m = some o ∧ o.cls = .type "module" ∧ o.dict = some builtinsNs ∧ o.data = .plain)
    (sc : z.heap.get? a = some (scrO vs)) (iv : IntsAre vs ns) (few : ns.length ≤ sizeLine) (rm : Room k callerA)
    (F : ∀ base : Heap, K.In base → base.Ns mainGlobals mg → (∀ p ∈ cs, TabB base mg p.1 p.2) → FnG P w K mg base k fa fd [x] sp) (bi : ∀ (s : Shared) (u : Value), BindsTo s fd ⟨[u], []⟩ [(x, u)])
    (law : ∀ H : Hp, (∀ p ∈ cs, H p.2 = some (.tbl #[])) → SqL K H a (ns.map V.int) → sp [.ref a] H (fun v _ => v = .bl true) fun _ _ _ => False) :
    codeAny (model P w) callerA (.call (.ref fa) ⟨[.ref a], []⟩) (fun r s' => r = .ok (.ret (.bool true)) ∧ OldK z.heap s'.heap ∧ s'.os = z.os ∧ AllBare s'.gens) z := by
  have vl := vals_ints iv
  have vlen := iv.length
  have tmem : ∀ {b : Addr}, b ∈ cs.map (·.2) → ∃ p ∈ cs, p.2 = b := fun h => List.mem_map.mp h
  have tat : ∀ {b : Addr}, b ∈ cs.map (·.2) → z.heap.get? b = some emTab := fun h => by
    obtain ⟨p, hp, rfl⟩ := tmem h
    exact tE p hp
  have ant : a ∉ cs.map (·.2) := fun h => by
    have q := (tat h).symm.trans sc
    have q2 := congrArg Obj.data (Option.some.inj q)
    cases q2
  have cases_ := @trkH_cases K a vs ns (cs.map (·.2))
  have tab_ : ∀ p ∈ cs, trkH K (cs.map (·.2)) a vs ns p.2 = some (.tbl #[]) := fun p hp => trkH_tab (List.mem_map.mpr ⟨p, hp, rfl⟩)
  have seen : SqL K (trkH K (cs.map (·.2)) a vs ns) a (ns.map V.int) := by
    cases hk : K.lookup a with
    | none => exact .inl (.inr ⟨_, by unfold trkH; rw [if_neg ant, if_pos ⟨rfl, hk⟩]⟩)
    | some o =>
      have e := (KX a o hk).symm.trans sc
      cases e
      exact .inr ⟨_, vs.toArray, _, hk, rfl, rfl, rfl, by rw [List.size_toArray, vlen]; exact few, by simpa using vl⟩
  generalize trkH K (cs.map (·.2)) a vs ns = H at cases_ tab_ seen
  have held : HOk P w H z.heap := fun b u e => by
    rcases cases_ e with ⟨hb, rfl⟩ | ⟨_, rfl, _, rfl⟩
    · exact tat hb
    · exact ⟨sc, by rw [List.length_map]; exact few, vs, _, vl, sc⟩
  -- what is neither the script nor a table is not tracked
  have free : ∀ {b : Addr} {o : Obj}, z.heap.get? b = some o → (∀ us n, o.data ≠ .seq us n) → o.data ≠ .fields #[] → H b = none := fun {b o} e h1 h2 => by
    cases q : H b with
    | none => rfl
    | some u =>
      rcases cases_ q with ⟨hb, _⟩ | ⟨_, rfl, _, _⟩
      · have e2 := (tat hb).symm.trans e
        cases e2
        exact absurd rfl h2
      · have e2 := sc.symm.trans e
        cases e2
        exact absurd rfl (h1 _ _)
  have hid : ∀ {b : Addr} {o : Obj}, z.heap.get? b = some o → (∀ us n, o.data ≠ .seq us n) → o.data ≠ .fields #[] → (hidT z.heap H).get? b = some o := fun e h1 h2 => hidT_get e (free e h1 h2)
  have ns_ : ∀ {b : Addr} {m : Str → Option Value}, z.heap.Ns b m → (hidT z.heap H).Ns b m := fun {b m} ⟨o, es, ep, e, d, r⟩ => ⟨o, es, ep, hid e (fun us n q => by rw [d] at q; cases q) (fun q => by rw [d] at q; cases q), d, r⟩
  have KB : K.In (hidT z.heap H) := fun b o e => hidT_get (KX b o e) (by
    cases q : H b with
    | none => rfl
    | some u =>
      rcases cases_ q with ⟨hb, _⟩ | ⟨_, rfl, hk, _⟩
      · obtain ⟨p, hp, rfl⟩ := tmem hb
        rw [tN p hp] at e
        cases e
      · rw [hk] at e
        cases e)
  have M : L2.Mod K mg (hidT z.heap H) := ⟨KB, ns_ gl, ⟨mb, ns_ bl, bb⟩, by
    obtain ⟨mc, l1, l2⟩ := lim
    exact ⟨mc, ns_ l1, l2⟩⟩
  have TB : ∀ p ∈ cs, TabB (hidT z.heap H) mg p.1 p.2 := fun p hp => by
    have pe := tE p hp
    refine ⟨?_, ?_, fun q => ?_⟩
    · obtain ⟨o, us, file, tf, flags, tg, inF, text, tt, e1, r1, r2, r3, r4, r5, r6, r7, r8, r9⟩ := tC p hp
      exact ⟨o, us, file, tf, flags, tg, inF, text, tt, hid e1 (fun us n q => by rw [r2] at q; cases q) (fun q => by rw [r2] at q; cases q; simp at r3), r1, r2, r3, r4, r5, r6, r7, r8, r9⟩
    · obtain ⟨m, o, c1, c2, c3, c4, c5, c6⟩ := bm
      refine ⟨m, o, c1, c2, fun q => ?_, fun q => ?_, hid c3 (fun us n q => by rw [c6] at q; cases q) (fun q => by rw [c6] at q; cases q), c4, c5, c6⟩
      · obtain ⟨og, es, ep, e, d, _⟩ := gl
        rw [q, e] at c3
        cases c3
        rw [d] at c6
        cases c6
      · rw [q, pe] at c3
        cases c3
        cases c6
    · obtain ⟨og, es, ep, e, d, _⟩ := gl
      rw [q, pe] at e
      cases e
      cases d
  have e0 : Env0 P w K mg (hidT z.heap H) callerA [] z H := ⟨rfl, M, fun b o e => of_hidT e, Nat.le_of_eq (hidT_size _ _), trivial, fun b hb => (nomatch (show b ∈ ([] : List Addr) from hb)), held, .of_eq ng⟩
  have run := (F _ KB (ns_ gl) TB).go callerA [] z H ⟨[.ref a], []⟩ [.ref a] [.ref a] (fun v _ => v = .bl true) (fun _ _ _ => False) rfl rm e0 (bi z (.ref a)) (.cons rfl .nil) (law H tab_ seen)
  refine codeAny_mono run fun r s' q => ?_
  match r, q with
  | .error e, q => exact (cx_none H z e s' q).elim
  | .ok .next, q => exact q.elim
  | .ok .brk, q => exact q.elim
  | .ok .cont, q => exact q.elim
  | .ok (.ret u), q =>
    obtain ⟨v, H', os, bare, un, held', rv, qv⟩ := q
    have qv' : v = .bl true := qv
    subst qv'
    obtain rfl : u = Value.bool true := rv
    have stay : ∀ b o, b ∉ cs.map (·.2) → z.heap.get? b = some o → s'.heap.get? b = some o := fun b o nb e => by
      cases q : H b with
      | none => exact un.keep b o e q (fun h => (nomatch (show b ∈ ([] : List Addr) from h))) (fun h => (nomatch h))
      | some u =>
        rcases cases_ q with ⟨hb, _⟩ | ⟨_, _, _, rfl⟩
        · exact absurd hb nb
        · have f1 := (held b _ q).1
          rw [e] at f1
          cases f1
          exact (held' b _ (un.frzs b _ _ q)).1
    have tabs : ∀ p ∈ cs, ∃ us : Array Value, s'.heap.get? p.2 = some { cls := .none, data := .fields us } := fun p hp => by
      obtain ⟨us, e⟩ := un.tbls p.2 #[] (tab_ p hp)
      exact ⟨_, held' p.2 _ e⟩
    refine ⟨rfl, ⟨fun b o e => ?_, fun b o e => ?_⟩, os, bare⟩
    · by_cases hb : b ∈ cs.map (·.2)
      · obtain ⟨p, hp, rfl⟩ := tmem hb
        obtain ⟨us, hu⟩ := tabs p hp
        rw [tE p hp] at e
        cases e
        exact .inr (.inl ⟨((tC p hp).tab (tE p hp)).isCodeTable, rfl, #[], us, rfl, by simpa using hu⟩)
      · exact .inl (stay b o hb e)
    · by_cases hb : b ∈ cs.map (·.2)
      · obtain ⟨p, hp, rfl⟩ := tmem hb
        exact ⟨_, (tabs p hp).choose_spec⟩
      · exact ⟨o, stay b o hb e⟩
end
/-- what is known at the head's heap of a law -/
def LawG (P : Program) (w : World) (K : PySem.W.Frag) (k n : Nat) (x : Str) (mg : Str → Option Value) (fa : Addr) (h : Heap) : Prop :=
  ∃ (fd : FuncData) (cs : List (Addr × Addr)) (sp : Sp), (∀ p ∈ cs, h.get? p.2 = some emTab ∧ K.lookup p.2 = none ∧ PySem.W.CodeHd h p.1 p.2) ∧ (∀ (s : Shared) (u : Value), BindsTo s fd ⟨[u], []⟩ [(x, u)]) ∧
    (∀ (H : Hp) (a : Addr) (ns : List Int), ns.length ≤ n → (∀ p ∈ cs, H p.2 = some (.tbl #[])) → SqL K H a (ns.map V.int) → sp [.ref a] H (fun v _ => v = .bl true) fun _ _ _ => False) ∧
    ∀ base : Heap, K.In base → base.Ns mainGlobals mg → (∀ p ∈ cs, TabB base mg p.1 p.2) → FnG P w K mg base k fa fd [x] sp
theorem walk_G {l : PySem.W.OpenLaw} {n k : Nat} {q : Program} {loose : List Str} {XP : (Str → Option Value) → Heap → Prop} {YP : World → Heap → Prop} {d : DefRec} {K : Params → PySem.W.Frag} {x : Str} (hn : l.most = some n) (hn2 : n ≤ sizeLine) (hdf : d.params.defaults = []) (rm : Room k callerA)
    (hY : ∀ (w : World) (h : Heap), YP w h → (K w.params).In h)
    (F : ∀ (w : World) (mg : Str → Option Value) (fa : Addr) (h : Heap), (K w.params).In h → h.Ns mainGlobals mg → mg d.name = some (.ref fa) →
      (∀ (y : Str) (dr : DefRec) (c t : Addr), (recsOf q).find? (fun e => e.name == y) = some dr → PySem.W.tabIn (K w.params) y = some (c, t) → PySem.W.CodeHd h c t ∧ h.get? t = some emTab) → LawG l.prog w (K w.params) k n x mg fa h) :
    PySem.W.WalkO q loose XP YP l.row.toRowW d [] (fun f vs => PySem.call f vs) := by
  refine Att.attach_callB hn hdf fun w s₀ z mg mb fa o pm cd doc a vs ns G Y ho hd hcd hmg hobj hints hlen hbits hg => ?_
  have KX := hY w _ Y
  obtain ⟨fd, cs, sp, h1, h2, h3, h4⟩ := F w mg fa _ KX G.T.g hmg fun y dr c t e1 e2 => PySem.W.tab_of G.T KX e1 e2
  exact law_run KX G.T.g G.T.b G.T.builtins G.T.nolimit hg (fun p hp => (h1 p hp).1) (fun p hp => (h1 p hp).2.1) (fun p hp => (h1 p hp).2.2) G.T.bmain hobj hints (Nat.le_trans hlen hn2) rm h4 h2 fun H hH hS => h3 H a ns hlen hH hS
end Sm
end
section
set_option maxRecDepth 100000
set_option maxHeartbeats 0
/-! lambdas without parameters, handed to a def that tries them -/
namespace Sm
open PySem PySem.Spec PyProof.Rows L2 LamX

/-! ### tables of code objects go on -/
theorem SR.goesOn {K : PySem.W.Frag} [Tabs0] {Hf F : Hp} {ρ : List Addr} {C : Cells} {H H1 : Hp} (S : SR K Hf F ρ C H) (e : ExtN H H1) (t : Tabs Tabs0.T H1) : ∃ Hf1, Same Hf Hf1 ∧ SR K Hf1 F ρ C H1 ∧ ∀ b q, H1 b = some (CodeO b q) → Hf1 b = some (CodeO b q) := by
  classical
  let G : Hp := fun b => if Hf b = none ∧ ∃ q, H1 b = some (CodeO b q) then H1 b else Hf b
  have g0 : ∀ b, (∀ q, H1 b ≠ some (CodeO b q)) → G b = Hf b := fun b n => if_neg fun ⟨_, q, z⟩ => n q z
  have gs : Same Hf G := fun b o h => by
    show (if Hf b = none ∧ _ then _ else _) = _
    rw [if_neg (fun ⟨z, _⟩ => by rw [z] at h; cases h)]
    exact h
  have up_ : ∀ {b : Addr} {o : HO}, Hf b = some o → H1 b = some o := fun {b o} h => e _ _ (S.ex b o h) fun ps z => (S.nt b ps).1 (by rw [h, z])
  have gc : ∀ b q, H1 b = some (CodeO b q) → G b = some (CodeO b q) := fun b q z => by
    cases h : Hf b with
    | none =>
      show (if Hf b = none ∧ _ then _ else _) = _
      rw [if_pos ⟨h, q, z⟩]
      exact z
    | some o =>
      rw [gs b o h, ← up_ h]
      exact z
  refine ⟨G, gs, ⟨fun b o h => ?_, fun b o h => e _ _ (S.fr b o h) fun ps z => (S.nt b ps).2 (by rw [h, z]), fun b o h => ?_, S.len, fun n a o h1 h2 => ?_, S.inj, fun p hp => ?_, fun b ps => ⟨fun h => ?_, (S.nt b ps).2⟩⟩, gc⟩
  · have h : (if Hf b = none ∧ ∃ q, H1 b = some (CodeO b q) then H1 b else Hf b) = some o := h
    split at h
    · exact h
    · exact up_ h
  · by_cases hc : Hf b = none ∧ ∃ q, H1 b = some (CodeO b q)
    · obtain ⟨q, z⟩ := hc.2
      have z2 := e _ _ (S.fr b o h) fun ps y => (S.nt b ps).2 (by rw [h, y])
      rw [z] at z2
      right
      rw [← Option.some.inj z2]
      trivial
    · have g1 : G b = Hf b := if_neg hc
      rw [g1]
      exact S.ap b o h
  · obtain ⟨⟨k1, k2⟩, k3⟩ := S.cel n a o h1 h2
    obtain ⟨u, hu, nu⟩ := k3.ntbl
    have z := e _ _ hu nu
    have nc : ∀ q, H1 a ≠ some (CodeO a q) := fun q y => by
      rw [z] at y
      have y := Option.some.inj y
      subst y
      rw [hu] at k3
      cases k3
    refine ⟨⟨by rw [g0 a nc]; exact k1, k2⟩, ?_⟩
    rw [z, ← hu]
    exact k3.mono gs
  · obtain ⟨⟨k1, k2⟩, k3⟩ := S.tab p hp
    obtain ⟨ps, z, t2, t3⟩ := t p hp
    refine ⟨⟨by rw [g0 p.1 (fun q y => by rw [z] at y; cases y)]; exact k1, k2⟩, ps, z, t2, fun pos cv hc => ?_⟩
    obtain ⟨c, e1, e2⟩ := t3 pos cv hc
    exact ⟨c, e1, gc _ _ e2⟩
  · have h : (if Hf b = none ∧ ∃ q, H1 b = some (CodeO b q) then H1 b else Hf b) = some (.tbl ps) := h
    split at h
    · rename_i hc
      obtain ⟨q, z⟩ := hc.2
      rw [z] at h
      cases h
    · exact (S.nt b ps).1 h
theorem SR.tabs {K : PySem.W.Frag} [Tabs0] {Hf F : Hp} {ρ : List Addr} {C : Cells} {H : Hp} (S : SR K Hf F ρ C H) : Tabs Tabs0.T H := fun p hp => by
  obtain ⟨ps, h1, h2, h3⟩ := (S.tab p hp).2
  refine ⟨ps, h1, h2, fun pos cv hc => ?_⟩
  obtain ⟨c, e1, e2⟩ := h3 pos cv hc
  exact ⟨c, e1, S.ex _ _ e2⟩

/-! ### x(), where x holds the lambda -/
abbrev earX (X : Cx) (N : List Str) (y : Str) (sc : Scope) (g : Addr) (cd : Value) (s : Shared) (H : Hp) : Cx := cxOf (L2.CX X.prog X.w) X.prog X.w X.K X.mg X.base N y sc g cd X.A X.stack s H (fun _ _ _ => False)
section
variable {X : Cx} {pins : List (Addr × Obj)} {σ : L2.St} {H : Hp} {s : Shared} {N : List Str} {y : Str} {sc : Scope} {g : Addr} {cd : Value}
theorem pe_hear {f c : Addr} {pm ct : Value} {ar : Arguments} {body : Expr} {ls : Scope} {k i : Nat} {a : Str} {pn : List (Addr × Obj)} {xe : Value → Shared → Prop} {W : WX} {t : XK → TE} {p1 p2 : Pos}
    (I : Inv X pins σ H s) (L : LamS X.env.scope ls) (of : s.heap.get? f = some (PySem.W.kla_obj "<lambda>" (X.env.qual ++ "<lambda>") ar body ls (cloFrom X.env.cells ls.names []) pm c ct)) (nf : H f = none) (ff : f ∉ frs X.stack)
    (bi : bindArgs (PySem.W.kla_fn "<lambda>" (X.env.qual ++ "<lambda>") ar body ls (cloFrom X.env.cells ls.names []) pm (.ref c) ct) ⟨[], []⟩ = pure [])
    (tk : Takes ((earX X N y sc g cd s H).tr pn xe) W) (gd : X.A.guards = some []) (rm : Room (k + 1) (X.A.deeper (envOfC y sc s.heap.objs.size g cd)))
    (hb : ∀ (A : Around) (fs : List PySem.Env) (z : Shared) (T : Hp) (E : XK), Room k (A.deeper (lamEnv X ls z.heap.objs.size f c)) → (A.deeper (lamEnv X ls z.heap.objs.size f c)).guards = some [] → PE (lamCx X A fs z T E ls f c) body (t E))
    (hN : N[i]? = some a) (hv : Vis sc a) (hd : (a == ("__debug__" : Str)) = false) (hcd : (a == ("__classdict__" : Str)) = false) :
    PE ((earX X N y sc g cd s H).tr pn xe) (.Call (.Name a p1) [] [] p2) (fun τ T Q => τ[i]? = some (some (.ref f)) ∧ T c = some (CodeO c (X.env.qual ++ "<lambda>")) ∧ t (WE W τ) σ T Q) := ⟨fun pz z τ T Q J ⟨h1, h2, h3⟩ => by
  refine wpAny_Call_Name_kw (thn ((pe_var (pos := p1) (i := i) hN hv hd hcd).run pz z τ T (fun v T1 => v = .ref f ∧ T1 = T) J ⟨.ref f, h1, rfl, rfl⟩) fun u z1 ⟨v, T1, J1, r1, q1⟩ => ?_)
  obtain ⟨rfl, rfl⟩ := q1
  obtain rfl : u = Value.ref f := r1
  have of1 := J1.base.keep f _ of nf ff (fun q => (nomatch (show f ∈ ([] : List Addr) from q)))
  refine PySem.W.callWith_F0 ⟨_, _, _, _, of1⟩ (wpAny_call ?_)
  obtain ⟨⟨oc, ws, tk', e1, e2, e3⟩, _, _⟩ := J1.hok c _ h2
  have un : Un (frs X.stack) [] H T1 s.heap z1.heap := J1.base
  have run : codeAny (model X.prog X.w) (X.A.deeper (envOfC y sc s.heap.objs.size g cd)) (.call (.ref f) ⟨[], []⟩) (CR (L2.CX X.prog X.w) (envOfC y sc s.heap.objs.size g cd :: X.stack) X.prog X.w T1 z1 Q (WE W τ)) z1 := by
    refine PySem.W.kla_callFunE rm.depth of1 rfl L.co L.gen rfl ⟨c, oc, ws, tk', rfl, e1, e2, e3⟩ ?_
    rw [bi]
    refine wpAny_pure (wpAny_newFunctionEnv (fun q hq => (L.own q hq).2) (fun q hq => absurd hq List.not_mem_nil) (fun h₁ hns hsb => ⟨J1.nolimit.fresh _ hsb, PySem.W.kla_codeExpr ?_⟩) L.kind)
    have kp : ∀ b o, z1.heap.get? b = some o → h₁.get? b = some o := fun b o q => hsb.extBut b o (Nat.ne_of_lt (Heap.lt_size q)) (Heap.get?_push_of_some _ q)
    have St := lam_start2 (E := WE W τ) (f := f) (c' := c) (tk := z1.toks + ([] : List (Str × Value)).length) I L J1.env0 rm.hd un hns kp
    refine wpAny_mono ((hb _ _ z1 T1 (WE W τ) (rm.deeper _) gd).run [] _ _ T1 Q St h3) (fun v z2 q => ?_) fun _ _ q => q
    obtain ⟨w', T2, J2, rv, q⟩ := q
    exact ⟨w', T2, J2.os, J2.bare, J2.base, J2.hok, rv, q⟩
  refine codeAny_mono run fun r z2 q => ?_
  match r, q with
  | .error e, q => exact passAt tk τ pz T1 z1 e z2 J1 q
  | .ok (.ret u), q => exact J1.after q
  | .ok .next, q => exact q.elim
  | .ok .brk, q => exact q.elim
  | .ok .cont, q => exact q.elim⟩
end

/-! ### try with clauses of both kinds, which all return -/
abbrev Suite := Addr → Value → Option Addr → TS
def wMix (K : PySem.W.Frag) (D : Ends) : List (Value × Option Nat × Suite) → WX
  | [] => fun _ _ _ _ => False
  | (c, io, ts) :: r => fun cls d σ H => ∃ b, PySem.W.exmOne K cls c = some b ∧ (b = true → ∀ a, H a = none → ts a cls d { nx := fun _ _ => False, rt := D.rt } (match io with
      | none => σ
      | some i => σ.set i (some (.ref a))) H) ∧ (b = false → wMix K D r cls d σ H)
inductive Cl2 (X : Cx) : List ExceptHandler → List (Value × Option Nat × Suite) → Prop
  | nil : Cl2 X [] []
  | bare {x : Str} {c : Value} {ts : Suite} {b : Stmt} {bs : List Stmt} {np p : Pos} {hs : List ExceptHandler} {l : List (Value × Option Nat × Suite)} (hc : Names X x c)
      (hu : ∀ (a : Addr) (oe : Obj) (cls : Value) (d : Option Addr) (pn : List (Addr × Obj)), Zc cls d oe → (∃ vs, oe.data = .fields vs) → PSs (X.suite a ((a, oe) :: pn)) (b :: bs) (ts a cls d)) (r : Cl2 X hs l) : Cl2 X (.ExceptHandler (some (.Name x np)) none (b :: bs) p :: hs) ((c, none, ts) :: l)
  | kept {x n : Str} {i : Nat} {c : Value} {ts : Suite} {b : Stmt} {bs : List Stmt} {np p : Pos} {hs : List ExceptHandler} {l : List (Value × Option Nat × Suite)} (hc : Names X x c) (hi : X.N[i]? = some n) (hl : X.env.kindOf n = some .local)
      (hu : ∀ (a : Addr) (oe : Obj) (cls : Value) (d : Option Addr) (pn : List (Addr × Obj)), Zc cls d oe → (∃ vs, oe.data = .fields vs) → PSs (X.suite a ((a, oe) :: pn)) (b :: bs) (ts a cls d)) (r : Cl2 X hs l) : Cl2 X (.ExceptHandler (some (.Name x np)) (some n) (b :: bs) p :: hs) ((c, some i, ts) :: l)
theorem ps_mix {X : Cx} {body : List Stmt} {h0 : ExceptHandler} {hs : List ExceptHandler} {l : List (Value × Option Nat × Suite)} {pos : Pos} {tb : WX → TS} (st : X.stack = X.env :: X.outer) (fr : X.env.frame = some X.env.locals) (nd : X.N.Nodup)
    (hb : ∀ (W : WX) (pn : List (Addr × Obj)) (xe : Value → Shared → Prop), Takes (X.tr pn xe) W → PSs (X.tr pn xe) body (tb W)) (hh : Cl2 X (h0 :: hs) l) : PS X (.Try body (h0 :: hs) [] [] pos) (fun D σ H => tb (wMix X.K D l) D σ H) := ⟨fun pins s σ H D I h => by
  have ok := I.ok
  have fra : X.A.frames = some (X.env :: X.outer) := by rw [ok.frames, st]
  refine wpAny_Try_except (wpAny_mono ((hb (wMix X.K D l) (X.pn ++ pins) (fun e z => wpAny (model X.prog X.w) X.A (noteFrame e X.env) (fun _ z2 => wpAny (model X.prog X.w) X.A (setFlight e none) (fun _ z3 =>
    wpAny (model X.prog X.w) X.A (handleBy e X.env (h0 :: hs)) (SP X pins D) X.xe z3) X.xe z2) X.xe z) fun u z xx => ?_).run [] s σ H D (I.toTry _) h) (fun fl z sp => ?_) fun _ _ q => q)
  · obtain ⟨a, B, sI, pins', τ, T, cls, d, rfl, J', nb, up, sky, na, os, ag, w⟩ := xx
    have J : Inv X pins τ T sI := J'.ofTry ok
    show wpAny (model X.prog X.w) X.A (noteFrame (.ref a) X.env) _ _ _
    refine Sky.land Zc.steady fra fr (show Sky B (X.env :: X.outer) a (Zc cls d) X.env.locals z.heap by rw [← st]; exact sky) fun k3 fl3 up3 => ?_
    have J3 : Inv X pins τ T { z with heap := k3 } := J.landed nb fl3.1 (up.trans up3) os ag
    obtain ⟨oe, vs, he, hz, hd⟩ := fl3.there
    have nfr : a ∉ frs (X.env :: X.outer) := fun q => by
      obtain ⟨_, o2, e2, n2⟩ := fl3.2.2.1.mem q
      rw [he] at e2
      cases e2
      exact n2 _ hd
    have nL : a ≠ X.env.locals := fun q => nfr (List.mem_filterMap.mpr ⟨X.env, List.mem_cons_self, by rw [fr, q]⟩)
    have nF : a ∉ X.fs := fun q => by
      obtain ⟨e, e1, e2⟩ := List.mem_filterMap.mp q
      exact nfr (List.mem_filterMap.mpr ⟨e, List.mem_cons_of_mem _ e1, e2⟩)
    have S3 := J3.suite he hd na nL nF
    have LT : PySem.W.Looks (model X.prog X.w) k3 (typeOf (.ref a)) cls := fun A Q E z' k q => wpAny_typeOf_ref (k _ _ he) (by rw [hz.1]; exact q)
    have look : ∀ {x : Str} {c : Value} {np : Pos} {Q E : Value → Shared → Prop}, Names X x c → Q c { z with heap := k3 } → wpAny (model X.prog X.w) (X.A.mark (some (.ref a))) (eval (.Name x np) X.env) Q E { z with heap := k3 } := fun hc q => by
      rcases hc with ⟨g1, g2, g3 | ⟨g3, g4, g5⟩⟩
      · exact ld_glob (X := X.suite a ((a, oe) :: (X.pn ++ pins))) S3 g1 g3 q g2
      · exact ld_blt (X := X.suite a ((a, oe) :: (X.pn ++ pins))) S3 g1 g3 g4 q g5 g2
    have all : ∀ {hs' : List ExceptHandler} {l' : List (Value × Option Nat × Suite)}, Cl2 X hs' l' → wMix X.K D l' cls d τ T → wpAny (model X.prog X.w) X.A (handleBy (.ref a) X.env hs') (SP X pins D) X.xe { z with heap := k3 } := by
      intro hs' l' cl
      induction cl with
      | nil => exact fun q => q.elim
      | @bare x c ts b bs np p hs2 l2 hc hu r ih =>
        rintro ⟨m, e1, yes, no⟩
        refine wpAny_handleBy_cons (codeAny_handlers_test (look hc ((PySem.W.exm_one (M := model X.prog X.w) J3.kIn LT e1).here ?_))) (by intro q; cases q)
        cases m with
        | false => exact ih (no rfl)
        | true =>
          refine codeAny_handlers_suite (HandSPX.lands_againZ fl3 fun k4 fl4 up4 => ?_)
          obtain ⟨o4, v4, he4, hz4, hd4⟩ := fl4.there
          have J4 : Inv X pins τ T { z with heap := k4 } := J.landed nb fl4.1 ((up.trans up3).trans up4) os ag
          have S4 := J4.suite he4 hd4 na nL nF
          refine wpAny_mono ((hu a o4 cls d (X.pn ++ pins) hz4 ⟨_, hd4⟩).run [] _ _ T _ S4 (yes rfl a na)) (fun f z6 q => ?_) (fun _ _ q => False.elim q)
          match f, q with
          | .next, ⟨_, _, _, q⟩ => exact q.elim
          | .brk, ⟨_, _, _, q⟩ => exact q.elim
          | .cont, ⟨_, _, _, q⟩ => exact q.elim
          | .ret u, ⟨v6, _, _, S6, r6, q⟩ => exact ⟨_, _, _, S6.unsuite ok, r6, q⟩
      | @kept x n i c ts b bs np p hs2 l2 hc hi hl hu r ih =>
        rintro ⟨m, e1, yes, no⟩
        refine wpAny_handleBy_cons (codeAny_handlers_test (look hc ((PySem.W.exm_one (M := model X.prog X.w) J3.kIn LT e1).here ?_))) (by intro q; cases q)
        cases m with
        | false => exact ih (no rfl)
        | true =>
          refine codeAny_handlers_suite_as (HandSPX.lands_againZ fl3 fun k4 fl4 up4 => ?_)
          obtain ⟨o4, v4, he4, hz4, hd4⟩ := fl4.there
          have J4 : Inv X pins τ T { z with heap := k4 } := J.landed nb fl4.1 ((up.trans up3).trans up4) os ag
          have S4 := J4.suite he4 hd4 na nL nF
          refine store_ok (X := X.suite a ((a, o4) :: (X.pn ++ pins))) (v := .ref a) S4 nd hi (.inl hl) rfl (fun z5 S5 => ?_) (.inr hl)
          refine wpAny_mono ((hu a o4 cls d (X.pn ++ pins) hz4 ⟨_, hd4⟩).run [] z5 _ T _ S5 (yes rfl a na)) (fun f z6 q => ?_) (fun _ _ q => False.elim q)
          match f, q with
          | .next, ⟨_, _, _, q⟩ => exact q.elim
          | .brk, ⟨_, _, _, q⟩ => exact q.elim
          | .cont, ⟨_, _, _, q⟩ => exact q.elim
          | .ret u, ⟨v6, _, _, S6, r6, q⟩ => exact gone_ok (S6.unsuite ok) nd hi hl fun z7 J7 => ⟨_, _, _, J7, r6, q⟩
    exact all hh w
  · match fl, sp with
    | .next, ⟨τ, T, J, q⟩ => exact wpAny_execs_nil ⟨τ, T, J.ofTry ok, q⟩
    | .brk, ⟨τ, T, J, q⟩ => exact ⟨τ, T, J.ofTry ok, q⟩
    | .cont, ⟨τ, T, J, q⟩ => exact ⟨τ, T, J.ofTry ok, q⟩
    | .ret u, ⟨v, τ, T, J, r, q⟩ => exact ⟨v, τ, T, J.ofTry ok, r, q⟩⟩
end Sm
end
section
set_option maxRecDepth 100000
set_option maxHeartbeats 0
namespace Sm
open PySem PySem.Spec PyProof.Rows L2 LamX

/-! ### a def that tries a lambda: which clause hears an error -/
abbrev Hrs := List (Tb × Option Nat × SS)
def ear0 (n : Nat) : Env := List.replicate n none
def earE (n : Nat) (io : Option Nat) (c : Str) (p : Option (Str × D)) : Option Env := match io with
  | none => some (ear0 n)
  | some i => match p with
    | some (f, d) => if i < n then some ((ear0 n).set i (some (.err c f d))) else none
    | none => none
def hearX (n : Nat) : Hrs → Str → Option (Str × D) → Cells → Option (R D)
  | [], _, _, _ => none
  | (tb, io, s) :: r, c, p, C => match tb.lookup c with
    | none => none
    | some false => hearX n r c p C
    | some true => match earE n io c p with
      | none => none
      | some e => match s e C with
        | some (.ret d C2) => some (.ok d C2)
        | _ => none
def xEar (n : Nat) (hr : Hrs) (fine s : S D) : S D := fun env C => match s env C with
  | none => none
  | some (.ok _ C1) => match fine (ear0 n) C1 with
    | some (.ok d C2) => some (.ok d C2)
    | _ => none
  | some (.ex c p C1) => hearX n hr c p C1

section
variable [Tabs0]
inductive Hears (X : Cx) : List ExceptHandler → Hrs → Prop
  | nil : Hears X [] []
  | bare {x : Str} {c : Value} {tb : Tb} {s : SS} {b : Stmt} {bs : List Stmt} {np p : Pos} {hs : List ExceptHandler} {l : Hrs} (hc : Names X x c) (ct : Catch X.K X.mg c tb)
      (hu : ∀ (a : Addr) (oe : Obj) (cls : Value) (d : Option Addr) (pn : List (Addr × Obj)), Zc cls d oe → (∃ vs, oe.data = .fields vs) → SCs (X.suite a ((a, oe) :: pn)) ⟨fun _ _ _ _ => False, none⟩ (b :: bs) s) (r : Hears X hs l) : Hears X (.ExceptHandler (some (.Name x np)) none (b :: bs) p :: hs) ((tb, none, s) :: l)
  | kept {x n : Str} {i : Nat} {c : Value} {tb : Tb} {s : SS} {b : Stmt} {bs : List Stmt} {np p : Pos} {hs : List ExceptHandler} {l : Hrs} (hc : Names X x c) (ct : Catch X.K X.mg c tb) (hi : X.N[i]? = some n) (hl : X.env.kindOf n = some .local)
      (hu : ∀ (a : Addr) (oe : Obj) (cls : Value) (d : Option Addr) (pn : List (Addr × Obj)), Zc cls d oe → (∃ vs, oe.data = .fields vs) → SCs (X.suite a ((a, oe) :: pn)) ⟨fun _ _ _ _ => False, some (i, a, cls, d)⟩ (b :: bs) s) (r : Hears X hs l) : Hears X (.ExceptHandler (some (.Name x np)) (some n) (b :: bs) p :: hs) ((tb, some i, s) :: l)
theorem ear0_get {n i : Nat} {d : D} (h : (ear0 n)[i]? = some (some d)) : False := by
  unfold ear0 at h
  rw [List.getElem?_replicate] at h
  split at h <;> cases h
theorem env_ear0 {K : PySem.W.Frag} {mg : Str → Option Value} {xc : XC} {Hf : Hp} {ρ : List Addr} {τ : L2.St} {n : Nat} (h : τ.length = n) : EnvR K mg xc Hf ρ τ (ear0 n) :=
  ⟨by rw [h]; exact List.length_replicate.symm, fun i d q _ => (ear0_get q).elim, fun i a cls dd c f d _ q => (ear0_get q).elim⟩
theorem hears_ok {X : Cx} {hs : List ExceptHandler} {hr : Hrs} (h : Hears X hs hr) : ∃ l, Cl2 X hs l ∧ ∀ (D : Ends) (τ σ : L2.St) (n : Nat) (W : Wh) (Hf F : Hp) (ρ : List Addr) (C : Cells) (T : Hp) (c : Str) (p : Option (Str × Sm.D)) (cls : Value) (dd : Option Addr), τ.length = n →
    SR X.K Hf F ρ C T → ExR X.K X.mg Hf ρ c p cls dd → Go X.K X.mg W (Dat X.K) σ Hf F ρ (hearX n hr c p C) D.rt → wMix X.K D l cls dd τ T := by
  induction h with
  | nil => exact ⟨[], .nil, fun _ _ _ _ _ _ _ _ _ _ _ _ _ _ _ _ _ g => g⟩
  | @bare x c0 tb s b bs np p0 hs2 l2 hc ct hu r ih =>
    obtain ⟨l, cl, sem⟩ := ih
    refine ⟨(c0, none, fun a cls d => tS X.K X.mg ⟨fun _ _ _ _ => False, none⟩ s) :: l, .bare hc hu cl, fun D τ σ n W Hf F ρ C T c p cls dd hl S0 x g => ?_⟩
    obtain ⟨a, xa, xc, xp⟩ := id x
    unfold hearX at g
    cases ht : tb.lookup c with
    | none =>
      rw [ht] at g
      exact g.elim
    | some m =>
      rw [ht] at g
      refine ⟨m, by rw [xc]; exact ct.get ht xa, fun hm a' na => ?_, fun hm => ?_⟩
      · subst hm
        refine ⟨Hf, F, ρ, ear0 n, C, S0, env_ear0 hl, ?_⟩
        simp only [earE] at g
        cases hq : s (ear0 n) C with
        | none =>
          rw [hq] at g
          exact g.elim
        | some q =>
          rw [hq] at g
          cases q with
          | ret d C2 => exact g
          | _ => exact g.elim
      · subst hm
        exact sem D τ σ n W Hf F ρ C T c p cls dd hl S0 x g
  | @kept x nm i c0 tb s b bs np p0 hs2 l2 hc ct hi hl0 hu r ih =>
    obtain ⟨l, cl, sem⟩ := ih
    refine ⟨(c0, some i, fun a cls d => tS X.K X.mg ⟨fun _ _ _ _ => False, some (i, a, cls, d)⟩ s) :: l, .kept hc hi hl0 hu cl, fun D τ σ n W Hf F ρ C T c p cls dd hl S0 x g => ?_⟩
    obtain ⟨a, xa, xc, xp⟩ := id x
    unfold hearX at g
    cases ht : tb.lookup c with
    | none =>
      rw [ht] at g
      exact g.elim
    | some m =>
      rw [ht] at g
      refine ⟨m, by rw [xc]; exact ct.get ht xa, fun hm a' na => ?_, fun hm => ?_⟩
      · subst hm
        cases p with
        | none => exact g.elim
        | some fd =>
          obtain ⟨f, d⟩ := fd
          obtain ⟨b', v, xb, xh, xd⟩ := xp
          simp only [earE] at g
          split at g
          · exact g.elim
          · rename_i e he
            split at he
            · rename_i hlt
              have he := Option.some.inj he
              subst he
              refine ⟨Hf, F, ρ, (ear0 n).set i (some (.err c f d)), C, S0, ⟨by show (τ.set i _).length = _; unfold ear0; rw [List.length_set, List.length_set, hl, List.length_replicate], fun j dj hj hnj => ?_, fun j a2 cls2 dd2 c2 f2 d2 hxx hj => ?_⟩, ?_⟩
              · rcases set_some hj with ⟨rfl, rfl, _⟩ | ⟨hij, hj⟩
                · cases hnj
                · exact (ear0_get hj).elim
              · have hxx' := Option.some.inj hxx
                simp only [Prod.mk.injEq] at hxx'
                obtain ⟨rfl, rfl, rfl, rfl⟩ := hxx'
                rcases set_some hj with ⟨_, hd, _⟩ | ⟨hij, _⟩
                · cases hd
                  exact ⟨List.getElem?_set_self (by rw [hl]; exact hlt), b', a, v, xb, xc, xa, xh, xd⟩
                · exact absurd rfl hij
              · cases hq : s ((ear0 n).set i (some (.err c f d))) C with
                | none =>
                  rw [hq] at g
                  exact g.elim
                | some q =>
                  rw [hq] at g
                  cases q with
                  | ret d C2 => exact g
                  | _ => exact g.elim
            · cases he
      · subst hm
        exact sem D τ σ n W Hf F ρ C T c p cls dd hl S0 x g
/-- x is a def that tries what it gets -/
structure EarOk (P : Program) (w : World) (K : PySem.W.Frag) (mg : Str → Option Value) (base : Heap) (x : Str) (n : Nat) (hr : Hrs) (fine : S D) : Prop where
  ex : ∃ (g : Addr) (oc : Value) (od : Option Addr) (kV doc pm : Value) (an : Option Addr) (cdv ct : Value) (osl : Array (Option Value)) (st : Stmt) (N : List Str) (a : Str) (h0 : ExceptHandler) (hs : List ExceptHandler) (fe : Expr) (p1 p2 p3 p4 p5 : Pos),
    mg x = some (.ref g) ∧ PySem.W.keepIn K (.ref g) = true ∧ K.lookup g = some ⟨oc, od, .func (PySem.W.fnOf x x (defArgs st) (defBody st) (defScope st) .none kV doc pm an cdv ct), osl⟩ ∧ PySem.W.codeIn K cdv x = true ∧
    L2.Binds K (PySem.W.fnOf x x (defArgs st) (defBody st) (defScope st) .none kV doc pm an cdv ct) [a] [] ∧ FnScope N [a] (defScope st) ∧ N[0]? = some a ∧ N.length = n ∧ Vis (defScope st) a ∧ (a == ("__debug__" : Str)) = false ∧ (a == ("__classdict__" : Str)) = false ∧
    defBody st = [.Try [.Expr (.Call (.Name a p1) [] [] p2) p3] (h0 :: hs) [] [] p4, .Return (some fe) p5] ∧
    ∀ (A : Around) (fs : List PySem.Env) (s : Shared) (H : Hp), Room 0 (A.deeper (envOfC x (defScope st) s.heap.objs.size g cdv)) → (A.deeper (envOfC x (defScope st) s.heap.objs.size g cdv)).guards = some [] →
      Hears (cxOf (L2.CX P w) P w K mg base N x (defScope st) g cdv A fs s H (fun _ _ _ => False)) (h0 :: hs) hr ∧ SE (cxOf (L2.CX P w) P w K mg base N x (defScope st) g cdv A fs s H (fun _ _ _ => False)) (WF fun _ _ _ => False) fe fine
theorem cx_no {P : Program} {w : World} (fs : List PySem.Env) (H : Hp) (s : Shared) (e : Value) (s' : Shared) : L2.CX P w fs H s (fun _ _ _ => False) e s' → False := fun ⟨_, _, _, _, _, _, _, _, _, _, _, _, z⟩ => z
theorem start0 {N : List Str} {f : V} (h : N ≠ []) : (L2.start N [f])[0]? = some (some f) ∧ (L2.start N [f]).length = N.length := by
  cases N with
  | nil => exact absurd rfl h
  | cons x r =>
    unfold L2.start
    refine ⟨rfl, ?_⟩
    simp
/-- x(lambda: body) -/
theorem se_ear {X : Cx} {W : Wh} {x : Str} {k n : Nat} {hr : Hrs} {fine s : S D} {c P : Addr} {ar : Arguments} {body : Expr} {ls : Scope} {p lp pos : Pos} (E : EarOk X.prog X.w X.K X.mg X.base x n hr fine) (rm : Room (k + 2) X.A) (gd : X.A.guards = some []) (gl : Gl X x)
    (TB : TabB X.base X.mg c P) (hcode : X.env.code = .ref c) (hm : (P, X.env.qual ++ "<lambda>") ∈ Tabs0.T) (hu : ∀ p ∈ Tabs0.T, p.1 = P → p.2 = X.env.qual ++ "<lambda>") (L : LamS X.env.scope ls) (hdef : defaultsOf ar X.env = ([], []))
    (hbind : ∀ (q : Str) (cl : List (Str × Addr)) (pm cv ct : Value), bindArgs (PySem.W.kla_fn "<lambda>" q ar body ls cl pm cv ct) ⟨[], []⟩ = pure [])
    (hb : ∀ (A : Around) (fs : List PySem.Env) (z : Shared) (T : Hp) (E : XK) (f c' : Addr), Room k (A.deeper (lamEnv X ls z.heap.objs.size f c')) → (A.deeper (lamEnv X ls z.heap.objs.size f c')).guards = some [] → SE (lamCx X A fs z T E ls f c') (WF E) body s)
    (hdb : (x == ("__debug__" : Str)) = false) : SE X W (.Call (.Name x p) [.Lambda ar body ls lp] [] pos) (xEar n hr fine s) := ⟨fun pins z σ H Q I h => by
  obtain ⟨Hf, F, ρ, env, C, S0, E0, go⟩ := h
  obtain ⟨g, oc, od, kV, doc, pm, an, cdv, ct, osl, st, N, a, h0, hs, fe, p1, p2, p3, p4, p5, e1, e2, e3, e4, e5, e6, e7, e8, e9, e10, e11, e12, e14⟩ := E.ex
  refine wpAny_Call_Name_kw (ld_glob I gl e1 (PySem.W.callWith_K (h₀ := X.base) I.ok.mod.kin e2 ?_ (by rfl) (by rfl)) hdb)
  show wpAny _ _ (spliced ((false, eval (.Lambda ar body ls lp) X.env) :: backTo pos (starEach [] X.env))) _ _ z
  refine Calls.spliced_cons (lam_make2 I TB hcode hm hu S0.tabs hdef (L.has I.ok) fun f c' pm' ctv H1 z1 I1 eN T1 hf hfn hfr hco => Calls.spliced_nil ⟨I1.kIn, ?_⟩)
  obtain ⟨Hf1, s1, S1, hc1⟩ := S0.goesOn eN T1
  have run : codeAny (model X.prog X.w) X.A (.call (.ref g) ⟨[.ref f], []⟩) (CR (L2.CX X.prog X.w) X.stack X.prog X.w H1 z1 Q (fun _ _ _ => False)) z1 := by
    refine run_ofS (N := N) (ps := [a]) (us := [.ref f]) (vs := [.ref f]) e3 e4 e6 rm I1.env0 (e5 z1 [.ref f] I1.kIn rfl) (.cons rfl .nil) rfl fun rm' => ?_
    rw [e12]
    obtain ⟨hH, hF⟩ := e14 X.A X.stack z1 H1 (rm'.mono (Nat.zero_le _)) gd
    obtain ⟨l, cl, sem⟩ := hears_ok hH
    have hN : N ≠ [] := fun q => by
      rw [q] at e7
      cases e7
    obtain ⟨b1, b2⟩ := start0 (f := V.ref f) hN
    refine ⟨_, pss_cons (ps_mix rfl rfl e6.nd (fun W' pn xe tk => pss_one (ps_expr (pe_hear (N := N) (y := x) (sc := defScope st) (g := g) (cd := cdv) (t := fun E => tE X.K X.mg (WF E) s) I1 L hf hfn hfr (hbind _ _ _ _ _) tk gd rm' (fun A fs z T E r2 g2 => hb A fs z T E f c' r2 g2) e7 e9 e10 e11))) cl) (pss_one (ps_ret hF)), ?_⟩
    refine ⟨b1, hco, Hf1, F, ρ, env, C, S1, (E0.plain).mono s1 (List.prefix_refl _), ?_⟩
    unfold xEar at go
    cases hq : s env C with
    | none =>
      rw [hq] at go
      exact go.elim
    | some q =>
      rw [hq] at go
      cases q with
      | ok d0 C1 =>
        refine fun v T2 Hf2 ρ2 s2 q2 S2 D2 => ⟨Hf2, F, ρ2, ear0 n, C1, S2, env_ear0 (by rw [b2, e8]), ?_⟩
        simp only [] at go
        cases hq2 : fine (ear0 n) C1 with
        | none =>
          rw [hq2] at go
          exact go.elim
        | some q =>
          rw [hq2] at go
          cases q with
          | ok d C2 => exact (Go.later go s1 (List.prefix_refl _)).later s2 q2
          | ex _ _ _ => exact go.elim
      | ex c0 p0 C1 =>
        refine fun cls dd T2 Hf2 ρ2 s2 q2 S2 D2 => ?_
        exact sem { nx := _, rt := Q } _ σ n W Hf2 F ρ2 C1 T2 c0 p0 cls dd (by rw [b2, e8]) S2 D2 ((Go.later go s1 (List.prefix_refl _)).later s2 q2)
  refine wpAny_call (codeAny_mono run fun r z2 q => ?_)
  match r, q with
  | .error e, q => exact (cx_no _ _ _ _ _ q).elim
  | .ok (.ret u), q => exact I1.after q
  | .ok .next, q => exact q.elim
  | .ok .brk, q => exact q.elim
  | .ok .cont, q => exact q.elim⟩
end
end Sm
end
section
set_option maxRecDepth 100000
set_option maxHeartbeats 0
namespace Sm
open PySem PySem.Spec PyProof.Rows L2

/-! ### repr of data -/
mutual
def pyD : D → Option PyData
  | .non => some .none
  | .bl b => some (.bool b)
  | .int i => some (.int i)
  | .str x => some (.str x)
  | .tup ds => (pyDs ds).map .tuple
  | .lst ds => (pyDs ds).map .list
  | _ => none
def pyDs : List D → Option (List PyData)
  | [] => some []
  | d :: r => match pyD d, pyDs r with
    | some x, some xs => some (x :: xs)
    | _, _ => none
end
mutual
theorem pyD_nodict : ∀ (d : D) (p : PyData), pyD d = some p → p.hasDict = false
  | .non, p, h => by cases h; rfl
  | .bl b, p, h => by cases h; rfl
  | .int i, p, h => by cases h; rfl
  | .str x, p, h => by cases h; rfl
  | .tup ds, p, h => by
    have h : (pyDs ds).map PyData.tuple = some p := h
    cases q : pyDs ds with
    | none => rw [q] at h; cases h
    | some l =>
      rw [q] at h
      have h := Option.some.inj h
      subst h
      exact pyDs_nodict ds l q
  | .lst ds, p, h => by
    have h : (pyDs ds).map PyData.list = some p := h
    cases q : pyDs ds with
    | none => rw [q] at h; cases h
    | some l =>
      rw [q] at h
      have h := Option.some.inj h
      subst h
      exact pyDs_nodict ds l q
  | .cel _, p, h => by cases h
  | .opq _, p, h => by cases h
  | .err _ _ _, p, h => by cases h
  | .fn _, p, h => by cases h
  | .dk _ _, p, h => by cases h
  | .dt _ _, p, h => by cases h
theorem pyDs_nodict : ∀ (d : List D) (p : List PyData), pyDs d = some p → PyData.hasDictAll p = false
  | [], p, h => by cases h; rfl
  | d :: r, p, h => by
    unfold pyDs at h
    split at h
    · rename_i x xs h1 h2
      cases h
      show (x.hasDict || PyData.hasDictAll xs) = false
      rw [pyD_nodict d x h1, pyDs_nodict r xs h2]
      rfl
    · cases h
end
section
variable {P : Program} {w : World} {K : PySem.W.Frag} {Hf H : Hp} {ρ : List Addr} {h : Heap}
mutual
theorem Dat.reads (ok : HOk P w H h) (ki : K.In h) (e : Same Hf H) {v : V} {d : D} (q : Dat K Hf ρ v d) {p : PyData} (hp : pyD d = some p) {u : Value} (r : RelV v u) : ∃ as, Reads h u p as :=
  match q with
  | .non => by
    cases hp
    obtain rfl : u = Value.none := r
    exact ⟨[], .none⟩
  | .bl b => by
    cases hp
    obtain rfl : u = Value.bool b := r
    exact ⟨[], .bool b⟩
  | .int i => by
    cases hp
    obtain ⟨t, rfl⟩ := r
    exact ⟨[], .int i t⟩
  | .str x => by
    cases hp
    obtain ⟨t, rfl⟩ := r
    exact ⟨[], .str x t⟩
  | .tup (a := a) (ds := ds) z hs => by
    have hp : (pyDs ds).map PyData.tuple = some p := hp
    obtain rfl : u = Value.ref a := r
    cases hq : pyDs ds with
    | none => rw [hq] at hp; cases hp
    | some l =>
      rw [hq] at hp
      have hp := Option.some.inj hp
      subst hp
      obtain ⟨_, its, rv, o, e1, e2, n, e3⟩ := ok a _ (e _ _ z)
      obtain ⟨as, ra⟩ := Dats.reads ok ki e hs hq rv
      exact ⟨as, .tuple e1 e2 e3 (by simpa using ra)⟩
  | .lst (a := a) (ds := ds) z hs => by
    have hp : (pyDs ds).map PyData.list = some p := hp
    obtain rfl : u = Value.ref a := r
    cases hq : pyDs ds with
    | none => rw [hq] at hp; cases hp
    | some l =>
      rw [hq] at hp
      have hp := Option.some.inj hp
      subst hp
      rcases same_l e z with z | ⟨o, its, n, k1, k2, k3, k4, k5, rv⟩
      · obtain ⟨_, its, n, rv, e1⟩ := z.ok ok
        obtain ⟨as, ra⟩ := Dats.reads ok ki e hs hq rv
        exact ⟨_, .list e1 rfl rfl (by simpa using ra)⟩
      · obtain ⟨as, ra⟩ := Dats.reads ok ki e hs hq rv
        exact ⟨_, .list (ki _ _ k1) k2 k4 ra⟩
  | .cel _ => by cases hp
  | .opq _ => by cases hp
  | .fn _ => by cases hp
  | .dk _ _ _ => by cases hp
  | .dt _ _ _ => by cases hp
theorem Dats.reads (ok : HOk P w H h) (ki : K.In h) (e : Same Hf H) {vs : List V} {ds : List D} (q : Dats K Hf ρ vs ds) {ps : List PyData} (hp : pyDs ds = some ps) {us : List Value} (r : Vals vs us) : ∃ as, ReadsAll h us ps as :=
  match q, r with
  | .nil, .nil => by
    cases hp
    exact ⟨[], .nil⟩
  | .cons q qs, .cons r rs => by
    unfold pyDs at hp
    split at hp
    · rename_i x xs h1 h2
      cases hp
      obtain ⟨as, ra⟩ := Dat.reads ok ki e q h1 r
      obtain ⟨bs, rb⟩ := Dats.reads ok ki e qs h2 rs
      exact ⟨as ++ bs, .cons ra rb⟩
    · cases hp
end
end
/-- the text of data, where it can be told -/
def dRepr (d : D) : Option D := match pyD d with
  | some p => if p.showable = true ∧ p.depth ≤ 50 ∧ p.shown.length ≤ 10000 then some (.str p.shown) else none
  | none => none
def xRepr (s : S (List D)) : S D := S.bind s fun ds => S.opt (match ds with
  | [d] => dRepr d
  | _ => none)
section
variable [Tabs0] {X : Cx} {W : Wh}
def rRepr (K : PySem.W.Frag) : List V → Hp → VK → Prop := fun xs H Q => ∃ (Hf : Hp) (ρ : List Addr) (v : V) (d : D) (p : PyData), xs = [v] ∧ Same Hf H ∧ Dat K Hf ρ v d ∧ pyD d = some p ∧ p.showable = true ∧ p.depth ≤ 50 ∧ p.shown.length ≤ 10000 ∧ Q (.str p.shown) H
theorem un_of {k : Nat} {A B : Around} (hr : Room k A) (h : B.units = A.units := by rfl) : B.units + 64 < cLine := by
  have := hr.un
  omega
theorem cr_repr (gd : X.A.guards = some []) (hu : X.A.units + 64 < cLine) : CallR X (.builtin "repr") (rRepr X.K) := by
  rintro pins s σ H xs us Q I r ⟨Hf, ρ, v, d, p, rfl, e, q, hp, h1, h2, h3, hQ⟩
  cases r with
  | cons r0 rn =>
    rename_i u us'
    cases rn
    obtain ⟨as, rd⟩ := q.reads I.hok I.kIn e hp r0
    have nd := pyD_nodict d p hp
    have hz : p.shown.length ≤ sizeLine := Nat.le_trans h3 (by rw [sizeLine_eq]; decide)
    cases rd with
    | none => exact PySem.P.repr_of_none ⟨.str _, H, I.tok _, ⟨_, rfl⟩, hQ⟩
    | bool b =>
      refine PySem.P.repr_of_bool ⟨.str _, H, I.tok _, ⟨_, rfl⟩, ?_⟩
      have e0 : (PyData.bool b).shown = (if b then ("True" : Str) else "False") := by simp only [PyData.shown]
      rw [e0] at hQ
      cases b <;> exact hQ
    | int i t =>
      have e0 : (PyData.int i).shown = toString i := by simp only [PyData.shown]
      rw [e0] at hQ
      exact PySem.P.repr_of_int (by simpa [PyData.showable] using h1) ⟨.str _, H, I.tok _, ⟨_, rfl⟩, hQ⟩
    | str x t =>
      have e0 : (PyData.str x).shown = reprText x := by simp only [PyData.shown]
      rw [e0] at hQ hz
      exact PySem.P.repr_of_str ⟨.str _, H, I.tok _, ⟨_, rfl⟩, hQ⟩ hz
    | list a1 a2 a3 a4 =>
      exact repr_of_reads' (h₀ := s.heap) (.list a1 a2 a3 a4) h1 (fun q => by rw [nd] at q; cases q) gd (by omega) (fun _ _ q => q) (fun h' u tk k => ⟨.str _, H, I.kept k, ⟨_, rfl⟩, hQ⟩) hz
    | tuple a1 a2 a3 a4 =>
      exact repr_of_reads' (h₀ := s.heap) (.tuple a1 a2 a3 a4) h1 (fun q => by rw [nd] at q; cases q) gd (by omega) (fun _ _ q => q) (fun h' u tk k => ⟨.str _, H, I.kept k, ⟨_, rfl⟩, hQ⟩) hz
    | dict a1 a2 a3 a4 a5 => cases nd
theorem se_repr {e : Expr} {s : S (List D)} (h : PE X e (tCB (rRepr X.K) (tA X.K X.mg W s))) : SE X W e (xRepr s) := pe_imp h fun σ H Q ⟨Hf, F, ρ, env, C, S0, E0, g⟩ => ⟨Hf, F, ρ, env, C, S0, E0, (Go.bind g).mono fun vs H1 ⟨Hf1, ρ1, C1, ds, e1, p1, S1, A1, g1⟩ => by
  obtain ⟨d, hd, g2⟩ := Go.opt g1
  split at hd
  · rename_i d0
    unfold dRepr at hd
    split at hd
    · rename_i p hp
      split at hd
      · rename_i hc
        have hd := Option.some.inj hd
        subst hd
        cases A1 with
        | cons q qs =>
          cases qs
          exact ⟨Hf1, ρ1, _, d0, p, rfl, S1.ex, q, hp, hc.1, hc.2.1, hc.2.2, g2 _ H1 Hf1 ρ1 (Same.refl _) (List.prefix_refl _) S1 (.str _)⟩
      · cases hd
    · cases hd
  · cases hd⟩

/-! ### defs as data -/
def Held1 (K : PySem.W.Frag) (mg : Str → Option Value) (x : Str) : Prop := ∃ a : Addr, PySem.W.nsIn K mainGlobals x = some (some (.ref a)) ∧ mg x = some (.ref a)
theorem se_fn {x : Str} {pos : Pos} (hg : Gl X x) (h : Held1 X.K X.mg x) (hdb : (x == ("__debug__" : Str)) = false) : SE X W (.Name x pos) (S.val (.fn x)) :=
  ⟨fun pins s σ H Q I ⟨Hf, F, ρ, env, C, S0, E0, g⟩ => by
    obtain ⟨a, kk, gm⟩ := h
    exact ld_glob I hg gm ⟨.ref a, H, I, rfl, Go.val (env := env) g S0 (.fn kk)⟩ hdb⟩
/-- the slot holds one of some defs -/
def xCallV (i : Nat) (tb : List (Str × Fn)) (s : S (List D)) : S D := fun env C => match env[i]? with
  | some (some (.fn x)) => match tb.lookup x with
    | some f => xCall f s env C
    | none => none
  | _ => none
structure CalV (P : Program) (w : World) (K : PySem.W.Frag) (mg : Str → Option Value) (base : Heap) (k : Nat) (tb : List (Str × Fn)) : Prop where
  all : ∀ p ∈ tb, ∃ (n j : Nat) (a : Addr), j ≤ k ∧ Cal P w K mg base p.1 n j p.2 ∧ PySem.W.nsIn K mainGlobals p.1 = some (some (.ref a)) ∧ mg p.1 = some (.ref a)
theorem CalV.nil {P : Program} {w : World} {K : PySem.W.Frag} {mg : Str → Option Value} {base : Heap} {k : Nat} : CalV P w K mg base k [] := ⟨fun p h => absurd h List.not_mem_nil⟩
theorem CalV.cons {P : Program} {w : World} {K : PySem.W.Frag} {mg : Str → Option Value} {base : Heap} {x : Str} {n j k : Nat} {f : Fn} {tb : List (Str × Fn)} (hj : j ≤ k) (c : Cal P w K mg base x n j f) (h : Held1 K mg x) (r : CalV P w K mg base k tb) : CalV P w K mg base k ((x, f) :: tb) :=
  ⟨fun p hp => by
    rcases List.mem_cons.mp hp with rfl | hp
    · obtain ⟨a, h1, h2⟩ := h
      exact ⟨n, j, a, hj, c, h1, h2⟩
    · exact r.all p hp⟩
theorem se_callV {x : Str} {p pos : Pos} {e : Expr} {es : List Expr} {i k : Nat} {tb : List (Str × Fn)} {s : S (List D)} (c : CalV X.prog X.w X.K X.mg X.base k tb) (tk : Takes X W.w) (hr : Room k X.A) (gd : X.A.guards = some []) (hv : PE X (.Name x p) (tVar i)) (ha : SA X W (e :: es) s)
    (he : starEach (e :: es) X.env = (false, eval e X.env) :: starEach es X.env) (hpl : (backTo pos (starEach es X.env)).any (·.1) = false) : SE X W (.Call (.Name x p) (e :: es) [] pos) (xCallV i tb s) := ⟨fun pins z σ H Q I ⟨Hf, F, ρ, env, C, S0, E0, g⟩ => by
  unfold xCallV at g
  split at g
  · rename_i x0 hx
    split at g
    · rename_i f hf
      obtain ⟨n, j, a, hj, cal, k1, k2⟩ := c.all _ (PySem.mem_of_lookup hf)
      obtain ⟨v, hv1, hv2⟩ := E0.at_ i _ hx rfl
      cases hv2 with
      | fn k3 =>
        have k3' := k3.symm.trans k1
        cases k3'
        obtain ⟨a', fd, ps, h1, h2, h3, h4⟩ := cal.ex
        have k2' := k2.symm.trans h1
        cases k2'
        refine wpAny_Call_Name_kw (thn (hv.run pins z σ H (fun v H1 => v = .ref a ∧ H1 = H) I ⟨_, hv1, rfl, rfl⟩) fun u z1 ⟨v, H1, I1, r1, q1⟩ => ?_)
        obtain ⟨rfl, rfl⟩ := q1
        obtain rfl : u = Value.ref a := r1
        have hc := goCall cal.ar (X := X) ⟨Hf, F, ρ, env, C, S0, E0, g⟩
        refine PySem.W.callWith_K (h₀ := X.base) I1.ok.mod.kin h2 (thn (ha.run pos pins z1 σ H1 _ I1 hc) fun us z2 ⟨vs, H2, I2, r, q⟩ => ⟨I2.kIn, ?_⟩) he hpl
        have b := h3 z2 us I2.kIn (by rw [List.append_nil, ← r.length]; exact h4.lg _ _ _ _ q)
        rw [List.append_nil] at b
        refine wpAny_call (codeAny_mono (h4.go X.A X.stack z2 H2 ⟨us, []⟩ us vs Q (WE W.w σ) gd (hr.mono hj) I2.env0 b r q) fun r z3 hq => ?_)
        match r, hq with
        | .error ev, hq => exact passAt tk σ pins H2 z2 ev z3 I2 hq
        | .ok (.ret u), hq => exact I2.after hq
        | .ok .next, hq => exact hq.elim
        | .ok .brk, hq => exact hq.elim
        | .ok .cont, hq => exact hq.elim
    · exact g.elim
  · exact g.elim⟩

/-! ### the makers of lambdas, and the defs that try them -/
structure FunC (K : PySem.W.Frag) (x qual : Str) (st : Stmt) (f : Addr) (fd : FuncData) (c : Addr) : Prop where
  ex : ∃ (oc : Value) (od : Option Addr) (kV doc pm : Value) (an : Option Addr) (ct : Value) (osl : Array (Option Value)),
    fd = PySem.W.fnOf x qual (defArgs st) (defBody st) (defScope st) .none kV doc pm an (.ref c) ct ∧ K.lookup f = some ⟨oc, od, .func fd, osl⟩ ∧ PySem.W.codeIn K (.ref c) qual = true
  kp : PySem.W.keepIn K (.ref f) = true
theorem FunC.of {K : PySem.W.Frag} {x qual : Str} {st : Stmt} {f c : Addr} {oc : Value} {od : Option Addr} {kV doc pm : Value} {an : Option Addr} {ct : Value} {osl : Array (Option Value)}
    (h1 : K.lookup f = some ⟨oc, od, .func (PySem.W.fnOf x qual (defArgs st) (defBody st) (defScope st) .none kV doc pm an (.ref c) ct), osl⟩) (h2 : PySem.W.codeIn K (.ref c) qual = true) (h3 : PySem.W.keepIn K (.ref f) = true) :
    FunC K x qual st f (PySem.W.fnOf x qual (defArgs st) (defBody st) (defScope st) .none kV doc pm an (.ref c) ct) c := ⟨⟨oc, od, kV, doc, pm, an, ct, osl, rfl, h1, h2⟩, h3⟩
theorem FunC.fun {K : PySem.W.Frag} {x qual : Str} {st : Stmt} {f c : Addr} {fd : FuncData} (F : FunC K x qual st f fd c) : L2.Fun K x qual st f fd := by
  obtain ⟨oc, od, kV, doc, pm, an, ct, osl, h1, h2, h3⟩ := F.ex
  exact ⟨⟨oc, od, kV, doc, pm, an, .ref c, ct, osl, h1, h2, h3⟩, F.kp⟩
section
variable {P : Program} {w : World} {K : PySem.W.Frag} {mg : Str → Option Value} {base : Heap}
theorem fnG_ofC {x qual : Str} {st : Stmt} {f c : Addr} {fd : FuncData} {N ps : List Str} {n k : Nat} {b : SS} (F : FunC K x qual st f fd c) (Sc : FnScope N ps (defScope st)) (hn : ps.length = n)
    (body : ∀ (A : Around) (outer : List PySem.Env) (s : Shared) (H : Hp) (E : XK), Room k (A.deeper (envOfC qual (defScope st) s.heap.objs.size f (.ref c))) → (A.deeper (envOfC qual (defScope st) s.heap.objs.size f (.ref c))).guards = some [] → SCs (cxOf (L2.CX P w) P w K mg base N qual (defScope st) f (.ref c) A outer s H E) (WF E) (defBody st) b) :
    FnG P w K mg base (k + 1) f fd ps (spS K mg n (xDef n N.length b)) := by
  have hl : ∀ vs H Q E, spS K mg n (xDef n N.length b) vs H Q E → vs.length = ps.length := fun vs H Q E h => by rw [hn]; exact h.1
  obtain ⟨oc, od, kV, doc, pm, an, ct, osl, rfl, lk, hcd⟩ := F.ex
  exact ⟨hl, fun A fs s H args us vs Q E gd hr e0 hb r h => LamX.run_ofS lk hcd Sc hr e0 hb r (hl _ _ _ _ h) fun hr' => ⟨_, body A fs s H E hr' gd, goDef h⟩⟩
theorem cal_ofC {x qual : Str} {st : Stmt} {f c : Addr} {fd : FuncData} {N ps : List Str} {n k : Nat} {b : SS} (F : FunC K x qual st f fd c) (gF : mg x = some (.ref f)) (hb : Binds K fd ps []) (Sc : FnScope N ps (defScope st)) (hn : ps.length = n)
    (body : ∀ (A : Around) (outer : List PySem.Env) (s : Shared) (H : Hp) (E : XK), Room k (A.deeper (envOfC qual (defScope st) s.heap.objs.size f (.ref c))) → (A.deeper (envOfC qual (defScope st) s.heap.objs.size f (.ref c))).guards = some [] → SCs (cxOf (L2.CX P w) P w K mg base N qual (defScope st) f (.ref c) A outer s H E) (WF E) (defBody st) b) :
    Cal P w K mg base x n (k + 1) (xDef n N.length b) := ⟨⟨f, fd, ps, gF, F.kp, hb, fnG_ofC F Sc hn body⟩, xDef_ar⟩
theorem takes_lam {X : Cx} {A : Around} {fs : List PySem.Env} {s : Shared} {H : Hp} {E : XK} {ls : Scope} {f c : Addr} : Takes (LamX.lamCx X A fs s H E ls f c) (WF E).w := takes_of rfl rfl rfl rfl
theorem ear_of {x : Str} {st : Stmt} {f : Addr} {fd : FuncData} {N : List Str} {a : Str} {h0 : ExceptHandler} {hs : List ExceptHandler} {fe : Expr} {p1 p2 p3 p4 p5 : Pos} {n : Nat} {hr : Hrs} {fine : S D} (F : L2.Fun K x x st f fd) (gF : mg x = some (.ref f)) (hb : Binds K fd [a] []) (Sc : FnScope N [a] (defScope st))
    (hN : N[0]? = some a) (hn : N.length = n) (hv : Vis (defScope st) a) (d1 : (a == ("__debug__" : Str)) = false) (d2 : (a == ("__classdict__" : Str)) = false) (bd : defBody st = [.Try [.Expr (.Call (.Name a p1) [] [] p2) p3] (h0 :: hs) [] [] p4, .Return (some fe) p5])
    (body : ∀ (cdv : Value) (A : Around) (fs : List PySem.Env) (s : Shared) (H : Hp), Room 0 (A.deeper (envOfC x (defScope st) s.heap.objs.size f cdv)) → (A.deeper (envOfC x (defScope st) s.heap.objs.size f cdv)).guards = some [] →
      Hears (cxOf (L2.CX P w) P w K mg base N x (defScope st) f cdv A fs s H (fun _ _ _ => False)) (h0 :: hs) hr ∧ SE (cxOf (L2.CX P w) P w K mg base N x (defScope st) f cdv A fs s H (fun _ _ _ => False)) (WF fun _ _ _ => False) fe fine) : EarOk P w K mg base x n hr fine := by
  obtain ⟨oc, od, kV, doc, pm, an, cdv, ct, osl, rfl, lk, hcd⟩ := F.ex
  exact ⟨f, oc, od, kV, doc, pm, an, cdv, ct, osl, st, N, a, h0, hs, fe, p1, p2, p3, p4, p5, gF, F.kp, lk, hcd, hb, Sc, hN, hn, hv, d1, d2, bd, body cdv⟩
/-- an own class that only bears a message -/
structure MsgC (K : PySem.W.Frag) (mg : Str → Option Value) (x : Str) (a : Addr) (bm : List Value) (nw : String) : Prop where
  g : mg x = some (.ref a)
  q : PySem.W.excIn K a bm nw = true
  k : PySem.W.keepIn K (.ref a) = true
  s : PySem.W.subIn K (.ref a) (.type "BaseException") = some true
  t : PySem.W.typeIn K (.ref a) = some (.type "type")
end
end
end Sm
end
section
set_option maxRecDepth 100000
set_option maxHeartbeats 0
namespace Sm
open PySem L2
/-! ### a loop whose turns forget the lists that they made -/
def cutV (n : Nat) (o : Option D) : Option D := match o with
  | some d => if nocel d = true then some d else match d with
    | .cel m => if m < n then some d else none
    | _ => none
  | none => none
def cutE (n : Nat) (e : Env) : Env := e.map (cutV n)
def lpC (g : Gd) (t : Tg) (b : SS) (n : Nat) : List D → SS
  | [] => fun e C => if g C = true then some (.nx (cutE n e) (C.take n)) else none
  | d :: r => fun e C => if g C = true ∧ nocel d = true then match t.put d (cutE n e) with
      | none => none
      | some e1 => match b e1 (C.take n) with
        | some (.nx e2 C2) => lpC g t b n r e2 C2
        | some (.ct e2 C2) => lpC g t b n r e2 C2
        | some (.bk e2 C2) => some (.nx e2 C2)
        | o => o
    else none
def xForC (it : SW) (t : Tg) (b : SS) : SS := xDo it fun p e C => lpC p.2 t b C.length p.1 e C
variable [Tabs0] {X : Cx} {W : Wh}
theorem EnvR.cutE {K : PySem.W.Frag} {mg : Str → Option Value} {xc : XC} {Hf : Hp} {ρ ρ' : List Addr} {σ : L2.St} {env : Env} (h : EnvR K mg xc Hf ρ' σ env) (p : ρ <+: ρ') : EnvR K mg xc Hf ρ σ (Sm.cutE ρ.length env) := by
  have get : ∀ {i : Nat} {d : D}, (Sm.cutE ρ.length env)[i]? = some (some d) → env[i]? = some (some d) ∧ cutV ρ.length (some d) = some d := fun {i d} q => by
    unfold Sm.cutE at q
    rw [List.getElem?_map] at q
    cases e : env[i]? with
    | none => rw [e] at q; cases q
    | some o =>
      rw [e] at q
      have q : cutV ρ.length o = some d := Option.some.inj q
      cases o with
      | none => cases q
      | some d' =>
        have e2 : d' = d := by
          have q2 := q
          unfold cutV at q2
          simp only [] at q2
          split at q2
          · exact Option.some.inj q2
          · split at q2
            · split at q2
              · exact Option.some.inj q2
              · cases q2
            · cases q2
        subst e2
        exact ⟨rfl, q⟩
  refine ⟨by unfold Sm.cutE; rw [List.length_map]; exact h.len, fun i d q n => ?_, fun i a cls dd c f d hx q => ?_⟩
  · obtain ⟨q1, q2⟩ := get q
    obtain ⟨v, v1, v2⟩ := h.at_ i d q1 n
    refine ⟨v, v1, ?_⟩
    unfold cutV at q2
    simp only [] at q2
    split at q2
    · rename_i nc
      exact (v2.bare nc).mono (Same.refl _) List.nil_prefix
    · split at q2
      · split at q2
        · rename_i m hm
          cases v2 with
          | cel hc =>
            refine .cel ?_
            obtain ⟨t, rfl⟩ := p
            rw [List.getElem?_append_left hm] at hc
            exact hc
        · cases q2
      · cases q2
  · obtain ⟨q1, q2⟩ := get q
    unfold cutV at q2
    simp only [nocel, Bool.false_eq_true, if_false] at q2
    cases q2
theorem sc_forC {tg iter : Expr} {body : List Stmt} {pos : Pos} {it : SW} {t : Tg} {b : SS} (hp : PassesOwn (model X.prog X.w) X.A X.env X.xe) (hc : X.calm = true) (hi : SI X W tg iter it) (hg : SG X W tg t) (hb : SCs X W body b)
    (hs : ∀ x, foldedSetIterable iter X.env x = pure x) : SC X W (.For tg iter body [] pos) (xForC it t b) :=
  ps_imp (ps_for hp hc hi hg hb hs) fun D σ H ⟨Hf, F, ρ, env, C, S0, E0, g0⟩ => ⟨Hf, F, ρ, env, C, S0, E0, (GoS.doit E0 g0).mono fun J H1 ⟨Hf1, ρ1, C1, p, e1, p1, S1, w1, g1⟩ => by
    obtain ⟨ds, g⟩ := p
    have hl1 : ρ1.length = C1.length := S1.len
    refine ⟨fun i m σ2 H2 => i ≤ ds.length ∧ m = ds.length - i ∧ ∃ Hf2 ρ2 env2 C2, Same Hf1 Hf2 ∧ ρ1 <+: ρ2 ∧ SR X.K Hf2 F ρ2 C2 H2 ∧ EnvR X.K X.mg W.xc Hf2 ρ2 σ2 env2 ∧ GoS X.K X.mg W Hf2 F ρ1 (lpC g t b C1.length (ds.drop i) env2 C2) D,
      ⟨ds.length, Nat.zero_le _, rfl, Hf1, ρ1, env, C1, Same.refl _, List.prefix_refl _, S1, E0.mono e1 p1, g1⟩, ?_⟩
    rintro i m σ2 H2 ⟨hi, rfl, Hf2, ρ2, env2, C2, e2, p2, S2, E2, g2⟩
    by_cases hlt : i < ds.length
    · rw [List.drop_eq_getElem_cons hlt] at g2
      unfold lpC at g2
      split at g2
      · rename_i hgd
        obtain ⟨go, yl⟩ := (w1 i Hf2 F ρ2 C2 H2 e2 p2 S2 hgd.1).1 hlt
        refine .inr ⟨go, fun σ' H' => ∃ Hf3 ρ3 env3 C3, Same Hf2 Hf3 ∧ ρ1 <+: ρ3 ∧ SR X.K Hf3 F ρ3 C3 H' ∧ EnvR X.K X.mg W.xc Hf3 ρ3 σ' env3 ∧ GoS X.K X.mg W Hf3 F ρ1 (lpC g t b C1.length (ds.drop (i + 1)) env3 C3) D,
          fun σ' H' ⟨Hf3, ρ3, env3, C3, e3, p3, S3, E3, g3⟩ => ⟨ds.length - (i + 1), by omega, hlt, rfl, Hf3, ρ3, env3, C3, e2.trans e3, p3, S3, E3, g3⟩, fun x H3 hy => ?_⟩
        obtain ⟨d, Hf3, hd, e3, S3, D3⟩ := yl x H3 hy
        have ed : ds[i] = d := by
          rw [List.getElem?_eq_getElem hlt] at hd
          exact Option.some.inj hd
        rw [ed] at g2 hgd
        have S4 : SR X.K Hf3 F ρ1 (C2.take C1.length) H3 := by
          have q := S3.cut C1.length
          rw [← hl1, pre_take p2, hl1] at q
          exact q
        have E4 : EnvR X.K X.mg W.xc Hf3 ρ1 σ2 (cutE C1.length env2) := by
          have q := (E2.mono e3 (List.prefix_refl _)).cutE p2
          rw [hl1] at q
          exact q
        have D4 : Dat X.K Hf3 ρ1 x d := (D3.bare hgd.2).mono (Same.refl _) List.nil_prefix
        cases ht : t.put d (cutE C1.length env2) with
        | none =>
          rw [ht] at g2
          exact g2.elim
        | some env3 =>
          rw [ht] at g2
          refine ⟨Hf3, F, ρ1, _, C2.take C1.length, d, S4, E4, D4, env3, ht, fun σ4 E5 _ => ⟨Hf3, F, ρ1, env3, _, S4, E5, ?_⟩⟩
          simp only [] at g2
          cases hb' : b env3 (C2.take C1.length) with
          | none =>
            rw [hb'] at g2
            exact g2
          | some r =>
            rw [hb'] at g2
            cases r with
            | nx e' C' => exact fun σ' H' Hf' ρ' e4 p4 s4 n4 => ⟨Hf', ρ', e', C', e3.trans e4, p4, s4, n4, (g2.later e3 (List.prefix_refl _)).later e4 (List.prefix_refl _)⟩
            | ct e' C' => exact fun σ' H' Hf' ρ' e4 p4 s4 n4 => ⟨Hf', ρ', e', C', e3.trans e4, p4, s4, n4, (g2.later e3 (List.prefix_refl _)).later e4 (List.prefix_refl _)⟩
            | bk e' C' => exact fun σ' H' Hf' ρ' e4 p4 s4 n4 => g2 σ' H' Hf' ρ' (e3.trans e4) p4 s4 n4
            | ret d' C' => exact fun v H' Hf' ρ' e4 p4 s4 n4 => g2 v H' Hf' ρ' (e3.trans e4) p4 s4 n4
            | ex c q e' C' => exact fun cls dd σ' H' Hf' ρ' e4 p4 s4 n4 x4 => g2 cls dd σ' H' Hf' ρ' (e3.trans e4) p4 s4 n4 x4
      · exact g2.elim
    · have ei : i = ds.length := by omega
      subst ei
      rw [List.drop_eq_nil_of_le (Nat.le_refl _)] at g2
      unfold lpC at g2
      split at g2
      · rename_i hgd
        have S4 : SR X.K Hf2 F ρ1 (C2.take C1.length) H2 := by
          have q := S2.cut C1.length
          rw [← hl1, pre_take p2, hl1] at q
          exact q
        have E4 : EnvR X.K X.mg W.xc Hf2 ρ1 σ2 (cutE C1.length env2) := by
          have q := E2.cutE p2
          rw [hl1] at q
          exact q
        exact .inl ⟨(w1 _ Hf2 F ρ2 C2 H2 e2 p2 S2 hgd).2 (Nat.le_refl _), g2 σ2 H2 Hf2 ρ1 (Same.refl _) (List.prefix_refl _) S4 E4⟩
      · exact g2.elim⟩
/-! ### a new list some times -/
def repL (ds : List D) (d : D) : Option (List D) := match d with
  | .int k => if -1000 ≤ k ∧ k ≤ 1000 ∧ ds.length ≤ 1000 then some (List.replicate k.toNat ds).flatten else none
  | _ => none
def xRepL (sa : S (List D)) (sb : S D) : S (List D) := S.bind sa fun ds => S.bind sb fun n => S.opt (repL ds n)
theorem sl_rep {a b : Expr} {pos : Pos} {sa : S (List D)} {sb : S D} (ha : SL X W a sa) (hb : SE X W b sb) : SL X W (.BinOp a .Mult b pos) (xRepL sa sb) :=
  pe_imp (pe_op op_rep ha hb) fun σ H Q ⟨Hf, F, ρ, env, C, S0, E0, g⟩ => ⟨Hf, F, ρ, env, C, S0, E0, by
    unfold xRepL S.bind at g
    cases h1 : sa env C with
    | none => rw [h1] at g; exact g
    | some r =>
      rw [h1] at g
      cases r with
      | ex c q C' => exact g
      | ok ds C1 =>
        refine fun v H1 Hf1 ρ1 e1 p1 f1 => ?_
        cases f1 with
        | @mk p vs _ h hs S1 S2 nf =>
          have e2 : Same Hf1 (upd Hf1 p (.lst vs)) := fun b u q => by
            rw [upd_ne (ne_of_none q nf)]
            exact q
          refine ⟨_, F, ρ1, env, C1, S1, (E0.mono e1 p1).mono e2 (List.prefix_refl _), ?_⟩
          simp only [] at g
          cases h2 : sb env C1 with
          | none => rw [h2] at g; exact g.elim
          | some r =>
            rw [h2] at g
            cases r with
            | ex c q C' => exact fun cls dd H' Hf' ρ' e3 p3 s3 x3 => g cls dd H' Hf' ρ' ((e1.trans e2).trans e3) (p1.trans p3) s3 x3
            | ok n C2 =>
              refine fun y H2 Hf2 ρ2 e3 p3 S3 D3 => ?_
              simp only [] at g
              cases hr : repL ds n with
              | none => rw [hr] at g; exact g.elim
              | some rs =>
                rw [hr] at g
                unfold repL at hr
                split at hr
                · rename_i k
                  split at hr
                  · rename_i hk
                    have hr := Option.some.inj hr
                    subst hr
                    cases D3
                    have hH : H2 p = some (.lst vs) := S3.ex _ _ (e3 _ _ upd_same)
                    have hd : Dats X.K Hf2 ρ2 vs ds := (hs.mono e2 (List.prefix_refl _)).mono e3 p3
                    have hl : vs.length = ds.length := hd.len
                    refine ⟨p, k, vs, rfl, rfl, hH, by omega, by omega, ?_, fun q hq => ?_⟩
                    · rw [sizeLine_eq, hl]
                      have h5 : k.toNat ≤ 1000 := by omega
                      exact Nat.le_trans (Nat.mul_le_mul hk.2.2 h5) (by decide)
                    · exact g (.ref q) _ Hf2 ρ2 ((e1.trans e2).trans e3) (p1.trans p3) (fresh_new S3 hq (hd.rep _))
                  · cases hr
                · cases hr⟩
end Sm
end
section
set_option maxRecDepth 100000
set_option maxHeartbeats 0
namespace Sm
open PySem L2
variable [Tabs0] {X : Cx} {W : Wh}
/-! ### xs[i] op= e, ints in a changing list, from its start -/
def rGetL (K : PySem.W.Frag) : V → V → Hp → VK → Prop := fun o i H Q => ∃ (p : Addr) (xs : List V) (k : Int) (z : V), o = .ref p ∧ i = .int k ∧ SqL K H p xs ∧ 0 ≤ k ∧ k < 2 ^ 62 ∧ xs[k.toNat]? = some z ∧ Q z H
theorem get_list : PGet X (rGetL X.K) := by
  rintro pins s σ H o i ov iv Q I ro ri ⟨p, xs, k, z, rfl, rfl, hq, k0, k1, hz, q⟩
  cases ro
  obtain ⟨t, rfl⟩ := ri
  obtain ⟨its, r, pl, _⟩ := I.list hq
  obtain ⟨w, ew, rw'⟩ := r.get hz
  exact wpAny_getItem_list pl.isList k0 (by omega) (by simpa using ew) ⟨z, H, I, rw', q⟩
def xAugS (f : D → D → Option D) (so si sv : S D) : SS := xDo so fun o => xDo si fun i => fun e C => match o, i with
  | .cel n, .int k => match C[n]? with
    | some (some (.l ds)) => if 0 ≤ k ∧ k < 4611686018427387904 then match ds[k.toNat]? with
        | some (.int a) => xDo sv (fun y e2 C2 => match y, C2[n]? with
          | .int b, some (some (.l ds2)) => match ixN ds2.length k, f (.int a) (.int b) with
            | some j, some z => if nocel z = true then some (.nx e2 (C2.set n (some (.l (ds2.set j z))))) else none
            | _, _ => none
          | _, _ => none) e C
        | _ => none
      else none
    | _ => none
  | _, _ => none
theorem sc_augS {o i e : Expr} {op : Operator} {tpos pos : Pos} {f : D → D → Option D} {so si sv : S D} {ti : TIp} (hf : ∀ (a b : Int) (d : D) (H : Hp) (Q : VK), f (.int a) (.int b) = some d → (∀ v, (∀ Hf ρ, Dat X.K Hf ρ v d) → Q v H) → ti (.int a) (.int b) H Q)
    (h : PS X (.AugAssign (.Subscript o i tpos) op e pos) (tAugS (tE X.K X.mg W so) (tE X.K X.mg W si) (tE X.K X.mg W sv) (rGetL X.K) ti rSetL)) : SC X W (.AugAssign (.Subscript o i tpos) op e pos) (xAugS f so si sv) :=
  ps_imp h fun D σ H ⟨Hf, F, ρ, env, C, S0, E0, g⟩ => ⟨Hf, F, ρ, env, C, S0, E0, (GoS.doit E0 g).mono fun x H1 ⟨Hf1, ρ1, C1, dx, e1, p1, S1, A1, g1⟩ =>
    ⟨Hf1, F, ρ1, env, C1, S1, E0.mono e1 p1, (GoS.doit (E0.mono e1 p1) g1).mono fun y H2 ⟨Hf2, ρ2, C2, dy, e2, p2, S2, A2, g2⟩ => by
      have E2 := (E0.mono e1 p1).mono e2 p2
      match dx, dy, A1, A2, g2 with
      | .cel n, .int k, .cel (a := ad) hn, .int _, g2 =>
        simp only [] at g2
        split at g2
        · rename_i ds hc
          split at g2
          · rename_i hk
            split at g2
            · rename_i a0 ha
              have hn2 := pre_get p2 hn
              obtain ⟨_, k2⟩ := S2.cel n ad _ hn2 hc
              obtain ⟨vs, hv, hd⟩ := k2.lst
              obtain ⟨z, z1, z2⟩ := hd.get ha
              cases z2
              refine ⟨ad, vs, k, .int a0, rfl, rfl, .inl (.inl hv), hk.1, by omega, z1, Hf2, F, ρ2, env, C2, S2, E2, (GoS.doit E2 g2).mono fun w H3 ⟨Hf3, ρ3, C3, dw, e3, p3, S3, A3, g3⟩ => ?_⟩
              split at g3
              · rename_i b0 ds2 hc3
                split at g3
                · rename_i j zz hj hz
                  split at g3
                  · rename_i nc
                    cases A3
                    have hn3 := pre_get p3 hn2
                    obtain ⟨_, k3⟩ := S3.cel n ad _ hn3 hc3
                    obtain ⟨vs3, hv3, hd3⟩ := k3.lst
                    exact hf a0 b0 zz H3 _ hz fun v hvd => ⟨ad, vs3, k, j, rfl, rfl, hv3, by rw [hd3.len]; exact hj, g3 σ _ Hf3 ρ3 (Same.refl _) (List.prefix_refl _) (S3.setCel hn3 hc3 (hd3.set (hvd Hf3 []) j)) (E2.mono e3 p3)⟩
                  · exact g3.elim
                · exact g3.elim
              · exact g3.elim
            · exact g2.elim
          · exact g2.elim
        · exact g2.elim⟩⟩
/-! ### sorted(ints, reverse=True) -/
def srtR (ds : List D) : Option (List D) := match ds with
  | [.lst es] => (intsOf es).map fun ns => (sortI ns).reverse.map D.int
  | _ => none
def xSrtR (s : S (List D)) : S (List D) := S.bind s fun ds => fun env C => S.opt (srtR (ds.map (vw C))) env C
theorem sl_srtR {x : Str} {p pos : Pos} {es : List Expr} {kws : List Keyword} {s : S (List D)} {tk : TA} (hk : ∀ σ H (Q : List V → Hp → Prop), Q [.bl true] H → tk σ H Q) (h : PE X (.Call (.Name x p) es kws pos) (tCKw (rSortedKw X.K true [.bl true]) (tA X.K X.mg W s) tk)) :
    SL X W (.Call (.Name x p) es kws pos) (xSrtR s) := pe_imp h fun σ H Q ⟨Hf, F, ρ, env, C, S0, E0, g⟩ => ⟨Hf, F, ρ, env, C, S0, E0, by
    unfold xSrtR S.bind at g
    cases e : s env C with
    | none =>
      rw [e] at g
      exact g
    | some r =>
      rw [e] at g
      cases r with
      | ex c q C' => exact g
      | ok ds C' =>
        refine fun vs H' Hf' ρ' e' p' S' A' => hk σ H' _ ?_
        have g' : GoL X.K X.mg W σ Hf F ρ (S.opt (srtR (ds.map (vw C'))) env C') Q := g
        cases hd : srtR (ds.map (vw C')) with
        | none =>
          rw [hd] at g'
          exact g'.elim
        | some es =>
          rw [hd] at g'
          have hv := vws_ok S' A'
          unfold srtR at hd
          split at hd
          · rename_i es0 heq
            obtain ⟨ns, h1, h2⟩ := Option.map_eq_some_iff.mp hd
            subst h2
            rw [heq] at hv
            cases hv with
            | cons h hs =>
              cases hs
              obtain ⟨a, xs, rfl, hx, hs⟩ := h.lst S'.ex
              have := intsOf_ok hs h1
              subst this
              refine ⟨a, ns, rfl, rfl, hx, fun ns' l hp ho hl => ?_⟩
              have en : ns' = (sortI ns).reverse := by
                have h3 : ns'.reverse = sortI ns := sorted_uniq (by
                  rw [List.pairwise_reverse]
                  exact ho) (sortI_sorted ns) (((List.reverse_perm _).trans hp).trans (sortI_perm ns).symm)
                rw [← h3, List.reverse_reverse]
              subst en
              exact g' (.ref l) _ Hf' ρ' e' p' (fresh_new S' hl (dats_ints _))
          · cases hd⟩
theorem sk_true (σ : L2.St) (H : Hp) (Q : List V → Hp → Prop) (h : Q [.bl true] H) : tCons (tC (.bl true)) tNil σ H Q := h
end Sm
end
section
set_option maxRecDepth 100000
set_option maxHeartbeats 0
namespace Sm
open PySem PyProof.Rows L2
/-! ### {k: v, ..} with keys that are tuples -/
def PT (H : Hp) : List (V × V) → List (List Key × V) → Prop := Paired fun p q => (∃ a, p.1 = .ref a ∧ H a = some (.tup (q.1.map kV))) ∧ p.2 = q.2
def tDispT (trs : List (TE × TE)) : TE := fun σ H Q => ∀ p, H p = none → tPairs trs σ (upd H p (.dT [])) fun ps H2 => H2 p = some (.dT []) ∧ ∃ kvs : List (List Key × V), PT H2 ps kvs ∧ kvs.length ≤ 15 ∧ Q (.ref p) (upd H2 p (.dT (mergeT [] kvs)))
theorem carriesT {P : Program} {w : World} {H : Hp} {h : Heap} (ok : HOk P w H h) : ∀ {ps : List (V × V)} {kvs : List (List Key × V)} {vs : List (Value × Value)}, PT H ps kvs → VV ps vs → ∃ rs, CarriesH (tupleKind (mixKind P w)) h vs rs ∧ KT H kvs rs
  | _, _, _, .nil, .nil => ⟨[], trivial, .nil⟩
  | _, _, _, .cons (a := p) (b := q) ⟨⟨a, e1, e2⟩, e3⟩ t, .cons (b := v) ⟨r1, r2⟩ s => by
    obtain ⟨rs, c, k⟩ := carriesT ok t s
    obtain ⟨v1, v2⟩ := v
    have r1 : RelV p.1 v1 := r1
    rw [e1] at r1
    obtain rfl : v1 = Value.ref a := r1
    refine ⟨(q.1, a, v2) :: rs, ⟨rfl, rfl, key_of ok e2, c⟩, .cons ⟨rfl, e2, ?_⟩ k⟩
    rw [← e3]
    exact r2
theorem pe_dispT {X : Cx} {pos : Pos} {keys : List (Option Expr)} {values : List Expr} {trs : List (TE × TE)} (hu : X.A.units + 64 < cLine) (h : PPs X pos keys values trs) (hall : keys.all (·.isSome) = true) (hl : keys.length = values.length) (h0 : keys ≠ []) (h15 : keys.length ≤ 15) :
    PE X (.Dict keys values pos) (tDispT trs) := ⟨fun pins s σ H Q I q => by
  have hn := I.hok.fresh (Nat.le_refl s.heap.objs.size)
  have I1 := I.laid (a := s.heap.objs.size) (o := .dT []) (h' := s.heap.push { cls := .type "dict", data := .dict #[] }) (t' := s.toks) (fun _ _ q => Heap.get?_push_of_some _ q) (Nat.le_refl _) (dt_empty s.heap I.big)
  have pl := pairTrees_length keys values X.env pos hall hl
  have p0 : pairTrees keys values X.env pos ≠ [] := fun e => by
    rw [e] at pl
    exact h0 (List.length_eq_zero_iff.mp pl.symm)
  rw [arm_eval_Dict, zip_pairTrees keys values X.env pos hall hl, dictDisplay_pairs _ p0 (by rw [pl]; omega)]
  refine wpAny_bind (wpAny_standAt (wpAny_bind (wpAny_subDictH (knd := tupleKind (mixKind X.prog X.w)) (show X.A.units < cLine by omega) (by rw [pl]; exact h15) (thn (h.run pins _ σ _ _ I1 (q _ hn)) fun ws s2 ⟨ps, H2, I2, rel, e, kvs, pt, lk, q2⟩ => ?_))))
  obtain ⟨rs, c, rk⟩ := carriesT I2.hok pt rel
  obtain ⟨z, hd, xs0, r0, dd⟩ := dt_of I2.hok e
  cases r0
  refine ⟨rs, c, dd, fun h' tk dd' hs => wpAny_pure ⟨.ref s.heap.objs.size, _, ?_, rfl, q2⟩⟩
  have hz : (mergeT [] kvs).length ≤ sizeLine := by
    have h1 := mergeT_len kvs []
    rw [List.length_nil] at h1
    rw [sizeLine_eq]; omega
  have rel2 : KT H2 (mergeT [] kvs) (storedAllH [] rs) := KT.mergeT rk .nil
  obtain ⟨o2, es, ep, g1, g2, g3, g4, g5, g6⟩ := dd'
  refine d_write I2 (by rw [e]; exact True.intro) hs ⟨_, g1⟩ ⟨hz, hd, _, L2.Paired.mapP rel2 fun p r ⟨k1, k2, k3⟩ => ⟨k1, ?_, k3⟩, o2, es, ep, g1, g2, g3, g4, g6⟩
  rw [upd_ne (fun z => by rw [z, e] at k2; cases k2)]
  exact k2⟩
variable [Tabs0]
/-- a tuple's items as a key -/
def keyW : List D → Option (List Key)
  | [] => some []
  | .int i :: r => (keyW r).map (.inl i :: ·)
  | .str x :: r => (keyW r).map (.inr x :: ·)
  | _ => none
theorem keyW_ok {K : PySem.W.Frag} {H : Hp} {ρ : List Addr} : ∀ {vs : List V} {ds : List D} {k : List Key}, Dats K H ρ vs ds → keyW ds = some k → vs = k.map kV
  | _, _, _, .nil, h => by
    cases h
    rfl
  | _, _, _, .cons (d := d) (ds := ds) q qs, h => by
    cases d with
    | int i =>
      cases q
      have h : (keyW ds).map (Sum.inl i :: ·) = some _ := h
      obtain ⟨k, h1, h2⟩ := Option.map_eq_some_iff.mp h
      subst h2
      rw [keyW_ok qs h1]
      rfl
    | str x =>
      cases q
      have h : (keyW ds).map (Sum.inr x :: ·) = some _ := h
      obtain ⟨k, h1, h2⟩ := Option.map_eq_some_iff.mp h
      subst h2
      rw [keyW_ok qs h1]
      rfl
    | _ => cases h
def xPairs : List (S D × S D) → S (List (D × D))
  | [] => S.val []
  | (k, v) :: r => S.bind k fun x => S.bind v fun y => S.bind (xPairs r) fun l => S.val ((x, y) :: l)
def keysT : List (D × D) → Option (List (List Key × D))
  | [] => some []
  | (.tup ds, y) :: r => match keyW ds, keysT r with
    | some k, some l => some ((k, y) :: l)
    | _, _ => none
  | _ => none
def dispT (l : List (D × D)) : Option D := if l.length ≤ 15 then (keysT l).map fun l => .dt (mrg [] [] l).1 (mrg [] [] l).2 else none
def okP {α : Type} (s : S α) : S α := fun e C => match s e C with
  | some (.ok l C1) => some (.ok l C1)
  | _ => none
def xDispT (ps : List (S D × S D)) : S D := S.bind (okP (xPairs ps)) fun l => S.opt (dispT l)
inductive DPs (K : PySem.W.Frag) (H : Hp) (ρ : List Addr) : List (V × V) → List (D × D) → Prop
  | nil : DPs K H ρ [] []
  | cons {x y : V} {a b : D} {l : List (V × V)} {m : List (D × D)} (h1 : Dat K H ρ x a) (h2 : Dat K H ρ y b) (r : DPs K H ρ l m) : DPs K H ρ ((x, y) :: l) ((a, b) :: m)
theorem goPairs {X : Cx} {W : Wh} : ∀ (ps : List (S D × S D)) {σ : L2.St} {H : Hp} {Q : List (V × V) → Hp → Prop}, tG X.K X.mg W (DPs X.K) (xPairs ps) σ H Q → tPairs (ps.map fun p => (tE X.K X.mg W p.1, tE X.K X.mg W p.2)) σ H Q
  | [], σ, H, Q, ⟨Hf, F, ρ, env, C, S0, E0, g⟩ => Go.val (env := env) g S0 .nil
  | (k, v) :: r, σ, H, Q, ⟨Hf, F, ρ, env, C, S0, E0, g⟩ => ⟨Hf, F, ρ, env, C, S0, E0, (Go.bind g).mono fun x H1 ⟨Hf1, ρ1, C1, a, e1, p1, S1, A1, g1⟩ =>
      ⟨Hf1, F, ρ1, env, C1, S1, E0.mono e1 p1, (Go.bind g1).mono fun y H2 ⟨Hf2, ρ2, C2, b, e2, p2, S2, B2, g2⟩ =>
        goPairs r ⟨Hf2, F, ρ2, env, C2, S2, (E0.mono e1 p1).mono e2 p2, (Go.bind g2).mono fun l H3 ⟨Hf3, ρ3, C3, m, e3, p3, S3, M3, g3⟩ => Go.val (env := env) g3 S3 (.cons (A1.mono (e2.trans e3) (p2.trans p3)) (B2.mono e3 p3) M3)⟩⟩⟩
theorem keysT_ok {K : PySem.W.Frag} {Hf H : Hp} {ρ : List Addr} (e : Same Hf H) : ∀ {l : List (V × V)} {m : List (D × D)} {t : List (List Key × D)}, DPs K Hf ρ l m → keysT m = some t → ∃ kvs : List (List Key × V), PT H l kvs ∧ kvs.map (·.1) = t.map (·.1) ∧ Dats K Hf ρ (kvs.map (·.2)) (t.map (·.2)) ∧ kvs.length = m.length
  | _, _, _, .nil, h => by
    cases h
    exact ⟨[], .nil, rfl, .nil, rfl⟩
  | _, _, _, .cons (x := x) (y := y) (a := a) (b := b) (m := m) h1 h2 r, h => by
    cases h1 with
    | @tup ad xs ds hh hs =>
      unfold keysT at h
      split at h
      · rename_i k l hk hl
        cases h
        obtain ⟨kvs, k1, k2, k3, k4⟩ := keysT_ok e r hl
        have hx := keyW_ok hs hk
        subst hx
        refine ⟨(k, y) :: kvs, .cons ⟨⟨ad, rfl, e _ _ hh⟩, rfl⟩ k1, ?_, .cons h2 k3, ?_⟩
        · rw [List.map_cons, List.map_cons, k2]
        · rw [List.length_cons, List.length_cons, k4]
      · cases h
    | _ => cases h
theorem se_dispT {X : Cx} {W : Wh} {pos : Pos} {keys : List (Option Expr)} {values : List Expr} {ps : List (S D × S D)} (hu : X.A.units + 64 < cLine) (h : PPs X pos keys values (ps.map fun p => (tE X.K X.mg W p.1, tE X.K X.mg W p.2))) (hall : keys.all (·.isSome) = true) (hl : keys.length = values.length)
    (h0 : keys ≠ []) (h15 : keys.length ≤ 15) : SE X W (.Dict keys values pos) (xDispT ps) :=
  pe_imp (pe_lockP (pe_dispT hu h hall hl h0 h15)) fun σ H Q ⟨Hf, F, ρ, env, C, S0, E0, g⟩ => fun p hp0 => by
    have hF : F p = none := S0.fr.free hp0
    refine goPairs ps ⟨Hf, upd F p (.dT []), ρ, env, C, S0.intoF hp0, E0, ?_⟩
    have g0 : Go X.K X.mg W (Dat X.K) σ Hf F ρ (S.bind (okP (xPairs ps)) (fun l => S.opt (dispT l)) env C) Q := g
    unfold S.bind okP at g0
    cases hx : xPairs ps env C with
    | none => rw [hx] at g0; exact g0.elim
    | some r =>
      rw [hx] at g0
      cases r with
      | ex c q C' => exact g0.elim
      | ok m C1 =>
        refine fun l H2 Hf2 ρ2 e2 p2 S2 M2 => ⟨S2.fr p _ upd_same, ?_⟩
        simp only [] at g0
        cases hd : dispT m with
        | none => rw [hd] at g0; exact g0.elim
        | some d =>
          rw [hd] at g0
          unfold dispT at hd
          split at hd
          rotate_left 1
          · cases hd
          rename_i hlen
          obtain ⟨t, ht, rfl⟩ := Option.map_eq_some_iff.mp hd
          obtain ⟨kvs, k1, k2, k3, k4⟩ := keysT_ok S2.ex M2 ht
          obtain ⟨z1, z2⟩ := mergeT_zip kvs (ks := []) (xs := []) rfl
          obtain ⟨m1, m2⟩ := mrg_dats (ks := []) (xs := []) (ds := []) k2 k3 .nil
          have z1' : mergeT [] kvs = (mrg [] [] kvs).1.zip (mrg [] [] kvs).2 := z1
          refine ⟨kvs, k1, by omega, p, _, rfl, upd_same, trivial, fun od => ?_⟩
          rw [upd_upd]
          have S3 := S2.growF (o := .dT []) (u := .dT ((mrg [] [] kvs).1.zip (mrg [] [] kvs).2))
          obtain ⟨_, w⟩ := SR.outT hF S3 z2 m2
          obtain ⟨Hf3, s3, S4, D4⟩ := w od
          rw [upd_upd] at S4
          rw [z1']
          rw [m1] at S4 D4 ⊢
          exact g0 (.ref p) _ Hf3 ρ2 (e2.trans s3) p2 S4 D4
/-! ### {k: v, ..} with keys that are ints and texts, each once -/
theorem SR.outO {K : PySem.W.Frag} {Hf F : Hp} {ρ : List Addr} {C : Cells} {H : Hp} {p : Addr} {u : HO} (hF : F p = none) (S : SR K Hf (upd F p u) ρ C H) (hs : ¬ Stay u) (hu : ∀ ps, u ≠ .tbl ps) : Same Hf (upd Hf p u) ∧ SR K (upd Hf p u) F ρ C H := by
  have hf : Hf p = none := (S.ap p _ upd_same).resolve_right hs
  have hH : H p = some u := S.fr p _ upd_same
  have e0 : Same Hf (upd Hf p u) := fun b o q => by
    rw [upd_ne (ne_of_none q hf)]
    exact q
  have tb : ∀ t ∈ Tabs0.T, t.1 ≠ p ∧ F t.1 = none := fun t ht => by
    have k1 := (S.tab t ht).1.2
    have ha : t.1 ≠ p := fun e => by
      rw [e, upd_same] at k1
      cases k1
    rw [upd_ne ha] at k1
    exact ⟨ha, k1⟩
  refine ⟨e0, ⟨fun b o q => ?_, fun b o q => S.fr b o (by rw [upd_ne (ne_of_none q hF)]; exact q), fun b o q => ?_, S.len, fun n a o h1 h2 => ?_, S.inj, fun t ht => ⟨⟨by rw [upd_ne (tb t ht).1]; exact (S.tab t ht).1.1, (tb t ht).2⟩, (S.tab t ht).2.mono e0 fun o h _ => h⟩, fun b ps => ⟨fun e => ?_, fun e => ?_⟩⟩⟩
  · by_cases hb : b = p
    · subst hb
      rw [upd_same] at q
      rw [hH]
      exact q
    · rw [upd_ne hb] at q
      exact S.ex b o q
  · have hb : b ≠ p := ne_of_none q hF
    rw [upd_ne hb]
    exact S.ap b o (by rw [upd_ne hb]; exact q)
  · obtain ⟨⟨k0, k1⟩, k2⟩ := S.cel n a o h1 h2
    have ha : a ≠ p := fun e => by
      subst e
      rw [upd_same] at k1
      cases k1
    rw [upd_ne ha] at k1
    rw [upd_ne ha]
    exact ⟨⟨k0, k1⟩, k2.mono e0⟩
  · by_cases hb : b = p
    · rw [hb, upd_same] at e
      exact hu ps (Option.some.inj e)
    · rw [upd_ne hb] at e
      exact (S.nt b ps).1 e
  · have hb : b ≠ p := ne_of_none e hF
    exact (S.nt b ps).2 (by rw [upd_ne hb]; exact e)
def key1 : D → Option Key
  | .int i => some (.inl i)
  | .str x => some (.inr x)
  | _ => none
def keysK : List (D × D) → Option (List (Key × D))
  | [] => some []
  | (k, y) :: r => match key1 k, keysK r with
    | some k, some l => some ((k, y) :: l)
    | _, _ => none
def dispK (l : List (D × D)) : Option D := if l.length ≤ 15 then (keysK l).bind fun l => if (l.map (·.1)).Nodup then some (.dk (l.map (·.1)) (l.map (·.2))) else none else none
def xDispK (ps : List (S D × S D)) : S D := S.bind (okP (xPairs ps)) fun l => S.opt (dispK l)
theorem key1_ok {K : PySem.W.Frag} {H : Hp} {ρ : List Addr} {v : V} {d : D} {k : Key} (q : Dat K H ρ v d) (h : key1 d = some k) : v = kV k := by
  cases d with
  | int i =>
    cases q
    cases h
    rfl
  | str x =>
    cases q
    cases h
    rfl
  | _ => cases h
theorem keysK_ok {K : PySem.W.Frag} {Hf : Hp} {ρ : List Addr} : ∀ {l : List (V × V)} {m : List (D × D)} {t : List (Key × D)}, DPs K Hf ρ l m → keysK m = some t → ∃ kvs : List (Key × V), l = kvs.map (fun kv => (kV kv.1, kv.2)) ∧ kvs.map (·.1) = t.map (·.1) ∧ Dats K Hf ρ (kvs.map (·.2)) (t.map (·.2)) ∧ kvs.length = m.length
  | _, _, _, .nil, h => by
    cases h
    exact ⟨[], rfl, rfl, .nil, rfl⟩
  | _, _, _, .cons (x := x) (y := y) (a := a) (b := b) (m := m) h1 h2 r, h => by
    unfold keysK at h
    split at h
    · rename_i k l hk hl
      cases h
      obtain ⟨kvs, k1, k2, k3, k4⟩ := keysK_ok r hl
      have hx := key1_ok h1 hk
      subst hx
      refine ⟨(k, y) :: kvs, by rw [k1]; rfl, ?_, .cons h2 k3, ?_⟩
      · rw [List.map_cons, List.map_cons, k2]
      · rw [List.length_cons, List.length_cons, k4]
    · cases h
theorem putK_new {kvs : List (Key × V)} {k : Key} {v : V} (h : k ∉ kvs.map (·.1)) : putK kvs k v = kvs ++ [(k, v)] := by
  unfold putK
  rw [if_neg]
  intro q
  obtain ⟨p, hp, e⟩ := List.any_eq_true.mp q
  exact h (List.mem_map.mpr ⟨p, hp, of_decide_eq_true e⟩)
theorem mergeK_new : ∀ (more kvs : List (Key × V)), ((kvs ++ more).map (·.1)).Nodup → mergeK kvs more = kvs ++ more
  | [], kvs, _ => by rw [List.append_nil]; rfl
  | p :: more, kvs, h => by
    have e : kvs ++ p :: more = (kvs ++ [p]) ++ more := by rw [List.append_assoc]; rfl
    rw [e] at h ⊢
    have hn : p.1 ∉ kvs.map (·.1) := fun q => by
      rw [List.map_append, List.map_append, List.append_assoc] at h
      exact (List.nodup_append.mp h).2.2 _ q _ (List.mem_append_left _ (List.mem_singleton.mpr rfl)) rfl
    have : mergeK kvs (p :: more) = mergeK (putK kvs p.1 p.2) more := rfl
    rw [this, putK_new hn]
    exact mergeK_new more _ h
theorem zip_maps {α β : Type} : ∀ l : List (α × β), (l.map (·.1)).zip (l.map (·.2)) = l
  | [] => rfl
  | p :: l => by rw [List.map_cons, List.map_cons, List.zip_cons_cons, zip_maps l]
theorem se_dispK {X : Cx} {W : Wh} {pos : Pos} {keys : List (Option Expr)} {values : List Expr} {ps : List (S D × S D)} (h : PPs X pos keys values (ps.map fun p => (tE X.K X.mg W p.1, tE X.K X.mg W p.2))) (hall : keys.all (·.isSome) = true) (hl : keys.length = values.length)
    (h0 : keys ≠ []) (h15 : keys.length ≤ 15) : SE X W (.Dict keys values pos) (xDispK ps) :=
  pe_imp (pe_lockP (pe_disp h hall hl h0 h15)) fun σ H Q ⟨Hf, F, ρ, env, C, S0, E0, g⟩ => fun p hp0 => by
    have hF : F p = none := S0.fr.free hp0
    refine goPairs ps ⟨Hf, upd F p (.dK []), ρ, env, C, S0.intoF hp0, E0, ?_⟩
    have g0 : Go X.K X.mg W (Dat X.K) σ Hf F ρ (S.bind (okP (xPairs ps)) (fun l => S.opt (dispK l)) env C) Q := g
    unfold S.bind okP at g0
    cases hx : xPairs ps env C with
    | none => rw [hx] at g0; exact g0.elim
    | some r =>
      rw [hx] at g0
      cases r with
      | ex c q C' => exact g0.elim
      | ok m C1 =>
        refine fun l H2 Hf2 ρ2 e2 p2 S2 M2 => ⟨S2.fr p _ upd_same, ?_⟩
        simp only [] at g0
        cases hd : dispK m with
        | none => rw [hd] at g0; exact g0.elim
        | some d =>
          rw [hd] at g0
          unfold dispK at hd
          split at hd
          rotate_left 1
          · cases hd
          rename_i hlen
          obtain ⟨t, ht, hd⟩ := Option.bind_eq_some_iff.mp hd
          split at hd
          rotate_left 1
          · cases hd
          rename_i hnd
          have hd := Option.some.inj hd
          subst hd
          obtain ⟨kvs, k1, k2, k3, k4⟩ := keysK_ok M2 ht
          have hm : mergeK [] kvs = kvs := mergeK_new kvs [] (by rw [List.nil_append, k2]; exact hnd)
          refine ⟨kvs, k1, by omega, p, _, rfl, upd_same, trivial, fun od => ?_⟩
          rw [upd_upd, hm]
          have S3 := S2.growF (o := .dK []) (u := .frz od (.dK kvs))
          obtain ⟨s3, S4⟩ := SR.outO hF S3 (fun h => h) (fun ps e => by cases e)
          have kz : (t.map (·.1)).zip (kvs.map (·.2)) = kvs := by rw [← k2, zip_maps]
          exact g0 (.ref p) _ _ ρ2 (e2.trans s3) p2 S4 (.dk (xs := kvs.map (·.2)) ⟨od, by rw [upd_same, kz]⟩ (by rw [← k2, List.length_map, List.length_map]) (k3.mono s3 (List.prefix_refl _)))
end Sm
end
section
set_option maxRecDepth 100000
set_option maxHeartbeats 0
namespace Sm
open PySem L2 PySem.Spec PyProof.Rows
variable [Tabs0]
variable {K : PySem.W.Frag} {mg : Str → Option Value}
/-! ### math.factorial -/
def rFac : List V → Hp → VK → Prop := fun vs H Q => ∃ a : Int, vs = [.int a] ∧ 0 ≤ a ∧ a ≤ 20000 ∧ Q (.int ((Builtin.Math.factorialNat a.toNat : Nat) : Int)) H
theorem cr_fac {X : Cx} : CallR X (.builtin "math.factorial") rFac := by
  intro pins s σ H vs us Q I r h
  obtain ⟨a, rfl, h0, h1, q⟩ := h
  obtain ⟨t, rfl⟩ : ∃ t, us = [Value.int a t] := by
    cases r with
    | cons r t =>
      cases t
      obtain ⟨t, rfl⟩ := r
      exact ⟨t, rfl⟩
  exact PySem.W.mc_factorial h0 h1 fun _ => ⟨.int _, H, I.tok _, ⟨_, rfl⟩, q⟩
def dFac : List D → Option D
  | [.int a] => if 0 ≤ a ∧ a ≤ 20000 then some (.int (Builtin.Math.factorialNat a.toNat : Nat)) else none
  | _ => none
theorem op_dFac : OpN K rFac dFac := by
  intro Hf F ρ Cs H xs as d Q S0 ha he k
  unfold dFac at he
  split at he
  · split at he
    · rename_i hb
      cases he
      cases ha with
      | cons h hs =>
        cases hs
        exact ⟨_, by rw [h.int], hb.1, hb.2, k.here S0 (.int _)⟩
    · cases he
  · cases he
/-! ### a call of a def without arguments -/
theorem pe_callG0 {X : Cx} {k : Nat} {f : Addr} {fd : FuncData} {ps : List Str} {sp : Sp} {E : L2.St → XK} {x : Str} {p pos : Pos} (F : FnG X.prog X.w X.K X.mg X.base k f fd ps sp) (gd : X.A.guards = some []) (hr : Room k X.A) (hg : Gl X x) (hm : X.mg x = some (.ref f)) (hk : PySem.W.keepIn X.K (.ref f) = true)
    (hb : Binds X.K fd ps []) (hx : ∀ σ, PassesAt (L2.CX X.prog X.w) X σ (E σ)) (hdb : (x == ("__debug__" : Str)) = false) :
    PE X (.Call (.Name x p) [] [] pos) (fun σ H Q => sp [] H Q (E σ)) := ⟨fun pins s σ H Q I h => by
  refine wpAny_Call_Name_kw (ld_glob I hg hm (PySem.W.callWith_K0 I.kIn hk ?_) hdb)
  have b := hb s [] I.kIn (by rw [List.append_nil]; exact F.lg _ _ _ _ h)
  rw [List.append_nil] at b
  refine wpAny_call (codeAny_mono (F.go X.A X.stack s H ⟨[], []⟩ [] [] Q (E σ) gd hr I.env0 b .nil h) fun r s2 hq => ?_)
  match r, hq with
  | .error ev, hq => exact hx σ pins H s ev s2 I hq
  | .ok (.ret u), hq => exact I.after hq
  | .ok .next, hq => exact hq.elim
  | .ok .brk, hq => exact hq.elim
  | .ok .cont, hq => exact hq.elim⟩
theorem se_call0 {X : Cx} {W : Wh} {x : Str} {p pos : Pos} {n k : Nat} {f : Fn} (c : Cal X.prog X.w X.K X.mg X.base x n k f) (tk : Takes X W.w) (hr : Room k X.A) (gd : X.A.guards = some []) (hg : Gl X x)
    (hdb : (x == ("__debug__" : Str)) = false) : SE X W (.Call (.Name x p) [] [] pos) (xCall f aNil) := by
  obtain ⟨a, fd, ps, h1, h2, h3, h4⟩ := c.ex
  exact pe_imp (pe_callG0 h4 gd hr hg h1 h2 h3 (fun σ => passAt tk σ) hdb) fun σ H Q h => by
    obtain ⟨Hf, F, ρ, env, C, S0, E0, g⟩ := goCall c.ar h
    exact g [] H Hf ρ (Same.refl _) (List.prefix_refl _) S0 .nil
end Sm
end
section
set_option maxRecDepth 100000
set_option maxHeartbeats 0
open PyProof.Rows PySem PySem.W PySem.Calls PySem.Spec
namespace Sk58
noncomputable section
open PySem L2 Sm
def topS (i : Nat) : Stmt := PySem.Challenge.pw_ringstairs_k58_errors_of_counts.main.body.getD i (.Pass ⟨0, 0, 0, 0⟩)
/-! ### what the defs come to -/
def h__law_heard : Hrs := [([("InvalidChain", true), ("InvalidHeap", false), ("InvalidNumber", false), ("TooMany", false)], none, xRet (S.val (.str "chain"))),
  ([("InvalidChain", false), ("InvalidHeap", true), ("InvalidNumber", false), ("TooMany", false)], none, xRet (S.val (.str "heap"))),
  ([("InvalidChain", false), ("InvalidHeap", false), ("InvalidNumber", true), ("TooMany", false)], some 1, xRet (x2 dAdd (S.val (.str "number ")) (xRepr (aCons (xErr 1 "InvalidNumber" "given") (aNil))))),
  ([("InvalidChain", false), ("InvalidHeap", false), ("InvalidNumber", false), ("TooMany", true)], some 1, xRet (x2 dAdd (S.val (.str "many ")) (xRepr (aCons (xErr 1 "TooMany" "limit") (aNil)))))]
def g__law_heard : S D := S.val (.str "fine")
def b_is_whole : SS := xRet (xAndV (xN dIsi (aCons (xV 0) (aCons (S.val (.opq (.ty "int"))) (aNil)))) (xNotV (xN dIsi (aCons (xV 0) (aCons (S.val (.opq (.ty "bool"))) (aNil))))))
def m_is_whole : Fn := xDef 1 1 b_is_whole
def b_is_within : SS := xRet (xAndV (xCall m_is_whole (aCons (xV 0) (aNil))) (xChain dLe dLe (xV 1) (xV 0) (xV 2)))
def m_is_within : Fn := xDef 3 3 b_is_within
def q1_is_heap_in : S (List D) := xLc (iV (xV 0)) (gN 1) (S.val true) (xCall m_is_within (aCons (xV 1) (aCons (S.val (.int (1))) (aCons (S.val (.int (60))) (aNil))))) [1]
def q2_is_heap_in : S (List D) := xLc (iZp (aCons (xV 0) (aCons (xSl (xV 0) (oE (S.val (.int (1)))) (oNo)) (aNil)))) (gT (gsC (gN 2) (gsC (gN 3) (gsN)))) (S.val true) (x2 dGe (xV 2) (xV 3)) [2, 3]
def b_is_heap_in : SS := xSeq (xIfS (xOr (xNot (xB (xN dIsi (aCons (xV 0) (aCons (S.val (.opq (.ty "tuple"))) (aNil)))))) (xB (x2 dGt (xN dLen (aCons (xV 0) (aNil))) (S.val (.int (60)))))) (xRet (S.val (.bl false))) (xNext)) (xSeq (xIfS (xNot (xB (xN dAll (aCons (xF (q1_is_heap_in)) (aNil))))) (xRet (S.val (.bl false))) (xNext)) (xRet (xN dAll (aCons (xF (q2_is_heap_in)) (aNil)))))
def m_is_heap_in : Fn := xDef 1 4 b_is_heap_in
def b_require_heap : SS := xIfS (xNot (xB (xCall m_is_heap_in (aCons (xV 0) (aNil))))) (xRaise "InvalidHeap") (xNext)
def m_require_heap : Fn := xDef 1 1 b_require_heap
def q1_hook_product : S (List D) := xLc (iV (xSl (xV 0) (oE (x2 dAdd (xV 2) (S.val (.int (1))))) (oNo))) (gN 6) (xB (x2 dGt (xV 6) (xV 4))) (xV 6) [6]
def q2_hook_product : SS := xSeq (xAsg (xN dLen (aCons (xF (q1_hook_product)) (aNil))) (gN 5)) (xAugI 1 dMul (x2 dSub (x2 dAdd (xV 5) (xV 3)) (xV 4)))
def q3_hook_product : SS := xForC (iR1 (aCons (xV 3) (aNil))) (gN 4) (q2_hook_product)
def q4_hook_product : SS := q3_hook_product
def q5_hook_product : SS := xForC (iEn (aCons (xV 0) (aNil))) (gT (gsC (gN 2) (gsC (gN 3) (gsN)))) (q4_hook_product)
def b_hook_product : SS := xSeq (xAsg (S.val (.int (1))) (gN 1)) (xSeq (q5_hook_product) (xRet (xV 1)))
def m_hook_product : Fn := xDef 1 7 b_hook_product
def b_standard_count : SS := xRet (x2 dDiv (xN dFac (aCons (xN dSumA (aCons (xV 0) (aNil))) (aNil))) (xCall m_hook_product (aCons (xV 0) (aNil))))
def m_standard_count : Fn := xDef 1 1 b_standard_count
def b_standard_fillings : SS := xSeq (xExp (xCall m_require_heap (aCons (xV 0) (aNil)))) (xSeq (xIfS (xB (x2 dGt (xN dSumA (aCons (xV 0) (aNil))) (S.val (.int (200))))) (xRaiseF "TooMany" "limit" (aCons (S.val (.int (200))) (aNil))) (xNext)) (xRet (xCall m_standard_count (aCons (xV 0) (aNil)))))
def m_standard_fillings : Fn := xDef 1 1 b_standard_fillings
def b_require_up_to : SS := xIfS (xNot (xB (xCall m_is_within (aCons (xV 0) (aCons (xV 1) (aCons (xV 2) (aNil))))))) (xRaiseF "InvalidNumber" "given" (aCons (xV 0) (aNil))) (xNext)
def m_require_up_to : Fn := xDef 3 3 b_require_up_to
def b_doubled_fillings : SS := xSeq (xExp (xCall m_require_up_to (aCons (xV 0) (aCons (S.val (.int (1))) (aCons (S.val (.int (10))) (aNil)))))) (xSeq (xExp (xCall m_require_up_to (aCons (xV 1) (aCons (S.val (.int (1))) (aCons (S.val (.int (10))) (aNil)))))) (xRet (x2 dMulA (xV 1) (xCall m_standard_count (aCons (xTup (aCons (x2 dAdd (xV 1) (S.val (.int (1)))) (aStar (xF (xRepL (S.bind (aCons (xV 1) (aNil)) fun ds => S.opt (few id ds)) (x2 dSub (xV 0) (S.val (.int (1)))))) (aNil)))) (aNil))))))
def m_doubled_fillings : Fn := xDef 2 2 b_doubled_fillings
def b__law_dice : SS := xSeq (xAsg (x2 dAdd (x2 dMulA (S.val (.int (101))) (xV 1)) (S.val (.int (47)))) (gN 2)) (xSeq (xIfS (xB (x2 dLt (xV 1) (xN dLen (aCons (xV 0) (aNil))))) (xAsg (x2 dIx (xV 0) (xV 1)) (gN 2)) (xNext)) (xSeq (xAsg (x2 dMod (xN dInt (aCons (xN dAbs (aCons (xV 2) (aNil))) (aNil))) (x2 dPow (x2 dPow (S.val (.int (10))) (S.val (.int (60)))) (S.val (.int (10))))) (gN 3)) (xSeq (xAsg (x2 dDiv (xV 3) (x2 dPow (S.val (.int (10))) (S.val (.int (18))))) (gN 4)) (xSeq (xAsg (x2 dAdd (x2 dAdd (x2 dAdd (x2 dMulA (x2 dMod (xV 3) (S.val (.int (2147482697)))) (S.val (.int (60497)))) (x2 dMulA (S.val (.int (3533))) (xV 1))) (x2 dMulA (S.val (.int (89))) (xN dInt (aCons (x2 dLt (xV 2) (S.val (.int (0)))) (aNil))))) (S.val (.int (109)))) (gN 5)) (xRet (xC (S.bind (aCons (xV 4) (aCons (x2 dMod (xV 5) (S.val (.int (2147482661)))) (aCons (S.val (.int (0))) (aNil)))) fun ds => S.opt (few id ds))))))))
def m__law_dice : Fn := xDef 2 6 b__law_dice
def b__law_roll : SS := xSeq (xAsg (xN dInt (aCons (xV 1) (aNil))) (gN 2)) (xSeq (xIfS (xB (x2 dGt (x2 dIx (xV 0) (S.val (.int (0)))) (S.val (.int (0))))) (xSeq (xAsg (x2 dMod (x2 dIx (xV 0) (S.val (.int (0)))) (xV 2)) (gN 5)) (xSeq (xSetI (xV 0) (S.val (.int (0))) (x2 dDiv (x2 dIx (xV 0) (S.val (.int (0)))) (xV 2))) (xRet (xN dInt (aCons (xV 5) (aNil)))))) (xNext)) (xSeq (xSetI (xV 0) (S.val (.int (2))) (x2 dAdd (x2 dIx (xV 0) (S.val (.int (2)))) (S.val (.int (1))))) (xSeq (xAsg (x2 dMod (x2 dAdd (x2 dIx (xV 0) (S.val (.int (1)))) (x2 dMulA (S.val (.int (1000409))) (x2 dIx (xV 0) (S.val (.int (2)))))) (S.val (.int (2305843009213693951)))) (gN 3)) (xSeq (xAsg (x2 dAdd (x2 dMulA (x2 dMod (x2 dMulA (xV 3) (xV 3)) (S.val (.int (2305843009213693921)))) (xV 3)) (x2 dMulA (S.val (.int (9479))) (x2 dIx (xV 0) (S.val (.int (2)))))) (gN 4)) (xSeq (xAsg (x2 dMod (xV 4) (S.val (.int (2305843009213693907)))) (gN 4)) (xRet (xN dInt (aCons (x2 dMod (x2 dDiv (xV 4) (S.val (.int (4096)))) (xV 2)) (aNil)))))))))
def m__law_roll : Fn := xDef 2 6 b__law_roll
def b__law_ring : SS := xSeq (xAsg (x2 dAdd (S.val (.int (2))) (xCall m__law_roll (aCons (xV 0) (aCons (x2 dSub (xV 1) (S.val (.int (1)))) (aNil))))) (gN 2)) (xRet (xTup (aCons (xV 2) (aCons (x2 dAdd (S.val (.int (1))) (xCall m__law_roll (aCons (xV 0) (aCons (x2 dSub (xV 2) (S.val (.int (1)))) (aNil))))) (aNil)))))
def m__law_ring : Fn := xDef 2 3 b__law_ring
def b__law_one_of : SS := xRet (x2 dIx (xV 1) (xCall m__law_roll (aCons (xV 0) (aCons (xN dLen (aCons (xV 1) (aNil))) (aNil)))))
def m__law_one_of : Fn := xDef 2 2 b__law_one_of
def q1__law_common : S Bool := xB (x2 dNe (xV 1) (S.val (.int (0))))
def q2__law_common : SS := xPar 0 1 (aCons (xV 1) (aCons (x2 dMod (xV 0) (xV 1)) (aNil)))
def q3__law_common : SS := wh (q1__law_common) (q2__law_common) 100
def b__law_common : SS := xSeq (q3__law_common) (xRet (xV 0))
def m__law_common : Fn := xDef 2 2 b__law_common
def q1__law_ring_of : S (List D) := xLc (iR2 (aCons (S.val (.int (1))) (aCons (xV 1) (aNil)))) (gN 5) (xB (x2 dEq (xCall m__law_common (aCons (xV 1) (aCons (xV 5) (aNil)))) (S.val (.int (1))))) (xV 5) [5]
def b__law_ring_of : SS := xSeq (xAsg (x2 dAdd (S.val (.int (1))) (xCall m__law_roll (aCons (xV 0) (aCons (xV 2) (aNil))))) (gN 3)) (xSeq (xAsg (xF (q1__law_ring_of)) (gN 4)) (xRet (xTup (aCons (x2 dMulA (xV 1) (xV 3)) (aCons (x2 dMulA (xV 3) (xCall m__law_one_of (aCons (xV 0) (aCons (xV 4) (aNil))))) (aNil))))))
def m__law_ring_of : Fn := xDef 3 6 b__law_ring_of
def q1__law_chain : S (List D) := xLc (iR1 (aCons (xV 1) (aNil))) (gN 4) (S.val true) (xCall m__law_ring_of (aCons (xV 0) (aCons (xV 3) (aCons (x2 dDiv (xV 2) (xV 3)) (aNil))))) [4]
def q2__law_chain : S (List D) := xLc (iR1 (aCons (xV 1) (aNil))) (gN 4) (S.val true) (xCall m__law_ring (aCons (xV 0) (aCons (xV 2) (aNil)))) [4]
def b__law_chain : SS := xSeq (xIfS (xB (x2 dEq (xCall m__law_roll (aCons (xV 0) (aCons (S.val (.int (3))) (aNil)))) (S.val (.int (0))))) (xSeq (xAsg (x2 dAdd (S.val (.int (2))) (xCall m__law_roll (aCons (xV 0) (aCons (xN dMin2 (aCons (S.val (.int (3))) (aCons (x2 dSub (xV 2) (S.val (.int (1)))) (aNil)))) (aNil))))) (gN 3)) (xRet (xN dTuple (aCons (xF (q1__law_chain)) (aNil))))) (xNext)) (xRet (xN dTuple (aCons (xF (q2__law_chain)) (aNil))))
def m__law_chain : Fn := xDef 3 5 b__law_chain
def b__law_no_chains : SS := xSeq (xAsg (xCall m__law_ring (aCons (xV 0) (aCons (S.val (.int (9))) (aNil)))) (gN 1)) (xSeq (xAsg (xF (S.bind (aCons (S.val .non) (aCons (S.val (.int (7))) (aCons (xTup (aNil)) (aCons (S.val (.str "chain")) (aCons (xV 1) (aCons (xF (S.bind (aCons (xV 1) (aNil)) fun ds => S.opt (few id ds))) (aCons (x2 dMulA (xTup (aCons (xV 1) (aNil))) (S.val (.int (13)))) (aCons (xTup (aCons (xTup (aCons (S.val (.int (1))) (aCons (S.val (.int (1))) (aNil)))) (aNil))) (aCons (xTup (aCons (xTup (aCons (S.val (.int (61))) (aCons (S.val (.int (1))) (aNil)))) (aNil))) (aCons (xTup (aCons (xTup (aCons (S.val (.int (5))) (aCons (S.val (.int (5))) (aNil)))) (aNil))) (aCons (xTup (aCons (xTup (aCons (S.val (.int (5))) (aCons (S.val (.int (0))) (aNil)))) (aNil))) (aCons (xTup (aCons (xF (xLs (aCons (xV 1) (aNil)))) (aNil))) (aNil))))))))))))) fun ds => S.opt (few id ds))) (gN 2)) (xRet (x2 dAdd (xV 2) (xF (S.bind (aCons (xTup (aCons (xTup (aCons (x2 dIx (xV 1) (S.val (.int (0)))) (aCons (S.val (.bl true)) (aNil)))) (aNil))) (aCons (xTup (aCons (xV 1) (aCons (S.val .non) (aNil)))) (aCons (xTup (aCons (xTup (aCons (S.val (.int (5))) (aCons (S.val (.int (1))) (aCons (S.val (.int (1))) (aNil))))) (aNil))) (aCons (xTup (aCons (xTup (aCons (S.val (.int (5))) (aNil))) (aNil))) (aCons (xDispK [(S.val (.int (0)), xV 1)]) (aCons (xTup (aCons (xTup (aCons (S.val (.str "5")) (aCons (S.val (.int (1))) (aNil)))) (aNil))) (aCons (xTup (aCons (xTup (aCons (x2 dPow (S.val (.int (10))) (S.val (.int (60)))) (aCons (S.val (.int (1))) (aNil)))) (aNil))) (aNil)))))))) fun ds => S.opt (few id ds))))))
def m__law_no_chains : Fn := xDef 1 3 b__law_no_chains
def b__law_no_heaps : SS := xSeq (xAsg (xF (S.bind (aCons (S.val .non) (aCons (S.val (.int (7))) (aCons (S.val (.str "heap")) (aCons (xF (S.bind (aCons (S.val (.int (2))) (aCons (S.val (.int (1))) (aNil))) fun ds => S.opt (few id ds))) (aCons (xTup (aCons (S.val (.int (1))) (aCons (S.val (.int (2))) (aNil)))) (aCons (xTup (aCons (S.val (.int (2))) (aCons (S.val (.int (0))) (aNil)))) (aCons (xTup (aCons (S.val (.int (2))) (aCons (x1 dNeg (S.val (.int (1)))) (aNil)))) (aCons (xTup (aCons (S.val (.int (2))) (aCons (S.val .non) (aNil)))) (aCons (xTup (aCons (S.val (.bl true)) (aNil))) (aCons (xTup (aCons (S.val (.int (2))) (aCons (xTup (aCons (S.val (.int (1))) (aNil))) (aNil)))) (aCons (xDispK [(S.val (.int (2)), S.val (.int (1)))]) (aCons (x2 dMulA (xTup (aCons (S.val (.int (1))) (aNil))) (S.val (.int (61)))) (aCons (xTup (aCons (S.val (.int (61))) (aNil))) (aNil)))))))))))))) fun ds => S.opt (few id ds))) (gN 0)) (xRet (x2 dAdd (xV 0) (xF (S.bind (aCons (xTup (aCons (x2 dPow (S.val (.int (10))) (S.val (.int (30)))) (aCons (S.val (.int (1))) (aNil)))) (aCons (xTup (aCons (S.val (.str "2")) (aCons (S.val (.str "1")) (aNil)))) (aCons (xTup (aCons (xTup (aCons (S.val (.int (2))) (aNil))) (aCons (xTup (aCons (S.val (.int (1))) (aNil))) (aNil)))) (aCons (xTup (aCons (S.val (.int (3))) (aCons (S.val (.int (3))) (aCons (S.val (.int (4))) (aNil))))) (aNil))))) fun ds => S.opt (few id ds)))))
def m__law_no_heaps : Fn := xDef 0 1 b__law_no_heaps
def b_is_ring_in : SS := xSeq (xIfS (xOr (xNot (xB (xN dIsi (aCons (xV 0) (aCons (S.val (.opq (.ty "tuple"))) (aNil)))))) (xOr (xB (x2 dNe (xN dLen (aCons (xV 0) (aNil))) (S.val (.int (2))))) (xNot (xB (xCall m_is_within (aCons (x2 dIx (xV 0) (S.val (.int (0)))) (aCons (S.val (.int (2))) (aCons (S.val (.int (60))) (aNil))))))))) (xRet (S.val (.bl false))) (xNext)) (xRet (xCall m_is_within (aCons (x2 dIx (xV 0) (S.val (.int (1)))) (aCons (S.val (.int (1))) (aCons (x2 dSub (x2 dIx (xV 0) (S.val (.int (0)))) (S.val (.int (1)))) (aNil))))))
def m_is_ring_in : Fn := xDef 1 1 b_is_ring_in
def q1_is_chain_in : S (List D) := xLc (iV (xV 0)) (gN 1) (S.val true) (xCall m_is_ring_in (aCons (xV 1) (aNil))) [1]
def b_is_chain_in : SS := xRet (xAndV (xN dIsi (aCons (xV 0) (aCons (S.val (.opq (.ty "tuple"))) (aNil)))) (xAndV (xChain dLe dLe (S.val (.int (1))) (xN dLen (aCons (xV 0) (aNil))) (S.val (.int (12)))) (xN dAll (aCons (xF (q1_is_chain_in)) (aNil)))))
def m_is_chain_in : Fn := xDef 1 2 b_is_chain_in
def b_require_chain : SS := xIfS (xNot (xB (xCall m_is_chain_in (aCons (xV 0) (aNil))))) (xRaise "InvalidChain") (xNext)
def m_require_chain : Fn := xDef 1 1 b_require_chain
def b_cut_counts : SS := xStop
def m_cut_counts : Fn := xDef 3 10 b_cut_counts
def b_classes_by_heap : SS := xSeq (xExp (xCall m_require_chain (aCons (xV 0) (aNil)))) (xSeq (xExp (xCall m_require_up_to (aCons (xV 1) (aCons (S.val (.int (0))) (aCons (S.val (.int (6))) (aNil)))))) (xSeq (xExp (xCall m_require_up_to (aCons (xV 2) (aCons (S.val (.int (0))) (aCons (S.val (.int (6))) (aNil)))))) (xRet (xCall m_cut_counts (aCons (xV 0) (aCons (xV 1) (aCons (xV 2) (aNil))))))))
def m_classes_by_heap : Fn := xDef 3 3 b_classes_by_heap
def b_count_at_least : SS := xStop
def m_count_at_least : Fn := xDef 3 5 b_count_at_least
def b_is_integer : SS := xRet (xAndV (xCall m_is_whole (aCons (xV 0) (aNil))) (x2 dLt (xN dAbs (aCons (xV 0) (aNil))) (S.val (.int (1000000000000000000000000000000000000000000000000000000000000)))))
def m_is_integer : Fn := xDef 1 1 b_is_integer
def b_require_degree : SS := xIfS (xNot (xB (xCall m_is_integer (aCons (xV 0) (aNil))))) (xRaiseF "InvalidNumber" "given" (aCons (xV 0) (aNil))) (xNext)
def m_require_degree : Fn := xDef 1 1 b_require_degree
def b_classes_at_least : SS := xSeq (xExp (xCall m_require_chain (aCons (xV 0) (aNil)))) (xSeq (xExp (xCall m_require_degree (aCons (xV 1) (aNil)))) (xSeq (xExp (xCall m_require_up_to (aCons (xV 2) (aCons (S.val (.int (0))) (aCons (S.val (.int (40))) (aNil)))))) (xRet (xCall m_count_at_least (aCons (xV 0) (aCons (xV 1) (aCons (xV 2) (aNil))))))))
def m_classes_at_least : Fn := xDef 3 3 b_classes_at_least
def b_count_by_richness : SS := xStop
def m_count_by_richness : Fn := xDef 2 6 b_count_by_richness
def b_classes_by_richness : SS := xSeq (xExp (xCall m_require_chain (aCons (xV 0) (aNil)))) (xSeq (xExp (xCall m_require_degree (aCons (xV 1) (aNil)))) (xRet (xCall m_count_by_richness (aCons (xV 0) (aCons (xV 1) (aNil))))))
def m_classes_by_richness : Fn := xDef 2 2 b_classes_by_richness
def q1__law_chain_right : S D := xCall m_classes_by_heap (aCons (xV 1) (aCons (S.val .non) (aCons (S.val .non) (aNil))))
def q2__law_chain_right : S D := xCall m_classes_at_least (aCons (xV 1) (aCons (S.val .non) (aCons (S.val .non) (aNil))))
def q3__law_chain_right : S D := xCall m_classes_by_richness (aCons (xV 1) (aCons (S.val .non) (aNil)))
abbrev s1__law_chain_right : SS := xAsg (xC (S.bind (aCons (xEar 2 h__law_heard g__law_heard (q1__law_chain_right)) (aNil)) fun ds => S.opt (few id ds))) (gN 2)
abbrev s2__law_chain_right : SS := xExp (xM mAppend (xV 2) (aCons (xEar 2 h__law_heard g__law_heard (q2__law_chain_right)) (aNil)))
abbrev s3__law_chain_right : SS := xExp (xM mAppend (xV 2) (aCons (xEar 2 h__law_heard g__law_heard (q3__law_chain_right)) (aNil)))
abbrev s4__law_chain_right : SS := xRet (x2 dEq (xV 2) (xF (xRepL (S.bind (aCons (S.val (.str "chain")) (aNil)) fun ds => S.opt (few id ds)) (S.val (.int (3))))))
def b__law_chain_right : SS := xSeq (s1__law_chain_right) (xSeq (s2__law_chain_right) (xSeq (s3__law_chain_right) (s4__law_chain_right)))
def m__law_chain_right : Fn := xDef 2 3 b__law_chain_right
def q1__law_numbers_right : S D := xCall m_classes_by_heap (aCons (xV 0) (aCons (xV 1) (aCons (S.val .non) (aNil))))
def q2__law_numbers_right : S D := xCall m_classes_by_heap (aCons (xV 0) (aCons (S.val (.int (3))) (aCons (xV 1) (aNil))))
def q3__law_numbers_right : SS := xSeq (xAsg (xC (S.bind (aCons (xEar 2 h__law_heard g__law_heard (q1__law_numbers_right)) (aNil)) fun ds => S.opt (few id ds))) (gN 2)) (xSeq (xExp (xM mAppend (xV 2) (aCons (xEar 2 h__law_heard g__law_heard (q2__law_numbers_right)) (aNil)))) (xIfS (xB (x2 dNe (xV 2) (xF (xRepL (S.bind (aCons (x2 dAdd (S.val (.str "number ")) (xRepr (aCons (xV 1) (aNil)))) (aNil)) fun ds => S.opt (few id ds)) (S.val (.int (2))))))) (xRet (S.val (.bl false))) (xNext)))
def q4__law_numbers_right : SS := xForC (iV (xTup (aCons (x1 dNeg (S.val (.int (1)))) (aCons (S.val (.int (7))) (aCons (S.val (.bl true)) (aCons (S.val .non) (aCons (S.val (.str "1")) (aCons (xTup (aCons (S.val (.int (1))) (aNil))) (aCons (x2 dPow (S.val (.int (10))) (S.val (.int (40)))) (aNil)))))))))) (gN 1) (q3__law_numbers_right)
def q5__law_numbers_right : S D := xCall m_classes_at_least (aCons (xV 0) (aCons (xV 1) (aCons (S.val .non) (aNil))))
def q6__law_numbers_right : S D := xCall m_classes_by_richness (aCons (xV 0) (aCons (xV 1) (aNil)))
def q7__law_numbers_right : SS := xSeq (xAsg (xC (S.bind (aCons (xEar 2 h__law_heard g__law_heard (q5__law_numbers_right)) (aNil)) fun ds => S.opt (few id ds))) (gN 2)) (xSeq (xExp (xM mAppend (xV 2) (aCons (xEar 2 h__law_heard g__law_heard (q6__law_numbers_right)) (aNil)))) (xIfS (xB (x2 dNe (xV 2) (xF (xRepL (S.bind (aCons (x2 dAdd (S.val (.str "number ")) (xRepr (aCons (xV 1) (aNil)))) (aNil)) fun ds => S.opt (few id ds)) (S.val (.int (2))))))) (xRet (S.val (.bl false))) (xNext)))
def q8__law_numbers_right : SS := xForC (iV (xTup (aCons (S.val (.bl true)) (aCons (S.val .non) (aCons (S.val (.str "1")) (aCons (xTup (aCons (S.val (.int (1))) (aNil))) (aCons (xF (S.bind (aNil) fun ds => S.opt (few id ds))) (aCons (x2 dMulA (x2 dPow (S.val (.int (10))) (S.val (.int (30)))) (x2 dPow (S.val (.int (10))) (S.val (.int (30))))) (aCons (x2 dSub (S.val (.int (0))) (x2 dMulA (x2 dPow (S.val (.int (10))) (S.val (.int (30)))) (x2 dPow (S.val (.int (10))) (S.val (.int (30)))))) (aNil)))))))))) (gN 1) (q7__law_numbers_right)
def q9__law_numbers_right : S D := xCall m_classes_at_least (aCons (xV 0) (aCons (S.val (.int (3))) (aCons (xV 1) (aNil))))
def q10__law_numbers_right : SS := xIfS (xB (x2 dNe (xEar 2 h__law_heard g__law_heard (q9__law_numbers_right)) (x2 dAdd (S.val (.str "number ")) (xRepr (aCons (xV 1) (aNil)))))) (xRet (S.val (.bl false))) (xNext)
def q11__law_numbers_right : SS := xForC (iV (xTup (aCons (x1 dNeg (S.val (.int (1)))) (aCons (S.val (.int (41))) (aCons (S.val (.bl false)) (aCons (S.val .non) (aCons (S.val (.str "0")) (aCons (xF (S.bind (aCons (S.val (.int (0))) (aNil)) fun ds => S.opt (few id ds))) (aCons (x2 dPow (S.val (.int (10))) (S.val (.int (40)))) (aNil)))))))))) (gN 1) (q10__law_numbers_right)
def q12__law_numbers_right : S D := xCall m_doubled_fillings (aCons (xV 1) (aCons (S.val .non) (aNil)))
def q13__law_numbers_right : S D := xCall m_doubled_fillings (aCons (S.val (.int (10))) (aCons (xV 1) (aNil)))
def q14__law_numbers_right : SS := xSeq (xAsg (xC (S.bind (aCons (xEar 2 h__law_heard g__law_heard (q12__law_numbers_right)) (aNil)) fun ds => S.opt (few id ds))) (gN 2)) (xSeq (xExp (xM mAppend (xV 2) (aCons (xEar 2 h__law_heard g__law_heard (q13__law_numbers_right)) (aNil)))) (xIfS (xB (x2 dNe (xV 2) (xF (xRepL (S.bind (aCons (x2 dAdd (S.val (.str "number ")) (xRepr (aCons (xV 1) (aNil)))) (aNil)) fun ds => S.opt (few id ds)) (S.val (.int (2))))))) (xRet (S.val (.bl false))) (xNext)))
def q15__law_numbers_right : SS := xForC (iV (xTup (aCons (S.val (.int (0))) (aCons (S.val (.int (11))) (aCons (x1 dNeg (S.val (.int (1)))) (aCons (S.val (.bl true)) (aCons (S.val .non) (aCons (S.val (.str "2")) (aCons (xTup (aCons (S.val (.int (2))) (aNil))) (aNil)))))))))) (gN 1) (q14__law_numbers_right)
abbrev s1__law_numbers_right : SS := q4__law_numbers_right
abbrev s2__law_numbers_right : SS := q8__law_numbers_right
abbrev s3__law_numbers_right : SS := q11__law_numbers_right
abbrev s4__law_numbers_right : SS := q15__law_numbers_right
abbrev s5__law_numbers_right : SS := xRet (S.val (.bl true))
def b__law_numbers_right : SS := xSeq (s1__law_numbers_right) (xSeq (s2__law_numbers_right) (xSeq (s3__law_numbers_right) (xSeq (s4__law_numbers_right) (s5__law_numbers_right))))
def m__law_numbers_right : Fn := xDef 1 3 b__law_numbers_right
def q1_law : SS := xIfS (xNot (xB (xCall m__law_chain_right (aCons (xV 3) (aCons (xV 4) (aNil)))))) (xRet (S.val (.bl false))) (xNext)
def q2_law : SS := xForC (iV (xCall m__law_no_chains (aCons (xV 2) (aNil)))) (gN 4) (q1_law)
def q3_law : S D := xCall m_standard_fillings (aCons (xV 4) (aNil))
def q4_law : SS := xIfS (xB (x2 dNe (xEar 2 h__law_heard g__law_heard (q3_law)) (S.val (.str "heap")))) (xRet (S.val (.bl false))) (xNext)
def q5_law : SS := xForC (iV (xCall m__law_no_heaps (aNil))) (gN 4) (q4_law)
def q6_law : S D := xCall m_standard_fillings (aCons (x2 dMulA (xTup (aCons (S.val (.int (20))) (aNil))) (xV 5)) (aNil))
def q7_law : S D := xCall m_standard_fillings (aCons (x2 dAdd (x2 dMulA (xTup (aCons (S.val (.int (20))) (aNil))) (S.val (.int (10)))) (xTup (aCons (S.val (.int (1))) (aNil)))) (aNil))
def q8_law : SS := xSeq (xAsg (xCall m__law_dice (aCons (xV 0) (aCons (xV 1) (aNil)))) (gN 2)) (xSeq (xAsg (xCall m__law_chain (aCons (xV 2) (aCons (x2 dAdd (S.val (.int (1))) (xCall m__law_roll (aCons (xV 2) (aCons (S.val (.int (5))) (aNil))))) (aCons (S.val (.int (9))) (aNil))))) (gN 3)) (xSeq (q2_law) (xSeq (q5_law) (xSeq (xIfS (xNot (xB (xCall m__law_numbers_right (aCons (xV 3) (aNil))))) (xRet (S.val (.bl false))) (xNext)) (xSeq (xAsg (x2 dAdd (S.val (.int (1))) (xCall m__law_roll (aCons (xV 2) (aCons (S.val (.int (10))) (aNil))))) (gN 5)) (xSeq (xAsg (xIf (xB (x2 dLe (x2 dMulA (xV 5) (S.val (.int (20)))) (S.val (.int (200))))) (S.val (.str "fine")) (S.val (.str "many 200"))) (gN 6)) (xSeq (xIfS (xB (x2 dNe (xEar 2 h__law_heard g__law_heard (q6_law)) (xV 6))) (xRet (S.val (.bl false))) (xNext)) (xIfS (xB (x2 dNe (xEar 2 h__law_heard g__law_heard (q7_law)) (S.val (.str "many 200")))) (xRet (S.val (.bl false))) (xNext)))))))))
def q9_law : SS := xForC (iR1 (aCons (xN dMax2 (aCons (S.val (.int (1))) (aCons (xN dMin2 (aCons (xN dLen (aCons (xV 0) (aNil))) (aCons (S.val (.int (4))) (aNil)))) (aNil)))) (aNil))) (gN 1) (q8_law)
abbrev s1_law : SS := q9_law
abbrev s2_law : SS := xRet (xAndV (x2 dEq (xCall m_standard_fillings (aCons (xTup (aCons (S.val (.int (60))) (aNil))) (aNil))) (S.val (.int (1)))) (xAndV (x2 dEq (xCall m_standard_fillings (aCons (x2 dMulA (xTup (aCons (S.val (.int (1))) (aNil))) (S.val (.int (60)))) (aNil))) (S.val (.int (1)))) (x2 dEq (xCall m_doubled_fillings (aCons (S.val (.int (10))) (aCons (S.val (.int (1))) (aNil)))) (S.val (.int (10))))))
def b_law : SS := xSeq (s1_law) (s2_law)
def m_law : Fn := xDef 1 7 b_law
/-! ### the texts -/
abbrev st__law_heard : Stmt := topS 51
abbrev N__law_heard : List Str := ["_law_call", "e"]
theorem sc__law_heard : FnScope ["_law_call", "e"] ["_law_call"] (defScope st__law_heard) := ⟨rfl, rfl, rfl, by decide +kernel, rfl, by decide +kernel, by decide +kernel⟩
abbrev st_is_whole : Stmt := topS 11
abbrev N_is_whole : List Str := ["value"]
theorem sc_is_whole : FnScope ["value"] ["value"] (defScope st_is_whole) := ⟨rfl, rfl, rfl, by decide +kernel, rfl, by decide +kernel, by decide +kernel⟩
abbrev st_is_within : Stmt := topS 13
abbrev N_is_within : List Str := ["value", "least", "most"]
theorem sc_is_within : FnScope ["value", "least", "most"] ["value", "least", "most"] (defScope st_is_within) := ⟨rfl, rfl, rfl, by decide +kernel, rfl, by decide +kernel, by decide +kernel⟩
abbrev st_is_heap_in : Stmt := topS 20
abbrev N_is_heap_in : List Str := ["value", "height", "one", "other"]
theorem sc_is_heap_in : FnScope ["value", "height", "one", "other"] ["value"] (defScope st_is_heap_in) := ⟨rfl, rfl, rfl, by decide +kernel, rfl, by decide +kernel, by decide +kernel⟩
abbrev st_require_heap : Stmt := topS 21
abbrev N_require_heap : List Str := ["heap"]
theorem sc_require_heap : FnScope ["heap"] ["heap"] (defScope st_require_heap) := ⟨rfl, rfl, rfl, by decide +kernel, rfl, by decide +kernel, by decide +kernel⟩
abbrev st_hook_product : Stmt := topS 34
abbrev N_hook_product : List Str := ["heap", "found", "column", "height", "row", "right", "one"]
theorem sc_hook_product : FnScope ["heap", "found", "column", "height", "row", "right", "one"] ["heap"] (defScope st_hook_product) := ⟨rfl, rfl, rfl, by decide +kernel, rfl, by decide +kernel, by decide +kernel⟩
abbrev st_standard_count : Stmt := topS 35
abbrev N_standard_count : List Str := ["heap"]
theorem sc_standard_count : FnScope ["heap"] ["heap"] (defScope st_standard_count) := ⟨rfl, rfl, rfl, by decide +kernel, rfl, by decide +kernel, by decide +kernel⟩
abbrev st_standard_fillings : Stmt := topS 41
abbrev N_standard_fillings : List Str := ["heap"]
theorem sc_standard_fillings : FnScope ["heap"] ["heap"] (defScope st_standard_fillings) := ⟨rfl, rfl, rfl, by decide +kernel, rfl, by decide +kernel, by decide +kernel⟩
abbrev st_require_up_to : Stmt := topS 36
abbrev N_require_up_to : List Str := ["value", "least", "most"]
theorem sc_require_up_to : FnScope ["value", "least", "most"] ["value", "least", "most"] (defScope st_require_up_to) := ⟨rfl, rfl, rfl, by decide +kernel, rfl, by decide +kernel, by decide +kernel⟩
abbrev st_doubled_fillings : Stmt := topS 42
abbrev N_doubled_fillings : List Str := ["columns", "rows"]
theorem sc_doubled_fillings : FnScope ["columns", "rows"] ["columns", "rows"] (defScope st_doubled_fillings) := ⟨rfl, rfl, rfl, by decide +kernel, rfl, by decide +kernel, by decide +kernel⟩
abbrev st__law_dice : Stmt := topS 44
abbrev N__law_dice : List Str := ["_law_script", "_law_at", "_law_cell", "_law_great", "_law_left", "_law_mixed"]
theorem sc__law_dice : FnScope ["_law_script", "_law_at", "_law_cell", "_law_great", "_law_left", "_law_mixed"] ["_law_script", "_law_at"] (defScope st__law_dice) := ⟨rfl, rfl, rfl, by decide +kernel, rfl, by decide +kernel, by decide +kernel⟩
abbrev st__law_roll : Stmt := topS 45
abbrev N__law_roll : List Str := ["_law_dice_here", "_law_total", "_law_size", "_law_one", "_law_two", "_law_drawn"]
theorem sc__law_roll : FnScope ["_law_dice_here", "_law_total", "_law_size", "_law_one", "_law_two", "_law_drawn"] ["_law_dice_here", "_law_total"] (defScope st__law_roll) := ⟨rfl, rfl, rfl, by decide +kernel, rfl, by decide +kernel, by decide +kernel⟩
abbrev st__law_ring : Stmt := topS 48
abbrev N__law_ring : List Str := ["_law_dice_here", "_law_most", "_law_n"]
theorem sc__law_ring : FnScope ["_law_dice_here", "_law_most", "_law_n"] ["_law_dice_here", "_law_most"] (defScope st__law_ring) := ⟨rfl, rfl, rfl, by decide +kernel, rfl, by decide +kernel, by decide +kernel⟩
abbrev st__law_one_of : Stmt := topS 46
abbrev N__law_one_of : List Str := ["_law_dice_here", "_law_items"]
theorem sc__law_one_of : FnScope ["_law_dice_here", "_law_items"] ["_law_dice_here", "_law_items"] (defScope st__law_one_of) := ⟨rfl, rfl, rfl, by decide +kernel, rfl, by decide +kernel, by decide +kernel⟩
abbrev st__law_common : Stmt := topS 47
abbrev N__law_common : List Str := ["_law_one", "_law_other"]
theorem sc__law_common : FnScope ["_law_one", "_law_other"] ["_law_one", "_law_other"] (defScope st__law_common) := ⟨rfl, rfl, rfl, by decide +kernel, rfl, by decide +kernel, by decide +kernel⟩
abbrev st__law_ring_of : Stmt := topS 49
abbrev N__law_ring_of : List Str := ["_law_dice_here", "_law_k", "_law_times", "_law_more", "_law_steps", "_law_one"]
theorem sc__law_ring_of : FnScope ["_law_dice_here", "_law_k", "_law_times", "_law_more", "_law_steps", "_law_one"] ["_law_dice_here", "_law_k", "_law_times"] (defScope st__law_ring_of) := ⟨rfl, rfl, rfl, by decide +kernel, rfl, by decide +kernel, by decide +kernel⟩
abbrev st__law_chain : Stmt := topS 50
abbrev N__law_chain : List Str := ["_law_dice_here", "_law_rings", "_law_most", "_law_k", "_law_turn"]
theorem sc__law_chain : FnScope ["_law_dice_here", "_law_rings", "_law_most", "_law_k", "_law_turn"] ["_law_dice_here", "_law_rings", "_law_most"] (defScope st__law_chain) := ⟨rfl, rfl, rfl, by decide +kernel, rfl, by decide +kernel, by decide +kernel⟩
abbrev st__law_no_chains : Stmt := topS 52
abbrev N__law_no_chains : List Str := ["_law_dice_here", "_law_ring_here", "_law_found"]
theorem sc__law_no_chains : FnScope ["_law_dice_here", "_law_ring_here", "_law_found"] ["_law_dice_here"] (defScope st__law_no_chains) := ⟨rfl, rfl, rfl, by decide +kernel, rfl, by decide +kernel, by decide +kernel⟩
abbrev st__law_no_heaps : Stmt := topS 53
abbrev N__law_no_heaps : List Str := ["_law_found"]
theorem sc__law_no_heaps : FnScope ["_law_found"] [] (defScope st__law_no_heaps) := ⟨rfl, rfl, rfl, by decide +kernel, rfl, by decide +kernel, by decide +kernel⟩
abbrev st_is_ring_in : Stmt := topS 14
abbrev N_is_ring_in : List Str := ["value"]
theorem sc_is_ring_in : FnScope ["value"] ["value"] (defScope st_is_ring_in) := ⟨rfl, rfl, rfl, by decide +kernel, rfl, by decide +kernel, by decide +kernel⟩
abbrev st_is_chain_in : Stmt := topS 15
abbrev N_is_chain_in : List Str := ["value", "ring"]
theorem sc_is_chain_in : FnScope ["value", "ring"] ["value"] (defScope st_is_chain_in) := ⟨rfl, rfl, rfl, by decide +kernel, rfl, by decide +kernel, by decide +kernel⟩
abbrev st_require_chain : Stmt := topS 17
abbrev N_require_chain : List Str := ["value"]
theorem sc_require_chain : FnScope ["value"] ["value"] (defScope st_require_chain) := ⟨rfl, rfl, rfl, by decide +kernel, rfl, by decide +kernel, by decide +kernel⟩
abbrev st_cut_counts : Stmt := topS 30
abbrev N_cut_counts : List Str := ["chain", "columns", "rows", "found", "ring", "further", "heap", "number", "more", "places_there"]
theorem sc_cut_counts : FnScope ["chain", "columns", "rows", "found", "ring", "further", "heap", "number", "more", "places_there"] ["chain", "columns", "rows"] (defScope st_cut_counts) := ⟨rfl, rfl, rfl, by decide +kernel, rfl, by decide +kernel, by decide +kernel⟩
abbrev st_classes_by_heap : Stmt := topS 38
abbrev N_classes_by_heap : List Str := ["chain", "columns", "rows"]
theorem sc_classes_by_heap : FnScope ["chain", "columns", "rows"] ["chain", "columns", "rows"] (defScope st_classes_by_heap) := ⟨rfl, rfl, rfl, by decide +kernel, rfl, by decide +kernel, by decide +kernel⟩
abbrev st_count_at_least : Stmt := topS 32
abbrev N_count_at_least : List Str := ["chain", "degree", "k", "columns", "rows"]
theorem sc_count_at_least : FnScope ["chain", "degree", "k", "columns", "rows"] ["chain", "degree", "k"] (defScope st_count_at_least) := ⟨rfl, rfl, rfl, by decide +kernel, rfl, by decide +kernel, by decide +kernel⟩
abbrev st_is_integer : Stmt := topS 12
abbrev N_is_integer : List Str := ["value"]
theorem sc_is_integer : FnScope ["value"] ["value"] (defScope st_is_integer) := ⟨rfl, rfl, rfl, by decide +kernel, rfl, by decide +kernel, by decide +kernel⟩
abbrev st_require_degree : Stmt := topS 37
abbrev N_require_degree : List Str := ["degree"]
theorem sc_require_degree : FnScope ["degree"] ["degree"] (defScope st_require_degree) := ⟨rfl, rfl, rfl, by decide +kernel, rfl, by decide +kernel, by decide +kernel⟩
abbrev st_classes_at_least : Stmt := topS 39
abbrev N_classes_at_least : List Str := ["chain", "degree", "k"]
theorem sc_classes_at_least : FnScope ["chain", "degree", "k"] ["chain", "degree", "k"] (defScope st_classes_at_least) := ⟨rfl, rfl, rfl, by decide +kernel, rfl, by decide +kernel, by decide +kernel⟩
abbrev st_count_by_richness : Stmt := topS 33
abbrev N_count_by_richness : List Str := ["chain", "degree", "counts", "k", "high", "low"]
theorem sc_count_by_richness : FnScope ["chain", "degree", "counts", "k", "high", "low"] ["chain", "degree"] (defScope st_count_by_richness) := ⟨rfl, rfl, rfl, by decide +kernel, rfl, by decide +kernel, by decide +kernel⟩
abbrev st_classes_by_richness : Stmt := topS 40
abbrev N_classes_by_richness : List Str := ["chain", "degree"]
theorem sc_classes_by_richness : FnScope ["chain", "degree"] ["chain", "degree"] (defScope st_classes_by_richness) := ⟨rfl, rfl, rfl, by decide +kernel, rfl, by decide +kernel, by decide +kernel⟩
abbrev st__law_chain_right : Stmt := topS 54
abbrev N__law_chain_right : List Str := ["_law_chain_here", "_law_bad", "_law_met"]
theorem sc__law_chain_right : FnScope ["_law_chain_here", "_law_bad", "_law_met"] ["_law_chain_here", "_law_bad"] (defScope st__law_chain_right) := ⟨rfl, rfl, rfl, by decide +kernel, rfl, by decide +kernel, by decide +kernel⟩
abbrev st__law_numbers_right : Stmt := topS 55
abbrev N__law_numbers_right : List Str := ["_law_chain_here", "_law_bad", "_law_met"]
theorem sc__law_numbers_right : FnScope ["_law_chain_here", "_law_bad", "_law_met"] ["_law_chain_here"] (defScope st__law_numbers_right) := ⟨rfl, rfl, rfl, by decide +kernel, rfl, by decide +kernel, by decide +kernel⟩
abbrev st_law : Stmt := topS 56
abbrev N_law : List Str := ["_law_script", "_law_at", "_law_dice_here", "_law_chain_here", "_law_bad", "_law_wide", "_law_due"]
theorem sc_law : FnScope ["_law_script", "_law_at", "_law_dice_here", "_law_chain_here", "_law_bad", "_law_wide", "_law_due"] ["_law_script"] (defScope st_law) := ⟨rfl, rfl, rfl, by decide +kernel, rfl, by decide +kernel, by decide +kernel⟩
/-! ### what stands at the top -/
structure Tops (P : Program) (K : PySem.W.Frag) (mg : Str → Option Value) (a_InvalidNumber i_InvalidNumber a_TooMany i_TooMany a_InvalidChain a_InvalidHeap : Addr) : Prop where
  t_InvalidNumber : SmX.SupTxt P K mg "IndexError" "IndexError.__init__" "IndexError.__new__" [.type "IndexError", .type "LookupError", .type "Exception", .type "BaseException", .type "object"] a_InvalidNumber i_InvalidNumber "InvalidNumber" "given"
  ct_InvalidNumber : Catch K mg (.ref a_InvalidNumber) [("InvalidChain", false), ("InvalidHeap", false), ("InvalidNumber", true), ("TooMany", false)]
  xf_InvalidNumber : XfC K a_InvalidNumber
  t_TooMany : SmX.SupTxt P K mg "OverflowError" "OverflowError.__init__" "OverflowError.__new__" [.type "OverflowError", .type "ArithmeticError", .type "Exception", .type "BaseException", .type "object"] a_TooMany i_TooMany "TooMany" "limit"
  ct_TooMany : Catch K mg (.ref a_TooMany) [("InvalidChain", false), ("InvalidHeap", false), ("InvalidNumber", false), ("TooMany", true)]
  xf_TooMany : XfC K a_TooMany
  m_InvalidChain : MsgC K mg "InvalidChain" a_InvalidChain [.type "ValueError", .type "Exception", .type "BaseException", .type "object"] "ValueError.__new__"
  ct_InvalidChain : Catch K mg (.ref a_InvalidChain) [("InvalidChain", true), ("InvalidHeap", false), ("InvalidNumber", false), ("TooMany", false)]
  m_InvalidHeap : MsgC K mg "InvalidHeap" a_InvalidHeap [.type "ValueError", .type "Exception", .type "BaseException", .type "object"] "ValueError.__new__"
  ct_InvalidHeap : Catch K mg (.ref a_InvalidHeap) [("InvalidChain", false), ("InvalidHeap", true), ("InvalidNumber", false), ("TooMany", false)]
  b_abs : mg "abs" = none
  b_all : mg "all" = none
  b_bool : mg "bool" = none
  b_enumerate : mg "enumerate" = none
  b_int : mg "int" = none
  b_isinstance : mg "isinstance" = none
  b_len : mg "len" = none
  b_list : mg "list" = none
  b_max : mg "max" = none
  b_min : mg "min" = none
  b_range : mg "range" = none
  b_repr : mg "repr" = none
  b_sum : mg "sum" = none
  b_tuple : mg "tuple" = none
  b_zip : mg "zip" = none
  c_MOST_CUT : ∃ t, mg "MOST_CUT" = some (.int (6) t)
  c_MOST_DOUBLED : ∃ t, mg "MOST_DOUBLED" = some (.int (10) t)
  c_MOST_HOOKED : ∃ t, mg "MOST_HOOKED" = some (.int (200) t)
  c_MOST_PLACES : ∃ t, mg "MOST_PLACES" = some (.int (60) t)
  c_MOST_RICHNESS : ∃ t, mg "MOST_RICHNESS" = some (.int (40) t)
  c_MOST_RINGS : ∃ t, mg "MOST_RINGS" = some (.int (12) t)
  c_MOST_SIDE : ∃ t, mg "MOST_SIDE" = some (.int (60) t)
  c_SIXTY_DIGITS : ∃ t, mg "SIXTY_DIGITS" = some (.int (1000000000000000000000000000000000000000000000000000000000000) t)
  g_fac : mg "factorial" = some (.builtin "math.factorial")
section
variable [Tabs0]
variable {P : Program} {w : World} {K : PySem.W.Frag} {mg : Str → Option Value} {base : Heap} {a_InvalidNumber i_InvalidNumber a_TooMany i_TooMany a_InvalidChain a_InvalidHeap : Addr}
theorem k__law_heard {f : Addr} {fd : FuncData} (T : Tops P K mg a_InvalidNumber i_InvalidNumber a_TooMany i_TooMany a_InvalidChain a_InvalidHeap) (F : L2.Fun K "_law_heard" "_law_heard" st__law_heard f fd) (gF : mg "_law_heard" = some (.ref f)) (hb : Binds K fd ["_law_call"] []) : EarOk P w K mg base "_law_heard" 2 h__law_heard g__law_heard :=
  ear_of F gF hb sc__law_heard rfl rfl (by first | exact Or.inl rfl | exact Or.inr (Or.inl rfl)) (by decide) (by decide) rfl fun cdv A outer s H hr gd => ⟨(.bare ⟨rfl, by decide, .inl T.m_InvalidChain.g⟩ T.ct_InvalidChain (fun a oe cls d pn hz hf => (ss_one (sc_ret se_str))) (.bare ⟨rfl, by decide, .inl T.m_InvalidHeap.g⟩ T.ct_InvalidHeap (fun a oe cls d pn hz hf => (ss_one (sc_ret se_str))) (.kept ⟨rfl, by decide, .inl T.t_InvalidNumber.gC⟩ T.ct_InvalidNumber rfl rfl (fun a oe cls d pn hz hf => (ss_one (sc_ret (se_op or_add op_dAdd se_str (se_repr (pe_callB (cr_repr gd (un_of hr)) (by rfl) T.b_repr PyProof.Rows.boot_repr (sa_cons (se_err T.xf_InvalidNumber T.t_InvalidNumber.noF T.t_InvalidNumber.gC hz hf (pv 1) rfl) sa_nil rfl))))))) (.kept ⟨rfl, by decide, .inl T.t_TooMany.gC⟩ T.ct_TooMany rfl rfl (fun a oe cls d pn hz hf => (ss_one (sc_ret (se_op or_add op_dAdd se_str (se_repr (pe_callB (cr_repr gd (un_of hr)) (by rfl) T.b_repr PyProof.Rows.boot_repr (sa_cons (se_err T.xf_TooMany T.t_TooMany.noF T.t_TooMany.gC hz hf (pv 1) rfl) sa_nil rfl))))))) .nil)))), se_str⟩
theorem k_is_whole {f : Addr} {fd : FuncData} (T : Tops P K mg a_InvalidNumber i_InvalidNumber a_TooMany i_TooMany a_InvalidChain a_InvalidHeap) (F : L2.Fun K "is_whole" "is_whole" st_is_whole f fd) (gF : mg "is_whole" = some (.ref f)) (hb : Binds K fd ["value"] [])  : Cal P w K mg base "is_whole" 1 1 m_is_whole :=
  cal_of F gF hb sc_is_whole rfl fun cdv A outer s H E hr gd => (ss_one (sc_ret (se_and (se_bi op_dIsi (pe_callB call_isiY (by rfl) T.b_isinstance PyProof.Rows.boot_isinstance (sa_cons (se_var (pv 0)) (sa_cons (se_ty (pe_bltn (by rfl) T.b_int (by decide +kernel) rfl)) sa_nil rfl) rfl))) (se_one (se_not (se_bi op_dIsi (pe_callB call_isiY (by rfl) T.b_isinstance PyProof.Rows.boot_isinstance (sa_cons (se_var (pv 0)) (sa_cons (se_ty (pe_bltn (by rfl) T.b_bool (by decide +kernel) rfl)) sa_nil rfl) rfl))))))))
theorem k_is_within {f : Addr} {fd : FuncData} (T : Tops P K mg a_InvalidNumber i_InvalidNumber a_TooMany i_TooMany a_InvalidChain a_InvalidHeap) (F : L2.Fun K "is_within" "is_within" st_is_within f fd) (gF : mg "is_within" = some (.ref f)) (hb : Binds K fd ["value", "least", "most"] []) (c_is_whole : Cal P w K mg base "is_whole" 1 1 m_is_whole) : Cal P w K mg base "is_within" 3 2 m_is_within :=
  cal_of F gF hb sc_is_within rfl fun cdv A outer s H E hr gd => (ss_one (sc_ret (se_and (se_call c_is_whole takes_def (hr.mono (by decide)) gd (by rfl) (sa_cons (se_var (pv 0)) sa_nil rfl) (by decide) rfl rfl) (se_one (se_chain op_le op_dLe op_le op_dLe (se_var (pv 1)) (se_var (pv 0)) (se_var (pv 2)) rfl)))))
theorem k_is_heap_in {f : Addr} {fd : FuncData} (T : Tops P K mg a_InvalidNumber i_InvalidNumber a_TooMany i_TooMany a_InvalidChain a_InvalidHeap) (F : L2.Fun K "is_heap_in" "is_heap_in" st_is_heap_in f fd) (gF : mg "is_heap_in" = some (.ref f)) (hb : Binds K fd ["value"] []) (c_is_within : Cal P w K mg base "is_within" 3 2 m_is_within) : Cal P w K mg base "is_heap_in" 1 3 m_is_heap_in :=
  cal_of F gF hb sc_is_heap_in rfl fun cdv A outer s H E hr gd => (ss_cons (sc_if (sb_w (sw_or (sb_not (sb_val (se_bi op_dIsi (pe_callB call_isiY (by rfl) T.b_isinstance PyProof.Rows.boot_isinstance (sa_cons (se_var (pv 0)) (sa_cons (se_ty (pe_bltn (by rfl) T.b_tuple (by decide +kernel) rfl)) sa_nil rfl) rfl))) (fun _ => rfl))) (sw_or1 (sb_cmp op_gt op_dGt (se_bi op_dLen (pe_callB call_len_seq (by rfl) T.b_len PySem.boot_len (sa_cons (se_var (pv 0)) sa_nil rfl))) (se_gintE rfl T.c_MOST_SIDE (by decide)) (nomark _))))) (ss_one (sc_ret se_bl)) ss_nil)
      (ss_cons (sc_if (sb_not (sb_val (se_bi op_dAll (pe_callB (cr_all rfl) (by rfl) T.b_all PyProof.Rows.boot_all (sa_cons (se_F (sl_lc (by decide) (gN_len _) (pe_lc (own := [("height", 1)]) (g := gG _ _ none (gN 1)) rfl sc_is_heap_in.nd (si_val (se_var (pv 0))) (blkOk_by (N := N_is_heap_in) (sc := defScope st_is_heap_in) (by decide +kernel)) (fun _ _ _ _ _ => (sg_name (W := W0) (pg_name sc_is_heap_in.nd rfl (by first | exact Or.inl rfl | exact Or.inr rfl)))) (fun _ _ _ _ _ => st_nil) (fun _ _ _ _ _ => (se_call c_is_within takes_none5 (hr.mono (by decide)) gd (by rfl) (sa_cons (se_var (pv 1)) (sa_cons se_int (sa_cons (se_gintE rfl T.c_MOST_SIDE (by decide)) sa_nil rfl) rfl) rfl) (by decide) rfl rfl))))) sa_nil rfl))) (fun _ => rfl))) (ss_one (sc_ret se_bl)) ss_nil)
      (ss_one (sc_ret (se_bi op_dAll (pe_callB (cr_all rfl) (by rfl) T.b_all PyProof.Rows.boot_all (sa_cons (se_F (sl_lc (by decide) (gT_len (gsC_lenE (gN_len _) (gsC_lenE (gN_len _) (gsN_lenE)))) (pe_lc (own := [("one", 2), ("other", 3)]) (g := gG _ _ none (gT (gsC (gN 2) (gsC (gN 3) (gsN))))) rfl sc_is_heap_in.nd (si_zip (RZ.pi_zipA (by rfl) T.b_zip (sa_cons (se_var (pv 0)) (sa_cons (se_sl (se_var (pv 0)) (so_e se_int) so_no) sa_nil rfl) rfl))) (blkOk_by (N := N_is_heap_in) (sc := defScope st_is_heap_in) (by decide +kernel)) (fun _ _ _ _ _ => (sg_tup (W := W0) (fun _ h => pg_tup rfl h) (sgs_cons (W := W0) (sg_name (W := W0) (pg_name sc_is_heap_in.nd rfl (by first | exact Or.inl rfl | exact Or.inr rfl))) (sgs_cons (W := W0) (sg_name (W := W0) (pg_name sc_is_heap_in.nd rfl (by first | exact Or.inl rfl | exact Or.inr rfl))) (sgs_nil (W := W0)) rfl) rfl) (fun _ _ _ q => gsC_len (fun _ _ _ q => gsC_len (fun _ _ _ q => gsN_len q) q) q))) (fun _ _ _ _ _ => st_nil) (fun _ _ _ _ _ => (se_cmp op_ge op_dGe (se_var (pv 2)) (se_var (pv 3)) (nomark _)))))) sa_nil rfl)))))))
theorem k_require_heap {f : Addr} {fd : FuncData} (T : Tops P K mg a_InvalidNumber i_InvalidNumber a_TooMany i_TooMany a_InvalidChain a_InvalidHeap) (F : L2.Fun K "require_heap" "require_heap" st_require_heap f fd) (gF : mg "require_heap" = some (.ref f)) (hb : Binds K fd ["heap"] []) (c_is_heap_in : Cal P w K mg base "is_heap_in" 1 3 m_is_heap_in) : Cal P w K mg base "require_heap" 1 4 m_require_heap :=
  cal_of F gF hb sc_require_heap rfl fun cdv A outer s H E hr gd => (ss_one (sc_if (sb_not (sb_val (se_call c_is_heap_in takes_def (hr.mono (by decide)) gd (by rfl) (sa_cons (se_var (pv 0)) sa_nil rfl) (by decide) rfl rfl) (fun _ => rfl))) (ss_one (sc_raise rfl takes_def (pmk_own PySem.F.excBase_ValueError T.m_InvalidHeap.q T.m_InvalidHeap.g T.m_InvalidHeap.k (raises_own T.m_InvalidHeap.s T.m_InvalidHeap.t) rfl) T.m_InvalidHeap.g)) ss_nil))
theorem k_hook_product {f : Addr} {fd : FuncData} (T : Tops P K mg a_InvalidNumber i_InvalidNumber a_TooMany i_TooMany a_InvalidChain a_InvalidHeap) (F : L2.Fun K "hook_product" "hook_product" st_hook_product f fd) (gF : mg "hook_product" = some (.ref f)) (hb : Binds K fd ["heap"] [])  : Cal P w K mg base "hook_product" 1 1 m_hook_product :=
  cal_of F gF hb sc_hook_product rfl fun cdv A outer s H E hr gd => (ss_cons (sc_set (ps_set (i := 1) sc_hook_product.nd rfl (by first | exact Or.inl rfl | exact Or.inr rfl) se_int))
      (ss_cons (sc_forC (passes_of rfl) rfl (si_enum (pi_enumA (by rfl) T.b_enumerate (sa_cons (se_var (pv 0)) sa_nil rfl) rfl)) (sg_tup (W := _) (fun _ h => pg_tup rfl h) (sgs_cons (W := _) (sg_name (W := _) (pg_name sc_hook_product.nd rfl (by first | exact Or.inl rfl | exact Or.inr rfl))) (sgs_cons (W := _) (sg_name (W := _) (pg_name sc_hook_product.nd rfl (by first | exact Or.inl rfl | exact Or.inr rfl))) (sgs_nil (W := _)) rfl) rfl) (fun _ _ _ q => gsC_len (fun _ _ _ q => gsC_len (fun _ _ _ q => gsN_len q) q) q)) (ss_one (sc_forC (passes_of rfl) rfl (si_r1 (pi_range1 (by rfl) T.b_range (sa_cons (se_var (pv 3)) sa_nil rfl))) (sg_name (W := _) (pg_name sc_hook_product.nd rfl (by first | exact Or.inl rfl | exact Or.inr rfl))) (ss_cons (sc_set (ps_set (i := 5) sc_hook_product.nd rfl (by first | exact Or.inl rfl | exact Or.inr rfl) (se_bi op_dLen (pe_callB call_len_seq (by rfl) T.b_len PySem.boot_len (sa_cons (se_F (sl_lc (by decide) (gN_len _) (pe_lc (own := [("one", 6)]) (g := gG _ _ none (gN 6)) rfl sc_hook_product.nd (si_val (se_sl (se_var (pv 0)) (so_e (se_op or_add op_dAdd (se_var (pv 2)) se_int)) so_no)) (blkOk_by (N := N_hook_product) (sc := defScope st_hook_product) (by decide +kernel)) (fun _ _ _ _ _ => (sg_name (W := W0) (pg_name sc_hook_product.nd rfl (by first | exact Or.inl rfl | exact Or.inr rfl)))) (fun _ _ _ _ _ => (pts_one (sb_cmp op_gt op_dGt (se_var (pv 6)) (se_var (pv 4)) (nomark _)))) (fun _ _ _ _ _ => (se_var (pv 6)))))) sa_nil rfl)))))
      (ss_one (sc_aug au_mul (ps_aug (i := 1) sc_hook_product.nd rfl (by first | exact Or.inl rfl | exact Or.inr rfl) (se_op op_sub op_dSub (se_op or_add op_dAdd (se_var (pv 5)) (se_var (pv 3))) (se_var (pv 4))) ip_mulW)))) (by intro _; rfl))) (by intro _; rfl))
      (ss_one (sc_ret (se_var (pv 1))))))
theorem k_standard_count {f : Addr} {fd : FuncData} (T : Tops P K mg a_InvalidNumber i_InvalidNumber a_TooMany i_TooMany a_InvalidChain a_InvalidHeap) (F : L2.Fun K "standard_count" "standard_count" st_standard_count f fd) (gF : mg "standard_count" = some (.ref f)) (hb : Binds K fd ["heap"] []) (c_hook_product : Cal P w K mg base "hook_product" 1 1 m_hook_product) : Cal P w K mg base "standard_count" 1 2 m_standard_count :=
  cal_of F gF hb sc_standard_count rfl fun cdv A outer s H E hr gd => (ss_one (sc_ret (se_op op_fdivW op_dDiv (se_bi op_dFac (pe_callBfun cr_fac (by rfl) T.g_fac (sa_cons (se_bi op_dSumA (pe_callB (cr_sumA rfl) (by rfl) T.b_sum PyProof.Rows.boot_sum (sa_cons (se_var (pv 0)) sa_nil rfl))) sa_nil rfl))) (se_call c_hook_product takes_def (hr.mono (by decide)) gd (by rfl) (sa_cons (se_var (pv 0)) sa_nil rfl) (by decide) rfl rfl))))
theorem k_standard_fillings {f : Addr} {fd : FuncData} (T : Tops P K mg a_InvalidNumber i_InvalidNumber a_TooMany i_TooMany a_InvalidChain a_InvalidHeap) (F : L2.Fun K "standard_fillings" "standard_fillings" st_standard_fillings f fd) (gF : mg "standard_fillings" = some (.ref f)) (hb : Binds K fd ["heap"] []) (c_require_heap : Cal P w K mg base "require_heap" 1 4 m_require_heap) (c_standard_count : Cal P w K mg base "standard_count" 1 2 m_standard_count) : Cal P w K mg base "standard_fillings" 1 5 m_standard_fillings :=
  cal_of F gF hb sc_standard_fillings rfl fun cdv A outer s H E hr gd => (ss_cons (sc_exp (se_call c_require_heap takes_def (hr.mono (by decide)) gd (by rfl) (sa_cons (se_var (pv 0)) sa_nil rfl) (by decide) rfl rfl) rfl)
      (ss_cons (sc_if (sb_cmp op_gt op_dGt (se_bi op_dSumA (pe_callB (cr_sumA rfl) (by rfl) T.b_sum PyProof.Rows.boot_sum (sa_cons (se_var (pv 0)) sa_nil rfl))) (se_gintE rfl T.c_MOST_HOOKED (by decide)) (nomark _)) (ss_one (sc_raiseF rfl takes_def (pmk_sup kxs_OverflowError PySem.F.excBase_OverflowError PySem.F.store_OverflowError T.t_TooMany SmX.nm_limit (k := 0) (hr.mono (by decide)) (sa_cons (se_gintE rfl T.c_MOST_HOOKED (by decide)) sa_nil rfl) rfl (by decide) rfl rfl) T.t_TooMany.gC)) ss_nil)
      (ss_one (sc_ret (se_call c_standard_count takes_def (hr.mono (by decide)) gd (by rfl) (sa_cons (se_var (pv 0)) sa_nil rfl) (by decide) rfl rfl)))))
theorem k_require_up_to {f : Addr} {fd : FuncData} (T : Tops P K mg a_InvalidNumber i_InvalidNumber a_TooMany i_TooMany a_InvalidChain a_InvalidHeap) (F : L2.Fun K "require_up_to" "require_up_to" st_require_up_to f fd) (gF : mg "require_up_to" = some (.ref f)) (hb : Binds K fd ["value", "least", "most"] []) (c_is_within : Cal P w K mg base "is_within" 3 2 m_is_within) : Cal P w K mg base "require_up_to" 3 3 m_require_up_to :=
  cal_of F gF hb sc_require_up_to rfl fun cdv A outer s H E hr gd => (ss_one (sc_if (sb_not (sb_val (se_call c_is_within takes_def (hr.mono (by decide)) gd (by rfl) (sa_cons (se_var (pv 0)) (sa_cons (se_var (pv 1)) (sa_cons (se_var (pv 2)) sa_nil rfl) rfl) rfl) (by decide) rfl rfl) (fun _ => rfl))) (ss_one (sc_raiseF rfl takes_def (pmk_sup kxs_IndexError PySem.F.excBase_IndexError PySem.F.store_IndexError T.t_InvalidNumber SmX.nm_given (k := 0) (hr.mono (by decide)) (sa_cons (se_var (pv 0)) sa_nil rfl) rfl (by decide) rfl rfl) T.t_InvalidNumber.gC)) ss_nil))
theorem k_doubled_fillings {f : Addr} {fd : FuncData} (T : Tops P K mg a_InvalidNumber i_InvalidNumber a_TooMany i_TooMany a_InvalidChain a_InvalidHeap) (F : L2.Fun K "doubled_fillings" "doubled_fillings" st_doubled_fillings f fd) (gF : mg "doubled_fillings" = some (.ref f)) (hb : Binds K fd ["columns", "rows"] []) (c_standard_count : Cal P w K mg base "standard_count" 1 2 m_standard_count) (c_require_up_to : Cal P w K mg base "require_up_to" 3 3 m_require_up_to) : Cal P w K mg base "doubled_fillings" 2 4 m_doubled_fillings :=
  cal_of F gF hb sc_doubled_fillings rfl fun cdv A outer s H E hr gd => (ss_cons (sc_exp (se_call c_require_up_to takes_def (hr.mono (by decide)) gd (by rfl) (sa_cons (se_var (pv 0)) (sa_cons se_int (sa_cons (se_gintE rfl T.c_MOST_DOUBLED (by decide)) sa_nil rfl) rfl) rfl) (by decide) rfl rfl) rfl)
      (ss_cons (sc_exp (se_call c_require_up_to takes_def (hr.mono (by decide)) gd (by rfl) (sa_cons (se_var (pv 1)) (sa_cons se_int (sa_cons (se_gintE rfl T.c_MOST_DOUBLED (by decide)) sa_nil rfl) rfl) rfl) (by decide) rfl rfl) rfl)
      (ss_one (sc_ret (se_op (op_mulW.or (op_repT.or op_rep1)) op_dMulA (se_var (pv 1)) (se_call c_standard_count takes_def (hr.mono (by decide)) gd (by rfl) (sa_cons (se_tup (sa_cons (se_op or_add op_dAdd (se_var (pv 1)) se_int) (sa_star (se_F (sl_rep (sl_lst (sa_cons (se_var (pv 1)) sa_nil rfl)) (se_op op_sub op_dSub (se_var (pv 0)) se_int))) sa_nil rfl) rfl)) sa_nil rfl) (by decide) rfl rfl))))))
theorem k__law_dice {f : Addr} {fd : FuncData} (T : Tops P K mg a_InvalidNumber i_InvalidNumber a_TooMany i_TooMany a_InvalidChain a_InvalidHeap) (F : L2.Fun K "_law_dice" "_law_dice" st__law_dice f fd) (gF : mg "_law_dice" = some (.ref f)) (hb : Binds K fd ["_law_script", "_law_at"] [])  : Cal P w K mg base "_law_dice" 2 1 m__law_dice :=
  cal_of F gF hb sc__law_dice rfl fun cdv A outer s H E hr gd => (ss_cons (sc_set (ps_set (i := 2) sc__law_dice.nd rfl (by first | exact Or.inl rfl | exact Or.inr rfl) (se_op or_add op_dAdd (se_op (op_mulW.or (op_repT.or op_rep1)) op_dMulA se_int (se_var (pv 1))) se_int)))
      (ss_cons (sc_if (sb_cmp op_lt op_dLt (se_var (pv 1)) (se_bi op_dLen (pe_callB call_len_seq (by rfl) T.b_len PySem.boot_len (sa_cons (se_var (pv 0)) sa_nil rfl))) (nomark _)) (ss_one (sc_set (ps_set (i := 2) sc__law_dice.nd rfl (by first | exact Or.inl rfl | exact Or.inr rfl) (se_sub ix_any op_dIx (se_var (pv 0)) (se_var (pv 1)) (fun _ _ => rfl))))) ss_nil)
      (ss_cons (sc_set (ps_set (i := 3) sc__law_dice.nd rfl (by first | exact Or.inl rfl | exact Or.inr rfl) (se_op op_mod op_dMod (se_bi op_dInt (pe_callTy call_int1 (by rfl) T.b_int PyProof.Rows.boot_int (sa_cons (se_bi op_dAbs (pe_callB call_abs (by rfl) T.b_abs PyProof.Rows.boot_abs (sa_cons (se_var (pv 2)) sa_nil rfl))) sa_nil rfl))) (se_op op_powW op_dPow (se_op op_powW op_dPow se_int se_int) se_int))))
      (ss_cons (sc_set (ps_set (i := 4) sc__law_dice.nd rfl (by first | exact Or.inl rfl | exact Or.inr rfl) (se_op op_fdivW op_dDiv (se_var (pv 3)) (se_op op_powW op_dPow se_int se_int))))
      (ss_cons (sc_set (ps_set (i := 5) sc__law_dice.nd rfl (by first | exact Or.inl rfl | exact Or.inr rfl) (se_op or_add op_dAdd (se_op or_add op_dAdd (se_op or_add op_dAdd (se_op (op_mulW.or (op_repT.or op_rep1)) op_dMulA (se_op op_mod op_dMod (se_var (pv 3)) se_int) se_int) (se_op (op_mulW.or (op_repT.or op_rep1)) op_dMulA se_int (se_var (pv 1)))) (se_op (op_mulW.or (op_repT.or op_rep1)) op_dMulA se_int (se_bi op_dInt (pe_callTy call_int1 (by rfl) T.b_int PyProof.Rows.boot_int (sa_cons (se_cmp op_lt op_dLt (se_var (pv 2)) se_int (nomark _)) sa_nil rfl))))) se_int)))
      (ss_one (sc_ret (se_C (sl_lst (sa_cons (se_var (pv 4)) (sa_cons (se_op op_mod op_dMod (se_var (pv 5)) se_int) (sa_cons se_int sa_nil rfl) rfl) rfl))))))))))
theorem k__law_roll {f : Addr} {fd : FuncData} (T : Tops P K mg a_InvalidNumber i_InvalidNumber a_TooMany i_TooMany a_InvalidChain a_InvalidHeap) (F : L2.Fun K "_law_roll" "_law_roll" st__law_roll f fd) (gF : mg "_law_roll" = some (.ref f)) (hb : Binds K fd ["_law_dice_here", "_law_total"] [])  : Cal P w K mg base "_law_roll" 2 1 m__law_roll :=
  cal_of F gF hb sc__law_roll rfl fun cdv A outer s H E hr gd => (ss_cons (sc_set (ps_set (i := 2) sc__law_roll.nd rfl (by first | exact Or.inl rfl | exact Or.inr rfl) (se_bi op_dInt (pe_callTy call_int1 (by rfl) T.b_int PyProof.Rows.boot_int (sa_cons (se_var (pv 1)) sa_nil rfl)))))
      (ss_cons (sc_if (sb_cmp op_gt op_dGt (se_sub ix_any op_dIx (se_var (pv 0)) se_int (fun _ _ => rfl)) se_int (nomark _)) (ss_cons (sc_set (ps_set (i := 5) sc__law_roll.nd rfl (by first | exact Or.inl rfl | exact Or.inr rfl) (se_op op_mod op_dMod (se_sub ix_any op_dIx (se_var (pv 0)) se_int (fun _ _ => rfl)) (se_var (pv 2)))))
      (ss_cons (sc_seti (ps_asg (se_op op_fdivW op_dDiv (se_sub ix_any op_dIx (se_var (pv 0)) se_int (fun _ _ => rfl)) (se_var (pv 2))) (pg_sub (se_var (pv 0)) se_int set_list)))
      (ss_one (sc_ret (se_bi op_dInt (pe_callTy call_int1 (by rfl) T.b_int PyProof.Rows.boot_int (sa_cons (se_var (pv 5)) sa_nil rfl))))))) ss_nil)
      (ss_cons (sc_seti (ps_asg (se_op or_add op_dAdd (se_sub ix_any op_dIx (se_var (pv 0)) se_int (fun _ _ => rfl)) se_int) (pg_sub (se_var (pv 0)) se_int set_list)))
      (ss_cons (sc_set (ps_set (i := 3) sc__law_roll.nd rfl (by first | exact Or.inl rfl | exact Or.inr rfl) (se_op op_mod op_dMod (se_op or_add op_dAdd (se_sub ix_any op_dIx (se_var (pv 0)) se_int (fun _ _ => rfl)) (se_op (op_mulW.or (op_repT.or op_rep1)) op_dMulA se_int (se_sub ix_any op_dIx (se_var (pv 0)) se_int (fun _ _ => rfl)))) se_int)))
      (ss_cons (sc_set (ps_set (i := 4) sc__law_roll.nd rfl (by first | exact Or.inl rfl | exact Or.inr rfl) (se_op or_add op_dAdd (se_op (op_mulW.or (op_repT.or op_rep1)) op_dMulA (se_op op_mod op_dMod (se_op (op_mulW.or (op_repT.or op_rep1)) op_dMulA (se_var (pv 3)) (se_var (pv 3))) se_int) (se_var (pv 3))) (se_op (op_mulW.or (op_repT.or op_rep1)) op_dMulA se_int (se_sub ix_any op_dIx (se_var (pv 0)) se_int (fun _ _ => rfl))))))
      (ss_cons (sc_set (ps_set (i := 4) sc__law_roll.nd rfl (by first | exact Or.inl rfl | exact Or.inr rfl) (se_op op_mod op_dMod (se_var (pv 4)) se_int)))
      (ss_one (sc_ret (se_bi op_dInt (pe_callTy call_int1 (by rfl) T.b_int PyProof.Rows.boot_int (sa_cons (se_op op_mod op_dMod (se_op op_fdivW op_dDiv (se_var (pv 4)) se_int) (se_var (pv 2))) sa_nil rfl)))))))))))
theorem k__law_ring {f : Addr} {fd : FuncData} (T : Tops P K mg a_InvalidNumber i_InvalidNumber a_TooMany i_TooMany a_InvalidChain a_InvalidHeap) (F : L2.Fun K "_law_ring" "_law_ring" st__law_ring f fd) (gF : mg "_law_ring" = some (.ref f)) (hb : Binds K fd ["_law_dice_here", "_law_most"] []) (c__law_roll : Cal P w K mg base "_law_roll" 2 1 m__law_roll) : Cal P w K mg base "_law_ring" 2 2 m__law_ring :=
  cal_of F gF hb sc__law_ring rfl fun cdv A outer s H E hr gd => (ss_cons (sc_set (ps_set (i := 2) sc__law_ring.nd rfl (by first | exact Or.inl rfl | exact Or.inr rfl) (se_op or_add op_dAdd se_int (se_call c__law_roll takes_def (hr.mono (by decide)) gd (by rfl) (sa_cons (se_var (pv 0)) (sa_cons (se_op op_sub op_dSub (se_var (pv 1)) se_int) sa_nil rfl) rfl) (by decide) rfl rfl))))
      (ss_one (sc_ret (se_tup (sa_cons (se_var (pv 2)) (sa_cons (se_op or_add op_dAdd se_int (se_call c__law_roll takes_def (hr.mono (by decide)) gd (by rfl) (sa_cons (se_var (pv 0)) (sa_cons (se_op op_sub op_dSub (se_var (pv 2)) se_int) sa_nil rfl) rfl) (by decide) rfl rfl)) sa_nil rfl) rfl)))))
theorem k__law_one_of {f : Addr} {fd : FuncData} (T : Tops P K mg a_InvalidNumber i_InvalidNumber a_TooMany i_TooMany a_InvalidChain a_InvalidHeap) (F : L2.Fun K "_law_one_of" "_law_one_of" st__law_one_of f fd) (gF : mg "_law_one_of" = some (.ref f)) (hb : Binds K fd ["_law_dice_here", "_law_items"] []) (c__law_roll : Cal P w K mg base "_law_roll" 2 1 m__law_roll) : Cal P w K mg base "_law_one_of" 2 2 m__law_one_of :=
  cal_of F gF hb sc__law_one_of rfl fun cdv A outer s H E hr gd => (ss_one (sc_ret (se_sub ix_any op_dIx (se_var (pv 1)) (se_call c__law_roll takes_def (hr.mono (by decide)) gd (by rfl) (sa_cons (se_var (pv 0)) (sa_cons (se_bi op_dLen (pe_callB call_len_seq (by rfl) T.b_len PySem.boot_len (sa_cons (se_var (pv 1)) sa_nil rfl))) sa_nil rfl) rfl) (by decide) rfl rfl) (fun _ _ => rfl))))
theorem k__law_common {f : Addr} {fd : FuncData} (T : Tops P K mg a_InvalidNumber i_InvalidNumber a_TooMany i_TooMany a_InvalidChain a_InvalidHeap) (F : L2.Fun K "_law_common" "_law_common" st__law_common f fd) (gF : mg "_law_common" = some (.ref f)) (hb : Binds K fd ["_law_one", "_law_other"] [])  : Cal P w K mg base "_law_common" 2 1 m__law_common :=
  cal_of F gF hb sc__law_common rfl fun cdv A outer s H E hr gd => (ss_cons (sc_while 100 (passes_of rfl) (sb_cmp (op_neD hr.units) op_dNe (se_var (pv 1)) se_int (nomark _)) (ss_one (sc_par (ps_par (i := 0) (j := 1) rfl sc__law_common.nd rfl rfl (by decide) rfl rfl (sa_cons (se_var (pv 1)) (sa_cons (se_op op_mod op_dMod (se_var (pv 0)) (se_var (pv 1))) sa_nil rfl) rfl) rfl))))
      (ss_one (sc_ret (se_var (pv 0)))))
theorem k__law_ring_of {f : Addr} {fd : FuncData} (T : Tops P K mg a_InvalidNumber i_InvalidNumber a_TooMany i_TooMany a_InvalidChain a_InvalidHeap) (F : L2.Fun K "_law_ring_of" "_law_ring_of" st__law_ring_of f fd) (gF : mg "_law_ring_of" = some (.ref f)) (hb : Binds K fd ["_law_dice_here", "_law_k", "_law_times"] []) (c__law_roll : Cal P w K mg base "_law_roll" 2 1 m__law_roll) (c__law_one_of : Cal P w K mg base "_law_one_of" 2 2 m__law_one_of) (c__law_common : Cal P w K mg base "_law_common" 2 1 m__law_common) : Cal P w K mg base "_law_ring_of" 3 3 m__law_ring_of :=
  cal_of F gF hb sc__law_ring_of rfl fun cdv A outer s H E hr gd => (ss_cons (sc_set (ps_set (i := 3) sc__law_ring_of.nd rfl (by first | exact Or.inl rfl | exact Or.inr rfl) (se_op or_add op_dAdd se_int (se_call c__law_roll takes_def (hr.mono (by decide)) gd (by rfl) (sa_cons (se_var (pv 0)) (sa_cons (se_var (pv 2)) sa_nil rfl) rfl) (by decide) rfl rfl))))
      (ss_cons (by first | exact sc_setL (fun _ _ _ q => goLc (by decide) (gN_len _) (goF q)) (ps_setLc (i := 4) (own := [("_law_one", 5)]) (g := gG _ _ none (gN 5)) rfl sc__law_ring_of.nd rfl rfl (sw_true rfl rfl rfl (by decide +kernel)) (si_r2 (pi_range2 (by rfl) T.b_range (sa_cons se_int (sa_cons (se_var (pv 1)) sa_nil rfl) rfl))) (blkOk_by (N := N__law_ring_of) (sc := defScope st__law_ring_of) (by decide +kernel)) (fun _ _ _ _ _ => (sg_name (W := W0) (pg_name sc__law_ring_of.nd rfl (by first | exact Or.inl rfl | exact Or.inr rfl)))) (fun _ _ _ _ _ => (pts_one (sb_cmp (op_eqD hr.units) op_dEq (se_call c__law_common takes_none5 (hr.mono (by decide)) gd (by rfl) (sa_cons (se_var (pv 1)) (sa_cons (se_var (pv 5)) sa_nil rfl) rfl) (by decide) rfl rfl) se_int (nomark _)))) (fun _ _ _ _ _ => (se_var (pv 5)))) | exact sc_set (ps_set (i := 4) sc__law_ring_of.nd rfl (by first | exact Or.inl rfl | exact Or.inr rfl) (se_F (sl_lc (by decide) (gN_len _) (pe_lc (own := [("_law_one", 5)]) (g := gG _ _ none (gN 5)) rfl sc__law_ring_of.nd (si_r2 (pi_range2 (by rfl) T.b_range (sa_cons se_int (sa_cons (se_var (pv 1)) sa_nil rfl) rfl))) (blkOk_by (N := N__law_ring_of) (sc := defScope st__law_ring_of) (by decide +kernel)) (fun _ _ _ _ _ => (sg_name (W := W0) (pg_name sc__law_ring_of.nd rfl (by first | exact Or.inl rfl | exact Or.inr rfl)))) (fun _ _ _ _ _ => (pts_one (sb_cmp (op_eqD hr.units) op_dEq (se_call c__law_common takes_none5 (hr.mono (by decide)) gd (by rfl) (sa_cons (se_var (pv 1)) (sa_cons (se_var (pv 5)) sa_nil rfl) rfl) (by decide) rfl rfl) se_int (nomark _)))) (fun _ _ _ _ _ => (se_var (pv 5))))))))
      (ss_one (sc_ret (se_tup (sa_cons (se_op (op_mulW.or (op_repT.or op_rep1)) op_dMulA (se_var (pv 1)) (se_var (pv 3))) (sa_cons (se_op (op_mulW.or (op_repT.or op_rep1)) op_dMulA (se_var (pv 3)) (se_call c__law_one_of takes_def (hr.mono (by decide)) gd (by rfl) (sa_cons (se_var (pv 0)) (sa_cons (se_var (pv 4)) sa_nil rfl) rfl) (by decide) rfl rfl)) sa_nil rfl) rfl))))))
theorem k__law_chain {f : Addr} {fd : FuncData} (T : Tops P K mg a_InvalidNumber i_InvalidNumber a_TooMany i_TooMany a_InvalidChain a_InvalidHeap) (F : L2.Fun K "_law_chain" "_law_chain" st__law_chain f fd) (gF : mg "_law_chain" = some (.ref f)) (hb : Binds K fd ["_law_dice_here", "_law_rings", "_law_most"] []) (c__law_roll : Cal P w K mg base "_law_roll" 2 1 m__law_roll) (c__law_ring : Cal P w K mg base "_law_ring" 2 2 m__law_ring) (c__law_ring_of : Cal P w K mg base "_law_ring_of" 3 3 m__law_ring_of) : Cal P w K mg base "_law_chain" 3 4 m__law_chain :=
  cal_of F gF hb sc__law_chain rfl fun cdv A outer s H E hr gd => (ss_cons (sc_if (sb_cmp (op_eqD hr.units) op_dEq (se_call c__law_roll takes_def (hr.mono (by decide)) gd (by rfl) (sa_cons (se_var (pv 0)) (sa_cons se_int sa_nil rfl) rfl) (by decide) rfl rfl) se_int (nomark _)) (ss_cons (sc_set (ps_set (i := 3) sc__law_chain.nd rfl (by first | exact Or.inl rfl | exact Or.inr rfl) (se_op or_add op_dAdd se_int (se_call c__law_roll takes_def (hr.mono (by decide)) gd (by rfl) (sa_cons (se_var (pv 0)) (sa_cons (se_bi op_dMin2 (pe_callB (call_min2 rfl) (by rfl) T.b_min PyProof.Rows.boot_min (sa_cons se_int (sa_cons (se_op op_sub op_dSub (se_var (pv 2)) se_int) sa_nil rfl) rfl))) sa_nil rfl) rfl) (by decide) rfl rfl))))
      (ss_one (sc_ret (se_bi op_dTuple (pe_callTy call_tuple_of (by rfl) T.b_tuple PyProof.Rows.boot_tuple (sa_cons (se_F (sl_lc (by decide) (gN_len _) (pe_lc (own := [("_law_turn", 4)]) (g := gG _ _ none (gN 4)) rfl sc__law_chain.nd (si_r1 (pi_range1 (by rfl) T.b_range (sa_cons (se_var (pv 1)) sa_nil rfl))) (blkOk_by (N := N__law_chain) (sc := defScope st__law_chain) (by decide +kernel)) (fun _ _ _ _ _ => (sg_name (W := W0) (pg_name sc__law_chain.nd rfl (by first | exact Or.inl rfl | exact Or.inr rfl)))) (fun _ _ _ _ _ => st_nil) (fun _ _ _ _ _ => (se_call c__law_ring_of takes_none5 (hr.mono (by decide)) gd (by rfl) (sa_cons (se_var (pv 0)) (sa_cons (se_var (pv 3)) (sa_cons (se_op op_fdivW op_dDiv (se_var (pv 2)) (se_var (pv 3))) sa_nil rfl) rfl) rfl) (by decide) rfl rfl))))) sa_nil rfl)))))) ss_nil)
      (ss_one (sc_ret (se_bi op_dTuple (pe_callTy call_tuple_of (by rfl) T.b_tuple PyProof.Rows.boot_tuple (sa_cons (se_F (sl_lc (by decide) (gN_len _) (pe_lc (own := [("_law_turn", 4)]) (g := gG _ _ none (gN 4)) rfl sc__law_chain.nd (si_r1 (pi_range1 (by rfl) T.b_range (sa_cons (se_var (pv 1)) sa_nil rfl))) (blkOk_by (N := N__law_chain) (sc := defScope st__law_chain) (by decide +kernel)) (fun _ _ _ _ _ => (sg_name (W := W0) (pg_name sc__law_chain.nd rfl (by first | exact Or.inl rfl | exact Or.inr rfl)))) (fun _ _ _ _ _ => st_nil) (fun _ _ _ _ _ => (se_call c__law_ring takes_none5 (hr.mono (by decide)) gd (by rfl) (sa_cons (se_var (pv 0)) (sa_cons (se_var (pv 2)) sa_nil rfl) rfl) (by decide) rfl rfl))))) sa_nil rfl))))))
theorem k__law_no_chains {f : Addr} {fd : FuncData} (T : Tops P K mg a_InvalidNumber i_InvalidNumber a_TooMany i_TooMany a_InvalidChain a_InvalidHeap) (F : L2.Fun K "_law_no_chains" "_law_no_chains" st__law_no_chains f fd) (gF : mg "_law_no_chains" = some (.ref f)) (hb : Binds K fd ["_law_dice_here"] []) (c__law_ring : Cal P w K mg base "_law_ring" 2 2 m__law_ring) : Cal P w K mg base "_law_no_chains" 1 3 m__law_no_chains :=
  cal_of F gF hb sc__law_no_chains rfl fun cdv A outer s H E hr gd => (ss_cons (sc_set (ps_set (i := 1) sc__law_no_chains.nd rfl (by first | exact Or.inl rfl | exact Or.inr rfl) (se_call c__law_ring takes_def (hr.mono (by decide)) gd (by rfl) (sa_cons (se_var (pv 0)) (sa_cons se_int sa_nil rfl) rfl) (by decide) rfl rfl)))
      (ss_cons (sc_set (ps_set (i := 2) sc__law_no_chains.nd rfl (by first | exact Or.inl rfl | exact Or.inr rfl) (se_F (sl_lst (sa_cons se_non (sa_cons se_int (sa_cons (se_tup sa_nil) (sa_cons se_str (sa_cons (se_var (pv 1)) (sa_cons (se_F (sl_lst (sa_cons (se_var (pv 1)) sa_nil rfl))) (sa_cons (se_op (op_mulW.or (op_repT.or op_rep1)) op_dMulA (se_tup (sa_cons (se_var (pv 1)) sa_nil rfl)) se_int) (sa_cons (se_tup (sa_cons (se_tup (sa_cons se_int (sa_cons se_int sa_nil rfl) rfl)) sa_nil rfl)) (sa_cons (se_tup (sa_cons (se_tup (sa_cons se_int (sa_cons se_int sa_nil rfl) rfl)) sa_nil rfl)) (sa_cons (se_tup (sa_cons (se_tup (sa_cons se_int (sa_cons se_int sa_nil rfl) rfl)) sa_nil rfl)) (sa_cons (se_tup (sa_cons (se_tup (sa_cons se_int (sa_cons se_int sa_nil rfl) rfl)) sa_nil rfl)) (sa_cons (se_tup (sa_cons (se_F (sl_ls (pe_callTy call_list_of (by rfl) T.b_list PyProof.Rows.boot_list (sa_cons (se_var (pv 1)) sa_nil rfl)))) sa_nil rfl)) sa_nil rfl) rfl) rfl) rfl) rfl) rfl) rfl) rfl) rfl) rfl) rfl) rfl)))))
      (ss_one (sc_ret (se_op or_add op_dAdd (se_var (pv 2)) (se_F (sl_lst (sa_cons (se_tup (sa_cons (se_tup (sa_cons (se_sub ix_any op_dIx (se_var (pv 1)) se_int (fun _ _ => rfl)) (sa_cons se_bl sa_nil rfl) rfl)) sa_nil rfl)) (sa_cons (se_tup (sa_cons (se_var (pv 1)) (sa_cons se_non sa_nil rfl) rfl)) (sa_cons (se_tup (sa_cons (se_tup (sa_cons se_int (sa_cons se_int (sa_cons se_int sa_nil rfl) rfl) rfl)) sa_nil rfl)) (sa_cons (se_tup (sa_cons (se_tup (sa_cons se_int sa_nil rfl)) sa_nil rfl)) (sa_cons (se_dispK (ps := [(S.val (.int (0)), xV 1)]) (pps_cons se_int (se_var (pv 1)) pps_nil) rfl rfl (by simp) (by decide)) (sa_cons (se_tup (sa_cons (se_tup (sa_cons se_str (sa_cons se_int sa_nil rfl) rfl)) sa_nil rfl)) (sa_cons (se_tup (sa_cons (se_tup (sa_cons (se_op op_powW op_dPow se_int se_int) (sa_cons se_int sa_nil rfl) rfl)) sa_nil rfl)) sa_nil rfl) rfl) rfl) rfl) rfl) rfl) rfl))))))))
theorem k__law_no_heaps {f : Addr} {fd : FuncData} (T : Tops P K mg a_InvalidNumber i_InvalidNumber a_TooMany i_TooMany a_InvalidChain a_InvalidHeap) (F : L2.Fun K "_law_no_heaps" "_law_no_heaps" st__law_no_heaps f fd) (gF : mg "_law_no_heaps" = some (.ref f)) (hb : Binds K fd [] [])  : Cal P w K mg base "_law_no_heaps" 0 1 m__law_no_heaps :=
  cal_of F gF hb sc__law_no_heaps rfl fun cdv A outer s H E hr gd => (ss_cons (sc_set (ps_set (i := 0) sc__law_no_heaps.nd rfl (by first | exact Or.inl rfl | exact Or.inr rfl) (se_F (sl_lst (sa_cons se_non (sa_cons se_int (sa_cons se_str (sa_cons (se_F (sl_lst (sa_cons se_int (sa_cons se_int sa_nil rfl) rfl))) (sa_cons (se_tup (sa_cons se_int (sa_cons se_int sa_nil rfl) rfl)) (sa_cons (se_tup (sa_cons se_int (sa_cons se_int sa_nil rfl) rfl)) (sa_cons (se_tup (sa_cons se_int (sa_cons (se_un un_neg op_dNeg se_int) sa_nil rfl) rfl)) (sa_cons (se_tup (sa_cons se_int (sa_cons se_non sa_nil rfl) rfl)) (sa_cons (se_tup (sa_cons se_bl sa_nil rfl)) (sa_cons (se_tup (sa_cons se_int (sa_cons (se_tup (sa_cons se_int sa_nil rfl)) sa_nil rfl) rfl)) (sa_cons (se_dispK (ps := [(S.val (.int (2)), S.val (.int (1)))]) (pps_cons se_int se_int pps_nil) rfl rfl (by simp) (by decide)) (sa_cons (se_op (op_mulW.or (op_repT.or op_rep1)) op_dMulA (se_tup (sa_cons se_int sa_nil rfl)) se_int) (sa_cons (se_tup (sa_cons se_int sa_nil rfl)) sa_nil rfl) rfl) rfl) rfl) rfl) rfl) rfl) rfl) rfl) rfl) rfl) rfl) rfl)))))
      (ss_one (sc_ret (se_op or_add op_dAdd (se_var (pv 0)) (se_F (sl_lst (sa_cons (se_tup (sa_cons (se_op op_powW op_dPow se_int se_int) (sa_cons se_int sa_nil rfl) rfl)) (sa_cons (se_tup (sa_cons se_str (sa_cons se_str sa_nil rfl) rfl)) (sa_cons (se_tup (sa_cons (se_tup (sa_cons se_int sa_nil rfl)) (sa_cons (se_tup (sa_cons se_int sa_nil rfl)) sa_nil rfl) rfl)) (sa_cons (se_tup (sa_cons se_int (sa_cons se_int (sa_cons se_int sa_nil rfl) rfl) rfl)) sa_nil rfl) rfl) rfl) rfl)))))))
theorem k_is_ring_in {f : Addr} {fd : FuncData} (T : Tops P K mg a_InvalidNumber i_InvalidNumber a_TooMany i_TooMany a_InvalidChain a_InvalidHeap) (F : L2.Fun K "is_ring_in" "is_ring_in" st_is_ring_in f fd) (gF : mg "is_ring_in" = some (.ref f)) (hb : Binds K fd ["value"] []) (c_is_within : Cal P w K mg base "is_within" 3 2 m_is_within) : Cal P w K mg base "is_ring_in" 1 3 m_is_ring_in :=
  cal_of F gF hb sc_is_ring_in rfl fun cdv A outer s H E hr gd => (ss_cons (sc_if (sb_w (sw_or (sb_not (sb_val (se_bi op_dIsi (pe_callB call_isiY (by rfl) T.b_isinstance PyProof.Rows.boot_isinstance (sa_cons (se_var (pv 0)) (sa_cons (se_ty (pe_bltn (by rfl) T.b_tuple (by decide +kernel) rfl)) sa_nil rfl) rfl))) (fun _ => rfl))) (sw_or (sb_cmp (op_neD hr.units) op_dNe (se_bi op_dLen (pe_callB call_len_seq (by rfl) T.b_len PySem.boot_len (sa_cons (se_var (pv 0)) sa_nil rfl))) se_int (nomark _)) (sw_or1 (sb_not (sb_val (se_call c_is_within takes_def (hr.mono (by decide)) gd (by rfl) (sa_cons (se_sub ix_any op_dIx (se_var (pv 0)) se_int (fun _ _ => rfl)) (sa_cons se_int (sa_cons (se_gintE rfl T.c_MOST_PLACES (by decide)) sa_nil rfl) rfl) rfl) (by decide) rfl rfl) (fun _ => rfl))))))) (ss_one (sc_ret se_bl)) ss_nil)
      (ss_one (sc_ret (se_call c_is_within takes_def (hr.mono (by decide)) gd (by rfl) (sa_cons (se_sub ix_any op_dIx (se_var (pv 0)) se_int (fun _ _ => rfl)) (sa_cons se_int (sa_cons (se_op op_sub op_dSub (se_sub ix_any op_dIx (se_var (pv 0)) se_int (fun _ _ => rfl)) se_int) sa_nil rfl) rfl) rfl) (by decide) rfl rfl))))
theorem k_is_chain_in {f : Addr} {fd : FuncData} (T : Tops P K mg a_InvalidNumber i_InvalidNumber a_TooMany i_TooMany a_InvalidChain a_InvalidHeap) (F : L2.Fun K "is_chain_in" "is_chain_in" st_is_chain_in f fd) (gF : mg "is_chain_in" = some (.ref f)) (hb : Binds K fd ["value"] []) (c_is_ring_in : Cal P w K mg base "is_ring_in" 1 3 m_is_ring_in) : Cal P w K mg base "is_chain_in" 1 4 m_is_chain_in :=
  cal_of F gF hb sc_is_chain_in rfl fun cdv A outer s H E hr gd => (ss_one (sc_ret (se_and (se_bi op_dIsi (pe_callB call_isiY (by rfl) T.b_isinstance PyProof.Rows.boot_isinstance (sa_cons (se_var (pv 0)) (sa_cons (se_ty (pe_bltn (by rfl) T.b_tuple (by decide +kernel) rfl)) sa_nil rfl) rfl))) (se_and (se_chain op_le op_dLe op_le op_dLe se_int (se_bi op_dLen (pe_callB call_len_seq (by rfl) T.b_len PySem.boot_len (sa_cons (se_var (pv 0)) sa_nil rfl))) (se_gintE rfl T.c_MOST_RINGS (by decide)) rfl) (se_one (se_bi op_dAll (pe_callB (cr_all rfl) (by rfl) T.b_all PyProof.Rows.boot_all (sa_cons (se_F (sl_lc (by decide) (gN_len _) (pe_lc (own := [("ring", 1)]) (g := gG _ _ none (gN 1)) rfl sc_is_chain_in.nd (si_val (se_var (pv 0))) (blkOk_by (N := N_is_chain_in) (sc := defScope st_is_chain_in) (by decide +kernel)) (fun _ _ _ _ _ => (sg_name (W := W0) (pg_name sc_is_chain_in.nd rfl (by first | exact Or.inl rfl | exact Or.inr rfl)))) (fun _ _ _ _ _ => st_nil) (fun _ _ _ _ _ => (se_call c_is_ring_in takes_none5 (hr.mono (by decide)) gd (by rfl) (sa_cons (se_var (pv 1)) sa_nil rfl) (by decide) rfl rfl))))) sa_nil rfl))))))))
theorem k_require_chain {f : Addr} {fd : FuncData} (T : Tops P K mg a_InvalidNumber i_InvalidNumber a_TooMany i_TooMany a_InvalidChain a_InvalidHeap) (F : L2.Fun K "require_chain" "require_chain" st_require_chain f fd) (gF : mg "require_chain" = some (.ref f)) (hb : Binds K fd ["value"] []) (c_is_chain_in : Cal P w K mg base "is_chain_in" 1 4 m_is_chain_in) : Cal P w K mg base "require_chain" 1 5 m_require_chain :=
  cal_of F gF hb sc_require_chain rfl fun cdv A outer s H E hr gd => (ss_one (sc_if (sb_not (sb_val (se_call c_is_chain_in takes_def (hr.mono (by decide)) gd (by rfl) (sa_cons (se_var (pv 0)) sa_nil rfl) (by decide) rfl rfl) (fun _ => rfl))) (ss_one (sc_raise rfl takes_def (pmk_own PySem.F.excBase_ValueError T.m_InvalidChain.q T.m_InvalidChain.g T.m_InvalidChain.k (raises_own T.m_InvalidChain.s T.m_InvalidChain.t) rfl) T.m_InvalidChain.g)) ss_nil))
theorem k_cut_counts {f : Addr} {fd : FuncData} (T : Tops P K mg a_InvalidNumber i_InvalidNumber a_TooMany i_TooMany a_InvalidChain a_InvalidHeap) (F : L2.Fun K "cut_counts" "cut_counts" st_cut_counts f fd) (gF : mg "cut_counts" = some (.ref f)) (hb : Binds K fd ["chain", "columns", "rows"] [])  : Cal P w K mg base "cut_counts" 3 1 m_cut_counts :=
  cal_of F gF hb sc_cut_counts rfl fun cdv A outer s H E hr gd => ss_stop
theorem k_classes_by_heap {f : Addr} {fd : FuncData} (T : Tops P K mg a_InvalidNumber i_InvalidNumber a_TooMany i_TooMany a_InvalidChain a_InvalidHeap) (F : L2.Fun K "classes_by_heap" "classes_by_heap" st_classes_by_heap f fd) (gF : mg "classes_by_heap" = some (.ref f)) (hb : Binds K fd ["chain", "columns", "rows"] []) (c_require_chain : Cal P w K mg base "require_chain" 1 5 m_require_chain) (c_cut_counts : Cal P w K mg base "cut_counts" 3 1 m_cut_counts) (c_require_up_to : Cal P w K mg base "require_up_to" 3 3 m_require_up_to) : Cal P w K mg base "classes_by_heap" 3 6 m_classes_by_heap :=
  cal_of F gF hb sc_classes_by_heap rfl fun cdv A outer s H E hr gd => (ss_cons (sc_exp (se_call c_require_chain takes_def (hr.mono (by decide)) gd (by rfl) (sa_cons (se_var (pv 0)) sa_nil rfl) (by decide) rfl rfl) rfl)
      (ss_cons (sc_exp (se_call c_require_up_to takes_def (hr.mono (by decide)) gd (by rfl) (sa_cons (se_var (pv 1)) (sa_cons se_int (sa_cons (se_gintE rfl T.c_MOST_CUT (by decide)) sa_nil rfl) rfl) rfl) (by decide) rfl rfl) rfl)
      (ss_cons (sc_exp (se_call c_require_up_to takes_def (hr.mono (by decide)) gd (by rfl) (sa_cons (se_var (pv 2)) (sa_cons se_int (sa_cons (se_gintE rfl T.c_MOST_CUT (by decide)) sa_nil rfl) rfl) rfl) (by decide) rfl rfl) rfl)
      (ss_one (sc_ret (se_call c_cut_counts takes_def (hr.mono (by decide)) gd (by rfl) (sa_cons (se_var (pv 0)) (sa_cons (se_var (pv 1)) (sa_cons (se_var (pv 2)) sa_nil rfl) rfl) rfl) (by decide) rfl rfl))))))
theorem k_count_at_least {f : Addr} {fd : FuncData} (T : Tops P K mg a_InvalidNumber i_InvalidNumber a_TooMany i_TooMany a_InvalidChain a_InvalidHeap) (F : L2.Fun K "count_at_least" "count_at_least" st_count_at_least f fd) (gF : mg "count_at_least" = some (.ref f)) (hb : Binds K fd ["chain", "degree", "k"] [])  : Cal P w K mg base "count_at_least" 3 1 m_count_at_least :=
  cal_of F gF hb sc_count_at_least rfl fun cdv A outer s H E hr gd => ss_stop
theorem k_is_integer {f : Addr} {fd : FuncData} (T : Tops P K mg a_InvalidNumber i_InvalidNumber a_TooMany i_TooMany a_InvalidChain a_InvalidHeap) (F : L2.Fun K "is_integer" "is_integer" st_is_integer f fd) (gF : mg "is_integer" = some (.ref f)) (hb : Binds K fd ["value"] []) (c_is_whole : Cal P w K mg base "is_whole" 1 1 m_is_whole) : Cal P w K mg base "is_integer" 1 2 m_is_integer :=
  cal_of F gF hb sc_is_integer rfl fun cdv A outer s H E hr gd => (ss_one (sc_ret (se_and (se_call c_is_whole takes_def (hr.mono (by decide)) gd (by rfl) (sa_cons (se_var (pv 0)) sa_nil rfl) (by decide) rfl rfl) (se_one (se_cmp op_lt op_dLt (se_bi op_dAbs (pe_callB call_abs (by rfl) T.b_abs PyProof.Rows.boot_abs (sa_cons (se_var (pv 0)) sa_nil rfl))) (se_gintE rfl T.c_SIXTY_DIGITS (by decide)) (nomark _))))))
theorem k_require_degree {f : Addr} {fd : FuncData} (T : Tops P K mg a_InvalidNumber i_InvalidNumber a_TooMany i_TooMany a_InvalidChain a_InvalidHeap) (F : L2.Fun K "require_degree" "require_degree" st_require_degree f fd) (gF : mg "require_degree" = some (.ref f)) (hb : Binds K fd ["degree"] []) (c_is_integer : Cal P w K mg base "is_integer" 1 2 m_is_integer) : Cal P w K mg base "require_degree" 1 3 m_require_degree :=
  cal_of F gF hb sc_require_degree rfl fun cdv A outer s H E hr gd => (ss_one (sc_if (sb_not (sb_val (se_call c_is_integer takes_def (hr.mono (by decide)) gd (by rfl) (sa_cons (se_var (pv 0)) sa_nil rfl) (by decide) rfl rfl) (fun _ => rfl))) (ss_one (sc_raiseF rfl takes_def (pmk_sup kxs_IndexError PySem.F.excBase_IndexError PySem.F.store_IndexError T.t_InvalidNumber SmX.nm_given (k := 0) (hr.mono (by decide)) (sa_cons (se_var (pv 0)) sa_nil rfl) rfl (by decide) rfl rfl) T.t_InvalidNumber.gC)) ss_nil))
theorem k_classes_at_least {f : Addr} {fd : FuncData} (T : Tops P K mg a_InvalidNumber i_InvalidNumber a_TooMany i_TooMany a_InvalidChain a_InvalidHeap) (F : L2.Fun K "classes_at_least" "classes_at_least" st_classes_at_least f fd) (gF : mg "classes_at_least" = some (.ref f)) (hb : Binds K fd ["chain", "degree", "k"] []) (c_require_chain : Cal P w K mg base "require_chain" 1 5 m_require_chain) (c_count_at_least : Cal P w K mg base "count_at_least" 3 1 m_count_at_least) (c_require_up_to : Cal P w K mg base "require_up_to" 3 3 m_require_up_to) (c_require_degree : Cal P w K mg base "require_degree" 1 3 m_require_degree) : Cal P w K mg base "classes_at_least" 3 6 m_classes_at_least :=
  cal_of F gF hb sc_classes_at_least rfl fun cdv A outer s H E hr gd => (ss_cons (sc_exp (se_call c_require_chain takes_def (hr.mono (by decide)) gd (by rfl) (sa_cons (se_var (pv 0)) sa_nil rfl) (by decide) rfl rfl) rfl)
      (ss_cons (sc_exp (se_call c_require_degree takes_def (hr.mono (by decide)) gd (by rfl) (sa_cons (se_var (pv 1)) sa_nil rfl) (by decide) rfl rfl) rfl)
      (ss_cons (sc_exp (se_call c_require_up_to takes_def (hr.mono (by decide)) gd (by rfl) (sa_cons (se_var (pv 2)) (sa_cons se_int (sa_cons (se_gintE rfl T.c_MOST_RICHNESS (by decide)) sa_nil rfl) rfl) rfl) (by decide) rfl rfl) rfl)
      (ss_one (sc_ret (se_call c_count_at_least takes_def (hr.mono (by decide)) gd (by rfl) (sa_cons (se_var (pv 0)) (sa_cons (se_var (pv 1)) (sa_cons (se_var (pv 2)) sa_nil rfl) rfl) rfl) (by decide) rfl rfl))))))
theorem k_count_by_richness {f : Addr} {fd : FuncData} (T : Tops P K mg a_InvalidNumber i_InvalidNumber a_TooMany i_TooMany a_InvalidChain a_InvalidHeap) (F : L2.Fun K "count_by_richness" "count_by_richness" st_count_by_richness f fd) (gF : mg "count_by_richness" = some (.ref f)) (hb : Binds K fd ["chain", "degree"] [])  : Cal P w K mg base "count_by_richness" 2 1 m_count_by_richness :=
  cal_of F gF hb sc_count_by_richness rfl fun cdv A outer s H E hr gd => ss_stop
theorem k_classes_by_richness {f : Addr} {fd : FuncData} (T : Tops P K mg a_InvalidNumber i_InvalidNumber a_TooMany i_TooMany a_InvalidChain a_InvalidHeap) (F : L2.Fun K "classes_by_richness" "classes_by_richness" st_classes_by_richness f fd) (gF : mg "classes_by_richness" = some (.ref f)) (hb : Binds K fd ["chain", "degree"] []) (c_require_chain : Cal P w K mg base "require_chain" 1 5 m_require_chain) (c_count_by_richness : Cal P w K mg base "count_by_richness" 2 1 m_count_by_richness) (c_require_degree : Cal P w K mg base "require_degree" 1 3 m_require_degree) : Cal P w K mg base "classes_by_richness" 2 6 m_classes_by_richness :=
  cal_of F gF hb sc_classes_by_richness rfl fun cdv A outer s H E hr gd => (ss_cons (sc_exp (se_call c_require_chain takes_def (hr.mono (by decide)) gd (by rfl) (sa_cons (se_var (pv 0)) sa_nil rfl) (by decide) rfl rfl) rfl)
      (ss_cons (sc_exp (se_call c_require_degree takes_def (hr.mono (by decide)) gd (by rfl) (sa_cons (se_var (pv 1)) sa_nil rfl) (by decide) rfl rfl) rfl)
      (ss_one (sc_ret (se_call c_count_by_richness takes_def (hr.mono (by decide)) gd (by rfl) (sa_cons (se_var (pv 0)) (sa_cons (se_var (pv 1)) sa_nil rfl) rfl) (by decide) rfl rfl)))))
theorem k__law_chain_right {f : Addr} {fd : FuncData} (T : Tops P K mg a_InvalidNumber i_InvalidNumber a_TooMany i_TooMany a_InvalidChain a_InvalidHeap)  {cq tq : Addr} (TB : LamX.TabB base mg cq tq) (hm : (tq, ("_law_chain_right" ++ ".<locals>." ++ "<lambda>" : Str)) ∈ Tabs0.T) (hu : ∀ p ∈ Tabs0.T, p.1 = tq → p.2 = ("_law_chain_right" ++ ".<locals>." ++ "<lambda>" : Str))(F : FunC K "_law_chain_right" "_law_chain_right" st__law_chain_right f fd cq) (gF : mg "_law_chain_right" = some (.ref f)) (hb : Binds K fd ["_law_chain_here", "_law_bad"] []) (c_classes_by_heap : Cal P w K mg base "classes_by_heap" 3 6 m_classes_by_heap) (c_classes_at_least : Cal P w K mg base "classes_at_least" 3 6 m_classes_at_least) (c_classes_by_richness : Cal P w K mg base "classes_by_richness" 2 6 m_classes_by_richness) (e__law_heard : EarOk P w K mg base "_law_heard" 2 h__law_heard g__law_heard) : Cal P w K mg base "_law_chain_right" 2 9 m__law_chain_right :=
  cal_ofC F gF hb sc__law_chain_right rfl fun A outer s H E hr gd => (ss_cons (sc_set (ps_set (i := 2) sc__law_chain_right.nd rfl (by first | exact Or.inl rfl | exact Or.inr rfl) (se_C (sl_lst (sa_cons (se_ear (k := 6) e__law_heard (hr.mono (by decide)) gd (by rfl) TB rfl hm hu (LamX.lamS_by (sc := defScope st__law_chain_right) (by decide +kernel)) rfl (fun _ _ _ _ _ => rfl) (fun _ _ _ _ _ _ _ hr gd => (se_call c_classes_by_heap takes_lam (hr.mono (by decide)) gd (by rfl) (sa_cons (se_var (pv 1)) (sa_cons se_non (sa_cons se_non sa_nil rfl) rfl) rfl) (by decide) rfl rfl)) (by decide)) sa_nil rfl)))))
      (ss_cons (sc_exp (se_m op_mAppend (pe_bm PySem.F.plainAttrs_list PySem.F.slot_list_append PySem.F.type_list_append mt_append (se_var (pv 2)) (sa_cons (se_ear (k := 6) e__law_heard (hr.mono (by decide)) gd (by rfl) TB rfl hm hu (LamX.lamS_by (sc := defScope st__law_chain_right) (by decide +kernel)) rfl (fun _ _ _ _ _ => rfl) (fun _ _ _ _ _ _ _ hr gd => (se_call c_classes_at_least takes_lam (hr.mono (by decide)) gd (by rfl) (sa_cons (se_var (pv 1)) (sa_cons se_non (sa_cons se_non sa_nil rfl) rfl) rfl) (by decide) rfl rfl)) (by decide)) sa_nil rfl))) rfl)
      (ss_cons (sc_exp (se_m op_mAppend (pe_bm PySem.F.plainAttrs_list PySem.F.slot_list_append PySem.F.type_list_append mt_append (se_var (pv 2)) (sa_cons (se_ear (k := 6) e__law_heard (hr.mono (by decide)) gd (by rfl) TB rfl hm hu (LamX.lamS_by (sc := defScope st__law_chain_right) (by decide +kernel)) rfl (fun _ _ _ _ _ => rfl) (fun _ _ _ _ _ _ _ hr gd => (se_call c_classes_by_richness takes_lam (hr.mono (by decide)) gd (by rfl) (sa_cons (se_var (pv 1)) (sa_cons se_non sa_nil rfl) rfl) (by decide) rfl rfl)) (by decide)) sa_nil rfl))) rfl)
      (ss_one (sc_ret (se_cmp (op_eqD hr.units) op_dEq (se_var (pv 2)) (se_F (sl_rep (sl_lst (sa_cons se_str sa_nil rfl)) se_int)) (nomark _)))))))
theorem k__law_numbers_right {f : Addr} {fd : FuncData} (T : Tops P K mg a_InvalidNumber i_InvalidNumber a_TooMany i_TooMany a_InvalidChain a_InvalidHeap)  {cq tq : Addr} (TB : LamX.TabB base mg cq tq) (hm : (tq, ("_law_numbers_right" ++ ".<locals>." ++ "<lambda>" : Str)) ∈ Tabs0.T) (hu : ∀ p ∈ Tabs0.T, p.1 = tq → p.2 = ("_law_numbers_right" ++ ".<locals>." ++ "<lambda>" : Str))(F : FunC K "_law_numbers_right" "_law_numbers_right" st__law_numbers_right f fd cq) (gF : mg "_law_numbers_right" = some (.ref f)) (hb : Binds K fd ["_law_chain_here"] []) (c_classes_by_heap : Cal P w K mg base "classes_by_heap" 3 6 m_classes_by_heap) (c_classes_at_least : Cal P w K mg base "classes_at_least" 3 6 m_classes_at_least) (c_classes_by_richness : Cal P w K mg base "classes_by_richness" 2 6 m_classes_by_richness) (c_doubled_fillings : Cal P w K mg base "doubled_fillings" 2 4 m_doubled_fillings) (e__law_heard : EarOk P w K mg base "_law_heard" 2 h__law_heard g__law_heard) : Cal P w K mg base "_law_numbers_right" 1 9 m__law_numbers_right :=
  cal_ofC F gF hb sc__law_numbers_right rfl fun A outer s H E hr gd => (ss_cons (sc_forC (passes_of rfl) rfl (si_val (se_tup (sa_cons (se_un un_neg op_dNeg se_int) (sa_cons se_int (sa_cons se_bl (sa_cons se_non (sa_cons se_str (sa_cons (se_tup (sa_cons se_int sa_nil rfl)) (sa_cons (se_op op_powW op_dPow se_int se_int) sa_nil rfl) rfl) rfl) rfl) rfl) rfl) rfl))) (sg_name (W := _) (pg_name sc__law_numbers_right.nd rfl (by first | exact Or.inl rfl | exact Or.inr rfl))) (ss_cons (sc_set (ps_set (i := 2) sc__law_numbers_right.nd rfl (by first | exact Or.inl rfl | exact Or.inr rfl) (se_C (sl_lst (sa_cons (se_ear (k := 6) e__law_heard (hr.mono (by decide)) gd (by rfl) TB rfl hm hu (LamX.lamS_by (sc := defScope st__law_numbers_right) (by decide +kernel)) rfl (fun _ _ _ _ _ => rfl) (fun _ _ _ _ _ _ _ hr gd => (se_call c_classes_by_heap takes_lam (hr.mono (by decide)) gd (by rfl) (sa_cons (se_var (pv 0)) (sa_cons (se_var (pv 1)) (sa_cons se_non sa_nil rfl) rfl) rfl) (by decide) rfl rfl)) (by decide)) sa_nil rfl)))))
      (ss_cons (sc_exp (se_m op_mAppend (pe_bm PySem.F.plainAttrs_list PySem.F.slot_list_append PySem.F.type_list_append mt_append (se_var (pv 2)) (sa_cons (se_ear (k := 6) e__law_heard (hr.mono (by decide)) gd (by rfl) TB rfl hm hu (LamX.lamS_by (sc := defScope st__law_numbers_right) (by decide +kernel)) rfl (fun _ _ _ _ _ => rfl) (fun _ _ _ _ _ _ _ hr gd => (se_call c_classes_by_heap takes_lam (hr.mono (by decide)) gd (by rfl) (sa_cons (se_var (pv 0)) (sa_cons se_int (sa_cons (se_var (pv 1)) sa_nil rfl) rfl) rfl) (by decide) rfl rfl)) (by decide)) sa_nil rfl))) rfl)
      (ss_one (sc_if (sb_cmp (op_neD hr.units) op_dNe (se_var (pv 2)) (se_F (sl_rep (sl_lst (sa_cons (se_op or_add op_dAdd se_str (se_repr (pe_callB (cr_repr gd (un_of hr)) (by rfl) T.b_repr PyProof.Rows.boot_repr (sa_cons (se_var (pv 1)) sa_nil rfl)))) sa_nil rfl)) se_int)) (nomark _)) (ss_one (sc_ret se_bl)) ss_nil)))) (by intro _; rfl))
      (ss_cons (sc_forC (passes_of rfl) rfl (si_val (se_tup (sa_cons se_bl (sa_cons se_non (sa_cons se_str (sa_cons (se_tup (sa_cons se_int sa_nil rfl)) (sa_cons (se_F (sl_lst sa_nil)) (sa_cons (se_op (op_mulW.or (op_repT.or op_rep1)) op_dMulA (se_op op_powW op_dPow se_int se_int) (se_op op_powW op_dPow se_int se_int)) (sa_cons (se_op op_sub op_dSub se_int (se_op (op_mulW.or (op_repT.or op_rep1)) op_dMulA (se_op op_powW op_dPow se_int se_int) (se_op op_powW op_dPow se_int se_int))) sa_nil rfl) rfl) rfl) rfl) rfl) rfl) rfl))) (sg_name (W := _) (pg_name sc__law_numbers_right.nd rfl (by first | exact Or.inl rfl | exact Or.inr rfl))) (ss_cons (sc_set (ps_set (i := 2) sc__law_numbers_right.nd rfl (by first | exact Or.inl rfl | exact Or.inr rfl) (se_C (sl_lst (sa_cons (se_ear (k := 6) e__law_heard (hr.mono (by decide)) gd (by rfl) TB rfl hm hu (LamX.lamS_by (sc := defScope st__law_numbers_right) (by decide +kernel)) rfl (fun _ _ _ _ _ => rfl) (fun _ _ _ _ _ _ _ hr gd => (se_call c_classes_at_least takes_lam (hr.mono (by decide)) gd (by rfl) (sa_cons (se_var (pv 0)) (sa_cons (se_var (pv 1)) (sa_cons se_non sa_nil rfl) rfl) rfl) (by decide) rfl rfl)) (by decide)) sa_nil rfl)))))
      (ss_cons (sc_exp (se_m op_mAppend (pe_bm PySem.F.plainAttrs_list PySem.F.slot_list_append PySem.F.type_list_append mt_append (se_var (pv 2)) (sa_cons (se_ear (k := 6) e__law_heard (hr.mono (by decide)) gd (by rfl) TB rfl hm hu (LamX.lamS_by (sc := defScope st__law_numbers_right) (by decide +kernel)) rfl (fun _ _ _ _ _ => rfl) (fun _ _ _ _ _ _ _ hr gd => (se_call c_classes_by_richness takes_lam (hr.mono (by decide)) gd (by rfl) (sa_cons (se_var (pv 0)) (sa_cons (se_var (pv 1)) sa_nil rfl) rfl) (by decide) rfl rfl)) (by decide)) sa_nil rfl))) rfl)
      (ss_one (sc_if (sb_cmp (op_neD hr.units) op_dNe (se_var (pv 2)) (se_F (sl_rep (sl_lst (sa_cons (se_op or_add op_dAdd se_str (se_repr (pe_callB (cr_repr gd (un_of hr)) (by rfl) T.b_repr PyProof.Rows.boot_repr (sa_cons (se_var (pv 1)) sa_nil rfl)))) sa_nil rfl)) se_int)) (nomark _)) (ss_one (sc_ret se_bl)) ss_nil)))) (by intro _; rfl))
      (ss_cons (sc_forC (passes_of rfl) rfl (si_val (se_tup (sa_cons (se_un un_neg op_dNeg se_int) (sa_cons se_int (sa_cons se_bl (sa_cons se_non (sa_cons se_str (sa_cons (se_F (sl_lst (sa_cons se_int sa_nil rfl))) (sa_cons (se_op op_powW op_dPow se_int se_int) sa_nil rfl) rfl) rfl) rfl) rfl) rfl) rfl))) (sg_name (W := _) (pg_name sc__law_numbers_right.nd rfl (by first | exact Or.inl rfl | exact Or.inr rfl))) (ss_one (sc_if (sb_cmp (op_neD hr.units) op_dNe (se_ear (k := 6) e__law_heard (hr.mono (by decide)) gd (by rfl) TB rfl hm hu (LamX.lamS_by (sc := defScope st__law_numbers_right) (by decide +kernel)) rfl (fun _ _ _ _ _ => rfl) (fun _ _ _ _ _ _ _ hr gd => (se_call c_classes_at_least takes_lam (hr.mono (by decide)) gd (by rfl) (sa_cons (se_var (pv 0)) (sa_cons se_int (sa_cons (se_var (pv 1)) sa_nil rfl) rfl) rfl) (by decide) rfl rfl)) (by decide)) (se_op or_add op_dAdd se_str (se_repr (pe_callB (cr_repr gd (un_of hr)) (by rfl) T.b_repr PyProof.Rows.boot_repr (sa_cons (se_var (pv 1)) sa_nil rfl)))) (nomark _)) (ss_one (sc_ret se_bl)) ss_nil)) (by intro _; rfl))
      (ss_cons (sc_forC (passes_of rfl) rfl (si_val (se_tup (sa_cons se_int (sa_cons se_int (sa_cons (se_un un_neg op_dNeg se_int) (sa_cons se_bl (sa_cons se_non (sa_cons se_str (sa_cons (se_tup (sa_cons se_int sa_nil rfl)) sa_nil rfl) rfl) rfl) rfl) rfl) rfl) rfl))) (sg_name (W := _) (pg_name sc__law_numbers_right.nd rfl (by first | exact Or.inl rfl | exact Or.inr rfl))) (ss_cons (sc_set (ps_set (i := 2) sc__law_numbers_right.nd rfl (by first | exact Or.inl rfl | exact Or.inr rfl) (se_C (sl_lst (sa_cons (se_ear (k := 4) e__law_heard (hr.mono (by decide)) gd (by rfl) TB rfl hm hu (LamX.lamS_by (sc := defScope st__law_numbers_right) (by decide +kernel)) rfl (fun _ _ _ _ _ => rfl) (fun _ _ _ _ _ _ _ hr gd => (se_call c_doubled_fillings takes_lam (hr.mono (by decide)) gd (by rfl) (sa_cons (se_var (pv 1)) (sa_cons se_non sa_nil rfl) rfl) (by decide) rfl rfl)) (by decide)) sa_nil rfl)))))
      (ss_cons (sc_exp (se_m op_mAppend (pe_bm PySem.F.plainAttrs_list PySem.F.slot_list_append PySem.F.type_list_append mt_append (se_var (pv 2)) (sa_cons (se_ear (k := 4) e__law_heard (hr.mono (by decide)) gd (by rfl) TB rfl hm hu (LamX.lamS_by (sc := defScope st__law_numbers_right) (by decide +kernel)) rfl (fun _ _ _ _ _ => rfl) (fun _ _ _ _ _ _ _ hr gd => (se_call c_doubled_fillings takes_lam (hr.mono (by decide)) gd (by rfl) (sa_cons se_int (sa_cons (se_var (pv 1)) sa_nil rfl) rfl) (by decide) rfl rfl)) (by decide)) sa_nil rfl))) rfl)
      (ss_one (sc_if (sb_cmp (op_neD hr.units) op_dNe (se_var (pv 2)) (se_F (sl_rep (sl_lst (sa_cons (se_op or_add op_dAdd se_str (se_repr (pe_callB (cr_repr gd (un_of hr)) (by rfl) T.b_repr PyProof.Rows.boot_repr (sa_cons (se_var (pv 1)) sa_nil rfl)))) sa_nil rfl)) se_int)) (nomark _)) (ss_one (sc_ret se_bl)) ss_nil)))) (by intro _; rfl))
      (ss_one (sc_ret se_bl))))))
end
theorem ok_law [Tabs0] {P : Program} {w : World} {K : PySem.W.Frag} {mg : Str → Option Value} {base : Heap} {a_InvalidNumber i_InvalidNumber a_TooMany i_TooMany a_InvalidChain a_InvalidHeap : Addr} {f : Addr} {fd : FuncData} (T : Tops P K mg a_InvalidNumber i_InvalidNumber a_TooMany i_TooMany a_InvalidChain a_InvalidHeap) {cq tq : Addr} (TB : LamX.TabB base mg cq tq) (hm : (tq, ("law" ++ ".<locals>." ++ "<lambda>" : Str)) ∈ Tabs0.T) (hu : ∀ p ∈ Tabs0.T, p.1 = tq → p.2 = ("law" ++ ".<locals>." ++ "<lambda>" : Str)) (F : FunC K "law" "law" st_law f fd cq) (c_standard_fillings : Cal P w K mg base "standard_fillings" 1 5 m_standard_fillings) (c_doubled_fillings : Cal P w K mg base "doubled_fillings" 2 4 m_doubled_fillings) (c__law_dice : Cal P w K mg base "_law_dice" 2 1 m__law_dice) (c__law_roll : Cal P w K mg base "_law_roll" 2 1 m__law_roll) (c__law_chain : Cal P w K mg base "_law_chain" 3 4 m__law_chain) (c__law_no_chains : Cal P w K mg base "_law_no_chains" 1 3 m__law_no_chains) (c__law_no_heaps : Cal P w K mg base "_law_no_heaps" 0 1 m__law_no_heaps) (c__law_chain_right : Cal P w K mg base "_law_chain_right" 2 9 m__law_chain_right) (c__law_numbers_right : Cal P w K mg base "_law_numbers_right" 1 9 m__law_numbers_right) (e__law_heard : EarOk P w K mg base "_law_heard" 2 h__law_heard g__law_heard) : FnG P w K mg base 10 f fd ["_law_script"] (spS K mg 1 m_law) :=
  fnG_ofC F sc_law rfl fun A outer s H E hr gd => (ss_cons (sc_forC (passes_of rfl) rfl (si_r1 (pi_range1 (by rfl) T.b_range (sa_cons (se_bi op_dMax2 (pe_callB (call_max2 rfl) (by rfl) T.b_max PyProof.Rows.boot_max (sa_cons se_int (sa_cons (se_bi op_dMin2 (pe_callB (call_min2 rfl) (by rfl) T.b_min PyProof.Rows.boot_min (sa_cons (se_bi op_dLen (pe_callB call_len_seq (by rfl) T.b_len PySem.boot_len (sa_cons (se_var (pv 0)) sa_nil rfl))) (sa_cons se_int sa_nil rfl) rfl))) sa_nil rfl) rfl))) sa_nil rfl))) (sg_name (W := _) (pg_name sc_law.nd rfl (by first | exact Or.inl rfl | exact Or.inr rfl))) (ss_cons (sc_set (ps_set (i := 2) sc_law.nd rfl (by first | exact Or.inl rfl | exact Or.inr rfl) (se_call c__law_dice takes_def (hr.mono (by decide)) gd (by rfl) (sa_cons (se_var (pv 0)) (sa_cons (se_var (pv 1)) sa_nil rfl) rfl) (by decide) rfl rfl)))
      (ss_cons (sc_set (ps_set (i := 3) sc_law.nd rfl (by first | exact Or.inl rfl | exact Or.inr rfl) (se_call c__law_chain takes_def (hr.mono (by decide)) gd (by rfl) (sa_cons (se_var (pv 2)) (sa_cons (se_op or_add op_dAdd se_int (se_call c__law_roll takes_def (hr.mono (by decide)) gd (by rfl) (sa_cons (se_var (pv 2)) (sa_cons se_int sa_nil rfl) rfl) (by decide) rfl rfl)) (sa_cons se_int sa_nil rfl) rfl) rfl) (by decide) rfl rfl)))
      (ss_cons (sc_forC (passes_of rfl) rfl (si_val (se_call c__law_no_chains takes_def (hr.mono (by decide)) gd (by rfl) (sa_cons (se_var (pv 2)) sa_nil rfl) (by decide) rfl rfl)) (sg_name (W := _) (pg_name sc_law.nd rfl (by first | exact Or.inl rfl | exact Or.inr rfl))) (ss_one (sc_if (sb_not (sb_val (se_call c__law_chain_right takes_def (hr.mono (by decide)) gd (by rfl) (sa_cons (se_var (pv 3)) (sa_cons (se_var (pv 4)) sa_nil rfl) rfl) (by decide) rfl rfl) (fun _ => rfl))) (ss_one (sc_ret se_bl)) ss_nil)) (by intro _; rfl))
      (ss_cons (sc_forC (passes_of rfl) rfl (si_val (se_call0 c__law_no_heaps takes_def (hr.mono (by decide)) gd (by rfl) (by decide))) (sg_name (W := _) (pg_name sc_law.nd rfl (by first | exact Or.inl rfl | exact Or.inr rfl))) (ss_one (sc_if (sb_cmp (op_neD hr.units) op_dNe (se_ear (k := 5) e__law_heard (hr.mono (by decide)) gd (by rfl) TB rfl hm hu (LamX.lamS_by (sc := defScope st_law) (by decide +kernel)) rfl (fun _ _ _ _ _ => rfl) (fun _ _ _ _ _ _ _ hr gd => (se_call c_standard_fillings takes_lam (hr.mono (by decide)) gd (by rfl) (sa_cons (se_var (pv 4)) sa_nil rfl) (by decide) rfl rfl)) (by decide)) se_str (nomark _)) (ss_one (sc_ret se_bl)) ss_nil)) (by intro _; rfl))
      (ss_cons (sc_if (sb_not (sb_val (se_call c__law_numbers_right takes_def (hr.mono (by decide)) gd (by rfl) (sa_cons (se_var (pv 3)) sa_nil rfl) (by decide) rfl rfl) (fun _ => rfl))) (ss_one (sc_ret se_bl)) ss_nil)
      (ss_cons (sc_set (ps_set (i := 5) sc_law.nd rfl (by first | exact Or.inl rfl | exact Or.inr rfl) (se_op or_add op_dAdd se_int (se_call c__law_roll takes_def (hr.mono (by decide)) gd (by rfl) (sa_cons (se_var (pv 2)) (sa_cons se_int sa_nil rfl) rfl) (by decide) rfl rfl))))
      (ss_cons (sc_set (ps_set (i := 6) sc_law.nd rfl (by first | exact Or.inl rfl | exact Or.inr rfl) (se_if (sb_cmp op_le op_dLe (se_op (op_mulW.or (op_repT.or op_rep1)) op_dMulA (se_var (pv 5)) se_int) se_int (nomark _)) se_str se_str)))
      (ss_cons (sc_if (sb_cmp (op_neD hr.units) op_dNe (se_ear (k := 5) e__law_heard (hr.mono (by decide)) gd (by rfl) TB rfl hm hu (LamX.lamS_by (sc := defScope st_law) (by decide +kernel)) rfl (fun _ _ _ _ _ => rfl) (fun _ _ _ _ _ _ _ hr gd => (se_call c_standard_fillings takes_lam (hr.mono (by decide)) gd (by rfl) (sa_cons (se_op (op_mulW.or (op_repT.or op_rep1)) op_dMulA (se_tup (sa_cons se_int sa_nil rfl)) (se_var (pv 5))) sa_nil rfl) (by decide) rfl rfl)) (by decide)) (se_var (pv 6)) (nomark _)) (ss_one (sc_ret se_bl)) ss_nil)
      (ss_one (sc_if (sb_cmp (op_neD hr.units) op_dNe (se_ear (k := 5) e__law_heard (hr.mono (by decide)) gd (by rfl) TB rfl hm hu (LamX.lamS_by (sc := defScope st_law) (by decide +kernel)) rfl (fun _ _ _ _ _ => rfl) (fun _ _ _ _ _ _ _ hr gd => (se_call c_standard_fillings takes_lam (hr.mono (by decide)) gd (by rfl) (sa_cons (se_op or_add op_dAdd (se_op (op_mulW.or (op_repT.or op_rep1)) op_dMulA (se_tup (sa_cons se_int sa_nil rfl)) se_int) (se_tup (sa_cons se_int sa_nil rfl))) sa_nil rfl) (by decide) rfl rfl)) (by decide)) se_str (nomark _)) (ss_one (sc_ret se_bl)) ss_nil)))))))))) (by intro _; rfl))
      (ss_one (sc_ret (se_and (se_cmp (op_eqD hr.units) op_dEq (se_call c_standard_fillings takes_def (hr.mono (by decide)) gd (by rfl) (sa_cons (se_tup (sa_cons se_int sa_nil rfl)) sa_nil rfl) (by decide) rfl rfl) se_int (nomark _)) (se_and (se_cmp (op_eqD hr.units) op_dEq (se_call c_standard_fillings takes_def (hr.mono (by decide)) gd (by rfl) (sa_cons (se_op (op_mulW.or (op_repT.or op_rep1)) op_dMulA (se_tup (sa_cons se_int sa_nil rfl)) se_int) sa_nil rfl) (by decide) rfl rfl) se_int (nomark _)) (se_one (se_cmp (op_eqD hr.units) op_dEq (se_call c_doubled_fillings takes_def (hr.mono (by decide)) gd (by rfl) (sa_cons se_int (sa_cons se_int sa_nil rfl) rfl) (by decide) rfl rfl) se_int (nomark _))))))))
theorem all_mk {w : World} {K : PySem.W.Frag} {h : Heap} {mg : Str → Option Value} {fa : Addr} {q0 : Program} (X : K.In h) (G : h.Ns mainGlobals mg) (hfa : mg "law" = some (.ref fa))
    (tabf : ∀ (y : Str) (dr : DefRec) (c t : Addr), (recsOf q0).find? (fun e => e.name == y) = some dr → PySem.W.tabIn K y = some (c, t) → PySem.W.CodeHd h c t ∧ h.get? t = some emTab)
    {a_InvalidNumber i_InvalidNumber cda_InvalidNumber cc_InvalidNumber : Addr} {nm_InvalidNumber qn_InvalidNumber q_InvalidNumber : Str} {N_InvalidNumber : Addr} {bs_InvalidNumber bm_InvalidNumber sub_InvalidNumber : List Value} {sn_InvalidNumber : List Str} {ab_InvalidNumber : Bool} {col_InvalidNumber : Option Bool} {dd_InvalidNumber : Option Addr} {k0_InvalidNumber k1_InvalidNumber k2_InvalidNumber k3_InvalidNumber k5_InvalidNumber : Option Value} {oc_InvalidNumber doc_InvalidNumber pm_InvalidNumber ct_InvalidNumber ccl_InvalidNumber cl_InvalidNumber : Value} {od_InvalidNumber an_InvalidNumber cdd_InvalidNumber cld_InvalidNumber : Option Addr} {osl_InvalidNumber ccs_InvalidNumber csl_InvalidNumber : Array (Option Value)} {vs_InvalidNumber : Array Value} {file_InvalidNumber : Str} {tf_InvalidNumber : Tok}
    {a_TooMany i_TooMany cda_TooMany cc_TooMany : Addr} {nm_TooMany qn_TooMany q_TooMany : Str} {N_TooMany : Addr} {bs_TooMany bm_TooMany sub_TooMany : List Value} {sn_TooMany : List Str} {ab_TooMany : Bool} {col_TooMany : Option Bool} {dd_TooMany : Option Addr} {k0_TooMany k1_TooMany k2_TooMany k3_TooMany k5_TooMany : Option Value} {oc_TooMany doc_TooMany pm_TooMany ct_TooMany ccl_TooMany cl_TooMany : Value} {od_TooMany an_TooMany cdd_TooMany cld_TooMany : Option Addr} {osl_TooMany ccs_TooMany csl_TooMany : Array (Option Value)} {vs_TooMany : Array Value} {file_TooMany : Str} {tf_TooMany : Tok}
    {a_InvalidChain : Addr}
    {a_InvalidHeap : Addr}
    {f__law_heard : Addr} {od__law_heard an__law_heard : Option Addr} {sl__law_heard : Array (Option Value)} {oc__law_heard kV__law_heard dc__law_heard pm__law_heard cd__law_heard ct__law_heard : Value}
    {f_is_whole : Addr} {od_is_whole an_is_whole : Option Addr} {sl_is_whole : Array (Option Value)} {oc_is_whole kV_is_whole dc_is_whole pm_is_whole cd_is_whole ct_is_whole : Value}
    {f_is_within : Addr} {od_is_within an_is_within : Option Addr} {sl_is_within : Array (Option Value)} {oc_is_within kV_is_within dc_is_within pm_is_within cd_is_within ct_is_within : Value}
    {f_is_heap_in : Addr} {od_is_heap_in an_is_heap_in : Option Addr} {sl_is_heap_in : Array (Option Value)} {oc_is_heap_in kV_is_heap_in dc_is_heap_in pm_is_heap_in cd_is_heap_in ct_is_heap_in : Value}
    {f_require_heap : Addr} {od_require_heap an_require_heap : Option Addr} {sl_require_heap : Array (Option Value)} {oc_require_heap kV_require_heap dc_require_heap pm_require_heap cd_require_heap ct_require_heap : Value}
    {f_hook_product : Addr} {od_hook_product an_hook_product : Option Addr} {sl_hook_product : Array (Option Value)} {oc_hook_product kV_hook_product dc_hook_product pm_hook_product cd_hook_product ct_hook_product : Value}
    {f_standard_count : Addr} {od_standard_count an_standard_count : Option Addr} {sl_standard_count : Array (Option Value)} {oc_standard_count kV_standard_count dc_standard_count pm_standard_count cd_standard_count ct_standard_count : Value}
    {f_standard_fillings : Addr} {od_standard_fillings an_standard_fillings : Option Addr} {sl_standard_fillings : Array (Option Value)} {oc_standard_fillings kV_standard_fillings dc_standard_fillings pm_standard_fillings cd_standard_fillings ct_standard_fillings : Value}
    {f_require_up_to : Addr} {od_require_up_to an_require_up_to : Option Addr} {sl_require_up_to : Array (Option Value)} {oc_require_up_to kV_require_up_to dc_require_up_to pm_require_up_to cd_require_up_to ct_require_up_to : Value}
    {f_doubled_fillings : Addr} {od_doubled_fillings an_doubled_fillings : Option Addr} {sl_doubled_fillings : Array (Option Value)} {oc_doubled_fillings kV_doubled_fillings dc_doubled_fillings pm_doubled_fillings cd_doubled_fillings ct_doubled_fillings : Value}
    {f__law_dice : Addr} {od__law_dice an__law_dice : Option Addr} {sl__law_dice : Array (Option Value)} {oc__law_dice kV__law_dice dc__law_dice pm__law_dice cd__law_dice ct__law_dice : Value}
    {f__law_roll : Addr} {od__law_roll an__law_roll : Option Addr} {sl__law_roll : Array (Option Value)} {oc__law_roll kV__law_roll dc__law_roll pm__law_roll cd__law_roll ct__law_roll : Value}
    {f__law_ring : Addr} {od__law_ring an__law_ring : Option Addr} {sl__law_ring : Array (Option Value)} {oc__law_ring kV__law_ring dc__law_ring pm__law_ring cd__law_ring ct__law_ring : Value}
    {f__law_one_of : Addr} {od__law_one_of an__law_one_of : Option Addr} {sl__law_one_of : Array (Option Value)} {oc__law_one_of kV__law_one_of dc__law_one_of pm__law_one_of cd__law_one_of ct__law_one_of : Value}
    {f__law_common : Addr} {od__law_common an__law_common : Option Addr} {sl__law_common : Array (Option Value)} {oc__law_common kV__law_common dc__law_common pm__law_common cd__law_common ct__law_common : Value}
    {f__law_ring_of : Addr} {od__law_ring_of an__law_ring_of : Option Addr} {sl__law_ring_of : Array (Option Value)} {oc__law_ring_of kV__law_ring_of dc__law_ring_of pm__law_ring_of cd__law_ring_of ct__law_ring_of : Value}
    {f__law_chain : Addr} {od__law_chain an__law_chain : Option Addr} {sl__law_chain : Array (Option Value)} {oc__law_chain kV__law_chain dc__law_chain pm__law_chain cd__law_chain ct__law_chain : Value}
    {f__law_no_chains : Addr} {od__law_no_chains an__law_no_chains : Option Addr} {sl__law_no_chains : Array (Option Value)} {oc__law_no_chains kV__law_no_chains dc__law_no_chains pm__law_no_chains cd__law_no_chains ct__law_no_chains : Value}
    {f__law_no_heaps : Addr} {od__law_no_heaps an__law_no_heaps : Option Addr} {sl__law_no_heaps : Array (Option Value)} {oc__law_no_heaps kV__law_no_heaps dc__law_no_heaps pm__law_no_heaps cd__law_no_heaps ct__law_no_heaps : Value}
    {f_is_ring_in : Addr} {od_is_ring_in an_is_ring_in : Option Addr} {sl_is_ring_in : Array (Option Value)} {oc_is_ring_in kV_is_ring_in dc_is_ring_in pm_is_ring_in cd_is_ring_in ct_is_ring_in : Value}
    {f_is_chain_in : Addr} {od_is_chain_in an_is_chain_in : Option Addr} {sl_is_chain_in : Array (Option Value)} {oc_is_chain_in kV_is_chain_in dc_is_chain_in pm_is_chain_in cd_is_chain_in ct_is_chain_in : Value}
    {f_require_chain : Addr} {od_require_chain an_require_chain : Option Addr} {sl_require_chain : Array (Option Value)} {oc_require_chain kV_require_chain dc_require_chain pm_require_chain cd_require_chain ct_require_chain : Value}
    {f_cut_counts : Addr} {od_cut_counts an_cut_counts : Option Addr} {sl_cut_counts : Array (Option Value)} {oc_cut_counts kV_cut_counts dc_cut_counts pm_cut_counts cd_cut_counts ct_cut_counts : Value}
    {f_classes_by_heap : Addr} {od_classes_by_heap an_classes_by_heap : Option Addr} {sl_classes_by_heap : Array (Option Value)} {oc_classes_by_heap kV_classes_by_heap dc_classes_by_heap pm_classes_by_heap cd_classes_by_heap ct_classes_by_heap : Value}
    {f_count_at_least : Addr} {od_count_at_least an_count_at_least : Option Addr} {sl_count_at_least : Array (Option Value)} {oc_count_at_least kV_count_at_least dc_count_at_least pm_count_at_least cd_count_at_least ct_count_at_least : Value}
    {f_is_integer : Addr} {od_is_integer an_is_integer : Option Addr} {sl_is_integer : Array (Option Value)} {oc_is_integer kV_is_integer dc_is_integer pm_is_integer cd_is_integer ct_is_integer : Value}
    {f_require_degree : Addr} {od_require_degree an_require_degree : Option Addr} {sl_require_degree : Array (Option Value)} {oc_require_degree kV_require_degree dc_require_degree pm_require_degree cd_require_degree ct_require_degree : Value}
    {f_classes_at_least : Addr} {od_classes_at_least an_classes_at_least : Option Addr} {sl_classes_at_least : Array (Option Value)} {oc_classes_at_least kV_classes_at_least dc_classes_at_least pm_classes_at_least cd_classes_at_least ct_classes_at_least : Value}
    {f_count_by_richness : Addr} {od_count_by_richness an_count_by_richness : Option Addr} {sl_count_by_richness : Array (Option Value)} {oc_count_by_richness kV_count_by_richness dc_count_by_richness pm_count_by_richness cd_count_by_richness ct_count_by_richness : Value}
    {f_classes_by_richness : Addr} {od_classes_by_richness an_classes_by_richness : Option Addr} {sl_classes_by_richness : Array (Option Value)} {oc_classes_by_richness kV_classes_by_richness dc_classes_by_richness pm_classes_by_richness cd_classes_by_richness ct_classes_by_richness : Value}
    {f__law_chain_right cq__law_chain_right tq__law_chain_right : Addr} {od__law_chain_right an__law_chain_right : Option Addr} {sl__law_chain_right : Array (Option Value)} {oc__law_chain_right kV__law_chain_right dc__law_chain_right pm__law_chain_right ct__law_chain_right : Value}
    {f__law_numbers_right cq__law_numbers_right tq__law_numbers_right : Addr} {od__law_numbers_right an__law_numbers_right : Option Addr} {sl__law_numbers_right : Array (Option Value)} {oc__law_numbers_right kV__law_numbers_right dc__law_numbers_right pm__law_numbers_right ct__law_numbers_right : Value}
    {f_law cq_law tq_law : Addr} {od_law an_law : Option Addr} {sl_law : Array (Option Value)} {oc_law kV_law dc_law pm_law ct_law : Value}
    {t_MOST_CUT : Tok}
    {t_MOST_DOUBLED : Tok}
    {t_MOST_HOOKED : Tok}
    {t_MOST_PLACES : Tok}
    {t_MOST_RICHNESS : Tok}
    {t_MOST_RINGS : Tok}
    {t_MOST_SIDE : Tok}
    {t_SIXTY_DIGITS : Tok}
    (xa_InvalidNumber : PySem.W.nsIn K mainGlobals "InvalidNumber" = some (some (.ref a_InvalidNumber)))
    (xk_InvalidNumber : PySem.W.keepIn K (.ref a_InvalidNumber) = true)
    (xc_InvalidNumber : K.lookup a_InvalidNumber = some (excClassObj nm_InvalidNumber qn_InvalidNumber a_InvalidNumber N_InvalidNumber bs_InvalidNumber bm_InvalidNumber true sn_InvalidNumber sub_InvalidNumber ab_InvalidNumber col_InvalidNumber dd_InvalidNumber k0_InvalidNumber k1_InvalidNumber k2_InvalidNumber k3_InvalidNumber k5_InvalidNumber "IndexError.__new__"))
    (xi_InvalidNumber : excInitIn K a_InvalidNumber [.type "IndexError", .type "LookupError", .type "Exception", .type "BaseException", .type "object"] "IndexError.__new__" = true)
    (xo_InvalidNumber : excOver K a_InvalidNumber [.type "IndexError", .type "LookupError", .type "Exception", .type "BaseException", .type "object"] = true)
    (xsa_InvalidNumber : findIn K (.ref a_InvalidNumber) "__setattr__" = some (some (.builtin "object.__setattr__")))
    (xga_InvalidNumber : findIn K (.ref a_InvalidNumber) "__getattribute__" = some (some (.builtin "BaseException.__getattribute__")))
    (xgg_InvalidNumber : findIn K (.ref a_InvalidNumber) "__getattr__" = some (none))
    (xno_InvalidNumber : findIn K (.ref a_InvalidNumber) "given" = some (none))
    (xic_InvalidNumber : findIn K (.ref a_InvalidNumber) "__init__" = some (some (.ref i_InvalidNumber)))
    (xt_InvalidNumber : typeIn K (.ref i_InvalidNumber) = some (.type "function"))
    (xe_InvalidNumber : subIn K (.ref a_InvalidNumber) (.type "BaseException") = some true)
    (xb_InvalidNumber : subIn K (.ref a_InvalidNumber) (.type "IndexError") = some true)
    (xy_InvalidNumber : typeIn K (.ref a_InvalidNumber) = some (.type "type"))
    (xh_InvalidNumber : hasDictIn K a_InvalidNumber = true)
    (xs_InvalidNumber : mroIn K a_InvalidNumber (.ref a_InvalidNumber) = some true)
    (xu_InvalidNumber : ks_superIn K a_InvalidNumber a_InvalidNumber "__init__" = some (some (.builtin "IndexError.__init__")))
    (xl_InvalidNumber : K.lookup i_InvalidNumber = some ⟨oc_InvalidNumber, od_InvalidNumber, .func (ksFn "__init__" q_InvalidNumber (SmX.sA "given" ⟨11, 17, 11, 21⟩ ⟨11, 23, 11, 28⟩) (SmX.sB "given" ⟨12, 8, 12, 13⟩ ⟨12, 8, 12, 15⟩ ⟨12, 8, 12, 24⟩ ⟨12, 25, 12, 30⟩ ⟨12, 8, 12, 31⟩ ⟨12, 8, 12, 31⟩ ⟨13, 8, 13, 12⟩ ⟨13, 8, 13, 18⟩ ⟨13, 21, 13, 26⟩ ⟨13, 8, 13, 26⟩) (SmX.sS "given") .none .none doc_InvalidNumber pm_InvalidNumber an_InvalidNumber (.ref cda_InvalidNumber) ct_InvalidNumber cc_InvalidNumber), osl_InvalidNumber⟩)
    (xd_InvalidNumber : codeIn K (.ref cda_InvalidNumber) q_InvalidNumber = true)
    (xf_InvalidNumber : K.lookup cda_InvalidNumber = some ⟨ccl_InvalidNumber, cdd_InvalidNumber, .fields vs_InvalidNumber, ccs_InvalidNumber⟩)
    (xv_InvalidNumber : vs_InvalidNumber[2]? = some (.str file_InvalidNumber tf_InvalidNumber))
    (xw_InvalidNumber : ((PySem.Challenge.pw_ringstairs_k58_errors_of_counts.main.file : Str) == file_InvalidNumber) = true)
    (xz_InvalidNumber : K.lookup cc_InvalidNumber = some ⟨cl_InvalidNumber, cld_InvalidNumber, .cell (some (.ref a_InvalidNumber)), csl_InvalidNumber⟩)
    (xa_TooMany : PySem.W.nsIn K mainGlobals "TooMany" = some (some (.ref a_TooMany)))
    (xk_TooMany : PySem.W.keepIn K (.ref a_TooMany) = true)
    (xc_TooMany : K.lookup a_TooMany = some (excClassObj nm_TooMany qn_TooMany a_TooMany N_TooMany bs_TooMany bm_TooMany true sn_TooMany sub_TooMany ab_TooMany col_TooMany dd_TooMany k0_TooMany k1_TooMany k2_TooMany k3_TooMany k5_TooMany "OverflowError.__new__"))
    (xi_TooMany : excInitIn K a_TooMany [.type "OverflowError", .type "ArithmeticError", .type "Exception", .type "BaseException", .type "object"] "OverflowError.__new__" = true)
    (xo_TooMany : excOver K a_TooMany [.type "OverflowError", .type "ArithmeticError", .type "Exception", .type "BaseException", .type "object"] = true)
    (xsa_TooMany : findIn K (.ref a_TooMany) "__setattr__" = some (some (.builtin "object.__setattr__")))
    (xga_TooMany : findIn K (.ref a_TooMany) "__getattribute__" = some (some (.builtin "BaseException.__getattribute__")))
    (xgg_TooMany : findIn K (.ref a_TooMany) "__getattr__" = some (none))
    (xno_TooMany : findIn K (.ref a_TooMany) "limit" = some (none))
    (xic_TooMany : findIn K (.ref a_TooMany) "__init__" = some (some (.ref i_TooMany)))
    (xt_TooMany : typeIn K (.ref i_TooMany) = some (.type "function"))
    (xe_TooMany : subIn K (.ref a_TooMany) (.type "BaseException") = some true)
    (xb_TooMany : subIn K (.ref a_TooMany) (.type "OverflowError") = some true)
    (xy_TooMany : typeIn K (.ref a_TooMany) = some (.type "type"))
    (xh_TooMany : hasDictIn K a_TooMany = true)
    (xs_TooMany : mroIn K a_TooMany (.ref a_TooMany) = some true)
    (xu_TooMany : ks_superIn K a_TooMany a_TooMany "__init__" = some (some (.builtin "OverflowError.__init__")))
    (xl_TooMany : K.lookup i_TooMany = some ⟨oc_TooMany, od_TooMany, .func (ksFn "__init__" q_TooMany (SmX.sA "limit" ⟨16, 17, 16, 21⟩ ⟨16, 23, 16, 28⟩) (SmX.sB "limit" ⟨17, 8, 17, 13⟩ ⟨17, 8, 17, 15⟩ ⟨17, 8, 17, 24⟩ ⟨17, 25, 17, 30⟩ ⟨17, 8, 17, 31⟩ ⟨17, 8, 17, 31⟩ ⟨18, 8, 18, 12⟩ ⟨18, 8, 18, 18⟩ ⟨18, 21, 18, 26⟩ ⟨18, 8, 18, 26⟩) (SmX.sS "limit") .none .none doc_TooMany pm_TooMany an_TooMany (.ref cda_TooMany) ct_TooMany cc_TooMany), osl_TooMany⟩)
    (xd_TooMany : codeIn K (.ref cda_TooMany) q_TooMany = true)
    (xf_TooMany : K.lookup cda_TooMany = some ⟨ccl_TooMany, cdd_TooMany, .fields vs_TooMany, ccs_TooMany⟩)
    (xv_TooMany : vs_TooMany[2]? = some (.str file_TooMany tf_TooMany))
    (xw_TooMany : ((PySem.Challenge.pw_ringstairs_k58_errors_of_counts.main.file : Str) == file_TooMany) = true)
    (xz_TooMany : K.lookup cc_TooMany = some ⟨cl_TooMany, cld_TooMany, .cell (some (.ref a_TooMany)), csl_TooMany⟩)
    (xa_InvalidChain : PySem.W.nsIn K mainGlobals "InvalidChain" = some (some (.ref a_InvalidChain)))
    (xq_InvalidChain : PySem.W.excIn K a_InvalidChain [.type "ValueError", .type "Exception", .type "BaseException", .type "object"] "ValueError.__new__" = true)
    (xk_InvalidChain : PySem.W.keepIn K (.ref a_InvalidChain) = true)
    (xe_InvalidChain : PySem.W.subIn K (.ref a_InvalidChain) (.type "BaseException") = some true)
    (xy_InvalidChain : PySem.W.typeIn K (.ref a_InvalidChain) = some (.type "type"))
    (xa_InvalidHeap : PySem.W.nsIn K mainGlobals "InvalidHeap" = some (some (.ref a_InvalidHeap)))
    (xq_InvalidHeap : PySem.W.excIn K a_InvalidHeap [.type "ValueError", .type "Exception", .type "BaseException", .type "object"] "ValueError.__new__" = true)
    (xk_InvalidHeap : PySem.W.keepIn K (.ref a_InvalidHeap) = true)
    (xe_InvalidHeap : PySem.W.subIn K (.ref a_InvalidHeap) (.type "BaseException") = some true)
    (xy_InvalidHeap : PySem.W.typeIn K (.ref a_InvalidHeap) = some (.type "type"))
    (xm_InvalidChain_InvalidNumber : PySem.W.exmOne K (.ref a_InvalidChain) (.ref a_InvalidNumber) = some false)
    (xm_InvalidHeap_InvalidNumber : PySem.W.exmOne K (.ref a_InvalidHeap) (.ref a_InvalidNumber) = some false)
    (xm_InvalidNumber_InvalidNumber : PySem.W.exmOne K (.ref a_InvalidNumber) (.ref a_InvalidNumber) = some true)
    (xm_TooMany_InvalidNumber : PySem.W.exmOne K (.ref a_TooMany) (.ref a_InvalidNumber) = some false)
    (xm_InvalidChain_TooMany : PySem.W.exmOne K (.ref a_InvalidChain) (.ref a_TooMany) = some false)
    (xm_InvalidHeap_TooMany : PySem.W.exmOne K (.ref a_InvalidHeap) (.ref a_TooMany) = some false)
    (xm_InvalidNumber_TooMany : PySem.W.exmOne K (.ref a_InvalidNumber) (.ref a_TooMany) = some false)
    (xm_TooMany_TooMany : PySem.W.exmOne K (.ref a_TooMany) (.ref a_TooMany) = some true)
    (xm_InvalidChain_InvalidChain : PySem.W.exmOne K (.ref a_InvalidChain) (.ref a_InvalidChain) = some true)
    (xm_InvalidHeap_InvalidChain : PySem.W.exmOne K (.ref a_InvalidHeap) (.ref a_InvalidChain) = some false)
    (xm_InvalidNumber_InvalidChain : PySem.W.exmOne K (.ref a_InvalidNumber) (.ref a_InvalidChain) = some false)
    (xm_TooMany_InvalidChain : PySem.W.exmOne K (.ref a_TooMany) (.ref a_InvalidChain) = some false)
    (xm_InvalidChain_InvalidHeap : PySem.W.exmOne K (.ref a_InvalidChain) (.ref a_InvalidHeap) = some false)
    (xm_InvalidHeap_InvalidHeap : PySem.W.exmOne K (.ref a_InvalidHeap) (.ref a_InvalidHeap) = some true)
    (xm_InvalidNumber_InvalidHeap : PySem.W.exmOne K (.ref a_InvalidNumber) (.ref a_InvalidHeap) = some false)
    (xm_TooMany_InvalidHeap : PySem.W.exmOne K (.ref a_TooMany) (.ref a_InvalidHeap) = some false)
    (y_opq : nsIn K cStatics "thirdparty.any" = some none)
    (y_sup : nsIn K mainGlobals "super" = some none)
    (a__law_heard : PySem.W.nsIn K mainGlobals "_law_heard" = some (some (.ref f__law_heard)))
    (l__law_heard : K.lookup f__law_heard = some ⟨oc__law_heard, od__law_heard, .func (PySem.W.fnOf "_law_heard" "_law_heard" (defArgs st__law_heard) (defBody st__law_heard) (defScope st__law_heard) .none kV__law_heard dc__law_heard pm__law_heard an__law_heard cd__law_heard ct__law_heard), sl__law_heard⟩)
    (d__law_heard : PySem.W.codeIn K cd__law_heard "_law_heard" = true)
    (e__law_heard : PySem.W.keepIn K (.ref f__law_heard) = true)
    (a_is_whole : PySem.W.nsIn K mainGlobals "is_whole" = some (some (.ref f_is_whole)))
    (l_is_whole : K.lookup f_is_whole = some ⟨oc_is_whole, od_is_whole, .func (PySem.W.fnOf "is_whole" "is_whole" (defArgs st_is_whole) (defBody st_is_whole) (defScope st_is_whole) .none kV_is_whole dc_is_whole pm_is_whole an_is_whole cd_is_whole ct_is_whole), sl_is_whole⟩)
    (d_is_whole : PySem.W.codeIn K cd_is_whole "is_whole" = true)
    (e_is_whole : PySem.W.keepIn K (.ref f_is_whole) = true)
    (a_is_within : PySem.W.nsIn K mainGlobals "is_within" = some (some (.ref f_is_within)))
    (l_is_within : K.lookup f_is_within = some ⟨oc_is_within, od_is_within, .func (PySem.W.fnOf "is_within" "is_within" (defArgs st_is_within) (defBody st_is_within) (defScope st_is_within) .none kV_is_within dc_is_within pm_is_within an_is_within cd_is_within ct_is_within), sl_is_within⟩)
    (d_is_within : PySem.W.codeIn K cd_is_within "is_within" = true)
    (e_is_within : PySem.W.keepIn K (.ref f_is_within) = true)
    (a_is_heap_in : PySem.W.nsIn K mainGlobals "is_heap_in" = some (some (.ref f_is_heap_in)))
    (l_is_heap_in : K.lookup f_is_heap_in = some ⟨oc_is_heap_in, od_is_heap_in, .func (PySem.W.fnOf "is_heap_in" "is_heap_in" (defArgs st_is_heap_in) (defBody st_is_heap_in) (defScope st_is_heap_in) .none kV_is_heap_in dc_is_heap_in pm_is_heap_in an_is_heap_in cd_is_heap_in ct_is_heap_in), sl_is_heap_in⟩)
    (d_is_heap_in : PySem.W.codeIn K cd_is_heap_in "is_heap_in" = true)
    (e_is_heap_in : PySem.W.keepIn K (.ref f_is_heap_in) = true)
    (a_require_heap : PySem.W.nsIn K mainGlobals "require_heap" = some (some (.ref f_require_heap)))
    (l_require_heap : K.lookup f_require_heap = some ⟨oc_require_heap, od_require_heap, .func (PySem.W.fnOf "require_heap" "require_heap" (defArgs st_require_heap) (defBody st_require_heap) (defScope st_require_heap) .none kV_require_heap dc_require_heap pm_require_heap an_require_heap cd_require_heap ct_require_heap), sl_require_heap⟩)
    (d_require_heap : PySem.W.codeIn K cd_require_heap "require_heap" = true)
    (e_require_heap : PySem.W.keepIn K (.ref f_require_heap) = true)
    (a_hook_product : PySem.W.nsIn K mainGlobals "hook_product" = some (some (.ref f_hook_product)))
    (l_hook_product : K.lookup f_hook_product = some ⟨oc_hook_product, od_hook_product, .func (PySem.W.fnOf "hook_product" "hook_product" (defArgs st_hook_product) (defBody st_hook_product) (defScope st_hook_product) .none kV_hook_product dc_hook_product pm_hook_product an_hook_product cd_hook_product ct_hook_product), sl_hook_product⟩)
    (d_hook_product : PySem.W.codeIn K cd_hook_product "hook_product" = true)
    (e_hook_product : PySem.W.keepIn K (.ref f_hook_product) = true)
    (a_standard_count : PySem.W.nsIn K mainGlobals "standard_count" = some (some (.ref f_standard_count)))
    (l_standard_count : K.lookup f_standard_count = some ⟨oc_standard_count, od_standard_count, .func (PySem.W.fnOf "standard_count" "standard_count" (defArgs st_standard_count) (defBody st_standard_count) (defScope st_standard_count) .none kV_standard_count dc_standard_count pm_standard_count an_standard_count cd_standard_count ct_standard_count), sl_standard_count⟩)
    (d_standard_count : PySem.W.codeIn K cd_standard_count "standard_count" = true)
    (e_standard_count : PySem.W.keepIn K (.ref f_standard_count) = true)
    (a_standard_fillings : PySem.W.nsIn K mainGlobals "standard_fillings" = some (some (.ref f_standard_fillings)))
    (l_standard_fillings : K.lookup f_standard_fillings = some ⟨oc_standard_fillings, od_standard_fillings, .func (PySem.W.fnOf "standard_fillings" "standard_fillings" (defArgs st_standard_fillings) (defBody st_standard_fillings) (defScope st_standard_fillings) .none kV_standard_fillings dc_standard_fillings pm_standard_fillings an_standard_fillings cd_standard_fillings ct_standard_fillings), sl_standard_fillings⟩)
    (d_standard_fillings : PySem.W.codeIn K cd_standard_fillings "standard_fillings" = true)
    (e_standard_fillings : PySem.W.keepIn K (.ref f_standard_fillings) = true)
    (a_require_up_to : PySem.W.nsIn K mainGlobals "require_up_to" = some (some (.ref f_require_up_to)))
    (l_require_up_to : K.lookup f_require_up_to = some ⟨oc_require_up_to, od_require_up_to, .func (PySem.W.fnOf "require_up_to" "require_up_to" (defArgs st_require_up_to) (defBody st_require_up_to) (defScope st_require_up_to) .none kV_require_up_to dc_require_up_to pm_require_up_to an_require_up_to cd_require_up_to ct_require_up_to), sl_require_up_to⟩)
    (d_require_up_to : PySem.W.codeIn K cd_require_up_to "require_up_to" = true)
    (e_require_up_to : PySem.W.keepIn K (.ref f_require_up_to) = true)
    (a_doubled_fillings : PySem.W.nsIn K mainGlobals "doubled_fillings" = some (some (.ref f_doubled_fillings)))
    (l_doubled_fillings : K.lookup f_doubled_fillings = some ⟨oc_doubled_fillings, od_doubled_fillings, .func (PySem.W.fnOf "doubled_fillings" "doubled_fillings" (defArgs st_doubled_fillings) (defBody st_doubled_fillings) (defScope st_doubled_fillings) .none kV_doubled_fillings dc_doubled_fillings pm_doubled_fillings an_doubled_fillings cd_doubled_fillings ct_doubled_fillings), sl_doubled_fillings⟩)
    (d_doubled_fillings : PySem.W.codeIn K cd_doubled_fillings "doubled_fillings" = true)
    (e_doubled_fillings : PySem.W.keepIn K (.ref f_doubled_fillings) = true)
    (a__law_dice : PySem.W.nsIn K mainGlobals "_law_dice" = some (some (.ref f__law_dice)))
    (l__law_dice : K.lookup f__law_dice = some ⟨oc__law_dice, od__law_dice, .func (PySem.W.fnOf "_law_dice" "_law_dice" (defArgs st__law_dice) (defBody st__law_dice) (defScope st__law_dice) .none kV__law_dice dc__law_dice pm__law_dice an__law_dice cd__law_dice ct__law_dice), sl__law_dice⟩)
    (d__law_dice : PySem.W.codeIn K cd__law_dice "_law_dice" = true)
    (e__law_dice : PySem.W.keepIn K (.ref f__law_dice) = true)
    (a__law_roll : PySem.W.nsIn K mainGlobals "_law_roll" = some (some (.ref f__law_roll)))
    (l__law_roll : K.lookup f__law_roll = some ⟨oc__law_roll, od__law_roll, .func (PySem.W.fnOf "_law_roll" "_law_roll" (defArgs st__law_roll) (defBody st__law_roll) (defScope st__law_roll) .none kV__law_roll dc__law_roll pm__law_roll an__law_roll cd__law_roll ct__law_roll), sl__law_roll⟩)
    (d__law_roll : PySem.W.codeIn K cd__law_roll "_law_roll" = true)
    (e__law_roll : PySem.W.keepIn K (.ref f__law_roll) = true)
    (a__law_ring : PySem.W.nsIn K mainGlobals "_law_ring" = some (some (.ref f__law_ring)))
    (l__law_ring : K.lookup f__law_ring = some ⟨oc__law_ring, od__law_ring, .func (PySem.W.fnOf "_law_ring" "_law_ring" (defArgs st__law_ring) (defBody st__law_ring) (defScope st__law_ring) .none kV__law_ring dc__law_ring pm__law_ring an__law_ring cd__law_ring ct__law_ring), sl__law_ring⟩)
    (d__law_ring : PySem.W.codeIn K cd__law_ring "_law_ring" = true)
    (e__law_ring : PySem.W.keepIn K (.ref f__law_ring) = true)
    (a__law_one_of : PySem.W.nsIn K mainGlobals "_law_one_of" = some (some (.ref f__law_one_of)))
    (l__law_one_of : K.lookup f__law_one_of = some ⟨oc__law_one_of, od__law_one_of, .func (PySem.W.fnOf "_law_one_of" "_law_one_of" (defArgs st__law_one_of) (defBody st__law_one_of) (defScope st__law_one_of) .none kV__law_one_of dc__law_one_of pm__law_one_of an__law_one_of cd__law_one_of ct__law_one_of), sl__law_one_of⟩)
    (d__law_one_of : PySem.W.codeIn K cd__law_one_of "_law_one_of" = true)
    (e__law_one_of : PySem.W.keepIn K (.ref f__law_one_of) = true)
    (a__law_common : PySem.W.nsIn K mainGlobals "_law_common" = some (some (.ref f__law_common)))
    (l__law_common : K.lookup f__law_common = some ⟨oc__law_common, od__law_common, .func (PySem.W.fnOf "_law_common" "_law_common" (defArgs st__law_common) (defBody st__law_common) (defScope st__law_common) .none kV__law_common dc__law_common pm__law_common an__law_common cd__law_common ct__law_common), sl__law_common⟩)
    (d__law_common : PySem.W.codeIn K cd__law_common "_law_common" = true)
    (e__law_common : PySem.W.keepIn K (.ref f__law_common) = true)
    (a__law_ring_of : PySem.W.nsIn K mainGlobals "_law_ring_of" = some (some (.ref f__law_ring_of)))
    (l__law_ring_of : K.lookup f__law_ring_of = some ⟨oc__law_ring_of, od__law_ring_of, .func (PySem.W.fnOf "_law_ring_of" "_law_ring_of" (defArgs st__law_ring_of) (defBody st__law_ring_of) (defScope st__law_ring_of) .none kV__law_ring_of dc__law_ring_of pm__law_ring_of an__law_ring_of cd__law_ring_of ct__law_ring_of), sl__law_ring_of⟩)
    (d__law_ring_of : PySem.W.codeIn K cd__law_ring_of "_law_ring_of" = true)
    (e__law_ring_of : PySem.W.keepIn K (.ref f__law_ring_of) = true)
    (a__law_chain : PySem.W.nsIn K mainGlobals "_law_chain" = some (some (.ref f__law_chain)))
    (l__law_chain : K.lookup f__law_chain = some ⟨oc__law_chain, od__law_chain, .func (PySem.W.fnOf "_law_chain" "_law_chain" (defArgs st__law_chain) (defBody st__law_chain) (defScope st__law_chain) .none kV__law_chain dc__law_chain pm__law_chain an__law_chain cd__law_chain ct__law_chain), sl__law_chain⟩)
    (d__law_chain : PySem.W.codeIn K cd__law_chain "_law_chain" = true)
    (e__law_chain : PySem.W.keepIn K (.ref f__law_chain) = true)
    (a__law_no_chains : PySem.W.nsIn K mainGlobals "_law_no_chains" = some (some (.ref f__law_no_chains)))
    (l__law_no_chains : K.lookup f__law_no_chains = some ⟨oc__law_no_chains, od__law_no_chains, .func (PySem.W.fnOf "_law_no_chains" "_law_no_chains" (defArgs st__law_no_chains) (defBody st__law_no_chains) (defScope st__law_no_chains) .none kV__law_no_chains dc__law_no_chains pm__law_no_chains an__law_no_chains cd__law_no_chains ct__law_no_chains), sl__law_no_chains⟩)
    (d__law_no_chains : PySem.W.codeIn K cd__law_no_chains "_law_no_chains" = true)
    (e__law_no_chains : PySem.W.keepIn K (.ref f__law_no_chains) = true)
    (a__law_no_heaps : PySem.W.nsIn K mainGlobals "_law_no_heaps" = some (some (.ref f__law_no_heaps)))
    (l__law_no_heaps : K.lookup f__law_no_heaps = some ⟨oc__law_no_heaps, od__law_no_heaps, .func (PySem.W.fnOf "_law_no_heaps" "_law_no_heaps" (defArgs st__law_no_heaps) (defBody st__law_no_heaps) (defScope st__law_no_heaps) .none kV__law_no_heaps dc__law_no_heaps pm__law_no_heaps an__law_no_heaps cd__law_no_heaps ct__law_no_heaps), sl__law_no_heaps⟩)
    (d__law_no_heaps : PySem.W.codeIn K cd__law_no_heaps "_law_no_heaps" = true)
    (e__law_no_heaps : PySem.W.keepIn K (.ref f__law_no_heaps) = true)
    (a_is_ring_in : PySem.W.nsIn K mainGlobals "is_ring_in" = some (some (.ref f_is_ring_in)))
    (l_is_ring_in : K.lookup f_is_ring_in = some ⟨oc_is_ring_in, od_is_ring_in, .func (PySem.W.fnOf "is_ring_in" "is_ring_in" (defArgs st_is_ring_in) (defBody st_is_ring_in) (defScope st_is_ring_in) .none kV_is_ring_in dc_is_ring_in pm_is_ring_in an_is_ring_in cd_is_ring_in ct_is_ring_in), sl_is_ring_in⟩)
    (d_is_ring_in : PySem.W.codeIn K cd_is_ring_in "is_ring_in" = true)
    (e_is_ring_in : PySem.W.keepIn K (.ref f_is_ring_in) = true)
    (a_is_chain_in : PySem.W.nsIn K mainGlobals "is_chain_in" = some (some (.ref f_is_chain_in)))
    (l_is_chain_in : K.lookup f_is_chain_in = some ⟨oc_is_chain_in, od_is_chain_in, .func (PySem.W.fnOf "is_chain_in" "is_chain_in" (defArgs st_is_chain_in) (defBody st_is_chain_in) (defScope st_is_chain_in) .none kV_is_chain_in dc_is_chain_in pm_is_chain_in an_is_chain_in cd_is_chain_in ct_is_chain_in), sl_is_chain_in⟩)
    (d_is_chain_in : PySem.W.codeIn K cd_is_chain_in "is_chain_in" = true)
    (e_is_chain_in : PySem.W.keepIn K (.ref f_is_chain_in) = true)
    (a_require_chain : PySem.W.nsIn K mainGlobals "require_chain" = some (some (.ref f_require_chain)))
    (l_require_chain : K.lookup f_require_chain = some ⟨oc_require_chain, od_require_chain, .func (PySem.W.fnOf "require_chain" "require_chain" (defArgs st_require_chain) (defBody st_require_chain) (defScope st_require_chain) .none kV_require_chain dc_require_chain pm_require_chain an_require_chain cd_require_chain ct_require_chain), sl_require_chain⟩)
    (d_require_chain : PySem.W.codeIn K cd_require_chain "require_chain" = true)
    (e_require_chain : PySem.W.keepIn K (.ref f_require_chain) = true)
    (a_cut_counts : PySem.W.nsIn K mainGlobals "cut_counts" = some (some (.ref f_cut_counts)))
    (l_cut_counts : K.lookup f_cut_counts = some ⟨oc_cut_counts, od_cut_counts, .func (PySem.W.fnOf "cut_counts" "cut_counts" (defArgs st_cut_counts) (defBody st_cut_counts) (defScope st_cut_counts) .none kV_cut_counts dc_cut_counts pm_cut_counts an_cut_counts cd_cut_counts ct_cut_counts), sl_cut_counts⟩)
    (d_cut_counts : PySem.W.codeIn K cd_cut_counts "cut_counts" = true)
    (e_cut_counts : PySem.W.keepIn K (.ref f_cut_counts) = true)
    (a_classes_by_heap : PySem.W.nsIn K mainGlobals "classes_by_heap" = some (some (.ref f_classes_by_heap)))
    (l_classes_by_heap : K.lookup f_classes_by_heap = some ⟨oc_classes_by_heap, od_classes_by_heap, .func (PySem.W.fnOf "classes_by_heap" "classes_by_heap" (defArgs st_classes_by_heap) (defBody st_classes_by_heap) (defScope st_classes_by_heap) .none kV_classes_by_heap dc_classes_by_heap pm_classes_by_heap an_classes_by_heap cd_classes_by_heap ct_classes_by_heap), sl_classes_by_heap⟩)
    (d_classes_by_heap : PySem.W.codeIn K cd_classes_by_heap "classes_by_heap" = true)
    (e_classes_by_heap : PySem.W.keepIn K (.ref f_classes_by_heap) = true)
    (a_count_at_least : PySem.W.nsIn K mainGlobals "count_at_least" = some (some (.ref f_count_at_least)))
    (l_count_at_least : K.lookup f_count_at_least = some ⟨oc_count_at_least, od_count_at_least, .func (PySem.W.fnOf "count_at_least" "count_at_least" (defArgs st_count_at_least) (defBody st_count_at_least) (defScope st_count_at_least) .none kV_count_at_least dc_count_at_least pm_count_at_least an_count_at_least cd_count_at_least ct_count_at_least), sl_count_at_least⟩)
    (d_count_at_least : PySem.W.codeIn K cd_count_at_least "count_at_least" = true)
    (e_count_at_least : PySem.W.keepIn K (.ref f_count_at_least) = true)
    (a_is_integer : PySem.W.nsIn K mainGlobals "is_integer" = some (some (.ref f_is_integer)))
    (l_is_integer : K.lookup f_is_integer = some ⟨oc_is_integer, od_is_integer, .func (PySem.W.fnOf "is_integer" "is_integer" (defArgs st_is_integer) (defBody st_is_integer) (defScope st_is_integer) .none kV_is_integer dc_is_integer pm_is_integer an_is_integer cd_is_integer ct_is_integer), sl_is_integer⟩)
    (d_is_integer : PySem.W.codeIn K cd_is_integer "is_integer" = true)
    (e_is_integer : PySem.W.keepIn K (.ref f_is_integer) = true)
    (a_require_degree : PySem.W.nsIn K mainGlobals "require_degree" = some (some (.ref f_require_degree)))
    (l_require_degree : K.lookup f_require_degree = some ⟨oc_require_degree, od_require_degree, .func (PySem.W.fnOf "require_degree" "require_degree" (defArgs st_require_degree) (defBody st_require_degree) (defScope st_require_degree) .none kV_require_degree dc_require_degree pm_require_degree an_require_degree cd_require_degree ct_require_degree), sl_require_degree⟩)
    (d_require_degree : PySem.W.codeIn K cd_require_degree "require_degree" = true)
    (e_require_degree : PySem.W.keepIn K (.ref f_require_degree) = true)
    (a_classes_at_least : PySem.W.nsIn K mainGlobals "classes_at_least" = some (some (.ref f_classes_at_least)))
    (l_classes_at_least : K.lookup f_classes_at_least = some ⟨oc_classes_at_least, od_classes_at_least, .func (PySem.W.fnOf "classes_at_least" "classes_at_least" (defArgs st_classes_at_least) (defBody st_classes_at_least) (defScope st_classes_at_least) .none kV_classes_at_least dc_classes_at_least pm_classes_at_least an_classes_at_least cd_classes_at_least ct_classes_at_least), sl_classes_at_least⟩)
    (d_classes_at_least : PySem.W.codeIn K cd_classes_at_least "classes_at_least" = true)
    (e_classes_at_least : PySem.W.keepIn K (.ref f_classes_at_least) = true)
    (a_count_by_richness : PySem.W.nsIn K mainGlobals "count_by_richness" = some (some (.ref f_count_by_richness)))
    (l_count_by_richness : K.lookup f_count_by_richness = some ⟨oc_count_by_richness, od_count_by_richness, .func (PySem.W.fnOf "count_by_richness" "count_by_richness" (defArgs st_count_by_richness) (defBody st_count_by_richness) (defScope st_count_by_richness) .none kV_count_by_richness dc_count_by_richness pm_count_by_richness an_count_by_richness cd_count_by_richness ct_count_by_richness), sl_count_by_richness⟩)
    (d_count_by_richness : PySem.W.codeIn K cd_count_by_richness "count_by_richness" = true)
    (e_count_by_richness : PySem.W.keepIn K (.ref f_count_by_richness) = true)
    (a_classes_by_richness : PySem.W.nsIn K mainGlobals "classes_by_richness" = some (some (.ref f_classes_by_richness)))
    (l_classes_by_richness : K.lookup f_classes_by_richness = some ⟨oc_classes_by_richness, od_classes_by_richness, .func (PySem.W.fnOf "classes_by_richness" "classes_by_richness" (defArgs st_classes_by_richness) (defBody st_classes_by_richness) (defScope st_classes_by_richness) .none kV_classes_by_richness dc_classes_by_richness pm_classes_by_richness an_classes_by_richness cd_classes_by_richness ct_classes_by_richness), sl_classes_by_richness⟩)
    (d_classes_by_richness : PySem.W.codeIn K cd_classes_by_richness "classes_by_richness" = true)
    (e_classes_by_richness : PySem.W.keepIn K (.ref f_classes_by_richness) = true)
    (a__law_chain_right : PySem.W.nsIn K mainGlobals "_law_chain_right" = some (some (.ref f__law_chain_right)))
    (l__law_chain_right : K.lookup f__law_chain_right = some ⟨oc__law_chain_right, od__law_chain_right, .func (PySem.W.fnOf "_law_chain_right" "_law_chain_right" (defArgs st__law_chain_right) (defBody st__law_chain_right) (defScope st__law_chain_right) .none kV__law_chain_right dc__law_chain_right pm__law_chain_right an__law_chain_right (.ref cq__law_chain_right) ct__law_chain_right), sl__law_chain_right⟩)
    (d__law_chain_right : PySem.W.codeIn K (.ref cq__law_chain_right) "_law_chain_right" = true)
    (e__law_chain_right : PySem.W.keepIn K (.ref f__law_chain_right) = true)
    (ti__law_chain_right : PySem.W.tabIn K "_law_chain_right" = some (cq__law_chain_right, tq__law_chain_right))
    (tn__law_chain_right : K.lookup tq__law_chain_right = none)
    (tr__law_chain_right : ((recsOf q0).find? (fun e => e.name == ("_law_chain_right" : Str))).isSome = true)
    (a__law_numbers_right : PySem.W.nsIn K mainGlobals "_law_numbers_right" = some (some (.ref f__law_numbers_right)))
    (l__law_numbers_right : K.lookup f__law_numbers_right = some ⟨oc__law_numbers_right, od__law_numbers_right, .func (PySem.W.fnOf "_law_numbers_right" "_law_numbers_right" (defArgs st__law_numbers_right) (defBody st__law_numbers_right) (defScope st__law_numbers_right) .none kV__law_numbers_right dc__law_numbers_right pm__law_numbers_right an__law_numbers_right (.ref cq__law_numbers_right) ct__law_numbers_right), sl__law_numbers_right⟩)
    (d__law_numbers_right : PySem.W.codeIn K (.ref cq__law_numbers_right) "_law_numbers_right" = true)
    (e__law_numbers_right : PySem.W.keepIn K (.ref f__law_numbers_right) = true)
    (ti__law_numbers_right : PySem.W.tabIn K "_law_numbers_right" = some (cq__law_numbers_right, tq__law_numbers_right))
    (tn__law_numbers_right : K.lookup tq__law_numbers_right = none)
    (tr__law_numbers_right : ((recsOf q0).find? (fun e => e.name == ("_law_numbers_right" : Str))).isSome = true)
    (a_law : PySem.W.nsIn K mainGlobals "law" = some (some (.ref f_law)))
    (l_law : K.lookup f_law = some ⟨oc_law, od_law, .func (PySem.W.fnOf "law" "law" (defArgs st_law) (defBody st_law) (defScope st_law) .none kV_law dc_law pm_law an_law (.ref cq_law) ct_law), sl_law⟩)
    (d_law : PySem.W.codeIn K (.ref cq_law) "law" = true)
    (e_law : PySem.W.keepIn K (.ref f_law) = true)
    (ti_law : PySem.W.tabIn K "law" = some (cq_law, tq_law))
    (tn_law : K.lookup tq_law = none)
    (tr_law : ((recsOf q0).find? (fun e => e.name == ("law" : Str))).isSome = true)
    (tw__law_chain_right__law_numbers_right : ¬ tq__law_chain_right = tq__law_numbers_right)
    (tw__law_chain_right_law : ¬ tq__law_chain_right = tq_law)
    (tw__law_numbers_right__law_chain_right : ¬ tq__law_numbers_right = tq__law_chain_right)
    (tw__law_numbers_right_law : ¬ tq__law_numbers_right = tq_law)
    (tw_law__law_chain_right : ¬ tq_law = tq__law_chain_right)
    (tw_law__law_numbers_right : ¬ tq_law = tq__law_numbers_right)
    (z_abs : PySem.W.nsIn K mainGlobals "abs" = some none)
    (z_all : PySem.W.nsIn K mainGlobals "all" = some none)
    (z_bool : PySem.W.nsIn K mainGlobals "bool" = some none)
    (z_enumerate : PySem.W.nsIn K mainGlobals "enumerate" = some none)
    (z_int : PySem.W.nsIn K mainGlobals "int" = some none)
    (z_isinstance : PySem.W.nsIn K mainGlobals "isinstance" = some none)
    (z_len : PySem.W.nsIn K mainGlobals "len" = some none)
    (z_list : PySem.W.nsIn K mainGlobals "list" = some none)
    (z_max : PySem.W.nsIn K mainGlobals "max" = some none)
    (z_min : PySem.W.nsIn K mainGlobals "min" = some none)
    (z_range : PySem.W.nsIn K mainGlobals "range" = some none)
    (z_repr : PySem.W.nsIn K mainGlobals "repr" = some none)
    (z_sum : PySem.W.nsIn K mainGlobals "sum" = some none)
    (z_tuple : PySem.W.nsIn K mainGlobals "tuple" = some none)
    (z_zip : PySem.W.nsIn K mainGlobals "zip" = some none)
    (z_MOST_CUT : PySem.W.nsIn K mainGlobals "MOST_CUT" = some (some (.int (6) t_MOST_CUT)))
    (z_MOST_DOUBLED : PySem.W.nsIn K mainGlobals "MOST_DOUBLED" = some (some (.int (10) t_MOST_DOUBLED)))
    (z_MOST_HOOKED : PySem.W.nsIn K mainGlobals "MOST_HOOKED" = some (some (.int (200) t_MOST_HOOKED)))
    (z_MOST_PLACES : PySem.W.nsIn K mainGlobals "MOST_PLACES" = some (some (.int (60) t_MOST_PLACES)))
    (z_MOST_RICHNESS : PySem.W.nsIn K mainGlobals "MOST_RICHNESS" = some (some (.int (40) t_MOST_RICHNESS)))
    (z_MOST_RINGS : PySem.W.nsIn K mainGlobals "MOST_RINGS" = some (some (.int (12) t_MOST_RINGS)))
    (z_MOST_SIDE : PySem.W.nsIn K mainGlobals "MOST_SIDE" = some (some (.int (60) t_MOST_SIDE)))
    (z_SIXTY_DIGITS : PySem.W.nsIn K mainGlobals "SIXTY_DIGITS" = some (some (.int (1000000000000000000000000000000000000000000000000000000000000) t_SIXTY_DIGITS)))
    (z_fac : PySem.W.nsIn K mainGlobals "factorial" = some (some (.builtin "math.factorial")))
    (law_true : ∀ ns : List Int, ns.length ≤ 63 → m_law [.lst (ns.map D.int)] [] = some (.ok (.bl true) [])) :
    LawG PySem.Challenge.pw_ringstairs_k58_errors_of_counts w K 10 63 "_law_script" mg fa h := by
  letI : Tabs0 := ⟨[(tq__law_chain_right, ("_law_chain_right" ++ ".<locals>." ++ "<lambda>" : Str)), (tq__law_numbers_right, ("_law_numbers_right" ++ ".<locals>." ++ "<lambda>" : Str)), (tq_law, ("law" ++ ".<locals>." ++ "<lambda>" : Str))]⟩
  obtain ⟨dr__law_chain_right, tr__law_chain_right⟩ := Option.isSome_iff_exists.mp tr__law_chain_right
  have tf__law_chain_right := tabf _ _ _ _ tr__law_chain_right ti__law_chain_right
  obtain ⟨dr__law_numbers_right, tr__law_numbers_right⟩ := Option.isSome_iff_exists.mp tr__law_numbers_right
  have tf__law_numbers_right := tabf _ _ _ _ tr__law_numbers_right ti__law_numbers_right
  obtain ⟨dr_law, tr_law⟩ := Option.isSome_iff_exists.mp tr_law
  have tf_law := tabf _ _ _ _ tr_law ti_law
  have hm__law_chain_right : (tq__law_chain_right, ("_law_chain_right" ++ ".<locals>." ++ "<lambda>" : Str)) ∈ Tabs0.T := show _ ∈ ([(tq__law_chain_right, ("_law_chain_right" ++ ".<locals>." ++ "<lambda>" : Str)), (tq__law_numbers_right, ("_law_numbers_right" ++ ".<locals>." ++ "<lambda>" : Str)), (tq_law, ("law" ++ ".<locals>." ++ "<lambda>" : Str))] : List (Addr × Str)) by simp
  have hm__law_numbers_right : (tq__law_numbers_right, ("_law_numbers_right" ++ ".<locals>." ++ "<lambda>" : Str)) ∈ Tabs0.T := show _ ∈ ([(tq__law_chain_right, ("_law_chain_right" ++ ".<locals>." ++ "<lambda>" : Str)), (tq__law_numbers_right, ("_law_numbers_right" ++ ".<locals>." ++ "<lambda>" : Str)), (tq_law, ("law" ++ ".<locals>." ++ "<lambda>" : Str))] : List (Addr × Str)) by simp
  have hm_law : (tq_law, ("law" ++ ".<locals>." ++ "<lambda>" : Str)) ∈ Tabs0.T := show _ ∈ ([(tq__law_chain_right, ("_law_chain_right" ++ ".<locals>." ++ "<lambda>" : Str)), (tq__law_numbers_right, ("_law_numbers_right" ++ ".<locals>." ++ "<lambda>" : Str)), (tq_law, ("law" ++ ".<locals>." ++ "<lambda>" : Str))] : List (Addr × Str)) by simp
  have hu__law_chain_right : ∀ p ∈ Tabs0.T, p.1 = tq__law_chain_right → p.2 = ("_law_chain_right" ++ ".<locals>." ++ "<lambda>" : Str) := fun p hp e => by
    have hp : p ∈ ([(tq__law_chain_right, ("_law_chain_right" ++ ".<locals>." ++ "<lambda>" : Str)), (tq__law_numbers_right, ("_law_numbers_right" ++ ".<locals>." ++ "<lambda>" : Str)), (tq_law, ("law" ++ ".<locals>." ++ "<lambda>" : Str))] : List (Addr × Str)) := hp
    simp only [List.mem_cons, List.not_mem_nil, or_false] at hp
    rcases hp with rfl | rfl | rfl
    · rfl
    · exact absurd e tw__law_numbers_right__law_chain_right
    · exact absurd e tw_law__law_chain_right
  have hu__law_numbers_right : ∀ p ∈ Tabs0.T, p.1 = tq__law_numbers_right → p.2 = ("_law_numbers_right" ++ ".<locals>." ++ "<lambda>" : Str) := fun p hp e => by
    have hp : p ∈ ([(tq__law_chain_right, ("_law_chain_right" ++ ".<locals>." ++ "<lambda>" : Str)), (tq__law_numbers_right, ("_law_numbers_right" ++ ".<locals>." ++ "<lambda>" : Str)), (tq_law, ("law" ++ ".<locals>." ++ "<lambda>" : Str))] : List (Addr × Str)) := hp
    simp only [List.mem_cons, List.not_mem_nil, or_false] at hp
    rcases hp with rfl | rfl | rfl
    · exact absurd e tw__law_chain_right__law_numbers_right
    · rfl
    · exact absurd e tw_law__law_numbers_right
  have hu_law : ∀ p ∈ Tabs0.T, p.1 = tq_law → p.2 = ("law" ++ ".<locals>." ++ "<lambda>" : Str) := fun p hp e => by
    have hp : p ∈ ([(tq__law_chain_right, ("_law_chain_right" ++ ".<locals>." ++ "<lambda>" : Str)), (tq__law_numbers_right, ("_law_numbers_right" ++ ".<locals>." ++ "<lambda>" : Str)), (tq_law, ("law" ++ ".<locals>." ++ "<lambda>" : Str))] : List (Addr × Str)) := hp
    simp only [List.mem_cons, List.not_mem_nil, or_false] at hp
    rcases hp with rfl | rfl | rfl
    · exact absurd e tw__law_chain_right_law
    · exact absurd e tw__law_numbers_right_law
    · rfl
  have e := hfa.symm.trans (PySem.W.mg_of X G a_law)
  cases e
  have t_InvalidNumber : SmX.SupTxt PySem.Challenge.pw_ringstairs_k58_errors_of_counts K mg "IndexError" "IndexError.__init__" "IndexError.__new__" [.type "IndexError", .type "LookupError", .type "Exception", .type "BaseException", .type "object"] a_InvalidNumber i_InvalidNumber "InvalidNumber" "given" :=
    { gC := PySem.W.mg_of X G xa_InvalidNumber, kC := xk_InvalidNumber, cls := ⟨_, _, _, _, _, _, _, _, _, _, _, _, _, _, _, xc_InvalidNumber⟩, inn := xi_InvalidNumber, ovr := xo_InvalidNumber, sa := xsa_InvalidNumber, ga := xga_InvalidNumber, gg := xgg_InvalidNumber, noF := xno_InvalidNumber, iC := xic_InvalidNumber, tI := xt_InvalidNumber, exC := xe_InvalidNumber, exB := xb_InvalidNumber, tyC := xy_InvalidNumber, hdC := xh_InvalidNumber, self := xs_InvalidNumber, sup := xu_InvalidNumber, opq := y_opq, sg := y_sup, top := by decide +kernel,
      fn := ⟨_, _, _, _, _, _, _, _, _, _, _, _, _, _, _, _, _, _, _, _, _, _, _, _, _, _, _, _, _, _, _, xl_InvalidNumber, xd_InvalidNumber, xf_InvalidNumber, xv_InvalidNumber, xw_InvalidNumber, xz_InvalidNumber, _, fun _ => rfl⟩ }
  have t_TooMany : SmX.SupTxt PySem.Challenge.pw_ringstairs_k58_errors_of_counts K mg "OverflowError" "OverflowError.__init__" "OverflowError.__new__" [.type "OverflowError", .type "ArithmeticError", .type "Exception", .type "BaseException", .type "object"] a_TooMany i_TooMany "TooMany" "limit" :=
    { gC := PySem.W.mg_of X G xa_TooMany, kC := xk_TooMany, cls := ⟨_, _, _, _, _, _, _, _, _, _, _, _, _, _, _, xc_TooMany⟩, inn := xi_TooMany, ovr := xo_TooMany, sa := xsa_TooMany, ga := xga_TooMany, gg := xgg_TooMany, noF := xno_TooMany, iC := xic_TooMany, tI := xt_TooMany, exC := xe_TooMany, exB := xb_TooMany, tyC := xy_TooMany, hdC := xh_TooMany, self := xs_TooMany, sup := xu_TooMany, opq := y_opq, sg := y_sup, top := by decide +kernel,
      fn := ⟨_, _, _, _, _, _, _, _, _, _, _, _, _, _, _, _, _, _, _, _, _, _, _, _, _, _, _, _, _, _, _, xl_TooMany, xd_TooMany, xf_TooMany, xv_TooMany, xw_TooMany, xz_TooMany, _, fun _ => rfl⟩ }
  have T : Tops PySem.Challenge.pw_ringstairs_k58_errors_of_counts K mg a_InvalidNumber i_InvalidNumber a_TooMany i_TooMany a_InvalidChain a_InvalidHeap := ⟨t_InvalidNumber, (fun p hp => by
      simp only [List.mem_cons, List.not_mem_nil, or_false] at hp
      rcases hp with rfl | rfl | rfl | rfl
      · exact ⟨_, PySem.W.mg_of X G xa_InvalidChain, xm_InvalidChain_InvalidNumber⟩
      · exact ⟨_, PySem.W.mg_of X G xa_InvalidHeap, xm_InvalidHeap_InvalidNumber⟩
      · exact ⟨_, PySem.W.mg_of X G xa_InvalidNumber, xm_InvalidNumber_InvalidNumber⟩
      · exact ⟨_, PySem.W.mg_of X G xa_TooMany, xm_TooMany_InvalidNumber⟩), ⟨xga_InvalidNumber, xgg_InvalidNumber, xe_InvalidNumber, xh_InvalidNumber⟩, t_TooMany, (fun p hp => by
      simp only [List.mem_cons, List.not_mem_nil, or_false] at hp
      rcases hp with rfl | rfl | rfl | rfl
      · exact ⟨_, PySem.W.mg_of X G xa_InvalidChain, xm_InvalidChain_TooMany⟩
      · exact ⟨_, PySem.W.mg_of X G xa_InvalidHeap, xm_InvalidHeap_TooMany⟩
      · exact ⟨_, PySem.W.mg_of X G xa_InvalidNumber, xm_InvalidNumber_TooMany⟩
      · exact ⟨_, PySem.W.mg_of X G xa_TooMany, xm_TooMany_TooMany⟩), ⟨xga_TooMany, xgg_TooMany, xe_TooMany, xh_TooMany⟩, ⟨PySem.W.mg_of X G xa_InvalidChain, xq_InvalidChain, xk_InvalidChain, xe_InvalidChain, xy_InvalidChain⟩, (fun p hp => by
      simp only [List.mem_cons, List.not_mem_nil, or_false] at hp
      rcases hp with rfl | rfl | rfl | rfl
      · exact ⟨_, PySem.W.mg_of X G xa_InvalidChain, xm_InvalidChain_InvalidChain⟩
      · exact ⟨_, PySem.W.mg_of X G xa_InvalidHeap, xm_InvalidHeap_InvalidChain⟩
      · exact ⟨_, PySem.W.mg_of X G xa_InvalidNumber, xm_InvalidNumber_InvalidChain⟩
      · exact ⟨_, PySem.W.mg_of X G xa_TooMany, xm_TooMany_InvalidChain⟩), ⟨PySem.W.mg_of X G xa_InvalidHeap, xq_InvalidHeap, xk_InvalidHeap, xe_InvalidHeap, xy_InvalidHeap⟩, (fun p hp => by
      simp only [List.mem_cons, List.not_mem_nil, or_false] at hp
      rcases hp with rfl | rfl | rfl | rfl
      · exact ⟨_, PySem.W.mg_of X G xa_InvalidChain, xm_InvalidChain_InvalidHeap⟩
      · exact ⟨_, PySem.W.mg_of X G xa_InvalidHeap, xm_InvalidHeap_InvalidHeap⟩
      · exact ⟨_, PySem.W.mg_of X G xa_InvalidNumber, xm_InvalidNumber_InvalidHeap⟩
      · exact ⟨_, PySem.W.mg_of X G xa_TooMany, xm_TooMany_InvalidHeap⟩), PySem.W.mg_none_of X G z_abs, PySem.W.mg_none_of X G z_all, PySem.W.mg_none_of X G z_bool, PySem.W.mg_none_of X G z_enumerate, PySem.W.mg_none_of X G z_int, PySem.W.mg_none_of X G z_isinstance, PySem.W.mg_none_of X G z_len, PySem.W.mg_none_of X G z_list, PySem.W.mg_none_of X G z_max, PySem.W.mg_none_of X G z_min, PySem.W.mg_none_of X G z_range, PySem.W.mg_none_of X G z_repr, PySem.W.mg_none_of X G z_sum, PySem.W.mg_none_of X G z_tuple, PySem.W.mg_none_of X G z_zip, ⟨_, PySem.W.mg_of X G z_MOST_CUT⟩, ⟨_, PySem.W.mg_of X G z_MOST_DOUBLED⟩, ⟨_, PySem.W.mg_of X G z_MOST_HOOKED⟩, ⟨_, PySem.W.mg_of X G z_MOST_PLACES⟩, ⟨_, PySem.W.mg_of X G z_MOST_RICHNESS⟩, ⟨_, PySem.W.mg_of X G z_MOST_RINGS⟩, ⟨_, PySem.W.mg_of X G z_MOST_SIDE⟩, ⟨_, PySem.W.mg_of X G z_SIXTY_DIGITS⟩, PySem.W.mg_of X G z_fac⟩
  have F__law_heard := fun_mk (st := st__law_heard) l__law_heard d__law_heard e__law_heard
  have B__law_heard := F__law_heard.binds (ps := ["_law_call"]) fun _ _ _ _ _ _ us hl => match us, hl with | [_], _ => rfl
  have e__law_heard := fun base : Heap => k__law_heard (w := w) (base := base) T F__law_heard (PySem.W.mg_of X G a__law_heard) B__law_heard
  have F_is_whole := fun_mk (st := st_is_whole) l_is_whole d_is_whole e_is_whole
  have B_is_whole := F_is_whole.binds (ps := ["value"]) fun _ _ _ _ _ _ us hl => match us, hl with | [_], _ => rfl
  have c_is_whole := fun (base : Heap) (tb : ∀ p ∈ ([(cq__law_chain_right, tq__law_chain_right), (cq__law_numbers_right, tq__law_numbers_right), (cq_law, tq_law)] : List (Addr × Addr)), LamX.TabB base mg p.1 p.2) => k_is_whole (w := w) (base := base) T F_is_whole (PySem.W.mg_of X G a_is_whole) B_is_whole 
  have F_is_within := fun_mk (st := st_is_within) l_is_within d_is_within e_is_within
  have B_is_within := F_is_within.binds (ps := ["value", "least", "most"]) fun _ _ _ _ _ _ us hl => match us, hl with | [_, _, _], _ => rfl
  have c_is_within := fun (base : Heap) (tb : ∀ p ∈ ([(cq__law_chain_right, tq__law_chain_right), (cq__law_numbers_right, tq__law_numbers_right), (cq_law, tq_law)] : List (Addr × Addr)), LamX.TabB base mg p.1 p.2) => k_is_within (w := w) (base := base) T F_is_within (PySem.W.mg_of X G a_is_within) B_is_within (c_is_whole base tb)
  have F_is_heap_in := fun_mk (st := st_is_heap_in) l_is_heap_in d_is_heap_in e_is_heap_in
  have B_is_heap_in := F_is_heap_in.binds (ps := ["value"]) fun _ _ _ _ _ _ us hl => match us, hl with | [_], _ => rfl
  have c_is_heap_in := fun (base : Heap) (tb : ∀ p ∈ ([(cq__law_chain_right, tq__law_chain_right), (cq__law_numbers_right, tq__law_numbers_right), (cq_law, tq_law)] : List (Addr × Addr)), LamX.TabB base mg p.1 p.2) => k_is_heap_in (w := w) (base := base) T F_is_heap_in (PySem.W.mg_of X G a_is_heap_in) B_is_heap_in (c_is_within base tb)
  have F_require_heap := fun_mk (st := st_require_heap) l_require_heap d_require_heap e_require_heap
  have B_require_heap := F_require_heap.binds (ps := ["heap"]) fun _ _ _ _ _ _ us hl => match us, hl with | [_], _ => rfl
  have c_require_heap := fun (base : Heap) (tb : ∀ p ∈ ([(cq__law_chain_right, tq__law_chain_right), (cq__law_numbers_right, tq__law_numbers_right), (cq_law, tq_law)] : List (Addr × Addr)), LamX.TabB base mg p.1 p.2) => k_require_heap (w := w) (base := base) T F_require_heap (PySem.W.mg_of X G a_require_heap) B_require_heap (c_is_heap_in base tb)
  have F_hook_product := fun_mk (st := st_hook_product) l_hook_product d_hook_product e_hook_product
  have B_hook_product := F_hook_product.binds (ps := ["heap"]) fun _ _ _ _ _ _ us hl => match us, hl with | [_], _ => rfl
  have c_hook_product := fun (base : Heap) (tb : ∀ p ∈ ([(cq__law_chain_right, tq__law_chain_right), (cq__law_numbers_right, tq__law_numbers_right), (cq_law, tq_law)] : List (Addr × Addr)), LamX.TabB base mg p.1 p.2) => k_hook_product (w := w) (base := base) T F_hook_product (PySem.W.mg_of X G a_hook_product) B_hook_product 
  have F_standard_count := fun_mk (st := st_standard_count) l_standard_count d_standard_count e_standard_count
  have B_standard_count := F_standard_count.binds (ps := ["heap"]) fun _ _ _ _ _ _ us hl => match us, hl with | [_], _ => rfl
  have c_standard_count := fun (base : Heap) (tb : ∀ p ∈ ([(cq__law_chain_right, tq__law_chain_right), (cq__law_numbers_right, tq__law_numbers_right), (cq_law, tq_law)] : List (Addr × Addr)), LamX.TabB base mg p.1 p.2) => k_standard_count (w := w) (base := base) T F_standard_count (PySem.W.mg_of X G a_standard_count) B_standard_count (c_hook_product base tb)
  have F_standard_fillings := fun_mk (st := st_standard_fillings) l_standard_fillings d_standard_fillings e_standard_fillings
  have B_standard_fillings := F_standard_fillings.binds (ps := ["heap"]) fun _ _ _ _ _ _ us hl => match us, hl with | [_], _ => rfl
  have c_standard_fillings := fun (base : Heap) (tb : ∀ p ∈ ([(cq__law_chain_right, tq__law_chain_right), (cq__law_numbers_right, tq__law_numbers_right), (cq_law, tq_law)] : List (Addr × Addr)), LamX.TabB base mg p.1 p.2) => k_standard_fillings (w := w) (base := base) T F_standard_fillings (PySem.W.mg_of X G a_standard_fillings) B_standard_fillings (c_require_heap base tb) (c_standard_count base tb)
  have F_require_up_to := fun_mk (st := st_require_up_to) l_require_up_to d_require_up_to e_require_up_to
  have B_require_up_to := F_require_up_to.binds (ps := ["value", "least", "most"]) fun _ _ _ _ _ _ us hl => match us, hl with | [_, _, _], _ => rfl
  have c_require_up_to := fun (base : Heap) (tb : ∀ p ∈ ([(cq__law_chain_right, tq__law_chain_right), (cq__law_numbers_right, tq__law_numbers_right), (cq_law, tq_law)] : List (Addr × Addr)), LamX.TabB base mg p.1 p.2) => k_require_up_to (w := w) (base := base) T F_require_up_to (PySem.W.mg_of X G a_require_up_to) B_require_up_to (c_is_within base tb)
  have F_doubled_fillings := fun_mk (st := st_doubled_fillings) l_doubled_fillings d_doubled_fillings e_doubled_fillings
  have B_doubled_fillings := F_doubled_fillings.binds (ps := ["columns", "rows"]) fun _ _ _ _ _ _ us hl => match us, hl with | [_, _], _ => rfl
  have c_doubled_fillings := fun (base : Heap) (tb : ∀ p ∈ ([(cq__law_chain_right, tq__law_chain_right), (cq__law_numbers_right, tq__law_numbers_right), (cq_law, tq_law)] : List (Addr × Addr)), LamX.TabB base mg p.1 p.2) => k_doubled_fillings (w := w) (base := base) T F_doubled_fillings (PySem.W.mg_of X G a_doubled_fillings) B_doubled_fillings (c_standard_count base tb) (c_require_up_to base tb)
  have F__law_dice := fun_mk (st := st__law_dice) l__law_dice d__law_dice e__law_dice
  have B__law_dice := F__law_dice.binds (ps := ["_law_script", "_law_at"]) fun _ _ _ _ _ _ us hl => match us, hl with | [_, _], _ => rfl
  have c__law_dice := fun (base : Heap) (tb : ∀ p ∈ ([(cq__law_chain_right, tq__law_chain_right), (cq__law_numbers_right, tq__law_numbers_right), (cq_law, tq_law)] : List (Addr × Addr)), LamX.TabB base mg p.1 p.2) => k__law_dice (w := w) (base := base) T F__law_dice (PySem.W.mg_of X G a__law_dice) B__law_dice 
  have F__law_roll := fun_mk (st := st__law_roll) l__law_roll d__law_roll e__law_roll
  have B__law_roll := F__law_roll.binds (ps := ["_law_dice_here", "_law_total"]) fun _ _ _ _ _ _ us hl => match us, hl with | [_, _], _ => rfl
  have c__law_roll := fun (base : Heap) (tb : ∀ p ∈ ([(cq__law_chain_right, tq__law_chain_right), (cq__law_numbers_right, tq__law_numbers_right), (cq_law, tq_law)] : List (Addr × Addr)), LamX.TabB base mg p.1 p.2) => k__law_roll (w := w) (base := base) T F__law_roll (PySem.W.mg_of X G a__law_roll) B__law_roll 
  have F__law_ring := fun_mk (st := st__law_ring) l__law_ring d__law_ring e__law_ring
  have B__law_ring := F__law_ring.binds (ps := ["_law_dice_here", "_law_most"]) fun _ _ _ _ _ _ us hl => match us, hl with | [_, _], _ => rfl
  have c__law_ring := fun (base : Heap) (tb : ∀ p ∈ ([(cq__law_chain_right, tq__law_chain_right), (cq__law_numbers_right, tq__law_numbers_right), (cq_law, tq_law)] : List (Addr × Addr)), LamX.TabB base mg p.1 p.2) => k__law_ring (w := w) (base := base) T F__law_ring (PySem.W.mg_of X G a__law_ring) B__law_ring (c__law_roll base tb)
  have F__law_one_of := fun_mk (st := st__law_one_of) l__law_one_of d__law_one_of e__law_one_of
  have B__law_one_of := F__law_one_of.binds (ps := ["_law_dice_here", "_law_items"]) fun _ _ _ _ _ _ us hl => match us, hl with | [_, _], _ => rfl
  have c__law_one_of := fun (base : Heap) (tb : ∀ p ∈ ([(cq__law_chain_right, tq__law_chain_right), (cq__law_numbers_right, tq__law_numbers_right), (cq_law, tq_law)] : List (Addr × Addr)), LamX.TabB base mg p.1 p.2) => k__law_one_of (w := w) (base := base) T F__law_one_of (PySem.W.mg_of X G a__law_one_of) B__law_one_of (c__law_roll base tb)
  have F__law_common := fun_mk (st := st__law_common) l__law_common d__law_common e__law_common
  have B__law_common := F__law_common.binds (ps := ["_law_one", "_law_other"]) fun _ _ _ _ _ _ us hl => match us, hl with | [_, _], _ => rfl
  have c__law_common := fun (base : Heap) (tb : ∀ p ∈ ([(cq__law_chain_right, tq__law_chain_right), (cq__law_numbers_right, tq__law_numbers_right), (cq_law, tq_law)] : List (Addr × Addr)), LamX.TabB base mg p.1 p.2) => k__law_common (w := w) (base := base) T F__law_common (PySem.W.mg_of X G a__law_common) B__law_common 
  have F__law_ring_of := fun_mk (st := st__law_ring_of) l__law_ring_of d__law_ring_of e__law_ring_of
  have B__law_ring_of := F__law_ring_of.binds (ps := ["_law_dice_here", "_law_k", "_law_times"]) fun _ _ _ _ _ _ us hl => match us, hl with | [_, _, _], _ => rfl
  have c__law_ring_of := fun (base : Heap) (tb : ∀ p ∈ ([(cq__law_chain_right, tq__law_chain_right), (cq__law_numbers_right, tq__law_numbers_right), (cq_law, tq_law)] : List (Addr × Addr)), LamX.TabB base mg p.1 p.2) => k__law_ring_of (w := w) (base := base) T F__law_ring_of (PySem.W.mg_of X G a__law_ring_of) B__law_ring_of (c__law_roll base tb) (c__law_one_of base tb) (c__law_common base tb)
  have F__law_chain := fun_mk (st := st__law_chain) l__law_chain d__law_chain e__law_chain
  have B__law_chain := F__law_chain.binds (ps := ["_law_dice_here", "_law_rings", "_law_most"]) fun _ _ _ _ _ _ us hl => match us, hl with | [_, _, _], _ => rfl
  have c__law_chain := fun (base : Heap) (tb : ∀ p ∈ ([(cq__law_chain_right, tq__law_chain_right), (cq__law_numbers_right, tq__law_numbers_right), (cq_law, tq_law)] : List (Addr × Addr)), LamX.TabB base mg p.1 p.2) => k__law_chain (w := w) (base := base) T F__law_chain (PySem.W.mg_of X G a__law_chain) B__law_chain (c__law_roll base tb) (c__law_ring base tb) (c__law_ring_of base tb)
  have F__law_no_chains := fun_mk (st := st__law_no_chains) l__law_no_chains d__law_no_chains e__law_no_chains
  have B__law_no_chains := F__law_no_chains.binds (ps := ["_law_dice_here"]) fun _ _ _ _ _ _ us hl => match us, hl with | [_], _ => rfl
  have c__law_no_chains := fun (base : Heap) (tb : ∀ p ∈ ([(cq__law_chain_right, tq__law_chain_right), (cq__law_numbers_right, tq__law_numbers_right), (cq_law, tq_law)] : List (Addr × Addr)), LamX.TabB base mg p.1 p.2) => k__law_no_chains (w := w) (base := base) T F__law_no_chains (PySem.W.mg_of X G a__law_no_chains) B__law_no_chains (c__law_ring base tb)
  have F__law_no_heaps := fun_mk (st := st__law_no_heaps) l__law_no_heaps d__law_no_heaps e__law_no_heaps
  have B__law_no_heaps := F__law_no_heaps.binds (ps := []) fun _ _ _ _ _ _ us hl => match us, hl with | [], _ => rfl
  have c__law_no_heaps := fun (base : Heap) (tb : ∀ p ∈ ([(cq__law_chain_right, tq__law_chain_right), (cq__law_numbers_right, tq__law_numbers_right), (cq_law, tq_law)] : List (Addr × Addr)), LamX.TabB base mg p.1 p.2) => k__law_no_heaps (w := w) (base := base) T F__law_no_heaps (PySem.W.mg_of X G a__law_no_heaps) B__law_no_heaps 
  have F_is_ring_in := fun_mk (st := st_is_ring_in) l_is_ring_in d_is_ring_in e_is_ring_in
  have B_is_ring_in := F_is_ring_in.binds (ps := ["value"]) fun _ _ _ _ _ _ us hl => match us, hl with | [_], _ => rfl
  have c_is_ring_in := fun (base : Heap) (tb : ∀ p ∈ ([(cq__law_chain_right, tq__law_chain_right), (cq__law_numbers_right, tq__law_numbers_right), (cq_law, tq_law)] : List (Addr × Addr)), LamX.TabB base mg p.1 p.2) => k_is_ring_in (w := w) (base := base) T F_is_ring_in (PySem.W.mg_of X G a_is_ring_in) B_is_ring_in (c_is_within base tb)
  have F_is_chain_in := fun_mk (st := st_is_chain_in) l_is_chain_in d_is_chain_in e_is_chain_in
  have B_is_chain_in := F_is_chain_in.binds (ps := ["value"]) fun _ _ _ _ _ _ us hl => match us, hl with | [_], _ => rfl
  have c_is_chain_in := fun (base : Heap) (tb : ∀ p ∈ ([(cq__law_chain_right, tq__law_chain_right), (cq__law_numbers_right, tq__law_numbers_right), (cq_law, tq_law)] : List (Addr × Addr)), LamX.TabB base mg p.1 p.2) => k_is_chain_in (w := w) (base := base) T F_is_chain_in (PySem.W.mg_of X G a_is_chain_in) B_is_chain_in (c_is_ring_in base tb)
  have F_require_chain := fun_mk (st := st_require_chain) l_require_chain d_require_chain e_require_chain
  have B_require_chain := F_require_chain.binds (ps := ["value"]) fun _ _ _ _ _ _ us hl => match us, hl with | [_], _ => rfl
  have c_require_chain := fun (base : Heap) (tb : ∀ p ∈ ([(cq__law_chain_right, tq__law_chain_right), (cq__law_numbers_right, tq__law_numbers_right), (cq_law, tq_law)] : List (Addr × Addr)), LamX.TabB base mg p.1 p.2) => k_require_chain (w := w) (base := base) T F_require_chain (PySem.W.mg_of X G a_require_chain) B_require_chain (c_is_chain_in base tb)
  have F_cut_counts := fun_mk (st := st_cut_counts) l_cut_counts d_cut_counts e_cut_counts
  have B_cut_counts := F_cut_counts.binds (ps := ["chain", "columns", "rows"]) fun _ _ _ _ _ _ us hl => match us, hl with | [_, _, _], _ => rfl
  have c_cut_counts := fun (base : Heap) (tb : ∀ p ∈ ([(cq__law_chain_right, tq__law_chain_right), (cq__law_numbers_right, tq__law_numbers_right), (cq_law, tq_law)] : List (Addr × Addr)), LamX.TabB base mg p.1 p.2) => k_cut_counts (w := w) (base := base) T F_cut_counts (PySem.W.mg_of X G a_cut_counts) B_cut_counts 
  have F_classes_by_heap := fun_mk (st := st_classes_by_heap) l_classes_by_heap d_classes_by_heap e_classes_by_heap
  have B_classes_by_heap := F_classes_by_heap.binds (ps := ["chain", "columns", "rows"]) fun _ _ _ _ _ _ us hl => match us, hl with | [_, _, _], _ => rfl
  have c_classes_by_heap := fun (base : Heap) (tb : ∀ p ∈ ([(cq__law_chain_right, tq__law_chain_right), (cq__law_numbers_right, tq__law_numbers_right), (cq_law, tq_law)] : List (Addr × Addr)), LamX.TabB base mg p.1 p.2) => k_classes_by_heap (w := w) (base := base) T F_classes_by_heap (PySem.W.mg_of X G a_classes_by_heap) B_classes_by_heap (c_require_chain base tb) (c_cut_counts base tb) (c_require_up_to base tb)
  have F_count_at_least := fun_mk (st := st_count_at_least) l_count_at_least d_count_at_least e_count_at_least
  have B_count_at_least := F_count_at_least.binds (ps := ["chain", "degree", "k"]) fun _ _ _ _ _ _ us hl => match us, hl with | [_, _, _], _ => rfl
  have c_count_at_least := fun (base : Heap) (tb : ∀ p ∈ ([(cq__law_chain_right, tq__law_chain_right), (cq__law_numbers_right, tq__law_numbers_right), (cq_law, tq_law)] : List (Addr × Addr)), LamX.TabB base mg p.1 p.2) => k_count_at_least (w := w) (base := base) T F_count_at_least (PySem.W.mg_of X G a_count_at_least) B_count_at_least 
  have F_is_integer := fun_mk (st := st_is_integer) l_is_integer d_is_integer e_is_integer
  have B_is_integer := F_is_integer.binds (ps := ["value"]) fun _ _ _ _ _ _ us hl => match us, hl with | [_], _ => rfl
  have c_is_integer := fun (base : Heap) (tb : ∀ p ∈ ([(cq__law_chain_right, tq__law_chain_right), (cq__law_numbers_right, tq__law_numbers_right), (cq_law, tq_law)] : List (Addr × Addr)), LamX.TabB base mg p.1 p.2) => k_is_integer (w := w) (base := base) T F_is_integer (PySem.W.mg_of X G a_is_integer) B_is_integer (c_is_whole base tb)
  have F_require_degree := fun_mk (st := st_require_degree) l_require_degree d_require_degree e_require_degree
  have B_require_degree := F_require_degree.binds (ps := ["degree"]) fun _ _ _ _ _ _ us hl => match us, hl with | [_], _ => rfl
  have c_require_degree := fun (base : Heap) (tb : ∀ p ∈ ([(cq__law_chain_right, tq__law_chain_right), (cq__law_numbers_right, tq__law_numbers_right), (cq_law, tq_law)] : List (Addr × Addr)), LamX.TabB base mg p.1 p.2) => k_require_degree (w := w) (base := base) T F_require_degree (PySem.W.mg_of X G a_require_degree) B_require_degree (c_is_integer base tb)
  have F_classes_at_least := fun_mk (st := st_classes_at_least) l_classes_at_least d_classes_at_least e_classes_at_least
  have B_classes_at_least := F_classes_at_least.binds (ps := ["chain", "degree", "k"]) fun _ _ _ _ _ _ us hl => match us, hl with | [_, _, _], _ => rfl
  have c_classes_at_least := fun (base : Heap) (tb : ∀ p ∈ ([(cq__law_chain_right, tq__law_chain_right), (cq__law_numbers_right, tq__law_numbers_right), (cq_law, tq_law)] : List (Addr × Addr)), LamX.TabB base mg p.1 p.2) => k_classes_at_least (w := w) (base := base) T F_classes_at_least (PySem.W.mg_of X G a_classes_at_least) B_classes_at_least (c_require_chain base tb) (c_count_at_least base tb) (c_require_up_to base tb) (c_require_degree base tb)
  have F_count_by_richness := fun_mk (st := st_count_by_richness) l_count_by_richness d_count_by_richness e_count_by_richness
  have B_count_by_richness := F_count_by_richness.binds (ps := ["chain", "degree"]) fun _ _ _ _ _ _ us hl => match us, hl with | [_, _], _ => rfl
  have c_count_by_richness := fun (base : Heap) (tb : ∀ p ∈ ([(cq__law_chain_right, tq__law_chain_right), (cq__law_numbers_right, tq__law_numbers_right), (cq_law, tq_law)] : List (Addr × Addr)), LamX.TabB base mg p.1 p.2) => k_count_by_richness (w := w) (base := base) T F_count_by_richness (PySem.W.mg_of X G a_count_by_richness) B_count_by_richness 
  have F_classes_by_richness := fun_mk (st := st_classes_by_richness) l_classes_by_richness d_classes_by_richness e_classes_by_richness
  have B_classes_by_richness := F_classes_by_richness.binds (ps := ["chain", "degree"]) fun _ _ _ _ _ _ us hl => match us, hl with | [_, _], _ => rfl
  have c_classes_by_richness := fun (base : Heap) (tb : ∀ p ∈ ([(cq__law_chain_right, tq__law_chain_right), (cq__law_numbers_right, tq__law_numbers_right), (cq_law, tq_law)] : List (Addr × Addr)), LamX.TabB base mg p.1 p.2) => k_classes_by_richness (w := w) (base := base) T F_classes_by_richness (PySem.W.mg_of X G a_classes_by_richness) B_classes_by_richness (c_require_chain base tb) (c_count_by_richness base tb) (c_require_degree base tb)
  have F__law_chain_right := FunC.of (st := st__law_chain_right) l__law_chain_right d__law_chain_right e__law_chain_right
  have B__law_chain_right := F__law_chain_right.fun.binds (ps := ["_law_chain_here", "_law_bad"]) fun _ _ _ _ _ _ us hl => match us, hl with | [_, _], _ => rfl
  have c__law_chain_right := fun (base : Heap) (tb : ∀ p ∈ ([(cq__law_chain_right, tq__law_chain_right), (cq__law_numbers_right, tq__law_numbers_right), (cq_law, tq_law)] : List (Addr × Addr)), LamX.TabB base mg p.1 p.2) => k__law_chain_right (w := w) (base := base) T (tb (cq__law_chain_right, tq__law_chain_right) (by simp)) hm__law_chain_right hu__law_chain_right F__law_chain_right (PySem.W.mg_of X G a__law_chain_right) B__law_chain_right (c_classes_by_heap base tb) (c_classes_at_least base tb) (c_classes_by_richness base tb) (e__law_heard base)
  have F__law_numbers_right := FunC.of (st := st__law_numbers_right) l__law_numbers_right d__law_numbers_right e__law_numbers_right
  have B__law_numbers_right := F__law_numbers_right.fun.binds (ps := ["_law_chain_here"]) fun _ _ _ _ _ _ us hl => match us, hl with | [_], _ => rfl
  have c__law_numbers_right := fun (base : Heap) (tb : ∀ p ∈ ([(cq__law_chain_right, tq__law_chain_right), (cq__law_numbers_right, tq__law_numbers_right), (cq_law, tq_law)] : List (Addr × Addr)), LamX.TabB base mg p.1 p.2) => k__law_numbers_right (w := w) (base := base) T (tb (cq__law_numbers_right, tq__law_numbers_right) (by simp)) hm__law_numbers_right hu__law_numbers_right F__law_numbers_right (PySem.W.mg_of X G a__law_numbers_right) B__law_numbers_right (c_classes_by_heap base tb) (c_classes_at_least base tb) (c_classes_by_richness base tb) (c_doubled_fillings base tb) (e__law_heard base)
  have F_law := FunC.of (st := st_law) l_law d_law e_law
  refine ⟨_, [(cq__law_chain_right, tq__law_chain_right), (cq__law_numbers_right, tq__law_numbers_right), (cq_law, tq_law)], spS K mg 1 m_law, ?_, fun s v => .of_eq rfl, fun H a ns hl hT hS => Sm.law_end law_true ⟨a, ns, rfl, hS, hl, fun _ => rfl⟩ ?_, fun base _ _ tb => ok_law T (tb (cq_law, tq_law) (by simp)) hm_law hu_law F_law (c_standard_fillings base tb) (c_doubled_fillings base tb) (c__law_dice base tb) (c__law_roll base tb) (c__law_chain base tb) (c__law_no_chains base tb) (c__law_no_heaps base tb) (c__law_chain_right base tb) (c__law_numbers_right base tb) (e__law_heard base)⟩
  · intro p hp
    simp only [List.mem_cons, List.not_mem_nil, or_false] at hp
    rcases hp with rfl | rfl | rfl
    · exact ⟨tf__law_chain_right.2, tn__law_chain_right, tf__law_chain_right.1⟩
    · exact ⟨tf__law_numbers_right.2, tn__law_numbers_right, tf__law_numbers_right.1⟩
    · exact ⟨tf_law.2, tn_law, tf_law.1⟩
  · intro p hp
    have hp : p ∈ ([(tq__law_chain_right, ("_law_chain_right" ++ ".<locals>." ++ "<lambda>" : Str)), (tq__law_numbers_right, ("_law_numbers_right" ++ ".<locals>." ++ "<lambda>" : Str)), (tq_law, ("law" ++ ".<locals>." ++ "<lambda>" : Str))] : List (Addr × Str)) := hp
    simp only [List.mem_cons, List.not_mem_nil, or_false] at hp
    rcases hp with rfl | rfl | rfl
    · exact hT (cq__law_chain_right, tq__law_chain_right) (by simp)
    · exact hT (cq__law_numbers_right, tq__law_numbers_right) (by simp)
    · exact hT (cq_law, tq_law) (by simp)
end
end Sk58
end
section
set_option maxRecDepth 100000
set_option maxHeartbeats 0
set_option exponentiation.threshold 1000000
namespace Sm
open PySem L2
/-! ### reckoning with typed lists -/
theorem lcs_T {α : Type} {g : Gd} {t : Tg} {c : S Bool} {x : S D} {e : Env} {C : Cells} (hg : g C = true) (en : α → D) (p : α → Bool) (f : α → D) : ∀ (xs : List α), (∀ a ∈ xs, ∃ e1, t.put (en a) e = some e1 ∧ c e1 C = some (.ok (p a) C) ∧ (p a = true → x e1 C = some (.ok (f a) C))) →
    lcs g t c x (xs.map en) e C = some (.ok ((xs.filter p).map f) C)
  | [], _ => by
    show lcs g t c x [] e C = _
    unfold lcs
    rw [if_pos hg]
    rfl
  | d :: r, h => by
    obtain ⟨e1, h1, h2, h3⟩ := h d List.mem_cons_self
    have ih := lcs_T hg en p f r fun d' hd' => h d' (List.mem_cons_of_mem _ hd')
    rw [List.map_cons]
    unfold lcs
    rw [if_pos hg, h1]
    cases hp : p d with
    | false =>
      rw [hp] at h2
      simp only [h2, ih, List.filter_cons, hp, Bool.false_eq_true, if_false]
    | true =>
      rw [hp] at h2
      simp only [h2, h3 hp, ih, List.filter_cons, hp, if_true, List.map_cons]
/-- a comprehension with a test -/
theorem lc_T {α : Type} {it : SW} {t : Tg} {c : S Bool} {x : S D} {vs : List Nat} {e : Env} {C : Cells} {g : Gd} (en : α → D) (xs : List α) (p : α → Bool) (f : α → D) (hi : it e C = some (.ok (xs.map en, g) C)) (hg : g C = true) (hl : xs.length ≤ 1000000)
    (h : ∀ a ∈ xs, ∃ e1, t.put (en a) (wipeE e vs) = some e1 ∧ c e1 C = some (.ok (p a) C) ∧ (p a = true → x e1 C = some (.ok (f a) C))) : xLc it t c x vs e C = some (.ok ((xs.filter p).map f) C) :=
  xLc_ok hi (by rw [List.length_map]; exact hl) (lcs_T hg en p f xs h)
/-- a comprehension without a test -/
theorem lc_T0 {α : Type} {it : SW} {t : Tg} {x : S D} {vs : List Nat} {e : Env} {C : Cells} {g : Gd} (en : α → D) (xs : List α) (f : α → D) (hi : it e C = some (.ok (xs.map en, g) C)) (hg : g C = true) (hl : xs.length ≤ 1000000)
    (h : ∀ a ∈ xs, ∃ e1, t.put (en a) (wipeE e vs) = some e1 ∧ x e1 C = some (.ok (f a) C)) : xLc it t (S.val true) x vs e C = some (.ok (xs.map f) C) := by
  have e1 := lc_T (c := S.val true) (x := x) (vs := vs) (t := t) en xs (fun _ => true) f hi hg hl fun a ha => by
    obtain ⟨e1, h1, h2⟩ := h a ha
    exact ⟨e1, h1, rfl, fun _ => h2⟩
  rwa [List.filter_eq_self.mpr fun _ _ => rfl] at e1
/-- a loop with a state -/
theorem lp_T {α σ : Type} {t : Tg} {b : SS} (en : α → D) (f : σ → α → σ) (R : σ → Env → Cells → Prop) : ∀ (xs : List α) (s : σ) (e : Env) (C : Cells), R s e C → (∀ a ∈ xs, ∀ s e C, R s e C → ∃ e1, t.put (en a) e = some e1 ∧ ∃ e2 C2, b e1 C = some (.nx e2 C2) ∧ R (f s a) e2 C2) →
    ∃ e2 C2, lp gd0 t b (xs.map en) e C = some (.nx e2 C2) ∧ R (xs.foldl f s) e2 C2
  | [], s, e, C, h, _ => ⟨e, C, by show lp gd0 t b [] e C = _; unfold lp; rfl, h⟩
  | d :: r, s, e, C, h, hs => by
    obtain ⟨e1, h1, e2, C2, h2, h3⟩ := hs d List.mem_cons_self s e C h
    obtain ⟨e3, C3, g1, g2⟩ := lp_T en f R r (f s d) e2 C2 h3 fun d' hd' => hs d' (List.mem_cons_of_mem _ hd')
    refine ⟨e3, C3, ?_, g2⟩
    rw [List.map_cons]
    unfold lp
    simp only [gd0, if_true, h1, h2, g1]
theorem seq_nx {a b : SS} {e e' : Env} {C C' : Cells} (h : a e C = some (.nx e' C')) : xSeq a b e C = b e' C' := by
  unfold xSeq
  rw [h]
abbrev iD (ns : List Int) : List D := ns.map D.int
/-- a tuple, a list of ints -/
abbrev iT (ns : List Int) : D := .tup (ns.map D.int)
abbrev iL (ns : List Int) : D := .lst (ns.map D.int)
theorem nocels_i : ∀ ns : List Int, nocels (ns.map D.int) = true
  | [] => rfl
  | n :: ns => by
    show (nocel (.int n) && nocels (ns.map D.int)) = true
    rw [nocels_i ns]
    rfl
theorem nocels_all : ∀ {ds : List D}, (∀ d ∈ ds, nocel d = true) → nocels ds = true
  | [], _ => rfl
  | d :: ds, h => by
    simp only [nocels, h d List.mem_cons_self, nocels_all fun d' hd' => h d' (List.mem_cons_of_mem _ hd'), Bool.and_true]
theorem okEs_i : ∀ (ns : List Int) (k : Nat), okEs (ns.map D.int) k = true
  | [], k => by simp [okEs]
  | n :: ns, k => by
    rw [List.map_cons]
    cases k <;> simp [okEs, okE, okEs_i ns]
theorem ixN_i {n : Nat} {i : Int} (h0 : 0 ≤ i) (h1 : i < n) : ixN n i = some i.toNat := by
  unfold ixN
  simp [h0, h1]
theorem getD_map {ns : List Int} {i : Nat} (h : i < ns.length) : (ns.map D.int)[i]? = some (.int (ns.getD i 0)) := by
  rw [List.getElem?_map, List.getD_eq_getElem?_getD, List.getElem?_eq_getElem h]
  rfl
theorem ix_T {ns : List Int} {i : Nat} (h : i < ns.length) : dIx (iT ns) (.int (i : Nat)) = some (.int (ns.getD i 0)) := by
  have hl : i < (ns.map D.int).length := by rw [List.length_map]; exact h
  unfold dIx atI
  simp only [ixN_nat hl, Option.bind_some, getD_map h]
theorem ix_L {ns : List Int} {i : Nat} (h : i < ns.length) : dIx (iL ns) (.int (i : Nat)) = some (.int (ns.getD i 0)) := by
  have hl : i < (ns.map D.int).length := by rw [List.length_map]; exact h
  unfold dIx atI
  simp only [ixN_nat hl, Option.bind_some, getD_map h]
theorem eqd_i : ∀ xs ys : List Int, eqds (xs.map D.int) (ys.map D.int) = decide (xs = ys)
  | [], [] => by simp [eqds]
  | [], y :: ys => by simp [eqds]
  | x :: xs, [] => by simp [eqds]
  | x :: xs, y :: ys => by
    rw [List.map_cons, List.map_cons]
    simp only [eqds, eqd_i xs ys, eqd]
    by_cases h : x = y <;> simp [h]
theorem bls_T {α : Type} (p : α → Bool) : ∀ xs : List α, bls (xs.map fun a => .bl (p a)) = some (xs.map p)
  | [] => rfl
  | d :: ds => by
    show ((bls (ds.map fun d => .bl (p d))).map (p d :: ·)) = _
    rw [bls_T p ds]
    rfl
theorem all_T {α : Type} (p : α → Bool) (xs : List α) : dAll [.lst (xs.map fun a => .bl (p a))] = some (.bl (xs.all p)) := by
  unfold dAll
  simp only [bls_T, Option.map_some, List.all_map]
  rfl
theorem any_T {α : Type} (p : α → Bool) (xs : List α) : dAny [.lst (xs.map fun a => .bl (p a))] = some (.bl (xs.any p)) := by
  unfold dAny
  simp only [bls_T, Option.map_some, List.any_map]
  rfl
end Sm
end
section
set_option maxRecDepth 100000
set_option maxHeartbeats 0
set_option exponentiation.threshold 1000000
namespace Sm
open PySem L2
theorem prs_map2 {α β : Type} (f : α → D) (g : β → D) (xs : List α) (ys : List β) : prs (xs.map f) (ys.map g) = (xs.zip ys).map fun p => .tup [f p.1, g p.2] := by
  unfold prs
  rw [List.zip_map, List.map_map]
  rfl
theorem enums_map {α : Type} (f : α → D) (xs : List α) : enums (xs.map f) = (xs.zipIdx 0).map fun p => .tup [.int (p.2 : Nat), f p.1] := by
  unfold enums
  rw [List.zipIdx_map, List.map_map]
  rfl
theorem cut_from {ds : List D} {n : Nat} : cutD ds (some (n : Int)) none = ds.drop n := by
  unfold cutD
  rw [HT.sIx_nat, HT.sIx_none]
  by_cases h : n ≤ ds.length
  · rw [Nat.min_eq_left h, List.take_of_length_le (by rw [List.length_drop]; exact Nat.le_refl _)]
  · rw [Nat.min_eq_right (by omega), List.drop_of_length_le (Nat.le_refl _), List.drop_of_length_le (by omega), List.take_nil]
theorem cut_to {ds : List D} {n : Nat} : cutD ds none (some (n : Int)) = ds.take n := by
  unfold cutD
  rw [HT.sIx_nat, HT.sIx_none, List.drop_zero, Nat.sub_zero]
  by_cases h : n ≤ ds.length
  · rw [Nat.min_eq_left h]
  · rw [Nat.min_eq_right (by omega), List.take_of_length_le (Nat.le_refl _), List.take_of_length_le (by omega)]
theorem lcs2_T {α β : Type} {g : Gd} {t t1 : Tg} {c : S Bool} {it1 : SW} {c1 : S Bool} {x : S D} {e : Env} {vs1 : List Nat} {C : Cells} (hg : g C = true) (en : α → D) (en1 : β → D) (ys : α → List β) (p : α → Bool) (p1 : α → β → Bool) (f : α → β → D) : ∀ (xs : List α),
    (∀ a ∈ xs, ∃ e1, t.put (en a) e = some e1 ∧ c e1 C = some (.ok (p a) C) ∧ (p a = true → ∃ g1, it1 e1 C = some (.ok ((ys a).map en1, g1) C) ∧ g1 C = true ∧ ∀ b ∈ ys a, ∃ e2, t1.put (en1 b) (wipeE e1 vs1) = some e2 ∧ c1 e2 C = some (.ok (p1 a b) C) ∧ (p1 a b = true → x e2 C = some (.ok (f a b) C)))) →
    lcs2 g t c it1 t1 c1 x vs1 (xs.map en) e C = some (.ok ((xs.filter p).flatMap fun a => ((ys a).filter (p1 a)).map (f a)) C)
  | [], _ => by
    show lcs2 g t c it1 t1 c1 x vs1 [] e C = _
    unfold lcs2
    rw [if_pos hg]
    rfl
  | a :: r, h => by
    obtain ⟨e1, h1, h2, h3⟩ := h a List.mem_cons_self
    have ih := lcs2_T hg en en1 ys p p1 f r fun d' hd' => h d' (List.mem_cons_of_mem _ hd')
    rw [List.map_cons]
    unfold lcs2
    rw [if_pos hg, h1]
    cases hp : p a with
    | false =>
      rw [hp] at h2
      simp only [h2, ih, List.filter_cons, hp, Bool.false_eq_true, if_false]
    | true =>
      rw [hp] at h2
      obtain ⟨g1, k1, k2, k3⟩ := h3 hp
      have k4 := lcs_T k2 en1 (p1 a) (f a) (ys a) k3
      simp only [h2, k1, k4, ih, List.filter_cons, hp, if_true, List.flatMap_cons]
theorem lc2_T {α β : Type} {it it1 : SW} {t t1 : Tg} {c c1 : S Bool} {x : S D} {vs vs1 : List Nat} {e : Env} {C : Cells} {g : Gd} (en : α → D) (en1 : β → D) (xs : List α) (ys : α → List β) (p : α → Bool) (p1 : α → β → Bool) (f : α → β → D) (hi : it e C = some (.ok (xs.map en, g) C)) (hg : g C = true)
    (hl : ((xs.filter p).flatMap fun a => ((ys a).filter (p1 a)).map (f a)).length ≤ 1000000)
    (h : ∀ a ∈ xs, ∃ e1, t.put (en a) (wipeE e vs) = some e1 ∧ c e1 C = some (.ok (p a) C) ∧ (p a = true → ∃ g1, it1 e1 C = some (.ok ((ys a).map en1, g1) C) ∧ g1 C = true ∧ ∀ b ∈ ys a, ∃ e2, t1.put (en1 b) (wipeE e1 vs1) = some e2 ∧ c1 e2 C = some (.ok (p1 a b) C) ∧ (p1 a b = true → x e2 C = some (.ok (f a b) C)))) :
    xLc2 it t c it1 t1 c1 x vs vs1 e C = some (.ok ((xs.filter p).flatMap fun a => ((ys a).filter (p1 a)).map (f a)) C) := by
  have k := lcs2_T (t := t) (t1 := t1) (c := c) (c1 := c1) (x := x) (it1 := it1) (vs1 := vs1) (e := wipeE e vs) hg en en1 ys p p1 f xs h
  unfold xLc2 S.bind
  simp only [hi, k, hl, if_true]
/-- without tests -/
theorem lc2_T0 {α β : Type} {it it1 : SW} {t t1 : Tg} {x : S D} {vs vs1 : List Nat} {e : Env} {C : Cells} {g : Gd} (en : α → D) (en1 : β → D) (xs : List α) (ys : α → List β) (f : α → β → D) (hi : it e C = some (.ok (xs.map en, g) C)) (hg : g C = true)
    (hl : (xs.flatMap fun a => (ys a).map (f a)).length ≤ 1000000)
    (h : ∀ a ∈ xs, ∃ e1, t.put (en a) (wipeE e vs) = some e1 ∧ ∃ g1, it1 e1 C = some (.ok ((ys a).map en1, g1) C) ∧ g1 C = true ∧ ∀ b ∈ ys a, ∃ e2, t1.put (en1 b) (wipeE e1 vs1) = some e2 ∧ x e2 C = some (.ok (f a b) C)) :
    xLc2 it t (S.val true) it1 t1 (S.val true) x vs vs1 e C = some (.ok (xs.flatMap fun a => (ys a).map (f a)) C) := by
  have F1 : ∀ {γ : Type} (l : List γ), l.filter (fun _ => true) = l := fun l => List.filter_eq_self.mpr fun _ _ => rfl
  have k := lc2_T (t := t) (t1 := t1) (c := S.val true) (c1 := S.val true) (x := x) (it1 := it1) (vs := vs) (vs1 := vs1) en en1 xs ys (fun _ => true) (fun _ _ => true) f hi hg (by simp only [F1]; exact hl) fun a ha => by
    obtain ⟨e1, h1, g1, h2, h3, h4⟩ := h a ha
    refine ⟨e1, h1, rfl, fun _ => ⟨g1, h2, h3, fun b hb => ?_⟩⟩
    obtain ⟨e2, h5, h6⟩ := h4 b hb
    exact ⟨e2, h5, rfl, fun _ => h6⟩
  simpa only [F1] using k
theorem rng1_T {n : Nat} (h : n ≤ 1000000) : rng1 [.int (n : Int)] = some ((List.range n).map fun i => D.int (i : Nat), gd0) := by
  rw [rng1_nat h]
  unfold zs
  congr 2
  apply List.map_congr_left
  intro i _
  congr 1
  omega
theorem rng1_Z {z : Int} (h0 : 0 ≤ z) (h : z ≤ 1000000) : rng1 [.int z] = some ((List.range z.toNat).map fun i => D.int (i : Nat), gd0) := by
  obtain ⟨k, rfl⟩ := Int.eq_ofNat_of_zero_le h0
  exact rng1_T (by omega)
theorem at10 {a : D} : atI [a] 0 = some a := rfl
theorem at20 {a b : D} : atI [a, b] 0 = some a := rfl
theorem at21 {a b : D} : atI [a, b] 1 = some b := rfl
theorem at30 {a b c : D} : atI [a, b, c] 0 = some a := rfl
theorem at31 {a b c : D} : atI [a, b, c] 1 = some b := rfl
theorem at32 {a b c : D} : atI [a, b, c] 2 = some c := rfl
theorem cst0 : ((0 : Nat) : Int) = 0 := rfl
theorem cst1 : ((1 : Nat) : Int) = 1 := rfl
theorem cst2 : ((2 : Nat) : Int) = 2 := rfl
theorem cst3 : ((3 : Nat) : Int) = 3 := rfl
/-- a loop with a state; each turn knows what came before it -/
theorem lp_P {α σ : Type} {t : Tg} {b : SS} (en : α → D) (f : σ → α → σ) (R : σ → Env → Cells → Prop) : ∀ (xs : List α) (s : σ) (e : Env) (C : Cells), R s e C → (∀ pre a post e C, xs = pre ++ a :: post → R (pre.foldl f s) e C → ∃ e1, t.put (en a) e = some e1 ∧ ∃ e2 C2, b e1 C = some (.nx e2 C2) ∧ R (f (pre.foldl f s) a) e2 C2) →
    ∃ e2 C2, lp gd0 t b (xs.map en) e C = some (.nx e2 C2) ∧ R (xs.foldl f s) e2 C2
  | [], s, e, C, h, _ => ⟨e, C, by show lp gd0 t b [] e C = _; unfold lp; rfl, h⟩
  | d :: r, s, e, C, h, hs => by
    obtain ⟨e1, h1, e2, C2, h2, h3⟩ := hs [] d r e C rfl h
    obtain ⟨e3, C3, g1, g2⟩ := lp_P en f R r (f s d) e2 C2 h3 fun pre a post e C hx hR => hs (d :: pre) a post e C (by rw [hx]; rfl) hR
    refine ⟨e3, C3, ?_, g2⟩
    rw [List.map_cons]
    unfold lp
    simp only [gd0, if_true, h1, h2, g1]
theorem range_split {n : Nat} {pre post : List Nat} {a : Nat} (h : List.range n = pre ++ a :: post) : pre = List.range a ∧ a < n := by
  have hl : n = pre.length + (post.length + 1) := by
    have := congrArg List.length h
    simpa using this
  have ha : a = pre.length := by
    have := congrArg (fun l => l[pre.length]?) h
    simp [List.getElem?_range (show pre.length < n by omega)] at this
    exact this.symm
  refine ⟨?_, by omega⟩
  have := congrArg (List.take pre.length) h
  rw [List.take_left, List.take_range, Nat.min_eq_left (by omega)] at this
  rw [← this, ← ha]
theorem rng2_ok {i j : Int} (h0 : -1000000 ≤ i ∧ i ≤ 1000000) (h1 : -1000000 ≤ j ∧ j ≤ 1000000) : rng2 [.int i, .int j] = some (zs i (j - i).toNat, gd0) := by
  have h : inRng i = true ∧ inRng j = true := ⟨inRng_iff.mpr (by omega), inRng_iff.mpr (by omega)⟩
  unfold rng2
  simp only [h, and_self, if_true]
theorem rng3_ok {i : Int} (h0 : -1 ≤ i ∧ i ≤ 1000000) : rng3 [.int i, .int (-1), .int (-1)] = some (zsD i (i + 1).toNat, gd0) := by
  have h : inRng i = true ∧ inRng (-1) = true := ⟨inRng_iff.mpr (by omega), inRng_iff.mpr (by omega)⟩
  unfold rng3
  simp only [h, and_self, if_true]
  rw [show i - -1 = i + 1 by omega]
theorem iR2_ok {s : S (List D)} {e : Env} {C C1 : Cells} {i j : Int} (h : s e C = some (.ok [.int i, .int j] C1)) (h0 : -1000000 ≤ i ∧ i ≤ 1000000) (h1 : -1000000 ≤ j ∧ j ≤ 1000000) : iR2 s e C = some (.ok (zs i (j - i).toNat, gd0) C1) := by
  unfold iR2 S.bind
  simp only [h, rng2_ok h0 h1]
  rfl
/-- a loop, by what it has done -/
theorem lp_pre {α : Type} {t : Tg} {b : SS} (en : α → D) (R : List α → Env → Cells → Prop) (xs : List α) (e : Env) (C : Cells) (h : R [] e C) (hs : ∀ pre a post e C, xs = pre ++ a :: post → R pre e C → ∃ e1, t.put (en a) e = some e1 ∧ ∃ e2 C2, b e1 C = some (.nx e2 C2) ∧ R (pre ++ [a]) e2 C2) :
    ∃ e2 C2, lp gd0 t b (xs.map en) e C = some (.nx e2 C2) ∧ R xs e2 C2 := by
  have hf : ∀ (l acc : List α), l.foldl (fun s a => s ++ [a]) acc = acc ++ l := fun l => by
    induction l with
    | nil => simp
    | cons a r ih => intro acc; rw [List.foldl_cons, ih]; simp
  obtain ⟨e2, C2, h1, h2⟩ := lp_P (t := t) (b := b) en (fun (s : List α) a => s ++ [a]) R xs [] e C h fun pre a post e C hx hR => by
    rw [hf, List.nil_append] at hR ⊢
    exact hs pre a post e C hx hR
  rw [hf, List.nil_append] at h2
  exact ⟨e2, C2, h1, h2⟩
theorem set_at {C : Cells} {n : Nat} {x y : Option Ob} (h : n < C.length) : (C.set n y)[n]? = some y := List.getElem?_set_self h
theorem any_i (z : Int) (bs : List Int) : ((bs.map D.int).any fun d => eqd d (.int z)) = bs.any fun b => b == z := by
  rw [List.any_map]
  rfl
theorem dIn_i (z : Int) (bs : List Int) : dInA (.int z) (iL bs) = some (.bl (bs.any fun b => b == z)) := by
  have h1 : okE (iL bs) 60 = true := okEs_i bs 59
  show (if okE (D.int z) 60 = true ∧ okE (iL bs) 60 = true then some (D.bl ((bs.map D.int).any fun d => eqd d (.int z))) else none) = _
  rw [if_pos ⟨rfl, h1⟩, any_i]
theorem dNotIn_i (z : Int) (bs : List Int) : dNotInA (.int z) (iL bs) = some (.bl (!bs.any fun b => b == z)) := by
  have h1 : okE (iL bs) 60 = true := okEs_i bs 59
  show (if okE (D.int z) 60 = true ∧ okE (iL bs) 60 = true then some (D.bl (!(bs.map D.int).any fun d => eqd d (.int z))) else none) = _
  rw [if_pos ⟨rfl, h1⟩, any_i]
theorem fin_iL {C : Cells} {ns : List Int} : fin C.length (iL ns) C = some (.ok (iL ns) C) := by
  rw [fin_n (show nocel (iL ns) = true from nocels_i ns), List.take_length]
theorem fin_iT {C : Cells} {ns : List Int} : fin C.length (iT ns) C = some (.ok (iT ns) C) := by
  rw [fin_n (show nocel (iT ns) = true from nocels_i ns), List.take_length]
end Sm
end
section
set_option maxRecDepth 100000
set_option maxHeartbeats 0
namespace Sm
open PySem L2
/-! ### dicts from pairs of ints to ints -/
abbrev Dl := List ((Int × Int) × Int)
def kP (p : Int × Int) : List Key := [.inl p.1, .inl p.2]
def dks (f : Dl) : List (List Key) := f.map fun e => kP e.1
def dvs (f : Dl) : List D := f.map fun e => .int e.2
def dlD (f : Dl) : D := .dt (dks f) (dvs f)
def rdP (p : Int × Int) : D := .tup [.int p.1, .int p.2]
theorem kT_kP (p : Int × Int) : kT (kP p) = rdP p := rfl
theorem ky_rdP (p : Int × Int) : ky (rdP p) = some (kP p) := rfl
theorem kP_inj {a b : Int × Int} (h : kP a = kP b) : a = b := by
  obtain ⟨a1, a2⟩ := a
  obtain ⟨b1, b2⟩ := b
  simp only [kP, List.cons.injEq, Sum.inl.injEq, and_true] at h
  rw [h.1, h.2]
def getL : Dl → Int × Int → Option Int
  | [], _ => none
  | e :: f, p => if e.1 = p then some e.2 else getL f p
def hasL (f : Dl) (p : Int × Int) : Bool := (getL f p).isSome
def putL (f : Dl) (p : Int × Int) (c : Int) : Dl := if hasL f p = true then f.map (fun e => if e.1 = p then (p, c) else e) else f ++ [(p, c)]
def Nd (f : Dl) : Prop := (f.map (·.1)).Nodup
theorem dVal_dl (p : Int × Int) : ∀ f : Dl, dVal (dks f) (dvs f) (kP p) = (getL f p).map D.int
  | [] => rfl
  | e :: f => by
    show (if kP e.1 = kP p then some (D.int e.2) else dVal (dks f) (dvs f) (kP p)) = (if e.1 = p then some e.2 else getL f p).map D.int
    by_cases h : e.1 = p
    · rw [if_pos (by rw [h]), if_pos h]
      rfl
    · rw [if_neg (fun q => h (kP_inj q)), if_neg h]
      exact dVal_dl p f
theorem hasK_dl (p : Int × Int) : ∀ f : Dl, hasK (dks f) (kP p) = hasL f p
  | [] => rfl
  | e :: f => by
    have ih := hasK_dl p f
    show (decide (kP e.1 = kP p) || hasK (dks f) (kP p)) = (if e.1 = p then some e.2 else getL f p).isSome
    rw [ih]
    by_cases h : e.1 = p
    · rw [if_pos h, decide_eq_true (by rw [h])]
      rfl
    · rw [if_neg h, decide_eq_false (fun q => h (kP_inj q))]
      rfl
theorem hasL_iff {p : Int × Int} : ∀ {f : Dl}, hasL f p = true ↔ p ∈ f.map (·.1)
  | [] => by simp [hasL, getL]
  | e :: f => by
    have ih := hasL_iff (p := p) (f := f)
    unfold hasL getL
    by_cases h : e.1 = p
    · simp [h]
    · rw [if_neg h]
      have h' : ¬ p = e.1 := fun q => h q.symm
      rw [List.map_cons, List.mem_cons]
      simp only [h', false_or]
      exact ih
theorem addK_dl (f : Dl) (p : Int × Int) (c : Int) : addK (dks f) (kP p) = dks (putL f p c) := by
  unfold addK putL
  rw [hasK_dl]
  by_cases h : hasL f p = true
  · rw [if_pos h, if_pos h]
    unfold dks
    rw [List.map_map]
    apply List.map_congr_left
    intro e _
    show kP e.1 = kP (if e.1 = p then (p, c) else e).1
    by_cases q : e.1 = p
    · rw [if_pos q, q]
    · rw [if_neg q]
  · rw [if_neg h, if_neg h]
    unfold dks
    rw [List.map_append]
    rfl
theorem zw_dl (p : Int × Int) (c : Int) : ∀ f : Dl, List.zipWith (fun k' y => if k' = kP p then D.int c else y) (dks f) (dvs f) = dvs (f.map fun e => if e.1 = p then (p, c) else e)
  | [] => rfl
  | e :: f => by
    show (if kP e.1 = kP p then D.int c else D.int e.2) :: List.zipWith _ (dks f) (dvs f) = D.int (if e.1 = p then (p, c) else e).2 :: dvs (f.map _)
    rw [zw_dl p c f]
    by_cases h : e.1 = p
    · rw [if_pos (by rw [h]), if_pos h]
    · rw [if_neg (fun q => h (kP_inj q)), if_neg h]
theorem putV_dl (f : Dl) (p : Int × Int) (c : Int) : putV (dks f) (dvs f) (kP p) (.int c) = dvs (putL f p c) := by
  unfold putV putL
  rw [hasK_dl]
  by_cases h : hasL f p = true
  · rw [if_pos h, if_pos h, zw_dl]
  · rw [if_neg h, if_neg h]
    unfold dvs
    rw [List.map_append]
    rfl
theorem dks_len (f : Dl) : (dks f).length = f.length := List.length_map _
theorem keys_put (f : Dl) (p : Int × Int) (c : Int) : (putL f p c).map (·.1) = if hasL f p = true then f.map (·.1) else f.map (·.1) ++ [p] := by
  unfold putL
  by_cases h : hasL f p = true
  · rw [if_pos h, if_pos h, List.map_map]
    apply List.map_congr_left
    intro e _
    show (if e.1 = p then (p, c) else e).1 = e.1
    by_cases q : e.1 = p
    · rw [if_pos q, q]
    · rw [if_neg q]
  · rw [if_neg h, if_neg h, List.map_append]
    rfl
theorem nd_nil : Nd [] := List.nodup_nil
theorem nd_put {f : Dl} (h : Nd f) (p : Int × Int) (c : Int) : Nd (putL f p c) := by
  unfold Nd
  rw [keys_put]
  by_cases q : hasL f p = true
  · rw [if_pos q]
    exact h
  · rw [if_neg q, List.nodup_append]
    refine ⟨h, by simp, fun a ha b hb => ?_⟩
    rw [List.mem_singleton] at hb
    subst hb
    intro e
    subst e
    exact q (hasL_iff.mpr ha)
theorem put_len (f : Dl) (p : Int × Int) (c : Int) : (putL f p c).length ≤ f.length + 1 := by
  unfold putL
  split
  · rw [List.length_map]
    omega
  · rw [List.length_append]
    exact Nat.le_refl _
theorem put_mem {f : Dl} {p : Int × Int} {c : Int} {e : (Int × Int) × Int} (h : e ∈ putL f p c) : e ∈ f ∨ e = (p, c) := by
  unfold putL at h
  split at h
  · obtain ⟨x, hx, rfl⟩ := List.mem_map.mp h
    by_cases q : x.1 = p
    · rw [if_pos q]
      exact .inr rfl
    · rw [if_neg q]
      exact .inl hx
  · rcases List.mem_append.mp h with h | h
    · exact .inl h
    · exact .inr (List.mem_singleton.mp h)
theorem getL_mem : ∀ {f : Dl} {p : Int × Int} {c : Int}, getL f p = some c → (p, c) ∈ f
  | e :: f, p, c, h => by
    unfold getL at h
    by_cases q : e.1 = p
    · rw [if_pos q] at h
      cases h
      rw [← q]
      exact List.mem_cons_self
    · rw [if_neg q] at h
      exact List.mem_cons_of_mem _ (getL_mem h)
theorem getL_of : ∀ {f : Dl} {e : (Int × Int) × Int}, Nd f → e ∈ f → getL f e.1 = some e.2
  | x :: f, e, hn, h => by
    have hn' : (x.1 :: f.map (·.1)).Nodup := hn
    rw [List.nodup_cons] at hn'
    unfold getL
    rcases List.mem_cons.mp h with rfl | h
    · rw [if_pos rfl]
    · have : ¬ x.1 = e.1 := fun q => hn'.1 (by rw [q]; exact List.mem_map.mpr ⟨e, h, rfl⟩)
      rw [if_neg this]
      exact getL_of hn'.2 h
/-- a sum over a dict -/
def Sf (ψ : Int × Int → Int → Int) (f : Dl) : Int := (f.map fun e => ψ e.1 e.2).sum
theorem Sf_cons (ψ : Int × Int → Int → Int) (e : (Int × Int) × Int) (f : Dl) : Sf ψ (e :: f) = ψ e.1 e.2 + Sf ψ f := rfl
theorem Sf_app (ψ : Int × Int → Int → Int) : ∀ f g : Dl, Sf ψ (f ++ g) = Sf ψ f + Sf ψ g
  | [], g => by
    show Sf ψ g = 0 + Sf ψ g
    omega
  | e :: f, g => by
    have := Sf_app ψ f g
    show ψ e.1 e.2 + Sf ψ (f ++ g) = ψ e.1 e.2 + Sf ψ f + Sf ψ g
    omega
theorem Sf_no {ψ : Int × Int → Int → Int} {p : Int × Int} {c : Int} : ∀ {f : Dl}, p ∉ f.map (·.1) → f.map (fun e => if e.1 = p then (p, c) else e) = f
  | [], _ => rfl
  | e :: f, h => by
    rw [List.map_cons, List.mem_cons, not_or] at h
    rw [List.map_cons, if_neg (fun q => h.1 q.symm), Sf_no (ψ := ψ) h.2]
theorem Sf_rep (ψ : Int × Int → Int → Int) {p : Int × Int} {c : Int} : ∀ {f : Dl} {b : Int}, Nd f → getL f p = some b → Sf ψ (f.map fun e => if e.1 = p then (p, c) else e) = Sf ψ f - ψ p b + ψ p c
  | e :: f, b, hn, h => by
    have hn' : (e.1 :: f.map (·.1)).Nodup := hn
    rw [List.nodup_cons] at hn'
    unfold getL at h
    rw [List.map_cons, Sf_cons, Sf_cons]
    by_cases q : e.1 = p
    · rw [if_pos q] at h
      cases h
      rw [if_pos q, Sf_no (ψ := ψ) (by rw [← q]; exact hn'.1), q]
      show ψ p c + Sf ψ f = _
      omega
    · rw [if_neg q] at h
      rw [if_neg q, Sf_rep ψ hn'.2 h]
      omega
theorem Sf_put (ψ : Int × Int → Int → Int) {f : Dl} {p : Int × Int} {c : Int} (hn : Nd f) (h0 : ψ p 0 = 0) : Sf ψ (putL f p c) = Sf ψ f - ψ p ((getL f p).getD 0) + ψ p c := by
  unfold putL
  by_cases h : hasL f p = true
  · rw [if_pos h]
    obtain ⟨b, hb⟩ := Option.isSome_iff_exists.mp h
    rw [Sf_rep ψ hn hb, hb]
    rfl
  · rw [if_neg h, Sf_app]
    have : getL f p = none := by
      cases q : getL f p with
      | none => rfl
      | some b => exact absurd (show hasL f p = true by unfold hasL; rw [q]; rfl) h
    rw [this]
    show Sf ψ f + (ψ p c + 0) = Sf ψ f - ψ p 0 + ψ p c
    omega
theorem Sf_perm (ψ : Int × Int → Int → Int) {f g : Dl} (h : f.Perm g) : Sf ψ f = Sf ψ g := by
  induction h with
  | nil => rfl
  | cons x _ ih => rw [Sf_cons, Sf_cons, ih]
  | swap x y l =>
    rw [Sf_cons, Sf_cons, Sf_cons, Sf_cons]
    omega
  | trans _ _ h1 h2 => exact h1.trans h2
theorem Sf_filter (ψ : Int × Int → Int → Int) (h0 : ∀ p, ψ p 0 = 0) : ∀ f : Dl, Sf ψ (f.filter fun e => decide (e.2 ≠ 0)) = Sf ψ f
  | [] => rfl
  | e :: f => by
    rw [Sf_cons]
    by_cases q : e.2 = 0
    · rw [List.filter_cons_of_neg (by simp [q]), Sf_filter ψ h0 f, q, h0]
      omega
    · rw [List.filter_cons_of_pos (by simp [q]), Sf_cons, Sf_filter ψ h0 f]
/-! ### a dict comprehension -/
theorem dcs_T {α : Type} {g : Gd} {t : Tg} {c : S Bool} {kx vx : S D} {e : Env} {C : Cells} (hg : g C = true) (en : α → D) (p : α → Bool) (kf : α → Int × Int) (vf : α → Int) : ∀ (xs : List α) (f : Dl), (f.map (·.1) ++ (xs.filter p).map kf).Nodup →
    (∀ a ∈ xs, ∃ e1, t.put (en a) e = some e1 ∧ c e1 C = some (.ok (p a) C) ∧ (p a = true → kx e1 C = some (.ok (rdP (kf a)) C) ∧ vx e1 C = some (.ok (.int (vf a)) C))) →
    dcs g t c kx vx (xs.map en) (dks f) (dvs f) e C = some (.ok (dlD (f ++ (xs.filter p).map fun a => (kf a, vf a))) C)
  | [], f, hn, h => by
    show dcs g t c kx vx [] (dks f) (dvs f) e C = _
    unfold dcs
    rw [if_pos hg, List.filter_nil, List.map_nil, List.append_nil]
    rfl
  | a :: xs, f, hn, h => by
    obtain ⟨e1, h1, h2, h3⟩ := h a List.mem_cons_self
    show dcs g t c kx vx (en a :: xs.map en) (dks f) (dvs f) e C = _
    unfold dcs
    rw [if_pos hg, h1]
    simp only []
    rw [h2]
    cases hp : p a with
    | false =>
      simp only []
      rw [List.filter_cons_of_neg (by simp [hp])] at hn ⊢
      exact dcs_T hg en p kf vf xs f hn fun b hb => h b (List.mem_cons_of_mem _ hb)
    | true =>
      obtain ⟨h4, h5⟩ := h3 hp
      rw [List.filter_cons_of_pos (by simp [hp]), List.map_cons] at hn
      have hnot : hasL f (kf a) = false := by
        cases q : hasL f (kf a) with
        | false => rfl
        | true =>
          have := hasL_iff.mp q
          rw [List.nodup_append] at hn
          exact absurd rfl (hn.2.2 _ this _ List.mem_cons_self)
      have e2 : putL f (kf a) (vf a) = f ++ [(kf a, vf a)] := by
        unfold putL
        rw [hnot]
        rfl
      simp only []
      rw [h4]
      simp only []
      rw [h5]
      simp only []
      have hk : ky (vw C (rdP (kf a))) = some (kP (kf a)) := rfl
      rw [hk]
      simp only []
      rw [addK_dl f (kf a) (vf a), putV_dl, e2, dcs_T hg en p kf vf xs (f ++ [(kf a, vf a)]) ?_ fun b hb => h b (List.mem_cons_of_mem _ hb), List.filter_cons_of_pos (by simp [hp]), List.map_cons, List.append_assoc]
      · rfl
      · rw [List.map_append, List.append_assoc]
        exact hn
theorem dc_T {α : Type} {it : SW} {g : Gd} {t : Tg} {c : S Bool} {kx vx : S D} {vs : List Nat} {e : Env} {C : Cells} (en : α → D) (xs : List α) (p : α → Bool) (kf : α → Int × Int) (vf : α → Int) (hi : it e C = some (.ok (xs.map en, g) C)) (hg : g C = true) (hl : xs.length ≤ 1000000) (hn : ((xs.filter p).map kf).Nodup)
    (h : ∀ a ∈ xs, ∃ e1, t.put (en a) (wipeE e vs) = some e1 ∧ c e1 C = some (.ok (p a) C) ∧ (p a = true → kx e1 C = some (.ok (rdP (kf a)) C) ∧ vx e1 C = some (.ok (.int (vf a)) C))) :
    xDc it t c kx vx vs e C = some (.ok (dlD ((xs.filter p).map fun a => (kf a, vf a))) C) := by
  unfold xDc S.bind
  rw [hi]
  simp only []
  rw [if_pos (by rw [List.length_map]; exact hl)]
  unfold okS
  have := dcs_T (e := wipeE e vs) hg en p kf vf xs [] (by simpa using hn) h
  rw [show dks [] = [] from rfl, show dvs [] = [] from rfl] at this
  rw [this]
  rfl
/-! ### sorted(d) -/
theorem kRow_kP (p : Int × Int) : kRow (kP p) = some [p.1, p.2] := rfl
theorem rowsK_dl : ∀ f : Dl, rowsK (dks f) = some (f.map fun e => [e.1.1, e.1.2])
  | [] => rfl
  | e :: f => by
    show (match kRow (kP e.1), rowsK (dks f) with | some (i :: r), some rs => some ((i :: r) :: rs) | _, _ => none) = _
    rw [kRow_kP, rowsK_dl f]
    rfl
def unP : List Int → Int × Int
  | [a, b] => (a, b)
  | _ => (0, 0)
/-- the keys in order -/
def sortP (f : Dl) : List (Int × Int) := (sortR (f.map fun e => [e.1.1, e.1.2])).map unP
theorem sortP_perm (f : Dl) : (sortP f).Perm (f.map (·.1)) := by
  unfold sortP sortR
  refine (((List.mergeSort_perm _ _).map unP).trans ?_)
  rw [List.map_map]
  exact List.Perm.refl _
theorem srtD_dl (f : Dl) : srtD [dlD f] = some ((sortP f).map rdP) := by
  show (rowsK (dks f)).map (fun ns => (sortR ns).map rowD) = _
  rw [rowsK_dl]
  show some ((sortR (f.map fun e => [e.1.1, e.1.2])).map rowD) = _
  unfold sortP
  rw [List.map_map]
  congr 1
  apply List.map_congr_left
  intro r hr
  have hm := (List.mergeSort_perm (f.map fun e => [e.1.1, e.1.2]) leI).mem_iff.mp hr
  obtain ⟨e, _, rfl⟩ := List.mem_map.mp hm
  rfl
/-- what is left when zeros are dropped, in order -/
def nzL (f : Dl) : Dl := ((sortP f).filter fun p => decide ((getL f p).getD 0 ≠ 0)).map fun p => (p, (getL f p).getD 0)
theorem map_getL {f : Dl} (hn : Nd f) : (f.map (·.1)).map (fun p => (p, (getL f p).getD 0)) = f := by
  rw [List.map_map]
  have : ∀ g : Dl, (∀ e ∈ g, e ∈ f) → g.map ((fun p => (p, (getL f p).getD 0)) ∘ fun e => e.1) = g := fun g => by
    induction g with
    | nil => exact fun _ => rfl
    | cons e g ih =>
      intro h
      rw [List.map_cons, ih fun x hx => h x (List.mem_cons_of_mem _ hx)]
      show (e.1, (getL f e.1).getD 0) :: g = e :: g
      rw [getL_of hn (h e List.mem_cons_self)]
      rfl
  exact this f fun e he => he
theorem fil_map {α β : Type} (F : α → β) (p : α → Bool) (q : β → Bool) (h : ∀ a, q (F a) = p a) : ∀ xs : List α, (xs.filter p).map F = (xs.map F).filter q
  | [] => rfl
  | a :: xs => by
    rw [List.map_cons]
    cases e : p a with
    | true => rw [List.filter_cons_of_pos (by simp [e]), List.filter_cons_of_pos (by simp [h, e]), List.map_cons, fil_map F p q h xs]
    | false => rw [List.filter_cons_of_neg (by simp [e]), List.filter_cons_of_neg (by simp [h, e]), fil_map F p q h xs]
theorem nz_perm {f : Dl} (hn : Nd f) : (nzL f).Perm (f.filter fun e => decide (e.2 ≠ 0)) := by
  unfold nzL
  have h1 := ((sortP_perm f).filter fun p => decide ((getL f p).getD 0 ≠ 0)).map fun p => (p, (getL f p).getD 0)
  refine h1.trans ?_
  have h2 : ((f.map (·.1)).filter fun p => decide ((getL f p).getD 0 ≠ 0)).map (fun p => (p, (getL f p).getD 0)) = ((f.map (·.1)).map fun p => (p, (getL f p).getD 0)).filter fun e => decide (e.2 ≠ 0) := fil_map (fun p => (p, (getL f p).getD 0)) (fun p => decide ((getL f p).getD 0 ≠ 0)) (fun e => decide (e.2 ≠ 0)) (fun _ => rfl) _
  rw [h2, map_getL hn]
theorem nd_nz {f : Dl} (hn : Nd f) : Nd (nzL f) := by
  unfold Nd
  have h1 := (nz_perm hn).map (·.1)
  refine h1.nodup_iff.mpr ?_
  exact List.Nodup.sublist (List.Sublist.map _ List.filter_sublist) hn
theorem nz_mem {f : Dl} (hn : Nd f) {e : (Int × Int) × Int} (h : e ∈ nzL f) : e ∈ f := (List.mem_filter.mp ((nz_perm hn).mem_iff.mp h)).1
theorem Sf_nz (ψ : Int × Int → Int → Int) (h0 : ∀ p, ψ p 0 = 0) {f : Dl} (hn : Nd f) : Sf ψ (nzL f) = Sf ψ f := by
  rw [Sf_perm ψ (nz_perm hn), Sf_filter ψ h0]
/-! ### reckoning -/
theorem vw_dl {C : Cells} {f : Dl} : vw C (dlD f) = dlD f := rfl
theorem ie_dl {f : Dl} : isErr (dlD f) = false := rfl
theorem vw_rP {C : Cells} {p : Int × Int} : vw C (rdP p) = rdP p := rfl
theorem ie_rP {p : Int × Int} : isErr (rdP p) = false := rfl
theorem items_dl {C : Cells} (f : Dl) : items (dlD f) C = some (f.map (fun e => rdP e.1), gd0) := by
  show some ((dks f).map kT, gd0) = _
  unfold dks
  rw [List.map_map]
  rfl
theorem its_dl : ∀ f : Dl, its2 (dks f) (dvs f) = f.map fun e => .tup [rdP e.1, .int e.2]
  | [] => rfl
  | e :: f => by
    show D.tup [kT (kP e.1), .int e.2] :: its2 (dks f) (dvs f) = _
    rw [its_dl f]
    rfl
theorem ditems_dl (f : Dl) : ditems (dlD f) = some (f.map (fun e => .tup [rdP e.1, .int e.2]), gd0) := by
  show some (its2 (dks f) (dvs f), gd0) = _
  rw [its_dl]
theorem ditl_dl (f : Dl) : ditl (dlD f) = some (f.map fun e => .tup [rdP e.1, .int e.2]) := by
  show some (its2 (dks f) (dvs f)) = _
  rw [its_dl]
theorem dget_dl (f : Dl) (p : Int × Int) : dDGet (dlD f) (rdP p) = (getL f p).map D.int := by
  show (ky (rdP p)).bind (fun k => dVal (dks f) (dvs f) k) = _
  rw [ky_rdP]
  exact dVal_dl p f
theorem dget2_dl (f : Dl) (p : Int × Int) (z : Int) : dDGet2 (dlD f) (rdP p) (.int z) = some (.int ((getL f p).getD z)) := by
  show (ky (rdP p)).map (fun k => (dVal (dks f) (dvs f) k).getD (.int z)) = _
  rw [ky_rdP]
  show some ((dVal (dks f) (dvs f) (kP p)).getD (.int z)) = _
  rw [dVal_dl]
  cases getL f p <;> rfl
theorem isDt_dl (f : Dl) : isDt (dlD f) = true := rfl
theorem isi_dl (f : Dl) : dIsi [dlD f, .opq (.ty "dict")] = some (.bl true) := rfl
theorem nc_dl (f : Dl) : nocel (dlD f) = true := by
  show nocels (dvs f) = true
  unfold dvs
  induction f with
  | nil => rfl
  | cons e f ih => exact ih
end Sm
end
section
set_option maxRecDepth 100000
set_option maxHeartbeats 0
namespace Sm
open PySem L2
/-! ### the hashes of small pairs are apart -/
def chk (m : Int) : List Int → Nat → Bool
  | [], _ => true
  | x :: l, acc => !acc.testBit (x % m).toNat && chk m l (acc ||| 1 <<< (x % m).toNat)
theorem chk_ok {m : Int} : ∀ {l : List Int} {acc : Nat}, chk m l acc = true → l.Nodup ∧ ∀ x ∈ l, acc.testBit (x % m).toNat = false
  | [], _, _ => ⟨List.nodup_nil, fun x h => by cases h⟩
  | x :: l, acc, h => by
    unfold chk at h
    rw [Bool.and_eq_true] at h
    obtain ⟨h1, h2⟩ := chk_ok h.2
    have h3 : ∀ y ∈ l, acc.testBit (y % m).toNat = false ∧ (y % m).toNat ≠ (x % m).toNat := fun y hy => by
      have := h2 y hy
      rw [Nat.testBit_or, Bool.or_eq_false_iff] at this
      refine ⟨this.1, fun e => ?_⟩
      rw [e, Nat.one_shiftLeft, Nat.testBit_two_pow_self] at this
      cases this.2
    rw [List.nodup_cons]
    refine ⟨⟨fun hm => (h3 x hm).2 rfl, h1⟩, fun y hy => ?_⟩
    rcases List.mem_cons.mp hy with rfl | hy
    · simpa using h.1
    · exact (h3 y hy).1
def tabP : List (Nat × Nat) := (List.range 12).flatMap fun a => (List.range 60).map fun b => (a, b)
def tabH : List Int := tabP.map fun p => hashR [(p.1 : Int), (p.2 : Int)]
theorem tab_nd : tabH.Nodup := (chk_ok (m := 100003) (acc := 0) (by decide +kernel)).1
theorem tab_mem {a b : Nat} (ha : a < 12) (hb : b < 60) : (a, b) ∈ tabP := by
  unfold tabP
  rw [List.mem_flatMap]
  exact ⟨a, List.mem_range.mpr ha, List.mem_map.mpr ⟨b, List.mem_range.mpr hb, rfl⟩⟩
theorem map_inj {α β : Type} {f : α → β} : ∀ {l : List α}, (l.map f).Nodup → ∀ {x y : α}, x ∈ l → y ∈ l → f x = f y → x = y
  | z :: l, h, x, y, hx, hy, e => by
    rw [List.map_cons, List.nodup_cons] at h
    rcases List.mem_cons.mp hx with rfl | hx
    · rcases List.mem_cons.mp hy with rfl | hy
      · rfl
      · exact absurd (List.mem_map.mpr ⟨y, hy, e.symm⟩) h.1
    · rename_i hx'
      rcases List.mem_cons.mp hy with hy | hy
      · subst hy
        exact absurd (show f y ∈ l.map f from List.mem_map.mpr ⟨x, by assumption, e⟩) h.1
      · exact map_inj h.2 (by assumption) hy e
/-- a pair of a ring and a place -/
def smallP (p : Int × Int) : Prop := 0 ≤ p.1 ∧ p.1 < 12 ∧ 0 ≤ p.2 ∧ p.2 < 60
theorem hash_inj {p q : Int × Int} (hp : smallP p) (hq : smallP q) (h : hashR [p.1, p.2] = hashR [q.1, q.2]) : p = q := by
  obtain ⟨p1, p2⟩ := p
  obtain ⟨q1, q2⟩ := q
  obtain ⟨a1, a2, a3, a4⟩ := hp
  obtain ⟨b1, b2, b3, b4⟩ := hq
  dsimp only at a1 a2 a3 a4 b1 b2 b3 b4 h
  obtain ⟨m1, rfl⟩ := Int.eq_ofNat_of_zero_le a1
  obtain ⟨m2, rfl⟩ := Int.eq_ofNat_of_zero_le a3
  obtain ⟨n1, rfl⟩ := Int.eq_ofNat_of_zero_le b1
  obtain ⟨n2, rfl⟩ := Int.eq_ofNat_of_zero_le b3
  have := map_inj (f := fun p : Nat × Nat => hashR [(p.1 : Int), (p.2 : Int)]) (l := tabP) tab_nd (tab_mem (a := m1) (b := m2) (by omega) (by omega)) (tab_mem (a := n1) (b := n2) (by omega) (by omega)) h
  cases this
  rfl
theorem nd_hash : ∀ {f : Dl}, Nd f → (∀ e ∈ f, smallP e.1) → ((f.map fun e => [e.1.1, e.1.2]).map hashR).Nodup
  | [], _, _ => List.nodup_nil
  | e :: f, hn, hs => by
    have hn' : (e.1 :: f.map (·.1)).Nodup := hn
    rw [List.nodup_cons] at hn'
    rw [List.map_cons, List.map_cons, List.nodup_cons]
    refine ⟨fun hm => ?_, nd_hash hn'.2 fun x hx => hs x (List.mem_cons_of_mem _ hx)⟩
    obtain ⟨k, hk, e1⟩ := List.mem_map.mp hm
    obtain ⟨x, hx, rfl⟩ := List.mem_map.mp hk
    have := hash_inj (hs x (List.mem_cons_of_mem _ hx)) (hs e List.mem_cons_self) e1
    exact hn'.1 (List.mem_map.mpr ⟨x, hx, this⟩)
theorem dictD_dl {f : Dl} (hn : Nd f) (hs : ∀ e ∈ f, smallP e.1) : dictD [dlD f] = some (dks f, dvs f) := by
  show (rowsK (dks f)).bind (fun ns => if apart (ns.map hashR) = true then some (dks f, dvs f) else none) = _
  rw [rowsK_dl, Option.bind_some, if_pos (apart_of (nd_hash hn hs))]
end Sm
end
section
set_option maxRecDepth 100000
set_option maxHeartbeats 0
namespace Sm
/-! ### the table of a class along one diagonal -/
/-- lt j e: the j-th ring lets the diagonal e. The richness and 1 of degree d on m rings is phi lt m (d - m + 1) -/
def phi (lt : Nat → Int → Bool) : Nat → Int → Int
  | 0, e => if 0 < e then e else 0
  | j + 1, e => phi lt j e + (if lt j e = true ∧ phi lt j (e - 1) = phi lt j e ∧ phi lt j (e + 1) = phi lt j e + 1 then 1 else 0)
theorem phi_succ (lt : Nat → Int → Bool) (j : Nat) (e : Int) : phi lt (j + 1) e = phi lt j e + (if lt j e = true ∧ phi lt j (e - 1) = phi lt j e ∧ phi lt j (e + 1) = phi lt j e + 1 then 1 else 0) := rfl
theorem phi_zero (lt : Nat → Int → Bool) (e : Int) : phi lt 0 e = if 0 < e then e else 0 := rfl
theorem phi_step (lt : Nat → Int → Bool) : ∀ (m : Nat) (e : Int), phi lt m e ≤ phi lt m (e + 1) ∧ phi lt m (e + 1) ≤ phi lt m e + 1
  | 0, e => by
    rw [phi_zero, phi_zero]
    split <;> split <;> omega
  | j + 1, e => by
    have h0 := phi_step lt j (e - 1)
    have h1 := phi_step lt j e
    have h2 := phi_step lt j (e + 1)
    rw [show e - 1 + 1 = e by omega] at h0
    rw [phi_succ, phi_succ, show e + 1 - 1 = e by omega]
    split <;> split <;> omega
theorem phi_ge (lt : Nat → Int → Bool) : ∀ (m : Nat) (e : Int), 0 ≤ phi lt m e ∧ e ≤ phi lt m e
  | 0, e => by
    rw [phi_zero]
    split <;> omega
  | j + 1, e => by
    have := phi_ge lt j e
    rw [phi_succ]
    split <;> omega
theorem phi_low (lt : Nat → Int → Bool) : ∀ (m : Nat) (e : Int), e ≤ -(m : Int) → phi lt m e = 0
  | 0, e, h => by
    rw [phi_zero, if_neg (by omega)]
  | j + 1, e, h => by
    have h1 := phi_low lt j e (by omega)
    have h2 := phi_low lt j (e + 1) (by omega)
    rw [phi_succ, if_neg (by omega), h1]
    omega
theorem phi_high (lt : Nat → Int → Bool) : ∀ (m : Nat) (e : Int), (m : Int) ≤ e → phi lt m e = e
  | 0, e, h => by
    rw [phi_zero]
    split <;> omega
  | j + 1, e, h => by
    have h1 := phi_high lt j e (by omega)
    have h2 := phi_high lt j (e - 1) (by omega)
    rw [phi_succ, if_neg (by omega), h1]
    omega
theorem phi_congr {lt lt' : Nat → Int → Bool} : ∀ {m : Nat}, (∀ j e, j < m → lt' j e = lt j e) → ∀ e, phi lt' m e = phi lt m e
  | 0, _, e => rfl
  | j + 1, h, e => by
    have ih := phi_congr (m := j) fun i e hi => h i e (by omega)
    rw [phi_succ, phi_succ, ih, ih, ih, h j e (by omega)]
theorem phi_dual {lt lt' : Nat → Int → Bool} : ∀ {m : Nat}, (∀ j e, j < m → lt' j e = lt j (-e)) → ∀ e, phi lt' m e = phi lt m (-e) + e
  | 0, _, e => by
    rw [phi_zero, phi_zero]
    split <;> split <;> omega
  | j + 1, h, e => by
    have ih := phi_dual (m := j) fun i e hi => h i e (by omega)
    rw [phi_succ, phi_succ, ih e, ih (e - 1), ih (e + 1), h j e (by omega), show -(e - 1) = -e + 1 by omega, show -(e + 1) = -e - 1 by omega]
    by_cases q : lt j (-e) = true
    · by_cases z : phi lt j (-e - 1) = phi lt j (-e) ∧ phi lt j (-e + 1) = phi lt j (-e) + 1
      · rw [if_pos ⟨q, by omega, by omega⟩, if_pos ⟨q, z⟩]
        omega
      · rw [if_neg (fun y => z ⟨by omega, by omega⟩), if_neg (fun y => z y.2)]
        omega
    · rw [if_neg (fun z => q z.1), if_neg (fun z => q z.1)]
      omega
/-! ### taking one chip -/
theorem rem_step {lt lt' : Nat → Int → Bool} {j : Nat} (hl : ∀ e, lt' j (e - 1) = lt j e) (h : ∀ e, phi lt j e - 1 ≤ phi lt' j (e - 1)) (e : Int) : phi lt (j + 1) e - 1 ≤ phi lt' (j + 1) (e - 1) := by
  have a0 := h e
  have a1 := h (e - 1)
  have a2 := h (e + 1)
  have b1 := phi_step lt' j (e - 1 - 1)
  have b2 := phi_step lt' j (e - 1)
  rw [show e - 1 - 1 + 1 = e - 1 by omega] at b1
  rw [show e - 1 + 1 = e by omega] at b2
  rw [show e + 1 - 1 = e by omega] at a2
  have hle := hl e
  rw [phi_succ, phi_succ, show e - 1 + 1 = e by omega, hle]
  by_cases q : lt j e = true ∧ phi lt j (e - 1) = phi lt j e ∧ phi lt j (e + 1) = phi lt j e + 1
  · rw [if_pos q]
    by_cases z : phi lt j e ≤ phi lt' j (e - 1)
    · split <;> omega
    · rw [if_pos ⟨q.1, by omega, by omega⟩]
      omega
  · rw [if_neg q]
    split <;> omega
/-- behind a chip taken from the i-th ring -/
theorem rem_ge {lt lt' : Nat → Int → Bool} {i : Nat} (h0 : ∀ j e, j < i → lt' j e = lt j e) (h1 : ∀ j e, i < j → lt' j (e - 1) = lt j e) : ∀ (k : Nat) (e : Int), phi lt (i + 1 + k) e - 1 ≤ phi lt' (i + 1 + k) (e - 1)
  | 0, e => by
    have c := phi_congr (m := i) h0
    have b := phi_step lt i (e - 1)
    rw [show e - 1 + 1 = e by omega] at b
    rw [Nat.add_zero, phi_succ, phi_succ, c, c, c]
    split <;> split <;> omega
  | k + 1, e => rem_step (j := i + 1 + k) (fun e => h1 _ e (by omega)) (rem_ge h0 h1 k) e
/-! ### weights -/
def ltW (n s w : Nat → Int) (j : Nat) (e : Int) : Bool := decide ((e * s j - w j) % n j = 0)
/-- the weights behind one chip taken from the place p of the i-th ring -/
def remW (s w : Nat → Int) (i : Nat) (p : Int) : Nat → Int := fun j => if j < i then w j else if j = i then w j - p else w j - s j
/-- the weights of a sum -/
def sumW (s w v : Nat → Int) : Nat → Int := fun j => w j + v j + s j * j
theorem rem_chip {n s w : Nat → Int} {i : Nat} {p : Int} {m : Nat} (hi : i < m) (e : Int) : phi (ltW n s w) m e - 1 ≤ phi (ltW n s (remW s w i p)) m (e - 1) := by
  have := rem_ge (lt := ltW n s w) (lt' := ltW n s (remW s w i p)) (i := i) (fun j e hj => by
    unfold ltW remW
    rw [if_pos hj]) (fun j e hj => by
    unfold ltW remW
    rw [if_neg (by omega), if_neg (by omega), Int.sub_mul, Int.one_mul]
    congr 3
    omega) (m - (i + 1)) e
  rw [show i + 1 + (m - (i + 1)) = m by omega] at this
  exact this
theorem ltW_rem {n s w : Nat → Int} {i : Nat} {p : Int} {j : Nat} (h : i < j ∨ i = 0 ∧ j = 0 ∧ p = s 0) (e : Int) : ltW n s (remW s w i p) j (e - 1) = ltW n s w j e := by
  unfold ltW remW
  have e2 : (e - 1) * s j - (w j - s j) = e * s j - w j := by
    rw [Int.sub_mul, Int.one_mul]
    omega
  rcases h with h | ⟨rfl, rfl, rfl⟩
  · rw [if_neg (by omega), if_neg (by omega), e2]
  · rw [if_neg (by omega), if_pos rfl, e2]
theorem mod_one {a n : Int} (hn : 2 ≤ n) : ¬ (a % n = 0 ∧ (a + 1) % n = 0) := fun ⟨h1, h2⟩ => by
  rw [Int.add_emod, h1, Int.zero_add, Int.emod_emod, Int.emod_eq_of_lt (by omega) (by omega)] at h2
  omega
theorem phi_no {lt : Nat → Int → Bool} {j : Nat} {e : Int} (h : ¬ (lt j e = true ∧ phi lt j (e - 1) = phi lt j e ∧ phi lt j (e + 1) = phi lt j e + 1)) : phi lt (j + 1) e = phi lt j e := by
  rw [phi_succ, if_neg h]
  omega
theorem phi_yes {lt : Nat → Int → Bool} {j : Nat} {e : Int} (h : lt j e = true ∧ phi lt j (e - 1) = phi lt j e ∧ phi lt j (e + 1) = phi lt j e + 1) : phi lt (j + 1) e = phi lt j e + 1 := by
  rw [phi_succ, if_pos h]
/-- some chip can be taken so that the table is less -/
theorem chip_down {n s w : Nat → Int} (hn : ∀ j, 2 ≤ n j) (hs : ∀ j, 1 ≤ s j ∧ s j < n j) : ∀ (m : Nat) (e : Int), 1 ≤ phi (ltW n s w) m e →
    ∃ (i : Nat) (p : Int), (i < m ∨ i = 0 ∧ m = 0 ∧ p = s 0) ∧ 0 ≤ p ∧ p < n i ∧ phi (ltW n s (remW s w i p)) m (e - 1) ≤ phi (ltW n s w) m e - 1
  | 0, e, h => by
    have a1 := hs 0
    refine ⟨0, s 0, .inr ⟨rfl, rfl, rfl⟩, by omega, by omega, ?_⟩
    rw [phi_zero] at h ⊢
    rw [phi_zero]
    split <;> split <;> omega
  | j + 1, e, h => by
    have hnj := hn j
    have b0 := phi_step (ltW n s w) j (e - 1)
    have b1 := phi_step (ltW n s w) j e
    rw [show e - 1 + 1 = e by omega] at b0
    have eqs : ∀ (p : Int) (z : Int), phi (ltW n s (remW s w j p)) j z = phi (ltW n s w) j z := fun p z => phi_congr (fun i e hi => by unfold ltW remW; rw [if_pos hi]) z
    by_cases hb : phi (ltW n s w) j (e - 1) = phi (ltW n s w) j e
    · by_cases hc : phi (ltW n s w) j (e + 1) = phi (ltW n s w) j e + 1
      · by_cases hl : ltW n s w j e = true
        · -- a square was added: any place
          have a1 := hs j
          refine ⟨j, 0, .inl (by omega), by omega, by omega, ?_⟩
          have e1 : phi (ltW n s (remW s w j 0)) (j + 1) (e - 1) = phi (ltW n s w) j (e - 1) := by
            rw [phi_no (fun z => by have := z.2.2; rw [eqs, eqs, show e - 1 + 1 = e by omega] at this; omega), eqs]
          rw [e1, phi_yes ⟨hl, hb, hc⟩]
          omega
        · rw [phi_succ, if_neg (fun q => hl q.1)] at h
          obtain ⟨i, p, h1, h2, h3, h4⟩ := chip_down (w := w) hn hs j e (by omega)
          refine ⟨i, p, .inl (by omega), h2, h3, ?_⟩
          have q := ltW_rem (n := n) (s := s) (w := w) (i := i) (p := p) (j := j) (by omega) e
          rw [phi_no (fun z => hl (by rw [← q]; exact z.1)), phi_no (fun z => hl z.1)]
          exact h4
      · rw [phi_succ, if_neg (fun q => hc q.2.2)] at h
        obtain ⟨i, p, h1, h2, h3, h4⟩ := chip_down (w := w) hn hs j (e + 1) (by omega)
        rw [show e + 1 - 1 = e by omega] at h4
        refine ⟨i, p, .inl (by omega), h2, h3, ?_⟩
        have c := phi_step (ltW n s (remW s w i p)) j (e - 1)
        rw [show e - 1 + 1 = e by omega] at c
        rw [phi_no (e := e) (fun q => hc q.2.2), phi_succ, show e - 1 + 1 = e by omega]
        split <;> omega
    · -- a place at which nothing is let
      obtain ⟨p, p0, p1, p2⟩ : ∃ p : Int, 0 ≤ p ∧ p ≤ 1 ∧ ¬ ((e - 1) * s j - (w j - p)) % n j = 0 := by
        by_cases z : ((e - 1) * s j - (w j - 0)) % n j = 0
        · refine ⟨1, by omega, by omega, fun z2 => mod_one hnj ⟨z, ?_⟩⟩
          rw [← z2]
          congr 1
          omega
        · exact ⟨0, by omega, by omega, z⟩
      refine ⟨j, p, .inl (by omega), p0, by omega, ?_⟩
      have hl : ¬ ltW n s (remW s w j p) j (e - 1) = true := by
        unfold ltW remW
        rw [if_neg (by omega), if_pos rfl, decide_eq_true_eq]
        exact p2
      rw [phi_no (e := e) (fun q => hb q.2.1), phi_no (fun q => hl q.1), eqs]
      omega
theorem phi_pos (lt : Nat → Int → Bool) (j : Nat) (e : Int) : 1 ≤ phi lt (j + 1) e ↔ 1 ≤ phi lt j e ∨ (1 ≤ phi lt j (e + 1) ∧ lt j e = true) := by
  have b0 := phi_step lt j (e - 1)
  have b1 := phi_step lt j e
  have c0 := phi_ge lt j (e - 1)
  rw [show e - 1 + 1 = e by omega] at b0
  rw [phi_succ]
  constructor
  · intro h
    by_cases q : 1 ≤ phi lt j e
    · exact .inl q
    · by_cases z : lt j e = true ∧ phi lt j (e - 1) = phi lt j e ∧ phi lt j (e + 1) = phi lt j e + 1
      · exact .inr ⟨by have := phi_ge lt j e; omega, z.1⟩
      · rw [if_neg z] at h
        omega
  · rintro (h | ⟨h, hl⟩)
    · split <;> omega
    · by_cases q : 1 ≤ phi lt j e
      · split <;> omega
      · rw [if_pos ⟨hl, by have := phi_ge lt j e; omega, by have := phi_ge lt j e; omega⟩]
        have := phi_ge lt j e
        omega
theorem eff_sum {n s w v : Nat → Int} : ∀ (m : Nat) (a b : Int), 1 ≤ phi (ltW n s w) m a → 1 ≤ phi (ltW n s v) m b → 1 ≤ phi (ltW n s (sumW s w v)) m (a + b + m - 1)
  | 0, a, b, h1, h2 => by
    rw [phi_zero] at h1 h2 ⊢
    split at h1 <;> split at h2 <;> split <;> omega
  | j + 1, a, b, h1, h2 => by
    have up : ∀ {u : Nat → Int} {c : Int}, 1 ≤ phi (ltW n s u) j c ∨ (1 ≤ phi (ltW n s u) j (c + 1) ∧ ltW n s u j c = true) → 1 ≤ phi (ltW n s u) j (c + 1) := fun {u c} h => by
      have := phi_step (ltW n s u) j c
      rcases h with h | h
      · omega
      · exact h.1
    rw [phi_pos] at h1 h2 ⊢
    rcases h1 with h1 | ⟨h1, l1⟩
    · have := eff_sum (n := n) (s := s) j a (b + 1) h1 (up h2)
      rw [show a + (b + 1) + (j : Int) - 1 = a + b + ((j + 1 : Nat) : Int) - 1 by omega] at this
      exact .inl this
    · rcases h2 with h2 | ⟨h2, l2⟩
      · have := eff_sum (n := n) (s := s) j (a + 1) b h1 h2
        rw [show a + 1 + b + (j : Int) - 1 = a + b + ((j + 1 : Nat) : Int) - 1 by omega] at this
        exact .inl this
      · have := eff_sum (n := n) (s := s) j (a + 1) (b + 1) h1 h2
        rw [show a + 1 + (b + 1) + (j : Int) - 1 = a + b + ((j + 1 : Nat) : Int) - 1 + 1 by omega] at this
        refine .inr ⟨this, ?_⟩
        unfold ltW sumW at *
        rw [decide_eq_true_eq] at l1 l2 ⊢
        have e1 : (a + b + ((j + 1 : Nat) : Int) - 1) * s j - (w j + v j + s j * j) = (a * s j - w j) + (b * s j - v j) := by
          rw [show a + b + ((j + 1 : Nat) : Int) - 1 = a + b + (j : Int) by omega, Int.add_mul, Int.add_mul, Int.mul_comm (j : Int) (s j)]
          omega
        rw [e1, Int.add_emod, l1, l2]
        rfl
theorem sum_rem_r (s w v : Nat → Int) (i : Nat) (p : Int) : sumW s w (remW s v i p) = remW s (sumW s w v) i p := by
  funext j
  show w j + (if j < i then v j else if j = i then v j - p else v j - s j) + s j * j = if j < i then w j + v j + s j * j else if j = i then w j + v j + s j * j - p else w j + v j + s j * j - s j
  split
  · rfl
  · split <;> omega
theorem sum_rem_l (s w v : Nat → Int) (i : Nat) (p : Int) : sumW s (remW s w i p) v = remW s (sumW s w v) i p := by
  funext j
  show (if j < i then w j else if j = i then w j - p else w j - s j) + v j + s j * j = if j < i then w j + v j + s j * j else if j = i then w j + v j + s j * j - p else w j + v j + s j * j - s j
  split
  · rfl
  · split <;> omega
/-- sums are as rich as both together, at least -/
theorem phi_super {n s : Nat → Int} (hn : ∀ j, 2 ≤ n j) (hs : ∀ j, 1 ≤ s j ∧ s j < n j) {m : Nat} (hm : 1 ≤ m) : ∀ (k : Nat) (w v : Nat → Int) (a b : Int) (k1 k2 : Nat), k1 + k2 = k → (k1 : Int) + 1 ≤ phi (ltW n s w) m a → (k2 : Int) + 1 ≤ phi (ltW n s v) m b →
    (k1 : Int) + k2 + 1 ≤ phi (ltW n s (sumW s w v)) m (a + b + m - 1)
  | 0, w, v, a, b, k1, k2, hk, h1, h2 => by
    have := eff_sum (n := n) (s := s) m a b (by omega) (by omega) (w := w) (v := v)
    omega
  | k + 1, w, v, a, b, k1, k2, hk, h1, h2 => by
    have e1 := eff_sum (n := n) (s := s) m a b (by omega) (by omega) (w := w) (v := v)
    obtain ⟨i, p, q1, q2, q3, q4⟩ := chip_down hn hs m _ e1
    have hi : i < m := by omega
    by_cases z : k1 = 0
    · have c := rem_chip (n := n) (s := s) (w := v) (p := p) hi b
      have ih := phi_super hn hs hm k w (remW s v i p) a (b - 1) k1 (k2 - 1) (by omega) h1 (by omega)
      have ew := sum_rem_r s w v i p
      rw [ew, show a + (b - 1) + (m : Int) - 1 = a + b + m - 1 - 1 by omega] at ih
      omega
    · have c := rem_chip (n := n) (s := s) (w := w) (p := p) hi a
      have ih := phi_super hn hs hm k (remW s w i p) v (a - 1) b (k1 - 1) k2 (by omega) (by omega) h2
      have ew := sum_rem_l s w v i p
      rw [ew, show a - 1 + b + (m : Int) - 1 = a + b + m - 1 - 1 by omega] at ih
      omega
/-! ### heaps -/
theorem hrel_step {H H' : Nat → Int} {lt : Nat → Int → Bool} {j : Nat} (h : ∀ (k : Nat) (e : Int), ((k : Int) - e + 1 ≤ H k ↔ (k : Int) < phi lt j e))
    (hH : ∀ k, H' k = if (k = 0 ∨ H k < H (k - 1)) ∧ lt j ((k : Int) - H k) = true then H k + 1 else H k) (k : Nat) (e : Int) : ((k : Int) - e + 1 ≤ H' k ↔ (k : Int) < phi lt (j + 1) e) := by
  have b0 := phi_step lt j (e - 1)
  have b1 := phi_step lt j e
  have c0 := phi_ge lt j e
  rw [show e - 1 + 1 = e by omega] at b0
  have h1 := h k e
  have h2 := h k (e + 1)
  have h3 := h k (e - 1)
  rw [hH, phi_succ]
  by_cases q : (k = 0 ∨ H k < H (k - 1)) ∧ lt j ((k : Int) - H k) = true
  · rw [if_pos q]
    by_cases z : e = (k : Int) - H k
    · -- the corner
      have hl : lt j e = true := by rw [z]; exact q.2
      have k1 : (k : Int) = phi lt j e ∧ phi lt j (e - 1) = phi lt j e ∧ phi lt j (e + 1) = phi lt j e + 1 := by
        rcases q.1 with q1 | q1
        · subst q1
          have := phi_ge lt j (e - 1)
          omega
        · by_cases k0 : k = 0
          · subst k0
            exact absurd q1 (Int.lt_irrefl _)
          · have g1 := h (k - 1) e
            have g2 := h (k - 1) (e - 1)
            omega
      rw [if_pos ⟨hl, k1.2⟩]
      omega
    · split
      · rename_i y
        -- a corner elsewhere: k is not phi
        by_cases y2 : (k : Int) = phi lt j e
        · omega
        · omega
      · omega
  · rw [if_neg q]
    split
    · rename_i y
      by_cases y2 : (k : Int) = phi lt j e
      · refine absurd ⟨?_, ?_⟩ q
        · by_cases k0 : k = 0
          · exact .inl k0
          · refine .inr ?_
            have g1 := h (k - 1) e
            have g2 := h (k - 1) (e - 1)
            omega
        · rw [show (k : Int) - H k = e by omega]
          exact y.1
      · omega
    · omega
theorem hrel_zero {H : Nat → Int} (lt : Nat → Int → Bool) (h0 : ∀ k, H k = 0) (k : Nat) (e : Int) : ((k : Int) - e + 1 ≤ H k ↔ (k : Int) < phi lt 0 e) := by
  rw [h0, phi_zero]
  split <;> omega
end Sm
end
section
namespace Hk
/-- falling positive heights -/
structure Heap (B : Nat) (hs : List Int) : Prop where
  len : hs.length ≤ B
  fall : ∀ i j : Nat, i ≤ j → j < hs.length → hs.getD j 0 ≤ hs.getD i 0
  pos : ∀ i : Nat, i < hs.length → 1 ≤ hs.getD i 0 ∧ hs.getD i 0 ≤ B
theorem cnt (r : Int) : ∀ (hs : List Int), (∀ i j : Nat, i ≤ j → j < hs.length → hs.getD j 0 ≤ hs.getD i 0) →
    ∃ n, n ≤ hs.length ∧ (∀ j, j < n → r < hs.getD j 0) ∧ (∀ j, n ≤ j → j < hs.length → hs.getD j 0 ≤ r) ∧ ∀ m, m ≤ n → ((hs.drop m).filter fun h => decide (r < h)).length = n - m
  | [], _ => ⟨0, Nat.le_refl _, fun j hj => absurd hj (Nat.not_lt_zero _), fun j _ hj => absurd hj (Nat.not_lt_zero _), fun m _ => by simp⟩
  | h :: t, hf => by
    obtain ⟨n, n1, n2, n3, n4⟩ := cnt r t fun i j hij hj => by
      have := hf (i + 1) (j + 1) (by omega) (by simp; omega)
      simpa using this
    by_cases hr : r < h
    · refine ⟨n + 1, by simp; omega, fun j hj => ?_, fun j hj hl => ?_, fun m hm => ?_⟩
      · cases j with
        | zero => simpa using hr
        | succ j => simpa using n2 j (by omega)
      · cases j with
        | zero => omega
        | succ j => simpa using n3 j (by omega) (by simp at hl; omega)
      · cases m with
        | zero =>
          have := n4 0 (Nat.zero_le _)
          simp at this
          simp [List.filter_cons, hr, this]
        | succ m =>
          have := n4 m (by omega)
          rw [List.drop_succ_cons, this]
          omega
    · refine ⟨0, Nat.zero_le _, fun j hj => absurd hj (Nat.not_lt_zero _), fun j _ hl => ?_, fun m hm => ?_⟩
      · have := hf 0 j (Nat.zero_le _) hl
        have e : (h :: t).getD 0 0 = h := rfl
        omega
      · have hm : m = 0 := by omega
        subst hm
        rw [List.drop_zero]
        have : (h :: t).filter (fun h => decide (r < h)) = [] := by
          refine List.filter_eq_nil_iff.mpr fun z hz => ?_
          obtain ⟨i, hi, e⟩ := List.getElem_of_mem hz
          have := hf 0 i (Nat.zero_le _) hi
          have e1 : (h :: t).getD 0 0 = h := rfl
          have e2 : (h :: t).getD i 0 = z := by
            rw [List.getD_eq_getElem?_getD, List.getElem?_eq_getElem hi, e]
            rfl
          simp
          omega
        rw [this]
        rfl
def hk (hs : List Int) (c : Nat) (r : Int) : Int := hs.getD c 0 - r + (((hs.drop (c + 1)).filter fun h => decide (r < h)).length : Int)
def bead (hs : List Int) (c : Nat) : Int := hs.getD c 0 - c - 1
variable {B : Nat} {hs : List Int}
/-- a hook ends at a gap -/
theorem hook_gap (F : Heap B hs) {c : Nat} {r : Int} (hc : c < hs.length) (h0 : 0 ≤ r) (h1 : r < hs.getD c 0) :
    -(hs.length : Int) ≤ bead hs c - hk hs c r ∧ (∀ j, j < hs.length → bead hs j ≠ bead hs c - hk hs c r) ∧ 0 < hk hs c r := by
  obtain ⟨n, n1, n2, n3, n4⟩ := cnt r hs F.fall
  have hn : c < n := by
    by_cases q : c < n
    · exact q
    · have := n3 c (by omega) hc
      omega
  have e := n4 (c + 1) hn
  have g : bead hs c - hk hs c r = r - n := by
    unfold bead hk
    rw [e]
    omega
  rw [g]
  refine ⟨by omega, fun j hj q => ?_, ?_⟩
  · unfold bead at q
    by_cases q2 : j < n
    · have := n2 j q2
      omega
    · have := n3 j (by omega) hj
      omega
  · unfold hk
    omega
theorem last_above (F : Heap B hs) {x : Int} (hx : ∀ j, j < hs.length → bead hs j ≠ x) : ∀ (d c : Nat), c + d + 1 = hs.length → x < bead hs c →
    ∃ n, c < n ∧ n ≤ hs.length ∧ x < bead hs (n - 1) ∧ (n < hs.length → bead hs n < x)
  | 0, c, hd, h => ⟨c + 1, by omega, by omega, by simpa using h, fun q => by omega⟩
  | d + 1, c, hd, h => by
    by_cases q : x < bead hs (c + 1)
    · obtain ⟨n, n1, n2, n3, n4⟩ := last_above F hx d (c + 1) (by omega) q
      exact ⟨n, by omega, n2, n3, n4⟩
    · have := hx (c + 1) (by omega)
      exact ⟨c + 1, by omega, by omega, by simpa using h, fun _ => by omega⟩
/-- each gap below a bead is a hook's end -/
theorem gap_hook (F : Heap B hs) {c : Nat} {x : Int} (hc : c < hs.length) (h0 : -(hs.length : Int) ≤ x) (h1 : x < bead hs c) (hx : ∀ j, j < hs.length → bead hs j ≠ x) :
    ∃ r, 0 ≤ r ∧ r < hs.getD c 0 ∧ hk hs c r = bead hs c - x := by
  obtain ⟨n, n1, n2, n3, n4⟩ := last_above F hx (hs.length - c - 1) c (by omega) h1
  have a1 : x + n < hs.getD (n - 1) 0 := by
    unfold bead at n3
    omega
  have a2 := F.fall c (n - 1) (by omega) (by omega)
  have a3 : n < hs.length → hs.getD n 0 ≤ x + n := fun q => by
    have := n4 q
    unfold bead at this
    omega
  refine ⟨x + n, ?_, by omega, ?_⟩
  · by_cases q : n < hs.length
    · have := (F.pos n q).1
      have := a3 q
      omega
    · omega
  · obtain ⟨m, m1, m2, m3, m4⟩ := cnt (x + n) hs F.fall
    have e1 : n ≤ m := by
      by_cases q : n ≤ m
      · exact q
      · have := m3 (n - 1) (by omega) (by omega)
        omega
    have e2 : m ≤ n := by
      by_cases q : n < m
      · have := m2 n q
        have := a3 (by omega)
        omega
      · omega
    have e := m4 (c + 1) (by omega)
    unfold hk bead
    rw [e]
    omega
/-- no hook of k squares -/
def NoHook (hs : List Int) (k : Int) : Prop := ∀ (c : Nat) (r : Int), c < hs.length → 0 ≤ r → r < hs.getD c 0 → hk hs c r ≠ k
def IsCore (hs : List Int) (k : Int) : Prop := ∀ c, c < hs.length → bead hs c - k < -(hs.length : Int) ∨ ∃ j, j < hs.length ∧ bead hs j = bead hs c - k
theorem core_iff (F : Heap B hs) {k : Int} (hk0 : 0 < k) : NoHook hs k ↔ IsCore hs k := by
  constructor
  · intro h c hc
    by_cases q : bead hs c - k < -(hs.length : Int)
    · exact .inl q
    · right
      refine Classical.byContradiction fun q2 => ?_
      obtain ⟨r, r0, r1, e⟩ := gap_hook F (x := bead hs c - k) hc (by omega) (by omega) fun j hj q3 => q2 ⟨j, hj, q3⟩
      exact h c r hc r0 r1 (by omega)
  · intro h c r hc r0 r1 e
    obtain ⟨g1, g2, g3⟩ := hook_gap F hc r0 r1
    rw [e] at g1 g2
    rcases h c hc with h | ⟨j, hj, h⟩
    · omega
    · exact g2 j hj h
theorem core_down (F : Heap B hs) {k : Int} (hk0 : 0 < k) (h : IsCore hs k) {c : Nat} (hc : c < hs.length) : ∀ m : Nat, -(hs.length : Int) ≤ bead hs c - m * k → ∃ j, j < hs.length ∧ bead hs j = bead hs c - m * k
  | 0, _ => ⟨c, hc, by simp⟩
  | m + 1, q => by
    have e : ((m + 1 : Nat) : Int) * k = m * k + k := by
      rw [Int.natCast_succ, Int.add_mul, Int.one_mul]
    rw [e] at q ⊢
    obtain ⟨j, hj, ej⟩ := core_down F hk0 h hc m (by omega)
    rcases h j hj with h2 | ⟨i, hi, h2⟩
    · omega
    · exact ⟨i, hi, by omega⟩
theorem core_mult (F : Heap B hs) {k : Int} (hk0 : 0 < k) (h : NoHook hs k) {c : Nat} {r : Int} (hc : c < hs.length) (h0 : 0 ≤ r) (h1 : r < hs.getD c 0) : hk hs c r % k ≠ 0 := by
  intro q
  obtain ⟨g1, g2, g3⟩ := hook_gap F hc h0 h1
  have e : hk hs c r = hk hs c r / k * k := by
    have := Int.mul_ediv_add_emod (hk hs c r) k
    rw [q, Int.mul_comm] at this
    omega
  have hn : 0 ≤ hk hs c r / k := Int.ediv_nonneg (by omega) (by omega)
  obtain ⟨m, hm⟩ := Int.eq_ofNat_of_zero_le hn
  rw [hm] at e
  rw [e] at g1 g2
  obtain ⟨j, hj, ej⟩ := core_down F hk0 ((core_iff F hk0).mp h) hc m g1
  exact g2 j hj ej
end Hk
end
section
set_option maxRecDepth 100000
set_option maxHeartbeats 0
set_option exponentiation.threshold 1000000
namespace Sk58
open PySem L2 Sm
theorem vw_k {C : Cells} {ks : List Key} {ds : List D} : vw C (.dk ks ds) = .dk ks ds := rfl
theorem ie_k {ks : List Key} {ds : List D} : isErr (.dk ks ds) = false := rfl
/-- the dice that stand in the n-th cell, thrown k times -/
def Dc (C : Cells) (n k : Nat) : Prop := ∃ a b c : Int, C[n]? = some (some (.l [.int a, .int b, .int c])) ∧ 0 ≤ a ∧ 0 ≤ b ∧ b < 2147483648 ∧ 0 ≤ c ∧ c ≤ k
theorem small_dec {b : Int} (h0 : 0 ≤ b) (h : b < 2 ^ 80) : b.natAbs < 2 ^ 400000 := by
  refine Nat.lt_of_lt_of_le (m := 2 ^ 80) (by omega) (Nat.pow_le_pow_right (by decide) (by decide))
theorem Dc.mono {C : Cells} {n j k : Nat} (h : Dc C n j) (hk : j ≤ k) : Dc C n k := by
  obtain ⟨a, b, c, h1, h2, h3, h4, h5, h6⟩ := h
  exact ⟨a, b, c, h1, h2, h3, h4, h5, by omega⟩
theorem Dc.lt {C : Cells} {n j : Nat} (h : Dc C n j) : n < C.length := by
  obtain ⟨a, b, c, h1, _⟩ := h
  exact (List.getElem?_eq_some_iff.mp h1).1
theorem set_fr {C : Cells} {n m : Nat} {x : Option Ob} (hm : m ≠ n) : ((C.set n x).take C.length)[m]? = C[m]? := by
  rw [List.take_of_length_le (by simp), List.getElem?_set_ne (fun e => hm e.symm)]
theorem roll_fr {C : Cells} {n k : Nat} {z : Int} (D : Dc C n k) (hk : k ≤ 1000000) (h0 : 0 < z) (h1 : z < 2 ^ 200) :
    ∃ v C', m__law_roll [.cel n, .int z] C = some (.ok (.int v) C') ∧ 0 ≤ v ∧ v < z ∧ C'.length = C.length ∧ Dc C' n (k + 1) ∧ ∀ m, m ≠ n → C'[m]? = C[m]? := by
  obtain ⟨a, b, c, hC, ha, hb, hb2, hc, hc2⟩ := D
  have hz : z.natAbs < 2 ^ 8000 := Nat.lt_of_lt_of_le (m := 2 ^ 200) (by omega) (Nat.pow_le_pow_right (by decide) (by decide))
  have hn : n < C.length := (List.getElem?_eq_some_iff.mp hC).1
  have hv := vw_c hC
  unfold m__law_roll b__law_roll
  by_cases hp : 0 < a
  · simp only [↓xDef, ↓xSeq, ↓xDo, ↓xNext, ↓xRet, ↓xExp, ↓xIfS, ↓xAsg, ↓gN, ↓gT, ↓gsC, ↓gsN, ↓xV, ↓S.val, ↓S.bind, ↓S.opt, ↓x2, ↓x1, ↓xN, ↓xB, ↓xD, ↓xAnd, ↓xOr, ↓xNot, ↓xIf, ↓xAndV, ↓xOrV, ↓xNotV, ↓xChain, ↓aNil, ↓aCons, ↓xTup, ↓few, ↓xF, ↓xC, ↓xSetI, ↓xPar, ↓xCall, ↓xFrz, ↓xM, live, i2, dSub, dAdd, dMul, dMulA, dMod, dDiv, dLt, dLe, dGt, dGe, dIx, atI, dNeg, dAbs, dInt, dLen, dMin2, dMax2, dGcd, dTuple, ↓iR1, ↓iR2, ↓iV, items, ↓iEn, items1, nocel, nocels, List.map_cons, List.map_nil, List.getElem?_cons_zero, List.getElem?_cons_succ, List.getElem?_nil, List.set_cons_zero, List.set_cons_succ, List.length_cons, List.length_nil, List.replicate, List.cons_append, List.nil_append, Nat.reduceAdd, Nat.reduceSub, Bool.false_eq_true, if_true, if_false, Option.map_some, Option.bind_some, Option.bind_none, Bool.and_true, Bool.and_false, Bool.true_and, Bool.not_true, Bool.not_false, decide_true, decide_false, vw_n, vw_b, vw_i, vw_s, vw_u, vw_l, vw_o, ie_n, ie_b, ie_i, ie_s, ie_u, ie_l, ie_c, x10, x20, x21, x30, x31, x32, fin_b, fin_i, eq_ii, ne_ii, List.take_length, vw_k, ie_k, id_eq, Nat.reduceLeDiff, ↓xSl, ↓xAugI, ↓oE, ↓oNo, ↓xLs, ↓xExt, ↓iZp, hC, hv, hp, h0, hz, and_self]
    refine ⟨_, _, rfl, Int.emod_nonneg _ (by omega), Int.emod_lt_of_pos _ h0, ?_, ?_, fun m hm => ?_⟩
    · simp
    · refine ⟨a / z, b, c, ?_, Int.ediv_nonneg ha (by omega), hb, hb2, hc, by omega⟩
      rw [List.getElem?_take, if_pos hn, List.getElem?_set_self hn]
    · exact set_fr hm
  · have hC2 : (C.set n (some (Ob.l [D.int a, D.int b, D.int (c + 1)])))[n]? = some (some (Ob.l [D.int a, D.int b, D.int (c + 1)])) := List.getElem?_set_self hn
    have hv2 := vw_c hC2
    have e1 : ∀ x : Int, (x % 2305843009213693951).natAbs < 2 ^ 400000 := fun x => small_dec (Int.emod_nonneg _ (by decide)) (by have := Int.emod_lt_of_pos x (b := 2305843009213693951) (by decide); omega)
    have e2 : ∀ x : Int, (x % 2305843009213693921).natAbs < 2 ^ 400000 := fun x => small_dec (Int.emod_nonneg _ (by decide)) (by have := Int.emod_lt_of_pos x (b := 2305843009213693921) (by decide); omega)
    have e3 : (c + 1).natAbs < 2 ^ 400000 := small_dec (by omega) (by omega)
    have e4 : (1000409 : Int).natAbs < 2 ^ 400000 := small_dec (by decide) (by decide)
    have e5 : (9479 : Int).natAbs < 2 ^ 400000 := small_dec (by decide) (by decide)
    have e6 : (0 : Int) < 2305843009213693951 ∧ (0 : Int) < 2305843009213693921 ∧ (0 : Int) < 2305843009213693907 := by decide
    have e7 : (0 : Int) < 4096 ∧ (4096 : Int).natAbs < 2 ^ 8000 := ⟨by decide, Nat.lt_of_lt_of_le (m := 2 ^ 80) (by decide) (Nat.pow_le_pow_right (by decide) (by decide))⟩
    simp only [↓xDef, ↓xSeq, ↓xDo, ↓xNext, ↓xRet, ↓xExp, ↓xIfS, ↓xAsg, ↓gN, ↓gT, ↓gsC, ↓gsN, ↓xV, ↓S.val, ↓S.bind, ↓S.opt, ↓x2, ↓x1, ↓xN, ↓xB, ↓xD, ↓xAnd, ↓xOr, ↓xNot, ↓xIf, ↓xAndV, ↓xOrV, ↓xNotV, ↓xChain, ↓aNil, ↓aCons, ↓xTup, ↓few, ↓xF, ↓xC, ↓xSetI, ↓xPar, ↓xCall, ↓xFrz, ↓xM, live, i2, dSub, dAdd, dMul, dMulA, dMod, dDiv, dLt, dLe, dGt, dGe, dIx, atI, dNeg, dAbs, dInt, dLen, dMin2, dMax2, dGcd, dTuple, ↓iR1, ↓iR2, ↓iV, items, ↓iEn, items1, nocel, nocels, List.map_cons, List.map_nil, List.getElem?_cons_zero, List.getElem?_cons_succ, List.getElem?_nil, List.set_cons_zero, List.set_cons_succ, List.length_cons, List.length_nil, List.replicate, List.cons_append, List.nil_append, Nat.reduceAdd, Nat.reduceSub, Bool.false_eq_true, if_true, if_false, Option.map_some, Option.bind_some, Option.bind_none, Bool.and_true, Bool.and_false, Bool.true_and, Bool.not_true, Bool.not_false, decide_true, decide_false, vw_n, vw_b, vw_i, vw_s, vw_u, vw_l, vw_o, ie_n, ie_b, ie_i, ie_s, ie_u, ie_l, ie_c, x10, x20, x21, x30, x31, x32, fin_b, fin_i, eq_ii, ne_ii, List.take_length, vw_k, ie_k, id_eq, Nat.reduceLeDiff, ↓xSl, ↓xAugI, ↓oE, ↓oNo, ↓xLs, ↓xExt, ↓iZp, hC, hv, hv2, hC2, hp, h0, hz, and_self, e1, e2, e3, e4, e5, e6.1, e6.2.1, e6.2.2, e7]
    refine ⟨_, _, rfl, Int.emod_nonneg _ (by omega), Int.emod_lt_of_pos _ h0, ?_, ?_, fun m hm => ?_⟩
    · simp
    · refine ⟨a, b, c + 1, ?_, ha, hb, hb2, by omega, by omega⟩
      rw [List.getElem?_take, if_pos hn, List.getElem?_set_self hn]
    · exact set_fr hm
theorem roll {C : Cells} {n k : Nat} {z : Int} (D : Dc C n k) (hk : k ≤ 1000000) (h0 : 0 < z) (h1 : z < 2 ^ 200) :
    ∃ v C', m__law_roll [.cel n, .int z] C = some (.ok (.int v) C') ∧ 0 ≤ v ∧ v < z ∧ C'.length = C.length ∧ Dc C' n (k + 1) := by
  obtain ⟨v, C', h1, h2, h3, h4, h5, _⟩ := roll_fr D hk h0 h1
  exact ⟨v, C', h1, h2, h3, h4, h5⟩
/-! ### what is judged -/
theorem is_whole {d : D} (C : Cells) (h : typed d = true) : m_is_whole [d] C = some (.ok (.bl (wholeB d)) C) := by
  unfold m_is_whole b_is_whole
  cases d <;> first | (simp [typed] at h; done) | (simp [↓xDef, ↓xSeq, ↓xDo, ↓xNext, ↓xRet, ↓xExp, ↓xIfS, ↓xAsg, ↓gN, ↓gT, ↓gsC, ↓gsN, ↓xV, ↓S.val, ↓S.bind, ↓S.opt, ↓x2, ↓x1, ↓xN, ↓xB, ↓xD, ↓xAnd, ↓xOr, ↓xNot, ↓xIf, ↓xAndV, ↓xOrV, ↓xNotV, ↓xChain, ↓aNil, ↓aCons, ↓xTup, ↓few, ↓xF, ↓xC, ↓xSetI, ↓xPar, ↓xCall, ↓xFrz, ↓xM, live, i2, dSub, dAdd, dMul, dMulA, dMod, dDiv, dLt, dLe, dGt, dGe, dIx, atI, dNeg, dAbs, dInt, dLen, dMin2, dMax2, dGcd, dTuple, ↓iR1, ↓iR2, ↓iV, items, ↓iEn, items1, nocel, nocels, List.map_cons, List.map_nil, List.getElem?_cons_zero, List.getElem?_cons_succ, List.getElem?_nil, List.set_cons_zero, List.set_cons_succ, List.length_cons, List.length_nil, List.replicate, List.cons_append, List.nil_append, Nat.reduceAdd, Nat.reduceSub, Bool.false_eq_true, if_true, if_false, Option.map_some, Option.bind_some, Option.bind_none, Bool.and_true, Bool.and_false, Bool.true_and, Bool.not_true, Bool.not_false, decide_true, decide_false, vw_n, vw_b, vw_i, vw_s, vw_u, vw_l, vw_o, ie_n, ie_b, ie_i, ie_s, ie_u, ie_l, ie_c, x10, x20, x21, x30, x31, x32, fin_b, fin_i, eq_ii, ne_ii, List.take_length, vw_k, ie_k, id_eq, Nat.reduceLeDiff, ↓xSl, ↓xAugI, ↓oE, ↓oNo, ↓xLs, ↓xExt, ↓iZp, isi_int h, isi_bool h, intB, blB, wholeB]; done)
def withinB (d : D) (lo hi : Int) : Bool := match d with
  | .int i => decide (lo ≤ i) && decide (i ≤ hi)
  | _ => false
theorem is_within {d : D} {lo hi : Int} (C : Cells) (h : typed d = true) : m_is_within [d, .int lo, .int hi] C = some (.ok (.bl (withinB d lo hi)) C) := by
  unfold m_is_within b_is_within
  simp only [↓xDef, ↓xSeq, ↓xDo, ↓xNext, ↓xRet, ↓xExp, ↓xIfS, ↓xAsg, ↓gN, ↓gT, ↓gsC, ↓gsN, ↓xV, ↓S.val, ↓S.bind, ↓S.opt, ↓x2, ↓x1, ↓xN, ↓xB, ↓xD, ↓xAnd, ↓xOr, ↓xNot, ↓xIf, ↓xAndV, ↓xOrV, ↓xNotV, ↓xChain, ↓aNil, ↓aCons, ↓xTup, ↓few, ↓xF, ↓xC, ↓xSetI, ↓xPar, ↓xCall, ↓xFrz, ↓xM, live, i2, dSub, dAdd, dMul, dMulA, dMod, dDiv, dLt, dLe, dGt, dGe, dIx, atI, dNeg, dAbs, dInt, dLen, dMin2, dMax2, dGcd, dTuple, ↓iR1, ↓iR2, ↓iV, items, ↓iEn, items1, nocel, nocels, List.map_cons, List.map_nil, List.getElem?_cons_zero, List.getElem?_cons_succ, List.getElem?_nil, List.set_cons_zero, List.set_cons_succ, List.length_cons, List.length_nil, List.replicate, List.cons_append, List.nil_append, Nat.reduceAdd, Nat.reduceSub, Bool.false_eq_true, if_true, if_false, Option.map_some, Option.bind_some, Option.bind_none, Bool.and_true, Bool.and_false, Bool.true_and, Bool.not_true, Bool.not_false, decide_true, decide_false, vw_n, vw_b, vw_i, vw_s, vw_u, vw_l, vw_o, ie_n, ie_b, ie_i, ie_s, ie_u, ie_l, ie_c, x10, x20, x21, x30, x31, x32, fin_b, fin_i, eq_ii, ne_ii, List.take_length, vw_k, ie_k, id_eq, Nat.reduceLeDiff, ↓xSl, ↓xAugI, ↓oE, ↓oNo, ↓xLs, ↓xExt, ↓iZp, vw_t h, ie_t h, is_whole C h]
  cases d <;> first | (simp [↓xDef, ↓xSeq, ↓xDo, ↓xNext, ↓xRet, ↓xExp, ↓xIfS, ↓xAsg, ↓gN, ↓gT, ↓gsC, ↓gsN, ↓xV, ↓S.val, ↓S.bind, ↓S.opt, ↓x2, ↓x1, ↓xN, ↓xB, ↓xD, ↓xAnd, ↓xOr, ↓xNot, ↓xIf, ↓xAndV, ↓xOrV, ↓xNotV, ↓xChain, ↓aNil, ↓aCons, ↓xTup, ↓few, ↓xF, ↓xC, ↓xSetI, ↓xPar, ↓xCall, ↓xFrz, ↓xM, live, i2, dSub, dAdd, dMul, dMulA, dMod, dDiv, dLt, dLe, dGt, dGe, dIx, atI, dNeg, dAbs, dInt, dLen, dMin2, dMax2, dGcd, dTuple, ↓iR1, ↓iR2, ↓iV, items, ↓iEn, items1, nocel, nocels, List.map_cons, List.map_nil, List.getElem?_cons_zero, List.getElem?_cons_succ, List.getElem?_nil, List.set_cons_zero, List.set_cons_succ, List.length_cons, List.length_nil, List.replicate, List.cons_append, List.nil_append, Nat.reduceAdd, Nat.reduceSub, Bool.false_eq_true, if_true, if_false, Option.map_some, Option.bind_some, Option.bind_none, Bool.and_true, Bool.and_false, Bool.true_and, Bool.not_true, Bool.not_false, decide_true, decide_false, vw_n, vw_b, vw_i, vw_s, vw_u, vw_l, vw_o, ie_n, ie_b, ie_i, ie_s, ie_u, ie_l, ie_c, x10, x20, x21, x30, x31, x32, fin_b, fin_i, eq_ii, ne_ii, List.take_length, vw_k, ie_k, id_eq, Nat.reduceLeDiff, ↓xSl, ↓xAugI, ↓oE, ↓oNo, ↓xLs, ↓xExt, ↓iZp, wholeB, withinB, dLe]; done) | skip
  rename_i i
  by_cases hq : lo ≤ i <;> simp [↓xDef, ↓xSeq, ↓xDo, ↓xNext, ↓xRet, ↓xExp, ↓xIfS, ↓xAsg, ↓gN, ↓gT, ↓gsC, ↓gsN, ↓xV, ↓S.val, ↓S.bind, ↓S.opt, ↓x2, ↓x1, ↓xN, ↓xB, ↓xD, ↓xAnd, ↓xOr, ↓xNot, ↓xIf, ↓xAndV, ↓xOrV, ↓xNotV, ↓xChain, ↓aNil, ↓aCons, ↓xTup, ↓few, ↓xF, ↓xC, ↓xSetI, ↓xPar, ↓xCall, ↓xFrz, ↓xM, live, i2, dSub, dAdd, dMul, dMulA, dMod, dDiv, dLt, dLe, dGt, dGe, dIx, atI, dNeg, dAbs, dInt, dLen, dMin2, dMax2, dGcd, dTuple, ↓iR1, ↓iR2, ↓iV, items, ↓iEn, items1, nocel, nocels, List.map_cons, List.map_nil, List.getElem?_cons_zero, List.getElem?_cons_succ, List.getElem?_nil, List.set_cons_zero, List.set_cons_succ, List.length_cons, List.length_nil, List.replicate, List.cons_append, List.nil_append, Nat.reduceAdd, Nat.reduceSub, Bool.false_eq_true, if_true, if_false, Option.map_some, Option.bind_some, Option.bind_none, Bool.and_true, Bool.and_false, Bool.true_and, Bool.not_true, Bool.not_false, decide_true, decide_false, vw_n, vw_b, vw_i, vw_s, vw_u, vw_l, vw_o, ie_n, ie_b, ie_i, ie_s, ie_u, ie_l, ie_c, x10, x20, x21, x30, x31, x32, fin_b, fin_i, eq_ii, ne_ii, List.take_length, vw_k, ie_k, id_eq, Nat.reduceLeDiff, ↓xSl, ↓xAugI, ↓oE, ↓oNo, ↓xLs, ↓xExt, ↓iZp, wholeB, withinB, dLe, hq]
def ringB : D → Bool
  | .tup [x, y] => withinB x 2 60 && (match x with
    | .int i => withinB y 1 (i - 1)
    | _ => false)
  | _ => false
def typedT : D → Bool
  | .tup ds => ds.all typed
  | d => typed d
theorem typedT_t {d : D} (h : typedT d = true) : typed d = true := by
  cases d <;> first | rfl | exact h
theorem is_ring_in {d : D} (C : Cells) (h : typedT d = true) : m_is_ring_in [d] C = some (.ok (.bl (ringB d)) C) := by
  have h1 := typedT_t h
  unfold m_is_ring_in b_is_ring_in
  simp only [↓xDef, ↓xSeq, ↓xDo, ↓xNext, ↓xRet, ↓xExp, ↓xIfS, ↓xAsg, ↓gN, ↓gT, ↓gsC, ↓gsN, ↓xV, ↓S.val, ↓S.bind, ↓S.opt, ↓x2, ↓x1, ↓xN, ↓xB, ↓xD, ↓xAnd, ↓xOr, ↓xNot, ↓xIf, ↓xAndV, ↓xOrV, ↓xNotV, ↓xChain, ↓aNil, ↓aCons, ↓xTup, ↓few, ↓xF, ↓xC, ↓xSetI, ↓xPar, ↓xCall, ↓xFrz, ↓xM, live, i2, dSub, dAdd, dMul, dMulA, dMod, dDiv, dLt, dLe, dGt, dGe, dIx, atI, dNeg, dAbs, dInt, dLen, dMin2, dMax2, dGcd, dTuple, ↓iR1, ↓iR2, ↓iV, items, ↓iEn, items1, nocel, nocels, List.map_cons, List.map_nil, List.getElem?_cons_zero, List.getElem?_cons_succ, List.getElem?_nil, List.set_cons_zero, List.set_cons_succ, List.length_cons, List.length_nil, List.replicate, List.cons_append, List.nil_append, Nat.reduceAdd, Nat.reduceSub, Bool.false_eq_true, if_true, if_false, Option.map_some, Option.bind_some, Option.bind_none, Bool.and_true, Bool.and_false, Bool.true_and, Bool.not_true, Bool.not_false, decide_true, decide_false, vw_n, vw_b, vw_i, vw_s, vw_u, vw_l, vw_o, ie_n, ie_b, ie_i, ie_s, ie_u, ie_l, ie_c, x10, x20, x21, x30, x31, x32, fin_b, fin_i, eq_ii, ne_ii, List.take_length, vw_k, ie_k, id_eq, Nat.reduceLeDiff, ↓xSl, ↓xAugI, ↓oE, ↓oNo, ↓xLs, ↓xExt, ↓iZp, vw_t h1, ie_t h1, isi_tup h1]
  cases d with
  | tup ds =>
    simp only [↓xDef, ↓xSeq, ↓xDo, ↓xNext, ↓xRet, ↓xExp, ↓xIfS, ↓xAsg, ↓gN, ↓gT, ↓gsC, ↓gsN, ↓xV, ↓S.val, ↓S.bind, ↓S.opt, ↓x2, ↓x1, ↓xN, ↓xB, ↓xD, ↓xAnd, ↓xOr, ↓xNot, ↓xIf, ↓xAndV, ↓xOrV, ↓xNotV, ↓xChain, ↓aNil, ↓aCons, ↓xTup, ↓few, ↓xF, ↓xC, ↓xSetI, ↓xPar, ↓xCall, ↓xFrz, ↓xM, live, i2, dSub, dAdd, dMul, dMulA, dMod, dDiv, dLt, dLe, dGt, dGe, dIx, atI, dNeg, dAbs, dInt, dLen, dMin2, dMax2, dGcd, dTuple, ↓iR1, ↓iR2, ↓iV, items, ↓iEn, items1, nocel, nocels, List.map_cons, List.map_nil, List.getElem?_cons_zero, List.getElem?_cons_succ, List.getElem?_nil, List.set_cons_zero, List.set_cons_succ, List.length_cons, List.length_nil, List.replicate, List.cons_append, List.nil_append, Nat.reduceAdd, Nat.reduceSub, Bool.false_eq_true, if_true, if_false, Option.map_some, Option.bind_some, Option.bind_none, Bool.and_true, Bool.and_false, Bool.true_and, Bool.not_true, Bool.not_false, decide_true, decide_false, vw_n, vw_b, vw_i, vw_s, vw_u, vw_l, vw_o, ie_n, ie_b, ie_i, ie_s, ie_u, ie_l, ie_c, x10, x20, x21, x30, x31, x32, fin_b, fin_i, eq_ii, ne_ii, List.take_length, vw_k, ie_k, id_eq, Nat.reduceLeDiff, ↓xSl, ↓xAugI, ↓oE, ↓oNo, ↓xLs, ↓xExt, ↓iZp, tupB]
    by_cases hl : ds.length = 2
    · match ds, hl, h with
      | [x, y], _, h =>
        have hx : typed x = true := by simp [typedT] at h; exact h.1
        have hy : typed y = true := by simp [typedT] at h; exact h.2
        simp only [↓xDef, ↓xSeq, ↓xDo, ↓xNext, ↓xRet, ↓xExp, ↓xIfS, ↓xAsg, ↓gN, ↓gT, ↓gsC, ↓gsN, ↓xV, ↓S.val, ↓S.bind, ↓S.opt, ↓x2, ↓x1, ↓xN, ↓xB, ↓xD, ↓xAnd, ↓xOr, ↓xNot, ↓xIf, ↓xAndV, ↓xOrV, ↓xNotV, ↓xChain, ↓aNil, ↓aCons, ↓xTup, ↓few, ↓xF, ↓xC, ↓xSetI, ↓xPar, ↓xCall, ↓xFrz, ↓xM, live, i2, dSub, dAdd, dMul, dMulA, dMod, dDiv, dLt, dLe, dGt, dGe, dIx, atI, dNeg, dAbs, dInt, dLen, dMin2, dMax2, dGcd, dTuple, ↓iR1, ↓iR2, ↓iV, items, ↓iEn, items1, nocel, nocels, List.map_cons, List.map_nil, List.getElem?_cons_zero, List.getElem?_cons_succ, List.getElem?_nil, List.set_cons_zero, List.set_cons_succ, List.length_cons, List.length_nil, List.replicate, List.cons_append, List.nil_append, Nat.reduceAdd, Nat.reduceSub, Bool.false_eq_true, if_true, if_false, Option.map_some, Option.bind_some, Option.bind_none, Bool.and_true, Bool.and_false, Bool.true_and, Bool.not_true, Bool.not_false, decide_true, decide_false, vw_n, vw_b, vw_i, vw_s, vw_u, vw_l, vw_o, ie_n, ie_b, ie_i, ie_s, ie_u, ie_l, ie_c, x10, x20, x21, x30, x31, x32, fin_b, fin_i, eq_ii, ne_ii, List.take_length, vw_k, ie_k, id_eq, Nat.reduceLeDiff, ↓xSl, ↓xAugI, ↓oE, ↓oNo, ↓xLs, ↓xExt, ↓iZp, is_within C hx]
        cases hw : withinB x 2 60 with
        | false => simp [↓xDef, ↓xSeq, ↓xDo, ↓xNext, ↓xRet, ↓xExp, ↓xIfS, ↓xAsg, ↓gN, ↓gT, ↓gsC, ↓gsN, ↓xV, ↓S.val, ↓S.bind, ↓S.opt, ↓x2, ↓x1, ↓xN, ↓xB, ↓xD, ↓xAnd, ↓xOr, ↓xNot, ↓xIf, ↓xAndV, ↓xOrV, ↓xNotV, ↓xChain, ↓aNil, ↓aCons, ↓xTup, ↓few, ↓xF, ↓xC, ↓xSetI, ↓xPar, ↓xCall, ↓xFrz, ↓xM, live, i2, dSub, dAdd, dMul, dMulA, dMod, dDiv, dLt, dLe, dGt, dGe, dIx, atI, dNeg, dAbs, dInt, dLen, dMin2, dMax2, dGcd, dTuple, ↓iR1, ↓iR2, ↓iV, items, ↓iEn, items1, nocel, nocels, List.map_cons, List.map_nil, List.getElem?_cons_zero, List.getElem?_cons_succ, List.getElem?_nil, List.set_cons_zero, List.set_cons_succ, List.length_cons, List.length_nil, List.replicate, List.cons_append, List.nil_append, Nat.reduceAdd, Nat.reduceSub, Bool.false_eq_true, if_true, if_false, Option.map_some, Option.bind_some, Option.bind_none, Bool.and_true, Bool.and_false, Bool.true_and, Bool.not_true, Bool.not_false, decide_true, decide_false, vw_n, vw_b, vw_i, vw_s, vw_u, vw_l, vw_o, ie_n, ie_b, ie_i, ie_s, ie_u, ie_l, ie_c, x10, x20, x21, x30, x31, x32, fin_b, fin_i, eq_ii, ne_ii, List.take_length, vw_k, ie_k, id_eq, Nat.reduceLeDiff, ↓xSl, ↓xAugI, ↓oE, ↓oNo, ↓xLs, ↓xExt, ↓iZp, is_within C hx, hw, ringB]
        | true =>
          cases x with
          | int i =>
            simp [↓xDef, ↓xSeq, ↓xDo, ↓xNext, ↓xRet, ↓xExp, ↓xIfS, ↓xAsg, ↓gN, ↓gT, ↓gsC, ↓gsN, ↓xV, ↓S.val, ↓S.bind, ↓S.opt, ↓x2, ↓x1, ↓xN, ↓xB, ↓xD, ↓xAnd, ↓xOr, ↓xNot, ↓xIf, ↓xAndV, ↓xOrV, ↓xNotV, ↓xChain, ↓aNil, ↓aCons, ↓xTup, ↓few, ↓xF, ↓xC, ↓xSetI, ↓xPar, ↓xCall, ↓xFrz, ↓xM, live, i2, dSub, dAdd, dMul, dMulA, dMod, dDiv, dLt, dLe, dGt, dGe, dIx, atI, dNeg, dAbs, dInt, dLen, dMin2, dMax2, dGcd, dTuple, ↓iR1, ↓iR2, ↓iV, items, ↓iEn, items1, nocel, nocels, List.map_cons, List.map_nil, List.getElem?_cons_zero, List.getElem?_cons_succ, List.getElem?_nil, List.set_cons_zero, List.set_cons_succ, List.length_cons, List.length_nil, List.replicate, List.cons_append, List.nil_append, Nat.reduceAdd, Nat.reduceSub, Bool.false_eq_true, if_true, if_false, Option.map_some, Option.bind_some, Option.bind_none, Bool.and_true, Bool.and_false, Bool.true_and, Bool.not_true, Bool.not_false, decide_true, decide_false, vw_n, vw_b, vw_i, vw_s, vw_u, vw_l, vw_o, ie_n, ie_b, ie_i, ie_s, ie_u, ie_l, ie_c, x10, x20, x21, x30, x31, x32, fin_b, fin_i, eq_ii, ne_ii, List.take_length, vw_k, ie_k, id_eq, Nat.reduceLeDiff, ↓xSl, ↓xAugI, ↓oE, ↓oNo, ↓xLs, ↓xExt, ↓iZp, is_within C hx, hw, ringB, is_within C hy]
          | _ => simp [withinB] at hw
    · have hl2 : ((ds.length : Int) == 2) = false := by simp; omega
      have hr : ringB (.tup ds) = false := by
        match ds, hl with
        | [], _ => rfl
        | [_], _ => rfl
        | _ :: _ :: _ :: _, _ => rfl
        | [_, _], h => exact absurd rfl h
      simp [↓xDef, ↓xSeq, ↓xDo, ↓xNext, ↓xRet, ↓xExp, ↓xIfS, ↓xAsg, ↓gN, ↓gT, ↓gsC, ↓gsN, ↓xV, ↓S.val, ↓S.bind, ↓S.opt, ↓x2, ↓x1, ↓xN, ↓xB, ↓xD, ↓xAnd, ↓xOr, ↓xNot, ↓xIf, ↓xAndV, ↓xOrV, ↓xNotV, ↓xChain, ↓aNil, ↓aCons, ↓xTup, ↓few, ↓xF, ↓xC, ↓xSetI, ↓xPar, ↓xCall, ↓xFrz, ↓xM, live, i2, dSub, dAdd, dMul, dMulA, dMod, dDiv, dLt, dLe, dGt, dGe, dIx, atI, dNeg, dAbs, dInt, dLen, dMin2, dMax2, dGcd, dTuple, ↓iR1, ↓iR2, ↓iV, items, ↓iEn, items1, nocel, nocels, List.map_cons, List.map_nil, List.getElem?_cons_zero, List.getElem?_cons_succ, List.getElem?_nil, List.set_cons_zero, List.set_cons_succ, List.length_cons, List.length_nil, List.replicate, List.cons_append, List.nil_append, Nat.reduceAdd, Nat.reduceSub, Bool.false_eq_true, if_true, if_false, Option.map_some, Option.bind_some, Option.bind_none, Bool.and_true, Bool.and_false, Bool.true_and, Bool.not_true, Bool.not_false, decide_true, decide_false, vw_n, vw_b, vw_i, vw_s, vw_u, vw_l, vw_o, ie_n, ie_b, ie_i, ie_s, ie_u, ie_l, ie_c, x10, x20, x21, x30, x31, x32, fin_b, fin_i, eq_ii, ne_ii, List.take_length, vw_k, ie_k, id_eq, Nat.reduceLeDiff, ↓xSl, ↓xAugI, ↓oE, ↓oNo, ↓xLs, ↓xExt, ↓iZp, hl2, hr]
  | _ => simp [↓xDef, ↓xSeq, ↓xDo, ↓xNext, ↓xRet, ↓xExp, ↓xIfS, ↓xAsg, ↓gN, ↓gT, ↓gsC, ↓gsN, ↓xV, ↓S.val, ↓S.bind, ↓S.opt, ↓x2, ↓x1, ↓xN, ↓xB, ↓xD, ↓xAnd, ↓xOr, ↓xNot, ↓xIf, ↓xAndV, ↓xOrV, ↓xNotV, ↓xChain, ↓aNil, ↓aCons, ↓xTup, ↓few, ↓xF, ↓xC, ↓xSetI, ↓xPar, ↓xCall, ↓xFrz, ↓xM, live, i2, dSub, dAdd, dMul, dMulA, dMod, dDiv, dLt, dLe, dGt, dGe, dIx, atI, dNeg, dAbs, dInt, dLen, dMin2, dMax2, dGcd, dTuple, ↓iR1, ↓iR2, ↓iV, items, ↓iEn, items1, nocel, nocels, List.map_cons, List.map_nil, List.getElem?_cons_zero, List.getElem?_cons_succ, List.getElem?_nil, List.set_cons_zero, List.set_cons_succ, List.length_cons, List.length_nil, List.replicate, List.cons_append, List.nil_append, Nat.reduceAdd, Nat.reduceSub, Bool.false_eq_true, if_true, if_false, Option.map_some, Option.bind_some, Option.bind_none, Bool.and_true, Bool.and_false, Bool.true_and, Bool.not_true, Bool.not_false, decide_true, decide_false, vw_n, vw_b, vw_i, vw_s, vw_u, vw_l, vw_o, ie_n, ie_b, ie_i, ie_s, ie_u, ie_l, ie_c, x10, x20, x21, x30, x31, x32, fin_b, fin_i, eq_ii, ne_ii, List.take_length, vw_k, ie_k, id_eq, Nat.reduceLeDiff, ↓xSl, ↓xAugI, ↓oE, ↓oNo, ↓xLs, ↓xExt, ↓iZp, tupB, ringB]
def chainB : D → Bool
  | .tup ds => decide (1 ≤ ds.length) && decide (ds.length ≤ 12) && ds.all ringB
  | _ => false
def typedC : D → Bool
  | .tup ds => ds.all typedT
  | d => typed d
theorem bls_map (p : D → Bool) : ∀ ds : List D, bls (ds.map fun d => .bl (p d)) = some (ds.map p)
  | [] => rfl
  | d :: ds => by
    show ((bls (ds.map fun d => .bl (p d))).map (p d :: ·)) = _
    rw [bls_map p ds]
    rfl
theorem lc_chain {ds : List D} (C : Cells) (h : ds.all typedT = true) (hl : ds.length ≤ 1000000) : q1_is_chain_in [some (.tup ds), none] C = some (.ok (ds.map fun d => .bl (ringB d)) C) := by
  have e := lcs_map (g := gd0) (t := gN 1) (c := S.val true) (x := xCall m_is_ring_in (aCons (xV 1) aNil)) (e := [some (.tup ds), none]) (C := C) rfl (p := fun _ => true) (f := fun d => .bl (ringB d)) ds fun d hd => by
    have ht : typedT d = true := List.all_eq_true.mp h d hd
    refine ⟨[some (.tup ds), some d], rfl, rfl, fun _ => ?_⟩
    simp only [↓xDef, ↓xSeq, ↓xDo, ↓xNext, ↓xRet, ↓xExp, ↓xIfS, ↓xAsg, ↓gN, ↓gT, ↓gsC, ↓gsN, ↓xV, ↓S.val, ↓S.bind, ↓S.opt, ↓x2, ↓x1, ↓xN, ↓xB, ↓xD, ↓xAnd, ↓xOr, ↓xNot, ↓xIf, ↓xAndV, ↓xOrV, ↓xNotV, ↓xChain, ↓aNil, ↓aCons, ↓xTup, ↓few, ↓xF, ↓xC, ↓xSetI, ↓xPar, ↓xCall, ↓xFrz, ↓xM, live, i2, dSub, dAdd, dMul, dMulA, dMod, dDiv, dLt, dLe, dGt, dGe, dIx, atI, dNeg, dAbs, dInt, dLen, dMin2, dMax2, dGcd, dTuple, ↓iR1, ↓iR2, ↓iV, items, ↓iEn, items1, nocel, nocels, List.map_cons, List.map_nil, List.getElem?_cons_zero, List.getElem?_cons_succ, List.getElem?_nil, List.set_cons_zero, List.set_cons_succ, List.length_cons, List.length_nil, List.replicate, List.cons_append, List.nil_append, Nat.reduceAdd, Nat.reduceSub, Bool.false_eq_true, if_true, if_false, Option.map_some, Option.bind_some, Option.bind_none, Bool.and_true, Bool.and_false, Bool.true_and, Bool.not_true, Bool.not_false, decide_true, decide_false, vw_n, vw_b, vw_i, vw_s, vw_u, vw_l, vw_o, ie_n, ie_b, ie_i, ie_s, ie_u, ie_l, ie_c, x10, x20, x21, x30, x31, x32, fin_b, fin_i, eq_ii, ne_ii, List.take_length, vw_k, ie_k, id_eq, Nat.reduceLeDiff, ↓xSl, ↓xAugI, ↓oE, ↓oNo, ↓xLs, ↓xExt, ↓iZp, ie_t (typedT_t ht), is_ring_in C ht]
  rw [List.filter_eq_self.mpr (fun _ _ => rfl)] at e
  exact xLc_ok (by simp only [↓xDef, ↓xSeq, ↓xDo, ↓xNext, ↓xRet, ↓xExp, ↓xIfS, ↓xAsg, ↓gN, ↓gT, ↓gsC, ↓gsN, ↓xV, ↓S.val, ↓S.bind, ↓S.opt, ↓x2, ↓x1, ↓xN, ↓xB, ↓xD, ↓xAnd, ↓xOr, ↓xNot, ↓xIf, ↓xAndV, ↓xOrV, ↓xNotV, ↓xChain, ↓aNil, ↓aCons, ↓xTup, ↓few, ↓xF, ↓xC, ↓xSetI, ↓xPar, ↓xCall, ↓xFrz, ↓xM, live, i2, dSub, dAdd, dMul, dMulA, dMod, dDiv, dLt, dLe, dGt, dGe, dIx, atI, dNeg, dAbs, dInt, dLen, dMin2, dMax2, dGcd, dTuple, ↓iR1, ↓iR2, ↓iV, items, ↓iEn, items1, nocel, nocels, List.map_cons, List.map_nil, List.getElem?_cons_zero, List.getElem?_cons_succ, List.getElem?_nil, List.set_cons_zero, List.set_cons_succ, List.length_cons, List.length_nil, List.replicate, List.cons_append, List.nil_append, Nat.reduceAdd, Nat.reduceSub, Bool.false_eq_true, if_true, if_false, Option.map_some, Option.bind_some, Option.bind_none, Bool.and_true, Bool.and_false, Bool.true_and, Bool.not_true, Bool.not_false, decide_true, decide_false, vw_n, vw_b, vw_i, vw_s, vw_u, vw_l, vw_o, ie_n, ie_b, ie_i, ie_s, ie_u, ie_l, ie_c, x10, x20, x21, x30, x31, x32, fin_b, fin_i, eq_ii, ne_ii, List.take_length, vw_k, ie_k, id_eq, Nat.reduceLeDiff, ↓xSl, ↓xAugI, ↓oE, ↓oNo, ↓xLs, ↓xExt, ↓iZp]) hl e
theorem is_chain_in {d : D} (C : Cells) (h : typedC d = true) : m_is_chain_in [d] C = some (.ok (.bl (chainB d)) C) := by
  have h1 : typed d = true := by cases d <;> first | rfl | exact h
  unfold m_is_chain_in b_is_chain_in
  cases d with
  | tup ds =>
    have h : ds.all typedT = true := h
    simp only [↓xDef, ↓xSeq, ↓xDo, ↓xNext, ↓xRet, ↓xExp, ↓xIfS, ↓xAsg, ↓gN, ↓gT, ↓gsC, ↓gsN, ↓xV, ↓S.val, ↓S.bind, ↓S.opt, ↓x2, ↓x1, ↓xN, ↓xB, ↓xD, ↓xAnd, ↓xOr, ↓xNot, ↓xIf, ↓xAndV, ↓xOrV, ↓xNotV, ↓xChain, ↓aNil, ↓aCons, ↓xTup, ↓few, ↓xF, ↓xC, ↓xSetI, ↓xPar, ↓xCall, ↓xFrz, ↓xM, live, i2, dSub, dAdd, dMul, dMulA, dMod, dDiv, dLt, dLe, dGt, dGe, dIx, atI, dNeg, dAbs, dInt, dLen, dMin2, dMax2, dGcd, dTuple, ↓iR1, ↓iR2, ↓iV, items, ↓iEn, items1, nocel, nocels, List.map_cons, List.map_nil, List.getElem?_cons_zero, List.getElem?_cons_succ, List.getElem?_nil, List.set_cons_zero, List.set_cons_succ, List.length_cons, List.length_nil, List.replicate, List.cons_append, List.nil_append, Nat.reduceAdd, Nat.reduceSub, Bool.false_eq_true, if_true, if_false, Option.map_some, Option.bind_some, Option.bind_none, Bool.and_true, Bool.and_false, Bool.true_and, Bool.not_true, Bool.not_false, decide_true, decide_false, vw_n, vw_b, vw_i, vw_s, vw_u, vw_l, vw_o, ie_n, ie_b, ie_i, ie_s, ie_u, ie_l, ie_c, x10, x20, x21, x30, x31, x32, fin_b, fin_i, eq_ii, ne_ii, List.take_length, vw_k, ie_k, id_eq, Nat.reduceLeDiff, ↓xSl, ↓xAugI, ↓oE, ↓oNo, ↓xLs, ↓xExt, ↓iZp, isi_tup h1, tupB, chainB]
    by_cases hl1 : 1 ≤ ds.length
    · have q1 : decide ((1 : Int) ≤ (ds.length : Int)) = true := by simp; omega
      by_cases hl2 : ds.length ≤ 12
      · have q2 : decide ((ds.length : Int) ≤ 12) = true := by simp; omega
        simp only [↓xDef, ↓xSeq, ↓xDo, ↓xNext, ↓xRet, ↓xExp, ↓xIfS, ↓xAsg, ↓gN, ↓gT, ↓gsC, ↓gsN, ↓xV, ↓S.val, ↓S.bind, ↓S.opt, ↓x2, ↓x1, ↓xN, ↓xB, ↓xD, ↓xAnd, ↓xOr, ↓xNot, ↓xIf, ↓xAndV, ↓xOrV, ↓xNotV, ↓xChain, ↓aNil, ↓aCons, ↓xTup, ↓few, ↓xF, ↓xC, ↓xSetI, ↓xPar, ↓xCall, ↓xFrz, ↓xM, live, i2, dSub, dAdd, dMul, dMulA, dMod, dDiv, dLt, dLe, dGt, dGe, dIx, atI, dNeg, dAbs, dInt, dLen, dMin2, dMax2, dGcd, dTuple, ↓iR1, ↓iR2, ↓iV, items, ↓iEn, items1, nocel, nocels, List.map_cons, List.map_nil, List.getElem?_cons_zero, List.getElem?_cons_succ, List.getElem?_nil, List.set_cons_zero, List.set_cons_succ, List.length_cons, List.length_nil, List.replicate, List.cons_append, List.nil_append, Nat.reduceAdd, Nat.reduceSub, Bool.false_eq_true, if_true, if_false, Option.map_some, Option.bind_some, Option.bind_none, Bool.and_true, Bool.and_false, Bool.true_and, Bool.not_true, Bool.not_false, decide_true, decide_false, vw_n, vw_b, vw_i, vw_s, vw_u, vw_l, vw_o, ie_n, ie_b, ie_i, ie_s, ie_u, ie_l, ie_c, x10, x20, x21, x30, x31, x32, fin_b, fin_i, eq_ii, ne_ii, List.take_length, vw_k, ie_k, id_eq, Nat.reduceLeDiff, ↓xSl, ↓xAugI, ↓oE, ↓oNo, ↓xLs, ↓xExt, ↓iZp, lc_chain C h (by omega), q1, q2, dAll, bls_map, hl1, hl2, dLe]
        rw [List.all_map]
        rfl
      · have q2 : decide ((ds.length : Int) ≤ 12) = false := by simp; omega
        simp only [↓xDef, ↓xSeq, ↓xDo, ↓xNext, ↓xRet, ↓xExp, ↓xIfS, ↓xAsg, ↓gN, ↓gT, ↓gsC, ↓gsN, ↓xV, ↓S.val, ↓S.bind, ↓S.opt, ↓x2, ↓x1, ↓xN, ↓xB, ↓xD, ↓xAnd, ↓xOr, ↓xNot, ↓xIf, ↓xAndV, ↓xOrV, ↓xNotV, ↓xChain, ↓aNil, ↓aCons, ↓xTup, ↓few, ↓xF, ↓xC, ↓xSetI, ↓xPar, ↓xCall, ↓xFrz, ↓xM, live, i2, dSub, dAdd, dMul, dMulA, dMod, dDiv, dLt, dLe, dGt, dGe, dIx, atI, dNeg, dAbs, dInt, dLen, dMin2, dMax2, dGcd, dTuple, ↓iR1, ↓iR2, ↓iV, items, ↓iEn, items1, nocel, nocels, List.map_cons, List.map_nil, List.getElem?_cons_zero, List.getElem?_cons_succ, List.getElem?_nil, List.set_cons_zero, List.set_cons_succ, List.length_cons, List.length_nil, List.replicate, List.cons_append, List.nil_append, Nat.reduceAdd, Nat.reduceSub, Bool.false_eq_true, if_true, if_false, Option.map_some, Option.bind_some, Option.bind_none, Bool.and_true, Bool.and_false, Bool.true_and, Bool.not_true, Bool.not_false, decide_true, decide_false, vw_n, vw_b, vw_i, vw_s, vw_u, vw_l, vw_o, ie_n, ie_b, ie_i, ie_s, ie_u, ie_l, ie_c, x10, x20, x21, x30, x31, x32, fin_b, fin_i, eq_ii, ne_ii, List.take_length, vw_k, ie_k, id_eq, Nat.reduceLeDiff, ↓xSl, ↓xAugI, ↓oE, ↓oNo, ↓xLs, ↓xExt, ↓iZp, q1, q2, hl1, hl2, dLe, Bool.false_and]
    · have q1 : decide ((1 : Int) ≤ (ds.length : Int)) = false := by simp; omega
      simp only [↓xDef, ↓xSeq, ↓xDo, ↓xNext, ↓xRet, ↓xExp, ↓xIfS, ↓xAsg, ↓gN, ↓gT, ↓gsC, ↓gsN, ↓xV, ↓S.val, ↓S.bind, ↓S.opt, ↓x2, ↓x1, ↓xN, ↓xB, ↓xD, ↓xAnd, ↓xOr, ↓xNot, ↓xIf, ↓xAndV, ↓xOrV, ↓xNotV, ↓xChain, ↓aNil, ↓aCons, ↓xTup, ↓few, ↓xF, ↓xC, ↓xSetI, ↓xPar, ↓xCall, ↓xFrz, ↓xM, live, i2, dSub, dAdd, dMul, dMulA, dMod, dDiv, dLt, dLe, dGt, dGe, dIx, atI, dNeg, dAbs, dInt, dLen, dMin2, dMax2, dGcd, dTuple, ↓iR1, ↓iR2, ↓iV, items, ↓iEn, items1, nocel, nocels, List.map_cons, List.map_nil, List.getElem?_cons_zero, List.getElem?_cons_succ, List.getElem?_nil, List.set_cons_zero, List.set_cons_succ, List.length_cons, List.length_nil, List.replicate, List.cons_append, List.nil_append, Nat.reduceAdd, Nat.reduceSub, Bool.false_eq_true, if_true, if_false, Option.map_some, Option.bind_some, Option.bind_none, Bool.and_true, Bool.and_false, Bool.true_and, Bool.not_true, Bool.not_false, decide_true, decide_false, vw_n, vw_b, vw_i, vw_s, vw_u, vw_l, vw_o, ie_n, ie_b, ie_i, ie_s, ie_u, ie_l, ie_c, x10, x20, x21, x30, x31, x32, fin_b, fin_i, eq_ii, ne_ii, List.take_length, vw_k, ie_k, id_eq, Nat.reduceLeDiff, ↓xSl, ↓xAugI, ↓oE, ↓oNo, ↓xLs, ↓xExt, ↓iZp, q1, hl1, dLe, decide_false, Bool.false_and]
  | _ => first | (simp [typed] at h1; done) | simp only [↓xDef, ↓xSeq, ↓xDo, ↓xNext, ↓xRet, ↓xExp, ↓xIfS, ↓xAsg, ↓gN, ↓gT, ↓gsC, ↓gsN, ↓xV, ↓S.val, ↓S.bind, ↓S.opt, ↓x2, ↓x1, ↓xN, ↓xB, ↓xD, ↓xAnd, ↓xOr, ↓xNot, ↓xIf, ↓xAndV, ↓xOrV, ↓xNotV, ↓xChain, ↓aNil, ↓aCons, ↓xTup, ↓few, ↓xF, ↓xC, ↓xSetI, ↓xPar, ↓xCall, ↓xFrz, ↓xM, live, i2, dSub, dAdd, dMul, dMulA, dMod, dDiv, dLt, dLe, dGt, dGe, dIx, atI, dNeg, dAbs, dInt, dLen, dMin2, dMax2, dGcd, dTuple, ↓iR1, ↓iR2, ↓iV, items, ↓iEn, items1, nocel, nocels, List.map_cons, List.map_nil, List.getElem?_cons_zero, List.getElem?_cons_succ, List.getElem?_nil, List.set_cons_zero, List.set_cons_succ, List.length_cons, List.length_nil, List.replicate, List.cons_append, List.nil_append, Nat.reduceAdd, Nat.reduceSub, Bool.false_eq_true, if_true, if_false, Option.map_some, Option.bind_some, Option.bind_none, Bool.and_true, Bool.and_false, Bool.true_and, Bool.not_true, Bool.not_false, decide_true, decide_false, vw_n, vw_b, vw_i, vw_s, vw_u, vw_l, vw_o, ie_n, ie_b, ie_i, ie_s, ie_u, ie_l, ie_c, x10, x20, x21, x30, x31, x32, fin_b, fin_i, eq_ii, ne_ii, List.take_length, vw_k, ie_k, id_eq, Nat.reduceLeDiff, ↓xSl, ↓xAugI, ↓oE, ↓oNo, ↓xLs, ↓xExt, ↓iZp, isi_tup h1, tupB, chainB]
/-- a ring -/
abbrev rg (n s : Int) : D := .tup [.int n, .int s]
theorem ring_ok {n s : Int} (h1 : 2 ≤ n) (h2 : n ≤ 60) (h3 : 1 ≤ s) (h4 : s < n) : ringB (rg n s) = true := by
  simp [ringB, withinB, h1, h2, h3]
  omega
theorem one_of {C : Cells} {n k : Nat} {ds : List D} (D0 : Dc C n k) (hk : k ≤ 1000000) (h0 : ds ≠ []) (h1 : ds.length < 1000000) (hc : ∀ d ∈ ds, nocel d = true) :
    ∃ d C', m__law_one_of [.cel n, .lst ds] C = some (.ok d C') ∧ d ∈ ds ∧ C'.length = C.length ∧ Dc C' n (k + 1) := by
  have hp : 0 < ds.length := List.length_pos_iff.mpr h0
  obtain ⟨v, C', e, v0, v1, hl, D1⟩ := roll (z := (ds.length : Int)) D0 hk (by omega) (by omega)
  obtain ⟨i, rfl⟩ := Int.eq_ofNat_of_zero_le v0
  have hi : i < ds.length := by omega
  refine ⟨ds[i], C', ?_, List.getElem_mem hi, hl, D1⟩
  unfold m__law_one_of b__law_one_of
  have q : fin C.length ds[i] C' = some (.ok ds[i] C') := by
    rw [fin_n (hc _ (List.getElem_mem hi)), ← hl, List.take_length]
  simp only [↓xDef, ↓xSeq, ↓xDo, ↓xNext, ↓xRet, ↓xExp, ↓xIfS, ↓xAsg, ↓gN, ↓gT, ↓gsC, ↓gsN, ↓xV, ↓S.val, ↓S.bind, ↓S.opt, ↓x2, ↓x1, ↓xN, ↓xB, ↓xD, ↓xAnd, ↓xOr, ↓xNot, ↓xIf, ↓xAndV, ↓xOrV, ↓xNotV, ↓xChain, ↓aNil, ↓aCons, ↓xTup, ↓few, ↓xF, ↓xC, ↓xSetI, ↓xPar, ↓xCall, ↓xFrz, ↓xM, live, i2, dSub, dAdd, dMul, dMulA, dMod, dDiv, dLt, dLe, dGt, dGe, dIx, atI, dNeg, dAbs, dInt, dLen, dMin2, dMax2, dGcd, dTuple, ↓iR1, ↓iR2, ↓iV, items, ↓iEn, items1, nocel, nocels, List.map_cons, List.map_nil, List.getElem?_cons_zero, List.getElem?_cons_succ, List.getElem?_nil, List.set_cons_zero, List.set_cons_succ, List.length_cons, List.length_nil, List.replicate, List.cons_append, List.nil_append, Nat.reduceAdd, Nat.reduceSub, Bool.false_eq_true, if_true, if_false, Option.map_some, Option.bind_some, Option.bind_none, Bool.and_true, Bool.and_false, Bool.true_and, Bool.not_true, Bool.not_false, decide_true, decide_false, vw_n, vw_b, vw_i, vw_s, vw_u, vw_l, vw_o, ie_n, ie_b, ie_i, ie_s, ie_u, ie_l, ie_c, x10, x20, x21, x30, x31, x32, fin_b, fin_i, eq_ii, ne_ii, List.take_length, vw_k, ie_k, id_eq, Nat.reduceLeDiff, ↓xSl, ↓xAugI, ↓oE, ↓oNo, ↓xLs, ↓xExt, ↓iZp, e, ixN_nat hi, List.getElem?_eq_getElem hi, q]
theorem ring_made {C : Cells} {n k : Nat} {m : Int} (D0 : Dc C n k) (hk : k ≤ 900000) (h0 : 2 ≤ m) (h1 : m ≤ 1000) :
    ∃ a s C', m__law_ring [.cel n, .int m] C = some (.ok (rg a s) C') ∧ 2 ≤ a ∧ a ≤ m ∧ 1 ≤ s ∧ s < a ∧ C'.length = C.length ∧ Dc C' n (k + 2) := by
  obtain ⟨v, C1, e1, v0, v1, hl, D1⟩ := roll (z := m - 1) D0 (by omega) (by omega) (by omega)
  obtain ⟨u, C2, e2, u0, u1, hl2, D2⟩ := roll (z := 2 + v - 1) D1 (by omega) (by omega) (by omega)
  refine ⟨2 + v, 1 + u, C2, ?_, by omega, by omega, by omega, by omega, by omega, D2⟩
  unfold m__law_ring b__law_ring
  have q : fin C.length (rg (2 + v) (1 + u)) C2 = some (.ok (rg (2 + v) (1 + u)) C2) := by
    rw [fin_n rfl, ← hl, ← hl2, List.take_length]
  simp only [↓xDef, ↓xSeq, ↓xDo, ↓xNext, ↓xRet, ↓xExp, ↓xIfS, ↓xAsg, ↓gN, ↓gT, ↓gsC, ↓gsN, ↓xV, ↓S.val, ↓S.bind, ↓S.opt, ↓x2, ↓x1, ↓xN, ↓xB, ↓xD, ↓xAnd, ↓xOr, ↓xNot, ↓xIf, ↓xAndV, ↓xOrV, ↓xNotV, ↓xChain, ↓aNil, ↓aCons, ↓xTup, ↓few, ↓xF, ↓xC, ↓xSetI, ↓xPar, ↓xCall, ↓xFrz, ↓xM, live, i2, dSub, dAdd, dMul, dMulA, dMod, dDiv, dLt, dLe, dGt, dGe, dIx, atI, dNeg, dAbs, dInt, dLen, dMin2, dMax2, dGcd, dTuple, ↓iR1, ↓iR2, ↓iV, items, ↓iEn, items1, nocel, nocels, List.map_cons, List.map_nil, List.getElem?_cons_zero, List.getElem?_cons_succ, List.getElem?_nil, List.set_cons_zero, List.set_cons_succ, List.length_cons, List.length_nil, List.replicate, List.cons_append, List.nil_append, Nat.reduceAdd, Nat.reduceSub, Bool.false_eq_true, if_true, if_false, Option.map_some, Option.bind_some, Option.bind_none, Bool.and_true, Bool.and_false, Bool.true_and, Bool.not_true, Bool.not_false, decide_true, decide_false, vw_n, vw_b, vw_i, vw_s, vw_u, vw_l, vw_o, ie_n, ie_b, ie_i, ie_s, ie_u, ie_l, ie_c, x10, x20, x21, x30, x31, x32, fin_b, fin_i, eq_ii, ne_ii, List.take_length, vw_k, ie_k, id_eq, Nat.reduceLeDiff, ↓xSl, ↓xAugI, ↓oE, ↓oNo, ↓xLs, ↓xExt, ↓iZp, e1, e2, Nat.reduceLeDiff, q]
theorem common {k o g : Int} (C : Cells) (h : b__law_common [some (.int k), some (.int o)] C = some (.ret (.int g) C)) : m__law_common [.int k, .int o] C = some (.ok (.int g) C) := by
  unfold m__law_common
  simp only [↓xDef, ↓xSeq, ↓xDo, ↓xNext, ↓xRet, ↓xExp, ↓xIfS, ↓xAsg, ↓gN, ↓gT, ↓gsC, ↓gsN, ↓xV, ↓S.val, ↓S.bind, ↓S.opt, ↓x2, ↓x1, ↓xN, ↓xB, ↓xD, ↓xAnd, ↓xOr, ↓xNot, ↓xIf, ↓xAndV, ↓xOrV, ↓xNotV, ↓xChain, ↓aNil, ↓aCons, ↓xTup, ↓few, ↓xF, ↓xC, ↓xSetI, ↓xPar, ↓xCall, ↓xFrz, ↓xM, live, i2, dSub, dAdd, dMul, dMulA, dMod, dDiv, dLt, dLe, dGt, dGe, dIx, atI, dNeg, dAbs, dInt, dLen, dMin2, dMax2, dGcd, dTuple, ↓iR1, ↓iR2, ↓iV, items, ↓iEn, items1, nocel, nocels, List.map_cons, List.map_nil, List.getElem?_cons_zero, List.getElem?_cons_succ, List.getElem?_nil, List.set_cons_zero, List.set_cons_succ, List.length_cons, List.length_nil, List.replicate, List.cons_append, List.nil_append, Nat.reduceAdd, Nat.reduceSub, Bool.false_eq_true, if_true, if_false, Option.map_some, Option.bind_some, Option.bind_none, Bool.and_true, Bool.and_false, Bool.true_and, Bool.not_true, Bool.not_false, decide_true, decide_false, vw_n, vw_b, vw_i, vw_s, vw_u, vw_l, vw_o, ie_n, ie_b, ie_i, ie_s, ie_u, ie_l, ie_c, x10, x20, x21, x30, x31, x32, fin_b, fin_i, eq_ii, ne_ii, List.take_length, vw_k, ie_k, id_eq, Nat.reduceLeDiff, ↓xSl, ↓xAugI, ↓oE, ↓oNo, ↓xLs, ↓xExt, ↓iZp, h]
theorem com21 (C : Cells) : m__law_common [.int 2, .int 1] C = some (.ok (.int 1) C) := common C rfl
theorem com31 (C : Cells) : m__law_common [.int 3, .int 1] C = some (.ok (.int 1) C) := common C rfl
theorem com32 (C : Cells) : m__law_common [.int 3, .int 2] C = some (.ok (.int 1) C) := common C rfl
theorem com41 (C : Cells) : m__law_common [.int 4, .int 1] C = some (.ok (.int 1) C) := common C rfl
theorem com42 (C : Cells) : m__law_common [.int 4, .int 2] C = some (.ok (.int 2) C) := common C rfl
theorem com43 (C : Cells) : m__law_common [.int 4, .int 3] C = some (.ok (.int 1) C) := common C rfl
theorem steps_of {k : Int} (hk : k = 2 ∨ k = 3 ∨ k = 4) (C : Cells) (a b c : D) : ∃ ds : List D, q1__law_ring_of [some a, some (.int k), some b, some c, none, none] C = some (.ok ds C) ∧ ds ≠ [] ∧ ds.length ≤ 3 ∧ ∀ d ∈ ds, ∃ o, d = .int o ∧ 1 ≤ o ∧ o < k := by
  rcases hk with rfl | rfl | rfl
  · refine ⟨[.int 1], ?_, by simp, by simp, fun d hd => ⟨1, by simpa using hd, by decide, by decide⟩⟩
    refine xLc_ok (ds := [.int 1]) (g := gd0) (C1 := C) (iR2_ok (i := 1) (j := 2) rfl (by decide) (by decide)) (by simp) ?_
    simp only [↓xDef, ↓xSeq, ↓xDo, ↓xNext, ↓xRet, ↓xExp, ↓xIfS, ↓xAsg, ↓gN, ↓gT, ↓gsC, ↓gsN, ↓xV, ↓S.val, ↓S.bind, ↓S.opt, ↓x2, ↓x1, ↓xN, ↓xB, ↓xD, ↓xAnd, ↓xOr, ↓xNot, ↓xIf, ↓xAndV, ↓xOrV, ↓xNotV, ↓xChain, ↓aNil, ↓aCons, ↓xTup, ↓few, ↓xF, ↓xC, ↓xSetI, ↓xPar, ↓xCall, ↓xFrz, ↓xM, live, i2, dSub, dAdd, dMul, dMulA, dMod, dDiv, dLt, dLe, dGt, dGe, dIx, atI, dNeg, dAbs, dInt, dLen, dMin2, dMax2, dGcd, dTuple, ↓iR1, ↓iR2, ↓iV, items, ↓iEn, items1, nocel, nocels, List.map_cons, List.map_nil, List.getElem?_cons_zero, List.getElem?_cons_succ, List.getElem?_nil, List.set_cons_zero, List.set_cons_succ, List.length_cons, List.length_nil, List.replicate, List.cons_append, List.nil_append, Nat.reduceAdd, Nat.reduceSub, Bool.false_eq_true, if_true, if_false, Option.map_some, Option.bind_some, Option.bind_none, Bool.and_true, Bool.and_false, Bool.true_and, Bool.not_true, Bool.not_false, decide_true, decide_false, vw_n, vw_b, vw_i, vw_s, vw_u, vw_l, vw_o, ie_n, ie_b, ie_i, ie_s, ie_u, ie_l, ie_c, x10, x20, x21, x30, x31, x32, fin_b, fin_i, eq_ii, ne_ii, List.take_length, vw_k, ie_k, id_eq, Nat.reduceLeDiff, ↓xSl, ↓xAugI, ↓oE, ↓oNo, ↓xLs, ↓xExt, ↓iZp, lcs, gd0, wipeE, com21]
    rfl
  · refine ⟨[.int 1, .int 2], ?_, by simp, by simp, fun d hd => ?_⟩
    · refine xLc_ok (ds := [.int 1, .int 2]) (g := gd0) (C1 := C) (iR2_ok (i := 1) (j := 3) rfl (by decide) (by decide)) (by simp) ?_
      simp only [↓xDef, ↓xSeq, ↓xDo, ↓xNext, ↓xRet, ↓xExp, ↓xIfS, ↓xAsg, ↓gN, ↓gT, ↓gsC, ↓gsN, ↓xV, ↓S.val, ↓S.bind, ↓S.opt, ↓x2, ↓x1, ↓xN, ↓xB, ↓xD, ↓xAnd, ↓xOr, ↓xNot, ↓xIf, ↓xAndV, ↓xOrV, ↓xNotV, ↓xChain, ↓aNil, ↓aCons, ↓xTup, ↓few, ↓xF, ↓xC, ↓xSetI, ↓xPar, ↓xCall, ↓xFrz, ↓xM, live, i2, dSub, dAdd, dMul, dMulA, dMod, dDiv, dLt, dLe, dGt, dGe, dIx, atI, dNeg, dAbs, dInt, dLen, dMin2, dMax2, dGcd, dTuple, ↓iR1, ↓iR2, ↓iV, items, ↓iEn, items1, nocel, nocels, List.map_cons, List.map_nil, List.getElem?_cons_zero, List.getElem?_cons_succ, List.getElem?_nil, List.set_cons_zero, List.set_cons_succ, List.length_cons, List.length_nil, List.replicate, List.cons_append, List.nil_append, Nat.reduceAdd, Nat.reduceSub, Bool.false_eq_true, if_true, if_false, Option.map_some, Option.bind_some, Option.bind_none, Bool.and_true, Bool.and_false, Bool.true_and, Bool.not_true, Bool.not_false, decide_true, decide_false, vw_n, vw_b, vw_i, vw_s, vw_u, vw_l, vw_o, ie_n, ie_b, ie_i, ie_s, ie_u, ie_l, ie_c, x10, x20, x21, x30, x31, x32, fin_b, fin_i, eq_ii, ne_ii, List.take_length, vw_k, ie_k, id_eq, Nat.reduceLeDiff, ↓xSl, ↓xAugI, ↓oE, ↓oNo, ↓xLs, ↓xExt, ↓iZp, lcs, gd0, wipeE, com31, com32]
      rfl
    · simp at hd
      rcases hd with rfl | rfl
      · exact ⟨1, rfl, by decide, by decide⟩
      · exact ⟨2, rfl, by decide, by decide⟩
  · refine ⟨[.int 1, .int 3], ?_, by simp, by simp, fun d hd => ?_⟩
    · refine xLc_ok (ds := [.int 1, .int 2, .int 3]) (g := gd0) (C1 := C) (iR2_ok (i := 1) (j := 4) rfl (by decide) (by decide)) (by simp) ?_
      simp only [↓xDef, ↓xSeq, ↓xDo, ↓xNext, ↓xRet, ↓xExp, ↓xIfS, ↓xAsg, ↓gN, ↓gT, ↓gsC, ↓gsN, ↓xV, ↓S.val, ↓S.bind, ↓S.opt, ↓x2, ↓x1, ↓xN, ↓xB, ↓xD, ↓xAnd, ↓xOr, ↓xNot, ↓xIf, ↓xAndV, ↓xOrV, ↓xNotV, ↓xChain, ↓aNil, ↓aCons, ↓xTup, ↓few, ↓xF, ↓xC, ↓xSetI, ↓xPar, ↓xCall, ↓xFrz, ↓xM, live, i2, dSub, dAdd, dMul, dMulA, dMod, dDiv, dLt, dLe, dGt, dGe, dIx, atI, dNeg, dAbs, dInt, dLen, dMin2, dMax2, dGcd, dTuple, ↓iR1, ↓iR2, ↓iV, items, ↓iEn, items1, nocel, nocels, List.map_cons, List.map_nil, List.getElem?_cons_zero, List.getElem?_cons_succ, List.getElem?_nil, List.set_cons_zero, List.set_cons_succ, List.length_cons, List.length_nil, List.replicate, List.cons_append, List.nil_append, Nat.reduceAdd, Nat.reduceSub, Bool.false_eq_true, if_true, if_false, Option.map_some, Option.bind_some, Option.bind_none, Bool.and_true, Bool.and_false, Bool.true_and, Bool.not_true, Bool.not_false, decide_true, decide_false, vw_n, vw_b, vw_i, vw_s, vw_u, vw_l, vw_o, ie_n, ie_b, ie_i, ie_s, ie_u, ie_l, ie_c, x10, x20, x21, x30, x31, x32, fin_b, fin_i, eq_ii, ne_ii, List.take_length, vw_k, ie_k, id_eq, Nat.reduceLeDiff, ↓xSl, ↓xAugI, ↓oE, ↓oNo, ↓xLs, ↓xExt, ↓iZp, lcs, gd0, wipeE, com41, com42, com43]
      rfl
    · simp at hd
      rcases hd with rfl | rfl
      · exact ⟨1, rfl, by decide, by decide⟩
      · exact ⟨3, rfl, by decide, by decide⟩
theorem ring_of {C : Cells} {n k : Nat} {z t : Int} (hz : z = 2 ∨ z = 3 ∨ z = 4) (D0 : Dc C n k) (hk : k ≤ 900000) (h0 : 1 ≤ t) (h1 : t ≤ 1000) :
    ∃ a s C', m__law_ring_of [.cel n, .int z, .int t] C = some (.ok (rg a s) C') ∧ 2 ≤ a ∧ a ≤ z * t ∧ 1 ≤ s ∧ s < a ∧ C'.length = C.length ∧ Dc C' n (k + 2) := by
  obtain ⟨v, C1, e1, v0, v1, hl, D1⟩ := roll (z := t) D0 (by omega) (by omega) (by omega)
  obtain ⟨ds, hq, hne, hlen, hds⟩ := steps_of hz C1 (.cel n) (.int t) (.int (1 + v))
  obtain ⟨d, C2, e2, hd, hl2, D2⟩ := one_of (ds := ds) D1 (by omega) hne (by omega) fun d hd => by
    obtain ⟨o, rfl, _⟩ := hds d hd
    rfl
  obtain ⟨o, rfl, o1, o2⟩ := hds d hd
  have b1 : z.natAbs < 2 ^ 400000 := small_dec (by omega) (by omega)
  have b2 : (1 + v).natAbs < 2 ^ 400000 := small_dec (by omega) (by omega)
  have b3 : o.natAbs < 2 ^ 400000 := small_dec (by omega) (by omega)
  have m1 : 1 ≤ (1 + v) * o := by
    have := Int.mul_le_mul (show (1 : Int) ≤ 1 + v by omega) o1 (by omega) (by omega)
    omega
  have m2 : (1 + v) * o < z * (1 + v) := by
    rw [Int.mul_comm z]
    exact Int.mul_lt_mul_of_pos_left o2 (by omega)
  have m3 : z * (1 + v) ≤ z * t := Int.mul_le_mul_of_nonneg_left (by omega) (by omega)
  refine ⟨z * (1 + v), (1 + v) * o, C2, ?_, by omega, m3, m1, m2, by omega, D2⟩
  unfold m__law_ring_of b__law_ring_of
  have q : fin C.length (rg (z * (1 + v)) ((1 + v) * o)) C2 = some (.ok (rg (z * (1 + v)) ((1 + v) * o)) C2) := by
    rw [fin_n rfl, ← hl, ← hl2, List.take_length]
  simp only [↓xDef, ↓xSeq, ↓xDo, ↓xNext, ↓xRet, ↓xExp, ↓xIfS, ↓xAsg, ↓gN, ↓gT, ↓gsC, ↓gsN, ↓xV, ↓S.val, ↓S.bind, ↓S.opt, ↓x2, ↓x1, ↓xN, ↓xB, ↓xD, ↓xAnd, ↓xOr, ↓xNot, ↓xIf, ↓xAndV, ↓xOrV, ↓xNotV, ↓xChain, ↓aNil, ↓aCons, ↓xTup, ↓few, ↓xF, ↓xC, ↓xSetI, ↓xPar, ↓xCall, ↓xFrz, ↓xM, live, i2, dSub, dAdd, dMul, dMulA, dMod, dDiv, dLt, dLe, dGt, dGe, dIx, atI, dNeg, dAbs, dInt, dLen, dMin2, dMax2, dGcd, dTuple, ↓iR1, ↓iR2, ↓iV, items, ↓iEn, items1, nocel, nocels, List.map_cons, List.map_nil, List.getElem?_cons_zero, List.getElem?_cons_succ, List.getElem?_nil, List.set_cons_zero, List.set_cons_succ, List.length_cons, List.length_nil, List.replicate, List.cons_append, List.nil_append, Nat.reduceAdd, Nat.reduceSub, Bool.false_eq_true, if_true, if_false, Option.map_some, Option.bind_some, Option.bind_none, Bool.and_true, Bool.and_false, Bool.true_and, Bool.not_true, Bool.not_false, decide_true, decide_false, vw_n, vw_b, vw_i, vw_s, vw_u, vw_l, vw_o, ie_n, ie_b, ie_i, ie_s, ie_u, ie_l, ie_c, x10, x20, x21, x30, x31, x32, fin_b, fin_i, eq_ii, ne_ii, List.take_length, vw_k, ie_k, id_eq, Nat.reduceLeDiff, ↓xSl, ↓xAugI, ↓oE, ↓oNo, ↓xLs, ↓xExt, ↓iZp, e1, e2, hq, b1, b2, b3, and_self, Nat.reduceLeDiff, q]
def isRg (d : D) : Prop := ∃ a s : Int, d = rg a s ∧ 2 ≤ a ∧ a ≤ 60 ∧ 1 ≤ s ∧ s < a
theorem isRg.nc {d : D} (h : isRg d) : nocel d = true := by
  obtain ⟨a, s, rfl, _⟩ := h
  rfl
theorem rng_ok {r : Int} (h0 : 0 ≤ r) (h1 : r ≤ 1000000) : (-4611686018427387904 ≤ r ∧ r < 4611686018427387904) := by omega
def isRgM (mo : Int) (d : D) : Prop := ∃ a s : Int, d = rg a s ∧ 2 ≤ a ∧ a ≤ mo ∧ 1 ≤ s ∧ s < a
theorem isRgM.rg {mo : Int} {d : D} (h : isRgM mo d) (hm : mo ≤ 60) : isRg d := by
  obtain ⟨a, s, rfl, h1, h2, h3, h4⟩ := h
  exact ⟨a, s, rfl, h1, by omega, h3, h4⟩
theorem chain_made {C : Cells} {n k : Nat} {r : Int} (D0 : Dc C n k) (hk : k ≤ 800000) (h0 : 1 ≤ r) (h1 : r ≤ 40) {mo : Int} (h2 : 2 ≤ mo) (h3 : mo ≤ 60) :
    ∃ ds C', m__law_chain [.cel n, .int r, .int mo] C = some (.ok (.tup ds) C') ∧ ds.length = r.toNat ∧ (∀ d ∈ ds, isRgM mo d) ∧ C'.length = C.length ∧ Dc C' n (k + 100) := by
  obtain ⟨v, C1, e1, v0, v1, hl, D1⟩ := roll (z := 3) D0 (by omega) (by omega) (by omega)
  have hr := rng1_ok (z := r) (by omega) (by omega)
  by_cases hv : v = 0
  · subst hv
    obtain ⟨m0, hm0⟩ : ∃ m0 : Int, (if mo - 1 < 3 then mo - 1 else 3) = m0 := ⟨_, rfl⟩
    have hm1 : 1 ≤ m0 ∧ m0 ≤ 3 ∧ m0 ≤ mo - 1 := by split at hm0 <;> omega
    obtain ⟨w, C2, e2, w0, w1, hl2, D2⟩ := roll (z := m0) D1 (by omega) (by omega) (by omega)
    have hz : 2 + w = 2 ∨ 2 + w = 3 ∨ 2 + w = 4 := by omega
    have ht : 1 ≤ mo / (2 + w) ∧ mo / (2 + w) ≤ 1000 ∧ (2 + w) * (mo / (2 + w)) ≤ mo := by
      rcases hz with h | h | h <;> rw [h] <;> omega
    have b1 : (0 : Int) < 2 + w := by omega
    have b2 : (2 + w).natAbs < 2 ^ 8000 := Nat.lt_of_lt_of_le (m := 2 ^ 8) (by omega) (Nat.pow_le_pow_right (by decide) (by decide))
    obtain ⟨ds, C3, e3, g1, g2, g3, g4⟩ := lcs_go (t := gN 4) (x := xCall m__law_ring_of (aCons (xV 0) (aCons (xV 3) (aCons (x2 dDiv (xV 2) (xV 3)) aNil)))) (e := [some (.cel n), some (.int r), some (.int mo), some (.int (2 + w)), none])
      (fun j C' => C'.length = C.length ∧ Dc C' n (k + 2 + 2 * j)) (isRgM mo) (zs 0 r.toNat) 0 C2 ⟨by omega, D2⟩ fun d hd j C' hj ⟨p1, p2⟩ => by
        rw [zs_len] at hj
        obtain ⟨a, s, C4, e4, a1, a2, s1, s2, hl4, D4⟩ := ring_of hz p2 (by omega) ht.1 ht.2.1
        refine ⟨_, rfl, rg a s, C4, ?_, ⟨a, s, rfl, a1, by omega, s1, s2⟩, by omega, D4⟩
        simp only [↓xDef, ↓xSeq, ↓xDo, ↓xNext, ↓xRet, ↓xExp, ↓xIfS, ↓xAsg, ↓gN, ↓gT, ↓gsC, ↓gsN, ↓xV, ↓S.val, ↓S.bind, ↓S.opt, ↓x2, ↓x1, ↓xN, ↓xB, ↓xD, ↓xAnd, ↓xOr, ↓xNot, ↓xIf, ↓xAndV, ↓xOrV, ↓xNotV, ↓xChain, ↓aNil, ↓aCons, ↓xTup, ↓few, ↓xF, ↓xC, ↓xSetI, ↓xPar, ↓xCall, ↓xFrz, ↓xM, live, i2, dSub, dAdd, dMul, dMulA, dMod, dDiv, dLt, dLe, dGt, dGe, dIx, atI, dNeg, dAbs, dInt, dLen, dMin2, dMax2, dGcd, dTuple, ↓iR1, ↓iR2, ↓iV, items, ↓iEn, items1, nocel, nocels, List.map_cons, List.map_nil, List.getElem?_cons_zero, List.getElem?_cons_succ, List.getElem?_nil, List.set_cons_zero, List.set_cons_succ, List.length_cons, List.length_nil, List.replicate, List.cons_append, List.nil_append, Nat.reduceAdd, Nat.reduceSub, Bool.false_eq_true, if_true, if_false, Option.map_some, Option.bind_some, Option.bind_none, Bool.and_true, Bool.and_false, Bool.true_and, Bool.not_true, Bool.not_false, decide_true, decide_false, vw_n, vw_b, vw_i, vw_s, vw_u, vw_l, vw_o, ie_n, ie_b, ie_i, ie_s, ie_u, ie_l, ie_c, x10, x20, x21, x30, x31, x32, fin_b, fin_i, eq_ii, ne_ii, List.take_length, vw_k, ie_k, id_eq, Nat.reduceLeDiff, ↓xSl, ↓xAugI, ↓oE, ↓oNo, ↓xLs, ↓xExt, ↓iZp, b1, b2, and_self, e4]
    rw [zs_len] at g1 g4
    refine ⟨ds, C3, ?_, g1, g2, g3, g4.mono (by omega)⟩
    have q : fin C.length (.tup ds) C3 = some (.ok (.tup ds) C3) := by
      rw [fin_n (show nocel (.tup ds) = true from nocels_all fun d hd => ((g2 d hd).rg h3).nc), ← g3, List.take_length]
    have hq : q1__law_chain [some (.cel n), some (.int r), some (.int mo), some (.int (2 + w)), none] C2 = some (.ok ds C3) :=
      xLc_ok (ds := zs 0 r.toNat) (g := gd0) (C1 := C2) (by simp only [↓xDef, ↓xSeq, ↓xDo, ↓xNext, ↓xRet, ↓xExp, ↓xIfS, ↓xAsg, ↓gN, ↓gT, ↓gsC, ↓gsN, ↓xV, ↓S.val, ↓S.bind, ↓S.opt, ↓x2, ↓x1, ↓xN, ↓xB, ↓xD, ↓xAnd, ↓xOr, ↓xNot, ↓xIf, ↓xAndV, ↓xOrV, ↓xNotV, ↓xChain, ↓aNil, ↓aCons, ↓xTup, ↓few, ↓xF, ↓xC, ↓xSetI, ↓xPar, ↓xCall, ↓xFrz, ↓xM, live, i2, dSub, dAdd, dMul, dMulA, dMod, dDiv, dLt, dLe, dGt, dGe, dIx, atI, dNeg, dAbs, dInt, dLen, dMin2, dMax2, dGcd, dTuple, ↓iR1, ↓iR2, ↓iV, items, ↓iEn, items1, nocel, nocels, List.map_cons, List.map_nil, List.getElem?_cons_zero, List.getElem?_cons_succ, List.getElem?_nil, List.set_cons_zero, List.set_cons_succ, List.length_cons, List.length_nil, List.replicate, List.cons_append, List.nil_append, Nat.reduceAdd, Nat.reduceSub, Bool.false_eq_true, if_true, if_false, Option.map_some, Option.bind_some, Option.bind_none, Bool.and_true, Bool.and_false, Bool.true_and, Bool.not_true, Bool.not_false, decide_true, decide_false, vw_n, vw_b, vw_i, vw_s, vw_u, vw_l, vw_o, ie_n, ie_b, ie_i, ie_s, ie_u, ie_l, ie_c, x10, x20, x21, x30, x31, x32, fin_b, fin_i, eq_ii, ne_ii, List.take_length, vw_k, ie_k, id_eq, Nat.reduceLeDiff, ↓xSl, ↓xAugI, ↓oE, ↓oNo, ↓xLs, ↓xExt, ↓iZp, hr]) (by rw [zs_len]; omega) e3
    unfold m__law_chain b__law_chain
    simp only [↓xDef, ↓xSeq, ↓xDo, ↓xNext, ↓xRet, ↓xExp, ↓xIfS, ↓xAsg, ↓gN, ↓gT, ↓gsC, ↓gsN, ↓xV, ↓S.val, ↓S.bind, ↓S.opt, ↓x2, ↓x1, ↓xN, ↓xB, ↓xD, ↓xAnd, ↓xOr, ↓xNot, ↓xIf, ↓xAndV, ↓xOrV, ↓xNotV, ↓xChain, ↓aNil, ↓aCons, ↓xTup, ↓few, ↓xF, ↓xC, ↓xSetI, ↓xPar, ↓xCall, ↓xFrz, ↓xM, live, i2, dSub, dAdd, dMul, dMulA, dMod, dDiv, dLt, dLe, dGt, dGe, dIx, atI, dNeg, dAbs, dInt, dLen, dMin2, dMax2, dGcd, dTuple, ↓iR1, ↓iR2, ↓iV, items, ↓iEn, items1, nocel, nocels, List.map_cons, List.map_nil, List.getElem?_cons_zero, List.getElem?_cons_succ, List.getElem?_nil, List.set_cons_zero, List.set_cons_succ, List.length_cons, List.length_nil, List.replicate, List.cons_append, List.nil_append, Nat.reduceAdd, Nat.reduceSub, Bool.false_eq_true, if_true, if_false, Option.map_some, Option.bind_some, Option.bind_none, Bool.and_true, Bool.and_false, Bool.true_and, Bool.not_true, Bool.not_false, decide_true, decide_false, vw_n, vw_b, vw_i, vw_s, vw_u, vw_l, vw_o, ie_n, ie_b, ie_i, ie_s, ie_u, ie_l, ie_c, x10, x20, x21, x30, x31, x32, fin_b, fin_i, eq_ii, ne_ii, List.take_length, vw_k, ie_k, id_eq, Nat.reduceLeDiff, ↓xSl, ↓xAugI, ↓oE, ↓oNo, ↓xLs, ↓xExt, ↓iZp, e1, e2, hq, hm0, if_false, Nat.reduceLeDiff, q, beq_self_eq_true]
  · obtain ⟨ds, C3, e3, g1, g2, g3, g4⟩ := lcs_go (t := gN 4) (x := xCall m__law_ring (aCons (xV 0) (aCons (xV 2) aNil))) (e := [some (.cel n), some (.int r), some (.int mo), none, none])
      (fun j C' => C'.length = C.length ∧ Dc C' n (k + 1 + 2 * j)) (isRgM mo) (zs 0 r.toNat) 0 C1 ⟨by omega, D1⟩ fun d hd j C' hj ⟨p1, p2⟩ => by
        rw [zs_len] at hj
        obtain ⟨a, s, C4, e4, a1, a2, s1, s2, hl4, D4⟩ := ring_made (m := mo) p2 (by omega) (by omega) (by omega)
        refine ⟨_, rfl, rg a s, C4, ?_, ⟨a, s, rfl, a1, by omega, s1, s2⟩, by omega, D4⟩
        simp only [↓xDef, ↓xSeq, ↓xDo, ↓xNext, ↓xRet, ↓xExp, ↓xIfS, ↓xAsg, ↓gN, ↓gT, ↓gsC, ↓gsN, ↓xV, ↓S.val, ↓S.bind, ↓S.opt, ↓x2, ↓x1, ↓xN, ↓xB, ↓xD, ↓xAnd, ↓xOr, ↓xNot, ↓xIf, ↓xAndV, ↓xOrV, ↓xNotV, ↓xChain, ↓aNil, ↓aCons, ↓xTup, ↓few, ↓xF, ↓xC, ↓xSetI, ↓xPar, ↓xCall, ↓xFrz, ↓xM, live, i2, dSub, dAdd, dMul, dMulA, dMod, dDiv, dLt, dLe, dGt, dGe, dIx, atI, dNeg, dAbs, dInt, dLen, dMin2, dMax2, dGcd, dTuple, ↓iR1, ↓iR2, ↓iV, items, ↓iEn, items1, nocel, nocels, List.map_cons, List.map_nil, List.getElem?_cons_zero, List.getElem?_cons_succ, List.getElem?_nil, List.set_cons_zero, List.set_cons_succ, List.length_cons, List.length_nil, List.replicate, List.cons_append, List.nil_append, Nat.reduceAdd, Nat.reduceSub, Bool.false_eq_true, if_true, if_false, Option.map_some, Option.bind_some, Option.bind_none, Bool.and_true, Bool.and_false, Bool.true_and, Bool.not_true, Bool.not_false, decide_true, decide_false, vw_n, vw_b, vw_i, vw_s, vw_u, vw_l, vw_o, ie_n, ie_b, ie_i, ie_s, ie_u, ie_l, ie_c, x10, x20, x21, x30, x31, x32, fin_b, fin_i, eq_ii, ne_ii, List.take_length, vw_k, ie_k, id_eq, Nat.reduceLeDiff, ↓xSl, ↓xAugI, ↓oE, ↓oNo, ↓xLs, ↓xExt, ↓iZp, e4]
    rw [zs_len] at g1 g4
    refine ⟨ds, C3, ?_, g1, g2, g3, g4.mono (by omega)⟩
    have q : fin C.length (.tup ds) C3 = some (.ok (.tup ds) C3) := by
      rw [fin_n (show nocel (.tup ds) = true from nocels_all fun d hd => ((g2 d hd).rg h3).nc), ← g3, List.take_length]
    have hq : q2__law_chain [some (.cel n), some (.int r), some (.int mo), none, none] C1 = some (.ok ds C3) :=
      xLc_ok (ds := zs 0 r.toNat) (g := gd0) (C1 := C1) (by simp only [↓xDef, ↓xSeq, ↓xDo, ↓xNext, ↓xRet, ↓xExp, ↓xIfS, ↓xAsg, ↓gN, ↓gT, ↓gsC, ↓gsN, ↓xV, ↓S.val, ↓S.bind, ↓S.opt, ↓x2, ↓x1, ↓xN, ↓xB, ↓xD, ↓xAnd, ↓xOr, ↓xNot, ↓xIf, ↓xAndV, ↓xOrV, ↓xNotV, ↓xChain, ↓aNil, ↓aCons, ↓xTup, ↓few, ↓xF, ↓xC, ↓xSetI, ↓xPar, ↓xCall, ↓xFrz, ↓xM, live, i2, dSub, dAdd, dMul, dMulA, dMod, dDiv, dLt, dLe, dGt, dGe, dIx, atI, dNeg, dAbs, dInt, dLen, dMin2, dMax2, dGcd, dTuple, ↓iR1, ↓iR2, ↓iV, items, ↓iEn, items1, nocel, nocels, List.map_cons, List.map_nil, List.getElem?_cons_zero, List.getElem?_cons_succ, List.getElem?_nil, List.set_cons_zero, List.set_cons_succ, List.length_cons, List.length_nil, List.replicate, List.cons_append, List.nil_append, Nat.reduceAdd, Nat.reduceSub, Bool.false_eq_true, if_true, if_false, Option.map_some, Option.bind_some, Option.bind_none, Bool.and_true, Bool.and_false, Bool.true_and, Bool.not_true, Bool.not_false, decide_true, decide_false, vw_n, vw_b, vw_i, vw_s, vw_u, vw_l, vw_o, ie_n, ie_b, ie_i, ie_s, ie_u, ie_l, ie_c, x10, x20, x21, x30, x31, x32, fin_b, fin_i, eq_ii, ne_ii, List.take_length, vw_k, ie_k, id_eq, Nat.reduceLeDiff, ↓xSl, ↓xAugI, ↓oE, ↓oNo, ↓xLs, ↓xExt, ↓iZp, hr]) (by rw [zs_len]; omega) e3
    have hv2 : (v == 0) = false := by simpa using hv
    unfold m__law_chain b__law_chain
    simp only [↓xDef, ↓xSeq, ↓xDo, ↓xNext, ↓xRet, ↓xExp, ↓xIfS, ↓xAsg, ↓gN, ↓gT, ↓gsC, ↓gsN, ↓xV, ↓S.val, ↓S.bind, ↓S.opt, ↓x2, ↓x1, ↓xN, ↓xB, ↓xD, ↓xAnd, ↓xOr, ↓xNot, ↓xIf, ↓xAndV, ↓xOrV, ↓xNotV, ↓xChain, ↓aNil, ↓aCons, ↓xTup, ↓few, ↓xF, ↓xC, ↓xSetI, ↓xPar, ↓xCall, ↓xFrz, ↓xM, live, i2, dSub, dAdd, dMul, dMulA, dMod, dDiv, dLt, dLe, dGt, dGe, dIx, atI, dNeg, dAbs, dInt, dLen, dMin2, dMax2, dGcd, dTuple, ↓iR1, ↓iR2, ↓iV, items, ↓iEn, items1, nocel, nocels, List.map_cons, List.map_nil, List.getElem?_cons_zero, List.getElem?_cons_succ, List.getElem?_nil, List.set_cons_zero, List.set_cons_succ, List.length_cons, List.length_nil, List.replicate, List.cons_append, List.nil_append, Nat.reduceAdd, Nat.reduceSub, Bool.false_eq_true, if_true, if_false, Option.map_some, Option.bind_some, Option.bind_none, Bool.and_true, Bool.and_false, Bool.true_and, Bool.not_true, Bool.not_false, decide_true, decide_false, vw_n, vw_b, vw_i, vw_s, vw_u, vw_l, vw_o, ie_n, ie_b, ie_i, ie_s, ie_u, ie_l, ie_c, x10, x20, x21, x30, x31, x32, fin_b, fin_i, eq_ii, ne_ii, List.take_length, vw_k, ie_k, id_eq, Nat.reduceLeDiff, ↓xSl, ↓xAugI, ↓oE, ↓oNo, ↓xLs, ↓xExt, ↓iZp, e1, hv2, hq, q]
theorem pw_9 : dPow (.int 10) (.int 9) = some (.int 1000000000) := by
  unfold dPow i2
  simp only []
  rw [if_pos (by decide +kernel)]
  rfl
theorem pw_50 : dPow (.int 10) (.int 50) = some (.int 100000000000000000000000000000000000000000000000000) := by
  unfold dPow i2
  simp only []
  rw [if_pos (by decide +kernel)]
  rfl
theorem pw_60 : dPow (.int 10) (.int 60) = some (.int 1000000000000000000000000000000000000000000000000000000000000) := by
  unfold dPow i2
  simp only []
  rw [if_pos (by decide +kernel)]
  rfl
theorem pw_18 : dPow (.int 10) (.int 18) = some (.int 1000000000000000000) := by
  unfold dPow i2
  simp only []
  rw [if_pos (by decide +kernel)]
  rfl
theorem pw_600 : dPow (.int 1000000000000000000000000000000000000000000000000000000000000) (.int 10) = some (.int (1000000000000000000000000000000000000000000000000000000000000 ^ 10)) := by
  unfold dPow i2
  simp only []
  rw [if_pos (by decide +kernel)]
  rfl
theorem at_end {C : Cells} {x : Option Ob} : (C ++ [x])[C.length]? = some x := by simp
theorem set_end {C : Cells} {x y : Option Ob} : (C ++ [x]).set C.length y = C ++ [y] := by simp
theorem ixN_int {n : Nat} {i : Int} (h0 : 0 ≤ i) (h1 : i < n) : ixN n i = some i.toNat := by
  unfold ixN
  simp [h0, h1]
theorem fin_end {C : Cells} {o : Ob} : fin C.length (.cel C.length) (C ++ [some o]) = some (.ok (.cel C.length) (C ++ [some o])) := by
  simp [fin, nocel]
theorem dice_of (C : Cells) {z I B : Int} (h0 : 0 ≤ I) (h1 : I ≤ 6) (hB : 0 < B) : ∃ l m : Int, 0 ≤ l ∧ 0 ≤ m ∧ m < 2147483648 ∧
    l = (if z < 0 then -z else z) % B / 1000000000000000000 ∧ m = ((if z < 0 then -z else z) % B % 2147482697 * 60497 + 3533 * I + 89 * (if decide (z < 0) = true then 1 else 0) + 109) % 2147482661 := by
  refine ⟨_, _, ?_, ?_, ?_, rfl, rfl⟩
  · exact Int.ediv_nonneg (Int.emod_nonneg _ (by omega)) (by decide)
  · exact Int.emod_nonneg _ (by decide)
  · have := Int.emod_lt_of_pos ((if z < 0 then -z else z) % B % 2147482697 * 60497 + 3533 * I + 89 * (if decide (z < 0) = true then 1 else 0) + 109) (b := 2147482661) (by decide)
    omega
theorem dice {ns : List Int} (C : Cells) {I : Int} (h0 : 0 ≤ I) (h1 : I ≤ 6) : ∃ l m : Int, m__law_dice [.lst (ns.map D.int), .int I] C = some (.ok (.cel C.length) (C ++ [some (.l [.int l, .int m, .int 0])])) ∧ 0 ≤ l ∧ 0 ≤ m ∧ m < 2147483648 := by
  have c1 : (101 : Int).natAbs < 2 ^ 400000 := small_dec (by decide) (by decide)
  have c2 : I.natAbs < 2 ^ 400000 := small_dec h0 (by omega)
  have c3 : (3533 : Int).natAbs < 2 ^ 400000 := small_dec (by decide) (by decide)
  have c4 : (89 : Int).natAbs < 2 ^ 400000 := small_dec (by decide) (by decide)
  have c5 : (60497 : Int).natAbs < 2 ^ 400000 := small_dec (by decide) (by decide)
  have c6 : ∀ x : Int, (x % 2147482697).natAbs < 2 ^ 400000 := fun x => small_dec (Int.emod_nonneg _ (by decide)) (by have := Int.emod_lt_of_pos x (b := 2147482697) (by decide); omega)
  have c7 : ∀ p : Prop, ∀ _ : Decidable p, (if p then (1 : Int) else 0).natAbs < 2 ^ 400000 := fun p _ => by
    split
    · exact small_dec (by decide) (by decide)
    · exact small_dec (by decide) (by decide)
  have c8 : (0 : Int) < 1000000000000000000 ∧ (1000000000000000000 : Int).natAbs < 2 ^ 8000 := ⟨by decide, Nat.lt_of_lt_of_le (m := 2 ^ 80) (by decide) (Nat.pow_le_pow_right (by decide) (by decide))⟩
  have c9 : (0 : Int) < 2147482697 ∧ (0 : Int) < 2147482661 := by decide
  have p6 := pw_600
  obtain ⟨B, hB⟩ : ∃ B : Int, B = 1000000000000000000000000000000000000000000000000000000000000 ^ 10 := ⟨_, rfl⟩
  have hB0 : 0 < B := by rw [hB]; exact Int.pow_pos (by decide)
  rw [← hB] at p6
  obtain ⟨la, hla⟩ : ∃ x : Int, ((ns.map D.int).length : Int) = x := ⟨_, rfl⟩
  by_cases hlt : I < la
  · have hi : I.toNat < ns.length := by
      rw [List.length_map] at hla
      omega
    obtain ⟨z, hz⟩ : ∃ z, (ns.map D.int)[I.toNat]? = some (.int z) := ⟨ns[I.toNat], by simp [hi]⟩
    have hx : ixN (ns.map D.int).length I = some I.toNat := ixN_int h0 (by rw [hla]; exact hlt)
    generalize ns.map D.int = LL at *
    obtain ⟨l, m, l0, m0, m1, hl, hm⟩ := dice_of C (z := z) h0 h1 hB0
    refine ⟨l, m, ?_, l0, m0, m1⟩
    rw [hl, hm]
    have fe := fin_end (C := C) (o := .l [.int ((if z < 0 then -z else z) % B / 1000000000000000000), .int (((if z < 0 then -z else z) % B % 2147482697 * 60497 + 3533 * I + 89 * (if decide (z < 0) = true then 1 else 0) + 109) % 2147482661), .int 0])
    unfold m__law_dice b__law_dice
    simp only [↓xDef, ↓xSeq, ↓xDo, ↓xNext, ↓xRet, ↓xExp, ↓xIfS, ↓xAsg, ↓gN, ↓gT, ↓gsC, ↓gsN, ↓xV, ↓S.val, ↓S.bind, ↓S.opt, ↓x2, ↓x1, ↓xN, ↓xB, ↓xD, ↓xAnd, ↓xOr, ↓xNot, ↓xIf, ↓xAndV, ↓xOrV, ↓xNotV, ↓xChain, ↓aNil, ↓aCons, ↓xTup, ↓few, ↓xF, ↓xC, ↓xSetI, ↓xPar, ↓xCall, ↓xFrz, ↓xM, live, i2, dSub, dAdd, dMul, dMulA, dMod, dDiv, dLt, dLe, dGt, dGe, dIx, atI, dNeg, dAbs, dInt, dLen, dMin2, dMax2, dGcd, dTuple, ↓iR1, ↓iR2, ↓iV, items, ↓iEn, items1, nocel, nocels, List.map_cons, List.map_nil, List.getElem?_cons_zero, List.getElem?_cons_succ, List.getElem?_nil, List.set_cons_zero, List.set_cons_succ, List.length_cons, List.length_nil, List.replicate, List.cons_append, List.nil_append, Nat.reduceAdd, Nat.reduceSub, Bool.false_eq_true, if_true, if_false, Option.map_some, Option.bind_some, Option.bind_none, Bool.and_true, Bool.and_false, Bool.true_and, Bool.not_true, Bool.not_false, decide_true, decide_false, vw_n, vw_b, vw_i, vw_s, vw_u, vw_l, vw_o, ie_n, ie_b, ie_i, ie_s, ie_u, ie_l, ie_c, x10, x20, x21, x30, x31, x32, fin_b, fin_i, eq_ii, ne_ii, List.take_length, vw_k, ie_k, id_eq, Nat.reduceLeDiff, ↓xSl, ↓xAugI, ↓oE, ↓oNo, ↓xLs, ↓xExt, ↓iZp, c1, c2, c3, c4, c5, c6, c7, c8, c9.1, c9.2, pw_60, pw_18, p6, hB0, hla, hlt, hx, hz, and_self, fe]
  · generalize ns.map D.int = LL at *
    obtain ⟨l, m, l0, m0, m1, hl, hm⟩ := dice_of C (z := 101 * I + 47) h0 h1 hB0
    refine ⟨l, m, ?_, l0, m0, m1⟩
    rw [hl, hm]
    have fe := fin_end (C := C) (o := .l [.int ((if 101 * I + 47 < 0 then -(101 * I + 47) else 101 * I + 47) % B / 1000000000000000000), .int (((if 101 * I + 47 < 0 then -(101 * I + 47) else 101 * I + 47) % B % 2147482697 * 60497 + 3533 * I + 89 * (if decide (101 * I + 47 < 0) = true then 1 else 0) + 109) % 2147482661), .int 0])
    unfold m__law_dice b__law_dice
    simp only [↓xDef, ↓xSeq, ↓xDo, ↓xNext, ↓xRet, ↓xExp, ↓xIfS, ↓xAsg, ↓gN, ↓gT, ↓gsC, ↓gsN, ↓xV, ↓S.val, ↓S.bind, ↓S.opt, ↓x2, ↓x1, ↓xN, ↓xB, ↓xD, ↓xAnd, ↓xOr, ↓xNot, ↓xIf, ↓xAndV, ↓xOrV, ↓xNotV, ↓xChain, ↓aNil, ↓aCons, ↓xTup, ↓few, ↓xF, ↓xC, ↓xSetI, ↓xPar, ↓xCall, ↓xFrz, ↓xM, live, i2, dSub, dAdd, dMul, dMulA, dMod, dDiv, dLt, dLe, dGt, dGe, dIx, atI, dNeg, dAbs, dInt, dLen, dMin2, dMax2, dGcd, dTuple, ↓iR1, ↓iR2, ↓iV, items, ↓iEn, items1, nocel, nocels, List.map_cons, List.map_nil, List.getElem?_cons_zero, List.getElem?_cons_succ, List.getElem?_nil, List.set_cons_zero, List.set_cons_succ, List.length_cons, List.length_nil, List.replicate, List.cons_append, List.nil_append, Nat.reduceAdd, Nat.reduceSub, Bool.false_eq_true, if_true, if_false, Option.map_some, Option.bind_some, Option.bind_none, Bool.and_true, Bool.and_false, Bool.true_and, Bool.not_true, Bool.not_false, decide_true, decide_false, vw_n, vw_b, vw_i, vw_s, vw_u, vw_l, vw_o, ie_n, ie_b, ie_i, ie_s, ie_u, ie_l, ie_c, x10, x20, x21, x30, x31, x32, fin_b, fin_i, eq_ii, ne_ii, List.take_length, vw_k, ie_k, id_eq, Nat.reduceLeDiff, ↓xSl, ↓xAugI, ↓oE, ↓oNo, ↓xLs, ↓xExt, ↓iZp, c1, c2, c3, c4, c5, c6, c7, c8, c9.1, c9.2, pw_60, pw_18, p6, hB0, hla, hlt, and_self, fe]

end Sk58
end
section
set_option maxRecDepth 100000
set_option maxHeartbeats 0
set_option exponentiation.threshold 1000000
namespace Sk58
open PySem L2 Sm
/-! ### chains as plain lists -/
abbrev Ch := List (Int × Int)
def rd (c : Int × Int) : D := .tup [.int c.1, .int c.2]
def chD (cs : Ch) : D := .tup (cs.map rd)
def Cv (cs : Ch) : Prop := ∀ c ∈ cs, 2 ≤ c.1 ∧ c.1 ≤ 60 ∧ 1 ≤ c.2 ∧ c.2 < c.1
theorem Cv.tl {c : Int × Int} {cs : Ch} (h : Cv (c :: cs)) : Cv cs := fun z hz => h z (List.mem_cons_of_mem _ hz)
theorem nc_rd (cs : Ch) : nocels (cs.map rd) = true := nocels_all fun d hd => by
  obtain ⟨c, _, rfl⟩ := List.mem_map.mp hd
  rfl
theorem ie_ch (cs : Ch) : isErr (chD cs) = false := rfl
theorem ch_ds {cs : Ch} (h : Cv cs) : ∀ d ∈ cs.map rd, isRg d := fun d hd => by
  obtain ⟨c, hc, rfl⟩ := List.mem_map.mp hd
  obtain ⟨h1, h2, h3, h4⟩ := h c hc
  exact ⟨c.1, c.2, rfl, h1, h2, h3, h4⟩
theorem ch_of {mo : Int} {ds : List D} (h : ∀ d ∈ ds, isRgM mo d) (hm : mo ≤ 60) : ∃ cs : Ch, ds = cs.map rd ∧ Cv cs ∧ ∀ c ∈ cs, c.1 ≤ mo := by
  induction ds with
  | nil => exact ⟨[], rfl, fun c hc => (by cases hc), fun c hc => (by cases hc)⟩
  | cons d r ih =>
    obtain ⟨cs, rfl, hv, hw⟩ := ih fun d' hd' => h d' (List.mem_cons_of_mem _ hd')
    obtain ⟨a, s, rfl, h1, h2, h3, h4⟩ := h d List.mem_cons_self
    refine ⟨(a, s) :: cs, rfl, fun c hc => ?_, fun c hc => ?_⟩
    · rcases List.mem_cons.mp hc with rfl | hc
      · exact ⟨h1, by show a ≤ 60; omega, h3, h4⟩
      · exact hv c hc
    · rcases List.mem_cons.mp hc with rfl | hc
      · exact h2
      · exact hw c hc
/-- a tuple of a place of each ring -/
def Tv : Ch → List Int → Prop
  | [], [] => True
  | c :: cs, x :: xs => (0 ≤ x ∧ x < c.1) ∧ Tv cs xs
  | _, _ => False
theorem Tv.len : ∀ {cs : Ch} {xs : List Int}, Tv cs xs → xs.length = cs.length
  | [], [], _ => rfl
  | c :: cs, x :: xs, h => by rw [List.length_cons, List.length_cons, Tv.len h.2]
  | [], _ :: _, h => h.elim
  | _ :: _, [], h => h.elim
theorem Tv.zip : ∀ {cs : Ch} {xs : List Int}, Tv cs xs → ∀ p ∈ cs.zip xs, p.1 ∈ cs ∧ 0 ≤ p.2 ∧ p.2 < p.1.1
  | [], [], _, p, hp => by cases hp
  | c :: cs, x :: xs, h, p, hp => by
    rcases List.mem_cons.mp hp with rfl | hp
    · exact ⟨List.mem_cons_self, h.1⟩
    · obtain ⟨h1, h2⟩ := Tv.zip h.2 p hp
      exact ⟨List.mem_cons_of_mem _ h1, h2⟩
  | [], _ :: _, h, _, _ => h.elim
  | _ :: _, [], h, _, _ => h.elim
theorem ring_in {n s : Int} (h1 : 2 ≤ n) (h2 : n ≤ 60) (h3 : 1 ≤ s) (h4 : s < n) (C : Cells) : m_is_ring_in [.tup [.int n, .int s]] C = some (.ok (.bl true) C) := by
  rw [is_ring_in C (show typedT (.tup [.int n, .int s]) = true from rfl), ring_ok h1 h2 h3 h4]
theorem chain_of {C : Cells} {n k : Nat} {r mo : Int} (D0 : Dc C n k) (hk : k ≤ 800000) (h0 : 1 ≤ r) (h1 : r ≤ 40) (h2 : 2 ≤ mo) (h3 : mo ≤ 60) :
    ∃ cs C', m__law_chain [.cel n, .int r, .int mo] C = some (.ok (chD cs) C') ∧ cs.length = r.toNat ∧ Cv cs ∧ (∀ c ∈ cs, c.1 ≤ mo) ∧ C'.length = C.length ∧ Dc C' n (k + 100) := by
  obtain ⟨ds, C', e, hl, g, g2, g3⟩ := chain_made D0 hk h0 h1 h2 h3
  obtain ⟨cs, rfl, hv, hm⟩ := ch_of g h3
  exact ⟨cs, C', e, by rw [List.length_map] at hl; exact hl, hv, hm, g2, g3⟩
theorem ring_drawn {C : Cells} {n k : Nat} {m : Int} (D0 : Dc C n k) (hk : k ≤ 900000) (h0 : 2 ≤ m) (h1 : m ≤ 1000) :
    ∃ a s C', m__law_ring [.cel n, .int m] C = some (.ok (.tup [.int a, .int s]) C') ∧ 2 ≤ a ∧ a ≤ m ∧ 1 ≤ s ∧ s < a ∧ C'.length = C.length ∧ Dc C' n (k + 2) := ring_made D0 hk h0 h1
theorem is_integer_i {i : Int} (h : i.natAbs < 10 ^ 60) (C : Cells) : m_is_integer [.int i] C = some (.ok (.bl true) C) := by
  have e := is_whole (d := .int i) C rfl
  have h1 : (if i < 0 then -i else i) < 1000000000000000000000000000000000000000000000000000000000000 := by
    have : (i.natAbs : Int) < ((10 ^ 60 : Nat) : Int) := Int.ofNat_lt.mpr h
    have h2 : ((10 ^ 60 : Nat) : Int) = 1000000000000000000000000000000000000000000000000000000000000 := by decide +kernel
    rw [h2] at this
    split <;> omega
  have h2 : wholeB (.int i) = true := rfl
  have h3 : decide ((if i < 0 then -i else i) < 1000000000000000000000000000000000000000000000000000000000000) = true := by rw [decide_eq_true_eq]; exact h1
  unfold m_is_integer b_is_integer
  simp only [↓xDef, ↓xSeq, ↓xDo, ↓xNext, ↓xRet, ↓xExp, ↓xIfS, ↓xAsg, ↓gN, ↓gT, ↓gsC, ↓gsN, ↓xV, ↓S.val, ↓S.bind, ↓S.opt, ↓x2, ↓x1, ↓xN, ↓xB, ↓xD, ↓xAnd, ↓xOr, ↓xNot, ↓xIf, ↓xAndV, ↓xOrV, ↓xNotV, ↓xChain, ↓aNil, ↓aCons, ↓xTup, ↓few, ↓xF, ↓xC, ↓xSetI, ↓xPar, ↓xCall, ↓xFrz, ↓xM, live, i2, dSub, dAdd, dMul, dMulA, dMod, dDiv, dLt, dLe, dGt, dGe, dIx, at10, at20, at21, at30, at31, at32, cst0, cst1, cst2, cst3, dNeg, dAbs, dInt, dLen, dMin2, dMax2, dGcd, dTuple, ↓iR1, ↓iR2, ↓iV, items, ↓iEn, items1, nocel, nocels, List.map_cons, List.map_nil, List.getElem?_cons_zero, List.getElem?_cons_succ, List.getElem?_nil, List.set_cons_zero, List.set_cons_succ, List.length_cons, List.length_nil, List.replicate, List.cons_append, List.nil_append, Nat.reduceAdd, Nat.reduceSub, Bool.false_eq_true, if_true, if_false, Option.map_some, Option.bind_some, Option.bind_none, Bool.and_true, Bool.and_false, Bool.true_and, Bool.not_true, Bool.not_false, decide_true, decide_false, vw_n, vw_b, vw_i, vw_s, vw_u, vw_l, vw_o, ie_n, ie_b, ie_i, ie_s, ie_u, ie_l, ie_c, x10, x20, x21, x30, x31, x32, fin_b, fin_i, eq_ii, ne_ii, List.take_length, vw_k, ie_k, id_eq, Nat.reduceLeDiff, ↓xSl, ↓xAugI, ↓oE, ↓oNo, ↓xLs, ↓xExt, ↓iZp, e, h2, h3]

end Sk58
end
section
set_option maxRecDepth 100000
set_option maxHeartbeats 0
set_option exponentiation.threshold 1000000
namespace Sk58
open PySem L2 Sm
def fallB : List Int → Bool
  | a :: b :: r => decide (b ≤ a) && fallB (b :: r)
  | _ => true
def iOf : D → Int
  | .int i => i
  | _ => 0
def heapB : D → Bool
  | .tup ds => decide (ds.length ≤ 60) && (ds.all (fun d => withinB d 1 60) && fallB (ds.map iOf))
  | _ => false
theorem within_ints : ∀ {ds : List D} {lo hi : Int}, ds.all (fun d => withinB d lo hi) = true → ds = (ds.map iOf).map D.int
  | [], _, _, _ => rfl
  | d :: ds, lo, hi, h => by
    rw [List.all_cons, Bool.and_eq_true] at h
    have ih := within_ints h.2
    cases d with
    | int i =>
      rw [List.map_cons, List.map_cons, ← ih]
      rfl
    | _ => simp [withinB] at h
theorem fall_zip : ∀ ns : List Int, ((ns.zip (ns.drop 1)).all fun p => decide (p.2 ≤ p.1)) = fallB ns
  | [] => rfl
  | [_] => rfl
  | a :: b :: r => by
    have ih := fall_zip (b :: r)
    show (decide (b ≤ a) && (((b :: r).zip ((b :: r).drop 1)).all fun p => decide (p.2 ≤ p.1))) = _
    rw [ih]
    rfl
theorem int_within {i lo hi : Int} : withinB (.int i) lo hi = true ↔ lo ≤ i ∧ i ≤ hi := by simp [withinB]
/-- a heap, by its heights -/
structure Hp0 (hs : List Int) : Prop where
  len : hs.length ≤ 60
  rng : ∀ h ∈ hs, 1 ≤ h ∧ h ≤ 60
  fall : hs.Pairwise (· ≥ ·)
theorem fallB_pw : ∀ {hs : List Int}, fallB hs = true ↔ hs.Pairwise (· ≥ ·)
  | [] => by simp [fallB]
  | [_] => by simp [fallB]
  | a :: b :: r => by
    have ih := fallB_pw (hs := b :: r)
    show (decide (b ≤ a) && fallB (b :: r)) = true ↔ _
    rw [Bool.and_eq_true, ih, decide_eq_true_eq]
    constructor
    · rintro ⟨h1, h2⟩
      refine List.pairwise_cons.mpr ⟨fun z hz => ?_, h2⟩
      rcases List.mem_cons.mp hz with rfl | hz
      · exact h1
      · have := (List.pairwise_cons.mp h2).1 z hz
        show z ≤ a
        omega
    · intro h
      exact ⟨(List.pairwise_cons.mp h).1 b List.mem_cons_self, (List.pairwise_cons.mp h).2⟩
theorem Hp0.ok {hs : List Int} (h : Hp0 hs) : heapB (iT hs) = true := by
  have e : (hs.map D.int).map iOf = hs := by
    rw [List.map_map]
    exact List.map_id' hs
  have h1 : (hs.map D.int).all (fun d => withinB d 1 60) = true := by
    rw [List.all_map, List.all_eq_true]
    intro z hz
    exact int_within.mpr (h.rng z hz)
  show (decide ((hs.map D.int).length ≤ 60) && ((hs.map D.int).all (fun d => withinB d 1 60) && fallB ((hs.map D.int).map iOf))) = true
  rw [h1, e, fallB_pw.mpr h.fall, List.length_map]
  simp [h.len]
theorem heapB_of {d : D} (h : heapB d = true) : ∃ hs, d = iT hs ∧ Hp0 hs := by
  cases d with
  | tup ds =>
    have h : (decide (ds.length ≤ 60) && (ds.all (fun d => withinB d 1 60) && fallB (ds.map iOf))) = true := h
    rw [Bool.and_eq_true, Bool.and_eq_true, decide_eq_true_eq] at h
    obtain ⟨h1, h2, h3⟩ := h
    have e := within_ints h2
    refine ⟨ds.map iOf, by rw [iT, ← e], by rw [List.length_map]; exact h1, fun z hz => ?_, fallB_pw.mp h3⟩
    rw [e, List.all_map, List.all_eq_true] at h2
    exact int_within.mp (h2 z hz)
  | _ => simp [heapB] at h
theorem typedT_i (hs : List Int) : typedT (iT hs) = true := by
  show (hs.map D.int).all typed = true
  rw [List.all_map, List.all_eq_true]
  intro _ _
  rfl
theorem is_heap_in {d : D} (C : Cells) (h : typedT d = true) : m_is_heap_in [d] C = some (.ok (.bl (heapB d)) C) := by
  have h1 := typedT_t h
  unfold m_is_heap_in b_is_heap_in
  cases d with
  | tup ds =>
    by_cases hl : ds.length ≤ 60
    · have q1 : decide ((ds.length : Int) > 60) = false := by simp; omega
      have l1 : q1_is_heap_in [some (.tup ds), none, none, none] C = some (.ok (ds.map fun d => .bl (withinB d 1 60)) C) := by
        unfold q1_is_heap_in
        refine lc_T0 (g := gd0) (fun d => d) ds _ (by simp only [↓xDef, ↓xSeq, ↓xDo, ↓xNext, ↓xRet, ↓xExp, ↓xIfS, ↓xAsg, ↓gN, ↓gT, ↓gsC, ↓gsN, ↓xV, ↓S.val, ↓S.bind, ↓S.opt, ↓x2, ↓x1, ↓xN, ↓xB, ↓xD, ↓xAnd, ↓xOr, ↓xNot, ↓xIf, ↓xAndV, ↓xOrV, ↓xNotV, ↓xChain, ↓aNil, ↓aCons, ↓xTup, ↓few, ↓xF, ↓xC, ↓xSetI, ↓xPar, ↓xCall, ↓xFrz, ↓xM, live, i2, dSub, dAdd, dMul, dMulA, dMod, dDiv, dLt, dLe, dGt, dGe, dIx, atI, dNeg, dAbs, dInt, dLen, dMin2, dMax2, dGcd, dTuple, ↓iR1, ↓iR2, ↓iV, items, ↓iEn, items1, nocel, nocels, List.map_cons, List.map_nil, List.getElem?_cons_zero, List.getElem?_cons_succ, List.getElem?_nil, List.set_cons_zero, List.set_cons_succ, List.length_cons, List.length_nil, List.replicate, List.cons_append, List.nil_append, Nat.reduceAdd, Nat.reduceSub, Bool.false_eq_true, if_true, if_false, Option.map_some, Option.bind_some, Option.bind_none, Bool.and_true, Bool.and_false, Bool.true_and, Bool.not_true, Bool.not_false, decide_true, decide_false, vw_n, vw_b, vw_i, vw_s, vw_u, vw_l, vw_o, ie_n, ie_b, ie_i, ie_s, ie_u, ie_l, ie_c, x10, x20, x21, x30, x31, x32, fin_b, fin_i, eq_ii, ne_ii, List.take_length, vw_k, ie_k, id_eq, Nat.reduceLeDiff, ↓xSl, ↓xAugI, ↓oE, ↓oNo, ↓xLs, ↓xExt, ↓iZp, List.map_id']) rfl (by omega) fun d hd => ?_
        have ht : typed d = true := List.all_eq_true.mp h d hd
        exact ⟨[some (.tup ds), some d, none, none], rfl, by simp only [↓xDef, ↓xSeq, ↓xDo, ↓xNext, ↓xRet, ↓xExp, ↓xIfS, ↓xAsg, ↓gN, ↓gT, ↓gsC, ↓gsN, ↓xV, ↓S.val, ↓S.bind, ↓S.opt, ↓x2, ↓x1, ↓xN, ↓xB, ↓xD, ↓xAnd, ↓xOr, ↓xNot, ↓xIf, ↓xAndV, ↓xOrV, ↓xNotV, ↓xChain, ↓aNil, ↓aCons, ↓xTup, ↓few, ↓xF, ↓xC, ↓xSetI, ↓xPar, ↓xCall, ↓xFrz, ↓xM, live, i2, dSub, dAdd, dMul, dMulA, dMod, dDiv, dLt, dLe, dGt, dGe, dIx, atI, dNeg, dAbs, dInt, dLen, dMin2, dMax2, dGcd, dTuple, ↓iR1, ↓iR2, ↓iV, items, ↓iEn, items1, nocel, nocels, List.map_cons, List.map_nil, List.getElem?_cons_zero, List.getElem?_cons_succ, List.getElem?_nil, List.set_cons_zero, List.set_cons_succ, List.length_cons, List.length_nil, List.replicate, List.cons_append, List.nil_append, Nat.reduceAdd, Nat.reduceSub, Bool.false_eq_true, if_true, if_false, Option.map_some, Option.bind_some, Option.bind_none, Bool.and_true, Bool.and_false, Bool.true_and, Bool.not_true, Bool.not_false, decide_true, decide_false, vw_n, vw_b, vw_i, vw_s, vw_u, vw_l, vw_o, ie_n, ie_b, ie_i, ie_s, ie_u, ie_l, ie_c, x10, x20, x21, x30, x31, x32, fin_b, fin_i, eq_ii, ne_ii, List.take_length, vw_k, ie_k, id_eq, Nat.reduceLeDiff, ↓xSl, ↓xAugI, ↓oE, ↓oNo, ↓xLs, ↓xExt, ↓iZp, ie_t ht, is_within C ht]⟩
      cases hw : ds.all (fun d => withinB d 1 60) with
      | false => simp only [↓xDef, ↓xSeq, ↓xDo, ↓xNext, ↓xRet, ↓xExp, ↓xIfS, ↓xAsg, ↓gN, ↓gT, ↓gsC, ↓gsN, ↓xV, ↓S.val, ↓S.bind, ↓S.opt, ↓x2, ↓x1, ↓xN, ↓xB, ↓xD, ↓xAnd, ↓xOr, ↓xNot, ↓xIf, ↓xAndV, ↓xOrV, ↓xNotV, ↓xChain, ↓aNil, ↓aCons, ↓xTup, ↓few, ↓xF, ↓xC, ↓xSetI, ↓xPar, ↓xCall, ↓xFrz, ↓xM, live, i2, dSub, dAdd, dMul, dMulA, dMod, dDiv, dLt, dLe, dGt, dGe, dIx, atI, dNeg, dAbs, dInt, dLen, dMin2, dMax2, dGcd, dTuple, ↓iR1, ↓iR2, ↓iV, items, ↓iEn, items1, nocel, nocels, List.map_cons, List.map_nil, List.getElem?_cons_zero, List.getElem?_cons_succ, List.getElem?_nil, List.set_cons_zero, List.set_cons_succ, List.length_cons, List.length_nil, List.replicate, List.cons_append, List.nil_append, Nat.reduceAdd, Nat.reduceSub, Bool.false_eq_true, if_true, if_false, Option.map_some, Option.bind_some, Option.bind_none, Bool.and_true, Bool.and_false, Bool.true_and, Bool.not_true, Bool.not_false, decide_true, decide_false, vw_n, vw_b, vw_i, vw_s, vw_u, vw_l, vw_o, ie_n, ie_b, ie_i, ie_s, ie_u, ie_l, ie_c, x10, x20, x21, x30, x31, x32, fin_b, fin_i, eq_ii, ne_ii, List.take_length, vw_k, ie_k, id_eq, Nat.reduceLeDiff, ↓xSl, ↓xAugI, ↓oE, ↓oNo, ↓xLs, ↓xExt, ↓iZp, isi_tup h1, tupB, q1, l1, all_T, hw, heapB, Bool.false_and]
      | true =>
        obtain ⟨ns, rfl⟩ : ∃ ns : List Int, ds = ns.map D.int := ⟨_, within_ints hw⟩
        have l2 : q2_is_heap_in [some (iT ns), none, none, none] C = some (.ok ((ns.zip (ns.drop 1)).map fun p => .bl (decide (p.2 ≤ p.1))) C) := by
          unfold q2_is_heap_in
          refine lc_T0 (g := gd0) (fun p : Int × Int => .tup [.int p.1, .int p.2]) _ _ ?_ rfl (by rw [List.length_zip]; rw [List.length_map] at hl; omega) fun p hp => ⟨[some (iT ns), none, some (.int p.1), some (.int p.2)], rfl, by simp only [↓xDef, ↓xSeq, ↓xDo, ↓xNext, ↓xRet, ↓xExp, ↓xIfS, ↓xAsg, ↓gN, ↓gT, ↓gsC, ↓gsN, ↓xV, ↓S.val, ↓S.bind, ↓S.opt, ↓x2, ↓x1, ↓xN, ↓xB, ↓xD, ↓xAnd, ↓xOr, ↓xNot, ↓xIf, ↓xAndV, ↓xOrV, ↓xNotV, ↓xChain, ↓aNil, ↓aCons, ↓xTup, ↓few, ↓xF, ↓xC, ↓xSetI, ↓xPar, ↓xCall, ↓xFrz, ↓xM, live, i2, dSub, dAdd, dMul, dMulA, dMod, dDiv, dLt, dLe, dGt, dGe, dIx, atI, dNeg, dAbs, dInt, dLen, dMin2, dMax2, dGcd, dTuple, ↓iR1, ↓iR2, ↓iV, items, ↓iEn, items1, nocel, nocels, List.map_cons, List.map_nil, List.getElem?_cons_zero, List.getElem?_cons_succ, List.getElem?_nil, List.set_cons_zero, List.set_cons_succ, List.length_cons, List.length_nil, List.replicate, List.cons_append, List.nil_append, Nat.reduceAdd, Nat.reduceSub, Bool.false_eq_true, if_true, if_false, Option.map_some, Option.bind_some, Option.bind_none, Bool.and_true, Bool.and_false, Bool.true_and, Bool.not_true, Bool.not_false, decide_true, decide_false, vw_n, vw_b, vw_i, vw_s, vw_u, vw_l, vw_o, ie_n, ie_b, ie_i, ie_s, ie_u, ie_l, ie_c, x10, x20, x21, x30, x31, x32, fin_b, fin_i, eq_ii, ne_ii, List.take_length, vw_k, ie_k, id_eq, Nat.reduceLeDiff, ↓xSl, ↓xAugI, ↓oE, ↓oNo, ↓xLs, ↓xExt, ↓iZp]⟩
          have c1 : cutD (ns.map D.int) (some 1) none = (ns.drop 1).map D.int := by rw [← Int.natCast_one, cut_from, List.map_drop]
          simp only [↓xDef, ↓xSeq, ↓xDo, ↓xNext, ↓xRet, ↓xExp, ↓xIfS, ↓xAsg, ↓gN, ↓gT, ↓gsC, ↓gsN, ↓xV, ↓S.val, ↓S.bind, ↓S.opt, ↓x2, ↓x1, ↓xN, ↓xB, ↓xD, ↓xAnd, ↓xOr, ↓xNot, ↓xIf, ↓xAndV, ↓xOrV, ↓xNotV, ↓xChain, ↓aNil, ↓aCons, ↓xTup, ↓few, ↓xF, ↓xC, ↓xSetI, ↓xPar, ↓xCall, ↓xFrz, ↓xM, live, i2, dSub, dAdd, dMul, dMulA, dMod, dDiv, dLt, dLe, dGt, dGe, dIx, atI, dNeg, dAbs, dInt, dLen, dMin2, dMax2, dGcd, dTuple, ↓iR1, ↓iR2, ↓iV, items, ↓iEn, items1, nocel, nocels, List.map_cons, List.map_nil, List.getElem?_cons_zero, List.getElem?_cons_succ, List.getElem?_nil, List.set_cons_zero, List.set_cons_succ, List.length_cons, List.length_nil, List.replicate, List.cons_append, List.nil_append, Nat.reduceAdd, Nat.reduceSub, Bool.false_eq_true, if_true, if_false, Option.map_some, Option.bind_some, Option.bind_none, Bool.and_true, Bool.and_false, Bool.true_and, Bool.not_true, Bool.not_false, decide_true, decide_false, vw_n, vw_b, vw_i, vw_s, vw_u, vw_l, vw_o, ie_n, ie_b, ie_i, ie_s, ie_u, ie_l, ie_c, x10, x20, x21, x30, x31, x32, fin_b, fin_i, eq_ii, ne_ii, List.take_length, vw_k, ie_k, id_eq, Nat.reduceLeDiff, ↓xSl, ↓xAugI, ↓oE, ↓oNo, ↓xLs, ↓xExt, ↓iZp, dSl, c1, zips, prs_map2]
        have hi : (ns.map D.int).map iOf = ns := by
          rw [List.map_map]
          exact List.map_id' ns
        have hl2 : decide ((ns.map D.int).length ≤ 60) = true := by simpa using hl
        simp only [↓xDef, ↓xSeq, ↓xDo, ↓xNext, ↓xRet, ↓xExp, ↓xIfS, ↓xAsg, ↓gN, ↓gT, ↓gsC, ↓gsN, ↓xV, ↓S.val, ↓S.bind, ↓S.opt, ↓x2, ↓x1, ↓xN, ↓xB, ↓xD, ↓xAnd, ↓xOr, ↓xNot, ↓xIf, ↓xAndV, ↓xOrV, ↓xNotV, ↓xChain, ↓aNil, ↓aCons, ↓xTup, ↓few, ↓xF, ↓xC, ↓xSetI, ↓xPar, ↓xCall, ↓xFrz, ↓xM, live, i2, dSub, dAdd, dMul, dMulA, dMod, dDiv, dLt, dLe, dGt, dGe, dIx, atI, dNeg, dAbs, dInt, dLen, dMin2, dMax2, dGcd, dTuple, ↓iR1, ↓iR2, ↓iV, items, ↓iEn, items1, nocel, nocels, List.map_cons, List.map_nil, List.getElem?_cons_zero, List.getElem?_cons_succ, List.getElem?_nil, List.set_cons_zero, List.set_cons_succ, List.length_cons, List.length_nil, List.replicate, List.cons_append, List.nil_append, Nat.reduceAdd, Nat.reduceSub, Bool.false_eq_true, if_true, if_false, Option.map_some, Option.bind_some, Option.bind_none, Bool.and_true, Bool.and_false, Bool.true_and, Bool.not_true, Bool.not_false, decide_true, decide_false, vw_n, vw_b, vw_i, vw_s, vw_u, vw_l, vw_o, ie_n, ie_b, ie_i, ie_s, ie_u, ie_l, ie_c, x10, x20, x21, x30, x31, x32, fin_b, fin_i, eq_ii, ne_ii, List.take_length, vw_k, ie_k, id_eq, Nat.reduceLeDiff, ↓xSl, ↓xAugI, ↓oE, ↓oNo, ↓xLs, ↓xExt, ↓iZp, isi_tup h1, tupB, q1, l1, l2, all_T, hw, heapB, fall_zip, hi, hl2]
    · have q1 : decide ((ds.length : Int) > 60) = true := by simp; omega
      simp only [↓xDef, ↓xSeq, ↓xDo, ↓xNext, ↓xRet, ↓xExp, ↓xIfS, ↓xAsg, ↓gN, ↓gT, ↓gsC, ↓gsN, ↓xV, ↓S.val, ↓S.bind, ↓S.opt, ↓x2, ↓x1, ↓xN, ↓xB, ↓xD, ↓xAnd, ↓xOr, ↓xNot, ↓xIf, ↓xAndV, ↓xOrV, ↓xNotV, ↓xChain, ↓aNil, ↓aCons, ↓xTup, ↓few, ↓xF, ↓xC, ↓xSetI, ↓xPar, ↓xCall, ↓xFrz, ↓xM, live, i2, dSub, dAdd, dMul, dMulA, dMod, dDiv, dLt, dLe, dGt, dGe, dIx, atI, dNeg, dAbs, dInt, dLen, dMin2, dMax2, dGcd, dTuple, ↓iR1, ↓iR2, ↓iV, items, ↓iEn, items1, nocel, nocels, List.map_cons, List.map_nil, List.getElem?_cons_zero, List.getElem?_cons_succ, List.getElem?_nil, List.set_cons_zero, List.set_cons_succ, List.length_cons, List.length_nil, List.replicate, List.cons_append, List.nil_append, Nat.reduceAdd, Nat.reduceSub, Bool.false_eq_true, if_true, if_false, Option.map_some, Option.bind_some, Option.bind_none, Bool.and_true, Bool.and_false, Bool.true_and, Bool.not_true, Bool.not_false, decide_true, decide_false, vw_n, vw_b, vw_i, vw_s, vw_u, vw_l, vw_o, ie_n, ie_b, ie_i, ie_s, ie_u, ie_l, ie_c, x10, x20, x21, x30, x31, x32, fin_b, fin_i, eq_ii, ne_ii, List.take_length, vw_k, ie_k, id_eq, Nat.reduceLeDiff, ↓xSl, ↓xAugI, ↓oE, ↓oNo, ↓xLs, ↓xExt, ↓iZp, isi_tup h1, tupB, q1, heapB, hl, Bool.false_and]
  | _ => first | (simp [typed] at h1; done) | simp only [↓xDef, ↓xSeq, ↓xDo, ↓xNext, ↓xRet, ↓xExp, ↓xIfS, ↓xAsg, ↓gN, ↓gT, ↓gsC, ↓gsN, ↓xV, ↓S.val, ↓S.bind, ↓S.opt, ↓x2, ↓x1, ↓xN, ↓xB, ↓xD, ↓xAnd, ↓xOr, ↓xNot, ↓xIf, ↓xAndV, ↓xOrV, ↓xNotV, ↓xChain, ↓aNil, ↓aCons, ↓xTup, ↓few, ↓xF, ↓xC, ↓xSetI, ↓xPar, ↓xCall, ↓xFrz, ↓xM, live, i2, dSub, dAdd, dMul, dMulA, dMod, dDiv, dLt, dLe, dGt, dGe, dIx, atI, dNeg, dAbs, dInt, dLen, dMin2, dMax2, dGcd, dTuple, ↓iR1, ↓iR2, ↓iV, items, ↓iEn, items1, nocel, nocels, List.map_cons, List.map_nil, List.getElem?_cons_zero, List.getElem?_cons_succ, List.getElem?_nil, List.set_cons_zero, List.set_cons_succ, List.length_cons, List.length_nil, List.replicate, List.cons_append, List.nil_append, Nat.reduceAdd, Nat.reduceSub, Bool.false_eq_true, if_true, if_false, Option.map_some, Option.bind_some, Option.bind_none, Bool.and_true, Bool.and_false, Bool.true_and, Bool.not_true, Bool.not_false, decide_true, decide_false, vw_n, vw_b, vw_i, vw_s, vw_u, vw_l, vw_o, ie_n, ie_b, ie_i, ie_s, ie_u, ie_l, ie_c, x10, x20, x21, x30, x31, x32, fin_b, fin_i, eq_ii, ne_ii, List.take_length, vw_k, ie_k, id_eq, Nat.reduceLeDiff, ↓xSl, ↓xAugI, ↓oE, ↓oNo, ↓xLs, ↓xExt, ↓iZp, isi_tup h1, tupB, heapB]
theorem is_heap_i {hs : List Int} (h : Hp0 hs) (C : Cells) : m_is_heap_in [iT hs] C = some (.ok (.bl true) C) := by rw [is_heap_in C (typedT_i hs), h.ok]
/-- the squares, column by column -/
def sqs (hs : List Int) : List (Nat × Nat) := (hs.zipIdx 0).flatMap fun p => (List.range p.1.toNat).map fun r => (p.2, r)
def pD (p : Nat × Nat) : D := .tup [.int p.1, .int p.2]
theorem flat_len {α β : Type} {f : α → List β} {k : Nat} : ∀ {xs : List α}, (∀ a ∈ xs, (f a).length ≤ k) → (xs.flatMap f).length ≤ xs.length * k
  | [], _ => by simp
  | a :: r, h => by
    have ih := flat_len (xs := r) fun b hb => h b (List.mem_cons_of_mem _ hb)
    have h1 := h a List.mem_cons_self
    rw [List.flatMap_cons, List.length_append, List.length_cons, Nat.succ_mul]
    omega
theorem zipIdx_mem {hs : List Int} {p : Int × Nat} (h : p ∈ hs.zipIdx 0) : p.2 < hs.length ∧ p.1 = hs.getD p.2 0 ∧ p.1 ∈ hs := by
  obtain ⟨h1, h2⟩ := List.mem_zipIdx' h
  refine ⟨h1, ?_, ?_⟩
  · rw [List.getD_eq_getElem?_getD, List.getElem?_eq_getElem h1, h2]
    rfl
  · rw [h2]
    exact List.getElem_mem h1
theorem sqs_len {hs : List Int} (h : Hp0 hs) : (sqs hs).length ≤ 3600 := by
  have := flat_len (k := 60) (f := fun p : Int × Nat => (List.range p.1.toNat).map fun r => (p.2, r)) (xs := hs.zipIdx 0) fun p hp => by
    rw [List.length_map, List.length_range]
    have := (h.rng _ (zipIdx_mem hp).2.2).2
    omega
  rw [List.length_zipIdx] at this
  have h1 := h.len
  unfold sqs
  omega
end Sk58
end
section
set_option maxRecDepth 100000
set_option maxHeartbeats 0
set_option exponentiation.threshold 1000000
namespace Sk58
open PySem L2 Sm
/-! ### dice in the first cell -/
structure Vd (a b c : Int) (k : Nat) : Prop where
  a0 : 0 ≤ a
  b0 : 0 ≤ b
  b1 : b < 2147483648
  c0 : 0 ≤ c
  c1 : c ≤ k
abbrev dc (a b c : Int) : Option Ob := some (.l [.int a, .int b, .int c])
theorem Vd.mono {a b c : Int} {j k : Nat} (h : Vd a b c j) (hk : j ≤ k) : Vd a b c k := ⟨h.a0, h.b0, h.b1, h.c0, by have := h.c1; omega⟩
theorem rollE {a b c : Int} {k : Nat} {z : Int} {r : Cells} (V : Vd a b c k) (h0 : 0 < z := by decide) (h1 : z < 2 ^ 200 := by decide) (hk : k ≤ 1000000 := by omega) :
    ∃ v a' b' c', m__law_roll [.cel 0, .int z] (dc a b c :: r) = some (.ok (.int v) (dc a' b' c' :: r)) ∧ 0 ≤ v ∧ v < z ∧ Vd a' b' c' (k + 1) := by
  obtain ⟨v, C', e, v0, v1, hl, ⟨a', b', c', q1, q2, q3, q4, q5, q6⟩, fr⟩ := roll_fr (C := dc a b c :: r) (n := 0) (k := k) (z := z) ⟨a, b, c, rfl, V.a0, V.b0, V.b1, V.c0, V.c1⟩ hk h0 h1
  have hc : C' = dc a' b' c' :: r := by
    apply List.ext_getElem?
    intro i
    cases i with
    | zero => rw [q1]; rfl
    | succ i => rw [fr (i + 1) (by omega)]; rfl
  subst hc
  exact ⟨v, a', b', c', e, v0, v1, ⟨q2, q3, q4, q5, q6⟩⟩
theorem sqE {s T : SS} {env e' : Sm.Env} {C C' : Cells} (h : s env C = some (.nx e' C')) : xSeq s T env C = T e' C' := by
  unfold xSeq
  rw [h]
theorem asg_call {f : Fn} {s : S (List D)} {env : Sm.Env} {C C1 C' : Cells} {as : List D} {d : D} {j : Nat} (h : s env C = some (.ok as C1)) (e : f as C1 = some (.ok d C')) : xAsg (xCall f s) (gN j) env C = some (.nx (env.set j (some d)) C') := by
  unfold xAsg xDo xCall S.bind
  simp only [h, e]
  rfl
theorem ret_call {f : Fn} {s : S (List D)} {env : Sm.Env} {C C1 C' : Cells} {as : List D} {d : D} (h : s env C = some (.ok as C1)) (e : f as C1 = some (.ok d C')) : xRet (xCall f s) env C = some (.ret d C') := by
  unfold xRet xDo xCall S.bind
  simp only [h, e]
theorem def_retE {f : Fn} {as : List D} {C C' : Cells} {d : D} (n m : Nat) (b : SS) (hf : f = xDef n m b) (hn : as.length = n) (h : b (as.map some ++ List.replicate (m - n) none) C = some (.ret d C')) (hd : nocel d = true) : f as C = some (.ok d (C'.take C.length)) := by
  subst hf
  unfold xDef
  rw [if_pos hn, h]
  exact if_pos hd
theorem right_ret {f : Fn} {a b c a' b' c' : Int} {r : Cells} {d : D} (m : Nat) (s : SS) (hf : f = xDef 1 m s) (h : s (some (.cel 0) :: List.replicate (m - 1) none) [dc a b c] = some (.ret d (dc a' b' c' :: r))) (hd : nocel d = true) : f [.cel 0] [dc a b c] = some (.ok d [dc a' b' c']) := by
  subst hf
  have h' : s (List.map some [D.cel 0] ++ List.replicate (m - 1) none) [dc a b c] = some (.ret d (dc a' b' c' :: r)) := h
  unfold xDef
  rw [if_pos (show [D.cel 0].length = 1 from rfl), h']
  exact if_pos hd
theorem def_ret {n m : Nat} {b : SS} {as : List D} {C C' : Cells} {d : D} (hn : as.length = n) (h : b (as.map some ++ List.replicate (m - n) none) C = some (.ret d C')) (hd : nocel d = true) : xDef n m b as C = some (.ok d (C'.take C.length)) := by
  unfold xDef
  rw [if_pos hn, h]
  exact if_pos hd
theorem one_ofE {a b c : Int} {k : Nat} {ds : List D} {r : Cells} (V : Vd a b c k) (h0 : 0 < ds.length := by decide) (h1 : ds.length < 1000000 := by decide) (hc : ds.all nocel = true := by decide) (hk : k ≤ 1000000 := by omega) :
    ∃ d a' b' c', m__law_one_of [.cel 0, .lst ds] (dc a b c :: r) = some (.ok d (dc a' b' c' :: r)) ∧ d ∈ ds ∧ Vd a' b' c' (k + 1) := by
  have hp := h0
  obtain ⟨v, a', b', c', e, v0, v1, V1⟩ := rollE (z := (ds.length : Int)) (r := r) V (by omega) (by omega) hk
  obtain ⟨i, rfl⟩ := Int.eq_ofNat_of_zero_le v0
  have hi : i < ds.length := by omega
  refine ⟨ds[i], a', b', c', ?_, List.getElem_mem hi, V1⟩
  unfold m__law_one_of b__law_one_of
  have q : fin (r.length + 1) ds[i] (dc a' b' c' :: r) = some (.ok ds[i] (dc a' b' c' :: r)) := by
    rw [fin_n (List.all_eq_true.mp hc _ (List.getElem_mem hi)), show r.length + 1 = (dc a' b' c' :: r).length from rfl, List.take_length]
  simp only [↓xDef, ↓xSeq, ↓xDo, ↓xNext, ↓xRet, ↓xExp, ↓xIfS, ↓xAsg, ↓gN, ↓gT, ↓gsC, ↓gsN, ↓xV, ↓S.val, ↓S.bind, ↓S.opt, ↓x2, ↓x1, ↓xN, ↓xB, ↓xD, ↓xAnd, ↓xOr, ↓xNot, ↓xIf, ↓xAndV, ↓xOrV, ↓xNotV, ↓xChain, ↓aNil, ↓aCons, ↓xTup, ↓few, ↓xF, ↓xC, ↓xSetI, ↓xPar, ↓xCall, ↓xFrz, ↓xM, live, i2, dSub, dAdd, dMul, dMulA, dMod, dDiv, dLt, dLe, dGt, dGe, dIx, atI, dNeg, dAbs, dInt, dLen, dMin2, dMax2, dGcd, dTuple, ↓iR1, ↓iR2, ↓iV, items, ↓iEn, items1, nocel, nocels, List.map_cons, List.map_nil, List.getElem?_cons_zero, List.getElem?_cons_succ, List.getElem?_nil, List.set_cons_zero, List.set_cons_succ, List.length_cons, List.length_nil, List.replicate, List.cons_append, List.nil_append, Nat.reduceAdd, Nat.reduceSub, Bool.false_eq_true, if_true, if_false, Option.map_some, Option.bind_some, Option.bind_none, Bool.and_true, Bool.and_false, Bool.true_and, Bool.not_true, Bool.not_false, decide_true, decide_false, vw_n, vw_b, vw_i, vw_s, vw_u, vw_l, vw_o, ie_n, ie_b, ie_i, ie_s, ie_u, ie_l, ie_c, x10, x20, x21, x30, x31, x32, fin_b, fin_i, eq_ii, ne_ii, List.take_length, vw_k, ie_k, id_eq, Nat.reduceLeDiff, ↓xSl, ↓xAugI, ↓oE, ↓oNo, ↓xLs, ↓xExt, ↓iZp, e, ixN_nat hi, List.getElem?_eq_getElem hi, q]
theorem diceE {ns : List Int} {I : Int} (h0 : 0 ≤ I) (h1 : I ≤ 6) : ∃ a b, m__law_dice [.lst (ns.map D.int), .int I] [] = some (.ok (.cel 0) [dc a b 0]) ∧ Vd a b 0 0 := by
  obtain ⟨a, b, h, p1, p2, p3⟩ := dice (ns := ns) [] h0 h1
  exact ⟨a, b, h, ⟨p1, p2, p3, by omega, by omega⟩⟩
theorem cut_scr (ns : List Int) : Sm.cutV 0 (some (.lst (ns.map D.int))) = some (.lst (ns.map D.int)) := by
  have h : ∀ l : List Int, nocels (l.map D.int) = true := fun l => by
    induction l with
    | nil => rfl
    | cons x l ih => exact ih
  unfold Sm.cutV
  exact if_pos (h ns)
theorem lpC_ok {b : SS} (P : Sm.Env → Prop) : ∀ (ds : List D), (∀ d ∈ ds, ∃ i : Int, d = .int i) → (∀ d ∈ ds, ∀ e, P e → ∃ e2 C2, b ((cutE 0 e).set 1 (some d)) [] = some (.nx e2 C2) ∧ P e2) → ∀ e C, P e → ∃ e2, lpC gd0 (gN 1) b 0 ds e C = some (.nx (cutE 0 e2) []) ∧ P e2
  | [], _, _, e, C, h => ⟨e, rfl, h⟩
  | d :: r, hi, hs, e, C, h => by
    obtain ⟨e2, C2, h1, h2⟩ := hs d List.mem_cons_self e h
    obtain ⟨e3, g1, g2⟩ := lpC_ok P r (fun d' hd' => hi d' (List.mem_cons_of_mem _ hd')) (fun d' hd' => hs d' (List.mem_cons_of_mem _ hd')) e2 C2 h2
    refine ⟨e3, ?_, g2⟩
    obtain ⟨i, rfl⟩ := hi d List.mem_cons_self
    have h1' : b ((cutE 0 e).set 1 (some (.int i))) (C.take 0) = some (.nx e2 C2) := h1
    unfold lpC
    rw [if_pos ⟨rfl, rfl⟩]
    show (match b ((cutE 0 e).set 1 (some (.int i))) (C.take 0) with
        | some (.nx e2 C2) => lpC gd0 (gN 1) b 0 r e2 C2
        | some (.ct e2 C2) => lpC gd0 (gN 1) b 0 r e2 C2
        | some (.bk e2 C2) => some (.nx e2 C2)
        | o => o) = _
    rw [h1']
    exact g1
theorem forC_ok {it : SW} {b : SS} {env : Sm.Env} {n : Nat} (P : Sm.Env → Prop) (hit : it env [] = some (.ok (zs 0 n, gd0) [])) (h0 : P env) (step : ∀ I : Int, 0 ≤ I → I < n → ∀ e, P e → ∃ e2 C2, b ((cutE 0 e).set 1 (some (.int I))) [] = some (.nx e2 C2) ∧ P e2) :
    ∃ e2, xForC it (gN 1) b env [] = some (.nx (cutE 0 e2) []) ∧ P e2 := by
  obtain ⟨e2, h1, h2⟩ := lpC_ok P (zs 0 n) (fun d hd => by obtain ⟨i, _, rfl⟩ := zs_mem hd; exact ⟨_, rfl⟩) (fun d hd e he => by
    obtain ⟨i, hi, rfl⟩ := zs_mem hd
    exact step _ (by omega) (by omega) e he) env [] h0
  refine ⟨e2, ?_, h2⟩
  unfold xForC xDo
  rw [hit]
  exact h1
theorem asg_roll {s : S (List D)} {env : Sm.Env} {C C1 C' : Cells} {as : List D} {v lo : Int} {j : Nat} (h : s env C = some (.ok as C1)) (e : m__law_roll as C1 = some (.ok (.int v) C')) : xAsg (x2 dAdd (S.val (.int lo)) (xCall m__law_roll s)) (gN j) env C = some (.nx (env.set j (some (.int (lo + v)))) C') := by
  unfold xAsg xDo x2 xCall S.bind S.val S.opt
  simp only [h, e, vw, dAdd, gN, Option.map_some]
def rng (lo : Int) (n : Nat) : List D := (List.range n).map fun i => D.int (lo + (i : Nat))
theorem mem_rng {lo v : Int} {n : Nat} (h0 : 0 ≤ v) (h1 : v < n) : D.int (lo + v) ∈ rng lo n := List.mem_map.mpr ⟨v.toNat, List.mem_range.mpr (by omega), by rw [Int.toNat_of_nonneg h0]⟩

end Sk58
end
section
set_option maxRecDepth 100000
set_option maxHeartbeats 0
set_option exponentiation.threshold 1000000
namespace Sk58
open PySem L2 Sm
def rp (d : D) : Str := match pyD d with
  | some p => p.shown
  | none => ""
def wd (d : D) : D := .str (("number " : Str) ++ rp d)
theorem ear_ex {n : Nat} {h : Hrs} {g s : S D} {env : Sm.Env} {C C1 : Cells} {c : Str} {p : Option (Str × D)} {r : Option (Sm.R D)} (e : s env C = some (Sm.R.ex c p C1)) (hh : hearX n h c p C1 = r) : xEar n h g s env C = r := by
  unfold xEar
  rw [e]
  exact hh
theorem ear_ok {n : Nat} {h : Hrs} {g s : S D} {env : Sm.Env} {C C1 C2 : Cells} {d d2 : D} (e : s env C = some (Sm.R.ok d C1)) (hh : g (ear0 n) C1 = some (Sm.R.ok d2 C2)) : xEar n h g s env C = some (Sm.R.ok d2 C2) := by
  unfold xEar
  rw [e]
  simp only [hh]
theorem Dc.one {C : Cells} {k : Nat} (h : Dc C 0 k) (hl : C.length = 1) : ∃ a b c, C = [dc a b c] ∧ Vd a b c k := by
  obtain ⟨a, b, c, q, a0, b0, b1, c0, c1⟩ := h
  refine ⟨a, b, c, ?_, a0, b0, b1, c0, c1⟩
  match C, hl, q with
  | [x], _, q =>
    have q := Option.some.inj q
    rw [q]
theorem Vd.toDc {a b c : Int} {k : Nat} (V : Vd a b c k) (r : Cells) : Dc (dc a b c :: r) 0 k := ⟨a, b, c, rfl, V.a0, V.b0, V.b1, V.c0, V.c1⟩
theorem lpC_all {i n : Nat} {b : SS} (P : Sm.Env → Cells → Prop) : ∀ (ds : List D), (∀ d ∈ ds, nocel d = true) → (∀ d ∈ ds, ∀ e C, P e C → ∃ e2 C2, b (e.set i (some d)) C = some (.nx e2 C2) ∧ P (cutE n e2) (C2.take n)) → ∀ e C, P (cutE n e) (C.take n) → ∃ e2 C2, lpC gd0 (gN i) b n ds e C = some (.nx e2 C2) ∧ P e2 C2
  | [], _, _, e, C, h => ⟨cutE n e, C.take n, rfl, h⟩
  | d :: r, hn, hs, e, C, h => by
    obtain ⟨e2, C2, h1, h2⟩ := hs d List.mem_cons_self _ _ h
    obtain ⟨e3, C3, g1, g2⟩ := lpC_all P r (fun d' hd' => hn d' (List.mem_cons_of_mem _ hd')) (fun d' hd' => hs d' (List.mem_cons_of_mem _ hd')) e2 C2 h2
    refine ⟨e3, C3, ?_, g2⟩
    unfold lpC
    rw [if_pos ⟨rfl, hn d List.mem_cons_self⟩]
    show (match b ((cutE n e).set i (some d)) (C.take n) with
        | some (.nx e2 C2) => lpC gd0 (gN i) b n r e2 C2
        | some (.ct e2 C2) => lpC gd0 (gN i) b n r e2 C2
        | some (.bk e2 C2) => some (.nx e2 C2)
        | o => o) = _
    rw [h1]
    exact g1
theorem forC_all {i : Nat} {it : SW} {b : SS} {env : Sm.Env} {C C1 : Cells} {ds : List D} (P : Sm.Env → Cells → Prop) (hit : it env C = some (.ok (ds, gd0) C1)) (hn : ∀ d ∈ ds, nocel d = true) (h0 : P (cutE C1.length env) C1) (step : ∀ d ∈ ds, ∀ e C, P e C → ∃ e2 C2, b (e.set i (some d)) C = some (.nx e2 C2) ∧ P (cutE C1.length e2) (C2.take C1.length)) :
    ∃ e2 C2, xForC it (gN i) b env C = some (.nx e2 C2) ∧ P e2 C2 := by
  obtain ⟨e2, C2, h1, h2⟩ := lpC_all P ds hn step env C1 (by rw [List.take_length]; exact h0)
  refine ⟨e2, C2, ?_, h2⟩
  unfold xForC xDo
  rw [hit]
  exact h1
theorem for_all {i : Nat} {it : SW} {b : SS} {env : Sm.Env} {C C1 : Cells} {ds : List D} (P : Sm.Env → Cells → Prop) (hit : it env C = some (.ok (ds, gd0) C1)) (h0 : P env C1) (step : ∀ d ∈ ds, ∀ e C, P e C → ∃ e2 C2, b (e.set i (some d)) C = some (.nx e2 C2) ∧ P e2 C2) :
    ∃ e2 C2, xFor it (gN i) b env C = some (.nx e2 C2) ∧ P e2 C2 := by
  obtain ⟨e2, C2, h1, h2⟩ := lp_inv (t := gN i) (b := b) (fun _ e C => P e C) ds 0 env C1 h0 fun d hd j e C _ hp => by
    obtain ⟨e2, C2, q1, q2⟩ := step d hd e C hp
    exact ⟨_, rfl, e2, C2, q1, q2⟩
  exact ⟨e2, C2, by rw [xFor_ok hit]; exact h1, h2⟩
theorem iv_tup {s : S D} {env : Sm.Env} {C C1 : Cells} {ds : List D} (h : s env C = some (.ok (.tup ds) C1)) : iV s env C = some (.ok (ds, gd0) C1) := by
  unfold iV S.bind
  rw [h]
  rfl
theorem iv_lst {s : S D} {env : Sm.Env} {C C1 : Cells} {ds : List D} (h : s env C = some (.ok (.lst ds) C1)) : iV s env C = some (.ok (ds, gdC 0 ds) C1) ∨ iV s env C = some (.ok (ds, gd0) C1) := by
  right
  unfold iV S.bind
  rw [h]
  rfl
mutual
theorem eqd_self : ∀ (d : D) (n : Nat), okE d n = true → eqd d d = true
  | .non, _, _ => rfl
  | .bl a, _, _ => by show (a == a) = true; exact beq_self_eq_true a
  | .int a, _, _ => by show (a == a) = true; exact beq_self_eq_true a
  | .str a, _, _ => by show (a == a) = true; exact beq_self_eq_true a
  | .tup ds, 0, h => by simp [okE] at h
  | .tup ds, n + 1, h => by
    exact eqds_self ds n h
  | .lst ds, 0, h => by simp [okE] at h
  | .lst ds, n + 1, h => by
    exact eqds_self ds n h
  | .cel _, n, h => by cases n <;> simp [okE] at h
  | .opq _, n, h => by cases n <;> simp [okE] at h
  | .err _ _ _, n, h => by cases n <;> simp [okE] at h
  | .fn _, n, h => by cases n <;> simp [okE] at h
  | .dk _ _, n, h => by cases n <;> simp [okE] at h
  | .dt _ _, n, h => by cases n <;> simp [okE] at h
theorem eqds_self : ∀ (ds : List D) (n : Nat), okEs ds n = true → eqds ds ds = true
  | [], _, _ => rfl
  | d :: ds, n, h => by
    simp only [okEs, Bool.and_eq_true] at h
    show (eqd d d && eqds ds ds) = true
    rw [eqd_self d n h.1, eqds_self ds n h.2]
    rfl
end
theorem eq_self {d : D} (h : okE d 60 = true) : dEq d d = some (.bl true) := by
  unfold dEq
  rw [if_pos ⟨h, h⟩, eqd_self d 60 h]
theorem ne_self {d : D} (h : okE d 60 = true) : dNe d d = some (.bl false) := by
  unfold dNe
  rw [if_pos ⟨h, h⟩, eqd_self d 60 h]
  rfl
theorem rq_bad {d : D} (C : Cells) (h : typedC d = true) (hb : chainB d = false) : m_require_chain [d] C = some (.ex "InvalidChain" none C) := by
  unfold m_require_chain b_require_chain
  have ht : typed d = true := by cases d <;> first | rfl | exact h
  simp only [↓xDef, ↓xSeq, ↓xDo, ↓xNext, ↓xRet, ↓xExp, ↓xIfS, ↓xAsg, ↓gN, ↓gT, ↓gsC, ↓gsN, ↓xV, ↓S.val, ↓S.bind, ↓S.opt, ↓x2, ↓x1, ↓xN, ↓xB, ↓xD, ↓xAnd, ↓xOr, ↓xNot, ↓xIf, ↓xAndV, ↓xOrV, ↓xNotV, ↓xChain, ↓aNil, ↓aCons, ↓xTup, ↓few, ↓xF, ↓xC, ↓xSetI, ↓xPar, ↓xCall, ↓xFrz, ↓xM, live, i2, dSub, dAdd, dMul, dMulA, dMod, dDiv, dLt, dLe, dGt, dGe, dIx, atI, dNeg, dAbs, dInt, dLen, dMin2, dMax2, dGcd, dTuple, ↓iR1, ↓iR2, ↓iV, items, ↓iEn, items1, nocel, nocels, List.map_cons, List.map_nil, List.getElem?_cons_zero, List.getElem?_cons_succ, List.getElem?_nil, List.set_cons_zero, List.set_cons_succ, List.length_cons, List.length_nil, List.replicate, List.cons_append, List.nil_append, Nat.reduceAdd, Nat.reduceSub, Bool.false_eq_true, if_true, if_false, Option.map_some, Option.bind_some, Option.bind_none, Bool.and_true, Bool.and_false, Bool.true_and, Bool.not_true, Bool.not_false, decide_true, decide_false, vw_n, vw_b, vw_i, vw_s, vw_u, vw_l, vw_o, ie_n, ie_b, ie_i, ie_s, ie_u, ie_l, ie_c, x10, x20, x21, x30, x31, x32, fin_b, fin_i, eq_ii, ne_ii, List.take_length, vw_k, ie_k, id_eq, Nat.reduceLeDiff, ↓xSl, ↓xAugI, ↓oE, ↓oNo, ↓xLs, ↓xExt, ↓iZp, ie_t ht, is_chain_in C h, hb, xRaise]
theorem chainB_ok {cs : Ch} (h : Cv cs) (h1 : 1 ≤ cs.length) (h2 : cs.length ≤ 12) : typedC (chD cs) = true ∧ chainB (chD cs) = true := by
  refine ⟨?_, ?_⟩
  · show (cs.map rd).all typedT = true
    rw [List.all_eq_true]
    intro d hd
    obtain ⟨c, hc, rfl⟩ := List.mem_map.mp hd
    rfl
  · show (decide (1 ≤ (cs.map rd).length) && decide ((cs.map rd).length ≤ 12) && (cs.map rd).all ringB) = true
    rw [List.length_map, decide_eq_true h1, decide_eq_true h2, Bool.true_and, Bool.true_and, List.all_eq_true]
    intro d hd
    obtain ⟨c, hc, rfl⟩ := List.mem_map.mp hd
    have := h c hc
    exact ring_ok this.1 this.2.1 this.2.2.1 this.2.2.2
theorem rq_ok {cs : Ch} (h : Cv cs) (h1 : 1 ≤ cs.length) (h2 : cs.length ≤ 12) (C : Cells) : m_require_chain [chD cs] C = some (.ok .non C) := by
  unfold m_require_chain b_require_chain
  obtain ⟨q1, q2⟩ := chainB_ok h h1 h2
  simp only [↓xDef, ↓xSeq, ↓xDo, ↓xNext, ↓xRet, ↓xExp, ↓xIfS, ↓xAsg, ↓gN, ↓gT, ↓gsC, ↓gsN, ↓xV, ↓S.val, ↓S.bind, ↓S.opt, ↓x2, ↓x1, ↓xN, ↓xB, ↓xD, ↓xAnd, ↓xOr, ↓xNot, ↓xIf, ↓xAndV, ↓xOrV, ↓xNotV, ↓xChain, ↓aNil, ↓aCons, ↓xTup, ↓few, ↓xF, ↓xC, ↓xSetI, ↓xPar, ↓xCall, ↓xFrz, ↓xM, live, i2, dSub, dAdd, dMul, dMulA, dMod, dDiv, dLt, dLe, dGt, dGe, dIx, atI, dNeg, dAbs, dInt, dLen, dMin2, dMax2, dGcd, dTuple, ↓iR1, ↓iR2, ↓iV, items, ↓iEn, items1, nocel, nocels, List.map_cons, List.map_nil, List.getElem?_cons_zero, List.getElem?_cons_succ, List.getElem?_nil, List.set_cons_zero, List.set_cons_succ, List.length_cons, List.length_nil, List.replicate, List.cons_append, List.nil_append, Nat.reduceAdd, Nat.reduceSub, Bool.false_eq_true, if_true, if_false, Option.map_some, Option.bind_some, Option.bind_none, Bool.and_true, Bool.and_false, Bool.true_and, Bool.not_true, Bool.not_false, decide_true, decide_false, vw_n, vw_b, vw_i, vw_s, vw_u, vw_l, vw_o, ie_n, ie_b, ie_i, ie_s, ie_u, ie_l, ie_c, x10, x20, x21, x30, x31, x32, fin_b, fin_i, eq_ii, ne_ii, List.take_length, vw_k, ie_k, id_eq, Nat.reduceLeDiff, ↓xSl, ↓xAugI, ↓oE, ↓oNo, ↓xLs, ↓xExt, ↓iZp, ie_ch, is_chain_in C q1, q2, fin, nocel]
/-- a def whose first statement asks something of its first argument -/
theorem ask_first {n m : Nat} {T : SS} {f : Fn} {X : D} {as : List D} {C : Cells} (hX : isErr X = false) (h : f [X] C = some (.ok .non C)) : xDef n m (xSeq (xExp (xCall f (aCons (xV 0) aNil))) T) (X :: as) C = xDef n m T (X :: as) C := by
  unfold xDef
  by_cases hl : (X :: as).length = n
  · rw [if_pos hl, if_pos hl]
    have e : xSeq (xExp (xCall f (aCons (xV 0) aNil))) T (List.map some (X :: as) ++ List.replicate (m - n) none) C = T (List.map some (X :: as) ++ List.replicate (m - n) none) C := by
      simp only [xSeq, xExp, xDo, xCall, S.bind, aCons, xV, aNil, S.val, List.map_cons, List.cons_append, List.getElem?_cons_zero, hX, h, Bool.false_eq_true, if_false]
    rw [e]
  · rw [if_neg hl, if_neg hl]
theorem ask_first_ex {n m : Nat} {T : SS} {f : Fn} {X : D} {as : List D} {C : Cells} {c : Str} (hn : as.length + 1 = n) (hX : isErr X = false) (h : f [X] C = some (.ex c none C)) : xDef n m (xSeq (xExp (xCall f (aCons (xV 0) aNil))) T) (X :: as) C = some (.ex c none C) := by
  unfold xDef
  rw [if_pos (show (X :: as).length = n from hn)]
  simp only [xSeq, xExp, xDo, xCall, S.bind, aCons, xV, aNil, S.val, List.map_cons, List.cons_append, List.getElem?_cons_zero, hX, h, Bool.false_eq_true, if_false, List.take_length]
theorem all_map {α β : Type} {f g : α → β} {l : List α} (h : l.map f = l.map g) : ∀ d ∈ l, f d = g d := fun d hd => List.map_inj_left.mp h d hd
theorem nc_scr (ns : List Int) : nocel (.lst (ns.map D.int)) = true := by
  induction ns with
  | nil => rfl
  | cons x l ih => exact ih
theorem cutV_nc {n : Nat} {d : D} (h : nocel d = true) : Sm.cutV n (some d) = some d := if_pos h
theorem cutV_cutV (n : Nat) (x : Option D) : Sm.cutV n (Sm.cutV n x) = Sm.cutV n x := by
  cases x with
  | none => rfl
  | some d =>
    by_cases q : nocel d = true
    · rw [cutV_nc q, cutV_nc q]
    · cases d with
      | cel m =>
        have e : Sm.cutV n (some (.cel m)) = if m < n then some (.cel m) else none := rfl
        by_cases hm : m < n
        · rw [e, if_pos hm, e, if_pos hm]
        · rw [e, if_neg hm]
          rfl
      | _ =>
        first
          | exact absurd rfl q
          | (rw [show Sm.cutV n (some _) = none from if_neg q]
             rfl)

end Sk58
end
section
set_option maxRecDepth 100000
set_option maxHeartbeats 0
set_option exponentiation.threshold 1000000
namespace Sk58
open PySem L2 Sm
/-! ### calls with a wrong number -/
theorem isX {cs : Ch} : isErr (chD cs) = false := rfl
def n06 : List D := [.int (-1), .int 7, .bl true, .non, .str "1", .tup [.int 1], .int (10 ^ 40)]
def nin : List D := [.bl true, .non, .str "1", .tup [.int 1], .lst [], .int (10 ^ 60), .int (-(10 ^ 60))]
def n40 : List D := [.int (-1), .int 41, .bl false, .non, .str "0", .lst [.int 0], .int (10 ^ 40)]
def n10 : List D := [.int 0, .int 11, .int (-1), .bl true, .non, .str "2", .tup [.int 2]]
abbrev exN (d : D) (C : Cells) : Option (Sm.R D) := some (.ex "InvalidNumber" (some ("given", d)) C)
section
variable {X : D} (hX : isErr X = false) (hq : ∀ C, m_require_chain [X] C = some (.ok .non C))
include hX hq
theorem by_heap1 : ∀ C : Cells, C.length ≤ 2 → ∀ d ∈ n06, m_classes_by_heap [X, d, .non] C = exN d C := fun C hC d hd => by
  unfold m_classes_by_heap b_classes_by_heap
  rw [ask_first hX (hq C)]
  match C, hC with
  | [], _ => refine all_map (f := fun d => xDef 3 3 _ [X, d, .non] []) (g := fun d => exN d []) (l := n06) ?_ d hd; kernel_rfl
  | [u], _ => refine all_map (f := fun d => xDef 3 3 _ [X, d, .non] [u]) (g := fun d => exN d [u]) (l := n06) ?_ d hd; kernel_rfl
  | [u, w], _ => refine all_map (f := fun d => xDef 3 3 _ [X, d, .non] [u, w]) (g := fun d => exN d [u, w]) (l := n06) ?_ d hd; kernel_rfl
  | _ :: _ :: _ :: _, hC => exact absurd hC (by simp)
theorem by_heap2 : ∀ C : Cells, C.length ≤ 2 → ∀ d ∈ n06, m_classes_by_heap [X, .int 3, d] C = exN d C := fun C hC d hd => by
  unfold m_classes_by_heap b_classes_by_heap
  rw [ask_first hX (hq C)]
  match C, hC with
  | [], _ => refine all_map (f := fun d => xDef 3 3 _ [X, .int 3, d] []) (g := fun d => exN d []) (l := n06) ?_ d hd; kernel_rfl
  | [u], _ => refine all_map (f := fun d => xDef 3 3 _ [X, .int 3, d] [u]) (g := fun d => exN d [u]) (l := n06) ?_ d hd; kernel_rfl
  | [u, w], _ => refine all_map (f := fun d => xDef 3 3 _ [X, .int 3, d] [u, w]) (g := fun d => exN d [u, w]) (l := n06) ?_ d hd; kernel_rfl
  | _ :: _ :: _ :: _, hC => exact absurd hC (by simp)
theorem at_least1 : ∀ C : Cells, C.length ≤ 2 → ∀ d ∈ nin, m_classes_at_least [X, d, .non] C = exN d C := fun C hC d hd => by
  unfold m_classes_at_least b_classes_at_least
  rw [ask_first hX (hq C)]
  match C, hC with
  | [], _ => refine all_map (f := fun d => xDef 3 3 _ [X, d, .non] []) (g := fun d => exN d []) (l := nin) ?_ d hd; kernel_rfl
  | [u], _ => refine all_map (f := fun d => xDef 3 3 _ [X, d, .non] [u]) (g := fun d => exN d [u]) (l := nin) ?_ d hd; kernel_rfl
  | [u, w], _ => refine all_map (f := fun d => xDef 3 3 _ [X, d, .non] [u, w]) (g := fun d => exN d [u, w]) (l := nin) ?_ d hd; kernel_rfl
  | _ :: _ :: _ :: _, hC => exact absurd hC (by simp)
theorem at_least2 : ∀ C : Cells, C.length ≤ 2 → ∀ d ∈ n40, m_classes_at_least [X, .int 3, d] C = exN d C := fun C hC d hd => by
  unfold m_classes_at_least b_classes_at_least
  rw [ask_first hX (hq C)]
  match C, hC with
  | [], _ => refine all_map (f := fun d => xDef 3 3 _ [X, .int 3, d] []) (g := fun d => exN d []) (l := n40) ?_ d hd; kernel_rfl
  | [u], _ => refine all_map (f := fun d => xDef 3 3 _ [X, .int 3, d] [u]) (g := fun d => exN d [u]) (l := n40) ?_ d hd; kernel_rfl
  | [u, w], _ => refine all_map (f := fun d => xDef 3 3 _ [X, .int 3, d] [u, w]) (g := fun d => exN d [u, w]) (l := n40) ?_ d hd; kernel_rfl
  | _ :: _ :: _ :: _, hC => exact absurd hC (by simp)
theorem by_rich : ∀ C : Cells, C.length ≤ 2 → ∀ d ∈ nin, m_classes_by_richness [X, d] C = exN d C := fun C hC d hd => by
  unfold m_classes_by_richness b_classes_by_richness
  rw [ask_first hX (hq C)]
  match C, hC with
  | [], _ => refine all_map (f := fun d => xDef 2 2 _ [X, d] []) (g := fun d => exN d []) (l := nin) ?_ d hd; kernel_rfl
  | [u], _ => refine all_map (f := fun d => xDef 2 2 _ [X, d] [u]) (g := fun d => exN d [u]) (l := nin) ?_ d hd; kernel_rfl
  | [u, w], _ => refine all_map (f := fun d => xDef 2 2 _ [X, d] [u, w]) (g := fun d => exN d [u, w]) (l := nin) ?_ d hd; kernel_rfl
  | _ :: _ :: _ :: _, hC => exact absurd hC (by simp)
end
theorem doub1 : ∀ C : Cells, C.length ≤ 2 → ∀ d ∈ n10, m_doubled_fillings [d, .non] C = exN d C := fun C hC d hd => by
  match C, hC with
  | [], _ => refine all_map (f := fun d => m_doubled_fillings [d, .non] []) (g := fun d => exN d []) (l := n10) ?_ d hd; kernel_rfl
  | [u], _ => refine all_map (f := fun d => m_doubled_fillings [d, .non] [u]) (g := fun d => exN d [u]) (l := n10) ?_ d hd; kernel_rfl
  | [u, w], _ => refine all_map (f := fun d => m_doubled_fillings [d, .non] [u, w]) (g := fun d => exN d [u, w]) (l := n10) ?_ d hd; kernel_rfl
  | _ :: _ :: _ :: _, hC => exact absurd hC (by simp)
theorem doub2 : ∀ C : Cells, C.length ≤ 2 → ∀ d ∈ n10, m_doubled_fillings [.int 10, d] C = exN d C := fun C hC d hd => by
  match C, hC with
  | [], _ => refine all_map (f := fun d => m_doubled_fillings [.int 10, d] []) (g := fun d => exN d []) (l := n10) ?_ d hd; kernel_rfl
  | [u], _ => refine all_map (f := fun d => m_doubled_fillings [.int 10, d] [u]) (g := fun d => exN d [u]) (l := n10) ?_ d hd; kernel_rfl
  | [u, w], _ => refine all_map (f := fun d => m_doubled_fillings [.int 10, d] [u, w]) (g := fun d => exN d [u, w]) (l := n10) ?_ d hd; kernel_rfl
  | _ :: _ :: _ :: _, hC => exact absurd hC (by simp)
theorem heard1 : ∀ C : Cells, C.length ≤ 2 → ∀ d ∈ n06 ++ nin ++ n40 ++ n10, hearX 2 h__law_heard "InvalidNumber" (some ("given", d)) C = some (.ok (wd d) C) := fun C hC d hd => by
  match C, hC with
  | [], _ => refine all_map (f := fun d => hearX 2 h__law_heard "InvalidNumber" (some ("given", d)) []) (g := fun d => some (Sm.R.ok (wd d) [])) (l := n06 ++ nin ++ n40 ++ n10) ?_ d hd; kernel_rfl
  | [u], _ => refine all_map (f := fun d => hearX 2 h__law_heard "InvalidNumber" (some ("given", d)) [u]) (g := fun d => some (Sm.R.ok (wd d) [u])) (l := n06 ++ nin ++ n40 ++ n10) ?_ d hd; kernel_rfl
  | [u, w], _ => refine all_map (f := fun d => hearX 2 h__law_heard "InvalidNumber" (some ("given", d)) [u, w]) (g := fun d => some (Sm.R.ok (wd d) [u, w])) (l := n06 ++ nin ++ n40 ++ n10) ?_ d hd; kernel_rfl
  | _ :: _ :: _ :: _, hC => exact absurd hC (by simp)
theorem rep1 (C : Cells) : ∀ d ∈ n06 ++ nin ++ n40 ++ n10, ∃ x, dRepr d = some x ∧ dAdd (.str "number ") x = some (wd d) ∧ okE (wd d) 50 = true := fun d hd => by
  have h1 : (n06 ++ nin ++ n40 ++ n10).all (fun d => match dRepr d with
    | some x => (match dAdd (.str "number ") x with
      | some y => deq y (wd d) && okE (wd d) 50
      | none => false)
    | none => false) = true := by decide +kernel
  have h2 := List.all_eq_true.mp h1 d hd
  cases e : dRepr d with
  | none => rw [e] at h2; cases h2
  | some x =>
    rw [e] at h2
    cases e2 : dAdd (.str "number ") x with
    | none => simp only [e2] at h2; cases h2
    | some y =>
      simp only [e2, Bool.and_eq_true] at h2
      have := deq_eq _ _ h2.1
      subst this
      exact ⟨x, rfl, e2, h2.2⟩
/-! ### a heard call -/
theorem ear_num {s : S D} {env : Sm.Env} {C : Cells} {d : D} (hC : C.length ≤ 2) (hd : d ∈ n06 ++ nin ++ n40 ++ n10) (h : s env C = exN d C) : xEar 2 h__law_heard g__law_heard s env C = some (.ok (wd d) C) := ear_ex h (heard1 C hC d hd)
theorem in1 {d : D} (h : d ∈ n06) : d ∈ n06 ++ nin ++ n40 ++ n10 := by simp only [List.mem_append]; exact .inl (.inl (.inl h))
theorem in2 {d : D} (h : d ∈ nin) : d ∈ n06 ++ nin ++ n40 ++ n10 := by simp only [List.mem_append]; exact .inl (.inl (.inr h))
theorem in3 {d : D} (h : d ∈ n40) : d ∈ n06 ++ nin ++ n40 ++ n10 := by simp only [List.mem_append]; exact .inl (.inr h)
theorem in4 {d : D} (h : d ∈ n10) : d ∈ n06 ++ nin ++ n40 ++ n10 := by simp only [List.mem_append]; exact .inr h
theorem ie_all : ∀ d ∈ n06 ++ nin ++ n40 ++ n10, isErr d = false ∧ nocel d = true ∧ ∀ C, vw C d = d := fun d hd => by
  have h : (n06 ++ nin ++ n40 ++ n10).all (fun d => !isErr d && nocel d) = true := by decide +kernel
  have h := List.all_eq_true.mp h d hd
  simp only [Bool.and_eq_true, Bool.not_eq_true'] at h
  refine ⟨h.1, h.2, fun C => ?_⟩
  have h2 := h.2
  cases d <;> first | rfl | cases h2
theorem two_eq {d : D} {C : Cells} {n : Nat} (hc : C[n]? = some (some (.l [wd d, wd d]))) (h : okE (wd d) 50 = true) : dNe (vw C (.cel n)) (.lst [wd d, wd d]) = some (.bl false) := by
  rw [vw_c hc]
  have ok : okE (.lst [wd d, wd d]) 60 = true := by
    show (okE (wd d) 59 && (okE (wd d) 59 && true)) = true
    have : okE (wd d) 59 = true := h
    rw [this]
    rfl
  exact ne_self ok
theorem num_word {X d : D} (hd : d ∈ n06 ++ nin ++ n40 ++ n10) (o : Option D) (C : Cells) : x2 dAdd (S.val (.str "number ")) (xRepr (aCons (xV 1) (aNil))) [some X, some d, o] C = some (.ok (wd d) C) := by
  obtain ⟨x, r1, r2, r3⟩ := rep1 C d hd
  obtain ⟨hi, hn, hv⟩ := ie_all d hd
  have hx : vw C x = x := by
    unfold dRepr at r1
    split at r1
    · split at r1
      · cases r1; rfl
      · cases r1
    · cases r1
  have hs : vw C (.str "number ") = .str "number " := rfl
  simp only [x2, S.bind, S.val, xRepr, aCons, xV, aNil, S.opt, List.getElem?_cons_succ, List.getElem?_cons_zero, hi, r1, hx, hs, r2, Bool.false_eq_true, if_false]
theorem rep2 (d : D) : repL [wd d] (.int 2) = some [wd d, wd d] := rfl
theorem two_turn {X d : D} {s1 s2 : S D} {u : Option Ob} {o : Option D} {b : SS} (hb : b = xSeq (xAsg (xC (S.bind (aCons (xEar 2 h__law_heard g__law_heard s1) (aNil)) fun ds => S.opt (few id ds))) (gN 2)) (xSeq (xExp (xM mAppend (xV 2) (aCons (xEar 2 h__law_heard g__law_heard s2) (aNil)))) (xIfS (xB (x2 dNe (xV 2) (xF (xRepL (S.bind (aCons (x2 dAdd (S.val (.str "number ")) (xRepr (aCons (xV 1) (aNil)))) (aNil)) fun ds => S.opt (few id ds)) (S.val (.int 2)))))) (xRet (S.val (.bl false))) (xNext))))
    (hd : d ∈ n06 ++ nin ++ n40 ++ n10) (h1 : ∀ o C, C.length ≤ 2 → s1 [some X, some d, o] C = exN d C) (h2 : ∀ o C, C.length ≤ 2 → s2 [some X, some d, o] C = exN d C) : ∃ o2 C2, b [some X, some d, o] [u] = some (.nx [some X, some d, o2] (u :: C2)) := by
  obtain ⟨x, r1, r2, r3⟩ := rep1 [] d hd
  have e1 := ear_num (C := [u]) (by simp) hd (h1 o [u] (by simp))
  have e2 := ear_num (C := [u, some (.l [wd d])]) (env := [some X, some d, some (.cel 1)]) (by simp) hd (h2 _ _ (by simp))
  obtain ⟨hi, hn, hv⟩ := ie_all d hd
  have hdn := two_eq (C := [u, some (Ob.l [wd d, wd d])]) (n := 1) rfl r3
  refine ⟨some (.cel 1), [some (.l [wd d, wd d])], ?_⟩
  have f1 : xAsg (xC (S.bind (aCons (xEar 2 h__law_heard g__law_heard s1) (aNil)) fun ds => S.opt (few id ds))) (gN 2) [some X, some d, o] [u] = some (.nx [some X, some d, some (.cel 1)] [u, some (.l [wd d])]) := by
    simp only [↓xDef, ↓xSeq, ↓xDo, ↓xNext, ↓xRet, ↓xExp, ↓xIfS, ↓xAsg, ↓gN, ↓gT, ↓gsC, ↓gsN, ↓xV, ↓S.val, ↓S.bind, ↓S.opt, ↓x2, ↓x1, ↓xN, ↓xB, ↓xD, ↓xAnd, ↓xOr, ↓xNot, ↓xIf, ↓xAndV, ↓xOrV, ↓xNotV, ↓xChain, ↓aNil, ↓aCons, ↓xTup, ↓few, ↓xF, ↓xC, ↓xSetI, ↓xPar, ↓xCall, ↓xFrz, ↓xM, live, i2, dSub, dAdd, dMul, dMulA, dMod, dDiv, dLt, dLe, dGt, dGe, dIx, atI, dNeg, dAbs, dInt, dLen, dMin2, dMax2, dGcd, dTuple, ↓iR1, ↓iR2, ↓iV, items, ↓iEn, items1, nocel, nocels, List.map_cons, List.map_nil, List.getElem?_cons_zero, List.getElem?_cons_succ, List.getElem?_nil, List.set_cons_zero, List.set_cons_succ, List.length_cons, List.length_nil, List.replicate, List.cons_append, List.nil_append, Nat.reduceAdd, Nat.reduceSub, Bool.false_eq_true, if_true, if_false, Option.map_some, Option.bind_some, Option.bind_none, Bool.and_true, Bool.and_false, Bool.true_and, Bool.not_true, Bool.not_false, decide_true, decide_false, vw_n, vw_b, vw_i, vw_s, vw_u, vw_l, vw_o, ie_n, ie_b, ie_i, ie_s, ie_u, ie_l, ie_c, x10, x20, x21, x30, x31, x32, fin_b, fin_i, eq_ii, ne_ii, List.take_length, vw_k, ie_k, id_eq, Nat.reduceLeDiff, ↓xSl, ↓xAugI, ↓oE, ↓oNo, ↓xLs, ↓xExt, ↓iZp, e1]
    rfl
  have f2 : xExp (xM mAppend (xV 2) (aCons (xEar 2 h__law_heard g__law_heard s2) (aNil))) [some X, some d, some (.cel 1)] [u, some (.l [wd d])] = some (.nx [some X, some d, some (.cel 1)] [u, some (.l [wd d, wd d])]) := by
    simp only [↓xDef, ↓xSeq, ↓xDo, ↓xNext, ↓xRet, ↓xExp, ↓xIfS, ↓xAsg, ↓gN, ↓gT, ↓gsC, ↓gsN, ↓xV, ↓S.val, ↓S.bind, ↓S.opt, ↓x2, ↓x1, ↓xN, ↓xB, ↓xD, ↓xAnd, ↓xOr, ↓xNot, ↓xIf, ↓xAndV, ↓xOrV, ↓xNotV, ↓xChain, ↓aNil, ↓aCons, ↓xTup, ↓few, ↓xF, ↓xC, ↓xSetI, ↓xPar, ↓xCall, ↓xFrz, ↓xM, live, i2, dSub, dAdd, dMul, dMulA, dMod, dDiv, dLt, dLe, dGt, dGe, dIx, atI, dNeg, dAbs, dInt, dLen, dMin2, dMax2, dGcd, dTuple, ↓iR1, ↓iR2, ↓iV, items, ↓iEn, items1, nocel, nocels, List.map_cons, List.map_nil, List.getElem?_cons_zero, List.getElem?_cons_succ, List.getElem?_nil, List.set_cons_zero, List.set_cons_succ, List.length_cons, List.length_nil, List.replicate, List.cons_append, List.nil_append, Nat.reduceAdd, Nat.reduceSub, Bool.false_eq_true, if_true, if_false, Option.map_some, Option.bind_some, Option.bind_none, Bool.and_true, Bool.and_false, Bool.true_and, Bool.not_true, Bool.not_false, decide_true, decide_false, vw_n, vw_b, vw_i, vw_s, vw_u, vw_l, vw_o, ie_n, ie_b, ie_i, ie_s, ie_u, ie_l, ie_c, x10, x20, x21, x30, x31, x32, fin_b, fin_i, eq_ii, ne_ii, List.take_length, vw_k, ie_k, id_eq, Nat.reduceLeDiff, ↓xSl, ↓xAugI, ↓oE, ↓oNo, ↓xLs, ↓xExt, ↓iZp, e2]
    rfl
  subst hb
  have e3 := num_word (X := X) hd
  generalize x2 dAdd (S.val (.str "number ")) (xRepr (aCons (xV 1) (aNil))) = WW at e3 ⊢
  rw [sqE f1, sqE f2]
  simp only [↓xDef, ↓xSeq, ↓xDo, ↓xNext, ↓xRet, ↓xExp, ↓xIfS, ↓xAsg, ↓gN, ↓gT, ↓gsC, ↓gsN, ↓xV, ↓S.val, ↓S.bind, ↓S.opt, ↓x2, ↓x1, ↓xN, ↓xB, ↓xD, ↓xAnd, ↓xOr, ↓xNot, ↓xIf, ↓xAndV, ↓xOrV, ↓xNotV, ↓xChain, ↓aNil, ↓aCons, ↓xTup, ↓few, ↓xF, ↓xC, ↓xSetI, ↓xPar, ↓xCall, ↓xFrz, ↓xM, live, i2, dSub, dAdd, dMul, dMulA, dMod, dDiv, dLt, dLe, dGt, dGe, dIx, atI, dNeg, dAbs, dInt, dLen, dMin2, dMax2, dGcd, dTuple, ↓iR1, ↓iR2, ↓iV, items, ↓iEn, items1, nocel, nocels, List.map_cons, List.map_nil, List.getElem?_cons_zero, List.getElem?_cons_succ, List.getElem?_nil, List.set_cons_zero, List.set_cons_succ, List.length_cons, List.length_nil, List.replicate, List.cons_append, List.nil_append, Nat.reduceAdd, Nat.reduceSub, Bool.false_eq_true, if_true, if_false, Option.map_some, Option.bind_some, Option.bind_none, Bool.and_true, Bool.and_false, Bool.true_and, Bool.not_true, Bool.not_false, decide_true, decide_false, vw_n, vw_b, vw_i, vw_s, vw_u, vw_l, vw_o, ie_n, ie_b, ie_i, ie_s, ie_u, ie_l, ie_c, x10, x20, x21, x30, x31, x32, fin_b, fin_i, eq_ii, ne_ii, List.take_length, vw_k, ie_k, id_eq, Nat.reduceLeDiff, ↓xSl, ↓xAugI, ↓oE, ↓oNo, ↓xLs, ↓xExt, ↓iZp, xRepL, rep2, hdn, e3]
/-- one call with a wrong number -/
theorem one_turn {X d : D} {s1 : S D} {u : Option Ob} {o : Option D} {b : SS} (hb : b = xIfS (xB (x2 dNe (xEar 2 h__law_heard g__law_heard s1) (x2 dAdd (S.val (.str "number ")) (xRepr (aCons (xV 1) (aNil)))))) (xRet (S.val (.bl false))) (xNext))
    (hd : d ∈ n06 ++ nin ++ n40 ++ n10) (h1 : ∀ o C, C.length ≤ 2 → s1 [some X, some d, o] C = exN d C) : b [some X, some d, o] [u] = some (.nx [some X, some d, o] [u]) := by
  obtain ⟨x, r1, r2, r3⟩ := rep1 [] d hd
  have e1 := ear_num (C := [u]) (by simp) hd (h1 o [u] (by simp))
  obtain ⟨hi, hn, hv⟩ := ie_all d hd
  have ok : okE (wd d) 60 = true := r3
  have e3 : dNe (wd d) (wd d) = some (.bl false) := ne_self ok
  have hw : vw [u] (wd d) = wd d := rfl
  subst hb
  have e4 := num_word (X := X) hd
  generalize x2 dAdd (S.val (.str "number ")) (xRepr (aCons (xV 1) (aNil))) = WW at e4 ⊢
  simp only [↓xDef, ↓xSeq, ↓xDo, ↓xNext, ↓xRet, ↓xExp, ↓xIfS, ↓xAsg, ↓gN, ↓gT, ↓gsC, ↓gsN, ↓xV, ↓S.val, ↓S.bind, ↓S.opt, ↓x2, ↓x1, ↓xN, ↓xB, ↓xD, ↓xAnd, ↓xOr, ↓xNot, ↓xIf, ↓xAndV, ↓xOrV, ↓xNotV, ↓xChain, ↓aNil, ↓aCons, ↓xTup, ↓few, ↓xF, ↓xC, ↓xSetI, ↓xPar, ↓xCall, ↓xFrz, ↓xM, live, i2, dSub, dAdd, dMul, dMulA, dMod, dDiv, dLt, dLe, dGt, dGe, dIx, atI, dNeg, dAbs, dInt, dLen, dMin2, dMax2, dGcd, dTuple, ↓iR1, ↓iR2, ↓iV, items, ↓iEn, items1, nocel, nocels, List.map_cons, List.map_nil, List.getElem?_cons_zero, List.getElem?_cons_succ, List.getElem?_nil, List.set_cons_zero, List.set_cons_succ, List.length_cons, List.length_nil, List.replicate, List.cons_append, List.nil_append, Nat.reduceAdd, Nat.reduceSub, Bool.false_eq_true, if_true, if_false, Option.map_some, Option.bind_some, Option.bind_none, Bool.and_true, Bool.and_false, Bool.true_and, Bool.not_true, Bool.not_false, decide_true, decide_false, vw_n, vw_b, vw_i, vw_s, vw_u, vw_l, vw_o, ie_n, ie_b, ie_i, ie_s, ie_u, ie_l, ie_c, x10, x20, x21, x30, x31, x32, fin_b, fin_i, eq_ii, ne_ii, List.take_length, vw_k, ie_k, id_eq, Nat.reduceLeDiff, ↓xSl, ↓xAugI, ↓oE, ↓oNo, ↓xLs, ↓xExt, ↓iZp, e1, hw, e3, e4]
theorem numbers_right {X : D} (hX : isErr X = false) (hn : nocel X = true) (hq : ∀ C, m_require_chain [X] C = some (.ok .non C)) (u : Option Ob) : m__law_numbers_right [X] [u] = some (.ok (.bl true) [u]) := by
  have cx : Sm.cutV 1 (some X) = some X := if_pos hn
  let P : Sm.Env → Cells → Prop := fun e C => C = [u] ∧ ∃ x1 x2, e = [some X, x1, x2]
  have P0 : ∀ {e C}, P e C → P (cutE 1 e) C := fun {e C} ⟨h1, x1, x2, h2⟩ => ⟨h1, Sm.cutV 1 x1, Sm.cutV 1 x2, by subst h2; show [Sm.cutV 1 (some X), _, _] = _; rw [cx]⟩
  have lp4 : ∀ {it : SW} {b : SS} {ds : List D} {e : Sm.Env}, (∃ x1 x2, e = [some X, x1, x2]) → it e [u] = some (.ok (ds, gd0) [u]) → (∀ d ∈ ds, nocel d = true) → (∀ d ∈ ds, ∀ o, ∃ o2 C2, b [some X, some d, o] [u] = some (.nx [some X, some d, o2] (u :: C2))) → ∃ x1 x2, xForC it (gN 1) b e [u] = some (.nx [some X, x1, x2] [u]) := by
    rintro it b ds e he hi hn hb
    obtain ⟨x1, x2, he⟩ := he
    obtain ⟨e2, C2, h1, h2, x3, x4, h3⟩ := forC_all (i := 1) (b := b) P hi hn (P0 ⟨rfl, x1, x2, he⟩) fun d hd e C ⟨g1, y1, y2, g2⟩ => by
      subst g1 g2
      obtain ⟨o2, C2, g3⟩ := hb d hd y2
      exact ⟨_, u :: C2, g3, (show P (cutE 1 [some X, some d, o2]) ((u :: C2).take 1) from P0 ⟨rfl, some d, o2, rfl⟩)⟩
    subst h2 h3
    exact ⟨x3, x4, h1⟩
  obtain ⟨a1, a2, s1⟩ : ∃ x1 x2, s1__law_numbers_right [some X, none, none] [u] = some (.nx [some X, x1, x2] [u]) := by
    unfold s1__law_numbers_right q4__law_numbers_right
    refine lp4 ⟨_, _, rfl⟩ (ds := n06) (by kernel_rfl) (fun d hd => (ie_all d (in1 hd)).2.1) fun d hd o => two_turn rfl (in1 hd) (fun o C hC => ?_) fun o C hC => ?_
    · have := by_heap1 hX hq C hC d hd
      unfold q1__law_numbers_right
      simp only [↓xDef, ↓xSeq, ↓xDo, ↓xNext, ↓xRet, ↓xExp, ↓xIfS, ↓xAsg, ↓gN, ↓gT, ↓gsC, ↓gsN, ↓xV, ↓S.val, ↓S.bind, ↓S.opt, ↓x2, ↓x1, ↓xN, ↓xB, ↓xD, ↓xAnd, ↓xOr, ↓xNot, ↓xIf, ↓xAndV, ↓xOrV, ↓xNotV, ↓xChain, ↓aNil, ↓aCons, ↓xTup, ↓few, ↓xF, ↓xC, ↓xSetI, ↓xPar, ↓xCall, ↓xFrz, ↓xM, live, i2, dSub, dAdd, dMul, dMulA, dMod, dDiv, dLt, dLe, dGt, dGe, dIx, atI, dNeg, dAbs, dInt, dLen, dMin2, dMax2, dGcd, dTuple, ↓iR1, ↓iR2, ↓iV, items, ↓iEn, items1, nocel, nocels, List.map_cons, List.map_nil, List.getElem?_cons_zero, List.getElem?_cons_succ, List.getElem?_nil, List.set_cons_zero, List.set_cons_succ, List.length_cons, List.length_nil, List.replicate, List.cons_append, List.nil_append, Nat.reduceAdd, Nat.reduceSub, Bool.false_eq_true, if_true, if_false, Option.map_some, Option.bind_some, Option.bind_none, Bool.and_true, Bool.and_false, Bool.true_and, Bool.not_true, Bool.not_false, decide_true, decide_false, vw_n, vw_b, vw_i, vw_s, vw_u, vw_l, vw_o, ie_n, ie_b, ie_i, ie_s, ie_u, ie_l, ie_c, x10, x20, x21, x30, x31, x32, fin_b, fin_i, eq_ii, ne_ii, List.take_length, vw_k, ie_k, id_eq, Nat.reduceLeDiff, ↓xSl, ↓xAugI, ↓oE, ↓oNo, ↓xLs, ↓xExt, ↓iZp, hX, (ie_all d (in1 hd)).1, this]
    · have := by_heap2 hX hq C hC d hd
      unfold q2__law_numbers_right
      simp only [↓xDef, ↓xSeq, ↓xDo, ↓xNext, ↓xRet, ↓xExp, ↓xIfS, ↓xAsg, ↓gN, ↓gT, ↓gsC, ↓gsN, ↓xV, ↓S.val, ↓S.bind, ↓S.opt, ↓x2, ↓x1, ↓xN, ↓xB, ↓xD, ↓xAnd, ↓xOr, ↓xNot, ↓xIf, ↓xAndV, ↓xOrV, ↓xNotV, ↓xChain, ↓aNil, ↓aCons, ↓xTup, ↓few, ↓xF, ↓xC, ↓xSetI, ↓xPar, ↓xCall, ↓xFrz, ↓xM, live, i2, dSub, dAdd, dMul, dMulA, dMod, dDiv, dLt, dLe, dGt, dGe, dIx, atI, dNeg, dAbs, dInt, dLen, dMin2, dMax2, dGcd, dTuple, ↓iR1, ↓iR2, ↓iV, items, ↓iEn, items1, nocel, nocels, List.map_cons, List.map_nil, List.getElem?_cons_zero, List.getElem?_cons_succ, List.getElem?_nil, List.set_cons_zero, List.set_cons_succ, List.length_cons, List.length_nil, List.replicate, List.cons_append, List.nil_append, Nat.reduceAdd, Nat.reduceSub, Bool.false_eq_true, if_true, if_false, Option.map_some, Option.bind_some, Option.bind_none, Bool.and_true, Bool.and_false, Bool.true_and, Bool.not_true, Bool.not_false, decide_true, decide_false, vw_n, vw_b, vw_i, vw_s, vw_u, vw_l, vw_o, ie_n, ie_b, ie_i, ie_s, ie_u, ie_l, ie_c, x10, x20, x21, x30, x31, x32, fin_b, fin_i, eq_ii, ne_ii, List.take_length, vw_k, ie_k, id_eq, Nat.reduceLeDiff, ↓xSl, ↓xAugI, ↓oE, ↓oNo, ↓xLs, ↓xExt, ↓iZp, hX, (ie_all d (in1 hd)).1, this]
  obtain ⟨b1, b2, s2⟩ : ∃ x1 x2, s2__law_numbers_right [some X, a1, a2] [u] = some (.nx [some X, x1, x2] [u]) := by
    unfold s2__law_numbers_right q8__law_numbers_right
    refine lp4 ⟨_, _, rfl⟩ (ds := nin) (by kernel_rfl) (fun d hd => (ie_all d (in2 hd)).2.1) fun d hd o => two_turn rfl (in2 hd) (fun o C hC => ?_) fun o C hC => ?_
    · have := at_least1 hX hq C hC d hd
      unfold q5__law_numbers_right
      simp only [↓xDef, ↓xSeq, ↓xDo, ↓xNext, ↓xRet, ↓xExp, ↓xIfS, ↓xAsg, ↓gN, ↓gT, ↓gsC, ↓gsN, ↓xV, ↓S.val, ↓S.bind, ↓S.opt, ↓x2, ↓x1, ↓xN, ↓xB, ↓xD, ↓xAnd, ↓xOr, ↓xNot, ↓xIf, ↓xAndV, ↓xOrV, ↓xNotV, ↓xChain, ↓aNil, ↓aCons, ↓xTup, ↓few, ↓xF, ↓xC, ↓xSetI, ↓xPar, ↓xCall, ↓xFrz, ↓xM, live, i2, dSub, dAdd, dMul, dMulA, dMod, dDiv, dLt, dLe, dGt, dGe, dIx, atI, dNeg, dAbs, dInt, dLen, dMin2, dMax2, dGcd, dTuple, ↓iR1, ↓iR2, ↓iV, items, ↓iEn, items1, nocel, nocels, List.map_cons, List.map_nil, List.getElem?_cons_zero, List.getElem?_cons_succ, List.getElem?_nil, List.set_cons_zero, List.set_cons_succ, List.length_cons, List.length_nil, List.replicate, List.cons_append, List.nil_append, Nat.reduceAdd, Nat.reduceSub, Bool.false_eq_true, if_true, if_false, Option.map_some, Option.bind_some, Option.bind_none, Bool.and_true, Bool.and_false, Bool.true_and, Bool.not_true, Bool.not_false, decide_true, decide_false, vw_n, vw_b, vw_i, vw_s, vw_u, vw_l, vw_o, ie_n, ie_b, ie_i, ie_s, ie_u, ie_l, ie_c, x10, x20, x21, x30, x31, x32, fin_b, fin_i, eq_ii, ne_ii, List.take_length, vw_k, ie_k, id_eq, Nat.reduceLeDiff, ↓xSl, ↓xAugI, ↓oE, ↓oNo, ↓xLs, ↓xExt, ↓iZp, hX, (ie_all d (in2 hd)).1, this]
    · have := by_rich hX hq C hC d hd
      unfold q6__law_numbers_right
      simp only [↓xDef, ↓xSeq, ↓xDo, ↓xNext, ↓xRet, ↓xExp, ↓xIfS, ↓xAsg, ↓gN, ↓gT, ↓gsC, ↓gsN, ↓xV, ↓S.val, ↓S.bind, ↓S.opt, ↓x2, ↓x1, ↓xN, ↓xB, ↓xD, ↓xAnd, ↓xOr, ↓xNot, ↓xIf, ↓xAndV, ↓xOrV, ↓xNotV, ↓xChain, ↓aNil, ↓aCons, ↓xTup, ↓few, ↓xF, ↓xC, ↓xSetI, ↓xPar, ↓xCall, ↓xFrz, ↓xM, live, i2, dSub, dAdd, dMul, dMulA, dMod, dDiv, dLt, dLe, dGt, dGe, dIx, atI, dNeg, dAbs, dInt, dLen, dMin2, dMax2, dGcd, dTuple, ↓iR1, ↓iR2, ↓iV, items, ↓iEn, items1, nocel, nocels, List.map_cons, List.map_nil, List.getElem?_cons_zero, List.getElem?_cons_succ, List.getElem?_nil, List.set_cons_zero, List.set_cons_succ, List.length_cons, List.length_nil, List.replicate, List.cons_append, List.nil_append, Nat.reduceAdd, Nat.reduceSub, Bool.false_eq_true, if_true, if_false, Option.map_some, Option.bind_some, Option.bind_none, Bool.and_true, Bool.and_false, Bool.true_and, Bool.not_true, Bool.not_false, decide_true, decide_false, vw_n, vw_b, vw_i, vw_s, vw_u, vw_l, vw_o, ie_n, ie_b, ie_i, ie_s, ie_u, ie_l, ie_c, x10, x20, x21, x30, x31, x32, fin_b, fin_i, eq_ii, ne_ii, List.take_length, vw_k, ie_k, id_eq, Nat.reduceLeDiff, ↓xSl, ↓xAugI, ↓oE, ↓oNo, ↓xLs, ↓xExt, ↓iZp, hX, (ie_all d (in2 hd)).1, this]
  obtain ⟨c1, c2, s3⟩ : ∃ x1 x2, s3__law_numbers_right [some X, b1, b2] [u] = some (.nx [some X, x1, x2] [u]) := by
    unfold s3__law_numbers_right q11__law_numbers_right
    refine lp4 ⟨_, _, rfl⟩ (ds := n40) (by kernel_rfl) (fun d hd => (ie_all d (in3 hd)).2.1) fun d hd o => ⟨o, [], one_turn rfl (in3 hd) (fun o C hC => ?_)⟩
    · have := at_least2 hX hq C hC d hd
      unfold q9__law_numbers_right
      simp only [↓xDef, ↓xSeq, ↓xDo, ↓xNext, ↓xRet, ↓xExp, ↓xIfS, ↓xAsg, ↓gN, ↓gT, ↓gsC, ↓gsN, ↓xV, ↓S.val, ↓S.bind, ↓S.opt, ↓x2, ↓x1, ↓xN, ↓xB, ↓xD, ↓xAnd, ↓xOr, ↓xNot, ↓xIf, ↓xAndV, ↓xOrV, ↓xNotV, ↓xChain, ↓aNil, ↓aCons, ↓xTup, ↓few, ↓xF, ↓xC, ↓xSetI, ↓xPar, ↓xCall, ↓xFrz, ↓xM, live, i2, dSub, dAdd, dMul, dMulA, dMod, dDiv, dLt, dLe, dGt, dGe, dIx, atI, dNeg, dAbs, dInt, dLen, dMin2, dMax2, dGcd, dTuple, ↓iR1, ↓iR2, ↓iV, items, ↓iEn, items1, nocel, nocels, List.map_cons, List.map_nil, List.getElem?_cons_zero, List.getElem?_cons_succ, List.getElem?_nil, List.set_cons_zero, List.set_cons_succ, List.length_cons, List.length_nil, List.replicate, List.cons_append, List.nil_append, Nat.reduceAdd, Nat.reduceSub, Bool.false_eq_true, if_true, if_false, Option.map_some, Option.bind_some, Option.bind_none, Bool.and_true, Bool.and_false, Bool.true_and, Bool.not_true, Bool.not_false, decide_true, decide_false, vw_n, vw_b, vw_i, vw_s, vw_u, vw_l, vw_o, ie_n, ie_b, ie_i, ie_s, ie_u, ie_l, ie_c, x10, x20, x21, x30, x31, x32, fin_b, fin_i, eq_ii, ne_ii, List.take_length, vw_k, ie_k, id_eq, Nat.reduceLeDiff, ↓xSl, ↓xAugI, ↓oE, ↓oNo, ↓xLs, ↓xExt, ↓iZp, hX, (ie_all d (in3 hd)).1, this]
  obtain ⟨d1, d2, s4⟩ : ∃ x1 x2, s4__law_numbers_right [some X, c1, c2] [u] = some (.nx [some X, x1, x2] [u]) := by
    unfold s4__law_numbers_right q15__law_numbers_right
    refine lp4 ⟨_, _, rfl⟩ (ds := n10) (by kernel_rfl) (fun d hd => (ie_all d (in4 hd)).2.1) fun d hd o => two_turn rfl (in4 hd) (fun o C hC => ?_) fun o C hC => ?_
    · have := doub1 C hC d hd
      unfold q12__law_numbers_right
      simp only [↓xDef, ↓xSeq, ↓xDo, ↓xNext, ↓xRet, ↓xExp, ↓xIfS, ↓xAsg, ↓gN, ↓gT, ↓gsC, ↓gsN, ↓xV, ↓S.val, ↓S.bind, ↓S.opt, ↓x2, ↓x1, ↓xN, ↓xB, ↓xD, ↓xAnd, ↓xOr, ↓xNot, ↓xIf, ↓xAndV, ↓xOrV, ↓xNotV, ↓xChain, ↓aNil, ↓aCons, ↓xTup, ↓few, ↓xF, ↓xC, ↓xSetI, ↓xPar, ↓xCall, ↓xFrz, ↓xM, live, i2, dSub, dAdd, dMul, dMulA, dMod, dDiv, dLt, dLe, dGt, dGe, dIx, atI, dNeg, dAbs, dInt, dLen, dMin2, dMax2, dGcd, dTuple, ↓iR1, ↓iR2, ↓iV, items, ↓iEn, items1, nocel, nocels, List.map_cons, List.map_nil, List.getElem?_cons_zero, List.getElem?_cons_succ, List.getElem?_nil, List.set_cons_zero, List.set_cons_succ, List.length_cons, List.length_nil, List.replicate, List.cons_append, List.nil_append, Nat.reduceAdd, Nat.reduceSub, Bool.false_eq_true, if_true, if_false, Option.map_some, Option.bind_some, Option.bind_none, Bool.and_true, Bool.and_false, Bool.true_and, Bool.not_true, Bool.not_false, decide_true, decide_false, vw_n, vw_b, vw_i, vw_s, vw_u, vw_l, vw_o, ie_n, ie_b, ie_i, ie_s, ie_u, ie_l, ie_c, x10, x20, x21, x30, x31, x32, fin_b, fin_i, eq_ii, ne_ii, List.take_length, vw_k, ie_k, id_eq, Nat.reduceLeDiff, ↓xSl, ↓xAugI, ↓oE, ↓oNo, ↓xLs, ↓xExt, ↓iZp, hX, (ie_all d (in4 hd)).1, this]
    · have := doub2 C hC d hd
      unfold q13__law_numbers_right
      simp only [↓xDef, ↓xSeq, ↓xDo, ↓xNext, ↓xRet, ↓xExp, ↓xIfS, ↓xAsg, ↓gN, ↓gT, ↓gsC, ↓gsN, ↓xV, ↓S.val, ↓S.bind, ↓S.opt, ↓x2, ↓x1, ↓xN, ↓xB, ↓xD, ↓xAnd, ↓xOr, ↓xNot, ↓xIf, ↓xAndV, ↓xOrV, ↓xNotV, ↓xChain, ↓aNil, ↓aCons, ↓xTup, ↓few, ↓xF, ↓xC, ↓xSetI, ↓xPar, ↓xCall, ↓xFrz, ↓xM, live, i2, dSub, dAdd, dMul, dMulA, dMod, dDiv, dLt, dLe, dGt, dGe, dIx, atI, dNeg, dAbs, dInt, dLen, dMin2, dMax2, dGcd, dTuple, ↓iR1, ↓iR2, ↓iV, items, ↓iEn, items1, nocel, nocels, List.map_cons, List.map_nil, List.getElem?_cons_zero, List.getElem?_cons_succ, List.getElem?_nil, List.set_cons_zero, List.set_cons_succ, List.length_cons, List.length_nil, List.replicate, List.cons_append, List.nil_append, Nat.reduceAdd, Nat.reduceSub, Bool.false_eq_true, if_true, if_false, Option.map_some, Option.bind_some, Option.bind_none, Bool.and_true, Bool.and_false, Bool.true_and, Bool.not_true, Bool.not_false, decide_true, decide_false, vw_n, vw_b, vw_i, vw_s, vw_u, vw_l, vw_o, ie_n, ie_b, ie_i, ie_s, ie_u, ie_l, ie_c, x10, x20, x21, x30, x31, x32, fin_b, fin_i, eq_ii, ne_ii, List.take_length, vw_k, ie_k, id_eq, Nat.reduceLeDiff, ↓xSl, ↓xAugI, ↓oE, ↓oNo, ↓xLs, ↓xExt, ↓iZp, hX, (ie_all d (in4 hd)).1, this]
  refine def_ret (n := 1) (m := 3) (b := b__law_numbers_right) (as := [X]) (C' := [u]) rfl ?_ rfl
  show b__law_numbers_right [some X, none, none] [u] = _
  unfold b__law_numbers_right
  rw [sqE s1, sqE s2, sqE s3, sqE s4]
  rfl
end Sk58
end
section
set_option maxRecDepth 100000
set_option maxHeartbeats 0
set_option exponentiation.threshold 1000000
namespace Sk58
open PySem L2 Sm
/-! ### no chains -/
def nch (a s : Int) : List D := [.non, .int 7, .tup [], .str "chain", rg a s, .lst [rg a s], .tup (List.replicate 13 (rg a s)), .tup [rg 1 1], .tup [rg 61 1], .tup [rg 5 5], .tup [rg 5 0], .tup [.lst [.int a, .int s]],
  .tup [.tup [.int a, .bl true]], .tup [rg a s, .non], .tup [.tup [.int 5, .int 1, .int 1]], .tup [.tup [.int 5]], .dk [.inl 0] [rg a s], .tup [.tup [.str "5", .int 1]], .tup [rg (10 ^ 60) 1]]
theorem nch_bad (a s : Int) : ∀ d ∈ nch a s, typedC d = true ∧ chainB d = false ∧ isErr d = false ∧ nocel d = true := fun d hd => by
  simp only [nch, List.mem_cons, List.not_mem_nil, or_false] at hd
  rcases hd with rfl | rfl | rfl | rfl | rfl | rfl | rfl | rfl | rfl | rfl | rfl | rfl | rfl | rfl | rfl | rfl | rfl | rfl | rfl
  all_goals refine ⟨rfl, ?_, rfl, rfl⟩
  all_goals first | rfl | simp [chainB, ringB, withinB]
theorem no_chains {a b c : Int} {k : Nat} (V : Vd a b c k) (hk : k ≤ 1000) : ∃ n s a' b' c', m__law_no_chains [.cel 0] [dc a b c] = some (.ok (.lst (nch n s)) [dc a' b' c']) ∧ Vd a' b' c' (k + 2) := by
  obtain ⟨n, s, C', e, h1, h2, h3, h4, hl, hD⟩ := ring_made (m := 9) (V.toDc []) (by omega) (by decide) (by decide)
  obtain ⟨a', b', c', rfl, V'⟩ := hD.one hl
  refine ⟨n, s, a', b', c', ?_, V'⟩
  refine def_ret (n := 1) (m := 3) (b := b__law_no_chains) (as := [.cel 0]) (C' := [dc a' b' c']) rfl ?_ rfl
  show b__law_no_chains [some (.cel 0), none, none] [dc a b c] = _
  unfold b__law_no_chains
  rw [sqE (asg_call (C1 := [dc a b c]) (as := [.cel 0, .int 9]) (by kernel_rfl) e)]
  kernel_rfl
theorem ear_ch {s : S D} {env : Sm.Env} {C : Cells} (h : s env C = some (.ex "InvalidChain" none C)) : xEar 2 h__law_heard g__law_heard s env C = some (.ok (.str "chain") C) := ear_ex h rfl
theorem chain_right {X d : D} (u : Option Ob) (h : typedC d = true ∧ chainB d = false ∧ isErr d = false ∧ nocel d = true) : m__law_chain_right [X, d] [u] = some (.ok (.bl true) [u]) := by
  obtain ⟨h1, h2, h3, h4⟩ := h
  have c1 : ∀ x C, q1__law_chain_right [some X, some d, x] C = some (.ex "InvalidChain" none C) := fun x C => by
    have e : m_classes_by_heap [d, .non, .non] C = some (.ex "InvalidChain" none C) := ask_first_ex rfl h3 (rq_bad C h1 h2)
    unfold q1__law_chain_right
    simp only [↓xDef, ↓xSeq, ↓xDo, ↓xNext, ↓xRet, ↓xExp, ↓xIfS, ↓xAsg, ↓gN, ↓gT, ↓gsC, ↓gsN, ↓xV, ↓S.val, ↓S.bind, ↓S.opt, ↓x2, ↓x1, ↓xN, ↓xB, ↓xD, ↓xAnd, ↓xOr, ↓xNot, ↓xIf, ↓xAndV, ↓xOrV, ↓xNotV, ↓xChain, ↓aNil, ↓aCons, ↓xTup, ↓few, ↓xF, ↓xC, ↓xSetI, ↓xPar, ↓xCall, ↓xFrz, ↓xM, live, i2, dSub, dAdd, dMul, dMulA, dMod, dDiv, dLt, dLe, dGt, dGe, dIx, atI, dNeg, dAbs, dInt, dLen, dMin2, dMax2, dGcd, dTuple, ↓iR1, ↓iR2, ↓iV, items, ↓iEn, items1, nocel, nocels, List.map_cons, List.map_nil, List.getElem?_cons_zero, List.getElem?_cons_succ, List.getElem?_nil, List.set_cons_zero, List.set_cons_succ, List.length_cons, List.length_nil, List.replicate, List.cons_append, List.nil_append, Nat.reduceAdd, Nat.reduceSub, Bool.false_eq_true, if_true, if_false, Option.map_some, Option.bind_some, Option.bind_none, Bool.and_true, Bool.and_false, Bool.true_and, Bool.not_true, Bool.not_false, decide_true, decide_false, vw_n, vw_b, vw_i, vw_s, vw_u, vw_l, vw_o, ie_n, ie_b, ie_i, ie_s, ie_u, ie_l, ie_c, x10, x20, x21, x30, x31, x32, fin_b, fin_i, eq_ii, ne_ii, List.take_length, vw_k, ie_k, id_eq, Nat.reduceLeDiff, ↓xSl, ↓xAugI, ↓oE, ↓oNo, ↓xLs, ↓xExt, ↓iZp, h3, e]
  have c2 : ∀ x C, q2__law_chain_right [some X, some d, x] C = some (.ex "InvalidChain" none C) := fun x C => by
    have e : m_classes_at_least [d, .non, .non] C = some (.ex "InvalidChain" none C) := ask_first_ex rfl h3 (rq_bad C h1 h2)
    unfold q2__law_chain_right
    simp only [↓xDef, ↓xSeq, ↓xDo, ↓xNext, ↓xRet, ↓xExp, ↓xIfS, ↓xAsg, ↓gN, ↓gT, ↓gsC, ↓gsN, ↓xV, ↓S.val, ↓S.bind, ↓S.opt, ↓x2, ↓x1, ↓xN, ↓xB, ↓xD, ↓xAnd, ↓xOr, ↓xNot, ↓xIf, ↓xAndV, ↓xOrV, ↓xNotV, ↓xChain, ↓aNil, ↓aCons, ↓xTup, ↓few, ↓xF, ↓xC, ↓xSetI, ↓xPar, ↓xCall, ↓xFrz, ↓xM, live, i2, dSub, dAdd, dMul, dMulA, dMod, dDiv, dLt, dLe, dGt, dGe, dIx, atI, dNeg, dAbs, dInt, dLen, dMin2, dMax2, dGcd, dTuple, ↓iR1, ↓iR2, ↓iV, items, ↓iEn, items1, nocel, nocels, List.map_cons, List.map_nil, List.getElem?_cons_zero, List.getElem?_cons_succ, List.getElem?_nil, List.set_cons_zero, List.set_cons_succ, List.length_cons, List.length_nil, List.replicate, List.cons_append, List.nil_append, Nat.reduceAdd, Nat.reduceSub, Bool.false_eq_true, if_true, if_false, Option.map_some, Option.bind_some, Option.bind_none, Bool.and_true, Bool.and_false, Bool.true_and, Bool.not_true, Bool.not_false, decide_true, decide_false, vw_n, vw_b, vw_i, vw_s, vw_u, vw_l, vw_o, ie_n, ie_b, ie_i, ie_s, ie_u, ie_l, ie_c, x10, x20, x21, x30, x31, x32, fin_b, fin_i, eq_ii, ne_ii, List.take_length, vw_k, ie_k, id_eq, Nat.reduceLeDiff, ↓xSl, ↓xAugI, ↓oE, ↓oNo, ↓xLs, ↓xExt, ↓iZp, h3, e]
  have c3 : ∀ x C, q3__law_chain_right [some X, some d, x] C = some (.ex "InvalidChain" none C) := fun x C => by
    have e : m_classes_by_richness [d, .non] C = some (.ex "InvalidChain" none C) := ask_first_ex rfl h3 (rq_bad C h1 h2)
    unfold q3__law_chain_right
    simp only [↓xDef, ↓xSeq, ↓xDo, ↓xNext, ↓xRet, ↓xExp, ↓xIfS, ↓xAsg, ↓gN, ↓gT, ↓gsC, ↓gsN, ↓xV, ↓S.val, ↓S.bind, ↓S.opt, ↓x2, ↓x1, ↓xN, ↓xB, ↓xD, ↓xAnd, ↓xOr, ↓xNot, ↓xIf, ↓xAndV, ↓xOrV, ↓xNotV, ↓xChain, ↓aNil, ↓aCons, ↓xTup, ↓few, ↓xF, ↓xC, ↓xSetI, ↓xPar, ↓xCall, ↓xFrz, ↓xM, live, i2, dSub, dAdd, dMul, dMulA, dMod, dDiv, dLt, dLe, dGt, dGe, dIx, atI, dNeg, dAbs, dInt, dLen, dMin2, dMax2, dGcd, dTuple, ↓iR1, ↓iR2, ↓iV, items, ↓iEn, items1, nocel, nocels, List.map_cons, List.map_nil, List.getElem?_cons_zero, List.getElem?_cons_succ, List.getElem?_nil, List.set_cons_zero, List.set_cons_succ, List.length_cons, List.length_nil, List.replicate, List.cons_append, List.nil_append, Nat.reduceAdd, Nat.reduceSub, Bool.false_eq_true, if_true, if_false, Option.map_some, Option.bind_some, Option.bind_none, Bool.and_true, Bool.and_false, Bool.true_and, Bool.not_true, Bool.not_false, decide_true, decide_false, vw_n, vw_b, vw_i, vw_s, vw_u, vw_l, vw_o, ie_n, ie_b, ie_i, ie_s, ie_u, ie_l, ie_c, x10, x20, x21, x30, x31, x32, fin_b, fin_i, eq_ii, ne_ii, List.take_length, vw_k, ie_k, id_eq, Nat.reduceLeDiff, ↓xSl, ↓xAugI, ↓oE, ↓oNo, ↓xLs, ↓xExt, ↓iZp, h3, e]
  have f1 : s1__law_chain_right [some X, some d, none] [u] = some (.nx [some X, some d, some (.cel 1)] [u, some (.l [.str "chain"])]) := by
    unfold s1__law_chain_right
    simp only [↓xDef, ↓xSeq, ↓xDo, ↓xNext, ↓xRet, ↓xExp, ↓xIfS, ↓xAsg, ↓gN, ↓gT, ↓gsC, ↓gsN, ↓xV, ↓S.val, ↓S.bind, ↓S.opt, ↓x2, ↓x1, ↓xN, ↓xB, ↓xD, ↓xAnd, ↓xOr, ↓xNot, ↓xIf, ↓xAndV, ↓xOrV, ↓xNotV, ↓xChain, ↓aNil, ↓aCons, ↓xTup, ↓few, ↓xF, ↓xC, ↓xSetI, ↓xPar, ↓xCall, ↓xFrz, ↓xM, live, i2, dSub, dAdd, dMul, dMulA, dMod, dDiv, dLt, dLe, dGt, dGe, dIx, atI, dNeg, dAbs, dInt, dLen, dMin2, dMax2, dGcd, dTuple, ↓iR1, ↓iR2, ↓iV, items, ↓iEn, items1, nocel, nocels, List.map_cons, List.map_nil, List.getElem?_cons_zero, List.getElem?_cons_succ, List.getElem?_nil, List.set_cons_zero, List.set_cons_succ, List.length_cons, List.length_nil, List.replicate, List.cons_append, List.nil_append, Nat.reduceAdd, Nat.reduceSub, Bool.false_eq_true, if_true, if_false, Option.map_some, Option.bind_some, Option.bind_none, Bool.and_true, Bool.and_false, Bool.true_and, Bool.not_true, Bool.not_false, decide_true, decide_false, vw_n, vw_b, vw_i, vw_s, vw_u, vw_l, vw_o, ie_n, ie_b, ie_i, ie_s, ie_u, ie_l, ie_c, x10, x20, x21, x30, x31, x32, fin_b, fin_i, eq_ii, ne_ii, List.take_length, vw_k, ie_k, id_eq, Nat.reduceLeDiff, ↓xSl, ↓xAugI, ↓oE, ↓oNo, ↓xLs, ↓xExt, ↓iZp, ear_ch (c1 _ _)]
  have f2 : s2__law_chain_right [some X, some d, some (.cel 1)] [u, some (.l [.str "chain"])] = some (.nx [some X, some d, some (.cel 1)] [u, some (.l [.str "chain", .str "chain"])]) := by
    unfold s2__law_chain_right
    simp only [↓xDef, ↓xSeq, ↓xDo, ↓xNext, ↓xRet, ↓xExp, ↓xIfS, ↓xAsg, ↓gN, ↓gT, ↓gsC, ↓gsN, ↓xV, ↓S.val, ↓S.bind, ↓S.opt, ↓x2, ↓x1, ↓xN, ↓xB, ↓xD, ↓xAnd, ↓xOr, ↓xNot, ↓xIf, ↓xAndV, ↓xOrV, ↓xNotV, ↓xChain, ↓aNil, ↓aCons, ↓xTup, ↓few, ↓xF, ↓xC, ↓xSetI, ↓xPar, ↓xCall, ↓xFrz, ↓xM, live, i2, dSub, dAdd, dMul, dMulA, dMod, dDiv, dLt, dLe, dGt, dGe, dIx, atI, dNeg, dAbs, dInt, dLen, dMin2, dMax2, dGcd, dTuple, ↓iR1, ↓iR2, ↓iV, items, ↓iEn, items1, nocel, nocels, List.map_cons, List.map_nil, List.getElem?_cons_zero, List.getElem?_cons_succ, List.getElem?_nil, List.set_cons_zero, List.set_cons_succ, List.length_cons, List.length_nil, List.replicate, List.cons_append, List.nil_append, Nat.reduceAdd, Nat.reduceSub, Bool.false_eq_true, if_true, if_false, Option.map_some, Option.bind_some, Option.bind_none, Bool.and_true, Bool.and_false, Bool.true_and, Bool.not_true, Bool.not_false, decide_true, decide_false, vw_n, vw_b, vw_i, vw_s, vw_u, vw_l, vw_o, ie_n, ie_b, ie_i, ie_s, ie_u, ie_l, ie_c, x10, x20, x21, x30, x31, x32, fin_b, fin_i, eq_ii, ne_ii, List.take_length, vw_k, ie_k, id_eq, Nat.reduceLeDiff, ↓xSl, ↓xAugI, ↓oE, ↓oNo, ↓xLs, ↓xExt, ↓iZp, ear_ch (c2 _ _)]
    rfl
  have f3 : s3__law_chain_right [some X, some d, some (.cel 1)] [u, some (.l [.str "chain", .str "chain"])] = some (.nx [some X, some d, some (.cel 1)] [u, some (.l [.str "chain", .str "chain", .str "chain"])]) := by
    unfold s3__law_chain_right
    simp only [↓xDef, ↓xSeq, ↓xDo, ↓xNext, ↓xRet, ↓xExp, ↓xIfS, ↓xAsg, ↓gN, ↓gT, ↓gsC, ↓gsN, ↓xV, ↓S.val, ↓S.bind, ↓S.opt, ↓x2, ↓x1, ↓xN, ↓xB, ↓xD, ↓xAnd, ↓xOr, ↓xNot, ↓xIf, ↓xAndV, ↓xOrV, ↓xNotV, ↓xChain, ↓aNil, ↓aCons, ↓xTup, ↓few, ↓xF, ↓xC, ↓xSetI, ↓xPar, ↓xCall, ↓xFrz, ↓xM, live, i2, dSub, dAdd, dMul, dMulA, dMod, dDiv, dLt, dLe, dGt, dGe, dIx, atI, dNeg, dAbs, dInt, dLen, dMin2, dMax2, dGcd, dTuple, ↓iR1, ↓iR2, ↓iV, items, ↓iEn, items1, nocel, nocels, List.map_cons, List.map_nil, List.getElem?_cons_zero, List.getElem?_cons_succ, List.getElem?_nil, List.set_cons_zero, List.set_cons_succ, List.length_cons, List.length_nil, List.replicate, List.cons_append, List.nil_append, Nat.reduceAdd, Nat.reduceSub, Bool.false_eq_true, if_true, if_false, Option.map_some, Option.bind_some, Option.bind_none, Bool.and_true, Bool.and_false, Bool.true_and, Bool.not_true, Bool.not_false, decide_true, decide_false, vw_n, vw_b, vw_i, vw_s, vw_u, vw_l, vw_o, ie_n, ie_b, ie_i, ie_s, ie_u, ie_l, ie_c, x10, x20, x21, x30, x31, x32, fin_b, fin_i, eq_ii, ne_ii, List.take_length, vw_k, ie_k, id_eq, Nat.reduceLeDiff, ↓xSl, ↓xAugI, ↓oE, ↓oNo, ↓xLs, ↓xExt, ↓iZp, ear_ch (c3 _ _)]
    rfl
  refine def_ret (n := 2) (m := 3) (b := b__law_chain_right) (as := [X, d]) (C' := [u, some (.l [.str "chain", .str "chain", .str "chain"])]) rfl ?_ rfl
  show b__law_chain_right [some X, some d, none] [u] = _
  unfold b__law_chain_right
  rw [sqE f1, sqE f2, sqE f3]
  kernel_rfl
/-! ### no heaps -/
def nhp : List D := [.non, .int 7, .str "heap", .lst [.int 2, .int 1], .tup [.int 1, .int 2], .tup [.int 2, .int 0], .tup [.int 2, .int (-1)], .tup [.int 2, .non], .tup [.bl true], .tup [.int 2, .tup [.int 1]], .dk [.inl 2] [.int 1], .tup (List.replicate 61 (.int 1)), .tup [.int 61],
  .tup [.int (10 ^ 30), .int 1], .tup [.str "2", .str "1"], .tup [.tup [.int 2], .tup [.int 1]], .tup [.int 3, .int 3, .int 4]]
theorem no_heaps (u : Option Ob) : m__law_no_heaps [] [u] = some (.ok (.lst nhp) [u]) := by kernel_rfl
theorem heap_turn (u : Option Ob) (l0 l1 l2 l3 l5 l6 : Option D) : ∀ d ∈ nhp, q4_law [l0, l1, l2, l3, some d, l5, l6] [u] = some (.nx [l0, l1, l2, l3, some d, l5, l6] [u]) := by
  refine all_map (f := fun d => q4_law [l0, l1, l2, l3, some d, l5, l6] [u]) (g := fun d => some (.nx [l0, l1, l2, l3, some d, l5, l6] [u])) ?_
  kernel_rfl
/-! ### wide heaps -/
def wide : SS := xSeq (xAsg (xIf (xB (x2 dLe (x2 dMulA (xV 5) (S.val (.int (20)))) (S.val (.int (200))))) (S.val (.str "fine")) (S.val (.str "many 200"))) (gN 6)) (xSeq (xIfS (xB (x2 dNe (xEar 2 h__law_heard g__law_heard (q6_law)) (xV 6))) (xRet (S.val (.bl false))) (xNext)) (xIfS (xB (x2 dNe (xEar 2 h__law_heard g__law_heard (q7_law)) (S.val (.str "many 200")))) (xRet (S.val (.bl false))) (xNext)))
theorem wide_right (u : Option Ob) (l0 l1 l2 l3 l4 l6 : Option D) : ∀ d ∈ rng 1 10, wide [l0, l1, l2, l3, l4, some d, l6] [u] = some (.nx [l0, l1, l2, l3, l4, some d, some (.str "fine")] [u]) := by
  refine all_map (f := fun d => wide [l0, l1, l2, l3, l4, some d, l6] [u]) (g := fun d => some (.nx [l0, l1, l2, l3, l4, some d, some (.str "fine")] [u])) ?_
  kernel_rfl
theorem last : s2_law [none, none, none, none, none, none, none] [] = some (.ret (.bl true) []) := by kernel_rfl
end Sk58
end
section
set_option maxRecDepth 100000
set_option maxHeartbeats 0
set_option exponentiation.threshold 1000000
namespace Sk58
open PySem L2 Sm
/-! ### the law -/
theorem turn {ns : List Int} {I : Int} (h0 : 0 ≤ I) (h1 : I ≤ 6) (w2 w3 w4 w5 w6 : Option D) : ∃ y2 y3 y4 y5 y6 C', q8_law [some (.lst (ns.map D.int)), some (.int I), w2, w3, w4, w5, w6] [] = some (.nx [some (.lst (ns.map D.int)), some (.int I), y2, y3, y4, y5, y6] C') := by
  obtain ⟨a, b, e, V⟩ := diceE (ns := ns) h0 h1
  obtain ⟨v, a1, b1, c1, e1, v0, v1, V1⟩ := rollE (z := 5) (r := []) V
  obtain ⟨cs, C', e2, hl, hv, hm, hlc, hD⟩ := chain_of (r := 1 + v) (mo := 9) (V1.toDc []) (by omega) (by omega) (by omega) (by decide) (by decide)
  obtain ⟨a2, b2, c2, rfl, V2⟩ := hD.one hlc
  have hq := rq_ok hv (by omega) (by omega)
  have hn : nocel (chD cs) = true := nc_rd cs
  have hL := nc_scr ns
  generalize chD cs = X at e2 hq hn
  have hX : isErr X = false := by
    cases X <;> first | rfl | cases hn
  generalize ns.map D.int = LL at e hL ⊢
  have f1 : xAsg (xCall m__law_dice (aCons (xV 0) (aCons (xV 1) (aNil)))) (gN 2) [some (.lst LL), some (.int I), w2, w3, w4, w5, w6] [] = some (.nx [some (.lst LL), some (.int I), some (.cel 0), w3, w4, w5, w6] [dc a b 0]) := by
    simp only [↓xDef, ↓xSeq, ↓xDo, ↓xNext, ↓xRet, ↓xExp, ↓xIfS, ↓xAsg, ↓gN, ↓gT, ↓gsC, ↓gsN, ↓xV, ↓S.val, ↓S.bind, ↓S.opt, ↓x2, ↓x1, ↓xN, ↓xB, ↓xD, ↓xAnd, ↓xOr, ↓xNot, ↓xIf, ↓xAndV, ↓xOrV, ↓xNotV, ↓xChain, ↓aNil, ↓aCons, ↓xTup, ↓few, ↓xF, ↓xC, ↓xSetI, ↓xPar, ↓xCall, ↓xFrz, ↓xM, live, i2, dSub, dAdd, dMul, dMulA, dMod, dDiv, dLt, dLe, dGt, dGe, dIx, atI, dNeg, dAbs, dInt, dLen, dMin2, dMax2, dGcd, dTuple, ↓iR1, ↓iR2, ↓iV, items, ↓iEn, items1, nocel, nocels, List.map_cons, List.map_nil, List.getElem?_cons_zero, List.getElem?_cons_succ, List.getElem?_nil, List.set_cons_zero, List.set_cons_succ, List.length_cons, List.length_nil, List.replicate, List.cons_append, List.nil_append, Nat.reduceAdd, Nat.reduceSub, Bool.false_eq_true, if_true, if_false, Option.map_some, Option.bind_some, Option.bind_none, Bool.and_true, Bool.and_false, Bool.true_and, Bool.not_true, Bool.not_false, decide_true, decide_false, vw_n, vw_b, vw_i, vw_s, vw_u, vw_l, vw_o, ie_n, ie_b, ie_i, ie_s, ie_u, ie_l, ie_c, x10, x20, x21, x30, x31, x32, fin_b, fin_i, eq_ii, ne_ii, List.take_length, vw_k, ie_k, id_eq, Nat.reduceLeDiff, ↓xSl, ↓xAugI, ↓oE, ↓oNo, ↓xLs, ↓xExt, ↓iZp, e]
  have f2 : xAsg (xCall m__law_chain (aCons (xV 2) (aCons (Sm.x2 dAdd (S.val (.int (1))) (xCall m__law_roll (aCons (xV 2) (aCons (S.val (.int (5))) (aNil))))) (aCons (S.val (.int (9))) (aNil))))) (gN 3) [some (.lst LL), some (.int I), some (.cel 0), w3, w4, w5, w6] [dc a b 0] = some (.nx [some (.lst LL), some (.int I), some (.cel 0), some X, w4, w5, w6] [dc a2 b2 c2]) := by
    simp only [↓xDef, ↓xSeq, ↓xDo, ↓xNext, ↓xRet, ↓xExp, ↓xIfS, ↓xAsg, ↓gN, ↓gT, ↓gsC, ↓gsN, ↓xV, ↓S.val, ↓S.bind, ↓S.opt, ↓x2, ↓x1, ↓xN, ↓xB, ↓xD, ↓xAnd, ↓xOr, ↓xNot, ↓xIf, ↓xAndV, ↓xOrV, ↓xNotV, ↓xChain, ↓aNil, ↓aCons, ↓xTup, ↓few, ↓xF, ↓xC, ↓xSetI, ↓xPar, ↓xCall, ↓xFrz, ↓xM, live, i2, dSub, dAdd, dMul, dMulA, dMod, dDiv, dLt, dLe, dGt, dGe, dIx, atI, dNeg, dAbs, dInt, dLen, dMin2, dMax2, dGcd, dTuple, ↓iR1, ↓iR2, ↓iV, items, ↓iEn, items1, nocel, nocels, List.map_cons, List.map_nil, List.getElem?_cons_zero, List.getElem?_cons_succ, List.getElem?_nil, List.set_cons_zero, List.set_cons_succ, List.length_cons, List.length_nil, List.replicate, List.cons_append, List.nil_append, Nat.reduceAdd, Nat.reduceSub, Bool.false_eq_true, if_true, if_false, Option.map_some, Option.bind_some, Option.bind_none, Bool.and_true, Bool.and_false, Bool.true_and, Bool.not_true, Bool.not_false, decide_true, decide_false, vw_n, vw_b, vw_i, vw_s, vw_u, vw_l, vw_o, ie_n, ie_b, ie_i, ie_s, ie_u, ie_l, ie_c, x10, x20, x21, x30, x31, x32, fin_b, fin_i, eq_ii, ne_ii, List.take_length, vw_k, ie_k, id_eq, Nat.reduceLeDiff, ↓xSl, ↓xAugI, ↓oE, ↓oNo, ↓xLs, ↓xExt, ↓iZp, e1, e2]
  obtain ⟨n, s, a3, b3, c3, e3, V3⟩ := no_chains V2 (by omega)
  have cX : Sm.cutV 1 (some X) = some X := if_pos hn
  have cL : Sm.cutV 1 (some (.lst LL)) = some (.lst LL) := if_pos hL
  let P : Option Ob → Sm.Env → Cells → Prop := fun u e C => C = [u] ∧ ∃ z4, e = [some (.lst LL), some (.int I), some (.cel 0), some X, z4, Sm.cutV 1 w5, Sm.cutV 1 w6]
  have cc := cutV_cutV 1
  have P0 : ∀ {u : Option Ob} {z4 z5 z6 : Option D}, Sm.cutV 1 z5 = Sm.cutV 1 w5 → Sm.cutV 1 z6 = Sm.cutV 1 w6 → P u (cutE 1 [some (.lst LL), some (.int I), some (.cel 0), some X, z4, z5, z6]) [u] := fun {u z4 z5 z6} q5 q6 => ⟨rfl, Sm.cutV 1 z4, by
    show [Sm.cutV 1 (some (.lst LL)), some (.int I), some (.cel 0), Sm.cutV 1 (some X), Sm.cutV 1 z4, Sm.cutV 1 z5, Sm.cutV 1 z6] = _
    rw [cX, cL, q5, q6]⟩
  obtain ⟨g2, D2, q2, rfl, z4, rfl⟩ : ∃ e2 C2, q2_law [some (.lst LL), some (.int I), some (.cel 0), some X, w4, w5, w6] [dc a2 b2 c2] = some (.nx e2 C2) ∧ P (dc a3 b3 c3) e2 C2 := by
    unfold q2_law
    refine forC_all (i := 4) (b := q1_law) (C1 := [dc a3 b3 c3]) (ds := nch n s) (P (dc a3 b3 c3)) ?_ (fun d hd => (nch_bad n s d hd).2.2.2) (P0 rfl rfl) fun d hd e C ⟨h1, z, h2⟩ => ?_
    · simp only [↓xDef, ↓xSeq, ↓xDo, ↓xNext, ↓xRet, ↓xExp, ↓xIfS, ↓xAsg, ↓gN, ↓gT, ↓gsC, ↓gsN, ↓xV, ↓S.val, ↓S.bind, ↓S.opt, ↓x2, ↓x1, ↓xN, ↓xB, ↓xD, ↓xAnd, ↓xOr, ↓xNot, ↓xIf, ↓xAndV, ↓xOrV, ↓xNotV, ↓xChain, ↓aNil, ↓aCons, ↓xTup, ↓few, ↓xF, ↓xC, ↓xSetI, ↓xPar, ↓xCall, ↓xFrz, ↓xM, live, i2, dSub, dAdd, dMul, dMulA, dMod, dDiv, dLt, dLe, dGt, dGe, dIx, atI, dNeg, dAbs, dInt, dLen, dMin2, dMax2, dGcd, dTuple, ↓iR1, ↓iR2, ↓iV, items, ↓iEn, items1, nocel, nocels, List.map_cons, List.map_nil, List.getElem?_cons_zero, List.getElem?_cons_succ, List.getElem?_nil, List.set_cons_zero, List.set_cons_succ, List.length_cons, List.length_nil, List.replicate, List.cons_append, List.nil_append, Nat.reduceAdd, Nat.reduceSub, Bool.false_eq_true, if_true, if_false, Option.map_some, Option.bind_some, Option.bind_none, Bool.and_true, Bool.and_false, Bool.true_and, Bool.not_true, Bool.not_false, decide_true, decide_false, vw_n, vw_b, vw_i, vw_s, vw_u, vw_l, vw_o, ie_n, ie_b, ie_i, ie_s, ie_u, ie_l, ie_c, x10, x20, x21, x30, x31, x32, fin_b, fin_i, eq_ii, ne_ii, List.take_length, vw_k, ie_k, id_eq, Nat.reduceLeDiff, ↓xSl, ↓xAugI, ↓oE, ↓oNo, ↓xLs, ↓xExt, ↓iZp, e3]
    · subst h1 h2
      refine ⟨_, [dc a3 b3 c3], ?_, P0 (z4 := some d) (cc _) (cc _)⟩
      unfold q1_law
      simp only [↓xDef, ↓xSeq, ↓xDo, ↓xNext, ↓xRet, ↓xExp, ↓xIfS, ↓xAsg, ↓gN, ↓gT, ↓gsC, ↓gsN, ↓xV, ↓S.val, ↓S.bind, ↓S.opt, ↓x2, ↓x1, ↓xN, ↓xB, ↓xD, ↓xAnd, ↓xOr, ↓xNot, ↓xIf, ↓xAndV, ↓xOrV, ↓xNotV, ↓xChain, ↓aNil, ↓aCons, ↓xTup, ↓few, ↓xF, ↓xC, ↓xSetI, ↓xPar, ↓xCall, ↓xFrz, ↓xM, live, i2, dSub, dAdd, dMul, dMulA, dMod, dDiv, dLt, dLe, dGt, dGe, dIx, atI, dNeg, dAbs, dInt, dLen, dMin2, dMax2, dGcd, dTuple, ↓iR1, ↓iR2, ↓iV, items, ↓iEn, items1, nocel, nocels, List.map_cons, List.map_nil, List.getElem?_cons_zero, List.getElem?_cons_succ, List.getElem?_nil, List.set_cons_zero, List.set_cons_succ, List.length_cons, List.length_nil, List.replicate, List.cons_append, List.nil_append, Nat.reduceAdd, Nat.reduceSub, Bool.false_eq_true, if_true, if_false, Option.map_some, Option.bind_some, Option.bind_none, Bool.and_true, Bool.and_false, Bool.true_and, Bool.not_true, Bool.not_false, decide_true, decide_false, vw_n, vw_b, vw_i, vw_s, vw_u, vw_l, vw_o, ie_n, ie_b, ie_i, ie_s, ie_u, ie_l, ie_c, x10, x20, x21, x30, x31, x32, fin_b, fin_i, eq_ii, ne_ii, List.take_length, vw_k, ie_k, id_eq, Nat.reduceLeDiff, ↓xSl, ↓xAugI, ↓oE, ↓oNo, ↓xLs, ↓xExt, ↓iZp, hX, (nch_bad n s d hd).2.2.1, chain_right (X := X) (dc a3 b3 c3) (nch_bad n s d hd)]
  obtain ⟨g3, D3, q3, rfl, z5, rfl⟩ : ∃ e2 C2, q5_law [some (.lst LL), some (.int I), some (.cel 0), some X, z4, Sm.cutV 1 w5, Sm.cutV 1 w6] [dc a3 b3 c3] = some (.nx e2 C2) ∧ P (dc a3 b3 c3) e2 C2 := by
    unfold q5_law
    refine forC_all (i := 4) (b := q4_law) (C1 := [dc a3 b3 c3]) (ds := nhp) (P (dc a3 b3 c3)) ?_ (fun d hd => List.all_eq_true.mp (show nhp.all nocel = true by decide +kernel) d hd) (P0 (cc _) (cc _)) fun d hd e C ⟨h1, z, h2⟩ => ?_
    · simp only [↓xDef, ↓xSeq, ↓xDo, ↓xNext, ↓xRet, ↓xExp, ↓xIfS, ↓xAsg, ↓gN, ↓gT, ↓gsC, ↓gsN, ↓xV, ↓S.val, ↓S.bind, ↓S.opt, ↓x2, ↓x1, ↓xN, ↓xB, ↓xD, ↓xAnd, ↓xOr, ↓xNot, ↓xIf, ↓xAndV, ↓xOrV, ↓xNotV, ↓xChain, ↓aNil, ↓aCons, ↓xTup, ↓few, ↓xF, ↓xC, ↓xSetI, ↓xPar, ↓xCall, ↓xFrz, ↓xM, live, i2, dSub, dAdd, dMul, dMulA, dMod, dDiv, dLt, dLe, dGt, dGe, dIx, atI, dNeg, dAbs, dInt, dLen, dMin2, dMax2, dGcd, dTuple, ↓iR1, ↓iR2, ↓iV, items, ↓iEn, items1, nocel, nocels, List.map_cons, List.map_nil, List.getElem?_cons_zero, List.getElem?_cons_succ, List.getElem?_nil, List.set_cons_zero, List.set_cons_succ, List.length_cons, List.length_nil, List.replicate, List.cons_append, List.nil_append, Nat.reduceAdd, Nat.reduceSub, Bool.false_eq_true, if_true, if_false, Option.map_some, Option.bind_some, Option.bind_none, Bool.and_true, Bool.and_false, Bool.true_and, Bool.not_true, Bool.not_false, decide_true, decide_false, vw_n, vw_b, vw_i, vw_s, vw_u, vw_l, vw_o, ie_n, ie_b, ie_i, ie_s, ie_u, ie_l, ie_c, x10, x20, x21, x30, x31, x32, fin_b, fin_i, eq_ii, ne_ii, List.take_length, vw_k, ie_k, id_eq, Nat.reduceLeDiff, ↓xSl, ↓xAugI, ↓oE, ↓oNo, ↓xLs, ↓xExt, ↓iZp, no_heaps]
    · subst h1 h2
      exact ⟨_, _, heap_turn _ _ _ _ _ _ _ d hd, P0 (z4 := some d) (cc _) (cc _)⟩
  have e4 := numbers_right hX hn hq (dc a3 b3 c3)
  obtain ⟨v5, a5, b5, c5, e5, p5, r5, V5⟩ := rollE (z := 10) (r := []) V3
  have f5 := wide_right (dc a5 b5 c5) (some (.lst LL)) (some (.int I)) (some (.cel 0)) (some X) z5 (Sm.cutV 1 w6) _ (mem_rng (lo := 1) (n := 10) p5 r5)
  unfold wide at f5
  refine ⟨some (.cel 0), some X, z5, some (.int (1 + v5)), some (.str "fine"), [dc a5 b5 c5], ?_⟩
  have f4 : xIfS (xNot (xB (xCall m__law_numbers_right (aCons (xV 3) (aNil))))) (xRet (S.val (.bl false))) (xNext) [some (.lst LL), some (.int I), some (.cel 0), some X, z5, Sm.cutV 1 w5, Sm.cutV 1 w6] [dc a3 b3 c3] = some (.nx [some (.lst LL), some (.int I), some (.cel 0), some X, z5, Sm.cutV 1 w5, Sm.cutV 1 w6] [dc a3 b3 c3]) := by
    simp only [↓xDef, ↓xSeq, ↓xDo, ↓xNext, ↓xRet, ↓xExp, ↓xIfS, ↓xAsg, ↓gN, ↓gT, ↓gsC, ↓gsN, ↓xV, ↓S.val, ↓S.bind, ↓S.opt, ↓x2, ↓x1, ↓xN, ↓xB, ↓xD, ↓xAnd, ↓xOr, ↓xNot, ↓xIf, ↓xAndV, ↓xOrV, ↓xNotV, ↓xChain, ↓aNil, ↓aCons, ↓xTup, ↓few, ↓xF, ↓xC, ↓xSetI, ↓xPar, ↓xCall, ↓xFrz, ↓xM, live, i2, dSub, dAdd, dMul, dMulA, dMod, dDiv, dLt, dLe, dGt, dGe, dIx, atI, dNeg, dAbs, dInt, dLen, dMin2, dMax2, dGcd, dTuple, ↓iR1, ↓iR2, ↓iV, items, ↓iEn, items1, nocel, nocels, List.map_cons, List.map_nil, List.getElem?_cons_zero, List.getElem?_cons_succ, List.getElem?_nil, List.set_cons_zero, List.set_cons_succ, List.length_cons, List.length_nil, List.replicate, List.cons_append, List.nil_append, Nat.reduceAdd, Nat.reduceSub, Bool.false_eq_true, if_true, if_false, Option.map_some, Option.bind_some, Option.bind_none, Bool.and_true, Bool.and_false, Bool.true_and, Bool.not_true, Bool.not_false, decide_true, decide_false, vw_n, vw_b, vw_i, vw_s, vw_u, vw_l, vw_o, ie_n, ie_b, ie_i, ie_s, ie_u, ie_l, ie_c, x10, x20, x21, x30, x31, x32, fin_b, fin_i, eq_ii, ne_ii, List.take_length, vw_k, ie_k, id_eq, Nat.reduceLeDiff, ↓xSl, ↓xAugI, ↓oE, ↓oNo, ↓xLs, ↓xExt, ↓iZp, hX, e4]
  have f6 : xAsg (Sm.x2 dAdd (S.val (.int (1))) (xCall m__law_roll (aCons (xV 2) (aCons (S.val (.int (10))) (aNil))))) (gN 5) [some (.lst LL), some (.int I), some (.cel 0), some X, z5, Sm.cutV 1 w5, Sm.cutV 1 w6] [dc a3 b3 c3] = some (.nx [some (.lst LL), some (.int I), some (.cel 0), some X, z5, some (.int (1 + v5)), Sm.cutV 1 w6] [dc a5 b5 c5]) :=
    asg_roll (C1 := [dc a3 b3 c3]) (as := [.cel 0, .int 10]) (by kernel_rfl) e5
  unfold q8_law
  rw [sqE f1, sqE f2, sqE q2, sqE q3, sqE f4, sqE f6]
  exact f5
theorem law_true : ∀ ns : List Int, ns.length ≤ 63 → m_law [.lst (ns.map D.int)] [] = some (.ok (.bl true) []) := by
  intro ns _
  obtain ⟨la, hla⟩ : ∃ x : Int, ((ns.map D.int).length : Int) = x := ⟨_, rfl⟩
  obtain ⟨u, hu⟩ : ∃ x : Int, (if (4 : Int) < la then 4 else la) = x := ⟨_, rfl⟩
  obtain ⟨z, hz⟩ : ∃ x : Int, (if u > 1 then u else 1) = x := ⟨_, rfl⟩
  have hz0 : 0 ≤ z ∧ z ≤ 6 := by
    have : 0 ≤ la := by omega
    split at hu <;> split at hz <;> omega
  have hscr := cut_scr ns
  obtain ⟨e2, C2, hq, rfl, t1, t2, t3, t4, t5, t6, rfl⟩ : ∃ e2 C2, q9_law [some (.lst (ns.map D.int)), none, none, none, none, none, none] [] = some (.nx e2 C2) ∧ C2 = [] ∧ ∃ t1 t2 t3 t4 t5 t6 : Option D, e2 = [some (.lst (ns.map D.int)), t1, t2, t3, t4, t5, t6] := by
    unfold q9_law
    refine forC_all (i := 1) (b := q8_law) (C1 := []) (ds := zs 0 z.toNat) (fun e C => C = [] ∧ ∃ t1 t2 t3 t4 t5 t6 : Option D, e = [some (.lst (ns.map D.int)), t1, t2, t3, t4, t5, t6]) ?_ ?_ ?_ ?_
    · generalize ns.map D.int = LL at hla ⊢
      simp only [↓xDef, ↓xSeq, ↓xDo, ↓xNext, ↓xRet, ↓xExp, ↓xIfS, ↓xAsg, ↓gN, ↓gT, ↓gsC, ↓gsN, ↓xV, ↓S.val, ↓S.bind, ↓S.opt, ↓x2, ↓x1, ↓xN, ↓xB, ↓xD, ↓xAnd, ↓xOr, ↓xNot, ↓xIf, ↓xAndV, ↓xOrV, ↓xNotV, ↓xChain, ↓aNil, ↓aCons, ↓xTup, ↓few, ↓xF, ↓xC, ↓xSetI, ↓xPar, ↓xCall, ↓xFrz, ↓xM, live, i2, dSub, dAdd, dMul, dMulA, dMod, dDiv, dLt, dLe, dGt, dGe, dIx, atI, dNeg, dAbs, dInt, dLen, dMin2, dMax2, dGcd, dTuple, ↓iR1, ↓iR2, ↓iV, items, ↓iEn, items1, nocel, nocels, List.map_cons, List.map_nil, List.getElem?_cons_zero, List.getElem?_cons_succ, List.getElem?_nil, List.set_cons_zero, List.set_cons_succ, List.length_cons, List.length_nil, List.replicate, List.cons_append, List.nil_append, Nat.reduceAdd, Nat.reduceSub, Bool.false_eq_true, if_true, if_false, Option.map_some, Option.bind_some, Option.bind_none, Bool.and_true, Bool.and_false, Bool.true_and, Bool.not_true, Bool.not_false, decide_true, decide_false, vw_n, vw_b, vw_i, vw_s, vw_u, vw_l, vw_o, ie_n, ie_b, ie_i, ie_s, ie_u, ie_l, ie_c, x10, x20, x21, x30, x31, x32, fin_b, fin_i, eq_ii, ne_ii, List.take_length, vw_k, ie_k, id_eq, Nat.reduceLeDiff, ↓xSl, ↓xAugI, ↓oE, ↓oNo, ↓xLs, ↓xExt, ↓iZp, hla, hu, hz, rng1_ok hz0.1 (show z ≤ 1000000 by omega)]
    · intro d hd
      obtain ⟨i, _, rfl⟩ := zs_mem hd
      rfl
    · refine ⟨rfl, none, none, none, none, none, none, ?_⟩
      show [Sm.cutV 0 (some (.lst (ns.map D.int))), none, none, none, none, none, none] = _
      rw [hscr]
    · rintro d hd e C ⟨rfl, t1, t2, t3, t4, t5, t6, rfl⟩
      obtain ⟨i, hi, rfl⟩ := zs_mem hd
      obtain ⟨y2, y3, y4, y5, y6, C', h⟩ := turn (ns := ns) (I := 0 + (i : Nat)) (by omega) (by omega) t2 t3 t4 t5 t6
      refine ⟨_, C', h, rfl, some (.int (0 + (i : Nat))), Sm.cutV 0 y2, Sm.cutV 0 y3, Sm.cutV 0 y4, Sm.cutV 0 y5, Sm.cutV 0 y6, ?_⟩
      show [Sm.cutV 0 (some (.lst (ns.map D.int))), _, _, _, _, _, _] = _
      rw [hscr]
      rfl
  generalize ns.map D.int = LL at hq ⊢
  refine def_retE (n := 1) (m := 7) (b := b_law) (as := [.lst LL]) (C' := []) rfl rfl ?_ rfl
  show b_law [some (.lst LL), none, none, none, none, none, none] [] = _
  unfold b_law
  rw [show s1_law = q9_law from rfl, sqE hq]
  kernel_rfl
end Sk58
end
section
set_option maxRecDepth 100000
open PySem PySem.W PyProof.Rows
set_option maxRecDepth 100000 in
set_option maxHeartbeats 0 in
theorem PySem.Challenge.cw_ringstairs_k58_errors_of_counts_holds : PySem.Challenge.rw_ringstairs_k58_errors_of_counts.Holds := by
  w_on; o_law; k_head; (case hw => w_witness2)
  k_fill
  refine Sm.walk_G (l := PySem.Challenge.rw_ringstairs_k58_errors_of_counts) (n := 63) (k := 10) (x := "_law_script") rfl (by decide) rfl ⟨rfl, by decide, by decide⟩ (fun w h Y => by first | exact PySem.W.kIn_of Y | exact PySem.W.km_in_of Y) ?F
  case F =>
    intro w mg fa h KX G hmg tabf
    refine' Sk58.all_mk KX G hmg tabf ?xa_InvalidNumber ?xk_InvalidNumber ?xc_InvalidNumber ?xi_InvalidNumber ?xo_InvalidNumber ?xsa_InvalidNumber ?xga_InvalidNumber ?xgg_InvalidNumber ?xno_InvalidNumber ?xic_InvalidNumber ?xt_InvalidNumber ?xe_InvalidNumber ?xb_InvalidNumber ?xy_InvalidNumber ?xh_InvalidNumber ?xs_InvalidNumber ?xu_InvalidNumber ?xl_InvalidNumber ?xd_InvalidNumber ?xf_InvalidNumber ?xv_InvalidNumber ?xw_InvalidNumber ?xz_InvalidNumber ?xa_TooMany ?xk_TooMany ?xc_TooMany ?xi_TooMany ?xo_TooMany ?xsa_TooMany ?xga_TooMany ?xgg_TooMany ?xno_TooMany ?xic_TooMany ?xt_TooMany ?xe_TooMany ?xb_TooMany ?xy_TooMany ?xh_TooMany ?xs_TooMany ?xu_TooMany ?xl_TooMany ?xd_TooMany ?xf_TooMany ?xv_TooMany ?xw_TooMany ?xz_TooMany ?xa_InvalidChain ?xq_InvalidChain ?xk_InvalidChain ?xe_InvalidChain ?xy_InvalidChain ?xa_InvalidHeap ?xq_InvalidHeap ?xk_InvalidHeap ?xe_InvalidHeap ?xy_InvalidHeap ?xm_InvalidChain_InvalidNumber ?xm_InvalidHeap_InvalidNumber ?xm_InvalidNumber_InvalidNumber ?xm_TooMany_InvalidNumber ?xm_InvalidChain_TooMany ?xm_InvalidHeap_TooMany ?xm_InvalidNumber_TooMany ?xm_TooMany_TooMany ?xm_InvalidChain_InvalidChain ?xm_InvalidHeap_InvalidChain ?xm_InvalidNumber_InvalidChain ?xm_TooMany_InvalidChain ?xm_InvalidChain_InvalidHeap ?xm_InvalidHeap_InvalidHeap ?xm_InvalidNumber_InvalidHeap ?xm_TooMany_InvalidHeap ?y_opq ?y_sup ?a__law_heard ?l__law_heard ?d__law_heard ?e__law_heard ?a_is_whole ?l_is_whole ?d_is_whole ?e_is_whole ?a_is_within ?l_is_within ?d_is_within ?e_is_within ?a_is_heap_in ?l_is_heap_in ?d_is_heap_in ?e_is_heap_in ?a_require_heap ?l_require_heap ?d_require_heap ?e_require_heap ?a_hook_product ?l_hook_product ?d_hook_product ?e_hook_product ?a_standard_count ?l_standard_count ?d_standard_count ?e_standard_count ?a_standard_fillings ?l_standard_fillings ?d_standard_fillings ?e_standard_fillings ?a_require_up_to ?l_require_up_to ?d_require_up_to ?e_require_up_to ?a_doubled_fillings ?l_doubled_fillings ?d_doubled_fillings ?e_doubled_fillings ?a__law_dice ?l__law_dice ?d__law_dice ?e__law_dice ?a__law_roll ?l__law_roll ?d__law_roll ?e__law_roll ?a__law_ring ?l__law_ring ?d__law_ring ?e__law_ring ?a__law_one_of ?l__law_one_of ?d__law_one_of ?e__law_one_of ?a__law_common ?l__law_common ?d__law_common ?e__law_common ?a__law_ring_of ?l__law_ring_of ?d__law_ring_of ?e__law_ring_of ?a__law_chain ?l__law_chain ?d__law_chain ?e__law_chain ?a__law_no_chains ?l__law_no_chains ?d__law_no_chains ?e__law_no_chains ?a__law_no_heaps ?l__law_no_heaps ?d__law_no_heaps ?e__law_no_heaps ?a_is_ring_in ?l_is_ring_in ?d_is_ring_in ?e_is_ring_in ?a_is_chain_in ?l_is_chain_in ?d_is_chain_in ?e_is_chain_in ?a_require_chain ?l_require_chain ?d_require_chain ?e_require_chain ?a_cut_counts ?l_cut_counts ?d_cut_counts ?e_cut_counts ?a_classes_by_heap ?l_classes_by_heap ?d_classes_by_heap ?e_classes_by_heap ?a_count_at_least ?l_count_at_least ?d_count_at_least ?e_count_at_least ?a_is_integer ?l_is_integer ?d_is_integer ?e_is_integer ?a_require_degree ?l_require_degree ?d_require_degree ?e_require_degree ?a_classes_at_least ?l_classes_at_least ?d_classes_at_least ?e_classes_at_least ?a_count_by_richness ?l_count_by_richness ?d_count_by_richness ?e_count_by_richness ?a_classes_by_richness ?l_classes_by_richness ?d_classes_by_richness ?e_classes_by_richness ?a__law_chain_right ?l__law_chain_right ?d__law_chain_right ?e__law_chain_right ?ti__law_chain_right ?tn__law_chain_right ?tr__law_chain_right ?a__law_numbers_right ?l__law_numbers_right ?d__law_numbers_right ?e__law_numbers_right ?ti__law_numbers_right ?tn__law_numbers_right ?tr__law_numbers_right ?a_law ?l_law ?d_law ?e_law ?ti_law ?tn_law ?tr_law ?tw__law_chain_right__law_numbers_right ?tw__law_chain_right_law ?tw__law_numbers_right__law_chain_right ?tw__law_numbers_right_law ?tw_law__law_chain_right ?tw_law__law_numbers_right ?z_abs ?z_all ?z_bool ?z_enumerate ?z_int ?z_isinstance ?z_len ?z_list ?z_max ?z_min ?z_range ?z_repr ?z_sum ?z_tuple ?z_zip ?z_MOST_CUT ?z_MOST_DOUBLED ?z_MOST_HOOKED ?z_MOST_PLACES ?z_MOST_RICHNESS ?z_MOST_RINGS ?z_MOST_SIDE ?z_SIXTY_DIGITS ?z_fac Sk58.law_true
    (case xa_InvalidNumber => first | k_is | rfl | decide | kernel_rfl)
    (case xk_InvalidNumber => first | k_is | rfl | decide | kernel_rfl)
    (case xc_InvalidNumber => first | k_is | rfl | decide | kernel_rfl)
    (case xi_InvalidNumber => first | k_is | rfl | decide | kernel_rfl)
    (case xo_InvalidNumber => first | k_is | rfl | decide | kernel_rfl)
    (case xsa_InvalidNumber => first | k_is | rfl | decide | kernel_rfl)
    (case xga_InvalidNumber => first | k_is | rfl | decide | kernel_rfl)
    (case xgg_InvalidNumber => first | k_is | rfl | decide | kernel_rfl)
    (case xno_InvalidNumber => first | k_is | rfl | decide | kernel_rfl)
    (case xic_InvalidNumber => first | k_is | rfl | decide | kernel_rfl)
    (case xt_InvalidNumber => first | k_is | rfl | decide | kernel_rfl)
    (case xe_InvalidNumber => first | k_is | rfl | decide | kernel_rfl)
    (case xb_InvalidNumber => first | k_is | rfl | decide | kernel_rfl)
    (case xy_InvalidNumber => first | k_is | rfl | decide | kernel_rfl)
    (case xh_InvalidNumber => first | k_is | rfl | decide | kernel_rfl)
    (case xs_InvalidNumber => first | k_is | rfl | decide | kernel_rfl)
    (case xu_InvalidNumber => first | k_is | rfl | decide | kernel_rfl)
    (case xl_InvalidNumber => first | k_is | rfl | decide | kernel_rfl)
    (case xd_InvalidNumber => first | k_is | rfl | decide | kernel_rfl)
    (case xf_InvalidNumber => first | k_is | rfl | decide | kernel_rfl)
    (case xv_InvalidNumber => first | k_is | rfl | decide | kernel_rfl)
    (case xw_InvalidNumber => first | k_is | rfl | decide | kernel_rfl)
    (case xz_InvalidNumber => first | k_is | rfl | decide | kernel_rfl)
    (case xa_TooMany => first | k_is | rfl | decide | kernel_rfl)
    (case xk_TooMany => first | k_is | rfl | decide | kernel_rfl)
    (case xc_TooMany => first | k_is | rfl | decide | kernel_rfl)
    (case xi_TooMany => first | k_is | rfl | decide | kernel_rfl)
    (case xo_TooMany => first | k_is | rfl | decide | kernel_rfl)
    (case xsa_TooMany => first | k_is | rfl | decide | kernel_rfl)
    (case xga_TooMany => first | k_is | rfl | decide | kernel_rfl)
    (case xgg_TooMany => first | k_is | rfl | decide | kernel_rfl)
    (case xno_TooMany => first | k_is | rfl | decide | kernel_rfl)
    (case xic_TooMany => first | k_is | rfl | decide | kernel_rfl)
    (case xt_TooMany => first | k_is | rfl | decide | kernel_rfl)
    (case xe_TooMany => first | k_is | rfl | decide | kernel_rfl)
    (case xb_TooMany => first | k_is | rfl | decide | kernel_rfl)
    (case xy_TooMany => first | k_is | rfl | decide | kernel_rfl)
    (case xh_TooMany => first | k_is | rfl | decide | kernel_rfl)
    (case xs_TooMany => first | k_is | rfl | decide | kernel_rfl)
    (case xu_TooMany => first | k_is | rfl | decide | kernel_rfl)
    (case xl_TooMany => first | k_is | rfl | decide | kernel_rfl)
    (case xd_TooMany => first | k_is | rfl | decide | kernel_rfl)
    (case xf_TooMany => first | k_is | rfl | decide | kernel_rfl)
    (case xv_TooMany => first | k_is | rfl | decide | kernel_rfl)
    (case xw_TooMany => first | k_is | rfl | decide | kernel_rfl)
    (case xz_TooMany => first | k_is | rfl | decide | kernel_rfl)
    (case xa_InvalidChain => first | k_is | rfl | decide | kernel_rfl)
    (case xq_InvalidChain => first | k_is | rfl | decide | kernel_rfl)
    (case xk_InvalidChain => first | k_is | rfl | decide | kernel_rfl)
    (case xe_InvalidChain => first | k_is | rfl | decide | kernel_rfl)
    (case xy_InvalidChain => first | k_is | rfl | decide | kernel_rfl)
    (case xa_InvalidHeap => first | k_is | rfl | decide | kernel_rfl)
    (case xq_InvalidHeap => first | k_is | rfl | decide | kernel_rfl)
    (case xk_InvalidHeap => first | k_is | rfl | decide | kernel_rfl)
    (case xe_InvalidHeap => first | k_is | rfl | decide | kernel_rfl)
    (case xy_InvalidHeap => first | k_is | rfl | decide | kernel_rfl)
    (case xm_InvalidChain_InvalidNumber => first | k_is | rfl | decide | kernel_rfl)
    (case xm_InvalidHeap_InvalidNumber => first | k_is | rfl | decide | kernel_rfl)
    (case xm_InvalidNumber_InvalidNumber => first | k_is | rfl | decide | kernel_rfl)
    (case xm_TooMany_InvalidNumber => first | k_is | rfl | decide | kernel_rfl)
    (case xm_InvalidChain_TooMany => first | k_is | rfl | decide | kernel_rfl)
    (case xm_InvalidHeap_TooMany => first | k_is | rfl | decide | kernel_rfl)
    (case xm_InvalidNumber_TooMany => first | k_is | rfl | decide | kernel_rfl)
    (case xm_TooMany_TooMany => first | k_is | rfl | decide | kernel_rfl)
    (case xm_InvalidChain_InvalidChain => first | k_is | rfl | decide | kernel_rfl)
    (case xm_InvalidHeap_InvalidChain => first | k_is | rfl | decide | kernel_rfl)
    (case xm_InvalidNumber_InvalidChain => first | k_is | rfl | decide | kernel_rfl)
    (case xm_TooMany_InvalidChain => first | k_is | rfl | decide | kernel_rfl)
    (case xm_InvalidChain_InvalidHeap => first | k_is | rfl | decide | kernel_rfl)
    (case xm_InvalidHeap_InvalidHeap => first | k_is | rfl | decide | kernel_rfl)
    (case xm_InvalidNumber_InvalidHeap => first | k_is | rfl | decide | kernel_rfl)
    (case xm_TooMany_InvalidHeap => first | k_is | rfl | decide | kernel_rfl)
    (case y_opq => first | k_is | rfl | decide | kernel_rfl)
    (case y_sup => first | k_is | rfl | decide | kernel_rfl)
    (case a__law_heard => first | k_is | rfl | decide | kernel_rfl)
    (case l__law_heard => first | k_is | rfl | decide | kernel_rfl)
    (case d__law_heard => first | k_is | rfl | decide | kernel_rfl)
    (case e__law_heard => first | k_is | rfl | decide | kernel_rfl)
    (case a_is_whole => first | k_is | rfl | decide | kernel_rfl)
    (case l_is_whole => first | k_is | rfl | decide | kernel_rfl)
    (case d_is_whole => first | k_is | rfl | decide | kernel_rfl)
    (case e_is_whole => first | k_is | rfl | decide | kernel_rfl)
    (case a_is_within => first | k_is | rfl | decide | kernel_rfl)
    (case l_is_within => first | k_is | rfl | decide | kernel_rfl)
    (case d_is_within => first | k_is | rfl | decide | kernel_rfl)
    (case e_is_within => first | k_is | rfl | decide | kernel_rfl)
    (case a_is_heap_in => first | k_is | rfl | decide | kernel_rfl)
    (case l_is_heap_in => first | k_is | rfl | decide | kernel_rfl)
    (case d_is_heap_in => first | k_is | rfl | decide | kernel_rfl)
    (case e_is_heap_in => first | k_is | rfl | decide | kernel_rfl)
    (case a_require_heap => first | k_is | rfl | decide | kernel_rfl)
    (case l_require_heap => first | k_is | rfl | decide | kernel_rfl)
    (case d_require_heap => first | k_is | rfl | decide | kernel_rfl)
    (case e_require_heap => first | k_is | rfl | decide | kernel_rfl)
    (case a_hook_product => first | k_is | rfl | decide | kernel_rfl)
    (case l_hook_product => first | k_is | rfl | decide | kernel_rfl)
    (case d_hook_product => first | k_is | rfl | decide | kernel_rfl)
    (case e_hook_product => first | k_is | rfl | decide | kernel_rfl)
    (case a_standard_count => first | k_is | rfl | decide | kernel_rfl)
    (case l_standard_count => first | k_is | rfl | decide | kernel_rfl)
    (case d_standard_count => first | k_is | rfl | decide | kernel_rfl)
    (case e_standard_count => first | k_is | rfl | decide | kernel_rfl)
    (case a_standard_fillings => first | k_is | rfl | decide | kernel_rfl)
    (case l_standard_fillings => first | k_is | rfl | decide | kernel_rfl)
    (case d_standard_fillings => first | k_is | rfl | decide | kernel_rfl)
    (case e_standard_fillings => first | k_is | rfl | decide | kernel_rfl)
    (case a_require_up_to => first | k_is | rfl | decide | kernel_rfl)
    (case l_require_up_to => first | k_is | rfl | decide | kernel_rfl)
    (case d_require_up_to => first | k_is | rfl | decide | kernel_rfl)
    (case e_require_up_to => first | k_is | rfl | decide | kernel_rfl)
    (case a_doubled_fillings => first | k_is | rfl | decide | kernel_rfl)
    (case l_doubled_fillings => first | k_is | rfl | decide | kernel_rfl)
    (case d_doubled_fillings => first | k_is | rfl | decide | kernel_rfl)
    (case e_doubled_fillings => first | k_is | rfl | decide | kernel_rfl)
    (case a__law_dice => first | k_is | rfl | decide | kernel_rfl)
    (case l__law_dice => first | k_is | rfl | decide | kernel_rfl)
    (case d__law_dice => first | k_is | rfl | decide | kernel_rfl)
    (case e__law_dice => first | k_is | rfl | decide | kernel_rfl)
    (case a__law_roll => first | k_is | rfl | decide | kernel_rfl)
    (case l__law_roll => first | k_is | rfl | decide | kernel_rfl)
    (case d__law_roll => first | k_is | rfl | decide | kernel_rfl)
    (case e__law_roll => first | k_is | rfl | decide | kernel_rfl)
    (case a__law_ring => first | k_is | rfl | decide | kernel_rfl)
    (case l__law_ring => first | k_is | rfl | decide | kernel_rfl)
    (case d__law_ring => first | k_is | rfl | decide | kernel_rfl)
    (case e__law_ring => first | k_is | rfl | decide | kernel_rfl)
    (case a__law_one_of => first | k_is | rfl | decide | kernel_rfl)
    (case l__law_one_of => first | k_is | rfl | decide | kernel_rfl)
    (case d__law_one_of => first | k_is | rfl | decide | kernel_rfl)
    (case e__law_one_of => first | k_is | rfl | decide | kernel_rfl)
    (case a__law_common => first | k_is | rfl | decide | kernel_rfl)
    (case l__law_common => first | k_is | rfl | decide | kernel_rfl)
    (case d__law_common => first | k_is | rfl | decide | kernel_rfl)
    (case e__law_common => first | k_is | rfl | decide | kernel_rfl)
    (case a__law_ring_of => first | k_is | rfl | decide | kernel_rfl)
    (case l__law_ring_of => first | k_is | rfl | decide | kernel_rfl)
    (case d__law_ring_of => first | k_is | rfl | decide | kernel_rfl)
    (case e__law_ring_of => first | k_is | rfl | decide | kernel_rfl)
    (case a__law_chain => first | k_is | rfl | decide | kernel_rfl)
    (case l__law_chain => first | k_is | rfl | decide | kernel_rfl)
    (case d__law_chain => first | k_is | rfl | decide | kernel_rfl)
    (case e__law_chain => first | k_is | rfl | decide | kernel_rfl)
    (case a__law_no_chains => first | k_is | rfl | decide | kernel_rfl)
    (case l__law_no_chains => first | k_is | rfl | decide | kernel_rfl)
    (case d__law_no_chains => first | k_is | rfl | decide | kernel_rfl)
    (case e__law_no_chains => first | k_is | rfl | decide | kernel_rfl)
    (case a__law_no_heaps => first | k_is | rfl | decide | kernel_rfl)
    (case l__law_no_heaps => first | k_is | rfl | decide | kernel_rfl)
    (case d__law_no_heaps => first | k_is | rfl | decide | kernel_rfl)
    (case e__law_no_heaps => first | k_is | rfl | decide | kernel_rfl)
    (case a_is_ring_in => first | k_is | rfl | decide | kernel_rfl)
    (case l_is_ring_in => first | k_is | rfl | decide | kernel_rfl)
    (case d_is_ring_in => first | k_is | rfl | decide | kernel_rfl)
    (case e_is_ring_in => first | k_is | rfl | decide | kernel_rfl)
    (case a_is_chain_in => first | k_is | rfl | decide | kernel_rfl)
    (case l_is_chain_in => first | k_is | rfl | decide | kernel_rfl)
    (case d_is_chain_in => first | k_is | rfl | decide | kernel_rfl)
    (case e_is_chain_in => first | k_is | rfl | decide | kernel_rfl)
    (case a_require_chain => first | k_is | rfl | decide | kernel_rfl)
    (case l_require_chain => first | k_is | rfl | decide | kernel_rfl)
    (case d_require_chain => first | k_is | rfl | decide | kernel_rfl)
    (case e_require_chain => first | k_is | rfl | decide | kernel_rfl)
    (case a_cut_counts => first | k_is | rfl | decide | kernel_rfl)
    (case l_cut_counts => first | k_is | rfl | decide | kernel_rfl)
    (case d_cut_counts => first | k_is | rfl | decide | kernel_rfl)
    (case e_cut_counts => first | k_is | rfl | decide | kernel_rfl)
    (case a_classes_by_heap => first | k_is | rfl | decide | kernel_rfl)
    (case l_classes_by_heap => first | k_is | rfl | decide | kernel_rfl)
    (case d_classes_by_heap => first | k_is | rfl | decide | kernel_rfl)
    (case e_classes_by_heap => first | k_is | rfl | decide | kernel_rfl)
    (case a_count_at_least => first | k_is | rfl | decide | kernel_rfl)
    (case l_count_at_least => first | k_is | rfl | decide | kernel_rfl)
    (case d_count_at_least => first | k_is | rfl | decide | kernel_rfl)
    (case e_count_at_least => first | k_is | rfl | decide | kernel_rfl)
    (case a_is_integer => first | k_is | rfl | decide | kernel_rfl)
    (case l_is_integer => first | k_is | rfl | decide | kernel_rfl)
    (case d_is_integer => first | k_is | rfl | decide | kernel_rfl)
    (case e_is_integer => first | k_is | rfl | decide | kernel_rfl)
    (case a_require_degree => first | k_is | rfl | decide | kernel_rfl)
    (case l_require_degree => first | k_is | rfl | decide | kernel_rfl)
    (case d_require_degree => first | k_is | rfl | decide | kernel_rfl)
    (case e_require_degree => first | k_is | rfl | decide | kernel_rfl)
    (case a_classes_at_least => first | k_is | rfl | decide | kernel_rfl)
    (case l_classes_at_least => first | k_is | rfl | decide | kernel_rfl)
    (case d_classes_at_least => first | k_is | rfl | decide | kernel_rfl)
    (case e_classes_at_least => first | k_is | rfl | decide | kernel_rfl)
    (case a_count_by_richness => first | k_is | rfl | decide | kernel_rfl)
    (case l_count_by_richness => first | k_is | rfl | decide | kernel_rfl)
    (case d_count_by_richness => first | k_is | rfl | decide | kernel_rfl)
    (case e_count_by_richness => first | k_is | rfl | decide | kernel_rfl)
    (case a_classes_by_richness => first | k_is | rfl | decide | kernel_rfl)
    (case l_classes_by_richness => first | k_is | rfl | decide | kernel_rfl)
    (case d_classes_by_richness => first | k_is | rfl | decide | kernel_rfl)
    (case e_classes_by_richness => first | k_is | rfl | decide | kernel_rfl)
    (case a__law_chain_right => first | k_is | rfl | decide | kernel_rfl)
    (case l__law_chain_right => first | k_is | rfl | decide | kernel_rfl)
    (case d__law_chain_right => first | k_is | rfl | decide | kernel_rfl)
    (case e__law_chain_right => first | k_is | rfl | decide | kernel_rfl)
    (case ti__law_chain_right => first | k_is | rfl | decide | kernel_rfl)
    (case tn__law_chain_right => first | k_is | rfl | decide | kernel_rfl)
    (case tr__law_chain_right => first | k_is | rfl | decide | kernel_rfl)
    (case a__law_numbers_right => first | k_is | rfl | decide | kernel_rfl)
    (case l__law_numbers_right => first | k_is | rfl | decide | kernel_rfl)
    (case d__law_numbers_right => first | k_is | rfl | decide | kernel_rfl)
    (case e__law_numbers_right => first | k_is | rfl | decide | kernel_rfl)
    (case ti__law_numbers_right => first | k_is | rfl | decide | kernel_rfl)
    (case tn__law_numbers_right => first | k_is | rfl | decide | kernel_rfl)
    (case tr__law_numbers_right => first | k_is | rfl | decide | kernel_rfl)
    (case a_law => first | k_is | rfl | decide | kernel_rfl)
    (case l_law => first | k_is | rfl | decide | kernel_rfl)
    (case d_law => first | k_is | rfl | decide | kernel_rfl)
    (case e_law => first | k_is | rfl | decide | kernel_rfl)
    (case ti_law => first | k_is | rfl | decide | kernel_rfl)
    (case tn_law => first | k_is | rfl | decide | kernel_rfl)
    (case tr_law => first | k_is | rfl | decide | kernel_rfl)
    (case tw__law_chain_right__law_numbers_right => first | k_is | rfl | decide | kernel_rfl)
    (case tw__law_chain_right_law => first | k_is | rfl | decide | kernel_rfl)
    (case tw__law_numbers_right__law_chain_right => first | k_is | rfl | decide | kernel_rfl)
    (case tw__law_numbers_right_law => first | k_is | rfl | decide | kernel_rfl)
    (case tw_law__law_chain_right => first | k_is | rfl | decide | kernel_rfl)
    (case tw_law__law_numbers_right => first | k_is | rfl | decide | kernel_rfl)
    (case z_abs => first | k_is | rfl | decide | kernel_rfl)
    (case z_all => first | k_is | rfl | decide | kernel_rfl)
    (case z_bool => first | k_is | rfl | decide | kernel_rfl)
    (case z_enumerate => first | k_is | rfl | decide | kernel_rfl)
    (case z_int => first | k_is | rfl | decide | kernel_rfl)
    (case z_isinstance => first | k_is | rfl | decide | kernel_rfl)
    (case z_len => first | k_is | rfl | decide | kernel_rfl)
    (case z_list => first | k_is | rfl | decide | kernel_rfl)
    (case z_max => first | k_is | rfl | decide | kernel_rfl)
    (case z_min => first | k_is | rfl | decide | kernel_rfl)
    (case z_range => first | k_is | rfl | decide | kernel_rfl)
    (case z_repr => first | k_is | rfl | decide | kernel_rfl)
    (case z_sum => first | k_is | rfl | decide | kernel_rfl)
    (case z_tuple => first | k_is | rfl | decide | kernel_rfl)
    (case z_zip => first | k_is | rfl | decide | kernel_rfl)
    (case z_MOST_CUT => first | k_is | rfl | decide | kernel_rfl)
    (case z_MOST_DOUBLED => first | k_is | rfl | decide | kernel_rfl)
    (case z_MOST_HOOKED => first | k_is | rfl | decide | kernel_rfl)
    (case z_MOST_PLACES => first | k_is | rfl | decide | kernel_rfl)
    (case z_MOST_RICHNESS => first | k_is | rfl | decide | kernel_rfl)
    (case z_MOST_RINGS => first | k_is | rfl | decide | kernel_rfl)
    (case z_MOST_SIDE => first | k_is | rfl | decide | kernel_rfl)
    (case z_SIXTY_DIGITS => first | k_is | rfl | decide | kernel_rfl)
    (case z_fac => first | k_is | rfl | decide | kernel_rfl)
end
