import PyProof.Rows.All
import HandS.Conv
import HandS.Deep
import HandS.DictComp
import HandS.SetFor
import HandS.Small
import HandS.Style
import HandS.Zip
import KE.GoesNew
import KE.GoesZip
import KE.KDictZip
import PyProof.AutoSeq1
import PyProof.ListNew
import PyProof.LongRange
import Wide.All
import OpenK.AllK
import Wide.FinOn
import HandS.ForMost
import HandS.Exc
import HandS.TryOnly
import HandS.TryMany
import HandS.ExcOwn
import HandS.WordsExc
import HandS.Wide
import HandS.IsInst
import HandS.TupAny
import HandS.Lambda
import HandS.Slots
import KE.KExcSuper
import HandS.TupMul
import HandS.Gcd
import HandS.TupLe
import HandS.ExcField
import KE.GoesMore
import HandS.Star
import HandS.SortKw
import KE.DatumOrd
import KE.Datum
import KE.KTupSum
import HandS.DictTup
import KE.KDictCopyH
import KE.SortData
import KE.KDictPairs
import KE.KDictKeyed
import KE.KDictOf
import HandS.EndTab
import KE.KNest
import PyProof.ReprRoads
import HandS.RaiseMore
import HandS.CallLocal
import KE.KDictDisplayH
import KE.KMathGC
import HandS.SetKeys
import HandS.WordsDict
import HandS.TupLen
import HandS.AnyAll
import HandS.SetBool
import HandS.SlotsOwn
import HandS.RepeatKit
import HandS.Sort
import KE.KOpsOwn
import PyProof.Straight
import PyProof.GenCompD
import OpenK.KMeth
import OpenK.KLine
import HandS.More
import PyProof.InstNe
import OpenK.KOps
import PyProof.CallStr
import PyProof.Rows.Range3
import HandS.FStr
import PyProof.ExcBaseAll.OverflowError
import PyProof.ExcBaseAll.IndexError
import PySem.Challenge.RW_ringstairs_k47_whole_fillings_counted
set_option Elab.async false
set_option linter.all false
section

end
section
set_option maxRecDepth 100000
set_option maxHeartbeats 0

namespace Sm
open PySem L2

/-- plain data of a program; cel n: the n-th changing list of the state -/
inductive D where
  | non | bl (b : Bool) | int (i : Int) | str (x : Str)
  | tup (ds : List D) | lst (ds : List D)
  | cel (n : Nat) | opq (v : V)
  | err (c f : Str) (d : D)
  | fn (x : Str)
  | dk (ks : List Key) (ds : List D) | dt (ks : List (List Key)) (ds : List D)
  | set (ns : List Int) | ins (c : Str) (ds : List D)
  deriving Inhabited

inductive Ob where
  | l (ds : List D)
  | t (ks : List (List Key)) (ds : List D)
  | k (ks : List Key) (ds : List D)

abbrev Cells := List (Option Ob)
/-- a dict's key as data -/
def kD : Key → D
  | .inl i => .int i
  | .inr x => .str x
def kT (k : List Key) : D := .tup (k.map kD)
abbrev Env := List (Option D)

variable {K : PySem.W.Frag} {mg : Str → Option Value}
/-- the tables of code objects of a law, with the name that their code objects bear -/
class Tabs0 where
  T : List (Addr × Str)
instance (priority := low) tabs_none : Tabs0 := ⟨[]⟩
/-- a table whose code objects are known to stay -/
def TabR (Hf H : Hp) (P : Addr) (q : Str) : Prop := ∃ ps : Array Value, H P = some (.tbl ps) ∧ TriplesOk ps.toList ∧ ∀ (pos : Pos) (cv : Value), codeAmong pos ps.toList = some cv → ∃ c, cv = .ref c ∧ Hf c = some (LamX.CodeO c q)
theorem TabR.mono {Hf Hf' H H' : Hp} {P : Addr} {q : Str} (h : TabR Hf H P q) (e : ∀ b o, Hf b = some o → Hf' b = some o) (k : ∀ o, H P = some o → (∃ ps, o = .tbl ps) → H' P = some o) : TabR Hf' H' P q := by
  obtain ⟨ps, h1, h2, h3⟩ := h
  refine ⟨ps, k _ h1 ⟨ps, rfl⟩, h2, fun pos cv hc => ?_⟩
  obtain ⟨c, e1, e2⟩ := h3 pos cv hc
  exact ⟨c, e1, e _ _ e2⟩
theorem TabR.ne {Hf H : Hp} {P p : Addr} {q : Str} (h : TabR Hf H P q) (hp : H p = none) : P ≠ p := fun e => by
  obtain ⟨ps, h1, _⟩ := h
  rw [e, hp] at h1
  cases h1
theorem TabR.ne2 {Hf H : Hp} {P p : Addr} {q : Str} {o : HO} (h : TabR Hf H P q) (hp : H p = some o) (ho : ∀ ps, o ≠ .tbl ps) : P ≠ p := fun e => by
  obtain ⟨ps, h1, _⟩ := h
  rw [e, hp] at h1
  exact ho ps (Option.some.inj h1)
variable [Tabs0]

mutual
inductive Dat (K : PySem.W.Frag) (H : Hp) (ρ : List Addr) : V → D → Prop
  | non : Dat K H ρ .non .non
  | bl (b : Bool) : Dat K H ρ (.bl b) (.bl b)
  | int (i : Int) : Dat K H ρ (.int i) (.int i)
  | str (x : Str) : Dat K H ρ (.str x) (.str x)
  | tup {a : Addr} {xs : List V} {ds : List D} (h : H a = some (.tup xs)) (hs : Dats K H ρ xs ds) : Dat K H ρ (.ref a) (.tup ds)
  | lst {a : Addr} {xs : List V} {ds : List D} (h : SqL K H a xs) (hs : Dats K H ρ xs ds) : Dat K H ρ (.ref a) (.lst ds)
  | cel {n : Nat} {a : Addr} (h : ρ[n]? = some a) : Dat K H ρ (.ref a) (.cel n)
  | opq (v : V) : Dat K H ρ v (.opq v)
  | fn {x : Str} {a : Addr} (h : PySem.W.nsIn K mainGlobals x = some (some (.ref a))) : Dat K H ρ (.ref a) (.fn x)
  | dk {a : Addr} {ks : List Key} {xs : List V} {ds : List D} (h : ∃ o, H a = some (.frz o (.dK (ks.zip xs)))) (hl : ks.length = xs.length) (hs : Dats K H ρ xs ds) : Dat K H ρ (.ref a) (.dk ks ds)
  | dt {a : Addr} {ks : List (List Key)} {xs : List V} {ds : List D} (h : ∃ o, H a = some (.frz o (.dT (ks.zip xs)))) (hl : ks.length = xs.length) (hs : Dats K H ρ xs ds) : Dat K H ρ (.ref a) (.dt ks ds)
  | set {a : Addr} {ns : List Int} (hn : ns.Nodup) (h : H a = some (.set (fun k => decide (k ∈ ns)) ns.length)) : Dat K H ρ (.ref a) (.set ns)
  | ins {a C dx : Addr} {c : Str} {xs : List V} {ds : List D} (hc : PySem.W.nsIn K mainGlobals c = some (some (.ref C))) (h : H a = some (SlX.SlO a C dx (xs.map some))) (hd : H dx = some (.xd [])) (hs : Dats K H ρ xs ds) : Dat K H ρ (.ref a) (.ins c ds)
inductive Dats (K : PySem.W.Frag) (H : Hp) (ρ : List Addr) : List V → List D → Prop
  | nil : Dats K H ρ [] []
  | cons {v : V} {vs : List V} {d : D} {ds : List D} (h : Dat K H ρ v d) (hs : Dats K H ρ vs ds) : Dats K H ρ (v :: vs) (d :: ds)
end

theorem pre_get {ρ ρ' : List Addr} {n : Nat} {a : Addr} (p : ρ <+: ρ') (h : ρ[n]? = some a) : ρ'[n]? = some a := by
  obtain ⟨t, rfl⟩ := p
  have hn : n < ρ.length := (List.getElem?_eq_some_iff.mp h).1
  rw [List.getElem?_append_left hn]
  exact h

theorem same_rd {H H' : Hp} {a : Addr} {u : HO} (e : Same H H') (h : Rd H a u) : Rd H' a u := by
  rcases h with h | ⟨o, h⟩
  · exact .inl (e a _ h)
  · exact .inr ⟨o, e a _ h⟩
theorem same_l {H H' : Hp} {a : Addr} {xs : List V} (e : Same H H') (h : SqL K H a xs) : SqL K H' a xs := by
  rcases h with h | h
  · exact .inl (same_rd e h)
  · exact .inr h
theorem same_t {H H' : Hp} {a : Addr} {xs : List V} (e : Same H H') (h : SqT K H a xs) : SqT K H' a xs := by
  rcases h with h | h
  · exact .inl (same_rd e h)
  · exact .inr h

mutual
theorem Dat.mono {H H' : Hp} {ρ ρ' : List Addr} (e : Same H H') (p : ρ <+: ρ') {v : V} {d : D} (q : Dat K H ρ v d) : Dat K H' ρ' v d :=
  match q with
  | .non => .non
  | .bl b => .bl b
  | .int i => .int i
  | .str x => .str x
  | .tup h hs => .tup (e _ _ h) (Dats.mono e p hs)
  | .lst h hs => .lst (same_l e h) (Dats.mono e p hs)
  | .cel h => .cel (pre_get p h)
  | .opq v => .opq v
  | .fn h => .fn h
  | .dk ⟨o, h⟩ hl hs => .dk ⟨o, e _ _ h⟩ hl (Dats.mono e p hs)
  | .dt ⟨o, h⟩ hl hs => .dt ⟨o, e _ _ h⟩ hl (Dats.mono e p hs)
  | .set hn h => .set hn (e _ _ h)
  | .ins hc h hd hs => .ins hc (e _ _ h) (e _ _ hd) (Dats.mono e p hs)
theorem Dats.mono {H H' : Hp} {ρ ρ' : List Addr} (e : Same H H') (p : ρ <+: ρ') {vs : List V} {ds : List D} (q : Dats K H ρ vs ds) : Dats K H' ρ' vs ds :=
  match q with
  | .nil => .nil
  | .cons h hs => .cons (Dat.mono e p h) (Dats.mono e p hs)
end

theorem Dat.kV {H : Hp} {ρ : List Addr} : ∀ k : Key, Dat K H ρ (L2.kV k) (kD k)
  | .inl i => .int i
  | .inr x => .str x
theorem Dats.kVs {H : Hp} {ρ : List Addr} : ∀ k : List Key, Dats K H ρ (k.map L2.kV) (k.map kD)
  | [] => .nil
  | x :: k => .cons (Dat.kV x) (Dats.kVs k)
theorem Dats.len {H : Hp} {ρ : List Addr} : ∀ {vs : List V} {ds : List D}, Dats K H ρ vs ds → vs.length = ds.length
  | _, _, .nil => rfl
  | _, _, .cons _ hs => by rw [List.length_cons, List.length_cons, Dats.len hs]
theorem Dats.get {H : Hp} {ρ : List Addr} : ∀ {vs : List V} {ds : List D} {i : Nat} {d : D}, Dats K H ρ vs ds → ds[i]? = some d → ∃ v, vs[i]? = some v ∧ Dat K H ρ v d
  | _, _, _, _, .nil, h => by simp at h
  | _, _, 0, _, .cons h _, e => by
    have e' := Option.some.inj e
    subst e'
    exact ⟨_, rfl, h⟩
  | _, _, i + 1, _, .cons _ hs, e => by
    obtain ⟨v, h1, h2⟩ := Dats.get (i := i) hs (by simpa using e)
    exact ⟨v, by simpa using h1, h2⟩
theorem Dats.getV {H : Hp} {ρ : List Addr} : ∀ {vs : List V} {ds : List D} {i : Nat} {v : V}, Dats K H ρ vs ds → vs[i]? = some v → ∃ d, ds[i]? = some d ∧ Dat K H ρ v d
  | _, _, _, _, .nil, h => by simp at h
  | _, _, 0, _, .cons h _, e => by
    have e' := Option.some.inj e
    subst e'
    exact ⟨_, rfl, h⟩
  | _, _, i + 1, _, .cons _ hs, e => by
    obtain ⟨v, h1, h2⟩ := Dats.getV (i := i) hs (by simpa using e)
    exact ⟨v, by simpa using h1, h2⟩
theorem Dats.app {H : Hp} {ρ : List Addr} : ∀ {vs : List V} {ds : List D} {ws : List V} {es : List D}, Dats K H ρ vs ds → Dats K H ρ ws es → Dats K H ρ (vs ++ ws) (ds ++ es)
  | _, _, _, _, .nil, k => k
  | _, _, _, _, .cons h hs, k => .cons h (Dats.app hs k)
theorem Dats.take {H : Hp} {ρ : List Addr} : ∀ {vs : List V} {ds : List D} (n : Nat), Dats K H ρ vs ds → Dats K H ρ (vs.take n) (ds.take n)
  | _, _, 0, _ => .nil
  | _, _, _ + 1, .nil => .nil
  | _, _, n + 1, .cons h hs => .cons h (Dats.take n hs)
theorem Dats.drop {H : Hp} {ρ : List Addr} : ∀ {vs : List V} {ds : List D} (n : Nat), Dats K H ρ vs ds → Dats K H ρ (vs.drop n) (ds.drop n)
  | _, _, 0, h => h
  | _, _, _ + 1, .nil => .nil
  | _, _, n + 1, .cons _ hs => Dats.drop n hs
theorem Dats.set {H : Hp} {ρ : List Addr} {v : V} {d : D} (h : Dat K H ρ v d) : ∀ {vs : List V} {ds : List D} (n : Nat), Dats K H ρ vs ds → Dats K H ρ (vs.set n v) (ds.set n d)
  | _, _, _, .nil => .nil
  | _, _, 0, .cons _ hs => .cons h hs
  | _, _, n + 1, .cons q hs => .cons q (Dats.set h n hs)
theorem Dats.erase {H : Hp} {ρ : List Addr} : ∀ {vs : List V} {ds : List D} (n : Nat), Dats K H ρ vs ds → Dats K H ρ (vs.eraseIdx n) (ds.eraseIdx n)
  | _, _, _, .nil => .nil
  | _, _, 0, .cons _ hs => hs
  | _, _, n + 1, .cons q hs => .cons q (Dats.erase n hs)

mutual
/-- no changing list within -/
def nocel : D → Bool
  | .tup ds => nocels ds
  | .lst ds => nocels ds
  | .dk _ ds => nocels ds
  | .dt _ ds => nocels ds
  | .ins _ ds => nocels ds
  | .cel _ => false
  | .err _ _ _ => false
  | _ => true
def nocels : List D → Bool
  | [] => true
  | d :: ds => nocel d && nocels ds
end
mutual
theorem Dat.bare {H : Hp} {ρ : List Addr} {v : V} {d : D} (q : Dat K H ρ v d) (n : nocel d = true) : Dat K H [] v d :=
  match q with
  | .non => .non
  | .bl b => .bl b
  | .int i => .int i
  | .str x => .str x
  | .tup h hs => .tup h (Dats.bare hs (by simpa [nocel] using n))
  | .lst h hs => .lst h (Dats.bare hs (by simpa [nocel] using n))
  | .cel h => by simp [nocel] at n
  | .opq v => .opq v
  | .fn h => .fn h
  | .dk h hl hs => .dk h hl (Dats.bare hs (by simpa [nocel] using n))
  | .dt h hl hs => .dt h hl (Dats.bare hs (by simpa [nocel] using n))
  | .set hn h => .set hn h
  | .ins hc h hd hs => .ins hc h hd (Dats.bare hs (by simpa [nocel] using n))
theorem Dats.bare {H : Hp} {ρ : List Addr} {vs : List V} {ds : List D} (q : Dats K H ρ vs ds) (n : nocels ds = true) : Dats K H [] vs ds :=
  match q with
  | .nil => .nil
  | .cons h hs => .cons (Dat.bare h (by simp [nocels] at n; exact n.1)) (Dats.bare hs (by simp [nocels] at n; exact n.2))
end

/-- what a live cell is in the heap: its items hold no changing list -/
inductive ObR (K : PySem.W.Frag) (Hf : Hp) (ρ : List Addr) : Option HO → Ob → Prop
  | l {vs : List V} {ds : List D} (h : Dats K Hf [] vs ds) : ObR K Hf ρ (some (.lst vs)) (.l ds)
  | t {ks : List (List Key)} {vs : List V} {ds : List D} (hl : ks.length = vs.length) (h : Dats K Hf [] vs ds) : ObR K Hf ρ (some (.dT (ks.zip vs))) (.t ks ds)
  | k {ks : List Key} {vs : List V} {ds : List D} (hl : ks.length = vs.length) (h : Dats K Hf ρ vs ds) : ObR K Hf ρ (some (.dK (ks.zip vs))) (.k ks ds)

/-- what may stand both in the data and in the frame -/
def Stay : HO → Prop
  | .tup _ => True
  | .ext φ => ∃ b q, HO.ext φ = LamX.CodeO b q
  | _ => False
/-- Hf: what stays; F: the frame, which no step touches; C: what changes -/
structure SR (K : PySem.W.Frag) (Hf F : Hp) (ρ : List Addr) (C : Cells) (H : Hp) : Prop where
  ex : Same Hf H
  fr : Same F H
  ap : ∀ b o, F b = some o → Hf b = none ∨ Stay o
  len : ρ.length = C.length
  cel : ∀ (n : Nat) (a : Addr) (o : Ob), ρ[n]? = some a → C[n]? = some (some o) → (Hf a = none ∧ F a = none) ∧ ObR K Hf (ρ.take n) (H a) o
  inj : ∀ (m n : Nat) (a : Addr) (o u : Ob), ρ[m]? = some a → ρ[n]? = some a → C[m]? = some (some o) → C[n]? = some (some u) → m = n
  tab : ∀ p ∈ Tabs0.T, (Hf p.1 = none ∧ F p.1 = none) ∧ TabR Hf H p.1 p.2
  nt : ∀ b ps, Hf b ≠ some (.tbl ps) ∧ F b ≠ some (.tbl ps)

theorem ObR.monoP {Hf Hf' : Hp} {ρ ρ' : List Addr} (e : Same Hf Hf') (p : ρ <+: ρ') {ho : Option HO} {o : Ob} (h : ObR K Hf ρ ho o) : ObR K Hf' ρ' ho o := by
  cases h with
  | l h => exact .l (h.mono e (List.prefix_refl _))
  | t hl h => exact .t hl (h.mono e (List.prefix_refl _))
  | k hl h => exact .k hl (h.mono e p)
theorem ObR.mono {Hf Hf' : Hp} {ρ : List Addr} (e : Same Hf Hf') {ho : Option HO} {o : Ob} (h : ObR K Hf ρ ho o) : ObR K Hf' ρ ho o := h.monoP e (List.prefix_refl _)
theorem ObR.lst {Hf : Hp} {ρ : List Addr} {ho : Option HO} {ds : List D} (h : ObR K Hf ρ ho (.l ds)) : ∃ vs, ho = some (.lst vs) ∧ Dats K Hf [] vs ds := by
  cases h with
  | l h => exact ⟨_, rfl, h⟩
theorem ObR.some {Hf : Hp} {ρ : List Addr} {ho : Option HO} {o : Ob} (h : ObR K Hf ρ ho o) : ∃ u, ho = some u := by
  cases h with
  | l h => exact ⟨_, rfl⟩
  | t hl h => exact ⟨_, rfl⟩
  | k hl h => exact ⟨_, rfl⟩
theorem ObR.ntbl {Hf : Hp} {ρ : List Addr} {ho : Option HO} {o : Ob} (h : ObR K Hf ρ ho o) : ∃ u, ho = Option.some u ∧ ∀ ps, u ≠ .tbl ps := by
  cases h with
  | l h => exact ⟨_, rfl, fun ps e => by cases e⟩
  | t hl h => exact ⟨_, rfl, fun ps e => by cases e⟩
  | k hl h => exact ⟨_, rfl, fun ps e => by cases e⟩
theorem ObR.dct {Hf : Hp} {ρ : List Addr} {ho : Option HO} {ks : List (List Key)} {ds : List D} (h : ObR K Hf ρ ho (.t ks ds)) : ∃ vs, ho = Option.some (.dT (ks.zip vs)) ∧ ks.length = vs.length ∧ Dats K Hf [] vs ds := by
  cases h with
  | t hl h => exact ⟨_, rfl, hl, h⟩
theorem ObR.any {Hf : Hp} {ρ : List Addr} {ho : Option HO} {o : Ob} (h : ObR K Hf ρ ho o) {r : List Addr} (n : ∀ ks ds, o ≠ .k ks ds) : ObR K Hf r ho o := by
  cases h with
  | l h => exact .l h
  | t hl h => exact .t hl h
  | k hl h => exact absurd rfl (n _ _)
theorem ObR.dkt {Hf : Hp} {ρ : List Addr} {ho : Option HO} {ks : List Key} {ds : List D} (h : ObR K Hf ρ ho (.k ks ds)) : ∃ vs, ho = Option.some (.dK (ks.zip vs)) ∧ ks.length = vs.length ∧ Dats K Hf ρ vs ds := by
  cases h with
  | k hl h => exact ⟨_, rfl, hl, h⟩

/-- a new object that stays as it is -/
theorem SR.new {Hf F : Hp} {ρ : List Addr} {C : Cells} {H : Hp} (S : SR K Hf F ρ C H) {p : Addr} {o : HO} (hp : H p = none) (ho : ∀ ps, o ≠ .tbl ps := by intro _ e; cases e) : SR K (upd Hf p o) F ρ C (upd H p o) ∧ Same Hf (upd Hf p o) := by
  have hf : Hf p = none := S.ex.free hp
  have e0 : Same Hf (upd Hf p o) := fun b u h => by
    rw [upd_ne (ne_of_none h hf)]
    exact h
  refine ⟨⟨fun b u h => ?_, fun b u h => ?_, fun b u h => ?_, S.len, fun n a u h1 h2 => ?_, S.inj, fun t ht => ?_, fun b ps => ⟨fun e => by
    by_cases hb : b = p
    · rw [hb, upd_same] at e
      exact ho ps (Option.some.inj e)
    · rw [upd_ne hb] at e
      exact (S.nt b ps).1 e, (S.nt b ps).2⟩⟩, e0⟩
  · by_cases hb : b = p
    · subst hb
      rw [upd_same] at h ⊢
      exact h
    · rw [upd_ne hb] at h ⊢
      exact S.ex b u h
  · rw [upd_ne (ne_of_none (S.fr b u h) hp)]
    exact S.fr b u h
  · rw [upd_ne (ne_of_none (S.fr b u h) hp)]
    exact S.ap b u h
  · obtain ⟨k1, k2⟩ := S.cel n a u h1 h2
    obtain ⟨w, hw⟩ := k2.some
    have ha : a ≠ p := ne_of_none hw hp
    rw [upd_ne ha, upd_ne ha]
    exact ⟨k1, k2.mono e0⟩
  · obtain ⟨k1, k2⟩ := S.tab t ht
    have ha : t.1 ≠ p := k2.ne hp
    rw [upd_ne ha]
    exact ⟨k1, k2.mono e0 fun o h _ => by rw [upd_ne ha]; exact h⟩
/-- a new changing list -/
theorem SR.newOb {Hf F : Hp} {ρ : List Addr} {C : Cells} {H : Hp} (S : SR K Hf F ρ C H) {p : Addr} {ho : HO} {ob : Ob} (hp : H p = none) (h : ObR K Hf ρ (some ho) ob) :
    SR K Hf F (ρ ++ [p]) (C ++ [some ob]) (upd H p ho) := by
  have hf : Hf p = none := S.ex.free hp
  refine ⟨fun b u q => ?_, fun b u q => ?_, S.ap, by rw [List.length_append, List.length_append, S.len]; rfl, fun n a u h1 h2 => ?_, fun m n a o u h1 h2 h3 h4 => ?_, fun t ht => ⟨(S.tab t ht).1, (S.tab t ht).2.mono (fun _ _ h => h) fun o h _ => by rw [upd_ne ((S.tab t ht).2.ne hp)]; exact h⟩, S.nt⟩
  · rw [upd_ne (ne_of_none q hf)]
    exact S.ex b u q
  · rw [upd_ne (ne_of_none (S.fr b u q) hp)]
    exact S.fr b u q
  · by_cases hn : n < ρ.length
    · rw [List.getElem?_append_left hn] at h1
      rw [List.getElem?_append_left (by rw [← S.len]; exact hn)] at h2
      obtain ⟨k1, k2⟩ := S.cel n a u h1 h2
      obtain ⟨w, hw⟩ := k2.some
      rw [upd_ne (ne_of_none hw hp)]
      rw [List.take_append_of_le_length (Nat.le_of_lt hn)]
      exact ⟨k1, k2⟩
    · have hn' := (List.getElem?_eq_some_iff.mp h1).1
      rw [List.length_append] at hn'
      have hl : ([p] : List Addr).length = 1 := rfl
      have en : n = ρ.length := by omega
      subst en
      rw [List.getElem?_append_right (Nat.le_refl _), Nat.sub_self] at h1
      have ea : p = a := Option.some.inj h1
      rw [S.len, List.getElem?_append_right (Nat.le_refl _), Nat.sub_self] at h2
      have eu : ob = u := Option.some.inj (Option.some.inj h2)
      subst ea
      subst eu
      rw [upd_same, List.take_append_of_le_length (Nat.le_refl _), List.take_length]
      exact ⟨⟨hf, S.fr.free hp⟩, h⟩
  · have old : ∀ {k : Nat} {b : Addr} {o : Ob}, k < ρ.length → (ρ ++ [p])[k]? = some b → (C ++ [some ob])[k]? = some (some o) → ρ[k]? = some b ∧ C[k]? = some (some o) ∧ b ≠ p := fun {k b o} hk g1 g2 => by
      rw [List.getElem?_append_left hk] at g1
      rw [List.getElem?_append_left (by rw [← S.len]; exact hk)] at g2
      obtain ⟨_, k2⟩ := S.cel k b o g1 g2
      obtain ⟨w, hw⟩ := k2.some
      exact ⟨g1, g2, ne_of_none hw hp⟩
    have new : ∀ {k : Nat} {b : Addr}, ¬ k < ρ.length → (ρ ++ [p])[k]? = some b → k = ρ.length ∧ p = b := fun {k b} hk g1 => by
      have hn' := (List.getElem?_eq_some_iff.mp g1).1
      rw [List.length_append] at hn'
      have hl : ([p] : List Addr).length = 1 := rfl
      have en : k = ρ.length := by omega
      subst en
      rw [List.getElem?_append_right (Nat.le_refl _), Nat.sub_self] at g1
      exact ⟨rfl, Option.some.inj g1⟩
    by_cases hm : m < ρ.length
    · obtain ⟨a1, a2, a3⟩ := old hm h1 h3
      by_cases hn : n < ρ.length
      · obtain ⟨b1, b2, b3⟩ := old hn h2 h4
        exact S.inj m n a o u a1 b1 a2 b2
      · exact absurd (new hn h2).2.symm a3
    · obtain ⟨rfl, e1⟩ := new hm h1
      by_cases hn : n < ρ.length
      · obtain ⟨b1, b2, b3⟩ := old hn h2 h4
        exact absurd e1.symm b3
      · exact (new hn h2).1.symm
theorem SR.newCel {Hf F : Hp} {ρ : List Addr} {C : Cells} {H : Hp} (S : SR K Hf F ρ C H) {p : Addr} {vs : List V} {ds : List D} (hp : H p = none) (h : Dats K Hf [] vs ds) :
    SR K Hf F (ρ ++ [p]) (C ++ [some (.l ds)]) (upd H p (.lst vs)) := S.newOb hp (.l h)
/-- a changing list is changed -/
theorem SR.setOb {Hf F : Hp} {ρ : List Addr} {C : Cells} {H : Hp} (S : SR K Hf F ρ C H) {n : Nat} {a : Addr} {o ob : Ob} {ho : HO} (hn : ρ[n]? = some a) (hc : C[n]? = some (some o)) (h : ObR K Hf (ρ.take n) (some ho) ob) :
    SR K Hf F ρ (C.set n (some ob)) (upd H a ho) := by
  have hf := (S.cel n a o hn hc).1
  have hl : n < C.length := (List.getElem?_eq_some_iff.mp hc).1
  have live : ∀ {m : Nat} {u : Ob}, (C.set n (some ob))[m]? = some (some u) → ∃ u', C[m]? = some (some u') := fun {m u} g => by
    by_cases hm : n = m
    · exact ⟨o, by rw [← hm]; exact hc⟩
    · rw [List.getElem?_set_ne hm] at g
      exact ⟨u, g⟩
  refine ⟨fun b u q => ?_, fun b u q => ?_, S.ap, by rw [List.length_set]; exact S.len, fun m b u h1 h2 => ?_, fun i j b u w h1 h2 h3 h4 => ?_, fun t ht => ⟨(S.tab t ht).1, (S.tab t ht).2.mono (fun _ _ h => h) fun o' h' _ => by
    obtain ⟨w, hw, hn⟩ := (S.cel n a o hn hc).2.ntbl
    rw [upd_ne ((S.tab t ht).2.ne2 hw hn)]
    exact h'⟩, S.nt⟩
  · rw [upd_ne (ne_of_none q hf.1)]
    exact S.ex b u q
  · rw [upd_ne (ne_of_none q hf.2)]
    exact S.fr b u q
  · by_cases hm : n = m
    · subst hm
      rw [List.getElem?_set_self hl] at h2
      have eu : ob = u := Option.some.inj (Option.some.inj h2)
      subst eu
      have eb : a = b := Option.some.inj (hn.symm.trans h1)
      subst eb
      rw [upd_same]
      exact ⟨hf, h⟩
    · rw [List.getElem?_set_ne hm] at h2
      obtain ⟨k1, k2⟩ := S.cel m b u h1 h2
      have hb : b ≠ a := fun e => hm (S.inj n m a o u hn (by rw [← e]; exact h1) hc h2)
      rw [upd_ne hb]
      exact ⟨k1, k2⟩
  · obtain ⟨u', g3⟩ := live h3
    obtain ⟨w', g4⟩ := live h4
    exact S.inj i j b u' w' h1 h2 g3 g4
theorem SR.setCel {Hf F : Hp} {ρ : List Addr} {C : Cells} {H : Hp} (S : SR K Hf F ρ C H) {n : Nat} {a : Addr} {o : Ob} {vs : List V} {ds : List D} (hn : ρ[n]? = some a) (hc : C[n]? = some (some o)) (h : Dats K Hf [] vs ds) :
    SR K Hf F ρ (C.set n (some (.l ds))) (upd H a (.lst vs)) := S.setOb hn hc (.l h)
/-- a cell is given up -/
theorem SR.drop {Hf F : Hp} {ρ : List Addr} {C : Cells} {H : Hp} (S : SR K Hf F ρ C H) (n : Nat) : SR K Hf F ρ (C.set n none) H := by
  have live : ∀ {m : Nat} {u : Ob}, (C.set n none)[m]? = some (some u) → C[m]? = some (some u) := fun {m u} g => by
    by_cases hm : n = m
    · subst hm
      by_cases hl : n < C.length
      · rw [List.getElem?_set_self hl] at g
        cases g
      · rw [List.getElem?_eq_none (by rw [List.length_set]; omega)] at g
        cases g
    · rw [List.getElem?_set_ne hm] at g
      exact g
  exact ⟨S.ex, S.fr, S.ap, by rw [List.length_set]; exact S.len, fun m b u h1 h2 => S.cel m b u h1 (live h2), fun i j b u w h1 h2 h3 h4 => S.inj i j b u w h1 h2 (live h3) (live h4), S.tab, S.nt⟩
/-- a changing list changes no more: it is data from now on -/
theorem SR.freeze {Hf F : Hp} {ρ : List Addr} {C : Cells} {H : Hp} (S : SR K Hf F ρ C H) {n : Nat} {a : Addr} {ds : List D} (hn : ρ[n]? = some a) (hc : C[n]? = some (some (.l ds))) :
    ∃ Hf', Same Hf Hf' ∧ SR K Hf' F ρ (C.set n none) H ∧ Dat K Hf' ρ (.ref a) (.lst ds) := by
  obtain ⟨hf, k⟩ := S.cel n a _ hn hc
  obtain ⟨vs, hv, hd⟩ := k.lst
  have e0 : Same Hf (upd Hf a (.lst vs)) := fun b u h => by
    rw [upd_ne (ne_of_none h hf.1)]
    exact h
  have S' := S.drop n
  refine ⟨upd Hf a (.lst vs), e0, ⟨fun b u h => ?_, S'.fr, fun b u h => ?_, S'.len, fun m b u h1 h2 => ?_, S'.inj, fun t ht => by
    have ha := (S.tab t ht).2.ne2 hv (fun ps e => by cases e)
    exact ⟨by rw [upd_ne ha]; exact (S.tab t ht).1, (S.tab t ht).2.mono e0 fun o h _ => h⟩, fun b ps => ⟨fun e => by
    by_cases hb : b = a
    · rw [hb, upd_same] at e
      cases e
    · rw [upd_ne hb] at e
      exact (S.nt b ps).1 e, (S.nt b ps).2⟩⟩, .lst (.inl (.inl upd_same)) (hd.mono e0 List.nil_prefix)⟩
  · by_cases hb : b = a
    · subst hb
      rw [upd_same] at h
      rw [hv]
      exact h
    · rw [upd_ne hb] at h
      exact S.ex b u h
  · rw [upd_ne (ne_of_none h hf.2)]
    exact S.ap b u h
  · obtain ⟨k1, k2⟩ := S'.cel m b u h1 h2
    have hm : m ≠ n := fun e => by
      subst e
      have hl : m < C.length := (List.getElem?_eq_some_iff.mp hc).1
      rw [List.getElem?_set_self hl] at h2
      cases h2
    have h2' : C[m]? = some (some u) := by
      rw [List.getElem?_set_ne (Ne.symm hm)] at h2
      exact h2
    have hb : b ≠ a := fun e => hm (S.inj m n a u _ (by rw [← e]; exact h1) hn h2' hc)
    rw [upd_ne hb]
    exact ⟨k1, k2.mono e0⟩
/-- a tuple that stands is data -/
theorem SR.addTup {Hf F : Hp} {ρ : List Addr} {C : Cells} {H : Hp} (S : SR K Hf F ρ C H) {q : Addr} {xs : List V} (hq : H q = some (.tup xs)) : ∃ Hf', Same Hf Hf' ∧ SR K Hf' F ρ C H ∧ Hf' q = some (.tup xs) := by
  cases hn : Hf q with
  | some o =>
    have := S.ex q o hn
    rw [hq] at this
    exact ⟨Hf, fun b u h => h, S, by rw [hn]; exact this.symm⟩
  | none =>
    have e0 : Same Hf (upd Hf q (.tup xs)) := fun b u h => by
      rw [upd_ne (ne_of_none h hn)]
      exact h
    refine ⟨_, e0, ⟨fun b u h => ?_, S.fr, fun b u h => ?_, S.len, fun n a u h1 h2 => ?_, S.inj, fun t ht => by
      have ha := (S.tab t ht).2.ne2 hq (fun ps e => by cases e)
      exact ⟨by rw [upd_ne ha]; exact (S.tab t ht).1, (S.tab t ht).2.mono e0 fun o h _ => h⟩, fun b ps => ⟨fun e => by
    by_cases hb : b = q
    · rw [hb, upd_same] at e
      cases e
    · rw [upd_ne hb] at e
      exact (S.nt b ps).1 e, (S.nt b ps).2⟩⟩, upd_same⟩
    · by_cases hb : b = q
      · subst hb
        rw [upd_same] at h
        rw [hq]
        exact h
      · rw [upd_ne hb] at h
        exact S.ex b u h
    · by_cases hb : b = q
      · subst hb
        have := S.fr b u h
        rw [hq] at this
        exact .inr (by rw [← Option.some.inj this]; trivial)
      · rw [upd_ne hb]
        exact S.ap b u h
    · obtain ⟨k1, k2⟩ := S.cel n a u h1 h2
      have ha : a ≠ q := fun e => by
        subst e
        rw [hq] at k2
        cases k2
      rw [upd_ne ha]
      exact ⟨k1, k2.mono e0⟩
/-- a dict changes no more: it is locked, and data from now on -/
theorem SR.lockT {Hf F : Hp} {ρ : List Addr} {C : Cells} {H : Hp} (S : SR K Hf F ρ C H) {n : Nat} {a : Addr} {ks : List (List Key)} {ds : List D} (hn : ρ[n]? = some a) (hc : C[n]? = some (some (.t ks ds))) :
    ∃ vs, H a = some (.dT (ks.zip vs)) ∧ ∀ od, ∃ Hf', Same Hf Hf' ∧ SR K Hf' F ρ (C.set n none) (upd H a (.frz od (.dT (ks.zip vs)))) ∧ Dat K Hf' ρ (.ref a) (.dt ks ds) := by
  obtain ⟨hf, k⟩ := S.cel n a _ hn hc
  obtain ⟨vs, hv, hl, hd⟩ := k.dct
  refine ⟨vs, hv, fun od => ?_⟩
  have e0 : Same Hf (upd Hf a (.frz od (.dT (ks.zip vs)))) := fun b u h => by
    rw [upd_ne (ne_of_none h hf.1)]
    exact h
  have S' := S.drop n
  refine ⟨_, e0, ⟨fun b u h => ?_, fun b u h => ?_, fun b u h => ?_, S'.len, fun m b u h1 h2 => ?_, S'.inj, fun t ht => by
    have ha := (S.tab t ht).2.ne2 hv (fun ps e => by cases e)
    exact ⟨by rw [upd_ne ha]; exact (S.tab t ht).1, (S.tab t ht).2.mono e0 fun o h _ => by rw [upd_ne ha]; exact h⟩, fun b ps => ⟨fun e => by
    by_cases hb : b = a
    · rw [hb, upd_same] at e
      cases e
    · rw [upd_ne hb] at e
      exact (S.nt b ps).1 e, (S.nt b ps).2⟩⟩, .dt ⟨od, upd_same⟩ hl (hd.mono e0 List.nil_prefix)⟩
  · by_cases hb : b = a
    · subst hb
      rw [upd_same] at h ⊢
      exact h
    · rw [upd_ne hb] at h ⊢
      exact S.ex b u h
  · rw [upd_ne (ne_of_none h hf.2)]
    exact S.fr b u h
  · rw [upd_ne (ne_of_none h hf.2)]
    exact S.ap b u h
  · obtain ⟨k1, k2⟩ := S'.cel m b u h1 h2
    have hm : m ≠ n := fun e => by
      subst e
      have hl : m < C.length := (List.getElem?_eq_some_iff.mp hc).1
      rw [List.getElem?_set_self hl] at h2
      cases h2
    have h2' : C[m]? = some (some u) := by
      rw [List.getElem?_set_ne (Ne.symm hm)] at h2
      exact h2
    have hb : b ≠ a := fun e => hm (S.inj m n a u _ (by rw [← e]; exact h1) hn h2' hc)
    rw [upd_ne hb, upd_ne hb]
    exact ⟨k1, k2.mono e0⟩
/-- a new dict that is locked at once -/
theorem SR.newT {Hf F : Hp} {ρ : List Addr} {C : Cells} {H : Hp} (S : SR K Hf F ρ C H) {p : Addr} {od : Obj} {ks : List (List Key)} {xs : List V} {ds : List D} (hp : H p = none) (hl : ks.length = xs.length) (hd : Dats K Hf ρ xs ds) :
    ∃ Hf', Same Hf Hf' ∧ SR K Hf' F ρ C (upd H p (.frz od (.dT (ks.zip xs)))) ∧ Dat K Hf' ρ (.ref p) (.dt ks ds) := by
  obtain ⟨S1, e1⟩ := S.new (o := .frz od (.dT (ks.zip xs))) hp
  exact ⟨_, e1, S1, .dt ⟨od, upd_same⟩ hl (hd.mono e1 (List.prefix_refl _))⟩
/-- cells behind the first n are forgotten -/
theorem SR.cut {Hf F : Hp} {ρ : List Addr} {C : Cells} {H : Hp} (S : SR K Hf F ρ C H) (n : Nat) : SR K Hf F (ρ.take n) (C.take n) H := by
  refine ⟨S.ex, S.fr, S.ap, by rw [List.length_take, List.length_take, S.len], fun m a o h1 h2 => ?_, fun i j a o u h1 h2 h3 h4 => ?_, S.tab, S.nt⟩
  · rw [List.getElem?_take] at h1 h2
    split at h1
    · rename_i hm
      rw [if_pos hm] at h2
      obtain ⟨k1, k2⟩ := S.cel m a o h1 h2
      refine ⟨k1, ?_⟩
      rw [List.take_take, Nat.min_eq_left (Nat.le_of_lt hm)]
      exact k2
    · cases h1
  · rw [List.getElem?_take] at h1 h2 h3 h4
    split at h1
    · rename_i hi
      rw [if_pos hi] at h3
      split at h2
      · rename_i hj
        rw [if_pos hj] at h4
        exact S.inj i j a o u h1 h2 h3 h4
      · cases h2
    · cases h1

/-- within an except suite: the error's slot, the error, its class, its own dict -/
abbrev XC := Option (Nat × Addr × Value × Option Addr)
def isErr : D → Bool
  | .err _ _ _ => true
  | _ => false
theorem Dat.noErr {H : Hp} {ρ : List Addr} {v : V} {d : D} (h : Dat K H ρ v d) : isErr d = false := by cases h <;> rfl
/-- the slots' values -/
structure EnvR (K : PySem.W.Frag) (mg : Str → Option Value) (xc : XC) (Hf : Hp) (ρ : List Addr) (σ : L2.St) (env : Env) : Prop where
  len : σ.length = env.length
  at_ : ∀ (i : Nat) (d : D), env[i]? = some (some d) → isErr d = false → ∃ v, σ[i]? = some (some v) ∧ Dat K Hf ρ v d
  exc : ∀ (i : Nat) (a : Addr) (cls : Value) (dd : Option Addr) (c f : Str) (d : D), xc = some (i, a, cls, dd) → env[i]? = some (some (.err c f d)) →
    σ[i]? = some (some (.ref a)) ∧ ∃ (b C : Addr) (v : V), dd = some b ∧ cls = .ref C ∧ mg c = some (.ref C) ∧ Hf b = some (.xd [(f, v)]) ∧ Dat K Hf ρ v d
variable {xc : XC}
theorem EnvR.mono {Hf Hf' : Hp} {ρ ρ' : List Addr} {σ : L2.St} {env : Env} (h : EnvR K mg xc Hf ρ σ env) (e : Same Hf Hf') (p : ρ <+: ρ') : EnvR K mg xc Hf' ρ' σ env :=
  ⟨h.len, fun i d q n => by
    obtain ⟨v, h1, h2⟩ := h.at_ i d q n
    exact ⟨v, h1, h2.mono e p⟩, fun i a cls dd c f d hx q => by
    obtain ⟨h1, b, C, v, h2, h3, h4, h5, h6⟩ := h.exc i a cls dd c f d hx q
    exact ⟨h1, b, C, v, h2, h3, h4, e _ _ h5, h6.mono e p⟩⟩
theorem set_some {env : Env} {i j : Nat} {d e : D} (h : (env.set i (some d))[j]? = some (some e)) : (i = j ∧ e = d ∧ i < env.length) ∨ (i ≠ j ∧ env[j]? = some (some e)) := by
  by_cases hi : i = j
  · subst hi
    by_cases hl : i < env.length
    · rw [List.getElem?_set_self hl] at h
      exact .inl ⟨rfl, (Option.some.inj (Option.some.inj h)).symm, hl⟩
    · rw [List.getElem?_eq_none (by rw [List.length_set]; omega)] at h
      cases h
  · rw [List.getElem?_set_ne hi] at h
    exact .inr ⟨hi, h⟩
theorem EnvR.set {Hf : Hp} {ρ : List Addr} {σ : L2.St} {env : Env} (h : EnvR K mg xc Hf ρ σ env) {v : V} {d : D} (q : Dat K Hf ρ v d) (i : Nat) : EnvR K mg xc Hf ρ (σ.set i (some v)) (env.set i (some d)) := by
  refine ⟨by rw [List.length_set, List.length_set]; exact h.len, fun j e hj n => ?_, fun j a cls dd c f e hx hj => ?_⟩
  · rcases set_some hj with ⟨rfl, rfl, hl⟩ | ⟨hi, hj⟩
    · exact ⟨v, List.getElem?_set_self (by rw [h.len]; exact hl), q⟩
    · rw [List.getElem?_set_ne hi]
      exact h.at_ j e hj n
  · rcases set_some hj with ⟨rfl, rfl, hl⟩ | ⟨hi, hj⟩
    · have := q.noErr
      cases this
    · rw [List.getElem?_set_ne hi]
      exact h.exc j a cls dd c f e hx hj
theorem EnvR.plain {Hf : Hp} {ρ : List Addr} {σ : L2.St} {env : Env} (h : EnvR K mg xc Hf ρ σ env) : EnvR K mg none Hf ρ σ env := ⟨h.len, h.at_, fun _ _ _ _ _ _ _ hx => nomatch hx⟩
/-- what is wished of an exception, and the suite that one is in -/
structure Wh where
  w : WX
  xc : XC := none
end Sm
end
section
set_option maxRecDepth 100000
set_option maxHeartbeats 0
namespace Sm
variable [Tabs0]
open PySem L2
variable {K : PySem.W.Frag} {mg : Str → Option Value}

/-! ### the pure machine: what a piece of program comes to over slots and cells -/
inductive R (α : Type) where
  | ok (a : α) (C : Cells)
  | ex (c : Str) (p : Option (Str × D)) (C : Cells)
abbrev S (α : Type) := Env → Cells → Option (R α)
def S.bind {α β : Type} (s : S α) (k : α → S β) : S β := fun e C => match s e C with
  | none => none
  | some (.ex c p C') => some (.ex c p C')
  | some (.ok a C') => k a e C'
def S.val {α : Type} (a : α) : S α := fun _ C => some (.ok a C)
def S.opt {α : Type} (o : Option α) : S α := fun _ C => match o with
  | some a => some (.ok a C)
  | none => none

/-- an exception of the class named c, with what it keeps -/
def ExR (K : PySem.W.Frag) (mg : Str → Option Value) (Hf : Hp) (ρ : List Addr) (c : Str) (p : Option (Str × D)) (cls : Value) (dd : Option Addr) : Prop :=
  ∃ a : Addr, mg c = some (.ref a) ∧ cls = .ref a ∧ match p with
    | none => dd = none
    | some (f, d) => ∃ (b : Addr) (v : V), dd = some b ∧ Hf b = some (.xd [(f, v)]) ∧ Dat K Hf ρ v d

section
variable {α β γ δ : Type}
/-- what is to be shown of an outcome -/
def Go (K : PySem.W.Frag) (mg : Str → Option Value) (W : Wh) (Rel : Hp → List Addr → β → α → Prop) (σ : L2.St) (Hf F : Hp) (ρ : List Addr) (r : Option (R α)) (Q : β → Hp → Prop) : Prop :=
  match r with
  | none => False
  | some (.ok a C') => ∀ v H' Hf' ρ', Same Hf Hf' → ρ <+: ρ' → SR K Hf' F ρ' C' H' → Rel Hf' ρ' v a → Q v H'
  | some (.ex c p C') => ∀ cls dd H' Hf' ρ', Same Hf Hf' → ρ <+: ρ' → SR K Hf' F ρ' C' H' → ExR K mg Hf' ρ' c p cls dd → W.w cls dd σ H'
def tG (K : PySem.W.Frag) (mg : Str → Option Value) (W : Wh) (Rel : Hp → List Addr → β → α → Prop) (s : S α) : L2.St → Hp → (β → Hp → Prop) → Prop := fun σ H Q =>
  ∃ Hf F ρ env C, SR K Hf F ρ C H ∧ EnvR K mg W.xc Hf ρ σ env ∧ Go K mg W Rel σ Hf F ρ (s env C) Q

variable {W : Wh} {σ : L2.St} {Hf Hf1 F : Hp} {ρ ρ1 : List Addr} {C : Cells} {env : Env} {H : Hp}
theorem Go.later {Rel : Hp → List Addr → β → α → Prop} {r : Option (R α)} {Q : β → Hp → Prop} (h : Go K mg W Rel σ Hf F ρ r Q) (e : Same Hf Hf1) (p : ρ <+: ρ1) : Go K mg W Rel σ Hf1 F ρ1 r Q := by
  cases r with
  | none => exact h
  | some r =>
    cases r with
    | ok a C' => exact fun v H' Hf' ρ' e' p' => h v H' Hf' ρ' (e.trans e') (p.trans p')
    | ex c q C' => exact fun cls dd H' Hf' ρ' e' p' => h cls dd H' Hf' ρ' (e.trans e') (p.trans p')
theorem Go.mono {Rel : Hp → List Addr → β → α → Prop} {r : Option (R α)} {Q Q' : β → Hp → Prop} (h : Go K mg W Rel σ Hf F ρ r Q) (k : ∀ v H', Q v H' → Q' v H') : Go K mg W Rel σ Hf F ρ r Q' := by
  cases r with
  | none => exact h
  | some r =>
    cases r with
    | ok a C' => exact fun v H' Hf' ρ' e' p' s' q' => k _ _ (h v H' Hf' ρ' e' p' s' q')
    | ex c q C' => exact h
/-- a part first, the rest behind it -/
theorem Go.bind {Rel : Hp → List Addr → β → α → Prop} {Rel2 : Hp → List Addr → δ → γ → Prop} {s : S α} {k : α → S γ} {Q : δ → Hp → Prop} (h : Go K mg W Rel2 σ Hf F ρ (S.bind s k env C) Q) :
    Go K mg W Rel σ Hf F ρ (s env C) (fun v H1 => ∃ Hf1 ρ1 C1 a, Same Hf Hf1 ∧ ρ <+: ρ1 ∧ SR K Hf1 F ρ1 C1 H1 ∧ Rel Hf1 ρ1 v a ∧ Go K mg W Rel2 σ Hf1 F ρ1 (k a env C1) Q) := by
  unfold S.bind at h
  cases e : s env C with
  | none =>
    rw [e] at h
    exact h
  | some r =>
    rw [e] at h
    cases r with
    | ok a C' => exact fun v H' Hf' ρ' e' p' s' q' => ⟨Hf', ρ', C', a, e', p', s', q', Go.later h e' p'⟩
    | ex c q C' => exact h
theorem Go.val {Rel : Hp → List Addr → β → α → Prop} {a : α} {Q : β → Hp → Prop} {v : β} (h : Go K mg W Rel σ Hf F ρ (S.val a env C) Q) (S0 : SR K Hf F ρ C H) (r : Rel Hf ρ v a) : Q v H :=
  h v H Hf ρ (Same.refl _) (List.prefix_refl _) S0 r
theorem Go.opt {Rel : Hp → List Addr → β → α → Prop} {o : Option α} {Q : β → Hp → Prop} (h : Go K mg W Rel σ Hf F ρ (S.opt o env C) Q) : ∃ a, o = some a ∧ Go K mg W Rel σ Hf F ρ (S.val a env C) Q := by
  cases o with
  | none => exact h.elim
  | some a => exact ⟨a, rfl, h⟩
end

abbrev REq : Hp → List Addr → Bool → Bool → Prop := fun _ _ a b => a = b
def tE (K : PySem.W.Frag) (mg : Str → Option Value) (W : Wh) (s : S D) : TE := tG K mg W (Dat K) s
def tA (K : PySem.W.Frag) (mg : Str → Option Value) (W : Wh) (s : S (List D)) : TA := tG K mg W (Dats K) s
def tT (K : PySem.W.Frag) (mg : Str → Option Value) (W : Wh) (s : S Bool) : TT := tG K mg W REq s

/-- the judgements -/
def SE (X : Cx) (W : Wh) (e : Expr) (s : S D) : Prop := PE X e (tE X.K X.mg W s)
def SA (X : Cx) (W : Wh) (es : List Expr) (s : S (List D)) : Prop := PA X es (tA X.K X.mg W s)
def SB (X : Cx) (W : Wh) (e : Expr) (s : S Bool) : Prop := PT X e (tT X.K X.mg W s)

section
variable {X : Cx} {W : Wh}
theorem pe_imp {e : Expr} {t u : TE} (h : PE X e t) (k : ∀ σ H Q, u σ H Q → t σ H Q) : PE X e u := ⟨fun pins s σ H Q I q => h.run pins s σ H Q I (k σ H Q q)⟩
theorem pa_imp {e : List Expr} {t u : TA} (h : PA X e t) (k : ∀ σ H Q, u σ H Q → t σ H Q) : PA X e u := ⟨fun pos pins s σ H Q I q => h.run pos pins s σ H Q I (k σ H Q q)⟩
theorem pt_imp {e : Expr} {t u : TT} (h : PT X e t) (k : ∀ σ H Q, u σ H Q → t σ H Q) : PT X e u := ⟨fun pins s σ H Q I q => h.run pins s σ H Q I (k σ H Q q)⟩
theorem pw_imp {e : Expr} {t u : TT} (h : PW X e t) (k : ∀ σ H Q, u σ H Q → t σ H Q) : PW X e u := ⟨fun wh pins s σ H Q I q => h.run wh pins s σ H Q I (k σ H Q q)⟩
theorem ps_imp {e : Stmt} {t u : TS} (h : PS X e t) (k : ∀ D σ H, u D σ H → t D σ H) : PS X e u := ⟨fun pins s σ H D I q => h.run pins s σ H D I (k D σ H q)⟩
theorem pss_imp {e : List Stmt} {t u : TS} (h : PSs X e t) (k : ∀ D σ H, u D σ H → t D σ H) : PSs X e u := ⟨fun pins s σ H D I q => h.run pins s σ H D I (k D σ H q)⟩

/-! ### names, constants -/
def xV (i : Nat) : S D := fun env C => match env[i]? with
  | some (some d) => if isErr d = true then none else some (.ok d C)
  | _ => none
theorem se_var {i : Nat} {x : Str} {pos : Pos} (h : PE X (.Name x pos) (tVar i)) : SE X W (.Name x pos) (xV i) := pe_imp h fun σ H Q ⟨Hf, F, ρ, env, C, S0, E0, g⟩ => by
  unfold xV at g
  split at g
  · rename_i d e
    split at g
    · exact g.elim
    rename_i hn
    obtain ⟨v, h1, h2⟩ := E0.at_ i d e (by simpa using hn)
    exact ⟨v, h1, g v H Hf ρ (Same.refl _) (List.prefix_refl _) S0 h2⟩
  · exact g.elim
theorem se_const {e : Expr} {v : V} {d : D} (h : PE X e (tC v)) (r : ∀ Hf ρ, Dat X.K Hf ρ v d) : SE X W e (S.val d) := pe_imp h fun σ H Q ⟨Hf, F, ρ, env, C, S0, E0, g⟩ => Go.val g S0 (r Hf ρ)

/-! ### operators by values -/
/-- a value as it is to be read now: a changing list is its items -/
def vw (C : Cells) (d : D) : D := match d with
  | .cel n => match C[n]? with
    | some (some (.l ds)) => .lst ds
    | some (some (.t ks ds)) => .dt ks ds
    | some (some (.k ks ds)) => .dk ks ds
    | _ => d
  | _ => d
/-- what is read: its items are data that stays -/
inductive Vw (K : PySem.W.Frag) (H : Hp) (Hf : Hp) (ρ : List Addr) : V → D → Prop
  | dat {v : V} {d : D} (h : Dat K Hf ρ v d) : Vw K H Hf ρ v d
  | now {a : Addr} {xs : List V} {ds : List D} (h : SqL K H a xs) (hs : Dats K Hf ρ xs ds) : Vw K H Hf ρ (.ref a) (.lst ds)
  | nowT {a : Addr} {ks : List (List Key)} {xs : List V} {ds : List D} (h : Rd H a (.dT (ks.zip xs))) (hl : ks.length = xs.length) (hs : Dats K Hf ρ xs ds) : Vw K H Hf ρ (.ref a) (.dt ks ds)
  | nowK {a : Addr} {ks : List Key} {xs : List V} {ds : List D} (h : Rd H a (.dK (ks.zip xs))) (hl : ks.length = xs.length) (hs : Dats K Hf ρ xs ds) : Vw K H Hf ρ (.ref a) (.dk ks ds)
theorem vw_ok {Hf F : Hp} {ρ : List Addr} {C : Cells} {H : Hp} {v : V} {d : D} (S0 : SR K Hf F ρ C H) (h : Dat K Hf ρ v d) : Vw K H Hf ρ v (vw C d) := by
  cases h with
  | @cel n a h =>
    unfold vw
    simp only []
    split
    · rename_i ds e
      obtain ⟨_, k⟩ := S0.cel n a _ h e
      obtain ⟨vs, hv, hd⟩ := k.lst
      exact .now (.inl (.inl hv)) (hd.mono (Same.refl _) List.nil_prefix)
    · rename_i ks ds e
      obtain ⟨_, k⟩ := S0.cel n a _ h e
      obtain ⟨vs, hv, hl, hd⟩ := k.dct
      exact .nowT (.inl hv) hl (hd.mono (Same.refl _) List.nil_prefix)
    · rename_i ks ds e
      obtain ⟨_, k⟩ := S0.cel n a _ h e
      obtain ⟨vs, hv, hl, hd⟩ := k.dkt
      exact .nowK (.inl hv) hl (hd.mono (Same.refl _) (List.take_prefix _ _))
    · exact .dat (.cel h)
  | non => exact .dat .non
  | bl b => exact .dat (.bl b)
  | int i => exact .dat (.int i)
  | str x => exact .dat (.str x)
  | tup h hs => exact .dat (.tup h hs)
  | lst h hs => exact .dat (.lst h hs)
  | opq v => exact .dat (.opq v)
  | fn h => exact .dat (.fn h)
  | dk h hl hs => exact .dat (.dk h hl hs)
  | dt h hl hs => exact .dat (.dt h hl hs)
  | set hn h => exact .dat (.set hn h)
  | ins hc h hd hs => exact .dat (.ins hc h hd hs)
/-- what an answer has to keep -/
def Ans (K : PySem.W.Frag) (Hf F : Hp) (ρ : List Addr) (C : Cells) (d : D) (Q : VK) : Prop := ∀ v H' Hf' ρ', Same Hf Hf' → ρ <+: ρ' → SR K Hf' F ρ' C H' → Dat K Hf' ρ' v d → Q v H'
/-- r, a rule by values, does what f tells of data -/
def Op2 (K : PySem.W.Frag) (r : R2) (f : D → D → Option D) : Prop := ∀ (Hf F : Hp) (ρ : List Addr) (C : Cells) (H : Hp) (x y : V) (a b d : D) (Q : VK), SR K Hf F ρ C H → Vw K H Hf ρ x a → Vw K H Hf ρ y b → f a b = some d → Ans K Hf F ρ C d Q → r x y H Q
def x2 (f : D → D → Option D) (a b : S D) : S D := S.bind a fun x => S.bind b fun y => fun env C => S.opt (f (vw C x) (vw C y)) env C
theorem go2 {r : R2} {f : D → D → Option D} {sa sb : S D} {ta tb : TE} (hf : Op2 X.K r f) {σ : L2.St} {H : Hp} {Q : VK} (ha : ∀ σ H Q, tE X.K X.mg W sa σ H Q → ta σ H Q) (hb : ∀ σ H Q, tE X.K X.mg W sb σ H Q → tb σ H Q)
    (h : tE X.K X.mg W (x2 f sa sb) σ H Q) : tOp r ta tb σ H Q := by
  obtain ⟨Hf, F, ρ, env, C, S0, E0, g⟩ := h
  refine ha σ H _ ⟨Hf, F, ρ, env, C, S0, E0, (Go.bind g).mono fun x H1 ⟨Hf1, ρ1, C1, a, e1, p1, S1, A1, g1⟩ => ?_⟩
  refine hb σ H1 _ ⟨Hf1, F, ρ1, env, C1, S1, E0.mono e1 p1, (Go.bind g1).mono fun y H2 ⟨Hf2, ρ2, C2, b, e2, p2, S2, B2, g2⟩ => ?_⟩
  obtain ⟨d, hd, g3⟩ := Go.opt g2
  exact hf Hf2 F ρ2 C2 H2 x y _ _ d Q S2 (vw_ok S2 (A1.mono e2 p2)) (vw_ok S2 B2) hd fun v H' Hf' ρ' e3 p3 S3 D3 => g3 v H' Hf' ρ' e3 p3 S3 D3
theorem se_op {op : Operator} {a b : Expr} {pos : Pos} {r : R2} {f : D → D → Option D} {sa sb : S D} (ho : OpR X (binaryOp op) r) (hf : Op2 X.K r f) (ha : SE X W a sa) (hb : SE X W b sb) : SE X W (.BinOp a op b pos) (x2 f sa sb) :=
  pe_imp (pe_op ho ha hb) fun _ _ _ h => go2 hf (fun _ _ _ q => q) (fun _ _ _ q => q) h
theorem se_cmp {op : CmpOp} {a b : Expr} {pos : Pos} {r : R2} {f : D → D → Option D} {sa sb : S D} (ho : OpR X (compareOp op) r) (hf : Op2 X.K r f) (ha : SE X W a sa) (hb : SE X W b sb) (hm : behindInMarks op b = false) : SE X W (.Compare a [op] [b] pos) (x2 f sa sb) :=
  pe_imp (pe_cmpR ho ha hb hm) fun _ _ _ h => go2 hf (fun _ _ _ q => q) (fun _ _ _ q => q) h
theorem se_sub {a b : Expr} {pos : Pos} {r : R2} {f : D → D → Option D} {sa sb : S D} (ho : IxR X r) (hf : Op2 X.K r f) (ha : SE X W a sa) (hb : SE X W b sb) (hs : PlainIx b) : SE X W (.Subscript a b pos) (x2 f sa sb) :=
  pe_imp (pe_ix ho ha hb hs) fun _ _ _ h => go2 hf (fun _ _ _ q => q) (fun _ _ _ q => q) h
/-- a test of data -/
def xB (s : S D) : S Bool := S.bind s fun d => S.opt (match d with
  | .bl b => some b
  | _ => none)
theorem goB {s : S D} {σ : L2.St} {H : Hp} {Q : Bool → Hp → Prop} (h : tT X.K X.mg W (xB s) σ H Q) : tE X.K X.mg W s σ H fun x H1 => ∃ k, x = .bl k ∧ Q k H1 := by
  obtain ⟨Hf, F, ρ, env, C, S0, E0, g⟩ := h
  refine ⟨Hf, F, ρ, env, C, S0, E0, (Go.bind g).mono fun x H1 ⟨Hf1, ρ1, C1, a, e1, p1, S1, A1, g1⟩ => ?_⟩
  obtain ⟨d, hd, g3⟩ := Go.opt g1
  cases a with
  | bl b =>
    cases A1
    have e : b = d := Option.some.inj hd
    exact ⟨b, rfl, g3 b H1 Hf1 ρ1 (Same.refl _) (List.prefix_refl _) S1 e⟩
  | _ => cases hd
theorem sb_cmp {op : CmpOp} {a b : Expr} {pos : Pos} {r : R2} {f : D → D → Option D} {sa sb : S D} (ho : OpR X (compareOp op) r) (hf : Op2 X.K r f) (ha : SE X W a sa) (hb : SE X W b sb) (hm : behindInMarks op b = false) : SB X W (.Compare a [op] [b] pos) (xB (x2 f sa sb)) :=
  pt_imp (pt_cmpR ho ha hb hm) fun _ _ _ h => go2 hf (fun _ _ _ q => q) (fun _ _ _ q => q) (goB h)
theorem sb_val {e : Expr} {s : S D} (h : SE X W e s) (he : ∀ whole, isTrue e X.env whole = (do let v ← whole; standAt e.pos; holding [v] (truthy v))) : SB X W e (xB s) :=
  pt_imp (pt_val h he) fun σ H Q q => goB q
/-! ### and, or, not, if -/
def xAnd (a b : S Bool) : S Bool := S.bind a fun x => if x = true then b else S.val false
def xOr (a b : S Bool) : S Bool := S.bind a fun x => if x = true then S.val true else b
def xNot (a : S Bool) : S Bool := S.bind a fun x => S.val (!x)
def xIf {α : Type} (c : S Bool) (a b : S α) : S α := S.bind c fun x => if x = true then a else b
def xD (s : S Bool) : S D := S.bind s fun b => S.val (.bl b)
theorem sw_and {a b : Expr} {rest : List Expr} {pos : Pos} {sa sb : S Bool} (ha : SB X W a sa) (hb : PW X (.BoolOp .And (b :: rest) pos) (tT X.K X.mg W sb)) : PW X (.BoolOp .And (a :: b :: rest) pos) (tT X.K X.mg W (xAnd sa sb)) :=
  pw_imp (pw_and ha hb) fun σ H Q ⟨Hf, F, ρ, env, C, S0, E0, g⟩ => ⟨Hf, F, ρ, env, C, S0, E0, (Go.bind g).mono fun x H1 ⟨Hf1, ρ1, C1, a, e1, p1, S1, A1, g1⟩ => by
    have A2 : x = a := A1
    subst A2
    cases x with
    | true => exact ⟨Hf1, F, ρ1, env, C1, S1, E0.mono e1 p1, g1⟩
    | false => exact g1 false H1 Hf1 ρ1 (Same.refl _) (List.prefix_refl _) S1 rfl⟩
theorem sw_or {a b : Expr} {rest : List Expr} {pos : Pos} {sa sb : S Bool} (ha : SB X W a sa) (hb : PW X (.BoolOp .Or (b :: rest) pos) (tT X.K X.mg W sb)) : PW X (.BoolOp .Or (a :: b :: rest) pos) (tT X.K X.mg W (xOr sa sb)) :=
  pw_imp (pw_or ha hb) fun σ H Q ⟨Hf, F, ρ, env, C, S0, E0, g⟩ => ⟨Hf, F, ρ, env, C, S0, E0, (Go.bind g).mono fun x H1 ⟨Hf1, ρ1, C1, a, e1, p1, S1, A1, g1⟩ => by
    have A2 : x = a := A1
    subst A2
    cases x with
    | false => exact ⟨Hf1, F, ρ1, env, C1, S1, E0.mono e1 p1, g1⟩
    | true => exact g1 true H1 Hf1 ρ1 (Same.refl _) (List.prefix_refl _) S1 rfl⟩
theorem sw_and1 {a : Expr} {pos : Pos} {sa : S Bool} (ha : SB X W a sa) : PW X (.BoolOp .And [a] pos) (tT X.K X.mg W sa) := pw_and1 ha
theorem sw_or1 {a : Expr} {pos : Pos} {sa : S Bool} (ha : SB X W a sa) : PW X (.BoolOp .Or [a] pos) (tT X.K X.mg W sa) := pw_or1 ha
theorem sb_w {e : Expr} {s : S Bool} (h : PW X e (tT X.K X.mg W s)) : SB X W e s := h.pt
theorem sb_not {a : Expr} {pos : Pos} {sa : S Bool} (ha : SB X W a sa) : SB X W (.UnaryOp .Not a pos) (xNot sa) :=
  pt_imp (pt_not ha) fun σ H Q ⟨Hf, F, ρ, env, C, S0, E0, g⟩ => ⟨Hf, F, ρ, env, C, S0, E0, (Go.bind g).mono fun x H1 ⟨Hf1, ρ1, C1, a, e1, p1, S1, A1, g1⟩ => by
    have A2 : x = a := A1
    subst A2
    exact g1 (!x) H1 Hf1 ρ1 (Same.refl _) (List.prefix_refl _) S1 rfl⟩
theorem se_if {c a b : Expr} {pos : Pos} {sc : S Bool} {sa sb : S D} (hc : SB X W c sc) (ha : SE X W a sa) (hb : SE X W b sb) : SE X W (.IfExp c a b pos) (xIf sc sa sb) :=
  pe_imp (pe_ifExp hc ha hb) fun σ H Q ⟨Hf, F, ρ, env, C, S0, E0, g⟩ => ⟨Hf, F, ρ, env, C, S0, E0, (Go.bind g).mono fun x H1 ⟨Hf1, ρ1, C1, a, e1, p1, S1, A1, g1⟩ => by
    have A2 : x = a := A1
    subst A2
    cases x with
    | true => exact ⟨Hf1, F, ρ1, env, C1, S1, E0.mono e1 p1, g1⟩
    | false => exact ⟨Hf1, F, ρ1, env, C1, S1, E0.mono e1 p1, g1⟩⟩
/-- bools as values -/
theorem goD {s : S D} {σ : L2.St} {H : Hp} {Q : VK} {k : Bool → S D} (h : tE X.K X.mg W (S.bind (xB s) k) σ H Q) :
    tE X.K X.mg W s σ H fun x H1 => ∃ b, x = .bl b ∧ tE X.K X.mg W (k b) σ H1 Q := by
  obtain ⟨Hf, F, ρ, env, C, S0, E0, g⟩ := h
  have g0 := Go.bind (Rel := REq) g
  have g1 : tT X.K X.mg W (xB s) σ H (fun b H1 => tE X.K X.mg W (k b) σ H1 Q) := ⟨Hf, F, ρ, env, C, S0, E0, g0.mono fun x H1 ⟨Hf1, ρ1, C1, a, e1, p1, S1, A1, g1⟩ => by
    have A2 : x = a := A1
    subst A2
    exact ⟨Hf1, F, ρ1, env, C1, S1, E0.mono e1 p1, g1⟩⟩
  exact goB g1
def xAndV (a b : S D) : S D := S.bind (xB a) fun x => if x = true then b else S.val (.bl false)
def xOrV (a b : S D) : S D := S.bind (xB a) fun x => if x = true then S.val (.bl true) else b
def xNotV (a : S D) : S D := S.bind (xB a) fun x => S.val (.bl (!x))
theorem se_and {a b : Expr} {rest : List Expr} {pos : Pos} {sa sb : S D} (ha : SE X W a sa) (hb : SE X W (.BoolOp .And (b :: rest) pos) sb) : SE X W (.BoolOp .And (a :: b :: rest) pos) (xAndV sa sb) :=
  pe_imp (pe_and ha hb) fun σ H Q h => by
    have h1 := goD h
    obtain ⟨Hf, F, ρ, env, C, S0, E0, g⟩ := h1
    refine ⟨Hf, F, ρ, env, C, S0, E0, g.mono fun x H1 ⟨b, e, q⟩ => ⟨b, e, ?_⟩⟩
    cases b with
    | true => exact q
    | false =>
      obtain ⟨Hf1, F, ρ1, env1, C1, S1, E1, g1⟩ := q
      exact Go.val (env := env1) g1 S1 (.bl false)
theorem se_or {a b : Expr} {rest : List Expr} {pos : Pos} {sa sb : S D} (ha : SE X W a sa) (hb : SE X W (.BoolOp .Or (b :: rest) pos) sb) : SE X W (.BoolOp .Or (a :: b :: rest) pos) (xOrV sa sb) :=
  pe_imp (pe_or ha hb) fun σ H Q h => by
    have h1 := goD h
    obtain ⟨Hf, F, ρ, env, C, S0, E0, g⟩ := h1
    refine ⟨Hf, F, ρ, env, C, S0, E0, g.mono fun x H1 ⟨b, e, q⟩ => ⟨b, e, ?_⟩⟩
    cases b with
    | false => exact q
    | true =>
      obtain ⟨Hf1, F, ρ1, env1, C1, S1, E1, g1⟩ := q
      exact Go.val (env := env1) g1 S1 (.bl true)
theorem se_one {op : BoolOp} {a : Expr} {pos : Pos} {sa : S D} (ha : SE X W a sa) : SE X W (.BoolOp op [a] pos) sa := pe_one ha
theorem se_not {a : Expr} {pos : Pos} {sa : S D} (ha : SE X W a sa) : SE X W (.UnaryOp .Not a pos) (xNotV sa) :=
  pe_imp (pe_not ha) fun σ H Q h => by
    have h1 := goD h
    obtain ⟨Hf, F, ρ, env, C, S0, E0, g⟩ := h1
    refine ⟨Hf, F, ρ, env, C, S0, E0, g.mono fun x H1 ⟨b, e, q⟩ => ⟨b, e, ?_⟩⟩
    obtain ⟨Hf1, F, ρ1, env1, C1, S1, E1, g1⟩ := q
    exact Go.val g1 S1 (.bl _)
/-! ### a < b < c -/
def xChain (f f' : D → D → Option D) (a b c : S D) : S D := S.bind a fun x => S.bind b fun y => S.bind (xB fun env C => S.opt (f (vw C x) (vw C y)) env C) fun k => if k = true then S.bind c fun z => (fun env C => S.opt (f' (vw C y) (vw C z)) env C) else S.val (.bl false)
theorem goChain {r r' : R2} {f f' : D → D → Option D} {sa sb sc : S D} (hf : Op2 X.K r f) (hf' : Op2 X.K r' f') {σ : L2.St} {H : Hp} {Q : VK} (h : tE X.K X.mg W (xChain f f' sa sb sc) σ H Q) :
    tChain r r' (tE X.K X.mg W sa) (tE X.K X.mg W sb) (tE X.K X.mg W sc) σ H Q := by
  obtain ⟨Hf, F, ρ, env, C, S0, E0, g⟩ := h
  refine ⟨Hf, F, ρ, env, C, S0, E0, (Go.bind g).mono fun x H1 ⟨Hf1, ρ1, C1, a, e1, p1, S1, A1, g1⟩ => ?_⟩
  refine ⟨Hf1, F, ρ1, env, C1, S1, E0.mono e1 p1, (Go.bind g1).mono fun y H2 ⟨Hf2, ρ2, C2, b, e2, p2, S2, B2, g2⟩ => ?_⟩
  have g3 := Go.bind (Rel := REq) g2
  have hd : ∃ d, f (vw C2 a) (vw C2 b) = some d := by
    cases q : f (vw C2 a) (vw C2 b) with
    | some d => exact ⟨d, rfl⟩
    | none =>
      unfold xB S.bind at g3
      simp only [q, S.opt] at g3
      exact g3.elim
  obtain ⟨d, hd⟩ := hd
  refine hf Hf2 F ρ2 C2 H2 x y _ _ d _ S2 (vw_ok S2 (A1.mono e2 p2)) (vw_ok S2 B2) hd fun z H3 Hf3 ρ3 e3 p3 S3 D3 => ?_
  unfold xB S.bind at g3
  simp only [hd, S.opt] at g3
  cases d with
  | bl k =>
    cases D3
    obtain ⟨Hf4, ρ4, C4, k', e4, p4, S4, A4, g4⟩ := g3 k H3 Hf3 ρ3 e3 p3 S3 rfl
    have A5 : k = k' := A4
    subst A5
    refine ⟨k, rfl, ?_⟩
    cases k with
    | true =>
      have g4 : Go X.K X.mg W (Dat X.K) σ Hf4 F ρ4 (S.bind sc (fun z env C => S.opt (f' (vw C b) (vw C z)) env C) env C4) Q := g4
      refine ⟨Hf4, F, ρ4, env, C4, S4, E0.mono ((e1.trans e2).trans e4) ((p1.trans p2).trans p4), (Go.bind g4).mono fun z H5 ⟨Hf5, ρ5, C5, c, e5, p5, S5, A5, g5⟩ => ?_⟩
      obtain ⟨d', hd', g6⟩ := Go.opt g5
      exact hf' Hf5 F ρ5 C5 H5 y z _ _ d' Q S5 (vw_ok S5 (B2.mono (e4.trans e5) (p4.trans p5))) (vw_ok S5 A5) hd' fun v H' Hf' ρ' e7 p7 S7 D7 => g6 v H' Hf' ρ' e7 p7 S7 D7
    | false => exact Go.val (env := env) g4 S4 (.bl false)
  | _ => exact g3.elim
/-! ### argument lists, displays -/
def aNil : S (List D) := S.val []
def aCons (a : S D) (r : S (List D)) : S (List D) := S.bind a fun x => S.bind r fun xs => S.val (x :: xs)
theorem sa_nil : SA X W [] aNil := pa_imp pa_nil fun σ H Q ⟨Hf, F, ρ, env, C, S0, E0, g⟩ => Go.val g S0 .nil
theorem sa_cons {e : Expr} {es : List Expr} {s : S D} {r : S (List D)} (he : SE X W e s) (hr : SA X W es r) (hs : starEach (e :: es) X.env = (false, eval e X.env) :: starEach es X.env) : SA X W (e :: es) (aCons s r) :=
  pa_imp (pa_cons he hr hs) fun σ H Q ⟨Hf, F, ρ, env, C, S0, E0, g⟩ => ⟨Hf, F, ρ, env, C, S0, E0, (Go.bind g).mono fun x H1 ⟨Hf1, ρ1, C1, a, e1, p1, S1, A1, g1⟩ =>
    ⟨Hf1, F, ρ1, env, C1, S1, E0.mono e1 p1, (Go.bind g1).mono fun xs H2 ⟨Hf2, ρ2, C2, as, e2, p2, S2, A2, g2⟩ => Go.val g2 S2 (.cons (A1.mono e2 p2) A2)⟩⟩
/-- few enough for one object -/
def few {α : Type} (f : List D → α) (ds : List D) : Option α := if ds.length ≤ 1000000 then some (f ds) else none
theorem few_ok {α : Type} {f : List D → α} {ds : List D} {d : α} (h : few f ds = some d) : ds.length ≤ sizeLine ∧ d = f ds := by
  unfold few at h
  split at h
  · rename_i q
    exact ⟨Nat.le_trans q (by decide), (Option.some.inj h).symm⟩
  · cases h
def xTup (s : S (List D)) : S D := S.bind s fun ds => S.opt (few .tup ds)
theorem Go.newT {σ : L2.St} {Hf F : Hp} {ρ : List Addr} {C : Cells} {env : Env} {H : Hp} {Q : VK} {ds : List D} {xs : List V} (g : Go K mg W (Dat K) σ Hf F ρ (S.val (D.tup ds) env C) Q) (S0 : SR K Hf F ρ C H) (h : Dats K Hf ρ xs ds) : ∀ p, H p = none → Q (.ref p) (upd H p (.tup xs)) := fun p hp => by
  obtain ⟨S1, e1⟩ := S0.new (o := .tup xs) hp
  exact g (.ref p) _ _ ρ e1 (List.prefix_refl _) S1 (.tup upd_same (h.mono e1 (List.prefix_refl _)))
theorem se_tup {es : List Expr} {x1} {pos : Pos} {s : S (List D)} (h : SA X W es s) : SE X W (.Tuple es x1 pos) (xTup s) :=
  pe_imp (pe_tup h) fun σ H Q ⟨Hf, F, ρ, env, C, S0, E0, g⟩ => ⟨Hf, F, ρ, env, C, S0, E0, (Go.bind g).mono fun xs H1 ⟨Hf1, ρ1, C1, ds, e1, p1, S1, A1, g1⟩ => by
    obtain ⟨d, hd, g2⟩ := Go.opt g1
    obtain ⟨hl, rfl⟩ := few_ok hd
    exact ⟨by rw [A1.len]; exact hl, Go.newT g2 S1 A1⟩⟩

/-! ### new lists: data from the start (xF), or a list that will change (xC) -/
/-- a new list stands in the heap, nowhere known -/
inductive Fresh (K : PySem.W.Frag) (H : Hp) (Hf F : Hp) (ρ : List Addr) (C : Cells) : V → List D → Prop
  | mk {p : Addr} {vs : List V} {ds : List D} (h : H p = some (.lst vs)) (hs : Dats K Hf ρ vs ds) (S1 : SR K (upd Hf p (.lst vs)) F ρ C H) (S2 : nocels ds = true → SR K Hf F (ρ ++ [p]) (C ++ [some (.l ds)]) H) (nf : Hf p = none) : Fresh K H Hf F ρ C (.ref p) ds
def GoL (K : PySem.W.Frag) (mg : Str → Option Value) (W : Wh) (σ : L2.St) (Hf F : Hp) (ρ : List Addr) (r : Option (R (List D))) (Q : VK) : Prop :=
  match r with
  | none => False
  | some (.ok ds C') => ∀ v H' Hf' ρ', Same Hf Hf' → ρ <+: ρ' → Fresh K H' Hf' F ρ' C' v ds → Q v H'
  | some (.ex c p C') => ∀ cls dd H' Hf' ρ', Same Hf Hf' → ρ <+: ρ' → SR K Hf' F ρ' C' H' → ExR K mg Hf' ρ' c p cls dd → W.w cls dd σ H'
def tL (K : PySem.W.Frag) (mg : Str → Option Value) (W : Wh) (s : S (List D)) : TE := fun σ H Q => ∃ Hf F ρ env C, SR K Hf F ρ C H ∧ EnvR K mg W.xc Hf ρ σ env ∧ GoL K mg W σ Hf F ρ (s env C) Q
def SL (X : Cx) (W : Wh) (e : Expr) (s : S (List D)) : Prop := PE X e (tL X.K X.mg W s)
def xF (s : S (List D)) : S D := S.bind s fun ds => S.val (.lst ds)
def xC (s : S (List D)) : S D := S.bind s fun ds => fun _ C => if nocels ds = true then some (.ok (.cel C.length) (C ++ [some (.l ds)])) else none
theorem goL_of {α : Type} {σ : L2.St} {Hf : Hp} {ρ : List Addr} {env : Env} {C : Cells} {s : S (List D)} {k : List D → S D} {Q : VK} (h : Go K mg W (Dat K) σ Hf F ρ (S.bind s k env C) Q)
    (hk : ∀ ds C' v H' Hf' ρ', Same Hf Hf' → ρ <+: ρ' → Fresh K H' Hf' F ρ' C' v ds → Go K mg W (Dat K) σ Hf' F ρ' (k ds env C') Q → Q v H') : GoL K mg W σ Hf F ρ (s env C) Q := by
  unfold S.bind at h
  cases e : s env C with
  | none =>
    rw [e] at h
    exact h
  | some r =>
    rw [e] at h
    cases r with
    | ok ds C' => exact fun v H' Hf' ρ' e' p' f' => hk ds C' v H' Hf' ρ' e' p' f' (Go.later h e' p')
    | ex c q C' => exact h
theorem se_F {e : Expr} {s : S (List D)} (h : SL X W e s) : SE X W e (xF s) := pe_imp h fun σ H Q ⟨Hf, F, ρ, env, C, S0, E0, g⟩ => ⟨Hf, F, ρ, env, C, S0, E0, goL_of (α := Unit) g fun ds C' v H' Hf' ρ' e' p' f' g' => by
  cases f' with
  | @mk p vs _ h hs S1 S2 nf =>
    have e1 : Same Hf' (upd Hf' p (.lst vs)) := fun b u q => by
      rw [upd_ne (ne_of_none q nf)]
      exact q
    exact g' _ H' _ ρ' e1 (List.prefix_refl _) S1 (.lst (.inl (.inl upd_same)) (hs.mono e1 (List.prefix_refl _)))⟩
theorem se_C {e : Expr} {s : S (List D)} (h : SL X W e s) : SE X W e (xC s) := pe_imp h fun σ H Q ⟨Hf, F, ρ, env, C, S0, E0, g⟩ => ⟨Hf, F, ρ, env, C, S0, E0, goL_of (α := Unit) g fun ds C' v H' Hf' ρ' e' p' f' g' => by
  cases f' with
  | @mk p vs _ h hs S1 S2 nf =>
    have hl : ρ'.length = C'.length := S1.len
    have hn : nocels ds = true := by
      cases q : nocels ds with
      | true => rfl
      | false =>
        simp only [q] at g'
        exact g'.elim
    simp only [hn, if_true] at g'
    exact g' _ H' Hf' _ (Same.refl _) (List.prefix_append _ _) (S2 hn) (.cel (by rw [← hl, List.getElem?_append_right (Nat.le_refl _), Nat.sub_self]; rfl))⟩
theorem fresh_new {H Hf F : Hp} {ρ : List Addr} {C : Cells} {p : Addr} {vs : List V} {ds : List D} (S0 : SR K Hf F ρ C H) (hp : H p = none) (h : Dats K Hf ρ vs ds) : Fresh K (upd H p (.lst vs)) Hf F ρ C (.ref p) ds :=
  .mk upd_same h (S0.new hp).1 (fun n => S0.newCel hp (h.bare n)) (S0.ex.free hp)
theorem sl_lst {es : List Expr} {pos : Pos} {s : S (List D)} (h : SA X W es s) : SL X W (.List es pos) (S.bind s fun ds => S.opt (few id ds)) :=
  pe_imp (pe_lst h) fun σ H Q ⟨Hf, F, ρ, env, C, S0, E0, g⟩ => ⟨Hf, F, ρ, env, C, S0, E0, by
    unfold S.bind at g
    cases e : s env C with
    | none =>
      rw [e] at g
      exact g
    | some r =>
      rw [e] at g
      cases r with
      | ex c q C' => exact g
      | ok ds C' =>
        refine fun vs H' Hf' ρ' e' p' S' A' => ?_
        have g' : GoL X.K X.mg W σ Hf F ρ (S.opt (few id ds) env C') Q := g
        cases hd : few id ds with
        | none =>
          rw [hd] at g'
          exact g'.elim
        | some d =>
          rw [hd] at g'
          obtain ⟨hl, rfl⟩ := few_ok hd
          exact ⟨by rw [A'.len]; exact hl, fun p hp => g' (.ref p) _ Hf' ρ' e' p' (fresh_new S' hp A')⟩⟩
end
end Sm
end
section
set_option maxRecDepth 100000
set_option maxHeartbeats 0
namespace Sm
variable [Tabs0]
open PySem L2
variable {K : PySem.W.Frag} {mg : Str → Option Value}

/-! ### statements -/
inductive RS where
  | nx (e : Env) (C : Cells)
  | ret (d : D) (C : Cells)
  | bk (e : Env) (C : Cells)
  | ct (e : Env) (C : Cells)
  | ex (c : Str) (p : Option (Str × D)) (e : Env) (C : Cells)
abbrev SS := Env → Cells → Option RS
def GoS (K : PySem.W.Frag) (mg : Str → Option Value) (W : Wh) (Hf F : Hp) (ρ : List Addr) (r : Option RS) (D : Ends) : Prop :=
  match r with
  | none => False
  | some (.nx e C') => ∀ σ' H' Hf' ρ', Same Hf Hf' → ρ <+: ρ' → SR K Hf' F ρ' C' H' → EnvR K mg W.xc Hf' ρ' σ' e → D.nx σ' H'
  | some (.bk e C') => ∀ σ' H' Hf' ρ', Same Hf Hf' → ρ <+: ρ' → SR K Hf' F ρ' C' H' → EnvR K mg W.xc Hf' ρ' σ' e → D.bk σ' H'
  | some (.ct e C') => ∀ σ' H' Hf' ρ', Same Hf Hf' → ρ <+: ρ' → SR K Hf' F ρ' C' H' → EnvR K mg W.xc Hf' ρ' σ' e → D.ct σ' H'
  | some (.ret d C') => ∀ v H' Hf' ρ', Same Hf Hf' → ρ <+: ρ' → SR K Hf' F ρ' C' H' → Dat K Hf' ρ' v d → D.rt v H'
  | some (.ex c p e C') => ∀ cls dd σ' H' Hf' ρ', Same Hf Hf' → ρ <+: ρ' → SR K Hf' F ρ' C' H' → EnvR K mg W.xc Hf' ρ' σ' e → ExR K mg Hf' ρ' c p cls dd → W.w cls dd σ' H'
def tS (K : PySem.W.Frag) (mg : Str → Option Value) (W : Wh) (s : SS) : TS := fun D σ H => ∃ Hf F ρ env C, SR K Hf F ρ C H ∧ EnvR K mg W.xc Hf ρ σ env ∧ GoS K mg W Hf F ρ (s env C) D
def SC (X : Cx) (W : Wh) (st : Stmt) (s : SS) : Prop := PS X st (tS X.K X.mg W s)
def SCs (X : Cx) (W : Wh) (st : List Stmt) (s : SS) : Prop := PSs X st (tS X.K X.mg W s)

section
variable {W : Wh} {σ : L2.St} {Hf Hf1 F : Hp} {ρ ρ1 : List Addr} {C : Cells} {env : Env} {H : Hp} {D D' : Ends}
theorem GoS.later {r : Option RS} (h : GoS K mg W Hf F ρ r D) (e : Same Hf Hf1) (p : ρ <+: ρ1) : GoS K mg W Hf1 F ρ1 r D := by
  cases r with
  | none => exact h
  | some r =>
    cases r with
    | nx a C' => exact fun v H' Hf' ρ' e' p' => h v H' Hf' ρ' (e.trans e') (p.trans p')
    | bk a C' => exact fun v H' Hf' ρ' e' p' => h v H' Hf' ρ' (e.trans e') (p.trans p')
    | ct a C' => exact fun v H' Hf' ρ' e' p' => h v H' Hf' ρ' (e.trans e') (p.trans p')
    | ret a C' => exact fun v H' Hf' ρ' e' p' => h v H' Hf' ρ' (e.trans e') (p.trans p')
    | ex c q a C' => exact fun cls dd σ' H' Hf' ρ' e' p' => h cls dd σ' H' Hf' ρ' (e.trans e') (p.trans p')
/-- an expression's part in a statement -/
def xDo {α : Type} (s : S α) (k : α → SS) : SS := fun e C => match s e C with
  | none => none
  | some (.ex c p C') => some (.ex c p e C')
  | some (.ok a C') => k a e C'
theorem GoS.doit {α β : Type} {Rel : Hp → List Addr → β → α → Prop} {s : S α} {k : α → SS} (E0 : EnvR K mg W.xc Hf ρ σ env) (h : GoS K mg W Hf F ρ (xDo s k env C) D) :
    Go K mg W Rel σ Hf F ρ (s env C) (fun v H1 => ∃ Hf1 ρ1 C1 a, Same Hf Hf1 ∧ ρ <+: ρ1 ∧ SR K Hf1 F ρ1 C1 H1 ∧ Rel Hf1 ρ1 v a ∧ GoS K mg W Hf1 F ρ1 (k a env C1) D) := by
  unfold xDo at h
  cases e : s env C with
  | none =>
    rw [e] at h
    exact h
  | some r =>
    rw [e] at h
    cases r with
    | ok a C' => exact fun v H' Hf' ρ' e' p' s' q' => ⟨Hf', ρ', C', a, e', p', s', q', GoS.later h e' p'⟩
    | ex c q C' => exact fun cls dd H' Hf' ρ' e' p' s' x' => h cls dd σ H' Hf' ρ' e' p' s' (E0.mono e' p') x'
/-- one after the other -/
def xSeq (a b : SS) : SS := fun e C => match a e C with
  | some (.nx e' C') => b e' C'
  | r => r
def xNext : SS := fun e C => some (.nx e C)
theorem goSeq {a b : SS} (h : tS K mg W (xSeq a b) D σ H) : tS K mg W a { D with nx := tS K mg W b D } σ H := by
  obtain ⟨Hf, F, ρ, env, C, S0, E0, g⟩ := h
  refine ⟨Hf, F, ρ, env, C, S0, E0, ?_⟩
  unfold xSeq at g
  cases e : a env C with
  | none =>
    rw [e] at g
    exact g
  | some r =>
    rw [e] at g
    cases r with
    | nx e' C' => exact fun σ' H' Hf' ρ' e1 p1 s1 n1 => ⟨Hf', F, ρ', e', C', s1, n1, GoS.later g e1 p1⟩
    | bk a C' => exact g
    | ct a C' => exact g
    | ret a C' => exact g
    | ex c q a C' => exact g
end

section
variable {X : Cx} {W : Wh}
theorem ss_nil : SCs X W [] xNext := pss_imp pss_nil fun D σ H ⟨Hf, F, ρ, env, C, S0, E0, g⟩ => g σ H Hf ρ (Same.refl _) (List.prefix_refl _) S0 E0
theorem ss_one {st : Stmt} {s : SS} (h : SC X W st s) : SCs X W [st] s := pss_one h
theorem ss_cons {st : Stmt} {rest : List Stmt} {a b : SS} (h1 : SC X W st a) (h2 : SCs X W rest b) : SCs X W (st :: rest) (xSeq a b) :=
  pss_imp (pss_cons h1 h2) fun D σ H h => goSeq h
def xPass : SS := xNext
def xBreak : SS := fun e C => some (.bk e C)
def xCont : SS := fun e C => some (.ct e C)
/-- what can not be reached, or is not told: nothing is said -/
def xStop : SS := fun _ _ => none
theorem sc_stop {st : Stmt} : SC X W st xStop := ps_imp ps_never fun D σ H ⟨_, _, _, _, _, _, _, g⟩ => g.elim
def xRet (s : S D) : SS := xDo s fun d _ C => some (.ret d C)
theorem sc_ret {e : Expr} {pos : Pos} {s : S D} (h : SE X W e s) : SC X W (.Return (some e) pos) (xRet s) :=
  ps_imp (ps_ret h) fun D σ H ⟨Hf, F, ρ, env, C, S0, E0, g⟩ => ⟨Hf, F, ρ, env, C, S0, E0, (GoS.doit E0 g).mono fun v H1 ⟨Hf1, ρ1, C1, a, e1, p1, S1, A1, g1⟩ => g1 v H1 Hf1 ρ1 (Same.refl _) (List.prefix_refl _) S1 A1⟩
def xRetN : SS := fun _ C => some (.ret .non C)
def xExp (s : S D) : SS := xDo s fun _ e C => some (.nx e C)
theorem sc_exp {e : Expr} {pos : Pos} {s : S D} (h : SE X W e s) (hs : swapsWith e none pos.line X.env = pure false) : SC X W (.Expr e pos) (xExp s) :=
  ps_imp (ps_expr h hs) fun D σ H ⟨Hf, F, ρ, env, C, S0, E0, g⟩ => ⟨Hf, F, ρ, env, C, S0, E0, (GoS.doit E0 g).mono fun v H1 ⟨Hf1, ρ1, C1, a, e1, p1, S1, A1, g1⟩ => g1 σ H1 Hf1 ρ1 (Same.refl _) (List.prefix_refl _) S1 (E0.mono e1 p1)⟩
def xIfS (c : S Bool) (a b : SS) : SS := xDo c fun x => if x = true then a else b
theorem sc_if {c : Expr} {a b : List Stmt} {pos : Pos} {sc : S Bool} {sa sb : SS} (hc : SB X W c sc) (ha : SCs X W a sa) (hb : SCs X W b sb) : SC X W (.If c a b pos) (xIfS sc sa sb) :=
  ps_imp (ps_if hc ha hb) fun D σ H ⟨Hf, F, ρ, env, C, S0, E0, g⟩ => ⟨Hf, F, ρ, env, C, S0, E0, (GoS.doit E0 g).mono fun v H1 ⟨Hf1, ρ1, C1, a, e1, p1, S1, A1, g1⟩ => by
    have A2 : v = a := A1
    subst A2
    cases v with
    | true => exact ⟨Hf1, F, ρ1, env, C1, S1, E0.mono e1 p1, g1⟩
    | false => exact ⟨Hf1, F, ρ1, env, C1, S1, E0.mono e1 p1, g1⟩⟩

/-! ### targets -/
/-- a target: what it makes of the slots; which slots -/
structure Tg where
  put : D → Env → Option Env
  at_ : List Nat
structure Tgs where
  put : List D → Env → Option Env
  at_ : List Nat
def gG (K : PySem.W.Frag) (mg : Str → Option Value) (xc : XC) (t : Tg) : TG := fun v σ H Q => ∃ Hf F ρ env C d, SR K Hf F ρ C H ∧ EnvR K mg xc Hf ρ σ env ∧ Dat K Hf ρ v d ∧ ∃ env', t.put d env = some env' ∧ ∀ σ', EnvR K mg xc Hf ρ σ' env' → (∀ j, j ∉ t.at_ → σ'[j]? = σ[j]?) → Q σ' H
def gGs (K : PySem.W.Frag) (mg : Str → Option Value) (xc : XC) (t : Tgs) : TGs := fun vs σ H Q => ∃ Hf F ρ env C ds, SR K Hf F ρ C H ∧ EnvR K mg xc Hf ρ σ env ∧ Dats K Hf ρ vs ds ∧ ∃ env', t.put ds env = some env' ∧ ∀ σ', EnvR K mg xc Hf ρ σ' env' → (∀ j, j ∉ t.at_ → σ'[j]? = σ[j]?) → Q σ' H
def SG (X : Cx) (W : Wh) (e : Expr) (t : Tg) : Prop := PG X e (gG X.K X.mg W.xc t)
def SGs (X : Cx) (W : Wh) (es : List Expr) (t : Tgs) : Prop := PGs X es (gGs X.K X.mg W.xc t)
theorem pg_imp {e : Expr} {t u : TG} (h : PG X e t) (k : ∀ v σ H Q, u v σ H Q → t v σ H Q) : PG X e u := by
  obtain ⟨r⟩ := h
  refine ⟨?_⟩
  intros
  exact r _ _ _ _ _ _ _ (by assumption) (by assumption) (k _ _ _ _ (by assumption))
theorem pgs_imp {e : List Expr} {t u : TGs} (h : PGs X e t) (k : ∀ v σ H Q, u v σ H Q → t v σ H Q) : PGs X e u := by
  obtain ⟨r⟩ := h
  refine ⟨?_⟩
  intros
  exact r _ _ _ _ _ _ _ (by assumption) (by assumption) (k _ _ _ _ (by assumption))
def gN (i : Nat) : Tg := ⟨fun d e => some (e.set i (some d)), [i]⟩
theorem sg_name {i : Nat} {x : Str} {pos : Pos} (h : PG X (.Name x pos) (gName i)) : SG X W (.Name x pos) (gN i) := pg_imp h fun v σ H Q ⟨Hf, F, ρ, env, C, d, S0, E0, D0, env', he, k⟩ => by
  have e := Option.some.inj he
  subst e
  exact k _ (E0.set D0 i) fun j hj => List.getElem?_set_ne (fun e => hj (by rw [e]; exact List.mem_singleton.mpr rfl))
def gsN : Tgs := ⟨fun ds e => match ds with
  | [] => some e
  | _ => none, []⟩
def gsC (t : Tg) (u : Tgs) : Tgs := ⟨fun ds e => match ds with
  | d :: ds => (t.put d e).bind (u.put ds)
  | _ => none, t.at_ ++ u.at_⟩
theorem sgs_nil : SGs X W [] gsN := pgs_imp pgs_nil fun v σ H Q ⟨Hf, F, ρ, env, C, ds, S0, E0, D0, env', he, k⟩ => by
  cases D0 with
  | nil =>
    have e := Option.some.inj he
    subst e
    exact ⟨rfl, k _ E0 fun j _ => rfl⟩
  | cons _ _ => cases he
theorem sgs_cons {e : Expr} {es : List Expr} {t : Tg} {u : Tgs} (h1 : SG X W e t) (h2 : SGs X W es u) (hs : List.map (fun x => x.snd) (assignEach (e :: es) X.env) = assign e X.env :: List.map (fun x => x.snd) (assignEach es X.env)) : SGs X W (e :: es) (gsC t u) :=
  pgs_imp (pgs_cons h1 h2 hs) fun vs σ H Q ⟨Hf, F, ρ, env, C, ds, S0, E0, D0, env', he, k⟩ => by
    cases D0 with
    | nil => cases he
    | @cons v vs d ds h hs =>
      have he' : (t.put d env).bind (u.put ds) = some env' := he
      cases ht : t.put d env with
      | none =>
        rw [ht] at he'
        cases he'
      | some e1 =>
        rw [ht] at he'
        have he2 : u.put ds e1 = some env' := he'
        exact ⟨v, vs, rfl, Hf, F, ρ, env, C, d, S0, E0, h, e1, ht, fun σ1 E1 f1 => ⟨Hf, F, ρ, e1, C, ds, S0, E1, hs, env', he2, fun σ2 E2 f2 => k σ2 E2 fun j hj => by
          rw [f2 j fun z => hj (List.mem_append_right _ z), f1 j fun z => hj (List.mem_append_left _ z)]⟩⟩
def gT (u : Tgs) : Tg := ⟨fun d e => match d with
  | .tup ds => u.put ds e
  | _ => none, u.at_⟩

theorem sg_tup {es : List Expr} {k : Nat} {pos : Pos} {u : Tgs} {n : Nat} (h : ∀ t, PGs X es t → PG X (.Tuple es k pos) (gTup X.K n t)) (hu : SGs X W es u) (hn : ∀ ds e e', u.put ds e = some e' → ds.length = n) : SG X W (.Tuple es k pos) (gT u) :=
  pg_imp (h _ hu) fun v σ H Q ⟨Hf, F, ρ, env, C, d, S0, E0, D0, env', he, q⟩ => by
    cases D0 with
    | @tup a xs ds h hs =>
      exact ⟨a, xs, rfl, .inl (.inl (S0.ex _ _ h)), by rw [hs.len]; exact hn _ _ _ he, Hf, F, ρ, env, C, ds, S0, E0, hs, env', he, q⟩
    | _ => cases he
theorem gsN_len {ds : List D} {e e' : Env} (h : gsN.put ds e = some e') : ds.length = 0 := by
  cases ds with
  | nil => rfl
  | cons _ _ => cases h
theorem gsC_len {t : Tg} {u : Tgs} {n : Nat} (hu : ∀ ds e e', u.put ds e = some e' → ds.length = n) {ds : List D} {e e' : Env} (h : (gsC t u).put ds e = some e') : ds.length = n + 1 := by
  cases ds with
  | nil => cases h
  | cons d ds =>
    have h' : (t.put d e).bind (u.put ds) = some e' := h
    cases ht : t.put d e with
    | none =>
      rw [ht] at h'
      cases h'
    | some e1 =>
      rw [ht] at h'
      rw [List.length_cons, hu ds e1 e' h']
def xAsg (s : S D) (t : Tg) : SS := xDo s fun d e C => (t.put d e).map (RS.nx · C)
theorem goAsg {s : S D} {t : Tg} {g : TG} (hg : ∀ v σ H Q, gG X.K X.mg W.xc t v σ H Q → g v σ H Q) {D : Ends} {σ : L2.St} {H : Hp} (h : tS X.K X.mg W (xAsg s t) D σ H) : tAsg (tE X.K X.mg W s) g D σ H := by
  obtain ⟨Hf, F, ρ, env, C, S0, E0, g0⟩ := h
  refine ⟨Hf, F, ρ, env, C, S0, E0, (GoS.doit E0 g0).mono fun v H1 ⟨Hf1, ρ1, C1, a, e1, p1, S1, A1, g1⟩ => ?_⟩
  cases ht : t.put a env with
  | none =>
    rw [ht] at g1
    exact g1.elim
  | some env' =>
    rw [ht] at g1
    exact hg _ _ _ _ ⟨Hf1, F, ρ1, env, C1, a, S1, E0.mono e1 p1, A1, env', ht, fun σ' E' _ => g1 σ' H1 Hf1 ρ1 (Same.refl _) (List.prefix_refl _) S1 E'⟩
theorem sc_asg {tg e : Expr} {pos : Pos} {s : S D} {t : Tg} (he : SE X W e s) (hg : SG X W tg t) (hs : swapsWithSole [tg] e pos.line X.env = pure false) (hw : swappedStores [tg] e X.env = pure none) (h1 : List.map (fun x => x.snd) (assignEach [tg] X.env) = [assign tg X.env]) : SC X W (.Assign [tg] e pos) (xAsg s t) :=
  ps_imp (ps_asg he hg hs hw h1) fun D σ H h => goAsg (fun _ _ _ _ q => q) h
theorem sc_set {i : Nat} {x : Str} {e : Expr} {pos pos' : Pos} {s : S D} (h : PS X (.Assign [.Name x pos'] e pos) (tAsg (tE X.K X.mg W s) (gName i))) : SC X W (.Assign [.Name x pos'] e pos) (xAsg s (gN i)) :=
  ps_imp h fun D σ H q => goAsg (fun v σ H Q ⟨Hf, F, ρ, env, C, d, S0, E0, D0, env', he, k⟩ => by
    have e := Option.some.inj he
    subst e
    exact k _ (E0.set D0 i) fun j hj => List.getElem?_set_ne (fun e => hj (by rw [e]; exact List.mem_singleton.mpr rfl))) q
/-- x op= e, ints -/
def xAug (i : Nat) (f : D → D → Option D) (s : S D) : SS := xDo (xV i) fun x => xDo s fun y env C => (f x y).map fun z => RS.nx (env.set i (some z)) C

/-! ### calls of defs -/
abbrev Fn := List D → Cells → Option (R D)
def WF (E : XK) : Wh := ⟨fun cls dd _ H => E cls dd H, none⟩
def spS (K : PySem.W.Frag) (mg : Str → Option Value) (n : Nat) (f : Fn) : Sp := fun vs H Q E => vs.length = n ∧ ∃ Hf F ρ C ds, SR K Hf F ρ C H ∧ Dats K Hf ρ vs ds ∧ Go K mg (WF E) (Dat K) [] Hf F ρ (f ds C) Q
/-- a def's promise, where no text of an object is under way -/
structure FnG (P : Program) (w : World) (K : PySem.W.Frag) (mg : Str → Option Value) (base : Heap) (k : Nat) (f : Addr) (fd : FuncData) (ps : List Str) (sp : Sp) : Prop where
  lg : ∀ vs H Q E, sp vs H Q E → vs.length = ps.length
  go : ∀ (A : Around) (fs : List PySem.Env) (s : Shared) (H : Hp) (args : Args) (us : List Value) (vs : List V) (Q : VK) (E : XK), A.guards = some [] → Room k A → Env0 P w K mg base A fs s H → BindsTo s fd args (ps.zip us) → Vals vs us → sp vs H Q E →
    codeAny (model P w) A (.call (.ref f) args) (CR (L2.CX P w) fs P w H s Q E) s
theorem FnG.mono {P : Program} {w : World} {base : Heap} {j k : Nat} {f : Addr} {fd : FuncData} {ps : List Str} {sp : Sp} (F : FnG P w K mg base j f fd ps sp) (h : j ≤ k) : FnG P w K mg base k f fd ps sp :=
  ⟨F.lg, fun A fs s H args us vs Q E gd hr => F.go A fs s H args us vs Q E gd (hr.mono h)⟩
theorem FnG.imp {P : Program} {w : World} {base : Heap} {k : Nat} {f : Addr} {fd : FuncData} {ps : List Str} {sp sp' : Sp} (F : FnG P w K mg base k f fd ps sp) (h : ∀ vs H Q E, sp' vs H Q E → sp vs H Q E) : FnG P w K mg base k f fd ps sp' :=
  ⟨fun vs H Q E q => F.lg vs H Q E (h _ _ _ _ q), fun A fs s H args us vs Q E gd hr e0 hb hv q => F.go A fs s H args us vs Q E gd hr e0 hb hv (h _ _ _ _ q)⟩
/-- a call of a def by its name -/
theorem pe_callG {X : Cx} {k : Nat} {f : Addr} {fd : FuncData} {ps : List Str} {sp : Sp} {E : L2.St → XK} {x : Str} {p pos : Pos} {e : Expr} {es : List Expr} {t : TA} (F : FnG X.prog X.w X.K X.mg X.base k f fd ps sp) (gd : X.A.guards = some []) (hr : Room k X.A) (hg : Gl X x) (hm : X.mg x = some (.ref f)) (hk : PySem.W.keepIn X.K (.ref f) = true)
    (hb : Binds X.K fd ps []) (hx : ∀ σ, PassesAt (L2.CX X.prog X.w) X σ (E σ)) (ha : PA X (e :: es) t) (hdb : (x == ("__debug__" : Str)) = false) (he : starEach (e :: es) X.env = (false, eval e X.env) :: starEach es X.env) (hpl : (backTo pos (starEach es X.env)).any (·.1) = false) :
    PE X (.Call (.Name x p) (e :: es) [] pos) (tCallS sp E t) := ⟨fun pins s σ H Q I h => by
  refine wpAny_Call_Name_kw (ld_glob I hg hm (PySem.W.callWith_K (h₀ := X.base) I.ok.mod.kin hk (thn (ha.run pos pins s σ H _ I h) fun us s1 ⟨vs, H1, I1, r, q⟩ => ⟨I1.kIn, ?_⟩) he hpl) hdb)
  have b := hb s1 us I1.kIn (by rw [List.append_nil, ← r.length]; exact F.lg _ _ _ _ q)
  rw [List.append_nil] at b
  refine wpAny_call (codeAny_mono (F.go X.A X.stack s1 H1 ⟨us, []⟩ us vs Q (E σ) gd hr I1.env0 b r q) fun r s2 hq => ?_)
  match r, hq with
  | .error ev, hq => exact hx σ pins H1 s1 ev s2 I1 hq
  | .ok (.ret u), hq => exact I1.after hq
  | .ok .next, hq => exact hq.elim
  | .ok .brk, hq => exact hq.elim
  | .ok .cont, hq => exact hq.elim⟩
/-- x is a def that does f -/
structure Cal (P : Program) (w : World) (K : PySem.W.Frag) (mg : Str → Option Value) (base : Heap) (x : Str) (n k : Nat) (f : Fn) : Prop where
  ex : ∃ (a : Addr) (fd : FuncData) (ps : List Str), mg x = some (.ref a) ∧ PySem.W.keepIn K (.ref a) = true ∧ Binds K fd ps [] ∧ FnG P w K mg base k a fd ps (spS K mg n f)
  ar : ∀ ds C, f ds C ≠ none → ds.length = n
theorem Cal.mono {P : Program} {w : World} {base : Heap} {x : Str} {n j k : Nat} {f : Fn} (h : Cal P w K mg base x n j f) (hk : j ≤ k) : Cal P w K mg base x n k f := by
  obtain ⟨a, fd, ps, h1, h2, h3, h4⟩ := h.ex
  exact ⟨⟨a, fd, ps, h1, h2, h3, h4.mono hk⟩, h.ar⟩
def xCall (f : Fn) (s : S (List D)) : S D := S.bind s fun ds _ C => f ds C
theorem goCall {f : Fn} {n : Nat} (ar : ∀ ds C, f ds C ≠ none → ds.length = n) {s : S (List D)} {σ : L2.St} {H : Hp} {Q : VK} (h : tE X.K X.mg W (xCall f s) σ H Q) :
    tCallS (spS X.K X.mg n f) (WE W.w) (tA X.K X.mg W s) σ H Q := by
  obtain ⟨Hf, F, ρ, env, C, S0, E0, g⟩ := h
  refine ⟨Hf, F, ρ, env, C, S0, E0, (Go.bind g).mono fun vs H1 ⟨Hf1, ρ1, C1, ds, e1, p1, S1, A1, g1⟩ => ?_⟩
  have hn : f ds C1 ≠ none := fun z => by
    have g2 : Go X.K X.mg W (Dat X.K) σ Hf1 F ρ1 (f ds C1) Q := g1
    rw [z] at g2
    exact g2
  refine ⟨by rw [A1.len]; exact ar _ _ hn, Hf1, F, ρ1, C1, ds, S1, A1, ?_⟩
  have g2 : Go X.K X.mg W (Dat X.K) σ Hf1 F ρ1 (f ds C1) Q := g1
  cases hr : f ds C1 with
  | none => exact absurd hr hn
  | some r =>
    rw [hr] at g2
    cases r with
    | ok d C' => exact g2
    | ex c p C' => exact g2
theorem se_call {x : Str} {p pos : Pos} {e : Expr} {es : List Expr} {n k : Nat} {f : Fn} {s : S (List D)} (c : Cal X.prog X.w X.K X.mg X.base x n k f) (tk : Takes X W.w) (hr : Room k X.A) (gd : X.A.guards = some []) (hg : Gl X x) (ha : SA X W (e :: es) s)
    (hdb : (x == ("__debug__" : Str)) = false) (he : starEach (e :: es) X.env = (false, eval e X.env) :: starEach es X.env) (hpl : (backTo pos (starEach es X.env)).any (·.1) = false) : SE X W (.Call (.Name x p) (e :: es) [] pos) (xCall f s) := by
  obtain ⟨a, fd, ps, h1, h2, h3, h4⟩ := c.ex
  exact pe_imp (pe_callG h4 gd hr hg h1 h2 h3 (fun σ => passAt tk σ) ha hdb he hpl) fun σ H Q h => goCall c.ar h
/-- a def: n parameters, m names, its body -/
def fin (n : Nat) (d : D) (C : Cells) : Option (R D) :=
  if nocel d = true then some (.ok d (C.take n)) else match d with
    | .cel m => if m < n then some (.ok d (C.take n)) else match C[m]? with
      | some (some (.k _ _)) => none
      | some (some o) => some (.ok (.cel n) (C.take n ++ [some o]))
      | _ => none
    | _ => none
def xDef (n m : Nat) (b : SS) : Fn := fun ds C => if ds.length = n then match b (ds.map some ++ List.replicate (m - n) none) C with
    | some (.nx _ C') => some (.ok .non (C'.take C.length))
    | some (.ret d C') => fin C.length d C'
    | some (.ex c p _ C') => match p with
      | none => some (.ex c none (C'.take C.length))
      | some (f, d) => if nocel d = true then some (.ex c (some (f, d)) (C'.take C.length)) else none
    | _ => none
  else none
theorem xDef_ar {n m : Nat} {b : SS} (ds : List D) (C : Cells) (h : xDef n m b ds C ≠ none) : ds.length = n := by
  unfold xDef at h
  split at h
  · assumption
  · exact absurd rfl h
theorem env_start {Hf : Hp} {ρ : List Addr} {N : List Str} {vs : List V} {ds : List D} (h : Dats K Hf ρ vs ds) (n : Nat) (hn : ds.length = n) : EnvR K mg none Hf ρ (L2.start N vs) (ds.map some ++ List.replicate (N.length - n) none) := by
  have hl := h.len
  refine ⟨?_, fun i d hi _ => ?_, fun _ _ _ _ _ _ _ hx => nomatch hx⟩
  · unfold L2.start
    rw [List.length_append, List.length_append, List.length_map, List.length_map, List.length_replicate, List.length_replicate, hl, hn]
  · by_cases hlt : i < ds.length
    · rw [List.getElem?_append_left (by rw [List.length_map]; exact hlt), List.getElem?_map] at hi
      cases e : ds[i]? with
      | none =>
        rw [e] at hi
        cases hi
      | some d' =>
        rw [e] at hi
        have e' : d' = d := Option.some.inj (Option.some.inj hi)
        subst e'
        obtain ⟨v, h1, h2⟩ := h.get e
        refine ⟨v, ?_, h2⟩
        unfold L2.start
        rw [List.getElem?_append_left (by rw [List.length_map, hl]; exact hlt), List.getElem?_map, h1]
        rfl
    · rw [List.getElem?_append_right (by rw [List.length_map]; omega), List.getElem?_replicate] at hi
      split at hi <;> cases hi
theorem pre_take {ρ ρ' : List Addr} (p : ρ <+: ρ') : ρ'.take ρ.length = ρ := by
  obtain ⟨t, rfl⟩ := p
  simp
/-- what is told of a def's body is told of the def -/
theorem goDef {N : List Str} {n : Nat} {b : SS} {E : XK} {vs : List V} {H : Hp} {Q : VK} (h : spS K mg n (xDef n N.length b) vs H Q E) : tS K mg (WF E) b { nx := fun _ H' => Q .non H', rt := Q } (L2.start N vs) H := by
  obtain ⟨hv, Hf, F, ρ, C, ds, S0, D0, g⟩ := h
  have hn : ds.length = n := by rw [← D0.len]; exact hv
  refine ⟨Hf, F, ρ, _, C, S0, env_start D0 n hn, ?_⟩
  unfold xDef at g
  rw [if_pos hn] at g
  have back : ∀ {ρ' : List Addr} {C' : Cells} {H' Hf' : Hp}, ρ <+: ρ' → SR K Hf' F ρ' C' H' → SR K Hf' F ρ (C'.take C.length) H' := fun {ρ' C' H' Hf'} p s => by
    have q := s.cut C.length
    rw [← S0.len, pre_take p, S0.len] at q
    exact q
  cases hb : b (ds.map some ++ List.replicate (N.length - n) none) C with
  | none =>
    rw [hb] at g
    exact g
  | some r =>
    rw [hb] at g
    cases r with
    | nx e C' => exact fun σ' H' Hf' ρ' e1 p1 s1 n1 => g .non H' Hf' ρ e1 (List.prefix_refl _) (back p1 s1) .non
    | bk e C' => exact g.elim
    | ct e C' => exact g.elim
    | ex c p e C' =>
      cases p with
      | none => exact fun cls dd σ' H' Hf' ρ' e1 p1 s1 n1 ⟨a, x1, x2, x3⟩ => g cls dd H' Hf' ρ e1 (List.prefix_refl _) (back p1 s1) ⟨a, x1, x2, x3⟩
      | some q =>
        obtain ⟨f, d⟩ := q
        simp only [] at g
        split at g
        · rename_i nc
          exact fun cls dd σ' H' Hf' ρ' e1 p1 s1 n1 ⟨a, x1, x2, b', v, x3, x4, x5⟩ => g cls dd H' Hf' ρ e1 (List.prefix_refl _) (back p1 s1) ⟨a, x1, x2, b', v, x3, x4, (x5.bare nc).mono (Same.refl _) List.nil_prefix⟩
        · exact g.elim
    | ret d C' =>
      refine fun v H' Hf' ρ' e1 p1 s1 d1 => ?_
      simp only [] at g
      unfold fin at g
      split at g
      · rename_i nc
        exact g v H' Hf' ρ e1 (List.prefix_refl _) (back p1 s1) ((d1.bare nc).mono (Same.refl _) List.nil_prefix)
      · split at g
        · rename_i m hnc
          cases d1 with
          | @cel _ a hm =>
            split at g
            · rename_i hlt
              refine g (.ref a) H' Hf' ρ e1 (List.prefix_refl _) (back p1 s1) (.cel ?_)
              obtain ⟨t, rfl⟩ := p1
              rw [List.getElem?_append_left (by rw [S0.len]; exact hlt)] at hm
              exact hm
            · rename_i hge
              split at g
              · exact g.elim
              · rename_i o hno ho
                obtain ⟨k1, k2⟩ := s1.cel m a o hm ho
                have k2 : ∀ r, ObR K Hf' r (H' a) o := fun r => k2.any fun ks ds e => hno ks ds (by rw [e])
                have s2 := back p1 s1
                have lenC : (C'.take C.length).length = C.length := by
                  have := s2.len
                  rw [S0.len] at this
                  exact this.symm
                refine g (.ref a) H' Hf' (ρ ++ [a]) e1 (List.prefix_append _ _) ⟨s2.ex, s2.fr, s2.ap, by rw [List.length_append, List.length_append, s2.len]; rfl, fun i b u h1 h2 => ?_, fun i j b u w h1 h2 h3 h4 => ?_, s2.tab, s2.nt⟩ (.cel (by rw [← S0.len, List.getElem?_append_right (Nat.le_refl _), Nat.sub_self]; rfl))
                · by_cases hi : i < ρ.length
                  · rw [List.getElem?_append_left hi] at h1
                    rw [List.getElem?_append_left (by rw [lenC, ← S0.len]; exact hi)] at h2
                    rw [List.take_append_of_le_length (Nat.le_of_lt hi)]
                    exact s2.cel i b u h1 h2
                  · have hi' := (List.getElem?_eq_some_iff.mp h1).1
                    rw [List.length_append] at hi'
                    have hone : ([a] : List Addr).length = 1 := rfl
                    have ei : i = ρ.length := by omega
                    subst ei
                    rw [List.getElem?_append_right (Nat.le_refl _), Nat.sub_self] at h1
                    rw [List.getElem?_append_right (by rw [lenC, S0.len]; exact Nat.le_refl _), lenC, S0.len, Nat.sub_self] at h2
                    have eb : a = b := Option.some.inj h1
                    have eu : o = u := Option.some.inj (Option.some.inj h2)
                    subst eb
                    subst eu
                    exact ⟨k1, k2 _⟩
                · -- where a cell of the new table stood before
                  have org : ∀ {i : Nat} {u : Ob}, (ρ ++ [a])[i]? = some b → (C'.take C.length ++ [some o])[i]? = some (some u) → ∃ i', ρ'[i']? = some b ∧ (∃ u', C'[i']? = some (some u')) ∧ (i < ρ.length → i' = i) ∧ (¬ i < ρ.length → i' = m ∧ i = ρ.length) := fun {i u} g1 g2 => by
                    by_cases hi : i < ρ.length
                    · rw [List.getElem?_append_left hi] at g1
                      rw [List.getElem?_append_left (by rw [lenC, ← S0.len]; exact hi)] at g2
                      refine ⟨i, pre_get p1 g1, ⟨u, ?_⟩, fun _ => rfl, fun z => absurd hi z⟩
                      rw [List.getElem?_take, if_pos (by rw [← S0.len]; exact hi)] at g2
                      exact g2
                    · have hi' := (List.getElem?_eq_some_iff.mp g1).1
                      rw [List.length_append] at hi'
                      have hone : ([a] : List Addr).length = 1 := rfl
                      have ei : i = ρ.length := by omega
                      subst ei
                      rw [List.getElem?_append_right (Nat.le_refl _), Nat.sub_self] at g1
                      have eb : a = b := Option.some.inj g1
                      subst eb
                      exact ⟨m, hm, ⟨o, ho⟩, fun z => absurd z hi, fun _ => ⟨rfl, rfl⟩⟩
                  obtain ⟨i', a1, ⟨u', a2⟩, a3, a4⟩ := org h1 h3
                  obtain ⟨j', b1, ⟨w', b2⟩, b3, b4⟩ := org h2 h4
                  have e := s1.inj i' j' b u' w' a1 b1 a2 b2
                  have hm0 : ρ.length ≤ m := by rw [S0.len]; omega
                  by_cases hi : i < ρ.length
                  · by_cases hj : j < ρ.length
                    · rw [← a3 hi, ← b3 hj, e]
                    · have := a3 hi
                      have := (b4 hj).1
                      omega
                  · by_cases hj : j < ρ.length
                    · have := b3 hj
                      have := (a4 hi).1
                      omega
                    · rw [(a4 hi).2, (b4 hj).2]
              · exact g.elim
        · exact g.elim
end
end Sm
end
section
set_option maxRecDepth 100000
set_option maxHeartbeats 0
namespace Sm
variable [Tabs0]
open PySem L2
variable {K : PySem.W.Frag} {mg : Str → Option Value}

/-! ### sameness of data, decided -/
mutual
def deq : D → D → Bool
  | .non, .non => true
  | .bl a, .bl b => a == b
  | .int a, .int b => a == b
  | .str a, .str b => a == b
  | .tup a, .tup b => deqs a b
  | .lst a, .lst b => deqs a b
  | .cel a, .cel b => a == b
  | .opq a, .opq b => decide (a = b)
  | .fn a, .fn b => a == b
  | .err a b c, .err a' b' c' => a == a' && b == b' && deq c c'
  | .dk a b, .dk a' b' => decide (a = a') && deqs b b'
  | .dt a b, .dt a' b' => decide (a = a') && deqs b b'
  | .set a, .set b => decide (a = b)
  | .ins a b, .ins a' b' => a == a' && deqs b b'
  | _, _ => false
def deqs : List D → List D → Bool
  | [], [] => true
  | a :: r, b :: t => deq a b && deqs r t
  | _, _ => false
end
mutual
theorem deq_eq : ∀ (a b : D), deq a b = true → a = b
  | .non, b, h => by cases b <;> simp [deq] at h ⊢
  | .bl a, b, h => by cases b <;> simp [deq] at h ⊢; exact h
  | .int a, b, h => by cases b <;> simp [deq] at h ⊢; exact h
  | .str a, b, h => by cases b <;> simp [deq] at h ⊢; exact h
  | .tup a, b, h => by
    cases b <;> simp [deq] at h ⊢
    exact deqs_eq _ _ h
  | .lst a, b, h => by
    cases b <;> simp [deq] at h ⊢
    exact deqs_eq _ _ h
  | .cel a, b, h => by cases b <;> simp [deq] at h ⊢; exact h
  | .opq a, b, h => by cases b <;> simp [deq] at h ⊢; exact h
  | .fn a, b, h => by cases b <;> simp [deq] at h ⊢; exact h
  | .err a b c, d, h => by
    cases d <;> simp [deq] at h ⊢
    exact ⟨h.1.1, h.1.2, deq_eq _ _ h.2⟩
  | .dk a b, d, h => by
    cases d <;> simp [deq] at h ⊢
    exact ⟨h.1, deqs_eq _ _ h.2⟩
  | .dt a b, d, h => by
    cases d <;> simp [deq] at h ⊢
    exact ⟨h.1, deqs_eq _ _ h.2⟩
  | .set a, b, h => by cases b <;> simp [deq] at h ⊢; exact h
  | .ins a b, d, h => by
    cases d <;> simp [deq] at h ⊢
    exact ⟨h.1, deqs_eq _ _ h.2⟩
theorem deqs_eq : ∀ (a b : List D), deqs a b = true → a = b
  | [], b, h => by cases b <;> simp [deqs] at h ⊢
  | a :: r, b, h => by
    cases b with
    | nil => simp [deqs] at h
    | cons c t =>
      simp [deqs] at h
      rw [deq_eq a c h.1, deqs_eq r t h.2]
end
mutual
theorem deq_self : ∀ a : D, deq a a = true
  | .non => rfl
  | .bl a => by simp [deq]
  | .int a => by simp [deq]
  | .str a => by simp [deq]
  | .tup a => by simp [deq, deqs_self a]
  | .lst a => by simp [deq, deqs_self a]
  | .cel a => by simp [deq]
  | .opq a => by simp [deq]
  | .fn a => by simp [deq]
  | .err a b c => by simp [deq, deq_self c]
  | .dk a b => by simp [deq, deqs_self b]
  | .dt a b => by simp [deq, deqs_self b]
  | .set a => by simp [deq]
  | .ins a b => by simp [deq, deqs_self b]
theorem deqs_self : ∀ a : List D, deqs a a = true
  | [] => rfl
  | a :: r => by simp [deqs, deq_self a, deqs_self r]
end

/-- an object that changes no more is locked -/
theorem pe_lockP {e : Expr} {t : TE} (h : PE X e t) : PE X e (fun σ H Q => t σ H fun x H1 => ∃ d u, x = .ref d ∧ H1 d = some u ∧ Mut (some u) ∧ ∀ od, Q x (upd H1 d (.frz od u))) := by
  refine ⟨fun pins s σ H Q I hw => ?_⟩
  refine thn (h.run pins s σ H _ I hw) fun v s1 ⟨x, H1, I1, r, d, u, ex, hd, mu, q⟩ => ?_
  obtain ⟨od, I2⟩ := I1.lock hd mu
  exact ⟨x, _, I2, r, q od⟩
/-! ### what is walked -/
abbrev Gd := Cells → Bool
def gd0 : Gd := fun _ => true
/-- the n-th cell still holds ds -/
def gdC (n : Nat) (ds : List D) : Gd := fun C => match C[n]? with
  | some (some (.l es)) => deqs es ds
  | _ => false
def Wk (K : PySem.W.Frag) (Hf : Hp) (ρ : List Addr) (J : It) (p : List D × Gd) : Prop := ∀ (i : Nat) (Hf' F' : Hp) (ρ' : List Addr) (C' : Cells) (H' : Hp), Same Hf Hf' → ρ <+: ρ' → SR K Hf' F' ρ' C' H' → p.2 C' = true →
  (i < p.1.length → J.go i H' ∧ ∀ x H2, J.yld i H' x H2 → ∃ d Hf2, p.1[i]? = some d ∧ Same Hf' Hf2 ∧ SR K Hf2 F' ρ' C' H2 ∧ Dat K Hf2 ρ' x d) ∧ (p.1.length ≤ i → J.stop i H')
theorem Wk.later {Hf Hf' : Hp} {ρ ρ' : List Addr} {J : It} {p : List D × Gd} (h : Wk K Hf ρ J p) (e : Same Hf Hf') (q : ρ <+: ρ') : Wk K Hf' ρ' J p := fun i Hf2 F2 ρ2 C2 H2 e2 q2 => h i Hf2 F2 ρ2 C2 H2 (e.trans e2) (q.trans q2)
abbrev SW := S (List D × Gd)
def tI (K : PySem.W.Frag) (mg : Str → Option Value) (W : Wh) (s : SW) : TI := tG K mg W (Wk K) s
def SI (X : Cx) (W : Wh) (tg e : Expr) (s : SW) : Prop := PI X tg e (tI X.K X.mg W s)
/-- the items of a list, a tuple, a changing list -/
def items (d : D) (C : Cells) : Option (List D × Gd) := match d with
  | .lst ds => some (ds, gd0)
  | .tup ds => some (ds, gd0)
  | .cel n => match C[n]? with
    | some (some (.l ds)) => some (ds, gdC n ds)
    | _ => none
  | .dt ks _ => some (ks.map kT, gd0)
  | .dk ks _ => some (ks.map kD, gd0)
  | _ => none
def iV (s : S D) : SW := S.bind s fun d env C => S.opt (items d C) env C
section
variable {X : Cx} {W : Wh}
theorem wk_l {Hf : Hp} {ρ : List Addr} {a : Addr} {ds : List D} {g : Gd} (h : ∀ Hf' F' ρ' C' H', Same Hf Hf' → ρ <+: ρ' → SR K Hf' F' ρ' C' H' → g C' = true → ∃ xs, SqL K H' a xs ∧ Dats K Hf' ρ' xs ds) :
    Wk K Hf ρ (Itl K a) (ds, g) := fun i Hf' F' ρ' C' H' e p S0 hg => by
  obtain ⟨xs, hx, hd⟩ := h Hf' F' ρ' C' H' e p S0 hg
  have hl := hd.len
  refine ⟨fun hi => ?_, fun hi => ⟨xs, hx, by rw [hl]; exact hi⟩⟩
  have hi' : i < xs.length := by rw [hl]; exact hi
  refine ⟨⟨xs, xs[i], hx, List.getElem?_eq_getElem hi'⟩, fun x H2 hy => ?_⟩
  obtain ⟨e2, hy⟩ := hy
  subst e2
  obtain ⟨d, h1, h2⟩ := hd.getV (hy xs hx)
  exact ⟨d, Hf', h1, Same.refl _, S0, h2⟩
theorem wk_t {Hf : Hp} {ρ : List Addr} {a : Addr} {xs : List V} {ds : List D} (hx : SqT K Hf a xs) (hd : Dats K Hf ρ xs ds) : Wk K Hf ρ (Itt K a) (ds, gd0) := fun i Hf' F' ρ' C' H' e p S0 hg => by
  have hl := hd.len
  have hx' : SqT K H' a xs := same_t S0.ex (same_t e hx)
  refine ⟨fun hi => ?_, fun hi => ⟨xs, hx', by rw [hl]; exact hi⟩⟩
  have hi' : i < xs.length := by rw [hl]; exact hi
  refine ⟨⟨xs, xs[i], hx', List.getElem?_eq_getElem hi'⟩, fun x H2 hy => ?_⟩
  obtain ⟨e2, hy⟩ := hy
  subst e2
  obtain ⟨d, h1, h2⟩ := (hd.mono e p).getV (hy xs hx')
  exact ⟨d, Hf', h1, Same.refl _, S0, h2⟩
theorem wk_dt {Hf : Hp} {ρ : List Addr} {a : Addr} {o : Obj} {ks : List (List Key)} {xs : List V} (hx : Hf a = some (.frz o (.dT (ks.zip xs)))) (hl : ks.length = xs.length) : Wk K Hf ρ (Itkt a o (ks.zip xs)) (ks.map kT, gd0) := fun i Hf' F' ρ' C' H' e p S0 hg => by
  have hlz : (ks.zip xs).length = ks.length := by rw [List.length_zip]; omega
  have hH := S0.ex _ _ (e _ _ hx)
  refine ⟨fun hi => ?_, fun hi => ⟨hH, by rw [hlz]; simpa using hi⟩⟩
  have hi' : i < ks.length := by simpa using hi
  refine ⟨⟨hH, by rw [hlz]; exact hi'⟩, fun x H2 ⟨e2, k, v, q, h1, h2, h3⟩ => ?_⟩
  subst e2 h2
  obtain ⟨Hf2, e3, S2, h4⟩ := S0.addTup h3
  have hk : ks[i]? = some k := by
    rw [List.getElem?_zip_eq_some] at h1
    exact h1.1
  exact ⟨kT k, Hf2, by rw [List.getElem?_map, hk]; rfl, e3, S2, .tup h4 (Dats.kVs k)⟩
theorem wk_dk {Hf : Hp} {ρ : List Addr} {a : Addr} {o : Obj} {ks : List Key} {xs : List V} (hx : Hf a = some (.frz o (.dK (ks.zip xs)))) (hl : ks.length = xs.length) : Wk K Hf ρ (Itk a o (ks.zip xs)) (ks.map kD, gd0) := fun i Hf' F' ρ' C' H' e p S0 hg => by
  have hlz : (ks.zip xs).length = ks.length := by rw [List.length_zip]; omega
  have hH := S0.ex _ _ (e _ _ hx)
  refine ⟨fun hi => ?_, fun hi => ⟨hH, by rw [hlz]; simpa using hi⟩⟩
  have hi' : i < ks.length := by simpa using hi
  refine ⟨⟨hH, by rw [hlz]; exact hi'⟩, fun x H2 ⟨e2, k, v, h1, h2⟩ => ?_⟩
  subst e2 h2
  have hk : ks[i]? = some k := by
    rw [List.getElem?_zip_eq_some] at h1
    exact h1.1
  exact ⟨kD k, Hf', by rw [List.getElem?_map, hk]; rfl, Same.refl _, S0, Dat.kV k⟩
/-- what iterating over a value needs: a list's or a tuple's items -/
def rIt (K : PySem.W.Frag) (x : V) (H1 : Hp) (R : It → Hp → Prop) : Prop := ∃ a, x = .ref a ∧ ((∃ xs, SqL K H1 a xs ∧ R (Itl K a) H1) ∨ (∃ xs, SqT K H1 a xs ∧ R (Itt K a) H1) ∨ (∃ o kvs, H1 a = some (.frz o (.dT kvs)) ∧ R (Itkt a o kvs) H1) ∨ ∃ o kvs, H1 a = some (.frz o (.dK kvs)) ∧ R (Itk a o kvs) H1)
theorem items_ok {Hf F : Hp} {ρ : List Addr} {C : Cells} {H : Hp} {v : V} {d : D} {p : List D × Gd} {R : It → Hp → Prop} (S0 : SR K Hf F ρ C H) (h : Dat K Hf ρ v d) (hp : items d C = some p) (k : ∀ J, Wk K Hf ρ J p → R J H) : rIt K v H R := by
  cases h with
  | @tup a xs ds h hs =>
    have e := Option.some.inj hp
    subst e
    exact ⟨a, rfl, .inr (.inl ⟨xs, .inl (.inl (S0.ex _ _ h)), k _ (wk_t (.inl (.inl h)) hs)⟩)⟩
  | @lst a xs ds h hs =>
    have e := Option.some.inj hp
    subst e
    exact ⟨a, rfl, .inl ⟨xs, same_l S0.ex h, k _ (wk_l fun Hf' F' ρ' C' H' e q S1 _ => ⟨xs, same_l S1.ex (same_l e h), hs.mono e q⟩)⟩⟩
  | @cel n a h =>
    unfold items at hp
    simp only [] at hp
    split at hp
    · rename_i ds hc
      have e := Option.some.inj hp
      subst e
      obtain ⟨_, k2⟩ := S0.cel n a _ h hc
      obtain ⟨vs, hv, hd⟩ := k2.lst
      refine ⟨a, rfl, .inl ⟨vs, .inl (.inl hv), k _ (wk_l fun Hf' F' ρ' C' H' e q S1 hg => ?_)⟩⟩
      unfold gdC at hg
      split at hg
      · rename_i es hc'
        have := deqs_eq _ _ hg
        subst this
        obtain ⟨_, k3⟩ := S1.cel n a _ (pre_get q h) hc'
        obtain ⟨vs', hv', hd'⟩ := k3.lst
        exact ⟨vs', .inl (.inl hv'), hd'.mono (Same.refl _) List.nil_prefix⟩
      · cases hg
    · cases hp
  | @dt a ks xs ds h hl hs =>
    have e := Option.some.inj hp
    subst e
    obtain ⟨o, h⟩ := h
    exact ⟨a, rfl, .inr (.inr (.inl ⟨o, _, S0.ex _ _ h, k _ (wk_dt h hl)⟩))⟩
  | @dk a ks xs ds h hl hs =>
    have e := Option.some.inj hp
    subst e
    obtain ⟨o, h⟩ := h
    exact ⟨a, rfl, .inr (.inr (.inr ⟨o, _, S0.ex _ _ h, k _ (wk_dk h hl)⟩))⟩
  | _ => cases hp
theorem pi_seq {tg l : Expr} {tl : TE} (hl : PE X l tl) : PI X tg l (fun σ H R => tl σ H fun x H1 => rIt X.K x H1 R) := by
  refine ⟨fun pins s σ H R I h => thn (hl.run pins s σ H _ I h) fun v s1 hh => ?_⟩
  obtain ⟨x, H1, I1, r1, a, e, q⟩ := hh
  subst e
  obtain rfl : v = Value.ref a := r1
  have one : ∀ b, b ∈ [s1.heap.objs.size] → FpOk X pins H1 b := fun b hb => by
    rw [List.mem_singleton.mp hb]
    exact I1.fpOk (Nat.le_refl _) I1.fresh
  rcases q with ⟨xs, hq, q⟩ | ⟨xs, hq, q⟩ | ⟨o, kvs, hd, q⟩ | ⟨o, kvs, hd, q⟩
  rotate_left 3
  · obtain ⟨hs, hgd, hx, es, ep, vs, hdt, hsz, ent⟩ := I1.frzK hd
    refine iter_keys hs hgd hx hdt (pi_one (tk := s1.toks) I1 _ (turn_keys _ hdt) ⟨_, Heap.get?_push_size _ rfl, rfl, ?_⟩ q)
    rw [hsz] <;> rfl
  rotate_left 2
  · obtain ⟨hs, hgd, hx, es, ep, hdt, hsz, ent⟩ := I1.frzT hd
    refine iter_keys hs hgd hx hdt (pi_one (tk := s1.toks) I1 _ (turn_keysT _ hdt) ⟨_, Heap.get?_push_size _ rfl, rfl, ?_⟩ q)
    rw [hsz] <;> rfl
  · obtain ⟨its, rv, p, hz⟩ := I1.list hq
    exact wpAny_pyIter_list p.isList ⟨s1.heap.objs.size, [s1.heap.objs.size], _, Itl X.K a, H1, rfl, I1.kept (t' := s1.toks) (fun b o e => Heap.get?_push_of_some _ e),
      turn_list a _, ⟨_, Heap.get?_push_size _ rfl, rfl, rfl⟩, one, q⟩
  · obtain ⟨its, rv, p, hz⟩ := I1.tuple hq
    exact wpAny_pyIter_tuple (show s1.heap.IsTuple a its.toArray from p) ⟨s1.heap.objs.size, [s1.heap.objs.size], _, Itt X.K a, H1, rfl, I1.kept (t' := s1.toks) (fun b o e => Heap.get?_push_of_some _ e),
      turn_tuple a _, ⟨_, Heap.get?_push_size _ rfl, rfl, rfl⟩, one, q⟩
theorem pi_imp {tg l : Expr} {t u : TI} (h : PI X tg l t) (k : ∀ σ H R, u σ H R → t σ H R) : PI X tg l u := ⟨fun pins s σ H R I q => h.run pins s σ H R I (k σ H R q)⟩
theorem si_val {tg l : Expr} {s : S D} (h : SE X W l s) : SI X W tg l (iV s) := pi_imp (pi_seq h) fun σ H R ⟨Hf, F, ρ, env, C, S0, E0, g⟩ =>
  ⟨Hf, F, ρ, env, C, S0, E0, (Go.bind g).mono fun v H1 ⟨Hf1, ρ1, C1, a, e1, p1, S1, A1, g1⟩ => by
    obtain ⟨p, hp, g2⟩ := Go.opt g1
    exact items_ok S1 A1 hp fun J w => g2 J H1 Hf1 ρ1 (Same.refl _) (List.prefix_refl _) S1 w⟩
/-! ### ranges -/
def zs (lo : Int) (n : Nat) : List D := (List.range n).map fun i => D.int (lo + (i : Nat))
theorem zs_len (lo : Int) (n : Nat) : (zs lo n).length = n := by
  unfold zs
  rw [List.length_map, List.length_range]
theorem zs_get {lo : Int} {n i : Nat} (h : i < n) : (zs lo n)[i]? = some (.int (lo + (i : Nat))) := by
  unfold zs
  rw [List.getElem?_map, List.getElem?_range h]
  rfl
theorem wk_r {Hf : Hp} {ρ : List Addr} {lo : Int} {n : Nat} : Wk K Hf ρ (Itr lo n) (zs lo n, gd0) := fun i Hf' F' ρ' C' H' e p S0 hg => by
  have hl : ((zs lo n, gd0) : List D × Gd).1.length = n := zs_len lo n
  refine ⟨fun hi => ⟨show i < n by omega, fun x H2 hy => ?_⟩, fun hi => show n ≤ i by omega⟩
  obtain ⟨e2, hy⟩ := hy
  subst e2
  subst hy
  exact ⟨_, Hf', zs_get (by omega), Same.refl _, S0, .int _⟩
/-- small enough for a range; told by the constructors, so that the kernel never counts down such numbers -/
def inRng : Int → Bool
  | .ofNat n => Nat.ble n 4611686018427387903
  | .negSucc n => Nat.ble n 4611686018427387903
theorem inRng_iff {j : Int} : inRng j = true ↔ -4611686018427387904 ≤ j ∧ j < 4611686018427387904 := by
  cases j with
  | ofNat n =>
    rw [show inRng (.ofNat n) = Nat.ble n 4611686018427387903 from rfl, Nat.ble_eq, Int.ofNat_eq_natCast]
    omega
  | negSucc n =>
    rw [show inRng (.negSucc n) = Nat.ble n 4611686018427387903 from rfl, Nat.ble_eq]
    omega
def rng1 (ds : List D) : Option (List D × Gd) := match ds with
  | [.int j] => if inRng j = true then some (zs 0 j.toNat, gd0) else none
  | _ => none
def rng2 (ds : List D) : Option (List D × Gd) := match ds with
  | [.int i, .int j] => if inRng i = true ∧ inRng j = true then some (zs i (j - i).toNat, gd0) else none
  | _ => none
def iR1 (s : S (List D)) : SW := S.bind s fun ds => S.opt (rng1 ds)
def iR2 (s : S (List D)) : SW := S.bind s fun ds => S.opt (rng2 ds)
theorem si_r1 {tg a : Expr} {p pos : Pos} {s : S (List D)} (h : PI X tg (.Call (.Name "range" p) [a] [] pos) (iRng1 (tA X.K X.mg W s))) : SI X W tg (.Call (.Name "range" p) [a] [] pos) (iR1 s) := pi_imp h fun σ H R ⟨Hf, F, ρ, env, C, S0, E0, g⟩ =>
  ⟨Hf, F, ρ, env, C, S0, E0, (Go.bind g).mono fun vs H1 ⟨Hf1, ρ1, C1, ds, e1, p1, S1, A1, g1⟩ => by
    obtain ⟨q, hq, g2⟩ := Go.opt g1
    unfold rng1 at hq
    split at hq
    · rename_i j
      split at hq
      · rename_i hj
        have hj := inRng_iff.mp hj
        have e := Option.some.inj hq
        subst e
        cases A1 with
        | cons h1 h2 =>
          cases h1
          cases h2
          exact ⟨j, rfl, hj.1, hj.2, g2 _ H1 Hf1 ρ1 (Same.refl _) (List.prefix_refl _) S1 wk_r⟩
      · cases hq
    · cases hq⟩
theorem si_r2 {tg a b : Expr} {p pos : Pos} {s : S (List D)} (h : PI X tg (.Call (.Name "range" p) [a, b] [] pos) (iRng2 (tA X.K X.mg W s))) : SI X W tg (.Call (.Name "range" p) [a, b] [] pos) (iR2 s) := pi_imp h fun σ H R ⟨Hf, F, ρ, env, C, S0, E0, g⟩ =>
  ⟨Hf, F, ρ, env, C, S0, E0, (Go.bind g).mono fun vs H1 ⟨Hf1, ρ1, C1, ds, e1, p1, S1, A1, g1⟩ => by
    obtain ⟨q, hq, g2⟩ := Go.opt g1
    unfold rng2 at hq
    split at hq
    · rename_i i j
      split at hq
      · rename_i hj
        have hj := And.intro (inRng_iff.mp hj.1) (inRng_iff.mp hj.2)
        have e := Option.some.inj hq
        subst e
        cases A1 with
        | cons h1 h2 =>
          cases h1
          cases h2 with
          | cons h3 h4 =>
            cases h3
            cases h4
            exact ⟨i, j, rfl, ⟨hj.1.1, hj.1.2, hj.2.1, hj.2.2⟩, g2 _ H1 Hf1 ρ1 (Same.refl _) (List.prefix_refl _) S1 wk_r⟩
      · cases hq
    · cases hq⟩
/-! ### for -/
def lp (g : Gd) (t : Tg) (b : SS) : List D → SS
  | [] => fun e C => if g C = true then some (.nx e C) else none
  | d :: r => fun e C => if g C = true then match t.put d e with
      | none => none
      | some e1 => match b e1 C with
        | some (.nx e2 C2) => lp g t b r e2 C2
        | some (.ct e2 C2) => lp g t b r e2 C2
        | some (.bk e2 C2) => some (.nx e2 C2)
        | o => o
    else none
def xFor (it : SW) (t : Tg) (b : SS) : SS := xDo it fun p => lp p.2 t b p.1
theorem sc_for {tg iter : Expr} {body : List Stmt} {pos : Pos} {it : SW} {t : Tg} {b : SS} (hp : PassesOwn (model X.prog X.w) X.A X.env X.xe) (hc : X.calm = true) (hi : SI X W tg iter it) (hg : SG X W tg t) (hb : SCs X W body b)
    (hs : ∀ x, foldedSetIterable iter X.env x = pure x) : SC X W (.For tg iter body [] pos) (xFor it t b) :=
  ps_imp (ps_for hp hc hi hg hb hs) fun D σ H ⟨Hf, F, ρ, env, C, S0, E0, g0⟩ => ⟨Hf, F, ρ, env, C, S0, E0, (GoS.doit E0 g0).mono fun J H1 ⟨Hf1, ρ1, C1, p, e1, p1, S1, w1, g1⟩ => by
    obtain ⟨ds, g⟩ := p
    refine ⟨fun i m σ2 H2 => i ≤ ds.length ∧ m = ds.length - i ∧ ∃ Hf2 ρ2 env2 C2, Same Hf1 Hf2 ∧ ρ1 <+: ρ2 ∧ SR X.K Hf2 F ρ2 C2 H2 ∧ EnvR X.K X.mg W.xc Hf2 ρ2 σ2 env2 ∧ GoS X.K X.mg W Hf2 F ρ2 (lp g t b (ds.drop i) env2 C2) D,
      ⟨ds.length, Nat.zero_le _, rfl, Hf1, ρ1, env, C1, Same.refl _, List.prefix_refl _, S1, E0.mono e1 p1, g1⟩, ?_⟩
    rintro i m σ2 H2 ⟨hi, rfl, Hf2, ρ2, env2, C2, e2, p2, S2, E2, g2⟩
    by_cases hlt : i < ds.length
    · rw [List.drop_eq_getElem_cons hlt] at g2
      unfold lp at g2
      split at g2
      · rename_i hgd
        obtain ⟨go, yl⟩ := (w1 i Hf2 F ρ2 C2 H2 e2 p2 S2 hgd).1 hlt
        refine .inr ⟨go, fun σ' H' => ∃ Hf3 ρ3 env3 C3, Same Hf2 Hf3 ∧ ρ2 <+: ρ3 ∧ SR X.K Hf3 F ρ3 C3 H' ∧ EnvR X.K X.mg W.xc Hf3 ρ3 σ' env3 ∧ GoS X.K X.mg W Hf3 F ρ3 (lp g t b (ds.drop (i + 1)) env3 C3) D,
          fun σ' H' ⟨Hf3, ρ3, env3, C3, e3, p3, S3, E3, g3⟩ => ⟨ds.length - (i + 1), by omega, hlt, rfl, Hf3, ρ3, env3, C3, e2.trans e3, p2.trans p3, S3, E3, g3⟩, fun x H3 hy => ?_⟩
        obtain ⟨d, Hf3, hd, e3, S3, D3⟩ := yl x H3 hy
        have ed : ds[i] = d := by
          rw [List.getElem?_eq_getElem hlt] at hd
          exact Option.some.inj hd
        rw [ed] at g2
        cases ht : t.put d env2 with
        | none =>
          rw [ht] at g2
          exact g2.elim
        | some env3 =>
          rw [ht] at g2
          refine ⟨Hf3, F, ρ2, env2, C2, d, S3, E2.mono e3 (List.prefix_refl _), D3, env3, ht, fun σ4 E4 _ => ⟨Hf3, F, ρ2, env3, C2, S3, E4, ?_⟩⟩
          simp only [] at g2
          cases hb' : b env3 C2 with
          | none =>
            rw [hb'] at g2
            exact g2
          | some r =>
            rw [hb'] at g2
            cases r with
            | nx e' C' => exact fun σ' H' Hf' ρ' e4 p4 s4 n4 => ⟨Hf', ρ', e', C', e3.trans e4, p4, s4, n4, (g2.later e3 (List.prefix_refl _)).later e4 p4⟩
            | ct e' C' => exact fun σ' H' Hf' ρ' e4 p4 s4 n4 => ⟨Hf', ρ', e', C', e3.trans e4, p4, s4, n4, (g2.later e3 (List.prefix_refl _)).later e4 p4⟩
            | bk e' C' => exact fun σ' H' Hf' ρ' e4 p4 s4 n4 => g2 σ' H' Hf' ρ' (e3.trans e4) p4 s4 n4
            | ret d' C' => exact fun v H' Hf' ρ' e4 p4 s4 n4 => g2 v H' Hf' ρ' (e3.trans e4) p4 s4 n4
            | ex c q e' C' => exact fun cls dd σ' H' Hf' ρ' e4 p4 s4 n4 x4 => g2 cls dd σ' H' Hf' ρ' (e3.trans e4) p4 s4 n4 x4
      · exact g2.elim
    · have ei : i = ds.length := by omega
      subst ei
      rw [List.drop_eq_nil_of_le (Nat.le_refl _)] at g2
      unfold lp at g2
      split at g2
      · rename_i hgd
        exact .inl ⟨(w1 _ Hf2 F ρ2 C2 H2 e2 p2 S2 hgd).2 (Nat.le_refl _), g2 σ2 H2 Hf2 ρ2 (Same.refl _) (List.prefix_refl _) S2 E2⟩
      · exact g2.elim⟩
/-! ### while -/
def wh (c : S Bool) (b : SS) : Nat → SS
  | 0 => fun _ _ => none
  | n + 1 => xDo c fun k => if k = true then (fun e C => match b e C with
      | some (.nx e2 C2) => wh c b n e2 C2
      | some (.ct e2 C2) => wh c b n e2 C2
      | some (.bk e2 C2) => some (.nx e2 C2)
      | o => o)
    else xNext
theorem sc_while {c : Expr} {body : List Stmt} {pos : Pos} {sc : S Bool} {b : SS} (n : Nat) (hp : PassesOwn (model X.prog X.w) X.A X.env X.xe) (hc : SB X W c sc) (hb : SCs X W body b) : SC X W (.While c body [] pos) (wh sc b n) :=
  ps_imp (ps_while hp hc hb) fun D σ H ⟨Hf, F, ρ, env, C, S0, E0, g0⟩ => by
    refine ⟨fun m σ2 H2 => ∃ Hf2 ρ2 env2 C2, Same Hf Hf2 ∧ ρ <+: ρ2 ∧ SR X.K Hf2 F ρ2 C2 H2 ∧ EnvR X.K X.mg W.xc Hf2 ρ2 σ2 env2 ∧ GoS X.K X.mg W Hf2 F ρ2 (wh sc b m env2 C2) D, ⟨n, Hf, ρ, env, C, Same.refl _, List.prefix_refl _, S0, E0, g0⟩, ?_⟩
    rintro m σ2 H2 ⟨Hf2, ρ2, env2, C2, e2, p2, S2, E2, g2⟩
    cases m with
    | zero => exact g2.elim
    | succ m =>
      unfold wh at g2
      refine ⟨Hf2, F, ρ2, env2, C2, S2, E2, (GoS.doit E2 g2).mono fun k H3 ⟨Hf3, ρ3, C3, k', e3, p3, S3, A3, g3⟩ => ?_⟩
      have A4 : k = k' := A3
      subst A4
      cases k with
      | false => exact g3 σ2 H3 Hf3 ρ3 (Same.refl _) (List.prefix_refl _) S3 (E2.mono e3 p3)
      | true =>
        refine ⟨fun σ' H' => ∃ Hf4 ρ4 env4 C4, Same Hf Hf4 ∧ ρ <+: ρ4 ∧ SR X.K Hf4 F ρ4 C4 H' ∧ EnvR X.K X.mg W.xc Hf4 ρ4 σ' env4 ∧ GoS X.K X.mg W Hf4 F ρ4 (wh sc b m env4 C4) D, fun σ' H' q => ⟨m, Nat.lt_succ_self m, q⟩, Hf3, F, ρ3, env2, C3, S3, E2.mono e3 p3, ?_⟩
        have g4 : GoS X.K X.mg W Hf3 F ρ3 (match b env2 C3 with
          | some (.nx e2 C2) => wh sc b m e2 C2
          | some (.ct e2 C2) => wh sc b m e2 C2
          | some (.bk e2 C2) => some (.nx e2 C2)
          | o => o) D := g3
        cases hb' : b env2 C3 with
        | none =>
          rw [hb'] at g4
          exact g4
        | some r =>
          rw [hb'] at g4
          cases r with
          | nx e' C' => exact fun σ' H' Hf' ρ' e4 p4 s4 n4 => ⟨Hf', ρ', e', C', (e2.trans e3).trans e4, (p2.trans p3).trans p4, s4, n4, g4.later e4 p4⟩
          | ct e' C' => exact fun σ' H' Hf' ρ' e4 p4 s4 n4 => ⟨Hf', ρ', e', C', (e2.trans e3).trans e4, (p2.trans p3).trans p4, s4, n4, g4.later e4 p4⟩
          | bk e' C' => exact g4
          | ret d' C' => exact g4
          | ex c q e' C' => exact g4
/-! ### list comprehensions -/
def wipeE (e : Env) : List Nat → Env
  | [] => e
  | v :: vs => (wipeE e vs).set v none
theorem EnvR.wipe {xc : XC} {Hf : Hp} {ρ : List Addr} {σ : L2.St} {env : Env} (h : EnvR K mg xc Hf ρ σ env) : ∀ vs, EnvR K mg xc Hf ρ (L2.wipe σ vs) (wipeE env vs)
  | [] => h
  | v :: vs => by
    have h1 := EnvR.wipe h vs
    refine ⟨by unfold L2.wipe wipeE; rw [List.length_set, List.length_set]; exact h1.len, fun j d hj n => ?_, fun j a cls dd c f d hx hj => ?_⟩
    all_goals
     unfold wipeE at hj
     unfold L2.wipe
     by_cases hv : v = j
     · subst hv
       by_cases hl : v < (wipeE env vs).length
       · rw [List.getElem?_set_self hl] at hj
         cases hj
       · rw [List.getElem?_eq_none (by rw [List.length_set]; omega)] at hj
         cases hj
     rw [List.getElem?_set_ne hv] at hj ⊢
    · exact h1.at_ j d hj n
    · exact h1.exc j a cls dd c f d hx hj
theorem wipe_get {σ : L2.St} {i : Nat} : ∀ {vs : List Nat}, i ∉ vs → (L2.wipe σ vs)[i]? = σ[i]?
  | [], _ => rfl
  | v :: vs, h => by
    unfold L2.wipe
    rw [List.getElem?_set_ne (fun e => h (by rw [e]; exact List.mem_cons_self)), wipe_get fun z => h (List.mem_cons_of_mem _ z)]
theorem wipe_at {σ : L2.St} {i : Nat} : ∀ {vs : List Nat}, i ∈ vs → i < σ.length → (L2.wipe σ vs)[i]? = some none
  | [], h, _ => by cases h
  | v :: vs, h, hl => by
    unfold L2.wipe
    by_cases hv : v = i
    · subst hv
      exact List.getElem?_set_self (by rw [L2.wipe_length]; exact hl)
    · rw [List.getElem?_set_ne hv]
      exact wipe_at ((List.mem_cons.mp h).resolve_left fun e => hv e.symm) hl
theorem wipe_same {σ σ2 : L2.St} {vs : List Nat} (hl : σ2.length = σ.length) (h : ∀ j, j ∉ vs → σ2[j]? = σ[j]?) : L2.wipe σ2 vs = L2.wipe σ vs := by
  apply List.ext_getElem?
  intro i
  by_cases hi : i ∈ vs
  · by_cases hlt : i < σ.length
    · rw [wipe_at hi hlt, wipe_at hi (by rw [hl]; exact hlt)]
    · rw [List.getElem?_eq_none (by rw [L2.wipe_length]; omega), List.getElem?_eq_none (by rw [L2.wipe_length]; omega)]
  · rw [wipe_get hi, wipe_get hi, h i hi]
theorem wipe_wipe {σ : L2.St} {vs : List Nat} : L2.wipe (L2.wipe σ vs) vs = L2.wipe σ vs := wipe_same (L2.wipe_length _ _) fun j hj => wipe_get hj
/-- the turns of a comprehension: what they give -/
def lcs (g : Gd) (t : Tg) (c : S Bool) (x : S D) : List D → S (List D)
  | [] => fun _ C => if g C = true then some (.ok [] C) else none
  | d :: r => fun e C => if g C = true then match t.put d e with
      | none => none
      | some e1 => match c e1 C with
        | some (.ok true C1) => match x e1 C1 with
          | some (.ok y C2) => match lcs g t c x r e C2 with
            | some (.ok ys C3) => some (.ok (y :: ys) C3)
            | _ => none
          | _ => none
        | some (.ok false C1) => lcs g t c x r e C1
        | _ => none
    else none
def xLc (it : SW) (t : Tg) (c : S Bool) (x : S D) (vs : List Nat) : S (List D) := S.bind it fun p => if p.1.length ≤ 1000000 then (fun e C => lcs p.2 t c x p.1 (wipeE e vs) C) else fun _ _ => none
abbrev W0 : Wh := ⟨fun _ _ _ _ => False, none⟩
/-- a list that is being made stands in the frame -/
theorem SR.intoF {Hf F : Hp} {ρ : List Addr} {C : Cells} {H : Hp} (S : SR K Hf F ρ C H) {p : Addr} {o : HO} (hp : H p = none) (ho : ∀ ps, o ≠ .tbl ps := by intro _ e; cases e) : SR K Hf (upd F p o) ρ C (upd H p o) := by
  have hf : Hf p = none := S.ex.free hp
  refine ⟨fun b u h => ?_, fun b u h => ?_, fun b u h => ?_, S.len, fun n a u h1 h2 => ?_, S.inj, fun t ht => by
    obtain ⟨k1, k2⟩ := S.tab t ht
    have ha := k2.ne hp
    exact ⟨⟨k1.1, by rw [upd_ne ha]; exact k1.2⟩, k2.mono (fun _ _ h => h) fun o h _ => by rw [upd_ne ha]; exact h⟩, fun b ps => ⟨(S.nt b ps).1, fun e => by
    by_cases hb : b = p
    · rw [hb, upd_same] at e
      exact ho ps (Option.some.inj e)
    · rw [upd_ne hb] at e
      exact (S.nt b ps).2 e⟩⟩
  · rw [upd_ne (ne_of_none (S.ex b u h) hp)]
    exact S.ex b u h
  · by_cases hb : b = p
    · subst hb
      rw [upd_same] at h ⊢
      exact h
    · rw [upd_ne hb] at h ⊢
      exact S.fr b u h
  · by_cases hb : b = p
    · subst hb
      exact .inl hf
    · rw [upd_ne hb] at h
      exact S.ap b u h
  · obtain ⟨k1, k2⟩ := S.cel n a u h1 h2
    obtain ⟨w, hw⟩ := k2.some
    have ha : a ≠ p := ne_of_none hw hp
    rw [upd_ne ha, upd_ne ha]
    exact ⟨k1, k2⟩
theorem SR.growF {Hf F : Hp} {ρ : List Addr} {C : Cells} {H : Hp} {p : Addr} {o u : HO} (S : SR K Hf (upd F p o) ρ C H) (ho : ¬ Stay o := by intro h; exact h) (hu : ∀ ps, u ≠ .tbl ps := by intro _ e; cases e) : SR K Hf (upd F p u) ρ C (upd H p u) := by
  have hf : Hf p = none := (S.ap p o upd_same).resolve_right ho
  refine ⟨fun b w h => ?_, fun b w h => ?_, fun b w h => ?_, S.len, fun n a w h1 h2 => ?_, S.inj, fun t ht => by
    obtain ⟨k1, k2⟩ := S.tab t ht
    have ha : t.1 ≠ p := fun e => by
      have := k1.2
      rw [e, upd_same] at this
      cases this
    exact ⟨⟨k1.1, by rw [upd_ne ha]; have := k1.2; rw [upd_ne ha] at this; exact this⟩, k2.mono (fun _ _ h => h) fun o h _ => by rw [upd_ne ha]; exact h⟩, fun b ps => ⟨(S.nt b ps).1, fun e => by
    by_cases hb : b = p
    · rw [hb, upd_same] at e
      exact hu ps (Option.some.inj e)
    · rw [upd_ne hb] at e
      exact (S.nt b ps).2 (by rw [upd_ne hb]; exact e)⟩⟩
  · rw [upd_ne (ne_of_none h hf)]
    exact S.ex b w h
  · by_cases hb : b = p
    · subst hb
      rw [upd_same] at h ⊢
      exact h
    · rw [upd_ne hb] at h ⊢
      exact S.fr b w (by rw [upd_ne hb]; exact h)
  · by_cases hb : b = p
    · subst hb
      exact .inl hf
    · rw [upd_ne hb] at h
      exact S.ap b w (by rw [upd_ne hb]; exact h)
  · obtain ⟨⟨k0, k1⟩, k2⟩ := S.cel n a w h1 h2
    have ha : a ≠ p := fun e => by
      subst e
      rw [upd_same] at k1
      cases k1
    rw [upd_ne ha] at k1
    rw [upd_ne ha, upd_ne ha]
    exact ⟨⟨k0, k1⟩, k2⟩
/-- at the end: the list is fresh -/
theorem SR.outF {Hf F : Hp} {ρ : List Addr} {C : Cells} {H : Hp} {p : Addr} {vs : List V} {ds : List D} (hF : F p = none) (S : SR K Hf (upd F p (.lst vs)) ρ C H) (h : Dats K Hf ρ vs ds) : Fresh K H Hf F ρ C (.ref p) ds := by
  have hf : Hf p = none := (S.ap p _ upd_same).resolve_right fun h => h
  have hH : H p = some (.lst vs) := S.fr p _ upd_same
  have nb : ∀ {n : Nat} {a : Addr} {o : Ob}, ρ[n]? = some a → C[n]? = some (some o) → a ≠ p ∧ Hf a = none ∧ F a = none ∧ ObR K Hf (ρ.take n) (H a) o := fun {n a o} h1 h2 => by
    obtain ⟨⟨k0, k1⟩, k2⟩ := S.cel n a o h1 h2
    have ha : a ≠ p := fun e => by
      subst e
      rw [upd_same] at k1
      cases k1
    rw [upd_ne ha] at k1
    exact ⟨ha, k0, k1, k2⟩
  have fr : Same F H := fun b o q => S.fr b o (by rw [upd_ne (ne_of_none q hF)]; exact q)
  have ap : ∀ b o, F b = some o → Hf b = none ∨ Stay o := fun b o q => S.ap b o (by rw [upd_ne (ne_of_none q hF)]; exact q)
  have e0 : Same Hf (upd Hf p (.lst vs)) := fun b u q => by
    rw [upd_ne (ne_of_none q hf)]
    exact q
  have tb : ∀ t ∈ Tabs0.T, t.1 ≠ p ∧ F t.1 = none := fun t ht => by
    have k1 := (S.tab t ht).1.2
    have ha : t.1 ≠ p := fun e => by
      rw [e, upd_same] at k1
      cases k1
    rw [upd_ne ha] at k1
    exact ⟨ha, k1⟩
  have nF : ∀ b ps, F b ≠ some (.tbl ps) := fun b ps e => by
    by_cases hb : b = p
    · rw [hb, hF] at e
      cases e
    · exact (S.nt b ps).2 (by rw [upd_ne hb]; exact e)
  refine .mk hH h ⟨fun b u q => ?_, fr, fun b o q => ?_, S.len, fun n a o h1 h2 => ?_, S.inj, fun t ht => ⟨⟨by rw [upd_ne (tb t ht).1]; exact (S.tab t ht).1.1, (tb t ht).2⟩, (S.tab t ht).2.mono e0 fun o h _ => h⟩, fun b ps => ⟨fun e => by
    by_cases hb : b = p
    · rw [hb, upd_same] at e
      cases e
    · rw [upd_ne hb] at e
      exact (S.nt b ps).1 e, nF b ps⟩⟩ (fun nc => ⟨S.ex, fr, ap, by rw [List.length_append, List.length_append, S.len]; rfl, fun n a u h1 h2 => ?_, fun m n a o u h1 h2 h3 h4 => ?_, fun t ht => ⟨⟨(S.tab t ht).1.1, (tb t ht).2⟩, (S.tab t ht).2⟩, fun b ps => ⟨(S.nt b ps).1, nF b ps⟩⟩) hf
  · by_cases hb : b = p
    · subst hb
      rw [upd_same] at q
      rw [hH]
      exact q
    · rw [upd_ne hb] at q
      exact S.ex b u q
  · rw [upd_ne (ne_of_none q hF)]
    exact ap b o q
  · obtain ⟨ha, k0, k1, k2⟩ := nb h1 h2
    rw [upd_ne ha]
    exact ⟨⟨k0, k1⟩, k2.mono e0⟩
  · by_cases hn : n < ρ.length
    · rw [List.getElem?_append_left hn] at h1
      rw [List.getElem?_append_left (by rw [← S.len]; exact hn)] at h2
      obtain ⟨ha, k0, k1, k2⟩ := nb h1 h2
      rw [List.take_append_of_le_length (Nat.le_of_lt hn)]
      exact ⟨⟨k0, k1⟩, k2⟩
    · have hn' := (List.getElem?_eq_some_iff.mp h1).1
      rw [List.length_append] at hn'
      have hone : ([p] : List Addr).length = 1 := rfl
      have en : n = ρ.length := by omega
      subst en
      rw [List.getElem?_append_right (Nat.le_refl _), Nat.sub_self] at h1
      rw [S.len, List.getElem?_append_right (Nat.le_refl _), Nat.sub_self] at h2
      have ea : p = a := Option.some.inj h1
      have eu : Ob.l ds = u := Option.some.inj (Option.some.inj h2)
      subst ea
      subst eu
      rw [hH]
      exact ⟨⟨hf, hF⟩, .l (h.bare nc)⟩
  · have old : ∀ {k : Nat} {b : Addr} {o : Ob}, k < ρ.length → (ρ ++ [p])[k]? = some b → (C ++ [some (.l ds)])[k]? = some (some o) → ρ[k]? = some b ∧ C[k]? = some (some o) ∧ b ≠ p := fun {k b o} hk g1 g2 => by
      rw [List.getElem?_append_left hk] at g1
      rw [List.getElem?_append_left (by rw [← S.len]; exact hk)] at g2
      exact ⟨g1, g2, (nb g1 g2).1⟩
    have new : ∀ {k : Nat} {b : Addr}, ¬ k < ρ.length → (ρ ++ [p])[k]? = some b → k = ρ.length ∧ p = b := fun {k b} hk g1 => by
      have hn' := (List.getElem?_eq_some_iff.mp g1).1
      rw [List.length_append] at hn'
      have hone : ([p] : List Addr).length = 1 := rfl
      have en : k = ρ.length := by omega
      subst en
      rw [List.getElem?_append_right (Nat.le_refl _), Nat.sub_self] at g1
      exact ⟨rfl, Option.some.inj g1⟩
    by_cases hm : m < ρ.length
    · obtain ⟨a1, a2, a3⟩ := old hm h1 h3
      by_cases hn : n < ρ.length
      · obtain ⟨b1, b2, b3⟩ := old hn h2 h4
        exact S.inj m n a o u a1 b1 a2 b2
      · exact absurd (new hn h2).2.symm a3
    · obtain ⟨rfl, e1⟩ := new hm h1
      by_cases hn : n < ρ.length
      · obtain ⟨b1, b2, b3⟩ := old hn h2 h4
        exact absurd e1.symm b3
      · exact (new hn h2).1.symm
/-- the reading of a comprehension -/
theorem goLc {it : SW} {t : Tg} {c : S Bool} {x : S D} {vs : List Nat} (hv : ∀ j ∈ t.at_, j ∈ vs) {σ : L2.St} {H : Hp} {Q : VK} (hput : ∀ d e e', t.put d e = some e' → e'.length = e.length) (h : tL X.K X.mg W (xLc it t c x vs) σ H Q) :
    tLc (tI X.K X.mg W it) (gG X.K X.mg none t) (tT X.K X.mg W0 c) (tE X.K X.mg W0 x) vs σ H Q := by
  obtain ⟨Hf, F, ρ, env, C, S0, E0, g⟩ := h
  refine ⟨Hf, F, ρ, env, C, S0, E0, ?_⟩
  unfold xLc S.bind at g
  cases hit : it env C with
  | none =>
    rw [hit] at g
    exact g
  | some r =>
    rw [hit] at g
    cases r with
    | ex c' p C' => exact g
    | ok p C' =>
      obtain ⟨ds, gd⟩ := p
      refine fun J H1 Hf1 ρ1 e1 p1 S1 w1 Dl hD => ?_
      simp only [] at g
      split at g
      · rename_i hfew
        have E1 := (E0.mono e1 p1).plain.wipe vs
        have hF : F Dl = none := S1.fr.free hD
        -- acc: what has been made
        refine ⟨fun i m H2 => i ≤ ds.length ∧ m = ds.length - i ∧ ∃ Hf2 ρ2 C2 acc dacc, Same Hf1 Hf2 ∧ ρ1 <+: ρ2 ∧ SR X.K Hf2 (upd F Dl (.lst acc)) ρ2 C2 H2 ∧ acc.length ≤ i ∧ Dats X.K Hf2 ρ2 acc dacc ∧
          (match lcs gd t c x (ds.drop i) (wipeE env vs) C2 with
            | some (.ok ys C3) => ∀ v H' Hf' ρ', Same Hf2 Hf' → ρ2 <+: ρ' → Fresh X.K H' Hf' F ρ' C3 v (dacc ++ ys) → Q v H'
            | _ => False), ⟨ds.length, Nat.zero_le _, rfl, Hf1, ρ1, C', [], [], Same.refl _, List.prefix_refl _, S1.intoF hD, Nat.zero_le _, .nil, ?_⟩, ?_⟩
        · have g : GoL X.K X.mg W σ Hf F ρ (lcs gd t c x ds (wipeE env vs) C') Q := g
          cases hl : lcs gd t c x ds (wipeE env vs) C' with
          | none =>
            rw [hl] at g
            exact g.elim
          | some r =>
            rw [hl] at g
            rw [List.drop_zero, hl]
            cases r with
            | ok ys C3 => exact fun v H' Hf' ρ' e' p' f' => g v H' Hf' ρ' (e1.trans e') (p1.trans p') f'
            | ex c' q C3 =>
              have no : ∀ (l : List D) (C : Cells) (e : Env) (c' : Str) (q : Option (Str × D)) (C3 : Cells), lcs gd t c x l e C ≠ some (.ex c' q C3) := by
                intro l
                induction l with
                | nil =>
                  intro C e c' q C3 z
                  unfold lcs at z
                  split at z <;> cases z
                | cons d r ih =>
                  intro C e c' q C3 z
                  unfold lcs at z
                  split at z
                  · split at z
                    · cases z
                    · split at z
                      · split at z
                        · split at z <;> cases z
                        · cases z
                      · exact ih _ _ _ _ _ z
                      · cases z
                  · cases z
              exact absurd hl (no _ _ _ _ _ _)
        · rintro i m H2 ⟨hi, rfl, Hf2, ρ2, C2, acc, dacc, e2, p2, S2, hacc, D2, g2⟩
          by_cases hlt : i < ds.length
          · rw [List.drop_eq_getElem_cons hlt] at g2
            unfold lcs at g2
            by_cases hgd : gd C2 = true
            · rw [if_pos hgd] at g2
              obtain ⟨go, yl⟩ := (w1 i Hf2 _ ρ2 C2 H2 e2 p2 S2 hgd).1 hlt
              refine .inr ⟨go, fun H3 => ∃ Hf3 ρ3 C3 acc' dacc', Same Hf1 Hf3 ∧ ρ1 <+: ρ3 ∧ SR X.K Hf3 (upd F Dl (.lst acc')) ρ3 C3 H3 ∧ acc'.length ≤ i + 1 ∧ Dats X.K Hf3 ρ3 acc' dacc' ∧
                (match lcs gd t c x (ds.drop (i + 1)) (wipeE env vs) C3 with
                  | some (.ok ys C3) => ∀ v H' Hf' ρ', Same Hf3 Hf' → ρ3 <+: ρ' → Fresh X.K H' Hf' F ρ' C3 v (dacc' ++ ys) → Q v H'
                  | _ => False), fun H3 q => ⟨ds.length - (i + 1), by omega, hlt, rfl, q⟩, fun y H3 hy => ?_⟩
              obtain ⟨d, Hf3, hd, e3, S3, D3⟩ := yl y H3 hy
              have ed : ds[i] = d := by
                rw [List.getElem?_eq_getElem hlt] at hd
                exact Option.some.inj hd
              rw [ed] at g2
              cases ht : t.put d (wipeE env vs) with
              | none =>
                rw [ht] at g2
                exact g2.elim
              | some env3 =>
                rw [ht] at g2
                simp only [] at g2
                have E3 := E1.mono (e2.trans e3) p2
                refine ⟨Hf3, _, ρ2, wipeE env vs, C2, d, S3, E3, D3, env3, ht, fun σ4 E4 f4 => ⟨?_, Hf3, _, ρ2, env3, C2, S3, E4, ?_⟩⟩
                · rw [← wipe_wipe (σ := σ)]
                  refine wipe_same ?_ fun j hj => f4 j fun z => hj (hv j z)
                  rw [E4.len, hput _ _ _ ht, E3.len]
                · cases hc : c env3 C2 with
                  | none =>
                    rw [hc] at g2
                    exact g2.elim
                  | some rc =>
                    rw [hc] at g2
                    cases rc with
                    | ex c' q C3 => exact g2.elim
                    | ok b C3 =>
                      refine fun b' H4 Hf4 ρ4 e4 p4 S4 hb => ?_
                      have hb' : b' = b := hb
                      subst hb'
                      cases b' with
                      | false =>
                        simp only [] at g2
                        refine ⟨Hf4, ρ4, C3, acc, dacc, (e2.trans e3).trans e4, p2.trans p4, S4, Nat.le_succ_of_le hacc, D2.mono (e3.trans e4) p4, ?_⟩
                        cases hl : lcs gd t c x (ds.drop (i + 1)) (wipeE env vs) C3 with
                        | none =>
                          rw [hl] at g2
                          exact g2
                        | some r =>
                          rw [hl] at g2
                          cases r with
                          | ex _ _ _ => exact g2
                          | ok ys C5 => exact fun v H' Hf' ρ' e' p' f' => g2 v H' Hf' ρ' ((e3.trans e4).trans e') (p4.trans p') f'
                      | true =>
                        simp only [] at g2
                        refine L2.iteT ?_
                        refine ⟨Hf4, _, ρ4, env3, C3, S4, E4.mono e4 p4, ?_⟩
                        cases hx : x env3 C3 with
                        | none =>
                          rw [hx] at g2
                          exact g2.elim
                        | some rx =>
                          rw [hx] at g2
                          cases rx with
                          | ex c' q C5 => exact g2.elim
                          | ok dy C5 =>
                            refine fun vy H5 Hf5 ρ5 e5 p5 S5 D5 => ⟨acc, S5.fr Dl _ upd_same, Nat.lt_of_le_of_lt hacc (Nat.lt_of_lt_of_le hlt (Nat.le_trans hfew (by decide))), ?_⟩
                            simp only [] at g2
                            refine ⟨Hf5, ρ5, C5, acc ++ [vy], dacc ++ [dy], ((e2.trans e3).trans e4).trans e5, (p2.trans p4).trans p5, S5.growF, by rw [List.length_append]; exact Nat.succ_le_succ hacc, (D2.mono ((e3.trans e4).trans e5) (p4.trans p5)).app (.cons D5 .nil), ?_⟩
                            cases hl : lcs gd t c x (ds.drop (i + 1)) (wipeE env vs) C5 with
                            | none =>
                              rw [hl] at g2
                              exact g2
                            | some r =>
                              rw [hl] at g2
                              cases r with
                              | ex _ _ _ => exact g2
                              | ok ys C6 =>
                                refine fun v H' Hf' ρ' e' p' f' => g2 v H' Hf' ρ' (((e3.trans e4).trans e5).trans e') ((p4.trans p5).trans p') ?_
                                rw [List.append_assoc] at f'
                                exact f'
            · rw [if_neg hgd] at g2
              exact g2.elim
          · have ei : i = ds.length := by omega
            subst ei
            rw [List.drop_eq_nil_of_le (Nat.le_refl _)] at g2
            unfold lcs at g2
            by_cases hgd : gd C2 = true
            · rw [if_pos hgd] at g2
              refine .inl ⟨(w1 _ Hf2 _ ρ2 C2 H2 e2 p2 S2 hgd).2 (Nat.le_refl _), g2 _ H2 Hf2 ρ2 (Same.refl _) (List.prefix_refl _) ?_⟩
              rw [List.append_nil]
              exact S2.outF hF D2
            · rw [if_neg hgd] at g2
              exact g2.elim
      · exact g.elim
end
end Sm
end
section
set_option maxRecDepth 100000
set_option maxHeartbeats 0
namespace SmX
open PySem PySem.W PySem.Calls PyProof.Rows

/-! ### an own error whose __init__ says super().__init__(f); self.f = f -/
def sA (f : Str) (p1 p2 : Pos) : Arguments := { posonlyargs := [], args := [{ arg := "self", annotation := none, pos := p1 }, { arg := f, annotation := none, pos := p2 }], vararg := none, kwonlyargs := [], kw_defaults := [], kwarg := none, defaults := [] }
def sB (f : Str) (q1 q2 q3 q4 q5 q6 q7 q8 q9 q0 : Pos) : List Stmt :=
  [.Expr (.Call (.Attribute (.Call (.Name "super" q1) [] [] q2) "__init__" q3) [.Name f q4] [] q5) q6, .Assign [.Attribute (.Name "self" q7) f q8] (.Name f q9) q0]
def sS (f : Str) : Scope := { kind := .function, names := [(PySem.Str.ofString "self", .local), (f, .local), (PySem.Str.ofString "__class__", .free), (PySem.Str.ofString "super", .globalImplicit)], isGenerator := false, isCoroutine := false, more := [] }
/-- how o.m(..) is evaluated, the line told -/
def MethEv (o : Expr) (m : Str) (apos pos : Pos) (args : List Expr) (pl : Sem Bool) : Prop := ∀ env : Env, eval (.Call (.Attribute o m apos) args [] pos) env = (do
      let ov ← attributeBase o m env (eval o env)
      standAt apos.atName
      let (f, first) ← holding [ov] (getMethod ov m pl)
      callWith pos f first (backTo pos (starEach args env)) [])
structure SupEnd (h h' : Heap) (x C dx : Addr) (f : Str) (v : Value) : Prop where
  keep : ∀ b o, b ≠ x → h.get? b = some o → h'.get? b = some o
  obj : ∃ t1, h'.get? x = some (excObj C t1 (some dx) .none)
  dbig : h.objs.size ≤ dx
  dne : dx ≠ x
  ns : h'.Ns1 dx (fun y => if y = f then some v else none)
/-- what the written part says of such a class at C, with its __init__ at fI -/
structure SupTxt (P : Program) (K : Frag) (mg : Str → Option Value) (B i newId : String) (bmB : List Value) (C fI : Addr) (x f : Str) : Prop where
  gC : mg x = some (.ref C)
  kC : keepIn K (.ref C) = true
  cls : ∃ nm q N bs bm sn sub ab col dd k0 k1 k2 k3 k5, K.lookup C = some (excClassObj nm q C N bs bm true sn sub ab col dd k0 k1 k2 k3 k5 newId)
  inn : excInitIn K C bmB newId = true
  ovr : excOver K C bmB = true
  sa : findIn K (.ref C) "__setattr__" = some (some (.builtin "object.__setattr__"))
  ga : findIn K (.ref C) "__getattribute__" = some (some (.builtin "BaseException.__getattribute__"))
  gg : findIn K (.ref C) "__getattr__" = some none
  noF : findIn K (.ref C) f = some none
  iC : findIn K (.ref C) "__init__" = some (some (.ref fI))
  tI : typeIn K (.ref fI) = some (.type "function")
  exC : subIn K (.ref C) (.type "BaseException") = some true
  exB : subIn K (.ref C) (.type B) = some true
  tyC : typeIn K (.ref C) = some (.type "type")
  hdC : hasDictIn K C = true
  self : mroIn K C (.ref C) = some true
  sup : ks_superIn K C C "__init__" = some (some (.builtin i))
  opq : nsIn K cStatics "thirdparty.any" = some none
  sg : nsIn K mainGlobals "super" = some none
  top : (P.main.scope.names.lookup ("super" : Str)).isSome = false
  fn : ∃ (oc : Value) (od : Option Addr) (doc pm : Value) (an : Option Addr) (cda cc : Addr) (ct : Value) (osl : Array (Option Value)) (q : Str) (p1 p2 q1 q2 q3 q4 q5 q6 q7 q8 q9 q0 : Pos)
    (ccl cl : Value) (cdd cld : Option Addr) (ccs csl : Array (Option Value)) (vs : Array Value) (file : Str) (tf : Tok),
    K.lookup fI = some ⟨oc, od, .func (ksFn "__init__" q (sA f p1 p2) (sB f q1 q2 q3 q4 q5 q6 q7 q8 q9 q0) (sS f) .none .none doc pm an (.ref cda) ct cc), osl⟩ ∧ codeIn K (.ref cda) q = true ∧
    K.lookup cda = some ⟨ccl, cdd, .fields vs, ccs⟩ ∧ vs[2]? = some (.str file tf) ∧ ((P.main.file : Str) == file) = true ∧ K.lookup cc = some ⟨cl, cld, .cell (some (.ref C)), csl⟩ ∧
    ∃ pl, MethEv (.Call (.Name "super" q1) [] [] q2) "__init__" q3 q5 [.Name f q4] pl

section
variable {prog : Program} {w : World} {A : Around} {E : Value → Shared → Prop} {R : Result → Shared → Prop} {K : Frag} {mg : Str → Option Value} {C fI : Addr} {B i newId : String} {bmB : List Value} {n f : Str}
/-- what is reckoned of a name f -/
structure NmOk (f : Str) : Prop where
  k : (sS f).names.lookup f = some .local
  d : (f == ("__debug__" : Str)) = false
  c : ∀ y ∈ (sS f).names, y.2 ≠ .cell
  l1 : ∀ a b : Value, [(PySem.Str.ofString "self", a), (f, b)].reverse.lookup f = some b
  l0 : ∀ a b : Value, [(PySem.Str.ofString "self", a), (f, b)].reverse.lookup ("self" : Str) = some a
  bind : ∀ (q : Str) (p1 p2 : Pos) (b : List Stmt) (doc pm : Value) (an : Option Addr) (cda cc : Addr) (ct a v : Value), bindArgs (ksFn "__init__" q (sA f p1 p2) b (sS f) .none .none doc pm an (.ref cda) ct cc) ⟨[a, v], []⟩ = pure [(PySem.Str.ofString "self", a), (f, v)]
  ks : (sS f).names.lookup ("super" : Str) = some .globalImplicit
  kc : (sS f).names.lookup ("__class__" : Str) = some .free
  k0 : (sS f).names.lookup ("self" : Str) = some .local
/-- C(v): a new error -/
structure SupMade (h h' : Heap) (e C d : Addr) (f : Str) (v : Value) : Prop where
  keep : ∀ b o, h.get? b = some o → h'.get? b = some o
  new : h.objs.size ≤ e
  obj : ∃ t1, h'.get? e = some (excObj C t1 (some d) .none)
  dbig : h.objs.size ≤ d
  dne : d ≠ e
  ns : h'.Ns1 d (fun y => if y = f then some v else none)
end
end SmX

namespace Sm
open PySem L2 PySem.W PySem.Calls PyProof.Rows
section
variable {X : Cx} {C fI : Addr} {B i newId : String} {bmB : List Value} {n f : Str}
/-- C(e), an own error with one field -/
def tMkSup (C : Addr) (f : Str) (ta : TA) : L2.St → Hp → XK → Prop := fun σ H Q => ta σ H fun vs H1 => ∃ v, vs = [v] ∧ ∀ d, H1 d = none → Q (.ref C) (some d) (upd H1 d (.xd [(f, v)]))
end
end Sm
end
section
set_option maxRecDepth 100000
set_option maxHeartbeats 0
namespace Sm
variable [Tabs0]
open PySem L2
variable {K : PySem.W.Frag} {mg : Str → Option Value}

/-! ### raise, try -/
section
variable {X : Cx} {W : Wh}
def xRaise (c : Str) : SS := fun e C => some (.ex c none e C)
def xRaiseF (c f : Str) (s : S (List D)) : SS := xDo s fun ds e C => match ds with
  | [d] => some (.ex c (some (f, d)) e C)
  | _ => none
/-- e.f in a suite that holds the error, of class c, in slot i -/
def xErr (i : Nat) (c f : Str) : S D := fun env C => match env[i]? with
  | some (some (.err b g d)) => if c = b ∧ f = g then some (.ok d C) else none
  | _ => none
/-- which errors a clause takes -/
abbrev Tb := List (Str × Bool)
def Catch (K : PySem.W.Frag) (mg : Str → Option Value) (c : Value) (tb : Tb) : Prop := ∀ p ∈ tb, ∃ a : Addr, mg p.1 = some (.ref a) ∧ PySem.W.exmOne K (.ref a) c = some p.2
theorem Catch.get {c : Value} {tb : Tb} (h : Catch K mg c tb) {x : Str} {b : Bool} (e : tb.lookup x = some b) {a : Addr} (ha : mg x = some (.ref a)) : PySem.W.exmOne K (.ref a) c = some b := by
  have hm : (x, b) ∈ tb := PySem.mem_of_lookup e
  obtain ⟨a', h1, h2⟩ := h _ hm
  have h1' : mg x = some (.ref a') := h1
  rw [ha] at h1'
  cases h1'
  exact h2
/-- try: b except c as e (slot i): s, which returns -/
def xTry1 (tb : Tb) (i : Nat) (b s : SS) : SS := fun e C => match b e C with
  | some (.ex c p e1 C1) => match tb.lookup c with
    | some true => match p with
      | some (f, d) => if i < e1.length then match s (e1.set i (some (.err c f d))) C1 with
        | some (.ret d2 C2) => some (.ret d2 C2)
        | _ => none
        else none
      | none => none
    | some false => some (.ex c p e1 C1)
    | none => none
  | o => o
end
/-! ### a def of the text -/
section
open PyProof.Rows
variable {P : Program} {w : World} {base : Heap}
/-- a def by its body -/
theorem fnG_of {x qual : Str} {st : Stmt} {f : Addr} {fd : FuncData} {N ps : List Str} {n k : Nat} {b : SS} (F : L2.Fun K x qual st f fd) (Sc : FnScope N ps (defScope st)) (hn : ps.length = n)
    (body : ∀ (cdv : Value) (A : Around) (outer : List PySem.Env) (s : Shared) (H : Hp) (E : XK), Room k (A.deeper (envOfC qual (defScope st) s.heap.objs.size f cdv)) → (A.deeper (envOfC qual (defScope st) s.heap.objs.size f cdv)).guards = some [] → SCs (cxOf (L2.CX P w) P w K mg base N qual (defScope st) f cdv A outer s H E) (WF E) (defBody st) b) :
    FnG P w K mg base (k + 1) f fd ps (spS K mg n (xDef n N.length b)) := by
  have hl : ∀ vs H Q E, spS K mg n (xDef n N.length b) vs H Q E → vs.length = ps.length := fun vs H Q E h => by rw [hn]; exact h.1
  obtain ⟨oc, od, kV, doc, pm, an, cdv, ct, osl, rfl, lk, hcd⟩ := F.ex
  exact ⟨hl, fun A fs s H args us vs Q E gd hr e0 hb r h => LamX.run_ofS lk hcd Sc hr e0 hb r (hl _ _ _ _ h) fun hr' => ⟨_, body cdv A fs s H E hr' gd, goDef h⟩⟩
theorem cal_of {x qual : Str} {st : Stmt} {f : Addr} {fd : FuncData} {N ps : List Str} {n k : Nat} {b : SS} (F : L2.Fun K x qual st f fd) (gF : mg x = some (.ref f)) (hb : Binds K fd ps []) (Sc : FnScope N ps (defScope st)) (hn : ps.length = n)
    (body : ∀ (cdv : Value) (A : Around) (outer : List PySem.Env) (s : Shared) (H : Hp) (E : XK), Room k (A.deeper (envOfC qual (defScope st) s.heap.objs.size f cdv)) → (A.deeper (envOfC qual (defScope st) s.heap.objs.size f cdv)).guards = some [] → SCs (cxOf (L2.CX P w) P w K mg base N qual (defScope st) f cdv A outer s H E) (WF E) (defBody st) b) :
    Cal P w K mg base x n (k + 1) (xDef n N.length b) := by
  exact ⟨⟨f, fd, ps, gF, F.kp, hb, fnG_of F Sc hn body⟩, xDef_ar⟩
/-- what a body's context lets out -/
theorem takes_def {N : List Str} {qual : Str} {scope : Scope} {f : Addr} {cd : Value} {A : Around} {outer : List PySem.Env} {s : Shared} {H : Hp} {E : XK} : Takes (cxOf (L2.CX P w) P w K mg base N qual scope f cd A outer s H E) (WF E).w :=
  takes_of rfl rfl rfl rfl
end
end Sm
end
section
set_option maxRecDepth 100000
set_option maxHeartbeats 0
namespace Sm
variable [Tabs0]
open PySem L2
variable {K : PySem.W.Frag} {mg : Str → Option Value}

/-! ### operators of data -/
theorem Ans.here {Hf F : Hp} {ρ : List Addr} {C : Cells} {H : Hp} {d : D} {Q : VK} {v : V} (k : Ans K Hf F ρ C d Q) (S0 : SR K Hf F ρ C H) (h : Dat K Hf ρ v d) : Q v H := k v H Hf ρ (Same.refl _) (List.prefix_refl _) S0 h
theorem Ans.tup {Hf F : Hp} {ρ : List Addr} {C : Cells} {H : Hp} {ds : List D} {xs : List V} {Q : VK} (k : Ans K Hf F ρ C (.tup ds) Q) (S0 : SR K Hf F ρ C H) (h : Dats K Hf ρ xs ds) : ∀ p, H p = none → Q (.ref p) (upd H p (.tup xs)) := fun p hp => by
  obtain ⟨S1, e1⟩ := S0.new (o := .tup xs) hp
  exact k _ _ _ ρ e1 (List.prefix_refl _) S1 (.tup upd_same (h.mono e1 (List.prefix_refl _)))
theorem Ans.lst {Hf F : Hp} {ρ : List Addr} {C : Cells} {H : Hp} {ds : List D} {xs : List V} {Q : VK} (k : Ans K Hf F ρ C (.lst ds) Q) (S0 : SR K Hf F ρ C H) (h : Dats K Hf ρ xs ds) : ∀ p, H p = none → Q (.ref p) (upd H p (.lst xs)) := fun p hp => by
  obtain ⟨S1, e1⟩ := S0.new (o := .lst xs) hp
  exact k _ _ _ ρ e1 (List.prefix_refl _) S1 (.lst (.inl (.inl upd_same)) (h.mono e1 (List.prefix_refl _)))
theorem Vw.int {H Hf : Hp} {ρ : List Addr} {v : V} {i : Int} (h : Vw K H Hf ρ v (.int i)) : v = .int i := by
  cases h with
  | dat h => cases h; rfl
theorem Vw.bl {H Hf : Hp} {ρ : List Addr} {v : V} {i : Bool} (h : Vw K H Hf ρ v (.bl i)) : v = .bl i := by
  cases h with
  | dat h => cases h; rfl
theorem Vw.str {H Hf : Hp} {ρ : List Addr} {v : V} {i : Str} (h : Vw K H Hf ρ v (.str i)) : v = .str i := by
  cases h with
  | dat h => cases h; rfl
theorem Vw.non {H Hf : Hp} {ρ : List Addr} {v : V} (h : Vw K H Hf ρ v .non) : v = .non := by
  cases h with
  | dat h => cases h; rfl
theorem Vw.tup {H Hf : Hp} {ρ : List Addr} {v : V} {ds : List D} (e : Same Hf H) (h : Vw K H Hf ρ v (.tup ds)) : ∃ a xs, v = .ref a ∧ SqT K H a xs ∧ Hf a = some (.tup xs) ∧ Dats K Hf ρ xs ds := by
  cases h with
  | dat h =>
    cases h with
    | tup h hs => exact ⟨_, _, rfl, .inl (.inl (e _ _ h)), h, hs⟩
theorem Vw.lst {H Hf : Hp} {ρ : List Addr} {v : V} {ds : List D} (e : Same Hf H) (h : Vw K H Hf ρ v (.lst ds)) : ∃ a xs, v = .ref a ∧ SqL K H a xs ∧ Dats K Hf ρ xs ds := by
  cases h with
  | dat h =>
    cases h with
    | lst h hs => exact ⟨_, _, rfl, same_l e h, hs⟩
  | now h hs => exact ⟨_, _, rfl, h, hs⟩
def i2 (f : Int → Int → Option D) : D → D → Option D
  | .int a, .int b => f a b
  | _, _ => none
/-- a rule over ints -/
theorem op2_i {C : Int → Int → Prop} {g : Int → Int → V} {f : Int → Int → Option D} (h : ∀ a b d, f a b = some d → C a b ∧ ∀ Hf ρ, Dat K Hf ρ (g a b) d) : Op2 K (rI C g) (i2 f) := by
  intro Hf F ρ Cs H x y a b d Q S0 ha hb he k
  cases a with
  | int i =>
    cases b with
    | int j =>
      obtain ⟨h1, h2⟩ := h i j d he
      exact ⟨i, j, ha.int, hb.int, h1, k.here S0 (h2 _ _)⟩
    | _ => cases he
  | _ => cases he
theorem op2_i0 {g : Int → Int → V} {f : Int → Int → Option D} (h : ∀ a b d, f a b = some d → ∀ Hf ρ, Dat K Hf ρ (g a b) d) : Op2 K (rI0 g) (i2 f) := by
  intro Hf F ρ Cs H x y a b d Q S0 ha hb he k
  cases a with
  | int i =>
    cases b with
    | int j => exact ⟨i, j, ha.int, hb.int, k.here S0 (h i j d he _ _)⟩
    | _ => cases he
  | _ => cases he
def dSub : D → D → Option D := i2 fun a b => some (.int (a - b))
theorem op_dSub : Op2 K (rI0 fun i j => .int (i - j)) dSub := op2_i0 fun a b d e Hf ρ => by cases e; exact .int _
def dLt : D → D → Option D := i2 fun a b => some (.bl (decide (a < b)))
def dLe : D → D → Option D := i2 fun a b => some (.bl (decide (a ≤ b)))
def dGt : D → D → Option D := i2 fun a b => some (.bl (decide (b < a)))
def dGe : D → D → Option D := i2 fun a b => some (.bl (decide (b ≤ a)))
theorem op_dLt : Op2 K (rI0 fun i j => .bl (decide (i < j))) dLt := op2_i0 fun a b d e Hf ρ => by cases e; exact .bl _
theorem op_dLe : Op2 K (rI0 fun i j => .bl (decide (i ≤ j))) dLe := op2_i0 fun a b d e Hf ρ => by cases e; exact .bl _
theorem op_dGt : Op2 K (rI0 fun i j => .bl (decide (j < i))) dGt := op2_i0 fun a b d e Hf ρ => by cases e; exact .bl _
theorem op_dGe : Op2 K (rI0 fun i j => .bl (decide (j ≤ i))) dGe := op2_i0 fun a b d e Hf ρ => by cases e; exact .bl _
/-- a % b, b above 0 -/
def dMod : D → D → Option D := i2 fun a b => if 0 < b then some (.int (a % b)) else none
theorem op_dMod : Op2 K (rI (fun _ j => 0 < j) fun i j => .int (i % j)) dMod := op2_i fun a b d e => by
  by_cases h : 0 < b
  · rw [if_pos h] at e
    cases e
    exact ⟨h, fun _ _ => .int _⟩
  · rw [if_neg h] at e
    cases e
/-- a // b, b above 0 and not too long -/
def dDiv : D → D → Option D := i2 fun a b => if 0 < b ∧ b.natAbs < 2 ^ 8000 then some (.int (a / b)) else none
theorem op_dDiv : Op2 K (rI CDivW fun i j => .int (i / j)) dDiv := op2_i fun a b d e => by
  by_cases h : 0 < b ∧ b.natAbs < 2 ^ 8000
  · rw [if_pos h] at e
    cases e
    exact ⟨wide_div h.1 h.2 (by decide) (by decide), fun _ _ => .int _⟩
  · rw [if_neg h] at e
    cases e
/-- a ** b -/
def dPow : D → D → Option D := i2 fun a b => if 0 ≤ b ∧ (Builtin.Int.intBits a : Int) * b ≤ 2 ^ 27 then some (.int (a ^ b.toNat)) else none
def CPowW (i j : Int) : Prop := 0 ≤ j ∧ (Builtin.Int.intBits i : Int) * j ≤ 2 ^ 27
theorem op_powW {X : Cx} : OpR X (binaryOp .Pow) (rI CPowW fun i j => .int (i ^ j.toNat)) := opI fun _ _ _ _ _ _ _ hc q => PyProof.Rows.pow_int hc.1 hc.2 q
theorem op_dPow : Op2 K (rI CPowW fun i j => .int (i ^ j.toNat)) dPow := op2_i fun a b d e => by
  by_cases h : 0 ≤ b ∧ (Builtin.Int.intBits a : Int) * b ≤ 2 ^ 27
  · rw [if_pos h] at e
    cases e
    exact ⟨h, fun _ _ => .int _⟩
  · rw [if_neg h] at e
    cases e
/-- a * b: ints that are not too long, or a tuple some times -/
def dMul : D → D → Option D
  | .int a, .int b => if (a.natAbs < 2 ^ 400000 ∧ b.natAbs < 2 ^ 400000) then some (.int (a * b)) else none
  | .tup ds, .int b => if ds ≠ [] ∧ 2 ≤ b ∧ b ≤ 1000 ∧ ds.length ≤ 1000 then some (.tup (List.replicate b.toNat ds).flatten) else none
  | _, _ => none
theorem Dats.rep {H : Hp} {ρ : List Addr} {vs : List V} {ds : List D} (h : Dats K H ρ vs ds) : ∀ n, Dats K H ρ (List.replicate n vs).flatten (List.replicate n ds).flatten
  | 0 => .nil
  | n + 1 => by
    rw [List.replicate_succ, List.replicate_succ, List.flatten_cons, List.flatten_cons]
    exact h.app (Dats.rep h n)
theorem op_dMul : Op2 K (fun x y H Q => rI CMulW (fun i j => .int (i * j)) x y H Q ∨ rRepT K x y H Q) dMul := by
  intro Hf F ρ Cs H x y a b d Q S0 ha hb he k
  cases a with
  | int i =>
    cases b with
    | int j =>
      refine .inl ⟨i, j, ha.int, hb.int, ?_⟩
      unfold dMul at he
      simp only [] at he
      split at he
      · rename_i h
        have e := Option.some.inj he
        subst e
        exact ⟨wide_mul h.1 h.2 (by decide) (by decide) (by decide), k.here S0 (.int _)⟩
      · cases he
    | _ => cases he
  | tup ds =>
    cases b with
    | int j =>
      refine .inr ?_
      unfold dMul at he
      simp only [] at he
      split at he
      · rename_i h
        have e := Option.some.inj he
        subst e
        obtain ⟨a, xs, rfl, hx, _, hs⟩ := ha.tup S0.ex
        have hl := hs.len
        refine ⟨a, j, xs, rfl, hb.int, hx, fun z => h.1 ?_, h.2.1, h.2.2.1, by omega, k.tup S0 (hs.rep _)⟩
        subst z
        cases hs
        rfl
      · cases he
    | _ => cases he
  | _ => cases he
/-- a + b -/
def dAdd : D → D → Option D
  | .int a, .int b => some (.int (a + b))
  | .str a, .str b => if a.length + b.length ≤ 1000000 then some (.str (a ++ b)) else none
  | .tup a, .tup b => if a.length + b.length ≤ 1000000 then some (.tup (a ++ b)) else none
  | .lst a, .lst b => if a.length + b.length ≤ 1000000 then some (.lst (a ++ b)) else none
  | _, _ => none
def rCatL (K : PySem.W.Frag) : R2 := fun x y H Q => ∃ a b xs ys, x = .ref a ∧ y = .ref b ∧ SqL K H a xs ∧ SqL K H b ys ∧ xs.length + ys.length ≤ sizeLine ∧ ∀ p, H p = none → Q (.ref p) (upd H p (.lst (xs ++ ys)))
theorem op_catL {X : Cx} : OpR X (binaryOp .Add) (rCatL X.K) := by
  intro pins s σ H x y v u Q I rx ry h
  obtain ⟨a, b, xs, ys, rfl, rfl, ha, hb, hz, q⟩ := h
  cases rx
  cases ry
  obtain ⟨its, r1, p1, _⟩ := I.list ha
  obtain ⟨its2, r2, p2, _⟩ := I.list hb
  obtain ⟨⟨c1, d1, t1, s1⟩, h1, e1, n1, f1⟩ := p1.isList
  obtain ⟨⟨c2, d2, t2, s2⟩, h2, e2, n2, f2⟩ := p2.isList
  simp only at e1 f1 e2 f2
  subst e1 f1 e2 f2
  have l1 := r1.length
  have l2 := r2.length
  refine PySem.concat_meets ⟨_, h1, rfl⟩ ⟨_, h2, rfl⟩ PySem.noFill_list_add PySem.seq_list_add PySem.F.slot_list_add PySem.F.entry_list_add (PySem.F.args_list_add_2 _ _) (PyProof.Rows.list_addW a b its.toArray its2.toArray n1 n2 d1 d2 s1 s2 (by rw [List.size_toArray, List.size_toArray]; omega)) ⟨h1, h2, ?_⟩
  rw [show its.toArray ++ its2.toArray = (its ++ its2).toArray by simp]
  exact ⟨.ref _, _, I.lnew (t' := s.toks) (r1.append r2) (by rw [List.length_append]; exact hz), rfl, q _ I.fresh⟩
theorem small_ok {n : Nat} (h : n ≤ 1000000) : n ≤ sizeLine := Nat.le_trans h (by decide)
abbrev rAddAny (K : PySem.W.Frag) : R2 := fun x y H Q => rI0 (fun i j => .int (i + j)) x y H Q ∨ ((∃ i j, x = .str i ∧ y = .str j ∧ i.length + j.length ≤ sizeLine ∧ Q (.str (i ++ j)) H) ∨ (rCatA K x y H Q ∨ rCatL K x y H Q))
theorem or_add {X : Cx} : OpR X (binaryOp .Add) (rAddAny X.K) := op_add.or (op_add_str.or (op_catA.or op_catL))
theorem op_dAdd : Op2 K (rAddAny K) dAdd := by
  intro Hf F ρ Cs H x y a b d Q S0 ha hb he k
  cases a with
  | int i =>
    cases b with
    | int j =>
      have e := Option.some.inj he
      subst e
      exact .inl ⟨i, j, ha.int, hb.int, k.here S0 (.int _)⟩
    | _ => cases he
  | str i =>
    cases b with
    | str j =>
      unfold dAdd at he
      simp only [] at he
      split at he
      · have e := Option.some.inj he
        subst e
        exact .inr (.inl ⟨i, j, ha.str, hb.str, small_ok (by assumption), k.here S0 (.str _)⟩)
      · cases he
    | _ => cases he
  | tup as =>
    cases b with
    | tup bs =>
      unfold dAdd at he
      simp only [] at he
      split at he
      · have e := Option.some.inj he
        subst e
        obtain ⟨a, xs, rfl, hx, hxf, hs⟩ := ha.tup S0.ex
        obtain ⟨b, ys, rfl, hy, hyf, ht⟩ := hb.tup S0.ex
        have l1 := hs.len
        have l2 := ht.len
        refine .inr (.inr (.inl ⟨a, b, xs, ys, rfl, rfl, hx, hy, small_ok (by omega), fun z => ?_, fun _ z => ?_, fun _ _ => k.tup S0 (hs.app ht)⟩))
        · subst z
          cases hs
          exact k.here S0 (.tup hyf ht)
        · subst z
          cases ht
          rw [List.append_nil] at k
          exact k.here S0 (.tup hxf hs)
      · cases he
    | _ => cases he
  | lst as =>
    cases b with
    | lst bs =>
      unfold dAdd at he
      simp only [] at he
      split at he
      · have e := Option.some.inj he
        subst e
        obtain ⟨a, xs, rfl, hx, hs⟩ := ha.lst S0.ex
        obtain ⟨b, ys, rfl, hy, ht⟩ := hb.lst S0.ex
        have l1 := hs.len
        have l2 := ht.len
        exact .inr (.inr (.inr ⟨a, b, xs, ys, rfl, rfl, hx, hy, small_ok (by omega), k.lst S0 (hs.app ht)⟩))
      · cases he
    | _ => cases he
  | _ => cases he
/-! ### subscripts -/
def dIx : D → D → Option D
  | .lst ds, .int i => atI ds i
  | .tup ds, .int i => atI ds i
  | _, _ => none
theorem atI_dats {H : Hp} {ρ : List Addr} {xs : List V} {ds : List D} {i : Int} {d : D} (h : Dats K H ρ xs ds) (e : atI ds i = some d) : ∃ v, atI xs i = some v ∧ Dat K H ρ v d := by
  unfold atI at e ⊢
  rw [h.len]
  cases q : ixN ds.length i with
  | none =>
    rw [q] at e
    cases e
  | some j =>
    rw [q] at e
    obtain ⟨v, h1, h2⟩ := h.get (show ds[j]? = some d from e)
    exact ⟨v, h1, h2⟩
theorem op_dIx : Op2 K (fun x y H Q => rIxL K x y H Q ∨ rIxT K x y H Q) dIx := by
  intro Hf F ρ Cs H x y a b d Q S0 ha hb he k
  cases a with
  | lst ds =>
    cases b with
    | int i =>
      obtain ⟨a, xs, rfl, hx, hs⟩ := ha.lst S0.ex
      obtain ⟨v, h1, h2⟩ := atI_dats hs he
      exact .inl ⟨a, xs, i, v, rfl, hb.int, hx, h1, k.here S0 h2⟩
    | _ => cases he
  | tup ds =>
    cases b with
    | int i =>
      obtain ⟨a, xs, rfl, hx, _, hs⟩ := ha.tup S0.ex
      obtain ⟨v, h1, h2⟩ := atI_dats hs he
      exact .inr ⟨a, xs, i, v, rfl, hb.int, hx, h1, k.here S0 h2⟩
    | _ => cases he
  | _ => cases he
theorem ix_any {X : Cx} : IxR X (fun x y H Q => rIxL X.K x y H Q ∨ rIxT X.K x y H Q) := ix_list.or ix_tup
/-! ### is None -/
def dIs : D → D → Option D
  | .err _ _ _, _ => none
  | .opq _, _ => none
  | .non, .non => some (.bl true)
  | _, .non => some (.bl false)
  | _, _ => none
def dIsNot : D → D → Option D := fun a b => match dIs a b with
  | some (.bl k) => some (.bl (!k))
  | _ => none
theorem dIs_ok {Hf F H : Hp} {ρ : List Addr} {Cs : Cells} {x y : V} {a b d : D} (S0 : SR K Hf F ρ Cs H) (ha : Vw K H Hf ρ x a) (hb : Vw K H Hf ρ y b) (he : dIs a b = some d) : y = .non ∧ d = .bl (decide (x = .non)) := by
  cases b with
  | non =>
    refine ⟨hb.non, ?_⟩
    cases ha with
    | dat h =>
      cases h <;> first
        | (cases he; rfl)
        | cases he
    | now h hs => cases he; rfl
    | nowT h hl hs => cases he; rfl
    | nowK h hl hs => cases he; rfl
  | _ => cases a <;> cases he
theorem op_dIs : Op2 K (fun x y H Q => y = .non ∧ Q (.bl (decide (x = .non))) H) dIs := by
  intro Hf F ρ Cs H x y a b d Q S0 ha hb he k
  obtain ⟨h1, h2⟩ := dIs_ok S0 ha hb he
  subst h2
  exact ⟨h1, k.here S0 (.bl _)⟩
/-! ### == and != of data of any depth -/
mutual
def toP : D → PyData
  | .non => .none
  | .bl b => .bool b
  | .int i => .int i
  | .str x => .str x
  | .tup ds => .tuple (toPs ds)
  | .lst ds => .list (toPs ds)
  | _ => .none
def toPs : List D → List PyData
  | [] => []
  | d :: ds => toP d :: toPs ds
end
mutual
/-- data that == reads, of nesting up to n -/
def okE : D → Nat → Bool
  | .non, _ => true
  | .bl _, _ => true
  | .int _, _ => true
  | .str x, _ => PySem.PyData.strOk x
  | .tup ds, n => match n with
    | 0 => false
    | n + 1 => okEs ds n
  | .lst ds, n => match n with
    | 0 => false
    | n + 1 => okEs ds n
  | _, _ => false
def okEs : List D → Nat → Bool
  | [], _ => true
  | d :: ds, n => okE d n && okEs ds n
end
mutual
def eqd : D → D → Bool
  | .non, .non => true
  | .bl a, .bl b => a == b
  | .bl a, .int j => (if a then 1 else 0) == j
  | .int i, .bl b => i == (if b then 1 else 0)
  | .int i, .int j => i == j
  | .str x, .str y => x == y
  | .tup a, .tup b => eqds a b
  | .lst a, .lst b => eqds a b
  | _, _ => false
def eqds : List D → List D → Bool
  | [], [] => true
  | a :: r, b :: t => eqd a b && eqds r t
  | _, _ => false
end
mutual
theorem okE_lay : ∀ (d : D) (n : Nat), okE d n = true → (toP d).canLay0 = true ∧ (toP d).depth ≤ n
  | .non, n, h => ⟨rfl, Nat.zero_le _⟩
  | .bl b, n, h => ⟨rfl, Nat.zero_le _⟩
  | .int b, n, h => ⟨rfl, Nat.zero_le _⟩
  | .str x, n, h => ⟨by simpa [okE, toP, PyData.canLay0] using h, Nat.zero_le _⟩
  | .tup ds, 0, h => by simp [okE] at h
  | .tup ds, n + 1, h => by
    obtain ⟨h1, h2⟩ := okEs_lay ds n (by simpa [okE] using h)
    exact ⟨by simpa [toP, PyData.canLay0] using h1, by simp only [toP, PyData.depth]; omega⟩
  | .lst ds, 0, h => by simp [okE] at h
  | .lst ds, n + 1, h => by
    obtain ⟨h1, h2⟩ := okEs_lay ds n (by simpa [okE] using h)
    exact ⟨by simpa [toP, PyData.canLay0] using h1, by simp only [toP, PyData.depth]; omega⟩
  | .cel _, n, h => by simp [okE] at h
  | .opq _, n, h => by simp [okE] at h
  | .err _ _ _, n, h => by simp [okE] at h
  | .dk _ _, n, h => by simp [okE] at h
  | .dt _ _, n, h => by simp [okE] at h
  | .set _, n, h => by simp [okE] at h
  | .ins _ _, n, h => by simp [okE] at h
theorem okEs_lay : ∀ (ds : List D) (n : Nat), okEs ds n = true → PyData.canLayAll0 (toPs ds) = true ∧ PyData.depthAll (toPs ds) ≤ n
  | [], n, h => ⟨rfl, Nat.zero_le _⟩
  | d :: ds, n, h => by
    simp [okEs] at h
    obtain ⟨h1, h2⟩ := okE_lay d n h.1
    obtain ⟨h3, h4⟩ := okEs_lay ds n h.2
    exact ⟨by simp [toPs, PyData.canLayAll0, h1, h3], by simp only [toPs, PyData.depthAll]; omega⟩
end
theorem okE_shaped {d : D} (h : okE d 60 = true) : SeqAt.shaped (toP d) = true := by
  obtain ⟨h1, h2⟩ := okE_lay d 60 h
  unfold SeqAt.shaped
  rw [h1, Bool.true_and]
  exact decide_eq_true (by omega)
mutual
theorem eqd_eqv : ∀ (a b : D) (n m : Nat), okE a n = true → okE b m = true → eqd a b = PyData.eqv (toP a) (toP b)
  | .non, b, n, m, ha, hb => by cases b <;> first | rfl | (cases m <;> simp [okE] at hb)
  | .bl x, b, n, m, ha, hb => by cases b <;> first | rfl | (cases m <;> simp [okE] at hb)
  | .int x, b, n, m, ha, hb => by cases b <;> first | rfl | (cases m <;> simp [okE] at hb)
  | .str x, b, n, m, ha, hb => by cases b <;> first | rfl | (cases m <;> simp [okE] at hb)
  | .tup x, b, n, m, ha, hb => by
    cases b with
    | tup y =>
      cases n with
      | zero => simp [okE] at ha
      | succ n =>
        cases m with
        | zero => simp [okE] at hb
        | succ m => simpa [eqd, toP, PyData.eqv] using eqds_eqv x y n m (by simpa [okE] using ha) (by simpa [okE] using hb)
    | _ => first | rfl | (cases m <;> simp [okE] at hb)
  | .lst x, b, n, m, ha, hb => by
    cases b with
    | lst y =>
      cases n with
      | zero => simp [okE] at ha
      | succ n =>
        cases m with
        | zero => simp [okE] at hb
        | succ m => simpa [eqd, toP, PyData.eqv] using eqds_eqv x y n m (by simpa [okE] using ha) (by simpa [okE] using hb)
    | _ => first | rfl | (cases m <;> simp [okE] at hb)
  | .cel _, b, n, m, ha, hb => by cases n <;> simp [okE] at ha
  | .opq _, b, n, m, ha, hb => by cases n <;> simp [okE] at ha
  | .err _ _ _, b, n, m, ha, hb => by cases n <;> simp [okE] at ha
  | .dk _ _, b, n, m, ha, hb => by cases n <;> simp [okE] at ha
  | .dt _ _, b, n, m, ha, hb => by cases n <;> simp [okE] at ha
  | .set _, b, n, m, ha, hb => by cases n <;> simp [okE] at ha
  | .ins _ _, b, n, m, ha, hb => by cases n <;> simp [okE] at ha
theorem eqds_eqv : ∀ (a b : List D) (n m : Nat), okEs a n = true → okEs b m = true → eqds a b = PyData.eqvAll (toPs a) (toPs b)
  | [], [], n, m, ha, hb => rfl
  | [], b :: t, n, m, ha, hb => rfl
  | a :: r, [], n, m, ha, hb => rfl
  | a :: r, b :: t, n, m, ha, hb => by
    simp [okEs] at ha hb
    simp only [eqds, toPs, PyData.eqvAll]
    rw [eqd_eqv a b n m ha.1 hb.1, eqds_eqv r t n m ha.2 hb.2]
end
mutual
theorem Dat.dp {H : Hp} {ρ : List Addr} {v : V} {d : D} (q : Dat K H ρ v d) (n : Nat) (h : okE d n = true) : Dp K H v (toP d) :=
  match q with
  | .non => .non
  | .bl b => .bl b
  | .int i => .int i
  | .str x => .str x
  | .tup hx hs => by
    cases n with
    | zero => simp [okE] at h
    | succ n => exact .tup (.inl (.inl hx)) (Dats.dp hs n (by simpa [okE] using h))
  | .lst hx hs => by
    cases n with
    | zero => simp [okE] at h
    | succ n => exact .lst hx (Dats.dp hs n (by simpa [okE] using h))
  | .cel _ => by cases n <;> simp [okE] at h
  | .opq _ => by cases n <;> simp [okE] at h
  | .dk _ _ _ => by cases n <;> simp [okE] at h
  | .dt _ _ _ => by cases n <;> simp [okE] at h
  | .set _ _ => by cases n <;> simp [okE] at h
  | .ins _ _ _ _ => by cases n <;> simp [okE] at h
theorem Dats.dp {H : Hp} {ρ : List Addr} {vs : List V} {ds : List D} (q : Dats K H ρ vs ds) (n : Nat) (h : okEs ds n = true) : DpAll K H vs (toPs ds) :=
  match q with
  | .nil => .nil
  | .cons hx hs => .cons (Dat.dp hx n (by simp [okEs] at h; exact h.1)) (Dats.dp hs n (by simp [okEs] at h; exact h.2))
end
theorem Vw.dp {H Hf : Hp} {ρ : List Addr} {v : V} {d : D} (e : Same Hf H) (q : Vw K H Hf ρ v d) (h : okE d 60 = true) : Dp K H v (toP d) := by
  cases q with
  | dat q => exact (q.mono e (List.prefix_refl _)).dp 60 h
  | now hx hs => exact .lst hx ((hs.mono e (List.prefix_refl _)).dp 59 (by simpa [okE] using h))
  | nowT hx hl hs => simp [okE] at h
  | nowK hx hl hs => simp [okE] at h
def dEq : D → D → Option D := fun a b => if okE a 60 = true ∧ okE b 60 = true then some (.bl (eqd a b)) else none
def dNe : D → D → Option D := fun a b => if okE a 60 = true ∧ okE b 60 = true then some (.bl (!eqd a b)) else none
theorem op_dEq : Op2 K (rEqD K) dEq := by
  intro Hf F ρ Cs H x y a b d Q S0 ha hb he k
  unfold dEq at he
  split at he
  · rename_i h
    have e := Option.some.inj he
    subst e
    refine ⟨toP a, toP b, ha.dp S0.ex h.1, hb.dp S0.ex h.2, okE_shaped h.1, okE_shaped h.2, ?_⟩
    rw [← eqd_eqv a b 60 60 h.1 h.2]
    exact k.here S0 (.bl _)
  · cases he
theorem op_dNe : Op2 K (rNeD K) dNe := by
  intro Hf F ρ Cs H x y a b d Q S0 ha hb he k
  unfold dNe at he
  split at he
  · rename_i h
    have e := Option.some.inj he
    subst e
    refine ⟨toP a, toP b, ha.dp S0.ex h.1, hb.dp S0.ex h.2, okE_shaped h.1, okE_shaped h.2, ?_⟩
    rw [← eqd_eqv a b 60 60 h.1 h.2]
    exact k.here S0 (.bl _)
  · cases he
/-! ### one operand -/
def Op1 (K : PySem.W.Frag) (r : V → Hp → VK → Prop) (f : D → Option D) : Prop := ∀ (Hf F : Hp) (ρ : List Addr) (C : Cells) (H : Hp) (x : V) (a d : D) (Q : VK), SR K Hf F ρ C H → Vw K H Hf ρ x a → f a = some d → Ans K Hf F ρ C d Q → r x H Q
def x1 (f : D → Option D) (a : S D) : S D := S.bind a fun x => fun env C => S.opt (f (vw C x)) env C
section
variable {X : Cx} {W : Wh}
theorem se_un {op : UnaryOp} {a : Expr} {pos : Pos} {r : V → Hp → VK → Prop} {f : D → Option D} {sa : S D} (ho : UnR X (unaryOp op) r) (hf : Op1 X.K r f) (ha : SE X W a sa) : SE X W (.UnaryOp op a pos) (x1 f sa) :=
  pe_imp (pe_un ho ha) fun σ H Q ⟨Hf, F, ρ, env, C, S0, E0, g⟩ => ⟨Hf, F, ρ, env, C, S0, E0, (Go.bind g).mono fun x H1 ⟨Hf1, ρ1, C1, a, e1, p1, S1, A1, g1⟩ => by
    obtain ⟨d, hd, g2⟩ := Go.opt g1
    exact hf Hf1 F ρ1 C1 H1 x _ d Q S1 (vw_ok S1 A1) hd fun v H' Hf' ρ' e3 p3 S3 D3 => g2 v H' Hf' ρ' e3 p3 S3 D3⟩
end
def dNeg : D → Option D
  | .int a => some (.int (-a))
  | _ => none
theorem op_dNeg : Op1 K (rU fun i => .int (-i)) dNeg := by
  intro Hf F ρ Cs H x a d Q S0 ha he k
  cases a with
  | int i =>
    cases he
    exact ⟨i, ha.int, k.here S0 (.int _)⟩
  | _ => cases he
/-! ### calls of built-ins -/
/-- the arguments as they are read now -/
inductive Vws (K : PySem.W.Frag) (H : Hp) (Hf : Hp) (ρ : List Addr) : List V → List D → Prop
  | nil : Vws K H Hf ρ [] []
  | cons {v : V} {vs : List V} {d : D} {ds : List D} (h : Vw K H Hf ρ v d) (hs : Vws K H Hf ρ vs ds) : Vws K H Hf ρ (v :: vs) (d :: ds)
theorem vws_ok {Hf F : Hp} {ρ : List Addr} {C : Cells} {H : Hp} (S0 : SR K Hf F ρ C H) : ∀ {vs : List V} {ds : List D}, Dats K Hf ρ vs ds → Vws K H Hf ρ vs (ds.map (vw C))
  | _, _, .nil => .nil
  | _, _, .cons h hs => .cons (vw_ok S0 h) (vws_ok S0 hs)
def OpN (K : PySem.W.Frag) (r : List V → Hp → VK → Prop) (f : List D → Option D) : Prop := ∀ (Hf F : Hp) (ρ : List Addr) (C : Cells) (H : Hp) (xs : List V) (as : List D) (d : D) (Q : VK), SR K Hf F ρ C H → Vws K H Hf ρ xs as → f as = some d → Ans K Hf F ρ C d Q → r xs H Q
def xN (f : List D → Option D) (a : S (List D)) : S D := S.bind a fun xs => fun env C => S.opt (f (xs.map (vw C))) env C
theorem goN {X : Cx} {W : Wh} {r : List V → Hp → VK → Prop} {f : List D → Option D} {sa : S (List D)} (hf : OpN X.K r f) {σ : L2.St} {H : Hp} {Q : VK} (h : tE X.K X.mg W (xN f sa) σ H Q) : tCB r (tA X.K X.mg W sa) σ H Q := by
  obtain ⟨Hf, F, ρ, env, C, S0, E0, g⟩ := h
  refine ⟨Hf, F, ρ, env, C, S0, E0, (Go.bind g).mono fun xs H1 ⟨Hf1, ρ1, C1, as, e1, p1, S1, A1, g1⟩ => ?_⟩
  obtain ⟨d, hd, g2⟩ := Go.opt g1
  exact hf Hf1 F ρ1 C1 H1 xs _ d Q S1 (vws_ok S1 A1) hd fun v H' Hf' ρ' e3 p3 S3 D3 => g2 v H' Hf' ρ' e3 p3 S3 D3
theorem se_bi {X : Cx} {W : Wh} {x : Str} {p pos : Pos} {es : List Expr} {r : List V → Hp → VK → Prop} {f : List D → Option D} {s : S (List D)} (hf : OpN X.K r f) (h : PE X (.Call (.Name x p) es [] pos) (tCB r (tA X.K X.mg W s))) : SE X W (.Call (.Name x p) es [] pos) (xN f s) :=
  pe_imp h fun _ _ _ q => goN hf q
def dAbs : List D → Option D
  | [.int a] => some (.int (if a < 0 then -a else a))
  | _ => none
theorem op_dAbs : OpN K (fun xs H Q => ∃ i, xs = [.int i] ∧ Q (.int (if i < 0 then -i else i)) H) dAbs := by
  intro Hf F ρ Cs H xs as d Q S0 ha he k
  unfold dAbs at he
  split at he
  · cases he
    cases ha with
    | cons h hs =>
      cases hs
      exact ⟨_, by rw [h.int], k.here S0 (.int _)⟩
  · cases he
def dInt : List D → Option D
  | [.int a] => some (.int a)
  | [.bl a] => some (.int (if a then 1 else 0))
  | _ => none
theorem op_dInt : OpN K (fun xs H Q => (∃ i, xs = [.int i] ∧ Q (.int i) H) ∨ ∃ k, xs = [.bl k] ∧ Q (.int (if k then 1 else 0)) H) dInt := by
  intro Hf F ρ Cs H xs as d Q S0 ha he k
  unfold dInt at he
  split at he
  · cases he
    cases ha with
    | cons h hs =>
      cases hs
      exact .inl ⟨_, by rw [h.int], k.here S0 (.int _)⟩
  · cases he
    cases ha with
    | cons h hs =>
      cases hs
      exact .inr ⟨_, by rw [h.bl], k.here S0 (.int _)⟩
  · cases he
def dLen : List D → Option D
  | [.lst ds] => some (.int ds.length)
  | [.tup ds] => some (.int ds.length)
  | _ => none
theorem op_dLen : OpN K (fun xs H Q => ∃ p ys, xs = [.ref p] ∧ (SqL K H p ys ∨ SqT K H p ys) ∧ Q (.int ys.length) H) dLen := by
  intro Hf F ρ Cs H xs as d Q S0 ha he k
  unfold dLen at he
  split at he
  · cases he
    cases ha with
    | cons h hs =>
      cases hs
      obtain ⟨a, xs, rfl, hx, hd⟩ := h.lst S0.ex
      exact ⟨a, xs, rfl, .inl hx, k.here S0 (by rw [hd.len]; exact .int _)⟩
  · cases he
    cases ha with
    | cons h hs =>
      cases hs
      obtain ⟨a, xs, rfl, hx, _, hd⟩ := h.tup S0.ex
      exact ⟨a, xs, rfl, .inr hx, k.here S0 (by rw [hd.len]; exact .int _)⟩
  · cases he
def dMin2 : List D → Option D
  | [.int a, .int b] => some (.int (if b < a then b else a))
  | _ => none
def dMax2 : List D → Option D
  | [.int a, .int b] => some (.int (if b > a then b else a))
  | _ => none
theorem op_dMin2 : OpN K (fun xs H Q => ∃ i j, xs = [.int i, .int j] ∧ Q (.int (if j < i then j else i)) H) dMin2 := by
  intro Hf F ρ Cs H xs as d Q S0 ha he k
  unfold dMin2 at he
  split at he
  · cases he
    cases ha with
    | cons h hs =>
      cases hs with
      | cons h2 hs =>
        cases hs
        exact ⟨_, _, by rw [h.int, h2.int], k.here S0 (.int _)⟩
  · cases he
theorem op_dMax2 : OpN K (fun xs H Q => ∃ i j, xs = [.int i, .int j] ∧ Q (.int (if j > i then j else i)) H) dMax2 := by
  intro Hf F ρ Cs H xs as d Q S0 ha he k
  unfold dMax2 at he
  split at he
  · cases he
    cases ha with
    | cons h hs =>
      cases hs with
      | cons h2 hs =>
        cases hs
        exact ⟨_, _, by rw [h.int, h2.int], k.here S0 (.int _)⟩
  · cases he
def dGcd : List D → Option D
  | [.int a, .int b] => some (.int (Nat.gcd a.natAbs b.natAbs : Nat))
  | _ => none
theorem op_dGcd : OpN K rGcd dGcd := by
  intro Hf F ρ Cs H xs as d Q S0 ha he k
  unfold dGcd at he
  split at he
  · cases he
    cases ha with
    | cons h hs =>
      cases hs with
      | cons h2 hs =>
        cases hs
        exact ⟨_, _, by rw [h.int, h2.int], k.here S0 (.int _)⟩
  · cases he
/-- tuple(xs) -/
def dTuple : List D → Option D
  | [.lst ds] => some (.tup ds)
  | [.tup ds] => some (.tup ds)
  | _ => none
theorem op_dTuple : OpN K (fun xs H Q => ∃ p ys, xs = [.ref p] ∧ ((SqL K H p ys ∧ ∀ l, H l = none → Q (.ref l) (upd H l (.tup ys))) ∨ (SqT K H p ys ∧ Q (.ref p) H))) dTuple := by
  intro Hf F ρ Cs H xs as d Q S0 ha he k
  unfold dTuple at he
  split at he
  · cases he
    cases ha with
    | cons h hs =>
      cases hs
      obtain ⟨a, xs, rfl, hx, hd⟩ := h.lst S0.ex
      exact ⟨a, xs, rfl, .inl ⟨hx, k.tup S0 hd⟩⟩
  · cases he
    cases ha with
    | cons h hs =>
      cases hs
      obtain ⟨a, xs, rfl, hx, hxf, hd⟩ := h.tup S0.ex
      exact ⟨a, xs, rfl, .inr ⟨hx, k.here S0 (.tup hxf hd)⟩⟩
  · cases he
/-- all(xs), any(xs), of truth values -/
def bls : List D → Option (List Bool)
  | [] => some []
  | .bl b :: ds => (bls ds).map (b :: ·)
  | _ => none
theorem bls_ok {H : Hp} {ρ : List Addr} : ∀ {xs : List V} {ds : List D} {bs : List Bool}, Dats K H ρ xs ds → bls ds = some bs → xs = bs.map V.bl
  | _, _, bs, .nil, h => by
    have e : [] = bs := Option.some.inj h
    subst e
    rfl
  | _, _, bs, .cons (d := d) (ds := ds) h hs, e => by
    cases d with
    | bl b =>
      have e' : (bls ds).map (b :: ·) = some bs := e
      cases q : bls ds with
      | none =>
        rw [q] at e'
        cases e'
      | some cs =>
        rw [q] at e'
        have e2 : b :: cs = bs := Option.some.inj e'
        subst e2
        cases h
        rw [bls_ok hs q]
        rfl
    | _ => cases e
def dAll : List D → Option D
  | [.lst ds] => (bls ds).map fun bs => .bl (bs.all id)
  | _ => none
def dAny : List D → Option D
  | [.lst ds] => (bls ds).map fun bs => .bl (bs.any id)
  | _ => none
theorem op_dAll : OpN K (rAll K) dAll := by
  intro Hf F ρ Cs H xs as d Q S0 ha he k
  unfold dAll at he
  split at he
  · cases ha with
    | cons h hs =>
      cases hs
      obtain ⟨a, xs, rfl, hx, hd⟩ := h.lst S0.ex
      obtain ⟨bs, h1, h2⟩ := Option.map_eq_some_iff.mp he
      subst h2
      have := bls_ok hd h1
      subst this
      exact ⟨a, bs, rfl, hx, k.here S0 (.bl _)⟩
  · cases he
end Sm
end
section
set_option maxRecDepth 100000
set_option maxHeartbeats 0
namespace Sm
variable [Tabs0]
open PySem L2
variable {K : PySem.W.Frag} {mg : Str → Option Value}

/-! ### isinstance of built-in classes -/
def tyN : D → Option String
  | .non => some "NoneType"
  | .bl _ => some "bool"
  | .int _ => some "int"
  | .str _ => some "str"
  | .tup _ => some "tuple"
  | .lst _ => some "list"
  | .dk _ _ => some "dict"
  | .dt _ _ => some "dict"
  | _ => none
def dIsi : List D → Option D
  | [x, .opq (.ty T)] => (tyN x).bind fun n => (kitB n T).map D.bl
  | _ => none
theorem ty_seq {H : Hp} {a : Addr} {xs : List V} (h : SqL K H a xs) : TyX K H (.ref a) (.type "list") := by
  rcases h with (h | ⟨o, h⟩) | ⟨o, its, n, h, hc, _⟩
  · exact .base (.lst h)
  · exact .base (.frz h)
  · exact .kList h hc
/-- .. a dict of tuples that changes no more, too -/
def TyY (K : PySem.W.Frag) (H : Hp) (x : V) (t : Value) : Prop := TyX K H x t ∨ ∃ a o u, x = .ref a ∧ H a = some (.frz o u) ∧ ((∃ kvs, u = .dT kvs) ∨ ∃ kvs, u = .dK kvs) ∧ t = .type "dict"
theorem ty_dt {H : Hp} {a : Addr} {kvs : List (List Key × V)} (h : Rd H a (.dT kvs)) : TyY K H (.ref a) (.type "dict") := by
  rcases h with h | ⟨o, h⟩
  · exact .inl (.base (.dT h))
  · exact .inr ⟨a, o, _, rfl, h, .inl ⟨kvs, rfl⟩, rfl⟩
theorem ty_dk {H : Hp} {a : Addr} {kvs : List (Key × V)} (h : Rd H a (.dK kvs)) : TyY K H (.ref a) (.type "dict") := by
  rcases h with h | ⟨o, h⟩
  · exact .inl (.base (.dK h))
  · exact .inr ⟨a, o, _, rfl, h, .inr ⟨kvs, rfl⟩, rfl⟩
theorem ty_of {H Hf : Hp} {ρ : List Addr} {v : V} {d : D} {n : String} (e : Same Hf H) (h : Vw K H Hf ρ v d) (hn : tyN d = some n) : TyY K H v (.type n) := by
  cases h with
  | dat h =>
    cases h with
    | non => cases hn; exact .inl (.base .non)
    | bl b => cases hn; exact .inl (.base (.bl b))
    | int b => cases hn; exact .inl (.base (.int b))
    | str b => cases hn; exact .inl (.base (.str b))
    | tup h hs => cases hn; exact .inl (.base (.tup (e _ _ h)))
    | lst h hs => cases hn; exact .inl (ty_seq (same_l e h))
    | cel h => cases hn
    | opq v => cases hn
    | fn h => cases hn
    | dk h hl hs =>
      cases hn
      obtain ⟨o, h⟩ := h
      exact .inr ⟨_, o, _, rfl, e _ _ h, .inr ⟨_, rfl⟩, rfl⟩
    | dt h hl hs =>
      cases hn
      obtain ⟨o, h⟩ := h
      exact .inr ⟨_, o, _, rfl, e _ _ h, .inl ⟨_, rfl⟩, rfl⟩
    | set hn' h => cases hn
    | ins hc h hd hs => cases hn
  | now h hs => cases hn; exact .inl (ty_seq h)
  | nowT h hl hs => cases hn; exact ty_dt h
  | nowK h hl hs => cases hn; exact ty_dk h
def rIsiY (K : PySem.W.Frag) : List V → Hp → VK → Prop := fun xs H Q => ∃ (x c : V) (t u : Value) (b : Bool), xs = [x, c] ∧ ClsV c u ∧ TyY K H x t ∧ PySem.W.kitOne K t u = some b ∧ Q (.bl b) H
theorem call_isiY {X : Cx} : CallR X (.builtin "isinstance") (rIsiY X.K) := by
  intro pins s σ H xs us Q I r h
  obtain ⟨x, c, t, u, b, rfl, k, ty, e, q⟩ := h
  rcases ty with ty | ⟨a, o, hu, rfl, ea, hk, rfl⟩
  · exact call_isi pins s σ H [x, c] us Q I r ⟨x, c, t, u, b, rfl, k, ty, e, q⟩
  · obtain ⟨u1, u2, rfl, r1, r2⟩ := vals2 r
    have e2 := k.eq r2
    subst e2
    cases (show u1 = Value.ref a from r1)
    rcases hk with ⟨kvs, rfl⟩ | ⟨kvs, rfl⟩
    · obtain ⟨_, _, _, xs, _, o', es, ep, h1, h2, _⟩ := (show ObjOk X.prog X.w H s.heap a (.frz o (.dT kvs)) from I.hok a _ ea)
      exact PySem.W.kia_one PySem.W.kitx_dict I.kIn ⟨o', h1, h2.1⟩ e (fun z => nomatch z) fun tk => ⟨.bl b, H, I.tok tk, rfl, q⟩
    · obtain ⟨_, h1, h2, _⟩ := I.frzK ea
      exact PySem.W.kia_one PySem.W.kitx_dict I.kIn ⟨o, h1, h2.1⟩ e (fun z => nomatch z) fun tk => ⟨.bl b, H, I.tok tk, rfl, q⟩
theorem op_dIsi : OpN K (rIsiY K) dIsi := by
  intro Hf F ρ Cs H xs as d Q S0 ha he k
  unfold dIsi at he
  split at he
  · rename_i x T
    cases ha with
    | cons h hs =>
      cases hs with
      | cons h2 hs =>
        cases hs
        obtain ⟨n, hn, he⟩ := Option.bind_eq_some_iff.mp he
        obtain ⟨b, hb, he⟩ := Option.map_eq_some_iff.mp he
        subst he
        have e2 : ∀ {v : V}, Vw K H Hf ρ v (.opq (.ty T)) → v = V.ty T := fun q => by
          cases q with
          | dat q => cases q; rfl
        have e3 := e2 h2
        subst e3
        exact ⟨_, _, _, _, b, rfl, .ty T, ty_of S0.ex h hn, kit_ty hb, k.here S0 (.bl _)⟩
  · cases he

/-! ### methods that change a list -/
def live (r : D) (C : Cells) : Option (Nat × List D) := match r with
  | .cel n => match C[n]? with
    | some (some (.l ds)) => some (n, ds)
    | _ => none
  | _ => none
/-- o.m(as): f tells the answer and the cell's new items -/
def xM (f : List D → List D → Option (D × List D)) (sr : S D) (sa : S (List D)) : S D := S.bind sr fun r => fun e C => if (live r C).isSome = true then S.bind sa (fun as _ C2 => match live r C2 with
    | some (n, ds) => match f ds as with
      | some (d, es) => if nocels es = true then some (.ok d (C2.set n (some (.l es)))) else none
      | none => none
    | none => none) e C else none
def OpM (K : PySem.W.Frag) (r : V → List V → Hp → VK → Prop) (f : List D → List D → Option (D × List D)) : Prop := ∀ (Hf : Hp) (ρ : List Addr) (H : Hp) (a : Addr) (xs vs : List V) (ds as es : List D) (d : D) (Q : VK), H a = some (.lst xs) → Dats K Hf ρ xs ds → Dats K Hf ρ vs as → f ds as = some (d, es) →
  (∀ v ys, Dat K Hf ρ v d → Dats K Hf ρ ys es → Q v (upd H a (.lst ys))) → r (.ref a) vs H Q
section
variable {X : Cx} {W : Wh}
theorem goM {r : V → List V → Hp → VK → Prop} {f : List D → List D → Option (D × List D)} {sr : S D} {sa : S (List D)} (hf : OpM X.K r f) {σ : L2.St} {H : Hp} {Q : VK} (h : tE X.K X.mg W (xM f sr sa) σ H Q) : tBM X.K "list" r (tE X.K X.mg W sr) (tA X.K X.mg W sa) σ H Q := by
  obtain ⟨Hf, F, ρ, env, C, S0, E0, g⟩ := h
  refine ⟨Hf, F, ρ, env, C, S0, E0, (Go.bind g).mono fun x H1 ⟨Hf1, ρ1, C1, a, e1, p1, S1, A1, g1⟩ => ?_⟩
  try simp only [] at g1
  split at g1
  · rename_i hlv
    have cell : ∀ {C : Cells} {n : Nat} {ds : List D}, live a C = some (n, ds) → a = .cel n ∧ C[n]? = some (some (.l ds)) := fun {C n ds} q => by
      unfold live at q
      split at q
      · rename_i m
        split at q
        · rename_i ds' hc
          have q' := Option.some.inj q
          simp only [Prod.mk.injEq] at q'
          obtain ⟨rfl, rfl⟩ := q'
          exact ⟨rfl, hc⟩
        · cases q
      · cases q
    obtain ⟨⟨n, ds⟩, hl⟩ := Option.isSome_iff_exists.mp hlv
    obtain ⟨rfl, hc⟩ := cell hl
    cases A1 with
    | @cel _ ad hn =>
      obtain ⟨_, k2⟩ := S1.cel n ad _ hn hc
      obtain ⟨vs, hv, hd⟩ := k2.lst
      refine ⟨.inl ⟨rfl, vs, .inl (.inl hv)⟩, ?_⟩
      refine ⟨Hf1, F, ρ1, env, C1, S1, E0.mono e1 p1, (Go.bind g1).mono fun ws H2 ⟨Hf2, ρ2, C2, as, e2, p2, S2, A2, g2⟩ => ?_⟩
      try simp only [] at g2
      cases hl2 : live (.cel n) C2 with
      | none =>
        rw [hl2] at g2
        exact g2.elim
      | some q =>
        obtain ⟨m, ds2⟩ := q
        obtain ⟨hm, hc2⟩ := cell hl2
        cases hm
        rw [hl2] at g2
        simp only [] at g2
        cases hff : f ds2 as with
        | none =>
          rw [hff] at g2
          exact g2.elim
        | some q =>
          obtain ⟨d, es⟩ := q
          rw [hff] at g2
          simp only [] at g2
          split at g2
          · rename_i nc
            have hn2 := pre_get p2 hn
            obtain ⟨_, k3⟩ := S2.cel n ad _ hn2 hc2
            obtain ⟨vs2, hv2, hd2⟩ := k3.lst
            exact hf Hf2 ρ2 H2 ad vs2 ws ds2 as es d Q hv2 (hd2.mono (Same.refl _) List.nil_prefix) A2 hff fun v ys h1 h2 => g2 v _ Hf2 ρ2 (Same.refl _) (List.prefix_refl _) (S2.setCel hn2 hc2 (h2.bare nc)) h1
          · exact g2.elim
  · exact g1.elim
theorem se_m {o : Expr} {m : Str} {p pos : Pos} {es : List Expr} {r : V → List V → Hp → VK → Prop} {f : List D → List D → Option (D × List D)} {sr : S D} {sa : S (List D)} (hf : OpM X.K r f) (h : PE X (.Call (.Attribute o m p) es [] pos) (tBM X.K "list" r (tE X.K X.mg W sr) (tA X.K X.mg W sa))) :
    SE X W (.Call (.Attribute o m p) es [] pos) (xM f sr sa) := pe_imp h fun _ _ _ q => goM hf q
/-- xs[i] = e -/
def xSetI (so si sv : S D) : SS := xDo sv fun v => xDo so fun o => xDo si fun i => fun e C => match o, i with
  | .cel n, .int k => match C[n]? with
    | some (some (.l ds)) => match ixN ds.length k with
      | some j => if nocel v = true then some (.nx e (C.set n (some (.l (ds.set j v))))) else none
      | none => none
    | _ => none
  | _, _ => none
theorem sc_seti {o i e : Expr} {pp pos : Pos} {so si sv : S D} (h : PS X (.Assign [.Subscript o i pp] e pos) (tAsg (tE X.K X.mg W sv) (gSub (tE X.K X.mg W so) (tE X.K X.mg W si) rSetL))) : SC X W (.Assign [.Subscript o i pp] e pos) (xSetI so si sv) :=
  ps_imp h fun D σ H ⟨Hf, F, ρ, env, C, S0, E0, g⟩ => ⟨Hf, F, ρ, env, C, S0, E0, (GoS.doit E0 g).mono fun v H1 ⟨Hf1, ρ1, C1, dv, e1, p1, S1, A1, g1⟩ =>
    ⟨Hf1, F, ρ1, env, C1, S1, E0.mono e1 p1, (GoS.doit (E0.mono e1 p1) g1).mono fun x H2 ⟨Hf2, ρ2, C2, dx, e2, p2, S2, A2, g2⟩ =>
      ⟨Hf2, F, ρ2, env, C2, S2, (E0.mono e1 p1).mono e2 p2, (GoS.doit ((E0.mono e1 p1).mono e2 p2) g2).mono fun y H3 ⟨Hf3, ρ3, C3, dy, e3, p3, S3, A3, g3⟩ => by
        match dx, dy, A2, A3, g3 with
        | .cel n, .int k, .cel (a := ad) hn, .int _, g3 =>
          cases hc : C3[n]? with
          | none =>
            simp only [hc] at g3
            exact g3.elim
          | some oo =>
            cases oo with
            | none =>
              simp only [hc] at g3
              exact g3.elim
            | some o =>
              cases o with
              | l ds =>
                simp only [hc] at g3
                cases hj : ixN ds.length k with
                | none =>
                  simp only [hj] at g3
                  exact g3.elim
                | some j =>
                  simp only [hj] at g3
                  split at g3
                  · rename_i nc
                    have hn3 := pre_get p3 hn
                    obtain ⟨_, k2⟩ := S3.cel n ad _ hn3 hc
                    obtain ⟨vs, hv, hd⟩ := k2.lst
                    have hvv := (A1.mono (e2.trans e3) (p2.trans p3)).bare nc
                    exact ⟨ad, vs, k, j, rfl, rfl, hv, by rw [hd.len]; exact hj, g3 σ _ Hf3 ρ3 (Same.refl _) (List.prefix_refl _) (S3.setCel hn3 hc (hd.set hvv j)) (((E0.mono e1 p1).mono e2 p2).mono e3 p3)⟩
                  · exact g3.elim
              | t ks ds =>
                simp only [hc] at g3
                exact g3.elim
              | k ks ds =>
                simp only [hc] at g3
                exact g3.elim⟩⟩⟩
/-! ### a list that changes no more -/
def xFrz (s : S D) : S D := S.bind s fun d _ C => match live d C with
  | some (n, ds) => some (.ok (.lst ds) (C.set n none))
  | none => none
theorem se_frz {e : Expr} {s : S D} (h : SE X W e s) : SE X W e (xFrz s) := pe_imp h fun σ H Q ⟨Hf, F, ρ, env, C, S0, E0, g⟩ => ⟨Hf, F, ρ, env, C, S0, E0, (Go.bind g).mono fun x H1 ⟨Hf1, ρ1, C1, a, e1, p1, S1, A1, g1⟩ => by
  try simp only [] at g1
  cases hl : live a C1 with
  | none =>
    rw [hl] at g1
    exact g1.elim
  | some q =>
    obtain ⟨n, ds⟩ := q
    rw [hl] at g1
    unfold live at hl
    split at hl
    · split at hl
      · rename_i m ds' hc
        have q' := Option.some.inj hl
        simp only [Prod.mk.injEq] at q'
        obtain ⟨rfl, rfl⟩ := q'
        cases A1 with
        | @cel _ ad hn =>
          obtain ⟨Hf2, e2, S2, D2⟩ := S1.freeze hn hc
          exact g1 _ H1 Hf2 ρ1 e2 (List.prefix_refl _) S2 D2
      · cases hl
    · cases hl⟩
/-! ### comprehensions as lists -/
theorem sl_lc {e : Expr} {it : SW} {t : Tg} {c : S Bool} {x : S D} {vs : List Nat} (hv : ∀ j ∈ t.at_, j ∈ vs) (hput : ∀ d e e', t.put d e = some e' → e'.length = e.length)
    (h : PE X e (tLc (tI X.K X.mg W it) (gG X.K X.mg none t) (tT X.K X.mg W0 c) (tE X.K X.mg W0 x) vs)) : SL X W e (xLc it t c x vs) := pe_imp h fun _ _ _ q => goLc hv hput q
theorem goF {s : S (List D)} {σ : L2.St} {H : Hp} {Q : VK} (h : tE X.K X.mg W (xF s) σ H Q) : tL X.K X.mg W s σ H Q := by
  obtain ⟨Hf, F, ρ, env, C, S0, E0, g⟩ := h
  refine ⟨Hf, F, ρ, env, C, S0, E0, goL_of (α := Unit) g fun ds C' v H' Hf' ρ' e' p' f' g' => ?_⟩
  cases f' with
  | @mk p vs _ h hs S1 S2 nf =>
    have e1 : Same Hf' (upd Hf' p (.lst vs)) := fun b u q => by
      rw [upd_ne (ne_of_none q nf)]
      exact q
    exact g' _ H' _ ρ' e1 (List.prefix_refl _) S1 (.lst (.inl (.inl upd_same)) (hs.mono e1 (List.prefix_refl _)))
/-- y = [..] -/
theorem goSet {s : S D} {i : Nat} {te : TE} (k : ∀ σ H Q, tE X.K X.mg W s σ H Q → te σ H Q) {D : Ends} {σ : L2.St} {H : Hp} (h : tS X.K X.mg W (xAsg s (gN i)) D σ H) : tAsg te (gName i) D σ H := by
  have q := goAsg (X := X) (W := W) (s := s) (t := gN i) (g := gName i) (fun v σ H Q ⟨Hf, F, ρ, env, C, d, S0, E0, D0, env', he, k⟩ => by
    have e := Option.some.inj he
    subst e
    exact k _ (E0.set D0 i) fun j hj => List.getElem?_set_ne (fun e => hj (by rw [e]; exact List.mem_singleton.mpr rfl))) h
  exact k σ H _ q
theorem sc_setL {i : Nat} {x : Str} {e : Expr} {pos pos' : Pos} {s : S D} {te : TE} (k : ∀ σ H Q, tE X.K X.mg W s σ H Q → te σ H Q) (h : PS X (.Assign [.Name x pos'] e pos) (tAsg te (gName i))) : SC X W (.Assign [.Name x pos'] e pos) (xAsg s (gN i)) :=
  ps_imp h fun D σ H q => goSet k q
end
def mAppend : List D → List D → Option (D × List D) := fun ds as => match as with
  | [d] => if ds.length < 1000000 then some (.non, ds ++ [d]) else none
  | _ => none
theorem op_mAppend : OpM K rAppend mAppend := by
  intro Hf ρ H a xs vs ds as es d Q hH hd ha hf k
  unfold mAppend at hf
  split at hf
  · split at hf
    · rename_i hlt
      have e := Option.some.inj hf
      simp only [Prod.mk.injEq] at e
      obtain ⟨rfl, rfl⟩ := e
      cases ha with
      | cons h hs =>
        cases hs
        exact ⟨a, xs, _, rfl, rfl, hH, by rw [hd.len]; exact Nat.lt_of_lt_of_le hlt (by decide), k _ _ .non (hd.app (.cons h .nil))⟩
    · cases hf
  · cases hf
def mPop : List D → List D → Option (D × List D) := fun ds as => match as with
  | [.int i] => if -9223372036854775808 ≤ i ∧ i < 9223372036854775808 then match seqIndex? i ds.length with
    | some j => match ds[j]? with
      | some d => some (d, ds.eraseIdx j)
      | none => none
    | none => none
    else none
  | _ => none
def mPopL : List D → List D → Option (D × List D) := fun ds as => match as with
  | [] => match ds[ds.length - 1]? with
    | some d => some (d, ds.dropLast)
    | none => none
  | _ => none
end Sm
end
section
set_option maxRecDepth 100000
set_option maxHeartbeats 0
namespace SmX
open PySem
open Sem (wp)
open AutoSeq1 (wpAny_loadPart')
/-! ### enumerate(a tuple) -/
theorem enum_newT (l : Addr) (its : Array Value) (n : Nat) (dct : Option Addr) (sl : Array (Option Value)) :
    Meets (Builtin.«enumerate.__new__» ⟨[.type "enumerate", .ref l], []⟩) (fun _ R s => s.heap.get? l = some { cls := .type "tuple", dict := dct, data := .seq its n, slots := sl } ∧
      R (.ok (.ret (.ref (s.heap.push { cls := .type "tuple_iterator", data := .fields #[.ref l, .int 0 0] }).objs.size)))
        { s with heap := (s.heap.push { cls := .type "tuple_iterator", data := .fields #[.ref l, .int 0 0] }).push { cls := .type "enumerate", data := .fields #[.none, .bool false, .ref s.heap.objs.size, rawInt 0, .none, .none] } }) :=
  .of_wp fun prog w A R s h => by
    obtain ⟨hp, g, d, tk, os⟩ := s
    obtain ⟨hl, h⟩ := h
    have hsub := sub_enumerate
    have hT : Heap.IsTuple (Shared.heap ⟨hp, g, d, tk, os⟩) l its := ⟨_, hl, rfl, n, rfl⟩
    wp_walk using wpAny_loadPart' hl
    refine wpAny_stack_any fun st => wpAny_pure ?_
    split
    · rename_i c _ _ _ _ _
      cases (c == Value.type "enumerate") <;>
        (wp_walk using wpAny_loadPart' hl, wpAny_pyIter_tuple hT
         exact ⟨_, rfl, h⟩)
    · wp_walk using wpAny_loadPart' hl, wpAny_pyIter_tuple hT
      exact ⟨_, rfl, h⟩
section
variable {prog : Program} {w : World} {A : Around} {E : Value → Shared → Prop} {s : Shared}
theorem enum_callT {l : Addr} {its : Array Value} {Q : Value → Shared → Prop} (hT : s.heap.IsTuple l its)
    (h : ∀ h', IsEnum h' (s.heap.objs.size + 1) s.heap.objs.size 0 .none → h'.IsTupleIter s.heap.objs.size l 0 → (∀ b o, s.heap.get? b = some o → h'.get? b = some o) → Q (.ref (s.heap.objs.size + 1)) { s with heap := h' }) :
    wpAny (model prog w) A (call (.type "enumerate") [.ref l]) Q E s := by
  obtain ⟨⟨c, dct, dt, sl⟩, hl, hc, n, hd⟩ := hT
  have hc' : c = .type "tuple" := hc
  have hd' : dt = .seq its n := hd
  subst hc' hd'
  refine callType_new F.called_enumerate (by decide) (F.typeCall_enumerate_1 _) (F.newCall_enumerate_1 _) (fun obj => F.args_object_init_2 obj _) F.entry_enumerate_new (enum_newT l its n dct sl) ⟨hl, ?_⟩
  have hz : (s.heap.push { cls := .type "tuple_iterator", data := .fields #[.ref l, .int 0 0] }).objs.size = s.heap.objs.size + 1 := Heap.size_push ..
  show _ ∧ _
  rw [hz]
  have he : IsEnum ((s.heap.push { cls := .type "tuple_iterator", data := .fields #[.ref l, .int 0 0] }).push
      { cls := .type "enumerate", data := .fields #[.none, .bool false, .ref s.heap.objs.size, rawInt 0, .none, .none] }) (s.heap.objs.size + 1) s.heap.objs.size 0 .none := by
    have q := Heap.get?_push_size (s.heap.push { cls := .type "tuple_iterator", data := .fields #[.ref l, .int 0 0] }) (o := { cls := .type "enumerate", data := .fields #[.none, .bool false, .ref s.heap.objs.size, rawInt 0, .none, .none] }) rfl
    rw [hz] at q
    exact q
  exact ⟨⟨_, he, rfl⟩, h _ he ⟨_, Heap.get?_push_of_some _ (Heap.get?_push_size _ rfl), rfl, rfl⟩ fun b o x => Heap.get?_push_of_some _ (Heap.get?_push_of_some _ x)⟩
theorem enum_endT {e it l : Addr} {i : Nat} {its : Array Value} {old : Value} {Q : Option Value → Shared → Prop} (hh : A.handled = none) (he : IsEnum s.heap e it i old) (hit : s.heap.IsTupleIter it l i) (hl : s.heap.IsTuple l its) (hx : its[i]? = none)
    (hQ : ∀ h', Heap.ExtBut it s.heap h' → Q none { s with heap := h' }) : wpAny (model prog w) A (pyNext (.ref e)) Q E s := by
  have hT : s.TypeIs (.ref e) "enumerate" := ⟨_, he, rfl⟩
  unfold pyNext
  refine wpAny_bind (wpAny_attempt (wpAny_callSpecial?_slot (name := Str.ofString "__next__") hT F.slot_enumerate_next (wpAny_call_entry F.slot_enumerate_next hT F.entry_enumerate_next ?_ (F.args_enumerate_next_1 _))))
  show wpAny _ _ (field (.ref e) 2 >>= _) _ _ s
  refine wpAny_bind (wpAny_field he rfl (x := .ref it) rfl (wpAny_bind (wpAny_nextOf_tuple_end hh hit hl hx fun h' x he' hx' => ?_)))
  obtain ⟨o, ho, hc⟩ := hx'
  exact wpAny_bind (wpAny_isInstance (T := "StopIteration") (b := true) ⟨o, ho, hc⟩ isSubtype_stop (wpAny_pure (hQ _ he')))
end
end SmX
namespace Sm
variable [Tabs0]
open PySem L2
open PySem.Spec PyProof.Rows
variable {K : PySem.W.Frag} {mg : Str → Option Value}
/-- the tuple at a, each item in a new pair -/
def IteT (K : PySem.W.Frag) (a : Addr) : It :=
  ⟨fun i H => ∃ (xs : List V) (x : V), SqT K H a xs ∧ xs[i]? = some x,
   fun i H v H' => ∃ T x, v = .ref T ∧ H T = none ∧ H' = upd H T (.tup [.int (i : Nat), x]) ∧ ∀ xs, SqT K H a xs → xs[i]? = some x,
   fun i H => ∃ xs : List V, SqT K H a xs ∧ xs.length ≤ i⟩
theorem turn_enumT {P : Program} {w : World} {elts : List Expr} {kk : Nat} {tpos : Pos} (a e it : Addr) :
    Turn P w K (.Tuple elts kk tpos) (IteT K a) [e, it] e (fun i h => (∃ old, IsEnum h e it ((i : Nat) : Int) old) ∧ h.IsTupleIter it a i ∧ e ≠ it) where
  mem := List.mem_cons_self
  obj := fun i h st b hb => by
    obtain ⟨⟨old, he⟩, ⟨o, ho, hc, hd⟩, _⟩ := st
    rcases (show b = e ∨ b = it by simpa using hb) with rfl | rfl
    · exact ⟨_, he, fun v q => nomatch q⟩
    · refine ⟨o, ho, fun v q => ?_⟩
      rw [hd] at q
      cases q
  keep := fun i h h' st k => by
    obtain ⟨⟨old, he⟩, hi, hne⟩ := st
    exact ⟨⟨old, k e (by simp) _ he⟩, hi.at fun o q => k it (by simp) o q, hne⟩
  item := by
    intro X hP hw hK hc i pins s σ H E I hf st hg
    subst hP hw hK
    obtain ⟨⟨old, he⟩, hit, hne⟩ := st
    obtain ⟨xs, x, hq, hx⟩ := hg
    obtain ⟨its, rv, p, hz⟩ := I.tuple hq
    obtain ⟨u, hu, ru⟩ := rv.get hx
    have ul : i < its.toArray.size := by
      rw [List.size_toArray]
      exact (List.getElem?_eq_some_iff.mp hu).1
    have hel := Heap.lt_size he
    have hil : it < s.heap.objs.size := by
      obtain ⟨_, q, _⟩ := hit
      exact Heap.lt_size q
    have hT : s.heap.IsTuple a its.toArray := p
    have tie : a ≠ it := by
      rintro rfl
      obtain ⟨o1, q1, c1, _⟩ := hT
      obtain ⟨o2, q2, c2, _⟩ := hit
      rw [q1] at q2
      cases q2
      rw [c1] at c2
      exact absurd (Value.type.inj c2) (by decide)
    have aef : e ∉ [it, a] := by
      intro hm
      rcases (show e = it ∨ e = a by simpa using hm) with z | z
      · exact hne z
      · subst z
        obtain ⟨o1, q1, c1, _⟩ := hT
        rw [he] at q1
        cases q1
        exact absurd (Value.type.inj c1) (by decide)
    refine wpAny_pyNext_enum_itemD (Draws.tuple (A := X.A.in1) (I.ok.hd hc) it a tie its.toArray) he ⟨hit, hT⟩ ul hne aef fun x' h' tk hx' ho hst hnew hsz hk => ?_
    have ex : x' = u := by
      have q : its.toArray[i]? = some x' := hx'
      rw [← Array.getElem?_toList] at q
      exact Option.some.inj (q.symm.trans hu)
    subst ex
    refine ⟨_, rfl, wpAny_letOwnedTupleGo_enum (s := { s with heap := h', toks := tk + 1 }) ho fun h'' he' sb => ?_⟩
    have hT2 : h''.get? s.heap.objs.size = some { cls := .type "tuple", data := .seq #[.int i tk, x'] } := (sb.2 _ (Nat.ne_of_gt hel)).trans hnew
    have new : ObjOk X.prog X.w (upd H s.heap.objs.size (.tup [.int (i : Nat), x])) h'' s.heap.objs.size (.tup [.int (i : Nat), x]) :=
      ⟨by show 2 ≤ sizeLine; decide, [.int i tk, x'], .cons ⟨_, rfl⟩ (.cons ru .nil), ⟨_, hT2, rfl, _, rfl⟩⟩
    have I1 : Inv X pins σ (upd H s.heap.objs.size (.tup [.int (i : Nat), x])) { s with heap := h'', toks := tk + 1 } := by
      refine I.turnedNew (ch := [e, it]) (fun b ob hb q => ?_) hf (Nat.le_refl _) new
      have be : b ≠ e := fun z => hb (by simp [z])
      exact (sb.2 b be).trans (hk b ob be (fun z => hb (by simp [z])) q)
    refine ⟨.ref s.heap.objs.size, _, I1, rfl, ⟨_, x, rfl, I.hok.fresh (Nat.le_refl _), rfl, fun ys hy => ?_⟩, ⟨⟨x', ?_⟩, hst.1.at fun o q => (sb.2 it (Ne.symm hne)).trans q, hne⟩, fun b hb => ?_⟩
    · rw [I.tuple_inj hy hq]
      exact hx
    · rw [show ((i + 1 : Nat) : Int) = (i : Int) + 1 by omega]
      exact he'
    · have hb' : b ≠ s.heap.objs.size := by
        rcases (show b = e ∨ b = it by simpa using hb) with z | z
        · rw [z]
          exact Nat.ne_of_lt hel
        · rw [z]
          exact Nat.ne_of_lt hil
      rw [upd_ne hb']
      exact (hf b hb).1
  done := by
    intro X hP hw hK hc i pins s σ H E I hf st hg
    subst hP hw hK
    obtain ⟨⟨old, he⟩, hit, hne⟩ := st
    obtain ⟨xs, hq, hx⟩ := hg
    obtain ⟨its, rv, p, hz⟩ := I.tuple hq
    obtain ⟨f0, f1, f2, f3, f4, f5⟩ := hf it (by simp)
    have hl := rv.length
    have hT : s.heap.IsTuple a its.toArray := p
    have hx' : its.toArray[i]? = none := by
      rw [← Array.getElem?_toList]
      exact List.getElem?_eq_none (by simp; omega)
    exact SmX.enum_endT (I.ok.hd hc) he hit hT hx' fun h' eb => ⟨rfl, I.turned (t' := s.toks) (fun b o hb q => eb b o hb q) f0 f1 f3 f4 f5⟩
  self := fun A i s Q E st h => by
    obtain ⟨⟨_, he⟩, _⟩ := st
    exact wpAny_pyIter_enum he h
/-- enumerate of a list or a tuple -/
def iEnumA (K : PySem.W.Frag) (ta : TA) : TI := fun σ H R => ta σ H fun vs H1 => ∃ a, vs = [.ref a] ∧ ((∃ xs, SqL K H1 a xs ∧ R (Ite K a) H1) ∨ ∃ xs, SqT K H1 a xs ∧ R (IteT K a) H1)
theorem pi_enumA {X : Cx} {e : Expr} {ta : TA} {p pos tpos : Pos} {elts : List Expr} {kk : Nat} (hg : Gl X "enumerate") (hm : X.mg "enumerate" = none) (ha : PA X [e] ta) (hs : starEach [e] X.env = [(false, eval e X.env)]) :
    PI X (.Tuple elts kk tpos) (.Call (.Name "enumerate" p) [e] [] pos) (iEnumA X.K ta) := by
  refine ⟨fun pins s σ H R I h => Call_ (ld_blt I hg hm boot_enumerate (PyProof.Rows.callWith_type1 (thn (ha.run pos pins s σ H _ I h) fun us s1 hh => ?_) hs rfl))⟩
  obtain ⟨vs, H1, I1, r1, a, ex, q⟩ := hh
  subst ex
  obtain ⟨u, rfl, ru⟩ := r1.one
  obtain rfl : u = Value.ref a := ru
  have two : ∀ b ∈ [s1.heap.objs.size + 1, s1.heap.objs.size], FpOk X pins H1 b := fun b hb => by
    have hle : s1.heap.objs.size ≤ b := by
      rcases (show b = s1.heap.objs.size + 1 ∨ b = s1.heap.objs.size by simpa using hb) with z | z <;> omega
    exact I1.fpOk hle (I1.hok.fresh hle)
  rcases q with ⟨xs, hq, q⟩ | ⟨xs, hq, q⟩
  · obtain ⟨its, rv, p', hz⟩ := I1.list hq
    refine call_enumerate_list p'.isList fun h' he hit hsz hk => wpAny_pyIter_enum he ?_
    exact ⟨s1.heap.objs.size + 1, [s1.heap.objs.size + 1, s1.heap.objs.size], _, Ite X.K a, H1, rfl, I1.kept (t' := s1.toks) hk, turn_enum a (s1.heap.objs.size + 1) s1.heap.objs.size, ⟨⟨.none, he⟩, hit, Nat.succ_ne_self _⟩, two, q⟩
  · obtain ⟨its, rv, p', hz⟩ := I1.tuple hq
    refine SmX.enum_callT (show s1.heap.IsTuple a its.toArray from p') fun h' he hit hk => wpAny_pyIter_enum he ?_
    exact ⟨s1.heap.objs.size + 1, [s1.heap.objs.size + 1, s1.heap.objs.size], _, IteT X.K a, H1, rfl, I1.kept (t' := s1.toks) hk, turn_enumT a (s1.heap.objs.size + 1) s1.heap.objs.size, ⟨⟨.none, he⟩, hit, Nat.succ_ne_self _⟩, two, q⟩
/-- the items with their places -/
def enums (ds : List D) : List D := (ds.zipIdx 0).map fun p => .tup [.int (p.2 : Nat), p.1]
theorem enums_get {ds : List D} {i : Nat} {d : D} (h : ds[i]? = some d) : (enums ds)[i]? = some (.tup [.int (i : Nat), d]) := by
  unfold enums
  rw [List.getElem?_map, List.getElem?_zipIdx, h]
  simp
theorem enums_len (ds : List D) : (enums ds).length = ds.length := by
  unfold enums
  simp
section
variable {X : Cx} {W : Wh}
/-- a new pair is data at once -/
theorem SR.pair {Hf F : Hp} {ρ : List Addr} {C : Cells} {H : Hp} {xs : List V} {ds : List D} (S0 : SR K Hf F ρ C H) {T : Addr} (hT : H T = none) (h : Dats K Hf ρ xs ds) : ∃ Hf2, Same Hf Hf2 ∧ SR K Hf2 F ρ C (upd H T (.tup xs)) ∧ Dat K Hf2 ρ (.ref T) (.tup ds) := by
  obtain ⟨S1, e1⟩ := S0.new (o := .tup xs) hT
  exact ⟨_, e1, S1, .tup upd_same (h.mono e1 (List.prefix_refl _))⟩
theorem wk_el {Hf : Hp} {ρ : List Addr} {a : Addr} {ds : List D} {g : Gd} (h : ∀ Hf' F' ρ' C' H', Same Hf Hf' → ρ <+: ρ' → SR K Hf' F' ρ' C' H' → g C' = true → ∃ xs, SqL K H' a xs ∧ Dats K Hf' ρ' xs ds) :
    Wk K Hf ρ (Ite K a) (enums ds, g) := fun i Hf' F' ρ' C' H' e p S0 hg => by
  obtain ⟨xs, hx, hd⟩ := h Hf' F' ρ' C' H' e p S0 hg
  have hl := hd.len
  have hE : ((enums ds, g) : List D × Gd).1.length = ds.length := enums_len ds
  refine ⟨fun hi => ?_, fun hi => ⟨xs, hx, by omega⟩⟩
  have hi' : i < xs.length := by omega
  refine ⟨⟨xs, xs[i], hx, List.getElem?_eq_getElem hi'⟩, fun x H2 hy => ?_⟩
  obtain ⟨T, y, rfl, hT, rfl, hyy⟩ := hy
  obtain ⟨d, h1, h2⟩ := hd.getV (hyy xs hx)
  obtain ⟨Hf2, e2, S2, D2⟩ := S0.pair hT (.cons (.int (i : Nat)) (.cons h2 .nil))
  exact ⟨_, Hf2, enums_get h1, e2, S2, D2⟩
theorem wk_et {Hf : Hp} {ρ : List Addr} {a : Addr} {xs : List V} {ds : List D} (hx : SqT K Hf a xs) (hd : Dats K Hf ρ xs ds) : Wk K Hf ρ (IteT K a) (enums ds, gd0) := fun i Hf' F' ρ' C' H' e p S0 hg => by
  have hl := hd.len
  have hx' : SqT K H' a xs := same_t S0.ex (same_t e hx)
  have hE : ((enums ds, gd0) : List D × Gd).1.length = ds.length := enums_len ds
  refine ⟨fun hi => ?_, fun hi => ⟨xs, hx', by omega⟩⟩
  have hi' : i < xs.length := by omega
  refine ⟨⟨xs, xs[i], hx', List.getElem?_eq_getElem hi'⟩, fun x H2 hy => ?_⟩
  obtain ⟨T, y, rfl, hT, rfl, hyy⟩ := hy
  obtain ⟨d, h1, h2⟩ := (hd.mono e p).getV (hyy xs hx')
  obtain ⟨Hf2, e2, S2, D2⟩ := S0.pair hT (.cons (.int (i : Nat)) (.cons h2 .nil))
  exact ⟨_, Hf2, enums_get h1, e2, S2, D2⟩
def items1 (ds : List D) (C : Cells) : Option (List D × Gd) := match ds with
  | [.dt _ _] => none
  | [.dk _ _] => none
  | [d] => (items d C).map fun p => (enums p.1, p.2)
  | _ => none
def iEn (s : S (List D)) : SW := S.bind s fun ds env C => S.opt (items1 ds C) env C
theorem si_enum {elts : List Expr} {kk : Nat} {tpos p pos : Pos} {e : Expr} {s : S (List D)} (h : PI X (.Tuple elts kk tpos) (.Call (.Name "enumerate" p) [e] [] pos) (iEnumA X.K (tA X.K X.mg W s))) :
    SI X W (.Tuple elts kk tpos) (.Call (.Name "enumerate" p) [e] [] pos) (iEn s) := pi_imp h fun σ H R ⟨Hf, F, ρ, env, C, S0, E0, g⟩ =>
  ⟨Hf, F, ρ, env, C, S0, E0, (Go.bind g).mono fun vs H1 ⟨Hf1, ρ1, C1, ds, e1, p1, S1, A1, g1⟩ => by
    obtain ⟨q, hq, g2⟩ := Go.opt g1
    match ds, A1, hq with
    | [d], .cons (v := v) hv .nil, hq =>
      have hnd : ∀ ks es, d ≠ .dt ks es := fun ks es e => by subst e; cases hq
      have hnk : ∀ ks es, d ≠ .dk ks es := fun ks es e => by subst e; cases hq
      have hq' : (items d C1).map (fun p => (enums p.1, p.2)) = some q := by
        cases d <;> first
          | exact hq
          | cases hq
      obtain ⟨p0, hp, rfl⟩ := Option.map_eq_some_iff.mp hq'
      have fin : ∀ J, Wk X.K Hf1 ρ1 J (enums p0.1, p0.2) → R J H1 := fun J w => g2 J H1 Hf1 ρ1 (Same.refl _) (List.prefix_refl _) S1 w
      cases hv with
      | @tup a xs ds h hs =>
        have e := Option.some.inj hp
        subst e
        exact ⟨a, rfl, .inr ⟨xs, .inl (.inl (S1.ex _ _ h)), fin _ (wk_et (.inl (.inl h)) hs)⟩⟩
      | @lst a xs ds h hs =>
        have e := Option.some.inj hp
        subst e
        exact ⟨a, rfl, .inl ⟨xs, same_l S1.ex h, fin _ (wk_el fun Hf' F' ρ' C' H' e q S2 _ => ⟨xs, same_l S2.ex (same_l e h), hs.mono e q⟩)⟩⟩
      | @cel n a h =>
        unfold items at hp
        simp only [] at hp
        split at hp
        · rename_i ds hc
          have e := Option.some.inj hp
          subst e
          obtain ⟨_, k2⟩ := S1.cel n a _ h hc
          obtain ⟨vs, hv, hd⟩ := k2.lst
          refine ⟨a, rfl, .inl ⟨vs, .inl (.inl hv), fin _ (wk_el fun Hf' F' ρ' C' H' e q S2 hg => ?_)⟩⟩
          have hg' : gdC n ds C' = true := hg
          unfold gdC at hg'
          split at hg'
          · rename_i es hc'
            have := deqs_eq _ _ hg'
            subst this
            obtain ⟨_, k3⟩ := S2.cel n a _ (pre_get q h) hc'
            obtain ⟨vs', hv', hd'⟩ := k3.lst
            exact ⟨vs', .inl (.inl hv'), hd'.mono (Same.refl _) List.nil_prefix⟩
          · cases hg'
        · cases hp
      | dt h hl hs => exact absurd rfl (hnd _ _)
      | dk h hl hs => exact absurd rfl (hnk _ _)
      | _ => cases hp
    | [], _, hq => cases hq
    | d1 :: d2 :: ds, _, hq => cases d1 <;> cases hq⟩
end
end Sm
end
section
set_option maxRecDepth 100000
set_option maxHeartbeats 0
namespace Sm
variable [Tabs0]
open PySem L2
variable {K : PySem.W.Frag} {mg : Str → Option Value}
/-! ### comprehensions with two clauses -/
def lcs2 (g : Gd) (t : Tg) (c : S Bool) (it1 : SW) (t1 : Tg) (c1 : S Bool) (x : S D) (vs1 : List Nat) : List D → S (List D)
  | [] => fun _ C => if g C = true then some (.ok [] C) else none
  | d :: r => fun e C => if g C = true then match t.put d e with
      | none => none
      | some e1 => match c e1 C with
        | some (.ok true C1) => match it1 e1 C1 with
          | some (.ok p C2) => match lcs p.2 t1 c1 x p.1 (wipeE e1 vs1) C2 with
            | some (.ok ys C3) => match lcs2 g t c it1 t1 c1 x vs1 r e C3 with
              | some (.ok zs C4) => some (.ok (ys ++ zs) C4)
              | _ => none
            | _ => none
          | _ => none
        | some (.ok false C1) => lcs2 g t c it1 t1 c1 x vs1 r e C1
        | _ => none
    else none
def xLc2 (it : SW) (t : Tg) (c : S Bool) (it1 : SW) (t1 : Tg) (c1 : S Bool) (x : S D) (vs vs1 : List Nat) : S (List D) := S.bind it fun p e C => match lcs2 p.2 t c it1 t1 c1 x vs1 p.1 (wipeE e vs) C with
  | some (.ok ys C3) => if ys.length ≤ 1000000 then some (.ok ys C3) else none
  | _ => none
section
variable {X : Cx} {W : Wh}
/-- what follows a loop that gives ys -/
def Rest (K : PySem.W.Frag) (F : Hp) (Hf : Hp) (ρ : List Addr) (n : Nat) (r : Option (R (List D))) (k : List D → Cells → Hp → List Addr → Prop) : Prop := match r with
  | some (.ok ys C3) => n + ys.length ≤ 1000000 ∧ ∀ Hf' ρ', Same Hf Hf' → ρ <+: ρ' → k ys C3 Hf' ρ'
  | _ => False
end
/-! ### targets keep the number of slots -/
theorem gN_len (i : Nat) (d : D) (e e' : Env) (h : (gN i).put d e = some e') : e'.length = e.length := by
  have q := Option.some.inj h
  rw [← q, List.length_set]
theorem gsN_lenE (ds : List D) (e e' : Env) (h : gsN.put ds e = some e') : e'.length = e.length := by
  cases ds with
  | nil =>
    have q := Option.some.inj h
    rw [← q]
  | cons _ _ => cases h
theorem gsC_lenE {t : Tg} {u : Tgs} (h1 : ∀ d e e', t.put d e = some e' → e'.length = e.length) (h2 : ∀ ds e e', u.put ds e = some e' → e'.length = e.length) (ds : List D) (e e' : Env) (h : (gsC t u).put ds e = some e') : e'.length = e.length := by
  cases ds with
  | nil => cases h
  | cons d ds =>
    obtain ⟨e1, q1, q2⟩ := Option.bind_eq_some_iff.mp (show (t.put d e).bind (u.put ds) = some e' from h)
    rw [h2 _ _ _ q2, h1 _ _ _ q1]
theorem gT_len {u : Tgs} (h : ∀ ds e e', u.put ds e = some e' → e'.length = e.length) (d : D) (e e' : Env) (q : (gT u).put d e = some e') : e'.length = e.length := by
  cases d with
  | tup ds => exact h ds e e' q
  | _ => cases q
/-- no tests -/
theorem st_nil {X : Cx} {W : Wh} : PTs X [] (tT X.K X.mg W (S.val true)) := ⟨fun pins s σ H Q I h => by
  obtain ⟨Hf, F, ρ, env, C, S0, E0, g⟩ := h
  exact (pts_nil (X := X)).run pins s σ H Q I (Go.val (env := env) g S0 (v := true) rfl)⟩
end Sm
end
section
set_option maxRecDepth 100000
set_option maxHeartbeats 0
namespace Sm
variable [Tabs0]
open PySem L2
variable {K : PySem.W.Frag} {mg : Str → Option Value}
section
variable {X : Cx} {W : Wh}
/-! ### two comparisons in a row -/
theorem se_chain {op op' : CmpOp} {a b c : Expr} {pos : Pos} {r r' : R2} {f f' : D → D → Option D} {sa sb sc : S D} (ho : OpR X (compareOp op) r) (hf : Op2 X.K r f) (ho' : OpR X (compareOp op') r') (hf' : Op2 X.K r' f') (ha : SE X W a sa) (hb : SE X W b sb) (hc : SE X W c sc)
    (hm : lastMarks [op, op'] [b, c] = false) : SE X W (.Compare a [op, op'] [b, c] pos) (xChain f f' sa sb sc) := pe_imp (pe_chain ho ho' ha hb hc hm) fun _ _ _ q => goChain hf hf' q
/-! ### a, b = x, y -/
def xPar (i j : Nat) (s : S (List D)) : SS := xDo s fun ds e C => match ds with
  | [x, y] => some (.nx ((e.set i (some x)).set j (some y)) C)
  | _ => none
theorem sc_par {i j : Nat} {x y : Str} {a b : Expr} {px py pt pos : Pos} {kt k2 pt2} {s : S (List D)} (h : PS X (.Assign [.Tuple [.Name x px, .Name y py] kt pt] (.Tuple [a, b] k2 pt2) pos) (tPar i j (tA X.K X.mg W s))) :
    SC X W (.Assign [.Tuple [.Name x px, .Name y py] kt pt] (.Tuple [a, b] k2 pt2) pos) (xPar i j s) :=
  ps_imp h fun D σ H ⟨Hf, F, ρ, env, C, S0, E0, g⟩ => ⟨Hf, F, ρ, env, C, S0, E0, (GoS.doit E0 g).mono fun vs H1 ⟨Hf1, ρ1, C1, ds, e1, p1, S1, A1, g1⟩ => by
    match ds, A1, g1 with
    | [d, d'], .cons (v := v) h (.cons (v := v') h' .nil), g1 => exact ⟨v, v', rfl, g1 _ H1 Hf1 ρ1 (Same.refl _) (List.prefix_refl _) S1 (((E0.mono e1 p1).set h i).set h' j)⟩
    | [], _, g1 => exact g1.elim
    | [_], _, g1 => exact g1.elim
    | _ :: _ :: _ :: _, _, g1 => exact g1.elim⟩
/-! ### an empty dict, as data -/
/-! ### what stands at the top -/
theorem se_ty {e : Expr} {T : String} (h : PE X e (tC (.ty T))) : SE X W e (S.val (.opq (.ty T))) := se_const h fun _ _ => .opq _
theorem se_int {i j pos} : SE X W (.Constant (.int i) j pos) (S.val (.int i)) := se_const pe_int fun _ _ => .int _
theorem se_bl {i j pos} : SE X W (.Constant (.bool i) j pos) (S.val (.bl i)) := se_const pe_bl fun _ _ => .bl _
theorem se_non {j pos} : SE X W (.Constant .none j pos) (S.val .non) := se_const pe_non fun _ _ => .non
theorem se_gint {x : Str} {pos : Pos} {i : Int} {t : Tok} (hg : Gl X x) (hm : X.mg x = some (.int i t)) (hd : (x == ("__debug__" : Str)) = false) : SE X W (.Name x pos) (S.val (.int i)) := se_const (pe_glob (v := .int i) hg hm ⟨_, rfl⟩ hd) fun _ _ => .int _
theorem se_gintE {x : Str} {pos : Pos} {i : Int} (hg : Gl X x) (hm : ∃ t, X.mg x = some (.int i t)) (hd : (x == ("__debug__" : Str)) = false) : SE X W (.Name x pos) (S.val (.int i)) := by
  obtain ⟨t, hm⟩ := hm
  exact se_gint hg hm hd
end
section
open PyProof.Rows
variable {P : Program} {w : World} {base : Heap}
end
/-- what a law promises -/
def spLaw (K : PySem.W.Frag) : Sp := fun vs H Q _ => ∃ (a : Addr) (ns : List Int), vs = [.ref a] ∧ SqL K H a (ns.map V.int) ∧ ns.length ≤ 63 ∧ ∀ H', Q (.bl true) H'
theorem dats_ints {H : Hp} {ρ : List Addr} : ∀ ns : List Int, Dats K H ρ (ns.map V.int) (ns.map D.int)
  | [] => .nil
  | n :: ns => .cons (.int n) (dats_ints ns)
/-- a law, from what its text comes to at each script -/
theorem law_end {f : Fn} (h : ∀ ns : List Int, ns.length ≤ 63 → f [.lst (ns.map D.int)] [] = some (.ok (.bl true) [])) {vs : List V} {H : Hp} {Q : VK} {E : XK} (q : spLaw K vs H Q E) (hT : ∀ p ∈ Tabs0.T, H p.1 = some (.tbl #[]) := by intro p hp; exact absurd hp List.not_mem_nil) : spS K mg 1 f vs H Q E := by
  obtain ⟨a, ns, rfl, hS, hl, k⟩ := q
  classical
  obtain ⟨Hf, hHf⟩ : ∃ Hf : Hp, Hf = fun b => if ∃ ps, H b = some (.tbl ps) then none else H b := ⟨_, rfl⟩
  have e1 : Same Hf H := fun b o z => by
    rw [hHf] at z
    simp only [] at z
    split at z
    · cases z
    · exact z
  have e2 : ∀ b o, H b = some o → (∀ ps, o ≠ .tbl ps) → Hf b = some o := fun b o z n => by
    rw [hHf]
    simp only []
    rw [if_neg (fun ⟨ps, y⟩ => n ps (by rw [z] at y; exact Option.some.inj y))]
    exact z
  have hS2 : SqL K Hf a (ns.map V.int) := by
    rcases hS with (hS | ⟨o, hS⟩) | hS
    · exact .inl (.inl (e2 _ _ hS fun ps z => by cases z))
    · exact .inl (.inr ⟨o, e2 _ _ hS fun ps z => by cases z⟩)
    · exact .inr hS
  refine ⟨rfl, Hf, fun _ => none, [], [], [.lst (ns.map D.int)], ⟨e1, fun b o z => (by cases z), fun b o z => (by cases z), rfl, fun n a o z => (by simp at z), fun m n a o u z => (by simp at z), fun p hp => ⟨⟨?_, rfl⟩, #[], hT p hp, True.intro, fun pos cv hc => ?_⟩, fun b ps => ⟨fun z => ?_, fun z => by cases z⟩⟩, .cons (.lst hS2 (dats_ints ns)) .nil, ?_⟩
  · rw [hHf]
    simp only []
    rw [if_pos ⟨_, hT p hp⟩]
  · have z : codeAmong pos [] = some cv := hc
    simp [codeAmong] at z
  · have y := e1 b _ z
    rw [hHf] at z
    simp only [] at z
    rw [if_pos ⟨ps, y⟩] at z
    cases z
  · rw [h ns hl]
    exact fun v H' Hf' ρ' _ _ _ d => by
      cases d
      exact k H'
theorem cx_none {P : Program} {w : World} (H : Hp) (s : Shared) (e : Value) (s' : Shared) : L2.CX P w [] H s (fun _ _ _ => False) e s' → False := fun ⟨_, _, _, _, _, _, _, _, _, _, _, _, z⟩ => z
end Sm
end
section
set_option maxRecDepth 100000
set_option maxHeartbeats 0
set_option exponentiation.threshold 1000000
namespace Sm
open PySem L2
/-! ### reckoning -/
def typed : D → Bool
  | .non => true
  | .bl _ => true
  | .int _ => true
  | .str _ => true
  | .tup _ => true
  | .lst _ => true
  | .dk _ _ => true
  | _ => false
def wholeB : D → Bool
  | .int _ => true
  | _ => false
def tupB : D → Bool
  | .tup _ => true
  | _ => false
def blB : D → Bool
  | .bl _ => true
  | _ => false
def intB : D → Bool
  | .int _ => true
  | .bl _ => true
  | _ => false
section
variable {C : Cells} {d : D}
theorem isi_int (h : typed d = true) : dIsi [d, .opq (.ty "int")] = some (.bl (intB d)) := by
  cases d <;> first | rfl | (simp [typed] at h)
theorem isi_bool (h : typed d = true) : dIsi [d, .opq (.ty "bool")] = some (.bl (blB d)) := by
  cases d <;> first | rfl | (simp [typed] at h)
theorem isi_tup (h : typed d = true) : dIsi [d, .opq (.ty "tuple")] = some (.bl (tupB d)) := by
  cases d <;> first | rfl | (simp [typed] at h)
theorem vw_t (h : typed d = true) : vw C d = d := by
  cases d <;> first | rfl | (simp [typed] at h)
theorem ie_t (h : typed d = true) : isErr d = false := by
  cases d <;> first | rfl | (simp [typed] at h)
theorem vw_n : vw C .non = .non := rfl
theorem vw_b {b : Bool} : vw C (.bl b) = .bl b := rfl
theorem vw_i {i : Int} : vw C (.int i) = .int i := rfl
theorem vw_s {x : Str} : vw C (.str x) = .str x := rfl
theorem vw_u {ds : List D} : vw C (.tup ds) = .tup ds := rfl
theorem vw_l {ds : List D} : vw C (.lst ds) = .lst ds := rfl
theorem vw_o {v : V} : vw C (.opq v) = .opq v := rfl
theorem vw_c {n : Nat} {ds : List D} (h : C[n]? = some (some (.l ds))) : vw C (.cel n) = .lst ds := by
  unfold vw
  simp [h]
theorem ie_n : isErr .non = false := rfl
theorem ie_b {b : Bool} : isErr (.bl b) = false := rfl
theorem ie_i {i : Int} : isErr (.int i) = false := rfl
theorem ie_s {x : Str} : isErr (.str x) = false := rfl
theorem ie_u {ds : List D} : isErr (.tup ds) = false := rfl
theorem ie_l {ds : List D} : isErr (.lst ds) = false := rfl
theorem ie_c {n : Nat} : isErr (.cel n) = false := rfl
theorem x10 : ixN 1 0 = some 0 := rfl
theorem x20 : ixN 2 0 = some 0 := rfl
theorem x21 : ixN 2 1 = some 1 := rfl
theorem x30 : ixN 3 0 = some 0 := rfl
theorem x31 : ixN 3 1 = some 1 := rfl
theorem x32 : ixN 3 2 = some 2 := rfl
theorem ixN_nat {n i : Nat} (h : i < n) : ixN n (i : Int) = some i := by
  unfold ixN
  have : (0 : Int) ≤ (i : Int) := Int.natCast_nonneg i
  simp [h, this]
theorem fin_b {b : Bool} : fin C.length (.bl b) C = some (.ok (.bl b) C) := by simp [fin, nocel]
theorem fin_i {b : Int} : fin C.length (.int b) C = some (.ok (.int b) C) := by simp [fin, nocel]
theorem fin_n {k : Nat} (h : nocel d = true) : fin k d C = some (.ok d (C.take k)) := by simp [fin, h]
theorem eq_ii {i j : Int} : dEq (.int i) (.int j) = some (.bl (i == j)) := by simp [dEq, okE, eqd]
theorem ne_ii {i j : Int} : dNe (.int i) (.int j) = some (.bl (!(i == j))) := by simp [dNe, okE, eqd]
/-- the items of a walk are done one by one, and none stops -/
theorem lcs_map {g : Gd} {t : Tg} {c : S Bool} {x : S D} {e : Env} {C : Cells} (hg : g C = true) {p : D → Bool} {f : D → D} : ∀ (ds : List D), (∀ d ∈ ds, ∃ e1, t.put d e = some e1 ∧ c e1 C = some (.ok (p d) C) ∧ (p d = true → x e1 C = some (.ok (f d) C))) →
    lcs g t c x ds e C = some (.ok ((ds.filter p).map f) C)
  | [], _ => by
    unfold lcs
    rw [if_pos hg]
    rfl
  | d :: r, h => by
    obtain ⟨e1, h1, h2, h3⟩ := h d List.mem_cons_self
    have ih := lcs_map hg r fun d' hd' => h d' (List.mem_cons_of_mem _ hd')
    unfold lcs
    rw [if_pos hg, h1]
    cases hp : p d with
    | false =>
      rw [hp] at h2
      simp only [h2, ih, List.filter_cons, hp, Bool.false_eq_true, if_false]
    | true =>
      rw [hp] at h2
      simp only [h2, h3 hp, ih, List.filter_cons, hp, if_true, List.map_cons]
end
end Sm
end
section
set_option maxRecDepth 100000
set_option maxHeartbeats 0
set_option exponentiation.threshold 1000000
namespace Sm
open L2
theorem xLc_ok {it : SW} {t : Tg} {c : S Bool} {x : S D} {vs : List Nat} {e : Env} {C C1 C2 : Cells} {ds ys : List D} {g : Gd} (hi : it e C = some (.ok (ds, g) C1)) (hl : ds.length ≤ 1000000) (h : lcs g t c x ds (wipeE e vs) C1 = some (.ok ys C2)) : xLc it t c x vs e C = some (.ok ys C2) := by
  unfold xLc S.bind
  rw [hi]
  simp only [hl, if_true]
  exact h
/-- a comprehension whose cells go on changing: an invariant P -/
theorem lcs_go {t : Tg} {x : S D} {e : Env} (P : Nat → Cells → Prop) (Y : D → Prop) : ∀ (ds : List D) (k : Nat) (C : Cells), P k C → (∀ d ∈ ds, ∀ j C, j < k + ds.length → P j C → ∃ e1, t.put d e = some e1 ∧ ∃ y C1, x e1 C = some (.ok y C1) ∧ Y y ∧ P (j + 1) C1) →
    ∃ ys C1, lcs gd0 t (S.val true) x ds e C = some (.ok ys C1) ∧ ys.length = ds.length ∧ (∀ y ∈ ys, Y y) ∧ P (k + ds.length) C1
  | [], k, C, h, _ => ⟨[], C, by unfold lcs; rfl, rfl, fun y hy => (by cases hy), h⟩
  | d :: r, k, C, h, hs => by
    obtain ⟨e1, h1, y, C1, h2, h3, h4⟩ := hs d List.mem_cons_self k C (by rw [List.length_cons]; omega) h
    obtain ⟨ys, C2, g1, g2, g3, g4⟩ := lcs_go P Y r (k + 1) C1 h4 fun d' hd' j C hj => hs d' (List.mem_cons_of_mem _ hd') j C (by rw [List.length_cons]; omega)
    refine ⟨y :: ys, C2, ?_, by simp [g2], ?_, ?_⟩
    · unfold lcs
      simp only [gd0, if_true, h1, S.val, h2, g1]
    · intro z hz
      rcases List.mem_cons.mp hz with rfl | hz
      · exact h3
      · exact g3 z hz
    · rw [List.length_cons]
      have : k + (r.length + 1) = k + 1 + r.length := by omega
      rw [this]
      exact g4
theorem rng1_ok {z : Int} (h0 : 0 ≤ z) (h1 : z ≤ 1000000) : rng1 [.int z] = some (zs 0 z.toNat, gd0) := by
  have h : inRng z = true := inRng_iff.mpr (by omega)
  unfold rng1
  simp only [h, if_true]
end Sm
end
section
set_option maxRecDepth 100000
set_option maxHeartbeats 0
namespace Sm
variable [Tabs0]
open PySem L2 RZ
variable {K : PySem.W.Frag} {mg : Str → Option Value}
theorem units65 {k : Nat} {A : PySem.Around} (r : Room k A) : A.units + 65 < PySem.cLine := by
  have := r.un
  omega
/-! ### x in xs -/
def dIn : D → D → Option D := fun a b => match b with
  | .lst ds => if okE a 60 = true ∧ okE (.lst ds) 60 = true then some (.bl (ds.any fun z => eqd z a)) else none
  | _ => none
def dNotIn : D → D → Option D := fun a b => match b with
  | .lst ds => if okE a 60 = true ∧ okE (.lst ds) 60 = true then some (.bl (!ds.any fun z => eqd z a)) else none
  | _ => none
theorem any_eqv {a : D} {n : Nat} (ha : okE a n = true) : ∀ {ds : List D} {m : Nat}, okEs ds m = true → (toPs ds).any (fun z => PyData.eqv z (toP a)) = ds.any fun z => eqd z a
  | [], _, _ => rfl
  | d :: ds, m, h => by
    simp only [okEs, Bool.and_eq_true] at h
    simp only [toPs, List.any_cons, eqd_eqv d a m n h.1 ha, any_eqv ha h.2]
theorem in_ok {Hf F H : Hp} {ρ : List Addr} {Cs : Cells} {x y : V} {a : D} {ds : List D} (S0 : SR K Hf F ρ Cs H) (ha : Vw K H Hf ρ x a) (hb : Vw K H Hf ρ y (.lst ds)) (h : okE a 60 = true ∧ okE (.lst ds) 60 = true) :
    Dp K H x (toP a) ∧ Dp K H y (.list (toPs ds)) ∧ SeqAt.shaped (toP a) = true ∧ SeqAt.shaped (.list (toPs ds)) = true ∧ (toPs ds).any (fun z => PyData.eqv z (toP a)) = ds.any fun z => eqd z a :=
  ⟨ha.dp S0.ex h.1, hb.dp S0.ex h.2, okE_shaped h.1, okE_shaped h.2, any_eqv h.1 (m := 59) (by simpa [okE] using h.2)⟩
theorem op_dIn : Op2 K (rInD K) dIn := by
  intro Hf F ρ Cs H x y a b d Q S0 ha hb he k
  cases b with
  | lst ds =>
    unfold dIn at he
    simp only [] at he
    split at he
    · rename_i h
      have e := Option.some.inj he
      subst e
      obtain ⟨h1, h2, h3, h4, h5⟩ := in_ok S0 ha hb h
      refine ⟨_, _, h1, h2, h3, h4, ?_⟩
      rw [h5]
      exact k.here S0 (.bl _)
    · cases he
  | _ => cases he
/-! ### parts -/
def cutD (ds : List D) (lo hi : Option Int) : List D := (ds.drop (HT.sIx ds.length 0 lo)).take (HT.sIx ds.length ds.length hi - HT.sIx ds.length 0 lo)
theorem cut_dats {H : Hp} {ρ : List Addr} {xs : List V} {ds : List D} (h : Dats K H ρ xs ds) (lo hi : Option Int) : Dats K H ρ (cutV xs lo hi) (cutD ds lo hi) := by
  unfold cutV cutD
  rw [h.len]
  exact (h.drop _).take _
abbrev ROp : Hp → List Addr → Option Int → Option Int → Prop := fun _ _ a b => a = b
def tO (K : PySem.W.Frag) (mg : Str → Option Value) (W : Wh) (s : S (Option Int)) : TO := tG K mg W ROp s
section
variable {X : Cx} {W : Wh}
def SO (X : Cx) (W : Wh) (e : Option Expr) (s : S (Option Int)) : Prop := PO X e (tO X.K X.mg W s)
theorem po_imp {e : Option Expr} {t u : TO} (h : PO X e t) (k : ∀ σ H Q, u σ H Q → t σ H Q) : PO X e u := ⟨fun pins s σ H Q I q => h.run pins s σ H Q I (k σ H Q q)⟩
def oNo : S (Option Int) := S.val none
def oE (s : S D) : S (Option Int) := S.bind s fun d => S.opt (match d with
  | .int i => some (some i)
  | _ => none)
theorem so_no : SO X W none oNo := po_imp po_none fun σ H Q ⟨Hf, F, ρ, env, C, S0, E0, g⟩ => Go.val g S0 rfl
theorem so_e {e : Expr} {s : S D} (h : SE X W e s) : SO X W (some e) (oE s) := po_imp (po_some h) fun σ H Q ⟨Hf, F, ρ, env, C, S0, E0, g⟩ => ⟨Hf, F, ρ, env, C, S0, E0, (Go.bind g).mono fun x H1 ⟨Hf1, ρ1, C1, a, e1, p1, S1, A1, g1⟩ => by
  obtain ⟨d, hd, g3⟩ := Go.opt g1
  cases a with
  | int i =>
    cases A1
    have e : some i = d := Option.some.inj hd
    exact ⟨i, rfl, g3 (some i) H1 Hf1 ρ1 (Same.refl _) (List.prefix_refl _) S1 e⟩
  | _ => cases hd⟩
def dSl (d : D) (lo hi : Option Int) : Option D := match d with
  | .tup ds => some (.tup (cutD ds lo hi))
  | .lst ds => some (.lst (cutD ds lo hi))
  | _ => none
def xSl (s : S D) (lo hi : S (Option Int)) : S D := S.bind s fun d => S.bind lo fun l => S.bind hi fun h => fun env C => S.opt (dSl (vw C d) l h) env C
theorem cutD_all {ds : List D} {lo hi : Option Int} (h : HT.sIx ds.length 0 lo = 0 ∧ HT.sIx ds.length ds.length hi = ds.length) : cutD ds lo hi = ds := by
  unfold cutD
  rw [h.1, h.2]
  simp
theorem se_sl {e : Expr} {lo hi : Option Expr} {pos p2 : Pos} {s : S D} {l h : S (Option Int)} (he : SE X W e s) (hl : SO X W lo l) (hh : SO X W hi h) : SE X W (.Subscript e (.Slice lo hi none p2) pos) (xSl s l h) :=
  pe_imp (pe_slice (r := fun x lo hi H Q => rSlA X.K x lo hi H Q ∨ rSlL X.K x lo hi H Q) (SlR.or sl_tupA sl_list) he hl hh) fun σ H Q ⟨Hf, F, ρ, env, C, S0, E0, g⟩ =>
    ⟨Hf, F, ρ, env, C, S0, E0, (Go.bind g).mono fun x H1 ⟨Hf1, ρ1, C1, a, e1, p1, S1, A1, g1⟩ =>
      ⟨Hf1, F, ρ1, env, C1, S1, E0.mono e1 p1, (Go.bind g1).mono fun lo H2 ⟨Hf2, ρ2, C2, b, e2, p2, S2, B2, g2⟩ =>
        ⟨Hf2, F, ρ2, env, C2, S2, (E0.mono e1 p1).mono e2 p2, (Go.bind g2).mono fun hi H3 ⟨Hf3, ρ3, C3, c, e3, p3, S3, B3, g3⟩ => by
          have eb : lo = b := B2
          have ec : hi = c := B3
          subst eb
          subst ec
          obtain ⟨d, hd, g4⟩ := Go.opt g3
          have k : Ans X.K Hf3 F ρ3 C3 d Q := fun v H' Hf' ρ' e' p' S' D' => g4 v H' Hf' ρ' e' p' S' D'
          have hv := vw_ok S3 (A1.mono (e2.trans e3) (p2.trans p3))
          cases hw : vw C3 a with
          | tup ds =>
            rw [hw] at hd hv
            have e := Option.some.inj hd
            subst e
            obtain ⟨ad, xs, rfl, hx, hxf, hs⟩ := hv.tup S3.ex
            have hl := hs.len
            refine .inl ⟨ad, xs, rfl, hx, fun hz => ?_, fun _ => k.tup S3 (cut_dats hs _ _)⟩
            rw [hl] at hz
            rw [cutD_all hz] at k
            exact k.here S3 (.tup hxf hs)
          | lst ds =>
            rw [hw] at hd hv
            have e := Option.some.inj hd
            subst e
            obtain ⟨ad, xs, rfl, hx, hs⟩ := hv.lst S3.ex
            exact .inr ⟨ad, xs, rfl, hx, k.lst S3 (cut_dats hs _ _)⟩
          | _ =>
            rw [hw] at hd
            cases hd⟩⟩⟩
/-! ### list(xs): a new list -/
def lsOf (ds : List D) : Option (List D) := match ds with
  | [.lst es] => some es
  | [.tup es] => some es
  | _ => none
def xLs (s : S (List D)) : S (List D) := S.bind s fun ds => fun env C => S.opt (lsOf (ds.map (vw C))) env C
theorem sl_ls {x : Str} {p pos : Pos} {es : List Expr} {s : S (List D)} (h : PE X (.Call (.Name x p) es [] pos) (tCB (fun xs H Q => ∃ p ys, xs = [.ref p] ∧ (SqL X.K H p ys ∨ SqT X.K H p ys) ∧ ∀ l, H l = none → Q (.ref l) (upd H l (.lst ys))) (tA X.K X.mg W s))) :
    SL X W (.Call (.Name x p) es [] pos) (xLs s) := pe_imp h fun σ H Q ⟨Hf, F, ρ, env, C, S0, E0, g⟩ => ⟨Hf, F, ρ, env, C, S0, E0, by
    unfold xLs S.bind at g
    cases e : s env C with
    | none =>
      rw [e] at g
      exact g
    | some r =>
      rw [e] at g
      cases r with
      | ex c q C' => exact g
      | ok ds C' =>
        refine fun vs H' Hf' ρ' e' p' S' A' => ?_
        have g' : GoL X.K X.mg W σ Hf F ρ (S.opt (lsOf (ds.map (vw C'))) env C') Q := g
        cases hd : lsOf (ds.map (vw C')) with
        | none =>
          rw [hd] at g'
          exact g'.elim
        | some es =>
          rw [hd] at g'
          have hv := vws_ok S' A'
          unfold lsOf at hd
          split at hd
          · rename_i es0 heq
            have e0 := Option.some.inj hd
            subst e0
            rw [heq] at hv
            cases hv with
            | cons h hs =>
              cases hs
              obtain ⟨a, xs, rfl, hx, hs⟩ := h.lst S'.ex
              exact ⟨a, xs, rfl, .inl hx, fun l hl => g' (.ref l) _ Hf' ρ' e' p' (fresh_new S' hl hs)⟩
          · rename_i es0 heq
            have e0 := Option.some.inj hd
            subst e0
            rw [heq] at hv
            cases hv with
            | cons h hs =>
              cases hs
              obtain ⟨a, xs, rfl, hx, hxf, hs⟩ := h.tup S'.ex
              exact ⟨a, xs, rfl, .inr hx, fun l hl => g' (.ref l) _ Hf' ρ' e' p' (fresh_new S' hl hs)⟩
          · cases hd⟩
/-! ### o.extend(a new list) -/
def xExt (sr : S D) (sl : S (List D)) : S D := S.bind sr fun r => fun e C => if (live r C).isSome = true then (match sl e C with
  | some (.ok zs C2) => match live r C2 with
    | some (n, ds) => if nocels (ds ++ zs) = true ∧ ds.length + zs.length ≤ 1000000 then some (.ok .non (C2.set n (some (.l (ds ++ zs))))) else none
    | none => none
  | some (.ex c p C2) => some (.ex c p C2)
  | none => none) else none
/-! ### zip of two -/
def prs (xs ys : List D) : List D := (xs.zip ys).map fun p => .tup [p.1, p.2]
theorem prs_get {xs ys : List D} {i : Nat} {x y : D} (h1 : xs[i]? = some x) (h2 : ys[i]? = some y) : (prs xs ys)[i]? = some (.tup [x, y]) := by
  unfold prs
  have : (xs.zip ys)[i]? = some (x, y) := by simp [List.getElem?_zip_eq_some, h1, h2]
  rw [List.getElem?_map, this]
  rfl
theorem prs_len (xs ys : List D) : (prs xs ys).length = min xs.length ys.length := by
  unfold prs
  simp
theorem wk_zt {Hf : Hp} {ρ : List Addr} {a b : Addr} {xs ys : List V} {ds es : List D} (hx : SqT K Hf a xs) (hd : Dats K Hf ρ xs ds) (hy : SqT K Hf b ys) (he : Dats K Hf ρ ys es) : Wk K Hf ρ (ItzT K a b) (prs ds es, gd0) := fun i Hf' F' ρ' C' H' e p S0 hg => by
  have hl := hd.len
  have hl2 := he.len
  have hx' : SqT K H' a xs := same_t S0.ex (same_t e hx)
  have hy' : SqT K H' b ys := same_t S0.ex (same_t e hy)
  have hE : ((prs ds es, gd0) : List D × Gd).1.length = min ds.length es.length := prs_len ds es
  refine ⟨fun hi => ?_, fun hi => ⟨xs, ys, hx', hy', by omega⟩⟩
  have hi' : i < xs.length := by omega
  have hi2 : i < ys.length := by omega
  refine ⟨⟨xs, ys, xs[i], ys[i], hx', hy', List.getElem?_eq_getElem hi', List.getElem?_eq_getElem hi2⟩, fun x H2 hyy => ?_⟩
  obtain ⟨T, u, w, rfl, hT, rfl, hu, hw⟩ := hyy
  obtain ⟨d, h1, h2⟩ := (hd.mono e p).getV (hu xs hx')
  obtain ⟨f, h3, h4⟩ := (he.mono e p).getV (hw ys hy')
  obtain ⟨Hf2, e2, S2, D2⟩ := S0.pair hT (.cons h2 (.cons h4 .nil))
  exact ⟨_, Hf2, prs_get h1 h3, e2, S2, D2⟩
theorem wk_zl {Hf : Hp} {ρ : List Addr} {a b : Addr} {ds es : List D} {g g' : Gd} (h : ∀ Hf' F' ρ' C' H', Same Hf Hf' → ρ <+: ρ' → SR K Hf' F' ρ' C' H' → g C' = true → ∃ xs, SqL K H' a xs ∧ Dats K Hf' ρ' xs ds)
    (h' : ∀ Hf' F' ρ' C' H', Same Hf Hf' → ρ <+: ρ' → SR K Hf' F' ρ' C' H' → g' C' = true → ∃ xs, SqL K H' b xs ∧ Dats K Hf' ρ' xs es) : Wk K Hf ρ (Itz K a b) (prs ds es, fun C => g C && g' C) := fun i Hf' F' ρ' C' H' e p S0 hg => by
  have hg2 : g C' = true ∧ g' C' = true := by simpa using hg
  obtain ⟨xs, hx', hd⟩ := h Hf' F' ρ' C' H' e p S0 hg2.1
  obtain ⟨ys, hy', he⟩ := h' Hf' F' ρ' C' H' e p S0 hg2.2
  have hl := hd.len
  have hl2 := he.len
  have hE : ((prs ds es, fun C => g C && g' C) : List D × Gd).1.length = min ds.length es.length := prs_len ds es
  refine ⟨fun hi => ?_, fun hi => ⟨xs, ys, hx', hy', by omega⟩⟩
  have hi' : i < xs.length := by omega
  have hi2 : i < ys.length := by omega
  refine ⟨⟨xs, ys, xs[i], ys[i], hx', hy', List.getElem?_eq_getElem hi', List.getElem?_eq_getElem hi2⟩, fun x H2 hyy => ?_⟩
  obtain ⟨T, u, w, rfl, hT, rfl, hu, hw⟩ := hyy
  obtain ⟨d, h1, h2⟩ := hd.getV (hu xs hx')
  obtain ⟨f, h3, h4⟩ := he.getV (hw ys hy')
  obtain ⟨Hf2, e2, S2, D2⟩ := S0.pair hT (.cons h2 (.cons h4 .nil))
  exact ⟨_, Hf2, prs_get h1 h3, e2, S2, D2⟩
/-- a list, or a changing one -/
def litems (d : D) (C : Cells) : Option (List D × Gd) := match d with
  | .lst ds => some (ds, gd0)
  | .cel n => match C[n]? with
    | some (some (.l ds)) => some (ds, gdC n ds)
    | _ => none
  | _ => none
theorem litems_ok {Hf F : Hp} {ρ : List Addr} {C : Cells} {H : Hp} {v : V} {d : D} {p : List D × Gd} (S0 : SR K Hf F ρ C H) (h : Dat K Hf ρ v d) (hp : litems d C = some p) :
    ∃ a xs, v = .ref a ∧ SqL K H a xs ∧ ∀ Hf' F' ρ' C' H', Same Hf Hf' → ρ <+: ρ' → SR K Hf' F' ρ' C' H' → p.2 C' = true → ∃ xs, SqL K H' a xs ∧ Dats K Hf' ρ' xs p.1 := by
  cases h with
  | @lst a xs ds h hs =>
    have e := Option.some.inj hp
    subst e
    exact ⟨a, xs, rfl, same_l S0.ex h, fun Hf' F' ρ' C' H' e q S2 _ => ⟨xs, same_l S2.ex (same_l e h), hs.mono e q⟩⟩
  | @cel n a h =>
    unfold litems at hp
    simp only [] at hp
    split at hp
    · rename_i ds hc
      have e := Option.some.inj hp
      subst e
      obtain ⟨_, k2⟩ := S0.cel n a _ h hc
      obtain ⟨vs, hv, hd⟩ := k2.lst
      refine ⟨a, vs, rfl, .inl (.inl hv), fun Hf' F' ρ' C' H' e q S2 hg => ?_⟩
      have hg' : gdC n ds C' = true := hg
      unfold gdC at hg'
      split at hg'
      · rename_i es hc'
        have := deqs_eq _ _ hg'
        subst this
        obtain ⟨_, k3⟩ := S2.cel n a _ (pre_get q h) hc'
        obtain ⟨vs', hv', hd'⟩ := k3.lst
        exact ⟨vs', .inl (.inl hv'), hd'.mono (Same.refl _) List.nil_prefix⟩
      · cases hg'
    · cases hp
  | _ => cases hp
def zips (ds : List D) (C : Cells) : Option (List D × Gd) := match ds with
  | [.tup xs, .tup ys] => some (prs xs ys, gd0)
  | [x, y] => match litems x C, litems y C with
    | some p, some q => some (prs p.1 q.1, fun C => p.2 C && q.2 C)
    | _, _ => none
  | _ => none
def iZp (s : S (List D)) : SW := S.bind s fun ds env C => S.opt (zips ds C) env C
theorem si_zip {elts : List Expr} {kk : Nat} {tpos p pos : Pos} {e e2 : Expr} {s : S (List D)} (h : PI X (.Tuple elts kk tpos) (.Call (.Name "zip" p) [e, e2] [] pos) (iZipA X.K (tA X.K X.mg W s))) :
    SI X W (.Tuple elts kk tpos) (.Call (.Name "zip" p) [e, e2] [] pos) (iZp s) := pi_imp h fun σ H R ⟨Hf, F, ρ, env, C, S0, E0, g⟩ =>
  ⟨Hf, F, ρ, env, C, S0, E0, (Go.bind g).mono fun vs H1 ⟨Hf1, ρ1, C1, ds, e1, p1, S1, A1, g1⟩ => by
    obtain ⟨q, hq, g2⟩ := Go.opt g1
    unfold zips at hq
    split at hq
    · rename_i xs ys
      have e := Option.some.inj hq
      subst e
      cases A1 with
      | cons h1 h2 =>
        cases h2 with
        | cons h2 h3 =>
          cases h3
          cases h1 with
          | @tup a us _ ha hus =>
            cases h2 with
            | @tup b ws _ hb hws =>
              exact ⟨a, b, us, ws, rfl, .inr ⟨.inl (.inl (S1.ex _ _ ha)), .inl (.inl (S1.ex _ _ hb)), g2 _ H1 Hf1 ρ1 (Same.refl _) (List.prefix_refl _) S1 (wk_zt (.inl (.inl ha)) hus (.inl (.inl hb)) hws)⟩⟩
    · split at hq
      · rename_i pp qq hp1 hp2
        have e := Option.some.inj hq
        subst e
        cases A1 with
        | cons h1 h2 =>
          cases h2 with
          | cons h2 h3 =>
            cases h3
            obtain ⟨a, us, rfl, ha, ka⟩ := litems_ok S1 h1 hp1
            obtain ⟨b, ws, rfl, hb, kb⟩ := litems_ok S1 h2 hp2
            exact ⟨a, b, us, ws, rfl, .inl ⟨ha, hb, g2 _ H1 Hf1 ρ1 (Same.refl _) (List.prefix_refl _) S1 (wk_zl ka kb)⟩⟩
      · cases hq
    · cases hq⟩
/-! ### x op= e, the slot read first -/
def xAugI (i : Nat) (f : D → D → Option D) (s : S D) : SS := fun e C => match e[i]? with
  | some (some x) => if isErr x = true then none else xDo s (fun y e2 C2 => match x, y with
    | .int a, .int b => (f (.int a) (.int b)).map fun z => RS.nx (e2.set i (some z)) C2
    | _, _ => none) e C
  | _ => none
theorem goAug {i : Nat} {f : D → D → Option D} {s : S D} {ti : TIp} (hf : ∀ (a b : Int) (d : D) (H : Hp) (Q : VK), f (.int a) (.int b) = some d → (∀ v, (∀ Hf ρ, Dat X.K Hf ρ v d) → Q v H) → ti (.int a) (.int b) H Q) {D0 : Ends} {σ : L2.St} {H : Hp} (h : tS X.K X.mg W (xAugI i f s) D0 σ H) : tAug i (tE X.K X.mg W s) ti D0 σ H := by
  obtain ⟨Hf, F, ρ, env, C, S0, E0, g⟩ := h
  unfold xAugI at g
  split at g
  · rename_i x hx
    split at g
    · exact g.elim
    · rename_i hne
      obtain ⟨v, h1, h2⟩ := E0.at_ i x hx (by simpa using hne)
      refine ⟨v, h1, Hf, F, ρ, env, C, S0, E0, (GoS.doit E0 g).mono fun y H1 ⟨Hf1, ρ1, C1, b, e1, p1, S1, B1, g1⟩ => ?_⟩
      cases x with
      | int a =>
        cases h2
        cases b with
        | int b =>
          cases B1
          simp only [] at g1
          cases hz : f (.int a) (.int b) with
          | none =>
            rw [hz] at g1
            exact g1.elim
          | some z =>
            rw [hz] at g1
            exact hf a b z H1 _ hz fun v hv => g1 _ H1 Hf1 ρ1 (Same.refl _) (List.prefix_refl _) S1 ((E0.mono e1 p1).set (hv _ _) i)
        | _ => exact g1.elim
      | _ => cases b <;> exact g1.elim
  · exact g.elim
theorem sc_aug {i : Nat} {x : Str} {e : Expr} {op : Operator} {pos pos' : Pos} {f : D → D → Option D} {s : S D} {ti : TIp} (hf : ∀ (a b : Int) (d : D) (H : Hp) (Q : VK), f (.int a) (.int b) = some d → (∀ v, (∀ Hf ρ, Dat X.K Hf ρ v d) → Q v H) → ti (.int a) (.int b) H Q)
    (h : PS X (.AugAssign (.Name x pos') op e pos) (tAug i (tE X.K X.mg W s) ti)) : SC X W (.AugAssign (.Name x pos') op e pos) (xAugI i f s) := ps_imp h fun D σ H q => goAug hf q
theorem au_add (a b : Int) (d : D) (H : Hp) (Q : VK) (h : dAdd (.int a) (.int b) = some d) (k : ∀ v, (∀ Hf ρ, Dat K Hf ρ v d) → Q v H) : ipI (fun i j => i + j) (.int a) (.int b) H Q := by
  have e := Option.some.inj h
  subst e
  exact ⟨a, b, rfl, rfl, k _ fun _ _ => .int _⟩
/-- ints times ints -/
def ipM : TIp := fun x y H Q => ∃ i j, x = .int i ∧ y = .int j ∧ CMulW i j ∧ Q (.int (i * j)) H
theorem ip_mulW : PIp X .Mult ipM := by
  intro pins s σ H x y v u Q I r1 r2 h
  obtain ⟨i, j, e1, e2, hc, q⟩ := h
  subst e1; subst e2
  obtain ⟨t, rfl⟩ := r1
  obtain ⟨t', rfl⟩ := r2
  exact PySem.P.imul_int ⟨.int _, H, I.tok _, ⟨_, rfl⟩, q⟩ hc.ok
theorem au_mul (a b : Int) (d : D) (H : Hp) (Q : VK) (h : dMul (.int a) (.int b) = some d) (k : ∀ v, (∀ Hf ρ, Dat K Hf ρ v d) → Q v H) : ipM (.int a) (.int b) H Q := by
  unfold dMul at h
  simp only [] at h
  split at h
  · rename_i hh
    have e := Option.some.inj h
    subst e
    exact ⟨a, b, rfl, rfl, wide_mul hh.1 hh.2 (by decide) (by decide) (by decide), k _ fun _ _ => .int _⟩
  · cases h
end
end Sm
end
section
set_option maxRecDepth 100000
set_option maxHeartbeats 0
namespace SmX
open PySem PySem.Spec PyProof.Rows L2
/-! ### t * 1, t * 0 -/
theorem mul_self (l : Addr) (items : Array Value) (n : Nat) (dd : Option Addr) (sl : Array (Option Value)) (x : Int) (u : Tok) (c0 : (decide (x < -(2 ^ 63)) || decide (x ≥ 2 ^ 63)) = false) (c1 : (items.isEmpty || x == 1) = true) :
    Meets (Builtin.«tuple.__mul__» ⟨[.ref l, .int x u], []⟩) (fun _ R s => s.heap.get? l = some { cls := .type "tuple", dict := dd, data := .seq items n, slots := sl } ∧ R (.ok (.ret (Value.ref l))) s) :=
  .of_wp fun prog w A R s h => by
    obtain ⟨hp, g, d, tk, os⟩ := s
    obtain ⟨hl, h⟩ := h
    have f1 := AutoSeq1.idx_int
    wp_walk using AutoSeq1.wpAny_loadPart' hl
    repeat (first
      | (refine wpAny_ite_false (decide_eq_false (by rw [c0]; exact Bool.false_ne_true)) ?_; wp_walk using AutoSeq1.wpAny_loadPart' hl)
      | (refine wpAny_ite_true (decide_eq_true (by rw [c1])) ?_; wp_walk using AutoSeq1.wpAny_loadPart' hl))
    exact ⟨_, rfl, h⟩
theorem mul_none (l : Addr) (items : Array Value) (n : Nat) (dd : Option Addr) (sl : Array (Option Value)) (x : Int) (u : Tok) (c0 : (decide (x < -(2 ^ 63)) || decide (x ≥ 2 ^ 63)) = false) (c1 : (items.isEmpty || x == 1) = false) (c2 : (decide (x ≤ 0) || items.isEmpty) = true) :
    Meets (Builtin.«tuple.__mul__» ⟨[.ref l, .int x u], []⟩) (fun _ R s => s.heap.get? l = some { cls := .type "tuple", dict := dd, data := .seq items n, slots := sl } ∧ R (.ok (.ret (Value.ref s.heap.objs.size))) { s with heap := s.heap.push { cls := Value.type "tuple", data := Data.seq #[] }, toks := s.toks }) :=
  .of_wp fun prog w A R s h => by
    obtain ⟨hp, g, d, tk, os⟩ := s
    obtain ⟨hl, h⟩ := h
    have f1 := AutoSeq1.idx_int
    wp_walk using AutoSeq1.wpAny_loadPart' hl
    repeat (first
      | (refine wpAny_ite_false (decide_eq_false (by rw [c0]; exact Bool.false_ne_true)) ?_; wp_walk using AutoSeq1.wpAny_loadPart' hl)
      | (refine wpAny_ite_false (decide_eq_false (by rw [c1]; exact Bool.false_ne_true)) ?_; wp_walk using AutoSeq1.wpAny_loadPart' hl)
      | (refine wpAny_ite_true (decide_eq_true (by rw [c2])) ?_; wp_walk using AutoSeq1.wpAny_loadPart' hl))
    exact ⟨_, rfl, h⟩
end SmX
namespace Sm
variable [Tabs0]
open PySem L2 PySem.Spec PyProof.Rows
variable {K : PySem.W.Frag} {mg : Str → Option Value}
/-- t * 1 is t; t * 0 is () -/
def rRep1 (K : PySem.W.Frag) : R2 := fun x y H Q => ∃ l k xs, x = .ref l ∧ y = .int k ∧ SqT K H l xs ∧ -1000 ≤ k ∧ k ≤ 1000 ∧ (((xs = [] ∨ k = 1) ∧ Q (.ref l) H) ∨ (xs ≠ [] ∧ k ≤ 0 ∧ ∀ p, H p = none → Q (.ref p) (upd H p (.tup []))))
theorem op_rep1 {X : Cx} : OpR X (binaryOp .Mult) (rRep1 X.K) := by
  intro pins s σ H x y v u Q I rx ry h
  obtain ⟨l, k, xs, rfl, rfl, hT, h1, h2, h⟩ := h
  cases rx
  obtain ⟨t, rfl⟩ := ry
  obtain ⟨its, r, ⟨⟨cls, dd, data, sl⟩, ho, hc, n, hd⟩, hs⟩ := I.tuple hT
  simp only at hc hd
  subst hc hd
  have hle : its.length = xs.length := r.length.symm
  have c0 : (decide (k < -(2 ^ 63)) || decide (k ≥ 2 ^ 63)) = false := by
    rw [decide_eq_false (by omega), decide_eq_false (by omega)] <;> rfl
  rcases h with ⟨hh, q⟩ | ⟨hne, hk, q⟩
  · have c1 : (its.toArray.isEmpty || k == 1) = true := by
      rcases hh with e | e
      · have : its = [] := List.eq_nil_of_length_eq_zero (by rw [hle, e]; rfl)
        rw [this]
        rfl
      · rw [e]
        simp
    exact wpAny_binaryOp_repeat_ref (T := "tuple") (U := "int") (by decide) ⟨_, ho, rfl⟩ (fun s' => typeIs_int s' k t) noFill_tuple_mul F.fills_int_mul F.slot_int_rmul repeat_tuple F.slot_int_index.lookup
      (call_meets F.slot_int_rmul (typeIs_int s k t) F.entry_int_rmul (F.args_int_rmul_2 _ _) (int_rmul_tuple k t l its.toArray n dd sl)
        ⟨ho, rfl, ⟨_, ho, rfl⟩, call_meets F.slot_tuple_mul ⟨_, ho, rfl⟩ F.entry_tuple_mul (F.args_tuple_mul_2 _ _) (SmX.mul_self l its.toArray n dd sl k t c0 c1) ⟨ho, .ref l, H, I, rfl, q⟩⟩)
  · have hn : its ≠ [] := fun e => hne (by
      rw [e] at hle
      exact List.eq_nil_of_length_eq_zero hle.symm)
    have hi : its.toArray.isEmpty = false := by
      cases its with
      | nil => exact absurd rfl hn
      | cons a b => rfl
    have c1 : (its.toArray.isEmpty || k == 1) = false := by
      rw [hi, Bool.false_or]
      exact beq_eq_false_iff_ne.mpr (by omega)
    have c2 : (decide (k ≤ 0) || its.toArray.isEmpty) = true := by
      rw [decide_eq_true hk, Bool.true_or]
    refine wpAny_binaryOp_repeat_ref (T := "tuple") (U := "int") (by decide) ⟨_, ho, rfl⟩ (fun s' => typeIs_int s' k t) noFill_tuple_mul F.fills_int_mul F.slot_int_rmul repeat_tuple F.slot_int_index.lookup
      (call_meets F.slot_int_rmul (typeIs_int s k t) F.entry_int_rmul (F.args_int_rmul_2 _ _) (int_rmul_tuple k t l its.toArray n dd sl)
        ⟨ho, rfl, ⟨_, ho, rfl⟩, call_meets F.slot_tuple_mul ⟨_, ho, rfl⟩ F.entry_tuple_mul (F.args_tuple_mul_2 _ _) (SmX.mul_none l its.toArray n dd sl k t c0 c1 c2) ⟨ho, ?_⟩⟩)
    exact ⟨.ref s.heap.objs.size, _, I.laid (a := s.heap.objs.size) (o := .tup []) (t' := s.toks) (fun _ _ q => Heap.get?_push_of_some _ q) (Nat.le_refl _) ⟨Nat.zero_le _, [], .nil, IsTup.new _ _⟩, rfl, q _ I.fresh⟩
/-- ints, or a tuple some times, none and one too -/
def dMulA : D → D → Option D
  | .int a, .int b => dMul (.int a) (.int b)
  | .tup ds, .int b => if -1000 ≤ b ∧ b ≤ 1000 ∧ ds.length ≤ 1000 then some (.tup (List.replicate b.toNat ds).flatten) else none
  | _, _ => none
theorem flat_nil {α : Type} : ∀ n : Nat, (List.replicate n ([] : List α)).flatten = []
  | 0 => rfl
  | n + 1 => by rw [List.replicate_succ, List.flatten_cons, flat_nil n]; rfl
theorem op_dMulA : Op2 K (fun x y H Q => rI CMulW (fun i j => .int (i * j)) x y H Q ∨ rRepT K x y H Q ∨ rRep1 K x y H Q) dMulA := by
  intro Hf F ρ Cs H x y a b d Q S0 ha hb he k
  cases a with
  | int i =>
    cases b with
    | int j =>
      rcases op_dMul Hf F ρ Cs H x y _ _ d Q S0 ha hb he k with h | h
      · exact .inl h
      · exact .inr (.inl h)
    | _ => cases he
  | tup ds =>
    cases b with
    | int j =>
      unfold dMulA at he
      simp only [] at he
      split at he
      · rename_i h
        have e := Option.some.inj he
        subst e
        obtain ⟨a, xs, rfl, hx, hxf, hs⟩ := ha.tup S0.ex
        have hl := hs.len
        by_cases hn : xs = []
        · subst hn
          cases hs
          rw [flat_nil] at k
          exact .inr (.inr ⟨a, j, [], rfl, hb.int, hx, h.1, h.2.1, .inl ⟨.inl rfl, k.here S0 (.tup hxf .nil)⟩⟩)
        · by_cases h1 : j = 1
          · subst h1
            have e1 : (List.replicate (1 : Int).toNat ds).flatten = ds := by simp
            rw [e1] at k
            exact .inr (.inr ⟨a, 1, xs, rfl, hb.int, hx, h.1, h.2.1, .inl ⟨.inr rfl, k.here S0 (.tup hxf hs)⟩⟩)
          · by_cases h0 : j ≤ 0
            · have e1 : (List.replicate j.toNat ds).flatten = [] := by
                rw [show j.toNat = 0 by omega]
                rfl
              rw [e1] at k
              exact .inr (.inr ⟨a, j, xs, rfl, hb.int, hx, h.1, h.2.1, .inr ⟨hn, h0, k.tup S0 .nil⟩⟩)
            · exact .inr (.inl ⟨a, j, xs, rfl, hb.int, hx, hn, by omega, h.2.1, by omega, k.tup S0 (hs.rep _)⟩)
      · cases he
    | _ => cases he
  | _ => cases he
end Sm
end
section
set_option maxRecDepth 100000
set_option maxHeartbeats 0
namespace Sm
variable [Tabs0]
open PySem L2
variable {K : PySem.W.Frag} {mg : Str → Option Value}
/-! ### lists of ints: sum, max, min, sorted -/
def intsOf : List D → Option (List Int)
  | [] => some []
  | .int i :: ds => (intsOf ds).map (i :: ·)
  | _ => none
theorem intsOf_ok {H : Hp} {ρ : List Addr} : ∀ {xs : List V} {ds : List D} {ns : List Int}, Dats K H ρ xs ds → intsOf ds = some ns → xs = ns.map V.int
  | _, _, ns, .nil, h => by
    have e : [] = ns := Option.some.inj h
    subst e
    rfl
  | _, _, ns, .cons (d := d) (ds := ds) h hs, e => by
    cases d with
    | int i =>
      have e' : (intsOf ds).map (i :: ·) = some ns := e
      obtain ⟨ms, h1, h2⟩ := Option.map_eq_some_iff.mp e'
      subst h2
      cases h
      rw [intsOf_ok hs h1]
      rfl
    | _ => cases e
def dSumL : List D → Option D
  | [.lst ds] => (intsOf ds).map fun ns => .int ns.sum
  | _ => none
def maxI : Int → List Int → Int
  | m, [] => m
  | m, n :: ns => maxI (if m < n then n else m) ns
theorem maxI_ok : ∀ (ns : List Int) (m : Int), (maxI m ns = m ∨ maxI m ns ∈ ns) ∧ m ≤ maxI m ns ∧ ∀ n ∈ ns, n ≤ maxI m ns
  | [], m => ⟨.inl rfl, Int.le_refl _, fun n hn => by cases hn⟩
  | n :: ns, m => by
    obtain ⟨h1, h2, h3⟩ := maxI_ok ns (if m < n then n else m)
    have e : maxI m (n :: ns) = maxI (if m < n then n else m) ns := rfl
    rw [e]
    refine ⟨?_, ?_, fun z hz => ?_⟩
    · rcases h1 with h1 | h1
      · rw [h1]
        split
        · exact .inr List.mem_cons_self
        · exact .inl rfl
      · exact .inr (List.mem_cons_of_mem _ h1)
    · exact Int.le_trans (by split <;> omega) h2
    · rcases List.mem_cons.mp hz with rfl | hz
      · exact Int.le_trans (by split <;> omega) h2
      · exact h3 z hz
def dMaxL : List D → Option D
  | [.lst ds] => match intsOf ds with
    | some (n :: ns) => some (.int (maxI n ns))
    | _ => none
  | _ => none
end Sm
end
section
set_option maxRecDepth 100000
set_option maxHeartbeats 0
namespace Sm
variable [Tabs0]
open PySem L2
variable {K : PySem.W.Frag} {mg : Str → Option Value}
def minI : Int → List Int → Int
  | m, [] => m
  | m, n :: ns => minI (if n < m then n else m) ns
theorem minI_ok : ∀ (ns : List Int) (m : Int), (minI m ns = m ∨ minI m ns ∈ ns) ∧ minI m ns ≤ m ∧ ∀ n ∈ ns, minI m ns ≤ n
  | [], m => ⟨.inl rfl, Int.le_refl _, fun n hn => by cases hn⟩
  | n :: ns, m => by
    obtain ⟨h1, h2, h3⟩ := minI_ok ns (if n < m then n else m)
    have e : minI m (n :: ns) = minI (if n < m then n else m) ns := rfl
    rw [e]
    refine ⟨?_, ?_, fun z hz => ?_⟩
    · rcases h1 with h1 | h1
      · rw [h1]
        split
        · exact .inr List.mem_cons_self
        · exact .inl rfl
      · exact .inr (List.mem_cons_of_mem _ h1)
    · exact Int.le_trans h2 (by split <;> omega)
    · rcases List.mem_cons.mp hz with rfl | hz
      · exact Int.le_trans h2 (by split <;> omega)
      · exact h3 z hz
def dMinL : List D → Option D
  | [.lst ds] => match intsOf ds with
    | some (n :: ns) => some (.int (minI n ns))
    | _ => none
  | _ => none
/-! ### sorted(a list of ints) -/
def insI (m : Int) : List Int → List Int
  | [] => [m]
  | n :: ns => if m ≤ n then m :: n :: ns else n :: insI m ns
def sortI : List Int → List Int
  | [] => []
  | n :: ns => insI n (sortI ns)
theorem insI_perm (m : Int) : ∀ ns : List Int, (insI m ns).Perm (m :: ns)
  | [] => List.Perm.refl _
  | n :: ns => by
    unfold insI
    split
    · exact List.Perm.refl _
    · exact ((insI_perm m ns).cons n).trans (List.Perm.swap m n ns)
theorem sortI_perm : ∀ ns : List Int, (sortI ns).Perm ns
  | [] => List.Perm.refl _
  | n :: ns => (insI_perm n (sortI ns)).trans ((sortI_perm ns).cons n)
theorem insI_mem {m z : Int} {ns : List Int} (h : z ∈ insI m ns) : z = m ∨ z ∈ ns := by
  have := (insI_perm m ns).mem_iff.mp h
  exact List.mem_cons.mp this
theorem insI_sorted {m : Int} : ∀ {ns : List Int}, ns.Pairwise (· ≤ ·) → (insI m ns).Pairwise (· ≤ ·)
  | [], _ => List.pairwise_singleton _ _
  | n :: ns, h => by
    obtain ⟨h1, h2⟩ := List.pairwise_cons.mp h
    unfold insI
    split
    · rename_i hle
      exact List.pairwise_cons.mpr ⟨fun z hz => by
        rcases List.mem_cons.mp hz with rfl | hz
        · exact hle
        · exact Int.le_trans hle (h1 z hz), h⟩
    · rename_i hle
      exact List.pairwise_cons.mpr ⟨fun z hz => by
        rcases insI_mem hz with rfl | hz
        · omega
        · exact h1 z hz, insI_sorted h2⟩
theorem sortI_sorted : ∀ ns : List Int, (sortI ns).Pairwise (· ≤ ·)
  | [] => List.Pairwise.nil
  | n :: ns => insI_sorted (sortI_sorted ns)
theorem sorted_uniq : ∀ {xs ys : List Int}, xs.Pairwise (· ≤ ·) → ys.Pairwise (· ≤ ·) → xs.Perm ys → xs = ys
  | [], ys, _, _, h => (List.nil_perm.mp h).symm
  | x :: xs, [], _, _, h => by
    have := h.length_eq
    simp at this
  | x :: xs, y :: ys, hx, hy, h => by
    obtain ⟨x1, x2⟩ := List.pairwise_cons.mp hx
    obtain ⟨y1, y2⟩ := List.pairwise_cons.mp hy
    have e : x = y := by
      have a1 : x ∈ y :: ys := h.mem_iff.mp List.mem_cons_self
      have a2 : y ∈ x :: xs := h.mem_iff.mpr List.mem_cons_self
      have b1 : y ≤ x := by
        rcases List.mem_cons.mp a1 with e | a1
        · omega
        · exact y1 x a1
      have b2 : x ≤ y := by
        rcases List.mem_cons.mp a2 with e | a2
        · omega
        · exact x1 y a2
      omega
    subst e
    rw [sorted_uniq x2 y2 (List.Perm.cons_inv h)]
def srt (ds : List D) : Option (List D) := match ds with
  | [.lst es] => (intsOf es).bind fun ns => if ns.length < 64 then some ((sortI ns).map D.int) else none
  | _ => none
def xSrt (s : S (List D)) : S (List D) := S.bind s fun ds => fun env C => S.opt (srt (ds.map (vw C))) env C
section
variable {X : Cx} {W : Wh}
end
end Sm
end
section
set_option maxRecDepth 100000
set_option maxHeartbeats 0
namespace Sm
variable [Tabs0]
open PySem L2
variable {X : Cx} {W : Wh}
/-! ### xs[::-1] of a list -/
def rvD : D → Option (List D)
  | .lst ds => some ds.reverse
  | _ => none
def xRv (s : S D) : S (List D) := S.bind s fun d => fun env C => S.opt (rvD (vw C d)) env C
theorem Dats.rev {K : PySem.W.Frag} {H : Hp} {ρ : List Addr} : ∀ {xs : List V} {ds : List D}, Dats K H ρ xs ds → Dats K H ρ xs.reverse ds.reverse
  | _, _, .nil => .nil
  | _, _, .cons h hs => by
    rw [List.reverse_cons, List.reverse_cons]
    exact (Dats.rev hs).app (.cons h .nil)
theorem sl_rv {e : Expr} {k : Nat} {p1 p2 p3 pos : Pos} {s : S D} (he : SE X W e s) : SL X W (.Subscript e (.Slice none none (some (.UnaryOp .USub (.Constant (.int 1) k p1) p2)) p3) pos) (xRv s) :=
  pe_imp (pe_revL he) fun σ H Q ⟨Hf, F, ρ, env, C, S0, E0, g⟩ => ⟨Hf, F, ρ, env, C, S0, E0, by
    unfold xRv S.bind at g
    cases e : s env C with
    | none =>
      rw [e] at g
      exact g
    | some r =>
      rw [e] at g
      cases r with
      | ex c q C' => exact g
      | ok d C' =>
        refine fun x H' Hf' ρ' e' p' S' A' => ?_
        have g' : GoL X.K X.mg W σ Hf F ρ (S.opt (rvD (vw C' d)) env C') Q := g
        cases hd : rvD (vw C' d) with
        | none =>
          rw [hd] at g'
          exact g'.elim
        | some es =>
          rw [hd] at g'
          have hv := vw_ok S' A'
          unfold rvD at hd
          split at hd
          · rename_i es0 heq
            have e0 := Option.some.inj hd
            subst e0
            rw [heq] at hv
            obtain ⟨a, xs, rfl, hx, hs⟩ := hv.lst S'.ex
            exact ⟨a, xs, rfl, hx, fun l hl => g' (.ref l) _ Hf' ρ' e' p' (fresh_new S' hl hs.rev)⟩
          · cases hd⟩
end Sm
end
section
set_option maxRecDepth 100000
set_option maxHeartbeats 0
namespace Sm
variable [Tabs0]
open PySem L2
section
variable {X : Cx} {W : Wh}
/-! ### starred arguments -/
def seqD : D → Option (List D)
  | .lst ds => some ds
  | .tup ds => some ds
  | _ => none
def aStar (a : S D) (r : S (List D)) : S (List D) := S.bind a fun x => S.bind (fun env C => S.opt (seqD (vw C x)) env C) fun xs => S.bind r fun ys => S.val (xs ++ ys)
theorem sa_star {e : Expr} {es : List Expr} {p : Pos} {s : S D} {r : S (List D)} (he : SE X W e s) (hr : SA X W es r) (hs : starEach (.Starred e p :: es) X.env = (true, eval e X.env) :: starEach es X.env) : SA X W (.Starred e p :: es) (aStar s r) :=
  pa_imp (StX.pa_star he hr hs) fun σ H Q ⟨Hf, F, ρ, env, C, S0, E0, g⟩ => ⟨Hf, F, ρ, env, C, S0, E0, (Go.bind g).mono fun x H1 ⟨Hf1, ρ1, C1, a, e1, p1, S1, A1, g1⟩ => by
    have hd : ∃ ds, seqD (vw C1 a) = some ds := by
      cases q : seqD (vw C1 a) with
      | some d => exact ⟨d, rfl⟩
      | none =>
        unfold S.bind at g1
        simp only [q, S.opt] at g1
        exact g1.elim
    obtain ⟨ds, hd⟩ := hd
    have hv := vw_ok S1 A1
    have hx : ∃ p xs, x = V.ref p ∧ (SqT X.K H1 p xs ∨ SqL X.K H1 p xs) ∧ Dats X.K Hf1 ρ1 xs ds := by
      cases q : vw C1 a with
      | lst es =>
        rw [q] at hv hd
        have e0 : es = ds := Option.some.inj hd
        subst e0
        obtain ⟨b, xs, rfl, hx, hs⟩ := hv.lst S1.ex
        exact ⟨b, xs, rfl, .inr hx, hs⟩
      | tup es =>
        rw [q] at hv hd
        have e0 : es = ds := Option.some.inj hd
        subst e0
        obtain ⟨b, xs, rfl, hx, _, hs⟩ := hv.tup S1.ex
        exact ⟨b, xs, rfl, .inl hx, hs⟩
      | _ => rw [q] at hd; cases hd
    obtain ⟨b, xs, rfl, hx, hs⟩ := hx
    have g2 : Go X.K X.mg W (Dats X.K) σ Hf1 F ρ1 (S.bind r (fun ys => S.val (ds ++ ys)) env C1) Q := by
      have h := g1
      unfold S.bind at h
      simp only [hd, S.opt] at h
      exact h
    exact ⟨b, xs, rfl, hx, Hf1, F, ρ1, env, C1, S1, E0.mono e1 p1, (Go.bind g2).mono fun ys H2 ⟨Hf2, ρ2, C2, as, e2, p2, S2, A2, g3⟩ => Go.val g3 S2 ((hs.mono e2 p2).app A2)⟩⟩
/-! ### range(i, j, -1) -/
def zsD (i : Int) (n : Nat) : List D := (List.range n).map fun k => D.int (i - (k : Nat))
theorem zsD_len (lo : Int) (n : Nat) : (zsD lo n).length = n := by
  unfold zsD
  rw [List.length_map, List.length_range]
theorem zsD_get {lo : Int} {n i : Nat} (h : i < n) : (zsD lo n)[i]? = some (.int (lo - (i : Nat))) := by
  unfold zsD
  rw [List.getElem?_map, List.getElem?_range h]
  rfl
theorem wk_rd {K : PySem.W.Frag} {Hf : Hp} {ρ : List Addr} {lo : Int} {n : Nat} : Wk K Hf ρ (Itc lo (-1) n) (zsD lo n, gd0) := fun i Hf' F' ρ' C' H' e p S0 hg => by
  have hl : ((zsD lo n, gd0) : List D × Gd).1.length = n := zsD_len lo n
  refine ⟨fun hi => ⟨show i < n by omega, fun x H2 hy => ?_⟩, fun hi => show n ≤ i by omega⟩
  obtain ⟨e2, hy⟩ := hy
  subst e2
  subst hy
  have e3 : lo + (i : Nat) * (-1 : Int) = lo - (i : Nat) := by omega
  rw [e3]
  exact ⟨_, Hf', zsD_get (by omega), Same.refl _, S0, .int _⟩
def rng3 (ds : List D) : Option (List D × Gd) := match ds with
  | [.int i, .int j, .int c] => if c = -1 ∧ inRng i = true ∧ inRng j = true then some (zsD i (i - j).toNat, gd0) else none
  | _ => none
def iR3 (s : S (List D)) : SW := S.bind s fun ds => S.opt (rng3 ds)
theorem si_r3 {tg a b c : Expr} {p pos : Pos} {s : S (List D)} (h : PI X tg (.Call (.Name "range" p) [a, b, c] [] pos) (iRng3 (tA X.K X.mg W s))) : SI X W tg (.Call (.Name "range" p) [a, b, c] [] pos) (iR3 s) := pi_imp h fun σ H R ⟨Hf, F, ρ, env, C, S0, E0, g⟩ =>
  ⟨Hf, F, ρ, env, C, S0, E0, (Go.bind g).mono fun vs H1 ⟨Hf1, ρ1, C1, ds, e1, p1, S1, A1, g1⟩ => by
    obtain ⟨q, hq, g2⟩ := Go.opt g1
    unfold rng3 at hq
    split at hq
    · rename_i i j c
      split at hq
      · rename_i hj
        have e := Option.some.inj hq
        subst e
        obtain ⟨rfl, hi, hj⟩ := hj
        have hi := inRng_iff.mp hi
        have hj := inRng_iff.mp hj
        cases A1 with
        | cons h1 h2 =>
          cases h1
          cases h2 with
          | cons h3 h4 =>
            cases h3
            cases h4 with
            | cons h5 h6 =>
              cases h5
              cases h6
              exact ⟨i, j, -1, (i - j).toNat, rfl, RgC.neg hi.1 hi.2 hj.1 hj.2, g2 _ H1 Hf1 ρ1 (Same.refl _) (List.prefix_refl _) S1 wk_rd⟩
      · cases hq
    · cases hq⟩
end
/-! ### max(xs, default=d), min(xs, default=d) -/
open PySem.W in
theorem maxOf_int : ∀ (ns : List Int) (m : Int), (maxOf m ns = m ∨ maxOf m ns ∈ ns) ∧ m ≤ maxOf m ns ∧ ∀ n ∈ ns, n ≤ maxOf m ns
  | [], m => ⟨.inl rfl, Int.le_refl _, fun n hn => by cases hn⟩
  | n :: ns, m => by
    obtain ⟨h1, h2, h3⟩ := maxOf_int ns (if DatumOrd.lt m n = true then n else m)
    have e : maxOf m (n :: ns) = maxOf (if DatumOrd.lt m n = true then n else m) ns := rfl
    have hl : DatumOrd.lt m n = decide (m < n) := rfl
    rw [e]
    rw [hl] at h1 h2 h3 ⊢
    by_cases q : m < n
    · simp only [q, decide_true, if_true] at h1 h2 h3 ⊢
      refine ⟨.inr ?_, by omega, fun z hz => ?_⟩
      · rcases h1 with h1 | h1
        · rw [h1]; exact List.mem_cons_self
        · exact List.mem_cons_of_mem _ h1
      · rcases List.mem_cons.mp hz with rfl | hz
        · exact h2
        · exact h3 z hz
    · simp only [q, decide_false, Bool.false_eq_true, if_false] at h1 h2 h3 ⊢
      refine ⟨?_, h2, fun z hz => ?_⟩
      · rcases h1 with h1 | h1
        · exact .inl h1
        · exact .inr (List.mem_cons_of_mem _ h1)
      · rcases List.mem_cons.mp hz with rfl | hz
        · omega
        · exact h3 z hz
def rMaxDf (K : PySem.W.Frag) : List V → List V → Hp → VK → Prop := fun vs zs H Q => ∃ (a : Addr) (ns : List Int) (z : V), vs = [V.ref a] ∧ zs = [z] ∧ (SqL K H a (ns.map V.int) ∨ SqT K H a (ns.map V.int)) ∧ (ns = [] → Q z H) ∧ ∀ m, m ∈ ns → (∀ y ∈ ns, y ≤ m) → Q (.int m) H
def maxD0 (z : D) : List Int → D
  | [] => z
  | n :: ns => .int (maxI n ns)
def dMaxDf : List D → List D → Option D
  | [.lst ds], [z] => (intsOf ds).map (maxD0 z)
  | [.tup ds], [z] => (intsOf ds).map (maxD0 z)
  | _, _ => none
def xNK (f : List D → List D → Option D) (a z : S (List D)) : S D := S.bind a fun xs => S.bind z fun zs => fun env C => S.opt (f (xs.map (vw C)) zs) env C
def SK (X : Cx) (W : Wh) (kws : List Keyword) (s : S (List D)) : Prop := PK X kws (tA X.K X.mg W s)
/-- a built-in with keywords, by its values -/
def OpNK (K : PySem.W.Frag) (r : List V → List V → Hp → VK → Prop) (f : List D → List D → Option D) : Prop := ∀ (Hf F : Hp) (ρ : List Addr) (C : Cells) (H : Hp) (xs zs : List V) (as bs : List D) (d : D) (Q : VK), SR K Hf F ρ C H → Vws K H Hf ρ xs as → Dats K Hf ρ zs bs → f as bs = some d → Ans K Hf F ρ C d Q → r xs zs H Q
theorem maxI_in {n m : Int} {ns : List Int} (h1 : m ∈ n :: ns) (h2 : ∀ y ∈ n :: ns, y ≤ m) : m = maxI n ns := by
  obtain ⟨a1, a2, a3⟩ := maxI_ok ns n
  have b1 : maxI n ns ≤ m := by
    rcases a1 with a1 | a1
    · rw [a1]; exact h2 n List.mem_cons_self
    · exact h2 _ (List.mem_cons_of_mem _ a1)
  have b2 : m ≤ maxI n ns := by
    rcases List.mem_cons.mp h1 with rfl | h1
    · exact a2
    · exact a3 m h1
  omega
end Sm
end
section
set_option maxRecDepth 100000
set_option maxHeartbeats 0
namespace Sm
variable [Tabs0]
open PySem L2 RZ
variable {K : PySem.W.Frag} {mg : Str → Option Value}
/-! ### a in a tuple of ints -/
def rInT (K : PySem.W.Frag) : R2 := fun x y H Q => ∃ (i : Int) (a : Addr) (ns : List Int), x = V.int i ∧ y = V.ref a ∧ SqT K H a (ns.map V.int) ∧ Q (.bl (decide (i ∈ ns))) H
def rNotInT (K : PySem.W.Frag) : R2 := fun x y H Q => ∃ (i : Int) (a : Addr) (ns : List Int), x = V.int i ∧ y = V.ref a ∧ SqT K H a (ns.map V.int) ∧ Q (.bl (decide (i ∉ ns))) H
section
variable {X : Cx}
open PySem.W PySem.SeqAt in
theorem op_inT (hu : X.A.units + 65 < PySem.cLine) : OpR X (compareOp .In) (rInT X.K) := by
  intro pins s σ H x y v u Q I rx ry h
  obtain ⟨i, a, ns, rfl, rfl, hs, q⟩ := h
  obtain ⟨t, rfl⟩ := rx
  obtain rfl : u = Value.ref a := ry
  obtain ⟨its, rv, hl, _⟩ := I.tuple hs
  refine in_tuple_datum (xs := ns) (x := i) hl (HoldAll.of_ints rv.ints) (holds_int i t) ?_ ⟨.bl _, H, I, rfl, q⟩
  have : Datum.depth Int = 0 := rfl
  omega
end
/-- in, over lists of data and tuples of ints -/
def dInA : D → D → Option D := fun a b => match b with
  | .tup ds => match a with
    | .int i => (intsOf ds).map fun ns => .bl (decide (i ∈ ns))
    | _ => none
  | _ => dIn a b
def dNotInA : D → D → Option D := fun a b => match b with
  | .tup ds => match a with
    | .int i => (intsOf ds).map fun ns => .bl (decide (i ∉ ns))
    | _ => none
  | _ => dNotIn a b
theorem op_dInA : Op2 K (fun x y H Q => rInD K x y H Q ∨ rInT K x y H Q) dInA := by
  intro Hf F ρ Cs H x y a b d Q S0 ha hb he k
  by_cases hq : ∃ ds, b = .tup ds
  · obtain ⟨ds, rfl⟩ := hq
    cases a with
    | int i =>
      obtain ⟨ns, h1, h2⟩ := Option.map_eq_some_iff.mp (show (intsOf ds).map (fun ns => D.bl (decide (i ∈ ns))) = some d from he)
      subst h2
      obtain ⟨b, xs, rfl, hx, _, hd⟩ := hb.tup S0.ex
      have := intsOf_ok hd h1
      subst this
      exact .inr ⟨i, b, ns, ha.int, rfl, hx, k.here S0 (.bl _)⟩
    | _ => cases he
  · refine .inl (op_dIn Hf F ρ Cs H x y a b d Q S0 ha hb ?_ k)
    unfold dInA at he
    cases b with
    | tup ds => exact absurd ⟨ds, rfl⟩ hq
    | _ => exact he
/-! ### max, min of a list or a tuple of ints, not empty -/
def rMaxA (K : PySem.W.Frag) : List V → Hp → VK → Prop := fun vs H Q => ∃ (a : Addr) (ns : List Int), vs = [V.ref a] ∧ (SqL K H a (ns.map V.int) ∨ SqT K H a (ns.map V.int)) ∧ 0 < ns.length ∧ ∀ m, m ∈ ns → (∀ y, y ∈ ns → y ≤ m) → Q (.int m) H
open PySem.W in
theorem cr_maxA {X : Cx} (hc : X.calm = true) (hu : X.A.units + 65 < PySem.cLine) : CallR X (.builtin "max") (rMaxA X.K) := by
  intro pins s σ H vs us Q I r h
  obtain ⟨a, ns, rfl, hs, hne, q⟩ := h
  rcases hs with hs | hs
  · exact cr_max hc pins s σ H _ us Q I r ⟨a, ns, rfl, hs, hne, q⟩
  · obtain rfl := Vals.ref1 r
    cases ns with
    | nil => exact absurd hne (Nat.lt_irrefl 0)
    | cons y ys =>
      have hd : X.A.units + 1 + Datum.depth Int < PySem.cLine := by
        have : Datum.depth Int = 0 := rfl
        omega
      obtain ⟨its, rv, hl, _⟩ := I.tuple hs
      refine max_tuple_datum (x := y) (xs := ys) (I.ok.hd hc) hl (HoldAll.of_ints rv.ints) hd fun i v h' tk _ hv hk => ?_
      obtain ⟨m1, m2, m3⟩ := maxOf_int ys y
      obtain ⟨t, rfl⟩ : ∃ t, v = .int (maxOf y ys) t := by
        obtain ⟨as, hr⟩ := hv
        cases hr
        exact ⟨_, rfl⟩
      refine ⟨.int _, H, I.kept hk, ⟨t, rfl⟩, q _ ?_ fun n hn => ?_⟩
      · rcases m1 with m1 | m1
        · rw [m1]; exact List.mem_cons_self
        · exact List.mem_cons_of_mem _ m1
      · rcases List.mem_cons.mp hn with rfl | hn
        · exact m2
        · exact m3 n hn
def maxL : List Int → Option D
  | [] => none
  | n :: ns => some (.int (maxI n ns))
def dMaxA : List D → Option D
  | [.lst ds] => (intsOf ds).bind maxL
  | [.tup ds] => (intsOf ds).bind maxL
  | _ => none
theorem op_dMaxA : OpN K (rMaxA K) dMaxA := by
  intro Hf F ρ Cs H xs as d Q S0 ha he k
  have fin : ∀ (a : Addr) (ns : List Int), (SqL K H a (ns.map V.int) ∨ SqT K H a (ns.map V.int)) → maxL ns = some d → rMaxA K [V.ref a] H Q := fun a ns hs e => by
    cases ns with
    | nil => cases e
    | cons n ns =>
      have e := Option.some.inj e
      subst e
      exact ⟨a, n :: ns, rfl, hs, by simp, fun m m1 m2 => by rw [maxI_in m1 m2]; exact k.here S0 (.int _)⟩
  unfold dMaxA at he
  split at he
  · obtain ⟨ns, h1, h2⟩ := Option.bind_eq_some_iff.mp he
    cases ha with
    | cons h hs =>
      cases hs
      obtain ⟨a, ys, rfl, hx, hd⟩ := h.lst S0.ex
      have := intsOf_ok hd h1
      subst this
      exact fin a ns (.inl hx) h2
  · obtain ⟨ns, h1, h2⟩ := Option.bind_eq_some_iff.mp he
    cases ha with
    | cons h hs =>
      cases hs
      obtain ⟨a, ys, rfl, hx, _, hd⟩ := h.tup S0.ex
      have := intsOf_ok hd h1
      subst this
      exact fin a ns (.inr hx) h2
  · cases he
end Sm
end
section
set_option maxRecDepth 100000
set_option maxHeartbeats 0
namespace Sm
variable [Tabs0]
open PySem L2 RZ
variable {K : PySem.W.Frag} {mg : Str → Option Value}
/-! ### sum(xs), min(xs), of lists and tuples of ints -/
def rSumA (K : PySem.W.Frag) : List V → Hp → VK → Prop := fun vs H Q => ∃ (a : Addr) (ns : List Int), vs = [V.ref a] ∧ (SqL K H a (ns.map V.int) ∨ SqT K H a (ns.map V.int)) ∧ Q (.int ns.sum) H
open PySem.W PyProof.Rows in
theorem cr_sumA {X : Cx} (hc : X.calm = true) : CallR X (.builtin "sum") (rSumA X.K) := by
  intro pins s σ H vs us Q I r h
  obtain ⟨a, ns, rfl, hs, q⟩ := h
  rcases hs with hs | hs
  · exact cr_sum hc pins s σ H _ us Q I r ⟨a, ns, rfl, hs, q⟩
  · obtain rfl := Vals.ref1 r
    obtain ⟨its, rv, hl, _⟩ := I.tuple hs
    obtain ⟨xs, hx⟩ := rv.ints.allInts.items
    have hn : numsOf its.toArray.toList = ns := by rw [show its.toArray.toList = its from rfl, rv.ints.numsOf]
    rw [hx] at hl hn
    rw [nums_intItems] at hn
    refine ktm_sumG (I.ok.hd hc) hl fun h' tk t' hk => ?_
    rw [preSum_eq, List.take_of_length_le (by simp), hn]
    exact ⟨.int _, H, I.kept hk, ⟨_, rfl⟩, q⟩
def dSumA : List D → Option D
  | [.lst ds] => (intsOf ds).map fun ns => .int ns.sum
  | [.tup ds] => (intsOf ds).map fun ns => .int ns.sum
  | _ => none
theorem op_dSumA : OpN K (rSumA K) dSumA := by
  intro Hf F ρ Cs H xs as d Q S0 ha he k
  unfold dSumA at he
  split at he
  · cases ha with
    | cons h hs =>
      cases hs
      obtain ⟨a, xs, rfl, hx, hd⟩ := h.lst S0.ex
      obtain ⟨ns, h1, h2⟩ := Option.map_eq_some_iff.mp he
      subst h2
      have := intsOf_ok hd h1
      subst this
      exact ⟨a, ns, rfl, .inl hx, k.here S0 (.int _)⟩
  · cases ha with
    | cons h hs =>
      cases hs
      obtain ⟨a, xs, rfl, hx, _, hd⟩ := h.tup S0.ex
      obtain ⟨ns, h1, h2⟩ := Option.map_eq_some_iff.mp he
      subst h2
      have := intsOf_ok hd h1
      subst this
      exact ⟨a, ns, rfl, .inr hx, k.here S0 (.int _)⟩
  · cases he
end Sm
end
section
set_option maxRecDepth 100000
set_option maxHeartbeats 0
namespace Sm
variable [Tabs0]
open PySem L2
section
variable {X : Cx} {W : Wh}
/-! ### list(range(n)) -/
def lrD : D → Option (List D)
  | .int n => if n ≤ 1000000 ∧ -1000000 ≤ n then some (zs 0 n.toNat) else none
  | _ => none
def xLr (s : S D) : S (List D) := S.bind s fun d => fun env C => S.opt (lrD d) env C
/-! ### xs[i], ys[j] = a, b -/
def setAt (so si : S D) (v : D) : SS := xDo so fun o => xDo si fun i => fun e C => match o, i with
  | .cel n, .int k => match C[n]? with
    | some (some (.l ds)) => match ixN ds.length k with
      | some j => if nocel v = true then some (.nx e (C.set n (some (.l (ds.set j v))))) else none
      | none => none
    | _ => none
  | _, _ => none
def xSetI2 (o1 i1 o2 i2 : S D) (sv : S D) : SS := xDo sv fun t => match t with
  | .tup [d1, d2] => fun e C => match setAt o1 i1 d1 e C with
    | some (.nx e' C') => setAt o2 i2 d2 e' C'
    | _ => none
  | _ => fun _ _ => none
end
/-! ### min of a list or a tuple of ints, not empty -/
def rMinA (K : PySem.W.Frag) : List V → Hp → VK → Prop := fun vs H Q => ∃ (a : Addr) (ns : List Int), vs = [V.ref a] ∧ (SqL K H a (ns.map V.int) ∨ SqT K H a (ns.map V.int)) ∧ 0 < ns.length ∧ ∀ m, m ∈ ns → (∀ y, y ∈ ns → m ≤ y) → Q (.int m) H
open PySem.W in
theorem minOf_int : ∀ (ns : List Int) (m : Int), (minOf m ns = m ∨ minOf m ns ∈ ns) ∧ minOf m ns ≤ m ∧ ∀ n ∈ ns, minOf m ns ≤ n
  | [], m => ⟨.inl rfl, Int.le_refl _, fun n hn => by cases hn⟩
  | n :: ns, m => by
    obtain ⟨h1, h2, h3⟩ := minOf_int ns (if DatumOrd.lt n m = true then n else m)
    have e : minOf m (n :: ns) = minOf (if DatumOrd.lt n m = true then n else m) ns := rfl
    have hl : DatumOrd.lt n m = decide (n < m) := rfl
    rw [e]
    rw [hl] at h1 h2 h3 ⊢
    by_cases q : n < m
    · simp only [q, decide_true, if_true] at h1 h2 h3 ⊢
      refine ⟨.inr ?_, by omega, fun z hz => ?_⟩
      · rcases h1 with h1 | h1
        · rw [h1]; exact List.mem_cons_self
        · exact List.mem_cons_of_mem _ h1
      · rcases List.mem_cons.mp hz with rfl | hz
        · exact h2
        · exact h3 z hz
    · simp only [q, decide_false, Bool.false_eq_true, if_false] at h1 h2 h3 ⊢
      refine ⟨?_, h2, fun z hz => ?_⟩
      · rcases h1 with h1 | h1
        · exact .inl h1
        · exact .inr (List.mem_cons_of_mem _ h1)
      · rcases List.mem_cons.mp hz with rfl | hz
        · omega
        · exact h3 z hz
open PySem.W in
theorem cr_minA {X : Cx} (hc : X.calm = true) (hu : X.A.units + 65 < PySem.cLine) : CallR X (.builtin "min") (rMinA X.K) := by
  intro pins s σ H vs us Q I r h
  obtain ⟨a, ns, rfl, hs, hne, q⟩ := h
  rcases hs with hs | hs
  · exact cr_min hc pins s σ H _ us Q I r ⟨a, ns, rfl, hs, hne, q⟩
  · obtain rfl := Vals.ref1 r
    cases ns with
    | nil => exact absurd hne (Nat.lt_irrefl 0)
    | cons y ys =>
      have hd : X.A.units + 1 + Datum.depth Int < PySem.cLine := by
        have : Datum.depth Int = 0 := rfl
        omega
      obtain ⟨its, rv, hl, _⟩ := I.tuple hs
      refine min_tuple_datum (x := y) (xs := ys) (I.ok.hd hc) hl (HoldAll.of_ints rv.ints) hd fun i v h' tk _ hv hk => ?_
      obtain ⟨m1, m2, m3⟩ := minOf_int ys y
      obtain ⟨t, rfl⟩ : ∃ t, v = .int (minOf y ys) t := by
        obtain ⟨as, hr⟩ := hv
        cases hr
        exact ⟨_, rfl⟩
      refine ⟨.int _, H, I.kept hk, ⟨t, rfl⟩, q _ ?_ fun n hn => ?_⟩
      · rcases m1 with m1 | m1
        · rw [m1]; exact List.mem_cons_self
        · exact List.mem_cons_of_mem _ m1
      · rcases List.mem_cons.mp hn with rfl | hn
        · exact m2
        · exact m3 n hn
theorem minI_in {n m : Int} {ns : List Int} (h1 : m ∈ n :: ns) (h2 : ∀ y ∈ n :: ns, m ≤ y) : m = minI n ns := by
  obtain ⟨a1, a2, a3⟩ := minI_ok ns n
  have b1 : m ≤ minI n ns := by
    rcases a1 with a1 | a1
    · rw [a1]; exact h2 n List.mem_cons_self
    · exact h2 _ (List.mem_cons_of_mem _ a1)
  have b2 : minI n ns ≤ m := by
    rcases List.mem_cons.mp h1 with rfl | h1
    · exact a2
    · exact a3 m h1
  omega
def minL : List Int → Option D
  | [] => none
  | n :: ns => some (.int (minI n ns))
def dMinA : List D → Option D
  | [.lst ds] => (intsOf ds).bind minL
  | [.tup ds] => (intsOf ds).bind minL
  | _ => none
theorem op_dMinA {K : PySem.W.Frag} : OpN K (rMinA K) dMinA := by
  intro Hf F ρ Cs H xs as d Q S0 ha he k
  have fin : ∀ (a : Addr) (ns : List Int), (SqL K H a (ns.map V.int) ∨ SqT K H a (ns.map V.int)) → minL ns = some d → rMinA K [V.ref a] H Q := fun a ns hs e => by
    cases ns with
    | nil => cases e
    | cons n ns =>
      have e := Option.some.inj e
      subst e
      exact ⟨a, n :: ns, rfl, hs, by simp, fun m m1 m2 => by rw [minI_in m1 m2]; exact k.here S0 (.int _)⟩
  unfold dMinA at he
  split at he
  · obtain ⟨ns, h1, h2⟩ := Option.bind_eq_some_iff.mp he
    cases ha with
    | cons h hs =>
      cases hs
      obtain ⟨a, ys, rfl, hx, hd⟩ := h.lst S0.ex
      have := intsOf_ok hd h1
      subst this
      exact fin a ns (.inl hx) h2
  · obtain ⟨ns, h1, h2⟩ := Option.bind_eq_some_iff.mp he
    cases ha with
    | cons h hs =>
      cases hs
      obtain ⟨a, ys, rfl, hx, _, hd⟩ := h.tup S0.ex
      have := intsOf_ok hd h1
      subst this
      exact fin a ns (.inr hx) h2
  · cases he
/-! ### a, b = a list -/
def gL (u : Tgs) : Tg := ⟨fun d e => match d with
  | .lst ds => u.put ds e
  | _ => none, u.at_⟩
end Sm
end
section
set_option maxRecDepth 100000
set_option maxHeartbeats 0
namespace Sm
variable [Tabs0]
open PySem L2
variable {K : PySem.W.Frag} {mg : Str → Option Value}

/-! ### dicts whose keys are tuples of ints and texts -/
def ky1 : D → Option Key
  | .int i => some (.inl i)
  | .str x => some (.inr x)
  | _ => none
def kyA : List D → Option (List Key)
  | [] => some []
  | d :: ds => match ky1 d, kyA ds with
    | some k, some ks => some (k :: ks)
    | _, _ => none
/-- the key that a value is -/
def ky : D → Option (List Key)
  | .tup ds => kyA ds
  | _ => none
theorem ky1_ok {H : Hp} {ρ : List Addr} {v : V} {d : D} {k : Key} (h : Dat K H ρ v d) (e : ky1 d = some k) : v = kV k := by
  cases h <;> first
    | (cases e; rfl)
    | cases e
theorem kyA_ok {H : Hp} {ρ : List Addr} : ∀ {vs : List V} {ds : List D} {k : List Key}, Dats K H ρ vs ds → kyA ds = some k → vs = k.map kV
  | _, _, _, .nil, e => by cases e; rfl
  | _, _, _, .cons (d := d) (ds := ds) h hs, e => by
    unfold kyA at e
    split at e
    · rename_i k1 k2 e1 e2
      cases e
      rw [ky1_ok h e1, kyA_ok hs e2]
      rfl
    · cases e
theorem ky_ok {H Hf : Hp} {ρ : List Addr} {v : V} {d : D} {k : List Key} (e : Same Hf H) (h : Vw K H Hf ρ v d) (hk : ky d = some k) : ∃ b, v = .ref b ∧ H b = some (.tup (k.map kV)) := by
  cases d with
  | tup ds =>
    obtain ⟨a, xs, rfl, _, h2, h3⟩ := h.tup e
    have := kyA_ok h3 hk
    subst this
    exact ⟨a, rfl, e _ _ h2⟩
  | _ => cases hk
/-- what stands at a key -/
def dVal {κ : Type} [DecidableEq κ] : List κ → List D → κ → Option D
  | k' :: ks, d :: ds, k => if k' = k then some d else dVal ks ds k
  | _, _, _ => none
theorem dVal_ok {κ : Type} [DecidableEq κ] {H : Hp} {ρ : List Addr} {k : κ} : ∀ {ks : List κ} {xs : List V} {ds : List D}, ks.length = xs.length → Dats K H ρ xs ds →
    (valV (ks.zip xs) k = none ∧ dVal ks ds k = none) ∨ ∃ v d, valV (ks.zip xs) k = some v ∧ dVal ks ds k = some d ∧ Dat K H ρ v d
  | [], _, _, _, .nil => .inl ⟨rfl, rfl⟩
  | [], _ :: _, _, h, _ => by simp at h
  | _ :: _, _, _, h, .nil => by simp at h
  | k' :: ks, v :: xs, d :: ds, h, .cons hd hs => by
    by_cases hk : k' = k
    · refine .inr ⟨v, d, ?_, ?_, hd⟩
      · rw [List.zip_cons_cons, valV_pos hk]
      · unfold dVal
        rw [if_pos hk]
    · rw [List.zip_cons_cons, valV_neg hk]
      unfold dVal
      rw [if_neg hk]
      exact dVal_ok (by simpa using h) hs
/-- what a changing or a locked dict is -/
theorem Vw.dt {H Hf : Hp} {ρ : List Addr} {v : V} {ks : List (List Key)} {ds : List D} (e : Same Hf H) (h : Vw K H Hf ρ v (.dt ks ds)) : ∃ a xs, v = .ref a ∧ Rd H a (.dT (ks.zip xs)) ∧ ks.length = xs.length ∧ Dats K Hf ρ xs ds := by
  cases h with
  | dat h =>
    cases h with
    | dt h hl hs =>
      obtain ⟨o, h⟩ := h
      exact ⟨_, _, rfl, .inr ⟨o, e _ _ h⟩, hl, hs⟩
  | nowT h hl hs => exact ⟨_, _, rfl, h, hl, hs⟩
theorem Vw.dk {H Hf : Hp} {ρ : List Addr} {v : V} {ks : List Key} {ds : List D} (e : Same Hf H) (h : Vw K H Hf ρ v (.dk ks ds)) : ∃ a xs, v = .ref a ∧ Rd H a (.dK (ks.zip xs)) ∧ ks.length = xs.length ∧ Dats K Hf ρ xs ds := by
  cases h with
  | dat h =>
    cases h with
    | dk h hl hs =>
      obtain ⟨o, h⟩ := h
      exact ⟨_, _, rfl, .inr ⟨o, e _ _ h⟩, hl, hs⟩
  | nowK h hl hs => exact ⟨_, _, rfl, h, hl, hs⟩
theorem kyv_ok {H Hf : Hp} {ρ : List Addr} {v : V} {d : D} {k : Key} (h : Vw K H Hf ρ v d) (e : ky1 d = some k) : v = kV k := by
  cases h with
  | dat h => exact ky1_ok h e
  | _ => cases e
/-! d[k], k in d -/
def rDGet (x y : V) (H : Hp) (Q : VK) : Prop := ∃ a v, x = .ref a ∧ DGet H a y (some v) ∧ Q v H
def dDGet : D → D → Option D
  | .dt ks ds, y => (ky y).bind fun k => dVal ks ds k
  | .dk ks ds, y => (ky1 y).bind fun k => dVal ks ds k
  | _, _ => none
theorem op_dDGet : Op2 K rDGet dDGet := by
  intro Hf F ρ Cs H x y a b d Q S0 ha hb he k
  cases a with
  | dt ks ds =>
    obtain ⟨kk, h1, h2⟩ := Option.bind_eq_some_iff.mp (show (ky b).bind (fun k => dVal ks ds k) = some d from he)
    obtain ⟨q, rfl, hq⟩ := ky_ok S0.ex hb h1
    obtain ⟨a, xs, rfl, hr, hl, hs⟩ := ha.dt S0.ex
    rcases dVal_ok (k := kk) hl hs with ⟨_, h3⟩ | ⟨v, d', h3, h4, h5⟩
    · rw [h3] at h2
      cases h2
    · rw [h4] at h2
      cases h2
      exact ⟨a, v, rfl, .inr ⟨_, kk, q, hr, rfl, hq, h3.symm⟩, k.here S0 h5⟩
  | dk ks ds =>
    obtain ⟨kk, h1, h2⟩ := Option.bind_eq_some_iff.mp (show (ky1 b).bind (fun k => dVal ks ds k) = some d from he)
    have hv := kyv_ok hb h1
    obtain ⟨a, xs, rfl, hr, hl, hs⟩ := ha.dk S0.ex
    rcases dVal_ok (k := kk) hl hs with ⟨_, h3⟩ | ⟨v, d', h3, h4, h5⟩
    · rw [h3] at h2
      cases h2
    · rw [h4] at h2
      cases h2
      exact ⟨a, v, rfl, .inl ⟨_, kk, hr, hv, h3.symm⟩, k.here S0 h5⟩
  | _ => cases he
def dDIn : D → D → Option D
  | y, .dt ks ds => (ky y).map fun k => .bl (dVal ks ds k).isSome
  | y, .dk ks ds => (ky1 y).map fun k => .bl (dVal ks ds k).isSome
  | _, _ => none
def dDNotIn : D → D → Option D
  | y, .dt ks ds => (ky y).map fun k => .bl (!(dVal ks ds k).isSome)
  | y, .dk ks ds => (ky1 y).map fun k => .bl (!(dVal ks ds k).isSome)
  | _, _ => none
def rDIn (y x : V) (H : Hp) (Q : VK) : Prop := ∃ a o, x = .ref a ∧ DGet H a y o ∧ Q (.bl o.isSome) H
def rDNotIn (y x : V) (H : Hp) (Q : VK) : Prop := ∃ a o, x = .ref a ∧ DGet H a y o ∧ Q (.bl (!o.isSome)) H
section
variable {X : Cx} {W : Wh}
theorem se_dget {o i : Expr} {pos : Pos} {so si : S D} (hu : X.A.units + 1 < cLine) (ho : SE X W o so) (hi : SE X W i si) (hs : NoSl i) : SE X W (.Subscript o i pos) (x2 dDGet so si) :=
  pe_imp (pe_dget hu ho hi hs) fun _ _ _ q => go2 (r := rDGet) op_dDGet (fun _ _ _ q => q) (fun _ _ _ q => q) q
/-! d.get(k, x) -/
def dDGet2 : D → D → D → Option D
  | .dt ks ds, y, z => (ky y).map fun k => (dVal ks ds k).getD z
  | .dk ks ds, y, z => (ky1 y).map fun k => (dVal ks ds k).getD z
  | _, _, _ => none
def isDt : D → Bool
  | .dt _ _ => true
  | .dk _ _ => true
  | _ => false
def xDGet2 (so si sz : S D) : S D := S.bind so fun x => fun env C => if isDt (vw C x) = true then (S.bind si fun y => S.bind sz fun z => fun env C => S.opt (dDGet2 (vw C x) (vw C y) z) env C) env C else none
theorem se_dget2 {o e f : Expr} {apos cpos : Pos} {so si sz : S D} (hu : X.A.units + 1 < cLine) (ho : SE X W o so) (he : SE X W e si) (hf : SE X W f sz) (m : M2 X o "get" apos e f cpos) :
    SE X W (.Call (.Attribute o "get" apos) [e, f] [] cpos) (xDGet2 so si sz) := pe_imp (pe_dget2 hu ho he hf m) fun σ H Q ⟨Hf, F, ρ, env, C, S0, E0, g⟩ =>
  ⟨Hf, F, ρ, env, C, S0, E0, (Go.bind g).mono fun x H1 ⟨Hf1, ρ1, C1, dx, e1, p1, S1, A1, g1⟩ => by
    try simp only [] at g1
    by_cases hd : isDt (vw C1 dx) = true
    · rw [if_pos hd] at g1
      have v1 := vw_ok S1 A1
      obtain ⟨a, rfl, hisd⟩ : ∃ a, x = .ref a ∧ IsD H1 a := by
        generalize vw C1 dx = w at hd v1
        cases w with
        | dt ks ds =>
          obtain ⟨a, xs, rfl, hr, hl, hs⟩ := v1.dt S1.ex
          exact ⟨a, rfl, .inr ⟨_, hr⟩⟩
        | dk ks ds =>
          obtain ⟨a, xs, rfl, hr, hl, hs⟩ := v1.dk S1.ex
          exact ⟨a, rfl, .inl ⟨_, hr⟩⟩
        | _ => cases hd
      refine ⟨a, rfl, hisd, Hf1, F, ρ1, env, C1, S1, E0.mono e1 p1, (Go.bind g1).mono fun y H2 ⟨Hf2, ρ2, C2, dy, e2, p2, S2, A2, g2⟩ => ?_⟩
      refine ⟨Hf2, F, ρ2, env, C2, S2, (E0.mono e1 p1).mono e2 p2, (Go.bind g2).mono fun z H3 ⟨Hf3, ρ3, C3, dz, e3, p3, S3, A3, g3⟩ => ?_⟩
      obtain ⟨dd, h3, g4⟩ := Go.opt g3
      have vx := vw_ok S3 ((A1.mono e2 p2).mono e3 p3)
      have vy := vw_ok S3 (A2.mono e3 p3)
      generalize vw C3 dx = wx at vx h3
      generalize vw C3 dy = wy at vy h3
      cases wx with
      | dt ks3 ds3 =>
        obtain ⟨kk, h5, rfl⟩ := Option.map_eq_some_iff.mp (show (ky wy).map (fun k => (dVal ks3 ds3 k).getD dz) = some dd from h3)
        obtain ⟨q, rfl, hq⟩ := ky_ok S3.ex vy h5
        obtain ⟨a', xs3, ea, hr3, hl3, hs3⟩ := vx.dt S3.ex
        cases ea
        refine ⟨valV (ks3.zip xs3) kk, .inr ⟨_, kk, q, hr3, rfl, hq, rfl⟩, ?_⟩
        rcases dVal_ok (k := kk) hl3 hs3 with ⟨h6, h7⟩ | ⟨v, d', h6, h7, h8⟩
        · rw [h6]
          rw [h7] at g4
          exact g4 z H3 Hf3 ρ3 (Same.refl _) (List.prefix_refl _) S3 A3
        · rw [h6]
          rw [h7] at g4
          exact g4 v H3 Hf3 ρ3 (Same.refl _) (List.prefix_refl _) S3 h8
      | dk ks3 ds3 =>
        obtain ⟨kk, h5, rfl⟩ := Option.map_eq_some_iff.mp (show (ky1 wy).map (fun k => (dVal ks3 ds3 k).getD dz) = some dd from h3)
        have hv := kyv_ok vy h5
        obtain ⟨a', xs3, ea, hr3, hl3, hs3⟩ := vx.dk S3.ex
        cases ea
        refine ⟨valV (ks3.zip xs3) kk, .inl ⟨_, kk, hr3, hv, rfl⟩, ?_⟩
        rcases dVal_ok (k := kk) hl3 hs3 with ⟨h6, h7⟩ | ⟨v, d', h6, h7, h8⟩
        · rw [h6]
          rw [h7] at g4
          exact g4 z H3 Hf3 ρ3 (Same.refl _) (List.prefix_refl _) S3 A3
        · rw [h6]
          rw [h7] at g4
          exact g4 v H3 Hf3 ρ3 (Same.refl _) (List.prefix_refl _) S3 h8
      | _ => cases h3
    · rw [if_neg hd] at g1
      exact g1.elim⟩
end
end Sm
end
section
set_option maxRecDepth 100000
set_option maxHeartbeats 0
namespace Sm
variable [Tabs0]
open PySem L2
variable {K : PySem.W.Frag} {mg : Str → Option Value}

/-! ### a dict of tuples that changes -/
variable {κ : Type} [DecidableEq κ]
def hasK (ks : List κ) (k : κ) : Bool := ks.any fun k' => decide (k' = k)
def addK (ks : List κ) (k : κ) : List κ := if hasK ks k = true then ks else ks ++ [k]
def putV {α : Type} (ks : List κ) (xs : List α) (k : κ) (x : α) : List α := if hasK ks k = true then List.zipWith (fun k' y => if k' = k then x else y) ks xs else xs ++ [x]
theorem any_mem {k : κ} : ∀ {ks : List κ} {xs : List V}, ks.length = xs.length → ((ks.zip xs).any fun kv => decide (kv.1 = k)) = hasK ks k
  | [], _, _ => by simp [hasK]
  | _ :: _, [], h => by simp at h
  | k' :: ks, x :: xs, h => by
    rw [List.zip_cons_cons, List.any_cons, any_mem (by simpa using h)]
    rfl
theorem zipW {k : κ} {v : V} : ∀ {ks : List κ} {xs : List V}, ks.length = xs.length → (ks.zip xs).map (fun kv => if kv.1 = k then (kv.1, v) else kv) = ks.zip (List.zipWith (fun k' y => if k' = k then v else y) ks xs)
  | [], _, _ => by simp
  | _ :: _, [], h => by simp at h
  | k' :: ks, x :: xs, h => by
    rw [List.zip_cons_cons, List.map_cons, zipW (by simpa using h), List.zipWith_cons_cons, List.zip_cons_cons]
    by_cases e : k' = k
    · simp [e]
    · simp [e]
theorem putK_zip {k : κ} {v : V} {ks : List κ} {xs : List V} (h : ks.length = xs.length) : putK (ks.zip xs) k v = (addK ks k).zip (putV ks xs k v) := by
  unfold putK addK putV
  rw [any_mem h]
  by_cases e : hasK ks k = true
  · rw [if_pos e, if_pos e, if_pos e, zipW h]
  · rw [if_neg e, if_neg e, if_neg e, List.zip_append h]
    rfl
theorem putV_len {α : Type} {k : κ} {v : α} {ks : List κ} {xs : List α} (h : ks.length = xs.length) : (addK ks k).length = (putV ks xs k v).length := by
  unfold addK putV
  by_cases e : hasK ks k = true
  · rw [if_pos e, if_pos e, List.length_zipWith]
    omega
  · rw [if_neg e, if_neg e, List.length_append, List.length_append, h]
    rfl
theorem Dats.zw {H : Hp} {ρ : List Addr} {k : κ} {v : V} {d : D} (h : Dat K H ρ v d) : ∀ (ks : List κ) {xs : List V} {ds : List D}, Dats K H ρ xs ds →
    Dats K H ρ (List.zipWith (fun k' y => if k' = k then v else y) ks xs) (List.zipWith (fun k' y => if k' = k then d else y) ks ds)
  | [], _, _, _ => .nil
  | _ :: _, _, _, .nil => .nil
  | k' :: ks, x :: xs, y :: ds, .cons h1 hs => by
    rw [List.zipWith_cons_cons, List.zipWith_cons_cons]
    refine .cons ?_ (Dats.zw h ks hs)
    by_cases e : k' = k
    · rw [if_pos e, if_pos e]
      exact h
    · rw [if_neg e, if_neg e]
      exact h1
theorem Dats.put {H : Hp} {ρ : List Addr} {k : κ} {v : V} {d : D} {ks : List κ} {xs : List V} {ds : List D} (h : Dat K H ρ v d) (hs : Dats K H ρ xs ds) : Dats K H ρ (putV ks xs k v) (putV ks ds k d) := by
  unfold putV
  by_cases e : hasK ks k = true
  · rw [if_pos e, if_pos e]
    exact Dats.zw h ks hs
  · rw [if_neg e, if_neg e]
    exact hs.app (.cons h .nil)
section
variable {X : Cx} {W : Wh}
/-- {}, to be changed -/
def xNewT : S D := fun _ C => some (.ok (.cel C.length) (C ++ [some (.t [] [])]))
/-- {}, to be changed, with keys that are ints and texts -/
def xNewK : S D := fun _ C => some (.ok (.cel C.length) (C ++ [some (.k [] [])]))
theorem se_newK {pos : Pos} : SE X W (.Dict [] [] pos) xNewK := pe_imp pe_dnewK fun σ H Q ⟨Hf, F, ρ, env, C, S0, E0, g⟩ => fun p hp => by
  have S1 : SR X.K Hf F (ρ ++ [p]) (C ++ [some (.k [] [])]) (upd H p (.dK [])) := S0.newOb hp (.k (ks := []) rfl .nil)
  exact g (.ref p) _ Hf _ (Same.refl _) (List.prefix_append _ _) S1 (.cel (by rw [← S0.len, List.getElem?_append_right (Nat.le_refl _), Nat.sub_self]; rfl))
/-- o[i] = e, o a changing dict -/
def xSetT (so si sv : S D) : SS := xDo sv fun v => xDo so fun o => xDo si fun i => fun e C => match o with
  | .cel n => match C[n]? with
    | some (some (.t ks ds)) => match ky (vw C i) with
      | some k => if nocel v = true ∧ ks.length < 1000000 then some (.nx e (C.set n (some (.t (addK ks k) (putV ks ds k v))))) else none
      | none => none
    | some (some (.k ks ds)) => match ky1 (vw C i) with
      | some k => if nocel v = true ∧ ks.length < 1000000 then some (.nx e (C.set n (some (.k (addK ks k) (putV ks ds k v))))) else none
      | none => none
    | _ => none
  | _ => none
theorem sc_sett {o i e : Expr} {pp pos : Pos} {so si sv : S D} (hu : X.A.units + 1 < cLine) (ho : SE X W o so) (hi : SE X W i si) (he : SE X W e sv) (hs : swapsWith e (some (.Subscript o i pp)) pos.line X.env = pure false) :
    SC X W (.Assign [.Subscript o i pp] e pos) (xSetT so si sv) :=
  ps_imp (ps_dput hu ho hi he hs) fun D σ H ⟨Hf, F, ρ, env, C, S0, E0, g⟩ => ⟨Hf, F, ρ, env, C, S0, E0, (GoS.doit E0 g).mono fun v H1 ⟨Hf1, ρ1, C1, dv, e1, p1, S1, A1, g1⟩ =>
    ⟨Hf1, F, ρ1, env, C1, S1, E0.mono e1 p1, (GoS.doit (E0.mono e1 p1) g1).mono fun x H2 ⟨Hf2, ρ2, C2, dx, e2, p2, S2, A2, g2⟩ =>
      ⟨Hf2, F, ρ2, env, C2, S2, (E0.mono e1 p1).mono e2 p2, (GoS.doit ((E0.mono e1 p1).mono e2 p2) g2).mono fun y H3 ⟨Hf3, ρ3, C3, dy, e3, p3, S3, A3, g3⟩ => by
        match dx, A2, g3 with
        | .cel n, .cel (a := ad) hn, g3 =>
          cases hc : C3[n]? with
          | none =>
            simp only [hc] at g3
            exact g3.elim
          | some oo =>
            cases oo with
            | none =>
              simp only [hc] at g3
              exact g3.elim
            | some o =>
              cases o with
              | l ds =>
                simp only [hc] at g3
                exact g3.elim
              | k ks ds =>
                simp only [hc] at g3
                cases hk : ky1 (vw C3 dy) with
                | none =>
                  simp only [hk] at g3
                  exact g3.elim
                | some k =>
                  simp only [hk] at g3
                  split at g3
                  · rename_i nc
                    have hn3 := pre_get p3 hn
                    obtain ⟨_, k2⟩ := S3.cel n ad _ hn3 hc
                    obtain ⟨vs, hv, hl, hd⟩ := k2.dkt
                    have hkv := kyv_ok (vw_ok S3 A3) hk
                    subst hkv
                    have hvv := ((A1.mono (e2.trans e3) (p2.trans p3)).bare nc.1).mono (Same.refl _) (List.nil_prefix (l := ρ3.take n))
                    have hlt : (ks.zip vs).length < sizeLine := by
                      rw [List.length_zip, sizeLine_eq]
                      omega
                    refine ⟨ad, upd H3 ad (.dK (putK (ks.zip vs) k v)), rfl, DPut.k hv hlt, ?_⟩
                    rw [putK_zip hl]
                    exact g3 σ _ Hf3 ρ3 (Same.refl _) (List.prefix_refl _) (S3.setOb hn3 hc (.k (putV_len hl) (Dats.put hvv hd))) (((E0.mono e1 p1).mono e2 p2).mono e3 p3)
                  · exact g3.elim
              | t ks ds =>
                simp only [hc] at g3
                cases hk : ky (vw C3 dy) with
                | none =>
                  simp only [hk] at g3
                  exact g3.elim
                | some k =>
                  simp only [hk] at g3
                  split at g3
                  · rename_i nc
                    have hn3 := pre_get p3 hn
                    obtain ⟨_, k2⟩ := S3.cel n ad _ hn3 hc
                    obtain ⟨vs, hv, hl, hd⟩ := k2.dct
                    obtain ⟨b, rfl, hb⟩ := ky_ok S3.ex (vw_ok S3 A3) hk
                    have hvv := (A1.mono (e2.trans e3) (p2.trans p3)).bare nc.1
                    have hlt : (ks.zip vs).length < sizeLine := by
                      rw [List.length_zip, sizeLine_eq]
                      omega
                    refine ⟨ad, upd H3 ad (.dT (putK (ks.zip vs) k v)), rfl, DPut.t hv hb hlt, ?_⟩
                    rw [putK_zip hl]
                    exact g3 σ _ Hf3 ρ3 (Same.refl _) (List.prefix_refl _) (S3.setOb hn3 hc (.t (putV_len hl) (Dats.put hvv hd))) (((E0.mono e1 p1).mono e2 p2).mono e3 p3)
                  · exact g3.elim⟩⟩⟩
/-! ### dicts that change no more -/
def liveT (r : D) (C : Cells) : Option (Nat × List (List Key) × List D) := match r with
  | .cel n => match C[n]? with
    | some (some (.t ks ds)) => some (n, ks, ds)
    | _ => none
  | _ => none
def xFrzT (s : S D) : S D := S.bind s fun d _ C => match liveT d C with
  | some (n, ks, ds) => some (.ok (.dt ks ds) (C.set n none))
  | none => none
theorem se_frzT {e : Expr} {s : S D} (h : SE X W e s) : SE X W e (xFrzT s) := pe_imp (pe_lockP h) fun σ H Q ⟨Hf, F, ρ, env, C, S0, E0, g⟩ => ⟨Hf, F, ρ, env, C, S0, E0, (Go.bind g).mono fun x H1 ⟨Hf1, ρ1, C1, a, e1, p1, S1, A1, g1⟩ => by
  try simp only [] at g1
  cases hl : liveT a C1 with
  | none =>
    rw [hl] at g1
    exact g1.elim
  | some q =>
    obtain ⟨n, ks, ds⟩ := q
    rw [hl] at g1
    unfold liveT at hl
    split at hl
    · split at hl
      · rename_i m ks' ds' hc
        have q' := Option.some.inj hl
        simp only [Prod.mk.injEq] at q'
        obtain ⟨rfl, rfl, rfl⟩ := q'
        cases A1 with
        | @cel _ ad hn =>
          obtain ⟨vs, hv, k⟩ := S1.lockT hn hc
          refine ⟨ad, _, rfl, hv, True.intro, fun od => ?_⟩
          obtain ⟨Hf2, e2, S2, D2⟩ := k od
          exact g1 _ _ Hf2 ρ1 e2 (List.prefix_refl _) S2 D2
      · cases hl
    · cases hl⟩
end
end Sm
end
section
set_option maxRecDepth 100000
set_option maxHeartbeats 0
namespace Sm
variable [Tabs0]
open PySem L2
variable {K : PySem.W.Frag} {mg : Str → Option Value}

/-! ### d.items(), keys that are tuples -/
/-- the pairs, each a new tuple -/
def ItiT (d : Addr) (o : Obj) (kvs : List (List Key × V)) : It :=
  ⟨fun i H => H d = some (.frz o (.dT kvs)) ∧ i < kvs.length, fun i H x H' => ∃ T k v q, kvs[i]? = some (k, v) ∧ x = .ref T ∧ H T = none ∧ H q = some (.tup (k.map kV)) ∧ H' = upd H T (.tup [.ref q, v]), fun i H => H d = some (.frz o (.dT kvs)) ∧ kvs.length ≤ i⟩
def iItemsT (td : TE) : TI := fun σ H R => td σ H fun x H1 => ∃ d o kvs, x = .ref d ∧ H1 d = some (.frz o (.dT kvs)) ∧ R (ItiT d o kvs) H1
section
variable {X : Cx} {W : Wh}
/-- the pairs of a locked dict -/
def its2 (ks : List (List Key)) (ds : List D) : List D := List.zipWith (fun k d => .tup [kT k, d]) ks ds
def ditems : D → Option (List D × Gd)
  | .dt ks ds => some (its2 ks ds, gd0)
  | _ => none
def iItT (s : S D) : SW := S.bind s fun d env C => S.opt (ditems d) env C
end
end Sm
end
section
set_option maxRecDepth 100000
set_option maxHeartbeats 0
namespace Sm
variable [Tabs0]
open PySem L2
variable {K : PySem.W.Frag} {mg : Str → Option Value}

/-! ### *d.items() in a display -/
/-- new tuples at ps: the pairs of kvs -/
def Its (H2 : Hp) (ps : List V) (kvs : List (List Key × V)) : Prop := ps.length = kvs.length ∧ ∀ (j : Nat) (k : List Key) (v : V), kvs[j]? = some (k, v) → ∃ p q, ps[j]? = some (.ref p) ∧ H2 p = some (.tup [.ref q, v]) ∧ H2 q = some (.tup (k.map kV))
def tStarIt (te : TE) (t : TA) : TA := fun σ H Q => te σ H fun x H1 => ∃ d o kvs, x = .ref d ∧ H1 d = some (.frz o (.dT kvs)) ∧ ∀ H2 ps, Same H1 H2 → Its H2 ps kvs → t σ H2 fun ys H3 => Q (ps ++ ys) H3
section
variable {X : Cx} {W : Wh}
def ditl : D → Option (List D)
  | .dt ks ds => some (its2 ks ds)
  | _ => none
def aStarIt (a : S D) (r : S (List D)) : S (List D) := S.bind a fun x => S.bind (S.opt (ditl x)) fun xs => S.bind r fun ys => S.val (xs ++ ys)
end
end Sm
end
section
set_option maxRecDepth 100000
set_option maxHeartbeats 0
namespace Sm
variable [Tabs0]
open PySem PySem.Spec PyProof.Rows L2

/-! ### {k: v for .. in ..}, the keys tuples: as the kit's rule for ints and texts -/
section
variable {X : Cx}
/-- {k: v for target in iter if ..}, keys tuples: D the new dict -/
def tDcT (wi : TI) (g : TG) (tt : TT) (tk tv : TE) (vs : List Nat) : TE := fun σ H Q => wi σ H fun J H1 => ∀ D, H1 D = none → ∃ W : Nat → Nat → Hp → Prop, (∃ m, W 0 m (upd H1 D (.dT []))) ∧ ∀ i m H, W i m H →
  (J.stop i H ∧ Q (.ref D) H) ∨ (J.go i H ∧ ∃ Nx : Hp → Prop, (∀ H', Nx H' → ∃ m', m' < m ∧ W (i + 1) m' H') ∧ ∀ x H', J.yld i H x H' → g x (wipe σ vs) H' fun σ2 H2 => wipe σ2 vs = wipe σ vs ∧ tt σ2 H2 fun b H3 =>
    if b = true then tk σ2 H3 fun y H4 => tv σ2 H4 fun z H5 => ∃ kvs k b, y = .ref b ∧ H5 b = some (.tup (k.map kV)) ∧ H5 D = some (.dT kvs) ∧ kvs.length < sizeLine ∧ Nx (upd H5 D (.dT (putK kvs k z))) else Nx H3)
end
variable {K : PySem.W.Frag} {mg : Str → Option Value}
def dcs (g : Gd) (t : Tg) (c : S Bool) (kx vx : S D) : List D → List (List Key) → List D → S D
  | [], ks, ds => fun _ C => if g C = true then some (.ok (.dt ks ds) C) else none
  | d :: r, ks, ds => fun e C => if g C = true then match t.put d e with
      | none => none
      | some e1 => match c e1 C with
        | some (.ok true C1) => match kx e1 C1 with
          | some (.ok k C2) => match vx e1 C2 with
            | some (.ok v C3) => match ky (vw C3 k) with
              | some kk => dcs g t c kx vx r (addK ks kk) (putV ks ds kk v) e C3
              | none => none
            | _ => none
          | _ => none
        | some (.ok false C1) => dcs g t c kx vx r ks ds e C1
        | _ => none
    else none
def okS (s : S D) : S D := fun e C => match s e C with
  | some (.ok d C') => some (.ok d C')
  | _ => none
def xDc (it : SW) (t : Tg) (c : S Bool) (kx vx : S D) (vs : List Nat) : S D := S.bind it fun p => if p.1.length ≤ 1000000 then (fun e C => okS (dcs p.2 t c kx vx p.1 [] []) (wipeE e vs) C) else fun _ _ => none
theorem SR.outT {Hf F : Hp} {ρ : List Addr} {C : Cells} {H : Hp} {p : Addr} {ks : List (List Key)} {xs : List V} {ds : List D} (hF : F p = none) (S : SR K Hf (upd F p (.dT (ks.zip xs))) ρ C H) (hl : ks.length = xs.length) (h : Dats K Hf ρ xs ds) :
    H p = some (.dT (ks.zip xs)) ∧ ∀ od, ∃ Hf', Same Hf Hf' ∧ SR K Hf' F ρ C (upd H p (.frz od (.dT (ks.zip xs)))) ∧ Dat K Hf' ρ (.ref p) (.dt ks ds) := by
  have hf : Hf p = none := (S.ap p _ upd_same).resolve_right fun h => h
  have hH : H p = some (.dT (ks.zip xs)) := S.fr p _ upd_same
  refine ⟨hH, fun od => ?_⟩
  have e0 : Same Hf (upd Hf p (.frz od (.dT (ks.zip xs)))) := fun b u q => by
    rw [upd_ne (ne_of_none q hf)]
    exact q
  have tb : ∀ t ∈ Tabs0.T, t.1 ≠ p ∧ F t.1 = none := fun t ht => by
    have k1 := (S.tab t ht).1.2
    have ha : t.1 ≠ p := fun e => by
      rw [e, upd_same] at k1
      cases k1
    rw [upd_ne ha] at k1
    exact ⟨ha, k1⟩
  have nF : ∀ b ps, F b ≠ some (.tbl ps) := fun b ps e => by
    by_cases hb : b = p
    · rw [hb, hF] at e
      cases e
    · exact (S.nt b ps).2 (by rw [upd_ne hb]; exact e)
  refine ⟨_, e0, ⟨fun b u q => ?_, fun b u q => ?_, fun b o q => ?_, S.len, fun n a o h1 h2 => ?_, S.inj, fun t ht => ⟨⟨by rw [upd_ne (tb t ht).1]; exact (S.tab t ht).1.1, (tb t ht).2⟩, (S.tab t ht).2.mono e0 fun o h _ => by rw [upd_ne (tb t ht).1]; exact h⟩, fun b ps => ⟨fun e => by
    by_cases hb : b = p
    · rw [hb, upd_same] at e
      cases e
    · rw [upd_ne hb] at e
      exact (S.nt b ps).1 e, nF b ps⟩⟩, .dt ⟨od, upd_same⟩ hl (h.mono e0 (List.prefix_refl _))⟩
  · by_cases hb : b = p
    · subst hb
      rw [upd_same] at q ⊢
      exact q
    · rw [upd_ne hb] at q ⊢
      exact S.ex b u q
  · have hb : b ≠ p := ne_of_none q hF
    rw [upd_ne hb]
    exact S.fr b u (by rw [upd_ne hb]; exact q)
  · have hb : b ≠ p := ne_of_none q hF
    rw [upd_ne hb]
    exact S.ap b o (by rw [upd_ne hb]; exact q)
  · obtain ⟨⟨k0, k1⟩, k2⟩ := S.cel n a o h1 h2
    have ha : a ≠ p := fun e => by
      subst e
      rw [upd_same] at k1
      cases k1
    rw [upd_ne ha] at k1
    rw [upd_ne ha, upd_ne ha]
    exact ⟨⟨k0, k1⟩, k2.mono e0⟩
section
variable {X : Cx} {W : Wh}
end
end Sm
end
section
set_option maxRecDepth 100000
set_option maxHeartbeats 0
namespace Sm
variable [Tabs0]
open PySem PySem.W PySem.Calls PySem.Spec PyProof.Rows PyProof.V

section
variable {prog : Program} {w : World} {A : Around} {E : Value → Shared → Prop} {s : Shared}
/-- a dict's keys, put together -/
theorem collectK {R : List Value → Shared → Prop} {d : Addr} {es : Array DictEntry} {ep : Nat} (hh : A.handled = none) (lo : (d == sysModules) = false) (hm : s.heap.DictRaw d es ep) (hn : es.size ≤ sizeLine)
    (h : ∀ (h' : Heap) (tk : Nat) (vs : Array Value), (∀ b o, s.heap.get? b = some o → h'.get? b = some o) → s.heap.objs.size < h'.objs.size → ItemsOf (fun i v => ∃ hi : i < es.size, v = es[i].key) vs es.size → R vs.toList { s with heap := h', toks := tk }) :
    wpAny (model prog w) A (collect (.ref d)) R E s := by
  have KS := KdlSrc.rawDict (prog := prog) (w := w) (d := d) (es := es) (ep := ep) lo
  have hd : d < s.heap.objs.size := (KS.there _ hm).1
  unfold collect
  refine wpAny_bind (wpAny_runValue (codeAny_builtin entry_proto_collect' ?_))
  rw [Around.under_plainId PySem.F.plain_proto_collect _]
  show wpAny _ A.in1 (newList [] >>= fun l => again (.builtin "list.__iadd__" ⟨[l, .ref d], []⟩)) _ _ s
  refine wpAny_bind (wpAny_newObj_type ?_)
  refine wpAny_pure ⟨plainId_quiet PySem.F.plain_list_iadd _, codeAny_builtin entry_list_iadd' ?_⟩
  rw [Around.under_plainId PySem.F.plain_list_iadd _]
  have hS₁ : (s.heap.push { cls := .type "list", data := .seq ([] : List Value).toArray }).get? s.heap.objs.size = some { cls := .type "list", data := .seq #[] 0 } := Heap.get?_push_size _ rfl
  have hm1 : (s.heap.push { cls := .type "list", data := .seq ([] : List Value).toArray }).DictRaw d es ep := KS.keep _ _ hm fun b _ o e => Heap.get?_push_of_some _ e
  show wpAny _ A.in1 (Builtin.List.listExtendWith (.ref s.heap.objs.size) (.ref d) (.ref s.heap.objs.size)) _ _ _
  have key := kdl_extend (A := A) (s := { s with heap := s.heap.push { cls := .type "list", data := .seq ([] : List Value).toArray } })
    (R := fun (q : Result) (s' : Shared) => ∃ (h' : Heap) (tk : Nat) (acc' : Array Value) (c' : Nat), q = .ok (.ret (.ref s.heap.objs.size)) ∧ s' = { s with heap := h', toks := tk } ∧
      (∀ b o, s.heap.get? b = some o → h'.get? b = some o) ∧ h'.get? s.heap.objs.size = some { cls := .type "list", dict := none, data := .seq acc' c', slots := #[] } ∧ ItemsOf (fun i v => ∃ hi : i < es.size, v = es[i].key) acc' es.size)
    KS hh hm1 s.heap.objs.size (Nat.ne_of_gt hd) (Nat.ne_of_gt hd) (.ref s.heap.objs.size) 0 hS₁
    (fun h' tk acc' c' hk hS' hG => ⟨h', tk, acc', c', rfl, rfl, fun b o e => hk b o (Nat.ne_of_lt (Heap.lt_size e)) (Heap.get?_push_of_some _ e), hS', hG⟩) hn
  refine wpAny_mono key (fun fin s' x => ?_) fun e s' x => ?_
  · cases fin with
    | done f =>
      obtain ⟨h', tk, acc', c', e, rfl, hk, hS', hG⟩ := x
      cases e
      show wpAny _ A (load s.heap.objs.size >>= _) _ _ _
      refine wpAny_bind (wpAny_load hS' ?_)
      refine wpAny_pure ?_
      show R acc'.toList _
      exact h h' tk acc' hk (Heap.lt_size hS') hG
    | again c₁ =>
      refine ⟨x.1, codeAny_mono x.2 fun q s₂ y => ?_⟩
      obtain ⟨h', tk, acc', c', rfl, rfl, hk, hS', hG⟩ := y
      show wpAny _ A (load s.heap.objs.size >>= _) _ _ _
      refine wpAny_bind (wpAny_load hS' ?_)
      refine wpAny_pure ?_
      show R acc'.toList _
      exact h h' tk acc' hk (Heap.lt_size hS') hG
  · obtain ⟨_, _, _, _, e', _⟩ := x
    cases e'
/-- sorted(d) up to the sort of the keys -/
theorem sortedK {Q : Value → Shared → Prop} {d : Addr} {es : Array DictEntry} {ep : Nat} (hh : A.handled = none) (lo : (d == sysModules) = false) (hm : s.heap.DictRaw d es ep) (hn : es.size ≤ sizeLine)
    (h : ∀ (h' : Heap) (tk : Nat) (vs : List Value), (∀ b o, s.heap.get? b = some o → h'.get? b = some o) → s.heap.objs.size < h'.objs.size → vs.length = es.size → (∀ j (v : Value), vs[j]? = some v → ∃ hj : j < es.size, v = es[j].key) →
      wpAny (model prog w) A.in1 (call (.builtin "list.sort") [.ref h'.objs.size]) (fun _ s' => Q (.ref h'.objs.size) s') E { s with heap := h'.push { cls := .type "list", data := .seq vs.toArray }, toks := tk }) :
    wpAny (model prog w) A (call (.builtin "sorted") [.ref d]) Q E s := by
  refine call_function_entry kind_sorted plain_sorted entry_sorted (args_sorted1 _) ?_
  unfold Builtin.«sorted»
  refine wpAny_bind (m := checkCount "sorted" 1 1 _) (wpAny_pure ?_)
  refine wpAny_bind (collectK (A := A.in1) (es := es) (ep := ep) hh lo hm hn fun h' tk vs hk hlt hG => ?_)
  have hsz : vs.toList.length = es.size := by rw [Array.length_toList]; exact hG.1
  refine wpAny_bind (wpAny_newList ?_ (by rw [hsz]; exact hn))
  have hg := h h' tk vs.toList hk hlt hsz (fun j v e => hG.2 j v (by simpa using e))
  refine wpAny_bind (wpAny_holding (wpAny_mono hg (fun _ s' x => ?_) fun _ _ e => e))
  exact wpAny_pure ⟨_, rfl, x⟩
end
open L2
/-- rows of ints as data -/
def encI (k : List Int) : PyData := .tuple (k.map .int)
def leI : List Int → List Int → Bool := dataLe false encI
def sortR (ns : List (List Int)) : List (List Int) := ns.mergeSort leI
theorem readsI {h : Heap} : ∀ {k : List Int} {its : List Value}, Vals (k.map V.int) its → ReadsAll h its (k.map .int) []
  | [], _, .nil => .nil
  | i :: k, _, .cons r rs => by
    obtain ⟨t, rfl⟩ := r
    have := ReadsAll.cons (h := h) (.int i t) (readsI rs)
    simpa using this
theorem each_get {α β : Type} {R : α → β → Prop} : ∀ {as : List α} {bs : List β}, as.length = bs.length → (∀ (j : Nat) a b, as[j]? = some a → bs[j]? = some b → R a b) → EachIs R as bs
  | [], [], _, _ => .nil
  | [], _ :: _, h, _ => by simp at h
  | _ :: _, [], h, _ => by simp at h
  | a :: as, b :: bs, h, k => .cons (k 0 a b rfl rfl) (each_get (by simpa using h) fun j a b h1 h2 => k (j + 1) a b h1 h2)
/-- tuples of ints that stand -/
def KeyR (H : Hp) (y : V) (n : List Int) : Prop := ∃ q, y = .ref q ∧ H q = some (.tup (n.map V.int))
def KeyU (H : Hp) (u : Value) (n : List Int) : Prop := ∃ q, u = .ref q ∧ H q = some (.tup (n.map V.int))
theorem keyL {H : Hp} : ∀ {us : List Value} {ns : List (List Int)}, EachIs (KeyU H) us ns → ∃ ys, Vals ys us ∧ EachIs (KeyR H) ys ns
  | _, _, .nil => ⟨[], .nil, .nil⟩
  | _, _, .cons ⟨q, e, h⟩ t => by
    obtain ⟨ys, h1, h2⟩ := keyL t
    subst e
    exact ⟨.ref q :: ys, .cons rfl h1, .cons ⟨q, rfl, h⟩ h2⟩
def rSortD : List V → Hp → VK → Prop := fun vs H Q => ∃ (a : Addr) (kvs : List (List Key × V)) (ns : List (List Int)), vs = [.ref a] ∧ Rd H a (.dT kvs) ∧ kvs.map (·.1) = ns.map (·.map Sum.inl) ∧ (∀ n ∈ ns, n ≠ []) ∧
  ∀ (ys : List V) (p : Addr), EachIs (KeyR H) ys (sortR ns) → H p = none → Q (.ref p) (upd H p (.lst ys))
theorem kV_inl (n : List Int) : (n.map Sum.inl).map kV = n.map V.int := by
  rw [List.map_map]
  rfl
/-! ### sorted(d), the keys rows of ints -/
def kInt : Key → Option Int
  | .inl i => some i
  | .inr _ => none
def kRow : List Key → Option (List Int)
  | [] => some []
  | k :: ks => match kInt k, kRow ks with
    | some i, some r => some (i :: r)
    | _, _ => none
def rowsK : List (List Key) → Option (List (List Int))
  | [] => some []
  | k :: ks => match kRow k, rowsK ks with
    | some (i :: r), some rs => some ((i :: r) :: rs)
    | _, _ => none
def rowD (n : List Int) : D := .tup (n.map D.int)
theorem kRow_ok : ∀ {k : List Key} {n : List Int}, kRow k = some n → k = n.map Sum.inl
  | [], _, e => by cases e; rfl
  | k :: ks, n, e => by
    unfold kRow at e
    split at e
    · rename_i i r h1 h2
      cases e
      rw [kRow_ok h2]
      cases k with
      | inl j => cases h1; rfl
      | inr x => cases h1
    · cases e
def srtD : List D → Option (List D)
  | [.dt ks _] => (rowsK ks).map fun ns => (sortR ns).map rowD
  | _ => none
def xSrtD (s : S (List D)) : S (List D) := S.bind s fun ds => fun env C => S.opt (srtD (ds.map (vw C))) env C
theorem rows_dats {K : PySem.W.Frag} {F : Hp} {ρ : List Addr} {C : Cells} {H : Hp} : ∀ {ys : List V} {ns : List (List Int)} {Hf : Hp}, SR K Hf F ρ C H → EachIs (KeyR H) ys ns → ∃ Hf2, Same Hf Hf2 ∧ SR K Hf2 F ρ C H ∧ Dats K Hf2 ρ ys (ns.map rowD)
  | _, _, Hf, S0, .nil => ⟨Hf, Same.refl _, S0, .nil⟩
  | _, _, Hf, S0, .cons ⟨q, e, h⟩ t => by
    subst e
    obtain ⟨Hf1, s1, S1, t1⟩ := S0.addTup h
    obtain ⟨Hf2, s2, S2, D2⟩ := rows_dats S1 t
    exact ⟨Hf2, s1.trans s2, S2, .cons (.tup (s2 _ _ t1) (dats_ints _)) D2⟩
section
variable {X : Cx} {W : Wh}
end
theorem un1 {n : Nat} (h : n + 65 < cLine) : n + 1 < cLine := by omega
theorem un64 {n : Nat} (h : n + 65 < cLine) : n + 64 < cLine := by omega
end Sm
end
section
set_option maxRecDepth 100000
set_option maxHeartbeats 0
namespace Sm
variable [Tabs0]
open PySem PyProof.Rows L2
/-! ### dict(xs), xs a list of pairs, the keys tuples -/
def mergeT (kvs more : List (List Key × V)) : List (List Key × V) := more.foldl (fun acc kv => putK acc kv.1 kv.2) kvs
theorem KT.mergeT {H : Hp} : ∀ {more : List (List Key × V)} {rs : List (List Key × Addr × Value)} {kvs : List (List Key × V)} {xs : List (List Key × Addr × Value)}, KT H more rs → KT H kvs xs → KT H (mergeT kvs more) (storedAllH xs rs)
  | _, _, _, _, .nil, r => r
  | _, _, kvs0, xs0, .cons (a := p) (b := q) ⟨h1, h2, h3⟩ t, r => by
    obtain ⟨k, v⟩ := p
    obtain ⟨k', b, u⟩ := q
    cases (show k = k' from h1)
    have := KT.mergeT (kvs := putK kvs0 k v) (xs := storedH xs0 k b u) t (L2.KT.put r k h2 h3)
    exact this
theorem mergeT_len : ∀ (more kvs : List (List Key × V)), (mergeT kvs more).length ≤ kvs.length + more.length
  | [], kvs => Nat.le_refl _
  | p :: more, kvs => by
    have h1 := mergeT_len more (putK kvs p.1 p.2)
    have h2 := length_putK kvs p.1 p.2
    show (mergeT (putK kvs p.1 p.2) more).length ≤ _
    rw [List.length_cons]
    omega
section
variable {X : Cx}
def rDictPT (K : PySem.W.Frag) : List V → Hp → VK → Prop := fun xs H Q => ∃ (a : Addr) (ps : List Addr) (kvs : List (List Key × V)), xs = [.ref a] ∧ SqL K H a (ps.map V.ref) ∧ Paired (fun p kv => ∃ q, SqT K H p [.ref q, kv.2] ∧ H q = some (.tup (kv.1.map kV))) ps kvs ∧
    ∀ p, H p = none → Q (.ref p) (upd H p (.dT (mergeT [] kvs)))
end
def mrg {α : Type} (ks : List (List Key)) (xs : List α) : List (List Key × α) → List (List Key) × List α
  | [] => (ks, xs)
  | p :: l => mrg (addK ks p.1) (putV ks xs p.1 p.2) l
theorem mergeT_zip : ∀ (l : List (List Key × V)) {ks : List (List Key)} {xs : List V}, ks.length = xs.length → mergeT (ks.zip xs) l = (mrg ks xs l).1.zip (mrg ks xs l).2 ∧ (mrg ks xs l).1.length = (mrg ks xs l).2.length
  | [], ks, xs, h => ⟨rfl, h⟩
  | p :: l, ks, xs, h => by
    have := mergeT_zip l (putV_len (k := p.1) (v := p.2) h)
    show mergeT (putK (ks.zip xs) p.1 p.2) l = (mrg (addK ks p.1) (putV ks xs p.1 p.2) l).1.zip (mrg (addK ks p.1) (putV ks xs p.1 p.2) l).2 ∧ (mrg (addK ks p.1) (putV ks xs p.1 p.2) l).1.length = (mrg (addK ks p.1) (putV ks xs p.1 p.2) l).2.length
    rw [putK_zip h]
    exact this
theorem mrg_dats {K : PySem.W.Frag} {H : Hp} {ρ : List Addr} : ∀ {l : List (List Key × V)} {l' : List (List Key × D)} {ks : List (List Key)} {xs : List V} {ds : List D}, l.map (·.1) = l'.map (·.1) → Dats K H ρ (l.map (·.2)) (l'.map (·.2)) → Dats K H ρ xs ds →
    (mrg ks xs l).1 = (mrg ks ds l').1 ∧ Dats K H ρ (mrg ks xs l).2 (mrg ks ds l').2
  | [], [], _, _, _, _, _, h => ⟨rfl, h⟩
  | [], _ :: _, _, _, _, e, _, _ => by simp at e
  | _ :: _, [], _, _, _, e, _, _ => by simp at e
  | (k, v) :: l, (k', d) :: l', ks, xs, ds, e, hv, h => by
    rw [List.map_cons, List.map_cons, List.cons.injEq] at e
    have e1 : k = k' := e.1
    subst e1
    cases hv with
    | cons h1 hs => exact mrg_dats (ks := addK ks k) e.2 hs (Dats.put h1 h)
def dpairs : List D → Option (List (List Key × D))
  | [] => some []
  | .tup [k, v] :: r => match ky k, dpairs r with
    | some kk, some l => some ((kk, v) :: l)
    | _, _ => none
  | _ => none
def dictP : List D → Option (List (List Key) × List D)
  | [.lst items] => (dpairs items).map (mrg [] [])
  | _ => none
def xDictP (s : S (List D)) : S D := S.bind s fun ds => fun env C => S.opt ((dictP (ds.map (vw C))).map fun p => D.dt p.1 p.2) env C
def xDictPC (s : S (List D)) : S D := S.bind s fun ds => fun _ C => match dictP (ds.map (vw C)) with
  | some p => if nocels p.2 = true then some (.ok (.cel C.length) (C ++ [some (.t p.1 p.2)])) else none
  | none => none
section
variable {X : Cx} {W : Wh}
end
end Sm
end
section
set_option maxRecDepth 100000
set_option maxHeartbeats 0
namespace Sm
variable [Tabs0]
open PySem PySem.W PySem.Calls PySem.Spec PyProof.Rows PyProof.V
/-! ### dict(d), the keys rows of ints whose hashes are apart -/
section
variable {prog : Program} {w : World} {A : Around} {E : Value → Shared → Prop} {s : Shared} {K : Type} [DecidableEq K] {knd : HeapKind prog w K}
theorem call_dictH {o : Addr} {more : List (K × Addr × Value)} {Q : Value → Shared → Prop} (hu : knd.room A.in1.in1) (hoS : (o == sysModules) = false) (ho : s.heap.DictOfH knd o more) (hst : knd.Stays)
    (hap : (more.map fun x => knd.hash x.1).Nodup) (hsz : more.length ≤ sizeLine)
    (h : ∀ h', h'.DictOfH knd s.heap.objs.size more → (∀ b o, s.heap.get? b = some o → h'.get? b = some o) → Q (.ref s.heap.objs.size) { s with heap := h' }) :
    wpAny (model prog w) A (call (.type "dict") [.ref o]) Q E s := by
  refine callType_codes (Q₁ := fun obj s₁ => obj = .ref s.heap.objs.size ∧ s₁ = { s with heap := s.heap.push { cls := .type "dict", data := .dict #[] } }) F.kt_called_dict (F.kt_typeCall_dict_1 _) F.entry_dict_init (kt_code_dict_new _ ⟨rfl, rfl⟩) ?_
  rintro obj s₁ ⟨rfl, rfl⟩
  have hkeep : ∀ b x, s.heap.get? b = some x → (s.heap.push { cls := .type "dict", data := .dict #[] }).get? b = some x := fun b x e => Heap.get?_push_of_some _ e
  have hnew : (s.heap.push { cls := .type "dict", data := .dict #[] }).DictOfH knd s.heap.objs.size [] := Heap.DictOfH.new s.heap
  have his : ∀ y ∈ more, knd.is s.heap y.1 y.2.1 := let ⟨_, _, _, _, _, _, _, his, _⟩ := ho; his
  have ho' : (s.heap.push { cls := .type "dict", data := .dict #[] }).DictOfH knd o more := ho.at' (fun x e => hkeep _ _ e) fun y hy => hst.stays (fun b x vs n e _ => hkeep b x e) (his y hy)
  have hn : (more.map (·.1)).Nodup := ho.nodup
  have hdo : s.heap.objs.size ≠ o := fun e => absurd ho.lt_size (by rw [e]; exact Nat.lt_irrefl _)
  refine ⟨hnew.typeIs, F.args_dict_init_2 _ _, ?_⟩
  unfold Builtin.«dict.__init__»
  refine wpAny_bind ?_
  unfold Builtin.Dict.selfAndRest
  refine wpAny_bind (wpAny_notOrdered_dict hnew.typeIs ?_)
  show wpAny _ _ (pure (s.heap.objs.size, [Value.ref o])) _ _ _
  refine wpAny_pure ?_
  show wpAny _ _ (Builtin.Dict.updateFrom "dict.__init__" s.heap.objs.size (.ref o) [] .none) _ _ _
  refine updateFrom_dictH (A := A.in1) (knd := knd) (kvs := []) .none hu hdo hoS hnew ho' (.inr ⟨fun x hx => hst.tuple (s := { s with heap := s.heap.push { cls := .type "dict", data := .dict #[] } }) (hst.stays (fun b x vs n e _ => hkeep b x e) (his x hx)), hap⟩) (by simpa using hsz) fun h' hd' _ hs' => ?_
  rw [storedAllH_nil_of_nodup more hn] at hd'
  exact ⟨rfl, h h' hd' fun b x e => (hs'.2 b (Nat.ne_of_lt (Heap.lt_size e))).trans (hkeep b x e)⟩
end
open L2
def hashR (n : List Int) : Int := reduceHash (Builtin.Tuple.tupleHashOf (n.map hashInt))
theorem hash_inl {P : Program} {w : World} (n : List Int) : (tupleKind (mixKind P w)).hash (n.map Sum.inl) = hashR n := by
  show reduceHash (Builtin.Tuple.tupleHashOf ((n.map Sum.inl).map (keyH w))) = _
  rw [List.map_map]
  rfl
def rDictDT : List V → Hp → VK → Prop := fun xs H Q => ∃ (a : Addr) (kvs : List (List Key × V)) (ns : List (List Int)), xs = [.ref a] ∧ Rd H a (.dT kvs) ∧ kvs.map (·.1) = ns.map (·.map Sum.inl) ∧ (ns.map hashR).Nodup ∧ ∀ p, H p = none → Q (.ref p) (upd H p (.dT kvs))
theorem call_dictDT {X : Cx} (hu : X.A.units + 65 < cLine) : CallR X (.type "dict") rDictDT := by
  intro pins s σ H xs us Q I r q
  obtain ⟨a, kvs, ns, ex, hd, hk, hn, q⟩ := q
  subst ex
  obtain rfl := Vals.ref1 r
  obtain ⟨z, lo, prs, rel, dd⟩ := dt_rd I.hok hd
  have hlen : kvs.length = prs.length := Paired.length rel
  have hkeys : ∀ {l : List (List Key × V)} {m : List (List Key × Addr × Value)}, KT H l m → l.map (·.1) = m.map (·.1) := fun {l m} h => by
    induction h with
    | nil => rfl
    | cons h _ ih => rw [List.map_cons, List.map_cons, h.1, ih]
  have hap : (prs.map fun x => (tupleKind (mixKind X.prog X.w)).hash x.1).Nodup := by
    have e : prs.map (fun x => (tupleKind (mixKind X.prog X.w)).hash x.1) = ns.map hashR := by
      have e1 : prs.map (fun x => (tupleKind (mixKind X.prog X.w)).hash x.1) = (prs.map (·.1)).map (tupleKind (mixKind X.prog X.w)).hash := by rw [List.map_map]; rfl
      rw [e1, ← hkeys rel, hk, List.map_map]
      apply List.map_congr_left
      intro n _
      exact hash_inl n
    rw [e]
    exact hn
  refine call_dictH (knd := tupleKind (mixKind X.prog X.w)) (show X.A.units + 1 + 1 < cLine by omega) lo dd tupleKind_stays hap (by omega) fun h' d' hk' => ?_
  have hm : (s.heap.objs.size == sysModules) = false := beq_eq_false_iff_ne.mpr (Nat.ne_of_gt I.big)
  obtain ⟨o2, es, ep, h1, h2, h3, h4, _, h5⟩ := d'
  have hfree := I.hok.fresh (Nat.le_refl s.heap.objs.size)
  refine ⟨.ref s.heap.objs.size, upd H s.heap.objs.size (.dT kvs), I.laid (t' := s.toks) hk' (Nat.le_refl _) ⟨z, hm, prs, rel.keeps fun c ys ec => ?_, o2, es, ep, h1, h2, h3, h4, h5⟩, rfl, q _ hfree⟩
  rw [upd_ne (ne_of_none ec hfree)]
  exact ec
/-! as data, as a changing dict -/
def apart : List Int → Bool
  | [] => true
  | x :: l => !(l.any fun y => y == x) && apart l
theorem apart_ok : ∀ {l : List Int}, apart l = true → l.Nodup
  | [], _ => List.nodup_nil
  | x :: l, h => by
    unfold apart at h
    rw [Bool.and_eq_true] at h
    rw [List.nodup_cons]
    refine ⟨fun hm => ?_, apart_ok h.2⟩
    have : (l.any fun y => y == x) = true := List.any_eq_true.mpr ⟨x, hm, by simp⟩
    rw [this] at h
    exact absurd h.1 (by simp)
theorem apart_of : ∀ {l : List Int}, l.Nodup → apart l = true
  | [], _ => rfl
  | x :: l, h => by
    rw [List.nodup_cons] at h
    unfold apart
    rw [apart_of h.2, Bool.and_true]
    cases q : l.any fun y => y == x with
    | false => rfl
    | true =>
      obtain ⟨y, hy, e⟩ := List.any_eq_true.mp q
      have : y = x := by simpa using e
      subst this
      exact absurd hy h.1
def dictD : List D → Option (List (List Key) × List D)
  | [.dt ks ds] => (rowsK ks).bind fun ns => if apart (ns.map hashR) = true then some (ks, ds) else none
  | _ => none
def xDictD (s : S (List D)) : S D := S.bind s fun ds => fun env C => S.opt ((dictD (ds.map (vw C))).map fun p => D.dt p.1 p.2) env C
def xDictDC (s : S (List D)) : S D := S.bind s fun ds => fun _ C => match dictD (ds.map (vw C)) with
  | some p => if nocels p.2 = true then some (.ok (.cel C.length) (C ++ [some (.t p.1 p.2)])) else none
  | none => none
section
variable {X : Cx} {W : Wh}
end
end Sm
end
section
set_option maxRecDepth 100000
set_option maxHeartbeats 0
namespace Sm
variable [Tabs0]
open PySem PySem.W PySem.Calls PySem.Spec PyProof.Rows PyProof.V
/-! ### == of dicts with tuple keys -/
section
variable {prog : Program} {w : World} {K : Type} [DecidableEq K] {knd : HeapKind prog w K} {A : Around} {E : Value → Shared → Prop} {s : Shared}
inductive HitsH {K : Type} [DecidableEq K] (A : Around) (s : Shared) (kb : List (K × Addr × Value)) : List (K × Addr × Value) → Bool → Prop
  | nil : HitsH A s kb [] true
  | miss {k : K} {z : Addr} {v : Value} {r : List (K × Addr × Value)} : atKey kb k = none → HitsH A s kb ((k, z, v) :: r) false
  | hit {k : K} {z : Addr} {v : Value} {y : Addr × Value} {r : List (K × Addr × Value)} {e b : Bool} : atKey kb k = some y → SeqAt.EqAt A s v y.2 e → HitsH A s kb r b → HitsH A s kb ((k, z, v) :: r) (e && b)
end
open L2
/-! with ints as values -/
def intV : V → Option Int
  | .int i => some i
  | _ => none
def eqV1 (ls : List (List Key × V)) (p : List Key × V) : Bool := match valV ls p.1 with
  | some y => decide (intV y = intV p.2)
  | none => false
def intsV (ls : List (List Key × V)) : Prop := ∀ p ∈ ls, ∃ i, p.2 = .int i
def rEqT : R2 := fun x y H Q => ∃ a b ks ls, x = .ref a ∧ y = .ref b ∧ Rd H a (.dT ks) ∧ Rd H b (.dT ls) ∧ intsV ks ∧ intsV ls ∧ Q (.bl (ks.length == ls.length && ks.all (eqV1 ls))) H
def rNeT : R2 := fun x y H Q => ∃ a b ks ls, x = .ref a ∧ y = .ref b ∧ Rd H a (.dT ks) ∧ Rd H b (.dT ls) ∧ intsV ks ∧ intsV ls ∧ Q (.bl (!(ks.length == ls.length && ks.all (eqV1 ls)))) H
/-! as data -/
def dInts : List D → Bool
  | [] => true
  | .int _ :: ds => dInts ds
  | _ => false
def eqT (ks : List (List Key)) (ds : List D) (ls : List (List Key)) (es : List D) : Bool := ks.length == ls.length && (ks.zip ds).all fun p => match dVal ls es p.1, p.2 with
  | some (.int j), .int i => decide (j = i)
  | _, _ => false
def dEqT : D → D → Option D
  | .dt ks ds, .dt ls es => if dInts ds = true ∧ dInts es = true then some (.bl (eqT ks ds ls es)) else none
  | _, _ => none
def dNeT : D → D → Option D
  | .dt ks ds, .dt ls es => if dInts ds = true ∧ dInts es = true then some (.bl (!eqT ks ds ls es)) else none
  | _, _ => none
variable {K : PySem.W.Frag}
end Sm
end
section
set_option maxRecDepth 100000
set_option maxHeartbeats 0
namespace Sm
variable [Tabs0]
open PySem L2
/-! ### list(d) of a dict with tuple keys -/
def lsT : List D → Option (List D)
  | [.dt ks _] => some (ks.map kT)
  | _ => none
def xLsT (s : S (List D)) : S (List D) := S.bind s fun ds => fun env C => S.opt (lsT (ds.map (vw C))) env C
section
variable {X : Cx} {W : Wh}
/-! ### a dict in a told list is locked -/
theorem ps_lock {st : Stmt} {t : TS} (h : PS X st t) : PS X st (fun D σ H => ∃ d u, H d = some u ∧ Mut (some u) ∧ ∀ od, t D σ (upd H d (.frz od u))) := by
  refine ⟨fun pins s σ H D I hw => ?_⟩
  obtain ⟨d, u, hd, mu, q⟩ := hw
  obtain ⟨od, I2⟩ := I.lock hd mu
  exact h.run pins s σ _ D I2 (q od)
def xLockE (i j : Nat) : SS := fun e C => match e[i]? with
  | some (some (.lst ds)) => match ds[j]? with
    | some (.cel n) => match C[n]? with
      | some (some (.t ks es)) => some (.nx (e.set i (some (.lst (ds.set j (.dt ks es))))) (C.set n none))
      | _ => none
    | _ => none
  | _ => none
theorem set_same {α : Type} : ∀ {l : List α} {i : Nat} {x : α}, l[i]? = some x → l.set i x = l
  | _ :: _, 0, x, h => by cases h; rfl
  | a :: l, i + 1, x, h => by
    have := set_same (l := l) (i := i) (x := x) (by simpa using h)
    rw [List.set_cons_succ, this]
  | [], i, x, h => by simp at h
end
end Sm
end
section
set_option maxRecDepth 100000
set_option maxHeartbeats 0
namespace Sm
open PySem PySem.Spec PyProof.Rows L2 LamX

/-! ### the end of a law: tables of code objects, no text of an object under way -/
section
variable {P : Program} {w : World} {K : PySem.W.Frag} {mg mb : Str → Option Value} {k : Nat} {fa a : Addr} {cs : List (Addr × Addr)} {fd : FuncData} {x : Str} {sp : Sp} {z : Shared} {vs : List Value} {ns : List Int}
abbrev emTab : Obj := { cls := .none, data := .fields #[] }
abbrev scrO (vs : List Value) : Obj := { cls := .type "list", data := .seq vs.toArray }
/-- what is tracked at the law's call: the tables, and the script unless the object knows it -/
noncomputable def trkH (K : PySem.W.Frag) (ts : List Addr) (a : Addr) (vs : List Value) (ns : List Int) : Hp := fun b =>
  if b ∈ ts then some (.tbl #[]) else if b = a ∧ K.lookup a = none then some (.frz (scrO vs) (.lst (ns.map V.int))) else none
theorem trkH_tab {ts : List Addr} {b : Addr} (h : b ∈ ts) : trkH K ts a vs ns b = some (.tbl #[]) := if_pos h
theorem trkH_cases {ts : List Addr} {b : Addr} {u : HO} (h : trkH K ts a vs ns b = some u) : (b ∈ ts ∧ u = .tbl #[]) ∨ (b ∉ ts ∧ b = a ∧ K.lookup a = none ∧ u = .frz (scrO vs) (.lst (ns.map V.int))) := by
  unfold trkH at h
  split at h
  · rename_i hb
    exact .inl ⟨hb, (Option.some.inj h).symm⟩
  · rename_i hb
    split at h
    · rename_i hc
      exact .inr ⟨hb, hc.1, hc.2, (Option.some.inj h).symm⟩
    · cases h
theorem law_run (KX : K.In z.heap) (gl : z.heap.Ns mainGlobals mg) (bl : z.heap.Ns builtinsNs mb) (bb : ∀ y : Str, y ≠ "__name__" → mb y = bootBuiltins y) (lim : z.heap.NoLimit) (ng : z.gens = #[])
    (tE : ∀ p ∈ cs, z.heap.get? p.2 = some emTab) (tN : ∀ p ∈ cs, K.lookup p.2 = none) (tC : ∀ p ∈ cs, PySem.W.CodeHd z.heap p.1 p.2)
    (bm : ∃ (m : Addr) (o : Obj), mg "__builtins__" = some (.ref m) ∧ m ≠ builtinsNs ∧ z.heap.get? m = some o ∧ o.cls = .type "module" ∧ o.dict = some builtinsNs ∧ o.data = .plain)
    (sc : z.heap.get? a = some (scrO vs)) (iv : IntsAre vs ns) (few : ns.length ≤ sizeLine) (rm : Room k callerA)
    (F : ∀ base : Heap, K.In base → base.Ns mainGlobals mg → (∀ p ∈ cs, TabB base mg p.1 p.2) → FnG P w K mg base k fa fd [x] sp) (bi : ∀ (s : Shared) (u : Value), BindsTo s fd ⟨[u], []⟩ [(x, u)])
    (law : ∀ H : Hp, (∀ p ∈ cs, H p.2 = some (.tbl #[])) → SqL K H a (ns.map V.int) → sp [.ref a] H (fun v _ => v = .bl true) fun _ _ _ => False) :
    codeAny (model P w) callerA (.call (.ref fa) ⟨[.ref a], []⟩) (fun r s' => r = .ok (.ret (.bool true)) ∧ OldK z.heap s'.heap ∧ s'.os = z.os ∧ AllBare s'.gens) z := by
  have vl := vals_ints iv
  have vlen := iv.length
  have tmem : ∀ {b : Addr}, b ∈ cs.map (·.2) → ∃ p ∈ cs, p.2 = b := fun h => List.mem_map.mp h
  have tat : ∀ {b : Addr}, b ∈ cs.map (·.2) → z.heap.get? b = some emTab := fun h => by
    obtain ⟨p, hp, rfl⟩ := tmem h
    exact tE p hp
  have ant : a ∉ cs.map (·.2) := fun h => by
    have q := (tat h).symm.trans sc
    have q2 := congrArg Obj.data (Option.some.inj q)
    cases q2
  have cases_ := @trkH_cases K a vs ns (cs.map (·.2))
  have tab_ : ∀ p ∈ cs, trkH K (cs.map (·.2)) a vs ns p.2 = some (.tbl #[]) := fun p hp => trkH_tab (List.mem_map.mpr ⟨p, hp, rfl⟩)
  have seen : SqL K (trkH K (cs.map (·.2)) a vs ns) a (ns.map V.int) := by
    cases hk : K.lookup a with
    | none => exact .inl (.inr ⟨_, by unfold trkH; rw [if_neg ant, if_pos ⟨rfl, hk⟩]⟩)
    | some o =>
      have e := (KX a o hk).symm.trans sc
      cases e
      exact .inr ⟨_, vs.toArray, _, hk, rfl, rfl, rfl, by rw [List.size_toArray, vlen]; exact few, by simpa using vl⟩
  generalize trkH K (cs.map (·.2)) a vs ns = H at cases_ tab_ seen
  have held : HOk P w H z.heap := fun b u e => by
    rcases cases_ e with ⟨hb, rfl⟩ | ⟨_, rfl, _, rfl⟩
    · exact tat hb
    · exact ⟨sc, by rw [List.length_map]; exact few, vs, _, vl, sc⟩
  -- what is neither the script nor a table is not tracked
  have free : ∀ {b : Addr} {o : Obj}, z.heap.get? b = some o → (∀ us n, o.data ≠ .seq us n) → o.data ≠ .fields #[] → H b = none := fun {b o} e h1 h2 => by
    cases q : H b with
    | none => rfl
    | some u =>
      rcases cases_ q with ⟨hb, _⟩ | ⟨_, rfl, _, _⟩
      · have e2 := (tat hb).symm.trans e
        cases e2
        exact absurd rfl h2
      · have e2 := sc.symm.trans e
        cases e2
        exact absurd rfl (h1 _ _)
  have hid : ∀ {b : Addr} {o : Obj}, z.heap.get? b = some o → (∀ us n, o.data ≠ .seq us n) → o.data ≠ .fields #[] → (hidT z.heap H).get? b = some o := fun e h1 h2 => hidT_get e (free e h1 h2)
  have ns_ : ∀ {b : Addr} {m : Str → Option Value}, z.heap.Ns b m → (hidT z.heap H).Ns b m := fun {b m} ⟨o, es, ep, e, d, r⟩ => ⟨o, es, ep, hid e (fun us n q => by rw [d] at q; cases q) (fun q => by rw [d] at q; cases q), d, r⟩
  have KB : K.In (hidT z.heap H) := fun b o e => hidT_get (KX b o e) (by
    cases q : H b with
    | none => rfl
    | some u =>
      rcases cases_ q with ⟨hb, _⟩ | ⟨_, rfl, hk, _⟩
      · obtain ⟨p, hp, rfl⟩ := tmem hb
        rw [tN p hp] at e
        cases e
      · rw [hk] at e
        cases e)
  have M : L2.Mod K mg (hidT z.heap H) := ⟨KB, ns_ gl, ⟨mb, ns_ bl, bb⟩, by
    obtain ⟨mc, l1, l2⟩ := lim
    exact ⟨mc, ns_ l1, l2⟩⟩
  have TB : ∀ p ∈ cs, TabB (hidT z.heap H) mg p.1 p.2 := fun p hp => by
    have pe := tE p hp
    refine ⟨?_, ?_, fun q => ?_⟩
    · obtain ⟨o, us, file, tf, flags, tg, inF, text, tt, e1, r1, r2, r3, r4, r5, r6, r7, r8, r9⟩ := tC p hp
      exact ⟨o, us, file, tf, flags, tg, inF, text, tt, hid e1 (fun us n q => by rw [r2] at q; cases q) (fun q => by rw [r2] at q; cases q; simp at r3), r1, r2, r3, r4, r5, r6, r7, r8, r9⟩
    · obtain ⟨m, o, c1, c2, c3, c4, c5, c6⟩ := bm
      refine ⟨m, o, c1, c2, fun q => ?_, fun q => ?_, hid c3 (fun us n q => by rw [c6] at q; cases q) (fun q => by rw [c6] at q; cases q), c4, c5, c6⟩
      · obtain ⟨og, es, ep, e, d, _⟩ := gl
        rw [q, e] at c3
        cases c3
        rw [d] at c6
        cases c6
      · rw [q, pe] at c3
        cases c3
        cases c6
    · obtain ⟨og, es, ep, e, d, _⟩ := gl
      rw [q, pe] at e
      cases e
      cases d
  have e0 : Env0 P w K mg (hidT z.heap H) callerA [] z H := ⟨rfl, M, fun b o e => of_hidT e, Nat.le_of_eq (hidT_size _ _), trivial, fun b hb => (nomatch (show b ∈ ([] : List Addr) from hb)), held, .of_eq ng⟩
  have run := (F _ KB (ns_ gl) TB).go callerA [] z H ⟨[.ref a], []⟩ [.ref a] [.ref a] (fun v _ => v = .bl true) (fun _ _ _ => False) rfl rm e0 (bi z (.ref a)) (.cons rfl .nil) (law H tab_ seen)
  refine codeAny_mono run fun r s' q => ?_
  match r, q with
  | .error e, q => exact (cx_none H z e s' q).elim
  | .ok .next, q => exact q.elim
  | .ok .brk, q => exact q.elim
  | .ok .cont, q => exact q.elim
  | .ok (.ret u), q =>
    obtain ⟨v, H', os, bare, un, held', rv, qv⟩ := q
    have qv' : v = .bl true := qv
    subst qv'
    obtain rfl : u = Value.bool true := rv
    have stay : ∀ b o, b ∉ cs.map (·.2) → z.heap.get? b = some o → s'.heap.get? b = some o := fun b o nb e => by
      cases q : H b with
      | none => exact un.keep b o e q (fun h => (nomatch (show b ∈ ([] : List Addr) from h))) (fun h => (nomatch h))
      | some u =>
        rcases cases_ q with ⟨hb, _⟩ | ⟨_, _, _, rfl⟩
        · exact absurd hb nb
        · have f1 := (held b _ q).1
          rw [e] at f1
          cases f1
          exact (held' b _ (un.frzs b _ _ q)).1
    have tabs : ∀ p ∈ cs, ∃ us : Array Value, s'.heap.get? p.2 = some { cls := .none, data := .fields us } := fun p hp => by
      obtain ⟨us, e⟩ := un.tbls p.2 #[] (tab_ p hp)
      exact ⟨_, held' p.2 _ e⟩
    refine ⟨rfl, ⟨fun b o e => ?_, fun b o e => ?_⟩, os, bare⟩
    · by_cases hb : b ∈ cs.map (·.2)
      · obtain ⟨p, hp, rfl⟩ := tmem hb
        obtain ⟨us, hu⟩ := tabs p hp
        rw [tE p hp] at e
        cases e
        exact .inr (.inl ⟨((tC p hp).tab (tE p hp)).isCodeTable, rfl, #[], us, rfl, by simpa using hu⟩)
      · exact .inl (stay b o hb e)
    · by_cases hb : b ∈ cs.map (·.2)
      · obtain ⟨p, hp, rfl⟩ := tmem hb
        exact ⟨_, (tabs p hp).choose_spec⟩
      · exact ⟨o, stay b o hb e⟩
end
/-- what is known at the head's heap of a law -/
def LawG (P : Program) (w : World) (K : PySem.W.Frag) (k n : Nat) (x : Str) (mg : Str → Option Value) (fa : Addr) (h : Heap) : Prop :=
  ∃ (fd : FuncData) (cs : List (Addr × Addr)) (sp : Sp), (∀ p ∈ cs, h.get? p.2 = some emTab ∧ K.lookup p.2 = none ∧ PySem.W.CodeHd h p.1 p.2) ∧ (∀ (s : Shared) (u : Value), BindsTo s fd ⟨[u], []⟩ [(x, u)]) ∧
    (∀ (H : Hp) (a : Addr) (ns : List Int), ns.length ≤ n → (∀ p ∈ cs, H p.2 = some (.tbl #[])) → SqL K H a (ns.map V.int) → sp [.ref a] H (fun v _ => v = .bl true) fun _ _ _ => False) ∧
    ∀ base : Heap, K.In base → base.Ns mainGlobals mg → (∀ p ∈ cs, TabB base mg p.1 p.2) → FnG P w K mg base k fa fd [x] sp
theorem walk_G {l : PySem.W.OpenLaw} {n k : Nat} {q : Program} {loose : List Str} {XP : (Str → Option Value) → Heap → Prop} {YP : World → Heap → Prop} {d : DefRec} {K : Params → PySem.W.Frag} {x : Str} (hn : l.most = some n) (hn2 : n ≤ sizeLine) (hdf : d.params.defaults = []) (rm : Room k callerA)
    (hY : ∀ (w : World) (h : Heap), YP w h → (K w.params).In h)
    (F : ∀ (w : World) (mg : Str → Option Value) (fa : Addr) (h : Heap), (K w.params).In h → h.Ns mainGlobals mg → mg d.name = some (.ref fa) →
      (∀ (y : Str) (dr : DefRec) (c t : Addr), (recsOf q).find? (fun e => e.name == y) = some dr → PySem.W.tabIn (K w.params) y = some (c, t) → PySem.W.CodeHd h c t ∧ h.get? t = some emTab) → LawG l.prog w (K w.params) k n x mg fa h) :
    PySem.W.WalkO q loose XP YP l.row.toRowW d [] (fun f vs => PySem.call f vs) := by
  refine Att.attach_callB hn hdf fun w s₀ z mg mb fa o pm cd doc a vs ns G Y ho hd hcd hmg hobj hints hlen hbits hg => ?_
  have KX := hY w _ Y
  obtain ⟨fd, cs, sp, h1, h2, h3, h4⟩ := F w mg fa _ KX G.T.g hmg fun y dr c t e1 e2 => PySem.W.tab_of G.T KX e1 e2
  exact law_run KX G.T.g G.T.b G.T.builtins G.T.nolimit hg (fun p hp => (h1 p hp).1) (fun p hp => (h1 p hp).2.1) (fun p hp => (h1 p hp).2.2) G.T.bmain hobj hints (Nat.le_trans hlen hn2) rm h4 h2 fun H hH hS => h3 H a ns hlen hH hS
end Sm
end
section
set_option maxRecDepth 100000
set_option maxHeartbeats 0
/-! lambdas without parameters, handed to a def that tries them -/
namespace Sm
open PySem PySem.Spec PyProof.Rows L2 LamX

/-! ### tables of code objects go on -/
/-! ### x(), where x holds the lambda -/
abbrev earX (X : Cx) (N : List Str) (y : Str) (sc : Scope) (g : Addr) (cd : Value) (s : Shared) (H : Hp) : Cx := cxOf (L2.CX X.prog X.w) X.prog X.w X.K X.mg X.base N y sc g cd X.A X.stack s H (fun _ _ _ => False)
section
variable {X : Cx} {pins : List (Addr × Obj)} {σ : L2.St} {H : Hp} {s : Shared} {N : List Str} {y : Str} {sc : Scope} {g : Addr} {cd : Value}
end

/-! ### try with clauses of both kinds, which all return -/
abbrev Suite := Addr → Value → Option Addr → TS
def wMix (K : PySem.W.Frag) (D : Ends) : List (Value × Option Nat × Suite) → WX
  | [] => fun _ _ _ _ => False
  | (c, io, ts) :: r => fun cls d σ H => ∃ b, PySem.W.exmOne K cls c = some b ∧ (b = true → ∀ a, H a = none → ts a cls d { nx := fun _ _ => False, rt := D.rt } (match io with
      | none => σ
      | some i => σ.set i (some (.ref a))) H) ∧ (b = false → wMix K D r cls d σ H)
inductive Cl2 (X : Cx) : List ExceptHandler → List (Value × Option Nat × Suite) → Prop
  | nil : Cl2 X [] []
  | bare {x : Str} {c : Value} {ts : Suite} {b : Stmt} {bs : List Stmt} {np p : Pos} {hs : List ExceptHandler} {l : List (Value × Option Nat × Suite)} (hc : Names X x c)
      (hu : ∀ (a : Addr) (oe : Obj) (cls : Value) (d : Option Addr) (pn : List (Addr × Obj)), Zc cls d oe → (∃ vs, oe.data = .fields vs) → PSs (X.suite a ((a, oe) :: pn)) (b :: bs) (ts a cls d)) (r : Cl2 X hs l) : Cl2 X (.ExceptHandler (some (.Name x np)) none (b :: bs) p :: hs) ((c, none, ts) :: l)
  | kept {x n : Str} {i : Nat} {c : Value} {ts : Suite} {b : Stmt} {bs : List Stmt} {np p : Pos} {hs : List ExceptHandler} {l : List (Value × Option Nat × Suite)} (hc : Names X x c) (hi : X.N[i]? = some n) (hl : X.env.kindOf n = some .local)
      (hu : ∀ (a : Addr) (oe : Obj) (cls : Value) (d : Option Addr) (pn : List (Addr × Obj)), Zc cls d oe → (∃ vs, oe.data = .fields vs) → PSs (X.suite a ((a, oe) :: pn)) (b :: bs) (ts a cls d)) (r : Cl2 X hs l) : Cl2 X (.ExceptHandler (some (.Name x np)) (some n) (b :: bs) p :: hs) ((c, some i, ts) :: l)
end Sm
end
section
set_option maxRecDepth 100000
set_option maxHeartbeats 0
namespace Sm
open PySem PySem.Spec PyProof.Rows L2 LamX

/-! ### a def that tries a lambda: which clause hears an error -/
abbrev Hrs := List (Tb × Option Nat × SS)
def ear0 (n : Nat) : Env := List.replicate n none
def earE (n : Nat) (io : Option Nat) (c : Str) (p : Option (Str × D)) : Option Env := match io with
  | none => some (ear0 n)
  | some i => match p with
    | some (f, d) => if i < n then some ((ear0 n).set i (some (.err c f d))) else none
    | none => none
def hearX (n : Nat) : Hrs → Str → Option (Str × D) → Cells → Option (R D)
  | [], _, _, _ => none
  | (tb, io, s) :: r, c, p, C => match tb.lookup c with
    | none => none
    | some false => hearX n r c p C
    | some true => match earE n io c p with
      | none => none
      | some e => match s e C with
        | some (.ret d C2) => some (.ok d C2)
        | _ => none
def xEar (n : Nat) (hr : Hrs) (fine s : S D) : S D := fun env C => match s env C with
  | none => none
  | some (.ok _ C1) => match fine (ear0 n) C1 with
    | some (.ok d C2) => some (.ok d C2)
    | _ => none
  | some (.ex c p C1) => hearX n hr c p C1

section
variable [Tabs0]
inductive Hears (X : Cx) : List ExceptHandler → Hrs → Prop
  | nil : Hears X [] []
  | bare {x : Str} {c : Value} {tb : Tb} {s : SS} {b : Stmt} {bs : List Stmt} {np p : Pos} {hs : List ExceptHandler} {l : Hrs} (hc : Names X x c) (ct : Catch X.K X.mg c tb)
      (hu : ∀ (a : Addr) (oe : Obj) (cls : Value) (d : Option Addr) (pn : List (Addr × Obj)), Zc cls d oe → (∃ vs, oe.data = .fields vs) → SCs (X.suite a ((a, oe) :: pn)) ⟨fun _ _ _ _ => False, none⟩ (b :: bs) s) (r : Hears X hs l) : Hears X (.ExceptHandler (some (.Name x np)) none (b :: bs) p :: hs) ((tb, none, s) :: l)
  | kept {x n : Str} {i : Nat} {c : Value} {tb : Tb} {s : SS} {b : Stmt} {bs : List Stmt} {np p : Pos} {hs : List ExceptHandler} {l : Hrs} (hc : Names X x c) (ct : Catch X.K X.mg c tb) (hi : X.N[i]? = some n) (hl : X.env.kindOf n = some .local)
      (hu : ∀ (a : Addr) (oe : Obj) (cls : Value) (d : Option Addr) (pn : List (Addr × Obj)), Zc cls d oe → (∃ vs, oe.data = .fields vs) → SCs (X.suite a ((a, oe) :: pn)) ⟨fun _ _ _ _ => False, some (i, a, cls, d)⟩ (b :: bs) s) (r : Hears X hs l) : Hears X (.ExceptHandler (some (.Name x np)) (some n) (b :: bs) p :: hs) ((tb, some i, s) :: l)
/-- x is a def that tries what it gets -/
structure EarOk (P : Program) (w : World) (K : PySem.W.Frag) (mg : Str → Option Value) (base : Heap) (x : Str) (n : Nat) (hr : Hrs) (fine : S D) : Prop where
  ex : ∃ (g : Addr) (oc : Value) (od : Option Addr) (kV doc pm : Value) (an : Option Addr) (cdv ct : Value) (osl : Array (Option Value)) (st : Stmt) (N : List Str) (a : Str) (h0 : ExceptHandler) (hs : List ExceptHandler) (fe : Expr) (p1 p2 p3 p4 p5 : Pos),
    mg x = some (.ref g) ∧ PySem.W.keepIn K (.ref g) = true ∧ K.lookup g = some ⟨oc, od, .func (PySem.W.fnOf x x (defArgs st) (defBody st) (defScope st) .none kV doc pm an cdv ct), osl⟩ ∧ PySem.W.codeIn K cdv x = true ∧
    L2.Binds K (PySem.W.fnOf x x (defArgs st) (defBody st) (defScope st) .none kV doc pm an cdv ct) [a] [] ∧ FnScope N [a] (defScope st) ∧ N[0]? = some a ∧ N.length = n ∧ Vis (defScope st) a ∧ (a == ("__debug__" : Str)) = false ∧ (a == ("__classdict__" : Str)) = false ∧
    defBody st = [.Try [.Expr (.Call (.Name a p1) [] [] p2) p3] (h0 :: hs) [] [] p4, .Return (some fe) p5] ∧
    ∀ (A : Around) (fs : List PySem.Env) (s : Shared) (H : Hp), Room 0 (A.deeper (envOfC x (defScope st) s.heap.objs.size g cdv)) → (A.deeper (envOfC x (defScope st) s.heap.objs.size g cdv)).guards = some [] →
      Hears (cxOf (L2.CX P w) P w K mg base N x (defScope st) g cdv A fs s H (fun _ _ _ => False)) (h0 :: hs) hr ∧ SE (cxOf (L2.CX P w) P w K mg base N x (defScope st) g cdv A fs s H (fun _ _ _ => False)) (WF fun _ _ _ => False) fe fine
end
end Sm
end
section
set_option maxRecDepth 100000
set_option maxHeartbeats 0
namespace Sm
open PySem PySem.Spec PyProof.Rows L2

/-! ### repr of data -/
mutual
def pyD : D → Option PyData
  | .non => some .none
  | .bl b => some (.bool b)
  | .int i => some (.int i)
  | .str x => some (.str x)
  | .tup ds => (pyDs ds).map .tuple
  | .lst ds => (pyDs ds).map .list
  | _ => none
def pyDs : List D → Option (List PyData)
  | [] => some []
  | d :: r => match pyD d, pyDs r with
    | some x, some xs => some (x :: xs)
    | _, _ => none
end
mutual
theorem pyD_nodict : ∀ (d : D) (p : PyData), pyD d = some p → p.hasDict = false
  | .non, p, h => by cases h; rfl
  | .bl b, p, h => by cases h; rfl
  | .int i, p, h => by cases h; rfl
  | .str x, p, h => by cases h; rfl
  | .tup ds, p, h => by
    have h : (pyDs ds).map PyData.tuple = some p := h
    cases q : pyDs ds with
    | none => rw [q] at h; cases h
    | some l =>
      rw [q] at h
      have h := Option.some.inj h
      subst h
      exact pyDs_nodict ds l q
  | .lst ds, p, h => by
    have h : (pyDs ds).map PyData.list = some p := h
    cases q : pyDs ds with
    | none => rw [q] at h; cases h
    | some l =>
      rw [q] at h
      have h := Option.some.inj h
      subst h
      exact pyDs_nodict ds l q
  | .cel _, p, h => by cases h
  | .opq _, p, h => by cases h
  | .err _ _ _, p, h => by cases h
  | .fn _, p, h => by cases h
  | .dk _ _, p, h => by cases h
  | .dt _ _, p, h => by cases h
  | .set _, p, h => by cases h
  | .ins _ _, p, h => by cases h
theorem pyDs_nodict : ∀ (d : List D) (p : List PyData), pyDs d = some p → PyData.hasDictAll p = false
  | [], p, h => by cases h; rfl
  | d :: r, p, h => by
    unfold pyDs at h
    split at h
    · rename_i x xs h1 h2
      cases h
      show (x.hasDict || PyData.hasDictAll xs) = false
      rw [pyD_nodict d x h1, pyDs_nodict r xs h2]
      rfl
    · cases h
end
section
variable {P : Program} {w : World} {K : PySem.W.Frag} {Hf H : Hp} {ρ : List Addr} {h : Heap}
mutual
theorem Dat.reads (ok : HOk P w H h) (ki : K.In h) (e : Same Hf H) {v : V} {d : D} (q : Dat K Hf ρ v d) {p : PyData} (hp : pyD d = some p) {u : Value} (r : RelV v u) : ∃ as, Reads h u p as :=
  match q with
  | .non => by
    cases hp
    obtain rfl : u = Value.none := r
    exact ⟨[], .none⟩
  | .bl b => by
    cases hp
    obtain rfl : u = Value.bool b := r
    exact ⟨[], .bool b⟩
  | .int i => by
    cases hp
    obtain ⟨t, rfl⟩ := r
    exact ⟨[], .int i t⟩
  | .str x => by
    cases hp
    obtain ⟨t, rfl⟩ := r
    exact ⟨[], .str x t⟩
  | .tup (a := a) (ds := ds) z hs => by
    have hp : (pyDs ds).map PyData.tuple = some p := hp
    obtain rfl : u = Value.ref a := r
    cases hq : pyDs ds with
    | none => rw [hq] at hp; cases hp
    | some l =>
      rw [hq] at hp
      have hp := Option.some.inj hp
      subst hp
      obtain ⟨_, its, rv, o, e1, e2, n, e3⟩ := ok a _ (e _ _ z)
      obtain ⟨as, ra⟩ := Dats.reads ok ki e hs hq rv
      exact ⟨as, .tuple e1 e2 e3 (by simpa using ra)⟩
  | .lst (a := a) (ds := ds) z hs => by
    have hp : (pyDs ds).map PyData.list = some p := hp
    obtain rfl : u = Value.ref a := r
    cases hq : pyDs ds with
    | none => rw [hq] at hp; cases hp
    | some l =>
      rw [hq] at hp
      have hp := Option.some.inj hp
      subst hp
      rcases same_l e z with z | ⟨o, its, n, k1, k2, k3, k4, k5, rv⟩
      · obtain ⟨_, its, n, rv, e1⟩ := z.ok ok
        obtain ⟨as, ra⟩ := Dats.reads ok ki e hs hq rv
        exact ⟨_, .list e1 rfl rfl (by simpa using ra)⟩
      · obtain ⟨as, ra⟩ := Dats.reads ok ki e hs hq rv
        exact ⟨_, .list (ki _ _ k1) k2 k4 ra⟩
  | .cel _ => by cases hp
  | .opq _ => by cases hp
  | .fn _ => by cases hp
  | .dk _ _ _ => by cases hp
  | .dt _ _ _ => by cases hp
  | .set _ _ => by cases hp
  | .ins _ _ _ _ => by cases hp
theorem Dats.reads (ok : HOk P w H h) (ki : K.In h) (e : Same Hf H) {vs : List V} {ds : List D} (q : Dats K Hf ρ vs ds) {ps : List PyData} (hp : pyDs ds = some ps) {us : List Value} (r : Vals vs us) : ∃ as, ReadsAll h us ps as :=
  match q, r with
  | .nil, .nil => by
    cases hp
    exact ⟨[], .nil⟩
  | .cons q qs, .cons r rs => by
    unfold pyDs at hp
    split at hp
    · rename_i x xs h1 h2
      cases hp
      obtain ⟨as, ra⟩ := Dat.reads ok ki e q h1 r
      obtain ⟨bs, rb⟩ := Dats.reads ok ki e qs h2 rs
      exact ⟨as ++ bs, .cons ra rb⟩
    · cases hp
end
end
/-- the text of data, where it can be told -/
def dRepr (d : D) : Option D := match pyD d with
  | some p => if p.showable = true ∧ p.depth ≤ 50 ∧ p.shown.length ≤ 10000 then some (.str p.shown) else none
  | none => none
def xRepr (s : S (List D)) : S D := S.bind s fun ds => S.opt (match ds with
  | [d] => dRepr d
  | _ => none)
section
variable [Tabs0] {X : Cx} {W : Wh}
def rRepr (K : PySem.W.Frag) : List V → Hp → VK → Prop := fun xs H Q => ∃ (Hf : Hp) (ρ : List Addr) (v : V) (d : D) (p : PyData), xs = [v] ∧ Same Hf H ∧ Dat K Hf ρ v d ∧ pyD d = some p ∧ p.showable = true ∧ p.depth ≤ 50 ∧ p.shown.length ≤ 10000 ∧ Q (.str p.shown) H
theorem un_of {k : Nat} {A B : Around} (hr : Room k A) (h : B.units = A.units := by rfl) : B.units + 64 < cLine := by
  have := hr.un
  omega
/-! ### defs as data -/
def Held1 (K : PySem.W.Frag) (mg : Str → Option Value) (x : Str) : Prop := ∃ a : Addr, PySem.W.nsIn K mainGlobals x = some (some (.ref a)) ∧ mg x = some (.ref a)
/-- the slot holds one of some defs -/
def xCallV (i : Nat) (tb : List (Str × Fn)) (s : S (List D)) : S D := fun env C => match env[i]? with
  | some (some (.fn x)) => match tb.lookup x with
    | some f => xCall f s env C
    | none => none
  | _ => none
structure CalV (P : Program) (w : World) (K : PySem.W.Frag) (mg : Str → Option Value) (base : Heap) (k : Nat) (tb : List (Str × Fn)) : Prop where
  all : ∀ p ∈ tb, ∃ (n j : Nat) (a : Addr), j ≤ k ∧ Cal P w K mg base p.1 n j p.2 ∧ PySem.W.nsIn K mainGlobals p.1 = some (some (.ref a)) ∧ mg p.1 = some (.ref a)
theorem CalV.nil {P : Program} {w : World} {K : PySem.W.Frag} {mg : Str → Option Value} {base : Heap} {k : Nat} : CalV P w K mg base k [] := ⟨fun p h => absurd h List.not_mem_nil⟩
theorem CalV.cons {P : Program} {w : World} {K : PySem.W.Frag} {mg : Str → Option Value} {base : Heap} {x : Str} {n j k : Nat} {f : Fn} {tb : List (Str × Fn)} (hj : j ≤ k) (c : Cal P w K mg base x n j f) (h : Held1 K mg x) (r : CalV P w K mg base k tb) : CalV P w K mg base k ((x, f) :: tb) :=
  ⟨fun p hp => by
    rcases List.mem_cons.mp hp with rfl | hp
    · obtain ⟨a, h1, h2⟩ := h
      exact ⟨n, j, a, hj, c, h1, h2⟩
    · exact r.all p hp⟩
/-! ### the makers of lambdas, and the defs that try them -/
structure FunC (K : PySem.W.Frag) (x qual : Str) (st : Stmt) (f : Addr) (fd : FuncData) (c : Addr) : Prop where
  ex : ∃ (oc : Value) (od : Option Addr) (kV doc pm : Value) (an : Option Addr) (ct : Value) (osl : Array (Option Value)),
    fd = PySem.W.fnOf x qual (defArgs st) (defBody st) (defScope st) .none kV doc pm an (.ref c) ct ∧ K.lookup f = some ⟨oc, od, .func fd, osl⟩ ∧ PySem.W.codeIn K (.ref c) qual = true
  kp : PySem.W.keepIn K (.ref f) = true
theorem FunC.of {K : PySem.W.Frag} {x qual : Str} {st : Stmt} {f c : Addr} {oc : Value} {od : Option Addr} {kV doc pm : Value} {an : Option Addr} {ct : Value} {osl : Array (Option Value)}
    (h1 : K.lookup f = some ⟨oc, od, .func (PySem.W.fnOf x qual (defArgs st) (defBody st) (defScope st) .none kV doc pm an (.ref c) ct), osl⟩) (h2 : PySem.W.codeIn K (.ref c) qual = true) (h3 : PySem.W.keepIn K (.ref f) = true) :
    FunC K x qual st f (PySem.W.fnOf x qual (defArgs st) (defBody st) (defScope st) .none kV doc pm an (.ref c) ct) c := ⟨⟨oc, od, kV, doc, pm, an, ct, osl, rfl, h1, h2⟩, h3⟩
theorem FunC.fun {K : PySem.W.Frag} {x qual : Str} {st : Stmt} {f c : Addr} {fd : FuncData} (F : FunC K x qual st f fd c) : L2.Fun K x qual st f fd := by
  obtain ⟨oc, od, kV, doc, pm, an, ct, osl, h1, h2, h3⟩ := F.ex
  exact ⟨⟨oc, od, kV, doc, pm, an, .ref c, ct, osl, h1, h2, h3⟩, F.kp⟩
section
variable {P : Program} {w : World} {K : PySem.W.Frag} {mg : Str → Option Value} {base : Heap}
/-- an own class that only bears a message -/
structure MsgC (K : PySem.W.Frag) (mg : Str → Option Value) (x : Str) (a : Addr) (bm : List Value) (nw : String) : Prop where
  g : mg x = some (.ref a)
  q : PySem.W.excIn K a bm nw = true
  k : PySem.W.keepIn K (.ref a) = true
  s : PySem.W.subIn K (.ref a) (.type "BaseException") = some true
  t : PySem.W.typeIn K (.ref a) = some (.type "type")
end
end
end Sm
end
section
set_option maxRecDepth 100000
set_option maxHeartbeats 0
namespace Sm
open PySem L2
/-! ### a loop whose turns forget the lists that they made -/
def cutV (n : Nat) (o : Option D) : Option D := match o with
  | some d => if nocel d = true then some d else match d with
    | .cel m => if m < n then some d else none
    | _ => none
  | none => none
def cutE (n : Nat) (e : Env) : Env := e.map (cutV n)
def lpC (g : Gd) (t : Tg) (b : SS) (n : Nat) : List D → SS
  | [] => fun e C => if g C = true then some (.nx (cutE n e) (C.take n)) else none
  | d :: r => fun e C => if g C = true ∧ nocel d = true then match t.put d (cutE n e) with
      | none => none
      | some e1 => match b e1 (C.take n) with
        | some (.nx e2 C2) => lpC g t b n r e2 C2
        | some (.ct e2 C2) => lpC g t b n r e2 C2
        | some (.bk e2 C2) => some (.nx e2 C2)
        | o => o
    else none
def xForC (it : SW) (t : Tg) (b : SS) : SS := xDo it fun p e C => lpC p.2 t b C.length p.1 e C
variable [Tabs0] {X : Cx} {W : Wh}
theorem EnvR.cutE {K : PySem.W.Frag} {mg : Str → Option Value} {xc : XC} {Hf : Hp} {ρ ρ' : List Addr} {σ : L2.St} {env : Env} (h : EnvR K mg xc Hf ρ' σ env) (p : ρ <+: ρ') : EnvR K mg xc Hf ρ σ (Sm.cutE ρ.length env) := by
  have get : ∀ {i : Nat} {d : D}, (Sm.cutE ρ.length env)[i]? = some (some d) → env[i]? = some (some d) ∧ cutV ρ.length (some d) = some d := fun {i d} q => by
    unfold Sm.cutE at q
    rw [List.getElem?_map] at q
    cases e : env[i]? with
    | none => rw [e] at q; cases q
    | some o =>
      rw [e] at q
      have q : cutV ρ.length o = some d := Option.some.inj q
      cases o with
      | none => cases q
      | some d' =>
        have e2 : d' = d := by
          have q2 := q
          unfold cutV at q2
          simp only [] at q2
          split at q2
          · exact Option.some.inj q2
          · split at q2
            · split at q2
              · exact Option.some.inj q2
              · cases q2
            · cases q2
        subst e2
        exact ⟨rfl, q⟩
  refine ⟨by unfold Sm.cutE; rw [List.length_map]; exact h.len, fun i d q n => ?_, fun i a cls dd c f d hx q => ?_⟩
  · obtain ⟨q1, q2⟩ := get q
    obtain ⟨v, v1, v2⟩ := h.at_ i d q1 n
    refine ⟨v, v1, ?_⟩
    unfold cutV at q2
    simp only [] at q2
    split at q2
    · rename_i nc
      exact (v2.bare nc).mono (Same.refl _) List.nil_prefix
    · split at q2
      · split at q2
        · rename_i m hm
          cases v2 with
          | cel hc =>
            refine .cel ?_
            obtain ⟨t, rfl⟩ := p
            rw [List.getElem?_append_left hm] at hc
            exact hc
        · cases q2
      · cases q2
  · obtain ⟨q1, q2⟩ := get q
    unfold cutV at q2
    simp only [nocel, Bool.false_eq_true, if_false] at q2
    cases q2
theorem sc_forC {tg iter : Expr} {body : List Stmt} {pos : Pos} {it : SW} {t : Tg} {b : SS} (hp : PassesOwn (model X.prog X.w) X.A X.env X.xe) (hc : X.calm = true) (hi : SI X W tg iter it) (hg : SG X W tg t) (hb : SCs X W body b)
    (hs : ∀ x, foldedSetIterable iter X.env x = pure x) : SC X W (.For tg iter body [] pos) (xForC it t b) :=
  ps_imp (ps_for hp hc hi hg hb hs) fun D σ H ⟨Hf, F, ρ, env, C, S0, E0, g0⟩ => ⟨Hf, F, ρ, env, C, S0, E0, (GoS.doit E0 g0).mono fun J H1 ⟨Hf1, ρ1, C1, p, e1, p1, S1, w1, g1⟩ => by
    obtain ⟨ds, g⟩ := p
    have hl1 : ρ1.length = C1.length := S1.len
    refine ⟨fun i m σ2 H2 => i ≤ ds.length ∧ m = ds.length - i ∧ ∃ Hf2 ρ2 env2 C2, Same Hf1 Hf2 ∧ ρ1 <+: ρ2 ∧ SR X.K Hf2 F ρ2 C2 H2 ∧ EnvR X.K X.mg W.xc Hf2 ρ2 σ2 env2 ∧ GoS X.K X.mg W Hf2 F ρ1 (lpC g t b C1.length (ds.drop i) env2 C2) D,
      ⟨ds.length, Nat.zero_le _, rfl, Hf1, ρ1, env, C1, Same.refl _, List.prefix_refl _, S1, E0.mono e1 p1, g1⟩, ?_⟩
    rintro i m σ2 H2 ⟨hi, rfl, Hf2, ρ2, env2, C2, e2, p2, S2, E2, g2⟩
    by_cases hlt : i < ds.length
    · rw [List.drop_eq_getElem_cons hlt] at g2
      unfold lpC at g2
      split at g2
      · rename_i hgd
        obtain ⟨go, yl⟩ := (w1 i Hf2 F ρ2 C2 H2 e2 p2 S2 hgd.1).1 hlt
        refine .inr ⟨go, fun σ' H' => ∃ Hf3 ρ3 env3 C3, Same Hf2 Hf3 ∧ ρ1 <+: ρ3 ∧ SR X.K Hf3 F ρ3 C3 H' ∧ EnvR X.K X.mg W.xc Hf3 ρ3 σ' env3 ∧ GoS X.K X.mg W Hf3 F ρ1 (lpC g t b C1.length (ds.drop (i + 1)) env3 C3) D,
          fun σ' H' ⟨Hf3, ρ3, env3, C3, e3, p3, S3, E3, g3⟩ => ⟨ds.length - (i + 1), by omega, hlt, rfl, Hf3, ρ3, env3, C3, e2.trans e3, p3, S3, E3, g3⟩, fun x H3 hy => ?_⟩
        obtain ⟨d, Hf3, hd, e3, S3, D3⟩ := yl x H3 hy
        have ed : ds[i] = d := by
          rw [List.getElem?_eq_getElem hlt] at hd
          exact Option.some.inj hd
        rw [ed] at g2 hgd
        have S4 : SR X.K Hf3 F ρ1 (C2.take C1.length) H3 := by
          have q := S3.cut C1.length
          rw [← hl1, pre_take p2, hl1] at q
          exact q
        have E4 : EnvR X.K X.mg W.xc Hf3 ρ1 σ2 (cutE C1.length env2) := by
          have q := (E2.mono e3 (List.prefix_refl _)).cutE p2
          rw [hl1] at q
          exact q
        have D4 : Dat X.K Hf3 ρ1 x d := (D3.bare hgd.2).mono (Same.refl _) List.nil_prefix
        cases ht : t.put d (cutE C1.length env2) with
        | none =>
          rw [ht] at g2
          exact g2.elim
        | some env3 =>
          rw [ht] at g2
          refine ⟨Hf3, F, ρ1, _, C2.take C1.length, d, S4, E4, D4, env3, ht, fun σ4 E5 _ => ⟨Hf3, F, ρ1, env3, _, S4, E5, ?_⟩⟩
          simp only [] at g2
          cases hb' : b env3 (C2.take C1.length) with
          | none =>
            rw [hb'] at g2
            exact g2
          | some r =>
            rw [hb'] at g2
            cases r with
            | nx e' C' => exact fun σ' H' Hf' ρ' e4 p4 s4 n4 => ⟨Hf', ρ', e', C', e3.trans e4, p4, s4, n4, (g2.later e3 (List.prefix_refl _)).later e4 (List.prefix_refl _)⟩
            | ct e' C' => exact fun σ' H' Hf' ρ' e4 p4 s4 n4 => ⟨Hf', ρ', e', C', e3.trans e4, p4, s4, n4, (g2.later e3 (List.prefix_refl _)).later e4 (List.prefix_refl _)⟩
            | bk e' C' => exact fun σ' H' Hf' ρ' e4 p4 s4 n4 => g2 σ' H' Hf' ρ' (e3.trans e4) p4 s4 n4
            | ret d' C' => exact fun v H' Hf' ρ' e4 p4 s4 n4 => g2 v H' Hf' ρ' (e3.trans e4) p4 s4 n4
            | ex c q e' C' => exact fun cls dd σ' H' Hf' ρ' e4 p4 s4 n4 x4 => g2 cls dd σ' H' Hf' ρ' (e3.trans e4) p4 s4 n4 x4
      · exact g2.elim
    · have ei : i = ds.length := by omega
      subst ei
      rw [List.drop_eq_nil_of_le (Nat.le_refl _)] at g2
      unfold lpC at g2
      split at g2
      · rename_i hgd
        have S4 : SR X.K Hf2 F ρ1 (C2.take C1.length) H2 := by
          have q := S2.cut C1.length
          rw [← hl1, pre_take p2, hl1] at q
          exact q
        have E4 : EnvR X.K X.mg W.xc Hf2 ρ1 σ2 (cutE C1.length env2) := by
          have q := E2.cutE p2
          rw [hl1] at q
          exact q
        exact .inl ⟨(w1 _ Hf2 F ρ2 C2 H2 e2 p2 S2 hgd).2 (Nat.le_refl _), g2 σ2 H2 Hf2 ρ1 (Same.refl _) (List.prefix_refl _) S4 E4⟩
      · exact g2.elim⟩
/-! ### a new list some times -/
def repL (ds : List D) (d : D) : Option (List D) := match d with
  | .int k => if -1000 ≤ k ∧ k ≤ 1000 ∧ ds.length ≤ 1000 then some (List.replicate k.toNat ds).flatten else none
  | _ => none
def xRepL (sa : S (List D)) (sb : S D) : S (List D) := S.bind sa fun ds => S.bind sb fun n => S.opt (repL ds n)
theorem sl_rep {a b : Expr} {pos : Pos} {sa : S (List D)} {sb : S D} (ha : SL X W a sa) (hb : SE X W b sb) : SL X W (.BinOp a .Mult b pos) (xRepL sa sb) :=
  pe_imp (pe_op op_rep ha hb) fun σ H Q ⟨Hf, F, ρ, env, C, S0, E0, g⟩ => ⟨Hf, F, ρ, env, C, S0, E0, by
    unfold xRepL S.bind at g
    cases h1 : sa env C with
    | none => rw [h1] at g; exact g
    | some r =>
      rw [h1] at g
      cases r with
      | ex c q C' => exact g
      | ok ds C1 =>
        refine fun v H1 Hf1 ρ1 e1 p1 f1 => ?_
        cases f1 with
        | @mk p vs _ h hs S1 S2 nf =>
          have e2 : Same Hf1 (upd Hf1 p (.lst vs)) := fun b u q => by
            rw [upd_ne (ne_of_none q nf)]
            exact q
          refine ⟨_, F, ρ1, env, C1, S1, (E0.mono e1 p1).mono e2 (List.prefix_refl _), ?_⟩
          simp only [] at g
          cases h2 : sb env C1 with
          | none => rw [h2] at g; exact g.elim
          | some r =>
            rw [h2] at g
            cases r with
            | ex c q C' => exact fun cls dd H' Hf' ρ' e3 p3 s3 x3 => g cls dd H' Hf' ρ' ((e1.trans e2).trans e3) (p1.trans p3) s3 x3
            | ok n C2 =>
              refine fun y H2 Hf2 ρ2 e3 p3 S3 D3 => ?_
              simp only [] at g
              cases hr : repL ds n with
              | none => rw [hr] at g; exact g.elim
              | some rs =>
                rw [hr] at g
                unfold repL at hr
                split at hr
                · rename_i k
                  split at hr
                  · rename_i hk
                    have hr := Option.some.inj hr
                    subst hr
                    cases D3
                    have hH : H2 p = some (.lst vs) := S3.ex _ _ (e3 _ _ upd_same)
                    have hd : Dats X.K Hf2 ρ2 vs ds := (hs.mono e2 (List.prefix_refl _)).mono e3 p3
                    have hl : vs.length = ds.length := hd.len
                    refine ⟨p, k, vs, rfl, rfl, hH, by omega, by omega, ?_, fun q hq => ?_⟩
                    · rw [sizeLine_eq, hl]
                      have h5 : k.toNat ≤ 1000 := by omega
                      exact Nat.le_trans (Nat.mul_le_mul hk.2.2 h5) (by decide)
                    · exact g (.ref q) _ Hf2 ρ2 ((e1.trans e2).trans e3) (p1.trans p3) (fresh_new S3 hq (hd.rep _))
                  · cases hr
                · cases hr⟩
end Sm
end
section
set_option maxRecDepth 100000
set_option maxHeartbeats 0
namespace Sm
open PySem L2
variable [Tabs0] {X : Cx} {W : Wh}
/-! ### xs[i] op= e, ints in a changing list, from its start -/
def rGetL (K : PySem.W.Frag) : V → V → Hp → VK → Prop := fun o i H Q => ∃ (p : Addr) (xs : List V) (k : Int) (z : V), o = .ref p ∧ i = .int k ∧ SqL K H p xs ∧ 0 ≤ k ∧ k < 2 ^ 62 ∧ xs[k.toNat]? = some z ∧ Q z H
theorem get_list : PGet X (rGetL X.K) := by
  rintro pins s σ H o i ov iv Q I ro ri ⟨p, xs, k, z, rfl, rfl, hq, k0, k1, hz, q⟩
  cases ro
  obtain ⟨t, rfl⟩ := ri
  obtain ⟨its, r, pl, _⟩ := I.list hq
  obtain ⟨w, ew, rw'⟩ := r.get hz
  exact wpAny_getItem_list pl.isList k0 (by omega) (by simpa using ew) ⟨z, H, I, rw', q⟩
def xAugS (f : D → D → Option D) (so si sv : S D) : SS := xDo so fun o => xDo si fun i => fun e C => match o, i with
  | .cel n, .int k => match C[n]? with
    | some (some (.l ds)) => if 0 ≤ k ∧ k < 4611686018427387904 then match ds[k.toNat]? with
        | some (.int a) => xDo sv (fun y e2 C2 => match y, C2[n]? with
          | .int b, some (some (.l ds2)) => match ixN ds2.length k, f (.int a) (.int b) with
            | some j, some z => if nocel z = true then some (.nx e2 (C2.set n (some (.l (ds2.set j z))))) else none
            | _, _ => none
          | _, _ => none) e C
        | _ => none
      else none
    | _ => none
  | _, _ => none
theorem sc_augS {o i e : Expr} {op : Operator} {tpos pos : Pos} {f : D → D → Option D} {so si sv : S D} {ti : TIp} (hf : ∀ (a b : Int) (d : D) (H : Hp) (Q : VK), f (.int a) (.int b) = some d → (∀ v, (∀ Hf ρ, Dat X.K Hf ρ v d) → Q v H) → ti (.int a) (.int b) H Q)
    (h : PS X (.AugAssign (.Subscript o i tpos) op e pos) (tAugS (tE X.K X.mg W so) (tE X.K X.mg W si) (tE X.K X.mg W sv) (rGetL X.K) ti rSetL)) : SC X W (.AugAssign (.Subscript o i tpos) op e pos) (xAugS f so si sv) :=
  ps_imp h fun D σ H ⟨Hf, F, ρ, env, C, S0, E0, g⟩ => ⟨Hf, F, ρ, env, C, S0, E0, (GoS.doit E0 g).mono fun x H1 ⟨Hf1, ρ1, C1, dx, e1, p1, S1, A1, g1⟩ =>
    ⟨Hf1, F, ρ1, env, C1, S1, E0.mono e1 p1, (GoS.doit (E0.mono e1 p1) g1).mono fun y H2 ⟨Hf2, ρ2, C2, dy, e2, p2, S2, A2, g2⟩ => by
      have E2 := (E0.mono e1 p1).mono e2 p2
      match dx, dy, A1, A2, g2 with
      | .cel n, .int k, .cel (a := ad) hn, .int _, g2 =>
        simp only [] at g2
        split at g2
        · rename_i ds hc
          split at g2
          · rename_i hk
            split at g2
            · rename_i a0 ha
              have hn2 := pre_get p2 hn
              obtain ⟨_, k2⟩ := S2.cel n ad _ hn2 hc
              obtain ⟨vs, hv, hd⟩ := k2.lst
              obtain ⟨z, z1, z2⟩ := hd.get ha
              cases z2
              refine ⟨ad, vs, k, .int a0, rfl, rfl, .inl (.inl hv), hk.1, by omega, z1, Hf2, F, ρ2, env, C2, S2, E2, (GoS.doit E2 g2).mono fun w H3 ⟨Hf3, ρ3, C3, dw, e3, p3, S3, A3, g3⟩ => ?_⟩
              split at g3
              · rename_i b0 ds2 hc3
                split at g3
                · rename_i j zz hj hz
                  split at g3
                  · rename_i nc
                    cases A3
                    have hn3 := pre_get p3 hn2
                    obtain ⟨_, k3⟩ := S3.cel n ad _ hn3 hc3
                    obtain ⟨vs3, hv3, hd3⟩ := k3.lst
                    exact hf a0 b0 zz H3 _ hz fun v hvd => ⟨ad, vs3, k, j, rfl, rfl, hv3, by rw [hd3.len]; exact hj, g3 σ _ Hf3 ρ3 (Same.refl _) (List.prefix_refl _) (S3.setCel hn3 hc3 (hd3.set (hvd Hf3 []) j)) (E2.mono e3 p3)⟩
                  · exact g3.elim
                · exact g3.elim
              · exact g3.elim
            · exact g2.elim
          · exact g2.elim
        · exact g2.elim⟩⟩
/-! ### sorted(ints, reverse=True) -/
def srtR (ds : List D) : Option (List D) := match ds with
  | [.lst es] => (intsOf es).map fun ns => (sortI ns).reverse.map D.int
  | _ => none
def xSrtR (s : S (List D)) : S (List D) := S.bind s fun ds => fun env C => S.opt (srtR (ds.map (vw C))) env C
end Sm
end
section
set_option maxRecDepth 100000
set_option maxHeartbeats 0
namespace Sm
open PySem PyProof.Rows L2
/-! ### {k: v, ..} with keys that are tuples -/
def PT (H : Hp) : List (V × V) → List (List Key × V) → Prop := Paired fun p q => (∃ a, p.1 = .ref a ∧ H a = some (.tup (q.1.map kV))) ∧ p.2 = q.2
def tDispT (trs : List (TE × TE)) : TE := fun σ H Q => ∀ p, H p = none → tPairs trs σ (upd H p (.dT [])) fun ps H2 => H2 p = some (.dT []) ∧ ∃ kvs : List (List Key × V), PT H2 ps kvs ∧ kvs.length ≤ 15 ∧ Q (.ref p) (upd H2 p (.dT (mergeT [] kvs)))
theorem carriesT {P : Program} {w : World} {H : Hp} {h : Heap} (ok : HOk P w H h) : ∀ {ps : List (V × V)} {kvs : List (List Key × V)} {vs : List (Value × Value)}, PT H ps kvs → VV ps vs → ∃ rs, CarriesH (tupleKind (mixKind P w)) h vs rs ∧ KT H kvs rs
  | _, _, _, .nil, .nil => ⟨[], trivial, .nil⟩
  | _, _, _, .cons (a := p) (b := q) ⟨⟨a, e1, e2⟩, e3⟩ t, .cons (b := v) ⟨r1, r2⟩ s => by
    obtain ⟨rs, c, k⟩ := carriesT ok t s
    obtain ⟨v1, v2⟩ := v
    have r1 : RelV p.1 v1 := r1
    rw [e1] at r1
    obtain rfl : v1 = Value.ref a := r1
    refine ⟨(q.1, a, v2) :: rs, ⟨rfl, rfl, key_of ok e2, c⟩, .cons ⟨rfl, e2, ?_⟩ k⟩
    rw [← e3]
    exact r2
theorem pe_dispT {X : Cx} {pos : Pos} {keys : List (Option Expr)} {values : List Expr} {trs : List (TE × TE)} (hu : X.A.units + 64 < cLine) (h : PPs X pos keys values trs) (hall : keys.all (·.isSome) = true) (hl : keys.length = values.length) (h0 : keys ≠ []) (h15 : keys.length ≤ 15) :
    PE X (.Dict keys values pos) (tDispT trs) := ⟨fun pins s σ H Q I q => by
  have hn := I.hok.fresh (Nat.le_refl s.heap.objs.size)
  have I1 := I.laid (a := s.heap.objs.size) (o := .dT []) (h' := s.heap.push { cls := .type "dict", data := .dict #[] }) (t' := s.toks) (fun _ _ q => Heap.get?_push_of_some _ q) (Nat.le_refl _) (dt_empty s.heap I.big)
  have pl := pairTrees_length keys values X.env pos hall hl
  have p0 : pairTrees keys values X.env pos ≠ [] := fun e => by
    rw [e] at pl
    exact h0 (List.length_eq_zero_iff.mp pl.symm)
  rw [arm_eval_Dict, zip_pairTrees keys values X.env pos hall hl, dictDisplay_pairs _ p0 (by rw [pl]; omega)]
  refine wpAny_bind (wpAny_standAt (wpAny_bind (wpAny_subDictH (knd := tupleKind (mixKind X.prog X.w)) (show X.A.units < cLine by omega) (by rw [pl]; exact h15) (thn (h.run pins _ σ _ _ I1 (q _ hn)) fun ws s2 ⟨ps, H2, I2, rel, e, kvs, pt, lk, q2⟩ => ?_))))
  obtain ⟨rs, c, rk⟩ := carriesT I2.hok pt rel
  obtain ⟨z, hd, xs0, r0, dd⟩ := dt_of I2.hok e
  cases r0
  refine ⟨rs, c, dd, fun h' tk dd' hs => wpAny_pure ⟨.ref s.heap.objs.size, _, ?_, rfl, q2⟩⟩
  have hz : (mergeT [] kvs).length ≤ sizeLine := by
    have h1 := mergeT_len kvs []
    rw [List.length_nil] at h1
    rw [sizeLine_eq]; omega
  have rel2 : KT H2 (mergeT [] kvs) (storedAllH [] rs) := KT.mergeT rk .nil
  obtain ⟨o2, es, ep, g1, g2, g3, g4, g5, g6⟩ := dd'
  refine d_write I2 (by rw [e]; exact True.intro) hs ⟨_, g1⟩ ⟨hz, hd, _, L2.Paired.mapP rel2 fun p r ⟨k1, k2, k3⟩ => ⟨k1, ?_, k3⟩, o2, es, ep, g1, g2, g3, g4, g6⟩
  rw [upd_ne (fun z => by rw [z, e] at k2; cases k2)]
  exact k2⟩
variable [Tabs0]
/-- a tuple's items as a key -/
def keyW : List D → Option (List Key)
  | [] => some []
  | .int i :: r => (keyW r).map (.inl i :: ·)
  | .str x :: r => (keyW r).map (.inr x :: ·)
  | _ => none
theorem keyW_ok {K : PySem.W.Frag} {H : Hp} {ρ : List Addr} : ∀ {vs : List V} {ds : List D} {k : List Key}, Dats K H ρ vs ds → keyW ds = some k → vs = k.map kV
  | _, _, _, .nil, h => by
    cases h
    rfl
  | _, _, _, .cons (d := d) (ds := ds) q qs, h => by
    cases d with
    | int i =>
      cases q
      have h : (keyW ds).map (Sum.inl i :: ·) = some _ := h
      obtain ⟨k, h1, h2⟩ := Option.map_eq_some_iff.mp h
      subst h2
      rw [keyW_ok qs h1]
      rfl
    | str x =>
      cases q
      have h : (keyW ds).map (Sum.inr x :: ·) = some _ := h
      obtain ⟨k, h1, h2⟩ := Option.map_eq_some_iff.mp h
      subst h2
      rw [keyW_ok qs h1]
      rfl
    | _ => cases h
def xPairs : List (S D × S D) → S (List (D × D))
  | [] => S.val []
  | (k, v) :: r => S.bind k fun x => S.bind v fun y => S.bind (xPairs r) fun l => S.val ((x, y) :: l)
def keysT : List (D × D) → Option (List (List Key × D))
  | [] => some []
  | (.tup ds, y) :: r => match keyW ds, keysT r with
    | some k, some l => some ((k, y) :: l)
    | _, _ => none
  | _ => none
def dispT (l : List (D × D)) : Option D := if l.length ≤ 15 then (keysT l).map fun l => .dt (mrg [] [] l).1 (mrg [] [] l).2 else none
def okP {α : Type} (s : S α) : S α := fun e C => match s e C with
  | some (.ok l C1) => some (.ok l C1)
  | _ => none
def xDispT (ps : List (S D × S D)) : S D := S.bind (okP (xPairs ps)) fun l => S.opt (dispT l)
inductive DPs (K : PySem.W.Frag) (H : Hp) (ρ : List Addr) : List (V × V) → List (D × D) → Prop
  | nil : DPs K H ρ [] []
  | cons {x y : V} {a b : D} {l : List (V × V)} {m : List (D × D)} (h1 : Dat K H ρ x a) (h2 : Dat K H ρ y b) (r : DPs K H ρ l m) : DPs K H ρ ((x, y) :: l) ((a, b) :: m)
theorem goPairs {X : Cx} {W : Wh} : ∀ (ps : List (S D × S D)) {σ : L2.St} {H : Hp} {Q : List (V × V) → Hp → Prop}, tG X.K X.mg W (DPs X.K) (xPairs ps) σ H Q → tPairs (ps.map fun p => (tE X.K X.mg W p.1, tE X.K X.mg W p.2)) σ H Q
  | [], σ, H, Q, ⟨Hf, F, ρ, env, C, S0, E0, g⟩ => Go.val (env := env) g S0 .nil
  | (k, v) :: r, σ, H, Q, ⟨Hf, F, ρ, env, C, S0, E0, g⟩ => ⟨Hf, F, ρ, env, C, S0, E0, (Go.bind g).mono fun x H1 ⟨Hf1, ρ1, C1, a, e1, p1, S1, A1, g1⟩ =>
      ⟨Hf1, F, ρ1, env, C1, S1, E0.mono e1 p1, (Go.bind g1).mono fun y H2 ⟨Hf2, ρ2, C2, b, e2, p2, S2, B2, g2⟩ =>
        goPairs r ⟨Hf2, F, ρ2, env, C2, S2, (E0.mono e1 p1).mono e2 p2, (Go.bind g2).mono fun l H3 ⟨Hf3, ρ3, C3, m, e3, p3, S3, M3, g3⟩ => Go.val (env := env) g3 S3 (.cons (A1.mono (e2.trans e3) (p2.trans p3)) (B2.mono e3 p3) M3)⟩⟩⟩
theorem keysT_ok {K : PySem.W.Frag} {Hf H : Hp} {ρ : List Addr} (e : Same Hf H) : ∀ {l : List (V × V)} {m : List (D × D)} {t : List (List Key × D)}, DPs K Hf ρ l m → keysT m = some t → ∃ kvs : List (List Key × V), PT H l kvs ∧ kvs.map (·.1) = t.map (·.1) ∧ Dats K Hf ρ (kvs.map (·.2)) (t.map (·.2)) ∧ kvs.length = m.length
  | _, _, _, .nil, h => by
    cases h
    exact ⟨[], .nil, rfl, .nil, rfl⟩
  | _, _, _, .cons (x := x) (y := y) (a := a) (b := b) (m := m) h1 h2 r, h => by
    cases h1 with
    | @tup ad xs ds hh hs =>
      unfold keysT at h
      split at h
      · rename_i k l hk hl
        cases h
        obtain ⟨kvs, k1, k2, k3, k4⟩ := keysT_ok e r hl
        have hx := keyW_ok hs hk
        subst hx
        refine ⟨(k, y) :: kvs, .cons ⟨⟨ad, rfl, e _ _ hh⟩, rfl⟩ k1, ?_, .cons h2 k3, ?_⟩
        · rw [List.map_cons, List.map_cons, k2]
        · rw [List.length_cons, List.length_cons, k4]
      · cases h
    | _ => cases h
theorem se_dispT {X : Cx} {W : Wh} {pos : Pos} {keys : List (Option Expr)} {values : List Expr} {ps : List (S D × S D)} (hu : X.A.units + 64 < cLine) (h : PPs X pos keys values (ps.map fun p => (tE X.K X.mg W p.1, tE X.K X.mg W p.2))) (hall : keys.all (·.isSome) = true) (hl : keys.length = values.length)
    (h0 : keys ≠ []) (h15 : keys.length ≤ 15) : SE X W (.Dict keys values pos) (xDispT ps) :=
  pe_imp (pe_lockP (pe_dispT hu h hall hl h0 h15)) fun σ H Q ⟨Hf, F, ρ, env, C, S0, E0, g⟩ => fun p hp0 => by
    have hF : F p = none := S0.fr.free hp0
    refine goPairs ps ⟨Hf, upd F p (.dT []), ρ, env, C, S0.intoF hp0, E0, ?_⟩
    have g0 : Go X.K X.mg W (Dat X.K) σ Hf F ρ (S.bind (okP (xPairs ps)) (fun l => S.opt (dispT l)) env C) Q := g
    unfold S.bind okP at g0
    cases hx : xPairs ps env C with
    | none => rw [hx] at g0; exact g0.elim
    | some r =>
      rw [hx] at g0
      cases r with
      | ex c q C' => exact g0.elim
      | ok m C1 =>
        refine fun l H2 Hf2 ρ2 e2 p2 S2 M2 => ⟨S2.fr p _ upd_same, ?_⟩
        simp only [] at g0
        cases hd : dispT m with
        | none => rw [hd] at g0; exact g0.elim
        | some d =>
          rw [hd] at g0
          unfold dispT at hd
          split at hd
          rotate_left 1
          · cases hd
          rename_i hlen
          obtain ⟨t, ht, rfl⟩ := Option.map_eq_some_iff.mp hd
          obtain ⟨kvs, k1, k2, k3, k4⟩ := keysT_ok S2.ex M2 ht
          obtain ⟨z1, z2⟩ := mergeT_zip kvs (ks := []) (xs := []) rfl
          obtain ⟨m1, m2⟩ := mrg_dats (ks := []) (xs := []) (ds := []) k2 k3 .nil
          have z1' : mergeT [] kvs = (mrg [] [] kvs).1.zip (mrg [] [] kvs).2 := z1
          refine ⟨kvs, k1, by omega, p, _, rfl, upd_same, trivial, fun od => ?_⟩
          rw [upd_upd]
          have S3 := S2.growF (o := .dT []) (u := .dT ((mrg [] [] kvs).1.zip (mrg [] [] kvs).2))
          obtain ⟨_, w⟩ := SR.outT hF S3 z2 m2
          obtain ⟨Hf3, s3, S4, D4⟩ := w od
          rw [upd_upd] at S4
          rw [z1']
          rw [m1] at S4 D4 ⊢
          exact g0 (.ref p) _ Hf3 ρ2 (e2.trans s3) p2 S4 D4
/-! ### {k: v, ..} with keys that are ints and texts, each once -/
def key1 : D → Option Key
  | .int i => some (.inl i)
  | .str x => some (.inr x)
  | _ => none
def keysK : List (D × D) → Option (List (Key × D))
  | [] => some []
  | (k, y) :: r => match key1 k, keysK r with
    | some k, some l => some ((k, y) :: l)
    | _, _ => none
def dispK (l : List (D × D)) : Option D := if l.length ≤ 15 then (keysK l).bind fun l => if (l.map (·.1)).Nodup then some (.dk (l.map (·.1)) (l.map (·.2))) else none else none
def xDispK (ps : List (S D × S D)) : S D := S.bind (okP (xPairs ps)) fun l => S.opt (dispK l)
end Sm
end
section
set_option maxRecDepth 100000
set_option maxHeartbeats 0
namespace Sm
open PySem L2 PySem.Spec PyProof.Rows
variable [Tabs0]
variable {K : PySem.W.Frag} {mg : Str → Option Value}
/-! ### math.factorial -/
def rFac : List V → Hp → VK → Prop := fun vs H Q => ∃ a : Int, vs = [.int a] ∧ 0 ≤ a ∧ a ≤ 20000 ∧ Q (.int ((Builtin.Math.factorialNat a.toNat : Nat) : Int)) H
theorem cr_fac {X : Cx} : CallR X (.builtin "math.factorial") rFac := by
  intro pins s σ H vs us Q I r h
  obtain ⟨a, rfl, h0, h1, q⟩ := h
  obtain ⟨t, rfl⟩ : ∃ t, us = [Value.int a t] := by
    cases r with
    | cons r t =>
      cases t
      obtain ⟨t, rfl⟩ := r
      exact ⟨t, rfl⟩
  exact PySem.W.mc_factorial h0 h1 fun _ => ⟨.int _, H, I.tok _, ⟨_, rfl⟩, q⟩
def dFac : List D → Option D
  | [.int a] => if 0 ≤ a ∧ a ≤ 20000 then some (.int (Builtin.Math.factorialNat a.toNat : Nat)) else none
  | _ => none
theorem op_dFac : OpN K rFac dFac := by
  intro Hf F ρ Cs H xs as d Q S0 ha he k
  unfold dFac at he
  split at he
  · split at he
    · rename_i hb
      cases he
      cases ha with
      | cons h hs =>
        cases hs
        exact ⟨_, by rw [h.int], hb.1, hb.2, k.here S0 (.int _)⟩
    · cases he
  · cases he
/-! ### a call of a def without arguments -/
end Sm
end
section
set_option maxRecDepth 100000
set_option maxHeartbeats 0
namespace Sm
open PySem L2
variable [Tabs0]
variable {K : PySem.W.Frag} {mg : Str → Option Value}
/-! ### d.setdefault(k, []).append(v), d a changing dict whose lists are cells behind it -/
def appC (m : Nat) (v : D) (e : Env) (C : Cells) : Option RS := match C[m]? with
  | some (some (.l es)) => if nocel v = true ∧ es.length < 1000000 then some (.nx e (C.set m (some (.l (es ++ [v]))))) else none
  | _ => none
def isK (o : D) (C : Cells) : Bool := match o with
  | .cel n => match C[n]? with
    | some (some (.k _ _)) => true
    | _ => false
  | _ => false
def isL (m : Nat) (C : Cells) : Bool := match C[m]? with
  | some (some (.l _)) => true
  | _ => false
def xSetApp (i : Nat) (sk sv : S D) : SS := xDo (xV i) fun o e0 C0 => if isK o C0 = true then xDo sk (fun y => fun e C => match o with
  | .cel n => match C[n]? with
    | some (some (.k ks ds)) => match ky1 (vw C y) with
      | some k => if ks.length < 1000000 then match dVal ks ds k with
        | some (.cel m) => if isL m C = true then xDo sv (appC m) e (C ++ [some (.l [])]) else none
        | some _ => none
        | none => xDo sv (appC C.length) (e.set i (some (.cel (C.length + 1)))) (C.set n none ++ [some (.l []), some (.k (ks ++ [k]) (ds ++ [.cel C.length]))])
        else none
      | none => none
    | _ => none
  | _ => none) e0 C0 else none
theorem SR.dropTo {Hf F : Hp} {ρ : List Addr} {C : Cells} {H : Hp} (S : SR K Hf F ρ C H) {n : Nat} {a p : Addr} {ks : List Key} {ds : List D} {vs : List V} {k : Key}
    (hn : ρ[n]? = some a) (hc : C[n]? = some (some (.k ks ds))) (hv : H a = some (.dK (ks.zip vs))) (hl : ks.length = vs.length) (hd : Dats K Hf (ρ.take n) vs ds) (hp : H p = none) :
    SR K Hf F (ρ ++ [p, a]) (C.set n none ++ [some (.l []), some (.k (ks ++ [k]) (ds ++ [.cel C.length]))]) (upd (upd H p (.lst [])) a (.dK ((ks ++ [k]).zip (vs ++ [.ref p])))) := by
  have hap : a ≠ p := fun e => by rw [e, hp] at hv; cases hv
  -- the new list
  have S1 := S.newCel (ds := []) (vs := []) hp .nil
  have hn1 : (ρ ++ [p])[n]? = some a := pre_get (List.prefix_append _ _) hn
  have hlt : n < C.length := (List.getElem?_eq_some_iff.mp hc).1
  have hc1 : (C ++ [some (Ob.l [])])[n]? = some (some (.k ks ds)) := by rw [List.getElem?_append_left hlt]; exact hc
  have lC : ρ.length = C.length := S.len
  -- the dict, given up and taken anew
  have es : (C ++ [some (Ob.l [])]).set n none = C.set n none ++ [some (Ob.l [])] := by
    rw [List.set_append, if_pos hlt]
  have S3 := S1.drop n
  rw [es] at S3
  obtain ⟨⟨f1, f2⟩, _⟩ := S1.cel n a _ hn1 hc1
  have hv1 : upd H p (.lst []) a = some (.dK (ks.zip vs)) := by rw [upd_ne hap]; exact hv
  have dead : ∀ (m : Nat) (b : Addr) (o : Ob), (ρ ++ [p])[m]? = some b → (C.set n none ++ [some (Ob.l [])])[m]? = some (some o) → b ≠ a := fun m b o h1 h2 e => by
    subst e
    have hm : m ≠ n := fun e => by
      subst e
      rw [List.getElem?_append_left (by rw [List.length_set]; exact hlt), List.getElem?_set_self hlt] at h2
      cases h2
    have h3 : (C ++ [some (Ob.l [])])[m]? = some (some o) := by
      rw [← es, List.getElem?_set_ne (Ne.symm hm)] at h2
      exact h2
    exact hm (S1.inj m n b o _ h1 hn1 h3 hc1)
  have la : (ρ ++ [p]).length = (C.set n none ++ [some (Ob.l [])]).length := S3.len
  have e1 : ρ ++ [p, a] = (ρ ++ [p]) ++ [a] := by simp
  have e2 : C.set n none ++ [some (.l []), some (.k (ks ++ [k]) (ds ++ [.cel C.length]))] = (C.set n none ++ [some (Ob.l [])]) ++ [some (.k (ks ++ [k]) (ds ++ [.cel C.length]))] := by simp
  rw [e1, e2]
  generalize hCC : C.set n none ++ [some (Ob.l [])] = CC at S3 dead la ⊢
  generalize hrr : ρ ++ [p] = rr at S3 dead la hn1 ⊢
  refine ⟨fun b u q => ?_, fun b u q => ?_, S3.ap, by rw [List.length_append, List.length_append, la]; rfl, fun m b u h1 h2 => ?_, fun i j b u w h1 h2 h3 h4 => ?_, fun t ht => ⟨(S3.tab t ht).1, (S3.tab t ht).2.mono (fun _ _ h => h) fun o' h' _ => by
    rw [upd_ne ((S3.tab t ht).2.ne2 hv1 (fun ps e => by cases e))]
    exact h'⟩, S3.nt⟩
  · rw [upd_ne (ne_of_none q f1)]
    exact S3.ex b u q
  · rw [upd_ne (ne_of_none q f2)]
    exact S3.fr b u q
  · by_cases hm : m < rr.length
    · rw [List.getElem?_append_left hm] at h1
      rw [List.getElem?_append_left (by rw [← la]; exact hm)] at h2
      rw [upd_ne (dead m b u h1 h2), List.take_append_of_le_length (Nat.le_of_lt hm)]
      exact S3.cel m b u h1 h2
    · have hm' := (List.getElem?_eq_some_iff.mp h1).1
      rw [List.length_append] at hm'
      have hone : ([a] : List Addr).length = 1 := rfl
      have em : m = rr.length := by omega
      subst em
      rw [List.getElem?_append_right (Nat.le_refl _), Nat.sub_self] at h1
      rw [la, List.getElem?_append_right (Nat.le_refl _), Nat.sub_self] at h2
      have eb : a = b := Option.some.inj h1
      have eu := Option.some.inj (Option.some.inj h2)
      subst eb
      subst eu
      rw [upd_same, List.take_append_of_le_length (Nat.le_refl _), List.take_length]
      refine ⟨⟨f1, f2⟩, .k (by rw [List.length_append, List.length_append, hl]; rfl) ?_⟩
      refine Dats.app (hd.mono (Same.refl _) ?_) (.cons (.cel ?_) .nil)
      · rw [← hrr]
        exact (List.take_prefix n ρ).trans (List.prefix_append _ _)
      · rw [← hrr, ← lC, List.getElem?_append_right (Nat.le_refl _), Nat.sub_self]
        rfl
  · have new : ∀ {k0 : Nat} {b0 : Addr}, ¬ k0 < rr.length → (rr ++ [a])[k0]? = some b0 → k0 = rr.length ∧ a = b0 := fun {k0 b0} hk g1 => by
      have hn' := (List.getElem?_eq_some_iff.mp g1).1
      rw [List.length_append] at hn'
      have hone : ([a] : List Addr).length = 1 := rfl
      have en : k0 = rr.length := by omega
      subst en
      rw [List.getElem?_append_right (Nat.le_refl _), Nat.sub_self] at g1
      exact ⟨rfl, Option.some.inj g1⟩
    by_cases hi : i < rr.length
    · rw [List.getElem?_append_left hi] at h1
      rw [List.getElem?_append_left (by rw [← la]; exact hi)] at h3
      by_cases hj : j < rr.length
      · rw [List.getElem?_append_left hj] at h2
        rw [List.getElem?_append_left (by rw [← la]; exact hj)] at h4
        exact S3.inj i j b u w h1 h2 h3 h4
      · exact absurd (new hj h2).2.symm (dead i b u h1 h3)
    · obtain ⟨rfl, e3⟩ := new hi h1
      by_cases hj : j < rr.length
      · rw [List.getElem?_append_left hj] at h2
        rw [List.getElem?_append_left (by rw [← la]; exact hj)] at h4
        exact absurd e3.symm (dead j b w h2 h4)
      · exact (new hj h2).1.symm
theorem dVal_none {κ : Type} [DecidableEq κ] {α : Type} {k : κ} : ∀ {ks : List κ} {ds : List D} {xs : List V}, ks.length = xs.length → xs.length = ds.length → dVal ks ds k = none → valV (ks.zip xs) k = none ∧ addK ks k = ks ++ [k] ∧ ∀ v : V, putV ks xs k v = xs ++ [v]
  | ks, ds, xs, h, h2, e => by
    have : ∀ {ks : List κ} {ds : List D} {xs : List V}, ks.length = xs.length → xs.length = ds.length → dVal ks ds k = none → hasK ks k = false ∧ valV (ks.zip xs) k = none := fun {ks} => by
      induction ks with
      | nil => intro ds xs _ _ _; exact ⟨rfl, rfl⟩
      | cons k' ks ih =>
        intro ds xs h h2 e
        match xs, ds, h, h2, e with
        | x :: xs, d :: ds, h, h2, e =>
          unfold dVal at e
          split at e
          · cases e
          · rename_i hne
            obtain ⟨q1, q2⟩ := ih (by simpa using h) (by simpa using h2) e
            refine ⟨?_, ?_⟩
            · show (decide (k' = k) || hasK ks k) = false
              rw [q1]
              simp [hne]
            · rw [List.zip_cons_cons, valV_neg hne]
              exact q2
    obtain ⟨q1, q2⟩ := this h h2 e
    refine ⟨q2, ?_, fun v => ?_⟩
    · unfold addK
      rw [if_neg (by rw [q1]; decide)]
    · unfold putV
      rw [if_neg (by rw [q1]; decide)]
section
variable {X : Cx} {W : Wh}
theorem goApp {sv : S D} {m : Nat} {σ : L2.St} {Hf F : Hp} {ρ : List Addr} {env : Env} {C : Cells} {H : Hp} {D : Ends} {ad : Addr} (S0 : SR X.K Hf F ρ C H) (E0 : EnvR X.K X.mg W.xc Hf ρ σ env) (hm : ρ[m]? = some ad) (g : GoS X.K X.mg W Hf F ρ (xDo sv (appC m) env C) D) :
    tE X.K X.mg W sv σ H fun y H2 => ∃ xs, H2 ad = some (.lst xs) ∧ xs.length < sizeLine ∧ D.nx σ (upd H2 ad (.lst (xs ++ [y]))) := by
  refine ⟨Hf, F, ρ, env, C, S0, E0, (GoS.doit E0 g).mono fun y H2 ⟨Hf2, ρ2, C2, a, e2, p2, S2, A2, g2⟩ => ?_⟩
  unfold appC at g2
  split at g2
  · rename_i es hc
    split at g2
    · rename_i nc
      have hm2 := pre_get p2 hm
      obtain ⟨_, k2⟩ := S2.cel m ad _ hm2 hc
      obtain ⟨vs, hv, hd⟩ := k2.lst
      refine ⟨vs, hv, by rw [hd.len, sizeLine_eq]; omega, ?_⟩
      exact g2 σ _ Hf2 ρ2 (Same.refl _) (List.prefix_refl _) (S2.setCel hm2 hc (hd.app (.cons (A2.bare nc.1) .nil))) (E0.mono e2 p2)
    · exact g2.elim
  · exact g2.elim
theorem sc_setApp {i : Nat} {x : Str} {p1 p2 p3 p4 p5 p6 pos : Pos} {ke ve : Expr} {sk sv : S D} (h0 : PE X (.Name x p1) (tVar i)) (hk : SE X W ke sk) (hv : SE X W ve sv) (m2 : M2 X (.Name x p1) "setdefault" p2 ke (.List [] p3) p4)
    (mk : ∀ {to : TE} {t : TA}, PE X (.Call (.Attribute (.Name x p1) "setdefault" p2) [ke, .List [] p3] [] p4) to → PA X [ve] t → PE X (.Call (.Attribute (.Call (.Attribute (.Name x p1) "setdefault" p2) [ke, .List [] p3] [] p4) "append" p5) [ve] [] p6) (tBM X.K "list" rAppend to t))
    (hs : swapsWith (.Call (.Attribute (.Call (.Attribute (.Name x p1) "setdefault" p2) [ke, .List [] p3] [] p4) "append" p5) [ve] [] p6) none pos.line X.env = pure false)
    (h1 : starEach [ve] X.env = (false, eval ve X.env) :: starEach [] X.env) :
    SC X W (.Expr (.Call (.Attribute (.Call (.Attribute (.Name x p1) "setdefault" p2) [ke, .List [] p3] [] p4) "append" p5) [ve] [] p6) pos) (xSetApp i sk sv) :=
  ps_imp (ps_expr (mk (pe_dsetd h0 hk (pe_lst pa_nil) m2) (pa_cons hv pa_nil h1)) hs) fun D σ H ⟨Hf, F, ρ, env, C, S0, E0, g⟩ => by
    obtain ⟨o, xv, hσi, A1, g1⟩ : ∃ o xv, σ[i]? = some (some xv) ∧ Dat X.K Hf ρ xv o ∧ GoS X.K X.mg W Hf F ρ ((fun o e0 C0 => if isK o C0 = true then xDo sk (fun y => fun e C => match o with
      | .cel n => match C[n]? with
        | some (some (.k ks ds)) => match ky1 (vw C y) with
          | some k => if ks.length < 1000000 then match dVal ks ds k with
            | some (.cel m) => if isL m C = true then xDo sv (appC m) e (C ++ [some (.l [])]) else none
            | some _ => none
            | none => xDo sv (appC C.length) (e.set i (some (.cel (C.length + 1)))) (C.set n none ++ [some (.l []), some (.k (ks ++ [k]) (ds ++ [.cel C.length]))])
            else none
          | none => none
        | _ => none
      | _ => none) e0 C0 else none) o env C) D := by
      unfold xSetApp xDo xV at g
      cases he : env[i]? with
      | none => rw [he] at g; exact g.elim
      | some q =>
        rw [he] at g
        cases q with
        | none => exact g.elim
        | some d =>
          by_cases hd : isErr d = true
          · simp only [hd, if_true] at g
            exact g.elim
          · obtain ⟨v, h1, h2⟩ := E0.at_ i d he (by simpa using hd)
            simp only [hd, if_false] at g
            exact ⟨d, v, h1, h2, g⟩
    refine ⟨xv, hσi, ?_⟩
    have S1 := S0
    have e1 : Same Hf Hf := Same.refl _
    have q1 : ρ <+: ρ := List.prefix_refl _
    generalize hH1 : H = H1 at S1 ⊢
    generalize hC1 : C = C1 at S1 g1
    have E1 := E0
    by_cases hK : isK o C1 = true
    · simp only [hK, if_true] at g1
      obtain ⟨n, ad, rfl, rfl, hn, ks0, ds0, hc1⟩ : ∃ n ad, o = .cel n ∧ xv = .ref ad ∧ ρ[n]? = some ad ∧ ∃ ks ds, C1[n]? = some (some (.k ks ds)) := by
        unfold isK at hK
        split at hK
        · rename_i n
          split at hK
          · rename_i ks ds hc
            cases A1 with
            | cel h => exact ⟨n, _, rfl, rfl, h, ks, ds, hc⟩
          · cases hK
        · cases hK
      obtain ⟨_, k1⟩ := S1.cel n ad _ hn hc1
      obtain ⟨vs0, hv0, hl0, hd0⟩ := k1.dkt
      refine ⟨ad, rfl, .inl ⟨_, .inl hv0⟩, Hf, F, ρ, env, C1, S1, E1, (GoS.doit E1 g1).mono fun yv H2 ⟨Hf2, ρ2, C2, y, e2, q2, S2, A2, g2⟩ => ?_⟩
      have E2 := E1.mono e2 q2
      have hn2 := pre_get q2 hn
      refine ⟨by decide, fun p hp => ?_⟩
      simp only [] at g2
      cases hc2 : C2[n]? with
      | none => rw [hc2] at g2; exact g2.elim
      | some oo =>
        rw [hc2] at g2
        cases oo with
        | none => exact g2.elim
        | some ob =>
          cases ob with
          | l _ => exact g2.elim
          | t _ _ => exact g2.elim
          | k ks ds =>
            simp only [] at g2
            cases hky : ky1 (vw C2 y) with
            | none => rw [hky] at g2; exact g2.elim
            | some k =>
              rw [hky] at g2
              simp only [] at g2
              split at g2
              · rename_i hlen
                have hkv := kyv_ok (vw_ok S2 A2) hky
                obtain ⟨_, k2⟩ := S2.cel n ad _ hn2 hc2
                obtain ⟨vs, hva, hl, hd⟩ := k2.dkt
                have hap : ad ≠ p := fun e => by rw [e, hp] at hva; cases hva
                have hvp : upd H2 p (.lst []) ad = some (.dK (ks.zip vs)) := by rw [upd_ne hap]; exact hva
                have hz : (ks.zip vs).length < sizeLine := by rw [List.length_zip, sizeLine_eq]; omega
                refine ⟨ks.zip vs, k, hvp, hkv, hz, fun v hval => ?_, fun hval => ?_⟩
                · rcases dVal_ok (k := k) hl hd with ⟨h3, h4⟩ | ⟨v', d', h3, h4, h5⟩
                  · rw [h3] at hval; cases hval
                  · rw [h3] at hval
                    cases hval
                    rw [h4] at g2
                    cases d' with
                    | cel m =>
                      simp only [] at g2
                      split at g2
                      · rename_i hL
                        cases h5 with
                        | @cel _ am hm =>
                          have hm2 : ρ2[m]? = some am := pre_get (List.take_prefix _ _) hm
                          obtain ⟨es, hce⟩ : ∃ es, C2[m]? = some (some (.l es)) := by
                            unfold isL at hL
                            split at hL
                            · rename_i es hce
                              exact ⟨es, hce⟩
                            · cases hL
                          obtain ⟨_, k3⟩ := S2.cel m am _ hm2 hce
                          obtain ⟨vl, hvl, hdl⟩ := k3.lst
                          have hmp : am ≠ p := fun e => by rw [e, hp] at hvl; cases hvl
                          have S3 := S2.newCel (ds := []) (vs := []) hp .nil
                          have hm3 : (ρ2 ++ [p])[m]? = some am := pre_get (List.prefix_append _ _) hm2
                          refine ⟨.inl ⟨rfl, vl, .inl (.inl (by rw [upd_ne hmp]; exact hvl))⟩, ?_⟩
                          obtain ⟨Hf3, F3, ρ3, env3, C3, S4, E4, g4⟩ := goApp S3 (E2.mono (Same.refl _) (List.prefix_append _ _)) hm3 (GoS.later g2 (Same.refl _) (List.prefix_append _ _))
                          refine ⟨Hf3, F3, ρ3, env3, C3, S4, E4, g4.mono fun w H4 ⟨xs, f1, f2, f3⟩ => ?_⟩
                          exact ⟨am, xs, w, rfl, rfl, f1, f2, f3⟩
                      · exact g2.elim
                    | _ => exact g2.elim
                · rcases dVal_ok (k := k) hl hd with ⟨h3, h4⟩ | ⟨v', d', h3, h4, h5⟩
                  · rw [h4] at g2
                    simp only [] at g2
                    obtain ⟨_, ha1, ha2⟩ := dVal_none (α := Unit) hl hd.len h4
                    have S3 := S2.dropTo (k := k) hn2 hc2 hva hl hd hp
                    have hput : putK (ks.zip vs) k (.ref p) = (ks ++ [k]).zip (vs ++ [.ref p]) := by rw [putK_zip hl, ha1, ha2]
                    rw [hput]
                    refine ⟨.inl ⟨rfl, [], .inl (.inl (by rw [upd_ne (Ne.symm hap), upd_same]))⟩, ?_⟩
                    have hL : ρ2.length = C2.length := S2.len
                    have hm3 : (ρ2 ++ [p, ad])[C2.length]? = some p := by rw [← hL, List.getElem?_append_right (Nat.le_refl _), Nat.sub_self]; rfl
                    have hm4 : (ρ2 ++ [p, ad])[C2.length + 1]? = some ad := by
                      rw [← hL, List.getElem?_append_right (Nat.le_succ _), Nat.succ_sub (Nat.le_refl _), Nat.sub_self]
                      rfl
                    have E3 := E2.mono (Same.refl _) (List.prefix_append ρ2 [p, ad])
                    have E5 : EnvR X.K X.mg W.xc Hf2 (ρ2 ++ [p, ad]) σ (env.set i (some (.cel (C2.length + 1)))) := by
                      have e5 := E3.set (.cel hm4) i
                      have hsi : σ.set i (some (.ref ad)) = σ := set_same hσi
                      rw [hsi] at e5
                      exact e5
                    obtain ⟨Hf3, F3, ρ3, env3, C3, S4, E4, g4⟩ := goApp S3 E5 hm3 (GoS.later g2 (Same.refl _) (List.prefix_append _ _))
                    refine ⟨Hf3, F3, ρ3, env3, C3, S4, E4, g4.mono fun w H4 ⟨xs, f1, f2, f3⟩ => ?_⟩
                    exact ⟨p, xs, w, rfl, rfl, f1, f2, f3⟩
                  · rw [h3] at hval; cases hval
              · exact g2.elim
    · simp only [hK, if_false] at g1
      exact g1.elim
end
end Sm
end
section
set_option maxRecDepth 100000
set_option maxHeartbeats 0
namespace Sm
open PySem L2
variable [Tabs0]
variable {K : PySem.W.Frag} {mg : Str → Option Value}
/-! ### a dict with keys that are ints and texts changes no more; its lists neither -/
def frzL : List D → Cells → Option (List D × Cells)
  | [], C => some ([], C)
  | .cel m :: r, C => match C[m]? with
    | some (some (.l es)) => (frzL r (C.set m none)).map fun p => (.lst es :: p.1, p.2)
    | _ => none
  | d :: r, C => if nocel d = true then (frzL r C).map fun p => (d :: p.1, p.2) else none
mutual
theorem nocel_nil {H : Hp} {v : V} {d : D} (q : Dat K H [] v d) : nocel d = true :=
  match q with
  | .non => rfl
  | .bl _ => rfl
  | .int _ => rfl
  | .str _ => rfl
  | .tup _ hs => by simpa [nocel] using nocels_nil hs
  | .lst _ hs => by simpa [nocel] using nocels_nil hs
  | .cel h => by simp at h
  | .opq _ => rfl
  | .fn _ => rfl
  | .dk _ _ hs => by simpa [nocel] using nocels_nil hs
  | .dt _ _ hs => by simpa [nocel] using nocels_nil hs
  | .set _ _ => rfl
  | .ins _ _ _ hs => by simpa [nocel] using nocels_nil hs
theorem nocels_nil {H : Hp} {vs : List V} {ds : List D} (q : Dats K H [] vs ds) : nocels ds = true :=
  match q with
  | .nil => rfl
  | .cons h hs => by simp [nocels, nocel_nil h, nocels_nil hs]
end
theorem frzL_ok {F : Hp} {ρ : List Addr} {H : Hp} : ∀ {ds : List D} {vs : List V} {C C' : Cells} {ds' : List D} {Hf : Hp}, SR K Hf F ρ C H → Dats K Hf ρ vs ds → frzL ds C = some (ds', C') →
    ∃ Hf', Same Hf Hf' ∧ SR K Hf' F ρ C' H ∧ Dats K Hf' [] vs ds' ∧ (∀ (m : Nat) (o : Ob), C'[m]? = some (some o) → C[m]? = some (some o)) ∧ C'.length = C.length ∧ ∀ (m : Nat) (ks : List Key) (es : List D), C[m]? = some (some (.k ks es)) → C'[m]? = some (some (.k ks es))
  | [], vs, C, C', ds', Hf, S, h, e => by
    cases h
    cases e
    exact ⟨Hf, Same.refl _, S, .nil, fun _ _ h => h, rfl, fun _ _ _ h => h⟩
  | d :: r, _, C, C', ds', Hf, S, .cons (v := v) (vs := vs) hd hs, e => by
    have plain : nocel d = true → (frzL r C).map (fun p => (d :: p.1, p.2)) = some (ds', C') → ∃ Hf', Same Hf Hf' ∧ SR K Hf' F ρ C' H ∧ Dats K Hf' [] (v :: vs) ds' ∧ (∀ (m : Nat) (o : Ob), C'[m]? = some (some o) → C[m]? = some (some o)) ∧ C'.length = C.length ∧ ∀ (m : Nat) (ks : List Key) (es : List D), C[m]? = some (some (.k ks es)) → C'[m]? = some (some (.k ks es)) := fun nc e => by
      obtain ⟨p, h1, h2⟩ := Option.map_eq_some_iff.mp e
      obtain ⟨a, b⟩ := p
      simp only [Prod.mk.injEq] at h2
      obtain ⟨rfl, rfl⟩ := h2
      obtain ⟨Hf', e1, S1, D1, k1, k2, k3⟩ := frzL_ok S hs h1
      exact ⟨Hf', e1, S1, .cons ((hd.bare nc).mono e1 (List.prefix_refl _)) D1, k1, k2, k3⟩
    cases d with
    | cel m =>
      unfold frzL at e
      cases hc : C[m]? with
      | none => rw [hc] at e; cases e
      | some oo =>
        rw [hc] at e
        cases oo with
        | none => cases e
        | some o =>
          cases o with
          | l es =>
            simp only [] at e
            obtain ⟨p, h1, h2⟩ := Option.map_eq_some_iff.mp e
            obtain ⟨a, b⟩ := p
            simp only [Prod.mk.injEq] at h2
            obtain ⟨rfl, rfl⟩ := h2
            cases hd with
            | @cel _ ad hm =>
              have hlt : m < C.length := (List.getElem?_eq_some_iff.mp hc).1
              obtain ⟨Hf1, e1, S1, D1⟩ := S.freeze hm hc
              obtain ⟨Hf2, e2, S2, D2, k1, k2, k3⟩ := frzL_ok S1 (hs.mono e1 (List.prefix_refl _)) h1
              have nes : nocels es = true := by
                cases hq : nocels es with
                | true => rfl
                | false =>
                  obtain ⟨_, q⟩ := S.cel m ad _ hm hc
                  obtain ⟨vl, _, hdl⟩ := q.lst
                  rw [nocels_nil hdl] at hq
                  cases hq
              refine ⟨Hf2, e1.trans e2, S2, .cons ((D1.bare (by show nocels es = true; exact nes)).mono e2 (List.prefix_refl _)) D2, fun j o hj => ?_, by rw [k2, List.length_set], fun j ks es' hj => k3 j ks es' ?_⟩
              · have := k1 j o hj
                by_cases hjm : m = j
                · subst hjm
                  rw [List.getElem?_set_self hlt] at this
                  cases this
                · rw [List.getElem?_set_ne hjm] at this
                  exact this
              · have hjm : m ≠ j := fun e => by
                  subst e
                  rw [hc] at hj
                  cases hj
                rw [List.getElem?_set_ne hjm]
                exact hj
          | t _ _ => cases e
          | k _ _ => cases e
    | err _ _ _ => cases hd
    | _ =>
      unfold frzL at e
      split at e
      · rename_i nc
        exact plain nc e
      · cases e
/-- the dict itself is locked -/
theorem SR.lockK {Hf F : Hp} {ρ : List Addr} {C : Cells} {H : Hp} (S : SR K Hf F ρ C H) {n : Nat} {a : Addr} {ks : List Key} {ds : List D} {kvs : List (Key × V)} (hn : ρ[n]? = some a) (hc : C[n]? = some (some (.k ks ds))) (hv : H a = some (.dK kvs)) (od : Obj) :
    Same Hf (upd Hf a (.frz od (.dK kvs))) ∧ SR K (upd Hf a (.frz od (.dK kvs))) F ρ (C.set n none) (upd H a (.frz od (.dK kvs))) := by
  obtain ⟨hf, _⟩ := S.cel n a _ hn hc
  have e0 : Same Hf (upd Hf a (.frz od (.dK kvs))) := fun b u h => by
    rw [upd_ne (ne_of_none h hf.1)]
    exact h
  have S' := S.drop n
  refine ⟨e0, ⟨fun b u h => ?_, fun b u h => ?_, fun b u h => ?_, S'.len, fun m b u h1 h2 => ?_, S'.inj, fun t ht => by
    have ha := (S.tab t ht).2.ne2 hv (fun ps e => by cases e)
    exact ⟨by rw [upd_ne ha]; exact (S.tab t ht).1, (S.tab t ht).2.mono e0 fun o h _ => by rw [upd_ne ha]; exact h⟩, fun b ps => ⟨fun e => by
    by_cases hb : b = a
    · rw [hb, upd_same] at e
      cases e
    · rw [upd_ne hb] at e
      exact (S.nt b ps).1 e, (S.nt b ps).2⟩⟩⟩
  · by_cases hb : b = a
    · subst hb
      rw [upd_same] at h ⊢
      exact h
    · rw [upd_ne hb] at h ⊢
      exact S.ex b u h
  · rw [upd_ne (ne_of_none h hf.2)]
    exact S.fr b u h
  · rw [upd_ne (ne_of_none h hf.2)]
    exact S.ap b u h
  · obtain ⟨k1, k2⟩ := S'.cel m b u h1 h2
    have hm : m ≠ n := fun e => by
      subst e
      have hl : m < C.length := (List.getElem?_eq_some_iff.mp hc).1
      rw [List.getElem?_set_self hl] at h2
      cases h2
    have h2' : C[m]? = some (some u) := by
      rw [List.getElem?_set_ne (Ne.symm hm)] at h2
      exact h2
    have hb : b ≠ a := fun e => hm (S.inj m n a u _ (by rw [← e]; exact h1) hn h2' hc)
    rw [upd_ne hb, upd_ne hb]
    exact ⟨k1, k2.mono e0⟩
/-- a ghost step: the dict in slot i is locked, its lists are data -/
def xLockK (i : Nat) : SS := fun e C => match e[i]? with
  | some (some (.cel n)) => match C[n]? with
    | some (some (.k ks ds)) => match frzL ds C with
      | some (ds', C') => some (.nx (e.set i (some (.dk ks ds'))) (C'.set n none))
      | none => none
    | _ => none
  | _ => none
section
variable {X : Cx} {W : Wh}
theorem sc_lockK {st : Stmt} {s : SS} (i : Nat) (h : SC X W st s) : SC X W st (xSeq (xLockK i) s) := by
  refine ps_imp (ps_lock h) fun D σ H ⟨Hf, F, ρ, env, C, S0, E0, g⟩ => ?_
  unfold xSeq xLockK at g
  cases he : env[i]? with
  | none => rw [he] at g; exact g.elim
  | some o =>
    rw [he] at g
    cases o with
    | none => exact g.elim
    | some d =>
      cases d with
      | cel n =>
        simp only [] at g
        cases hc : C[n]? with
        | none => rw [hc] at g; exact g.elim
        | some oc =>
          rw [hc] at g
          cases oc with
          | none => exact g.elim
          | some ob =>
            cases ob with
            | l _ => exact g.elim
            | t _ _ => exact g.elim
            | k ks ds =>
              simp only [] at g
              cases hq : frzL ds C with
              | none => rw [hq] at g; exact g.elim
              | some p =>
                obtain ⟨ds', C'⟩ := p
                rw [hq] at g
                simp only [] at g
                obtain ⟨v, hv, hdv⟩ := E0.at_ i _ he rfl
                cases hdv with
                | @cel _ ad hn =>
                  obtain ⟨_, k2⟩ := S0.cel n ad _ hn hc
                  obtain ⟨vs, hva, hl, hd⟩ := k2.dkt
                  obtain ⟨Hf1, e1, S1, D1, k1, k3, k4⟩ := frzL_ok S0 (hd.mono (Same.refl _) (List.take_prefix _ _)) hq
                  refine ⟨ad, _, hva, True.intro, fun od => ?_⟩
                  obtain ⟨e2, S2⟩ := S1.lockK hn (k4 n ks ds hc) hva od
                  have DD : Dat X.K (upd Hf1 ad (.frz od (.dK (ks.zip vs)))) ρ (.ref ad) (.dk ks ds') := .dk ⟨od, upd_same⟩ hl (D1.mono e2 List.nil_prefix)
                  have E2 := (E0.mono (e1.trans e2) (List.prefix_refl ρ)).set DD i
                  rw [set_same hv] at E2
                  exact ⟨_, F, ρ, _, _, S2, E2, GoS.later g (e1.trans e2) (List.prefix_refl ρ)⟩
      | _ => exact g.elim
/-- a dict that is given away is locked -/
def xFrzK (s : S D) : S D := S.bind s fun d _ C => match d with
  | .cel n => match C[n]? with
    | some (some (.k ks ds)) => match frzL ds C with
      | some (ds', C') => some (.ok (.dk ks ds') (C'.set n none))
      | none => none
    | _ => none
  | _ => none
end
end Sm
end
section
set_option maxRecDepth 100000
set_option maxHeartbeats 0
namespace Sm
open PySem PySem.W PySem.Calls PySem.Spec PyProof.Rows PyProof.V L2
variable [Tabs0]
/-! ### sorted(d), the keys ints -/
theorem leI1 (a b : Int) : dataLe false (fun n : Int => PyData.int n) a b = decide (a ≤ b) := by
  show (!PyProof.Rows.lexLt itemOrd [Sum.inl b] [Sum.inl a]) = _
  have : PyProof.Rows.lexLt itemOrd [(Sum.inl b : Int ⊕ List Nat)] [Sum.inl a] = decide (b < a) := by
    simp [PyProof.Rows.lexLt, itemLt]
  rw [this]
  by_cases h : a ≤ b
  · simp [h, Int.not_lt.mpr h]
  · simp [h, Int.not_le.mp h]
theorem merge_sortI (ns : List Int) : ns.mergeSort (dataLe false (fun n : Int => PyData.int n)) = sortI ns := by
  have e : (dataLe false (fun n : Int => PyData.int n)) = fun a b : Int => decide (a ≤ b) := by
    funext a b
    exact leI1 a b
  rw [e]
  refine sorted_uniq ?_ (sortI_sorted ns) ((List.mergeSort_perm ns _).trans (sortI_perm ns).symm)
  have h := List.pairwise_mergeSort (le := fun a b : Int => decide (a ≤ b)) (fun a b c h1 h2 => by simp at h1 h2 ⊢; omega) (fun a b => by simp; omega) ns
  exact h.imp fun q => by simpa using q
def rSortK : List V → Hp → VK → Prop := fun vs H Q => ∃ (a : Addr) (kvs : List (Key × V)) (ns : List Int), vs = [.ref a] ∧ Rd H a (.dK kvs) ∧ kvs.map (·.1) = ns.map Sum.inl ∧
  ∀ (p : Addr), H p = none → Q (.ref p) (upd H p (.lst ((sortI ns).map V.int)))
theorem vals_int {us : List Value} : ∀ {ns : List Int}, EachIs (fun (u : Value) (n : Int) => ∃ t, u = .int n t) us ns → Vals (ns.map V.int) us := fun {ns} h => by
  induction h with
  | nil => exact .nil
  | cons h _ ih => exact .cons h ih
theorem pairs_get {P : Program} {w : World} {knd : KeyKind P w Key} : ∀ {es : List DictEntry} {kvs : List (Key × Value)}, PySem.Pairs knd es kvs → ∀ {j : Nat} {e : DictEntry}, es[j]? = some e → ∃ kv, kvs[j]? = some kv ∧ knd.is kv.1 e.key = true
  | _, _, .nil, j, e, h => by simp at h
  | _, _, .cons h1 _ _, 0, e, h => by
    have h := Option.some.inj h
    subst h
    exact ⟨_, rfl, h1⟩
  | _, _, .cons _ _ r, j + 1, e, h => by
    obtain ⟨kv, a, b⟩ := pairs_get r (j := j) (by simpa using h)
    exact ⟨kv, by simpa using a, b⟩
theorem cr_sortedK {X : Cx} (hc : X.calm = true) (hu : X.A.units + 64 < cLine) : CallR X (.builtin "sorted") rSortK := by
  intro pins s σ H vs us Q I r h
  obtain ⟨a, kvs, ns, rfl, ha, hks, q⟩ := h
  obtain rfl := Vals.ref1 r
  obtain ⟨z, hd, xs', rel, o, es, ep, ho, hx, hdat, hes, hprs, hnd⟩ := dk_rd I.hok ha
  have l1 : kvs.length = xs'.length := Paired.length rel
  have l2 : es.size = xs'.length := by
    have := hprs.length
    rw [Array.length_toList] at this
    exact this
  have l3 : kvs.length = ns.length := by
    have := congrArg List.length hks
    simpa using this
  refine sortedK (es := es) (ep := ep) (I.ok.hd hc) hd ⟨o, ho, hx, hdat⟩ (by omega) fun h' tk vs hk hlt hl hG => ?_
  have e1 : EachIs (fun (u : Value) (n : Int) => ∃ t, u = .int n t) vs ns := each_get (by omega) fun j v n hv hn => by
    obtain ⟨hj, rfl⟩ := hG j v hv
    have hjk : j < kvs.length := by omega
    obtain ⟨b, hb, r1, r2⟩ := paired_get rel (List.getElem?_eq_getElem hjk)
    obtain ⟨kv, hkv, his⟩ := pairs_get hprs (j := j) (e := es[j]) (by rw [Array.getElem?_toList, Array.getElem?_eq_getElem hj])
    rw [hb] at hkv
    cases hkv
    have hkn : kvs[j].1 = Sum.inl n := by
      have := congrArg (fun l => l[j]?) hks
      simp only [List.getElem?_map, List.getElem?_eq_getElem hjk, hn, Option.map_some] at this
      exact Option.some.inj this
    rcases keyIs_shape his with ⟨i, t, g1, g2⟩ | ⟨x, t, g1, g2⟩
    · rw [← r1, hkn] at g1
      cases g1
      exact ⟨t, g2⟩
    · rw [← r1, hkn] at g1
      cases g1
  have hpush : ∀ b o, s.heap.get? b = some o → (h'.push { cls := .type "list", data := .seq vs.toArray }).get? b = some o := fun b o e => Heap.get?_push_of_some _ (hk b o e)
  have hob : (h'.push { cls := .type "list", data := .seq vs.toArray }).get? h'.objs.size = some (seqObj "list" vs.toArray 0) := Heap.get?_push_size _ rfl
  refine list_sort_data (R := fun (u : Value) (n : Int) => ∃ t, u = .int n t) (enc := fun n : Int => PyData.int n) (bs := ns) hob e1 (e1.mono fun v b ⟨t, e⟩ => ⟨[], by subst e; exact .int b t, by simp⟩) (AllAlike.of fun b b' => rfl) (.inr fun d hd => ?_) (by omega) (fun b hb => ?_) fun out ho2 eo => ?_
  · obtain ⟨b, hb, rfl⟩ := List.mem_map.mp hd
    exact ⟨fun e => (by cases e), fun xs e => (by cases e)⟩
  · show X.A.units + 1 + 1 + 0 < cLine
    omega
  · rw [merge_sortI] at eo
    obtain ⟨ep2, hat⟩ := sortedHeap_at (out := out.toArray) hob
    have hv := vals_int eo
    have hylen : ((sortI ns).map V.int).length ≤ sizeLine := by rw [hv.length, ho2]; omega
    refine ⟨.ref h'.objs.size, upd H h'.objs.size (.lst ((sortI ns).map V.int)), I.laid (t' := tk) (fun b o e => ?_) (Nat.le_of_lt hlt) ⟨hylen, out, ep2, hv, hat⟩, rfl, q _ (I.hok.fresh (Nat.le_of_lt hlt))⟩
    have hb1 := hpush b o e
    rw [sortedHeap_old (Nat.ne_of_lt (Heap.lt_size (hk b o e))) (Heap.lt_size hb1)]
    exact hb1
/-! ### as data -/
def intK : List Key → Option (List Int)
  | [] => some []
  | .inl i :: r => (intK r).map (i :: ·)
  | _ => none
theorem intK_ok : ∀ {ks : List Key} {ns : List Int}, intK ks = some ns → ks = ns.map Sum.inl
  | [], _, h => by cases h; rfl
  | .inl i :: r, _, h => by
    obtain ⟨m, h1, rfl⟩ := Option.map_eq_some_iff.mp (show (intK r).map (i :: ·) = some _ from h)
    rw [intK_ok h1]
    rfl
  | .inr _ :: _, _, h => by cases h
def srtK : List D → Option (List D)
  | [.dk ks _] => (intK ks).map fun ns => (sortI ns).map D.int
  | _ => none
def xSrtK (s : S (List D)) : S (List D) := S.bind s fun ds => fun env C => S.opt (srtK (ds.map (vw C))) env C
section
variable {X : Cx} {W : Wh}
theorem sl_srtK {x : Str} {p pos : Pos} {es : List Expr} {s : S (List D)} (h : PE X (.Call (.Name x p) es [] pos) (tCB rSortK (tA X.K X.mg W s))) :
    SL X W (.Call (.Name x p) es [] pos) (xSrtK s) := pe_imp h fun σ H Q ⟨Hf, F, ρ, env, C, S0, E0, g⟩ => ⟨Hf, F, ρ, env, C, S0, E0, by
    unfold xSrtK S.bind at g
    cases e : s env C with
    | none =>
      rw [e] at g
      exact g
    | some r =>
      rw [e] at g
      cases r with
      | ex c q C' => exact g
      | ok ds C' =>
        refine fun vs H' Hf' ρ' e' p' S' A' => ?_
        have g' : GoL X.K X.mg W σ Hf F ρ (S.opt (srtK (ds.map (vw C'))) env C') Q := g
        match ds, A', g' with
        | [d], .cons (v := v) hd .nil, g' =>
          have hv := vw_ok S' hd
          generalize hw : vw C' d = w at hv g'
          have hw2 : [d].map (vw C') = [w] := by rw [List.map_cons, hw]; rfl
          rw [hw2] at g'
          cases w with
          | dk ks xs =>
            cases hn : intK ks with
            | none => simp only [srtK, hn] at g'; exact g'.elim
            | some ns =>
              have hsome : srtK [D.dk ks xs] = some ((sortI ns).map D.int) := by simp only [srtK, hn]; rfl
              rw [hsome] at g'
              obtain ⟨a, ys, rfl, hr, hl, hs⟩ := hv.dk S'.ex
              have hks := intK_ok hn
              refine ⟨a, _, ns, rfl, hr, ?_, fun p hp => ?_⟩
              · rw [← hks]
                have : ∀ {ks : List Key} {ys : List V}, ks.length = ys.length → (ks.zip ys).map (·.1) = ks := fun {ks} => by
                  induction ks with
                  | nil => intro ys _; simp
                  | cons k ks ih =>
                    intro ys h
                    cases ys with
                    | nil => simp at h
                    | cons y ys => rw [List.zip_cons_cons, List.map_cons, ih (by simpa using h)]
                exact this hl
              · exact g' (.ref p) _ Hf' ρ' e' p' (fresh_new S' hp (dats_ints _))
          | _ => exact g'.elim
        | [], _, g' => exact g'.elim
        | d1 :: d2 :: ds, _, g' =>
          have : srtK ((d1 :: d2 :: ds).map (vw C')) = none := by
            simp only [List.map_cons]
            cases vw C' d1 <;> rfl
          rw [this] at g'
          exact g'.elim⟩
end
end Sm
end
section
set_option maxRecDepth 100000
set_option maxHeartbeats 0
namespace Sm
open PySem PySem.Spec PyProof.Rows L2
variable [Tabs0]
variable {K : PySem.W.Frag} {mg : Str → Option Value}
/-! ### walks over the values and the pairs of a locked dict with keys that are ints and texts -/
def its1 (ks : List Key) (ds : List D) : List D := List.zipWith (fun k d => .tup [kD k, d]) ks ds
def dvals : D → Option (List D × Gd)
  | .dk ks ds => some (ds, gd0)
  | _ => none
def ditemsK : D → Option (List D × Gd)
  | .dk ks ds => some (its1 ks ds, gd0)
  | _ => none
def iVl (s : S D) : SW := S.bind s fun d env C => S.opt (dvals d) env C
def iItK (s : S D) : SW := S.bind s fun d env C => S.opt (ditemsK d) env C
section
variable {X : Cx} {W : Wh}
end
/-! ### len of a dict -/
def rLenD : List V → Hp → VK → Prop := fun xs H Q => ∃ a, xs = [.ref a] ∧ ((∃ kvs, Rd H a (.dK kvs) ∧ Q (.int ((kvs.length : Nat) : Int)) H) ∨ ∃ kvs, Rd H a (.dT kvs) ∧ Q (.int ((kvs.length : Nat) : Int)) H)
def dLenD : List D → Option D
  | [.dk ks _] => some (.int ks.length)
  | [.dt ks _] => some (.int ks.length)
  | _ => none
/-! ### d.setdefault(k, v), plain values, keys that are ints and texts -/
def xSetD (so sk sz : S D) : S D := S.bind so fun o => fun env C0 => if isK o C0 = true then (S.bind sk fun y => S.bind sz fun z => fun _ C => match o with
  | .cel n => match C[n]? with
    | some (some (.k ks ds)) => match ky1 (vw C y) with
      | some k => if ks.length < 1000000 then match dVal ks ds k with
        | some d => some (.ok d C)
        | none => if nocel z = true then some (.ok z (C.set n (some (.k (ks ++ [k]) (ds ++ [z]))))) else none
        else none
      | none => none
    | _ => none
  | _ => none) env C0 else none
section
variable {X : Cx} {W : Wh}
end
end Sm
end
section
set_option maxRecDepth 100000
set_option maxHeartbeats 0
namespace Sm
open PySem PySem.Spec PyProof.Rows L2
variable [Tabs0]
/-! ### sorted(ints), of any length -/
theorem no_key (a : Addr) : Builtin.«list.sort» ⟨[.ref a], []⟩ = Builtin.«list.sort» ⟨[.ref a], [(Str.ofString "reverse", .bool false)]⟩ := by
  rw [PyProof.Rows.list_sort_rev]
  first | rfl | kernel_rfl
theorem cr_sortedW {X : Cx} : CallR X (.builtin "sorted") (fun vs H Q => rSortedKw X.K false [] vs [] H Q) := by
  intro pins s σ H vs us Q I r h
  obtain ⟨a, ns, rfl, _, hs, q⟩ := h
  obtain rfl := Vals.ref1 r
  exact sorted_run I hs no_key (by unfold argsOk; kernel_rfl) (fun _ => PyProof.Rows.args_list_sort _) q
def srtW (ds : List D) : Option (List D) := match ds with
  | [.lst es] => (intsOf es).map fun ns => (sortI ns).map D.int
  | _ => none
def xSrtW (s : S (List D)) : S (List D) := S.bind s fun ds => fun env C => S.opt (srtW (ds.map (vw C))) env C
section
variable {X : Cx} {W : Wh}
theorem sl_srtW {x : Str} {p pos : Pos} {es : List Expr} {s : S (List D)} (h : PE X (.Call (.Name x p) es [] pos) (tCB (fun vs H Q => rSortedKw X.K false [] vs [] H Q) (tA X.K X.mg W s))) :
    SL X W (.Call (.Name x p) es [] pos) (xSrtW s) := pe_imp h fun σ H Q ⟨Hf, F, ρ, env, C, S0, E0, g⟩ => ⟨Hf, F, ρ, env, C, S0, E0, by
    unfold xSrtW S.bind at g
    cases e : s env C with
    | none =>
      rw [e] at g
      exact g
    | some r =>
      rw [e] at g
      cases r with
      | ex c q C' => exact g
      | ok ds C' =>
        refine fun vs H' Hf' ρ' e' p' S' A' => ?_
        have g' : GoL X.K X.mg W σ Hf F ρ (S.opt (srtW (ds.map (vw C'))) env C') Q := g
        cases hd : srtW (ds.map (vw C')) with
        | none =>
          rw [hd] at g'
          exact g'.elim
        | some es =>
          rw [hd] at g'
          have hv := vws_ok S' A'
          unfold srtW at hd
          split at hd
          · rename_i es0 heq
            obtain ⟨ns, h1, h2⟩ := Option.map_eq_some_iff.mp hd
            subst h2
            rw [heq] at hv
            cases hv with
            | cons h hs =>
              cases hs
              obtain ⟨a, xs, rfl, hx, hs⟩ := h.lst S'.ex
              have := intsOf_ok hs h1
              subst this
              refine ⟨a, ns, rfl, rfl, hx, fun ns' l hp hs' hl => ?_⟩
              have hs' : ns'.Pairwise (· ≤ ·) := hs'
              have en : ns' = sortI ns := sorted_uniq hs' (sortI_sorted ns) (hp.trans (sortI_perm ns).symm)
              subst en
              exact g' (.ref l) _ Hf' ρ' e' p' (fresh_new S' hl (dats_ints _))
          · cases hd⟩
end
/-! ### x in a tuple of data -/
def rInTD (K : PySem.W.Frag) : R2 := fun x y H Q => ∃ d ds, Dp K H x d ∧ Dp K H y (.tuple ds) ∧ SeqAt.shaped d = true ∧ SeqAt.shaped (.tuple ds) = true ∧ Q (.bl (ds.any fun z => PyData.eqv z d)) H
def rNotInTD (K : PySem.W.Frag) : R2 := fun x y H Q => ∃ d ds, Dp K H x d ∧ Dp K H y (.tuple ds) ∧ SeqAt.shaped d = true ∧ SeqAt.shaped (.tuple ds) = true ∧ Q (.bl (!ds.any fun z => PyData.eqv z d)) H
def dInT : D → D → Option D := fun a b => match b with
  | .tup ds => if okE a 60 = true ∧ okE (.tup ds) 60 = true then some (.bl (ds.any fun z => eqd z a)) else none
  | _ => none
def dNotInT : D → D → Option D := fun a b => match b with
  | .tup ds => if okE a 60 = true ∧ okE (.tup ds) 60 = true then some (.bl (!ds.any fun z => eqd z a)) else none
  | _ => none
variable {K : PySem.W.Frag}
end Sm
end
section
set_option maxRecDepth 100000
set_option maxHeartbeats 0
namespace Sm
variable [Tabs0]
open PySem PySem.W PySem.Calls PySem.Spec PyProof.Rows PyProof.V
/-! ### sorted(d) where the keys are rows of ints, none empty, or just one -/
section
variable {prog : Program} {w : World} {A : Around} {E : Value → Shared → Prop} {s : Shared} {β : Type}
end
open L2
def rSortD1 : List V → Hp → VK → Prop := fun vs H Q => ∃ (a : Addr) (kvs : List (List Key × V)) (ns : List (List Int)), vs = [.ref a] ∧ Rd H a (.dT kvs) ∧ kvs.map (·.1) = ns.map (·.map Sum.inl) ∧ ((∀ n ∈ ns, n ≠ []) ∨ ns.length ≤ 1) ∧
  ∀ (ys : List V) (p : Addr), EachIs (KeyR H) ys (sortR ns) → H p = none → Q (.ref p) (upd H p (.lst ys))
def rowsK1 (ks : List (List Key)) : Option (List (List Int)) := match rowsK ks with
  | some r => some r
  | none => match ks with
    | [[]] => some [[]]
    | _ => none
/-- the order of rows, and the sort by insertion, which the kernel can reckon -/
def leL : List Int → List Int → Bool
  | [], _ => true
  | _ :: _, [] => false
  | a :: r, b :: t => if a < b then true else if a = b then leL r t else false
theorem leL_iff : ∀ {p q : List Int}, leL p q = true ↔ p ≤ q
  | [], q => by simp [leL]
  | a :: r, [] => by
    simp [leL]
  | a :: r, b :: t => by
    rw [List.cons_le_cons_iff]
    unfold leL
    by_cases h : a < b
    · simp [h]
    · by_cases h' : a = b
      · simp [h', leL_iff (p := r) (q := t)]
      · simp [h, h']
theorem leI_leL : leI = leL := by
  funext p q
  have h : leI p q = decide (p ≤ q) := by
    show (!dataLt (.tuple (q.map .int)) (.tuple (p.map .int))) = _
    rw [dataLt_tuple]
    show (!rowLt (q.map .int) (p.map .int)) = _
    rw [dataLt_ints]
    by_cases h : q < p
    · have h' : ¬ p ≤ q := fun r => List.not_lt.mpr r h
      simp [h, h']
    · have h' : p ≤ q := List.not_lt.mp h
      simp [h, h']
  rw [h, Bool.eq_iff_iff, decide_eq_true_iff, leL_iff]
def insL (x : List Int) : List (List Int) → List (List Int)
  | [] => [x]
  | y :: t => if leL x y = true then x :: y :: t else y :: insL x t
def insS : List (List Int) → List (List Int)
  | [] => []
  | x :: t => insL x (insS t)
theorem insL_perm (x : List Int) : ∀ l, (insL x l).Perm (x :: l)
  | [] => .refl _
  | y :: t => by
    unfold insL
    split
    · exact .refl _
    · exact ((insL_perm x t).cons y).trans (.swap ..)
theorem insS_perm : ∀ l, (insS l).Perm l
  | [] => .refl _
  | x :: t => (insL_perm x (insS t)).trans ((insS_perm t).cons x)
theorem leL_total (p q : List Int) : leL p q = true ∨ leL q p = true := by
  rw [leL_iff, leL_iff]
  exact List.le_total p q
theorem insL_sorted (x : List Int) : ∀ l : List (List Int), l.Pairwise (fun a b => leL a b = true) → (insL x l).Pairwise (fun a b => leL a b = true)
  | [], _ => by simp [insL]
  | y :: t, h => by
    obtain ⟨h1, h2⟩ := List.pairwise_cons.mp h
    unfold insL
    split
    · rename_i hx
      refine List.pairwise_cons.mpr ⟨fun z hz => ?_, h⟩
      rcases List.mem_cons.mp hz with rfl | hz
      · exact hx
      · exact leL_iff.mpr (List.le_trans (leL_iff.mp hx) (leL_iff.mp (h1 z hz)))
    · rename_i hx
      refine List.pairwise_cons.mpr ⟨fun z hz => ?_, insL_sorted x t h2⟩
      rcases List.mem_cons.mp ((insL_perm x t).mem_iff.mp hz) with rfl | hz
      · exact (leL_total z y).resolve_left hx
      · exact h1 z hz
theorem insS_sorted : ∀ l : List (List Int), (insS l).Pairwise (fun a b => leL a b = true)
  | [] => .nil
  | x :: t => insL_sorted x _ (insS_sorted t)
theorem sortR_ins (ns : List (List Int)) : sortR ns = insS ns := by
  have h1 : (sortR ns).Pairwise (fun a b => leL a b = true) := by
    unfold sortR
    rw [leI_leL]
    refine List.pairwise_mergeSort (fun a b c h h' => ?_) (fun a b => ?_) ns
    · exact leL_iff.mpr (List.le_trans (leL_iff.mp h) (leL_iff.mp h'))
    · rw [Bool.or_eq_true]
      exact leL_total a b
  exact List.Perm.eq_of_pairwise (fun a b _ _ h h' => List.le_antisymm (leL_iff.mp h) (leL_iff.mp h')) h1 (insS_sorted ns) ((List.mergeSort_perm _ _).trans (insS_perm ns).symm)
def srtD1 : List D → Option (List D)
  | [.dt ks _] => (rowsK1 ks).map fun ns => (insS ns).map rowD
  | _ => none
def xSrtD1 (s : S (List D)) : S (List D) := S.bind s fun ds => fun env C => S.opt (srtD1 (ds.map (vw C))) env C
section
variable {X : Cx} {W : Wh}
end
end Sm
end
section
set_option maxRecDepth 100000
set_option maxHeartbeats 0
namespace Sm
variable [Tabs0]
open PySem PySem.W PySem.Calls PySem.Spec PyProof.Rows PyProof.V
/-! ### sorted(xs), xs a list of rows of ints (none empty, or just one) -/
section
variable {prog : Program} {w : World} {A : Around} {E : Value → Shared → Prop} {s : Shared} {β : Type}
end
open L2
def rSortL (K : PySem.W.Frag) : List V → Hp → VK → Prop := fun vs H Q => ∃ (a : Addr) (ys0 : List V) (ns : List (List Int)), vs = [.ref a] ∧ SqL K H a ys0 ∧ EachIs (KeyR H) ys0 ns ∧ ((∀ n ∈ ns, n ≠ []) ∨ ns.length ≤ 1) ∧
  ∀ (ys : List V) (p : Addr), EachIs (KeyR H) ys (sortR ns) → H p = none → Q (.ref p) (upd H p (.lst ys))
/-- rows of ints among data -/
def rowI : D → Option (List Int)
  | .tup ds => intsOf ds
  | _ => none
def rowsI : List D → Option (List (List Int))
  | [] => some []
  | d :: ds => match rowI d, rowsI ds with
    | some n, some r => some (n :: r)
    | _, _ => none
def srtL (ds : List D) : Option (List D) := match ds with
  | [.lst es] => (rowsI es).bind fun ns => if (ns.all fun n => !n.isEmpty) = true ∨ ns.length ≤ 1 then some ((insS ns).map rowD) else none
  | _ => none
def xSrtL (s : S (List D)) : S (List D) := S.bind s fun ds => fun env C => S.opt (srtL (ds.map (vw C))) env C
section
variable {X : Cx} {W : Wh}
end
end Sm
end
section
set_option maxRecDepth 100000
set_option maxHeartbeats 0
namespace Sm
variable [Tabs0]
open PySem PySem.W PySem.Calls PySem.Spec PyProof.Rows PyProof.V
/-! ### sorts of rows, some of them empty -/
section
variable {prog : Program} {w : World} {A : Around} {E : Value → Shared → Prop} {s : Shared} {β : Type}
theorem call_tuple_lt {Q : Value → Shared → Prop} {l b : Addr} {items items2 : Array Value} {e r : Nat → Bool} (hl : s.heap.IsTuple l items) (hb : s.heap.IsTuple b items2)
    (he : ∀ j (h1 : j < items.size) (h2 : j < items2.size), SeqAt.EqAt A.in1 s items[j] items2[j] (e j)) (hr : ∀ j (h1 : j < items.size) (h2 : j < items2.size), e j = false → SeqAt.RcLt A.in1 s items[j] items2[j] (r j))
    (h : Q (.bool (SeqAt.firstLt e r (decide (items.size < items2.size)) (List.range (min items.size items2.size)))) s) : wpAny (model prog w) A (call (.builtin "tuple.__lt__") [.ref l, .ref b]) Q E s := by
  obtain ⟨⟨cls, dd, data, sl⟩, ho, hc, n, hd⟩ := id hl
  obtain ⟨⟨cls2, dd2, data2, sl2⟩, ho2, hc2, n2, hd2⟩ := id hb
  simp only at hc hd hc2 hd2
  subst hc hd hc2 hd2
  exact call_meets F.slot_tuple_lt ⟨_, ho, rfl⟩ F.entry_tuple_lt (F.args_tuple_lt_2 _ _) (SeqAt.tuple_ltAt l b items items2 n n2 dd dd2 sl sl2 e r) ⟨ho, ho2, he, hr, h⟩
theorem oneLt_tuple {xs ys : List PyData} {a b : Value} {as bs : List Addr} {Q : Bool → Shared → Prop} (ra : Reads s.heap a (.tuple xs) as) (rb : Reads s.heap b (.tuple ys) bs) (h : alike (.tuple xs) (.tuple ys) = true)
    (hu : A.units + min (PyData.tuple xs).depth (PyData.tuple ys).depth < cLine) (hq : Q (dataLt (.tuple xs) (.tuple ys)) s) : wpAny (model prog w) A (oneLt' true a b) Q E s := by
  have hal : alikeAll xs ys = true := by simpa [alike] using h
  cases ra with
  | @tuple l o vs n _ as₁ h1 h2 h3 h4 =>
    cases rb with
    | @tuple l' o' vs' n' _ bs₁ k1 k2 k3 k4 =>
      have n1 : vs.size = xs.length := by simpa using SeqAt.ReadsAll.length _ _ _ h4
      have n2 : vs'.size = ys.length := by simpa using SeqAt.ReadsAll.length _ _ _ k4
      rw [dataLt_tuple, ← firstLt_toks xs ys hal, ← n1, ← n2] at hq
      rw [oneLt'_eq]
      simp only [if_true]
      refine wpAny_bind (wpAny_cRoomFor (SeqAt.room_here hu) ?_)
      refine wpAny_bind (wpAny_callSpecialIfBound?_slot (T := "tuple") ⟨_, h1, h2⟩ F.slot_tuple_lt (call_tuple_lt (e := SeqAt.pairEq xs ys) (r := fun j => dataLt (xs.getD j .none) (ys.getD j .none)) ⟨_, h1, h2, _, h3⟩ ⟨_, k1, k2, _, k3⟩ (fun j j1 j2 => ?_) (fun j j1 j2 hj => ?_) ?_))
      · have := eqAt_alikeAll xs ys A.in1 s vs.toList vs'.toList _ _ h4 k4 hal (SeqAt.room_in hu) j (by simpa using j1) (by simpa using j2)
        simpa using this
      · have := rcLt_alikeAll xs ys A.in1 s vs.toList vs'.toList _ _ h4 k4 hal (SeqAt.room_in hu) j (by simpa using j1) (by simpa using j2) hj
        simpa using this
      · exact wpAny_truthy_bool hq
/-- what mapM of the first items gives -/
def nonE : PyData → Bool
  | .tuple (_ :: _) => true
  | _ => false
theorem firsts_rows : ∀ {vs : List Value} {ds : List PyData} {Q : List (Option Value) → Shared → Prop}, EachIs (fun v d => ∃ as, Reads s.heap v d as) vs ds → (∀ d, d ∈ ds → ∃ xs, d = .tuple xs) → (∀ fs : List (Option Value), fs.map (·.isSome) = ds.map nonE → Q fs s) → wpAny (model prog w) A (vs.mapM firstOfTuple') Q E s
  | _, _, Q, .nil, _, h => by
    rw [List.mapM_nil]
    exact wpAny_pure (h [] rfl)
  | v :: vs, d :: ds, Q, .cons ⟨as, r⟩ t, ht, h => by
    obtain ⟨xs, rfl⟩ := ht d List.mem_cons_self
    rw [List.mapM_cons]
    refine wpAny_bind ?_
    rw [kas_first_eq]
    cases r with
    | @tuple a o its n _ _ ho hc hd hr =>
      refine wpAny_bind (Looks.here (show Looks (model prog w) s.heap (typeOf (.ref a)) o.cls from (Looks.ld ho).andThen .now) ?_)
      rw [hc, if_neg (by first | decide | simp)]
      refine wpAny_bind (listItems_at ho hd (wpAny_pure ?_))
      refine wpAny_bind (firsts_rows (Q := fun bs s' => wpAny (model prog w) A (pure (its[0]? :: bs)) Q E s') t (fun d hd => ht d (List.mem_cons_of_mem _ hd)) fun fs hfs => wpAny_pure (h _ ?_))
      rw [List.map_cons, List.map_cons, hfs]
      congr 1
      have hl := SeqAt.ReadsAll.length _ _ _ hr
      cases xs with
      | nil =>
        have : its.size = 0 := by simpa using hl
        rw [Array.getElem?_eq_none (by omega)]
        rfl
      | cons x xs =>
        have : its.size = xs.length + 1 := by simpa using hl
        rw [Array.getElem?_eq_getElem (by omega)]
        rfl
theorem looks_tup {vs : List Value} {ds : List PyData} (e : EachIs (fun v d => ∃ as, Reads s.heap v d as) vs ds) (ht : ∀ d, d ∈ ds → ∃ xs, d = .tuple xs) : ∀ v ∈ vs, Looks (model prog w) s.heap (typeOf v) (Value.type "tuple") := fun v hv => by
  obtain ⟨d, hd, as, r⟩ := e.left v hv
  obtain ⟨xs, rfl⟩ := ht d hd
  exact looks_reads r
theorem kind_rows {vs : List Value} {ds : List PyData} {Q : SortKind → Shared → Prop} (e : EachIs (fun v d => ∃ as, Reads s.heap v d as) vs ds) (ht : ∀ d, d ∈ ds → ∃ xs, d = .tuple xs) (hn : ¬ ds.all nonE = true) (h2 : 2 ≤ vs.length) (h : Q (if ((ds[0]?.map nonE).getD false) = true then general' else oneType') s) :
    wpAny (model prog w) A (keyKind' vs.toArray) Q E s := by
  rw [kat_kind_eq, List.mapM_toArray, map_eq_pure_bind]
  refine wpAny_bind (wpAny_bind (firsts_rows e ht fun fs hfs => wpAny_pure ?_))
  have hall : (fs.toArray.all fun x => x.isSome) = ds.all nonE := by
    have h1 : (fs.map (·.isSome)).all id = (ds.map nonE).all id := by rw [hfs]
    rw [List.all_map, List.all_map] at h1
    simpa using h1
  rw [hall, if_neg hn]
  have h0 : (fs.toArray[0]?.bind id).isSome = (ds[0]?.map nonE).getD false := by
    have h1 : (fs.map (·.isSome))[0]? = (ds.map nonE)[0]? := by rw [hfs]
    rw [List.getElem?_map, List.getElem?_map] at h1
    rw [← h1]
    cases hf : fs with
    | nil => rfl
    | cons f t => cases f <;> rfl
  rw [h0]
  by_cases q : (ds[0]?.map nonE).getD false = true
  · rw [if_pos q] at h ⊢
    exact wpAny_pure h
  · rw [if_neg q] at h ⊢
    obtain ⟨v₁, v₂, rest, rfl⟩ : ∃ v₁ v₂ rest, vs = v₁ :: v₂ :: rest := by
      match vs, h2 with
      | [], h2 => simp at h2
      | [_], h2 => simp at h2
      | v₁ :: v₂ :: rest, _ => exact ⟨v₁, v₂, rest, rfl⟩
    have hT := looks_tup (prog := prog) (w := w) e ht
    rw [oneTypeOnly'_eq, List.mapM_toArray, map_eq_pure_bind]
    refine wpAny_bind (wpAny_bind (wpAny_bind (kas_mapM (r := Value.type "tuple") _ (fun v hv Q' hq => (hT v hv).here hq) (wpAny_pure ?_))))
    have hall2 : ((List.map (fun _ => Value.type "tuple") (v₁ :: v₂ :: rest)).toArray.all fun x => x == Value.type "tuple") = true := by
      simp only [List.all_toArray, List.all_map, List.all_eq_true]
      intro _ _
      exact beq_self_eq_true _
    have h00 : (List.map (fun _ => Value.type "tuple") (v₁ :: v₂ :: rest)).toArray[0]? = some (Value.type "tuple") := by simp
    rw [h00]
    simp only [hall2, if_true]
    exact wpAny_pure (wpAny_pure h)
theorem sortsAtR {vs : List Value} {ds : List PyData} (e : EachIs (fun v d => ∃ as, Reads s.heap v d as) vs ds) (hal : AllAlike ds) (ht : ∀ d, d ∈ ds → ∃ xs, d = .tuple xs) (hu : ∀ d, d ∈ ds → A.units + d.depth < cLine) : SortsAt prog w A s (dataKind s.heap ds) vs := by
  by_cases hn : ds.all nonE = true
  · refine SortsAt.data e hal (.inl fun d hd => ?_) hu
    have h1 := List.all_eq_true.mp hn d hd
    obtain ⟨xs, rfl⟩ := ht d hd
    cases xs with
    | nil => cases h1
    | cons x r => exact ⟨x, r, rfl⟩
  have room : ∀ {d d' : PyData}, d ∈ ds → A.units + min d.depth d'.depth < cLine := fun {d d'} hd => Nat.lt_of_le_of_lt (Nat.add_le_add_left (Nat.min_le_left _ _) _) (hu d hd)
  refine ⟨fun v hv => ?_, if ((ds[0]?.map nonE).getD false) = true then general' else oneType', ?_, fun h2 E Q hq => kind_rows e ht hn h2 hq⟩
  · obtain ⟨d, hd, as, r⟩ := e.left v hv
    exact ⟨_, dataKind_some hal hd r⟩
  · intro E x y a b Q ha hb hq
    obtain ⟨d, as, hd, ra, rfl⟩ := dataKind_inv ha
    obtain ⟨d', as', hd', rb, rfl⟩ := dataKind_inv hb
    have hdd := hal d hd d' hd'
    have hroom := room (d' := d') hd
    obtain ⟨r1, rfl⟩ := ht d hd
    obtain ⟨r2, rfl⟩ := ht d' hd'
    split
    · show wpAny (model prog w) A (oneLt' false x y) Q E s
      exact oneLt_alike (fun h => by cases h) ra rb hdd (fun h => by cases h) hroom hq
    · rw [keyLt'_oneType]
      exact oneLt_tuple ra rb hdd hroom hq
theorem list_sort_dataR {R : Value → β → Prop} {enc : β → PyData} {vs : List Value} {bs : List β} {a : Addr} {n : Nat} {Q : Value → Shared → Prop} (ho : s.heap.get? a = some (seqObj "list" vs.toArray n)) (e : EachIs R vs bs) (er : EachIs (fun v b => ∃ as, Reads s.heap v (enc b) as ∧ a ∉ as) vs bs) (hal : AllAlike (bs.map enc)) (ht : ∀ d, d ∈ bs.map enc → ∃ xs, d = .tuple xs) (hL : bs.length ≤ sizeLine)
    (hu : ∀ b, b ∈ bs → A.units + 1 + (enc b).depth < cLine) (h : ∀ out, out.length = bs.length → EachIs R out (bs.mergeSort (dataLe false enc)) → Q .none { s with heap := sortedHeap s.heap a vs (List.toArray out) }) :
    wpAny (model prog w) A (call (.builtin "list.sort") [.ref a]) Q E s := by
  have er' : EachIs (fun v b => ∃ as, Reads (sortingHeap s.heap a vs) v (enc b) as) vs bs := each_keepBut (h' := sortingHeap s.heap a vs) (fun _ _ hb q => sortingHeap_old hb q) (fun o q => by rw [ho] at q; rw [← Option.some.inj q]) hal er
  refine wpAny_call_entry slot_list_sort ⟨_, ho, rfl⟩ entry_list_sort (list_sort_vals (κ := dataKind (sortingHeap s.heap a vs) (bs.map enc)) ho (sortsAtR (s := { s with heap := sortingHeap s.heap a vs }) (each_map (R := fun v d => ∃ as, Reads (sortingHeap s.heap a vs) v d as) enc er') hal ht (bound_map hu)) (by rw [e.length]; exact hL) ⟨.none, rfl, ?_⟩) (args_list_sort _)
  exact h _ (by rw [sortVals_length false rfl]; exact e.length) (sortVals_data false e er' hal)
end
open L2
def rSortD2 : List V → Hp → VK → Prop := fun vs H Q => ∃ (a : Addr) (kvs : List (List Key × V)) (ns : List (List Int)), vs = [.ref a] ∧ Rd H a (.dT kvs) ∧ kvs.map (·.1) = ns.map (·.map Sum.inl) ∧
  ∀ (ys : List V) (p : Addr), EachIs (KeyR H) ys (sortR ns) → H p = none → Q (.ref p) (upd H p (.lst ys))
theorem cr_sortedD2 {X : Cx} (hc : X.calm = true) (hu : X.A.units + 64 < cLine) : CallR X (.builtin "sorted") rSortD2 := by
  intro pins s σ H vs us Q I r h
  obtain ⟨a, kvs, ns, rfl, ha, hks, q⟩ := h
  obtain rfl := Vals.ref1 r
  obtain ⟨z, hd, xs', rel, o, es, ep, ho, hx, hdat, hes, his, hnd⟩ := dt_rd I.hok ha
  have l1 : kvs.length = xs'.length := Paired.length rel
  have l2 : es.size = xs'.length := size_of_entries hes
  have l3 : kvs.length = ns.length := by
    have := congrArg List.length hks
    simpa using this
  refine sortedK (es := es) (ep := ep) (I.ok.hd hc) hd ⟨o, ho, hx, hdat⟩ (by omega) fun h' tk vs hk hlt hl hG => ?_
  have hL : h'.objs.size ≠ s.heap.objs.size := Nat.ne_of_gt hlt
  have e1 : EachIs (KeyU H) vs ns := each_get (by omega) fun j v n hv hn => by
    obtain ⟨hj, rfl⟩ := hG j v hv
    have hjx : j < xs'.length := by omega
    have hjk : j < kvs.length := by omega
    obtain ⟨b, hb, r1, r2, r3⟩ := paired_get rel (List.getElem?_eq_getElem hjk)
    have he := entry_at hes j
    rw [hb, Array.getElem?_eq_getElem hj] at he
    have he' : es[j] = entryOfKey (tupleKind (mixKind X.prog X.w)) b := by simpa using he
    have hkn : kvs[j].1 = n.map Sum.inl := by
      have := congrArg (fun l => l[j]?) hks
      simp only [List.getElem?_map, List.getElem?_eq_getElem hjk, hn, Option.map_some] at this
      exact Option.some.inj this
    refine ⟨b.2.1, by rw [he']; rfl, ?_⟩
    rw [← kV_inl, ← hkn]
    exact r2
  have hpush : ∀ b o, s.heap.get? b = some o → (h'.push { cls := .type "list", data := .seq vs.toArray }).get? b = some o := fun b o e => Heap.get?_push_of_some _ (hk b o e)
  have hob : (h'.push { cls := .type "list", data := .seq vs.toArray }).get? h'.objs.size = some (seqObj "list" vs.toArray 0) := Heap.get?_push_size _ rfl
  have er : EachIs (fun v b => ∃ as, Reads (h'.push { cls := .type "list", data := .seq vs.toArray }) v (encI b) as ∧ h'.objs.size ∉ as) vs ns := e1.mono fun v b ⟨q, e, hq⟩ => by
    subst e
    obtain ⟨_, its, rv, ot, hot, hct, nt, hdt⟩ := (show ObjOk X.prog X.w H s.heap q (.tup (b.map V.int)) from I.hok q _ hq)
    exact ⟨[], .tuple (hpush _ _ hot) hct hdt (by simpa using readsI rv), by simp⟩
  refine list_sort_dataR (R := KeyU H) (enc := encI) (bs := ns) hob e1 er (AllAlike.of fun b b' => ?_) (fun d hd => by obtain ⟨b, _, rfl⟩ := List.mem_map.mp hd; exact ⟨_, rfl⟩) (by omega) (fun b hb => ?_) fun out ho2 eo => ?_
  · show alike (.tuple _) (.tuple _) = true
    simp only [alike]
    exact alike_ints _ _
  · show X.A.units + 1 + 1 + (PyData.tuple _).depth < cLine
    have := depth_ints b
    rw [PyData.depth, this]
    omega
  · obtain ⟨ys, hy1, hy2⟩ := keyL eo
    obtain ⟨ep2, hat⟩ := sortedHeap_at (out := out.toArray) hob
    have hylen : ys.length ≤ sizeLine := by rw [hy1.length, ho2]; omega
    refine ⟨.ref h'.objs.size, upd H h'.objs.size (.lst ys), I.laid (t' := tk) (fun b o e => ?_) (Nat.le_of_lt hlt) ⟨hylen, out, ep2, hy1, hat⟩, rfl, q ys _ hy2 (I.hok.fresh (Nat.le_of_lt hlt))⟩
    have hb1 := hpush b o e
    rw [sortedHeap_old (Nat.ne_of_lt (Heap.lt_size (hk b o e))) (Heap.lt_size hb1)]
    exact hb1

def rowsK2 : List (List Key) → Option (List (List Int))
  | [] => some []
  | k :: ks => match kRow k, rowsK2 ks with
    | some r, some rs => some (r :: rs)
    | _, _ => none
theorem rowsK2_ok : ∀ {ks : List (List Key)} {ns : List (List Int)}, rowsK2 ks = some ns → ks = ns.map (·.map Sum.inl)
  | [], _, e => by cases e; rfl
  | k :: ks, n, e => by
    unfold rowsK2 at e
    split at e
    · rename_i r rs h1 h2
      cases e
      rw [kRow_ok h1, rowsK2_ok h2]
      rfl
    · cases e
def srtD2 : List D → Option (List D)
  | [.dt ks _] => (rowsK2 ks).map fun ns => (insS ns).map rowD
  | _ => none
def xSrtD2 (s : S (List D)) : S (List D) := S.bind s fun ds => fun env C => S.opt (srtD2 (ds.map (vw C))) env C
section
variable {X : Cx} {W : Wh}
theorem sl_srtD2 {x : Str} {p pos : Pos} {es : List Expr} {s : S (List D)} (h : PE X (.Call (.Name x p) es [] pos) (tCB rSortD2 (tA X.K X.mg W s))) :
    SL X W (.Call (.Name x p) es [] pos) (xSrtD2 s) := pe_imp h fun σ H Q ⟨Hf, F, ρ, env, C, S0, E0, g⟩ => ⟨Hf, F, ρ, env, C, S0, E0, by
    unfold xSrtD2 S.bind at g
    cases e : s env C with
    | none =>
      rw [e] at g
      exact g
    | some r =>
      rw [e] at g
      cases r with
      | ex c q C' => exact g
      | ok ds C' =>
        refine fun vs H' Hf' ρ' e' p' S' A' => ?_
        have g' : GoL X.K X.mg W σ Hf F ρ (S.opt (srtD2 (ds.map (vw C'))) env C') Q := g
        cases hd : srtD2 (ds.map (vw C')) with
        | none =>
          rw [hd] at g'
          exact g'.elim
        | some es =>
          rw [hd] at g'
          have hv := vws_ok S' A'
          unfold srtD2 at hd
          split at hd
          · rename_i ks ds0 heq
            obtain ⟨ns, h1, h2⟩ := Option.map_eq_some_iff.mp hd
            subst h2
            rw [← sortR_ins] at g'
            rw [heq] at hv
            cases hv with
            | cons h hs =>
              cases hs
              obtain ⟨a, xs, rfl, hx, hl, hs⟩ := h.dt S'.ex
              have e1 := rowsK2_ok h1
              refine ⟨a, ks.zip xs, ns, rfl, hx, ?_, fun ys l hy hl => ?_⟩
              · rw [← e1]
                have : (ks.zip xs).map (·.1) = ks := List.map_fst_zip (by omega)
                exact this
              · obtain ⟨Hf2, s2, S2, D2⟩ := rows_dats S' hy
                exact g' (.ref l) _ Hf2 ρ' (e'.trans s2) p' (fresh_new S2 hl D2)
          · cases hd⟩
end
def rSortL2 (K : PySem.W.Frag) : List V → Hp → VK → Prop := fun vs H Q => ∃ (a : Addr) (ys0 : List V) (ns : List (List Int)), vs = [.ref a] ∧ SqL K H a ys0 ∧ EachIs (KeyR H) ys0 ns ∧
  ∀ (ys : List V) (p : Addr), EachIs (KeyR H) ys (sortR ns) → H p = none → Q (.ref p) (upd H p (.lst ys))
def srtL2 (ds : List D) : Option (List D) := match ds with
  | [.lst es] => (rowsI es).map fun ns => (insS ns).map rowD
  | _ => none
def xSrtL2 (s : S (List D)) : S (List D) := S.bind s fun ds => fun env C => S.opt (srtL2 (ds.map (vw C))) env C
section
variable {X : Cx} {W : Wh}
end
end Sm
end
section
set_option maxRecDepth 100000
set_option maxHeartbeats 0
namespace Sm
variable [Tabs0]
open PySem L2
section
variable {X : Cx} {W : Wh}
/-! ### a, b, c = x, y, z -/
def xPar3 (i j l : Nat) (s : S (List D)) : SS := xDo s fun ds e C => match ds with
  | [x, y, z] => some (.nx (((e.set i (some x)).set j (some y)).set l (some z)) C)
  | _ => none
end
end Sm
end
section
set_option maxRecDepth 100000
set_option maxHeartbeats 0
namespace Sm
open PySem PySem.Spec PyProof.Rows L2 LamX

/-! ### quiet expressions in a generator's frame: ints, items -/
section
variable [Tabs0]
abbrev Qf := Env → Cells → D → Option D
structure QvH (X : Cx) (sc : Scope) (Hf F : Hp) (ρ : List Addr) (C : Cells) (H : Hp) (σ : L2.St) (env : Env) (cenv : PySem.Env) (s : Shared) : Prop where
  sr : SR X.K Hf F ρ C H
  er : EnvR X.K X.mg none Hf ρ σ env
  hok : HOk X.prog X.w H s.heap
  kin : X.K.In s.heap
  scp : cenv.scope = sc
  fre : ∀ (i : Nat) (y : Str) (w : V), X.N[i]? = some y → σ[i]? = some (some w) → sc.names.lookup y = some .free → ∃ c u, cenv.cells.lookup y = some c ∧ RelV w u ∧ s.heap.IsCell c (some u)
def QV (X : Cx) (sc : Scope) (x : Str) (e : Expr) (f : Qf) : Prop :=
  ∀ (Hf F : Hp) (ρ : List Addr) (C : Cells) (H : Hp) (σ : L2.St) (env : Env) (cenv : PySem.Env) (A' : Around) (E' : Value → Shared → Prop) (s : Shared) (m : Str → Option Value) (d r : D) (v : V) (u : Value),
    QvH X sc Hf F ρ C H σ env cenv s → sc.kind = .function → s.heap.Ns cenv.locals m → m x = some u → RelV v u → Dat X.K Hf ρ v d → f env C d = some r →
    wpAny (model X.prog X.w) A' (eval e cenv) (fun u' s' => (∃ w, RelV w u' ∧ Dat X.K Hf ρ w r) ∧ Keeps s s') E' s
def QT (X : Cx) (sc : Scope) (x : Str) (e : Expr) (f : Env → Cells → D → Option Bool) : Prop :=
  ∀ (Hf F : Hp) (ρ : List Addr) (C : Cells) (H : Hp) (σ : L2.St) (env : Env) (cenv : PySem.Env) (A' : Around) (E' : Value → Shared → Prop) (s : Shared) (m : Str → Option Value) (d : D) (r : Bool) (v : V) (u : Value),
    QvH X sc Hf F ρ C H σ env cenv s → sc.kind = .function → s.heap.Ns cenv.locals m → m x = some u → RelV v u → Dat X.K Hf ρ v d → f env C d = some r →
    wpAny (model X.prog X.w) A' (isTrue e cenv (eval e cenv)) (fun b s' => b = r ∧ Keeps s s') E' s
variable {X : Cx} {sc : Scope} {x : Str}
def qX : Qf := fun _ _ d => some d
def qF (i : Nat) : Qf := fun env _ _ => match env[i]? with
  | some (some d) => if isErr d = true then none else some d
  | _ => none
def qI (k : Int) : Qf := fun _ _ _ => some (.int k)
def q2 (g : Int → Int → Option D) (a b : Qf) : Qf := fun env C d => match a env C d, b env C d with
  | some (.int i), some (.int j) => g i j
  | _, _ => none
def gAdd (i j : Int) : Option D := some (.int (i + j))
def gSub (i j : Int) : Option D := some (.int (i - j))
def gMul (i j : Int) : Option D := if i.natAbs < 2 ^ 400000 ∧ j.natAbs < 2 ^ 400000 then some (.int (i * j)) else none
def gMod (i j : Int) : Option D := if 0 < j then some (.int (i % j)) else none
def qIx (a b : Qf) : Qf := fun env C d => match a env C d, b env C d with
  | some t, some (.int i) => match vw C t with
    | .tup ds => L2.atI ds i
    | .lst ds => L2.atI ds i
    | _ => none
  | _, _ => none
def q2b (g : Int → Int → Bool) (a b : Qf) : Env → Cells → D → Option Bool := fun env C d => match a env C d, b env C d with
  | some (.int i), some (.int j) => some (g i j)
  | _, _ => none
end
end Sm
end
section
set_option maxRecDepth 100000
set_option maxHeartbeats 0
namespace Sm
variable [Tabs0]
open PySem L2
section
variable {K : PySem.W.Frag} {mg : Str → Option Value} {α β : Type} {W : Wh} {σ : L2.St} {Hf Hf1 F : Hp} {ρ ρ1 : List Addr} {C : Cells} {env : Env} {H : Hp}
theorem GoL.later {r : Option (R (List D))} {Q : VK} (h : GoL K mg W σ Hf F ρ r Q) (e : Same Hf Hf1) (p : ρ <+: ρ1) : GoL K mg W σ Hf1 F ρ1 r Q := by
  cases r with
  | none => exact h
  | some r =>
    cases r with
    | ok a C' => exact fun v H' Hf' ρ' e' p' => h v H' Hf' ρ' (e.trans e') (p.trans p')
    | ex c q C' => exact fun cls dd H' Hf' ρ' e' p' => h cls dd H' Hf' ρ' (e.trans e') (p.trans p')
theorem GoL.bind {Rel : Hp → List Addr → β → α → Prop} {s : S α} {k : α → S (List D)} {Q : VK} (h : GoL K mg W σ Hf F ρ (S.bind s k env C) Q) :
    Go K mg W Rel σ Hf F ρ (s env C) (fun v H1 => ∃ Hf1 ρ1 C1 a, Same Hf Hf1 ∧ ρ <+: ρ1 ∧ SR K Hf1 F ρ1 C1 H1 ∧ Rel Hf1 ρ1 v a ∧ GoL K mg W σ Hf1 F ρ1 (k a env C1) Q) := by
  unfold S.bind at h
  cases e : s env C with
  | none =>
    rw [e] at h
    exact h
  | some r =>
    rw [e] at h
    cases r with
    | ok a C' => exact fun v H' Hf' ρ' e' p' s' q' => ⟨Hf', ρ', C', a, e', p', s', q', GoL.later h e' p'⟩
    | ex c q C' => exact h
end
section
variable {X : Cx} {W : Wh}
/-! ### a + b of two lists: a new list -/
def catL : D → D → Option (List D)
  | .lst as, .lst bs => if as.length + bs.length ≤ 1000000 then some (as ++ bs) else none
  | _, _ => none
def xCatL (sa sb : S D) : S (List D) := S.bind sa fun a => S.bind sb fun b => fun env C => S.opt (catL (vw C a) (vw C b)) env C
end
end Sm
end
section
set_option maxRecDepth 100000
set_option maxHeartbeats 0
/-! lists of an iterator that gives new pairs: list(enumerate(t)), list(zip(t, u)) -/
namespace SmX
open PySem
open Sem (wp)
open RZ (nextOf_tuple_item nextOf_tuple_end pyNext_zipT_item pyNext_zipT_end)
/-- I gives n pairs; St is its state, wr what it changes, S the list that grows -/
structure PairsIt (P : Program) (w : World) (A : Around) (I S : Addr) (wr : List Addr) (n : Nat) (pr : Nat → Value → Value → Prop) (St : Nat → Heap → Prop) : Prop where
  frame : ∀ i h h', St i h → (∀ b o, b ≠ S → h.get? b = some o → h'.get? b = some o) → St i h'
  item : ∀ (i : Nat) (s : Shared) (Q : Option Value → Shared → Prop) (E : Value → Shared → Prop), i < n → St i s.heap → S < s.heap.objs.size →
    (∀ h' tk x y, pr i x y → St (i + 1) h' → h'.get? s.heap.objs.size = some { cls := .type "tuple", data := .seq #[x, y] } → h'.objs.size = s.heap.objs.size + 1 →
      (∀ b o, b ∉ wr → s.heap.get? b = some o → h'.get? b = some o) → Q (some (.ref s.heap.objs.size)) { s with heap := h', toks := tk }) → wpAny (model P w) A (pyNext (.ref I)) Q E s
  done : ∀ (s : Shared) (Q : Option Value → Shared → Prop) (E : Value → Shared → Prop), St n s.heap →
    (∀ h', (∀ b o, b ∉ wr → s.heap.get? b = some o → h'.get? b = some o) → Q none { s with heap := h' }) → wpAny (model P w) A (pyNext (.ref I)) Q E s
structure MadeP (pr : Nat → Value → Value → Prop) (lo : Addr) (h : Heap) (as : List Addr) : Prop where
  rise : as.Pairwise (· < ·)
  above : ∀ a ∈ as, lo < a
  pairs : ∀ (j : Nat) (a : Addr), as[j]? = some a → ∃ x y, pr j x y ∧ h.get? a = some { cls := .type "tuple", data := .seq #[x, y] }
theorem MadeP.there {pr : Nat → Value → Value → Prop} {lo : Addr} {h : Heap} {as : List Addr} (g : MadeP pr lo h as) {a : Addr} (ha : a ∈ as) : a < h.objs.size := by
  obtain ⟨j, hj⟩ := List.mem_iff_getElem?.mp ha
  obtain ⟨_, _, _, e⟩ := g.pairs j a hj
  exact Heap.lt_size e
section
variable {prog : Program} {w : World} {A : Around} {s : Shared} {R : Result → Shared → Prop} {I S lo : Addr} {wr : List Addr} {n : Nat} {pr : Nat → Value → Value → Prop} {St : Nat → Heap → Prop}
end
section
variable {prog : Program} {w : World} {A : Around} {E : Value → Shared → Prop} {s : Shared} {I : Addr} {wr : List Addr} {n : Nat} {pr : Nat → Value → Value → Prop} {St : Nat → Heap → Prop}
end
/-! ### enumerate of a tuple as such an iterator -/
section
variable {prog : Program} {w : World} {A : Around} {E : Value → Shared → Prop} {s : Shared}
end
def EnSt (e it l S : Addr) (its : Array Value) (i : Nat) (h : Heap) : Prop :=
  ((∃ old, IsEnum h e it ((i : Nat) : Int) old) ∨ ∃ T x f oT, IsEnumHeld h e it ((i : Nat) : Int) x T f ∧ h.get? T = some oT ∧ T ≠ e ∧ T ≠ it ∧ T ≠ S) ∧ h.IsTupleIter it l i ∧ h.IsTuple l its
end SmX
end
section
set_option maxRecDepth 100000
set_option maxHeartbeats 0
namespace SmSc
open PySem PySem.Spec PyProof.Rows L2 PpSet
/-! ### {e for v in it ..}, e an int -/
section
variable {X : Cx}
/-- D the new set -/
def tScI (wi : TI) (g : TG) (tt : TT) (te : TE) (vs : List Nat) : TE := fun σ H Q => wi σ H fun J H1 => ∀ D, H1 D = none → ∃ W : Nat → Nat → Hp → Prop, (∃ m, W 0 m (upd H1 D (.set (fun _ => false) 0))) ∧ ∀ i m H, W i m H →
  (J.stop i H ∧ Q (.ref D) H) ∨ (J.go i H ∧ ∃ Nx : Hp → Prop, (∀ H', Nx H' → ∃ m', m' < m ∧ W (i + 1) m' H') ∧ ∀ x H', J.yld i H x H' → g x (wipe σ vs) H' fun σ2 H2 => wipe σ2 vs = wipe σ vs ∧ tt σ2 H2 fun b H3 =>
    if b = true then te σ2 H3 fun y H4 => ∃ (c : Int) (S : Int → Bool) (n : Nat), y = .int c ∧ H4 D = some (.set S n) ∧ n + 1 < scanBound ∧ Nx (upd H4 D (.set (fun j => S j || decide (j = c)) (if S c = true then n else n + 1))) else Nx H3)
end
end SmSc
namespace Sm
variable [Tabs0]
open PySem PySem.Spec PyProof.Rows L2
variable {K : PySem.W.Frag} {mg : Str → Option Value}
def addS (ns : List Int) (k : Int) : List Int := if k ∈ ns then ns else ns ++ [k]
def scs (g : Gd) (t : Tg) (c : S Bool) (x : S D) : List D → List Int → S D
  | [], ns => fun _ C => if g C = true then some (.ok (.set ns) C) else none
  | d :: r, ns => fun e C => if g C = true then match t.put d e with
      | none => none
      | some e1 => match c e1 C with
        | some (.ok true C1) => match x e1 C1 with
          | some (.ok (.int k) C2) => scs g t c x r (addS ns k) e C2
          | _ => none
        | some (.ok false C1) => scs g t c x r ns e C1
        | _ => none
    else none
def xSc (it : SW) (t : Tg) (c : S Bool) (x : S D) (vs : List Nat) : S D := S.bind it fun p => if p.1.length ≤ 1000 then (fun e C => okS (scs p.2 t c x p.1 []) (wipeE e vs) C) else fun _ _ => none
/-- a thing in the frame that stays from now on -/
theorem SR.outS {Hf F : Hp} {ρ : List Addr} {C : Cells} {H : Hp} {p : Addr} {u : HO} (hF : F p = none) (S : SR K Hf (upd F p u) ρ C H) (hs : ¬ Stay u := by intro h; exact h) (hu : ∀ ps, u ≠ .tbl ps := by intro _ e; cases e) :
    Same Hf (upd Hf p u) ∧ SR K (upd Hf p u) F ρ C H := by
  have hf : Hf p = none := (S.ap p _ upd_same).resolve_right hs
  have hH : H p = some u := S.fr p _ upd_same
  have e0 : Same Hf (upd Hf p u) := fun b u q => by
    rw [upd_ne (ne_of_none q hf)]
    exact q
  have tb : ∀ t ∈ Tabs0.T, t.1 ≠ p ∧ F t.1 = none := fun t ht => by
    have k1 := (S.tab t ht).1.2
    have ha : t.1 ≠ p := fun e => by
      rw [e, upd_same] at k1
      cases k1
    rw [upd_ne ha] at k1
    exact ⟨ha, k1⟩
  have nF : ∀ b ps, F b ≠ some (.tbl ps) := fun b ps e => by
    by_cases hb : b = p
    · rw [hb, hF] at e
      cases e
    · exact (S.nt b ps).2 (by rw [upd_ne hb]; exact e)
  refine ⟨e0, fun b u q => ?_, fun b u q => ?_, fun b o q => ?_, S.len, fun n a o h1 h2 => ?_, S.inj, fun t ht => ⟨⟨by rw [upd_ne (tb t ht).1]; exact (S.tab t ht).1.1, (tb t ht).2⟩, (S.tab t ht).2.mono e0 fun o h _ => h⟩, fun b ps => ⟨fun e => by
    by_cases hb : b = p
    · rw [hb, upd_same] at e
      exact hu ps (Option.some.inj e)
    · rw [upd_ne hb] at e
      exact (S.nt b ps).1 e, nF b ps⟩⟩
  · by_cases hb : b = p
    · subst hb
      rw [upd_same] at q
      exact hH.trans q
    · rw [upd_ne hb] at q
      exact S.ex b u q
  · have hb : b ≠ p := ne_of_none q hF
    exact S.fr b u (by rw [upd_ne hb]; exact q)
  · have hb : b ≠ p := ne_of_none q hF
    rw [upd_ne hb]
    exact S.ap b o (by rw [upd_ne hb]; exact q)
  · obtain ⟨⟨k0, k1⟩, k2⟩ := S.cel n a o h1 h2
    have ha : a ≠ p := fun e => by
      subst e
      rw [upd_same] at k1
      cases k1
    rw [upd_ne ha] at k1
    rw [upd_ne ha]
    exact ⟨⟨k0, k1⟩, k2.mono e0⟩
section
variable {X : Cx} {W : Wh}
/-! ### len of a set -/
def rLenS : List V → Hp → VK → Prop := fun xs H Q => ∃ (a : Addr) (ns : List Int), xs = [.ref a] ∧ H a = some (.set (fun k => decide (k ∈ ns)) ns.length) ∧ Q (.int (ns.length : Nat)) H
def dLenS : List D → Option D
  | [.set ns] => some (.int (ns.length : Nat))
  | _ => none
end
end Sm
end
section
set_option maxRecDepth 100000
set_option maxHeartbeats 0
namespace Sm
open PySem PySem.Spec PyProof.Rows L2 SlX
variable [Tabs0]
/-! ### classes of one slot whose instances never change -/
structure InsT (K : PySem.W.Frag) (mg : Str → Option Value) (c : Str) (C : Addr) (f : Str) (p : Addr) : Prop where
  ns : PySem.W.nsIn K mainGlobals c = some (some (.ref C))
  gC : mg c = some (.ref C)
  kp : PySem.W.keepIn K (.ref C) = true
  cls : SCls K C
  slot : Slot1 K C f p 0
section
variable {P : Program} {w : World} {K : PySem.W.Frag} {mg : Str → Option Value} {base : Heap}
/-- a def that stands in a class -/
structure CalA (P : Program) (w : World) (K : PySem.W.Frag) (mg : Str → Option Value) (base : Heap) (g : Addr) (n k : Nat) (f : Fn) : Prop where
  ex : ∃ (fd : FuncData) (ps : List Str), PySem.W.keepIn K (.ref g) = true ∧ Binds K fd ps [] ∧ FnG P w K mg base k g fd ps (spS K mg n f)
  ar : ∀ ds C, f ds C ≠ none → ds.length = n
/-! ### what stands in the frame -/
theorem rel_some (v : V) : ∃ u, RelV v u := by
  cases v with
  | non => exact ⟨_, rfl⟩
  | bl b => exact ⟨_, rfl⟩
  | int i => exact ⟨.int i 0, 0, rfl⟩
  | str x => exact ⟨.str x 0, 0, rfl⟩
  | byt b => exact ⟨.bytes b 0, 0, rfl⟩
  | flt b => exact ⟨.float b 0, 0, rfl⟩
  | ref a => exact ⟨_, rfl⟩
  | ty n => exact ⟨_, rfl⟩
/-- an instance is no code object -/
theorem slO_stay {a C dx : Addr} {v : V} : ¬ Stay (SlO a C dx [some v]) := by
  rintro ⟨b, q, e⟩
  unfold LamX.CodeO at e
  injection e with e
  obtain ⟨u, hu⟩ := rel_some v
  have e2 := congrFun e { objs := Array.replicate (a + 1) { PySem.W.instObj C dx with slots := #[some u] } }
  have g0 : ∀ i, i < a + 1 → ({ objs := Array.replicate (a + 1) { PySem.W.instObj C dx with slots := #[some u] } } : Heap).get? i = some { PySem.W.instObj C dx with slots := #[some u] } := fun i hi => by
    unfold Heap.get?
    rw [Array.getElem?_replicate, if_pos hi]
  have p1 : ∃ sl : Array (Option Value), ({ objs := Array.replicate (a + 1) { PySem.W.instObj C dx with slots := #[some u] } } : Heap).get? a = some { PySem.W.instObj C dx with slots := sl } ∧ SlR [some v] sl :=
    ⟨#[some u], g0 a (Nat.lt_succ_self _), fun i x hx => by
      cases i with
      | zero =>
        cases hx
        exact ⟨u, rfl, hu⟩
      | succ i => simp at hx⟩
  rw [e2] at p1
  obtain ⟨oc, vs, t, h1, h2, _⟩ := p1
  by_cases hb : b < a + 1
  · rw [g0 b hb] at h1
    cases h1
    cases h2
  · unfold Heap.get? at h1
    rw [Array.getElem?_replicate, if_neg hb] at h1
    cases h1
/-- the frame while an instance is made -/
abbrev mkF (F : Hp) (a C dx : Addr) : Hp := upd (upd F dx (.own a)) a (.ins C dx [])
theorem SR.made {Hf F : Hp} {ρ : List Addr} {Cs : Cells} {H : Hp} {a C dx : Addr} {v : V} {d : D} {c : Str} (hne : dx ≠ a) (ha : F a = none) (hd : F dx = none) (S : SR K Hf (mkF F a C dx) ρ Cs H) (hc : PySem.W.nsIn K mainGlobals c = some (some (.ref C))) (q : Dat K Hf ρ v d) :
    ∃ Hf', Same Hf Hf' ∧ SR K Hf' F ρ Cs (slH H a C dx [some v]) ∧ Dat K Hf' ρ (.ref a) (.ins c [d]) := by
  have ha' : (upd F dx (.own a)) a = none := by rw [upd_ne (Ne.symm hne)]; exact ha
  have S1 := SR.growF (u := SlO a C dx [some v]) S (by intro h; exact h) (by intro _ e; unfold SlO at e; cases e)
  obtain ⟨e2, S2⟩ := SR.outS ha' S1 slO_stay (by intro _ e; unfold SlO at e; cases e)
  have S3 := SR.growF (u := .xd []) S2 (by intro h; exact h) (by intro _ e; cases e)
  obtain ⟨e4, S4⟩ := SR.outS hd S3 (by intro h; exact h) (by intro _ e; cases e)
  have eH : upd (upd H a (SlO a C dx [some v])) dx (.xd []) = slH H a C dx [some v] := by
    funext b
    unfold slH
    by_cases h1 : b = dx
    · subst h1
      rw [upd_same, upd_ne hne, upd_same]
    · rw [upd_ne h1]
      by_cases h2 : b = a
      · subst h2
        rw [upd_same, upd_same]
      · rw [upd_ne h2, upd_ne h2, upd_ne h1]
  rw [eH] at S4
  have q2 := (q.mono e2 (List.prefix_refl _)).mono e4 (List.prefix_refl _)
  exact ⟨_, e2.trans e4, S4, .ins (xs := [v]) hc (by rw [upd_ne (Ne.symm hne), upd_same]; rfl) upd_same (.cons q2 .nil)⟩
/-! ### __init__: some tests, then self.f = value -/
/-- the promise of an __init__: f tells what is stored -/
def spI (K : PySem.W.Frag) (mg : Str → Option Value) (C : Addr) (n : Nat) (f : Fn) : Sp := fun vs H Q E => ∃ a dx ws Hf F ρ Cs ds, vs = .ref a :: ws ∧ ws.length = n ∧ dx ≠ a ∧ F a = none ∧ F dx = none ∧ SR K Hf (mkF F a C dx) ρ Cs H ∧ Dats K Hf ρ ws ds ∧
  match f ds Cs with
  | none => False
  | some (.ok d C') => ∀ v H' Hf', Same Hf Hf' → SR K Hf' (mkF F a C dx) ρ C' H' → Dat K Hf' ρ v d → Q .non (slH H' a C dx [some v])
  | some (.ex c p C') => ∀ cls dd H' Hf', Same Hf Hf' → SR K Hf' (mkF F a C dx) ρ C' H' → ExR K mg Hf' ρ c p cls dd → E cls dd H'
/-- what is to be shown of such a body's rest: .ret tells what is stored -/
def GoI (K : PySem.W.Frag) (mg : Str → Option Value) (W : Wh) (a C dx : Addr) (Hf F : Hp) (ρ : List Addr) (r : Option RS) (D : Ends) : Prop :=
  match r with
  | some (.ret d C') => ∀ v σ' H' Hf' ρ', Same Hf Hf' → ρ <+: ρ' → SR K Hf' (mkF F a C dx) ρ' C' H' → Dat K Hf' ρ' v d → D.nx σ' (slH H' a C dx [some v])
  | some (.ex c p e C') => ∀ cls dd σ' H' Hf' ρ', Same Hf Hf' → ρ <+: ρ' → SR K Hf' (mkF F a C dx) ρ' C' H' → EnvR K mg W.xc Hf' ρ' σ' e → ExR K mg Hf' ρ' c p cls dd → W.w cls dd σ' H'
  | _ => False
def tSI (K : PySem.W.Frag) (mg : Str → Option Value) (W : Wh) (C : Addr) (s : SS) : TS := fun D σ H => ∃ a dx n Hf F ρ env Cs, dx ≠ a ∧ F a = none ∧ F dx = none ∧ SR K Hf (mkF F a C dx) ρ Cs H ∧ EnvR K mg W.xc Hf ρ σ env ∧ env[0]? = some (some (.cel n)) ∧ ρ[n]? = some a ∧ GoI K mg W a C dx Hf F ρ (s env Cs) D
def SIs (X : Cx) (W : Wh) (C : Addr) (st : List Stmt) (s : SS) : Prop := PSs X st (tSI X.K X.mg W C s)
theorem GoI.later {W : Wh} {a C dx : Addr} {Hf Hf1 F : Hp} {ρ ρ1 : List Addr} {r : Option RS} {D : Ends} (h : GoI K mg W a C dx Hf F ρ r D) (e : Same Hf Hf1) (p : ρ <+: ρ1) : GoI K mg W a C dx Hf1 F ρ1 r D := by
  match r, h with
  | some (.ret d C'), h => exact fun v σ' H' Hf' ρ' e' p' => h v σ' H' Hf' ρ' (e.trans e') (p.trans p')
  | some (.ex c q a C'), h => exact fun cls dd σ' H' Hf' ρ' e' p' => h cls dd σ' H' Hf' ρ' (e.trans e') (p.trans p')
  | none, h => exact h
  | some (.nx _ _), h => exact h
  | some (.bk _ _), h => exact h
  | some (.ct _ _), h => exact h
def cel0 : Env → Option Nat
  | some (.cel n) :: _ => some n
  | _ => none
def xSeqI (a r : SS) : SS := fun e C => match a e C with
  | some (.nx e' C') => if (cel0 e).isSome = true ∧ cel0 e' = cel0 e then r e' C' else none
  | some (.ex c p e' C') => some (.ex c p e' C')
  | _ => none
def xStore (sv : S D) : SS := fun e C => match sv e C with
  | some (.ok d C') => if (cel0 e).isSome = true then some (.ret d C') else none
  | _ => none
section
variable {X : Cx} {W : Wh} {C : Addr}
end
def xInit (n m : Nat) (b : SS) : Fn := fun ds C => if ds.length = n then match b (some (.cel C.length) :: (ds.map some ++ List.replicate (m - (n + 1)) none)) (C ++ [none]) with
    | some (.ret d C') => if nocel d = true then some (.ok d (C'.take C.length)) else none
    | some (.ex c p _ C') => match p with
      | none => some (.ex c none (C'.take C.length))
      | some (f, d) => if nocel d = true then some (.ex c (some (f, d)) (C'.take C.length)) else none
    | _ => none
  else none
structure CalI (P : Program) (w : World) (K : PySem.W.Frag) (mg : Str → Option Value) (base : Heap) (C g : Addr) (n k : Nat) (f : Fn) : Prop where
  ex : ∃ (fd : FuncData) (ps : List Str), Binds K fd ps [] ∧ FnG P w K mg base k g fd ps (spI K mg C n f)
  ar : ∀ ds C, f ds C ≠ none → ds.length = n
end
section
variable {X : Cx} {W : Wh}
/-! ### C(e, ..) -/
def xMk (c : Str) (f : Fn) (as : S (List D)) : S D := S.bind as fun ds _ C => match f ds C with
  | some (.ok d C') => some (.ok (.ins c [d]) C')
  | some (.ex c p C') => some (.ex c p C')
  | none => none
/-! ### e.f, the slot -/
def dFld (c : Str) : D → Option D
  | .ins c' [d] => if c' = c then some d else none
  | _ => none
def xFld (c : Str) (s : S D) : S D := S.bind s fun d => S.opt (dFld c d)
/-! ### e.f, a property -/
structure PropT (K : PySem.W.Frag) (C : Addr) (f : Str) (p g : Addr) : Prop where
  at_ : PySem.W.findIn K (.ref C) f = some (some (.ref p))
  get : PySem.W.specialIn K (.ref p) "__get__" = some (some (.builtin "property.__get__"))
  tk : PySem.W.takesIn K (.ref p) = some true
  rc : ∃ rest, PySem.W.recIn K p "property" = some (.ref g :: rest)
def xProp (c : Str) (m : Fn) (s : S D) : S D := S.bind s fun d _ C => if (dFld c d).isSome = true then match m [d] C with
    | some (.ok d' C') => some (.ok d' C')
    | _ => none
  else none
/-! ### e.m(a, ..) -/
def xMth (c : Str) (m : Fn) (s : S D) (as : S (List D)) : S D := S.bind s fun d env C => if (dFld c d).isSome = true then S.bind as (fun ds _ C => m (d :: ds) C) env C else none
/-! ### isinstance(x, C) -/
structure IsiT (K : PySem.W.Frag) (C : Addr) : Prop where
  isi : SIsi K C
  kone : PySem.W.kitOne K (.ref C) (.ref C) = some true
  kty : ∀ T ∈ (["NoneType", "bool", "int", "str", "tuple", "list", "dict"] : List String), PySem.W.kitOne K (.type T) (.ref C) = some false
def rIsiC (K : PySem.W.Frag) (C : Addr) : List V → Hp → VK → Prop := fun xs H Q => ∃ x, xs = [x, V.ref C] ∧ ((∃ a dx vs, x = .ref a ∧ Slt H a C dx vs ∧ Q (.bl true) H) ∨ ∃ T, T ∈ (["NoneType", "bool", "int", "str", "tuple", "list", "dict"] : List String) ∧ TyY K H x (.type T) ∧ Q (.bl false) H)
def dIsiC (c : Str) : List D → Option D
  | [x, .fn c'] => if c' = c then (if (dFld c x).isSome = true then some (.bl true) else (tyN x).map fun _ => .bl false) else none
  | _ => none
end
end Sm
end
section
set_option maxRecDepth 100000
set_option maxHeartbeats 0
/-! zip(range(n), t): as an iterator, and list(..) of it -/
namespace SmX
open PySem PySem.Spec PyProof.Rows L2
/-! ### ranges as iterators -/
/-! ### zip of a range and a tuple -/
def ItzR (K : PySem.W.Frag) (n : Nat) (b : Addr) (m : Nat) : It :=
  ⟨fun i H => i < m ∧ ∃ ys : List V, SqT K H b ys ∧ min n ys.length = m, fun i H v H' => ∃ T y, v = .ref T ∧ H T = none ∧ H' = upd H T (.tup [.int (i : Nat), y]) ∧ ∀ ys, SqT K H b ys → ys[i]? = some y,
    fun i H => m ≤ i ∧ ∃ ys : List V, SqT K H b ys ∧ min n ys.length = m⟩
abbrev fpR (z TI TO i1 i2 : Addr) : List Addr := [z, TI, TO, i1, i2]
abbrev tnR (b : Addr) (n m : Nat) (z TI TO i1 i2 : Addr) : Nat → Heap → Prop := fun i h => i ≤ m ∧ IsZip h z TI TO .none ∧ IsTupOf2 h TI (.ref i1) (.ref i2) ∧ (∃ x y, IsTupOf2 h TO x y) ∧ IsRangeIter h i1 (0 + (i : Nat)) ((n : Int) - (i : Nat)) 1 ∧ h.IsTupleIter i2 b i
/-- the arguments of zip(range(n), t) -/
def tRng1v (ta : TE) : TE := fun σ H Q => ta σ H fun x H1 => ∃ n : Int, x = .int n ∧ ∀ q, H1 q = none → Q (.ref q) (upd H1 q (.rng 0 n))
abbrev aZR (ta tb : TE) : TA := tCons (tRng1v ta) (tCons tb tNil)
/-- for a, b in zip(range(n), t) -/
def kZR (K : PySem.W.Frag) (R : It → Hp → Prop) (vs : List V) (H1 : Hp) : Prop := ∃ (p : Addr) (n : Int) (b : Addr) (ys : List V), vs = [.ref p, .ref b] ∧ H1 p = some (.rng 0 n) ∧ SqT K H1 b ys ∧ 0 ≤ n ∧ n ≤ 1000000 ∧ R (ItzR K n.toNat b (min n.toNat ys.length)) H1
/-! ### list(zip(range(n), t)) -/
section
variable {prog : Program} {w : World} {A : Around} {E : Value → Shared → Prop} {s : Shared} {z TI TO i1 i2 : Addr} {fp1 fp2 : List Addr} {n1 n2 : Nat} {P1 P2 : Nat → Value → Prop} {St1 St2 : Nat → Heap → Prop} {i : Nat}
end
end SmX
end
section
set_option maxRecDepth 100000
set_option maxHeartbeats 0
namespace Sm
open PySem PySem.Spec PyProof.Rows L2 SlX
section
variable [Tabs0]
variable {X : Cx} {W : Wh}
/-! ### ~x of an instance -/
def xSp (c : Str) (m : Fn) (s : S D) : S D := S.bind s fun d _ C => if (dFld c d).isSome = true then m [d] C else none
end
end Sm
end
section
set_option maxRecDepth 100000
set_option maxHeartbeats 0
namespace Sm
open PySem PySem.Spec PyProof.Rows L2 LamX

/-! ### quiet defs: they read their arguments and keep all that stands -/
abbrev Den := Str → Option D
abbrev Qw := Den → Option D
section
variable [Tabs0] {P : Program} {w : World} {K : PySem.W.Frag} {mg : Str → Option Value} {base : Heap}
structure QwH (P : Program) (w : World) (K : PySem.W.Frag) (base : Heap) (sc : Scope) (Hf F : Hp) (ρ : List Addr) (C : Cells) (H : Hp) (cenv : PySem.Env) (m : Str → Option Value) (den : Den) (s : Shared) : Prop where
  sr : SR K Hf F ρ C H
  hok : HOk P w H s.heap
  kin : K.In s.heap
  bas : ∀ b o, base.get? b = some o → s.heap.get? b = some o
  scp : cenv.scope = sc
  knd : sc.kind = .function
  glo : cenv.globals = mainGlobals
  blt : cenv.builtins = builtinsNs
  ns : s.heap.Ns cenv.locals m
  val : ∀ y d, den y = some d → sc.names.lookup y = some .local ∧ ∃ v u, m y = some u ∧ RelV v u ∧ Dat K Hf ρ v d
def QW (P : Program) (w : World) (K : PySem.W.Frag) (mg : Str → Option Value) (base : Heap) (sc : Scope) (k : Nat) (e : Expr) (f : Qw) : Prop :=
  ∀ (Hf F : Hp) (ρ : List Addr) (C : Cells) (H : Hp) (cenv : PySem.Env) (A' : Around) (E' : Value → Shared → Prop) (s : Shared) (m : Str → Option Value) (den : Den) (r : D),
    Mod K mg base → A'.depth + k < recursionLimit → QwH P w K base sc Hf F ρ C H cenv m den s → f den = some r →
    wpAny (model P w) A' (eval e cenv) (fun u' s' => (∃ v, RelV v u' ∧ Dat K Hf ρ v r) ∧ Keeps s s') E' s
theorem QW.mono {sc : Scope} {j k : Nat} {e : Expr} {f : Qw} (h : QW P w K mg base sc j e f) (hk : j ≤ k) : QW P w K mg base sc k e f :=
  fun Hf F ρ C H cenv A' E' s m den r M hd q hf => h Hf F ρ C H cenv A' E' s m den r M (by omega) q hf
variable {sc : Scope} {k : Nat}
def wN (y : Str) : Qw := fun d => d y
def wI (i : Int) : Qw := fun _ => some (.int i)
def w2 (g : Int → Int → Option D) (a b : Qw) : Qw := fun d => match a d, b d with
  | some (.int i), some (.int j) => g i j
  | _, _ => none
def gGt (i j : Int) : Option D := some (.bl (decide (i > j)))
def gLt (i j : Int) : Option D := some (.bl (decide (i < j)))
def wIx (a b : Qw) : Qw := fun d => match a d, b d with
  | some (.tup ds), some (.int i) => L2.atI ds i
  | some (.lst ds), some (.int i) => L2.atI ds i
  | _, _ => none
def wLen (a : Qw) : Qw := fun d => match a d with
  | some (.tup ds) => some (.int ds.length)
  | some (.lst ds) => some (.int ds.length)
  | _ => none
def wC2 (g : List D → Option D) (a b : Qw) : Qw := fun d => match a d, b d with
  | some x, some y => g [x, y]
  | _, _ => none
/-- a quiet def at f -/
structure FnQ (P : Program) (w : World) (K : PySem.W.Frag) (mg : Str → Option Value) (base : Heap) (f : Addr) (n k : Nat) (g : List D → Option D) : Prop where
  go : ∀ (Hf F : Hp) (ρ : List Addr) (C : Cells) (H : Hp) (A : Around) (s : Shared) (us : List Value) (vs : List V) (ds : List D) (r : D), Mod K mg base → A.depth + k < recursionLimit → SR K Hf F ρ C H → HOk P w H s.heap → K.In s.heap →
    (∀ b o, base.get? b = some o → s.heap.get? b = some o) → Vals vs us → Dats K Hf ρ vs ds → ds.length = n → g ds = some r →
    codeAny (model P w) A (.call (.ref f) ⟨us, []⟩) (fun res s' => ∃ u v, res = .ok (.ret u) ∧ RelV v u ∧ Dat K Hf ρ v r ∧ Keeps s s') s
structure CalQ (P : Program) (w : World) (K : PySem.W.Frag) (mg : Str → Option Value) (base : Heap) (x : Str) (n k : Nat) (g : List D → Option D) : Prop where
  ex : ∃ f, mg x = some (.ref f) ∧ PySem.W.keepIn K (.ref f) = true ∧ FnQ P w K mg base f n k g
theorem FnQ.mono {f : Addr} {n j k : Nat} {g : List D → Option D} (h : FnQ P w K mg base f n j g) (hk : j ≤ k) : FnQ P w K mg base f n k g :=
  ⟨fun Hf F ρ C H A s us vs ds r M hd => h.go Hf F ρ C H A s us vs ds r M (by omega)⟩
theorem CalQ.mono {x : Str} {n j k : Nat} {g : List D → Option D} (h : CalQ P w K mg base x n j g) (hk : j ≤ k) : CalQ P w K mg base x n k g := by
  obtain ⟨f, h1, h2, h3⟩ := h.ex
  exact ⟨f, h1, h2, h3.mono hk⟩
/-- the names of a frame of two parameters -/
def den2 (p1 p2 : Str) (d1 d2 : D) : Den := fun y => if y = p1 then some d1 else if y = p2 then some d2 else none
def denS (y : Str) (d : D) (den : Den) : Den := fun z => if z = y then some d else den z
end
end Sm
end
section
set_option maxRecDepth 100000
set_option maxHeartbeats 0
namespace Sm
open PySem PySem.Spec PyProof.Rows L2 SlX
/-! ### two instances of one class: what a method says of them -/
section
variable [Tabs0]
variable {X : Cx} {W : Wh}
def xTwo (c : Str) (m : Fn) (s t : S D) : S D := S.bind s fun d => S.bind t fun e => fun _ C => if (dFld c d).isSome = true ∧ (dFld c e).isSome = true then m [d, e] C else none
/-! a != b: the class has no word of its own, so object's asks __eq__ -/
structure NeT (K : PySem.W.Frag) (C : Addr) : Prop where
  at_ : PySem.W.findIn K (.ref C) "__ne__" = some (some (.builtin "object.__ne__"))
  mro : PySem.W.mroIn K C (.type "object") = some true
section
variable {A : Around} {E : Value → Shared → Prop} {s : Shared} {K : PySem.W.Frag} {x y C f : Addr} {ox : Obj} {od : Option Obj} {prog : Program} {w : World}
end
def xTwoN (c : Str) (m : Fn) (s t : S D) : S D := S.bind s fun d => S.bind t fun e => fun _ C => if (dFld c d).isSome = true ∧ (dFld c e).isSome = true then match m [d, e] C with
  | some (.ok (.bl b) C') => some (.ok (.bl (!b)) C')
  | _ => none
  else none
end
end Sm
end
section
set_option maxRecDepth 100000
set_option maxHeartbeats 0
namespace Sm
open PySem PySem.Spec PyProof.Rows L2 SlX
section
variable [Tabs0]
variable {X : Cx} {W : Wh}
/-! ### len(a), a == any value: a an instance -/
def xLenI (c : Str) (m : Fn) (s : S D) : S D := S.bind s fun d => fun _ C => if (dFld c d).isSome = true then match m [d] C with
  | some (.ok (.int n) C') => if 0 ≤ n ∧ n < 1000000 then some (.ok (.int n) C') else none
  | _ => none
  else none
/-- the names of plain values' types -/
def tyM : D → Option String
  | .dk _ _ => none
  | .dt _ _ => none
  | d => tyN d
def xTwoA (c : Str) (m : Fn) (s t : S D) : S D := S.bind s fun d => S.bind t fun e => fun _ C => if (dFld c d).isSome = true ∧ (tyM e).isSome = true then m [d, e] C else none
end
end Sm
end
section
set_option maxRecDepth 100000
set_option maxHeartbeats 0
namespace Sm
open PySem PySem.Spec PyProof.Rows L2 SlX
/-! ### a call of an instance -/
section
variable {prog : Program} {w : World} {A : Around} {s : Shared} {K : PySem.W.Frag} {x C f : Addr} {ox : Obj} {od : Option Obj} {R : Result → Shared → Prop}
end
section
variable [Tabs0]
variable {X : Cx} {W : Wh}
end
end Sm
end
section
set_option maxRecDepth 100000
set_option maxHeartbeats 0
namespace Sm
open PySem PySem.Spec PyProof.Rows L2 SlX
/-! ### str of an instance -/
section
variable {prog : Program} {w : World} {A : Around} {E : Value → Shared → Prop} {s : Shared} {K : PySem.W.Frag} {x C f : Addr} {ox : Obj} {od : Option Obj}
end
end Sm
end
section
set_option maxRecDepth 100000
set_option maxHeartbeats 0
namespace Sm
open PySem PySem.Spec PyProof.Rows L2 SlX
section
variable [Tabs0]
variable {X : Cx} {W : Wh}
/-! ### str(a), a an instance; str(int); f-strings -/
def xStrI (c : Str) (m : Fn) (s : S D) : S D := S.bind s fun d => fun _ C => if (dFld c d).isSome = true then match m [d] C with
  | some (.ok (.str y) C') => some (.ok (.str y) C')
  | _ => none
  else none
def dStrI : List D → Option D
  | [.int i] => if i.natAbs.log2 < 1920 then some (.str (toString i)) else none
  | _ => none
def dFmt : D → Option D
  | .int i => if i.natAbs.log2 < 1920 then some (.str (toString i)) else none
  | _ => none
/-- the parts of an f-string, one behind the other -/
def xJs : List (S D) → Str → S D
  | [], acc => S.val (.str acc)
  | s :: ss, acc => S.bind s fun d => match d with
    | .str y => if (acc ++ y).length ≤ 1000000 then xJs ss (acc ++ y) else fun _ _ => none
    | _ => fun _ _ => none
inductive SJ (X : Cx) (W : Wh) : List Expr → List (S D) → Prop where
  | nil : SJ X W [] []
  | cons {e : Expr} {s : S D} {es : List Expr} {ss : List (S D)} (h : SE X W e s) (r : SJ X W es ss) : SJ X W (e :: es) (s :: ss)
end
end Sm
end
section
set_option maxRecDepth 100000
set_option maxHeartbeats 0
/-! zip(t, l): a tuple and a list -/
namespace SmX
open PySem PySem.Spec PyProof.Rows L2
def ItzM (K : PySem.W.Frag) (a b : Addr) (m : Nat) : It :=
  ⟨fun i H => i < m ∧ ∃ xs ys : List V, SqT K H a xs ∧ SqL K H b ys ∧ min xs.length ys.length = m, fun i H v H' => ∃ T x y, v = .ref T ∧ H T = none ∧ H' = upd H T (.tup [x, y]) ∧ (∀ xs, SqT K H a xs → xs[i]? = some x) ∧ ∀ ys, SqL K H b ys → ys[i]? = some y,
    fun i H => m ≤ i ∧ ∃ xs ys : List V, SqT K H a xs ∧ SqL K H b ys ∧ min xs.length ys.length = m⟩
abbrev tnM (a b : Addr) (m : Nat) (z TI TO i1 i2 : Addr) : Nat → Heap → Prop := fun i h => i ≤ m ∧ IsZip h z TI TO .none ∧ IsTupOf2 h TI (.ref i1) (.ref i2) ∧ (∃ x y, IsTupOf2 h TO x y) ∧ h.IsTupleIter i1 a i ∧ h.IsListIter i2 b i
/-- for a, b in zip(t, l) -/
def kZM (K : PySem.W.Frag) (R : It → Hp → Prop) (vs : List V) (H1 : Hp) : Prop := ∃ (a b : Addr) (xs ys : List V), vs = [.ref a, .ref b] ∧ SqT K H1 a xs ∧ SqL K H1 b ys ∧ R (ItzM K a b (min xs.length ys.length)) H1
end SmX
namespace Sm
open PySem PySem.Spec PyProof.Rows L2
section
variable [Tabs0]
variable {X : Cx} {W : Wh}
/-- zip(t, l) for a tuple and a list, both as values -/
def zipsM (ds : List D) : Option (List D × Gd) := match ds with
  | [.tup xs, .lst ys] => some (prs xs ys, gd0)
  | _ => none
def iZpM (s : S (List D)) : SW := S.bind s fun ds env C => S.opt (zipsM ds) env C
end
end Sm
end
section
set_option maxRecDepth 100000
set_option maxHeartbeats 0
/-! repr of data, an empty dict among them -/
namespace Sm
open PySem PySem.Spec PyProof.Rows L2
/-- the text of data, where it can be told; an empty dict has one, too -/
def dReprK (d : D) : Option D := match d with
  | .dk [] [] => some (.str "{}")
  | d => dRepr d
def xReprK (s : S (List D)) : S D := S.bind s fun ds => S.opt (match ds with
  | [d] => dReprK d
  | _ => none)
section
variable [Tabs0] {X : Cx} {W : Wh}
def rReprK (K : PySem.W.Frag) : List V → Hp → VK → Prop := fun xs H Q => rRepr K xs H Q ∨ ∃ (Hf : Hp) (ρ : List Addr) (v : V), xs = [v] ∧ Same Hf H ∧ Dat K Hf ρ v (.dk [] []) ∧ Q (.str "{}") H
end
/-! ### a copy of a dict whose keys are rows of ints, the empty row among them -/
def rowsE : List (List Key) → Option (List (List Int))
  | [] => some []
  | k :: ks => match kRow k, rowsE ks with
    | some r, some rs => some (r :: rs)
    | _, _ => none
theorem rowsE_ok : ∀ {ks : List (List Key)} {ns : List (List Int)}, rowsE ks = some ns → ks = ns.map (·.map Sum.inl)
  | [], _, e => by cases e; rfl
  | k :: ks, n, e => by
    unfold rowsE at e
    split at e
    · rename_i r rs h1 h2
      cases e
      rw [kRow_ok h1, rowsE_ok h2]
      rfl
    · cases e
def dictE : List D → Option (List (List Key) × List D)
  | [.dt ks ds] => (rowsE ks).bind fun ns => if apart (ns.map hashR) = true then some (ks, ds) else none
  | _ => none
def xDictEC (s : S (List D)) : S D := S.bind s fun ds => fun _ C => match dictE (ds.map (vw C)) with
  | some p => if nocels p.2 = true then some (.ok (.cel C.length) (C ++ [some (.t p.1 p.2)])) else none
  | none => none
section
variable [Tabs0]
theorem dictE_ok {K : PySem.W.Frag} {Hf F H : Hp} {ρ : List Addr} {C : Cells} {vs : List V} {ds : List D} {p : List (List Key) × List D} (S0 : SR K Hf F ρ C H) (A : Dats K Hf ρ vs ds) (hp : dictE (ds.map (vw C)) = some p) :
    ∃ (a : Addr) (ns : List (List Int)) (xs : List V), vs = [.ref a] ∧ Rd H a (.dT (p.1.zip xs)) ∧ (p.1.zip xs).map (·.1) = ns.map (·.map Sum.inl) ∧ (ns.map hashR).Nodup ∧ p.1.length = xs.length ∧ Dats K Hf ρ xs p.2 := by
  have hv := vws_ok S0 A
  unfold dictE at hp
  split at hp
  · rename_i ks ds0 heq
    obtain ⟨ns, h1, h2⟩ := Option.bind_eq_some_iff.mp hp
    split at h2
    · rename_i hap
      cases h2
      rw [heq] at hv
      cases hv with
      | cons h hs =>
        cases hs
        obtain ⟨a, xs, rfl, hx, hl, hd⟩ := h.dt S0.ex
        refine ⟨a, ns, xs, rfl, hx, ?_, apart_ok hap, hl, hd⟩
        rw [← rowsE_ok h1]
        exact List.map_fst_zip (show ks.length ≤ xs.length by omega)
    · cases h2
  · cases hp
variable {X : Cx} {W : Wh}
theorem se_dictEC {x : Str} {p pos : Pos} {es : List Expr} {s : S (List D)} (h : PE X (.Call (.Name x p) es [] pos) (tCB rDictDT (tA X.K X.mg W s))) :
    SE X W (.Call (.Name x p) es [] pos) (xDictEC s) := pe_imp h fun σ H Q ⟨Hf, F, ρ, env, C, S0, E0, g⟩ => ⟨Hf, F, ρ, env, C, S0, E0, (Go.bind g).mono fun vs H1 ⟨Hf1, ρ1, C1, ds, e1, p1, S1, A1, g1⟩ => by
  cases hpr : dictE (ds.map (vw C1)) with
  | none =>
    simp only [hpr] at g1
    exact g1.elim
  | some pr =>
    simp only [hpr] at g1
    obtain ⟨a, ns, xs, rfl, k1, k2, k3, k4, k5⟩ := dictE_ok S1 A1 hpr
    refine ⟨a, _, ns, rfl, k1, k2, k3, fun q hq => ?_⟩
    split at g1
    · rename_i nc
      have S2 : SR X.K Hf1 F (ρ1 ++ [q]) (C1 ++ [some (.t pr.1 pr.2)]) (upd H1 q (.dT (pr.1.zip xs))) := S1.newOb hq (.t k4 (k5.bare nc))
      exact g1 (.ref q) _ Hf1 _ (Same.refl _) (List.prefix_append _ _) S2 (.cel (by rw [← S1.len, List.getElem?_append_right (Nat.le_refl _), Nat.sub_self]; rfl))
    · exact g1.elim⟩
end
end Sm
end
section
set_option maxRecDepth 100000
set_option maxHeartbeats 0
open PyProof.Rows PySem PySem.W PySem.Calls PySem.Spec
namespace Sk47
noncomputable section
open PySem L2 Sm
def topS (i : Nat) : Stmt := PySem.Challenge.pw_ringstairs_k47_whole_fillings_counted.main.body.getD i (.Pass ⟨0, 0, 0, 0⟩)
/-! ### what the defs come to -/
def b_order_in : SS := xRet (x2 dDiv (x2 dIx (xV 0) (S.val (.int (0)))) (xN dGcd (aCons (x2 dIx (xV 0) (S.val (.int (0)))) (aCons (x2 dIx (xV 0) (S.val (.int (1)))) (aNil)))))
def m_order_in : Fn := xDef 1 1 b_order_in
def q1_with_columns : SS := xAugS dAdd (xV 3) (xV 4) (S.val (.int (1)))
def q2_with_columns : SS := xFor (iV (xV 2)) (gN 4) (q1_with_columns)
def q3_with_columns : S (List D) := xLc (iV (xV 3)) (gN 5) (xB (x2 dGt (xV 5) (S.val (.int (0))))) (xV 5) [5]
def b_with_columns : SS := xSeq (xAsg (xC (S.bind (aStar (xV 1) (aStar (xF (xRepL (S.bind (aCons (S.val (.int (0))) (aNil)) fun ds => S.opt (few id ds)) (x2 dSub (xN dLen (aCons (xV 0) (aNil))) (xN dLen (aCons (xV 1) (aNil)))))) (aNil))) fun ds => S.opt (few id ds))) (gN 3)) (xSeq (q2_with_columns) (xRet (xN dTuple (aCons (xF (q3_with_columns)) (aNil)))))
def m_with_columns : Fn := xDef 3 6 b_with_columns
def q1_addable_columns : S (List D) := xLc (iR3 (aCons (xN dLen (aCons (xV 0) (aNil))) (aCons (x1 dNeg (S.val (.int (1)))) (aCons (x1 dNeg (S.val (.int (1)))) (aNil))))) (gN 2) (xOr (xB (x2 dEq (xV 2) (S.val (.int (0))))) (xB (x2 dGt (x2 dIx (xV 1) (x2 dSub (xV 2) (S.val (.int (1))))) (x2 dIx (xV 1) (xV 2))))) (xV 2) [2]
def b_addable_columns : SS := xSeq (xAsg (xTup (aStar (xV 0) (aCons (S.val (.int (0))) (aNil)))) (gN 1)) (xRet (xF (q1_addable_columns)))
def m_addable_columns : Fn := xDef 1 3 b_addable_columns
def q1_free_columns : S (List D) := xLc (iV (xCall m_addable_columns (aCons (xV 1) (aNil)))) (gN 4) (xAnd (xB (x2 dLt (xV 4) (xN dLen (aCons (xV 0) (aNil))))) (xB (x2 dLt (x2 dIx (xV 2) (xV 4)) (x2 dIx (xV 0) (xV 4))))) (xV 4) [4]
def q2_free_columns : S (List D) := xLc (iV (xV 3)) (gN 4) (S.val true) (xTup (aCons (xV 4) (aCons (x2 dSub (xV 4) (x2 dIx (xV 2) (xV 4))) (aNil)))) [4]
def b_free_columns : SS := xSeq (xAsg (xTup (aStar (xV 1) (aStar (xF (xRepL (S.bind (aCons (S.val (.int (0))) (aNil)) fun ds => S.opt (few id ds)) (x2 dSub (x2 dAdd (xN dLen (aCons (xV 0) (aNil))) (S.val (.int (1)))) (xN dLen (aCons (xV 1) (aNil)))))) (aNil)))) (gN 2)) (xSeq (xAsg (xF (q1_free_columns)) (gN 3)) (xRet (xF (q2_free_columns))))
def m_free_columns : Fn := xDef 2 5 b_free_columns
def q1_let_columns : SS := xSetApp 3 (x2 dMod (xV 5) (xV 2)) (xV 4)
def q2_let_columns : SS := xFor (iV (xCall m_free_columns (aCons (xV 0) (aCons (xV 1) (aNil))))) (gT (gsC (gN 4) (gsC (gN 5) (gsN)))) (q1_let_columns)
def q3_let_columns : S (List D) := xLc (iV (xF (xSrtK (aCons (xV 3) (aNil))))) (gN 6) (S.val true) (x2 dDGet (xV 3) (xV 6)) [6]
def b_let_columns : SS := xSeq (xAsg (xNewK) (gN 3)) (xSeq (q2_let_columns) (xSeq (xLockK 3) (xRet (xF (q3_let_columns)))))
def m_let_columns : Fn := xDef 3 7 b_let_columns
def q1_fewest_letters_in : SS := xSeq (xAsg (xCall m_with_columns (aCons (xV 1) (aCons (xV 4) (aCons (xV 7) (aNil))))) (gN 8)) (xSetT (xV 5) (xV 8) (xN dMin2 (aCons (xDGet2 (xV 5) (xV 8) (S.val (.int (1000)))) (aCons (x2 dAdd (x2 dDGet (xV 2) (xV 4)) (S.val (.int (1)))) (aNil)))))
def q2_fewest_letters_in : SS := xForC (iV (xCall m_let_columns (aCons (xV 1) (aCons (xV 4) (aCons (xV 6) (aNil)))))) (gN 7) (q1_fewest_letters_in)
def q3_fewest_letters_in : SS := q2_fewest_letters_in
def q4_fewest_letters_in : SS := xForC (iV (xV 2)) (gN 4) (q3_fewest_letters_in)
def q5_fewest_letters_in : SS := xSeq (xPar 5 6 (aCons (xDictEC (aCons (xV 2) (aNil))) (aCons (xCall m_order_in (aCons (xV 3) (aNil))) (aNil)))) (xSeq (q4_fewest_letters_in) (xAsg (xFrzT (xV 5)) (gN 2)))
def q6_fewest_letters_in : SS := xForC (iV (xV 0)) (gN 3) (q5_fewest_letters_in)
def b_fewest_letters_in : SS := xSeq (xAsg (xDispT [(xTup (aNil), S.val (.int (0)))]) (gN 2)) (xSeq (q6_fewest_letters_in) (xRet (xDGet2 (xV 2) (xV 1) (S.val .non))))
def m_fewest_letters_in : Fn := xDef 2 9 b_fewest_letters_in
def b_is_whole : SS := xRet (xAndV (xN dIsi (aCons (xV 0) (aCons (S.val (.opq (.ty "int"))) (aNil)))) (xNotV (xN dIsi (aCons (xV 0) (aCons (S.val (.opq (.ty "bool"))) (aNil))))))
def m_is_whole : Fn := xDef 1 1 b_is_whole
def b_is_within : SS := xRet (xAndV (xCall m_is_whole (aCons (xV 0) (aNil))) (xChain dLe dLe (xV 1) (xV 0) (xV 2)))
def m_is_within : Fn := xDef 3 3 b_is_within
def b_is_ring_in : SS := xSeq (xIfS (xOr (xNot (xB (xN dIsi (aCons (xV 0) (aCons (S.val (.opq (.ty "tuple"))) (aNil)))))) (xOr (xB (x2 dNe (xN dLen (aCons (xV 0) (aNil))) (S.val (.int (2))))) (xNot (xB (xCall m_is_within (aCons (x2 dIx (xV 0) (S.val (.int (0)))) (aCons (S.val (.int (2))) (aCons (S.val (.int (60))) (aNil))))))))) (xRet (S.val (.bl false))) (xNext)) (xRet (xCall m_is_within (aCons (x2 dIx (xV 0) (S.val (.int (1)))) (aCons (S.val (.int (1))) (aCons (x2 dSub (x2 dIx (xV 0) (S.val (.int (0)))) (S.val (.int (1)))) (aNil))))))
def m_is_ring_in : Fn := xDef 1 1 b_is_ring_in
def q1_is_chain_in : S (List D) := xLc (iV (xV 0)) (gN 1) (S.val true) (xCall m_is_ring_in (aCons (xV 1) (aNil))) [1]
def b_is_chain_in : SS := xRet (xAndV (xN dIsi (aCons (xV 0) (aCons (S.val (.opq (.ty "tuple"))) (aNil)))) (xAndV (xChain dLe dLe (S.val (.int (1))) (xN dLen (aCons (xV 0) (aNil))) (S.val (.int (12)))) (xN dAll (aCons (xF (q1_is_chain_in)) (aNil)))))
def m_is_chain_in : Fn := xDef 1 2 b_is_chain_in
def b_require_chain : SS := xIfS (xNot (xB (xCall m_is_chain_in (aCons (xV 0) (aNil))))) (xStop) (xNext)
def m_require_chain : Fn := xDef 1 1 b_require_chain
def q1_is_heap_in : S (List D) := xLc (iV (xV 0)) (gN 1) (S.val true) (xCall m_is_within (aCons (xV 1) (aCons (S.val (.int (1))) (aCons (S.val (.int (60))) (aNil))))) [1]
def q2_is_heap_in : S (List D) := xLc (iZp (aCons (xV 0) (aCons (xSl (xV 0) (oE (S.val (.int (1)))) (oNo)) (aNil)))) (gT (gsC (gN 2) (gsC (gN 3) (gsN)))) (S.val true) (x2 dGe (xV 2) (xV 3)) [2, 3]
def b_is_heap_in : SS := xSeq (xIfS (xOr (xNot (xB (xN dIsi (aCons (xV 0) (aCons (S.val (.opq (.ty "tuple"))) (aNil)))))) (xB (x2 dGt (xN dLen (aCons (xV 0) (aNil))) (S.val (.int (60)))))) (xRet (S.val (.bl false))) (xNext)) (xSeq (xIfS (xNot (xB (xN dAll (aCons (xF (q1_is_heap_in)) (aNil))))) (xRet (S.val (.bl false))) (xNext)) (xRet (xN dAll (aCons (xF (q2_is_heap_in)) (aNil)))))
def m_is_heap_in : Fn := xDef 1 4 b_is_heap_in
def b_require_heap : SS := xIfS (xNot (xB (xCall m_is_heap_in (aCons (xV 0) (aNil))))) (xStop) (xNext)
def m_require_heap : Fn := xDef 1 1 b_require_heap
def b_require_filled : SS := xSeq (xExp (xCall m_require_chain (aCons (xV 0) (aNil)))) (xSeq (xExp (xCall m_require_heap (aCons (xV 1) (aNil)))) (xIfS (xB (x2 dGt (xN dSumA (aCons (xV 1) (aNil))) (S.val (.int (42))))) (xStop) (xNext)))
def m_require_filled : Fn := xDef 2 2 b_require_filled
def b_fewest_letters : SS := xSeq (xExp (xCall m_require_filled (aCons (xV 0) (aCons (xV 1) (aNil))))) (xRet (xCall m_fewest_letters_in (aCons (xV 0) (aCons (xV 1) (aNil)))))
def m_fewest_letters : Fn := xDef 2 2 b_fewest_letters
def q1_some_columns : S (List D) := xLc (iV (xV 1)) (gN 3) (S.val true) (xTup (aStar (xV 3) (aCons (xV 2) (aNil)))) [3]
def q2_some_columns : SS := xAsg (xF (S.bind (aStar (xV 1) (aStar (xF (q1_some_columns)) (aNil))) fun ds => S.opt (few id ds))) (gN 1)
def q3_some_columns : SS := xFor (iV (xV 0)) (gN 2) (q2_some_columns)
def b_some_columns : SS := xSeq (xAsg (xF (S.bind (aCons (xTup (aNil)) (aNil)) fun ds => S.opt (few id ds))) (gN 1)) (xSeq (q3_some_columns) (xRet (xSl (xV 1) (oE (S.val (.int (1)))) (oNo))))
def m_some_columns : Fn := xDef 1 4 b_some_columns
def q1_fillings_count_in : SS := xSeq (xAsg (xCall m_with_columns (aCons (xV 1) (aCons (xV 4) (aCons (xV 8) (aNil))))) (gN 9)) (xSetT (xV 5) (xV 9) (x2 dAdd (xDGet2 (xV 5) (xV 9) (S.val (.int (0)))) (x2 dDGet (xV 2) (xV 4))))
def q2_fillings_count_in : SS := xForC (iV (xCall m_some_columns (aCons (xV 7) (aNil)))) (gN 8) (q1_fillings_count_in)
def q3_fillings_count_in : SS := q2_fillings_count_in
def q4_fillings_count_in : SS := xForC (iV (xCall m_let_columns (aCons (xV 1) (aCons (xV 4) (aCons (xV 6) (aNil)))))) (gN 7) (q3_fillings_count_in)
def q5_fillings_count_in : SS := q4_fillings_count_in
def q6_fillings_count_in : SS := xForC (iV (xV 2)) (gN 4) (q5_fillings_count_in)
def q7_fillings_count_in : SS := xSeq (xPar 5 6 (aCons (xDictEC (aCons (xV 2) (aNil))) (aCons (xCall m_order_in (aCons (xV 3) (aNil))) (aNil)))) (xSeq (q6_fillings_count_in) (xAsg (xFrzT (xV 5)) (gN 2)))
def q8_fillings_count_in : SS := xForC (iV (xV 0)) (gN 3) (q7_fillings_count_in)
def b_fillings_count_in : SS := xSeq (xAsg (xDispT [(xTup (aNil), S.val (.int (1)))]) (gN 2)) (xSeq (q8_fillings_count_in) (xRet (xDGet2 (xV 2) (xV 1) (S.val (.int (0))))))
def m_fillings_count_in : Fn := xDef 2 10 b_fillings_count_in
def b_fillings_count : SS := xSeq (xExp (xCall m_require_filled (aCons (xV 0) (aCons (xV 1) (aNil))))) (xRet (xCall m_fillings_count_in (aCons (xV 0) (aCons (xV 1) (aNil)))))
def m_fillings_count : Fn := xDef 2 2 b_fillings_count
def b__law_dice : SS := xSeq (xAsg (x2 dAdd (x2 dMulA (S.val (.int (101))) (xV 1)) (S.val (.int (47)))) (gN 2)) (xSeq (xIfS (xB (x2 dLt (xV 1) (xN dLen (aCons (xV 0) (aNil))))) (xAsg (x2 dIx (xV 0) (xV 1)) (gN 2)) (xNext)) (xSeq (xAsg (x2 dMod (xN dInt (aCons (xN dAbs (aCons (xV 2) (aNil))) (aNil))) (x2 dPow (x2 dPow (S.val (.int (10))) (S.val (.int (60)))) (S.val (.int (10))))) (gN 3)) (xSeq (xAsg (x2 dDiv (xV 3) (x2 dPow (S.val (.int (10))) (S.val (.int (18))))) (gN 4)) (xSeq (xAsg (x2 dAdd (x2 dAdd (x2 dAdd (x2 dMulA (x2 dMod (xV 3) (S.val (.int (2147482697)))) (S.val (.int (60497)))) (x2 dMulA (S.val (.int (3533))) (xV 1))) (x2 dMulA (S.val (.int (89))) (xN dInt (aCons (x2 dLt (xV 2) (S.val (.int (0)))) (aNil))))) (S.val (.int (109)))) (gN 5)) (xRet (xC (S.bind (aCons (xV 4) (aCons (x2 dMod (xV 5) (S.val (.int (2147482661)))) (aCons (S.val (.int (0))) (aNil)))) fun ds => S.opt (few id ds))))))))
def m__law_dice : Fn := xDef 2 6 b__law_dice
def b__law_roll : SS := xSeq (xAsg (xN dInt (aCons (xV 1) (aNil))) (gN 2)) (xSeq (xIfS (xB (x2 dGt (x2 dIx (xV 0) (S.val (.int (0)))) (S.val (.int (0))))) (xSeq (xAsg (x2 dMod (x2 dIx (xV 0) (S.val (.int (0)))) (xV 2)) (gN 5)) (xSeq (xSetI (xV 0) (S.val (.int (0))) (x2 dDiv (x2 dIx (xV 0) (S.val (.int (0)))) (xV 2))) (xRet (xN dInt (aCons (xV 5) (aNil)))))) (xNext)) (xSeq (xSetI (xV 0) (S.val (.int (2))) (x2 dAdd (x2 dIx (xV 0) (S.val (.int (2)))) (S.val (.int (1))))) (xSeq (xAsg (x2 dMod (x2 dAdd (x2 dIx (xV 0) (S.val (.int (1)))) (x2 dMulA (S.val (.int (1000409))) (x2 dIx (xV 0) (S.val (.int (2)))))) (S.val (.int (2305843009213693951)))) (gN 3)) (xSeq (xAsg (x2 dAdd (x2 dMulA (x2 dMod (x2 dMulA (xV 3) (xV 3)) (S.val (.int (2305843009213693921)))) (xV 3)) (x2 dMulA (S.val (.int (9479))) (x2 dIx (xV 0) (S.val (.int (2)))))) (gN 4)) (xSeq (xAsg (x2 dMod (xV 4) (S.val (.int (2305843009213693907)))) (gN 4)) (xRet (xN dInt (aCons (x2 dMod (x2 dDiv (xV 4) (S.val (.int (4096)))) (xV 2)) (aNil)))))))))
def m__law_roll : Fn := xDef 2 6 b__law_roll
def b__law_ring : SS := xSeq (xAsg (x2 dAdd (S.val (.int (2))) (xCall m__law_roll (aCons (xV 0) (aCons (x2 dSub (xV 1) (S.val (.int (1)))) (aNil))))) (gN 2)) (xRet (xTup (aCons (xV 2) (aCons (x2 dAdd (S.val (.int (1))) (xCall m__law_roll (aCons (xV 0) (aCons (x2 dSub (xV 2) (S.val (.int (1)))) (aNil))))) (aNil)))))
def m__law_ring : Fn := xDef 2 3 b__law_ring
def b__law_one_of : SS := xRet (x2 dIx (xV 1) (xCall m__law_roll (aCons (xV 0) (aCons (xN dLen (aCons (xV 1) (aNil))) (aNil)))))
def m__law_one_of : Fn := xDef 2 2 b__law_one_of
def q1__law_common : S Bool := xB (x2 dNe (xV 1) (S.val (.int (0))))
def q2__law_common : SS := xPar 0 1 (aCons (xV 1) (aCons (x2 dMod (xV 0) (xV 1)) (aNil)))
def q3__law_common : SS := wh (q1__law_common) (q2__law_common) 100
def b__law_common : SS := xSeq (q3__law_common) (xRet (xV 0))
def m__law_common : Fn := xDef 2 2 b__law_common
def q1__law_ring_of : S (List D) := xLc (iR2 (aCons (S.val (.int (1))) (aCons (xV 1) (aNil)))) (gN 5) (xB (x2 dEq (xCall m__law_common (aCons (xV 1) (aCons (xV 5) (aNil)))) (S.val (.int (1))))) (xV 5) [5]
def b__law_ring_of : SS := xSeq (xAsg (x2 dAdd (S.val (.int (1))) (xCall m__law_roll (aCons (xV 0) (aCons (xV 2) (aNil))))) (gN 3)) (xSeq (xAsg (xF (q1__law_ring_of)) (gN 4)) (xRet (xTup (aCons (x2 dMulA (xV 1) (xV 3)) (aCons (x2 dMulA (xV 3) (xCall m__law_one_of (aCons (xV 0) (aCons (xV 4) (aNil))))) (aNil))))))
def m__law_ring_of : Fn := xDef 3 6 b__law_ring_of
def q1__law_chain : S (List D) := xLc (iR1 (aCons (xV 1) (aNil))) (gN 4) (S.val true) (xCall m__law_ring_of (aCons (xV 0) (aCons (xV 3) (aCons (x2 dDiv (xV 2) (xV 3)) (aNil))))) [4]
def q2__law_chain : S (List D) := xLc (iR1 (aCons (xV 1) (aNil))) (gN 4) (S.val true) (xCall m__law_ring (aCons (xV 0) (aCons (xV 2) (aNil)))) [4]
def b__law_chain : SS := xSeq (xIfS (xB (x2 dEq (xCall m__law_roll (aCons (xV 0) (aCons (S.val (.int (3))) (aNil)))) (S.val (.int (0))))) (xSeq (xAsg (x2 dAdd (S.val (.int (2))) (xCall m__law_roll (aCons (xV 0) (aCons (xN dMin2 (aCons (S.val (.int (3))) (aCons (x2 dSub (xV 2) (S.val (.int (1)))) (aNil)))) (aNil))))) (gN 3)) (xRet (xN dTuple (aCons (xF (q1__law_chain)) (aNil))))) (xNext)) (xRet (xN dTuple (aCons (xF (q2__law_chain)) (aNil))))
def m__law_chain : Fn := xDef 3 5 b__law_chain
def q1__law_whole : S (List D) := xLc (iR1 (aCons (S.val (.int (3))) (aNil))) (gN 3) (S.val true) (xCall m__law_roll (aCons (xV 0) (aCons (S.val (.int (4))) (aNil)))) [3]
def q2__law_whole : S (List D) := xLc (iV (xV 1)) (gN 2) (xB (x2 dGt (xV 2) (S.val (.int (0))))) (xV 2) [2]
def b__law_whole : SS := xSeq (xIfS (xB (x2 dGt (xCall m__law_roll (aCons (xV 0) (aCons (S.val (.int (3))) (aNil)))) (S.val (.int (0))))) (xRet (x2 dMulA (xTup (aCons (x2 dAdd (S.val (.int (1))) (xCall m__law_roll (aCons (xV 0) (aCons (S.val (.int (3))) (aNil))))) (aNil))) (x2 dAdd (S.val (.int (1))) (xCall m__law_roll (aCons (xV 0) (aCons (S.val (.int (3))) (aNil))))))) (xNext)) (xSeq (xAsg (xF (xRv (xF (xSrtW (aCons (xF (q1__law_whole)) (aNil)))))) (gN 1)) (xRet (xN dTuple (aCons (xF (q2__law_whole)) (aNil)))))
def m__law_whole : Fn := xDef 1 4 b__law_whole
def b__law_order : SS := xRet (x2 dDiv (x2 dIx (xV 0) (S.val (.int (0)))) (xCall m__law_common (aCons (x2 dIx (xV 0) (S.val (.int (0)))) (aCons (x2 dIx (xV 0) (S.val (.int (1)))) (aNil)))))
def m__law_order : Fn := xDef 1 1 b__law_order
def q1__law_raised : S (List D) := xLc (iEn (aCons (xV 3) (aNil))) (gT (gsC (gN 5) (gsC (gN 6) (gsN)))) (S.val true) (x2 dAdd (xV 6) (xN dInt (aCons (x2 dInA (xV 5) (xV 2)) (aNil)))) [5, 6]
def q2__law_raised : S (List D) := xLc (iV (xV 4)) (gN 6) (xB (x2 dGt (xV 6) (S.val (.int (0))))) (xV 6) [6]
def b__law_raised : SS := xSeq (xAsg (x2 dAdd (xF (xLs (aCons (xV 0) (aNil)))) (xF (xRepL (S.bind (aCons (S.val (.int (0))) (aNil)) fun ds => S.opt (few id ds)) (x2 dSub (xN dLen (aCons (xV 1) (aNil))) (xN dLen (aCons (xV 0) (aNil))))))) (gN 3)) (xSeq (xAsg (xF (q1__law_raised)) (gN 4)) (xRet (xN dTuple (aCons (xF (q2__law_raised)) (aNil)))))
def m__law_raised : Fn := xDef 3 7 b__law_raised
def q1__law_rises : SS := xIfS (xAnd (xB (x2 dLt (x2 dIx (xV 2) (xV 4)) (x2 dIx (xV 1) (xV 4)))) (xOr (xB (x2 dEq (xV 4) (S.val (.int (0))))) (xB (x2 dGt (x2 dIx (xV 2) (x2 dSub (xV 4) (S.val (.int (1))))) (x2 dIx (xV 2) (xV 4)))))) (xExp (xM mAppend (xV 3) (aCons (xV 4) (aNil)))) (xNext)
def q2__law_rises : SS := xFor (iR1 (aCons (xN dLen (aCons (xV 1) (aNil))) (aNil))) (gN 4) (q1__law_rises)
def b__law_rises : SS := xSeq (xAsg (x2 dAdd (xF (xLs (aCons (xV 0) (aNil)))) (xF (xRepL (S.bind (aCons (S.val (.int (0))) (aNil)) fun ds => S.opt (few id ds)) (x2 dSub (xN dLen (aCons (xV 1) (aNil))) (xN dLen (aCons (xV 0) (aNil))))))) (gN 2)) (xSeq (xAsg (xC (S.bind (aNil) fun ds => S.opt (few id ds))) (gN 3)) (xSeq (q2__law_rises) (xRet (xFrz (xV 3)))))
def m__law_rises : Fn := xDef 2 5 b__law_rises
def q1__law_groups : SS := xSeq (xAsg (xIf (xB (x2 dLt (xV 4) (xN dLen (aCons (xV 0) (aNil))))) (x2 dIx (xV 0) (xV 4)) (S.val (.int (0)))) (gN 5)) (xSetApp 3 (x2 dMod (x2 dSub (xV 4) (xV 5)) (xV 2)) (xV 4))
def q2__law_groups : SS := xFor (iV (xCall m__law_rises (aCons (xV 0) (aCons (xV 1) (aNil))))) (gN 4) (q1__law_groups)
def q3__law_groups : S (List D) := xLc (iV (xF (xSrtK (aCons (xV 3) (aNil))))) (gN 6) (S.val true) (x2 dDGet (xV 3) (xV 6)) [6]
def b__law_groups : SS := xSeq (xAsg (xNewK) (gN 3)) (xSeq (q2__law_groups) (xSeq (xLockK 3) (xRet (xF (q3__law_groups)))))
def m__law_groups : Fn := xDef 3 7 b__law_groups
def q1__law_subsets : S (List D) := xLc (iV (xV 1)) (gN 3) (S.val true) (x2 dAdd (xV 3) (xF (S.bind (aCons (xV 2) (aNil)) fun ds => S.opt (few id ds)))) [3]
def q2__law_subsets : SS := xAsg (x2 dAdd (xV 1) (xF (q1__law_subsets))) (gN 1)
def q3__law_subsets : SS := xFor (iV (xV 0)) (gN 2) (q2__law_subsets)
def b__law_subsets : SS := xSeq (xAsg (xF (S.bind (aCons (xF (S.bind (aNil) fun ds => S.opt (few id ds))) (aNil)) fun ds => S.opt (few id ds))) (gN 1)) (xSeq (q3__law_subsets) (xRet (xSl (xV 1) (oE (S.val (.int (1)))) (oNo))))
def m__law_subsets : Fn := xDef 1 4 b__law_subsets
def q1__law_table : SS := xSeq (xAsg (xCall m__law_raised (aCons (xV 5) (aCons (xV 1) (aCons (xV 9) (aNil))))) (gN 10)) (xSeq (xAsg (xDGet2 (xV 4) (xV 10) (xTup (aCons (S.val (.int (0))) (aCons (x2 dAdd (xV 8) (S.val (.int (1)))) (aNil))))) (gT (gsC (gN 11) (gsC (gN 12) (gsN))))) (xSetT (xV 4) (xV 10) (xTup (aCons (x2 dAdd (xV 11) (xV 7)) (aCons (xN dMin2 (aCons (xV 12) (aCons (x2 dAdd (xV 8) (S.val (.int (1)))) (aNil)))) (aNil))))))
def q2__law_table : SS := xForC (iV (xCall m__law_subsets (aCons (xV 6) (aNil)))) (gN 9) (q1__law_table)
def q3__law_table : SS := q2__law_table
def q4__law_table : SS := xForC (iV (xCall m__law_groups (aCons (xV 5) (aCons (xV 1) (aCons (xCall m__law_order (aCons (xV 3) (aNil))) (aNil)))))) (gN 6) (q3__law_table)
def q5__law_table : SS := xSeq (xAsg (x2 dDGet (xV 2) (xV 5)) (gT (gsC (gN 7) (gsC (gN 8) (gsN))))) (q4__law_table)
def q6__law_table : SS := xForC (iV (xF (xSrtD2 (aCons (xV 2) (aNil))))) (gN 5) (q5__law_table)
def q7__law_table : SS := xSeq (xAsg (xDictEC (aCons (xV 2) (aNil))) (gN 4)) (xSeq (q6__law_table) (xAsg (xFrzT (xV 4)) (gN 2)))
def q8__law_table : SS := xForC (iV (xV 0)) (gN 3) (q7__law_table)
abbrev s1__law_table : SS := xAsg (xDispT [(xTup (aNil), xTup (aCons (S.val (.int (1))) (aCons (S.val (.int (0))) (aNil))))]) (gN 2)
abbrev s2__law_table : SS := q8__law_table
abbrev s3__law_table : SS := xRet (xV 2)
def b__law_table : SS := xSeq (s1__law_table) (xSeq (s2__law_table) (s3__law_table))
def m__law_table : Fn := xDef 2 13 b__law_table
def q1_hook_product : S (List D) := xLc (iV (xSl (xV 0) (oE (x2 dAdd (xV 2) (S.val (.int (1))))) (oNo))) (gN 6) (xB (x2 dGt (xV 6) (xV 4))) (xV 6) [6]
def q2_hook_product : SS := xSeq (xAsg (xN dLen (aCons (xF (q1_hook_product)) (aNil))) (gN 5)) (xAugI 1 dMul (x2 dSub (x2 dAdd (xV 5) (xV 3)) (xV 4)))
def q3_hook_product : SS := xFor (iR1 (aCons (xV 3) (aNil))) (gN 4) (q2_hook_product)
def q4_hook_product : SS := q3_hook_product
def q5_hook_product : SS := xFor (iEn (aCons (xV 0) (aNil))) (gT (gsC (gN 2) (gsC (gN 3) (gsN)))) (q4_hook_product)
def b_hook_product : SS := xSeq (xAsg (S.val (.int (1))) (gN 1)) (xSeq (q5_hook_product) (xRet (xV 1)))
def m_hook_product : Fn := xDef 1 7 b_hook_product
def b_standard_count : SS := xRet (x2 dDiv (xN dFac (aCons (xN dSumA (aCons (xV 0) (aNil))) (aNil))) (xCall m_hook_product (aCons (xV 0) (aNil))))
def m_standard_count : Fn := xDef 1 1 b_standard_count
def b_standard_fillings : SS := xSeq (xExp (xCall m_require_heap (aCons (xV 0) (aNil)))) (xSeq (xIfS (xB (x2 dGt (xN dSumA (aCons (xV 0) (aNil))) (S.val (.int (200))))) (xStop) (xNext)) (xRet (xCall m_standard_count (aCons (xV 0) (aNil)))))
def m_standard_fillings : Fn := xDef 1 1 b_standard_fillings
def q1__law_choices_of : SS := xAsg (x2 dDiv (x2 dMulA (xV 2) (x2 dSub (xV 1) (xV 3))) (x2 dAdd (xV 3) (S.val (.int (1))))) (gN 2)
def q2__law_choices_of : SS := xFor (iR1 (aCons (xV 0) (aNil))) (gN 3) (q1__law_choices_of)
def b__law_choices_of : SS := xSeq (xAsg (S.val (.int (1))) (gN 2)) (xSeq (q2__law_choices_of) (xRet (xV 2)))
def m__law_choices_of : Fn := xDef 2 4 b__law_choices_of
def q1__law_great_right : S (List D) := xLc (iR1 (aCons (xV 6) (aNil))) (gN 7) (S.val true) (xCall m__law_ring_of (aCons (xV 0) (aCons (x2 dAdd (S.val (.int (7))) (xCall m__law_roll (aCons (xV 0) (aCons (S.val (.int (3))) (aNil))))) (aCons (S.val (.int (2))) (aNil))))) [7]
def b__law_great_right : SS := xSeq (xPar 5 6 (aCons (xN dSumA (aCons (xV 1) (aNil))) (aCons (x2 dAdd (S.val (.int (1))) (xCall m__law_roll (aCons (xV 0) (aCons (S.val (.int (5))) (aNil))))) (aNil)))) (xSeq (xAsg (x2 dAdd (xN dLen (aCons (xV 1) (aNil))) (xN dMaxA (aCons (x2 dAdd (xF (S.bind (aCons (S.val (.int (0))) (aNil)) fun ds => S.opt (few id ds))) (xF (xLs (aCons (xV 1) (aNil))))) (aNil)))) (gN 2)) (xSeq (xAsg (xN dTuple (aCons (xF (q1__law_great_right)) (aNil))) (gN 3)) (xSeq (xIfS (xB (x2 dGt (xV 2) (S.val (.int (7))))) (xRet (S.val (.bl true))) (xNext)) (xSeq (xAsg (xIf (xB (x2 dLe (xV 5) (xV 6))) (x2 dMulA (xCall m__law_choices_of (aCons (xV 5) (aCons (xV 6) (aNil)))) (xCall m_standard_fillings (aCons (xV 1) (aNil)))) (S.val (.int (0)))) (gN 4)) (xRet (xAndV (x2 dEq (xCall m_fillings_count (aCons (xV 3) (aCons (xV 1) (aNil)))) (xV 4)) (x2 dEq (xCall m_fewest_letters (aCons (xV 3) (aCons (xV 1) (aNil)))) (xIf (xB (x2 dLe (xV 5) (xV 6))) (xV 5) (S.val .non)))))))))
def m__law_great_right : Fn := xDef 2 8 b__law_great_right
def q1__law_equal_chain : S (List D) := xLc (iR1 (aCons (xV 1) (aNil))) (gN 3) (S.val true) (xCall m__law_ring_of (aCons (xV 0) (aCons (xV 2) (aCons (S.val (.int (2))) (aNil))))) [3]
def b__law_equal_chain : SS := xRet (xN dTuple (aCons (xF (q1__law_equal_chain)) (aNil)))
def m__law_equal_chain : Fn := xDef 3 4 b__law_equal_chain
def q1__law_equal_right : S (List D) := xLc (iR1 (aCons (xN dMin2 (aCons (xV 4) (aCons (xV 5) (aNil)))) (aNil))) (gN 6) (S.val true) (x2 dAdd (x2 dMulA (x2 dSub (xV 4) (xV 6)) (x2 dSub (xV 5) (xV 6))) (x2 dMulA (xV 6) (xV 3))) [6]
def b__law_equal_right : SS := xSeq (xAsg (xTup (aCons (x2 dAdd (S.val (.int (2))) (xCall m__law_roll (aCons (xV 0) (aCons (S.val (.int (3))) (aNil))))) (aCons (x2 dAdd (S.val (.int (1))) (xCall m__law_roll (aCons (xV 0) (aCons (S.val (.int (3))) (aNil))))) (aCons (x2 dAdd (S.val (.int (1))) (xCall m__law_roll (aCons (xV 0) (aCons (S.val (.int (3))) (aNil))))) (aNil))))) (gT (gsC (gN 3) (gsC (gN 4) (gsC (gN 5) (gsN)))))) (xSeq (xAsg (xN dMinA (aCons (xF (q1__law_equal_right)) (aNil))) (gN 1)) (xSeq (xAsg (xCall m__law_equal_chain (aCons (xV 0) (aCons (x2 dMulA (xV 4) (xV 5)) (aCons (xV 3) (aNil))))) (gN 2)) (xSeq (xIfS (xB (x2 dNe (xCall m_fewest_letters (aCons (xV 2) (aCons (x2 dMulA (xTup (aCons (xV 5) (aNil))) (xV 4)) (aNil)))) (xV 1))) (xRet (S.val (.bl false))) (xNext)) (xRet (xOrV (x2 dEq (xV 1) (S.val (.int (1)))) (x2 dIs (xCall m_fewest_letters (aCons (xSl (xV 2) (oNo) (oE (x2 dSub (xV 1) (S.val (.int (1)))))) (aCons (x2 dMulA (xTup (aCons (xV 5) (aNil))) (xV 4)) (aNil)))) (S.val .non)))))))
def m__law_equal_right : Fn := xDef 1 7 b__law_equal_right
def q1_law : SS := xSeq (xAsg (xCall m__law_dice (aCons (xV 0) (aCons (xV 1) (aNil)))) (gN 2)) (xSeq (xPar 3 4 (aCons (xCall m__law_chain (aCons (xV 2) (aCons (x2 dAdd (S.val (.int (1))) (xCall m__law_roll (aCons (xV 2) (aCons (S.val (.int (5))) (aNil))))) (aCons (S.val (.int (6))) (aNil))))) (aCons (xCall m__law_whole (aCons (xV 2) (aNil))) (aNil)))) (xSeq (xAsg (xDGet2 (xCall m__law_table (aCons (xV 3) (aCons (xV 4) (aNil)))) (xV 4) (xTup (aCons (S.val (.int (0))) (aCons (S.val .non) (aNil))))) (gT (gsC (gN 5) (gsC (gN 6) (gsN))))) (xSeq (xIfS (xOr (xB (x2 dNe (xCall m_fillings_count (aCons (xV 3) (aCons (xV 4) (aNil)))) (xV 5))) (xB (x2 dNe (xCall m_fewest_letters (aCons (xV 3) (aCons (xV 4) (aNil)))) (xV 6)))) (xRet (S.val (.bl false))) (xNext)) (xIfS (xOr (xNot (xB (xCall m__law_great_right (aCons (xV 2) (aCons (xV 4) (aNil)))))) (xNot (xB (xCall m__law_equal_right (aCons (xV 2) (aNil)))))) (xRet (S.val (.bl false))) (xNext)))))
def q2_law : SS := xForC (iR1 (aCons (xN dMax2 (aCons (S.val (.int (1))) (aCons (xN dMin2 (aCons (S.val (.int (3))) (aCons (xN dLen (aCons (xV 0) (aNil))) (aNil)))) (aNil)))) (aNil))) (gN 1) (q1_law)
abbrev s1_law : SS := q2_law
abbrev s2_law : SS := xRet (S.val (.bl true))
def b_law : SS := xSeq (s1_law) (s2_law)
def m_law : Fn := xDef 1 7 b_law
/-! ### the texts -/
abbrev st_order_in : Stmt := topS 13
abbrev N_order_in : List Str := ["ring"]
theorem sc_order_in : FnScope ["ring"] ["ring"] (defScope st_order_in) := ⟨rfl, rfl, rfl, by decide +kernel, rfl, by decide +kernel, by decide +kernel⟩
abbrev st_with_columns : Stmt := topS 24
abbrev N_with_columns : List Str := ["heap", "part", "columns", "heights", "column", "height"]
theorem sc_with_columns : FnScope ["heap", "part", "columns", "heights", "column", "height"] ["heap", "part", "columns"] (defScope st_with_columns) := ⟨rfl, rfl, rfl, by decide +kernel, rfl, by decide +kernel, by decide +kernel⟩
abbrev st_addable_columns : Stmt := topS 18
abbrev N_addable_columns : List Str := ["heap", "heights", "column"]
theorem sc_addable_columns : FnScope ["heap", "heights", "column"] ["heap"] (defScope st_addable_columns) := ⟨rfl, rfl, rfl, by decide +kernel, rfl, by decide +kernel, by decide +kernel⟩
abbrev st_free_columns : Stmt := topS 23
abbrev N_free_columns : List Str := ["heap", "part", "heights", "columns", "column"]
theorem sc_free_columns : FnScope ["heap", "part", "heights", "columns", "column"] ["heap", "part"] (defScope st_free_columns) := ⟨rfl, rfl, rfl, by decide +kernel, rfl, by decide +kernel, by decide +kernel⟩
abbrev st_let_columns : Stmt := topS 25
abbrev N_let_columns : List Str := ["heap", "part", "order", "lots", "column", "diagonal", "rest"]
theorem sc_let_columns : FnScope ["heap", "part", "order", "lots", "column", "diagonal", "rest"] ["heap", "part", "order"] (defScope st_let_columns) := ⟨rfl, rfl, rfl, by decide +kernel, rfl, by decide +kernel, by decide +kernel⟩
abbrev st_fewest_letters_in : Stmt := topS 26
abbrev N_fewest_letters_in : List Str := ["chain", "heap", "fewest", "ring", "part", "later", "order", "columns", "grown_part"]
theorem sc_fewest_letters_in : FnScope ["chain", "heap", "fewest", "ring", "part", "later", "order", "columns", "grown_part"] ["chain", "heap"] (defScope st_fewest_letters_in) := ⟨rfl, rfl, rfl, by decide +kernel, rfl, by decide +kernel, by decide +kernel⟩
abbrev st_is_whole : Stmt := topS 9
abbrev N_is_whole : List Str := ["value"]
theorem sc_is_whole : FnScope ["value"] ["value"] (defScope st_is_whole) := ⟨rfl, rfl, rfl, by decide +kernel, rfl, by decide +kernel, by decide +kernel⟩
abbrev st_is_within : Stmt := topS 10
abbrev N_is_within : List Str := ["value", "least", "most"]
theorem sc_is_within : FnScope ["value", "least", "most"] ["value", "least", "most"] (defScope st_is_within) := ⟨rfl, rfl, rfl, by decide +kernel, rfl, by decide +kernel, by decide +kernel⟩
abbrev st_is_ring_in : Stmt := topS 11
abbrev N_is_ring_in : List Str := ["value"]
theorem sc_is_ring_in : FnScope ["value"] ["value"] (defScope st_is_ring_in) := ⟨rfl, rfl, rfl, by decide +kernel, rfl, by decide +kernel, by decide +kernel⟩
abbrev st_is_chain_in : Stmt := topS 12
abbrev N_is_chain_in : List Str := ["value", "ring"]
theorem sc_is_chain_in : FnScope ["value", "ring"] ["value"] (defScope st_is_chain_in) := ⟨rfl, rfl, rfl, by decide +kernel, rfl, by decide +kernel, by decide +kernel⟩
abbrev st_require_chain : Stmt := topS 14
abbrev N_require_chain : List Str := ["value"]
theorem sc_require_chain : FnScope ["value"] ["value"] (defScope st_require_chain) := ⟨rfl, rfl, rfl, by decide +kernel, rfl, by decide +kernel, by decide +kernel⟩
abbrev st_is_heap_in : Stmt := topS 17
abbrev N_is_heap_in : List Str := ["value", "height", "one", "other"]
theorem sc_is_heap_in : FnScope ["value", "height", "one", "other"] ["value"] (defScope st_is_heap_in) := ⟨rfl, rfl, rfl, by decide +kernel, rfl, by decide +kernel, by decide +kernel⟩
abbrev st_require_heap : Stmt := topS 19
abbrev N_require_heap : List Str := ["heap"]
theorem sc_require_heap : FnScope ["heap"] ["heap"] (defScope st_require_heap) := ⟨rfl, rfl, rfl, by decide +kernel, rfl, by decide +kernel, by decide +kernel⟩
abbrev st_require_filled : Stmt := topS 29
abbrev N_require_filled : List Str := ["chain", "heap"]
theorem sc_require_filled : FnScope ["chain", "heap"] ["chain", "heap"] (defScope st_require_filled) := ⟨rfl, rfl, rfl, by decide +kernel, rfl, by decide +kernel, by decide +kernel⟩
abbrev st_fewest_letters : Stmt := topS 30
abbrev N_fewest_letters : List Str := ["chain", "heap"]
theorem sc_fewest_letters : FnScope ["chain", "heap"] ["chain", "heap"] (defScope st_fewest_letters) := ⟨rfl, rfl, rfl, by decide +kernel, rfl, by decide +kernel, by decide +kernel⟩
abbrev st_some_columns : Stmt := topS 27
abbrev N_some_columns : List Str := ["columns", "found", "column", "chosen"]
theorem sc_some_columns : FnScope ["columns", "found", "column", "chosen"] ["columns"] (defScope st_some_columns) := ⟨rfl, rfl, rfl, by decide +kernel, rfl, by decide +kernel, by decide +kernel⟩
abbrev st_fillings_count_in : Stmt := topS 28
abbrev N_fillings_count_in : List Str := ["chain", "heap", "ways", "ring", "part", "later", "order", "lot", "columns", "grown_part"]
theorem sc_fillings_count_in : FnScope ["chain", "heap", "ways", "ring", "part", "later", "order", "lot", "columns", "grown_part"] ["chain", "heap"] (defScope st_fillings_count_in) := ⟨rfl, rfl, rfl, by decide +kernel, rfl, by decide +kernel, by decide +kernel⟩
abbrev st_fillings_count : Stmt := topS 31
abbrev N_fillings_count : List Str := ["chain", "heap"]
theorem sc_fillings_count : FnScope ["chain", "heap"] ["chain", "heap"] (defScope st_fillings_count) := ⟨rfl, rfl, rfl, by decide +kernel, rfl, by decide +kernel, by decide +kernel⟩
abbrev st__law_dice : Stmt := topS 38
abbrev N__law_dice : List Str := ["_law_script", "_law_at", "_law_cell", "_law_great", "_law_left", "_law_mixed"]
theorem sc__law_dice : FnScope ["_law_script", "_law_at", "_law_cell", "_law_great", "_law_left", "_law_mixed"] ["_law_script", "_law_at"] (defScope st__law_dice) := ⟨rfl, rfl, rfl, by decide +kernel, rfl, by decide +kernel, by decide +kernel⟩
abbrev st__law_roll : Stmt := topS 39
abbrev N__law_roll : List Str := ["_law_dice_here", "_law_total", "_law_size", "_law_one", "_law_two", "_law_drawn"]
theorem sc__law_roll : FnScope ["_law_dice_here", "_law_total", "_law_size", "_law_one", "_law_two", "_law_drawn"] ["_law_dice_here", "_law_total"] (defScope st__law_roll) := ⟨rfl, rfl, rfl, by decide +kernel, rfl, by decide +kernel, by decide +kernel⟩
abbrev st__law_ring : Stmt := topS 43
abbrev N__law_ring : List Str := ["_law_dice_here", "_law_most", "_law_n"]
theorem sc__law_ring : FnScope ["_law_dice_here", "_law_most", "_law_n"] ["_law_dice_here", "_law_most"] (defScope st__law_ring) := ⟨rfl, rfl, rfl, by decide +kernel, rfl, by decide +kernel, by decide +kernel⟩
abbrev st__law_one_of : Stmt := topS 40
abbrev N__law_one_of : List Str := ["_law_dice_here", "_law_items"]
theorem sc__law_one_of : FnScope ["_law_dice_here", "_law_items"] ["_law_dice_here", "_law_items"] (defScope st__law_one_of) := ⟨rfl, rfl, rfl, by decide +kernel, rfl, by decide +kernel, by decide +kernel⟩
abbrev st__law_common : Stmt := topS 41
abbrev N__law_common : List Str := ["_law_one", "_law_other"]
theorem sc__law_common : FnScope ["_law_one", "_law_other"] ["_law_one", "_law_other"] (defScope st__law_common) := ⟨rfl, rfl, rfl, by decide +kernel, rfl, by decide +kernel, by decide +kernel⟩
abbrev st__law_ring_of : Stmt := topS 44
abbrev N__law_ring_of : List Str := ["_law_dice_here", "_law_k", "_law_times", "_law_more", "_law_steps", "_law_one"]
theorem sc__law_ring_of : FnScope ["_law_dice_here", "_law_k", "_law_times", "_law_more", "_law_steps", "_law_one"] ["_law_dice_here", "_law_k", "_law_times"] (defScope st__law_ring_of) := ⟨rfl, rfl, rfl, by decide +kernel, rfl, by decide +kernel, by decide +kernel⟩
abbrev st__law_chain : Stmt := topS 45
abbrev N__law_chain : List Str := ["_law_dice_here", "_law_rings", "_law_most", "_law_k", "_law_turn"]
theorem sc__law_chain : FnScope ["_law_dice_here", "_law_rings", "_law_most", "_law_k", "_law_turn"] ["_law_dice_here", "_law_rings", "_law_most"] (defScope st__law_chain) := ⟨rfl, rfl, rfl, by decide +kernel, rfl, by decide +kernel, by decide +kernel⟩
abbrev st__law_whole : Stmt := topS 50
abbrev N__law_whole : List Str := ["_law_dice_here", "_law_heights", "_law_height", "_law_turn"]
theorem sc__law_whole : FnScope ["_law_dice_here", "_law_heights", "_law_height", "_law_turn"] ["_law_dice_here"] (defScope st__law_whole) := ⟨rfl, rfl, rfl, by decide +kernel, rfl, by decide +kernel, by decide +kernel⟩
abbrev st__law_order : Stmt := topS 42
abbrev N__law_order : List Str := ["_law_ring_here"]
theorem sc__law_order : FnScope ["_law_ring_here"] ["_law_ring_here"] (defScope st__law_order) := ⟨rfl, rfl, rfl, by decide +kernel, rfl, by decide +kernel, by decide +kernel⟩
abbrev st__law_raised : Stmt := topS 48
abbrev N__law_raised : List Str := ["_law_heap", "_law_whole_here", "_law_chosen", "_law_heights", "_law_found", "_law_column", "_law_height"]
theorem sc__law_raised : FnScope ["_law_heap", "_law_whole_here", "_law_chosen", "_law_heights", "_law_found", "_law_column", "_law_height"] ["_law_heap", "_law_whole_here", "_law_chosen"] (defScope st__law_raised) := ⟨rfl, rfl, rfl, by decide +kernel, rfl, by decide +kernel, by decide +kernel⟩
abbrev st__law_rises : Stmt := topS 47
abbrev N__law_rises : List Str := ["_law_heap", "_law_whole_here", "_law_heights", "_law_found", "_law_column"]
theorem sc__law_rises : FnScope ["_law_heap", "_law_whole_here", "_law_heights", "_law_found", "_law_column"] ["_law_heap", "_law_whole_here"] (defScope st__law_rises) := ⟨rfl, rfl, rfl, by decide +kernel, rfl, by decide +kernel, by decide +kernel⟩
abbrev st__law_groups : Stmt := topS 49
abbrev N__law_groups : List Str := ["_law_heap", "_law_whole_here", "_law_order_here", "_law_found", "_law_column", "_law_height", "_law_rest"]
theorem sc__law_groups : FnScope ["_law_heap", "_law_whole_here", "_law_order_here", "_law_found", "_law_column", "_law_height", "_law_rest"] ["_law_heap", "_law_whole_here", "_law_order_here"] (defScope st__law_groups) := ⟨rfl, rfl, rfl, by decide +kernel, rfl, by decide +kernel, by decide +kernel⟩
abbrev st__law_subsets : Stmt := topS 51
abbrev N__law_subsets : List Str := ["_law_items", "_law_found", "_law_item", "_law_lot"]
theorem sc__law_subsets : FnScope ["_law_items", "_law_found", "_law_item", "_law_lot"] ["_law_items"] (defScope st__law_subsets) := ⟨rfl, rfl, rfl, by decide +kernel, rfl, by decide +kernel, by decide +kernel⟩
abbrev st__law_table : Stmt := topS 52
abbrev N__law_table : List Str := ["_law_chain_here", "_law_whole_here", "_law_found", "_law_ring_here", "_law_further", "_law_heap", "_law_group", "_law_ways", "_law_fewest", "_law_lot", "_law_more", "_law_old", "_law_least"]
theorem sc__law_table : FnScope ["_law_chain_here", "_law_whole_here", "_law_found", "_law_ring_here", "_law_further", "_law_heap", "_law_group", "_law_ways", "_law_fewest", "_law_lot", "_law_more", "_law_old", "_law_least"] ["_law_chain_here", "_law_whole_here"] (defScope st__law_table) := ⟨rfl, rfl, rfl, by decide +kernel, rfl, by decide +kernel, by decide +kernel⟩
abbrev st_hook_product : Stmt := topS 34
abbrev N_hook_product : List Str := ["heap", "found", "column", "height", "row", "right", "one"]
theorem sc_hook_product : FnScope ["heap", "found", "column", "height", "row", "right", "one"] ["heap"] (defScope st_hook_product) := ⟨rfl, rfl, rfl, by decide +kernel, rfl, by decide +kernel, by decide +kernel⟩
abbrev st_standard_count : Stmt := topS 35
abbrev N_standard_count : List Str := ["heap"]
theorem sc_standard_count : FnScope ["heap"] ["heap"] (defScope st_standard_count) := ⟨rfl, rfl, rfl, by decide +kernel, rfl, by decide +kernel, by decide +kernel⟩
abbrev st_standard_fillings : Stmt := topS 36
abbrev N_standard_fillings : List Str := ["heap"]
theorem sc_standard_fillings : FnScope ["heap"] ["heap"] (defScope st_standard_fillings) := ⟨rfl, rfl, rfl, by decide +kernel, rfl, by decide +kernel, by decide +kernel⟩
abbrev st__law_choices_of : Stmt := topS 53
abbrev N__law_choices_of : List Str := ["_law_size", "_law_total", "_law_found", "_law_at"]
theorem sc__law_choices_of : FnScope ["_law_size", "_law_total", "_law_found", "_law_at"] ["_law_size", "_law_total"] (defScope st__law_choices_of) := ⟨rfl, rfl, rfl, by decide +kernel, rfl, by decide +kernel, by decide +kernel⟩
abbrev st__law_great_right : Stmt := topS 54
abbrev N__law_great_right : List Str := ["_law_dice_here", "_law_whole_here", "_law_most", "_law_chain_here", "_law_due", "_law_size", "_law_rings", "_law_turn"]
theorem sc__law_great_right : FnScope ["_law_dice_here", "_law_whole_here", "_law_most", "_law_chain_here", "_law_due", "_law_size", "_law_rings", "_law_turn"] ["_law_dice_here", "_law_whole_here"] (defScope st__law_great_right) := ⟨rfl, rfl, rfl, by decide +kernel, rfl, by decide +kernel, by decide +kernel⟩
abbrev st__law_equal_chain : Stmt := topS 46
abbrev N__law_equal_chain : List Str := ["_law_dice_here", "_law_rings", "_law_k", "_law_turn"]
theorem sc__law_equal_chain : FnScope ["_law_dice_here", "_law_rings", "_law_k", "_law_turn"] ["_law_dice_here", "_law_rings", "_law_k"] (defScope st__law_equal_chain) := ⟨rfl, rfl, rfl, by decide +kernel, rfl, by decide +kernel, by decide +kernel⟩
abbrev st__law_equal_right : Stmt := topS 55
abbrev N__law_equal_right : List Str := ["_law_dice_here", "_law_due", "_law_chain_here", "_law_k", "_law_columns", "_law_rows", "_law_l"]
theorem sc__law_equal_right : FnScope ["_law_dice_here", "_law_due", "_law_chain_here", "_law_k", "_law_columns", "_law_rows", "_law_l"] ["_law_dice_here"] (defScope st__law_equal_right) := ⟨rfl, rfl, rfl, by decide +kernel, rfl, by decide +kernel, by decide +kernel⟩
abbrev st_law : Stmt := topS 56
abbrev N_law : List Str := ["_law_script", "_law_at", "_law_dice_here", "_law_chain_here", "_law_whole_here", "_law_ways", "_law_fewest"]
theorem sc_law : FnScope ["_law_script", "_law_at", "_law_dice_here", "_law_chain_here", "_law_whole_here", "_law_ways", "_law_fewest"] ["_law_script"] (defScope st_law) := ⟨rfl, rfl, rfl, by decide +kernel, rfl, by decide +kernel, by decide +kernel⟩
/-! ### what stands at the top -/
structure Tops (P : Program) (K : PySem.W.Frag) (mg : Str → Option Value) : Prop where
  b_abs : mg "abs" = none
  b_all : mg "all" = none
  b_bool : mg "bool" = none
  b_dict : mg "dict" = none
  b_enumerate : mg "enumerate" = none
  b_int : mg "int" = none
  b_isinstance : mg "isinstance" = none
  b_len : mg "len" = none
  b_list : mg "list" = none
  b_max : mg "max" = none
  b_min : mg "min" = none
  b_range : mg "range" = none
  b_sorted : mg "sorted" = none
  b_sum : mg "sum" = none
  b_tuple : mg "tuple" = none
  b_zip : mg "zip" = none
  c_MAX_KEPT : ∃ t, mg "MAX_KEPT" = some (.int (1000) t)
  c_MAX_SQUARES : ∃ t, mg "MAX_SQUARES" = some (.int (42) t)
  c_MOST_HOOKED : ∃ t, mg "MOST_HOOKED" = some (.int (200) t)
  c_MOST_PLACES : ∃ t, mg "MOST_PLACES" = some (.int (60) t)
  c_MOST_RINGS : ∃ t, mg "MOST_RINGS" = some (.int (12) t)
  c_MOST_SIDE : ∃ t, mg "MOST_SIDE" = some (.int (60) t)
  g_fac : mg "factorial" = some (.builtin "math.factorial")
  g_gcd : mg "gcd" = some (.builtin "math.gcd")
section
variable [Tabs0]
variable {P : Program} {w : World} {K : PySem.W.Frag} {mg : Str → Option Value} {base : Heap}
theorem k_order_in {f : Addr} {fd : FuncData} (T : Tops P K mg) (F : L2.Fun K "order_in" "order_in" st_order_in f fd) (gF : mg "order_in" = some (.ref f)) (hb : Binds K fd ["ring"] [])  : Cal P w K mg base "order_in" 1 1 m_order_in :=
  cal_of F gF hb sc_order_in rfl fun cdv A outer s H E hr gd => (ss_one (sc_ret (se_op op_fdivW op_dDiv (se_sub ix_any op_dIx (se_var (pv 0)) se_int (fun _ _ => rfl)) (se_bi op_dGcd (pe_callBfun cr_gcd (by rfl) T.g_gcd (sa_cons (se_sub ix_any op_dIx (se_var (pv 0)) se_int (fun _ _ => rfl)) (sa_cons (se_sub ix_any op_dIx (se_var (pv 0)) se_int (fun _ _ => rfl)) sa_nil rfl) rfl))))))
theorem k_with_columns {f : Addr} {fd : FuncData} (T : Tops P K mg) (F : L2.Fun K "with_columns" "with_columns" st_with_columns f fd) (gF : mg "with_columns" = some (.ref f)) (hb : Binds K fd ["heap", "part", "columns"] [])  : Cal P w K mg base "with_columns" 3 1 m_with_columns :=
  cal_of F gF hb sc_with_columns rfl fun cdv A outer s H E hr gd => (ss_cons (sc_set (ps_set (i := 3) sc_with_columns.nd rfl (by first | exact Or.inl rfl | exact Or.inr rfl) (se_C (sl_lst (sa_star (se_var (pv 1)) (sa_star (se_F (sl_rep (sl_lst (sa_cons se_int sa_nil rfl)) (se_op op_sub op_dSub (se_bi op_dLen (pe_callB call_len_seq (by rfl) T.b_len PySem.boot_len (sa_cons (se_var (pv 0)) sa_nil rfl))) (se_bi op_dLen (pe_callB call_len_seq (by rfl) T.b_len PySem.boot_len (sa_cons (se_var (pv 1)) sa_nil rfl)))))) sa_nil rfl) rfl)))))
      (ss_cons (sc_for (passes_of rfl) rfl (si_val (se_var (pv 2))) (sg_name (W := _) (pg_name sc_with_columns.nd rfl (by first | exact Or.inl rfl | exact Or.inr rfl))) (ss_one (sc_augS au_add (ps_augS (se_var (pv 3)) (se_var (pv 4)) get_list se_int ip_add set_list))) (by intro _; rfl))
      (ss_one (sc_ret (se_bi op_dTuple (pe_callTy call_tuple_of (by rfl) T.b_tuple PyProof.Rows.boot_tuple (sa_cons (se_F (sl_lc (by decide) (gN_len _) (pe_lc (own := [("height", 5)]) (g := gG _ _ none (gN 5)) rfl sc_with_columns.nd (si_val (se_var (pv 3))) (blkOk_by (N := N_with_columns) (sc := defScope st_with_columns) (by decide +kernel)) (fun _ _ _ _ _ => (sg_name (W := W0) (pg_name sc_with_columns.nd rfl (by first | exact Or.inl rfl | exact Or.inr rfl)))) (fun _ _ _ _ _ => (pts_one (sb_cmp op_gt op_dGt (se_var (pv 5)) se_int (nomark _)))) (fun _ _ _ _ _ => (se_var (pv 5)))))) sa_nil rfl)))))))
theorem k_addable_columns {f : Addr} {fd : FuncData} (T : Tops P K mg) (F : L2.Fun K "addable_columns" "addable_columns" st_addable_columns f fd) (gF : mg "addable_columns" = some (.ref f)) (hb : Binds K fd ["heap"] [])  : Cal P w K mg base "addable_columns" 1 1 m_addable_columns :=
  cal_of F gF hb sc_addable_columns rfl fun cdv A outer s H E hr gd => (ss_cons (sc_set (ps_set (i := 1) sc_addable_columns.nd rfl (by first | exact Or.inl rfl | exact Or.inr rfl) (se_tup (sa_star (se_var (pv 0)) (sa_cons se_int sa_nil rfl) rfl))))
      (ss_one (sc_ret (se_F (sl_lc (by decide) (gN_len _) (pe_lc (own := [("column", 2)]) (g := gG _ _ none (gN 2)) rfl sc_addable_columns.nd (si_r3 (pi_range3 (by rfl) T.b_range (sa_cons (se_bi op_dLen (pe_callB call_len_seq (by rfl) T.b_len PySem.boot_len (sa_cons (se_var (pv 0)) sa_nil rfl))) (sa_cons (se_un un_neg op_dNeg se_int) (sa_cons (se_un un_neg op_dNeg se_int) sa_nil rfl) rfl) rfl))) (blkOk_by (N := N_addable_columns) (sc := defScope st_addable_columns) (by decide +kernel)) (fun _ _ _ _ _ => (sg_name (W := W0) (pg_name sc_addable_columns.nd rfl (by first | exact Or.inl rfl | exact Or.inr rfl)))) (fun _ _ _ _ _ => (pts_one (sb_w (sw_or (sb_cmp (op_eqD hr.units) op_dEq (se_var (pv 2)) se_int (nomark _)) (sw_or1 (sb_cmp op_gt op_dGt (se_sub ix_any op_dIx (se_var (pv 1)) (se_op op_sub op_dSub (se_var (pv 2)) se_int) (fun _ _ => rfl)) (se_sub ix_any op_dIx (se_var (pv 1)) (se_var (pv 2)) (fun _ _ => rfl)) (nomark _))))))) (fun _ _ _ _ _ => (se_var (pv 2)))))))))
theorem k_free_columns {f : Addr} {fd : FuncData} (T : Tops P K mg) (F : L2.Fun K "free_columns" "free_columns" st_free_columns f fd) (gF : mg "free_columns" = some (.ref f)) (hb : Binds K fd ["heap", "part"] []) (c_addable_columns : Cal P w K mg base "addable_columns" 1 1 m_addable_columns) : Cal P w K mg base "free_columns" 2 2 m_free_columns :=
  cal_of F gF hb sc_free_columns rfl fun cdv A outer s H E hr gd => (ss_cons (sc_set (ps_set (i := 2) sc_free_columns.nd rfl (by first | exact Or.inl rfl | exact Or.inr rfl) (se_tup (sa_star (se_var (pv 1)) (sa_star (se_F (sl_rep (sl_lst (sa_cons se_int sa_nil rfl)) (se_op op_sub op_dSub (se_op or_add op_dAdd (se_bi op_dLen (pe_callB call_len_seq (by rfl) T.b_len PySem.boot_len (sa_cons (se_var (pv 0)) sa_nil rfl))) se_int) (se_bi op_dLen (pe_callB call_len_seq (by rfl) T.b_len PySem.boot_len (sa_cons (se_var (pv 1)) sa_nil rfl)))))) sa_nil rfl) rfl))))
      (ss_cons (by first | exact sc_setL (fun _ _ _ q => goLc (by decide) (gN_len _) (goF q)) (ps_setLc (i := 3) (own := [("column", 4)]) (g := gG _ _ none (gN 4)) rfl sc_free_columns.nd rfl rfl (sw_true rfl rfl rfl (by decide +kernel)) (si_val (se_call c_addable_columns takes_def (hr.mono (by decide)) gd (by rfl) (sa_cons (se_var (pv 1)) sa_nil rfl) (by decide) rfl rfl)) (blkOk_by (N := N_free_columns) (sc := defScope st_free_columns) (by decide +kernel)) (fun _ _ _ _ _ => (sg_name (W := W0) (pg_name sc_free_columns.nd rfl (by first | exact Or.inl rfl | exact Or.inr rfl)))) (fun _ _ _ _ _ => (pts_one (sb_w (sw_and (sb_cmp op_lt op_dLt (se_var (pv 4)) (se_bi op_dLen (pe_callB call_len_seq (by rfl) T.b_len PySem.boot_len (sa_cons (se_var (pv 0)) sa_nil rfl))) (nomark _)) (sw_and1 (sb_cmp op_lt op_dLt (se_sub ix_any op_dIx (se_var (pv 2)) (se_var (pv 4)) (fun _ _ => rfl)) (se_sub ix_any op_dIx (se_var (pv 0)) (se_var (pv 4)) (fun _ _ => rfl)) (nomark _))))))) (fun _ _ _ _ _ => (se_var (pv 4)))) | exact sc_set (ps_set (i := 3) sc_free_columns.nd rfl (by first | exact Or.inl rfl | exact Or.inr rfl) (se_F (sl_lc (by decide) (gN_len _) (pe_lc (own := [("column", 4)]) (g := gG _ _ none (gN 4)) rfl sc_free_columns.nd (si_val (se_call c_addable_columns takes_def (hr.mono (by decide)) gd (by rfl) (sa_cons (se_var (pv 1)) sa_nil rfl) (by decide) rfl rfl)) (blkOk_by (N := N_free_columns) (sc := defScope st_free_columns) (by decide +kernel)) (fun _ _ _ _ _ => (sg_name (W := W0) (pg_name sc_free_columns.nd rfl (by first | exact Or.inl rfl | exact Or.inr rfl)))) (fun _ _ _ _ _ => (pts_one (sb_w (sw_and (sb_cmp op_lt op_dLt (se_var (pv 4)) (se_bi op_dLen (pe_callB call_len_seq (by rfl) T.b_len PySem.boot_len (sa_cons (se_var (pv 0)) sa_nil rfl))) (nomark _)) (sw_and1 (sb_cmp op_lt op_dLt (se_sub ix_any op_dIx (se_var (pv 2)) (se_var (pv 4)) (fun _ _ => rfl)) (se_sub ix_any op_dIx (se_var (pv 0)) (se_var (pv 4)) (fun _ _ => rfl)) (nomark _))))))) (fun _ _ _ _ _ => (se_var (pv 4))))))))
      (ss_one (sc_ret (se_F (sl_lc (by decide) (gN_len _) (pe_lc (own := [("column", 4)]) (g := gG _ _ none (gN 4)) rfl sc_free_columns.nd (si_val (se_var (pv 3))) (blkOk_by (N := N_free_columns) (sc := defScope st_free_columns) (by decide +kernel)) (fun _ _ _ _ _ => (sg_name (W := W0) (pg_name sc_free_columns.nd rfl (by first | exact Or.inl rfl | exact Or.inr rfl)))) (fun _ _ _ _ _ => st_nil) (fun _ _ _ _ _ => (se_tup (sa_cons (se_var (pv 4)) (sa_cons (se_op op_sub op_dSub (se_var (pv 4)) (se_sub ix_any op_dIx (se_var (pv 2)) (se_var (pv 4)) (fun _ _ => rfl))) sa_nil rfl) rfl))))))))))
theorem k_let_columns {f : Addr} {fd : FuncData} (T : Tops P K mg) (F : L2.Fun K "let_columns" "let_columns" st_let_columns f fd) (gF : mg "let_columns" = some (.ref f)) (hb : Binds K fd ["heap", "part", "order"] []) (c_free_columns : Cal P w K mg base "free_columns" 2 2 m_free_columns) : Cal P w K mg base "let_columns" 3 3 m_let_columns :=
  cal_of F gF hb sc_let_columns rfl fun cdv A outer s H E hr gd => (ss_cons (sc_set (ps_set (i := 3) sc_let_columns.nd rfl (by first | exact Or.inl rfl | exact Or.inr rfl) se_newK))
      (ss_cons (sc_for (passes_of rfl) rfl (si_val (se_call c_free_columns takes_def (hr.mono (by decide)) gd (by rfl) (sa_cons (se_var (pv 0)) (sa_cons (se_var (pv 1)) sa_nil rfl) rfl) (by decide) rfl rfl)) (sg_tup (W := _) (fun _ h => pg_tup rfl h) (sgs_cons (W := _) (sg_name (W := _) (pg_name sc_let_columns.nd rfl (by first | exact Or.inl rfl | exact Or.inr rfl))) (sgs_cons (W := _) (sg_name (W := _) (pg_name sc_let_columns.nd rfl (by first | exact Or.inl rfl | exact Or.inr rfl))) (sgs_nil (W := _)) rfl) rfl) (fun _ _ _ q => gsC_len (fun _ _ _ q => gsC_len (fun _ _ _ q => gsN_len q) q) q)) (ss_one (sc_setApp (pv 3) (se_op op_mod op_dMod (se_var (pv 5)) (se_var (pv 2))) (se_var (pv 4)) ⟨rfl, rfl, rfl, rfl⟩ (fun h a => pe_bm PySem.F.plainAttrs_list PySem.F.slot_list_append PySem.F.type_list_append mt_append h a) rfl rfl)) (by intro _; rfl))
      (ss_one (sc_lockK 3 (sc_ret (se_F (sl_lc (by decide) (gN_len _) (pe_lc (own := [("rest", 6)]) (g := gG _ _ none (gN 6)) rfl sc_let_columns.nd (si_val (se_F (sl_srtK (pe_callB (cr_sortedK rfl (un64 (units65 hr))) (by rfl) T.b_sorted PyProof.Rows.boot_sorted (sa_cons (se_var (pv 3)) sa_nil rfl))))) (blkOk_by (N := N_let_columns) (sc := defScope st_let_columns) (by decide +kernel)) (fun _ _ _ _ _ => (sg_name (W := W0) (pg_name sc_let_columns.nd rfl (by first | exact Or.inl rfl | exact Or.inr rfl)))) (fun _ _ _ _ _ => st_nil) (fun _ _ _ _ _ => (se_dget (un1 (units65 hr)) (se_var (pv 3)) (se_var (pv 6)) (fun _ _ => rfl)))))))))))
theorem k_fewest_letters_in {f : Addr} {fd : FuncData} (T : Tops P K mg) (F : L2.Fun K "fewest_letters_in" "fewest_letters_in" st_fewest_letters_in f fd) (gF : mg "fewest_letters_in" = some (.ref f)) (hb : Binds K fd ["chain", "heap"] []) (c_order_in : Cal P w K mg base "order_in" 1 1 m_order_in) (c_with_columns : Cal P w K mg base "with_columns" 3 1 m_with_columns) (c_let_columns : Cal P w K mg base "let_columns" 3 3 m_let_columns) : Cal P w K mg base "fewest_letters_in" 2 4 m_fewest_letters_in :=
  cal_of F gF hb sc_fewest_letters_in rfl fun cdv A outer s H E hr gd => (ss_cons (sc_set (ps_set (i := 2) sc_fewest_letters_in.nd rfl (by first | exact Or.inl rfl | exact Or.inr rfl) (se_dispT (ps := [(xTup (aNil), S.val (.int (0)))]) (un_of hr) (pps_cons (se_tup sa_nil) se_int pps_nil) rfl rfl (by simp) (by decide))))
      (ss_cons (sc_forC (passes_of rfl) rfl (si_val (se_var (pv 0))) (sg_name (W := _) (pg_name sc_fewest_letters_in.nd rfl (by first | exact Or.inl rfl | exact Or.inr rfl))) (ss_cons (sc_par (ps_par (i := 5) (j := 6) rfl sc_fewest_letters_in.nd rfl rfl (by decide) rfl rfl (sa_cons (se_dictEC (pe_callTy (call_dictDT (units65 hr)) (by rfl) T.b_dict PyProof.Rows.boot_dict (sa_cons (se_var (pv 2)) sa_nil rfl))) (sa_cons (se_call c_order_in takes_def (hr.mono (by decide)) gd (by rfl) (sa_cons (se_var (pv 3)) sa_nil rfl) (by decide) rfl rfl) sa_nil rfl) rfl) rfl))
      (ss_cons (sc_forC (passes_of rfl) rfl (si_val (se_var (pv 2))) (sg_name (W := _) (pg_name sc_fewest_letters_in.nd rfl (by first | exact Or.inl rfl | exact Or.inr rfl))) (ss_one (sc_forC (passes_of rfl) rfl (si_val (se_call c_let_columns takes_def (hr.mono (by decide)) gd (by rfl) (sa_cons (se_var (pv 1)) (sa_cons (se_var (pv 4)) (sa_cons (se_var (pv 6)) sa_nil rfl) rfl) rfl) (by decide) rfl rfl)) (sg_name (W := _) (pg_name sc_fewest_letters_in.nd rfl (by first | exact Or.inl rfl | exact Or.inr rfl))) (ss_cons (sc_set (ps_set (i := 8) sc_fewest_letters_in.nd rfl (by first | exact Or.inl rfl | exact Or.inr rfl) (se_call c_with_columns takes_def (hr.mono (by decide)) gd (by rfl) (sa_cons (se_var (pv 1)) (sa_cons (se_var (pv 4)) (sa_cons (se_var (pv 7)) sa_nil rfl) rfl) rfl) (by decide) rfl rfl)))
      (ss_one (sc_sett (un1 (units65 hr)) (se_var (pv 5)) (se_var (pv 8)) (se_bi op_dMin2 (pe_callB (call_min2 rfl) (by rfl) T.b_min PyProof.Rows.boot_min (sa_cons (se_dget2 (un1 (units65 hr)) (se_var (pv 5)) (se_var (pv 8)) (se_gintE rfl T.c_MAX_KEPT (by decide)) ⟨rfl, rfl, rfl, rfl⟩) (sa_cons (se_op or_add op_dAdd (se_dget (un1 (units65 hr)) (se_var (pv 2)) (se_var (pv 4)) (fun _ _ => rfl)) se_int) sa_nil rfl) rfl))) rfl))) (by intro _; rfl))) (by intro _; rfl))
      (ss_one (sc_set (ps_set (i := 2) sc_fewest_letters_in.nd rfl (by first | exact Or.inl rfl | exact Or.inr rfl) (se_frzT (se_var (pv 5)))))))) (by intro _; rfl))
      (ss_one (sc_ret (se_dget2 (un1 (units65 hr)) (se_var (pv 2)) (se_var (pv 1)) se_non ⟨rfl, rfl, rfl, rfl⟩)))))
theorem k_is_whole {f : Addr} {fd : FuncData} (T : Tops P K mg) (F : L2.Fun K "is_whole" "is_whole" st_is_whole f fd) (gF : mg "is_whole" = some (.ref f)) (hb : Binds K fd ["value"] [])  : Cal P w K mg base "is_whole" 1 1 m_is_whole :=
  cal_of F gF hb sc_is_whole rfl fun cdv A outer s H E hr gd => (ss_one (sc_ret (se_and (se_bi op_dIsi (pe_callB call_isiY (by rfl) T.b_isinstance PyProof.Rows.boot_isinstance (sa_cons (se_var (pv 0)) (sa_cons (se_ty (pe_bltn (by rfl) T.b_int (by decide +kernel) rfl)) sa_nil rfl) rfl))) (se_one (se_not (se_bi op_dIsi (pe_callB call_isiY (by rfl) T.b_isinstance PyProof.Rows.boot_isinstance (sa_cons (se_var (pv 0)) (sa_cons (se_ty (pe_bltn (by rfl) T.b_bool (by decide +kernel) rfl)) sa_nil rfl) rfl))))))))
theorem k_is_within {f : Addr} {fd : FuncData} (T : Tops P K mg) (F : L2.Fun K "is_within" "is_within" st_is_within f fd) (gF : mg "is_within" = some (.ref f)) (hb : Binds K fd ["value", "least", "most"] []) (c_is_whole : Cal P w K mg base "is_whole" 1 1 m_is_whole) : Cal P w K mg base "is_within" 3 2 m_is_within :=
  cal_of F gF hb sc_is_within rfl fun cdv A outer s H E hr gd => (ss_one (sc_ret (se_and (se_call c_is_whole takes_def (hr.mono (by decide)) gd (by rfl) (sa_cons (se_var (pv 0)) sa_nil rfl) (by decide) rfl rfl) (se_one (se_chain op_le op_dLe op_le op_dLe (se_var (pv 1)) (se_var (pv 0)) (se_var (pv 2)) rfl)))))
theorem k_is_ring_in {f : Addr} {fd : FuncData} (T : Tops P K mg) (F : L2.Fun K "is_ring_in" "is_ring_in" st_is_ring_in f fd) (gF : mg "is_ring_in" = some (.ref f)) (hb : Binds K fd ["value"] []) (c_is_within : Cal P w K mg base "is_within" 3 2 m_is_within) : Cal P w K mg base "is_ring_in" 1 3 m_is_ring_in :=
  cal_of F gF hb sc_is_ring_in rfl fun cdv A outer s H E hr gd => (ss_cons (sc_if (sb_w (sw_or (sb_not (sb_val (se_bi op_dIsi (pe_callB call_isiY (by rfl) T.b_isinstance PyProof.Rows.boot_isinstance (sa_cons (se_var (pv 0)) (sa_cons (se_ty (pe_bltn (by rfl) T.b_tuple (by decide +kernel) rfl)) sa_nil rfl) rfl))) (fun _ => rfl))) (sw_or (sb_cmp (op_neD hr.units) op_dNe (se_bi op_dLen (pe_callB call_len_seq (by rfl) T.b_len PySem.boot_len (sa_cons (se_var (pv 0)) sa_nil rfl))) se_int (nomark _)) (sw_or1 (sb_not (sb_val (se_call c_is_within takes_def (hr.mono (by decide)) gd (by rfl) (sa_cons (se_sub ix_any op_dIx (se_var (pv 0)) se_int (fun _ _ => rfl)) (sa_cons se_int (sa_cons (se_gintE rfl T.c_MOST_PLACES (by decide)) sa_nil rfl) rfl) rfl) (by decide) rfl rfl) (fun _ => rfl))))))) (ss_one (sc_ret se_bl)) ss_nil)
      (ss_one (sc_ret (se_call c_is_within takes_def (hr.mono (by decide)) gd (by rfl) (sa_cons (se_sub ix_any op_dIx (se_var (pv 0)) se_int (fun _ _ => rfl)) (sa_cons se_int (sa_cons (se_op op_sub op_dSub (se_sub ix_any op_dIx (se_var (pv 0)) se_int (fun _ _ => rfl)) se_int) sa_nil rfl) rfl) rfl) (by decide) rfl rfl))))
theorem k_is_chain_in {f : Addr} {fd : FuncData} (T : Tops P K mg) (F : L2.Fun K "is_chain_in" "is_chain_in" st_is_chain_in f fd) (gF : mg "is_chain_in" = some (.ref f)) (hb : Binds K fd ["value"] []) (c_is_ring_in : Cal P w K mg base "is_ring_in" 1 3 m_is_ring_in) : Cal P w K mg base "is_chain_in" 1 4 m_is_chain_in :=
  cal_of F gF hb sc_is_chain_in rfl fun cdv A outer s H E hr gd => (ss_one (sc_ret (se_and (se_bi op_dIsi (pe_callB call_isiY (by rfl) T.b_isinstance PyProof.Rows.boot_isinstance (sa_cons (se_var (pv 0)) (sa_cons (se_ty (pe_bltn (by rfl) T.b_tuple (by decide +kernel) rfl)) sa_nil rfl) rfl))) (se_and (se_chain op_le op_dLe op_le op_dLe se_int (se_bi op_dLen (pe_callB call_len_seq (by rfl) T.b_len PySem.boot_len (sa_cons (se_var (pv 0)) sa_nil rfl))) (se_gintE rfl T.c_MOST_RINGS (by decide)) rfl) (se_one (se_bi op_dAll (pe_callB (cr_all rfl) (by rfl) T.b_all PyProof.Rows.boot_all (sa_cons (se_F (sl_lc (by decide) (gN_len _) (pe_lc (own := [("ring", 1)]) (g := gG _ _ none (gN 1)) rfl sc_is_chain_in.nd (si_val (se_var (pv 0))) (blkOk_by (N := N_is_chain_in) (sc := defScope st_is_chain_in) (by decide +kernel)) (fun _ _ _ _ _ => (sg_name (W := W0) (pg_name sc_is_chain_in.nd rfl (by first | exact Or.inl rfl | exact Or.inr rfl)))) (fun _ _ _ _ _ => st_nil) (fun _ _ _ _ _ => (se_call c_is_ring_in takes_none5 (hr.mono (by decide)) gd (by rfl) (sa_cons (se_var (pv 1)) sa_nil rfl) (by decide) rfl rfl))))) sa_nil rfl))))))))
theorem k_require_chain {f : Addr} {fd : FuncData} (T : Tops P K mg) (F : L2.Fun K "require_chain" "require_chain" st_require_chain f fd) (gF : mg "require_chain" = some (.ref f)) (hb : Binds K fd ["value"] []) (c_is_chain_in : Cal P w K mg base "is_chain_in" 1 4 m_is_chain_in) : Cal P w K mg base "require_chain" 1 5 m_require_chain :=
  cal_of F gF hb sc_require_chain rfl fun cdv A outer s H E hr gd => (ss_one (sc_if (sb_not (sb_val (se_call c_is_chain_in takes_def (hr.mono (by decide)) gd (by rfl) (sa_cons (se_var (pv 0)) sa_nil rfl) (by decide) rfl rfl) (fun _ => rfl))) (ss_one sc_stop) ss_nil))
theorem k_is_heap_in {f : Addr} {fd : FuncData} (T : Tops P K mg) (F : L2.Fun K "is_heap_in" "is_heap_in" st_is_heap_in f fd) (gF : mg "is_heap_in" = some (.ref f)) (hb : Binds K fd ["value"] []) (c_is_within : Cal P w K mg base "is_within" 3 2 m_is_within) : Cal P w K mg base "is_heap_in" 1 3 m_is_heap_in :=
  cal_of F gF hb sc_is_heap_in rfl fun cdv A outer s H E hr gd => (ss_cons (sc_if (sb_w (sw_or (sb_not (sb_val (se_bi op_dIsi (pe_callB call_isiY (by rfl) T.b_isinstance PyProof.Rows.boot_isinstance (sa_cons (se_var (pv 0)) (sa_cons (se_ty (pe_bltn (by rfl) T.b_tuple (by decide +kernel) rfl)) sa_nil rfl) rfl))) (fun _ => rfl))) (sw_or1 (sb_cmp op_gt op_dGt (se_bi op_dLen (pe_callB call_len_seq (by rfl) T.b_len PySem.boot_len (sa_cons (se_var (pv 0)) sa_nil rfl))) (se_gintE rfl T.c_MOST_SIDE (by decide)) (nomark _))))) (ss_one (sc_ret se_bl)) ss_nil)
      (ss_cons (sc_if (sb_not (sb_val (se_bi op_dAll (pe_callB (cr_all rfl) (by rfl) T.b_all PyProof.Rows.boot_all (sa_cons (se_F (sl_lc (by decide) (gN_len _) (pe_lc (own := [("height", 1)]) (g := gG _ _ none (gN 1)) rfl sc_is_heap_in.nd (si_val (se_var (pv 0))) (blkOk_by (N := N_is_heap_in) (sc := defScope st_is_heap_in) (by decide +kernel)) (fun _ _ _ _ _ => (sg_name (W := W0) (pg_name sc_is_heap_in.nd rfl (by first | exact Or.inl rfl | exact Or.inr rfl)))) (fun _ _ _ _ _ => st_nil) (fun _ _ _ _ _ => (se_call c_is_within takes_none5 (hr.mono (by decide)) gd (by rfl) (sa_cons (se_var (pv 1)) (sa_cons se_int (sa_cons (se_gintE rfl T.c_MOST_SIDE (by decide)) sa_nil rfl) rfl) rfl) (by decide) rfl rfl))))) sa_nil rfl))) (fun _ => rfl))) (ss_one (sc_ret se_bl)) ss_nil)
      (ss_one (sc_ret (se_bi op_dAll (pe_callB (cr_all rfl) (by rfl) T.b_all PyProof.Rows.boot_all (sa_cons (se_F (sl_lc (by decide) (gT_len (gsC_lenE (gN_len _) (gsC_lenE (gN_len _) (gsN_lenE)))) (pe_lc (own := [("one", 2), ("other", 3)]) (g := gG _ _ none (gT (gsC (gN 2) (gsC (gN 3) (gsN))))) rfl sc_is_heap_in.nd (si_zip (RZ.pi_zipA (by rfl) T.b_zip (sa_cons (se_var (pv 0)) (sa_cons (se_sl (se_var (pv 0)) (so_e se_int) so_no) sa_nil rfl) rfl))) (blkOk_by (N := N_is_heap_in) (sc := defScope st_is_heap_in) (by decide +kernel)) (fun _ _ _ _ _ => (sg_tup (W := W0) (fun _ h => pg_tup rfl h) (sgs_cons (W := W0) (sg_name (W := W0) (pg_name sc_is_heap_in.nd rfl (by first | exact Or.inl rfl | exact Or.inr rfl))) (sgs_cons (W := W0) (sg_name (W := W0) (pg_name sc_is_heap_in.nd rfl (by first | exact Or.inl rfl | exact Or.inr rfl))) (sgs_nil (W := W0)) rfl) rfl) (fun _ _ _ q => gsC_len (fun _ _ _ q => gsC_len (fun _ _ _ q => gsN_len q) q) q))) (fun _ _ _ _ _ => st_nil) (fun _ _ _ _ _ => (se_cmp op_ge op_dGe (se_var (pv 2)) (se_var (pv 3)) (nomark _)))))) sa_nil rfl)))))))
theorem k_require_heap {f : Addr} {fd : FuncData} (T : Tops P K mg) (F : L2.Fun K "require_heap" "require_heap" st_require_heap f fd) (gF : mg "require_heap" = some (.ref f)) (hb : Binds K fd ["heap"] []) (c_is_heap_in : Cal P w K mg base "is_heap_in" 1 3 m_is_heap_in) : Cal P w K mg base "require_heap" 1 4 m_require_heap :=
  cal_of F gF hb sc_require_heap rfl fun cdv A outer s H E hr gd => (ss_one (sc_if (sb_not (sb_val (se_call c_is_heap_in takes_def (hr.mono (by decide)) gd (by rfl) (sa_cons (se_var (pv 0)) sa_nil rfl) (by decide) rfl rfl) (fun _ => rfl))) (ss_one sc_stop) ss_nil))
theorem k_require_filled {f : Addr} {fd : FuncData} (T : Tops P K mg) (F : L2.Fun K "require_filled" "require_filled" st_require_filled f fd) (gF : mg "require_filled" = some (.ref f)) (hb : Binds K fd ["chain", "heap"] []) (c_require_chain : Cal P w K mg base "require_chain" 1 5 m_require_chain) (c_require_heap : Cal P w K mg base "require_heap" 1 4 m_require_heap) : Cal P w K mg base "require_filled" 2 6 m_require_filled :=
  cal_of F gF hb sc_require_filled rfl fun cdv A outer s H E hr gd => (ss_cons (sc_exp (se_call c_require_chain takes_def (hr.mono (by decide)) gd (by rfl) (sa_cons (se_var (pv 0)) sa_nil rfl) (by decide) rfl rfl) rfl)
      (ss_cons (sc_exp (se_call c_require_heap takes_def (hr.mono (by decide)) gd (by rfl) (sa_cons (se_var (pv 1)) sa_nil rfl) (by decide) rfl rfl) rfl)
      (ss_one (sc_if (sb_cmp op_gt op_dGt (se_bi op_dSumA (pe_callB (cr_sumA rfl) (by rfl) T.b_sum PyProof.Rows.boot_sum (sa_cons (se_var (pv 1)) sa_nil rfl))) (se_gintE rfl T.c_MAX_SQUARES (by decide)) (nomark _)) (ss_one sc_stop) ss_nil))))
theorem k_fewest_letters {f : Addr} {fd : FuncData} (T : Tops P K mg) (F : L2.Fun K "fewest_letters" "fewest_letters" st_fewest_letters f fd) (gF : mg "fewest_letters" = some (.ref f)) (hb : Binds K fd ["chain", "heap"] []) (c_fewest_letters_in : Cal P w K mg base "fewest_letters_in" 2 4 m_fewest_letters_in) (c_require_filled : Cal P w K mg base "require_filled" 2 6 m_require_filled) : Cal P w K mg base "fewest_letters" 2 7 m_fewest_letters :=
  cal_of F gF hb sc_fewest_letters rfl fun cdv A outer s H E hr gd => (ss_cons (sc_exp (se_call c_require_filled takes_def (hr.mono (by decide)) gd (by rfl) (sa_cons (se_var (pv 0)) (sa_cons (se_var (pv 1)) sa_nil rfl) rfl) (by decide) rfl rfl) rfl)
      (ss_one (sc_ret (se_call c_fewest_letters_in takes_def (hr.mono (by decide)) gd (by rfl) (sa_cons (se_var (pv 0)) (sa_cons (se_var (pv 1)) sa_nil rfl) rfl) (by decide) rfl rfl))))
theorem k_some_columns {f : Addr} {fd : FuncData} (T : Tops P K mg) (F : L2.Fun K "some_columns" "some_columns" st_some_columns f fd) (gF : mg "some_columns" = some (.ref f)) (hb : Binds K fd ["columns"] [])  : Cal P w K mg base "some_columns" 1 1 m_some_columns :=
  cal_of F gF hb sc_some_columns rfl fun cdv A outer s H E hr gd => (ss_cons (sc_set (ps_set (i := 1) sc_some_columns.nd rfl (by first | exact Or.inl rfl | exact Or.inr rfl) (se_F (sl_lst (sa_cons (se_tup sa_nil) sa_nil rfl)))))
      (ss_cons (sc_for (passes_of rfl) rfl (si_val (se_var (pv 0))) (sg_name (W := _) (pg_name sc_some_columns.nd rfl (by first | exact Or.inl rfl | exact Or.inr rfl))) (ss_one (sc_set (ps_set (i := 1) sc_some_columns.nd rfl (by first | exact Or.inl rfl | exact Or.inr rfl) (se_F (sl_lst (sa_star (se_var (pv 1)) (sa_star (se_F (sl_lc (by decide) (gN_len _) (pe_lc (own := [("chosen", 3)]) (g := gG _ _ none (gN 3)) rfl sc_some_columns.nd (si_val (se_var (pv 1))) (blkOk_by (N := N_some_columns) (sc := defScope st_some_columns) (by decide +kernel)) (fun _ _ _ _ _ => (sg_name (W := W0) (pg_name sc_some_columns.nd rfl (by first | exact Or.inl rfl | exact Or.inr rfl)))) (fun _ _ _ _ _ => st_nil) (fun _ _ _ _ _ => (se_tup (sa_star (se_var (pv 3)) (sa_cons (se_var (pv 2)) sa_nil rfl) rfl)))))) sa_nil rfl) rfl)))))) (by intro _; rfl))
      (ss_one (sc_ret (se_sl (se_var (pv 1)) (so_e se_int) so_no)))))
theorem k_fillings_count_in {f : Addr} {fd : FuncData} (T : Tops P K mg) (F : L2.Fun K "fillings_count_in" "fillings_count_in" st_fillings_count_in f fd) (gF : mg "fillings_count_in" = some (.ref f)) (hb : Binds K fd ["chain", "heap"] []) (c_order_in : Cal P w K mg base "order_in" 1 1 m_order_in) (c_with_columns : Cal P w K mg base "with_columns" 3 1 m_with_columns) (c_let_columns : Cal P w K mg base "let_columns" 3 3 m_let_columns) (c_some_columns : Cal P w K mg base "some_columns" 1 1 m_some_columns) : Cal P w K mg base "fillings_count_in" 2 4 m_fillings_count_in :=
  cal_of F gF hb sc_fillings_count_in rfl fun cdv A outer s H E hr gd => (ss_cons (sc_set (ps_set (i := 2) sc_fillings_count_in.nd rfl (by first | exact Or.inl rfl | exact Or.inr rfl) (se_dispT (ps := [(xTup (aNil), S.val (.int (1)))]) (un_of hr) (pps_cons (se_tup sa_nil) se_int pps_nil) rfl rfl (by simp) (by decide))))
      (ss_cons (sc_forC (passes_of rfl) rfl (si_val (se_var (pv 0))) (sg_name (W := _) (pg_name sc_fillings_count_in.nd rfl (by first | exact Or.inl rfl | exact Or.inr rfl))) (ss_cons (sc_par (ps_par (i := 5) (j := 6) rfl sc_fillings_count_in.nd rfl rfl (by decide) rfl rfl (sa_cons (se_dictEC (pe_callTy (call_dictDT (units65 hr)) (by rfl) T.b_dict PyProof.Rows.boot_dict (sa_cons (se_var (pv 2)) sa_nil rfl))) (sa_cons (se_call c_order_in takes_def (hr.mono (by decide)) gd (by rfl) (sa_cons (se_var (pv 3)) sa_nil rfl) (by decide) rfl rfl) sa_nil rfl) rfl) rfl))
      (ss_cons (sc_forC (passes_of rfl) rfl (si_val (se_var (pv 2))) (sg_name (W := _) (pg_name sc_fillings_count_in.nd rfl (by first | exact Or.inl rfl | exact Or.inr rfl))) (ss_one (sc_forC (passes_of rfl) rfl (si_val (se_call c_let_columns takes_def (hr.mono (by decide)) gd (by rfl) (sa_cons (se_var (pv 1)) (sa_cons (se_var (pv 4)) (sa_cons (se_var (pv 6)) sa_nil rfl) rfl) rfl) (by decide) rfl rfl)) (sg_name (W := _) (pg_name sc_fillings_count_in.nd rfl (by first | exact Or.inl rfl | exact Or.inr rfl))) (ss_one (sc_forC (passes_of rfl) rfl (si_val (se_call c_some_columns takes_def (hr.mono (by decide)) gd (by rfl) (sa_cons (se_var (pv 7)) sa_nil rfl) (by decide) rfl rfl)) (sg_name (W := _) (pg_name sc_fillings_count_in.nd rfl (by first | exact Or.inl rfl | exact Or.inr rfl))) (ss_cons (sc_set (ps_set (i := 9) sc_fillings_count_in.nd rfl (by first | exact Or.inl rfl | exact Or.inr rfl) (se_call c_with_columns takes_def (hr.mono (by decide)) gd (by rfl) (sa_cons (se_var (pv 1)) (sa_cons (se_var (pv 4)) (sa_cons (se_var (pv 8)) sa_nil rfl) rfl) rfl) (by decide) rfl rfl)))
      (ss_one (sc_sett (un1 (units65 hr)) (se_var (pv 5)) (se_var (pv 9)) (se_op or_add op_dAdd (se_dget2 (un1 (units65 hr)) (se_var (pv 5)) (se_var (pv 9)) se_int ⟨rfl, rfl, rfl, rfl⟩) (se_dget (un1 (units65 hr)) (se_var (pv 2)) (se_var (pv 4)) (fun _ _ => rfl))) rfl))) (by intro _; rfl))) (by intro _; rfl))) (by intro _; rfl))
      (ss_one (sc_set (ps_set (i := 2) sc_fillings_count_in.nd rfl (by first | exact Or.inl rfl | exact Or.inr rfl) (se_frzT (se_var (pv 5)))))))) (by intro _; rfl))
      (ss_one (sc_ret (se_dget2 (un1 (units65 hr)) (se_var (pv 2)) (se_var (pv 1)) se_int ⟨rfl, rfl, rfl, rfl⟩)))))
theorem k_fillings_count {f : Addr} {fd : FuncData} (T : Tops P K mg) (F : L2.Fun K "fillings_count" "fillings_count" st_fillings_count f fd) (gF : mg "fillings_count" = some (.ref f)) (hb : Binds K fd ["chain", "heap"] []) (c_fillings_count_in : Cal P w K mg base "fillings_count_in" 2 4 m_fillings_count_in) (c_require_filled : Cal P w K mg base "require_filled" 2 6 m_require_filled) : Cal P w K mg base "fillings_count" 2 7 m_fillings_count :=
  cal_of F gF hb sc_fillings_count rfl fun cdv A outer s H E hr gd => (ss_cons (sc_exp (se_call c_require_filled takes_def (hr.mono (by decide)) gd (by rfl) (sa_cons (se_var (pv 0)) (sa_cons (se_var (pv 1)) sa_nil rfl) rfl) (by decide) rfl rfl) rfl)
      (ss_one (sc_ret (se_call c_fillings_count_in takes_def (hr.mono (by decide)) gd (by rfl) (sa_cons (se_var (pv 0)) (sa_cons (se_var (pv 1)) sa_nil rfl) rfl) (by decide) rfl rfl))))
theorem k__law_dice {f : Addr} {fd : FuncData} (T : Tops P K mg) (F : L2.Fun K "_law_dice" "_law_dice" st__law_dice f fd) (gF : mg "_law_dice" = some (.ref f)) (hb : Binds K fd ["_law_script", "_law_at"] [])  : Cal P w K mg base "_law_dice" 2 1 m__law_dice :=
  cal_of F gF hb sc__law_dice rfl fun cdv A outer s H E hr gd => (ss_cons (sc_set (ps_set (i := 2) sc__law_dice.nd rfl (by first | exact Or.inl rfl | exact Or.inr rfl) (se_op or_add op_dAdd (se_op (op_mulW.or (op_repT.or op_rep1)) op_dMulA se_int (se_var (pv 1))) se_int)))
      (ss_cons (sc_if (sb_cmp op_lt op_dLt (se_var (pv 1)) (se_bi op_dLen (pe_callB call_len_seq (by rfl) T.b_len PySem.boot_len (sa_cons (se_var (pv 0)) sa_nil rfl))) (nomark _)) (ss_one (sc_set (ps_set (i := 2) sc__law_dice.nd rfl (by first | exact Or.inl rfl | exact Or.inr rfl) (se_sub ix_any op_dIx (se_var (pv 0)) (se_var (pv 1)) (fun _ _ => rfl))))) ss_nil)
      (ss_cons (sc_set (ps_set (i := 3) sc__law_dice.nd rfl (by first | exact Or.inl rfl | exact Or.inr rfl) (se_op op_mod op_dMod (se_bi op_dInt (pe_callTy call_int1 (by rfl) T.b_int PyProof.Rows.boot_int (sa_cons (se_bi op_dAbs (pe_callB call_abs (by rfl) T.b_abs PyProof.Rows.boot_abs (sa_cons (se_var (pv 2)) sa_nil rfl))) sa_nil rfl))) (se_op op_powW op_dPow (se_op op_powW op_dPow se_int se_int) se_int))))
      (ss_cons (sc_set (ps_set (i := 4) sc__law_dice.nd rfl (by first | exact Or.inl rfl | exact Or.inr rfl) (se_op op_fdivW op_dDiv (se_var (pv 3)) (se_op op_powW op_dPow se_int se_int))))
      (ss_cons (sc_set (ps_set (i := 5) sc__law_dice.nd rfl (by first | exact Or.inl rfl | exact Or.inr rfl) (se_op or_add op_dAdd (se_op or_add op_dAdd (se_op or_add op_dAdd (se_op (op_mulW.or (op_repT.or op_rep1)) op_dMulA (se_op op_mod op_dMod (se_var (pv 3)) se_int) se_int) (se_op (op_mulW.or (op_repT.or op_rep1)) op_dMulA se_int (se_var (pv 1)))) (se_op (op_mulW.or (op_repT.or op_rep1)) op_dMulA se_int (se_bi op_dInt (pe_callTy call_int1 (by rfl) T.b_int PyProof.Rows.boot_int (sa_cons (se_cmp op_lt op_dLt (se_var (pv 2)) se_int (nomark _)) sa_nil rfl))))) se_int)))
      (ss_one (sc_ret (se_C (sl_lst (sa_cons (se_var (pv 4)) (sa_cons (se_op op_mod op_dMod (se_var (pv 5)) se_int) (sa_cons se_int sa_nil rfl) rfl) rfl))))))))))
theorem k__law_roll {f : Addr} {fd : FuncData} (T : Tops P K mg) (F : L2.Fun K "_law_roll" "_law_roll" st__law_roll f fd) (gF : mg "_law_roll" = some (.ref f)) (hb : Binds K fd ["_law_dice_here", "_law_total"] [])  : Cal P w K mg base "_law_roll" 2 1 m__law_roll :=
  cal_of F gF hb sc__law_roll rfl fun cdv A outer s H E hr gd => (ss_cons (sc_set (ps_set (i := 2) sc__law_roll.nd rfl (by first | exact Or.inl rfl | exact Or.inr rfl) (se_bi op_dInt (pe_callTy call_int1 (by rfl) T.b_int PyProof.Rows.boot_int (sa_cons (se_var (pv 1)) sa_nil rfl)))))
      (ss_cons (sc_if (sb_cmp op_gt op_dGt (se_sub ix_any op_dIx (se_var (pv 0)) se_int (fun _ _ => rfl)) se_int (nomark _)) (ss_cons (sc_set (ps_set (i := 5) sc__law_roll.nd rfl (by first | exact Or.inl rfl | exact Or.inr rfl) (se_op op_mod op_dMod (se_sub ix_any op_dIx (se_var (pv 0)) se_int (fun _ _ => rfl)) (se_var (pv 2)))))
      (ss_cons (sc_seti (ps_asg (se_op op_fdivW op_dDiv (se_sub ix_any op_dIx (se_var (pv 0)) se_int (fun _ _ => rfl)) (se_var (pv 2))) (pg_sub (se_var (pv 0)) se_int set_list)))
      (ss_one (sc_ret (se_bi op_dInt (pe_callTy call_int1 (by rfl) T.b_int PyProof.Rows.boot_int (sa_cons (se_var (pv 5)) sa_nil rfl))))))) ss_nil)
      (ss_cons (sc_seti (ps_asg (se_op or_add op_dAdd (se_sub ix_any op_dIx (se_var (pv 0)) se_int (fun _ _ => rfl)) se_int) (pg_sub (se_var (pv 0)) se_int set_list)))
      (ss_cons (sc_set (ps_set (i := 3) sc__law_roll.nd rfl (by first | exact Or.inl rfl | exact Or.inr rfl) (se_op op_mod op_dMod (se_op or_add op_dAdd (se_sub ix_any op_dIx (se_var (pv 0)) se_int (fun _ _ => rfl)) (se_op (op_mulW.or (op_repT.or op_rep1)) op_dMulA se_int (se_sub ix_any op_dIx (se_var (pv 0)) se_int (fun _ _ => rfl)))) se_int)))
      (ss_cons (sc_set (ps_set (i := 4) sc__law_roll.nd rfl (by first | exact Or.inl rfl | exact Or.inr rfl) (se_op or_add op_dAdd (se_op (op_mulW.or (op_repT.or op_rep1)) op_dMulA (se_op op_mod op_dMod (se_op (op_mulW.or (op_repT.or op_rep1)) op_dMulA (se_var (pv 3)) (se_var (pv 3))) se_int) (se_var (pv 3))) (se_op (op_mulW.or (op_repT.or op_rep1)) op_dMulA se_int (se_sub ix_any op_dIx (se_var (pv 0)) se_int (fun _ _ => rfl))))))
      (ss_cons (sc_set (ps_set (i := 4) sc__law_roll.nd rfl (by first | exact Or.inl rfl | exact Or.inr rfl) (se_op op_mod op_dMod (se_var (pv 4)) se_int)))
      (ss_one (sc_ret (se_bi op_dInt (pe_callTy call_int1 (by rfl) T.b_int PyProof.Rows.boot_int (sa_cons (se_op op_mod op_dMod (se_op op_fdivW op_dDiv (se_var (pv 4)) se_int) (se_var (pv 2))) sa_nil rfl)))))))))))
theorem k__law_ring {f : Addr} {fd : FuncData} (T : Tops P K mg) (F : L2.Fun K "_law_ring" "_law_ring" st__law_ring f fd) (gF : mg "_law_ring" = some (.ref f)) (hb : Binds K fd ["_law_dice_here", "_law_most"] []) (c__law_roll : Cal P w K mg base "_law_roll" 2 1 m__law_roll) : Cal P w K mg base "_law_ring" 2 2 m__law_ring :=
  cal_of F gF hb sc__law_ring rfl fun cdv A outer s H E hr gd => (ss_cons (sc_set (ps_set (i := 2) sc__law_ring.nd rfl (by first | exact Or.inl rfl | exact Or.inr rfl) (se_op or_add op_dAdd se_int (se_call c__law_roll takes_def (hr.mono (by decide)) gd (by rfl) (sa_cons (se_var (pv 0)) (sa_cons (se_op op_sub op_dSub (se_var (pv 1)) se_int) sa_nil rfl) rfl) (by decide) rfl rfl))))
      (ss_one (sc_ret (se_tup (sa_cons (se_var (pv 2)) (sa_cons (se_op or_add op_dAdd se_int (se_call c__law_roll takes_def (hr.mono (by decide)) gd (by rfl) (sa_cons (se_var (pv 0)) (sa_cons (se_op op_sub op_dSub (se_var (pv 2)) se_int) sa_nil rfl) rfl) (by decide) rfl rfl)) sa_nil rfl) rfl)))))
theorem k__law_one_of {f : Addr} {fd : FuncData} (T : Tops P K mg) (F : L2.Fun K "_law_one_of" "_law_one_of" st__law_one_of f fd) (gF : mg "_law_one_of" = some (.ref f)) (hb : Binds K fd ["_law_dice_here", "_law_items"] []) (c__law_roll : Cal P w K mg base "_law_roll" 2 1 m__law_roll) : Cal P w K mg base "_law_one_of" 2 2 m__law_one_of :=
  cal_of F gF hb sc__law_one_of rfl fun cdv A outer s H E hr gd => (ss_one (sc_ret (se_sub ix_any op_dIx (se_var (pv 1)) (se_call c__law_roll takes_def (hr.mono (by decide)) gd (by rfl) (sa_cons (se_var (pv 0)) (sa_cons (se_bi op_dLen (pe_callB call_len_seq (by rfl) T.b_len PySem.boot_len (sa_cons (se_var (pv 1)) sa_nil rfl))) sa_nil rfl) rfl) (by decide) rfl rfl) (fun _ _ => rfl))))
theorem k__law_common {f : Addr} {fd : FuncData} (T : Tops P K mg) (F : L2.Fun K "_law_common" "_law_common" st__law_common f fd) (gF : mg "_law_common" = some (.ref f)) (hb : Binds K fd ["_law_one", "_law_other"] [])  : Cal P w K mg base "_law_common" 2 1 m__law_common :=
  cal_of F gF hb sc__law_common rfl fun cdv A outer s H E hr gd => (ss_cons (sc_while 100 (passes_of rfl) (sb_cmp (op_neD hr.units) op_dNe (se_var (pv 1)) se_int (nomark _)) (ss_one (sc_par (ps_par (i := 0) (j := 1) rfl sc__law_common.nd rfl rfl (by decide) rfl rfl (sa_cons (se_var (pv 1)) (sa_cons (se_op op_mod op_dMod (se_var (pv 0)) (se_var (pv 1))) sa_nil rfl) rfl) rfl))))
      (ss_one (sc_ret (se_var (pv 0)))))
theorem k__law_ring_of {f : Addr} {fd : FuncData} (T : Tops P K mg) (F : L2.Fun K "_law_ring_of" "_law_ring_of" st__law_ring_of f fd) (gF : mg "_law_ring_of" = some (.ref f)) (hb : Binds K fd ["_law_dice_here", "_law_k", "_law_times"] []) (c__law_roll : Cal P w K mg base "_law_roll" 2 1 m__law_roll) (c__law_one_of : Cal P w K mg base "_law_one_of" 2 2 m__law_one_of) (c__law_common : Cal P w K mg base "_law_common" 2 1 m__law_common) : Cal P w K mg base "_law_ring_of" 3 3 m__law_ring_of :=
  cal_of F gF hb sc__law_ring_of rfl fun cdv A outer s H E hr gd => (ss_cons (sc_set (ps_set (i := 3) sc__law_ring_of.nd rfl (by first | exact Or.inl rfl | exact Or.inr rfl) (se_op or_add op_dAdd se_int (se_call c__law_roll takes_def (hr.mono (by decide)) gd (by rfl) (sa_cons (se_var (pv 0)) (sa_cons (se_var (pv 2)) sa_nil rfl) rfl) (by decide) rfl rfl))))
      (ss_cons (by first | exact sc_setL (fun _ _ _ q => goLc (by decide) (gN_len _) (goF q)) (ps_setLc (i := 4) (own := [("_law_one", 5)]) (g := gG _ _ none (gN 5)) rfl sc__law_ring_of.nd rfl rfl (sw_true rfl rfl rfl (by decide +kernel)) (si_r2 (pi_range2 (by rfl) T.b_range (sa_cons se_int (sa_cons (se_var (pv 1)) sa_nil rfl) rfl))) (blkOk_by (N := N__law_ring_of) (sc := defScope st__law_ring_of) (by decide +kernel)) (fun _ _ _ _ _ => (sg_name (W := W0) (pg_name sc__law_ring_of.nd rfl (by first | exact Or.inl rfl | exact Or.inr rfl)))) (fun _ _ _ _ _ => (pts_one (sb_cmp (op_eqD hr.units) op_dEq (se_call c__law_common takes_none5 (hr.mono (by decide)) gd (by rfl) (sa_cons (se_var (pv 1)) (sa_cons (se_var (pv 5)) sa_nil rfl) rfl) (by decide) rfl rfl) se_int (nomark _)))) (fun _ _ _ _ _ => (se_var (pv 5)))) | exact sc_set (ps_set (i := 4) sc__law_ring_of.nd rfl (by first | exact Or.inl rfl | exact Or.inr rfl) (se_F (sl_lc (by decide) (gN_len _) (pe_lc (own := [("_law_one", 5)]) (g := gG _ _ none (gN 5)) rfl sc__law_ring_of.nd (si_r2 (pi_range2 (by rfl) T.b_range (sa_cons se_int (sa_cons (se_var (pv 1)) sa_nil rfl) rfl))) (blkOk_by (N := N__law_ring_of) (sc := defScope st__law_ring_of) (by decide +kernel)) (fun _ _ _ _ _ => (sg_name (W := W0) (pg_name sc__law_ring_of.nd rfl (by first | exact Or.inl rfl | exact Or.inr rfl)))) (fun _ _ _ _ _ => (pts_one (sb_cmp (op_eqD hr.units) op_dEq (se_call c__law_common takes_none5 (hr.mono (by decide)) gd (by rfl) (sa_cons (se_var (pv 1)) (sa_cons (se_var (pv 5)) sa_nil rfl) rfl) (by decide) rfl rfl) se_int (nomark _)))) (fun _ _ _ _ _ => (se_var (pv 5))))))))
      (ss_one (sc_ret (se_tup (sa_cons (se_op (op_mulW.or (op_repT.or op_rep1)) op_dMulA (se_var (pv 1)) (se_var (pv 3))) (sa_cons (se_op (op_mulW.or (op_repT.or op_rep1)) op_dMulA (se_var (pv 3)) (se_call c__law_one_of takes_def (hr.mono (by decide)) gd (by rfl) (sa_cons (se_var (pv 0)) (sa_cons (se_var (pv 4)) sa_nil rfl) rfl) (by decide) rfl rfl)) sa_nil rfl) rfl))))))
theorem k__law_chain {f : Addr} {fd : FuncData} (T : Tops P K mg) (F : L2.Fun K "_law_chain" "_law_chain" st__law_chain f fd) (gF : mg "_law_chain" = some (.ref f)) (hb : Binds K fd ["_law_dice_here", "_law_rings", "_law_most"] []) (c__law_roll : Cal P w K mg base "_law_roll" 2 1 m__law_roll) (c__law_ring : Cal P w K mg base "_law_ring" 2 2 m__law_ring) (c__law_ring_of : Cal P w K mg base "_law_ring_of" 3 3 m__law_ring_of) : Cal P w K mg base "_law_chain" 3 4 m__law_chain :=
  cal_of F gF hb sc__law_chain rfl fun cdv A outer s H E hr gd => (ss_cons (sc_if (sb_cmp (op_eqD hr.units) op_dEq (se_call c__law_roll takes_def (hr.mono (by decide)) gd (by rfl) (sa_cons (se_var (pv 0)) (sa_cons se_int sa_nil rfl) rfl) (by decide) rfl rfl) se_int (nomark _)) (ss_cons (sc_set (ps_set (i := 3) sc__law_chain.nd rfl (by first | exact Or.inl rfl | exact Or.inr rfl) (se_op or_add op_dAdd se_int (se_call c__law_roll takes_def (hr.mono (by decide)) gd (by rfl) (sa_cons (se_var (pv 0)) (sa_cons (se_bi op_dMin2 (pe_callB (call_min2 rfl) (by rfl) T.b_min PyProof.Rows.boot_min (sa_cons se_int (sa_cons (se_op op_sub op_dSub (se_var (pv 2)) se_int) sa_nil rfl) rfl))) sa_nil rfl) rfl) (by decide) rfl rfl))))
      (ss_one (sc_ret (se_bi op_dTuple (pe_callTy call_tuple_of (by rfl) T.b_tuple PyProof.Rows.boot_tuple (sa_cons (se_F (sl_lc (by decide) (gN_len _) (pe_lc (own := [("_law_turn", 4)]) (g := gG _ _ none (gN 4)) rfl sc__law_chain.nd (si_r1 (pi_range1 (by rfl) T.b_range (sa_cons (se_var (pv 1)) sa_nil rfl))) (blkOk_by (N := N__law_chain) (sc := defScope st__law_chain) (by decide +kernel)) (fun _ _ _ _ _ => (sg_name (W := W0) (pg_name sc__law_chain.nd rfl (by first | exact Or.inl rfl | exact Or.inr rfl)))) (fun _ _ _ _ _ => st_nil) (fun _ _ _ _ _ => (se_call c__law_ring_of takes_none5 (hr.mono (by decide)) gd (by rfl) (sa_cons (se_var (pv 0)) (sa_cons (se_var (pv 3)) (sa_cons (se_op op_fdivW op_dDiv (se_var (pv 2)) (se_var (pv 3))) sa_nil rfl) rfl) rfl) (by decide) rfl rfl))))) sa_nil rfl)))))) ss_nil)
      (ss_one (sc_ret (se_bi op_dTuple (pe_callTy call_tuple_of (by rfl) T.b_tuple PyProof.Rows.boot_tuple (sa_cons (se_F (sl_lc (by decide) (gN_len _) (pe_lc (own := [("_law_turn", 4)]) (g := gG _ _ none (gN 4)) rfl sc__law_chain.nd (si_r1 (pi_range1 (by rfl) T.b_range (sa_cons (se_var (pv 1)) sa_nil rfl))) (blkOk_by (N := N__law_chain) (sc := defScope st__law_chain) (by decide +kernel)) (fun _ _ _ _ _ => (sg_name (W := W0) (pg_name sc__law_chain.nd rfl (by first | exact Or.inl rfl | exact Or.inr rfl)))) (fun _ _ _ _ _ => st_nil) (fun _ _ _ _ _ => (se_call c__law_ring takes_none5 (hr.mono (by decide)) gd (by rfl) (sa_cons (se_var (pv 0)) (sa_cons (se_var (pv 2)) sa_nil rfl) rfl) (by decide) rfl rfl))))) sa_nil rfl))))))
theorem k__law_whole {f : Addr} {fd : FuncData} (T : Tops P K mg) (F : L2.Fun K "_law_whole" "_law_whole" st__law_whole f fd) (gF : mg "_law_whole" = some (.ref f)) (hb : Binds K fd ["_law_dice_here"] []) (c__law_roll : Cal P w K mg base "_law_roll" 2 1 m__law_roll) : Cal P w K mg base "_law_whole" 1 2 m__law_whole :=
  cal_of F gF hb sc__law_whole rfl fun cdv A outer s H E hr gd => (ss_cons (sc_if (sb_cmp op_gt op_dGt (se_call c__law_roll takes_def (hr.mono (by decide)) gd (by rfl) (sa_cons (se_var (pv 0)) (sa_cons se_int sa_nil rfl) rfl) (by decide) rfl rfl) se_int (nomark _)) (ss_one (sc_ret (se_op (op_mulW.or (op_repT.or op_rep1)) op_dMulA (se_tup (sa_cons (se_op or_add op_dAdd se_int (se_call c__law_roll takes_def (hr.mono (by decide)) gd (by rfl) (sa_cons (se_var (pv 0)) (sa_cons se_int sa_nil rfl) rfl) (by decide) rfl rfl)) sa_nil rfl)) (se_op or_add op_dAdd se_int (se_call c__law_roll takes_def (hr.mono (by decide)) gd (by rfl) (sa_cons (se_var (pv 0)) (sa_cons se_int sa_nil rfl) rfl) (by decide) rfl rfl))))) ss_nil)
      (ss_cons (sc_set (ps_set (i := 1) sc__law_whole.nd rfl (by first | exact Or.inl rfl | exact Or.inr rfl) (se_F (sl_rv (se_F (sl_srtW (pe_callB cr_sortedW (by rfl) T.b_sorted PyProof.Rows.boot_sorted (sa_cons (se_F (sl_lc (by decide) (gN_len _) (pe_lc (own := [("_law_turn", 3)]) (g := gG _ _ none (gN 3)) rfl sc__law_whole.nd (si_r1 (pi_range1 (by rfl) T.b_range (sa_cons se_int sa_nil rfl))) (blkOk_by (N := N__law_whole) (sc := defScope st__law_whole) (by decide +kernel)) (fun _ _ _ _ _ => (sg_name (W := W0) (pg_name sc__law_whole.nd rfl (by first | exact Or.inl rfl | exact Or.inr rfl)))) (fun _ _ _ _ _ => st_nil) (fun _ _ _ _ _ => (se_call c__law_roll takes_none5 (hr.mono (by decide)) gd (by rfl) (sa_cons (se_var (pv 0)) (sa_cons se_int sa_nil rfl) rfl) (by decide) rfl rfl))))) sa_nil rfl))))))))
      (ss_one (sc_ret (se_bi op_dTuple (pe_callTy call_tuple_of (by rfl) T.b_tuple PyProof.Rows.boot_tuple (sa_cons (se_F (sl_lc (by decide) (gN_len _) (pe_lc (own := [("_law_height", 2)]) (g := gG _ _ none (gN 2)) rfl sc__law_whole.nd (si_val (se_var (pv 1))) (blkOk_by (N := N__law_whole) (sc := defScope st__law_whole) (by decide +kernel)) (fun _ _ _ _ _ => (sg_name (W := W0) (pg_name sc__law_whole.nd rfl (by first | exact Or.inl rfl | exact Or.inr rfl)))) (fun _ _ _ _ _ => (pts_one (sb_cmp op_gt op_dGt (se_var (pv 2)) se_int (nomark _)))) (fun _ _ _ _ _ => (se_var (pv 2)))))) sa_nil rfl)))))))
theorem k__law_order {f : Addr} {fd : FuncData} (T : Tops P K mg) (F : L2.Fun K "_law_order" "_law_order" st__law_order f fd) (gF : mg "_law_order" = some (.ref f)) (hb : Binds K fd ["_law_ring_here"] []) (c__law_common : Cal P w K mg base "_law_common" 2 1 m__law_common) : Cal P w K mg base "_law_order" 1 2 m__law_order :=
  cal_of F gF hb sc__law_order rfl fun cdv A outer s H E hr gd => (ss_one (sc_ret (se_op op_fdivW op_dDiv (se_sub ix_any op_dIx (se_var (pv 0)) se_int (fun _ _ => rfl)) (se_call c__law_common takes_def (hr.mono (by decide)) gd (by rfl) (sa_cons (se_sub ix_any op_dIx (se_var (pv 0)) se_int (fun _ _ => rfl)) (sa_cons (se_sub ix_any op_dIx (se_var (pv 0)) se_int (fun _ _ => rfl)) sa_nil rfl) rfl) (by decide) rfl rfl))))
theorem k__law_raised {f : Addr} {fd : FuncData} (T : Tops P K mg) (F : L2.Fun K "_law_raised" "_law_raised" st__law_raised f fd) (gF : mg "_law_raised" = some (.ref f)) (hb : Binds K fd ["_law_heap", "_law_whole_here", "_law_chosen"] [])  : Cal P w K mg base "_law_raised" 3 1 m__law_raised :=
  cal_of F gF hb sc__law_raised rfl fun cdv A outer s H E hr gd => (ss_cons (sc_set (ps_set (i := 3) sc__law_raised.nd rfl (by first | exact Or.inl rfl | exact Or.inr rfl) (se_op or_add op_dAdd (se_F (sl_ls (pe_callTy call_list_of (by rfl) T.b_list PyProof.Rows.boot_list (sa_cons (se_var (pv 0)) sa_nil rfl)))) (se_F (sl_rep (sl_lst (sa_cons se_int sa_nil rfl)) (se_op op_sub op_dSub (se_bi op_dLen (pe_callB call_len_seq (by rfl) T.b_len PySem.boot_len (sa_cons (se_var (pv 1)) sa_nil rfl))) (se_bi op_dLen (pe_callB call_len_seq (by rfl) T.b_len PySem.boot_len (sa_cons (se_var (pv 0)) sa_nil rfl)))))))))
      (ss_cons (by first | exact sc_setL (fun _ _ _ q => goLc (by decide) (gT_len (gsC_lenE (gN_len _) (gsC_lenE (gN_len _) (gsN_lenE)))) (goF q)) (ps_setLc (i := 4) (own := [("_law_column", 5), ("_law_height", 6)]) (g := gG _ _ none (gT (gsC (gN 5) (gsC (gN 6) (gsN))))) rfl sc__law_raised.nd rfl rfl (sw_true rfl rfl rfl (by decide +kernel)) (si_enum (pi_enumA (by rfl) T.b_enumerate (sa_cons (se_var (pv 3)) sa_nil rfl) rfl)) (blkOk_by (N := N__law_raised) (sc := defScope st__law_raised) (by decide +kernel)) (fun _ _ _ _ _ => (sg_tup (W := W0) (fun _ h => pg_tup rfl h) (sgs_cons (W := W0) (sg_name (W := W0) (pg_name sc__law_raised.nd rfl (by first | exact Or.inl rfl | exact Or.inr rfl))) (sgs_cons (W := W0) (sg_name (W := W0) (pg_name sc__law_raised.nd rfl (by first | exact Or.inl rfl | exact Or.inr rfl))) (sgs_nil (W := W0)) rfl) rfl) (fun _ _ _ q => gsC_len (fun _ _ _ q => gsC_len (fun _ _ _ q => gsN_len q) q) q))) (fun _ _ _ _ _ => st_nil) (fun _ _ _ _ _ => (se_op or_add op_dAdd (se_var (pv 6)) (se_bi op_dInt (pe_callTy call_int1 (by rfl) T.b_int PyProof.Rows.boot_int (sa_cons (se_cmp ((op_inD (units65 hr)).or (op_inT (units65 hr))) op_dInA (se_var (pv 5)) (se_var (pv 2)) (by with_unfolding_all rfl)) sa_nil rfl)))))) | exact sc_set (ps_set (i := 4) sc__law_raised.nd rfl (by first | exact Or.inl rfl | exact Or.inr rfl) (se_F (sl_lc (by decide) (gT_len (gsC_lenE (gN_len _) (gsC_lenE (gN_len _) (gsN_lenE)))) (pe_lc (own := [("_law_column", 5), ("_law_height", 6)]) (g := gG _ _ none (gT (gsC (gN 5) (gsC (gN 6) (gsN))))) rfl sc__law_raised.nd (si_enum (pi_enumA (by rfl) T.b_enumerate (sa_cons (se_var (pv 3)) sa_nil rfl) rfl)) (blkOk_by (N := N__law_raised) (sc := defScope st__law_raised) (by decide +kernel)) (fun _ _ _ _ _ => (sg_tup (W := W0) (fun _ h => pg_tup rfl h) (sgs_cons (W := W0) (sg_name (W := W0) (pg_name sc__law_raised.nd rfl (by first | exact Or.inl rfl | exact Or.inr rfl))) (sgs_cons (W := W0) (sg_name (W := W0) (pg_name sc__law_raised.nd rfl (by first | exact Or.inl rfl | exact Or.inr rfl))) (sgs_nil (W := W0)) rfl) rfl) (fun _ _ _ q => gsC_len (fun _ _ _ q => gsC_len (fun _ _ _ q => gsN_len q) q) q))) (fun _ _ _ _ _ => st_nil) (fun _ _ _ _ _ => (se_op or_add op_dAdd (se_var (pv 6)) (se_bi op_dInt (pe_callTy call_int1 (by rfl) T.b_int PyProof.Rows.boot_int (sa_cons (se_cmp ((op_inD (units65 hr)).or (op_inT (units65 hr))) op_dInA (se_var (pv 5)) (se_var (pv 2)) (by with_unfolding_all rfl)) sa_nil rfl))))))))))
      (ss_one (sc_ret (se_bi op_dTuple (pe_callTy call_tuple_of (by rfl) T.b_tuple PyProof.Rows.boot_tuple (sa_cons (se_F (sl_lc (by decide) (gN_len _) (pe_lc (own := [("_law_height", 6)]) (g := gG _ _ none (gN 6)) rfl sc__law_raised.nd (si_val (se_var (pv 4))) (blkOk_by (N := N__law_raised) (sc := defScope st__law_raised) (by decide +kernel)) (fun _ _ _ _ _ => (sg_name (W := W0) (pg_name sc__law_raised.nd rfl (by first | exact Or.inl rfl | exact Or.inr rfl)))) (fun _ _ _ _ _ => (pts_one (sb_cmp op_gt op_dGt (se_var (pv 6)) se_int (nomark _)))) (fun _ _ _ _ _ => (se_var (pv 6)))))) sa_nil rfl)))))))
theorem k__law_rises {f : Addr} {fd : FuncData} (T : Tops P K mg) (F : L2.Fun K "_law_rises" "_law_rises" st__law_rises f fd) (gF : mg "_law_rises" = some (.ref f)) (hb : Binds K fd ["_law_heap", "_law_whole_here"] [])  : Cal P w K mg base "_law_rises" 2 1 m__law_rises :=
  cal_of F gF hb sc__law_rises rfl fun cdv A outer s H E hr gd => (ss_cons (sc_set (ps_set (i := 2) sc__law_rises.nd rfl (by first | exact Or.inl rfl | exact Or.inr rfl) (se_op or_add op_dAdd (se_F (sl_ls (pe_callTy call_list_of (by rfl) T.b_list PyProof.Rows.boot_list (sa_cons (se_var (pv 0)) sa_nil rfl)))) (se_F (sl_rep (sl_lst (sa_cons se_int sa_nil rfl)) (se_op op_sub op_dSub (se_bi op_dLen (pe_callB call_len_seq (by rfl) T.b_len PySem.boot_len (sa_cons (se_var (pv 1)) sa_nil rfl))) (se_bi op_dLen (pe_callB call_len_seq (by rfl) T.b_len PySem.boot_len (sa_cons (se_var (pv 0)) sa_nil rfl)))))))))
      (ss_cons (sc_set (ps_set (i := 3) sc__law_rises.nd rfl (by first | exact Or.inl rfl | exact Or.inr rfl) (se_C (sl_lst sa_nil))))
      (ss_cons (sc_for (passes_of rfl) rfl (si_r1 (pi_range1 (by rfl) T.b_range (sa_cons (se_bi op_dLen (pe_callB call_len_seq (by rfl) T.b_len PySem.boot_len (sa_cons (se_var (pv 1)) sa_nil rfl))) sa_nil rfl))) (sg_name (W := _) (pg_name sc__law_rises.nd rfl (by first | exact Or.inl rfl | exact Or.inr rfl))) (ss_one (sc_if (sb_w (sw_and (sb_cmp op_lt op_dLt (se_sub ix_any op_dIx (se_var (pv 2)) (se_var (pv 4)) (fun _ _ => rfl)) (se_sub ix_any op_dIx (se_var (pv 1)) (se_var (pv 4)) (fun _ _ => rfl)) (nomark _)) (sw_and1 (sb_w (sw_or (sb_cmp (op_eqD hr.units) op_dEq (se_var (pv 4)) se_int (nomark _)) (sw_or1 (sb_cmp op_gt op_dGt (se_sub ix_any op_dIx (se_var (pv 2)) (se_op op_sub op_dSub (se_var (pv 4)) se_int) (fun _ _ => rfl)) (se_sub ix_any op_dIx (se_var (pv 2)) (se_var (pv 4)) (fun _ _ => rfl)) (nomark _)))))))) (ss_one (sc_exp (se_m op_mAppend (pe_bm PySem.F.plainAttrs_list PySem.F.slot_list_append PySem.F.type_list_append mt_append (se_var (pv 3)) (sa_cons (se_var (pv 4)) sa_nil rfl))) rfl)) ss_nil)) (by intro _; rfl))
      (ss_one (sc_ret (se_frz (se_var (pv 3))))))))
theorem k__law_groups {f : Addr} {fd : FuncData} (T : Tops P K mg) (F : L2.Fun K "_law_groups" "_law_groups" st__law_groups f fd) (gF : mg "_law_groups" = some (.ref f)) (hb : Binds K fd ["_law_heap", "_law_whole_here", "_law_order_here"] []) (c__law_rises : Cal P w K mg base "_law_rises" 2 1 m__law_rises) : Cal P w K mg base "_law_groups" 3 2 m__law_groups :=
  cal_of F gF hb sc__law_groups rfl fun cdv A outer s H E hr gd => (ss_cons (sc_set (ps_set (i := 3) sc__law_groups.nd rfl (by first | exact Or.inl rfl | exact Or.inr rfl) se_newK))
      (ss_cons (sc_for (passes_of rfl) rfl (si_val (se_call c__law_rises takes_def (hr.mono (by decide)) gd (by rfl) (sa_cons (se_var (pv 0)) (sa_cons (se_var (pv 1)) sa_nil rfl) rfl) (by decide) rfl rfl)) (sg_name (W := _) (pg_name sc__law_groups.nd rfl (by first | exact Or.inl rfl | exact Or.inr rfl))) (ss_cons (sc_set (ps_set (i := 5) sc__law_groups.nd rfl (by first | exact Or.inl rfl | exact Or.inr rfl) (se_if (sb_cmp op_lt op_dLt (se_var (pv 4)) (se_bi op_dLen (pe_callB call_len_seq (by rfl) T.b_len PySem.boot_len (sa_cons (se_var (pv 0)) sa_nil rfl))) (nomark _)) (se_sub ix_any op_dIx (se_var (pv 0)) (se_var (pv 4)) (fun _ _ => rfl)) se_int)))
      (ss_one (sc_setApp (pv 3) (se_op op_mod op_dMod (se_op op_sub op_dSub (se_var (pv 4)) (se_var (pv 5))) (se_var (pv 2))) (se_var (pv 4)) ⟨rfl, rfl, rfl, rfl⟩ (fun h a => pe_bm PySem.F.plainAttrs_list PySem.F.slot_list_append PySem.F.type_list_append mt_append h a) rfl rfl))) (by intro _; rfl))
      (ss_one (sc_lockK 3 (sc_ret (se_F (sl_lc (by decide) (gN_len _) (pe_lc (own := [("_law_rest", 6)]) (g := gG _ _ none (gN 6)) rfl sc__law_groups.nd (si_val (se_F (sl_srtK (pe_callB (cr_sortedK rfl (un64 (units65 hr))) (by rfl) T.b_sorted PyProof.Rows.boot_sorted (sa_cons (se_var (pv 3)) sa_nil rfl))))) (blkOk_by (N := N__law_groups) (sc := defScope st__law_groups) (by decide +kernel)) (fun _ _ _ _ _ => (sg_name (W := W0) (pg_name sc__law_groups.nd rfl (by first | exact Or.inl rfl | exact Or.inr rfl)))) (fun _ _ _ _ _ => st_nil) (fun _ _ _ _ _ => (se_dget (un1 (units65 hr)) (se_var (pv 3)) (se_var (pv 6)) (fun _ _ => rfl)))))))))))
theorem k__law_subsets {f : Addr} {fd : FuncData} (T : Tops P K mg) (F : L2.Fun K "_law_subsets" "_law_subsets" st__law_subsets f fd) (gF : mg "_law_subsets" = some (.ref f)) (hb : Binds K fd ["_law_items"] [])  : Cal P w K mg base "_law_subsets" 1 1 m__law_subsets :=
  cal_of F gF hb sc__law_subsets rfl fun cdv A outer s H E hr gd => (ss_cons (sc_set (ps_set (i := 1) sc__law_subsets.nd rfl (by first | exact Or.inl rfl | exact Or.inr rfl) (se_F (sl_lst (sa_cons (se_F (sl_lst sa_nil)) sa_nil rfl)))))
      (ss_cons (sc_for (passes_of rfl) rfl (si_val (se_var (pv 0))) (sg_name (W := _) (pg_name sc__law_subsets.nd rfl (by first | exact Or.inl rfl | exact Or.inr rfl))) (ss_one (sc_set (ps_set (i := 1) sc__law_subsets.nd rfl (by first | exact Or.inl rfl | exact Or.inr rfl) (se_op or_add op_dAdd (se_var (pv 1)) (se_F (sl_lc (by decide) (gN_len _) (pe_lc (own := [("_law_lot", 3)]) (g := gG _ _ none (gN 3)) rfl sc__law_subsets.nd (si_val (se_var (pv 1))) (blkOk_by (N := N__law_subsets) (sc := defScope st__law_subsets) (by decide +kernel)) (fun _ _ _ _ _ => (sg_name (W := W0) (pg_name sc__law_subsets.nd rfl (by first | exact Or.inl rfl | exact Or.inr rfl)))) (fun _ _ _ _ _ => st_nil) (fun _ _ _ _ _ => (se_op or_add op_dAdd (se_var (pv 3)) (se_F (sl_lst (sa_cons (se_var (pv 2)) sa_nil rfl)))))))))))) (by intro _; rfl))
      (ss_one (sc_ret (se_sl (se_var (pv 1)) (so_e se_int) so_no)))))
theorem k__law_table {f : Addr} {fd : FuncData} (T : Tops P K mg) (F : L2.Fun K "_law_table" "_law_table" st__law_table f fd) (gF : mg "_law_table" = some (.ref f)) (hb : Binds K fd ["_law_chain_here", "_law_whole_here"] []) (c__law_order : Cal P w K mg base "_law_order" 1 2 m__law_order) (c__law_raised : Cal P w K mg base "_law_raised" 3 1 m__law_raised) (c__law_groups : Cal P w K mg base "_law_groups" 3 2 m__law_groups) (c__law_subsets : Cal P w K mg base "_law_subsets" 1 1 m__law_subsets) : Cal P w K mg base "_law_table" 2 3 m__law_table :=
  cal_of F gF hb sc__law_table rfl fun cdv A outer s H E hr gd => (ss_cons (sc_set (ps_set (i := 2) sc__law_table.nd rfl (by first | exact Or.inl rfl | exact Or.inr rfl) (se_dispT (ps := [(xTup (aNil), xTup (aCons (S.val (.int (1))) (aCons (S.val (.int (0))) (aNil))))]) (un_of hr) (pps_cons (se_tup sa_nil) (se_tup (sa_cons se_int (sa_cons se_int sa_nil rfl) rfl)) pps_nil) rfl rfl (by simp) (by decide))))
      (ss_cons (sc_forC (passes_of rfl) rfl (si_val (se_var (pv 0))) (sg_name (W := _) (pg_name sc__law_table.nd rfl (by first | exact Or.inl rfl | exact Or.inr rfl))) (ss_cons (sc_set (ps_set (i := 4) sc__law_table.nd rfl (by first | exact Or.inl rfl | exact Or.inr rfl) (se_dictEC (pe_callTy (call_dictDT (units65 hr)) (by rfl) T.b_dict PyProof.Rows.boot_dict (sa_cons (se_var (pv 2)) sa_nil rfl)))))
      (ss_cons (sc_forC (passes_of rfl) rfl (si_val (se_F (sl_srtD2 (pe_callB (cr_sortedD2 rfl (un64 (units65 hr))) (by rfl) T.b_sorted PyProof.Rows.boot_sorted (sa_cons (se_var (pv 2)) sa_nil rfl))))) (sg_name (W := _) (pg_name sc__law_table.nd rfl (by first | exact Or.inl rfl | exact Or.inr rfl))) (ss_cons (sc_asg (se_dget (un1 (units65 hr)) (se_var (pv 2)) (se_var (pv 5)) (fun _ _ => rfl)) (sg_tup (W := _) (fun _ h => pg_tup rfl h) (sgs_cons (W := _) (sg_name (W := _) (pg_name sc__law_table.nd rfl (by first | exact Or.inl rfl | exact Or.inr rfl))) (sgs_cons (W := _) (sg_name (W := _) (pg_name sc__law_table.nd rfl (by first | exact Or.inl rfl | exact Or.inr rfl))) (sgs_nil (W := _)) rfl) rfl) (fun _ _ _ q => gsC_len (fun _ _ _ q => gsC_len (fun _ _ _ q => gsN_len q) q) q)) rfl rfl rfl)
      (ss_one (sc_forC (passes_of rfl) rfl (si_val (se_call c__law_groups takes_def (hr.mono (by decide)) gd (by rfl) (sa_cons (se_var (pv 5)) (sa_cons (se_var (pv 1)) (sa_cons (se_call c__law_order takes_def (hr.mono (by decide)) gd (by rfl) (sa_cons (se_var (pv 3)) sa_nil rfl) (by decide) rfl rfl) sa_nil rfl) rfl) rfl) (by decide) rfl rfl)) (sg_name (W := _) (pg_name sc__law_table.nd rfl (by first | exact Or.inl rfl | exact Or.inr rfl))) (ss_one (sc_forC (passes_of rfl) rfl (si_val (se_call c__law_subsets takes_def (hr.mono (by decide)) gd (by rfl) (sa_cons (se_var (pv 6)) sa_nil rfl) (by decide) rfl rfl)) (sg_name (W := _) (pg_name sc__law_table.nd rfl (by first | exact Or.inl rfl | exact Or.inr rfl))) (ss_cons (sc_set (ps_set (i := 10) sc__law_table.nd rfl (by first | exact Or.inl rfl | exact Or.inr rfl) (se_call c__law_raised takes_def (hr.mono (by decide)) gd (by rfl) (sa_cons (se_var (pv 5)) (sa_cons (se_var (pv 1)) (sa_cons (se_var (pv 9)) sa_nil rfl) rfl) rfl) (by decide) rfl rfl)))
      (ss_cons (sc_asg (se_dget2 (un1 (units65 hr)) (se_var (pv 4)) (se_var (pv 10)) (se_tup (sa_cons se_int (sa_cons (se_op or_add op_dAdd (se_var (pv 8)) se_int) sa_nil rfl) rfl)) ⟨rfl, rfl, rfl, rfl⟩) (sg_tup (W := _) (fun _ h => pg_tup rfl h) (sgs_cons (W := _) (sg_name (W := _) (pg_name sc__law_table.nd rfl (by first | exact Or.inl rfl | exact Or.inr rfl))) (sgs_cons (W := _) (sg_name (W := _) (pg_name sc__law_table.nd rfl (by first | exact Or.inl rfl | exact Or.inr rfl))) (sgs_nil (W := _)) rfl) rfl) (fun _ _ _ q => gsC_len (fun _ _ _ q => gsC_len (fun _ _ _ q => gsN_len q) q) q)) rfl rfl rfl)
      (ss_one (sc_sett (un1 (units65 hr)) (se_var (pv 4)) (se_var (pv 10)) (se_tup (sa_cons (se_op or_add op_dAdd (se_var (pv 11)) (se_var (pv 7))) (sa_cons (se_bi op_dMin2 (pe_callB (call_min2 rfl) (by rfl) T.b_min PyProof.Rows.boot_min (sa_cons (se_var (pv 12)) (sa_cons (se_op or_add op_dAdd (se_var (pv 8)) se_int) sa_nil rfl) rfl))) sa_nil rfl) rfl)) rfl)))) (by intro _; rfl))) (by intro _; rfl)))) (by intro _; rfl))
      (ss_one (sc_set (ps_set (i := 2) sc__law_table.nd rfl (by first | exact Or.inl rfl | exact Or.inr rfl) (se_frzT (se_var (pv 4)))))))) (by intro _; rfl))
      (ss_one (sc_ret (se_var (pv 2))))))
theorem k_hook_product {f : Addr} {fd : FuncData} (T : Tops P K mg) (F : L2.Fun K "hook_product" "hook_product" st_hook_product f fd) (gF : mg "hook_product" = some (.ref f)) (hb : Binds K fd ["heap"] [])  : Cal P w K mg base "hook_product" 1 1 m_hook_product :=
  cal_of F gF hb sc_hook_product rfl fun cdv A outer s H E hr gd => (ss_cons (sc_set (ps_set (i := 1) sc_hook_product.nd rfl (by first | exact Or.inl rfl | exact Or.inr rfl) se_int))
      (ss_cons (sc_for (passes_of rfl) rfl (si_enum (pi_enumA (by rfl) T.b_enumerate (sa_cons (se_var (pv 0)) sa_nil rfl) rfl)) (sg_tup (W := _) (fun _ h => pg_tup rfl h) (sgs_cons (W := _) (sg_name (W := _) (pg_name sc_hook_product.nd rfl (by first | exact Or.inl rfl | exact Or.inr rfl))) (sgs_cons (W := _) (sg_name (W := _) (pg_name sc_hook_product.nd rfl (by first | exact Or.inl rfl | exact Or.inr rfl))) (sgs_nil (W := _)) rfl) rfl) (fun _ _ _ q => gsC_len (fun _ _ _ q => gsC_len (fun _ _ _ q => gsN_len q) q) q)) (ss_one (sc_for (passes_of rfl) rfl (si_r1 (pi_range1 (by rfl) T.b_range (sa_cons (se_var (pv 3)) sa_nil rfl))) (sg_name (W := _) (pg_name sc_hook_product.nd rfl (by first | exact Or.inl rfl | exact Or.inr rfl))) (ss_cons (sc_set (ps_set (i := 5) sc_hook_product.nd rfl (by first | exact Or.inl rfl | exact Or.inr rfl) (se_bi op_dLen (pe_callB call_len_seq (by rfl) T.b_len PySem.boot_len (sa_cons (se_F (sl_lc (by decide) (gN_len _) (pe_lc (own := [("one", 6)]) (g := gG _ _ none (gN 6)) rfl sc_hook_product.nd (si_val (se_sl (se_var (pv 0)) (so_e (se_op or_add op_dAdd (se_var (pv 2)) se_int)) so_no)) (blkOk_by (N := N_hook_product) (sc := defScope st_hook_product) (by decide +kernel)) (fun _ _ _ _ _ => (sg_name (W := W0) (pg_name sc_hook_product.nd rfl (by first | exact Or.inl rfl | exact Or.inr rfl)))) (fun _ _ _ _ _ => (pts_one (sb_cmp op_gt op_dGt (se_var (pv 6)) (se_var (pv 4)) (nomark _)))) (fun _ _ _ _ _ => (se_var (pv 6)))))) sa_nil rfl)))))
      (ss_one (sc_aug au_mul (ps_aug (i := 1) sc_hook_product.nd rfl (by first | exact Or.inl rfl | exact Or.inr rfl) (se_op op_sub op_dSub (se_op or_add op_dAdd (se_var (pv 5)) (se_var (pv 3))) (se_var (pv 4))) ip_mulW)))) (by intro _; rfl))) (by intro _; rfl))
      (ss_one (sc_ret (se_var (pv 1))))))
theorem k_standard_count {f : Addr} {fd : FuncData} (T : Tops P K mg) (F : L2.Fun K "standard_count" "standard_count" st_standard_count f fd) (gF : mg "standard_count" = some (.ref f)) (hb : Binds K fd ["heap"] []) (c_hook_product : Cal P w K mg base "hook_product" 1 1 m_hook_product) : Cal P w K mg base "standard_count" 1 2 m_standard_count :=
  cal_of F gF hb sc_standard_count rfl fun cdv A outer s H E hr gd => (ss_one (sc_ret (se_op op_fdivW op_dDiv (se_bi op_dFac (pe_callBfun cr_fac (by rfl) T.g_fac (sa_cons (se_bi op_dSumA (pe_callB (cr_sumA rfl) (by rfl) T.b_sum PyProof.Rows.boot_sum (sa_cons (se_var (pv 0)) sa_nil rfl))) sa_nil rfl))) (se_call c_hook_product takes_def (hr.mono (by decide)) gd (by rfl) (sa_cons (se_var (pv 0)) sa_nil rfl) (by decide) rfl rfl))))
theorem k_standard_fillings {f : Addr} {fd : FuncData} (T : Tops P K mg) (F : L2.Fun K "standard_fillings" "standard_fillings" st_standard_fillings f fd) (gF : mg "standard_fillings" = some (.ref f)) (hb : Binds K fd ["heap"] []) (c_require_heap : Cal P w K mg base "require_heap" 1 4 m_require_heap) (c_standard_count : Cal P w K mg base "standard_count" 1 2 m_standard_count) : Cal P w K mg base "standard_fillings" 1 5 m_standard_fillings :=
  cal_of F gF hb sc_standard_fillings rfl fun cdv A outer s H E hr gd => (ss_cons (sc_exp (se_call c_require_heap takes_def (hr.mono (by decide)) gd (by rfl) (sa_cons (se_var (pv 0)) sa_nil rfl) (by decide) rfl rfl) rfl)
      (ss_cons (sc_if (sb_cmp op_gt op_dGt (se_bi op_dSumA (pe_callB (cr_sumA rfl) (by rfl) T.b_sum PyProof.Rows.boot_sum (sa_cons (se_var (pv 0)) sa_nil rfl))) (se_gintE rfl T.c_MOST_HOOKED (by decide)) (nomark _)) (ss_one sc_stop) ss_nil)
      (ss_one (sc_ret (se_call c_standard_count takes_def (hr.mono (by decide)) gd (by rfl) (sa_cons (se_var (pv 0)) sa_nil rfl) (by decide) rfl rfl)))))
theorem k__law_choices_of {f : Addr} {fd : FuncData} (T : Tops P K mg) (F : L2.Fun K "_law_choices_of" "_law_choices_of" st__law_choices_of f fd) (gF : mg "_law_choices_of" = some (.ref f)) (hb : Binds K fd ["_law_size", "_law_total"] [])  : Cal P w K mg base "_law_choices_of" 2 1 m__law_choices_of :=
  cal_of F gF hb sc__law_choices_of rfl fun cdv A outer s H E hr gd => (ss_cons (sc_set (ps_set (i := 2) sc__law_choices_of.nd rfl (by first | exact Or.inl rfl | exact Or.inr rfl) se_int))
      (ss_cons (sc_for (passes_of rfl) rfl (si_r1 (pi_range1 (by rfl) T.b_range (sa_cons (se_var (pv 0)) sa_nil rfl))) (sg_name (W := _) (pg_name sc__law_choices_of.nd rfl (by first | exact Or.inl rfl | exact Or.inr rfl))) (ss_one (sc_set (ps_set (i := 2) sc__law_choices_of.nd rfl (by first | exact Or.inl rfl | exact Or.inr rfl) (se_op op_fdivW op_dDiv (se_op (op_mulW.or (op_repT.or op_rep1)) op_dMulA (se_var (pv 2)) (se_op op_sub op_dSub (se_var (pv 1)) (se_var (pv 3)))) (se_op or_add op_dAdd (se_var (pv 3)) se_int))))) (by intro _; rfl))
      (ss_one (sc_ret (se_var (pv 2))))))
theorem k__law_great_right {f : Addr} {fd : FuncData} (T : Tops P K mg) (F : L2.Fun K "_law_great_right" "_law_great_right" st__law_great_right f fd) (gF : mg "_law_great_right" = some (.ref f)) (hb : Binds K fd ["_law_dice_here", "_law_whole_here"] []) (c_fewest_letters : Cal P w K mg base "fewest_letters" 2 7 m_fewest_letters) (c_fillings_count : Cal P w K mg base "fillings_count" 2 7 m_fillings_count) (c_standard_fillings : Cal P w K mg base "standard_fillings" 1 5 m_standard_fillings) (c__law_roll : Cal P w K mg base "_law_roll" 2 1 m__law_roll) (c__law_ring_of : Cal P w K mg base "_law_ring_of" 3 3 m__law_ring_of) (c__law_choices_of : Cal P w K mg base "_law_choices_of" 2 1 m__law_choices_of) : Cal P w K mg base "_law_great_right" 2 8 m__law_great_right :=
  cal_of F gF hb sc__law_great_right rfl fun cdv A outer s H E hr gd => (ss_cons (sc_par (ps_par (i := 5) (j := 6) rfl sc__law_great_right.nd rfl rfl (by decide) rfl rfl (sa_cons (se_bi op_dSumA (pe_callB (cr_sumA rfl) (by rfl) T.b_sum PyProof.Rows.boot_sum (sa_cons (se_var (pv 1)) sa_nil rfl))) (sa_cons (se_op or_add op_dAdd se_int (se_call c__law_roll takes_def (hr.mono (by decide)) gd (by rfl) (sa_cons (se_var (pv 0)) (sa_cons se_int sa_nil rfl) rfl) (by decide) rfl rfl)) sa_nil rfl) rfl) rfl))
      (ss_cons (sc_set (ps_set (i := 2) sc__law_great_right.nd rfl (by first | exact Or.inl rfl | exact Or.inr rfl) (se_op or_add op_dAdd (se_bi op_dLen (pe_callB call_len_seq (by rfl) T.b_len PySem.boot_len (sa_cons (se_var (pv 1)) sa_nil rfl))) (se_bi op_dMaxA (pe_callB (cr_maxA rfl (units65 hr)) (by rfl) T.b_max PyProof.Rows.boot_max (sa_cons (se_op or_add op_dAdd (se_F (sl_lst (sa_cons se_int sa_nil rfl))) (se_F (sl_ls (pe_callTy call_list_of (by rfl) T.b_list PyProof.Rows.boot_list (sa_cons (se_var (pv 1)) sa_nil rfl))))) sa_nil rfl))))))
      (ss_cons (sc_set (ps_set (i := 3) sc__law_great_right.nd rfl (by first | exact Or.inl rfl | exact Or.inr rfl) (se_bi op_dTuple (pe_callTy call_tuple_of (by rfl) T.b_tuple PyProof.Rows.boot_tuple (sa_cons (se_F (sl_lc (by decide) (gN_len _) (pe_lc (own := [("_law_turn", 7)]) (g := gG _ _ none (gN 7)) rfl sc__law_great_right.nd (si_r1 (pi_range1 (by rfl) T.b_range (sa_cons (se_var (pv 6)) sa_nil rfl))) (blkOk_by (N := N__law_great_right) (sc := defScope st__law_great_right) (by decide +kernel)) (fun _ _ _ _ _ => (sg_name (W := W0) (pg_name sc__law_great_right.nd rfl (by first | exact Or.inl rfl | exact Or.inr rfl)))) (fun _ _ _ _ _ => st_nil) (fun _ _ _ _ _ => (se_call c__law_ring_of takes_none5 (hr.mono (by decide)) gd (by rfl) (sa_cons (se_var (pv 0)) (sa_cons (se_op or_add op_dAdd se_int (se_call c__law_roll takes_none5 (hr.mono (by decide)) gd (by rfl) (sa_cons (se_var (pv 0)) (sa_cons se_int sa_nil rfl) rfl) (by decide) rfl rfl)) (sa_cons se_int sa_nil rfl) rfl) rfl) (by decide) rfl rfl))))) sa_nil rfl)))))
      (ss_cons (sc_if (sb_cmp op_gt op_dGt (se_var (pv 2)) se_int (nomark _)) (ss_one (sc_ret se_bl)) ss_nil)
      (ss_cons (sc_set (ps_set (i := 4) sc__law_great_right.nd rfl (by first | exact Or.inl rfl | exact Or.inr rfl) (se_if (sb_cmp op_le op_dLe (se_var (pv 5)) (se_var (pv 6)) (nomark _)) (se_op (op_mulW.or (op_repT.or op_rep1)) op_dMulA (se_call c__law_choices_of takes_def (hr.mono (by decide)) gd (by rfl) (sa_cons (se_var (pv 5)) (sa_cons (se_var (pv 6)) sa_nil rfl) rfl) (by decide) rfl rfl) (se_call c_standard_fillings takes_def (hr.mono (by decide)) gd (by rfl) (sa_cons (se_var (pv 1)) sa_nil rfl) (by decide) rfl rfl)) se_int)))
      (ss_one (sc_ret (se_and (se_cmp (op_eqD hr.units) op_dEq (se_call c_fillings_count takes_def (hr.mono (by decide)) gd (by rfl) (sa_cons (se_var (pv 3)) (sa_cons (se_var (pv 1)) sa_nil rfl) rfl) (by decide) rfl rfl) (se_var (pv 4)) (nomark _)) (se_one (se_cmp (op_eqD hr.units) op_dEq (se_call c_fewest_letters takes_def (hr.mono (by decide)) gd (by rfl) (sa_cons (se_var (pv 3)) (sa_cons (se_var (pv 1)) sa_nil rfl) rfl) (by decide) rfl rfl) (se_if (sb_cmp op_le op_dLe (se_var (pv 5)) (se_var (pv 6)) (nomark _)) (se_var (pv 5)) se_non) (nomark _)))))))))))
theorem k__law_equal_chain {f : Addr} {fd : FuncData} (T : Tops P K mg) (F : L2.Fun K "_law_equal_chain" "_law_equal_chain" st__law_equal_chain f fd) (gF : mg "_law_equal_chain" = some (.ref f)) (hb : Binds K fd ["_law_dice_here", "_law_rings", "_law_k"] []) (c__law_ring_of : Cal P w K mg base "_law_ring_of" 3 3 m__law_ring_of) : Cal P w K mg base "_law_equal_chain" 3 4 m__law_equal_chain :=
  cal_of F gF hb sc__law_equal_chain rfl fun cdv A outer s H E hr gd => (ss_one (sc_ret (se_bi op_dTuple (pe_callTy call_tuple_of (by rfl) T.b_tuple PyProof.Rows.boot_tuple (sa_cons (se_F (sl_lc (by decide) (gN_len _) (pe_lc (own := [("_law_turn", 3)]) (g := gG _ _ none (gN 3)) rfl sc__law_equal_chain.nd (si_r1 (pi_range1 (by rfl) T.b_range (sa_cons (se_var (pv 1)) sa_nil rfl))) (blkOk_by (N := N__law_equal_chain) (sc := defScope st__law_equal_chain) (by decide +kernel)) (fun _ _ _ _ _ => (sg_name (W := W0) (pg_name sc__law_equal_chain.nd rfl (by first | exact Or.inl rfl | exact Or.inr rfl)))) (fun _ _ _ _ _ => st_nil) (fun _ _ _ _ _ => (se_call c__law_ring_of takes_none5 (hr.mono (by decide)) gd (by rfl) (sa_cons (se_var (pv 0)) (sa_cons (se_var (pv 2)) (sa_cons se_int sa_nil rfl) rfl) rfl) (by decide) rfl rfl))))) sa_nil rfl)))))
theorem k__law_equal_right {f : Addr} {fd : FuncData} (T : Tops P K mg) (F : L2.Fun K "_law_equal_right" "_law_equal_right" st__law_equal_right f fd) (gF : mg "_law_equal_right" = some (.ref f)) (hb : Binds K fd ["_law_dice_here"] []) (c_fewest_letters : Cal P w K mg base "fewest_letters" 2 7 m_fewest_letters) (c__law_roll : Cal P w K mg base "_law_roll" 2 1 m__law_roll) (c__law_equal_chain : Cal P w K mg base "_law_equal_chain" 3 4 m__law_equal_chain) : Cal P w K mg base "_law_equal_right" 1 8 m__law_equal_right :=
  cal_of F gF hb sc__law_equal_right rfl fun cdv A outer s H E hr gd => (ss_cons (sc_asg (se_tup (sa_cons (se_op or_add op_dAdd se_int (se_call c__law_roll takes_def (hr.mono (by decide)) gd (by rfl) (sa_cons (se_var (pv 0)) (sa_cons se_int sa_nil rfl) rfl) (by decide) rfl rfl)) (sa_cons (se_op or_add op_dAdd se_int (se_call c__law_roll takes_def (hr.mono (by decide)) gd (by rfl) (sa_cons (se_var (pv 0)) (sa_cons se_int sa_nil rfl) rfl) (by decide) rfl rfl)) (sa_cons (se_op or_add op_dAdd se_int (se_call c__law_roll takes_def (hr.mono (by decide)) gd (by rfl) (sa_cons (se_var (pv 0)) (sa_cons se_int sa_nil rfl) rfl) (by decide) rfl rfl)) sa_nil rfl) rfl) rfl)) (sg_tup (W := _) (fun _ h => pg_tup rfl h) (sgs_cons (W := _) (sg_name (W := _) (pg_name sc__law_equal_right.nd rfl (by first | exact Or.inl rfl | exact Or.inr rfl))) (sgs_cons (W := _) (sg_name (W := _) (pg_name sc__law_equal_right.nd rfl (by first | exact Or.inl rfl | exact Or.inr rfl))) (sgs_cons (W := _) (sg_name (W := _) (pg_name sc__law_equal_right.nd rfl (by first | exact Or.inl rfl | exact Or.inr rfl))) (sgs_nil (W := _)) rfl) rfl) rfl) (fun _ _ _ q => gsC_len (fun _ _ _ q => gsC_len (fun _ _ _ q => gsC_len (fun _ _ _ q => gsN_len q) q) q) q)) rfl rfl rfl)
      (ss_cons (sc_set (ps_set (i := 1) sc__law_equal_right.nd rfl (by first | exact Or.inl rfl | exact Or.inr rfl) (se_bi op_dMinA (pe_callB (cr_minA rfl (units65 hr)) (by rfl) T.b_min PyProof.Rows.boot_min (sa_cons (se_F (sl_lc (by decide) (gN_len _) (pe_lc (own := [("_law_l", 6)]) (g := gG _ _ none (gN 6)) rfl sc__law_equal_right.nd (si_r1 (pi_range1 (by rfl) T.b_range (sa_cons (se_bi op_dMin2 (pe_callB (call_min2 rfl) (by rfl) T.b_min PyProof.Rows.boot_min (sa_cons (se_var (pv 4)) (sa_cons (se_var (pv 5)) sa_nil rfl) rfl))) sa_nil rfl))) (blkOk_by (N := N__law_equal_right) (sc := defScope st__law_equal_right) (by decide +kernel)) (fun _ _ _ _ _ => (sg_name (W := W0) (pg_name sc__law_equal_right.nd rfl (by first | exact Or.inl rfl | exact Or.inr rfl)))) (fun _ _ _ _ _ => st_nil) (fun _ _ _ _ _ => (se_op or_add op_dAdd (se_op (op_mulW.or (op_repT.or op_rep1)) op_dMulA (se_op op_sub op_dSub (se_var (pv 4)) (se_var (pv 6))) (se_op op_sub op_dSub (se_var (pv 5)) (se_var (pv 6)))) (se_op (op_mulW.or (op_repT.or op_rep1)) op_dMulA (se_var (pv 6)) (se_var (pv 3)))))))) sa_nil rfl)))))
      (ss_cons (sc_set (ps_set (i := 2) sc__law_equal_right.nd rfl (by first | exact Or.inl rfl | exact Or.inr rfl) (se_call c__law_equal_chain takes_def (hr.mono (by decide)) gd (by rfl) (sa_cons (se_var (pv 0)) (sa_cons (se_op (op_mulW.or (op_repT.or op_rep1)) op_dMulA (se_var (pv 4)) (se_var (pv 5))) (sa_cons (se_var (pv 3)) sa_nil rfl) rfl) rfl) (by decide) rfl rfl)))
      (ss_cons (sc_if (sb_cmp (op_neD hr.units) op_dNe (se_call c_fewest_letters takes_def (hr.mono (by decide)) gd (by rfl) (sa_cons (se_var (pv 2)) (sa_cons (se_op (op_mulW.or (op_repT.or op_rep1)) op_dMulA (se_tup (sa_cons (se_var (pv 5)) sa_nil rfl)) (se_var (pv 4))) sa_nil rfl) rfl) (by decide) rfl rfl) (se_var (pv 1)) (nomark _)) (ss_one (sc_ret se_bl)) ss_nil)
      (ss_one (sc_ret (se_or (se_cmp (op_eqD hr.units) op_dEq (se_var (pv 1)) se_int (nomark _)) (se_one (se_cmp op_isN op_dIs (se_call c_fewest_letters takes_def (hr.mono (by decide)) gd (by rfl) (sa_cons (se_sl (se_var (pv 2)) so_no (so_e (se_op op_sub op_dSub (se_var (pv 1)) se_int))) (sa_cons (se_op (op_mulW.or (op_repT.or op_rep1)) op_dMulA (se_tup (sa_cons (se_var (pv 5)) sa_nil rfl)) (se_var (pv 4))) sa_nil rfl) rfl) (by decide) rfl rfl) se_non (nomark _))))))))))
end
theorem ok_law [Tabs0] {P : Program} {w : World} {K : PySem.W.Frag} {mg : Str → Option Value} {base : Heap} {f : Addr} {fd : FuncData} (T : Tops P K mg) (F : L2.Fun K "law" "law" st_law f fd) (c_fewest_letters : Cal P w K mg base "fewest_letters" 2 7 m_fewest_letters) (c_fillings_count : Cal P w K mg base "fillings_count" 2 7 m_fillings_count) (c__law_dice : Cal P w K mg base "_law_dice" 2 1 m__law_dice) (c__law_roll : Cal P w K mg base "_law_roll" 2 1 m__law_roll) (c__law_chain : Cal P w K mg base "_law_chain" 3 4 m__law_chain) (c__law_whole : Cal P w K mg base "_law_whole" 1 2 m__law_whole) (c__law_table : Cal P w K mg base "_law_table" 2 3 m__law_table) (c__law_great_right : Cal P w K mg base "_law_great_right" 2 8 m__law_great_right) (c__law_equal_right : Cal P w K mg base "_law_equal_right" 1 8 m__law_equal_right) : FnG P w K mg base 9 f fd ["_law_script"] (spS K mg 1 m_law) :=
  fnG_of F sc_law rfl fun cdv A outer s H E hr gd => (ss_cons (sc_forC (passes_of rfl) rfl (si_r1 (pi_range1 (by rfl) T.b_range (sa_cons (se_bi op_dMax2 (pe_callB (call_max2 rfl) (by rfl) T.b_max PyProof.Rows.boot_max (sa_cons se_int (sa_cons (se_bi op_dMin2 (pe_callB (call_min2 rfl) (by rfl) T.b_min PyProof.Rows.boot_min (sa_cons se_int (sa_cons (se_bi op_dLen (pe_callB call_len_seq (by rfl) T.b_len PySem.boot_len (sa_cons (se_var (pv 0)) sa_nil rfl))) sa_nil rfl) rfl))) sa_nil rfl) rfl))) sa_nil rfl))) (sg_name (W := _) (pg_name sc_law.nd rfl (by first | exact Or.inl rfl | exact Or.inr rfl))) (ss_cons (sc_set (ps_set (i := 2) sc_law.nd rfl (by first | exact Or.inl rfl | exact Or.inr rfl) (se_call c__law_dice takes_def (hr.mono (by decide)) gd (by rfl) (sa_cons (se_var (pv 0)) (sa_cons (se_var (pv 1)) sa_nil rfl) rfl) (by decide) rfl rfl)))
      (ss_cons (sc_par (ps_par (i := 3) (j := 4) rfl sc_law.nd rfl rfl (by decide) rfl rfl (sa_cons (se_call c__law_chain takes_def (hr.mono (by decide)) gd (by rfl) (sa_cons (se_var (pv 2)) (sa_cons (se_op or_add op_dAdd se_int (se_call c__law_roll takes_def (hr.mono (by decide)) gd (by rfl) (sa_cons (se_var (pv 2)) (sa_cons se_int sa_nil rfl) rfl) (by decide) rfl rfl)) (sa_cons se_int sa_nil rfl) rfl) rfl) (by decide) rfl rfl) (sa_cons (se_call c__law_whole takes_def (hr.mono (by decide)) gd (by rfl) (sa_cons (se_var (pv 2)) sa_nil rfl) (by decide) rfl rfl) sa_nil rfl) rfl) rfl))
      (ss_cons (sc_asg (se_dget2 (un1 (units65 hr)) (se_call c__law_table takes_def (hr.mono (by decide)) gd (by rfl) (sa_cons (se_var (pv 3)) (sa_cons (se_var (pv 4)) sa_nil rfl) rfl) (by decide) rfl rfl) (se_var (pv 4)) (se_tup (sa_cons se_int (sa_cons se_non sa_nil rfl) rfl)) ⟨rfl, rfl, rfl, rfl⟩) (sg_tup (W := _) (fun _ h => pg_tup rfl h) (sgs_cons (W := _) (sg_name (W := _) (pg_name sc_law.nd rfl (by first | exact Or.inl rfl | exact Or.inr rfl))) (sgs_cons (W := _) (sg_name (W := _) (pg_name sc_law.nd rfl (by first | exact Or.inl rfl | exact Or.inr rfl))) (sgs_nil (W := _)) rfl) rfl) (fun _ _ _ q => gsC_len (fun _ _ _ q => gsC_len (fun _ _ _ q => gsN_len q) q) q)) rfl rfl rfl)
      (ss_cons (sc_if (sb_w (sw_or (sb_cmp (op_neD hr.units) op_dNe (se_call c_fillings_count takes_def (hr.mono (by decide)) gd (by rfl) (sa_cons (se_var (pv 3)) (sa_cons (se_var (pv 4)) sa_nil rfl) rfl) (by decide) rfl rfl) (se_var (pv 5)) (nomark _)) (sw_or1 (sb_cmp (op_neD hr.units) op_dNe (se_call c_fewest_letters takes_def (hr.mono (by decide)) gd (by rfl) (sa_cons (se_var (pv 3)) (sa_cons (se_var (pv 4)) sa_nil rfl) rfl) (by decide) rfl rfl) (se_var (pv 6)) (nomark _))))) (ss_one (sc_ret se_bl)) ss_nil)
      (ss_one (sc_if (sb_w (sw_or (sb_not (sb_val (se_call c__law_great_right takes_def (hr.mono (by decide)) gd (by rfl) (sa_cons (se_var (pv 2)) (sa_cons (se_var (pv 4)) sa_nil rfl) rfl) (by decide) rfl rfl) (fun _ => rfl))) (sw_or1 (sb_not (sb_val (se_call c__law_equal_right takes_def (hr.mono (by decide)) gd (by rfl) (sa_cons (se_var (pv 2)) sa_nil rfl) (by decide) rfl rfl) (fun _ => rfl)))))) (ss_one (sc_ret se_bl)) ss_nil)))))) (by intro _; rfl))
      (ss_one (sc_ret se_bl)))
theorem all_mk {w : World} {K : PySem.W.Frag} {h : Heap} {mg : Str → Option Value} {fa : Addr} {q0 : Program} (X : K.In h) (G : h.Ns mainGlobals mg) (hfa : mg "law" = some (.ref fa))
    (tabf : ∀ (y : Str) (dr : DefRec) (c t : Addr), (recsOf q0).find? (fun e => e.name == y) = some dr → PySem.W.tabIn K y = some (c, t) → PySem.W.CodeHd h c t ∧ h.get? t = some emTab)
    {f_order_in : Addr} {od_order_in an_order_in : Option Addr} {sl_order_in : Array (Option Value)} {oc_order_in kV_order_in dc_order_in pm_order_in cd_order_in ct_order_in : Value}
    {f_with_columns : Addr} {od_with_columns an_with_columns : Option Addr} {sl_with_columns : Array (Option Value)} {oc_with_columns kV_with_columns dc_with_columns pm_with_columns cd_with_columns ct_with_columns : Value}
    {f_addable_columns : Addr} {od_addable_columns an_addable_columns : Option Addr} {sl_addable_columns : Array (Option Value)} {oc_addable_columns kV_addable_columns dc_addable_columns pm_addable_columns cd_addable_columns ct_addable_columns : Value}
    {f_free_columns : Addr} {od_free_columns an_free_columns : Option Addr} {sl_free_columns : Array (Option Value)} {oc_free_columns kV_free_columns dc_free_columns pm_free_columns cd_free_columns ct_free_columns : Value}
    {f_let_columns : Addr} {od_let_columns an_let_columns : Option Addr} {sl_let_columns : Array (Option Value)} {oc_let_columns kV_let_columns dc_let_columns pm_let_columns cd_let_columns ct_let_columns : Value}
    {f_fewest_letters_in : Addr} {od_fewest_letters_in an_fewest_letters_in : Option Addr} {sl_fewest_letters_in : Array (Option Value)} {oc_fewest_letters_in kV_fewest_letters_in dc_fewest_letters_in pm_fewest_letters_in cd_fewest_letters_in ct_fewest_letters_in : Value}
    {f_is_whole : Addr} {od_is_whole an_is_whole : Option Addr} {sl_is_whole : Array (Option Value)} {oc_is_whole kV_is_whole dc_is_whole pm_is_whole cd_is_whole ct_is_whole : Value}
    {f_is_within : Addr} {od_is_within an_is_within : Option Addr} {sl_is_within : Array (Option Value)} {oc_is_within kV_is_within dc_is_within pm_is_within cd_is_within ct_is_within : Value}
    {f_is_ring_in : Addr} {od_is_ring_in an_is_ring_in : Option Addr} {sl_is_ring_in : Array (Option Value)} {oc_is_ring_in kV_is_ring_in dc_is_ring_in pm_is_ring_in cd_is_ring_in ct_is_ring_in : Value}
    {f_is_chain_in : Addr} {od_is_chain_in an_is_chain_in : Option Addr} {sl_is_chain_in : Array (Option Value)} {oc_is_chain_in kV_is_chain_in dc_is_chain_in pm_is_chain_in cd_is_chain_in ct_is_chain_in : Value}
    {f_require_chain : Addr} {od_require_chain an_require_chain : Option Addr} {sl_require_chain : Array (Option Value)} {oc_require_chain kV_require_chain dc_require_chain pm_require_chain cd_require_chain ct_require_chain : Value}
    {f_is_heap_in : Addr} {od_is_heap_in an_is_heap_in : Option Addr} {sl_is_heap_in : Array (Option Value)} {oc_is_heap_in kV_is_heap_in dc_is_heap_in pm_is_heap_in cd_is_heap_in ct_is_heap_in : Value}
    {f_require_heap : Addr} {od_require_heap an_require_heap : Option Addr} {sl_require_heap : Array (Option Value)} {oc_require_heap kV_require_heap dc_require_heap pm_require_heap cd_require_heap ct_require_heap : Value}
    {f_require_filled : Addr} {od_require_filled an_require_filled : Option Addr} {sl_require_filled : Array (Option Value)} {oc_require_filled kV_require_filled dc_require_filled pm_require_filled cd_require_filled ct_require_filled : Value}
    {f_fewest_letters : Addr} {od_fewest_letters an_fewest_letters : Option Addr} {sl_fewest_letters : Array (Option Value)} {oc_fewest_letters kV_fewest_letters dc_fewest_letters pm_fewest_letters cd_fewest_letters ct_fewest_letters : Value}
    {f_some_columns : Addr} {od_some_columns an_some_columns : Option Addr} {sl_some_columns : Array (Option Value)} {oc_some_columns kV_some_columns dc_some_columns pm_some_columns cd_some_columns ct_some_columns : Value}
    {f_fillings_count_in : Addr} {od_fillings_count_in an_fillings_count_in : Option Addr} {sl_fillings_count_in : Array (Option Value)} {oc_fillings_count_in kV_fillings_count_in dc_fillings_count_in pm_fillings_count_in cd_fillings_count_in ct_fillings_count_in : Value}
    {f_fillings_count : Addr} {od_fillings_count an_fillings_count : Option Addr} {sl_fillings_count : Array (Option Value)} {oc_fillings_count kV_fillings_count dc_fillings_count pm_fillings_count cd_fillings_count ct_fillings_count : Value}
    {f__law_dice : Addr} {od__law_dice an__law_dice : Option Addr} {sl__law_dice : Array (Option Value)} {oc__law_dice kV__law_dice dc__law_dice pm__law_dice cd__law_dice ct__law_dice : Value}
    {f__law_roll : Addr} {od__law_roll an__law_roll : Option Addr} {sl__law_roll : Array (Option Value)} {oc__law_roll kV__law_roll dc__law_roll pm__law_roll cd__law_roll ct__law_roll : Value}
    {f__law_ring : Addr} {od__law_ring an__law_ring : Option Addr} {sl__law_ring : Array (Option Value)} {oc__law_ring kV__law_ring dc__law_ring pm__law_ring cd__law_ring ct__law_ring : Value}
    {f__law_one_of : Addr} {od__law_one_of an__law_one_of : Option Addr} {sl__law_one_of : Array (Option Value)} {oc__law_one_of kV__law_one_of dc__law_one_of pm__law_one_of cd__law_one_of ct__law_one_of : Value}
    {f__law_common : Addr} {od__law_common an__law_common : Option Addr} {sl__law_common : Array (Option Value)} {oc__law_common kV__law_common dc__law_common pm__law_common cd__law_common ct__law_common : Value}
    {f__law_ring_of : Addr} {od__law_ring_of an__law_ring_of : Option Addr} {sl__law_ring_of : Array (Option Value)} {oc__law_ring_of kV__law_ring_of dc__law_ring_of pm__law_ring_of cd__law_ring_of ct__law_ring_of : Value}
    {f__law_chain : Addr} {od__law_chain an__law_chain : Option Addr} {sl__law_chain : Array (Option Value)} {oc__law_chain kV__law_chain dc__law_chain pm__law_chain cd__law_chain ct__law_chain : Value}
    {f__law_whole : Addr} {od__law_whole an__law_whole : Option Addr} {sl__law_whole : Array (Option Value)} {oc__law_whole kV__law_whole dc__law_whole pm__law_whole cd__law_whole ct__law_whole : Value}
    {f__law_order : Addr} {od__law_order an__law_order : Option Addr} {sl__law_order : Array (Option Value)} {oc__law_order kV__law_order dc__law_order pm__law_order cd__law_order ct__law_order : Value}
    {f__law_raised : Addr} {od__law_raised an__law_raised : Option Addr} {sl__law_raised : Array (Option Value)} {oc__law_raised kV__law_raised dc__law_raised pm__law_raised cd__law_raised ct__law_raised : Value}
    {f__law_rises : Addr} {od__law_rises an__law_rises : Option Addr} {sl__law_rises : Array (Option Value)} {oc__law_rises kV__law_rises dc__law_rises pm__law_rises cd__law_rises ct__law_rises : Value}
    {f__law_groups : Addr} {od__law_groups an__law_groups : Option Addr} {sl__law_groups : Array (Option Value)} {oc__law_groups kV__law_groups dc__law_groups pm__law_groups cd__law_groups ct__law_groups : Value}
    {f__law_subsets : Addr} {od__law_subsets an__law_subsets : Option Addr} {sl__law_subsets : Array (Option Value)} {oc__law_subsets kV__law_subsets dc__law_subsets pm__law_subsets cd__law_subsets ct__law_subsets : Value}
    {f__law_table : Addr} {od__law_table an__law_table : Option Addr} {sl__law_table : Array (Option Value)} {oc__law_table kV__law_table dc__law_table pm__law_table cd__law_table ct__law_table : Value}
    {f_hook_product : Addr} {od_hook_product an_hook_product : Option Addr} {sl_hook_product : Array (Option Value)} {oc_hook_product kV_hook_product dc_hook_product pm_hook_product cd_hook_product ct_hook_product : Value}
    {f_standard_count : Addr} {od_standard_count an_standard_count : Option Addr} {sl_standard_count : Array (Option Value)} {oc_standard_count kV_standard_count dc_standard_count pm_standard_count cd_standard_count ct_standard_count : Value}
    {f_standard_fillings : Addr} {od_standard_fillings an_standard_fillings : Option Addr} {sl_standard_fillings : Array (Option Value)} {oc_standard_fillings kV_standard_fillings dc_standard_fillings pm_standard_fillings cd_standard_fillings ct_standard_fillings : Value}
    {f__law_choices_of : Addr} {od__law_choices_of an__law_choices_of : Option Addr} {sl__law_choices_of : Array (Option Value)} {oc__law_choices_of kV__law_choices_of dc__law_choices_of pm__law_choices_of cd__law_choices_of ct__law_choices_of : Value}
    {f__law_great_right : Addr} {od__law_great_right an__law_great_right : Option Addr} {sl__law_great_right : Array (Option Value)} {oc__law_great_right kV__law_great_right dc__law_great_right pm__law_great_right cd__law_great_right ct__law_great_right : Value}
    {f__law_equal_chain : Addr} {od__law_equal_chain an__law_equal_chain : Option Addr} {sl__law_equal_chain : Array (Option Value)} {oc__law_equal_chain kV__law_equal_chain dc__law_equal_chain pm__law_equal_chain cd__law_equal_chain ct__law_equal_chain : Value}
    {f__law_equal_right : Addr} {od__law_equal_right an__law_equal_right : Option Addr} {sl__law_equal_right : Array (Option Value)} {oc__law_equal_right kV__law_equal_right dc__law_equal_right pm__law_equal_right cd__law_equal_right ct__law_equal_right : Value}
    {f_law : Addr} {od_law an_law : Option Addr} {sl_law : Array (Option Value)} {oc_law kV_law dc_law pm_law cd_law ct_law : Value}
    {t_MAX_KEPT : Tok}
    {t_MAX_SQUARES : Tok}
    {t_MOST_HOOKED : Tok}
    {t_MOST_PLACES : Tok}
    {t_MOST_RINGS : Tok}
    {t_MOST_SIDE : Tok}
    (a_order_in : PySem.W.nsIn K mainGlobals "order_in" = some (some (.ref f_order_in)))
    (l_order_in : K.lookup f_order_in = some ⟨oc_order_in, od_order_in, .func (PySem.W.fnOf "order_in" "order_in" (defArgs st_order_in) (defBody st_order_in) (defScope st_order_in) .none kV_order_in dc_order_in pm_order_in an_order_in cd_order_in ct_order_in), sl_order_in⟩)
    (d_order_in : PySem.W.codeIn K cd_order_in "order_in" = true)
    (e_order_in : PySem.W.keepIn K (.ref f_order_in) = true)
    (a_with_columns : PySem.W.nsIn K mainGlobals "with_columns" = some (some (.ref f_with_columns)))
    (l_with_columns : K.lookup f_with_columns = some ⟨oc_with_columns, od_with_columns, .func (PySem.W.fnOf "with_columns" "with_columns" (defArgs st_with_columns) (defBody st_with_columns) (defScope st_with_columns) .none kV_with_columns dc_with_columns pm_with_columns an_with_columns cd_with_columns ct_with_columns), sl_with_columns⟩)
    (d_with_columns : PySem.W.codeIn K cd_with_columns "with_columns" = true)
    (e_with_columns : PySem.W.keepIn K (.ref f_with_columns) = true)
    (a_addable_columns : PySem.W.nsIn K mainGlobals "addable_columns" = some (some (.ref f_addable_columns)))
    (l_addable_columns : K.lookup f_addable_columns = some ⟨oc_addable_columns, od_addable_columns, .func (PySem.W.fnOf "addable_columns" "addable_columns" (defArgs st_addable_columns) (defBody st_addable_columns) (defScope st_addable_columns) .none kV_addable_columns dc_addable_columns pm_addable_columns an_addable_columns cd_addable_columns ct_addable_columns), sl_addable_columns⟩)
    (d_addable_columns : PySem.W.codeIn K cd_addable_columns "addable_columns" = true)
    (e_addable_columns : PySem.W.keepIn K (.ref f_addable_columns) = true)
    (a_free_columns : PySem.W.nsIn K mainGlobals "free_columns" = some (some (.ref f_free_columns)))
    (l_free_columns : K.lookup f_free_columns = some ⟨oc_free_columns, od_free_columns, .func (PySem.W.fnOf "free_columns" "free_columns" (defArgs st_free_columns) (defBody st_free_columns) (defScope st_free_columns) .none kV_free_columns dc_free_columns pm_free_columns an_free_columns cd_free_columns ct_free_columns), sl_free_columns⟩)
    (d_free_columns : PySem.W.codeIn K cd_free_columns "free_columns" = true)
    (e_free_columns : PySem.W.keepIn K (.ref f_free_columns) = true)
    (a_let_columns : PySem.W.nsIn K mainGlobals "let_columns" = some (some (.ref f_let_columns)))
    (l_let_columns : K.lookup f_let_columns = some ⟨oc_let_columns, od_let_columns, .func (PySem.W.fnOf "let_columns" "let_columns" (defArgs st_let_columns) (defBody st_let_columns) (defScope st_let_columns) .none kV_let_columns dc_let_columns pm_let_columns an_let_columns cd_let_columns ct_let_columns), sl_let_columns⟩)
    (d_let_columns : PySem.W.codeIn K cd_let_columns "let_columns" = true)
    (e_let_columns : PySem.W.keepIn K (.ref f_let_columns) = true)
    (a_fewest_letters_in : PySem.W.nsIn K mainGlobals "fewest_letters_in" = some (some (.ref f_fewest_letters_in)))
    (l_fewest_letters_in : K.lookup f_fewest_letters_in = some ⟨oc_fewest_letters_in, od_fewest_letters_in, .func (PySem.W.fnOf "fewest_letters_in" "fewest_letters_in" (defArgs st_fewest_letters_in) (defBody st_fewest_letters_in) (defScope st_fewest_letters_in) .none kV_fewest_letters_in dc_fewest_letters_in pm_fewest_letters_in an_fewest_letters_in cd_fewest_letters_in ct_fewest_letters_in), sl_fewest_letters_in⟩)
    (d_fewest_letters_in : PySem.W.codeIn K cd_fewest_letters_in "fewest_letters_in" = true)
    (e_fewest_letters_in : PySem.W.keepIn K (.ref f_fewest_letters_in) = true)
    (a_is_whole : PySem.W.nsIn K mainGlobals "is_whole" = some (some (.ref f_is_whole)))
    (l_is_whole : K.lookup f_is_whole = some ⟨oc_is_whole, od_is_whole, .func (PySem.W.fnOf "is_whole" "is_whole" (defArgs st_is_whole) (defBody st_is_whole) (defScope st_is_whole) .none kV_is_whole dc_is_whole pm_is_whole an_is_whole cd_is_whole ct_is_whole), sl_is_whole⟩)
    (d_is_whole : PySem.W.codeIn K cd_is_whole "is_whole" = true)
    (e_is_whole : PySem.W.keepIn K (.ref f_is_whole) = true)
    (a_is_within : PySem.W.nsIn K mainGlobals "is_within" = some (some (.ref f_is_within)))
    (l_is_within : K.lookup f_is_within = some ⟨oc_is_within, od_is_within, .func (PySem.W.fnOf "is_within" "is_within" (defArgs st_is_within) (defBody st_is_within) (defScope st_is_within) .none kV_is_within dc_is_within pm_is_within an_is_within cd_is_within ct_is_within), sl_is_within⟩)
    (d_is_within : PySem.W.codeIn K cd_is_within "is_within" = true)
    (e_is_within : PySem.W.keepIn K (.ref f_is_within) = true)
    (a_is_ring_in : PySem.W.nsIn K mainGlobals "is_ring_in" = some (some (.ref f_is_ring_in)))
    (l_is_ring_in : K.lookup f_is_ring_in = some ⟨oc_is_ring_in, od_is_ring_in, .func (PySem.W.fnOf "is_ring_in" "is_ring_in" (defArgs st_is_ring_in) (defBody st_is_ring_in) (defScope st_is_ring_in) .none kV_is_ring_in dc_is_ring_in pm_is_ring_in an_is_ring_in cd_is_ring_in ct_is_ring_in), sl_is_ring_in⟩)
    (d_is_ring_in : PySem.W.codeIn K cd_is_ring_in "is_ring_in" = true)
    (e_is_ring_in : PySem.W.keepIn K (.ref f_is_ring_in) = true)
    (a_is_chain_in : PySem.W.nsIn K mainGlobals "is_chain_in" = some (some (.ref f_is_chain_in)))
    (l_is_chain_in : K.lookup f_is_chain_in = some ⟨oc_is_chain_in, od_is_chain_in, .func (PySem.W.fnOf "is_chain_in" "is_chain_in" (defArgs st_is_chain_in) (defBody st_is_chain_in) (defScope st_is_chain_in) .none kV_is_chain_in dc_is_chain_in pm_is_chain_in an_is_chain_in cd_is_chain_in ct_is_chain_in), sl_is_chain_in⟩)
    (d_is_chain_in : PySem.W.codeIn K cd_is_chain_in "is_chain_in" = true)
    (e_is_chain_in : PySem.W.keepIn K (.ref f_is_chain_in) = true)
    (a_require_chain : PySem.W.nsIn K mainGlobals "require_chain" = some (some (.ref f_require_chain)))
    (l_require_chain : K.lookup f_require_chain = some ⟨oc_require_chain, od_require_chain, .func (PySem.W.fnOf "require_chain" "require_chain" (defArgs st_require_chain) (defBody st_require_chain) (defScope st_require_chain) .none kV_require_chain dc_require_chain pm_require_chain an_require_chain cd_require_chain ct_require_chain), sl_require_chain⟩)
    (d_require_chain : PySem.W.codeIn K cd_require_chain "require_chain" = true)
    (e_require_chain : PySem.W.keepIn K (.ref f_require_chain) = true)
    (a_is_heap_in : PySem.W.nsIn K mainGlobals "is_heap_in" = some (some (.ref f_is_heap_in)))
    (l_is_heap_in : K.lookup f_is_heap_in = some ⟨oc_is_heap_in, od_is_heap_in, .func (PySem.W.fnOf "is_heap_in" "is_heap_in" (defArgs st_is_heap_in) (defBody st_is_heap_in) (defScope st_is_heap_in) .none kV_is_heap_in dc_is_heap_in pm_is_heap_in an_is_heap_in cd_is_heap_in ct_is_heap_in), sl_is_heap_in⟩)
    (d_is_heap_in : PySem.W.codeIn K cd_is_heap_in "is_heap_in" = true)
    (e_is_heap_in : PySem.W.keepIn K (.ref f_is_heap_in) = true)
    (a_require_heap : PySem.W.nsIn K mainGlobals "require_heap" = some (some (.ref f_require_heap)))
    (l_require_heap : K.lookup f_require_heap = some ⟨oc_require_heap, od_require_heap, .func (PySem.W.fnOf "require_heap" "require_heap" (defArgs st_require_heap) (defBody st_require_heap) (defScope st_require_heap) .none kV_require_heap dc_require_heap pm_require_heap an_require_heap cd_require_heap ct_require_heap), sl_require_heap⟩)
    (d_require_heap : PySem.W.codeIn K cd_require_heap "require_heap" = true)
    (e_require_heap : PySem.W.keepIn K (.ref f_require_heap) = true)
    (a_require_filled : PySem.W.nsIn K mainGlobals "require_filled" = some (some (.ref f_require_filled)))
    (l_require_filled : K.lookup f_require_filled = some ⟨oc_require_filled, od_require_filled, .func (PySem.W.fnOf "require_filled" "require_filled" (defArgs st_require_filled) (defBody st_require_filled) (defScope st_require_filled) .none kV_require_filled dc_require_filled pm_require_filled an_require_filled cd_require_filled ct_require_filled), sl_require_filled⟩)
    (d_require_filled : PySem.W.codeIn K cd_require_filled "require_filled" = true)
    (e_require_filled : PySem.W.keepIn K (.ref f_require_filled) = true)
    (a_fewest_letters : PySem.W.nsIn K mainGlobals "fewest_letters" = some (some (.ref f_fewest_letters)))
    (l_fewest_letters : K.lookup f_fewest_letters = some ⟨oc_fewest_letters, od_fewest_letters, .func (PySem.W.fnOf "fewest_letters" "fewest_letters" (defArgs st_fewest_letters) (defBody st_fewest_letters) (defScope st_fewest_letters) .none kV_fewest_letters dc_fewest_letters pm_fewest_letters an_fewest_letters cd_fewest_letters ct_fewest_letters), sl_fewest_letters⟩)
    (d_fewest_letters : PySem.W.codeIn K cd_fewest_letters "fewest_letters" = true)
    (e_fewest_letters : PySem.W.keepIn K (.ref f_fewest_letters) = true)
    (a_some_columns : PySem.W.nsIn K mainGlobals "some_columns" = some (some (.ref f_some_columns)))
    (l_some_columns : K.lookup f_some_columns = some ⟨oc_some_columns, od_some_columns, .func (PySem.W.fnOf "some_columns" "some_columns" (defArgs st_some_columns) (defBody st_some_columns) (defScope st_some_columns) .none kV_some_columns dc_some_columns pm_some_columns an_some_columns cd_some_columns ct_some_columns), sl_some_columns⟩)
    (d_some_columns : PySem.W.codeIn K cd_some_columns "some_columns" = true)
    (e_some_columns : PySem.W.keepIn K (.ref f_some_columns) = true)
    (a_fillings_count_in : PySem.W.nsIn K mainGlobals "fillings_count_in" = some (some (.ref f_fillings_count_in)))
    (l_fillings_count_in : K.lookup f_fillings_count_in = some ⟨oc_fillings_count_in, od_fillings_count_in, .func (PySem.W.fnOf "fillings_count_in" "fillings_count_in" (defArgs st_fillings_count_in) (defBody st_fillings_count_in) (defScope st_fillings_count_in) .none kV_fillings_count_in dc_fillings_count_in pm_fillings_count_in an_fillings_count_in cd_fillings_count_in ct_fillings_count_in), sl_fillings_count_in⟩)
    (d_fillings_count_in : PySem.W.codeIn K cd_fillings_count_in "fillings_count_in" = true)
    (e_fillings_count_in : PySem.W.keepIn K (.ref f_fillings_count_in) = true)
    (a_fillings_count : PySem.W.nsIn K mainGlobals "fillings_count" = some (some (.ref f_fillings_count)))
    (l_fillings_count : K.lookup f_fillings_count = some ⟨oc_fillings_count, od_fillings_count, .func (PySem.W.fnOf "fillings_count" "fillings_count" (defArgs st_fillings_count) (defBody st_fillings_count) (defScope st_fillings_count) .none kV_fillings_count dc_fillings_count pm_fillings_count an_fillings_count cd_fillings_count ct_fillings_count), sl_fillings_count⟩)
    (d_fillings_count : PySem.W.codeIn K cd_fillings_count "fillings_count" = true)
    (e_fillings_count : PySem.W.keepIn K (.ref f_fillings_count) = true)
    (a__law_dice : PySem.W.nsIn K mainGlobals "_law_dice" = some (some (.ref f__law_dice)))
    (l__law_dice : K.lookup f__law_dice = some ⟨oc__law_dice, od__law_dice, .func (PySem.W.fnOf "_law_dice" "_law_dice" (defArgs st__law_dice) (defBody st__law_dice) (defScope st__law_dice) .none kV__law_dice dc__law_dice pm__law_dice an__law_dice cd__law_dice ct__law_dice), sl__law_dice⟩)
    (d__law_dice : PySem.W.codeIn K cd__law_dice "_law_dice" = true)
    (e__law_dice : PySem.W.keepIn K (.ref f__law_dice) = true)
    (a__law_roll : PySem.W.nsIn K mainGlobals "_law_roll" = some (some (.ref f__law_roll)))
    (l__law_roll : K.lookup f__law_roll = some ⟨oc__law_roll, od__law_roll, .func (PySem.W.fnOf "_law_roll" "_law_roll" (defArgs st__law_roll) (defBody st__law_roll) (defScope st__law_roll) .none kV__law_roll dc__law_roll pm__law_roll an__law_roll cd__law_roll ct__law_roll), sl__law_roll⟩)
    (d__law_roll : PySem.W.codeIn K cd__law_roll "_law_roll" = true)
    (e__law_roll : PySem.W.keepIn K (.ref f__law_roll) = true)
    (a__law_ring : PySem.W.nsIn K mainGlobals "_law_ring" = some (some (.ref f__law_ring)))
    (l__law_ring : K.lookup f__law_ring = some ⟨oc__law_ring, od__law_ring, .func (PySem.W.fnOf "_law_ring" "_law_ring" (defArgs st__law_ring) (defBody st__law_ring) (defScope st__law_ring) .none kV__law_ring dc__law_ring pm__law_ring an__law_ring cd__law_ring ct__law_ring), sl__law_ring⟩)
    (d__law_ring : PySem.W.codeIn K cd__law_ring "_law_ring" = true)
    (e__law_ring : PySem.W.keepIn K (.ref f__law_ring) = true)
    (a__law_one_of : PySem.W.nsIn K mainGlobals "_law_one_of" = some (some (.ref f__law_one_of)))
    (l__law_one_of : K.lookup f__law_one_of = some ⟨oc__law_one_of, od__law_one_of, .func (PySem.W.fnOf "_law_one_of" "_law_one_of" (defArgs st__law_one_of) (defBody st__law_one_of) (defScope st__law_one_of) .none kV__law_one_of dc__law_one_of pm__law_one_of an__law_one_of cd__law_one_of ct__law_one_of), sl__law_one_of⟩)
    (d__law_one_of : PySem.W.codeIn K cd__law_one_of "_law_one_of" = true)
    (e__law_one_of : PySem.W.keepIn K (.ref f__law_one_of) = true)
    (a__law_common : PySem.W.nsIn K mainGlobals "_law_common" = some (some (.ref f__law_common)))
    (l__law_common : K.lookup f__law_common = some ⟨oc__law_common, od__law_common, .func (PySem.W.fnOf "_law_common" "_law_common" (defArgs st__law_common) (defBody st__law_common) (defScope st__law_common) .none kV__law_common dc__law_common pm__law_common an__law_common cd__law_common ct__law_common), sl__law_common⟩)
    (d__law_common : PySem.W.codeIn K cd__law_common "_law_common" = true)
    (e__law_common : PySem.W.keepIn K (.ref f__law_common) = true)
    (a__law_ring_of : PySem.W.nsIn K mainGlobals "_law_ring_of" = some (some (.ref f__law_ring_of)))
    (l__law_ring_of : K.lookup f__law_ring_of = some ⟨oc__law_ring_of, od__law_ring_of, .func (PySem.W.fnOf "_law_ring_of" "_law_ring_of" (defArgs st__law_ring_of) (defBody st__law_ring_of) (defScope st__law_ring_of) .none kV__law_ring_of dc__law_ring_of pm__law_ring_of an__law_ring_of cd__law_ring_of ct__law_ring_of), sl__law_ring_of⟩)
    (d__law_ring_of : PySem.W.codeIn K cd__law_ring_of "_law_ring_of" = true)
    (e__law_ring_of : PySem.W.keepIn K (.ref f__law_ring_of) = true)
    (a__law_chain : PySem.W.nsIn K mainGlobals "_law_chain" = some (some (.ref f__law_chain)))
    (l__law_chain : K.lookup f__law_chain = some ⟨oc__law_chain, od__law_chain, .func (PySem.W.fnOf "_law_chain" "_law_chain" (defArgs st__law_chain) (defBody st__law_chain) (defScope st__law_chain) .none kV__law_chain dc__law_chain pm__law_chain an__law_chain cd__law_chain ct__law_chain), sl__law_chain⟩)
    (d__law_chain : PySem.W.codeIn K cd__law_chain "_law_chain" = true)
    (e__law_chain : PySem.W.keepIn K (.ref f__law_chain) = true)
    (a__law_whole : PySem.W.nsIn K mainGlobals "_law_whole" = some (some (.ref f__law_whole)))
    (l__law_whole : K.lookup f__law_whole = some ⟨oc__law_whole, od__law_whole, .func (PySem.W.fnOf "_law_whole" "_law_whole" (defArgs st__law_whole) (defBody st__law_whole) (defScope st__law_whole) .none kV__law_whole dc__law_whole pm__law_whole an__law_whole cd__law_whole ct__law_whole), sl__law_whole⟩)
    (d__law_whole : PySem.W.codeIn K cd__law_whole "_law_whole" = true)
    (e__law_whole : PySem.W.keepIn K (.ref f__law_whole) = true)
    (a__law_order : PySem.W.nsIn K mainGlobals "_law_order" = some (some (.ref f__law_order)))
    (l__law_order : K.lookup f__law_order = some ⟨oc__law_order, od__law_order, .func (PySem.W.fnOf "_law_order" "_law_order" (defArgs st__law_order) (defBody st__law_order) (defScope st__law_order) .none kV__law_order dc__law_order pm__law_order an__law_order cd__law_order ct__law_order), sl__law_order⟩)
    (d__law_order : PySem.W.codeIn K cd__law_order "_law_order" = true)
    (e__law_order : PySem.W.keepIn K (.ref f__law_order) = true)
    (a__law_raised : PySem.W.nsIn K mainGlobals "_law_raised" = some (some (.ref f__law_raised)))
    (l__law_raised : K.lookup f__law_raised = some ⟨oc__law_raised, od__law_raised, .func (PySem.W.fnOf "_law_raised" "_law_raised" (defArgs st__law_raised) (defBody st__law_raised) (defScope st__law_raised) .none kV__law_raised dc__law_raised pm__law_raised an__law_raised cd__law_raised ct__law_raised), sl__law_raised⟩)
    (d__law_raised : PySem.W.codeIn K cd__law_raised "_law_raised" = true)
    (e__law_raised : PySem.W.keepIn K (.ref f__law_raised) = true)
    (a__law_rises : PySem.W.nsIn K mainGlobals "_law_rises" = some (some (.ref f__law_rises)))
    (l__law_rises : K.lookup f__law_rises = some ⟨oc__law_rises, od__law_rises, .func (PySem.W.fnOf "_law_rises" "_law_rises" (defArgs st__law_rises) (defBody st__law_rises) (defScope st__law_rises) .none kV__law_rises dc__law_rises pm__law_rises an__law_rises cd__law_rises ct__law_rises), sl__law_rises⟩)
    (d__law_rises : PySem.W.codeIn K cd__law_rises "_law_rises" = true)
    (e__law_rises : PySem.W.keepIn K (.ref f__law_rises) = true)
    (a__law_groups : PySem.W.nsIn K mainGlobals "_law_groups" = some (some (.ref f__law_groups)))
    (l__law_groups : K.lookup f__law_groups = some ⟨oc__law_groups, od__law_groups, .func (PySem.W.fnOf "_law_groups" "_law_groups" (defArgs st__law_groups) (defBody st__law_groups) (defScope st__law_groups) .none kV__law_groups dc__law_groups pm__law_groups an__law_groups cd__law_groups ct__law_groups), sl__law_groups⟩)
    (d__law_groups : PySem.W.codeIn K cd__law_groups "_law_groups" = true)
    (e__law_groups : PySem.W.keepIn K (.ref f__law_groups) = true)
    (a__law_subsets : PySem.W.nsIn K mainGlobals "_law_subsets" = some (some (.ref f__law_subsets)))
    (l__law_subsets : K.lookup f__law_subsets = some ⟨oc__law_subsets, od__law_subsets, .func (PySem.W.fnOf "_law_subsets" "_law_subsets" (defArgs st__law_subsets) (defBody st__law_subsets) (defScope st__law_subsets) .none kV__law_subsets dc__law_subsets pm__law_subsets an__law_subsets cd__law_subsets ct__law_subsets), sl__law_subsets⟩)
    (d__law_subsets : PySem.W.codeIn K cd__law_subsets "_law_subsets" = true)
    (e__law_subsets : PySem.W.keepIn K (.ref f__law_subsets) = true)
    (a__law_table : PySem.W.nsIn K mainGlobals "_law_table" = some (some (.ref f__law_table)))
    (l__law_table : K.lookup f__law_table = some ⟨oc__law_table, od__law_table, .func (PySem.W.fnOf "_law_table" "_law_table" (defArgs st__law_table) (defBody st__law_table) (defScope st__law_table) .none kV__law_table dc__law_table pm__law_table an__law_table cd__law_table ct__law_table), sl__law_table⟩)
    (d__law_table : PySem.W.codeIn K cd__law_table "_law_table" = true)
    (e__law_table : PySem.W.keepIn K (.ref f__law_table) = true)
    (a_hook_product : PySem.W.nsIn K mainGlobals "hook_product" = some (some (.ref f_hook_product)))
    (l_hook_product : K.lookup f_hook_product = some ⟨oc_hook_product, od_hook_product, .func (PySem.W.fnOf "hook_product" "hook_product" (defArgs st_hook_product) (defBody st_hook_product) (defScope st_hook_product) .none kV_hook_product dc_hook_product pm_hook_product an_hook_product cd_hook_product ct_hook_product), sl_hook_product⟩)
    (d_hook_product : PySem.W.codeIn K cd_hook_product "hook_product" = true)
    (e_hook_product : PySem.W.keepIn K (.ref f_hook_product) = true)
    (a_standard_count : PySem.W.nsIn K mainGlobals "standard_count" = some (some (.ref f_standard_count)))
    (l_standard_count : K.lookup f_standard_count = some ⟨oc_standard_count, od_standard_count, .func (PySem.W.fnOf "standard_count" "standard_count" (defArgs st_standard_count) (defBody st_standard_count) (defScope st_standard_count) .none kV_standard_count dc_standard_count pm_standard_count an_standard_count cd_standard_count ct_standard_count), sl_standard_count⟩)
    (d_standard_count : PySem.W.codeIn K cd_standard_count "standard_count" = true)
    (e_standard_count : PySem.W.keepIn K (.ref f_standard_count) = true)
    (a_standard_fillings : PySem.W.nsIn K mainGlobals "standard_fillings" = some (some (.ref f_standard_fillings)))
    (l_standard_fillings : K.lookup f_standard_fillings = some ⟨oc_standard_fillings, od_standard_fillings, .func (PySem.W.fnOf "standard_fillings" "standard_fillings" (defArgs st_standard_fillings) (defBody st_standard_fillings) (defScope st_standard_fillings) .none kV_standard_fillings dc_standard_fillings pm_standard_fillings an_standard_fillings cd_standard_fillings ct_standard_fillings), sl_standard_fillings⟩)
    (d_standard_fillings : PySem.W.codeIn K cd_standard_fillings "standard_fillings" = true)
    (e_standard_fillings : PySem.W.keepIn K (.ref f_standard_fillings) = true)
    (a__law_choices_of : PySem.W.nsIn K mainGlobals "_law_choices_of" = some (some (.ref f__law_choices_of)))
    (l__law_choices_of : K.lookup f__law_choices_of = some ⟨oc__law_choices_of, od__law_choices_of, .func (PySem.W.fnOf "_law_choices_of" "_law_choices_of" (defArgs st__law_choices_of) (defBody st__law_choices_of) (defScope st__law_choices_of) .none kV__law_choices_of dc__law_choices_of pm__law_choices_of an__law_choices_of cd__law_choices_of ct__law_choices_of), sl__law_choices_of⟩)
    (d__law_choices_of : PySem.W.codeIn K cd__law_choices_of "_law_choices_of" = true)
    (e__law_choices_of : PySem.W.keepIn K (.ref f__law_choices_of) = true)
    (a__law_great_right : PySem.W.nsIn K mainGlobals "_law_great_right" = some (some (.ref f__law_great_right)))
    (l__law_great_right : K.lookup f__law_great_right = some ⟨oc__law_great_right, od__law_great_right, .func (PySem.W.fnOf "_law_great_right" "_law_great_right" (defArgs st__law_great_right) (defBody st__law_great_right) (defScope st__law_great_right) .none kV__law_great_right dc__law_great_right pm__law_great_right an__law_great_right cd__law_great_right ct__law_great_right), sl__law_great_right⟩)
    (d__law_great_right : PySem.W.codeIn K cd__law_great_right "_law_great_right" = true)
    (e__law_great_right : PySem.W.keepIn K (.ref f__law_great_right) = true)
    (a__law_equal_chain : PySem.W.nsIn K mainGlobals "_law_equal_chain" = some (some (.ref f__law_equal_chain)))
    (l__law_equal_chain : K.lookup f__law_equal_chain = some ⟨oc__law_equal_chain, od__law_equal_chain, .func (PySem.W.fnOf "_law_equal_chain" "_law_equal_chain" (defArgs st__law_equal_chain) (defBody st__law_equal_chain) (defScope st__law_equal_chain) .none kV__law_equal_chain dc__law_equal_chain pm__law_equal_chain an__law_equal_chain cd__law_equal_chain ct__law_equal_chain), sl__law_equal_chain⟩)
    (d__law_equal_chain : PySem.W.codeIn K cd__law_equal_chain "_law_equal_chain" = true)
    (e__law_equal_chain : PySem.W.keepIn K (.ref f__law_equal_chain) = true)
    (a__law_equal_right : PySem.W.nsIn K mainGlobals "_law_equal_right" = some (some (.ref f__law_equal_right)))
    (l__law_equal_right : K.lookup f__law_equal_right = some ⟨oc__law_equal_right, od__law_equal_right, .func (PySem.W.fnOf "_law_equal_right" "_law_equal_right" (defArgs st__law_equal_right) (defBody st__law_equal_right) (defScope st__law_equal_right) .none kV__law_equal_right dc__law_equal_right pm__law_equal_right an__law_equal_right cd__law_equal_right ct__law_equal_right), sl__law_equal_right⟩)
    (d__law_equal_right : PySem.W.codeIn K cd__law_equal_right "_law_equal_right" = true)
    (e__law_equal_right : PySem.W.keepIn K (.ref f__law_equal_right) = true)
    (a_law : PySem.W.nsIn K mainGlobals "law" = some (some (.ref f_law)))
    (l_law : K.lookup f_law = some ⟨oc_law, od_law, .func (PySem.W.fnOf "law" "law" (defArgs st_law) (defBody st_law) (defScope st_law) .none kV_law dc_law pm_law an_law cd_law ct_law), sl_law⟩)
    (d_law : PySem.W.codeIn K cd_law "law" = true)
    (e_law : PySem.W.keepIn K (.ref f_law) = true)
    (z_abs : PySem.W.nsIn K mainGlobals "abs" = some none)
    (z_all : PySem.W.nsIn K mainGlobals "all" = some none)
    (z_bool : PySem.W.nsIn K mainGlobals "bool" = some none)
    (z_dict : PySem.W.nsIn K mainGlobals "dict" = some none)
    (z_enumerate : PySem.W.nsIn K mainGlobals "enumerate" = some none)
    (z_int : PySem.W.nsIn K mainGlobals "int" = some none)
    (z_isinstance : PySem.W.nsIn K mainGlobals "isinstance" = some none)
    (z_len : PySem.W.nsIn K mainGlobals "len" = some none)
    (z_list : PySem.W.nsIn K mainGlobals "list" = some none)
    (z_max : PySem.W.nsIn K mainGlobals "max" = some none)
    (z_min : PySem.W.nsIn K mainGlobals "min" = some none)
    (z_range : PySem.W.nsIn K mainGlobals "range" = some none)
    (z_sorted : PySem.W.nsIn K mainGlobals "sorted" = some none)
    (z_sum : PySem.W.nsIn K mainGlobals "sum" = some none)
    (z_tuple : PySem.W.nsIn K mainGlobals "tuple" = some none)
    (z_zip : PySem.W.nsIn K mainGlobals "zip" = some none)
    (z_MAX_KEPT : PySem.W.nsIn K mainGlobals "MAX_KEPT" = some (some (.int (1000) t_MAX_KEPT)))
    (z_MAX_SQUARES : PySem.W.nsIn K mainGlobals "MAX_SQUARES" = some (some (.int (42) t_MAX_SQUARES)))
    (z_MOST_HOOKED : PySem.W.nsIn K mainGlobals "MOST_HOOKED" = some (some (.int (200) t_MOST_HOOKED)))
    (z_MOST_PLACES : PySem.W.nsIn K mainGlobals "MOST_PLACES" = some (some (.int (60) t_MOST_PLACES)))
    (z_MOST_RINGS : PySem.W.nsIn K mainGlobals "MOST_RINGS" = some (some (.int (12) t_MOST_RINGS)))
    (z_MOST_SIDE : PySem.W.nsIn K mainGlobals "MOST_SIDE" = some (some (.int (60) t_MOST_SIDE)))
    (z_fac : PySem.W.nsIn K mainGlobals "factorial" = some (some (.builtin "math.factorial")))
    (z_gcd : PySem.W.nsIn K mainGlobals "gcd" = some (some (.builtin "math.gcd")))
    (law_true : ∀ ns : List Int, ns.length ≤ 63 → m_law [.lst (ns.map D.int)] [] = some (.ok (.bl true) [])) :
    LawG PySem.Challenge.pw_ringstairs_k47_whole_fillings_counted w K 9 63 "_law_script" mg fa h := by
  have e := hfa.symm.trans (PySem.W.mg_of X G a_law)
  cases e
  have T : Tops PySem.Challenge.pw_ringstairs_k47_whole_fillings_counted K mg := ⟨PySem.W.mg_none_of X G z_abs, PySem.W.mg_none_of X G z_all, PySem.W.mg_none_of X G z_bool, PySem.W.mg_none_of X G z_dict, PySem.W.mg_none_of X G z_enumerate, PySem.W.mg_none_of X G z_int, PySem.W.mg_none_of X G z_isinstance, PySem.W.mg_none_of X G z_len, PySem.W.mg_none_of X G z_list, PySem.W.mg_none_of X G z_max, PySem.W.mg_none_of X G z_min, PySem.W.mg_none_of X G z_range, PySem.W.mg_none_of X G z_sorted, PySem.W.mg_none_of X G z_sum, PySem.W.mg_none_of X G z_tuple, PySem.W.mg_none_of X G z_zip, ⟨_, PySem.W.mg_of X G z_MAX_KEPT⟩, ⟨_, PySem.W.mg_of X G z_MAX_SQUARES⟩, ⟨_, PySem.W.mg_of X G z_MOST_HOOKED⟩, ⟨_, PySem.W.mg_of X G z_MOST_PLACES⟩, ⟨_, PySem.W.mg_of X G z_MOST_RINGS⟩, ⟨_, PySem.W.mg_of X G z_MOST_SIDE⟩, PySem.W.mg_of X G z_fac, PySem.W.mg_of X G z_gcd⟩
  have F_order_in := fun_mk (st := st_order_in) l_order_in d_order_in e_order_in
  have B_order_in := F_order_in.binds (ps := ["ring"]) fun _ _ _ _ _ _ us hl => match us, hl with | [_], _ => rfl
  have c_order_in := fun (base : Heap) (tb : ∀ p ∈ ([] : List (Addr × Addr)), LamX.TabB base mg p.1 p.2) => k_order_in (w := w) (base := base) T F_order_in (PySem.W.mg_of X G a_order_in) B_order_in 
  have F_with_columns := fun_mk (st := st_with_columns) l_with_columns d_with_columns e_with_columns
  have B_with_columns := F_with_columns.binds (ps := ["heap", "part", "columns"]) fun _ _ _ _ _ _ us hl => match us, hl with | [_, _, _], _ => rfl
  have c_with_columns := fun (base : Heap) (tb : ∀ p ∈ ([] : List (Addr × Addr)), LamX.TabB base mg p.1 p.2) => k_with_columns (w := w) (base := base) T F_with_columns (PySem.W.mg_of X G a_with_columns) B_with_columns 
  have F_addable_columns := fun_mk (st := st_addable_columns) l_addable_columns d_addable_columns e_addable_columns
  have B_addable_columns := F_addable_columns.binds (ps := ["heap"]) fun _ _ _ _ _ _ us hl => match us, hl with | [_], _ => rfl
  have c_addable_columns := fun (base : Heap) (tb : ∀ p ∈ ([] : List (Addr × Addr)), LamX.TabB base mg p.1 p.2) => k_addable_columns (w := w) (base := base) T F_addable_columns (PySem.W.mg_of X G a_addable_columns) B_addable_columns 
  have F_free_columns := fun_mk (st := st_free_columns) l_free_columns d_free_columns e_free_columns
  have B_free_columns := F_free_columns.binds (ps := ["heap", "part"]) fun _ _ _ _ _ _ us hl => match us, hl with | [_, _], _ => rfl
  have c_free_columns := fun (base : Heap) (tb : ∀ p ∈ ([] : List (Addr × Addr)), LamX.TabB base mg p.1 p.2) => k_free_columns (w := w) (base := base) T F_free_columns (PySem.W.mg_of X G a_free_columns) B_free_columns (c_addable_columns base tb)
  have F_let_columns := fun_mk (st := st_let_columns) l_let_columns d_let_columns e_let_columns
  have B_let_columns := F_let_columns.binds (ps := ["heap", "part", "order"]) fun _ _ _ _ _ _ us hl => match us, hl with | [_, _, _], _ => rfl
  have c_let_columns := fun (base : Heap) (tb : ∀ p ∈ ([] : List (Addr × Addr)), LamX.TabB base mg p.1 p.2) => k_let_columns (w := w) (base := base) T F_let_columns (PySem.W.mg_of X G a_let_columns) B_let_columns (c_free_columns base tb)
  have F_fewest_letters_in := fun_mk (st := st_fewest_letters_in) l_fewest_letters_in d_fewest_letters_in e_fewest_letters_in
  have B_fewest_letters_in := F_fewest_letters_in.binds (ps := ["chain", "heap"]) fun _ _ _ _ _ _ us hl => match us, hl with | [_, _], _ => rfl
  have c_fewest_letters_in := fun (base : Heap) (tb : ∀ p ∈ ([] : List (Addr × Addr)), LamX.TabB base mg p.1 p.2) => k_fewest_letters_in (w := w) (base := base) T F_fewest_letters_in (PySem.W.mg_of X G a_fewest_letters_in) B_fewest_letters_in (c_order_in base tb) (c_with_columns base tb) (c_let_columns base tb)
  have F_is_whole := fun_mk (st := st_is_whole) l_is_whole d_is_whole e_is_whole
  have B_is_whole := F_is_whole.binds (ps := ["value"]) fun _ _ _ _ _ _ us hl => match us, hl with | [_], _ => rfl
  have c_is_whole := fun (base : Heap) (tb : ∀ p ∈ ([] : List (Addr × Addr)), LamX.TabB base mg p.1 p.2) => k_is_whole (w := w) (base := base) T F_is_whole (PySem.W.mg_of X G a_is_whole) B_is_whole 
  have F_is_within := fun_mk (st := st_is_within) l_is_within d_is_within e_is_within
  have B_is_within := F_is_within.binds (ps := ["value", "least", "most"]) fun _ _ _ _ _ _ us hl => match us, hl with | [_, _, _], _ => rfl
  have c_is_within := fun (base : Heap) (tb : ∀ p ∈ ([] : List (Addr × Addr)), LamX.TabB base mg p.1 p.2) => k_is_within (w := w) (base := base) T F_is_within (PySem.W.mg_of X G a_is_within) B_is_within (c_is_whole base tb)
  have F_is_ring_in := fun_mk (st := st_is_ring_in) l_is_ring_in d_is_ring_in e_is_ring_in
  have B_is_ring_in := F_is_ring_in.binds (ps := ["value"]) fun _ _ _ _ _ _ us hl => match us, hl with | [_], _ => rfl
  have c_is_ring_in := fun (base : Heap) (tb : ∀ p ∈ ([] : List (Addr × Addr)), LamX.TabB base mg p.1 p.2) => k_is_ring_in (w := w) (base := base) T F_is_ring_in (PySem.W.mg_of X G a_is_ring_in) B_is_ring_in (c_is_within base tb)
  have F_is_chain_in := fun_mk (st := st_is_chain_in) l_is_chain_in d_is_chain_in e_is_chain_in
  have B_is_chain_in := F_is_chain_in.binds (ps := ["value"]) fun _ _ _ _ _ _ us hl => match us, hl with | [_], _ => rfl
  have c_is_chain_in := fun (base : Heap) (tb : ∀ p ∈ ([] : List (Addr × Addr)), LamX.TabB base mg p.1 p.2) => k_is_chain_in (w := w) (base := base) T F_is_chain_in (PySem.W.mg_of X G a_is_chain_in) B_is_chain_in (c_is_ring_in base tb)
  have F_require_chain := fun_mk (st := st_require_chain) l_require_chain d_require_chain e_require_chain
  have B_require_chain := F_require_chain.binds (ps := ["value"]) fun _ _ _ _ _ _ us hl => match us, hl with | [_], _ => rfl
  have c_require_chain := fun (base : Heap) (tb : ∀ p ∈ ([] : List (Addr × Addr)), LamX.TabB base mg p.1 p.2) => k_require_chain (w := w) (base := base) T F_require_chain (PySem.W.mg_of X G a_require_chain) B_require_chain (c_is_chain_in base tb)
  have F_is_heap_in := fun_mk (st := st_is_heap_in) l_is_heap_in d_is_heap_in e_is_heap_in
  have B_is_heap_in := F_is_heap_in.binds (ps := ["value"]) fun _ _ _ _ _ _ us hl => match us, hl with | [_], _ => rfl
  have c_is_heap_in := fun (base : Heap) (tb : ∀ p ∈ ([] : List (Addr × Addr)), LamX.TabB base mg p.1 p.2) => k_is_heap_in (w := w) (base := base) T F_is_heap_in (PySem.W.mg_of X G a_is_heap_in) B_is_heap_in (c_is_within base tb)
  have F_require_heap := fun_mk (st := st_require_heap) l_require_heap d_require_heap e_require_heap
  have B_require_heap := F_require_heap.binds (ps := ["heap"]) fun _ _ _ _ _ _ us hl => match us, hl with | [_], _ => rfl
  have c_require_heap := fun (base : Heap) (tb : ∀ p ∈ ([] : List (Addr × Addr)), LamX.TabB base mg p.1 p.2) => k_require_heap (w := w) (base := base) T F_require_heap (PySem.W.mg_of X G a_require_heap) B_require_heap (c_is_heap_in base tb)
  have F_require_filled := fun_mk (st := st_require_filled) l_require_filled d_require_filled e_require_filled
  have B_require_filled := F_require_filled.binds (ps := ["chain", "heap"]) fun _ _ _ _ _ _ us hl => match us, hl with | [_, _], _ => rfl
  have c_require_filled := fun (base : Heap) (tb : ∀ p ∈ ([] : List (Addr × Addr)), LamX.TabB base mg p.1 p.2) => k_require_filled (w := w) (base := base) T F_require_filled (PySem.W.mg_of X G a_require_filled) B_require_filled (c_require_chain base tb) (c_require_heap base tb)
  have F_fewest_letters := fun_mk (st := st_fewest_letters) l_fewest_letters d_fewest_letters e_fewest_letters
  have B_fewest_letters := F_fewest_letters.binds (ps := ["chain", "heap"]) fun _ _ _ _ _ _ us hl => match us, hl with | [_, _], _ => rfl
  have c_fewest_letters := fun (base : Heap) (tb : ∀ p ∈ ([] : List (Addr × Addr)), LamX.TabB base mg p.1 p.2) => k_fewest_letters (w := w) (base := base) T F_fewest_letters (PySem.W.mg_of X G a_fewest_letters) B_fewest_letters (c_fewest_letters_in base tb) (c_require_filled base tb)
  have F_some_columns := fun_mk (st := st_some_columns) l_some_columns d_some_columns e_some_columns
  have B_some_columns := F_some_columns.binds (ps := ["columns"]) fun _ _ _ _ _ _ us hl => match us, hl with | [_], _ => rfl
  have c_some_columns := fun (base : Heap) (tb : ∀ p ∈ ([] : List (Addr × Addr)), LamX.TabB base mg p.1 p.2) => k_some_columns (w := w) (base := base) T F_some_columns (PySem.W.mg_of X G a_some_columns) B_some_columns 
  have F_fillings_count_in := fun_mk (st := st_fillings_count_in) l_fillings_count_in d_fillings_count_in e_fillings_count_in
  have B_fillings_count_in := F_fillings_count_in.binds (ps := ["chain", "heap"]) fun _ _ _ _ _ _ us hl => match us, hl with | [_, _], _ => rfl
  have c_fillings_count_in := fun (base : Heap) (tb : ∀ p ∈ ([] : List (Addr × Addr)), LamX.TabB base mg p.1 p.2) => k_fillings_count_in (w := w) (base := base) T F_fillings_count_in (PySem.W.mg_of X G a_fillings_count_in) B_fillings_count_in (c_order_in base tb) (c_with_columns base tb) (c_let_columns base tb) (c_some_columns base tb)
  have F_fillings_count := fun_mk (st := st_fillings_count) l_fillings_count d_fillings_count e_fillings_count
  have B_fillings_count := F_fillings_count.binds (ps := ["chain", "heap"]) fun _ _ _ _ _ _ us hl => match us, hl with | [_, _], _ => rfl
  have c_fillings_count := fun (base : Heap) (tb : ∀ p ∈ ([] : List (Addr × Addr)), LamX.TabB base mg p.1 p.2) => k_fillings_count (w := w) (base := base) T F_fillings_count (PySem.W.mg_of X G a_fillings_count) B_fillings_count (c_fillings_count_in base tb) (c_require_filled base tb)
  have F__law_dice := fun_mk (st := st__law_dice) l__law_dice d__law_dice e__law_dice
  have B__law_dice := F__law_dice.binds (ps := ["_law_script", "_law_at"]) fun _ _ _ _ _ _ us hl => match us, hl with | [_, _], _ => rfl
  have c__law_dice := fun (base : Heap) (tb : ∀ p ∈ ([] : List (Addr × Addr)), LamX.TabB base mg p.1 p.2) => k__law_dice (w := w) (base := base) T F__law_dice (PySem.W.mg_of X G a__law_dice) B__law_dice 
  have F__law_roll := fun_mk (st := st__law_roll) l__law_roll d__law_roll e__law_roll
  have B__law_roll := F__law_roll.binds (ps := ["_law_dice_here", "_law_total"]) fun _ _ _ _ _ _ us hl => match us, hl with | [_, _], _ => rfl
  have c__law_roll := fun (base : Heap) (tb : ∀ p ∈ ([] : List (Addr × Addr)), LamX.TabB base mg p.1 p.2) => k__law_roll (w := w) (base := base) T F__law_roll (PySem.W.mg_of X G a__law_roll) B__law_roll 
  have F__law_ring := fun_mk (st := st__law_ring) l__law_ring d__law_ring e__law_ring
  have B__law_ring := F__law_ring.binds (ps := ["_law_dice_here", "_law_most"]) fun _ _ _ _ _ _ us hl => match us, hl with | [_, _], _ => rfl
  have c__law_ring := fun (base : Heap) (tb : ∀ p ∈ ([] : List (Addr × Addr)), LamX.TabB base mg p.1 p.2) => k__law_ring (w := w) (base := base) T F__law_ring (PySem.W.mg_of X G a__law_ring) B__law_ring (c__law_roll base tb)
  have F__law_one_of := fun_mk (st := st__law_one_of) l__law_one_of d__law_one_of e__law_one_of
  have B__law_one_of := F__law_one_of.binds (ps := ["_law_dice_here", "_law_items"]) fun _ _ _ _ _ _ us hl => match us, hl with | [_, _], _ => rfl
  have c__law_one_of := fun (base : Heap) (tb : ∀ p ∈ ([] : List (Addr × Addr)), LamX.TabB base mg p.1 p.2) => k__law_one_of (w := w) (base := base) T F__law_one_of (PySem.W.mg_of X G a__law_one_of) B__law_one_of (c__law_roll base tb)
  have F__law_common := fun_mk (st := st__law_common) l__law_common d__law_common e__law_common
  have B__law_common := F__law_common.binds (ps := ["_law_one", "_law_other"]) fun _ _ _ _ _ _ us hl => match us, hl with | [_, _], _ => rfl
  have c__law_common := fun (base : Heap) (tb : ∀ p ∈ ([] : List (Addr × Addr)), LamX.TabB base mg p.1 p.2) => k__law_common (w := w) (base := base) T F__law_common (PySem.W.mg_of X G a__law_common) B__law_common 
  have F__law_ring_of := fun_mk (st := st__law_ring_of) l__law_ring_of d__law_ring_of e__law_ring_of
  have B__law_ring_of := F__law_ring_of.binds (ps := ["_law_dice_here", "_law_k", "_law_times"]) fun _ _ _ _ _ _ us hl => match us, hl with | [_, _, _], _ => rfl
  have c__law_ring_of := fun (base : Heap) (tb : ∀ p ∈ ([] : List (Addr × Addr)), LamX.TabB base mg p.1 p.2) => k__law_ring_of (w := w) (base := base) T F__law_ring_of (PySem.W.mg_of X G a__law_ring_of) B__law_ring_of (c__law_roll base tb) (c__law_one_of base tb) (c__law_common base tb)
  have F__law_chain := fun_mk (st := st__law_chain) l__law_chain d__law_chain e__law_chain
  have B__law_chain := F__law_chain.binds (ps := ["_law_dice_here", "_law_rings", "_law_most"]) fun _ _ _ _ _ _ us hl => match us, hl with | [_, _, _], _ => rfl
  have c__law_chain := fun (base : Heap) (tb : ∀ p ∈ ([] : List (Addr × Addr)), LamX.TabB base mg p.1 p.2) => k__law_chain (w := w) (base := base) T F__law_chain (PySem.W.mg_of X G a__law_chain) B__law_chain (c__law_roll base tb) (c__law_ring base tb) (c__law_ring_of base tb)
  have F__law_whole := fun_mk (st := st__law_whole) l__law_whole d__law_whole e__law_whole
  have B__law_whole := F__law_whole.binds (ps := ["_law_dice_here"]) fun _ _ _ _ _ _ us hl => match us, hl with | [_], _ => rfl
  have c__law_whole := fun (base : Heap) (tb : ∀ p ∈ ([] : List (Addr × Addr)), LamX.TabB base mg p.1 p.2) => k__law_whole (w := w) (base := base) T F__law_whole (PySem.W.mg_of X G a__law_whole) B__law_whole (c__law_roll base tb)
  have F__law_order := fun_mk (st := st__law_order) l__law_order d__law_order e__law_order
  have B__law_order := F__law_order.binds (ps := ["_law_ring_here"]) fun _ _ _ _ _ _ us hl => match us, hl with | [_], _ => rfl
  have c__law_order := fun (base : Heap) (tb : ∀ p ∈ ([] : List (Addr × Addr)), LamX.TabB base mg p.1 p.2) => k__law_order (w := w) (base := base) T F__law_order (PySem.W.mg_of X G a__law_order) B__law_order (c__law_common base tb)
  have F__law_raised := fun_mk (st := st__law_raised) l__law_raised d__law_raised e__law_raised
  have B__law_raised := F__law_raised.binds (ps := ["_law_heap", "_law_whole_here", "_law_chosen"]) fun _ _ _ _ _ _ us hl => match us, hl with | [_, _, _], _ => rfl
  have c__law_raised := fun (base : Heap) (tb : ∀ p ∈ ([] : List (Addr × Addr)), LamX.TabB base mg p.1 p.2) => k__law_raised (w := w) (base := base) T F__law_raised (PySem.W.mg_of X G a__law_raised) B__law_raised 
  have F__law_rises := fun_mk (st := st__law_rises) l__law_rises d__law_rises e__law_rises
  have B__law_rises := F__law_rises.binds (ps := ["_law_heap", "_law_whole_here"]) fun _ _ _ _ _ _ us hl => match us, hl with | [_, _], _ => rfl
  have c__law_rises := fun (base : Heap) (tb : ∀ p ∈ ([] : List (Addr × Addr)), LamX.TabB base mg p.1 p.2) => k__law_rises (w := w) (base := base) T F__law_rises (PySem.W.mg_of X G a__law_rises) B__law_rises 
  have F__law_groups := fun_mk (st := st__law_groups) l__law_groups d__law_groups e__law_groups
  have B__law_groups := F__law_groups.binds (ps := ["_law_heap", "_law_whole_here", "_law_order_here"]) fun _ _ _ _ _ _ us hl => match us, hl with | [_, _, _], _ => rfl
  have c__law_groups := fun (base : Heap) (tb : ∀ p ∈ ([] : List (Addr × Addr)), LamX.TabB base mg p.1 p.2) => k__law_groups (w := w) (base := base) T F__law_groups (PySem.W.mg_of X G a__law_groups) B__law_groups (c__law_rises base tb)
  have F__law_subsets := fun_mk (st := st__law_subsets) l__law_subsets d__law_subsets e__law_subsets
  have B__law_subsets := F__law_subsets.binds (ps := ["_law_items"]) fun _ _ _ _ _ _ us hl => match us, hl with | [_], _ => rfl
  have c__law_subsets := fun (base : Heap) (tb : ∀ p ∈ ([] : List (Addr × Addr)), LamX.TabB base mg p.1 p.2) => k__law_subsets (w := w) (base := base) T F__law_subsets (PySem.W.mg_of X G a__law_subsets) B__law_subsets 
  have F__law_table := fun_mk (st := st__law_table) l__law_table d__law_table e__law_table
  have B__law_table := F__law_table.binds (ps := ["_law_chain_here", "_law_whole_here"]) fun _ _ _ _ _ _ us hl => match us, hl with | [_, _], _ => rfl
  have c__law_table := fun (base : Heap) (tb : ∀ p ∈ ([] : List (Addr × Addr)), LamX.TabB base mg p.1 p.2) => k__law_table (w := w) (base := base) T F__law_table (PySem.W.mg_of X G a__law_table) B__law_table (c__law_order base tb) (c__law_raised base tb) (c__law_groups base tb) (c__law_subsets base tb)
  have F_hook_product := fun_mk (st := st_hook_product) l_hook_product d_hook_product e_hook_product
  have B_hook_product := F_hook_product.binds (ps := ["heap"]) fun _ _ _ _ _ _ us hl => match us, hl with | [_], _ => rfl
  have c_hook_product := fun (base : Heap) (tb : ∀ p ∈ ([] : List (Addr × Addr)), LamX.TabB base mg p.1 p.2) => k_hook_product (w := w) (base := base) T F_hook_product (PySem.W.mg_of X G a_hook_product) B_hook_product 
  have F_standard_count := fun_mk (st := st_standard_count) l_standard_count d_standard_count e_standard_count
  have B_standard_count := F_standard_count.binds (ps := ["heap"]) fun _ _ _ _ _ _ us hl => match us, hl with | [_], _ => rfl
  have c_standard_count := fun (base : Heap) (tb : ∀ p ∈ ([] : List (Addr × Addr)), LamX.TabB base mg p.1 p.2) => k_standard_count (w := w) (base := base) T F_standard_count (PySem.W.mg_of X G a_standard_count) B_standard_count (c_hook_product base tb)
  have F_standard_fillings := fun_mk (st := st_standard_fillings) l_standard_fillings d_standard_fillings e_standard_fillings
  have B_standard_fillings := F_standard_fillings.binds (ps := ["heap"]) fun _ _ _ _ _ _ us hl => match us, hl with | [_], _ => rfl
  have c_standard_fillings := fun (base : Heap) (tb : ∀ p ∈ ([] : List (Addr × Addr)), LamX.TabB base mg p.1 p.2) => k_standard_fillings (w := w) (base := base) T F_standard_fillings (PySem.W.mg_of X G a_standard_fillings) B_standard_fillings (c_require_heap base tb) (c_standard_count base tb)
  have F__law_choices_of := fun_mk (st := st__law_choices_of) l__law_choices_of d__law_choices_of e__law_choices_of
  have B__law_choices_of := F__law_choices_of.binds (ps := ["_law_size", "_law_total"]) fun _ _ _ _ _ _ us hl => match us, hl with | [_, _], _ => rfl
  have c__law_choices_of := fun (base : Heap) (tb : ∀ p ∈ ([] : List (Addr × Addr)), LamX.TabB base mg p.1 p.2) => k__law_choices_of (w := w) (base := base) T F__law_choices_of (PySem.W.mg_of X G a__law_choices_of) B__law_choices_of 
  have F__law_great_right := fun_mk (st := st__law_great_right) l__law_great_right d__law_great_right e__law_great_right
  have B__law_great_right := F__law_great_right.binds (ps := ["_law_dice_here", "_law_whole_here"]) fun _ _ _ _ _ _ us hl => match us, hl with | [_, _], _ => rfl
  have c__law_great_right := fun (base : Heap) (tb : ∀ p ∈ ([] : List (Addr × Addr)), LamX.TabB base mg p.1 p.2) => k__law_great_right (w := w) (base := base) T F__law_great_right (PySem.W.mg_of X G a__law_great_right) B__law_great_right (c_fewest_letters base tb) (c_fillings_count base tb) (c_standard_fillings base tb) (c__law_roll base tb) (c__law_ring_of base tb) (c__law_choices_of base tb)
  have F__law_equal_chain := fun_mk (st := st__law_equal_chain) l__law_equal_chain d__law_equal_chain e__law_equal_chain
  have B__law_equal_chain := F__law_equal_chain.binds (ps := ["_law_dice_here", "_law_rings", "_law_k"]) fun _ _ _ _ _ _ us hl => match us, hl with | [_, _, _], _ => rfl
  have c__law_equal_chain := fun (base : Heap) (tb : ∀ p ∈ ([] : List (Addr × Addr)), LamX.TabB base mg p.1 p.2) => k__law_equal_chain (w := w) (base := base) T F__law_equal_chain (PySem.W.mg_of X G a__law_equal_chain) B__law_equal_chain (c__law_ring_of base tb)
  have F__law_equal_right := fun_mk (st := st__law_equal_right) l__law_equal_right d__law_equal_right e__law_equal_right
  have B__law_equal_right := F__law_equal_right.binds (ps := ["_law_dice_here"]) fun _ _ _ _ _ _ us hl => match us, hl with | [_], _ => rfl
  have c__law_equal_right := fun (base : Heap) (tb : ∀ p ∈ ([] : List (Addr × Addr)), LamX.TabB base mg p.1 p.2) => k__law_equal_right (w := w) (base := base) T F__law_equal_right (PySem.W.mg_of X G a__law_equal_right) B__law_equal_right (c_fewest_letters base tb) (c__law_roll base tb) (c__law_equal_chain base tb)
  have F_law := fun_mk (st := st_law) l_law d_law e_law
  refine ⟨_, [], spS K mg 1 m_law, ?_, fun s v => .of_eq rfl, fun H a ns hl hT hS => Sm.law_end law_true ⟨a, ns, rfl, hS, hl, fun _ => rfl⟩ ?_, fun base _ _ tb => ok_law T F_law (c_fewest_letters base tb) (c_fillings_count base tb) (c__law_dice base tb) (c__law_roll base tb) (c__law_chain base tb) (c__law_whole base tb) (c__law_table base tb) (c__law_great_right base tb) (c__law_equal_right base tb)⟩
  · intro p hp; exact absurd hp List.not_mem_nil
  · intro p hp; exact absurd hp List.not_mem_nil
end
end Sk47
end
section
set_option maxRecDepth 100000
set_option maxHeartbeats 0
set_option exponentiation.threshold 1000000
namespace Sm
open PySem L2
/-! ### reckoning with typed lists -/
abbrev iD (ns : List Int) : List D := ns.map D.int
/-- a tuple, a list of ints -/
abbrev iT (ns : List Int) : D := .tup (ns.map D.int)
abbrev iL (ns : List Int) : D := .lst (ns.map D.int)
theorem nocels_i : ∀ ns : List Int, nocels (ns.map D.int) = true
  | [] => rfl
  | n :: ns => by
    show (nocel (.int n) && nocels (ns.map D.int)) = true
    rw [nocels_i ns]
    rfl
theorem nocels_all : ∀ {ds : List D}, (∀ d ∈ ds, nocel d = true) → nocels ds = true
  | [], _ => rfl
  | d :: ds, h => by
    simp only [nocels, h d List.mem_cons_self, nocels_all fun d' hd' => h d' (List.mem_cons_of_mem _ hd'), Bool.and_true]
theorem getD_map {ns : List Int} {i : Nat} (h : i < ns.length) : (ns.map D.int)[i]? = some (.int (ns.getD i 0)) := by
  rw [List.getElem?_map, List.getD_eq_getElem?_getD, List.getElem?_eq_getElem h]
  rfl
end Sm
end
section
set_option maxRecDepth 100000
set_option maxHeartbeats 0
set_option exponentiation.threshold 1000000
namespace Sm
open PySem L2
theorem at10 {a : D} : atI [a] 0 = some a := rfl
theorem at20 {a b : D} : atI [a, b] 0 = some a := rfl
theorem at21 {a b : D} : atI [a, b] 1 = some b := rfl
theorem at30 {a b c : D} : atI [a, b, c] 0 = some a := rfl
theorem at31 {a b c : D} : atI [a, b, c] 1 = some b := rfl
theorem at32 {a b c : D} : atI [a, b, c] 2 = some c := rfl
theorem cst0 : ((0 : Nat) : Int) = 0 := rfl
theorem cst1 : ((1 : Nat) : Int) = 1 := rfl
theorem cst2 : ((2 : Nat) : Int) = 2 := rfl
theorem cst3 : ((3 : Nat) : Int) = 3 := rfl
theorem rng2_ok {i j : Int} (h0 : -1000000 ≤ i ∧ i ≤ 1000000) (h1 : -1000000 ≤ j ∧ j ≤ 1000000) : rng2 [.int i, .int j] = some (zs i (j - i).toNat, gd0) := by
  have h : inRng i = true ∧ inRng j = true := ⟨inRng_iff.mpr (by omega), inRng_iff.mpr (by omega)⟩
  unfold rng2
  simp only [h, and_self, if_true]
theorem iR2_ok {s : S (List D)} {e : Env} {C C1 : Cells} {i j : Int} (h : s e C = some (.ok [.int i, .int j] C1)) (h0 : -1000000 ≤ i ∧ i ≤ 1000000) (h1 : -1000000 ≤ j ∧ j ≤ 1000000) : iR2 s e C = some (.ok (zs i (j - i).toNat, gd0) C1) := by
  unfold iR2 S.bind
  simp only [h, rng2_ok h0 h1]
  rfl
end Sm
end
section
set_option maxRecDepth 100000
set_option maxHeartbeats 0
namespace Sm
open PySem L2
/-! ### dicts from pairs of ints to ints -/
abbrev Dl := List ((Int × Int) × Int)
def kP (p : Int × Int) : List Key := [.inl p.1, .inl p.2]
def dks (f : Dl) : List (List Key) := f.map fun e => kP e.1
def dvs (f : Dl) : List D := f.map fun e => .int e.2
def dlD (f : Dl) : D := .dt (dks f) (dvs f)
def rdP (p : Int × Int) : D := .tup [.int p.1, .int p.2]
def getL : Dl → Int × Int → Option Int
  | [], _ => none
  | e :: f, p => if e.1 = p then some e.2 else getL f p
def hasL (f : Dl) (p : Int × Int) : Bool := (getL f p).isSome
def putL (f : Dl) (p : Int × Int) (c : Int) : Dl := if hasL f p = true then f.map (fun e => if e.1 = p then (p, c) else e) else f ++ [(p, c)]
def Nd (f : Dl) : Prop := (f.map (·.1)).Nodup
theorem hasL_iff {p : Int × Int} : ∀ {f : Dl}, hasL f p = true ↔ p ∈ f.map (·.1)
  | [] => by simp [hasL, getL]
  | e :: f => by
    have ih := hasL_iff (p := p) (f := f)
    unfold hasL getL
    by_cases h : e.1 = p
    · simp [h]
    · rw [if_neg h]
      have h' : ¬ p = e.1 := fun q => h q.symm
      rw [List.map_cons, List.mem_cons]
      simp only [h', false_or]
      exact ih
theorem keys_put (f : Dl) (p : Int × Int) (c : Int) : (putL f p c).map (·.1) = if hasL f p = true then f.map (·.1) else f.map (·.1) ++ [p] := by
  unfold putL
  by_cases h : hasL f p = true
  · rw [if_pos h, if_pos h, List.map_map]
    apply List.map_congr_left
    intro e _
    show (if e.1 = p then (p, c) else e).1 = e.1
    by_cases q : e.1 = p
    · rw [if_pos q, q]
    · rw [if_neg q]
  · rw [if_neg h, if_neg h, List.map_append]
    rfl
theorem nd_put {f : Dl} (h : Nd f) (p : Int × Int) (c : Int) : Nd (putL f p c) := by
  unfold Nd
  rw [keys_put]
  by_cases q : hasL f p = true
  · rw [if_pos q]
    exact h
  · rw [if_neg q, List.nodup_append]
    refine ⟨h, by simp, fun a ha b hb => ?_⟩
    rw [List.mem_singleton] at hb
    subst hb
    intro e
    subst e
    exact q (hasL_iff.mpr ha)
/-- a sum over a dict -/
def Sf (ψ : Int × Int → Int → Int) (f : Dl) : Int := (f.map fun e => ψ e.1 e.2).sum
/-! ### a dict comprehension -/
/-! ### sorted(d) -/
def unP : List Int → Int × Int
  | [a, b] => (a, b)
  | _ => (0, 0)
/-- the keys in order -/
def sortP (f : Dl) : List (Int × Int) := (sortR (f.map fun e => [e.1.1, e.1.2])).map unP
/-- what is left when zeros are dropped, in order -/
def nzL (f : Dl) : Dl := ((sortP f).filter fun p => decide ((getL f p).getD 0 ≠ 0)).map fun p => (p, (getL f p).getD 0)
/-! ### reckoning -/
end Sm
end
section
set_option maxRecDepth 100000
set_option maxHeartbeats 0
namespace Sm
open PySem L2
/-! ### the hashes of small pairs are apart -/
def chk (m : Int) : List Int → Nat → Bool
  | [], _ => true
  | x :: l, acc => !acc.testBit (x % m).toNat && chk m l (acc ||| 1 <<< (x % m).toNat)
def tabP : List (Nat × Nat) := (List.range 12).flatMap fun a => (List.range 60).map fun b => (a, b)
def tabH : List Int := tabP.map fun p => hashR [(p.1 : Int), (p.2 : Int)]
theorem map_inj {α β : Type} {f : α → β} : ∀ {l : List α}, (l.map f).Nodup → ∀ {x y : α}, x ∈ l → y ∈ l → f x = f y → x = y
  | z :: l, h, x, y, hx, hy, e => by
    rw [List.map_cons, List.nodup_cons] at h
    rcases List.mem_cons.mp hx with rfl | hx
    · rcases List.mem_cons.mp hy with rfl | hy
      · rfl
      · exact absurd (List.mem_map.mpr ⟨y, hy, e.symm⟩) h.1
    · rename_i hx'
      rcases List.mem_cons.mp hy with hy | hy
      · subst hy
        exact absurd (show f y ∈ l.map f from List.mem_map.mpr ⟨x, by assumption, e⟩) h.1
      · exact map_inj h.2 (by assumption) hy e
/-- a pair of a ring and a place -/
def smallP (p : Int × Int) : Prop := 0 ≤ p.1 ∧ p.1 < 12 ∧ 0 ≤ p.2 ∧ p.2 < 60
end Sm
end
section
set_option maxRecDepth 100000
set_option maxHeartbeats 0
namespace Sm
/-! ### the table of a class along one diagonal -/
/-- lt j e: the j-th ring lets the diagonal e. The richness and 1 of degree d on m rings is phi lt m (d - m + 1) -/
def phi (lt : Nat → Int → Bool) : Nat → Int → Int
  | 0, e => if 0 < e then e else 0
  | j + 1, e => phi lt j e + (if lt j e = true ∧ phi lt j (e - 1) = phi lt j e ∧ phi lt j (e + 1) = phi lt j e + 1 then 1 else 0)
/-! ### taking one chip -/
/-! ### weights -/
def ltW (n s w : Nat → Int) (j : Nat) (e : Int) : Bool := decide ((e * s j - w j) % n j = 0)
/-- the weights behind one chip taken from the place p of the i-th ring -/
def remW (s w : Nat → Int) (i : Nat) (p : Int) : Nat → Int := fun j => if j < i then w j else if j = i then w j - p else w j - s j
/-- the weights of a sum -/
def sumW (s w v : Nat → Int) : Nat → Int := fun j => w j + v j + s j * j
/-! ### heaps -/
end Sm
end
section
set_option maxRecDepth 100000
set_option maxHeartbeats 0
namespace Sm
/-! ### maps of the integers, made by exchanges of neighbours -/
/-- a letter: an order and a rest -/
abbrev Ltr := Option (Int × Int)
def letB (l : Ltr) (i : Int) : Bool := match l with
  | none => false
  | some (m, r) => decide ((i - r) % m = 0)
def okLt (l : Ltr) : Prop := match l with
  | none => True
  | some (m, _) => 2 ≤ m
def exL (l : Ltr) (p : Int → Int) (i : Int) : Int := if letB l i = true then (if p i < p (i + 1) then p (i + 1) else p i) else if letB l (i - 1) = true then (if p (i - 1) < p i then p (i - 1) else p i) else p i
def pMap (ls : List Ltr) (c : Int) : Int → Int := ls.foldr exL fun i => i + c
/-- where the value comes from -/
def swp (l : Ltr) (p : Int → Int) (i : Int) : Int := if letB l i = true then (if p i < p (i + 1) then i + 1 else i) else if letB l (i - 1) = true then (if p (i - 1) < p i then i - 1 else i) else i
def okLs (ls : List Ltr) : Prop := ∀ l ∈ ls, okLt l
/-! ### the table: how many integers up to a have a value of at least -b -/
def T0 (c : Int) (a b : Int) : Int := if 0 < a + b + c + 1 then a + b + c + 1 else 0
def mn (x y : Int) : Int := if x < y then x else y
def Lop (l : Ltr) (T : Int → Int → Int) (a b : Int) : Int := if letB l a = true then mn (T (a - 1) b + 1) (T (a + 1) b) else T a b
def tMap (ls : List Ltr) (c : Int) : Int → Int → Int := ls.foldr Lop (T0 c)
def one01 (b : Prop) [Decidable b] : Int := if b then 1 else 0
/-! ### both ends -/
def Rop (q : Int → Bool) (T : Int → Int → Int) (a b : Int) : Int := if q b = true then mn (T a (b - 1) + 1) (T a (b + 1)) else T a b
def qR (c : Int) (l : Ltr) (b : Int) : Bool := letB l (-(b + c + 1))
end Sm
end
section
set_option maxRecDepth 100000
set_option maxHeartbeats 0
namespace Sm
/-! ### round maps: counts, shifts, falls, in plain integers -/
/-- the sum of g over s, s + 1, .. (n of them) -/
def sF : Nat → Int → (Int → Int) → Int
  | 0, _, _ => 0
  | n + 1, s, g => g s + sF n (s + 1) g
theorem sF_last : ∀ (n : Nat) (s : Int) (g : Int → Int), sF (n + 1) s g = sF n s g + g (s + n)
  | 0, s, g => by simp [sF]
  | n + 1, s, g => by
    have h := sF_last n (s + 1) g
    have e : s + ((n + 1 : Nat) : Int) = s + 1 + (n : Int) := by omega
    rw [e]
    show g s + sF (n + 1) (s + 1) g = (g s + sF n (s + 1) g) + _
    rw [h]
    omega
theorem sF_congr {g g' : Int → Int} : ∀ (n : Nat) (s : Int), (∀ i, s ≤ i → i < s + n → g i = g' i) → sF n s g = sF n s g'
  | 0, s, h => rfl
  | n + 1, s, h => by
    show g s + _ = g' s + _
    rw [h s (by omega) (by omega), sF_congr n (s + 1) fun i h1 h2 => h i (by omega) (by omega)]
theorem sF_add (g g' : Int → Int) : ∀ (n : Nat) (s : Int), sF n s (fun i => g i + g' i) = sF n s g + sF n s g'
  | 0, s => rfl
  | n + 1, s => by
    show g s + g' s + _ = g s + _ + (g' s + _)
    rw [sF_add g g' n (s + 1)]
    omega
/-- the same again behind a round -/
def Per (m : Nat) (f : Int → Int) : Prop := ∀ i, f (i + m) = f i + m
theorem Per.mul {m : Nat} {f : Int → Int} (h : Per m f) : ∀ (k : Nat) (i : Int), f (i + m * k) = f i + m * k
  | 0, i => by simp
  | k + 1, i => by
    have e : i + (m : Int) * ((k + 1 : Nat) : Int) = i + m * (k : Int) + m := by
      rw [show ((k + 1 : Nat) : Int) = (k : Int) + 1 by omega, Int.mul_add, Int.mul_one]
      omega
    have e2 : f i + (m : Int) * ((k + 1 : Nat) : Int) = f i + m * (k : Int) + m := by
      rw [show ((k + 1 : Nat) : Int) = (k : Int) + 1 by omega, Int.mul_add, Int.mul_one]
      omega
    rw [e, e2, h, Per.mul h k]
theorem Per.mulZ {m : Nat} {f : Int → Int} (h : Per m f) (q i : Int) : f (i + m * q) = f i + m * q := by
  rcases Int.le_total 0 q with hq | hq
  · obtain ⟨k, rfl⟩ := Int.eq_ofNat_of_zero_le hq
    exact h.mul k i
  · obtain ⟨k, hk⟩ := Int.eq_ofNat_of_zero_le (show 0 ≤ -q by omega)
    have := h.mul k (i + m * q)
    have e : q = -(k : Int) := by omega
    subst e
    rw [Int.mul_neg] at this ⊢
    have e2 : i + -((m : Int) * (k : Int)) + m * (k : Int) = i := by omega
    rw [e2] at this
    omega
/-- the value at any integer, by the rest -/
theorem Per.rest {m : Nat} {f : Int → Int} (h : Per m f) (i : Int) : f i = f (i % m) + i - i % m := by
  have e := h.mulZ (i / m) (i % m)
  have q : i % (m : Int) + m * (i / m) = i := Int.emod_add_mul_ediv i m
  rw [q] at e
  omega
/-! ### counts -/
def mx0 (x : Int) : Int := if 0 < x then x else 0
def lft (n s : Int) : Int := -(-n / s)
/-- how many i up to a have a value of at least -b -/
def cntV (m : Nat) (f : Int → Int) (a b : Int) : Int := sF m 0 fun r => mx0 ((a - r) / m - lft (-b - f r) m + 1)
theorem sF_sub (g g' : Int → Int) (n : Nat) (s : Int) : sF n s g - sF n s g' = sF n s (fun i => g i - g' i) := by
  have := sF_add (fun i => g i - g' i) g' n s
  have e : (fun i => g i - g' i + g' i) = g := by
    funext i
    omega
  rw [e] at this
  omega
/-! ### shifts -/
/-- what a letter wins at i -/
def gn (l : Ltr) (p : Int → Int) (i : Int) : Int := if letB l i = true then mx0 (p (i + 1) - p i) else 0
/-! ### falls -/
/-- how many pairs i, j (all j of its rest) fall -/
def fl (m : Nat) (f : Int → Int) (i j : Int) : Int := mx0 (lft (f i - f j) m - 1 - (i - j) / m)
def falls (m : Nat) (f : Int → Int) (s : Int) : Int := sF m s fun i => sF m s fun j => fl m f i j
/-- the exchange of all i that are c modulo m with i + 1 -/
def swS (m : Nat) (c : Int) (p : Int → Int) (i : Int) : Int := if (i - c) % (m : Int) = 0 then p (i + 1) else if (i - 1 - c) % (m : Int) = 0 then p (i - 1) else p i
theorem swS_per {m : Nat} {c : Int} {p : Int → Int} (hp : Per m p) : Per m (swS m c p) := fun i => by
  have e1 : (i + (m : Int) - c) % m = (i - c) % m := by rw [show i + (m : Int) - c = i - c + m by omega, Int.add_emod_right]
  have e2 : (i + (m : Int) - 1 - c) % m = (i - 1 - c) % m := by rw [show i + (m : Int) - 1 - c = i - 1 - c + m by omega, Int.add_emod_right]
  have e3 : i + (m : Int) + 1 = i + 1 + m := by omega
  have e4 : i + (m : Int) - 1 = i - 1 + m := by omega
  unfold swS
  rw [e1, e2, e3, e4, hp, hp, hp]
  split
  · rfl
  · split <;> rfl
end Sm
end
section
set_option maxRecDepth 100000
set_option maxHeartbeats 0
namespace Sm
/-! ### a letter is some exchanges of the round, one after the other -/
def uB (k q : Nat) (r : Int) (t : Nat) (i : Int) : Bool := letB (some ((k : Int), r)) i && decide (((i - r) / k) % q < t)
def eP (k q : Nat) (r : Int) (p : Int → Int) (t : Nat) (i : Int) : Int := if uB k q r t i = true then (if p i < p (i + 1) then p (i + 1) else p i) else if uB k q r t (i - 1) = true then (if p (i - 1) < p i then p (i - 1) else p i) else p i
section
variable {k q : Nat} {r : Int} (hk : 2 ≤ k) (hq : 0 < q)
include hk hq
/-- one exchange more, done where it rises -/
def exS (m : Nat) (c : Int) (p : Int → Int) : Int → Int := if p c < p (c + 1) then swS m c p else p
omit hk hq in
end
end Sm
end
section
set_option maxRecDepth 100000
set_option maxHeartbeats 0
namespace Sm
variable [Tabs0]
open PySem L2
/-! ### set comprehensions; the values of a round map as a tuple -/
/-- the values of f at 0 .. m - 1 -/
def rv (m : Nat) (f : Int → Int) : List Int := (List.range m).map fun i : Nat => f (i : Int)
theorem rv_len (m : Nat) (f : Int → Int) : (rv m f).length = m := by unfold rv; rw [List.length_map, List.length_range]
/-- sums of lists of ints -/
def sumI (l : List Int) : Int := l.foldl (· + ·) 0
theorem foldl_add (l : List Int) (a : Int) : l.foldl (· + ·) a = a + sumI l := by
  unfold sumI
  induction l generalizing a with
  | nil => simp
  | cons x l ih =>
    rw [List.foldl_cons, List.foldl_cons, ih (a + x), ih (0 + x)]
    omega
theorem sumI_cons (x : Int) (l : List Int) : sumI (x :: l) = x + sumI l := by
  show l.foldl (· + ·) (0 + x) = _
  rw [foldl_add]
  omega
theorem sumI_app (l k : List Int) : sumI (l ++ k) = sumI l + sumI k := by
  induction l with
  | nil => simp [sumI]
  | cons x l ih =>
    rw [List.cons_append, sumI_cons, sumI_cons, ih]
    omega
theorem sumI_rng (g : Int → Int) : ∀ (n : Nat) (s : Int), sumI ((List.range n).map fun i : Nat => g (s + i)) = sF n s g
  | 0, s => rfl
  | n + 1, s => by
    rw [List.range_succ, List.map_append, sumI_app, sumI_rng g n s, sF_last]
    show _ + sumI [g (s + n)] = _
    rw [sumI_cons]
    simp [sumI]
end Sm
end
section
set_option maxRecDepth 100000
set_option maxHeartbeats 0
namespace Sm
variable [Tabs0]
open PySem L2
/-! ### levels of a round map: its values over a window of k, divided by k -/
/-- the levels, as they come: of p at 1 - k .. 0 -/
def lvW (k : Nat) (p : Int → Int) : List Int := (List.range k).map fun j : Nat => p (1 - k + (j : Int)) / (k : Int)
def lvL (k : Nat) (p : Int → Int) : List Int := sortI (lvW k p)
theorem sumI_perm {l l' : List Int} (h : l.Perm l') : sumI l = sumI l' := by
  induction h with
  | nil => rfl
  | cons x _ ih => rw [sumI_cons, sumI_cons, ih]
  | swap x y l => rw [sumI_cons, sumI_cons, sumI_cons, sumI_cons]; omega
  | trans _ _ h1 h2 => rw [h1, h2]
/-! the sum of the levels -/
theorem nd_le : ∀ (k : Nat) (l : List Int), l.Nodup → (∀ x ∈ l, 0 ≤ x ∧ x < k) → l.length ≤ k
  | 0, l, _, h => by
    cases l with
    | nil => exact Nat.le_refl _
    | cons a r =>
      have := h a List.mem_cons_self
      omega
  | k + 1, l, hn, hb => by
    have ih := nd_le k (l.erase (k : Int)) (hn.erase _) fun x hx => by
      have h1 := hb x (List.mem_of_mem_erase hx)
      have h2 : x ≠ k := (hn.mem_erase_iff.mp hx).1
      omega
    have h3 := List.length_erase (a := (k : Int)) (l := l)
    split at h3 <;> omega
/-- the residues of a list without repetition, all below k, k of them: their sum -/
theorem sum_nd : ∀ (k : Nat) (l : List Int), l.Nodup → l.length = k → (∀ x ∈ l, 0 ≤ x ∧ x < k) → 2 * sumI l = (k : Int) * (k - 1)
  | 0, l, _, h, _ => by
    rw [List.length_eq_zero_iff.mp h]
    rfl
  | k + 1, l, hn, hl, hb => by
    -- k is in l
    have hk : (k : Int) ∈ l := by
      refine Decidable.byContradiction fun h => ?_
      have := nd_le k l hn fun x hx => by
        have := hb x hx
        have hne : x ≠ k := fun e => h (e ▸ hx)
        omega
      omega
    have hp := List.perm_cons_erase hk
    have hn2 : (l.erase (k : Int)).Nodup := hn.erase _
    have ih := sum_nd k (l.erase (k : Int)) hn2 (by rw [List.length_erase_of_mem hk]; omega) fun x hx => by
      have h1 := hb x (List.mem_of_mem_erase hx)
      have h2 : x ≠ k := (hn.mem_erase_iff.mp hx).1
      omega
    rw [sumI_perm hp, sumI_cons, Int.mul_add, ih]
    simp only [Int.natCast_add, Int.cast_ofNat_Int]
    rw [show (k : Int) + 1 - 1 = k by omega, Int.add_mul, Int.mul_sub]
    omega
theorem sF_mul (a : Int) (g : Int → Int) (n : Nat) (s : Int) : sF n s (fun i => a * g i) = a * sF n s g := by
  induction n with
  | zero => simp [sF]
  | succ n ih => rw [sF_last, sF_last, ih, Int.mul_add]
/-! the count by levels -/
/-! ### one letter more, on the values -/
end Sm
end
section
set_option maxRecDepth 100000
set_option maxHeartbeats 0
namespace Sm
/-! ### round maps that are one to one: the map back, high and low counts -/
theorem per_of_diff {m : Nat} {f : Int → Int} (hf : Per m f) (hinj : ∀ i j, f i = f j → i = j) {i j : Int} (h : f i % (m : Int) = f j % m) : ∃ q, i = j + m * q := by
  have hd : (m : Int) ∣ f i - f j := Int.dvd_of_emod_eq_zero (by rw [Int.sub_emod, h, Int.sub_self, Int.zero_emod])
  obtain ⟨q, hq⟩ := hd
  have h1 := hf.mulZ q j
  exact ⟨q, hinj _ _ (by rw [h1]; omega)⟩
theorem mq_zero {m : Nat} {a b q : Int} (h : a = b + m * q) (ha : 0 ≤ a ∧ a < m) (hb : 0 ≤ b ∧ b < m) : q = 0 := by
  rcases Int.lt_trichotomy q 0 with c | c | c
  · have := Int.mul_le_mul_of_nonneg_left (show q ≤ -1 by omega) (show (0 : Int) ≤ m by omega)
    omega
  · exact c
  · have := Int.mul_le_mul_of_nonneg_left (show 1 ≤ q by omega) (show (0 : Int) ≤ m by omega)
    omega
/-- the residues of the values -/
theorem res_nd {m : Nat} {f : Int → Int} (hf : Per m f) (hinj : ∀ i j, f i = f j → i = j) : ((rv m f).map fun v => v % (m : Int)).Nodup := by
  unfold rv
  rw [List.map_map]
  refine List.pairwise_map.mpr ?_
  refine List.Pairwise.imp_of_mem ?_ (List.nodup_range (n := m))
  intro i j hi hj hne e
  have hi' := List.mem_range.mp hi
  have hj' := List.mem_range.mp hj
  obtain ⟨q, hq⟩ := per_of_diff hf hinj (show f (i : Int) % (m : Int) = f (j : Int) % m from e)
  have := mq_zero hq (by omega) (by omega)
  rw [this, Int.mul_zero] at hq
  exact hne (by omega)
theorem res_all {m : Nat} (hm : 0 < m) {l : List Int} (hn : l.Nodup) (hl : l.length = m) (hb : ∀ x ∈ l, 0 ≤ x ∧ x < m) {r : Int} (h0 : 0 ≤ r) (h1 : r < m) : r ∈ l := by
  refine Decidable.byContradiction fun h => ?_
  have := nd_le m (r :: l) (List.nodup_cons.mpr ⟨h, hn⟩) fun x hx => by
    rcases List.mem_cons.mp hx with e | e
    · omega
    · exact hb x e
  rw [List.length_cons] at this
  omega
theorem per_surj {m : Nat} (hm : 0 < m) {f : Int → Int} (hf : Per m f) (hinj : ∀ i j, f i = f j → i = j) (t : Int) : ∃ i, f i = t := by
  have hr := res_all hm (res_nd hf hinj) (by rw [List.length_map, rv_len]) (fun x hx => by
    obtain ⟨v, _, rfl⟩ := List.mem_map.mp hx
    exact ⟨Int.emod_nonneg _ (by omega), Int.emod_lt_of_pos _ (by omega)⟩) (Int.emod_nonneg t (show (m : Int) ≠ 0 by omega)) (Int.emod_lt_of_pos t (by omega))
  obtain ⟨v, hv, e⟩ := List.mem_map.mp hr
  obtain ⟨s, _, rfl⟩ := List.mem_map.mp hv
  have e' : f (s : Int) % (m : Int) = t % m := e
  have hd : (m : Int) ∣ t - f s := Int.dvd_of_emod_eq_zero (by rw [Int.sub_emod, e', Int.sub_self, Int.zero_emod])
  obtain ⟨q, hq⟩ := hd
  exact ⟨s + m * q, by rw [hf.mulZ]; omega⟩
/-- a round map: the same again behind a round, one to one -/
structure RM (m : Nat) (f : Int → Int) : Prop where
  pos : 0 < m
  per : Per m f
  inj : ∀ i j, f i = f j → i = j
/-- the map back -/
noncomputable def invF (f : Int → Int) (t : Int) : Int := open Classical in if h : ∃ i, f i = t then Classical.choose h else 0
theorem RM.back {m : Nat} {f : Int → Int} (h : RM m f) (t : Int) : f (invF f t) = t := by
  unfold invF
  rw [dif_pos (per_surj h.pos h.per h.inj t)]
  exact Classical.choose_spec (per_surj h.pos h.per h.inj t)
/-! exchanges -/
def swI (m : Nat) (c i : Int) : Int := if (i - c) % (m : Int) = 0 then i + 1 else if (i - 1 - c) % (m : Int) = 0 then i - 1 else i
theorem swS_swI (m : Nat) (c : Int) (p : Int → Int) (i : Int) : swS m c p i = p (swI m c i) := by
  unfold swS swI
  split
  · rfl
  · split <;> rfl
theorem one_mod {m : Nat} (hm : 2 ≤ m) {x : Int} (h : x % (m : Int) = 0) : (x + 1) % (m : Int) ≠ 0 := by
  rw [Int.add_emod, h, Int.zero_add]
  rw [Int.emod_emod_of_dvd _ (Int.dvd_refl _), Int.emod_eq_of_lt (by omega) (by omega)]
  omega
theorem swI_swI {m : Nat} (hm : 2 ≤ m) (c i : Int) : swI m c (swI m c i) = i := by
  unfold swI
  by_cases h1 : (i - c) % (m : Int) = 0
  · rw [if_pos h1]
    have h2 : ¬ (i + 1 - c) % (m : Int) = 0 := fun e => one_mod hm h1 (by rw [show i - c + 1 = i + 1 - c by omega]; exact e)
    rw [if_neg h2, if_pos (by rw [show i + 1 - 1 - c = i - c by omega]; exact h1)]
    omega
  · rw [if_neg h1]
    by_cases h2 : (i - 1 - c) % (m : Int) = 0
    · rw [if_pos h2, if_pos h2]
      omega
    · rw [if_neg h2, if_neg h1, if_neg h2]
theorem RM.sw {m : Nat} {f : Int → Int} (h : RM m f) (hm : 2 ≤ m) (c : Int) : RM m (swS m c f) := ⟨h.pos, swS_per h.per, fun i j e => by
  rw [swS_swI, swS_swI] at e
  have := congrArg (swI m c) (h.inj _ _ e)
  rwa [swI_swI hm, swI_swI hm] at this⟩
/-! sums of quotients -/
theorem div_sum {m : Nat} (hm : 0 < m) {f : Int → Int} (h : RM m f) : 2 * ((m : Int) * sF m 0 fun i => f i / (m : Int)) = 2 * sF m 0 f - (m : Int) * (m - 1) := by
  have hr := sum_nd m ((rv m f).map fun v => v % (m : Int)) (res_nd h.per h.inj) (by rw [List.length_map, rv_len]) fun x hx => by
    obtain ⟨v, _, rfl⟩ := List.mem_map.mp hx
    exact ⟨Int.emod_nonneg _ (by omega), Int.emod_lt_of_pos _ (by omega)⟩
  have e1 : sumI ((rv m f).map fun v => v % (m : Int)) = sF m 0 fun i => f i % (m : Int) := by
    unfold rv
    rw [List.map_map]
    have := sumI_rng (fun i => f i % (m : Int)) m 0
    simp only [Int.zero_add] at this
    exact this
  have hv : sF m 0 f = sF m 0 fun i => (m : Int) * (f i / (m : Int)) + f i % (m : Int) := sF_congr m 0 fun i _ _ => by rw [Int.mul_ediv_add_emod]
  rw [sF_add, sF_mul] at hv
  rw [e1] at hr
  omega
/-- the shift -/
def shF (m : Nat) (f : Int → Int) : Int := sF m 0 fun i => f i / (m : Int)
theorem sF_idx (m : Nat) : 2 * sF m 0 (fun i => i) = (m : Int) * (m - 1) := by
  induction m with
  | zero => rfl
  | succ n ih =>
    rw [sF_last, Int.mul_add, ih]
    simp only [Int.natCast_add, Int.cast_ofNat_Int, Int.zero_add]
    rw [show (n : Int) + 1 - 1 = n by omega, Int.add_mul, Int.mul_sub]
    omega
theorem RM.sum {m : Nat} {f : Int → Int} (h : RM m f) : sF m 0 (fun i => f i - i) = m * shF m f := by
  have h1 := div_sum h.pos h
  have h2 := sF_idx m
  have h3 := sF_sub f (fun i => i) m 0
  unfold shF
  have : sF m 0 (fun i => f i - i) = sF m 0 f - sF m 0 fun i => i := h3.symm
  omega
/-! high and low -/
end Sm
end
section
set_option maxRecDepth 100000
set_option maxHeartbeats 0
namespace Sm
/-! ### greedy products of round maps, by their tables: least sums -/
def mn2 (x y : Int) : Int := if x ≤ y then x else y
def mxx (x y : Int) : Int := if x ≤ y then y else x
/-- what a greedy letter adds, taken back -/
def dnS (m : Nat) (c : Int) (p : Int → Int) : Int → Int := if p (c + 1) < p c then swS m c p else p
theorem RM.dn {m : Nat} {f : Int → Int} (h : RM m f) (hm : 2 ≤ m) (c : Int) : RM m (dnS m c f) := by
  unfold dnS
  split
  · exact h.sw hm c
  · exact h
/-! least sums -/
/-- h's table is that of the least sums over what g hands on to f -/
def IsGr (m : Nat) (f g h : Int → Int) : Prop := ∀ a b, (∃ l, cntV m g a l + cntV m f (-l - 1) b = cntV m h a b) ∧ ∀ l, cntV m h a b ≤ cntV m g a l + cntV m f (-l - 1) b
/-! words -/
def ffall (m : Nat) (f : Int → Int) : Option Nat := (List.range m).find? fun c : Nat => decide (f ((c : Int) + 1) < f c)
/-- the letters of a least word, the last one first, and what is left -/
def unw (m : Nat) : Nat → (Int → Int) → List Nat × (Int → Int)
  | 0, f => ([], f)
  | n + 1, f => match ffall m f with
    | none => ([], f)
    | some c => (c :: (unw m n (swS m c f)).1, (unw m n (swS m c f)).2)
/-! the greedy product -/
def wrd (m : Nat) (g : Int → Int) : List Nat := if m ≤ 1 then [] else (unw m (falls m g 0).toNat g).1
def grP (m : Nat) (f g : Int → Int) : Int → Int := (wrd m g).reverse.foldl (fun h c => exS m (c : Nat) h) fun i => f (i + shF m g)
end Sm
end
section
set_option maxRecDepth 100000
set_option maxHeartbeats 0
namespace Sm
/-! ### maps below others, by their tables -/
def Blw (m : Nat) (f g : Int → Int) : Prop := ∀ a b, cntV m f a b ≤ cntV m g a b
theorem Blw.trans {m : Nat} {f g h : Int → Int} (h1 : Blw m f g) (h2 : Blw m g h) : Blw m f h := fun a b => Int.le_trans (h1 a b) (h2 a b)
/-- the least factor -/
def lfP (m : Nat) (p q : Int → Int) : Int → Int := fun i => ((wrd m q).foldl (fun h c => dnS m (c : Nat) h) p) (i + -shF m q)
/-! products -/
end Sm
end
section
set_option maxRecDepth 100000
set_option maxHeartbeats 0
namespace Sm
open PySem
/-! ### levels: their distance is at most the falls; maps with told levels and no fall more -/
def gpI (a h : Int) : Int := mx0 (h - a - 1)
/-- the distance of levels, in any order -/
def dsL (vs : List Int) : Int := sumI (vs.map fun h => sumI (vs.map fun a => gpI a h))
/-- the falls of a product of letters of one order -/
def ltk (k : Nat) (l : Ltr) : Prop := l = none ∨ ∃ r : Int, l = some ((k : Int), r)
section
variable (k : Nat) (l : Int → Int)
/-- which of two places has the lesser rest -/
def prc (i j : Int) : Prop := l j < l i ∨ (l i = l j ∧ i < j)
instance (i j : Int) : Decidable (prc l i j) := inferInstanceAs (Decidable (_ ∨ _))
def rkI (j : Int) : Int := sF k 0 fun i => one01 (prc l i j)
end
section
variable {k : Nat} {l : Int → Int}
end
section
variable (k : Nat) (l : Int → Int)
/-- the map with told levels that falls least -/
def pLv (i : Int) : Int := k * (l ((i + k - 1) % (k : Int)) + (i + k - 1) / (k : Int)) + rkI k l ((i + k - 1) % (k : Int))
end
section
variable {k : Nat} {l : Int → Int}
end
/-! counts at the right end: a box of any size is within one of a multiple -/
section
variable {k : Nat} {f : Int → Int}
end
end Sm
end
section
set_option maxRecDepth 100000
set_option maxHeartbeats 0
namespace Sm
open PySem L2
/-! ### dicts from rows of ints to values -/
section
variable {α : Type}
def kZ (p : List Int) : List Key := p.map Sum.inl
def zks (f : List (List Int × α)) : List (List Key) := f.map fun e => kZ e.1
def zvs (en : α → D) (f : List (List Int × α)) : List D := f.map fun e => en e.2
def zD (en : α → D) (f : List (List Int × α)) : D := .dt (zks f) (zvs en f)
theorem kT_kZ (p : List Int) : kT (kZ p) = iT p := by
  unfold kT kZ
  rw [List.map_map]
  rfl
theorem ky_iT (p : List Int) : ky (iT p) = some (kZ p) := by
  show kyA (p.map D.int) = some (p.map Sum.inl)
  induction p with
  | nil => rfl
  | cons a p ih =>
    show (match ky1 (D.int a), kyA (p.map D.int) with | some k, some ks => some (k :: ks) | _, _ => none) = _
    rw [ih]
    rfl
theorem kZ_inj {a b : List Int} (h : kZ a = kZ b) : a = b := (List.map_inj_right (fun x y h => Sum.inl.inj h)).mp h
def getZ : List (List Int × α) → List Int → Option α
  | [], _ => none
  | e :: f, p => if e.1 = p then some e.2 else getZ f p
def hasZ (f : List (List Int × α)) (p : List Int) : Bool := (getZ f p).isSome
def repZ (p : List Int) (c : α) : List (List Int × α) → List (List Int × α)
  | [] => []
  | e :: f => (if e.1 = p then (p, c) else e) :: repZ p c f
def putZ (f : List (List Int × α)) (p : List Int) (c : α) : List (List Int × α) := if hasZ f p = true then repZ p c f else f ++ [(p, c)]
theorem dVal_z (en : α → D) (p : List Int) : ∀ f : List (List Int × α), dVal (zks f) (zvs en f) (kZ p) = (getZ f p).map en
  | [] => rfl
  | e :: f => by
    show (if kZ e.1 = kZ p then some (en e.2) else dVal (zks f) (zvs en f) (kZ p)) = (if e.1 = p then some e.2 else getZ f p).map en
    by_cases h : e.1 = p
    · rw [if_pos (by rw [h]), if_pos h]
      rfl
    · rw [if_neg (fun q => h (kZ_inj q)), if_neg h]
      exact dVal_z en p f
theorem hasK_z (p : List Int) : ∀ f : List (List Int × α), hasK (zks f) (kZ p) = hasZ f p
  | [] => rfl
  | e :: f => by
    have ih := hasK_z p f
    show (decide (kZ e.1 = kZ p) || hasK (zks f) (kZ p)) = (if e.1 = p then some e.2 else getZ f p).isSome
    rw [ih]
    by_cases h : e.1 = p
    · rw [if_pos h, decide_eq_true (by rw [h])]
      rfl
    · rw [if_neg h, decide_eq_false (fun q => h (kZ_inj q))]
      rfl
theorem zks_rep (p : List Int) (c : α) : ∀ f : List (List Int × α), zks (repZ p c f) = zks f
  | [] => rfl
  | e :: f => by
    show kZ (if e.1 = p then (p, c) else e).1 :: zks (repZ p c f) = kZ e.1 :: zks f
    rw [zks_rep p c f]
    by_cases q : e.1 = p
    · rw [if_pos q, q]
    · rw [if_neg q]
theorem addK_z (f : List (List Int × α)) (p : List Int) (c : α) : addK (zks f) (kZ p) = zks (putZ f p c) := by
  unfold addK putZ
  rw [hasK_z]
  by_cases h : hasZ f p = true
  · rw [if_pos h, if_pos h, zks_rep]
  · rw [if_neg h, if_neg h]
    unfold zks
    rw [List.map_append]
    rfl
theorem zw_z (en : α → D) (p : List Int) (c : α) : ∀ f : List (List Int × α), List.zipWith (fun k' y => if k' = kZ p then en c else y) (zks f) (zvs en f) = zvs en (repZ p c f)
  | [] => rfl
  | e :: f => by
    show (if kZ e.1 = kZ p then en c else en e.2) :: List.zipWith _ (zks f) (zvs en f) = en (if e.1 = p then (p, c) else e).2 :: zvs en (repZ p c f)
    rw [zw_z en p c f]
    by_cases h : e.1 = p
    · rw [if_pos (by rw [h]), if_pos h]
    · rw [if_neg (fun q => h (kZ_inj q)), if_neg h]
theorem putV_z (en : α → D) (f : List (List Int × α)) (p : List Int) (c : α) : putV (zks f) (zvs en f) (kZ p) (en c) = zvs en (putZ f p c) := by
  unfold putV putZ
  rw [hasK_z]
  by_cases h : hasZ f p = true
  · rw [if_pos h, if_pos h, zw_z]
  · rw [if_neg h, if_neg h]
    unfold zvs
    rw [List.map_append]
    rfl
theorem zks_len (f : List (List Int × α)) : (zks f).length = f.length := List.length_map _
theorem rep_mem {p : List Int} {c : α} {e : List Int × α} : ∀ {f : List (List Int × α)}, e ∈ repZ p c f → e ∈ f ∨ e = (p, c)
  | x :: f, h => by
    rcases List.mem_cons.mp h with h | h
    · by_cases q : x.1 = p
      · rw [if_pos q] at h
        exact .inr h
      · rw [if_neg q] at h
        rw [h]
        exact .inl List.mem_cons_self
    · rcases rep_mem h with h | h
      · exact .inl (List.mem_cons_of_mem _ h)
      · exact .inr h
theorem putZ_mem {f : List (List Int × α)} {p : List Int} {c : α} {e : List Int × α} (h : e ∈ putZ f p c) : e ∈ f ∨ e = (p, c) := by
  unfold putZ at h
  split at h
  · exact rep_mem h
  · rcases List.mem_append.mp h with h | h
    · exact .inl h
    · exact .inr (List.mem_singleton.mp h)
theorem items_z {C : Cells} (en : α → D) (f : List (List Int × α)) : items (zD en f) C = some (f.map (fun e => iT e.1), gd0) := by
  show some ((zks f).map kT, gd0) = _
  unfold zks
  rw [List.map_map]
  congr 2
  exact List.map_congr_left fun e _ => kT_kZ e.1
theorem dget_z (en : α → D) (f : List (List Int × α)) (p : List Int) : dDGet (zD en f) (iT p) = (getZ f p).map en := by
  show (ky (iT p)).bind (fun k => dVal (zks f) (zvs en f) k) = _
  rw [ky_iT]
  exact dVal_z en p f
theorem dget2_z (en : α → D) (f : List (List Int × α)) (p : List Int) (z : D) : dDGet2 (zD en f) (iT p) z = some (((getZ f p).map en).getD z) := by
  show (ky (iT p)).map (fun k => (dVal (zks f) (zvs en f) k).getD z) = _
  rw [ky_iT]
  show some ((dVal (zks f) (zvs en f) (kZ p)).getD z) = _
  rw [dVal_z]
theorem isDt_z (en : α → D) (f : List (List Int × α)) : isDt (zD en f) = true := rfl
theorem nc_z {en : α → D} (h : ∀ a, nocel (en a) = true) (f : List (List Int × α)) : nocel (zD en f) = true := by
  show nocels (zvs en f) = true
  unfold zvs
  induction f with
  | nil => rfl
  | cons e f ih =>
    show (nocel (en e.2) && nocels _) = true
    rw [h, ih]
    rfl
/-- no key is empty, or there is one -/
def okZ (f : List (List Int × α)) : Bool := (f.all fun e => !e.1.isEmpty) || decide (f.length ≤ 1)
theorem setT_z {en : α → D} (hn : ∀ a, nocel (en a) = true) {so si sv : S D} {e : Env} {C : Cells} {n : Nat} {g : List (List Int × α)} {p : List Int} {c : α} (ho : so e C = some (.ok (.cel n) C)) (hi : si e C = some (.ok (iT p) C)) (hv : sv e C = some (.ok (en c) C)) (hC : C[n]? = some (some (.t (zks g) (zvs en g)))) (hl : g.length < 1000000) :
    xSetT so si sv e C = some (.nx e (C.set n (some (.t (zks (putZ g p c)) (zvs en (putZ g p c)))))) := by
  have h1 : ky (vw C (iT p)) = some (kZ p) := ky_iT p
  unfold xSetT xDo
  rw [hv]
  dsimp only
  rw [ho]
  dsimp only
  rw [hi]
  dsimp only
  rw [hC]
  dsimp only
  rw [h1]
  dsimp only
  rw [if_pos ⟨hn c, by rw [zks_len]; exact hl⟩, addK_z g p c, putV_z]
theorem get2_z {en : α → D} {so si sz : S D} {e : Env} {C : Cells} {d z : D} {g : List (List Int × α)} {p : List Int} (ho : so e C = some (.ok d C)) (hd : vw C d = zD en g) (hi : si e C = some (.ok (iT p) C)) (hz : sz e C = some (.ok z C)) : xDGet2 so si sz e C = some (.ok (((getZ g p).map en).getD z) C) := by
  unfold xDGet2 S.bind
  rw [ho]
  dsimp only
  rw [hd, if_pos (isDt_z en g), hi]
  dsimp only
  rw [hz]
  dsimp only
  have : dDGet2 (zD en g) (vw C (iT p)) z = some (((getZ g p).map en).getD z) := dget2_z en g p z
  rw [hd, this]
  rfl
theorem vw_tz {en : α → D} {C : Cells} {n : Nat} {g : List (List Int × α)} (hC : C[n]? = some (some (.t (zks g) (zvs en g)))) : vw C (.cel n) = zD en g := by
  unfold vw
  simp only [hC]
  rfl
theorem frzT_z {en : α → D} {so : S D} {e : Env} {C : Cells} {n : Nat} {g : List (List Int × α)} (ho : so e C = some (.ok (.cel n) C)) (hC : C[n]? = some (some (.t (zks g) (zvs en g)))) : xFrzT so e C = some (.ok (zD en g) (C.set n none)) := by
  unfold xFrzT S.bind
  rw [ho]
  dsimp only
  unfold liveT
  simp only [hC]
  rfl
end
end Sm
end
section
set_option maxRecDepth 100000
set_option maxHeartbeats 0
namespace Sm
open PySem L2
variable {α : Type}
theorem rowsK2_z : ∀ f : List (List Int × α), rowsK2 (zks f) = some (f.map (·.1))
  | [] => rfl
  | e :: f => by
    have h2 : ∀ p : List Int, kRow (kZ p) = some p := fun p => by
      induction p with
      | nil => rfl
      | cons a p ih =>
        show (match kInt (.inl a), kRow (kZ p) with | some i, some r => some (i :: r) | _, _ => none) = _
        rw [ih]
        rfl
    show (match kRow (kZ e.1), rowsK2 (zks f) with | some r, some rs => some (r :: rs) | _, _ => none) = _
    rw [h2, rowsK2_z f]
    rfl
theorem srtD2_z (en : α → D) (f : List (List Int × α)) : srtD2 [zD en f] = some ((insS (f.map (·.1))).map iT) := by
  show (rowsK2 (zks f)).map (fun ns => (insS ns).map rowD) = _
  rw [rowsK2_z]
  rfl
end Sm
end
section
namespace Hk
/-- falling positive heights -/
structure Heap (B : Nat) (hs : List Int) : Prop where
  len : hs.length ≤ B
  fall : ∀ i j : Nat, i ≤ j → j < hs.length → hs.getD j 0 ≤ hs.getD i 0
  pos : ∀ i : Nat, i < hs.length → 1 ≤ hs.getD i 0 ∧ hs.getD i 0 ≤ B
def hk (hs : List Int) (c : Nat) (r : Int) : Int := hs.getD c 0 - r + (((hs.drop (c + 1)).filter fun h => decide (r < h)).length : Int)
def bead (hs : List Int) (c : Nat) : Int := hs.getD c 0 - c - 1
variable {B : Nat} {hs : List Int}
/-- no hook of k squares -/
def NoHook (hs : List Int) (k : Int) : Prop := ∀ (c : Nat) (r : Int), c < hs.length → 0 ≤ r → r < hs.getD c 0 → hk hs c r ≠ k
def IsCore (hs : List Int) (k : Int) : Prop := ∀ c, c < hs.length → bead hs c - k < -(hs.length : Int) ∨ ∃ j, j < hs.length ∧ bead hs j = bead hs c - k
end Hk
end
section
/-! beads, charges and letters of cores, in plain Lean -/
namespace Cr
open Hk
/-! ### sums over 0 .. n - 1 -/
def sm (n : Nat) (f : Nat → Int) : Int := ((List.range n).map f).sum
/-- two indices exchanged -/
def sw (e f r : Nat) : Nat := if r = e then f else if r = f then e else r
/-! ### letters of charges -/
/-- the place of the first gap of a rest -/
def tp (k : Nat) (c : Nat → Int) (r : Nat) : Int := (r : Int) + k * c r
def pr (k : Nat) (a : Int) : Int := if 0 < a then a / (k : Int) else 0
def lt (k : Nat) (c : Nat → Int) : Int := sm k fun r => sm k fun s => pr k (tp k c r - tp k c s)
end Cr
end
section
namespace Cr
open Hk
variable {B B' : Nat} {hs hs' : List Int}
/-! ### beads of a heap, on all integers -/
def Bd (hs : List Int) (z : Int) : Prop := ∃ i : Nat, bead hs i = z
/-! ### charges -/
def Chg (hs : List Int) (k : Nat) (c : Nat → Int) : Prop := ∀ r, r < k → ∀ q : Int, Bd hs ((r : Int) + k * q) ↔ q < c r
/-! ### growth -/
end Cr
end
section
namespace Cr
open Hk
variable {B B' : Nat} {hs hs' : List Int}
/-! ### counting -/
/-! ### charges, counted -/
def bds (hs : List Int) : List Int := (List.range hs.length).map (bead hs)
def negs (n : Nat) : List Int := (List.range n).map fun i : Nat => (i : Int) - n
def gaps (hs : List Int) : List Int := (negs hs.length).filter fun z => decide (z ∉ bds hs)
def rs (k : Nat) (L : List Int) (r : Nat) : Int := ((L.filter fun z => decide (z % (k : Int) = r)).length : Int)
def chg (k : Nat) (hs : List Int) (r : Nat) : Int := rs k ((bds hs).filter fun z => decide (0 ≤ z)) r - rs k (gaps hs) r
/-! ### letters, counted -/
def part (k : Nat) (hs : List Int) (c : Nat) : Int := (((List.range (hs.getD c 0).toNat).filter fun r : Nat => decide (hk hs c r < k)).length : Int)
end Cr
end
section
set_option maxRecDepth 100000
set_option maxHeartbeats 0
set_option exponentiation.threshold 1000000
namespace Sm
open PySem L2
/-! ### evaluation, rule by rule -/
section
variable {e e' e1 : Env} {C C1 C2 C3 : Cells} {d d' x y z x' y' : D} {ds ds' xs : List D} {i j l : Nat} {b : Bool}
/-! what kind of goal -/
/-! instances -/
/-! statements -/
def seqK (c : SS) (q : Option RS) : Option RS := match q with
  | some (.nx e' C') => c e' C'
  | r => r
/-! operators by values -/
end
end Sm
end
section
set_option maxRecDepth 100000
set_option maxHeartbeats 0
set_option exponentiation.threshold 1000000
namespace Sk47
open PySem L2 Sm
theorem vw_k {C : Cells} {ks : List Key} {ds : List D} : vw C (.dk ks ds) = .dk ks ds := rfl
theorem ie_k {ks : List Key} {ds : List D} : isErr (.dk ks ds) = false := rfl
/-- the dice that stand in the n-th cell, thrown k times -/
def Dc (C : Cells) (n k : Nat) : Prop := ∃ a b c : Int, C[n]? = some (some (.l [.int a, .int b, .int c])) ∧ 0 ≤ a ∧ 0 ≤ b ∧ b < 2147483648 ∧ 0 ≤ c ∧ c ≤ k
theorem small_dec {b : Int} (h0 : 0 ≤ b) (h : b < 2 ^ 80) : b.natAbs < 2 ^ 400000 := by
  refine Nat.lt_of_lt_of_le (m := 2 ^ 80) (by omega) (Nat.pow_le_pow_right (by decide) (by decide))
theorem Dc.mono {C : Cells} {n j k : Nat} (h : Dc C n j) (hk : j ≤ k) : Dc C n k := by
  obtain ⟨a, b, c, h1, h2, h3, h4, h5, h6⟩ := h
  exact ⟨a, b, c, h1, h2, h3, h4, h5, by omega⟩
theorem set_fr {C : Cells} {n m : Nat} {x : Option Ob} (hm : m ≠ n) : ((C.set n x).take C.length)[m]? = C[m]? := by
  rw [List.take_of_length_le (by simp), List.getElem?_set_ne (fun e => hm e.symm)]
local macro_rules | `(tactic| dsimp! [$ls,*] $[$l:location]?) => `(tactic| simp only [↓xDef,↓xSeq,↓xDo,↓xNext,↓xRet,↓xExp,↓xIfS,↓xAsg,↓gN,↓gT,↓gsC,↓gsN,↓xV,↓S.val,↓S.bind,↓S.opt,↓x2,↓x1,↓xN,↓xB,↓xD,↓xAnd,↓xOr,↓xNot,↓xIf,↓xAndV,↓xOrV,↓xNotV,↓xChain,↓aNil,↓aCons,↓xTup,↓few,↓xF,↓xC,↓xSetI,↓xPar,↓xCall,↓xFrz,↓xM,live,i2,dSub,dAdd,dMul,dMulA,dMod,dDiv,dLt,dLe,dGt,dGe,dIx,atI,dNeg,dAbs,dInt,dLen,dMin2,dMax2,dGcd,dTuple,↓iR1,↓iR2,↓iV,items,↓iEn,items1,nocel,nocels,List.map_cons,List.map_nil,List.getElem?_cons_zero,List.getElem?_cons_succ,List.getElem?_nil,List.set_cons_zero,List.set_cons_succ,List.length_cons,List.length_nil,List.replicate,List.cons_append,List.nil_append,Nat.reduceAdd,Nat.reduceSub,Bool.false_eq_true,if_true,if_false,Option.map_some,Option.bind_some,Option.bind_none,Bool.and_true,Bool.and_false,Bool.true_and,Bool.not_true,Bool.not_false,decide_true,decide_false,vw_n,vw_b,vw_i,vw_s,vw_u,vw_l,vw_o,ie_n,ie_b,ie_i,ie_s,ie_u,ie_l,ie_c,x10,x20,x21,x30,x31,x32,fin_b,fin_i,eq_ii,ne_ii,List.take_length,vw_k,ie_k,id_eq,Nat.reduceLeDiff,↓xSl,↓xAugI,↓oE,↓oNo,↓xLs,↓xExt,↓iZp, $ls,*] $[$l]?)
theorem roll_fr {C : Cells} {n k : Nat} {z : Int} (D : Dc C n k) (hk : k ≤ 1000000) (h0 : 0 < z) (h1 : z < 2 ^ 200) :
    ∃ v C', m__law_roll [.cel n, .int z] C = some (.ok (.int v) C') ∧ 0 ≤ v ∧ v < z ∧ C'.length = C.length ∧ Dc C' n (k + 1) ∧ ∀ m, m ≠ n → C'[m]? = C[m]? := by
  obtain ⟨a, b, c, hC, ha, hb, hb2, hc, hc2⟩ := D
  have hz : z.natAbs < 2 ^ 8000 := Nat.lt_of_lt_of_le (m := 2 ^ 200) (by omega) (Nat.pow_le_pow_right (by decide) (by decide))
  have hn : n < C.length := (List.getElem?_eq_some_iff.mp hC).1
  have hv := vw_c hC
  unfold m__law_roll b__law_roll
  by_cases hp : 0 < a
  · dsimp! [hC, hv, hp, h0, hz, and_self]
    refine ⟨_, _, rfl, Int.emod_nonneg _ (by omega), Int.emod_lt_of_pos _ h0, ?_, ?_, fun m hm => ?_⟩
    · simp
    · refine ⟨a / z, b, c, ?_, Int.ediv_nonneg ha (by omega), hb, hb2, hc, by omega⟩
      rw [List.getElem?_take, if_pos hn, List.getElem?_set_self hn]
    · exact set_fr hm
  · have hC2 : (C.set n (some (Ob.l [D.int a, D.int b, D.int (c + 1)])))[n]? = some (some (Ob.l [D.int a, D.int b, D.int (c + 1)])) := List.getElem?_set_self hn
    have hv2 := vw_c hC2
    have e1 : ∀ x : Int, (x % 2305843009213693951).natAbs < 2 ^ 400000 := fun x => small_dec (Int.emod_nonneg _ (by decide)) (by have := Int.emod_lt_of_pos x (b := 2305843009213693951) (by decide); omega)
    have e2 : ∀ x : Int, (x % 2305843009213693921).natAbs < 2 ^ 400000 := fun x => small_dec (Int.emod_nonneg _ (by decide)) (by have := Int.emod_lt_of_pos x (b := 2305843009213693921) (by decide); omega)
    have e3 : (c + 1).natAbs < 2 ^ 400000 := small_dec (by omega) (by omega)
    have e4 : (1000409 : Int).natAbs < 2 ^ 400000 := small_dec (by decide) (by decide)
    have e5 : (9479 : Int).natAbs < 2 ^ 400000 := small_dec (by decide) (by decide)
    have e6 : (0 : Int) < 2305843009213693951 ∧ (0 : Int) < 2305843009213693921 ∧ (0 : Int) < 2305843009213693907 := by decide
    have e7 : (0 : Int) < 4096 ∧ (4096 : Int).natAbs < 2 ^ 8000 := ⟨by decide, Nat.lt_of_lt_of_le (m := 2 ^ 80) (by decide) (Nat.pow_le_pow_right (by decide) (by decide))⟩
    dsimp! [hC, hv, hv2, hC2, hp, h0, hz, and_self, e1, e2, e3, e4, e5, e6.1, e6.2.1, e6.2.2, e7]
    refine ⟨_, _, rfl, Int.emod_nonneg _ (by omega), Int.emod_lt_of_pos _ h0, ?_, ?_, fun m hm => ?_⟩
    · simp
    · refine ⟨a, b, c + 1, ?_, ha, hb, hb2, by omega, by omega⟩
      rw [List.getElem?_take, if_pos hn, List.getElem?_set_self hn]
    · exact set_fr hm
theorem roll {C : Cells} {n k : Nat} {z : Int} (D : Dc C n k) (hk : k ≤ 1000000) (h0 : 0 < z) (h1 : z < 2 ^ 200) :
    ∃ v C', m__law_roll [.cel n, .int z] C = some (.ok (.int v) C') ∧ 0 ≤ v ∧ v < z ∧ C'.length = C.length ∧ Dc C' n (k + 1) := by
  obtain ⟨v, C', h1, h2, h3, h4, h5, _⟩ := roll_fr D hk h0 h1
  exact ⟨v, C', h1, h2, h3, h4, h5⟩
/-! ### what is judged -/
theorem is_whole {d : D} (C : Cells) (h : typed d = true) : m_is_whole [d] C = some (.ok (.bl (wholeB d)) C) := by
  unfold m_is_whole b_is_whole
  cases d <;> first | (simp [typed] at h; done) | (simp [↓xDef, ↓xSeq, ↓xDo, ↓xNext, ↓xRet, ↓xExp, ↓xIfS, ↓xAsg, ↓gN, ↓gT, ↓gsC, ↓gsN, ↓xV, ↓S.val, ↓S.bind, ↓S.opt, ↓x2, ↓x1, ↓xN, ↓xB, ↓xD, ↓xAnd, ↓xOr, ↓xNot, ↓xIf, ↓xAndV, ↓xOrV, ↓xNotV, ↓xChain, ↓aNil, ↓aCons, ↓xTup, ↓few, ↓xF, ↓xC, ↓xSetI, ↓xPar, ↓xCall, ↓xFrz, ↓xM, live, i2, dSub, dAdd, dMul, dMulA, dMod, dDiv, dLt, dLe, dGt, dGe, dIx, atI, dNeg, dAbs, dInt, dLen, dMin2, dMax2, dGcd, dTuple, ↓iR1, ↓iR2, ↓iV, items, ↓iEn, items1, nocel, nocels, List.map_cons, List.map_nil, List.getElem?_cons_zero, List.getElem?_cons_succ, List.getElem?_nil, List.set_cons_zero, List.set_cons_succ, List.length_cons, List.length_nil, List.replicate, List.cons_append, List.nil_append, Nat.reduceAdd, Nat.reduceSub, Bool.false_eq_true, if_true, if_false, Option.map_some, Option.bind_some, Option.bind_none, Bool.and_true, Bool.and_false, Bool.true_and, Bool.not_true, Bool.not_false, decide_true, decide_false, vw_n, vw_b, vw_i, vw_s, vw_u, vw_l, vw_o, ie_n, ie_b, ie_i, ie_s, ie_u, ie_l, ie_c, x10, x20, x21, x30, x31, x32, fin_b, fin_i, eq_ii, ne_ii, List.take_length, vw_k, ie_k, id_eq, Nat.reduceLeDiff, ↓xSl, ↓xAugI, ↓oE, ↓oNo, ↓xLs, ↓xExt, ↓iZp, isi_int h, isi_bool h, intB, blB, wholeB]; done)
def withinB (d : D) (lo hi : Int) : Bool := match d with
  | .int i => decide (lo ≤ i) && decide (i ≤ hi)
  | _ => false
theorem is_within {d : D} {lo hi : Int} (C : Cells) (h : typed d = true) : m_is_within [d, .int lo, .int hi] C = some (.ok (.bl (withinB d lo hi)) C) := by
  unfold m_is_within b_is_within
  dsimp! [vw_t h, ie_t h, is_whole C h]
  cases d <;> first | (simp [↓xDef, ↓xSeq, ↓xDo, ↓xNext, ↓xRet, ↓xExp, ↓xIfS, ↓xAsg, ↓gN, ↓gT, ↓gsC, ↓gsN, ↓xV, ↓S.val, ↓S.bind, ↓S.opt, ↓x2, ↓x1, ↓xN, ↓xB, ↓xD, ↓xAnd, ↓xOr, ↓xNot, ↓xIf, ↓xAndV, ↓xOrV, ↓xNotV, ↓xChain, ↓aNil, ↓aCons, ↓xTup, ↓few, ↓xF, ↓xC, ↓xSetI, ↓xPar, ↓xCall, ↓xFrz, ↓xM, live, i2, dSub, dAdd, dMul, dMulA, dMod, dDiv, dLt, dLe, dGt, dGe, dIx, atI, dNeg, dAbs, dInt, dLen, dMin2, dMax2, dGcd, dTuple, ↓iR1, ↓iR2, ↓iV, items, ↓iEn, items1, nocel, nocels, List.map_cons, List.map_nil, List.getElem?_cons_zero, List.getElem?_cons_succ, List.getElem?_nil, List.set_cons_zero, List.set_cons_succ, List.length_cons, List.length_nil, List.replicate, List.cons_append, List.nil_append, Nat.reduceAdd, Nat.reduceSub, Bool.false_eq_true, if_true, if_false, Option.map_some, Option.bind_some, Option.bind_none, Bool.and_true, Bool.and_false, Bool.true_and, Bool.not_true, Bool.not_false, decide_true, decide_false, vw_n, vw_b, vw_i, vw_s, vw_u, vw_l, vw_o, ie_n, ie_b, ie_i, ie_s, ie_u, ie_l, ie_c, x10, x20, x21, x30, x31, x32, fin_b, fin_i, eq_ii, ne_ii, List.take_length, vw_k, ie_k, id_eq, Nat.reduceLeDiff, ↓xSl, ↓xAugI, ↓oE, ↓oNo, ↓xLs, ↓xExt, ↓iZp, wholeB, withinB, dLe]; done) | skip
  rename_i i
  by_cases hq : lo ≤ i <;> simp [↓xDef, ↓xSeq, ↓xDo, ↓xNext, ↓xRet, ↓xExp, ↓xIfS, ↓xAsg, ↓gN, ↓gT, ↓gsC, ↓gsN, ↓xV, ↓S.val, ↓S.bind, ↓S.opt, ↓x2, ↓x1, ↓xN, ↓xB, ↓xD, ↓xAnd, ↓xOr, ↓xNot, ↓xIf, ↓xAndV, ↓xOrV, ↓xNotV, ↓xChain, ↓aNil, ↓aCons, ↓xTup, ↓few, ↓xF, ↓xC, ↓xSetI, ↓xPar, ↓xCall, ↓xFrz, ↓xM, live, i2, dSub, dAdd, dMul, dMulA, dMod, dDiv, dLt, dLe, dGt, dGe, dIx, atI, dNeg, dAbs, dInt, dLen, dMin2, dMax2, dGcd, dTuple, ↓iR1, ↓iR2, ↓iV, items, ↓iEn, items1, nocel, nocels, List.map_cons, List.map_nil, List.getElem?_cons_zero, List.getElem?_cons_succ, List.getElem?_nil, List.set_cons_zero, List.set_cons_succ, List.length_cons, List.length_nil, List.replicate, List.cons_append, List.nil_append, Nat.reduceAdd, Nat.reduceSub, Bool.false_eq_true, if_true, if_false, Option.map_some, Option.bind_some, Option.bind_none, Bool.and_true, Bool.and_false, Bool.true_and, Bool.not_true, Bool.not_false, decide_true, decide_false, vw_n, vw_b, vw_i, vw_s, vw_u, vw_l, vw_o, ie_n, ie_b, ie_i, ie_s, ie_u, ie_l, ie_c, x10, x20, x21, x30, x31, x32, fin_b, fin_i, eq_ii, ne_ii, List.take_length, vw_k, ie_k, id_eq, Nat.reduceLeDiff, ↓xSl, ↓xAugI, ↓oE, ↓oNo, ↓xLs, ↓xExt, ↓iZp, wholeB, withinB, dLe, hq]
def ringB : D → Bool
  | .tup [x, y] => withinB x 2 60 && (match x with
    | .int i => withinB y 1 (i - 1)
    | _ => false)
  | _ => false
def typedT : D → Bool
  | .tup ds => ds.all typed
  | d => typed d
theorem typedT_t {d : D} (h : typedT d = true) : typed d = true := by
  cases d <;> first | rfl | exact h
theorem is_ring_in {d : D} (C : Cells) (h : typedT d = true) : m_is_ring_in [d] C = some (.ok (.bl (ringB d)) C) := by
  have h1 := typedT_t h
  unfold m_is_ring_in b_is_ring_in
  dsimp! [vw_t h1, ie_t h1, isi_tup h1]
  cases d with
  | tup ds =>
    dsimp! [tupB]
    by_cases hl : ds.length = 2
    · match ds, hl, h with
      | [x, y], _, h =>
        have hx : typed x = true := by simp [typedT] at h; exact h.1
        have hy : typed y = true := by simp [typedT] at h; exact h.2
        dsimp! [is_within C hx]
        cases hw : withinB x 2 60 with
        | false => simp [↓xDef, ↓xSeq, ↓xDo, ↓xNext, ↓xRet, ↓xExp, ↓xIfS, ↓xAsg, ↓gN, ↓gT, ↓gsC, ↓gsN, ↓xV, ↓S.val, ↓S.bind, ↓S.opt, ↓x2, ↓x1, ↓xN, ↓xB, ↓xD, ↓xAnd, ↓xOr, ↓xNot, ↓xIf, ↓xAndV, ↓xOrV, ↓xNotV, ↓xChain, ↓aNil, ↓aCons, ↓xTup, ↓few, ↓xF, ↓xC, ↓xSetI, ↓xPar, ↓xCall, ↓xFrz, ↓xM, live, i2, dSub, dAdd, dMul, dMulA, dMod, dDiv, dLt, dLe, dGt, dGe, dIx, atI, dNeg, dAbs, dInt, dLen, dMin2, dMax2, dGcd, dTuple, ↓iR1, ↓iR2, ↓iV, items, ↓iEn, items1, nocel, nocels, List.map_cons, List.map_nil, List.getElem?_cons_zero, List.getElem?_cons_succ, List.getElem?_nil, List.set_cons_zero, List.set_cons_succ, List.length_cons, List.length_nil, List.replicate, List.cons_append, List.nil_append, Nat.reduceAdd, Nat.reduceSub, Bool.false_eq_true, if_true, if_false, Option.map_some, Option.bind_some, Option.bind_none, Bool.and_true, Bool.and_false, Bool.true_and, Bool.not_true, Bool.not_false, decide_true, decide_false, vw_n, vw_b, vw_i, vw_s, vw_u, vw_l, vw_o, ie_n, ie_b, ie_i, ie_s, ie_u, ie_l, ie_c, x10, x20, x21, x30, x31, x32, fin_b, fin_i, eq_ii, ne_ii, List.take_length, vw_k, ie_k, id_eq, Nat.reduceLeDiff, ↓xSl, ↓xAugI, ↓oE, ↓oNo, ↓xLs, ↓xExt, ↓iZp, is_within C hx, hw, ringB]
        | true =>
          cases x with
          | int i =>
            simp [↓xDef, ↓xSeq, ↓xDo, ↓xNext, ↓xRet, ↓xExp, ↓xIfS, ↓xAsg, ↓gN, ↓gT, ↓gsC, ↓gsN, ↓xV, ↓S.val, ↓S.bind, ↓S.opt, ↓x2, ↓x1, ↓xN, ↓xB, ↓xD, ↓xAnd, ↓xOr, ↓xNot, ↓xIf, ↓xAndV, ↓xOrV, ↓xNotV, ↓xChain, ↓aNil, ↓aCons, ↓xTup, ↓few, ↓xF, ↓xC, ↓xSetI, ↓xPar, ↓xCall, ↓xFrz, ↓xM, live, i2, dSub, dAdd, dMul, dMulA, dMod, dDiv, dLt, dLe, dGt, dGe, dIx, atI, dNeg, dAbs, dInt, dLen, dMin2, dMax2, dGcd, dTuple, ↓iR1, ↓iR2, ↓iV, items, ↓iEn, items1, nocel, nocels, List.map_cons, List.map_nil, List.getElem?_cons_zero, List.getElem?_cons_succ, List.getElem?_nil, List.set_cons_zero, List.set_cons_succ, List.length_cons, List.length_nil, List.replicate, List.cons_append, List.nil_append, Nat.reduceAdd, Nat.reduceSub, Bool.false_eq_true, if_true, if_false, Option.map_some, Option.bind_some, Option.bind_none, Bool.and_true, Bool.and_false, Bool.true_and, Bool.not_true, Bool.not_false, decide_true, decide_false, vw_n, vw_b, vw_i, vw_s, vw_u, vw_l, vw_o, ie_n, ie_b, ie_i, ie_s, ie_u, ie_l, ie_c, x10, x20, x21, x30, x31, x32, fin_b, fin_i, eq_ii, ne_ii, List.take_length, vw_k, ie_k, id_eq, Nat.reduceLeDiff, ↓xSl, ↓xAugI, ↓oE, ↓oNo, ↓xLs, ↓xExt, ↓iZp, is_within C hx, hw, ringB, is_within C hy]
          | _ => simp [withinB] at hw
    · have hl2 : ((ds.length : Int) == 2) = false := by simp; omega
      have hr : ringB (.tup ds) = false := by
        match ds, hl with
        | [], _ => rfl
        | [_], _ => rfl
        | _ :: _ :: _ :: _, _ => rfl
        | [_, _], h => exact absurd rfl h
      simp [↓xDef, ↓xSeq, ↓xDo, ↓xNext, ↓xRet, ↓xExp, ↓xIfS, ↓xAsg, ↓gN, ↓gT, ↓gsC, ↓gsN, ↓xV, ↓S.val, ↓S.bind, ↓S.opt, ↓x2, ↓x1, ↓xN, ↓xB, ↓xD, ↓xAnd, ↓xOr, ↓xNot, ↓xIf, ↓xAndV, ↓xOrV, ↓xNotV, ↓xChain, ↓aNil, ↓aCons, ↓xTup, ↓few, ↓xF, ↓xC, ↓xSetI, ↓xPar, ↓xCall, ↓xFrz, ↓xM, live, i2, dSub, dAdd, dMul, dMulA, dMod, dDiv, dLt, dLe, dGt, dGe, dIx, atI, dNeg, dAbs, dInt, dLen, dMin2, dMax2, dGcd, dTuple, ↓iR1, ↓iR2, ↓iV, items, ↓iEn, items1, nocel, nocels, List.map_cons, List.map_nil, List.getElem?_cons_zero, List.getElem?_cons_succ, List.getElem?_nil, List.set_cons_zero, List.set_cons_succ, List.length_cons, List.length_nil, List.replicate, List.cons_append, List.nil_append, Nat.reduceAdd, Nat.reduceSub, Bool.false_eq_true, if_true, if_false, Option.map_some, Option.bind_some, Option.bind_none, Bool.and_true, Bool.and_false, Bool.true_and, Bool.not_true, Bool.not_false, decide_true, decide_false, vw_n, vw_b, vw_i, vw_s, vw_u, vw_l, vw_o, ie_n, ie_b, ie_i, ie_s, ie_u, ie_l, ie_c, x10, x20, x21, x30, x31, x32, fin_b, fin_i, eq_ii, ne_ii, List.take_length, vw_k, ie_k, id_eq, Nat.reduceLeDiff, ↓xSl, ↓xAugI, ↓oE, ↓oNo, ↓xLs, ↓xExt, ↓iZp, hl2, hr]
  | _ => simp [↓xDef, ↓xSeq, ↓xDo, ↓xNext, ↓xRet, ↓xExp, ↓xIfS, ↓xAsg, ↓gN, ↓gT, ↓gsC, ↓gsN, ↓xV, ↓S.val, ↓S.bind, ↓S.opt, ↓x2, ↓x1, ↓xN, ↓xB, ↓xD, ↓xAnd, ↓xOr, ↓xNot, ↓xIf, ↓xAndV, ↓xOrV, ↓xNotV, ↓xChain, ↓aNil, ↓aCons, ↓xTup, ↓few, ↓xF, ↓xC, ↓xSetI, ↓xPar, ↓xCall, ↓xFrz, ↓xM, live, i2, dSub, dAdd, dMul, dMulA, dMod, dDiv, dLt, dLe, dGt, dGe, dIx, atI, dNeg, dAbs, dInt, dLen, dMin2, dMax2, dGcd, dTuple, ↓iR1, ↓iR2, ↓iV, items, ↓iEn, items1, nocel, nocels, List.map_cons, List.map_nil, List.getElem?_cons_zero, List.getElem?_cons_succ, List.getElem?_nil, List.set_cons_zero, List.set_cons_succ, List.length_cons, List.length_nil, List.replicate, List.cons_append, List.nil_append, Nat.reduceAdd, Nat.reduceSub, Bool.false_eq_true, if_true, if_false, Option.map_some, Option.bind_some, Option.bind_none, Bool.and_true, Bool.and_false, Bool.true_and, Bool.not_true, Bool.not_false, decide_true, decide_false, vw_n, vw_b, vw_i, vw_s, vw_u, vw_l, vw_o, ie_n, ie_b, ie_i, ie_s, ie_u, ie_l, ie_c, x10, x20, x21, x30, x31, x32, fin_b, fin_i, eq_ii, ne_ii, List.take_length, vw_k, ie_k, id_eq, Nat.reduceLeDiff, ↓xSl, ↓xAugI, ↓oE, ↓oNo, ↓xLs, ↓xExt, ↓iZp, tupB, ringB]
def chainB : D → Bool
  | .tup ds => decide (1 ≤ ds.length) && decide (ds.length ≤ 12) && ds.all ringB
  | _ => false
def typedC : D → Bool
  | .tup ds => ds.all typedT
  | d => typed d
theorem bls_map (p : D → Bool) : ∀ ds : List D, bls (ds.map fun d => .bl (p d)) = some (ds.map p)
  | [] => rfl
  | d :: ds => by
    show ((bls (ds.map fun d => .bl (p d))).map (p d :: ·)) = _
    rw [bls_map p ds]
    rfl
theorem lc_chain {ds : List D} (C : Cells) (h : ds.all typedT = true) (hl : ds.length ≤ 1000000) : q1_is_chain_in [some (.tup ds), none] C = some (.ok (ds.map fun d => .bl (ringB d)) C) := by
  have e := lcs_map (g := gd0) (t := gN 1) (c := S.val true) (x := xCall m_is_ring_in (aCons (xV 1) aNil)) (e := [some (.tup ds), none]) (C := C) rfl (p := fun _ => true) (f := fun d => .bl (ringB d)) ds fun d hd => by
    have ht : typedT d = true := List.all_eq_true.mp h d hd
    refine ⟨[some (.tup ds), some d], rfl, rfl, fun _ => ?_⟩
    dsimp! [ie_t (typedT_t ht), is_ring_in C ht]
  rw [List.filter_eq_self.mpr (fun _ _ => rfl)] at e
  exact xLc_ok (by dsimp! []) hl e
theorem is_chain_in {d : D} (C : Cells) (h : typedC d = true) : m_is_chain_in [d] C = some (.ok (.bl (chainB d)) C) := by
  have h1 : typed d = true := by cases d <;> first | rfl | exact h
  unfold m_is_chain_in b_is_chain_in
  cases d with
  | tup ds =>
    have h : ds.all typedT = true := h
    dsimp! [isi_tup h1, tupB, chainB]
    by_cases hl1 : 1 ≤ ds.length
    · have q1 : decide ((1 : Int) ≤ (ds.length : Int)) = true := by simp; omega
      by_cases hl2 : ds.length ≤ 12
      · have q2 : decide ((ds.length : Int) ≤ 12) = true := by simp; omega
        dsimp! [lc_chain C h (by omega), q1, q2, dAll, bls_map, hl1, hl2, dLe]
        rw [List.all_map]
        rfl
      · have q2 : decide ((ds.length : Int) ≤ 12) = false := by simp; omega
        dsimp! [q1, q2, hl1, hl2, dLe, Bool.false_and]
    · have q1 : decide ((1 : Int) ≤ (ds.length : Int)) = false := by simp; omega
      dsimp! [q1, hl1, dLe, decide_false, Bool.false_and]
  | _ => first | (simp [typed] at h1; done) | dsimp! [isi_tup h1, tupB, chainB]
theorem req_chain {d : D} (C : Cells) (h : typedC d = true) (hc : chainB d = true) : m_require_chain [d] C = some (.ok .non C) := by
  have h1 : typed d = true := by cases d <;> first | rfl | exact h
  unfold m_require_chain b_require_chain
  dsimp! [ie_t h1, is_chain_in C h, hc]
/-- a ring -/
abbrev rg (n s : Int) : D := .tup [.int n, .int s]
theorem ring_ok {n s : Int} (h1 : 2 ≤ n) (h2 : n ≤ 60) (h3 : 1 ≤ s) (h4 : s < n) : ringB (rg n s) = true := by
  simp [ringB, withinB, h1, h2, h3]
  omega
theorem one_of {C : Cells} {n k : Nat} {ds : List D} (D0 : Dc C n k) (hk : k ≤ 1000000) (h0 : ds ≠ []) (h1 : ds.length < 1000000) (hc : ∀ d ∈ ds, nocel d = true) :
    ∃ d C', m__law_one_of [.cel n, .lst ds] C = some (.ok d C') ∧ d ∈ ds ∧ C'.length = C.length ∧ Dc C' n (k + 1) := by
  have hp : 0 < ds.length := List.length_pos_iff.mpr h0
  obtain ⟨v, C', e, v0, v1, hl, D1⟩ := roll (z := (ds.length : Int)) D0 hk (by omega) (by omega)
  obtain ⟨i, rfl⟩ := Int.eq_ofNat_of_zero_le v0
  have hi : i < ds.length := by omega
  refine ⟨ds[i], C', ?_, List.getElem_mem hi, hl, D1⟩
  unfold m__law_one_of b__law_one_of
  have q : fin C.length ds[i] C' = some (.ok ds[i] C') := by
    rw [fin_n (hc _ (List.getElem_mem hi)), ← hl, List.take_length]
  dsimp! [e, ixN_nat hi, List.getElem?_eq_getElem hi, q]
theorem ring_made {C : Cells} {n k : Nat} {m : Int} (D0 : Dc C n k) (hk : k ≤ 900000) (h0 : 2 ≤ m) (h1 : m ≤ 1000) :
    ∃ a s C', m__law_ring [.cel n, .int m] C = some (.ok (rg a s) C') ∧ 2 ≤ a ∧ a ≤ m ∧ 1 ≤ s ∧ s < a ∧ C'.length = C.length ∧ Dc C' n (k + 2) := by
  obtain ⟨v, C1, e1, v0, v1, hl, D1⟩ := roll (z := m - 1) D0 (by omega) (by omega) (by omega)
  obtain ⟨u, C2, e2, u0, u1, hl2, D2⟩ := roll (z := 2 + v - 1) D1 (by omega) (by omega) (by omega)
  refine ⟨2 + v, 1 + u, C2, ?_, by omega, by omega, by omega, by omega, by omega, D2⟩
  unfold m__law_ring b__law_ring
  have q : fin C.length (rg (2 + v) (1 + u)) C2 = some (.ok (rg (2 + v) (1 + u)) C2) := by
    rw [fin_n rfl, ← hl, ← hl2, List.take_length]
  dsimp! [e1, e2, Nat.reduceLeDiff, q]
theorem common {k o g : Int} (C : Cells) (h : b__law_common [some (.int k), some (.int o)] C = some (.ret (.int g) C)) : m__law_common [.int k, .int o] C = some (.ok (.int g) C) := by
  unfold m__law_common
  dsimp! [h]
theorem com21 (C : Cells) : m__law_common [.int 2, .int 1] C = some (.ok (.int 1) C) := common C rfl
theorem com31 (C : Cells) : m__law_common [.int 3, .int 1] C = some (.ok (.int 1) C) := common C rfl
theorem com32 (C : Cells) : m__law_common [.int 3, .int 2] C = some (.ok (.int 1) C) := common C rfl
theorem com41 (C : Cells) : m__law_common [.int 4, .int 1] C = some (.ok (.int 1) C) := common C rfl
theorem com42 (C : Cells) : m__law_common [.int 4, .int 2] C = some (.ok (.int 2) C) := common C rfl
theorem com43 (C : Cells) : m__law_common [.int 4, .int 3] C = some (.ok (.int 1) C) := common C rfl
theorem steps_of {k : Int} (hk : k = 2 ∨ k = 3 ∨ k = 4) (C : Cells) (a b c : D) : ∃ ds : List D, q1__law_ring_of [some a, some (.int k), some b, some c, none, none] C = some (.ok ds C) ∧ ds ≠ [] ∧ ds.length ≤ 3 ∧ ∀ d ∈ ds, ∃ o, d = .int o ∧ 1 ≤ o ∧ o < k := by
  rcases hk with rfl | rfl | rfl
  · refine ⟨[.int 1], ?_, by simp, by simp, fun d hd => ⟨1, by simpa using hd, by decide, by decide⟩⟩
    refine xLc_ok (ds := [.int 1]) (g := gd0) (C1 := C) (iR2_ok (i := 1) (j := 2) rfl (by decide) (by decide)) (by simp) ?_
    dsimp! [lcs, gd0, wipeE, com21]
    rfl
  · refine ⟨[.int 1, .int 2], ?_, by simp, by simp, fun d hd => ?_⟩
    · refine xLc_ok (ds := [.int 1, .int 2]) (g := gd0) (C1 := C) (iR2_ok (i := 1) (j := 3) rfl (by decide) (by decide)) (by simp) ?_
      dsimp! [lcs, gd0, wipeE, com31, com32]
      rfl
    · simp at hd
      rcases hd with rfl | rfl
      · exact ⟨1, rfl, by decide, by decide⟩
      · exact ⟨2, rfl, by decide, by decide⟩
  · refine ⟨[.int 1, .int 3], ?_, by simp, by simp, fun d hd => ?_⟩
    · refine xLc_ok (ds := [.int 1, .int 2, .int 3]) (g := gd0) (C1 := C) (iR2_ok (i := 1) (j := 4) rfl (by decide) (by decide)) (by simp) ?_
      dsimp! [lcs, gd0, wipeE, com41, com42, com43]
      rfl
    · simp at hd
      rcases hd with rfl | rfl
      · exact ⟨1, rfl, by decide, by decide⟩
      · exact ⟨3, rfl, by decide, by decide⟩
theorem ring_of {C : Cells} {n k : Nat} {z t : Int} (hz : z = 2 ∨ z = 3 ∨ z = 4) (D0 : Dc C n k) (hk : k ≤ 900000) (h0 : 1 ≤ t) (h1 : t ≤ 1000) :
    ∃ a s C', m__law_ring_of [.cel n, .int z, .int t] C = some (.ok (rg a s) C') ∧ 2 ≤ a ∧ a ≤ z * t ∧ 1 ≤ s ∧ s < a ∧ C'.length = C.length ∧ Dc C' n (k + 2) := by
  obtain ⟨v, C1, e1, v0, v1, hl, D1⟩ := roll (z := t) D0 (by omega) (by omega) (by omega)
  obtain ⟨ds, hq, hne, hlen, hds⟩ := steps_of hz C1 (.cel n) (.int t) (.int (1 + v))
  obtain ⟨d, C2, e2, hd, hl2, D2⟩ := one_of (ds := ds) D1 (by omega) hne (by omega) fun d hd => by
    obtain ⟨o, rfl, _⟩ := hds d hd
    rfl
  obtain ⟨o, rfl, o1, o2⟩ := hds d hd
  have b1 : z.natAbs < 2 ^ 400000 := small_dec (by omega) (by omega)
  have b2 : (1 + v).natAbs < 2 ^ 400000 := small_dec (by omega) (by omega)
  have b3 : o.natAbs < 2 ^ 400000 := small_dec (by omega) (by omega)
  have m1 : 1 ≤ (1 + v) * o := by
    have := Int.mul_le_mul (show (1 : Int) ≤ 1 + v by omega) o1 (by omega) (by omega)
    omega
  have m2 : (1 + v) * o < z * (1 + v) := by
    rw [Int.mul_comm z]
    exact Int.mul_lt_mul_of_pos_left o2 (by omega)
  have m3 : z * (1 + v) ≤ z * t := Int.mul_le_mul_of_nonneg_left (by omega) (by omega)
  refine ⟨z * (1 + v), (1 + v) * o, C2, ?_, by omega, m3, m1, m2, by omega, D2⟩
  unfold m__law_ring_of b__law_ring_of
  have q : fin C.length (rg (z * (1 + v)) ((1 + v) * o)) C2 = some (.ok (rg (z * (1 + v)) ((1 + v) * o)) C2) := by
    rw [fin_n rfl, ← hl, ← hl2, List.take_length]
  dsimp! [e1, e2, hq, b1, b2, b3, and_self, Nat.reduceLeDiff, q]
def isRg (d : D) : Prop := ∃ a s : Int, d = rg a s ∧ 2 ≤ a ∧ a ≤ 60 ∧ 1 ≤ s ∧ s < a
theorem isRg.nc {d : D} (h : isRg d) : nocel d = true := by
  obtain ⟨a, s, rfl, _⟩ := h
  rfl
def isRgM (mo : Int) (d : D) : Prop := ∃ a s : Int, d = rg a s ∧ 2 ≤ a ∧ a ≤ mo ∧ 1 ≤ s ∧ s < a
theorem isRgM.rg {mo : Int} {d : D} (h : isRgM mo d) (hm : mo ≤ 60) : isRg d := by
  obtain ⟨a, s, rfl, h1, h2, h3, h4⟩ := h
  exact ⟨a, s, rfl, h1, by omega, h3, h4⟩
theorem chain_made {C : Cells} {n k : Nat} {r : Int} (D0 : Dc C n k) (hk : k ≤ 800000) (h0 : 1 ≤ r) (h1 : r ≤ 40) {mo : Int} (h2 : 2 ≤ mo) (h3 : mo ≤ 60) :
    ∃ ds C', m__law_chain [.cel n, .int r, .int mo] C = some (.ok (.tup ds) C') ∧ ds.length = r.toNat ∧ (∀ d ∈ ds, isRgM mo d) ∧ C'.length = C.length ∧ Dc C' n (k + 100) := by
  obtain ⟨v, C1, e1, v0, v1, hl, D1⟩ := roll (z := 3) D0 (by omega) (by omega) (by omega)
  have hr := rng1_ok (z := r) (by omega) (by omega)
  by_cases hv : v = 0
  · subst hv
    obtain ⟨m0, hm0⟩ : ∃ m0 : Int, (if mo - 1 < 3 then mo - 1 else 3) = m0 := ⟨_, rfl⟩
    have hm1 : 1 ≤ m0 ∧ m0 ≤ 3 ∧ m0 ≤ mo - 1 := by split at hm0 <;> omega
    obtain ⟨w, C2, e2, w0, w1, hl2, D2⟩ := roll (z := m0) D1 (by omega) (by omega) (by omega)
    have hz : 2 + w = 2 ∨ 2 + w = 3 ∨ 2 + w = 4 := by omega
    have ht : 1 ≤ mo / (2 + w) ∧ mo / (2 + w) ≤ 1000 ∧ (2 + w) * (mo / (2 + w)) ≤ mo := by
      rcases hz with h | h | h <;> rw [h] <;> omega
    have b1 : (0 : Int) < 2 + w := by omega
    have b2 : (2 + w).natAbs < 2 ^ 8000 := Nat.lt_of_lt_of_le (m := 2 ^ 8) (by omega) (Nat.pow_le_pow_right (by decide) (by decide))
    obtain ⟨ds, C3, e3, g1, g2, g3, g4⟩ := lcs_go (t := gN 4) (x := xCall m__law_ring_of (aCons (xV 0) (aCons (xV 3) (aCons (x2 dDiv (xV 2) (xV 3)) aNil)))) (e := [some (.cel n), some (.int r), some (.int mo), some (.int (2 + w)), none])
      (fun j C' => C'.length = C.length ∧ Dc C' n (k + 2 + 2 * j)) (isRgM mo) (zs 0 r.toNat) 0 C2 ⟨by omega, D2⟩ fun d hd j C' hj ⟨p1, p2⟩ => by
        rw [zs_len] at hj
        obtain ⟨a, s, C4, e4, a1, a2, s1, s2, hl4, D4⟩ := ring_of hz p2 (by omega) ht.1 ht.2.1
        refine ⟨_, rfl, rg a s, C4, ?_, ⟨a, s, rfl, a1, by omega, s1, s2⟩, by omega, D4⟩
        dsimp! [b1, b2, and_self, e4]
    rw [zs_len] at g1 g4
    refine ⟨ds, C3, ?_, g1, g2, g3, g4.mono (by omega)⟩
    have q : fin C.length (.tup ds) C3 = some (.ok (.tup ds) C3) := by
      rw [fin_n (show nocel (.tup ds) = true from nocels_all fun d hd => ((g2 d hd).rg h3).nc), ← g3, List.take_length]
    have hq : q1__law_chain [some (.cel n), some (.int r), some (.int mo), some (.int (2 + w)), none] C2 = some (.ok ds C3) :=
      xLc_ok (ds := zs 0 r.toNat) (g := gd0) (C1 := C2) (by dsimp! [hr]) (by rw [zs_len]; omega) e3
    unfold m__law_chain b__law_chain
    dsimp! [e1, e2, hq, hm0, if_false, Nat.reduceLeDiff, q, beq_self_eq_true]
  · obtain ⟨ds, C3, e3, g1, g2, g3, g4⟩ := lcs_go (t := gN 4) (x := xCall m__law_ring (aCons (xV 0) (aCons (xV 2) aNil))) (e := [some (.cel n), some (.int r), some (.int mo), none, none])
      (fun j C' => C'.length = C.length ∧ Dc C' n (k + 1 + 2 * j)) (isRgM mo) (zs 0 r.toNat) 0 C1 ⟨by omega, D1⟩ fun d hd j C' hj ⟨p1, p2⟩ => by
        rw [zs_len] at hj
        obtain ⟨a, s, C4, e4, a1, a2, s1, s2, hl4, D4⟩ := ring_made (m := mo) p2 (by omega) (by omega) (by omega)
        refine ⟨_, rfl, rg a s, C4, ?_, ⟨a, s, rfl, a1, by omega, s1, s2⟩, by omega, D4⟩
        dsimp! [e4]
    rw [zs_len] at g1 g4
    refine ⟨ds, C3, ?_, g1, g2, g3, g4.mono (by omega)⟩
    have q : fin C.length (.tup ds) C3 = some (.ok (.tup ds) C3) := by
      rw [fin_n (show nocel (.tup ds) = true from nocels_all fun d hd => ((g2 d hd).rg h3).nc), ← g3, List.take_length]
    have hq : q2__law_chain [some (.cel n), some (.int r), some (.int mo), none, none] C1 = some (.ok ds C3) :=
      xLc_ok (ds := zs 0 r.toNat) (g := gd0) (C1 := C1) (by dsimp! [hr]) (by rw [zs_len]; omega) e3
    have hv2 : (v == 0) = false := by simpa using hv
    unfold m__law_chain b__law_chain
    dsimp! [e1, hv2, hq, q]
theorem pw_60 : dPow (.int 10) (.int 60) = some (.int 1000000000000000000000000000000000000000000000000000000000000) := by
  unfold dPow i2
  simp only []
  rw [if_pos (by decide +kernel)]
  rfl
theorem pw_18 : dPow (.int 10) (.int 18) = some (.int 1000000000000000000) := by
  unfold dPow i2
  simp only []
  rw [if_pos (by decide +kernel)]
  rfl
theorem pw_600 : dPow (.int 1000000000000000000000000000000000000000000000000000000000000) (.int 10) = some (.int (1000000000000000000000000000000000000000000000000000000000000 ^ 10)) := by
  unfold dPow i2
  simp only []
  rw [if_pos (by decide +kernel)]
  rfl
theorem ixN_int {n : Nat} {i : Int} (h0 : 0 ≤ i) (h1 : i < n) : ixN n i = some i.toNat := by
  unfold ixN
  simp [h0, h1]
theorem fin_end {C : Cells} {ds : List D} : fin C.length (.cel C.length) (C ++ [some (Ob.l ds)]) = some (.ok (.cel C.length) (C ++ [some (Ob.l ds)])) := by
  simp [fin, nocel]
theorem dice_of (C : Cells) {z I B : Int} (h0 : 0 ≤ I) (h1 : I ≤ 6) (hB : 0 < B) : ∃ l m : Int, 0 ≤ l ∧ 0 ≤ m ∧ m < 2147483648 ∧
    l = (if z < 0 then -z else z) % B / 1000000000000000000 ∧ m = ((if z < 0 then -z else z) % B % 2147482697 * 60497 + 3533 * I + 89 * (if decide (z < 0) = true then 1 else 0) + 109) % 2147482661 := by
  refine ⟨_, _, ?_, ?_, ?_, rfl, rfl⟩
  · exact Int.ediv_nonneg (Int.emod_nonneg _ (by omega)) (by decide)
  · exact Int.emod_nonneg _ (by decide)
  · have := Int.emod_lt_of_pos ((if z < 0 then -z else z) % B % 2147482697 * 60497 + 3533 * I + 89 * (if decide (z < 0) = true then 1 else 0) + 109) (b := 2147482661) (by decide)
    omega
theorem dice {ns : List Int} (C : Cells) {I : Int} (h0 : 0 ≤ I) (h1 : I ≤ 6) : ∃ l m : Int, m__law_dice [.lst (ns.map D.int), .int I] C = some (.ok (.cel C.length) (C ++ [some (.l [.int l, .int m, .int 0])])) ∧ 0 ≤ l ∧ 0 ≤ m ∧ m < 2147483648 := by
  have c1 : (101 : Int).natAbs < 2 ^ 400000 := small_dec (by decide) (by decide)
  have c2 : I.natAbs < 2 ^ 400000 := small_dec h0 (by omega)
  have c3 : (3533 : Int).natAbs < 2 ^ 400000 := small_dec (by decide) (by decide)
  have c4 : (89 : Int).natAbs < 2 ^ 400000 := small_dec (by decide) (by decide)
  have c5 : (60497 : Int).natAbs < 2 ^ 400000 := small_dec (by decide) (by decide)
  have c6 : ∀ x : Int, (x % 2147482697).natAbs < 2 ^ 400000 := fun x => small_dec (Int.emod_nonneg _ (by decide)) (by have := Int.emod_lt_of_pos x (b := 2147482697) (by decide); omega)
  have c7 : ∀ p : Prop, ∀ _ : Decidable p, (if p then (1 : Int) else 0).natAbs < 2 ^ 400000 := fun p _ => by
    split
    · exact small_dec (by decide) (by decide)
    · exact small_dec (by decide) (by decide)
  have c8 : (0 : Int) < 1000000000000000000 ∧ (1000000000000000000 : Int).natAbs < 2 ^ 8000 := ⟨by decide, Nat.lt_of_lt_of_le (m := 2 ^ 80) (by decide) (Nat.pow_le_pow_right (by decide) (by decide))⟩
  have c9 : (0 : Int) < 2147482697 ∧ (0 : Int) < 2147482661 := by decide
  have p6 := pw_600
  obtain ⟨B, hB⟩ : ∃ B : Int, B = 1000000000000000000000000000000000000000000000000000000000000 ^ 10 := ⟨_, rfl⟩
  have hB0 : 0 < B := by rw [hB]; exact Int.pow_pos (by decide)
  rw [← hB] at p6
  obtain ⟨la, hla⟩ : ∃ x : Int, ((ns.map D.int).length : Int) = x := ⟨_, rfl⟩
  by_cases hlt : I < la
  · have hi : I.toNat < ns.length := by
      rw [List.length_map] at hla
      omega
    obtain ⟨z, hz⟩ : ∃ z, (ns.map D.int)[I.toNat]? = some (.int z) := ⟨ns[I.toNat], by simp [hi]⟩
    have hx : ixN (ns.map D.int).length I = some I.toNat := ixN_int h0 (by rw [hla]; exact hlt)
    generalize ns.map D.int = LL at *
    obtain ⟨l, m, l0, m0, m1, hl, hm⟩ := dice_of C (z := z) h0 h1 hB0
    refine ⟨l, m, ?_, l0, m0, m1⟩
    rw [hl, hm]
    have fe := fin_end (C := C) (ds := [.int ((if z < 0 then -z else z) % B / 1000000000000000000), .int (((if z < 0 then -z else z) % B % 2147482697 * 60497 + 3533 * I + 89 * (if decide (z < 0) = true then 1 else 0) + 109) % 2147482661), .int 0])
    unfold m__law_dice b__law_dice
    dsimp! [c1, c2, c3, c4, c5, c6, c7, c8, c9.1, c9.2, pw_60, pw_18, p6, hB0, hla, hlt, hx, hz, and_self, fe]
  · generalize ns.map D.int = LL at *
    obtain ⟨l, m, l0, m0, m1, hl, hm⟩ := dice_of C (z := 101 * I + 47) h0 h1 hB0
    refine ⟨l, m, ?_, l0, m0, m1⟩
    rw [hl, hm]
    have fe := fin_end (C := C) (ds := [.int ((if 101 * I + 47 < 0 then -(101 * I + 47) else 101 * I + 47) % B / 1000000000000000000), .int (((if 101 * I + 47 < 0 then -(101 * I + 47) else 101 * I + 47) % B % 2147482697 * 60497 + 3533 * I + 89 * (if decide (101 * I + 47 < 0) = true then 1 else 0) + 109) % 2147482661), .int 0])
    unfold m__law_dice b__law_dice
    dsimp! [c1, c2, c3, c4, c5, c6, c7, c8, c9.1, c9.2, pw_60, pw_18, p6, hB0, hla, hlt, and_self, fe]

end Sk47
end
section
set_option maxRecDepth 100000
set_option maxHeartbeats 0
set_option exponentiation.threshold 1000000
namespace Sk47
open PySem L2 Sm
/-! ### chains as plain lists -/
abbrev Ch := List (Int × Int)
def rd (c : Int × Int) : D := .tup [.int c.1, .int c.2]
def chD (cs : Ch) : D := .tup (cs.map rd)
def Cv (cs : Ch) : Prop := ∀ c ∈ cs, 2 ≤ c.1 ∧ c.1 ≤ 60 ∧ 1 ≤ c.2 ∧ c.2 < c.1
theorem nc_rd (cs : Ch) : nocels (cs.map rd) = true := nocels_all fun d hd => by
  obtain ⟨c, _, rfl⟩ := List.mem_map.mp hd
  rfl
theorem ie_ch (cs : Ch) : isErr (chD cs) = false := rfl
theorem ch_ds {cs : Ch} (h : Cv cs) : ∀ d ∈ cs.map rd, isRg d := fun d hd => by
  obtain ⟨c, hc, rfl⟩ := List.mem_map.mp hd
  obtain ⟨h1, h2, h3, h4⟩ := h c hc
  exact ⟨c.1, c.2, rfl, h1, h2, h3, h4⟩
theorem ch_of {mo : Int} {ds : List D} (h : ∀ d ∈ ds, isRgM mo d) (hm : mo ≤ 60) : ∃ cs : Ch, ds = cs.map rd ∧ Cv cs ∧ ∀ c ∈ cs, c.1 ≤ mo := by
  induction ds with
  | nil => exact ⟨[], rfl, fun c hc => (by cases hc), fun c hc => (by cases hc)⟩
  | cons d r ih =>
    obtain ⟨cs, rfl, hv, hw⟩ := ih fun d' hd' => h d' (List.mem_cons_of_mem _ hd')
    obtain ⟨a, s, rfl, h1, h2, h3, h4⟩ := h d List.mem_cons_self
    refine ⟨(a, s) :: cs, rfl, fun c hc => ?_, fun c hc => ?_⟩
    · rcases List.mem_cons.mp hc with rfl | hc
      · exact ⟨h1, by show a ≤ 60; omega, h3, h4⟩
      · exact hv c hc
    · rcases List.mem_cons.mp hc with rfl | hc
      · exact h2
      · exact hw c hc
/-- a tuple of a place of each ring -/
def Tv : Ch → List Int → Prop
  | [], [] => True
  | c :: cs, x :: xs => (0 ≤ x ∧ x < c.1) ∧ Tv cs xs
  | _, _ => False
theorem Tv.len : ∀ {cs : Ch} {xs : List Int}, Tv cs xs → xs.length = cs.length
  | [], [], _ => rfl
  | c :: cs, x :: xs, h => by rw [List.length_cons, List.length_cons, Tv.len h.2]
  | [], _ :: _, h => h.elim
  | _ :: _, [], h => h.elim
theorem Tv.zip : ∀ {cs : Ch} {xs : List Int}, Tv cs xs → ∀ p ∈ cs.zip xs, p.1 ∈ cs ∧ 0 ≤ p.2 ∧ p.2 < p.1.1
  | [], [], _, p, hp => by cases hp
  | c :: cs, x :: xs, h, p, hp => by
    rcases List.mem_cons.mp hp with rfl | hp
    · exact ⟨List.mem_cons_self, h.1⟩
    · obtain ⟨h1, h2⟩ := Tv.zip h.2 p hp
      exact ⟨List.mem_cons_of_mem _ h1, h2⟩
  | [], _ :: _, h, _, _ => h.elim
  | _ :: _, [], h, _, _ => h.elim
theorem chain_rq {cs : Ch} (h : Cv cs) (h1 : 1 ≤ cs.length) (h2 : cs.length ≤ 12) (C : Cells) : m_require_chain [chD cs] C = some (.ok .non C) := by
  have hds := ch_ds h
  have t : typedC (chD cs) = true := List.all_eq_true.mpr fun d hd => by
    obtain ⟨a, s, rfl, _⟩ := hds d hd
    rfl
  have c : chainB (chD cs) = true := by
    have : (cs.map rd).all ringB = true := List.all_eq_true.mpr fun d hd => by
      obtain ⟨a, s, rfl, a1, a2, s1, s2⟩ := hds d hd
      exact ring_ok a1 a2 s1 s2
    show (decide (1 ≤ (cs.map rd).length) && decide ((cs.map rd).length ≤ 12) && (cs.map rd).all ringB) = true
    rw [this, List.length_map]
    simp [h1, h2]
  exact req_chain C t c
theorem chain_of {C : Cells} {n k : Nat} {r mo : Int} (D0 : Dc C n k) (hk : k ≤ 800000) (h0 : 1 ≤ r) (h1 : r ≤ 40) (h2 : 2 ≤ mo) (h3 : mo ≤ 60) :
    ∃ cs C', m__law_chain [.cel n, .int r, .int mo] C = some (.ok (chD cs) C') ∧ cs.length = r.toNat ∧ Cv cs ∧ (∀ c ∈ cs, c.1 ≤ mo) ∧ C'.length = C.length ∧ Dc C' n (k + 100) := by
  obtain ⟨ds, C', e, hl, g, g2, g3⟩ := chain_made D0 hk h0 h1 h2 h3
  obtain ⟨cs, rfl, hv, hm⟩ := ch_of g h3
  exact ⟨cs, C', e, by rw [List.length_map] at hl; exact hl, hv, hm, g2, g3⟩
end Sk47
end
section
set_option maxRecDepth 100000
set_option maxHeartbeats 0
set_option exponentiation.threshold 1000000
namespace Sk47
open PySem L2 Sm
def fallB : List Int → Bool
  | a :: b :: r => decide (b ≤ a) && fallB (b :: r)
  | _ => true
def iOf : D → Int
  | .int i => i
  | _ => 0
def heapB : D → Bool
  | .tup ds => decide (ds.length ≤ 60) && (ds.all (fun d => withinB d 1 60) && fallB (ds.map iOf))
  | _ => false
theorem int_within {i lo hi : Int} : withinB (.int i) lo hi = true ↔ lo ≤ i ∧ i ≤ hi := by simp [withinB]
/-- a heap, by its heights -/
structure Hp0 (hs : List Int) : Prop where
  len : hs.length ≤ 60
  rng : ∀ h ∈ hs, 1 ≤ h ∧ h ≤ 60
  fall : hs.Pairwise (· ≥ ·)
theorem fallB_pw : ∀ {hs : List Int}, fallB hs = true ↔ hs.Pairwise (· ≥ ·)
  | [] => by simp [fallB]
  | [_] => by simp [fallB]
  | a :: b :: r => by
    have ih := fallB_pw (hs := b :: r)
    show (decide (b ≤ a) && fallB (b :: r)) = true ↔ _
    rw [Bool.and_eq_true, ih, decide_eq_true_eq]
    constructor
    · rintro ⟨h1, h2⟩
      refine List.pairwise_cons.mpr ⟨fun z hz => ?_, h2⟩
      rcases List.mem_cons.mp hz with rfl | hz
      · exact h1
      · have := (List.pairwise_cons.mp h2).1 z hz
        show z ≤ a
        omega
    · intro h
      exact ⟨(List.pairwise_cons.mp h).1 b List.mem_cons_self, (List.pairwise_cons.mp h).2⟩
theorem Hp0.ok {hs : List Int} (h : Hp0 hs) : heapB (iT hs) = true := by
  have e : (hs.map D.int).map iOf = hs := by
    rw [List.map_map]
    exact List.map_id' hs
  have h1 : (hs.map D.int).all (fun d => withinB d 1 60) = true := by
    rw [List.all_map, List.all_eq_true]
    intro z hz
    exact int_within.mpr (h.rng z hz)
  show (decide ((hs.map D.int).length ≤ 60) && ((hs.map D.int).all (fun d => withinB d 1 60) && fallB ((hs.map D.int).map iOf))) = true
  rw [h1, e, fallB_pw.mpr h.fall, List.length_map]
  simp [h.len]
/-- the squares, column by column -/
def sqs (hs : List Int) : List (Nat × Nat) := (hs.zipIdx 0).flatMap fun p => (List.range p.1.toNat).map fun r => (p.2, r)
def pD (p : Nat × Nat) : D := .tup [.int p.1, .int p.2]
end Sk47
end
section
set_option maxRecDepth 100000
set_option maxHeartbeats 0
set_option exponentiation.threshold 1000000
namespace Sk47
open PySem L2 Sm
/-- may column i rise, where a ring n, s with the place x lets it? -/
def glet (n s x : Int) (hs : List Int) (i : Nat) : Bool := (decide (i = 0) || decide (hs.getD i 0 < hs.getD (i - 1) 0)) && (((i : Int) - hs.getD i 0) * s - x) % n == 0
def stepG (n s x : Int) (hs : List Int) (F : List Int) (i : Nat) : List Int := if glet n s x hs i then (if i < hs.length then F.set i (hs.getD i 0 + 1) else F ++ [1]) else F
def grow (n s x : Int) (hs : List Int) : List Int := ((List.range hs.length).map fun i => hs.getD i 0 + if glet n s x hs i then 1 else 0) ++ if glet n s x hs hs.length then [1] else []
/-- a heap of at most k columns and rows -/
structure Hg (k : Nat) (hs : List Int) : Prop where
  len : hs.length ≤ k
  rng : ∀ i, i < hs.length → 1 ≤ hs.getD i 0 ∧ hs.getD i 0 ≤ k
  fall : ∀ i, i + 1 < hs.length → hs.getD (i + 1) 0 ≤ hs.getD i 0
theorem Hg.mono {j k : Nat} {hs : List Int} (h : Hg j hs) (hk : j ≤ k) : Hg k hs := ⟨by have := h.len; omega, fun i hi => by have := h.rng i hi; omega, h.fall⟩
theorem Hg.le {k : Nat} {hs : List Int} (h : Hg k hs) : ∀ {i j : Nat}, i ≤ j → j < hs.length → hs.getD j 0 ≤ hs.getD i 0 := by
  intro i j hij hj
  induction j with
  | zero => rw [show i = 0 by omega]; exact Int.le_refl _
  | succ j ih =>
    by_cases q : i = j + 1
    · rw [q]; exact Int.le_refl _
    · have h1 := ih (by omega) (by omega)
      have h2 := h.fall j hj
      omega
theorem getD_mem' {hs : List Int} {i : Nat} (h : i < hs.length) : hs.getD i 0 ∈ hs := by
  rw [List.getD_eq_getElem?_getD, List.getElem?_eq_getElem h]
  exact List.getElem_mem h
theorem of_pw {hs : List Int} (h : hs.Pairwise (· ≥ ·)) : ∀ i j : Nat, i ≤ j → j < hs.length → hs.getD j 0 ≤ hs.getD i 0 := by
  intro i j hij hj
  by_cases q : i = j
  · rw [q]; exact Int.le_refl _
  · have := List.pairwise_iff_getElem.mp h i j (by omega) hj (by omega)
    simpa [List.getD_eq_getElem?_getD, show i < hs.length by omega, hj] using this
theorem Hp0.hg {hs : List Int} (h : Hp0 hs) : Hg 60 hs := ⟨h.len, fun i hi => h.rng _ (getD_mem' hi), fun i hi => of_pw h.fall i (i + 1) (by omega) hi⟩
theorem Hp0.hk {hs : List Int} (h : Hp0 hs) : Hk.Heap 60 hs := ⟨h.len, fun i j => of_pw h.fall i j, fun i hi => h.rng _ (getD_mem' hi)⟩
end Sk47
end
section
set_option maxRecDepth 100000
set_option maxHeartbeats 0
set_option exponentiation.threshold 1000000
namespace Sk47
open PySem L2 Sm
end Sk47
end
section
set_option maxRecDepth 100000
set_option maxHeartbeats 0
set_option exponentiation.threshold 1000000
namespace Sk47
open PySem L2 Sm
def stepH (h : List Int) (p : (Int × Int) × Int) : List Int := grow p.1.1 p.1.2 p.2 h
/-- the heap of a tuple -/
def heapF (cs : Ch) (xs : List Int) : List Int := (cs.zip xs).foldl stepH []
end Sk47
end
section
set_option maxRecDepth 100000
set_option maxHeartbeats 0
set_option exponentiation.threshold 1000000
namespace Sk47
open PySem L2 Sm
/-- may a square be added at column i? -/
def canA (hs : List Int) (i : Nat) : Bool := decide (i = 0) || decide (hs.getD i 0 < hs.getD (i - 1) 0)
/-- each column with P rises by one -/
def riseS (P : Nat → Bool) (hs : List Int) : List Int := ((List.range hs.length).map fun i => hs.getD i 0 + if P i then 1 else 0) ++ if P hs.length then [1] else []
def nD (i : Nat) : D := .int (i : Int)
theorem getD_out {hs : List Int} {i : Nat} (h : hs.length ≤ i) : hs.getD i 0 = 0 := by
  rw [List.getD_eq_getElem?_getD, List.getElem?_eq_none h]
  rfl
/-- the columns at which a square can be added, the last one first -/
def acols (hs : List Int) : List Nat := (List.range (hs.length + 1)).reverse.filter (canA hs)
/-- the heaps along a chain -/
def hps (ps : List ((Int × Int) × Int)) : List D := (List.range (ps.length + 1)).map fun k => iT ((ps.take k).foldl stepH [])
end Sk47
end
section
set_option maxRecDepth 100000
set_option maxHeartbeats 0
set_option exponentiation.threshold 1000000
namespace Sk47
open PySem L2 Sm
theorem Hg.le' {k : Nat} {hs : List Int} (h : Hg k hs) {i j : Nat} (hij : i ≤ j) : hs.getD j 0 ≤ hs.getD i 0 := by
  by_cases q : j < hs.length
  · exact h.le hij q
  · rw [getD_out (by omega)]
    by_cases q2 : i < hs.length
    · have := h.rng i q2
      omega
    · rw [getD_out (by omega)]
      exact Int.le_refl _
def LeH (A B : List Int) : Prop := ∀ i : Nat, A.getD i 0 ≤ B.getD i 0
/-- does A hold B? -/
def holdB (A B : List Int) : Bool := decide (B.length ≤ A.length) && (A.zip B).all fun p => decide (p.2 ≤ p.1)
end Sk47
end
section
set_option maxRecDepth 100000
set_option maxHeartbeats 0
set_option exponentiation.threshold 1000000
namespace Sk47
open PySem L2 Sm
/-! ### the order of a ring -/
def ordN (c : Int × Int) : Nat := c.1.natAbs / Nat.gcd c.1.natAbs c.2.natAbs
theorem order_in {c : Int × Int} (h : 2 ≤ c.1) (h60 : c.1 ≤ 60) (C : Cells) : m_order_in [rd c] C = some (.ok (.int (ordN c : Nat)) C) := by
  obtain ⟨n, s⟩ := c
  dsimp only at h h60
  have hg : 0 < Nat.gcd n.natAbs s.natAbs := Nat.gcd_pos_of_pos_left _ (by omega)
  have hle : Nat.gcd n.natAbs s.natAbs ≤ n.natAbs := Nat.le_of_dvd (by omega) (Nat.gcd_dvd_left _ _)
  have ev : n / ((Nat.gcd n.natAbs s.natAbs : Nat) : Int) = (ordN (n, s) : Nat) := by
    unfold ordN
    obtain ⟨N, rfl⟩ := Int.eq_ofNat_of_zero_le (show 0 ≤ n by omega)
    simp
  have hf : fin C.length (.int (ordN (n, s) : Nat)) C = some (.ok (.int (ordN (n, s) : Nat)) C) := fin_i
  have hd : dGcd [.int n, .int s] = some (.int (Nat.gcd n.natAbs s.natAbs : Nat)) := rfl
  obtain ⟨G, hG⟩ : ∃ G : Int, ((Nat.gcd n.natAbs s.natAbs : Nat) : Int) = G := ⟨_, rfl⟩
  obtain ⟨O, hO⟩ : ∃ O : Int, ((ordN (n, s) : Nat) : Int) = O := ⟨_, rfl⟩
  rw [hG] at ev hd
  rw [hO] at ev hf ⊢
  have b : 0 < G ∧ G.natAbs < 2 ^ 8000 := ⟨by omega, Nat.lt_of_le_of_lt (m := n.natAbs) (by omega) (Nat.lt_of_lt_of_le (show n.natAbs < 2 ^ 64 by omega) (Nat.pow_le_pow_right (by decide) (by decide)))⟩
  have hr : rd (n, s) = .tup [.int n, .int s] := rfl
  rw [hr]
  unfold m_order_in b_order_in
  simp only [↓xDef, ↓xSeq, ↓xDo, ↓xNext, ↓xRet, ↓xExp, ↓xIfS, ↓xAsg, ↓gN, ↓gT, ↓gsC, ↓gsN, ↓xV, ↓S.val, ↓S.bind, ↓S.opt, ↓x2, ↓x1, ↓xN, ↓xB, ↓xD, ↓xAnd, ↓xOr, ↓xNot, ↓xIf, ↓xAndV, ↓xOrV, ↓xNotV, ↓xChain, ↓aNil, ↓aCons, ↓xTup, ↓few, ↓xF, ↓xC, ↓xSetI, ↓xPar, ↓xCall, ↓xFrz, ↓xM, live, i2, dSub, dAdd, dMul, dMulA, dMod, dDiv, dLt, dLe, dGt, dGe, dIx, at10, at20, at21, at30, at31, at32, cst0, cst1, cst2, cst3, dNeg, dAbs, dInt, dLen, dMin2, dMax2, dGcd, dTuple, ↓iR1, ↓iR2, ↓iV, items, ↓iEn, items1, nocel, nocels, List.map_cons, List.map_nil, List.getElem?_cons_zero, List.getElem?_cons_succ, List.getElem?_nil, List.set_cons_zero, List.set_cons_succ, List.length_cons, List.length_nil, List.replicate, List.cons_append, List.nil_append, Nat.reduceAdd, Nat.reduceSub, Bool.false_eq_true, if_true, if_false, Option.map_some, Option.bind_some, Option.bind_none, Bool.and_true, Bool.and_false, Bool.true_and, Bool.not_true, Bool.not_false, decide_true, decide_false, vw_n, vw_b, vw_i, vw_s, vw_u, vw_l, vw_o, ie_n, ie_b, ie_i, ie_s, ie_u, ie_l, ie_c, x10, x20, x21, x30, x31, x32, fin_b, fin_i, eq_ii, ne_ii, List.take_length, vw_k, ie_k, id_eq, Nat.reduceLeDiff, ↓xSl, ↓xAugI, ↓oE, ↓oNo, ↓xLs, ↓xExt, ↓iZp, hG, b, and_self, if_true, ev, hf]

end Sk47
end
section
set_option maxRecDepth 100000
set_option maxHeartbeats 0
set_option exponentiation.threshold 1000000
namespace Sk47
open PySem L2 Sm
end Sk47
end
section
set_option maxRecDepth 100000
set_option maxHeartbeats 0
set_option exponentiation.threshold 1000000
namespace Sk47
open PySem L2 Sm
/-! ### heaps within three by three, lots, fillings: plain -/
abbrev Hp3 := List Int
def iL (xs : List Int) : D := .lst (xs.map .int)
/-- the heaps within three columns and three rows -/
def WH : List Hp3 := [[], [1], [2], [3], [1, 1], [2, 1], [2, 2], [3, 1], [3, 2], [3, 3], [1, 1, 1], [2, 1, 1], [2, 2, 1], [2, 2, 2], [3, 1, 1], [3, 2, 1], [3, 2, 2], [3, 3, 1], [3, 3, 2], [3, 3, 3]]
def inH : Hp3 → Hp3 → Bool
  | _, [] => true
  | [], _ :: _ => false
  | a :: r, b :: s => decide (b ≤ a) && inH r s
def PR : List (Hp3 × Hp3) := WH.flatMap fun h => (WH.filter fun p => inH h p).map fun p => (h, p)
def hAt (p : Hp3) (c : Nat) : Int := p.getD c 0
/-- columns of h that can rise in p, from the last one on -/
def freeP (h p : Hp3) : List Nat := ((List.range (p.length + 1)).reverse).filter fun c => (decide (c = 0) || decide (hAt p (c - 1) > hAt p c)) && decide (c < h.length) && decide (hAt p c < hAt h c)
def restP (p : Hp3) (o : Int) (c : Nat) : Int := ((c : Int) - hAt p c) % o
def lotsR (o : Nat) (f : List Nat) (p : Hp3) : List (List Int) := ((List.range o).map fun r : Nat => (f.filter fun c => decide (restP p o c = (r : Int))).map fun c : Nat => (c : Int)).filter fun l => !l.isEmpty
/-- the lots of columns that the program tells -/
def lotsP (h p : Hp3) (o : Nat) : List (List Int) := lotsR o (freeP h p) p
/-- the lots that the law tells: from the first column on -/
def lotsL (h p : Hp3) (o : Nat) : List (List Int) := lotsR o (freeP h p).reverse p
def subs : List Int → List (List Int) := fun l => (l.foldl (fun f c => f ++ f.map fun s => s ++ [c]) [[]]).drop 1
def raiseP (h p : Hp3) (cols : List Int) : Hp3 := ((List.range (max h.length p.length)).map fun c : Nat => hAt p c + ((cols.filter fun x => decide (x = (c : Int))).length : Int)).filter fun v => decide (v > 0)
def OR : List Nat := [2, 3, 4, 5, 6, 7, 8, 9]
/-! ### what the program's functions tell of them -/
section
variable (u w : Option Ob)
theorem let_all : (PR.map fun a => OR.map fun o => m_let_columns [iT a.1, iT a.2, .int (o : Nat)] [u, w]) = PR.map fun a => OR.map fun o => some (.ok (.lst ((lotsP a.1 a.2 o).map iL)) [u, w]) := by kernel_rfl
theorem grp_all : (PR.map fun a => OR.map fun o => m__law_groups [iT a.2, iT a.1, .int (o : Nat)] [u, w]) = PR.map fun a => OR.map fun o => some (.ok (.lst ((lotsL a.1 a.2 o).map iL)) [u, w]) := by kernel_rfl
end
end Sk47
end
section
set_option maxRecDepth 100000
set_option maxHeartbeats 0
set_option exponentiation.threshold 1000000
namespace Sk47
open PySem L2 Sm
/-- the parts of a list, in its order -/
def partsL : List Nat → List (List Nat)
  | [] => [[]]
  | c :: r => (partsL r).map (c :: ·) ++ partsL r
def colsP (h p : Hp3) : List (List Int) := (partsL (freeP h p)).map fun l => l.map fun c : Nat => (c : Int)
def colsL (h p : Hp3) : List (List Int) := (partsL (freeP h p).reverse).map fun l => l.map fun c : Nat => (c : Int)
def lotAll : List (List Int) := [[0], [1], [2], [1, 0], [2, 0], [2, 1], [2, 1, 0]]
def grpAll : List (List Int) := [[0], [1], [2], [0, 1], [0, 2], [1, 2], [0, 1, 2]]
section
variable (u w : Option Ob)
theorem with_all : (PR.map fun a => (colsP a.1 a.2).map fun l => m_with_columns [iT a.1, iT a.2, iL l] [u, w]) = PR.map fun a => (colsP a.1 a.2).map fun l => some (.ok (iT (raiseP a.1 a.2 l)) [u, w]) := by kernel_rfl
theorem withT_all : (PR.map fun a => (colsP a.1 a.2).map fun l => m_with_columns [iT a.1, iT a.2, iT l] [u, w]) = PR.map fun a => (colsP a.1 a.2).map fun l => some (.ok (iT (raiseP a.1 a.2 l)) [u, w]) := by kernel_rfl
theorem raised_all : (PR.map fun a => (colsL a.1 a.2).map fun l => m__law_raised [iT a.2, iT a.1, iL l] [u, w]) = PR.map fun a => (colsL a.1 a.2).map fun l => some (.ok (iT (raiseP a.1 a.2 l)) [u, w]) := by kernel_rfl
theorem some_all : (lotAll.map fun l => m_some_columns [iL l] [u, w]) = lotAll.map fun l => some (.ok (.lst ((subs l).map iT)) [u, w]) := by kernel_rfl
theorem subsets_all : (grpAll.map fun l => m__law_subsets [iL l] [u, w]) = grpAll.map fun l => some (.ok (.lst ((subs l).map iL)) [u, w]) := by kernel_rfl
end
theorem mapE {α β : Type} {f g : α → β} {l : List α} (h : l.map f = l.map g) : ∀ d ∈ l, f d = g d := fun d hd => List.map_inj_left.mp h d hd
theorem mapE2 {α β γ : Type} {f g : α → β → γ} {l : List α} {m : α → List β} (h : (l.map fun a => (m a).map fun b => f a b) = l.map fun a => (m a).map fun b => g a b) : ∀ d ∈ l, ∀ e ∈ m d, f d e = g d e := fun d hd => mapE (mapE h d hd)
/-! ### where lots lie -/
theorem lots_in : ∀ a ∈ PR, ∀ o ∈ OR, ∀ l ∈ lotsP a.1 a.2 o, l ∈ colsP a.1 a.2 ∧ l ∈ lotAll ∧ ∀ s ∈ subs l, s ∈ colsP a.1 a.2 := by
  have h : (PR.all fun a => OR.all fun o => (lotsP a.1 a.2 o).all fun l => (colsP a.1 a.2).contains l && lotAll.contains l && (subs l).all fun s => (colsP a.1 a.2).contains s) = true := by decide +kernel
  intro a ha o ho l hl
  have h1 := List.all_eq_true.mp (List.all_eq_true.mp (List.all_eq_true.mp h a ha) o ho) l hl
  simp only [Bool.and_eq_true, List.contains_iff_mem, List.all_eq_true] at h1
  exact ⟨h1.1.1, h1.1.2, h1.2⟩
theorem lotsL_in : ∀ a ∈ PR, ∀ o ∈ OR, ∀ l ∈ lotsL a.1 a.2 o, l ∈ grpAll ∧ ∀ s ∈ subs l, s ∈ colsL a.1 a.2 := by
  have h : (PR.all fun a => OR.all fun o => (lotsL a.1 a.2 o).all fun l => grpAll.contains l && (subs l).all fun s => (colsL a.1 a.2).contains s) = true := by decide +kernel
  intro a ha o ho l hl
  have h1 := List.all_eq_true.mp (List.all_eq_true.mp (List.all_eq_true.mp h a ha) o ho) l hl
  simp only [Bool.and_eq_true, List.contains_iff_mem, List.all_eq_true] at h1
  exact ⟨h1.1, h1.2⟩
/-- what is raised stays within -/
theorem raise_in : ∀ a ∈ PR, (∀ l ∈ colsP a.1 a.2, (a.1, raiseP a.1 a.2 l) ∈ PR) ∧ ∀ l ∈ colsL a.1 a.2, (a.1, raiseP a.1 a.2 l) ∈ PR := by
  have h : (PR.all fun a => ((colsP a.1 a.2).all fun l => PR.contains (a.1, raiseP a.1 a.2 l)) && (colsL a.1 a.2).all fun l => PR.contains (a.1, raiseP a.1 a.2 l)) = true := by decide +kernel
  intro a ha
  have h1 := List.all_eq_true.mp h a ha
  simp only [Bool.and_eq_true, List.contains_iff_mem, List.all_eq_true] at h1
  exact h1
/-! ### the moves of one ring: what is raised -/
/-- with every choice of columns of a lot -/
def movP (h p : Hp3) (o : Nat) : List Hp3 := (lotsP h p o).flatMap fun l => (subs l).map (raiseP h p)
def movL (h p : Hp3) (o : Nat) : List Hp3 := (lotsL h p o).flatMap fun l => (subs l).map (raiseP h p)
/-- with whole lots -/
def movW (h p : Hp3) (o : Nat) : List Hp3 := (lotsP h p o).map (raiseP h p)
theorem mov_same : ∀ a ∈ PR, ∀ o ∈ OR, ∀ g, (movP a.1 a.2 o).count g = (movL a.1 a.2 o).count g := by
  have h : (PR.all fun a => OR.all fun o => (movP a.1 a.2 o).isPerm (movL a.1 a.2 o)) = true := by decide +kernel
  intro a ha o ho g
  exact (List.isPerm_iff.mp (List.all_eq_true.mp (List.all_eq_true.mp h a ha) o ho)).count_eq g
/-- orders from five on move alike -/
theorem mov_five : ∀ a ∈ PR, ∀ o ∈ [5, 6, 7, 8, 9], movP a.1 a.2 o = movP a.1 a.2 5 ∧ movW a.1 a.2 o = movW a.1 a.2 5 := by
  have h : (PR.all fun a => [5, 6, 7, 8, 9].all fun o => decide (movP a.1 a.2 o = movP a.1 a.2 5) && decide (movW a.1 a.2 o = movW a.1 a.2 5)) = true := by decide +kernel
  intro a ha o ho
  have h1 := List.all_eq_true.mp (List.all_eq_true.mp h a ha) o ho
  simp only [Bool.and_eq_true, decide_eq_true_eq] at h1
  exact h1
/-- the whole lots keep above: from a greater heap a whole lot leads above what a part of the lot leads to, or the greater heap stays above -/
theorem mov_above : ∀ a ∈ PR, ∀ o ∈ OR, ∀ g ∈ movL a.1 a.2 o, ∀ q ∈ WH, inH a.1 q = true → inH q a.2 = true → inH q g = true ∨ ∃ z ∈ movW a.1 q o, inH z g = true := by
  have h : (PR.all fun a => OR.all fun o => (movL a.1 a.2 o).all fun g => WH.all fun q => !inH a.1 q || !inH q a.2 || inH q g || (movW a.1 q o).any fun z => inH z g) = true := by decide +kernel
  intro a ha o ho g hg q hq h1 h2
  have h3 := List.all_eq_true.mp (List.all_eq_true.mp (List.all_eq_true.mp (List.all_eq_true.mp h a ha) o ho) g hg) q hq
  rw [h1, h2] at h3
  simp only [Bool.not_true, Bool.false_or, Bool.or_eq_true, List.any_eq_true] at h3
  exact h3
end Sk47
end
section
set_option maxRecDepth 100000
set_option maxHeartbeats 0
set_option exponentiation.threshold 1000000
namespace Sk47
open PySem L2 Sm

abbrev Zi := List (List Int × Int)
theorem nc_int (a : Int) : nocel (D.int a) = true := rfl
def get0 (g : Zi) (p : List Int) : Int := (getZ g p).getD 0
theorem get0_map (g : Zi) (p : List Int) : ((getZ g p).map D.int).getD (.int 0) = .int (get0 g p) := by
  unfold get0
  cases getZ g p <;> rfl
/-! ### dicts of counts as heaps of things -/
def sumZ (F : Zi) (g : List Int → Int) : Int := (F.map fun e => e.2 * g e.1).sum
def sumM (M : List (List Int)) (g : List Int → Int) : Int := (M.map g).sum
def NdZ (F : Zi) : Prop := (F.map (·.1)).Nodup
theorem sumZ_cons (e : List Int × Int) (F : Zi) (g : List Int → Int) : sumZ (e :: F) g = e.2 * g e.1 + sumZ F g := rfl
theorem sumZ_app (F G : Zi) (g : List Int → Int) : sumZ (F ++ G) g = sumZ F g + sumZ G g := by
  unfold sumZ
  rw [List.map_append, List.sum_append]
theorem hasZ_iff {p : List Int} : ∀ {F : Zi}, hasZ F p = true ↔ p ∈ F.map (·.1)
  | [] => by simp [hasZ, getZ]
  | e :: F => by
    have ih := hasZ_iff (p := p) (F := F)
    unfold hasZ getZ
    by_cases h : e.1 = p
    · simp [h]
    · rw [if_neg h]
      have h' : ¬ p = e.1 := fun q => h q.symm
      rw [List.map_cons, List.mem_cons]
      simp only [h', false_or]
      exact ih
theorem rep_keys (p : List Int) (c : Int) : ∀ F : Zi, (repZ p c F).map (·.1) = F.map (·.1)
  | [] => rfl
  | e :: F => by
    show (if e.1 = p then (p, c) else e).1 :: _ = e.1 :: _
    rw [rep_keys p c F]
    by_cases q : e.1 = p
    · rw [if_pos q, q]
    · rw [if_neg q]
theorem put_keys (F : Zi) (p : List Int) (c : Int) : (putZ F p c).map (·.1) = if hasZ F p = true then F.map (·.1) else F.map (·.1) ++ [p] := by
  unfold putZ
  by_cases h : hasZ F p = true
  · rw [if_pos h, if_pos h, rep_keys]
  · rw [if_neg h, if_neg h, List.map_append]
    rfl
theorem nd_put {F : Zi} (h : NdZ F) (p : List Int) (c : Int) : NdZ (putZ F p c) := by
  unfold NdZ
  rw [put_keys]
  by_cases q : hasZ F p = true
  · rw [if_pos q]
    exact h
  · rw [if_neg q, List.nodup_append]
    refine ⟨h, by simp, fun a ha b hb => ?_⟩
    rw [List.mem_singleton] at hb
    subst hb
    intro e
    subst e
    exact q (hasZ_iff.mpr ha)
theorem rep_no {p : List Int} {c : Int} : ∀ {F : Zi}, p ∉ F.map (·.1) → repZ p c F = F
  | [], _ => rfl
  | e :: F, h => by
    rw [List.map_cons, List.mem_cons, not_or] at h
    show (if e.1 = p then (p, c) else e) :: repZ p c F = e :: F
    rw [if_neg (fun q => h.1 q.symm), rep_no h.2]
theorem sum_rep {p : List Int} {c : Int} (g : List Int → Int) : ∀ {F : Zi}, NdZ F → hasZ F p = true → sumZ (repZ p c F) g = sumZ F g - get0 F p * g p + c * g p
  | [], _, h => by cases h
  | e :: F, hn, h => by
    have hn' : (e.1 :: F.map (·.1)).Nodup := hn
    rw [List.nodup_cons] at hn'
    show sumZ ((if e.1 = p then (p, c) else e) :: repZ p c F) g = _
    rw [sumZ_cons, sumZ_cons]
    by_cases q : e.1 = p
    · have h0 : get0 (e :: F) p = e.2 := by unfold get0 getZ; rw [if_pos q]; rfl
      rw [if_pos q, h0, rep_no (by rw [← q]; exact hn'.1), q]
      show c * g p + sumZ F g = _
      omega
    · have h0 : get0 (e :: F) p = get0 F p := by unfold get0; conv => lhs; unfold getZ; rw [if_neg q]
      have h' : hasZ F p = true := by
        unfold hasZ getZ at h
        rw [if_neg q] at h
        exact h
      rw [if_neg q, h0, sum_rep g hn'.2 h']
      omega
theorem get0_no {F : Zi} {p : List Int} (h : ¬ hasZ F p = true) : get0 F p = 0 := by
  unfold hasZ at h
  unfold get0
  cases q : getZ F p with
  | none => rfl
  | some v => rw [q] at h; exact absurd rfl h
theorem sum_add {F : Zi} (hn : NdZ F) (p : List Int) (v : Int) (g : List Int → Int) : sumZ (putZ F p (get0 F p + v)) g = sumZ F g + v * g p := by
  unfold putZ
  by_cases h : hasZ F p = true
  · rw [if_pos h, sum_rep g hn h, Int.add_mul]
    omega
  · rw [if_neg h, sumZ_app, get0_no h]
    show sumZ F g + ((0 + v) * g p + 0) = _
    rw [Int.zero_add, Int.add_zero]
def ind (p : List Int) (q : List Int) : Int := if q = p then 1 else 0
theorem sum_ind {p : List Int} : ∀ {F : Zi}, NdZ F → sumZ F (ind p) = get0 F p
  | [], _ => rfl
  | e :: F, hn => by
    have hn' : (e.1 :: F.map (·.1)).Nodup := hn
    rw [List.nodup_cons] at hn'
    rw [sumZ_cons, sum_ind hn'.2]
    unfold ind
    by_cases q : e.1 = p
    · have h0 : get0 (e :: F) p = e.2 := by unfold get0 getZ; rw [if_pos q]; rfl
      have h1 : ¬ hasZ F p = true := fun z => hn'.1 (by rw [q]; exact hasZ_iff.mp z)
      rw [if_pos q, h0, get0_no h1]
      omega
    · have h0 : get0 (e :: F) p = get0 F p := by unfold get0; conv => lhs; unfold getZ; rw [if_neg q]
      rw [if_neg q, h0]
      omega
theorem sumM_ind (p : List Int) : ∀ M : List (List Int), sumM M (ind p) = (M.count p : Int)
  | [] => rfl
  | m :: M => by
    show ind p m + sumM M (ind p) = _
    rw [sumM_ind p M, List.count_cons]
    unfold ind
    by_cases q : m = p
    · simp [q]; omega
    · have : (m == p) = false := by simpa using q
      simp [q]
structure Rep (F : Zi) (M : List (List Int)) : Prop where
  nd : NdZ F
  sum : ∀ g, sumZ F g = sumM M g
theorem Rep.get {F : Zi} {M : List (List Int)} (h : Rep F M) (p : List Int) : get0 F p = (M.count p : Int) := by
  rw [← sum_ind h.nd, h.sum, sumM_ind]
theorem Rep.add {F : Zi} {M : List (List Int)} (h : Rep F M) (p : List Int) : Rep (putZ F p (get0 F p + 1)) (M ++ [p]) := ⟨nd_put h.nd _ _, fun g => by
  rw [sum_add h.nd, h.sum]
  unfold sumM
  rw [List.map_append, List.sum_append]
  simp⟩
/-- all values above 0 -/
def PosZ (F : Zi) : Prop := ∀ e ∈ F, 0 < e.2
theorem getZ_of : ∀ {F : Zi} {e : List Int × Int}, NdZ F → e ∈ F → getZ F e.1 = some e.2
  | x :: F, e, hn, h => by
    have hn' : (x.1 :: F.map (·.1)).Nodup := hn
    rw [List.nodup_cons] at hn'
    unfold getZ
    rcases List.mem_cons.mp h with rfl | h
    · rw [if_pos rfl]
    · have : ¬ x.1 = e.1 := fun q => hn'.1 (by rw [q]; exact List.mem_map.mpr ⟨e, h, rfl⟩)
      rw [if_neg this]
      exact getZ_of hn'.2 h
theorem Rep.key {F : Zi} {M : List (List Int)} (h : Rep F M) (hp : PosZ F) (p : List Int) : p ∈ F.map (·.1) ↔ p ∈ M := by
  constructor
  · intro hm
    refine List.count_pos_iff.mp ?_
    obtain ⟨e, he, rfl⟩ := List.mem_map.mp hm
    have h1 := getZ_of h.nd he
    have h2 := hp e he
    have h3 := h.get e.1
    unfold get0 at h3
    rw [h1] at h3
    have h3 : e.2 = _ := h3
    omega
  · intro hc
    have hc := List.count_pos_iff.mpr hc
    have h3 := h.get p
    by_cases q : hasZ F p = true
    · exact hasZ_iff.mp q
    · rw [get0_no q] at h3
      omega
end Sk47
end
section
set_option maxRecDepth 100000
set_option maxHeartbeats 0
set_option exponentiation.threshold 1000000
namespace Sk47
open PySem L2 Sm
/-! ### loops that fold, cut at each turn -/
theorem lpC_fold {α σ : Type} {i n : Nat} {b : SS} (en : α → D) (step : σ → α → σ) (R : σ → Sm.Env → Cells → Prop) : ∀ (xs : List α), (∀ a ∈ xs, nocel (en a) = true) → (∀ a ∈ xs, ∀ s e C, R s e C → ∃ e2 C2, b (e.set i (some (en a))) C = some (.nx e2 C2) ∧ R (step s a) (cutE n e2) (C2.take n)) → ∀ s e C, R s (cutE n e) (C.take n) → ∃ e2 C2, lpC gd0 (gN i) b n (xs.map en) e C = some (.nx e2 C2) ∧ R (xs.foldl step s) e2 C2
  | [], _, _, s, e, C, h => ⟨cutE n e, C.take n, rfl, h⟩
  | d :: r, hn, hs, s, e, C, h => by
    obtain ⟨e2, C2, h1, h2⟩ := hs d List.mem_cons_self s _ _ h
    obtain ⟨e3, C3, g1, g2⟩ := lpC_fold en step R r (fun d' hd' => hn d' (List.mem_cons_of_mem _ hd')) (fun d' hd' => hs d' (List.mem_cons_of_mem _ hd')) (step s d) e2 C2 h2
    refine ⟨e3, C3, ?_, g2⟩
    rw [List.map_cons]
    unfold lpC
    rw [if_pos ⟨rfl, hn d List.mem_cons_self⟩]
    show (match b ((cutE n e).set i (some (en d))) (C.take n) with
        | some (.nx e2 C2) => lpC gd0 (gN i) b n (r.map en) e2 C2
        | some (.ct e2 C2) => lpC gd0 (gN i) b n (r.map en) e2 C2
        | some (.bk e2 C2) => some (.nx e2 C2)
        | o => o) = _
    rw [h1]
    exact g1
theorem forC_fold {α σ : Type} {i : Nat} {it : SW} {b : SS} {env : Sm.Env} {C C1 : Cells} (en : α → D) (step : σ → α → σ) (R : σ → Sm.Env → Cells → Prop) (xs : List α) (s0 : σ) (hit : it env C = some (.ok (xs.map en, gd0) C1)) (hn : ∀ a ∈ xs, nocel (en a) = true) (h0 : R s0 (cutE C1.length env) C1) (hs : ∀ a ∈ xs, ∀ s e C, R s e C → ∃ e2 C2, b (e.set i (some (en a))) C = some (.nx e2 C2) ∧ R (step s a) (cutE C1.length e2) (C2.take C1.length)) :
    ∃ e2 C2, xForC it (gN i) b env C = some (.nx e2 C2) ∧ R (xs.foldl step s0) e2 C2 := by
  obtain ⟨e2, C2, h1, h2⟩ := lpC_fold en step R xs hn hs s0 env C1 (by rw [List.take_length]; exact h0)
  refine ⟨e2, C2, ?_, h2⟩
  unfold xForC xDo
  rw [hit]
  exact h1
theorem sqE {s T : SS} {env e' : Sm.Env} {C C' : Cells} (h : s env C = some (.nx e' C')) : xSeq s T env C = T e' C' := by
  unfold xSeq
  rw [h]
theorem cutV_nc {n : Nat} {d : D} (h : nocel d = true) : Sm.cutV n (some d) = some d := if_pos h
theorem cutV_cel {n m : Nat} (h : m < n) : Sm.cutV n (some (.cel m)) = some (.cel m) := by
  unfold Sm.cutV
  exact if_pos h
theorem nc_iT (xs : List Int) : nocel (iT xs) = true := nocels_i _
theorem nc_iL (xs : List Int) : nocel (iL xs) = true := nocels_i _
theorem nc_zD (W : Zi) : nocel (zD D.int W) = true := nc_z nc_int W
/-! ### one filling more -/
def addZ (x : Int) (L : Zi) (g : Hp3) : Zi := putZ L g (get0 L g + x)
theorem len_sub {α : Type} [DecidableEq α] : ∀ {xs ys : List α}, xs.Nodup → (∀ x ∈ xs, x ∈ ys) → xs.length ≤ ys.length
  | [], ys, _, _ => Nat.zero_le _
  | x :: xs, ys, hn, hs => by
    rw [List.nodup_cons] at hn
    have h1 := len_sub (xs := xs) (ys := ys.erase x) hn.2 fun y hy => (List.mem_erase_of_ne (fun e => by subst e; exact hn.1 hy)).mpr (hs y (List.mem_cons_of_mem _ hy))
    have h2 := List.length_erase_of_mem (hs x List.mem_cons_self)
    have h3 := List.length_pos_of_mem (hs x List.mem_cons_self)
    rw [List.length_cons]
    omega
theorem pr_wh {a : Hp3 × Hp3} (h : a ∈ PR) : a.1 ∈ WH ∧ a.2 ∈ WH ∧ inH a.1 a.2 = true := by
  unfold PR at h
  obtain ⟨z, hz, h2⟩ := List.mem_flatMap.mp h
  obtain ⟨p, hp, rfl⟩ := List.mem_map.mp h2
  obtain ⟨h3, h4⟩ := List.mem_filter.mp hp
  exact ⟨hz, h3, h4⟩
theorem pr_mk {h p : Hp3} (h1 : h ∈ WH) (h2 : p ∈ WH) (h3 : inH h p = true) : (h, p) ∈ PR := List.mem_flatMap.mpr ⟨h, h1, List.mem_map.mpr ⟨p, List.mem_filter.mpr ⟨h2, h3⟩, rfl⟩⟩
/-- all heaps of a dict lie within the whole one, each of them once -/
structure Inn (h : Hp3) (W : Zi) : Prop where
  nd : NdZ W
  pr : ∀ e ∈ W, (h, e.1) ∈ PR
theorem Inn.len {h : Hp3} {W : Zi} (q : Inn h W) : W.length ≤ 20 := by
  have hq : (W.map (·.1)).Nodup := q.nd
  have := len_sub (xs := W.map (·.1)) (ys := WH) hq fun x hx => by
    obtain ⟨e, he, rfl⟩ := List.mem_map.mp hx
    exact (pr_wh (q.pr e he)).2.1
  rw [List.length_map] at this
  exact this
theorem Inn.add {h g : Hp3} {W : Zi} (q : Inn h W) (hg : (h, g) ∈ PR) (x : Int) : Inn h (putZ W g x) := ⟨nd_put q.nd _ _, fun e he => by
  rcases putZ_mem he with he | rfl
  · exact q.pr e he
  · exact hg⟩
theorem Inn.fold {h : Hp3} {x : Int} : ∀ {gs : List Hp3} {W : Zi}, Inn h W → (∀ g ∈ gs, (h, g) ∈ PR) → Inn h (gs.foldl (addZ x) W)
  | [], _, q, _ => q
  | g :: gs, W, q, hg => Inn.fold (gs := gs) (q.add (hg g List.mem_cons_self) _) fun g' h' => hg g' (List.mem_cons_of_mem _ h')
abbrev Cf (u : Option Ob) (L : Zi) : Cells := [u, some (.t (zks L) (zvs D.int L))]
section
variable {cs : D} (hcs : nocel cs = true) {h : Hp3} {W : Zi} {rg o : Option D} {u : Option Ob}
abbrev Ef (cs : D) (h : Hp3) (W : Zi) (rg : Option D) (p : Option D) (o l c g : Option D) : Sm.Env := [some cs, some (iT h), some (zD D.int W), rg, p, some (.cel 1), o, l, c, g]
local macro_rules | `(tactic| simp! only [$ls,*] $[$l:location]?) => `(tactic| simp only [↓xDef,↓xSeq,↓xDo,↓xNext,↓xRet,↓xExp,↓xIfS,↓xAsg,↓gN,↓gT,↓gsC,↓gsN,↓xV,↓S.val,↓S.bind,↓S.opt,↓x2,↓x1,↓xN,↓xB,↓xD,↓xAnd,↓xOr,↓xNot,↓xIf,↓xAndV,↓xOrV,↓xNotV,↓xChain,↓aNil,↓aCons,↓xTup,↓few,↓xF,↓xC,↓xSetI,↓xPar,↓xCall,↓xFrz,↓xM,live,i2,dSub,dAdd,dMul,dMulA,dMod,dDiv,dLt,dLe,dGt,dGe,dIx,at10,at20,at21,at30,at31,at32,cst0,cst1,cst2,cst3,dNeg,dAbs,dInt,dLen,dMin2,dMax2,dGcd,dTuple,↓iR1,↓iR2,↓iV,items,↓iEn,items1,nocel,nocels,List.map_cons,List.map_nil,List.getElem?_cons_zero,List.getElem?_cons_succ,List.getElem?_nil,List.set_cons_zero,List.set_cons_succ,List.length_cons,List.length_nil,List.replicate,List.cons_append,List.nil_append,Nat.reduceAdd,Nat.reduceSub,Bool.false_eq_true,if_true,if_false,Option.map_some,Option.bind_some,Option.bind_none,Bool.and_true,Bool.and_false,Bool.true_and,Bool.not_true,Bool.not_false,decide_true,decide_false,vw_n,vw_b,vw_i,vw_s,vw_u,vw_l,vw_o,ie_n,ie_b,ie_i,ie_s,ie_u,ie_l,ie_c,x10,x20,x21,x30,x31,x32,fin_b,fin_i,eq_ii,ne_ii,List.take_length,vw_k,ie_k,id_eq,Nat.reduceLeDiff,↓xSl,↓xAugI,↓oE,↓oNo,↓xLs,↓xExt,↓iZp, $ls,*] $[$l]?)
theorem fc_q1 {p : Hp3} {x : Int} (ha : (h, p) ∈ PR) {s : List Int} (hs : s ∈ colsP h p) (hx : getZ W p = some x) {l g : Option D} {L : Zi} (hL : Inn h L) :
    q1_fillings_count_in (Ef cs h W rg (some (iT p)) o l (some (iT s)) g) (Cf u L) = some (.nx (Ef cs h W rg (some (iT p)) o l (some (iT s)) (some (iT (raiseP h p s)))) (Cf u (addZ x L (raiseP h p s)))) := by
  have e1 : m_with_columns [iT h, iT p, iT s] (Cf u L) = some (.ok (iT (raiseP h p s)) (Cf u L)) := mapE2 (withT_all u (some (.t (zks L) (zvs D.int L)))) (h, p) ha s hs
  have hcell : (Cf u L)[1]? = some (some (Ob.t (zks L) (zvs D.int L))) := rfl
  have hi : ∀ xs : List Int, isErr (iT xs) = false := fun _ => rfl
  have z1 : xAsg (xCall m_with_columns (aCons (xV 1) (aCons (xV 4) (aCons (xV 8) (aNil))))) (gN 9) (Ef cs h W rg (some (iT p)) o l (some (iT s)) g) (Cf u L) = some (.nx (Ef cs h W rg (some (iT p)) o l (some (iT s)) (some (iT (raiseP h p s)))) (Cf u L)) := by
    have h1 := hi h
    have h2 := hi p
    have h3 := hi s
    unfold Ef
    generalize iT h = H at *
    generalize iT p = P at *
    generalize iT s = SS at *
    generalize iT (raiseP _ _ _) = G at *
    simp! only [e1, h1, h2, h3]
  unfold q1_fillings_count_in
  rw [sqE z1]
  have a1 : xDGet2 (xV 5) (xV 9) (S.val (.int (0))) (Ef cs h W rg (some (iT p)) o l (some (iT s)) (some (iT (raiseP h p s)))) (Cf u L) = some (.ok (.int (get0 L (raiseP h p s))) (Cf u L)) := by
    rw [get2_z (en := D.int) (g := L) (p := raiseP h p s) (d := .cel 1) (z := .int 0) rfl (vw_tz hcell) rfl rfl, get0_map]
  have a2 : x2 dDGet (xV 2) (xV 4) (Ef cs h W rg (some (iT p)) o l (some (iT s)) (some (iT (raiseP h p s)))) (Cf u L) = some (.ok (.int x) (Cf u L)) := by
    have e := dget_z D.int W p
    rw [hx] at e
    have e : dDGet (zD D.int W) (iT p) = some (.int x) := e
    have h1 : isErr (zD D.int W) = false := rfl
    have h2 := hi p
    have h3 : ∀ C, vw C (zD D.int W) = zD D.int W := fun _ => rfl
    have h4 : ∀ C, vw C (iT p) = iT p := fun _ => rfl
    unfold Ef
    generalize zD D.int W = ZW at *
    generalize iT p = P at *
    simp! only [h1, h2, h3, h4, e]
  have a3 : x2 dAdd (xDGet2 (xV 5) (xV 9) (S.val (.int (0)))) (x2 dDGet (xV 2) (xV 4)) (Ef cs h W rg (some (iT p)) o l (some (iT s)) (some (iT (raiseP h p s)))) (Cf u L) = some (.ok (.int (get0 L (raiseP h p s) + x)) (Cf u L)) := by
    generalize xDGet2 (xV 5) (xV 9) (S.val (.int (0))) = QA at a1 ⊢
    generalize x2 dDGet (xV 2) (xV 4) = QB at a2 ⊢
    generalize Ef cs h W rg (some (iT p)) o l (some (iT s)) (some (iT (raiseP h p s))) = EE at *
    simp! only [a1, a2]
  rw [setT_z (en := D.int) nc_int (n := 1) (g := L) (p := raiseP h p s) (c := get0 L (raiseP h p s) + x) rfl rfl a3 hcell (by have := hL.len; omega)]
  rfl
def okO (d : Option D) : Prop := ∀ n, Sm.cutV n d = d
theorem okO_nc {d : D} (h : nocel d = true) : okO (some d) := fun _ => cutV_nc h
include hcs in
theorem cut_Ef (hr : okO rg) (ho : okO o) (p l c g : Option D) : cutE 2 (Ef cs h W rg p o l c g) = Ef cs h W rg (Sm.cutV 2 p) o (Sm.cutV 2 l) (Sm.cutV 2 c) (Sm.cutV 2 g) := by
  show [Sm.cutV 2 (some cs), Sm.cutV 2 (some (iT h)), Sm.cutV 2 (some (zD D.int W)), Sm.cutV 2 rg, Sm.cutV 2 p, Sm.cutV 2 (some (.cel 1)), Sm.cutV 2 o, Sm.cutV 2 l, Sm.cutV 2 c, Sm.cutV 2 g] = _
  rw [cutV_nc hcs, cutV_nc (nc_iT h), cutV_nc (nc_zD W), hr, ho, cutV_cel (by decide)]
include hcs in
theorem fc_q2 (hr : okO rg) (ho : okO o) {p : Hp3} {x : Int} (ha : (h, p) ∈ PR) {lot : List Int} (hl : lot ∈ lotAll) (hs : ∀ s ∈ subs lot, s ∈ colsP h p) (hx : getZ W p = some x) {c g : Option D} {L : Zi} (hL : Inn h L) :
    ∃ c' g', q2_fillings_count_in (Ef cs h W rg (some (iT p)) o (some (iL lot)) c g) (Cf u L) = some (.nx (Ef cs h W rg (some (iT p)) o (some (iL lot)) c' g') (Cf u (((subs lot).map (raiseP h p)).foldl (addZ x) L))) ∧ Inn h (((subs lot).map (raiseP h p)).foldl (addZ x) L) := by
  have e1 : m_some_columns [iL lot] (Cf u L) = some (.ok (.lst ((subs lot).map iT)) (Cf u L)) := mapE (some_all u (some (.t (zks L) (zvs D.int L)))) lot hl
  have hri := (raise_in (h, p) ha).1
  obtain ⟨e2, C2, h1, ⟨c', g', rfl, rfl⟩, h3⟩ := forC_fold (i := 8) (it := iV (xCall m_some_columns (aCons (xV 7) (aNil)))) (b := q1_fillings_count_in) (env := Ef cs h W rg (some (iT p)) o (some (iL lot)) c g) (C := Cf u L) (C1 := Cf u L) (fun s => iT s) (fun (z : Zi) s => addZ x z (raiseP h p s)) (fun z e C => (∃ c' g', e = Ef cs h W rg (some (iT p)) o (some (iL lot)) c' g' ∧ C = Cf u z) ∧ Inn h z) (subs lot) L (by
      have hi : isErr (iL lot) = false := rfl
      unfold Ef
      generalize iL lot = LL at *
      generalize (subs lot).map iT = SL at *
      simp! only [e1, hi]) (fun s _ => nc_iT s) ⟨⟨Sm.cutV 2 c, Sm.cutV 2 g, by rw [show (Cf u L).length = 2 from rfl, cut_Ef hcs hr ho, cutV_nc (nc_iT p), cutV_nc (nc_iL lot)], rfl⟩, hL⟩ (by
      rintro s hsm Z e C ⟨⟨c', g', rfl, rfl⟩, hZ⟩
      have hq := fc_q1 (cs := cs) (rg := rg) (o := o) (u := u) (W := W) ha (hs s hsm) hx (l := some (iL lot)) (g := g') hZ
      refine ⟨_, _, hq, ⟨Sm.cutV 2 (some (iT s)), Sm.cutV 2 (some (iT (raiseP h p s))), ?_, rfl⟩, hZ.add (hri s (hs s hsm)) _⟩
      rw [show (Cf u L).length = 2 from rfl, cut_Ef hcs hr ho, cutV_nc (nc_iT p), cutV_nc (nc_iL lot)])
  rw [List.foldl_map]
  exact ⟨c', g', h1, h3⟩
/-- one part: all its lots -/
def partF (h : Hp3) (o : Nat) (L : Zi) (e : Hp3 × Int) : Zi := (movP h e.1 o).foldl (addZ e.2) L
include hcs in
theorem fc_q4 (hr : okO rg) {on : Nat} (hon : on ∈ OR) {p : Hp3} {x : Int} (ha : (h, p) ∈ PR) (hx : getZ W p = some x) {l c g : Option D} {L : Zi} (hL : Inn h L) :
    ∃ l' c' g', q4_fillings_count_in (Ef cs h W rg (some (iT p)) (some (.int (on : Nat))) l c g) (Cf u L) = some (.nx (Ef cs h W rg (some (iT p)) (some (.int (on : Nat))) l' c' g') (Cf u (partF h on L (p, x)))) ∧ Inn h (partF h on L (p, x)) := by
  have ho : okO (some (D.int (on : Nat))) := okO_nc rfl
  have e1 : m_let_columns [iT h, iT p, .int (on : Nat)] (Cf u L) = some (.ok (.lst ((lotsP h p on).map iL)) (Cf u L)) := mapE2 (m := fun _ => OR) (let_all u (some (.t (zks L) (zvs D.int L)))) (h, p) ha on hon
  have hli := lots_in (h, p) ha on hon
  obtain ⟨e2, C2, h1, ⟨l', c', g', rfl, rfl⟩, h3⟩ := forC_fold (i := 7) (it := iV (xCall m_let_columns (aCons (xV 1) (aCons (xV 4) (aCons (xV 6) (aNil)))))) (b := q3_fillings_count_in) (env := Ef cs h W rg (some (iT p)) (some (.int (on : Nat))) l c g) (C := Cf u L) (C1 := Cf u L) (fun s => iL s) (fun (z : Zi) lot => ((subs lot).map (raiseP h p)).foldl (addZ x) z) (fun z e C => (∃ l' c' g', e = Ef cs h W rg (some (iT p)) (some (.int (on : Nat))) l' c' g' ∧ C = Cf u z) ∧ Inn h z) (lotsP h p on) L (by
      have hi1 : isErr (iT h) = false := rfl
      have hi2 : isErr (iT p) = false := rfl
      unfold Ef
      generalize iT h = H at *
      generalize iT p = P at *
      generalize (lotsP _ _ _).map iL = SL at *
      simp! only [e1, hi1, hi2]) (fun s _ => nc_iL s) ⟨⟨Sm.cutV 2 l, Sm.cutV 2 c, Sm.cutV 2 g, by rw [show (Cf u L).length = 2 from rfl, cut_Ef hcs hr ho, cutV_nc (nc_iT p)], rfl⟩, hL⟩ (by
      rintro lot hlm Z e C ⟨⟨l', c', g', rfl, rfl⟩, hZ⟩
      obtain ⟨q1, q2, q3⟩ := hli lot hlm
      obtain ⟨c2, g2, hq, hI⟩ := fc_q2 hcs (u := u) hr ho (W := W) ha q2 q3 hx (c := c') (g := g') hZ
      refine ⟨_, _, hq, ⟨Sm.cutV 2 (some (iL lot)), Sm.cutV 2 c2, Sm.cutV 2 g2, ?_, rfl⟩, hI⟩
      rw [show (Cf u L).length = 2 from rfl, cut_Ef hcs hr ho, cutV_nc (nc_iT p)])
  have hf : (lotsP h p on).foldl (fun (z : Zi) lot => ((subs lot).map (raiseP h p)).foldl (addZ x) z) L = partF h on L (p, x) := by
    unfold partF movP
    rw [List.foldl_flatMap]
  rw [hf] at h1 h3
  exact ⟨l', c', g', h1, h3⟩
/-- one ring more -/
def ringF (h : Hp3) (o : Nat) (W : Zi) : Zi := W.foldl (partF h o) W
include hcs in
theorem fc_q6 (hr : okO rg) {on : Nat} (hon : on ∈ OR) (hW : Inn h W) {p l c g : Option D} :
    ∃ p' l' c' g', q6_fillings_count_in (Ef cs h W rg p (some (.int (on : Nat))) l c g) (Cf u W) = some (.nx (Ef cs h W rg p' (some (.int (on : Nat))) l' c' g') (Cf u (ringF h on W))) ∧ Inn h (ringF h on W) := by
  have ho : okO (some (D.int (on : Nat))) := okO_nc rfl
  obtain ⟨e2, C2, h1, ⟨p', l', c', g', rfl, rfl⟩, h3⟩ := forC_fold (i := 4) (it := iV (xV 2)) (b := q5_fillings_count_in) (env := Ef cs h W rg p (some (.int (on : Nat))) l c g) (C := Cf u W) (C1 := Cf u W) (fun (e : Hp3 × Int) => iT e.1) (partF h on) (fun z e C => (∃ p' l' c' g', e = Ef cs h W rg p' (some (.int (on : Nat))) l' c' g' ∧ C = Cf u z) ∧ Inn h z) W W (by
      have hi : isErr (zD D.int W) = false := rfl
      have hit := items_z (C := Cf u W) D.int W
      have hv : xV 2 (Ef cs h W rg p (some (.int (on : Nat))) l c g) (Cf u W) = some (.ok (zD D.int W) (Cf u W)) := rfl
      unfold iV S.bind
      rw [hv]
      dsimp only
      unfold S.opt
      rw [hit]) (fun e _ => nc_iT e.1) ⟨⟨Sm.cutV 2 p, Sm.cutV 2 l, Sm.cutV 2 c, Sm.cutV 2 g, by rw [show (Cf u W).length = 2 from rfl, cut_Ef hcs hr ho], rfl⟩, hW⟩ (by
      rintro ⟨q, x⟩ hm Z e C ⟨⟨p', l', c', g', rfl, rfl⟩, hZ⟩
      obtain ⟨l2, c2, g2, hq, hI⟩ := fc_q4 hcs (u := u) (W := W) hr hon (hW.pr _ hm) (getZ_of hW.nd hm) (l := l') (c := c') (g := g') hZ
      refine ⟨_, _, hq, ⟨Sm.cutV 2 (some (iT q)), Sm.cutV 2 l2, Sm.cutV 2 c2, Sm.cutV 2 g2, ?_, rfl⟩, hI⟩
      rw [show (Cf u W).length = 2 from rfl, cut_Ef hcs hr ho])
  exact ⟨p', l', c', g', h1, h3⟩
end
end Sk47
end
section
set_option maxRecDepth 100000
set_option maxHeartbeats 0
set_option exponentiation.threshold 1000000
namespace Sk47
open PySem L2 Sm
theorem def_retE {f : Fn} {as : List D} {C C' : Cells} {d : D} (n m : Nat) (b : SS) (hf : f = xDef n m b) (hn : as.length = n) (h : b (as.map some ++ List.replicate (m - n) none) C = some (.ret d C')) (hd : nocel d = true) : f as C = some (.ok d (C'.take C.length)) := by
  subst hf
  unfold xDef
  rw [if_pos hn, h]
  exact if_pos hd
/-! ### a dict of heaps is copied -/
theorem wh_hash : (WH.map hashR).Nodup := apart_ok (by decide +kernel)
theorem kRow_kZ : ∀ p : List Int, kRow (kZ p) = some p
  | [] => rfl
  | x :: p => by
    show (match (match (Sum.inl x : Key) with
      | .inl i => some i
      | .inr _ => none), kRow (kZ p) with
      | some i, some r => some (i :: r)
      | _, _ => none) = _
    rw [kRow_kZ p]
theorem rowsE_z {α : Type} : ∀ W : List (List Int × α), rowsE (zks W) = some (W.map (·.1))
  | [] => rfl
  | e :: W => by
    show (match kRow (kZ e.1), rowsE (zks W) with
      | some r, some rs => some (r :: rs)
      | _, _ => none) = _
    rw [kRow_kZ, rowsE_z W]
    rfl
theorem hash_nd : ∀ {l : List Hp3}, l.Nodup → (∀ x ∈ l, x ∈ WH) → (l.map hashR).Nodup
  | [], _, _ => List.nodup_nil
  | x :: l, hn, hm => by
    rw [List.nodup_cons] at hn
    rw [List.map_cons, List.nodup_cons]
    refine ⟨fun h => ?_, hash_nd hn.2 fun y hy => hm y (List.mem_cons_of_mem _ hy)⟩
    obtain ⟨y, hy, e⟩ := List.mem_map.mp h
    have := map_inj wh_hash (hm y (List.mem_cons_of_mem _ hy)) (hm x List.mem_cons_self) e
    subst this
    exact hn.1 hy
theorem dictE_z {α : Type} (en : α → D) {W : List (List Int × α)} (hn : (W.map (·.1)).Nodup) (hm : ∀ e ∈ W, e.1 ∈ WH) : dictE [zD en W] = some (zks W, zvs en W) := by
  show ((rowsE (zks W)).bind fun ns => if apart (ns.map hashR) = true then some (zks W, zvs en W) else none) = _
  rw [rowsE_z, Option.bind_some, if_pos (apart_of (hash_nd hn fun x hx => by
    obtain ⟨e, he, rfl⟩ := List.mem_map.mp hx
    exact hm e he))]
theorem copy_z {α : Type} (en : α → D) (hnc : ∀ a, nocel (en a) = true) {W : List (List Int × α)} (hn : (W.map (·.1)).Nodup) (hm : ∀ e ∈ W, e.1 ∈ WH) {s : S D} {e : Sm.Env} {C : Cells} (hs : s e C = some (.ok (zD en W) C)) : xDictEC (aCons s aNil) e C = some (.ok (.cel C.length) (C ++ [some (.t (zks W) (zvs en W))])) := by
  have h1 := dictE_z en hn hm
  have h2 : nocels (zvs en W) = true := nc_z hnc W
  have hv : vw C (zD en W) = zD en W := rfl
  unfold xDictEC S.bind aCons S.bind
  simp only [hs, aNil, S.val, S.bind, List.map_cons, List.map_nil, hv, h1, h2, if_true]
/-! ### fillings are counted -/
section
variable {h : Hp3} {u : Option Ob} {cs : Ch}
def ringsF (h : Hp3) (cs : Ch) (W : Zi) : Zi := cs.foldl (fun W c => ringF h (ordN c) W) W
def Okc (cs : Ch) : Prop := ∀ c ∈ cs, 2 ≤ c.1 ∧ c.1 ≤ 60 ∧ 1 ≤ c.2 ∧ c.2 < c.1 ∧ ordN c ∈ OR
local macro_rules | `(tactic| simp! only [$ls,*] $[$l:location]?) => `(tactic| simp only [↓xDef,↓xSeq,↓xDo,↓xNext,↓xRet,↓xExp,↓xIfS,↓xAsg,↓gN,↓gT,↓gsC,↓gsN,↓xV,↓S.val,↓S.bind,↓S.opt,↓x2,↓x1,↓xN,↓xB,↓xD,↓xAnd,↓xOr,↓xNot,↓xIf,↓xAndV,↓xOrV,↓xNotV,↓xChain,↓aNil,↓aCons,↓xTup,↓few,↓xF,↓xC,↓xSetI,↓xPar,↓xCall,↓xFrz,↓xM,live,i2,dSub,dAdd,dMul,dMulA,dMod,dDiv,dLt,dLe,dGt,dGe,dIx,at10,at20,at21,at30,at31,at32,cst0,cst1,cst2,cst3,dNeg,dAbs,dInt,dLen,dMin2,dMax2,dGcd,dTuple,↓iR1,↓iR2,↓iV,items,↓iEn,items1,nocel,nocels,List.map_cons,List.map_nil,List.getElem?_cons_zero,List.getElem?_cons_succ,List.getElem?_nil,List.set_cons_zero,List.set_cons_succ,List.length_cons,List.length_nil,List.replicate,List.cons_append,List.nil_append,Nat.reduceAdd,Nat.reduceSub,Bool.false_eq_true,if_true,if_false,Option.map_some,Option.bind_some,Option.bind_none,Bool.and_true,Bool.and_false,Bool.true_and,Bool.not_true,Bool.not_false,decide_true,decide_false,vw_n,vw_b,vw_i,vw_s,vw_u,vw_l,vw_o,ie_n,ie_b,ie_i,ie_s,ie_u,ie_l,ie_c,x10,x20,x21,x30,x31,x32,fin_b,fin_i,eq_ii,ne_ii,List.take_length,vw_k,ie_k,id_eq,Nat.reduceLeDiff,↓xSl,↓xAugI,↓oE,↓oNo,↓xLs,↓xExt,↓iZp, $ls,*] $[$l]?)
theorem fc_ring {c : Int × Int} (hc : 2 ≤ c.1 ∧ c.1 ≤ 60 ∧ 1 ≤ c.2 ∧ c.2 < c.1 ∧ ordN c ∈ OR) {W : Zi} (hW : Inn h W) {p o5 o l cc g : Option D} :
    ∃ p' l' c' g', q7_fillings_count_in [some (chD cs), some (iT h), some (zD D.int W), some (rd c), p, o5, o, l, cc, g] [u] = some (.nx [some (chD cs), some (iT h), some (zD D.int (ringF h (ordN c) W)), some (rd c), p', some (.cel 1), some (.int (ordN c : Nat)), l', c', g'] [u, none]) ∧ Inn h (ringF h (ordN c) W) := by
  obtain ⟨c1, c2, c3, c4, c5⟩ := hc
  have hcs : nocel (chD cs) = true := nc_rd cs
  obtain ⟨p', l', c', g', h1, h2⟩ := fc_q6 (cs := chD cs) hcs (u := u) (rg := some (rd c)) (okO_nc rfl) c5 hW (p := p) (l := l) (c := cc) (g := g)
  refine ⟨p', l', c', g', ?_, h2⟩
  have e1 := copy_z D.int nc_int hW.nd (fun e he => (pr_wh (hW.pr e he)).2.1) (s := xV 2) (e := [some (chD cs), some (iT h), some (zD D.int W), some (rd c), p, o5, o, l, cc, g]) (C := [u]) rfl
  have e2 := order_in c1 c2 (Cf u W)
  have hcell : (Cf u (ringF h (ordN c) W))[1]? = some (some (Ob.t (zks (ringF h (ordN c) W)) (zvs D.int (ringF h (ordN c) W)))) := rfl
  have z1 : xPar 5 6 (aCons (xDictEC (aCons (xV 2) (aNil))) (aCons (xCall m_order_in (aCons (xV 3) (aNil))) (aNil))) [some (chD cs), some (iT h), some (zD D.int W), some (rd c), p, o5, o, l, cc, g] [u] = some (.nx (Ef (chD cs) h W (some (rd c)) p (some (.int (ordN c : Nat))) l cc g) (Cf u W)) := by
    have hr : isErr (rd c) = false := rfl
    generalize xDictEC (aCons (xV 2) (aNil)) = QD at e1 ⊢
    unfold Ef
    unfold Cf at e2 ⊢
    generalize rd c = RC at *
    generalize zD D.int W = ZW at *
    generalize zks W = K1 at *
    generalize zvs D.int W = V1 at *
    generalize chD cs = CH at *
    generalize iT h = H at *
    simp! only [e1, e2, hr]
  have z3 : xAsg (xFrzT (xV 5)) (gN 2) (Ef (chD cs) h W (some (rd c)) p' (some (.int (ordN c : Nat))) l' c' g') (Cf u (ringF h (ordN c) W)) = some (.nx [some (chD cs), some (iT h), some (zD D.int (ringF h (ordN c) W)), some (rd c), p', some (.cel 1), some (.int (ordN c : Nat)), l', c', g'] [u, none]) := by
    have e3 := frzT_z (en := D.int) (so := xV 5) (e := Ef (chD cs) h W (some (rd c)) p' (some (.int (ordN c : Nat))) l' c' g') (n := 1) rfl hcell
    unfold xAsg xDo
    rw [e3]
    rfl
  unfold q7_fillings_count_in
  rw [sqE z1, sqE h1]
  exact z3
theorem fillings_in (hC : Okc cs) (hh : h ∈ WH) (h0 : inH h [] = true) (hl : cs.length ≤ 1000) : m_fillings_count_in [chD cs, iT h] [u] = some (.ok (.int (get0 (ringsF h cs [([], 1)]) h)) [u]) := by
  have hI : Inn h [([], 1)] := ⟨List.nodup_cons.mpr ⟨by simp, List.nodup_nil⟩, fun e he => by
    rw [List.mem_singleton] at he
    subst he
    exact pr_mk hh (by decide) h0⟩
  have hcs : nocel (chD cs) = true := nc_rd cs
  obtain ⟨e2, C2, h1, ⟨r', p', o5, o', l', c', g', rfl, rfl⟩, h3⟩ := forC_fold (i := 3) (it := iV (xV 0)) (b := q7_fillings_count_in) (env := [some (chD cs), some (iT h), some (zD D.int [([], 1)]), none, none, none, none, none, none, none]) (C := [u]) (C1 := [u]) rd (fun (W : Zi) c => ringF h (ordN c) W) (fun z e C => (∃ r' p' o5 o' l' c' g', e = [some (chD cs), some (iT h), some (zD D.int z), r', p', o5, o', l', c', g'] ∧ C = [u]) ∧ Inn h z) cs [([], 1)] (by
      unfold chD
      generalize cs.map rd = CR at *
      simp! only []) (fun c _ => rfl) ⟨⟨none, none, none, none, none, none, none, by
        show [Sm.cutV 1 (some (chD cs)), Sm.cutV 1 (some (iT h)), Sm.cutV 1 (some (zD D.int [([], 1)])), none, none, none, none, none, none, none] = _
        rw [cutV_nc hcs, cutV_nc (nc_iT h), cutV_nc (nc_zD _)], rfl⟩, hI⟩ (by
      rintro c hm Z e C ⟨⟨r', p', o5, o', l', c', g', rfl, rfl⟩, hZ⟩
      obtain ⟨p2, l2, c2, g2, hq, hI2⟩ := fc_ring (cs := cs) (u := u) (hC c hm) hZ (p := p') (o5 := o5) (o := o') (l := l') (cc := c') (g := g')
      refine ⟨_, _, hq, ⟨Sm.cutV 1 (some (rd c)), Sm.cutV 1 p2, Sm.cutV 1 (some (.cel 1)), Sm.cutV 1 (some (.int (ordN c : Nat))), Sm.cutV 1 l2, Sm.cutV 1 c2, Sm.cutV 1 g2, ?_, rfl⟩, hI2⟩
      show [Sm.cutV 1 (some (chD cs)), Sm.cutV 1 (some (iT h)), Sm.cutV 1 (some (zD D.int _)), _, _, _, _, _, _, _] = _
      rw [cutV_nc hcs, cutV_nc (nc_iT h), cutV_nc (nc_zD _)]
      rfl)
  have hf : cs.foldl (fun (W : Zi) c => ringF h (ordN c) W) [([], 1)] = ringsF h cs [([], 1)] := rfl
  rw [hf] at h1 h3
  have z1 : xAsg (xDispT [(xTup (aNil), S.val (.int (1)))]) (gN 2) [some (chD cs), some (iT h), none, none, none, none, none, none, none, none] [u] = some (.nx [some (chD cs), some (iT h), some (zD D.int [([], 1)]), none, none, none, none, none, none, none] [u]) := by
    generalize chD cs = CH
    generalize iT h = H
    kernel_rfl
  have z3 : xRet (xDGet2 (xV 2) (xV 1) (S.val (.int (0)))) [some (chD cs), some (iT h), some (zD D.int (ringsF h cs [([], 1)])), r', p', o5, o', l', c', g'] [u] = some (.ret (.int (get0 (ringsF h cs [([], 1)]) h)) [u]) := by
    have e := get2_z (en := D.int) (so := xV 2) (si := xV 1) (sz := S.val (.int (0))) (e := [some (chD cs), some (iT h), some (zD D.int (ringsF h cs [([], 1)])), r', p', o5, o', l', c', g']) (C := [u]) (g := ringsF h cs [([], 1)]) (p := h) (d := zD D.int (ringsF h cs [([], 1)])) (z := .int 0) rfl rfl rfl rfl
    rw [get0_map] at e
    unfold xRet xDo
    rw [e]
  have hb : b_fillings_count_in ([chD cs, iT h].map some ++ List.replicate 8 none) [u] = some (.ret (.int (get0 (ringsF h cs [([], 1)]) h)) [u]) := by
    unfold b_fillings_count_in
    exact (sqE z1).trans ((sqE (show q8_fillings_count_in _ _ = _ from h1)).trans z3)
  have hd := def_retE 2 10 b_fillings_count_in (f := m_fillings_count_in) (as := [chD cs, iT h]) rfl rfl hb rfl
  exact hd
end
end Sk47
end
section
set_option maxRecDepth 100000
set_option maxHeartbeats 0
set_option exponentiation.threshold 1000000
namespace Sk47
open PySem L2 Sm
/-! ### fewest letters -/
def mnI (a b : Int) : Int := if b < a then b else a
def addM (x : Int) (L : Zi) (g : Hp3) : Zi := putZ L g (mnI ((getZ L g).getD 1000) (x + 1))
theorem getD_map (L : Zi) (g : Hp3) (z : Int) : ((getZ L g).map D.int).getD (.int z) = .int ((getZ L g).getD z) := by
  cases getZ L g <;> rfl
section
variable {cs : D} (hcs : nocel cs = true) {h : Hp3} {W : Zi} {rg o : Option D} {u : Option Ob}
abbrev Eg (cs : D) (h : Hp3) (W : Zi) (rg : Option D) (p : Option D) (o l g : Option D) : Sm.Env := [some cs, some (iT h), some (zD D.int W), rg, p, some (.cel 1), o, l, g]
local macro_rules | `(tactic| simp! only [$ls,*] $[$l:location]?) => `(tactic| simp only [↓xDef,↓xSeq,↓xDo,↓xNext,↓xRet,↓xExp,↓xIfS,↓xAsg,↓gN,↓gT,↓gsC,↓gsN,↓xV,↓S.val,↓S.bind,↓S.opt,↓x2,↓x1,↓xN,↓xB,↓xD,↓xAnd,↓xOr,↓xNot,↓xIf,↓xAndV,↓xOrV,↓xNotV,↓xChain,↓aNil,↓aCons,↓xTup,↓few,↓xF,↓xC,↓xSetI,↓xPar,↓xCall,↓xFrz,↓xM,live,i2,dSub,dAdd,dMul,dMulA,dMod,dDiv,dLt,dLe,dGt,dGe,dIx,at10,at20,at21,at30,at31,at32,cst0,cst1,cst2,cst3,dNeg,dAbs,dInt,dLen,dMin2,dMax2,dGcd,dTuple,↓iR1,↓iR2,↓iV,items,↓iEn,items1,nocel,nocels,List.map_cons,List.map_nil,List.getElem?_cons_zero,List.getElem?_cons_succ,List.getElem?_nil,List.set_cons_zero,List.set_cons_succ,List.length_cons,List.length_nil,List.replicate,List.cons_append,List.nil_append,Nat.reduceAdd,Nat.reduceSub,Bool.false_eq_true,if_true,if_false,Option.map_some,Option.bind_some,Option.bind_none,Bool.and_true,Bool.and_false,Bool.true_and,Bool.not_true,Bool.not_false,decide_true,decide_false,vw_n,vw_b,vw_i,vw_s,vw_u,vw_l,vw_o,ie_n,ie_b,ie_i,ie_s,ie_u,ie_l,ie_c,x10,x20,x21,x30,x31,x32,fin_b,fin_i,eq_ii,ne_ii,List.take_length,vw_k,ie_k,id_eq,Nat.reduceLeDiff,↓xSl,↓xAugI,↓oE,↓oNo,↓xLs,↓xExt,↓iZp, $ls,*] $[$l]?)
theorem fl_q1 {p : Hp3} {x : Int} (ha : (h, p) ∈ PR) {s : List Int} (hs : s ∈ colsP h p) (hx : getZ W p = some x) {g : Option D} {L : Zi} (hL : Inn h L) :
    q1_fewest_letters_in (Eg cs h W rg (some (iT p)) o (some (iL s)) g) (Cf u L) = some (.nx (Eg cs h W rg (some (iT p)) o (some (iL s)) (some (iT (raiseP h p s)))) (Cf u (addM x L (raiseP h p s)))) := by
  have e1 : m_with_columns [iT h, iT p, iL s] (Cf u L) = some (.ok (iT (raiseP h p s)) (Cf u L)) := mapE2 (with_all u (some (.t (zks L) (zvs D.int L)))) (h, p) ha s hs
  have hcell : (Cf u L)[1]? = some (some (Ob.t (zks L) (zvs D.int L))) := rfl
  have hi : ∀ xs : List Int, isErr (iT xs) = false := fun _ => rfl
  have hil : isErr (iL s) = false := rfl
  have z1 : xAsg (xCall m_with_columns (aCons (xV 1) (aCons (xV 4) (aCons (xV 7) (aNil))))) (gN 8) (Eg cs h W rg (some (iT p)) o (some (iL s)) g) (Cf u L) = some (.nx (Eg cs h W rg (some (iT p)) o (some (iL s)) (some (iT (raiseP h p s)))) (Cf u L)) := by
    have h1 := hi h
    have h2 := hi p
    unfold Eg
    generalize iT h = H at *
    generalize iT p = P at *
    generalize iL s = SS at *
    generalize iT (raiseP _ _ _) = G at *
    simp! only [e1, h1, h2, hil]
  unfold q1_fewest_letters_in
  rw [sqE z1]
  have a1 : xDGet2 (xV 5) (xV 8) (S.val (.int (1000))) (Eg cs h W rg (some (iT p)) o (some (iL s)) (some (iT (raiseP h p s)))) (Cf u L) = some (.ok (.int ((getZ L (raiseP h p s)).getD 1000)) (Cf u L)) := by
    rw [get2_z (en := D.int) (g := L) (p := raiseP h p s) (d := .cel 1) (z := .int 1000) rfl (vw_tz hcell) rfl rfl, getD_map]
  have a2 : x2 dDGet (xV 2) (xV 4) (Eg cs h W rg (some (iT p)) o (some (iL s)) (some (iT (raiseP h p s)))) (Cf u L) = some (.ok (.int x) (Cf u L)) := by
    have e := dget_z D.int W p
    rw [hx] at e
    have e : dDGet (zD D.int W) (iT p) = some (.int x) := e
    have h1 : isErr (zD D.int W) = false := rfl
    have h2 := hi p
    have h3 : ∀ C, vw C (zD D.int W) = zD D.int W := fun _ => rfl
    have h4 : ∀ C, vw C (iT p) = iT p := fun _ => rfl
    unfold Eg
    generalize zD D.int W = ZW at *
    generalize iT p = P at *
    simp! only [h1, h2, h3, h4, e]
  have a3 : xN dMin2 (aCons (xDGet2 (xV 5) (xV 8) (S.val (.int (1000)))) (aCons (x2 dAdd (x2 dDGet (xV 2) (xV 4)) (S.val (.int (1)))) (aNil))) (Eg cs h W rg (some (iT p)) o (some (iL s)) (some (iT (raiseP h p s)))) (Cf u L) = some (.ok (.int (mnI ((getZ L (raiseP h p s)).getD 1000) (x + 1))) (Cf u L)) := by
    unfold mnI
    generalize xDGet2 (xV 5) (xV 8) (S.val (.int (1000))) = QA at a1 ⊢
    generalize x2 dDGet (xV 2) (xV 4) = QB at a2 ⊢
    generalize Eg cs h W rg (some (iT p)) o (some (iL s)) (some (iT (raiseP h p s))) = EE at *
    generalize (getZ L (raiseP h p s)).getD 1000 = GG at *
    simp! only [a1, a2]
  rw [setT_z (en := D.int) nc_int (n := 1) (g := L) (p := raiseP h p s) (c := mnI ((getZ L (raiseP h p s)).getD 1000) (x + 1)) rfl rfl a3 hcell (by have := hL.len; omega)]
  rfl
include hcs in
theorem cut_Eg (hr : okO rg) (ho : okO o) (p l g : Option D) : cutE 2 (Eg cs h W rg p o l g) = Eg cs h W rg (Sm.cutV 2 p) o (Sm.cutV 2 l) (Sm.cutV 2 g) := by
  show [Sm.cutV 2 (some cs), Sm.cutV 2 (some (iT h)), Sm.cutV 2 (some (zD D.int W)), Sm.cutV 2 rg, Sm.cutV 2 p, Sm.cutV 2 (some (.cel 1)), Sm.cutV 2 o, Sm.cutV 2 l, Sm.cutV 2 g] = _
  rw [cutV_nc hcs, cutV_nc (nc_iT h), cutV_nc (nc_zD W), hr, ho, cutV_cel (by decide)]
/-- one part: all its whole lots -/
def partM (h : Hp3) (o : Nat) (L : Zi) (e : Hp3 × Int) : Zi := (movW h e.1 o).foldl (addM e.2) L
include hcs in
theorem fl_q4 (hr : okO rg) {on : Nat} (hon : on ∈ OR) {p : Hp3} {x : Int} (ha : (h, p) ∈ PR) (hx : getZ W p = some x) {l g : Option D} {L : Zi} (hL : Inn h L) :
    ∃ l' g', q2_fewest_letters_in (Eg cs h W rg (some (iT p)) (some (.int (on : Nat))) l g) (Cf u L) = some (.nx (Eg cs h W rg (some (iT p)) (some (.int (on : Nat))) l' g') (Cf u (partM h on L (p, x)))) ∧ Inn h (partM h on L (p, x)) := by
  have ho : okO (some (D.int (on : Nat))) := okO_nc rfl
  have e1 : m_let_columns [iT h, iT p, .int (on : Nat)] (Cf u L) = some (.ok (.lst ((lotsP h p on).map iL)) (Cf u L)) := mapE2 (m := fun _ => OR) (let_all u (some (.t (zks L) (zvs D.int L)))) (h, p) ha on hon
  have hli := lots_in (h, p) ha on hon
  have hri := (raise_in (h, p) ha).1
  obtain ⟨e2, C2, h1, ⟨l', g', rfl, rfl⟩, h3⟩ := forC_fold (i := 7) (it := iV (xCall m_let_columns (aCons (xV 1) (aCons (xV 4) (aCons (xV 6) (aNil)))))) (b := q1_fewest_letters_in) (env := Eg cs h W rg (some (iT p)) (some (.int (on : Nat))) l g) (C := Cf u L) (C1 := Cf u L) (fun s => iL s) (fun (z : Zi) lot => addM x z (raiseP h p lot)) (fun z e C => (∃ l' g', e = Eg cs h W rg (some (iT p)) (some (.int (on : Nat))) l' g' ∧ C = Cf u z) ∧ Inn h z) (lotsP h p on) L (by
      have hi1 : isErr (iT h) = false := rfl
      have hi2 : isErr (iT p) = false := rfl
      unfold Eg
      generalize iT h = H at *
      generalize iT p = P at *
      generalize (lotsP _ _ _).map iL = SL at *
      simp! only [e1, hi1, hi2]) (fun s _ => nc_iL s) ⟨⟨Sm.cutV 2 l, Sm.cutV 2 g, by rw [show (Cf u L).length = 2 from rfl, cut_Eg hcs hr ho, cutV_nc (nc_iT p)], rfl⟩, hL⟩ (by
      rintro lot hlm Z e C ⟨⟨l', g', rfl, rfl⟩, hZ⟩
      obtain ⟨q1, q2, q3⟩ := hli lot hlm
      have hq := fl_q1 (cs := cs) (u := u) (rg := rg) (o := some (.int (on : Nat))) (W := W) ha q1 hx (g := g') hZ
      refine ⟨_, _, hq, ⟨Sm.cutV 2 (some (iL lot)), Sm.cutV 2 (some (iT (raiseP h p lot))), ?_, rfl⟩, hZ.add (hri lot q1) _⟩
      rw [show (Cf u L).length = 2 from rfl, cut_Eg hcs hr ho, cutV_nc (nc_iT p)])
  have hf : (lotsP h p on).foldl (fun (z : Zi) lot => addM x z (raiseP h p lot)) L = partM h on L (p, x) := by
    unfold partM movW
    rw [List.foldl_map]
  rw [hf] at h1 h3
  exact ⟨l', g', h1, h3⟩
/-- one ring more -/
def ringM (h : Hp3) (o : Nat) (W : Zi) : Zi := W.foldl (partM h o) W
include hcs in
theorem fl_q6 (hr : okO rg) {on : Nat} (hon : on ∈ OR) (hW : Inn h W) {p l g : Option D} :
    ∃ p' l' g', q4_fewest_letters_in (Eg cs h W rg p (some (.int (on : Nat))) l g) (Cf u W) = some (.nx (Eg cs h W rg p' (some (.int (on : Nat))) l' g') (Cf u (ringM h on W))) ∧ Inn h (ringM h on W) := by
  have ho : okO (some (D.int (on : Nat))) := okO_nc rfl
  obtain ⟨e2, C2, h1, ⟨p', l', g', rfl, rfl⟩, h3⟩ := forC_fold (i := 4) (it := iV (xV 2)) (b := q3_fewest_letters_in) (env := Eg cs h W rg p (some (.int (on : Nat))) l g) (C := Cf u W) (C1 := Cf u W) (fun (e : Hp3 × Int) => iT e.1) (partM h on) (fun z e C => (∃ p' l' g', e = Eg cs h W rg p' (some (.int (on : Nat))) l' g' ∧ C = Cf u z) ∧ Inn h z) W W (by
      have hit := items_z (C := Cf u W) D.int W
      have hv : xV 2 (Eg cs h W rg p (some (.int (on : Nat))) l g) (Cf u W) = some (.ok (zD D.int W) (Cf u W)) := rfl
      unfold iV S.bind
      rw [hv]
      dsimp only
      unfold S.opt
      rw [hit]) (fun e _ => nc_iT e.1) ⟨⟨Sm.cutV 2 p, Sm.cutV 2 l, Sm.cutV 2 g, by rw [show (Cf u W).length = 2 from rfl, cut_Eg hcs hr ho], rfl⟩, hW⟩ (by
      rintro ⟨q, x⟩ hm Z e C ⟨⟨p', l', g', rfl, rfl⟩, hZ⟩
      obtain ⟨l2, g2, hq, hI⟩ := fl_q4 hcs (u := u) (W := W) hr hon (hW.pr _ hm) (getZ_of hW.nd hm) (l := l') (g := g') hZ
      refine ⟨_, _, hq, ⟨Sm.cutV 2 (some (iT q)), Sm.cutV 2 l2, Sm.cutV 2 g2, ?_, rfl⟩, hI⟩
      rw [show (Cf u W).length = 2 from rfl, cut_Eg hcs hr ho])
  exact ⟨p', l', g', h1, h3⟩
end
local macro_rules | `(tactic| simp! only [$ls,*] $[$l:location]?) => `(tactic| simp only [↓xDef,↓xSeq,↓xDo,↓xNext,↓xRet,↓xExp,↓xIfS,↓xAsg,↓gN,↓gT,↓gsC,↓gsN,↓xV,↓S.val,↓S.bind,↓S.opt,↓x2,↓x1,↓xN,↓xB,↓xD,↓xAnd,↓xOr,↓xNot,↓xIf,↓xAndV,↓xOrV,↓xNotV,↓xChain,↓aNil,↓aCons,↓xTup,↓few,↓xF,↓xC,↓xSetI,↓xPar,↓xCall,↓xFrz,↓xM,live,i2,dSub,dAdd,dMul,dMulA,dMod,dDiv,dLt,dLe,dGt,dGe,dIx,at10,at20,at21,at30,at31,at32,cst0,cst1,cst2,cst3,dNeg,dAbs,dInt,dLen,dMin2,dMax2,dGcd,dTuple,↓iR1,↓iR2,↓iV,items,↓iEn,items1,nocel,nocels,List.map_cons,List.map_nil,List.getElem?_cons_zero,List.getElem?_cons_succ,List.getElem?_nil,List.set_cons_zero,List.set_cons_succ,List.length_cons,List.length_nil,List.replicate,List.cons_append,List.nil_append,Nat.reduceAdd,Nat.reduceSub,Bool.false_eq_true,if_true,if_false,Option.map_some,Option.bind_some,Option.bind_none,Bool.and_true,Bool.and_false,Bool.true_and,Bool.not_true,Bool.not_false,decide_true,decide_false,vw_n,vw_b,vw_i,vw_s,vw_u,vw_l,vw_o,ie_n,ie_b,ie_i,ie_s,ie_u,ie_l,ie_c,x10,x20,x21,x30,x31,x32,fin_b,fin_i,eq_ii,ne_ii,List.take_length,vw_k,ie_k,id_eq,Nat.reduceLeDiff,↓xSl,↓xAugI,↓oE,↓oNo,↓xLs,↓xExt,↓iZp, $ls,*] $[$l]?)
def optD (x : Option Int) : D := match x with
  | some v => .int v
  | none => .non
theorem optD_map (x : Option Int) : (x.map D.int).getD .non = optD x := by cases x <;> rfl
/-! ### the fewest letters of a heap -/
section
variable {h : Hp3} {u : Option Ob} {cs : Ch}
def ringsM (h : Hp3) (cs : Ch) (W : Zi) : Zi := cs.foldl (fun W c => ringM h (ordN c) W) W
theorem fl_ring {c : Int × Int} (hc : 2 ≤ c.1 ∧ c.1 ≤ 60 ∧ 1 ≤ c.2 ∧ c.2 < c.1 ∧ ordN c ∈ OR) {W : Zi} (hW : Inn h W) {p o5 o l g : Option D} :
    ∃ p' l' g', q5_fewest_letters_in [some (chD cs), some (iT h), some (zD D.int W), some (rd c), p, o5, o, l, g] [u] = some (.nx [some (chD cs), some (iT h), some (zD D.int (ringM h (ordN c) W)), some (rd c), p', some (.cel 1), some (.int (ordN c : Nat)), l', g'] [u, none]) ∧ Inn h (ringM h (ordN c) W) := by
  obtain ⟨c1, c2, c3, c4, c5⟩ := hc
  have hcs : nocel (chD cs) = true := nc_rd cs
  obtain ⟨p', l', g', h1, h2⟩ := fl_q6 (cs := chD cs) hcs (u := u) (rg := some (rd c)) (okO_nc rfl) c5 hW (p := p) (l := l) (g := g)
  refine ⟨p', l', g', ?_, h2⟩
  have e1 := copy_z D.int nc_int hW.nd (fun e he => (pr_wh (hW.pr e he)).2.1) (s := xV 2) (e := [some (chD cs), some (iT h), some (zD D.int W), some (rd c), p, o5, o, l, g]) (C := [u]) rfl
  have e2 := order_in c1 c2 (Cf u W)
  have hcell : (Cf u (ringM h (ordN c) W))[1]? = some (some (Ob.t (zks (ringM h (ordN c) W)) (zvs D.int (ringM h (ordN c) W)))) := rfl
  have z1 : xPar 5 6 (aCons (xDictEC (aCons (xV 2) (aNil))) (aCons (xCall m_order_in (aCons (xV 3) (aNil))) (aNil))) [some (chD cs), some (iT h), some (zD D.int W), some (rd c), p, o5, o, l, g] [u] = some (.nx (Eg (chD cs) h W (some (rd c)) p (some (.int (ordN c : Nat))) l g) (Cf u W)) := by
    have hr : isErr (rd c) = false := rfl
    generalize xDictEC (aCons (xV 2) (aNil)) = QD at e1 ⊢
    unfold Eg
    unfold Cf at e2 ⊢
    generalize rd c = RC at *
    generalize zD D.int W = ZW at *
    generalize zks W = K1 at *
    generalize zvs D.int W = V1 at *
    generalize chD cs = CH at *
    generalize iT h = H at *
    simp! only [e1, e2, hr]
  have z3 : xAsg (xFrzT (xV 5)) (gN 2) (Eg (chD cs) h W (some (rd c)) p' (some (.int (ordN c : Nat))) l' g') (Cf u (ringM h (ordN c) W)) = some (.nx [some (chD cs), some (iT h), some (zD D.int (ringM h (ordN c) W)), some (rd c), p', some (.cel 1), some (.int (ordN c : Nat)), l', g'] [u, none]) := by
    have e3 := frzT_z (en := D.int) (so := xV 5) (e := Eg (chD cs) h W (some (rd c)) p' (some (.int (ordN c : Nat))) l' g') (n := 1) rfl hcell
    unfold xAsg xDo
    rw [e3]
    rfl
  unfold q5_fewest_letters_in
  rw [sqE z1, sqE h1]
  exact z3
theorem fewest_in (hC : Okc cs) (hh : h ∈ WH) (h0 : inH h [] = true) (hl : cs.length ≤ 1000) : m_fewest_letters_in [chD cs, iT h] [u] = some (.ok (optD (getZ (ringsM h cs [([], 0)]) h)) [u]) := by
  have hI : Inn h [([], 0)] := ⟨List.nodup_cons.mpr ⟨by simp, List.nodup_nil⟩, fun e he => by
    rw [List.mem_singleton] at he
    subst he
    exact pr_mk hh (by decide) h0⟩
  have hcs : nocel (chD cs) = true := nc_rd cs
  obtain ⟨e2, C2, h1, ⟨r', p', o5, o', l', g', rfl, rfl⟩, h3⟩ := forC_fold (i := 3) (it := iV (xV 0)) (b := q5_fewest_letters_in) (env := [some (chD cs), some (iT h), some (zD D.int [([], 0)]), none, none, none, none, none, none]) (C := [u]) (C1 := [u]) rd (fun (W : Zi) c => ringM h (ordN c) W) (fun z e C => (∃ r' p' o5 o' l' g', e = [some (chD cs), some (iT h), some (zD D.int z), r', p', o5, o', l', g'] ∧ C = [u]) ∧ Inn h z) cs [([], 0)] (by
      unfold chD
      generalize cs.map rd = CR at *
      simp! only []) (fun c _ => rfl) ⟨⟨none, none, none, none, none, none, by
        show [Sm.cutV 1 (some (chD cs)), Sm.cutV 1 (some (iT h)), Sm.cutV 1 (some (zD D.int [([], 0)])), none, none, none, none, none, none] = _
        rw [cutV_nc hcs, cutV_nc (nc_iT h), cutV_nc (nc_zD _)], rfl⟩, hI⟩ (by
      rintro c hm Z e C ⟨⟨r', p', o5, o', l', g', rfl, rfl⟩, hZ⟩
      obtain ⟨p2, l2, g2, hq, hI2⟩ := fl_ring (cs := cs) (u := u) (hC c hm) hZ (p := p') (o5 := o5) (o := o') (l := l') (g := g')
      refine ⟨_, _, hq, ⟨Sm.cutV 1 (some (rd c)), Sm.cutV 1 p2, Sm.cutV 1 (some (.cel 1)), Sm.cutV 1 (some (.int (ordN c : Nat))), Sm.cutV 1 l2, Sm.cutV 1 g2, ?_, rfl⟩, hI2⟩
      show [Sm.cutV 1 (some (chD cs)), Sm.cutV 1 (some (iT h)), Sm.cutV 1 (some (zD D.int _)), _, _, _, _, _, _] = _
      rw [cutV_nc hcs, cutV_nc (nc_iT h), cutV_nc (nc_zD _)]
      rfl)
  have hf : cs.foldl (fun (W : Zi) c => ringM h (ordN c) W) [([], 0)] = ringsM h cs [([], 0)] := rfl
  rw [hf] at h1 h3
  have z1 : xAsg (xDispT [(xTup (aNil), S.val (.int (0)))]) (gN 2) [some (chD cs), some (iT h), none, none, none, none, none, none, none] [u] = some (.nx [some (chD cs), some (iT h), some (zD D.int [([], 0)]), none, none, none, none, none, none] [u]) := by
    generalize chD cs = CH
    generalize iT h = H
    kernel_rfl
  have z3 : xRet (xDGet2 (xV 2) (xV 1) (S.val .non)) [some (chD cs), some (iT h), some (zD D.int (ringsM h cs [([], 0)])), r', p', o5, o', l', g'] [u] = some (.ret (optD (getZ (ringsM h cs [([], 0)]) h)) [u]) := by
    have e := get2_z (en := D.int) (so := xV 2) (si := xV 1) (sz := S.val .non) (e := [some (chD cs), some (iT h), some (zD D.int (ringsM h cs [([], 0)])), r', p', o5, o', l', g']) (C := [u]) (g := ringsM h cs [([], 0)]) (p := h) (d := zD D.int (ringsM h cs [([], 0)])) (z := .non) rfl rfl rfl rfl
    rw [optD_map] at e
    unfold xRet xDo
    rw [e]
  have hb : b_fewest_letters_in ([chD cs, iT h].map some ++ List.replicate 7 none) [u] = some (.ret (optD (getZ (ringsM h cs [([], 0)]) h)) [u]) := by
    unfold b_fewest_letters_in
    exact (sqE z1).trans ((sqE (show q6_fewest_letters_in _ _ = _ from h1)).trans z3)
  have hd := def_retE 2 9 b_fewest_letters_in (f := m_fewest_letters_in) (as := [chD cs, iT h]) rfl rfl hb (by cases getZ (ringsM h cs [([], 0)]) h <;> rfl)
  exact hd
end
end Sk47
end
section
set_option maxRecDepth 100000
set_option maxHeartbeats 0
set_option exponentiation.threshold 1000000
namespace Sk47
open PySem L2 Sm
theorem gcd_step {a b : Int} (ha : 0 ≤ a) (hb : 0 < b) : Int.gcd b (a % b) = Int.gcd a b := by
  obtain ⟨n, rfl⟩ := Int.eq_ofNat_of_zero_le ha
  obtain ⟨m, rfl⟩ := Int.eq_ofNat_of_zero_le (show 0 ≤ b by omega)
  rw [← Int.natCast_emod]
  show Nat.gcd m (n % m) = Nat.gcd n m
  rw [Nat.gcd_comm n, Nat.gcd_rec m n, Nat.gcd_comm]
local macro_rules | `(tactic| simp! only [$ls,*] $[$l:location]?) => `(tactic| simp only [↓xDef,↓xSeq,↓xDo,↓xNext,↓xRet,↓xExp,↓xIfS,↓xAsg,↓gN,↓gT,↓gsC,↓gsN,↓xV,↓S.val,↓S.bind,↓S.opt,↓x2,↓x1,↓xN,↓xB,↓xD,↓xAnd,↓xOr,↓xNot,↓xIf,↓xAndV,↓xOrV,↓xNotV,↓xChain,↓aNil,↓aCons,↓xTup,↓few,↓xF,↓xC,↓xSetI,↓xPar,↓xCall,↓xFrz,↓xM,live,i2,dSub,dAdd,dMul,dMulA,dMod,dDiv,dLt,dLe,dGt,dGe,dIx,at10,at20,at21,at30,at31,at32,cst0,cst1,cst2,cst3,dNeg,dAbs,dInt,dLen,dMin2,dMax2,dGcd,dTuple,↓iR1,↓iR2,↓iV,items,↓iEn,items1,nocel,nocels,List.map_cons,List.map_nil,List.getElem?_cons_zero,List.getElem?_cons_succ,List.getElem?_nil,List.set_cons_zero,List.set_cons_succ,List.length_cons,List.length_nil,List.replicate,List.cons_append,List.nil_append,Nat.reduceAdd,Nat.reduceSub,Bool.false_eq_true,if_true,if_false,Option.map_some,Option.bind_some,Option.bind_none,Bool.and_true,Bool.and_false,Bool.true_and,Bool.not_true,Bool.not_false,decide_true,decide_false,vw_n,vw_b,vw_i,vw_s,vw_u,vw_l,vw_o,ie_n,ie_b,ie_i,ie_s,ie_u,ie_l,ie_c,x10,x20,x21,x30,x31,x32,fin_b,fin_i,eq_ii,ne_ii,List.take_length,vw_k,ie_k,id_eq,Nat.reduceLeDiff,↓xSl,↓xAugI,↓oE,↓oNo,↓xLs,↓xExt,↓iZp, $ls,*] $[$l]?)
theorem law_wh {C : Cells} : ∀ (f : Nat) (a b : Int), 0 ≤ a → 0 ≤ b → b < f → wh q1__law_common q2__law_common f [some (.int a), some (.int b)] C = some (.nx [some (.int (Int.gcd a b : Nat)), some (.int 0)] C)
  | 0, a, b, _, h0, h => absurd h (by omega)
  | f + 1, a, b, ha, hb, hf => by
    by_cases q : b = 0
    · subst q
      have e : ((Int.gcd a 0 : Nat) : Int) = a := by rw [Int.gcd_zero]; omega
      rw [e]
      have h1 : q1__law_common [some (.int a), some (.int 0)] C = some (.ok false C) := by
        unfold q1__law_common
        simp! only [beq_self_eq_true]
      unfold wh
      simp! only [h1]
    · have b0 : 0 < b := by omega
      have h := law_wh (C := C) f b (a % b) hb (Int.emod_nonneg _ q) (by have := Int.emod_lt_of_pos a b0; omega)
      rw [gcd_step ha b0] at h
      have q2 : (b == 0) = false := by simpa using q
      have h1 : q1__law_common [some (.int a), some (.int b)] C = some (.ok true C) := by
        unfold q1__law_common
        simp! only [q2]
      have h2 : q2__law_common [some (.int a), some (.int b)] C = some (.nx [some (.int b), some (.int (a % b))] C) := by
        unfold q2__law_common
        simp! only [b0]
      unfold wh
      simp! only [h1, h2, h]
theorem law_gcd {a b : Int} (ha : 0 ≤ a) (hb : 0 ≤ b) (h : b < 100) (C : Cells) : m__law_common [.int a, .int b] C = some (.ok (.int (Int.gcd a b : Nat)) C) := by
  have e := law_wh (C := C) 100 a b ha hb h
  unfold m__law_common b__law_common q3__law_common
  generalize (Int.gcd a b : Int) = G at *
  simp! only [e]
theorem law_order {c : Int × Int} (h : 2 ≤ c.1) (h60 : c.1 ≤ 60) (h1 : 1 ≤ c.2) (h2 : c.2 < c.1) (C : Cells) : m__law_order [rd c] C = some (.ok (.int (ordN c : Nat)) C) := by
  obtain ⟨n, s⟩ := c
  dsimp only at h h60 h1 h2
  have e := law_gcd (a := n) (b := s) (by omega) (by omega) (by omega) C
  have hg : 0 < Nat.gcd n.natAbs s.natAbs := Nat.gcd_pos_of_pos_left _ (by omega)
  have hle : Nat.gcd n.natAbs s.natAbs ≤ n.natAbs := Nat.le_of_dvd (by omega) (Nat.gcd_dvd_left _ _)
  have ev : n / ((Nat.gcd n.natAbs s.natAbs : Nat) : Int) = (ordN (n, s) : Nat) := by
    unfold ordN
    obtain ⟨N, rfl⟩ := Int.eq_ofNat_of_zero_le (show 0 ≤ n by omega)
    simp
  have e' : m__law_common [.int n, .int s] C = some (.ok (.int (Nat.gcd n.natAbs s.natAbs : Nat)) C) := e
  have hf : fin C.length (.int (ordN (n, s) : Nat)) C = some (.ok (.int (ordN (n, s) : Nat)) C) := fin_i
  obtain ⟨G, hG⟩ : ∃ G : Int, ((Nat.gcd n.natAbs s.natAbs : Nat) : Int) = G := ⟨_, rfl⟩
  obtain ⟨O, hO⟩ : ∃ O : Int, ((ordN (n, s) : Nat) : Int) = O := ⟨_, rfl⟩
  rw [hG] at ev e'
  rw [hO] at ev hf ⊢
  have b : 0 < G ∧ G.natAbs < 2 ^ 8000 := ⟨by omega, Nat.lt_of_le_of_lt (m := n.natAbs) (by omega) (Nat.lt_of_lt_of_le (show n.natAbs < 2 ^ 64 by omega) (Nat.pow_le_pow_right (by decide) (by decide)))⟩
  have hr : rd (n, s) = .tup [.int n, .int s] := rfl
  rw [hr]
  unfold m__law_order b__law_order
  simp! only [e', b, and_self, if_true, ev, hf]
/-! ### the law's own table: pairs -/
abbrev Zp := List (Hp3 × (Int × Int))
def enP (a : Int × Int) : D := .tup [.int a.1, .int a.2]
theorem nc_enP (a : Int × Int) : nocel (enP a) = true := rfl
theorem rep_keysP (p : Hp3) (c : Int × Int) : ∀ F : Zp, (repZ p c F).map (·.1) = F.map (·.1)
  | [] => rfl
  | e :: F => by
    show (if e.1 = p then (p, c) else e).1 :: _ = e.1 :: _
    rw [rep_keysP p c F]
    by_cases q : e.1 = p
    · rw [if_pos q, q]
    · rw [if_neg q]
theorem hasP_iff {p : Hp3} : ∀ {F : Zp}, hasZ F p = true ↔ p ∈ F.map (·.1)
  | [] => by simp [hasZ, getZ]
  | e :: F => by
    have ih := hasP_iff (p := p) (F := F)
    unfold hasZ getZ
    by_cases h : e.1 = p
    · simp [h]
    · rw [if_neg h]
      have h' : ¬ p = e.1 := fun q => h q.symm
      rw [List.map_cons, List.mem_cons]
      simp only [h', false_or]
      exact ih
theorem getP_of : ∀ {F : Zp} {e : Hp3 × (Int × Int)}, (F.map (·.1)).Nodup → e ∈ F → getZ F e.1 = some e.2
  | x :: F, e, hn, h => by
    rw [List.map_cons, List.nodup_cons] at hn
    unfold getZ
    rcases List.mem_cons.mp h with rfl | h
    · rw [if_pos rfl]
    · have : ¬ x.1 = e.1 := fun q => hn.1 (by rw [q]; exact List.mem_map.mpr ⟨e, h, rfl⟩)
      rw [if_neg this]
      exact getP_of hn.2 h
structure InP (h : Hp3) (W : Zp) : Prop where
  nd : (W.map (·.1)).Nodup
  pr : ∀ e ∈ W, (h, e.1) ∈ PR
theorem InP.len {h : Hp3} {W : Zp} (q : InP h W) : W.length ≤ 20 := by
  have := len_sub (xs := W.map (·.1)) (ys := WH) q.nd fun x hx => by
    obtain ⟨e, he, rfl⟩ := List.mem_map.mp hx
    exact (pr_wh (q.pr e he)).2.1
  rw [List.length_map] at this
  exact this
theorem InP.add {h g : Hp3} {W : Zp} (q : InP h W) (hg : (h, g) ∈ PR) (x : Int × Int) : InP h (putZ W g x) := ⟨by
  unfold putZ
  by_cases z : hasZ W g = true
  · rw [if_pos z, rep_keysP]
    exact q.nd
  · rw [if_neg z, List.map_append, List.nodup_append]
    refine ⟨q.nd, by simp, fun a ha b hb => ?_⟩
    rw [List.map_cons, List.map_nil, List.mem_singleton] at hb
    subst hb
    intro e
    subst e
    exact z (hasP_iff.mpr ha), fun e he => by
  rcases putZ_mem he with he | rfl
  · exact q.pr e he
  · exact hg⟩
def addL (x : Int × Int) (L : Zp) (g : Hp3) : Zp := putZ L g (((getZ L g).getD (0, x.2 + 1)).1 + x.1, mnI ((getZ L g).getD (0, x.2 + 1)).2 (x.2 + 1))
abbrev Cp (u : Option Ob) (L : Zp) : Cells := [u, some (.t (zks L) (zvs enP L))]
theorem nc_zP (W : Zp) : nocel (zD enP W) = true := nc_z nc_enP W
/- the functions' tables with a dict of pairs in the second cell -/
section
variable {cs : D} (hcs : nocel cs = true) {h : Hp3} {W : Zp} {rg : Option D} {u : Option Ob}
abbrev El (cs : D) (h : Hp3) (W : Zp) (rg p gr wy fw lo mo ol le : Option D) : Sm.Env := [some cs, some (iT h), some (zD enP W), rg, some (.cel 1), p, gr, wy, fw, lo, mo, ol, le]
theorem lt_q1 {p : Hp3} {x : Int × Int} (ha : (h, p) ∈ PR) {s : List Int} (hs : s ∈ colsL h p) {gr mo ol le : Option D} {L : Zp} (hL : InP h L) :
    ∃ ol' le', q1__law_table (El cs h W rg (some (iT p)) gr (some (.int x.1)) (some (.int x.2)) (some (iL s)) mo ol le) (Cp u L) = some (.nx (El cs h W rg (some (iT p)) gr (some (.int x.1)) (some (.int x.2)) (some (iL s)) (some (iT (raiseP h p s))) ol' le') (Cp u (addL x L (raiseP h p s)))) := by
  have e1 : m__law_raised [iT p, iT h, iL s] (Cp u L) = some (.ok (iT (raiseP h p s)) (Cp u L)) := mapE2 (raised_all u (some (.t (zks L) (zvs enP L)))) (h, p) ha s hs
  have hcell : (Cp u L)[1]? = some (some (Ob.t (zks L) (zvs enP L))) := rfl
  have hi : ∀ xs : List Int, isErr (iT xs) = false := fun _ => rfl
  have hil : isErr (iL s) = false := rfl
  obtain ⟨z, hz⟩ : ∃ z : Int × Int, (getZ L (raiseP h p s)).getD (0, x.2 + 1) = z := ⟨_, rfl⟩
  have z1 : xAsg (xCall m__law_raised (aCons (xV 5) (aCons (xV 1) (aCons (xV 9) (aNil))))) (gN 10) (El cs h W rg (some (iT p)) gr (some (.int x.1)) (some (.int x.2)) (some (iL s)) mo ol le) (Cp u L) = some (.nx (El cs h W rg (some (iT p)) gr (some (.int x.1)) (some (.int x.2)) (some (iL s)) (some (iT (raiseP h p s))) ol le) (Cp u L)) := by
    have h1 := hi h
    have h2 := hi p
    unfold El
    generalize iT h = H at *
    generalize iT p = P at *
    generalize iL s = SS at *
    generalize iT (raiseP _ _ _) = G at *
    simp! only [e1, h1, h2, hil]
  have a0 : xTup (aCons (S.val (.int (0))) (aCons (x2 dAdd (xV 8) (S.val (.int (1)))) (aNil))) (El cs h W rg (some (iT p)) gr (some (.int x.1)) (some (.int x.2)) (some (iL s)) (some (iT (raiseP h p s))) ol le) (Cp u L) = some (.ok (enP (0, x.2 + 1)) (Cp u L)) := by
    unfold El enP
    generalize iT h = H
    generalize iT p = P
    generalize iL s = SS
    generalize iT (raiseP _ _ _) = G
    simp! only []
  have a1 : xDGet2 (xV 4) (xV 10) (xTup (aCons (S.val (.int (0))) (aCons (x2 dAdd (xV 8) (S.val (.int (1)))) (aNil)))) (El cs h W rg (some (iT p)) gr (some (.int x.1)) (some (.int x.2)) (some (iL s)) (some (iT (raiseP h p s))) ol le) (Cp u L) = some (.ok (enP z) (Cp u L)) := by
    rw [get2_z (en := enP) (g := L) (p := raiseP h p s) (d := .cel 1) (z := enP (0, x.2 + 1)) rfl (vw_tz hcell) rfl a0]
    rw [← hz]
    cases getZ L (raiseP h p s) <;> rfl
  have z2 : xAsg (xDGet2 (xV 4) (xV 10) (xTup (aCons (S.val (.int (0))) (aCons (x2 dAdd (xV 8) (S.val (.int (1)))) (aNil))))) (gT (gsC (gN 11) (gsC (gN 12) (gsN)))) (El cs h W rg (some (iT p)) gr (some (.int x.1)) (some (.int x.2)) (some (iL s)) (some (iT (raiseP h p s))) ol le) (Cp u L) = some (.nx (El cs h W rg (some (iT p)) gr (some (.int x.1)) (some (.int x.2)) (some (iL s)) (some (iT (raiseP h p s))) (some (.int z.1)) (some (.int z.2))) (Cp u L)) := by
    unfold xAsg xDo
    rw [a1]
    rfl
  have a3 : xTup (aCons (x2 dAdd (xV 11) (xV 7)) (aCons (xN dMin2 (aCons (xV 12) (aCons (x2 dAdd (xV 8) (S.val (.int (1)))) (aNil)))) (aNil))) (El cs h W rg (some (iT p)) gr (some (.int x.1)) (some (.int x.2)) (some (iL s)) (some (iT (raiseP h p s))) (some (.int z.1)) (some (.int z.2))) (Cp u L) = some (.ok (enP (z.1 + x.1, mnI z.2 (x.2 + 1))) (Cp u L)) := by
    unfold El enP mnI
    generalize iT h = H
    generalize iT p = P
    generalize iL s = SS
    generalize iT (raiseP _ _ _) = G
    simp! only []
  refine ⟨some (.int z.1), some (.int z.2), ?_⟩
  unfold q1__law_table
  rw [sqE z1, sqE z2]
  rw [setT_z (en := enP) nc_enP (n := 1) (g := L) (p := raiseP h p s) (c := (z.1 + x.1, mnI z.2 (x.2 + 1))) rfl rfl a3 hcell (by have := hL.len; omega)]
  unfold addL
  rw [hz]
  rfl
include hcs in
theorem cut_El (hr : okO rg) (p gr wy fw lo mo ol le : Option D) : cutE 2 (El cs h W rg p gr wy fw lo mo ol le) = El cs h W rg (Sm.cutV 2 p) (Sm.cutV 2 gr) (Sm.cutV 2 wy) (Sm.cutV 2 fw) (Sm.cutV 2 lo) (Sm.cutV 2 mo) (Sm.cutV 2 ol) (Sm.cutV 2 le) := by
  show [Sm.cutV 2 (some cs), Sm.cutV 2 (some (iT h)), Sm.cutV 2 (some (zD enP W)), Sm.cutV 2 rg, Sm.cutV 2 (some (.cel 1)), Sm.cutV 2 p, Sm.cutV 2 gr, Sm.cutV 2 wy, Sm.cutV 2 fw, Sm.cutV 2 lo, Sm.cutV 2 mo, Sm.cutV 2 ol, Sm.cutV 2 le] = _
  rw [cutV_nc hcs, cutV_nc (nc_iT h), cutV_nc (nc_zP W), hr, cutV_cel (by decide)]
include hcs in
theorem lt_q2 (hr : okO rg) {p : Hp3} {x : Int × Int} (ha : (h, p) ∈ PR) {lot : List Int} (hl : lot ∈ grpAll) (hs : ∀ s ∈ subs lot, s ∈ colsL h p) {lo mo ol le : Option D} {L : Zp} (hL : InP h L) :
    ∃ lo' mo' ol' le', q2__law_table (El cs h W rg (some (iT p)) (some (iL lot)) (some (.int x.1)) (some (.int x.2)) lo mo ol le) (Cp u L) = some (.nx (El cs h W rg (some (iT p)) (some (iL lot)) (some (.int x.1)) (some (.int x.2)) lo' mo' ol' le') (Cp u (((subs lot).map (raiseP h p)).foldl (addL x) L))) ∧ InP h (((subs lot).map (raiseP h p)).foldl (addL x) L) := by
  have e1 : m__law_subsets [iL lot] (Cp u L) = some (.ok (.lst ((subs lot).map iL)) (Cp u L)) := mapE (subsets_all u (some (.t (zks L) (zvs enP L)))) lot hl
  have hri := (raise_in (h, p) ha).2
  obtain ⟨e2, C2, h1, ⟨lo', mo', ol', le', rfl, rfl⟩, h3⟩ := forC_fold (i := 9) (it := iV (xCall m__law_subsets (aCons (xV 6) (aNil)))) (b := q1__law_table) (env := El cs h W rg (some (iT p)) (some (iL lot)) (some (.int x.1)) (some (.int x.2)) lo mo ol le) (C := Cp u L) (C1 := Cp u L) (fun s => iL s) (fun (z : Zp) s => addL x z (raiseP h p s)) (fun z e C => (∃ lo' mo' ol' le', e = El cs h W rg (some (iT p)) (some (iL lot)) (some (.int x.1)) (some (.int x.2)) lo' mo' ol' le' ∧ C = Cp u z) ∧ InP h z) (subs lot) L (by
      have hi : isErr (iL lot) = false := rfl
      unfold El
      generalize iL lot = LL at *
      generalize (subs lot).map iL = SL at *
      simp! only [e1, hi]) (fun s _ => nc_iL s) ⟨⟨Sm.cutV 2 lo, Sm.cutV 2 mo, Sm.cutV 2 ol, Sm.cutV 2 le, by rw [show (Cp u L).length = 2 from rfl, cut_El hcs hr, cutV_nc (nc_iT p), cutV_nc (nc_iL lot)]; rfl, rfl⟩, hL⟩ (by
      rintro s hsm Z e C ⟨⟨lo', mo', ol', le', rfl, rfl⟩, hZ⟩
      obtain ⟨ol2, le2, hq⟩ := lt_q1 (cs := cs) (rg := rg) (u := u) (W := W) (x := x) ha (hs s hsm) (gr := some (iL lot)) (mo := mo') (ol := ol') (le := le') hZ
      refine ⟨_, _, hq, ⟨Sm.cutV 2 (some (iL s)), Sm.cutV 2 (some (iT (raiseP h p s))), Sm.cutV 2 ol2, Sm.cutV 2 le2, ?_, rfl⟩, hZ.add (hri s (hs s hsm)) _⟩
      rw [show (Cp u L).length = 2 from rfl, cut_El hcs hr, cutV_nc (nc_iT p), cutV_nc (nc_iL lot)]
      rfl)
  rw [List.foldl_map]
  exact ⟨lo', mo', ol', le', h1, h3⟩
def partL (h : Hp3) (o : Nat) (L : Zp) (p : Hp3) (x : Int × Int) : Zp := (movL h p o).foldl (addL x) L
end
section
variable {cs : D} (hcs : nocel cs = true) {h : Hp3} {W : Zp} {u : Option Ob}
include hcs in
theorem lt_q4 {c : Int × Int} (hc : 2 ≤ c.1 ∧ c.1 ≤ 60 ∧ 1 ≤ c.2 ∧ c.2 < c.1 ∧ ordN c ∈ OR) {p : Hp3} {x : Int × Int} (ha : (h, p) ∈ PR) {gr lo mo ol le : Option D} {L : Zp} (hL : InP h L) :
    ∃ gr' lo' mo' ol' le', q4__law_table (El cs h W (some (rd c)) (some (iT p)) gr (some (.int x.1)) (some (.int x.2)) lo mo ol le) (Cp u L) = some (.nx (El cs h W (some (rd c)) (some (iT p)) gr' (some (.int x.1)) (some (.int x.2)) lo' mo' ol' le') (Cp u (partL h (ordN c) L p x))) ∧ InP h (partL h (ordN c) L p x) := by
  obtain ⟨c1, c2, c3, c4, c5⟩ := hc
  have hr : okO (some (rd c)) := okO_nc rfl
  have e0 := law_order c1 c2 c3 c4 (Cp u L)
  have e1 : m__law_groups [iT p, iT h, .int (ordN c : Nat)] (Cp u L) = some (.ok (.lst ((lotsL h p (ordN c)).map iL)) (Cp u L)) := mapE2 (m := fun _ => OR) (grp_all u (some (.t (zks L) (zvs enP L)))) (h, p) ha (ordN c) c5
  have hli := lotsL_in (h, p) ha (ordN c) c5
  obtain ⟨e2, C2, h1, ⟨gr', lo', mo', ol', le', rfl, rfl⟩, h3⟩ := forC_fold (i := 6) (it := iV (xCall m__law_groups (aCons (xV 5) (aCons (xV 1) (aCons (xCall m__law_order (aCons (xV 3) (aNil))) (aNil)))))) (b := q3__law_table) (env := El cs h W (some (rd c)) (some (iT p)) gr (some (.int x.1)) (some (.int x.2)) lo mo ol le) (C := Cp u L) (C1 := Cp u L) (fun s => iL s) (fun (z : Zp) lot => ((subs lot).map (raiseP h p)).foldl (addL x) z) (fun z e C => (∃ gr' lo' mo' ol' le', e = El cs h W (some (rd c)) (some (iT p)) gr' (some (.int x.1)) (some (.int x.2)) lo' mo' ol' le' ∧ C = Cp u z) ∧ InP h z) (lotsL h p (ordN c)) L (by
      have hi1 : isErr (iT h) = false := rfl
      have hi2 : isErr (iT p) = false := rfl
      have hi3 : isErr (rd c) = false := rfl
      unfold El
      generalize iT h = H at *
      generalize iT p = P at *
      generalize rd c = RC at *
      generalize (lotsL _ _ _).map iL = SL at *
      simp! only [e0, e1, hi1, hi2, hi3]) (fun s _ => nc_iL s) ⟨⟨Sm.cutV 2 gr, Sm.cutV 2 lo, Sm.cutV 2 mo, Sm.cutV 2 ol, Sm.cutV 2 le, by rw [show (Cp u L).length = 2 from rfl, cut_El hcs hr, cutV_nc (nc_iT p)]; rfl, rfl⟩, hL⟩ (by
      rintro lot hlm Z e C ⟨⟨gr', lo', mo', ol', le', rfl, rfl⟩, hZ⟩
      obtain ⟨q2, q3⟩ := hli lot hlm
      obtain ⟨lo2, mo2, ol2, le2, hq, hI⟩ := lt_q2 hcs (u := u) hr (W := W) (x := x) ha q2 q3 (lo := lo') (mo := mo') (ol := ol') (le := le') hZ
      refine ⟨_, _, hq, ⟨Sm.cutV 2 (some (iL lot)), Sm.cutV 2 lo2, Sm.cutV 2 mo2, Sm.cutV 2 ol2, Sm.cutV 2 le2, ?_, rfl⟩, hI⟩
      rw [show (Cp u L).length = 2 from rfl, cut_El hcs hr, cutV_nc (nc_iT p)]
      rfl)
  have hf : (lotsL h p (ordN c)).foldl (fun (z : Zp) lot => ((subs lot).map (raiseP h p)).foldl (addL x) z) L = partL h (ordN c) L p x := by
    unfold partL movL
    rw [List.foldl_flatMap]
  rw [hf] at h1 h3
  exact ⟨gr', lo', mo', ol', le', h1, h3⟩
/-- one ring more -/
def ringL (h : Hp3) (o : Nat) (W : Zp) : Zp := (insS (W.map (·.1))).foldl (fun L p => partL h o L p ((getZ W p).getD (0, 0))) W
include hcs in
theorem lt_q6 {c : Int × Int} (hc : 2 ≤ c.1 ∧ c.1 ≤ 60 ∧ 1 ≤ c.2 ∧ c.2 < c.1 ∧ ordN c ∈ OR) (hW : InP h W) {p gr wy fw lo mo ol le : Option D} :
    ∃ p' gr' wy' fw' lo' mo' ol' le', q6__law_table (El cs h W (some (rd c)) p gr wy fw lo mo ol le) (Cp u W) = some (.nx (El cs h W (some (rd c)) p' gr' wy' fw' lo' mo' ol' le') (Cp u (ringL h (ordN c) W))) ∧ InP h (ringL h (ordN c) W) := by
  have hr : okO (some (rd c)) := okO_nc rfl
  have hperm : ∀ q ∈ insS (W.map (·.1)), ∃ x, (q, x) ∈ W := fun q hq => by
    obtain ⟨e, he, rfl⟩ := List.mem_map.mp ((insS_perm _).mem_iff.mp hq)
    exact ⟨e.2, he⟩
  obtain ⟨e2, C2, h1, ⟨p', gr', wy', fw', lo', mo', ol', le', rfl, rfl⟩, h3⟩ := forC_fold (i := 5) (it := iV (xF (xSrtD2 (aCons (xV 2) (aNil))))) (b := q5__law_table) (env := El cs h W (some (rd c)) p gr wy fw lo mo ol le) (C := Cp u W) (C1 := Cp u W) (fun q => iT q) (fun (L : Zp) p => partL h (ordN c) L p ((getZ W p).getD (0, 0))) (fun z e C => (∃ p' gr' wy' fw' lo' mo' ol' le', e = El cs h W (some (rd c)) p' gr' wy' fw' lo' mo' ol' le' ∧ C = Cp u z) ∧ InP h z) (insS (W.map (·.1))) W (by
      have hs := srtD2_z enP W
      have hi : isErr (zD enP W) = false := rfl
      have hv : vw (Cp u W) (zD enP W) = zD enP W := rfl
      unfold El
      generalize zD enP W = ZW at *
      generalize (insS (W.map (·.1))).map (fun q => iT q) = SW at *
      simp! only [xSrtD2, hs, hi, hv]) (fun q _ => nc_iT q) ⟨⟨Sm.cutV 2 p, Sm.cutV 2 gr, Sm.cutV 2 wy, Sm.cutV 2 fw, Sm.cutV 2 lo, Sm.cutV 2 mo, Sm.cutV 2 ol, Sm.cutV 2 le, by rw [show (Cp u W).length = 2 from rfl, cut_El hcs hr], rfl⟩, hW⟩ (by
      rintro q hm Z e C ⟨⟨p', gr', wy', fw', lo', mo', ol', le', rfl, rfl⟩, hZ⟩
      obtain ⟨x, hx⟩ := hperm q hm
      have hget := getP_of hW.nd hx
      have hget : getZ W q = some x := hget
      have z1 : xAsg (x2 dDGet (xV 2) (xV 5)) (gT (gsC (gN 7) (gsC (gN 8) (gsN)))) ((El cs h W (some (rd c)) p' gr' wy' fw' lo' mo' ol' le').set 5 (some (iT q))) (Cp u Z) = some (.nx (El cs h W (some (rd c)) (some (iT q)) gr' (some (.int x.1)) (some (.int x.2)) lo' mo' ol' le') (Cp u Z)) := by
        have e := dget_z enP W q
        rw [hget] at e
        have e : dDGet (zD enP W) (iT q) = some (.tup [.int x.1, .int x.2]) := e
        have k1 : isErr (zD enP W) = false := rfl
        have k2 : isErr (iT q) = false := rfl
        have k3 : ∀ C, vw C (zD enP W) = zD enP W := fun _ => rfl
        have k4 : ∀ C, vw C (iT q) = iT q := fun _ => rfl
        unfold El
        generalize zD enP W = ZW at *
        generalize iT q = P at *
        simp! only [k1, k2, k3, k4, e]
      obtain ⟨gr2, lo2, mo2, ol2, le2, hq, hI⟩ := lt_q4 hcs (u := u) (W := W) hc (hW.pr _ hx) (x := x) (gr := gr') (lo := lo') (mo := mo') (ol := ol') (le := le') hZ
      rw [show ((getZ W q).getD (0, 0)) = x by rw [hget]; rfl]
      refine ⟨El cs h W (some (rd c)) (some (iT q)) gr2 (some (.int x.1)) (some (.int x.2)) lo2 mo2 ol2 le2, Cp u (partL h (ordN c) Z q x), ?_, ⟨Sm.cutV 2 (some (iT q)), Sm.cutV 2 gr2, Sm.cutV 2 (some (.int x.1)), Sm.cutV 2 (some (.int x.2)), Sm.cutV 2 lo2, Sm.cutV 2 mo2, Sm.cutV 2 ol2, Sm.cutV 2 le2, ?_, rfl⟩, hI⟩
      · unfold q5__law_table
        exact (sqE z1).trans hq
      · rw [show (Cp u W).length = 2 from rfl, cut_El hcs hr])
  exact ⟨p', gr', wy', fw', lo', mo', ol', le', h1, h3⟩
end
section
variable {h : Hp3} {u : Option Ob} {cs : Ch}
def ringsL (h : Hp3) (cs : Ch) (W : Zp) : Zp := cs.foldl (fun W c => ringL h (ordN c) W) W
theorem lt_ring {c : Int × Int} (hc : 2 ≤ c.1 ∧ c.1 ≤ 60 ∧ 1 ≤ c.2 ∧ c.2 < c.1 ∧ ordN c ∈ OR) {W : Zp} (hW : InP h W) {o4 p gr wy fw lo mo ol le : Option D} :
    ∃ p' gr' wy' fw' lo' mo' ol' le', q7__law_table [some (chD cs), some (iT h), some (zD enP W), some (rd c), o4, p, gr, wy, fw, lo, mo, ol, le] [u] = some (.nx [some (chD cs), some (iT h), some (zD enP (ringL h (ordN c) W)), some (rd c), some (.cel 1), p', gr', wy', fw', lo', mo', ol', le'] [u, none]) ∧ InP h (ringL h (ordN c) W) := by
  have hcs : nocel (chD cs) = true := nc_rd cs
  obtain ⟨p', gr', wy', fw', lo', mo', ol', le', h1, h2⟩ := lt_q6 (cs := chD cs) hcs (u := u) hc hW (p := p) (gr := gr) (wy := wy) (fw := fw) (lo := lo) (mo := mo) (ol := ol) (le := le)
  refine ⟨p', gr', wy', fw', lo', mo', ol', le', ?_, h2⟩
  have e1 := copy_z enP nc_enP hW.nd (fun e he => (pr_wh (hW.pr e he)).2.1) (s := xV 2) (e := [some (chD cs), some (iT h), some (zD enP W), some (rd c), o4, p, gr, wy, fw, lo, mo, ol, le]) (C := [u]) rfl
  have hcell : (Cp u (ringL h (ordN c) W))[1]? = some (some (Ob.t (zks (ringL h (ordN c) W)) (zvs enP (ringL h (ordN c) W)))) := rfl
  have z1 : xAsg (xDictEC (aCons (xV 2) (aNil))) (gN 4) [some (chD cs), some (iT h), some (zD enP W), some (rd c), o4, p, gr, wy, fw, lo, mo, ol, le] [u] = some (.nx (El (chD cs) h W (some (rd c)) p gr wy fw lo mo ol le) (Cp u W)) := by
    unfold xAsg xDo
    rw [e1]
    rfl
  have z3 : xAsg (xFrzT (xV 4)) (gN 2) (El (chD cs) h W (some (rd c)) p' gr' wy' fw' lo' mo' ol' le') (Cp u (ringL h (ordN c) W)) = some (.nx [some (chD cs), some (iT h), some (zD enP (ringL h (ordN c) W)), some (rd c), some (.cel 1), p', gr', wy', fw', lo', mo', ol', le'] [u, none]) := by
    have e3 := frzT_z (en := enP) (so := xV 4) (e := El (chD cs) h W (some (rd c)) p' gr' wy' fw' lo' mo' ol' le') (n := 1) rfl hcell
    unfold xAsg xDo
    rw [e3]
    rfl
  unfold q7__law_table
  exact (sqE z1).trans ((sqE h1).trans z3)
theorem table_in (hC : Okc cs) (hh : h ∈ WH) (h0 : inH h [] = true) (hl : cs.length ≤ 1000) : m__law_table [chD cs, iT h] [u] = some (.ok (zD enP (ringsL h cs [([], (1, 0))])) [u]) := by
  have hI : InP h [([], (1, 0))] := ⟨List.nodup_cons.mpr ⟨by simp, List.nodup_nil⟩, fun e he => by
    rw [List.mem_singleton] at he
    subst he
    exact pr_mk hh (by decide) h0⟩
  have hcs : nocel (chD cs) = true := nc_rd cs
  obtain ⟨e2, C2, h1, ⟨r', o4, p', gr', wy', fw', lo', mo', ol', le', rfl, rfl⟩, h3⟩ := forC_fold (i := 3) (it := iV (xV 0)) (b := q7__law_table) (env := [some (chD cs), some (iT h), some (zD enP [([], (1, 0))]), none, none, none, none, none, none, none, none, none, none]) (C := [u]) (C1 := [u]) rd (fun (W : Zp) c => ringL h (ordN c) W) (fun z e C => (∃ r' o4 p' gr' wy' fw' lo' mo' ol' le', e = [some (chD cs), some (iT h), some (zD enP z), r', o4, p', gr', wy', fw', lo', mo', ol', le'] ∧ C = [u]) ∧ InP h z) cs [([], (1, 0))] (by
      unfold chD
      generalize cs.map rd = CR at *
      simp! only []) (fun c _ => rfl) ⟨⟨none, none, none, none, none, none, none, none, none, none, by
        show [Sm.cutV 1 (some (chD cs)), Sm.cutV 1 (some (iT h)), Sm.cutV 1 (some (zD enP [([], (1, 0))])), none, none, none, none, none, none, none, none, none, none] = _
        rw [cutV_nc hcs, cutV_nc (nc_iT h), cutV_nc (nc_zP _)], rfl⟩, hI⟩ (by
      rintro c hm Z e C ⟨⟨r', o4, p', gr', wy', fw', lo', mo', ol', le', rfl, rfl⟩, hZ⟩
      obtain ⟨p2, gr2, wy2, fw2, lo2, mo2, ol2, le2, hq, hI2⟩ := lt_ring (cs := cs) (u := u) (hC c hm) hZ (o4 := o4) (p := p') (gr := gr') (wy := wy') (fw := fw') (lo := lo') (mo := mo') (ol := ol') (le := le')
      refine ⟨_, _, hq, ⟨Sm.cutV 1 (some (rd c)), Sm.cutV 1 (some (.cel 1)), Sm.cutV 1 p2, Sm.cutV 1 gr2, Sm.cutV 1 wy2, Sm.cutV 1 fw2, Sm.cutV 1 lo2, Sm.cutV 1 mo2, Sm.cutV 1 ol2, Sm.cutV 1 le2, ?_, rfl⟩, hI2⟩
      show [Sm.cutV 1 (some (chD cs)), Sm.cutV 1 (some (iT h)), Sm.cutV 1 (some (zD enP _)), _, _, _, _, _, _, _, _, _, _] = _
      rw [cutV_nc hcs, cutV_nc (nc_iT h), cutV_nc (nc_zP _)]
      rfl)
  have hf : cs.foldl (fun (W : Zp) c => ringL h (ordN c) W) [([], (1, 0))] = ringsL h cs [([], (1, 0))] := rfl
  rw [hf] at h1 h3
  have z1 : s1__law_table [some (chD cs), some (iT h), none, none, none, none, none, none, none, none, none, none, none] [u] = some (.nx [some (chD cs), some (iT h), some (zD enP [([], (1, 0))]), none, none, none, none, none, none, none, none, none, none] [u]) := by
    generalize chD cs = CH
    generalize iT h = H
    kernel_rfl
  have hb : b__law_table ([chD cs, iT h].map some ++ List.replicate 11 none) [u] = some (.ret (zD enP (ringsL h cs [([], (1, 0))])) [u]) := by
    unfold b__law_table
    refine (sqE z1).trans ((sqE (show s2__law_table _ _ = _ from h1)).trans ?_)
    rfl
  have hd := def_retE 2 13 b__law_table (f := m__law_table) (as := [chD cs, iT h]) rfl rfl hb (nc_zP _)
  exact hd
end
end Sk47
end
section
set_option maxRecDepth 100000
set_option maxHeartbeats 0
set_option exponentiation.threshold 1000000
namespace Sk47
open PySem L2 Sm
/-! ### how many fillings: sums -/
theorem sum_fold (x : Int) (φ : Hp3 → Int) : ∀ (gs : List Hp3) (L : Zi), NdZ L → sumZ (gs.foldl (addZ x) L) φ = sumZ L φ + x * sumM gs φ ∧ NdZ (gs.foldl (addZ x) L)
  | [], L, h => ⟨by show sumZ L φ = sumZ L φ + x * 0; omega, h⟩
  | g :: gs, L, h => by
    obtain ⟨h1, h2⟩ := sum_fold x φ gs (addZ x L g) (nd_put h _ _)
    refine ⟨?_, h2⟩
    rw [List.foldl_cons, h1]
    unfold addZ
    rw [sum_add h]
    show _ = sumZ L φ + x * (φ g + sumM gs φ)
    rw [Int.mul_add]
    omega
theorem sum_parts (m : Hp3 → List Hp3) (φ : Hp3 → Int) : ∀ (W L : Zi), NdZ L → sumZ (W.foldl (fun L e => (m e.1).foldl (addZ e.2) L) L) φ = sumZ L φ + sumZ W (fun p => sumM (m p) φ) ∧ NdZ (W.foldl (fun L e => (m e.1).foldl (addZ e.2) L) L)
  | [], L, h => ⟨by show sumZ L φ = sumZ L φ + 0; omega, h⟩
  | e :: W, L, h => by
    obtain ⟨h1, h2⟩ := sum_fold e.2 φ (m e.1) L h
    obtain ⟨h3, h4⟩ := sum_parts m φ W _ h2
    refine ⟨?_, h4⟩
    rw [List.foldl_cons, h3, h1, sumZ_cons]
    omega
theorem ringF_sum {h : Hp3} {o : Nat} {W : Zi} (hW : NdZ W) (φ : Hp3 → Int) : sumZ (ringF h o W) φ = sumZ W φ + sumZ W (fun p => sumM (movP h p o) φ) := (sum_parts (fun p => movP h p o) φ W W hW).1
def fstP (W : Zp) : Zi := W.map fun e => (e.1, e.2.1)
theorem fst_get (g : Hp3) : ∀ W : Zp, getZ (fstP W) g = (getZ W g).map (·.1)
  | [] => rfl
  | e :: W => by
    show (if e.1 = g then some e.2.1 else getZ (fstP W) g) = (if e.1 = g then some e.2 else getZ W g).map (·.1)
    by_cases q : e.1 = g
    · rw [if_pos q, if_pos q]; rfl
    · rw [if_neg q, if_neg q, fst_get g W]
theorem fst_rep (g : Hp3) (v : Int × Int) : ∀ W : Zp, fstP (repZ g v W) = repZ g v.1 (fstP W)
  | [] => rfl
  | e :: W => by
    show ((if e.1 = g then (g, v) else e).1, (if e.1 = g then (g, v) else e).2.1) :: fstP (repZ g v W) = (if e.1 = g then (g, v.1) else (e.1, e.2.1)) :: repZ g v.1 (fstP W)
    rw [fst_rep g v W]
    by_cases q : e.1 = g
    · rw [if_pos q, if_pos q]
    · rw [if_neg q, if_neg q]
theorem fst_put (g : Hp3) (v : Int × Int) (W : Zp) : fstP (putZ W g v) = putZ (fstP W) g v.1 := by
  have hh : hasZ (fstP W) g = hasZ W g := by
    unfold hasZ
    rw [fst_get]
    cases getZ W g <;> rfl
  unfold putZ
  rw [hh]
  by_cases q : hasZ W g = true
  · rw [if_pos q, if_pos q, fst_rep]
  · rw [if_neg q, if_neg q]
    unfold fstP
    rw [List.map_append]
    rfl
theorem fst_add (x : Int × Int) (L : Zp) (g : Hp3) : fstP (addL x L g) = addZ x.1 (fstP L) g := by
  unfold addL addZ
  rw [fst_put]
  unfold get0
  rw [fst_get]
  cases getZ L g <;> rfl
theorem fst_fold (x : Int × Int) : ∀ (gs : List Hp3) (L : Zp), fstP (gs.foldl (addL x) L) = gs.foldl (addZ x.1) (fstP L)
  | [], L => rfl
  | g :: gs, L => by rw [List.foldl_cons, List.foldl_cons, fst_fold x gs, fst_add]
theorem fst_nd {W : Zp} (h : (W.map (·.1)).Nodup) : NdZ (fstP W) := by
  unfold NdZ fstP
  rw [List.map_map]
  exact h
theorem perm_sum {l m : List Int} (h : l.Perm m) : l.sum = m.sum := by
  induction h with
  | nil => rfl
  | cons x _ ih => rw [List.sum_cons, List.sum_cons, ih]
  | swap x y l => rw [List.sum_cons, List.sum_cons, List.sum_cons, List.sum_cons]; omega
  | trans _ _ h1 h2 => rw [h1, h2]
theorem keys_sum (ψ : Hp3 → Int) {W : Zp} (h : (W.map (·.1)).Nodup) : ((insS (W.map (·.1))).map fun p => ((getZ W p).getD (0, 0)).1 * ψ p).sum = sumZ (fstP W) ψ := by
  have h1 : ((insS (W.map (·.1))).map fun p => ((getZ W p).getD (0, 0)).1 * ψ p).Perm ((W.map (·.1)).map fun p => ((getZ W p).getD (0, 0)).1 * ψ p) := (insS_perm _).map _
  rw [perm_sum h1]
  unfold sumZ fstP
  rw [List.map_map, List.map_map]
  refine congrArg List.sum (List.map_congr_left fun e he => ?_)
  have := getP_of h he
  show ((getZ W e.1).getD (0, 0)).1 * ψ e.1 = e.2.1 * ψ e.1
  rw [this]
  rfl
theorem sum_partsL (h : Hp3) (o : Nat) (W : Zp) (φ : Hp3 → Int) : ∀ (ks : List Hp3) (L : Zp), NdZ (fstP L) → sumZ (fstP (ks.foldl (fun L p => partL h o L p ((getZ W p).getD (0, 0))) L)) φ = sumZ (fstP L) φ + (ks.map fun p => ((getZ W p).getD (0, 0)).1 * sumM (movL h p o) φ).sum
  | [], L, _ => by show _ = _ + 0; rw [Int.add_zero]; rfl
  | p :: ks, L, hn => by
    have hf : fstP (partL h o L p ((getZ W p).getD (0, 0))) = (movL h p o).foldl (addZ ((getZ W p).getD (0, 0)).1) (fstP L) := fst_fold _ _ _
    obtain ⟨h1, h2⟩ := sum_fold ((getZ W p).getD (0, 0)).1 φ (movL h p o) (fstP L) hn
    rw [List.foldl_cons, sum_partsL h o W φ ks _ (by rw [hf]; exact h2), hf, h1, List.map_cons, List.sum_cons]
    omega
theorem ringL_sum {h : Hp3} {o : Nat} {W : Zp} (hW : InP h W) (ho : o ∈ OR) (φ : Hp3 → Int) : sumZ (fstP (ringL h o W)) φ = sumZ (fstP W) φ + sumZ (fstP W) (fun p => sumM (movP h p o) φ) := by
  unfold ringL
  rw [sum_partsL h o W φ _ _ (fst_nd hW.nd), keys_sum (fun p => sumM (movL h p o) φ) hW.nd]
  congr 1
  unfold sumZ fstP
  rw [List.map_map, List.map_map]
  refine congrArg List.sum (List.map_congr_left fun e he => ?_)
  show e.2.1 * sumM (movL h e.1 o) φ = e.2.1 * sumM (movP h e.1 o) φ
  have hp : (movP h e.1 o).Perm (movL h e.1 o) := List.perm_iff_count.mpr (mov_same (h, e.1) (hW.pr e he) o ho)
  have : sumM (movL h e.1 o) φ = sumM (movP h e.1 o) φ := (perm_sum (hp.map φ)).symm
  rw [this]
theorem mov_in {h p : Hp3} (ha : (h, p) ∈ PR) {o : Nat} (ho : o ∈ OR) : (∀ g ∈ movP h p o, (h, g) ∈ PR) ∧ (∀ g ∈ movL h p o, (h, g) ∈ PR) ∧ ∀ g ∈ movW h p o, (h, g) ∈ PR := by
  obtain ⟨h1, h2⟩ := raise_in (h, p) ha
  refine ⟨fun g hg => ?_, fun g hg => ?_, fun g hg => ?_⟩
  · obtain ⟨l, hl, h3⟩ := List.mem_flatMap.mp hg
    obtain ⟨s, hs, rfl⟩ := List.mem_map.mp h3
    exact h1 s ((lots_in (h, p) ha o ho l hl).2.2 s hs)
  · obtain ⟨l, hl, h3⟩ := List.mem_flatMap.mp hg
    obtain ⟨s, hs, rfl⟩ := List.mem_map.mp h3
    exact h2 s ((lotsL_in (h, p) ha o ho l hl).2 s hs)
  · obtain ⟨l, hl, rfl⟩ := List.mem_map.mp hg
    exact h1 l (lots_in (h, p) ha o ho l hl).1
theorem ringF_in {h : Hp3} {o : Nat} (ho : o ∈ OR) : ∀ (W L : Zi), (∀ e ∈ W, (h, e.1) ∈ PR) → Inn h L → Inn h (W.foldl (partF h o) L)
  | [], L, _, hL => hL
  | e :: W, L, hW, hL => ringF_in ho W _ (fun e' h' => hW e' (List.mem_cons_of_mem _ h')) (Inn.fold hL (mov_in (hW e List.mem_cons_self) ho).1)
theorem InP.fold {h : Hp3} {x : Int × Int} : ∀ {gs : List Hp3} {W : Zp}, InP h W → (∀ g ∈ gs, (h, g) ∈ PR) → InP h (gs.foldl (addL x) W)
  | [], _, q, _ => q
  | g :: gs, W, q, hg => InP.fold (gs := gs) (q.add (hg g List.mem_cons_self) _) fun g' h' => hg g' (List.mem_cons_of_mem _ h')
theorem ringL_in {h : Hp3} {o : Nat} (ho : o ∈ OR) (V : Zp) : ∀ (ks : List Hp3) (L : Zp), (∀ p ∈ ks, (h, p) ∈ PR) → InP h L → InP h (ks.foldl (fun L p => partL h o L p ((getZ V p).getD (0, 0))) L)
  | [], L, _, hL => hL
  | p :: ks, L, hW, hL => ringL_in ho V ks _ (fun e' h' => hW e' (List.mem_cons_of_mem _ h')) (InP.fold hL (mov_in (hW p List.mem_cons_self) ho).2.1)
theorem ringL_inP {h : Hp3} {o : Nat} (ho : o ∈ OR) {W : Zp} (hW : InP h W) : InP h (ringL h o W) := ringL_in ho W _ _ (fun p hp => by
  obtain ⟨e, he, rfl⟩ := List.mem_map.mp ((insS_perm _).mem_iff.mp hp)
  exact hW.pr e he) hW
/-- as many fillings -/
theorem counts_same {h : Hp3} : ∀ (cs : Ch), (∀ c ∈ cs, ordN c ∈ OR) → ∀ (W : Zi) (P : Zp), Inn h W → InP h P → (∀ φ, sumZ W φ = sumZ (fstP P) φ) → get0 (ringsF h cs W) h = ((getZ (ringsL h cs P) h).map (·.1)).getD 0
  | [], _, W, P, hW, hP, hs => by
    show get0 W h = ((getZ P h).map (·.1)).getD 0
    rw [← fst_get, ← sum_ind hW.nd, hs, sum_ind (fst_nd hP.nd)]
    rfl
  | c :: cs, ho, W, P, hW, hP, hs => by
    have o1 := ho c List.mem_cons_self
    exact counts_same cs (fun c' h' => ho c' (List.mem_cons_of_mem _ h')) (ringF h (ordN c) W) (ringL h (ordN c) P) (ringF_in o1 W W hW.pr hW) (ringL_inP o1 hP) fun φ => by
      rw [ringF_sum hW.nd, ringL_sum hP o1, hs, hs]
/-! ### the fewest letters -/
/-- where entries come from, and that they are least -/
theorem fromM (x : Int) (hx : x < 900) : ∀ (gs : List Hp3) (L : Zi), NdZ L → (∀ e ∈ L, e.2 ≤ 1000) →
    (∀ e ∈ gs.foldl (addM x) L, e ∈ L ∨ (e.1 ∈ gs ∧ e.2 = x + 1)) ∧ (∀ e ∈ L, ∃ v, (e.1, v) ∈ gs.foldl (addM x) L ∧ v ≤ e.2) ∧ (∀ g ∈ gs, ∃ v, (g, v) ∈ gs.foldl (addM x) L ∧ v ≤ x + 1) ∧ NdZ (gs.foldl (addM x) L) ∧ (∀ e ∈ gs.foldl (addM x) L, e.2 ≤ 1000)
  | [], L, hn, hb => ⟨fun e he => .inl he, fun e he => ⟨e.2, he, Int.le_refl _⟩, (fun g hg => nomatch hg), hn, hb⟩
  | g :: gs, L, hn, hb => by
    have key : (∀ e ∈ addM x L g, e ∈ L ∨ (e.1 = g ∧ e.2 = x + 1)) ∧ (∀ e ∈ L, ∃ v, (e.1, v) ∈ addM x L g ∧ v ≤ e.2) ∧ (∃ v, (g, v) ∈ addM x L g ∧ v ≤ x + 1) ∧ ∀ e ∈ addM x L g, e.2 ≤ 1000 := by
      unfold addM
      cases q : getZ L g with
      | none =>
        have hno : ¬ hasZ L g = true := by unfold hasZ; rw [q]; simp
        have hv : mnI ((none : Option Int).getD 1000) (x + 1) = x + 1 := by
          unfold mnI
          rw [if_pos (by show x + 1 < 1000; omega)]
        have hp : putZ L g (mnI ((none : Option Int).getD 1000) (x + 1)) = L ++ [(g, x + 1)] := by
          unfold putZ
          rw [if_neg hno, hv]
        rw [hp]
        refine ⟨fun e he => ?_, fun e he => ⟨e.2, List.mem_append.mpr (.inl he), Int.le_refl _⟩, ⟨x + 1, List.mem_append.mpr (.inr (by simp)), Int.le_refl _⟩, fun e he => ?_⟩
        · rcases List.mem_append.mp he with h | h
          · exact .inl h
          · rw [List.mem_singleton] at h
            subst h
            exact .inr ⟨rfl, rfl⟩
        · rcases List.mem_append.mp he with h | h
          · exact hb e h
          · rw [List.mem_singleton] at h
            subst h
            show x + 1 ≤ 1000
            omega
      | some y =>
        have hyes : hasZ L g = true := by unfold hasZ; rw [q]; rfl
        have hgm : (g, y) ∈ L := by
          have hk := hasZ_iff.mp hyes
          obtain ⟨e, he, e1⟩ := List.mem_map.mp hk
          have := getZ_of hn he
          rw [e1, q] at this
          have h2 : e.2 = y := (Option.some.inj this).symm
          rw [← e1, ← h2]
          exact he
        have hp : putZ L g (mnI ((some y).getD 1000) (x + 1)) = repZ g (mnI y (x + 1)) L := by
          unfold putZ
          rw [if_pos hyes]
          rfl
        rw [hp]
        have hrep : ∀ (v : Int) (M : Zi), (∀ e ∈ M, e.1 ≠ g → e ∈ repZ g v M) ∧ (∀ e ∈ M, e.1 = g → (g, v) ∈ repZ g v M) ∧ ∀ e ∈ repZ g v M, (e ∈ M ∧ e.1 ≠ g) ∨ e = (g, v) := fun v M => by
          induction M with
          | nil => exact ⟨(fun e h => nomatch h), (fun e h => nomatch h), (fun e h => nomatch h)⟩
          | cons a M ih =>
            obtain ⟨i1, i2, i3⟩ := ih
            refine ⟨fun e he hne => ?_, fun e he heq => ?_, fun e he => ?_⟩
            · show e ∈ (if a.1 = g then (g, v) else a) :: repZ g v M
              rcases List.mem_cons.mp he with rfl | he
              · rw [if_neg hne]
                exact List.mem_cons_self
              · exact List.mem_cons_of_mem _ (i1 e he hne)
            · show (g, v) ∈ (if a.1 = g then (g, v) else a) :: repZ g v M
              rcases List.mem_cons.mp he with rfl | he
              · rw [if_pos heq]
                exact List.mem_cons_self
              · exact List.mem_cons_of_mem _ (i2 e he heq)
            · have he : e ∈ (if a.1 = g then (g, v) else a) :: repZ g v M := he
              rcases List.mem_cons.mp he with h | h
              · by_cases z : a.1 = g
                · rw [if_pos z] at h
                  exact .inr h
                · rw [if_neg z] at h
                  subst h
                  exact .inl ⟨List.mem_cons_self, z⟩
              · rcases i3 e h with ⟨h, h2⟩ | h
                · exact .inl ⟨List.mem_cons_of_mem _ h, h2⟩
                · exact .inr h
        obtain ⟨r1, r2, r3⟩ := hrep (mnI y (x + 1)) L
        have hmn : (mnI y (x + 1) = y ∨ mnI y (x + 1) = x + 1) ∧ mnI y (x + 1) ≤ y ∧ mnI y (x + 1) ≤ x + 1 := by
          unfold mnI
          split
          · exact ⟨.inr rfl, by omega, by omega⟩
          · exact ⟨.inl rfl, by omega, by omega⟩
        refine ⟨fun e he => ?_, fun e he => ?_, ⟨_, r2 _ hgm rfl, hmn.2.2⟩, fun e he => ?_⟩
        · rcases r3 e he with ⟨h, _⟩ | rfl
          · exact .inl h
          · rcases hmn.1 with h | h
            · rw [h]
              exact .inl hgm
            · rw [h]
              exact .inr ⟨rfl, rfl⟩
        · by_cases z : e.1 = g
          · have := getZ_of hn he
            rw [z, q] at this
            have h2 : y = e.2 := Option.some.inj this
            refine ⟨mnI y (x + 1), ?_, by rw [← h2]; exact hmn.2.1⟩
            rw [z]
            exact r2 e he z
          · exact ⟨e.2, r1 e he z, Int.le_refl _⟩
        · rcases r3 e he with ⟨h, _⟩ | rfl
          · exact hb e h
          · show mnI y (x + 1) ≤ 1000
            have := hmn.2.2
            omega
    obtain ⟨k1, k2, k3, k4⟩ := key
    have hnd : NdZ (addM x L g) := nd_put hn _ _
    obtain ⟨i1, i2, i3, i4, i5⟩ := fromM x hx gs (addM x L g) hnd k4
    refine ⟨fun e he => ?_, fun e he => ?_, fun g' hg' => ?_, i4, i5⟩
    · rcases i1 e he with h | ⟨h, h2⟩
      · rcases k1 e h with h | ⟨h, h2⟩
        · exact .inl h
        · exact .inr ⟨by rw [h]; exact List.mem_cons_self, h2⟩
      · exact .inr ⟨List.mem_cons_of_mem _ h, h2⟩
    · obtain ⟨v, h1, h2⟩ := k2 e he
      obtain ⟨v', h3, h4⟩ := i2 _ h1
      exact ⟨v', h3, Int.le_trans h4 h2⟩
    · rcases List.mem_cons.mp hg' with rfl | h
      · obtain ⟨v, h1, h2⟩ := k3
        obtain ⟨v', h3, h4⟩ := i2 _ h1
        exact ⟨v', h3, Int.le_trans h4 h2⟩
      · exact i3 g' h
end Sk47
end
section
set_option maxRecDepth 100000
set_option maxHeartbeats 0
set_option exponentiation.threshold 1000000
namespace Sk47
open PySem L2 Sm
def sndP (W : Zp) : Zi := W.map fun e => (e.1, e.2.2)
theorem snd_get (g : Hp3) : ∀ W : Zp, getZ (sndP W) g = (getZ W g).map (·.2)
  | [] => rfl
  | e :: W => by
    show (if e.1 = g then some e.2.2 else getZ (sndP W) g) = (if e.1 = g then some e.2 else getZ W g).map (·.2)
    by_cases q : e.1 = g
    · rw [if_pos q, if_pos q]; rfl
    · rw [if_neg q, if_neg q, snd_get g W]
theorem snd_rep (g : Hp3) (v : Int × Int) : ∀ W : Zp, sndP (repZ g v W) = repZ g v.2 (sndP W)
  | [] => rfl
  | e :: W => by
    show ((if e.1 = g then (g, v) else e).1, (if e.1 = g then (g, v) else e).2.2) :: sndP (repZ g v W) = (if e.1 = g then (g, v.2) else (e.1, e.2.2)) :: repZ g v.2 (sndP W)
    rw [snd_rep g v W]
    by_cases q : e.1 = g
    · rw [if_pos q, if_pos q]
    · rw [if_neg q, if_neg q]
theorem snd_put (g : Hp3) (v : Int × Int) (W : Zp) : sndP (putZ W g v) = putZ (sndP W) g v.2 := by
  have hh : hasZ (sndP W) g = hasZ W g := by
    unfold hasZ
    rw [snd_get]
    cases getZ W g <;> rfl
  unfold putZ
  rw [hh]
  by_cases q : hasZ W g = true
  · rw [if_pos q, if_pos q, snd_rep]
  · rw [if_neg q, if_neg q]
    unfold sndP
    rw [List.map_append]
    rfl
theorem snd_add {x : Int × Int} (hx : x.2 < 900) (L : Zp) (g : Hp3) : sndP (addL x L g) = addM x.2 (sndP L) g := by
  unfold addL addM
  rw [snd_put, snd_get]
  cases getZ L g with
  | none =>
    show putZ (sndP L) g (mnI (x.2 + 1) (x.2 + 1)) = putZ (sndP L) g (mnI 1000 (x.2 + 1))
    have h1 : mnI (x.2 + 1) (x.2 + 1) = x.2 + 1 := by unfold mnI; split <;> rfl
    have h2 : mnI 1000 (x.2 + 1) = x.2 + 1 := by unfold mnI; rw [if_pos (by omega)]
    rw [h1, h2]
  | some z => rfl
theorem snd_fold {x : Int × Int} (hx : x.2 < 900) : ∀ (gs : List Hp3) (L : Zp), sndP (gs.foldl (addL x) L) = gs.foldl (addM x.2) (sndP L)
  | [], L => rfl
  | g :: gs, L => by rw [List.foldl_cons, List.foldl_cons, snd_fold hx gs, snd_add hx]
theorem snd_nd {W : Zp} (h : (W.map (·.1)).Nodup) : NdZ (sndP W) := by
  unfold NdZ sndP
  rw [List.map_map]
  exact h
/-! ### one ring: where entries come from -/
abbrev stepM (m : Hp3 → List Hp3) (L : Zi) (e : Hp3 × Int) : Zi := (m e.1).foldl (addM e.2) L
theorem fromR (m : Hp3 → List Hp3) : ∀ (V L : Zi), (∀ e ∈ V, e.2 < 900) → NdZ L → (∀ e ∈ L, e.2 ≤ 1000) →
    (∀ e ∈ V.foldl (stepM m) L, e ∈ L ∨ ∃ z ∈ V, e.1 ∈ m z.1 ∧ e.2 = z.2 + 1) ∧ (∀ e ∈ L, ∃ v, (e.1, v) ∈ V.foldl (stepM m) L ∧ v ≤ e.2) ∧ (∀ z ∈ V, ∀ g ∈ m z.1, ∃ v, (g, v) ∈ V.foldl (stepM m) L ∧ v ≤ z.2 + 1) ∧ NdZ (V.foldl (stepM m) L)
  | [], L, _, hn, _ => ⟨fun e he => .inl he, fun e he => ⟨e.2, he, Int.le_refl _⟩, (fun z hz => nomatch hz), hn⟩
  | z :: V, L, hv, hn, hb => by
    obtain ⟨k1, k2, k3, k4, k5⟩ := fromM z.2 (hv z List.mem_cons_self) (m z.1) L hn hb
    obtain ⟨i1, i2, i3, i4⟩ := fromR m V _ (fun e h => hv e (List.mem_cons_of_mem _ h)) k4 k5
    refine ⟨fun e he => ?_, fun e he => ?_, fun z' hz' g hg => ?_, i4⟩
    · rcases i1 e he with h | ⟨z', h1, h2⟩
      · rcases k1 e h with h | ⟨h, h2⟩
        · exact .inl h
        · exact .inr ⟨z, List.mem_cons_self, h, h2⟩
      · exact .inr ⟨z', List.mem_cons_of_mem _ h1, h2⟩
    · obtain ⟨v, h1, h2⟩ := k2 e he
      obtain ⟨v', h3, h4⟩ := i2 _ h1
      exact ⟨v', h3, Int.le_trans h4 h2⟩
    · rcases List.mem_cons.mp hz' with rfl | h
      · obtain ⟨v, h1, h2⟩ := k3 g hg
        obtain ⟨v', h3, h4⟩ := i2 _ h1
        exact ⟨v', h3, Int.le_trans h4 h2⟩
      · exact i3 z' h g hg
/-- the law's ring, by second values -/
theorem snd_parts (h : Hp3) (o : Nat) (P : Zp) (hP : ∀ p, ((getZ P p).getD (0, 0)).2 < 900) : ∀ (ks : List Hp3) (L : Zp), sndP (ks.foldl (fun L p => partL h o L p ((getZ P p).getD (0, 0))) L) = (ks.map fun p => (p, ((getZ P p).getD (0, 0)).2)).foldl (stepM fun p => movL h p o) (sndP L)
  | [], L => rfl
  | p :: ks, L => by
    rw [List.foldl_cons, snd_parts h o P hP ks, List.map_cons, List.foldl_cons]
    congr 1
    exact snd_fold (hP p) _ _
theorem movW_in : ∀ a ∈ PR, ∀ o ∈ OR, ∀ g ∈ movW a.1 a.2 o, g ∈ movL a.1 a.2 o := by
  have h : (PR.all fun a => OR.all fun o => (movW a.1 a.2 o).all fun g => (movL a.1 a.2 o).contains g) = true := by decide +kernel
  intro a ha o ho g hg
  have h1 := List.all_eq_true.mp (List.all_eq_true.mp (List.all_eq_true.mp h a ha) o ho) g hg
  simpa using h1
theorem inH_anti : ∀ a ∈ WH, ∀ b ∈ WH, inH a b = true → inH b a = true → a = b := by
  have h : (WH.all fun a => WH.all fun b => !inH a b || !inH b a || decide (a = b)) = true := by decide +kernel
  intro a ha b hb h1 h2
  have h3 := List.all_eq_true.mp (List.all_eq_true.mp h a ha) b hb
  rw [h1, h2] at h3
  simpa using h3
/-- the program's dict of fewest letters and the law's -/
structure Rel (h : Hp3) (W S : Zi) (j : Int) : Prop where
  w : Inn h W
  s : Inn h S
  bw : ∀ e ∈ W, e.2 ≤ j
  bs : ∀ e ∈ S, e.2 ≤ j
  up : ∀ e ∈ S, ∃ q ∈ W, inH q.1 e.1 = true ∧ q.2 ≤ e.2
  dn : ∀ q ∈ W, ∃ y, (q.1, y) ∈ S ∧ y ≤ q.2
theorem Inn.foldM {h : Hp3} {x : Int} : ∀ {gs : List Hp3} {W : Zi}, Inn h W → (∀ g ∈ gs, (h, g) ∈ PR) → Inn h (gs.foldl (addM x) W)
  | [], _, q, _ => q
  | g :: gs, W, q, hg => Inn.foldM (gs := gs) (q.add (hg g List.mem_cons_self) _) fun g' h' => hg g' (List.mem_cons_of_mem _ h')
theorem Inn.stepsM {h : Hp3} {m : Hp3 → List Hp3} : ∀ {V W : Zi}, Inn h W → (∀ e ∈ V, ∀ g ∈ m e.1, (h, g) ∈ PR) → Inn h (V.foldl (stepM m) W)
  | [], _, q, _ => q
  | e :: V, W, q, hV => Inn.stepsM (V := V) (Inn.foldM q (hV e List.mem_cons_self)) fun e' h' => hV e' (List.mem_cons_of_mem _ h')
theorem Rel.step {h : Hp3} {W S V : Zi} {j : Int} (hj : j < 900) {o : Nat} (ho : o ∈ OR) (R : Rel h W S j) (hV : ∀ e, e ∈ V ↔ e ∈ S) : Rel h (W.foldl (stepM fun p => movW h p o) W) (V.foldl (stepM fun p => movL h p o) S) (j + 1) := by
  have hVS : ∀ e ∈ V, e ∈ S := fun e he => (hV e).mp he
  obtain ⟨a1, a2, a3, a4⟩ := fromR (fun p => movW h p o) W W (fun e he => by have := R.bw e he; omega) R.w.nd (fun e he => by have := R.bw e he; omega)
  obtain ⟨b1, b2, b3, b4⟩ := fromR (fun p => movL h p o) V S (fun e he => by have := R.bs e (hVS e he); omega) R.s.nd (fun e he => by have := R.bs e he; omega)
  refine ⟨Inn.stepsM R.w fun e he => (mov_in (R.w.pr e he) ho).2.2, Inn.stepsM R.s fun e he => (mov_in (R.s.pr e (hVS e he)) ho).2.1, fun e he => ?_, fun e he => ?_, fun e he => ?_, fun q hq => ?_⟩
  · rcases a1 e he with h1 | ⟨z, hz, _, h2⟩
    · have := R.bw e h1; omega
    · have := R.bw z hz; omega
  · rcases b1 e he with h1 | ⟨z, hz, _, h2⟩
    · have := R.bs e h1; omega
    · have := R.bs z (hVS z hz); omega
  · rcases b1 e he with h1 | ⟨z, hz, hg, h2⟩
    · obtain ⟨q, hq, h3, h4⟩ := R.up e h1
      obtain ⟨v, h5, h6⟩ := a2 q hq
      exact ⟨(q.1, v), h5, h3, Int.le_trans h6 h4⟩
    · obtain ⟨q, hq, h3, h4⟩ := R.up z (hVS z hz)
      have pz := R.s.pr z (hVS z hz)
      have pq := pr_wh (R.w.pr q hq)
      rcases mov_above (h, z.1) pz o ho e.1 hg q.1 pq.2.1 pq.2.2 h3 with h5 | ⟨y, hy, h5⟩
      · obtain ⟨v, h6, h7⟩ := a2 q hq
        exact ⟨(q.1, v), h6, h5, by show v ≤ e.2; omega⟩
      · obtain ⟨v, h6, h7⟩ := a3 q hq y hy
        exact ⟨(y, v), h6, h5, by show v ≤ e.2; omega⟩
  · rcases a1 q hq with h1 | ⟨z, hz, hg, h2⟩
    · obtain ⟨y, h3, h4⟩ := R.dn q h1
      obtain ⟨v, h5, h6⟩ := b2 _ h3
      exact ⟨v, h5, Int.le_trans h6 h4⟩
    · obtain ⟨y, h3, h4⟩ := R.dn z hz
      obtain ⟨v, h5, h6⟩ := b3 (z.1, y) ((hV _).mpr h3) q.1 (movW_in (h, z.1) (R.w.pr z hz) o ho q.1 hg)
      exact ⟨v, h5, by have : v ≤ y + 1 := h6; omega⟩
theorem getZ_mem {F : Zi} (hn : NdZ F) {g : Hp3} {v : Int} (h : getZ F g = some v) : (g, v) ∈ F := by
  have hk := hasZ_iff.mp (show hasZ F g = true by unfold hasZ; rw [h]; rfl)
  obtain ⟨e, he, e1⟩ := List.mem_map.mp hk
  have := getZ_of hn he
  rw [e1, h] at this
  have h2 : v = e.2 := Option.some.inj this
  rw [← e1, h2]
  exact he
theorem Rel.top {h : Hp3} {W S : Zi} {j : Int} (hh : h ∈ WH) (R : Rel h W S j) : getZ W h = getZ S h := by
  cases q : getZ S h with
  | none =>
    cases z : getZ W h with
    | none => rfl
    | some x =>
      obtain ⟨y, h1, _⟩ := R.dn _ (getZ_mem R.w.nd z)
      have := getZ_of R.s.nd h1
      rw [q] at this
      cases this
  | some y =>
    obtain ⟨p, hp, h1, h2⟩ := R.up _ (getZ_mem R.s.nd q)
    have pp := pr_wh (R.w.pr p hp)
    have e : p.1 = h := inH_anti p.1 pp.2.1 h hh h1 pp.2.2
    have hg := getZ_of R.w.nd hp
    rw [e] at hg
    rw [hg]
    obtain ⟨y', h3, h4⟩ := R.dn p hp
    rw [e] at h3
    have := getZ_of R.s.nd h3
    rw [q] at this
    have h5 : y = y' := Option.some.inj this
    have h2 : p.2 ≤ y := h2
    have : p.2 = y := by omega
    rw [this]
theorem getD_lt {P : Zp} (hP : (P.map (·.1)).Nodup) {j : Int} (hj : j < 900) (h0 : 0 ≤ j) (hb : ∀ e ∈ sndP P, e.2 ≤ j) (p : Hp3) : ((getZ P p).getD (0, 0)).2 < 900 := by
  have h1 := snd_get p P
  cases q : getZ P p with
  | none => decide
  | some z =>
    rw [q] at h1
    have := hb _ (getZ_mem (snd_nd hP) h1)
    show z.2 < 900
    have : z.2 ≤ j := this
    omega
theorem fewest_same {h : Hp3} (hh : h ∈ WH) : ∀ (cs : Ch), (∀ c ∈ cs, ordN c ∈ OR) → ∀ (W : Zi) (P : Zp) (j : Int), 0 ≤ j → j + cs.length < 900 → InP h P → Rel h W (sndP P) j → getZ (ringsM h cs W) h = (getZ (ringsL h cs P) h).map (·.2)
  | [], _, W, P, j, _, _, hP, R => by
    show getZ W h = (getZ P h).map (·.2)
    rw [R.top hh, snd_get]
  | c :: cs, ho, W, P, j, h0, hj, hP, R => by
    have o1 := ho c List.mem_cons_self
    rw [List.length_cons] at hj
    refine fewest_same hh cs (fun c' h' => ho c' (List.mem_cons_of_mem _ h')) (ringM h (ordN c) W) (ringL h (ordN c) P) (j + 1) (by omega) (by omega) (ringL_inP o1 hP) ?_
    have hs := snd_parts h (ordN c) P (fun p => getD_lt hP.nd (j := j) (by omega) h0 R.bs p) (insS (P.map (·.1))) P
    have hV : ∀ e, e ∈ ((insS (P.map (·.1))).map fun p => (p, ((getZ P p).getD (0, 0)).2)) ↔ e ∈ sndP P := fun e => by
      constructor
      · intro he
        obtain ⟨p, hp, rfl⟩ := List.mem_map.mp he
        obtain ⟨z, hz, rfl⟩ := List.mem_map.mp ((insS_perm _).mem_iff.mp hp)
        rw [getP_of hP.nd hz]
        exact List.mem_map.mpr ⟨z, hz, rfl⟩
      · intro he
        obtain ⟨z, hz, rfl⟩ := List.mem_map.mp he
        refine List.mem_map.mpr ⟨z.1, (insS_perm _).mem_iff.mpr (List.mem_map.mpr ⟨z, hz, rfl⟩), ?_⟩
        rw [getP_of hP.nd hz]
        rfl
    have := Rel.step (by omega) o1 R hV
    rw [← hs] at this
    exact this
/-! ### both at once: what the law compares -/
theorem start_rel {h : Hp3} (hh : h ∈ WH) (h0 : inH h [] = true) : Inn h [([], 1)] ∧ InP h [([], (1, 0))] ∧ Rel h [([], 0)] (sndP [([], (1, 0))]) 0 := by
  have hp : (h, ([] : Hp3)) ∈ PR := pr_mk hh (by decide) h0
  have i0 : Inn h [([], 0)] := ⟨List.nodup_cons.mpr ⟨by simp, List.nodup_nil⟩, fun e he => by rw [List.mem_singleton] at he; subst he; exact hp⟩
  refine ⟨⟨List.nodup_cons.mpr ⟨by simp, List.nodup_nil⟩, fun e he => by rw [List.mem_singleton] at he; subst he; exact hp⟩, ⟨List.nodup_cons.mpr ⟨by simp, List.nodup_nil⟩, fun e he => by rw [List.mem_singleton] at he; subst he; exact hp⟩, i0, i0, fun e he => ?_, fun e he => ?_, fun e he => ?_, fun q hq => ?_⟩
  · rw [List.mem_singleton] at he; subst he; exact Int.le_refl _
  · have he : e ∈ [(([] : Hp3), (0 : Int))] := he
    rw [List.mem_singleton] at he; subst he; exact Int.le_refl _
  · have he : e ∈ [(([] : Hp3), (0 : Int))] := he
    rw [List.mem_singleton] at he; subst he
    exact ⟨([], 0), by simp, by decide, Int.le_refl _⟩
  · rw [List.mem_singleton] at hq; subst hq
    exact ⟨0, by show (([] : Hp3), (0 : Int)) ∈ [(([] : Hp3), (0 : Int))]; simp, Int.le_refl _⟩
theorem table_same {h : Hp3} (hh : h ∈ WH) (h0 : inH h [] = true) (cs : Ch) (hc : ∀ c ∈ cs, ordN c ∈ OR) (hl : cs.length < 800) : get0 (ringsF h cs [([], 1)]) h = ((getZ (ringsL h cs [([], (1, 0))]) h).map (·.1)).getD 0 ∧ getZ (ringsM h cs [([], 0)]) h = (getZ (ringsL h cs [([], (1, 0))]) h).map (·.2) := by
  obtain ⟨s1, s2, s3⟩ := start_rel hh h0
  exact ⟨counts_same cs hc _ _ s1 s2 fun φ => rfl, fewest_same hh cs hc _ _ 0 (by omega) (by omega) s2 s3⟩
/-! ### orders that are all one, or all great -/
theorem ringsF_five {h : Hp3} : ∀ (cs : Ch), (∀ c ∈ cs, ordN c ∈ [5, 6, 7, 8, 9]) → ∀ W : Zi, Inn h W → ringsF h cs W = cs.foldl (fun W _ => ringF h 5 W) W
  | [], _, _, _ => rfl
  | c :: cs, ho, W, hW => by
    have o1 := ho c List.mem_cons_self
    have e : ringF h (ordN c) W = ringF h 5 W := by
      unfold ringF
      have : ∀ (V L : Zi), (∀ e ∈ V, (h, e.1) ∈ PR) → V.foldl (partF h (ordN c)) L = V.foldl (partF h 5) L := fun V => by
        induction V with
        | nil => intro L _; rfl
        | cons e V ih =>
          intro L hV
          rw [List.foldl_cons, List.foldl_cons, ih _ fun e' h' => hV e' (List.mem_cons_of_mem _ h')]
          unfold partF
          rw [(mov_five (h, e.1) (hV e List.mem_cons_self) (ordN c) o1).1]
      exact this W W hW.pr
    show ringsF h cs (ringF h (ordN c) W) = cs.foldl (fun W _ => ringF h 5 W) (ringF h 5 W)
    rw [e]
    exact ringsF_five cs (fun c' h' => ho c' (List.mem_cons_of_mem _ h')) _ (ringF_in (by decide) W W hW.pr hW)
theorem ringM_in {h : Hp3} {o : Nat} (ho : o ∈ OR) {W : Zi} (hW : Inn h W) : Inn h (ringM h o W) := Inn.stepsM (m := fun p => movW h p o) hW fun e he => (mov_in (hW.pr e he) ho).2.2
theorem ringsM_five {h : Hp3} : ∀ (cs : Ch), (∀ c ∈ cs, ordN c ∈ [5, 6, 7, 8, 9]) → ∀ W : Zi, Inn h W → ringsM h cs W = cs.foldl (fun W _ => ringM h 5 W) W
  | [], _, _, _ => rfl
  | c :: cs, ho, W, hW => by
    have o1 := ho c List.mem_cons_self
    have e : ringM h (ordN c) W = ringM h 5 W := by
      unfold ringM
      have : ∀ (V L : Zi), (∀ e ∈ V, (h, e.1) ∈ PR) → V.foldl (partM h (ordN c)) L = V.foldl (partM h 5) L := fun V => by
        induction V with
        | nil => intro L _; rfl
        | cons e V ih =>
          intro L hV
          rw [List.foldl_cons, List.foldl_cons, ih _ fun e' h' => hV e' (List.mem_cons_of_mem _ h')]
          unfold partM
          rw [(mov_five (h, e.1) (hV e List.mem_cons_self) (ordN c) o1).2]
      exact this W W hW.pr
    show ringsM h cs (ringM h (ordN c) W) = cs.foldl (fun W _ => ringM h 5 W) (ringM h 5 W)
    rw [e]
    exact ringsM_five cs (fun c' h' => ho c' (List.mem_cons_of_mem _ h')) _ (ringM_in (by decide) hW)
def itF (h : Hp3) (o : Nat) : Nat → Zi
  | 0 => [([], 1)]
  | n + 1 => ringF h o (itF h o n)
def itM (h : Hp3) (o : Nat) : Nat → Zi
  | 0 => [([], 0)]
  | n + 1 => ringM h o (itM h o n)
theorem fold_it {α : Type} (f : Zi → Zi) (W : Zi) : ∀ cs : List α, cs.foldl (fun W _ => f W) W = (List.replicate cs.length ()).foldl (fun W _ => f W) W
  | [] => rfl
  | c :: cs => by
    show cs.foldl (fun W _ => f W) (f W) = (List.replicate cs.length ()).foldl (fun W _ => f W) (f W)
    exact fold_it f (f W) cs
theorem rep_succ (f : Zi → Zi) (W : Zi) (n : Nat) : (List.replicate (n + 1) ()).foldl (fun W _ => f W) W = f ((List.replicate n ()).foldl (fun W _ => f W) W) := by
  rw [List.replicate_succ', List.foldl_append]
  rfl
theorem itF_is (h : Hp3) (o : Nat) : ∀ n, (List.replicate n ()).foldl (fun W _ => ringF h o W) [([], 1)] = itF h o n
  | 0 => rfl
  | n + 1 => by rw [rep_succ, itF_is h o n]; rfl
theorem itM_is (h : Hp3) (o : Nat) : ∀ n, (List.replicate n ()).foldl (fun W _ => ringM h o W) [([], 0)] = itM h o n
  | 0 => rfl
  | n + 1 => by rw [rep_succ, itM_is h o n]; rfl
theorem ringsM_one {h : Hp3} {k : Nat} : ∀ (cs : Ch), (∀ c ∈ cs, ordN c = k) → ∀ W : Zi, ringsM h cs W = cs.foldl (fun W _ => ringM h k W) W
  | [], _, _ => rfl
  | c :: cs, ho, W => by
    show ringsM h cs (ringM h (ordN c) W) = cs.foldl (fun W _ => ringM h k W) (ringM h k W)
    rw [ho c List.mem_cons_self]
    exact ringsM_one cs (fun c' h' => ho c' (List.mem_cons_of_mem _ h')) _
end Sk47
end
section
set_option maxRecDepth 100000
set_option maxHeartbeats 0
set_option exponentiation.threshold 1000000
namespace Sk47
open PySem L2 Sm
/-! ### the order of a drawn ring -/
theorem ord_ring {k m s : Nat} (hk : 1 ≤ k) (hm : 1 ≤ m) (hc : Nat.gcd k s = 1) : ordN ((k : Int) * m, (m : Int) * s) = k := by
  unfold ordN
  have e1 : ((k : Int) * m).natAbs = k * m := by rw [← Int.natCast_mul, Int.natAbs_natCast]
  have e2 : ((m : Int) * s).natAbs = m * s := by rw [← Int.natCast_mul, Int.natAbs_natCast]
  show ((k : Int) * m).natAbs / Nat.gcd ((k : Int) * m).natAbs ((m : Int) * s).natAbs = k
  rw [e1, e2, Nat.mul_comm k m, Nat.gcd_mul_left, hc, Nat.mul_one, Nat.mul_div_cancel_left _ (by omega)]
theorem com51 (C : Cells) : m__law_common [.int 5, .int 1] C = some (.ok (.int 1) C) := common C rfl
theorem com52 (C : Cells) : m__law_common [.int 5, .int 2] C = some (.ok (.int 1) C) := common C rfl
theorem com53 (C : Cells) : m__law_common [.int 5, .int 3] C = some (.ok (.int 1) C) := common C rfl
theorem com54 (C : Cells) : m__law_common [.int 5, .int 4] C = some (.ok (.int 1) C) := common C rfl
theorem com61 (C : Cells) : m__law_common [.int 6, .int 1] C = some (.ok (.int 1) C) := common C rfl
theorem com62 (C : Cells) : m__law_common [.int 6, .int 2] C = some (.ok (.int 2) C) := common C rfl
theorem com63 (C : Cells) : m__law_common [.int 6, .int 3] C = some (.ok (.int 3) C) := common C rfl
theorem com64 (C : Cells) : m__law_common [.int 6, .int 4] C = some (.ok (.int 2) C) := common C rfl
theorem com65 (C : Cells) : m__law_common [.int 6, .int 5] C = some (.ok (.int 1) C) := common C rfl
theorem com71 (C : Cells) : m__law_common [.int 7, .int 1] C = some (.ok (.int 1) C) := common C rfl
theorem com72 (C : Cells) : m__law_common [.int 7, .int 2] C = some (.ok (.int 1) C) := common C rfl
theorem com73 (C : Cells) : m__law_common [.int 7, .int 3] C = some (.ok (.int 1) C) := common C rfl
theorem com74 (C : Cells) : m__law_common [.int 7, .int 4] C = some (.ok (.int 1) C) := common C rfl
theorem com75 (C : Cells) : m__law_common [.int 7, .int 5] C = some (.ok (.int 1) C) := common C rfl
theorem com76 (C : Cells) : m__law_common [.int 7, .int 6] C = some (.ok (.int 1) C) := common C rfl
theorem com81 (C : Cells) : m__law_common [.int 8, .int 1] C = some (.ok (.int 1) C) := common C rfl
theorem com82 (C : Cells) : m__law_common [.int 8, .int 2] C = some (.ok (.int 2) C) := common C rfl
theorem com83 (C : Cells) : m__law_common [.int 8, .int 3] C = some (.ok (.int 1) C) := common C rfl
theorem com84 (C : Cells) : m__law_common [.int 8, .int 4] C = some (.ok (.int 4) C) := common C rfl
theorem com85 (C : Cells) : m__law_common [.int 8, .int 5] C = some (.ok (.int 1) C) := common C rfl
theorem com86 (C : Cells) : m__law_common [.int 8, .int 6] C = some (.ok (.int 2) C) := common C rfl
theorem com87 (C : Cells) : m__law_common [.int 8, .int 7] C = some (.ok (.int 1) C) := common C rfl
theorem com91 (C : Cells) : m__law_common [.int 9, .int 1] C = some (.ok (.int 1) C) := common C rfl
theorem com92 (C : Cells) : m__law_common [.int 9, .int 2] C = some (.ok (.int 1) C) := common C rfl
theorem com93 (C : Cells) : m__law_common [.int 9, .int 3] C = some (.ok (.int 3) C) := common C rfl
theorem com94 (C : Cells) : m__law_common [.int 9, .int 4] C = some (.ok (.int 1) C) := common C rfl
theorem com95 (C : Cells) : m__law_common [.int 9, .int 5] C = some (.ok (.int 1) C) := common C rfl
theorem com96 (C : Cells) : m__law_common [.int 9, .int 6] C = some (.ok (.int 3) C) := common C rfl
theorem com97 (C : Cells) : m__law_common [.int 9, .int 7] C = some (.ok (.int 1) C) := common C rfl
theorem com98 (C : Cells) : m__law_common [.int 9, .int 8] C = some (.ok (.int 1) C) := common C rfl
local macro_rules | `(tactic| dsimp! [$ls,*] $[$l:location]?) => `(tactic| simp only [↓xDef,↓xSeq,↓xDo,↓xNext,↓xRet,↓xExp,↓xIfS,↓xAsg,↓gN,↓gT,↓gsC,↓gsN,↓xV,↓S.val,↓S.bind,↓S.opt,↓x2,↓x1,↓xN,↓xB,↓xD,↓xAnd,↓xOr,↓xNot,↓xIf,↓xAndV,↓xOrV,↓xNotV,↓xChain,↓aNil,↓aCons,↓xTup,↓few,↓xF,↓xC,↓xSetI,↓xPar,↓xCall,↓xFrz,↓xM,live,i2,dSub,dAdd,dMul,dMulA,dMod,dDiv,dLt,dLe,dGt,dGe,dIx,atI,dNeg,dAbs,dInt,dLen,dMin2,dMax2,dGcd,dTuple,↓iR1,↓iR2,↓iV,items,↓iEn,items1,nocel,nocels,List.map_cons,List.map_nil,List.getElem?_cons_zero,List.getElem?_cons_succ,List.getElem?_nil,List.set_cons_zero,List.set_cons_succ,List.length_cons,List.length_nil,List.replicate,List.cons_append,List.nil_append,Nat.reduceAdd,Nat.reduceSub,Bool.false_eq_true,if_true,if_false,Option.map_some,Option.bind_some,Option.bind_none,Bool.and_true,Bool.and_false,Bool.true_and,Bool.not_true,Bool.not_false,decide_true,decide_false,vw_n,vw_b,vw_i,vw_s,vw_u,vw_l,vw_o,ie_n,ie_b,ie_i,ie_s,ie_u,ie_l,ie_c,x10,x20,x21,x30,x31,x32,fin_b,fin_i,eq_ii,ne_ii,List.take_length,vw_k,ie_k,id_eq,Nat.reduceLeDiff,↓xSl,↓xAugI,↓oE,↓oNo,↓xLs,↓xExt,↓iZp, $ls,*] $[$l]?)
theorem steps_of9 {k : Int} (hk : k = 2 ∨ k = 3 ∨ k = 4 ∨ k = 5 ∨ k = 6 ∨ k = 7 ∨ k = 8 ∨ k = 9) (C : Cells) (a b c : D) : ∃ ds : List D, q1__law_ring_of [some a, some (.int k), some b, some c, none, none] C = some (.ok ds C) ∧ ds ≠ [] ∧ ds.length ≤ 8 ∧ ∀ d ∈ ds, ∃ o : Int, d = .int o ∧ 1 ≤ o ∧ o < k ∧ Nat.gcd k.natAbs o.natAbs = 1 := by
  rcases hk with rfl | rfl | rfl | rfl | rfl | rfl | rfl | rfl
  · refine ⟨[.int 1], ?_, by simp, by simp, fun d hd => ?_⟩
    · refine xLc_ok (ds := [.int 1]) (g := gd0) (C1 := C) (iR2_ok (i := 1) (j := 2) rfl (by decide) (by decide)) (by simp) ?_
      dsimp! [lcs, gd0, wipeE, com21]
      rfl
    · simp at hd
      exact ⟨1, hd, by decide, by decide, by decide⟩
  · refine ⟨[.int 1, .int 2], ?_, by simp, by simp, fun d hd => ?_⟩
    · refine xLc_ok (ds := [.int 1, .int 2]) (g := gd0) (C1 := C) (iR2_ok (i := 1) (j := 3) rfl (by decide) (by decide)) (by simp) ?_
      dsimp! [lcs, gd0, wipeE, com31, com32]
      rfl
    · simp at hd
      rcases hd with rfl | rfl
      · exact ⟨1, rfl, by decide, by decide, by decide⟩
      · exact ⟨2, rfl, by decide, by decide, by decide⟩
  · refine ⟨[.int 1, .int 3], ?_, by simp, by simp, fun d hd => ?_⟩
    · refine xLc_ok (ds := [.int 1, .int 2, .int 3]) (g := gd0) (C1 := C) (iR2_ok (i := 1) (j := 4) rfl (by decide) (by decide)) (by simp) ?_
      dsimp! [lcs, gd0, wipeE, com41, com42, com43]
      rfl
    · simp at hd
      rcases hd with rfl | rfl
      · exact ⟨1, rfl, by decide, by decide, by decide⟩
      · exact ⟨3, rfl, by decide, by decide, by decide⟩
  · refine ⟨[.int 1, .int 2, .int 3, .int 4], ?_, by simp, by simp, fun d hd => ?_⟩
    · refine xLc_ok (ds := [.int 1, .int 2, .int 3, .int 4]) (g := gd0) (C1 := C) (iR2_ok (i := 1) (j := 5) rfl (by decide) (by decide)) (by simp) ?_
      dsimp! [lcs, gd0, wipeE, com51, com52, com53, com54]
      rfl
    · simp at hd
      rcases hd with rfl | rfl | rfl | rfl
      · exact ⟨1, rfl, by decide, by decide, by decide⟩
      · exact ⟨2, rfl, by decide, by decide, by decide⟩
      · exact ⟨3, rfl, by decide, by decide, by decide⟩
      · exact ⟨4, rfl, by decide, by decide, by decide⟩
  · refine ⟨[.int 1, .int 5], ?_, by simp, by simp, fun d hd => ?_⟩
    · refine xLc_ok (ds := [.int 1, .int 2, .int 3, .int 4, .int 5]) (g := gd0) (C1 := C) (iR2_ok (i := 1) (j := 6) rfl (by decide) (by decide)) (by simp) ?_
      dsimp! [lcs, gd0, wipeE, com61, com62, com63, com64, com65]
      rfl
    · simp at hd
      rcases hd with rfl | rfl
      · exact ⟨1, rfl, by decide, by decide, by decide⟩
      · exact ⟨5, rfl, by decide, by decide, by decide⟩
  · refine ⟨[.int 1, .int 2, .int 3, .int 4, .int 5, .int 6], ?_, by simp, by simp, fun d hd => ?_⟩
    · refine xLc_ok (ds := [.int 1, .int 2, .int 3, .int 4, .int 5, .int 6]) (g := gd0) (C1 := C) (iR2_ok (i := 1) (j := 7) rfl (by decide) (by decide)) (by simp) ?_
      dsimp! [lcs, gd0, wipeE, com71, com72, com73, com74, com75, com76]
      rfl
    · simp at hd
      rcases hd with rfl | rfl | rfl | rfl | rfl | rfl
      · exact ⟨1, rfl, by decide, by decide, by decide⟩
      · exact ⟨2, rfl, by decide, by decide, by decide⟩
      · exact ⟨3, rfl, by decide, by decide, by decide⟩
      · exact ⟨4, rfl, by decide, by decide, by decide⟩
      · exact ⟨5, rfl, by decide, by decide, by decide⟩
      · exact ⟨6, rfl, by decide, by decide, by decide⟩
  · refine ⟨[.int 1, .int 3, .int 5, .int 7], ?_, by simp, by simp, fun d hd => ?_⟩
    · refine xLc_ok (ds := [.int 1, .int 2, .int 3, .int 4, .int 5, .int 6, .int 7]) (g := gd0) (C1 := C) (iR2_ok (i := 1) (j := 8) rfl (by decide) (by decide)) (by simp) ?_
      dsimp! [lcs, gd0, wipeE, com81, com82, com83, com84, com85, com86, com87]
      rfl
    · simp at hd
      rcases hd with rfl | rfl | rfl | rfl
      · exact ⟨1, rfl, by decide, by decide, by decide⟩
      · exact ⟨3, rfl, by decide, by decide, by decide⟩
      · exact ⟨5, rfl, by decide, by decide, by decide⟩
      · exact ⟨7, rfl, by decide, by decide, by decide⟩
  · refine ⟨[.int 1, .int 2, .int 4, .int 5, .int 7, .int 8], ?_, by simp, by simp, fun d hd => ?_⟩
    · refine xLc_ok (ds := [.int 1, .int 2, .int 3, .int 4, .int 5, .int 6, .int 7, .int 8]) (g := gd0) (C1 := C) (iR2_ok (i := 1) (j := 9) rfl (by decide) (by decide)) (by simp) ?_
      dsimp! [lcs, gd0, wipeE, com91, com92, com93, com94, com95, com96, com97, com98]
      rfl
    · simp at hd
      rcases hd with rfl | rfl | rfl | rfl | rfl | rfl
      · exact ⟨1, rfl, by decide, by decide, by decide⟩
      · exact ⟨2, rfl, by decide, by decide, by decide⟩
      · exact ⟨4, rfl, by decide, by decide, by decide⟩
      · exact ⟨5, rfl, by decide, by decide, by decide⟩
      · exact ⟨7, rfl, by decide, by decide, by decide⟩
      · exact ⟨8, rfl, by decide, by decide, by decide⟩
theorem one_of_fr {C : Cells} {n k : Nat} {ds : List D} (D0 : Dc C n k) (hk : k ≤ 1000000) (h0 : ds ≠ []) (h1 : ds.length < 1000000) (hc : ∀ d ∈ ds, nocel d = true) :
    ∃ d C', m__law_one_of [.cel n, .lst ds] C = some (.ok d C') ∧ d ∈ ds ∧ C'.length = C.length ∧ Dc C' n (k + 1) ∧ ∀ m, m ≠ n → C'[m]? = C[m]? := by
  have hp : 0 < ds.length := List.length_pos_iff.mpr h0
  obtain ⟨v, C', e, v0, v1, hl, D1, fr⟩ := roll_fr (z := (ds.length : Int)) D0 hk (by omega) (by omega)
  obtain ⟨i, rfl⟩ := Int.eq_ofNat_of_zero_le v0
  have hi : i < ds.length := by omega
  refine ⟨ds[i], C', ?_, List.getElem_mem hi, hl, D1, fr⟩
  unfold m__law_one_of b__law_one_of
  have q : fin C.length ds[i] C' = some (.ok ds[i] C') := by
    rw [fin_n (hc _ (List.getElem_mem hi)), ← hl, List.take_length]
  dsimp! [e, ixN_nat hi, List.getElem?_eq_getElem hi, q]
theorem ring_of9 {C : Cells} {n k : Nat} {z t : Int} (hz : z = 2 ∨ z = 3 ∨ z = 4 ∨ z = 5 ∨ z = 6 ∨ z = 7 ∨ z = 8 ∨ z = 9) (D0 : Dc C n k) (hk : k ≤ 900000) (h0 : 1 ≤ t) (h1 : t ≤ 1000) :
    ∃ a s C', m__law_ring_of [.cel n, .int z, .int t] C = some (.ok (rg a s) C') ∧ 2 ≤ a ∧ a ≤ z * t ∧ 1 ≤ s ∧ s < a ∧ (ordN (a, s) : Int) = z ∧ C'.length = C.length ∧ Dc C' n (k + 2) ∧ ∀ m, m ≠ n → C'[m]? = C[m]? := by
  obtain ⟨v, C1, e1, v0, v1, hl, D1, f1⟩ := roll_fr (z := t) D0 (by omega) (by omega) (by omega)
  obtain ⟨ds, hq, hne, hlen, hds⟩ := steps_of9 hz C1 (.cel n) (.int t) (.int (1 + v))
  obtain ⟨d, C2, e2, hd, hl2, D2, f2⟩ := one_of_fr (ds := ds) D1 (by omega) hne (by omega) fun d hd => by
    obtain ⟨o, rfl, _⟩ := hds d hd
    rfl
  obtain ⟨o, rfl, o1, o2, o3⟩ := hds d hd
  have b1 : z.natAbs < 2 ^ 400000 := small_dec (by omega) (by omega)
  have b2 : (1 + v).natAbs < 2 ^ 400000 := small_dec (by omega) (by omega)
  have b3 : o.natAbs < 2 ^ 400000 := small_dec (by omega) (by omega)
  have m1 : 1 ≤ (1 + v) * o := by
    have := Int.mul_le_mul (show (1 : Int) ≤ 1 + v by omega) o1 (by omega) (by omega)
    omega
  have m2 : (1 + v) * o < z * (1 + v) := by
    rw [Int.mul_comm z]
    exact Int.mul_lt_mul_of_pos_left o2 (by omega)
  have m3 : z * (1 + v) ≤ z * t := Int.mul_le_mul_of_nonneg_left (by omega) (by omega)
  have m4 : 2 ≤ z * (1 + v) := by omega
  have hord : (ordN (z * (1 + v), (1 + v) * o) : Int) = z := by
    obtain ⟨zn, rfl⟩ := Int.eq_ofNat_of_zero_le (show 0 ≤ z by omega)
    obtain ⟨mn, hm⟩ := Int.eq_ofNat_of_zero_le (show 0 ≤ 1 + v by omega)
    obtain ⟨on, rfl⟩ := Int.eq_ofNat_of_zero_le (show 0 ≤ o by omega)
    rw [Int.natAbs_natCast, Int.natAbs_natCast] at o3
    clear b1 b2 b3 m1 m2 m3
    rw [hm, ord_ring (k := zn) (m := mn) (s := on) (by omega) (by omega) o3]
  refine ⟨z * (1 + v), (1 + v) * o, C2, ?_, m4, m3, m1, m2, hord, by omega, D2, fun m hm => (f2 m hm).trans (f1 m hm)⟩
  have q : fin C.length (rg (z * (1 + v)) ((1 + v) * o)) C2 = some (.ok (rg (z * (1 + v)) ((1 + v) * o)) C2) := by
    rw [fin_n rfl, ← hl, ← hl2, List.take_length]
  unfold m__law_ring_of b__law_ring_of
  simp only [↓xDef, ↓xSeq, ↓xDo, ↓xNext, ↓xRet, ↓xExp, ↓xIfS, ↓xAsg, ↓gN, ↓gT, ↓gsC, ↓gsN, ↓xV, ↓S.val, ↓S.bind, ↓S.opt, ↓x2, ↓x1, ↓xN, ↓xB, ↓xD, ↓xAnd, ↓xOr, ↓xNot, ↓xIf, ↓xAndV, ↓xOrV, ↓xNotV, ↓xChain, ↓aNil, ↓aCons, ↓xTup, ↓few, ↓xF, ↓xC, ↓xSetI, ↓xPar, ↓xCall, ↓xFrz, ↓xM, live, i2, dSub, dAdd, dMul, dMulA, dMod, dDiv, dLt, dLe, dGt, dGe, dIx, at10, at20, at21, at30, at31, at32, cst0, cst1, cst2, cst3, dNeg, dAbs, dInt, dLen, dMin2, dMax2, dGcd, dTuple, ↓iR1, ↓iR2, ↓iV, items, ↓iEn, items1, nocel, nocels, List.map_cons, List.map_nil, List.getElem?_cons_zero, List.getElem?_cons_succ, List.getElem?_nil, List.set_cons_zero, List.set_cons_succ, List.length_cons, List.length_nil, List.replicate, List.cons_append, List.nil_append, Nat.reduceAdd, Nat.reduceSub, Bool.false_eq_true, if_true, if_false, Option.map_some, Option.bind_some, Option.bind_none, Bool.and_true, Bool.and_false, Bool.true_and, Bool.not_true, Bool.not_false, decide_true, decide_false, vw_n, vw_b, vw_i, vw_s, vw_u, vw_l, vw_o, ie_n, ie_b, ie_i, ie_s, ie_u, ie_l, ie_c, x10, x20, x21, x30, x31, x32, fin_b, fin_i, eq_ii, ne_ii, List.take_length, vw_k, ie_k, id_eq, Nat.reduceLeDiff, ↓xSl, ↓xAugI, ↓oE, ↓oNo, ↓xLs, ↓xExt, ↓iZp, e1, hq, e2, b1, b2, b3, and_self, q]
/-! ### drawn chains of one order -/
def rg9 (k : Nat) (d : D) : Prop := ∃ a s : Int, d = rg a s ∧ 2 ≤ a ∧ a ≤ 18 ∧ 1 ≤ s ∧ s < a ∧ ordN (a, s) = k
theorem rg9_nc {k : Nat} {d : D} (h : rg9 k d) : nocel d = true := by
  obtain ⟨a, s, rfl, _⟩ := h
  rfl
theorem rg9_list {k : Nat} : ∀ {ds : List D}, (∀ d ∈ ds, rg9 k d) → ∃ cs : Ch, ds = cs.map rd ∧ Cv cs ∧ ∀ c ∈ cs, c.1 ≤ 18 ∧ ordN c = k
  | [], _ => ⟨[], rfl, (fun c hc => by cases hc), fun c hc => by cases hc⟩
  | d :: ds, h => by
    obtain ⟨a, s, rfl, a1, a2, s1, s2, ho⟩ := h d List.mem_cons_self
    obtain ⟨cs, rfl, hv, hm⟩ := rg9_list fun d' hd' => h d' (List.mem_cons_of_mem _ hd')
    refine ⟨(a, s) :: cs, rfl, fun c hc => ?_, fun c hc => ?_⟩
    · rcases List.mem_cons.mp hc with e | e
      · rw [e]
        exact ⟨a1, by show a ≤ 60; omega, s1, s2⟩
      · exact hv c e
    · rcases List.mem_cons.mp hc with e | e
      · rw [e]
        exact ⟨a2, ho⟩
      · exact hm c e
theorem equal_chain9 {C : Cells} {n k : Nat} {r z : Int} (hz : z = 2 ∨ z = 3 ∨ z = 4 ∨ z = 5 ∨ z = 6 ∨ z = 7 ∨ z = 8 ∨ z = 9) (D0 : Dc C n k) (hk : k ≤ 800000) (h0 : 1 ≤ r) (h1 : r ≤ 40) :
    ∃ cs C', m__law_equal_chain [.cel n, .int r, .int z] C = some (.ok (chD cs) C') ∧ cs.length = r.toNat ∧ Cv cs ∧ (∀ c ∈ cs, c.1 ≤ 18 ∧ ordN c = z.toNat) ∧ C'.length = C.length ∧ Dc C' n (k + 100) := by
  have hr := rng1_ok (z := r) (by omega) (by omega)
  obtain ⟨ds, C3, e3, g1, g2, g3, g4⟩ := lcs_go (t := gN 3) (x := xCall m__law_ring_of (aCons (xV 0) (aCons (xV 2) (aCons (S.val (.int (2))) aNil)))) (e := [some (.cel n), some (.int r), some (.int z), none])
      (fun j C' => C'.length = C.length ∧ Dc C' n (k + 2 * j)) (rg9 z.toNat) (zs 0 r.toNat) 0 C ⟨rfl, D0⟩ fun d hd j C' hj ⟨p1, p2⟩ => by
        rw [zs_len] at hj
        obtain ⟨a, s, C4, e4, a1, a2, s1, s2, hR, hl4, D4, _⟩ := ring_of9 (t := 2) hz p2 (by omega) (by decide) (by decide)
        refine ⟨_, rfl, rg a s, C4, ?_, ⟨a, s, rfl, a1, by omega, s1, s2, by omega⟩, by omega, D4⟩
        dsimp! [e4]
  rw [zs_len] at g1 g4
  have q : fin C.length (.tup ds) C3 = some (.ok (.tup ds) C3) := by
    rw [fin_n (show nocel (.tup ds) = true from nocels_all fun d hd => rg9_nc (g2 d hd)), ← g3, List.take_length]
  have hq : q1__law_equal_chain [some (.cel n), some (.int r), some (.int z), none] C = some (.ok ds C3) :=
    xLc_ok (ds := zs 0 r.toNat) (g := gd0) (C1 := C) (by dsimp! [hr]) (by rw [zs_len]; omega) e3
  obtain ⟨cs, rfl, c1, c2⟩ := rg9_list g2
  refine ⟨cs, C3, ?_, by rw [List.length_map] at g1; exact g1, c1, c2, g3, g4.mono (by omega)⟩
  unfold m__law_equal_chain b__law_equal_chain
  dsimp! [hq, q]
  rfl
/-! ### drawn chains of great orders -/
theorem great_chain {C : Cells} {n k : Nat} {r : Int} {o1 o2 o3 o4 o5 : Option D} (D0 : Dc C n k) (hk : k ≤ 800000) (h0 : 1 ≤ r) (h1 : r ≤ 40) :
    ∃ cs C', q1__law_great_right [some (.cel n), o1, o2, o3, o4, o5, some (.int r), none] C = some (.ok (cs.map rd) C') ∧ cs.length = r.toNat ∧ Cv cs ∧ (∀ c ∈ cs, ordN c = 7 ∨ ordN c = 8 ∨ ordN c = 9) ∧ C'.length = C.length ∧ Dc C' n (k + 150) := by
  have hr := rng1_ok (z := r) (by omega) (by omega)
  obtain ⟨ds, C3, e3, g1, g2, g3, g4⟩ := lcs_go (t := gN 7) (x := xCall m__law_ring_of (aCons (xV 0) (aCons (x2 dAdd (S.val (.int (7))) (xCall m__law_roll (aCons (xV 0) (aCons (S.val (.int (3))) (aNil))))) (aCons (S.val (.int (2))) (aNil))))) (e := [some (.cel n), o1, o2, o3, o4, o5, some (.int r), none])
      (fun j C' => C'.length = C.length ∧ Dc C' n (k + 3 * j)) (fun d => rg9 7 d ∨ rg9 8 d ∨ rg9 9 d) (zs 0 r.toNat) 0 C ⟨rfl, D0⟩ fun d hd j C' hj ⟨p1, p2⟩ => by
        rw [zs_len] at hj
        obtain ⟨v, C5, e5, v0, v1, l5, D5⟩ := roll (z := 3) p2 (by omega) (by omega) (by decide)
        obtain ⟨w, hw⟩ : ∃ w : Int, 7 + v = w := ⟨_, rfl⟩
        obtain ⟨a, s, C4, e4, a1, a2, s1, s2, hR, hl4, D4, _⟩ := ring_of9 (z := w) (t := 2) (by omega) D5 (by omega) (by decide) (by decide)
        refine ⟨_, rfl, rg a s, C4, ?_, ?_, by omega, D4.mono (by omega)⟩
        · dsimp! [e5, hw, e4]
        · have h1 : w = 7 ∨ w = 8 ∨ w = 9 := by omega
          rcases h1 with rfl | rfl | rfl
          · exact .inl ⟨a, s, rfl, a1, by omega, s1, s2, by omega⟩
          · exact .inr (.inl ⟨a, s, rfl, a1, by omega, s1, s2, by omega⟩)
          · exact .inr (.inr ⟨a, s, rfl, a1, by omega, s1, s2, by omega⟩)
  rw [zs_len] at g1 g4
  have hl : ∀ {ds : List D}, (∀ d ∈ ds, rg9 7 d ∨ rg9 8 d ∨ rg9 9 d) → ∃ cs : Ch, ds = cs.map rd ∧ Cv cs ∧ ∀ c ∈ cs, ordN c = 7 ∨ ordN c = 8 ∨ ordN c = 9 := fun {ds} => by
    induction ds with
    | nil => exact fun _ => ⟨[], rfl, (fun c hc => nomatch hc), (fun c hc => nomatch hc)⟩
    | cons d ds ih =>
      intro h
      obtain ⟨cs, rfl, hv, hm⟩ := ih fun d' hd' => h d' (List.mem_cons_of_mem _ hd')
      have key : ∃ a s : Int, d = rg a s ∧ 2 ≤ a ∧ a ≤ 18 ∧ 1 ≤ s ∧ s < a ∧ (ordN (a, s) = 7 ∨ ordN (a, s) = 8 ∨ ordN (a, s) = 9) := by
        rcases h d List.mem_cons_self with ⟨a, s, e, p1, p2, p3, p4, p5⟩ | ⟨a, s, e, p1, p2, p3, p4, p5⟩ | ⟨a, s, e, p1, p2, p3, p4, p5⟩
        · exact ⟨a, s, e, p1, p2, p3, p4, .inl p5⟩
        · exact ⟨a, s, e, p1, p2, p3, p4, .inr (.inl p5)⟩
        · exact ⟨a, s, e, p1, p2, p3, p4, .inr (.inr p5)⟩
      obtain ⟨a, s, rfl, p1, p2, p3, p4, p5⟩ := key
      refine ⟨(a, s) :: cs, rfl, fun c hc => ?_, fun c hc => ?_⟩
      · rcases List.mem_cons.mp hc with e | e
        · rw [e]
          exact ⟨p1, by show a ≤ 60; omega, p3, p4⟩
        · exact hv c e
      · rcases List.mem_cons.mp hc with e | e
        · rw [e]
          exact p5
        · exact hm c e
  obtain ⟨cs, rfl, c1, c2⟩ := hl g2
  refine ⟨cs, C3, ?_, by rw [List.length_map] at g1; exact g1, c1, c2, g3, g4.mono (by omega)⟩
  exact xLc_ok (ds := zs 0 r.toNat) (g := gd0) (C1 := C) (by dsimp! [hr]) (by rw [zs_len]; omega) e3
end Sk47
end
section
set_option maxRecDepth 100000
set_option maxHeartbeats 0
set_option exponentiation.threshold 1000000
namespace Sk47
open PySem L2 Sm
/-! ### the program's two functions -/
theorem wh_all (u : Option Ob) : (WH.map fun h => m_require_heap [iT h] [u]) = WH.map fun h => some (.ok .non [u]) := by kernel_rfl
def sumH (h : Hp3) : Int := h.sum
theorem sum_all : ∀ h ∈ WH, dSumA [iT h] = some (.int (sumH h)) ∧ 0 ≤ sumH h ∧ sumH h ≤ 9 := by
  have h : (WH.all fun h => (match dSumA [iT h] with
    | some d => deq d (.int (sumH h))
    | none => false) && decide (0 ≤ sumH h) && decide (sumH h ≤ 9)) = true := by decide +kernel
  intro a ha
  have h1 := List.all_eq_true.mp h a ha
  simp only [Bool.and_eq_true, decide_eq_true_eq] at h1
  obtain ⟨⟨h1, h2⟩, h3⟩ := h1
  refine ⟨?_, h2, h3⟩
  split at h1
  · rename_i d hd
    rw [hd, deq_eq _ _ h1]
  · cases h1
theorem wh_nil : ∀ h ∈ WH, inH h [] = true := by decide +kernel
structure Okk (cs : Ch) : Prop where
  v : Cv cs
  l1 : 1 ≤ cs.length
  l2 : cs.length ≤ 12
  o : ∀ c ∈ cs, ordN c ∈ OR
theorem Okk.okc {cs : Ch} (h : Okk cs) : Okc cs := fun c hc => by
  obtain ⟨h1, h2, h3, h4⟩ := h.v c hc
  exact ⟨h1, h2, h3, h4, h.o c hc⟩
section
variable {cs : Ch} {h : Hp3} {u : Option Ob}
local macro_rules | `(tactic| simp! only [$ls,*] $[$l:location]?) => `(tactic| simp only [↓xDef,↓xSeq,↓xDo,↓xNext,↓xRet,↓xExp,↓xIfS,↓xAsg,↓gN,↓gT,↓gsC,↓gsN,↓xV,↓S.val,↓S.bind,↓S.opt,↓x2,↓x1,↓xN,↓xB,↓xD,↓xAnd,↓xOr,↓xNot,↓xIf,↓xAndV,↓xOrV,↓xNotV,↓xChain,↓aNil,↓aCons,↓xTup,↓few,↓xF,↓xC,↓xSetI,↓xPar,↓xCall,↓xFrz,↓xM,live,i2,dSub,dAdd,dMul,dMulA,dMod,dDiv,dLt,dLe,dGt,dGe,dIx,at10,at20,at21,at30,at31,at32,cst0,cst1,cst2,cst3,dNeg,dAbs,dInt,dLen,dMin2,dMax2,dGcd,dTuple,↓iR1,↓iR2,↓iV,items,↓iEn,items1,nocel,nocels,List.map_cons,List.map_nil,List.getElem?_cons_zero,List.getElem?_cons_succ,List.getElem?_nil,List.set_cons_zero,List.set_cons_succ,List.length_cons,List.length_nil,List.replicate,List.cons_append,List.nil_append,Nat.reduceAdd,Nat.reduceSub,Bool.false_eq_true,if_true,if_false,Option.map_some,Option.bind_some,Option.bind_none,Bool.and_true,Bool.and_false,Bool.true_and,Bool.not_true,Bool.not_false,decide_true,decide_false,vw_n,vw_b,vw_i,vw_s,vw_u,vw_l,vw_o,ie_n,ie_b,ie_i,ie_s,ie_u,ie_l,ie_c,x10,x20,x21,x30,x31,x32,fin_b,fin_i,eq_ii,ne_ii,List.take_length,vw_k,ie_k,id_eq,Nat.reduceLeDiff,↓xSl,↓xAugI,↓oE,↓oNo,↓xLs,↓xExt,↓iZp, $ls,*] $[$l]?)
theorem req_filled (hC : Okk cs) (hh : h ∈ WH) : m_require_filled [chD cs, iT h] [u] = some (.ok .non [u]) := by
  have e1 := chain_rq hC.v hC.l1 hC.l2 [u]
  have e2 : m_require_heap [iT h] [u] = some (.ok .non [u]) := mapE (wh_all u) h hh
  obtain ⟨e3, e4, e5⟩ := sum_all h hh
  have hc := ie_ch cs
  have hi : isErr (iT h) = false := rfl
  have hv : ∀ C, vw C (iT h) = iT h := fun _ => rfl
  have hd : decide (42 < sumH h) = false := decide_eq_false (by omega)
  generalize chD cs = CH at *
  generalize iT h = H at *
  generalize sumH h = SH at *
  unfold m_require_filled b_require_filled
  simp! only [e1, e2, e3, hc, hi, hv, hd]
  rfl
theorem fillings_count (hC : Okk cs) (hh : h ∈ WH) : m_fillings_count [chD cs, iT h] [u] = some (.ok (.int (get0 (ringsF h cs [([], 1)]) h)) [u]) := by
  have e1 := req_filled (u := u) hC hh
  have e2 := fillings_in (u := u) hC.okc hh (wh_nil h hh) (by have := hC.l2; omega)
  have hc := ie_ch cs
  have hi : isErr (iT h) = false := rfl
  generalize get0 (ringsF h cs [([], 1)]) h = G at *
  generalize chD cs = CH at *
  generalize iT h = H at *
  unfold m_fillings_count b_fillings_count
  simp! only [e1, e2, hc, hi]
  rfl
theorem fewest_letters (hC : Okk cs) (hh : h ∈ WH) : m_fewest_letters [chD cs, iT h] [u] = some (.ok (optD (getZ (ringsM h cs [([], 0)]) h)) [u]) := by
  have e1 := req_filled (u := u) hC hh
  have e2 := fewest_in (u := u) hC.okc hh (wh_nil h hh) (by have := hC.l2; omega)
  have hc := ie_ch cs
  have hi : isErr (iT h) = false := rfl
  have hf : fin [u].length (optD (getZ (ringsM h cs [([], 0)]) h)) [u] = some (.ok (optD (getZ (ringsM h cs [([], 0)]) h)) [u]) := by
    rw [fin_n (by cases getZ (ringsM h cs [([], 0)]) h <;> rfl), List.take_length]
  have hf : fin (0 + 1) (optD (getZ (ringsM h cs [([], 0)]) h)) [u] = some (.ok (optD (getZ (ringsM h cs [([], 0)]) h)) [u]) := hf
  generalize optD (getZ (ringsM h cs [([], 0)]) h) = G at *
  generalize chD cs = CH at *
  generalize iT h = H at *
  unfold m_fewest_letters b_fewest_letters
  simp! only [e1, e2, hc, hi, hf]
end
/-! ### finite facts -/
def chP (size r : Nat) : Int := match m__law_choices_of [.int (size : Nat), .int (r : Nat)] [none] with
  | some (.ok (.int v) _) => v
  | _ => -1
def stP (h : Hp3) : Int := match m_standard_fillings [iT h] [none] with
  | some (.ok (.int v) _) => v
  | _ => -1
def R5 : List Nat := [1, 2, 3, 4, 5]
def S9 : List Nat := [0, 1, 2, 3, 4, 5]
theorem choices_all (u : Option Ob) : (S9.map fun s => R5.map fun r => m__law_choices_of [.int (s : Nat), .int (r : Nat)] [u]) = S9.map fun s => R5.map fun r => some (.ok (.int (chP s r)) [u]) := by kernel_rfl
theorem standard_all (u : Option Ob) : (WH.map fun h => m_standard_fillings [iT h] [u]) = WH.map fun h => some (.ok (.int (stP h)) [u]) := by kernel_rfl
theorem great_fact : ∀ h ∈ WH, ∀ r ∈ R5, (get0 (itF h 5 r) h = if sumH h ≤ (r : Int) then chP (sumH h).toNat r * stP h else 0) ∧ (getZ (itM h 5 r) h = if sumH h ≤ (r : Int) then some (sumH h) else none) ∧ (chP (sumH h).toNat r).natAbs < 1000000 ∧ (stP h).natAbs < 1000000 := by
  have h : (WH.all fun h => R5.all fun r => decide (get0 (itF h 5 r) h = if sumH h ≤ (r : Int) then chP (sumH h).toNat r * stP h else 0) && decide (getZ (itM h 5 r) h = if sumH h ≤ (r : Int) then some (sumH h) else none) && decide ((chP (sumH h).toNat r).natAbs < 1000000) && decide ((stP h).natAbs < 1000000)) = true := by decide +kernel
  intro a ha r hr
  have h1 := List.all_eq_true.mp (List.all_eq_true.mp h a ha) r hr
  simp only [Bool.and_eq_true, decide_eq_true_eq] at h1
  exact ⟨h1.1.1.1, h1.1.1.2, h1.1.2, h1.2⟩
def KS : List Nat := [2, 3, 4]
def CR : List Nat := [1, 2, 3]
def dueL (k c r : Nat) : List Int := (List.range (min c r)).map fun l : Nat => ((c : Int) - l) * ((r : Int) - l) + (l : Int) * k
def dueK (k c r : Nat) : Int := (dueL k c r).foldl min 1000
def box (c r : Nat) : Hp3 := List.replicate c (r : Int)
theorem box_in : ∀ c ∈ CR, ∀ r ∈ CR, box c r ∈ WH := by decide +kernel
theorem equal_fact : ∀ k ∈ KS, ∀ c ∈ CR, ∀ r ∈ CR, getZ (itM (box c r) k (c * r)) (box c r) = some (dueK k c r) ∧ 1 ≤ dueK k c r ∧ dueK k c r ≤ ((c * r : Nat) : Int) ∧ (dueK k c r ≠ 1 → getZ (itM (box c r) k (dueK k c r - 1).toNat) (box c r) = none) ∧ dMinA [.lst ((dueL k c r).map D.int)] = some (.int (dueK k c r)) := by
  have h : (KS.all fun k => CR.all fun c => CR.all fun r => decide (getZ (itM (box c r) k (c * r)) (box c r) = some (dueK k c r)) && decide (1 ≤ dueK k c r) && decide (dueK k c r ≤ ((c * r : Nat) : Int)) && (decide (dueK k c r = 1) || decide (getZ (itM (box c r) k (dueK k c r - 1).toNat) (box c r) = none)) && (match dMinA [.lst ((dueL k c r).map D.int)] with
    | some d => deq d (.int (dueK k c r))
    | none => false)) = true := by decide +kernel
  intro k hk c hc r hr
  have h1 := List.all_eq_true.mp (List.all_eq_true.mp (List.all_eq_true.mp h k hk) c hc) r hr
  simp only [Bool.and_eq_true, Bool.or_eq_true, decide_eq_true_eq] at h1
  obtain ⟨⟨⟨⟨h1, h2⟩, h3⟩, h4⟩, h5⟩ := h1
  refine ⟨h1, h2, h3, fun hne => h4.resolve_left hne, ?_⟩
  split at h5
  · rename_i d hd
    rw [hd, deq_eq _ _ h5]
  · cases h5
end Sk47
end
section
set_option maxRecDepth 100000
set_option maxHeartbeats 0
set_option exponentiation.threshold 1000000
namespace Sk47
open PySem L2 Sm
/-! ### a heap is drawn -/
theorem one_cell {C : Cells} (h : C.length = 1) : ∃ u, C = [u] := List.length_eq_one_iff.mp h
def ins (a : Int) : List Int → List Int
  | [] => [a]
  | b :: r => if b ≤ a then a :: b :: r else b :: ins a r
def selW (x y z : Int) : Hp3 := (ins x (ins y (ins z []))).filter fun i => decide (0 < i)
def I4 : List Int := [0, 1, 2, 3]
def wtail (ds : List D) : SS := xSeq (xAsg (xF (xRv (xF (xSrtW (aCons (xF (S.val ds)) (aNil)))))) (gN 1)) (xRet (xN dTuple (aCons (xF (q2__law_whole)) (aNil))))
theorem tail_all (u : Option Ob) (o : Option D) : (I4.map fun x => I4.map fun y => I4.map fun z => wtail [.int x, .int y, .int z] [some (.cel 0), none, none, o] [u]) = I4.map fun x => I4.map fun y => I4.map fun z => some (.ret (iT (selW x y z)) [u]) := by kernel_rfl
theorem tail_is {u : Option Ob} {o : Option D} {x y z : Int} (hx : x ∈ I4) (hy : y ∈ I4) (hz : z ∈ I4) : wtail [.int x, .int y, .int z] [some (.cel 0), none, none, o] [u] = some (.ret (iT (selW x y z)) [u]) := mapE (mapE (mapE (tail_all u o) x hx) y hy) z hz
theorem sel_in : ∀ x ∈ I4, ∀ y ∈ I4, ∀ z ∈ I4, selW x y z ∈ WH := by decide +kernel
theorem in4 {v : Int} (h0 : 0 ≤ v) (h1 : v < 4) : v ∈ I4 := by
  have : v = 0 ∨ v = 1 ∨ v = 2 ∨ v = 3 := by omega
  rcases this with rfl | rfl | rfl | rfl <;> decide
def I3 : List Nat := [1, 2, 3]
theorem mul_all : (I3.map fun r : Nat => I3.map fun c : Nat => dMulA (.tup [.int (r : Int)]) (.int (c : Int))) = I3.map fun r : Nat => I3.map fun c : Nat => some (iT (box c r)) := by kernel_rfl
theorem mul_is {r c : Nat} (hr : r ∈ I3) (hc : c ∈ I3) : dMulA (.tup [.int (r : Int)]) (.int (c : Int)) = some (iT (box c r)) := mapE (mapE mul_all r hr) c hc
theorem in3 {v : Int} (h0 : 0 ≤ v) (h1 : v < 3) : ∃ n ∈ I3, 1 + v = ((n : Nat) : Int) := by
  have : v = 0 ∨ v = 1 ∨ v = 2 := by omega
  rcases this with rfl | rfl | rfl
  · exact ⟨1, by decide, rfl⟩
  · exact ⟨2, by decide, rfl⟩
  · exact ⟨3, by decide, rfl⟩
theorem rng3 : iR1 (aCons (S.val (.int (3))) (aNil)) = fun e C => some (.ok ([.int 0, .int 1, .int 2], gd0) C) := rfl
local macro_rules | `(tactic| simp! only [$ls,*] $[$l:location]?) => `(tactic| simp only [↓xDef,↓xSeq,↓xDo,↓xNext,↓xRet,↓xExp,↓xIfS,↓xAsg,↓gN,↓gT,↓gsC,↓gsN,↓xV,↓S.val,↓S.bind,↓S.opt,↓x2,↓x1,↓xN,↓xB,↓xD,↓xAnd,↓xOr,↓xNot,↓xIf,↓xAndV,↓xOrV,↓xNotV,↓xChain,↓aNil,↓aCons,↓xTup,↓few,↓xF,↓xC,↓xSetI,↓xPar,↓xCall,↓xFrz,↓xM,live,i2,dSub,dAdd,dMul,dMulA,dMod,dDiv,dLt,dLe,dGt,dGe,dIx,at10,at20,at21,at30,at31,at32,cst0,cst1,cst2,cst3,dNeg,dAbs,dInt,dLen,dMin2,dMax2,dGcd,dTuple,↓iR1,↓iR2,↓iV,items,↓iEn,items1,nocel,nocels,List.map_cons,List.map_nil,List.getElem?_cons_zero,List.getElem?_cons_succ,List.getElem?_nil,List.set_cons_zero,List.set_cons_succ,List.length_cons,List.length_nil,List.replicate,List.cons_append,List.nil_append,Nat.reduceAdd,Nat.reduceSub,Bool.false_eq_true,if_true,if_false,Option.map_some,Option.bind_some,Option.bind_none,Bool.and_true,Bool.and_false,Bool.true_and,Bool.not_true,Bool.not_false,decide_true,decide_false,vw_n,vw_b,vw_i,vw_s,vw_u,vw_l,vw_o,ie_n,ie_b,ie_i,ie_s,ie_u,ie_l,ie_c,x10,x20,x21,x30,x31,x32,fin_b,fin_i,eq_ii,ne_ii,List.take_length,vw_k,ie_k,id_eq,Nat.reduceLeDiff,↓xSl,↓xAugI,↓oE,↓oNo,↓xLs,↓xExt,↓iZp, $ls,*] $[$l]?)
theorem whole_drawn {u : Option Ob} {k : Nat} (D0 : Dc [u] 0 k) (hk : k ≤ 900000) :
    ∃ h u', m__law_whole [.cel 0] [u] = some (.ok (iT h) [u']) ∧ h ∈ WH ∧ Dc [u'] 0 (k + 10) := by
  obtain ⟨v, C1, e1, v0, v1, l1, D1⟩ := roll (z := 3) D0 (by omega) (by omega) (by decide)
  obtain ⟨u1, rfl⟩ := one_cell l1
  by_cases hv : 0 < v
  · obtain ⟨x, C2, e2, x0, x1, l2, D2⟩ := roll (z := 3) D1 (by omega) (by omega) (by decide)
    obtain ⟨u2, rfl⟩ := one_cell l2
    obtain ⟨y, C3, e3, y0, y1, l3, D3⟩ := roll (z := 3) D2 (by omega) (by omega) (by decide)
    obtain ⟨u3, rfl⟩ := one_cell l3
    obtain ⟨r, hr, er⟩ := in3 x0 x1
    obtain ⟨c, hc, ec⟩ := in3 y0 y1
    have e4 := mul_is hr hc
    refine ⟨box c r, u3, ?_, box_in c hc r hr, D3.mono (by omega)⟩
    have hd : decide (v > 0) = true := decide_eq_true hv
    have hb : b__law_whole ([D.cel 0].map some ++ List.replicate 3 none) [u] = some (.ret (iT (box c r)) [u3]) := by
      show b__law_whole [some (.cel 0), none, none, none] [u] = _
      unfold b__law_whole
      rw [← er] at e4
      rw [← ec] at e4
      generalize iT (box c r) = B at *
      simp! only [] at e4
      simp! only [e1, hd, e2, e3, e4]
    have hd := def_retE 1 4 b__law_whole (f := m__law_whole) (as := [.cel 0]) rfl rfl hb (by exact nc_iT _)
    exact hd
  · obtain ⟨x, C2, e2, x0, x1, l2, D2⟩ := roll (z := 4) D1 (by omega) (by omega) (by decide)
    obtain ⟨u2, rfl⟩ := one_cell l2
    obtain ⟨y, C3, e3, y0, y1, l3, D3⟩ := roll (z := 4) D2 (by omega) (by omega) (by decide)
    obtain ⟨u3, rfl⟩ := one_cell l3
    obtain ⟨z, C4, e4, z0, z1, l4, D4⟩ := roll (z := 4) D3 (by omega) (by omega) (by decide)
    obtain ⟨u4, rfl⟩ := one_cell l4
    refine ⟨selW x y z, u4, ?_, sel_in x (in4 x0 x1) y (in4 y0 y1) z (in4 z0 z1), D4.mono (by omega)⟩
    have hd : decide (v > 0) = false := decide_eq_false (by omega)
    have q : q1__law_whole [some (.cel 0), none, none, none] [u1] = some (.ok [.int x, .int y, .int z] [u4]) := by
      unfold q1__law_whole
      refine xLc_ok (ds := [.int 0, .int 1, .int 2]) (g := gd0) (C1 := [u1]) (by rw [rng3]) (by simp) ?_
      simp only [↓xDef, ↓xSeq, ↓xDo, ↓xNext, ↓xRet, ↓xExp, ↓xIfS, ↓xAsg, ↓gN, ↓gT, ↓gsC, ↓gsN, ↓xV, ↓S.val, ↓S.bind, ↓S.opt, ↓x2, ↓x1, ↓xN, ↓xB, ↓xD, ↓xAnd, ↓xOr, ↓xNot, ↓xIf, ↓xAndV, ↓xOrV, ↓xNotV, ↓xChain, ↓aNil, ↓aCons, ↓xTup, ↓few, ↓xF, ↓xC, ↓xSetI, ↓xPar, ↓xCall, ↓xFrz, ↓xM, live, i2, dSub, dAdd, dMul, dMulA, dMod, dDiv, dLt, dLe, dGt, dGe, dIx, atI, dNeg, dAbs, dInt, dLen, dMin2, dMax2, dGcd, dTuple, ↓iR1, ↓iR2, ↓iV, items, ↓iEn, items1, nocel, nocels, List.map_cons, List.map_nil, List.getElem?_cons_zero, List.getElem?_cons_succ, List.getElem?_nil, List.set_cons_zero, List.set_cons_succ, List.length_cons, List.length_nil, List.replicate, List.cons_append, List.nil_append, Nat.reduceAdd, Nat.reduceSub, Bool.false_eq_true, if_true, if_false, Option.map_some, Option.bind_some, Option.bind_none, Bool.and_true, Bool.and_false, Bool.true_and, Bool.not_true, Bool.not_false, decide_true, decide_false, vw_n, vw_b, vw_i, vw_s, vw_u, vw_l, vw_o, ie_n, ie_b, ie_i, ie_s, ie_u, ie_l, ie_c, x10, x20, x21, x30, x31, x32, fin_b, fin_i, eq_ii, ne_ii, List.take_length, vw_k, ie_k, id_eq, Nat.reduceLeDiff, ↓xSl, ↓xAugI, ↓oE, ↓oNo, ↓xLs, ↓xExt, ↓iZp, lcs, gd0, wipeE, e2, e3, e4]
      try rfl
    have ht := tail_is (u := u4) (o := none) (in4 x0 x1) (in4 y0 y1) (in4 z0 z1)
    have hb : b__law_whole ([D.cel 0].map some ++ List.replicate 3 none) [u] = some (.ret (iT (selW x y z)) [u4]) := by
      show b__law_whole [some (.cel 0), none, none, none] [u] = _
      unfold b__law_whole
      refine (sqE (e' := [some (.cel 0), none, none, none]) (C' := [u1]) ?_).trans ?_
      · simp! only [e1, hd]
      · rw [← ht]
        unfold wtail
        generalize q1__law_whole = Q at q
        simp only [xSeq, xAsg, xDo, xF, xRv, xSrtW, aCons, S.bind, aNil, S.val, q]
    have hd := def_retE 1 4 b__law_whole (f := m__law_whole) (as := [.cel 0]) rfl rfl hb (by exact nc_iT _)
    exact hd
end Sk47
end
section
set_option maxRecDepth 100000
set_option maxHeartbeats 0
set_option exponentiation.threshold 1000000
namespace Sk47
open PySem L2 Sm
/-! ### rings of great orders -/
theorem sb6 {v : Int} (h : v.natAbs < 1000000000000) : v.natAbs < 2 ^ 400000 := Nat.lt_of_lt_of_le h (by rw [show (400000 : Nat) = 40 + 399960 from rfl, Nat.pow_add]; exact Nat.le_trans (by decide) (Nat.mul_le_mul_left _ (Nat.one_le_two_pow)))
def mostN (h : Hp3) : Int := h.length + h.foldl max 0
def mostS : S D := x2 dAdd (xN dLen (aCons (xV 1) (aNil))) (xN dMaxA (aCons (x2 dAdd (xF (S.bind (aCons (S.val (.int (0))) (aNil)) fun ds => S.opt (few id ds))) (xF (xLs (aCons (xV 1) (aNil))))) (aNil)))
theorem most_all (u : Option Ob) (a b c d e f g : Option D) : (WH.map fun h => mostS [a, some (iT h), b, c, d, e, f, g] [u]) = WH.map fun h => some (.ok (.int (mostN h)) [u]) := by kernel_rfl
theorem most_le : ∀ h ∈ WH, mostN h ≤ 7 := by decide +kernel
theorem gr_or {cs : Ch} (h : ∀ c ∈ cs, ordN c = 7 ∨ ordN c = 8 ∨ ordN c = 9) : (∀ c ∈ cs, ordN c ∈ OR) ∧ ∀ c ∈ cs, ordN c ∈ [5, 6, 7, 8, 9] := by
  constructor
  all_goals
    intro c hc
    rcases h c hc with e | e | e <;> rw [e] <;> decide
theorem size5 {s : Int} (h0 : 0 ≤ s) (h1 : s ≤ 5) : s.toNat ∈ S9 := by
  have : s.toNat = 0 ∨ s.toNat = 1 ∨ s.toNat = 2 ∨ s.toNat = 3 ∨ s.toNat = 4 ∨ s.toNat = 5 := by omega
  rcases this with e | e | e | e | e | e <;> rw [e] <;> decide
theorem r5 {v : Int} (h0 : 0 ≤ v) (h1 : v < 5) : (1 + v).toNat ∈ R5 := by
  have : (1 + v).toNat = 1 ∨ (1 + v).toNat = 2 ∨ (1 + v).toNat = 3 ∨ (1 + v).toNat = 4 ∨ (1 + v).toNat = 5 := by omega
  rcases this with e | e | e | e | e <;> rw [e] <;> decide
theorem non_eq : dEq D.non D.non = some (.bl true) := by kernel_rfl
local macro_rules | `(tactic| simp! only [$ls,*] $[$l:location]?) => `(tactic| simp only [↓xDef,↓xSeq,↓xDo,↓xNext,↓xRet,↓xExp,↓xIfS,↓xAsg,↓gN,↓gT,↓gsC,↓gsN,↓xV,↓S.val,↓S.bind,↓S.opt,↓x2,↓x1,↓xN,↓xB,↓xD,↓xAnd,↓xOr,↓xNot,↓xIf,↓xAndV,↓xOrV,↓xNotV,↓xChain,↓aNil,↓aCons,↓xTup,↓few,↓xF,↓xC,↓xSetI,↓xPar,↓xCall,↓xFrz,↓xM,live,i2,dSub,dAdd,dMul,dMulA,dMod,dDiv,dLt,dLe,dGt,dGe,dIx,at10,at20,at21,at30,at31,at32,cst0,cst1,cst2,cst3,dNeg,dAbs,dInt,dLen,dMin2,dMax2,dGcd,dTuple,↓iR1,↓iR2,↓iV,items,↓iEn,items1,nocel,nocels,List.map_cons,List.map_nil,List.getElem?_cons_zero,List.getElem?_cons_succ,List.getElem?_nil,List.set_cons_zero,List.set_cons_succ,List.length_cons,List.length_nil,List.replicate,List.cons_append,List.nil_append,Nat.reduceAdd,Nat.reduceSub,Bool.false_eq_true,if_true,if_false,Option.map_some,Option.bind_some,Option.bind_none,Bool.and_true,Bool.and_false,Bool.true_and,Bool.not_true,Bool.not_false,decide_true,decide_false,vw_n,vw_b,vw_i,vw_s,vw_u,vw_l,vw_o,ie_n,ie_b,ie_i,ie_s,ie_u,ie_l,ie_c,x10,x20,x21,x30,x31,x32,fin_b,fin_i,eq_ii,ne_ii,List.take_length,vw_k,ie_k,id_eq,Nat.reduceLeDiff,↓xSl,↓xAugI,↓oE,↓oNo,↓xLs,↓xExt,↓iZp, $ls,*] $[$l]?)
theorem great_right {h : Hp3} {u : Option Ob} {k : Nat} (hh : h ∈ WH) (D0 : Dc [u] 0 k) (hk : k ≤ 700000) :
    ∃ u', m__law_great_right [.cel 0, iT h] [u] = some (.ok (.bl true) [u']) ∧ Dc [u'] 0 (k + 200) := by
  obtain ⟨e1, s0, s9⟩ := sum_all h hh
  obtain ⟨v, C1, e2, v0, v1, l1, D1⟩ := roll (z := 5) D0 (by omega) (by omega) (by decide)
  obtain ⟨u1, rfl⟩ := one_cell l1
  obtain ⟨r, hr⟩ : ∃ r : Int, 1 + v = r := ⟨_, rfl⟩
  have hr5 := r5 v0 v1
  rw [hr] at hr5
  have e3 := mapE (most_all u1 (some (.cel 0)) none none none (some (.int (sumH h))) (some (.int r)) none) h hh
  have hm := most_le h hh
  obtain ⟨cs, C2, e4, hl, hv, ho, l2, D2⟩ := great_chain (r := r) (o1 := some (iT h)) (o2 := some (.int (mostN h))) (o3 := none) (o4 := none) (o5 := some (.int (sumH h))) D1 (by omega) (by omega) (by omega)
  obtain ⟨u2, rfl⟩ := one_cell l2
  obtain ⟨ho1, ho2⟩ := gr_or ho
  have hC : Okk cs := ⟨hv, by omega, by omega, ho1⟩
  have e5 := fillings_count (u := u2) hC hh
  have e6 := fewest_letters (u := u2) hC hh
  obtain ⟨g1, g2, g3, g4⟩ := great_fact h hh r.toNat hr5
  obtain ⟨t1, t2, t3⟩ := start_rel hh (wh_nil h hh)
  have hF : get0 (ringsF h cs [([], 1)]) h = get0 (itF h 5 r.toNat) h := by rw [ringsF_five cs ho2 _ t1, fold_it, itF_is, hl]
  have hM : getZ (ringsM h cs [([], 0)]) h = getZ (itM h 5 r.toNat) h := by
    have t4 : Inn h [([], 0)] := t3.1
    rw [ringsM_five cs ho2 _ t4, fold_it, itM_is, hl]
  rw [hF, g1] at e5
  rw [hM, g2] at e6
  have er : ((r.toNat : Nat) : Int) = r := by omega
  rw [er] at e5 e6
  refine ⟨u2, ?_, D2.mono (by omega)⟩
  have hs := mapE (standard_all u2) h hh
  have hx : isErr (iT h) = false := rfl
  have hc := ie_ch cs
  have hch : chD cs = .tup (cs.map rd) := rfl
  have hd7 : decide (mostN h > 7) = false := decide_eq_false (by omega)
  have hvw : ∀ C, vw C (iT h) = iT h := fun _ => rfl
  have hb : b__law_great_right ([D.cel 0, iT h].map some ++ List.replicate 6 none) [u] = some (.ret (.bl true) [u2]) := by
    show b__law_great_right [some (.cel 0), some (iT h), none, none, none, none, none, none] [u] = _
    unfold b__law_great_right
    have z1 : xPar 5 6 (aCons (xN dSumA (aCons (xV 1) (aNil))) (aCons (x2 dAdd (S.val (.int (1))) (xCall m__law_roll (aCons (xV 0) (aCons (S.val (.int (5))) (aNil))))) (aNil))) [some (.cel 0), some (iT h), none, none, none, none, none, none] [u] = some (.nx [some (.cel 0), some (iT h), none, none, none, some (.int (sumH h)), some (.int r), none] [u1]) := by
      generalize iT h = H at *
      generalize sumH h = SH at *
      simp! only [e1, e2, hr, hvw, hx]
    refine (sqE z1).trans ?_
    have z2 : xAsg mostS (gN 2) [some (.cel 0), some (iT h), none, none, none, some (.int (sumH h)), some (.int r), none] [u1] = some (.nx [some (.cel 0), some (iT h), some (.int (mostN h)), none, none, some (.int (sumH h)), some (.int r), none] [u1]) := by
      unfold xAsg xDo
      rw [e3]
      rfl
    refine (sqE z2).trans ?_
    have z3 : xAsg (xN dTuple (aCons (xF (q1__law_great_right)) (aNil))) (gN 3) [some (.cel 0), some (iT h), some (.int (mostN h)), none, none, some (.int (sumH h)), some (.int r), none] [u1] = some (.nx [some (.cel 0), some (iT h), some (.int (mostN h)), some (chD cs), none, some (.int (sumH h)), some (.int r), none] [u2]) := by
      rw [hch]
      generalize q1__law_great_right = Q at *
      generalize cs.map rd = CR at *
      generalize iT h = H at *
      simp! only [e4]
    refine (sqE z3).trans ?_
    by_cases hle : sumH h ≤ r
    · have hd : decide (sumH h ≤ r) = true := decide_eq_true hle
      rw [if_pos hle] at e5 e6
      have e7 := mapE (mapE (choices_all u2) (sumH h).toNat (size5 s0 (by omega))) r.toNat hr5
      rw [er, show (((sumH h).toNat : Nat) : Int) = sumH h by omega] at e7
      have k1 : (chP (sumH h).toNat r.toNat).natAbs < 2 ^ 400000 := sb6 (by omega)
      have k2 : (stP h).natAbs < 2 ^ 400000 := sb6 (by omega)
      generalize chP (sumH h).toNat r.toNat = X at *
      generalize stP h = Y at *
      generalize mostN h = M at *
      generalize sumH h = SH at *
      generalize chD cs = CH at *
      generalize iT h = H at *
      simp! only [optD, e5, e6, e7, hs, hd, hd7, hx, hc, k1, k2, and_self, beq_self_eq_true]
    · have hd : decide (sumH h ≤ r) = false := decide_eq_false hle
      rw [if_neg hle] at e5 e6
      generalize mostN h = M at *
      generalize sumH h = SH at *
      generalize chD cs = CH at *
      generalize iT h = H at *
      simp! only [optD, e5, e6, hd, hd7, hx, hc, and_self, beq_self_eq_true, non_eq]
  have hd := def_retE 2 8 b__law_great_right (f := m__law_great_right) (as := [.cel 0, iT h]) rfl rfl hb rfl
  exact hd
end Sk47
end
section
set_option maxRecDepth 100000
set_option maxHeartbeats 0
set_option exponentiation.threshold 1000000
namespace Sk47
open PySem L2 Sm
/-! ### rings of one order -/
theorem cut_nat (l : List D) (j : Nat) : dSl (.tup l) none (some ((j : Nat) : Int)) = some (.tup (l.take j)) := by
  show some (D.tup (cutD l none (some ((j : Nat) : Int)))) = _
  unfold cutD
  rw [HT.sIx_nat, HT.sIx_none]
  by_cases h : j ≤ l.length
  · rw [Nat.min_eq_left h]
    simp
  · rw [Nat.min_eq_right (by omega), Nat.sub_zero, List.drop_zero, List.take_length, List.take_of_length_le (by omega)]
theorem non_is : dIs D.non D.non = some (.bl true) := rfl
theorem due_all (u : Option Ob) (a b c d : Option D) : (KS.map fun k : Nat => I3.map fun c' : Nat => I3.map fun r : Nat => q1__law_equal_right [a, b, c, some (.int (k : Int)), some (.int (c' : Int)), some (.int (r : Int)), d] [u]) = KS.map fun k : Nat => I3.map fun c' : Nat => I3.map fun r : Nat => some (.ok ((dueL k c' r).map D.int) [u]) := by kernel_rfl
theorem in3k {v : Int} (h0 : 0 ≤ v) (h1 : v < 3) : ∃ n ∈ KS, 2 + v = ((n : Nat) : Int) := by
  have : v = 0 ∨ v = 1 ∨ v = 2 := by omega
  rcases this with rfl | rfl | rfl
  · exact ⟨2, by decide, rfl⟩
  · exact ⟨3, by decide, rfl⟩
  · exact ⟨4, by decide, rfl⟩
theorem ks_or : ∀ k ∈ KS, k ∈ OR ∧ (k = 2 ∨ k = 3 ∨ k = 4) := by decide
theorem cr_le : ∀ c ∈ I3, ∀ r ∈ I3, 1 ≤ c * r ∧ c * r ≤ 9 := by decide
theorem fewest_box {u : Option Ob} {cs : Ch} {k c r : Nat} (hv : Cv cs) (hk : k ∈ KS) (hc : c ∈ I3) (hr : r ∈ I3) (ho : ∀ x ∈ cs, x.1 ≤ 18 ∧ ordN x = k) (l1 : 1 ≤ cs.length) (l2 : cs.length ≤ 12) :
    m_fewest_letters [chD cs, iT (box c r)] [u] = some (.ok (optD (getZ (itM (box c r) k cs.length) (box c r))) [u]) := by
  have hC : Okk cs := ⟨hv, l1, l2, fun x hx => by rw [(ho x hx).2]; exact (ks_or k hk).1⟩
  have hb : box c r ∈ WH := box_in c hc r hr
  have e := fewest_letters (u := u) hC hb
  rw [ringsM_one cs (fun x hx => (ho x hx).2), fold_it, itM_is] at e
  exact e
local macro_rules | `(tactic| simp! only [$ls,*] $[$l:location]?) => `(tactic| simp only [↓xDef,↓xSeq,↓xDo,↓xNext,↓xRet,↓xExp,↓xIfS,↓xAsg,↓gN,↓gT,↓gsC,↓gsN,↓xV,↓S.val,↓S.bind,↓S.opt,↓x2,↓x1,↓xN,↓xB,↓xD,↓xAnd,↓xOr,↓xNot,↓xIf,↓xAndV,↓xOrV,↓xNotV,↓xChain,↓aNil,↓aCons,↓xTup,↓few,↓xF,↓xC,↓xSetI,↓xPar,↓xCall,↓xFrz,↓xM,live,i2,dSub,dAdd,dMul,dMulA,dMod,dDiv,dLt,dLe,dGt,dGe,dIx,at10,at20,at21,at30,at31,at32,cst0,cst1,cst2,cst3,dNeg,dAbs,dInt,dLen,dMin2,dMax2,dGcd,dTuple,↓iR1,↓iR2,↓iV,items,↓iEn,items1,nocel,nocels,List.map_cons,List.map_nil,List.getElem?_cons_zero,List.getElem?_cons_succ,List.getElem?_nil,List.set_cons_zero,List.set_cons_succ,List.length_cons,List.length_nil,List.replicate,List.cons_append,List.nil_append,Nat.reduceAdd,Nat.reduceSub,Bool.false_eq_true,if_true,if_false,Option.map_some,Option.bind_some,Option.bind_none,Bool.and_true,Bool.and_false,Bool.true_and,Bool.not_true,Bool.not_false,decide_true,decide_false,vw_n,vw_b,vw_i,vw_s,vw_u,vw_l,vw_o,ie_n,ie_b,ie_i,ie_s,ie_u,ie_l,ie_c,x10,x20,x21,x30,x31,x32,fin_b,fin_i,eq_ii,ne_ii,List.take_length,vw_k,ie_k,id_eq,Nat.reduceLeDiff,↓xSl,↓xAugI,↓oE,↓oNo,↓xLs,↓xExt,↓iZp, $ls,*] $[$l]?)
theorem equal_right {u : Option Ob} {k0 : Nat} (D0 : Dc [u] 0 k0) (hk0 : k0 ≤ 700000) :
    ∃ u', m__law_equal_right [.cel 0] [u] = some (.ok (.bl true) [u']) ∧ Dc [u'] 0 (k0 + 200) := by
  obtain ⟨x, C1, e1, x0, x1, l1, D1⟩ := roll (z := 3) D0 (by omega) (by omega) (by decide)
  obtain ⟨u1, rfl⟩ := one_cell l1
  obtain ⟨y, C2, e2, y0, y1, l2, D2⟩ := roll (z := 3) D1 (by omega) (by omega) (by decide)
  obtain ⟨u2, rfl⟩ := one_cell l2
  obtain ⟨z, C3, e3, z0, z1, l3, D3⟩ := roll (z := 3) D2 (by omega) (by omega) (by decide)
  obtain ⟨u3, rfl⟩ := one_cell l3
  obtain ⟨k, hk, ek⟩ := in3k x0 x1
  obtain ⟨c, hc, ec⟩ := in3 y0 y1
  obtain ⟨r, hr, er⟩ := in3 z0 z1
  have e4 := mapE (mapE (mapE (due_all u3 (some (.cel 0)) none none none) k hk) c hc) r hr
  obtain ⟨f1, f2, f3, f4, f5⟩ := equal_fact k hk c hc r hr
  obtain ⟨hcr1, hcr9⟩ := cr_le c hc r hr
  obtain ⟨ko, k3⟩ := ks_or k hk
  obtain ⟨cs, C4, e5, hl, hv, ho, l4, D4⟩ := equal_chain9 (z := (k : Int)) (r := ((c * r : Nat) : Int)) (by omega) D3 (by omega) (by omega) (by omega)
  obtain ⟨u4, rfl⟩ := one_cell l4
  have hl' : cs.length = c * r := by rw [hl]; rfl
  have ho' : ∀ x ∈ cs, x.1 ≤ 18 ∧ ordN x = k := fun x hx => ⟨(ho x hx).1, (ho x hx).2⟩
  have e6 := fewest_box (u := u4) hv hk hc hr ho' (by omega) (by omega)
  rw [hl', f1] at e6
  have hm := mul_is hr hc
  have hch := ie_ch cs
  have hB : isErr (iT (box c r)) = false := rfl
  have hvB : ∀ C, vw C (iT (box c r)) = iT (box c r) := fun _ => rfl
  have kc : (c : Int).natAbs < 2 ^ 400000 := sb6 (by omega)
  have kr : (r : Int).natAbs < 2 ^ 400000 := sb6 (by omega)
  have hmul : ((c : Nat) : Int) * ((r : Nat) : Int) = ((c * r : Nat) : Int) := by rw [Int.natCast_mul]
  have hdM : ∀ C, vw C (.lst ((dueL k c r).map D.int)) = .lst ((dueL k c r).map D.int) := fun _ => rfl
  have box1 : x2 dMulA (xTup (aCons (xV 5) (aNil))) (xV 4) [some (.cel 0), some (.int (dueK k c r)), some (chD cs), some (.int (k : Int)), some (.int (c : Int)), some (.int (r : Int)), none] [u4] = some (.ok (iT (box c r)) [u4]) := by
    generalize iT (box c r) = B at *
    generalize chD cs = CH at *
    generalize dueK k c r = DU at *
    simp! only [] at hm
    simp! only [hm]
  refine ⟨u4, ?_, D4.mono (by omega)⟩
  have hb : b__law_equal_right ([D.cel 0].map some ++ List.replicate 6 none) [u] = some (.ret (.bl true) [u4]) := by
    show b__law_equal_right [some (.cel 0), none, none, none, none, none, none] [u] = _
    unfold b__law_equal_right
    have z1 : xAsg (xTup (aCons (x2 dAdd (S.val (.int (2))) (xCall m__law_roll (aCons (xV 0) (aCons (S.val (.int (3))) (aNil))))) (aCons (x2 dAdd (S.val (.int (1))) (xCall m__law_roll (aCons (xV 0) (aCons (S.val (.int (3))) (aNil))))) (aCons (x2 dAdd (S.val (.int (1))) (xCall m__law_roll (aCons (xV 0) (aCons (S.val (.int (3))) (aNil))))) (aNil))))) (gT (gsC (gN 3) (gsC (gN 4) (gsC (gN 5) (gsN))))) [some (.cel 0), none, none, none, none, none, none] [u] = some (.nx [some (.cel 0), none, none, some (.int (k : Int)), some (.int (c : Int)), some (.int (r : Int)), none] [u3]) := by
      simp! only [e1, e2, e3, ek, ec, er]
    refine (sqE z1).trans ?_
    have z2 : xAsg (xN dMinA (aCons (xF (q1__law_equal_right)) (aNil))) (gN 1) [some (.cel 0), none, none, some (.int (k : Int)), some (.int (c : Int)), some (.int (r : Int)), none] [u3] = some (.nx [some (.cel 0), some (.int (dueK k c r)), none, some (.int (k : Int)), some (.int (c : Int)), some (.int (r : Int)), none] [u3]) := by
      generalize q1__law_equal_right = Q at *
      generalize dueK k c r = DU at *
      generalize (dueL k c r).map D.int = L at *
      simp! only [e4, f5]
    refine (sqE z2).trans ?_
    have z3 : xAsg (xCall m__law_equal_chain (aCons (xV 0) (aCons (x2 dMulA (xV 4) (xV 5)) (aCons (xV 3) (aNil))))) (gN 2) [some (.cel 0), some (.int (dueK k c r)), none, some (.int (k : Int)), some (.int (c : Int)), some (.int (r : Int)), none] [u3] = some (.nx [some (.cel 0), some (.int (dueK k c r)), some (chD cs), some (.int (k : Int)), some (.int (c : Int)), some (.int (r : Int)), none] [u4]) := by
      generalize chD cs = CH at *
      generalize dueK k c r = DU at *
      simp! only [kc, kr, and_self, if_true, hmul, e5]
    refine (sqE z3).trans ?_
    generalize x2 dMulA (xTup (aCons (xV 5) (aNil))) (xV 4) = Q at *
    by_cases hd : dueK k c r = 1
    · rw [hd] at box1 e6 ⊢
      generalize chD cs = CH at *
      generalize iT (box c r) = B at *
      simp! only [optD, box1, e6, hch, hB, beq_self_eq_true]
    · obtain ⟨j, hj, hj2⟩ : ∃ j : Nat, dueK k c r - 1 = (j : Nat) ∧ 1 ≤ j := ⟨(dueK k c r - 1).toNat, by omega, by omega⟩
      have hjl : j ≤ c * r := by omega
      have q := f4 hd
      rw [hj, Int.toNat_natCast] at q
      have hv2 : Cv (cs.take j) := fun x hx => hv x (List.mem_of_mem_take hx)
      have ho2 : ∀ x ∈ cs.take j, x.1 ≤ 18 ∧ ordN x = k := fun x hx => ho' x (List.mem_of_mem_take hx)
      have hl2 : (cs.take j).length = j := by rw [List.length_take]; omega
      have e7 := fewest_box (u := u4) hv2 hk hc hr ho2 (by omega) (by omega)
      rw [hl2, q] at e7
      have e8 : dSl (chD cs) none (some (j : Int)) = some (chD (cs.take j)) := by
        unfold chD
        rw [cut_nat, List.map_take]
      have hch2 := ie_ch (cs.take j)
      have hne : (dueK k c r == 1) = false := beq_false_of_ne hd
      generalize chD (cs.take j) = CH2 at *
      have hvc : ∀ C, vw C (chD cs) = chD cs := fun _ => rfl
      generalize chD cs = CH at *
      generalize iT (box c r) = B at *
      generalize dueK k c r = DU at *
      simp! only [optD, box1, e6, e7, e8, hch, hch2, hB, hj, hne, hvc, non_is, beq_self_eq_true]
  have hd := def_retE 1 7 b__law_equal_right (f := m__law_equal_right) (as := [.cel 0]) rfl rfl hb rfl
  exact hd
end Sk47
end
section
set_option maxRecDepth 100000
set_option maxHeartbeats 0
set_option exponentiation.threshold 1000000
namespace Sk47
open PySem L2 Sm
/-! ### the law -/
theorem ord6 : ∀ a ∈ ([2, 3, 4, 5, 6] : List Int), ∀ s ∈ ([1, 2, 3, 4, 5] : List Int), s < a → ordN (a, s) ∈ OR := by decide +kernel
theorem ord_or {cs : Ch} (h : Cv cs) (h6 : ∀ c ∈ cs, c.1 ≤ 6) : ∀ c ∈ cs, ordN c ∈ OR := fun c hc => by
  obtain ⟨h1, h2, h3, h4⟩ := h c hc
  have h5 := h6 c hc
  obtain ⟨a, s⟩ := c
  exact ord6 a (by simp only [List.mem_cons, List.not_mem_nil, or_false]; omega) s (by simp only [List.mem_cons, List.not_mem_nil, or_false]; omega) h4
theorem ne_non : dNe D.non D.non = some (.bl false) := by kernel_rfl
local macro_rules | `(tactic| simp! only [$ls,*] $[$l:location]?) => `(tactic| simp only [↓xDef,↓xSeq,↓xDo,↓xNext,↓xRet,↓xExp,↓xIfS,↓xAsg,↓gN,↓gT,↓gsC,↓gsN,↓xV,↓S.val,↓S.bind,↓S.opt,↓x2,↓x1,↓xN,↓xB,↓xD,↓xAnd,↓xOr,↓xNot,↓xIf,↓xAndV,↓xOrV,↓xNotV,↓xChain,↓aNil,↓aCons,↓xTup,↓few,↓xF,↓xC,↓xSetI,↓xPar,↓xCall,↓xFrz,↓xM,live,i2,dSub,dAdd,dMul,dMulA,dMod,dDiv,dLt,dLe,dGt,dGe,dIx,at10,at20,at21,at30,at31,at32,cst0,cst1,cst2,cst3,dNeg,dAbs,dInt,dLen,dMin2,dMax2,dGcd,dTuple,↓iR1,↓iR2,↓iV,items,↓iEn,items1,nocel,nocels,List.map_cons,List.map_nil,List.getElem?_cons_zero,List.getElem?_cons_succ,List.getElem?_nil,List.set_cons_zero,List.set_cons_succ,List.length_cons,List.length_nil,List.replicate,List.cons_append,List.nil_append,Nat.reduceAdd,Nat.reduceSub,Bool.false_eq_true,if_true,if_false,Option.map_some,Option.bind_some,Option.bind_none,Bool.and_true,Bool.and_false,Bool.true_and,Bool.not_true,Bool.not_false,decide_true,decide_false,vw_n,vw_b,vw_i,vw_s,vw_u,vw_l,vw_o,ie_n,ie_b,ie_i,ie_s,ie_u,ie_l,ie_c,x10,x20,x21,x30,x31,x32,fin_b,fin_i,eq_ii,ne_ii,List.take_length,vw_k,ie_k,id_eq,Nat.reduceLeDiff,↓xSl,↓xAugI,↓oE,↓oNo,↓xLs,↓xExt,↓iZp, $ls,*] $[$l]?)
theorem ne_opt (x : Option Int) : dNe (optD x) (optD x) = some (.bl false) := by
  cases x with
  | none => exact ne_non
  | some v =>
    show dNe (.int v) (.int v) = _
    simp! only []
    simp
theorem opt_ie (x : Option Int) : isErr (optD x) = false := by cases x <;> rfl
theorem opt_vw (x : Option Int) (C : Cells) : vw C (optD x) = optD x := by cases x <;> rfl
theorem turn {ns : List Int} {I : Int} (h0 : 0 ≤ I) (h1 : I ≤ 6) (t2 t3 t4 t5 t6 : Option D) : ∃ u2 u3 u4 u5 u6 C', q1_law [some (.lst (ns.map D.int)), some (.int I), t2, t3, t4, t5, t6] [] = some (.nx [some (.lst (ns.map D.int)), some (.int I), u2, u3, u4, u5, u6] C') := by
  obtain ⟨l, m, e1, l0, m0, m1⟩ := dice (ns := ns) [] h0 h1
  obtain ⟨u, hu⟩ : ∃ u : Option Ob, some (.l [.int l, .int m, .int 0]) = u := ⟨_, rfl⟩
  have e1 : m__law_dice [.lst (ns.map D.int), .int I] [] = some (.ok (.cel 0) [u]) := by rw [← hu]; exact e1
  have D0 : Dc [u] 0 0 := ⟨l, m, 0, by rw [← hu]; rfl, l0, m0, m1, by decide, by decide⟩
  obtain ⟨v, C1, e2, v0, v1, l1, D1⟩ := roll (z := 5) D0 (by omega) (by omega) (by decide)
  obtain ⟨u1, rfl⟩ := one_cell l1
  obtain ⟨cs, C2, e3, hl, hv, hm, l2, D2⟩ := chain_of (r := 1 + v) (mo := 6) D1 (by omega) (by omega) (by omega) (by decide) (by decide)
  obtain ⟨u2, rfl⟩ := one_cell l2
  obtain ⟨h, u3, e4, hh, D3⟩ := whole_drawn D2 (by omega)
  have hC : Okk cs := ⟨hv, by omega, by omega, ord_or hv hm⟩
  have h00 := wh_nil h hh
  have e5 := table_in (u := u3) hC.okc hh h00 (by omega)
  have e6 := fillings_count (u := u3) hC hh
  have e7 := fewest_letters (u := u3) hC hh
  obtain ⟨t1, t2'⟩ := table_same hh h00 cs hC.o (by omega)
  obtain ⟨u4, e8, D4⟩ := great_right hh D3 (by omega)
  obtain ⟨u5, e9, D5⟩ := equal_right D4 (by omega)
  obtain ⟨G, hG⟩ : ∃ G, getZ (ringsL h cs [([], (1, 0))]) h = G := ⟨_, rfl⟩
  rw [hG] at t1 t2'
  rw [t1] at e6
  rw [t2'] at e7
  have hx : isErr (iT h) = false := rfl
  have hc := ie_ch cs
  have hn : ∀ C, vw C (iT h) = iT h := fun _ => rfl
  have hne := ne_opt (G.map (·.2))
  have hie := opt_ie (G.map (·.2))
  have hvo := opt_vw (G.map (·.2))
  have z3 : xAsg (xDGet2 (xCall m__law_table (aCons (xV 3) (aCons (xV 4) (aNil)))) (xV 4) (xTup (aCons (S.val (.int (0))) (aCons (S.val .non) (aNil))))) (gT (gsC (gN 5) (gsC (gN 6) (gsN)))) [some (.lst (ns.map D.int)), some (.int I), some (.cel 0), some (chD cs), some (iT h), t5, t6] [u3] = some (.nx [some (.lst (ns.map D.int)), some (.int I), some (.cel 0), some (chD cs), some (iT h), some (.int ((G.map (·.1)).getD 0)), some (optD (G.map (·.2)))] [u3]) := by
    have a := get2_z (en := enP) (so := xCall m__law_table (aCons (xV 3) (aCons (xV 4) (aNil)))) (si := xV 4) (sz := xTup (aCons (S.val (.int (0))) (aCons (S.val .non) (aNil)))) (e := [some (.lst (ns.map D.int)), some (.int I), some (.cel 0), some (chD cs), some (iT h), t5, t6]) (C := [u3]) (g := ringsL h cs [([], (1, 0))]) (p := h) (d := zD enP (ringsL h cs [([], (1, 0))])) (z := .tup [.int 0, .non]) (by
        generalize chD cs = CH at *
        generalize iT h = H at *
        generalize ns.map D.int = LL at *
        simp! only [e5, hc, hx]) rfl rfl rfl
    unfold xAsg xDo
    rw [a, hG]
    cases G with
    | none => rfl
    | some p => rfl
  refine ⟨_, _, _, _, _, [u5], (?_ : q1_law _ _ = some (.nx [some (.lst (ns.map D.int)), some (.int I), some (.cel 0), some (chD cs), some (iT h), some (.int ((G.map (·.1)).getD 0)), some (optD (G.map (·.2)))] [u5]))⟩
  unfold q1_law
  have z1 : xAsg (xCall m__law_dice (aCons (xV 0) (aCons (xV 1) (aNil)))) (gN 2) [some (.lst (ns.map D.int)), some (.int I), t2, t3, t4, t5, t6] [] = some (.nx [some (.lst (ns.map D.int)), some (.int I), some (.cel 0), t3, t4, t5, t6] [u]) := by
    generalize ns.map D.int = LL at *
    simp! only [e1]
  have z2 : xPar 3 4 (aCons (xCall m__law_chain (aCons (xV 2) (aCons (x2 dAdd (S.val (.int (1))) (xCall m__law_roll (aCons (xV 2) (aCons (S.val (.int (5))) (aNil))))) (aCons (S.val (.int (6))) (aNil))))) (aCons (xCall m__law_whole (aCons (xV 2) (aNil))) (aNil))) [some (.lst (ns.map D.int)), some (.int I), some (.cel 0), t3, t4, t5, t6] [u] = some (.nx [some (.lst (ns.map D.int)), some (.int I), some (.cel 0), some (chD cs), some (iT h), t5, t6] [u3]) := by
    generalize ns.map D.int = LL at *
    generalize chD cs = CH at *
    generalize iT h = H at *
    simp! only [e2, e3, e4, hc, hx]
  refine (sqE z1).trans ((sqE z2).trans ((sqE z3).trans ?_))
  generalize ns.map D.int = LL at *
  generalize chD cs = CH at *
  generalize iT h = H at *
  generalize (G.map (·.1)).getD 0 = W at *
  generalize optD (G.map (·.2)) = O at *
  simp! only [e6, e7, e8, e9, hc, hx, hne, hie, hvo, beq_self_eq_true, Bool.not_true]
theorem nc_scr (ns : List Int) : nocel (.lst (ns.map D.int)) = true := by
  induction ns with
  | nil => rfl
  | cons x l ih => exact ih
theorem law_true : ∀ ns : List Int, ns.length ≤ 63 → m_law [.lst (ns.map D.int)] [] = some (.ok (.bl true) []) := by
  intro ns _
  obtain ⟨la, hla⟩ : ∃ x : Int, ((ns.map D.int).length : Int) = x := ⟨_, rfl⟩
  obtain ⟨u, hu⟩ : ∃ x : Int, (if la < 3 then la else 3) = x := ⟨_, rfl⟩
  obtain ⟨u', hu'⟩ : ∃ x : Int, (if (3 : Int) < la then 3 else la) = x := ⟨_, rfl⟩
  have huu : u' = u := by
    split at hu <;> split at hu' <;> omega
  obtain ⟨z, hz⟩ : ∃ x : Int, (if u > 1 then u else 1) = x := ⟨_, rfl⟩
  have hz0 : 0 ≤ z ∧ z ≤ 6 := by
    have : 0 ≤ la := by omega
    split at hu <;> split at hz <;> omega
  have hscr : Sm.cutV 0 (some (.lst (ns.map D.int))) = some (.lst (ns.map D.int)) := cutV_nc (nc_scr ns)
  obtain ⟨e2, C2, hq, rfl, t1, t2, t3, t4, t5, t6, rfl⟩ : ∃ e2 C2, q2_law [some (.lst (ns.map D.int)), none, none, none, none, none, none] [] = some (.nx e2 C2) ∧ C2 = [] ∧ ∃ t1 t2 t3 t4 t5 t6 : Option D, e2 = [some (.lst (ns.map D.int)), t1, t2, t3, t4, t5, t6] := by
    unfold q2_law
    have hit : ∀ e, iR1 (aCons (xN dMax2 (aCons (S.val (.int (1))) (aCons (xN dMin2 (aCons (S.val (.int (3))) (aCons (xN dLen (aCons (xV 0) (aNil))) (aNil)))) (aNil)))) (aNil)) (some (.lst (ns.map D.int)) :: e) [] = some (.ok ((List.range z.toNat).map (fun i : Nat => D.int (i : Int)), gd0) []) := by
      intro e
      have hr := rng1_ok hz0.1 (show z ≤ 1000000 by omega)
      have hz' : zs 0 z.toNat = (List.range z.toNat).map (fun i : Nat => D.int (i : Int)) := by
        unfold zs
        simp
      rw [hz'] at hr
      subst huu
      generalize ns.map D.int = LL at hla ⊢
      simp only [↓xDef, ↓xSeq, ↓xDo, ↓xNext, ↓xRet, ↓xExp, ↓xIfS, ↓xAsg, ↓gN, ↓gT, ↓gsC, ↓gsN, ↓xV, ↓S.val, ↓S.bind, ↓S.opt, ↓x2, ↓x1, ↓xN, ↓xB, ↓xD, ↓xAnd, ↓xOr, ↓xNot, ↓xIf, ↓xAndV, ↓xOrV, ↓xNotV, ↓xChain, ↓aNil, ↓aCons, ↓xTup, ↓few, ↓xF, ↓xC, ↓xSetI, ↓xPar, ↓xCall, ↓xFrz, ↓xM, live, i2, dSub, dAdd, dMul, dMulA, dMod, dDiv, dLt, dLe, dGt, dGe, dIx, atI, dNeg, dAbs, dInt, dLen, dMin2, dMax2, dGcd, dTuple, ↓iR1, ↓iR2, ↓iV, items, ↓iEn, items1, nocel, nocels, List.map_cons, List.map_nil, List.getElem?_cons_zero, List.getElem?_cons_succ, List.getElem?_nil, List.set_cons_zero, List.set_cons_succ, List.length_cons, List.length_nil, List.replicate, List.cons_append, List.nil_append, Nat.reduceAdd, Nat.reduceSub, Bool.false_eq_true, if_true, if_false, Option.map_some, Option.bind_some, Option.bind_none, Bool.and_true, Bool.and_false, Bool.true_and, Bool.not_true, Bool.not_false, decide_true, decide_false, vw_n, vw_b, vw_i, vw_s, vw_u, vw_l, vw_o, ie_n, ie_b, ie_i, ie_s, ie_u, ie_l, ie_c, x10, x20, x21, x30, x31, x32, fin_b, fin_i, eq_ii, ne_ii, List.take_length, vw_k, ie_k, id_eq, Nat.reduceLeDiff, ↓xSl, ↓xAugI, ↓oE, ↓oNo, ↓xLs, ↓xExt, ↓iZp, hla, hu, hu', hz, hr]
    obtain ⟨e2, C2, h1, h2, h3⟩ := forC_fold (i := 1) (b := q1_law) (env := [some (.lst (ns.map D.int)), none, none, none, none, none, none]) (C := []) (C1 := []) (fun i : Nat => D.int (i : Int)) (fun (s : Unit) _ => s) (fun _ e C => C = [] ∧ ∃ t1 t2 t3 t4 t5 t6 : Option D, e = [some (.lst (ns.map D.int)), t1, t2, t3, t4, t5, t6]) (List.range z.toNat) () (hit _) (fun _ _ => rfl) ⟨rfl, none, none, none, none, none, none, by
      show [Sm.cutV 0 (some (.lst (ns.map D.int))), none, none, none, none, none, none] = _
      rw [hscr]⟩ (by
      rintro i hi _ e C ⟨rfl, t1, t2, t3, t4, t5, t6, rfl⟩
      have hi' := List.mem_range.mp hi
      obtain ⟨u2, u3, u4, u5, u6, C', h⟩ := turn (ns := ns) (I := (i : Int)) (by omega) (by omega) t2 t3 t4 t5 t6
      refine ⟨_, C', h, rfl, Sm.cutV 0 (some (.int (i : Int))), Sm.cutV 0 u2, Sm.cutV 0 u3, Sm.cutV 0 u4, Sm.cutV 0 u5, Sm.cutV 0 u6, ?_⟩
      show [Sm.cutV 0 (some (.lst (ns.map D.int))), _, _, _, _, _, _] = _
      rw [hscr]
      rfl)
    exact ⟨e2, C2, h1, h2, h3⟩
  generalize ns.map D.int = LL at hq ⊢
  refine def_retE (n := 1) (m := 7) (b := b_law) (as := [.lst LL]) (C' := []) rfl rfl ?_ rfl
  show b_law [some (.lst LL), none, none, none, none, none, none] [] = _
  unfold b_law
  rw [sqE hq]
  kernel_rfl
end Sk47
end
section
set_option maxRecDepth 100000
open PySem PySem.W PyProof.Rows
set_option maxRecDepth 100000 in
set_option maxHeartbeats 0 in
theorem PySem.Challenge.cw_ringstairs_k47_whole_fillings_counted_holds : PySem.Challenge.rw_ringstairs_k47_whole_fillings_counted.Holds := by
  w_on; o_law; k_head; (case hw => w_witness2)
  k_fill
  refine Sm.walk_G (l := PySem.Challenge.rw_ringstairs_k47_whole_fillings_counted) (n := 63) (k := 9) (x := "_law_script") rfl (by decide) rfl ⟨rfl, by decide, by decide⟩ (fun w h Y => by first | exact PySem.W.kIn_of Y | exact PySem.W.km_in_of Y) ?F
  case F =>
    intro w mg fa h KX G hmg tabf
    refine' Sk47.all_mk KX G hmg tabf ?a_order_in ?l_order_in ?d_order_in ?e_order_in ?a_with_columns ?l_with_columns ?d_with_columns ?e_with_columns ?a_addable_columns ?l_addable_columns ?d_addable_columns ?e_addable_columns ?a_free_columns ?l_free_columns ?d_free_columns ?e_free_columns ?a_let_columns ?l_let_columns ?d_let_columns ?e_let_columns ?a_fewest_letters_in ?l_fewest_letters_in ?d_fewest_letters_in ?e_fewest_letters_in ?a_is_whole ?l_is_whole ?d_is_whole ?e_is_whole ?a_is_within ?l_is_within ?d_is_within ?e_is_within ?a_is_ring_in ?l_is_ring_in ?d_is_ring_in ?e_is_ring_in ?a_is_chain_in ?l_is_chain_in ?d_is_chain_in ?e_is_chain_in ?a_require_chain ?l_require_chain ?d_require_chain ?e_require_chain ?a_is_heap_in ?l_is_heap_in ?d_is_heap_in ?e_is_heap_in ?a_require_heap ?l_require_heap ?d_require_heap ?e_require_heap ?a_require_filled ?l_require_filled ?d_require_filled ?e_require_filled ?a_fewest_letters ?l_fewest_letters ?d_fewest_letters ?e_fewest_letters ?a_some_columns ?l_some_columns ?d_some_columns ?e_some_columns ?a_fillings_count_in ?l_fillings_count_in ?d_fillings_count_in ?e_fillings_count_in ?a_fillings_count ?l_fillings_count ?d_fillings_count ?e_fillings_count ?a__law_dice ?l__law_dice ?d__law_dice ?e__law_dice ?a__law_roll ?l__law_roll ?d__law_roll ?e__law_roll ?a__law_ring ?l__law_ring ?d__law_ring ?e__law_ring ?a__law_one_of ?l__law_one_of ?d__law_one_of ?e__law_one_of ?a__law_common ?l__law_common ?d__law_common ?e__law_common ?a__law_ring_of ?l__law_ring_of ?d__law_ring_of ?e__law_ring_of ?a__law_chain ?l__law_chain ?d__law_chain ?e__law_chain ?a__law_whole ?l__law_whole ?d__law_whole ?e__law_whole ?a__law_order ?l__law_order ?d__law_order ?e__law_order ?a__law_raised ?l__law_raised ?d__law_raised ?e__law_raised ?a__law_rises ?l__law_rises ?d__law_rises ?e__law_rises ?a__law_groups ?l__law_groups ?d__law_groups ?e__law_groups ?a__law_subsets ?l__law_subsets ?d__law_subsets ?e__law_subsets ?a__law_table ?l__law_table ?d__law_table ?e__law_table ?a_hook_product ?l_hook_product ?d_hook_product ?e_hook_product ?a_standard_count ?l_standard_count ?d_standard_count ?e_standard_count ?a_standard_fillings ?l_standard_fillings ?d_standard_fillings ?e_standard_fillings ?a__law_choices_of ?l__law_choices_of ?d__law_choices_of ?e__law_choices_of ?a__law_great_right ?l__law_great_right ?d__law_great_right ?e__law_great_right ?a__law_equal_chain ?l__law_equal_chain ?d__law_equal_chain ?e__law_equal_chain ?a__law_equal_right ?l__law_equal_right ?d__law_equal_right ?e__law_equal_right ?a_law ?l_law ?d_law ?e_law ?z_abs ?z_all ?z_bool ?z_dict ?z_enumerate ?z_int ?z_isinstance ?z_len ?z_list ?z_max ?z_min ?z_range ?z_sorted ?z_sum ?z_tuple ?z_zip ?z_MAX_KEPT ?z_MAX_SQUARES ?z_MOST_HOOKED ?z_MOST_PLACES ?z_MOST_RINGS ?z_MOST_SIDE ?z_fac ?z_gcd Sk47.law_true
    (case a_order_in => first | k_is | rfl | decide | kernel_rfl)
    (case l_order_in => first | k_is | rfl | decide | kernel_rfl)
    (case d_order_in => first | k_is | rfl | decide | kernel_rfl)
    (case e_order_in => first | k_is | rfl | decide | kernel_rfl)
    (case a_with_columns => first | k_is | rfl | decide | kernel_rfl)
    (case l_with_columns => first | k_is | rfl | decide | kernel_rfl)
    (case d_with_columns => first | k_is | rfl | decide | kernel_rfl)
    (case e_with_columns => first | k_is | rfl | decide | kernel_rfl)
    (case a_addable_columns => first | k_is | rfl | decide | kernel_rfl)
    (case l_addable_columns => first | k_is | rfl | decide | kernel_rfl)
    (case d_addable_columns => first | k_is | rfl | decide | kernel_rfl)
    (case e_addable_columns => first | k_is | rfl | decide | kernel_rfl)
    (case a_free_columns => first | k_is | rfl | decide | kernel_rfl)
    (case l_free_columns => first | k_is | rfl | decide | kernel_rfl)
    (case d_free_columns => first | k_is | rfl | decide | kernel_rfl)
    (case e_free_columns => first | k_is | rfl | decide | kernel_rfl)
    (case a_let_columns => first | k_is | rfl | decide | kernel_rfl)
    (case l_let_columns => first | k_is | rfl | decide | kernel_rfl)
    (case d_let_columns => first | k_is | rfl | decide | kernel_rfl)
    (case e_let_columns => first | k_is | rfl | decide | kernel_rfl)
    (case a_fewest_letters_in => first | k_is | rfl | decide | kernel_rfl)
    (case l_fewest_letters_in => first | k_is | rfl | decide | kernel_rfl)
    (case d_fewest_letters_in => first | k_is | rfl | decide | kernel_rfl)
    (case e_fewest_letters_in => first | k_is | rfl | decide | kernel_rfl)
    (case a_is_whole => first | k_is | rfl | decide | kernel_rfl)
    (case l_is_whole => first | k_is | rfl | decide | kernel_rfl)
    (case d_is_whole => first | k_is | rfl | decide | kernel_rfl)
    (case e_is_whole => first | k_is | rfl | decide | kernel_rfl)
    (case a_is_within => first | k_is | rfl | decide | kernel_rfl)
    (case l_is_within => first | k_is | rfl | decide | kernel_rfl)
    (case d_is_within => first | k_is | rfl | decide | kernel_rfl)
    (case e_is_within => first | k_is | rfl | decide | kernel_rfl)
    (case a_is_ring_in => first | k_is | rfl | decide | kernel_rfl)
    (case l_is_ring_in => first | k_is | rfl | decide | kernel_rfl)
    (case d_is_ring_in => first | k_is | rfl | decide | kernel_rfl)
    (case e_is_ring_in => first | k_is | rfl | decide | kernel_rfl)
    (case a_is_chain_in => first | k_is | rfl | decide | kernel_rfl)
    (case l_is_chain_in => first | k_is | rfl | decide | kernel_rfl)
    (case d_is_chain_in => first | k_is | rfl | decide | kernel_rfl)
    (case e_is_chain_in => first | k_is | rfl | decide | kernel_rfl)
    (case a_require_chain => first | k_is | rfl | decide | kernel_rfl)
    (case l_require_chain => first | k_is | rfl | decide | kernel_rfl)
    (case d_require_chain => first | k_is | rfl | decide | kernel_rfl)
    (case e_require_chain => first | k_is | rfl | decide | kernel_rfl)
    (case a_is_heap_in => first | k_is | rfl | decide | kernel_rfl)
    (case l_is_heap_in => first | k_is | rfl | decide | kernel_rfl)
    (case d_is_heap_in => first | k_is | rfl | decide | kernel_rfl)
    (case e_is_heap_in => first | k_is | rfl | decide | kernel_rfl)
    (case a_require_heap => first | k_is | rfl | decide | kernel_rfl)
    (case l_require_heap => first | k_is | rfl | decide | kernel_rfl)
    (case d_require_heap => first | k_is | rfl | decide | kernel_rfl)
    (case e_require_heap => first | k_is | rfl | decide | kernel_rfl)
    (case a_require_filled => first | k_is | rfl | decide | kernel_rfl)
    (case l_require_filled => first | k_is | rfl | decide | kernel_rfl)
    (case d_require_filled => first | k_is | rfl | decide | kernel_rfl)
    (case e_require_filled => first | k_is | rfl | decide | kernel_rfl)
    (case a_fewest_letters => first | k_is | rfl | decide | kernel_rfl)
    (case l_fewest_letters => first | k_is | rfl | decide | kernel_rfl)
    (case d_fewest_letters => first | k_is | rfl | decide | kernel_rfl)
    (case e_fewest_letters => first | k_is | rfl | decide | kernel_rfl)
    (case a_some_columns => first | k_is | rfl | decide | kernel_rfl)
    (case l_some_columns => first | k_is | rfl | decide | kernel_rfl)
    (case d_some_columns => first | k_is | rfl | decide | kernel_rfl)
    (case e_some_columns => first | k_is | rfl | decide | kernel_rfl)
    (case a_fillings_count_in => first | k_is | rfl | decide | kernel_rfl)
    (case l_fillings_count_in => first | k_is | rfl | decide | kernel_rfl)
    (case d_fillings_count_in => first | k_is | rfl | decide | kernel_rfl)
    (case e_fillings_count_in => first | k_is | rfl | decide | kernel_rfl)
    (case a_fillings_count => first | k_is | rfl | decide | kernel_rfl)
    (case l_fillings_count => first | k_is | rfl | decide | kernel_rfl)
    (case d_fillings_count => first | k_is | rfl | decide | kernel_rfl)
    (case e_fillings_count => first | k_is | rfl | decide | kernel_rfl)
    (case a__law_dice => first | k_is | rfl | decide | kernel_rfl)
    (case l__law_dice => first | k_is | rfl | decide | kernel_rfl)
    (case d__law_dice => first | k_is | rfl | decide | kernel_rfl)
    (case e__law_dice => first | k_is | rfl | decide | kernel_rfl)
    (case a__law_roll => first | k_is | rfl | decide | kernel_rfl)
    (case l__law_roll => first | k_is | rfl | decide | kernel_rfl)
    (case d__law_roll => first | k_is | rfl | decide | kernel_rfl)
    (case e__law_roll => first | k_is | rfl | decide | kernel_rfl)
    (case a__law_ring => first | k_is | rfl | decide | kernel_rfl)
    (case l__law_ring => first | k_is | rfl | decide | kernel_rfl)
    (case d__law_ring => first | k_is | rfl | decide | kernel_rfl)
    (case e__law_ring => first | k_is | rfl | decide | kernel_rfl)
    (case a__law_one_of => first | k_is | rfl | decide | kernel_rfl)
    (case l__law_one_of => first | k_is | rfl | decide | kernel_rfl)
    (case d__law_one_of => first | k_is | rfl | decide | kernel_rfl)
    (case e__law_one_of => first | k_is | rfl | decide | kernel_rfl)
    (case a__law_common => first | k_is | rfl | decide | kernel_rfl)
    (case l__law_common => first | k_is | rfl | decide | kernel_rfl)
    (case d__law_common => first | k_is | rfl | decide | kernel_rfl)
    (case e__law_common => first | k_is | rfl | decide | kernel_rfl)
    (case a__law_ring_of => first | k_is | rfl | decide | kernel_rfl)
    (case l__law_ring_of => first | k_is | rfl | decide | kernel_rfl)
    (case d__law_ring_of => first | k_is | rfl | decide | kernel_rfl)
    (case e__law_ring_of => first | k_is | rfl | decide | kernel_rfl)
    (case a__law_chain => first | k_is | rfl | decide | kernel_rfl)
    (case l__law_chain => first | k_is | rfl | decide | kernel_rfl)
    (case d__law_chain => first | k_is | rfl | decide | kernel_rfl)
    (case e__law_chain => first | k_is | rfl | decide | kernel_rfl)
    (case a__law_whole => first | k_is | rfl | decide | kernel_rfl)
    (case l__law_whole => first | k_is | rfl | decide | kernel_rfl)
    (case d__law_whole => first | k_is | rfl | decide | kernel_rfl)
    (case e__law_whole => first | k_is | rfl | decide | kernel_rfl)
    (case a__law_order => first | k_is | rfl | decide | kernel_rfl)
    (case l__law_order => first | k_is | rfl | decide | kernel_rfl)
    (case d__law_order => first | k_is | rfl | decide | kernel_rfl)
    (case e__law_order => first | k_is | rfl | decide | kernel_rfl)
    (case a__law_raised => first | k_is | rfl | decide | kernel_rfl)
    (case l__law_raised => first | k_is | rfl | decide | kernel_rfl)
    (case d__law_raised => first | k_is | rfl | decide | kernel_rfl)
    (case e__law_raised => first | k_is | rfl | decide | kernel_rfl)
    (case a__law_rises => first | k_is | rfl | decide | kernel_rfl)
    (case l__law_rises => first | k_is | rfl | decide | kernel_rfl)
    (case d__law_rises => first | k_is | rfl | decide | kernel_rfl)
    (case e__law_rises => first | k_is | rfl | decide | kernel_rfl)
    (case a__law_groups => first | k_is | rfl | decide | kernel_rfl)
    (case l__law_groups => first | k_is | rfl | decide | kernel_rfl)
    (case d__law_groups => first | k_is | rfl | decide | kernel_rfl)
    (case e__law_groups => first | k_is | rfl | decide | kernel_rfl)
    (case a__law_subsets => first | k_is | rfl | decide | kernel_rfl)
    (case l__law_subsets => first | k_is | rfl | decide | kernel_rfl)
    (case d__law_subsets => first | k_is | rfl | decide | kernel_rfl)
    (case e__law_subsets => first | k_is | rfl | decide | kernel_rfl)
    (case a__law_table => first | k_is | rfl | decide | kernel_rfl)
    (case l__law_table => first | k_is | rfl | decide | kernel_rfl)
    (case d__law_table => first | k_is | rfl | decide | kernel_rfl)
    (case e__law_table => first | k_is | rfl | decide | kernel_rfl)
    (case a_hook_product => first | k_is | rfl | decide | kernel_rfl)
    (case l_hook_product => first | k_is | rfl | decide | kernel_rfl)
    (case d_hook_product => first | k_is | rfl | decide | kernel_rfl)
    (case e_hook_product => first | k_is | rfl | decide | kernel_rfl)
    (case a_standard_count => first | k_is | rfl | decide | kernel_rfl)
    (case l_standard_count => first | k_is | rfl | decide | kernel_rfl)
    (case d_standard_count => first | k_is | rfl | decide | kernel_rfl)
    (case e_standard_count => first | k_is | rfl | decide | kernel_rfl)
    (case a_standard_fillings => first | k_is | rfl | decide | kernel_rfl)
    (case l_standard_fillings => first | k_is | rfl | decide | kernel_rfl)
    (case d_standard_fillings => first | k_is | rfl | decide | kernel_rfl)
    (case e_standard_fillings => first | k_is | rfl | decide | kernel_rfl)
    (case a__law_choices_of => first | k_is | rfl | decide | kernel_rfl)
    (case l__law_choices_of => first | k_is | rfl | decide | kernel_rfl)
    (case d__law_choices_of => first | k_is | rfl | decide | kernel_rfl)
    (case e__law_choices_of => first | k_is | rfl | decide | kernel_rfl)
    (case a__law_great_right => first | k_is | rfl | decide | kernel_rfl)
    (case l__law_great_right => first | k_is | rfl | decide | kernel_rfl)
    (case d__law_great_right => first | k_is | rfl | decide | kernel_rfl)
    (case e__law_great_right => first | k_is | rfl | decide | kernel_rfl)
    (case a__law_equal_chain => first | k_is | rfl | decide | kernel_rfl)
    (case l__law_equal_chain => first | k_is | rfl | decide | kernel_rfl)
    (case d__law_equal_chain => first | k_is | rfl | decide | kernel_rfl)
    (case e__law_equal_chain => first | k_is | rfl | decide | kernel_rfl)
    (case a__law_equal_right => first | k_is | rfl | decide | kernel_rfl)
    (case l__law_equal_right => first | k_is | rfl | decide | kernel_rfl)
    (case d__law_equal_right => first | k_is | rfl | decide | kernel_rfl)
    (case e__law_equal_right => first | k_is | rfl | decide | kernel_rfl)
    (case a_law => first | k_is | rfl | decide | kernel_rfl)
    (case l_law => first | k_is | rfl | decide | kernel_rfl)
    (case d_law => first | k_is | rfl | decide | kernel_rfl)
    (case e_law => first | k_is | rfl | decide | kernel_rfl)
    (case z_abs => first | k_is | rfl | decide | kernel_rfl)
    (case z_all => first | k_is | rfl | decide | kernel_rfl)
    (case z_bool => first | k_is | rfl | decide | kernel_rfl)
    (case z_dict => first | k_is | rfl | decide | kernel_rfl)
    (case z_enumerate => first | k_is | rfl | decide | kernel_rfl)
    (case z_int => first | k_is | rfl | decide | kernel_rfl)
    (case z_isinstance => first | k_is | rfl | decide | kernel_rfl)
    (case z_len => first | k_is | rfl | decide | kernel_rfl)
    (case z_list => first | k_is | rfl | decide | kernel_rfl)
    (case z_max => first | k_is | rfl | decide | kernel_rfl)
    (case z_min => first | k_is | rfl | decide | kernel_rfl)
    (case z_range => first | k_is | rfl | decide | kernel_rfl)
    (case z_sorted => first | k_is | rfl | decide | kernel_rfl)
    (case z_sum => first | k_is | rfl | decide | kernel_rfl)
    (case z_tuple => first | k_is | rfl | decide | kernel_rfl)
    (case z_zip => first | k_is | rfl | decide | kernel_rfl)
    (case z_MAX_KEPT => first | k_is | rfl | decide | kernel_rfl)
    (case z_MAX_SQUARES => first | k_is | rfl | decide | kernel_rfl)
    (case z_MOST_HOOKED => first | k_is | rfl | decide | kernel_rfl)
    (case z_MOST_PLACES => first | k_is | rfl | decide | kernel_rfl)
    (case z_MOST_RINGS => first | k_is | rfl | decide | kernel_rfl)
    (case z_MOST_SIDE => first | k_is | rfl | decide | kernel_rfl)
    (case z_fac => first | k_is | rfl | decide | kernel_rfl)
    (case z_gcd => first | k_is | rfl | decide | kernel_rfl)
end
