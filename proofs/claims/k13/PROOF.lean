import PyProof.Rows.All
import Wide.All
import OpenK.AllK
import Wide.FinOn
import HandS.ForMost
import HandS.Exc
import HandS.TryOnly
import HandS.ExcOwn
import HandS.WordsExc
import HandS.EndBits
import HandS.Wide
import HandS.Set
import HandS.SetFor
import HandS.Strs
import PyProof.StrWalks
import PyProof.WalksMore
import HandS.More
import KE.KDictList
import KE.KDictSum
import PyProof.Rows.SortShellAny
import HandS.TupAny
import HandS.DeepEq
import PyProof.ListStr
import HandS.DictComp
import HandS.IsInst
import KE.GoesMore
import PyProof.EnumMake
import HandS.Rev
import HandS.TupLe
import HandS.WideBits
import PyProof.CollectStr
import KE.GoesEnum
import HandS.New
import HandS.StrMore
import HandS.ListItems
import HandS.Conv
import KE.KDictZip
import HandS.Replace
import HandS.Style
import HandS.SortRule
import PySem.Challenge.RW_fillsay_k13_letters_and_worth
set_option Elab.async false
set_option linter.all false
set_option maxRecDepth 100000
/-! DL1: data without addresses (D), what represents it in a heap (Rep), slots (S), the relation of a frame's slots with data (Rel). -/
namespace DL
open PySem L2

inductive D where
  | non | bl (b : Bool) | int (i : Int) | str (x : Str) | ref (a : Addr) | ty (n : String)
  | cel (ns : List Int) | lst (xs : List D) | tup (xs : List D) | dic (ks : List Key) (xs : List D) | ins (N : Str) (ns : List Str) (xs : List D)

mutual
def Rep (K : PySem.W.Frag) (F : Hp) : D → V → Prop
  | .non, v => v = .non
  | .bl b, v => v = .bl b
  | .int i, v => v = .int i
  | .str x, v => v = .str x
  | .ref a, v => v = .ref a
  | .ty n, v => v = .ty n
  | .cel ns, v => ∃ a, v = .ref a ∧ SqL K F a (ns.map V.int)
  | .lst xs, v => ∃ a vs, v = .ref a ∧ F a = some (.lst vs) ∧ Reps K F xs vs
  | .tup xs, v => ∃ a vs, v = .ref a ∧ SqT K F a vs ∧ Reps K F xs vs
  | .dic ks xs, v => ∃ a vs, v = .ref a ∧ Rd F a (.dK (ks.zip vs)) ∧ ks.length = vs.length ∧ Reps K F xs vs
  | .ins N ns xs, v => ∃ a C dx vs, v = .ref a ∧ PySem.W.nsIn K mainGlobals N = some (some (.ref C)) ∧ F a = some (.ins C dx (ns.zip vs)) ∧ ns.length = vs.length ∧ Reps K F xs vs
def Reps (K : PySem.W.Frag) (F : Hp) : List D → List V → Prop
  | [], vs => vs = []
  | x :: xs, vs => ∃ v r, vs = v :: r ∧ Rep K F x v ∧ Reps K F xs r
end
section
variable {K : PySem.W.Frag} {F F' H H' : Hp}
theorem Same.rd {a : Addr} {o : HO} (e : Same F F') (h : Rd F a o) : Rd F' a o := by
  rcases h with h | ⟨o', h⟩
  · exact .inl (e _ _ h)
  · exact .inr ⟨o', e _ _ h⟩
theorem Same.sqT {a : Addr} {xs : List V} (e : Same F F') (h : SqT K F a xs) : SqT K F' a xs := by
  rcases h with (h | ⟨o, h⟩) | h
  · exact .inl (.inl (e _ _ h))
  · exact .inl (.inr ⟨o, e _ _ h⟩)
  · exact .inr h
mutual
theorem Rep.mono (e : Same F F') : ∀ (d : D) (v : V), Rep K F d v → Rep K F' d v
  | .non, _, h => h
  | .bl _, _, h => h
  | .int _, _, h => h
  | .str _, _, h => h
  | .ref _, _, h => h
  | .ty _, _, h => h
  | .cel ns, _, h => by
    obtain ⟨a, e1, h1⟩ := h
    exact ⟨a, e1, e.seq h1⟩
  | .lst xs, _, h => by
    obtain ⟨a, vs, e1, h1, h2⟩ := h
    exact ⟨a, vs, e1, e _ _ h1, Reps.mono e xs vs h2⟩
  | .tup xs, _, h => by
    obtain ⟨a, vs, e1, h1, h2⟩ := h
    exact ⟨a, vs, e1, Same.sqT e h1, Reps.mono e xs vs h2⟩
  | .dic ks xs, _, h => by
    obtain ⟨a, vs, e1, h1, l, h2⟩ := h
    exact ⟨a, vs, e1, Same.rd e h1, l, Reps.mono e xs vs h2⟩
  | .ins C ns xs, _, h => by
    obtain ⟨a, C, dx, vs, e1, g, h1, l, h2⟩ := h
    exact ⟨a, C, dx, vs, e1, g, e _ _ h1, l, Reps.mono e xs vs h2⟩
theorem Reps.mono (e : Same F F') : ∀ (ds : List D) (vs : List V), Reps K F ds vs → Reps K F' ds vs
  | [], _, h => h
  | x :: xs, _, h => by
    obtain ⟨v, r, e1, h1, h2⟩ := h
    exact ⟨v, r, e1, Rep.mono e x v h1, Reps.mono e xs r h2⟩
end
theorem Reps.len : ∀ {ds : List D} {vs : List V}, Reps K F ds vs → vs.length = ds.length
  | [], _, h => by cases h; rfl
  | x :: xs, _, h => by
    obtain ⟨v, r, e1, h1, h2⟩ := h
    subst e1
    exact congrArg Nat.succ (Reps.len h2)
theorem Reps.app : ∀ {ds es : List D} {vs us : List V}, Reps K F ds vs → Reps K F es us → Reps K F (ds ++ es) (vs ++ us)
  | [], _, _, _, h, g => by cases h; exact g
  | x :: xs, _, _, _, h, g => by
    obtain ⟨v, r, e1, h1, h2⟩ := h
    subst e1
    exact ⟨v, r ++ _, rfl, h1, Reps.app h2 g⟩
theorem Reps.one {d : D} {v : V} (h : Rep K F d v) : Reps K F [d] [v] := ⟨v, [], rfl, h, rfl⟩
theorem Reps.get : ∀ {ds : List D} {vs : List V} {i : Nat} {d : D}, Reps K F ds vs → ds[i]? = some d → ∃ v, vs[i]? = some v ∧ Rep K F d v
  | [], _, _, _, _, e => by simp at e
  | x :: xs, _, 0, d, h, e => by
    obtain ⟨v, r, e1, h1, h2⟩ := h
    subst e1
    simp at e; subst e
    exact ⟨v, rfl, h1⟩
  | x :: xs, _, i + 1, d, h, e => by
    obtain ⟨v, r, e1, h1, h2⟩ := h
    subst e1
    obtain ⟨u, q, z⟩ := Reps.get (i := i) (d := d) h2 (by simpa using e)
    exact ⟨u, by simpa using q, z⟩
theorem Reps.get' : ∀ {ds : List D} {vs : List V} {i : Nat} {v : V}, Reps K F ds vs → vs[i]? = some v → ∃ d, ds[i]? = some d ∧ Rep K F d v := by
  intro ds vs i v h e
  have hi : i < ds.length := by rw [← h.len]; exact (List.getElem?_eq_some_iff.mp e).1
  obtain ⟨u, q, z⟩ := h.get (List.getElem?_eq_getElem hi)
  rw [e] at q; cases q
  exact ⟨_, List.getElem?_eq_getElem hi, z⟩
theorem Reps.take : ∀ {ds : List D} {vs : List V} (n : Nat), Reps K F ds vs → Reps K F (ds.take n) (vs.take n)
  | _, _, 0, _ => rfl
  | [], _, _ + 1, h => by cases h; exact rfl
  | x :: xs, _, n + 1, h => by
    obtain ⟨v, r, e1, h1, h2⟩ := h
    subst e1
    exact ⟨v, r.take n, rfl, h1, Reps.take n h2⟩
theorem Reps.drop : ∀ {ds : List D} {vs : List V} (n : Nat), Reps K F ds vs → Reps K F (ds.drop n) (vs.drop n)
  | _, _, 0, h => h
  | [], _, _ + 1, h => by cases h; exact rfl
  | x :: xs, _, n + 1, h => by
    obtain ⟨v, r, e1, h1, h2⟩ := h
    subst e1
    exact Reps.drop n h2
theorem Reps.set : ∀ {ds : List D} {vs : List V} (i : Nat) {d : D} {v : V}, Reps K F ds vs → Rep K F d v → Reps K F (ds.set i d) (vs.set i v)
  | [], _, _, _, _, h, _ => by cases h; exact rfl
  | x :: xs, _, 0, d, v, h, z => by
    obtain ⟨u, r, e1, h1, h2⟩ := h
    subst e1
    exact ⟨v, r, rfl, z, h2⟩
  | x :: xs, _, i + 1, d, v, h, z => by
    obtain ⟨u, r, e1, h1, h2⟩ := h
    subst e1
    exact ⟨u, r.set i v, rfl, h1, Reps.set i h2 z⟩
theorem Reps.rev : ∀ {ds : List D} {vs : List V}, Reps K F ds vs → Reps K F ds.reverse vs.reverse
  | [], _, h => by cases h; exact rfl
  | x :: xs, _, h => by
    obtain ⟨v, r, e1, h1, h2⟩ := h
    subst e1
    rw [List.reverse_cons, List.reverse_cons]
    exact (Reps.rev h2).app (.one h1)
/-- ints, texts, bools as they are -/
theorem Reps.ints : ∀ {ns : List Int} {vs : List V}, Reps K F (ns.map D.int) vs ↔ vs = ns.map V.int
  | [], _ => Iff.rfl
  | n :: ns, vs => by
    constructor
    · rintro ⟨v, r, e1, h1, h2⟩
      rw [e1, show v = V.int n from h1, Reps.ints.mp h2]; rfl
    · intro e
      exact ⟨.int n, ns.map V.int, e, rfl, Reps.ints.mpr rfl⟩
theorem Reps.strs : ∀ {ns : List Str} {vs : List V}, Reps K F (ns.map D.str) vs ↔ vs = ns.map V.str
  | [], _ => Iff.rfl
  | n :: ns, vs => by
    constructor
    · rintro ⟨v, r, e1, h1, h2⟩
      rw [e1, show v = V.str n from h1, Reps.strs.mp h2]; rfl
    · intro e
      exact ⟨.str n, ns.map V.str, e, rfl, Reps.strs.mpr rfl⟩
theorem Reps.bls : ∀ {ns : List Bool} {vs : List V}, Reps K F (ns.map D.bl) vs ↔ vs = ns.map V.bl
  | [], _ => Iff.rfl
  | n :: ns, vs => by
    constructor
    · rintro ⟨v, r, e1, h1, h2⟩
      rw [e1, show v = V.bl n from h1, Reps.bls.mp h2]; rfl
    · intro e
      exact ⟨.bl n, ns.map V.bl, e, rfl, Reps.bls.mpr rfl⟩
end

/-- what a slot holds: data that stays; a list, a dict of the frame's own -/
inductive S where
  | d (x : D) | ol (xs : List D) | od (kvs : List (Key × D)) | oi (N : Str) (kvs : List (Str × D))
@[reducible] def S.own : S → Bool
  | .d _ => false
  | _ => true
/-- the data, as it stands now -/
@[reducible] def S.fz : S → D
  | .d x => x
  | .ol xs => .lst xs
  | .od kvs => .dic (kvs.map (·.1)) (kvs.map (·.2))
  | .oi C kvs => .ins C (kvs.map (·.1)) (kvs.map (·.2))
abbrev R := List (Option S)
def D.flat : D → Bool
  | .cel _ => false
  | .lst _ => false
  | .tup _ => false
  | .dic _ _ => false
  | .ins _ _ _ => false
  | _ => true
theorem Rep.flat {K : PySem.W.Frag} {F F' : Hp} {d : D} {v : V} (h : Rep K F d v) (f : d.flat = true) : Rep K F' d v := by
  cases d <;> first | exact h | cases f

def SRep (K : PySem.W.Frag) (H0 F H : Hp) : S → V → Prop
  | .d x, v => Rep K F x v
  | .ol xs, v => ∃ a vs, v = .ref a ∧ H a = some (.lst vs) ∧ Reps K F xs vs ∧ H0 a = none ∧ F a = none
  | .od kvs, v => ∃ a kvs', v = .ref a ∧ H a = some (.dK kvs') ∧ kvs'.map (·.1) = kvs.map (·.1) ∧ Reps K F (kvs.map (·.2)) (kvs'.map (·.2)) ∧ H0 a = none ∧ F a = none
  | .oi N kvs, v => ∃ a C dx kvs', v = .ref a ∧ PySem.W.nsIn K mainGlobals N = some (some (.ref C)) ∧ H a = some (.ins C dx kvs') ∧ kvs'.map (·.1) = kvs.map (·.1) ∧ Reps K F (kvs.map (·.2)) (kvs'.map (·.2)) ∧ H0 a = none ∧ F a = none
/-- v is at no own slot -/
def Fr (ρ : R) (σ : St) (v : V) : Prop := ∀ (j : Nat) t, ρ[j]? = some (some t) → t.own = true → σ[j]? ≠ some (some v)

structure Rel (K : PySem.W.Frag) (H0 F0 F H : Hp) (ρ : R) (σ : St) : Prop where
  h : Same H0 H
  f : Same F0 F
  fh : Same F H
  nw : ∀ a, F a ≠ none → F0 a ≠ none ∨ H0 a = none
  len : ρ.length = σ.length
  at_ : ∀ (i : Nat) s, ρ[i]? = some (some s) → ∃ v, σ[i]? = some (some v) ∧ SRep K H0 F H s v
  ap : ∀ (i j : Nat) s t, ρ[i]? = some (some s) → ρ[j]? = some (some t) → s.own = true → t.own = true → σ[i]? = σ[j]? → i = j

section
variable {K : PySem.W.Frag} {H0 F0 F F' H H' : Hp} {ρ ρ' : R} {σ : St} {a : Addr} {o : HO} {i : Nat} {s : S} {v : V}
theorem Same.new {H : Hp} {p : Addr} {o : HO} (h : H p = none) : Same H (upd H p o) := fun b u e => by
  rw [upd_ne (ne_of_none e h)]; exact e
theorem SRep.grow (e : Same H H') (h : SRep K H0 F H s v) : SRep K H0 F H' s v := by
  cases s with
  | d x => exact h
  | ol xs => obtain ⟨a, vs, e1, h1, r⟩ := h; exact ⟨a, vs, e1, e _ _ h1, r⟩
  | od kvs => obtain ⟨a, vs, e1, h1, r⟩ := h; exact ⟨a, vs, e1, e _ _ h1, r⟩
  | oi N kvs => obtain ⟨a, C, dx, vs, e1, g, h1, r⟩ := h; exact ⟨a, C, dx, vs, e1, g, e _ _ h1, r⟩
theorem Rel.grow (r : Rel K H0 F0 F H ρ σ) (e : Same H H') : Rel K H0 F0 F H' ρ σ :=
  ⟨r.h.trans e, r.f, r.fh.trans e, r.nw, r.len, fun i s q => let ⟨v, q1, q2⟩ := r.at_ i s q; ⟨v, q1, q2.grow e⟩, r.ap⟩
/-- the own object of a slot or of a result -/
theorem SRep.addr (h : SRep K H0 F H s v) (w : s.own = true) : ∃ a u, v = .ref a ∧ H a = some u ∧ H0 a = none ∧ F a = none := by
  cases s with
  | d x => cases w
  | ol xs => obtain ⟨a, vs, e1, h1, _, n1, n2⟩ := h; exact ⟨a, _, e1, h1, n1, n2⟩
  | od kvs => obtain ⟨a, vs, e1, h1, _, _, n1, n2⟩ := h; exact ⟨a, _, e1, h1, n1, n2⟩
  | oi N kvs => obtain ⟨a, C, dx, vs, e1, g, h1, _, _, n1, n2⟩ := h; exact ⟨a, _, e1, h1, n1, n2⟩
theorem zip_unzip {α β : Type} : ∀ l : List (α × β), (l.map (·.1)).zip (l.map (·.2)) = l
  | [] => rfl
  | p :: l => by rw [List.map_cons, List.map_cons, List.zip_cons_cons, zip_unzip l]
/-- the data of an own object, once its address stands in F -/
theorem SRep.thaw (h : SRep K H0 F H s v) (w : s.own = true) : ∃ a u, v = .ref a ∧ H a = some u ∧ H0 a = none ∧ F a = none ∧ Rep K (upd F a u) s.fz v := by
  cases s with
  | d x => cases w
  | ol xs =>
    obtain ⟨a, vs, e1, h1, h2, n1, n2⟩ := h
    exact ⟨a, _, e1, h1, n1, n2, a, vs, e1, upd_same, Reps.mono (Same.new n2) _ _ h2⟩
  | od kvs =>
    obtain ⟨a, kvs', e1, h1, hk, h2, n1, n2⟩ := h
    refine ⟨a, _, e1, h1, n1, n2, a, kvs'.map (·.2), e1, ?_, ?_, Reps.mono (Same.new n2) _ _ h2⟩
    · refine .inl ?_; rw [upd_same, ← hk, zip_unzip]
    · rw [h2.len, List.length_map, List.length_map]
  | oi N kvs =>
    obtain ⟨a, C, dx, kvs', e1, g, h1, hk, h2, n1, n2⟩ := h
    refine ⟨a, _, e1, h1, n1, n2, a, C, dx, kvs'.map (·.2), e1, g, ?_, ?_, Reps.mono (Same.new n2) _ _ h2⟩
    · rw [upd_same, ← hk, zip_unzip]
    · rw [h2.len, List.length_map, List.length_map]
/-- F gets more: what is fresh and stands in H, no slot's own -/
theorem Rel.more (r : Rel K H0 F0 F H ρ σ) (e : Same F F') (fh : Same F' H) (nw : ∀ a, F' a ≠ none → F a ≠ none ∨ H0 a = none)
    (no : ∀ (j : Nat) t a, ρ[j]? = some (some t) → t.own = true → σ[j]? = some (some (.ref a)) → F' a = none) : Rel K H0 F0 F' H ρ σ := by
  refine ⟨r.h, r.f.trans e, fh, fun a h => ?_, r.len, fun i s q => ?_, r.ap⟩
  · rcases nw a h with z | z
    · exact r.nw a z
    · exact .inr z
  · obtain ⟨v, q1, q2⟩ := r.at_ i s q
    refine ⟨v, q1, ?_⟩
    cases s with
    | d x => exact Rep.mono e _ _ q2
    | ol xs =>
      obtain ⟨a, vs, e1, h1, h2, n1, n2⟩ := q2
      subst e1
      exact ⟨a, vs, rfl, h1, Reps.mono e _ _ h2, n1, no i _ a q rfl q1⟩
    | od kvs =>
      obtain ⟨a, vs, e1, h1, hk, h2, n1, n2⟩ := q2
      subst e1
      exact ⟨a, vs, rfl, h1, hk, Reps.mono e _ _ h2, n1, no i _ a q rfl q1⟩
    | oi N kvs =>
      obtain ⟨a, C, dx, vs, e1, g, h1, hk, h2, n1, n2⟩ := q2
      subst e1
      exact ⟨a, C, dx, vs, rfl, g, h1, hk, Reps.mono e _ _ h2, n1, no i _ a q rfl q1⟩
theorem Rel.put1 (r : Rel K H0 F0 F H ρ σ) {u : HO} (h : H a = some u) (n0 : H0 a = none) (n1 : F a = none) (fr : Fr ρ σ (.ref a)) : Rel K H0 F0 (upd F a u) H ρ σ := by
  refine r.more (Same.new n1) (fun b o q => ?_) (fun b q => ?_) fun j t b q w z => ?_
  · by_cases hb : b = a
    · subst hb; rw [upd_same] at q; cases q; exact h
    · rw [upd_ne hb] at q; exact r.fh _ _ q
  · by_cases hb : b = a
    · subst hb; exact .inr n0
    · rw [upd_ne hb] at q; exact .inl q
  · have hb : b ≠ a := by rintro rfl; exact fr j t q w z
    rw [upd_ne hb]
    obtain ⟨v, q1, q2⟩ := r.at_ j t q
    obtain ⟨c, o, e1, _, _, n2⟩ := q2.addr w
    rw [z] at q1; cases q1; cases e1; exact n2
/-- a result that is own becomes data -/
theorem Rel.freeze (r : Rel K H0 F0 F H ρ σ) (h : SRep K H0 F H s v) (fr : s.own = true → Fr ρ σ v) : ∃ F', Same F F' ∧ Rel K H0 F0 F' H ρ σ ∧ Rep K F' s.fz v := by
  by_cases w : s.own = true
  · obtain ⟨a, u, e1, h1, n0, n1, rp⟩ := h.thaw w
    subst e1
    exact ⟨_, Same.new n1, r.put1 h1 n0 n1 (fr w), rp⟩
  · cases s with
    | d x => exact ⟨F, Same.refl F, r, h⟩
    | ol xs => exact absurd rfl w
    | od kvs => exact absurd rfl w
    | oi N kvs => exact absurd rfl w
/-- a slot is forgotten -/
theorem Rel.forget (r : Rel K H0 F0 F H ρ σ) (hl : ρ'.length = ρ.length) (w : ∀ (i : Nat) s, ρ'[i]? = some (some s) → ρ[i]? = some (some s)) : Rel K H0 F0 F H ρ' σ :=
  ⟨r.h, r.f, r.fh, r.nw, hl.trans r.len, fun i s q => r.at_ i s (w i s q), fun i j s t q1 q2 => r.ap i j s t (w i s q1) (w j t q2)⟩
theorem set_none {s : S} (q : (ρ.set i none)[i]? = some (some s)) : False := by
  rw [List.getElem?_set] at q
  simp only [if_true] at q
  split at q <;> cases q
theorem Rel.drop1 (r : Rel K H0 F0 F H ρ σ) (i : Nat) : Rel K H0 F0 F H (ρ.set i none) σ :=
  r.forget (by simp) fun j s q => by
    by_cases hj : j = i
    · subst hj
      exact (set_none q).elim
    · rwa [List.getElem?_set_ne (Ne.symm hj)] at q
/-- what is at no own slot, once slot i is forgotten -/
theorem Rel.moved (r : Rel K H0 F0 F H ρ σ) (q : ρ[i]? = some (some s)) (w : s.own = true) (e : σ[i]? = some (some v)) : Fr (ρ.set i none) σ v := fun j t q1 w1 q2 => by
  have hj : j ≠ i := by
    rintro rfl
    exact set_none q1
  rw [List.getElem?_set_ne (Ne.symm hj)] at q1
  exact hj (r.ap j i t s q1 q w1 w (q2.trans e.symm))
/-- a slot is stored -/
theorem Rel.store (r : Rel K H0 F0 F H ρ σ) (h : SRep K H0 F H s v) (fr : s.own = true → Fr ρ σ v) (i : Nat) : Rel K H0 F0 F H (ρ.set i (some s)) (σ.set i (some v)) := by
  have get : ∀ (j : Nat) t, (ρ.set i (some s))[j]? = some (some t) → (j = i ∧ t = s ∧ (σ.set i (some v))[j]? = some (some v)) ∨ (j ≠ i ∧ ρ[j]? = some (some t) ∧ (σ.set i (some v))[j]? = σ[j]?) := fun j t q => by
    by_cases hj : j = i
    · subst hj
      have hl : j < ρ.length := by
        have := (List.getElem?_eq_some_iff.mp q).1
        simpa using this
      rw [List.getElem?_set_self hl] at q
      cases q
      exact .inl ⟨rfl, rfl, List.getElem?_set_self (by rw [← r.len]; exact hl)⟩
    · rw [List.getElem?_set_ne (Ne.symm hj)] at q
      exact .inr ⟨hj, q, List.getElem?_set_ne (Ne.symm hj)⟩
  refine ⟨r.h, r.f, r.fh, r.nw, by simp [r.len], fun j t q => ?_, fun j k t u q1 q2 w1 w2 e => ?_⟩
  · rcases get j t q with ⟨rfl, rfl, z⟩ | ⟨hj, q', z⟩
    · exact ⟨v, z, h⟩
    · obtain ⟨x, z1, z2⟩ := r.at_ j t q'
      exact ⟨x, z.trans z1, z2⟩
  · rcases get j t q1 with ⟨rfl, rfl, z⟩ | ⟨hj, q', z⟩
    · rcases get k u q2 with ⟨rfl, rfl, z'⟩ | ⟨hk, q'', z'⟩
      · rfl
      · rw [z, z'] at e
        exact absurd e.symm (fr w1 k u q'' w2)
    · rcases get k u q2 with ⟨rfl, rfl, z'⟩ | ⟨hk, q'', z'⟩
      · rw [z, z'] at e
        exact absurd e (fr w2 j t q' w1)
      · rw [z, z'] at e
        exact r.ap j k t u q' q'' w1 w2 e
/-- the object of an own slot is written: its slot holds s', all else stands -/
theorem Rel.write (r : Rel K H0 F0 F H ρ σ) (q : ρ[i]? = some (some s)) (w : s.own = true) (e : σ[i]? = some (some (.ref a))) {u : HO} {s' : S}
    (h' : SRep K H0 F (upd H a u) s' (.ref a)) (w' : s'.own = true) : Rel K H0 F0 F (upd H a u) (ρ.set i (some s')) σ := by
  obtain ⟨v0, e0, sr⟩ := r.at_ i s q
  rw [e] at e0; cases e0
  obtain ⟨b, u0, e1, hb, n0, n1⟩ := sr.addr w
  cases e1
  have hl : i < ρ.length := (List.getElem?_eq_some_iff.mp q).1
  have get : ∀ (j : Nat) t, (ρ.set i (some s'))[j]? = some (some t) → (j = i ∧ t = s') ∨ (j ≠ i ∧ ρ[j]? = some (some t)) := fun j t q => by
    by_cases hj : j = i
    · subst hj
      rw [List.getElem?_set_self hl] at q
      cases q
      exact .inl ⟨rfl, rfl⟩
    · rw [List.getElem?_set_ne (Ne.symm hj)] at q
      exact .inr ⟨hj, q⟩
  refine ⟨fun c o z => ?_, r.f, fun c o z => ?_, r.nw, by simp [r.len], fun j t q1 => ?_, fun j k t u q1 q2 w1 w2 z => ?_⟩
  · rw [upd_ne (ne_of_none z n0)]; exact r.h _ _ z
  · rw [upd_ne (ne_of_none z n1)]; exact r.fh _ _ z
  · rcases get j t q1 with ⟨rfl, rfl⟩ | ⟨hj, q'⟩
    · exact ⟨_, e, h'⟩
    · obtain ⟨x, z1, z2⟩ := r.at_ j t q'
      refine ⟨x, z1, ?_⟩
      have ne : t.own = true → x ≠ .ref a := fun wt z => hj (r.ap j i t s q' q wt w (by rw [z1, e, z]))
      cases t with
      | d x => exact z2
      | ol xs =>
        obtain ⟨c, vs, e1, h1, rr⟩ := z2
        have : c ≠ a := by rintro rfl; exact ne rfl e1
        exact ⟨c, vs, e1, by rw [upd_ne this]; exact h1, rr⟩
      | od kvs =>
        obtain ⟨c, vs, e1, h1, rr⟩ := z2
        have : c ≠ a := by rintro rfl; exact ne rfl e1
        exact ⟨c, vs, e1, by rw [upd_ne this]; exact h1, rr⟩
      | oi N kvs =>
        obtain ⟨c, C, dx, vs, e1, g, h1, rr⟩ := z2
        have : c ≠ a := by rintro rfl; exact ne rfl e1
        exact ⟨c, C, dx, vs, e1, g, by rw [upd_ne this]; exact h1, rr⟩
  · rcases get j t q1 with ⟨rfl, rfl⟩ | ⟨hj, q'⟩
    · rcases get k u q2 with ⟨rfl, rfl⟩ | ⟨hk, q''⟩
      · rfl
      · exact r.ap j k s u q q'' w w2 z
    · rcases get k u q2 with ⟨rfl, rfl⟩ | ⟨hk, q''⟩
      · exact r.ap j k t s q' q w1 w z
      · exact r.ap j k t u q' q'' w1 w2 z
end
end DL
/-! DL2: the judgements over data, generic rules: names, constants, operators, calls of built-ins, argument lists, displays. -/
namespace DL
open PySem L2

/-- what is wanted of an exception of the class of that name, with these fields -/
abbrev PX := Str → List (Str × D) → Prop
/-- what is wanted of exceptions: in HandS' words, and over data -/
structure Zx where
  E : XK
  P : PX
abbrev Z0 : Zx := ⟨E0, fun _ _ => False⟩
/-- an exception's fields -/
def XRep (K : PySem.W.Frag) (F H : Hp) (fs : List (Str × D)) (d : Option Addr) : Prop :=
  (fs = [] ∧ d = none) ∨ ∃ a vs, d = some a ∧ H a = some (.xd ((fs.map (·.1)).zip vs)) ∧ Reps K F (fs.map (·.2)) vs
def Zx.Ok (Z : Zx) (K : PySem.W.Frag) (H0 F0 : Hp) : Prop := ∀ N C fs d F' H', Z.P N fs → PySem.W.nsIn K mainGlobals N = some (some (.ref C)) → Same H0 H' → Same F0 F' → Same F' H' → (∀ a, F' a ≠ none → F0 a ≠ none ∨ H0 a = none) → XRep K F' H' fs d → Z.E (.ref C) d H'
theorem Z0.ok {K : PySem.W.Frag} {H0 F0 : Hp} : Z0.Ok K H0 F0 := fun _ _ _ _ _ _ h => h.elim

abbrev W := R → (S → R → Prop) → Prop
abbrev WT := R → (Bool → R → Prop) → Prop
abbrev WA := R → (List D → R → Prop) → Prop
/-- the reading of an expression over data -/
def RunE (K : PySem.W.Frag) (Z : Zx) (t : TE) (w : W) : Prop := ∀ {H0 F0 F H : Hp} {ρ : R} {σ : St} {Q : VK} {P : S → R → Prop}, Z.Ok K H0 F0 → Rel K H0 F0 F H ρ σ → w ρ P →
    (∀ s ρ' F' H' v, P s ρ' → Same F F' → Rel K H0 F0 F' H' ρ' σ → SRep K H0 F' H' s v → (s.own = true → Fr ρ' σ v) → Q v H') → t σ H Q
def RunT (K : PySem.W.Frag) (Z : Zx) (t : TT) (w : WT) : Prop := ∀ {H0 F0 F H : Hp} {ρ : R} {σ : St} {Q : Bool → Hp → Prop} {P : Bool → R → Prop}, Z.Ok K H0 F0 → Rel K H0 F0 F H ρ σ → w ρ P →
    (∀ b ρ' F' H', P b ρ' → Same F F' → Rel K H0 F0 F' H' ρ' σ → Q b H') → t σ H Q
def RunA (K : PySem.W.Frag) (Z : Zx) (t : TA) (w : WA) : Prop := ∀ {H0 F0 F H : Hp} {ρ : R} {σ : St} {Q : List V → Hp → Prop} {P : List D → R → Prop}, Z.Ok K H0 F0 → Rel K H0 F0 F H ρ σ → w ρ P →
    (∀ ds ρ' F' H' vs, P ds ρ' → Same F F' → Rel K H0 F0 F' H' ρ' σ → Reps K F' ds vs → Q vs H') → t σ H Q
structure DE (K : PySem.W.Frag) (X : Cx) (Z : Zx) (e : Expr) (t : TE) (w : W) : Prop where
  pe : PE X e t
  run : RunE K Z t w
structure DT (K : PySem.W.Frag) (X : Cx) (Z : Zx) (e : Expr) (t : TT) (w : WT) : Prop where
  pe : PT X e t
  run : RunT K Z t w
structure DW (K : PySem.W.Frag) (X : Cx) (Z : Zx) (e : Expr) (t : TT) (w : WT) : Prop where
  pe : PW X e t
  run : RunT K Z t w
structure DA (K : PySem.W.Frag) (X : Cx) (Z : Zx) (es : List Expr) (t : TA) (w : WA) : Prop where
  pe : PA X es t
  run : RunA K Z t w

/-- behind an operation: what it gives, over data -/
def Kont (K : PySem.W.Frag) (H F : Hp) (P : S → Prop) (Q : VK) : Prop :=
  ∀ s v F' H', P s → Same H H' → Same F F' → Same F' H' → (∀ a, F' a ≠ none → F a ≠ none ∨ H a = none) → SRep K H F' H' s v → Q v H'
section
variable {K : PySem.W.Frag} {H F : Hp} {P : S → Prop} {Q : VK} {ds : List D} {vs : List V} {d : D} {v : V} {p : Addr}
theorem Kont.flat (k : Kont K H F P Q) (fh : Same F H) (h : P (.d d)) (r : Rep K F d v) : Q v H :=
  k (.d d) v F H h (Same.refl _) (Same.refl _) fh (fun _ q => .inl q) r
theorem fresh_of (fh : Same F H) (n : H p = none) : F p = none := fh.free n
theorem Kont.newL (k : Kont K H F P Q) (fh : Same F H) (h : P (.ol ds)) (r : Reps K F ds vs) (n : H p = none) : Q (.ref p) (upd H p (.lst vs)) :=
  k (.ol ds) _ F _ h (Same.new n) (Same.refl _) (fh.trans (Same.new n)) (fun _ q => .inl q) ⟨p, vs, rfl, upd_same, r, n, fh.free n⟩
theorem Kont.newD {kvs : List (Key × D)} {kvs' : List (Key × V)} (k : Kont K H F P Q) (fh : Same F H) (h : P (.od kvs)) (hk : kvs'.map (·.1) = kvs.map (·.1)) (r : Reps K F (kvs.map (·.2)) (kvs'.map (·.2))) (n : H p = none) : Q (.ref p) (upd H p (.dK kvs')) :=
  k (.od kvs) _ F _ h (Same.new n) (Same.refl _) (fh.trans (Same.new n)) (fun _ q => .inl q) ⟨p, kvs', rfl, upd_same, hk, r, n, fh.free n⟩
theorem upd_both {u : HO} (fh : Same F H) (n : H p = none) : Same (upd F p u) (upd H p u) := fun b o q => by
  by_cases hb : b = p
  · subst hb; rw [upd_same] at q ⊢; exact q
  · rw [upd_ne hb] at q ⊢; exact fh _ _ q
theorem nw_upd {u : HO} (n : H p = none) : ∀ a, upd F p u a ≠ none → F a ≠ none ∨ H a = none := fun a q => by
  by_cases ha : a = p
  · subst ha; exact .inr n
  · rw [upd_ne ha] at q; exact .inl q
theorem Kont.newT (k : Kont K H F P Q) (fh : Same F H) (h : P (.d (.tup ds))) (r : Reps K F ds vs) (n : H p = none) : Q (.ref p) (upd H p (.tup vs)) :=
  k (.d (.tup ds)) _ (upd F p (.tup vs)) _ h (Same.new n) (Same.new (fh.free n)) (upd_both fh n) (nw_upd n)
    ⟨p, vs, rfl, SqT.of upd_same, Reps.mono (Same.new (fh.free n)) _ _ r⟩
end
section
variable {K : PySem.W.Frag} {H0 F0 F F' H H' : Hp} {ρ : R} {σ : St} {s : S} {v : V}
theorem Rel.after (r : Rel K H0 F0 F H ρ σ) (hh : Same H H') (ff : Same F F') (fh : Same F' H') (nw : ∀ a, F' a ≠ none → F a ≠ none ∨ H a = none) : Rel K H0 F0 F' H' ρ σ := by
  refine (r.grow hh).more ff fh (fun a q => ?_) fun j t a q w z => ?_
  · rcases nw a q with z | z
    · exact .inl z
    · exact .inr (r.h.free z)
  · obtain ⟨v, q1, q2⟩ := r.at_ j t q
    obtain ⟨c, o, e1, h1, _, n2⟩ := q2.addr w
    rw [z] at q1; cases q1; cases e1
    cases q3 : F' a with
    | none => rfl
    | some u =>
      rcases nw a (by rw [q3]; exact fun z => nomatch z) with y | y
      · exact absurd n2 y
      · rw [y] at h1; cases h1
theorem SRep.after (r : Rel K H0 F0 F H ρ σ) (h : SRep K H F' H' s v) : SRep K H0 F' H' s v ∧ (s.own = true → Fr ρ σ v) := by
  constructor
  · cases s with
    | d x => exact h
    | ol xs => obtain ⟨a, vs, e1, h1, h2, n0, n1⟩ := h; exact ⟨a, vs, e1, h1, h2, r.h.free n0, n1⟩
    | od kvs => obtain ⟨a, vs, e1, h1, hk, h2, n0, n1⟩ := h; exact ⟨a, vs, e1, h1, hk, h2, r.h.free n0, n1⟩
    | oi N kvs => obtain ⟨a, C, dx, vs, e1, g, h1, hk, h2, n0, n1⟩ := h; exact ⟨a, C, dx, vs, e1, g, h1, hk, h2, r.h.free n0, n1⟩
  · intro w j t q1 w1 q2
    obtain ⟨a, u, e1, h1, n0, n1⟩ := h.addr w
    subst e1
    obtain ⟨v, z1, z2⟩ := r.at_ j t q1
    obtain ⟨c, o, e2, h2, _, _⟩ := z2.addr w1
    rw [q2] at z1; cases z1; cases e2
    rw [n0] at h2; cases h2
end
/-- the end of a rule whose operation gives Kont -/
theorem Rel.kont {K : PySem.W.Frag} {H0 F0 F1 F H : Hp} {ρ : R} {σ : St} {P : S → R → Prop} {Q : VK} (r : Rel K H0 F0 F H ρ σ) (f : Same F1 F)
    (k : ∀ s ρ' F' H' v, P s ρ' → Same F1 F' → Rel K H0 F0 F' H' ρ' σ → SRep K H0 F' H' s v → (s.own = true → Fr ρ' σ v) → Q v H') : Kont K H F (fun s => P s ρ) Q :=
  fun s v F' H' p hh ff fh nw sr => k s ρ F' H' v p (f.trans ff) (r.after hh ff fh nw) (SRep.after r sr).1 (SRep.after r sr).2

/-! ### slots -/
def nth : R → Nat → Option S
  | [], _ => none
  | x :: _, 0 => x
  | _ :: r, n + 1 => nth r n
def put : R → Nat → Option S → R
  | [], _, _ => []
  | _ :: r, 0, y => y :: r
  | x :: r, n + 1, y => x :: put r n y
theorem nth_eq : ∀ (ρ : R) (i : Nat), nth ρ i = (ρ[i]?).join
  | [], i => by simp [nth]
  | x :: r, 0 => by simp [nth]
  | x :: r, n + 1 => by rw [nth, nth_eq r n]; simp
theorem put_eq : ∀ (ρ : R) (i : Nat) (y : Option S), put ρ i y = ρ.set i y
  | [], _, _ => rfl
  | x :: r, 0, _ => rfl
  | x :: r, n + 1, y => by rw [put, put_eq r n]; rfl
theorem nth_some {ρ : R} {i : Nat} {s : S} (h : nth ρ i = some s) : ρ[i]? = some (some s) := by
  rw [nth_eq] at h
  cases e : ρ[i]? with
  | none => rw [e] at h; cases h
  | some o =>
    rw [e] at h
    cases o with
    | none => cases h
    | some t => cases h; rfl

section
variable {K : PySem.W.Frag} {X : Cx} {Z : Zx} {pos : Pos}
/-- a name: its data; an own object becomes data there -/
def wVar (i : Nat) : W := fun ρ P => match nth ρ i with
  | some (.d x) => P (.d x) ρ
  | some s => P (.d s.fz) (put ρ i (some (.d s.fz)))
  | none => False
theorem Rel.own_slot {K : PySem.W.Frag} {H0 F0 F H : Hp} {ρ : R} {σ : St} {i : Nat} {s : S} (r : Rel K H0 F0 F H ρ σ) (q : ρ[i]? = some (some s)) (w : s.own = true) :
    ∃ v F', σ[i]? = some (some v) ∧ Same F F' ∧ Rel K H0 F0 F' H (ρ.set i (some (.d s.fz))) σ ∧ Rep K F' s.fz v := by
  obtain ⟨v, e, sr⟩ := r.at_ i s q
  obtain ⟨F', ff, r', rp⟩ := (r.drop1 i).freeze sr fun _ => r.moved q w e
  refine ⟨v, F', e, ff, ?_, rp⟩
  have hl : i < σ.length := (List.getElem?_eq_some_iff.mp e).1
  have z := r'.store (s := .d s.fz) (v := v) rp (fun w => nomatch w) i
  rw [List.set_set] at z
  have e2 : σ.set i (some v) = σ := by
    apply List.ext_getElem?
    intro j
    by_cases hj : j = i
    · subst hj; rw [List.getElem?_set_self hl, e]
    · rw [List.getElem?_set_ne (Ne.symm hj)]
  rwa [e2] at z
theorem run_var {i : Nat} : RunE K Z (tVar i) (wVar i) := fun {H0 F0 F H ρ σ Q P} zo r h k => by
  unfold wVar at h
  split at h
  · rename_i x e
    obtain ⟨v, e1, sr⟩ := r.at_ i _ (nth_some e)
    exact ⟨v, e1, k _ _ F H v h (Same.refl _) r sr fun w => nomatch w⟩
  · rename_i s hs e
    have w : s.own = true := by
      cases s with
      | d x => exact absurd rfl (hs x)
      | ol _ => rfl
      | od _ => rfl
      | oi _ _ => rfl
    rw [put_eq] at h
    obtain ⟨v, F', e1, ff, r', rp⟩ := r.own_slot (nth_some e) w
    exact ⟨v, e1, k _ _ F' H v h ff r' rp fun w => nomatch w⟩
  · exact h.elim
theorem de_var (i : Nat) {x : Str} (hN : X.N[i]? = some x := by rfl) (hv : Vis X.env.scope x := by first | exact Or.inl rfl | exact Or.inr (Or.inl rfl) | exact Or.inr (Or.inr rfl)) (hd : (x == ("__debug__" : Str)) = false := by decide)
    (hcd : (x == ("__classdict__" : Str)) = false := by decide) : DE K X Z (.Name x pos) (tVar i) (wVar i) := ⟨pe_var hN hv hd hcd, run_var⟩
/-- a name whose own object is handed over: the slot is forgotten -/
def wMove (i : Nat) : W := fun ρ P => match nth ρ i with
  | some s => P s (put ρ i none)
  | none => False
theorem run_move {i : Nat} : RunE K Z (tVar i) (wMove i) := fun {H0 F0 F H ρ σ Q P} zo r h k => by
  unfold wMove at h
  split at h
  · rename_i s e
    rw [put_eq] at h
    obtain ⟨v, e1, sr⟩ := r.at_ i _ (nth_some e)
    exact ⟨v, e1, k _ _ F H v h (Same.refl _) (r.drop1 i) sr fun w => r.moved (nth_some e) w e1⟩
  · exact h.elim
theorem de_move (i : Nat) {x : Str} (hN : X.N[i]? = some x := by rfl) (hv : Vis X.env.scope x := by first | exact Or.inl rfl | exact Or.inr (Or.inl rfl) | exact Or.inr (Or.inr rfl)) (hd : (x == ("__debug__" : Str)) = false := by decide)
    (hcd : (x == ("__classdict__" : Str)) = false := by decide) : DE K X Z (.Name x pos) (tVar i) (wMove i) := ⟨pe_var hN hv hd hcd, run_move⟩
def wC (d : D) : W := fun ρ P => P (.d d) ρ
theorem de_c {e : Expr} {v : V} {d : D} (h : PE X e (tC v)) (r : ∀ F, Rep K F d v) : DE K X Z e (tC v) (wC d) :=
  ⟨h, fun {H0 F0 F H ρ σ Q P} zo r' h k => k _ _ F H v h (Same.refl _) r' (r F) fun w => nomatch w⟩
theorem de_int {i j pos} : DE K X Z (.Constant (.int i) j pos) (tC (.int i)) (wC (.int i)) := de_c pe_int fun _ => rfl
theorem de_bl {b j pos} : DE K X Z (.Constant (.bool b) j pos) (tC (.bl b)) (wC (.bl b)) := de_c pe_bl fun _ => rfl
theorem de_non {j pos} : DE K X Z (.Constant .none j pos) (tC .non) (wC .non) := de_c pe_non fun _ => rfl
theorem de_str {x j pos} : DE K X Z (.Constant (.str x) j pos) (tC (.str x)) (wC (.str x)) := de_c pe_str fun _ => rfl
/-- a module's constant: an address of the written part -/
theorem de_glob {x : Str} {v : V} {u : Value} {d : D} (hg : Gl X x) (hm : X.mg x = some u) (rv : RelV v u) (r : ∀ F, Rep K F d v) (hd : (x == ("__debug__" : Str)) = false := by decide) : DE K X Z (.Name x pos) (tC v) (wC d) :=
  de_c (pe_glob hg hm rv hd) r

/-! ### operators -/
abbrev O2 := D → D → (S → Prop) → Prop
structure Snd2 (K : PySem.W.Frag) (r : R2) (o : O2) : Prop where
  run : ∀ {F H : Hp} {x y : D} {vx vy : V} {P : S → Prop} {Q : VK}, Same F H → Rep K F x vx → Rep K F y vy → o x y P → Kont K H F P Q → r vx vy H Q
def wOp (o : O2) (wa wb : W) : W := fun ρ P => wa ρ fun x ρ1 => wb ρ1 fun y ρ2 => o x.fz y.fz fun s => P s ρ2
theorem two_run {ta tb : TE} {wa wb : W} {r : R2} {o : O2} (ha : RunE K Z ta wa) (hb : RunE K Z tb wb) (ho : Snd2 K r o) : RunE K Z (tOp r ta tb) (wOp o wa wb) := fun zo rl h k => by
  refine ha zo rl h fun s1 ρ1 F1 H1 v1 h1 f1 r1 sr1 fr1 => ?_
  obtain ⟨F2, f2, r2, rp2⟩ := r1.freeze sr1 fr1
  refine hb zo r2 h1 fun s3 ρ3 F3 H3 v3 h3 f3 r3 sr3 fr3 => ?_
  obtain ⟨F4, f4, r4, rp4⟩ := r3.freeze sr3 fr3
  exact ho.run r4.fh (Rep.mono (f3.trans f4) _ _ rp2) rp4 h3 (r4.kont (f1.trans (f2.trans (f3.trans f4))) k)
section
variable {a b : Expr} {r : R2} {o : O2} {ta tb : TE} {wa wb : W}
theorem de_op {op : Operator} (hr : OpR X (binaryOp op) r) (ho : Snd2 K r o) (ha : DE K X Z a ta wa) (hb : DE K X Z b tb wb) : DE K X Z (.BinOp a op b pos) (tOp r ta tb) (wOp o wa wb) := ⟨pe_op hr ha.pe hb.pe, two_run ha.run hb.run ho⟩
theorem de_cmp {op : CmpOp} (hr : OpR X (compareOp op) r) (ho : Snd2 K r o) (hm : behindInMarks op b = false) (ha : DE K X Z a ta wa) (hb : DE K X Z b tb wb) : DE K X Z (.Compare a [op] [b] pos) (tOp r ta tb) (wOp o wa wb) := ⟨pe_cmpR hr ha.pe hb.pe hm, two_run ha.run hb.run ho⟩
theorem de_ix (hr : IxR X r) (ho : Snd2 K r o) (hs : PlainIx b) (ha : DE K X Z a ta wa) (hb : DE K X Z b tb wb) : DE K X Z (.Subscript a b pos) (tOp r ta tb) (wOp o wa wb) := ⟨pe_ix hr ha.pe hb.pe hs, two_run ha.run hb.run ho⟩
end
abbrev O1 := D → (S → Prop) → Prop
structure Snd1 (K : PySem.W.Frag) (r : V → Hp → VK → Prop) (o : O1) : Prop where
  run : ∀ {F H : Hp} {x : D} {vx : V} {P : S → Prop} {Q : VK}, Same F H → Rep K F x vx → o x P → Kont K H F P Q → r vx H Q
def wUn (o : O1) (wa : W) : W := fun ρ P => wa ρ fun x ρ1 => o x.fz fun s => P s ρ1
theorem one_run {ta : TE} {wa : W} {r : V → Hp → VK → Prop} {o : O1} (ha : RunE K Z ta wa) (ho : Snd1 K r o) : RunE K Z (tUn r ta) (wUn o wa) := fun zo rl h k => by
  refine ha zo rl h fun s1 ρ1 F1 H1 v1 h1 f1 r1 sr1 fr1 => ?_
  obtain ⟨F2, f2, r2, rp2⟩ := r1.freeze sr1 fr1
  exact ho.run r2.fh rp2 h1 (r2.kont (f1.trans f2) k)
theorem de_un {op : UnaryOp} {a : Expr} {r : V → Hp → VK → Prop} {o : O1} {ta : TE} {wa : W} (hr : UnR X (unaryOp op) r) (ho : Snd1 K r o) (ha : DE K X Z a ta wa) : DE K X Z (.UnaryOp op a pos) (tUn r ta) (wUn o wa) := ⟨pe_un hr ha.pe, one_run ha.run ho⟩

/-! ### arguments, built-ins -/
def wNil : WA := fun ρ P => P [] ρ
def wCons (we : W) (wr : WA) : WA := fun ρ P => we ρ fun x ρ1 => wr ρ1 fun xs ρ2 => P (x.fz :: xs) ρ2
theorem da_nil : DA K X Z [] tNil wNil := ⟨pa_nil, fun {H0 F0 F H ρ σ Q P} zo rl h k => k [] ρ F H [] h (Same.refl _) rl rfl⟩
theorem da_cons {e : Expr} {es : List Expr} {te : TE} {tr : TA} {we : W} {wr : WA} (he : DE K X Z e te we) (hr : DA K X Z es tr wr) (hs : starEach (e :: es) X.env = (false, eval e X.env) :: starEach es X.env := by rfl) : DA K X Z (e :: es) (tCons te tr) (wCons we wr) := by
  refine ⟨pa_cons he.pe hr.pe hs, fun zo rl h k => he.run zo rl h fun s1 ρ1 F1 H1 v1 h1 f1 r1 sr1 fr1 => ?_⟩
  obtain ⟨F2, f2, r2, rp2⟩ := r1.freeze sr1 fr1
  refine hr.run zo r2 h1 fun ds ρ3 F3 H3 vs h3 f3 r3 rps => ?_
  exact k _ ρ3 F3 H3 _ h3 (f1.trans (f2.trans f3)) r3 ⟨_, _, rfl, Rep.mono f3 _ _ rp2, rps⟩
abbrev OL := List D → (S → Prop) → Prop
structure SndL (K : PySem.W.Frag) (r : List V → Hp → VK → Prop) (o : OL) : Prop where
  run : ∀ {F H : Hp} {ds : List D} {vs : List V} {P : S → Prop} {Q : VK}, Same F H → Reps K F ds vs → o ds P → Kont K H F P Q → r vs H Q
def wCB (o : OL) (wa : WA) : W := fun ρ P => wa ρ fun ds ρ1 => o ds fun s => P s ρ1
theorem cb_run {t : TA} {wa : WA} {r : List V → Hp → VK → Prop} {o : OL} (ha : RunA K Z t wa) (ho : SndL K r o) : RunE K Z (tCB r t) (wCB o wa) := fun zo rl h k =>
  ha zo rl h fun _ _ _ _ _ h1 f1 r1 rps => ho.run r1.fh rps h1 (r1.kont f1 k)
section
variable {e : Expr} {es : List Expr} {x : Str} {p : Pos} {id T : String} {r : List V → Hp → VK → Prop} {o : OL} {ta : TA} {wa : WA}
theorem de_callB (hc : CallR X (.builtin id) r) (ho : SndL K r o) (hg : Gl X x) (hm : X.mg x = none) (hv : bootBuiltins x = some (.builtin id))
    (ha : DA K X Z (e :: es) ta wa) (hn : x ≠ "__name__" := by decide) (hdb : (x == ("__debug__" : Str)) = false := by decide) (he : starEach (e :: es) X.env = (false, eval e X.env) :: starEach es X.env := by rfl) (hpl : (backTo pos (starEach es X.env)).any (·.1) = false := by rfl) :
    DE K X Z (.Call (.Name x p) (e :: es) [] pos) (tCB r ta) (wCB o wa) := ⟨pe_callB hc hg hm hv ha.pe (hn := hn) (hdb := hdb) (he := he) (hpl := hpl), cb_run ha.run ho⟩
theorem de_callTy (hc : CallR X (.type T) r) (ho : SndL K r o) (hg : Gl X x) (hm : X.mg x = none) (hv : bootBuiltins x = some (.type T))
    (ha : DA K X Z (e :: es) ta wa) (hn : x ≠ "__name__" := by decide) (hdb : (x == ("__debug__" : Str)) = false := by decide) (he : starEach (e :: es) X.env = (false, eval e X.env) :: starEach es X.env := by rfl) (hpl : (backTo pos (starEach es X.env)).any (·.1) = false := by rfl) :
    DE K X Z (.Call (.Name x p) (e :: es) [] pos) (tCB r ta) (wCB o wa) := ⟨pe_callTy hc hg hm hv ha.pe (hn := hn) (hdb := hdb) (he := he) (hpl := hpl), cb_run ha.run ho⟩
end
/-- displays -/
def wTup (wa : WA) : W := fun ρ P => wa ρ fun ds ρ1 => ds.length ≤ sizeLine ∧ P (.d (.tup ds)) ρ1
def wLst (wa : WA) : W := fun ρ P => wa ρ fun ds ρ1 => ds.length ≤ sizeLine ∧ P (.ol ds) ρ1
theorem de_tup {es : List Expr} {x1} {ta : TA} {wa : WA} (ha : DA K X Z es ta wa) : DE K X Z (.Tuple es x1 pos) (tTup ta) (wTup wa) := by
  refine ⟨pe_tup ha.pe, fun zo rl h k => ha.run zo rl h fun ds ρ1 F1 H1 vs h1 f1 r1 rps => ?_⟩
  exact ⟨by rw [rps.len]; exact h1.1, fun p n => (r1.kont f1 k).newT r1.fh h1.2 rps n⟩
theorem de_lst {es : List Expr} {ta : TA} {wa : WA} (ha : DA K X Z es ta wa) : DE K X Z (.List es pos) (tLst ta) (wLst wa) := by
  refine ⟨pe_lst ha.pe, fun zo rl h k => ha.run zo rl h fun ds ρ1 F1 H1 vs h1 f1 r1 rps => ?_⟩
  exact ⟨by rw [rps.len]; exact h1.1, fun p n => (r1.kont f1 k).newL r1.fh h1.2 rps n⟩

/-! ### tests -/
def asB : D → (Bool → Prop) → Prop
  | .bl b, P => P b
  | _, _ => False
theorem asB_of {K : PySem.W.Frag} {F : Hp} {d : D} {v : V} {P : Bool → Prop} (h : asB d P) (r : Rep K F d v) : ∃ b, v = .bl b ∧ d = .bl b ∧ P b := by
  cases d <;> first | exact h.elim | exact ⟨_, r, rfl, h⟩
def wB (we : W) : WT := fun ρ P => we ρ fun s ρ' => asB s.fz fun b => P b ρ'
theorem run_B {t : TE} {w : W} (h : RunE K Z t w) : RunT K Z (tB t) (wB w) := fun zo rl q k => h zo rl q fun s1 ρ1 F1 H1 v1 h1 f1 r1 sr1 fr1 => by
  obtain ⟨F2, f2, r2, rp2⟩ := r1.freeze sr1 fr1
  obtain ⟨b, e, _, p⟩ := asB_of h1 rp2
  exact ⟨b, e, k _ _ _ _ p (f1.trans f2) r2⟩
/-- an expression whose value is a truth, as a test -/
theorem dt_val {e : Expr} {t : TE} {w : W} (h : DE K X Z e t w) (he : ∀ whole, isTrue e X.env whole = (do let v ← whole; standAt e.pos; holding [v] (truthy v)) := by intro _; rfl) : DT K X Z e (tB t) (wB w) := ⟨pt_val h.pe he, run_B h.run⟩
theorem dt_cmp {op : CmpOp} {a b : Expr} {r : R2} {o : O2} {ta tb : TE} {wa wb : W} (hr : OpR X (compareOp op) r) (ho : Snd2 K r o) (hm : behindInMarks op b = false) (ha : DE K X Z a ta wa) (hb : DE K X Z b tb wb) : DT K X Z (.Compare a [op] [b] pos) (tTest (tOp r ta tb)) (wB (wOp o wa wb)) :=
  ⟨pt_cmpR hr ha.pe hb.pe hm, run_B (two_run ha.run hb.run ho)⟩
def wAnd (a b : WT) : WT := fun ρ P => a ρ fun c ρ1 => if c = true then b ρ1 P else P false ρ1
def wOr (a b : WT) : WT := fun ρ P => a ρ fun c ρ1 => if c = true then P true ρ1 else b ρ1 P
def wNot (a : WT) : WT := fun ρ P => a ρ fun c ρ1 => P (!c) ρ1
section
variable {a b : Expr} {rest : List Expr} {ta tb : TT} {wa wb : WT}
theorem DW.dt {e : Expr} {t : TT} {w : WT} (h : DW K X Z e t w) : DT K X Z e t w := ⟨h.pe.pt, h.run⟩
theorem dw_and1 (h : DT K X Z a ta wa) : DW K X Z (.BoolOp .And [a] pos) ta wa := ⟨pw_and1 h.pe, h.run⟩
theorem dw_or1 (h : DT K X Z a ta wa) : DW K X Z (.BoolOp .Or [a] pos) ta wa := ⟨pw_or1 h.pe, h.run⟩
theorem dw_and (h : DT K X Z a ta wa) (g : DW K X Z (.BoolOp .And (b :: rest) pos) tb wb) : DW K X Z (.BoolOp .And (a :: b :: rest) pos) (tAnd ta tb) (wAnd wa wb) :=
  ⟨pw_and h.pe g.pe, fun zo rl q k => h.run zo rl q fun c ρ1 F1 H1 p f1 r1 => by
    cases c with
    | true => exact g.run zo r1 p fun b ρ2 F2 H2 p2 f2 r2 => k _ _ _ _ p2 (f1.trans f2) r2
    | false => exact k _ _ _ _ p f1 r1⟩
theorem dw_or (h : DT K X Z a ta wa) (g : DW K X Z (.BoolOp .Or (b :: rest) pos) tb wb) : DW K X Z (.BoolOp .Or (a :: b :: rest) pos) (tOr ta tb) (wOr wa wb) :=
  ⟨pw_or h.pe g.pe, fun zo rl q k => h.run zo rl q fun c ρ1 F1 H1 p f1 r1 => by
    cases c with
    | true => exact k _ _ _ _ p f1 r1
    | false => exact g.run zo r1 p fun b ρ2 F2 H2 p2 f2 r2 => k _ _ _ _ p2 (f1.trans f2) r2⟩
theorem dt_not (h : DT K X Z a ta wa) : DT K X Z (.UnaryOp .Not a pos) (tNot ta) (wNot wa) := ⟨pt_not h.pe, fun zo rl q k => h.run zo rl q fun c ρ1 F1 H1 p f1 r1 => k _ _ _ _ p f1 r1⟩
end
/-- .. as values -/
def wAndV (a b : W) : W := fun ρ P => a ρ fun s ρ1 => asB s.fz fun c => if c = true then b ρ1 P else P (.d (.bl false)) ρ1
def wOrV (a b : W) : W := fun ρ P => a ρ fun s ρ1 => asB s.fz fun c => if c = true then P (.d (.bl true)) ρ1 else b ρ1 P
def wNotV (a : W) : W := fun ρ P => a ρ fun s ρ1 => asB s.fz fun c => P (.d (.bl (!c))) ρ1
def wIf (c : WT) (a b : W) : W := fun ρ P => c ρ fun k ρ1 => if k = true then a ρ1 P else b ρ1 P
section
variable {a b c : Expr} {rest : List Expr} {ta tb : TE} {wa wb : W} {tc : TT} {wc : WT}
theorem de_one {op} (h : DE K X Z a ta wa) : DE K X Z (.BoolOp op [a] pos) ta wa := ⟨pe_one h.pe, h.run⟩
theorem de_and (h : DE K X Z a ta wa) (g : DE K X Z (.BoolOp .And (b :: rest) pos) tb wb) : DE K X Z (.BoolOp .And (a :: b :: rest) pos) (tAndV ta tb) (wAndV wa wb) :=
  ⟨pe_and h.pe g.pe, fun zo rl q k => h.run zo rl q fun s1 ρ1 F1 H1 v1 h1 f1 r1 sr1 fr1 => by
    obtain ⟨F2, f2, r2, rp2⟩ := r1.freeze sr1 fr1
    obtain ⟨b, e, _, p⟩ := asB_of h1 rp2
    refine ⟨b, e, ?_⟩
    cases b with
    | true => exact g.run zo r2 p fun s ρ3 F3 H3 v3 p3 f3 r3 sr3 fr3 => k _ _ _ _ _ p3 (f1.trans (f2.trans f3)) r3 sr3 fr3
    | false => exact k _ _ _ _ _ p (f1.trans f2) r2 rfl fun w => nomatch w⟩
theorem de_or (h : DE K X Z a ta wa) (g : DE K X Z (.BoolOp .Or (b :: rest) pos) tb wb) : DE K X Z (.BoolOp .Or (a :: b :: rest) pos) (tOrV ta tb) (wOrV wa wb) :=
  ⟨pe_or h.pe g.pe, fun zo rl q k => h.run zo rl q fun s1 ρ1 F1 H1 v1 h1 f1 r1 sr1 fr1 => by
    obtain ⟨F2, f2, r2, rp2⟩ := r1.freeze sr1 fr1
    obtain ⟨b, e, _, p⟩ := asB_of h1 rp2
    refine ⟨b, e, ?_⟩
    cases b with
    | true => exact k _ _ _ _ _ p (f1.trans f2) r2 rfl fun w => nomatch w
    | false => exact g.run zo r2 p fun s ρ3 F3 H3 v3 p3 f3 r3 sr3 fr3 => k _ _ _ _ _ p3 (f1.trans (f2.trans f3)) r3 sr3 fr3⟩
theorem de_not (h : DE K X Z a ta wa) : DE K X Z (.UnaryOp .Not a pos) (tNotV ta) (wNotV wa) :=
  ⟨pe_not h.pe, fun zo rl q k => h.run zo rl q fun s1 ρ1 F1 H1 v1 h1 f1 r1 sr1 fr1 => by
    obtain ⟨F2, f2, r2, rp2⟩ := r1.freeze sr1 fr1
    obtain ⟨b, e, _, p⟩ := asB_of h1 rp2
    exact ⟨b, e, k _ _ _ _ _ p (f1.trans f2) r2 rfl fun w => nomatch w⟩⟩
theorem de_if (hc : DT K X Z c tc wc) (h : DE K X Z a ta wa) (g : DE K X Z b tb wb) : DE K X Z (.IfExp c a b pos) (tIf tc ta tb) (wIf wc wa wb) :=
  ⟨pe_ifExp hc.pe h.pe g.pe, fun zo rl q k => hc.run zo rl q fun c ρ1 F1 H1 p f1 r1 => by
    cases c with
    | true => exact h.run zo r1 p fun s ρ3 F3 H3 v3 p3 f3 r3 sr3 fr3 => k _ _ _ _ _ p3 (f1.trans f3) r3 sr3 fr3
    | false => exact g.run zo r1 p fun s ρ3 F3 H3 v3 p3 f3 r3 sr3 fr3 => k _ _ _ _ _ p3 (f1.trans f3) r3 sr3 fr3⟩
end
end
end DL
/-! DL3: statements, targets, loops, comprehensions over data. -/
namespace DL
open PySem L2

structure DEnds where
  nx : R → Prop
  rt : S → Prop
  bk : R → Prop := fun _ => False
  ct : R → Prop := fun _ => False
abbrev WS := DEnds → R → Prop
structure EndsOk (K : PySem.W.Frag) (H0 F0 F : Hp) (DD : DEnds) (Dh : Ends) : Prop where
  nx : ∀ ρ' F' H' σ', DD.nx ρ' → Same F F' → Rel K H0 F0 F' H' ρ' σ' → Dh.nx σ' H'
  rt : ∀ s v F' H', DD.rt s → Same F F' → Same H0 H' → Same F0 F' → Same F' H' → (∀ a, F' a ≠ none → F0 a ≠ none ∨ H0 a = none) → SRep K H0 F' H' s v → Dh.rt v H'
  bk : ∀ ρ' F' H' σ', DD.bk ρ' → Same F F' → Rel K H0 F0 F' H' ρ' σ' → Dh.bk σ' H'
  ct : ∀ ρ' F' H' σ', DD.ct ρ' → Same F F' → Rel K H0 F0 F' H' ρ' σ' → Dh.ct σ' H'
theorem EndsOk.on {K : PySem.W.Frag} {H0 F0 F F1 : Hp} {DD : DEnds} {Dh : Ends} (e : EndsOk K H0 F0 F DD Dh) (f : Same F F1) : EndsOk K H0 F0 F1 DD Dh :=
  ⟨fun ρ' F' H' σ' h g => e.nx ρ' F' H' σ' h (f.trans g), fun s v F' H' h g => e.rt s v F' H' h (f.trans g), fun ρ' F' H' σ' h g => e.bk ρ' F' H' σ' h (f.trans g), fun ρ' F' H' σ' h g => e.ct ρ' F' H' σ' h (f.trans g)⟩
def RunS (K : PySem.W.Frag) (Z : Zx) (t : TS) (w : WS) : Prop := ∀ {H0 F0 F H : Hp} {ρ : R} {σ : St} {DD : DEnds} {Dh : Ends}, Z.Ok K H0 F0 → Rel K H0 F0 F H ρ σ → EndsOk K H0 F0 F DD Dh → w DD ρ → t Dh σ H
structure DS (K : PySem.W.Frag) (X : Cx) (Z : Zx) (s : Stmt) (t : TS) (w : WS) : Prop where
  pe : PS X s t
  run : RunS K Z t w
structure DSs (K : PySem.W.Frag) (X : Cx) (Z : Zx) (s : List Stmt) (t : TS) (w : WS) : Prop where
  pe : PSs X s t
  run : RunS K Z t w
section
variable {K : PySem.W.Frag} {X : Cx} {Z : Zx} {pos : Pos} {st : Stmt} {rest : List Stmt} {t u : TS} {w v : WS} {e : Expr} {te : TE} {we : W}
def wNext : WS := fun DD ρ => DD.nx ρ
def wSeq (w v : WS) : WS := fun DD ρ => w { DD with nx := v DD } ρ
theorem run_next : RunS K Z tNext wNext := fun {H0 F0 F H ρ σ DD Dh} zo rl ee h => ee.nx ρ F H σ h (Same.refl _) rl
theorem run_seq (h1 : RunS K Z t w) (h2 : RunS K Z u v) : RunS K Z (tSeq t u) (wSeq w v) := fun {H0 F0 F H ρ σ DD Dh} zo rl ee h =>
  h1 (DD := { DD with nx := v DD }) (Dh := { Dh with nx := u Dh }) zo rl ⟨fun ρ' F' H' σ' q f r => h2 zo r (ee.on f) q, ee.rt, ee.bk, ee.ct⟩ h
theorem dss_nil : DSs K X Z [] tNext wNext := ⟨pss_nil, run_next⟩
theorem dss_cons (h1 : DS K X Z st t w) (h2 : DSs K X Z rest u v) : DSs K X Z (st :: rest) (tSeq t u) (wSeq w v) := ⟨pss_cons h1.pe h2.pe, run_seq h1.run h2.run⟩
theorem dss_one (h1 : DS K X Z st t w) : DSs K X Z [st] t w := ⟨pss_one h1.pe, h1.run⟩
theorem ds_pass : DS K X Z (.Pass pos) tNext wNext := ⟨ps_pass, run_next⟩
def wBreak : WS := fun DD ρ => DD.bk ρ
def wCont : WS := fun DD ρ => DD.ct ρ
theorem ds_break : DS K X Z (.Break pos) tBreak wBreak := ⟨ps_break, fun {H0 F0 F H ρ σ DD Dh} zo rl ee h => ee.bk ρ F H σ h (Same.refl _) rl⟩
theorem ds_cont : DS K X Z (.Continue pos) tCont wCont := ⟨ps_continue, fun {H0 F0 F H ρ σ DD Dh} zo rl ee h => ee.ct ρ F H σ h (Same.refl _) rl⟩
def wDrop (we : W) : WS := fun DD ρ => we ρ fun _ ρ' => DD.nx ρ'
theorem ds_expr (he : DE K X Z e te we) (hs : swapsWith e none pos.line X.env = pure false := by rfl) : DS K X Z (.Expr e pos) (tDrop te) (wDrop we) :=
  ⟨ps_expr he.pe hs, fun {H0 F0 F H ρ σ DD Dh} zo rl ee h => he.run zo rl h fun s ρ' F' H' v p f r _ _ => ee.nx ρ' F' H' σ p f r⟩
def wRet (we : W) : WS := fun DD ρ => we ρ fun s _ => DD.rt s
theorem ds_ret (he : DE K X Z e te we) : DS K X Z (.Return (some e) pos) (tRet te) (wRet we) :=
  ⟨ps_ret he.pe, fun {H0 F0 F H ρ σ DD Dh} zo rl ee h => he.run zo rl h fun s ρ' F' H' v p f r sr _ => ee.rt s v F' H' p f r.h r.f r.fh r.nw sr⟩
def wRetN : WS := fun DD _ => DD.rt (.d .non)
theorem ds_retN : DS K X Z (.Return none pos) tRetN wRetN :=
  ⟨ps_retN, fun {H0 F0 F H ρ σ DD Dh} zo rl ee h => ee.rt (.d .non) .non F H h (Same.refl _) rl.h rl.f rl.fh rl.nw rfl⟩
def wIfS (c : WT) (a b : WS) : WS := fun DD ρ => c ρ fun k ρ1 => if k = true then a DD ρ1 else b DD ρ1
theorem ds_if {c : Expr} {a b : List Stmt} {tc : TT} {wc : WT} (hc : DT K X Z c tc wc) (ha : DSs K X Z a t w) (hb : DSs K X Z b u v) : DS K X Z (.If c a b pos) (tIfS tc t u) (wIfS wc w v) :=
  ⟨ps_if hc.pe ha.pe hb.pe, fun {H0 F0 F H ρ σ DD Dh} zo rl ee h => hc.run zo rl h fun k ρ1 F1 H1 p f r => by
    cases k with
    | true => exact ha.run zo r (ee.on f) p
    | false => exact hb.run zo r (ee.on f) p⟩
def wNever : WS := fun _ _ => False
theorem ds_never : DS K X Z st tNever wNever := ⟨ps_never, fun zo rl ee h => h.elim⟩
theorem dss_never {sts : List Stmt} : DSs K X Z sts tNever wNever := ⟨pss_never, fun zo rl ee h => h.elim⟩

/-! ### targets -/
/-- a name takes what comes, own or not -/
def wSet (i : Nat) (we : W) : WS := fun DD ρ => we ρ fun s ρ1 => DD.nx (put ρ1 i (some s))
theorem run_set {i : Nat} (he : RunE K Z te we) : RunS K Z (tAsg te (gName i)) (wSet i we) := fun {H0 F0 F H ρ σ DD Dh} zo rl ee h =>
  he zo rl h fun s ρ' F' H' v p f r sr fr => by
    rw [put_eq] at p
    exact ee.nx _ F' H' _ p f (r.store sr fr i)
theorem ds_set (i : Nat) {x : Str} {py : Pos} (hN : X.N.Nodup) (he : DE K X Z e te we) (hi : X.N[i]? = some x := by rfl) (hx : Loc X.env.scope x := by first | exact Or.inl rfl | exact Or.inr rfl)
    (hf : X.fn x = true ∨ X.env.scope.names.lookup x = some .local := by first | exact .inl rfl | exact .inr rfl)
    (hs : swapsWithSole [.Name x py] e pos.line X.env = pure false := by rfl) (hw : swappedStores [.Name x py] e X.env = pure none := by rfl) (h1 : (assignEach [.Name x py] X.env).map (·.2) = [assign (.Name x py) X.env] := by rfl) :
    DS K X Z (.Assign [.Name x py] e pos) (tAsg te (gName i)) (wSet i we) := ⟨ps_asg he.pe (pg_name hN hi hx hf) hs hw h1, run_set he.run⟩
abbrev WG := D → R → (R → Prop) → Prop
abbrev WGs := List D → R → (R → Prop) → Prop
def RunG (K : PySem.W.Frag) (Z : Zx) (t : TG) (w : WG) : Prop := ∀ {H0 F0 F H : Hp} {ρ : R} {σ : St} {Q : St → Hp → Prop} {P : R → Prop} {d : D} {v : V}, Z.Ok K H0 F0 → Rel K H0 F0 F H ρ σ → Rep K F d v → w d ρ P →
    (∀ ρ' F' H' σ', P ρ' → Same F F' → Rel K H0 F0 F' H' ρ' σ' → Q σ' H') → t v σ H Q
def RunGs (K : PySem.W.Frag) (Z : Zx) (t : TGs) (w : WGs) : Prop := ∀ {H0 F0 F H : Hp} {ρ : R} {σ : St} {Q : St → Hp → Prop} {P : R → Prop} {ds : List D} {vs : List V}, Z.Ok K H0 F0 → Rel K H0 F0 F H ρ σ → Reps K F ds vs → w ds ρ P →
    (∀ ρ' F' H' σ', P ρ' → Same F F' → Rel K H0 F0 F' H' ρ' σ' → Q σ' H') → t vs σ H Q
structure DG (K : PySem.W.Frag) (X : Cx) (Z : Zx) (e : Expr) (t : TG) (w : WG) : Prop where
  pe : PG X e t
  run : RunG K Z t w
structure DGs (K : PySem.W.Frag) (X : Cx) (Z : Zx) (es : List Expr) (t : TGs) (w : WGs) : Prop where
  pe : PGs X es t
  run : RunGs K Z t w
def wgName (i : Nat) : WG := fun d ρ P => P (put ρ i (some (.d d)))
theorem dg_name (i : Nat) {x : Str} (hN : X.N.Nodup) (hi : X.N[i]? = some x := by rfl) (hx : Loc X.env.scope x := by first | exact Or.inl rfl | exact Or.inr rfl) (hf : X.fn x = true ∨ X.env.scope.names.lookup x = some .local := by first | exact .inl rfl | exact .inr rfl) :
    DG K X Z (.Name x pos) (gName i) (wgName i) :=
  ⟨pg_name hN hi hx hf, fun {H0 F0 F H ρ σ Q P d v} zo rl rp h k => by
    rw [wgName, put_eq] at h
    exact k _ F H _ h (Same.refl _) (rl.store (s := .d d) rp (fun w => nomatch w) i)⟩
def wgNil : WGs := fun ds ρ P => ds = [] ∧ P ρ
def wgCons (w : WG) (r : WGs) : WGs := fun ds ρ P => match ds with
  | d :: ds => w d ρ fun ρ1 => r ds ρ1 P
  | [] => False
theorem dgs_nil : DGs K X Z [] gNil wgNil := ⟨pgs_nil, fun {H0 F0 F H ρ σ Q P ds vs} zo rl rp h k => by
    obtain ⟨rfl, p⟩ := h
    exact ⟨rp, k _ F H σ p (Same.refl _) rl⟩⟩
theorem dgs_cons {es : List Expr} {tg : TG} {tr : TGs} {wg : WG} {wr : WGs} (h1 : DG K X Z e tg wg) (h2 : DGs K X Z es tr wr) (hs : (assignEach (e :: es) X.env).map (·.2) = assign e X.env :: (assignEach es X.env).map (·.2) := by rfl) :
    DGs K X Z (e :: es) (gCons tg tr) (wgCons wg wr) := ⟨pgs_cons h1.pe h2.pe hs, fun {H0 F0 F H ρ σ Q P ds vs} zo rl rp h k => by
    cases ds with
    | nil => exact h.elim
    | cons d ds =>
      obtain ⟨v, r, rfl, q1, q2⟩ := rp
      exact ⟨v, r, rfl, h1.run zo rl q1 h fun ρ1 F1 H1 σ1 p f r1 => h2.run zo r1 (Reps.mono f _ _ q2) p fun ρ2 F2 H2 σ2 p2 f2 r2 => k _ _ _ _ p2 (f.trans f2) r2⟩⟩
def wgTup (n : Nat) (wr : WGs) : WG := fun d ρ P => match d with
  | .tup ds => ds.length = n ∧ wr ds ρ P
  | _ => False
theorem dg_tup {es : List Expr} {kx : Nat} {tr : TGs} {wr : WGs} {n : Nat} (hc : X.calm = true) (h : DGs K X Z es tr wr) (hK : X.K = K := by rfl) (hn : (assignEach es X.env).length = n := by rfl) (hst : (assignEach es X.env).findIdx? (·.1) = none := by rfl) :
    DG K X Z (.Tuple es kx pos) (gTup K n tr) (wgTup n wr) := by
  refine ⟨by subst hK; exact pg_tup hc h.pe hn hst, fun {H0 F0 F H ρ σ Q P d v} zo rl rp q k => ?_⟩
  cases d with
  | tup ds =>
    obtain ⟨a, vs, rfl, s1, s2⟩ := rp
    exact ⟨a, vs, rfl, Same.sqT rl.fh s1, by rw [s2.len]; exact q.1, h.run zo rl s2 q.2 k⟩
  | _ => exact q.elim
/-- target = value, the value as data -/
def wAsg (we : W) (wg : WG) : WS := fun DD ρ => we ρ fun s ρ1 => wg s.fz ρ1 DD.nx
theorem ds_asg {tg : Expr} {g : TG} {wg : WG} (he : DE K X Z e te we) (hg : DG K X Z tg g wg) (hs : swapsWithSole [tg] e pos.line X.env = pure false := by rfl) (hw : swappedStores [tg] e X.env = pure none := by rfl)
    (h1 : (assignEach [tg] X.env).map (·.2) = [assign tg X.env] := by rfl) : DS K X Z (.Assign [tg] e pos) (tAsg te g) (wAsg we wg) :=
  ⟨ps_asg he.pe hg.pe hs hw h1, fun {H0 F0 F H ρ σ DD Dh} zo rl ee h => he.run zo rl h fun s ρ' F' H' v p f r sr fr => by
    obtain ⟨F2, f2, r2, rp2⟩ := r.freeze sr fr
    exact hg.run zo r2 rp2 p fun ρ3 F3 H3 σ3 p3 f3 r3 => ee.nx _ _ _ _ p3 (f.trans (f2.trans f3)) r3⟩

/-! ### what a loop walks -/
structure ItOk (K : PySem.W.Frag) (J : It) (items : List D) (F1 : Hp) : Prop where
  go : ∀ {i : Nat} {F H : Hp}, Same F1 F → Same F H → i < items.length → J.go i H
  stop : ∀ {i : Nat} {F H : Hp}, Same F1 F → Same F H → items.length ≤ i → J.stop i H
  yld : ∀ {i : Nat} {F H H2 : Hp} {x : V}, Same F1 F → Same F H → J.yld i H x H2 → i < items.length →
    ∃ F2 d, items[i]? = some d ∧ Same H H2 ∧ Same F F2 ∧ Same F2 H2 ∧ (∀ a, F2 a ≠ none → F a ≠ none ∨ H a = none) ∧ Rep K F2 d x
def RunI (K : PySem.W.Frag) (Z : Zx) (t : TI) (w : WA) : Prop := ∀ {H0 F0 F H : Hp} {ρ : R} {σ : St} {Q : It → Hp → Prop} {P : List D → R → Prop}, Z.Ok K H0 F0 → Rel K H0 F0 F H ρ σ → w ρ P →
    (∀ items ρ' F' H' J, P items ρ' → Same F F' → Rel K H0 F0 F' H' ρ' σ → ItOk K J items F' → Q J H') → t σ H Q
structure DI (K : PySem.W.Frag) (X : Cx) (Z : Zx) (tg iter : Expr) (t : TI) (w : WA) : Prop where
  pe : PI X tg iter t
  run : RunI K Z t w
theorem ItOk.pure {K : PySem.W.Frag} {J : It} {items : List D} {F1 : Hp} (go : ∀ {i : Nat} {F H : Hp}, Same F1 F → Same F H → i < items.length → J.go i H) (stop : ∀ {i : Nat} {F H : Hp}, Same F1 F → Same F H → items.length ≤ i → J.stop i H)
    (yld : ∀ {i : Nat} {F H H2 : Hp} {x : V}, Same F1 F → Same F H → J.yld i H x H2 → i < items.length → ∃ d, items[i]? = some d ∧ H2 = H ∧ Rep K F d x) : ItOk K J items F1 :=
  ⟨go, stop, fun f h y l => by
    obtain ⟨d, e, rfl, r⟩ := yld f h y l
    exact ⟨_, d, e, Same.refl _, Same.refl _, h, fun _ q => .inl q, r⟩⟩
def asL (d : D) (P : List D → Prop) : Prop := match d with
  | .lst xs => P xs
  | .cel ns => P (ns.map .int)
  | _ => False
theorem asL_of {K : PySem.W.Frag} {F : Hp} {d : D} {v : V} {P : List D → Prop} (h : asL d P) (r : Rep K F d v) : ∃ a vs xs, v = .ref a ∧ SqL K F a vs ∧ Reps K F xs vs ∧ P xs := by
  cases d <;> first
    | exact h.elim
    | (obtain ⟨a, vs, e, h1, h2⟩ := r; exact ⟨a, vs, _, e, SqL.of h1, h2, h⟩)
    | (obtain ⟨a, e, h1⟩ := r; exact ⟨a, _, _, e, h1, Reps.ints.mpr rfl, h⟩)
def asT (d : D) (P : List D → Prop) : Prop := match d with
  | .tup xs => P xs
  | _ => False
def wiL (we : W) : WA := fun ρ P => we ρ fun s ρ1 => asL s.fz fun xs => P xs ρ1
def wiT (we : W) : WA := fun ρ P => we ρ fun s ρ1 => asT s.fz fun xs => P xs ρ1
theorem di_list {tg : Expr} (he : DE K X Z e te we) (hK : X.K = K := by rfl) : DI K X Z tg e (iList K te) (wiL we) := by
  refine ⟨by subst hK; exact pi_list he.pe, fun {H0 F0 F H ρ σ Q P} zo rl h k => he.run zo rl h fun s1 ρ1 F1 H1 v1 h1 f1 r1 sr1 fr1 => ?_⟩
  obtain ⟨F2, f2, r2, rp2⟩ := r1.freeze sr1 fr1
  obtain ⟨a, vs, xs, rfl, s1, s2, h1⟩ := asL_of h1 rp2
  refine ⟨a, rfl, ⟨vs, r2.fh.seq s1⟩, k xs ρ1 F2 H1 _ h1 (f1.trans f2) r2 (ItOk.pure (fun {i F H} f g l => ?_) (fun {i F H} f g l => ?_) fun {i F H H2 x} f g y l => ?_)⟩
  · have hl : i < vs.length := by rw [s2.len]; exact l
    exact ⟨vs, vs[i], g.seq (f.seq s1), List.getElem?_eq_getElem hl⟩
  · exact ⟨vs, g.seq (f.seq s1), by rw [s2.len]; exact l⟩
  · obtain ⟨rfl, y⟩ := y
    obtain ⟨d, e, r⟩ := s2.get' (y vs (g.seq (f.seq s1)))
    exact ⟨d, e, rfl, Rep.mono f _ _ r⟩
theorem di_tup {tg : Expr} (he : DE K X Z e te we) (hK : X.K = K := by rfl) : DI K X Z tg e (iTup K te) (wiT we) := by
  refine ⟨by subst hK; exact pi_tup he.pe, fun {H0 F0 F H ρ σ Q P} zo rl h k => he.run zo rl h fun s1 ρ1 F1 H1 v1 h1 f1 r1 sr1 fr1 => ?_⟩
  obtain ⟨F2, f2, r2, rp2⟩ := r1.freeze sr1 fr1
  generalize s1.fz = d at h1 rp2
  cases d with
  | tup xs =>
    obtain ⟨a, vs, rfl, s1, s2⟩ := rp2
    refine ⟨a, rfl, ⟨vs, Same.sqT r2.fh s1⟩, k xs ρ1 F2 H1 _ h1 (f1.trans f2) r2 (ItOk.pure (fun {i F H} f g l => ?_) (fun {i F H} f g l => ?_) fun {i F H H2 x} f g y l => ?_)⟩
    · have hl : i < vs.length := by rw [s2.len]; exact l
      exact ⟨vs, vs[i], Same.sqT g (Same.sqT f s1), List.getElem?_eq_getElem hl⟩
    · exact ⟨vs, Same.sqT g (Same.sqT f s1), by rw [s2.len]; exact l⟩
    · obtain ⟨rfl, y⟩ := y
      obtain ⟨d, e, r⟩ := s2.get' (y vs (Same.sqT g (Same.sqT f s1)))
      exact ⟨d, e, rfl, Rep.mono f _ _ r⟩
  | _ => exact h1.elim
/-- a text's signs -/
def signs (z : Str) : List Str := z.cps.toList.map fun c => ⟨#[c]⟩
def wiS (we : W) : WA := fun ρ P => we ρ fun s ρ1 => match s.fz with
  | .str z => P ((signs z).map .str) ρ1
  | _ => False
theorem di_str {tg : Expr} (he : DE K X Z e te we) : DI K X Z tg e (iStr te) (wiS we) := by
  refine ⟨pi_str he.pe, fun {H0 F0 F H ρ σ Q P} zo rl h k => he.run zo rl h fun s1 ρ1 F1 H1 v1 h1 f1 r1 sr1 fr1 => ?_⟩
  obtain ⟨F2, f2, r2, rp2⟩ := r1.freeze sr1 fr1
  generalize s1.fz = d at h1 rp2
  cases d with
  | str z =>
    have hlen : ((signs z).map D.str).length = z.cps.size := by simp [signs]
    refine ⟨z, rp2, k _ ρ1 F2 H1 _ h1 (f1.trans f2) r2 (ItOk.pure (fun {i F H} f g l => ?_) (fun {i F H} f g l => ?_) fun {i F H H2 x} f g y l => ?_)⟩
    · show i < z.cps.size
      omega
    · show z.cps.size ≤ i
      omega
    · obtain ⟨rfl, c, hc, rfl⟩ := y
      refine ⟨.str ⟨#[c]⟩, ?_, rfl, rfl⟩
      have hc' : z.cps.toList[i]? = some c := by rw [Array.getElem?_toList]; exact hc
      simp [signs, hc']
  | _ => exact h1.elim
def rangeD (lo : Int) (n : Nat) : List D := (List.range n).map fun (i : Nat) => .int (lo + i)
theorem rangeD_len (lo : Int) (n : Nat) : (rangeD lo n).length = n := by simp [rangeD]
theorem it_range {K : PySem.W.Frag} {lo : Int} {n : Nat} {F1 : Hp} : ItOk K (Itr lo n) (rangeD lo n) F1 :=
  ItOk.pure (fun {i F H} f g l => by rw [rangeD_len] at l; exact l) (fun {i F H} f g l => by rw [rangeD_len] at l; exact l) fun {i F H H2 x} f g y l => by
    obtain ⟨rfl, rfl⟩ := y
    rw [rangeD_len] at l
    exact ⟨.int (lo + i), by simp [rangeD, l], rfl, rfl⟩
def wiR1 (wa : WA) : WA := fun ρ P => wa ρ fun ds ρ1 => match ds with
  | [.int j] => (-(2 ^ 62) ≤ j ∧ j < 2 ^ 62) ∧ P (rangeD 0 j.toNat) ρ1
  | _ => False
def wiR2 (wa : WA) : WA := fun ρ P => wa ρ fun ds ρ1 => match ds with
  | [.int i, .int j] => (-(2 ^ 62) ≤ i ∧ i < 2 ^ 62 ∧ -(2 ^ 62) ≤ j ∧ j < 2 ^ 62) ∧ P (rangeD i (j - i).toNat) ρ1
  | _ => False
theorem di_range1 {tg a : Expr} {p : Pos} {ta : TA} {wa : WA} (hm : X.mg "range" = none) (ha : DA K X Z [a] ta wa) (hg : Gl X "range" := by rfl) (hs : starEach [a] X.env = [(false, eval a X.env)] := by rfl) :
    DI K X Z tg (.Call (.Name "range" p) [a] [] pos) (iRng1 ta) (wiR1 wa) := by
  refine ⟨pi_range1 hg hm ha.pe hs, fun {H0 F0 F H ρ σ Q P} zo rl h k => ha.run zo rl h fun ds ρ1 F1 H1 vs h1 f1 r1 rps => ?_⟩
  split at h1
  · obtain ⟨v, r, rfl, rfl, rfl⟩ := rps
    exact ⟨_, rfl, h1.1.1, h1.1.2, k _ _ _ _ _ h1.2 f1 r1 it_range⟩
  · exact h1.elim
theorem di_range2 {tg a b : Expr} {p : Pos} {ta : TA} {wa : WA} (hm : X.mg "range" = none) (ha : DA K X Z [a, b] ta wa) (hg : Gl X "range" := by rfl) (hs : starEach [a, b] X.env = [(false, eval a X.env), (false, eval b X.env)] := by rfl) (hs2 : starEach [b] X.env = [(false, eval b X.env)] := by rfl) :
    DI K X Z tg (.Call (.Name "range" p) [a, b] [] pos) (iRng2 ta) (wiR2 wa) := by
  refine ⟨pi_range2 hg hm ha.pe hs hs2, fun {H0 F0 F H ρ σ Q P} zo rl h k => ha.run zo rl h fun ds ρ1 F1 H1 vs h1 f1 r1 rps => ?_⟩
  split at h1
  · obtain ⟨v, r, rfl, rfl, v2, r2, rfl, rfl, rfl⟩ := rps
    exact ⟨_, _, rfl, h1.1, k _ _ _ _ _ h1.2 f1 r1 it_range⟩
  · exact h1.elim

/-! ### for -/
def forD (wg : WG) (wb : WS) (DD : DEnds) : List D → R → Prop
  | [], ρ => DD.nx ρ
  | d :: ds, ρ => wg d ρ fun ρ1 => ∃ N : R → Prop, (∀ ρ', N ρ' → forD wg wb DD ds ρ') ∧ wb ⟨N, DD.rt, DD.nx, N⟩ ρ1
def wFor (wi : WA) (wg : WG) (wb : WS) : WS := fun DD ρ => wi ρ fun items ρ1 => forD wg wb DD items ρ1
theorem run_for {wi : TI} {wa : WA} {g : TG} {wg : WG} {tb : TS} {wb : WS} (hi : RunI K Z wi wa) (hg : RunG K Z g wg) (hb : RunS K Z tb wb) : RunS K Z (tFor wi g tb) (wFor wa wg wb) := fun {H0 F0 F H ρ σ DD Dh} zo rl ee h => by
  refine hi zo rl h fun items ρ1 F1 H1 J h1 f1 r1 it => ?_
  refine ⟨fun i m σ H => m = items.length - i ∧ i ≤ items.length ∧ ∃ F2 ρ2, Same F1 F2 ∧ Rel K H0 F0 F2 H ρ2 σ ∧ forD wg wb DD (items.drop i) ρ2, ⟨_, rfl, Nat.zero_le _, F1, ρ1, Same.refl _, r1, h1⟩, ?_⟩
  rintro i m σ H ⟨rfl, hi, F2, ρ2, f2, r2, w⟩
  by_cases hlt : i < items.length
  · refine .inr ⟨it.go f2 r2.fh hlt, fun σ' H' => (fun i m σ H => m = items.length - i ∧ i ≤ items.length ∧ ∃ F2 ρ2, Same F1 F2 ∧ Rel K H0 F0 F2 H ρ2 σ ∧ forD wg wb DD (items.drop i) ρ2) (i + 1) (items.length - (i + 1)) σ' H',
      fun σ' H' q => ⟨_, by omega, q⟩, fun x H2 y => ?_⟩
    obtain ⟨F3, d, e, hh, ff, fh, nw, rp⟩ := it.yld f2 r2.fh y hlt
    have r3 : Rel K H0 F0 F3 H2 ρ2 σ := r2.after hh ff fh nw
    rw [List.drop_eq_getElem_cons hlt] at w
    have ed : items[i] = d := by rw [List.getElem?_eq_getElem hlt] at e; exact Option.some.inj e
    rw [ed] at w
    refine hg zo r3 rp w fun ρ4 F4 H4 σ4 p4 f4 r4 => ?_
    obtain ⟨N, hN, p4⟩ := p4
    refine hb (DD := ⟨N, DD.rt, DD.nx, N⟩) zo r4 ⟨fun ρ' F' H' σ' q f r => ?_, ?_, fun ρ' F' H' σ' q f r => ee.nx _ _ _ _ q (f1.trans (f2.trans (ff.trans (f4.trans f)))) r, fun ρ' F' H' σ' q f r => ?_⟩ p4
    · exact ⟨rfl, hlt, F', ρ', f2.trans (ff.trans (f4.trans f)), r, hN _ q⟩
    · exact fun s v F' H' q f => ee.rt s v F' H' q (f1.trans (f2.trans (ff.trans (f4.trans f))))
    · exact ⟨rfl, hlt, F', ρ', f2.trans (ff.trans (f4.trans f)), r, hN _ q⟩
  · have e : items.drop i = [] := List.drop_eq_nil_of_le (by omega)
    rw [e] at w
    exact .inl ⟨it.stop f2 r2.fh (by omega), ee.nx _ _ _ _ w (f1.trans f2) r2⟩
theorem ds_for {tg iter : Expr} {body : List Stmt} {wi : TI} {wa : WA} {g : TG} {wg : WG} {tb : TS} {wb : WS} (hp : PassesOwn (model X.prog X.w) X.A X.env X.xe) (hc : X.calm = true) (hi : DI K X Z tg iter wi wa) (hg : DG K X Z tg g wg) (hb : DSs K X Z body tb wb)
    (hs : ∀ x, foldedSetIterable iter X.env x = pure x := by intro _; rfl) : DS K X Z (.For tg iter body [] pos) (tFor wi g tb) (wFor wa wg wb) := ⟨ps_for hp hc hi.pe hg.pe hb.pe hs, run_for hi.run hg.run hb.run⟩
/-! ### while -/
def wWhile (wc : WT) (wb : WS) : WS := fun DD ρ => ∃ W : Nat → R → Prop, (∃ m, W m ρ) ∧ ∀ m ρ, W m ρ → wc ρ fun b ρ1 => if b = true then wb ⟨fun ρ' => ∃ m', m' < m ∧ W m' ρ', DD.rt, DD.nx, fun ρ' => ∃ m', m' < m ∧ W m' ρ'⟩ ρ1 else DD.nx ρ1
theorem ds_while {c : Expr} {body : List Stmt} {tc : TT} {wc : WT} {tb : TS} {wb : WS} (hp : PassesOwn (model X.prog X.w) X.A X.env X.xe) (hc : DT K X Z c tc wc) (hb : DSs K X Z body tb wb) : DS K X Z (.While c body [] pos) (tWhile tc tb) (wWhile wc wb) :=
  ⟨ps_while hp hc.pe hb.pe, fun {H0 F0 F H ρ σ DD Dh} zo rl ee h => by
    obtain ⟨W, ⟨m0, w0⟩, turn⟩ := h
    refine ⟨fun m σ H => ∃ F2 ρ2, Same F F2 ∧ Rel K H0 F0 F2 H ρ2 σ ∧ W m ρ2, ⟨m0, F, ρ, Same.refl _, rl, w0⟩, ?_⟩
    rintro m σ H ⟨F2, ρ2, f2, r2, w⟩
    refine hc.run zo r2 (turn m ρ2 w) fun b ρ3 F3 H3 p f3 r3 => ?_
    cases b with
    | true =>
      refine ⟨fun σ' H' => ∃ m', m' < m ∧ ∃ F2 ρ2, Same F F2 ∧ Rel K H0 F0 F2 H' ρ2 σ' ∧ W m' ρ2, fun σ' H' q => q, ?_⟩
      refine hb.run (DD := ⟨fun ρ' => ∃ m', m' < m ∧ W m' ρ', DD.rt, DD.nx, fun ρ' => ∃ m', m' < m ∧ W m' ρ'⟩) zo r3 ⟨fun ρ' F' H' σ' q f r => ?_, fun s v F' H' q f => ee.rt s v F' H' q (f2.trans (f3.trans f)), fun ρ' F' H' σ' q f r => ee.nx _ _ _ _ q (f2.trans (f3.trans f)) r, fun ρ' F' H' σ' q f r => ?_⟩ p
      all_goals
        obtain ⟨m', hm, w'⟩ := q
        exact ⟨m', hm, F', ρ', f2.trans (f3.trans f), r, w'⟩
    | false => exact ee.nx _ _ _ _ p (f2.trans f3) r3⟩

/-! ### comprehensions -/
def wipeR (ρ : R) : List Nat → R
  | [] => ρ
  | v :: vs => put (wipeR ρ vs) v none
theorem Rel.setN {H0 F0 F H : Hp} {ρ : R} {σ : St} (r : Rel K H0 F0 F H ρ σ) (v : Nat) (x : Option V) : Rel K H0 F0 F H (ρ.set v none) (σ.set v x) := by
  have r1 := r.drop1 v
  refine ⟨r1.h, r1.f, r1.fh, r1.nw, by simp [r.len], fun i s q => ?_, fun i j s t q1 q2 w1 w2 e => ?_⟩
  · have hi : i ≠ v := by rintro rfl; exact set_none q
    obtain ⟨u, q1, q2⟩ := r1.at_ i s q
    exact ⟨u, by rw [List.getElem?_set_ne (Ne.symm hi)]; exact q1, q2⟩
  · have hi : i ≠ v := by rintro rfl; exact set_none q1
    have hj : j ≠ v := by rintro rfl; exact set_none q2
    rw [List.getElem?_set_ne (Ne.symm hi), List.getElem?_set_ne (Ne.symm hj)] at e
    exact r1.ap i j s t q1 q2 w1 w2 e
theorem Rel.wipe {H0 F0 F H : Hp} {ρ : R} {σ : St} (r : Rel K H0 F0 F H ρ σ) : ∀ vs : List Nat, Rel K H0 F0 F H (wipeR ρ vs) (wipe σ vs)
  | [] => r
  | v :: vs => by
    rw [wipeR, put_eq]
    exact (Rel.wipe r vs).setN v none
/-- targets of a block: they touch only the block's own names -/
structure DGb (K : PySem.W.Frag) (X : Cx) (Z : Zx) (e : Expr) (vs : List Nat) (t : TG) (w : WG) : Prop where
  pe : PG X e t
  run : ∀ {H0 F0 F H : Hp} {ρ : R} {σ : St} {Q : St → Hp → Prop} {P : R → Prop} {d : D} {v : V}, Z.Ok K H0 F0 → Rel K H0 F0 F H ρ σ → Rep K F d v → w d ρ P →
    (∀ ρ' F' H' σ', P ρ' → Same F F' → Rel K H0 F0 F' H' ρ' σ' → L2.wipe σ' vs = L2.wipe σ vs → Q σ' H') → t v σ H Q
end
theorem wipe_comm (σ : St) (i : Nat) (x : Option V) : ∀ vs : List Nat, i ∉ vs → L2.wipe (σ.set i x) vs = (L2.wipe σ vs).set i x
  | [], _ => rfl
  | v :: vs, h => by
    have h1 : i ≠ v := fun e => h (by rw [e]; exact List.mem_cons_self)
    show (L2.wipe (σ.set i x) vs).set v none = ((L2.wipe σ vs).set v none).set i x
    rw [wipe_comm σ i x vs fun z => h (List.mem_cons_of_mem _ z), List.set_comm _ _ h1]
theorem wipe_set (σ : St) (i : Nat) (x : Option V) : ∀ vs : List Nat, i ∈ vs → L2.wipe (σ.set i x) vs = L2.wipe σ vs
  | [], h => by cases h
  | v :: vs, h => by
    show (L2.wipe (σ.set i x) vs).set v none = (L2.wipe σ vs).set v none
    by_cases hv : i ∈ vs
    · rw [wipe_set σ i x vs hv]
    · have e : i = v := (List.mem_cons.mp h).elim id fun z => absurd z hv
      subst e
      rw [wipe_comm σ i x vs hv, List.set_set]
theorem wipe_idem (σ : St) : ∀ vs us : List Nat, (∀ v ∈ us, v ∈ vs) → L2.wipe (L2.wipe σ us) vs = L2.wipe σ vs
  | vs, [], _ => rfl
  | vs, u :: us, h => by
    show L2.wipe ((L2.wipe σ us).set u none) vs = L2.wipe σ vs
    rw [wipe_set _ _ _ _ (h u List.mem_cons_self), wipe_idem σ vs us fun v z => h v (List.mem_cons_of_mem _ z)]
section
variable {K : PySem.W.Frag} {X : Cx} {Z : Zx} {pos : Pos} {e : Expr} {te : TE} {we : W}
theorem dgb_name (i : Nat) {vs : List Nat} {x : Str} (hN : X.N.Nodup) (hv : i ∈ vs := by decide) (hi : X.N[i]? = some x := by rfl) (hx : Loc X.env.scope x := by first | exact Or.inl rfl | exact Or.inr rfl) (hf : X.fn x = true ∨ X.env.scope.names.lookup x = some .local := by first | exact .inl rfl | exact .inr rfl) :
    DGb K X Z (.Name x pos) vs (gName i) (wgName i) :=
  ⟨pg_name hN hi hx hf, fun {H0 F0 F H ρ σ Q P d v} zo rl rp h k => by
    rw [wgName, put_eq] at h
    exact k _ F H _ h (Same.refl _) (rl.store (s := .d d) rp (fun w => nomatch w) i) (wipe_set _ _ _ _ hv)⟩
structure DGbs (K : PySem.W.Frag) (X : Cx) (Z : Zx) (es : List Expr) (vs : List Nat) (t : TGs) (w : WGs) : Prop where
  pe : PGs X es t
  run : ∀ {H0 F0 F H : Hp} {ρ : R} {σ : St} {Q : St → Hp → Prop} {P : R → Prop} {ds : List D} {us : List V}, Z.Ok K H0 F0 → Rel K H0 F0 F H ρ σ → Reps K F ds us → w ds ρ P →
    (∀ ρ' F' H' σ', P ρ' → Same F F' → Rel K H0 F0 F' H' ρ' σ' → L2.wipe σ' vs = L2.wipe σ vs → Q σ' H') → t us σ H Q
theorem dgbs_nil {vs : List Nat} : DGbs K X Z [] vs gNil wgNil := ⟨pgs_nil, fun {H0 F0 F H ρ σ Q P ds us} zo rl rp h k => by
    obtain ⟨rfl, p⟩ := h
    exact ⟨rp, k _ F H σ p (Same.refl _) rl rfl⟩⟩
theorem dgbs_cons {es : List Expr} {vs : List Nat} {tg : TG} {tr : TGs} {wg : WG} {wr : WGs} (h1 : DGb K X Z e vs tg wg) (h2 : DGbs K X Z es vs tr wr) (hs : (assignEach (e :: es) X.env).map (·.2) = assign e X.env :: (assignEach es X.env).map (·.2) := by rfl) :
    DGbs K X Z (e :: es) vs (gCons tg tr) (wgCons wg wr) := ⟨pgs_cons h1.pe h2.pe hs, fun {H0 F0 F H ρ σ Q P ds us} zo rl rp h k => by
    cases ds with
    | nil => exact h.elim
    | cons d ds =>
      obtain ⟨v, r, rfl, q1, q2⟩ := rp
      exact ⟨v, r, rfl, h1.run zo rl q1 h fun ρ1 F1 H1 σ1 p f r1 e1 => h2.run zo r1 (Reps.mono f _ _ q2) p fun ρ2 F2 H2 σ2 p2 f2 r2 e2 => k _ _ _ _ p2 (f.trans f2) r2 (e2.trans e1)⟩⟩
theorem dgb_tup {es : List Expr} {vs : List Nat} {kx : Nat} {tr : TGs} {wr : WGs} {n : Nat} (hc : X.calm = true) (h : DGbs K X Z es vs tr wr) (hK : X.K = K := by rfl) (hn : (assignEach es X.env).length = n := by rfl) (hst : (assignEach es X.env).findIdx? (·.1) = none := by rfl) :
    DGb K X Z (.Tuple es kx pos) vs (gTup K n tr) (wgTup n wr) := by
  refine ⟨by subst hK; exact pg_tup hc h.pe hn hst, fun {H0 F0 F H ρ σ Q P d v} zo rl rp q k => ?_⟩
  cases d with
  | tup ds =>
    obtain ⟨a, us, rfl, s1, s2⟩ := rp
    exact ⟨a, us, rfl, Same.sqT rl.fh s1, by rw [s2.len]; exact q.1, h.run zo rl s2 q.2 k⟩
  | _ => exact q.elim
structure DTs (K : PySem.W.Frag) (X : Cx) (Z : Zx) (es : List Expr) (t : TT) (w : WT) : Prop where
  pe : PTs X es t
  run : RunT K Z t w
def wYes : WT := fun ρ P => P true ρ
theorem dts_nil : DTs K X Z [] tYes wYes := ⟨pts_nil, fun {H0 F0 F H ρ σ Q P} zo rl h k => k _ _ F H h (Same.refl _) rl⟩
theorem dts_one {t : TT} {w : WT} (h : DT K X Z e t w) : DTs K X Z [e] t w := ⟨pts_one h.pe, h.run⟩

/-- own objects are out of sight -/
def dataR : R → R
  | [] => []
  | some (.d x) :: r => some (.d x) :: dataR r
  | _ :: r => none :: dataR r
theorem dataR_get : ∀ {ρ : R} {i : Nat} {s : S}, (dataR ρ)[i]? = some (some s) → ∃ x, s = .d x ∧ ρ[i]? = some (some (.d x))
  | [], i, s, h => by simp [dataR] at h
  | o :: r, 0, s, h => by
    cases o with
    | none => simp [dataR] at h
    | some t =>
      cases t with
      | d x => simp [dataR] at h; exact ⟨x, h.symm, rfl⟩
      | ol _ => simp [dataR] at h
      | od _ => simp [dataR] at h
      | oi _ _ => simp [dataR] at h
  | o :: r, i + 1, s, h => by
    have h' : (dataR r)[i]? = some (some s) := by
      cases o with
      | none => simpa [dataR] using h
      | some t => cases t <;> simpa [dataR] using h
    obtain ⟨x, e, q⟩ := dataR_get h'
    exact ⟨x, e, by simpa using q⟩
theorem dataR_len : ∀ ρ : R, (dataR ρ).length = ρ.length
  | [] => rfl
  | o :: r => by
    cases o with
    | none => simp [dataR, dataR_len r]
    | some t => cases t <;> simp [dataR, dataR_len r]
theorem wipeR_len (ρ : R) : ∀ vs : List Nat, (wipeR ρ vs).length = ρ.length
  | [] => rfl
  | v :: vs => by rw [wipeR, put_eq, List.length_set, wipeR_len ρ vs]
theorem wipeR_get {ρ : R} {i : Nat} {s : S} : ∀ {vs : List Nat}, (wipeR ρ vs)[i]? = some (some s) → ρ[i]? = some (some s) ∧ i ∉ vs
  | [], h => ⟨h, by simp⟩
  | v :: vs, h => by
    rw [wipeR, put_eq] at h
    by_cases hi : i = v
    · subst hi; exact (set_none h).elim
    · rw [List.getElem?_set_ne (Ne.symm hi)] at h
      obtain ⟨h1, h2⟩ := wipeR_get h
      exact ⟨h1, fun z => (List.mem_cons.mp z).elim hi h2⟩
theorem wipe_out (σ : St) : ∀ (vs : List Nat) (i : Nat), i ∉ vs → (L2.wipe σ vs)[i]? = σ[i]?
  | [], i, _ => rfl
  | v :: vs, i, h => by
    show ((L2.wipe σ vs).set v none)[i]? = _
    rw [List.getElem?_set_ne (fun e => h (by rw [e]; exact List.mem_cons_self)), wipe_out σ vs i fun z => h (List.mem_cons_of_mem _ z)]
/-- the slots' data, seen from any later state as its own entry -/
theorem Rel.view {H0 F0 F H F' H' : Hp} {ρ : R} {σ : St} (r : Rel K H0 F0 F H ρ σ) (f : Same F F') (fh : Same F' H') (vs : List Nat) : Rel K H' F' F' H' (wipeR (dataR ρ) vs) (L2.wipe σ vs) := by
  refine ⟨Same.refl _, Same.refl _, fh, fun _ q => .inl q, ?_, fun i s q => ?_, fun i j s t q1 q2 w1 w2 z => ?_⟩
  · rw [wipeR_len, dataR_len, wipe_length, r.len]
  · obtain ⟨h1, h2⟩ := wipeR_get q
    obtain ⟨x, rfl, h3⟩ := dataR_get h1
    obtain ⟨v, z1, z2⟩ := r.at_ i _ h3
    exact ⟨v, by rw [wipe_out σ vs i h2]; exact z1, Rep.mono f _ _ z2⟩
  · obtain ⟨h1, h2⟩ := wipeR_get q1
    obtain ⟨x, rfl, h3⟩ := dataR_get h1
    cases w1
theorem Zx.Ok.on {H0 F0 H1 F1 : Hp} (zo : Z.Ok K H0 F0) (hh : Same H0 H1) (ff : Same F0 F1) (nw : ∀ a, F1 a ≠ none → F0 a ≠ none ∨ H0 a = none) : Z.Ok K H1 F1 := fun N C fs d F' H' p g h1 f1 fh n x =>
  zo N C fs d F' H' p g (hh.trans h1) (ff.trans f1) fh (fun a q => by
    rcases n a q with z | z
    · exact nw a z
    · exact .inr (hh.free z)) x
def compD (wg : WG) (wt : WT) (we : W) (ρb : R) : List D → (List D → Prop) → Prop
  | [], P => P []
  | d :: ds, P => wg d ρb fun ρ1 => wt ρ1 fun b ρ2 => if b = true then we ρ2 fun s _ => compD wg wt we ρb ds fun r => P (s.fz :: r) else compD wg wt we ρb ds P
def wLc (wi : WA) (wg : WG) (wt : WT) (we : W) (vs : List Nat) : W := fun ρ P => wi ρ fun items ρ1 => items.length ≤ sizeLine ∧ compD wg wt we (wipeR (dataR ρ1) vs) items fun acc => P (.ol acc) ρ1
theorem run_lc {wi : TI} {wa : WA} {g : TG} {wg : WG} {tt : TT} {wt : WT} {vs : List Nat} (hi : RunI K Z wi wa)
    (hg : ∀ {H0 F0 F H : Hp} {ρ : R} {σ : St} {Q : St → Hp → Prop} {P : R → Prop} {d : D} {v : V}, Z.Ok K H0 F0 → Rel K H0 F0 F H ρ σ → Rep K F d v → wg d ρ P →
      (∀ ρ' F' H' σ', P ρ' → Same F F' → Rel K H0 F0 F' H' ρ' σ' → L2.wipe σ' vs = L2.wipe σ vs → Q σ' H') → g v σ H Q)
    (ht : RunT K Z tt wt) (he : RunE K Z te we) : RunE K Z (tLc wi g tt te vs) (wLc wa wg wt we vs) := fun {H0 F0 F H ρ σ Q P} zo rl h k => by
  refine hi zo rl h fun items ρ1 F1 H1 J h1 f1 r1 it => fun D nD => ?_
  obtain ⟨hsz, h1⟩ := h1
  let Iv := fun (i : Nat) (H : Hp) => ∃ F2 acc vs', Same H1 H ∧ Same F1 F2 ∧ Same F2 H ∧ (∀ a, F2 a ≠ none → F1 a ≠ none ∨ H1 a = none) ∧ F2 D = none ∧ H D = some (.lst vs') ∧ Reps K F2 acc vs' ∧ acc.length ≤ i ∧
    compD wg wt we (wipeR (dataR ρ1) vs) (items.drop i) fun r => P (.ol (acc ++ r)) ρ1
  refine ⟨fun i m H => m = items.length - i ∧ i ≤ items.length ∧ Iv i H, ⟨_, rfl, Nat.zero_le _, F1, [], [], Same.new nD, Same.refl _, r1.fh.trans (Same.new nD), fun _ q => .inl q, r1.fh.free nD, upd_same, rfl, Nat.le_refl _, h1⟩, ?_⟩
  rintro i m H ⟨rfl, hi, F2, acc, vs', hh, ff, fh, nw, fn, hD, ra, la, w⟩
  by_cases hlt : i < items.length
  · refine .inr ⟨it.go ff fh hlt, fun H' => Iv (i + 1) H', fun H' q => ⟨items.length - (i + 1), by omega, rfl, hlt, q⟩, fun x H2 y => ?_⟩
    obtain ⟨F3, d, e, hh3, ff3, fh3, nw3, rp⟩ := it.yld ff fh y hlt
    rw [List.drop_eq_getElem_cons hlt] at w
    have ed : items[i] = d := by rw [List.getElem?_eq_getElem hlt] at e; exact Option.some.inj e
    rw [ed] at w
    have nwF3 : ∀ a, F3 a ≠ none → F1 a ≠ none ∨ H1 a = none := fun a q => by
      rcases nw3 a q with z | z
      · exact nw a z
      · exact .inr (hh.free z)
    have fn3 : F3 D = none := by
      cases q : F3 D with
      | none => rfl
      | some u =>
        rcases nw3 D (by rw [q]; exact fun z => nomatch z) with z | z
        · exact absurd fn z
        · rw [z] at hD; cases hD
    have r3 := r1.view (ff.trans ff3) fh3 vs
    have zo3 : Z.Ok K H2 F3 := (zo.on r1.h r1.f r1.nw).on (hh.trans hh3) (ff.trans ff3) nwF3
    -- what the turn leaves: from the state at its start
    have out : ∀ {F5 H5 : Hp} {ρ5 : R} {σ5 : St}, Rel K H2 F3 F5 H5 ρ5 σ5 → Same H1 H5 ∧ Same F1 F5 ∧ Same F5 H5 ∧ (∀ a, F5 a ≠ none → F1 a ≠ none ∨ H1 a = none) ∧ F5 D = none ∧ H5 D = some (.lst vs') ∧ Reps K F5 acc vs' := fun {F5 H5 ρ5 σ5} r5 => by
      refine ⟨(hh.trans hh3).trans r5.h, (ff.trans ff3).trans r5.f, r5.fh, fun a q => ?_, ?_, r5.h _ _ (hh3 _ _ hD), Reps.mono (ff3.trans r5.f) _ _ ra⟩
      · rcases r5.nw a q with z | z
        · exact nwF3 a z
        · exact .inr ((hh.trans hh3).free z)
      · cases q : F5 D with
        | none => rfl
        | some u =>
          rcases r5.nw D (by rw [q]; exact fun z => nomatch z) with z | z
          · exact absurd fn3 z
          · rw [hh3 _ _ hD] at z; cases z
    refine hg zo3 r3 rp w fun ρ4 F4 H4 σ4 p4 f4 r4 e4 => ⟨by rw [e4, wipe_idem σ vs vs fun v z => z], ?_⟩
    refine ht zo3 r4 p4 fun b ρ5 F5 H5 p5 f5 r5 => ?_
    cases b with
    | false =>
      rw [if_neg Bool.false_ne_true] at p5 ⊢
      obtain ⟨o1, o2, o3, o4, o5, o6, o7⟩ := out r5
      exact ⟨F5, acc, vs', o1, o2, o3, o4, o5, o6, o7, Nat.le_succ_of_le la, p5⟩
    | true =>
      rw [if_pos rfl] at p5 ⊢
      refine he zo3 r5 p5 fun s ρ6 F6 H6 v6 p6 f6 r6 sr6 fr6 => ?_
      obtain ⟨F7, f7, r7, rp7⟩ := r6.freeze sr6 fr6
      obtain ⟨o1, o2, o3, o4, o5, o6, o7⟩ := out r7
      have lv : vs'.length = acc.length := o7.len
      refine ⟨vs', o6, by omega, F7, acc ++ [s.fz], vs' ++ [v6], fun b u q => ?_, o2, fun b u q => ?_, o4, o5, upd_same, o7.app (.one rp7), by rw [List.length_append, List.length_singleton]; omega, ?_⟩
      · rw [upd_ne (ne_of_none q nD)]; exact o1 _ _ q
      · rw [upd_ne (ne_of_none q o5)]; exact o3 _ _ q
      · simpa only [List.append_assoc, List.singleton_append] using p6
  · have e : items.drop i = [] := List.drop_eq_nil_of_le (by omega)
    rw [e] at w
    have w' : P (.ol acc) ρ1 := by
      have z : P (.ol (acc ++ [])) ρ1 := w
      rwa [List.append_nil] at z
    refine .inl ⟨it.stop ff fh (by omega), k _ _ F2 H _ w' (f1.trans ff) (r1.after hh ff fh nw) ⟨D, vs', rfl, hD, ra, r1.h.free nD, fn⟩ fun _ j t q wt z => ?_⟩
    obtain ⟨v, q1, q2⟩ := r1.at_ j t q
    obtain ⟨a, u, e1, hu, _, _⟩ := q2.addr wt
    rw [z] at q1; cases q1; cases e1
    rw [nD] at hu; cases hu
section
variable {elt tg iter : Expr} {ifs : List Expr} {scope : Scope} {own : List (Str × Nat)} {wi : TI} {wa : WA} {g : TG} {wg : WG} {tt : TT} {wt : WT}
theorem de_lc (hc : X.calm = true) (hN : X.N.Nodup) (hi : DI K X Z tg iter wi wa) (ok : BlkOk X.N X.env.scope scope own)
    (hg : ∀ (s : Shared) (H : Hp) (C : Addr) (cl : List (Str × Addr)) (fp : List Addr), DGb K (X.blk s H scope (compEnvC scope cl C X.env) fp) Z tg (own.map (·.2)) g wg) (ht : ∀ (s : Shared) (H : Hp) (C : Addr) (cl : List (Str × Addr)) (fp : List Addr), DTs K (X.blk s H scope (compEnvC scope cl C X.env) fp) Z ifs tt wt)
    (he : ∀ (s : Shared) (H : Hp) (C : Addr) (cl : List (Str × Addr)) (fp : List Addr), DE K (X.blk s H scope (compEnvC scope cl C X.env) fp) Z elt te we) (hs : ∀ x, foldedSetIterable iter X.env x = pure x := by intro _; rfl) :
    DE K X Z (.ListComp elt [⟨tg, iter, ifs, 0⟩] scope pos) (tLc wi g tt te (own.map (·.2))) (wLc wa wg wt we (own.map (·.2))) :=
  ⟨pe_lc hc hN hi.pe ok (fun s H C cl fp => (hg s H C cl fp).pe) (fun s H C cl fp => (ht s H C cl fp).pe) (fun s H C cl fp => (he s H C cl fp).pe) hs,
    run_lc hi.run (hg X.s_0 (fun _ => none) 0 [] []).run (ht X.s_0 (fun _ => none) 0 [] []).run (he X.s_0 (fun _ => none) 0 [] []).run⟩
end
end
end DL
/-! DL4: a def's promise over data, its call, its body; the law's end. -/
namespace DL
open PySem L2

/-- a def's promise over data: arguments, what is wanted of its answer, of its exceptions -/
abbrev DSp := List D → (S → Prop) → PX → Prop
def spD (K : PySem.W.Frag) (R : DSp) : Sp := fun vs H Q E => ∃ F ds P px, Same F H ∧ Reps K F ds vs ∧ R ds P px ∧ Kont K H F P Q ∧ (⟨E, px⟩ : Zx).Ok K H F
/-- arguments enc x, where pre x holds the answer res x -/
def dsp {α : Type} (enc : α → List D) (pre : α → Prop) (res : α → S) : DSp := fun ds P _ => ∃ x, ds = enc x ∧ pre x ∧ P (res x)
section
variable {K : PySem.W.Frag} {X : Cx} {Z : Zx} {pos p : Pos} {CX : CXT} {k : Nat} {f : Addr} {fd : FuncData} {ps : List Str} {Rf : DSp} {x : Str} {e : Expr} {es : List Expr} {ta : TA} {wa : WA}
def wCall (Rf : DSp) (px : PX) (wa : WA) : W := fun ρ P => wa ρ fun ds ρ1 => Rf ds (fun s => P s ρ1) px
theorem run_call (ha : RunA K Z ta wa) : RunE K Z (tCall (spD K Rf) [] Z.E ta) (wCall Rf Z.P wa) := fun {H0 F0 F H ρ σ Q P} zo rl h kq =>
  ha zo rl h fun ds ρ1 F1 H1 vs h1 f1 r1 rps => by
    rw [List.append_nil]
    exact ⟨F1, ds, _, Z.P, r1.fh, rps, h1, r1.kont f1 kq, zo.on r1.h r1.f r1.nw⟩
theorem de_call (F : FnOk X.prog X.w X.K X.mg X.base CX k f fd ps (spD K Rf)) (hr : Room k X.A) (hm : X.mg x = some (.ref f)) (hk : PySem.W.keepIn X.K (.ref f) = true) (hb : Binds X.K fd ps []) (hx : Passes CX X Z.E)
    (ha : DA K X Z (e :: es) ta wa) (hg : Gl X x := by rfl) (hdb : (x == ("__debug__" : Str)) = false := by decide) (he : starEach (e :: es) X.env = (false, eval e X.env) :: starEach es X.env := by rfl) (hpl : (backTo pos (starEach es X.env)).any (·.1) = false := by rfl) :
    DE K X Z (.Call (.Name x p) (e :: es) [] pos) (tCall (spD K Rf) [] Z.E ta) (wCall Rf Z.P wa) :=
  ⟨pe_call F hr hg hm hk hb .nil hx ha.pe (hdb := hdb) (he := he) (hpl := hpl), run_call ha.run⟩
theorem de_call0 (F : FnOk X.prog X.w X.K X.mg X.base CX k f fd ps (spD K Rf)) (hr : Room k X.A) (hm : X.mg x = some (.ref f)) (hk : PySem.W.keepIn X.K (.ref f) = true) (hb : Binds X.K fd ps []) (hx : Passes CX X Z.E)
    (hg : Gl X x := by rfl) (hdb : (x == ("__debug__" : Str)) = false := by decide) : DE K X Z (.Call (.Name x p) [] [] pos) (tCall (spD K Rf) [] Z.E tNil) (wCall Rf Z.P wNil) :=
  ⟨pe_call0 F hr hg hm hk hb .nil hx (hdb := hdb), run_call (da_nil (X := X) (Z := Z)).run⟩
end
def startR (N : List Str) (ds : List D) : R := ds.map (fun d => some (.d d)) ++ List.replicate (N.length - ds.length) none
theorem rel_start {K : PySem.W.Frag} {F H : Hp} {ds : List D} {vs : List V} {N : List Str} (fh : Same F H) (r : Reps K F ds vs) : Rel K H F F H (startR N ds) (start N vs) := by
  have hl : vs.length = ds.length := r.len
  have get : ∀ (i : Nat) s, (startR N ds)[i]? = some (some s) → ∃ d, s = .d d ∧ ds[i]? = some d := fun i s q => by
    unfold startR at q
    by_cases h : i < ds.length
    · rw [List.getElem?_append_left (by simpa using h), List.getElem?_map] at q
      cases e : ds[i]? with
      | none => rw [e] at q; cases q
      | some d => rw [e] at q; cases q; exact ⟨d, rfl, rfl⟩
    · rw [List.getElem?_append_right (by simpa using h), List.getElem?_replicate] at q
      split at q <;> cases q
  refine ⟨Same.refl _, Same.refl _, fh, fun _ q => .inl q, ?_, fun i s q => ?_, fun i j s t q1 q2 w1 w2 e => ?_⟩
  · simp [startR, L2.start, hl]
  · obtain ⟨d, rfl, e⟩ := get i s q
    obtain ⟨v, e1, rp⟩ := r.get e
    refine ⟨v, ?_, rp⟩
    have h : i < vs.length := (List.getElem?_eq_some_iff.mp e1).1
    unfold L2.start
    rw [List.getElem?_append_left (by simpa using h), List.getElem?_map, e1]
    rfl
  · obtain ⟨d, rfl, _⟩ := get i s q1
    cases w1
section
variable {P : Program} {w : World} {K : PySem.W.Frag} {mg : Str → Option Value} {base : Heap} {x qual : Str} {st : Stmt} {f : Addr} {fd : FuncData} {N ps : List Str} {k : Nat} {Rf : DSp}
/-- THE RULE for a def that raises nothing -/
theorem fnD (F : Fun K x qual st f fd) (S : FnScope N ps (defScope st)) (len : ∀ ds Q px, Rf ds Q px → ds.length = ps.length)
    (hbody : ∀ (cdv : Value) (A : Around) (outer : List Env) (s : Shared) (H : Hp) (E : XK), Room k (A.deeper (PyProof.Rows.envOfC qual (defScope st) s.heap.objs.size f cdv)) →
      ∃ t wb, DSs K (cxOf CX0 P w K mg base N qual (defScope st) f cdv A outer s H E).nox Z0 (defBody st) t wb ∧ ∀ ds Q px, Rf ds Q px → wb ⟨fun _ => Q (.d .non), Q, fun _ => False, fun _ => False⟩ (startR N ds)) :
    FnOk P w K mg base CX0 (k + 1) f fd ps (spD K Rf) := by
  refine F.ok S (fun vs H Q E h => ?_) (fun cdv A outer s H vs Q E hr h => ?_)
  · obtain ⟨F, ds, P, px, _, r, h, _⟩ := h
    rw [r.len]; exact len _ _ _ h
  · obtain ⟨F, ds, P', px, fh, r, h, kq, _⟩ := h
    obtain ⟨t, wb, d, q⟩ := hbody cdv A outer s H E hr
    refine ⟨t, d.pe, d.run (DD := ⟨fun _ => P' (.d .non), P', fun _ => False, fun _ => False⟩) Z0.ok (rel_start fh r) ⟨fun ρ' F' H' σ' h f r => ?_, fun s v F' H' h f hh ff fh' nw sr => ?_, fun _ _ _ _ h => h.elim, fun _ _ _ _ h => h.elim⟩ (q ds P' px h)⟩
    · exact kq (.d .non) .non F' H' h r.h r.f r.fh r.nw rfl
    · exact kq s v F' H' h hh ff fh' nw sr
/-- .. for a def that may raise -/
theorem fnDX (F : Fun K x qual st f fd) (S : FnScope N ps (defScope st)) (len : ∀ ds Q px, Rf ds Q px → ds.length = ps.length)
    (hbody : ∀ (cdv : Value) (A : Around) (outer : List Env) (s : Shared) (H : Hp) (E : XK) (px : PX), Room k (A.deeper (PyProof.Rows.envOfC qual (defScope st) s.heap.objs.size f cdv)) →
      ∃ t wb, DSs K (cxOf (L2.CX P w) P w K mg base N qual (defScope st) f cdv A outer s H E) ⟨E, px⟩ (defBody st) t wb ∧ ∀ ds Q, Rf ds Q px → wb ⟨fun _ => Q (.d .non), Q, fun _ => False, fun _ => False⟩ (startR N ds)) :
    FnOk P w K mg base (L2.CX P w) (k + 1) f fd ps (spD K Rf) := by
  refine F.okX S (fun vs H Q E h => ?_) (fun cdv A outer s H vs Q E hr h => ?_)
  · obtain ⟨F, ds, P, px, _, r, h, _⟩ := h
    rw [r.len]; exact len _ _ _ h
  · obtain ⟨F, ds, P', px, fh, r, h, kq, zx⟩ := h
    obtain ⟨t, wb, d, q⟩ := hbody cdv A outer s H E px hr
    refine ⟨t, d.pe, d.run (DD := ⟨fun _ => P' (.d .non), P', fun _ => False, fun _ => False⟩) zx (rel_start fh r) ⟨fun ρ' F' H' σ' h f r => ?_, fun s v F' H' h f hh ff fh' nw sr => ?_, fun _ _ _ _ h => h.elim, fun _ _ _ _ h => h.elim⟩ (q ds P' h)⟩
    · exact kq (.d .non) .non F' H' h r.h r.f r.fh r.nw rfl
    · exact kq s v F' H' h hh ff fh' nw sr
end
/-- the law's promise -/
def spLaw : DSp := fun ds Q _ => ∃ ns : List Int, ds = [.cel ns] ∧ ns.length ≤ 63 ∧ (∀ z ∈ ns, Builtin.Int.intBits z ≤ 1048576) ∧ Q (.d (.bl true))
theorem spLaw_at {K : PySem.W.Frag} {H : Hp} {a : Addr} {ns : List Int} (hl : ns.length ≤ 63) (hb : ∀ z ∈ ns, Builtin.Int.intBits z ≤ 1048576) (h : SqL K H a (ns.map V.int)) :
    spD K spLaw [.ref a] H (fun v _ => v = .bl true) fun _ _ _ => False :=
  ⟨H, [.cel ns], fun s => s = .d (.bl true), fun _ _ => False, Same.refl _, ⟨_, _, rfl, ⟨a, rfl, h⟩, rfl⟩, ⟨ns, rfl, hl, hb, rfl⟩,
    fun s v F' H' e _ _ _ _ sr => by subst e; exact sr, fun _ _ _ _ _ _ h => h.elim⟩
end DL
/-! DL5: operations over data: ints, texts, lists, tuples; equality; in; len; indices; slices. -/
namespace DL
open PySem L2

section views
variable {K : PySem.W.Frag} {F : Hp} {d : D} {v : V}
def asI (d : D) (P : Int → Prop) : Prop := match d with
  | .int i => P i
  | _ => False
def asS (d : D) (P : Str → Prop) : Prop := match d with
  | .str i => P i
  | _ => False
theorem asI_of {P : Int → Prop} (h : asI d P) (r : Rep K F d v) : ∃ i, v = .int i ∧ P i := by
  cases d <;> first | exact h.elim | exact ⟨_, r, h⟩
theorem asS_of {P : Str → Prop} (h : asS d P) (r : Rep K F d v) : ∃ i, v = .str i ∧ P i := by
  cases d <;> first | exact h.elim | exact ⟨_, r, h⟩
theorem asT_of {P : List D → Prop} (h : asT d P) (r : Rep K F d v) : ∃ a vs xs, v = .ref a ∧ SqT K F a vs ∧ Reps K F xs vs ∧ P xs := by
  cases d <;> first | exact h.elim | (obtain ⟨a, vs, e, h1, h2⟩ := r; exact ⟨a, vs, _, e, h1, h2, h⟩)
def asSq (d : D) (P : List D → Prop) : Prop := match d with
  | .cel ns => P (ns.map .int)
  | .lst xs => P xs
  | .tup xs => P xs
  | _ => False
theorem asSq_of {P : List D → Prop} (h : asSq d P) (r : Rep K F d v) : ∃ a vs xs, v = .ref a ∧ (SqL K F a vs ∨ SqT K F a vs) ∧ Reps K F xs vs ∧ P xs := by
  cases d <;> first
    | exact h.elim
    | (obtain ⟨a, vs, e, h1, h2⟩ := r; exact ⟨a, vs, _, e, .inl (SqL.of h1), h2, h⟩)
    | (obtain ⟨a, vs, e, h1, h2⟩ := r; exact ⟨a, vs, _, e, .inr h1, h2, h⟩)
    | (obtain ⟨a, e, h1⟩ := r; exact ⟨a, _, _, e, .inl h1, Reps.ints.mpr rfl, h⟩)
theorem sq_same {H : Hp} {a : Addr} {vs : List V} (fh : Same F H) (h : SqL K F a vs ∨ SqT K F a vs) : SqL K H a vs ∨ SqT K H a vs :=
  h.elim (fun z => .inl (fh.seq z)) fun z => .inr (Same.sqT fh z)
end views
section ops
variable {K : PySem.W.Frag}
/-- two ints -/
def oI (g : Int → Int → D) (C : Int → Int → Prop) : O2 := fun x y P => asI x fun i => asI y fun j => C i j ∧ P (.d (g i j))
def oI0 (g : Int → Int → D) : O2 := fun x y P => asI x fun i => asI y fun j => P (.d (g i j))
theorem snd_I {g : Int → Int → V} {g' : Int → Int → D} {C : Int → Int → Prop} (hg : ∀ i j F, Rep K F (g' i j) (g i j)) : Snd2 K (rI C g) (oI g' C) := ⟨fun {F H x y vx vy P Q} fh rx ry h k => by
  obtain ⟨i, rfl, h⟩ := asI_of h rx
  obtain ⟨j, rfl, h⟩ := asI_of h ry
  exact ⟨i, j, rfl, rfl, h.1, k.flat fh h.2 (hg i j F)⟩⟩
theorem snd_I0 {g : Int → Int → V} {g' : Int → Int → D} (hg : ∀ i j F, Rep K F (g' i j) (g i j)) : Snd2 K (rI0 g) (oI0 g') := ⟨fun {F H x y vx vy P Q} fh rx ry h k => by
  obtain ⟨i, rfl, h⟩ := asI_of h rx
  obtain ⟨j, rfl, h⟩ := asI_of h ry
  exact ⟨i, j, rfl, rfl, k.flat fh h (hg i j F)⟩⟩
abbrev oAdd : O2 := oI0 fun i j => .int (i + j)
abbrev oSub : O2 := oI0 fun i j => .int (i - j)
abbrev oMul : O2 := oI (fun i j => .int (i * j)) CMul
abbrev oDiv : O2 := oI (fun i j => .int (i / j)) CDiv
abbrev oMod : O2 := oI (fun i j => .int (i % j)) fun _ j => 0 < j
abbrev oLt : O2 := oI0 fun i j => .bl (decide (i < j))
abbrev oLe : O2 := oI0 fun i j => .bl (decide (i ≤ j))
abbrev oGt : O2 := oI0 fun i j => .bl (decide (j < i))
abbrev oGe : O2 := oI0 fun i j => .bl (decide (j ≤ i))
theorem snd_add : Snd2 K (rI0 fun i j => .int (i + j)) oAdd := snd_I0 fun _ _ _ => rfl
theorem snd_sub : Snd2 K (rI0 fun i j => .int (i - j)) oSub := snd_I0 fun _ _ _ => rfl
theorem snd_mul : Snd2 K (rI CMul fun i j => .int (i * j)) oMul := snd_I fun _ _ _ => rfl
theorem snd_div : Snd2 K (rI CDiv fun i j => .int (i / j)) oDiv := snd_I fun _ _ _ => rfl
theorem snd_mod : Snd2 K (rI (fun _ j => 0 < j) fun i j => .int (i % j)) oMod := snd_I fun _ _ _ => rfl
theorem snd_lt : Snd2 K (rI0 fun i j => .bl (decide (i < j))) oLt := snd_I0 fun _ _ _ => rfl
theorem snd_le : Snd2 K (rI0 fun i j => .bl (decide (i ≤ j))) oLe := snd_I0 fun _ _ _ => rfl
theorem snd_gt : Snd2 K (rI0 fun i j => .bl (decide (j < i))) oGt := snd_I0 fun _ _ _ => rfl
theorem snd_ge : Snd2 K (rI0 fun i j => .bl (decide (j ≤ i))) oGe := snd_I0 fun _ _ _ => rfl
/-- == of two scalars of one kind -/
def eqS : D → D → Option Bool
  | .int i, .int j => some (decide (i = j))
  | .str i, .str j => some (decide (i = j))
  | .bl i, .bl j => some (decide (i = j))
  | .non, .non => some true
  | .non, .int _ => some false | .int _, .non => some false | .non, .bl _ => some false | .bl _, .non => some false | .non, .str _ => some false | .str _, .non => some false
  | .int _, .str _ => some false | .str _, .int _ => some false | .bl _, .str _ => some false | .str _, .bl _ => some false
  | _, _ => none
def asO (o : Option Bool) (P : Bool → Prop) : Prop := match o with
  | some b => P b
  | none => False
def oEq : O2 := fun x y P => asO (eqS x y) fun b => P (.d (.bl b))
def oNe : O2 := fun x y P => asO (eqS x y) fun b => P (.d (.bl (!b)))
theorem eqS_ok {F : Hp} {x y : D} {vx vy : V} {b : Bool} (rx : Rep K F x vx) (ry : Rep K F y vy) (e : eqS x y = some b) : scal vx vy = true ∧ decide (vx = vy) = b := by
  cases x <;> cases y <;> first
    | (cases (show (none : Option Bool) = some b from e))
    | (have h1 : vx = _ := rx; have h2 : vy = _ := ry; subst h1; subst h2; cases e
       refine ⟨rfl, ?_⟩
       first
         | rfl
         | (apply decide_eq_decide.mpr; constructor <;> intro q <;> first | (injection q) | rw [q])
         | exact decide_eq_false (fun q => nomatch q))
theorem snd_eq : Snd2 K rEq oEq := ⟨fun {F H x y vx vy P Q} fh rx ry h k => by
  unfold oEq at h
  cases e : eqS x y with
  | none => rw [e] at h; exact h.elim
  | some b =>
    rw [e] at h
    obtain ⟨h1, h2⟩ := eqS_ok rx ry e
    exact ⟨h1, by rw [h2]; exact k.flat (d := .bl b) fh h rfl⟩⟩
theorem snd_ne : Snd2 K rNe oNe := ⟨fun {F H x y vx vy P Q} fh rx ry h k => by
  unfold oNe at h
  cases e : eqS x y with
  | none => rw [e] at h; exact h.elim
  | some b =>
    rw [e] at h
    obtain ⟨h1, h2⟩ := eqS_ok rx ry e
    exact ⟨h1, by rw [h2]; exact k.flat (d := .bl (!b)) fh h rfl⟩⟩
/-- texts -/
def oCatS : O2 := fun x y P => asS x fun i => asS y fun j => i.length + j.length ≤ sizeLine ∧ P (.d (.str (i ++ j)))
theorem snd_catS : Snd2 K (fun x y H Q => ∃ i j, x = .str i ∧ y = .str j ∧ i.length + j.length ≤ sizeLine ∧ Q (.str (i ++ j)) H) oCatS := ⟨fun {F H x y vx vy P Q} fh rx ry h k => by
  obtain ⟨i, rfl, h⟩ := asS_of h rx
  obtain ⟨j, rfl, h⟩ := asS_of h ry
  exact ⟨i, j, rfl, rfl, h.1, k.flat (d := .str (i ++ j)) fh h.2 rfl⟩⟩
def oLtS : O2 := fun x y P => asS x fun i => asS y fun j => P (.d (.bl (decide (i.cps.toList < j.cps.toList))))
def oLeS : O2 := fun x y P => asS x fun i => asS y fun j => P (.d (.bl (!decide (j.cps.toList < i.cps.toList))))
theorem snd_ltS : Snd2 K (fun x y H Q => ∃ i j, x = .str i ∧ y = .str j ∧ Q (.bl (decide (i.cps.toList < j.cps.toList))) H) oLtS := ⟨fun {F H x y vx vy P Q} fh rx ry h k => by
  obtain ⟨i, rfl, h⟩ := asS_of h rx
  obtain ⟨j, rfl, h⟩ := asS_of h ry
  exact ⟨i, j, rfl, rfl, k.flat (d := .bl _) fh h rfl⟩⟩
theorem snd_leS : Snd2 K (fun x y H Q => ∃ i j, x = .str i ∧ y = .str j ∧ Q (.bl (!decide (j.cps.toList < i.cps.toList))) H) oLeS := ⟨fun {F H x y vx vy P Q} fh rx ry h k => by
  obtain ⟨i, rfl, h⟩ := asS_of h rx
  obtain ⟨j, rfl, h⟩ := asS_of h ry
  exact ⟨i, j, rfl, rfl, k.flat (d := .bl _) fh h rfl⟩⟩
/-- one sign in a text -/
def oInS (neg : Bool) : O2 := fun x y P => asS x fun i => asS y fun j => match i.cps.toList with
  | [c] => P (.d (.bl (if neg then !decide (c ∈ j.cps.toList) else decide (c ∈ j.cps.toList))))
  | _ => False
theorem one_sign {i : Str} {c : Nat} (h : i.cps.toList = [c]) : i = ⟨#[c]⟩ := by
  cases i with
  | mk a => exact congrArg Str.mk (by cases a; simpa using h)
theorem snd_inS : Snd2 K (fun x y H Q => ∃ (c : Nat) (z : Str), x = .str ⟨#[c]⟩ ∧ y = .str z ∧ Q (.bl (decide (c ∈ z.cps.toList))) H) (oInS false) := ⟨fun {F H x y vx vy P Q} fh rx ry h k => by
  obtain ⟨i, rfl, h⟩ := asS_of h rx
  obtain ⟨j, rfl, h⟩ := asS_of h ry
  split at h
  · rename_i c e
    rw [one_sign e]
    exact ⟨c, j, rfl, rfl, k.flat (d := .bl _) fh h rfl⟩
  · exact h.elim⟩
theorem snd_notInS : Snd2 K (fun x y H Q => ∃ (c : Nat) (z : Str), x = .str ⟨#[c]⟩ ∧ y = .str z ∧ Q (.bl (!decide (c ∈ z.cps.toList))) H) (oInS true) := ⟨fun {F H x y vx vy P Q} fh rx ry h k => by
  obtain ⟨i, rfl, h⟩ := asS_of h rx
  obtain ⟨j, rfl, h⟩ := asS_of h ry
  split at h
  · rename_i c e
    rw [one_sign e]
    exact ⟨c, j, rfl, rfl, k.flat (d := .bl _) fh h rfl⟩
  · exact h.elim⟩
/-- an item: of a list, a tuple, a text -/
def asA {α : Type} (o : Option α) (P : α → Prop) : Prop := match o with
  | some b => P b
  | none => False
theorem asA_of {α : Type} {o : Option α} {P : α → Prop} (h : asA o P) : ∃ b, o = some b ∧ P b := by
  cases o with
  | none => exact h.elim
  | some b => exact ⟨b, rfl, h⟩
theorem at_reps {F : Hp} {xs : List D} {vs : List V} {i : Int} {d : D} (r : Reps K F xs vs) (h : atI xs i = some d) : ∃ v, atI vs i = some v ∧ Rep K F d v := by
  unfold atI at h ⊢
  rw [r.len]
  cases e : ixN xs.length i with
  | none => rw [e] at h; cases h
  | some j => rw [e] at h; exact r.get h
def oIxL : O2 := fun x y P => asL x fun xs => asI y fun i => asA (atI xs i) fun d => P (.d d)
def oIxT : O2 := fun x y P => asT x fun xs => asI y fun i => asA (atI xs i) fun d => P (.d d)
def oIxS : O2 := fun x y P => asS x fun z => asI y fun i => z.length ≤ sizeLine ∧ asA (atI z.cps.toList i) fun c => P (.d (.str ⟨#[c]⟩))
theorem snd_ixL : Snd2 K (rIxL K) oIxL := ⟨fun {F H x y vx vy P Q} fh rx ry h k => by
  obtain ⟨a, vs, xs, rfl, h1, h2, h⟩ := asL_of h rx
  obtain ⟨i, rfl, h⟩ := asI_of h ry
  obtain ⟨d, e, h⟩ := asA_of h
  obtain ⟨v, e', r⟩ := at_reps h2 e
  exact ⟨a, vs, i, v, rfl, rfl, fh.seq h1, e', k.flat fh h r⟩⟩
theorem snd_ixT : Snd2 K (rIxT K) oIxT := ⟨fun {F H x y vx vy P Q} fh rx ry h k => by
  obtain ⟨a, vs, xs, rfl, h1, h2, h⟩ := asT_of h rx
  obtain ⟨i, rfl, h⟩ := asI_of h ry
  obtain ⟨d, e, h⟩ := asA_of h
  obtain ⟨v, e', r⟩ := at_reps h2 e
  exact ⟨a, vs, i, v, rfl, rfl, Same.sqT fh h1, e', k.flat fh h r⟩⟩
theorem snd_ixS : Snd2 K rIxS oIxS := ⟨fun {F H x y vx vy P Q} fh rx ry h k => by
  obtain ⟨z, rfl, h⟩ := asS_of h rx
  obtain ⟨i, rfl, h⟩ := asI_of h ry
  obtain ⟨c, e, h'⟩ := asA_of h.2
  exact ⟨z, i, c, rfl, rfl, h.1, e, k.flat (d := .str ⟨#[c]⟩) fh h' rfl⟩⟩
/-- len -/
def oLen : OL := fun ds P => match ds with
  | [.cel ns] => P (.d (.int ns.length))
  | [.lst xs] => P (.d (.int xs.length))
  | [.tup xs] => P (.d (.int xs.length))
  | [.str z] => z.length ≤ sizeLine ∧ P (.d (.int z.length))
  | [.dic ks xs] => P (.d (.int ks.length))
  | _ => False
abbrev qLen (K : PySem.W.Frag) : List V → Hp → VK → Prop := fun xs H Q => (∃ x n, xs = [x] ∧ LenV K x H n ∧ Q (.int n) H) ∨ ∃ d kvs, xs = [.ref d] ∧ Rd H d (.dK kvs) ∧ Q (.int kvs.length) H
theorem snd_len : SndL K (qLen K) oLen := ⟨fun {F H ds vs P Q} fh r h k => by
  unfold oLen at h
  split at h
  · obtain ⟨v, _, rfl, ⟨a, rfl, h1⟩, rfl⟩ := r
    exact .inl ⟨_, _, rfl, .inl ⟨_, fh.seq h1, rfl⟩, k.flat (d := .int _) fh h (by rw [List.length_map]; rfl)⟩
  · obtain ⟨v, _, rfl, ⟨a, us, rfl, h1, h2⟩, rfl⟩ := r
    exact .inl ⟨_, _, rfl, .inl ⟨us, fh.seq (SqL.of h1), rfl⟩, k.flat (d := .int _) fh h (by rw [h2.len]; rfl)⟩
  · obtain ⟨v, _, rfl, ⟨a, us, rfl, h1, h2⟩, rfl⟩ := r
    exact .inl ⟨_, _, rfl, .inr ⟨us, Same.sqT fh h1, rfl⟩, k.flat (d := .int _) fh h (by rw [h2.len]; rfl)⟩
  · obtain ⟨v, _, rfl, rfl, rfl⟩ := r
    exact .inl ⟨_, _, rfl, ⟨h.1, rfl⟩, k.flat (d := .int _) fh h.2 rfl⟩
  · obtain ⟨v, _, rfl, ⟨a, us, rfl, h1, h2, h3⟩, rfl⟩ := r
    exact .inr ⟨a, _, rfl, Same.rd fh h1, by rw [List.length_zip, ← h2, Nat.min_self]; exact k.flat (d := .int _) fh h rfl⟩
  · exact h.elim⟩
/-- min, max of two ints -/
def oMax : OL := fun ds P => match ds with
  | [.int i, .int j] => P (.d (.int (if j > i then j else i)))
  | _ => False
def oMin : OL := fun ds P => match ds with
  | [.int i, .int j] => P (.d (.int (if j < i then j else i)))
  | _ => False
theorem snd_max : SndL K (fun xs H Q => ∃ i j, xs = [.int i, .int j] ∧ Q (.int (if j > i then j else i)) H) oMax := ⟨fun {F H ds vs P Q} fh r h k => by
  unfold oMax at h
  split at h
  · obtain ⟨v, _, rfl, rfl, v2, _, rfl, rfl, rfl⟩ := r
    exact ⟨_, _, rfl, k.flat (d := .int _) fh h rfl⟩
  · exact h.elim⟩
theorem snd_min : SndL K (fun xs H Q => ∃ i j, xs = [.int i, .int j] ∧ Q (.int (if j < i then j else i)) H) oMin := ⟨fun {F H ds vs P Q} fh r h k => by
  unfold oMin at h
  split at h
  · obtain ⟨v, _, rfl, rfl, v2, _, rfl, rfl, rfl⟩ := r
    exact ⟨_, _, rfl, k.flat (d := .int _) fh h rfl⟩
  · exact h.elim⟩
/-- all, any of a list of truths -/
def bools : List D → Option (List Bool)
  | [] => some []
  | .bl b :: r => (bools r).map (b :: ·)
  | _ => none
theorem bools_map : ∀ bs : List Bool, bools (bs.map D.bl) = some bs
  | [] => rfl
  | b :: bs => by rw [List.map_cons, bools, bools_map bs]; rfl
theorem bools_of {F : Hp} : ∀ {ds : List D} {bs : List Bool} {vs : List V}, bools ds = some bs → Reps K F ds vs → vs = bs.map V.bl
  | [], _, _, e, r => by cases e; exact r
  | d :: ds, bs, vs, e, r => by
    cases d <;> first | (cases (show (none : Option (List Bool)) = some bs from e)) | skip
    rename_i b
    rw [bools] at e
    cases q : bools ds with
    | none => rw [q] at e; cases e
    | some cs =>
      rw [q] at e; cases e
      obtain ⟨v, r', rfl, rfl, h⟩ := r
      rw [bools_of q h]; rfl
def oAll : OL := fun ds P => match ds with
  | [.lst xs] => asA (bools xs) fun bs => P (.d (.bl (bs.all id)))
  | _ => False
def oAny : OL := fun ds P => match ds with
  | [.lst xs] => asA (bools xs) fun bs => P (.d (.bl (bs.any id)))
  | _ => False
theorem snd_all : SndL K (rAll K) oAll := ⟨fun {F H ds vs P Q} fh r h k => by
  unfold oAll at h
  split at h
  · obtain ⟨v, _, rfl, ⟨a, us, rfl, h1, h2⟩, rfl⟩ := r
    obtain ⟨bs, e, h⟩ := asA_of h
    have q := bools_of e h2
    subst q
    exact ⟨a, bs, rfl, fh.seq (SqL.of h1), k.flat (d := .bl _) fh h rfl⟩
  · exact h.elim⟩
theorem snd_any : SndL K (rAny K) oAny := ⟨fun {F H ds vs P Q} fh r h k => by
  unfold oAny at h
  split at h
  · obtain ⟨v, _, rfl, ⟨a, us, rfl, h1, h2⟩, rfl⟩ := r
    obtain ⟨bs, e, h⟩ := asA_of h
    have q := bools_of e h2
    subst q
    exact ⟨a, bs, rfl, fh.seq (SqL.of h1), k.flat (d := .bl _) fh h rfl⟩
  · exact h.elim⟩
end ops
/-! ### in short -/
abbrev qAdd : R2 := rI0 fun i j => .int (i + j)
abbrev qAddS : R2 := fun x y H Q => ∃ i j, x = .str i ∧ y = .str j ∧ i.length + j.length ≤ sizeLine ∧ Q (.str (i ++ j)) H
abbrev qSub : R2 := rI0 fun i j => .int (i - j)
abbrev qMul : R2 := rI CMul fun i j => .int (i * j)
abbrev qDiv : R2 := rI CDiv fun i j => .int (i / j)
abbrev qMod : R2 := rI (fun _ j => 0 < j) fun i j => .int (i % j)
abbrev qLt : R2 := rI0 fun i j => .bl (decide (i < j))
abbrev qLe : R2 := rI0 fun i j => .bl (decide (i ≤ j))
abbrev qGt : R2 := rI0 fun i j => .bl (decide (j < i))
abbrev qGe : R2 := rI0 fun i j => .bl (decide (j ≤ i))
theorem call_lenR {X : Cx} : CallR X (.builtin "len") fun xs H Q => ∃ d kvs, xs = [.ref d] ∧ Rd H d (.dK kvs) ∧ Q (.int kvs.length) H := fun pins s σ H xs us Q I r h => by
  obtain ⟨d, kvs, rfl, hd, q⟩ := h
  obtain ⟨u, rfl, ru⟩ := vals1 r
  obtain rfl : u = Value.ref d := ru
  exact d_len I hd fun t s' J => ⟨.int kvs.length, H, J, ⟨t, rfl⟩, q⟩
theorem call_len_or {X : Cx} {r : List V → Hp → VK → Prop} (h : CallR X (.builtin "len") r) : CallR X (.builtin "len") fun xs H Q => (∃ x n, xs = [x] ∧ LenV X.K x H n ∧ Q (.int n) H) ∨ r xs H Q := fun pins s σ H vs us Q I rr q => q.elim (fun z => call_len pins s σ H vs us Q I rr z) fun z => h pins s σ H vs us Q I rr z
section sugar
variable {K : PySem.W.Frag} {X : Cx} {Z : Zx} {pos p : Pos} {a b c e : Expr} {ta tb te : TE} {wa wb we : W} {tx : TA} {wx : WA}
theorem de_add (ha : DE K X Z a ta wa) (hb : DE K X Z b tb wb) : DE K X Z (.BinOp a .Add b pos) (tOp qAdd ta tb) (wOp oAdd wa wb) := de_op op_add snd_add ha hb
theorem de_adds (ha : DE K X Z a ta wa) (hb : DE K X Z b tb wb) : DE K X Z (.BinOp a .Add b pos) (tOp qAddS ta tb) (wOp oCatS wa wb) := de_op op_add_str snd_catS ha hb
theorem de_sub (ha : DE K X Z a ta wa) (hb : DE K X Z b tb wb) : DE K X Z (.BinOp a .Sub b pos) (tOp qSub ta tb) (wOp oSub wa wb) := de_op op_sub snd_sub ha hb
theorem de_mul (ha : DE K X Z a ta wa) (hb : DE K X Z b tb wb) : DE K X Z (.BinOp a .Mult b pos) (tOp qMul ta tb) (wOp oMul wa wb) := de_op op_mul snd_mul ha hb
theorem de_div (ha : DE K X Z a ta wa) (hb : DE K X Z b tb wb) : DE K X Z (.BinOp a .FloorDiv b pos) (tOp qDiv ta tb) (wOp oDiv wa wb) := de_op op_fdiv snd_div ha hb
theorem de_mod (ha : DE K X Z a ta wa) (hb : DE K X Z b tb wb) : DE K X Z (.BinOp a .Mod b pos) (tOp qMod ta tb) (wOp oMod wa wb) := de_op op_mod snd_mod ha hb
theorem de_eq (ha : DE K X Z a ta wa) (hb : DE K X Z b tb wb) : DE K X Z (.Compare a [.Eq] [b] pos) (tOp rEq ta tb) (wOp oEq wa wb) := de_cmp op_eq snd_eq (nomark _) ha hb
theorem de_ne (ha : DE K X Z a ta wa) (hb : DE K X Z b tb wb) : DE K X Z (.Compare a [.NotEq] [b] pos) (tOp rNe ta tb) (wOp oNe wa wb) := de_cmp op_ne snd_ne (nomark _) ha hb
theorem de_lt (ha : DE K X Z a ta wa) (hb : DE K X Z b tb wb) : DE K X Z (.Compare a [.Lt] [b] pos) (tOp qLt ta tb) (wOp oLt wa wb) := de_cmp op_lt snd_lt (nomark _) ha hb
theorem de_le (ha : DE K X Z a ta wa) (hb : DE K X Z b tb wb) : DE K X Z (.Compare a [.LtE] [b] pos) (tOp qLe ta tb) (wOp oLe wa wb) := de_cmp op_le snd_le (nomark _) ha hb
theorem de_gt (ha : DE K X Z a ta wa) (hb : DE K X Z b tb wb) : DE K X Z (.Compare a [.Gt] [b] pos) (tOp qGt ta tb) (wOp oGt wa wb) := de_cmp op_gt snd_gt (nomark _) ha hb
theorem de_ge (ha : DE K X Z a ta wa) (hb : DE K X Z b tb wb) : DE K X Z (.Compare a [.GtE] [b] pos) (tOp qGe ta tb) (wOp oGe wa wb) := de_cmp op_ge snd_ge (nomark _) ha hb
theorem dt_eq (ha : DE K X Z a ta wa) (hb : DE K X Z b tb wb) : DT K X Z (.Compare a [.Eq] [b] pos) (tTest (tOp rEq ta tb)) (wB (wOp oEq wa wb)) := dt_cmp op_eq snd_eq (nomark _) ha hb
theorem dt_ne (ha : DE K X Z a ta wa) (hb : DE K X Z b tb wb) : DT K X Z (.Compare a [.NotEq] [b] pos) (tTest (tOp rNe ta tb)) (wB (wOp oNe wa wb)) := dt_cmp op_ne snd_ne (nomark _) ha hb
theorem dt_lt (ha : DE K X Z a ta wa) (hb : DE K X Z b tb wb) : DT K X Z (.Compare a [.Lt] [b] pos) (tTest (tOp qLt ta tb)) (wB (wOp oLt wa wb)) := dt_cmp op_lt snd_lt (nomark _) ha hb
theorem dt_le (ha : DE K X Z a ta wa) (hb : DE K X Z b tb wb) : DT K X Z (.Compare a [.LtE] [b] pos) (tTest (tOp qLe ta tb)) (wB (wOp oLe wa wb)) := dt_cmp op_le snd_le (nomark _) ha hb
theorem dt_gt (ha : DE K X Z a ta wa) (hb : DE K X Z b tb wb) : DT K X Z (.Compare a [.Gt] [b] pos) (tTest (tOp qGt ta tb)) (wB (wOp oGt wa wb)) := dt_cmp op_gt snd_gt (nomark _) ha hb
theorem dt_ge (ha : DE K X Z a ta wa) (hb : DE K X Z b tb wb) : DT K X Z (.Compare a [.GtE] [b] pos) (tTest (tOp qGe ta tb)) (wB (wOp oGe wa wb)) := dt_cmp op_ge snd_ge (nomark _) ha hb
theorem de_ixL (ha : DE K X Z a ta wa) (hb : DE K X Z b tb wb) (hs : PlainIx b := by exact fun _ _ => rfl) (hK : X.K = K := by rfl) : DE K X Z (.Subscript a b pos) (tOp (rIxL K) ta tb) (wOp oIxL wa wb) := by subst hK; exact de_ix ix_list snd_ixL hs ha hb
theorem de_ixT (ha : DE K X Z a ta wa) (hb : DE K X Z b tb wb) (hs : PlainIx b := by exact fun _ _ => rfl) (hK : X.K = K := by rfl) : DE K X Z (.Subscript a b pos) (tOp (rIxT K) ta tb) (wOp oIxT wa wb) := by subst hK; exact de_ix ix_tup snd_ixT hs ha hb
theorem de_ixS (ha : DE K X Z a ta wa) (hb : DE K X Z b tb wb) (hs : PlainIx b := by exact fun _ _ => rfl) : DE K X Z (.Subscript a b pos) (tOp rIxS ta tb) (wOp oIxS wa wb) := de_ix ix_str snd_ixS hs ha hb
theorem de_len (m : X.mg "len" = none) (ha : DE K X Z a ta wa) (hg : Gl X "len" := by rfl) (hs : starEach [a] X.env = [(false, eval a X.env)] := by rfl) (hK : X.K = K := by rfl) : DE K X Z (.Call (.Name "len" p) [a] [] pos) (tCB (qLen K) (tCons ta tNil)) (wCB oLen (wCons wa wNil)) := by
  subst hK
  exact de_callB (call_len_or call_lenR) snd_len hg m PySem.boot_len (da_cons ha da_nil hs) (hn := by decide) (hdb := by decide) (he := hs) (hpl := rfl)
end sugar
end DL
set_option maxHeartbeats 4000000
/-! SetS: sets of texts with their walk: set(text), set(list of texts), set(tuple of texts); sorted of such a set, of any list of texts. -/
namespace DL
open PySem PySem.Spec PyProof.Rows L2

def keyS (e : Int × Value) : Str := match e.2 with | .str x _ => x | _ => Str.empty
def GoodS (w : World) (e : Int × Value) : Prop := ∃ x tk, e.2 = Value.str x tk ∧ e.1 = hashStr w x
/-- a set of texts at a, as it can be walked: xs its members (each once, in the entries' order) -/
def SetZ (w : World) (h : Heap) (a : Addr) (xs : List Str) : Prop :=
  ∃ o es ep t, h.get? a = some o ∧ o.ExactSet ∧ o.data = .set es ep t ∧ (∀ e ∈ es.toList, GoodS w e) ∧ xs.Nodup ∧ xs.Perm (es.toList.map keyS) ∧
    es.size < scanBound ∧ t.fits es.size = true ∧ Ris t.place.toList ∧ (w.params.followText "set-order" = true ∨ t.led = true)
section
variable {P : Program} {w : World} {A : Around} {E : Value → Shared → Prop} {s : Shared} {h h' : Heap} {a : Addr} {xs ys : List Str}
theorem SetZ.at (z : SetZ w h a xs) (k : ∀ o, h.get? a = some o → h'.get? a = some o) : SetZ w h' a xs := by
  obtain ⟨o, es, ep, t, ho, r⟩ := z
  exact ⟨o, es, ep, t, k o ho, r⟩
theorem SetZ.perm (z : SetZ w h a xs) (p : ys.Perm xs) : SetZ w h a ys := by
  obtain ⟨o, es, ep, t, ho, hx, hd, g, nd, pm, r⟩ := z
  exact ⟨o, es, ep, t, ho, hx, hd, g, p.nodup_iff.mpr nd, p.trans pm, r⟩
theorem goodS_elems {l : List (Int × Value)} (g : ∀ e ∈ l, GoodS w e) : ElemsOf (strKind P w) l := fun e he => by
  obtain ⟨k, tk, h1, h2⟩ := g e he
  exact ⟨⟨k, by rw [h1]; exact strKind_is P w k tk, h2⟩, by rw [h1] <;> rfl⟩
theorem goodS_is {e : Int × Value} (g : GoodS w e) (k : Str) : (strKind P w).is k e.2 = true ↔ keyS e = k := by
  obtain ⟨x, tk, h1, _⟩ := g
  unfold keyS
  rw [h1]
  constructor
  · intro q
    obtain ⟨t, e⟩ := Value.isStrOf_shape (show Value.isStrOf k (.str x tk) = true from q)
    injection e with e1
  · intro q
    have q' : x = k := q
    rw [q']
    exact strKind_is P w k tk
/-- the table is laid, perhaps anew -/
theorem addZ_tail {g : Bool → Sem Unit} (hg : ∀ (b : Bool) (s₁ : Shared) (Q' : Unit → Shared → Prop), Q' () s₁ → wpAny (model P w) A (g b) Q' E s₁)
    {o : Obj} {es es1 : Array (Int × Value)} {ep : Nat} {t t2 : SetTable} (ho : s.heap.get? a = some o) (hex : o.ExactSet) (hd : o.data = .set es ep t)
    (g1 : ∀ e ∈ es1.toList, GoodS w e) (nd : ys.Nodup) (pm : ys.Perm (es1.toList.map keyS)) (hb1 : es1.size < scanBound) (hf2 : t2.fits es1.size = true) (hr : Ris t2.place.toList) (hl : w.params.followText "set-order" = true ∨ t2.led = true)
    {wasDummy : Bool} {R : Option Bool → Shared → Prop} (hR : ∀ h', Heap.SameBut a s.heap h' → SetZ w h' a ys → R (some true) { s with heap := h' }) :
    wpAny (model P w) A (do
        storeSet a es1 t2
        if (!wasDummy && t2.tooFull) = true then do
            g (relayAll t2 es1 (SetTable.grown es1.size)).2.2
            storeSet a (relayAll t2 es1 (SetTable.grown es1.size)).1 (relayAll t2 es1 (SetTable.grown es1.size)).2.1
            pure (some true)
          else pure (some true)) R E s := by
  refine wpAny_bind (wpAny_storeSet_of ho hd ?_ (fits_of_scanBound hb1))
  have o1 := store_at (es' := es1) (t' := t2) ho hd
  have sb := Heap.SameBut.update s.heap a (Obj.putSet es1 t2)
  split
  · have p2 := relayAll_perm t2 es1 (SetTable.grown es1.size)
    have f3 := relayAll_fits t2 es1 (SetTable.grown es1.size)
    have r3 := relayAll_ris t2 es1 (SetTable.grown es1.size)
    have l3 := relayAll_led t2 es1 (SetTable.grown es1.size)
    generalize relayAll t2 es1 (SetTable.grown es1.size) = Zz at p2 f3 r3 l3 ⊢
    obtain ⟨es2, t3, gave⟩ := Zz
    dsimp only at p2 f3 r3 l3 ⊢
    have b2 : es2.size < scanBound := by rw [← Array.length_toList, p2.length_eq, Array.length_toList]; exact hb1
    refine wpAny_bind (hg _ _ _ (wpAny_bind (wpAny_storeSet_of o1 rfl ?_ (fits_of_scanBound b2))))
    refine wpAny_pure (hR _ (sb.trans (Heap.SameBut.update _ a _)) ?_)
    exact ⟨_, es2, _, t3, store_at (es' := es2) (t' := t3) o1 rfl, hex, rfl, fun e he => g1 e (p2.mem_iff.mp he), nd, pm.trans (p2.map keyS).symm, b2, f3, r3, hl.imp id fun z => by rw [l3]; exact z⟩
  · exact wpAny_pure (hR _ sb ⟨_, es1, _, t2, o1, hex, rfl, g1, nd, pm, hb1, hf2, hr, hl⟩)
def addS (xs : List Str) (k : Str) : List Str := if k ∈ xs then xs else xs ++ [k]
theorem addS_nodup {k : Str} (nd : xs.Nodup) : (addS xs k).Nodup := by
  unfold addS
  split
  · exact nd
  · rename_i hk
    exact List.nodup_append.mpr ⟨nd, by simp, fun a ha b hb e => hk (by rw [List.mem_singleton.mp hb] at e; rw [← e]; exact ha)⟩
theorem addZ_hashed {k : Str} {tk : Tok} {Q : Bool → Shared → Prop} (R : SetZ w s.heap a xs) (room : xs.length + 1 < scanBound)
    (hQ : ∀ b h', Heap.SameBut a s.heap h' → SetZ w h' a (addS xs k) → Q b { s with heap := h' }) :
    wpAny (model P w) A (setAddHashed a (.str k tk) ((strKind P w).hash k)) Q E s := by
  obtain ⟨o, es, ep, t, ho, hex, hd, g, nd, pm, hb, hf, hr, hl⟩ := R
  have hkey : (strKind P w).is k (.str k tk) = true := strKind_is P w k tk
  have hsc : (Value.str k tk).scannable = true := rfl
  have hel : ElemsOf (strKind P w) es.toList := goodS_elems g
  unfold setAddHashed setAddHashedIn
  refine wpAny_holding (wpAny_bind (wpAny_setState_of ho hd hf ?_))
  dsimp only
  rw [byScan_of hsc hb hel]
  simp only [↓reduceIte]
  unfold setAddByScan
  refine wpAny_bind (wpAny_bind (wpAny_rule (wpAny_bind (wpAny_setScan_of hkey ho hd hf hel ?_))))
  cases hfi : List.findIdx? (fun e => (strKind P w).is k e.2) es.toList with
  | some j =>
    dsimp only
    obtain ⟨hj, pj, _⟩ := List.findIdx?_eq_some_iff_getElem.mp hfi
    have hk : k ∈ xs := pm.mem_iff.mpr (List.mem_map.mpr ⟨es.toList[j], List.getElem_mem hj, (goodS_is (g _ (List.getElem_mem hj)) k).1 pj⟩)
    refine wpAny_pure (wpAny_pure (hQ _ s.heap (Heap.SameBut.refl a s.heap) ?_))
    rw [addS, if_pos hk]
    exact ⟨o, es, ep, t, ho, hex, hd, g, nd, pm, hb, hf, hr, hl⟩
  | none =>
    dsimp only
    have hk : k ∉ xs := fun z => by
      obtain ⟨e, he, q⟩ := List.mem_map.mp (pm.mem_iff.mp z)
      have c := List.findIdx?_eq_none_iff.mp hfi e he
      rw [(goodS_is (g e he) k).2 q] at c
      cases c
    have hgw : ∀ (b : Bool) {s₁ : Shared} {Q' : Unit → Shared → Prop}, Q' () s₁ → wpAny (model P w) A (match b with | true => rule "set.scan.the-table-gave-way" | false => pure ()) Q' E s₁ :=
      fun b s₁ Q' q => by cases b <;> first | exact wpAny_pure q | exact wpAny_rule q
    have p1 := layNew_perm t es ((strKind P w).hash k) (.str k tk)
    have f1 := layNew_fits t es ((strKind P w).hash k) (.str k tk)
    have r1 := layNew_ris t es ((strKind P w).hash k) (.str k tk) hr
    have l1 := layNew_led t es ((strKind P w).hash k) (.str k tk)
    generalize layNew t es ((strKind P w).hash k) (.str k tk) = Zz at p1 f1 r1 l1 ⊢
    obtain ⟨es1, t1, wasDummy, gave⟩ := Zz
    dsimp only at p1 f1 r1 l1 ⊢
    rw [Array.toList_push] at p1
    have g1 : ∀ e ∈ es1.toList, GoodS w e := fun e he => by
      rcases List.mem_append.mp (p1.mem_iff.mp he) with z | z
      · exact g e z
      · rw [List.mem_singleton.mp z]; exact ⟨k, tk, rfl, rfl⟩
    have pk : (addS xs k).Perm (es1.toList.map keyS) := by
      rw [addS, if_neg hk]
      refine List.Perm.trans ?_ (p1.map keyS).symm
      rw [List.map_append]
      exact pm.append_right _
    have nd1 : (addS xs k).Nodup := addS_nodup nd
    have hsz : es1.size = xs.length + 1 := by
      rw [← Array.length_toList, p1.length_eq, List.length_append, List.length_singleton]
      have := pm.length_eq
      rw [List.length_map] at this
      omega
    have hb1 : es1.size < scanBound := by rw [hsz]; exact room
    have hled : w.params.followText "set-order" = true ∨ t1.led = true := hl.imp id fun z => by rw [l1]; exact z
    refine wpAny_bind (hgw _ ?_)
    split
    · refine wpAny_bind ?_
      rw [hashByValue_scannable 8 hsc]
      refine wpAny_pure ?_
      refine addZ_tail ?_ ho hex hd g1 nd1 pk hb1 ?_ ?_ ?_ ?_
      · intro b s₁ Q' q; cases b <;> first | exact wpAny_pure q | exact wpAny_rule q
      · first | (split <;> first | exact f1 | exact SetTable.fits_plain_off f1) | exact f1
      · first | (split <;> exact r1) | exact r1
      · first | (split <;> exact hled) | exact hled
      · intro h' sb r; dsimp only; exact wpAny_pure (hQ _ h' sb r)
    · refine wpAny_bind (wpAny_pure ?_)
      simp only [↓reduceIte]
      refine addZ_tail ?_ ho hex hd g1 nd1 pk hb1 f1 r1 hled ?_
      · intro b s₁ Q' q; cases b <;> first | exact wpAny_pure q | exact wpAny_rule q
      · intro h' sb r; dsimp only; exact wpAny_pure (hQ _ h' sb r)

theorem addS_len (k : Str) : (addS xs k).length ≤ xs.length + 1 := by
  unfold addS; split
  · exact Nat.le_succ _
  · rw [List.length_append]; exact Nat.le_refl _
/-- the members met, each once -/
def met (xs : List Str) : List Str := xs.foldl addS []
theorem met_snoc (xs : List Str) (k : Str) : met (xs ++ [k]) = addS (met xs) k := by unfold met; rw [List.foldl_append]; rfl
theorem met_aux : ∀ (l acc : List Str), (l.foldl addS acc).length ≤ acc.length + l.length
  | [], acc => Nat.le_refl _
  | k :: l, acc => by
    have h1 := met_aux l (addS acc k)
    have h2 := addS_len (xs := acc) k
    rw [List.foldl_cons, List.length_cons]; omega
theorem met_len (xs : List Str) : (met xs).length ≤ xs.length := by have := met_aux xs []; simpa [met] using this

theorem loopZ {I : Addr} {fp wr : List Addr} {G : Array GenState → Array GenState → Prop} {n : Nat} {Pv : Nat → Value → Prop} {St : Nat → Shared → Prop} {R : Result → Shared → Prop}
    (W : WalksS P w A.in1 I fp wr G n Pv St) (S : Addr) (hSf : S ∉ fp) (ns : List Str) (hn : n = ns.length) (hb : ns.length + 1 < scanBound) (hval : ∀ i v, Pv i v → ∃ k t, ns[i]? = some k ∧ v = .str k t) :
    ∀ (k i : Nat) (s : Shared), n - i = k → i ≤ n → St i s → SetZ w s.heap S (met (ns.take i)) →
      (∀ s', Moved (S :: wr) G s s' → SetZ w s'.heap S (met ns) → R (.ok (.ret .none)) s') →
      codeAny (model P w) A (.builtin "set.update.loop" ⟨[.ref S, .ref I], []⟩) R s := by
  have hSw : S ∉ wr := fun h => hSf (W.sub _ h)
  have hsub : ∀ b ∈ wr, b ∈ S :: wr := fun b hb => List.mem_cons_of_mem _ hb
  intro k
  induction k with
  | zero =>
    intro i s hk' hi hst hS hR
    obtain rfl : i = n := by omega
    refine codeAny_builtin PyProof.Rows.F.entry_set_update_loop ?_
    rw [Around.under_plainId PyProof.Rows.F.plain_set_update_loop _]
    show wpAny _ A.in1 (pyNext (.ref I) >>= _) _ _ s
    refine wpAny_bind (W.done s _ _ hst fun s' hm => ?_)
    rw [List.take_of_length_le (by omega)] at hS
    show wpAny _ A.in1 (ret Value.none) _ _ s'
    exact wpAny_pure (hR s' (hm.mono hsub) (hS.at fun o e => hm.heap S o hSw e))
  | succ k ih =>
    intro i s hk' hi hst hS hR
    have hlt : i < n := by omega
    refine codeAny_builtin PyProof.Rows.F.entry_set_update_loop ?_
    rw [Around.under_plainId PyProof.Rows.F.plain_set_update_loop _]
    show wpAny _ A.in1 (pyNext (.ref I) >>= _) _ _ s
    refine wpAny_bind (W.item i s _ _ hlt hst fun v s' hP hst' hm => ?_)
    obtain ⟨z, t, hz, rfl⟩ := hval i v hP
    have hS' : SetZ w s'.heap S (met (ns.take i)) := hS.at fun o e => hm.heap S o hSw e
    show wpAny _ A.in1 (holding [Value.str z t] (setAdd S (.str z t)) >>= _) _ _ s'
    refine wpAny_bind (wpAny_holding ?_)
    unfold setAdd
    refine wpAny_holding (wpAny_bind ((strKind P w).pyHash (k := z) (strKind_is _ _ _ _) ?_))
    have hroom : (met (ns.take i)).length + 1 < scanBound := by
      have := met_len (ns.take i)
      have : (ns.take i).length ≤ ns.length := by rw [List.length_take]; omega
      omega
    refine addZ_hashed (s := { s' with toks := s'.toks + 1 }) hS' hroom fun b h' hsb hS2 => ?_
    have hS3 : SetZ w h' S (met (ns.take (i + 1))) := by
      rw [List.take_add_one, hz]
      show SetZ w h' S (met (ns.take i ++ [z]))
      rw [met_snoc]; exact hS2
    refine wpAny_pure ⟨plainId_quiet PyProof.Rows.F.plain_set_update_loop _, ih (i + 1) _ (by omega) hlt (W.frame _ s' _ _ hst' (Nat.le_succ _) fun b hb o e => ?_) hS3 fun s'' hm'' hS'' => ?_⟩
    · rw [hsb.2 b (fun h : b = S => hSf (by rw [← h]; exact hb))]; exact e
    · refine hR s'' (Moved.trans W.gtrans ((hm.mono hsub).then_heap (Nat.le_succ _) fun b o hb e => ?_) hm'') hS''
      rw [hsb.2 b (fun h : b = S => hb (by rw [h]; exact List.mem_cons_self))]; exact e
theorem setZ_new {o : Obj} (ho : h.get? a = some o) (e : o = { cls := .type "set", dict := none, data := .set #[] 0 (.fresh 0 0 (!w.params.followText "set-order")) }) : SetZ w h a [] := by
  subst e
  exact ⟨_, #[], 0, _, ho, ⟨rfl, rfl, rfl⟩, rfl, (fun e he => by simp at he), by simp, by simp, (by decide), (by rfl), List.Pairwise.nil, by
    show _ ∨ (!w.params.followText "set-order") = true
    cases w.params.followText "set-order"
    · exact .inr rfl
    · exact .inl rfl⟩
end
end DL
set_option maxHeartbeats 8000000
/-! SetC: set(text), set(list of texts), set(tuple of texts) as calls. Printed by gen_setcall.py. -/
namespace DL
open PySem PySem.Spec PyProof.Rows L2
section
variable {P : Program} {w : World} {A : Around} {E : Value → Shared → Prop} {s : Shared}
abbrev freshSet (w : World) : Obj := { cls := .type "set", dict := none, data := .set #[] 0 (.fresh 0 0 (!w.params.followText "set-order")) }
/-- set(v), by what its __init__ makes of the fresh set -/
theorem call_set_outer {v : Value} {Q : Value → Shared → Prop} (Pp : Heap → Prop)
    (hinit : ∀ R : Result → Shared → Prop, (∀ h' tk, Pp h' → R (.ok (.ret .none)) { s with heap := h', toks := tk }) →
      wpAny (model P w) A.in1.in1 (Builtin.«set.__init__» ⟨[.ref s.heap.objs.size, v], []⟩)
        (fun fin s' => match fin with | .done f => R (.ok f) s' | .again c' => c'.quiet = true ∧ codeAny (model P w) A.in1 c' R s') (fun e s' => R (.error e) s') { s with heap := s.heap.push (freshSet w) })
    (h : ∀ (h' : Heap) (tk : Nat), Pp h' → Q (.ref s.heap.objs.size) { s with heap := h', toks := tk }) :
    wpAny (model P w) A (call (.type "set") [v]) Q E s := by
  obtain ⟨c, tl, hmro⟩ := PySem.F.called_set.mro
  have hmade := PySem.F.called_set.made
  have hsub := PySem.F.called_set.sub
  refine wpAny_call (codeAny_of_tree ?_)
  show wpAny _ _ (callAny (.type "set") _) _ _ _
  refine wpAny_pure ⟨Code.quiet_builtin _ (by decide +kernel), codeAny_builtin PySem.F.entry_type_call ?_⟩
  rw [Around.under_plain (weight_type_call_type "set" [v] []) rfl]
  have h1 := PySem.F.called_set.notType
  have h2 := PySem.F.called_set.canCreate
  have hct := PySem.F.typeCall_set_1 v
  repeat (any_goals (first | assumption | wp_step))
  refine codeAny_mono (code_set_led1 v (E := E) (Q₁ := fun obj s₁ => obj = .ref s.heap.objs.size ∧ s₁ = { s with heap := s.heap.push (freshSet w) }) ⟨rfl, rfl⟩) fun r s₁ hr => ?_
  cases r with
  | error e => exact hr
  | ok fl =>
    cases fl with
    | ret obj =>
      obtain ⟨rfl, rfl⟩ := hr
      have hS : (s.heap.push (freshSet w)).get? s.heap.objs.size = some (freshSet w) := Heap.get?_push_size _ rfl
      have hT : Shared.TypeIs { s with heap := s.heap.push (freshSet w) } (.ref s.heap.objs.size) "set" := ⟨_, hS, rfl⟩
      have hli := PySem.F.called_set.init.lookup
      have hbi := PySem.F.called_set.init.bind (.ref s.heap.objs.size)
      repeat (any_goals (first | assumption | wp_step))
      refine codeAny_mono (codeAny_call_builtin (R := wants (fun r s₂ => r = .none ∧ ∃ h' tk, s₂ = { s with heap := h', toks := tk } ∧ Pp h') E) PySem.F.called_set.init.plain PySem.F.entry_set_init (check_set_init_1 hT ?_)) fun r₂ s₂ hr₂ => ?_
      · exact hinit _ fun h' tk hp => ⟨rfl, h', tk, rfl, hp⟩
      · cases r₂ with
        | error e => exact hr₂
        | ok fl₂ =>
          cases fl₂ with
          | ret r =>
            obtain ⟨rfl, h', tk, rfl, hS'⟩ := hr₂
            repeat (any_goals (first | assumption | wp_step))
            exact h _ _ hS'
          | _ => exact hr₂.elim
    | _ => exact hr.elim
theorem ne_lt {a b : Nat} (h : b < a) (z : b = a) : False := Nat.lt_irrefl _ (z ▸ h)
theorem ne_lt1 {a b : Nat} (h : b < a) (z : b = a + 1) : False := Nat.lt_irrefl _ (Nat.lt_of_lt_of_le (z ▸ h) (Nat.le_succ _))
theorem ne_succ {a : Nat} (z : a = a + 1) : False := Nat.lt_irrefl _ (Nat.lt_of_lt_of_le (Nat.lt_succ_self a) (Nat.le_of_eq z.symm))
theorem call_setT {x : Str} {t : Tok} {Q : Value → Shared → Prop} (hh : A.handled = none) (hb : x.cps.size + 1 < scanBound)
    (h : ∀ (h' : Heap) (tk : Nat), SetZ w h' s.heap.objs.size (met (signs x)) → (∀ b o, s.heap.get? b = some o → h'.get? b = some o) → Q (.ref s.heap.objs.size) { s with heap := h', toks := tk }) :
    wpAny (model P w) A (call (.type "set") [(.str x t)]) Q E s := by
  refine call_set_outer (fun h' => SetZ w h' s.heap.objs.size (met (signs x)) ∧ ∀ b o, s.heap.get? b = some o → h'.get? b = some o) (fun R hR => ?_) fun h' tk p => h h' tk p.1 p.2
  have hS : (s.heap.push (freshSet w)).get? s.heap.objs.size = some (freshSet w) := Heap.get?_push_size _ rfl
  have hT : Shared.TypeIs { s with heap := s.heap.push (freshSet w) } (.ref s.heap.objs.size) "set" := ⟨_, hS, rfl⟩
  have hz1 : (s.heap.push (freshSet w)).objs.size = s.heap.objs.size + 1 := Heap.size_push ..
  have hh3 : A.in1.in1.in1.handled = none := by simp [hh]
  have hsls := PySem.F.sub_str_set
  have hslf := PySem.F.sub_str_frozenset
  have hne : (Value.type "str" == Value.type "dict") = false := by decide
  unfold Builtin.«set.__init__» noKeywords Builtin.Frozenset.updateFrom
  generalize hPI : pyIter = PI
  wp_walk
  subst hPI
  refine wpAny_pyIter_str fun o St W st0 => ?_
  refine wpAny_bind (wpAny_runValue ?_)
  have hlen : (signs x).length = x.cps.size := by simp [signs]
  refine loopZ ((W _ hh3).toS) s.heap.objs.size (fun z => by have z := List.mem_singleton.mp z; rw [hz1] at z; exact ne_succ z) (signs x) hlen.symm (by rw [hlen]; exact hb) (fun i v hv => ?_) (x.cps.size - 0) 0 _ (by omega) (Nat.zero_le _) st0 (setZ_new (Heap.get?_push_of_some _ hS) rfl) ?_
  · obtain ⟨c, u, hc, rfl⟩ := hv
    have hc' : x.cps.toList[i]? = some c := by rw [Array.getElem?_toList]; exact hc
    exact ⟨⟨#[c]⟩, u, by simp [signs, hc'], rfl⟩
  intro s' hm hS'
  obtain ⟨h', g2, d', tk', os'⟩ := s'
  have eg : g2 = s.gens := hm.gens
  have ed : d' = s.drawn := hm.drawn
  have eo : os' = s.os := hm.os
  subst eg; subst ed; subst eo
  show wpAny _ _ _ _ _ _
  refine wpAny_pure ?_
  show wpAny _ _ (ret Value.none) _ _ _
  refine wpAny_pure (hR h' tk' ⟨hS', fun b u e => ?_⟩)
  have hb0 : b < s.heap.objs.size := Heap.lt_size e
  refine hm.heap b u (fun z => ?_) (Heap.get?_push_of_some _ (Heap.get?_push_of_some _ e))
  · rcases List.mem_cons.mp z with z | z
    · exact ne_lt hb0 z
    · have z := List.mem_singleton.mp z
      rw [hz1] at z
      exact ne_lt1 hb0 z
theorem call_setL {l : Addr} {items : Array Value} {xs : List Str} {Q : Value → Shared → Prop} (hh : A.handled = none) (hl : s.heap.IsList l items) (hi : StrsAre items.toList xs) (hb : xs.length + 1 < scanBound)
    (h : ∀ (h' : Heap) (tk : Nat), SetZ w h' s.heap.objs.size (met xs) → (∀ b o, s.heap.get? b = some o → h'.get? b = some o) → Q (.ref s.heap.objs.size) { s with heap := h', toks := tk }) :
    wpAny (model P w) A (call (.type "set") [(.ref l)]) Q E s := by
  refine call_set_outer (fun h' => SetZ w h' s.heap.objs.size (met xs) ∧ ∀ b o, s.heap.get? b = some o → h'.get? b = some o) (fun R hR => ?_) fun h' tk p => h h' tk p.1 p.2
  have hS : (s.heap.push (freshSet w)).get? s.heap.objs.size = some (freshSet w) := Heap.get?_push_size _ rfl
  have hT : Shared.TypeIs { s with heap := s.heap.push (freshSet w) } (.ref s.heap.objs.size) "set" := ⟨_, hS, rfl⟩
  have hz1 : (s.heap.push (freshSet w)).objs.size = s.heap.objs.size + 1 := Heap.size_push ..
  have hh3 : A.in1.in1.in1.handled = none := by simp [hh]
  obtain ⟨ol, hol, hcl, nl, hdl⟩ := hl
  obtain ⟨ocls, odict, odata, oslots⟩ := ol
  simp only at hcl hdl
  subst hcl; subst hdl
  have hol' : (s.heap.push (freshSet w)).get? l = some { cls := .type "list", dict := odict, data := .seq items nl, slots := oslots } := Heap.get?_push_of_some _ hol
  have hsls := PySem.F.sub_list_set
  have hslf := PySem.F.sub_list_frozenset
  have hne : (Value.type "list" == Value.type "dict") = false := by decide
  have hl1 : (s.heap.push (freshSet w)).IsList l items := ⟨_, hol', rfl, nl, rfl⟩
  unfold Builtin.«set.__init__» noKeywords Builtin.Frozenset.updateFrom
  generalize hPI : pyIter = PI
  wp_walk
  subst hPI
  refine wpAny_pyIter_list hl1 ?_
  refine wpAny_bind (wpAny_runValue ?_)
  have hlS : l < s.heap.objs.size := Heap.lt_size hol
  have hneI : l ≠ (s.heap.push (freshSet w)).objs.size := by rw [hz1]; exact fun z => ne_lt1 hlS z
  have hlen : items.size = xs.length := by rw [← StrsAre.len_eq hi, Array.length_toList]
  refine loopZ ((Walks.list hh3 _ l hneI items).toS) s.heap.objs.size (fun z => ?_) xs hlen hb (fun i v hv => ?_) (items.size - 0) 0 _ (by omega) (Nat.zero_le _)
    ⟨⟨_, Heap.get?_push_size _ rfl, rfl, rfl⟩, hl1.push _⟩ (setZ_new (Heap.get?_push_of_some _ hS) rfl) ?_
  · rcases List.mem_cons.mp z with z | z
    · rw [hz1] at z; exact ne_succ z
    · exact ne_lt hlS (List.mem_singleton.mp z).symm
  · have hi' : i < xs.length := by rw [← hlen]; exact (Array.getElem?_eq_some_iff.mp hv).1
    obtain ⟨t, e⟩ := SS.strs_at hi i v (by rw [Array.getElem?_toList]; exact hv)
    refine ⟨xs[i], t, List.getElem?_eq_getElem hi', ?_⟩
    rw [e, List.getD_eq_getElem?_getD, List.getElem?_eq_getElem hi'] <;> rfl
  intro s' hm hS'
  obtain ⟨h', g2, d', tk', os'⟩ := s'
  have eg : g2 = s.gens := hm.gens
  have ed : d' = s.drawn := hm.drawn
  have eo : os' = s.os := hm.os
  subst eg; subst ed; subst eo
  show wpAny _ _ _ _ _ _
  refine wpAny_pure ?_
  show wpAny _ _ (ret Value.none) _ _ _
  refine wpAny_pure (hR h' tk' ⟨hS', fun b u e => ?_⟩)
  have hb0 : b < s.heap.objs.size := Heap.lt_size e
  refine hm.heap b u (fun z => ?_) (Heap.get?_push_of_some _ (Heap.get?_push_of_some _ e))
  · rcases List.mem_cons.mp z with z | z
    · exact ne_lt hb0 z
    · have z := List.mem_singleton.mp z
      rw [hz1] at z
      exact ne_lt1 hb0 z
theorem call_setU {l : Addr} {items : Array Value} {xs : List Str} {Q : Value → Shared → Prop} (hh : A.handled = none) (hl : s.heap.IsTuple l items) (hi : StrsAre items.toList xs) (hb : xs.length + 1 < scanBound)
    (h : ∀ (h' : Heap) (tk : Nat), SetZ w h' s.heap.objs.size (met xs) → (∀ b o, s.heap.get? b = some o → h'.get? b = some o) → Q (.ref s.heap.objs.size) { s with heap := h', toks := tk }) :
    wpAny (model P w) A (call (.type "set") [(.ref l)]) Q E s := by
  refine call_set_outer (fun h' => SetZ w h' s.heap.objs.size (met xs) ∧ ∀ b o, s.heap.get? b = some o → h'.get? b = some o) (fun R hR => ?_) fun h' tk p => h h' tk p.1 p.2
  have hS : (s.heap.push (freshSet w)).get? s.heap.objs.size = some (freshSet w) := Heap.get?_push_size _ rfl
  have hT : Shared.TypeIs { s with heap := s.heap.push (freshSet w) } (.ref s.heap.objs.size) "set" := ⟨_, hS, rfl⟩
  have hz1 : (s.heap.push (freshSet w)).objs.size = s.heap.objs.size + 1 := Heap.size_push ..
  have hh3 : A.in1.in1.in1.handled = none := by simp [hh]
  obtain ⟨ol, hol, hcl, nl, hdl⟩ := hl
  obtain ⟨ocls, odict, odata, oslots⟩ := ol
  simp only at hcl hdl
  subst hcl; subst hdl
  have hol' : (s.heap.push (freshSet w)).get? l = some { cls := .type "tuple", dict := odict, data := .seq items nl, slots := oslots } := Heap.get?_push_of_some _ hol
  have hsls := PySem.F.sub_tuple_set
  have hslf := PySem.F.sub_tuple_frozenset
  have hne : (Value.type "tuple" == Value.type "dict") = false := by decide
  have hl1 : (s.heap.push (freshSet w)).IsTuple l items := ⟨_, hol', rfl, nl, rfl⟩
  unfold Builtin.«set.__init__» noKeywords Builtin.Frozenset.updateFrom
  generalize hPI : pyIter = PI
  wp_walk
  subst hPI
  refine wpAny_pyIter_tuple hl1 ?_
  refine wpAny_bind (wpAny_runValue ?_)
  have hlS : l < s.heap.objs.size := Heap.lt_size hol
  have hneI : l ≠ (s.heap.push (freshSet w)).objs.size := by rw [hz1]; exact fun z => ne_lt1 hlS z
  have hlen : items.size = xs.length := by rw [← StrsAre.len_eq hi, Array.length_toList]
  refine loopZ ((Walks.tuple hh3 _ l hneI items).toS) s.heap.objs.size (fun z => ?_) xs hlen hb (fun i v hv => ?_) (items.size - 0) 0 _ (by omega) (Nat.zero_le _)
    ⟨⟨_, Heap.get?_push_size _ rfl, rfl, rfl⟩, hl1.push _⟩ (setZ_new (Heap.get?_push_of_some _ hS) rfl) ?_
  · rcases List.mem_cons.mp z with z | z
    · rw [hz1] at z; exact ne_succ z
    · exact ne_lt hlS (List.mem_singleton.mp z).symm
  · have hi' : i < xs.length := by rw [← hlen]; exact (Array.getElem?_eq_some_iff.mp hv).1
    obtain ⟨t, e⟩ := SS.strs_at hi i v (by rw [Array.getElem?_toList]; exact hv)
    refine ⟨xs[i], t, List.getElem?_eq_getElem hi', ?_⟩
    rw [e, List.getD_eq_getElem?_getD, List.getElem?_eq_getElem hi'] <;> rfl
  intro s' hm hS'
  obtain ⟨h', g2, d', tk', os'⟩ := s'
  have eg : g2 = s.gens := hm.gens
  have ed : d' = s.drawn := hm.drawn
  have eo : os' = s.os := hm.os
  subst eg; subst ed; subst eo
  show wpAny _ _ _ _ _ _
  refine wpAny_pure ?_
  show wpAny _ _ (ret Value.none) _ _ _
  refine wpAny_pure (hR h' tk' ⟨hS', fun b u e => ?_⟩)
  have hb0 : b < s.heap.objs.size := Heap.lt_size e
  refine hm.heap b u (fun z => ?_) (Heap.get?_push_of_some _ (Heap.get?_push_of_some _ e))
  · rcases List.mem_cons.mp z with z | z
    · exact ne_lt hb0 z
    · have z := List.mem_singleton.mp z
      rw [hz1] at z
      exact ne_lt1 hb0 z
end
end DL
set_option maxHeartbeats 4000000
/-! SetD: sorted(..) of texts of any number: of a list, a tuple, a set of texts, a dict's keys; over data: sorted(xs), sorted(set(..)), sorted(d.keys()). -/
namespace DL
open PySem PySem.Spec PyProof.Rows L2

/-- s' is later than s: all objects kept -/
structure Later (s s' : Shared) : Prop where
  keep : ∀ b o, s.heap.get? b = some o → s'.heap.get? b = some o
  gens : s'.gens = s.gens
  os : s'.os = s.os
section
variable {P : Program} {w : World} {A : Around} {E : Value → Shared → Prop} {s : Shared}
theorem sorted_by {v : Value} {ks : List Str} {Q : Value → Shared → Prop}
    (hcol : ∀ (E' : Value → Shared → Prop) (Q' : List Value → Shared → Prop), (∀ s' vs ks', Later s s' → StrsAre vs ks' → ks'.Perm ks → Q' vs s') → wpAny (model P w) A.in1 (collect v) Q' E' s)
    (hL : ks.length ≤ sizeLine)
    (h : ∀ s1 s' p (out : Array Value) (c : Nat) (ys : List Str), Later s s1 → Later s1 s' → s1.heap.objs.size ≤ p → s'.heap.get? p = some (seqObj "list" out c) → StrsAre out.toList ys → ys.Perm ks → sortedS ys = true → Q (.ref p) s') :
    wpAny (model P w) A (call (.builtin "sorted") [v]) Q E s := by
  refine Calls.call_function_entry PyProof.Rows.kind_sorted PyProof.Rows.plain_sorted PyProof.Rows.entry_sorted (PyProof.Rows.args_sorted1 _) ?_
  unfold Builtin.«sorted»
  refine wpAny_bind (m := checkCount "sorted" 1 1 _) (wpAny_pure ?_)
  refine wpAny_bind (hcol _ _ fun s1 vs ks' la hS pk => ?_)
  have hvl : vs.length ≤ sizeLine := by rw [hS.length, pk.length_eq]; exact hL
  refine wpAny_bind (wpAny_newList ?_ hvl)
  have hoL : (s1.heap.push (seqObj "list" vs.toArray 0)).get? s1.heap.objs.size = some (seqObj "list" vs.toArray 0) := Heap.get?_push_size _ rfl
  refine wpAny_bind (wpAny_holding (wpAny_call_entry PyProof.Rows.slot_list_sort ⟨_, hoL, rfl⟩ PyProof.Rows.entry_list_sort
    (list_sort_treeKAny strKind_oneLt (s := { s1 with heap := s1.heap.push (seqObj "list" vs.toArray 0) }) hoL hS.keysOf (fun v₁ v₂ rest e => keyKind_strs (by rw [← e]; exact hS)) hvl fun st' hp hs => ⟨_, rfl, ?_⟩)
    (PyProof.Rows.args_list_sort _)))
  obtain ⟨ys, g1, g2, g3⟩ := sorted_out_str hS hp hs
  obtain ⟨c, hc⟩ := PyProof.Rows.sortedHeap_at (vs := vs) (out := (arrOf st').map (·.2)) hoL
  refine wpAny_pure ⟨_, rfl, h s1 _ s1.heap.objs.size ((arrOf st').map (·.2)) c ys la ⟨fun b u q => ?_, rfl, rfl⟩ (Nat.le_refl _) hc g1 (g2.trans pk) g3⟩
  · have hlt := Heap.lt_size q
    show (sortedHeap (s1.heap.push (seqObj "list" vs.toArray 0)) s1.heap.objs.size vs _).get? b = some u
    rw [PyProof.Rows.sortedHeap_old (Nat.ne_of_lt hlt) (by rw [size_push']; exact Nat.lt_succ_of_lt hlt)]
    exact Heap.get?_push_of_some _ q
theorem col_list {l : Addr} {vs : List Value} {ks : List Str} (hl : s.heap.IsList l vs.toArray) (hS : StrsAre vs ks) (hL : vs.length ≤ sizeLine) :
    ∀ (E' : Value → Shared → Prop) (Q' : List Value → Shared → Prop), (∀ s' vs ks', Later s s' → StrsAre vs ks' → ks'.Perm ks → Q' vs s') → wpAny (model P w) A (collect (.ref l)) Q' E' s := fun E' Q' h =>
  collect_list hl (h _ vs ks ⟨fun b o e => by
    show ((s.heap.push (seqObj "list" #[] 0)).update s.heap.objs.size _).get? b = some o
    rw [Heap.get?_update_ne _ _ _ _ (Nat.ne_of_lt (Heap.lt_size e))]
    exact Heap.get?_push_of_some _ e, rfl, rfl⟩ hS (List.Perm.refl _)) hL
theorem strs_of_all : ∀ l : List Value, (∀ v ∈ l, ∃ x tk, v = Value.str x tk) → StrsAre l (l.map fun v => match v with | .str x _ => x | _ => Str.empty)
  | [], _ => .nil
  | v :: l, h => by
    obtain ⟨x, tk, rfl⟩ := h v List.mem_cons_self
    exact .cons x tk (strs_of_all l fun u hu => h u (List.mem_cons_of_mem _ hu))
theorem col_set {a : Addr} {xs : List Str} (hh : A.handled = none) (z : SetZ w s.heap a xs) :
    ∀ (E' : Value → Shared → Prop) (Q' : List Value → Shared → Prop), (∀ s' vs ks', Later s s' → StrsAre vs ks' → ks'.Perm xs → Q' vs s') → wpAny (model P w) A (collect (.ref a)) Q' E' s := fun E' Q' h => by
  obtain ⟨o, es, ep, t, ho, hex, hd, g, nd, pm, hb, hf, hr, hl⟩ := z
  refine collect_set hh ⟨o, ho, hex.1, hd⟩ hf hb hr hl fun s1 vs k1 hz g1 o1 pv => ?_
  have hS : StrsAre vs (vs.map fun v => match v with | .str x _ => x | _ => Str.empty) := strs_of_all vs fun v hv => by
    obtain ⟨e, he, q⟩ := List.mem_map.mp (pv.mem_iff.mp hv)
    obtain ⟨k, tk, h1, _⟩ := g e he
    exact ⟨k, tk, by rw [← q]; exact h1⟩
  refine h s1 vs _ ⟨k1, g1, o1⟩ hS ?_
  refine List.Perm.trans ?_ pm.symm
  have q := pv.map fun v : Value => (match v with | .str x _ => x | _ => Str.empty : Str)
  rw [List.map_map] at q
  exact q
end

/-! ### as rules -/
section
variable {X : Cx}
/-- the set of texts at a -/
def SetZo (w : World) (a : Addr) (xs : List Str) : HO := .ext fun h => SetZ w h a xs
theorem setZo_new {w : World} {Pr : Program} {H : Hp} {h : Heap} {a : Addr} {xs : List Str} (z : SetZ w h a xs) : ObjOk Pr w H h a (SetZo w a xs) := by
  have ⟨o, _, _, _, ho, _⟩ := z
  exact ⟨z, ⟨o, ho⟩, fun h1 h2 p k => SetZ.at p k⟩
/-- set(x): x a text, a list of texts, a tuple of texts -/
def rSetX (K : PySem.W.Frag) (w : World) : List V → Hp → VK → Prop := fun vs H Q => ∃ xs : List Str, xs.length + 1 < scanBound ∧
  ((∃ x, vs = [.str x] ∧ xs = signs x) ∨ (∃ a, vs = [.ref a] ∧ (SqL K H a (xs.map V.str) ∨ SqT K H a (xs.map V.str)))) ∧ ∀ p, H p = none → Q (.ref p) (upd H p (SetZo w p (met xs)))
theorem cr_setX (hc : X.calm = true) : CallR X (.type "set") (rSetX X.K X.w) := by
  intro pins s σ H vs us Q I r h
  obtain ⟨xs, hb, h, q⟩ := h
  have fin : ∀ (h' : Heap) (tk : Nat), SetZ X.w h' s.heap.objs.size (met xs) → (∀ b o, s.heap.get? b = some o → h'.get? b = some o) → EP X pins σ Q (.ref s.heap.objs.size) { s with heap := h', toks := tk } := fun h' tk z k => by
    have hn : H s.heap.objs.size = none := I.hok.fresh (Nat.le_refl _)
    exact ⟨.ref s.heap.objs.size, _, I.laid (o := SetZo X.w s.heap.objs.size (met xs)) k (Nat.le_refl _) (setZo_new z), rfl, q _ hn⟩
  rcases h with ⟨x, rfl, rfl⟩ | ⟨a, rfl, h | h⟩
  · obtain ⟨u, rfl, ru⟩ := vals1 r
    obtain ⟨t, rfl⟩ := ru
    exact call_setT (I.ok.hd hc) (by simpa [signs] using hb) fun h' tk z k => fin h' tk z k
  · obtain ⟨its, rv, pl, hz⟩ := I.list h
    rw [Vals.ref1 r]
    exact call_setL (I.ok.hd hc) pl.isList (by simpa using rv.strs) hb fun h' tk z k => fin h' tk z k
  · obtain ⟨its, rv, pl, hz⟩ := I.tuple h
    rw [Vals.ref1 r]
    exact call_setU (items := its.toArray) (I.ok.hd hc) (show s.heap.IsTuple a its.toArray from pl) (by simpa using rv.strs) hb fun h' tk z k => fin h' tk z k
theorem Later.inv {pins : List (Addr × Obj)} {σ : L2.St} {H : Hp} {s s' : Shared} (I : Inv X pins σ H s) (la : Later s s') : Inv X pins σ H s' :=
  I.call' (ch := []) la.os (Un.kept la.keep) (I.hok.kept la.keep) (by rw [la.gens]; exact I.bare) (fun _ z => nomatch z)
/-- a new list of texts, by sorted -/
theorem sorted_fin {pins : List (Addr × Obj)} {σ : L2.St} {H : Hp} {s s1 s' : Shared} {p : Addr} {out : Array Value} {c : Nat} {ys : List Str} {Q : VK} (I : Inv X pins σ H s) (l1 : Later s s1) (la : Later s1 s') (hp : s1.heap.objs.size ≤ p)
    (ho : s'.heap.get? p = some (seqObj "list" out c)) (hS : StrsAre out.toList ys) (hL : ys.length ≤ sizeLine) (q : H p = none → Q (.ref p) (upd H p (.lst (ys.map V.str)))) : EP X pins σ Q (.ref p) s' := by
  have I1 := Later.inv I l1
  have hn : H p = none := I1.hok.fresh hp
  have J : Inv X pins σ (upd H p (.lst (ys.map V.str))) s' :=
    I1.call' (ch := []) la.os (Un.laid la.keep hp hn) (I1.hok.laid la.keep hp ⟨by rw [List.length_map]; exact hL, out.toList, c, vals_of_strs hS, ho⟩) (by rw [la.gens]; exact I1.bare) (fun _ z => nomatch z)
  exact ⟨.ref p, _, J, rfl, q hn⟩
/-- sorted(x): x a list of texts, a set of texts -/
def rSortX (K : PySem.W.Frag) (w : World) : List V → Hp → VK → Prop := fun vs H Q => ∃ (a : Addr) (xs : List Str), vs = [.ref a] ∧ xs.length ≤ sizeLine ∧ (SqL K H a (xs.map V.str) ∨ H a = some (SetZo w a xs)) ∧
  ∀ ys p, ys.Perm xs → sortedS ys = true → H p = none → Q (.ref p) (upd H p (.lst (ys.map V.str)))
theorem cr_sortX (hc : X.calm = true) : CallR X (.builtin "sorted") (rSortX X.K X.w) := by
  intro pins s σ H vs us Q I r h
  obtain ⟨a, xs, rfl, hL, h, q⟩ := h
  rw [Vals.ref1 r]
  rcases h with h | h
  · obtain ⟨its, rv, pl, hz⟩ := I.list h
    refine sorted_by (ks := xs) (col_list pl.isList rv.strs (by rw [rv.strs.length]; exact hL)) hL fun s1 s' p out c ys l1 la hp ho hS pm hs => ?_
    exact sorted_fin I l1 la hp ho hS (by rw [pm.length_eq]; exact hL) fun hn => q ys p pm hs hn
  · refine sorted_by (ks := xs) (col_set (show X.A.in1.handled = none from I.ok.hd hc) (I.hok a _ h).1) hL fun s1 s' p out c ys l1 la hp ho hS pm hs => ?_
    exact sorted_fin I l1 la hp ho hS (by rw [pm.length_eq]; exact hL) fun hn => q ys p pm hs hn
end
end DL
set_option maxHeartbeats 4000000
/-! SetK: d.keys() as a value, sorted(d.keys()) of text keys. -/
namespace DL
open PySem PySem.Spec PyProof.Rows L2
section
variable {X : Cx}
/-- a view of d's keys at v -/
def KVo (v d : Addr) : HO := .ext fun h => PySem.W.KdlKeysView h v d
theorem kvo_new {w : World} {Pr : Program} {H : Hp} {h : Heap} {v d : Addr} (z : PySem.W.KdlKeysView h v d) : ObjOk Pr w H h v (KVo v d) := by
  have ⟨o, ho, _⟩ := z
  exact ⟨z, ⟨o, ho⟩, fun h1 h2 p k => let ⟨o, ho, r⟩ := p; ⟨o, k o ho, r⟩⟩
def tKeys (td : TE) : TE := fun σ H Q => td σ H fun x H1 => ∃ d kvs, x = .ref d ∧ Rd H1 d (.dK kvs) ∧ ∀ p, H1 p = none → Q (.ref p) (upd H1 p (KVo p d))
theorem pe_keys {e : Expr} {td : TE} {apos cpos : Pos} (he : PE X e td) (hbase : attributeBase e "keys" X.env (eval e X.env) = eval e X.env := by rfl) (hline : (apos.endLine == cpos.line) = true := by rfl) :
    PE X (.Call (.Attribute e "keys" apos) [] [] cpos) (tKeys td) := by
  refine ⟨fun pins s σ H Q I h => ?_⟩
  refine wpAny_Call_method (T := "dict") (id := "dict.keys") hbase rfl hline PySem.F.plainAttrs_dict PySem.F.slot_dict_keys PySem.F.type_dict_keys (thn (he.run pins s σ H _ I h) fun u s1 ⟨x, H1, I1, rx, d, kvs, ex, hd, q⟩ => ?_)
  subst ex
  obtain rfl : u = Value.ref d := rx
  obtain ⟨z, lo, vs, rel, dd⟩ := dk_rd I1.hok hd
  refine ⟨dd.typeIs, dd.mapOf.noDict, ?_⟩
  have hn : H1 s1.heap.objs.size = none := I1.hok.fresh (Nat.le_refl _)
  have fin : EP X pins σ Q (.ref s1.heap.objs.size) { s1 with heap := s1.heap.push { cls := .type "dict_keys", data := .fields #[.ref d] } } :=
    ⟨.ref s1.heap.objs.size, _, I1.laid (t' := s1.toks) (o := KVo s1.heap.objs.size d) (fun b ob q => Heap.get?_push_of_some _ q) (Nat.le_refl _) (kvo_new ⟨_, Heap.get?_push_size _ rfl, rfl, rfl⟩), rfl, q _ hn⟩
  show wpAny _ _ (callWith cpos (.builtin "dict.keys") [.ref d] [] []) _ X.xe s1
  exact method_meetsIn PySem.F.slot_dict_keys PySem.F.entry_dict_keys rfl (PySem.evalArgs_none ⟨rfl, dd.typeIs, PySem.F.args_dict_keys_1 _, _, PySem.W.kdl_meets_keys (mixKind X.prog X.w) d lo, ⟨vs, dd⟩, fin⟩)
def rSortK : List V → Hp → VK → Prop := fun vs H Q => ∃ (v d : Addr) (kvs : List (Key × V)) (ks : List Str), vs = [.ref v] ∧ H v = some (KVo v d) ∧ Rd H d (.dK kvs) ∧ kvs.map (·.1) = ks.map Sum.inr ∧
  ∀ ys p, ys.Perm ks → sortedS ys = true → H p = none → Q (.ref p) (upd H p (.lst (ys.map V.str)))
theorem cr_sortK (hc : X.calm = true) : CallR X (.builtin "sorted") rSortK := by
  intro pins s σ H xs us Q I r q
  obtain ⟨v, d, kvs, ks, rfl, hv, hd, hks, q⟩ := q
  rw [Vals.ref1 r]
  obtain ⟨z, lo, vs, rel, dd⟩ := dk_rd I.hok hd
  obtain ⟨ep, hat⟩ := dd.dictAt
  have hkeys : vs.map (·.1) = ks.map Sum.inr := rel.keys.symm.trans hks
  have hl : vs.length = ks.length := by
    have e := congrArg List.length hkeys
    rw [List.length_map, List.length_map] at e
    exact e
  have hL : ks.length ≤ sizeLine := by
    have e := congrArg List.length hks
    rw [List.length_map, List.length_map] at e
    rw [← e]; exact z
  have view : PySem.W.KdlKeysView s.heap v d := (I.hok v _ hv).1
  refine sorted_by (ks := ks) (fun E' Q' h => PySem.W.kdu_collect (A := X.A.in1) (PySem.W.kdl_keys (knd := mixKind X.prog X.w) (kvs := vs) (ep := ep)) (I.ok.hd hc) ⟨view, hat⟩ (by rw [hl]; exact hL) fun h' tk acc hk hacc => ?_) hL
    fun s1 s' p out c ys l1 la hp ho hS pm hs => sorted_fin I l1 la hp ho hS (by rw [pm.length_eq]; exact hL) fun hn => q ys p pm hs hn
  have hal : acc.toList.length = ks.length := by rw [Array.length_toList, hacc.1, hl]
  have hS : StrsAre acc.toList ks := L2.strs_at hal fun j v e => by
    obtain ⟨k, x, e1, e2⟩ := hacc.2 j v (by rw [← Array.getElem?_toList]; exact e)
    have e3 : (vs.map (·.1))[j]? = some k := by rw [List.getElem?_map, e1]; all_goals rfl
    rw [hkeys, List.getElem?_map] at e3
    cases e4 : ks[j]? with
    | none => rw [e4] at e3; cases e3
    | some y =>
      rw [e4] at e3
      have e5 : Sum.inr y = k := Option.some.inj e3
      subst e5
      obtain ⟨t, ev⟩ := Value.isStrOf_shape (x := y) (v := v) e2
      exact ⟨y, t, rfl, ev⟩
  exact h _ acc.toList ks ⟨hk, rfl, rfl⟩ hS (List.Perm.refl _)
end
end DL
/-! DL6: sorting over data, list(..), tuple(..), +, join. -/
namespace DL
open PySem L2

def leS (a b : Str) : Bool := decide (a.cps.toList ≤ b.cps.toList)
def srt (xs : List Str) : List Str := xs.mergeSort leS
theorem str_ext {a b : Str} (h : a.cps.toList = b.cps.toList) : a = b := by
  cases a; cases b; exact congrArg Str.mk (Array.toList_inj.mp h)
theorem leS_trans (a b c : Str) (h : leS a b = true) (g : leS b c = true) : leS a c = true :=
  decide_eq_true (List.le_trans (of_decide_eq_true h) (of_decide_eq_true g))
theorem leS_total (a b : Str) : (leS a b || leS b a) = true := by
  rcases List.le_total a.cps.toList b.cps.toList with h | h
  · rw [show leS a b = true from decide_eq_true h]; rfl
  · rw [show leS b a = true from decide_eq_true h, Bool.or_true]
theorem leS_anti {a b : Str} (h : leS a b = true) (g : leS b a = true) : a = b := str_ext (List.le_antisymm (of_decide_eq_true h) (of_decide_eq_true g))
theorem leS_refl (a : Str) : leS a a = true := by have := leS_total a a; simpa using this
theorem srt_perm (xs : List Str) : (srt xs).Perm xs := List.mergeSort_perm _ _
theorem srt_pw (xs : List Str) : (srt xs).Pairwise fun a b => leS a b = true := List.pairwise_mergeSort leS_trans leS_total xs
theorem rising_pw : ∀ (p : Str) (l : List Str), PyProof.Rows.risingS p l = true → (p :: l).Pairwise fun a b => leS a b = true
  | p, [], _ => List.pairwise_singleton _ _
  | p, x :: r, h => by
    have h' : (!Spec.ltCps x.cps.toList p.cps.toList && PyProof.Rows.risingS x r) = true := h
    rw [Bool.and_eq_true, PyProof.Rows.ltCps_eq] at h'
    have hx : leS p x = true := decide_eq_true (by simpa using h'.1)
    have ih := rising_pw x r h'.2
    refine List.pairwise_cons.mpr ⟨fun y hy => ?_, ih⟩
    rcases List.mem_cons.mp hy with e | e
    · rw [e]; exact hx
    · exact leS_trans _ _ _ hx (List.rel_of_pairwise_cons ih e)
theorem sorted_pw {l : List Str} (h : PyProof.Rows.sortedS l = true) : l.Pairwise fun a b => leS a b = true := by
  cases l with
  | nil => exact List.Pairwise.nil
  | cons x r => exact rising_pw x r h
/-- a sorted arrangement is the sorted one -/
theorem srt_unique {xs ys : List Str} (p : ys.Perm xs) (h : ys.Pairwise fun a b => leS a b = true) : ys = srt xs :=
  List.Perm.eq_of_pairwise (fun a b _ _ h1 h2 => leS_anti h1 h2) h (srt_pw xs) (p.trans (srt_perm xs).symm)
theorem srt_eq {xs ys : List Str} (p : ys.Perm xs) (h : PyProof.Rows.sortedS ys = true) : ys = srt xs := srt_unique p (sorted_pw h)
theorem srt_congr {xs ys : List Str} (p : ys.Perm xs) : srt ys = srt xs := srt_unique ((srt_perm ys).trans p) (srt_pw ys)
/-- the members of a list, each once -/
theorem mem_addS {xs : List Str} {k x : Str} : x ∈ addS xs k ↔ x ∈ xs ∨ x = k := by
  unfold addS; split
  · rename_i h; exact ⟨.inl, fun z => z.elim id fun e => e ▸ h⟩
  · simp
theorem mem_met_aux {x : Str} : ∀ (l acc : List Str), x ∈ l.foldl addS acc ↔ x ∈ acc ∨ x ∈ l
  | [], acc => by simp
  | k :: l, acc => by rw [List.foldl_cons, mem_met_aux l, mem_addS, List.mem_cons]; exact or_assoc
theorem mem_met {x : Str} {l : List Str} : x ∈ met l ↔ x ∈ l := by unfold met; rw [mem_met_aux]; simp
theorem nodup_met_aux : ∀ (l acc : List Str), acc.Nodup → (l.foldl addS acc).Nodup
  | [], _, h => h
  | k :: l, acc, h => nodup_met_aux l _ (addS_nodup h)
theorem nodup_met (l : List Str) : (met l).Nodup := nodup_met_aux l [] List.nodup_nil
/-- sorted(set(xs)) -/
def srtset (xs : List Str) : List Str := srt (met xs)
theorem mem_srtset {x : Str} {l : List Str} : x ∈ srtset l ↔ x ∈ l := by rw [srtset, (srt_perm _).mem_iff, mem_met]
theorem nodup_srtset (l : List Str) : (srtset l).Nodup := (srt_perm _).nodup_iff.mpr (nodup_met l)

def txts : List D → Option (List Str)
  | [] => some []
  | .str b :: r => (txts r).map (b :: ·)
  | _ => none
theorem txts_map : ∀ bs : List Str, txts (bs.map D.str) = some bs
  | [] => rfl
  | b :: bs => by rw [List.map_cons, txts, txts_map bs]; rfl
theorem txts_of {K : PySem.W.Frag} {F : Hp} : ∀ {ds : List D} {bs : List Str} {vs : List V}, txts ds = some bs → Reps K F ds vs → vs = bs.map V.str
  | [], _, _, e, r => by cases e; exact r
  | d :: ds, bs, vs, e, r => by
    cases d <;> first | (cases (show (none : Option (List Str)) = some bs from e)) | skip
    rename_i b
    rw [txts] at e
    cases q : txts ds with
    | none => rw [q] at e; cases e
    | some cs =>
      rw [q] at e; cases e
      obtain ⟨v, r', rfl, rfl, h⟩ := r
      rw [txts_of q h]; rfl
section
variable {K : PySem.W.Frag} {w : World}
/-- sorted of a list of texts -/
def oSort : OL := fun ds P => match ds with
  | [.lst xs] => asA (txts xs) fun ss => ss.length ≤ sizeLine ∧ P (.ol ((srt ss).map .str))
  | _ => False
theorem snd_sort : SndL K (rSortX K w) oSort := ⟨fun {F H ds vs P Q} fh r h k => by
  unfold oSort at h
  split at h
  · obtain ⟨v, _, rfl, ⟨a, us, rfl, h1, h2⟩, rfl⟩ := r
    obtain ⟨ss, e, hz, h⟩ := asA_of h
    have q := txts_of e h2
    subst q
    exact ⟨a, ss, rfl, hz, .inl (fh.seq (SqL.of h1)), fun ys p pm hs n => by rw [srt_eq pm hs]; exact k.newL fh h (Reps.strs.mpr rfl) n⟩
  · exact h.elim⟩
/-- sorted(set(x)) -/
def oSortSet : OL := fun ds P => match ds with
  | [.lst xs] => asA (txts xs) fun ss => ss.length + 1 < scanBound ∧ P (.ol ((srtset ss).map .str))
  | [.tup xs] => asA (txts xs) fun ss => ss.length + 1 < scanBound ∧ P (.ol ((srtset ss).map .str))
  | [.str x] => x.length + 1 < scanBound ∧ P (.ol ((srtset (signs x)).map .str))
  | _ => False
def rSortSet (K : PySem.W.Frag) (w : World) : List V → Hp → VK → Prop := fun vs H Q => rSetX K w vs H fun x H1 => rSortX K w [x] H1 Q
theorem met_small {xs : List Str} (h : xs.length + 1 < scanBound) : (met xs).length ≤ sizeLine := by
  have h1 := met_len xs
  have h2 : scanBound ≤ sizeLine := by decide
  omega
theorem snd_sortSet : SndL K (rSortSet K w) oSortSet := ⟨fun {F H ds vs P Q} fh r h k => by
  have fin : ∀ (xs : List Str), xs.length + 1 < scanBound → P (.ol ((srtset xs).map .str)) → ∀ p, H p = none → rSortX K w [.ref p] (upd H p (SetZo w p (met xs))) Q := fun xs hb hP p n =>
    ⟨p, met xs, rfl, met_small hb, .inr upd_same, fun ys p2 pm hs n2 => by
      rw [srt_eq pm hs]
      have fh2 : Same F (upd H p (SetZo w p (met xs))) := fh.trans (Same.new n)
      exact k (.ol ((srtset xs).map .str)) _ F _ hP ((Same.new n).trans (Same.new n2)) (Same.refl _) (fh2.trans (Same.new n2)) (fun _ q => .inl q)
        ⟨p2, _, rfl, upd_same, Reps.strs.mpr rfl, (Same.new n).free n2, fh2.free n2⟩⟩
  unfold oSortSet at h
  split at h
  · obtain ⟨v, _, rfl, ⟨a, us, rfl, h1, h2⟩, rfl⟩ := r
    obtain ⟨ss, e, hz, h⟩ := asA_of h
    have q := txts_of e h2
    subst q
    exact ⟨ss, hz, .inr ⟨a, rfl, .inl (fh.seq (SqL.of h1))⟩, fin ss hz h⟩
  · obtain ⟨v, _, rfl, ⟨a, us, rfl, h1, h2⟩, rfl⟩ := r
    obtain ⟨ss, e, hz, h⟩ := asA_of h
    have q := txts_of e h2
    subst q
    exact ⟨ss, hz, .inr ⟨a, rfl, .inr (Same.sqT fh h1)⟩, fin ss hz h⟩
  · rename_i x
    obtain ⟨v, _, rfl, rfl, rfl⟩ := r
    have e : (signs x).length = x.length := by simp [signs]; rfl
    have hz : (signs x).length + 1 < scanBound := by rw [e]; exact h.1
    exact ⟨signs x, hz, .inl ⟨_, rfl, rfl⟩, fin _ hz h.2⟩
  · exact h.elim⟩
/-- list(x), tuple(x) -/
def oList : OL := fun ds P => match ds with
  | [.lst xs] => P (.ol xs)
  | [.tup xs] => P (.ol xs)
  | _ => False
theorem snd_list : SndL K (fun xs H Q => ∃ p ys, xs = [.ref p] ∧ (SqL K H p ys ∨ SqT K H p ys) ∧ ∀ l, H l = none → Q (.ref l) (upd H l (.lst ys))) oList := ⟨fun {F H ds vs P Q} fh r h k => by
  unfold oList at h
  split at h
  · obtain ⟨v, _, rfl, ⟨a, us, rfl, h1, h2⟩, rfl⟩ := r
    exact ⟨a, us, rfl, .inl (fh.seq (SqL.of h1)), fun l n => k.newL fh h h2 n⟩
  · obtain ⟨v, _, rfl, ⟨a, us, rfl, h1, h2⟩, rfl⟩ := r
    exact ⟨a, us, rfl, .inr (Same.sqT fh h1), fun l n => k.newL fh h h2 n⟩
  · exact h.elim⟩
def oTuple : OL := fun ds P => match ds with
  | [.lst xs] => P (.d (.tup xs))
  | [.tup xs] => P (.d (.tup xs))
  | _ => False
theorem snd_tuple : SndL K (fun xs H Q => ∃ p ys, xs = [.ref p] ∧ ((SqL K H p ys ∧ ∀ l, H l = none → Q (.ref l) (upd H l (.tup ys))) ∨ (SqT K H p ys ∧ Q (.ref p) H))) oTuple := ⟨fun {F H ds vs P Q} fh r h k => by
  unfold oTuple at h
  split at h
  · obtain ⟨v, _, rfl, ⟨a, us, rfl, h1, h2⟩, rfl⟩ := r
    exact ⟨a, us, rfl, .inl ⟨fh.seq (SqL.of h1), fun l n => k.newT fh h h2 n⟩⟩
  · obtain ⟨v, _, rfl, ⟨a, us, rfl, h1, h2⟩, rfl⟩ := r
    exact ⟨a, us, rfl, .inr ⟨Same.sqT fh h1, k.flat fh h ⟨a, us, rfl, h1, h2⟩⟩⟩
  · exact h.elim⟩
end
/-! ### in short -/
section
variable {K : PySem.W.Frag} {w : World} {X : Cx} {Z : Zx} {pos p p2 : Pos} {a b e : Expr} {ta tb te : TE} {wa wb we : W}
abbrev qList (K : PySem.W.Frag) : List V → Hp → VK → Prop := fun xs H Q => ∃ p ys, xs = [.ref p] ∧ (SqL K H p ys ∨ SqT K H p ys) ∧ ∀ l, H l = none → Q (.ref l) (upd H l (.lst ys))
abbrev qTuple (K : PySem.W.Frag) : List V → Hp → VK → Prop := fun xs H Q => ∃ p ys, xs = [.ref p] ∧ ((SqL K H p ys ∧ ∀ l, H l = none → Q (.ref l) (upd H l (.tup ys))) ∨ (SqT K H p ys ∧ Q (.ref p) H))
theorem de_list (m : X.mg "list" = none) (ha : DE K X Z a ta wa) (hg : Gl X "list" := by rfl) (hs : starEach [a] X.env = [(false, eval a X.env)] := by rfl) (hK : X.K = K := by rfl) : DE K X Z (.Call (.Name "list" p) [a] [] pos) (tCB (qList K) (tCons ta tNil)) (wCB oList (wCons wa wNil)) := by
  subst hK
  exact de_callTy call_list_of snd_list hg m (by decide +kernel) (da_cons ha da_nil hs) (hn := by decide) (hdb := by decide) (he := hs) (hpl := rfl)
theorem de_tuple (m : X.mg "tuple" = none) (ha : DE K X Z a ta wa) (hg : Gl X "tuple" := by rfl) (hs : starEach [a] X.env = [(false, eval a X.env)] := by rfl) (hK : X.K = K := by rfl) : DE K X Z (.Call (.Name "tuple" p) [a] [] pos) (tCB (qTuple K) (tCons ta tNil)) (wCB oTuple (wCons wa wNil)) := by
  subst hK
  exact de_callTy call_tuple_of snd_tuple hg m (by decide +kernel) (da_cons ha da_nil hs) (hn := by decide) (hdb := by decide) (he := hs) (hpl := rfl)
theorem de_sort (hc : X.calm = true) (m : X.mg "sorted" = none) (ha : DE K X Z a ta wa) (hg : Gl X "sorted" := by rfl) (hs : starEach [a] X.env = [(false, eval a X.env)] := by rfl) (hK : X.K = K := by rfl) (hw : X.w = w := by rfl) : DE K X Z (.Call (.Name "sorted" p) [a] [] pos) (tCB (rSortX K w) (tCons ta tNil)) (wCB oSort (wCons wa wNil)) := by
  subst hK; subst hw
  exact de_callB (cr_sortX hc) snd_sort hg m (by decide +kernel) (da_cons ha da_nil hs) (hn := by decide) (hdb := by decide) (he := hs) (hpl := rfl)
/-- sorted(set(a)) -/
theorem de_sortSet (hc : X.calm = true) (m : X.mg "sorted" = none) (m2 : X.mg "set" = none) (ha : DE K X Z a ta wa) (hg : Gl X "sorted" := by rfl) (hg2 : Gl X "set" := by rfl) (hs : starEach [a] X.env = [(false, eval a X.env)] := by rfl)
    (hs2 : starEach [Expr.Call (.Name "set" p2) [a] [] pos] X.env = [(false, eval (Expr.Call (.Name "set" p2) [a] [] pos) X.env)] := by rfl) (hK : X.K = K := by rfl) (hw : X.w = w := by rfl) {pos2 : Pos} :
    DE K X Z (.Call (.Name "sorted" p) [.Call (.Name "set" p2) [a] [] pos] [] pos2) (tCB (rSortX K w) (tCons (tCB (rSetX K w) (tCons ta tNil)) tNil)) (wCB oSortSet (wCons wa wNil)) := by
  subst hK; subst hw
  refine ⟨pe_callB (cr_sortX hc) hg m (by decide +kernel) (pa_cons (pe_callTy (cr_setX hc) hg2 m2 (by decide +kernel) (pa_cons ha.pe pa_nil hs) (hn := by decide) (hdb := by decide) (he := hs) (hpl := rfl)) pa_nil hs2) (hn := by decide) (hdb := by decide) (he := hs2) (hpl := rfl), ?_⟩
  exact cb_run (t := tCons ta tNil) (r := rSortSet X.K X.w) (da_cons ha (da_nil (X := X) (Z := Z)) hs).run snd_sortSet
end
end DL
/-! DL7: own lists and dicts of the frame; dicts read; join; concatenation; seen as data. -/
namespace DL
open PySem L2

/-! ### seen as data: own objects read by an expression whose answer is flat -/
def seeR : R → R
  | [] => []
  | some s :: r => some (.d s.fz) :: seeR r
  | none :: r => none :: seeR r
theorem seeR_len : ∀ ρ : R, (seeR ρ).length = ρ.length
  | [] => rfl
  | some s :: r => congrArg Nat.succ (seeR_len r)
  | none :: r => congrArg Nat.succ (seeR_len r)
theorem seeR_get : ∀ {ρ : R} {i : Nat} {s : S}, (seeR ρ)[i]? = some (some s) → ∃ t, s = .d t.fz ∧ ρ[i]? = some (some t)
  | [], i, s, h => by simp [seeR] at h
  | some t :: r, 0, s, h => by simp [seeR] at h; exact ⟨t, h.symm, rfl⟩
  | none :: r, 0, s, h => by simp [seeR] at h
  | some t :: r, i + 1, s, h => by simp [seeR] at h; obtain ⟨u, e, q⟩ := seeR_get h; exact ⟨u, e, by simpa using q⟩
  | none :: r, i + 1, s, h => by simp [seeR] at h; obtain ⟨u, e, q⟩ := seeR_get h; exact ⟨u, e, by simpa using q⟩
section
variable {K : PySem.W.Frag} {H0 F0 F H : Hp} {ρ : R} {σ : St}
theorem SRep.see {s : S} {v : V} (fh : Same F H) (h : SRep K H0 F H s v) : Rep K H s.fz v := by
  cases s with
  | d x => exact Rep.mono fh _ _ h
  | ol xs => obtain ⟨a, vs, e, h1, h2, _, _⟩ := h; exact ⟨a, vs, e, h1, Reps.mono fh _ _ h2⟩
  | od kvs =>
    obtain ⟨a, kvs', e, h1, hk, h2, _, _⟩ := h
    refine ⟨a, kvs'.map (·.2), e, ?_, ?_, Reps.mono fh _ _ h2⟩
    · refine .inl ?_; rw [h1, ← hk, zip_unzip]
    · rw [h2.len, List.length_map, List.length_map]
  | oi N kvs =>
    obtain ⟨a, C, dx, kvs', e, g, h1, hk, h2, _, _⟩ := h
    refine ⟨a, C, dx, kvs'.map (·.2), e, g, ?_, ?_, Reps.mono fh _ _ h2⟩
    · rw [h1, ← hk, zip_unzip]
    · rw [h2.len, List.length_map, List.length_map]
theorem Rel.see (r : Rel K H0 F0 F H ρ σ) : Rel K H H H H (seeR ρ) σ := by
  refine ⟨Same.refl _, Same.refl _, Same.refl _, fun _ q => .inl q, by rw [seeR_len]; exact r.len, fun i s q => ?_, fun i j s t q1 q2 w1 w2 z => ?_⟩
  · obtain ⟨t, rfl, q'⟩ := seeR_get q
    obtain ⟨v, e, sr⟩ := r.at_ i t q'
    exact ⟨v, e, sr.see r.fh⟩
  · obtain ⟨t, rfl, q'⟩ := seeR_get q1
    cases w1
end
section
variable {K : PySem.W.Frag} {X : Cx} {Z : Zx} {pos p p2 apos cpos : Pos} {a b e o : Expr} {ta tb te to : TE} {wa wb we wo : W} {i : Nat}
theorem Zx.Ok.all {H0 F0 F H : Hp} {ρ : R} {σ : St} (zo : Z.Ok K H0 F0) (r : Rel K H0 F0 F H ρ σ) : Z0.Ok K H H := Z0.ok
def wLend (w : W) : W := fun ρ P => w (seeR ρ) fun s _ => s.fz.flat = true ∧ P (.d s.fz) ρ
theorem run_lend {t : TE} {w : W} (h : RunE K Z0 t w) : RunE K Z t (wLend w) := fun {H0 F0 F H ρ σ Q P} zo r q k =>
  h Z0.ok r.see q fun s ρ' F' H' v p f r' sr fr => by
    obtain ⟨F2, f2, r2, rp2⟩ := r'.freeze sr fr
    have r3 : Rel K H0 F0 F H' ρ σ := r.grow r'.h
    exact k _ _ F H' v p.2 (Same.refl _) r3 (Rep.flat rp2 p.1) fun w => nomatch w
theorem de_lend {t : TE} {w : W} (h : DE K X Z0 e t w) : DE K X Z e t (wLend w) := ⟨h.pe, run_lend h.run⟩
def wLendT (w : WT) : WT := fun ρ P => w (seeR ρ) fun b _ => P b ρ
theorem run_lendT {t : TT} {w : WT} (h : RunT K Z0 t w) : RunT K Z t (wLendT w) := fun {H0 F0 F H ρ σ Q P} zo r q k =>
  h Z0.ok r.see q fun b ρ' F' H' p f r' => k _ _ F H' p (Same.refl _) (r.grow r'.h)
theorem dt_lend {t : TT} {w : WT} (h : DT K X Z0 e t w) : DT K X Z e t (wLendT w) := ⟨h.pe, run_lendT h.run⟩

/-! ### own lists -/
def asOL (o : Option S) (P : List D → Prop) : Prop := match o with
  | some (.ol xs) => P xs
  | _ => False
theorem asOL_of {o : Option S} {P : List D → Prop} (h : asOL o P) : ∃ xs, o = some (.ol xs) ∧ P xs := by
  unfold asOL at h; split at h
  · exact ⟨_, rfl, h⟩
  · exact h.elim
def asOD (o : Option S) (P : List (Key × D) → Prop) : Prop := match o with
  | some (.od xs) => P xs
  | _ => False
theorem asOD_of {o : Option S} {P : List (Key × D) → Prop} (h : asOD o P) : ∃ xs, o = some (.od xs) ∧ P xs := by
  unfold asOD at h; split at h
  · exact ⟨_, rfl, h⟩
  · exact h.elim
/-- a method of an own list with arguments: o tells what comes and what the list becomes -/
def wM (i : Nat) (o : List D → List D → (S → List D → Prop) → Prop) (wr : WA) : W := fun ρ P => asOL (nth ρ i) fun _ => wr ρ fun ds ρ1 => asOL (nth ρ1 i) fun xs => o xs ds fun s ys => P s (put ρ1 i (some (.ol ys)))
structure SndM (K : PySem.W.Frag) (r : V → List V → Hp → VK → Prop) (o : List D → List D → (S → List D → Prop) → Prop) : Prop where
  run : ∀ {F H : Hp} {l : Addr} {vs us : List V} {xs ds : List D} {P : S → List D → Prop} {Q : VK}, Same F H → H l = some (.lst vs) → F l = none → Reps K F xs vs → Reps K F ds us → o xs ds P →
    (∀ d ys v vs', P (.d d) ys → Rep K F d v → Reps K F ys vs' → Q v (upd H l (.lst vs'))) → r (.ref l) us H Q
theorem run_M {T : String} {ta : TA} {wr : WA} {r : V → List V → Hp → VK → Prop} {o : List D → List D → (S → List D → Prop) → Prop} (hT : T = "list") (ha : RunA K Z ta wr) (ho : SndM K r o) : RunE K Z (tBM K T r (tVar i) ta) (wM i o wr) := fun {H0 F0 F H ρ σ Q P} zo rl h k => by
  obtain ⟨xs0, e0, h⟩ := asOL_of h
  obtain ⟨v, ev, a, vs, rfl, hl, _⟩ := rl.at_ i _ (nth_some e0)
  refine ⟨.ref a, ev, .inl ⟨hT, vs, SqL.of hl⟩, ha zo rl h fun ds ρ1 F1 H1 us h1 f1 r1 rps => ?_⟩
  obtain ⟨xs, e1, h1⟩ := asOL_of h1
  obtain ⟨v2, ev2, a2, vs2, rfl, hl2, rx, n0, n1⟩ := r1.at_ i _ (nth_some e1)
  rw [ev] at ev2; cases ev2
  refine ho.run r1.fh hl2 n1 rx rps h1 fun d ys v vs' p rd ry => ?_
  rw [put_eq] at p
  exact k _ _ F1 _ v p f1 (r1.write (nth_some e1) rfl ev ⟨a, vs', rfl, upd_same, ry, n0, n1⟩ rfl) rd fun w => nomatch w
theorem run_M0 {T : String} {r : V → List V → Hp → VK → Prop} {o : List D → List D → (S → List D → Prop) → Prop} (hT : T = "list") (ho : SndM K r o) : RunE K Z (tBM0 K T r (tVar i)) (wM i o wNil) := fun {H0 F0 F H ρ σ Q P} zo rl h k => by
  obtain ⟨xs0, e0, h⟩ := asOL_of h
  obtain ⟨v, ev, a, vs, rfl, hl, rx, n0, n1⟩ := rl.at_ i _ (nth_some e0)
  refine ⟨.ref a, ev, .inl ⟨hT, vs, SqL.of hl⟩, ?_⟩
  obtain ⟨xs, e1, h1⟩ := asOL_of h
  rw [e0] at e1; cases e1
  refine ho.run rl.fh hl n1 rx (show Reps K F [] [] from rfl) h1 fun d ys v vs' p rd ry => ?_
  rw [put_eq] at p
  exact k _ _ F _ v p (Same.refl _) (rl.write (nth_some e0) rfl ev ⟨a, vs', rfl, upd_same, ry, n0, n1⟩ rfl) rd fun w => nomatch w
def oAppend : List D → List D → (S → List D → Prop) → Prop := fun xs ds P => match ds with
  | [d] => xs.length < sizeLine ∧ P (.d .non) (xs ++ [d])
  | _ => False
theorem snd_append : SndM K rAppend oAppend := ⟨fun {F H l vs us xs ds P Q} fh hl n rx rd h k => by
  unfold oAppend at h
  split at h
  · obtain ⟨v, _, rfl, rv, rfl⟩ := rd
    exact ⟨l, vs, v, rfl, rfl, hl, by rw [rx.len]; exact h.1, k _ _ _ _ h.2 rfl (rx.app (.one rv))⟩
  · exact h.elim⟩
def oPop : List D → List D → (S → List D → Prop) → Prop := fun xs ds P => match ds with
  | [] => asA xs[xs.length - 1]? fun d => P (.d d) xs.dropLast
  | _ => False
theorem Reps.dropLast {F : Hp} {xs : List D} {vs : List V} (h : Reps K F xs vs) : Reps K F xs.dropLast vs.dropLast := by
  rw [List.dropLast_eq_take, List.dropLast_eq_take, h.len]; exact h.take _
theorem snd_pop : SndM K rPop oPop := ⟨fun {F H l vs us xs ds P Q} fh hl n rx rd h k => by
  unfold oPop at h
  split at h
  · cases rd
    obtain ⟨d, e, h⟩ := asA_of h
    obtain ⟨v, e', rv⟩ := rx.get e
    exact ⟨l, vs, v, rfl, rfl, hl, by rw [rx.len]; exact e', k _ _ _ _ h rv rx.dropLast⟩
  · exact h.elim⟩
section
variable {x : Str} {ta : TA} {wr : WA}
theorem de_append (i : Nat) (ha : DE K X Z e te we) (hN : X.N[i]? = some x := by rfl) (hv : Vis X.env.scope x := by first | exact Or.inl rfl | exact Or.inr (Or.inl rfl) | exact Or.inr (Or.inr rfl)) (hd : (x == ("__debug__" : Str)) = false := by decide)
    (hcd : (x == ("__classdict__" : Str)) = false := by decide) (hs : starEach [e] X.env = [(false, eval e X.env)] := by rfl)
    (hbase : attributeBase (.Name x p) "append" X.env (eval (.Name x p) X.env) = eval (.Name x p) X.env := by rfl)
    (hfew : ((backTo cpos (starEach [e] X.env)).all (fun x => !x.1) && (backToKw cpos (keywordEach [] X.env)).all (fun x => x.1.isSome)
      && decide (([e] : List Expr).length + ([] : List Keyword).length + (if ([] : List Keyword).isEmpty then 0 else 1) < 30)) = true := by rfl)
    (hline : (apos.endLine == cpos.line) = true := by rfl) (hK : X.K = K := by rfl) :
    DE K X Z (.Call (.Attribute (.Name x p) "append" apos) [e] [] cpos) (tBM K "list" rAppend (tVar i) (tCons te tNil)) (wM i oAppend (wCons we wNil)) := by
  subst hK
  exact ⟨pe_bm PySem.F.plainAttrs_list PySem.F.slot_list_append PySem.F.type_list_append mt_append (pe_var hN hv hd hcd) (pa_cons ha.pe pa_nil hs) hbase hfew hline hs rfl, run_M rfl (da_cons ha (da_nil (X := X) (Z := Z)) hs).run snd_append⟩
theorem de_pop (i : Nat) (hN : X.N[i]? = some x := by rfl) (hv : Vis X.env.scope x := by first | exact Or.inl rfl | exact Or.inr (Or.inl rfl) | exact Or.inr (Or.inr rfl)) (hd : (x == ("__debug__" : Str)) = false := by decide)
    (hcd : (x == ("__classdict__" : Str)) = false := by decide)
    (hbase : attributeBase (.Name x p) "pop" X.env (eval (.Name x p) X.env) = eval (.Name x p) X.env := by rfl) (hline : (apos.endLine == cpos.line) = true := by rfl) (hK : X.K = K := by rfl) :
    DE K X Z (.Call (.Attribute (.Name x p) "pop" apos) [] [] cpos) (tBM0 K "list" rPop (tVar i)) (wM i oPop wNil) := by
  subst hK
  exact ⟨pe_bm0 PySem.F.plainAttrs_list PySem.F.slot_list_pop PySem.F.type_list_pop mt_pop (pe_var hN hv hd hcd) hbase hline, run_M0 rfl snd_pop⟩
end
/-! ### dicts -/
def vget {β : Type} (kvs : List (Key × β)) (k : Key) : Option β := (kvs.find? fun kv => decide (kv.1 = k)).map (·.2)
def vput {β : Type} (kvs : List (Key × β)) (k : Key) (v : β) : List (Key × β) :=
  if (kvs.any fun kv => decide (kv.1 = k)) = true then kvs.map (fun kv => if kv.1 = k then (kv.1, v) else kv) else kvs ++ [(k, v)]
def vdrop {β : Type} (kvs : List (Key × β)) (k : Key) : List (Key × β) := kvs.filter fun kv => decide (kv.1 ≠ k)
def asKey (d : D) (P : Key → Prop) : Prop := match d with
  | .int i => P (.inl i)
  | .str x => P (.inr x)
  | _ => False
theorem asKey_of {F : Hp} {d : D} {v : V} {P : Key → Prop} (h : asKey d P) (r : Rep K F d v) : ∃ k, v = kV k ∧ P k := by
  cases d <;> first | exact h.elim | exact ⟨.inl _, r, h⟩ | exact ⟨.inr _, r, h⟩
/-- pairs of a dict over data, in a heap -/
def KRep (K : PySem.W.Frag) (F : Hp) (kvs : List (Key × D)) (kvs' : List (Key × V)) : Prop := kvs'.map (·.1) = kvs.map (·.1) ∧ Reps K F (kvs.map (·.2)) (kvs'.map (·.2))
theorem KRep.cons {F : Hp} {p : Key × D} {kvs : List (Key × D)} {l : List (Key × V)} (h : KRep K F (p :: kvs) l) : ∃ q l', l = q :: l' ∧ q.1 = p.1 ∧ Rep K F p.2 q.2 ∧ KRep K F kvs l' := by
  obtain ⟨h1, h2⟩ := h
  cases l with
  | nil => simp at h1
  | cons q l' =>
    rw [List.map_cons, List.map_cons] at h1
    obtain ⟨v, r, e, rv, rr⟩ := h2
    rw [List.map_cons] at e
    obtain ⟨e1, e2⟩ := List.cons.inj e
    obtain ⟨e3, e4⟩ := List.cons.inj h1
    exact ⟨q, l', rfl, e3, by rw [e1]; exact rv, e4, by rw [e2]; exact rr⟩
theorem KRep.mk {F : Hp} {p : Key × D} {q : Key × V} {kvs : List (Key × D)} {l : List (Key × V)} (e : q.1 = p.1) (r : Rep K F p.2 q.2) (h : KRep K F kvs l) : KRep K F (p :: kvs) (q :: l) :=
  ⟨by rw [List.map_cons, List.map_cons, e, h.1], ⟨_, _, rfl, r, h.2⟩⟩
theorem KRep.nil {F : Hp} {l : List (Key × V)} (h : KRep K F [] l) : l = [] := by
  have := h.1; simpa using this
theorem KRep.get {F : Hp} {k : Key} : ∀ {kvs : List (Key × D)} {l : List (Key × V)}, KRep K F kvs l → (∃ d v, vget kvs k = some d ∧ valV l k = some v ∧ Rep K F d v) ∨ (vget kvs k = none ∧ valV l k = none)
  | [], l, h => by rw [h.nil]; exact .inr ⟨rfl, rfl⟩
  | p :: kvs, l, h => by
    obtain ⟨q, l', rfl, e, r, h'⟩ := h.cons
    by_cases hk : p.1 = k
    · exact .inl ⟨p.2, q.2, by simp [vget, hk], by simp [valV, e, hk], r⟩
    · rcases h'.get (k := k) with ⟨d, v, h1, h2, h3⟩ | ⟨h1, h2⟩
      · exact .inl ⟨d, v, by simpa [vget, List.find?_cons, hk] using h1, by simpa [valV, List.find?_cons, e, hk] using h2, h3⟩
      · exact .inr ⟨by simpa [vget, List.find?_cons, hk] using h1, by simpa [valV, List.find?_cons, e, hk] using h2⟩
theorem KRep.any {F : Hp} {k : Key} : ∀ {kvs : List (Key × D)} {l : List (Key × V)}, KRep K F kvs l → (l.any fun kv => decide (kv.1 = k)) = (kvs.any fun kv => decide (kv.1 = k))
  | [], l, h => by rw [h.nil]; rfl
  | p :: kvs, l, h => by
    obtain ⟨q, l', rfl, e, r, h'⟩ := h.cons
    rw [List.any_cons, List.any_cons, e, h'.any]
theorem KRep.app {F : Hp} {k : Key} {d : D} {v : V} (r : Rep K F d v) : ∀ {kvs : List (Key × D)} {l : List (Key × V)}, KRep K F kvs l → KRep K F (kvs ++ [(k, d)]) (l ++ [(k, v)])
  | [], l, h => by rw [h.nil]; exact KRep.mk rfl r ⟨rfl, rfl⟩
  | p :: kvs, l, h => by
    obtain ⟨q, l', rfl, e, r', h'⟩ := h.cons
    exact KRep.mk e r' (KRep.app r h')
theorem KRep.map {F : Hp} {k : Key} {d : D} {v : V} (r : Rep K F d v) : ∀ {kvs : List (Key × D)} {l : List (Key × V)}, KRep K F kvs l → KRep K F (kvs.map fun kv => if kv.1 = k then (kv.1, d) else kv) (l.map fun kv => if kv.1 = k then (kv.1, v) else kv)
  | [], l, h => by rw [h.nil]; exact ⟨rfl, rfl⟩
  | p :: kvs, l, h => by
    obtain ⟨q, l', rfl, e, r', h'⟩ := h.cons
    rw [List.map_cons, List.map_cons]
    by_cases hk : p.1 = k
    · rw [if_pos hk, if_pos (e.trans hk)]; exact KRep.mk e r (KRep.map r h')
    · rw [if_neg hk, if_neg (fun z => hk (e.symm.trans z))]; exact KRep.mk e r' (KRep.map r h')
theorem KRep.put {F : Hp} {k : Key} {d : D} {v : V} {kvs : List (Key × D)} {l : List (Key × V)} (r : Rep K F d v) (h : KRep K F kvs l) : KRep K F (vput kvs k d) (putK l k v) := by
  unfold vput putK
  rw [h.any (k := k)]
  split
  · exact KRep.map r h
  · exact KRep.app r h
theorem KRep.drop {F : Hp} {k : Key} : ∀ {kvs : List (Key × D)} {l : List (Key × V)}, KRep K F kvs l → KRep K F (vdrop kvs k) (dropK l k)
  | [], l, h => by rw [h.nil]; exact ⟨rfl, rfl⟩
  | p :: kvs, l, h => by
    obtain ⟨q, l', rfl, e, r', h'⟩ := h.cons
    unfold vdrop dropK
    by_cases hk : p.1 = k
    · rw [List.filter_cons_of_neg (by simp [hk]), List.filter_cons_of_neg (by simp [e, hk])]; exact KRep.drop h'
    · rw [List.filter_cons_of_pos (by simp [hk]), List.filter_cons_of_pos (by simp [e, hk])]; exact KRep.mk e r' (KRep.drop h')
theorem KRep.len {F : Hp} {kvs : List (Key × D)} {l : List (Key × V)} (h : KRep K F kvs l) : l.length = kvs.length := by
  have := congrArg List.length h.1; simpa using this
/-- {} -/
def wDict0 : W := fun ρ P => P (.od []) ρ
theorem de_dict0 : DE K X Z (.Dict [] [] pos) tDNewK wDict0 := ⟨pe_dnewK, fun {H0 F0 F H ρ σ Q P} zo rl h k d n => (rl.kont (Same.refl _) k).newD rl.fh h rfl rfl n⟩
/-- a dict that is data: its pairs -/
def asDic (d : D) (P : List (Key × D) → Prop) : Prop := match d with
  | .dic ks xs => P (ks.zip xs)
  | _ => False
theorem asDic_of {F : Hp} {d : D} {v : V} {P : List (Key × D) → Prop} (h : asDic d P) (r : Rep K F d v) : ∃ a kvs l, v = .ref a ∧ Rd F a (.dK l) ∧ KRep K F kvs l ∧ P kvs := by
  cases d <;> first | exact h.elim | skip
  rename_i ks xs
  obtain ⟨a, vs, e, h1, hl, h2⟩ := r
  have hx : vs.length = xs.length := h2.len
  refine ⟨a, ks.zip xs, _, e, h1, ⟨?_, ?_⟩, h⟩
  · rw [List.map_fst_zip (by omega), List.map_fst_zip (by omega)]
  · rw [List.map_snd_zip (by omega), List.map_snd_zip (by omega)]; exact h2
/-- d[k], d data -/
def wDGet (wd wk : W) : W := fun ρ P => wd ρ fun s ρ1 => wk ρ1 fun k ρ2 => asDic s.fz fun kvs => asKey k.fz fun k => asA (vget kvs k) fun d => P (.d d) ρ2
theorem de_dget (hu : X.A.units + 1 < cLine) (ho : DE K X Z o to wo) (hk : DE K X Z e te we) (hs : NoSl e := by exact fun _ _ => rfl) : DE K X Z (.Subscript o e pos) (tDGet to te) (wDGet wo we) := by
  refine ⟨pe_dget hu ho.pe hk.pe hs, fun {H0 F0 F H ρ σ Q P} zo rl h k => ho.run zo rl h fun s1 ρ1 F1 H1 v1 h1 f1 r1 sr1 fr1 => ?_⟩
  obtain ⟨F2, f2, r2, rp2⟩ := r1.freeze sr1 fr1
  refine hk.run zo r2 h1 fun s3 ρ3 F3 H3 v3 h3 f3 r3 sr3 fr3 => ?_
  obtain ⟨F4, f4, r4, rp4⟩ := r3.freeze sr3 fr3
  obtain ⟨a, kvs, l, rfl, hl, kr, h3⟩ := asDic_of h3 (Rep.mono (f3.trans f4) _ _ rp2)
  obtain ⟨key, rfl, h3⟩ := asKey_of h3 rp4
  obtain ⟨d, e, h3⟩ := asA_of h3
  rcases kr.get (k := key) with ⟨d', v, g1, g2, g3⟩ | ⟨g1, g2⟩
  · rw [e] at g1; cases g1
    exact ⟨a, v, rfl, .inl ⟨l, key, (Same.rd r4.fh hl), rfl, g2.symm⟩, k _ _ _ _ _ h3 (f1.trans (f2.trans (f3.trans f4))) r4 g3 fun w => nomatch w⟩
  · rw [e] at g1; cases g1
/-- k in d, k not in d, d data (own: by lend) -/
def wDIn (neg : Bool) (wk wd : W) : W := fun ρ P => wk ρ fun k ρ1 => wd ρ1 fun s ρ2 => asDic s.fz fun kvs => asKey k.fz fun k => P (.d (.bl (if neg then !(vget kvs k).isSome else (vget kvs k).isSome))) ρ2
theorem run_din (ho : RunE K Z to wo) (hk : RunE K Z te we) : RunE K Z (tDIn te to) (wDIn false we wo) := fun {H0 F0 F H ρ σ Q P} zo rl h k => hk zo rl h fun s1 ρ1 F1 H1 v1 h1 f1 r1 sr1 fr1 => by
  obtain ⟨F2, f2, r2, rp2⟩ := r1.freeze sr1 fr1
  refine ho zo r2 h1 fun s3 ρ3 F3 H3 v3 h3 f3 r3 sr3 fr3 => ?_
  obtain ⟨F4, f4, r4, rp4⟩ := r3.freeze sr3 fr3
  obtain ⟨a, kvs, l, rfl, hl, kr, h3⟩ := asDic_of h3 rp4
  obtain ⟨key, rfl, h3⟩ := asKey_of h3 (Rep.mono (f3.trans f4) _ _ rp2)
  refine ⟨a, valV l key, rfl, .inl ⟨l, key, (Same.rd r4.fh hl), rfl, rfl⟩, k (.d (.bl (vget kvs key).isSome)) _ _ _ _ h3 (f1.trans (f2.trans (f3.trans f4))) r4 ?_ fun w => nomatch w⟩
  rcases kr.get (k := key) with ⟨d', v, g1, g2, g3⟩ | ⟨g1, g2⟩ <;> (rw [g1, g2]; exact rfl)
theorem run_dnotin (ho : RunE K Z to wo) (hk : RunE K Z te we) : RunE K Z (tDNotIn te to) (wDIn true we wo) := fun {H0 F0 F H ρ σ Q P} zo rl h k => hk zo rl h fun s1 ρ1 F1 H1 v1 h1 f1 r1 sr1 fr1 => by
  obtain ⟨F2, f2, r2, rp2⟩ := r1.freeze sr1 fr1
  refine ho zo r2 h1 fun s3 ρ3 F3 H3 v3 h3 f3 r3 sr3 fr3 => ?_
  obtain ⟨F4, f4, r4, rp4⟩ := r3.freeze sr3 fr3
  obtain ⟨a, kvs, l, rfl, hl, kr, h3⟩ := asDic_of h3 rp4
  obtain ⟨key, rfl, h3⟩ := asKey_of h3 (Rep.mono (f3.trans f4) _ _ rp2)
  refine ⟨a, valV l key, rfl, .inl ⟨l, key, (Same.rd r4.fh hl), rfl, rfl⟩, k (.d (.bl (!(vget kvs key).isSome))) _ _ _ _ h3 (f1.trans (f2.trans (f3.trans f4))) r4 ?_ fun w => nomatch w⟩
  rcases kr.get (k := key) with ⟨d', v, g1, g2, g3⟩ | ⟨g1, g2⟩ <;> (rw [g1, g2]; exact rfl)
theorem dt_din (hu : X.A.units + 1 < cLine) (hk : DE K X Z e te we) (ho : DE K X Z o to wo) (hm : behindInMarks .In o = false := by rfl) : DT K X Z (.Compare e [.In] [o] pos) (tB (tDIn te to)) (wB (wDIn false we wo)) := ⟨pt_cmp (pc_din hu hk.pe ho.pe) hm, run_B (run_din ho.run hk.run)⟩
theorem dt_dnotin (hu : X.A.units + 1 < cLine) (hk : DE K X Z e te we) (ho : DE K X Z o to wo) (hm : behindInMarks .NotIn o = false := by rfl) : DT K X Z (.Compare e [.NotIn] [o] pos) (tB (tDNotIn te to)) (wB (wDIn true we wo)) := ⟨pt_cmp (pc_dnotin hu hk.pe ho.pe) hm, run_B (run_dnotin ho.run hk.run)⟩
theorem de_din (hu : X.A.units + 1 < cLine) (hk : DE K X Z e te we) (ho : DE K X Z o to wo) (hm : behindInMarks .In o = false := by rfl) : DE K X Z (.Compare e [.In] [o] pos) (tDIn te to) (wDIn false we wo) := ⟨pe_cmp (pc_din hu hk.pe ho.pe) hm, run_din ho.run hk.run⟩
theorem de_dnotin (hu : X.A.units + 1 < cLine) (hk : DE K X Z e te we) (ho : DE K X Z o to wo) (hm : behindInMarks .NotIn o = false := by rfl) : DE K X Z (.Compare e [.NotIn] [o] pos) (tDNotIn te to) (wDIn true we wo) := ⟨pe_cmp (pc_dnotin hu hk.pe ho.pe) hm, run_dnotin ho.run hk.run⟩
/-- d.get(k, x), d data -/
def wDGet2 (wd wk wx : W) : W := fun ρ P => wd ρ fun s ρ1 => asDic s.fz fun kvs => wk ρ1 fun k ρ2 => wx ρ2 fun x ρ3 => asKey k.fz fun k => P (.d ((vget kvs k).getD x.fz)) ρ3
theorem de_dget2 {f : Expr} {tf : TE} {wf : W} (hu : X.A.units + 1 < cLine) (ho : DE K X Z o to wo) (hk : DE K X Z e te we) (hx : DE K X Z f tf wf) (m : M2 X o "get" apos e f cpos) : DE K X Z (.Call (.Attribute o "get" apos) [e, f] [] cpos) (tDGet2 to te tf) (wDGet2 wo we wf) := by
  refine ⟨pe_dget2 hu ho.pe hk.pe hx.pe m, fun {H0 F0 F H ρ σ Q P} zo rl h k => ho.run zo rl h fun s1 ρ1 F1 H1 v1 h1 f1 r1 sr1 fr1 => ?_⟩
  obtain ⟨F2, f2, r2, rp2⟩ := r1.freeze sr1 fr1
  obtain ⟨a, kvs, l, rfl, hl, kr, h1⟩ := asDic_of h1 rp2
  refine ⟨a, rfl, .inl ⟨l, (Same.rd r2.fh hl)⟩, hk.run zo r2 h1 fun s3 ρ3 F3 H3 v3 h3 f3 r3 sr3 fr3 => ?_⟩
  obtain ⟨F4, f4, r4, rp4⟩ := r3.freeze sr3 fr3
  refine hx.run zo r4 h3 fun s5 ρ5 F5 H5 v5 h5 f5 r5 sr5 fr5 => ?_
  obtain ⟨F6, f6, r6, rp6⟩ := r5.freeze sr5 fr5
  obtain ⟨key, rfl, h5⟩ := asKey_of h5 (Rep.mono (f5.trans f6) _ _ rp4)
  have hl' := Same.rd (f3.trans (f4.trans (f5.trans f6))) hl
  refine ⟨valV l key, .inl ⟨l, key, (Same.rd r6.fh hl'), rfl, rfl⟩, k _ _ F6 H5 _ h5 (f1.trans (f2.trans (f3.trans (f4.trans (f5.trans f6))))) r6 ?_ fun w => nomatch w⟩
  rcases kr.get (k := key) with ⟨d', v, g1, g2, g3⟩ | ⟨g1, g2⟩
  · rw [g1, g2]; exact Rep.mono (f3.trans (f4.trans (f5.trans f6))) _ _ g3
  · rw [g1, g2]; exact rp6
end
end DL
/-! DL8: join; list + list; deep equality; own lists at places; own dicts; keys sorted; enumerate. -/
namespace DL
open PySem L2
section
variable {K : PySem.W.Frag} {X : Cx} {Z : Zx} {pos p p2 pos' apos cpos : Pos} {a b e o : Expr} {ta tb te to : TE} {wa wb we wo : W} {i : Nat}
/-! ### join -/
def wJoin (wo we : W) : W := fun ρ P => wo ρ fun s ρ1 => asS s.fz fun a => we ρ1 fun x ρ2 => asSq x.fz fun xs => asA (txts xs) fun ss => (ss.map (·.length)).sum + ss.length * a.length ≤ 16777216 ∧ P (.d (.str (Txt.join a ss))) ρ2
abbrev qJoin (K : PySem.W.Frag) : V → List V → Hp → VK → Prop := fun x xs H Q => ∃ a p, ∃ ys : List Str, x = .str a ∧ xs = [.ref p] ∧ (SqL K H p (ys.map V.str) ∨ SqT K H p (ys.map V.str)) ∧
      (ys.map (·.length)).sum + ys.length * a.length ≤ 16777216 ∧ Q (.str (Txt.join a ys)) H
theorem run_join (ho : RunE K Z to wo) (he : RunE K Z te we) : RunE K Z (tM1 (qJoin K) to te) (wJoin wo we) := fun {H0 F0 F H ρ σ Q P} zo rl h k => ho zo rl h fun s1 ρ1 F1 H1 v1 h1 f1 r1 sr1 fr1 => by
  obtain ⟨F2, f2, r2, rp2⟩ := r1.freeze sr1 fr1
  obtain ⟨z, rfl, h1⟩ := asS_of h1 rp2
  refine ⟨⟨z, rfl⟩, he zo r2 h1 fun s3 ρ3 F3 H3 v3 h3 f3 r3 sr3 fr3 => ?_⟩
  obtain ⟨F4, f4, r4, rp4⟩ := r3.freeze sr3 fr3
  obtain ⟨a, vs, xs, rfl, hs, hr, h3⟩ := asSq_of h3 rp4
  obtain ⟨ss, es, hb, h3⟩ := asA_of h3
  have q := txts_of es hr
  subst q
  exact ⟨z, a, ss, rfl, rfl, sq_same r4.fh hs, hb, k (.d (.str _)) _ F4 _ _ h3 (f1.trans (f2.trans (f3.trans f4))) r4 rfl fun w => nomatch w⟩
theorem de_join (ho : DE K X Z o to wo) (he : DE K X Z e te we) (hs : starEach [e] X.env = [(false, eval e X.env)] := by rfl) (hbase : attributeBase o "join" X.env (eval o X.env) = eval o X.env := by rfl) (hline : (apos.endLine == pos.line) = true := by rfl) (hK : X.K = K := by rfl) :
    DE K X Z (.Call (.Attribute o "join" apos) [e] [] pos) (tM1 (qJoin K) to te) (wJoin wo we) := by
  subst hK
  exact ⟨pe_join ho.pe he.pe hs hbase hline, run_join ho.run he.run⟩
/-! ### list + list -/
def asLT (d : D) (P : List D → Prop) : Prop := match d with
  | .lst xs => P xs
  | _ => False
theorem asLT_of {F : Hp} {d : D} {v : V} {P : List D → Prop} (h : asLT d P) (r : Rep K F d v) : ∃ a vs xs, v = .ref a ∧ F a = some (.lst vs) ∧ Reps K F xs vs ∧ P xs := by
  cases d <;> first | exact h.elim | (obtain ⟨a, vs, e, h1, h2⟩ := r; exact ⟨a, vs, _, e, h1, h2, h⟩)
def oCatL : O2 := fun x y P => asLT x fun xs => asLT y fun ys => xs.length + ys.length ≤ sizeLine ∧ P (.ol (xs ++ ys))
theorem snd_catL : Snd2 K rCat oCatL := ⟨fun {F H x y vx vy P Q} fh rx ry h k => by
  obtain ⟨a, vs, xs, rfl, h1, h2, h⟩ := asLT_of h rx
  obtain ⟨b, us, ys, rfl, h3, h4, h⟩ := asLT_of h ry
  exact ⟨a, b, vs, us, rfl, rfl, fh _ _ h1, fh _ _ h3, by rw [h2.len, h4.len]; exact h.1, fun l n => k.newL fh h.2 (h2.app h4) n⟩⟩
theorem de_cat (ha : DE K X Z a ta wa) (hb : DE K X Z b tb wb) : DE K X Z (.BinOp a .Add b pos) (tOp rCat ta tb) (wOp oCatL wa wb) := de_op op_cat snd_catL ha hb
/-! ### tuple + tuple -/
def oCatT : O2 := fun x y P => asT x fun xs => asT y fun ys => xs.length + ys.length ≤ sizeLine ∧ P (.d (.tup (xs ++ ys)))
/-! ### deep equality -/
mutual
def pyd : D → Option PyData
  | .non => some .none
  | .bl b => some (.bool b)
  | .int i => some (.int i)
  | .str x => some (.str x)
  | .cel ns => some (.list (ns.map .int))
  | .lst xs => (pyds xs).map .list
  | .tup xs => (pyds xs).map .tuple
  | _ => none
def pyds : List D → Option (List PyData)
  | [] => some []
  | x :: xs => (pyd x).bind fun a => (pyds xs).map (a :: ·)
end
theorem dps_ints {F : Hp} : ∀ ns : List Int, DpAll K F (ns.map V.int) (ns.map PyData.int)
  | [] => .nil
  | n :: ns => .cons (.int n) (dps_ints ns)
mutual
theorem pyd_ok {F : Hp} : ∀ (d : D) (v : V) (q : PyData), pyd d = some q → Rep K F d v → Dp K F v q
  | .non, _, _, h, r => by cases h; cases (show _ = V.non from r); exact .non
  | .bl b, _, _, h, r => by cases h; cases (show _ = V.bl b from r); exact .bl b
  | .int b, _, _, h, r => by cases h; cases (show _ = V.int b from r); exact .int b
  | .str b, _, _, h, r => by cases h; cases (show _ = V.str b from r); exact .str b
  | .cel ns, _, _, h, r => by
    cases h
    obtain ⟨a, rfl, s⟩ := r
    exact .lst s (dps_ints ns)
  | .lst xs, _, q, h, r => by
    obtain ⟨a, vs, rfl, s, rs⟩ := r
    rw [pyd] at h
    cases e : pyds xs with
    | none => rw [e] at h; cases h
    | some qs => rw [e] at h; cases h; exact .lst (SqL.of s) (pyds_ok xs vs qs e rs)
  | .tup xs, _, q, h, r => by
    obtain ⟨a, vs, rfl, s, rs⟩ := r
    rw [pyd] at h
    cases e : pyds xs with
    | none => rw [e] at h; cases h
    | some qs => rw [e] at h; cases h; exact .tup s (pyds_ok xs vs qs e rs)
  | .ref _, _, _, h, _ => by cases h
  | .ty _, _, _, h, _ => by cases h
  | .dic _ _, _, _, h, _ => by cases h
  | .ins _ _ _, _, _, h, _ => by cases h
theorem pyds_ok {F : Hp} : ∀ (ds : List D) (vs : List V) (qs : List PyData), pyds ds = some qs → Reps K F ds vs → DpAll K F vs qs
  | [], _, _, h, r => by cases h; cases (show _ = [] from r); exact .nil
  | x :: xs, _, qs, h, r => by
    obtain ⟨v, vs, rfl, rv, rs⟩ := r
    rw [pyds] at h
    cases e : pyd x with
    | none => rw [e] at h; cases h
    | some q =>
      rw [e] at h
      cases e2 : pyds xs with
      | none => rw [e2] at h; cases h
      | some qs' => rw [e2] at h; cases h; exact .cons (pyd_ok x v q e rv) (pyds_ok xs vs qs' e2 rs)
end
/-- data of equal heaps: Same -/
theorem Dp.same' {F H : Hp} (fh : Same F H) {d : D} {v : V} {q : PyData} (e : pyd d = some q) (r : Rep K F d v) : Dp K H v q := pyd_ok d v q e (Rep.mono fh _ _ r)
def oEqD (neg : Bool) : O2 := fun x y P => asA (pyd x) fun q => asA (pyd y) fun r => SeqAt.shaped q = true ∧ SeqAt.shaped r = true ∧ P (.d (.bl (if neg then !PyData.eqv q r else PyData.eqv q r)))
theorem snd_eqD : Snd2 K (rEqD K) (oEqD false) := ⟨fun {F H x y vx vy P Q} fh rx ry h k => by
  obtain ⟨q, e1, h⟩ := asA_of h
  obtain ⟨r, e2, h⟩ := asA_of h
  exact ⟨q, r, Dp.same' fh e1 rx, Dp.same' fh e2 ry, h.1, h.2.1, k.flat (d := .bl _) fh h.2.2 rfl⟩⟩
theorem snd_neD : Snd2 K (rNeD K) (oEqD true) := ⟨fun {F H x y vx vy P Q} fh rx ry h k => by
  obtain ⟨q, e1, h⟩ := asA_of h
  obtain ⟨r, e2, h⟩ := asA_of h
  exact ⟨q, r, Dp.same' fh e1 rx, Dp.same' fh e2 ry, h.1, h.2.1, k.flat (d := .bl _) fh h.2.2 rfl⟩⟩
theorem de_eqD (hu : X.A.units + 64 < cLine) (ha : DE K X Z a ta wa) (hb : DE K X Z b tb wb) (hm : behindInMarks .Eq b = false := by rfl) (hK : X.K = K := by rfl) : DE K X Z (.Compare a [.Eq] [b] pos) (tOp (rEqD K) ta tb) (wOp (oEqD false) wa wb) := by
  subst hK; exact de_cmp (op_eqD hu) snd_eqD hm ha hb
theorem de_neD (hu : X.A.units + 64 < cLine) (ha : DE K X Z a ta wa) (hb : DE K X Z b tb wb) (hm : behindInMarks .NotEq b = false := by rfl) (hK : X.K = K := by rfl) : DE K X Z (.Compare a [.NotEq] [b] pos) (tOp (rNeD K) ta tb) (wOp (oEqD true) wa wb) := by
  subst hK; exact de_cmp (op_neD hu) snd_neD hm ha hb
theorem dt_eqD (hu : X.A.units + 64 < cLine) (ha : DE K X Z a ta wa) (hb : DE K X Z b tb wb) (hm : behindInMarks .Eq b = false := by rfl) (hK : X.K = K := by rfl) : DT K X Z (.Compare a [.Eq] [b] pos) (tTest (tOp (rEqD K) ta tb)) (wB (wOp (oEqD false) wa wb)) := by
  subst hK; exact dt_cmp (op_eqD hu) snd_eqD hm ha hb
theorem dt_neD (hu : X.A.units + 64 < cLine) (ha : DE K X Z a ta wa) (hb : DE K X Z b tb wb) (hm : behindInMarks .NotEq b = false := by rfl) (hK : X.K = K := by rfl) : DT K X Z (.Compare a [.NotEq] [b] pos) (tTest (tOp (rNeD K) ta tb)) (wB (wOp (oEqD true) wa wb)) := by
  subst hK; exact dt_cmp (op_neD hu) snd_neD hm ha hb
/-! ### own lists: pop(i), remove of a text -/
def oPopAt : List D → List D → (S → List D → Prop) → Prop := fun xs ds P => match ds with
  | [.int i] => (-(2 ^ 63) ≤ i ∧ i < 2 ^ 63) ∧ asA (seqIndex? i xs.length) fun k => asA xs[k]? fun d => P (.d d) (xs.eraseIdx k)
  | _ => False
theorem Reps.eraseIdx {F : Hp} {xs : List D} {vs : List V} (k : Nat) (h : Reps K F xs vs) : Reps K F (xs.eraseIdx k) (vs.eraseIdx k) := by
  rw [List.eraseIdx_eq_take_drop_succ, List.eraseIdx_eq_take_drop_succ]
  exact (h.take k).app (h.drop (k + 1))
theorem snd_popAt : SndM K rPopAt oPopAt := ⟨fun {F H l vs us xs ds P Q} fh hl n rx rd h k => by
  unfold oPopAt at h
  split at h
  · obtain ⟨v, _, rfl, rfl, rfl⟩ := rd
    obtain ⟨⟨h1, h2⟩, h⟩ := h
    obtain ⟨j, ej, h⟩ := asA_of h
    obtain ⟨d, ed, h⟩ := asA_of h
    obtain ⟨v, ev, rv⟩ := rx.get ed
    exact ⟨l, vs, _, j, v, rfl, rfl, hl, h1, h2, by rw [rx.len]; exact ej, ev, k _ _ _ _ h rv (rx.eraseIdx j)⟩
  · exact h.elim⟩
theorem de_popAt (i : Nat) {x : Str} (ha : DE K X Z e te we) (hN : X.N[i]? = some x := by rfl) (hv : Vis X.env.scope x := by first | exact Or.inl rfl | exact Or.inr (Or.inl rfl) | exact Or.inr (Or.inr rfl)) (hd : (x == ("__debug__" : Str)) = false := by decide)
    (hcd : (x == ("__classdict__" : Str)) = false := by decide) (hs : starEach [e] X.env = [(false, eval e X.env)] := by rfl)
    (hbase : attributeBase (.Name x p) "pop" X.env (eval (.Name x p) X.env) = eval (.Name x p) X.env := by rfl)
    (hfew : ((backTo cpos (starEach [e] X.env)).all (fun x => !x.1) && (backToKw cpos (keywordEach [] X.env)).all (fun x => x.1.isSome)
      && decide (([e] : List Expr).length + ([] : List Keyword).length + (if ([] : List Keyword).isEmpty then 0 else 1) < 30)) = true := by rfl)
    (hline : (apos.endLine == cpos.line) = true := by rfl) (hK : X.K = K := by rfl) :
    DE K X Z (.Call (.Attribute (.Name x p) "pop" apos) [e] [] cpos) (tBM K "list" rPopAt (tVar i) (tCons te tNil)) (wM i oPopAt (wCons we wNil)) := by
  subst hK
  exact ⟨pe_bm PySem.F.plainAttrs_list PySem.F.slot_list_pop PySem.F.type_list_pop mt_popAt (pe_var hN hv hd hcd) (pa_cons ha.pe pa_nil hs) hbase hfew hline hs rfl, run_M rfl (da_cons ha (da_nil (X := X) (Z := Z)) hs).run snd_popAt⟩
/-! ### own dicts -/
/-- d[k] = v, d own -/
def wDPut (i : Nat) (wk wv : W) : WS := fun DD ρ => wv ρ fun v ρ1 => asOD (nth ρ1 i) fun _ => wk ρ1 fun k ρ2 => asOD (nth ρ2 i) fun kvs => asKey k.fz fun k => kvs.length < sizeLine ∧ DD.nx (put ρ2 i (some (.od (vput kvs k v.fz))))
/-- own dict at slot i, in the words of KRep -/
theorem Rel.dict {H0 F0 F H : Hp} {ρ : R} {σ : St} {kvs : List (Key × D)} (r : Rel K H0 F0 F H ρ σ) (e : nth ρ i = some (.od kvs)) :
    ∃ a l, σ[i]? = some (some (.ref a)) ∧ H a = some (.dK l) ∧ KRep K F kvs l ∧ H0 a = none ∧ F a = none := by
  obtain ⟨v, ev, a, l, rfl, hl, hk, rr, n0, n1⟩ := r.at_ i _ (nth_some e)
  exact ⟨a, l, ev, hl, ⟨hk, rr⟩, n0, n1⟩
theorem Rel.dictPut {H0 F0 F H : Hp} {ρ : R} {σ : St} {kvs kvs' : List (Key × D)} {a : Addr} {l' : List (Key × V)} (r : Rel K H0 F0 F H ρ σ) (e : nth ρ i = some (.od kvs)) (ev : σ[i]? = some (some (.ref a))) (n0 : H0 a = none) (n1 : F a = none) (kr : KRep K F kvs' l') :
    Rel K H0 F0 F (upd H a (.dK l')) (put ρ i (some (.od kvs'))) σ := by
  rw [put_eq]
  exact r.write (nth_some e) rfl ev ⟨a, l', rfl, upd_same, kr.1, kr.2, n0, n1⟩ rfl
theorem run_dput {tk tv : TE} {wk wv : W} (hk : RunE K Z tk wk) (hv : RunE K Z tv wv) : RunS K Z (sDPut (tVar i) tk tv) (wDPut i wk wv) := fun {H0 F0 F H ρ σ DD Dh} zo rl ee h => hv zo rl h fun s1 ρ1 F1 H1 v1 h1 f1 r1 sr1 fr1 => by
  obtain ⟨F2, f2, r2, rp2⟩ := r1.freeze sr1 fr1
  obtain ⟨kvs0, e0, h1⟩ := asOD_of h1
  obtain ⟨a, l0, ev, _⟩ := r2.dict e0
  refine ⟨.ref a, ev, hk zo r2 h1 fun s3 ρ3 F3 H3 v3 h3 f3 r3 sr3 fr3 => ?_⟩
  obtain ⟨F4, f4, r4, rp4⟩ := r3.freeze sr3 fr3
  obtain ⟨kvs, e1, h3⟩ := asOD_of h3
  obtain ⟨key, rfl, hl, h3⟩ := asKey_of h3 rp4
  obtain ⟨a', l, ev', hd, kr, n0, n1⟩ := r4.dict e1
  rw [ev] at ev'; cases ev'
  exact ⟨a, _, rfl, DPut.k hd (by rw [kr.len]; exact hl), ee.nx _ _ _ _ h3 (f1.trans (f2.trans (f3.trans f4))) (r4.dictPut e1 ev n0 n1 (KRep.put (Rep.mono (f3.trans f4) _ _ rp2) kr))⟩
theorem ds_dput {tk tv : TE} {wk wv : W} {k value : Expr} {x : Str} (i : Nat) (hu : X.A.units + 1 < cLine) (hk : DE K X Z k tk wk) (hv : DE K X Z value tv wv) (hN : X.N[i]? = some x := by rfl) (hvi : Vis X.env.scope x := by first | exact Or.inl rfl | exact Or.inr (Or.inl rfl) | exact Or.inr (Or.inr rfl)) (hd : (x == ("__debug__" : Str)) = false := by decide)
    (hcd : (x == ("__classdict__" : Str)) = false := by decide) (hs : swapsWith value (some (.Subscript (.Name x p) k pos')) pos.line X.env = pure false := by rfl) :
    DS K X Z (.Assign [.Subscript (.Name x p) k pos'] value pos) (sDPut (tVar i) tk tv) (wDPut i wk wv) := ⟨ps_dput hu (pe_var hN hvi hd hcd) hk.pe hv.pe hs, run_dput hk.run hv.run⟩
/-- d.pop(k), d own, k there -/
def wDPop (i : Nat) (wk : W) : W := fun ρ P => asOD (nth ρ i) fun _ => wk ρ fun k ρ1 => asOD (nth ρ1 i) fun kvs => asKey k.fz fun k => asA (vget kvs k) fun d => P (.d d) (put ρ1 i (some (.od (vdrop kvs k))))
theorem run_dpop {tk : TE} {wk : W} (hk : RunE K Z tk wk) : RunE K Z (tDPop1 (tVar i) tk) (wDPop i wk) := fun {H0 F0 F H ρ σ Q P} zo rl h k => by
  obtain ⟨kvs0, e0, h⟩ := asOD_of h
  obtain ⟨a, l0, ev, hd0, _⟩ := rl.dict e0
  refine ⟨.ref a, ev, a, rfl, .inl ⟨l0, .inl hd0⟩, hk zo rl h fun s3 ρ3 F3 H3 v3 h3 f3 r3 sr3 fr3 => ?_⟩
  obtain ⟨F4, f4, r4, rp4⟩ := r3.freeze sr3 fr3
  obtain ⟨kvs, e1, h3⟩ := asOD_of h3
  obtain ⟨key, rfl, h3⟩ := asKey_of h3 rp4
  obtain ⟨d, e, h3⟩ := asA_of h3
  obtain ⟨a', l, ev', hd, kr, n0, n1⟩ := r4.dict e1
  rw [ev] at ev'; cases ev'
  rcases kr.get (k := key) with ⟨d', v, g1, g2, g3⟩ | ⟨g1, g2⟩
  · rw [e] at g1; cases g1
    exact ⟨l, key, v, hd, rfl, g2, k _ _ F4 _ _ h3 (f3.trans f4) (r4.dictPut e1 ev n0 n1 kr.drop) g3 fun w => nomatch w⟩
  · rw [e] at g1; cases g1
theorem de_dpop {tk : TE} {wk : W} {k : Expr} {x : Str} (i : Nat) (hk : DE K X Z k tk wk) (m : M1 X (.Name x p) "pop" apos k cpos) (hN : X.N[i]? = some x := by rfl) (hvi : Vis X.env.scope x := by first | exact Or.inl rfl | exact Or.inr (Or.inl rfl) | exact Or.inr (Or.inr rfl)) (hd : (x == ("__debug__" : Str)) = false := by decide)
    (hcd : (x == ("__classdict__" : Str)) = false := by decide) :
    DE K X Z (.Call (.Attribute (.Name x p) "pop" apos) [k] [] cpos) (tDPop1 (tVar i) tk) (wDPop i wk) := ⟨pe_dpop1 (pe_var hN hvi hd hcd) hk.pe m, run_dpop hk.run⟩
/-! ### sorted(d.keys()) -/
/-- the keys as texts -/
def txtKeys : List Key → Option (List Str)
  | [] => some []
  | .inr x :: r => (txtKeys r).map (x :: ·)
  | _ => none
theorem txtKeys_map : ∀ bs : List Str, txtKeys (bs.map Sum.inr) = some bs
  | [] => rfl
  | b :: bs => by rw [List.map_cons, txtKeys, txtKeys_map bs]; rfl
theorem txtKeys_of : ∀ {ks : List Key} {bs : List Str}, txtKeys ks = some bs → ks = bs.map Sum.inr
  | [], bs, e => by cases e; rfl
  | .inl _ :: _, bs, e => by cases e
  | .inr x :: r, bs, e => by
    rw [txtKeys] at e
    cases q : txtKeys r with
    | none => rw [q] at e; cases e
    | some cs => rw [q] at e; cases e; rw [txtKeys_of q]; rfl
def wSortK (we : W) : W := fun ρ P => we ρ fun s ρ1 => asDic s.fz fun kvs => asA (txtKeys (kvs.map (·.1))) fun ks => P (.ol ((srt ks).map .str)) ρ1
theorem run_sortK (he : RunE K Z te we) : RunE K Z (tCB rSortK (tCons (tKeys te) tNil)) (wSortK we) := fun {H0 F0 F H ρ σ Q P} zo rl h k => he zo rl h fun s1 ρ1 F1 H1 v1 h1 f1 r1 sr1 fr1 => by
  obtain ⟨F2, f2, r2, rp2⟩ := r1.freeze sr1 fr1
  obtain ⟨a, kvs, l, rfl, hl, kr, h1⟩ := asDic_of h1 rp2
  obtain ⟨ks, ek, h1⟩ := asA_of h1
  refine ⟨a, l, rfl, Same.rd r2.fh hl, fun p n => ?_⟩
  have hh : Same H1 (upd H1 p (KVo p a)) := Same.new n
  refine ⟨p, a, l, ks, rfl, upd_same, Same.rd hh (Same.rd r2.fh hl), by rw [kr.1]; exact txtKeys_of ek, fun ys q hp hs hq => ?_⟩
  have r3 : Rel K H0 F0 F2 (upd H1 p (KVo p a)) ρ1 σ := r2.grow hh
  have e : ys = srt ks := srt_eq hp hs
  subst e
  exact (Rel.kont r3 (f1.trans f2) k).newL r3.fh h1 (Reps.strs.mpr rfl) hq
theorem de_sortK (hc : X.calm = true) (m : X.mg "sorted" = none) (he : DE K X Z e te we) (hg : Gl X "sorted" := by rfl) (hbase : attributeBase e "keys" X.env (eval e X.env) = eval e X.env := by rfl) (hline : (apos.endLine == cpos.line) = true := by rfl)
    (hs : starEach [Expr.Call (.Attribute e "keys" apos) [] [] cpos] X.env = [(false, eval (Expr.Call (.Attribute e "keys" apos) [] [] cpos) X.env)] := by rfl) :
    DE K X Z (.Call (.Name "sorted" p) [.Call (.Attribute e "keys" apos) [] [] cpos] [] pos) (tCB rSortK (tCons (tKeys te) tNil)) (wSortK we) :=
  ⟨pe_callB (cr_sortK hc) hg m (by decide +kernel) (pa_cons (pe_keys he.pe hbase hline) pa_nil hs) (hn := by decide) (hdb := by decide) (he := hs) (hpl := rfl), run_sortK he.run⟩
/-! ### enumerate -/
def enumD (i : Nat) : List D → List D
  | [] => []
  | x :: xs => .tup [.int i, x] :: enumD (i + 1) xs
theorem enumD_len : ∀ (xs : List D) (i : Nat), (enumD i xs).length = xs.length
  | [], _ => rfl
  | _ :: xs, i => congrArg Nat.succ (enumD_len xs (i + 1))
theorem enumD_get : ∀ (xs : List D) (i j : Nat) (d : D), xs[j]? = some d → (enumD i xs)[j]? = some (.tup [.int ((i + j : Nat) : Int), d])
  | [], _, _, _, e => by simp at e
  | x :: xs, i, 0, d, e => by simp at e; subst e; rfl
  | x :: xs, i, j + 1, d, e => by
    have := enumD_get xs (i + 1) j d (by simpa using e)
    rw [show i + 1 + j = i + (j + 1) by omega] at this
    simpa [enumD] using this
def wiEnum (wa : WA) : WA := fun ρ P => wa ρ fun ds ρ1 => match ds with
  | [d] => asL d fun xs => P (enumD 0 xs) ρ1
  | _ => False
theorem di_enum {ta : TA} {wa : WA} {elts : List Expr} {kk : Nat} {tpos : Pos} (hm : X.mg "enumerate" = none) (ha : DA K X Z [e] ta wa) (hg : Gl X "enumerate" := by rfl) (hs : starEach [e] X.env = [(false, eval e X.env)] := by rfl) (hK : X.K = K := by rfl) :
    DI K X Z (.Tuple elts kk tpos) (.Call (.Name "enumerate" p) [e] [] pos) (iEnum K ta) (wiEnum wa) := by
  refine ⟨by subst hK; exact pi_enum hg hm ha.pe hs, fun {H0 F0 F H ρ σ Q P} zo rl h k => ha.run zo rl h fun ds ρ1 F1 H1 vs h1 f1 r1 rps => ?_⟩
  split at h1
  · rename_i d
    obtain ⟨v, _, rfl, rp, rfl⟩ := rps
    obtain ⟨a, vs, xs, rfl, s1, s2, h1⟩ := asL_of h1 rp
    refine ⟨a, vs, rfl, r1.fh.seq s1, k _ ρ1 F1 H1 _ h1 f1 r1 ⟨fun {i F H} f g l => ?_, fun {i F H} f g l => ?_, fun {i F H H2 x} f g y l => ?_⟩⟩
    · have hl : i < vs.length := by rw [s2.len]; rw [enumD_len] at l; exact l
      exact ⟨vs, vs[i], g.seq (f.seq s1), List.getElem?_eq_getElem hl⟩
    · exact ⟨vs, g.seq (f.seq s1), by rw [s2.len]; rw [enumD_len] at l; exact l⟩
    · obtain ⟨T, u, rfl, n, rfl, y⟩ := y
      obtain ⟨d, e, r⟩ := s2.get' (y vs (g.seq (f.seq s1)))
      refine ⟨upd F T (.tup [.int (i : Nat), u]), _, enumD_get xs 0 i d e, Same.new n, Same.new (g.free n), upd_both g n, nw_upd n, ⟨T, _, rfl, SqT.of upd_same, ?_⟩⟩
      exact ⟨_, _, rfl, by rw [Nat.zero_add]; rfl, _, _, rfl, Rep.mono (f.trans (Same.new (g.free n))) _ _ r, rfl⟩
  · exact h1.elim
end
end DL
/-! DL9: rules that look at the data for their kind: +, ==, [], in, <, loops, list. -/
namespace DL
open PySem L2
section
variable {K : PySem.W.Frag}
theorem Snd2.inl {r r' : R2} {o : O2} (h : Snd2 K r o) : Snd2 K (fun x y H Q => r x y H Q ∨ r' x y H Q) o := ⟨fun a b c d e => .inl (h.run a b c d e)⟩
theorem Snd2.inr {r r' : R2} {o : O2} (h : Snd2 K r' o) : Snd2 K (fun x y H Q => r x y H Q ∨ r' x y H Q) o := ⟨fun a b c d e => .inr (h.run a b c d e)⟩
/-! ### + -/
theorem snd_catT : Snd2 K (rCatA K) oCatT := ⟨fun {F H x y vx vy P Q} fh rx ry h k => by
  obtain ⟨a, vs, xs, rfl, h1, h2, h⟩ := asT_of h rx
  obtain ⟨b, us, ys, rfl, h3, h4, h⟩ := asT_of h ry
  have e1 := h2.len
  have e2 := h4.len
  refine ⟨a, b, vs, us, rfl, rfl, Same.sqT fh h1, Same.sqT fh h3, by rw [e1, e2]; exact h.1, fun z => ?_, fun _ z => ?_, fun _ _ p n => k.newT fh h.2 (h2.app h4) n⟩
  · subst z
    obtain rfl : xs = [] := List.length_eq_zero_iff.mp e1.symm
    exact k.flat fh h.2 ⟨b, us, rfl, h3, h4⟩
  · subst z
    obtain rfl : ys = [] := List.length_eq_zero_iff.mp e2.symm
    have := h.2
    rw [List.append_nil] at this
    exact k.flat fh this ⟨a, vs, rfl, h1, h2⟩⟩
def oPlus : O2 := fun x y P => match x, y with
  | .int i, .int j => P (.d (.int (i + j)))
  | .str i, .str j => i.length + j.length ≤ sizeLine ∧ P (.d (.str (i ++ j)))
  | .lst xs, .lst ys => xs.length + ys.length ≤ sizeLine ∧ P (.ol (xs ++ ys))
  | .tup xs, .tup ys => xs.length + ys.length ≤ sizeLine ∧ P (.d (.tup (xs ++ ys)))
  | _, _ => False
abbrev rPlus (K : PySem.W.Frag) : R2 := fun x y H Q => qAdd x y H Q ∨ qAddS x y H Q ∨ rCat x y H Q ∨ rCatA K x y H Q
theorem op_plus {X : Cx} : OpR X (binaryOp .Add) (rPlus X.K) := op_add.or (op_add_str.or (op_cat.or op_catA))
theorem snd_plus : Snd2 K (rPlus K) oPlus := ⟨fun {F H x y vx vy P Q} fh rx ry h k => by
  unfold oPlus at h
  split at h
  · exact .inl (snd_add.run fh rx ry (by exact h) k)
  · exact .inr (.inl (snd_catS.run fh rx ry (by exact h) k))
  · exact .inr (.inr (.inl (snd_catL.run fh rx ry (by exact h) k)))
  · exact .inr (.inr (.inr (snd_catT.run fh rx ry (by exact h) k)))
  · exact h.elim⟩
/-! ### ==, != -/
def flatD : D → Bool
  | .non => true | .bl _ => true | .int _ => true | .str _ => true
  | _ => false
/-- two values told equal: flat and the same, or data alike -/
def SameV (K : PySem.W.Frag) (H : Hp) (v u : V) : Prop := (v = u ∧ flatB v = true) ∨ ∃ q r, Dp K H v q ∧ Dp K H u r ∧ (q.canLay0 = true ∧ r.canLay0 = true ∧ q.depth ≤ 60) ∧ PyData.eqv q r = true
def rEqDR (K : PySem.W.Frag) : R2 := fun x y H Q => ∃ a b ks ls, x = .ref a ∧ y = .ref b ∧ Rd H a (.dK ks) ∧ Rd H b (.dK ls) ∧ ks.length = ls.length ∧ (∀ p ∈ ks, ∃ u, valV ls p.1 = some u ∧ SameV K H p.2 u) ∧ Q (.bl true) H
def rNeDR (K : PySem.W.Frag) : R2 := fun x y H Q => ∃ a b ks ls, x = .ref a ∧ y = .ref b ∧ Rd H a (.dK ks) ∧ Rd H b (.dK ls) ∧ ks.length = ls.length ∧ (∀ p ∈ ks, ∃ u, valV ls p.1 = some u ∧ SameV K H p.2 u) ∧ Q (.bl false) H
theorem hits_same {X : Cx} {pins : List (Addr × Obj)} {σ : St} {H : Hp} {s : Shared} {A : Around} (I : Inv X pins σ H s) (hu : A.units + 60 < cLine) {kvs : List (Key × V)} {vb : List (Key × Value)} (rb : KV kvs vb) {ks : List (Key × V)} {va : List (Key × Value)} (ra : KV ks va) :
    (∀ p ∈ ks, ∃ u, valV kvs p.1 = some u ∧ SameV X.K H p.2 u) → PySem.W.KeqHits A s vb va true := by
  unfold KV at ra
  induction ra with
  | nil => intro _; exact .nil
  | @cons p q ps qs h t ih =>
    intro hp
    obtain ⟨h1, h2⟩ := h
    obtain ⟨w, e, f⟩ := hp p List.mem_cons_self
    have rr : RelO (some w) (valueAt vb p.1) := by rw [← e]; exact rb.val p.1
    obtain ⟨y, hy, ry⟩ := rr.some_of
    obtain ⟨k, v⟩ := q
    have h1' : p.1 = k := h1
    rw [h1'] at hy
    show PySem.W.KeqHits A s vb ((k, v) :: qs) (true && true)
    refine .hit hy ?_ (ih fun p' hm => hp p' (List.mem_cons_of_mem _ hm))
    rcases f with ⟨rfl, f⟩ | ⟨d1, d2, g1, g2, ⟨g3, g4, g5⟩, g6⟩
    · exact eqAt_same h2 ry f
    · obtain ⟨as, r1⟩ := Dp.reads I d1 _ _ g1 h2
      obtain ⟨bs, r2⟩ := Dp.reads I d2 _ _ g2 ry
      have := SeqAt.eqAt_reads d1 d2 A s _ _ as bs r1 r2 g3 g4 (by have := Nat.min_le_left d1.depth d2.depth; omega)
      rw [g6] at this
      exact this
theorem op_eqDR {X : Cx} (hu : X.A.units + 64 < cLine) : OpR X (compareOp .Eq) (rEqDR X.K) := by
  intro pins s σ H x y v u Q I rx ry h
  obtain ⟨a, b, ks, ls, rfl, rfl, ea, eb, hlen, hp, q⟩ := h
  obtain rfl : v = Value.ref a := rx
  obtain rfl : u = Value.ref b := ry
  obtain ⟨_, ya, va, ra, da⟩ := dk_rd I.hok ea
  obtain ⟨_, yb, vb, rb, db⟩ := dk_rd I.hok eb
  have hl : va.length = vb.length := by rw [← ra.length, ← rb.length]; exact hlen
  exact PySem.W.keq_eq (knd := mixKind X.prog X.w) (r := true) ya yb da db (by omega) (fun _ => hits_same I (by show X.A.units + 1 + 60 < cLine; omega) rb ra hp) (fin_bl I q (by simp [hl]))
theorem op_neDR {X : Cx} (hu : X.A.units + 64 < cLine) : OpR X (compareOp .NotEq) (rNeDR X.K) := by
  intro pins s σ H x y v u Q I rx ry h
  obtain ⟨a, b, ks, ls, rfl, rfl, ea, eb, hlen, hp, q⟩ := h
  obtain rfl : v = Value.ref a := rx
  obtain rfl : u = Value.ref b := ry
  obtain ⟨_, ya, va, ra, da⟩ := dk_rd I.hok ea
  obtain ⟨_, yb, vb, rb, db⟩ := dk_rd I.hok eb
  have hl : va.length = vb.length := by rw [← ra.length, ← rb.length]; exact hlen
  exact PySem.W.keq_ne (knd := mixKind X.prog X.w) (r := true) ya yb da db (by omega) (fun _ => hits_same I (by show X.A.units + 1 + 60 < cLine; omega) rb ra hp) (fin_bl I q (by simp [hl]))
/-- the same for data -/
def SameD (d e : D) : Prop := (d = e ∧ flatD d = true) ∨ ∃ q r, pyd d = some q ∧ pyd e = some r ∧ (q.canLay0 = true ∧ r.canLay0 = true ∧ q.depth ≤ 60) ∧ PyData.eqv q r = true
def dicEq (kvs ls : List (Key × D)) : Prop := kvs.length = ls.length ∧ ∀ p ∈ kvs, ∃ u, vget ls p.1 = some u ∧ SameD p.2 u
def eqX (x y : D) (P : Bool → Prop) : Prop := match eqS x y with
  | some b => P b
  | none => match x, y with
    | .dic ks xs, .dic ls ys => dicEq (ks.zip xs) (ls.zip ys) ∧ P true
    | _, _ => asA (pyd x) fun q => asA (pyd y) fun r => SeqAt.shaped q = true ∧ SeqAt.shaped r = true ∧ P (PyData.eqv q r)
def oEqX : O2 := fun x y P => eqX x y fun b => P (.d (.bl b))
def oNeX : O2 := fun x y P => eqX x y fun b => P (.d (.bl (!b)))
abbrev rEqX (K : PySem.W.Frag) : R2 := fun x y H Q => rEq x y H Q ∨ rEqD K x y H Q ∨ rEqDR K x y H Q
abbrev rNeX (K : PySem.W.Frag) : R2 := fun x y H Q => rNe x y H Q ∨ rNeD K x y H Q ∨ rNeDR K x y H Q
theorem op_eqX {X : Cx} (hu : X.A.units + 64 < cLine) : OpR X (compareOp .Eq) (rEqX X.K) := op_eq.or ((op_eqD hu).or (op_eqDR hu))
theorem op_neX {X : Cx} (hu : X.A.units + 64 < cLine) : OpR X (compareOp .NotEq) (rNeX X.K) := op_ne.or ((op_neD hu).or (op_neDR hu))
theorem KRep.mem {F : Hp} {p : Key × V} : ∀ {kvs : List (Key × D)} {l : List (Key × V)}, KRep K F kvs l → p ∈ l → ∃ d, (p.1, d) ∈ kvs ∧ Rep K F d p.2
  | [], l, h, hp => by rw [h.nil] at hp; simp at hp
  | q :: kvs, l, h, hp => by
    obtain ⟨r, l', rfl, e, rr, h'⟩ := h.cons
    rcases List.mem_cons.mp hp with z | z
    · subst z; exact ⟨q.2, by rw [e]; exact List.mem_cons_self, rr⟩
    · obtain ⟨d, hd, rd⟩ := KRep.mem h' z
      exact ⟨d, List.mem_cons_of_mem _ hd, rd⟩
theorem flat_same {F : Hp} {d : D} {v u : V} (f : flatD d = true) (r1 : Rep K F d v) (r2 : Rep K F d u) : v = u ∧ flatB v = true := by
  cases d <;> first | (cases (show false = true from f)) | (cases (show v = _ from r1); cases (show u = _ from r2); exact ⟨rfl, rfl⟩)
theorem dicEq_ok {F H : Hp} {kvs ls : List (Key × D)} {l m : List (Key × V)} {a b : Addr} (fh : Same F H) (ha : Rd F a (.dK l)) (hb : Rd F b (.dK m)) (k1 : KRep K F kvs l) (k2 : KRep K F ls m) (h : dicEq kvs ls) :
    Rd H a (.dK l) ∧ Rd H b (.dK m) ∧ l.length = m.length ∧ ∀ p ∈ l, ∃ u, valV m p.1 = some u ∧ SameV K H p.2 u := by
  refine ⟨Same.rd fh ha, Same.rd fh hb, by rw [k1.len, k2.len]; exact h.1, fun p hp => ?_⟩
  obtain ⟨d, hd, rd⟩ := k1.mem hp
  obtain ⟨d2, h1, h2⟩ := h.2 _ hd
  rcases k2.get (k := p.1) with ⟨d', v, g1, g2, g3⟩ | ⟨g1, g2⟩
  · have e : d' = d2 := Option.some.inj (g1.symm.trans h1)
    subst e
    refine ⟨v, g2, ?_⟩
    rcases h2 with ⟨e1, e2⟩ | ⟨q, r, e1, e2, e3, e4⟩
    · have e1' : d = d' := e1
      subst e1'
      obtain ⟨e1, e2⟩ := flat_same e2 rd g3
      exact .inl ⟨e1, e2⟩
    · exact .inr ⟨q, r, pyd_ok d _ q e1 (Rep.mono fh _ _ rd), pyd_ok d' _ r e2 (Rep.mono fh _ _ g3), e3, e4⟩
  · rw [h1] at g1; cases g1
theorem snd_eqX : Snd2 K (rEqX K) oEqX := ⟨fun {F H x y vx vy P Q} fh rx ry h k => by
  unfold oEqX eqX at h
  split at h
  · rename_i b e
    obtain ⟨h1, h2⟩ := eqS_ok rx ry e
    exact .inl ⟨h1, by rw [h2]; exact k.flat (d := .bl b) fh h rfl⟩
  · split at h
    · obtain ⟨h1, h2⟩ := h
      obtain ⟨a, kvs, l, rfl, hl, kr, q⟩ := asDic_of (d := .dic _ _) (P := fun kvs => kvs = _) rfl rx
      obtain ⟨b, kvs2, m, rfl, hm, kr2, q2⟩ := asDic_of (d := .dic _ _) (P := fun kvs => kvs = _) rfl ry
      subst q; subst q2
      obtain ⟨g1, g2, g3, g4⟩ := dicEq_ok fh hl hm kr kr2 h1
      exact .inr (.inr ⟨a, b, l, m, rfl, rfl, g1, g2, g3, g4, k.flat (d := .bl true) fh h2 rfl⟩)
    · exact .inr (.inl (snd_eqD.run fh rx ry h k))⟩
theorem snd_neX : Snd2 K (rNeX K) oNeX := ⟨fun {F H x y vx vy P Q} fh rx ry h k => by
  unfold oNeX eqX at h
  split at h
  · rename_i b e
    obtain ⟨h1, h2⟩ := eqS_ok rx ry e
    exact .inl ⟨h1, by rw [h2]; exact k.flat (d := .bl (!b)) fh h rfl⟩
  · split at h
    · obtain ⟨h1, h2⟩ := h
      obtain ⟨a, kvs, l, rfl, hl, kr, q⟩ := asDic_of (d := .dic _ _) (P := fun kvs => kvs = _) rfl rx
      obtain ⟨b, kvs2, m, rfl, hm, kr2, q2⟩ := asDic_of (d := .dic _ _) (P := fun kvs => kvs = _) rfl ry
      subst q; subst q2
      obtain ⟨g1, g2, g3, g4⟩ := dicEq_ok fh hl hm kr kr2 h1
      exact .inr (.inr ⟨a, b, l, m, rfl, rfl, g1, g2, g3, g4, k.flat (d := .bl false) fh h2 rfl⟩)
    · exact .inr (.inl (snd_neD.run fh rx ry h k))⟩
/-! ### <, <= .. of ints, of texts -/
def oCmp (ri : Int → Int → Bool) (rs : List Nat → List Nat → Bool) : O2 := fun x y P => match x, y with
  | .int i, .int j => P (.d (.bl (ri i j)))
  | .str i, .str j => P (.d (.bl (rs i.cps.toList j.cps.toList)))
  | _, _ => False
abbrev rCmp (ri : Int → Int → Bool) (rs : List Nat → List Nat → Bool) : R2 := fun x y H Q => rI0 (fun i j => .bl (ri i j)) x y H Q ∨ ∃ i j, x = .str i ∧ y = .str j ∧ Q (.bl (rs i.cps.toList j.cps.toList)) H
theorem snd_cmp {ri : Int → Int → Bool} {rs : List Nat → List Nat → Bool} : Snd2 K (rCmp ri rs) (oCmp ri rs) := ⟨fun {F H x y vx vy P Q} fh rx ry h k => by
  unfold oCmp at h
  split at h
  · cases (show vx = _ from rx); cases (show vy = _ from ry)
    exact .inl ⟨_, _, rfl, rfl, k.flat (d := .bl _) fh h rfl⟩
  · cases (show vx = _ from rx); cases (show vy = _ from ry)
    exact .inr ⟨_, _, rfl, rfl, k.flat (d := .bl _) fh h rfl⟩
  · exact h.elim⟩
abbrev oLtX : O2 := oCmp (fun i j => decide (i < j)) fun i j => decide (i < j)
abbrev oLeX : O2 := oCmp (fun i j => decide (i ≤ j)) fun i j => !decide (j < i)
abbrev oGtX : O2 := oCmp (fun i j => decide (j < i)) fun i j => decide (j < i)
abbrev oGeX : O2 := oCmp (fun i j => decide (j ≤ i)) fun i j => !decide (i < j)
abbrev rLtX : R2 := rCmp (fun i j => decide (i < j)) fun i j => decide (i < j)
abbrev rLeX : R2 := rCmp (fun i j => decide (i ≤ j)) fun i j => !decide (j < i)
abbrev rGtX : R2 := rCmp (fun i j => decide (j < i)) fun i j => decide (j < i)
abbrev rGeX : R2 := rCmp (fun i j => decide (j ≤ i)) fun i j => !decide (i < j)
theorem op_ltX {X : Cx} : OpR X (compareOp .Lt) rLtX := op_lt.or op_lt_str
theorem op_leX {X : Cx} : OpR X (compareOp .LtE) rLeX := op_le.or op_le_str
theorem op_gtX {X : Cx} : OpR X (compareOp .Gt) rGtX := op_gt.or op_gt_str
theorem op_geX {X : Cx} : OpR X (compareOp .GtE) rGeX := op_ge.or op_ge_str
/-! ### a[i] -/
theorem ix_dict {X : Cx} (hu : X.A.units + 1 < cLine) : IxR X (fun x y H Q => ∃ a v, x = .ref a ∧ DGet H a y (some v) ∧ Q v H) := by
  intro value slice pins s σ H x y v u Q I rx ry h hs
  obtain ⟨a, z, rfl, g, q⟩ := h
  obtain rfl : v = Value.ref a := rx
  exact PyProof.Rows.tail_any (dict_typeIs I g) PySem.F.slot_dict_getitem.lookup (d_getItem hu I g ry fun w' s3 I3 rw' => ⟨z, H, I3, rw', q⟩) hs
def oIxX : O2 := fun x y P => match x, y with
  | .cel ns, .int i => asA (atI ns i) fun n => P (.d (.int n))
  | .lst xs, .int i => asA (atI xs i) fun d => P (.d d)
  | .tup xs, .int i => asA (atI xs i) fun d => P (.d d)
  | .str z, .int i => z.length ≤ sizeLine ∧ asA (atI z.cps.toList i) fun c => P (.d (.str ⟨#[c]⟩))
  | .dic ks xs, y => asKey y fun k => asA (vget (ks.zip xs) k) fun d => P (.d d)
  | _, _ => False
abbrev rIxX (K : PySem.W.Frag) : R2 := fun x y H Q => rIx K x y H Q ∨ ∃ a v, x = .ref a ∧ DGet H a y (some v) ∧ Q v H
theorem ix_X {X : Cx} (hu : X.A.units + 1 < cLine) : IxR X (rIxX X.K) := ix_seq.or (ix_dict hu)
theorem atI_map {α β : Type} (f : α → β) (xs : List α) (i : Int) : atI (xs.map f) i = (atI xs i).map f := by
  unfold atI
  rw [List.length_map]
  cases ixN xs.length i with
  | none => rfl
  | some j => simp [List.getElem?_map]
theorem snd_ixX : Snd2 K (rIxX K) oIxX := ⟨fun {F H x y vx vy P Q} fh rx ry h k => by
  unfold oIxX at h
  split at h
  · obtain ⟨n, e, h⟩ := asA_of h
    refine .inl (.inl (snd_ixL.run (P := P) fh rx ry ?_ k))
    show asA (atI _ _) _
    rw [atI_map, e]
    exact h
  · exact .inl (.inl (snd_ixL.run fh rx ry (by exact h) k))
  · exact .inl (.inr (.inl (snd_ixT.run fh rx ry (by exact h) k)))
  · exact .inl (.inr (.inr (snd_ixS.run fh rx ry (by exact h) k)))
  · obtain ⟨key, rfl, h⟩ := asKey_of h ry
    obtain ⟨d, e, h⟩ := asA_of h
    obtain ⟨a, kvs, l, rfl, hl, kr, h⟩ := asDic_of (d := .dic _ _) (P := fun kvs => kvs = _) rfl rx
    subst h
    rcases kr.get (k := key) with ⟨d', v, g1, g2, g3⟩ | ⟨g1, g2⟩
    · rw [e] at g1; cases g1
      exact .inr ⟨a, v, rfl, .inl ⟨l, key, (Same.rd fh hl), rfl, g2.symm⟩, k.flat fh (by assumption) g3⟩
    · rw [e] at g1; cases g1
  · exact h.elim⟩
/-! ### in, not in -/
def eqvD : D → D → Bool
  | .non, .non => true
  | .bl a, .bl b => a == b
  | .bl a, .int b => (if a then 1 else 0) == b
  | .int a, .bl b => a == (if b then 1 else 0)
  | .int a, .int b => a == b
  | .str a, .str b => a == b
  | _, _ => false
theorem flat_rep {F : Hp} {x : D} {v : V} (r : Rep K F x v) (f : flatD x = true) : flatV v = true := by
  cases x <;> first | (cases (show false = true from f)) | (cases (show v = _ from r); rfl)
theorem eqv_rep {F : Hp} {x y : D} {vx vy : V} (rx : Rep K F x vx) (ry : Rep K F y vy) (fx : flatD x = true) (fy : flatD y = true) : eqV vx vy = eqvD x y := by
  cases x <;> first | (cases (show false = true from fx)) | (cases (show vx = _ from rx); cases y <;> first | (cases (show false = true from fy)) | (cases (show vy = _ from ry); rfl))
def inD (x : D) (xs : List D) : Bool := xs.any fun y => eqvD y x
theorem in_rep {F : Hp} {x : D} {vx : V} (rx : Rep K F x vx) (fx : flatD x = true) : ∀ {xs : List D} {vs : List V}, Reps K F xs vs → xs.all flatD = true → vs.all flatV = true ∧ inV vx vs = inD x xs
  | [], _, r, _ => by cases (show _ = [] from r); exact ⟨rfl, rfl⟩
  | d :: ds, _, r, f => by
    obtain ⟨v, vs, rfl, r1, r2⟩ := r
    rw [List.all_cons, Bool.and_eq_true] at f
    obtain ⟨h1, h2⟩ := in_rep rx fx r2 f.2
    refine ⟨by rw [List.all_cons, flat_rep r1 f.1, h1]; rfl, ?_⟩
    unfold inV inD at h2 ⊢
    rw [List.any_cons, List.any_cons, h2, eqv_rep r1 rx f.1 fx]
def inS (i j : Str) : Bool := match i.cps.toList with
  | [c] => decide (c ∈ j.cps.toList)
  | _ => !(Builtin.Str.occurrences j i 0 j.length 1).isEmpty
def oInX (neg : Bool) : O2 := fun x y P => match y with
  | .str j => asS x fun i => P (.d (.bl (xor neg (inS i j))))
  | .cel ns => flatD x = true ∧ P (.d (.bl (xor neg (inD x (ns.map .int)))))
  | .lst xs => flatD x = true ∧ xs.all flatD = true ∧ P (.d (.bl (xor neg (inD x xs))))
  | .tup xs => flatD x = true ∧ xs.all flatD = true ∧ P (.d (.bl (xor neg (inD x xs))))
  | .dic ks xs => asKey x fun k => P (.d (.bl (xor neg (vget (ks.zip xs) k).isSome)))
  | _ => False
abbrev rInX (K : PySem.W.Frag) (neg : Bool) : R2 := fun x y H Q => (∃ i j, x = .str i ∧ y = .str j ∧ Q (.bl (xor neg (inS i j))) H) ∨ rIn K neg x y H Q ∨ ∃ a o, y = .ref a ∧ DGet H a x o ∧ Q (.bl (xor neg o.isSome)) H
theorem xor_t (b : Bool) : xor true b = !b := by cases b <;> rfl
theorem xor_f (b : Bool) : xor false b = b := by cases b <;> rfl
theorem inS_one (i j : Str) : (∃ c, i = ⟨#[c]⟩ ∧ inS i j = decide (c ∈ j.cps.toList)) ∨ inS i j = !(Builtin.Str.occurrences j i 0 j.length 1).isEmpty := by
  unfold inS
  split
  · rename_i c e
    exact .inl ⟨c, one_sign e, rfl⟩
  · exact .inr rfl
theorem op_inStr {X : Cx} : OpR X (compareOp .In) (fun x y H Q => ∃ i j, x = .str i ∧ y = .str j ∧ Q (.bl (inS i j)) H) := by
  intro pins s σ H x y v u Q I rx ry h
  obtain ⟨i, j, rfl, rfl, q⟩ := h
  rcases inS_one i j with ⟨c, rfl, e⟩ | e
  · exact op_in_sign pins s σ H _ _ v u Q I rx ry ⟨c, j, rfl, rfl, by rw [← e]; exact q⟩
  · exact op_in_str pins s σ H _ _ v u Q I rx ry ⟨i, j, rfl, rfl, by rw [← e]; exact q⟩
theorem op_notInStr {X : Cx} : OpR X (compareOp .NotIn) (fun x y H Q => ∃ i j, x = .str i ∧ y = .str j ∧ Q (.bl (!inS i j)) H) := by
  intro pins s σ H x y v u Q I rx ry h
  obtain ⟨i, j, rfl, rfl, q⟩ := h
  rcases inS_one i j with ⟨c, rfl, e⟩ | e
  · exact op_notIn_sign pins s σ H _ _ v u Q I rx ry ⟨c, j, rfl, rfl, by rw [← e]; exact q⟩
  · exact op_notIn_str pins s σ H _ _ v u Q I rx ry ⟨i, j, rfl, rfl, by rw [← e]; exact q⟩
theorem op_inX {X : Cx} (hu : X.A.units + 1 < cLine) : OpR X (compareOp .In) (rInX X.K false) := by
  refine OpR.or (fun pins s σ H x y v u Q I rx ry h => ?_) (OpR.or op_in_seq fun pins s σ H x y v u Q I rx ry h => ?_)
  · obtain ⟨i, j, e1, e2, q⟩ := h
    exact op_inStr pins s σ H x y v u Q I rx ry ⟨i, j, e1, e2, by rw [xor_f] at q; exact q⟩
  · obtain ⟨a, o, rfl, g, q⟩ := h
    obtain rfl : u = Value.ref a := ry
    rw [xor_f] at q
    exact d_in hu I g rx fun s3 I3 => ⟨.bl o.isSome, H, I3, rfl, q⟩
theorem op_notInX {X : Cx} (hu : X.A.units + 1 < cLine) : OpR X (compareOp .NotIn) (rInX X.K true) := by
  refine OpR.or (fun pins s σ H x y v u Q I rx ry h => ?_) (OpR.or op_notIn_seq fun pins s σ H x y v u Q I rx ry h => ?_)
  · obtain ⟨i, j, e1, e2, q⟩ := h
    exact op_notInStr pins s σ H x y v u Q I rx ry ⟨i, j, e1, e2, by rw [xor_t] at q; exact q⟩
  · obtain ⟨a, o, rfl, g, q⟩ := h
    obtain rfl : u = Value.ref a := ry
    rw [xor_t] at q
    exact d_notIn hu I g rx fun s3 I3 => ⟨.bl (!o.isSome), H, I3, rfl, q⟩
theorem snd_inX {neg : Bool} : Snd2 K (rInX K neg) (oInX neg) := ⟨fun {F H x y vx vy P Q} fh rx ry h k => by
  have seq : ∀ {xs : List D} {a : Addr} {vs : List V}, (SqL K F a vs ∨ SqT K F a vs) → Reps K F xs vs → vy = .ref a → flatD x = true → xs.all flatD = true → P (.d (.bl (xor neg (inD x xs)))) → rInX K neg vx vy H Q := fun {xs a vs} hq r e f1 f2 h => by
    obtain ⟨h1, h2⟩ := in_rep rx f1 r f2
    refine .inr (.inl ⟨a, vs, e, sq_same fh hq, flat_rep rx f1, h1, ?_⟩)
    rw [h2]
    have e2 : (if neg then !inD x xs else inD x xs) = xor neg (inD x xs) := by cases neg <;> simp
    rw [e2]
    exact k.flat (d := .bl _) fh h rfl
  unfold oInX at h
  split at h
  · obtain ⟨i, rfl, h⟩ := asS_of h rx
    cases (show vy = _ from ry)
    exact .inl ⟨i, _, rfl, rfl, k.flat (d := .bl _) fh h rfl⟩
  · obtain ⟨a, rfl, h1⟩ := ry
    refine seq (.inl h1) (Reps.ints.mpr rfl) rfl h.1 (List.all_eq_true.mpr fun d hd => ?_) h.2
    obtain ⟨n, _, rfl⟩ := List.mem_map.mp hd
    rfl
  · obtain ⟨a, vs, rfl, h1, h2⟩ := ry
    exact seq (.inl (SqL.of h1)) h2 rfl h.1 h.2.1 h.2.2
  · obtain ⟨a, vs, rfl, h1, h2⟩ := ry
    exact seq (.inr h1) h2 rfl h.1 h.2.1 h.2.2
  · obtain ⟨key, rfl, h⟩ := asKey_of h rx
    obtain ⟨a, kvs, l, rfl, hl, kr, q⟩ := asDic_of (d := .dic _ _) (P := fun kvs => kvs = _) rfl ry
    subst q
    refine .inr (.inr ⟨a, valV l key, rfl, .inl ⟨l, key, (Same.rd fh hl), rfl, rfl⟩, ?_⟩)
    have e : ∀ kvs : List (Key × D), KRep K F kvs l → (valV l key).isSome = (vget kvs key).isSome := fun kvs kr => by
      rcases kr.get (k := key) with ⟨d', v, g1, g2, g3⟩ | ⟨g1, g2⟩ <;> rw [g1, g2] <;> rfl
    rw [e _ kr]
    exact k.flat (d := .bl _) fh h rfl
  · exact h.elim⟩
/-! ### loops over a list, a tuple, a text -/
def iX (K : PySem.W.Frag) (te : TE) : TI := fun σ H R => te σ H fun v H1 => (∃ a, v = .ref a ∧ (∃ xs, SqL K H1 a xs) ∧ R (Itl K a) H1) ∨ (∃ a, v = .ref a ∧ (∃ xs, SqT K H1 a xs) ∧ R (Itt K a) H1) ∨ ∃ x, v = .str x ∧ R (Its x) H1
theorem pi_X {X : Cx} {tg e : Expr} {te : TE} (he : PE X e te) : PI X tg e (iX X.K te) := by
  refine ⟨fun pins s σ H R I h => ?_⟩
  refine L2.thn (he.run pins s σ H _ I h) fun v s1 ⟨y, H1, I1, r1, q⟩ => ?_
  rcases q with ⟨a, rfl, ⟨xs, hq⟩, q⟩ | ⟨a, rfl, ⟨xs, hq⟩, q⟩ | ⟨x, rfl, q⟩
  · cases r1
    obtain ⟨its, rv, p, hz⟩ := I1.list hq
    refine wpAny_pyIter_list p.isList ?_
    refine ⟨s1.heap.objs.size, [s1.heap.objs.size], _, _, H1, rfl, I1.kept (t' := s1.toks) fun b o e => Heap.get?_push_of_some _ e, turn_list a _, ⟨_, Heap.get?_push_size _ rfl, rfl, rfl⟩, fun b hb => ?_, q⟩
    have e : b = s1.heap.objs.size := by simpa using hb
    subst e
    exact I1.fpOk (Nat.le_refl _) (I1.hok.fresh (Nat.le_refl _))
  · cases r1
    obtain ⟨its, rv, p, hz⟩ := I1.tuple hq
    refine wpAny_pyIter_tuple (show s1.heap.IsTuple a its.toArray from p) ?_
    refine ⟨s1.heap.objs.size, [s1.heap.objs.size], _, _, H1, rfl, I1.kept (t' := s1.toks) fun b o e => Heap.get?_push_of_some _ e, turn_tuple a _, ⟨_, Heap.get?_push_size _ rfl, rfl, rfl⟩, fun b hb => ?_, q⟩
    have e : b = s1.heap.objs.size := by simpa using hb
    subst e
    exact I1.fpOk (Nat.le_refl _) (I1.hok.fresh (Nat.le_refl _))
  · obtain ⟨t, rfl⟩ := r1
    cases ha : x.cps.all (· < 128)
    · exact wpAny_pyIter_wide ha (pi_one (tk := s1.toks) I1 _ (turn_str _ x t "str_iterator" (.inr rfl)) ⟨_, Heap.get?_push_size _ rfl, rfl, rfl⟩ q)
    · exact wpAny_pyIter_ascii ha (pi_one (tk := s1.toks) I1 _ (turn_str _ x t "str_ascii_iterator" (.inl rfl)) ⟨_, Heap.get?_push_size _ rfl, rfl, rfl⟩ q)
/-- what a loop over the data walks -/
def itemsOf (d : D) (P : List D → Prop) : Prop := match d with
  | .cel ns => P (ns.map .int)
  | .lst xs => P xs
  | .tup xs => P xs
  | .str z => P ((signs z).map .str)
  | _ => False
def wiX (we : W) : WA := fun ρ P => we ρ fun s ρ1 => itemsOf s.fz fun xs => P xs ρ1
theorem di_X {X : Cx} {Z : Zx} {tg e : Expr} {te : TE} {we : W} (he : DE K X Z e te we) (hK : X.K = K := by rfl) : DI K X Z tg e (iX K te) (wiX we) := by
  refine ⟨by subst hK; exact pi_X he.pe, fun {H0 F0 F H ρ σ Q P} zo rl h k => he.run zo rl h fun s1 ρ1 F1 H1 v1 h1 f1 r1 sr1 fr1 => ?_⟩
  obtain ⟨F2, f2, r2, rp2⟩ := r1.freeze sr1 fr1
  generalize s1.fz = d at h1 rp2
  have lst : ∀ {a : Addr} {vs : List V} {xs : List D}, v1 = .ref a → SqL K F2 a vs → Reps K F2 xs vs → P xs ρ1 → iX K (fun σ H Q => Q v1 H1) σ H1 Q := fun {a vs xs} e s1 s2 h1 => by
    refine .inl ⟨a, e, ⟨vs, r2.fh.seq s1⟩, k xs ρ1 F2 H1 _ h1 (f1.trans f2) r2 (ItOk.pure (fun {i F H} f g l => ?_) (fun {i F H} f g l => ?_) fun {i F H H2 x} f g y l => ?_)⟩
    · have hl : i < vs.length := by rw [s2.len]; exact l
      exact ⟨vs, vs[i], g.seq (f.seq s1), List.getElem?_eq_getElem hl⟩
    · exact ⟨vs, g.seq (f.seq s1), by rw [s2.len]; exact l⟩
    · obtain ⟨rfl, y⟩ := y
      obtain ⟨d, e, r⟩ := s2.get' (y vs (g.seq (f.seq s1)))
      exact ⟨d, e, rfl, Rep.mono f _ _ r⟩
  unfold itemsOf at h1
  split at h1
  · obtain ⟨a, e, s1⟩ := rp2
    exact lst e s1 (Reps.ints.mpr rfl) h1
  · obtain ⟨a, vs, e, s1, s2⟩ := rp2
    exact lst e (SqL.of s1) s2 h1
  · obtain ⟨a, vs, e, s1, s2⟩ := rp2
    refine .inr (.inl ⟨a, e, ⟨vs, Same.sqT r2.fh s1⟩, k _ ρ1 F2 H1 _ h1 (f1.trans f2) r2 (ItOk.pure (fun {i F H} f g l => ?_) (fun {i F H} f g l => ?_) fun {i F H H2 x} f g y l => ?_)⟩)
    · have hl : i < vs.length := by rw [s2.len]; exact l
      exact ⟨vs, vs[i], Same.sqT g (Same.sqT f s1), List.getElem?_eq_getElem hl⟩
    · exact ⟨vs, Same.sqT g (Same.sqT f s1), by rw [s2.len]; exact l⟩
    · obtain ⟨rfl, y⟩ := y
      obtain ⟨d, e, r⟩ := s2.get' (y vs (Same.sqT g (Same.sqT f s1)))
      exact ⟨d, e, rfl, Rep.mono f _ _ r⟩
  · rename_i z
    have hlen : ((signs z).map D.str).length = z.cps.size := by simp [signs]
    refine .inr (.inr ⟨z, rp2, k _ ρ1 F2 H1 _ h1 (f1.trans f2) r2 (ItOk.pure (fun {i F H} f g l => ?_) (fun {i F H} f g l => ?_) fun {i F H H2 x} f g y l => ?_)⟩)
    · show i < z.cps.size
      omega
    · show z.cps.size ≤ i
      omega
    · obtain ⟨rfl, c, hc, rfl⟩ := y
      refine ⟨.str ⟨#[c]⟩, ?_, rfl, rfl⟩
      have hc' : z.cps.toList[i]? = some c := by rw [Array.getElem?_toList]; exact hc
      simp [signs, hc']
  · exact h1.elim
/-! ### list(x) -/
theorem vals_at : ∀ {us : List Value} {vs : List V}, us.length = vs.length → (∀ (j : Nat) (v : Value), us[j]? = some v → ∃ x, vs[j]? = some x ∧ RelV x v) → Vals vs us
  | [], [], _, _ => .nil
  | u :: us, q :: vs, hl, h => by
    obtain ⟨x, e1, e2⟩ := h 0 u rfl
    have e1' : q = x := Option.some.inj e1
    subst e1'
    exact .cons e2 (vals_at (Nat.succ.inj hl) fun j v e => h (j + 1) v e)
  | [], _ :: _, hl, _ => nomatch hl
  | _ :: _, [], hl, _ => nomatch hl
theorem call_listS {X : Cx} (hc : X.calm = true) : CallR X (.type "list") (fun xs H Q => ∃ z, xs = [.str z] ∧ z.length ≤ sizeLine ∧ ∀ p, H p = none → Q (.ref p) (upd H p (.lst ((signs z).map V.str)))) := by
  intro pins s σ H xs us Q I r h
  obtain ⟨z, rfl, hz, q⟩ := h
  obtain ⟨u, rfl, t, rfl⟩ := vals1 r
  refine call_list_str (I.ok.hd hc) z t (hn := hz) fun h' tk acc c' hk hD hacc => ?_
  have hv : Vals ((signs z).map V.str) acc.toList := by
    refine vals_at (by rw [Array.length_toList, hacc.1]; simp [signs]) fun j v e => ?_
    obtain ⟨c, u, e1, rfl⟩ := hacc.2 j v (by rw [← Array.getElem?_toList]; exact e)
    have hc' : z.cps.toList[j]? = some c := by rw [Array.getElem?_toList]; exact e1
    exact ⟨.str ⟨#[c]⟩, by simp [signs, hc'], u, rfl⟩
  exact ⟨.ref s.heap.objs.size, upd H s.heap.objs.size (.lst ((signs z).map V.str)), I.laid (t' := tk) hk (Nat.le_refl _)
    (show ObjOk X.prog X.w _ _ _ (.lst ((signs z).map V.str)) from ⟨by simp [signs]; exact hz, acc.toList, c', hv, by rw [Array.toArray_toList]; exact hD⟩), rfl, q _ (I.hok.fresh (Nat.le_refl _))⟩
end
end DL
/-! DL10: the rules in short, as the printed derivations name them. -/
namespace DL
open PySem L2
theorem units1 {n : Nat} (h : n + 64 < cLine) : n + 1 < cLine := by omega
section
variable {K : PySem.W.Frag} {X : Cx} {Z : Zx} {pos p p2 : Pos} {a b e : Expr} {ta tb te : TE} {wa wb we : W}
theorem de_plus (ha : DE K X Z a ta wa) (hb : DE K X Z b tb wb) (hK : X.K = K := by rfl) : DE K X Z (.BinOp a .Add b pos) (tOp (rPlus K) ta tb) (wOp oPlus wa wb) := by subst hK; exact de_op op_plus snd_plus ha hb
theorem de_eqX (hu : X.A.units + 64 < cLine) (ha : DE K X Z a ta wa) (hb : DE K X Z b tb wb) (hm : behindInMarks .Eq b = false := by rfl) (hK : X.K = K := by rfl) : DE K X Z (.Compare a [.Eq] [b] pos) (tOp (rEqX K) ta tb) (wOp oEqX wa wb) := by subst hK; exact de_cmp (op_eqX hu) snd_eqX hm ha hb
theorem de_neX (hu : X.A.units + 64 < cLine) (ha : DE K X Z a ta wa) (hb : DE K X Z b tb wb) (hm : behindInMarks .NotEq b = false := by rfl) (hK : X.K = K := by rfl) : DE K X Z (.Compare a [.NotEq] [b] pos) (tOp (rNeX K) ta tb) (wOp oNeX wa wb) := by subst hK; exact de_cmp (op_neX hu) snd_neX hm ha hb
theorem de_ltX (hu : X.A.units + 64 < cLine) (ha : DE K X Z a ta wa) (hb : DE K X Z b tb wb) (hm : behindInMarks .Lt b = false := by rfl) : DE K X Z (.Compare a [.Lt] [b] pos) (tOp rLtX ta tb) (wOp oLtX wa wb) := de_cmp op_ltX snd_cmp hm ha hb
theorem de_leX (hu : X.A.units + 64 < cLine) (ha : DE K X Z a ta wa) (hb : DE K X Z b tb wb) (hm : behindInMarks .LtE b = false := by rfl) : DE K X Z (.Compare a [.LtE] [b] pos) (tOp rLeX ta tb) (wOp oLeX wa wb) := de_cmp op_leX snd_cmp hm ha hb
theorem de_gtX (hu : X.A.units + 64 < cLine) (ha : DE K X Z a ta wa) (hb : DE K X Z b tb wb) (hm : behindInMarks .Gt b = false := by rfl) : DE K X Z (.Compare a [.Gt] [b] pos) (tOp rGtX ta tb) (wOp oGtX wa wb) := de_cmp op_gtX snd_cmp hm ha hb
theorem de_geX (hu : X.A.units + 64 < cLine) (ha : DE K X Z a ta wa) (hb : DE K X Z b tb wb) (hm : behindInMarks .GtE b = false := by rfl) : DE K X Z (.Compare a [.GtE] [b] pos) (tOp rGeX ta tb) (wOp oGeX wa wb) := de_cmp op_geX snd_cmp hm ha hb
theorem de_inX (hu : X.A.units + 64 < cLine) (ha : DE K X Z a ta wa) (hb : DE K X Z b tb wb) (hm : behindInMarks .In b = false := by rfl) (hK : X.K = K := by rfl) : DE K X Z (.Compare a [.In] [b] pos) (tOp (rInX K false) ta tb) (wOp (oInX false) wa wb) := by subst hK; exact de_cmp (op_inX (units1 hu)) snd_inX hm ha hb
theorem de_notInX (hu : X.A.units + 64 < cLine) (ha : DE K X Z a ta wa) (hb : DE K X Z b tb wb) (hm : behindInMarks .NotIn b = false := by rfl) (hK : X.K = K := by rfl) : DE K X Z (.Compare a [.NotIn] [b] pos) (tOp (rInX K true) ta tb) (wOp (oInX true) wa wb) := by subst hK; exact de_cmp (op_notInX (units1 hu)) snd_inX hm ha hb
theorem dt_eqX (hu : X.A.units + 64 < cLine) (ha : DE K X Z a ta wa) (hb : DE K X Z b tb wb) (hm : behindInMarks .Eq b = false := by rfl) (hK : X.K = K := by rfl) : DT K X Z (.Compare a [.Eq] [b] pos) (tTest (tOp (rEqX K) ta tb)) (wB (wOp oEqX wa wb)) := by subst hK; exact dt_cmp (op_eqX hu) snd_eqX hm ha hb
theorem dt_neX (hu : X.A.units + 64 < cLine) (ha : DE K X Z a ta wa) (hb : DE K X Z b tb wb) (hm : behindInMarks .NotEq b = false := by rfl) (hK : X.K = K := by rfl) : DT K X Z (.Compare a [.NotEq] [b] pos) (tTest (tOp (rNeX K) ta tb)) (wB (wOp oNeX wa wb)) := by subst hK; exact dt_cmp (op_neX hu) snd_neX hm ha hb
theorem dt_ltX (hu : X.A.units + 64 < cLine) (ha : DE K X Z a ta wa) (hb : DE K X Z b tb wb) (hm : behindInMarks .Lt b = false := by rfl) : DT K X Z (.Compare a [.Lt] [b] pos) (tTest (tOp rLtX ta tb)) (wB (wOp oLtX wa wb)) := dt_cmp op_ltX snd_cmp hm ha hb
theorem dt_leX (hu : X.A.units + 64 < cLine) (ha : DE K X Z a ta wa) (hb : DE K X Z b tb wb) (hm : behindInMarks .LtE b = false := by rfl) : DT K X Z (.Compare a [.LtE] [b] pos) (tTest (tOp rLeX ta tb)) (wB (wOp oLeX wa wb)) := dt_cmp op_leX snd_cmp hm ha hb
theorem dt_gtX (hu : X.A.units + 64 < cLine) (ha : DE K X Z a ta wa) (hb : DE K X Z b tb wb) (hm : behindInMarks .Gt b = false := by rfl) : DT K X Z (.Compare a [.Gt] [b] pos) (tTest (tOp rGtX ta tb)) (wB (wOp oGtX wa wb)) := dt_cmp op_gtX snd_cmp hm ha hb
theorem dt_geX (hu : X.A.units + 64 < cLine) (ha : DE K X Z a ta wa) (hb : DE K X Z b tb wb) (hm : behindInMarks .GtE b = false := by rfl) : DT K X Z (.Compare a [.GtE] [b] pos) (tTest (tOp rGeX ta tb)) (wB (wOp oGeX wa wb)) := dt_cmp op_geX snd_cmp hm ha hb
theorem dt_inX (hu : X.A.units + 64 < cLine) (ha : DE K X Z a ta wa) (hb : DE K X Z b tb wb) (hm : behindInMarks .In b = false := by rfl) (hK : X.K = K := by rfl) : DT K X Z (.Compare a [.In] [b] pos) (tTest (tOp (rInX K false) ta tb)) (wB (wOp (oInX false) wa wb)) := by subst hK; exact dt_cmp (op_inX (units1 hu)) snd_inX hm ha hb
theorem dt_notInX (hu : X.A.units + 64 < cLine) (ha : DE K X Z a ta wa) (hb : DE K X Z b tb wb) (hm : behindInMarks .NotIn b = false := by rfl) (hK : X.K = K := by rfl) : DT K X Z (.Compare a [.NotIn] [b] pos) (tTest (tOp (rInX K true) ta tb)) (wB (wOp (oInX true) wa wb)) := by subst hK; exact dt_cmp (op_notInX (units1 hu)) snd_inX hm ha hb
theorem de_ixX (hu : X.A.units + 64 < cLine) (ha : DE K X Z a ta wa) (hb : DE K X Z b tb wb) (hs : PlainIx b := by exact fun _ _ => rfl) (hK : X.K = K := by rfl) : DE K X Z (.Subscript a b pos) (tOp (rIxX K) ta tb) (wOp oIxX wa wb) := by subst hK; exact de_ix (ix_X (units1 hu)) snd_ixX hs ha hb
def oListX : OL := fun ds P => match ds with
  | [.lst xs] => P (.ol xs)
  | [.tup xs] => P (.ol xs)
  | [.str z] => z.length ≤ sizeLine ∧ P (.ol ((signs z).map .str))
  | _ => False
abbrev qListX (K : PySem.W.Frag) : List V → Hp → VK → Prop := fun xs H Q => qList K xs H Q ∨ ∃ z, xs = [.str z] ∧ z.length ≤ sizeLine ∧ ∀ p, H p = none → Q (.ref p) (upd H p (.lst ((signs z).map V.str)))
theorem snd_listX : SndL K (qListX K) oListX := ⟨fun {F H ds vs P Q} fh r h k => by
  unfold oListX at h
  split at h
  · exact .inl (snd_list.run fh r h k)
  · exact .inl (snd_list.run fh r h k)
  · obtain ⟨v, _, rfl, rfl, rfl⟩ := r
    exact .inr ⟨_, rfl, h.1, fun p n => k.newL fh h.2 (Reps.strs.mpr rfl) n⟩
  · exact h.elim⟩
theorem de_listX (hc : X.calm = true) (m : X.mg "list" = none) (ha : DE K X Z a ta wa) (hg : Gl X "list" := by rfl) (hs : starEach [a] X.env = [(false, eval a X.env)] := by rfl) (hK : X.K = K := by rfl) : DE K X Z (.Call (.Name "list" p) [a] [] pos) (tCB (qListX K) (tCons ta tNil)) (wCB oListX (wCons wa wNil)) := by
  subst hK
  exact de_callTy (call_list_of.or (call_listS hc)) snd_listX hg m (by decide +kernel) (da_cons ha da_nil hs) (hn := by decide) (hdb := by decide) (he := hs) (hpl := rfl)
theorem de_all (m : X.mg "all" = none) (hc : CallR X (.builtin "all") (rAll X.K)) (ha : DE K X Z a ta wa) (hg : Gl X "all" := by rfl) (hs : starEach [a] X.env = [(false, eval a X.env)] := by rfl) (hK : X.K = K := by rfl) : DE K X Z (.Call (.Name "all" p) [a] [] pos) (tCB (rAll K) (tCons ta tNil)) (wCB oAll (wCons wa wNil)) := by
  subst hK
  exact de_callB hc snd_all hg m (by decide +kernel) (da_cons ha da_nil hs) (hn := by decide) (hdb := by decide) (he := hs) (hpl := rfl)
theorem de_any (m : X.mg "any" = none) (hc : CallR X (.builtin "any") (rAny X.K)) (ha : DE K X Z a ta wa) (hg : Gl X "any" := by rfl) (hs : starEach [a] X.env = [(false, eval a X.env)] := by rfl) (hK : X.K = K := by rfl) : DE K X Z (.Call (.Name "any" p) [a] [] pos) (tCB (rAny K) (tCons ta tNil)) (wCB oAny (wCons wa wNil)) := by
  subst hK
  exact de_callB hc snd_any hg m (by decide +kernel) (da_cons ha da_nil hs) (hn := by decide) (hdb := by decide) (he := hs) (hpl := rfl)
abbrev qMin : List V → Hp → VK → Prop := fun xs H Q => ∃ i j, xs = [.int i, .int j] ∧ Q (.int (if j < i then j else i)) H
abbrev qMax : List V → Hp → VK → Prop := fun xs H Q => ∃ i j, xs = [.int i, .int j] ∧ Q (.int (if j > i then j else i)) H
theorem de_min (hc : X.calm = true) (m : X.mg "min" = none) (ha : DE K X Z a ta wa) (hb : DE K X Z b tb wb) (hg : Gl X "min" := by rfl) (hs : starEach [a, b] X.env = (false, eval a X.env) :: starEach [b] X.env := by rfl) (hs2 : starEach [b] X.env = [(false, eval b X.env)] := by rfl) (hpl : (backTo pos (starEach [b] X.env)).any (·.1) = false := by rfl) :
    DE K X Z (.Call (.Name "min" p) [a, b] [] pos) (tCB qMin (tCons ta (tCons tb tNil))) (wCB oMin (wCons wa (wCons wb wNil))) := de_callB (call_min2 hc) snd_min hg m (by decide +kernel) (da_cons ha (da_cons hb da_nil hs2) hs) (hn := by decide) (hdb := by decide) (he := hs) (hpl := hpl)
theorem de_max (hc : X.calm = true) (m : X.mg "max" = none) (ha : DE K X Z a ta wa) (hb : DE K X Z b tb wb) (hg : Gl X "max" := by rfl) (hs : starEach [a, b] X.env = (false, eval a X.env) :: starEach [b] X.env := by rfl) (hs2 : starEach [b] X.env = [(false, eval b X.env)] := by rfl) (hpl : (backTo pos (starEach [b] X.env)).any (·.1) = false := by rfl) :
    DE K X Z (.Call (.Name "max" p) [a, b] [] pos) (tCB qMax (tCons ta (tCons tb tNil))) (wCB oMax (wCons wa (wCons wb wNil))) := de_callB (call_max2 hc) snd_max hg m (by decide +kernel) (da_cons ha (da_cons hb da_nil hs2) hs) (hn := by decide) (hdb := by decide) (he := hs) (hpl := hpl)
end
section
variable {K : PySem.W.Frag} {X : Cx} {Z : Zx} {pos spos py : Pos} {te : TE} {we : W}
variable {elt tg iter : Expr} {ifs : List Expr} {scope : Scope} {own : List (Str × Nat)} {wi : TI} {wa : WA} {g : TG} {wg : WG} {tt : TT} {wt : WT}
/-- name = [..] on one line, the name a local -/
theorem ds_setLc (i : Nat) {y : Str} (hc : X.calm = true) (hN : X.N.Nodup) (hi : DI K X Z tg iter wi wa) (ok : BlkOk X.N X.env.scope scope own)
    (hg : ∀ (s : Shared) (H : Hp) (C : Addr) (cl : List (Str × Addr)) (fp : List Addr), DGb K (X.blk s H scope (compEnvC scope cl C X.env) fp) Z tg (own.map (·.2)) g wg) (ht : ∀ (s : Shared) (H : Hp) (C : Addr) (cl : List (Str × Addr)) (fp : List Addr), DTs K (X.blk s H scope (compEnvC scope cl C X.env) fp) Z ifs tt wt)
    (he : ∀ (s : Shared) (H : Hp) (C : Addr) (cl : List (Str × Addr)) (fp : List Addr), DE K (X.blk s H scope (compEnvC scope cl C X.env) fp) Z elt te we) (hs : ∀ x, foldedSetIterable iter X.env x = pure x := by intro _; rfl)
    (hy : X.N[i]? = some y := by rfl) (hyl : X.env.scope.names.lookup y = some .local := by rfl) (hk : X.env.scope.kind = .function := by rfl) (hl : (py.line == pos.line) = true := by rfl)
    (ha : (scope.names.any fun (n, k) => n == y && (k == .local || k == .cell)) = false := by rfl) :
    DS K X Z (.Assign [.Name y py] (.ListComp elt [⟨tg, iter, ifs, 0⟩] scope pos) spos) (tAsg (tLc wi g tt te (own.map (·.2))) (gName i)) (wSet i (wLc wa wg wt we (own.map (·.2)))) :=
  ⟨ps_setLc hc hN hy hyl (sw_true hk hyl hl ha) hi.pe ok (fun s H C cl fp => (hg s H C cl fp).pe) (fun s H C cl fp => (ht s H C cl fp).pe) (fun s H C cl fp => (he s H C cl fp).pe) hs,
    run_set (run_lc hi.run (hg X.s_0 (fun _ => none) 0 [] []).run (ht X.s_0 (fun _ => none) 0 [] []).run (he X.s_0 (fun _ => none) 0 [] []).run)⟩
theorem ds_asgLc (i : Nat) {y : Str} (hc : X.calm = true) (hN : X.N.Nodup) (hi : DI K X Z tg iter wi wa) (ok : BlkOk X.N X.env.scope scope own)
    (hg : ∀ (s : Shared) (H : Hp) (C : Addr) (cl : List (Str × Addr)) (fp : List Addr), DGb K (X.blk s H scope (compEnvC scope cl C X.env) fp) Z tg (own.map (·.2)) g wg) (ht : ∀ (s : Shared) (H : Hp) (C : Addr) (cl : List (Str × Addr)) (fp : List Addr), DTs K (X.blk s H scope (compEnvC scope cl C X.env) fp) Z ifs tt wt)
    (he : ∀ (s : Shared) (H : Hp) (C : Addr) (cl : List (Str × Addr)) (fp : List Addr), DE K (X.blk s H scope (compEnvC scope cl C X.env) fp) Z elt te we) (hs : ∀ x, foldedSetIterable iter X.env x = pure x := by intro _; rfl)
    (hy : X.N[i]? = some y := by rfl) (hyl : X.env.scope.names.lookup y = some .local := by rfl) (hk : X.env.scope.kind = .function := by rfl) (hl : (py.line == pos.line) = true := by rfl)
    (ha : (scope.names.any fun (n, k) => n == y && (k == .local || k == .cell)) = false := by rfl) :
    DS K X Z (.Assign [.Name y py] (.ListComp elt [⟨tg, iter, ifs, 0⟩] scope pos) spos) (tAsg (tLc wi g tt te (own.map (·.2))) (gName i)) (wAsg (wLc wa wg wt we (own.map (·.2))) (wgName i)) :=
  ⟨ps_setLc hc hN hy hyl (sw_true hk hyl hl ha) hi.pe ok (fun s H C cl fp => (hg s H C cl fp).pe) (fun s H C cl fp => (ht s H C cl fp).pe) (fun s H C cl fp => (he s H C cl fp).pe) hs,
    fun {H0 F0 F H ρ σ DD Dh} zo rl ee h => (run_lc hi.run (hg X.s_0 (fun _ => none) 0 [] []).run (ht X.s_0 (fun _ => none) 0 [] []).run (he X.s_0 (fun _ => none) 0 [] []).run) zo rl h fun s ρ' F' H' v p f r sr fr => by
      obtain ⟨F2, f2, r2, rp2⟩ := r.freeze sr fr
      exact (dg_name (K := K) (X := X) (Z := Z) (pos := py) i hN hy (Or.inl hyl) (.inr hyl)).run zo r2 rp2 p fun ρ3 F3 H3 σ3 p3 f3 r3 => ee.nx _ _ _ _ p3 (f.trans (f2.trans f3)) r3⟩
end
end DL
/-! MA1: forms as sorted rows of unlike products; their truth by a row; uniqueness; sums, products. Plain Lean. -/
namespace DL
open PySem L2

def sg (p : Str) : List Nat := p.cps.toList
theorem sg_inj {p q : Str} (h : sg p = sg q) : p = q := str_ext h
theorem sg_append (p q : Str) : sg (p ++ q) = sg p ++ sg q := by
  show (p.cps ++ q.cps).toList = _
  rw [Array.toList_append]; rfl
theorem sg_len (p : Str) : p.length = (sg p).length := by simp [Str.length, sg]
theorem sg_signs (p : Str) : (signs p).map sg = (sg p).map fun c => [c] := by
  rw [signs, List.map_map]; rfl
theorem glue_fold (sep : Str) (hs : sg sep = []) : ∀ (xs : List Str) (a : Array Nat), (xs.foldl (fun acc p => acc ++ sep.cps ++ p.cps) a).toList = a.toList ++ (xs.map sg).flatten
  | [], a => by simp
  | x :: xs, a => by
    rw [List.foldl_cons, glue_fold sep hs xs]
    have : sep.cps.toList = [] := hs
    simp [this, sg]
theorem sg_join0 {sep : Str} (hs : sg sep = []) : ∀ xs : List Str, sg (Txt.join sep xs) = (xs.map sg).flatten
  | [] => rfl
  | x :: xs => by
    show (xs.foldl (fun acc p => acc ++ sep.cps ++ p.cps) x.cps).toList = _
    rw [glue_fold sep hs]; rfl

/-- strictly rising rows of one order -/
theorem lt_le_ne {a b : Str} : (sg a < sg b) ↔ (leS a b = true ∧ a ≠ b) := by
  unfold leS
  rw [decide_eq_true_iff]
  constructor
  · intro h
    refine ⟨List.le_of_lt h, fun e => ?_⟩
    subst e
    exact List.lt_irrefl _ h
  · rintro ⟨h1, h2⟩
    by_cases h : sg a < sg b
    · exact h
    · exact absurd (sg_inj (List.le_antisymm h1 (List.not_lt.mp h))) h2

def LET : List Nat := [97, 98, 99, 112, 113, 114, 120, 121, 122]
structure Prd (p : Str) : Prop where
  up : (sg p).Pairwise (· < ·)
  le : ∀ c ∈ sg p, c ∈ LET
structure Frm (f : List Str) : Prop where
  so : f.Pairwise fun a b => leS a b = true
  nd : f.Nodup
  prd : ∀ p ∈ f, Prd p
def tr (r : Nat → Bool) (p : Str) : Bool := (sg p).all r
def val (r : Nat → Bool) (f : List Str) : Bool := decide (f.countP (tr r) % 2 = 1)

/-! ### toggling -/
def tog (l : List Str) (x : Str) : List Str := if x ∈ l then l.filter (fun y => decide (y ≠ x)) else l ++ [x]
def odds (xs : List Str) : List Str := xs.foldl tog []
theorem tog_nodup {l : List Str} {x : Str} (h : l.Nodup) : (tog l x).Nodup := by
  unfold tog
  split
  · exact h.filter _
  · rename_i hx
    rw [List.nodup_append]
    refine ⟨h, by simp, fun a ha b hb => ?_⟩
    have : b = x := by simpa using hb
    subst this
    exact fun e => hx (e ▸ ha)
theorem countP_tog {t : Str → Bool} {l : List Str} {x : Str} (h : l.Nodup) : (tog l x).countP t % 2 = (l.countP t + (if t x = true then 1 else 0)) % 2 := by
  unfold tog
  split
  · rename_i hx
    have e : l.filter (fun y => decide (y ≠ x)) = l.erase x := by
      rw [h.erase_eq_filter]
      apply List.filter_congr
      intro y _
      simp [bne, BEq.beq]
    rw [e, (List.perm_cons_erase hx).countP_eq t, List.countP_cons]
    split <;> omega
  · rw [List.countP_append, List.countP_singleton]
theorem foldl_tog : ∀ (xs l : List Str), l.Nodup → (xs.foldl tog l).Nodup ∧ ∀ t : Str → Bool, (xs.foldl tog l).countP t % 2 = (l.countP t + xs.countP t) % 2
  | [], l, h => ⟨h, fun t => by simp⟩
  | x :: xs, l, h => by
    obtain ⟨h1, h2⟩ := foldl_tog xs (tog l x) (tog_nodup h)
    refine ⟨h1, fun t => ?_⟩
    rw [List.foldl_cons, h2 t, List.countP_cons]
    have := countP_tog (t := t) (x := x) h
    omega
theorem odds_nodup (xs : List Str) : (odds xs).Nodup := (foldl_tog xs [] List.nodup_nil).1
theorem countP_odds (t : Str → Bool) (xs : List Str) : (odds xs).countP t % 2 = xs.countP t % 2 := by
  have := (foldl_tog xs [] List.nodup_nil).2 t
  rw [List.countP_nil, Nat.zero_add] at this
  exact this
theorem tog_sub {l : List Str} {x y : Str} (h : y ∈ tog l x) : y ∈ l ∨ y = x := by
  unfold tog at h
  split at h
  · exact .inl (List.mem_filter.mp h).1
  · rcases List.mem_append.mp h with h | h
    · exact .inl h
    · exact .inr (by simpa using h)
theorem foldl_tog_sub {y : Str} : ∀ (xs l : List Str), y ∈ xs.foldl tog l → y ∈ l ∨ y ∈ xs
  | [], l, h => .inl h
  | x :: xs, l, h => by
    rcases foldl_tog_sub xs (tog l x) h with h | h
    · rcases tog_sub h with h | h
      · exact .inl h
      · exact .inr (h ▸ List.mem_cons_self)
    · exact .inr (List.mem_cons_of_mem _ h)
theorem odds_sub {y : Str} {xs : List Str} (h : y ∈ odds xs) : y ∈ xs := (foldl_tog_sub xs [] h).elim (fun z => by simp at z) id
theorem odds_len (xs : List Str) : (odds xs).length ≤ xs.length := (odds_nodup xs).length_le_of_subset fun y h => odds_sub h

/-- what gathered comes to -/
def gath (xs : List Str) : List Str := srt (odds xs)
theorem gath_frm {xs : List Str} (h : ∀ p ∈ xs, Prd p) : Frm (gath xs) :=
  ⟨srt_pw _, (srt_perm _).nodup_iff.mpr (odds_nodup xs), fun p hp => h p (odds_sub ((srt_perm _).mem_iff.mp hp))⟩
theorem val_gath (r : Nat → Bool) (xs : List Str) : val r (gath xs) = decide (xs.countP (tr r) % 2 = 1) := by
  unfold val gath
  rw [(srt_perm _).countP_eq, countP_odds]
theorem val_append (r : Nat → Bool) (xs ys : List Str) : decide ((xs ++ ys).countP (tr r) % 2 = 1) = xor (val r xs) (val r ys) := by
  unfold val
  rw [List.countP_append]
  rcases Nat.mod_two_eq_zero_or_one (xs.countP (tr r)) with h | h <;> rcases Nat.mod_two_eq_zero_or_one (ys.countP (tr r)) with g | g <;> simp [Nat.add_mod, h, g]

/-! ### uniqueness -/
theorem all_mem {c : Nat} {p : List Nat} : p.all (fun x => decide (x ∈ p)) = true := List.all_eq_true.mpr fun x hx => decide_eq_true hx
/-- rising rows with the same members are the same -/
theorem up_ext : ∀ {p q : List Nat}, p.Pairwise (· < ·) → q.Pairwise (· < ·) → (∀ c, c ∈ p ↔ c ∈ q) → p = q := fun {p q} hp hq h => by
  have np : p.Nodup := hp.imp fun h => Nat.ne_of_lt h
  have nq : q.Nodup := hq.imp fun h => Nat.ne_of_lt h
  exact ((List.perm_ext_iff_of_nodup np nq).mpr h).eq_of_pairwise (fun a b _ _ h1 h2 => absurd h1 (Nat.lt_asymm h2)) hp hq
theorem sub_len {p q : Str} (hp : Prd p) (hq : Prd q) (h : ∀ c ∈ sg p, c ∈ sg q) (hl : (sg q).length ≤ (sg p).length) : p = q := by
  have np : (sg p).Nodup := hp.up.imp fun h => Nat.ne_of_lt h
  have nq : (sg q).Nodup := hq.up.imp fun h => Nat.ne_of_lt h
  refine sg_inj (up_ext hp.up hq.up fun c => ⟨h c, fun hc => Classical.byContradiction fun hn => ?_⟩)
  have hnd : (c :: sg p).Nodup := List.nodup_cons.mpr ⟨hn, np⟩
  have := hnd.length_le_of_subset (l₂ := sg q) fun x hx => (List.mem_cons.mp hx).elim (fun e => e ▸ hc) (h x)
  simp only [List.length_cons] at this
  omega
/-- a form that is not empty is true by some row -/
theorem least : ∀ {f : List Str}, f ≠ [] → ∃ p ∈ f, ∀ q ∈ f, (sg p).length ≤ (sg q).length
  | [], h => absurd rfl h
  | [p], _ => ⟨p, by simp, fun q hq => by simp at hq; subst hq; exact Nat.le_refl _⟩
  | p :: x :: r, _ => by
    obtain ⟨q, hq, h⟩ := least (f := x :: r) (by simp)
    by_cases hl : (sg p).length ≤ (sg q).length
    · refine ⟨p, by simp, fun y hy => ?_⟩
      rcases List.mem_cons.mp hy with e | e
      · subst e; exact Nat.le_refl _
      · exact Nat.le_trans hl (h y e)
    · refine ⟨q, List.mem_cons_of_mem _ hq, fun y hy => ?_⟩
      rcases List.mem_cons.mp hy with e | e
      · subst e; omega
      · exact h y e
/-- the row of a product's letters -/
def rowP (p : Str) : Nat → Bool := fun c => decide (c ∈ sg p)
theorem tr_rowP {p q : Str} : tr (rowP p) q = true ↔ ∀ c ∈ sg q, c ∈ sg p := by
  simp [tr, rowP, List.all_eq_true]
theorem val_least {f : List Str} (hn : f.Nodup) (hp : ∀ p ∈ f, Prd p) {p : Str} (hm : p ∈ f) (hl : ∀ q ∈ f, (∀ c ∈ sg q, c ∈ sg p) → (sg p).length ≤ (sg q).length) : val (rowP p) f = true := by
  have : f.countP (tr (rowP p)) = f.count p := by
    unfold List.count
    apply List.countP_congr
    intro q hq
    rw [tr_rowP]
    constructor
    · intro h
      have := sub_len (hp q hq) (hp p hm) h (hl q hq h)
      subst this
      exact beq_self_eq_true _
    · intro h c hc
      have e : q = p := by simpa using h
      subst e; exact hc
  unfold val
  have h3 := List.nodup_iff_count.mp hn p
  have h4 := List.count_pos_iff.mpr hm
  have h5 : f.count p = 1 := by omega
  rw [this, h5]
  rfl
theorem uniq {f g : List Str} (hf : Frm f) (hg : Frm g) (h : ∀ r, val r f = val r g) : f = g := by
  have he : odds (f ++ g) = [] := Classical.byContradiction fun hne => by
    obtain ⟨p, hm, hl⟩ := least hne
    have hp : ∀ q ∈ odds (f ++ g), Prd q := fun q hq => (List.mem_append.mp (odds_sub hq)).elim (hf.prd q) (hg.prd q)
    have h1 := val_least (odds_nodup _) hp hm fun q hq _ => hl q hq
    have h2 := val_append (rowP p) f g
    rw [← countP_odds, h] at h2
    unfold val at h1 h2
    rw [h1] at h2
    simp at h2
  have hc : ∀ p, p ∈ f ↔ p ∈ g := fun p => by
    have h1 := countP_odds (fun x => x == p) (f ++ g)
    rw [he, List.countP_nil, List.countP_append] at h1
    have h2 : (f.count p + g.count p) % 2 = 0 := h1.symm
    have h3 := List.nodup_iff_count.mp hf.nd p
    have h4 := List.nodup_iff_count.mp hg.nd p
    constructor
    · intro hx
      have := List.count_pos_iff.mpr hx
      exact List.count_pos_iff.mp (by omega)
    · intro hx
      have := List.count_pos_iff.mpr hx
      exact List.count_pos_iff.mp (by omega)
  exact ((List.perm_ext_iff_of_nodup hf.nd hg.nd).mpr hc).eq_of_pairwise (fun a b _ _ h1 h2 => leS_anti h1 h2) hf.so hg.so

/-! ### how many -/
def subs : List Nat → List (List Nat)
  | [] => [[]]
  | c :: cs => subs cs ++ (subs cs).map (c :: ·)
theorem mem_subs : ∀ {L p : List Nat}, L.Pairwise (· < ·) → p.Pairwise (· < ·) → (∀ c ∈ p, c ∈ L) → p ∈ subs L
  | [], p, _, _, h => by
    cases p with
    | nil => simp [subs]
    | cons c r => exact absurd (h c List.mem_cons_self) (by simp)
  | d :: L, p, hL, hp, h => by
    rw [List.pairwise_cons] at hL
    cases p with
    | nil => exact List.mem_append.mpr (.inl (mem_subs hL.2 .nil (by simp)))
    | cons c r =>
      rw [List.pairwise_cons] at hp
      by_cases e : c = d
      · subst e
        refine List.mem_append.mpr (.inr (List.mem_map.mpr ⟨r, mem_subs hL.2 hp.2 fun x hx => ?_, rfl⟩))
        rcases List.mem_cons.mp (h x (List.mem_cons_of_mem _ hx)) with e | e
        · exact absurd (hp.1 x hx) (by omega)
        · exact e
      · have hc : c ∈ L := (List.mem_cons.mp (h c List.mem_cons_self)).elim (fun z => absurd z e) id
        have hdc := hL.1 c hc
        refine List.mem_append.mpr (.inl (mem_subs hL.2 (List.pairwise_cons.mpr hp) fun x hx => ?_))
        rcases List.mem_cons.mp (h x hx) with z | z
        · rcases List.mem_cons.mp hx with y | y
          · exact absurd (y.symm.trans z) e
          · have := hp.1 x y
            omega
        · exact z
theorem LET_up : LET.Pairwise (· < ·) := by decide
theorem Frm.len {f : List Str} (h : Frm f) : f.length ≤ 512 := by
  have h1 : (f.map sg).Nodup := by
    rw [List.nodup_iff_pairwise_ne, List.pairwise_map]
    exact (List.nodup_iff_pairwise_ne.mp h.nd).imp fun z e => z (sg_inj e)
  have h2 := h1.length_le_of_subset (l₂ := subs LET) fun x hx => by
    obtain ⟨p, hp, rfl⟩ := List.mem_map.mp hx
    exact mem_subs LET_up (h.prd p hp).up (h.prd p hp).le
  rw [List.length_map] at h2
  exact Nat.le_trans h2 (by decide +kernel)
theorem Prd.len {p : Str} (h : Prd p) : (sg p).length ≤ 9 := by
  have n : (sg p).Nodup := h.up.imp fun h => Nat.ne_of_lt h
  exact n.length_le_of_subset (l₂ := LET) h.le

/-! ### the letters of a text, in order, each once -/
def one (c : Nat) : Str := ⟨#[c]⟩
theorem sg_one (c : Nat) : sg (one c) = [c] := rfl
theorem one_inj {a b : Nat} (h : one a = one b) : a = b := by
  have := congrArg sg h
  simpa [sg_one] using this
theorem signs_eq (z : Str) : signs z = (sg z).map one := rfl
theorem leS_one {a b : Nat} : leS (one a) (one b) = true ↔ a ≤ b := by
  unfold leS
  rw [decide_eq_true_iff]
  show [a] ≤ [b] ↔ _
  rw [List.cons_le_cons_iff]
  constructor
  · rintro (h | h) <;> omega
  · intro h
    rcases Nat.lt_or_eq_of_le h with h | h
    · exact .inl h
    · exact .inr ⟨h, by simp⟩
theorem ones_of {L : List Str} (h : ∀ x ∈ L, ∃ c, x = one c) : ∃ cs : List Nat, L = cs.map one := by
  induction L with
  | nil => exact ⟨[], rfl⟩
  | cons x L ih =>
    obtain ⟨c, rfl⟩ := h x List.mem_cons_self
    obtain ⟨cs, rfl⟩ := ih fun y hy => h y (List.mem_cons_of_mem _ hy)
    exact ⟨c :: cs, rfl⟩
theorem flat_ones (cs : List Nat) : ((cs.map one).map sg).flatten = cs := by
  induction cs with
  | nil => rfl
  | cons c cs ih =>
    rw [List.map_cons, List.map_cons, List.flatten_cons, ih]; rfl
/-- the letters in z, rising, each once -/
def lets (z : Str) : Str := Txt.join "" (srtset (signs z))
theorem sg_nil : sg "" = [] := by decide +kernel
theorem srtset_signs (z : Str) : ∃ cs : List Nat, srtset (signs z) = cs.map one ∧ cs.Pairwise (· < ·) ∧ ∀ c, c ∈ cs ↔ c ∈ sg z := by
  obtain ⟨cs, e⟩ := ones_of (L := srtset (signs z)) fun x hx => by
    have := mem_srtset.mp hx
    rw [signs_eq] at this
    obtain ⟨c, _, rfl⟩ := List.mem_map.mp this
    exact ⟨c, rfl⟩
  refine ⟨cs, e, ?_, fun c => ?_⟩
  · have h1 : (cs.map one).Pairwise fun a b => leS a b = true := by rw [← e]; exact srt_pw _
    have h2 : (cs.map one).Nodup := by rw [← e]; exact nodup_srtset _
    rw [List.pairwise_map] at h1
    rw [List.nodup_iff_pairwise_ne, List.pairwise_map] at h2
    refine (h1.and h2).imp fun h => ?_
    have := leS_one.mp h.1
    have h3 : ∀ {a b : Nat}, one a ≠ one b → a ≠ b := fun z e => z (e ▸ rfl)
    exact Nat.lt_of_le_of_ne this (h3 h.2)
  · have h1 : one c ∈ srtset (signs z) ↔ one c ∈ signs z := mem_srtset
    rw [e, signs_eq] at h1
    constructor
    · intro h
      obtain ⟨d, hd, ed⟩ := List.mem_map.mp (h1.mp (List.mem_map.mpr ⟨c, h, rfl⟩))
      exact one_inj ed ▸ hd
    · intro h
      obtain ⟨d, hd, ed⟩ := List.mem_map.mp (h1.mpr (List.mem_map.mpr ⟨c, h, rfl⟩))
      exact one_inj ed ▸ hd
theorem sg_lets (z : Str) : (sg (lets z)).Pairwise (· < ·) ∧ ∀ c, c ∈ sg (lets z) ↔ c ∈ sg z := by
  obtain ⟨cs, e, h1, h2⟩ := srtset_signs z
  have : sg (lets z) = cs := by
    unfold lets
    rw [sg_join0 sg_nil, e, flat_ones]
  rw [this]
  exact ⟨h1, h2⟩
theorem prd_lets {z : Str} (h : ∀ c ∈ sg z, c ∈ LET) : Prd (lets z) := ⟨(sg_lets z).1, fun c hc => h c (((sg_lets z).2 c).mp hc)⟩
theorem tr_lets (r : Nat → Bool) (z : Str) : tr r (lets z) = (sg z).all r := by
  unfold tr
  rw [Bool.eq_iff_iff, List.all_eq_true, List.all_eq_true]
  exact ⟨fun h c hc => h c (((sg_lets z).2 c).mpr hc), fun h c hc => h c (((sg_lets z).2 c).mp hc)⟩
def bothF (p q : Str) : Str := lets (p ++ q)
theorem prd_both {p q : Str} (hp : Prd p) (hq : Prd q) : Prd (bothF p q) := prd_lets fun c hc => by
  rw [sg_append] at hc
  exact (List.mem_append.mp hc).elim (hp.le c) (hq.le c)
theorem tr_both (r : Nat → Bool) (p q : Str) : tr r (bothF p q) = (tr r p && tr r q) := by
  rw [bothF, tr_lets, sg_append, List.all_append]; rfl

/-! ### the operations on forms -/
def addedF (a b : List Str) : List Str := gath (a ++ b)
def pairsF (a b : List Str) : List Str := a.flatMap fun p => b.map (bothF p)
def mulF (a b : List Str) : List Str := gath (pairsF a b)
def oneF : List Str := [""]
def oppF (a : List Str) : List Str := addedF a oneF
def joinF (a b : List Str) : List Str := addedF (addedF a b) (mulF a b)
theorem prd_nil : Prd "" := ⟨by rw [sg_nil]; exact .nil, by rw [sg_nil]; simp⟩
theorem frm_nil : Frm [] := ⟨.nil, .nil, by simp⟩
theorem frm_one : Frm oneF := ⟨by simp [oneF], by simp [oneF], fun p hp => by simp [oneF] at hp; subst hp; exact prd_nil⟩
theorem frm_added {a b : List Str} (ha : Frm a) (hb : Frm b) : Frm (addedF a b) := gath_frm fun p hp => (List.mem_append.mp hp).elim (ha.prd p) (hb.prd p)
theorem prd_pairs {a b : List Str} (ha : ∀ p ∈ a, Prd p) (hb : ∀ p ∈ b, Prd p) : ∀ p ∈ pairsF a b, Prd p := fun p hp => by
  obtain ⟨x, hx, h⟩ := List.mem_flatMap.mp hp
  obtain ⟨y, hy, rfl⟩ := List.mem_map.mp h
  exact prd_both (ha x hx) (hb y hy)
theorem frm_mul {a b : List Str} (ha : Frm a) (hb : Frm b) : Frm (mulF a b) := gath_frm (prd_pairs ha.prd hb.prd)
theorem frm_opp {a : List Str} (ha : Frm a) : Frm (oppF a) := frm_added ha frm_one
theorem frm_join {a b : List Str} (ha : Frm a) (hb : Frm b) : Frm (joinF a b) := frm_added (frm_added ha hb) (frm_mul ha hb)
theorem val_added (r : Nat → Bool) (a b : List Str) : val r (addedF a b) = xor (val r a) (val r b) := by rw [addedF, val_gath, val_append]
theorem countP_pairs (r : Nat → Bool) (b : List Str) : ∀ a : List Str, (pairsF a b).countP (tr r) = a.countP (tr r) * b.countP (tr r)
  | [] => by simp [pairsF]
  | p :: a => by
    show ((p :: a).flatMap _).countP _ = _
    rw [List.flatMap_cons, List.countP_append, List.countP_cons, show (a.flatMap fun p => b.map (bothF p)).countP (tr r) = _ from countP_pairs r b a, List.countP_map]
    by_cases h : tr r p = true
    · rw [if_pos h, Nat.add_mul, Nat.one_mul, Nat.add_comm]
      congr 1
      apply List.countP_congr
      intro q _
      simp [Function.comp, tr_both, h]
    · rw [if_neg h, Nat.add_zero]
      have : b.countP (tr r ∘ bothF p) = 0 := by
        rw [List.countP_eq_zero]
        intro q _
        simp [Function.comp, tr_both, h]
      rw [this, Nat.zero_add]
theorem val_mul (r : Nat → Bool) (a b : List Str) : val r (mulF a b) = (val r a && val r b) := by
  rw [mulF, val_gath, countP_pairs]
  unfold val
  rcases Nat.mod_two_eq_zero_or_one (a.countP (tr r)) with h | h <;> rcases Nat.mod_two_eq_zero_or_one (b.countP (tr r)) with g | g <;> simp [Nat.mul_mod, h, g]
theorem val_nil (r : Nat → Bool) : val r [] = false := rfl
theorem val_one (r : Nat → Bool) : val r oneF = true := by
  have : tr r "" = true := by unfold tr; rw [sg_nil]; rfl
  simp [val, oneF, this]
theorem val_opp (r : Nat → Bool) (a : List Str) : val r (oppF a) = !val r a := by rw [oppF, val_added, val_one]; cases val r a <;> rfl
theorem val_join (r : Nat → Bool) (a b : List Str) : val r (joinF a b) = (val r a || val r b) := by
  rw [joinF, val_added, val_added, val_mul]; cases val r a <;> cases val r b <;> rfl
theorem pairs_len (b : List Str) : ∀ a : List Str, (pairsF a b).length = a.length * b.length
  | [] => by simp [pairsF]
  | p :: a => by
    show ((p :: a).flatMap _).length = _
    rw [List.flatMap_cons, List.length_append, List.length_map, show (a.flatMap fun p => b.map (bothF p)).length = _ from pairs_len b a, List.length_cons, Nat.succ_mul, Nat.add_comm]
end DL
/-! DL11: isinstance, dict(..), dict displays, get, slices, remove. -/
namespace DL
open PySem L2
section
variable {K : PySem.W.Frag} {X : Cx} {Z : Zx} {pos p p2 p3 apos cpos : Pos} {a b e o : Expr} {ta tb te to : TE} {wa wb we wo : W} {i : Nat}
/-! ### isinstance of the built-in kinds -/
def tyD : D → Option String
  | .non => some "NoneType" | .bl _ => some "bool" | .int _ => some "int" | .str _ => some "str" | .cel _ => some "list" | .lst _ => some "list" | .tup _ => some "tuple" | .dic _ _ => some "dict"
  | _ => none
def isiB (t c : String) : Option Bool := match t, c with
  | "NoneType", "bool" => some false | "NoneType", "int" => some false | "NoneType", "str" => some false | "NoneType", "list" => some false | "NoneType", "tuple" => some false | "NoneType", "dict" => some false
  | "bool", "bool" => some true | "bool", "int" => some true | "bool", "str" => some false | "bool", "list" => some false | "bool", "tuple" => some false | "bool", "dict" => some false
  | "int", "bool" => some false | "int", "int" => some true | "int", "str" => some false | "int", "list" => some false | "int", "tuple" => some false | "int", "dict" => some false
  | "str", "bool" => some false | "str", "int" => some false | "str", "str" => some true | "str", "list" => some false | "str", "tuple" => some false | "str", "dict" => some false
  | "list", "bool" => some false | "list", "int" => some false | "list", "str" => some false | "list", "list" => some true | "list", "tuple" => some false | "list", "dict" => some false
  | "tuple", "bool" => some false | "tuple", "int" => some false | "tuple", "str" => some false | "tuple", "list" => some false | "tuple", "tuple" => some true | "tuple", "dict" => some false
  | "dict", "bool" => some false | "dict", "int" => some false | "dict", "str" => some false | "dict", "list" => some false | "dict", "tuple" => some false | "dict", "dict" => some true
  | _, _ => none
theorem isiB_ok {t c : String} {b : Bool} (h : isiB t c = some b) : PySem.W.kitOne K (.type t) (.type c) = some b := by
  unfold isiB at h
  split at h <;> first | (cases h; done) | (cases h; with_unfolding_all rfl)
theorem ty_rep {F : Hp} {x : D} {v : V} {t : String} (r : Rep K F x v) (e : tyD x = some t) : TyX K F v (.type t) := by
  cases x <;> first | (cases e; done) | skip
  · cases e; cases (show v = _ from r); exact .base .non
  · cases e; cases (show v = _ from r); exact .base (.bl _)
  · cases e; cases (show v = _ from r); exact .base (.int _)
  · cases e; cases (show v = _ from r); exact .base (.str _)
  · cases e
    obtain ⟨a, rfl, h⟩ := r
    rcases h with (h | ⟨o, h⟩) | ⟨o, its, n, h, hc, _⟩
    · exact .base (.lst h)
    · exact .base (.frz h)
    · exact .kList h hc
  · cases e
    obtain ⟨a, vs, rfl, h, _⟩ := r
    exact .base (.lst h)
  · cases e
    obtain ⟨a, vs, rfl, h, _⟩ := r
    rcases h with (h | ⟨o, h⟩) | ⟨o, its, n, h, hc, _⟩
    · exact .base (.tup h)
    · exact .fTuple h
    · exact .kTuple h hc
  · cases e
    obtain ⟨a, vs, rfl, h, _⟩ := r
    rcases h with h | ⟨o, h⟩
    · exact .base (.dK h)
    · exact .fDict h
def oIsi : OL := fun ds P => match ds with
  | [x, .ty c] => asA (tyD x) fun t => asA (isiB t c) fun b => P (.d (.bl b))
  | _ => False
theorem snd_isi : SndL K (rIsi K) oIsi := ⟨fun {F H ds vs P Q} fh r h k => by
  unfold oIsi at h
  split at h
  · obtain ⟨v, _, rfl, rx, c, _, rfl, rc, rfl⟩ := r
    cases (show c = _ from rc)
    obtain ⟨t, e, h⟩ := asA_of h
    obtain ⟨b, e2, h⟩ := asA_of h
    exact ⟨v, _, _, _, b, rfl, .ty _, ty_rep (Rep.mono fh _ _ rx) e, isiB_ok e2, k.flat (d := .bl b) fh h rfl⟩
  · exact h.elim⟩
theorem de_ty {x : Str} {n : String} (hm : X.mg x = none) (hv : bootBuiltins x = some (.type n)) (hg : Gl X x := by rfl) (hn : x ≠ "__name__" := by decide) (hd : (x == ("__debug__" : Str)) = false := by decide) : DE K X Z (.Name x pos) (tC (.ty n)) (wC (.ty n)) := de_c (pe_bltn hg hm hv rfl hn hd) fun _ => rfl
theorem de_isi (m : X.mg "isinstance" = none) (ha : DE K X Z a ta wa) (hb : DE K X Z b tb wb) (hg : Gl X "isinstance" := by rfl) (hs : starEach [a, b] X.env = (false, eval a X.env) :: starEach [b] X.env := by rfl) (hs2 : starEach [b] X.env = [(false, eval b X.env)] := by rfl) (hpl : (backTo pos (starEach [b] X.env)).any (·.1) = false := by rfl) (hK : X.K = K := by rfl) :
    DE K X Z (.Call (.Name "isinstance" p) [a, b] [] pos) (tCB (rIsi K) (tCons ta (tCons tb tNil))) (wCB oIsi (wCons wa (wCons wb wNil))) := by
  subst hK
  exact de_callB call_isi snd_isi hg m (by decide +kernel) (da_cons ha (da_cons hb da_nil hs2) hs) (hn := by decide) (hdb := by decide) (he := hs) (hpl := hpl)
/-! ### dict(d) -/
def oDict : OL := fun ds P => match ds with
  | [.dic ks xs] => P (.od (ks.zip xs))
  | _ => False
abbrev qDict : List V → Hp → VK → Prop := fun xs H Q => ∃ (a : Addr) (kvs : List (Key × V)), xs = [.ref a] ∧ Rd H a (.dK kvs) ∧ ∀ p, H p = none → Q (.ref p) (upd H p (.dK kvs))
theorem snd_dict : SndL K qDict oDict := ⟨fun {F H ds vs P Q} fh r h k => by
  unfold oDict at h
  split at h
  · obtain ⟨v, _, rfl, rx, rfl⟩ := r
    obtain ⟨a, kvs, l, rfl, hl, kr, q⟩ := asDic_of (d := .dic _ _) (P := fun kvs => kvs = _) rfl rx
    subst q
    exact ⟨a, l, rfl, Same.rd fh hl, fun p n => k.newD fh h kr.1 kr.2 n⟩
  · exact h.elim⟩
theorem de_dict (m : X.mg "dict" = none) (ha : DE K X Z a ta wa) (hg : Gl X "dict" := by rfl) (hs : starEach [a] X.env = [(false, eval a X.env)] := by rfl) : DE K X Z (.Call (.Name "dict" p) [a] [] pos) (tCB qDict (tCons ta tNil)) (wCB oDict (wCons wa wNil)) :=
  de_callTy call_dictD snd_dict hg m (by decide +kernel) (da_cons ha da_nil hs) (hn := by decide) (hdb := by decide) (he := hs) (hpl := rfl)
/-! ### {k: v} -/
def wDisp1 (wk wv : W) : W := fun ρ P => wk (dataR ρ) fun k ρ1 => wv ρ1 fun v _ => asKey k.fz fun key => P (.od [(key, v.fz)]) ρ
theorem run_disp1 {tk tv : TE} {wk wv : W} (hk : RunE K Z tk wk) (hv : RunE K Z tv wv) : RunE K Z (tDisp [(tk, tv)]) (wDisp1 wk wv) := fun {H0 F0 F H ρ σ Q P} zo rl h k => fun p n => by
  have hn : Same H (upd H p (.dK [])) := Same.new n
  have r1 : Rel K (upd H p (.dK [])) F F (upd H p (.dK [])) (dataR ρ) σ := rl.view (Same.refl _) (rl.fh.trans hn) []
  have zo1 : Z.Ok K (upd H p (.dK [])) F := (zo.on rl.h rl.f rl.nw).on hn (Same.refl _) fun _ q => .inl q
  refine hk zo1 r1 h fun s1 ρ1 F1 H1 v1 h1 f1 r2 sr1 fr1 => ?_
  obtain ⟨F2, f2, r3, rp2⟩ := r2.freeze sr1 fr1
  refine hv zo1 r3 h1 fun s3 ρ3 F3 H3 v3 h3 f3 r4 sr3 fr3 => ?_
  obtain ⟨F4, f4, r5, rp4⟩ := r4.freeze sr3 fr3
  obtain ⟨key, rfl, h3⟩ := asKey_of h3 (Rep.mono (f3.trans f4) _ _ rp2)
  have hp : H3 p = some (.dK []) := r5.h _ _ upd_same
  have f4n : F4 p = none := by
    cases q : F4 p with
    | none => rfl
    | some u =>
      rcases r5.nw p (by rw [q]; exact fun z => nomatch z) with z | z
      · exact absurd (rl.fh.free n) z
      · rw [upd_same] at z; cases z
  have ff : Same F F4 := f1.trans (f2.trans (f3.trans f4))
  have sH : Same H (upd H3 p (.dK [(key, v3)])) := fun b u q => by
    have hb : b ≠ p := fun e => by rw [e, n] at q; cases q
    rw [upd_ne hb]
    exact r5.h _ _ (by rw [upd_ne hb]; exact q)
  have s4 : Same F4 (upd H3 p (.dK [(key, v3)])) := fun b u q => by
    have hb : b ≠ p := fun e => by rw [e, f4n] at q; cases q
    rw [upd_ne hb]
    exact r5.fh _ _ q
  refine ⟨hp, [(key, v3)], rfl, (show 1 ≤ 15 by decide), ?_⟩
  refine (rl.kont (Same.refl _) k) (.od [(key, s3.fz)]) _ F4 _ h3 sH ff s4 (fun b q => ?_) ⟨p, [(key, v3)], rfl, upd_same, rfl, Reps.one rp4, n, f4n⟩
  rcases r5.nw b q with z | z
  · exact .inl z
  · refine .inr ?_
    have hb : b ≠ p := fun e => by rw [e, upd_same] at z; cases z
    rw [upd_ne hb] at z
    exact z
theorem de_disp1 {k v : Expr} {tk tv : TE} {wk wv : W} (hk : DE K X Z k tk wk) (hv : DE K X Z v tv wv) : DE K X Z (.Dict [some k] [v] pos) (tDisp [(tk, tv)]) (wDisp1 wk wv) :=
  ⟨pe_disp (pps_cons hk.pe hv.pe pps_nil) rfl rfl (fun z => nomatch z) (show 1 ≤ 15 by decide), run_disp1 hk.run hv.run⟩
/-! ### slices -/
abbrev WO := R → (Option Int → R → Prop) → Prop
structure DO (K : PySem.W.Frag) (X : Cx) (Z : Zx) (e : Option Expr) (t : TO) (w : WO) : Prop where
  pe : PO X e t
  run : ∀ {H0 F0 F H : Hp} {ρ : R} {σ : St} {Q : Option Int → Hp → Prop} {P : Option Int → R → Prop}, Z.Ok K H0 F0 → Rel K H0 F0 F H ρ σ → w ρ P → (∀ o ρ' F' H', P o ρ' → Same F F' → Rel K H0 F0 F' H' ρ' σ → Q o H') → t σ H Q
def wNoP : WO := fun ρ P => P none ρ
def wPart (we : W) : WO := fun ρ P => we ρ fun s ρ1 => asI s.fz fun i => P (some i) ρ1
theorem do_none : DO K X Z none tNoPart wNoP := ⟨po_none, fun {H0 F0 F H ρ σ Q P} zo rl h k => k _ _ F H h (Same.refl _) rl⟩
theorem do_some (h : DE K X Z e te we) : DO K X Z (some e) (tPart te) (wPart we) := ⟨po_some h.pe, fun {H0 F0 F H ρ σ Q P} zo rl q k => h.run zo rl q fun s1 ρ1 F1 H1 v1 h1 f1 r1 sr1 fr1 => by
  obtain ⟨F2, f2, r2, rp2⟩ := r1.freeze sr1 fr1
  obtain ⟨i, rfl, h1⟩ := asI_of h1 rp2
  exact ⟨i, rfl, k _ _ _ _ h1 (f1.trans f2) r2⟩⟩
def cutD {α : Type} (xs : List α) (lo hi : Option Int) : List α := (xs.drop (HT.sIx xs.length 0 lo)).take (HT.sIx xs.length xs.length hi - HT.sIx xs.length 0 lo)
theorem cut_reps {F : Hp} {xs : List D} {vs : List V} (r : Reps K F xs vs) (lo hi : Option Int) : Reps K F (cutD xs lo hi) (cutV vs lo hi) := by
  unfold cutD cutV
  rw [r.len]
  exact (r.drop _).take _
theorem cut_all {α : Type} {xs : List α} {lo hi : Option Int} (h1 : HT.sIx xs.length 0 lo = 0) (h2 : HT.sIx xs.length xs.length hi = xs.length) : cutD xs lo hi = xs := by
  unfold cutD
  rw [h1, h2, List.drop_zero, Nat.sub_zero, List.take_length]
def oSl (x : D) (lo hi : Option Int) (P : S → Prop) : Prop := match x with
  | .lst xs => P (.ol (cutD xs lo hi))
  | .tup xs => P (.d (.tup (cutD xs lo hi)))
  | .str z => z.length ≤ sizeLine ∧ P (.d (.str (cutS z lo hi)))
  | _ => False
abbrev rSlX' (K : PySem.W.Frag) : V → Option Int → Option Int → Hp → VK → Prop := fun x lo hi H Q => rSlL K x lo hi H Q ∨ rSlA K x lo hi H Q ∨ rSlS x lo hi H Q
theorem sl_X : SlR X (rSlX' X.K) := sl_list.or (sl_tupA.or sl_str)
def wSl (we : W) (wl wh : WO) : W := fun ρ P => we ρ fun s ρ1 => wl ρ1 fun l ρ2 => wh ρ2 fun u ρ3 => oSl s.fz l u fun r => P r ρ3
theorem de_sl {lo hi : Option Expr} {tl th : TO} {wl wh : WO} (he : DE K X Z e te we) (hl : DO K X Z lo tl wl) (hu : DO K X Z hi th wh) (hK : X.K = K := by rfl) : DE K X Z (.Subscript e (.Slice lo hi none p2) pos) (tSl (rSlX' K) te tl th) (wSl we wl wh) := by
  subst hK
  refine ⟨pe_slice sl_X he.pe hl.pe hu.pe, fun {H0 F0 F H ρ σ Q P} zo rl h k => he.run zo rl h fun s1 ρ1 F1 H1 v1 h1 f1 r1 sr1 fr1 => ?_⟩
  obtain ⟨F2, f2, r2, rp2⟩ := r1.freeze sr1 fr1
  refine hl.run zo r2 h1 fun l ρ3 F3 H3 h3 f3 r3 => hu.run zo r3 h3 fun u ρ4 F4 H4 h4 f4 r4 => ?_
  have rp4 := Rep.mono (f3.trans f4) _ _ rp2
  have kk := Rel.kont r4 (f1.trans (f2.trans (f3.trans f4))) k
  unfold oSl at h4
  split at h4
  · rename_i xs e
    rw [e] at rp4
    obtain ⟨a, vs, rfl, h1, h2⟩ := rp4
    exact .inl ⟨a, vs, rfl, SqL.of (r4.fh _ _ h1), fun p n => kk.newL r4.fh h4 (cut_reps h2 l u) n⟩
  · rename_i xs e
    rw [e] at rp4
    obtain ⟨a, vs, rfl, h1, h2⟩ := rp4
    refine .inr (.inl ⟨a, vs, rfl, Same.sqT r4.fh h1, fun z => ?_, fun _ p n => kk.newT r4.fh h4 (cut_reps h2 l u) n⟩)
    rw [h2.len] at z
    rw [cut_all z.1 z.2] at h4
    exact kk.flat r4.fh h4 ⟨a, vs, rfl, h1, h2⟩
  · rename_i z e
    rw [e] at rp4
    cases (show v1 = _ from rp4)
    exact .inr (.inr ⟨z, rfl, h4.1, kk.flat (d := .str _) r4.fh h4.2 rfl⟩)
  · exact h4.elim
/-! ### remove of a text from an own list of texts -/
def eqs (k : Str) (v : Value) : Bool := match v with
  | .str n _ => n == k
  | _ => false
theorem eqs_gives {k : Str} {t : Tok} : ∀ {us : List Value} {ns : List Str}, Vals (ns.map V.str) us → ∀ y ∈ us, MeetsSeq.EqGives y (.str k t) (eqs k y)
  | _, [], r => fun y hy => by cases r; cases hy
  | _, n :: ns, r => fun y hy => by
    rw [List.map_cons] at r
    cases r with
    | cons r1 r2 =>
      obtain ⟨t', rfl⟩ := r1
      rcases List.mem_cons.mp hy with e | e
      · rw [e]; exact PyProof.Rows.eqGives_str n k t' t
      · exact eqs_gives r2 y e
theorem erase_mapS : ∀ (l : List Str) (j : Nat), (l.map V.str).eraseIdx j = (l.eraseIdx j).map V.str
  | [], _ => rfl
  | _ :: _, 0 => rfl
  | x :: l, i + 1 => by
    rw [List.map_cons, List.eraseIdx_cons_succ, List.eraseIdx_cons_succ, erase_mapS l i]; rfl
theorem str_at : ∀ {us : List Value} {ns : List Str} {j : Nat} {n : Str}, Vals (ns.map V.str) us → ns[j]? = some n → ∃ t, us[j]? = some (.str n t)
  | _, [], _, _, _, e => by simp at e
  | _, m :: ns, 0, n, r, e => by
    rw [List.map_cons] at r
    cases r with
    | cons r1 r2 =>
      obtain ⟨t, rfl⟩ := r1
      simp at e; subst e
      exact ⟨t, rfl⟩
  | _, m :: ns, j + 1, n, r, e => by
    rw [List.map_cons] at r
    cases r with
    | cons r1 r2 =>
      obtain ⟨t, h⟩ := str_at (j := j) r2 (by simpa using e)
      exact ⟨t, by simpa using h⟩
def rRemS : V → List V → Hp → VK → Prop := fun x xs H Q => ∃ (l : Addr) (ns : List Str) (k : Str) (j : Nat), x = .ref l ∧ xs = [.str k] ∧ H l = some (.lst (ns.map V.str)) ∧ ns[j]? = some k ∧ (∀ m : Nat, m < j → ns[m]? ≠ some k) ∧ Q .non (upd H l (.lst ((ns.eraseIdx j).map V.str)))
theorem mt_removeS : MtM X "list.remove" rRemS := by
  intro pins s σ H x xs v us Q I rx rxs h
  obtain ⟨l, ns, k, j, rfl, rfl, hH, hj, hno, q⟩ := h
  cases rx
  obtain ⟨u, rfl, ru⟩ := rxs.one
  obtain ⟨t, rfl⟩ := ru
  obtain ⟨z, its, n, r, hl, e⟩ := I.lstM hH
  rw [List.length_map] at hl z
  have hjn : j < ns.length := (List.getElem?_eq_some_iff.mp hj).1
  have hjl : j < its.toArray.size := by rw [List.size_toArray]; omega
  refine call_meets PySem.F.slot_list_remove ⟨_, e, rfl⟩ PySem.F.entry_list_remove (PySem.F.args_list_remove_2 _ _)
    (MeetsSeq.list_remove l its.toArray n (.str k t) (eqs k) (fun y hy => eqs_gives r y (by simpa using hy)) j hjl ?_ ?_ (by rw [List.size_toArray]; omega)) ⟨e, ?_⟩
  · obtain ⟨tj, hjt⟩ := str_at r hj
    obtain ⟨h1, h2⟩ := List.getElem?_eq_some_iff.mp hjt
    have e1 : its.toArray[j] = .str k tj := by simpa using h2
    rw [e1]
    exact beq_self_eq_true k
  · intro m hm hmj
    have hmn : m < ns.length := by omega
    obtain ⟨tm, hmt⟩ := str_at r (List.getElem?_eq_getElem hmn)
    obtain ⟨h1, h2⟩ := List.getElem?_eq_some_iff.mp hmt
    have e1 : its.toArray[m] = .str ns[m] tm := by simpa using h2
    rw [e1]
    refine beq_eq_false_iff_ne.mpr fun e2 => hno m hmj ?_
    rw [List.getElem?_eq_getElem hmn, e2]
  · have rr := r.eraseIdx j
    rw [erase_mapS] at rr
    refine ⟨.non, _, I.lset (its' := its.eraseIdx j) (t' := s.toks) hH e ?_ rr ?_, rfl, q⟩
    · show its.toArray.eraseIdxIfInBounds j = (its.eraseIdx j).toArray
      rw [List.eraseIdxIfInBounds_toArray]
    · rw [List.length_map]
      have z2 := List.length_eraseIdx_le ns j
      omega
def oRemove : List D → List D → (S → List D → Prop) → Prop := fun xs ds P => match ds with
  | [.str k] => asA (txts xs) fun ss => k ∈ ss ∧ P (.d .non) ((ss.erase k).map .str)
  | _ => False
theorem snd_remove : SndM K rRemS oRemove := ⟨fun {F H l vs us xs ds P Q} fh hl n rx rd h k => by
  unfold oRemove at h
  split at h
  · rename_i x
    obtain ⟨v, _, rfl, rfl, rfl⟩ := rd
    obtain ⟨ss, e, hm, h⟩ := asA_of h
    have q := txts_of e rx
    subst q
    have hj : ss.idxOf x < ss.length := List.idxOf_lt_length_of_mem hm
    have e2 : ss.eraseIdx (ss.idxOf x) = ss.erase x := (List.erase_eq_eraseIdx_of_idxOf rfl).symm
    refine ⟨l, ss, x, ss.idxOf x, rfl, rfl, hl, ?_, fun m hm2 e3 => ?_, ?_⟩
    · rw [List.getElem?_eq_getElem hj, List.getElem_idxOf hj]
    · have := List.not_of_lt_findIdx (p := (· == x)) (xs := ss) (i := m) hm2
      obtain ⟨h1, h2⟩ := List.getElem?_eq_some_iff.mp e3
      rw [h2] at this
      simp at this
    · exact k _ _ _ _ h rfl (by rw [e2]; exact Reps.strs.mpr rfl)
  · exact h.elim⟩
theorem de_remove (i : Nat) {x : Str} (ha : DE K X Z e te we) (hN : X.N[i]? = some x := by rfl) (hv : Vis X.env.scope x := by first | exact Or.inl rfl | exact Or.inr (Or.inl rfl) | exact Or.inr (Or.inr rfl)) (hd : (x == ("__debug__" : Str)) = false := by decide)
    (hcd : (x == ("__classdict__" : Str)) = false := by decide) (hs : starEach [e] X.env = [(false, eval e X.env)] := by rfl)
    (hbase : attributeBase (.Name x p) "remove" X.env (eval (.Name x p) X.env) = eval (.Name x p) X.env := by rfl)
    (hfew : ((backTo cpos (starEach [e] X.env)).all (fun x => !x.1) && (backToKw cpos (keywordEach [] X.env)).all (fun x => x.1.isSome)
      && decide (([e] : List Expr).length + ([] : List Keyword).length + (if ([] : List Keyword).isEmpty then 0 else 1) < 30)) = true := by rfl)
    (hline : (apos.endLine == cpos.line) = true := by rfl) (hK : X.K = K := by rfl) :
    DE K X Z (.Call (.Attribute (.Name x p) "remove" apos) [e] [] cpos) (tBM K "list" rRemS (tVar i) (tCons te tNil)) (wM i oRemove (wCons we wNil)) := by
  subst hK
  exact ⟨pe_bm PySem.F.plainAttrs_list PySem.F.slot_list_remove PySem.F.type_list_remove mt_removeS (pe_var hN hv hd hcd) (pa_cons ha.pe pa_nil hs) hbase hfew hline hs rfl, run_M rfl (da_cons ha (da_nil (X := X) (Z := Z)) hs).run snd_remove⟩
end
end DL
/-! DL12: enumerate of a text. -/
namespace DL
open PySem L2
/-- the signs of x with their places, in new pairs -/
def Ites (x : Str) : It :=
  ⟨fun i _ => i < x.cps.size, fun i H v H' => ∃ T c, v = .ref T ∧ H T = none ∧ H' = upd H T (.tup [.int (i : Nat), .str ⟨#[c]⟩]) ∧ x.cps[i]? = some c, fun i _ => x.cps.size ≤ i⟩
theorem turn_enumS {P : Program} {w : World} {K : PySem.W.Frag} {elts : List Expr} {kk : Nat} {tpos : Pos} (e it : Addr) (hne : e ≠ it) (x : Str) (t : Tok) :
    Turn P w K (.Tuple elts kk tpos) (Ites x) [e, it] e (fun i h => ((∃ old, IsEnum h e it ((i : Nat) : Int) old) ∧ h.IsStrIter it (strIterType x) x t i) ∧ i ≤ x.cps.size) where
  mem := by simp
  obj := fun i h st b hb => by
    obtain ⟨⟨⟨old, he⟩, ⟨o, ho, hc, hd⟩⟩, _⟩ := st
    have e' : b = e ∨ b = it := by simpa using hb
    rcases e' with z | z
    · subst z
      exact ⟨_, he, fun v z => by cases z⟩
    · subst z
      exact ⟨o, ho, fun v z => by rw [hd] at z; cases z⟩
  keep := fun i h h' st k => by
    obtain ⟨⟨⟨old, he⟩, hs⟩, hle⟩ := st
    exact ⟨⟨⟨old, k e (by simp) _ he⟩, let ⟨o, ho, r⟩ := hs; ⟨o, k it (by simp) o ho, r⟩⟩, hle⟩
  item := by
    intro X hP hw hK hc i pins s σ H E I hf st hg
    subst hP hw hK
    have hh : X.A.in1.handled = none := by simp [I.ok.hd hc]
    have W := WalksT.enumerateD (A := X.A) (Draws.text (prog := X.prog) (w := X.w) hh it x t) e hne (by simpa using hne) (by simp)
    have hi : i < x.cps.size := hg
    refine W.item i s _ _ hi st.1 fun T vals h' tk hpt hT hIs mid kp => ⟨_, rfl, ?_⟩
    refine W.go elts kk tpos i T { s with heap := h', toks := tk } _ _ mid fun h'' st'' kp2 => ?_
    obtain ⟨tt, u, ⟨c, cu, hc', rfl⟩, rfl⟩ := hpt
    have hTw := W.apart i T h' mid
    obtain ⟨oT, hoT, q1, q2⟩ := hIs
    have hoT2 := kp2 T oT hTw hoT
    have new : ObjOk X.prog X.w (upd H T (.tup [.int (i : Nat), .str ⟨#[c]⟩])) h'' T (.tup [.int (i : Nat), .str ⟨#[c]⟩]) :=
      ⟨by show 2 ≤ sizeLine; decide, [.int (i : Nat) tt, .str ⟨#[c]⟩ cu], .cons ⟨_, rfl⟩ (.cons ⟨_, rfl⟩ .nil), ⟨oT, hoT2, q1, q2⟩⟩
    have I1 : Inv X pins σ (upd H T (.tup [.int (i : Nat), .str ⟨#[c]⟩])) { s with heap := h'', toks := tk } :=
      I.turnedNew (ch := [e, it]) (fun b o hb q => kp2 b o hb (kp b o hb q)) hf hT new
    refine ⟨.ref T, _, I1, rfl, ⟨T, c, rfl, I.hok.fresh hT, rfl, hc'⟩, ⟨st'', hi⟩, fun b hb => ?_⟩
    have hb' : b ≠ T := fun z => hTw (z ▸ hb)
    rw [upd_ne hb']
    exact (hf b hb).1
  done := by
    intro X hP hw hK hc i pins s σ H E I hf st hg
    subst hP hw hK
    have hh : X.A.in1.handled = none := by simp [I.ok.hd hc]
    have W := WalksT.enumerateD (A := X.A) (Draws.text (prog := X.prog) (w := X.w) hh it x t) e hne (by simpa using hne) (by simp)
    have hi : i = x.cps.size := Nat.le_antisymm st.2 hg
    subst hi
    exact W.done s _ _ st.1 fun h' tk kp => ⟨rfl, I.turnedL (t' := tk) (ch := [e, it]) (fun b o hb q => kp b o hb q) hf⟩
  self := fun A i s Q E st h => let ⟨⟨⟨_, he⟩, _⟩, _⟩ := st; wpAny_pyIter_enum he h
def iEnumX (K : PySem.W.Frag) (ta : TA) : TI := fun σ H R => ta σ H fun vs H1 => (∃ a xs, vs = [.ref a] ∧ SqL K H1 a xs ∧ R (Ite K a) H1) ∨ ∃ x, vs = [.str x] ∧ R (Ites x) H1
theorem pi_enumX {X : Cx} {e : Expr} {ta : TA} {p pos tpos : Pos} {elts : List Expr} {kk : Nat} (hg : Gl X "enumerate") (hm : X.mg "enumerate" = none) (ha : PA X [e] ta) (hs : starEach [e] X.env = [(false, eval e X.env)] := by rfl) :
    PI X (.Tuple elts kk tpos) (.Call (.Name "enumerate" p) [e] [] pos) (iEnumX X.K ta) := by
  refine ⟨fun pins s σ H R I h => ?_⟩
  refine PyProof.Rows.Call_ (ld_blt I hg hm PyProof.Rows.boot_enumerate (PyProof.Rows.callWith_type1 (L2.thn (ha.run pos pins s σ H _ I h) fun us s1 ⟨vs, H1, I1, r1, q1⟩ => ?_) hs rfl))
  rcases q1 with ⟨a, xs, ex, hq, q⟩ | ⟨x, ex, q⟩
  · subst ex
    cases r1 with
    | cons r rr =>
      cases rr
      cases r
      obtain ⟨its, rv, p', hz⟩ := I1.list hq
      refine call_enumerate_list p'.isList fun h' he hit hsz hk => wpAny_pyIter_enum he ?_
      have I2 : Inv X pins σ H1 { s1 with heap := h' } := I1.kept (t' := s1.toks) hk
      refine ⟨s1.heap.objs.size + 1, [s1.heap.objs.size + 1, s1.heap.objs.size], _, _, H1, rfl, I2, turn_enum a (s1.heap.objs.size + 1) s1.heap.objs.size, ⟨⟨.none, he⟩, hit, Nat.succ_ne_self _⟩, fun b hb => ?_, q⟩
      have e' : b = s1.heap.objs.size + 1 ∨ b = s1.heap.objs.size := by simpa using hb
      have hle : s1.heap.objs.size ≤ b := by
        rcases e' with z | z
        · rw [z]; exact Nat.le_add_right _ _
        · rw [z]; exact Nat.le_refl _
      exact I1.fpOk hle (I1.hok.fresh hle)
  · subst ex
    cases r1 with
    | cons r rr =>
      cases rr
      obtain ⟨t, rfl⟩ := r
      refine call_enumerate_str fun h' he hit hsz hk => wpAny_pyIter_enum he ?_
      have I2 : Inv X pins σ H1 { s1 with heap := h' } := I1.kept (t' := s1.toks) hk
      refine ⟨s1.heap.objs.size + 1, [s1.heap.objs.size + 1, s1.heap.objs.size], _, _, H1, rfl, I2, turn_enumS (s1.heap.objs.size + 1) s1.heap.objs.size (Nat.succ_ne_self _) x t, ⟨⟨⟨.none, he⟩, hit⟩, Nat.zero_le _⟩, fun b hb => ?_, q⟩
      have e' : b = s1.heap.objs.size + 1 ∨ b = s1.heap.objs.size := by simpa using hb
      have hle : s1.heap.objs.size ≤ b := by
        rcases e' with z | z
        · rw [z]; exact Nat.le_add_right _ _
        · rw [z]; exact Nat.le_refl _
      exact I1.fpOk hle (I1.hok.fresh hle)
/-- enumerate over data -/
def wiEnumX (wa : WA) : WA := fun ρ P => wa ρ fun ds ρ1 => match ds with
  | [.cel ns] => P (enumD 0 (ns.map .int)) ρ1
  | [.lst xs] => P (enumD 0 xs) ρ1
  | [.str z] => P (enumD 0 ((signs z).map .str)) ρ1
  | _ => False
section
variable {K : PySem.W.Frag} {X : Cx} {Z : Zx} {pos p : Pos} {e : Expr}
theorem di_enumX {ta : TA} {wa : WA} {elts : List Expr} {kk : Nat} {tpos : Pos} (hm : X.mg "enumerate" = none) (ha : DA K X Z [e] ta wa) (hg : Gl X "enumerate" := by rfl) (hs : starEach [e] X.env = [(false, eval e X.env)] := by rfl) (hK : X.K = K := by rfl) :
    DI K X Z (.Tuple elts kk tpos) (.Call (.Name "enumerate" p) [e] [] pos) (iEnumX K ta) (wiEnumX wa) := by
  refine ⟨by subst hK; exact pi_enumX hg hm ha.pe hs, fun {H0 F0 F H ρ σ Q P} zo rl h k => ha.run zo rl h fun ds ρ1 F1 H1 vs h1 f1 r1 rps => ?_⟩
  have lst : ∀ {a : Addr} {vs' : List V} {xs : List D}, vs = [.ref a] → SqL K F1 a vs' → Reps K F1 xs vs' → P (enumD 0 xs) ρ1 → iEnumX K (fun σ H Q => Q vs H1) σ H1 Q := fun {a vs' xs} e s1 s2 h1 => by
    refine .inl ⟨a, vs', e, r1.fh.seq s1, k _ ρ1 F1 H1 _ h1 f1 r1 ⟨fun {i F H} f g l => ?_, fun {i F H} f g l => ?_, fun {i F H H2 x} f g y l => ?_⟩⟩
    · have hl : i < vs'.length := by rw [s2.len]; rw [enumD_len] at l; exact l
      exact ⟨vs', vs'[i], g.seq (f.seq s1), List.getElem?_eq_getElem hl⟩
    · exact ⟨vs', g.seq (f.seq s1), by rw [s2.len]; rw [enumD_len] at l; exact l⟩
    · obtain ⟨T, u, rfl, n, rfl, y⟩ := y
      obtain ⟨d, e, r⟩ := s2.get' (y vs' (g.seq (f.seq s1)))
      refine ⟨upd F T (.tup [.int (i : Nat), u]), _, enumD_get xs 0 i d e, Same.new n, Same.new (g.free n), upd_both g n, nw_upd n, ⟨T, _, rfl, SqT.of upd_same, ?_⟩⟩
      exact ⟨_, _, rfl, by rw [Nat.zero_add]; rfl, _, _, rfl, Rep.mono (f.trans (Same.new (g.free n))) _ _ r, rfl⟩
  split at h1
  · obtain ⟨v, _, rfl, ⟨a, rfl, s1⟩, rfl⟩ := rps
    exact lst rfl s1 (Reps.ints.mpr rfl) h1
  · obtain ⟨v, _, rfl, ⟨a, vs', rfl, s1, s2⟩, rfl⟩ := rps
    exact lst rfl (SqL.of s1) s2 h1
  · rename_i z
    obtain ⟨v, _, rfl, rfl, rfl⟩ := rps
    have hlen : ((signs z).map D.str).length = z.cps.size := by simp [signs]
    refine .inr ⟨z, rfl, k _ ρ1 F1 H1 _ h1 f1 r1 ⟨fun {i F H} f g l => ?_, fun {i F H} f g l => ?_, fun {i F H H2 x} f g y l => ?_⟩⟩
    · rw [enumD_len, hlen] at l; exact l
    · rw [enumD_len, hlen] at l; exact l
    · obtain ⟨T, c, rfl, n, rfl, hc⟩ := y
      have hc' : z.cps.toList[i]? = some c := by rw [Array.getElem?_toList]; exact hc
      refine ⟨upd F T (.tup [.int (i : Nat), .str ⟨#[c]⟩]), _, enumD_get _ 0 i (.str ⟨#[c]⟩) (by simp [signs, hc']), Same.new n, Same.new (g.free n), upd_both g n, nw_upd n, ⟨T, _, rfl, SqT.of upd_same, ?_⟩⟩
      exact ⟨_, _, rfl, by rw [Nat.zero_add]; rfl, _, _, rfl, rfl, rfl⟩
  · exact h1.elim
end
end DL
set_option maxHeartbeats 1000000
/-! DL13: reversed of a text, a list, a tuple. -/
namespace DL
open PySem PySem.Spec PyProof.Rows RT L2
theorem norev_str : typeLookup (.type "str") "__reversed__" = pure none := by rw [typeLookup_type, builtinLookup_eq_fast]; kernel_rfl
theorem getof_str : typeLookup (.type "str") "__getitem__" = pure (some (.builtin "str.__getitem__")) := by rw [typeLookup_type, builtinLookup_eq_fast]; kernel_rfl
/-- the walk back over x: at place i next -/
def IsRs (h : Heap) (a : Addr) (x : Str) (t : Tok) (i : Int) : Prop := ∃ o, h.get? a = some o ∧ o.cls = .type "reversed" ∧ o.data = .fields #[.str x t, rawInt i]
section
variable {prog : Program} {w : World} {A : Around} {E : Value → Shared → Prop} {s : Shared} {x : Str} {t : Tok}
theorem IsRs.ty {a : Addr} {i : Int} (h : IsRs s.heap a x t i) : s.TypeIs (.ref a) "reversed" := let ⟨o, ho, hc, _⟩ := h; ⟨o, ho, hc⟩
theorem call_revS {Q : Value → Shared → Prop} (hx : x.length ≤ sizeLine)
    (h : Q (.ref s.heap.objs.size) { s with heap := s.heap.push { cls := .type "reversed", data := .fields #[.str x t, rawInt ((x.length : Int) - 1)] }, toks := s.toks + 1 + 1 }) : wpAny (model prog w) A (call (.type "reversed") [.str x t]) Q E s := by
  have hn := line63
  refine callType_codes (Q₁ := fun obj s₁ => s₁.TypeIs obj "reversed" ∧ Q obj s₁) called_rt (F.typeCall_reversed_1 _) F.entry_object_init (?_ : codeAny _ A.in1 _ (wants _ E) s) fun obj s₁ h₁ =>
    ⟨h₁.1, F.args_object_init_2 obj _, object_init_meets called_rt.init.lookup called_rt.made (by decide) prog w A.in1 _ s₁ ⟨h₁.1, rfl, h₁.2⟩⟩
  have hT : s.TypeIs (.str x t) "str" := typeIs_str s x t
  refine codeAny_of_tree ?_
  show wpAny _ A.in1.in1 (do checkBuiltinCall "reversed.__new__" ⟨[.type "reversed", .str x t], []⟩; again (.builtin "reversed.__new__" ⟨[.type "reversed", .str x t], []⟩)) _ _ s
  refine wpAny_bind (wpAny_of_eq (F.newCall_reversed_1 _) (wpAny_pure ⟨plainId_quiet F.plain_reversed_new _, codeAny_builtin F.entry_reversed_new ?_⟩))
  rw [Around.under_plainId F.plain_reversed_new _]
  unfold Builtin.«reversed.__new__»
  refine wpAny_bind (wpAny_of_eq (newClass_reversed _) ?_)
  try dsimp only
  refine wpAny_bind (wpAny_of_eq (a := ()) (by first | rfl | kernel_rfl) ?_)
  try dsimp only
  refine wpAny_bind (wpAny_of_eq (a := ()) (by first | rfl | kernel_rfl) ?_)
  try dsimp only
  refine wpAny_bind (wpAny_specialOf hT norev_str ?_)
  try dsimp only
  refine wpAny_bind ?_
  wp_delta
  refine wpAny_bind (wpAny_isInstance (T := "str") (U := "dict") (b := false) hT PySem.F.sub_str_dict ?_)
  try dsimp only
  try rw [if_neg Bool.false_ne_true]
  try dsimp only
  refine wpAny_bind (wpAny_specialOf hT getof_str ?_)
  try dsimp only
  try rw [if_pos (by decide +kernel)]
  refine wpAny_pure ?_
  try dsimp only
  try rw [if_neg (by decide)]
  try dsimp only
  refine wpAny_bind (PyProof.Rows.len_str (by omega) ?_)
  refine wpAny_bind (wpAny_of_eq (a := some ((x.length : Nat) : Int)) rfl ?_)
  try dsimp only
  refine wpAny_bind ?_
  show wpAny _ _ (newObj (.type "reversed") (.fields #[.str x t, rawInt ((x.length : Int) - 1)])) _ _ _
  refine wpAny_newObj_type ?_
  exact wpAny_pure ⟨⟨_, Heap.get?_push_size _ rfl, rfl⟩, h⟩
theorem next_rs {it : Addr} {i c : Nat} {Q : Option Value → Shared → Prop} (hit : IsRs s.heap it x t (i : Int)) (hx : x.cps[i]? = some c) (hsz : x.length ≤ sizeLine)
    (hQ : ∀ h' k, IsRs h' it x t ((i : Int) - 1) → Heap.SameBut it s.heap h' → Q (some (.str ⟨#[c]⟩ k)) { s with heap := h', toks := s.toks + 1 + 1 }) : wpAny (model prog w) A (pyNext (.ref it)) Q E s := by
  obtain ⟨o, ho, hc, hd⟩ := id hit
  have hi : i < x.cps.size := (Array.getElem?_eq_some_iff.mp hx).1
  have hi' : i < x.length := hi
  have hn := line63
  unfold pyNext
  refine wpAny_bind (wpAny_attempt (wpAny_callSpecial?_slot (name := Str.ofString "__next__") hit.ty slot_rt_next
    (wpAny_call_entry slot_rt_next hit.ty entry_rt_next ?_ (args_rt_next _))))
  unfold Builtin.«reversed.__next__»
  refine wpAny_bind (wpAny_of_eq (a := (Value.ref it, [])) rfl ?_)
  try dsimp only
  refine wpAny_bind (wpAny_field ho hd (x := .str x t) rfl ?_)
  try dsimp only
  refine wpAny_bind (wpAny_field ho hd (x := rawInt (i : Int)) rfl ?_)
  show wpAny _ _ (if (i : Int) < 0 then _ else _) _ _ s
  rw [if_neg (by omega)]
  try dsimp only
  refine wpAny_bind (wpAny_specialOf (typeIs_str s x t) getof_str ?_)
  try dsimp only
  try rw [if_neg (by decide)]
  try dsimp only
  refine wpAny_bind (wpAny_mkInt ?_)
  refine wpAny_bind (wpAny_attempt ?_)
  have fin : seqIndex? (i : Int) x.length = some i := seqIndex_of (by omega) (by omega)
  have hr : (decide ((i : Int) < -(2 ^ 63 : Int)) || decide ((i : Int) ≥ 2 ^ 63)) = false := by
    have e1 : decide ((i : Int) < -(2 ^ 63 : Int)) = false := decide_eq_false (by omega)
    have e2 : decide ((i : Int) ≥ 2 ^ 63) = false := decide_eq_false (by omega)
    rw [e1, e2, Bool.or_false]
  refine PyProof.Rows.getItem_str (s := { s with toks := s.toks + 1 }) (c := c) hr (by rw [fin]; exact hx) ?_
  try dsimp only
  refine wpAny_bind (wpAny_field (s := { s with toks := s.toks + 1 + 1 }) ho hd (x := rawInt (i : Int)) rfl ?_)
  try dsimp only
  refine wpAny_bind (wpAny_setField (s := { s with toks := s.toks + 1 + 1 }) ho hd (by simp) ?_)
  first
  | refine wpAny_pure ⟨_, rfl, wpAny_pure (hQ _ _ ?_ (Heap.SameBut.update ..))⟩
  | refine wpAny_bind (wpAny_pure (wpAny_pure ⟨_, rfl, wpAny_pure (hQ _ _ ?_ (Heap.SameBut.update ..))⟩))
  exact ⟨_, Heap.get?_update_self _ ho (Obj.isFreed_of_fields (Obj.data_mapFields hd _)), (Obj.cls_mapFields ..).trans hc, by
    rw [Obj.data_mapFields hd]; simp⟩
theorem end_rs {it : Addr} {Q : Option Value → Shared → Prop} (hh : A.handled = none) (hit : IsRs s.heap it x t (-1))
    (hQ : ∀ h', Heap.ExtBut it s.heap h' → Q none { s with heap := h' }) : wpAny (model prog w) A (pyNext (.ref it)) Q E s := by
  obtain ⟨o, ho, hc, hd⟩ := id hit
  unfold pyNext
  refine wpAny_bind (wpAny_attempt (wpAny_callSpecial?_slot (name := Str.ofString "__next__") hit.ty slot_rt_next
    (wpAny_call_entry slot_rt_next hit.ty entry_rt_next ?_ (args_rt_next _))))
  unfold Builtin.«reversed.__next__»
  refine wpAny_bind (wpAny_of_eq (a := (Value.ref it, [])) rfl ?_)
  try dsimp only
  refine wpAny_bind (wpAny_field ho hd (x := .str x t) rfl ?_)
  try dsimp only
  refine wpAny_bind (wpAny_field ho hd (x := rawInt (-1)) rfl ?_)
  show wpAny _ _ (if (-1 : Int) < 0 then _ else _) _ _ s
  rw [if_pos (by decide)]
  try dsimp only
  refine wpAny_bind (wpAny_rule ?_)
  refine wpAny_bind ?_
  wp_delta
  refine wpAny_bind (wpAny_setField ho hd (by simp) ?_)
  have ho2 := Heap.get?_update_self (Obj.mapFields (·.setIfInBounds 1 (rawInt (-1)))) ho (Obj.isFreed_of_fields (Obj.data_mapFields hd _))
  refine wpAny_setField (s := { s with heap := s.heap.update it (Obj.mapFields (·.setIfInBounds 1 (rawInt (-1)))) }) ho2 (Obj.data_mapFields hd _) (by simp) ?_
  try dsimp only
  first
  | show wpAny _ _ (newExc (.type "StopIteration") [] >>= _) _ _ _
  | (refine wpAny_bind ?_; show wpAny _ _ (newExc (.type "StopIteration") [] >>= _) _ _ _)
  | (refine wpAny_bind ?_; wp_delta; show wpAny _ _ (newExc (.type "StopIteration") [] >>= _) _ _ _)
  refine wpAny_bind ?_
  simp only [newExc, newTuple]
  refine wpAny_bind (wpAny_newObj_type ?_ (by size_fits))
  refine wpAny_bind (m := firstArgMember _ _) (wpAny_of_eq (a := Value.none) (by first | rfl | (simp only [firstArgMember]; rfl)) ?_)
  refine wpAny_newObj_type ?_ (by size_fits)
  simp only [raiseNew]
  refine wpAny_bind (wpAny_handled ?_)
  first | rw [show A.in1.handled = none from hh] | rw [hh]
  refine wpAny_bind (wpAny_pure (wpAny_throw ?_))
  refine wpAny_bind (wpAny_isInstance (T := "StopIteration") (b := true) ⟨_, Heap.get?_push_size _ rfl, rfl⟩ isSubtype_stop ?_)
  refine wpAny_pure (hQ _ ?_)
  refine ((?_ : Heap.ExtBut it s.heap _).push _).push _
  exact fun b ob hb e => (Heap.get?_update_other _ _ (Ne.symm hb)).trans ((Heap.get?_update_other _ _ (Ne.symm hb)).trans e)
theorem iter_rs {it : Addr} {i : Int} {Q : Value → Shared → Prop} (hit : IsRs s.heap it x t i) (h : Q (.ref it) s) : wpAny (model prog w) A (pyIter (.ref it)) Q E s := by
  refine wpAny_pyIter_slot hit.ty slot_rt_iter (wpAny_call_entry slot_rt_iter hit.ty entry_rt_iter ?_ (args_rt_iter _))
  show wpAny _ _ (ret (.ref it)) _ _ s
  exact wpAny_pure ⟨_, rfl, "reversed", _, hit.ty, slot_rt_next.lookup, h⟩
end
def Itrs (x : Str) : It := ⟨fun i _ => i < x.cps.size, fun i H v H' => H' = H ∧ ∃ c, x.cps[x.cps.size - 1 - i]? = some c ∧ v = .str ⟨#[c]⟩, fun i _ => x.cps.size ≤ i⟩
theorem turn_rs {P : Program} {w : World} {K : PySem.W.Frag} {tg : Expr} (x : Str) (t : Tok) (it : Addr) (hx : x.length ≤ sizeLine) :
    Turn P w K tg (Itrs x) [it] it (fun i h => i ≤ x.cps.size ∧ IsRs h it x t ((x.cps.size : Int) - 1 - (i : Nat))) where
  mem := by simp
  obj := fun i h st b hb => by
    have e : b = it := by simpa using hb
    subst e
    obtain ⟨_, o, e, c, d⟩ := st
    exact ⟨o, e, fun v z => by rw [d] at z; cases z⟩
  keep := fun i h h' st k => ⟨st.1, let ⟨o, ho, r⟩ := st.2; ⟨o, k it (by simp) o ho, r⟩⟩
  item := by
    intro X hP hw hK hc i pins s σ H E I hf st hg
    subst hP hw hK
    have hi : i < x.cps.size := hg
    obtain ⟨f0, f1, f2, f3, f4, f5⟩ := hf it (by simp)
    obtain ⟨_, hit⟩ := st
    have e1 : (x.cps.size : Int) - 1 - ((i : Nat) : Int) = ((x.cps.size - 1 - i : Nat) : Int) := by omega
    rw [e1] at hit
    have hl : x.cps.size - 1 - i < x.cps.size := by omega
    refine next_rs hit (Array.getElem?_eq_getElem hl) hx fun h' k st' sb => ?_
    have e2 : ((x.cps.size - 1 - i : Nat) : Int) - 1 = (x.cps.size : Int) - 1 - ((i + 1 : Nat) : Int) := by omega
    rw [e2] at st'
    have I1 : Inv X pins σ H { s with heap := h', toks := s.toks + 1 + 1 } := I.turned (t' := s.toks + 1 + 1) (fun b o hb e => (sb.2 b hb).trans e) f0 f1 f3 f4 f5
    obtain ⟨o, e, c, d⟩ := id st'
    exact ⟨_, rfl, go_of (s := { s with heap := h', toks := s.toks + 1 + 1 }) e c d (by decide) ⟨.str _, H, I1, ⟨k, rfl⟩, ⟨rfl, _, Array.getElem?_eq_getElem hl, rfl⟩, ⟨hi, st'⟩, fun b hb => (hf b hb).1⟩⟩
  done := by
    intro X hP hw hK hc i pins s σ H E I hf st hg
    subst hP hw hK
    obtain ⟨f0, f1, f2, f3, f4, f5⟩ := hf it (by simp)
    obtain ⟨hin, hit⟩ := st
    have hge : x.cps.size ≤ i := hg
    have e1 : (x.cps.size : Int) - 1 - ((i : Nat) : Int) = -1 := by omega
    rw [e1] at hit
    exact end_rs (I.ok.hd hc) hit fun h' eb => ⟨rfl, I.turned (t' := s.toks) (fun b o hb e => eb b o hb e) f0 f1 f3 f4 f5⟩
  self := fun A i s Q E st h => iter_rs st.2 h
def iRevX (K : PySem.W.Frag) (te : TE) : TI := fun σ H R => te σ H fun v H1 => (∃ (a : Addr) (xs : List V), v = .ref a ∧ ((SqL K H1 a xs ∧ R (Itv K a xs.length) H1) ∨ (SqT K H1 a xs ∧ R (ItvT K a xs.length) H1))) ∨ ∃ x, v = .str x ∧ x.length ≤ sizeLine ∧ R (Itrs x) H1
theorem pi_revX {X : Cx} {tg e : Expr} {te : TE} {p pos : Pos} (hg : Gl X "reversed") (hm : X.mg "reversed" = none) (he : PE X e te) (hs : starEach [e] X.env = (false, eval e X.env) :: starEach [] X.env := by rfl) : PI X tg (.Call (.Name "reversed" p) [e] [] pos) (iRevX X.K te) := by
  refine ⟨fun pins s σ H R I h => ?_⟩
  refine Call_ (ld_blt I hg hm PyProof.Rows.boot_reversed (PyProof.Rows.callWith_type1 (args_cons (thn (he.run pins s σ H _ I h) fun u s1 ⟨v, H1, I1, r1, q1⟩ => args_nil ?_) hs) hs rfl))
  rcases q1 with ⟨a, xs, ev, q⟩ | ⟨x, ev, hx, q⟩
  · subst ev
    obtain rfl : u = Value.ref a := r1
    rcases q with ⟨hq, q⟩ | ⟨hq, q⟩
    · obtain ⟨its, rv, p', hz⟩ := I1.list hq
      have hl := rv.length
      have e1 : ((its.toArray.size : Nat) : Int) - 1 = (xs.length : Int) - 1 - ((0 : Nat) : Int) := by simp only [List.size_toArray]; omega
      refine call_reversed_list p'.isList (wpAny_pyIter_revIter (l := a) (i := ((its.toArray.size : Nat) : Int) - 1) ⟨_, Heap.get?_push_size _ rfl, rfl, rfl⟩ ?_)
      refine pi_one (tk := s1.toks) I1 _ (turn_rev a _ xs.length) ⟨Nat.zero_le _, ?_⟩ q
      rw [← e1]
      exact ⟨_, Heap.get?_push_size _ rfl, rfl, rfl⟩
    · obtain ⟨its, rv, p', hz⟩ := I1.tuple hq
      have hl := rv.length
      have hn := line63
      have e1 : ((its.toArray.size : Nat) : Int) - 1 = (xs.length : Int) - 1 - ((0 : Nat) : Int) := by simp only [List.size_toArray]; omega
      refine call_reversed_tup p' (fun A' E' Q' hq' => len_tuple p' (by simp only [List.size_toArray]; omega) hq') (iter_rt ⟨_, Heap.get?_push_size _ rfl, rfl, rfl⟩ ?_)
      refine pi_one (tk := s1.toks + 1 + 1) I1 _ (turn_rt a _ xs.length) ⟨Nat.zero_le _, ?_⟩ q
      rw [← e1]
      exact ⟨_, Heap.get?_push_size _ rfl, rfl, rfl⟩
  · subst ev
    obtain ⟨t, rfl⟩ := r1
    refine call_revS hx (iter_rs ⟨_, Heap.get?_push_size _ rfl, rfl, rfl⟩ ?_)
    refine pi_one (tk := s1.toks + 1 + 1) I1 _ (turn_rs x t _ hx) ⟨Nat.zero_le _, ?_⟩ q
    exact ⟨_, Heap.get?_push_size _ rfl, rfl, by
      have e : (x.cps.size : Int) - 1 - ((0 : Nat) : Int) = (x.length : Int) - 1 := by show (x.cps.size : Int) - 1 - ((0 : Nat) : Int) = (x.cps.size : Int) - 1; omega
      rw [e]⟩
end DL
namespace DL
open PySem L2
def revItems (d : D) (P : List D → Prop) : Prop := match d with
  | .cel ns => P (ns.map .int).reverse
  | .lst xs => P xs.reverse
  | .tup xs => P xs.reverse
  | .str z => z.length ≤ sizeLine ∧ P ((signs z).reverse.map .str)
  | _ => False
def wiRev (we : W) : WA := fun ρ P => we ρ fun s ρ1 => revItems s.fz fun xs => P xs ρ1
theorem rev_get {α : Type} {xs : List α} {i : Nat} (h : i < xs.length) : xs.reverse[i]? = xs[xs.length - 1 - i]? := by
  rw [List.getElem?_reverse h]
theorem di_revX {K : PySem.W.Frag} {X : Cx} {Z : Zx} {tg e : Expr} {te : TE} {we : W} {p pos : Pos} (hm : X.mg "reversed" = none) (he : DE K X Z e te we) (hg : Gl X "reversed" := by rfl) (hs : starEach [e] X.env = (false, eval e X.env) :: starEach [] X.env := by rfl) (hK : X.K = K := by rfl) :
    DI K X Z tg (.Call (.Name "reversed" p) [e] [] pos) (iRevX K te) (wiRev we) := by
  refine ⟨by subst hK; exact pi_revX hg hm he.pe hs, fun {H0 F0 F H ρ σ Q P} zo rl h k => he.run zo rl h fun s1 ρ1 F1 H1 v1 h1 f1 r1 sr1 fr1 => ?_⟩
  obtain ⟨F2, f2, r2, rp2⟩ := r1.freeze sr1 fr1
  generalize s1.fz = d at h1 rp2
  have lst : ∀ {a : Addr} {vs : List V} {xs : List D}, v1 = .ref a → SqL K F2 a vs → Reps K F2 xs vs → P xs.reverse ρ1 → iRevX K (fun σ H Q => Q v1 H1) σ H1 Q := fun {a vs xs} e s1 s2 h1 => by
    have hl := s2.len
    refine .inl ⟨a, vs, e, .inl ⟨r2.fh.seq s1, k xs.reverse ρ1 F2 H1 _ h1 (f1.trans f2) r2 (ItOk.pure (fun {i F H} f g l => ?_) (fun {i F H} f g l => ?_) fun {i F H H2 x} f g y l => ?_)⟩⟩
    · rw [List.length_reverse] at l
      have hj : vs.length - 1 - i < vs.length := by omega
      exact ⟨by omega, vs, vs[vs.length - 1 - i], g.seq (f.seq s1), List.getElem?_eq_getElem hj⟩
    · rw [List.length_reverse] at l
      show vs.length ≤ i
      omega
    · obtain ⟨rfl, y⟩ := y
      rw [List.length_reverse] at l
      obtain ⟨d, e, r⟩ := s2.get' (y vs (g.seq (f.seq s1)))
      exact ⟨d, by rw [rev_get l, ← hl]; exact e, rfl, Rep.mono f _ _ r⟩
  unfold revItems at h1
  split at h1
  · obtain ⟨a, e, s1⟩ := rp2
    exact lst e s1 (Reps.ints.mpr rfl) h1
  · obtain ⟨a, vs, e, s1, s2⟩ := rp2
    exact lst e (SqL.of s1) s2 h1
  · rename_i xs
    obtain ⟨a, vs, e, s1, s2⟩ := rp2
    have hl := s2.len
    refine .inl ⟨a, vs, e, .inr ⟨Same.sqT r2.fh s1, k xs.reverse ρ1 F2 H1 _ h1 (f1.trans f2) r2 (ItOk.pure (fun {i F H} f g l => ?_) (fun {i F H} f g l => ?_) fun {i F H H2 x} f g y l => ?_)⟩⟩
    · rw [List.length_reverse] at l
      have hj : vs.length - 1 - i < vs.length := by omega
      exact ⟨by omega, vs, vs[vs.length - 1 - i], Same.sqT g (Same.sqT f s1), List.getElem?_eq_getElem hj⟩
    · rw [List.length_reverse] at l
      show vs.length ≤ i
      omega
    · obtain ⟨rfl, y⟩ := y
      rw [List.length_reverse] at l
      obtain ⟨d, e, r⟩ := s2.get' (y vs (Same.sqT g (Same.sqT f s1)))
      exact ⟨d, by rw [rev_get l, ← hl]; exact e, rfl, Rep.mono f _ _ r⟩
  · rename_i z
    have hlen : ((signs z).reverse.map D.str).length = z.cps.size := by simp [signs]
    have hs : (signs z).length = z.cps.size := by simp [signs]
    refine .inr ⟨z, rp2, h1.1, k _ ρ1 F2 H1 _ h1.2 (f1.trans f2) r2 (ItOk.pure (fun {i F H} f g l => ?_) (fun {i F H} f g l => ?_) fun {i F H H2 x} f g y l => ?_)⟩
    · show i < z.cps.size
      omega
    · show z.cps.size ≤ i
      omega
    · obtain ⟨rfl, c, hc, rfl⟩ := y
      have hi : i < (signs z).length := by omega
      refine ⟨.str ⟨#[c]⟩, ?_, rfl, rfl⟩
      have hc' : z.cps.toList[z.cps.size - 1 - i]? = some c := by rw [Array.getElem?_toList]; exact hc
      rw [List.getElem?_map, rev_get hi, hs]
      simp [signs, hc']
  · exact h1.elim
end DL
/-! DL14: a dict locked while a loop walks its keys. -/
namespace DL
open PySem L2
section
variable {K : PySem.W.Frag} {d : Addr} {od : Obj} {l : List (Key × V)} {A B : Hp}
def lkO (od : Obj) : HO → HO
  | .dK l => .frz od (.dK l)
  | o => o
def ulO : HO → HO
  | .frz _ u => u
  | o => o
def lk (d : Addr) (od : Obj) (A : Hp) : Hp := fun a => if a = d then (A a).map (lkO od) else A a
def ul (d : Addr) (A : Hp) : Hp := fun a => if a = d then (A a).map ulO else A a
theorem lk_none {a : Addr} : lk d od A a = none ↔ A a = none := by
  unfold lk; split
  · simp
  · rfl
theorem ul_none {a : Addr} : ul d A a = none ↔ A a = none := by
  unfold ul; split
  · simp
  · rfl
theorem Same.lk (e : Same A B) : Same (lk d od A) (lk d od B) := fun a u q => by
  unfold DL.lk at q ⊢
  by_cases h : a = d
  · rw [if_pos h] at q ⊢
    cases h2 : A a with
    | none => rw [h2] at q; cases q
    | some o => rw [h2] at q; rw [e _ _ h2]; exact q
  · rw [if_neg h] at q ⊢; exact e _ _ q
theorem Same.ul (e : Same A B) : Same (ul d A) (ul d B) := fun a u q => by
  unfold DL.ul at q ⊢
  by_cases h : a = d
  · rw [if_pos h] at q ⊢
    cases h2 : A a with
    | none => rw [h2] at q; cases q
    | some o => rw [h2] at q; rw [e _ _ h2]; exact q
  · rw [if_neg h] at q ⊢; exact e _ _ q
theorem ul_lk (h : ∀ o, A d = some o → o = .dK l) : ul d (lk d od A) = A := by
  funext a
  unfold DL.ul DL.lk
  by_cases e : a = d
  · rw [if_pos e, if_pos e]
    subst e
    cases q : A a with
    | none => rfl
    | some o => rw [h o q]; rfl
  · rw [if_neg e, if_neg e]
def PlO (o : HO) : Prop := (∃ xs, o = .lst xs) ∨ (∃ xs, o = .tup xs) ∨ ∃ l, o = .dK l
mutual
theorem Rep.via (h1 : ∀ a o, PlO o → Rd A a o → Rd B a o) (h2 : ∀ a xs, A a = some (.lst xs) → B a = some (.lst xs)) (h3 : ∀ a C dx fs, A a = some (.ins C dx fs) → B a = some (.ins C dx fs)) : ∀ (x : D) (v : V), Rep K A x v → Rep K B x v
  | .non, _, h => h
  | .bl _, _, h => h
  | .int _, _, h => h
  | .str _, _, h => h
  | .ref _, _, h => h
  | .ty _, _, h => h
  | .cel ns, _, h => by
    obtain ⟨a, e1, h⟩ := h
    rcases h with h | h
    · exact ⟨a, e1, .inl (h1 _ _ (.inl ⟨_, rfl⟩) h)⟩
    · exact ⟨a, e1, .inr h⟩
  | .lst xs, _, h => by
    obtain ⟨a, vs, e1, q1, q2⟩ := h
    exact ⟨a, vs, e1, h2 _ _ q1, Reps.via h1 h2 h3 xs vs q2⟩
  | .tup xs, _, h => by
    obtain ⟨a, vs, e1, q1, q2⟩ := h
    rcases q1 with q1 | q1
    · exact ⟨a, vs, e1, .inl (h1 _ _ (.inr (.inl ⟨_, rfl⟩)) q1), Reps.via h1 h2 h3 xs vs q2⟩
    · exact ⟨a, vs, e1, .inr q1, Reps.via h1 h2 h3 xs vs q2⟩
  | .dic ks xs, _, h => by
    obtain ⟨a, vs, e1, q1, q, q2⟩ := h
    exact ⟨a, vs, e1, h1 _ _ (.inr (.inr ⟨_, rfl⟩)) q1, q, Reps.via h1 h2 h3 xs vs q2⟩
  | .ins C ns xs, _, h => by
    obtain ⟨a, C, dx, vs, e1, g, q1, q, q2⟩ := h
    exact ⟨a, C, dx, vs, e1, g, h3 _ _ _ _ q1, q, Reps.via h1 h2 h3 xs vs q2⟩
theorem Reps.via (h1 : ∀ a o, PlO o → Rd A a o → Rd B a o) (h2 : ∀ a xs, A a = some (.lst xs) → B a = some (.lst xs)) (h3 : ∀ a C dx fs, A a = some (.ins C dx fs) → B a = some (.ins C dx fs)) : ∀ (xs : List D) (vs : List V), Reps K A xs vs → Reps K B xs vs
  | [], _, h => h
  | x :: xs, _, h => by
    obtain ⟨v, r, e1, q1, q2⟩ := h
    exact ⟨v, r, e1, Rep.via h1 h2 h3 x v q1, Reps.via h1 h2 h3 xs r q2⟩
end
theorem lk_at {a : Addr} (h : a ≠ d) : lk d od A a = A a := if_neg h
theorem ul_at {a : Addr} (h : a ≠ d) : ul d A a = A a := if_neg h
theorem rd_lk (h : A d = some (.dK l)) : ∀ a o, PlO o → Rd A a o → Rd (lk d od A) a o := fun a o _ q => by
  by_cases e : a = d
  · subst e
    rcases q with q | ⟨o', q⟩
    · rw [h] at q; cases q
      exact .inr ⟨od, by unfold lk; rw [if_pos rfl, h]; rfl⟩
    · rw [h] at q; cases q
  · rcases q with q | ⟨o', q⟩
    · exact .inl (by rw [lk_at e]; exact q)
    · exact .inr ⟨o', by rw [lk_at e]; exact q⟩
theorem rd_ul (h : A d = some (.frz od (.dK l))) : ∀ a o, PlO o → Rd A a o → Rd (ul d A) a o := fun a o po q => by
  by_cases e : a = d
  · subst e
    rcases q with q | ⟨o', q⟩
    · rw [h] at q; cases q
      rcases po with ⟨_, z⟩ | ⟨_, z⟩ | ⟨_, z⟩ <;> cases z
    · rw [h] at q; cases q
      exact .inl (by unfold ul; rw [if_pos rfl, h]; rfl)
  · rcases q with q | ⟨o', q⟩
    · exact .inl (by rw [ul_at e]; exact q)
    · exact .inr ⟨o', by rw [ul_at e]; exact q⟩
theorem Rep.lk {x : D} {v : V} (h : A d = some (.dK l)) (r : Rep K A x v) : Rep K (lk d od A) x v :=
  Rep.via (rd_lk h) (fun a xs q => by rw [lk_at (fun e => by rw [e, h] at q; cases q)]; exact q) (fun a C dx fs q => by rw [lk_at (fun e => by rw [e, h] at q; cases q)]; exact q) x v r
theorem Rep.ul {x : D} {v : V} (h : A d = some (.frz od (.dK l))) (r : Rep K A x v) : Rep K (ul d A) x v :=
  Rep.via (rd_ul h) (fun a xs q => by rw [ul_at (fun e => by rw [e, h] at q; cases q)]; exact q) (fun a C dx fs q => by rw [ul_at (fun e => by rw [e, h] at q; cases q)]; exact q) x v r
theorem Reps.lk {xs : List D} {vs : List V} (h : A d = some (.dK l)) (r : Reps K A xs vs) : Reps K (DL.lk d od A) xs vs :=
  Reps.via (rd_lk h) (fun a xs q => by rw [lk_at (fun e => by rw [e, h] at q; cases q)]; exact q) (fun a C dx fs q => by rw [lk_at (fun e => by rw [e, h] at q; cases q)]; exact q) xs vs r
theorem Reps.ul {xs : List D} {vs : List V} (h : A d = some (.frz od (.dK l))) (r : Reps K A xs vs) : Reps K (DL.ul d A) xs vs :=
  Reps.via (rd_ul h) (fun a xs q => by rw [ul_at (fun e => by rw [e, h] at q; cases q)]; exact q) (fun a C dx fs q => by rw [ul_at (fun e => by rw [e, h] at q; cases q)]; exact q) xs vs r
variable {H0 F0 F H : Hp} {ρ : R} {σ : St}
theorem SRep.lk {s : S} {v : V} (hF : F d = some (.dK l)) (h : SRep K H0 F H s v) : SRep K (DL.lk d od H0) (DL.lk d od F) (DL.lk d od H) s v := by
  cases s with
  | d x => exact Rep.lk hF h
  | ol xs =>
    obtain ⟨a, vs, e, h1, h2, n0, n1⟩ := h
    have ne : a ≠ d := fun z => by rw [z, hF] at n1; cases n1
    exact ⟨a, vs, e, by rw [lk_at ne]; exact h1, Reps.lk hF h2, lk_none.mpr n0, lk_none.mpr n1⟩
  | od kvs =>
    obtain ⟨a, vs, e, h1, hk, h2, n0, n1⟩ := h
    have ne : a ≠ d := fun z => by rw [z, hF] at n1; cases n1
    exact ⟨a, vs, e, by rw [lk_at ne]; exact h1, hk, Reps.lk hF h2, lk_none.mpr n0, lk_none.mpr n1⟩
  | oi N kvs =>
    obtain ⟨a, C, dx, vs, e, g, h1, hk, h2, n0, n1⟩ := h
    have ne : a ≠ d := fun z => by rw [z, hF] at n1; cases n1
    exact ⟨a, C, dx, vs, e, g, by rw [lk_at ne]; exact h1, hk, Reps.lk hF h2, lk_none.mpr n0, lk_none.mpr n1⟩
theorem SRep.ul {s : S} {v : V} (hF : F d = some (.frz od (.dK l))) (h : SRep K H0 F H s v) : SRep K (DL.ul d H0) (DL.ul d F) (DL.ul d H) s v := by
  cases s with
  | d x => exact Rep.ul hF h
  | ol xs =>
    obtain ⟨a, vs, e, h1, h2, n0, n1⟩ := h
    have ne : a ≠ d := fun z => by rw [z, hF] at n1; cases n1
    exact ⟨a, vs, e, by rw [ul_at ne]; exact h1, Reps.ul hF h2, ul_none.mpr n0, ul_none.mpr n1⟩
  | od kvs =>
    obtain ⟨a, vs, e, h1, hk, h2, n0, n1⟩ := h
    have ne : a ≠ d := fun z => by rw [z, hF] at n1; cases n1
    exact ⟨a, vs, e, by rw [ul_at ne]; exact h1, hk, Reps.ul hF h2, ul_none.mpr n0, ul_none.mpr n1⟩
  | oi N kvs =>
    obtain ⟨a, C, dx, vs, e, g, h1, hk, h2, n0, n1⟩ := h
    have ne : a ≠ d := fun z => by rw [z, hF] at n1; cases n1
    exact ⟨a, C, dx, vs, e, g, by rw [ul_at ne]; exact h1, hk, Reps.ul hF h2, ul_none.mpr n0, ul_none.mpr n1⟩
theorem Rel.lk (hF : F d = some (.dK l)) (r : Rel K H0 F0 F H ρ σ) : Rel K (DL.lk d od H0) (DL.lk d od F0) (DL.lk d od F) (DL.lk d od H) ρ σ :=
  ⟨Same.lk r.h, Same.lk r.f, Same.lk r.fh, fun a q => by
    rcases r.nw a (fun z => q (lk_none.mpr z)) with z | z
    · exact .inl fun y => z (lk_none.mp y)
    · exact .inr (lk_none.mpr z), r.len, fun i s q => by
    obtain ⟨v, e, sr⟩ := r.at_ i s q
    exact ⟨v, e, sr.lk hF⟩, r.ap⟩
theorem Rel.ul (hF : F d = some (.frz od (.dK l))) (r : Rel K H0 F0 F H ρ σ) : Rel K (DL.ul d H0) (DL.ul d F0) (DL.ul d F) (DL.ul d H) ρ σ :=
  ⟨Same.ul r.h, Same.ul r.f, Same.ul r.fh, fun a q => by
    rcases r.nw a (fun z => q (ul_none.mpr z)) with z | z
    · exact .inl fun y => z (ul_none.mp y)
    · exact .inr (ul_none.mpr z), r.len, fun i s q => by
    obtain ⟨v, e, sr⟩ := r.at_ i s q
    exact ⟨v, e, sr.ul hF⟩, r.ap⟩
end
/-! ### for k in NAME, NAME a dict -/
theorem upd_lk {H : Hp} {d : Addr} {od : Obj} {l : List (Key × V)} (h : H d = some (.dK l)) : upd H d (.frz od (.dK l)) = lk d od H := by
  funext a
  by_cases e : a = d
  · subst e; rw [upd_same]; unfold lk; rw [if_pos rfl, h]; rfl
  · rw [upd_ne e, lk_at e]
theorem upd_ul {H : Hp} {d : Addr} {od : Obj} {u : HO} (h : H d = some (.frz od u)) : upd H d u = ul d H := by
  funext a
  by_cases e : a = d
  · subst e; rw [upd_same]; unfold ul; rw [if_pos rfl, h]; rfl
  · rw [upd_ne e, ul_at e]
def kD : Key → D
  | .inl i => .int i
  | .inr s => .str s
theorem rep_kD {K : PySem.W.Frag} {F : Hp} : ∀ k : Key, Rep K F (kD k) (kV k)
  | .inl _ => rfl
  | .inr _ => rfl
def tTail (J : It) (g : TG) (tb : TS) : TS := fun D σ H => ∃ W : Nat → Nat → St → Hp → Prop, (∃ m, W 0 m σ H) ∧ ∀ i m σ H, W i m σ H →
  (J.stop i H ∧ D.nx σ H) ∨ (J.go i H ∧ ∃ N : St → Hp → Prop, (∀ σ' H', N σ' H' → ∃ m', m' < m ∧ W (i + 1) m' σ' H') ∧ ∀ x H', J.yld i H x H' → g x σ H' fun σ2 H2 => tb { D with nx := N, ct := N, bk := D.nx } σ2 H2)
section
variable {K : PySem.W.Frag} {X : Cx} {Z : Zx} {pos : Pos}
theorem for_tail {J : It} {items : List D} {g : TG} {wg : WG} {tb : TS} {wb : WS} {H0 F0 F1 H1 : Hp} {ρ1 : R} {σ : St} {DD : DEnds} {Dh : Ends} (hg : RunG K Z g wg) (hb : RunS K Z tb wb) (zo : Z.Ok K H0 F0) (r1 : Rel K H0 F0 F1 H1 ρ1 σ) (ee : EndsOk K H0 F0 F1 DD Dh) (it : ItOk K J items F1) (h1 : forD wg wb DD items ρ1) : tTail J g tb Dh σ H1 := by
  refine ⟨fun i m σ H => m = items.length - i ∧ i ≤ items.length ∧ ∃ F2 ρ2, Same F1 F2 ∧ Rel K H0 F0 F2 H ρ2 σ ∧ forD wg wb DD (items.drop i) ρ2, ⟨_, rfl, Nat.zero_le _, F1, ρ1, Same.refl _, r1, h1⟩, ?_⟩
  rintro i m σ H ⟨rfl, hi, F2, ρ2, f2, r2, w⟩
  by_cases hlt : i < items.length
  · refine .inr ⟨it.go f2 r2.fh hlt, fun σ' H' => (fun i m σ H => m = items.length - i ∧ i ≤ items.length ∧ ∃ F2 ρ2, Same F1 F2 ∧ Rel K H0 F0 F2 H ρ2 σ ∧ forD wg wb DD (items.drop i) ρ2) (i + 1) (items.length - (i + 1)) σ' H',
      fun σ' H' q => ⟨_, by omega, q⟩, fun x H2 y => ?_⟩
    obtain ⟨F3, d, e, hh, ff, fh, nw, rp⟩ := it.yld f2 r2.fh y hlt
    have r3 : Rel K H0 F0 F3 H2 ρ2 σ := r2.after hh ff fh nw
    rw [List.drop_eq_getElem_cons hlt] at w
    have ed : items[i] = d := by rw [List.getElem?_eq_getElem hlt] at e; exact Option.some.inj e
    rw [ed] at w
    refine hg zo r3 rp w fun ρ4 F4 H4 σ4 p4 f4 r4 => ?_
    obtain ⟨N, hN, p4⟩ := p4
    refine hb (DD := ⟨N, DD.rt, DD.nx, N⟩) zo r4 ⟨fun ρ' F' H' σ' q f r => ?_, ?_, fun ρ' F' H' σ' q f r => ee.nx _ _ _ _ q (f2.trans (ff.trans (f4.trans f))) r, fun ρ' F' H' σ' q f r => ?_⟩ p4
    · exact ⟨rfl, hlt, F', ρ', f2.trans (ff.trans (f4.trans f)), r, hN _ q⟩
    · exact fun s v F' H' q f => ee.rt s v F' H' q (f2.trans (ff.trans (f4.trans f)))
    · exact ⟨rfl, hlt, F', ρ', f2.trans (ff.trans (f4.trans f)), r, hN _ q⟩
  · have e : items.drop i = [] := List.drop_eq_nil_of_le (by omega)
    rw [e] at w
    exact .inl ⟨it.stop f2 r2.fh (by omega), ee.nx _ _ _ _ w f2 r2⟩
theorem it_keys {F : Hp} {d : Addr} {o : Obj} {ks : List Key} {vs : List V} (hl : ks.length = vs.length) (h : F d = some (.frz o (.dK (ks.zip vs)))) : ItOk K (Itk d o (ks.zip vs)) (ks.map kD) F := by
  have e : (ks.zip vs).length = ks.length := by simp [hl]
  refine .pure (fun f fh l => ⟨fh _ _ (f _ _ h), by simpa [hl] using l⟩) (fun f fh l => ⟨fh _ _ (f _ _ h), by simpa [hl] using l⟩) fun {i F' H H2 x} f fh y l => ?_
  obtain ⟨rfl, k, v, q, rfl⟩ := y
  have q2 : ks[i]? = some k := by
    have := (List.getElem?_zip_eq_some.mp q).1
    exact this
  exact ⟨kD k, by rw [List.getElem?_map, q2]; rfl, rfl, rep_kD k⟩
def tLk (t : TS) : TS := fun D σ H => tLock t D σ H ∨ t D σ H
theorem ps_lk {st : Stmt} {t : TS} (h : PS X st t) : PS X st (tLk t) :=
  ⟨fun pins s σ H D I hw => hw.elim (fun q => (ps_lock h).run pins s σ H D I q) fun q => h.run pins s σ H D I q⟩
def wForK (i : Nat) (wg : WG) (wb : WS) : WS := fun DD ρ => ∃ ks xs, nth ρ i = some (.d (.dic ks xs)) ∧ forD wg wb DD (ks.map kD) ρ
theorem run_forK {i : Nat} {g : TG} {wg : WG} {tb : TS} {wb : WS} (hg : RunG K Z0 g wg) (hb : RunS K Z0 tb wb) : RunS K Z (tLk (tFor (iKeys (tVar i)) g tb)) (wForK i wg wb) := fun {H0 F0 F H ρ σ DD Dh} zo rl ee h => by
  obtain ⟨ks, xs, e, w⟩ := h
  obtain ⟨v, e1, d, vs, rfl, q, hl, rp⟩ := rl.at_ i _ (nth_some e)
  have core : ∀ {H0 F0 F H : Hp} {o : Obj} {Dh : Ends}, F d = some (.frz o (.dK (ks.zip vs))) → Rel K H0 F0 F H ρ σ → EndsOk K H0 F0 F DD Dh → tFor (iKeys (tVar i)) g tb Dh σ H := fun {H0 F0 F H o Dh} hf r ee =>
    ⟨_, e1, d, o, rfl, .inl ⟨_, r.fh _ _ hf, for_tail hg hb Z0.ok r ee (it_keys hl hf) w⟩⟩
  rcases q with q | ⟨o, q⟩
  · refine .inl ⟨d, _, rl.fh _ _ q, trivial, fun od => ?_⟩
    have hH := rl.fh _ _ q
    have qF : lk d od F d = some (.frz od (.dK (ks.zip vs))) := by unfold lk; rw [if_pos rfl, q]; rfl
    have u0 : ul d (lk d od H0) = H0 := ul_lk (l := ks.zip vs) fun o z => by have := rl.h _ _ z; rw [hH] at this; cases this; rfl
    have u1 : ul d (lk d od F0) = F0 := ul_lk (l := ks.zip vs) fun o z => by have := rl.f _ _ z; rw [q] at this; cases this; rfl
    have u2 : ul d (lk d od F) = F := ul_lk (l := ks.zip vs) fun o z => by rw [q] at z; cases z; rfl
    have back : ∀ {F' H' : Hp} {ρ' : R} {σ' : St}, Same (lk d od F) F' → Rel K (lk d od H0) (lk d od F0) F' H' ρ' σ' → (H' d = some (.frz od (.dK (ks.zip vs)))) ∧ Same F (ul d F') ∧ Rel K H0 F0 (ul d F') (upd H' d (.dK (ks.zip vs))) ρ' σ' := fun {F' H' ρ' σ'} f r => by
      have f1 := f _ _ qF
      have h1 := r.fh _ _ f1
      refine ⟨h1, ?_, ?_⟩
      · have := Same.ul (d := d) f; rw [u2] at this; exact this
      · have := r.ul f1; rw [u0, u1] at this; rw [upd_ul h1]; exact this
    rw [upd_lk hH]
    refine core qF (rl.lk q) ⟨fun ρ' F' H' σ' p f r => ?_, fun s v F' H' p f h0 f0 fh nw sr => ?_, fun ρ' F' H' σ' p f r => ?_, fun ρ' F' H' σ' p f r => ?_⟩
    · obtain ⟨a, b, c⟩ := back f r; exact ⟨a, ee.nx _ _ _ _ p b c⟩
    · have f1 := f _ _ qF
      have h1 := fh _ _ f1
      refine ⟨h1, ?_⟩
      rw [upd_ul h1]
      have t0 := Same.ul (d := d) h0
      have t1 := Same.ul (d := d) f0
      have t2 := Same.ul (d := d) f
      have t3 := Same.ul (d := d) fh
      have t4 := sr.ul f1
      rw [u0] at t0 t4; rw [u1] at t1; rw [u2] at t2
      refine ee.rt s v _ _ p t2 t0 t1 t3 (fun a z => ?_) t4
      rcases nw a (fun y => z (ul_none.mpr y)) with y | y
      · exact .inl fun x => y (lk_none.mpr x)
      · exact .inr (lk_none.mp y)
    · obtain ⟨a, b, c⟩ := back f r; exact ⟨a, ee.bk _ _ _ _ p b c⟩
    · obtain ⟨a, b, c⟩ := back f r; exact ⟨a, ee.ct _ _ _ _ p b c⟩
  · exact .inr (core q rl ee)
theorem ds_forK {i : Nat} {x : Str} {tg : Expr} {body : List Stmt} {g : TG} {wg : WG} {tb : TS} {wb : WS} {py : Pos} (hp : PassesOwn (model X.prog X.w) X.A X.env X.xe) (hc : X.calm = true) (hg : DG K X Z0 tg g wg) (hb : DSs K X Z0 body tb wb) (hN : X.N[i]? = some x := by rfl) (hv : Vis X.env.scope x := by first | exact Or.inl rfl | exact Or.inr (Or.inl rfl) | exact Or.inr (Or.inr rfl)) (hd : (x == ("__debug__" : Str)) = false := by decide) (hcd : (x == ("__classdict__" : Str)) = false := by decide)
    (hs : ∀ y, foldedSetIterable (.Name x py) X.env y = pure y := by intro _; rfl) : DS K X Z (.For tg (.Name x py) body [] pos) (tLk (tFor (iKeys (tVar i)) g tb)) (wForK i wg wb) :=
  ⟨ps_lk (ps_for hp hc (pi_keys (pe_var hN hv hd hcd)) hg.pe hb.pe hs), run_forK hg.run hb.run⟩
/-! ### expressions that walk a dict held by a name -/
def tLkE (t : TE) : TE := fun σ H Q => tLockE t σ H Q ∨ t σ H Q
theorem pe_lk {e : Expr} {t : TE} (h : PE X e t) : PE X e (tLkE t) :=
  ⟨fun pins s σ H Q I hw => hw.elim (fun q => (pe_lock h).run pins s σ H Q I q) fun q => h.run pins s σ H Q I q⟩
def Lkd (i : Nat) (σ : St) (H : Hp) : Prop := ∃ d o u, σ[i]? = some (some (.ref d)) ∧ H d = some (.frz o u)
theorem run_lkE {i : Nat} {t t' : TE} {w : W} (hr : RunE K Z0 t' w) (ht : ∀ σ H Q, Lkd i σ H → t' σ H Q → t σ H Q) (hw : ∀ ρ P, w ρ P → ∃ ks xs, nth ρ i = some (.d (.dic ks xs))) : RunE K Z (tLkE t) w := fun {H0 F0 F H ρ σ Q P} zo rl h k => by
  obtain ⟨ks, xs, e⟩ := hw ρ P h
  obtain ⟨v, e1, d, vs, rfl, q, hl, rp⟩ := rl.at_ i _ (nth_some e)
  rcases q with q | ⟨o, q⟩
  · refine .inl ⟨d, _, rl.fh _ _ q, trivial, fun od => ?_⟩
    have hH := rl.fh _ _ q
    have qF : lk d od F d = some (.frz od (.dK (ks.zip vs))) := by unfold lk; rw [if_pos rfl, q]; rfl
    have u0 : ul d (lk d od H0) = H0 := ul_lk (l := ks.zip vs) fun o z => by have := rl.h _ _ z; rw [hH] at this; cases this; rfl
    have u1 : ul d (lk d od F0) = F0 := ul_lk (l := ks.zip vs) fun o z => by have := rl.f _ _ z; rw [q] at this; cases this; rfl
    have u2 : ul d (lk d od F) = F := ul_lk (l := ks.zip vs) fun o z => by rw [q] at z; cases z; rfl
    have r1 := rl.lk (od := od) q
    rw [upd_lk hH]
    refine ht _ _ _ ⟨d, od, _, e1, r1.fh _ _ qF⟩ (hr Z0.ok r1 h fun s ρ' F' H' v p f r sr fr => ?_)
    have f1 := f _ _ qF
    have h1 := r.fh _ _ f1
    refine ⟨h1, ?_⟩
    rw [upd_ul h1]
    have t2 := Same.ul (d := d) f
    have t3 := r.ul f1
    have t4 := sr.ul f1
    rw [u2] at t2; rw [u0, u1] at t3; rw [u0] at t4
    exact k s ρ' _ _ v p t2 t3 t4 fr
  · exact .inr (ht _ _ _ ⟨d, o, _, e1, rl.fh _ _ q⟩ (hr Z0.ok rl h k))
def wiKeys (i : Nat) : WA := fun ρ P => ∃ ks xs, nth ρ i = some (.d (.dic ks xs)) ∧ P (ks.map kD) ρ
def iKeysF (i : Nat) : TI := fun σ H R => Lkd i σ H → iKeys (tVar i) σ H R
theorem run_keysF {i : Nat} : RunI K Z (iKeysF i) (wiKeys i) := fun {H0 F0 F H ρ σ Q P} zo rl h k => by
  rintro ⟨d', o, u, z1, z2⟩
  obtain ⟨ks, xs, e, w⟩ := h
  obtain ⟨v, e1, d, vs, rfl, q, hl, rp⟩ := rl.at_ i _ (nth_some e)
  rw [z1] at e1; cases e1
  rcases q with q | ⟨o2, q⟩
  · have := rl.fh _ _ q; rw [z2] at this; cases this
  · exact ⟨_, z1, d', o2, rfl, .inl ⟨_, rl.fh _ _ q, k _ _ F H _ w (Same.refl _) rl (it_keys hl q)⟩⟩
section
variable {elt tg : Expr} {ifs : List Expr} {scope : Scope} {own : List (Str × Nat)} {g : TG} {wg : WG} {tt : TT} {wt : WT} {te : TE} {we : W}
theorem de_lcK {i : Nat} {x : Str} {px : Pos} (hc : X.calm = true) (hN : X.N.Nodup) (ok : BlkOk X.N X.env.scope scope own)
    (hg : ∀ (s : Shared) (H : Hp) (C : Addr) (cl : List (Str × Addr)) (fp : List Addr), DGb K (X.blk s H scope (compEnvC scope cl C X.env) fp) Z0 tg (own.map (·.2)) g wg) (ht : ∀ (s : Shared) (H : Hp) (C : Addr) (cl : List (Str × Addr)) (fp : List Addr), DTs K (X.blk s H scope (compEnvC scope cl C X.env) fp) Z0 ifs tt wt)
    (he : ∀ (s : Shared) (H : Hp) (C : Addr) (cl : List (Str × Addr)) (fp : List Addr), DE K (X.blk s H scope (compEnvC scope cl C X.env) fp) Z0 elt te we) (hx : X.N[i]? = some x := by rfl) (hv : Vis X.env.scope x := by first | exact Or.inl rfl | exact Or.inr (Or.inl rfl) | exact Or.inr (Or.inr rfl)) (hd : (x == ("__debug__" : Str)) = false := by decide) (hcd : (x == ("__classdict__" : Str)) = false := by decide)
    (hs : ∀ y, foldedSetIterable (.Name x px) X.env y = pure y := by intro _; rfl) :
    DE K X Z (.ListComp elt [⟨tg, .Name x px, ifs, 0⟩] scope pos) (tLkE (tLc (iKeys (tVar i)) g tt te (own.map (·.2)))) (wLc (wiKeys i) wg wt we (own.map (·.2))) :=
  ⟨pe_lk (pe_lc hc hN (pi_keys (pe_var hx hv hd hcd)) ok (fun s H C cl fp => (hg s H C cl fp).pe) (fun s H C cl fp => (ht s H C cl fp).pe) (fun s H C cl fp => (he s H C cl fp).pe) hs),
    run_lkE (t' := tLc (iKeysF i) g tt te (own.map (·.2))) (run_lc run_keysF (hg X.s_0 (fun _ => none) 0 [] []).run (ht X.s_0 (fun _ => none) 0 [] []).run (he X.s_0 (fun _ => none) 0 [] []).run)
      (fun σ H Q hl h => h hl) fun ρ P h => by obtain ⟨ks, xs, e, _⟩ := h; exact ⟨ks, xs, e⟩⟩
end
end
end DL
/-! DL15: dict(list of pairs). -/
namespace DL
open PySem L2
def pairD : D → Option (Key × D)
  | .tup [.int i, x] => some (.inl i, x)
  | .tup [.str s, x] => some (.inr s, x)
  | _ => none
def pairsD : List D → Option (List (Key × D))
  | [] => some []
  | d :: ds => match pairD d, pairsD ds with
    | some p, some ps => some (p :: ps)
    | _, _ => none
def mergeD (kvs more : List (Key × D)) : List (Key × D) := more.foldl (fun acc kv => vput acc kv.1 kv.2) kvs
section
variable {K : PySem.W.Frag} {X : Cx} {Z : Zx} {pos p : Pos} {a : Expr} {ta : TE} {wa : W}
theorem KRep.merge {F : Hp} : ∀ {more : List (Key × D)} {lm : List (Key × V)} {kvs : List (Key × D)} {l : List (Key × V)}, KRep K F more lm → KRep K F kvs l → KRep K F (mergeD kvs more) (mergeK l lm)
  | [], lm, kvs, l, hm, hk => by rw [hm.nil]; exact hk
  | q :: more, lm, kvs, l, hm, hk => by
    obtain ⟨r, l', rfl, e, rr, h'⟩ := hm.cons
    show KRep K F (mergeD (vput kvs q.1 q.2) more) (mergeK (putK l r.1 r.2) l')
    rw [e]
    exact KRep.merge h' (KRep.put rr hk)
theorem pairs_reps {F H : Hp} (fh : Same F H) : ∀ {ds : List D} {vs : List V} {kvs : List (Key × D)}, pairsD ds = some kvs → Reps K F ds vs → ∃ (ps : List Addr) (l : List (Key × V)), vs = ps.map V.ref ∧ KRep K F kvs l ∧ Paired (fun p kv => SqT K H p [kV kv.1, kv.2]) ps l
  | [], vs, kvs, e, r => by
    cases e
    cases (show vs = [] from r)
    exact ⟨[], [], rfl, ⟨rfl, rfl⟩, .nil⟩
  | d :: ds, vs, kvs, e, r => by
    obtain ⟨v, vs', rfl, r1, r2⟩ := r
    unfold pairsD at e
    split at e
    · rename_i p ps e1 e2
      cases e
      obtain ⟨as, l, rfl, k1, k2⟩ := pairs_reps fh e2 r2
      unfold pairD at e1
      split at e1
      · cases e1
        obtain ⟨b, us, rfl, s1, u1, _, rfl, q1, u2, _, rfl, q2, rfl⟩ := r1
        cases (show u1 = _ from q1)
        exact ⟨b :: as, _ :: l, rfl, KRep.mk (q := (.inl _, u2)) rfl q2 k1, .cons (Same.sqT fh s1) k2⟩
      · cases e1
        obtain ⟨b, us, rfl, s1, u1, _, rfl, q1, u2, _, rfl, q2, rfl⟩ := r1
        cases (show u1 = _ from q1)
        exact ⟨b :: as, _ :: l, rfl, KRep.mk (q := (.inr _, u2)) rfl q2 k1, .cons (Same.sqT fh s1) k2⟩
      · cases e1
    · cases e
def oDictP : OL := fun ds P => match ds with
  | [.lst xs] => asA (pairsD xs) fun kvs => P (.od (mergeD [] kvs))
  | _ => False
abbrev qDictP (K : PySem.W.Frag) : List V → Hp → VK → Prop := fun xs H Q => ∃ (a : Addr) (ps : List Addr) (kvs : List (Key × V)), xs = [.ref a] ∧ SqL K H a (ps.map V.ref) ∧ Paired (fun p kv => SqT K H p [kV kv.1, kv.2]) ps kvs ∧
    ∀ p, H p = none → Q (.ref p) (upd H p (.dK (mergeK [] kvs)))
theorem snd_dictP : SndL K (qDictP K) oDictP := ⟨fun {F H ds vs P Q} fh r h k => by
  unfold oDictP at h
  split at h
  · rename_i xs
    obtain ⟨kvs, e, h⟩ := asA_of h
    obtain ⟨v, _, rfl, ⟨b, us, rfl, s1, s2⟩, rfl⟩ := r
    obtain ⟨ps, l, rfl, k1, k2⟩ := pairs_reps fh e s2
    have km := KRep.merge (kvs := []) (l := []) k1 ⟨rfl, rfl⟩
    exact ⟨b, ps, l, rfl, .inl (.inl (fh _ _ s1)), k2, fun p n => k.newD fh h km.1 km.2 n⟩
  · exact h.elim⟩
theorem de_dictP (hcalm : X.calm = true) (m : X.mg "dict" = none) (ha : DE K X Z a ta wa) (hg : Gl X "dict" := by rfl) (hs : starEach [a] X.env = [(false, eval a X.env)] := by rfl) (hK : X.K = K := by rfl) : DE K X Z (.Call (.Name "dict" p) [a] [] pos) (tCB (qDictP K) (tCons ta tNil)) (wCB oDictP (wCons wa wNil)) := by
  subst hK
  exact de_callTy (call_dictP hcalm) snd_dictP hg m (by decide +kernel) (da_cons ha da_nil hs) (hn := by decide) (hdb := by decide) (he := hs) (hpl := rfl)
end
end DL
/-! DL16: sorted of a text; pow, minus, is, chains of comparisons; int, str, divmod, bit-and; own slots frozen ahead of a statement; an own list's item stored. -/
namespace DL
open PySem PySem.Spec PyProof.Rows L2
section
variable {P : Program} {w : World} {A : Around} {s : Shared}
theorem strsAre_at : ∀ {us : List Value} {ss : List Str}, us.length = ss.length → (∀ (j : Nat) (v : Value), us[j]? = some v → ∃ x t, ss[j]? = some x ∧ v = .str x t) → StrsAre us ss
  | [], [], _, _ => .nil
  | u :: us, q :: ss, hl, h => by
    obtain ⟨x, t, e1, rfl⟩ := h 0 u rfl
    have e1' : q = x := Option.some.inj e1
    subst e1'
    exact .cons _ t (strsAre_at (Nat.succ.inj hl) fun j v e => h (j + 1) v e)
  | [], _ :: _, hl, _ => nomatch hl
  | _ :: _, [], hl, _ => nomatch hl
theorem col_str {x : Str} {t : Tok} (hh : A.handled = none) (hx : x.length ≤ sizeLine) :
    ∀ (E' : Value → Shared → Prop) (Q' : List Value → Shared → Prop), (∀ s' vs ks', Later s s' → StrsAre vs ks' → ks'.Perm (signs x) → Q' vs s') → wpAny (model P w) A (collect (.str x t)) Q' E' s := fun E' Q' h =>
  wpAny_collect_str hh x t (hn := hx) fun s' acc k g d o it => h s' acc.toList (signs x) ⟨k, g, o⟩ (strsAre_at (by rw [Array.length_toList, it.1]; simp [signs]) fun j v e => by
    obtain ⟨c, u, e1, e2⟩ := it.2 j v (by rw [← Array.getElem?_toList]; exact e)
    have hc' : x.cps.toList[j]? = some c := by rw [Array.getElem?_toList]; exact e1
    exact ⟨⟨#[c]⟩, u, by simp [signs, hc'], e2⟩) (List.Perm.refl _)
end
section
variable {K : PySem.W.Frag} {w : World} {X : Cx} {Z : Zx} {pos p p2 : Pos} {a b c e : Expr} {ta tb tc te : TE} {wa wb wc we : W}
def rSortStr : List V → Hp → VK → Prop := fun vs H Q => ∃ x, vs = [.str x] ∧ x.length ≤ sizeLine ∧ ∀ ys p, ys.Perm (signs x) → sortedS ys = true → H p = none → Q (.ref p) (upd H p (.lst (ys.map V.str)))
theorem cr_sortStr (hc : X.calm = true) : CallR X (.builtin "sorted") rSortStr := by
  intro pins s σ H vs us Q I r h
  obtain ⟨x, rfl, hL, q⟩ := h
  obtain ⟨u, rfl, t, rfl⟩ := vals1 r
  have hL' : (signs x).length ≤ sizeLine := by
    have : (signs x).length = x.length := by simp [signs]; rfl
    rw [this]; exact hL
  refine sorted_by (ks := signs x) (col_str (show X.A.in1.handled = none from I.ok.hd hc) hL) hL' fun s1 s' p out c ys l1 la hp ho hS pm hs => ?_
  exact sorted_fin I l1 la hp ho hS (by rw [pm.length_eq]; exact hL') fun hn => q ys p pm hs hn
theorem CallR.or {f : Value} {r r' : List V → Hp → VK → Prop} (h : CallR X f r) (h' : CallR X f r') : CallR X f fun vs H Q => r vs H Q ∨ r' vs H Q := fun pins s σ H vs us Q I rr q => q.elim (fun z => h pins s σ H vs us Q I rr z) fun z => h' pins s σ H vs us Q I rr z
abbrev rSortXX (K : PySem.W.Frag) (w : World) : List V → Hp → VK → Prop := fun vs H Q => rSortX K w vs H Q ∨ rSortStr vs H Q
def oSortX : OL := fun ds P => match ds with
  | [.lst xs] => asA (txts xs) fun ss => ss.length ≤ sizeLine ∧ P (.ol ((srt ss).map .str))
  | [.str x] => x.length ≤ sizeLine ∧ P (.ol ((srt (signs x)).map .str))
  | _ => False
theorem snd_sortX : SndL K (rSortXX K w) oSortX := ⟨fun {F H ds vs P Q} fh r h k => by
  unfold oSortX at h
  split at h
  · exact .inl (snd_sort.run fh r h k)
  · obtain ⟨v, _, rfl, rfl, rfl⟩ := r
    exact .inr ⟨_, rfl, h.1, fun ys p pm hs n => by rw [srt_eq pm hs]; exact k.newL fh h.2 (Reps.strs.mpr rfl) n⟩
  · exact h.elim⟩
theorem de_sortX (hc : X.calm = true) (m : X.mg "sorted" = none) (ha : DE K X Z a ta wa) (hg : Gl X "sorted" := by rfl) (hs : starEach [a] X.env = [(false, eval a X.env)] := by rfl) (hK : X.K = K := by rfl) (hw : X.w = w := by rfl) : DE K X Z (.Call (.Name "sorted" p) [a] [] pos) (tCB (rSortXX K w) (tCons ta tNil)) (wCB oSortX (wCons wa wNil)) := by
  subst hK; subst hw
  exact de_callB (CallR.or (cr_sortX hc) (cr_sortStr hc)) snd_sortX hg m (by decide +kernel) (da_cons ha da_nil hs) (hn := by decide) (hdb := by decide) (he := hs) (hpl := rfl)
/-! ### numbers -/
abbrev oPow : O2 := oI (fun i j => .int (i ^ j.toNat)) CPow
abbrev qPow : R2 := rI CPow fun i j => .int (i ^ j.toNat)
theorem de_pow (ha : DE K X Z a ta wa) (hb : DE K X Z b tb wb) : DE K X Z (.BinOp a .Pow b pos) (tOp qPow ta tb) (wOp oPow wa wb) := de_op op_pow (snd_I fun _ _ _ => rfl) ha hb
abbrev oBitAnd : O2 := oI0 fun i j => .int (Builtin.bitAnd i j)
theorem de_bitand (ha : DE K X Z a ta wa) (hb : DE K X Z b tb wb) : DE K X Z (.BinOp a .BitAnd b pos) (tOp (rI0 fun i j => .int (Builtin.bitAnd i j)) ta tb) (wOp oBitAnd wa wb) := de_op op_and (snd_I0 fun _ _ _ => rfl) ha hb
abbrev oShl : O2 := oI (fun i j => .int (i * 2 ^ j.toNat)) CPow
theorem de_shl (ha : DE K X Z a ta wa) (hb : DE K X Z b tb wb) : DE K X Z (.BinOp a .LShift b pos) (tOp (rI CPow fun i j => .int (i * 2 ^ j.toNat)) ta tb) (wOp oShl wa wb) := de_op op_shl (snd_I fun _ _ _ => rfl) ha hb
def oNeg : O1 := fun x P => asI x fun i => P (.d (.int (-i)))
theorem snd_neg : Snd1 K (rU fun i => .int (-i)) oNeg := ⟨fun {F H x vx P Q} fh rx h k => by
  obtain ⟨i, rfl, h⟩ := asI_of h rx
  exact ⟨i, rfl, k.flat (d := .int (-i)) fh h rfl⟩⟩
theorem de_neg (ha : DE K X Z a ta wa) : DE K X Z (.UnaryOp .USub a pos) (tUn (rU fun i => .int (-i)) ta) (wUn oNeg wa) := de_un un_neg snd_neg ha
/-- int(x): an int, a truth -/
def oInt : OL := fun ds P => match ds with
  | [.int i] => P (.d (.int i))
  | [.bl b] => P (.d (.int (if b then 1 else 0)))
  | [.str a] => a.length ≤ 640 ∧ asA (PySem.intText? a) fun n => P (.d (.int n))
  | _ => False
abbrev qInt : List V → Hp → VK → Prop := fun xs H Q => ((∃ i, xs = [.int i] ∧ Q (.int i) H) ∨ ∃ k, xs = [.bl k] ∧ Q (.int (if k then 1 else 0)) H) ∨ ∃ a n, xs = [.str a] ∧ PySem.intText? a = some n ∧ a.length ≤ 640 ∧ Q (.int n) H
theorem snd_int : SndL K qInt oInt := ⟨fun {F H ds vs P Q} fh r h k => by
  unfold oInt at h
  split at h
  · obtain ⟨v, _, rfl, rfl, rfl⟩ := r
    exact .inl (.inl ⟨_, rfl, k.flat (d := .int _) fh h rfl⟩)
  · obtain ⟨v, _, rfl, rfl, rfl⟩ := r
    exact .inl (.inr ⟨_, rfl, k.flat (d := .int _) fh h rfl⟩)
  · obtain ⟨v, _, rfl, rfl, rfl⟩ := r
    obtain ⟨n, e, h2⟩ := asA_of h.2
    exact .inr ⟨_, n, rfl, e, h.1, k.flat (d := .int _) fh h2 rfl⟩
  · exact h.elim⟩
theorem de_intC (m : X.mg "int" = none) (ha : DE K X Z a ta wa) (hg : Gl X "int" := by rfl) (hs : starEach [a] X.env = [(false, eval a X.env)] := by rfl) : DE K X Z (.Call (.Name "int" p) [a] [] pos) (tCB qInt (tCons ta tNil)) (wCB oInt (wCons wa wNil)) :=
  de_callTy (CallR.or call_int1 call_int_str) snd_int hg m (by decide +kernel) (da_cons ha da_nil hs) (hn := by decide) (hdb := by decide) (he := hs) (hpl := rfl)
def oStr : OL := fun ds P => match ds with
  | [.int i] => i.natAbs.log2 < 1920 ∧ P (.d (.str (toString i)))
  | _ => False
theorem snd_str : SndL K (fun xs H Q => ∃ i, xs = [.int i] ∧ i.natAbs.log2 < 1920 ∧ Q (.str (toString i)) H) oStr := ⟨fun {F H ds vs P Q} fh r h k => by
  unfold oStr at h
  split at h
  · obtain ⟨v, _, rfl, rfl, rfl⟩ := r
    exact ⟨_, rfl, h.1, k.flat (d := .str _) fh h.2 rfl⟩
  · exact h.elim⟩
theorem de_strC (m : X.mg "str" = none) (ha : DE K X Z a ta wa) (hg : Gl X "str" := by rfl) (hs : starEach [a] X.env = [(false, eval a X.env)] := by rfl) : DE K X Z (.Call (.Name "str" p) [a] [] pos) (tCB (fun xs H Q => ∃ i, xs = [.int i] ∧ i.natAbs.log2 < 1920 ∧ Q (.str (toString i)) H) (tCons ta tNil)) (wCB oStr (wCons wa wNil)) :=
  de_callTy call_str_int snd_str hg m (by decide +kernel) (da_cons ha da_nil hs) (hn := by decide) (hdb := by decide) (he := hs) (hpl := rfl)
def oDivmod : OL := fun ds P => match ds with
  | [.int i, .int j] => CDivP i j ∧ P (.d (.tup [.int (i / j), .int (i % j)]))
  | _ => False
abbrev qDivmod : List V → Hp → VK → Prop := fun xs H Q => ∃ i j, xs = [.int i, .int j] ∧ CDivP i j ∧ ∀ p, H p = none → Q (.ref p) (upd H p (.tup [.int (i / j), .int (i % j)]))
theorem snd_divmod : SndL K qDivmod oDivmod := ⟨fun {F H ds vs P Q} fh r h k => by
  unfold oDivmod at h
  split at h
  · obtain ⟨v, _, rfl, rfl, v2, _, rfl, rfl, rfl⟩ := r
    exact ⟨_, _, rfl, h.1, fun p n => k.newT fh h.2 ⟨_, _, rfl, rfl, _, _, rfl, rfl, rfl⟩ n⟩
  · exact h.elim⟩
theorem de_divmod (m : X.mg "divmod" = none) (ha : DE K X Z a ta wa) (hb : DE K X Z b tb wb) (hg : Gl X "divmod" := by rfl) (hs : starEach [a, b] X.env = (false, eval a X.env) :: starEach [b] X.env := by rfl) (hs2 : starEach [b] X.env = [(false, eval b X.env)] := by rfl) (hpl : (backTo pos (starEach [b] X.env)).any (·.1) = false := by rfl) :
    DE K X Z (.Call (.Name "divmod" p) [a, b] [] pos) (tCB qDivmod (tCons ta (tCons tb tNil))) (wCB oDivmod (wCons wa (wCons wb wNil))) :=
  de_callB call_divmodW snd_divmod hg m (by decide +kernel) (da_cons ha (da_cons hb da_nil hs2) hs) (hn := by decide) (hdb := by decide) (he := hs) (hpl := hpl)
/-! ### is, is not: of None, of truths -/
def isD : D → D → Option Bool
  | .non, .non => some true
  | _, .non => some false
  | .bl a, .bl b => some (decide (a = b))
  | _, _ => none
def oIs (neg : Bool) : O2 := fun x y P => asA (isD x y) fun b => P (.d (.bl (xor neg b)))
abbrev rIs (neg : Bool) : R2 := fun x y H Q => (y = .non ∧ Q (.bl (xor neg (decide (x = .non)))) H) ∨ ∃ a b, x = .bl a ∧ y = .bl b ∧ Q (.bl (xor neg (decide (a = b)))) H
theorem op_isX : OpR X (compareOp .Is) (rIs false) := by
  intro pins s σ H x y v u Q I rx ry h
  rcases h with ⟨e, q⟩ | ⟨i, j, e1, e2, q⟩
  · exact op_isN pins s σ H x y v u Q I rx ry ⟨e, by rw [xor_f] at q; exact q⟩
  · exact op_is_bl pins s σ H x y v u Q I rx ry ⟨i, j, e1, e2, by rw [xor_f] at q; exact q⟩
theorem op_isNotX : OpR X (compareOp .IsNot) (rIs true) := by
  intro pins s σ H x y v u Q I rx ry h
  rcases h with ⟨e, q⟩ | ⟨i, j, e1, e2, q⟩
  · exact op_notN pins s σ H x y v u Q I rx ry ⟨e, by rw [xor_t] at q; exact q⟩
  · exact op_isnot_bl pins s σ H x y v u Q I rx ry ⟨i, j, e1, e2, by rw [xor_t] at q; exact q⟩
theorem rep_non {F : Hp} {d : D} {v : V} (r : Rep K F d v) : (v = .non) ↔ (d = .non) := by
  constructor
  · intro e
    subst e
    cases d with
    | non => rfl
    | bl b => exact absurd (show V.non = V.bl b from r) (by intro z; cases z)
    | int b => exact absurd (show V.non = V.int b from r) (by intro z; cases z)
    | str b => exact absurd (show V.non = V.str b from r) (by intro z; cases z)
    | ref b => exact absurd (show V.non = V.ref b from r) (by intro z; cases z)
    | ty b => exact absurd (show V.non = V.ty b from r) (by intro z; cases z)
    | cel ns => obtain ⟨_, e, _⟩ := r; cases e
    | lst xs => obtain ⟨_, _, e, _⟩ := r; cases e
    | tup xs => obtain ⟨_, _, e, _⟩ := r; cases e
    | dic ks xs => obtain ⟨_, _, e, _⟩ := r; cases e
    | ins C ns xs => obtain ⟨_, _, _, _, e, _⟩ := r; cases e
  · intro e
    subst e
    exact r
theorem snd_is {neg : Bool} : Snd2 K (rIs neg) (oIs neg) := ⟨fun {F H x y vx vy P Q} fh rx ry h k => by
  obtain ⟨b, e, h⟩ := asA_of h
  have fin : ∀ {c : Bool}, c = b → Q (.bl (xor neg c)) H := fun e => by rw [e]; exact k.flat (d := .bl _) fh h rfl
  unfold isD at e
  split at e
  · cases e
    cases (show vx = _ from rx); cases (show vy = _ from ry)
    exact .inl ⟨rfl, fin (by simp)⟩
  · rename_i hx
    cases e
    cases (show vy = _ from ry)
    exact .inl ⟨rfl, fin (decide_eq_false fun z => hx ((rep_non rx).mp z))⟩
  · cases e
    cases (show vx = _ from rx); cases (show vy = _ from ry)
    exact .inr ⟨_, _, rfl, rfl, fin rfl⟩
  · cases e⟩
theorem de_is (ha : DE K X Z a ta wa) (hb : DE K X Z b tb wb) (hm : behindInMarks .Is b = false := by rfl) : DE K X Z (.Compare a [.Is] [b] pos) (tOp (rIs false) ta tb) (wOp (oIs false) wa wb) := de_cmp op_isX snd_is hm ha hb
theorem de_isNot (ha : DE K X Z a ta wa) (hb : DE K X Z b tb wb) (hm : behindInMarks .IsNot b = false := by rfl) : DE K X Z (.Compare a [.IsNot] [b] pos) (tOp (rIs true) ta tb) (wOp (oIs true) wa wb) := de_cmp op_isNotX snd_is hm ha hb
theorem dt_is (ha : DE K X Z a ta wa) (hb : DE K X Z b tb wb) (hm : behindInMarks .Is b = false := by rfl) : DT K X Z (.Compare a [.Is] [b] pos) (tTest (tOp (rIs false) ta tb)) (wB (wOp (oIs false) wa wb)) := dt_cmp op_isX snd_is hm ha hb
theorem dt_isNot (ha : DE K X Z a ta wa) (hb : DE K X Z b tb wb) (hm : behindInMarks .IsNot b = false := by rfl) : DT K X Z (.Compare a [.IsNot] [b] pos) (tTest (tOp (rIs true) ta tb)) (wB (wOp (oIs true) wa wb)) := dt_cmp op_isNotX snd_is hm ha hb
/-! ### a op b op c -/
def wChain (o o' : O2) (wa wb wc : W) : W := fun ρ P => wa ρ fun x ρ1 => wb ρ1 fun y ρ2 => o x.fz y.fz fun s => asB s.fz fun c => if c = true then wc ρ2 fun z ρ3 => o' y.fz z.fz fun s => P s ρ3 else P (.d (.bl false)) ρ2
theorem run_chain {r r' : R2} {o o' : O2} (ha : RunE K Z ta wa) (hb : RunE K Z tb wb) (hc : RunE K Z tc wc) (ho : Snd2 K r o) (ho' : Snd2 K r' o') : RunE K Z (tChain r r' ta tb tc) (wChain o o' wa wb wc) := fun zo rl h k => by
  refine ha zo rl h fun s1 ρ1 F1 H1 v1 h1 f1 r1 sr1 fr1 => ?_
  obtain ⟨F2, f2, r2, rp2⟩ := r1.freeze sr1 fr1
  refine hb zo r2 h1 fun s3 ρ3 F3 H3 v3 h3 f3 r3 sr3 fr3 => ?_
  obtain ⟨F4, f4, r4, rp4⟩ := r3.freeze sr3 fr3
  refine ho.run r4.fh (Rep.mono (f3.trans f4) _ _ rp2) rp4 h3 fun s5 v5 F5 H5 h5 hh ff fh nw sr5 => ?_
  have r5 := r4.after hh ff fh nw
  have sr5' := SRep.after r4 sr5
  obtain ⟨F6, f6, r6, rp6⟩ := r5.freeze sr5'.1 sr5'.2
  obtain ⟨c, e, _, p⟩ := asB_of h5 rp6
  refine ⟨c, e, ?_⟩
  have f46 : Same F4 F6 := ff.trans f6
  cases c with
  | true =>
    rw [if_pos rfl] at p ⊢
    refine hc zo r6 p fun s7 ρ7 F7 H7 v7 h7 f7 r7 sr7 fr7 => ?_
    obtain ⟨F8, f8, r8, rp8⟩ := r7.freeze sr7 fr7
    exact ho'.run r8.fh (Rep.mono (f46.trans (f7.trans f8)) _ _ rp4) rp8 h7 (r8.kont (f1.trans (f2.trans (f3.trans (f4.trans (f46.trans (f7.trans f8)))))) k)
  | false =>
    rw [if_neg Bool.false_ne_true] at p ⊢
    exact k _ _ _ _ _ p (f1.trans (f2.trans (f3.trans (f4.trans f46)))) r6 rfl fun w => nomatch w
theorem de_chain {op op' : CmpOp} {r r' : R2} {o o' : O2} (hr : OpR X (compareOp op) r) (hr' : OpR X (compareOp op') r') (ho : Snd2 K r o) (ho' : Snd2 K r' o') (ha : DE K X Z a ta wa) (hb : DE K X Z b tb wb) (hc : DE K X Z c tc wc)
    (hm : lastMarks [op, op'] [b, c] = false := by with_unfolding_all rfl) : DE K X Z (.Compare a [op, op'] [b, c] pos) (tChain r r' ta tb tc) (wChain o o' wa wb wc) := ⟨pe_chain hr hr' ha.pe hb.pe hc.pe hm, run_chain ha.run hb.run hc.run ho ho'⟩
theorem dt_chain {op op' : CmpOp} {r r' : R2} {o o' : O2} (hr : OpR X (compareOp op) r) (hr' : OpR X (compareOp op') r') (ho : Snd2 K r o) (ho' : Snd2 K r' o') (ha : DE K X Z a ta wa) (hb : DE K X Z b tb wb) (hc : DE K X Z c tc wc)
    (hm : lastMarks [op, op'] [b, c] = false := by with_unfolding_all rfl) : DT K X Z (.Compare a [op, op'] [b, c] pos) (tTest (tChain r r' ta tb tc)) (wB (wChain o o' wa wb wc)) := ⟨pt_chain hr hr' ha.pe hb.pe hc.pe hm, run_B (run_chain ha.run hb.run hc.run ho ho')⟩
/-! ### an own slot frozen ahead -/
def frzR (ρ : R) (i : Nat) : R := match nth ρ i with
  | some (.d _) => ρ
  | some s => put ρ i (some (.d s.fz))
  | none => ρ
theorem Rel.frz {H0 F0 F H : Hp} {ρ : R} {σ : L2.St} (r : Rel K H0 F0 F H ρ σ) (i : Nat) : ∃ F', Same F F' ∧ Rel K H0 F0 F' H (frzR ρ i) σ := by
  unfold frzR
  split
  · exact ⟨F, Same.refl _, r⟩
  · rename_i s hs e
    have w : s.own = true := by
      cases s with
      | d x => exact absurd rfl (hs x)
      | ol _ => rfl
      | od _ => rfl
      | oi _ _ => rfl
    obtain ⟨v, F', e1, ff, r', rp⟩ := r.own_slot (nth_some e) w
    rw [put_eq]
    exact ⟨F', ff, r'⟩
  · exact ⟨F, Same.refl _, r⟩
def wFz (i : Nat) (w : WS) : WS := fun DD ρ => w DD (frzR ρ i)
def wFzE (i : Nat) (w : W) : W := fun ρ P => w (frzR ρ i) P
theorem ds_fz (i : Nat) {st : Stmt} {t : TS} {w : WS} (h : DS K X Z st t w) : DS K X Z st t (wFz i w) := ⟨h.pe, fun {H0 F0 F H ρ σ DD Dh} zo rl ee q => by
  obtain ⟨F', ff, r'⟩ := rl.frz i
  exact h.run zo r' (ee.on ff) q⟩
theorem de_fz (i : Nat) (h : DE K X Z e te we) : DE K X Z e te (wFzE i we) := ⟨h.pe, fun {H0 F0 F H ρ σ Q P} zo rl q k => by
  obtain ⟨F', ff, r'⟩ := rl.frz i
  exact h.run zo r' q fun s ρ' F2 H' v p f r sr fr => k s ρ' F2 H' v p (ff.trans f) r sr fr⟩
/-! ### xs[i] = v, xs own -/
def wLSet (i : Nat) (wk wv : W) : WS := fun DD ρ => wv ρ fun v ρ1 => asOL (nth ρ1 i) fun _ => wk ρ1 fun k ρ2 => asOL (nth ρ2 i) fun xs => asI k.fz fun k => asA (ixN xs.length k) fun j => DD.nx (put ρ2 i (some (.ol (xs.set j v.fz))))
theorem run_lset {i : Nat} {tk tv : TE} {wk wv : W} (hk : RunE K Z tk wk) (hv : RunE K Z tv wv) : RunS K Z (tAsg tv (gSub (tVar i) tk rSetL)) (wLSet i wk wv) := fun {H0 F0 F H ρ σ DD Dh} zo rl ee h => hv zo rl h fun s1 ρ1 F1 H1 v1 h1 f1 r1 sr1 fr1 => by
  obtain ⟨F2, f2, r2, rp2⟩ := r1.freeze sr1 fr1
  obtain ⟨xs0, e0, h1⟩ := asOL_of h1
  obtain ⟨v, ev, a, vs, rfl, hl, _⟩ := r2.at_ i _ (nth_some e0)
  refine ⟨.ref a, ev, hk zo r2 h1 fun s3 ρ3 F3 H3 v3 h3 f3 r3 sr3 fr3 => ?_⟩
  obtain ⟨F4, f4, r4, rp4⟩ := r3.freeze sr3 fr3
  obtain ⟨xs, e1, h3⟩ := asOL_of h3
  obtain ⟨z, rfl, h3⟩ := asI_of h3 rp4
  obtain ⟨j, ej, h3⟩ := asA_of h3
  obtain ⟨v2, ev2, a2, vs2, rfl, hl2, rx, n0, n1⟩ := r4.at_ i _ (nth_some e1)
  rw [ev] at ev2; cases ev2
  rw [put_eq] at h3
  refine ⟨a, vs2, z, j, rfl, rfl, hl2, by rw [rx.len]; exact ej, ee.nx _ _ _ _ h3 (f1.trans (f2.trans (f3.trans f4))) (r4.write (nth_some e1) rfl ev ⟨a, _, rfl, upd_same, rx.set j (Rep.mono (f3.trans f4) _ _ rp2), n0, n1⟩ rfl)⟩
theorem ds_lset {tk tv : TE} {wk wv : W} {k value : Expr} {x : Str} {pos' : Pos} (i : Nat) (hk : DE K X Z k tk wk) (hv : DE K X Z value tv wv) (hN : X.N[i]? = some x := by rfl) (hvi : Vis X.env.scope x := by first | exact Or.inl rfl | exact Or.inr (Or.inl rfl) | exact Or.inr (Or.inr rfl)) (hd : (x == ("__debug__" : Str)) = false := by decide)
    (hcd : (x == ("__classdict__" : Str)) = false := by decide)
    (ha : ∀ v, assign (.Subscript (.Name x p) k pos') X.env v = (do
      let ov ← holding [v] (eval (.Name x p) X.env)
      let iv ← holding [v, ov] (eval k X.env)
      standAt pos'
      holding [v, ov, iv] (setItem ov iv v)
      release [v, ov, iv] []) := by intro _; rfl) (hs : swapsWithSole [.Subscript (.Name x p) k pos'] value pos.line X.env = pure false := by rfl) (hw : swappedStores [.Subscript (.Name x p) k pos'] value X.env = pure none := by rfl)
    (h1 : (assignEach [.Subscript (.Name x p) k pos'] X.env).map (·.2) = [assign (.Subscript (.Name x p) k pos') X.env] := by rfl) :
    DS K X Z (.Assign [.Subscript (.Name x p) k pos'] value pos) (tAsg tv (gSub (tVar i) tk rSetL)) (wLSet i wk wv) := ⟨ps_asg hv.pe (pg_sub (pe_var hN hvi hd hcd) hk.pe set_list ha) hs hw h1, run_lset hk.run hv.run⟩
end
end DL
/-! DL17: zip of lists, tuples, texts in any mix; the values and the pairs of a dict. -/
namespace DL
open PySem L2
inductive Src where
  | l (a : Addr) | t (a : Addr) | s (x : Str)
def Src.v : Src → V
  | .l a => .ref a
  | .t a => .ref a
  | .s x => .str x
def Src.items (K : PySem.W.Frag) (H : Hp) (xs : List V) : Src → Prop
  | .l a => SqL K H a xs
  | .t a => SqT K H a xs
  | .s x => xs = (signs x).map V.str
def Src.fp : Src → List Addr
  | .l a => [a]
  | .t a => [a]
  | .s _ => []
def Src.st (h : Heap) (it : Addr) (i : Nat) : Src → Prop
  | .l a => h.IsListIter it a i
  | .t a => h.IsTupleIter it a i
  | .s x => ∃ t, h.IsStrIter it (strIterType x) x t i
theorem vals_back : ∀ {xs : List V} {us : List Value} {j : Nat} {v : Value}, Vals xs us → us[j]? = some v → ∃ x, xs[j]? = some x ∧ RelV x v
  | _, _, _, _, .nil, e => by simp at e
  | _, _, 0, v, .cons r _, e => by simp at e; subst e; exact ⟨_, rfl, r⟩
  | _, _, j + 1, v, .cons _ rr, e => by
    obtain ⟨x, e1, r⟩ := vals_back (j := j) rr (by simpa using e)
    exact ⟨x, by simpa using e1, r⟩
theorem Src.st_at {h h' : Heap} {it : Addr} {i : Nat} : ∀ (c : Src), c.st h it i → (∀ o, h.get? it = some o → h'.get? it = some o) → c.st h' it i
  | .l a, st, k => Heap.IsListIter.at st k
  | .t a, st, k => Heap.IsTupleIter.at st k
  | .s x, ⟨tk, o, ho, r⟩, k => ⟨tk, o, k o ho, r⟩
theorem Src.st_obj {h : Heap} {it : Addr} {i : Nat} : ∀ (c : Src), c.st h it i → ∃ o, h.get? it = some o ∧ ∀ v, o.data ≠ .cell v
  | .l a, st => by obtain ⟨o, e, _, d⟩ := st; exact ⟨o, e, fun v q => by rw [d] at q; cases q⟩
  | .t a, st => by obtain ⟨o, e, _, d⟩ := st; exact ⟨o, e, fun v q => by rw [d] at q; cases q⟩
  | .s x, ⟨tk, st⟩ => by obtain ⟨o, e, _, d⟩ := st; exact ⟨o, e, fun v q => by rw [d] at q; cases q⟩
/-- what is drawn of a source, as the heap stands -/
theorem Src.draws {X : Cx} {pins : List (Addr × Obj)} {σ : L2.St} {H : Hp} {s : Shared} {it : Addr} {i : Nat} {xs : List V} (I : Inv X pins σ H s) (hh : X.A.in1.handled = none) :
    ∀ (c : Src), c.items X.K H xs → c.st s.heap it i → (∀ b ∈ c.fp, b ≠ it) → ∃ (P1 : Nat → Value → Prop) (St1 : Nat → Heap → Prop), Draws X.prog X.w X.A.in1 it (it :: c.fp) xs.length P1 St1 ∧ St1 i s.heap ∧
      (∀ j h, St1 j h → c.st h it j) ∧ ∀ j v, P1 j v → ∃ x, xs[j]? = some x ∧ RelV x v
  | .l a, hq, st, hne => by
    obtain ⟨its, rv, p, _⟩ := I.list hq
    have hlen : its.toArray.size = xs.length := by simp [rv.length]
    refine ⟨_, _, hlen ▸ Draws.list hh it a (hne a (by simp [Src.fp])) its.toArray, ⟨st, p.isList⟩, fun j h z => z.1, fun j v e => ?_⟩
    have e' : its[j]? = some v := by simpa using e
    exact vals_back rv e'
  | .t a, hq, st, hne => by
    obtain ⟨its, rv, p, _⟩ := I.tuple hq
    have hlen : its.toArray.size = xs.length := by simp [rv.length]
    refine ⟨_, _, hlen ▸ Draws.tuple hh it a (hne a (by simp [Src.fp])) its.toArray, ⟨st, p⟩, fun j h z => z.1, fun j v e => ?_⟩
    have e' : its[j]? = some v := by simpa using e
    exact vals_back rv e'
  | .s x, hq, ⟨tk, st⟩, hne => by
    have hlen : x.cps.size = xs.length := by rw [show xs = (signs x).map V.str from hq]; simp [signs]
    refine ⟨_, _, hlen ▸ Draws.text hh it x tk, st, fun j h z => ⟨tk, z⟩, fun j v e => ?_⟩
    obtain ⟨c, u, e1, rfl⟩ := e
    have hc' : x.cps.toList[j]? = some c := by rw [Array.getElem?_toList]; exact e1
    refine ⟨.str ⟨#[c]⟩, ?_, u, rfl⟩
    rw [show xs = (signs x).map V.str from hq]
    simp [signs, hc']
def Itzz (K : PySem.W.Frag) (c1 c2 : Src) (xs ys : List V) : It :=
  ⟨fun i H => c1.items K H xs ∧ c2.items K H ys ∧ i < xs.length ∧ i < ys.length,
    fun i H v H' => ∃ T x y, v = .ref T ∧ H T = none ∧ H' = upd H T (.tup [x, y]) ∧ xs[i]? = some x ∧ ys[i]? = some y,
    fun i H => c1.items K H xs ∧ c2.items K H ys ∧ (xs.length ≤ i ∨ ys.length ≤ i)⟩
theorem turn_zipX {P : Program} {w : World} {K : PySem.W.Frag} {elts : List Expr} {kk : Nat} {tpos : Pos} {c1 c2 : Src} {xs ys : List V} {z TI TO i1 i2 : Addr} (D : ZipSep2 z TI TO i1 i2 (i1 :: c1.fp) (i2 :: c2.fp))
    (n1 : ∀ b ∈ c1.fp, b ≠ i1) (n2 : ∀ b ∈ c2.fp, b ≠ i2) :
    Turn P w K (.Tuple elts kk tpos) (Itzz K c1 c2 xs ys) [z, TI, TO, i1, i2] z (fun i h => (IsZip h z TI TO .none ∧ IsTupOf2 h TI (.ref i1) (.ref i2) ∧ (∃ a1 a2, IsTupOf2 h TO a1 a2) ∧ c1.st h i1 i ∧ c2.st h i2 i) ∧ i ≤ min xs.length ys.length) where
  mem := by simp
  obj := fun i h st c hc => by
    obtain ⟨⟨hz, hTI, ⟨x, y, hTO⟩, h1, h2⟩, _⟩ := st
    have e' : c = z ∨ c = TI ∨ c = TO ∨ c = i1 ∨ c = i2 := by simpa using hc
    rcases e' with q | q | q | q | q
    · rw [q]; exact ⟨_, hz, fun v q => nomatch q⟩
    · rw [q]; exact ⟨_, hTI, fun v q => nomatch q⟩
    · rw [q]; exact ⟨_, hTO, fun v q => nomatch q⟩
    · rw [q]; exact Src.st_obj _ h1
    · rw [q]; exact Src.st_obj _ h2
  keep := fun i h h' st k => by
    obtain ⟨⟨hz, hTI, ⟨x, y, hTO⟩, h1, h2⟩, hi⟩ := st
    exact ⟨⟨k z (by simp) _ hz, k TI (by simp) _ hTI, ⟨x, y, k TO (by simp) _ hTO⟩, Src.st_at _ h1 fun o q => k i1 (by simp) o q, Src.st_at _ h2 fun o q => k i2 (by simp) o q⟩, hi⟩
  item := by
    intro X hP hw hK hc i pins s σ H E I hf st hg
    subst hP hw hK
    have hh : X.A.in1.handled = none := by simp [I.ok.hd hc]
    obtain ⟨⟨hz, hTI, hTO, h1, h2⟩, hi⟩ := st
    obtain ⟨q1, q2, l1, l2⟩ := hg
    obtain ⟨P1, St1, D1, s1, b1, v1⟩ := Src.draws I hh c1 q1 h1 n1
    obtain ⟨P2, St2, D2, s2, b2, v2⟩ := Src.draws I hh c2 q2 h2 n2
    have W := WalksT.zipD2 (A := X.A) D D1 D2
    refine W.item i s _ _ (Nat.lt_min.mpr ⟨l1, l2⟩) ⟨hz, hTI, hTO, s1, s2⟩ fun T vals h' tk hpt hT hIs mid kp => ⟨_, rfl, ?_⟩
    refine W.go elts kk tpos i T { s with heap := h', toks := tk } _ _ mid fun h'' st'' kp2 => ?_
    obtain ⟨u1, u2, p1, p2, rfl⟩ := hpt
    obtain ⟨x, ex, rx⟩ := v1 i u1 p1
    obtain ⟨y, ey, ry⟩ := v2 i u2 p2
    have hTw := W.apart i T h' mid
    obtain ⟨oT, hoT, g1, g2⟩ := hIs
    have hoT2 := kp2 T oT hTw hoT
    have new : ObjOk X.prog X.w (upd H T (.tup [x, y])) h'' T (.tup [x, y]) :=
      ⟨by show 2 ≤ sizeLine; decide, [u1, u2], .cons rx (.cons ry .nil), ⟨oT, hoT2, g1, g2⟩⟩
    have wr : ∀ b, b ∉ [z, TI, TO, i1, i2] → b ∉ [z, TO, i1, i2] := fun b hb q => hb (by
      have e' : b = z ∨ b = TO ∨ b = i1 ∨ b = i2 := by simpa using q
      rcases e' with q | q | q | q <;> simp [q])
    have I1 : Inv X pins σ (upd H T (.tup [x, y])) { s with heap := h'', toks := tk } :=
      I.turnedNew (ch := [z, TI, TO, i1, i2]) (fun b o hb q => kp2 b o (wr b hb) (kp b o (wr b hb) q)) hf hT new
    refine ⟨.ref T, _, I1, rfl, ⟨T, x, y, rfl, I.hok.fresh hT, rfl, ex, ey⟩, ⟨⟨st''.1, st''.2.1, st''.2.2.1, b1 _ _ st''.2.2.2.1, b2 _ _ st''.2.2.2.2⟩, Nat.lt_min.mpr ⟨l1, l2⟩⟩, fun b hb => ?_⟩
    have hb' : b ≠ T := fun e => by
      subst e
      obtain ⟨o, ho, _⟩ : ∃ o, s.heap.get? b = some o ∧ True := by
        have e' : b = z ∨ b = TI ∨ b = TO ∨ b = i1 ∨ b = i2 := by simpa using hb
        rcases e' with q | q | q | q | q
        · rw [q]; exact ⟨_, hz, trivial⟩
        · rw [q]; exact ⟨_, hTI, trivial⟩
        · rw [q]; obtain ⟨_, _, e⟩ := hTO; exact ⟨_, e, trivial⟩
        · rw [q]; obtain ⟨o, e, _⟩ := Src.st_obj _ h1; exact ⟨o, e, trivial⟩
        · rw [q]; obtain ⟨o, e, _⟩ := Src.st_obj _ h2; exact ⟨o, e, trivial⟩
      exact absurd (Heap.lt_size ho) (Nat.not_lt.mpr hT)
    rw [upd_ne hb']
    exact (hf b hb).1
  done := by
    intro X hP hw hK hc i pins s σ H E I hf st hg
    subst hP hw hK
    have hh : X.A.in1.handled = none := by simp [I.ok.hd hc]
    obtain ⟨⟨hz, hTI, hTO, h1, h2⟩, hi⟩ := st
    obtain ⟨q1, q2, l⟩ := hg
    obtain ⟨P1, St1, D1, s1, b1, v1⟩ := Src.draws I hh c1 q1 h1 n1
    obtain ⟨P2, St2, D2, s2, b2, v2⟩ := Src.draws I hh c2 q2 h2 n2
    have W := WalksT.zipD2 (A := X.A) D D1 D2
    have hi' : i = min xs.length ys.length := Nat.le_antisymm hi (by omega)
    subst hi'
    have wr : ∀ b, b ∉ [z, TI, TO, i1, i2] → b ∉ [z, TO, i1, i2] := fun b hb q => hb (by
      have e' : b = z ∨ b = TO ∨ b = i1 ∨ b = i2 := by simpa using q
      rcases e' with q | q | q | q <;> simp [q])
    exact W.done s _ _ ⟨hz, hTI, hTO, s1, s2⟩ fun h' tk kp => ⟨rfl, I.turnedL (t' := tk) (ch := [z, TI, TO, i1, i2]) (fun b o hb q => kp b o (wr b hb) q) hf⟩
  self := fun A i s Q E st h => wpAny_pyIter_zip st.1.1 h
def Src.obj (u : Value) : Src → Obj
  | .l _ => { cls := .type "list_iterator", data := .fields #[u, .int 0 0] }
  | .t _ => { cls := .type "tuple_iterator", data := .fields #[u, .int 0 0] }
  | .s x => { cls := .type (strIterType x), data := .fields #[u, .int 0 0] }
theorem Src.begins {X : Cx} {pins : List (Addr × Obj)} {σ : L2.St} {H : Hp} {s : Shared} {xs : List V} {u : Value} (I : Inv X pins σ H s) : ∀ (c : Src), c.items X.K H xs → RelV c.v u →
    ∃ (o : Obj) (Hh : Heap → Prop), Begins u o Hh ∧ Hh s.heap ∧ (∀ h it, h.get? it = some o → c.st h it 0) ∧ ∀ b ∈ c.fp, b < s.heap.objs.size
  | .l a, hq, r => by
    obtain ⟨its, rv, p, _⟩ := I.list hq
    cases (show u = Value.ref a from r)
    exact ⟨_, _, begins_list a its.toArray, p.isList, fun h it e => ⟨_, e, rfl, rfl⟩, fun b hb => by simp [Src.fp] at hb; subst hb; exact p.lt⟩
  | .t a, hq, r => by
    obtain ⟨its, rv, p, _⟩ := I.tuple hq
    cases (show u = Value.ref a from r)
    exact ⟨_, _, begins_tuple a its.toArray, p, fun h it e => ⟨_, e, rfl, rfl⟩, fun b hb => by simp [Src.fp] at hb; subst hb; obtain ⟨o, ho, _⟩ := p; exact Heap.lt_size ho⟩
  | .s x, hq, r => by
    obtain ⟨t, rfl⟩ : ∃ t, u = Value.str x t := r
    exact ⟨_, _, begins_text x t, trivial, fun h it e => ⟨t, _, e, rfl, rfl⟩, fun b hb => by simp [Src.fp] at hb⟩
def iZipX (K : PySem.W.Frag) (ta : TA) : TI := fun σ H R => ta σ H fun vs H1 => ∃ (c1 c2 : Src) (xs ys : List V), vs = [c1.v, c2.v] ∧ c1.items K H1 xs ∧ c2.items K H1 ys ∧ R (Itzz K c1 c2 xs ys) H1
theorem pi_zipX {X : Cx} {e e2 : Expr} {ta : TA} {p pos tpos : Pos} {elts : List Expr} {kk : Nat} (hg : Gl X "zip") (hm : X.mg "zip" = none) (ha : PA X [e, e2] ta)
    (hs : starEach [e, e2] X.env = (false, eval e X.env) :: starEach [e2] X.env := by rfl) (hpl : (backTo pos (starEach [e2] X.env)).any (·.1) = false := by rfl) :
    PI X (.Tuple elts kk tpos) (.Call (.Name "zip" p) [e, e2] [] pos) (iZipX X.K ta) := by
  refine ⟨fun pins s σ H R I h => ?_⟩
  refine PyProof.Rows.Call_ (ld_blt I hg hm PyProof.Rows.boot_zip (PyProof.Rows.callWith_type1 (L2.thn (ha.run pos pins s σ H _ I h) fun us s1 ⟨vs, H1, I1, r1, q1⟩ => ?_) hs hpl))
  obtain ⟨c1, c2, xs, ys, ex, hq1, hq2, q⟩ := q1
  subst ex
  obtain ⟨u1, u2, rfl, r1, r2⟩ := vals2 r1
  obtain ⟨o1, K1, B1, k1, t1, f1⟩ := Src.begins I1 c1 hq1 r1
  obtain ⟨o2, K2, B2, k2, t2, f2⟩ := Src.begins I1 c2 hq2 r2
  refine zip_begins2 B1 B2 k1 k2 fun h' hz hTI hTO g1 g2 hsz hk => wpAny_pyIter_zip hz ?_
  have I2 : Inv X pins σ H1 { s1 with heap := h' } := I1.kept (t' := s1.toks) hk
  refine ⟨s1.heap.objs.size + 4, [s1.heap.objs.size + 4, s1.heap.objs.size + 2, s1.heap.objs.size + 3, s1.heap.objs.size, s1.heap.objs.size + 1], _, _, H1, rfl, I2,
    turn_zipX (zip_sep2 f1 f2) (fun b hb => Nat.ne_of_lt (f1 b hb)) (fun b hb => Nat.ne_of_lt (Nat.lt_succ_of_lt (f2 b hb))), ⟨⟨hz, hTI, ⟨_, _, hTO⟩, t1 _ _ g1, t2 _ _ g2⟩, Nat.zero_le _⟩, fun c hcm => ?_, q⟩
  have e' : c = s1.heap.objs.size + 4 ∨ c = s1.heap.objs.size + 2 ∨ c = s1.heap.objs.size + 3 ∨ c = s1.heap.objs.size ∨ c = s1.heap.objs.size + 1 := by simpa using hcm
  have hle : s1.heap.objs.size ≤ c := by
    rcases e' with z | z | z | z | z
    · rw [z]; exact Nat.le_add_right _ _
    · rw [z]; exact Nat.le_add_right _ _
    · rw [z]; exact Nat.le_add_right _ _
    · rw [z]; exact Nat.le_refl _
    · rw [z]; exact Nat.le_add_right _ _
  exact I1.fpOk hle (I1.hok.fresh hle)
/-- zip over data -/
def seqsD (d : D) (P : List D → Prop) : Prop := match d with
  | .cel ns => P (ns.map .int)
  | .lst xs => P xs
  | .tup xs => P xs
  | .str z => P ((signs z).map .str)
  | _ => False
theorem seqsD_of {K : PySem.W.Frag} {F : Hp} {d : D} {v : V} {P : List D → Prop} (h : seqsD d P) (r : Rep K F d v) : ∃ (c : Src) (vs : List V) (xs : List D), v = c.v ∧ (∀ H, Same F H → c.items K H vs) ∧ (∀ F', Same F F' → Reps K F' xs vs) ∧ P xs := by
  cases d <;> first | exact h.elim | skip
  · exact ⟨.s _, _, _, r, fun H fh => rfl, fun F' f => Reps.strs.mpr rfl, h⟩
  · obtain ⟨a, rfl, h1⟩ := r
    exact ⟨.l a, _, _, rfl, fun H fh => fh.seq h1, fun F' f => Reps.ints.mpr rfl, h⟩
  · obtain ⟨a, vs, rfl, h1, h2⟩ := r
    exact ⟨.l a, vs, _, rfl, fun H fh => SqL.of (fh _ _ h1), fun F' f => Reps.mono f _ _ h2, h⟩
  · obtain ⟨a, vs, rfl, h1, h2⟩ := r
    exact ⟨.t a, vs, _, rfl, fun H fh => Same.sqT fh h1, fun F' f => Reps.mono f _ _ h2, h⟩
def zipD (xs ys : List D) : List D := (xs.zip ys).map fun p => .tup [p.1, p.2]
theorem zipD_len (xs ys : List D) : (zipD xs ys).length = min xs.length ys.length := by simp [zipD]
def wiZip (wa : WA) : WA := fun ρ P => wa ρ fun ds ρ1 => match ds with
  | [x, y] => seqsD x fun xs => seqsD y fun ys => P (zipD xs ys) ρ1
  | _ => False
section
variable {K : PySem.W.Frag} {X : Cx} {Z : Zx} {pos p : Pos} {a b : Expr} {wa : WA} {ta : TA}
theorem di_zip {elts : List Expr} {kk : Nat} {tpos : Pos} (hm : X.mg "zip" = none) (ha : DA K X Z [a, b] ta wa) (hg : Gl X "zip" := by rfl) (hs : starEach [a, b] X.env = (false, eval a X.env) :: starEach [b] X.env := by rfl) (hpl : (backTo pos (starEach [b] X.env)).any (·.1) = false := by rfl) (hK : X.K = K := by rfl) :
    DI K X Z (.Tuple elts kk tpos) (.Call (.Name "zip" p) [a, b] [] pos) (iZipX K ta) (wiZip wa) := by
  refine ⟨by subst hK; exact pi_zipX hg hm ha.pe hs hpl, fun {H0 F0 F H ρ σ Q P} zo rl h k => ha.run zo rl h fun ds ρ1 F1 H1 vs h1 f1 r1 rps => ?_⟩
  split at h1
  · rename_i x y
    obtain ⟨v1, _, rfl, e1, v2, _, rfl, e2, rfl⟩ := rps
    obtain ⟨c1, us1, xs, rfl, g1, p1, h1⟩ := seqsD_of h1 e1
    obtain ⟨c2, us2, ys, rfl, g2, p2, h1⟩ := seqsD_of h1 e2
    have n1 := (p1 F1 (Same.refl _)).len
    have n2 := (p2 F1 (Same.refl _)).len
    refine ⟨c1, c2, us1, us2, rfl, g1 _ r1.fh, g2 _ r1.fh, k _ ρ1 F1 H1 _ h1 f1 r1 ⟨fun {i F H} f g l => ?_, fun {i F H} f g l => ?_, fun {i F H H2 x} f g y l => ?_⟩⟩
    · rw [zipD_len] at l
      exact ⟨g1 _ (f.trans g), g2 _ (f.trans g), by omega, by omega⟩
    · rw [zipD_len] at l
      exact ⟨g1 _ (f.trans g), g2 _ (f.trans g), by omega⟩
    · obtain ⟨T, x1, x2, rfl, n, rfl, y1, y2⟩ := y
      obtain ⟨d1, e1, q1⟩ := (p1 _ f).get' y1
      obtain ⟨d2, e2, q2⟩ := (p2 _ f).get' y2
      have nF : F T = none := g.free n
      refine ⟨upd F T (.tup [x1, x2]), .tup [d1, d2], ?_, Same.new n, Same.new nF, upd_both g n, nw_upd n, ⟨T, _, rfl, SqT.of upd_same, ?_⟩⟩
      · unfold zipD
        rw [List.getElem?_map, (List.getElem?_zip_eq_some (z := (d1, d2))).mpr ⟨e1, e2⟩]; rfl
      · exact ⟨_, _, rfl, Rep.mono (Same.new nF) _ _ q1, _, _, rfl, Rep.mono (Same.new nF) _ _ q2, rfl⟩
  · exact h1.elim
end
/-! ### values, pairs of a dict -/
theorem it_vals {K : PySem.W.Frag} {F : Hp} {d : Addr} {o : Obj} {ks : List Key} {xs : List D} {vs : List V} (hl : ks.length = vs.length) (hr : Reps K F xs vs) (h : F d = some (.frz o (.dK (ks.zip vs)))) : ItOk K (Itd d o (ks.zip vs)) xs F := by
  have e : (ks.zip vs).length = xs.length := by rw [← hr.len]; simp [hl]
  refine .pure (fun f fh l => ⟨fh _ _ (f _ _ h), by rw [e]; exact l⟩) (fun f fh l => ⟨fh _ _ (f _ _ h), by rw [e]; exact l⟩) fun {i F' H H2 x} f fh y l => ?_
  obtain ⟨rfl, k, q⟩ := y
  have q2 : vs[i]? = some x := (List.getElem?_zip_eq_some.mp q).2
  obtain ⟨dd, e1, r⟩ := hr.get' q2
  exact ⟨dd, e1, rfl, Rep.mono f _ _ r⟩
def itemsD (ks : List Key) (xs : List D) : List D := (ks.zip xs).map fun p => .tup [kD p.1, p.2]
theorem it_items {K : PySem.W.Frag} {F : Hp} {d : Addr} {o : Obj} {ks : List Key} {xs : List D} {vs : List V} (hl : ks.length = vs.length) (hr : Reps K F xs vs) (h : F d = some (.frz o (.dK (ks.zip vs)))) : ItOk K (Iti d o (ks.zip vs)) (itemsD ks xs) F := by
  have e : (ks.zip vs).length = (itemsD ks xs).length := by simp [itemsD, hr.len]
  refine ⟨fun {i F' H} f fh l => ⟨fh _ _ (f _ _ h), by rw [e]; exact l⟩, fun {i F' H} f fh l => ⟨fh _ _ (f _ _ h), by rw [e]; exact l⟩, fun {i F' H H2 x} f fh y l => ?_⟩
  obtain ⟨T, k, v, q, rfl, n, rfl⟩ := y
  obtain ⟨q1, q2⟩ := List.getElem?_zip_eq_some.mp q
  obtain ⟨dd, e1, r⟩ := hr.get' q2
  have nF : F' T = none := fh.free n
  refine ⟨upd F' T (.tup [kV k, v]), .tup [kD k, dd], ?_, Same.new n, Same.new nF, upd_both fh n, nw_upd n, ⟨T, _, rfl, SqT.of upd_same, ?_⟩⟩
  · unfold itemsD
    rw [List.getElem?_map, (List.getElem?_zip_eq_some (z := (k, dd))).mpr ⟨q1, e1⟩]; rfl
  · exact ⟨_, _, rfl, rep_kD k, _, _, rfl, Rep.mono (f.trans (Same.new nF)) _ _ r, rfl⟩
end DL
/-! DL18: a promise of nothing (where a recursion starts). -/
namespace DL
open PySem L2
theorem FnOk.nothing {P : Program} {w : World} {K : PySem.W.Frag} {mg : Str → Option Value} {base : Heap} {CX : CXT} {k : Nat} {f : Addr} {fd : FuncData} {ps : List Str} :
    FnOk P w K mg base CX k f fd ps (spD K fun _ _ _ => False) :=
  ⟨fun vs H Q E h => by obtain ⟨_, _, _, _, _, _, h, _⟩ := h; exact h.elim, fun A outer s H args us vs Q E _ _ _ _ h => by obtain ⟨_, _, _, _, _, _, h, _⟩ := h; exact h.elim⟩
end DL
/-! DL19: loops over a dict's values, over its pairs (a dict held by a name). -/
namespace DL
open PySem L2
section
variable {K : PySem.W.Frag} {X : Cx} {Z : Zx}
theorem run_lkS {i : Nat} {t t' : TS} {w : WS} (hr : RunS K Z0 t' w) (ht : ∀ D σ H, Lkd i σ H → t' D σ H → t D σ H) (hw : ∀ DD ρ, w DD ρ → ∃ ks xs, nth ρ i = some (.d (.dic ks xs))) : RunS K Z (tLk t) w := fun {H0 F0 F H ρ σ DD Dh} zo rl ee h => by
  obtain ⟨ks, xs, e⟩ := hw DD ρ h
  obtain ⟨v, e1, d, vs, rfl, q, hl, rp⟩ := rl.at_ i _ (nth_some e)
  rcases q with q | ⟨o, q⟩
  · refine .inl ⟨d, _, rl.fh _ _ q, trivial, fun od => ?_⟩
    have hH := rl.fh _ _ q
    have qF : lk d od F d = some (.frz od (.dK (ks.zip vs))) := by unfold lk; rw [if_pos rfl, q]; rfl
    have u0 : ul d (lk d od H0) = H0 := ul_lk (l := ks.zip vs) fun o z => by have := rl.h _ _ z; rw [hH] at this; cases this; rfl
    have u1 : ul d (lk d od F0) = F0 := ul_lk (l := ks.zip vs) fun o z => by have := rl.f _ _ z; rw [q] at this; cases this; rfl
    have u2 : ul d (lk d od F) = F := ul_lk (l := ks.zip vs) fun o z => by rw [q] at z; cases z; rfl
    have back : ∀ {F' H' : Hp} {ρ' : R} {σ' : St}, Same (lk d od F) F' → Rel K (lk d od H0) (lk d od F0) F' H' ρ' σ' → (H' d = some (.frz od (.dK (ks.zip vs)))) ∧ Same F (ul d F') ∧ Rel K H0 F0 (ul d F') (upd H' d (.dK (ks.zip vs))) ρ' σ' := fun {F' H' ρ' σ'} f r => by
      have f1 := f _ _ qF
      have h1 := r.fh _ _ f1
      refine ⟨h1, ?_, ?_⟩
      · have := Same.ul (d := d) f; rw [u2] at this; exact this
      · have := r.ul f1; rw [u0, u1] at this; rw [upd_ul h1]; exact this
    rw [upd_lk hH]
    have r1 := rl.lk (od := od) q
    refine ht _ _ _ ⟨d, od, _, e1, r1.fh _ _ qF⟩ (hr Z0.ok r1 ⟨fun ρ' F' H' σ' p f r => ?_, fun s v F' H' p f h0 f0 fh nw sr => ?_, fun ρ' F' H' σ' p f r => ?_, fun ρ' F' H' σ' p f r => ?_⟩ h)
    · obtain ⟨a, b, c⟩ := back f r; exact ⟨a, ee.nx _ _ _ _ p b c⟩
    · have f1 := f _ _ qF
      have h1 := fh _ _ f1
      refine ⟨h1, ?_⟩
      rw [upd_ul h1]
      have t0 := Same.ul (d := d) h0
      have t1 := Same.ul (d := d) f0
      have t2 := Same.ul (d := d) f
      have t3 := Same.ul (d := d) fh
      have t4 := sr.ul f1
      rw [u0] at t0 t4; rw [u1] at t1; rw [u2] at t2
      refine ee.rt s v _ _ p t2 t0 t1 t3 (fun a z => ?_) t4
      rcases nw a (fun y => z (ul_none.mpr y)) with y | y
      · exact .inl fun x => y (lk_none.mpr x)
      · exact .inr (lk_none.mp y)
    · obtain ⟨a, b, c⟩ := back f r; exact ⟨a, ee.bk _ _ _ _ p b c⟩
    · obtain ⟨a, b, c⟩ := back f r; exact ⟨a, ee.ct _ _ _ _ p b c⟩
  · exact .inr (ht _ _ _ ⟨d, o, _, e1, rl.fh _ _ q⟩ (hr Z0.ok rl ee h))
/-- values -/
def wiVals (i : Nat) : WA := fun ρ P => ∃ ks xs, nth ρ i = some (.d (.dic ks xs)) ∧ P xs ρ
def iValsF (i : Nat) : TI := fun σ H R => Lkd i σ H → iVals (tVar i) σ H R
theorem run_valsF {i : Nat} : RunI K Z (iValsF i) (wiVals i) := fun {H0 F0 F H ρ σ Q P} zo rl h k => by
  rintro ⟨d', o, u, z1, z2⟩
  obtain ⟨ks, xs, e, w⟩ := h
  obtain ⟨v, e1, d, vs, rfl, q, hl, rp⟩ := rl.at_ i _ (nth_some e)
  rw [z1] at e1; cases e1
  rcases q with q | ⟨o2, q⟩
  · have := rl.fh _ _ q; rw [z2] at this; cases this
  · exact ⟨_, z1, d', o2, _, rfl, rl.fh _ _ q, k _ _ F H _ w (Same.refl _) rl (it_vals hl rp q)⟩
/-- pairs -/
def wiItems (i : Nat) : WA := fun ρ P => ∃ ks xs, nth ρ i = some (.d (.dic ks xs)) ∧ P (itemsD ks xs) ρ
def iItemsF (i : Nat) : TI := fun σ H R => Lkd i σ H → iItems (tVar i) σ H R
theorem run_itemsF {i : Nat} : RunI K Z (iItemsF i) (wiItems i) := fun {H0 F0 F H ρ σ Q P} zo rl h k => by
  rintro ⟨d', o, u, z1, z2⟩
  obtain ⟨ks, xs, e, w⟩ := h
  obtain ⟨v, e1, d, vs, rfl, q, hl, rp⟩ := rl.at_ i _ (nth_some e)
  rw [z1] at e1; cases e1
  rcases q with q | ⟨o2, q⟩
  · have := rl.fh _ _ q; rw [z2] at this; cases this
  · exact ⟨_, z1, d', o2, _, rfl, rl.fh _ _ q, k _ _ F H _ w (Same.refl _) rl (it_items hl rp q)⟩
def wForD (wi : WA) (wg : WG) (wb : WS) : WS := wFor wi wg wb
section
variable {tg : Expr} {body : List Stmt} {g : TG} {wg : WG} {tb : TS} {wb : WS} {py apos cpos : Pos}
theorem ds_forV {i : Nat} {x : Str} (hp : PassesOwn (model X.prog X.w) X.A X.env X.xe) (hc : X.calm = true) (hg : DG K X Z0 tg g wg) (hb : DSs K X Z0 body tb wb) (hN : X.N[i]? = some x := by rfl) (hv : Vis X.env.scope x := by first | exact Or.inl rfl | exact Or.inr (Or.inl rfl) | exact Or.inr (Or.inr rfl)) (hd : (x == ("__debug__" : Str)) = false := by decide) (hcd : (x == ("__classdict__" : Str)) = false := by decide)
    (hbase : attributeBase (.Name x py) "values" X.env (eval (.Name x py) X.env) = eval (.Name x py) X.env := by rfl) (hline : (apos.endLine == cpos.line) = true := by rfl)
    (hs : ∀ y, foldedSetIterable (.Call (.Attribute (.Name x py) "values" apos) [] [] cpos) X.env y = pure y := by intro _; rfl) :
    DS K X Z (.For tg (.Call (.Attribute (.Name x py) "values" apos) [] [] cpos) body [] pos) (tLk (tFor (iVals (tVar i)) g tb)) (wFor (wiVals i) wg wb) :=
  ⟨ps_lk (ps_for hp hc (pi_values (pe_var hN hv hd hcd) hbase hline) hg.pe hb.pe hs), run_lkS (t' := tFor (iValsF i) g tb) (run_for run_valsF hg.run hb.run) (fun D σ H hl h => h hl) fun DD ρ h => by obtain ⟨ks, xs, e, _⟩ := h; exact ⟨ks, xs, e⟩⟩
theorem ds_forI {i : Nat} {x : Str} {elts : List Expr} {kk : Nat} {tpos : Pos} (hp : PassesOwn (model X.prog X.w) X.A X.env X.xe) (hc : X.calm = true) (hg : DG K X Z0 (.Tuple elts kk tpos) g wg) (hb : DSs K X Z0 body tb wb) (hN : X.N[i]? = some x := by rfl) (hv : Vis X.env.scope x := by first | exact Or.inl rfl | exact Or.inr (Or.inl rfl) | exact Or.inr (Or.inr rfl)) (hd : (x == ("__debug__" : Str)) = false := by decide) (hcd : (x == ("__classdict__" : Str)) = false := by decide)
    (hbase : attributeBase (.Name x py) "items" X.env (eval (.Name x py) X.env) = eval (.Name x py) X.env := by rfl) (hline : (apos.endLine == cpos.line) = true := by rfl)
    (hs : ∀ y, foldedSetIterable (.Call (.Attribute (.Name x py) "items" apos) [] [] cpos) X.env y = pure y := by intro _; rfl) :
    DS K X Z (.For (.Tuple elts kk tpos) (.Call (.Attribute (.Name x py) "items" apos) [] [] cpos) body [] pos) (tLk (tFor (iItems (tVar i)) g tb)) (wFor (wiItems i) wg wb) :=
  ⟨ps_lk (ps_for hp hc (pi_items (pe_var hN hv hd hcd) hbase hline) hg.pe hb.pe hs), run_lkS (t' := tFor (iItemsF i) g tb) (run_for run_itemsF hg.run hb.run) (fun D σ H hl h => h hl) fun DD ρ h => by obtain ⟨ks, xs, e, _⟩ := h; exact ⟨ks, xs, e⟩⟩
end
section
variable {elt tg : Expr} {ifs : List Expr} {scope : Scope} {own : List (Str × Nat)} {g : TG} {wg : WG} {tt : TT} {wt : WT} {te : TE} {we : W} {px apos cpos : Pos}
theorem de_lcV {i : Nat} {x : Str} (hc : X.calm = true) (hN : X.N.Nodup) (ok : BlkOk X.N X.env.scope scope own)
    (hg : ∀ (s : Shared) (H : Hp) (C : Addr) (cl : List (Str × Addr)) (fp : List Addr), DGb K (X.blk s H scope (compEnvC scope cl C X.env) fp) Z0 tg (own.map (·.2)) g wg) (ht : ∀ (s : Shared) (H : Hp) (C : Addr) (cl : List (Str × Addr)) (fp : List Addr), DTs K (X.blk s H scope (compEnvC scope cl C X.env) fp) Z0 ifs tt wt)
    (he : ∀ (s : Shared) (H : Hp) (C : Addr) (cl : List (Str × Addr)) (fp : List Addr), DE K (X.blk s H scope (compEnvC scope cl C X.env) fp) Z0 elt te we) (hx : X.N[i]? = some x := by rfl) (hv : Vis X.env.scope x := by first | exact Or.inl rfl | exact Or.inr (Or.inl rfl) | exact Or.inr (Or.inr rfl)) (hd : (x == ("__debug__" : Str)) = false := by decide) (hcd : (x == ("__classdict__" : Str)) = false := by decide)
    (hbase : attributeBase (.Name x px) "values" X.env (eval (.Name x px) X.env) = eval (.Name x px) X.env := by rfl) (hline : (apos.endLine == cpos.line) = true := by rfl)
    (hs : ∀ y, foldedSetIterable (.Call (.Attribute (.Name x px) "values" apos) [] [] cpos) X.env y = pure y := by intro _; rfl) :
    DE K X Z (.ListComp elt [⟨tg, .Call (.Attribute (.Name x px) "values" apos) [] [] cpos, ifs, 0⟩] scope pos) (tLkE (tLc (iVals (tVar i)) g tt te (own.map (·.2)))) (wLc (wiVals i) wg wt we (own.map (·.2))) :=
  ⟨pe_lk (pe_lc hc hN (pi_values (pe_var hx hv hd hcd) hbase hline) ok (fun s H C cl fp => (hg s H C cl fp).pe) (fun s H C cl fp => (ht s H C cl fp).pe) (fun s H C cl fp => (he s H C cl fp).pe) hs),
    run_lkE (t' := tLc (iValsF i) g tt te (own.map (·.2))) (run_lc run_valsF (hg X.s_0 (fun _ => none) 0 [] []).run (ht X.s_0 (fun _ => none) 0 [] []).run (he X.s_0 (fun _ => none) 0 [] []).run)
      (fun σ H Q hl h => h hl) fun ρ P h => by obtain ⟨ks, xs, e, _⟩ := h; exact ⟨ks, xs, e⟩⟩
theorem de_lcI {i : Nat} {x : Str} {elts : List Expr} {kk : Nat} {tpos : Pos} (hc : X.calm = true) (hN : X.N.Nodup) (ok : BlkOk X.N X.env.scope scope own)
    (hg : ∀ (s : Shared) (H : Hp) (C : Addr) (cl : List (Str × Addr)) (fp : List Addr), DGb K (X.blk s H scope (compEnvC scope cl C X.env) fp) Z0 (.Tuple elts kk tpos) (own.map (·.2)) g wg) (ht : ∀ (s : Shared) (H : Hp) (C : Addr) (cl : List (Str × Addr)) (fp : List Addr), DTs K (X.blk s H scope (compEnvC scope cl C X.env) fp) Z0 ifs tt wt)
    (he : ∀ (s : Shared) (H : Hp) (C : Addr) (cl : List (Str × Addr)) (fp : List Addr), DE K (X.blk s H scope (compEnvC scope cl C X.env) fp) Z0 elt te we) (hx : X.N[i]? = some x := by rfl) (hv : Vis X.env.scope x := by first | exact Or.inl rfl | exact Or.inr (Or.inl rfl) | exact Or.inr (Or.inr rfl)) (hd : (x == ("__debug__" : Str)) = false := by decide) (hcd : (x == ("__classdict__" : Str)) = false := by decide)
    (hbase : attributeBase (.Name x px) "items" X.env (eval (.Name x px) X.env) = eval (.Name x px) X.env := by rfl) (hline : (apos.endLine == cpos.line) = true := by rfl)
    (hs : ∀ y, foldedSetIterable (.Call (.Attribute (.Name x px) "items" apos) [] [] cpos) X.env y = pure y := by intro _; rfl) :
    DE K X Z (.ListComp elt [⟨.Tuple elts kk tpos, .Call (.Attribute (.Name x px) "items" apos) [] [] cpos, ifs, 0⟩] scope pos) (tLkE (tLc (iItems (tVar i)) g tt te (own.map (·.2)))) (wLc (wiItems i) wg wt we (own.map (·.2))) :=
  ⟨pe_lk (pe_lc hc hN (pi_items (pe_var hx hv hd hcd) hbase hline) ok (fun s H C cl fp => (hg s H C cl fp).pe) (fun s H C cl fp => (ht s H C cl fp).pe) (fun s H C cl fp => (he s H C cl fp).pe) hs),
    run_lkE (t' := tLc (iItemsF i) g tt te (own.map (·.2))) (run_lc run_itemsF (hg X.s_0 (fun _ => none) 0 [] []).run (ht X.s_0 (fun _ => none) 0 [] []).run (he X.s_0 (fun _ => none) 0 [] []).run)
      (fun σ H Q hl h => h hl) fun ρ P h => by obtain ⟨ks, xs, e, _⟩ := h; exact ⟨ks, xs, e⟩⟩
end
end
end DL
/-! DL20: an item of an own list or dict read; what is never reached. -/
namespace DL
open PySem L2
section
variable {K : PySem.W.Frag} {X : Cx} {Z : Zx} {pos p : Pos} {e : Expr} {te : TE} {we : W}
/-- x[k], x own -/
def wOIx (i : Nat) (wk : W) : W := fun ρ P => (nth ρ i).isSome = true ∧ wk ρ fun k ρ1 => match nth ρ1 i with
  | some (.ol xs) => asI k.fz fun j => asA (atI xs j) fun d => P (.d d) ρ1
  | some (.od kvs) => asKey k.fz fun key => asA (vget kvs key) fun d => P (.d d) ρ1
  | some (.d x) => oIxX x k.fz fun s => P s ρ1
  | _ => False
theorem run_oix {i : Nat} {tk : TE} {wk : W} (hk : RunE K Z tk wk) : RunE K Z (tOp (rIxX K) (tVar i) tk) (wOIx i wk) := fun {H0 F0 F H ρ σ Q P} zo rl h k => by
  obtain ⟨h0, h⟩ := h
  obtain ⟨s0, e0⟩ := Option.isSome_iff_exists.mp h0
  obtain ⟨v, ev, _⟩ := rl.at_ i _ (nth_some e0)
  refine ⟨v, ev, hk zo rl h fun s3 ρ3 F3 H3 v3 h3 f3 r3 sr3 fr3 => ?_⟩
  obtain ⟨F4, f4, r4, rp4⟩ := r3.freeze sr3 fr3
  split at h3
  · rename_i xs e1
    obtain ⟨j, ej, h3⟩ := asI_of h3 rp4
    subst ej
    obtain ⟨d, e, h3⟩ := asA_of h3
    obtain ⟨v', ev', a, vs, rfl, hl, rr, n0, n1⟩ := r4.at_ i _ (nth_some e1)
    rw [ev] at ev'; cases ev'
    obtain ⟨u, e', r⟩ := at_reps rr e
    exact .inl (.inl ⟨a, vs, j, u, rfl, rfl, .inl (.inl hl), e', k (.d d) _ F4 _ _ h3 (f3.trans f4) r4 r fun w => nomatch w⟩)
  · rename_i kvs e1
    obtain ⟨key, rfl, h3⟩ := asKey_of h3 rp4
    obtain ⟨d, e, h3⟩ := asA_of h3
    obtain ⟨a', l, ev', hd, kr, n0, n1⟩ := r4.dict e1
    rw [ev] at ev'; cases ev'
    rcases kr.get (k := key) with ⟨d', u, g1, g2, g3⟩ | ⟨g1, g2⟩
    · rw [e] at g1; cases g1
      exact .inr ⟨a', u, rfl, .inl ⟨l, key, .inl hd, rfl, g2.symm⟩, k (.d d) _ F4 _ _ h3 (f3.trans f4) r4 g3 fun w => nomatch w⟩
    · rw [e] at g1; cases g1
  · rename_i x e1
    obtain ⟨v', ev', rx⟩ := r4.at_ i _ (nth_some e1)
    rw [ev] at ev'; cases ev'
    exact snd_ixX.run r4.fh rx rp4 h3 (r4.kont (f3.trans f4) k)
  · exact h3.elim
theorem de_oix (i : Nat) {x : Str} {k : Expr} {tk : TE} {wk : W} {px : Pos} (hu : X.A.units + 64 < cLine) (hk : DE K X Z k tk wk) (hN : X.N[i]? = some x := by rfl) (hv : Vis X.env.scope x := by first | exact Or.inl rfl | exact Or.inr (Or.inl rfl) | exact Or.inr (Or.inr rfl)) (hd : (x == ("__debug__" : Str)) = false := by decide)
    (hcd : (x == ("__classdict__" : Str)) = false := by decide) (hs : PlainIx k := by exact fun _ _ => rfl) (hK : X.K = K := by rfl) : DE K X Z (.Subscript (.Name x px) k pos) (tOp (rIxX K) (tVar i) tk) (wOIx i wk) := by
  subst hK
  exact ⟨pe_ix (ix_X (units1 hu)) (pe_var hN hv hd hcd) hk.pe hs, run_oix hk.run⟩
/-- a statement that is never reached -/
def wNo : WS := fun _ _ => False
theorem ds_no {st : Stmt} : DS K X Z st (fun _ _ _ => False) wNo := ⟨⟨fun _ _ _ _ _ _ h => h.elim⟩, fun {_ _ _ _ _ _ _ _} _ _ _ h => h.elim⟩
/-- a comprehension within another -/
def relabelS (sc scF : Scope) : Scope := { sc with names := sc.names.map fun (n, k) => if (k == .free && scF.kind == .function && scF.names.lookup n == some .cell) then (n, .cell) else (n, k) }
theorem blk_in {N : List Str} {X : Cx} {s : Shared} {H : Hp} {scO scF sc : Scope} {cl : List (Str × Addr)} {C : Addr} {env : Env} {fp : List Addr} {own : List (Str × Nat)} (h : BlkOk N (relabelS scO scF) sc own) (e : X.N = N := by rfl) (e2 : env.scope = scF := by rfl) :
    BlkOk (X.blk s H scO (compEnvC scO cl C env) fp).N (X.blk s H scO (compEnvC scO cl C env) fp).env.scope sc own := by subst e; subst e2; exact h
/-- products of great ints -/
abbrev oMulX : O2 := oI (fun i j => .int (i * j)) CMulX
theorem de_mulX {a b : Expr} {ta tb : TE} {wa wb : W} (ha : DE K X Z a ta wa) (hb : DE K X Z b tb wb) : DE K X Z (.BinOp a .Mult b pos) (tOp (rI CMulX fun i j => .int (i * j)) ta tb) (wOp oMulX wa wb) := de_op op_mulX (snd_I fun _ _ _ => rfl) ha hb
end
end DL
/-! DL21: instances of the text's classes: attributes, methods by the instance's class, makers. -/
namespace DL
open PySem L2
section
variable {K : PySem.W.Frag} {X : Cx} {Z : Zx} {pos p apos : Pos} {CX : CXT} {k : Nat}
/-- an instance -/
def asIns (d : D) (P : Str → List (Str × D) → Prop) : Prop := match d with
  | .ins N ns xs => P N (ns.zip xs)
  | _ => False
theorem asIns_of {F : Hp} {d : D} {v : V} {P : Str → List (Str × D) → Prop} (h : asIns d P) (r : Rep K F d v) : ∃ a N C dx kvs l, v = .ref a ∧ PySem.W.nsIn K mainGlobals N = some (some (.ref C)) ∧ F a = some (.ins C dx l) ∧ (l.map (·.1) = kvs.map (·.1) ∧ Reps K F (kvs.map (·.2)) (l.map (·.2))) ∧ P N kvs := by
  cases d <;> first | exact h.elim | skip
  rename_i N ns xs
  obtain ⟨a, C, dx, vs, rfl, g, h1, hl, rr⟩ := r
  have hx : ns.length = xs.length := by rw [hl]; exact rr.len
  have e1 : (ns.zip vs).map (·.1) = ns := List.map_fst_zip (by omega)
  have e2 : (ns.zip vs).map (·.2) = vs := List.map_snd_zip (by omega)
  have e3 : (ns.zip xs).map (·.1) = ns := List.map_fst_zip (by omega)
  have e4 : (ns.zip xs).map (·.2) = xs := List.map_snd_zip (by omega)
  exact ⟨a, N, C, dx, ns.zip xs, ns.zip vs, rfl, g, h1, ⟨by rw [e1, e3], by rw [e2, e4]; exact rr⟩, h⟩
def fget {β : Type} (kvs : List (Str × β)) (f : Str) : Option β := kvs.lookup f
theorem look_reps {F : Hp} {f : Str} : ∀ {kvs : List (Str × D)} {l : List (Str × V)}, l.map (·.1) = kvs.map (·.1) → Reps K F (kvs.map (·.2)) (l.map (·.2)) → (∀ d, fget kvs f = some d → ∃ v, l.lookup f = some v ∧ Rep K F d v) ∧ (fget kvs f = none → l.lookup f = none)
  | [], l, h, _ => by
    have : l = [] := by cases l with | nil => rfl | cons q l => cases h
    subst this
    exact ⟨fun d e => (by cases e), fun _ => rfl⟩
  | q :: kvs, [], h, _ => by cases h
  | q :: kvs, r :: l, h, rr => by
    rw [List.map_cons, List.map_cons, List.cons.injEq] at h
    obtain ⟨v, vs, e, r1, r2⟩ := rr
    rw [List.map_cons, List.cons.injEq] at e
    obtain ⟨ev, evs⟩ := e
    have ih := look_reps (f := f) h.2 (by rw [evs]; exact r2)
    unfold fget at ih ⊢
    obtain ⟨qk, qd⟩ := q
    obtain ⟨rk, rv⟩ := r
    have h1 : rk = qk := h.1
    subst h1
    have ev' : rv = v := ev
    subst ev'
    simp only [List.lookup]
    cases hb : (f == rk) with
    | true => exact ⟨fun d e => ⟨rv, rfl, by cases e; exact r1⟩, fun e => by cases e⟩
    | false => exact ih
/-- what must hold of the classes whose attribute f is read -/
def FldOk (K : PySem.W.Frag) (N f : Str) : Prop := ∀ C, PySem.W.nsIn K mainGlobals N = some (some (.ref C)) → Cls K C ∧ NoAttr K C f
def wFld (Ns : List Str) (f : Str) (we : W) : W := fun ρ P => we ρ fun s ρ1 => asIns s.fz fun N kvs => N ∈ Ns ∧ asA (fget kvs f) fun d => P (.d d) ρ1
theorem run_fld {te : TE} {we : W} {Ns : List Str} {f : Str} (he : RunE K Z te we) (hf : ∀ N ∈ Ns, FldOk K N f) : RunE K Z (tFld K te f) (wFld Ns f we) := fun {H0 F0 F H ρ σ Q P} zo rl h k => he zo rl h fun s1 ρ1 F1 H1 v1 h1 f1 r1 sr1 fr1 => by
  obtain ⟨F2, f2, r2, rp2⟩ := r1.freeze sr1 fr1
  obtain ⟨a, N, C, dx, kvs, l, rfl, g, e, ⟨q1, q2⟩, hN, h1⟩ := asIns_of h1 rp2
  obtain ⟨d, ed, h1⟩ := asA_of h1
  obtain ⟨v, ev, rv⟩ := (look_reps q1 q2).1 d ed
  obtain ⟨c1, c2⟩ := hf N hN C g
  exact ⟨a, C, dx, l, v, rfl, r2.fh _ _ e, c1, c2, ev, k (.d d) _ F2 _ _ h1 (f1.trans f2) r2 rv fun w => nomatch w⟩
theorem de_fld {e : Expr} {te : TE} {we : W} {Ns : List Str} {f : Str} (he : DE K X Z e te we) (hf : ∀ N ∈ Ns, FldOk K N f) (hb : attributeBase e f X.env (eval e X.env) = eval e X.env := by rfl) (hK : X.K = K := by rfl) : DE K X Z (.Attribute e f pos) (tFld K te f) (wFld Ns f we) := by
  subst hK
  exact ⟨pe_fld he.pe hb, run_fld he.run hf⟩
/-- o.m(..): by the instance's class -/
def MethAt (P : Program) (w : World) (K : PySem.W.Frag) (mg : Str → Option Value) (base : Heap) (CX : CXT) (k : Nat) (m : Str) (C : Addr) (sp : DSp) : Prop := Cls K C ∧ ∃ g fd ps k', k' ≤ k ∧ Meth K C m g ∧ FnOk P w K mg base CX k' g fd ps (spD K sp) ∧ Binds K fd ps []
def MethOk (P : Program) (w : World) (K : PySem.W.Frag) (mg : Str → Option Value) (base : Heap) (CX : CXT) (k : Nat) (m : Str) (N : Str) (sp : DSp) : Prop := ∀ C, PySem.W.nsIn K mainGlobals N = some (some (.ref C)) → MethAt P w K mg base CX k m C sp
theorem MethOk.of {P : Program} {w : World} {K : PySem.W.Frag} {mg : Str → Option Value} {base : Heap} {CX : CXT} {k k' : Nat} {m N : Str} {sp : DSp} {C g : Addr} {fd : FuncData} {ps : List Str} (aC : PySem.W.nsIn K mainGlobals N = some (some (.ref C))) (c : Cls K C) (hm : Meth K C m g)
    (F : FnOk P w K mg base CX k' g fd ps (spD K sp)) (hb : Binds K fd ps []) (hk : k' ≤ k) : MethOk P w K mg base CX k m N sp := fun C' h => by rw [aC] at h; cases h; exact ⟨c, g, fd, ps, k', hk, hm, F, hb⟩
theorem FldOk.of {K : PySem.W.Frag} {N f : Str} {C : Addr} (aC : PySem.W.nsIn K mainGlobals N = some (some (.ref C))) (c : Cls K C) (n : NoAttr K C f) : FldOk K N f := fun C' h => by rw [aC] at h; cases h; exact ⟨c, n⟩
def tMethD (X : Cx) (CX : CXT) (k : Nat) (m : Str) (E : XK) (ta : TE) (t : TA) : TE := fun σ H Q => ta σ H fun x H1 => ∃ a C dx fs, ∃ sp : DSp, x = .ref a ∧ H1 a = some (.ins C dx fs) ∧ MethAt X.prog X.w X.K X.mg X.base CX k m C sp ∧ fs.lookup m = none ∧
  t σ H1 fun vs H2 => spD X.K sp (x :: vs) H2 Q E
theorem pe_methD {o e : Expr} {m : Str} {es : List Expr} {ta : TE} {t : TA} {E : XK} {pl : Sem Bool} (he : PE X o ta) (hr : Room k X.A) (hx : Passes CX X E) (ha : PA X (e :: es) t)
    (hst : starEach (e :: es) X.env = (false, eval e X.env) :: starEach es X.env := by rfl) (hpl : (backTo pos (starEach es X.env)).any (·.1) = false := by rfl)
    (ht : eval (.Call (.Attribute o m apos) (e :: es) [] pos) X.env = (do
      let ov ← eval o X.env
      standAt apos.atName
      let (f, first) ← holding [ov] (getMethod ov m pl)
      callWith pos f first (backTo pos (starEach (e :: es) X.env)) (backToKw pos (keywordEach [] X.env))) := by rfl) :
    PE X (.Call (.Attribute o m apos) (e :: es) [] pos) (tMethD X CX k m E ta t) := by
  refine ⟨fun pins s σ H Q I h => ?_⟩
  refine PySem.W.methodCall_KW (pl := pl) (thn (he.run pins s σ H _ I h) fun u s1 ⟨x, H1, I1, rx, a, C, dx, fs, sp, ex, ea, ⟨c, g, fd, ps, k', hk, hm, F, hb⟩, l, q⟩ => ?_) ht
  subst ex
  obtain rfl : u = Value.ref a := rx
  refine getmeth_ok I1 ea c hm l ?_
  refine PySem.W.callWith_K (first := [.ref a]) (h₀ := X.base) I.ok.mod.kin hm.kp (thn (ha.run pos pins s1 σ H1 _ I1 q) fun us s2 ⟨vs, H2, I2, r, q2⟩ => ⟨I2.kIn, ?_⟩) hst hpl
  exact run_fn (us := .ref a :: us) (vs := .ref a :: vs) F (hr.mono hk) hb .nil hx I2 (.cons rfl r) (by rw [List.append_nil]; exact q2)
theorem pe_methD0 {o : Expr} {m : Str} {ta : TE} {E : XK} {pl : Sem Bool} (he : PE X o ta) (hr : Room k X.A) (hx : Passes CX X E)
    (ht : eval (.Call (.Attribute o m apos) [] [] pos) X.env = (do
      let ov ← eval o X.env
      standAt apos.atName
      let (f, first) ← holding [ov] (getMethod ov m pl)
      callWith pos f first (backTo pos (starEach [] X.env)) (backToKw pos (keywordEach [] X.env))) := by rfl) :
    PE X (.Call (.Attribute o m apos) [] [] pos) (tMethD X CX k m E ta tNil) := by
  refine ⟨fun pins s σ H Q I h => ?_⟩
  refine PySem.W.methodCall_KW (pl := pl) (thn (he.run pins s σ H _ I h) fun u s1 ⟨x, H1, I1, rx, a, C, dx, fs, sp, ex, ea, ⟨c, g, fd, ps, k', hk, hm, F, hb⟩, l, q⟩ => ?_) ht
  subst ex
  obtain rfl : u = Value.ref a := rx
  refine getmeth_ok I1 ea c hm l ?_
  exact PySem.W.callWith_K0 (first := [.ref a]) I1.kIn hm.kp (run_fn (us := [.ref a]) (vs := [.ref a]) F (hr.mono hk) hb .nil hx I1 (.cons rfl .nil) q)
/-- the promise by the class -/
def tget {β : Type} (Tb : List (Str × β)) (N : Str) : Option β := Tb.lookup N
theorem tget_mem {β : Type} {Tb : List (Str × β)} {N : Str} {b : β} (h : tget Tb N = some b) : (N, b) ∈ Tb := by
  unfold tget at h
  induction Tb with
  | nil => cases h
  | cons q Tb ih =>
    obtain ⟨qk, qd⟩ := q
    simp only [List.lookup] at h
    cases hb : (N == qk) with
    | true =>
      rw [hb] at h
      cases h
      rw [beq_iff_eq.mp hb]
      exact List.mem_cons_self
    | false => rw [hb] at h; exact List.mem_cons_of_mem _ (ih h)
def wMeth (Tb : List (Str × DSp)) (m : Str) (px : PX) (wo : W) (wa : WA) : W := fun ρ P => wo ρ fun s ρ1 => asIns s.fz fun N kvs => fget kvs m = none ∧ asA (tget Tb N) fun sp => wa ρ1 fun ds ρ2 => sp (s.fz :: ds) (fun r => P r ρ2) px
theorem run_meth {ta : TE} {t : TA} {wo : W} {wa : WA} {Tb : List (Str × DSp)} {m : Str} (hK : X.K = K) (ho : RunE K Z ta wo) (ha : RunA K Z t wa) (hT : ∀ q ∈ Tb, MethOk X.prog X.w X.K X.mg X.base CX k m q.1 q.2) : RunE K Z (tMethD X CX k m Z.E ta t) (wMeth Tb m Z.P wo wa) := fun {H0 F0 F H ρ σ Q P} zo rl h kq => ho zo rl h fun s1 ρ1 F1 H1 v1 h1 f1 r1 sr1 fr1 => by
  subst hK
  obtain ⟨F2, f2, r2, rp2⟩ := r1.freeze sr1 fr1
  obtain ⟨a, N, C, dx, kvs, l, rfl, g, e, ⟨q1, q2⟩, hm, h1⟩ := asIns_of h1 rp2
  obtain ⟨sp, es, h1⟩ := asA_of h1
  refine ⟨a, C, dx, l, sp, rfl, r2.fh _ _ e, hT _ (tget_mem es) C g, (look_reps q1 q2).2 hm, ha zo r2 h1 fun ds ρ3 F3 H3 vs h3 f3 r3 rps => ?_⟩
  exact ⟨F3, s1.fz :: ds, _, Z.P, r3.fh, ⟨_, _, rfl, Rep.mono f3 _ _ rp2, rps⟩, h3, r3.kont (f1.trans (f2.trans f3)) kq, zo.on r3.h r3.f r3.nw⟩
theorem de_meth {o e : Expr} {m : Str} {es : List Expr} {ta : TE} {t : TA} {wo : W} {wa : WA} {Tb : List (Str × DSp)} {pl : Sem Bool} (ho : DE K X Z o ta wo) (ha : DA K X Z (e :: es) t wa) (hT : ∀ q ∈ Tb, MethOk X.prog X.w X.K X.mg X.base CX k m q.1 q.2) (hr : Room k X.A) (hx : Passes CX X Z.E)
    (hst : starEach (e :: es) X.env = (false, eval e X.env) :: starEach es X.env := by rfl) (hpl : (backTo pos (starEach es X.env)).any (·.1) = false := by rfl)
    (ht : eval (.Call (.Attribute o m apos) (e :: es) [] pos) X.env = (do
      let ov ← eval o X.env
      standAt apos.atName
      let (f, first) ← holding [ov] (getMethod ov m pl)
      callWith pos f first (backTo pos (starEach (e :: es) X.env)) (backToKw pos (keywordEach [] X.env))) := by rfl) (hK : X.K = K := by rfl) :
    DE K X Z (.Call (.Attribute o m apos) (e :: es) [] pos) (tMethD X CX k m Z.E ta t) (wMeth Tb m Z.P wo wa) := ⟨pe_methD ho.pe hr hx ha.pe hst hpl ht, run_meth hK ho.run ha.run hT⟩
theorem de_meth0 {o : Expr} {m : Str} {ta : TE} {wo : W} {Tb : List (Str × DSp)} {pl : Sem Bool} (ho : DE K X Z o ta wo) (hT : ∀ q ∈ Tb, MethOk X.prog X.w X.K X.mg X.base CX k m q.1 q.2) (hr : Room k X.A) (hx : Passes CX X Z.E)
    (ht : eval (.Call (.Attribute o m apos) [] [] pos) X.env = (do
      let ov ← eval o X.env
      standAt apos.atName
      let (f, first) ← holding [ov] (getMethod ov m pl)
      callWith pos f first (backTo pos (starEach [] X.env)) (backToKw pos (keywordEach [] X.env))) := by rfl) (hK : X.K = K := by rfl) :
    DE K X Z (.Call (.Attribute o m apos) [] [] pos) (tMethD X CX k m Z.E ta tNil) (wMeth Tb m Z.P wo wNil) := ⟨pe_methD0 ho.pe hr hx ht, run_meth hK ho.run (da_nil (X := X) (Z := Z)).run hT⟩
/-! ### makers -/
/-- a new instance, its attributes as given -/
theorem Kont.newI {H F : Hp} {P : S → Prop} {Q : VK} {N : Str} {C x dx : Addr} {kvs : List (Str × D)} {l : List (Str × V)} (k : Kont K H F P Q) (fh : Same F H) (h : P (.oi N kvs)) (g : PySem.W.nsIn K mainGlobals N = some (some (.ref C))) (q1 : l.map (·.1) = kvs.map (·.1)) (q2 : Reps K F (kvs.map (·.2)) (l.map (·.2)))
    (nx : H x = none) (nd : H dx = none) (ne : dx ≠ x) : Q (.ref x) (upd (upd H dx (.own x)) x (.ins C dx l)) := by
  have s1 : Same H (upd H dx (.own x)) := Same.new nd
  have n2 : (upd H dx (.own x)) x = none := by rw [upd_ne ne.symm]; exact nx
  have s2 : Same H (upd (upd H dx (.own x)) x (.ins C dx l)) := s1.trans (Same.new n2)
  exact k (.oi N kvs) _ F _ h s2 (Same.refl F) (fh.trans s2) (fun a q => .inl q) ⟨x, C, dx, l, rfl, g, upd_same, q1, q2, nx, fh.free nx⟩
/-- __init__ that stores its parameters -/
def spI (C : Addr) (fs : List Str) : Sp := fun vs H Q _ => ∃ (p dx : Addr) (xs : List V), vs = .ref p :: xs ∧ xs.length = fs.length ∧ H p = some (.ins C dx []) ∧ Q .non (upd H p (.ins C dx (fs.zip xs)))
def wMk (N : Str) (fs : List Str) (wa : WA) : W := fun ρ P => wa ρ fun ds ρ1 => ds.length = fs.length ∧ P (.oi N (fs.zip ds)) ρ1
theorem upd_upd {H : Hp} {x : Addr} {u v : HO} : upd (upd H x u) x v = upd H x v := by
  funext b
  by_cases e : b = x
  · subst e; rw [upd_same, upd_same]
  · rw [upd_ne e, upd_ne e, upd_ne e]
theorem run_mk {C : Addr} {N : Str} {fs : List Str} {t : TA} {wa : WA} {E : XK} (ha : RunA K Z t wa) (g : PySem.W.nsIn K mainGlobals N = some (some (.ref C))) : RunE K Z (tMake C (spI C fs) [] E t) (wMk N fs wa) := fun {H0 F0 F H ρ σ Q P} zo rl h kq => ha zo rl h fun ds ρ1 F1 H1 vs h1 f1 r1 rps => by
  obtain ⟨hl, h1⟩ := h1
  intro x dx nx nd ne
  rw [List.append_nil]
  have l2 := rps.len
  refine ⟨x, dx, vs, rfl, by omega, upd_same, rfl, ?_⟩
  rw [upd_upd]
  have e1 : (fs.zip vs).map (·.1) = fs := List.map_fst_zip (by omega)
  have e2 : (fs.zip vs).map (·.2) = vs := List.map_snd_zip (by omega)
  have e3 : (fs.zip ds).map (·.1) = fs := List.map_fst_zip (by omega)
  have e4 : (fs.zip ds).map (·.2) = ds := List.map_snd_zip (by omega)
  exact (r1.kont f1 kq).newI r1.fh h1 g (by rw [e1, e3]) (by rw [e2, e4]; exact rps) nx nd ne
theorem de_mk {C f : Addr} {fd : FuncData} {ps : List Str} {N x : Str} {fs : List Str} {e : Expr} {es : List Expr} {t : TA} {wa : WA} {E : XK} (g : PySem.W.nsIn K mainGlobals N = some (some (.ref C))) (M : Mk X.K C f) (F : FnOk X.prog X.w X.K X.mg X.base CX k f fd ps (spI C fs)) (hr : Room (k + 1) X.A) (hm : X.mg x = some (.ref C)) (hb : Binds X.K fd ps []) (hx : Passes CX X E)
    (ha : DA K X Z (e :: es) t wa) (hg : Gl X x := by rfl) (hdb : (x == ("__debug__" : Str)) = false := by decide) (he : starEach (e :: es) X.env = (false, eval e X.env) :: starEach es X.env := by rfl) (hpl : (backTo pos (starEach es X.env)).any (·.1) = false := by rfl) :
    DE K X Z (.Call (.Name x p) (e :: es) [] pos) (tMake C (spI C fs) [] E t) (wMk N fs wa) := ⟨pe_make M F hr hg hm hb .nil hx ha.pe (hdb := hdb) (he := he) (hpl := hpl), run_mk ha.run g⟩
/-- C(), C without __init__ -/
structure Bare (K : PySem.W.Frag) (C : Addr) : Prop where
  makes : PySem.W.makesIn K C = true
  init : PySem.W.findIn K (.ref C) "__init__" = some (some (.builtin "object.__init__"))
  top : PySem.W.mroIn K C (.type "object") = some true
  kp : PySem.W.keepIn K (.ref C) = true
def tBare (C : Addr) : TE := fun _ H Q => ∀ x dx, H x = none → H dx = none → dx ≠ x → Q (.ref x) (upd (upd H dx (.own x)) x (.ins C dx []))
open PySem.W in
theorem code_oi {P : Program} {w : World} {A : Around} {K : PySem.W.Frag} {C y : Addr} {o : Obj} {s : Shared} {R : Result → Shared → Prop} (X : K.In s.heap) (ho : s.heap.get? y = some o) (hc : o.cls = .ref C) (top : PySem.W.mroIn K C (.type "object") = some true)
    (q : R (.ok (.ret .none)) s) : codeAny (model P w) A (.call (.builtin "object.__init__") ⟨[.ref y], []⟩) R s := by
  have t1 : Looks (model P w) s.heap (typeOf (.ref y)) (.ref C) := NwA.type_at ho hc
  have t2 : Looks (model P w) s.heap (isInstance (.ref y) (.type "object")) true := t1.andThen (looks_mroIn X top)
  refine codeAny_call_builtin oi_plain entry_oi (@check_slot (model P w) _ _ _ "object.__init__" "object" "__init__" (.ref y) [] [] _ oi_kind oi_split t2 (NwA.oi_args_any (.ref y) [] []) ?_)
  obtain ⟨hh, g, d, t, os⟩ := s
  rw [oi_run]
  exact wpAny_pure q
theorem pe_bare {C : Addr} {x : Str} (M : Bare X.K C) (hr : Room (k + 1) X.A) (hg : Gl X x) (hm : X.mg x = some (.ref C)) (hdb : (x == ("__debug__" : Str)) = false := by decide) : PE X (.Call (.Name x p) [] [] pos) (tBare C) := by
  refine ⟨fun pins s σ H Q I h => ?_⟩
  refine wpAny_Call_Name_kw (ld_glob I hg hm ?_ hdb)
  refine PySem.W.callWith_K0 I.kIn M.kp ?_
  have hq := h (s.heap.objs.size + 1) s.heap.objs.size (I.hok.fresh (Nat.le_succ _)) (I.hok.fresh (Nat.le_refl _)) (Nat.ne_of_lt (Nat.lt_succ_self _))
  have I2 := Inv.made (C := C) I
  have ho : ((s.heap.push PySem.W.emptyDict).push (PySem.W.instObj C s.heap.objs.size)).get? (s.heap.objs.size + 1) = some (PySem.W.instObj C s.heap.objs.size) := by
    have := Heap.get?_push_size (s.heap.push PySem.W.emptyDict) (o := PySem.W.instObj C s.heap.objs.size) rfl
    rwa [Heap.size_push] at this
  exact wpAny_call (make_map0 I.kIn M.makes M.init (fun self => PySem.W.Looks.of_pure (PySem.W.oi_bind _)) (code_oi I2.kIn ho rfl M.top ⟨rfl, .ref (s.heap.objs.size + 1), _, I2, rfl, hq⟩))
theorem putF_two {f1 f2 : Str} {x y : V} (h : f1 ≠ f2) : putF f2 y (putF f1 x []) = [(f1, x), (f2, y)] := by
  show (if f1 = f2 then _ else (f1, x) :: putF f2 y []) = _
  rw [if_neg h]; rfl
theorem two_of {xs : List V} (h : xs.length = 2) : ∃ x y, xs = [x, y] := by
  match xs, h with
  | [x, y], _ => exact ⟨x, y, rfl⟩
def wBare (N : Str) : W := fun ρ P => P (.oi N []) ρ
theorem run_bare {C : Addr} {N : Str} (g : PySem.W.nsIn K mainGlobals N = some (some (.ref C))) : RunE K Z (tBare C) (wBare N) := fun {H0 F0 F H ρ σ Q P} zo rl h kq => by
  intro x dx nx nd ne
  exact (rl.kont (Same.refl F) kq).newI rl.fh h g rfl rfl nx nd ne
theorem de_bare {C : Addr} {N x : Str} (g : PySem.W.nsIn K mainGlobals N = some (some (.ref C))) (M : Bare X.K C) (hr : Room (k + 1) X.A) (hm : X.mg x = some (.ref C)) (hg : Gl X x := by rfl) (hdb : (x == ("__debug__" : Str)) = false := by decide) : DE K X Z (.Call (.Name x p) [] [] pos) (tBare C) (wBare N) := ⟨pe_bare M hr hg hm hdb, run_bare g⟩
end
end DL
/-! DL22: methods of texts with one argument: split, partition, strip. -/
namespace DL
open PySem L2
section
variable {K : PySem.W.Frag} {X : Cx} {Z : Zx} {pos apos : Pos} {o e : Expr} {to te : TE} {wo we : W}
def wM1 (op : O2) (wo we : W) : W := fun ρ P => wo ρ fun s ρ1 => asS s.fz fun _ => we ρ1 fun t ρ2 => op s.fz t.fz fun r => P r ρ2
structure SndT (K : PySem.W.Frag) (r : V → List V → Hp → VK → Prop) (op : O2) : Prop where
  run : ∀ {F H : Hp} {x y : D} {vx vy : V} {P : S → Prop} {Q : VK}, Same F H → Rep K F x vx → Rep K F y vy → op x y P → Kont K H F P Q → r vx [vy] H Q
theorem run_m1 {r : V → List V → Hp → VK → Prop} {op : O2} (ho : RunE K Z to wo) (he : RunE K Z te we) (hs : SndT K r op) : RunE K Z (tM1 r to te) (wM1 op wo we) := fun {H0 F0 F H ρ σ Q P} zo rl h k => by
  refine ho zo rl h fun s1 ρ1 F1 H1 v1 h1 f1 r1 sr1 fr1 => ?_
  obtain ⟨F2, f2, r2, rp2⟩ := r1.freeze sr1 fr1
  obtain ⟨a, rfl, h1⟩ := asS_of h1 rp2
  refine ⟨⟨a, rfl⟩, he zo r2 h1 fun s3 ρ3 F3 H3 v3 h3 f3 r3 sr3 fr3 => ?_⟩
  obtain ⟨F4, f4, r4, rp4⟩ := r3.freeze sr3 fr3
  exact hs.run r4.fh (Rep.mono (f3.trans f4) _ _ rp2) rp4 h3 (r4.kont (f1.trans (f2.trans (f3.trans f4))) k)
def oSplit : O2 := fun x y P => match x, y with
  | .str a, .str b => (b.length == 0) = false ∧ a.length + 2 ≤ sizeLine ∧ P (.ol ((Txt.split a b).map .str))
  | _, _ => False
theorem snd_split : SndT K (fun x xs H Q => ∃ a b, x = .str a ∧ xs = [.str b] ∧ (b.length == 0) = false ∧ a.length + 2 ≤ sizeLine ∧ rNewStrs (Txt.split a b) H Q) oSplit := ⟨fun {F H x y vx vy P Q} fh rx ry h k => by
  unfold oSplit at h
  split at h
  · rename_i a b
    cases (show vx = _ from rx); cases (show vy = _ from ry)
    refine ⟨a, b, rfl, rfl, h.1, h.2.1, fun p n => ?_⟩
    exact k.newL fh h.2.2 (Reps.strs.mpr rfl) n
  · exact h.elim⟩
theorem de_split (ho : DE K X Z o to wo) (he : DE K X Z e te we) (hs : starEach [e] X.env = [(false, eval e X.env)] := by rfl) (hbase : attributeBase o "split" X.env (eval o X.env) = eval o X.env := by rfl) (hline : (apos.endLine == pos.line) = true := by rfl) :
    DE K X Z (.Call (.Attribute o "split" apos) [e] [] pos) (tM1 (fun x xs H Q => ∃ a b, x = .str a ∧ xs = [.str b] ∧ (b.length == 0) = false ∧ a.length + 2 ≤ sizeLine ∧ rNewStrs (Txt.split a b) H Q) to te) (wM1 oSplit wo we) :=
  ⟨pe_split ho.pe he.pe hs hbase hline, run_m1 ho.run he.run snd_split⟩
def oPart : O2 := fun x y P => match x, y with
  | .str a, .str b => (b.length == 0) = false ∧ a.length ≤ sizeLine ∧ P (.d (.tup [.str (Txt.partition a b).1, .str (Txt.partition a b).2.1, .str (Txt.partition a b).2.2]))
  | _, _ => False
theorem snd_part : SndT K (fun x xs H Q => ∃ a b, x = .str a ∧ xs = [.str b] ∧ (b.length == 0) = false ∧ a.length ≤ sizeLine ∧
      ∀ p, H p = none → Q (.ref p) (upd H p (.tup [.str (Txt.partition a b).1, .str (Txt.partition a b).2.1, .str (Txt.partition a b).2.2]))) oPart := ⟨fun {F H x y vx vy P Q} fh rx ry h k => by
  unfold oPart at h
  split at h
  · rename_i a b
    cases (show vx = _ from rx); cases (show vy = _ from ry)
    refine ⟨a, b, rfl, rfl, h.1, h.2.1, fun p n => ?_⟩
    exact k.newT fh h.2.2 ⟨_, _, rfl, rfl, _, _, rfl, rfl, _, _, rfl, rfl, rfl⟩ n
  · exact h.elim⟩
theorem de_part (ho : DE K X Z o to wo) (he : DE K X Z e te we) (hs : starEach [e] X.env = [(false, eval e X.env)] := by rfl) (hbase : attributeBase o "partition" X.env (eval o X.env) = eval o X.env := by rfl) (hline : (apos.endLine == pos.line) = true := by rfl) :
    DE K X Z (.Call (.Attribute o "partition" apos) [e] [] pos) (tM1 (fun x xs H Q => ∃ a b, x = .str a ∧ xs = [.str b] ∧ (b.length == 0) = false ∧ a.length ≤ sizeLine ∧
      ∀ p, H p = none → Q (.ref p) (upd H p (.tup [.str (Txt.partition a b).1, .str (Txt.partition a b).2.1, .str (Txt.partition a b).2.2]))) to te) (wM1 oPart wo we) :=
  ⟨pe_partition ho.pe he.pe hs hbase hline, run_m1 ho.run he.run snd_part⟩
def oStrip1 : O2 := fun x y P => match x, y with
  | .str a, .str b => a.length ≤ sizeLine ∧ P (.d (.str (Txt.stripChars a b)))
  | _, _ => False
theorem snd_strip1 : SndT K (fun x xs H Q => ∃ a b, x = .str a ∧ xs = [.str b] ∧ a.length ≤ sizeLine ∧ Q (.str (Txt.stripChars a b)) H) oStrip1 := ⟨fun {F H x y vx vy P Q} fh rx ry h k => by
  unfold oStrip1 at h
  split at h
  · rename_i a b
    cases (show vx = _ from rx); cases (show vy = _ from ry)
    exact ⟨a, b, rfl, rfl, h.1, k.flat (d := .str (Txt.stripChars a b)) fh h.2 rfl⟩
  · exact h.elim⟩
theorem de_strip1 (ho : DE K X Z o to wo) (he : DE K X Z e te we) (hs : starEach [e] X.env = [(false, eval e X.env)] := by rfl) (hbase : attributeBase o "strip" X.env (eval o X.env) = eval o X.env := by rfl) (hline : (apos.endLine == pos.line) = true := by rfl) :
    DE K X Z (.Call (.Attribute o "strip" apos) [e] [] pos) (tM1 (fun x xs H Q => ∃ a b, x = .str a ∧ xs = [.str b] ∧ a.length ≤ sizeLine ∧ Q (.str (Txt.stripChars a b)) H) to te) (wM1 oStrip1 wo we) :=
  ⟨pe_m1 PySem.F.slot_str_strip PySem.F.type_str_strip mt_stripChars ho.pe he.pe hs hbase hline, run_m1 ho.run he.run snd_strip1⟩
end
/-! ### texts joined by a sign, and cut there -/
def glueL (c : Nat) : List (List Nat) → List Nat
  | [] => []
  | [w] => w
  | w :: v :: ws => w ++ c :: glueL c (v :: ws)
theorem take_free {c : Nat} {w r : List Nat} (h : c ∉ w) : (w ++ c :: r).takeWhile (fun d => decide (d ≠ c)) = w := by
  induction w with
  | nil => simp
  | cons d w ih =>
    rw [List.mem_cons, not_or] at h
    have : d ≠ c := fun e => h.1 e.symm
    rw [List.cons_append, List.takeWhile_cons, if_pos (by simpa using this), ih h.2]
theorem glue_inj {c : Nat} : ∀ {l m : List (List Nat)}, l ≠ [] → m ≠ [] → (∀ p ∈ l, c ∉ p) → (∀ p ∈ m, c ∉ p) → glueL c l = glueL c m → l = m
  | [], _, h, _, _, _, _ => absurd rfl h
  | _, [], _, h, _, _, _ => absurd rfl h
  | [w], [v], _, _, _, _, e => by rw [show w = v from e]
  | [w], v :: v2 :: vs, _, _, hl, _, e => by
    exfalso
    refine hl w (by simp) ?_
    rw [show w = v ++ c :: glueL c (v2 :: vs) from e]; simp
  | w :: w2 :: ws, [v], _, _, _, hm, e => by
    exfalso
    refine hm v (by simp) ?_
    rw [← show w ++ c :: glueL c (w2 :: ws) = v from e]; simp
  | w :: w2 :: ws, v :: v2 :: vs, _, _, hl, hm, e => by
    have e' : w ++ c :: glueL c (w2 :: ws) = v ++ c :: glueL c (v2 :: vs) := e
    have hw := hl w (by simp)
    have hv := hm v (by simp)
    have e1 : w = v := by rw [← take_free (r := glueL c (w2 :: ws)) hw, e', take_free hv]
    subst e1
    have e2 := List.append_cancel_left e'
    rw [List.cons.injEq] at e2
    rw [glue_inj (by simp) (by simp) (fun p hp => hl p (List.mem_cons_of_mem _ hp)) (fun p hp => hm p (List.mem_cons_of_mem _ hp)) e2.2]
theorem join_cps (c : Nat) : ∀ ws : List Str, (Str.join ⟨#[c]⟩ ws).cps.toList = glueL c (ws.map fun w => w.cps.toList)
  | [] => rfl
  | [w] => rfl
  | w :: v :: ws => by
    have ih := join_cps c (v :: ws)
    show ((w ++ (⟨#[c]⟩ : Str) ++ Str.join ⟨#[c]⟩ (v :: ws)).cps).toList = _
    show ((w.cps ++ #[c]) ++ (Str.join ⟨#[c]⟩ (v :: ws)).cps).toList = _
    rw [Array.toList_append, Array.toList_append, ih]
    simp [glueL]
/-- what is joined by a sign that stands in none of the words comes back by split -/
theorem split_join {c : Nat} {ws : List Str} (hn : ws ≠ []) (hf : ∀ w ∈ ws, c ∉ w.cps.toList) : Txt.split (Txt.join ⟨#[c]⟩ ws) ⟨#[c]⟩ = ws := by
  have e := StrLaws.join_split (Txt.join ⟨#[c]⟩ ws) ⟨#[c]⟩
  have e0 : Txt.join ⟨#[c]⟩ ws = Str.join ⟨#[c]⟩ ws := StrLaws.glued_eq_join _ _
  have free := StrLaws.split_free (Txt.join ⟨#[c]⟩ ws) c
  have ne : Txt.split (Txt.join ⟨#[c]⟩ ws) ⟨#[c]⟩ ≠ [] := by
    intro z
    unfold Txt.split at z
    split at z
    · cases z
    · split at z
      · cases z
      · simp [Builtin.Str.partsBetween] at z
  generalize Txt.split (Txt.join ⟨#[c]⟩ ws) ⟨#[c]⟩ = l at e free ne
  rw [e0] at e
  have e2 := congrArg (fun x : Str => x.cps.toList) e
  simp only [join_cps] at e2
  have e3 := glue_inj (c := c) (by simpa using ne) (by simpa using hn) (fun p hp => by obtain ⟨w, hw, rfl⟩ := List.mem_map.mp hp; exact free w hw) (fun p hp => by obtain ⟨w, hw, rfl⟩ := List.mem_map.mp hp; exact hf w hw) e2
  exact (List.map_inj_right fun a b h => str_ext h).mp e3
end DL
/-! DL23: a list repeated; sum of ints; isinstance with a class of the text. -/
namespace DL
open PySem L2
section
variable {K : PySem.W.Frag} {X : Cx} {Z : Zx} {pos p p2 : Pos} {a b : Expr} {ta tb : TE} {wa wb : W}
theorem Reps.rep {F : Hp} {xs : List D} {vs : List V} (h : Reps K F xs vs) : ∀ n : Nat, Reps K F (List.replicate n xs).flatten (List.replicate n vs).flatten
  | 0 => rfl
  | n + 1 => by
    rw [List.replicate_succ, List.replicate_succ, List.flatten_cons, List.flatten_cons]
    exact h.app (Reps.rep h n)
def oRep : O2 := fun x y P => match x, y with
  | .lst xs, .int k => (-(2 ^ 63) ≤ k ∧ k < 2 ^ 63) ∧ xs.length * k.toNat ≤ sizeLine ∧ P (.ol (List.replicate k.toNat xs).flatten)
  | _, _ => False
theorem snd_rep : Snd2 K rRep oRep := ⟨fun {F H x y vx vy P Q} fh rx ry h k => by
  unfold oRep at h
  split at h
  · rename_i xs i
    cases (show vy = _ from ry)
    obtain ⟨l, vs, rfl, hl, rr⟩ := rx
    refine ⟨l, i, vs, rfl, rfl, fh _ _ hl, h.1.1, h.1.2, by rw [rr.len]; exact h.2.1, fun p n => ?_⟩
    exact k.newL fh h.2.2 (Reps.rep rr _) n
  · exact h.elim⟩
theorem de_rep (ha : DE K X Z a ta wa) (hb : DE K X Z b tb wb) : DE K X Z (.BinOp a .Mult b pos) (tOp rRep ta tb) (wOp oRep wa wb) := de_op op_rep snd_rep ha hb
/-- the ints of a list -/
def intsD : List D → Option (List Int)
  | [] => some []
  | .int i :: xs => (intsD xs).map (i :: ·)
  | _ :: _ => none
theorem intsD_of {F : Hp} : ∀ {xs : List D} {vs : List V} {ns : List Int}, intsD xs = some ns → Reps K F xs vs → vs = ns.map V.int
  | [], vs, ns, e, r => by cases e; exact r
  | x :: xs, vs, ns, e, r => by
    obtain ⟨v, vs', rfl, r1, r2⟩ := r
    cases x <;> first | (cases e) | skip
    rename_i i
    unfold intsD at e
    cases e2 : intsD xs with
    | none => rw [e2] at e; cases e
    | some ms =>
      rw [e2] at e; cases e
      cases (show v = _ from r1)
      rw [intsD_of e2 r2]; rfl
def oSum : OL := fun ds P => match ds with
  | [.lst xs] => asA (intsD xs) fun ns => P (.d (.int ns.sum))
  | [.cel ns] => P (.d (.int ns.sum))
  | _ => False
theorem snd_sum : SndL K (rSum K) oSum := ⟨fun {F H ds vs P Q} fh r h k => by
  unfold oSum at h
  split at h
  · obtain ⟨v, _, rfl, ⟨l, us, rfl, hl, rr⟩, rfl⟩ := r
    obtain ⟨ns, e, h⟩ := asA_of h
    have := intsD_of e rr
    subst this
    exact ⟨l, ns, rfl, .inl (.inl (fh _ _ hl)), k.flat (d := .int _) fh h rfl⟩
  · obtain ⟨v, _, rfl, ⟨l, rfl, hs⟩, rfl⟩ := r
    exact ⟨l, _, rfl, fh.seq hs, k.flat (d := .int _) fh h rfl⟩
  · exact h.elim⟩
theorem de_sum (hc : X.calm = true) (m : X.mg "sum" = none) (ha : DE K X Z a ta wa) (hg : Gl X "sum" := by rfl) (hs : starEach [a] X.env = [(false, eval a X.env)] := by rfl) (hK : X.K = K := by rfl) : DE K X Z (.Call (.Name "sum" p) [a] [] pos) (tCB (rSum K) (tCons ta tNil)) (wCB oSum (wCons wa wNil)) := by
  subst hK
  exact de_callB (cr_sum hc) snd_sum hg m (by decide +kernel) (da_cons ha da_nil hs) (hn := by decide) (hdb := by decide) (he := hs) (hpl := rfl)
/-- isinstance(x, N), N a class of the text: Ys, the classes under it -/
def IsOk (K : PySem.W.Frag) (M N : Str) (b : Bool) : Prop := ∀ C D, PySem.W.nsIn K mainGlobals M = some (some (.ref C)) → PySem.W.nsIn K mainGlobals N = some (some (.ref D)) → PySem.W.kitOne K (.ref C) (.ref D) = some b
theorem IsOk.of {M N : Str} {C D : Addr} {b : Bool} (h1 : PySem.W.nsIn K mainGlobals M = some (some (.ref C))) (h2 : PySem.W.nsIn K mainGlobals N = some (some (.ref D))) (h : PySem.W.kitOne K (.ref C) (.ref D) = some b) : IsOk K M N b := fun C' D' g1 g2 => by
  rw [h1] at g1; rw [h2] at g2; cases g1; cases g2; exact h
open PySem.W in
theorem kit_of {C D : Addr} {b : Bool} (h1 : PySem.W.typeIn K (.ref D) = some (.type "type")) (h2 : PySem.W.mroIn K D (.type "object") = some true) (h3 : PySem.W.mroIn K C (.ref D) = some b) (h4 : PySem.W.mroIn K C (.ref C) = some true) : PySem.W.kitOne K (.ref C) (.ref D) = some b := by
  unfold kitOne
  split
  · rename_i e
    have : C = D := by simpa using e
    subst this
    rw [h4] at h3; exact h3
  · have h5 : (clsIn K D).isSome = true := by
      unfold mroIn at h2
      cases e : clsIn K D with
      | none => rw [e] at h2; cases h2
      | some cd => rfl
    show (if ((clsIn K D).isSome && typeIn K (.ref D) == some (.type "type")) = true then subIn K (.ref C) (.ref D) else none) = some b
    rw [h1, h5, if_pos (by simp)]
    exact h3
/-- what an instance's class must have for isinstance -/
structure InsOk1 (K : PySem.W.Frag) (C : Addr) : Prop where
  cl : Cls K C
  ha : PySem.W.findIn K (.ref C) "__class__" = some (some (.builtin "object.__class__"))
  hn : PySem.W.specialIn K (.builtin "object.__class__") "__get__" = some (some (.builtin "getset_descriptor.__get__"))
  htk : PySem.W.takesIn K (.builtin "object.__class__") = some true
  hm : PySem.W.mroIn K C (.type "object") = some true
def InsOk (K : PySem.W.Frag) (M : Str) : Prop := ∀ C, PySem.W.nsIn K mainGlobals M = some (some (.ref C)) → InsOk1 K C
theorem InsOk.of {M : Str} {C : Addr} (h1 : PySem.W.nsIn K mainGlobals M = some (some (.ref C))) (h : InsOk1 K C) : InsOk K M := fun C' g => by rw [h1] at g; cases g; exact h
def wIsC (All Ys : List Str) (wa : W) : W := fun ρ P => wa ρ fun s ρ1 => asIns s.fz fun M _ => M ∈ All ∧ P (.d (.bl (decide (M ∈ Ys)))) ρ1
theorem run_isC {N : Str} {C : Addr} {All Ys : List Str} (hD : PySem.W.nsIn K mainGlobals N = some (some (.ref C))) (ha : RunE K Z ta wa) (hI : ∀ M ∈ All, IsOk K M N (decide (M ∈ Ys))) (hT : ∀ M ∈ All, InsOk K M) :
    RunE K Z (tCB (rIsi K) (tCons ta (tCons (tC (.ref C)) tNil))) (wIsC All Ys wa) := fun {H0 F0 F H ρ σ Q P} zo rl h k => ha zo rl h fun s1 ρ1 F1 H1 v1 h1 f1 r1 sr1 fr1 => by
  obtain ⟨F2, f2, r2, rp2⟩ := r1.freeze sr1 fr1
  obtain ⟨a, M, D, dx, kvs, l, rfl, g, e, _, hM, h1⟩ := asIns_of h1 rp2
  have t := hT M hM D g
  exact ⟨.ref a, .ref C, .ref D, .ref C, _, rfl, .own C, .base (.ins (r2.fh _ _ e) t.cl t.ha t.hn t.htk t.hm), hI M hM D C g hD, k (.d (.bl _)) _ F2 _ _ h1 (f1.trans f2) r2 rfl fun w => nomatch w⟩
theorem de_isiC {N x : Str} {C : Addr} {All Ys : List Str} (m : X.mg "isinstance" = none) (ha : DE K X Z a ta wa) (hD : PySem.W.nsIn K mainGlobals N = some (some (.ref C))) (hI : ∀ M ∈ All, IsOk K M N (decide (M ∈ Ys))) (hT : ∀ M ∈ All, InsOk K M) (hm : X.mg x = some (.ref C)) (hx : Gl X x := by rfl) (hd : (x == ("__debug__" : Str)) = false := by decide)
    (hg : Gl X "isinstance" := by rfl) (hs : starEach [a, .Name x p2] X.env = (false, eval a X.env) :: starEach [.Name x p2] X.env := by rfl) (hs2 : starEach [.Name x p2] X.env = [(false, eval (.Name x p2) X.env)] := by rfl) (hpl : (backTo pos (starEach [.Name x p2] X.env)).any (·.1) = false := by rfl) (hK : X.K = K := by rfl) :
    DE K X Z (.Call (.Name "isinstance" p) [a, .Name x p2] [] pos) (tCB (rIsi K) (tCons ta (tCons (tC (.ref C)) tNil))) (wIsC All Ys wa) := by
  subst hK
  exact ⟨pe_callB call_isi hg m (by decide +kernel) (pa_cons ha.pe (pa_cons (pe_glob hx hm rfl hd) pa_nil hs2) hs) (hn := by decide) (hdb := by decide) (he := hs) (hpl := hpl), run_isC hD ha.run hI hT⟩
end
end DL
/-! DL24: raise, where nothing may be let out: never reached; a def that may raise, called there. -/
namespace DL
open PySem L2
/-- raise N(..): fs are the fields that its maker stores, in order -/
def wRaise (px : PX) (N : Str) (fs : List Str) (wa : WA) : WS := fun _ ρ => (∃ M gs, px M gs) ∧ wa ρ fun ds _ => ds.length = fs.length ∧ px N (fs.zip ds)
theorem ds_noR {K : PySem.W.Frag} {X : Cx} {Z : Zx} {st : Stmt} {N : Str} {fs : List Str} {wa : WA} : DS K X Z st (fun _ _ _ => False) (wRaise (fun _ _ => False) N fs wa) :=
  ⟨⟨fun _ _ _ _ _ _ h => h.elim⟩, fun {_ _ _ _ _ _ _ _} _ _ _ h => by obtain ⟨⟨_, _, z⟩, _⟩ := h; exact z⟩
/-- a promise where nothing is let out -/
abbrev sp0 (R : DSp) : DSp := fun ds P _ => R ds P fun _ _ => False
section
variable {K : PySem.W.Frag} {X : Cx} {Z : Zx} {pos p : Pos} {CX : CXT} {k : Nat} {f : Addr} {fd : FuncData} {ps : List Str} {Rf : DSp} {x : Str} {e : Expr} {es : List Expr} {ta : TA} {wa : WA}
theorem de_callN (F : FnOk X.prog X.w X.K X.mg X.base CX k f fd ps (spD K (sp0 Rf))) (hr : Room k X.A) (hm : X.mg x = some (.ref f)) (hk : PySem.W.keepIn X.K (.ref f) = true) (hb : Binds X.K fd ps []) (hx : Passes CX X Z.E)
    (ha : DA K X Z (e :: es) ta wa) (hg : Gl X x := by rfl) (hdb : (x == ("__debug__" : Str)) = false := by decide) (he : starEach (e :: es) X.env = (false, eval e X.env) :: starEach es X.env := by rfl) (hpl : (backTo pos (starEach es X.env)).any (·.1) = false := by rfl) :
    DE K X Z (.Call (.Name x p) (e :: es) [] pos) (tCall (spD K (sp0 Rf)) [] Z.E ta) (wCall Rf (fun _ _ => False) wa) := de_call F hr hm hk hb hx ha hg hdb he hpl
theorem de_call0N (F : FnOk X.prog X.w X.K X.mg X.base CX k f fd ps (spD K (sp0 Rf))) (hr : Room k X.A) (hm : X.mg x = some (.ref f)) (hk : PySem.W.keepIn X.K (.ref f) = true) (hb : Binds X.K fd ps []) (hx : Passes CX X Z.E)
    (hg : Gl X x := by rfl) (hdb : (x == ("__debug__" : Str)) = false := by decide) : DE K X Z (.Call (.Name x p) [] [] pos) (tCall (spD K (sp0 Rf)) [] Z.E tNil) (wCall Rf (fun _ _ => False) wNil) := de_call0 F hr hm hk hb hx hg hdb
end
end DL
set_option maxHeartbeats 2000000
/-! DL25: list(d.items()), list(d.keys()). -/
namespace DL
open PySem PySem.Spec PyProof.Rows L2 LiI
section
variable {X : Cx} {e : Expr} {te : TE} {p apos cpos pos : Pos}
def tLI (te : TE) : TE := fun σ H Q => te σ H fun x H1 => ∃ d kvs, x = .ref d ∧ Rd H1 d (.dK kvs) ∧
  ∀ (H' : Hp) (p : Addr) (ts : List Addr), Same H1 H' → H1 p = none → (∀ t ∈ ts, H1 t = none) → p ∉ ts → H' p = some (.lst (ts.map V.ref)) → Paired (fun (t : Addr) (q : Key × V) => H' t = some (.tup [kV q.1, q.2])) ts kvs → Q (.ref p) H'
theorem pe_LI (hcalm : X.calm = true) (he : PE X e te) (hg : Gl X "list") (hm : X.mg "list" = none) (hv : bootBuiltins "list" = some (.type "list")) (hb : attributeBase e "items" X.env (eval e X.env) = eval e X.env := by rfl) (hl : (apos.endLine == cpos.line) = true := by rfl)
    (hst : starEach [.Call (.Attribute e "items" apos) [] [] cpos] X.env = (false, eval (.Call (.Attribute e "items" apos) [] [] cpos) X.env) :: starEach [] X.env := by rfl) : PE X (.Call (.Name "list" p) [.Call (.Attribute e "items" apos) [] [] cpos] [] pos) (tLI te) := by
  refine ⟨fun pins s σ H Q I h0 => wpAny_Call_Name_kw (ld_blt I hg hm hv (PyProof.Rows.callWith_type1 ?_ hst rfl))⟩
  rw [hst]
  apply Calls.spliced_cons
  refine wpAny_Call_method (id := "dict.items") (T := "dict") hb rfl hl PySem.F.plainAttrs_dict PySem.F.slot_dict_items PySem.F.type_dict_items (thn (he.run pins s σ H _ I h0) fun u s1 hh => ?_)
  obtain ⟨x, H1, I1, rx, d, kvs, ex, hd, q⟩ := hh
  subst ex
  obtain rfl : u = Value.ref d := rx
  obtain ⟨hz, lo, vs, kv, hdo⟩ := dk_rd I1.hok hd
  obtain ⟨ep, hat⟩ := hdo.dictAt
  have len : kvs.length = vs.length := Paired.length kv
  have I2 : Inv X pins σ H1 { s1 with heap := s1.heap.push { cls := .type "dict_items", data := .fields #[.ref d] } } := I1.kept (t' := s1.toks) fun b ob q => Heap.get?_push_of_some _ q
  refine ⟨hdo.typeIs, hdo.mapOf.noDict, ?_⟩
  show wpAny _ _ (callWith cpos (.builtin "dict.items") [.ref d] [] []) _ X.xe s1
  refine method_meetsIn PySem.F.slot_dict_items PySem.F.entry_dict_items rfl (PySem.evalArgs_none ⟨rfl, hdo.typeIs, PySem.F.args_dict_items_1 _, _, meets_dict_items (mixKind X.prog X.w) d lo, ⟨vs, hdo⟩, Calls.spliced_nil ?_⟩)
  refine PySem.W.kdx_call (ep := ep) (kvs := vs) (knd := mixKind X.prog X.w) (I1.ok.hd hcalm) ⟨_, Heap.get?_push_size _ rfl, rfl, rfl⟩ (hat.push _) (by omega) fun h' tk acc c as hk hS hl hG hacc => ?_
  have ⟨H', k1, k2, k3, k4, k5, k6, J⟩ := items_laid (tk := tk) I2 hz kv hk hS hl hG hacc
  exact ⟨.ref _, H', J, rfl, q H' _ as k1 k2 k3 k4 k5 k6⟩
/-- list(view of keys) -/
def rListKV : List V → Hp → VK → Prop := fun vs H Q => ∃ (v d : Addr) (kvs : List (Key × V)), vs = [.ref v] ∧ H v = some (KVo v d) ∧ Rd H d (.dK kvs) ∧ ∀ q, H q = none → Q (.ref q) (upd H q (.lst (kvs.map fun kv => kV kv.1)))
theorem cr_listKV (hc : X.calm = true) : CallR X (.type "list") rListKV := by
  intro pins s σ H xs us Q I r h
  obtain ⟨v, d, kvs, rfl, hv, hd, q⟩ := h
  rw [Vals.ref1 r]
  obtain ⟨z, lo, vs, rel, dd⟩ := dk_rd I.hok hd
  obtain ⟨ep, hat⟩ := dd.dictAt
  have hl : kvs.length = vs.length := Paired.length rel
  have view : PySem.W.KdlKeysView s.heap v d := (I.hok v _ hv).1
  refine PySem.W.kdl_call (PySem.W.kdl_keys (knd := mixKind X.prog X.w) (kvs := vs) (ep := ep)) (I.ok.hd hc) ⟨view, hat⟩ (by omega) fun h' tk acc c' hkeep hS hacc => ?_
  have e0 : acc.toList.length = acc.size := by simp
  have okL : ObjOk X.prog X.w (upd H s.heap.objs.size (.lst (kvs.map fun kv => kV kv.1))) h' s.heap.objs.size (.lst (kvs.map fun kv => kV kv.1)) := by
    refine ⟨by rw [List.length_map]; exact z, acc.toList, c', vals_of_at (by rw [List.length_map, e0, hacc.1, hl]) fun j x w h1 h2 => ?_, by rw [Array.toArray_toList]; exact hS⟩
    obtain ⟨k, y, hky, hi⟩ := hacc.2 j w (by rw [← Array.getElem?_toList]; exact h2)
    have e1 : (kvs.map (·.1))[j]? = some k := by rw [rel.keys, List.getElem?_map, hky]; rfl
    have e3 : (kvs.map fun kv => kV kv.1) = (kvs.map (·.1)).map kV := by rw [List.map_map]; rfl
    rw [e3, List.getElem?_map, e1] at h1
    cases h1
    exact keyIs_rel hi
  exact ⟨.ref s.heap.objs.size, _, I.laid hkeep (Nat.le_refl _) okL, rfl, q _ (I.hok.fresh (Nat.le_refl _))⟩
end
section
variable {K : PySem.W.Frag} {X : Cx} {Z : Zx} {e : Expr} {te : TE} {we : W} {p apos cpos pos : Pos}
/-- the pairs of keys and values -/
def itemsT (kvs : List (Key × D)) : List D := kvs.map fun q => .tup [kD q.1, q.2]
def wLI (we : W) : W := fun ρ P => we ρ fun s ρ1 => asDic s.fz fun kvs => P (.ol (itemsT kvs)) ρ1
/-- F with what H' holds at ts -/
def atts (F H' : Hp) (ts : List Addr) : Hp := fun b => if b ∈ ts then H' b else F b
theorem items_reps {F H' : Hp} : ∀ {kvs : List (Key × D)} {l : List (Key × V)} {ts : List Addr}, KRep K F kvs l → Paired (fun (t : Addr) (q : Key × V) => F t = some (.tup [kV q.1, q.2])) ts l → Reps K F (itemsT kvs) (ts.map V.ref)
  | [], l, ts, h, pr => by
    have := h.nil; subst this
    cases pr; exact rfl
  | q :: kvs, l, ts, h, pr => by
    obtain ⟨r, l', rfl, e, rr, h'⟩ := h.cons
    cases pr with
    | cons a as =>
      rename_i t ts'
      refine ⟨.ref t, _, rfl, ⟨t, _, rfl, SqT.of a, kV r.1, [r.2], rfl, by rw [e]; exact rep_kD q.1, r.2, [], rfl, rr, rfl⟩, items_reps (H' := H') h' as⟩
theorem run_LI (he : RunE K Z te we) : RunE K Z (tLI te) (wLI we) := fun {H0 F0 F H ρ σ Q P} zo rl h k => he zo rl h fun s1 ρ1 F1 H1 v1 h1 f1 r1 sr1 fr1 => by
  obtain ⟨F2, f2, r2, rp2⟩ := r1.freeze sr1 fr1
  obtain ⟨d, kvs, l, rfl, hd, kr, h1⟩ := asDic_of h1 rp2
  refine ⟨d, l, rfl, Same.rd r2.fh hd, fun H' p ts hh np nt pt hp pr => ?_⟩
  have same : Same F2 (atts F2 H' ts) := fun b o q => by
    unfold atts
    split
    · rename_i hb
      have := r2.fh b o q
      rw [nt b hb] at this; cases this
    · exact q
  have fh' : Same (atts F2 H' ts) H' := fun b o q => by
    unfold atts at q
    split at q
    · exact q
    · exact hh b o (r2.fh b o q)
  have nw : ∀ a, atts F2 H' ts a ≠ none → F2 a ≠ none ∨ H1 a = none := fun a q => by
    unfold atts at q
    split at q
    · rename_i ha; exact .inr (nt a ha)
    · exact .inl q
  have pr' : Paired (fun (t : Addr) (q : Key × V) => atts F2 H' ts t = some (.tup [kV q.1, q.2])) ts l := by
    have : ∀ (as : List Addr) (m : List (Key × V)), (∀ t ∈ as, t ∈ ts) → Paired (fun (t : Addr) (q : Key × V) => H' t = some (.tup [kV q.1, q.2])) as m → Paired (fun (t : Addr) (q : Key × V) => atts F2 H' ts t = some (.tup [kV q.1, q.2])) as m := fun as m hs h => by
      induction h with
      | nil => exact .nil
      | cons a as ih => exact .cons (by unfold atts; rw [if_pos (hs _ (by simp))]; exact a) (ih fun t ht => hs t (by simp [ht]))
    exact this ts l (fun t h => h) pr
  have kr' : KRep K (atts F2 H' ts) kvs l := ⟨kr.1, Reps.mono same _ _ kr.2⟩
  refine (r2.kont (f1.trans f2) k) (.ol (itemsT kvs)) (.ref p) (atts F2 H' ts) H' h1 hh same fh' nw ⟨p, ts.map V.ref, rfl, hp, items_reps (H' := H') kr' pr', np, ?_⟩
  unfold atts
  rw [if_neg pt]
  exact r2.fh.free np
theorem de_LI (hc : X.calm = true) (he : DE K X Z e te we) (hm : X.mg "list" = none) (hg : Gl X "list" := by rfl) (hb : attributeBase e "items" X.env (eval e X.env) = eval e X.env := by rfl) (hl : (apos.endLine == cpos.line) = true := by rfl)
    (hst : starEach [.Call (.Attribute e "items" apos) [] [] cpos] X.env = (false, eval (.Call (.Attribute e "items" apos) [] [] cpos) X.env) :: starEach [] X.env := by rfl) :
    DE K X Z (.Call (.Name "list" p) [.Call (.Attribute e "items" apos) [] [] cpos] [] pos) (tLI te) (wLI we) := ⟨pe_LI hc he.pe hg hm (by decide +kernel) hb hl hst, run_LI he.run⟩
def wLK (we : W) : W := fun ρ P => we ρ fun s ρ1 => asDic s.fz fun kvs => P (.ol (kvs.map fun q => kD q.1)) ρ1
def tLK (te : TE) : TE := tCB rListKV (tCons (tKeys te) tNil)
theorem keys_reps {F : Hp} : ∀ {kvs : List (Key × D)} {l : List (Key × V)}, KRep K F kvs l → Reps K F (kvs.map fun q => kD q.1) (l.map fun q => kV q.1)
  | [], l, h => by have := h.nil; subst this; exact rfl
  | q :: kvs, l, h => by
    obtain ⟨r, l', rfl, e, rr, h'⟩ := h.cons
    exact ⟨kV r.1, _, rfl, by rw [e]; exact rep_kD q.1, keys_reps h'⟩
theorem run_LK (he : RunE K Z te we) : RunE K Z (tLK te) (wLK we) := fun {H0 F0 F H ρ σ Q P} zo rl h k => he zo rl h fun s1 ρ1 F1 H1 v1 h1 f1 r1 sr1 fr1 => by
  obtain ⟨F2, f2, r2, rp2⟩ := r1.freeze sr1 fr1
  obtain ⟨d, kvs, l, rfl, hd, kr, h1⟩ := asDic_of h1 rp2
  refine ⟨d, l, rfl, Same.rd r2.fh hd, fun v nv => ?_⟩
  have e2 : Same H1 (upd H1 v (KVo v d)) := Same.new nv
  refine ⟨v, d, l, rfl, upd_same, Same.rd (r2.fh.trans e2) hd, fun q nq => ?_⟩
  have n1 : H1 q = none := by
    by_cases hq : q = v
    · subst hq; exact nv
    · rw [upd_ne hq] at nq; exact nq
  refine (r2.kont (f1.trans f2) k) (.ol _) (.ref q) F2 _ h1 (e2.trans (Same.new nq)) (Same.refl _) (r2.fh.trans (e2.trans (Same.new nq))) (fun _ z => .inl z) ⟨q, _, rfl, upd_same, keys_reps kr, n1, r2.fh.free n1⟩
theorem de_LK (hc : X.calm = true) (he : DE K X Z e te we) (hm : X.mg "list" = none) (hg : Gl X "list" := by rfl) (hb : attributeBase e "keys" X.env (eval e X.env) = eval e X.env := by rfl) (hl : (apos.endLine == cpos.line) = true := by rfl)
    (hst : starEach [.Call (.Attribute e "keys" apos) [] [] cpos] X.env = [(false, eval (.Call (.Attribute e "keys" apos) [] [] cpos) X.env)] := by rfl) :
    DE K X Z (.Call (.Name "list" p) [.Call (.Attribute e "keys" apos) [] [] cpos] [] pos) (tLK te) (wLK we) :=
  ⟨pe_callTy (cr_listKV hc) hg hm (by decide +kernel) (pa_cons (pe_keys he.pe hb hl) pa_nil hst) (hn := by decide) (hdb := by decide) (he := hst) (hpl := rfl), run_LK he.run⟩
end
end DL
set_option maxHeartbeats 4000000
/-! DL26: dict(zip(x, y)), x and y lists, tuples or texts. -/
namespace DL
open PySem PySem.Spec PyProof.Rows L2
section
variable {prog : Program} {w : World} {A : Around} {E : Value → Shared → Prop} {s : Shared} {z TI TO T i1 i2 : Addr} {fp1 fp2 : List Addr} {n1 n2 i : Nat} {P1 P2 : Nat → Value → Prop} {St1 St2 : Nat → Heap → Prop} {f : Bool} {oT : Obj}
/-- the next pair, while the one ahead is still held -/
theorem zipH_item {Q : Value → Shared → Prop} (S : ZipSep2 z TI TO i1 i2 fp1 fp2) (D1 : Draws prog w A i1 fp1 n1 P1 St1) (D2 : Draws prog w A i2 fp2 n2 P2 St2)
    (hz : IsZipHeld s.heap z TI TO T f) (hT : s.heap.get? T = some oT) (hTI : IsTupOf2 s.heap TI (.ref i1) (.ref i2)) (st1 : St1 i s.heap) (st2 : St2 i s.heap) (l1 : i < n1) (l2 : i < n2)
    (hQ : ∀ x1 x2 h' tk, P1 i x1 → P2 i x2 → IsZipHeld h' z TI TO T true → St1 (i + 1) h' → St2 (i + 1) h' → IsTupOf2 h' s.heap.objs.size x1 x2 → h'.objs.size = s.heap.objs.size + 1 →
      (∀ c o, c ≠ z → c ≠ i1 → c ≠ i2 → s.heap.get? c = some o → h'.get? c = some o) → Q (.ref s.heap.objs.size) { s with heap := h', toks := tk }) :
    wpAny (model prog w) A (Builtin.«zip.__next__» ⟨[.ref z], []⟩) (fun fin s' => ∃ v, fin = .done (.ret v) ∧ Q v s') E s := by
  obtain ⟨hp, g, d, tk0, os⟩ := s
  show wpAny (model prog w) A (field (.ref z) 2 >>= _) _ E ⟨hp, g, d, tk0, os⟩
  refine wpAny_bind (wpAny_field (x := .bool false) hz rfl rfl ?_)
  show wpAny (model prog w) A (field (.ref z) 3 >>= _) _ E ⟨hp, g, d, tk0, os⟩
  refine wpAny_bind (wpAny_field (x := .ref TI) hz rfl rfl (wpAny_bind (wpAny_seqItems hTI rfl ?_)))
  show wpAny (model prog w) A (Builtin.SmallTypes.ownedTupleIsFree (.ref z) >>= _) _ E ⟨hp, g, d, tk0, os⟩
  refine wpAny_bind (wpAny_tupleHeld_zip hz hT fun g0 hz0 hs0 => ?_)
  replace hs0 : Heap.SameBut z hp g0 := hs0
  simp only [Bool.false_eq_true, if_false]
  refine wpAny_bind ?_
  rw [← Array.forIn_toList]
  simp only [List.forIn_cons, List.forIn_nil]
  refine wpAny_bind (wpAny_bind (wpAny_holding ?_))
  show wpAny (model prog w) A (Builtin.SmallTypes.nextOf (.ref i1) >>= _) _ E ⟨g0, g, d, tk0, os⟩
  refine wpAny_bind (D1.item i _ _ _ l1 (D1.over st1 hs0 S.zf1) fun x1 p1 tk1 hx1 sn1 hp1 => wpAny_pure (wpAny_pure ?_))
  replace hp1 : Heap.SameBut i1 g0 p1 := hp1
  refine wpAny_bind (wpAny_bind (wpAny_holding ?_))
  show wpAny (model prog w) A (Builtin.SmallTypes.nextOf (.ref i2) >>= _) _ E ⟨p1, g, d, tk1, os⟩
  refine wpAny_bind (D2.item i _ _ _ l2 (D2.over (D2.over st2 hs0 S.zf2) hp1 S.sep1_2) fun x2 p2 tk2 hx2 sn2 hp2 => wpAny_pure (wpAny_pure (wpAny_pure ?_)))
  replace hp2 : Heap.SameBut i2 p1 p2 := hp2
  show wpAny (model prog w) A (newTuple [x1, x2] >>= _) _ E ⟨p2, g, d, tk2, os⟩
  refine wpAny_bind (wpAny_newTuple ?_)
  have esz : p2.objs.size = hp.objs.size := by rw [hp2.1, hp1.1, hs0.1]
  have hz2 : IsZipHeld p2 z TI TO T true := hp2.extBut _ _ S.zi2 (hp1.extBut _ _ S.zi1 hz0)
  have keep : ∀ c o, c ≠ z → c ≠ i1 → c ≠ i2 → hp.get? c = some o → p2.get? c = some o := fun c o cz c1 c2 e => hp2.extBut _ _ c2 (hp1.extBut _ _ c1 (hs0.extBut _ _ cz e))
  have j1 : St1 (i + 1) p2 := D1.over sn1 hp2 S.sep2_1
  refine wpAny_pure ⟨_, rfl, ?_⟩
  show Q (.ref p2.objs.size) _
  have up : ∀ c o, p2.get? c = some o → (p2.push { cls := .type "tuple", data := .seq #[x1, x2] }).get? c = some o := fun c o e => Heap.get?_push_of_some _ e
  have tp : IsTupOf2 (p2.push { cls := .type "tuple", data := .seq #[x1, x2] }) p2.objs.size x1 x2 := Heap.get?_push_size _ rfl
  have sz : (p2.push { cls := .type "tuple", data := .seq #[x1, x2] }).objs.size = p2.objs.size + 1 := Heap.size_push ..
  rw [esz] at tp sz ⊢
  exact hQ x1 x2 _ tk2 hx1 hx2 (up _ _ hz2) (D1.frame _ _ _ j1 fun b _ o e => up b o e) (D2.frame _ _ _ sn2 fun b _ o e => up b o e) tp sz fun c o cz c1 c2 e => up c o (keep c o cz c1 c2 e)
theorem zipH_end {Q : Fin → Shared → Prop} (S : ZipSep2 z TI TO i1 i2 fp1 fp2) (D1 : Draws prog w A i1 fp1 n1 P1 St1) (D2 : Draws prog w A i2 fp2 n2 P2 St2)
    (hz : IsZipHeld s.heap z TI TO T f) (hT : s.heap.get? T = some oT) (hTI : IsTupOf2 s.heap TI (.ref i1) (.ref i2)) (st1 : St1 i s.heap) (st2 : St2 i s.heap) (l1 : i ≤ n1) (l2 : i ≤ n2) (hend : i = n1 ∨ i = n2)
    (hE : ∀ h' tk e, (∀ c o, c ≠ z → c ≠ i1 → c ≠ i2 → s.heap.get? c = some o → h'.get? c = some o) → (∃ o, h'.get? e = some o ∧ o.cls = .type "StopIteration") → E (.ref e) { s with heap := h', toks := tk }) :
    wpAny (model prog w) A (Builtin.«zip.__next__» ⟨[.ref z], []⟩) Q E s := by
  obtain ⟨hp, g, d, tk0, os⟩ := s
  show wpAny (model prog w) A (field (.ref z) 2 >>= _) _ E ⟨hp, g, d, tk0, os⟩
  refine wpAny_bind (wpAny_field (x := .bool false) hz rfl rfl ?_)
  show wpAny (model prog w) A (field (.ref z) 3 >>= _) _ E ⟨hp, g, d, tk0, os⟩
  refine wpAny_bind (wpAny_field (x := .ref TI) hz rfl rfl (wpAny_bind (wpAny_seqItems hTI rfl ?_)))
  show wpAny (model prog w) A (Builtin.SmallTypes.ownedTupleIsFree (.ref z) >>= _) _ E ⟨hp, g, d, tk0, os⟩
  refine wpAny_bind (wpAny_tupleHeld_zip hz hT fun g0 hz0 hs0 => ?_)
  replace hs0 : Heap.SameBut z hp g0 := hs0
  simp only [Bool.false_eq_true, if_false]
  refine wpAny_bind ?_
  rw [← Array.forIn_toList]
  simp only [List.forIn_cons, List.forIn_nil]
  refine wpAny_bind (wpAny_bind (wpAny_holding ?_))
  show wpAny (model prog w) A (Builtin.SmallTypes.nextOf (.ref i1) >>= _) _ E ⟨g0, g, d, tk0, os⟩
  by_cases hlt : i < n1
  · refine wpAny_bind (D1.item i _ _ _ hlt (D1.over st1 hs0 S.zf1) fun x1 p1 tk1 hx1 sn1 hp1 => wpAny_pure (wpAny_pure ?_))
    replace hp1 : Heap.SameBut i1 g0 p1 := hp1
    have hi2 : i = n2 := by omega
    refine wpAny_bind (wpAny_bind (wpAny_holding ?_))
    show wpAny (model prog w) A (Builtin.SmallTypes.nextOf (.ref i2) >>= _) _ E ⟨p1, g, d, tk1, os⟩
    refine wpAny_bind (D2.done ⟨p1, g, d, tk1, os⟩ _ _ (by rw [← hi2]; exact D2.over (D2.over st2 hs0 S.zf2) hp1 S.sep1_2) fun q e hq he => ?_)
    replace hq : Heap.ExtBut i2 p1 q := hq
    exact hE q tk1 e (fun c o cz c1 c2 x => hq _ _ c2 (hp1.extBut _ _ c1 (hs0.extBut _ _ cz x))) he
  · have hi1 : i = n1 := by omega
    refine wpAny_bind (D1.done ⟨g0, g, d, tk0, os⟩ _ _ (by rw [← hi1]; exact D1.over st1 hs0 S.zf1) fun q e hq he => ?_)
    replace hq : Heap.ExtBut i1 g0 q := hq
    exact hE q tk0 e (fun c o cz c1 c2 x => hq _ _ c1 (hs0.extBut _ _ cz x)) he
theorem zipH_next {Q : Option Value → Shared → Prop} (S : ZipSep2 z TI TO i1 i2 fp1 fp2) (D1 : Draws prog w A.in1 i1 fp1 n1 P1 St1) (D2 : Draws prog w A.in1 i2 fp2 n2 P2 St2)
    (hz : IsZipHeld s.heap z TI TO T f) (hT : s.heap.get? T = some oT) (hTI : IsTupOf2 s.heap TI (.ref i1) (.ref i2)) (st1 : St1 i s.heap) (st2 : St2 i s.heap) (l1 : i < n1) (l2 : i < n2)
    (hQ : ∀ x1 x2 h' tk, P1 i x1 → P2 i x2 → IsZipHeld h' z TI TO T true → St1 (i + 1) h' → St2 (i + 1) h' → IsTupOf2 h' s.heap.objs.size x1 x2 → h'.objs.size = s.heap.objs.size + 1 →
      (∀ c o, c ≠ z → c ≠ i1 → c ≠ i2 → s.heap.get? c = some o → h'.get? c = some o) → Q (some (.ref s.heap.objs.size)) { s with heap := h', toks := tk }) :
    wpAny (model prog w) A (pyNext (.ref z)) Q E s := by
  have ty : s.TypeIs (.ref z) "zip" := ⟨_, hz, rfl⟩
  unfold pyNext
  exact wpAny_bind (wpAny_attempt (wpAny_callSpecial?_slot (name := Str.ofString "__next__") ty F.slot_zip_next (wpAny_call_entry F.slot_zip_next ty F.entry_zip_next
    (zipH_item S D1 D2 hz hT hTI st1 st2 l1 l2 fun x1 x2 h' tk y1 y2 b1 d1 d2 b5 b6 b7 => wpAny_pure (hQ x1 x2 h' tk y1 y2 b1 d1 d2 b5 b6 b7)) (F.args_zip_next_1 _))))
theorem zipH_stop {Q : Option Value → Shared → Prop} (S : ZipSep2 z TI TO i1 i2 fp1 fp2) (D1 : Draws prog w A.in1 i1 fp1 n1 P1 St1) (D2 : Draws prog w A.in1 i2 fp2 n2 P2 St2)
    (hz : IsZipHeld s.heap z TI TO T f) (hT : s.heap.get? T = some oT) (hTI : IsTupOf2 s.heap TI (.ref i1) (.ref i2)) (st1 : St1 i s.heap) (st2 : St2 i s.heap) (l1 : i ≤ n1) (l2 : i ≤ n2) (hend : i = n1 ∨ i = n2)
    (hQ : ∀ h' tk, (∀ c o, c ≠ z → c ≠ i1 → c ≠ i2 → s.heap.get? c = some o → h'.get? c = some o) → Q none { s with heap := h', toks := tk }) : wpAny (model prog w) A (pyNext (.ref z)) Q E s := by
  have ty : s.TypeIs (.ref z) "zip" := ⟨_, hz, rfl⟩
  unfold pyNext
  refine wpAny_bind (wpAny_attempt (wpAny_callSpecial?_slot (name := Str.ofString "__next__") ty F.slot_zip_next (wpAny_call_entry F.slot_zip_next ty F.entry_zip_next
    (zipH_end S D1 D2 hz hT hTI st1 st2 l1 l2 hend fun h' tk e hk he => ?_) (F.args_zip_next_1 _))))
  obtain ⟨o, ho, hc⟩ := he
  exact wpAny_bind (wpAny_isInstance (T := "StopIteration") (b := true) ⟨o, ho, hc⟩ isSubtype_stop (wpAny_pure (hQ _ _ hk)))
end
/-- zip(x, y) as what dict() takes -/
theorem zipArg {prog : Program} {w : World} {z TI TO i1 i2 : Addr} {fp1 fp2 : List Addr} {n1 n2 : Nat} {P1 P2 : Nat → Value → Prop} {St1 St2 : Nat → Heap → Prop} (S : ZipSep2 z TI TO i1 i2 fp1 fp2)
    (D1 : ∀ A : Around, A.handled = none → Draws prog w A i1 fp1 n1 P1 St1) (D2 : ∀ A : Around, A.handled = none → Draws prog w A i2 fp2 n2 P2 St2) (live : ∀ h, St1 0 h → St2 0 h → ∀ b ∈ fp1 ++ fp2, ∃ o, h.get? b = some o) (A0 : Around) (hA0 : A0.handled = none) :
    PairArg prog w "zip" z (z :: TI :: TO :: (fp1 ++ fp2)) [z, TO, i1, i2] (min n1 n2) (fun i k v => P1 i k ∧ P2 i v)
      (fun h => IsZip h z TI TO .none ∧ IsTupOf2 h TI (.ref i1) (.ref i2) ∧ (∃ a b, IsTupOf2 h TO a b) ∧ St1 0 h ∧ St2 0 h) where
  type := fun s ok => ⟨_, ok.1, rfl⟩
  notDict := by decide
  keep := fun h h' ok hk => by
    obtain ⟨hz, hTI, ⟨a, b, hTO⟩, h1, h2⟩ := ok
    exact ⟨hk _ _ hz, hk _ _ hTI, ⟨a, b, hk _ _ hTO⟩, (D1 A0 hA0).frame _ _ _ h1 fun b _ o e => hk b o e, (D2 A0 hA0).frame _ _ _ h2 fun b _ o e => hk b o e⟩
  there := fun h ok b hb => by
    obtain ⟨hz, hTI, ⟨a, c, hTO⟩, h1, h2⟩ := ok
    rcases List.mem_cons.mp hb with rfl | hb
    · exact ⟨_, hz⟩
    rcases List.mem_cons.mp hb with rfl | hb
    · exact ⟨_, hTI⟩
    rcases List.mem_cons.mp hb with rfl | hb
    · exact ⟨_, hTO⟩
    exact live h h1 h2 b hb
  sub := fun b hb => by
    simp only [List.mem_cons, List.not_mem_nil, or_false] at hb
    rcases hb with rfl | rfl | rfl | rfl
    · simp
    · simp
    · exact List.mem_cons_of_mem _ (List.mem_cons_of_mem _ (List.mem_cons_of_mem _ (List.mem_append_left _ S.mem1)))
    · exact List.mem_cons_of_mem _ (List.mem_cons_of_mem _ (List.mem_cons_of_mem _ (List.mem_append_right _ S.mem2)))
  noKeys := fun A s Q E hA ok h => getAttrOr_miss_zip ok.1 rfl rfl rfl zip_no_keys (by decide +kernel) hA h
  iter := fun A s d Q E hA ok hd hdf h => by
    obtain ⟨hz, hTI, ⟨a, b, hTO⟩, h1, h2⟩ := ok
    have dz : d ≠ z := fun e => hdf (by rw [e]; simp)
    have dTI : d ≠ TI := fun e => hdf (by rw [e]; simp)
    have dTO : d ≠ TO := fun e => hdf (by rw [e]; simp)
    have d1 : ∀ c ∈ fp1, c ≠ d := fun c hc e => hdf (by rw [← e]; simp [hc])
    have d2 : ∀ c ∈ fp2, c ≠ d := fun c hc e => hdf (by rw [← e]; simp [hc])
    have E1 := D1 A.in1 (by simpa using hA)
    have E2 := D2 A.in1 (by simpa using hA)
    refine wpAny_pyIter_zip hz (h z [z, TO, i1, i2] (fun i h => IsTupOf2 h TI (.ref i1) (.ref i2) ∧ St1 i h ∧ St2 i h ∧ ((IsZip h z TI TO .none ∧ ∃ a b, IsTupOf2 h TO a b) ∨ ∃ T f oT, IsZipHeld h z TI TO T f ∧ h.get? T = some oT ∧ T ≠ z ∧ T ≠ i1 ∧ T ≠ i2 ∧ T ≠ d))
      s.heap s.toks ?_ ⟨hTI, h1, h2, .inl ⟨hz, a, b, hTO⟩⟩ (fun _ _ e => e) fun b hb => .inl hb)
    exact {
      off := fun hm => by
        simp only [List.mem_cons, List.not_mem_nil, or_false] at hm
        rcases hm with e | e | e | e
        · exact dz e
        · exact dTO e
        · exact d1 i1 S.mem1 e.symm
        · exact d2 i2 S.mem2 e.symm
      frame := fun i h₁ h₂ st hk => by
        obtain ⟨hTI, h1, h2, hz⟩ := st
        refine ⟨hk _ _ (Ne.symm dTI) hTI, E1.frame _ _ _ h1 fun b hb o e => hk b o (d1 b hb) e, E2.frame _ _ _ h2 fun b hb o e => hk b o (d2 b hb) e, ?_⟩
        rcases hz with ⟨hz, a, b, hTO⟩ | ⟨T, f, oT, hz, hT, r1, r2, r3, r4⟩
        · exact .inl ⟨hk _ _ (Ne.symm dz) hz, a, b, hk _ _ (Ne.symm dTO) hTO⟩
        · exact .inr ⟨T, f, oT, hk _ _ (Ne.symm dz) hz, hk _ _ r4 hT, r1, r2, r3, r4⟩
      item := fun i s₁ Q₁ E₁ hi st hds hQ => by
        obtain ⟨hTI, h1, h2, hz⟩ := st
        have lt : ∀ {c o}, s₁.heap.get? c = some o → s₁.heap.objs.size ≠ c := fun e => Nat.ne_of_gt (Heap.lt_size e)
        have m1 : s₁.heap.objs.size ≠ i1 := let ⟨_, e⟩ := E1.live _ _ h1; lt e
        have m2 : s₁.heap.objs.size ≠ i2 := let ⟨_, e⟩ := E2.live _ _ h2; lt e
        rcases hz with ⟨hz, a, b, hTO⟩ | ⟨T, f, oT, hz, hT, r1, r2, r3, r4⟩
        · refine wpAny_pyNext_zipD2_item S E1 E2 hz hTI hTO h1 h2 (by omega) (by omega) fun x1 x2 h' tk p1 p2 b1 b2 j1 j2 b5 b6 hk => ?_
          exact hQ s₁.heap.objs.size x1 x2 h' tk ⟨p1, p2⟩ (.inl ⟨_, b5, rfl, _, rfl⟩)
            ⟨hk _ _ S.TIz S.TITO S.TIi1 S.TIi2 hTI, j1, j2, .inr ⟨s₁.heap.objs.size, false, _, b1, b5, lt hz, m1, m2, Nat.ne_of_gt hds⟩⟩
            fun c o hc e => hk c o (fun x => hc (by simp [x])) (fun x => hc (by simp [x])) (fun x => hc (by simp [x])) (fun x => hc (by simp [x])) e
        · refine zipH_next S E1 E2 hz hT hTI h1 h2 (by omega) (by omega) fun x1 x2 h' tk p1 p2 b1 j1 j2 b5 b6 hk => ?_
          exact hQ s₁.heap.objs.size x1 x2 h' tk ⟨p1, p2⟩ (.inl ⟨_, b5, rfl, _, rfl⟩)
            ⟨hk _ _ S.TIz S.TIi1 S.TIi2 hTI, j1, j2, .inr ⟨T, true, oT, b1, hk _ _ r1 r2 r3 hT, r1, r2, r3, r4⟩⟩
            fun c o hc e => hk c o (fun x => hc (by simp [x])) (fun x => hc (by simp [x])) (fun x => hc (by simp [x])) e
      done := fun s₁ Q₁ E₁ st hQ => by
        obtain ⟨hTI, h1, h2, hz⟩ := st
        rcases hz with ⟨hz, a, b, hTO⟩ | ⟨T, f, oT, hz, hT, r1, r2, r3, r4⟩
        · exact wpAny_pyNext_zipD2_end S E1 E2 hz hTI hTO h1 h2 (Nat.min_le_left ..) (Nat.min_le_right ..) (by omega) fun h' tk hk => hQ h' tk fun c o hc e => hk c o (fun x => hc (by simp [x])) (fun x => hc (by simp [x])) (fun x => hc (by simp [x])) (fun x => hc (by simp [x])) e
        · exact zipH_stop S E1 E2 hz hT hTI h1 h2 (Nat.min_le_left ..) (Nat.min_le_right ..) (by omega) fun h' tk hk => hQ h' tk fun c o hc e => hk c o (fun x => hc (by simp [x])) (fun x => hc (by simp [x])) (fun x => hc (by simp [x])) e }
end DL
set_option maxHeartbeats 4000000
/-! DL27: dict(zip(x, y)) over data. -/
namespace DL
open PySem PySem.Spec PyProof.Rows L2
theorem Src.drawsA {X : Cx} {pins : List (Addr × Obj)} {σ : L2.St} {H : Hp} {s : Shared} {it : Addr} {i : Nat} {xs : List V} (I : Inv X pins σ H s) :
    ∀ (c : Src), c.items X.K H xs → c.st s.heap it i → (∀ b ∈ c.fp, b ≠ it) → ∃ (P1 : Nat → Value → Prop) (St1 : Nat → Heap → Prop), (∀ A : Around, A.handled = none → Draws X.prog X.w A it (it :: c.fp) xs.length P1 St1) ∧ St1 i s.heap ∧
      (∀ j v, P1 j v → ∃ x, xs[j]? = some x ∧ RelV x v) ∧ (∀ j h, St1 j h → ∀ b ∈ it :: c.fp, ∃ o, h.get? b = some o) ∧ (c.fp ≠ [] → ∃ us : List Value, Vals xs us ∧ ∀ j v, P1 j v → us[j]? = some v)
  | .l a, hq, st, hne => by
    obtain ⟨its, rv, p, _⟩ := I.list hq
    have hlen : its.toArray.size = xs.length := by simp [rv.length]
    refine ⟨_, _, fun A hA => hlen ▸ Draws.list hA it a (hne a (by simp [Src.fp])) its.toArray, ⟨st, p.isList⟩, fun j v e => ?_, fun j h z b hb => ?_, fun _ => ⟨its, rv, fun j v e => by simpa using e⟩⟩
    · have e' : its[j]? = some v := by simpa using e
      exact vals_back rv e'
    · obtain ⟨⟨o, z1, _⟩, o2, z2, _⟩ := z
      simp only [Src.fp, List.mem_cons, List.not_mem_nil, or_false] at hb
      rcases hb with rfl | rfl
      · exact ⟨o, z1⟩
      · exact ⟨o2, z2⟩
  | .t a, hq, st, hne => by
    obtain ⟨its, rv, p, _⟩ := I.tuple hq
    have hlen : its.toArray.size = xs.length := by simp [rv.length]
    refine ⟨_, _, fun A hA => hlen ▸ Draws.tuple hA it a (hne a (by simp [Src.fp])) its.toArray, ⟨st, p⟩, fun j v e => ?_, fun j h z b hb => ?_, fun _ => ⟨its, rv, fun j v e => by simpa using e⟩⟩
    · have e' : its[j]? = some v := by simpa using e
      exact vals_back rv e'
    · obtain ⟨⟨o, z1, _⟩, o2, z2, _⟩ := z
      simp only [Src.fp, List.mem_cons, List.not_mem_nil, or_false] at hb
      rcases hb with rfl | rfl
      · exact ⟨o, z1⟩
      · exact ⟨o2, z2⟩
  | .s x, hq, ⟨tk, st⟩, hne => by
    have hlen : x.cps.size = xs.length := by rw [show xs = (signs x).map V.str from hq]; simp [signs]
    refine ⟨_, _, fun A hA => hlen ▸ Draws.text hA it x tk, st, fun j v e => ?_, fun j h z b hb => ?_, fun q => absurd rfl q⟩
    · obtain ⟨c, u, e1, rfl⟩ := e
      have hc' : x.cps.toList[j]? = some c := by rw [Array.getElem?_toList]; exact e1
      refine ⟨.str ⟨#[c]⟩, ?_, u, rfl⟩
      rw [show xs = (signs x).map V.str from hq]
      simp [signs, hc']
    · obtain ⟨o, z1, _⟩ := z
      simp only [Src.fp, List.mem_cons, List.not_mem_nil, or_false] at hb
      subst hb
      exact ⟨o, z1⟩
def tDZ (X : Cx) (ta : TA) : TE := fun σ H Q => ta σ H fun vs H1 => ∃ (c1 c2 : Src) (xs ys : List V) (ks : List Key), vs = [c1.v, c2.v] ∧ c1.items X.K H1 xs ∧ c2.items X.K H1 ys ∧ c2.fp ≠ [] ∧ xs = ks.map kV ∧
  ∀ p, H1 p = none → Q (.ref p) (upd H1 p (.dK (mergeK [] (ks.zip ys))))
theorem pe_dictZip {X : Cx} {e e2 : Expr} {ta : TA} {p p2 pos pos2 : Pos} (hcalm : X.calm = true) (hgD : Gl X "dict") (hmD : X.mg "dict" = none) (hgZ : Gl X "zip") (hmZ : X.mg "zip" = none) (hvD : bootBuiltins "dict" = some (.type "dict")) (ha : PA X [e, e2] ta)
    (hs : starEach [e, e2] X.env = (false, eval e X.env) :: starEach [e2] X.env := by rfl) (hpl : (backTo pos2 (starEach [e2] X.env)).any (·.1) = false := by rfl)
    (hst : starEach [.Call (.Name "zip" p2) [e, e2] [] pos2] X.env = (false, eval (.Call (.Name "zip" p2) [e, e2] [] pos2) X.env) :: starEach [] X.env := by rfl) :
    PE X (.Call (.Name "dict" p) [.Call (.Name "zip" p2) [e, e2] [] pos2] [] pos) (tDZ X ta) := by
  refine ⟨fun pins s σ H Q I h => wpAny_Call_Name_kw (ld_blt I hgD hmD hvD (PyProof.Rows.callWith_type1 ?_ hst rfl))⟩
  rw [hst]
  apply Calls.spliced_cons
  refine PyProof.Rows.Call_ (ld_blt I hgZ hmZ PyProof.Rows.boot_zip (PyProof.Rows.callWith_type1 (L2.thn (ha.run pos2 pins s σ H _ I h) fun us s1 hh => ?_) hs hpl))
  obtain ⟨vs, H1, I1, rr, c1, c2, xs, ys, ks, ex, q1, q2, nf, ek, q⟩ := hh
  subst ex
  obtain ⟨u1, u2, rfl, r1, r2⟩ := vals2 rr
  obtain ⟨o1, K1, B1, k1, t1, f1⟩ := Src.begins I1 c1 q1 r1
  obtain ⟨o2, K2, B2, k2, t2, f2⟩ := Src.begins I1 c2 q2 r2
  refine zip_begins2 B1 B2 k1 k2 fun h' hz hTI hTO g1 g2 hsz hk => Calls.spliced_nil ?_
  have I2 : Inv X pins σ H1 { s1 with heap := h' } := I1.kept (t' := s1.toks) hk
  obtain ⟨P1, St1, D1, s1', b1, v1, _⟩ := Src.drawsA I2 c1 q1 (t1 _ _ g1) fun b hb => Nat.ne_of_lt (f1 b hb)
  obtain ⟨P2, St2, D2, s2', b2, v2, w2⟩ := Src.drawsA I2 c2 q2 (t2 _ _ g2) fun b hb => Nat.ne_of_lt (Nat.lt_succ_of_lt (f2 b hb))
  obtain ⟨us2, rv2, eu2⟩ := w2 nf
  have S := zip_sep2 f1 f2
  have lk : ks.length = xs.length := by rw [ek, List.length_map]
  have ly : ys.length = us2.length := rv2.length
  have hz2 : ys.length ≤ sizeLine := by
    cases c2 with
    | l a => obtain ⟨its, rv, _, z⟩ := I1.list q2; exact z
    | t a => obtain ⟨its, rv, _, z⟩ := I1.tuple q2; exact z
    | s x => exact absurd rfl nf
  refine call_dict_pairs (knd := mixKind X.prog X.w) (kvs := ks.zip us2) (zipArg S (fun A hA => D1 A hA) (fun A hA => D2 A hA) (fun h e1 e2 b hb => (List.mem_append.mp hb).elim (v1 0 h e1 b) (v2 0 h e2 b)) X.A (by simpa using I1.ok.hd hcalm)) (I1.ok.hd hcalm) ⟨hz, hTI, ⟨_, _, hTO⟩, s1', s2'⟩ ?_ (by omega) fun h2 tk hd' kp => ?_
  · refine ⟨by rw [List.length_zip, lk, ly], fun i key v hr => ?_⟩
    obtain ⟨x, ex, rx⟩ := b1 i key hr.1
    have ev := eu2 i v hr.2
    rw [ek, List.getElem?_map] at ex
    obtain ⟨k, hk1, rfl⟩ := Option.map_eq_some_iff.mp ex
    exact ⟨k, (List.getElem?_zip_eq_some (z := (k, v))).mpr ⟨hk1, ev⟩, kV_is rx⟩
  · have hm : (h'.objs.size == sysModules) = false := beq_eq_false_iff_ne.mpr (Nat.ne_of_gt I2.big)
    have kv : KV (ks.zip ys) (ks.zip us2) := by
      clear hd' kp w2 q eu2 D1 D2 b1 b2 v1 v2 hz2 ek lk ly q2
      induction rv2 generalizing ks with
      | nil => rw [List.zip_nil_right]; rw [List.zip_nil_right]; exact .nil
      | cons r rr ih =>
        cases ks with
        | nil => exact .nil
        | cons k ks => exact .cons ⟨rfl, r⟩ (ih ks)
    have hlen : (mergeK [] (ks.zip ys)).length ≤ sizeLine := by
      refine Nat.le_trans (length_mergeK (ks.zip ys) []) ?_
      rw [List.length_nil, Nat.zero_add, List.length_zip]; omega
    have n0 : H1 h'.objs.size = none := I2.hok.fresh (Nat.le_refl _)
    have fpH : ∀ c, s1.heap.objs.size ≤ c → H1 c = none := fun c hc => I1.hok.fresh hc
    have wr : ∀ b o, b ∉ [s1.heap.objs.size + 4, s1.heap.objs.size + 3, s1.heap.objs.size, s1.heap.objs.size + 1] → h'.get? b = some o → h2.get? b = some o := kp
    have kept : ∀ b o, s1.heap.get? b = some o → h2.get? b = some o := fun b o e => wr b o (fun hm => by
      have := Heap.lt_size e
      simp only [List.mem_cons, List.not_mem_nil, or_false] at hm
      rcases hm with z | z | z | z
      · rw [z] at this; exact absurd this (Nat.not_lt.mpr (Nat.le_add_right _ _))
      · rw [z] at this; exact absurd this (Nat.not_lt.mpr (Nat.le_add_right _ _))
      · rw [z] at this; exact Nat.lt_irrefl _ this
      · rw [z] at this; exact absurd this (Nat.not_lt.mpr (Nat.le_add_right _ _))) (hk b o e)
    have le : s1.heap.objs.size ≤ h'.objs.size := by omega
    exact ⟨.ref h'.objs.size, upd H1 h'.objs.size (.dK (mergeK [] (ks.zip ys))), I1.laid (t' := tk) kept le (show ObjOk X.prog X.w _ _ _ (.dK (mergeK [] (ks.zip ys))) from ⟨hlen, hm, merged [] (ks.zip us2), KV.merge kv .nil, hd'⟩), rfl, q _ n0⟩
/-- the texts and ints of a list, as keys -/
def keysD : List D → Option (List Key)
  | [] => some []
  | .int i :: ds => (keysD ds).map (.inl i :: ·)
  | .str s :: ds => (keysD ds).map (.inr s :: ·)
  | _ => none
theorem keysD_reps {K : PySem.W.Frag} {F : Hp} : ∀ {ds : List D} {ks : List Key} {vs : List V}, keysD ds = some ks → Reps K F ds vs → vs = ks.map kV
  | [], ks, vs, e, r => by cases e; exact r
  | d :: ds, ks, vs, e, r => by
    cases d <;> first | (cases (show (none : Option (List Key)) = some ks from e)) | skip
    all_goals
      rw [keysD] at e
      cases q : keysD ds with
      | none => rw [q] at e; cases e
      | some cs =>
        rw [q] at e; cases e
        obtain ⟨v, r', rfl, rfl, h⟩ := r
        rw [keysD_reps q h]; rfl
theorem keysD_strs : ∀ l : List Str, keysD (l.map .str) = some (l.map .inr)
  | [] => rfl
  | x :: l => by rw [List.map_cons, keysD, keysD_strs l]; rfl
def seqLT (d : D) (P : List D → Prop) : Prop := match d with
  | .lst xs => P xs
  | .tup xs => P xs
  | _ => False
def wDZ (wa : WA) : W := fun ρ P => wa ρ fun ds ρ1 => match ds with
  | [x, y] => seqsD x fun xs => seqLT y fun ys => asA (keysD xs) fun ks => P (.od (mergeD [] (ks.zip ys))) ρ1
  | _ => False
section
variable {K : PySem.W.Frag} {X : Cx} {Z : Zx} {pos pos2 p p2 : Pos} {a b : Expr} {wa : WA} {ta : TA}
theorem krep_zip {F : Hp} : ∀ {ks : List Key} {ds : List D} {vs : List V}, Reps K F ds vs → KRep K F (ks.zip ds) (ks.zip vs)
  | [], ds, vs, r => ⟨rfl, rfl⟩
  | k :: ks, [], vs, r => by cases r; exact ⟨rfl, rfl⟩
  | k :: ks, d :: ds, vs, r => by
    obtain ⟨v, r', rfl, h1, h2⟩ := r
    exact KRep.mk (p := (k, d)) (q := (k, v)) rfl h1 (krep_zip h2)
theorem run_dictZip {ta : TA} {wa : WA} (hK : X.K = K) (ha : RunA K Z ta wa) : RunE K Z (tDZ X ta) (wDZ wa) := fun {H0 F0 F H ρ σ Q P} zo rl h k => by
  subst hK
  refine ha zo rl h fun ds ρ1 F1 H1 vs h1 f1 r1 rps => ?_
  split at h1
  · rename_i x y
    obtain ⟨v1, _, rfl, e1, v2, _, rfl, e2, rfl⟩ := rps
    obtain ⟨c1, us1, xs, rfl, g1, p1, h1⟩ := seqsD_of h1 e1
    have hy : ∃ ys, seqsD y (fun zs => zs = ys) ∧ asA (keysD xs) fun ks => P (.od (mergeD [] (ks.zip ys))) ρ1 := by
      cases y <;> first | exact h1.elim | exact ⟨_, rfl, h1⟩
    have nf : ∀ c : Src, v2 = c.v → c.fp ≠ [] := fun c e => by
      cases y <;> first | exact h1.elim | skip
      · obtain ⟨a, us, rfl, _⟩ := e2
        cases c with
        | l b => intro z; cases z
        | t b => intro z; cases z
        | s b => exact absurd (show V.ref a = V.str b from e) (fun z => nomatch z)
      · obtain ⟨a, us, rfl, _⟩ := e2
        cases c with
        | l b => intro z; cases z
        | t b => intro z; cases z
        | s b => exact absurd (show V.ref a = V.str b from e) (fun z => nomatch z)
    obtain ⟨ys, hy1, hy2⟩ := hy
    obtain ⟨c2, us2, ys', rfl, g2, p2, rfl⟩ := seqsD_of hy1 e2
    obtain ⟨ks, ek, hp⟩ := asA_of hy2
    refine ⟨c1, c2, us1, us2, ks, rfl, g1 _ r1.fh, g2 _ r1.fh, nf c2 rfl, keysD_reps ek (p1 F1 (Same.refl _)), fun q nq => ?_⟩
    have km := KRep.merge (kvs := []) (l := []) (krep_zip (ks := ks) (p2 F1 (Same.refl _))) ⟨rfl, rfl⟩
    exact (r1.kont f1 k).newD r1.fh hp km.1 km.2 nq
  · exact h1.elim
theorem de_dictZip (hc : X.calm = true) (hmD : X.mg "dict" = none) (hmZ : X.mg "zip" = none) (ha : DA K X Z [a, b] ta wa) (hgD : Gl X "dict" := by rfl) (hgZ : Gl X "zip" := by rfl) (hs : starEach [a, b] X.env = (false, eval a X.env) :: starEach [b] X.env := by rfl) (hpl : (backTo pos2 (starEach [b] X.env)).any (·.1) = false := by rfl)
    (hst : starEach [.Call (.Name "zip" p2) [a, b] [] pos2] X.env = (false, eval (.Call (.Name "zip" p2) [a, b] [] pos2) X.env) :: starEach [] X.env := by rfl) (hK : X.K = K := by rfl) :
    DE K X Z (.Call (.Name "dict" p) [.Call (.Name "zip" p2) [a, b] [] pos2] [] pos) (tDZ X ta) (wDZ wa) := ⟨pe_dictZip hc hgD hmD hgZ hmZ (by decide +kernel) ha.pe hs hpl hst, run_dictZip hK ha.run⟩
end
end DL
set_option maxHeartbeats 4000000
/-! DL28: range with a step, list(range(n)), displays of several keys, more methods of own lists, index, [::-1], update. -/
namespace DL
open PySem PySem.Spec PyProof.Rows L2
section
variable {K : PySem.W.Frag} {X : Cx} {Z : Zx} {pos p p2 apos cpos : Pos} {a b c e : Expr} {te : TE} {we : W} {ta : TA} {wa : WA} {i : Nat} {x : Str}
/-! ### range(i, j, c) -/
def rangeS (lo c : Int) (n : Nat) : List D := (List.range n).map fun (k : Nat) => .int (lo + k * c)
def wiR3 (wa : WA) : WA := fun ρ P => wa ρ fun ds ρ1 => match ds with
  | [.int i, .int j, .int c] => ∃ n, RgC i j c n ∧ P (rangeS i c n) ρ1
  | _ => False
theorem di_range3 {tg : Expr} (hm : X.mg "range" = none) (ha : DA K X Z [a, b, c] ta wa) (hg : Gl X "range" := by rfl) (hs : starEach [a, b, c] X.env = (false, eval a X.env) :: starEach [b, c] X.env := by rfl) (hpl : (backTo pos (starEach [b, c] X.env)).any (·.1) = false := by rfl) :
    DI K X Z tg (.Call (.Name "range" p) [a, b, c] [] pos) (iRng3 ta) (wiR3 wa) := by
  refine ⟨pi_range3 hg hm ha.pe hs hpl, fun {H0 F0 F H ρ σ Q P} zo rl h k => ha.run zo rl h fun ds ρ1 F1 H1 vs h1 f1 r1 rps => ?_⟩
  split at h1
  · obtain ⟨v, r, rfl, rfl, v2, r2, rfl, rfl, v3, r3, rfl, rfl, rfl⟩ := rps
    obtain ⟨n, rc, h1⟩ := h1
    have ln : ∀ lo c : Int, (rangeS lo c n).length = n := fun lo c => by simp [rangeS]
    refine ⟨_, _, _, n, rfl, rc, k _ _ _ _ _ h1 f1 r1 (ItOk.pure (fun {j F H} f g l => ?_) (fun {j F H} f g l => ?_) fun {j F H H2 x} f g y l => ?_)⟩
    · rw [ln] at l; exact l
    · rw [ln] at l; exact l
    · obtain ⟨rfl, rfl⟩ := y
      rw [ln] at l
      exact ⟨.int _, by simp [rangeS, l], rfl, rfl⟩
  · exact h1.elim
/-! ### list(range(n)) -/
def wLR (we : W) : W := fun ρ P => we ρ fun s ρ1 => asI s.fz fun n => RgOk 0 n ∧ P (.ol (rangeD 0 n.toNat)) ρ1
theorem run_LR (he : RunE K Z te we) : RunE K Z (tLstRg (tRg1 te)) (wLR we) := fun {H0 F0 F H ρ σ Q P} zo rl h k => he zo rl h fun s1 ρ1 F1 H1 v1 h1 f1 r1 sr1 fr1 => by
  obtain ⟨F2, f2, r2, rp2⟩ := r1.freeze sr1 fr1
  obtain ⟨n, rfl, hr, h1⟩ := asI_of h1 rp2
  refine ⟨n, rfl, hr, fun q nq => ?_⟩
  have e : rgV 0 n = ((List.range n.toNat).map fun (k : Nat) => (0 : Int) + k).map V.int := by unfold rgV; rw [Int.sub_zero, List.map_map]; rfl
  rw [e]
  exact (r2.kont (f1.trans f2) k).newL r2.fh h1 (by rw [show rangeD 0 n.toNat = ((List.range n.toNat).map fun (k : Nat) => (0 : Int) + k).map D.int by unfold rangeD; rw [List.map_map]; rfl]; exact Reps.ints.mpr rfl) nq
theorem de_LR (hc : X.calm = true) (hm : X.mg "list" = none) (hmr : X.mg "range" = none) (he : DE K X Z e te we) (hg : Gl X "list" := by rfl) (hgr : Gl X "range" := by rfl) (na : starEach [e] X.env = (false, eval e X.env) :: starEach [] X.env := by rfl)
    (nb : starEach [.Call (.Name "range" p2) [e] [] cpos] X.env = (false, eval (.Call (.Name "range" p2) [e] [] cpos) X.env) :: starEach [] X.env := by rfl) :
    DE K X Z (.Call (.Name "list" p) [.Call (.Name "range" p2) [e] [] cpos] [] pos) (tLstRg (tRg1 te)) (wLR we) := ⟨pe_listRg hc hg hm (prg_1 hgr hmr he.pe na) nb, run_LR he.run⟩
/-! ### {k: v, ..} -/
def wPairs : List (W × W) → R → (List (Key × D) → Prop) → Prop
  | [], _, P => P []
  | q :: r, ρ, P => q.1 ρ fun k ρ1 => q.2 ρ1 fun v ρ2 => asKey k.fz fun key => wPairs r ρ2 fun kvs => P ((key, v.fz) :: kvs)
def wDisp (ws : List (W × W)) : W := fun ρ P => wPairs ws (dataR ρ) fun kvs => kvs.length ≤ 15 ∧ P (.od (mergeD [] kvs)) ρ
structure DPs (K : PySem.W.Frag) (X : Cx) (Z : Zx) (pos : Pos) (ks : List (Option Expr)) (vs : List Expr) (ts : List (TE × TE)) (ws : List (W × W)) : Prop where
  pe : PPs X pos ks vs ts
  run : ∀ {H0 F0 F H : Hp} {ρ : R} {σ : L2.St} {Q : List (V × V) → Hp → Prop} {P : List (Key × D) → Prop}, Z.Ok K H0 F0 → Rel K H0 F0 F H ρ σ → wPairs ws ρ P →
    (∀ kvs l ρ' F' H', P kvs → Same F F' → Rel K H0 F0 F' H' ρ' σ → KRep K F' kvs l → Q (l.map fun q => (kV q.1, q.2)) H') → tPairs ts σ H Q
theorem dps_nil : DPs K X Z pos [] [] [] [] := ⟨pps_nil, fun {H0 F0 F H ρ σ Q P} zo rl h k => k [] [] ρ F H h (Same.refl _) rl ⟨rfl, rfl⟩⟩
theorem dps_cons {k v : Expr} {ks : List (Option Expr)} {vs : List Expr} {tk tv : TE} {wk wv : W} {ts : List (TE × TE)} {ws : List (W × W)} (hk : DE K X Z k tk wk) (hv : DE K X Z v tv wv) (hr : DPs K X Z pos ks vs ts ws) : DPs K X Z pos (some k :: ks) (v :: vs) ((tk, tv) :: ts) ((wk, wv) :: ws) :=
  ⟨pps_cons hk.pe hv.pe hr.pe, fun {H0 F0 F H ρ σ Q P} zo rl h kq => hk.run zo rl h fun s1 ρ1 F1 H1 v1 h1 f1 r1 sr1 fr1 => by
    obtain ⟨F2, f2, r2, rp2⟩ := r1.freeze sr1 fr1
    refine hv.run zo r2 h1 fun s3 ρ3 F3 H3 v3 h3 f3 r3 sr3 fr3 => ?_
    obtain ⟨F4, f4, r4, rp4⟩ := r3.freeze sr3 fr3
    obtain ⟨key, rfl, h3⟩ := asKey_of h3 (Rep.mono (f3.trans f4) _ _ rp2)
    exact hr.run zo r4 h3 fun kvs l ρ5 F5 H5 p5 f5 r5 kr => kq ((key, s3.fz) :: kvs) ((key, v3) :: l) ρ5 F5 H5 p5 (f1.trans (f2.trans (f3.trans (f4.trans f5)))) r5 (KRep.mk (p := (key, s3.fz)) (q := (key, v3)) rfl (Rep.mono f5 _ _ rp4) kr)⟩
theorem run_disp {ks : List (Option Expr)} {vs : List Expr} {ts : List (TE × TE)} {ws : List (W × W)} (hd : DPs K X Z pos ks vs ts ws) : RunE K Z (tDisp ts) (wDisp ws) := fun {H0 F0 F H ρ σ Q P} zo rl h k => fun p n => by
  have hn : Same H (upd H p (.dK [])) := Same.new n
  have r1 : Rel K (upd H p (.dK [])) F F (upd H p (.dK [])) (dataR ρ) σ := rl.view (Same.refl _) (rl.fh.trans hn) []
  have zo1 : Z.Ok K (upd H p (.dK [])) F := (zo.on rl.h rl.f rl.nw).on hn (Same.refl _) fun _ q => .inl q
  refine hd.run zo1 r1 h fun kvs l ρ5 F4 H3 p5 ff r5 kr => ?_
  obtain ⟨h15, hq⟩ := p5
  have hp : H3 p = some (.dK []) := r5.h _ _ upd_same
  have f4n : F4 p = none := by
    cases q : F4 p with
    | none => rfl
    | some u =>
      rcases r5.nw p (by rw [q]; exact fun z => nomatch z) with z | z
      · exact absurd (rl.fh.free n) z
      · rw [upd_same] at z; cases z
  have km := KRep.merge (kvs := []) (l := []) kr ⟨rfl, rfl⟩
  have sH : Same H (upd H3 p (.dK (mergeK [] l))) := fun b u q => by
    have hb : b ≠ p := fun e => by rw [e, n] at q; cases q
    rw [upd_ne hb]
    exact r5.h _ _ (by rw [upd_ne hb]; exact q)
  have s4 : Same F4 (upd H3 p (.dK (mergeK [] l))) := fun b u q => by
    have hb : b ≠ p := fun e => by rw [e, f4n] at q; cases q
    rw [upd_ne hb]
    exact r5.fh _ _ q
  refine ⟨hp, l, rfl, by rw [kr.len]; exact h15, ?_⟩
  refine (rl.kont (Same.refl _) k) (.od (mergeD [] kvs)) _ F4 _ hq sH ff s4 (fun b q => ?_) ⟨p, mergeK [] l, rfl, upd_same, km.1, km.2, n, f4n⟩
  rcases r5.nw b q with z | z
  · exact .inl z
  · refine .inr ?_
    have hb : b ≠ p := fun e => by rw [e, upd_same] at z; cases z
    rw [upd_ne hb] at z
    exact z
theorem de_disp {ks : List (Option Expr)} {vs : List Expr} {ts : List (TE × TE)} {ws : List (W × W)} (hd : DPs K X Z pos ks vs ts ws) (hall : ks.all (·.isSome) = true := by rfl) (hl : ks.length = vs.length := by rfl) (h0 : ks ≠ [] := by exact fun z => nomatch z) (h15 : ks.length ≤ 15 := by decide) :
    DE K X Z (.Dict ks vs pos) (tDisp ts) (wDisp ws) := ⟨pe_disp hd.pe hall hl h0 h15, run_disp hd⟩
/-! ### own lists: reverse, clear, insert, extend -/
def oReverse : List D → List D → (S → List D → Prop) → Prop := fun xs ds P => ds = [] ∧ P (.d .non) xs.reverse
def oClear : List D → List D → (S → List D → Prop) → Prop := fun _ ds P => ds = [] ∧ P (.d .non) []
def oInsert : List D → List D → (S → List D → Prop) → Prop := fun xs ds P => match ds with
  | [.int i, y] => (xs.length < sizeLine ∧ 0 ≤ i ∧ i < 2 ^ 63) ∧ P (.d .non) (xs.take i.toNat ++ [y] ++ xs.drop i.toNat)
  | _ => False
theorem snd_reverse : SndM K rReverse oReverse := ⟨fun {F H l vs us xs ds P Q} fh hl n rx rd h k => by
  obtain ⟨rfl, h⟩ := h
  cases rd
  exact ⟨l, vs, rfl, rfl, hl, k _ _ _ _ h rfl rx.rev⟩⟩
theorem snd_clear : SndM K rClear oClear := ⟨fun {F H l vs us xs ds P Q} fh hl n rx rd h k => by
  obtain ⟨rfl, h⟩ := h
  cases rd
  exact ⟨l, vs, rfl, rfl, hl, k _ _ _ _ h rfl rfl⟩⟩
abbrev rInsert : V → List V → Hp → VK → Prop := fun x vs H Q => ∃ (l : Addr) (xs : List V) (i : Int) (y : V), x = .ref l ∧ vs = [.int i, y] ∧ H l = some (.lst xs) ∧ xs.length < sizeLine ∧ 0 ≤ i ∧ i < 2 ^ 63 ∧ Q .non (upd H l (.lst (xs.take i.toNat ++ [y] ++ xs.drop i.toNat)))
theorem snd_insert : SndM K rInsert oInsert := ⟨fun {F H l vs us xs ds P Q} fh hl n rx rd h k => by
  unfold oInsert at h
  split at h
  · obtain ⟨v, _, rfl, rfl, v2, _, rfl, r2, rfl⟩ := rd
    obtain ⟨⟨h1, h2, h3⟩, h⟩ := h
    exact ⟨l, vs, _, v2, rfl, rfl, hl, by rw [rx.len]; exact h1, h2, h3, k _ _ _ _ h rfl (((rx.take _).app (.one r2)).app (rx.drop _))⟩
  · exact h.elim⟩
theorem de_reverse (i : Nat) (hN : X.N[i]? = some x := by rfl) (hv : Vis X.env.scope x := by first | exact Or.inl rfl | exact Or.inr (Or.inl rfl) | exact Or.inr (Or.inr rfl)) (hd : (x == ("__debug__" : Str)) = false := by decide) (hcd : (x == ("__classdict__" : Str)) = false := by decide)
    (hb : attributeBase (.Name x p) "reverse" X.env (eval (.Name x p) X.env) = eval (.Name x p) X.env := by rfl) (hl : (apos.endLine == cpos.line) = true := by rfl) (hK : X.K = K := by rfl) :
    DE K X Z (.Call (.Attribute (.Name x p) "reverse" apos) [] [] cpos) (tBM0 K "list" rReverse (tVar i)) (wM i oReverse wNil) := by
  subst hK
  exact ⟨pe_bm0 PySem.F.plainAttrs_list PySem.F.slot_list_reverse PySem.F.type_list_reverse mt_reverse (pe_var hN hv hd hcd) hb hl, run_M0 rfl snd_reverse⟩
theorem de_clear (i : Nat) (hN : X.N[i]? = some x := by rfl) (hv : Vis X.env.scope x := by first | exact Or.inl rfl | exact Or.inr (Or.inl rfl) | exact Or.inr (Or.inr rfl)) (hd : (x == ("__debug__" : Str)) = false := by decide) (hcd : (x == ("__classdict__" : Str)) = false := by decide)
    (hb : attributeBase (.Name x p) "clear" X.env (eval (.Name x p) X.env) = eval (.Name x p) X.env := by rfl) (hl : (apos.endLine == cpos.line) = true := by rfl) (hK : X.K = K := by rfl) :
    DE K X Z (.Call (.Attribute (.Name x p) "clear" apos) [] [] cpos) (tBM0 K "list" rClear (tVar i)) (wM i oClear wNil) := by
  subst hK
  exact ⟨pe_bm0 PySem.F.plainAttrs_list PySem.F.slot_list_clear PySem.F.type_list_clear mt_clear (pe_var hN hv hd hcd) hb hl, run_M0 rfl snd_clear⟩
theorem de_insert (i : Nat) {f : Expr} {tf : TE} {wf : W} (ha : DE K X Z e te we) (hf : DE K X Z f tf wf) (hN : X.N[i]? = some x := by rfl) (hv : Vis X.env.scope x := by first | exact Or.inl rfl | exact Or.inr (Or.inl rfl) | exact Or.inr (Or.inr rfl)) (hd : (x == ("__debug__" : Str)) = false := by decide)
    (hcd : (x == ("__classdict__" : Str)) = false := by decide) (hs : starEach [e, f] X.env = (false, eval e X.env) :: starEach [f] X.env := by rfl) (hs2 : starEach [f] X.env = [(false, eval f X.env)] := by rfl)
    (hb : attributeBase (.Name x p) "insert" X.env (eval (.Name x p) X.env) = eval (.Name x p) X.env := by rfl)
    (hfew : ((backTo cpos (starEach [e, f] X.env)).all (fun x => !x.1) && (backToKw cpos (keywordEach [] X.env)).all (fun x => x.1.isSome)
      && decide (([e, f] : List Expr).length + ([] : List Keyword).length + (if ([] : List Keyword).isEmpty then 0 else 1) < 30)) = true := by rfl)
    (hl : (apos.endLine == cpos.line) = true := by rfl) (hpl : (backTo cpos (starEach [f] X.env)).any (·.1) = false := by rfl) (hK : X.K = K := by rfl) :
    DE K X Z (.Call (.Attribute (.Name x p) "insert" apos) [e, f] [] cpos) (tBM K "list" rInsert (tVar i) (tCons te (tCons tf tNil))) (wM i oInsert (wCons we (wCons wf wNil))) := by
  subst hK
  exact ⟨pe_bm PySem.F.plainAttrs_list PySem.F.slot_list_insert PySem.F.type_list_insert mt_insert (pe_var hN hv hd hcd) (pa_cons ha.pe (pa_cons hf.pe pa_nil hs2) hs) hb hfew hl hs hpl, run_M rfl (da_cons ha (da_cons hf (da_nil (X := X) (Z := Z)) hs2) hs).run snd_insert⟩
/-! ### [::-1] -/
def wRevL (we : W) : W := fun ρ P => we ρ fun s ρ1 => asL s.fz fun xs => P (.ol xs.reverse) ρ1
theorem run_revL (he : RunE K Z te we) : RunE K Z (tRevL K te) (wRevL we) := fun {H0 F0 F H ρ σ Q P} zo rl h k => he zo rl h fun s1 ρ1 F1 H1 v1 h1 f1 r1 sr1 fr1 => by
  obtain ⟨F2, f2, r2, rp2⟩ := r1.freeze sr1 fr1
  obtain ⟨a, vs, xs, rfl, g1, g2, h1⟩ := asL_of h1 rp2
  exact ⟨a, vs, rfl, r2.fh.seq g1, fun q nq => (r2.kont (f1.trans f2) k).newL r2.fh h1 g2.rev nq⟩
theorem de_revL {k : Nat} {p1 p3 : Pos} (he : DE K X Z e te we) (hK : X.K = K := by rfl) : DE K X Z (.Subscript e (.Slice none none (some (.UnaryOp .USub (.Constant (.int 1) k p1) p2)) p3) pos) (tRevL K te) (wRevL we) := by
  subst hK
  exact ⟨pe_revL he.pe, run_revL he.run⟩
/-! ### index -/
def wIdx (we wx : W) : W := fun ρ P => we ρ fun s ρ1 => asL s.fz fun _ => wx ρ1 fun t ρ2 => asL s.fz fun xs => (t.fz.flat = true ∧ xs.all D.flat = true) ∧ ∃ j d, (∀ m d', m < j → xs[m]? = some d' → eqS d' t.fz = some false) ∧ xs[j]? = some d ∧ eqS d t.fz = some true ∧ P (.d (.int (j : Nat))) ρ2
end
end DL
set_option maxHeartbeats 4000000
/-! DL29: sorted of a list of tuples (int, text). -/
namespace DL
open PySem PySem.Spec PyProof.Rows L2
abbrev IT := Int × Str
def ltIT (p q : IT) : Bool := bif decide (p.1 = q.1) then decide (p.2.cps.toList < q.2.cps.toList) else decide (p.1 < q.1)
theorem ltIT_iff {p q : IT} : ltIT p q = true ↔ p.1 < q.1 ∨ (p.1 = q.1 ∧ p.2.cps.toList < q.2.cps.toList) := by
  unfold ltIT
  by_cases e : p.1 = q.1
  · simp [e]
  · simp [e]
theorem ltIT_no {p q : IT} : ltIT p q = false ↔ ¬ (p.1 < q.1 ∨ (p.1 = q.1 ∧ p.2.cps.toList < q.2.cps.toList)) := by
  rw [← ltIT_iff, Bool.not_eq_true]
theorem swoIT {α : Type} (k : α → IT) : SrtO.Swo fun v u => ltIT (k v) (k u) := by
  refine ⟨fun x y h => ltIT_no.mpr ?_, fun x y z h1 h2 => ltIT_no.mpr ?_⟩
  · rcases ltIT_iff.mp h with a | ⟨a, b⟩
    · rintro (c | ⟨c, _⟩) <;> omega
    · rintro (c | ⟨_, c⟩)
      · omega
      · exact List.lt_asymm b c
  · have a := ltIT_no.mp h1
    have b := ltIT_no.mp h2
    rintro (c | ⟨c, d⟩)
    · rcases Int.lt_trichotomy (k z).1 (k y).1 with q | q | q
      · exact b (.inl q)
      · exact a (.inl (by omega))
      · exact a (.inl (by omega))
    · rcases Int.lt_trichotomy (k z).1 (k y).1 with q | q | q
      · exact b (.inl q)
      · have n1 : ¬ (k y).2.cps.toList < (k x).2.cps.toList := fun t => a (.inr ⟨by omega, t⟩)
        have n2 : ¬ (k z).2.cps.toList < (k y).2.cps.toList := fun t => b (.inr ⟨q, t⟩)
        exact List.lt_irrefl _ (Std.lt_of_lt_of_le d (Std.le_trans (List.not_lt.mp n1) (List.not_lt.mp n2)))
      · exact a (.inl (by omega))
def IsIT (h : Heap) (v : Value) (p : IT) : Prop := ∃ a o t u n, v = .ref a ∧ h.get? a = some o ∧ o.cls = .type "tuple" ∧ o.data = .seq #[.int p.1 t, .str p.2 u] n
section
variable {prog : Program} {w : World} {A : Around} {s : Shared} {E : Value → Shared → Prop} {k : Value → IT}
theorem cmpIT {vs : List Value} (hp : ∀ v ∈ vs, IsIT s.heap v (k v)) : SrtO.Cmp prog w A s (tuples' true) (fun p => p.1 ∈ vs) (SrtO.lt2 fun v u => ltIT (k v) (k u)) := fun p q m1 m2 => by
  obtain ⟨a, o, t, u, n, e, ho, hc, hd⟩ := hp _ m1
  obtain ⟨a', o', t', u', n', e', ho', hc', hd'⟩ := hp _ m2
  show wpAny (model prog w) A (keyLt' _ p.1 q.1) (fun r s' => s' = s ∧ r = ltIT (k p.1) (k q.1)) _ s
  generalize k p.1 = x at *
  generalize k q.1 = y at *
  obtain ⟨i, c⟩ := x; obtain ⟨j, d⟩ := y
  rw [e, e']
  refine PySem.W.kat_lt ho hd ho' hd' (PySem.W.kat_cons (SeqAt.EqAt.int_int i t j t' prog w _ _ (PySem.W.kat_go (fun e1 => ?_) fun e1 => ?_)))
  · have ij : i = j := by simpa using e1
    refine PySem.W.kat_yes (PySem.W.kat_cons (SeqAt.EqAt.str_str c u d u' prog w _ _ (PySem.W.kat_go (fun e2 => ?_) fun e2 => ?_)))
    · have cd : c = d := by simpa using e2
      refine PySem.W.kat_yes (PySem.W.kat_nil ⟨rfl, ?_⟩)
      refine (ltIT_no.mpr ?_).symm
      subst ij cd
      rintro (z | ⟨_, z⟩)
      · exact Int.lt_irrefl _ z
      · exact List.lt_irrefl _ z
    · exact PySem.W.kat_no (PySem.W.kat_one _ _ (lt_str ⟨rfl, by simp [ltIT, ij]⟩))
  · have ij : ¬ i = j := by simpa using e1
    exact PySem.W.kat_no (oneLt_int ⟨rfl, by simp [ltIT, ij]⟩)
theorem IsIT.keeps {h h' : Heap} {v : Value} {x : IT} (p : IsIT h v x) (kp : ∀ b o, h.get? b = some o → o.cls = .type "tuple" → h'.get? b = some o) : IsIT h' v x := by
  obtain ⟨a, o, t, u, n, e, ho, hc, hd⟩ := p
  exact ⟨a, o, t, u, n, e, kp _ _ ho hc, hc, hd⟩
theorem firstsIT {h : Heap} : ∀ {vs : List Value}, (∀ v ∈ vs, IsIT h v (k v)) → ∃ fs : List Value, PySem.W.KatTups h vs fs ∧ fs.length = vs.length ∧ ∀ f ∈ fs, ∃ x t, f = Value.int x t
  | [], _ => ⟨[], PySem.W.KatTups.nil, rfl, fun _ z => nomatch z⟩
  | v :: vs, hp => by
    obtain ⟨fs, g1, g2, g3⟩ := firstsIT (vs := vs) fun z m => hp z (List.mem_cons_of_mem _ m)
    obtain ⟨a, o, t, u, n, rfl, ho, hc, hd⟩ := hp v (List.mem_cons_self ..)
    exact ⟨.int _ t :: fs, .cons ho hc hd rfl g1, by simp [g2], fun f m => (List.mem_cons.mp m).elim (fun z => ⟨_, t, z⟩) (g3 f)⟩
theorem sortableIT {a : Addr} {vs : List Value} (h0 : 0 < vs.length) (hp : ∀ v ∈ vs, IsIT s.heap v (k v)) (ha : ∀ o, s.heap.get? a = some o → o.cls ≠ .type "tuple") : SrtO.SortableO prog w A s a vs fun v u => ltIT (k v) (k u) := fun h' keep => by
  have hp' : ∀ v ∈ vs, IsIT h' v (k v) := fun v m => (hp v m).keeps fun b o e c => keep b o (fun z => by subst z; exact ha o e c) e
  obtain ⟨fs, g1, g2, g3⟩ := firstsIT hp'
  refine ⟨tuples' true, fun Q E hq => PySem.W.kat_kind (T := .type "int") g1 (by omega) (fun f m => ?_) (by rfl) ?_, cmpIT hp'⟩
  · obtain ⟨x, t, rfl⟩ := g3 f m
    exact PySem.W.Looks.now
  · rw [show (Value.type "int" != Value.type "tuple") = true by first | decide +kernel | rfl]
    exact hq
end
def keyIT (h : Heap) : Value → IT
  | .ref a => match h.get? a with
    | some o => match o.data with
      | .seq ⟨[.int i _, .str c _]⟩ _ => (i, c)
      | _ => (0, "")
    | none => (0, "")
  | _ => (0, "")
theorem IsIT.key {h : Heap} {v : Value} {p : IT} (q : IsIT h v p) : keyIT h v = p := by
  obtain ⟨a, o, t, u, n, rfl, ho, hc, hd⟩ := q
  show (match h.get? a with | some o => _ | none => _) = _
  rw [ho]
  show (match o.data with | .seq ⟨[.int i _, .str c _]⟩ _ => (i, c) | _ => (0, "")) = _
  rw [hd]
inductive All2 {α β : Type} (R : α → β → Prop) : List α → List β → Prop
  | nil : All2 R [] []
  | cons {x p xs ps} : R x p → All2 R xs ps → All2 R (x :: xs) (p :: ps)
def TupIT (K : PySem.W.Frag) (H : Hp) (x : V) (p : IT) : Prop := ∃ t, x = V.ref t ∧ SqT K H t [.int p.1, .str p.2]
def rSortIT (K : PySem.W.Frag) : List V → Hp → VK → Prop := fun vs H Q => ∃ (a : Addr) (xs : List V) (ps : List IT), vs = [V.ref a] ∧ SqL K H a xs ∧ All2 (TupIT K H) xs ps ∧
  ∀ ys qs p, SrtO.Srtd ltIT qs → qs.Perm ps → (∀ R : V → IT → Prop, All2 R xs ps → All2 R ys qs) → H p = none → Q (.ref p) (upd H p (.lst ys))
theorem f2_mem {α β : Type} {R : α → β → Prop} : ∀ {xs : List α} {ps : List β}, All2 R xs ps → ∀ x ∈ xs, ∃ p, R x p
  | _, _, .nil, _, m => nomatch m
  | _, _, .cons r t, x, m => (List.mem_cons.mp m).elim (fun e => by subst e; exact ⟨_, r⟩) (f2_mem t x)
theorem cr_sortIT {X : Cx} : CallR X (.builtin "sorted") (rSortIT X.K) := fun pins s σ H vs us Q I r h => by
  obtain ⟨a, xs, ps, rfl, hs, hx, q⟩ := h
  obtain ⟨its, rv, hl, hz⟩ := I.list hs
  obtain ⟨u, rfl, ru⟩ := vals1 r
  obtain rfl : u = Value.ref a := ru
  obtain ⟨e1, e2⟩ := refs_back rv fun x m => by
    obtain ⟨p, t, e, _⟩ := f2_mem hx x m
    exact ⟨t, e⟩
  have one : ∀ {v : Value} {p : IT}, TupIT X.K H (backV v) p → (∃ a, v = Value.ref a) → IsIT s.heap v p := fun {v p} z y => by
    obtain ⟨b, rfl⟩ := y
    obtain ⟨t, e, ht⟩ := z
    cases e
    obtain ⟨its2, r2, ⟨o, ho, hc, n, hd⟩, _⟩ := I.tuple ht
    obtain ⟨u1, u2, rfl, ⟨t1, rfl⟩, ⟨t2, rfl⟩⟩ := vals2 r2
    exact ⟨b, o, t1, t2, n, rfl, ho, hc, hd⟩
  have hkp : ∀ v ∈ its, TupIT X.K H (backV v) (keyIT s.heap v) := fun v hv => by
    obtain ⟨p, hp⟩ := f2_mem hx (backV v) (by rw [e1]; exact List.mem_map.mpr ⟨_, hv, rfl⟩)
    rw [(one hp (e2 v hv)).key]; exact hp
  have hit : ∀ v ∈ its, IsIT s.heap v (keyIT s.heap v) := fun v hv => one (hkp v hv) (e2 v hv)
  have hps : its.map (keyIT s.heap) = ps := by
    clear hit hkp q rv hs hl hz
    subst e1
    induction its generalizing ps with
    | nil => cases hx; rfl
    | cons v vs ih =>
      cases hx with
      | cons hp ht => rw [List.map_cons, (one hp (e2 v (List.mem_cons_self ..))).key, ih _ (fun u m => e2 u (List.mem_cons_of_mem _ m)) ht]
  refine SrtO.sorted_ord (ltv := fun v u => ltIT (keyIT s.heap v) (keyIT s.heap u)) (swoIT _) hl.isList (by rw [← rv.length]; exact hz) (fun h2 h₁ l ha kk => sortableIT (s := { s with heap := h₁ }) (by omega) (fun v hv => (hit v hv).keeps fun b o e _ => (kk b o e).2) fun o e => ?_) fun out h1 h2 => ?_
  · have e' : some o = some (seqObj "list" its.toArray 0) := e.symm.trans ha
    cases e'
    exact fun c => absurd (Value.type.inj c) (by decide)
  · have h3 : ∀ u ∈ out, ∃ a, u = Value.ref a := fun u hu => e2 u (h2.perm.mem_iff.mp hu)
    have hb : (out.map backV).Perm xs := by rw [e1]; exact h2.perm.map backV
    obtain ⟨n, hn⟩ := sortedAll_at s.heap its out.toArray
    have h4 : ∀ R : V → IT → Prop, All2 R xs ps → All2 R (out.map backV) (out.map (keyIT s.heap)) := fun R hR => by
      have g0 : ∀ l : List Value, All2 R (l.map backV) (l.map (keyIT s.heap)) → ∀ u ∈ l, R (backV u) (keyIT s.heap u) := fun l => by
        induction l with
        | nil => exact fun _ _ z => nomatch z
        | cons u l ih =>
          intro r y hy
          rw [List.map_cons, List.map_cons] at r
          cases r with
          | cons r t => exact (List.mem_cons.mp hy).elim (fun e => by subst e; exact r) (ih t y)
      have g1 := g0 its (by rw [← e1, hps]; exact hR)
      have g : ∀ l : List Value, (∀ u ∈ l, u ∈ its) → All2 R (l.map backV) (l.map (keyIT s.heap)) := fun l => by
        induction l with
        | nil => exact fun _ => .nil
        | cons u l ih => exact fun m => .cons (g1 u (m u (List.mem_cons_self ..))) (ih fun y z => m y (List.mem_cons_of_mem _ z))
      exact g out fun u hu => h2.perm.mem_iff.mp hu
    refine ⟨.ref (s.heap.objs.size + 1), upd H (s.heap.objs.size + 1) (.lst (out.map backV)), I.laid (t' := s.toks) (fun b o e => sortedAll_old e) (Nat.le_succ _) ⟨?_, out, n, L2.vals_back h3, hn⟩, rfl, q _ _ _ (List.pairwise_map.mpr h1) (by rw [← hps]; exact h2.perm.map _) h4 (I.hok.fresh (Nat.le_succ _))⟩
    rw [hb.length_eq]; exact hz
/-! ### over data -/
def pairIT : D → Option IT
  | .tup [.int i, .str c] => some (i, c)
  | _ => none
def pairsIT : List D → Option (List IT)
  | [] => some []
  | d :: ds => match pairIT d, pairsIT ds with
    | some p, some ps => some (p :: ps)
    | _, _ => none
def itD (p : IT) : D := .tup [.int p.1, .str p.2]
theorem pairIT_eq {d : D} {p : IT} (h : pairIT d = some p) : d = itD p := by
  unfold pairIT at h
  split at h <;> first | (cases h; rfl) | cases h
theorem pairsIT_eq : ∀ {ds : List D} {ps : List IT}, pairsIT ds = some ps → ds = ps.map itD
  | [], ps, h => by cases h; rfl
  | d :: ds, ps, h => by
    unfold pairsIT at h
    split at h
    · rename_i p q h1 h2
      cases h
      rw [pairIT_eq h1, pairsIT_eq h2]; rfl
    · cases h
theorem pairsIT_map : ∀ ps : List IT, pairsIT (ps.map itD) = some ps
  | [] => rfl
  | p :: ps => by rw [List.map_cons, pairsIT, pairsIT_map ps]; rfl
def oSortIT : OL := fun ds P => match ds with
  | [.lst xs] => asA (pairsIT xs) fun ps => ∀ qs, qs.Perm ps → SrtO.Srtd ltIT qs → P (.ol (qs.map itD))
  | _ => False
section
variable {K : PySem.W.Frag} {X : Cx} {Z : Zx} {pos p : Pos} {a : Expr} {ta : TE} {wa : W}
theorem reps_it {F : Hp} : ∀ {ps : List IT} {vs : List V}, Reps K F (ps.map itD) vs ↔ All2 (TupIT K F) vs ps
  | [], vs => ⟨fun r => by rw [show vs = [] from r]; exact .nil, fun r => by cases r; exact rfl⟩
  | q :: ps, vs => by
    constructor
    · rintro ⟨v, us, rfl, ⟨t, ws, rfl, ht, rw⟩, h2⟩
      obtain ⟨v1, _, rfl, rfl, v2, _, rfl, rfl, rfl⟩ := rw
      exact .cons ⟨t, rfl, ht⟩ (reps_it.mp h2)
    · intro r
      cases r with
      | cons r t =>
        obtain ⟨a, rfl, ht⟩ := r
        exact ⟨.ref a, _, rfl, ⟨a, _, rfl, ht, .int _, _, rfl, rfl, .str _, _, rfl, rfl, rfl⟩, reps_it.mpr t⟩
theorem f2_mono {F H : Hp} (fh : Same F H) : ∀ {xs : List V} {ps : List IT}, All2 (TupIT K F) xs ps → All2 (TupIT K H) xs ps
  | _, _, .nil => .nil
  | _, _, .cons ⟨t, e, h⟩ r => .cons ⟨t, e, Same.sqT fh h⟩ (f2_mono fh r)
theorem snd_sortIT : SndL K (rSortIT K) oSortIT := ⟨fun {F H ds vs P Q} fh r h k => by
  unfold oSortIT at h
  split at h
  · rename_i xs
    obtain ⟨v, _, rfl, ⟨a, us, rfl, ha, ru⟩, rfl⟩ := r
    obtain ⟨ps, e, h'⟩ := asA_of h
    have e := pairsIT_eq e
    subst e
    have h2 := reps_it.mp ru
    refine ⟨a, us, ps, rfl, fh.seq (SqL.of ha), f2_mono fh h2, fun ys qs p hs pm h4 n => ?_⟩
    exact k.newL fh (h' qs pm hs) (reps_it.mpr (h4 _ h2)) n
  · exact h.elim⟩
theorem de_sortIT (hc : X.calm = true) (m : X.mg "sorted" = none) (ha : DE K X Z a ta wa) (hg : Gl X "sorted" := by rfl) (hs : starEach [a] X.env = [(false, eval a X.env)] := by rfl) (hK : X.K = K := by rfl) : DE K X Z (.Call (.Name "sorted" p) [a] [] pos) (tCB (rSortIT K) (tCons ta tNil)) (wCB oSortIT (wCons wa wNil)) := by
  subst hK
  exact de_callB cr_sortIT snd_sortIT hg m (by decide +kernel) (da_cons ha da_nil hs) (hn := by decide) (hdb := by decide) (he := hs) (hpl := rfl)
end
end DL
/-! DLX: the data layer, as far as it goes. -/
/-! F16a: loops by an invariant; gathered, added, both_letters, multiplied, opposite, joined, leads. -/
namespace DL
open PySem L2

def dataO : Option S → Option S
  | some (.d x) => some (.d x)
  | _ => none
theorem dataR_cons {o : Option S} {r : R} : dataR (o :: r) = dataO o :: dataR r := by
  rcases o with _ | (_ | _ | _) <;> rfl
theorem dataR_nil : dataR [] = [] := rfl
theorem dataO_d {x : D} : dataO (some (.d x)) = some (.d x) := rfl
theorem dataO_none : dataO none = none := rfl
theorem dataO_ol {x : List D} : dataO (some (.ol x)) = none := rfl
theorem dataO_od {x : List (Key × D)} : dataO (some (.od x)) = none := rfl
def seeO : Option S → Option S
  | some s => some (.d s.fz)
  | _ => none
theorem seeR_cons {o : Option S} {r : R} : seeR (o :: r) = seeO o :: seeR r := by cases o <;> rfl
theorem seeR_nil : seeR [] = [] := rfl
theorem seeO_d {x : D} : seeO (some (.d x)) = some (.d x) := rfl
theorem seeO_none : seeO none = none := rfl
theorem seeO_ol {x : List D} : seeO (some (.ol x)) = some (.d (.lst x)) := rfl
theorem seeO_od {x : List (Key × D)} : seeO (some (.od x)) = some (.d (.dic (x.map (·.1)) (x.map (·.2)))) := rfl
theorem atI_0 {α : Type} {x : α} {l : List α} : atI (x :: l) 0 = some x := by
  have := atI_nat (xs := x :: l) (j := 0) (v := x) rfl
  exact this
theorem atI_1 {α : Type} {x y : α} {l : List α} : atI (x :: y :: l) 1 = some y := by
  have := atI_nat (xs := x :: y :: l) (j := 1) (v := y) rfl
  exact this
theorem atI_2 {α : Type} {x y z : α} {l : List α} : atI (x :: y :: z :: l) 2 = some z := by
  have := atI_nat (xs := x :: y :: z :: l) (j := 2) (v := z) rfl
  exact this
theorem asA_some {α : Type} {b : α} {P : α → Prop} : asA (some b) P = P b := rfl
theorem asA_none {α : Type} {P : α → Prop} : asA none P = False := rfl
theorem eqX_int {i j : Int} {P : Bool → Prop} : eqX (.int i) (.int j) P = P (decide (i = j)) := rfl
theorem eqX_str {i j : Str} {P : Bool → Prop} : eqX (.str i) (.str j) P = P (decide (i = j)) := rfl
theorem eqX_bl {i j : Bool} {P : Bool → Prop} : eqX (.bl i) (.bl j) P = P (decide (i = j)) := rfl
/-! ### loops -/
def MonoG (wg : WG) : Prop := ∀ d ρ (P Q : R → Prop), (∀ ρ, P ρ → Q ρ) → wg d ρ P → wg d ρ Q
def MonoGs (wg : WGs) : Prop := ∀ d ρ (P Q : R → Prop), (∀ ρ, P ρ → Q ρ) → wg d ρ P → wg d ρ Q
theorem mono_name {i : Nat} : MonoG (wgName i) := fun _ _ _ _ h z => h _ z
theorem monos_nil : MonoGs wgNil := fun _ _ _ _ h z => ⟨z.1, h _ z.2⟩
theorem monos_cons {a : WG} {b : WGs} (ha : MonoG a) (hb : MonoGs b) : MonoGs (wgCons a b) := fun d ρ P Q h z => by
  cases d with
  | nil => exact z.elim
  | cons x xs => exact ha _ _ _ _ (fun ρ1 z => hb _ _ _ _ h z) z
theorem mono_tup {n : Nat} {b : WGs} (hb : MonoGs b) : MonoG (wgTup n b) := fun d ρ P Q h z => by
  unfold wgTup at z ⊢
  split at z
  · exact ⟨z.1, hb _ _ _ _ h z.2⟩
  · exact z.elim
theorem forD_inv {wg : WG} {wb : WS} {DD : DEnds} (I : List D → R → Prop) (mg : MonoG wg) (step : ∀ d ds ρ, I (d :: ds) ρ → wg d ρ fun ρ1 => wb ⟨I ds, DD.rt, DD.nx, I ds⟩ ρ1) (hend : ∀ ρ, I [] ρ → DD.nx ρ) :
    ∀ (items : List D) (ρ : R), I items ρ → forD wg wb DD items ρ
  | [], ρ, h => hend ρ h
  | d :: ds, ρ, h => mg _ _ _ _ (fun ρ1 z => ⟨I ds, fun ρ' h' => forD_inv I mg step hend ds ρ' h', z⟩) (step d ds ρ h)
/-- a loop over mapped items, by what was done and what is left -/
theorem forD_map {α : Type} {f : α → D} {wg : WG} {wb : WS} {DD : DEnds} (I : List α → List α → R → Prop) (mg : MonoG wg)
    (items : List α) (step : ∀ xs x ys ρ, items = xs ++ x :: ys → I xs (x :: ys) ρ → wg (f x) ρ fun ρ1 => wb ⟨I (xs ++ [x]) ys, DD.rt, DD.nx, I (xs ++ [x]) ys⟩ ρ1) (hend : ∀ ρ, I items [] ρ → DD.nx ρ) (ρ : R) (h0 : I [] items ρ) : forD wg wb DD (items.map f) ρ := by
  have aux : ∀ (ys xs : List α) (ρ : R), items = xs ++ ys → I xs ys ρ → forD wg wb DD (ys.map f) ρ := by
    intro ys
    induction ys with
    | nil => intro xs ρ e h; rw [List.append_nil] at e; subst e; exact hend ρ h
    | cons y ys ih =>
      intro xs ρ e h
      exact mg _ _ _ _ (fun ρ1 z => ⟨I (xs ++ [y]) ys, fun ρ' h' => ih (xs ++ [y]) ρ' (by rw [e]; simp) h', z⟩) (step xs y ys ρ e h)
  exact aux items [] ρ rfl h0
/-- comprehensions: what each item gives -/
theorem compD_map {α : Type} {f : α → D} {wg : WG} {wt : WT} {we : W} {ρb : R} (mg : MonoG wg) (g : α → Option D) :
    ∀ (items : List α) (P : List D → Prop), (∀ x ∈ items, ∀ Q : Option D → Prop, Q (g x) → wg (f x) ρb fun ρ1 => wt ρ1 fun b ρ2 => if b = true then we ρ2 fun s _ => Q (some s.fz) else Q none) →
      P (items.filterMap g) → compD wg wt we ρb (items.map f) P
  | [], P, h, p => p
  | x :: xs, P, h, p => by
    have ih := compD_map (f := f) (wt := wt) (we := we) (ρb := ρb) mg g xs
    rw [List.map_cons]
    show wg (f x) ρb fun ρ1 => wt ρ1 fun b ρ2 => if b = true then we ρ2 fun s _ => compD wg wt we ρb (xs.map f) fun r => P (s.fz :: r) else compD wg wt we ρb (xs.map f) P
    refine h x List.mem_cons_self (fun o => match o with
      | some d => compD wg wt we ρb (xs.map f) fun r => P (d :: r)
      | none => compD wg wt we ρb (xs.map f) P) ?_
    cases e : g x with
    | none =>
      rw [List.filterMap_cons, e] at p
      exact ih P (fun y hy => h y (List.mem_cons_of_mem _ hy)) p
    | some d =>
      rw [List.filterMap_cons, e] at p
      exact ih (fun r => P (d :: r)) (fun y hy => h y (List.mem_cons_of_mem _ hy)) p
/-! ### forms as data -/
def fD (a : List Str) : D := .tup (a.map .str)
def asF (d : D) (P : List Str → Prop) : Prop := match d with
  | .tup xs => asA (txts xs) P
  | _ => False
theorem asF_fD {a : List Str} {P : List Str → Prop} : asF (fD a) P = P a := by
  show asA (txts (a.map D.str)) P = _
  rw [txts_map]; rfl
theorem len0 : sizeLine = 16777216 := rfl
theorem txts_eq : ∀ {ds : List D} {bs : List Str}, txts ds = some bs → ds = bs.map D.str
  | [], bs, e => by cases e; rfl
  | d :: ds, bs, e => by
    cases d <;> first | (cases (show (none : Option (List Str)) = some bs from e)) | skip
    rename_i b
    rw [txts] at e
    cases q : txts ds with
    | none => rw [q] at e; cases e
    | some cs => rw [q] at e; cases e; rw [txts_eq q]; rfl
/-! ### gathered -/
def sp_gathered : DSp := fun ds P _ => match ds with
  | [.lst xs] => asA (txts xs) fun a => a.length ≤ 1048576 ∧ P (.d (fD (gath a)))
  | _ => False
def kvT (l : List Str) : List (Key × D) := l.map fun p => (.inr p, .bl true)
theorem vget_kvT {l : List Str} {p : Str} : vget (kvT l) (.inr p) = if p ∈ l then some (.bl true) else none := by
  induction l with
  | nil => rfl
  | cons q l ih =>
    unfold vget kvT at ih ⊢
    rw [List.map_cons, List.find?_cons]
    by_cases h : q = p
    · subst h; simp
    · have e : decide ((Sum.inr q : Key) = .inr p) = false := decide_eq_false fun z => h (Sum.inr.inj z)
      simp only [e]
      rw [ih]
      have : p ∈ q :: l ↔ p ∈ l := by simp [Ne.symm h]
      simp only [this]
theorem vdrop_kvT {l : List Str} {p : Str} : vdrop (kvT l) (.inr p) = kvT (l.filter fun y => decide (y ≠ p)) := by
  unfold vdrop kvT
  rw [List.filter_map]
  congr 1
  apply List.filter_congr
  intro y _
  simp [Function.comp]
theorem vput_kvT {l : List Str} {p : Str} (h : p ∉ l) : vput (kvT l) (.inr p) (.bl true) = kvT (l ++ [p]) := by
  unfold vput
  have : ((kvT l).any fun kv => decide (kv.1 = (.inr p : Key))) = false := by
    rw [List.any_eq_false]
    intro kv hkv
    obtain ⟨q, hq, rfl⟩ := List.mem_map.mp hkv
    simp only [decide_eq_true_eq]
    exact fun z => h (Sum.inr.inj z ▸ hq)
  rw [this]
  simp [kvT]
theorem txtKeys_kvT {l : List Str} : txtKeys ((kvT l).map (·.1)) = some l := by
  rw [kvT, List.map_map]
  exact txtKeys_map l

abbrev N_gathered : List Str := ["products", "odd", "product"]
def w_gathered_t2 : WS := (wRet (wCB oTuple (wCons (wSortK (wVar 1)) wNil)))
def w_gathered_t1 : WS := wSeq (wFor (wiX (wVar 0)) (wgName 2)
      (wIfS (wLendT (wB (wOp (oInX false) (wVar 2) (wVar 1)))) (wDrop (wDPop 1 (wVar 2))) (wDPut 1 (wVar 2) (wC (.bl true)))))
    w_gathered_t2
def w_gathered : WS := wSeq (wSet 1 wDict0)
    w_gathered_t1
theorem len_gathered {ds Q px} (h : sp_gathered ds Q px) : ds.length = 1 := by unfold sp_gathered at h; split at h <;> first | rfl | exact h.elim
theorem rd_gathered {ds Q px} (h : sp_gathered ds Q px) : w_gathered ⟨fun _ => Q (.d .non), Q, fun _ => False, fun _ => False⟩ (startR N_gathered ds) := by
  unfold sp_gathered at h
  split at h
  · rename_i xs
    obtain ⟨a, e, hl, hq⟩ := asA_of h
    clear h
    have ex := txts_eq e
    subst ex
    unfold w_gathered
    simp only [N_gathered, w_gathered_t1, w_gathered_t2, wSeq, wSet, wAsg, wC, wIfS, wB, wOp, oI, oI0, asI, asS, asL, asLT, asT, asB, asA_some, asA_none, asO, asOL, asOD, asKey, asDic, asSq, oLen, oMod, oAdd, oSub, oMul, oDiv, oMax, oMin, oPlus, oEqX, oNeX, eqX_int, eqX_str, eqX_bl, oCmp, oLtX, oLeX, oGtX, oGeX, oIxX, oInX, wCB, wCons, wNil, wVar, wMove, nth, put, startR, wNext, wRet, wRetN, wDrop, wFor, wiR1, wiR2, wiX, itemsOf, wgName, wgTup, wgCons, wgNil, wLend, wLendT, seeR_cons, seeR_nil, seeO_d, seeO_none, seeO_ol, seeO_od, wJoin, wM, oAppend, oPop, oPopAt, wDPut, wDPop, wSortK, wDict0, wTup, wLst, wCall, wAnd, wOr, wNot, wAndV, wOrV, wNotV, wIf, wYes, wLc, wiEnumX, oListX, oTuple, oSort, oSortSet, oAll, oAny, S.fz, S.own, D.flat, txts_map, bools_map, txtKeys_map, List.length_map, List.map_cons, List.map_nil, List.length_cons, List.length_nil, List.cons_append, List.nil_append, List.replicate, decide_eq_true_eq, Bool.not_eq_true', Bool.not_true, Bool.not_false, if_true, if_false, Nat.zero_add, Nat.reduceAdd, Nat.reduceSub, ge_iff_le, true_and, and_true, zip_unzip, Bool.false_xor, Bool.true_xor, Bool.false_eq_true, Bool.true_eq_false, reduceIte, wipeR, dataR_cons, dataR_nil, dataO_d, dataO_none, dataO_ol, dataO_od, oDict, oIsi, tyD, isiB, wSl, wPart, wNoP, oSl, wDisp1, wDGet2, oRemove, atI_0, atI_1, atI_2, wiRev, revItems, oDictP, wForK, wiKeys, kD, oSortX, oPow, oBitAnd, oShl, oNeg, wUn, oInt, oStr, oDivmod, oIs, isD, wChain, wFz, wFzE, frzR, wLSet, wiZip, seqsD, wiVals, wiItems, wOIx, wNo, Option.isSome_some, oMulX, wM1, oSplit, oPart, oStrip1, oRep, oSum, intsD, wRaise, wLI, wLK
, wiR3, wLR, wDisp, wPairs, oReverse, oClear, oInsert, wRevL, wDZ, seqLT, oSortIT]
    refine forD_map (I := fun done _ ρ => ∃ o, ρ = [some (.d (.lst (a.map .str))), some (.od (kvT (done.foldl tog []))), o]) mono_name a (fun done x ys ρ he hI => ?_) (fun ρ hI => ?_) _ ⟨none, rfl⟩
    · obtain ⟨o, rfl⟩ := hI
      have hl2 : (kvT (done.foldl tog [])).length ≤ done.length := by
        unfold kvT
        rw [List.length_map]; exact odds_len done
      have hfold : (done ++ [x]).foldl tog [] = tog (done.foldl tog []) x := by rw [List.foldl_append]; rfl
      simp only [w_gathered_t1, w_gathered_t2, wSeq, wSet, wAsg, wC, wIfS, wB, wOp, oI, oI0, asI, asS, asL, asLT, asT, asB, asA_some, asA_none, asO, asOL, asOD, asKey, asDic, asSq, oLen, oMod, oAdd, oSub, oMul, oDiv, oMax, oMin, oPlus, oEqX, oNeX, eqX_int, eqX_str, eqX_bl, oCmp, oLtX, oLeX, oGtX, oGeX, oIxX, oInX, wCB, wCons, wNil, wVar, wMove, nth, put, startR, wNext, wRet, wRetN, wDrop, wFor, wiR1, wiR2, wiX, itemsOf, wgName, wgTup, wgCons, wgNil, wLend, wLendT, seeR_cons, seeR_nil, seeO_d, seeO_none, seeO_ol, seeO_od, wJoin, wM, oAppend, oPop, oPopAt, wDPut, wDPop, wSortK, wDict0, wTup, wLst, wCall, wAnd, wOr, wNot, wAndV, wOrV, wNotV, wIf, wYes, wLc, wiEnumX, oListX, oTuple, oSort, oSortSet, oAll, oAny, S.fz, S.own, D.flat, txts_map, bools_map, txtKeys_map, List.length_map, List.map_cons, List.map_nil, List.length_cons, List.length_nil, List.cons_append, List.nil_append, List.replicate, decide_eq_true_eq, Bool.not_eq_true', Bool.not_true, Bool.not_false, if_true, if_false, Nat.zero_add, Nat.reduceAdd, Nat.reduceSub, ge_iff_le, true_and, and_true, zip_unzip, Bool.false_xor, Bool.true_xor, Bool.false_eq_true, Bool.true_eq_false, reduceIte, wipeR, dataR_cons, dataR_nil, dataO_d, dataO_none, dataO_ol, dataO_od, oDict, oIsi, tyD, isiB, wSl, wPart, wNoP, oSl, wDisp1, wDGet2, oRemove, atI_0, atI_1, atI_2, wiRev, revItems, oDictP, wForK, wiKeys, kD, oSortX, oPow, oBitAnd, oShl, oNeg, wUn, oInt, oStr, oDivmod, oIs, isD, wChain, wFz, wFzE, frzR, wLSet, wiZip, seqsD, wiVals, wiItems, wOIx, wNo, Option.isSome_some, oMulX, wM1, oSplit, oPart, oStrip1, oRep, oSum, intsD, wRaise, wLI, wLK
, wiR3, wLR, wDisp, wPairs, oReverse, oClear, oInsert, wRevL, wDZ, seqLT, oSortIT, vget_kvT, vdrop_kvT, hfold]
      by_cases hx : x ∈ done.foldl tog []
      · simp only [if_pos hx, Option.isSome_some, if_true, tog]
        exact ⟨_, rfl⟩
      · simp only [if_neg hx, Option.isSome_none, Bool.false_eq_true, if_false, vput_kvT hx, tog]
        refine ⟨?_, _, rfl⟩
        have := congrArg List.length he
        rw [List.length_append, List.length_cons] at this
        rw [len0]; omega
    · obtain ⟨o, rfl⟩ := hI
      simp only [w_gathered_t1, w_gathered_t2, wSeq, wSet, wAsg, wC, wIfS, wB, wOp, oI, oI0, asI, asS, asL, asLT, asT, asB, asA_some, asA_none, asO, asOL, asOD, asKey, asDic, asSq, oLen, oMod, oAdd, oSub, oMul, oDiv, oMax, oMin, oPlus, oEqX, oNeX, eqX_int, eqX_str, eqX_bl, oCmp, oLtX, oLeX, oGtX, oGeX, oIxX, oInX, wCB, wCons, wNil, wVar, wMove, nth, put, startR, wNext, wRet, wRetN, wDrop, wFor, wiR1, wiR2, wiX, itemsOf, wgName, wgTup, wgCons, wgNil, wLend, wLendT, seeR_cons, seeR_nil, seeO_d, seeO_none, seeO_ol, seeO_od, wJoin, wM, oAppend, oPop, oPopAt, wDPut, wDPop, wSortK, wDict0, wTup, wLst, wCall, wAnd, wOr, wNot, wAndV, wOrV, wNotV, wIf, wYes, wLc, wiEnumX, oListX, oTuple, oSort, oSortSet, oAll, oAny, S.fz, S.own, D.flat, txts_map, bools_map, txtKeys_map, List.length_map, List.map_cons, List.map_nil, List.length_cons, List.length_nil, List.cons_append, List.nil_append, List.replicate, decide_eq_true_eq, Bool.not_eq_true', Bool.not_true, Bool.not_false, if_true, if_false, Nat.zero_add, Nat.reduceAdd, Nat.reduceSub, ge_iff_le, true_and, and_true, zip_unzip, Bool.false_xor, Bool.true_xor, Bool.false_eq_true, Bool.true_eq_false, reduceIte, wipeR, dataR_cons, dataR_nil, dataO_d, dataO_none, dataO_ol, dataO_od, oDict, oIsi, tyD, isiB, wSl, wPart, wNoP, oSl, wDisp1, wDGet2, oRemove, atI_0, atI_1, atI_2, wiRev, revItems, oDictP, wForK, wiKeys, kD, oSortX, oPow, oBitAnd, oShl, oNeg, wUn, oInt, oStr, oDivmod, oIs, isD, wChain, wFz, wFzE, frzR, wLSet, wiZip, seqsD, wiVals, wiItems, wOIx, wNo, Option.isSome_some, oMulX, wM1, oSplit, oPart, oStrip1, oRep, oSum, intsD, wRaise, wLI, wLK
, wiR3, wLR, wDisp, wPairs, oReverse, oClear, oInsert, wRevL, wDZ, seqLT, oSortIT, txtKeys_kvT]
      exact hq
  · exact h.elim
/-! ### added -/
def sp_added : DSp := fun ds P _ => match ds with
  | [x, y] => asF x fun a => asF y fun b => (a.length ≤ 262144 ∧ b.length ≤ 262144) ∧ P (.d (fD (addedF a b)))
  | _ => False
theorem asF_of {d : D} {P : List Str → Prop} (h : asF d P) : ∃ a, d = fD a ∧ P a := by
  unfold asF at h
  split at h
  · obtain ⟨a, e, h⟩ := asA_of h
    exact ⟨a, by rw [txts_eq e]; rfl, h⟩
  · exact h.elim
theorem oListX_fD {a : List Str} {P : S → Prop} : oListX [fD a] P = P (.ol (a.map .str)) := rfl
abbrev N_added : List Str := ["one", "other"]
def w_added : WS := (wRet (wCall sp_gathered (fun _ _ => False) (wCons (wOp oPlus (wCB oListX (wCons (wVar 0) wNil)) (wCB oListX (wCons (wVar 1) wNil))) wNil)))
theorem len_added {ds Q px} (h : sp_added ds Q px) : ds.length = 2 := by unfold sp_added at h; split at h <;> first | rfl | exact h.elim
theorem rd_added {ds Q px} (h : sp_added ds Q px) : w_added ⟨fun _ => Q (.d .non), Q, fun _ => False, fun _ => False⟩ (startR N_added ds) := by
  unfold sp_added at h
  split at h
  · obtain ⟨a, rfl, g⟩ := asF_of h
    obtain ⟨b, rfl, ⟨h1, h2⟩, hq⟩ := asF_of g
    clear h g
    unfold w_added
    simp only [N_added, fD, wSeq, wSet, wAsg, wC, wIfS, wB, wOp, oI, oI0, asI, asS, asL, asLT, asT, asB, asA_some, asA_none, asO, asOL, asOD, asKey, asDic, asSq, oLen, oMod, oAdd, oSub, oMul, oDiv, oMax, oMin, oPlus, oEqX, oNeX, eqX_int, eqX_str, eqX_bl, oCmp, oLtX, oLeX, oGtX, oGeX, oIxX, oInX, wCB, wCons, wNil, wVar, wMove, nth, put, startR, wNext, wRet, wRetN, wDrop, wFor, wiR1, wiR2, wiX, itemsOf, wgName, wgTup, wgCons, wgNil, wLend, wLendT, seeR_cons, seeR_nil, seeO_d, seeO_none, seeO_ol, seeO_od, wJoin, wM, oAppend, oPop, oPopAt, wDPut, wDPop, wSortK, wDict0, wTup, wLst, wCall, wAnd, wOr, wNot, wAndV, wOrV, wNotV, wIf, wYes, wLc, wiEnumX, oListX, oTuple, oSort, oSortSet, oAll, oAny, S.fz, S.own, D.flat, txts_map, bools_map, txtKeys_map, List.length_map, List.map_cons, List.map_nil, List.length_cons, List.length_nil, List.cons_append, List.nil_append, List.replicate, decide_eq_true_eq, Bool.not_eq_true', Bool.not_true, Bool.not_false, if_true, if_false, Nat.zero_add, Nat.reduceAdd, Nat.reduceSub, ge_iff_le, true_and, and_true, zip_unzip, Bool.false_xor, Bool.true_xor, Bool.false_eq_true, Bool.true_eq_false, reduceIte, wipeR, dataR_cons, dataR_nil, dataO_d, dataO_none, dataO_ol, dataO_od, oDict, oIsi, tyD, isiB, wSl, wPart, wNoP, oSl, wDisp1, wDGet2, oRemove, atI_0, atI_1, atI_2, wiRev, revItems, oDictP, wForK, wiKeys, kD, oSortX, oPow, oBitAnd, oShl, oNeg, wUn, oInt, oStr, oDivmod, oIs, isD, wChain, wFz, wFzE, frzR, wLSet, wiZip, seqsD, wiVals, wiItems, wOIx, wNo, Option.isSome_some, oMulX, wM1, oSplit, oPart, oStrip1, oRep, oSum, intsD, wRaise, wLI, wLK
, wiR3, wLR, wDisp, wPairs, oReverse, oClear, oInsert, wRevL, wDZ, seqLT, oSortIT, sp_gathered]
    rw [← List.map_append]
    simp only [txts_map, asA_some, List.length_append]
    exact ⟨by rw [len0]; omega, by omega, hq⟩
  · exact h.elim
/-! ### both_letters -/
def sp_both_letters : DSp := fun ds P _ => match ds with
  | [x, y] => asS x fun p => asS y fun q => ((sg p).length ≤ 1000 ∧ (sg q).length ≤ 1000) ∧ P (.d (.str (bothF p q)))
  | _ => False
theorem srtset_len (xs : List Str) : (srtset xs).length ≤ xs.length := by
  unfold srtset
  rw [(srt_perm _).length_eq]
  exact (nodup_met xs).length_le_of_subset fun x hx => mem_met.mp hx
theorem ones_sum : ∀ cs : List Nat, ((cs.map one).map (·.length)).sum = cs.length
  | [] => rfl
  | c :: cs => by
    rw [List.map_cons, List.map_cons, List.sum_cons, ones_sum cs, List.length_cons]
    show 1 + _ = _
    omega
theorem lets_fit {z : Str} (h : (sg z).length ≤ 100000) : ((srtset (signs z)).map (·.length)).sum + (srtset (signs z)).length * (Str.length "") ≤ 16777216 := by
  have h1 := srtset_len (signs z)
  obtain ⟨cs, e, _, _⟩ := srtset_signs z
  rw [e] at h1 ⊢
  rw [ones_sum]
  rw [List.length_map] at h1
  have h2 : (signs z).length = (sg z).length := by simp [signs, sg]
  have h3 : Str.length "" = 0 := by decide +kernel
  rw [h3, Nat.mul_zero]
  omega
abbrev N_both_letters : List Str := ["one", "other"]
def w_both_letters : WS := (wRet (wJoin (wC (.str "")) (wCB oSortSet (wCons (wOp oPlus (wVar 0) (wVar 1)) wNil))))
theorem len_both_letters {ds Q px} (h : sp_both_letters ds Q px) : ds.length = 2 := by unfold sp_both_letters at h; split at h <;> first | rfl | exact h.elim
theorem rd_both_letters {ds Q px} (h : sp_both_letters ds Q px) : w_both_letters ⟨fun _ => Q (.d .non), Q, fun _ => False, fun _ => False⟩ (startR N_both_letters ds) := by
  unfold sp_both_letters at h
  split at h
  · rename_i x y
    cases x <;> first | exact h.elim | skip
    cases y <;> first | exact h.elim | skip
    rename_i p q
    obtain ⟨⟨h1, h2⟩, hq⟩ := h
    unfold w_both_letters
    simp only [N_both_letters, wSeq, wSet, wAsg, wC, wIfS, wB, wOp, oI, oI0, asI, asS, asL, asLT, asT, asB, asA_some, asA_none, asO, asOL, asOD, asKey, asDic, asSq, oLen, oMod, oAdd, oSub, oMul, oDiv, oMax, oMin, oPlus, oEqX, oNeX, eqX_int, eqX_str, eqX_bl, oCmp, oLtX, oLeX, oGtX, oGeX, oIxX, oInX, wCB, wCons, wNil, wVar, wMove, nth, put, startR, wNext, wRet, wRetN, wDrop, wFor, wiR1, wiR2, wiX, itemsOf, wgName, wgTup, wgCons, wgNil, wLend, wLendT, seeR_cons, seeR_nil, seeO_d, seeO_none, seeO_ol, seeO_od, wJoin, wM, oAppend, oPop, oPopAt, wDPut, wDPop, wSortK, wDict0, wTup, wLst, wCall, wAnd, wOr, wNot, wAndV, wOrV, wNotV, wIf, wYes, wLc, wiEnumX, oListX, oTuple, oSort, oSortSet, oAll, oAny, S.fz, S.own, D.flat, txts_map, bools_map, txtKeys_map, List.length_map, List.map_cons, List.map_nil, List.length_cons, List.length_nil, List.cons_append, List.nil_append, List.replicate, decide_eq_true_eq, Bool.not_eq_true', Bool.not_true, Bool.not_false, if_true, if_false, Nat.zero_add, Nat.reduceAdd, Nat.reduceSub, ge_iff_le, true_and, and_true, zip_unzip, Bool.false_xor, Bool.true_xor, Bool.false_eq_true, Bool.true_eq_false, reduceIte, wipeR, dataR_cons, dataR_nil, dataO_d, dataO_none, dataO_ol, dataO_od, oDict, oIsi, tyD, isiB, wSl, wPart, wNoP, oSl, wDisp1, wDGet2, oRemove, atI_0, atI_1, atI_2, wiRev, revItems, oDictP, wForK, wiKeys, kD, oSortX, oPow, oBitAnd, oShl, oNeg, wUn, oInt, oStr, oDivmod, oIs, isD, wChain, wFz, wFzE, frzR, wLSet, wiZip, seqsD, wiVals, wiItems, wOIx, wNo, Option.isSome_some, oMulX, wM1, oSplit, oPart, oStrip1, oRep, oSum, intsD, wRaise, wLI, wLK
, wiR3, wLR, wDisp, wPairs, oReverse, oClear, oInsert, wRevL, wDZ, seqLT, oSortIT]
    have e : (sg (p ++ q)).length ≤ 2000 := by rw [sg_append, List.length_append]; omega
    refine ⟨by rw [len0, sg_len, sg_len]; omega, by rw [sg_len]; show _ < 4096; omega, lets_fit (by omega), hq⟩
  · exact h.elim
/-! ### multiplied -/
def sp_multiplied : DSp := fun ds P _ => match ds with
  | [x, y] => asF x fun a => asF y fun b => (Frm a ∧ Frm b) ∧ P (.d (fD (mulF a b)))
  | _ => False
theorem itemsOf_fD {a : List Str} {P : List D → Prop} : itemsOf (fD a) P = P (a.map .str) := rfl
abbrev N_multiplied : List Str := ["one", "other", "products", "product", "factor"]
def w_multiplied_t2 : WS := (wRet (wCall sp_gathered (fun _ _ => False) (wCons (wVar 2) wNil)))
def w_multiplied_t1 : WS := wSeq (wFor (wiX (wVar 0)) (wgName 3)
      (wFor (wiX (wVar 1)) (wgName 4)
      (wDrop (wM 2 oAppend (wCons (wCall sp_both_letters (fun _ _ => False) (wCons (wVar 3) (wCons (wVar 4) wNil))) wNil)))))
    w_multiplied_t2
def w_multiplied : WS := wSeq (wSet 2 (wLst wNil))
    w_multiplied_t1
theorem len_multiplied {ds Q px} (h : sp_multiplied ds Q px) : ds.length = 2 := by unfold sp_multiplied at h; split at h <;> first | rfl | exact h.elim
theorem pairsF_snoc (a b : List Str) (p : Str) : pairsF (a ++ [p]) b = pairsF a b ++ b.map (bothF p) := by simp [pairsF]
theorem rd_multiplied {ds Q px} (h : sp_multiplied ds Q px) : w_multiplied ⟨fun _ => Q (.d .non), Q, fun _ => False, fun _ => False⟩ (startR N_multiplied ds) := by
  unfold sp_multiplied at h
  split at h
  · obtain ⟨a, rfl, g⟩ := asF_of h
    obtain ⟨b, rfl, ⟨ha, hb⟩, hq⟩ := asF_of g
    clear h g
    unfold w_multiplied
    simp only [N_multiplied, fD, w_multiplied_t1, w_multiplied_t2, wSeq, wSet, wAsg, wC, wIfS, wB, wOp, oI, oI0, asI, asS, asL, asLT, asT, asB, asA_some, asA_none, asO, asOL, asOD, asKey, asDic, asSq, oLen, oMod, oAdd, oSub, oMul, oDiv, oMax, oMin, oPlus, oEqX, oNeX, eqX_int, eqX_str, eqX_bl, oCmp, oLtX, oLeX, oGtX, oGeX, oIxX, oInX, wCB, wCons, wNil, wVar, wMove, nth, put, startR, wNext, wRet, wRetN, wDrop, wFor, wiR1, wiR2, wiX, itemsOf, wgName, wgTup, wgCons, wgNil, wLend, wLendT, seeR_cons, seeR_nil, seeO_d, seeO_none, seeO_ol, seeO_od, wJoin, wM, oAppend, oPop, oPopAt, wDPut, wDPop, wSortK, wDict0, wTup, wLst, wCall, wAnd, wOr, wNot, wAndV, wOrV, wNotV, wIf, wYes, wLc, wiEnumX, oListX, oTuple, oSort, oSortSet, oAll, oAny, S.fz, S.own, D.flat, txts_map, bools_map, txtKeys_map, List.length_map, List.map_cons, List.map_nil, List.length_cons, List.length_nil, List.cons_append, List.nil_append, List.replicate, decide_eq_true_eq, Bool.not_eq_true', Bool.not_true, Bool.not_false, if_true, if_false, Nat.zero_add, Nat.reduceAdd, Nat.reduceSub, ge_iff_le, true_and, and_true, zip_unzip, Bool.false_xor, Bool.true_xor, Bool.false_eq_true, Bool.true_eq_false, reduceIte, wipeR, dataR_cons, dataR_nil, dataO_d, dataO_none, dataO_ol, dataO_od, oDict, oIsi, tyD, isiB, wSl, wPart, wNoP, oSl, wDisp1, wDGet2, oRemove, atI_0, atI_1, atI_2, wiRev, revItems, oDictP, wForK, wiKeys, kD, oSortX, oPow, oBitAnd, oShl, oNeg, wUn, oInt, oStr, oDivmod, oIs, isD, wChain, wFz, wFzE, frzR, wLSet, wiZip, seqsD, wiVals, wiItems, wOIx, wNo, Option.isSome_some, oMulX, wM1, oSplit, oPart, oStrip1, oRep, oSum, intsD, wRaise, wLI, wLK
, wiR3, wLR, wDisp, wPairs, oReverse, oClear, oInsert, wRevL, wDZ, seqLT, oSortIT]
    refine ⟨by decide, ?_⟩
    have la := ha.len
    have lb := hb.len
    refine forD_map (I := fun done _ ρ => ∃ o1 o2, ρ = [some (.d (.tup (a.map .str))), some (.d (.tup (b.map .str))), some (.ol ((pairsF done b).map .str)), o1, o2]) mono_name a (fun done p ys ρ he hI => ?_) (fun ρ hI => ?_) _ ⟨none, none, rfl⟩
    · obtain ⟨o1, o2, rfl⟩ := hI
      have hp : Prd p := ha.prd p (by rw [he]; simp)
      have l1 := congrArg List.length he
      rw [List.length_append, List.length_cons] at l1
      simp only [fD, w_multiplied_t1, w_multiplied_t2, wSeq, wSet, wAsg, wC, wIfS, wB, wOp, oI, oI0, asI, asS, asL, asLT, asT, asB, asA_some, asA_none, asO, asOL, asOD, asKey, asDic, asSq, oLen, oMod, oAdd, oSub, oMul, oDiv, oMax, oMin, oPlus, oEqX, oNeX, eqX_int, eqX_str, eqX_bl, oCmp, oLtX, oLeX, oGtX, oGeX, oIxX, oInX, wCB, wCons, wNil, wVar, wMove, nth, put, startR, wNext, wRet, wRetN, wDrop, wFor, wiR1, wiR2, wiX, itemsOf, wgName, wgTup, wgCons, wgNil, wLend, wLendT, seeR_cons, seeR_nil, seeO_d, seeO_none, seeO_ol, seeO_od, wJoin, wM, oAppend, oPop, oPopAt, wDPut, wDPop, wSortK, wDict0, wTup, wLst, wCall, wAnd, wOr, wNot, wAndV, wOrV, wNotV, wIf, wYes, wLc, wiEnumX, oListX, oTuple, oSort, oSortSet, oAll, oAny, S.fz, S.own, D.flat, txts_map, bools_map, txtKeys_map, List.length_map, List.map_cons, List.map_nil, List.length_cons, List.length_nil, List.cons_append, List.nil_append, List.replicate, decide_eq_true_eq, Bool.not_eq_true', Bool.not_true, Bool.not_false, if_true, if_false, Nat.zero_add, Nat.reduceAdd, Nat.reduceSub, ge_iff_le, true_and, and_true, zip_unzip, Bool.false_xor, Bool.true_xor, Bool.false_eq_true, Bool.true_eq_false, reduceIte, wipeR, dataR_cons, dataR_nil, dataO_d, dataO_none, dataO_ol, dataO_od, oDict, oIsi, tyD, isiB, wSl, wPart, wNoP, oSl, wDisp1, wDGet2, oRemove, atI_0, atI_1, atI_2, wiRev, revItems, oDictP, wForK, wiKeys, kD, oSortX, oPow, oBitAnd, oShl, oNeg, wUn, oInt, oStr, oDivmod, oIs, isD, wChain, wFz, wFzE, frzR, wLSet, wiZip, seqsD, wiVals, wiItems, wOIx, wNo, Option.isSome_some, oMulX, wM1, oSplit, oPart, oStrip1, oRep, oSum, intsD, wRaise, wLI, wLK
, wiR3, wLR, wDisp, wPairs, oReverse, oClear, oInsert, wRevL, wDZ, seqLT, oSortIT]
      refine forD_map (I := fun done2 _ ρ => ∃ o2, ρ = [some (.d (.tup (a.map .str))), some (.d (.tup (b.map .str))), some (.ol ((pairsF done b ++ done2.map (bothF p)).map .str)), some (.d (.str p)), o2]) mono_name b (fun done2 q ys2 ρ he2 hI => ?_) (fun ρ hI => ?_) _ ⟨o2, by rw [List.map_nil, List.append_nil]⟩
      · obtain ⟨o2, rfl⟩ := hI
        have hq2 : Prd q := hb.prd q (by rw [he2]; simp)
        have l2 := congrArg List.length he2
        rw [List.length_append, List.length_cons] at l2
        simp only [w_multiplied_t1, w_multiplied_t2, wSeq, wSet, wAsg, wC, wIfS, wB, wOp, oI, oI0, asI, asS, asL, asLT, asT, asB, asA_some, asA_none, asO, asOL, asOD, asKey, asDic, asSq, oLen, oMod, oAdd, oSub, oMul, oDiv, oMax, oMin, oPlus, oEqX, oNeX, eqX_int, eqX_str, eqX_bl, oCmp, oLtX, oLeX, oGtX, oGeX, oIxX, oInX, wCB, wCons, wNil, wVar, wMove, nth, put, startR, wNext, wRet, wRetN, wDrop, wFor, wiR1, wiR2, wiX, itemsOf, wgName, wgTup, wgCons, wgNil, wLend, wLendT, seeR_cons, seeR_nil, seeO_d, seeO_none, seeO_ol, seeO_od, wJoin, wM, oAppend, oPop, oPopAt, wDPut, wDPop, wSortK, wDict0, wTup, wLst, wCall, wAnd, wOr, wNot, wAndV, wOrV, wNotV, wIf, wYes, wLc, wiEnumX, oListX, oTuple, oSort, oSortSet, oAll, oAny, S.fz, S.own, D.flat, txts_map, bools_map, txtKeys_map, List.length_map, List.map_cons, List.map_nil, List.length_cons, List.length_nil, List.cons_append, List.nil_append, List.replicate, decide_eq_true_eq, Bool.not_eq_true', Bool.not_true, Bool.not_false, if_true, if_false, Nat.zero_add, Nat.reduceAdd, Nat.reduceSub, ge_iff_le, true_and, and_true, zip_unzip, Bool.false_xor, Bool.true_xor, Bool.false_eq_true, Bool.true_eq_false, reduceIte, wipeR, dataR_cons, dataR_nil, dataO_d, dataO_none, dataO_ol, dataO_od, oDict, oIsi, tyD, isiB, wSl, wPart, wNoP, oSl, wDisp1, wDGet2, oRemove, atI_0, atI_1, atI_2, wiRev, revItems, oDictP, wForK, wiKeys, kD, oSortX, oPow, oBitAnd, oShl, oNeg, wUn, oInt, oStr, oDivmod, oIs, isD, wChain, wFz, wFzE, frzR, wLSet, wiZip, seqsD, wiVals, wiItems, wOIx, wNo, Option.isSome_some, oMulX, wM1, oSplit, oPart, oStrip1, oRep, oSum, intsD, wRaise, wLI, wLK
, wiR3, wLR, wDisp, wPairs, oReverse, oClear, oInsert, wRevL, wDZ, seqLT, oSortIT, sp_both_letters]
        refine ⟨⟨by have := hp.len; omega, by have := hq2.len; omega⟩, ?_, some (.d (.str q)), ?_⟩
        · rw [List.length_append, List.length_map, pairs_len, len0]
          have : done.length * b.length ≤ 512 * 512 := Nat.mul_le_mul (by omega) lb
          omega
        · simp
      · obtain ⟨o2, rfl⟩ := hI
        exact ⟨_, _, by rw [pairsF_snoc]⟩
    · obtain ⟨o1, o2, rfl⟩ := hI
      simp only [w_multiplied_t1, w_multiplied_t2, wSeq, wSet, wAsg, wC, wIfS, wB, wOp, oI, oI0, asI, asS, asL, asLT, asT, asB, asA_some, asA_none, asO, asOL, asOD, asKey, asDic, asSq, oLen, oMod, oAdd, oSub, oMul, oDiv, oMax, oMin, oPlus, oEqX, oNeX, eqX_int, eqX_str, eqX_bl, oCmp, oLtX, oLeX, oGtX, oGeX, oIxX, oInX, wCB, wCons, wNil, wVar, wMove, nth, put, startR, wNext, wRet, wRetN, wDrop, wFor, wiR1, wiR2, wiX, itemsOf, wgName, wgTup, wgCons, wgNil, wLend, wLendT, seeR_cons, seeR_nil, seeO_d, seeO_none, seeO_ol, seeO_od, wJoin, wM, oAppend, oPop, oPopAt, wDPut, wDPop, wSortK, wDict0, wTup, wLst, wCall, wAnd, wOr, wNot, wAndV, wOrV, wNotV, wIf, wYes, wLc, wiEnumX, oListX, oTuple, oSort, oSortSet, oAll, oAny, S.fz, S.own, D.flat, txts_map, bools_map, txtKeys_map, List.length_map, List.map_cons, List.map_nil, List.length_cons, List.length_nil, List.cons_append, List.nil_append, List.replicate, decide_eq_true_eq, Bool.not_eq_true', Bool.not_true, Bool.not_false, if_true, if_false, Nat.zero_add, Nat.reduceAdd, Nat.reduceSub, ge_iff_le, true_and, and_true, zip_unzip, Bool.false_xor, Bool.true_xor, Bool.false_eq_true, Bool.true_eq_false, reduceIte, wipeR, dataR_cons, dataR_nil, dataO_d, dataO_none, dataO_ol, dataO_od, oDict, oIsi, tyD, isiB, wSl, wPart, wNoP, oSl, wDisp1, wDGet2, oRemove, atI_0, atI_1, atI_2, wiRev, revItems, oDictP, wForK, wiKeys, kD, oSortX, oPow, oBitAnd, oShl, oNeg, wUn, oInt, oStr, oDivmod, oIs, isD, wChain, wFz, wFzE, frzR, wLSet, wiZip, seqsD, wiVals, wiItems, wOIx, wNo, Option.isSome_some, oMulX, wM1, oSplit, oPart, oStrip1, oRep, oSum, intsD, wRaise, wLI, wLK
, wiR3, wLR, wDisp, wPairs, oReverse, oClear, oInsert, wRevL, wDZ, seqLT, oSortIT, sp_gathered, pairs_len]
      refine ⟨?_, hq⟩
      have : a.length * b.length ≤ 512 * 512 := Nat.mul_le_mul la lb
      omega
  · exact h.elim
/-! ### opposite, joined, leads -/
def sp_opposite : DSp := fun ds P _ => match ds with
  | [x] => asF x fun a => Frm a ∧ P (.d (fD (oppF a)))
  | _ => False
abbrev N_opposite : List Str := ["form"]
def w_opposite : WS := (wRet (wCall sp_added (fun _ _ => False) (wCons (wVar 0) (wCons (wTup (wCons (wC (.str "")) wNil)) wNil))))
theorem len_opposite {ds Q px} (h : sp_opposite ds Q px) : ds.length = 1 := by unfold sp_opposite at h; split at h <;> first | rfl | exact h.elim
theorem oneF_fD : D.tup [D.str ""] = fD oneF := rfl
theorem nilF_fD : D.tup [] = fD [] := rfl
theorem rd_opposite {ds Q px} (h : sp_opposite ds Q px) : w_opposite ⟨fun _ => Q (.d .non), Q, fun _ => False, fun _ => False⟩ (startR N_opposite ds) := by
  unfold sp_opposite at h
  split at h
  · obtain ⟨a, rfl, ha, hq⟩ := asF_of h
    clear h
    unfold w_opposite
    simp only [N_opposite, wSeq, wSet, wAsg, wC, wIfS, wB, wOp, oI, oI0, asI, asS, asL, asLT, asT, asB, asA_some, asA_none, asO, asOL, asOD, asKey, asDic, asSq, oLen, oMod, oAdd, oSub, oMul, oDiv, oMax, oMin, oPlus, oEqX, oNeX, eqX_int, eqX_str, eqX_bl, oCmp, oLtX, oLeX, oGtX, oGeX, oIxX, oInX, wCB, wCons, wNil, wVar, wMove, nth, put, startR, wNext, wRet, wRetN, wDrop, wFor, wiR1, wiR2, wiX, itemsOf, wgName, wgTup, wgCons, wgNil, wLend, wLendT, seeR_cons, seeR_nil, seeO_d, seeO_none, seeO_ol, seeO_od, wJoin, wM, oAppend, oPop, oPopAt, wDPut, wDPop, wSortK, wDict0, wTup, wLst, wCall, wAnd, wOr, wNot, wAndV, wOrV, wNotV, wIf, wYes, wLc, wiEnumX, oListX, oTuple, oSort, oSortSet, oAll, oAny, S.fz, S.own, D.flat, txts_map, bools_map, txtKeys_map, List.length_map, List.map_cons, List.map_nil, List.length_cons, List.length_nil, List.cons_append, List.nil_append, List.replicate, decide_eq_true_eq, Bool.not_eq_true', Bool.not_true, Bool.not_false, if_true, if_false, Nat.zero_add, Nat.reduceAdd, Nat.reduceSub, ge_iff_le, true_and, and_true, zip_unzip, Bool.false_xor, Bool.true_xor, Bool.false_eq_true, Bool.true_eq_false, reduceIte, wipeR, dataR_cons, dataR_nil, dataO_d, dataO_none, dataO_ol, dataO_od, oDict, oIsi, tyD, isiB, wSl, wPart, wNoP, oSl, wDisp1, wDGet2, oRemove, atI_0, atI_1, atI_2, wiRev, revItems, oDictP, wForK, wiKeys, kD, oSortX, oPow, oBitAnd, oShl, oNeg, wUn, oInt, oStr, oDivmod, oIs, isD, wChain, wFz, wFzE, frzR, wLSet, wiZip, seqsD, wiVals, wiItems, wOIx, wNo, Option.isSome_some, oMulX, wM1, oSplit, oPart, oStrip1, oRep, oSum, intsD, wRaise, wLI, wLK
, wiR3, wLR, wDisp, wPairs, oReverse, oClear, oInsert, wRevL, wDZ, seqLT, oSortIT, sp_added, asF_fD, oneF_fD]
    have := ha.len
    exact ⟨by decide, ⟨by omega, by decide⟩, hq⟩
  · exact h.elim
def sp_joined : DSp := fun ds P _ => match ds with
  | [x, y] => asF x fun a => asF y fun b => (Frm a ∧ Frm b) ∧ P (.d (fD (joinF a b)))
  | _ => False
abbrev N_joined : List Str := ["one", "other"]
def w_joined : WS := (wRet (wCall sp_added (fun _ _ => False) (wCons (wCall sp_added (fun _ _ => False) (wCons (wVar 0) (wCons (wVar 1) wNil))) (wCons (wCall sp_multiplied (fun _ _ => False) (wCons (wVar 0) (wCons (wVar 1) wNil))) wNil))))
theorem len_joined {ds Q px} (h : sp_joined ds Q px) : ds.length = 2 := by unfold sp_joined at h; split at h <;> first | rfl | exact h.elim
theorem rd_joined {ds Q px} (h : sp_joined ds Q px) : w_joined ⟨fun _ => Q (.d .non), Q, fun _ => False, fun _ => False⟩ (startR N_joined ds) := by
  unfold sp_joined at h
  split at h
  · obtain ⟨a, rfl, g⟩ := asF_of h
    obtain ⟨b, rfl, ⟨ha, hb⟩, hq⟩ := asF_of g
    clear h g
    unfold w_joined
    simp only [N_joined, wSeq, wSet, wAsg, wC, wIfS, wB, wOp, oI, oI0, asI, asS, asL, asLT, asT, asB, asA_some, asA_none, asO, asOL, asOD, asKey, asDic, asSq, oLen, oMod, oAdd, oSub, oMul, oDiv, oMax, oMin, oPlus, oEqX, oNeX, eqX_int, eqX_str, eqX_bl, oCmp, oLtX, oLeX, oGtX, oGeX, oIxX, oInX, wCB, wCons, wNil, wVar, wMove, nth, put, startR, wNext, wRet, wRetN, wDrop, wFor, wiR1, wiR2, wiX, itemsOf, wgName, wgTup, wgCons, wgNil, wLend, wLendT, seeR_cons, seeR_nil, seeO_d, seeO_none, seeO_ol, seeO_od, wJoin, wM, oAppend, oPop, oPopAt, wDPut, wDPop, wSortK, wDict0, wTup, wLst, wCall, wAnd, wOr, wNot, wAndV, wOrV, wNotV, wIf, wYes, wLc, wiEnumX, oListX, oTuple, oSort, oSortSet, oAll, oAny, S.fz, S.own, D.flat, txts_map, bools_map, txtKeys_map, List.length_map, List.map_cons, List.map_nil, List.length_cons, List.length_nil, List.cons_append, List.nil_append, List.replicate, decide_eq_true_eq, Bool.not_eq_true', Bool.not_true, Bool.not_false, if_true, if_false, Nat.zero_add, Nat.reduceAdd, Nat.reduceSub, ge_iff_le, true_and, and_true, zip_unzip, Bool.false_xor, Bool.true_xor, Bool.false_eq_true, Bool.true_eq_false, reduceIte, wipeR, dataR_cons, dataR_nil, dataO_d, dataO_none, dataO_ol, dataO_od, oDict, oIsi, tyD, isiB, wSl, wPart, wNoP, oSl, wDisp1, wDGet2, oRemove, atI_0, atI_1, atI_2, wiRev, revItems, oDictP, wForK, wiKeys, kD, oSortX, oPow, oBitAnd, oShl, oNeg, wUn, oInt, oStr, oDivmod, oIs, isD, wChain, wFz, wFzE, frzR, wLSet, wiZip, seqsD, wiVals, wiItems, wOIx, wNo, Option.isSome_some, oMulX, wM1, oSplit, oPart, oStrip1, oRep, oSum, intsD, wRaise, wLI, wLK
, wiR3, wLR, wDisp, wPairs, oReverse, oClear, oInsert, wRevL, wDZ, seqLT, oSortIT, sp_added, sp_multiplied, asF_fD]
    have := ha.len
    have := hb.len
    have := (frm_added ha hb).len
    have := (frm_mul ha hb).len
    exact ⟨⟨by omega, by omega⟩, ⟨ha, hb⟩, ⟨by omega, by omega⟩, hq⟩
  · exact h.elim
/-- texts whose signs are signs -/
theorem strOk_prd {p : Str} (h : Prd p) : PyData.strOk p = true := by
  have hh : ∀ c ∈ sg p, c < 0x110000 := fun c hc => by
    have := h.le c hc
    simp [LET] at this
    omega
  unfold PyData.strOk
  rw [← Array.all_toList, List.all_eq_true]
  exact fun c hc => decide_eq_true (hh c hc)
theorem pyds_strs : ∀ a : List Str, pyds (a.map .str) = some (a.map .str)
  | [] => rfl
  | x :: a => by rw [List.map_cons, pyds, pyds_strs a]; rfl
theorem pyd_fD (a : List Str) : pyd (fD a) = some (.tuple (a.map .str)) := by
  unfold fD pyd; rw [pyds_strs]; rfl
theorem canLay_strs : ∀ a : List Str, (∀ p ∈ a, PyData.strOk p = true) → PyData.canLayAll0 (a.map .str) = true
  | [], _ => rfl
  | x :: a, h => by
    rw [List.map_cons, PyData.canLayAll0, canLay_strs a fun p hp => h p (List.mem_cons_of_mem _ hp), Bool.and_true]
    exact h x List.mem_cons_self
theorem depth_strs : ∀ a : List Str, PyData.depthAll (a.map .str) ≤ 1
  | [] => by decide
  | x :: a => by
    rw [List.map_cons]
    have := depth_strs a
    simp only [PyData.depthAll, PyData.depth]
    omega
theorem shaped_fD {a : List Str} (h : ∀ p ∈ a, PyData.strOk p = true) : SeqAt.shaped (.tuple (a.map .str)) = true := by
  unfold SeqAt.shaped
  rw [Bool.and_eq_true]
  refine ⟨canLay_strs a h, decide_eq_true ?_⟩
  have := depth_strs a
  simp only [PyData.depth]
  omega
theorem eqvAll_strs : ∀ a b : List Str, PyData.eqvAll (a.map .str) (b.map .str) = decide (a = b)
  | [], [] => rfl
  | [], y :: b => rfl
  | x :: a, [] => rfl
  | x :: a, y :: b => by
    rw [List.map_cons, List.map_cons, PyData.eqvAll, eqvAll_strs a b]
    show (x == y && _) = _
    rw [Bool.eq_iff_iff]
    simp
theorem eqX_fD {a b : List Str} {P : Bool → Prop} (ha : ∀ p ∈ a, PyData.strOk p = true) (hb : ∀ p ∈ b, PyData.strOk p = true) : eqX (fD a) (fD b) P = P (decide (a = b)) := by
  have e : eqS (fD a) (fD b) = none := rfl
  unfold eqX
  rw [e]
  show asA (pyd (fD a)) (fun q => asA (pyd (fD b)) fun r => SeqAt.shaped q = true ∧ SeqAt.shaped r = true ∧ P (PyData.eqv q r)) = _
  rw [pyd_fD, pyd_fD]
  show (SeqAt.shaped _ = true ∧ SeqAt.shaped _ = true ∧ P (PyData.eqvAll _ _)) = _
  rw [shaped_fD ha, shaped_fD hb, eqvAll_strs]
  simp
theorem Frm.ok {a : List Str} (h : Frm a) : ∀ p ∈ a, PyData.strOk p = true := fun p hp => strOk_prd (h.prd p hp)
theorem eqX_frm {a b : List Str} {P : Bool → Prop} (ha : Frm a) (hb : Frm b) : eqX (fD a) (fD b) P = P (decide (a = b)) := eqX_fD ha.ok hb.ok
def leadF (a b : List Str) : Bool := decide (mulF a (oppF b) = [])
def sp_leads : DSp := fun ds P _ => match ds with
  | [x, y] => asF x fun a => asF y fun b => (Frm a ∧ Frm b) ∧ P (.d (.bl (leadF a b)))
  | _ => False
abbrev N_leads : List Str := ["one", "other"]
def w_leads : WS := (wRet (wOp oEqX (wCall sp_multiplied (fun _ _ => False) (wCons (wVar 0) (wCons (wCall sp_opposite (fun _ _ => False) (wCons (wVar 1) wNil)) wNil))) (wTup wNil)))
theorem len_leads {ds Q px} (h : sp_leads ds Q px) : ds.length = 2 := by unfold sp_leads at h; split at h <;> first | rfl | exact h.elim
theorem rd_leads {ds Q px} (h : sp_leads ds Q px) : w_leads ⟨fun _ => Q (.d .non), Q, fun _ => False, fun _ => False⟩ (startR N_leads ds) := by
  unfold sp_leads at h
  split at h
  · obtain ⟨a, rfl, g⟩ := asF_of h
    obtain ⟨b, rfl, ⟨ha, hb⟩, hq⟩ := asF_of g
    clear h g
    unfold w_leads
    simp only [N_leads, wRet, wOp, wCall, wCons, wNil, wVar, startR, nth, List.map_cons, List.map_nil, S.fz, sp_opposite, sp_multiplied, asF_fD, wTup, List.cons_append, oEqX, nilF_fD, List.length_nil]
    refine ⟨hb, ⟨ha, frm_opp hb⟩, by decide, ?_⟩
    rw [eqX_frm (frm_mul ha (frm_opp hb)) frm_nil]
    exact hq
  · exact h.elim
end DL
/-! F16b: the laws' helpers _law_mixed, _law_letters, _law_product, _law_form: what they promise, their reading. -/
namespace DL
open PySem L2
theorem atI_in {α : Type} {xs : List α} {i : Int} (h0 : 0 ≤ i) (h : i < xs.length) : ∃ v, atI xs i = some v ∧ v ∈ xs := by
  have hi : i.toNat < xs.length := by omega
  refine ⟨xs[i.toNat], ?_, List.getElem_mem hi⟩
  have := atI_nat (xs := xs) (List.getElem?_eq_getElem hi)
  rwa [show ((i.toNat : Nat) : Int) = i by omega] at this
/-- a comprehension's items: what each may give -/
def Picks {α : Type} (g : α → Option D → Prop) : List α → List D → Prop
  | [], r => r = []
  | x :: xs, r => ∃ o r', g x o ∧ Picks g xs r' ∧ r = (match o with | some d => d :: r' | none => r')
theorem compD_picks {α : Type} {f : α → D} {wg : WG} {wt : WT} {we : W} {ρb : R} (g : α → Option D → Prop) :
    ∀ (items : List α) (P : List D → Prop), (∀ x ∈ items, ∀ Q : Option D → Prop, (∀ o, g x o → Q o) → wg (f x) ρb fun ρ1 => wt ρ1 fun b ρ2 => if b = true then we ρ2 fun s _ => Q (some s.fz) else Q none) →
      (∀ r, Picks g items r → P r) → compD wg wt we ρb (items.map f) P
  | [], P, h, p => p [] rfl
  | x :: xs, P, h, p => by
    rw [List.map_cons]
    show wg (f x) ρb fun ρ1 => wt ρ1 fun b ρ2 => if b = true then we ρ2 fun s _ => compD wg wt we ρb (xs.map f) fun r => P (s.fz :: r) else compD wg wt we ρb (xs.map f) P
    refine h x List.mem_cons_self (fun o => match o with
      | some d => compD wg wt we ρb (xs.map f) fun r => P (d :: r)
      | none => compD wg wt we ρb (xs.map f) P) fun o ho => ?_
    cases o with
    | none => exact compD_picks g xs P (fun y hy => h y (List.mem_cons_of_mem _ hy)) fun r hr => p r ⟨none, r, ho, hr, rfl⟩
    | some d => exact compD_picks g xs (fun r => P (d :: r)) (fun y hy => h y (List.mem_cons_of_mem _ hy)) fun r hr => p _ ⟨some d, r, ho, hr, rfl⟩
theorem rangeD_map (n : Nat) : rangeD 0 n = (List.range n).map fun i : Nat => D.int (i : Int) := by
  unfold rangeD
  apply List.map_congr_left
  intro i _
  rw [Int.zero_add]
theorem up_nodup {p : List Nat} (h : p.Pairwise (· < ·)) : p.Nodup := h.imp fun h => Nat.ne_of_lt h
theorem erase_map {α β : Type} (f : α → β) : ∀ (l : List α) (i : Nat), (l.map f).eraseIdx i = (l.eraseIdx i).map f
  | [], _ => rfl
  | _ :: _, 0 => rfl
  | x :: l, i + 1 => by
    rw [List.map_cons, List.eraseIdx_cons_succ, List.eraseIdx_cons_succ, erase_map f l i]; rfl
/-! ### _law_mixed -/
def sp_L_mixed : DSp := fun ds P _ => match ds with
  | [.cel ns, .int k] => (ns.length ≤ 63 ∧ 0 ≤ k ∧ k ≤ 1000000) ∧ ∀ z : Int, 0 ≤ z → z < 999983 → P (.d (.int z))
  | _ => False
abbrev N_L_mixed : List Str := ["_law_script", "_law_k", "_law_many", "_law_cell", "_law_n"]
def w_L_mixed_t4 : WS := (wRet (wOp oMod (wOp oMul (wOp oMod (wOp oMul (wOp oPlus (wOp oPlus (wOp oMod (wVar 3) (wC (.int 1000003))) (wOp oMul (wC (.int 7919)) (wVar 1))) (wC (.int 11))) (wC (.int 48271))) (wC (.int 1000033))) (wC (.int 69621))) (wC (.int 999983))))
def w_L_mixed_t3 : WS := wSeq (wIfS (wB (wOp oGeX (wVar 2) (wC (.int 0)))) (wAsg (wOp oIxX (wVar 0) (wOp oMod (wVar 1) (wCB oLen (wCons (wVar 0) wNil)))) (wgName 3)) wNext)
    w_L_mixed_t4
def w_L_mixed_t2 : WS := wSeq (wAsg (wC (.int 0)) (wgName 3))
    w_L_mixed_t3
def w_L_mixed_t1 : WS := wSeq (wIfS (wAnd (wB (wOp oGtX (wVar 2) (wC (.int 0)))) (wB (wOp oEqX (wOp oMod (wOp oIxX (wVar 0) (wC (.int 0))) (wC (.int 2))) (wC (.int 1))))) (wSeq (wAsg (wOp oIxX (wVar 0) (wOp oPlus (wC (.int 1)) (wOp oMod (wVar 1) (wVar 2)))) (wgName 3))
    (wSeq (wFor (wiR1 (wCons (wCB oMin (wCons (wOp oDiv (wVar 1) (wVar 2)) (wCons (wC (.int 60)) wNil))) wNil)) (wgName 4)
      (wAsg (wOp oDiv (wVar 3) (wC (.int 999983))) (wgName 3)))
    (wRet (wOp oMod (wVar 3) (wC (.int 999983)))))) wNext)
    w_L_mixed_t2
def w_L_mixed : WS := wSeq (wAsg (wOp oSub (wCB oLen (wCons (wVar 0) wNil)) (wC (.int 1))) (wgName 2))
    w_L_mixed_t1
theorem len_L_mixed {ds Q px} (h : sp_L_mixed ds Q px) : ds.length = 2 := by unfold sp_L_mixed at h; split at h <;> first | rfl | exact h.elim
theorem rd_L_mixed {ds Q px} (h : sp_L_mixed ds Q px) : w_L_mixed ⟨fun _ => Q (.d .non), Q, fun _ => False, fun _ => False⟩ (startR N_L_mixed ds) := by
  unfold sp_L_mixed at h
  split at h
  · rename_i ns k
    obtain ⟨⟨h1, h2, h3⟩, hq⟩ := h
    unfold w_L_mixed
    simp only [N_L_mixed, w_L_mixed_t1, w_L_mixed_t2, w_L_mixed_t3, w_L_mixed_t4, wSeq, wSet, wAsg, wC, wIfS, wB, wOp, oI, oI0, asI, asS, asL, asLT, asT, asB, asA_some, asA_none, asO, asOL, asOD, asKey, asDic, asSq, oLen, oMod, oAdd, oSub, oMul, oDiv, oMax, oMin, oPlus, oEqX, oNeX, eqX_int, eqX_str, eqX_bl, oCmp, oLtX, oLeX, oGtX, oGeX, oIxX, oInX, wCB, wCons, wNil, wVar, wMove, nth, put, startR, wNext, wRet, wRetN, wDrop, wFor, wiR1, wiR2, wiX, itemsOf, wgName, wgTup, wgCons, wgNil, wLend, wLendT, seeR_cons, seeR_nil, seeO_d, seeO_none, seeO_ol, seeO_od, wJoin, wM, oAppend, oPop, oPopAt, wDPut, wDPop, wSortK, wDict0, wTup, wLst, wCall, wAnd, wOr, wNot, wAndV, wOrV, wNotV, wIf, wYes, wLc, wiEnumX, oListX, oTuple, oSort, oSortSet, oAll, oAny, S.fz, S.own, D.flat, txts_map, bools_map, txtKeys_map, List.length_map, List.map_cons, List.map_nil, List.length_cons, List.length_nil, List.cons_append, List.nil_append, List.replicate, decide_eq_true_eq, Bool.not_eq_true', Bool.not_true, Bool.not_false, if_true, if_false, Nat.zero_add, Nat.reduceAdd, Nat.reduceSub, ge_iff_le, true_and, and_true, zip_unzip, Bool.false_xor, Bool.true_xor, Bool.false_eq_true, Bool.true_eq_false, reduceIte, wipeR, dataR_cons, dataR_nil, dataO_d, dataO_none, dataO_ol, dataO_od, oDict, oIsi, tyD, isiB, wSl, wPart, wNoP, oSl, wDisp1, wDGet2, oRemove, atI_0, atI_1, atI_2, wiRev, revItems, oDictP, wForK, wiKeys, kD, oSortX, oPow, oBitAnd, oShl, oNeg, wUn, oInt, oStr, oDivmod, oIs, isD, wChain, wFz, wFzE, frzR, wLSet, wiZip, seqsD, wiVals, wiItems, wOIx, wNo, Option.isSome_some, oMulX, wM1, oSplit, oPart, oStrip1, oRep, oSum, intsD, wRaise, wLI, wLK
, wiR3, wLR, wDisp, wPairs, oReverse, oClear, oInsert, wRevL, wDZ, seqLT, oSortIT]
    have fin : ∀ b : Int, 0 < (1000003 : Int) ∧ CMul 7919 k ∧ CMul (b % 1000003 + 7919 * k + 11) 48271 ∧ 0 < (1000033 : Int) ∧ CMul ((b % 1000003 + 7919 * k + 11) * 48271 % 1000033) 69621 ∧ 0 < (999983 : Int) ∧
        Q (S.d (D.int ((b % 1000003 + 7919 * k + 11) * 48271 % 1000033 * 69621 % 999983))) := fun b =>
      ⟨by decide, .inl ⟨by decide, by decide⟩, .inr ⟨by decide, by decide⟩, by decide, .inr ⟨by decide, by decide⟩, by decide, hq _ (Int.emod_nonneg _ (by decide)) (Int.emod_lt_of_pos _ (by decide))⟩
    have last : if 0 ≤ (ns.length : Int) - 1 then 0 < (ns.length : Int) ∧ asA (atI ns (k % ns.length)) fun b => 0 < (1000003 : Int) ∧ CMul 7919 k ∧ CMul (b % 1000003 + 7919 * k + 11) 48271 ∧ 0 < (1000033 : Int) ∧ CMul ((b % 1000003 + 7919 * k + 11) * 48271 % 1000033) 69621 ∧ 0 < (999983 : Int) ∧
            Q (S.d (D.int ((b % 1000003 + 7919 * k + 11) * 48271 % 1000033 * 69621 % 999983)))
        else 0 < (1000003 : Int) ∧ CMul 7919 k ∧ CMul (0 % 1000003 + 7919 * k + 11) 48271 ∧ 0 < (1000033 : Int) ∧ CMul ((0 % 1000003 + 7919 * k + 11) * 48271 % 1000033) 69621 ∧ 0 < (999983 : Int) ∧
            Q (S.d (D.int ((0 % 1000003 + 7919 * k + 11) * 48271 % 1000033 * 69621 % 999983))) := by
      split
      · rename_i c
        refine ⟨by omega, ?_⟩
        obtain ⟨b, e, _⟩ := atI_in (xs := ns) (i := k % ns.length) (Int.emod_nonneg _ (by omega)) (Int.emod_lt_of_pos _ (by omega))
        rw [e]
        exact fin b
      · exact fin 0
    by_cases c1 : 0 < (ns.length : Int) - 1
    · obtain ⟨b0, e0, _⟩ := atI_in (xs := ns) (i := 0) (by omega) (by omega)
      rw [if_pos c1, e0]
      refine ⟨by decide, ?_⟩
      by_cases c2 : b0 % 2 = 1
      · rw [if_pos c2]
        obtain ⟨b, e, _⟩ := atI_in (xs := ns) (i := 1 + k % (ns.length - 1)) (by have := Int.emod_nonneg k (show (ns.length : Int) - 1 ≠ 0 by omega); omega) (by have := Int.emod_lt_of_pos k c1; omega)
        rw [e]
        have hd : 0 ≤ k / ((ns.length : Int) - 1) := Int.ediv_nonneg h2 (by omega)
        refine ⟨c1, ⟨c1, by omega⟩, ⟨by split <;> omega, by split <;> omega⟩, ?_⟩
        rw [rangeD_map]
        refine forD_map (I := fun _ _ ρ => ∃ c o, ρ = [some (.d (.cel ns)), some (.d (.int k)), some (.d (.int ((ns.length : Int) - 1))), some (.d (.int c)), o]) mono_name _ (fun done x ys ρ he hI => ?_) (fun ρ hI => ?_) _ ⟨b, none, rfl⟩
        · obtain ⟨c, o, rfl⟩ := hI
          simp only [w_L_mixed_t1, w_L_mixed_t2, w_L_mixed_t3, w_L_mixed_t4, wSeq, wSet, wAsg, wC, wIfS, wB, wOp, oI, oI0, asI, asS, asL, asLT, asT, asB, asA_some, asA_none, asO, asOL, asOD, asKey, asDic, asSq, oLen, oMod, oAdd, oSub, oMul, oDiv, oMax, oMin, oPlus, oEqX, oNeX, eqX_int, eqX_str, eqX_bl, oCmp, oLtX, oLeX, oGtX, oGeX, oIxX, oInX, wCB, wCons, wNil, wVar, wMove, nth, put, startR, wNext, wRet, wRetN, wDrop, wFor, wiR1, wiR2, wiX, itemsOf, wgName, wgTup, wgCons, wgNil, wLend, wLendT, seeR_cons, seeR_nil, seeO_d, seeO_none, seeO_ol, seeO_od, wJoin, wM, oAppend, oPop, oPopAt, wDPut, wDPop, wSortK, wDict0, wTup, wLst, wCall, wAnd, wOr, wNot, wAndV, wOrV, wNotV, wIf, wYes, wLc, wiEnumX, oListX, oTuple, oSort, oSortSet, oAll, oAny, S.fz, S.own, D.flat, txts_map, bools_map, txtKeys_map, List.length_map, List.map_cons, List.map_nil, List.length_cons, List.length_nil, List.cons_append, List.nil_append, List.replicate, decide_eq_true_eq, Bool.not_eq_true', Bool.not_true, Bool.not_false, if_true, if_false, Nat.zero_add, Nat.reduceAdd, Nat.reduceSub, ge_iff_le, true_and, and_true, zip_unzip, Bool.false_xor, Bool.true_xor, Bool.false_eq_true, Bool.true_eq_false, reduceIte, wipeR, dataR_cons, dataR_nil, dataO_d, dataO_none, dataO_ol, dataO_od, oDict, oIsi, tyD, isiB, wSl, wPart, wNoP, oSl, wDisp1, wDGet2, oRemove, atI_0, atI_1, atI_2, wiRev, revItems, oDictP, wForK, wiKeys, kD, oSortX, oPow, oBitAnd, oShl, oNeg, wUn, oInt, oStr, oDivmod, oIs, isD, wChain, wFz, wFzE, frzR, wLSet, wiZip, seqsD, wiVals, wiItems, wOIx, wNo, Option.isSome_some, oMulX, wM1, oSplit, oPart, oStrip1, oRep, oSum, intsD, wRaise, wLI, wLK
, wiR3, wLR, wDisp, wPairs, oReverse, oClear, oInsert, wRevL, wDZ, seqLT, oSortIT]
          exact ⟨⟨by decide, by decide⟩, _, _, rfl⟩
        · obtain ⟨c, o, rfl⟩ := hI
          simp only [w_L_mixed_t1, w_L_mixed_t2, w_L_mixed_t3, w_L_mixed_t4, wSeq, wSet, wAsg, wC, wIfS, wB, wOp, oI, oI0, asI, asS, asL, asLT, asT, asB, asA_some, asA_none, asO, asOL, asOD, asKey, asDic, asSq, oLen, oMod, oAdd, oSub, oMul, oDiv, oMax, oMin, oPlus, oEqX, oNeX, eqX_int, eqX_str, eqX_bl, oCmp, oLtX, oLeX, oGtX, oGeX, oIxX, oInX, wCB, wCons, wNil, wVar, wMove, nth, put, startR, wNext, wRet, wRetN, wDrop, wFor, wiR1, wiR2, wiX, itemsOf, wgName, wgTup, wgCons, wgNil, wLend, wLendT, seeR_cons, seeR_nil, seeO_d, seeO_none, seeO_ol, seeO_od, wJoin, wM, oAppend, oPop, oPopAt, wDPut, wDPop, wSortK, wDict0, wTup, wLst, wCall, wAnd, wOr, wNot, wAndV, wOrV, wNotV, wIf, wYes, wLc, wiEnumX, oListX, oTuple, oSort, oSortSet, oAll, oAny, S.fz, S.own, D.flat, txts_map, bools_map, txtKeys_map, List.length_map, List.map_cons, List.map_nil, List.length_cons, List.length_nil, List.cons_append, List.nil_append, List.replicate, decide_eq_true_eq, Bool.not_eq_true', Bool.not_true, Bool.not_false, if_true, if_false, Nat.zero_add, Nat.reduceAdd, Nat.reduceSub, ge_iff_le, true_and, and_true, zip_unzip, Bool.false_xor, Bool.true_xor, Bool.false_eq_true, Bool.true_eq_false, reduceIte, wipeR, dataR_cons, dataR_nil, dataO_d, dataO_none, dataO_ol, dataO_od, oDict, oIsi, tyD, isiB, wSl, wPart, wNoP, oSl, wDisp1, wDGet2, oRemove, atI_0, atI_1, atI_2, wiRev, revItems, oDictP, wForK, wiKeys, kD, oSortX, oPow, oBitAnd, oShl, oNeg, wUn, oInt, oStr, oDivmod, oIs, isD, wChain, wFz, wFzE, frzR, wLSet, wiZip, seqsD, wiVals, wiItems, wOIx, wNo, Option.isSome_some, oMulX, wM1, oSplit, oPart, oStrip1, oRep, oSum, intsD, wRaise, wLI, wLK
, wiR3, wLR, wDisp, wPairs, oReverse, oClear, oInsert, wRevL, wDZ, seqLT, oSortIT]
          exact ⟨by decide, hq _ (Int.emod_nonneg _ (by decide)) (Int.emod_lt_of_pos _ (by decide))⟩
      · rw [if_neg c2]
        exact last
    · rw [if_neg c1]
      exact last
  · exact h.elim
/-! ### _law_letters -/
theorem prd_ones {cs : List Nat} (h1 : cs.Pairwise (· < ·)) (h2 : ∀ c ∈ cs, c ∈ LET) : Prd (Txt.join "" (cs.map one)) := by
  have e : sg (Txt.join "" (cs.map one)) = cs := by rw [sg_join0 sg_nil, flat_ones]
  exact ⟨by rw [e]; exact h1, by rw [e]; exact h2⟩
def sp_L_letters : DSp := fun ds P _ => match ds with
  | [.int n, .int m] => (0 ≤ n ∧ 0 ≤ m) ∧ ∀ s : Str, Prd s → ((sg s).length : Int) ≤ m → P (.d (.str s))
  | _ => False
abbrev N_L_letters : List Str := ["_law_number", "_law_many", "_law_left"]
def w_L_letters_b1_t1 : WS := (wAsg (wOp oPlus (wOp oDiv (wVar 0) (wC (.int 3))) (wC (.int 7))) (wgName 0))
def w_L_letters_b1 : WS := wSeq (wDrop (wM 2 oPopAt (wCons (wOp oMod (wVar 0) (wLend (wCB oLen (wCons (wVar 2) wNil)))) wNil)))
    w_L_letters_b1_t1
def w_L_letters_t2 : WS := (wRet (wLend (wJoin (wC (.str "")) (wVar 2))))
def w_L_letters_t1 : WS := wSeq (wWhile (wLendT (wB (wOp oGtX (wCB oLen (wCons (wVar 2) wNil)) (wVar 1)))) w_L_letters_b1)
    w_L_letters_t2
def w_L_letters : WS := wSeq (wSet 2 (wCB oListX (wCons (wC (.str "abcpqrxyz")) wNil)))
    w_L_letters_t1
theorem len_L_letters {ds Q px} (h : sp_L_letters ds Q px) : ds.length = 2 := by unfold sp_L_letters at h; split at h <;> first | rfl | exact h.elim
theorem rd_L_letters {ds Q px} (h : sp_L_letters ds Q px) : w_L_letters ⟨fun _ => Q (.d .non), Q, fun _ => False, fun _ => False⟩ (startR N_L_letters ds) := by
  unfold sp_L_letters at h
  split at h
  · rename_i n m
    obtain ⟨⟨h1, h2⟩, hq⟩ := h
    have e0 : signs "abcpqrxyz" = LET.map one := by
      rw [signs_eq]
      have : sg "abcpqrxyz" = LET := by decide +kernel
      rw [this]
    unfold w_L_letters
    simp only [N_L_letters, w_L_letters_t1, w_L_letters_t2, w_L_letters_b1_t1, w_L_letters_b1, wSeq, wSet, wAsg, wC, wIfS, wB, wOp, oI, oI0, asI, asS, asL, asLT, asT, asB, asA_some, asA_none, asO, asOL, asOD, asKey, asDic, asSq, oLen, oMod, oAdd, oSub, oMul, oDiv, oMax, oMin, oPlus, oEqX, oNeX, eqX_int, eqX_str, eqX_bl, oCmp, oLtX, oLeX, oGtX, oGeX, oIxX, oInX, wCB, wCons, wNil, wVar, wMove, nth, put, startR, wNext, wRet, wRetN, wDrop, wFor, wiR1, wiR2, wiX, itemsOf, wgName, wgTup, wgCons, wgNil, wLend, wLendT, seeR_cons, seeR_nil, seeO_d, seeO_none, seeO_ol, seeO_od, wJoin, wM, oAppend, oPop, oPopAt, wDPut, wDPop, wSortK, wDict0, wTup, wLst, wCall, wAnd, wOr, wNot, wAndV, wOrV, wNotV, wIf, wYes, wLc, wiEnumX, oListX, oTuple, oSort, oSortSet, oAll, oAny, S.fz, S.own, D.flat, txts_map, bools_map, txtKeys_map, List.length_map, List.map_cons, List.map_nil, List.length_cons, List.length_nil, List.cons_append, List.nil_append, List.replicate, decide_eq_true_eq, Bool.not_eq_true', Bool.not_true, Bool.not_false, if_true, if_false, Nat.zero_add, Nat.reduceAdd, Nat.reduceSub, ge_iff_le, true_and, and_true, zip_unzip, Bool.false_xor, Bool.true_xor, Bool.false_eq_true, Bool.true_eq_false, reduceIte, wipeR, dataR_cons, dataR_nil, dataO_d, dataO_none, dataO_ol, dataO_od, oDict, oIsi, tyD, isiB, wSl, wPart, wNoP, oSl, wDisp1, wDGet2, oRemove, atI_0, atI_1, atI_2, wiRev, revItems, oDictP, wForK, wiKeys, kD, oSortX, oPow, oBitAnd, oShl, oNeg, wUn, oInt, oStr, oDivmod, oIs, isD, wChain, wFz, wFzE, frzR, wLSet, wiZip, seqsD, wiVals, wiItems, wOIx, wNo, Option.isSome_some, oMulX, wM1, oSplit, oPart, oStrip1, oRep, oSum, intsD, wRaise, wLI, wLK
, wiR3, wLR, wDisp, wPairs, oReverse, oClear, oInsert, wRevL, wDZ, seqLT, oSortIT]
    refine ⟨by decide +kernel, fun l ρ => ∃ (n : Int) (cs : List Nat), l = cs.length ∧ 0 ≤ n ∧ cs.Pairwise (· < ·) ∧ (∀ c ∈ cs, c ∈ LET) ∧ ρ = [some (.d (.int n)), some (.d (.int m)), some (.ol ((cs.map one).map .str))], ⟨9, n, LET, rfl, h1, LET_up, fun _ h => h, by rw [← e0]⟩, ?_⟩
    rintro l ρ ⟨n, cs, rfl, hn, hu, hl, rfl⟩
    simp only [w_L_letters_t1, w_L_letters_t2, w_L_letters_b1_t1, w_L_letters_b1, wSeq, wSet, wAsg, wC, wIfS, wB, wOp, oI, oI0, asI, asS, asL, asLT, asT, asB, asA_some, asA_none, asO, asOL, asOD, asKey, asDic, asSq, oLen, oMod, oAdd, oSub, oMul, oDiv, oMax, oMin, oPlus, oEqX, oNeX, eqX_int, eqX_str, eqX_bl, oCmp, oLtX, oLeX, oGtX, oGeX, oIxX, oInX, wCB, wCons, wNil, wVar, wMove, nth, put, startR, wNext, wRet, wRetN, wDrop, wFor, wiR1, wiR2, wiX, itemsOf, wgName, wgTup, wgCons, wgNil, wLend, wLendT, seeR_cons, seeR_nil, seeO_d, seeO_none, seeO_ol, seeO_od, wJoin, wM, oAppend, oPop, oPopAt, wDPut, wDPop, wSortK, wDict0, wTup, wLst, wCall, wAnd, wOr, wNot, wAndV, wOrV, wNotV, wIf, wYes, wLc, wiEnumX, oListX, oTuple, oSort, oSortSet, oAll, oAny, S.fz, S.own, D.flat, txts_map, bools_map, txtKeys_map, List.length_map, List.map_cons, List.map_nil, List.length_cons, List.length_nil, List.cons_append, List.nil_append, List.replicate, decide_eq_true_eq, Bool.not_eq_true', Bool.not_true, Bool.not_false, if_true, if_false, Nat.zero_add, Nat.reduceAdd, Nat.reduceSub, ge_iff_le, true_and, and_true, zip_unzip, Bool.false_xor, Bool.true_xor, Bool.false_eq_true, Bool.true_eq_false, reduceIte, wipeR, dataR_cons, dataR_nil, dataO_d, dataO_none, dataO_ol, dataO_od, oDict, oIsi, tyD, isiB, wSl, wPart, wNoP, oSl, wDisp1, wDGet2, oRemove, atI_0, atI_1, atI_2, wiRev, revItems, oDictP, wForK, wiKeys, kD, oSortX, oPow, oBitAnd, oShl, oNeg, wUn, oInt, oStr, oDivmod, oIs, isD, wChain, wFz, wFzE, frzR, wLSet, wiZip, seqsD, wiVals, wiItems, wOIx, wNo, Option.isSome_some, oMulX, wM1, oSplit, oPart, oStrip1, oRep, oSum, intsD, wRaise, wLI, wLK
, wiR3, wLR, wDisp, wPairs, oReverse, oClear, oInsert, wRevL, wDZ, seqLT, oSortIT]
    split
    · rename_i c
      have hm : 0 < (cs.length : Int) := by omega
      have r0 := Int.emod_nonneg n (show (cs.length : Int) ≠ 0 by omega)
      have r1 := Int.emod_lt_of_pos n hm
      have l9 : cs.length ≤ 9 := (up_nodup hu).length_le_of_subset (l₂ := LET) hl
      have hj : (n % (cs.length : Int)).toNat < cs.length := by omega
      have e1 : seqIndex? (n % (cs.length : Int)) cs.length = some (n % (cs.length : Int)).toNat := seqIndex_of r0 r1
      refine ⟨hm, ⟨by omega, by omega⟩, ?_⟩
      rw [e1, asA_some, List.getElem?_map, List.getElem?_map, List.getElem?_eq_getElem hj]
      refine ⟨⟨by decide, by decide⟩, _, ?_, n / 3 + 7, cs.eraseIdx (n % (cs.length : Int)).toNat, rfl, ?_, ?_, ?_, ?_⟩
      · rw [List.length_eraseIdx_of_lt hj]; omega
      · have := Int.ediv_nonneg hn (show (0 : Int) ≤ 3 by decide); omega
      · exact hu.sublist (List.eraseIdx_sublist _ _)
      · exact fun c hc => hl c ((List.eraseIdx_sublist _ _).subset hc)
      · rw [erase_map, erase_map]
    · rename_i c
      have e3 : Str.length "" = 0 := by decide +kernel
      have l9 : cs.length ≤ 9 := (up_nodup hu).length_le_of_subset (l₂ := LET) hl
      refine ⟨?_, hq _ (prd_ones hu hl) ?_⟩
      · rw [ones_sum, e3]; omega
      · rw [sg_join0 sg_nil, flat_ones]; omega
  · exact h.elim
/-! ### _law_product -/
def sp_L_product : DSp := fun ds P _ => match ds with
  | [.str s, .int n] => Prd s ∧ ∀ p : Str, Prd p → (∀ c ∈ sg p, c ∈ sg s) → P (.d (.str p))
  | _ => False
abbrev N_L_product : List Str := ["_law_letters_here", "_law_number", "_law_product_here", "_law_letter"]
def w_L_product_b1_t1 : WS := (wAsg (wOp oDiv (wVar 1) (wC (.int 2))) (wgName 1))
def w_L_product_b1 : WS := wSeq (wIfS (wB (wOp oEqX (wOp oMod (wVar 1) (wC (.int 2))) (wC (.int 1)))) (wAsg (wOp oPlus (wVar 2) (wVar 3)) (wgName 2)) wNext)
    w_L_product_b1_t1
def w_L_product_t2 : WS := (wRet (wVar 2))
def w_L_product_t1 : WS := wSeq (wFor (wiX (wVar 0)) (wgName 3)
      w_L_product_b1)
    w_L_product_t2
def w_L_product : WS := wSeq (wAsg (wC (.str "")) (wgName 2))
    w_L_product_t1
theorem len_L_product {ds Q px} (h : sp_L_product ds Q px) : ds.length = 2 := by unfold sp_L_product at h; split at h <;> first | rfl | exact h.elim
theorem rd_L_product {ds Q px} (h : sp_L_product ds Q px) : w_L_product ⟨fun _ => Q (.d .non), Q, fun _ => False, fun _ => False⟩ (startR N_L_product ds) := by
  unfold sp_L_product at h
  split at h
  · rename_i s n
    obtain ⟨hs, hq⟩ := h
    unfold w_L_product
    simp only [N_L_product, w_L_product_t1, w_L_product_t2, w_L_product_b1_t1, w_L_product_b1, wSeq, wSet, wAsg, wC, wIfS, wB, wOp, oI, oI0, asI, asS, asL, asLT, asT, asB, asA_some, asA_none, asO, asOL, asOD, asKey, asDic, asSq, oLen, oMod, oAdd, oSub, oMul, oDiv, oMax, oMin, oPlus, oEqX, oNeX, eqX_int, eqX_str, eqX_bl, oCmp, oLtX, oLeX, oGtX, oGeX, oIxX, oInX, wCB, wCons, wNil, wVar, wMove, nth, put, startR, wNext, wRet, wRetN, wDrop, wFor, wiR1, wiR2, wiX, itemsOf, wgName, wgTup, wgCons, wgNil, wLend, wLendT, seeR_cons, seeR_nil, seeO_d, seeO_none, seeO_ol, seeO_od, wJoin, wM, oAppend, oPop, oPopAt, wDPut, wDPop, wSortK, wDict0, wTup, wLst, wCall, wAnd, wOr, wNot, wAndV, wOrV, wNotV, wIf, wYes, wLc, wiEnumX, oListX, oTuple, oSort, oSortSet, oAll, oAny, S.fz, S.own, D.flat, txts_map, bools_map, txtKeys_map, List.length_map, List.map_cons, List.map_nil, List.length_cons, List.length_nil, List.cons_append, List.nil_append, List.replicate, decide_eq_true_eq, Bool.not_eq_true', Bool.not_true, Bool.not_false, if_true, if_false, Nat.zero_add, Nat.reduceAdd, Nat.reduceSub, ge_iff_le, true_and, and_true, zip_unzip, Bool.false_xor, Bool.true_xor, Bool.false_eq_true, Bool.true_eq_false, reduceIte, wipeR, dataR_cons, dataR_nil, dataO_d, dataO_none, dataO_ol, dataO_od, oDict, oIsi, tyD, isiB, wSl, wPart, wNoP, oSl, wDisp1, wDGet2, oRemove, atI_0, atI_1, atI_2, wiRev, revItems, oDictP, wForK, wiKeys, kD, oSortX, oPow, oBitAnd, oShl, oNeg, wUn, oInt, oStr, oDivmod, oIs, isD, wChain, wFz, wFzE, frzR, wLSet, wiZip, seqsD, wiVals, wiItems, wOIx, wNo, Option.isSome_some, oMulX, wM1, oSplit, oPart, oStrip1, oRep, oSum, intsD, wRaise, wLI, wLK
, wiR3, wLR, wDisp, wPairs, oReverse, oClear, oInsert, wRevL, wDZ, seqLT, oSortIT]
    rw [signs_eq, List.map_map]
    refine forD_map (I := fun done rest ρ => ∃ (n : Int) (p : Str) (o : Option S), (sg p).Pairwise (· < ·) ∧ (∀ c ∈ sg p, c ∈ done) ∧ ρ = [some (.d (.str s)), some (.d (.int n)), some (.d (.str p)), o]) mono_name _ (fun done x ys ρ he hI => ?_) (fun ρ hI => ?_) _ ⟨n, "", none, by rw [sg_nil]; exact .nil, by rw [sg_nil]; simp, rfl⟩
    · obtain ⟨n, p, o, hu, hl, rfl⟩ := hI
      have hs1 := hs.up
      have hs2 := hs.len
      rw [he] at hs1 hs2
      rw [List.length_append, List.length_cons] at hs2
      have hlt : ∀ c ∈ done, c < x := fun c hc => (List.pairwise_append.mp hs1).2.2 c hc x List.mem_cons_self
      have l9 : (sg p).length ≤ done.length := (up_nodup hu).length_le_of_subset (l₂ := done) hl
      simp only [w_L_product_t1, w_L_product_t2, w_L_product_b1_t1, w_L_product_b1, wSeq, wSet, wAsg, wC, wIfS, wB, wOp, oI, oI0, asI, asS, asL, asLT, asT, asB, asA_some, asA_none, asO, asOL, asOD, asKey, asDic, asSq, oLen, oMod, oAdd, oSub, oMul, oDiv, oMax, oMin, oPlus, oEqX, oNeX, eqX_int, eqX_str, eqX_bl, oCmp, oLtX, oLeX, oGtX, oGeX, oIxX, oInX, wCB, wCons, wNil, wVar, wMove, nth, put, startR, wNext, wRet, wRetN, wDrop, wFor, wiR1, wiR2, wiX, itemsOf, wgName, wgTup, wgCons, wgNil, wLend, wLendT, seeR_cons, seeR_nil, seeO_d, seeO_none, seeO_ol, seeO_od, wJoin, wM, oAppend, oPop, oPopAt, wDPut, wDPop, wSortK, wDict0, wTup, wLst, wCall, wAnd, wOr, wNot, wAndV, wOrV, wNotV, wIf, wYes, wLc, wiEnumX, oListX, oTuple, oSort, oSortSet, oAll, oAny, S.fz, S.own, D.flat, txts_map, bools_map, txtKeys_map, List.length_map, List.map_cons, List.map_nil, List.length_cons, List.length_nil, List.cons_append, List.nil_append, List.replicate, decide_eq_true_eq, Bool.not_eq_true', Bool.not_true, Bool.not_false, if_true, if_false, Nat.zero_add, Nat.reduceAdd, Nat.reduceSub, ge_iff_le, true_and, and_true, zip_unzip, Bool.false_xor, Bool.true_xor, Bool.false_eq_true, Bool.true_eq_false, reduceIte, wipeR, dataR_cons, dataR_nil, dataO_d, dataO_none, dataO_ol, dataO_od, oDict, oIsi, tyD, isiB, wSl, wPart, wNoP, oSl, wDisp1, wDGet2, oRemove, atI_0, atI_1, atI_2, wiRev, revItems, oDictP, wForK, wiKeys, kD, oSortX, oPow, oBitAnd, oShl, oNeg, wUn, oInt, oStr, oDivmod, oIs, isD, wChain, wFz, wFzE, frzR, wLSet, wiZip, seqsD, wiVals, wiItems, wOIx, wNo, Option.isSome_some, oMulX, wM1, oSplit, oPart, oStrip1, oRep, oSum, intsD, wRaise, wLI, wLK
, wiR3, wLR, wDisp, wPairs, oReverse, oClear, oInsert, wRevL, wDZ, seqLT, oSortIT, Function.comp]
      have h1 : CDiv n 2 := ⟨by decide, by decide⟩
      refine ⟨by decide, ?_⟩
      split
      · refine ⟨?_, h1, _, _, _, ?_, ?_, rfl⟩
        · rw [sg_len, sg_len, sg_one, len0]; simp only [List.length_singleton]; omega
        · rw [sg_append, sg_one, List.pairwise_append]
          exact ⟨hu, by simp, fun a ha b hb => by simp at hb; subst hb; exact hlt a (hl a ha)⟩
        · intro c hc
          rw [sg_append, sg_one] at hc
          rcases List.mem_append.mp hc with z | z
          · exact List.mem_append.mpr (.inl (hl c z))
          · exact List.mem_append.mpr (.inr z)
      · exact ⟨h1, _, _, _, hu, fun c hc => List.mem_append.mpr (.inl (hl c hc)), rfl⟩
    · obtain ⟨n, p, o, hu, hl, rfl⟩ := hI
      simp only [w_L_product_t1, w_L_product_t2, w_L_product_b1_t1, w_L_product_b1, wSeq, wSet, wAsg, wC, wIfS, wB, wOp, oI, oI0, asI, asS, asL, asLT, asT, asB, asA_some, asA_none, asO, asOL, asOD, asKey, asDic, asSq, oLen, oMod, oAdd, oSub, oMul, oDiv, oMax, oMin, oPlus, oEqX, oNeX, eqX_int, eqX_str, eqX_bl, oCmp, oLtX, oLeX, oGtX, oGeX, oIxX, oInX, wCB, wCons, wNil, wVar, wMove, nth, put, startR, wNext, wRet, wRetN, wDrop, wFor, wiR1, wiR2, wiX, itemsOf, wgName, wgTup, wgCons, wgNil, wLend, wLendT, seeR_cons, seeR_nil, seeO_d, seeO_none, seeO_ol, seeO_od, wJoin, wM, oAppend, oPop, oPopAt, wDPut, wDPop, wSortK, wDict0, wTup, wLst, wCall, wAnd, wOr, wNot, wAndV, wOrV, wNotV, wIf, wYes, wLc, wiEnumX, oListX, oTuple, oSort, oSortSet, oAll, oAny, S.fz, S.own, D.flat, txts_map, bools_map, txtKeys_map, List.length_map, List.map_cons, List.map_nil, List.length_cons, List.length_nil, List.cons_append, List.nil_append, List.replicate, decide_eq_true_eq, Bool.not_eq_true', Bool.not_true, Bool.not_false, if_true, if_false, Nat.zero_add, Nat.reduceAdd, Nat.reduceSub, ge_iff_le, true_and, and_true, zip_unzip, Bool.false_xor, Bool.true_xor, Bool.false_eq_true, Bool.true_eq_false, reduceIte, wipeR, dataR_cons, dataR_nil, dataO_d, dataO_none, dataO_ol, dataO_od, oDict, oIsi, tyD, isiB, wSl, wPart, wNoP, oSl, wDisp1, wDGet2, oRemove, atI_0, atI_1, atI_2, wiRev, revItems, oDictP, wForK, wiKeys, kD, oSortX, oPow, oBitAnd, oShl, oNeg, wUn, oInt, oStr, oDivmod, oIs, isD, wChain, wFz, wFzE, frzR, wLSet, wiZip, seqsD, wiVals, wiItems, wOIx, wNo, Option.isSome_some, oMulX, wM1, oSplit, oPart, oStrip1, oRep, oSum, intsD, wRaise, wLI, wLK
, wiR3, wLR, wDisp, wPairs, oReverse, oClear, oInsert, wRevL, wDZ, seqLT, oSortIT]
      exact hq p ⟨hu, fun c hc => hs.le c (hl c hc)⟩ hl
  · exact h.elim
/-- texts picked -/
theorem picks_strs {α : Type} {g : α → Option D → Prop} {T : Str → Prop} (hg : ∀ x o, g x o → (∃ p, o = some (.str p) ∧ T p) ∨ o = none) : ∀ {items : List α} {r : List D}, Picks g items r → ∃ l : List Str, r = l.map .str ∧ l.length ≤ items.length ∧ ∀ p ∈ l, T p
  | [], r, h => ⟨[], h, Nat.le_refl _, by simp⟩
  | x :: xs, r, h => by
    obtain ⟨o, r', h1, h2, e⟩ := h
    obtain ⟨l, e2, h3, h4⟩ := picks_strs hg h2
    rcases hg x o h1 with ⟨p, rfl, hp⟩ | rfl
    · exact ⟨p :: l, by rw [e, e2]; rfl, by simp only [List.length_cons]; omega, fun q hq => (List.mem_cons.mp hq).elim (fun z => z ▸ hp) (h4 q)⟩
    · exact ⟨l, by rw [e, e2], by simp only [List.length_cons]; omega, h4⟩
/-- enumerate of texts -/
def enumP : Nat → List Str → List (Nat × Str)
  | _, [] => []
  | i, x :: xs => (i, x) :: enumP (i + 1) xs
theorem enumD_map : ∀ (l : List Str) (i : Nat), enumD i (l.map .str) = (enumP i l).map fun x => D.tup [.int x.1, .str x.2]
  | [], _ => rfl
  | x :: xs, i => by rw [List.map_cons, enumD, enumD_map xs (i + 1)]; rfl
theorem enumP_bound : ∀ {l : List Str} {i : Nat} {x : Nat × Str}, x ∈ enumP i l → x.1 < i + l.length
  | y :: ys, i, x, h => by
    rcases List.mem_cons.mp h with e | h
    · subst e; simp only [List.length_cons]; omega
    · have := enumP_bound h
      simp only [List.length_cons]; omega
theorem enumP_lt {l : List Str} {x : Nat × Str} (h : x ∈ enumP 0 l) : x.1 < l.length := by have := enumP_bound h; omega
/-- a picked part -/
theorem picks_sub : ∀ {l : List Str} {i : Nat} {r : List D}, Picks (fun (x : Nat × Str) o => o = some (.str x.2) ∨ o = none) (enumP i l) r → ∃ l' : List Str, r = l'.map .str ∧ l'.Sublist l
  | [], _, r, h => ⟨[], h, .slnil⟩
  | x :: xs, i, r, h => by
    obtain ⟨o, r', h1, h2, e⟩ := h
    obtain ⟨l', e2, h3⟩ := picks_sub h2
    rcases h1 with rfl | rfl
    · exact ⟨x :: l', by rw [e, e2]; rfl, h3.cons₂ x⟩
    · exact ⟨l', by rw [e, e2], h3.cons x⟩
/-! ### _law_form -/
def Over (s : Str) (f : List Str) : Prop := ∀ p ∈ f, ∀ c ∈ sg p, c ∈ sg s
def sp_L_form : DSp := fun ds P _ => match ds with
  | [.cel ns, .int k, .str s] => (ns.length ≤ 63 ∧ 0 ≤ k ∧ k ≤ 100000 ∧ Prd s) ∧ ∀ f : List Str, Frm f → Over s f → P (.d (fD f))
  | _ => False
abbrev N_L_form : List Str := ["_law_script", "_law_at", "_law_letters_here", "_law_number", "_law_products", "_law_letter", "_law_product_here", "_law_k", "_law_each", "_law_many"]
def w_L_form_t5 : WS := (wRet (wCB oTuple (wCons (wCB oSortSet (wCons (wVar 4) wNil)) wNil)))
def w_L_form_t4 : WS := wSeq (wAsg (wLc (wiR1 (wCons (wVar 9) wNil)) (wgName 7) wYes (wCall sp_L_product (fun _ _ => False) (wCons (wVar 2) (wCons (wOp oDiv (wCall sp_L_mixed (fun _ _ => False) (wCons (wVar 0) (wCons (wOp oPlus (wOp oPlus (wVar 1) (wC (.int 1))) (wVar 7)) wNil))) (wC (.int 5))) wNil))) [7]) (wgName 4))
    w_L_form_t5
def w_L_form_t3 : WS := wSeq (wIfS (wB (wOp oEqX (wOp oMod (wOp oDiv (wVar 3) (wC (.int 7))) (wC (.int 6))) (wC (.int 1)))) (wAsg (wOp oPlus (wC (.int 5)) (wOp oMod (wOp oDiv (wVar 3) (wC (.int 42))) (wC (.int 30)))) (wgName 9)) wNext)
    w_L_form_t4
def w_L_form_t2 : WS := wSeq (wAsg (wOp oMod (wVar 3) (wC (.int 7))) (wgName 9))
    w_L_form_t3
def w_L_form_t1 : WS := wSeq (wIfS (wAnd (wB (wOp oEqX (wOp oMod (wOp oDiv (wVar 3) (wC (.int 7))) (wC (.int 6))) (wC (.int 2)))) (wB (wOp oLtX (wCB oLen (wCons (wVar 2) wNil)) (wC (.int 7))))) (wSeq (wAsg (wLst (wCons (wC (.str "")) wNil)) (wgName 4))
    (wSeq (wFor (wiX (wVar 2)) (wgName 5)
      (wAsg (wOp oPlus (wVar 4) (wLc (wiX (wVar 4)) (wgName 6) wYes (wOp oPlus (wVar 6) (wVar 5)) [6])) (wgName 4)))
    (wRet (wCB oTuple (wCons (wCB oSortX (wCons (wLc (wiEnumX (wCons (wVar 4) wNil)) (wgTup 2 (wgCons (wgName 7) (wgCons (wgName 8) wgNil))) (wB (wOp oEqX (wOp oMod (wCall sp_L_mixed (fun _ _ => False) (wCons (wVar 0) (wCons (wOp oPlus (wOp oPlus (wVar 1) (wC (.int 40))) (wVar 7)) wNil))) (wC (.int 2))) (wC (.int 1)))) (wVar 8) [7, 8]) wNil)) wNil))))) wNext)
    w_L_form_t2
def w_L_form : WS := wSeq (wAsg (wCall sp_L_mixed (fun _ _ => False) (wCons (wVar 0) (wCons (wVar 1) wNil))) (wgName 3))
    w_L_form_t1
theorem len_L_form {ds Q px} (h : sp_L_form ds Q px) : ds.length = 3 := by unfold sp_L_form at h; split at h <;> first | rfl | exact h.elim
theorem rd_L_form {ds Q px} (h : sp_L_form ds Q px) : w_L_form ⟨fun _ => Q (.d .non), Q, fun _ => False, fun _ => False⟩ (startR N_L_form ds) := by
  unfold sp_L_form at h
  split at h
  · rename_i ns k s
    obtain ⟨⟨h1, h2, h3, hs⟩, hq⟩ := h
    have tail4 : ∀ z m : Int, 0 ≤ m → m ≤ 40 → w_L_form_t4 ⟨fun _ => Q (.d .non), Q, fun _ => False, fun _ => False⟩ [some (.d (.cel ns)), some (.d (.int k)), some (.d (.str s)), some (.d (.int z)), none, none, none, none, none, some (.d (.int m))] := fun z m m0 m1 => by
      simp only [w_L_form_t4, w_L_form_t5, wSeq, wSet, wAsg, wC, wIfS, wB, wOp, oI, oI0, asI, asS, asL, asLT, asT, asB, asA_some, asA_none, asO, asOL, asOD, asKey, asDic, asSq, oLen, oMod, oAdd, oSub, oMul, oDiv, oMax, oMin, oPlus, oEqX, oNeX, eqX_int, eqX_str, eqX_bl, oCmp, oLtX, oLeX, oGtX, oGeX, oIxX, oInX, wCB, wCons, wNil, wVar, wMove, nth, put, startR, wNext, wRet, wRetN, wDrop, wFor, wiR1, wiR2, wiX, itemsOf, wgName, wgTup, wgCons, wgNil, wLend, wLendT, seeR_cons, seeR_nil, seeO_d, seeO_none, seeO_ol, seeO_od, wJoin, wM, oAppend, oPop, oPopAt, wDPut, wDPop, wSortK, wDict0, wTup, wLst, wCall, wAnd, wOr, wNot, wAndV, wOrV, wNotV, wIf, wYes, wLc, wiEnumX, oListX, oTuple, oSort, oSortSet, oAll, oAny, S.fz, S.own, D.flat, txts_map, bools_map, txtKeys_map, List.length_map, List.map_cons, List.map_nil, List.length_cons, List.length_nil, List.cons_append, List.nil_append, List.replicate, decide_eq_true_eq, Bool.not_eq_true', Bool.not_true, Bool.not_false, if_true, if_false, Nat.zero_add, Nat.reduceAdd, Nat.reduceSub, ge_iff_le, true_and, and_true, zip_unzip, Bool.false_xor, Bool.true_xor, Bool.false_eq_true, Bool.true_eq_false, reduceIte, wipeR, dataR_cons, dataR_nil, dataO_d, dataO_none, dataO_ol, dataO_od, oDict, oIsi, tyD, isiB, wSl, wPart, wNoP, oSl, wDisp1, wDGet2, oRemove, atI_0, atI_1, atI_2, wiRev, revItems, oDictP, wForK, wiKeys, kD, oSortX, oPow, oBitAnd, oShl, oNeg, wUn, oInt, oStr, oDivmod, oIs, isD, wChain, wFz, wFzE, frzR, wLSet, wiZip, seqsD, wiVals, wiItems, wOIx, wNo, Option.isSome_some, oMulX, wM1, oSplit, oPart, oStrip1, oRep, oSum, intsD, wRaise, wLI, wLK
, wiR3, wLR, wDisp, wPairs, oReverse, oClear, oInsert, wRevL, wDZ, seqLT, oSortIT]
      rw [rangeD_map]
      refine ⟨⟨by omega, by omega⟩, by rw [List.length_map, List.length_range, len0]; omega, ?_⟩
      refine compD_picks (g := fun (_ : Nat) o => ∃ p, o = some (.str p) ∧ Prd p ∧ ∀ c ∈ sg p, c ∈ sg s) _ _ (fun x hx Q' hQ => ?_) fun r hr => ?_
      · have hx' : x < m.toNat := List.mem_range.mp hx
        simp only [wSeq, wSet, wAsg, wC, wIfS, wB, wOp, oI, oI0, asI, asS, asL, asLT, asT, asB, asA_some, asA_none, asO, asOL, asOD, asKey, asDic, asSq, oLen, oMod, oAdd, oSub, oMul, oDiv, oMax, oMin, oPlus, oEqX, oNeX, eqX_int, eqX_str, eqX_bl, oCmp, oLtX, oLeX, oGtX, oGeX, oIxX, oInX, wCB, wCons, wNil, wVar, wMove, nth, put, startR, wNext, wRet, wRetN, wDrop, wFor, wiR1, wiR2, wiX, itemsOf, wgName, wgTup, wgCons, wgNil, wLend, wLendT, seeR_cons, seeR_nil, seeO_d, seeO_none, seeO_ol, seeO_od, wJoin, wM, oAppend, oPop, oPopAt, wDPut, wDPop, wSortK, wDict0, wTup, wLst, wCall, wAnd, wOr, wNot, wAndV, wOrV, wNotV, wIf, wYes, wLc, wiEnumX, oListX, oTuple, oSort, oSortSet, oAll, oAny, S.fz, S.own, D.flat, txts_map, bools_map, txtKeys_map, List.length_map, List.map_cons, List.map_nil, List.length_cons, List.length_nil, List.cons_append, List.nil_append, List.replicate, decide_eq_true_eq, Bool.not_eq_true', Bool.not_true, Bool.not_false, if_true, if_false, Nat.zero_add, Nat.reduceAdd, Nat.reduceSub, ge_iff_le, true_and, and_true, zip_unzip, Bool.false_xor, Bool.true_xor, Bool.false_eq_true, Bool.true_eq_false, reduceIte, wipeR, dataR_cons, dataR_nil, dataO_d, dataO_none, dataO_ol, dataO_od, oDict, oIsi, tyD, isiB, wSl, wPart, wNoP, oSl, wDisp1, wDGet2, oRemove, atI_0, atI_1, atI_2, wiRev, revItems, oDictP, wForK, wiKeys, kD, oSortX, oPow, oBitAnd, oShl, oNeg, wUn, oInt, oStr, oDivmod, oIs, isD, wChain, wFz, wFzE, frzR, wLSet, wiZip, seqsD, wiVals, wiItems, wOIx, wNo, Option.isSome_some, oMulX, wM1, oSplit, oPart, oStrip1, oRep, oSum, intsD, wRaise, wLI, wLK
, wiR3, wLR, wDisp, wPairs, oReverse, oClear, oInsert, wRevL, wDZ, seqLT, oSortIT, sp_L_product, sp_L_mixed]
        exact ⟨⟨h1, by omega, by omega⟩, fun z' _ _ => ⟨⟨by decide, by decide⟩, hs, fun p hp hpo => hQ _ ⟨p, rfl, hp, hpo⟩⟩⟩
      · obtain ⟨l, rfl, hl, hp⟩ := picks_strs (T := fun p => Prd p ∧ ∀ c ∈ sg p, c ∈ sg s) (fun x o h => by obtain ⟨p, e, h⟩ := h; exact .inl ⟨p, e, h⟩) hr
        rw [txts_map, asA_some]
        rw [List.length_range] at hl
        exact ⟨by show _ < 4096; omega, hq _ ⟨srt_pw _, nodup_srtset l, fun p h => (hp p (mem_srtset.mp h)).1⟩ fun p h => (hp p (mem_srtset.mp h)).2⟩
    have tail2 : ∀ z : Int, 0 ≤ z → w_L_form_t2 ⟨fun _ => Q (.d .non), Q, fun _ => False, fun _ => False⟩ [some (.d (.cel ns)), some (.d (.int k)), some (.d (.str s)), some (.d (.int z)), none, none, none, none, none, none] := fun z z0 => by
      simp only [w_L_form_t2, w_L_form_t3, wSeq, wSet, wAsg, wC, wIfS, wB, wOp, oI, oI0, asI, asS, asL, asLT, asT, asB, asA_some, asA_none, asO, asOL, asOD, asKey, asDic, asSq, oLen, oMod, oAdd, oSub, oMul, oDiv, oMax, oMin, oPlus, oEqX, oNeX, eqX_int, eqX_str, eqX_bl, oCmp, oLtX, oLeX, oGtX, oGeX, oIxX, oInX, wCB, wCons, wNil, wVar, wMove, nth, put, startR, wNext, wRet, wRetN, wDrop, wFor, wiR1, wiR2, wiX, itemsOf, wgName, wgTup, wgCons, wgNil, wLend, wLendT, seeR_cons, seeR_nil, seeO_d, seeO_none, seeO_ol, seeO_od, wJoin, wM, oAppend, oPop, oPopAt, wDPut, wDPop, wSortK, wDict0, wTup, wLst, wCall, wAnd, wOr, wNot, wAndV, wOrV, wNotV, wIf, wYes, wLc, wiEnumX, oListX, oTuple, oSort, oSortSet, oAll, oAny, S.fz, S.own, D.flat, txts_map, bools_map, txtKeys_map, List.length_map, List.map_cons, List.map_nil, List.length_cons, List.length_nil, List.cons_append, List.nil_append, List.replicate, decide_eq_true_eq, Bool.not_eq_true', Bool.not_true, Bool.not_false, if_true, if_false, Nat.zero_add, Nat.reduceAdd, Nat.reduceSub, ge_iff_le, true_and, and_true, zip_unzip, Bool.false_xor, Bool.true_xor, Bool.false_eq_true, Bool.true_eq_false, reduceIte, wipeR, dataR_cons, dataR_nil, dataO_d, dataO_none, dataO_ol, dataO_od, oDict, oIsi, tyD, isiB, wSl, wPart, wNoP, oSl, wDisp1, wDGet2, oRemove, atI_0, atI_1, atI_2, wiRev, revItems, oDictP, wForK, wiKeys, kD, oSortX, oPow, oBitAnd, oShl, oNeg, wUn, oInt, oStr, oDivmod, oIs, isD, wChain, wFz, wFzE, frzR, wLSet, wiZip, seqsD, wiVals, wiItems, wOIx, wNo, Option.isSome_some, oMulX, wM1, oSplit, oPart, oStrip1, oRep, oSum, intsD, wRaise, wLI, wLK
, wiR3, wLR, wDisp, wPairs, oReverse, oClear, oInsert, wRevL, wDZ, seqLT, oSortIT]
      refine ⟨by decide, ⟨by decide, by decide⟩, by decide, ?_⟩
      split
      · refine ⟨⟨by decide, by decide⟩, by decide, tail4 _ _ ?_ ?_⟩
        · have := Int.emod_nonneg (z / 42) (show (30 : Int) ≠ 0 by decide); omega
        · have := Int.emod_lt_of_pos (z / 42) (show (0 : Int) < 30 by decide); omega
      · refine tail4 _ _ ?_ ?_
        · exact Int.emod_nonneg z (by decide)
        · have := Int.emod_lt_of_pos z (show (0 : Int) < 7 by decide); omega
    unfold w_L_form
    simp only [N_L_form, w_L_form_t1, wSeq, wSet, wAsg, wC, wIfS, wB, wOp, oI, oI0, asI, asS, asL, asLT, asT, asB, asA_some, asA_none, asO, asOL, asOD, asKey, asDic, asSq, oLen, oMod, oAdd, oSub, oMul, oDiv, oMax, oMin, oPlus, oEqX, oNeX, eqX_int, eqX_str, eqX_bl, oCmp, oLtX, oLeX, oGtX, oGeX, oIxX, oInX, wCB, wCons, wNil, wVar, wMove, nth, put, startR, wNext, wRet, wRetN, wDrop, wFor, wiR1, wiR2, wiX, itemsOf, wgName, wgTup, wgCons, wgNil, wLend, wLendT, seeR_cons, seeR_nil, seeO_d, seeO_none, seeO_ol, seeO_od, wJoin, wM, oAppend, oPop, oPopAt, wDPut, wDPop, wSortK, wDict0, wTup, wLst, wCall, wAnd, wOr, wNot, wAndV, wOrV, wNotV, wIf, wYes, wLc, wiEnumX, oListX, oTuple, oSort, oSortSet, oAll, oAny, S.fz, S.own, D.flat, txts_map, bools_map, txtKeys_map, List.length_map, List.map_cons, List.map_nil, List.length_cons, List.length_nil, List.cons_append, List.nil_append, List.replicate, decide_eq_true_eq, Bool.not_eq_true', Bool.not_true, Bool.not_false, if_true, if_false, Nat.zero_add, Nat.reduceAdd, Nat.reduceSub, ge_iff_le, true_and, and_true, zip_unzip, Bool.false_xor, Bool.true_xor, Bool.false_eq_true, Bool.true_eq_false, reduceIte, wipeR, dataR_cons, dataR_nil, dataO_d, dataO_none, dataO_ol, dataO_od, oDict, oIsi, tyD, isiB, wSl, wPart, wNoP, oSl, wDisp1, wDGet2, oRemove, atI_0, atI_1, atI_2, wiRev, revItems, oDictP, wForK, wiKeys, kD, oSortX, oPow, oBitAnd, oShl, oNeg, wUn, oInt, oStr, oDivmod, oIs, isD, wChain, wFz, wFzE, frzR, wLSet, wiZip, seqsD, wiVals, wiItems, wOIx, wNo, Option.isSome_some, oMulX, wM1, oSplit, oPart, oStrip1, oRep, oSum, intsD, wRaise, wLI, wLK
, wiR3, wLR, wDisp, wPairs, oReverse, oClear, oInsert, wRevL, wDZ, seqLT, oSortIT, sp_L_mixed]
    refine ⟨⟨h1, h2, by omega⟩, fun z z0 z1 => ⟨⟨by decide, by decide⟩, by decide, ?_⟩⟩
    by_cases c1 : z / 7 % 6 = 2
    · rw [if_pos c1]
      refine ⟨by rw [sg_len, len0]; have := hs.len; omega, ?_⟩
      by_cases c2 : (s.length : Int) < 7
      · rw [if_pos c2]
        refine ⟨by decide, ?_⟩
        rw [signs_eq, List.map_map]
        rw [sg_len] at c2
        refine forD_map (I := fun done _ ρ => ∃ (l : List Str) (o5 : Option S), l.Nodup ∧ l.length = 2 ^ done.length ∧ (∀ p ∈ l, (sg p).Pairwise (· < ·) ∧ ∀ c ∈ sg p, c ∈ done) ∧
          ρ = [some (.d (.cel ns)), some (.d (.int k)), some (.d (.str s)), some (.d (.int z)), some (.d (.lst (l.map .str))), o5, none, none, none, none]) mono_name _ (fun done x ys ρ he hI => ?_) (fun ρ hI => ?_) _
          ⟨[""], none, by simp, rfl, fun p hp => by simp at hp; subst hp; rw [sg_nil]; exact ⟨.nil, by simp⟩, rfl⟩
        · obtain ⟨l, o5, hn, hl, hp, rfl⟩ := hI
          have hs1 := hs.up
          have hs2 := hs.len
          rw [he] at hs1 hs2 c2
          simp only [List.length_append, List.length_cons] at hs2 c2
          have hlt : ∀ c ∈ done, c < x := fun c hc => (List.pairwise_append.mp hs1).2.2 c hc x List.mem_cons_self
          have hpow : 2 ^ done.length ≤ 64 := Nat.pow_le_pow_right (n := 2) (by decide) (show done.length ≤ 6 by omega)
          have p9 : ∀ p ∈ l, (sg p).length ≤ 9 := fun p h => by
            have := (up_nodup (hp p h).1).length_le_of_subset (l₂ := done) (hp p h).2
            omega
          simp only [wSeq, wSet, wAsg, wC, wIfS, wB, wOp, oI, oI0, asI, asS, asL, asLT, asT, asB, asA_some, asA_none, asO, asOL, asOD, asKey, asDic, asSq, oLen, oMod, oAdd, oSub, oMul, oDiv, oMax, oMin, oPlus, oEqX, oNeX, eqX_int, eqX_str, eqX_bl, oCmp, oLtX, oLeX, oGtX, oGeX, oIxX, oInX, wCB, wCons, wNil, wVar, wMove, nth, put, startR, wNext, wRet, wRetN, wDrop, wFor, wiR1, wiR2, wiX, itemsOf, wgName, wgTup, wgCons, wgNil, wLend, wLendT, seeR_cons, seeR_nil, seeO_d, seeO_none, seeO_ol, seeO_od, wJoin, wM, oAppend, oPop, oPopAt, wDPut, wDPop, wSortK, wDict0, wTup, wLst, wCall, wAnd, wOr, wNot, wAndV, wOrV, wNotV, wIf, wYes, wLc, wiEnumX, oListX, oTuple, oSort, oSortSet, oAll, oAny, S.fz, S.own, D.flat, txts_map, bools_map, txtKeys_map, List.length_map, List.map_cons, List.map_nil, List.length_cons, List.length_nil, List.cons_append, List.nil_append, List.replicate, decide_eq_true_eq, Bool.not_eq_true', Bool.not_true, Bool.not_false, if_true, if_false, Nat.zero_add, Nat.reduceAdd, Nat.reduceSub, ge_iff_le, true_and, and_true, zip_unzip, Bool.false_xor, Bool.true_xor, Bool.false_eq_true, Bool.true_eq_false, reduceIte, wipeR, dataR_cons, dataR_nil, dataO_d, dataO_none, dataO_ol, dataO_od, oDict, oIsi, tyD, isiB, wSl, wPart, wNoP, oSl, wDisp1, wDGet2, oRemove, atI_0, atI_1, atI_2, wiRev, revItems, oDictP, wForK, wiKeys, kD, oSortX, oPow, oBitAnd, oShl, oNeg, wUn, oInt, oStr, oDivmod, oIs, isD, wChain, wFz, wFzE, frzR, wLSet, wiZip, seqsD, wiVals, wiItems, wOIx, wNo, Option.isSome_some, oMulX, wM1, oSplit, oPart, oStrip1, oRep, oSum, intsD, wRaise, wLI, wLK
, wiR3, wLR, wDisp, wPairs, oReverse, oClear, oInsert, wRevL, wDZ, seqLT, oSortIT, Function.comp]
          refine ⟨by rw [len0]; omega, ?_⟩
          refine compD_map mono_name (fun p => some (.str (p ++ one x))) _ _ (fun p h Q' hQ => ?_) ?_
          · simp only [wSeq, wSet, wAsg, wC, wIfS, wB, wOp, oI, oI0, asI, asS, asL, asLT, asT, asB, asA_some, asA_none, asO, asOL, asOD, asKey, asDic, asSq, oLen, oMod, oAdd, oSub, oMul, oDiv, oMax, oMin, oPlus, oEqX, oNeX, eqX_int, eqX_str, eqX_bl, oCmp, oLtX, oLeX, oGtX, oGeX, oIxX, oInX, wCB, wCons, wNil, wVar, wMove, nth, put, startR, wNext, wRet, wRetN, wDrop, wFor, wiR1, wiR2, wiX, itemsOf, wgName, wgTup, wgCons, wgNil, wLend, wLendT, seeR_cons, seeR_nil, seeO_d, seeO_none, seeO_ol, seeO_od, wJoin, wM, oAppend, oPop, oPopAt, wDPut, wDPop, wSortK, wDict0, wTup, wLst, wCall, wAnd, wOr, wNot, wAndV, wOrV, wNotV, wIf, wYes, wLc, wiEnumX, oListX, oTuple, oSort, oSortSet, oAll, oAny, S.fz, S.own, D.flat, txts_map, bools_map, txtKeys_map, List.length_map, List.map_cons, List.map_nil, List.length_cons, List.length_nil, List.cons_append, List.nil_append, List.replicate, decide_eq_true_eq, Bool.not_eq_true', Bool.not_true, Bool.not_false, if_true, if_false, Nat.zero_add, Nat.reduceAdd, Nat.reduceSub, ge_iff_le, true_and, and_true, zip_unzip, Bool.false_xor, Bool.true_xor, Bool.false_eq_true, Bool.true_eq_false, reduceIte, wipeR, dataR_cons, dataR_nil, dataO_d, dataO_none, dataO_ol, dataO_od, oDict, oIsi, tyD, isiB, wSl, wPart, wNoP, oSl, wDisp1, wDGet2, oRemove, atI_0, atI_1, atI_2, wiRev, revItems, oDictP, wForK, wiKeys, kD, oSortX, oPow, oBitAnd, oShl, oNeg, wUn, oInt, oStr, oDivmod, oIs, isD, wChain, wFz, wFzE, frzR, wLSet, wiZip, seqsD, wiVals, wiItems, wOIx, wNo, Option.isSome_some, oMulX, wM1, oSplit, oPart, oStrip1, oRep, oSum, intsD, wRaise, wLI, wLK
, wiR3, wLR, wDisp, wPairs, oReverse, oClear, oInsert, wRevL, wDZ, seqLT, oSortIT]
            exact ⟨by have := p9 p h; rw [sg_len, sg_len, sg_one, len0]; simp only [List.length_singleton]; omega, hQ⟩
          · have e : l.filterMap (fun p => some (D.str (p ++ one x))) = (l.map (· ++ one x)).map .str := by
              rw [List.map_map, ← List.filterMap_eq_map]; rfl
            rw [e, ← List.map_append, List.length_map, List.length_map]
            refine ⟨by rw [len0]; omega, l ++ l.map (· ++ one x), _, ?_, ?_, ?_, rfl⟩
            · rw [List.nodup_append]
              refine ⟨hn, ?_, ?_⟩
              · rw [List.nodup_iff_pairwise_ne, List.pairwise_map]
                refine (List.nodup_iff_pairwise_ne.mp hn).imp fun h e => h (sg_inj ?_)
                have := congrArg sg e
                rw [sg_append, sg_append] at this
                exact List.append_cancel_right this
              · intro a ha b hb e
                obtain ⟨p, _, rfl⟩ := List.mem_map.mp hb
                have h4 := (hp a ha).2 x (by rw [e, sg_append, sg_one]; simp)
                exact absurd (hlt x h4) (Nat.lt_irrefl _)
            · rw [List.length_append, List.length_map, hl, List.length_append, List.length_singleton, Nat.pow_succ]; omega
            · intro p h
              rcases List.mem_append.mp h with h | h
              · exact ⟨(hp p h).1, fun c hc => List.mem_append.mpr (.inl ((hp p h).2 c hc))⟩
              · obtain ⟨q, hq2, rfl⟩ := List.mem_map.mp h
                rw [sg_append, sg_one]
                refine ⟨List.pairwise_append.mpr ⟨(hp q hq2).1, by simp, fun a ha b hb => by simp at hb; subst hb; exact hlt a ((hp q hq2).2 a ha)⟩, fun c hc => ?_⟩
                rcases List.mem_append.mp hc with z | z
                · exact List.mem_append.mpr (.inl ((hp q hq2).2 c z))
                · exact List.mem_append.mpr (.inr z)
        · obtain ⟨l, o5, hn, hl, hp, rfl⟩ := hI
          have hpow : 2 ^ (sg s).length ≤ 64 := Nat.pow_le_pow_right (n := 2) (by decide) (show (sg s).length ≤ 6 by omega)
          simp only [wSeq, wSet, wAsg, wC, wIfS, wB, wOp, oI, oI0, asI, asS, asL, asLT, asT, asB, asA_some, asA_none, asO, asOL, asOD, asKey, asDic, asSq, oLen, oMod, oAdd, oSub, oMul, oDiv, oMax, oMin, oPlus, oEqX, oNeX, eqX_int, eqX_str, eqX_bl, oCmp, oLtX, oLeX, oGtX, oGeX, oIxX, oInX, wCB, wCons, wNil, wVar, wMove, nth, put, startR, wNext, wRet, wRetN, wDrop, wFor, wiR1, wiR2, wiX, itemsOf, wgName, wgTup, wgCons, wgNil, wLend, wLendT, seeR_cons, seeR_nil, seeO_d, seeO_none, seeO_ol, seeO_od, wJoin, wM, oAppend, oPop, oPopAt, wDPut, wDPop, wSortK, wDict0, wTup, wLst, wCall, wAnd, wOr, wNot, wAndV, wOrV, wNotV, wIf, wYes, wLc, wiEnumX, oListX, oTuple, oSort, oSortSet, oAll, oAny, S.fz, S.own, D.flat, txts_map, bools_map, txtKeys_map, List.length_map, List.map_cons, List.map_nil, List.length_cons, List.length_nil, List.cons_append, List.nil_append, List.replicate, decide_eq_true_eq, Bool.not_eq_true', Bool.not_true, Bool.not_false, if_true, if_false, Nat.zero_add, Nat.reduceAdd, Nat.reduceSub, ge_iff_le, true_and, and_true, zip_unzip, Bool.false_xor, Bool.true_xor, Bool.false_eq_true, Bool.true_eq_false, reduceIte, wipeR, dataR_cons, dataR_nil, dataO_d, dataO_none, dataO_ol, dataO_od, oDict, oIsi, tyD, isiB, wSl, wPart, wNoP, oSl, wDisp1, wDGet2, oRemove, atI_0, atI_1, atI_2, wiRev, revItems, oDictP, wForK, wiKeys, kD, oSortX, oPow, oBitAnd, oShl, oNeg, wUn, oInt, oStr, oDivmod, oIs, isD, wChain, wFz, wFzE, frzR, wLSet, wiZip, seqsD, wiVals, wiItems, wOIx, wNo, Option.isSome_some, oMulX, wM1, oSplit, oPart, oStrip1, oRep, oSum, intsD, wRaise, wLI, wLK
, wiR3, wLR, wDisp, wPairs, oReverse, oClear, oInsert, wRevL, wDZ, seqLT, oSortIT]
          rw [enumD_len, List.length_map]
          refine ⟨by rw [len0]; omega, ?_⟩
          rw [enumD_map]
          refine compD_picks (g := fun (x : Nat × Str) o => o = some (.str x.2) ∨ o = none) _ _ (fun x hx Q' hQ => ?_) fun r hr => ?_
          · have hx' : x.1 < l.length := enumP_lt hx
            simp only [wSeq, wSet, wAsg, wC, wIfS, wB, wOp, oI, oI0, asI, asS, asL, asLT, asT, asB, asA_some, asA_none, asO, asOL, asOD, asKey, asDic, asSq, oLen, oMod, oAdd, oSub, oMul, oDiv, oMax, oMin, oPlus, oEqX, oNeX, eqX_int, eqX_str, eqX_bl, oCmp, oLtX, oLeX, oGtX, oGeX, oIxX, oInX, wCB, wCons, wNil, wVar, wMove, nth, put, startR, wNext, wRet, wRetN, wDrop, wFor, wiR1, wiR2, wiX, itemsOf, wgName, wgTup, wgCons, wgNil, wLend, wLendT, seeR_cons, seeR_nil, seeO_d, seeO_none, seeO_ol, seeO_od, wJoin, wM, oAppend, oPop, oPopAt, wDPut, wDPop, wSortK, wDict0, wTup, wLst, wCall, wAnd, wOr, wNot, wAndV, wOrV, wNotV, wIf, wYes, wLc, wiEnumX, oListX, oTuple, oSort, oSortSet, oAll, oAny, S.fz, S.own, D.flat, txts_map, bools_map, txtKeys_map, List.length_map, List.map_cons, List.map_nil, List.length_cons, List.length_nil, List.cons_append, List.nil_append, List.replicate, decide_eq_true_eq, Bool.not_eq_true', Bool.not_true, Bool.not_false, if_true, if_false, Nat.zero_add, Nat.reduceAdd, Nat.reduceSub, ge_iff_le, true_and, and_true, zip_unzip, Bool.false_xor, Bool.true_xor, Bool.false_eq_true, Bool.true_eq_false, reduceIte, wipeR, dataR_cons, dataR_nil, dataO_d, dataO_none, dataO_ol, dataO_od, oDict, oIsi, tyD, isiB, wSl, wPart, wNoP, oSl, wDisp1, wDGet2, oRemove, atI_0, atI_1, atI_2, wiRev, revItems, oDictP, wForK, wiKeys, kD, oSortX, oPow, oBitAnd, oShl, oNeg, wUn, oInt, oStr, oDivmod, oIs, isD, wChain, wFz, wFzE, frzR, wLSet, wiZip, seqsD, wiVals, wiItems, wOIx, wNo, Option.isSome_some, oMulX, wM1, oSplit, oPart, oStrip1, oRep, oSum, intsD, wRaise, wLI, wLK
, wiR3, wLR, wDisp, wPairs, oReverse, oClear, oInsert, wRevL, wDZ, seqLT, oSortIT, sp_L_mixed]
            refine ⟨⟨h1, by omega, by omega⟩, fun z' _ _ => ⟨by decide, ?_⟩⟩
            split
            · exact hQ _ (.inl rfl)
            · exact hQ _ (.inr rfl)
          · obtain ⟨l', rfl, hl'⟩ := picks_sub hr
            rw [txts_map, asA_some]
            have hs3 : l'.length ≤ l.length := hl'.length_le
            exact ⟨by rw [len0]; omega, hq _ ⟨srt_pw _, (srt_perm _).nodup_iff.mpr (hl'.nodup hn), fun p h =>
              ⟨(hp p (hl'.subset ((srt_perm _).mem_iff.mp h))).1, fun c hc => hs.le c ((hp p (hl'.subset ((srt_perm _).mem_iff.mp h))).2 c hc)⟩⟩ fun p h => (hp p (hl'.subset ((srt_perm _).mem_iff.mp h))).2⟩
      · rw [if_neg c2]
        exact tail2 z z0
    · rw [if_neg c1]
      exact tail2 z z0
  · exact h.elim
end DL
/-! F11a: the laws' helpers _law_rows, _law_worth, _law_is_form. -/
namespace DL
open PySem L2
/-! ### rows of truths as data -/
abbrev Row := List (Nat × Bool)
def rowD (r : Row) : D := .dic (r.map fun p => .inr (one p.1)) (r.map fun p => .bl p.2)
def rowF (r : Row) : Nat → Bool := fun c => match r.find? fun p => decide (p.1 = c) with
  | some p => p.2
  | none => false
def rowK (r : Row) : List (Key × D) := r.map fun p => (.inr (one p.1), .bl p.2)
theorem rowK_zip (r : Row) : (r.map fun p => (.inr (one p.1) : Key)).zip (r.map fun p => D.bl p.2) = rowK r := by
  induction r with
  | nil => rfl
  | cons p r ih => rw [List.map_cons, List.map_cons, List.zip_cons_cons, ih]; rfl
theorem rowK_fst (r : Row) : (rowK r).map (·.1) = r.map fun p => .inr (one p.1) := by rw [rowK, List.map_map]; rfl
theorem rowK_snd (r : Row) : (rowK r).map (·.2) = r.map fun p => .bl p.2 := by rw [rowK, List.map_map]; rfl
theorem rowD_K (r : Row) : D.dic ((rowK r).map (·.1)) ((rowK r).map (·.2)) = rowD r := by rw [rowK_fst, rowK_snd]; rfl
theorem vget_row {r : Row} {c : Nat} (h : c ∈ r.map (·.1)) : vget (rowK r) (.inr (one c)) = some (.bl (rowF r c)) := by
  induction r with
  | nil => simp at h
  | cons p r ih =>
    unfold vget rowK at ih ⊢
    rw [List.map_cons, List.find?_cons]
    by_cases e : p.1 = c
    · subst e
      simp [rowF, List.find?_cons]
    · have e2 : decide ((Sum.inr (one p.1) : Key) = .inr (one c)) = false := decide_eq_false fun z => e (one_inj (Sum.inr.inj z))
      simp only [e2]
      have h' : c ∈ r.map (·.1) := by
        rcases List.mem_map.mp h with ⟨q, hq, rfl⟩
        rcases List.mem_cons.mp hq with rfl | hq
        · exact absurd rfl e
        · exact List.mem_map.mpr ⟨q, hq, rfl⟩
      rw [ih h']
      simp [rowF, List.find?_cons, e]
theorem vput_row {r : Row} {c : Nat} {b : Bool} (h : c ∉ r.map (·.1)) : vput (rowK r) (.inr (one c)) (.bl b) = rowK (r ++ [(c, b)]) := by
  unfold vput
  have : ((rowK r).any fun kv => decide (kv.1 = (.inr (one c) : Key))) = false := by
    rw [List.any_eq_false]
    intro kv hkv
    obtain ⟨q, hq, rfl⟩ := List.mem_map.mp hkv
    simp only [decide_eq_true_eq]
    exact fun z => h (List.mem_map.mpr ⟨q, hq, one_inj (Sum.inr.inj z)⟩)
  rw [this]
  simp [rowK]
theorem rowF_app_l {r : Row} {c x : Nat} {b : Bool} (h : c ∈ r.map (·.1)) : rowF (r ++ [(x, b)]) c = rowF r c := by
  unfold rowF
  rw [List.find?_append]
  have : (r.find? fun p => decide (p.1 = c)).isSome = true := by
    rw [List.find?_isSome]
    obtain ⟨p, hp, e⟩ := List.mem_map.mp h
    exact ⟨p, hp, decide_eq_true e⟩
  obtain ⟨p, hp⟩ := Option.isSome_iff_exists.mp this
  rw [hp]; rfl
theorem rowF_app_r {r : Row} {x : Nat} {b : Bool} (h : x ∉ r.map (·.1)) : rowF (r ++ [(x, b)]) x = b := by
  unfold rowF
  rw [List.find?_append]
  have : r.find? (fun p => decide (p.1 = x)) = none := by
    rw [List.find?_eq_none]
    intro p hp
    simp only [decide_eq_true_eq]
    exact fun e => h (List.mem_map.mpr ⟨p, hp, e⟩)
  rw [this]
  simp
/-! ### _law_rows -/
def sp_L_rows : DSp := fun ds P _ => match ds with
  | [.str s] => Prd s ∧ ∀ rows : List Row, (∀ r ∈ rows, r.map (·.1) = sg s) → rows.length ≤ 512 → (∀ v : Nat → Bool, ∃ r ∈ rows, ∀ c ∈ sg s, rowF r c = v c) → P (.d (.lst (rows.map rowD)))
  | _ => False
abbrev N_L_rows : List Str := ["_law_letters_here", "_law_rows_here", "_law_letter", "_law_more", "_law_row", "_law_truth", "_law_one"]
def w_L_rows_b1_t2 : WS := (wDrop (wM 3 oAppend (wCons (wVar 6) wNil)))
def w_L_rows_b1_t1 : WS := wSeq (wDPut 6 (wVar 2) (wVar 5))
    w_L_rows_b1_t2
def w_L_rows_b1 : WS := wSeq (wSet 6 (wCB oDict (wCons (wVar 4) wNil)))
    w_L_rows_b1_t1
def w_L_rows_b2_t2 : WS := (wAsg (wVar 3) (wgName 1))
def w_L_rows_b2_t1 : WS := wSeq (wFor (wiX (wVar 1)) (wgName 4)
      (wFor (wiX (wTup (wCons (wC (.bl false)) (wCons (wC (.bl true)) wNil)))) (wgName 5)
      w_L_rows_b1))
    w_L_rows_b2_t2
def w_L_rows_b2 : WS := wSeq (wSet 3 (wLst wNil))
    w_L_rows_b2_t1
def w_L_rows_t2 : WS := (wRet (wVar 1))
def w_L_rows_t1 : WS := wSeq (wFor (wiX (wVar 0)) (wgName 2)
      w_L_rows_b2)
    w_L_rows_t2
def w_L_rows : WS := wSeq (wAsg (wLst (wCons wDict0 wNil)) (wgName 1))
    w_L_rows_t1
theorem len_L_rows {ds Q px} (h : sp_L_rows ds Q px) : ds.length = 1 := by unfold sp_L_rows at h; split at h <;> first | rfl | exact h.elim
theorem rd_L_rows {ds Q px} (h : sp_L_rows ds Q px) : w_L_rows ⟨fun _ => Q (.d .non), Q, fun _ => False, fun _ => False⟩ (startR N_L_rows ds) := by
  unfold sp_L_rows at h
  split at h
  · rename_i s
    obtain ⟨hs, hq⟩ := h
    unfold w_L_rows
    simp only [N_L_rows, oDict, w_L_rows_t1, w_L_rows_t2, w_L_rows_b1_t2, w_L_rows_b1_t1, w_L_rows_b1, w_L_rows_b2_t2, w_L_rows_b2_t1, w_L_rows_b2, wSeq, wSet, wAsg, wC, wIfS, wB, wOp, oI, oI0, asI, asS, asL, asLT, asT, asB, asA_some, asA_none, asO, asOL, asOD, asKey, asDic, asSq, oLen, oMod, oAdd, oSub, oMul, oDiv, oMax, oMin, oPlus, oEqX, oNeX, eqX_int, eqX_str, eqX_bl, oCmp, oLtX, oLeX, oGtX, oGeX, oIxX, oInX, wCB, wCons, wNil, wVar, wMove, nth, put, startR, wNext, wRet, wRetN, wDrop, wFor, wiR1, wiR2, wiX, itemsOf, wgName, wgTup, wgCons, wgNil, wLend, wLendT, seeR_cons, seeR_nil, seeO_d, seeO_none, seeO_ol, seeO_od, wJoin, wM, oAppend, oPop, oPopAt, wDPut, wDPop, wSortK, wDict0, wTup, wLst, wCall, wAnd, wOr, wNot, wAndV, wOrV, wNotV, wIf, wYes, wLc, wiEnumX, oListX, oTuple, oSort, oSortSet, oAll, oAny, S.fz, S.own, D.flat, txts_map, bools_map, txtKeys_map, List.length_map, List.map_cons, List.map_nil, List.length_cons, List.length_nil, List.cons_append, List.nil_append, List.replicate, decide_eq_true_eq, Bool.not_eq_true', Bool.not_true, Bool.not_false, if_true, if_false, Nat.zero_add, Nat.reduceAdd, Nat.reduceSub, ge_iff_le, true_and, and_true, zip_unzip, Bool.false_xor, Bool.true_xor, Bool.false_eq_true, Bool.true_eq_false, reduceIte, wipeR, dataR_cons, dataR_nil, dataO_d, dataO_none, dataO_ol, dataO_od, oDict, oIsi, tyD, isiB, wSl, wPart, wNoP, oSl, wDisp1, wDGet2, oRemove, atI_0, atI_1, atI_2, wiRev, revItems, oDictP, wForK, wiKeys, kD, oSortX, oPow, oBitAnd, oShl, oNeg, wUn, oInt, oStr, oDivmod, oIs, isD, wChain, wFz, wFzE, frzR, wLSet, wiZip, seqsD, wiVals, wiItems, wOIx, wNo, Option.isSome_some, oMulX, wM1, oSplit, oPart, oStrip1, oRep, oSum, intsD, wRaise, wLI, wLK
, wiR3, wLR, wDisp, wPairs, oReverse, oClear, oInsert, wRevL, wDZ, seqLT, oSortIT]
    refine ⟨by decide, ?_⟩
    rw [signs_eq, List.map_map]
    refine forD_map (I := fun done _ ρ => ∃ (rows : List Row) (o2 o3 o4 o5 o6 : Option S), (∀ r ∈ rows, r.map (·.1) = done) ∧ rows.length = 2 ^ done.length ∧ (∀ v : Nat → Bool, ∃ r ∈ rows, ∀ c ∈ done, rowF r c = v c) ∧ ρ = [some (.d (.str s)), some (.d (.lst (rows.map rowD))), o2, o3, o4, o5, o6]) mono_name _ (fun done x ys ρ he hI => ?_) (fun ρ hI => ?_) _
      ⟨[[]], none, none, none, none, none, fun r hr => by simp at hr; subst hr; rfl, rfl, fun v => ⟨[], by simp, by simp⟩, rfl⟩
    · obtain ⟨rows, o2, o3, o4, o5, o6, h1, h2, hcp, rfl⟩ := hI
      have hs1 := hs.up
      have hs2 := hs.len
      rw [he] at hs1 hs2
      rw [List.length_append, List.length_cons] at hs2
      have hx : x ∉ done := fun hc => Nat.lt_irrefl _ ((List.pairwise_append.mp hs1).2.2 x hc x List.mem_cons_self)
      have hpow : 2 ^ done.length ≤ 256 := Nat.pow_le_pow_right (n := 2) (by decide) (show done.length ≤ 8 by omega)
      simp only [w_L_rows_t1, w_L_rows_t2, w_L_rows_b1_t2, w_L_rows_b1_t1, w_L_rows_b1, w_L_rows_b2_t2, w_L_rows_b2_t1, w_L_rows_b2, wSeq, wSet, wAsg, wC, wIfS, wB, wOp, oI, oI0, asI, asS, asL, asLT, asT, asB, asA_some, asA_none, asO, asOL, asOD, asKey, asDic, asSq, oLen, oMod, oAdd, oSub, oMul, oDiv, oMax, oMin, oPlus, oEqX, oNeX, eqX_int, eqX_str, eqX_bl, oCmp, oLtX, oLeX, oGtX, oGeX, oIxX, oInX, wCB, wCons, wNil, wVar, wMove, nth, put, startR, wNext, wRet, wRetN, wDrop, wFor, wiR1, wiR2, wiX, itemsOf, wgName, wgTup, wgCons, wgNil, wLend, wLendT, seeR_cons, seeR_nil, seeO_d, seeO_none, seeO_ol, seeO_od, wJoin, wM, oAppend, oPop, oPopAt, wDPut, wDPop, wSortK, wDict0, wTup, wLst, wCall, wAnd, wOr, wNot, wAndV, wOrV, wNotV, wIf, wYes, wLc, wiEnumX, oListX, oTuple, oSort, oSortSet, oAll, oAny, S.fz, S.own, D.flat, txts_map, bools_map, txtKeys_map, List.length_map, List.map_cons, List.map_nil, List.length_cons, List.length_nil, List.cons_append, List.nil_append, List.replicate, decide_eq_true_eq, Bool.not_eq_true', Bool.not_true, Bool.not_false, if_true, if_false, Nat.zero_add, Nat.reduceAdd, Nat.reduceSub, ge_iff_le, true_and, and_true, zip_unzip, Bool.false_xor, Bool.true_xor, Bool.false_eq_true, Bool.true_eq_false, reduceIte, wipeR, dataR_cons, dataR_nil, dataO_d, dataO_none, dataO_ol, dataO_od, oDict, oIsi, tyD, isiB, wSl, wPart, wNoP, oSl, wDisp1, wDGet2, oRemove, atI_0, atI_1, atI_2, wiRev, revItems, oDictP, wForK, wiKeys, kD, oSortX, oPow, oBitAnd, oShl, oNeg, wUn, oInt, oStr, oDivmod, oIs, isD, wChain, wFz, wFzE, frzR, wLSet, wiZip, seqsD, wiVals, wiItems, wOIx, wNo, Option.isSome_some, oMulX, wM1, oSplit, oPart, oStrip1, oRep, oSum, intsD, wRaise, wLI, wLK
, wiR3, wLR, wDisp, wPairs, oReverse, oClear, oInsert, wRevL, wDZ, seqLT, oSortIT, Function.comp]
      refine ⟨by decide, ?_⟩
      refine forD_map (I := fun dr _ ρ => ∃ (more : List Row) (o4 o5 o6 : Option S), (∀ r ∈ more, r.map (·.1) = done ++ [x]) ∧ more.length = 2 * dr.length ∧ (∀ q ∈ dr, ∀ b : Bool, q ++ [(x, b)] ∈ more) ∧ ρ = [some (.d (.str s)), some (.d (.lst (rows.map rowD))), some (.d (.str (one x))), some (.ol (more.map rowD)), o4, o5, o6]) mono_name rows (fun dr r ys2 ρ he2 hI => ?_) (fun ρ hI => ?_) _
        ⟨[], o4, o5, o6, by simp, rfl, by simp, rfl⟩
      · obtain ⟨more, o4, o5, o6, g1, g2, g3, rfl⟩ := hI
        have hr := h1 r (by rw [he2]; simp)
        have hl2 := congrArg List.length he2
        rw [List.length_append, List.length_cons] at hl2
        simp only [w_L_rows_t1, w_L_rows_t2, w_L_rows_b1_t2, w_L_rows_b1_t1, w_L_rows_b1, w_L_rows_b2_t2, w_L_rows_b2_t1, w_L_rows_b2, wSeq, wSet, wAsg, wC, wIfS, wB, wOp, oI, oI0, asI, asS, asL, asLT, asT, asB, asA_some, asA_none, asO, asOL, asOD, asKey, asDic, asSq, oLen, oMod, oAdd, oSub, oMul, oDiv, oMax, oMin, oPlus, oEqX, oNeX, eqX_int, eqX_str, eqX_bl, oCmp, oLtX, oLeX, oGtX, oGeX, oIxX, oInX, wCB, wCons, wNil, wVar, wMove, nth, put, startR, wNext, wRet, wRetN, wDrop, wFor, wiR1, wiR2, wiX, itemsOf, wgName, wgTup, wgCons, wgNil, wLend, wLendT, seeR_cons, seeR_nil, seeO_d, seeO_none, seeO_ol, seeO_od, wJoin, wM, oAppend, oPop, oPopAt, wDPut, wDPop, wSortK, wDict0, wTup, wLst, wCall, wAnd, wOr, wNot, wAndV, wOrV, wNotV, wIf, wYes, wLc, wiEnumX, oListX, oTuple, oSort, oSortSet, oAll, oAny, S.fz, S.own, D.flat, txts_map, bools_map, txtKeys_map, List.length_map, List.map_cons, List.map_nil, List.length_cons, List.length_nil, List.cons_append, List.nil_append, List.replicate, decide_eq_true_eq, Bool.not_eq_true', Bool.not_true, Bool.not_false, if_true, if_false, Nat.zero_add, Nat.reduceAdd, Nat.reduceSub, ge_iff_le, true_and, and_true, zip_unzip, Bool.false_xor, Bool.true_xor, Bool.false_eq_true, Bool.true_eq_false, reduceIte, wipeR, dataR_cons, dataR_nil, dataO_d, dataO_none, dataO_ol, dataO_od, oDict, oIsi, tyD, isiB, wSl, wPart, wNoP, oSl, wDisp1, wDGet2, oRemove, atI_0, atI_1, atI_2, wiRev, revItems, oDictP, wForK, wiKeys, kD, oSortX, oPow, oBitAnd, oShl, oNeg, wUn, oInt, oStr, oDivmod, oIs, isD, wChain, wFz, wFzE, frzR, wLSet, wiZip, seqsD, wiVals, wiItems, wOIx, wNo, Option.isSome_some, oMulX, wM1, oSplit, oPart, oStrip1, oRep, oSum, intsD, wRaise, wLI, wLK
, wiR3, wLR, wDisp, wPairs, oReverse, oClear, oInsert, wRevL, wDZ, seqLT, oSortIT]
        refine ⟨by decide, ?_⟩
        refine forD_map (f := D.bl) (I := fun db _ ρ => ∃ (o5 o6 : Option S), ρ = [some (.d (.str s)), some (.d (.lst (rows.map rowD))), some (.d (.str (one x))), some (.ol ((more ++ db.map fun b => r ++ [(x, b)]).map rowD)), some (.d (rowD r)), o5, o6]) mono_name [false, true] (fun db b ys3 ρ he3 hI => ?_) (fun ρ hI => ?_) _
          ⟨o5, o6, by rw [List.map_nil, List.append_nil]⟩
        · obtain ⟨o5, o6, rfl⟩ := hI
          have hl3 := congrArg List.length he3
          simp only [List.length_cons, List.length_nil, List.length_append] at hl3
          have hrk : x ∉ r.map (·.1) := by rw [hr]; exact hx
          have hrl : r.length ≤ 9 := by
            have := congrArg List.length hr
            rw [List.length_map] at this
            omega
          simp only [rowD, rowK_zip, w_L_rows_t1, w_L_rows_t2, w_L_rows_b1_t2, w_L_rows_b1_t1, w_L_rows_b1, w_L_rows_b2_t2, w_L_rows_b2_t1, w_L_rows_b2, wSeq, wSet, wAsg, wC, wIfS, wB, wOp, oI, oI0, asI, asS, asL, asLT, asT, asB, asA_some, asA_none, asO, asOL, asOD, asKey, asDic, asSq, oLen, oMod, oAdd, oSub, oMul, oDiv, oMax, oMin, oPlus, oEqX, oNeX, eqX_int, eqX_str, eqX_bl, oCmp, oLtX, oLeX, oGtX, oGeX, oIxX, oInX, wCB, wCons, wNil, wVar, wMove, nth, put, startR, wNext, wRet, wRetN, wDrop, wFor, wiR1, wiR2, wiX, itemsOf, wgName, wgTup, wgCons, wgNil, wLend, wLendT, seeR_cons, seeR_nil, seeO_d, seeO_none, seeO_ol, seeO_od, wJoin, wM, oAppend, oPop, oPopAt, wDPut, wDPop, wSortK, wDict0, wTup, wLst, wCall, wAnd, wOr, wNot, wAndV, wOrV, wNotV, wIf, wYes, wLc, wiEnumX, oListX, oTuple, oSort, oSortSet, oAll, oAny, S.fz, S.own, D.flat, txts_map, bools_map, txtKeys_map, List.length_map, List.map_cons, List.map_nil, List.length_cons, List.length_nil, List.cons_append, List.nil_append, List.replicate, decide_eq_true_eq, Bool.not_eq_true', Bool.not_true, Bool.not_false, if_true, if_false, Nat.zero_add, Nat.reduceAdd, Nat.reduceSub, ge_iff_le, true_and, and_true, zip_unzip, Bool.false_xor, Bool.true_xor, Bool.false_eq_true, Bool.true_eq_false, reduceIte, wipeR, dataR_cons, dataR_nil, dataO_d, dataO_none, dataO_ol, dataO_od, oDict, oIsi, tyD, isiB, wSl, wPart, wNoP, oSl, wDisp1, wDGet2, oRemove, atI_0, atI_1, atI_2, wiRev, revItems, oDictP, wForK, wiKeys, kD, oSortX, oPow, oBitAnd, oShl, oNeg, wUn, oInt, oStr, oDivmod, oIs, isD, wChain, wFz, wFzE, frzR, wLSet, wiZip, seqsD, wiVals, wiItems, wOIx, wNo, Option.isSome_some, oMulX, wM1, oSplit, oPart, oStrip1, oRep, oSum, intsD, wRaise, wLI, wLK
, wiR3, wLR, wDisp, wPairs, oReverse, oClear, oInsert, wRevL, wDZ, seqLT, oSortIT, vput_row hrk]
          refine ⟨?_, ?_, some (.d (.bl b)), some (.d (rowD (r ++ [(x, b)]))), ?_⟩
          · rw [rowK, List.length_map, len0]; omega
          · simp only [List.length_append, List.length_map, len0]; omega
          · simp [rowD, rowK_fst, rowK_snd]
        · obtain ⟨o5, o6, rfl⟩ := hI
          refine ⟨more ++ [r ++ [(x, false)], r ++ [(x, true)]], _, _, _, ?_, ?_, ?_, rfl⟩
          · intro q hq2
            rcases List.mem_append.mp hq2 with z | z
            · exact g1 q z
            · simp at z
              rcases z with rfl | rfl <;> simp [hr]
          · simp only [List.length_append, List.length_cons, List.length_nil]; omega
          · intro q hq2 b
            rcases List.mem_append.mp hq2 with z | z
            · exact List.mem_append.mpr (.inl (g3 q z b))
            · simp at z; subst z
              refine List.mem_append.mpr (.inr ?_)
              cases b <;> simp
      · obtain ⟨more, o4, o5, o6, g1, g2, g3, rfl⟩ := hI
        simp only [w_L_rows_t1, w_L_rows_t2, w_L_rows_b1_t2, w_L_rows_b1_t1, w_L_rows_b1, w_L_rows_b2_t2, w_L_rows_b2_t1, w_L_rows_b2, wSeq, wSet, wAsg, wC, wIfS, wB, wOp, oI, oI0, asI, asS, asL, asLT, asT, asB, asA_some, asA_none, asO, asOL, asOD, asKey, asDic, asSq, oLen, oMod, oAdd, oSub, oMul, oDiv, oMax, oMin, oPlus, oEqX, oNeX, eqX_int, eqX_str, eqX_bl, oCmp, oLtX, oLeX, oGtX, oGeX, oIxX, oInX, wCB, wCons, wNil, wVar, wMove, nth, put, startR, wNext, wRet, wRetN, wDrop, wFor, wiR1, wiR2, wiX, itemsOf, wgName, wgTup, wgCons, wgNil, wLend, wLendT, seeR_cons, seeR_nil, seeO_d, seeO_none, seeO_ol, seeO_od, wJoin, wM, oAppend, oPop, oPopAt, wDPut, wDPop, wSortK, wDict0, wTup, wLst, wCall, wAnd, wOr, wNot, wAndV, wOrV, wNotV, wIf, wYes, wLc, wiEnumX, oListX, oTuple, oSort, oSortSet, oAll, oAny, S.fz, S.own, D.flat, txts_map, bools_map, txtKeys_map, List.length_map, List.map_cons, List.map_nil, List.length_cons, List.length_nil, List.cons_append, List.nil_append, List.replicate, decide_eq_true_eq, Bool.not_eq_true', Bool.not_true, Bool.not_false, if_true, if_false, Nat.zero_add, Nat.reduceAdd, Nat.reduceSub, ge_iff_le, true_and, and_true, zip_unzip, Bool.false_xor, Bool.true_xor, Bool.false_eq_true, Bool.true_eq_false, reduceIte, wipeR, dataR_cons, dataR_nil, dataO_d, dataO_none, dataO_ol, dataO_od, oDict, oIsi, tyD, isiB, wSl, wPart, wNoP, oSl, wDisp1, wDGet2, oRemove, atI_0, atI_1, atI_2, wiRev, revItems, oDictP, wForK, wiKeys, kD, oSortX, oPow, oBitAnd, oShl, oNeg, wUn, oInt, oStr, oDivmod, oIs, isD, wChain, wFz, wFzE, frzR, wLSet, wiZip, seqsD, wiVals, wiItems, wOIx, wNo, Option.isSome_some, oMulX, wM1, oSplit, oPart, oStrip1, oRep, oSum, intsD, wRaise, wLI, wLK
, wiR3, wLR, wDisp, wPairs, oReverse, oClear, oInsert, wRevL, wDZ, seqLT, oSortIT]
        refine ⟨more, _, _, _, _, _, g1, by rw [g2, h2, List.length_append, List.length_singleton, Nat.pow_succ]; omega, fun v => ?_, rfl⟩
        obtain ⟨r, hr, hv⟩ := hcp v
        refine ⟨r ++ [(x, v x)], g3 r hr (v x), fun c hc => ?_⟩
        have hrk : r.map (·.1) = done := h1 r hr
        rcases List.mem_append.mp hc with z | z
        · rw [rowF_app_l (by rw [hrk]; exact z), hv c z]
        · simp at z; subst z
          rw [rowF_app_r (by rw [hrk]; exact hx)]
    · obtain ⟨rows, o2, o3, o4, o5, o6, h1, h2, hcp, rfl⟩ := hI
      have hpow : 2 ^ (sg s).length ≤ 512 := Nat.pow_le_pow_right (n := 2) (by decide) hs.len
      simp only [w_L_rows_t1, w_L_rows_t2, w_L_rows_b1_t2, w_L_rows_b1_t1, w_L_rows_b1, w_L_rows_b2_t2, w_L_rows_b2_t1, w_L_rows_b2, wSeq, wSet, wAsg, wC, wIfS, wB, wOp, oI, oI0, asI, asS, asL, asLT, asT, asB, asA_some, asA_none, asO, asOL, asOD, asKey, asDic, asSq, oLen, oMod, oAdd, oSub, oMul, oDiv, oMax, oMin, oPlus, oEqX, oNeX, eqX_int, eqX_str, eqX_bl, oCmp, oLtX, oLeX, oGtX, oGeX, oIxX, oInX, wCB, wCons, wNil, wVar, wMove, nth, put, startR, wNext, wRet, wRetN, wDrop, wFor, wiR1, wiR2, wiX, itemsOf, wgName, wgTup, wgCons, wgNil, wLend, wLendT, seeR_cons, seeR_nil, seeO_d, seeO_none, seeO_ol, seeO_od, wJoin, wM, oAppend, oPop, oPopAt, wDPut, wDPop, wSortK, wDict0, wTup, wLst, wCall, wAnd, wOr, wNot, wAndV, wOrV, wNotV, wIf, wYes, wLc, wiEnumX, oListX, oTuple, oSort, oSortSet, oAll, oAny, S.fz, S.own, D.flat, txts_map, bools_map, txtKeys_map, List.length_map, List.map_cons, List.map_nil, List.length_cons, List.length_nil, List.cons_append, List.nil_append, List.replicate, decide_eq_true_eq, Bool.not_eq_true', Bool.not_true, Bool.not_false, if_true, if_false, Nat.zero_add, Nat.reduceAdd, Nat.reduceSub, ge_iff_le, true_and, and_true, zip_unzip, Bool.false_xor, Bool.true_xor, Bool.false_eq_true, Bool.true_eq_false, reduceIte, wipeR, dataR_cons, dataR_nil, dataO_d, dataO_none, dataO_ol, dataO_od, oDict, oIsi, tyD, isiB, wSl, wPart, wNoP, oSl, wDisp1, wDGet2, oRemove, atI_0, atI_1, atI_2, wiRev, revItems, oDictP, wForK, wiKeys, kD, oSortX, oPow, oBitAnd, oShl, oNeg, wUn, oInt, oStr, oDivmod, oIs, isD, wChain, wFz, wFzE, frzR, wLSet, wiZip, seqsD, wiVals, wiItems, wOIx, wNo, Option.isSome_some, oMulX, wM1, oSplit, oPart, oStrip1, oRep, oSum, intsD, wRaise, wLI, wLK
, wiR3, wLR, wDisp, wPairs, oReverse, oClear, oInsert, wRevL, wDZ, seqLT, oSortIT]
      exact hq rows h1 (by omega) hcp
  · exact h.elim
/-! ### _law_worth -/
def sp_L_worth : DSp := fun ds P _ => match ds with
  | [x, y] => asF x fun f => ∃ r : Row, y = rowD r ∧ (f.length ≤ 100000 ∧ ∀ p ∈ f, (sg p).length ≤ 1000 ∧ ∀ c ∈ sg p, c ∈ r.map (·.1)) ∧ P (.d (.bl (val (rowF r) f)))
  | _ => False
abbrev N_L_worth : List Str := ["_law_form_here", "_law_row", "_law_many", "_law_product_here", "_law_letter"]
def w_L_worth_t2 : WS := (wRet (wOp oEqX (wOp oMod (wVar 2) (wC (.int 2))) (wC (.int 1))))
def w_L_worth_t1 : WS := wSeq (wFor (wiX (wVar 0)) (wgName 3)
      (wIfS (wB (wCB oAll (wCons (wLc (wiX (wVar 3)) (wgName 4) wYes (wOp oIxX (wVar 1) (wVar 4)) [4]) wNil))) (wAsg (wOp oPlus (wVar 2) (wC (.int 1))) (wgName 2)) wNext))
    w_L_worth_t2
def w_L_worth : WS := wSeq (wAsg (wC (.int 0)) (wgName 2))
    w_L_worth_t1
theorem len_L_worth {ds Q px} (h : sp_L_worth ds Q px) : ds.length = 2 := by unfold sp_L_worth at h; split at h <;> first | rfl | exact h.elim
theorem rd_L_worth {ds Q px} (h : sp_L_worth ds Q px) : w_L_worth ⟨fun _ => Q (.d .non), Q, fun _ => False, fun _ => False⟩ (startR N_L_worth ds) := by
  unfold sp_L_worth at h
  split at h
  · obtain ⟨f, rfl, r, rfl, ⟨hl, hr⟩, hq⟩ := asF_of h
    clear h
    unfold w_L_worth
    simp only [N_L_worth, fD, w_L_worth_t1, w_L_worth_t2, wSeq, wSet, wAsg, wC, wIfS, wB, wOp, oI, oI0, asI, asS, asL, asLT, asT, asB, asA_some, asA_none, asO, asOL, asOD, asKey, asDic, asSq, oLen, oMod, oAdd, oSub, oMul, oDiv, oMax, oMin, oPlus, oEqX, oNeX, eqX_int, eqX_str, eqX_bl, oCmp, oLtX, oLeX, oGtX, oGeX, oIxX, oInX, wCB, wCons, wNil, wVar, wMove, nth, put, startR, wNext, wRet, wRetN, wDrop, wFor, wiR1, wiR2, wiX, itemsOf, wgName, wgTup, wgCons, wgNil, wLend, wLendT, seeR_cons, seeR_nil, seeO_d, seeO_none, seeO_ol, seeO_od, wJoin, wM, oAppend, oPop, oPopAt, wDPut, wDPop, wSortK, wDict0, wTup, wLst, wCall, wAnd, wOr, wNot, wAndV, wOrV, wNotV, wIf, wYes, wLc, wiEnumX, oListX, oTuple, oSort, oSortSet, oAll, oAny, S.fz, S.own, D.flat, txts_map, bools_map, txtKeys_map, List.length_map, List.map_cons, List.map_nil, List.length_cons, List.length_nil, List.cons_append, List.nil_append, List.replicate, decide_eq_true_eq, Bool.not_eq_true', Bool.not_true, Bool.not_false, if_true, if_false, Nat.zero_add, Nat.reduceAdd, Nat.reduceSub, ge_iff_le, true_and, and_true, zip_unzip, Bool.false_xor, Bool.true_xor, Bool.false_eq_true, Bool.true_eq_false, reduceIte, wipeR, dataR_cons, dataR_nil, dataO_d, dataO_none, dataO_ol, dataO_od, oDict, oIsi, tyD, isiB, wSl, wPart, wNoP, oSl, wDisp1, wDGet2, oRemove, atI_0, atI_1, atI_2, wiRev, revItems, oDictP, wForK, wiKeys, kD, oSortX, oPow, oBitAnd, oShl, oNeg, wUn, oInt, oStr, oDivmod, oIs, isD, wChain, wFz, wFzE, frzR, wLSet, wiZip, seqsD, wiVals, wiItems, wOIx, wNo, Option.isSome_some, oMulX, wM1, oSplit, oPart, oStrip1, oRep, oSum, intsD, wRaise, wLI, wLK
, wiR3, wLR, wDisp, wPairs, oReverse, oClear, oInsert, wRevL, wDZ, seqLT, oSortIT]
    refine forD_map (I := fun done _ ρ => ∃ (o : Option S), ρ = [some (.d (.tup (f.map .str))), some (.d (rowD r)), some (.d (.int (done.countP (tr (rowF r)) : Nat))), o, none]) mono_name f (fun done p ys ρ he hI => ?_) (fun ρ hI => ?_) _ ⟨none, rfl⟩
    · obtain ⟨o, rfl⟩ := hI
      obtain ⟨hp1, hp2⟩ := hr p (by rw [he]; simp)
      simp only [w_L_worth_t1, w_L_worth_t2, wSeq, wSet, wAsg, wC, wIfS, wB, wOp, oI, oI0, asI, asS, asL, asLT, asT, asB, asA_some, asA_none, asO, asOL, asOD, asKey, asDic, asSq, oLen, oMod, oAdd, oSub, oMul, oDiv, oMax, oMin, oPlus, oEqX, oNeX, eqX_int, eqX_str, eqX_bl, oCmp, oLtX, oLeX, oGtX, oGeX, oIxX, oInX, wCB, wCons, wNil, wVar, wMove, nth, put, startR, wNext, wRet, wRetN, wDrop, wFor, wiR1, wiR2, wiX, itemsOf, wgName, wgTup, wgCons, wgNil, wLend, wLendT, seeR_cons, seeR_nil, seeO_d, seeO_none, seeO_ol, seeO_od, wJoin, wM, oAppend, oPop, oPopAt, wDPut, wDPop, wSortK, wDict0, wTup, wLst, wCall, wAnd, wOr, wNot, wAndV, wOrV, wNotV, wIf, wYes, wLc, wiEnumX, oListX, oTuple, oSort, oSortSet, oAll, oAny, S.fz, S.own, D.flat, txts_map, bools_map, txtKeys_map, List.length_map, List.map_cons, List.map_nil, List.length_cons, List.length_nil, List.cons_append, List.nil_append, List.replicate, decide_eq_true_eq, Bool.not_eq_true', Bool.not_true, Bool.not_false, if_true, if_false, Nat.zero_add, Nat.reduceAdd, Nat.reduceSub, ge_iff_le, true_and, and_true, zip_unzip, Bool.false_xor, Bool.true_xor, Bool.false_eq_true, Bool.true_eq_false, reduceIte, wipeR, dataR_cons, dataR_nil, dataO_d, dataO_none, dataO_ol, dataO_od, oDict, oIsi, tyD, isiB, wSl, wPart, wNoP, oSl, wDisp1, wDGet2, oRemove, atI_0, atI_1, atI_2, wiRev, revItems, oDictP, wForK, wiKeys, kD, oSortX, oPow, oBitAnd, oShl, oNeg, wUn, oInt, oStr, oDivmod, oIs, isD, wChain, wFz, wFzE, frzR, wLSet, wiZip, seqsD, wiVals, wiItems, wOIx, wNo, Option.isSome_some, oMulX, wM1, oSplit, oPart, oStrip1, oRep, oSum, intsD, wRaise, wLI, wLK
, wiR3, wLR, wDisp, wPairs, oReverse, oClear, oInsert, wRevL, wDZ, seqLT, oSortIT]
      refine ⟨by rw [signs_eq, List.length_map, len0]; omega, ?_⟩
      rw [signs_eq, List.map_map]
      refine compD_map mono_name (fun c => some (.bl (rowF r c))) (sg p) _ (fun c hc Q' hQ => ?_) ?_
      · simp only [w_L_worth_t1, w_L_worth_t2, wSeq, wSet, wAsg, wC, wIfS, wB, wOp, oI, oI0, asI, asS, asL, asLT, asT, asB, asA_some, asA_none, asO, asOL, asOD, asKey, asDic, asSq, oLen, oMod, oAdd, oSub, oMul, oDiv, oMax, oMin, oPlus, oEqX, oNeX, eqX_int, eqX_str, eqX_bl, oCmp, oLtX, oLeX, oGtX, oGeX, oIxX, oInX, wCB, wCons, wNil, wVar, wMove, nth, put, startR, wNext, wRet, wRetN, wDrop, wFor, wiR1, wiR2, wiX, itemsOf, wgName, wgTup, wgCons, wgNil, wLend, wLendT, seeR_cons, seeR_nil, seeO_d, seeO_none, seeO_ol, seeO_od, wJoin, wM, oAppend, oPop, oPopAt, wDPut, wDPop, wSortK, wDict0, wTup, wLst, wCall, wAnd, wOr, wNot, wAndV, wOrV, wNotV, wIf, wYes, wLc, wiEnumX, oListX, oTuple, oSort, oSortSet, oAll, oAny, S.fz, S.own, D.flat, txts_map, bools_map, txtKeys_map, List.length_map, List.map_cons, List.map_nil, List.length_cons, List.length_nil, List.cons_append, List.nil_append, List.replicate, decide_eq_true_eq, Bool.not_eq_true', Bool.not_true, Bool.not_false, if_true, if_false, Nat.zero_add, Nat.reduceAdd, Nat.reduceSub, ge_iff_le, true_and, and_true, zip_unzip, Bool.false_xor, Bool.true_xor, Bool.false_eq_true, Bool.true_eq_false, reduceIte, wipeR, dataR_cons, dataR_nil, dataO_d, dataO_none, dataO_ol, dataO_od, oDict, oIsi, tyD, isiB, wSl, wPart, wNoP, oSl, wDisp1, wDGet2, oRemove, atI_0, atI_1, atI_2, wiRev, revItems, oDictP, wForK, wiKeys, kD, oSortX, oPow, oBitAnd, oShl, oNeg, wUn, oInt, oStr, oDivmod, oIs, isD, wChain, wFz, wFzE, frzR, wLSet, wiZip, seqsD, wiVals, wiItems, wOIx, wNo, Option.isSome_some, oMulX, wM1, oSplit, oPart, oStrip1, oRep, oSum, intsD, wRaise, wLI, wLK
, wiR3, wLR, wDisp, wPairs, oReverse, oClear, oInsert, wRevL, wDZ, seqLT, oSortIT, Function.comp, rowD, rowK_zip, vget_row (hp2 c hc)]
        exact hQ
      · have e : (sg p).filterMap (fun c => some (D.bl (rowF r c))) = ((sg p).map (rowF r)).map .bl := by
          rw [List.map_map, ← List.filterMap_eq_map]; rfl
        rw [e, bools_map, asA_some]
        have e2 : ((sg p).map (rowF r)).all id = tr (rowF r) p := by rw [List.all_map]; rfl
        rw [e2]
        cases ht : tr (rowF r) p with
        | true =>
          simp only [w_L_worth_t1, w_L_worth_t2, wSeq, wSet, wAsg, wC, wIfS, wB, wOp, oI, oI0, asI, asS, asL, asLT, asT, asB, asA_some, asA_none, asO, asOL, asOD, asKey, asDic, asSq, oLen, oMod, oAdd, oSub, oMul, oDiv, oMax, oMin, oPlus, oEqX, oNeX, eqX_int, eqX_str, eqX_bl, oCmp, oLtX, oLeX, oGtX, oGeX, oIxX, oInX, wCB, wCons, wNil, wVar, wMove, nth, put, startR, wNext, wRet, wRetN, wDrop, wFor, wiR1, wiR2, wiX, itemsOf, wgName, wgTup, wgCons, wgNil, wLend, wLendT, seeR_cons, seeR_nil, seeO_d, seeO_none, seeO_ol, seeO_od, wJoin, wM, oAppend, oPop, oPopAt, wDPut, wDPop, wSortK, wDict0, wTup, wLst, wCall, wAnd, wOr, wNot, wAndV, wOrV, wNotV, wIf, wYes, wLc, wiEnumX, oListX, oTuple, oSort, oSortSet, oAll, oAny, S.fz, S.own, D.flat, txts_map, bools_map, txtKeys_map, List.length_map, List.map_cons, List.map_nil, List.length_cons, List.length_nil, List.cons_append, List.nil_append, List.replicate, decide_eq_true_eq, Bool.not_eq_true', Bool.not_true, Bool.not_false, if_true, if_false, Nat.zero_add, Nat.reduceAdd, Nat.reduceSub, ge_iff_le, true_and, and_true, zip_unzip, Bool.false_xor, Bool.true_xor, Bool.false_eq_true, Bool.true_eq_false, reduceIte, wipeR, dataR_cons, dataR_nil, dataO_d, dataO_none, dataO_ol, dataO_od, oDict, oIsi, tyD, isiB, wSl, wPart, wNoP, oSl, wDisp1, wDGet2, oRemove, atI_0, atI_1, atI_2, wiRev, revItems, oDictP, wForK, wiKeys, kD, oSortX, oPow, oBitAnd, oShl, oNeg, wUn, oInt, oStr, oDivmod, oIs, isD, wChain, wFz, wFzE, frzR, wLSet, wiZip, seqsD, wiVals, wiItems, wOIx, wNo, Option.isSome_some, oMulX, wM1, oSplit, oPart, oStrip1, oRep, oSum, intsD, wRaise, wLI, wLK
, wiR3, wLR, wDisp, wPairs, oReverse, oClear, oInsert, wRevL, wDZ, seqLT, oSortIT]
          exact ⟨some (.d (.str p)), by simp [List.countP_append, ht]⟩
        | false =>
          simp only [w_L_worth_t1, w_L_worth_t2, wSeq, wSet, wAsg, wC, wIfS, wB, wOp, oI, oI0, asI, asS, asL, asLT, asT, asB, asA_some, asA_none, asO, asOL, asOD, asKey, asDic, asSq, oLen, oMod, oAdd, oSub, oMul, oDiv, oMax, oMin, oPlus, oEqX, oNeX, eqX_int, eqX_str, eqX_bl, oCmp, oLtX, oLeX, oGtX, oGeX, oIxX, oInX, wCB, wCons, wNil, wVar, wMove, nth, put, startR, wNext, wRet, wRetN, wDrop, wFor, wiR1, wiR2, wiX, itemsOf, wgName, wgTup, wgCons, wgNil, wLend, wLendT, seeR_cons, seeR_nil, seeO_d, seeO_none, seeO_ol, seeO_od, wJoin, wM, oAppend, oPop, oPopAt, wDPut, wDPop, wSortK, wDict0, wTup, wLst, wCall, wAnd, wOr, wNot, wAndV, wOrV, wNotV, wIf, wYes, wLc, wiEnumX, oListX, oTuple, oSort, oSortSet, oAll, oAny, S.fz, S.own, D.flat, txts_map, bools_map, txtKeys_map, List.length_map, List.map_cons, List.map_nil, List.length_cons, List.length_nil, List.cons_append, List.nil_append, List.replicate, decide_eq_true_eq, Bool.not_eq_true', Bool.not_true, Bool.not_false, if_true, if_false, Nat.zero_add, Nat.reduceAdd, Nat.reduceSub, ge_iff_le, true_and, and_true, zip_unzip, Bool.false_xor, Bool.true_xor, Bool.false_eq_true, Bool.true_eq_false, reduceIte, wipeR, dataR_cons, dataR_nil, dataO_d, dataO_none, dataO_ol, dataO_od, oDict, oIsi, tyD, isiB, wSl, wPart, wNoP, oSl, wDisp1, wDGet2, oRemove, atI_0, atI_1, atI_2, wiRev, revItems, oDictP, wForK, wiKeys, kD, oSortX, oPow, oBitAnd, oShl, oNeg, wUn, oInt, oStr, oDivmod, oIs, isD, wChain, wFz, wFzE, frzR, wLSet, wiZip, seqsD, wiVals, wiItems, wOIx, wNo, Option.isSome_some, oMulX, wM1, oSplit, oPart, oStrip1, oRep, oSum, intsD, wRaise, wLI, wLK
, wiR3, wLR, wDisp, wPairs, oReverse, oClear, oInsert, wRevL, wDZ, seqLT, oSortIT]
          exact ⟨some (.d (.str p)), by simp [List.countP_append, ht]⟩
    · obtain ⟨o, rfl⟩ := hI
      simp only [w_L_worth_t1, w_L_worth_t2, wSeq, wSet, wAsg, wC, wIfS, wB, wOp, oI, oI0, asI, asS, asL, asLT, asT, asB, asA_some, asA_none, asO, asOL, asOD, asKey, asDic, asSq, oLen, oMod, oAdd, oSub, oMul, oDiv, oMax, oMin, oPlus, oEqX, oNeX, eqX_int, eqX_str, eqX_bl, oCmp, oLtX, oLeX, oGtX, oGeX, oIxX, oInX, wCB, wCons, wNil, wVar, wMove, nth, put, startR, wNext, wRet, wRetN, wDrop, wFor, wiR1, wiR2, wiX, itemsOf, wgName, wgTup, wgCons, wgNil, wLend, wLendT, seeR_cons, seeR_nil, seeO_d, seeO_none, seeO_ol, seeO_od, wJoin, wM, oAppend, oPop, oPopAt, wDPut, wDPop, wSortK, wDict0, wTup, wLst, wCall, wAnd, wOr, wNot, wAndV, wOrV, wNotV, wIf, wYes, wLc, wiEnumX, oListX, oTuple, oSort, oSortSet, oAll, oAny, S.fz, S.own, D.flat, txts_map, bools_map, txtKeys_map, List.length_map, List.map_cons, List.map_nil, List.length_cons, List.length_nil, List.cons_append, List.nil_append, List.replicate, decide_eq_true_eq, Bool.not_eq_true', Bool.not_true, Bool.not_false, if_true, if_false, Nat.zero_add, Nat.reduceAdd, Nat.reduceSub, ge_iff_le, true_and, and_true, zip_unzip, Bool.false_xor, Bool.true_xor, Bool.false_eq_true, Bool.true_eq_false, reduceIte, wipeR, dataR_cons, dataR_nil, dataO_d, dataO_none, dataO_ol, dataO_od, oDict, oIsi, tyD, isiB, wSl, wPart, wNoP, oSl, wDisp1, wDGet2, oRemove, atI_0, atI_1, atI_2, wiRev, revItems, oDictP, wForK, wiKeys, kD, oSortX, oPow, oBitAnd, oShl, oNeg, wUn, oInt, oStr, oDivmod, oIs, isD, wChain, wFz, wFzE, frzR, wLSet, wiZip, seqsD, wiVals, wiItems, wOIx, wNo, Option.isSome_some, oMulX, wM1, oSplit, oPart, oStrip1, oRep, oSum, intsD, wRaise, wLI, wLK
, wiR3, wLR, wDisp, wPairs, oReverse, oClear, oInsert, wRevL, wDZ, seqLT, oSortIT]
      refine ⟨by decide, ?_⟩
      have e : decide (((f.countP (tr (rowF r)) : Nat) : Int) % 2 = 1) = val (rowF r) f := by
        unfold val
        apply decide_eq_decide.mpr
        omega
      rw [e]
      exact hq
  · exact h.elim
/-! ### _law_is_form -/
/-- a container of letters: a text, or a list of letters -/
def LetC (y : D) (cs : List Nat) : Prop := (∃ s, y = .str s ∧ sg s = cs) ∨ y = .lst (cs.map fun c => .str (one c))
theorem items_let {y : D} {cs : List Nat} {P : List D → Prop} (h : LetC y cs) : itemsOf y P = P (cs.map fun c => .str (one c)) := by
  rcases h with ⟨s, rfl, rfl⟩ | rfl
  · show P ((signs s).map .str) = _
    rw [signs_eq, List.map_map]; rfl
  · rfl
def sp_L_is_form : DSp := fun ds P _ => match ds with
  | [x, y] => asF x fun f => ∃ cs : List Nat, (LetC y cs ∧ Frm f ∧ cs.Pairwise (· < ·) ∧ cs.length ≤ 9 ∧ ∀ p ∈ f, ∀ c ∈ sg p, c ∈ cs) ∧ P (.d (.bl true))
  | _ => False
theorem isf_str {f : List Str} {s : Str} {P : Prop} (h : Frm f ∧ Prd s ∧ Over s f) (p : P) : ∃ cs : List Nat, (LetC (.str s) cs ∧ Frm f ∧ cs.Pairwise (· < ·) ∧ cs.length ≤ 9 ∧ ∀ p ∈ f, ∀ c ∈ sg p, c ∈ cs) ∧ P :=
  ⟨sg s, ⟨.inl ⟨s, rfl, rfl⟩, h.1, h.2.1.up, h.2.1.len, h.2.2⟩, p⟩
theorem srtset_frm {f : List Str} (h : Frm f) : srtset f = f := by
  have p : f.Perm (met f) := (List.perm_ext_iff_of_nodup h.nd (nodup_met f)).mpr fun a => mem_met.symm
  exact (srt_unique p h.so).symm
theorem filter_prd {s : List Nat} {p : Str} (hs : s.Pairwise (· < ·)) (hp : Prd p) (h : ∀ c ∈ sg p, c ∈ s) : Txt.join "" ((s.filter fun c => decide (c ∈ sg p)).map one) = p := by
  apply sg_inj
  rw [sg_join0 sg_nil, flat_ones]
  refine up_ext (hs.filter _) hp.up fun c => ?_
  rw [List.mem_filter]
  simp only [decide_eq_true_eq]
  exact ⟨fun z => z.2, fun z => ⟨h c z, z⟩⟩
theorem inS_one' (c : Nat) (j : Str) : inS (one c) j = decide (c ∈ sg j) := rfl
abbrev N_L_is_form : List Str := ["_law_found", "_law_letters_here", "_law_product_here", "_law_letter"]
def w_L_is_form_t3 : WS := (wRet (wC (.bl true)))
def w_L_is_form_t2 : WS := wSeq (wFor (wiX (wVar 0)) (wgName 2)
      (wIfS (wB (wOp oNeX (wVar 2) (wJoin (wC (.str "")) (wLc (wiX (wVar 1)) (wgName 3) (wB (wOp (oInX false) (wVar 3) (wVar 2))) (wVar 3) [3])))) (wRet (wC (.bl false))) wNext))
    w_L_is_form_t3
def w_L_is_form_t1 : WS := wSeq (wIfS (wB (wOp oNeX (wCB oListX (wCons (wVar 0) wNil)) (wCB oSortSet (wCons (wVar 0) wNil)))) (wRet (wC (.bl false))) wNext)
    w_L_is_form_t2
def w_L_is_form : WS := wSeq (wIfS (wOr (wNot (wB (wCB oIsi (wCons (wVar 0) (wCons (wC (.ty "tuple")) wNil))))) (wNot (wB (wCB oAll (wCons (wLc (wiX (wVar 0)) (wgName 2) wYes (wCB oIsi (wCons (wVar 2) (wCons (wC (.ty "str")) wNil))) [2]) wNil))))) (wRet (wC (.bl false))) wNext)
    w_L_is_form_t1
theorem len_L_is_form {ds Q px} (h : sp_L_is_form ds Q px) : ds.length = 2 := by unfold sp_L_is_form at h; split at h <;> first | rfl | exact h.elim
theorem eqX_lst {a b : List Str} {P : Bool → Prop} (ha : ∀ p ∈ a, PyData.strOk p = true) (hb : ∀ p ∈ b, PyData.strOk p = true) : eqX (.lst (a.map .str)) (.lst (b.map .str)) P = P (decide (a = b)) := by
  have e : eqS (.lst (a.map .str)) (.lst (b.map .str)) = none := rfl
  have pl : ∀ a : List Str, pyd (.lst (a.map .str)) = some (.list (a.map .str)) := fun a => by unfold pyd; rw [pyds_strs]; rfl
  have sh : ∀ a : List Str, (∀ p ∈ a, PyData.strOk p = true) → SeqAt.shaped (.list (a.map .str)) = true := fun a h => by
    unfold SeqAt.shaped
    rw [Bool.and_eq_true]
    refine ⟨canLay_strs a h, decide_eq_true ?_⟩
    have := depth_strs a
    simp only [PyData.depth]
    omega
  unfold eqX
  rw [e]
  show asA (pyd _) (fun q => asA (pyd _) fun r => SeqAt.shaped q = true ∧ SeqAt.shaped r = true ∧ P (PyData.eqv q r)) = _
  rw [pl, pl]
  show (SeqAt.shaped _ = true ∧ SeqAt.shaped _ = true ∧ P (PyData.eqvAll _ _)) = _
  rw [sh a ha, sh b hb, eqvAll_strs]
  simp
theorem rd_L_is_form {ds Q px} (h : sp_L_is_form ds Q px) : w_L_is_form ⟨fun _ => Q (.d .non), Q, fun _ => False, fun _ => False⟩ (startR N_L_is_form ds) := by
  unfold sp_L_is_form at h
  split at h
  · rename_i x y
    obtain ⟨f, rfl, cs, ⟨hy, hf, hcs, hcl, ho⟩, hq⟩ := asF_of h
    clear h
    have fl := hf.len
    unfold w_L_is_form
    simp only [N_L_is_form, fD, w_L_is_form_t1, w_L_is_form_t2, w_L_is_form_t3, wSeq, wSet, wAsg, wC, wIfS, wB, wOp, oI, oI0, asI, asS, asL, asLT, asT, asB, asA_some, asA_none, asO, asOL, asOD, asKey, asDic, asSq, oLen, oMod, oAdd, oSub, oMul, oDiv, oMax, oMin, oPlus, oEqX, oNeX, eqX_int, eqX_str, eqX_bl, oCmp, oLtX, oLeX, oGtX, oGeX, oIxX, oInX, wCB, wCons, wNil, wVar, wMove, nth, put, startR, wNext, wRet, wRetN, wDrop, wFor, wiR1, wiR2, wiX, itemsOf, wgName, wgTup, wgCons, wgNil, wLend, wLendT, seeR_cons, seeR_nil, seeO_d, seeO_none, seeO_ol, seeO_od, wJoin, wM, oAppend, oPop, oPopAt, wDPut, wDPop, wSortK, wDict0, wTup, wLst, wCall, wAnd, wOr, wNot, wAndV, wOrV, wNotV, wIf, wYes, wLc, wiEnumX, oListX, oTuple, oSort, oSortSet, oAll, oAny, S.fz, S.own, D.flat, txts_map, bools_map, txtKeys_map, List.length_map, List.map_cons, List.map_nil, List.length_cons, List.length_nil, List.cons_append, List.nil_append, List.replicate, decide_eq_true_eq, Bool.not_eq_true', Bool.not_true, Bool.not_false, if_true, if_false, Nat.zero_add, Nat.reduceAdd, Nat.reduceSub, ge_iff_le, true_and, and_true, zip_unzip, Bool.false_xor, Bool.true_xor, Bool.false_eq_true, Bool.true_eq_false, reduceIte, wipeR, dataR_cons, dataR_nil, dataO_d, dataO_none, dataO_ol, dataO_od, oDict, oIsi, tyD, isiB, wSl, wPart, wNoP, oSl, wDisp1, wDGet2, oRemove, atI_0, atI_1, atI_2, wiRev, revItems, oDictP, wForK, wiKeys, kD, oSortX, oPow, oBitAnd, oShl, oNeg, wUn, oInt, oStr, oDivmod, oIs, isD, wChain, wFz, wFzE, frzR, wLSet, wiZip, seqsD, wiVals, wiItems, wOIx, wNo, Option.isSome_some, oMulX, wM1, oSplit, oPart, oStrip1, oRep, oSum, intsD, wRaise, wLI, wLK
, wiR3, wLR, wDisp, wPairs, oReverse, oClear, oInsert, wRevL, wDZ, seqLT, oSortIT]
    refine ⟨by rw [len0]; omega, ?_⟩
    refine compD_map mono_name (fun c => some (.bl true)) f _ (fun c hc Q' hQ => ?_) ?_
    · simp only [wSeq, wSet, wAsg, wC, wIfS, wB, wOp, oI, oI0, asI, asS, asL, asLT, asT, asB, asA_some, asA_none, asO, asOL, asOD, asKey, asDic, asSq, oLen, oMod, oAdd, oSub, oMul, oDiv, oMax, oMin, oPlus, oEqX, oNeX, eqX_int, eqX_str, eqX_bl, oCmp, oLtX, oLeX, oGtX, oGeX, oIxX, oInX, wCB, wCons, wNil, wVar, wMove, nth, put, startR, wNext, wRet, wRetN, wDrop, wFor, wiR1, wiR2, wiX, itemsOf, wgName, wgTup, wgCons, wgNil, wLend, wLendT, seeR_cons, seeR_nil, seeO_d, seeO_none, seeO_ol, seeO_od, wJoin, wM, oAppend, oPop, oPopAt, wDPut, wDPop, wSortK, wDict0, wTup, wLst, wCall, wAnd, wOr, wNot, wAndV, wOrV, wNotV, wIf, wYes, wLc, wiEnumX, oListX, oTuple, oSort, oSortSet, oAll, oAny, S.fz, S.own, D.flat, txts_map, bools_map, txtKeys_map, List.length_map, List.map_cons, List.map_nil, List.length_cons, List.length_nil, List.cons_append, List.nil_append, List.replicate, decide_eq_true_eq, Bool.not_eq_true', Bool.not_true, Bool.not_false, if_true, if_false, Nat.zero_add, Nat.reduceAdd, Nat.reduceSub, ge_iff_le, true_and, and_true, zip_unzip, Bool.false_xor, Bool.true_xor, Bool.false_eq_true, Bool.true_eq_false, reduceIte, wipeR, dataR_cons, dataR_nil, dataO_d, dataO_none, dataO_ol, dataO_od, oDict, oIsi, tyD, isiB, wSl, wPart, wNoP, oSl, wDisp1, wDGet2, oRemove, atI_0, atI_1, atI_2, wiRev, revItems, oDictP, wForK, wiKeys, kD, oSortX, oPow, oBitAnd, oShl, oNeg, wUn, oInt, oStr, oDivmod, oIs, isD, wChain, wFz, wFzE, frzR, wLSet, wiZip, seqsD, wiVals, wiItems, wOIx, wNo, Option.isSome_some, oMulX, wM1, oSplit, oPart, oStrip1, oRep, oSum, intsD, wRaise, wLI, wLK
, wiR3, wLR, wDisp, wPairs, oReverse, oClear, oInsert, wRevL, wDZ, seqLT, oSortIT]
      exact hQ
    have e : f.filterMap (fun c => some (D.bl true)) = (f.map fun _ => true).map .bl := by
      rw [List.map_map, ← List.filterMap_eq_map]; rfl
    rw [e, bools_map, asA_some]
    have e2 : (f.map fun _ => true).all id = true := by rw [List.all_map]; simp [Function.comp]
    rw [e2]
    simp only [wSeq, wSet, wAsg, wC, wIfS, wB, wOp, oI, oI0, asI, asS, asL, asLT, asT, asB, asA_some, asA_none, asO, asOL, asOD, asKey, asDic, asSq, oLen, oMod, oAdd, oSub, oMul, oDiv, oMax, oMin, oPlus, oEqX, oNeX, eqX_int, eqX_str, eqX_bl, oCmp, oLtX, oLeX, oGtX, oGeX, oIxX, oInX, wCB, wCons, wNil, wVar, wMove, nth, put, startR, wNext, wRet, wRetN, wDrop, wFor, wiR1, wiR2, wiX, itemsOf, wgName, wgTup, wgCons, wgNil, wLend, wLendT, seeR_cons, seeR_nil, seeO_d, seeO_none, seeO_ol, seeO_od, wJoin, wM, oAppend, oPop, oPopAt, wDPut, wDPop, wSortK, wDict0, wTup, wLst, wCall, wAnd, wOr, wNot, wAndV, wOrV, wNotV, wIf, wYes, wLc, wiEnumX, oListX, oTuple, oSort, oSortSet, oAll, oAny, S.fz, S.own, D.flat, txts_map, bools_map, txtKeys_map, List.length_map, List.map_cons, List.map_nil, List.length_cons, List.length_nil, List.cons_append, List.nil_append, List.replicate, decide_eq_true_eq, Bool.not_eq_true', Bool.not_true, Bool.not_false, if_true, if_false, Nat.zero_add, Nat.reduceAdd, Nat.reduceSub, ge_iff_le, true_and, and_true, zip_unzip, Bool.false_xor, Bool.true_xor, Bool.false_eq_true, Bool.true_eq_false, reduceIte, wipeR, dataR_cons, dataR_nil, dataO_d, dataO_none, dataO_ol, dataO_od, oDict, oIsi, tyD, isiB, wSl, wPart, wNoP, oSl, wDisp1, wDGet2, oRemove, atI_0, atI_1, atI_2, wiRev, revItems, oDictP, wForK, wiKeys, kD, oSortX, oPow, oBitAnd, oShl, oNeg, wUn, oInt, oStr, oDivmod, oIs, isD, wChain, wFz, wFzE, frzR, wLSet, wiZip, seqsD, wiVals, wiItems, wOIx, wNo, Option.isSome_some, oMulX, wM1, oSplit, oPart, oStrip1, oRep, oSum, intsD, wRaise, wLI, wLK
, wiR3, wLR, wDisp, wPairs, oReverse, oClear, oInsert, wRevL, wDZ, seqLT, oSortIT]
    refine ⟨by show _ < 4096; omega, ?_⟩
    rw [srtset_frm hf, eqX_lst hf.ok hf.ok]
    simp only [wSeq, wSet, wAsg, wC, wIfS, wB, wOp, oI, oI0, asI, asS, asL, asLT, asT, asB, asA_some, asA_none, asO, asOL, asOD, asKey, asDic, asSq, oLen, oMod, oAdd, oSub, oMul, oDiv, oMax, oMin, oPlus, oEqX, oNeX, eqX_int, eqX_str, eqX_bl, oCmp, oLtX, oLeX, oGtX, oGeX, oIxX, oInX, wCB, wCons, wNil, wVar, wMove, nth, put, startR, wNext, wRet, wRetN, wDrop, wFor, wiR1, wiR2, wiX, itemsOf, wgName, wgTup, wgCons, wgNil, wLend, wLendT, seeR_cons, seeR_nil, seeO_d, seeO_none, seeO_ol, seeO_od, wJoin, wM, oAppend, oPop, oPopAt, wDPut, wDPop, wSortK, wDict0, wTup, wLst, wCall, wAnd, wOr, wNot, wAndV, wOrV, wNotV, wIf, wYes, wLc, wiEnumX, oListX, oTuple, oSort, oSortSet, oAll, oAny, S.fz, S.own, D.flat, txts_map, bools_map, txtKeys_map, List.length_map, List.map_cons, List.map_nil, List.length_cons, List.length_nil, List.cons_append, List.nil_append, List.replicate, decide_eq_true_eq, Bool.not_eq_true', Bool.not_true, Bool.not_false, if_true, if_false, Nat.zero_add, Nat.reduceAdd, Nat.reduceSub, ge_iff_le, true_and, and_true, zip_unzip, Bool.false_xor, Bool.true_xor, Bool.false_eq_true, Bool.true_eq_false, reduceIte, wipeR, dataR_cons, dataR_nil, dataO_d, dataO_none, dataO_ol, dataO_od, oDict, oIsi, tyD, isiB, wSl, wPart, wNoP, oSl, wDisp1, wDGet2, oRemove, atI_0, atI_1, atI_2, wiRev, revItems, oDictP, wForK, wiKeys, kD, oSortX, oPow, oBitAnd, oShl, oNeg, wUn, oInt, oStr, oDivmod, oIs, isD, wChain, wFz, wFzE, frzR, wLSet, wiZip, seqsD, wiVals, wiItems, wOIx, wNo, Option.isSome_some, oMulX, wM1, oSplit, oPart, oStrip1, oRep, oSum, intsD, wRaise, wLI, wLK
, wiR3, wLR, wDisp, wPairs, oReverse, oClear, oInsert, wRevL, wDZ, seqLT, oSortIT, decide_true]
    refine forD_map (I := fun done _ ρ => ∃ (o o2 : Option S), ρ = [some (.d (.tup (f.map .str))), some (.d y), o, o2]) mono_name f (fun done p ys ρ he hI => ?_) (fun ρ hI => ?_) _ ⟨_, _, rfl⟩
    · obtain ⟨o, o2, rfl⟩ := hI
      have hp := hf.prd p (by rw [he]; simp)
      have hpo := ho p (by rw [he]; simp)
      simp only [wIfS, wB, wOp, oNeX, wVar, nth, put, wgName, wJoin, wC, asS, wLc, wiX, S.fz, items_let hy]
      refine ⟨by rw [List.length_map, len0]; omega, ?_⟩
      refine compD_map mono_name (fun c => if c ∈ sg p then some (.str (one c)) else none) cs _ (fun c hc Q' hQ => ?_) ?_
      · simp only [wSeq, wSet, wAsg, wC, wIfS, wB, wOp, oI, oI0, asI, asS, asL, asLT, asT, asB, asA_some, asA_none, asO, asOL, asOD, asKey, asDic, asSq, oLen, oMod, oAdd, oSub, oMul, oDiv, oMax, oMin, oPlus, oEqX, oNeX, eqX_int, eqX_str, eqX_bl, oCmp, oLtX, oLeX, oGtX, oGeX, oIxX, oInX, wCB, wCons, wNil, wVar, wMove, nth, put, startR, wNext, wRet, wRetN, wDrop, wFor, wiR1, wiR2, wiX, itemsOf, wgName, wgTup, wgCons, wgNil, wLend, wLendT, seeR_cons, seeR_nil, seeO_d, seeO_none, seeO_ol, seeO_od, wJoin, wM, oAppend, oPop, oPopAt, wDPut, wDPop, wSortK, wDict0, wTup, wLst, wCall, wAnd, wOr, wNot, wAndV, wOrV, wNotV, wIf, wYes, wLc, wiEnumX, oListX, oTuple, oSort, oSortSet, oAll, oAny, S.fz, S.own, D.flat, txts_map, bools_map, txtKeys_map, List.length_map, List.map_cons, List.map_nil, List.length_cons, List.length_nil, List.cons_append, List.nil_append, List.replicate, decide_eq_true_eq, Bool.not_eq_true', Bool.not_true, Bool.not_false, if_true, if_false, Nat.zero_add, Nat.reduceAdd, Nat.reduceSub, ge_iff_le, true_and, and_true, zip_unzip, Bool.false_xor, Bool.true_xor, Bool.false_eq_true, Bool.true_eq_false, reduceIte, wipeR, dataR_cons, dataR_nil, dataO_d, dataO_none, dataO_ol, dataO_od, oDict, oIsi, tyD, isiB, wSl, wPart, wNoP, oSl, wDisp1, wDGet2, oRemove, atI_0, atI_1, atI_2, wiRev, revItems, oDictP, wForK, wiKeys, kD, oSortX, oPow, oBitAnd, oShl, oNeg, wUn, oInt, oStr, oDivmod, oIs, isD, wChain, wFz, wFzE, frzR, wLSet, wiZip, seqsD, wiVals, wiItems, wOIx, wNo, Option.isSome_some, oMulX, wM1, oSplit, oPart, oStrip1, oRep, oSum, intsD, wRaise, wLI, wLK
, wiR3, wLR, wDisp, wPairs, oReverse, oClear, oInsert, wRevL, wDZ, seqLT, oSortIT, Function.comp, inS_one', decide_eq_true_eq]
        by_cases h : c ∈ sg p
        · rw [if_pos h] at hQ ⊢; exact hQ
        · rw [if_neg h] at hQ ⊢; exact hQ
      · have e3 : cs.filterMap (fun c => if c ∈ sg p then some (D.str (one c)) else none) = ((cs.filter fun c => decide (c ∈ sg p)).map one).map .str := by
          clear hy hcs hcl ho hpo
          induction cs with
          | nil => rfl
          | cons c l ih =>
            rw [List.filterMap_cons, List.filter_cons]
            by_cases h : c ∈ sg p
            · simp [h, ih]
            · simp [h, ih]
        have l9 : (cs.filter fun c => decide (c ∈ sg p)).length ≤ 9 := Nat.le_trans (List.length_filter_le _ _) hcl
        have h0 : Str.length "" = 0 := by decide +kernel
        simp only [S.fz, asSq]
        rw [e3, txts_map, asA_some, filter_prd hcs hp hpo]
        refine ⟨by rw [ones_sum, h0]; omega, ?_⟩
        simp only [wSeq, wSet, wAsg, wC, wIfS, wB, wOp, oI, oI0, asI, asS, asL, asLT, asT, asB, asA_some, asA_none, asO, asOL, asOD, asKey, asDic, asSq, oLen, oMod, oAdd, oSub, oMul, oDiv, oMax, oMin, oPlus, oEqX, oNeX, eqX_int, eqX_str, eqX_bl, oCmp, oLtX, oLeX, oGtX, oGeX, oIxX, oInX, wCB, wCons, wNil, wVar, wMove, nth, put, startR, wNext, wRet, wRetN, wDrop, wFor, wiR1, wiR2, wiX, itemsOf, wgName, wgTup, wgCons, wgNil, wLend, wLendT, seeR_cons, seeR_nil, seeO_d, seeO_none, seeO_ol, seeO_od, wJoin, wM, oAppend, oPop, oPopAt, wDPut, wDPop, wSortK, wDict0, wTup, wLst, wCall, wAnd, wOr, wNot, wAndV, wOrV, wNotV, wIf, wYes, wLc, wiEnumX, oListX, oTuple, oSort, oSortSet, oAll, oAny, S.fz, S.own, D.flat, txts_map, bools_map, txtKeys_map, List.length_map, List.map_cons, List.map_nil, List.length_cons, List.length_nil, List.cons_append, List.nil_append, List.replicate, decide_eq_true_eq, Bool.not_eq_true', Bool.not_true, Bool.not_false, if_true, if_false, Nat.zero_add, Nat.reduceAdd, Nat.reduceSub, ge_iff_le, true_and, and_true, zip_unzip, Bool.false_xor, Bool.true_xor, Bool.false_eq_true, Bool.true_eq_false, reduceIte, wipeR, dataR_cons, dataR_nil, dataO_d, dataO_none, dataO_ol, dataO_od, oDict, oIsi, tyD, isiB, wSl, wPart, wNoP, oSl, wDisp1, wDGet2, oRemove, atI_0, atI_1, atI_2, wiRev, revItems, oDictP, wForK, wiKeys, kD, oSortX, oPow, oBitAnd, oShl, oNeg, wUn, oInt, oStr, oDivmod, oIs, isD, wChain, wFz, wFzE, frzR, wLSet, wiZip, seqsD, wiVals, wiItems, wOIx, wNo, Option.isSome_some, oMulX, wM1, oSplit, oPart, oStrip1, oRep, oSum, intsD, wRaise, wLI, wLK
, wiR3, wLR, wDisp, wPairs, oReverse, oClear, oInsert, wRevL, wDZ, seqLT, oSortIT, decide_true]
        exact ⟨_, _, rfl⟩
    · obtain ⟨o, o2, rfl⟩ := hI
      simp only [wSeq, wSet, wAsg, wC, wIfS, wB, wOp, oI, oI0, asI, asS, asL, asLT, asT, asB, asA_some, asA_none, asO, asOL, asOD, asKey, asDic, asSq, oLen, oMod, oAdd, oSub, oMul, oDiv, oMax, oMin, oPlus, oEqX, oNeX, eqX_int, eqX_str, eqX_bl, oCmp, oLtX, oLeX, oGtX, oGeX, oIxX, oInX, wCB, wCons, wNil, wVar, wMove, nth, put, startR, wNext, wRet, wRetN, wDrop, wFor, wiR1, wiR2, wiX, itemsOf, wgName, wgTup, wgCons, wgNil, wLend, wLendT, seeR_cons, seeR_nil, seeO_d, seeO_none, seeO_ol, seeO_od, wJoin, wM, oAppend, oPop, oPopAt, wDPut, wDPop, wSortK, wDict0, wTup, wLst, wCall, wAnd, wOr, wNot, wAndV, wOrV, wNotV, wIf, wYes, wLc, wiEnumX, oListX, oTuple, oSort, oSortSet, oAll, oAny, S.fz, S.own, D.flat, txts_map, bools_map, txtKeys_map, List.length_map, List.map_cons, List.map_nil, List.length_cons, List.length_nil, List.cons_append, List.nil_append, List.replicate, decide_eq_true_eq, Bool.not_eq_true', Bool.not_true, Bool.not_false, if_true, if_false, Nat.zero_add, Nat.reduceAdd, Nat.reduceSub, ge_iff_le, true_and, and_true, zip_unzip, Bool.false_xor, Bool.true_xor, Bool.false_eq_true, Bool.true_eq_false, reduceIte, wipeR, dataR_cons, dataR_nil, dataO_d, dataO_none, dataO_ol, dataO_od, oDict, oIsi, tyD, isiB, wSl, wPart, wNoP, oSl, wDisp1, wDGet2, oRemove, atI_0, atI_1, atI_2, wiRev, revItems, oDictP, wForK, wiKeys, kD, oSortX, oPow, oBitAnd, oShl, oNeg, wUn, oInt, oStr, oDivmod, oIs, isD, wChain, wFz, wFzE, frzR, wLSet, wiZip, seqsD, wiVals, wiItems, wOIx, wNo, Option.isSome_some, oMulX, wM1, oSplit, oPart, oStrip1, oRep, oSum, intsD, wRaise, wLI, wLK
, wiR3, wLR, wDisp, wPairs, oReverse, oClear, oInsert, wRevL, wDZ, seqLT, oSortIT]
      exact hq
  · exact h.elim
/-! ### lists of forms compared -/
theorem pyds_fD : ∀ l : List (List Str), pyds (l.map fD) = some (l.map fun a => .tuple (a.map .str))
  | [] => rfl
  | x :: l => by rw [List.map_cons, pyds, pyd_fD, pyds_fD l]; rfl
theorem canLay_fD : ∀ l : List (List Str), (∀ a ∈ l, ∀ p ∈ a, PyData.strOk p = true) → PyData.canLayAll0 (l.map fun a => .tuple (a.map .str)) = true
  | [], _ => rfl
  | x :: l, h => by
    rw [List.map_cons, PyData.canLayAll0, canLay_fD l fun a ha => h a (List.mem_cons_of_mem _ ha), Bool.and_true]
    exact canLay_strs x (h x List.mem_cons_self)
theorem depth_fD : ∀ l : List (List Str), PyData.depthAll (l.map fun a => .tuple (a.map .str)) ≤ 3
  | [] => by decide
  | x :: l => by
    rw [List.map_cons]
    have h1 := depth_fD l
    have h2 := depth_strs x
    simp only [PyData.depthAll, PyData.depth]
    omega
theorem eqvAll_fD : ∀ l m : List (List Str), PyData.eqvAll (l.map fun a => .tuple (a.map .str)) (m.map fun a => .tuple (a.map .str)) = decide (l = m)
  | [], [] => rfl
  | [], y :: b => rfl
  | x :: a, [] => rfl
  | x :: a, y :: b => by
    rw [List.map_cons, List.map_cons, PyData.eqvAll, eqvAll_fD a b]
    show (PyData.eqvAll _ _ && _) = _
    rw [eqvAll_strs, Bool.eq_iff_iff]
    simp
theorem eqX_lstF {l m : List (List Str)} {P : Bool → Prop} (hl : ∀ a ∈ l, Frm a) (hm : ∀ a ∈ m, Frm a) : eqX (.lst (l.map fD)) (.lst (m.map fD)) P = P (decide (l = m)) := by
  have e : eqS (.lst (l.map fD)) (.lst (m.map fD)) = none := rfl
  have pl : ∀ l : List (List Str), pyd (.lst (l.map fD)) = some (.list (l.map fun a => .tuple (a.map .str))) := fun a => by unfold pyd; rw [pyds_fD]; rfl
  have sh : ∀ l : List (List Str), (∀ a ∈ l, Frm a) → SeqAt.shaped (.list (l.map fun a => .tuple (a.map .str))) = true := fun l h => by
    unfold SeqAt.shaped
    rw [Bool.and_eq_true]
    refine ⟨canLay_fD l fun a ha => (h a ha).ok, decide_eq_true ?_⟩
    have := depth_fD l
    simp only [PyData.depth]
    omega
  unfold eqX
  rw [e]
  show asA (pyd _) (fun q => asA (pyd _) fun r => SeqAt.shaped q = true ∧ SeqAt.shaped r = true ∧ P (PyData.eqv q r)) = _
  rw [pl, pl]
  show (SeqAt.shaped _ = true ∧ SeqAt.shaped _ = true ∧ P (PyData.eqvAll _ _)) = _
  rw [sh l hl, sh m hm, eqvAll_fD]
  simp
/-! ### letters kept by the operations -/
theorem over_added {s : Str} {a b : List Str} (ha : Over s a) (hb : Over s b) : Over s (addedF a b) := fun p hp => by
  have := odds_sub ((srt_perm _).mem_iff.mp hp)
  exact (List.mem_append.mp this).elim (ha p) (hb p)
theorem over_mul {s : Str} {a b : List Str} (ha : Over s a) (hb : Over s b) : Over s (mulF a b) := fun p hp c hc => by
  have h1 := odds_sub ((srt_perm _).mem_iff.mp hp)
  obtain ⟨x, hx, h⟩ := List.mem_flatMap.mp h1
  obtain ⟨y, hy, rfl⟩ := List.mem_map.mp h
  have h2 := ((sg_lets (x ++ y)).2 c).mp hc
  rw [sg_append] at h2
  exact (List.mem_append.mp h2).elim (ha x hx c) (hb y hy c)
theorem over_one {s : Str} : Over s oneF := fun p hp c hc => by
  simp [oneF] at hp; subst hp; rw [sg_nil] at hc; simp at hc
theorem over_nil {s : Str} : Over s [] := fun p hp => by simp at hp
theorem over_opp {s : Str} {a : List Str} (ha : Over s a) : Over s (oppF a) := over_added ha over_one
theorem over_join {s : Str} {a b : List Str} (ha : Over s a) (hb : Over s b) : Over s (joinF a b) := over_added (over_added ha hb) (over_mul ha hb)
/-- what _law_worth asks of a form over the letters of a row -/
theorem worth_pre {s : Str} {a : List Str} {r : Row} (ha : Frm a) (ho : Over s a) (hr : r.map (·.1) = sg s) : a.length ≤ 100000 ∧ ∀ p ∈ a, (sg p).length ≤ 1000 ∧ ∀ c ∈ sg p, c ∈ r.map (·.1) :=
  ⟨by have := ha.len; omega, fun p hp => ⟨by have := (ha.prd p hp).len; omega, fun c hc => by rw [hr]; exact ho p hp c hc⟩⟩
theorem prd_len {l : List Str} (hn : l.Nodup) (hp : ∀ p ∈ l, Prd p) : l.length ≤ 512 := by
  have h1 : (l.map sg).Nodup := by
    rw [List.nodup_iff_pairwise_ne, List.pairwise_map]
    exact (List.nodup_iff_pairwise_ne.mp hn).imp fun z e => z (sg_inj e)
  have h2 := h1.length_le_of_subset (l₂ := subs LET) fun x hx => by
    obtain ⟨p, h, rfl⟩ := List.mem_map.mp hx
    exact mem_subs LET_up (hp p h).up (hp p h).le
  rw [List.length_map] at h2
  exact Nat.le_trans h2 (by decide +kernel)
theorem tr_congr {s : Nat → Bool} {r : Nat → Bool} {p : Str} (h : ∀ c ∈ sg p, r c = s c) : tr r p = tr s p := by
  unfold tr
  rw [Bool.eq_iff_iff, List.all_eq_true, List.all_eq_true]
  exact ⟨fun z c hc => by rw [← h c hc]; exact z c hc, fun z c hc => by rw [h c hc]; exact z c hc⟩
theorem val_congr {s : Str} {f : List Str} {r r' : Nat → Bool} (ho : Over s f) (h : ∀ c ∈ sg s, r c = r' c) : val r f = val r' f := by
  unfold val
  have : f.countP (tr r) = f.countP (tr r') := by
    apply List.countP_congr
    intro p hp
    rw [tr_congr fun c hc => h c (ho p hp c hc)]
  rw [this]
theorem flat_strs (l : List Str) : (l.map D.str).all flatD = true := by rw [List.all_map, List.all_eq_true]; intro _ _; rfl
theorem inD_strs (b : Str) (l : List Str) : inD (.str b) (l.map D.str) = decide (b ∈ l) := by
  unfold inD
  induction l with
  | nil => rfl
  | cons x l ih =>
    rw [List.map_cons, List.any_cons, ih]
    show (x == b || _) = _
    rw [Bool.eq_iff_iff, Bool.or_eq_true, beq_iff_eq, decide_eq_true_iff, decide_eq_true_iff, List.mem_cons]
    exact or_congr ⟨Eq.symm, Eq.symm⟩ Iff.rfl
theorem flatD_str (b : Str) : flatD (.str b) = true := rfl
theorem lead_iff {a b : List Str} (ha : Frm a) (hb : Frm b) : leadF a b = true ↔ ∀ r, val r a = true → val r b = true := by
  unfold leadF
  rw [decide_eq_true_iff]
  constructor
  · intro h r hr
    have := congrArg (val r) h
    rw [val_mul, val_opp, val_nil, hr] at this
    revert this
    cases val r b <;> simp
  · intro h
    refine uniq (frm_mul ha (frm_opp hb)) frm_nil fun r => ?_
    rw [val_mul, val_opp, val_nil]
    have := h r
    revert this
    cases val r a <;> cases val r b <;> simp
end DL
/-! F26a: put_in, fixed_at, some_of, every_of, letters_of. -/
namespace DL
open PySem L2
abbrev gD_NEVER : D := .tup []
abbrev gD_ALWAYS : D := .tup [.str ""]
/-! ### letters by a property -/
def OverP (T : Nat → Prop) (f : List Str) : Prop := ∀ p ∈ f, ∀ c ∈ sg p, T c
theorem overP_added {T : Nat → Prop} {a b : List Str} (ha : OverP T a) (hb : OverP T b) : OverP T (addedF a b) := fun p hp => by
  have := odds_sub ((srt_perm _).mem_iff.mp hp)
  exact (List.mem_append.mp this).elim (ha p) (hb p)
theorem overP_mul {T : Nat → Prop} {a b : List Str} (ha : OverP T a) (hb : OverP T b) : OverP T (mulF a b) := fun p hp c hc => by
  have h1 := odds_sub ((srt_perm _).mem_iff.mp hp)
  obtain ⟨x, hx, h⟩ := List.mem_flatMap.mp h1
  obtain ⟨y, hy, rfl⟩ := List.mem_map.mp h
  have h2 := ((sg_lets (x ++ y)).2 c).mp hc
  rw [sg_append] at h2
  exact (List.mem_append.mp h2).elim (ha x hx c) (hb y hy c)
theorem overP_one {T : Nat → Prop} : OverP T oneF := fun p hp c hc => by
  simp [oneF] at hp; subst hp; rw [sg_nil] at hc; simp at hc
theorem overP_nil {T : Nat → Prop} : OverP T [] := fun p hp => by simp at hp
theorem overP_letter {T : Nat → Prop} {c : Nat} (h : T c) : OverP T [one c] := fun p hp d hd => by
  simp at hp; subst hp; rw [sg_one] at hd; simp at hd; subst hd; exact h
theorem overP_join {T : Nat → Prop} {a b : List Str} (ha : OverP T a) (hb : OverP T b) : OverP T (joinF a b) := overP_added (overP_added ha hb) (overP_mul ha hb)
theorem frm_letter {c : Nat} (h : c ∈ LET) : Frm [one c] := ⟨by simp, by simp, fun p hp => by
  simp at hp; subst hp
  exact ⟨by rw [sg_one]; simp, fun d hd => by rw [sg_one] at hd; simp at hd; subst hd; exact h⟩⟩
theorem val_letter (r : Nat → Bool) (c : Nat) : val r [one c] = r c := by
  have : tr r (one c) = r c := by simp [tr, sg_one]
  unfold val
  rw [List.countP_cons, this]
  cases r c <;> rfl
/-! ### put_in -/
def look (m : List (Str × List Str)) (s : Str) : List Str := match m.find? fun q => decide (q.1 = s) with
  | some q => q.2
  | none => [s]
def mapD (m : List (Str × List Str)) : D := .dic (m.map fun q => .inr q.1) (m.map fun q => fD q.2)
def mapK (m : List (Str × List Str)) : List (Key × D) := m.map fun q => (.inr q.1, fD q.2)
theorem mapK_zip (m : List (Str × List Str)) : (m.map fun q => (.inr q.1 : Key)).zip (m.map fun q => fD q.2) = mapK m := by
  induction m with
  | nil => rfl
  | cons p m ih => rw [List.map_cons, List.map_cons, List.zip_cons_cons, ih]; rfl
theorem get_map {m : List (Str × List Str)} {s : Str} : (vget (mapK m) (.inr s)).getD (.tup [.str s]) = fD (look m s) := by
  unfold look
  induction m with
  | nil => rfl
  | cons q m ih =>
    unfold vget mapK at ih ⊢
    rw [List.map_cons, List.find?_cons, List.find?_cons]
    by_cases e : q.1 = s
    · have e2 : decide ((Sum.inr q.1 : Key) = .inr s) = true := decide_eq_true (by rw [e])
      simp only [e2, decide_eq_true e]
      rfl
    · have e2 : decide ((Sum.inr q.1 : Key) = .inr s) = false := decide_eq_false fun z => e (Sum.inr.inj z)
      simp only [e2, decide_eq_false e]
      exact ih
def termF (m : List (Str × List Str)) (p : Str) : List Str := (sg p).foldl (fun t c => mulF t (look m (one c))) oneF
def putF (f : List Str) (m : List (Str × List Str)) : List Str := f.foldl (fun acc p => addedF acc (termF m p)) []
theorem putF_snoc (f : List Str) (p : Str) (m : List (Str × List Str)) : putF (f ++ [p]) m = addedF (putF f m) (termF m p) := by rw [putF, List.foldl_append]; rfl
theorem frm_look {m : List (Str × List Str)} {c : Nat} (h : ∀ q ∈ m, Frm q.2) (hc : c ∈ LET) : Frm (look m (one c)) := by
  unfold look
  split
  · rename_i q e
    exact h q (List.mem_of_find?_eq_some e)
  · exact frm_letter hc
theorem fold_term {m : List (Str × List Str)} (h : ∀ q ∈ m, Frm q.2) : ∀ (cs : List Nat) (t : List Str), (∀ c ∈ cs, c ∈ LET) → Frm t → Frm (cs.foldl (fun t c => mulF t (look m (one c))) t)
  | [], t, _, ht => ht
  | c :: cs, t, hc, ht => fold_term h cs _ (fun d hd => hc d (List.mem_cons_of_mem _ hd)) (frm_mul ht (frm_look h (hc c List.mem_cons_self)))
theorem frm_term {m : List (Str × List Str)} {p : Str} (h : ∀ q ∈ m, Frm q.2) (hp : Prd p) : Frm (termF m p) := fold_term h _ _ hp.le frm_one
theorem fold_put {m : List (Str × List Str)} (h : ∀ q ∈ m, Frm q.2) : ∀ (f a : List Str), (∀ p ∈ f, Prd p) → Frm a → Frm (f.foldl (fun acc p => addedF acc (termF m p)) a)
  | [], a, _, ha => ha
  | p :: f, a, hf, ha => fold_put h f _ (fun q hq => hf q (List.mem_cons_of_mem _ hq)) (frm_added ha (frm_term h (hf p List.mem_cons_self)))
theorem frm_put {f : List Str} {m : List (Str × List Str)} (h : ∀ q ∈ m, Frm q.2) (hf : ∀ p ∈ f, Prd p) : Frm (putF f m) := fold_put h f _ hf frm_nil
theorem val_term (r : Nat → Bool) (m : List (Str × List Str)) (p : Str) : val r (termF m p) = tr (fun c => val r (look m (one c))) p := by
  have aux : ∀ (cs : List Nat) (t : List Str), val r (cs.foldl (fun t c => mulF t (look m (one c))) t) = (val r t && cs.all fun c => val r (look m (one c))) := by
    intro cs
    induction cs with
    | nil => intro t; simp
    | cons c cs ih => intro t; rw [List.foldl_cons, ih, val_mul, List.all_cons, Bool.and_assoc]
  rw [termF, aux, val_one, Bool.true_and]; rfl
theorem val_cons (r : Nat → Bool) (p : Str) (f : List Str) : val r (p :: f) = xor (tr r p) (val r f) := by
  unfold val
  rw [List.countP_cons]
  cases tr r p <;> rcases Nat.mod_two_eq_zero_or_one (f.countP (tr r)) with h | h <;> simp [Nat.add_mod, h]
theorem val_put (r : Nat → Bool) (f : List Str) (m : List (Str × List Str)) : val r (putF f m) = val (fun c => val r (look m (one c))) f := by
  have aux : ∀ (f a : List Str), val r (f.foldl (fun acc p => addedF acc (termF m p)) a) = xor (val r a) (val (fun c => val r (look m (one c))) f) := by
    intro f
    induction f with
    | nil => intro a; rw [List.foldl_nil, val_nil, Bool.xor_false]
    | cons p f ih => intro a; rw [List.foldl_cons, ih, val_added, val_term, val_cons, Bool.xor_assoc]
  rw [putF, aux, val_nil, Bool.false_xor]
theorem overP_put {T : Nat → Prop} {f : List Str} {m : List (Str × List Str)} (h : ∀ p ∈ f, ∀ c ∈ sg p, OverP T (look m (one c))) : OverP T (putF f m) := by
  have aux1 : ∀ (cs : List Nat) (t : List Str), (∀ c ∈ cs, OverP T (look m (one c))) → OverP T t → OverP T (cs.foldl (fun t c => mulF t (look m (one c))) t) := by
    intro cs
    induction cs with
    | nil => intro t _ ht; exact ht
    | cons c cs ih => intro t hc ht; exact ih _ (fun d hd => hc d (List.mem_cons_of_mem _ hd)) (overP_mul ht (hc c List.mem_cons_self))
  have aux : ∀ (f a : List Str), (∀ p ∈ f, ∀ c ∈ sg p, OverP T (look m (one c))) → OverP T a → OverP T (f.foldl (fun acc p => addedF acc (termF m p)) a) := by
    intro f
    induction f with
    | nil => intro a _ ha; exact ha
    | cons p f ih => intro a hf ha; exact ih _ (fun q hq => hf q (List.mem_cons_of_mem _ hq)) (overP_added ha (aux1 _ _ (hf p List.mem_cons_self) overP_one))
  exact aux f [] h overP_nil
def sp_put_in : DSp := fun ds P _ => match ds with
  | [x, y] => asF x fun f => ∃ m : List (Str × List Str), y = mapD m ∧ (Frm f ∧ ∀ q ∈ m, Frm q.2) ∧ P (.d (fD (putF f m)))
  | _ => False
abbrev N_put_in : List Str := ["form", "forms", "found", "product", "term", "letter"]
def w_put_in_b1_t2 : WS := (wAsg (wCall sp_added (fun _ _ => False) (wCons (wVar 2) (wCons (wVar 4) wNil))) (wgName 2))
def w_put_in_b1_t1 : WS := wSeq (wFor (wiX (wVar 3)) (wgName 5)
      (wAsg (wCall sp_multiplied (fun _ _ => False) (wCons (wVar 4) (wCons (wDGet2 (wVar 1) (wVar 5) (wTup (wCons (wVar 5) wNil))) wNil))) (wgName 4)))
    w_put_in_b1_t2
def w_put_in_b1 : WS := wSeq (wAsg (wC gD_ALWAYS) (wgName 4))
    w_put_in_b1_t1
def w_put_in_t2 : WS := (wRet (wVar 2))
def w_put_in_t1 : WS := wSeq (wFor (wiX (wVar 0)) (wgName 3)
      w_put_in_b1)
    w_put_in_t2
def w_put_in : WS := wSeq (wAsg (wC gD_NEVER) (wgName 2))
    w_put_in_t1
theorem len_put_in {ds Q px} (h : sp_put_in ds Q px) : ds.length = 2 := by unfold sp_put_in at h; split at h <;> first | rfl | exact h.elim
theorem letter_fD (s : Str) : D.tup [D.str s] = fD [s] := rfl
theorem rd_put_in {ds Q px} (h : sp_put_in ds Q px) : w_put_in ⟨fun _ => Q (.d .non), Q, fun _ => False, fun _ => False⟩ (startR N_put_in ds) := by
  unfold sp_put_in at h
  split at h
  · obtain ⟨f, rfl, m, rfl, ⟨hf, hm⟩, hq⟩ := asF_of h
    clear h
    unfold w_put_in
    simp only [N_put_in, w_put_in_t1, w_put_in_t2, wSeq, wSet, wAsg, wC, wIfS, wB, wOp, oI, oI0, asI, asS, asL, asLT, asT, asB, asA_some, asA_none, asO, asOL, asOD, asKey, asDic, asSq, oLen, oMod, oAdd, oSub, oMul, oDiv, oMax, oMin, oPlus, oEqX, oNeX, eqX_int, eqX_str, eqX_bl, oCmp, oLtX, oLeX, oGtX, oGeX, oIxX, oInX, wCB, wCons, wNil, wVar, wMove, nth, put, startR, wNext, wRet, wRetN, wDrop, wFor, wiR1, wiR2, wiX, itemsOf, wgName, wgTup, wgCons, wgNil, wLend, wLendT, seeR_cons, seeR_nil, seeO_d, seeO_none, seeO_ol, seeO_od, wJoin, wM, oAppend, oPop, oPopAt, wDPut, wDPop, wSortK, wDict0, wTup, wLst, wCall, wAnd, wOr, wNot, wAndV, wOrV, wNotV, wIf, wYes, wLc, wiEnumX, oListX, oTuple, oSort, oSortSet, oAll, oAny, S.fz, S.own, D.flat, txts_map, bools_map, txtKeys_map, List.length_map, List.map_cons, List.map_nil, List.length_cons, List.length_nil, List.cons_append, List.nil_append, List.replicate, decide_eq_true_eq, Bool.not_eq_true', Bool.not_true, Bool.not_false, if_true, if_false, Nat.zero_add, Nat.reduceAdd, Nat.reduceSub, ge_iff_le, true_and, and_true, zip_unzip, Bool.false_xor, Bool.true_xor, Bool.false_eq_true, Bool.true_eq_false, reduceIte, wipeR, dataR_cons, dataR_nil, dataO_d, dataO_none, dataO_ol, dataO_od, oDict, oIsi, tyD, isiB, wSl, wPart, wNoP, oSl, wDisp1, wDGet2, oRemove, atI_0, atI_1, atI_2, wiRev, revItems, oDictP, wForK, wiKeys, kD, oSortX, oPow, oBitAnd, oShl, oNeg, wUn, oInt, oStr, oDivmod, oIs, isD, wChain, wFz, wFzE, frzR, wLSet, wiZip, seqsD, wiVals, wiItems, wOIx, wNo, Option.isSome_some, oMulX, wM1, oSplit, oPart, oStrip1, oRep, oSum, intsD, wRaise, wLI, wLK
, wiR3, wLR, wDisp, wPairs, oReverse, oClear, oInsert, wRevL, wDZ, seqLT, oSortIT]
    show forD _ _ _ (f.map .str) _
    refine forD_map (I := fun done _ ρ => ∃ (o3 o4 o5 : Option S), ρ = [some (.d (fD f)), some (.d (mapD m)), some (.d (fD (putF done m))), o3, o4, o5]) mono_name f (fun done p ys ρ he hI => ?_) (fun ρ hI => ?_) _ ⟨_, _, _, rfl⟩
    · obtain ⟨o3, o4, o5, rfl⟩ := hI
      have hp := hf.prd p (by rw [he]; simp)
      have hd : Frm (putF done m) := frm_put hm fun q hq => hf.prd q (by rw [he]; exact List.mem_append.mpr (.inl hq))
      have ht := frm_term hm hp
      simp only [w_put_in_b1, w_put_in_b1_t1, w_put_in_b1_t2, wSeq, wSet, wAsg, wC, wIfS, wB, wOp, oI, oI0, asI, asS, asL, asLT, asT, asB, asA_some, asA_none, asO, asOL, asOD, asKey, asDic, asSq, oLen, oMod, oAdd, oSub, oMul, oDiv, oMax, oMin, oPlus, oEqX, oNeX, eqX_int, eqX_str, eqX_bl, oCmp, oLtX, oLeX, oGtX, oGeX, oIxX, oInX, wCB, wCons, wNil, wVar, wMove, nth, put, startR, wNext, wRet, wRetN, wDrop, wFor, wiR1, wiR2, wiX, itemsOf, wgName, wgTup, wgCons, wgNil, wLend, wLendT, seeR_cons, seeR_nil, seeO_d, seeO_none, seeO_ol, seeO_od, wJoin, wM, oAppend, oPop, oPopAt, wDPut, wDPop, wSortK, wDict0, wTup, wLst, wCall, wAnd, wOr, wNot, wAndV, wOrV, wNotV, wIf, wYes, wLc, wiEnumX, oListX, oTuple, oSort, oSortSet, oAll, oAny, S.fz, S.own, D.flat, txts_map, bools_map, txtKeys_map, List.length_map, List.map_cons, List.map_nil, List.length_cons, List.length_nil, List.cons_append, List.nil_append, List.replicate, decide_eq_true_eq, Bool.not_eq_true', Bool.not_true, Bool.not_false, if_true, if_false, Nat.zero_add, Nat.reduceAdd, Nat.reduceSub, ge_iff_le, true_and, and_true, zip_unzip, Bool.false_xor, Bool.true_xor, Bool.false_eq_true, Bool.true_eq_false, reduceIte, wipeR, dataR_cons, dataR_nil, dataO_d, dataO_none, dataO_ol, dataO_od, oDict, oIsi, tyD, isiB, wSl, wPart, wNoP, oSl, wDisp1, wDGet2, oRemove, atI_0, atI_1, atI_2, wiRev, revItems, oDictP, wForK, wiKeys, kD, oSortX, oPow, oBitAnd, oShl, oNeg, wUn, oInt, oStr, oDivmod, oIs, isD, wChain, wFz, wFzE, frzR, wLSet, wiZip, seqsD, wiVals, wiItems, wOIx, wNo, Option.isSome_some, oMulX, wM1, oSplit, oPart, oStrip1, oRep, oSum, intsD, wRaise, wLI, wLK
, wiR3, wLR, wDisp, wPairs, oReverse, oClear, oInsert, wRevL, wDZ, seqLT, oSortIT]
      rw [signs_eq, List.map_map]
      refine forD_map (I := fun dc _ ρ => ∃ (o5 : Option S), ρ = [some (.d (fD f)), some (.d (mapD m)), some (.d (fD (putF done m))), some (.d (.str p)), some (.d (fD (dc.foldl (fun t c => mulF t (look m (one c))) oneF))), o5]) mono_name (sg p) (fun dc c ys2 ρ he2 hI => ?_) (fun ρ hI => ?_) _ ⟨_, rfl⟩
      · obtain ⟨o5, rfl⟩ := hI
        have hc : c ∈ LET := hp.le c (by rw [he2]; simp)
        have hdc := fold_term hm dc oneF (fun d hd => hp.le d (by rw [he2]; exact List.mem_append.mpr (.inl hd))) frm_one
        simp only [wSeq, wSet, wAsg, wC, wIfS, wB, wOp, oI, oI0, asI, asS, asL, asLT, asT, asB, asA_some, asA_none, asO, asOL, asOD, asKey, asDic, asSq, oLen, oMod, oAdd, oSub, oMul, oDiv, oMax, oMin, oPlus, oEqX, oNeX, eqX_int, eqX_str, eqX_bl, oCmp, oLtX, oLeX, oGtX, oGeX, oIxX, oInX, wCB, wCons, wNil, wVar, wMove, nth, put, startR, wNext, wRet, wRetN, wDrop, wFor, wiR1, wiR2, wiX, itemsOf, wgName, wgTup, wgCons, wgNil, wLend, wLendT, seeR_cons, seeR_nil, seeO_d, seeO_none, seeO_ol, seeO_od, wJoin, wM, oAppend, oPop, oPopAt, wDPut, wDPop, wSortK, wDict0, wTup, wLst, wCall, wAnd, wOr, wNot, wAndV, wOrV, wNotV, wIf, wYes, wLc, wiEnumX, oListX, oTuple, oSort, oSortSet, oAll, oAny, S.fz, S.own, D.flat, txts_map, bools_map, txtKeys_map, List.length_map, List.map_cons, List.map_nil, List.length_cons, List.length_nil, List.cons_append, List.nil_append, List.replicate, decide_eq_true_eq, Bool.not_eq_true', Bool.not_true, Bool.not_false, if_true, if_false, Nat.zero_add, Nat.reduceAdd, Nat.reduceSub, ge_iff_le, true_and, and_true, zip_unzip, Bool.false_xor, Bool.true_xor, Bool.false_eq_true, Bool.true_eq_false, reduceIte, wipeR, dataR_cons, dataR_nil, dataO_d, dataO_none, dataO_ol, dataO_od, oDict, oIsi, tyD, isiB, wSl, wPart, wNoP, oSl, wDisp1, wDGet2, oRemove, atI_0, atI_1, atI_2, wiRev, revItems, oDictP, wForK, wiKeys, kD, oSortX, oPow, oBitAnd, oShl, oNeg, wUn, oInt, oStr, oDivmod, oIs, isD, wChain, wFz, wFzE, frzR, wLSet, wiZip, seqsD, wiVals, wiItems, wOIx, wNo, Option.isSome_some, oMulX, wM1, oSplit, oPart, oStrip1, oRep, oSum, intsD, wRaise, wLI, wLK
, wiR3, wLR, wDisp, wPairs, oReverse, oClear, oInsert, wRevL, wDZ, seqLT, oSortIT, Function.comp, sp_multiplied, asF_fD, mapD, mapK_zip, get_map]
        refine ⟨by decide, ⟨hdc, frm_look hm hc⟩, some (.d (.str (one c))), ?_⟩
        rw [List.foldl_append]; rfl
      · obtain ⟨o5, rfl⟩ := hI
        simp only [wSeq, wSet, wAsg, wC, wIfS, wB, wOp, oI, oI0, asI, asS, asL, asLT, asT, asB, asA_some, asA_none, asO, asOL, asOD, asKey, asDic, asSq, oLen, oMod, oAdd, oSub, oMul, oDiv, oMax, oMin, oPlus, oEqX, oNeX, eqX_int, eqX_str, eqX_bl, oCmp, oLtX, oLeX, oGtX, oGeX, oIxX, oInX, wCB, wCons, wNil, wVar, wMove, nth, put, startR, wNext, wRet, wRetN, wDrop, wFor, wiR1, wiR2, wiX, itemsOf, wgName, wgTup, wgCons, wgNil, wLend, wLendT, seeR_cons, seeR_nil, seeO_d, seeO_none, seeO_ol, seeO_od, wJoin, wM, oAppend, oPop, oPopAt, wDPut, wDPop, wSortK, wDict0, wTup, wLst, wCall, wAnd, wOr, wNot, wAndV, wOrV, wNotV, wIf, wYes, wLc, wiEnumX, oListX, oTuple, oSort, oSortSet, oAll, oAny, S.fz, S.own, D.flat, txts_map, bools_map, txtKeys_map, List.length_map, List.map_cons, List.map_nil, List.length_cons, List.length_nil, List.cons_append, List.nil_append, List.replicate, decide_eq_true_eq, Bool.not_eq_true', Bool.not_true, Bool.not_false, if_true, if_false, Nat.zero_add, Nat.reduceAdd, Nat.reduceSub, ge_iff_le, true_and, and_true, zip_unzip, Bool.false_xor, Bool.true_xor, Bool.false_eq_true, Bool.true_eq_false, reduceIte, wipeR, dataR_cons, dataR_nil, dataO_d, dataO_none, dataO_ol, dataO_od, oDict, oIsi, tyD, isiB, wSl, wPart, wNoP, oSl, wDisp1, wDGet2, oRemove, atI_0, atI_1, atI_2, wiRev, revItems, oDictP, wForK, wiKeys, kD, oSortX, oPow, oBitAnd, oShl, oNeg, wUn, oInt, oStr, oDivmod, oIs, isD, wChain, wFz, wFzE, frzR, wLSet, wiZip, seqsD, wiVals, wiItems, wOIx, wNo, Option.isSome_some, oMulX, wM1, oSplit, oPart, oStrip1, oRep, oSum, intsD, wRaise, wLI, wLK
, wiR3, wLR, wDisp, wPairs, oReverse, oClear, oInsert, wRevL, wDZ, seqLT, oSortIT, sp_added, asF_fD]
        refine ⟨⟨by have := hd.len; omega, by have := ht.len; exact Nat.le_trans this (by decide)⟩, some (.d (.str p)), some (.d (fD (termF m p))), o5, ?_⟩
        rw [putF_snoc]; rfl
    · obtain ⟨o3, o4, o5, rfl⟩ := hI
      simp only [wSeq, wSet, wAsg, wC, wIfS, wB, wOp, oI, oI0, asI, asS, asL, asLT, asT, asB, asA_some, asA_none, asO, asOL, asOD, asKey, asDic, asSq, oLen, oMod, oAdd, oSub, oMul, oDiv, oMax, oMin, oPlus, oEqX, oNeX, eqX_int, eqX_str, eqX_bl, oCmp, oLtX, oLeX, oGtX, oGeX, oIxX, oInX, wCB, wCons, wNil, wVar, wMove, nth, put, startR, wNext, wRet, wRetN, wDrop, wFor, wiR1, wiR2, wiX, itemsOf, wgName, wgTup, wgCons, wgNil, wLend, wLendT, seeR_cons, seeR_nil, seeO_d, seeO_none, seeO_ol, seeO_od, wJoin, wM, oAppend, oPop, oPopAt, wDPut, wDPop, wSortK, wDict0, wTup, wLst, wCall, wAnd, wOr, wNot, wAndV, wOrV, wNotV, wIf, wYes, wLc, wiEnumX, oListX, oTuple, oSort, oSortSet, oAll, oAny, S.fz, S.own, D.flat, txts_map, bools_map, txtKeys_map, List.length_map, List.map_cons, List.map_nil, List.length_cons, List.length_nil, List.cons_append, List.nil_append, List.replicate, decide_eq_true_eq, Bool.not_eq_true', Bool.not_true, Bool.not_false, if_true, if_false, Nat.zero_add, Nat.reduceAdd, Nat.reduceSub, ge_iff_le, true_and, and_true, zip_unzip, Bool.false_xor, Bool.true_xor, Bool.false_eq_true, Bool.true_eq_false, reduceIte, wipeR, dataR_cons, dataR_nil, dataO_d, dataO_none, dataO_ol, dataO_od, oDict, oIsi, tyD, isiB, wSl, wPart, wNoP, oSl, wDisp1, wDGet2, oRemove, atI_0, atI_1, atI_2, wiRev, revItems, oDictP, wForK, wiKeys, kD, oSortX, oPow, oBitAnd, oShl, oNeg, wUn, oInt, oStr, oDivmod, oIs, isD, wChain, wFz, wFzE, frzR, wLSet, wiZip, seqsD, wiVals, wiItems, wOIx, wNo, Option.isSome_some, oMulX, wM1, oSplit, oPart, oStrip1, oRep, oSum, intsD, wRaise, wLI, wLK
, wiR3, wLR, wDisp, wPairs, oReverse, oClear, oInsert, wRevL, wDZ, seqLT, oSortIT]
      exact hq
  · exact h.elim
/-! ### fixed_at -/
def fixF (f : List Str) (c : Nat) (t : Bool) : List Str := putF f [(one c, if t = true then oneF else [])]
def updR (r : Nat → Bool) (c : Nat) (t : Bool) : Nat → Bool := fun d => if d = c then t else r d
theorem look_fix {c d : Nat} {t : Bool} : look [(one c, if t = true then oneF else [])] (one d) = if d = c then (if t = true then oneF else []) else [one d] := by
  unfold look
  by_cases h : d = c
  · subst h; simp
  · have : ¬ one c = one d := fun e => h (one_inj e).symm
    simp [this, h]
theorem frm_fixd {c : Nat} {t : Bool} : ∀ q ∈ [(one c, if t = true then oneF else [])], Frm q.2 := fun q hq => by
  simp at hq; subst hq
  cases t
  · exact frm_nil
  · exact frm_one
theorem frm_fix {f : List Str} {c : Nat} {t : Bool} (hf : Frm f) : Frm (fixF f c t) := frm_put frm_fixd hf.prd
theorem val_fix (r : Nat → Bool) (f : List Str) (c : Nat) (t : Bool) : val r (fixF f c t) = val (updR r c t) f := by
  rw [fixF, val_put]
  congr 1
  funext d
  rw [look_fix]
  unfold updR
  by_cases h : d = c
  · rw [if_pos h, if_pos h]
    cases t
    · rfl
    · exact val_one r
  · rw [if_neg h, if_neg h, val_letter]
theorem overP_fix {T : Nat → Prop} {f : List Str} {c : Nat} {t : Bool} (h : OverP T f) : OverP (fun d => T d ∧ d ≠ c) (fixF f c t) := overP_put fun p hp d hd => by
  rw [look_fix]
  by_cases e : d = c
  · rw [if_pos e]
    cases t
    · exact overP_nil
    · exact overP_one
  · rw [if_neg e]
    exact overP_letter ⟨h p hp d hd, e⟩
def sp_fixed_at : DSp := fun ds P _ => match ds with
  | [x, .str s, .bl t] => asF x fun f => ∃ c, s = one c ∧ Frm f ∧ P (.d (fD (fixF f c t)))
  | _ => False
abbrev N_fixed_at : List Str := ["form", "letter", "truth"]
def w_fixed_at_t1 : WS := (wRet (wCall sp_put_in (fun _ _ => False) (wCons (wVar 0) (wCons (wDisp1 (wVar 1) (wC gD_NEVER)) wNil))))
def w_fixed_at : WS := wSeq (wIfS (wB (wVar 2)) (wRet (wCall sp_put_in (fun _ _ => False) (wCons (wVar 0) (wCons (wDisp1 (wVar 1) (wC gD_ALWAYS)) wNil)))) wNext)
    w_fixed_at_t1
theorem len_fixed_at {ds Q px} (h : sp_fixed_at ds Q px) : ds.length = 3 := by unfold sp_fixed_at at h; split at h <;> first | rfl | exact h.elim
theorem rd_fixed_at {ds Q px} (h : sp_fixed_at ds Q px) : w_fixed_at ⟨fun _ => Q (.d .non), Q, fun _ => False, fun _ => False⟩ (startR N_fixed_at ds) := by
  unfold sp_fixed_at at h
  split at h
  · rename_i x s t
    obtain ⟨f, rfl, c, rfl, hf, hq⟩ := asF_of h
    clear h
    unfold w_fixed_at
    simp only [N_fixed_at, w_fixed_at_t1, wSeq, wSet, wAsg, wC, wIfS, wB, wOp, oI, oI0, asI, asS, asL, asLT, asT, asB, asA_some, asA_none, asO, asOL, asOD, asKey, asDic, asSq, oLen, oMod, oAdd, oSub, oMul, oDiv, oMax, oMin, oPlus, oEqX, oNeX, eqX_int, eqX_str, eqX_bl, oCmp, oLtX, oLeX, oGtX, oGeX, oIxX, oInX, wCB, wCons, wNil, wVar, wMove, nth, put, startR, wNext, wRet, wRetN, wDrop, wFor, wiR1, wiR2, wiX, itemsOf, wgName, wgTup, wgCons, wgNil, wLend, wLendT, seeR_cons, seeR_nil, seeO_d, seeO_none, seeO_ol, seeO_od, wJoin, wM, oAppend, oPop, oPopAt, wDPut, wDPop, wSortK, wDict0, wTup, wLst, wCall, wAnd, wOr, wNot, wAndV, wOrV, wNotV, wIf, wYes, wLc, wiEnumX, oListX, oTuple, oSort, oSortSet, oAll, oAny, S.fz, S.own, D.flat, txts_map, bools_map, txtKeys_map, List.length_map, List.map_cons, List.map_nil, List.length_cons, List.length_nil, List.cons_append, List.nil_append, List.replicate, decide_eq_true_eq, Bool.not_eq_true', Bool.not_true, Bool.not_false, if_true, if_false, Nat.zero_add, Nat.reduceAdd, Nat.reduceSub, ge_iff_le, true_and, and_true, zip_unzip, Bool.false_xor, Bool.true_xor, Bool.false_eq_true, Bool.true_eq_false, reduceIte, wipeR, dataR_cons, dataR_nil, dataO_d, dataO_none, dataO_ol, dataO_od, oDict, oIsi, tyD, isiB, wSl, wPart, wNoP, oSl, wDisp1, wDGet2, oRemove, atI_0, atI_1, atI_2, wiRev, revItems, oDictP, wForK, wiKeys, kD, oSortX, oPow, oBitAnd, oShl, oNeg, wUn, oInt, oStr, oDivmod, oIs, isD, wChain, wFz, wFzE, frzR, wLSet, wiZip, seqsD, wiVals, wiItems, wOIx, wNo, Option.isSome_some, oMulX, wM1, oSplit, oPart, oStrip1, oRep, oSum, intsD, wRaise, wLI, wLK
, wiR3, wLR, wDisp, wPairs, oReverse, oClear, oInsert, wRevL, wDZ, seqLT, oSortIT, sp_put_in, asF_fD]
    cases t with
    | true =>
      simp only [wSeq, wSet, wAsg, wC, wIfS, wB, wOp, oI, oI0, asI, asS, asL, asLT, asT, asB, asA_some, asA_none, asO, asOL, asOD, asKey, asDic, asSq, oLen, oMod, oAdd, oSub, oMul, oDiv, oMax, oMin, oPlus, oEqX, oNeX, eqX_int, eqX_str, eqX_bl, oCmp, oLtX, oLeX, oGtX, oGeX, oIxX, oInX, wCB, wCons, wNil, wVar, wMove, nth, put, startR, wNext, wRet, wRetN, wDrop, wFor, wiR1, wiR2, wiX, itemsOf, wgName, wgTup, wgCons, wgNil, wLend, wLendT, seeR_cons, seeR_nil, seeO_d, seeO_none, seeO_ol, seeO_od, wJoin, wM, oAppend, oPop, oPopAt, wDPut, wDPop, wSortK, wDict0, wTup, wLst, wCall, wAnd, wOr, wNot, wAndV, wOrV, wNotV, wIf, wYes, wLc, wiEnumX, oListX, oTuple, oSort, oSortSet, oAll, oAny, S.fz, S.own, D.flat, txts_map, bools_map, txtKeys_map, List.length_map, List.map_cons, List.map_nil, List.length_cons, List.length_nil, List.cons_append, List.nil_append, List.replicate, decide_eq_true_eq, Bool.not_eq_true', Bool.not_true, Bool.not_false, if_true, if_false, Nat.zero_add, Nat.reduceAdd, Nat.reduceSub, ge_iff_le, true_and, and_true, zip_unzip, Bool.false_xor, Bool.true_xor, Bool.false_eq_true, Bool.true_eq_false, reduceIte, wipeR, dataR_cons, dataR_nil, dataO_d, dataO_none, dataO_ol, dataO_od, oDict, oIsi, tyD, isiB, wSl, wPart, wNoP, oSl, wDisp1, wDGet2, oRemove, atI_0, atI_1, atI_2, wiRev, revItems, oDictP, wForK, wiKeys, kD, oSortX, oPow, oBitAnd, oShl, oNeg, wUn, oInt, oStr, oDivmod, oIs, isD, wChain, wFz, wFzE, frzR, wLSet, wiZip, seqsD, wiVals, wiItems, wOIx, wNo, Option.isSome_some, oMulX, wM1, oSplit, oPart, oStrip1, oRep, oSum, intsD, wRaise, wLI, wLK
, wiR3, wLR, wDisp, wPairs, oReverse, oClear, oInsert, wRevL, wDZ, seqLT, oSortIT]
      exact ⟨[(one c, oneF)], rfl, ⟨hf, frm_fixd (t := true)⟩, hq⟩
    | false =>
      simp only [wSeq, wSet, wAsg, wC, wIfS, wB, wOp, oI, oI0, asI, asS, asL, asLT, asT, asB, asA_some, asA_none, asO, asOL, asOD, asKey, asDic, asSq, oLen, oMod, oAdd, oSub, oMul, oDiv, oMax, oMin, oPlus, oEqX, oNeX, eqX_int, eqX_str, eqX_bl, oCmp, oLtX, oLeX, oGtX, oGeX, oIxX, oInX, wCB, wCons, wNil, wVar, wMove, nth, put, startR, wNext, wRet, wRetN, wDrop, wFor, wiR1, wiR2, wiX, itemsOf, wgName, wgTup, wgCons, wgNil, wLend, wLendT, seeR_cons, seeR_nil, seeO_d, seeO_none, seeO_ol, seeO_od, wJoin, wM, oAppend, oPop, oPopAt, wDPut, wDPop, wSortK, wDict0, wTup, wLst, wCall, wAnd, wOr, wNot, wAndV, wOrV, wNotV, wIf, wYes, wLc, wiEnumX, oListX, oTuple, oSort, oSortSet, oAll, oAny, S.fz, S.own, D.flat, txts_map, bools_map, txtKeys_map, List.length_map, List.map_cons, List.map_nil, List.length_cons, List.length_nil, List.cons_append, List.nil_append, List.replicate, decide_eq_true_eq, Bool.not_eq_true', Bool.not_true, Bool.not_false, if_true, if_false, Nat.zero_add, Nat.reduceAdd, Nat.reduceSub, ge_iff_le, true_and, and_true, zip_unzip, Bool.false_xor, Bool.true_xor, Bool.false_eq_true, Bool.true_eq_false, reduceIte, wipeR, dataR_cons, dataR_nil, dataO_d, dataO_none, dataO_ol, dataO_od, oDict, oIsi, tyD, isiB, wSl, wPart, wNoP, oSl, wDisp1, wDGet2, oRemove, atI_0, atI_1, atI_2, wiRev, revItems, oDictP, wForK, wiKeys, kD, oSortX, oPow, oBitAnd, oShl, oNeg, wUn, oInt, oStr, oDivmod, oIs, isD, wChain, wFz, wFzE, frzR, wLSet, wiZip, seqsD, wiVals, wiItems, wOIx, wNo, Option.isSome_some, oMulX, wM1, oSplit, oPart, oStrip1, oRep, oSum, intsD, wRaise, wLI, wLK
, wiR3, wLR, wDisp, wPairs, oReverse, oClear, oInsert, wRevL, wDZ, seqLT, oSortIT]
      exact ⟨[(one c, [])], rfl, ⟨hf, frm_fixd (t := false)⟩, hq⟩
  · exact h.elim
/-! ### some_of, every_of -/
def someS (f : List Str) (c : Nat) : List Str := joinF (fixF f c false) (fixF f c true)
def everyS (f : List Str) (c : Nat) : List Str := mulF (fixF f c false) (fixF f c true)
def someF (f : List Str) (cs : List Nat) : List Str := cs.foldl someS f
def everyF (f : List Str) (cs : List Nat) : List Str := cs.foldl everyS f
theorem frm_someS {f : List Str} {c : Nat} (h : Frm f) : Frm (someS f c) := frm_join (frm_fix h) (frm_fix h)
theorem frm_everyS {f : List Str} {c : Nat} (h : Frm f) : Frm (everyS f c) := frm_mul (frm_fix h) (frm_fix h)
theorem frm_some : ∀ {cs : List Nat} {f : List Str}, Frm f → Frm (someF f cs)
  | [], _, h => h
  | _ :: cs, _, h => frm_some (cs := cs) (frm_someS h)
theorem frm_every : ∀ {cs : List Nat} {f : List Str}, Frm f → Frm (everyF f cs)
  | [], _, h => h
  | _ :: cs, _, h => frm_every (cs := cs) (frm_everyS h)
theorem overP_some : ∀ {cs : List Nat} {T : Nat → Prop} {f : List Str}, OverP T f → OverP (fun d => T d ∧ d ∉ cs) (someF f cs)
  | [], T, f, h => fun p hp c hc => ⟨h p hp c hc, by simp⟩
  | c :: cs, T, f, h => fun p hp d hd => by
    have := overP_some (cs := cs) (f := someS f c) (overP_join (overP_fix h) (overP_fix h)) p hp d hd
    exact ⟨this.1.1, fun z => (List.mem_cons.mp z).elim this.1.2 this.2⟩
theorem overP_every : ∀ {cs : List Nat} {T : Nat → Prop} {f : List Str}, OverP T f → OverP (fun d => T d ∧ d ∉ cs) (everyF f cs)
  | [], T, f, h => fun p hp c hc => ⟨h p hp c hc, by simp⟩
  | c :: cs, T, f, h => fun p hp d hd => by
    have := overP_every (cs := cs) (f := everyS f c) (overP_mul (overP_fix h) (overP_fix h)) p hp d hd
    exact ⟨this.1.1, fun z => (List.mem_cons.mp z).elim this.1.2 this.2⟩
theorem updR_self (r : Nat → Bool) (c : Nat) : updR r c (r c) = r := by funext d; unfold updR; split <;> simp_all
theorem updR_of {r : Nat → Bool} {c : Nat} {t : Bool} (h : r c = t) : updR r c t = r := by subst h; exact updR_self r c
/-- by some of the rows that differ by these letters alone -/
theorem val_some : ∀ (cs : List Nat) (f : List Str) (r : Nat → Bool), val r (someF f cs) = true ↔ ∃ r', (∀ d, d ∉ cs → r' d = r d) ∧ val r' f = true
  | [], f, r => ⟨fun h => ⟨r, fun _ _ => rfl, h⟩, fun ⟨r', e, h⟩ => by
    have : r' = r := funext fun d => e d (by simp)
    subst this; exact h⟩
  | c :: cs, f, r => by
    show val r (someF (someS f c) cs) = true ↔ _
    rw [val_some cs (someS f c) r]
    constructor
    · rintro ⟨r', e, h⟩
      rw [someS, val_join, val_fix, val_fix, Bool.or_eq_true] at h
      rcases h with h | h
      · refine ⟨updR r' c false, fun d hd => ?_, h⟩
        have h1 : d ≠ c := fun z => hd (z ▸ List.mem_cons_self)
        rw [updR, if_neg h1]; exact e d fun z => hd (List.mem_cons_of_mem _ z)
      · refine ⟨updR r' c true, fun d hd => ?_, h⟩
        have h1 : d ≠ c := fun z => hd (z ▸ List.mem_cons_self)
        rw [updR, if_neg h1]; exact e d fun z => hd (List.mem_cons_of_mem _ z)
    · rintro ⟨r', e, h⟩
      by_cases hc : c ∈ cs
      · refine ⟨r', fun d hd => e d fun z => (List.mem_cons.mp z).elim (fun y => hd (y ▸ hc)) hd, ?_⟩
        rw [someS, val_join, val_fix, val_fix]
        cases hb : r' c with
        | true => rw [updR_of hb, h, Bool.or_true]
        | false => rw [updR_of hb, h, Bool.true_or]
      · refine ⟨updR r' c (r c), fun d hd => ?_, ?_⟩
        · unfold updR
          by_cases h1 : d = c
          · rw [if_pos h1, h1]
          · rw [if_neg h1]; exact e d fun z => (List.mem_cons.mp z).elim h1 hd
        · have ee : ∀ t, updR (updR r' c (r c)) c t = updR r' c t := fun t => by funext d; unfold updR; split <;> rfl
          rw [someS, val_join, val_fix, val_fix, ee, ee]
          cases hb : r' c with
          | true => rw [updR_of hb, h, Bool.or_true]
          | false => rw [updR_of hb, h, Bool.true_or]
theorem val_every : ∀ (cs : List Nat) (f : List Str) (r : Nat → Bool), val r (everyF f cs) = true ↔ ∀ r', (∀ d, d ∉ cs → r' d = r d) → val r' f = true
  | [], f, r => ⟨fun h r' e => by
    have : r' = r := funext fun d => e d (by simp)
    subst this; exact h, fun h => h r fun _ _ => rfl⟩
  | c :: cs, f, r => by
    show val r (everyF (everyS f c) cs) = true ↔ _
    rw [val_every cs (everyS f c) r]
    constructor
    · intro h r' e
      by_cases hc : c ∈ cs
      · have := h r' fun d hd => e d fun z => (List.mem_cons.mp z).elim (fun y => hd (y ▸ hc)) hd
        rw [everyS, val_mul, val_fix, val_fix, Bool.and_eq_true] at this
        cases hb : r' c with
        | true => have := this.2; rw [updR_of hb] at this; exact this
        | false => have := this.1; rw [updR_of hb] at this; exact this
      · have := h (updR r' c (r c)) fun d hd => by
          unfold updR
          by_cases h1 : d = c
          · rw [if_pos h1, h1]
          · rw [if_neg h1]; exact e d fun z => (List.mem_cons.mp z).elim h1 hd
        have ee : ∀ t, updR (updR r' c (r c)) c t = updR r' c t := fun t => by funext d; unfold updR; split <;> rfl
        rw [everyS, val_mul, val_fix, val_fix, ee, ee, Bool.and_eq_true] at this
        cases hb : r' c with
        | true => have := this.2; rw [updR_of hb] at this; exact this
        | false => have := this.1; rw [updR_of hb] at this; exact this
    · intro h r' e
      rw [everyS, val_mul, val_fix, val_fix, Bool.and_eq_true]
      constructor
      · refine h _ fun d hd => ?_
        have h1 : d ≠ c := fun z => hd (z ▸ List.mem_cons_self)
        rw [updR, if_neg h1]; exact e d fun z => hd (List.mem_cons_of_mem _ z)
      · refine h _ fun d hd => ?_
        have h1 : d ≠ c := fun z => hd (z ▸ List.mem_cons_self)
        rw [updR, if_neg h1]; exact e d fun z => hd (List.mem_cons_of_mem _ z)
def sp_some_of : DSp := fun ds P _ => match ds with
  | [x, .str s] => asF x fun f => Frm f ∧ P (.d (fD (someF f (sg s))))
  | _ => False
def sp_every_of : DSp := fun ds P _ => match ds with
  | [x, .str s] => asF x fun f => Frm f ∧ P (.d (fD (everyF f (sg s))))
  | _ => False
abbrev N_some_of : List Str := ["form", "letters", "letter"]
def w_some_of_t1 : WS := (wRet (wVar 0))
def w_some_of : WS := wSeq (wFor (wiX (wVar 1)) (wgName 2)
      (wAsg (wCall sp_joined (fun _ _ => False) (wCons (wCall sp_fixed_at (fun _ _ => False) (wCons (wVar 0) (wCons (wVar 2) (wCons (wC (.bl false)) wNil)))) (wCons (wCall sp_fixed_at (fun _ _ => False) (wCons (wVar 0) (wCons (wVar 2) (wCons (wC (.bl true)) wNil)))) wNil))) (wgName 0)))
    w_some_of_t1
theorem len_some_of {ds Q px} (h : sp_some_of ds Q px) : ds.length = 2 := by unfold sp_some_of at h; split at h <;> first | rfl | exact h.elim
theorem rd_some_of {ds Q px} (h : sp_some_of ds Q px) : w_some_of ⟨fun _ => Q (.d .non), Q, fun _ => False, fun _ => False⟩ (startR N_some_of ds) := by
  unfold sp_some_of at h
  split at h
  · obtain ⟨f, rfl, hf, hq⟩ := asF_of h
    clear h
    rename_i s
    unfold w_some_of
    simp only [N_some_of, w_some_of_t1, wSeq, wSet, wAsg, wC, wIfS, wB, wOp, oI, oI0, asI, asS, asL, asLT, asT, asB, asA_some, asA_none, asO, asOL, asOD, asKey, asDic, asSq, oLen, oMod, oAdd, oSub, oMul, oDiv, oMax, oMin, oPlus, oEqX, oNeX, eqX_int, eqX_str, eqX_bl, oCmp, oLtX, oLeX, oGtX, oGeX, oIxX, oInX, wCB, wCons, wNil, wVar, wMove, nth, put, startR, wNext, wRet, wRetN, wDrop, wFor, wiR1, wiR2, wiX, itemsOf, wgName, wgTup, wgCons, wgNil, wLend, wLendT, seeR_cons, seeR_nil, seeO_d, seeO_none, seeO_ol, seeO_od, wJoin, wM, oAppend, oPop, oPopAt, wDPut, wDPop, wSortK, wDict0, wTup, wLst, wCall, wAnd, wOr, wNot, wAndV, wOrV, wNotV, wIf, wYes, wLc, wiEnumX, oListX, oTuple, oSort, oSortSet, oAll, oAny, S.fz, S.own, D.flat, txts_map, bools_map, txtKeys_map, List.length_map, List.map_cons, List.map_nil, List.length_cons, List.length_nil, List.cons_append, List.nil_append, List.replicate, decide_eq_true_eq, Bool.not_eq_true', Bool.not_true, Bool.not_false, if_true, if_false, Nat.zero_add, Nat.reduceAdd, Nat.reduceSub, ge_iff_le, true_and, and_true, zip_unzip, Bool.false_xor, Bool.true_xor, Bool.false_eq_true, Bool.true_eq_false, reduceIte, wipeR, dataR_cons, dataR_nil, dataO_d, dataO_none, dataO_ol, dataO_od, oDict, oIsi, tyD, isiB, wSl, wPart, wNoP, oSl, wDisp1, wDGet2, oRemove, atI_0, atI_1, atI_2, wiRev, revItems, oDictP, wForK, wiKeys, kD, oSortX, oPow, oBitAnd, oShl, oNeg, wUn, oInt, oStr, oDivmod, oIs, isD, wChain, wFz, wFzE, frzR, wLSet, wiZip, seqsD, wiVals, wiItems, wOIx, wNo, Option.isSome_some, oMulX, wM1, oSplit, oPart, oStrip1, oRep, oSum, intsD, wRaise, wLI, wLK
, wiR3, wLR, wDisp, wPairs, oReverse, oClear, oInsert, wRevL, wDZ, seqLT, oSortIT]
    rw [signs_eq, List.map_map]
    refine forD_map (I := fun done _ ρ => ∃ (o2 : Option S), ρ = [some (.d (fD (someF f done))), some (.d (.str s)), o2]) mono_name (sg s) (fun done c ys ρ he hI => ?_) (fun ρ hI => ?_) _ ⟨_, rfl⟩
    · obtain ⟨o2, rfl⟩ := hI
      have hd : Frm (someF f done) := frm_some hf
      simp only [wSeq, wSet, wAsg, wC, wIfS, wB, wOp, oI, oI0, asI, asS, asL, asLT, asT, asB, asA_some, asA_none, asO, asOL, asOD, asKey, asDic, asSq, oLen, oMod, oAdd, oSub, oMul, oDiv, oMax, oMin, oPlus, oEqX, oNeX, eqX_int, eqX_str, eqX_bl, oCmp, oLtX, oLeX, oGtX, oGeX, oIxX, oInX, wCB, wCons, wNil, wVar, wMove, nth, put, startR, wNext, wRet, wRetN, wDrop, wFor, wiR1, wiR2, wiX, itemsOf, wgName, wgTup, wgCons, wgNil, wLend, wLendT, seeR_cons, seeR_nil, seeO_d, seeO_none, seeO_ol, seeO_od, wJoin, wM, oAppend, oPop, oPopAt, wDPut, wDPop, wSortK, wDict0, wTup, wLst, wCall, wAnd, wOr, wNot, wAndV, wOrV, wNotV, wIf, wYes, wLc, wiEnumX, oListX, oTuple, oSort, oSortSet, oAll, oAny, S.fz, S.own, D.flat, txts_map, bools_map, txtKeys_map, List.length_map, List.map_cons, List.map_nil, List.length_cons, List.length_nil, List.cons_append, List.nil_append, List.replicate, decide_eq_true_eq, Bool.not_eq_true', Bool.not_true, Bool.not_false, if_true, if_false, Nat.zero_add, Nat.reduceAdd, Nat.reduceSub, ge_iff_le, true_and, and_true, zip_unzip, Bool.false_xor, Bool.true_xor, Bool.false_eq_true, Bool.true_eq_false, reduceIte, wipeR, dataR_cons, dataR_nil, dataO_d, dataO_none, dataO_ol, dataO_od, oDict, oIsi, tyD, isiB, wSl, wPart, wNoP, oSl, wDisp1, wDGet2, oRemove, atI_0, atI_1, atI_2, wiRev, revItems, oDictP, wForK, wiKeys, kD, oSortX, oPow, oBitAnd, oShl, oNeg, wUn, oInt, oStr, oDivmod, oIs, isD, wChain, wFz, wFzE, frzR, wLSet, wiZip, seqsD, wiVals, wiItems, wOIx, wNo, Option.isSome_some, oMulX, wM1, oSplit, oPart, oStrip1, oRep, oSum, intsD, wRaise, wLI, wLK
, wiR3, wLR, wDisp, wPairs, oReverse, oClear, oInsert, wRevL, wDZ, seqLT, oSortIT, Function.comp, sp_fixed_at, sp_joined, asF_fD]
      refine ⟨c, rfl, hd, c, rfl, hd, ⟨frm_fix hd, frm_fix hd⟩, some (.d (.str (one c))), ?_⟩
      rw [someF, someF, List.foldl_append]; rfl
    · obtain ⟨o2, rfl⟩ := hI
      simp only [wSeq, wSet, wAsg, wC, wIfS, wB, wOp, oI, oI0, asI, asS, asL, asLT, asT, asB, asA_some, asA_none, asO, asOL, asOD, asKey, asDic, asSq, oLen, oMod, oAdd, oSub, oMul, oDiv, oMax, oMin, oPlus, oEqX, oNeX, eqX_int, eqX_str, eqX_bl, oCmp, oLtX, oLeX, oGtX, oGeX, oIxX, oInX, wCB, wCons, wNil, wVar, wMove, nth, put, startR, wNext, wRet, wRetN, wDrop, wFor, wiR1, wiR2, wiX, itemsOf, wgName, wgTup, wgCons, wgNil, wLend, wLendT, seeR_cons, seeR_nil, seeO_d, seeO_none, seeO_ol, seeO_od, wJoin, wM, oAppend, oPop, oPopAt, wDPut, wDPop, wSortK, wDict0, wTup, wLst, wCall, wAnd, wOr, wNot, wAndV, wOrV, wNotV, wIf, wYes, wLc, wiEnumX, oListX, oTuple, oSort, oSortSet, oAll, oAny, S.fz, S.own, D.flat, txts_map, bools_map, txtKeys_map, List.length_map, List.map_cons, List.map_nil, List.length_cons, List.length_nil, List.cons_append, List.nil_append, List.replicate, decide_eq_true_eq, Bool.not_eq_true', Bool.not_true, Bool.not_false, if_true, if_false, Nat.zero_add, Nat.reduceAdd, Nat.reduceSub, ge_iff_le, true_and, and_true, zip_unzip, Bool.false_xor, Bool.true_xor, Bool.false_eq_true, Bool.true_eq_false, reduceIte, wipeR, dataR_cons, dataR_nil, dataO_d, dataO_none, dataO_ol, dataO_od, oDict, oIsi, tyD, isiB, wSl, wPart, wNoP, oSl, wDisp1, wDGet2, oRemove, atI_0, atI_1, atI_2, wiRev, revItems, oDictP, wForK, wiKeys, kD, oSortX, oPow, oBitAnd, oShl, oNeg, wUn, oInt, oStr, oDivmod, oIs, isD, wChain, wFz, wFzE, frzR, wLSet, wiZip, seqsD, wiVals, wiItems, wOIx, wNo, Option.isSome_some, oMulX, wM1, oSplit, oPart, oStrip1, oRep, oSum, intsD, wRaise, wLI, wLK
, wiR3, wLR, wDisp, wPairs, oReverse, oClear, oInsert, wRevL, wDZ, seqLT, oSortIT]
      exact hq
  · exact h.elim
abbrev N_every_of : List Str := ["form", "letters", "letter"]
def w_every_of_t1 : WS := (wRet (wVar 0))
def w_every_of : WS := wSeq (wFor (wiX (wVar 1)) (wgName 2)
      (wAsg (wCall sp_multiplied (fun _ _ => False) (wCons (wCall sp_fixed_at (fun _ _ => False) (wCons (wVar 0) (wCons (wVar 2) (wCons (wC (.bl false)) wNil)))) (wCons (wCall sp_fixed_at (fun _ _ => False) (wCons (wVar 0) (wCons (wVar 2) (wCons (wC (.bl true)) wNil)))) wNil))) (wgName 0)))
    w_every_of_t1
theorem len_every_of {ds Q px} (h : sp_every_of ds Q px) : ds.length = 2 := by unfold sp_every_of at h; split at h <;> first | rfl | exact h.elim
theorem rd_every_of {ds Q px} (h : sp_every_of ds Q px) : w_every_of ⟨fun _ => Q (.d .non), Q, fun _ => False, fun _ => False⟩ (startR N_every_of ds) := by
  unfold sp_every_of at h
  split at h
  · obtain ⟨f, rfl, hf, hq⟩ := asF_of h
    clear h
    rename_i s
    unfold w_every_of
    simp only [N_every_of, w_every_of_t1, wSeq, wSet, wAsg, wC, wIfS, wB, wOp, oI, oI0, asI, asS, asL, asLT, asT, asB, asA_some, asA_none, asO, asOL, asOD, asKey, asDic, asSq, oLen, oMod, oAdd, oSub, oMul, oDiv, oMax, oMin, oPlus, oEqX, oNeX, eqX_int, eqX_str, eqX_bl, oCmp, oLtX, oLeX, oGtX, oGeX, oIxX, oInX, wCB, wCons, wNil, wVar, wMove, nth, put, startR, wNext, wRet, wRetN, wDrop, wFor, wiR1, wiR2, wiX, itemsOf, wgName, wgTup, wgCons, wgNil, wLend, wLendT, seeR_cons, seeR_nil, seeO_d, seeO_none, seeO_ol, seeO_od, wJoin, wM, oAppend, oPop, oPopAt, wDPut, wDPop, wSortK, wDict0, wTup, wLst, wCall, wAnd, wOr, wNot, wAndV, wOrV, wNotV, wIf, wYes, wLc, wiEnumX, oListX, oTuple, oSort, oSortSet, oAll, oAny, S.fz, S.own, D.flat, txts_map, bools_map, txtKeys_map, List.length_map, List.map_cons, List.map_nil, List.length_cons, List.length_nil, List.cons_append, List.nil_append, List.replicate, decide_eq_true_eq, Bool.not_eq_true', Bool.not_true, Bool.not_false, if_true, if_false, Nat.zero_add, Nat.reduceAdd, Nat.reduceSub, ge_iff_le, true_and, and_true, zip_unzip, Bool.false_xor, Bool.true_xor, Bool.false_eq_true, Bool.true_eq_false, reduceIte, wipeR, dataR_cons, dataR_nil, dataO_d, dataO_none, dataO_ol, dataO_od, oDict, oIsi, tyD, isiB, wSl, wPart, wNoP, oSl, wDisp1, wDGet2, oRemove, atI_0, atI_1, atI_2, wiRev, revItems, oDictP, wForK, wiKeys, kD, oSortX, oPow, oBitAnd, oShl, oNeg, wUn, oInt, oStr, oDivmod, oIs, isD, wChain, wFz, wFzE, frzR, wLSet, wiZip, seqsD, wiVals, wiItems, wOIx, wNo, Option.isSome_some, oMulX, wM1, oSplit, oPart, oStrip1, oRep, oSum, intsD, wRaise, wLI, wLK
, wiR3, wLR, wDisp, wPairs, oReverse, oClear, oInsert, wRevL, wDZ, seqLT, oSortIT]
    rw [signs_eq, List.map_map]
    refine forD_map (I := fun done _ ρ => ∃ (o2 : Option S), ρ = [some (.d (fD (everyF f done))), some (.d (.str s)), o2]) mono_name (sg s) (fun done c ys ρ he hI => ?_) (fun ρ hI => ?_) _ ⟨_, rfl⟩
    · obtain ⟨o2, rfl⟩ := hI
      have hd : Frm (everyF f done) := frm_every hf
      simp only [wSeq, wSet, wAsg, wC, wIfS, wB, wOp, oI, oI0, asI, asS, asL, asLT, asT, asB, asA_some, asA_none, asO, asOL, asOD, asKey, asDic, asSq, oLen, oMod, oAdd, oSub, oMul, oDiv, oMax, oMin, oPlus, oEqX, oNeX, eqX_int, eqX_str, eqX_bl, oCmp, oLtX, oLeX, oGtX, oGeX, oIxX, oInX, wCB, wCons, wNil, wVar, wMove, nth, put, startR, wNext, wRet, wRetN, wDrop, wFor, wiR1, wiR2, wiX, itemsOf, wgName, wgTup, wgCons, wgNil, wLend, wLendT, seeR_cons, seeR_nil, seeO_d, seeO_none, seeO_ol, seeO_od, wJoin, wM, oAppend, oPop, oPopAt, wDPut, wDPop, wSortK, wDict0, wTup, wLst, wCall, wAnd, wOr, wNot, wAndV, wOrV, wNotV, wIf, wYes, wLc, wiEnumX, oListX, oTuple, oSort, oSortSet, oAll, oAny, S.fz, S.own, D.flat, txts_map, bools_map, txtKeys_map, List.length_map, List.map_cons, List.map_nil, List.length_cons, List.length_nil, List.cons_append, List.nil_append, List.replicate, decide_eq_true_eq, Bool.not_eq_true', Bool.not_true, Bool.not_false, if_true, if_false, Nat.zero_add, Nat.reduceAdd, Nat.reduceSub, ge_iff_le, true_and, and_true, zip_unzip, Bool.false_xor, Bool.true_xor, Bool.false_eq_true, Bool.true_eq_false, reduceIte, wipeR, dataR_cons, dataR_nil, dataO_d, dataO_none, dataO_ol, dataO_od, oDict, oIsi, tyD, isiB, wSl, wPart, wNoP, oSl, wDisp1, wDGet2, oRemove, atI_0, atI_1, atI_2, wiRev, revItems, oDictP, wForK, wiKeys, kD, oSortX, oPow, oBitAnd, oShl, oNeg, wUn, oInt, oStr, oDivmod, oIs, isD, wChain, wFz, wFzE, frzR, wLSet, wiZip, seqsD, wiVals, wiItems, wOIx, wNo, Option.isSome_some, oMulX, wM1, oSplit, oPart, oStrip1, oRep, oSum, intsD, wRaise, wLI, wLK
, wiR3, wLR, wDisp, wPairs, oReverse, oClear, oInsert, wRevL, wDZ, seqLT, oSortIT, Function.comp, sp_fixed_at, sp_multiplied, asF_fD]
      refine ⟨c, rfl, hd, c, rfl, hd, ⟨frm_fix hd, frm_fix hd⟩, some (.d (.str (one c))), ?_⟩
      rw [everyF, everyF, List.foldl_append]; rfl
    · obtain ⟨o2, rfl⟩ := hI
      simp only [wSeq, wSet, wAsg, wC, wIfS, wB, wOp, oI, oI0, asI, asS, asL, asLT, asT, asB, asA_some, asA_none, asO, asOL, asOD, asKey, asDic, asSq, oLen, oMod, oAdd, oSub, oMul, oDiv, oMax, oMin, oPlus, oEqX, oNeX, eqX_int, eqX_str, eqX_bl, oCmp, oLtX, oLeX, oGtX, oGeX, oIxX, oInX, wCB, wCons, wNil, wVar, wMove, nth, put, startR, wNext, wRet, wRetN, wDrop, wFor, wiR1, wiR2, wiX, itemsOf, wgName, wgTup, wgCons, wgNil, wLend, wLendT, seeR_cons, seeR_nil, seeO_d, seeO_none, seeO_ol, seeO_od, wJoin, wM, oAppend, oPop, oPopAt, wDPut, wDPop, wSortK, wDict0, wTup, wLst, wCall, wAnd, wOr, wNot, wAndV, wOrV, wNotV, wIf, wYes, wLc, wiEnumX, oListX, oTuple, oSort, oSortSet, oAll, oAny, S.fz, S.own, D.flat, txts_map, bools_map, txtKeys_map, List.length_map, List.map_cons, List.map_nil, List.length_cons, List.length_nil, List.cons_append, List.nil_append, List.replicate, decide_eq_true_eq, Bool.not_eq_true', Bool.not_true, Bool.not_false, if_true, if_false, Nat.zero_add, Nat.reduceAdd, Nat.reduceSub, ge_iff_le, true_and, and_true, zip_unzip, Bool.false_xor, Bool.true_xor, Bool.false_eq_true, Bool.true_eq_false, reduceIte, wipeR, dataR_cons, dataR_nil, dataO_d, dataO_none, dataO_ol, dataO_od, oDict, oIsi, tyD, isiB, wSl, wPart, wNoP, oSl, wDisp1, wDGet2, oRemove, atI_0, atI_1, atI_2, wiRev, revItems, oDictP, wForK, wiKeys, kD, oSortX, oPow, oBitAnd, oShl, oNeg, wUn, oInt, oStr, oDivmod, oIs, isD, wChain, wFz, wFzE, frzR, wLSet, wiZip, seqsD, wiVals, wiItems, wOIx, wNo, Option.isSome_some, oMulX, wM1, oSplit, oPart, oStrip1, oRep, oSum, intsD, wRaise, wLI, wLK
, wiR3, wLR, wDisp, wPairs, oReverse, oClear, oInsert, wRevL, wDZ, seqLT, oSortIT]
      exact hq
  · exact h.elim
end DL
/-! F26b: letters_of. -/
namespace DL
open PySem L2
/-! ### letters_of -/
theorem sum_sub : ∀ {l m : List (List Nat)}, l.Nodup → l ⊆ m → (l.map (·.length)).sum ≤ (m.map (·.length)).sum
  | [], m, _, _ => Nat.zero_le _
  | x :: l, m, hn, hs => by
    rw [List.nodup_cons] at hn
    have hx : x ∈ m := hs List.mem_cons_self
    have ih := sum_sub (l := l) (m := m.erase x) hn.2 fun y hy => by
      have : y ≠ x := fun e => hn.1 (e ▸ hy)
      exact (List.mem_erase_of_ne this).mpr (hs (List.mem_cons_of_mem _ hy))
    have e := ((List.perm_cons_erase hx).map (·.length)).sum_nat
    rw [List.map_cons, List.sum_cons] at e
    rw [List.map_cons, List.sum_cons]
    omega
theorem frm_sum {f : List Str} (h : Frm f) : ((f.map sg).map (·.length)).sum ≤ 2304 := by
  have h1 : (f.map sg).Nodup := by
    rw [List.nodup_iff_pairwise_ne, List.pairwise_map]
    exact (List.nodup_iff_pairwise_ne.mp h.nd).imp fun z e => z (sg_inj e)
  refine Nat.le_trans (sum_sub (m := subs LET) h1 fun x hx => ?_) (by decide +kernel)
  obtain ⟨p, hp, rfl⟩ := List.mem_map.mp hx
  exact mem_subs LET_up (h.prd p hp).up (h.prd p hp).le
def joinS (f : List Str) : Str := Txt.join "" f
theorem joinS_len {f : List Str} (h : Frm f) : (sg (joinS f)).length ≤ 2304 := by
  rw [joinS, sg_join0 sg_nil, List.length_flatten]
  exact frm_sum h
theorem mem_joinS {f : List Str} {c : Nat} : c ∈ sg (joinS f) ↔ ∃ p ∈ f, c ∈ sg p := by
  rw [joinS, sg_join0 sg_nil, List.mem_flatten]
  constructor
  · rintro ⟨l, hl, hc⟩
    obtain ⟨p, hp, rfl⟩ := List.mem_map.mp hl
    exact ⟨p, hp, hc⟩
  · rintro ⟨p, hp, hc⟩
    exact ⟨sg p, List.mem_map.mpr ⟨p, hp, rfl⟩, hc⟩
theorem joinS_fit {f : List Str} (h : Frm f) : (f.map (·.length)).sum + f.length * (Str.length "") ≤ 16777216 := by
  have h1 := frm_sum h
  rw [List.map_map] at h1
  have h2 : f.map (·.length) = f.map ((·.length) ∘ sg) := by
    apply List.map_congr_left
    intro p _
    exact sg_len p
  have h3 : Str.length "" = 0 := by decide +kernel
  rw [h2, h3, Nat.mul_zero]
  omega
def letF (f : List Str) : Str := lets (joinS f)
theorem mem_letF {f : List Str} {c : Nat} : c ∈ sg (letF f) ↔ ∃ p ∈ f, c ∈ sg p := ((sg_lets _).2 c).trans mem_joinS
theorem prd_letF {f : List Str} (h : Frm f) : Prd (letF f) := prd_lets fun c hc => by
  obtain ⟨p, hp, hc⟩ := mem_joinS.mp hc
  exact (h.prd p hp).le c hc
theorem over_letF (f : List Str) : Over (letF f) f := fun p hp c hc => mem_letF.mpr ⟨p, hp, hc⟩
def sp_letters_of : DSp := fun ds P _ => match ds with
  | [x] => asF x fun f => Frm f ∧ P (.d (.str (letF f)))
  | _ => False
abbrev N_letters_of : List Str := ["form"]
def w_letters_of : WS := (wRet (wJoin (wC (.str "")) (wCB oSortSet (wCons (wJoin (wC (.str "")) (wVar 0)) wNil))))
theorem len_letters_of {ds Q px} (h : sp_letters_of ds Q px) : ds.length = 1 := by unfold sp_letters_of at h; split at h <;> first | rfl | exact h.elim
theorem rd_letters_of {ds Q px} (h : sp_letters_of ds Q px) : w_letters_of ⟨fun _ => Q (.d .non), Q, fun _ => False, fun _ => False⟩ (startR N_letters_of ds) := by
  unfold sp_letters_of at h
  split at h
  · obtain ⟨f, rfl, hf, hq⟩ := asF_of h
    clear h
    have hl := joinS_len hf
    unfold w_letters_of
    simp only [N_letters_of, fD, wSeq, wSet, wAsg, wC, wIfS, wB, wOp, oI, oI0, asI, asS, asL, asLT, asT, asB, asA_some, asA_none, asO, asOL, asOD, asKey, asDic, asSq, oLen, oMod, oAdd, oSub, oMul, oDiv, oMax, oMin, oPlus, oEqX, oNeX, eqX_int, eqX_str, eqX_bl, oCmp, oLtX, oLeX, oGtX, oGeX, oIxX, oInX, wCB, wCons, wNil, wVar, wMove, nth, put, startR, wNext, wRet, wRetN, wDrop, wFor, wiR1, wiR2, wiX, itemsOf, wgName, wgTup, wgCons, wgNil, wLend, wLendT, seeR_cons, seeR_nil, seeO_d, seeO_none, seeO_ol, seeO_od, wJoin, wM, oAppend, oPop, oPopAt, wDPut, wDPop, wSortK, wDict0, wTup, wLst, wCall, wAnd, wOr, wNot, wAndV, wOrV, wNotV, wIf, wYes, wLc, wiEnumX, oListX, oTuple, oSort, oSortSet, oAll, oAny, S.fz, S.own, D.flat, txts_map, bools_map, txtKeys_map, List.length_map, List.map_cons, List.map_nil, List.length_cons, List.length_nil, List.cons_append, List.nil_append, List.replicate, decide_eq_true_eq, Bool.not_eq_true', Bool.not_true, Bool.not_false, if_true, if_false, Nat.zero_add, Nat.reduceAdd, Nat.reduceSub, ge_iff_le, true_and, and_true, zip_unzip, Bool.false_xor, Bool.true_xor, Bool.false_eq_true, Bool.true_eq_false, reduceIte, wipeR, dataR_cons, dataR_nil, dataO_d, dataO_none, dataO_ol, dataO_od, oDict, oIsi, tyD, isiB, wSl, wPart, wNoP, oSl, wDisp1, wDGet2, oRemove, atI_0, atI_1, atI_2, wiRev, revItems, oDictP, wForK, wiKeys, kD, oSortX, oPow, oBitAnd, oShl, oNeg, wUn, oInt, oStr, oDivmod, oIs, isD, wChain, wFz, wFzE, frzR, wLSet, wiZip, seqsD, wiVals, wiItems, wOIx, wNo, Option.isSome_some, oMulX, wM1, oSplit, oPart, oStrip1, oRep, oSum, intsD, wRaise, wLI, wLK
, wiR3, wLR, wDisp, wPairs, oReverse, oClear, oInsert, wRevL, wDZ, seqLT, oSortIT]
    refine ⟨joinS_fit hf, ?_, lets_fit (z := joinS f) (by omega), hq⟩
    show (joinS f).length + 1 < 4096
    rw [sg_len]; omega
  · exact h.elim
/-! ### a form and a letter -/
theorem val_not {f : List Str} {c : Nat} (h : ∀ p ∈ f, c ∉ sg p) (r : Nat → Bool) (t : Bool) : val (updR r c t) f = val r f := by
  unfold val
  have : f.countP (tr (updR r c t)) = f.countP (tr r) := by
    apply List.countP_congr
    intro p hp
    rw [tr_congr fun d hd => show updR r c t d = r d by unfold updR; rw [if_neg fun e : d = c => h p hp (e ▸ hd)]]
  rw [this]
theorem tr_congr' {s : Nat → Bool} {r : Nat → Bool} {p : Str} (h : ∀ c ∈ sg p, r c = s c) : tr r p = tr s p := tr_congr h
/-- the letter stands in the form just where the two fixings differ -/
theorem letter_iff {f : List Str} {c : Nat} (hf : Frm f) : c ∈ sg (letF f) ↔ fixF f c false ≠ fixF f c true := by
  constructor
  · intro hc e
    have h1 : f = fixF f c false := uniq hf (frm_fix hf) fun r => by
      have e2 := congrArg (val r) e
      rw [val_fix, val_fix] at e2
      rw [val_fix]
      cases hb : r c with
      | true =>
        rw [updR_of hb] at e2; exact e2.symm
      | false => rw [updR_of hb]
    obtain ⟨p, hp, hc⟩ := mem_letF.mp hc
    rw [h1] at hp
    exact (overP_fix (T := fun _ => True) (fun _ _ _ _ => trivial) p hp c hc).2 rfl
  · intro h
    refine Classical.byContradiction fun hc => h (uniq (frm_fix hf) (frm_fix hf) fun r => ?_)
    have hn : ∀ p ∈ f, c ∉ sg p := fun p hp z => hc (mem_letF.mpr ⟨p, hp, z⟩)
    rw [val_fix, val_fix, val_not hn, val_not hn]
theorem letter_out {f : List Str} {c : Nat} {t : Bool} : c ∉ sg (letF (fixF f c t)) := fun hc => by
  obtain ⟨p, hp, hc⟩ := mem_letF.mp hc
  exact (overP_fix (T := fun _ => True) (fun _ _ _ _ => trivial) p hp c hc).2 rfl
end DL
/-! F22a: rows with a letter set. -/
namespace DL
open PySem L2
/-- a row with one letter's truth set -/
def setR (r : Row) (c : Nat) (t : Bool) : Row := if c ∈ r.map (·.1) then r.map (fun p => if p.1 = c then (p.1, t) else p) else r ++ [(c, t)]
theorem one_key {a c : Nat} : ((Sum.inr (one a) : Key) = .inr (one c)) ↔ a = c := ⟨fun h => one_inj (Sum.inr.inj h), fun h => by rw [h]⟩
theorem vput_setR (r : Row) (c : Nat) (t : Bool) : vput (rowK r) (.inr (one c)) (.bl t) = rowK (setR r c t) := by
  unfold setR
  by_cases h : c ∈ r.map (·.1)
  · rw [if_pos h]
    unfold vput
    have : ((rowK r).any fun kv => decide (kv.1 = (.inr (one c) : Key))) = true := by
      rw [List.any_eq_true]
      obtain ⟨p, hp, rfl⟩ := List.mem_map.mp h
      exact ⟨(.inr (one p.1), .bl p.2), List.mem_map.mpr ⟨p, hp, rfl⟩, decide_eq_true rfl⟩
    rw [this, if_pos rfl]
    unfold rowK
    rw [List.map_map, List.map_map]
    apply List.map_congr_left
    intro p _
    simp only [Function.comp, one_key]
    by_cases e : p.1 = c
    · rw [if_pos e, if_pos e]
    · rw [if_neg e, if_neg e]
  · rw [if_neg h, vput_row h]
theorem keys_setR (r : Row) (c : Nat) (t : Bool) : ∀ d, d ∈ (setR r c t).map (·.1) ↔ d ∈ r.map (·.1) ∨ d = c := fun d => by
  unfold setR
  by_cases h : c ∈ r.map (·.1)
  · rw [if_pos h, List.map_map]
    have : ((fun x : Nat × Bool => x.1) ∘ fun p : Nat × Bool => if p.1 = c then (p.1, t) else p) = fun p => p.1 := by
      funext p
      simp only [Function.comp]
      split <;> rfl
    rw [this]
    exact ⟨.inl, fun z => z.elim id fun e => e ▸ h⟩
  · rw [if_neg h]; simp
theorem rowF_setR (r : Row) (c : Nat) (t : Bool) : rowF (setR r c t) = updR (rowF r) c t := by
  funext d
  unfold setR updR
  by_cases h : c ∈ r.map (·.1)
  · rw [if_pos h]
    induction r with
    | nil => simp at h
    | cons p r ih =>
      unfold rowF
      rw [List.map_cons, List.find?_cons, List.find?_cons]
      by_cases e : p.1 = c
      · rw [if_pos e]
        by_cases e2 : d = c
        · simp [e, e2]
        · have e3 : ¬ p.1 = d := fun z => e2 (z ▸ e)
          have e4 : ¬ c = d := fun z => e2 z.symm
          simp only [e, decide_eq_false e4, decide_eq_false e3]
          rw [if_neg e2]
          clear ih h
          induction r with
          | nil => rfl
          | cons q r ih2 =>
            rw [List.map_cons, List.find?_cons, List.find?_cons]
            by_cases e5 : q.1 = c
            · have e6 : ¬ q.1 = d := fun z => e2 (z ▸ e5)
              rw [if_pos e5]; simp only [decide_eq_false e6]; exact ih2
            · rw [if_neg e5]
              by_cases e6 : q.1 = d
              · simp [e6]
              · simp only [decide_eq_false e6]; exact ih2
      · rw [if_neg e]
        have h' : c ∈ r.map (·.1) := (List.mem_cons.mp h).elim (fun z => absurd z.symm e) id
        by_cases e2 : p.1 = d
        · have e3 : ¬ d = c := fun z => e (e2.trans z)
          simp [e2, e3]
        · simp only [decide_eq_false e2]
          exact ih h'
  · rw [if_neg h]
    by_cases e : d = c
    · subst e; rw [if_pos rfl, rowF_app_r h]
    · rw [if_neg e]
      unfold rowF
      rw [List.find?_append]
      cases hf : r.find? (fun p => decide (p.1 = d)) with
      | some p => rfl
      | none =>
        have : decide (c = d) = false := decide_eq_false fun z => e z.symm
        simp [List.find?_cons, this]
theorem fm_filter {T : Nat → Prop} [DecidablePred T] : ∀ l : List Nat, l.filterMap (fun d => if T d then some (D.str (one d)) else none) = (l.filter fun d => decide (T d)).map fun d => .str (one d)
  | [] => rfl
  | d :: l => by
    have ih := fm_filter (T := T) l
    rw [List.filterMap_cons, List.filter_cons]
    by_cases h : T d
    · simp [h, ih]
    · simp [h, ih]
end DL
/-! F14a: rows by number: row_of, rows_over, _law_rows in order. -/
namespace DL
open PySem L2
def rowR : List Nat → Nat → Row
  | [], _ => []
  | x :: xs, n => (x, decide (n % 2 = 1)) :: rowR xs (n / 2)
theorem rowR_app (x : Nat) : ∀ (xs : List Nat) (n : Nat), rowR (xs ++ [x]) n = rowR xs n ++ [(x, decide (n / 2 ^ xs.length % 2 = 1))]
  | [], n => by simp [rowR]
  | y :: xs, n => by
    rw [List.cons_append, rowR, rowR, rowR_app x xs, List.cons_append, List.length_cons, Nat.div_div_eq_div_mul, Nat.pow_succ, Nat.mul_comm 2]
theorem rowR_keys : ∀ (xs : List Nat) (n : Nat), (rowR xs n).map (·.1) = xs
  | [], _ => rfl
  | x :: xs, n => by rw [rowR, List.map_cons, rowR_keys xs]
def sp_row_of : DSp := fun ds P _ => match ds with
  | [.str s, .int i] => Prd s ∧ ∃ n : Nat, i = n ∧ P (.od (rowK (rowR (sg s).reverse n)))
  | _ => False
abbrev N_row_of : List Str := ["letters", "number", "row", "letter"]
def w_row_of_b1_t1 : WS := (wAsg (wOp oDiv (wVar 1) (wC (.int 2))) (wgName 1))
def w_row_of_b1 : WS := wSeq (wDPut 2 (wVar 3) (wOp oEqX (wOp oMod (wVar 1) (wC (.int 2))) (wC (.int 1))))
    w_row_of_b1_t1
def w_row_of_t2 : WS := (wRet (wMove 2))
def w_row_of_t1 : WS := wSeq (wFor (wiRev (wVar 0)) (wgName 3)
      w_row_of_b1)
    w_row_of_t2
def w_row_of : WS := wSeq (wSet 2 wDict0)
    w_row_of_t1
theorem len_row_of {ds Q px} (h : sp_row_of ds Q px) : ds.length = 2 := by unfold sp_row_of at h; split at h <;> first | rfl | exact h.elim
theorem rd_row_of {ds Q px} (h : sp_row_of ds Q px) : w_row_of ⟨fun _ => Q (.d .non), Q, fun _ => False, fun _ => False⟩ (startR N_row_of ds) := by
  unfold sp_row_of at h
  split at h
  · rename_i s i
    obtain ⟨hs, n, rfl, hq⟩ := h
    unfold w_row_of
    simp only [N_row_of, w_row_of_t1, w_row_of_t2, wSeq, wSet, wAsg, wC, wIfS, wB, wOp, oI, oI0, asI, asS, asL, asLT, asT, asB, asA_some, asA_none, asO, asOL, asOD, asKey, asDic, asSq, oLen, oMod, oAdd, oSub, oMul, oDiv, oMax, oMin, oPlus, oEqX, oNeX, eqX_int, eqX_str, eqX_bl, oCmp, oLtX, oLeX, oGtX, oGeX, oIxX, oInX, wCB, wCons, wNil, wVar, wMove, nth, put, startR, wNext, wRet, wRetN, wDrop, wFor, wiR1, wiR2, wiX, itemsOf, wgName, wgTup, wgCons, wgNil, wLend, wLendT, seeR_cons, seeR_nil, seeO_d, seeO_none, seeO_ol, seeO_od, wJoin, wM, oAppend, oPop, oPopAt, wDPut, wDPop, wSortK, wDict0, wTup, wLst, wCall, wAnd, wOr, wNot, wAndV, wOrV, wNotV, wIf, wYes, wLc, wiEnumX, oListX, oTuple, oSort, oSortSet, oAll, oAny, S.fz, S.own, D.flat, txts_map, bools_map, txtKeys_map, List.length_map, List.map_cons, List.map_nil, List.length_cons, List.length_nil, List.cons_append, List.nil_append, List.replicate, decide_eq_true_eq, Bool.not_eq_true', Bool.not_true, Bool.not_false, if_true, if_false, Nat.zero_add, Nat.reduceAdd, Nat.reduceSub, ge_iff_le, true_and, and_true, zip_unzip, Bool.false_xor, Bool.true_xor, Bool.false_eq_true, Bool.true_eq_false, reduceIte, wipeR, dataR_cons, dataR_nil, dataO_d, dataO_none, dataO_ol, dataO_od, oDict, oIsi, tyD, isiB, wSl, wPart, wNoP, oSl, wDisp1, wDGet2, oRemove, atI_0, atI_1, atI_2, wiRev, revItems, oDictP, wForK, wiKeys, kD, oSortX, oPow, oBitAnd, oShl, oNeg, wUn, oInt, oStr, oDivmod, oIs, isD, wChain, wFz, wFzE, frzR, wLSet, wiZip, seqsD, wiVals, wiItems, wOIx, wNo, Option.isSome_some, oMulX, wM1, oSplit, oPart, oStrip1, oRep, oSum, intsD, wRaise, wLI, wLK
, wiR3, wLR, wDisp, wPairs, oReverse, oClear, oInsert, wRevL, wDZ, seqLT, oSortIT]
    have hl0 : s.length ≤ sizeLine := by have := hs.len; rw [len0]; unfold sg at this; rw [Array.length_toList] at this; show s.cps.size ≤ _; omega
    refine ⟨hl0, ?_⟩
    rw [signs_eq, ← List.map_reverse, List.map_map]
    refine forD_map (I := fun done _ ρ => ∃ (o : Option S), ρ = [some (.d (.str s)), some (.d (.int (n / 2 ^ done.length : Nat))), some (.od (rowK (rowR done n))), o]) mono_name _ (fun done x ys ρ he hI => ?_) (fun ρ hI => ?_) _ ⟨none, by simp [rowR, rowK]⟩
    · obtain ⟨o, rfl⟩ := hI
      have hnd : (sg s).reverse.Nodup := (List.reverse_perm _).nodup_iff.mpr (hs.up.imp fun h => Nat.ne_of_lt h)
      rw [he] at hnd
      have hx : x ∉ (rowR done n).map (·.1) := by
        rw [rowR_keys]
        exact fun z => (List.nodup_append.mp hnd).2.2 _ z _ List.mem_cons_self rfl
      simp only [w_row_of_b1, w_row_of_b1_t1, wSeq, wSet, wAsg, wC, wIfS, wB, wOp, oI, oI0, asI, asS, asL, asLT, asT, asB, asA_some, asA_none, asO, asOL, asOD, asKey, asDic, asSq, oLen, oMod, oAdd, oSub, oMul, oDiv, oMax, oMin, oPlus, oEqX, oNeX, eqX_int, eqX_str, eqX_bl, oCmp, oLtX, oLeX, oGtX, oGeX, oIxX, oInX, wCB, wCons, wNil, wVar, wMove, nth, put, startR, wNext, wRet, wRetN, wDrop, wFor, wiR1, wiR2, wiX, itemsOf, wgName, wgTup, wgCons, wgNil, wLend, wLendT, seeR_cons, seeR_nil, seeO_d, seeO_none, seeO_ol, seeO_od, wJoin, wM, oAppend, oPop, oPopAt, wDPut, wDPop, wSortK, wDict0, wTup, wLst, wCall, wAnd, wOr, wNot, wAndV, wOrV, wNotV, wIf, wYes, wLc, wiEnumX, oListX, oTuple, oSort, oSortSet, oAll, oAny, S.fz, S.own, D.flat, txts_map, bools_map, txtKeys_map, List.length_map, List.map_cons, List.map_nil, List.length_cons, List.length_nil, List.cons_append, List.nil_append, List.replicate, decide_eq_true_eq, Bool.not_eq_true', Bool.not_true, Bool.not_false, if_true, if_false, Nat.zero_add, Nat.reduceAdd, Nat.reduceSub, ge_iff_le, true_and, and_true, zip_unzip, Bool.false_xor, Bool.true_xor, Bool.false_eq_true, Bool.true_eq_false, reduceIte, wipeR, dataR_cons, dataR_nil, dataO_d, dataO_none, dataO_ol, dataO_od, oDict, oIsi, tyD, isiB, wSl, wPart, wNoP, oSl, wDisp1, wDGet2, oRemove, atI_0, atI_1, atI_2, wiRev, revItems, oDictP, wForK, wiKeys, kD, oSortX, oPow, oBitAnd, oShl, oNeg, wUn, oInt, oStr, oDivmod, oIs, isD, wChain, wFz, wFzE, frzR, wLSet, wiZip, seqsD, wiVals, wiItems, wOIx, wNo, Option.isSome_some, oMulX, wM1, oSplit, oPart, oStrip1, oRep, oSum, intsD, wRaise, wLI, wLK
, wiR3, wLR, wDisp, wPairs, oReverse, oClear, oInsert, wRevL, wDZ, seqLT, oSortIT, Function.comp, vput_row hx]
      have hrl : done.length ≤ 9 := by
        have := congrArg List.length he
        rw [List.length_reverse, List.length_append] at this
        have := hs.len
        omega
      refine ⟨by decide, by rw [rowK, List.length_map, len0, ← List.length_map (f := (·.1)), rowR_keys]; omega, ⟨by decide, by decide⟩, some (.d (.str (one x))), ?_⟩
      have e1 : ((n / 2 ^ done.length : Nat) : Int) / 2 = ((n / 2 ^ (done ++ [x]).length : Nat) : Int) := by
        rw [List.length_append, List.length_singleton, Nat.pow_succ, ← Nat.div_div_eq_div_mul]; omega
      have e2 : decide (((n / 2 ^ done.length : Nat) : Int) % 2 = 1) = decide (n / 2 ^ done.length % 2 = 1) := decide_eq_decide.mpr (by omega)
      rw [e1, e2, rowR_app]
    · obtain ⟨o, rfl⟩ := hI
      simp only [wSeq, wSet, wAsg, wC, wIfS, wB, wOp, oI, oI0, asI, asS, asL, asLT, asT, asB, asA_some, asA_none, asO, asOL, asOD, asKey, asDic, asSq, oLen, oMod, oAdd, oSub, oMul, oDiv, oMax, oMin, oPlus, oEqX, oNeX, eqX_int, eqX_str, eqX_bl, oCmp, oLtX, oLeX, oGtX, oGeX, oIxX, oInX, wCB, wCons, wNil, wVar, wMove, nth, put, startR, wNext, wRet, wRetN, wDrop, wFor, wiR1, wiR2, wiX, itemsOf, wgName, wgTup, wgCons, wgNil, wLend, wLendT, seeR_cons, seeR_nil, seeO_d, seeO_none, seeO_ol, seeO_od, wJoin, wM, oAppend, oPop, oPopAt, wDPut, wDPop, wSortK, wDict0, wTup, wLst, wCall, wAnd, wOr, wNot, wAndV, wOrV, wNotV, wIf, wYes, wLc, wiEnumX, oListX, oTuple, oSort, oSortSet, oAll, oAny, S.fz, S.own, D.flat, txts_map, bools_map, txtKeys_map, List.length_map, List.map_cons, List.map_nil, List.length_cons, List.length_nil, List.cons_append, List.nil_append, List.replicate, decide_eq_true_eq, Bool.not_eq_true', Bool.not_true, Bool.not_false, if_true, if_false, Nat.zero_add, Nat.reduceAdd, Nat.reduceSub, ge_iff_le, true_and, and_true, zip_unzip, Bool.false_xor, Bool.true_xor, Bool.false_eq_true, Bool.true_eq_false, reduceIte, wipeR, dataR_cons, dataR_nil, dataO_d, dataO_none, dataO_ol, dataO_od, oDict, oIsi, tyD, isiB, wSl, wPart, wNoP, oSl, wDisp1, wDGet2, oRemove, atI_0, atI_1, atI_2, wiRev, revItems, oDictP, wForK, wiKeys, kD, oSortX, oPow, oBitAnd, oShl, oNeg, wUn, oInt, oStr, oDivmod, oIs, isD, wChain, wFz, wFzE, frzR, wLSet, wiZip, seqsD, wiVals, wiItems, wOIx, wNo, Option.isSome_some, oMulX, wM1, oSplit, oPart, oStrip1, oRep, oSum, intsD, wRaise, wLI, wLK
, wiR3, wLR, wDisp, wPairs, oReverse, oClear, oInsert, wRevL, wDZ, seqLT, oSortIT]
      exact hq
  · exact h.elim
/-! ### rows_over -/
def sp_rows_over : DSp := fun ds P _ => match ds with
  | [.str s] => Prd s ∧ P (.d (.int (2 ^ (sg s).length : Nat)))
  | _ => False
abbrev N_rows_over : List Str := ["letters", "many", "letter"]
def w_rows_over_t2 : WS := (wRet (wVar 1))
def w_rows_over_t1 : WS := wSeq (wFor (wiX (wVar 0)) (wgName 2)
      (wAsg (wOp oMul (wVar 1) (wC (.int 2))) (wgName 1)))
    w_rows_over_t2
def w_rows_over : WS := wSeq (wAsg (wC (.int 1)) (wgName 1))
    w_rows_over_t1
theorem len_rows_over {ds Q px} (h : sp_rows_over ds Q px) : ds.length = 1 := by unfold sp_rows_over at h; split at h <;> first | rfl | exact h.elim
theorem rd_rows_over {ds Q px} (h : sp_rows_over ds Q px) : w_rows_over ⟨fun _ => Q (.d .non), Q, fun _ => False, fun _ => False⟩ (startR N_rows_over ds) := by
  unfold sp_rows_over at h
  split at h
  · rename_i s
    obtain ⟨hs, hq⟩ := h
    unfold w_rows_over
    simp only [N_rows_over, w_rows_over_t1, w_rows_over_t2, wSeq, wSet, wAsg, wC, wIfS, wB, wOp, oI, oI0, asI, asS, asL, asLT, asT, asB, asA_some, asA_none, asO, asOL, asOD, asKey, asDic, asSq, oLen, oMod, oAdd, oSub, oMul, oDiv, oMax, oMin, oPlus, oEqX, oNeX, eqX_int, eqX_str, eqX_bl, oCmp, oLtX, oLeX, oGtX, oGeX, oIxX, oInX, wCB, wCons, wNil, wVar, wMove, nth, put, startR, wNext, wRet, wRetN, wDrop, wFor, wiR1, wiR2, wiX, itemsOf, wgName, wgTup, wgCons, wgNil, wLend, wLendT, seeR_cons, seeR_nil, seeO_d, seeO_none, seeO_ol, seeO_od, wJoin, wM, oAppend, oPop, oPopAt, wDPut, wDPop, wSortK, wDict0, wTup, wLst, wCall, wAnd, wOr, wNot, wAndV, wOrV, wNotV, wIf, wYes, wLc, wiEnumX, oListX, oTuple, oSort, oSortSet, oAll, oAny, S.fz, S.own, D.flat, txts_map, bools_map, txtKeys_map, List.length_map, List.map_cons, List.map_nil, List.length_cons, List.length_nil, List.cons_append, List.nil_append, List.replicate, decide_eq_true_eq, Bool.not_eq_true', Bool.not_true, Bool.not_false, if_true, if_false, Nat.zero_add, Nat.reduceAdd, Nat.reduceSub, ge_iff_le, true_and, and_true, zip_unzip, Bool.false_xor, Bool.true_xor, Bool.false_eq_true, Bool.true_eq_false, reduceIte, wipeR, dataR_cons, dataR_nil, dataO_d, dataO_none, dataO_ol, dataO_od, oDict, oIsi, tyD, isiB, wSl, wPart, wNoP, oSl, wDisp1, wDGet2, oRemove, atI_0, atI_1, atI_2, wiRev, revItems, oDictP, wForK, wiKeys, kD, oSortX, oPow, oBitAnd, oShl, oNeg, wUn, oInt, oStr, oDivmod, oIs, isD, wChain, wFz, wFzE, frzR, wLSet, wiZip, seqsD, wiVals, wiItems, wOIx, wNo, Option.isSome_some, oMulX, wM1, oSplit, oPart, oStrip1, oRep, oSum, intsD, wRaise, wLI, wLK
, wiR3, wLR, wDisp, wPairs, oReverse, oClear, oInsert, wRevL, wDZ, seqLT, oSortIT]
    rw [signs_eq, List.map_map]
    refine forD_map (I := fun done _ ρ => ∃ (o : Option S), ρ = [some (.d (.str s)), some (.d (.int (2 ^ done.length : Nat))), o]) mono_name _ (fun done x ys ρ he hI => ?_) (fun ρ hI => ?_) _ ⟨none, rfl⟩
    · obtain ⟨o, rfl⟩ := hI
      have hrl : done.length ≤ 9 := by
        have := congrArg List.length he
        rw [List.length_append] at this
        have := hs.len
        omega
      have hpow : 2 ^ done.length ≤ 512 := Nat.pow_le_pow_right (n := 2) (by decide) hrl
      have e1 : ((2 ^ done.length : Nat) : Int) * 2 = ((2 ^ (done ++ [x]).length : Nat) : Int) := by
        rw [List.length_append, List.length_singleton, Nat.pow_succ]; omega
      simp only [wSeq, wSet, wAsg, wC, wIfS, wB, wOp, oI, oI0, asI, asS, asL, asLT, asT, asB, asA_some, asA_none, asO, asOL, asOD, asKey, asDic, asSq, oLen, oMod, oAdd, oSub, oMul, oDiv, oMax, oMin, oPlus, oEqX, oNeX, eqX_int, eqX_str, eqX_bl, oCmp, oLtX, oLeX, oGtX, oGeX, oIxX, oInX, wCB, wCons, wNil, wVar, wMove, nth, put, startR, wNext, wRet, wRetN, wDrop, wFor, wiR1, wiR2, wiX, itemsOf, wgName, wgTup, wgCons, wgNil, wLend, wLendT, seeR_cons, seeR_nil, seeO_d, seeO_none, seeO_ol, seeO_od, wJoin, wM, oAppend, oPop, oPopAt, wDPut, wDPop, wSortK, wDict0, wTup, wLst, wCall, wAnd, wOr, wNot, wAndV, wOrV, wNotV, wIf, wYes, wLc, wiEnumX, oListX, oTuple, oSort, oSortSet, oAll, oAny, S.fz, S.own, D.flat, txts_map, bools_map, txtKeys_map, List.length_map, List.map_cons, List.map_nil, List.length_cons, List.length_nil, List.cons_append, List.nil_append, List.replicate, decide_eq_true_eq, Bool.not_eq_true', Bool.not_true, Bool.not_false, if_true, if_false, Nat.zero_add, Nat.reduceAdd, Nat.reduceSub, ge_iff_le, true_and, and_true, zip_unzip, Bool.false_xor, Bool.true_xor, Bool.false_eq_true, Bool.true_eq_false, reduceIte, wipeR, dataR_cons, dataR_nil, dataO_d, dataO_none, dataO_ol, dataO_od, oDict, oIsi, tyD, isiB, wSl, wPart, wNoP, oSl, wDisp1, wDGet2, oRemove, atI_0, atI_1, atI_2, wiRev, revItems, oDictP, wForK, wiKeys, kD, oSortX, oPow, oBitAnd, oShl, oNeg, wUn, oInt, oStr, oDivmod, oIs, isD, wChain, wFz, wFzE, frzR, wLSet, wiZip, seqsD, wiVals, wiItems, wOIx, wNo, Option.isSome_some, oMulX, wM1, oSplit, oPart, oStrip1, oRep, oSum, intsD, wRaise, wLI, wLK
, wiR3, wLR, wDisp, wPairs, oReverse, oClear, oInsert, wRevL, wDZ, seqLT, oSortIT, Function.comp]
      refine ⟨?_, some (.d (.str (one x))), by rw [e1]⟩
      exact .inr ⟨by decide, by decide⟩
    · obtain ⟨o, rfl⟩ := hI
      simp only [wSeq, wSet, wAsg, wC, wIfS, wB, wOp, oI, oI0, asI, asS, asL, asLT, asT, asB, asA_some, asA_none, asO, asOL, asOD, asKey, asDic, asSq, oLen, oMod, oAdd, oSub, oMul, oDiv, oMax, oMin, oPlus, oEqX, oNeX, eqX_int, eqX_str, eqX_bl, oCmp, oLtX, oLeX, oGtX, oGeX, oIxX, oInX, wCB, wCons, wNil, wVar, wMove, nth, put, startR, wNext, wRet, wRetN, wDrop, wFor, wiR1, wiR2, wiX, itemsOf, wgName, wgTup, wgCons, wgNil, wLend, wLendT, seeR_cons, seeR_nil, seeO_d, seeO_none, seeO_ol, seeO_od, wJoin, wM, oAppend, oPop, oPopAt, wDPut, wDPop, wSortK, wDict0, wTup, wLst, wCall, wAnd, wOr, wNot, wAndV, wOrV, wNotV, wIf, wYes, wLc, wiEnumX, oListX, oTuple, oSort, oSortSet, oAll, oAny, S.fz, S.own, D.flat, txts_map, bools_map, txtKeys_map, List.length_map, List.map_cons, List.map_nil, List.length_cons, List.length_nil, List.cons_append, List.nil_append, List.replicate, decide_eq_true_eq, Bool.not_eq_true', Bool.not_true, Bool.not_false, if_true, if_false, Nat.zero_add, Nat.reduceAdd, Nat.reduceSub, ge_iff_le, true_and, and_true, zip_unzip, Bool.false_xor, Bool.true_xor, Bool.false_eq_true, Bool.true_eq_false, reduceIte, wipeR, dataR_cons, dataR_nil, dataO_d, dataO_none, dataO_ol, dataO_od, oDict, oIsi, tyD, isiB, wSl, wPart, wNoP, oSl, wDisp1, wDGet2, oRemove, atI_0, atI_1, atI_2, wiRev, revItems, oDictP, wForK, wiKeys, kD, oSortX, oPow, oBitAnd, oShl, oNeg, wUn, oInt, oStr, oDivmod, oIs, isD, wChain, wFz, wFzE, frzR, wLSet, wiZip, seqsD, wiVals, wiItems, wOIx, wNo, Option.isSome_some, oMulX, wM1, oSplit, oPart, oStrip1, oRep, oSum, intsD, wRaise, wLI, wLK
, wiR3, wLR, wDisp, wPairs, oReverse, oClear, oInsert, wRevL, wDZ, seqLT, oSortIT]
      exact hq
  · exact h.elim
/-! ### worth -/
def sp_worth : DSp := fun ds P _ => match ds with
  | [x, y] => asF x fun f => ∃ r : Row, y = rowD r ∧ (f.length ≤ 100000 ∧ ∀ p ∈ f, (sg p).length ≤ 1000 ∧ ∀ c ∈ sg p, c ∈ r.map (·.1)) ∧ P (.d (.bl (val (rowF r) f)))
  | _ => False
abbrev N_worth : List Str := ["form", "row", "odd", "product", "letter"]
def w_worth_t2 : WS := (wRet (wVar 2))
def w_worth_t1 : WS := wSeq (wFor (wiX (wVar 0)) (wgName 3)
      (wIfS (wB (wCB oAll (wCons (wLc (wiX (wVar 3)) (wgName 4) wYes (wOp oIxX (wVar 1) (wVar 4)) [4]) wNil))) (wAsg (wNotV (wVar 2)) (wgName 2)) wNext))
    w_worth_t2
def w_worth : WS := wSeq (wAsg (wC (.bl false)) (wgName 2))
    w_worth_t1
theorem len_worth {ds Q px} (h : sp_worth ds Q px) : ds.length = 2 := by unfold sp_worth at h; split at h <;> first | rfl | exact h.elim
theorem rd_worth {ds Q px} (h : sp_worth ds Q px) : w_worth ⟨fun _ => Q (.d .non), Q, fun _ => False, fun _ => False⟩ (startR N_worth ds) := by
  unfold sp_worth at h
  split at h
  · obtain ⟨f, rfl, r, rfl, ⟨hl, hr⟩, hq⟩ := asF_of h
    clear h
    unfold w_worth
    simp only [N_worth, fD, w_worth_t1, w_worth_t2, wSeq, wSet, wAsg, wC, wIfS, wB, wOp, oI, oI0, asI, asS, asL, asLT, asT, asB, asA_some, asA_none, asO, asOL, asOD, asKey, asDic, asSq, oLen, oMod, oAdd, oSub, oMul, oDiv, oMax, oMin, oPlus, oEqX, oNeX, eqX_int, eqX_str, eqX_bl, oCmp, oLtX, oLeX, oGtX, oGeX, oIxX, oInX, wCB, wCons, wNil, wVar, wMove, nth, put, startR, wNext, wRet, wRetN, wDrop, wFor, wiR1, wiR2, wiX, itemsOf, wgName, wgTup, wgCons, wgNil, wLend, wLendT, seeR_cons, seeR_nil, seeO_d, seeO_none, seeO_ol, seeO_od, wJoin, wM, oAppend, oPop, oPopAt, wDPut, wDPop, wSortK, wDict0, wTup, wLst, wCall, wAnd, wOr, wNot, wAndV, wOrV, wNotV, wIf, wYes, wLc, wiEnumX, oListX, oTuple, oSort, oSortSet, oAll, oAny, S.fz, S.own, D.flat, txts_map, bools_map, txtKeys_map, List.length_map, List.map_cons, List.map_nil, List.length_cons, List.length_nil, List.cons_append, List.nil_append, List.replicate, decide_eq_true_eq, Bool.not_eq_true', Bool.not_true, Bool.not_false, if_true, if_false, Nat.zero_add, Nat.reduceAdd, Nat.reduceSub, ge_iff_le, true_and, and_true, zip_unzip, Bool.false_xor, Bool.true_xor, Bool.false_eq_true, Bool.true_eq_false, reduceIte, wipeR, dataR_cons, dataR_nil, dataO_d, dataO_none, dataO_ol, dataO_od, oDict, oIsi, tyD, isiB, wSl, wPart, wNoP, oSl, wDisp1, wDGet2, oRemove, atI_0, atI_1, atI_2, wiRev, revItems, oDictP, wForK, wiKeys, kD, oSortX, oPow, oBitAnd, oShl, oNeg, wUn, oInt, oStr, oDivmod, oIs, isD, wChain, wFz, wFzE, frzR, wLSet, wiZip, seqsD, wiVals, wiItems, wOIx, wNo, Option.isSome_some, oMulX, wM1, oSplit, oPart, oStrip1, oRep, oSum, intsD, wRaise, wLI, wLK
, wiR3, wLR, wDisp, wPairs, oReverse, oClear, oInsert, wRevL, wDZ, seqLT, oSortIT]
    refine forD_map (I := fun done _ ρ => ∃ (o : Option S), ρ = [some (.d (.tup (f.map .str))), some (.d (rowD r)), some (.d (.bl (decide (done.countP (tr (rowF r)) % 2 = 1)))), o, none]) mono_name f (fun done p ys ρ he hI => ?_) (fun ρ hI => ?_) _ ⟨none, rfl⟩
    · obtain ⟨o, rfl⟩ := hI
      obtain ⟨hp1, hp2⟩ := hr p (by rw [he]; simp)
      simp only [w_worth_t1, w_worth_t2, wSeq, wSet, wAsg, wC, wIfS, wB, wOp, oI, oI0, asI, asS, asL, asLT, asT, asB, asA_some, asA_none, asO, asOL, asOD, asKey, asDic, asSq, oLen, oMod, oAdd, oSub, oMul, oDiv, oMax, oMin, oPlus, oEqX, oNeX, eqX_int, eqX_str, eqX_bl, oCmp, oLtX, oLeX, oGtX, oGeX, oIxX, oInX, wCB, wCons, wNil, wVar, wMove, nth, put, startR, wNext, wRet, wRetN, wDrop, wFor, wiR1, wiR2, wiX, itemsOf, wgName, wgTup, wgCons, wgNil, wLend, wLendT, seeR_cons, seeR_nil, seeO_d, seeO_none, seeO_ol, seeO_od, wJoin, wM, oAppend, oPop, oPopAt, wDPut, wDPop, wSortK, wDict0, wTup, wLst, wCall, wAnd, wOr, wNot, wAndV, wOrV, wNotV, wIf, wYes, wLc, wiEnumX, oListX, oTuple, oSort, oSortSet, oAll, oAny, S.fz, S.own, D.flat, txts_map, bools_map, txtKeys_map, List.length_map, List.map_cons, List.map_nil, List.length_cons, List.length_nil, List.cons_append, List.nil_append, List.replicate, decide_eq_true_eq, Bool.not_eq_true', Bool.not_true, Bool.not_false, if_true, if_false, Nat.zero_add, Nat.reduceAdd, Nat.reduceSub, ge_iff_le, true_and, and_true, zip_unzip, Bool.false_xor, Bool.true_xor, Bool.false_eq_true, Bool.true_eq_false, reduceIte, wipeR, dataR_cons, dataR_nil, dataO_d, dataO_none, dataO_ol, dataO_od, oDict, oIsi, tyD, isiB, wSl, wPart, wNoP, oSl, wDisp1, wDGet2, oRemove, atI_0, atI_1, atI_2, wiRev, revItems, oDictP, wForK, wiKeys, kD, oSortX, oPow, oBitAnd, oShl, oNeg, wUn, oInt, oStr, oDivmod, oIs, isD, wChain, wFz, wFzE, frzR, wLSet, wiZip, seqsD, wiVals, wiItems, wOIx, wNo, Option.isSome_some, oMulX, wM1, oSplit, oPart, oStrip1, oRep, oSum, intsD, wRaise, wLI, wLK
, wiR3, wLR, wDisp, wPairs, oReverse, oClear, oInsert, wRevL, wDZ, seqLT, oSortIT]
      refine ⟨by rw [signs_eq, List.length_map, len0]; omega, ?_⟩
      rw [signs_eq, List.map_map]
      refine compD_map mono_name (fun c => some (.bl (rowF r c))) (sg p) _ (fun c hc Q' hQ => ?_) ?_
      · simp only [w_worth_t1, w_worth_t2, wSeq, wSet, wAsg, wC, wIfS, wB, wOp, oI, oI0, asI, asS, asL, asLT, asT, asB, asA_some, asA_none, asO, asOL, asOD, asKey, asDic, asSq, oLen, oMod, oAdd, oSub, oMul, oDiv, oMax, oMin, oPlus, oEqX, oNeX, eqX_int, eqX_str, eqX_bl, oCmp, oLtX, oLeX, oGtX, oGeX, oIxX, oInX, wCB, wCons, wNil, wVar, wMove, nth, put, startR, wNext, wRet, wRetN, wDrop, wFor, wiR1, wiR2, wiX, itemsOf, wgName, wgTup, wgCons, wgNil, wLend, wLendT, seeR_cons, seeR_nil, seeO_d, seeO_none, seeO_ol, seeO_od, wJoin, wM, oAppend, oPop, oPopAt, wDPut, wDPop, wSortK, wDict0, wTup, wLst, wCall, wAnd, wOr, wNot, wAndV, wOrV, wNotV, wIf, wYes, wLc, wiEnumX, oListX, oTuple, oSort, oSortSet, oAll, oAny, S.fz, S.own, D.flat, txts_map, bools_map, txtKeys_map, List.length_map, List.map_cons, List.map_nil, List.length_cons, List.length_nil, List.cons_append, List.nil_append, List.replicate, decide_eq_true_eq, Bool.not_eq_true', Bool.not_true, Bool.not_false, if_true, if_false, Nat.zero_add, Nat.reduceAdd, Nat.reduceSub, ge_iff_le, true_and, and_true, zip_unzip, Bool.false_xor, Bool.true_xor, Bool.false_eq_true, Bool.true_eq_false, reduceIte, wipeR, dataR_cons, dataR_nil, dataO_d, dataO_none, dataO_ol, dataO_od, oDict, oIsi, tyD, isiB, wSl, wPart, wNoP, oSl, wDisp1, wDGet2, oRemove, atI_0, atI_1, atI_2, wiRev, revItems, oDictP, wForK, wiKeys, kD, oSortX, oPow, oBitAnd, oShl, oNeg, wUn, oInt, oStr, oDivmod, oIs, isD, wChain, wFz, wFzE, frzR, wLSet, wiZip, seqsD, wiVals, wiItems, wOIx, wNo, Option.isSome_some, oMulX, wM1, oSplit, oPart, oStrip1, oRep, oSum, intsD, wRaise, wLI, wLK
, wiR3, wLR, wDisp, wPairs, oReverse, oClear, oInsert, wRevL, wDZ, seqLT, oSortIT, Function.comp, rowD, rowK_zip, vget_row (hp2 c hc)]
        exact hQ
      · have e : (sg p).filterMap (fun c => some (D.bl (rowF r c))) = ((sg p).map (rowF r)).map .bl := by
          rw [List.map_map, ← List.filterMap_eq_map]; rfl
        rw [e, bools_map, asA_some]
        have e2 : ((sg p).map (rowF r)).all id = tr (rowF r) p := by rw [List.all_map]; rfl
        rw [e2]
        have ex : (!decide (done.countP (tr (rowF r)) % 2 = 1)) = decide ((done.countP (tr (rowF r)) + 1) % 2 = 1) := by
          rcases Nat.mod_two_eq_zero_or_one (done.countP (tr (rowF r))) with h | h
          · have : (done.countP (tr (rowF r)) + 1) % 2 = 1 := by omega
            rw [h, this]; rfl
          · have : (done.countP (tr (rowF r)) + 1) % 2 = 0 := by omega
            rw [h, this]; rfl
        cases ht : tr (rowF r) p with
        | true =>
          simp only [w_worth_t1, w_worth_t2, wSeq, wSet, wAsg, wC, wIfS, wB, wOp, oI, oI0, asI, asS, asL, asLT, asT, asB, asA_some, asA_none, asO, asOL, asOD, asKey, asDic, asSq, oLen, oMod, oAdd, oSub, oMul, oDiv, oMax, oMin, oPlus, oEqX, oNeX, eqX_int, eqX_str, eqX_bl, oCmp, oLtX, oLeX, oGtX, oGeX, oIxX, oInX, wCB, wCons, wNil, wVar, wMove, nth, put, startR, wNext, wRet, wRetN, wDrop, wFor, wiR1, wiR2, wiX, itemsOf, wgName, wgTup, wgCons, wgNil, wLend, wLendT, seeR_cons, seeR_nil, seeO_d, seeO_none, seeO_ol, seeO_od, wJoin, wM, oAppend, oPop, oPopAt, wDPut, wDPop, wSortK, wDict0, wTup, wLst, wCall, wAnd, wOr, wNot, wAndV, wOrV, wNotV, wIf, wYes, wLc, wiEnumX, oListX, oTuple, oSort, oSortSet, oAll, oAny, S.fz, S.own, D.flat, txts_map, bools_map, txtKeys_map, List.length_map, List.map_cons, List.map_nil, List.length_cons, List.length_nil, List.cons_append, List.nil_append, List.replicate, decide_eq_true_eq, Bool.not_eq_true', Bool.not_true, Bool.not_false, if_true, if_false, Nat.zero_add, Nat.reduceAdd, Nat.reduceSub, ge_iff_le, true_and, and_true, zip_unzip, Bool.false_xor, Bool.true_xor, Bool.false_eq_true, Bool.true_eq_false, reduceIte, wipeR, dataR_cons, dataR_nil, dataO_d, dataO_none, dataO_ol, dataO_od, oDict, oIsi, tyD, isiB, wSl, wPart, wNoP, oSl, wDisp1, wDGet2, oRemove, atI_0, atI_1, atI_2, wiRev, revItems, oDictP, wForK, wiKeys, kD, oSortX, oPow, oBitAnd, oShl, oNeg, wUn, oInt, oStr, oDivmod, oIs, isD, wChain, wFz, wFzE, frzR, wLSet, wiZip, seqsD, wiVals, wiItems, wOIx, wNo, Option.isSome_some, oMulX, wM1, oSplit, oPart, oStrip1, oRep, oSum, intsD, wRaise, wLI, wLK
, wiR3, wLR, wDisp, wPairs, oReverse, oClear, oInsert, wRevL, wDZ, seqLT, oSortIT]
          exact ⟨some (.d (.str p)), by simp only [List.countP_append, List.countP_cons, List.countP_nil, ht, if_true, Nat.zero_add, ← ex]⟩
        | false =>
          simp only [w_worth_t1, w_worth_t2, wSeq, wSet, wAsg, wC, wIfS, wB, wOp, oI, oI0, asI, asS, asL, asLT, asT, asB, asA_some, asA_none, asO, asOL, asOD, asKey, asDic, asSq, oLen, oMod, oAdd, oSub, oMul, oDiv, oMax, oMin, oPlus, oEqX, oNeX, eqX_int, eqX_str, eqX_bl, oCmp, oLtX, oLeX, oGtX, oGeX, oIxX, oInX, wCB, wCons, wNil, wVar, wMove, nth, put, startR, wNext, wRet, wRetN, wDrop, wFor, wiR1, wiR2, wiX, itemsOf, wgName, wgTup, wgCons, wgNil, wLend, wLendT, seeR_cons, seeR_nil, seeO_d, seeO_none, seeO_ol, seeO_od, wJoin, wM, oAppend, oPop, oPopAt, wDPut, wDPop, wSortK, wDict0, wTup, wLst, wCall, wAnd, wOr, wNot, wAndV, wOrV, wNotV, wIf, wYes, wLc, wiEnumX, oListX, oTuple, oSort, oSortSet, oAll, oAny, S.fz, S.own, D.flat, txts_map, bools_map, txtKeys_map, List.length_map, List.map_cons, List.map_nil, List.length_cons, List.length_nil, List.cons_append, List.nil_append, List.replicate, decide_eq_true_eq, Bool.not_eq_true', Bool.not_true, Bool.not_false, if_true, if_false, Nat.zero_add, Nat.reduceAdd, Nat.reduceSub, ge_iff_le, true_and, and_true, zip_unzip, Bool.false_xor, Bool.true_xor, Bool.false_eq_true, Bool.true_eq_false, reduceIte, wipeR, dataR_cons, dataR_nil, dataO_d, dataO_none, dataO_ol, dataO_od, oDict, oIsi, tyD, isiB, wSl, wPart, wNoP, oSl, wDisp1, wDGet2, oRemove, atI_0, atI_1, atI_2, wiRev, revItems, oDictP, wForK, wiKeys, kD, oSortX, oPow, oBitAnd, oShl, oNeg, wUn, oInt, oStr, oDivmod, oIs, isD, wChain, wFz, wFzE, frzR, wLSet, wiZip, seqsD, wiVals, wiItems, wOIx, wNo, Option.isSome_some, oMulX, wM1, oSplit, oPart, oStrip1, oRep, oSum, intsD, wRaise, wLI, wLK
, wiR3, wLR, wDisp, wPairs, oReverse, oClear, oInsert, wRevL, wDZ, seqLT, oSortIT]
          exact ⟨some (.d (.str p)), by simp [List.countP_append, ht]⟩
    · obtain ⟨o, rfl⟩ := hI
      simp only [w_worth_t1, w_worth_t2, wSeq, wSet, wAsg, wC, wIfS, wB, wOp, oI, oI0, asI, asS, asL, asLT, asT, asB, asA_some, asA_none, asO, asOL, asOD, asKey, asDic, asSq, oLen, oMod, oAdd, oSub, oMul, oDiv, oMax, oMin, oPlus, oEqX, oNeX, eqX_int, eqX_str, eqX_bl, oCmp, oLtX, oLeX, oGtX, oGeX, oIxX, oInX, wCB, wCons, wNil, wVar, wMove, nth, put, startR, wNext, wRet, wRetN, wDrop, wFor, wiR1, wiR2, wiX, itemsOf, wgName, wgTup, wgCons, wgNil, wLend, wLendT, seeR_cons, seeR_nil, seeO_d, seeO_none, seeO_ol, seeO_od, wJoin, wM, oAppend, oPop, oPopAt, wDPut, wDPop, wSortK, wDict0, wTup, wLst, wCall, wAnd, wOr, wNot, wAndV, wOrV, wNotV, wIf, wYes, wLc, wiEnumX, oListX, oTuple, oSort, oSortSet, oAll, oAny, S.fz, S.own, D.flat, txts_map, bools_map, txtKeys_map, List.length_map, List.map_cons, List.map_nil, List.length_cons, List.length_nil, List.cons_append, List.nil_append, List.replicate, decide_eq_true_eq, Bool.not_eq_true', Bool.not_true, Bool.not_false, if_true, if_false, Nat.zero_add, Nat.reduceAdd, Nat.reduceSub, ge_iff_le, true_and, and_true, zip_unzip, Bool.false_xor, Bool.true_xor, Bool.false_eq_true, Bool.true_eq_false, reduceIte, wipeR, dataR_cons, dataR_nil, dataO_d, dataO_none, dataO_ol, dataO_od, oDict, oIsi, tyD, isiB, wSl, wPart, wNoP, oSl, wDisp1, wDGet2, oRemove, atI_0, atI_1, atI_2, wiRev, revItems, oDictP, wForK, wiKeys, kD, oSortX, oPow, oBitAnd, oShl, oNeg, wUn, oInt, oStr, oDivmod, oIs, isD, wChain, wFz, wFzE, frzR, wLSet, wiZip, seqsD, wiVals, wiItems, wOIx, wNo, Option.isSome_some, oMulX, wM1, oSplit, oPart, oStrip1, oRep, oSum, intsD, wRaise, wLI, wLK
, wiR3, wLR, wDisp, wPairs, oReverse, oClear, oInsert, wRevL, wDZ, seqLT, oSortIT]
      exact hq
  · exact h.elim
/-! ### _law_rows, the rows in their order -/
def rowsL : List Nat → List Row → List Row
  | [], rows => rows
  | x :: xs, rows => rowsL xs (rows.flatMap fun r => [r ++ [(x, false)], r ++ [(x, true)]])
def rowN (cs : List Nat) (n : Nat) : Row := (rowR cs.reverse n).reverse
theorem rowN_app (cs : List Nat) (x n : Nat) : rowN (cs ++ [x]) n = rowN cs (n / 2) ++ [(x, decide (n % 2 = 1))] := by
  unfold rowN
  rw [List.reverse_append]
  show (rowR (x :: cs.reverse) n).reverse = _
  rw [rowR, List.reverse_cons]
theorem range_two (n : Nat) : List.range (2 * n) = (List.range n).flatMap fun i => [2 * i, 2 * i + 1] := by
  induction n with
  | zero => rfl
  | succ n ih =>
    rw [List.range_succ, List.flatMap_append, ← ih, Nat.mul_succ, List.range_succ, List.range_succ]
    simp
def allRows (cs : List Nat) : List Row := (List.range (2 ^ cs.length)).map (rowN cs)
theorem allRows_app (cs : List Nat) (x : Nat) : allRows (cs ++ [x]) = (allRows cs).flatMap fun r => [r ++ [(x, false)], r ++ [(x, true)]] := by
  unfold allRows
  rw [List.length_append, List.length_singleton, Nat.pow_succ, Nat.mul_comm, range_two, List.map_flatMap, List.flatMap_map]
  congr 1
  funext i
  simp only [List.map_cons, List.map_nil, rowN_app]
  have h1 : 2 * i / 2 = i := by omega
  have h2 : (2 * i + 1) / 2 = i := by omega
  have h3 : 2 * i % 2 = 0 := by omega
  have h4 : (2 * i + 1) % 2 = 1 := by omega
  rw [h1, h2, h3, h4]
  rfl
/-! the rows in their order, by _law_rows -/
def sp_L_rowsN : DSp := fun ds P _ => match ds with
  | [.str s] => Prd s ∧ P (.d (.lst ((allRows (sg s)).map rowD)))
  | _ => False
theorem len_L_rowsN {ds Q px} (h : sp_L_rowsN ds Q px) : ds.length = 1 := by unfold sp_L_rowsN at h; split at h <;> first | rfl | exact h.elim
theorem rd_L_rowsN {ds Q px} (h : sp_L_rowsN ds Q px) : w_L_rows ⟨fun _ => Q (.d .non), Q, fun _ => False, fun _ => False⟩ (startR N_L_rows ds) := by
  unfold sp_L_rowsN at h
  split at h
  · rename_i s
    obtain ⟨hs, hq⟩ := h
    unfold w_L_rows
    simp only [N_L_rows, oDict, w_L_rows_t1, w_L_rows_t2, w_L_rows_b1, w_L_rows_b1_t1, w_L_rows_b1_t2, w_L_rows_b2, w_L_rows_b2_t1, w_L_rows_b2_t2, wSeq, wSet, wAsg, wC, wIfS, wB, wOp, oI, oI0, asI, asS, asL, asLT, asT, asB, asA_some, asA_none, asO, asOL, asOD, asKey, asDic, asSq, oLen, oMod, oAdd, oSub, oMul, oDiv, oMax, oMin, oPlus, oEqX, oNeX, eqX_int, eqX_str, eqX_bl, oCmp, oLtX, oLeX, oGtX, oGeX, oIxX, oInX, wCB, wCons, wNil, wVar, wMove, nth, put, startR, wNext, wRet, wRetN, wDrop, wFor, wiR1, wiR2, wiX, itemsOf, wgName, wgTup, wgCons, wgNil, wLend, wLendT, seeR_cons, seeR_nil, seeO_d, seeO_none, seeO_ol, seeO_od, wJoin, wM, oAppend, oPop, oPopAt, wDPut, wDPop, wSortK, wDict0, wTup, wLst, wCall, wAnd, wOr, wNot, wAndV, wOrV, wNotV, wIf, wYes, wLc, wiEnumX, oListX, oTuple, oSort, oSortSet, oAll, oAny, S.fz, S.own, D.flat, txts_map, bools_map, txtKeys_map, List.length_map, List.map_cons, List.map_nil, List.length_cons, List.length_nil, List.cons_append, List.nil_append, List.replicate, decide_eq_true_eq, Bool.not_eq_true', Bool.not_true, Bool.not_false, if_true, if_false, Nat.zero_add, Nat.reduceAdd, Nat.reduceSub, ge_iff_le, true_and, and_true, zip_unzip, Bool.false_xor, Bool.true_xor, Bool.false_eq_true, Bool.true_eq_false, reduceIte, wipeR, dataR_cons, dataR_nil, dataO_d, dataO_none, dataO_ol, dataO_od, oDict, oIsi, tyD, isiB, wSl, wPart, wNoP, oSl, wDisp1, wDGet2, oRemove, atI_0, atI_1, atI_2, wiRev, revItems, oDictP, wForK, wiKeys, kD, oSortX, oPow, oBitAnd, oShl, oNeg, wUn, oInt, oStr, oDivmod, oIs, isD, wChain, wFz, wFzE, frzR, wLSet, wiZip, seqsD, wiVals, wiItems, wOIx, wNo, Option.isSome_some, oMulX, wM1, oSplit, oPart, oStrip1, oRep, oSum, intsD, wRaise, wLI, wLK
, wiR3, wLR, wDisp, wPairs, oReverse, oClear, oInsert, wRevL, wDZ, seqLT, oSortIT]
    refine ⟨by decide, ?_⟩
    rw [signs_eq, List.map_map]
    refine forD_map (I := fun done _ ρ => ∃ (o2 o3 o4 o5 o6 : Option S), ρ = [some (.d (.str s)), some (.d (.lst ((allRows done).map rowD))), o2, o3, o4, o5, o6]) mono_name _ (fun done x ys ρ he hI => ?_) (fun ρ hI => ?_) _
      ⟨none, none, none, none, none, rfl⟩
    · obtain ⟨o2, o3, o4, o5, o6, rfl⟩ := hI
      have hs1 := hs.up
      have hs2 := hs.len
      rw [he] at hs1 hs2
      rw [List.length_append, List.length_cons] at hs2
      have hx : x ∉ done := fun hc => Nat.lt_irrefl _ ((List.pairwise_append.mp hs1).2.2 x hc x List.mem_cons_self)
      have hpow : 2 ^ done.length ≤ 256 := Nat.pow_le_pow_right (n := 2) (by decide) (show done.length ≤ 8 by omega)
      have hal : (allRows done).length = 2 ^ done.length := by rw [allRows, List.length_map, List.length_range]
      simp only [w_L_rows_t1, w_L_rows_t2, w_L_rows_b1, w_L_rows_b1_t1, w_L_rows_b1_t2, w_L_rows_b2, w_L_rows_b2_t1, w_L_rows_b2_t2, wSeq, wSet, wAsg, wC, wIfS, wB, wOp, oI, oI0, asI, asS, asL, asLT, asT, asB, asA_some, asA_none, asO, asOL, asOD, asKey, asDic, asSq, oLen, oMod, oAdd, oSub, oMul, oDiv, oMax, oMin, oPlus, oEqX, oNeX, eqX_int, eqX_str, eqX_bl, oCmp, oLtX, oLeX, oGtX, oGeX, oIxX, oInX, wCB, wCons, wNil, wVar, wMove, nth, put, startR, wNext, wRet, wRetN, wDrop, wFor, wiR1, wiR2, wiX, itemsOf, wgName, wgTup, wgCons, wgNil, wLend, wLendT, seeR_cons, seeR_nil, seeO_d, seeO_none, seeO_ol, seeO_od, wJoin, wM, oAppend, oPop, oPopAt, wDPut, wDPop, wSortK, wDict0, wTup, wLst, wCall, wAnd, wOr, wNot, wAndV, wOrV, wNotV, wIf, wYes, wLc, wiEnumX, oListX, oTuple, oSort, oSortSet, oAll, oAny, S.fz, S.own, D.flat, txts_map, bools_map, txtKeys_map, List.length_map, List.map_cons, List.map_nil, List.length_cons, List.length_nil, List.cons_append, List.nil_append, List.replicate, decide_eq_true_eq, Bool.not_eq_true', Bool.not_true, Bool.not_false, if_true, if_false, Nat.zero_add, Nat.reduceAdd, Nat.reduceSub, ge_iff_le, true_and, and_true, zip_unzip, Bool.false_xor, Bool.true_xor, Bool.false_eq_true, Bool.true_eq_false, reduceIte, wipeR, dataR_cons, dataR_nil, dataO_d, dataO_none, dataO_ol, dataO_od, oDict, oIsi, tyD, isiB, wSl, wPart, wNoP, oSl, wDisp1, wDGet2, oRemove, atI_0, atI_1, atI_2, wiRev, revItems, oDictP, wForK, wiKeys, kD, oSortX, oPow, oBitAnd, oShl, oNeg, wUn, oInt, oStr, oDivmod, oIs, isD, wChain, wFz, wFzE, frzR, wLSet, wiZip, seqsD, wiVals, wiItems, wOIx, wNo, Option.isSome_some, oMulX, wM1, oSplit, oPart, oStrip1, oRep, oSum, intsD, wRaise, wLI, wLK
, wiR3, wLR, wDisp, wPairs, oReverse, oClear, oInsert, wRevL, wDZ, seqLT, oSortIT, Function.comp]
      refine ⟨by decide, ?_⟩
      refine forD_map (I := fun dr _ ρ => ∃ (o4 o5 o6 : Option S), ρ = [some (.d (.str s)), some (.d (.lst ((allRows done).map rowD))), some (.d (.str (one x))), some (.ol ((dr.flatMap fun r => [r ++ [(x, false)], r ++ [(x, true)]]).map rowD)), o4, o5, o6]) mono_name (allRows done) (fun dr r ys2 ρ he2 hI => ?_) (fun ρ hI => ?_) _
        ⟨o4, o5, o6, rfl⟩
      · obtain ⟨o4, o5, o6, rfl⟩ := hI
        have hr : r.map (·.1) = done := by
          have : r ∈ allRows done := by rw [he2]; simp
          obtain ⟨n, _, rfl⟩ := List.mem_map.mp this
          unfold rowN
          rw [List.map_reverse, rowR_keys, List.reverse_reverse]
        have hl2 := congrArg List.length he2
        rw [List.length_append, List.length_cons] at hl2
        have hfl : (dr.flatMap fun r => [r ++ [(x, false)], r ++ [(x, true)]]).length = 2 * dr.length := by
          clear hl2 he2
          induction dr with
          | nil => rfl
          | cons a l ih => rw [List.flatMap_cons, List.length_append, ih]; simp only [List.length_cons, List.length_nil]; omega
        generalize hg : (dr.flatMap fun r => [r ++ [(x, false)], r ++ [(x, true)]]) = more at hfl ⊢
        simp only [w_L_rows_t1, w_L_rows_t2, w_L_rows_b1, w_L_rows_b1_t1, w_L_rows_b1_t2, w_L_rows_b2, w_L_rows_b2_t1, w_L_rows_b2_t2, wSeq, wSet, wAsg, wC, wIfS, wB, wOp, oI, oI0, asI, asS, asL, asLT, asT, asB, asA_some, asA_none, asO, asOL, asOD, asKey, asDic, asSq, oLen, oMod, oAdd, oSub, oMul, oDiv, oMax, oMin, oPlus, oEqX, oNeX, eqX_int, eqX_str, eqX_bl, oCmp, oLtX, oLeX, oGtX, oGeX, oIxX, oInX, wCB, wCons, wNil, wVar, wMove, nth, put, startR, wNext, wRet, wRetN, wDrop, wFor, wiR1, wiR2, wiX, itemsOf, wgName, wgTup, wgCons, wgNil, wLend, wLendT, seeR_cons, seeR_nil, seeO_d, seeO_none, seeO_ol, seeO_od, wJoin, wM, oAppend, oPop, oPopAt, wDPut, wDPop, wSortK, wDict0, wTup, wLst, wCall, wAnd, wOr, wNot, wAndV, wOrV, wNotV, wIf, wYes, wLc, wiEnumX, oListX, oTuple, oSort, oSortSet, oAll, oAny, S.fz, S.own, D.flat, txts_map, bools_map, txtKeys_map, List.length_map, List.map_cons, List.map_nil, List.length_cons, List.length_nil, List.cons_append, List.nil_append, List.replicate, decide_eq_true_eq, Bool.not_eq_true', Bool.not_true, Bool.not_false, if_true, if_false, Nat.zero_add, Nat.reduceAdd, Nat.reduceSub, ge_iff_le, true_and, and_true, zip_unzip, Bool.false_xor, Bool.true_xor, Bool.false_eq_true, Bool.true_eq_false, reduceIte, wipeR, dataR_cons, dataR_nil, dataO_d, dataO_none, dataO_ol, dataO_od, oDict, oIsi, tyD, isiB, wSl, wPart, wNoP, oSl, wDisp1, wDGet2, oRemove, atI_0, atI_1, atI_2, wiRev, revItems, oDictP, wForK, wiKeys, kD, oSortX, oPow, oBitAnd, oShl, oNeg, wUn, oInt, oStr, oDivmod, oIs, isD, wChain, wFz, wFzE, frzR, wLSet, wiZip, seqsD, wiVals, wiItems, wOIx, wNo, Option.isSome_some, oMulX, wM1, oSplit, oPart, oStrip1, oRep, oSum, intsD, wRaise, wLI, wLK
, wiR3, wLR, wDisp, wPairs, oReverse, oClear, oInsert, wRevL, wDZ, seqLT, oSortIT]
        refine ⟨by decide, ?_⟩
        refine forD_map (f := D.bl) (I := fun db _ ρ => ∃ (o5 o6 : Option S), ρ = [some (.d (.str s)), some (.d (.lst ((allRows done).map rowD))), some (.d (.str (one x))), some (.ol ((more ++ db.map fun b => r ++ [(x, b)]).map rowD)), some (.d (rowD r)), o5, o6]) mono_name [false, true] (fun db b ys3 ρ he3 hI => ?_) (fun ρ hI => ?_) _
          ⟨o5, o6, by rw [List.map_nil, List.append_nil]⟩
        · obtain ⟨o5, o6, rfl⟩ := hI
          have hl3 := congrArg List.length he3
          simp only [List.length_cons, List.length_nil, List.length_append] at hl3
          have hrk : x ∉ r.map (·.1) := by rw [hr]; exact hx
          have hrl : r.length ≤ 9 := by
            have := congrArg List.length hr
            rw [List.length_map] at this
            omega
          simp only [rowD, rowK_zip, w_L_rows_t1, w_L_rows_t2, w_L_rows_b1, w_L_rows_b1_t1, w_L_rows_b1_t2, w_L_rows_b2, w_L_rows_b2_t1, w_L_rows_b2_t2, wSeq, wSet, wAsg, wC, wIfS, wB, wOp, oI, oI0, asI, asS, asL, asLT, asT, asB, asA_some, asA_none, asO, asOL, asOD, asKey, asDic, asSq, oLen, oMod, oAdd, oSub, oMul, oDiv, oMax, oMin, oPlus, oEqX, oNeX, eqX_int, eqX_str, eqX_bl, oCmp, oLtX, oLeX, oGtX, oGeX, oIxX, oInX, wCB, wCons, wNil, wVar, wMove, nth, put, startR, wNext, wRet, wRetN, wDrop, wFor, wiR1, wiR2, wiX, itemsOf, wgName, wgTup, wgCons, wgNil, wLend, wLendT, seeR_cons, seeR_nil, seeO_d, seeO_none, seeO_ol, seeO_od, wJoin, wM, oAppend, oPop, oPopAt, wDPut, wDPop, wSortK, wDict0, wTup, wLst, wCall, wAnd, wOr, wNot, wAndV, wOrV, wNotV, wIf, wYes, wLc, wiEnumX, oListX, oTuple, oSort, oSortSet, oAll, oAny, S.fz, S.own, D.flat, txts_map, bools_map, txtKeys_map, List.length_map, List.map_cons, List.map_nil, List.length_cons, List.length_nil, List.cons_append, List.nil_append, List.replicate, decide_eq_true_eq, Bool.not_eq_true', Bool.not_true, Bool.not_false, if_true, if_false, Nat.zero_add, Nat.reduceAdd, Nat.reduceSub, ge_iff_le, true_and, and_true, zip_unzip, Bool.false_xor, Bool.true_xor, Bool.false_eq_true, Bool.true_eq_false, reduceIte, wipeR, dataR_cons, dataR_nil, dataO_d, dataO_none, dataO_ol, dataO_od, oDict, oIsi, tyD, isiB, wSl, wPart, wNoP, oSl, wDisp1, wDGet2, oRemove, atI_0, atI_1, atI_2, wiRev, revItems, oDictP, wForK, wiKeys, kD, oSortX, oPow, oBitAnd, oShl, oNeg, wUn, oInt, oStr, oDivmod, oIs, isD, wChain, wFz, wFzE, frzR, wLSet, wiZip, seqsD, wiVals, wiItems, wOIx, wNo, Option.isSome_some, oMulX, wM1, oSplit, oPart, oStrip1, oRep, oSum, intsD, wRaise, wLI, wLK
, wiR3, wLR, wDisp, wPairs, oReverse, oClear, oInsert, wRevL, wDZ, seqLT, oSortIT, vput_row hrk]
          refine ⟨?_, ?_, some (.d (.bl b)), some (.d (rowD (r ++ [(x, b)]))), ?_⟩
          · rw [rowK, List.length_map, len0]; omega
          · simp only [List.length_append, List.length_map, len0]; omega
          · simp [rowD, rowK_fst, rowK_snd]
        · obtain ⟨o5, o6, rfl⟩ := hI
          refine ⟨some (.d (rowD r)), o5, o6, ?_⟩
          rw [List.flatMap_append, hg]
          rfl
      · obtain ⟨o4, o5, o6, rfl⟩ := hI
        simp only [w_L_rows_t1, w_L_rows_t2, w_L_rows_b1, w_L_rows_b1_t1, w_L_rows_b1_t2, w_L_rows_b2, w_L_rows_b2_t1, w_L_rows_b2_t2, wSeq, wSet, wAsg, wC, wIfS, wB, wOp, oI, oI0, asI, asS, asL, asLT, asT, asB, asA_some, asA_none, asO, asOL, asOD, asKey, asDic, asSq, oLen, oMod, oAdd, oSub, oMul, oDiv, oMax, oMin, oPlus, oEqX, oNeX, eqX_int, eqX_str, eqX_bl, oCmp, oLtX, oLeX, oGtX, oGeX, oIxX, oInX, wCB, wCons, wNil, wVar, wMove, nth, put, startR, wNext, wRet, wRetN, wDrop, wFor, wiR1, wiR2, wiX, itemsOf, wgName, wgTup, wgCons, wgNil, wLend, wLendT, seeR_cons, seeR_nil, seeO_d, seeO_none, seeO_ol, seeO_od, wJoin, wM, oAppend, oPop, oPopAt, wDPut, wDPop, wSortK, wDict0, wTup, wLst, wCall, wAnd, wOr, wNot, wAndV, wOrV, wNotV, wIf, wYes, wLc, wiEnumX, oListX, oTuple, oSort, oSortSet, oAll, oAny, S.fz, S.own, D.flat, txts_map, bools_map, txtKeys_map, List.length_map, List.map_cons, List.map_nil, List.length_cons, List.length_nil, List.cons_append, List.nil_append, List.replicate, decide_eq_true_eq, Bool.not_eq_true', Bool.not_true, Bool.not_false, if_true, if_false, Nat.zero_add, Nat.reduceAdd, Nat.reduceSub, ge_iff_le, true_and, and_true, zip_unzip, Bool.false_xor, Bool.true_xor, Bool.false_eq_true, Bool.true_eq_false, reduceIte, wipeR, dataR_cons, dataR_nil, dataO_d, dataO_none, dataO_ol, dataO_od, oDict, oIsi, tyD, isiB, wSl, wPart, wNoP, oSl, wDisp1, wDGet2, oRemove, atI_0, atI_1, atI_2, wiRev, revItems, oDictP, wForK, wiKeys, kD, oSortX, oPow, oBitAnd, oShl, oNeg, wUn, oInt, oStr, oDivmod, oIs, isD, wChain, wFz, wFzE, frzR, wLSet, wiZip, seqsD, wiVals, wiItems, wOIx, wNo, Option.isSome_some, oMulX, wM1, oSplit, oPart, oStrip1, oRep, oSum, intsD, wRaise, wLI, wLK
, wiR3, wLR, wDisp, wPairs, oReverse, oClear, oInsert, wRevL, wDZ, seqLT, oSortIT]
        exact ⟨_, _, _, _, _, by rw [allRows_app]⟩
    · obtain ⟨o2, o3, o4, o5, o6, rfl⟩ := hI
      simp only [w_L_rows_t1, w_L_rows_t2, w_L_rows_b1, w_L_rows_b1_t1, w_L_rows_b1_t2, w_L_rows_b2, w_L_rows_b2_t1, w_L_rows_b2_t2, wSeq, wSet, wAsg, wC, wIfS, wB, wOp, oI, oI0, asI, asS, asL, asLT, asT, asB, asA_some, asA_none, asO, asOL, asOD, asKey, asDic, asSq, oLen, oMod, oAdd, oSub, oMul, oDiv, oMax, oMin, oPlus, oEqX, oNeX, eqX_int, eqX_str, eqX_bl, oCmp, oLtX, oLeX, oGtX, oGeX, oIxX, oInX, wCB, wCons, wNil, wVar, wMove, nth, put, startR, wNext, wRet, wRetN, wDrop, wFor, wiR1, wiR2, wiX, itemsOf, wgName, wgTup, wgCons, wgNil, wLend, wLendT, seeR_cons, seeR_nil, seeO_d, seeO_none, seeO_ol, seeO_od, wJoin, wM, oAppend, oPop, oPopAt, wDPut, wDPop, wSortK, wDict0, wTup, wLst, wCall, wAnd, wOr, wNot, wAndV, wOrV, wNotV, wIf, wYes, wLc, wiEnumX, oListX, oTuple, oSort, oSortSet, oAll, oAny, S.fz, S.own, D.flat, txts_map, bools_map, txtKeys_map, List.length_map, List.map_cons, List.map_nil, List.length_cons, List.length_nil, List.cons_append, List.nil_append, List.replicate, decide_eq_true_eq, Bool.not_eq_true', Bool.not_true, Bool.not_false, if_true, if_false, Nat.zero_add, Nat.reduceAdd, Nat.reduceSub, ge_iff_le, true_and, and_true, zip_unzip, Bool.false_xor, Bool.true_xor, Bool.false_eq_true, Bool.true_eq_false, reduceIte, wipeR, dataR_cons, dataR_nil, dataO_d, dataO_none, dataO_ol, dataO_od, oDict, oIsi, tyD, isiB, wSl, wPart, wNoP, oSl, wDisp1, wDGet2, oRemove, atI_0, atI_1, atI_2, wiRev, revItems, oDictP, wForK, wiKeys, kD, oSortX, oPow, oBitAnd, oShl, oNeg, wUn, oInt, oStr, oDivmod, oIs, isD, wChain, wFz, wFzE, frzR, wLSet, wiZip, seqsD, wiVals, wiItems, wOIx, wNo, Option.isSome_some, oMulX, wM1, oSplit, oPart, oStrip1, oRep, oSum, intsD, wRaise, wLI, wLK
, wiR3, wLR, wDisp, wPairs, oReverse, oClear, oInsert, wRevL, wDZ, seqLT, oSortIT]
      exact hq
  · exact h.elim
end DL
/-! F14b: table_of; rows compared. -/
namespace DL
open PySem L2
theorem rowF_mem {r : Row} {p : Nat × Bool} (hn : (r.map (·.1)).Nodup) (hp : p ∈ r) : rowF r p.1 = p.2 := by
  induction r with
  | nil => cases hp
  | cons q r ih =>
    rw [List.map_cons, List.nodup_cons] at hn
    rcases List.mem_cons.mp hp with e | hp
    · subst e; simp [rowF, List.find?_cons]
    · have ne : q.1 ≠ p.1 := fun e => hn.1 (by rw [e]; exact List.mem_map.mpr ⟨p, hp, rfl⟩)
      have := ih hn.2 hp
      unfold rowF at this ⊢
      rw [List.find?_cons, decide_eq_false ne]
      exact this
theorem rowF_none {r : Row} {c : Nat} (h : c ∉ r.map (·.1)) : rowF r c = false := by
  unfold rowF
  have : r.find? (fun p => decide (p.1 = c)) = none := by
    rw [List.find?_eq_none]
    intro p hp
    simp only [decide_eq_true_eq]
    exact fun e => h (List.mem_map.mpr ⟨p, hp, e⟩)
  rw [this]
theorem rowF_rev {r : Row} (hn : (r.map (·.1)).Nodup) (c : Nat) : rowF r.reverse c = rowF r c := by
  by_cases h : c ∈ r.map (·.1)
  · obtain ⟨p, hp, rfl⟩ := List.mem_map.mp h
    rw [rowF_mem hn hp]
    exact rowF_mem (by rw [List.map_reverse]; exact (List.reverse_perm _).nodup_iff.mpr hn) (List.mem_reverse.mpr hp)
  · rw [rowF_none h, rowF_none (by rw [List.map_reverse, List.mem_reverse]; exact h)]
theorem dicEq_rev {r : Row} (hn : (r.map (·.1)).Nodup) : dicEq (rowK r) (rowK r.reverse) := by
  refine ⟨by simp [rowK], fun p hp => ?_⟩
  obtain ⟨q, hq, rfl⟩ := List.mem_map.mp hp
  refine ⟨_, ?_, .inl ⟨rfl, rfl⟩⟩
  rw [vget_row (c := q.1) (by rw [List.map_reverse, List.mem_reverse]; exact List.mem_map.mpr ⟨q, hq, rfl⟩), rowF_rev hn, rowF_mem hn hq]
theorem pyds_bls : ∀ l : List Bool, pyds (l.map .bl) = some (l.map .bool)
  | [] => rfl
  | x :: l => by rw [List.map_cons, pyds, pyds_bls l]; rfl
theorem shaped_bls (l : List Bool) : SeqAt.shaped (.list (l.map .bool)) = true := by
  have h1 : PyData.canLayAll0 (l.map .bool) = true := by
    induction l with
    | nil => rfl
    | cons x l ih => rw [List.map_cons, PyData.canLayAll0, ih]; rfl
  have h2 : PyData.depthAll (l.map .bool) ≤ 1 := by
    clear h1
    induction l with
    | nil => decide
    | cons x l ih => rw [List.map_cons]; simp only [PyData.depthAll, PyData.depth]; omega
  unfold SeqAt.shaped
  rw [Bool.and_eq_true]
  exact ⟨h1, decide_eq_true (by simp only [PyData.depth]; omega)⟩
theorem eqvAll_bls : ∀ l m : List Bool, PyData.eqvAll (l.map .bool) (m.map .bool) = decide (l = m)
  | [], [] => rfl
  | [], y :: b => rfl
  | x :: a, [] => rfl
  | x :: a, y :: b => by
    rw [List.map_cons, List.map_cons, PyData.eqvAll, eqvAll_bls a b]
    show (x == y && _) = _
    rw [Bool.eq_iff_iff]
    simp
theorem eqX_bls {l m : List Bool} {P : Bool → Prop} : eqX (.lst (l.map .bl)) (.lst (m.map .bl)) P = P (decide (l = m)) := by
  have e : eqS (.lst (l.map .bl)) (.lst (m.map .bl)) = none := rfl
  have pl : ∀ l : List Bool, pyd (.lst (l.map .bl)) = some (.list (l.map .bool)) := fun a => by unfold pyd; rw [pyds_bls]; rfl
  unfold eqX
  rw [e]
  show asA (pyd _) (fun q => asA (pyd _) fun r => SeqAt.shaped q = true ∧ SeqAt.shaped r = true ∧ P (PyData.eqv q r)) = _
  rw [pl, pl]
  show (SeqAt.shaped _ = true ∧ SeqAt.shaped _ = true ∧ P (PyData.eqvAll _ _)) = _
  rw [shaped_bls, shaped_bls, eqvAll_bls]
  simp
def tabL (s : Str) (f : List Str) : List Bool := (List.range (2 ^ (sg s).length)).map fun n => val (rowF (rowN (sg s) n)) f
def sp_table_of : DSp := fun ds P _ => match ds with
  | [x, .str s] => asF x fun f => Prd s ∧ (f.length ≤ 100000 ∧ ∀ p ∈ f, (sg p).length ≤ 1000 ∧ ∀ c ∈ sg p, c ∈ sg s) ∧ P (.ol ((tabL s f).map .bl))
  | _ => False
abbrev N_table_of : List Str := ["form", "letters", "number"]
def w_table_of : WS := (wRet (wLc (wiR1 (wCons (wCall sp_rows_over (fun _ _ => False) (wCons (wVar 1) wNil)) wNil)) (wgName 2) wYes (wCall sp_worth (fun _ _ => False) (wCons (wVar 0) (wCons (wCall sp_row_of (fun _ _ => False) (wCons (wVar 1) (wCons (wVar 2) wNil))) wNil))) [2]))
theorem len_table_of {ds Q px} (h : sp_table_of ds Q px) : ds.length = 2 := by unfold sp_table_of at h; split at h <;> first | rfl | exact h.elim
theorem rd_table_of {ds Q px} (h : sp_table_of ds Q px) : w_table_of ⟨fun _ => Q (.d .non), Q, fun _ => False, fun _ => False⟩ (startR N_table_of ds) := by
  unfold sp_table_of at h
  split at h
  · rename_i x s
    obtain ⟨f, rfl, hs, hf, hq⟩ := asF_of h
    clear h
    unfold w_table_of
    simp only [N_table_of, sp_rows_over, sp_worth, sp_row_of, wSeq, wSet, wAsg, wC, wIfS, wB, wOp, oI, oI0, asI, asS, asL, asLT, asT, asB, asA_some, asA_none, asO, asOL, asOD, asKey, asDic, asSq, oLen, oMod, oAdd, oSub, oMul, oDiv, oMax, oMin, oPlus, oEqX, oNeX, eqX_int, eqX_str, eqX_bl, oCmp, oLtX, oLeX, oGtX, oGeX, oIxX, oInX, wCB, wCons, wNil, wVar, wMove, nth, put, startR, wNext, wRet, wRetN, wDrop, wFor, wiR1, wiR2, wiX, itemsOf, wgName, wgTup, wgCons, wgNil, wLend, wLendT, seeR_cons, seeR_nil, seeO_d, seeO_none, seeO_ol, seeO_od, wJoin, wM, oAppend, oPop, oPopAt, wDPut, wDPop, wSortK, wDict0, wTup, wLst, wCall, wAnd, wOr, wNot, wAndV, wOrV, wNotV, wIf, wYes, wLc, wiEnumX, oListX, oTuple, oSort, oSortSet, oAll, oAny, S.fz, S.own, D.flat, txts_map, bools_map, txtKeys_map, List.length_map, List.map_cons, List.map_nil, List.length_cons, List.length_nil, List.cons_append, List.nil_append, List.replicate, decide_eq_true_eq, Bool.not_eq_true', Bool.not_true, Bool.not_false, if_true, if_false, Nat.zero_add, Nat.reduceAdd, Nat.reduceSub, ge_iff_le, true_and, and_true, zip_unzip, Bool.false_xor, Bool.true_xor, Bool.false_eq_true, Bool.true_eq_false, reduceIte, wipeR, dataR_cons, dataR_nil, dataO_d, dataO_none, dataO_ol, dataO_od, oDict, oIsi, tyD, isiB, wSl, wPart, wNoP, oSl, wDisp1, wDGet2, oRemove, atI_0, atI_1, atI_2, wiRev, revItems, oDictP, wForK, wiKeys, kD, oSortX, oPow, oBitAnd, oShl, oNeg, wUn, oInt, oStr, oDivmod, oIs, isD, wChain, wFz, wFzE, frzR, wLSet, wiZip, seqsD, wiVals, wiItems, wOIx, wNo, Option.isSome_some, oMulX, wM1, oSplit, oPart, oStrip1, oRep, oSum, intsD, wRaise, wLI, wLK
, wiR3, wLR, wDisp, wPairs, oReverse, oClear, oInsert, wRevL, wDZ, seqLT, oSortIT]
    have hpow : 2 ^ (sg s).length ≤ 512 := Nat.pow_le_pow_right (n := 2) (by decide) hs.len
    rw [Int.toNat_natCast, rangeD_map]
    generalize hN : 2 ^ (sg s).length = N at hpow
    refine ⟨hs, ⟨by omega, by omega⟩, by rw [List.length_map, List.length_range, len0]; omega, ?_⟩
    subst hN
    have hnd : (sg s).reverse.Nodup := (List.reverse_perm _).nodup_iff.mpr (hs.up.imp fun h => Nat.ne_of_lt h)
    refine compD_map mono_name (fun n : Nat => some (.bl (val (rowF (rowN (sg s) n)) f))) _ _ (fun n hn Q' hQ => ?_) ?_
    · simp only [wSeq, wSet, wAsg, wC, wIfS, wB, wOp, oI, oI0, asI, asS, asL, asLT, asT, asB, asA_some, asA_none, asO, asOL, asOD, asKey, asDic, asSq, oLen, oMod, oAdd, oSub, oMul, oDiv, oMax, oMin, oPlus, oEqX, oNeX, eqX_int, eqX_str, eqX_bl, oCmp, oLtX, oLeX, oGtX, oGeX, oIxX, oInX, wCB, wCons, wNil, wVar, wMove, nth, put, startR, wNext, wRet, wRetN, wDrop, wFor, wiR1, wiR2, wiX, itemsOf, wgName, wgTup, wgCons, wgNil, wLend, wLendT, seeR_cons, seeR_nil, seeO_d, seeO_none, seeO_ol, seeO_od, wJoin, wM, oAppend, oPop, oPopAt, wDPut, wDPop, wSortK, wDict0, wTup, wLst, wCall, wAnd, wOr, wNot, wAndV, wOrV, wNotV, wIf, wYes, wLc, wiEnumX, oListX, oTuple, oSort, oSortSet, oAll, oAny, S.fz, S.own, D.flat, txts_map, bools_map, txtKeys_map, List.length_map, List.map_cons, List.map_nil, List.length_cons, List.length_nil, List.cons_append, List.nil_append, List.replicate, decide_eq_true_eq, Bool.not_eq_true', Bool.not_true, Bool.not_false, if_true, if_false, Nat.zero_add, Nat.reduceAdd, Nat.reduceSub, ge_iff_le, true_and, and_true, zip_unzip, Bool.false_xor, Bool.true_xor, Bool.false_eq_true, Bool.true_eq_false, reduceIte, wipeR, dataR_cons, dataR_nil, dataO_d, dataO_none, dataO_ol, dataO_od, oDict, oIsi, tyD, isiB, wSl, wPart, wNoP, oSl, wDisp1, wDGet2, oRemove, atI_0, atI_1, atI_2, wiRev, revItems, oDictP, wForK, wiKeys, kD, oSortX, oPow, oBitAnd, oShl, oNeg, wUn, oInt, oStr, oDivmod, oIs, isD, wChain, wFz, wFzE, frzR, wLSet, wiZip, seqsD, wiVals, wiItems, wOIx, wNo, Option.isSome_some, oMulX, wM1, oSplit, oPart, oStrip1, oRep, oSum, intsD, wRaise, wLI, wLK
, wiR3, wLR, wDisp, wPairs, oReverse, oClear, oInsert, wRevL, wDZ, seqLT, oSortIT, sp_row_of, sp_worth, asF_fD]
      refine ⟨hs, n, rfl, rowR (sg s).reverse n, rowD_K _, ⟨hf.1, fun p hp => ⟨(hf.2 p hp).1, fun c hc => by rw [rowR_keys]; exact List.mem_reverse.mpr ((hf.2 p hp).2 c hc)⟩⟩, ?_⟩
      have e : rowF (rowR (sg s).reverse n) = rowF (rowN (sg s) n) := by
        funext c
        exact (rowF_rev (by rw [rowR_keys]; exact hnd) c).symm
      rw [e]
      exact hQ
    · have e : (List.range (2 ^ (sg s).length)).filterMap (fun n : Nat => some (D.bl (val (rowF (rowN (sg s) n)) f))) = (tabL s f).map .bl := by
        unfold tabL
        rw [List.map_map, ← List.filterMap_eq_map]; rfl
      rw [e]
      exact hq
  · exact h.elim
theorem eqX_rev {r : Row} {P : Bool → Prop} (hn : (r.map (·.1)).Nodup) (h : P true) : eqX (rowD r) (rowD r.reverse) P := by
  have e : eqS (rowD r) (rowD r.reverse) = none := rfl
  unfold eqX
  rw [e]
  exact ⟨by rw [rowK_zip, rowK_zip]; exact dicEq_rev hn, h⟩
theorem enumD_range {g : Nat → D} : ∀ (n i : Nat), enumD i ((List.range' i n).map g) = (List.range' i n).map fun k => .tup [.int (k : Int), g k]
  | 0, _ => rfl
  | n + 1, i => by
    rw [List.range'_succ, List.map_cons, List.map_cons, enumD, enumD_range n (i + 1)]
end DL
set_option maxHeartbeats 2000000
/-! F13c: law k13. -/
namespace DL
open PySem L2
theorem pairs_rowK : ∀ r : Row, pairsD (r.map fun q => D.tup [.str (one q.1), .bl q.2]) = some (rowK r)
  | [] => rfl
  | q :: r => by rw [List.map_cons, pairsD, pairs_rowK r]; rfl
theorem merge_rowK : ∀ (b a : Row), ((a ++ b).map (·.1)).Nodup → mergeD (rowK a) (rowK b) = rowK (a ++ b)
  | [], a, _ => by rw [List.append_nil]; rfl
  | q :: b, a, h => by
    show mergeD (vput (rowK a) (.inr (one q.1)) (.bl q.2)) (rowK b) = _
    have hn : q.1 ∉ a.map (·.1) := by
      rw [List.map_append, List.nodup_append] at h
      exact fun z => h.2.2 _ z _ (by simp) rfl
    rw [vput_row hn]
    have e : a ++ (q.1, q.2) :: b = (a ++ [(q.1, q.2)]) ++ b := by simp
    rw [merge_rowK b (a ++ [(q.1, q.2)]) (by rw [← e]; exact h), ← e]
/-- the row of a product's letters over all nine -/
def lrow (p : Str) : Row := LET.map fun c => (c, decide (c ∈ sg p))
theorem lrow_keys (p : Str) : (lrow p).map (·.1) = LET := by unfold lrow; rw [List.map_map]; exact List.map_id' _
theorem lrow_F {p : Str} {c : Nat} (h : c ∈ LET) : rowF (lrow p) c = decide (c ∈ sg p) :=
  rowF_mem (p := (c, decide (c ∈ sg p))) (by rw [lrow_keys]; exact up_nodup LET_up) (List.mem_map.mpr ⟨c, h, rfl⟩)
/-- of the products with a letter a least one's letters hold it alone -/
def restF (f : List Str) (c : Nat) (p : Str) : List Str := f.filter fun q => decide (c ∉ sg q) && (sg q).all fun d => decide (d ∈ sg p)
theorem tr_lrow {p q : Str} (hq : Prd q) : tr (rowF (lrow p)) q = (sg q).all fun d => decide (d ∈ sg p) := by
  unfold tr
  rw [Bool.eq_iff_iff, List.all_eq_true, List.all_eq_true]
  exact ⟨fun h c hc => by rw [← lrow_F (hq.le c hc)]; exact h c hc, fun h c hc => by rw [lrow_F (hq.le c hc)]; exact h c hc⟩
theorem turn_one {f : List Str} {c : Nat} {p : Str} (hf : Frm f) (hp : p ∈ f) (hc : c ∈ sg p) (hl : ∀ q ∈ f, c ∈ sg q → (sg p).length ≤ (sg q).length) :
    val (rowF (lrow p)) f = decide ((restF f c p).length % 2 = 0) := by
  have e : f.countP (tr (rowF (lrow p))) = (restF f c p).length + 1 := by
    have h1 : (restF f c p).length = f.countP fun q => decide (c ∉ sg q) && (sg q).all fun d => decide (d ∈ sg p) := by unfold restF; rw [List.countP_eq_length_filter]
    have h2 : f.countP (· == p) = 1 := by
      have a := List.nodup_iff_count.mp hf.nd p
      have b := List.count_pos_iff.mpr hp
      unfold List.count at a b
      omega
    rw [h1, ← h2]
    have g : ∀ l : List Str, (∀ q ∈ l, q ∈ f) → l.countP (tr (rowF (lrow p))) = (l.countP fun q => decide (c ∉ sg q) && (sg q).all fun d => decide (d ∈ sg p)) + l.countP (· == p) := fun l => by
      induction l with
      | nil => exact fun _ => rfl
      | cons q l ih =>
        intro hm
        have hq := hm q List.mem_cons_self
        rw [List.countP_cons, List.countP_cons, List.countP_cons, ih fun x hx => hm x (List.mem_cons_of_mem _ hx), tr_lrow (hf.prd q hq)]
        by_cases e : q = p
        · subst e
          have e1 : ((sg q).all fun d => decide (d ∈ sg q)) = true := by rw [List.all_eq_true]; exact fun d hd => decide_eq_true hd
          rw [e1]
          simp [hc]; omega
        · by_cases c1 : c ∈ sg q
          · have e2 : ((sg q).all fun d => decide (d ∈ sg p)) = false := by
              rw [Bool.eq_false_iff]
              intro z
              rw [List.all_eq_true] at z
              exact e (sub_len (hf.prd q hq) (hf.prd p hp) (fun d hd => of_decide_eq_true (z d hd)) (hl q hq c1))
            rw [e2]; simp [e]
          · simp [c1, e]; omega
    exact g f fun _ h => h
  unfold val
  rw [e]
  exact decide_eq_decide.mpr (by omega)
theorem turn_two {f : List Str} {c : Nat} {p : Str} (hf : Frm f) : val (rowF (setR (lrow p) c false)) f = decide ((restF f c p).length % 2 = 1) := by
  rw [rowF_setR]
  unfold val restF
  rw [← List.countP_eq_length_filter]
  have : f.countP (tr (updR (rowF (lrow p)) c false)) = f.countP fun q => decide (c ∉ sg q) && (sg q).all fun d => decide (d ∈ sg p) := List.countP_congr fun q hq => by
    have hp := hf.prd q hq
    rw [Bool.and_eq_true, ← tr_lrow hp]
    unfold tr updR
    rw [List.all_eq_true, List.all_eq_true]
    constructor
    · intro h
      refine ⟨decide_eq_true fun z => ?_, fun d hd => ?_⟩
      · have := h c z; rw [if_pos rfl] at this; cases this
      · have := h d hd
        by_cases e : d = c
        · rw [if_pos e] at this; cases this
        · rw [if_neg e] at this; exact this
    · rintro ⟨h1, h2⟩ d hd
      have ne : d ≠ c := fun e => of_decide_eq_true h1 (e ▸ hd)
      rw [if_neg ne]; exact h2 d hd
  rw [this]
theorem least_it {pool : List Str} {qs : List IT} (hp : qs.Perm (pool.map fun p => ((p.length : Int), p))) (hs : SrtO.Srtd ltIT qs) (h : pool ≠ []) : ∃ p r, qs = ((p.length : Int), p) :: r ∧ p ∈ pool ∧ ∀ q ∈ pool, p.length ≤ q.length := by
  cases qs with
  | nil =>
    have := hp.length_eq
    rw [List.length_map] at this
    exact absurd (List.length_eq_zero_iff.mp this.symm) h
  | cons x r =>
    obtain ⟨p, hm, rfl⟩ := List.mem_map.mp (hp.mem_iff.mp List.mem_cons_self)
    refine ⟨p, r, rfl, hm, fun q hq => ?_⟩
    have hq2 := hp.mem_iff.mpr (List.mem_map.mpr ⟨q, hq, rfl⟩)
    rcases List.mem_cons.mp hq2 with e | e
    · have := congrArg Prod.snd e
      simp only at this
      rw [this]; exact Nat.le_refl _
    · have := List.rel_of_pairwise_cons hs e
      have := ltIT_no.mp this
      exact Nat.le_of_not_lt fun z => this (.inl (by show (q.length : Int) < p.length; omega))
/-! ### _law_turns -/
def sp_L_turns_3ed : DSp := fun ds P _ => match ds with
  | [x, .str l] => asF x fun f => ∃ c, l = one c ∧ Frm f ∧ c ∈ LET ∧ (∃ p ∈ f, c ∈ sg p) ∧ P (.d (.bl true))
  | _ => False
abbrev N_L_turns_3ed : List Str := ["_law_form_here", "_law_letter", "_law_least", "_law_product_here", "_law_row", "_law_each", "_law_first", "_law_rest"]
def w_L_turns_3ed_t5 : WS := (wRet (wAndV (wOp oEqX (wVar 6) (wOp oEqX (wOp oMod (wCB oLen (wCons (wVar 7) wNil)) (wC (.int 2))) (wC (.int 0)))) (wLend (wOp oEqX (wCall sp_worth (fun _ _ => False) (wCons (wVar 0) (wCons (wVar 4) wNil))) (wOp oEqX (wOp oMod (wCB oLen (wCons (wVar 7) wNil)) (wC (.int 2))) (wC (.int 1)))))))
def w_L_turns_3ed_t4 : WS := wSeq (wAsg (wLc (wiX (wVar 0)) (wgName 3) (wAnd (wB (wOp (oInX true) (wVar 1) (wVar 3))) (wB (wCB oAll (wCons (wLc (wiX (wVar 3)) (wgName 5) wYes (wOp (oInX false) (wVar 5) (wVar 2)) [5]) wNil)))) (wVar 3) [3]) (wgName 7))
    w_L_turns_3ed_t5
def w_L_turns_3ed_t3 : WS := wSeq (wDPut 4 (wVar 1) (wC (.bl false)))
    w_L_turns_3ed_t4
def w_L_turns_3ed_t2 : WS := wSeq (wAsg (wLend (wCall sp_worth (fun _ _ => False) (wCons (wVar 0) (wCons (wVar 4) wNil)))) (wgName 6))
    w_L_turns_3ed_t3
def w_L_turns_3ed_t1 : WS := wSeq (wSet 4 (wCB oDictP (wCons (wLc (wiX (wC (.str "abcpqrxyz"))) (wgName 5) wYes (wTup (wCons (wVar 5) (wCons (wOp (oInX false) (wVar 5) (wVar 2)) wNil))) [5]) wNil)))
    w_L_turns_3ed_t2
def w_L_turns_3ed : WS := wSeq (wAsg (wOp oIxX (wOp oIxX (wCB oSortIT (wCons (wLc (wiX (wVar 0)) (wgName 3) (wB (wOp (oInX false) (wVar 1) (wVar 3))) (wTup (wCons (wCB oLen (wCons (wVar 3) wNil)) (wCons (wVar 3) wNil))) [3]) wNil)) (wC (.int 0))) (wC (.int 1))) (wgName 2))
    w_L_turns_3ed_t1
theorem len_L_turns_3ed {ds Q px} (h : sp_L_turns_3ed ds Q px) : ds.length = 2 := by unfold sp_L_turns_3ed at h; split at h <;> first | rfl | exact h.elim
theorem rd_L_turns_3ed {ds Q px} (h : sp_L_turns_3ed ds Q px) : w_L_turns_3ed ⟨fun _ => Q (.d .non), Q, fun _ => False, fun _ => False⟩ (startR N_L_turns_3ed ds) := by
  unfold sp_L_turns_3ed at h
  split at h
  · rename_i x l
    obtain ⟨f, rfl, c, rfl, hf, hcl, hpc, hq⟩ := asF_of h
    clear h
    have lf := hf.len
    have t2 : ∀ p ∈ f, c ∈ sg p → (∀ q ∈ f, c ∈ sg q → (sg p).length ≤ (sg q).length) → w_L_turns_3ed_t2 ⟨fun _ => Q (.d .non), Q, fun _ => False, fun _ => False⟩ [some (.d (fD f)), some (.d (.str (one c))), some (.d (.str p)), none, some (.od (rowK (lrow p))), none, none, none] := fun p hp hc hl => by
      have pre : ∀ r : Row, (∀ d, d ∈ LET → d ∈ r.map (·.1)) → f.length ≤ 100000 ∧ ∀ p ∈ f, (sg p).length ≤ 1000 ∧ ∀ d ∈ sg p, d ∈ r.map (·.1) := fun r hr =>
        ⟨by omega, fun q hq => ⟨by have := (hf.prd q hq).len; omega, fun d hd => hr d ((hf.prd q hq).le d hd)⟩⟩
      have k1 : ∀ d, d ∈ LET → d ∈ (lrow p).map (·.1) := fun d hd => by rw [lrow_keys]; exact hd
      have k2 : ∀ d, d ∈ LET → d ∈ (setR (lrow p) c false).map (·.1) := fun d hd => (keys_setR _ _ _ _).mpr (.inl (k1 d hd))
      simp only [w_L_turns_3ed_t2, w_L_turns_3ed_t3, wSeq, wSet, wAsg, wC, wIfS, wB, wOp, oI, oI0, asI, asS, asL, asLT, asT, asB, asA_some, asA_none, asO, asOL, asOD, asKey, asDic, asSq, oLen, oMod, oAdd, oSub, oMul, oDiv, oMax, oMin, oPlus, oEqX, oNeX, eqX_int, eqX_str, eqX_bl, oCmp, oLtX, oLeX, oGtX, oGeX, oIxX, oInX, wCB, wCons, wNil, wVar, wMove, nth, put, startR, wNext, wRet, wRetN, wDrop, wFor, wiR1, wiR2, wiX, itemsOf, wgName, wgTup, wgCons, wgNil, wLend, wLendT, seeR_cons, seeR_nil, seeO_d, seeO_none, seeO_ol, seeO_od, wJoin, wM, oAppend, oPop, oPopAt, wDPut, wDPop, wSortK, wDict0, wTup, wLst, wCall, wAnd, wOr, wNot, wAndV, wOrV, wNotV, wIf, wYes, wLc, wiEnumX, oListX, oTuple, oSort, oSortSet, oAll, oAny, S.fz, S.own, D.flat, txts_map, bools_map, txtKeys_map, List.length_map, List.map_cons, List.map_nil, List.length_cons, List.length_nil, List.cons_append, List.nil_append, List.replicate, decide_eq_true_eq, Bool.not_eq_true', Bool.not_true, Bool.not_false, if_true, if_false, Nat.zero_add, Nat.reduceAdd, Nat.reduceSub, ge_iff_le, true_and, and_true, zip_unzip, Bool.false_xor, Bool.true_xor, Bool.false_eq_true, Bool.true_eq_false, reduceIte, wipeR, dataR_cons, dataR_nil, dataO_d, dataO_none, dataO_ol, dataO_od, oDict, oIsi, tyD, isiB, wSl, wPart, wNoP, oSl, wDisp1, wDGet2, oRemove, atI_0, atI_1, atI_2, wiRev, revItems, oDictP, wForK, wiKeys, kD, oSortX, oPow, oBitAnd, oShl, oNeg, wUn, oInt, oStr, oDivmod, oIs, isD, wChain, wFz, wFzE, frzR, wLSet, wiZip, seqsD, wiVals, wiItems, wOIx, wNo, Option.isSome_some, oMulX, wM1, oSplit, oPart, oStrip1, oRep, oSum, intsD, wRaise, wLI, wLK
, wiR3, wLR, wDisp, wPairs, oReverse, oClear, oInsert, wRevL, wDZ, seqLT, oSortIT, sp_worth, asF_fD]
      refine ⟨lrow p, ?_, pre _ k1, ?_⟩
      · exact rowD_K _
      rw [vput_setR]
      refine ⟨by have : (rowK (lrow p)).length = 9 := (by unfold rowK lrow; rw [List.length_map, List.length_map]; rfl); rw [this]; decide, ?_⟩
      simp only [w_L_turns_3ed_t4, fD, wSeq, wSet, wAsg, wC, wIfS, wB, wOp, oI, oI0, asI, asS, asL, asLT, asT, asB, asA_some, asA_none, asO, asOL, asOD, asKey, asDic, asSq, oLen, oMod, oAdd, oSub, oMul, oDiv, oMax, oMin, oPlus, oEqX, oNeX, eqX_int, eqX_str, eqX_bl, oCmp, oLtX, oLeX, oGtX, oGeX, oIxX, oInX, wCB, wCons, wNil, wVar, wMove, nth, put, startR, wNext, wRet, wRetN, wDrop, wFor, wiR1, wiR2, wiX, itemsOf, wgName, wgTup, wgCons, wgNil, wLend, wLendT, seeR_cons, seeR_nil, seeO_d, seeO_none, seeO_ol, seeO_od, wJoin, wM, oAppend, oPop, oPopAt, wDPut, wDPop, wSortK, wDict0, wTup, wLst, wCall, wAnd, wOr, wNot, wAndV, wOrV, wNotV, wIf, wYes, wLc, wiEnumX, oListX, oTuple, oSort, oSortSet, oAll, oAny, S.fz, S.own, D.flat, txts_map, bools_map, txtKeys_map, List.length_map, List.map_cons, List.map_nil, List.length_cons, List.length_nil, List.cons_append, List.nil_append, List.replicate, decide_eq_true_eq, Bool.not_eq_true', Bool.not_true, Bool.not_false, if_true, if_false, Nat.zero_add, Nat.reduceAdd, Nat.reduceSub, ge_iff_le, true_and, and_true, zip_unzip, Bool.false_xor, Bool.true_xor, Bool.false_eq_true, Bool.true_eq_false, reduceIte, wipeR, dataR_cons, dataR_nil, dataO_d, dataO_none, dataO_ol, dataO_od, oDict, oIsi, tyD, isiB, wSl, wPart, wNoP, oSl, wDisp1, wDGet2, oRemove, atI_0, atI_1, atI_2, wiRev, revItems, oDictP, wForK, wiKeys, kD, oSortX, oPow, oBitAnd, oShl, oNeg, wUn, oInt, oStr, oDivmod, oIs, isD, wChain, wFz, wFzE, frzR, wLSet, wiZip, seqsD, wiVals, wiItems, wOIx, wNo, Option.isSome_some, oMulX, wM1, oSplit, oPart, oStrip1, oRep, oSum, intsD, wRaise, wLI, wLK
, wiR3, wLR, wDisp, wPairs, oReverse, oClear, oInsert, wRevL, wDZ, seqLT, oSortIT]
      refine ⟨by rw [len0]; omega, ?_⟩
      refine compD_map mono_name (fun q : Str => if (decide (c ∉ sg q) && (sg q).all fun d => decide (d ∈ sg p)) = true then some (.str q) else none) f _ (fun q hq Q' hQ => ?_) ?_
      · simp only [wSeq, wSet, wAsg, wC, wIfS, wB, wOp, oI, oI0, asI, asS, asL, asLT, asT, asB, asA_some, asA_none, asO, asOL, asOD, asKey, asDic, asSq, oLen, oMod, oAdd, oSub, oMul, oDiv, oMax, oMin, oPlus, oEqX, oNeX, eqX_int, eqX_str, eqX_bl, oCmp, oLtX, oLeX, oGtX, oGeX, oIxX, oInX, wCB, wCons, wNil, wVar, wMove, nth, put, startR, wNext, wRet, wRetN, wDrop, wFor, wiR1, wiR2, wiX, itemsOf, wgName, wgTup, wgCons, wgNil, wLend, wLendT, seeR_cons, seeR_nil, seeO_d, seeO_none, seeO_ol, seeO_od, wJoin, wM, oAppend, oPop, oPopAt, wDPut, wDPop, wSortK, wDict0, wTup, wLst, wCall, wAnd, wOr, wNot, wAndV, wOrV, wNotV, wIf, wYes, wLc, wiEnumX, oListX, oTuple, oSort, oSortSet, oAll, oAny, S.fz, S.own, D.flat, txts_map, bools_map, txtKeys_map, List.length_map, List.map_cons, List.map_nil, List.length_cons, List.length_nil, List.cons_append, List.nil_append, List.replicate, decide_eq_true_eq, Bool.not_eq_true', Bool.not_true, Bool.not_false, if_true, if_false, Nat.zero_add, Nat.reduceAdd, Nat.reduceSub, ge_iff_le, true_and, and_true, zip_unzip, Bool.false_xor, Bool.true_xor, Bool.false_eq_true, Bool.true_eq_false, reduceIte, wipeR, dataR_cons, dataR_nil, dataO_d, dataO_none, dataO_ol, dataO_od, oDict, oIsi, tyD, isiB, wSl, wPart, wNoP, oSl, wDisp1, wDGet2, oRemove, atI_0, atI_1, atI_2, wiRev, revItems, oDictP, wForK, wiKeys, kD, oSortX, oPow, oBitAnd, oShl, oNeg, wUn, oInt, oStr, oDivmod, oIs, isD, wChain, wFz, wFzE, frzR, wLSet, wiZip, seqsD, wiVals, wiItems, wOIx, wNo, Option.isSome_some, oMulX, wM1, oSplit, oPart, oStrip1, oRep, oSum, intsD, wRaise, wLI, wLK
, wiR3, wLR, wDisp, wPairs, oReverse, oClear, oInsert, wRevL, wDZ, seqLT, oSortIT, inS_one', decide_eq_true_eq, Bool.true_xor, Bool.not_eq_true', decide_eq_false_iff_not]
        have l9 := (hf.prd q hq).len
        by_cases h1 : c ∈ sg q
        · rw [if_neg (fun z => z h1)]
          simp only [h1, not_true_eq_false, decide_false, Bool.false_and, Bool.false_eq_true, if_false] at hQ
          exact hQ
        · rw [if_pos h1, signs_eq, List.map_map]
          simp only [h1, not_false_eq_true, decide_true, Bool.true_and] at hQ
          refine ⟨by rw [List.length_map, len0]; omega, ?_⟩
          refine compD_map mono_name (fun d => some (.bl (decide (d ∈ sg p)))) (sg q) _ (fun d hd Q2 hQ2 => ?_) ?_
          · simp only [wSeq, wSet, wAsg, wC, wIfS, wB, wOp, oI, oI0, asI, asS, asL, asLT, asT, asB, asA_some, asA_none, asO, asOL, asOD, asKey, asDic, asSq, oLen, oMod, oAdd, oSub, oMul, oDiv, oMax, oMin, oPlus, oEqX, oNeX, eqX_int, eqX_str, eqX_bl, oCmp, oLtX, oLeX, oGtX, oGeX, oIxX, oInX, wCB, wCons, wNil, wVar, wMove, nth, put, startR, wNext, wRet, wRetN, wDrop, wFor, wiR1, wiR2, wiX, itemsOf, wgName, wgTup, wgCons, wgNil, wLend, wLendT, seeR_cons, seeR_nil, seeO_d, seeO_none, seeO_ol, seeO_od, wJoin, wM, oAppend, oPop, oPopAt, wDPut, wDPop, wSortK, wDict0, wTup, wLst, wCall, wAnd, wOr, wNot, wAndV, wOrV, wNotV, wIf, wYes, wLc, wiEnumX, oListX, oTuple, oSort, oSortSet, oAll, oAny, S.fz, S.own, D.flat, txts_map, bools_map, txtKeys_map, List.length_map, List.map_cons, List.map_nil, List.length_cons, List.length_nil, List.cons_append, List.nil_append, List.replicate, decide_eq_true_eq, Bool.not_eq_true', Bool.not_true, Bool.not_false, if_true, if_false, Nat.zero_add, Nat.reduceAdd, Nat.reduceSub, ge_iff_le, true_and, and_true, zip_unzip, Bool.false_xor, Bool.true_xor, Bool.false_eq_true, Bool.true_eq_false, reduceIte, wipeR, dataR_cons, dataR_nil, dataO_d, dataO_none, dataO_ol, dataO_od, oDict, oIsi, tyD, isiB, wSl, wPart, wNoP, oSl, wDisp1, wDGet2, oRemove, atI_0, atI_1, atI_2, wiRev, revItems, oDictP, wForK, wiKeys, kD, oSortX, oPow, oBitAnd, oShl, oNeg, wUn, oInt, oStr, oDivmod, oIs, isD, wChain, wFz, wFzE, frzR, wLSet, wiZip, seqsD, wiVals, wiItems, wOIx, wNo, Option.isSome_some, oMulX, wM1, oSplit, oPart, oStrip1, oRep, oSum, intsD, wRaise, wLI, wLK
, wiR3, wLR, wDisp, wPairs, oReverse, oClear, oInsert, wRevL, wDZ, seqLT, oSortIT, Function.comp, inS_one']
            exact hQ2
          · have e : (sg q).filterMap (fun d => some (D.bl (decide (d ∈ sg p)))) = ((sg q).map fun d => decide (d ∈ sg p)).map .bl := by
              rw [List.map_map, ← List.filterMap_eq_map]; rfl
            rw [e, bools_map, asA_some, List.all_map]
            show if ((sg q).all fun d => decide (d ∈ sg p)) = true then _ else _
            split
            · rename_i z; rw [if_pos z] at hQ; exact hQ
            · rename_i z; rw [if_neg z] at hQ; exact hQ
      · have e : f.filterMap (fun q : Str => if (decide (c ∉ sg q) && (sg q).all fun d => decide (d ∈ sg p)) = true then some (D.str q) else none) = (restF f c p).map .str := by
          unfold restF
          rw [← List.filterMap_eq_filter, List.map_filterMap]
          congr 1
          funext q
          by_cases h : (decide (c ∉ sg q) && (sg q).all fun d => decide (d ∈ sg p)) = true <;> simp only [h, Option.guard, if_true, if_false, Option.map] <;> rfl
        rw [e]
        have lr : (restF f c p).length ≤ sizeLine := Nat.le_trans (List.length_filter_le _ _) (by rw [len0]; omega)
        simp only [w_L_turns_3ed_t5, wSeq, wSet, wAsg, wC, wIfS, wB, wOp, oI, oI0, asI, asS, asL, asLT, asT, asB, asA_some, asA_none, asO, asOL, asOD, asKey, asDic, asSq, oLen, oMod, oAdd, oSub, oMul, oDiv, oMax, oMin, oPlus, oEqX, oNeX, eqX_int, eqX_str, eqX_bl, oCmp, oLtX, oLeX, oGtX, oGeX, oIxX, oInX, wCB, wCons, wNil, wVar, wMove, nth, put, startR, wNext, wRet, wRetN, wDrop, wFor, wiR1, wiR2, wiX, itemsOf, wgName, wgTup, wgCons, wgNil, wLend, wLendT, seeR_cons, seeR_nil, seeO_d, seeO_none, seeO_ol, seeO_od, wJoin, wM, oAppend, oPop, oPopAt, wDPut, wDPop, wSortK, wDict0, wTup, wLst, wCall, wAnd, wOr, wNot, wAndV, wOrV, wNotV, wIf, wYes, wLc, wiEnumX, oListX, oTuple, oSort, oSortSet, oAll, oAny, S.fz, S.own, D.flat, txts_map, bools_map, txtKeys_map, List.length_map, List.map_cons, List.map_nil, List.length_cons, List.length_nil, List.cons_append, List.nil_append, List.replicate, decide_eq_true_eq, Bool.not_eq_true', Bool.not_true, Bool.not_false, if_true, if_false, Nat.zero_add, Nat.reduceAdd, Nat.reduceSub, ge_iff_le, true_and, and_true, zip_unzip, Bool.false_xor, Bool.true_xor, Bool.false_eq_true, Bool.true_eq_false, reduceIte, wipeR, dataR_cons, dataR_nil, dataO_d, dataO_none, dataO_ol, dataO_od, oDict, oIsi, tyD, isiB, wSl, wPart, wNoP, oSl, wDisp1, wDGet2, oRemove, atI_0, atI_1, atI_2, wiRev, revItems, oDictP, wForK, wiKeys, kD, oSortX, oPow, oBitAnd, oShl, oNeg, wUn, oInt, oStr, oDivmod, oIs, isD, wChain, wFz, wFzE, frzR, wLSet, wiZip, seqsD, wiVals, wiItems, wOIx, wNo, Option.isSome_some, oMulX, wM1, oSplit, oPart, oStrip1, oRep, oSum, intsD, wRaise, wLI, wLK
, wiR3, wLR, wDisp, wPairs, oReverse, oClear, oInsert, wRevL, wDZ, seqLT, oSortIT, sp_worth]
        have ei : ∀ n : Nat, decide ((n : Int) % 2 = 0) = decide (n % 2 = 0) := fun n => decide_eq_decide.mpr (by omega)
        have ej : ∀ n : Nat, decide ((n : Int) % 2 = 1) = decide (n % 2 = 1) := fun n => decide_eq_decide.mpr (by omega)
        rw [ei, turn_one hf hp hc hl, if_pos rfl]
        refine ⟨by decide, ?_⟩
        show asF (fD f) _
        rw [asF_fD]
        refine ⟨setR (lrow p) c false, rowD_K _, pre _ k2, by decide, ?_⟩
        rw [ej, turn_two hf, decide_eq_true rfl]
        exact hq
    have t1 : ∀ p ∈ f, c ∈ sg p → (∀ q ∈ f, c ∈ sg q → (sg p).length ≤ (sg q).length) → w_L_turns_3ed_t1 ⟨fun _ => Q (.d .non), Q, fun _ => False, fun _ => False⟩ [some (.d (fD f)), some (.d (.str (one c))), some (.d (.str p)), none, none, none, none, none] := fun p hp hc hl => by
      have hpp := hf.prd p hp
      simp only [w_L_turns_3ed_t1, wSeq, wSet, wAsg, wC, wIfS, wB, wOp, oI, oI0, asI, asS, asL, asLT, asT, asB, asA_some, asA_none, asO, asOL, asOD, asKey, asDic, asSq, oLen, oMod, oAdd, oSub, oMul, oDiv, oMax, oMin, oPlus, oEqX, oNeX, eqX_int, eqX_str, eqX_bl, oCmp, oLtX, oLeX, oGtX, oGeX, oIxX, oInX, wCB, wCons, wNil, wVar, wMove, nth, put, startR, wNext, wRet, wRetN, wDrop, wFor, wiR1, wiR2, wiX, itemsOf, wgName, wgTup, wgCons, wgNil, wLend, wLendT, seeR_cons, seeR_nil, seeO_d, seeO_none, seeO_ol, seeO_od, wJoin, wM, oAppend, oPop, oPopAt, wDPut, wDPop, wSortK, wDict0, wTup, wLst, wCall, wAnd, wOr, wNot, wAndV, wOrV, wNotV, wIf, wYes, wLc, wiEnumX, oListX, oTuple, oSort, oSortSet, oAll, oAny, S.fz, S.own, D.flat, txts_map, bools_map, txtKeys_map, List.length_map, List.map_cons, List.map_nil, List.length_cons, List.length_nil, List.cons_append, List.nil_append, List.replicate, decide_eq_true_eq, Bool.not_eq_true', Bool.not_true, Bool.not_false, if_true, if_false, Nat.zero_add, Nat.reduceAdd, Nat.reduceSub, ge_iff_le, true_and, and_true, zip_unzip, Bool.false_xor, Bool.true_xor, Bool.false_eq_true, Bool.true_eq_false, reduceIte, wipeR, dataR_cons, dataR_nil, dataO_d, dataO_none, dataO_ol, dataO_od, oDict, oIsi, tyD, isiB, wSl, wPart, wNoP, oSl, wDisp1, wDGet2, oRemove, atI_0, atI_1, atI_2, wiRev, revItems, oDictP, wForK, wiKeys, kD, oSortX, oPow, oBitAnd, oShl, oNeg, wUn, oInt, oStr, oDivmod, oIs, isD, wChain, wFz, wFzE, frzR, wLSet, wiZip, seqsD, wiVals, wiItems, wOIx, wNo, Option.isSome_some, oMulX, wM1, oSplit, oPart, oStrip1, oRep, oSum, intsD, wRaise, wLI, wLK
, wiR3, wLR, wDisp, wPairs, oReverse, oClear, oInsert, wRevL, wDZ, seqLT, oSortIT]
      refine ⟨by decide +kernel, ?_⟩
      have e0 : (signs "abcpqrxyz").map D.str = LET.map fun c => D.str (one c) := by
        rw [signs_eq, show sg "abcpqrxyz" = LET by decide +kernel, List.map_map]; rfl
      rw [e0]
      refine compD_map mono_name (fun d => some (.tup [.str (one d), .bl (decide (d ∈ sg p))])) LET _ (fun d hd Q' hQ => ?_) ?_
      · simp only [wSeq, wSet, wAsg, wC, wIfS, wB, wOp, oI, oI0, asI, asS, asL, asLT, asT, asB, asA_some, asA_none, asO, asOL, asOD, asKey, asDic, asSq, oLen, oMod, oAdd, oSub, oMul, oDiv, oMax, oMin, oPlus, oEqX, oNeX, eqX_int, eqX_str, eqX_bl, oCmp, oLtX, oLeX, oGtX, oGeX, oIxX, oInX, wCB, wCons, wNil, wVar, wMove, nth, put, startR, wNext, wRet, wRetN, wDrop, wFor, wiR1, wiR2, wiX, itemsOf, wgName, wgTup, wgCons, wgNil, wLend, wLendT, seeR_cons, seeR_nil, seeO_d, seeO_none, seeO_ol, seeO_od, wJoin, wM, oAppend, oPop, oPopAt, wDPut, wDPop, wSortK, wDict0, wTup, wLst, wCall, wAnd, wOr, wNot, wAndV, wOrV, wNotV, wIf, wYes, wLc, wiEnumX, oListX, oTuple, oSort, oSortSet, oAll, oAny, S.fz, S.own, D.flat, txts_map, bools_map, txtKeys_map, List.length_map, List.map_cons, List.map_nil, List.length_cons, List.length_nil, List.cons_append, List.nil_append, List.replicate, decide_eq_true_eq, Bool.not_eq_true', Bool.not_true, Bool.not_false, if_true, if_false, Nat.zero_add, Nat.reduceAdd, Nat.reduceSub, ge_iff_le, true_and, and_true, zip_unzip, Bool.false_xor, Bool.true_xor, Bool.false_eq_true, Bool.true_eq_false, reduceIte, wipeR, dataR_cons, dataR_nil, dataO_d, dataO_none, dataO_ol, dataO_od, oDict, oIsi, tyD, isiB, wSl, wPart, wNoP, oSl, wDisp1, wDGet2, oRemove, atI_0, atI_1, atI_2, wiRev, revItems, oDictP, wForK, wiKeys, kD, oSortX, oPow, oBitAnd, oShl, oNeg, wUn, oInt, oStr, oDivmod, oIs, isD, wChain, wFz, wFzE, frzR, wLSet, wiZip, seqsD, wiVals, wiItems, wOIx, wNo, Option.isSome_some, oMulX, wM1, oSplit, oPart, oStrip1, oRep, oSum, intsD, wRaise, wLI, wLK
, wiR3, wLR, wDisp, wPairs, oReverse, oClear, oInsert, wRevL, wDZ, seqLT, oSortIT, inS_one']
        exact ⟨by decide, hQ⟩
      · have e1 : LET.filterMap (fun d => some (D.tup [.str (one d), .bl (decide (d ∈ sg p))])) = (lrow p).map fun q => D.tup [.str (one q.1), .bl q.2] := by
          rw [← List.filterMap_eq_map]; unfold lrow; rw [← List.filterMap_eq_map, List.filterMap_filterMap]; rfl
        rw [e1, pairs_rowK, asA_some, show mergeD [] (rowK (lrow p)) = rowK (lrow p) from merge_rowK (lrow p) [] (by rw [List.nil_append, lrow_keys]; exact up_nodup LET_up)]
        exact t2 p hp hc hl
    unfold w_L_turns_3ed
    simp only [N_L_turns_3ed, fD, wSeq, wSet, wAsg, wC, wIfS, wB, wOp, oI, oI0, asI, asS, asL, asLT, asT, asB, asA_some, asA_none, asO, asOL, asOD, asKey, asDic, asSq, oLen, oMod, oAdd, oSub, oMul, oDiv, oMax, oMin, oPlus, oEqX, oNeX, eqX_int, eqX_str, eqX_bl, oCmp, oLtX, oLeX, oGtX, oGeX, oIxX, oInX, wCB, wCons, wNil, wVar, wMove, nth, put, startR, wNext, wRet, wRetN, wDrop, wFor, wiR1, wiR2, wiX, itemsOf, wgName, wgTup, wgCons, wgNil, wLend, wLendT, seeR_cons, seeR_nil, seeO_d, seeO_none, seeO_ol, seeO_od, wJoin, wM, oAppend, oPop, oPopAt, wDPut, wDPop, wSortK, wDict0, wTup, wLst, wCall, wAnd, wOr, wNot, wAndV, wOrV, wNotV, wIf, wYes, wLc, wiEnumX, oListX, oTuple, oSort, oSortSet, oAll, oAny, S.fz, S.own, D.flat, txts_map, bools_map, txtKeys_map, List.length_map, List.map_cons, List.map_nil, List.length_cons, List.length_nil, List.cons_append, List.nil_append, List.replicate, decide_eq_true_eq, Bool.not_eq_true', Bool.not_true, Bool.not_false, if_true, if_false, Nat.zero_add, Nat.reduceAdd, Nat.reduceSub, ge_iff_le, true_and, and_true, zip_unzip, Bool.false_xor, Bool.true_xor, Bool.false_eq_true, Bool.true_eq_false, reduceIte, wipeR, dataR_cons, dataR_nil, dataO_d, dataO_none, dataO_ol, dataO_od, oDict, oIsi, tyD, isiB, wSl, wPart, wNoP, oSl, wDisp1, wDGet2, oRemove, atI_0, atI_1, atI_2, wiRev, revItems, oDictP, wForK, wiKeys, kD, oSortX, oPow, oBitAnd, oShl, oNeg, wUn, oInt, oStr, oDivmod, oIs, isD, wChain, wFz, wFzE, frzR, wLSet, wiZip, seqsD, wiVals, wiItems, wOIx, wNo, Option.isSome_some, oMulX, wM1, oSplit, oPart, oStrip1, oRep, oSum, intsD, wRaise, wLI, wLK
, wiR3, wLR, wDisp, wPairs, oReverse, oClear, oInsert, wRevL, wDZ, seqLT, oSortIT]
    refine ⟨by rw [len0]; omega, ?_⟩
    refine compD_map mono_name (fun p : Str => if c ∈ sg p then some (itD ((p.length : Int), p)) else none) f _ (fun p hp Q' hQ => ?_) ?_
    · simp only [wSeq, wSet, wAsg, wC, wIfS, wB, wOp, oI, oI0, asI, asS, asL, asLT, asT, asB, asA_some, asA_none, asO, asOL, asOD, asKey, asDic, asSq, oLen, oMod, oAdd, oSub, oMul, oDiv, oMax, oMin, oPlus, oEqX, oNeX, eqX_int, eqX_str, eqX_bl, oCmp, oLtX, oLeX, oGtX, oGeX, oIxX, oInX, wCB, wCons, wNil, wVar, wMove, nth, put, startR, wNext, wRet, wRetN, wDrop, wFor, wiR1, wiR2, wiX, itemsOf, wgName, wgTup, wgCons, wgNil, wLend, wLendT, seeR_cons, seeR_nil, seeO_d, seeO_none, seeO_ol, seeO_od, wJoin, wM, oAppend, oPop, oPopAt, wDPut, wDPop, wSortK, wDict0, wTup, wLst, wCall, wAnd, wOr, wNot, wAndV, wOrV, wNotV, wIf, wYes, wLc, wiEnumX, oListX, oTuple, oSort, oSortSet, oAll, oAny, S.fz, S.own, D.flat, txts_map, bools_map, txtKeys_map, List.length_map, List.map_cons, List.map_nil, List.length_cons, List.length_nil, List.cons_append, List.nil_append, List.replicate, decide_eq_true_eq, Bool.not_eq_true', Bool.not_true, Bool.not_false, if_true, if_false, Nat.zero_add, Nat.reduceAdd, Nat.reduceSub, ge_iff_le, true_and, and_true, zip_unzip, Bool.false_xor, Bool.true_xor, Bool.false_eq_true, Bool.true_eq_false, reduceIte, wipeR, dataR_cons, dataR_nil, dataO_d, dataO_none, dataO_ol, dataO_od, oDict, oIsi, tyD, isiB, wSl, wPart, wNoP, oSl, wDisp1, wDGet2, oRemove, atI_0, atI_1, atI_2, wiRev, revItems, oDictP, wForK, wiKeys, kD, oSortX, oPow, oBitAnd, oShl, oNeg, wUn, oInt, oStr, oDivmod, oIs, isD, wChain, wFz, wFzE, frzR, wLSet, wiZip, seqsD, wiVals, wiItems, wOIx, wNo, Option.isSome_some, oMulX, wM1, oSplit, oPart, oStrip1, oRep, oSum, intsD, wRaise, wLI, wLK
, wiR3, wLR, wDisp, wPairs, oReverse, oClear, oInsert, wRevL, wDZ, seqLT, oSortIT, inS_one', decide_eq_true_eq]
      have l9 := (hf.prd p hp).len
      have lp : p.length ≤ sizeLine := by rw [sg_len, len0]; omega
      split
      · rename_i hc
        rw [if_pos hc] at hQ
        exact ⟨lp, by decide, hQ⟩
      · rename_i hc
        rw [if_neg hc] at hQ
        exact hQ
    · have e : f.filterMap (fun p : Str => if c ∈ sg p then some (itD ((p.length : Int), p)) else none) = ((f.filter fun p => decide (c ∈ sg p)).map fun p => ((p.length : Int), p)).map itD := by
        rw [← List.filterMap_eq_filter, List.map_map, List.map_filterMap]
        congr 1
        funext p
        by_cases h : c ∈ sg p <;> simp [h, Option.guard]
      rw [e, pairsIT_map, asA_some]
      intro qs hp hs
      obtain ⟨p0, hp0, hc0⟩ := hpc
      obtain ⟨p, r, rfl, hm, hl⟩ := least_it hp hs (List.ne_nil_of_mem (List.mem_filter.mpr ⟨hp0, decide_eq_true hc0⟩))
      rw [List.mem_filter] at hm
      rw [List.map_cons]
      simp only [itD, wSeq, wSet, wAsg, wC, wIfS, wB, wOp, oI, oI0, asI, asS, asL, asLT, asT, asB, asA_some, asA_none, asO, asOL, asOD, asKey, asDic, asSq, oLen, oMod, oAdd, oSub, oMul, oDiv, oMax, oMin, oPlus, oEqX, oNeX, eqX_int, eqX_str, eqX_bl, oCmp, oLtX, oLeX, oGtX, oGeX, oIxX, oInX, wCB, wCons, wNil, wVar, wMove, nth, put, startR, wNext, wRet, wRetN, wDrop, wFor, wiR1, wiR2, wiX, itemsOf, wgName, wgTup, wgCons, wgNil, wLend, wLendT, seeR_cons, seeR_nil, seeO_d, seeO_none, seeO_ol, seeO_od, wJoin, wM, oAppend, oPop, oPopAt, wDPut, wDPop, wSortK, wDict0, wTup, wLst, wCall, wAnd, wOr, wNot, wAndV, wOrV, wNotV, wIf, wYes, wLc, wiEnumX, oListX, oTuple, oSort, oSortSet, oAll, oAny, S.fz, S.own, D.flat, txts_map, bools_map, txtKeys_map, List.length_map, List.map_cons, List.map_nil, List.length_cons, List.length_nil, List.cons_append, List.nil_append, List.replicate, decide_eq_true_eq, Bool.not_eq_true', Bool.not_true, Bool.not_false, if_true, if_false, Nat.zero_add, Nat.reduceAdd, Nat.reduceSub, ge_iff_le, true_and, and_true, zip_unzip, Bool.false_xor, Bool.true_xor, Bool.false_eq_true, Bool.true_eq_false, reduceIte, wipeR, dataR_cons, dataR_nil, dataO_d, dataO_none, dataO_ol, dataO_od, oDict, oIsi, tyD, isiB, wSl, wPart, wNoP, oSl, wDisp1, wDGet2, oRemove, atI_0, atI_1, atI_2, wiRev, revItems, oDictP, wForK, wiKeys, kD, oSortX, oPow, oBitAnd, oShl, oNeg, wUn, oInt, oStr, oDivmod, oIs, isD, wChain, wFz, wFzE, frzR, wLSet, wiZip, seqsD, wiVals, wiItems, wOIx, wNo, Option.isSome_some, oMulX, wM1, oSplit, oPart, oStrip1, oRep, oSum, intsD, wRaise, wLI, wLK
, wiR3, wLR, wDisp, wPairs, oReverse, oClear, oInsert, wRevL, wDZ, seqLT, oSortIT]
      exact t1 p hm.1 (of_decide_eq_true hm.2) fun q hq hcq => by
        have := hl q (List.mem_filter.mpr ⟨hq, decide_eq_true hcq⟩); rw [sg_len, sg_len] at this; exact this -- (List.mem_filter.mpr ⟨hq, decide_eq_true hcq⟩)
  · exact h.elim
/-! ### law -/
theorem eqX_rowT {r : Row} {P : Bool → Prop} (hn : (r.map (·.1)).Nodup) (h : P true) : eqX (rowD r) (rowD r) P := by
  have e : eqS (rowD r) (rowD r) = none := rfl
  unfold eqX
  rw [e]
  have d : dicEq (rowK r) (rowK r) := ⟨rfl, fun p hp => by
    obtain ⟨q, hq, rfl⟩ := List.mem_map.mp hp
    exact ⟨_, vget_row (c := q.1) (List.mem_map.mpr ⟨q, hq, rfl⟩), .inl ⟨by rw [rowF_mem hn hq], rfl⟩⟩⟩
  exact ⟨by rw [rowK_zip]; exact d, h⟩
theorem prd_abc : Prd "abcpqrxyz" := ⟨by rw [show sg "abcpqrxyz" = LET by decide +kernel]; exact LET_up, by rw [show sg "abcpqrxyz" = LET by decide +kernel]; exact fun _ h => h⟩
theorem due_letF {f : List Str} (hf : Frm f) : Txt.join "" ((LET.filter fun c => decide (c ∈ sg (joinS f))).map one) = letF f := by
  apply sg_inj
  rw [sg_join0 sg_nil, flat_ones]
  refine up_ext (LET_up.filter _) (prd_letF hf).up fun c => ?_
  rw [List.mem_filter, mem_letF, decide_eq_true_iff, mem_joinS]
  exact ⟨fun z => z.2, fun z => ⟨let ⟨p, hp, hc⟩ := z; (hf.prd p hp).le c hc, z⟩⟩
theorem fmL (T : Nat → Prop) [DecidablePred T] (l : List Nat) : l.filterMap (fun d => if T d then some (D.str (one d)) else none) = ((l.filter fun d => decide (T d)).map one).map .str := by
  rw [← List.filterMap_eq_filter, List.map_map, List.map_filterMap]
  congr 1
  funext d
  by_cases h : T d <;> simp [h, Option.guard]
abbrev N_law : List Str := ["_law_script", "_law_k", "_law_letters_here", "_law_form_here", "_law_due", "_law_letter", "_law_found", "_law_n", "_law_number", "_law_some", "_law_row", "_law_handed", "_law_told"]
def w_law_b1_t1 : WS := (wAsg (wOp oDiv (wVar 8) (wC (.int 2))) (wgName 8))
def w_law_b1 : WS := wSeq (wDPut 10 (wVar 5) (wOp oEqX (wOp oMod (wVar 8) (wC (.int 2))) (wC (.int 1))))
    w_law_b1_t1
def w_law_b2_t7 : WS := (wIfS (wOr (wNot (wB (wCB oIsi (wCons (wVar 12) (wCons (wC (.ty "bool")) wNil))))) (wOr (wLendT (wB (wOp oNeX (wVar 12) (wCall sp_L_worth (fun _ _ => False) (wCons (wVar 3) (wCons (wVar 10) wNil)))))) (wLendT (wB (wOp oNeX (wVar 11) (wVar 10)))))) (wRet (wC (.bl false))) wNext)
def w_law_b2_t6 : WS := wSeq (wAsg (wCall sp_worth (fun _ _ => False) (wCons (wVar 3) (wCons (wVar 11) wNil))) (wgName 12))
    w_law_b2_t7
def w_law_b2_t5 : WS := wSeq (wAsg (wCB oDict (wCons (wVar 10) wNil)) (wgName 11))
    w_law_b2_t6
def w_law_b2_t4 : WS := wSeq (wFor (wiRev (wVar 9)) (wgName 5)
      w_law_b1)
    w_law_b2_t5
def w_law_b2_t3 : WS := wSeq (wSet 10 wDict0)
    w_law_b2_t4
def w_law_b2_t2 : WS := wSeq (wIfS (wB (wOp oEqX (wOp oMod (wVar 7) (wC (.int 2))) (wC (.int 1)))) (wAsg (wC (.str "abcpqrxyz")) (wgName 9)) wNext)
    w_law_b2_t3
def w_law_b2_t1 : WS := wSeq (wAsg (wVar 4) (wgName 9))
    w_law_b2_t2
def w_law_b2 : WS := wSeq (wAsg (wOp oDiv (wCall sp_L_mixed (fun _ _ => False) (wCons (wVar 0) (wCons (wOp oPlus (wOp oPlus (wC (.int 130)) (wOp oMul (wC (.int 8)) (wVar 1))) (wVar 7)) wNil))) (wC (.int 3))) (wgName 8))
    w_law_b2_t1
def w_law_b3_t6 : WS := (wIfS (wNot (wB (wCB oAll (wCons (wLc (wiX (wVar 4)) (wgName 5) wYes (wCall sp_L_turns_3ed (fun _ _ => False) (wCons (wVar 3) (wCons (wVar 5) wNil))) [5]) wNil)))) (wRet (wC (.bl false))) wNext)
def w_law_b3_t5 : WS := wSeq (wFor (wiR1 (wCons (wC (.int 8)) wNil)) (wgName 7)
      w_law_b2)
    w_law_b3_t6
def w_law_b3_t4 : WS := wSeq (wIfS (wOr (wNot (wB (wCB oIsi (wCons (wVar 6) (wCons (wC (.ty "str")) wNil))))) (wB (wOp oNeX (wVar 6) (wVar 4)))) (wRet (wC (.bl false))) wNext)
    w_law_b3_t5
def w_law_b3_t3 : WS := wSeq (wAsg (wCall sp_letters_of (fun _ _ => False) (wCons (wVar 3) wNil)) (wgName 6))
    w_law_b3_t4
def w_law_b3_t2 : WS := wSeq (wAsg (wJoin (wC (.str "")) (wLc (wiX (wC (.str "abcpqrxyz"))) (wgName 5) (wB (wOp (oInX false) (wVar 5) (wJoin (wC (.str "")) (wVar 3)))) (wVar 5) [5])) (wgName 4))
    w_law_b3_t3
def w_law_b3_t1 : WS := wSeq (wAsg (wCall sp_L_form (fun _ _ => False) (wCons (wVar 0) (wCons (wOp oPlus (wC (.int 10)) (wOp oMul (wC (.int 40)) (wVar 1))) (wCons (wVar 2) wNil)))) (wgName 3))
    w_law_b3_t2
def w_law_b3 : WS := wSeq (wAsg (wCall sp_L_letters (fun _ _ => False) (wCons (wCall sp_L_mixed (fun _ _ => False) (wCons (wVar 0) (wCons (wOp oMul (wC (.int 5)) (wVar 1)) wNil))) (wCons (wOp oMod (wCall sp_L_mixed (fun _ _ => False) (wCons (wVar 0) (wCons (wOp oPlus (wOp oMul (wC (.int 5)) (wVar 1)) (wC (.int 1))) wNil))) (wC (.int 10))) wNil))) (wgName 2))
    w_law_b3_t1
def w_law_t1 : WS := (wRet (wC (.bl true)))
def w_law : WS := wSeq (wFor (wiR1 (wCons (wC (.int 3)) wNil)) (wgName 1)
      w_law_b3)
    w_law_t1
theorem len_law {ds Q px} (h : spLaw ds Q px) : ds.length = 1 := by obtain ⟨ns, rfl, _⟩ := h; rfl
theorem rd_law {ds Q px} (h : spLaw ds Q px) : w_law ⟨fun _ => Q (.d .non), Q, fun _ => False, fun _ => False⟩ (startR N_law ds) := by
  obtain ⟨ns, rfl, hl, hb, hq⟩ := h
  have eL : (signs "abcpqrxyz").map D.str = LET.map fun c => D.str (one c) := by
    rw [signs_eq, show sg "abcpqrxyz" = LET by decide +kernel, List.map_map]; rfl
  unfold w_law
  simp only [N_law, w_law_t1, wSeq, wSet, wAsg, wC, wIfS, wB, wOp, oI, oI0, asI, asS, asL, asLT, asT, asB, asA_some, asA_none, asO, asOL, asOD, asKey, asDic, asSq, oLen, oMod, oAdd, oSub, oMul, oDiv, oMax, oMin, oPlus, oEqX, oNeX, eqX_int, eqX_str, eqX_bl, oCmp, oLtX, oLeX, oGtX, oGeX, oIxX, oInX, wCB, wCons, wNil, wVar, wMove, nth, put, startR, wNext, wRet, wRetN, wDrop, wFor, wiR1, wiR2, wiX, itemsOf, wgName, wgTup, wgCons, wgNil, wLend, wLendT, seeR_cons, seeR_nil, seeO_d, seeO_none, seeO_ol, seeO_od, wJoin, wM, oAppend, oPop, oPopAt, wDPut, wDPop, wSortK, wDict0, wTup, wLst, wCall, wAnd, wOr, wNot, wAndV, wOrV, wNotV, wIf, wYes, wLc, wiEnumX, oListX, oTuple, oSort, oSortSet, oAll, oAny, S.fz, S.own, D.flat, txts_map, bools_map, txtKeys_map, List.length_map, List.map_cons, List.map_nil, List.length_cons, List.length_nil, List.cons_append, List.nil_append, List.replicate, decide_eq_true_eq, Bool.not_eq_true', Bool.not_true, Bool.not_false, if_true, if_false, Nat.zero_add, Nat.reduceAdd, Nat.reduceSub, ge_iff_le, true_and, and_true, zip_unzip, Bool.false_xor, Bool.true_xor, Bool.false_eq_true, Bool.true_eq_false, reduceIte, wipeR, dataR_cons, dataR_nil, dataO_d, dataO_none, dataO_ol, dataO_od, oDict, oIsi, tyD, isiB, wSl, wPart, wNoP, oSl, wDisp1, wDGet2, oRemove, atI_0, atI_1, atI_2, wiRev, revItems, oDictP, wForK, wiKeys, kD, oSortX, oPow, oBitAnd, oShl, oNeg, wUn, oInt, oStr, oDivmod, oIs, isD, wChain, wFz, wFzE, frzR, wLSet, wiZip, seqsD, wiVals, wiItems, wOIx, wNo, Option.isSome_some, oMulX, wM1, oSplit, oPart, oStrip1, oRep, oSum, intsD, wRaise, wLI, wLK
, wiR3, wLR, wDisp, wPairs, oReverse, oClear, oInsert, wRevL, wDZ, seqLT, oSortIT]
  rw [show rangeD 0 (3 : Int).toNat = (List.range 3).map fun (k : Nat) => D.int (0 + k) from rfl]
  refine ⟨⟨by decide, by decide⟩, ?_⟩
  refine forD_map (I := fun _ _ ρ => ∃ (o1 o2 o3 o4 o5 o6 o7 o8 o9 o10 o11 o12 : Option S), ρ = [some (.d (.cel ns)), o1, o2, o3, o4, o5, o6, o7, o8, o9, o10, o11, o12]) mono_name _ (fun done k ys ρ he hI => ?_) (fun ρ hI => ?_) _ ⟨_, _, _, _, _, _, _, _, _, _, _, _, rfl⟩
  · obtain ⟨o1, o2, o3, o4, o5, o6, o7, o8, o9, o10, o11, o12, rfl⟩ := hI
    have hk : k < 3 := List.mem_range.mp (by rw [he]; simp)
    simp only [w_law_b3, w_law_b3_t1, wSeq, wSet, wAsg, wC, wIfS, wB, wOp, oI, oI0, asI, asS, asL, asLT, asT, asB, asA_some, asA_none, asO, asOL, asOD, asKey, asDic, asSq, oLen, oMod, oAdd, oSub, oMul, oDiv, oMax, oMin, oPlus, oEqX, oNeX, eqX_int, eqX_str, eqX_bl, oCmp, oLtX, oLeX, oGtX, oGeX, oIxX, oInX, wCB, wCons, wNil, wVar, wMove, nth, put, startR, wNext, wRet, wRetN, wDrop, wFor, wiR1, wiR2, wiX, itemsOf, wgName, wgTup, wgCons, wgNil, wLend, wLendT, seeR_cons, seeR_nil, seeO_d, seeO_none, seeO_ol, seeO_od, wJoin, wM, oAppend, oPop, oPopAt, wDPut, wDPop, wSortK, wDict0, wTup, wLst, wCall, wAnd, wOr, wNot, wAndV, wOrV, wNotV, wIf, wYes, wLc, wiEnumX, oListX, oTuple, oSort, oSortSet, oAll, oAny, S.fz, S.own, D.flat, txts_map, bools_map, txtKeys_map, List.length_map, List.map_cons, List.map_nil, List.length_cons, List.length_nil, List.cons_append, List.nil_append, List.replicate, decide_eq_true_eq, Bool.not_eq_true', Bool.not_true, Bool.not_false, if_true, if_false, Nat.zero_add, Nat.reduceAdd, Nat.reduceSub, ge_iff_le, true_and, and_true, zip_unzip, Bool.false_xor, Bool.true_xor, Bool.false_eq_true, Bool.true_eq_false, reduceIte, wipeR, dataR_cons, dataR_nil, dataO_d, dataO_none, dataO_ol, dataO_od, oDict, oIsi, tyD, isiB, wSl, wPart, wNoP, oSl, wDisp1, wDGet2, oRemove, atI_0, atI_1, atI_2, wiRev, revItems, oDictP, wForK, wiKeys, kD, oSortX, oPow, oBitAnd, oShl, oNeg, wUn, oInt, oStr, oDivmod, oIs, isD, wChain, wFz, wFzE, frzR, wLSet, wiZip, seqsD, wiVals, wiItems, wOIx, wNo, Option.isSome_some, oMulX, wM1, oSplit, oPart, oStrip1, oRep, oSum, intsD, wRaise, wLI, wLK
, wiR3, wLR, wDisp, wPairs, oReverse, oClear, oInsert, wRevL, wDZ, seqLT, oSortIT, sp_L_mixed, sp_L_letters, sp_L_form]
    refine ⟨.inl ⟨by decide, by decide⟩, ⟨hl, by omega, by omega⟩, fun z1 z10 _ => ⟨.inl ⟨by decide, by decide⟩, ⟨hl, by omega, by omega⟩, fun z2 z20 _ => ⟨by decide, ⟨z10, Int.emod_nonneg _ (by decide)⟩, fun s hs hsl => ⟨.inl ⟨by decide, by decide⟩, ⟨hl, by omega, by omega, hs⟩, fun f hf hfo => ?_⟩⟩⟩⟩
    have h6 : ∀ {DD : DEnds} {o5 o7 o8 o9 o10 o11 o12 : Option S}, (∀ o5, DD.nx [some (.d (.cel ns)), some (.d (.int (0 + k))), some (.d (.str s)), some (.d (fD f)), some (.d (.str (letF f))), o5, some (.d (.str (letF f))), o7, o8, o9, o10, o11, o12]) → w_law_b3_t6 DD [some (.d (.cel ns)), some (.d (.int (0 + k))), some (.d (.str s)), some (.d (fD f)), some (.d (.str (letF f))), o5, some (.d (.str (letF f))), o7, o8, o9, o10, o11, o12] := fun {DD o5 o7 o8 o9 o10 o11 o12} hn => by
      have l9 := (prd_letF hf).len
      simp only [w_law_b3_t6, wSeq, wSet, wAsg, wC, wIfS, wB, wOp, oI, oI0, asI, asS, asL, asLT, asT, asB, asA_some, asA_none, asO, asOL, asOD, asKey, asDic, asSq, oLen, oMod, oAdd, oSub, oMul, oDiv, oMax, oMin, oPlus, oEqX, oNeX, eqX_int, eqX_str, eqX_bl, oCmp, oLtX, oLeX, oGtX, oGeX, oIxX, oInX, wCB, wCons, wNil, wVar, wMove, nth, put, startR, wNext, wRet, wRetN, wDrop, wFor, wiR1, wiR2, wiX, itemsOf, wgName, wgTup, wgCons, wgNil, wLend, wLendT, seeR_cons, seeR_nil, seeO_d, seeO_none, seeO_ol, seeO_od, wJoin, wM, oAppend, oPop, oPopAt, wDPut, wDPop, wSortK, wDict0, wTup, wLst, wCall, wAnd, wOr, wNot, wAndV, wOrV, wNotV, wIf, wYes, wLc, wiEnumX, oListX, oTuple, oSort, oSortSet, oAll, oAny, S.fz, S.own, D.flat, txts_map, bools_map, txtKeys_map, List.length_map, List.map_cons, List.map_nil, List.length_cons, List.length_nil, List.cons_append, List.nil_append, List.replicate, decide_eq_true_eq, Bool.not_eq_true', Bool.not_true, Bool.not_false, if_true, if_false, Nat.zero_add, Nat.reduceAdd, Nat.reduceSub, ge_iff_le, true_and, and_true, zip_unzip, Bool.false_xor, Bool.true_xor, Bool.false_eq_true, Bool.true_eq_false, reduceIte, wipeR, dataR_cons, dataR_nil, dataO_d, dataO_none, dataO_ol, dataO_od, oDict, oIsi, tyD, isiB, wSl, wPart, wNoP, oSl, wDisp1, wDGet2, oRemove, atI_0, atI_1, atI_2, wiRev, revItems, oDictP, wForK, wiKeys, kD, oSortX, oPow, oBitAnd, oShl, oNeg, wUn, oInt, oStr, oDivmod, oIs, isD, wChain, wFz, wFzE, frzR, wLSet, wiZip, seqsD, wiVals, wiItems, wOIx, wNo, Option.isSome_some, oMulX, wM1, oSplit, oPart, oStrip1, oRep, oSum, intsD, wRaise, wLI, wLK
, wiR3, wLR, wDisp, wPairs, oReverse, oClear, oInsert, wRevL, wDZ, seqLT, oSortIT]
      rw [signs_eq, List.map_map]
      refine ⟨by rw [List.length_map, len0]; omega, ?_⟩
      refine compD_map mono_name (fun d => some (.bl true)) (sg (letF f)) _ (fun d hd Q' hQ => ?_) ?_
      · simp only [wSeq, wSet, wAsg, wC, wIfS, wB, wOp, oI, oI0, asI, asS, asL, asLT, asT, asB, asA_some, asA_none, asO, asOL, asOD, asKey, asDic, asSq, oLen, oMod, oAdd, oSub, oMul, oDiv, oMax, oMin, oPlus, oEqX, oNeX, eqX_int, eqX_str, eqX_bl, oCmp, oLtX, oLeX, oGtX, oGeX, oIxX, oInX, wCB, wCons, wNil, wVar, wMove, nth, put, startR, wNext, wRet, wRetN, wDrop, wFor, wiR1, wiR2, wiX, itemsOf, wgName, wgTup, wgCons, wgNil, wLend, wLendT, seeR_cons, seeR_nil, seeO_d, seeO_none, seeO_ol, seeO_od, wJoin, wM, oAppend, oPop, oPopAt, wDPut, wDPop, wSortK, wDict0, wTup, wLst, wCall, wAnd, wOr, wNot, wAndV, wOrV, wNotV, wIf, wYes, wLc, wiEnumX, oListX, oTuple, oSort, oSortSet, oAll, oAny, S.fz, S.own, D.flat, txts_map, bools_map, txtKeys_map, List.length_map, List.map_cons, List.map_nil, List.length_cons, List.length_nil, List.cons_append, List.nil_append, List.replicate, decide_eq_true_eq, Bool.not_eq_true', Bool.not_true, Bool.not_false, if_true, if_false, Nat.zero_add, Nat.reduceAdd, Nat.reduceSub, ge_iff_le, true_and, and_true, zip_unzip, Bool.false_xor, Bool.true_xor, Bool.false_eq_true, Bool.true_eq_false, reduceIte, wipeR, dataR_cons, dataR_nil, dataO_d, dataO_none, dataO_ol, dataO_od, oDict, oIsi, tyD, isiB, wSl, wPart, wNoP, oSl, wDisp1, wDGet2, oRemove, atI_0, atI_1, atI_2, wiRev, revItems, oDictP, wForK, wiKeys, kD, oSortX, oPow, oBitAnd, oShl, oNeg, wUn, oInt, oStr, oDivmod, oIs, isD, wChain, wFz, wFzE, frzR, wLSet, wiZip, seqsD, wiVals, wiItems, wOIx, wNo, Option.isSome_some, oMulX, wM1, oSplit, oPart, oStrip1, oRep, oSum, intsD, wRaise, wLI, wLK
, wiR3, wLR, wDisp, wPairs, oReverse, oClear, oInsert, wRevL, wDZ, seqLT, oSortIT, Function.comp, sp_L_turns_3ed, asF_fD]
        exact ⟨d, rfl, hf, (prd_letF hf).le d hd, mem_letF.mp hd, hQ⟩
      · have e : (sg (letF f)).filterMap (fun d => some (D.bl true)) = ((sg (letF f)).map fun _ => true).map .bl := by
          rw [List.map_map, ← List.filterMap_eq_map]; rfl
        rw [e, bools_map, asA_some, List.all_map]
        rw [show ((sg (letF f)).all (id ∘ fun _ => true)) = true by rw [List.all_eq_true]; exact fun _ _ => rfl]
        simp only [wSeq, wSet, wAsg, wC, wIfS, wB, wOp, oI, oI0, asI, asS, asL, asLT, asT, asB, asA_some, asA_none, asO, asOL, asOD, asKey, asDic, asSq, oLen, oMod, oAdd, oSub, oMul, oDiv, oMax, oMin, oPlus, oEqX, oNeX, eqX_int, eqX_str, eqX_bl, oCmp, oLtX, oLeX, oGtX, oGeX, oIxX, oInX, wCB, wCons, wNil, wVar, wMove, nth, put, startR, wNext, wRet, wRetN, wDrop, wFor, wiR1, wiR2, wiX, itemsOf, wgName, wgTup, wgCons, wgNil, wLend, wLendT, seeR_cons, seeR_nil, seeO_d, seeO_none, seeO_ol, seeO_od, wJoin, wM, oAppend, oPop, oPopAt, wDPut, wDPop, wSortK, wDict0, wTup, wLst, wCall, wAnd, wOr, wNot, wAndV, wOrV, wNotV, wIf, wYes, wLc, wiEnumX, oListX, oTuple, oSort, oSortSet, oAll, oAny, S.fz, S.own, D.flat, txts_map, bools_map, txtKeys_map, List.length_map, List.map_cons, List.map_nil, List.length_cons, List.length_nil, List.cons_append, List.nil_append, List.replicate, decide_eq_true_eq, Bool.not_eq_true', Bool.not_true, Bool.not_false, if_true, if_false, Nat.zero_add, Nat.reduceAdd, Nat.reduceSub, ge_iff_le, true_and, and_true, zip_unzip, Bool.false_xor, Bool.true_xor, Bool.false_eq_true, Bool.true_eq_false, reduceIte, wipeR, dataR_cons, dataR_nil, dataO_d, dataO_none, dataO_ol, dataO_od, oDict, oIsi, tyD, isiB, wSl, wPart, wNoP, oSl, wDisp1, wDGet2, oRemove, atI_0, atI_1, atI_2, wiRev, revItems, oDictP, wForK, wiKeys, kD, oSortX, oPow, oBitAnd, oShl, oNeg, wUn, oInt, oStr, oDivmod, oIs, isD, wChain, wFz, wFzE, frzR, wLSet, wiZip, seqsD, wiVals, wiItems, wOIx, wNo, Option.isSome_some, oMulX, wM1, oSplit, oPart, oStrip1, oRep, oSum, intsD, wRaise, wLI, wLK
, wiR3, wLR, wDisp, wPairs, oReverse, oClear, oInsert, wRevL, wDZ, seqLT, oSortIT]
        exact hn _
    have row : ∀ {DD : DEnds} {n : Nat} {t : Str} {m : Nat} {o5 o10 o11 o12 : Option S}, Prd t → (∀ c ∈ sg (letF f), c ∈ sg t) → (∀ o5 o7 o8 o9 o10 o11 o12, DD.nx [some (.d (.cel ns)), some (.d (.int (0 + k))), some (.d (.str s)), some (.d (fD f)), some (.d (.str (letF f))), o5, some (.d (.str (letF f))), o7, o8, o9, o10, o11, o12]) →
        w_law_b2_t3 DD [some (.d (.cel ns)), some (.d (.int (0 + k))), some (.d (.str s)), some (.d (fD f)), some (.d (.str (letF f))), o5, some (.d (.str (letF f))), some (.d (.int (0 + n))), some (.d (.int (m : Nat))), some (.d (.str t)), o10, o11, o12] := fun {DD n t m o5 o10 o11 o12} ht hft hn => by
      simp only [w_law_b2_t3, w_law_b2_t4, wSeq, wSet, wAsg, wC, wIfS, wB, wOp, oI, oI0, asI, asS, asL, asLT, asT, asB, asA_some, asA_none, asO, asOL, asOD, asKey, asDic, asSq, oLen, oMod, oAdd, oSub, oMul, oDiv, oMax, oMin, oPlus, oEqX, oNeX, eqX_int, eqX_str, eqX_bl, oCmp, oLtX, oLeX, oGtX, oGeX, oIxX, oInX, wCB, wCons, wNil, wVar, wMove, nth, put, startR, wNext, wRet, wRetN, wDrop, wFor, wiR1, wiR2, wiX, itemsOf, wgName, wgTup, wgCons, wgNil, wLend, wLendT, seeR_cons, seeR_nil, seeO_d, seeO_none, seeO_ol, seeO_od, wJoin, wM, oAppend, oPop, oPopAt, wDPut, wDPop, wSortK, wDict0, wTup, wLst, wCall, wAnd, wOr, wNot, wAndV, wOrV, wNotV, wIf, wYes, wLc, wiEnumX, oListX, oTuple, oSort, oSortSet, oAll, oAny, S.fz, S.own, D.flat, txts_map, bools_map, txtKeys_map, List.length_map, List.map_cons, List.map_nil, List.length_cons, List.length_nil, List.cons_append, List.nil_append, List.replicate, decide_eq_true_eq, Bool.not_eq_true', Bool.not_true, Bool.not_false, if_true, if_false, Nat.zero_add, Nat.reduceAdd, Nat.reduceSub, ge_iff_le, true_and, and_true, zip_unzip, Bool.false_xor, Bool.true_xor, Bool.false_eq_true, Bool.true_eq_false, reduceIte, wipeR, dataR_cons, dataR_nil, dataO_d, dataO_none, dataO_ol, dataO_od, oDict, oIsi, tyD, isiB, wSl, wPart, wNoP, oSl, wDisp1, wDGet2, oRemove, atI_0, atI_1, atI_2, wiRev, revItems, oDictP, wForK, wiKeys, kD, oSortX, oPow, oBitAnd, oShl, oNeg, wUn, oInt, oStr, oDivmod, oIs, isD, wChain, wFz, wFzE, frzR, wLSet, wiZip, seqsD, wiVals, wiItems, wOIx, wNo, Option.isSome_some, oMulX, wM1, oSplit, oPart, oStrip1, oRep, oSum, intsD, wRaise, wLI, wLK
, wiR3, wLR, wDisp, wPairs, oReverse, oClear, oInsert, wRevL, wDZ, seqLT, oSortIT]
      have hl0 : t.length ≤ sizeLine := by have := ht.len; rw [sg_len, len0]; omega
      refine ⟨hl0, ?_⟩
      rw [signs_eq, ← List.map_reverse, List.map_map]
      refine forD_map (I := fun done _ ρ => ∃ (o5 : Option S), ρ = [some (.d (.cel ns)), some (.d (.int (0 + k))), some (.d (.str s)), some (.d (fD f)), some (.d (.str (letF f))), o5, some (.d (.str (letF f))), some (.d (.int (0 + n))), some (.d (.int (m / 2 ^ done.length : Nat))), some (.d (.str t)), some (.od (rowK (rowR done m))), o11, o12]) mono_name _ (fun done x ys ρ he hI => ?_) (fun ρ hI => ?_) _ ⟨o5, by simp [rowR, rowK]⟩
      · obtain ⟨o, rfl⟩ := hI
        have hnd : (sg t).reverse.Nodup := (List.reverse_perm _).nodup_iff.mpr (ht.up.imp fun h => Nat.ne_of_lt h)
        rw [he] at hnd
        have hx : x ∉ (rowR done m).map (·.1) := by
          rw [rowR_keys]
          exact fun z => (List.nodup_append.mp hnd).2.2 _ z _ List.mem_cons_self rfl
        simp only [w_law_b1, w_law_b1_t1, wSeq, wSet, wAsg, wC, wIfS, wB, wOp, oI, oI0, asI, asS, asL, asLT, asT, asB, asA_some, asA_none, asO, asOL, asOD, asKey, asDic, asSq, oLen, oMod, oAdd, oSub, oMul, oDiv, oMax, oMin, oPlus, oEqX, oNeX, eqX_int, eqX_str, eqX_bl, oCmp, oLtX, oLeX, oGtX, oGeX, oIxX, oInX, wCB, wCons, wNil, wVar, wMove, nth, put, startR, wNext, wRet, wRetN, wDrop, wFor, wiR1, wiR2, wiX, itemsOf, wgName, wgTup, wgCons, wgNil, wLend, wLendT, seeR_cons, seeR_nil, seeO_d, seeO_none, seeO_ol, seeO_od, wJoin, wM, oAppend, oPop, oPopAt, wDPut, wDPop, wSortK, wDict0, wTup, wLst, wCall, wAnd, wOr, wNot, wAndV, wOrV, wNotV, wIf, wYes, wLc, wiEnumX, oListX, oTuple, oSort, oSortSet, oAll, oAny, S.fz, S.own, D.flat, txts_map, bools_map, txtKeys_map, List.length_map, List.map_cons, List.map_nil, List.length_cons, List.length_nil, List.cons_append, List.nil_append, List.replicate, decide_eq_true_eq, Bool.not_eq_true', Bool.not_true, Bool.not_false, if_true, if_false, Nat.zero_add, Nat.reduceAdd, Nat.reduceSub, ge_iff_le, true_and, and_true, zip_unzip, Bool.false_xor, Bool.true_xor, Bool.false_eq_true, Bool.true_eq_false, reduceIte, wipeR, dataR_cons, dataR_nil, dataO_d, dataO_none, dataO_ol, dataO_od, oDict, oIsi, tyD, isiB, wSl, wPart, wNoP, oSl, wDisp1, wDGet2, oRemove, atI_0, atI_1, atI_2, wiRev, revItems, oDictP, wForK, wiKeys, kD, oSortX, oPow, oBitAnd, oShl, oNeg, wUn, oInt, oStr, oDivmod, oIs, isD, wChain, wFz, wFzE, frzR, wLSet, wiZip, seqsD, wiVals, wiItems, wOIx, wNo, Option.isSome_some, oMulX, wM1, oSplit, oPart, oStrip1, oRep, oSum, intsD, wRaise, wLI, wLK
, wiR3, wLR, wDisp, wPairs, oReverse, oClear, oInsert, wRevL, wDZ, seqLT, oSortIT, Function.comp, vput_row hx]
        have hrl : done.length ≤ 9 := by
          have := congrArg List.length he
          rw [List.length_reverse, List.length_append] at this
          have := ht.len
          omega
        refine ⟨by decide, by rw [rowK, List.length_map, len0, ← List.length_map (f := (·.1)), rowR_keys]; omega, ⟨by decide, by decide⟩, some (.d (.str (one x))), ?_⟩
        have e1 : ((m / 2 ^ done.length : Nat) : Int) / 2 = ((m / 2 ^ (done ++ [x]).length : Nat) : Int) := by
          rw [List.length_append, List.length_singleton, Nat.pow_succ, ← Nat.div_div_eq_div_mul]; omega
        have e2 : decide (((m / 2 ^ done.length : Nat) : Int) % 2 = 1) = decide (m / 2 ^ done.length % 2 = 1) := decide_eq_decide.mpr (by omega)
        rw [e1, e2, rowR_app]
      · obtain ⟨o, rfl⟩ := hI
        simp only [w_law_b2_t5, w_law_b2_t6, wSeq, wSet, wAsg, wC, wIfS, wB, wOp, oI, oI0, asI, asS, asL, asLT, asT, asB, asA_some, asA_none, asO, asOL, asOD, asKey, asDic, asSq, oLen, oMod, oAdd, oSub, oMul, oDiv, oMax, oMin, oPlus, oEqX, oNeX, eqX_int, eqX_str, eqX_bl, oCmp, oLtX, oLeX, oGtX, oGeX, oIxX, oInX, wCB, wCons, wNil, wVar, wMove, nth, put, startR, wNext, wRet, wRetN, wDrop, wFor, wiR1, wiR2, wiX, itemsOf, wgName, wgTup, wgCons, wgNil, wLend, wLendT, seeR_cons, seeR_nil, seeO_d, seeO_none, seeO_ol, seeO_od, wJoin, wM, oAppend, oPop, oPopAt, wDPut, wDPop, wSortK, wDict0, wTup, wLst, wCall, wAnd, wOr, wNot, wAndV, wOrV, wNotV, wIf, wYes, wLc, wiEnumX, oListX, oTuple, oSort, oSortSet, oAll, oAny, S.fz, S.own, D.flat, txts_map, bools_map, txtKeys_map, List.length_map, List.map_cons, List.map_nil, List.length_cons, List.length_nil, List.cons_append, List.nil_append, List.replicate, decide_eq_true_eq, Bool.not_eq_true', Bool.not_true, Bool.not_false, if_true, if_false, Nat.zero_add, Nat.reduceAdd, Nat.reduceSub, ge_iff_le, true_and, and_true, zip_unzip, Bool.false_xor, Bool.true_xor, Bool.false_eq_true, Bool.true_eq_false, reduceIte, wipeR, dataR_cons, dataR_nil, dataO_d, dataO_none, dataO_ol, dataO_od, oDict, oIsi, tyD, isiB, wSl, wPart, wNoP, oSl, wDisp1, wDGet2, oRemove, atI_0, atI_1, atI_2, wiRev, revItems, oDictP, wForK, wiKeys, kD, oSortX, oPow, oBitAnd, oShl, oNeg, wUn, oInt, oStr, oDivmod, oIs, isD, wChain, wFz, wFzE, frzR, wLSet, wiZip, seqsD, wiVals, wiItems, wOIx, wNo, Option.isSome_some, oMulX, wM1, oSplit, oPart, oStrip1, oRep, oSum, intsD, wRaise, wLI, wLK
, wiR3, wLR, wDisp, wPairs, oReverse, oClear, oInsert, wRevL, wDZ, seqLT, oSortIT, sp_worth, asF_fD]
        generalize er : rowR (sg t).reverse m = r
        have kr : r.map (·.1) = (sg t).reverse := by rw [← er, rowR_keys]
        have pre : f.length ≤ 100000 ∧ ∀ p ∈ f, (sg p).length ≤ 1000 ∧ ∀ c ∈ sg p, c ∈ r.map (·.1) := ⟨by have := hf.len; omega, fun p hp => ⟨by have := (hf.prd p hp).len; omega, fun c hc => by
          rw [kr, List.mem_reverse]; exact hft c (mem_letF.mpr ⟨p, hp, hc⟩)⟩⟩
        refine ⟨r, rowD_K r, pre, ?_⟩
        rw [rowD_K r]
        have nd : (r.map (·.1)).Nodup := by rw [kr]; exact (List.reverse_perm _).nodup_iff.mpr (ht.up.imp fun h => Nat.ne_of_lt h)
        simp only [w_law_b2_t7, wSeq, wSet, wAsg, wC, wIfS, wB, wOp, oI, oI0, asI, asS, asL, asLT, asT, asB, asA_some, asA_none, asO, asOL, asOD, asKey, asDic, asSq, oLen, oMod, oAdd, oSub, oMul, oDiv, oMax, oMin, oPlus, oEqX, oNeX, eqX_int, eqX_str, eqX_bl, oCmp, oLtX, oLeX, oGtX, oGeX, oIxX, oInX, wCB, wCons, wNil, wVar, wMove, nth, put, startR, wNext, wRet, wRetN, wDrop, wFor, wiR1, wiR2, wiX, itemsOf, wgName, wgTup, wgCons, wgNil, wLend, wLendT, seeR_cons, seeR_nil, seeO_d, seeO_none, seeO_ol, seeO_od, wJoin, wM, oAppend, oPop, oPopAt, wDPut, wDPop, wSortK, wDict0, wTup, wLst, wCall, wAnd, wOr, wNot, wAndV, wOrV, wNotV, wIf, wYes, wLc, wiEnumX, oListX, oTuple, oSort, oSortSet, oAll, oAny, S.fz, S.own, D.flat, txts_map, bools_map, txtKeys_map, List.length_map, List.map_cons, List.map_nil, List.length_cons, List.length_nil, List.cons_append, List.nil_append, List.replicate, decide_eq_true_eq, Bool.not_eq_true', Bool.not_true, Bool.not_false, if_true, if_false, Nat.zero_add, Nat.reduceAdd, Nat.reduceSub, ge_iff_le, true_and, and_true, zip_unzip, Bool.false_xor, Bool.true_xor, Bool.false_eq_true, Bool.true_eq_false, reduceIte, wipeR, dataR_cons, dataR_nil, dataO_d, dataO_none, dataO_ol, dataO_od, oDict, oIsi, tyD, isiB, wSl, wPart, wNoP, oSl, wDisp1, wDGet2, oRemove, atI_0, atI_1, atI_2, wiRev, revItems, oDictP, wForK, wiKeys, kD, oSortX, oPow, oBitAnd, oShl, oNeg, wUn, oInt, oStr, oDivmod, oIs, isD, wChain, wFz, wFzE, frzR, wLSet, wiZip, seqsD, wiVals, wiItems, wOIx, wNo, Option.isSome_some, oMulX, wM1, oSplit, oPart, oStrip1, oRep, oSum, intsD, wRaise, wLI, wLK
, wiR3, wLR, wDisp, wPairs, oReverse, oClear, oInsert, wRevL, wDZ, seqLT, oSortIT, sp_L_worth, asF_fD, eqX_bl]
        refine ⟨r, rfl, pre, ?_⟩
        rw [decide_eq_true rfl, if_neg (by simp)]
        exact eqX_rowT nd (by rw [if_neg (by simp)]; exact hn _ _ _ _ _ _ _)
    simp only [w_law_b3_t2, w_law_b3_t3, w_law_b3_t4, fD, wSeq, wSet, wAsg, wC, wIfS, wB, wOp, oI, oI0, asI, asS, asL, asLT, asT, asB, asA_some, asA_none, asO, asOL, asOD, asKey, asDic, asSq, oLen, oMod, oAdd, oSub, oMul, oDiv, oMax, oMin, oPlus, oEqX, oNeX, eqX_int, eqX_str, eqX_bl, oCmp, oLtX, oLeX, oGtX, oGeX, oIxX, oInX, wCB, wCons, wNil, wVar, wMove, nth, put, startR, wNext, wRet, wRetN, wDrop, wFor, wiR1, wiR2, wiX, itemsOf, wgName, wgTup, wgCons, wgNil, wLend, wLendT, seeR_cons, seeR_nil, seeO_d, seeO_none, seeO_ol, seeO_od, wJoin, wM, oAppend, oPop, oPopAt, wDPut, wDPop, wSortK, wDict0, wTup, wLst, wCall, wAnd, wOr, wNot, wAndV, wOrV, wNotV, wIf, wYes, wLc, wiEnumX, oListX, oTuple, oSort, oSortSet, oAll, oAny, S.fz, S.own, D.flat, txts_map, bools_map, txtKeys_map, List.length_map, List.map_cons, List.map_nil, List.length_cons, List.length_nil, List.cons_append, List.nil_append, List.replicate, decide_eq_true_eq, Bool.not_eq_true', Bool.not_true, Bool.not_false, if_true, if_false, Nat.zero_add, Nat.reduceAdd, Nat.reduceSub, ge_iff_le, true_and, and_true, zip_unzip, Bool.false_xor, Bool.true_xor, Bool.false_eq_true, Bool.true_eq_false, reduceIte, wipeR, dataR_cons, dataR_nil, dataO_d, dataO_none, dataO_ol, dataO_od, oDict, oIsi, tyD, isiB, wSl, wPart, wNoP, oSl, wDisp1, wDGet2, oRemove, atI_0, atI_1, atI_2, wiRev, revItems, oDictP, wForK, wiKeys, kD, oSortX, oPow, oBitAnd, oShl, oNeg, wUn, oInt, oStr, oDivmod, oIs, isD, wChain, wFz, wFzE, frzR, wLSet, wiZip, seqsD, wiVals, wiItems, wOIx, wNo, Option.isSome_some, oMulX, wM1, oSplit, oPart, oStrip1, oRep, oSum, intsD, wRaise, wLI, wLK
, wiR3, wLR, wDisp, wPairs, oReverse, oClear, oInsert, wRevL, wDZ, seqLT, oSortIT]
    rw [eL]
    refine ⟨by decide, ?_⟩
    refine compD_map mono_name (fun d => if d ∈ sg (joinS f) then some (.str (one d)) else none) LET _ (fun d hd Q' hQ => ?_) ?_
    · simp only [wSeq, wSet, wAsg, wC, wIfS, wB, wOp, oI, oI0, asI, asS, asL, asLT, asT, asB, asA_some, asA_none, asO, asOL, asOD, asKey, asDic, asSq, oLen, oMod, oAdd, oSub, oMul, oDiv, oMax, oMin, oPlus, oEqX, oNeX, eqX_int, eqX_str, eqX_bl, oCmp, oLtX, oLeX, oGtX, oGeX, oIxX, oInX, wCB, wCons, wNil, wVar, wMove, nth, put, startR, wNext, wRet, wRetN, wDrop, wFor, wiR1, wiR2, wiX, itemsOf, wgName, wgTup, wgCons, wgNil, wLend, wLendT, seeR_cons, seeR_nil, seeO_d, seeO_none, seeO_ol, seeO_od, wJoin, wM, oAppend, oPop, oPopAt, wDPut, wDPop, wSortK, wDict0, wTup, wLst, wCall, wAnd, wOr, wNot, wAndV, wOrV, wNotV, wIf, wYes, wLc, wiEnumX, oListX, oTuple, oSort, oSortSet, oAll, oAny, S.fz, S.own, D.flat, txts_map, bools_map, txtKeys_map, List.length_map, List.map_cons, List.map_nil, List.length_cons, List.length_nil, List.cons_append, List.nil_append, List.replicate, decide_eq_true_eq, Bool.not_eq_true', Bool.not_true, Bool.not_false, if_true, if_false, Nat.zero_add, Nat.reduceAdd, Nat.reduceSub, ge_iff_le, true_and, and_true, zip_unzip, Bool.false_xor, Bool.true_xor, Bool.false_eq_true, Bool.true_eq_false, reduceIte, wipeR, dataR_cons, dataR_nil, dataO_d, dataO_none, dataO_ol, dataO_od, oDict, oIsi, tyD, isiB, wSl, wPart, wNoP, oSl, wDisp1, wDGet2, oRemove, atI_0, atI_1, atI_2, wiRev, revItems, oDictP, wForK, wiKeys, kD, oSortX, oPow, oBitAnd, oShl, oNeg, wUn, oInt, oStr, oDivmod, oIs, isD, wChain, wFz, wFzE, frzR, wLSet, wiZip, seqsD, wiVals, wiItems, wOIx, wNo, Option.isSome_some, oMulX, wM1, oSplit, oPart, oStrip1, oRep, oSum, intsD, wRaise, wLI, wLK
, wiR3, wLR, wDisp, wPairs, oReverse, oClear, oInsert, wRevL, wDZ, seqLT, oSortIT]
      refine ⟨joinS_fit hf, ?_⟩
      have e5 : inS (one d) (Txt.join "" f) = decide (d ∈ sg (joinS f)) := rfl
      rw [e5]
      by_cases z : d ∈ sg (joinS f)
      · rw [if_pos z] at hQ; rw [decide_eq_true z]; exact hQ
      · rw [if_neg z] at hQ; rw [decide_eq_false z]; exact hQ
    rw [fmL (fun d => d ∈ sg (joinS f)), txts_map, asA_some, due_letF hf]
    have hfl := List.length_filter_le (fun d => decide (d ∈ sg (joinS f))) LET
    have e9 : LET.length = 9 := rfl
    have h3 : Str.length "" = 0 := by decide +kernel
    refine ⟨by rw [ones_sum, h3, Nat.mul_zero]; omega, ?_⟩
    show sp_letters_of [fD f] _ _
    simp only [sp_letters_of, asF_fD]
    refine ⟨hf, ?_⟩
    simp only [wSeq, wSet, wAsg, wC, wIfS, wB, wOp, oI, oI0, asI, asS, asL, asLT, asT, asB, asA_some, asA_none, asO, asOL, asOD, asKey, asDic, asSq, oLen, oMod, oAdd, oSub, oMul, oDiv, oMax, oMin, oPlus, oEqX, oNeX, eqX_int, eqX_str, eqX_bl, oCmp, oLtX, oLeX, oGtX, oGeX, oIxX, oInX, wCB, wCons, wNil, wVar, wMove, nth, put, startR, wNext, wRet, wRetN, wDrop, wFor, wiR1, wiR2, wiX, itemsOf, wgName, wgTup, wgCons, wgNil, wLend, wLendT, seeR_cons, seeR_nil, seeO_d, seeO_none, seeO_ol, seeO_od, wJoin, wM, oAppend, oPop, oPopAt, wDPut, wDPop, wSortK, wDict0, wTup, wLst, wCall, wAnd, wOr, wNot, wAndV, wOrV, wNotV, wIf, wYes, wLc, wiEnumX, oListX, oTuple, oSort, oSortSet, oAll, oAny, S.fz, S.own, D.flat, txts_map, bools_map, txtKeys_map, List.length_map, List.map_cons, List.map_nil, List.length_cons, List.length_nil, List.cons_append, List.nil_append, List.replicate, decide_eq_true_eq, Bool.not_eq_true', Bool.not_true, Bool.not_false, if_true, if_false, Nat.zero_add, Nat.reduceAdd, Nat.reduceSub, ge_iff_le, true_and, and_true, zip_unzip, Bool.false_xor, Bool.true_xor, Bool.false_eq_true, Bool.true_eq_false, reduceIte, wipeR, dataR_cons, dataR_nil, dataO_d, dataO_none, dataO_ol, dataO_od, oDict, oIsi, tyD, isiB, wSl, wPart, wNoP, oSl, wDisp1, wDGet2, oRemove, atI_0, atI_1, atI_2, wiRev, revItems, oDictP, wForK, wiKeys, kD, oSortX, oPow, oBitAnd, oShl, oNeg, wUn, oInt, oStr, oDivmod, oIs, isD, wChain, wFz, wFzE, frzR, wLSet, wiZip, seqsD, wiVals, wiItems, wOIx, wNo, Option.isSome_some, oMulX, wM1, oSplit, oPart, oStrip1, oRep, oSum, intsD, wRaise, wLI, wLK
, wiR3, wLR, wDisp, wPairs, oReverse, oClear, oInsert, wRevL, wDZ, seqLT, oSortIT]
    rw [if_neg (by simp)]
    simp only [w_law_b3_t5, wSeq, wSet, wAsg, wC, wIfS, wB, wOp, oI, oI0, asI, asS, asL, asLT, asT, asB, asA_some, asA_none, asO, asOL, asOD, asKey, asDic, asSq, oLen, oMod, oAdd, oSub, oMul, oDiv, oMax, oMin, oPlus, oEqX, oNeX, eqX_int, eqX_str, eqX_bl, oCmp, oLtX, oLeX, oGtX, oGeX, oIxX, oInX, wCB, wCons, wNil, wVar, wMove, nth, put, startR, wNext, wRet, wRetN, wDrop, wFor, wiR1, wiR2, wiX, itemsOf, wgName, wgTup, wgCons, wgNil, wLend, wLendT, seeR_cons, seeR_nil, seeO_d, seeO_none, seeO_ol, seeO_od, wJoin, wM, oAppend, oPop, oPopAt, wDPut, wDPop, wSortK, wDict0, wTup, wLst, wCall, wAnd, wOr, wNot, wAndV, wOrV, wNotV, wIf, wYes, wLc, wiEnumX, oListX, oTuple, oSort, oSortSet, oAll, oAny, S.fz, S.own, D.flat, txts_map, bools_map, txtKeys_map, List.length_map, List.map_cons, List.map_nil, List.length_cons, List.length_nil, List.cons_append, List.nil_append, List.replicate, decide_eq_true_eq, Bool.not_eq_true', Bool.not_true, Bool.not_false, if_true, if_false, Nat.zero_add, Nat.reduceAdd, Nat.reduceSub, ge_iff_le, true_and, and_true, zip_unzip, Bool.false_xor, Bool.true_xor, Bool.false_eq_true, Bool.true_eq_false, reduceIte, wipeR, dataR_cons, dataR_nil, dataO_d, dataO_none, dataO_ol, dataO_od, oDict, oIsi, tyD, isiB, wSl, wPart, wNoP, oSl, wDisp1, wDGet2, oRemove, atI_0, atI_1, atI_2, wiRev, revItems, oDictP, wForK, wiKeys, kD, oSortX, oPow, oBitAnd, oShl, oNeg, wUn, oInt, oStr, oDivmod, oIs, isD, wChain, wFz, wFzE, frzR, wLSet, wiZip, seqsD, wiVals, wiItems, wOIx, wNo, Option.isSome_some, oMulX, wM1, oSplit, oPart, oStrip1, oRep, oSum, intsD, wRaise, wLI, wLK
, wiR3, wLR, wDisp, wPairs, oReverse, oClear, oInsert, wRevL, wDZ, seqLT, oSortIT]
    rw [show rangeD 0 (8 : Int).toNat = (List.range 8).map fun (k : Nat) => D.int (0 + k) from rfl]
    refine ⟨⟨by decide, by decide⟩, ?_⟩
    refine forD_map (I := fun _ _ ρ => ∃ (o5 o7 o8 o9 o10 o11 o12 : Option S), ρ = [some (.d (.cel ns)), some (.d (.int (0 + k))), some (.d (.str s)), some (.d (fD f)), some (.d (.str (letF f))), o5, some (.d (.str (letF f))), o7, o8, o9, o10, o11, o12]) mono_name _ (fun done2 n ys2 ρ he2 hI => ?_) (fun ρ hI => ?_) _ ⟨_, _, _, _, _, _, _, rfl⟩
    · obtain ⟨o5, o7, o8, o9, o10, o11, o12, rfl⟩ := hI
      have hn8 : n < 8 := List.mem_range.mp (by rw [he2]; simp)
      simp only [w_law_b2, w_law_b2_t1, w_law_b2_t2, wSeq, wSet, wAsg, wC, wIfS, wB, wOp, oI, oI0, asI, asS, asL, asLT, asT, asB, asA_some, asA_none, asO, asOL, asOD, asKey, asDic, asSq, oLen, oMod, oAdd, oSub, oMul, oDiv, oMax, oMin, oPlus, oEqX, oNeX, eqX_int, eqX_str, eqX_bl, oCmp, oLtX, oLeX, oGtX, oGeX, oIxX, oInX, wCB, wCons, wNil, wVar, wMove, nth, put, startR, wNext, wRet, wRetN, wDrop, wFor, wiR1, wiR2, wiX, itemsOf, wgName, wgTup, wgCons, wgNil, wLend, wLendT, seeR_cons, seeR_nil, seeO_d, seeO_none, seeO_ol, seeO_od, wJoin, wM, oAppend, oPop, oPopAt, wDPut, wDPop, wSortK, wDict0, wTup, wLst, wCall, wAnd, wOr, wNot, wAndV, wOrV, wNotV, wIf, wYes, wLc, wiEnumX, oListX, oTuple, oSort, oSortSet, oAll, oAny, S.fz, S.own, D.flat, txts_map, bools_map, txtKeys_map, List.length_map, List.map_cons, List.map_nil, List.length_cons, List.length_nil, List.cons_append, List.nil_append, List.replicate, decide_eq_true_eq, Bool.not_eq_true', Bool.not_true, Bool.not_false, if_true, if_false, Nat.zero_add, Nat.reduceAdd, Nat.reduceSub, ge_iff_le, true_and, and_true, zip_unzip, Bool.false_xor, Bool.true_xor, Bool.false_eq_true, Bool.true_eq_false, reduceIte, wipeR, dataR_cons, dataR_nil, dataO_d, dataO_none, dataO_ol, dataO_od, oDict, oIsi, tyD, isiB, wSl, wPart, wNoP, oSl, wDisp1, wDGet2, oRemove, atI_0, atI_1, atI_2, wiRev, revItems, oDictP, wForK, wiKeys, kD, oSortX, oPow, oBitAnd, oShl, oNeg, wUn, oInt, oStr, oDivmod, oIs, isD, wChain, wFz, wFzE, frzR, wLSet, wiZip, seqsD, wiVals, wiItems, wOIx, wNo, Option.isSome_some, oMulX, wM1, oSplit, oPart, oStrip1, oRep, oSum, intsD, wRaise, wLI, wLK
, wiR3, wLR, wDisp, wPairs, oReverse, oClear, oInsert, wRevL, wDZ, seqLT, oSortIT, sp_L_mixed]
      refine ⟨.inl ⟨by decide, by decide⟩, ⟨hl, by omega, by omega⟩, fun z z0 _ => ⟨⟨by decide, by decide⟩, by decide, ?_⟩⟩
      obtain ⟨m, hm⟩ : ∃ m : Nat, z / 3 = m := ⟨(z / 3).toNat, by omega⟩
      rw [hm]
      split
      · exact row (t := "abcpqrxyz") (prd_abc) (fun c hc => by rw [show sg "abcpqrxyz" = LET by decide +kernel]; exact (prd_letF hf).le c hc) fun _ _ _ _ _ _ _ => ⟨_, _, _, _, _, _, _, rfl⟩
      · exact row (prd_letF hf) (fun _ hc => hc) fun _ _ _ _ _ _ _ => ⟨_, _, _, _, _, _, _, rfl⟩
    · obtain ⟨o5, o7, o8, o9, o10, o11, o12, rfl⟩ := hI
      exact h6 fun o5 => ⟨_, _, _, _, _, _, _, _, _, _, _, _, rfl⟩
  · obtain ⟨o1, o2, o3, o4, o5, o6, o7, o8, o9, o10, o11, o12, rfl⟩ := hI
    simp only [wSeq, wSet, wAsg, wC, wIfS, wB, wOp, oI, oI0, asI, asS, asL, asLT, asT, asB, asA_some, asA_none, asO, asOL, asOD, asKey, asDic, asSq, oLen, oMod, oAdd, oSub, oMul, oDiv, oMax, oMin, oPlus, oEqX, oNeX, eqX_int, eqX_str, eqX_bl, oCmp, oLtX, oLeX, oGtX, oGeX, oIxX, oInX, wCB, wCons, wNil, wVar, wMove, nth, put, startR, wNext, wRet, wRetN, wDrop, wFor, wiR1, wiR2, wiX, itemsOf, wgName, wgTup, wgCons, wgNil, wLend, wLendT, seeR_cons, seeR_nil, seeO_d, seeO_none, seeO_ol, seeO_od, wJoin, wM, oAppend, oPop, oPopAt, wDPut, wDPop, wSortK, wDict0, wTup, wLst, wCall, wAnd, wOr, wNot, wAndV, wOrV, wNotV, wIf, wYes, wLc, wiEnumX, oListX, oTuple, oSort, oSortSet, oAll, oAny, S.fz, S.own, D.flat, txts_map, bools_map, txtKeys_map, List.length_map, List.map_cons, List.map_nil, List.length_cons, List.length_nil, List.cons_append, List.nil_append, List.replicate, decide_eq_true_eq, Bool.not_eq_true', Bool.not_true, Bool.not_false, if_true, if_false, Nat.zero_add, Nat.reduceAdd, Nat.reduceSub, ge_iff_le, true_and, and_true, zip_unzip, Bool.false_xor, Bool.true_xor, Bool.false_eq_true, Bool.true_eq_false, reduceIte, wipeR, dataR_cons, dataR_nil, dataO_d, dataO_none, dataO_ol, dataO_od, oDict, oIsi, tyD, isiB, wSl, wPart, wNoP, oSl, wDisp1, wDGet2, oRemove, atI_0, atI_1, atI_2, wiRev, revItems, oDictP, wForK, wiKeys, kD, oSortX, oPow, oBitAnd, oShl, oNeg, wUn, oInt, oStr, oDivmod, oIs, isD, wChain, wFz, wFzE, frzR, wLSet, wiZip, seqsD, wiVals, wiItems, wOIx, wNo, Option.isSome_some, oMulX, wM1, oSplit, oPart, oStrip1, oRep, oSum, intsD, wRaise, wLI, wLK
, wiR3, wLR, wDisp, wPairs, oReverse, oClear, oInsert, wRevL, wDZ, seqLT, oSortIT]
    exact hq
end DL
namespace DL
open PySem L2
def top (i : Nat) : Stmt := PySem.Challenge.pw_fillsay_k13_letters_and_worth.main.body.getD i (.Pass ⟨0, 0, 0, 0⟩)
abbrev sp_law : DSp := spLaw

abbrev s_L_letters : Stmt := top 5
theorem sc_L_letters : FnScope N_L_letters ["_law_number", "_law_many"] (defScope s_L_letters) := ⟨rfl, rfl, rfl, by decide +kernel, rfl, by decide +kernel, by decide +kernel⟩
set_option maxHeartbeats 4000000 in
theorem ok_L_letters {P : Program} {w : World} {K : PySem.W.Frag} {mg : Str → Option Value} {base : Heap} {f : Addr} {fd : FuncData} (F : Fun K "_law_letters" "_law_letters" s_L_letters f fd) (m_len : mg "len" = none) (m_list : mg "list" = none) :
    FnOk P w K mg base CX0 1 f fd ["_law_number", "_law_many"] (spD K sp_L_letters) := by
  refine fnD F sc_L_letters (fun ds Q px h => len_L_letters h) (fun cdv A outer s H E hr => ⟨_, w_L_letters,
    (dss_cons (ds_set 2 sc_L_letters.nd (de_listX rfl m_list de_str))
    (dss_cons (ds_while PassesOwn.never (dt_lend (dt_gtX hr.units (de_len m_len (de_var 2)) (de_var 1))) (dss_cons (ds_expr (de_popAt 2 (de_mod (de_var 0) (de_lend (de_len m_len (de_var 2))))))
    (dss_one (ds_asg (de_plus (de_div (de_var 0) de_int) de_int) (dg_name 0 sc_L_letters.nd)))))
    (dss_one (ds_ret (de_lend (de_join de_str (de_var 2))))))), fun ds Q px h => rd_L_letters h⟩)

abbrev s_L_mixed : Stmt := top 4
theorem sc_L_mixed : FnScope N_L_mixed ["_law_script", "_law_k"] (defScope s_L_mixed) := ⟨rfl, rfl, rfl, by decide +kernel, rfl, by decide +kernel, by decide +kernel⟩
set_option maxHeartbeats 4000000 in
theorem ok_L_mixed {P : Program} {w : World} {K : PySem.W.Frag} {mg : Str → Option Value} {base : Heap} {f : Addr} {fd : FuncData} (F : Fun K "_law_mixed" "_law_mixed" s_L_mixed f fd) (m_len : mg "len" = none) (m_min : mg "min" = none) (m_range : mg "range" = none) :
    FnOk P w K mg base CX0 1 f fd ["_law_script", "_law_k"] (spD K sp_L_mixed) := by
  refine fnD F sc_L_mixed (fun ds Q px h => len_L_mixed h) (fun cdv A outer s H E hr => ⟨_, w_L_mixed,
    (dss_cons (ds_asg (de_sub (de_len m_len (de_var 0)) de_int) (dg_name 2 sc_L_mixed.nd))
    (dss_cons (ds_if ((dw_and (dt_gtX hr.units (de_var 2) de_int) (dw_and1 (dt_eqX hr.units (de_mod (de_ixX hr.units (de_var 0) de_int) de_int) de_int))).dt) (dss_cons (ds_asg (de_ixX hr.units (de_var 0) (de_plus de_int (de_mod (de_var 1) (de_var 2)))) (dg_name 3 sc_L_mixed.nd))
    (dss_cons (ds_for PassesOwn.never rfl (di_range1 m_range (da_cons (de_min rfl m_min (de_div (de_var 1) (de_var 2)) de_int) da_nil)) (dg_name 4 sc_L_mixed.nd) (dss_one (ds_asg (de_div (de_var 3) de_int) (dg_name 3 sc_L_mixed.nd))))
    (dss_one (ds_ret (de_mod (de_var 3) de_int))))) dss_nil)
    (dss_cons (ds_asg de_int (dg_name 3 sc_L_mixed.nd))
    (dss_cons (ds_if (dt_geX hr.units (de_var 2) de_int) (dss_one (ds_asg (de_ixX hr.units (de_var 0) (de_mod (de_var 1) (de_len m_len (de_var 0)))) (dg_name 3 sc_L_mixed.nd))) dss_nil)
    (dss_one (ds_ret (de_mod (de_mul (de_mod (de_mul (de_plus (de_plus (de_mod (de_var 3) de_int) (de_mul de_int (de_var 1))) de_int) de_int) de_int) de_int) de_int))))))), fun ds Q px h => rd_L_mixed h⟩)

abbrev s_L_product : Stmt := top 6
theorem sc_L_product : FnScope N_L_product ["_law_letters_here", "_law_number"] (defScope s_L_product) := ⟨rfl, rfl, rfl, by decide +kernel, rfl, by decide +kernel, by decide +kernel⟩
set_option maxHeartbeats 4000000 in
theorem ok_L_product {P : Program} {w : World} {K : PySem.W.Frag} {mg : Str → Option Value} {base : Heap} {f : Addr} {fd : FuncData} (F : Fun K "_law_product" "_law_product" s_L_product f fd) :
    FnOk P w K mg base CX0 1 f fd ["_law_letters_here", "_law_number"] (spD K sp_L_product) := by
  refine fnD F sc_L_product (fun ds Q px h => len_L_product h) (fun cdv A outer s H E hr => ⟨_, w_L_product,
    (dss_cons (ds_asg de_str (dg_name 2 sc_L_product.nd))
    (dss_cons (ds_for PassesOwn.never rfl (di_X (de_var 0)) (dg_name 3 sc_L_product.nd) (dss_cons (ds_if (dt_eqX hr.units (de_mod (de_var 1) de_int) de_int) (dss_one (ds_asg (de_plus (de_var 2) (de_var 3)) (dg_name 2 sc_L_product.nd))) dss_nil)
    (dss_one (ds_asg (de_div (de_var 1) de_int) (dg_name 1 sc_L_product.nd)))))
    (dss_one (ds_ret (de_var 2))))), fun ds Q px h => rd_L_product h⟩)

abbrev s_L_form : Stmt := top 7
theorem sc_L_form : FnScope N_L_form ["_law_script", "_law_at", "_law_letters_here"] (defScope s_L_form) := ⟨rfl, rfl, rfl, by decide +kernel, rfl, by decide +kernel, by decide +kernel⟩
set_option maxHeartbeats 4000000 in
theorem ok_L_form {P : Program} {w : World} {K : PySem.W.Frag} {mg : Str → Option Value} {base : Heap} {f : Addr} {fd : FuncData} (F : Fun K "_law_form" "_law_form" s_L_form f fd) {f_L_mixed : Addr} {fd_L_mixed : FuncData} (F_L_mixed : FnOk P w K mg base CX0 1 f_L_mixed fd_L_mixed ["_law_script", "_law_k"] (spD K sp_L_mixed)) (b_L_mixed : Binds K fd_L_mixed ["_law_script", "_law_k"] []) (k_L_mixed : PySem.W.keepIn K (.ref f_L_mixed) = true) (mg_L_mixed : mg "_law_mixed" = some (.ref f_L_mixed)) {f_L_product : Addr} {fd_L_product : FuncData} (F_L_product : FnOk P w K mg base CX0 1 f_L_product fd_L_product ["_law_letters_here", "_law_number"] (spD K sp_L_product)) (b_L_product : Binds K fd_L_product ["_law_letters_here", "_law_number"] []) (k_L_product : PySem.W.keepIn K (.ref f_L_product) = true) (mg_L_product : mg "_law_product" = some (.ref f_L_product)) (m_enumerate : mg "enumerate" = none) (m_len : mg "len" = none) (m_range : mg "range" = none) (m_set : mg "set" = none) (m_sorted : mg "sorted" = none) (m_tuple : mg "tuple" = none) :
    FnOk P w K mg base CX0 2 f fd ["_law_script", "_law_at", "_law_letters_here"] (spD K sp_L_form) := by
  refine fnD F sc_L_form (fun ds Q px h => len_L_form h) (fun cdv A outer s H E hr => ⟨_, w_L_form,
    (dss_cons (ds_asg (de_call F_L_mixed (hr.mono (by decide)) mg_L_mixed k_L_mixed b_L_mixed pass0 (da_cons (de_var 0) (da_cons (de_var 1) da_nil))) (dg_name 3 sc_L_form.nd))
    (dss_cons (ds_if ((dw_and (dt_eqX hr.units (de_mod (de_div (de_var 3) de_int) de_int) de_int) (dw_and1 (dt_ltX hr.units (de_len m_len (de_var 2)) de_int))).dt) (dss_cons (ds_asg (de_lst (da_cons de_str da_nil)) (dg_name 4 sc_L_form.nd))
    (dss_cons (ds_for PassesOwn.never rfl (di_X (de_var 2)) (dg_name 5 sc_L_form.nd) (dss_one (ds_asg (de_plus (de_var 4) (de_lc (own := [("_law_product_here", 6)]) rfl sc_L_form.nd (di_X (de_var 4)) (show BlkOk N_L_form (defScope s_L_form) _ [("_law_product_here", 6)] from ⟨rfl, by decide +kernel, by decide +kernel, by decide +kernel, by decide +kernel⟩) (fun _ _ _ _ _ => (dgb_name 6 sc_L_form.nd)) (fun _ _ _ _ _ => dts_nil) (fun _ _ _ _ _ => (de_plus (de_var 6) (de_var 5))))) (dg_name 4 sc_L_form.nd))))
    (dss_one (ds_ret (de_tuple m_tuple (de_sortX rfl m_sorted (de_lc (own := [("_law_k", 7), ("_law_each", 8)]) rfl sc_L_form.nd (di_enumX m_enumerate (da_cons (de_var 4) da_nil)) (show BlkOk N_L_form (defScope s_L_form) _ [("_law_k", 7), ("_law_each", 8)] from ⟨rfl, by decide +kernel, by decide +kernel, by decide +kernel, by decide +kernel⟩) (fun _ _ _ _ _ => (dgb_tup rfl (dgbs_cons (dgb_name 7 sc_L_form.nd) (dgbs_cons (dgb_name 8 sc_L_form.nd) dgbs_nil)))) (fun _ _ _ _ _ => (dts_one (dt_eqX hr.units (de_mod (de_call F_L_mixed (hr.mono (by decide)) mg_L_mixed k_L_mixed b_L_mixed pass0 (da_cons (de_var 0) (da_cons (de_plus (de_plus (de_var 1) de_int) (de_var 7)) da_nil))) de_int) de_int))) (fun _ _ _ _ _ => (de_var 8))))))))) dss_nil)
    (dss_cons (ds_asg (de_mod (de_var 3) de_int) (dg_name 9 sc_L_form.nd))
    (dss_cons (ds_if (dt_eqX hr.units (de_mod (de_div (de_var 3) de_int) de_int) de_int) (dss_one (ds_asg (de_plus de_int (de_mod (de_div (de_var 3) de_int) de_int)) (dg_name 9 sc_L_form.nd))) dss_nil)
    (dss_cons (ds_asgLc 4 (own := [("_law_k", 7)]) rfl sc_L_form.nd (di_range1 m_range (da_cons (de_var 9) da_nil)) (show BlkOk N_L_form (defScope s_L_form) _ [("_law_k", 7)] from ⟨rfl, by decide +kernel, by decide +kernel, by decide +kernel, by decide +kernel⟩) (fun _ _ _ _ _ => (dgb_name 7 sc_L_form.nd)) (fun _ _ _ _ _ => dts_nil) (fun _ _ _ _ _ => (de_call F_L_product (hr.mono (by decide)) mg_L_product k_L_product b_L_product pass0 (da_cons (de_var 2) (da_cons (de_div (de_call F_L_mixed (hr.mono (by decide)) mg_L_mixed k_L_mixed b_L_mixed pass0 (da_cons (de_var 0) (da_cons (de_plus (de_plus (de_var 1) de_int) (de_var 7)) da_nil))) de_int) da_nil)))))
    (dss_one (ds_ret (de_tuple m_tuple (de_sortSet rfl m_sorted m_set (de_var 4)))))))))), fun ds Q px h => rd_L_form h⟩)

abbrev s_letters_of : Stmt := top 1
theorem sc_letters_of : FnScope N_letters_of ["form"] (defScope s_letters_of) := ⟨rfl, rfl, rfl, by decide +kernel, rfl, by decide +kernel, by decide +kernel⟩
set_option maxHeartbeats 4000000 in
theorem ok_letters_of {P : Program} {w : World} {K : PySem.W.Frag} {mg : Str → Option Value} {base : Heap} {f : Addr} {fd : FuncData} (F : Fun K "letters_of" "letters_of" s_letters_of f fd) (m_set : mg "set" = none) (m_sorted : mg "sorted" = none) :
    FnOk P w K mg base CX0 1 f fd ["form"] (spD K sp_letters_of) := by
  refine fnD F sc_letters_of (fun ds Q px h => len_letters_of h) (fun cdv A outer s H E hr => ⟨_, w_letters_of,
    (dss_one (ds_ret (de_join de_str (de_sortSet rfl m_sorted m_set (de_join de_str (de_var 0)))))), fun ds Q px h => rd_letters_of h⟩)

abbrev s_worth : Stmt := top 2
theorem sc_worth : FnScope N_worth ["form", "row"] (defScope s_worth) := ⟨rfl, rfl, rfl, by decide +kernel, rfl, by decide +kernel, by decide +kernel⟩
set_option maxHeartbeats 4000000 in
theorem ok_worth {P : Program} {w : World} {K : PySem.W.Frag} {mg : Str → Option Value} {base : Heap} {f : Addr} {fd : FuncData} (F : Fun K "worth" "worth" s_worth f fd) (m_all : mg "all" = none) :
    FnOk P w K mg base CX0 1 f fd ["form", "row"] (spD K sp_worth) := by
  refine fnD F sc_worth (fun ds Q px h => len_worth h) (fun cdv A outer s H E hr => ⟨_, w_worth,
    (dss_cons (ds_asg de_bl (dg_name 2 sc_worth.nd))
    (dss_cons (ds_for PassesOwn.never rfl (di_X (de_var 0)) (dg_name 3 sc_worth.nd) (dss_one (ds_if (dt_val (de_all m_all (cr_all rfl) (de_lc (own := [("letter", 4)]) rfl sc_worth.nd (di_X (de_var 3)) (show BlkOk N_worth (defScope s_worth) _ [("letter", 4)] from ⟨rfl, by decide +kernel, by decide +kernel, by decide +kernel, by decide +kernel⟩) (fun _ _ _ _ _ => (dgb_name 4 sc_worth.nd)) (fun _ _ _ _ _ => dts_nil) (fun _ _ _ _ _ => (de_ixX hr.units (de_var 1) (de_var 4)))))) (dss_one (ds_asg (de_not (de_var 2)) (dg_name 2 sc_worth.nd))) dss_nil)))
    (dss_one (ds_ret (de_var 2))))), fun ds Q px h => rd_worth h⟩)

abbrev s_L_worth : Stmt := top 8
theorem sc_L_worth : FnScope N_L_worth ["_law_form_here", "_law_row"] (defScope s_L_worth) := ⟨rfl, rfl, rfl, by decide +kernel, rfl, by decide +kernel, by decide +kernel⟩
set_option maxHeartbeats 4000000 in
theorem ok_L_worth {P : Program} {w : World} {K : PySem.W.Frag} {mg : Str → Option Value} {base : Heap} {f : Addr} {fd : FuncData} (F : Fun K "_law_worth" "_law_worth" s_L_worth f fd) (m_all : mg "all" = none) :
    FnOk P w K mg base CX0 1 f fd ["_law_form_here", "_law_row"] (spD K sp_L_worth) := by
  refine fnD F sc_L_worth (fun ds Q px h => len_L_worth h) (fun cdv A outer s H E hr => ⟨_, w_L_worth,
    (dss_cons (ds_asg de_int (dg_name 2 sc_L_worth.nd))
    (dss_cons (ds_for PassesOwn.never rfl (di_X (de_var 0)) (dg_name 3 sc_L_worth.nd) (dss_one (ds_if (dt_val (de_all m_all (cr_all rfl) (de_lc (own := [("_law_letter", 4)]) rfl sc_L_worth.nd (di_X (de_var 3)) (show BlkOk N_L_worth (defScope s_L_worth) _ [("_law_letter", 4)] from ⟨rfl, by decide +kernel, by decide +kernel, by decide +kernel, by decide +kernel⟩) (fun _ _ _ _ _ => (dgb_name 4 sc_L_worth.nd)) (fun _ _ _ _ _ => dts_nil) (fun _ _ _ _ _ => (de_ixX hr.units (de_var 1) (de_var 4)))))) (dss_one (ds_asg (de_plus (de_var 2) de_int) (dg_name 2 sc_L_worth.nd))) dss_nil)))
    (dss_one (ds_ret (de_eqX hr.units (de_mod (de_var 2) de_int) de_int))))), fun ds Q px h => rd_L_worth h⟩)

abbrev s_L_turns_3ed : Stmt := top 9
theorem sc_L_turns_3ed : FnScope N_L_turns_3ed ["_law_form_here", "_law_letter"] (defScope s_L_turns_3ed) := ⟨rfl, rfl, rfl, by decide +kernel, rfl, by decide +kernel, by decide +kernel⟩
set_option maxHeartbeats 4000000 in
theorem ok_L_turns_3ed {P : Program} {w : World} {K : PySem.W.Frag} {mg : Str → Option Value} {base : Heap} {f : Addr} {fd : FuncData} (F : Fun K "_law_turns" "_law_turns" s_L_turns_3ed f fd) {f_worth : Addr} {fd_worth : FuncData} (F_worth : FnOk P w K mg base CX0 1 f_worth fd_worth ["form", "row"] (spD K sp_worth)) (b_worth : Binds K fd_worth ["form", "row"] []) (k_worth : PySem.W.keepIn K (.ref f_worth) = true) (mg_worth : mg "worth" = some (.ref f_worth)) (m_all : mg "all" = none) (m_dict : mg "dict" = none) (m_len : mg "len" = none) (m_sorted : mg "sorted" = none) :
    FnOk P w K mg base CX0 2 f fd ["_law_form_here", "_law_letter"] (spD K sp_L_turns_3ed) := by
  refine fnD F sc_L_turns_3ed (fun ds Q px h => len_L_turns_3ed h) (fun cdv A outer s H E hr => ⟨_, w_L_turns_3ed,
    (dss_cons (ds_asg (de_ixX hr.units (de_ixX hr.units (de_sortIT rfl m_sorted (de_lc (own := [("_law_product_here", 3)]) rfl sc_L_turns_3ed.nd (di_X (de_var 0)) (show BlkOk N_L_turns_3ed (defScope s_L_turns_3ed) _ [("_law_product_here", 3)] from ⟨rfl, by decide +kernel, by decide +kernel, by decide +kernel, by decide +kernel⟩) (fun _ _ _ _ _ => (dgb_name 3 sc_L_turns_3ed.nd)) (fun _ _ _ _ _ => (dts_one (dt_inX hr.units (de_var 1) (de_var 3)))) (fun _ _ _ _ _ => (de_tup (da_cons (de_len m_len (de_var 3)) (da_cons (de_var 3) da_nil)))))) de_int) de_int) (dg_name 2 sc_L_turns_3ed.nd))
    (dss_cons (ds_set 4 sc_L_turns_3ed.nd (de_dictP rfl m_dict (de_lc (own := [("_law_each", 5)]) rfl sc_L_turns_3ed.nd (di_X de_str) (show BlkOk N_L_turns_3ed (defScope s_L_turns_3ed) _ [("_law_each", 5)] from ⟨rfl, by decide +kernel, by decide +kernel, by decide +kernel, by decide +kernel⟩) (fun _ _ _ _ _ => (dgb_name 5 sc_L_turns_3ed.nd)) (fun _ _ _ _ _ => dts_nil) (fun _ _ _ _ _ => (de_tup (da_cons (de_var 5) (da_cons (de_inX hr.units (de_var 5) (de_var 2)) da_nil)))))))
    (dss_cons (ds_asg (de_lend (de_call F_worth (hr.mono (by decide)) mg_worth k_worth b_worth pass0 (da_cons (de_var 0) (da_cons (de_var 4) da_nil)))) (dg_name 6 sc_L_turns_3ed.nd))
    (dss_cons (ds_dput 4 (units1 hr.units) (de_var 1) de_bl)
    (dss_cons (ds_asgLc 7 (own := [("_law_product_here", 3)]) rfl sc_L_turns_3ed.nd (di_X (de_var 0)) (show BlkOk N_L_turns_3ed (defScope s_L_turns_3ed) _ [("_law_product_here", 3)] from ⟨rfl, by decide +kernel, by decide +kernel, by decide +kernel, by decide +kernel⟩) (fun _ _ _ _ _ => (dgb_name 3 sc_L_turns_3ed.nd)) (fun _ _ _ _ _ => (dts_one ((dw_and (dt_notInX hr.units (de_var 1) (de_var 3)) (dw_and1 (dt_val (de_all m_all (cr_all rfl) (de_lc (own := [("_law_each", 5)]) rfl sc_L_turns_3ed.nd (di_X (de_var 3)) (blk_in (N := N_L_turns_3ed) (scF := defScope s_L_turns_3ed) (own := [("_law_each", 5)]) ⟨rfl, by decide +kernel, by decide +kernel, by decide +kernel, by decide +kernel⟩) (fun _ _ _ _ _ => (dgb_name 5 sc_L_turns_3ed.nd)) (fun _ _ _ _ _ => dts_nil) (fun _ _ _ _ _ => (de_inX hr.units (de_var 5) (de_var 2)))))))).dt))) (fun _ _ _ _ _ => (de_var 3)))
    (dss_one (ds_ret (de_and (de_eqX hr.units (de_var 6) (de_eqX hr.units (de_mod (de_len m_len (de_var 7)) de_int) de_int)) (de_one (de_lend (de_eqX hr.units (de_call F_worth (hr.mono (by decide)) mg_worth k_worth b_worth pass0 (da_cons (de_var 0) (da_cons (de_var 4) da_nil))) (de_eqX hr.units (de_mod (de_len m_len (de_var 7)) de_int) de_int)))))))))))), fun ds Q px h => rd_L_turns_3ed h⟩)

abbrev s_law : Stmt := top 10
theorem sc_law : FnScope N_law ["_law_script"] (defScope s_law) := ⟨rfl, rfl, rfl, by decide +kernel, rfl, by decide +kernel, by decide +kernel⟩
set_option maxHeartbeats 4000000 in
theorem ok_law {P : Program} {w : World} {K : PySem.W.Frag} {mg : Str → Option Value} {base : Heap} {f : Addr} {fd : FuncData} (F : Fun K "law" "law" s_law f fd) {f_L_letters : Addr} {fd_L_letters : FuncData} (F_L_letters : FnOk P w K mg base CX0 1 f_L_letters fd_L_letters ["_law_number", "_law_many"] (spD K sp_L_letters)) (b_L_letters : Binds K fd_L_letters ["_law_number", "_law_many"] []) (k_L_letters : PySem.W.keepIn K (.ref f_L_letters) = true) (mg_L_letters : mg "_law_letters" = some (.ref f_L_letters)) {f_L_mixed : Addr} {fd_L_mixed : FuncData} (F_L_mixed : FnOk P w K mg base CX0 1 f_L_mixed fd_L_mixed ["_law_script", "_law_k"] (spD K sp_L_mixed)) (b_L_mixed : Binds K fd_L_mixed ["_law_script", "_law_k"] []) (k_L_mixed : PySem.W.keepIn K (.ref f_L_mixed) = true) (mg_L_mixed : mg "_law_mixed" = some (.ref f_L_mixed)) {f_L_form : Addr} {fd_L_form : FuncData} (F_L_form : FnOk P w K mg base CX0 2 f_L_form fd_L_form ["_law_script", "_law_at", "_law_letters_here"] (spD K sp_L_form)) (b_L_form : Binds K fd_L_form ["_law_script", "_law_at", "_law_letters_here"] []) (k_L_form : PySem.W.keepIn K (.ref f_L_form) = true) (mg_L_form : mg "_law_form" = some (.ref f_L_form)) {f_letters_of : Addr} {fd_letters_of : FuncData} (F_letters_of : FnOk P w K mg base CX0 1 f_letters_of fd_letters_of ["form"] (spD K sp_letters_of)) (b_letters_of : Binds K fd_letters_of ["form"] []) (k_letters_of : PySem.W.keepIn K (.ref f_letters_of) = true) (mg_letters_of : mg "letters_of" = some (.ref f_letters_of)) {f_worth : Addr} {fd_worth : FuncData} (F_worth : FnOk P w K mg base CX0 1 f_worth fd_worth ["form", "row"] (spD K sp_worth)) (b_worth : Binds K fd_worth ["form", "row"] []) (k_worth : PySem.W.keepIn K (.ref f_worth) = true) (mg_worth : mg "worth" = some (.ref f_worth)) {f_L_worth : Addr} {fd_L_worth : FuncData} (F_L_worth : FnOk P w K mg base CX0 1 f_L_worth fd_L_worth ["_law_form_here", "_law_row"] (spD K sp_L_worth)) (b_L_worth : Binds K fd_L_worth ["_law_form_here", "_law_row"] []) (k_L_worth : PySem.W.keepIn K (.ref f_L_worth) = true) (mg_L_worth : mg "_law_worth" = some (.ref f_L_worth)) {f_L_turns_3ed : Addr} {fd_L_turns_3ed : FuncData} (F_L_turns_3ed : FnOk P w K mg base CX0 2 f_L_turns_3ed fd_L_turns_3ed ["_law_form_here", "_law_letter"] (spD K sp_L_turns_3ed)) (b_L_turns_3ed : Binds K fd_L_turns_3ed ["_law_form_here", "_law_letter"] []) (k_L_turns_3ed : PySem.W.keepIn K (.ref f_L_turns_3ed) = true) (mg_L_turns_3ed : mg "_law_turns" = some (.ref f_L_turns_3ed)) (m_all : mg "all" = none) (m_bool : mg "bool" = none) (m_dict : mg "dict" = none) (m_isinstance : mg "isinstance" = none) (m_range : mg "range" = none) (m_reversed : mg "reversed" = none) (m_str : mg "str" = none) :
    FnOk P w K mg base CX0 3 f fd ["_law_script"] (spD K sp_law) := by
  refine fnD F sc_law (fun ds Q px h => len_law h) (fun cdv A outer s H E hr => ⟨_, w_law,
    (dss_cons (ds_for PassesOwn.never rfl (di_range1 m_range (da_cons de_int da_nil)) (dg_name 1 sc_law.nd) (dss_cons (ds_asg (de_call F_L_letters (hr.mono (by decide)) mg_L_letters k_L_letters b_L_letters pass0 (da_cons (de_call F_L_mixed (hr.mono (by decide)) mg_L_mixed k_L_mixed b_L_mixed pass0 (da_cons (de_var 0) (da_cons (de_mul de_int (de_var 1)) da_nil))) (da_cons (de_mod (de_call F_L_mixed (hr.mono (by decide)) mg_L_mixed k_L_mixed b_L_mixed pass0 (da_cons (de_var 0) (da_cons (de_plus (de_mul de_int (de_var 1)) de_int) da_nil))) de_int) da_nil))) (dg_name 2 sc_law.nd))
    (dss_cons (ds_asg (de_call F_L_form (hr.mono (by decide)) mg_L_form k_L_form b_L_form pass0 (da_cons (de_var 0) (da_cons (de_plus de_int (de_mul de_int (de_var 1))) (da_cons (de_var 2) da_nil)))) (dg_name 3 sc_law.nd))
    (dss_cons (ds_asg (de_join de_str (de_lc (own := [("_law_letter", 5)]) rfl sc_law.nd (di_X de_str) (show BlkOk N_law (defScope s_law) _ [("_law_letter", 5)] from ⟨rfl, by decide +kernel, by decide +kernel, by decide +kernel, by decide +kernel⟩) (fun _ _ _ _ _ => (dgb_name 5 sc_law.nd)) (fun _ _ _ _ _ => (dts_one (dt_inX hr.units (de_var 5) (de_join de_str (de_var 3))))) (fun _ _ _ _ _ => (de_var 5)))) (dg_name 4 sc_law.nd))
    (dss_cons (ds_asg (de_call F_letters_of (hr.mono (by decide)) mg_letters_of k_letters_of b_letters_of pass0 (da_cons (de_var 3) da_nil)) (dg_name 6 sc_law.nd))
    (dss_cons (ds_if ((dw_or (dt_not (dt_val (de_isi m_isinstance (de_var 6) (de_ty m_str (by decide +kernel))))) (dw_or1 (dt_neX hr.units (de_var 6) (de_var 4)))).dt) (dss_one (ds_ret de_bl)) dss_nil)
    (dss_cons (ds_for PassesOwn.never rfl (di_range1 m_range (da_cons de_int da_nil)) (dg_name 7 sc_law.nd) (dss_cons (ds_asg (de_div (de_call F_L_mixed (hr.mono (by decide)) mg_L_mixed k_L_mixed b_L_mixed pass0 (da_cons (de_var 0) (da_cons (de_plus (de_plus de_int (de_mul de_int (de_var 1))) (de_var 7)) da_nil))) de_int) (dg_name 8 sc_law.nd))
    (dss_cons (ds_asg (de_var 4) (dg_name 9 sc_law.nd))
    (dss_cons (ds_if (dt_eqX hr.units (de_mod (de_var 7) de_int) de_int) (dss_one (ds_asg de_str (dg_name 9 sc_law.nd))) dss_nil)
    (dss_cons (ds_set 10 sc_law.nd de_dict0)
    (dss_cons (ds_for PassesOwn.never rfl (di_revX m_reversed (de_var 9)) (dg_name 5 sc_law.nd) (dss_cons (ds_dput 10 (units1 hr.units) (de_var 5) (de_eqX hr.units (de_mod (de_var 8) de_int) de_int))
    (dss_one (ds_asg (de_div (de_var 8) de_int) (dg_name 8 sc_law.nd)))))
    (dss_cons (ds_asg (de_dict m_dict (de_var 10)) (dg_name 11 sc_law.nd))
    (dss_cons (ds_asg (de_call F_worth (hr.mono (by decide)) mg_worth k_worth b_worth pass0 (da_cons (de_var 3) (da_cons (de_var 11) da_nil))) (dg_name 12 sc_law.nd))
    (dss_one (ds_if ((dw_or (dt_not (dt_val (de_isi m_isinstance (de_var 12) (de_ty m_bool (by decide +kernel))))) (dw_or (dt_lend (dt_neX hr.units (de_var 12) (de_call F_L_worth (hr.mono (by decide)) mg_L_worth k_L_worth b_L_worth pass0 (da_cons (de_var 3) (da_cons (de_var 10) da_nil))))) (dw_or1 (dt_lend (dt_neX hr.units (de_var 11) (de_var 10)))))).dt) (dss_one (ds_ret de_bl)) dss_nil))))))))))
    (dss_one (ds_if (dt_not (dt_val (de_all m_all (cr_all rfl) (de_lc (own := [("_law_letter", 5)]) rfl sc_law.nd (di_X (de_var 4)) (show BlkOk N_law (defScope s_law) _ [("_law_letter", 5)] from ⟨rfl, by decide +kernel, by decide +kernel, by decide +kernel, by decide +kernel⟩) (fun _ _ _ _ _ => (dgb_name 5 sc_law.nd)) (fun _ _ _ _ _ => dts_nil) (fun _ _ _ _ _ => (de_call F_L_turns_3ed (hr.mono (by decide)) mg_L_turns_3ed k_L_turns_3ed b_L_turns_3ed pass0 (da_cons (de_var 3) (da_cons (de_var 5) da_nil)))))))) (dss_one (ds_ret de_bl)) dss_nil)))))))))
    (dss_one (ds_ret de_bl))), fun ds Q px h => rd_law h⟩)

set_option maxHeartbeats 8000000 in
theorem all_mk {l : PySem.W.OpenLaw} {w : World} {K : PySem.W.Frag} {h : Heap} {mg : Str → Option Value} {fa : Addr} (X : K.In h) (G : h.Ns mainGlobals mg) (hfa : mg "law" = some (.ref fa))
    {f1 : Addr} {od1 an1 : Option Addr} {sl1 : Array (Option Value)} {oc1 kV1 dc1 pm1 cd1 ct1 : Value}
    {f2 : Addr} {od2 an2 : Option Addr} {sl2 : Array (Option Value)} {oc2 kV2 dc2 pm2 cd2 ct2 : Value}
    {f3 : Addr} {od3 an3 : Option Addr} {sl3 : Array (Option Value)} {oc3 kV3 dc3 pm3 cd3 ct3 : Value}
    {f4 : Addr} {od4 an4 : Option Addr} {sl4 : Array (Option Value)} {oc4 kV4 dc4 pm4 cd4 ct4 : Value}
    {f5 : Addr} {od5 an5 : Option Addr} {sl5 : Array (Option Value)} {oc5 kV5 dc5 pm5 cd5 ct5 : Value}
    {f6 : Addr} {od6 an6 : Option Addr} {sl6 : Array (Option Value)} {oc6 kV6 dc6 pm6 cd6 ct6 : Value}
    {f7 : Addr} {od7 an7 : Option Addr} {sl7 : Array (Option Value)} {oc7 kV7 dc7 pm7 cd7 ct7 : Value}
    {f8 : Addr} {od8 an8 : Option Addr} {sl8 : Array (Option Value)} {oc8 kV8 dc8 pm8 cd8 ct8 : Value}
    {f9 : Addr} {od9 an9 : Option Addr} {sl9 : Array (Option Value)} {oc9 kV9 dc9 pm9 cd9 ct9 : Value}
    (a1 : PySem.W.nsIn K mainGlobals "_law_letters" = some (some (.ref f1)))
    (a2 : PySem.W.nsIn K mainGlobals "_law_mixed" = some (some (.ref f2)))
    (a3 : PySem.W.nsIn K mainGlobals "_law_product" = some (some (.ref f3)))
    (a4 : PySem.W.nsIn K mainGlobals "_law_form" = some (some (.ref f4)))
    (a5 : PySem.W.nsIn K mainGlobals "letters_of" = some (some (.ref f5)))
    (a6 : PySem.W.nsIn K mainGlobals "worth" = some (some (.ref f6)))
    (a7 : PySem.W.nsIn K mainGlobals "_law_worth" = some (some (.ref f7)))
    (a8 : PySem.W.nsIn K mainGlobals "_law_turns" = some (some (.ref f8)))
    (a9 : PySem.W.nsIn K mainGlobals "law" = some (some (.ref f9)))
    (l1 : K.lookup f1 = some ⟨oc1, od1, .func (PySem.W.fnOf "_law_letters" "_law_letters" (defArgs s_L_letters) (defBody s_L_letters) (defScope s_L_letters) .none kV1 dc1 pm1 an1 cd1 ct1), sl1⟩) (c1 : PySem.W.codeIn K cd1 "_law_letters" = true) (k1 : PySem.W.keepIn K (.ref f1) = true)
    (l2 : K.lookup f2 = some ⟨oc2, od2, .func (PySem.W.fnOf "_law_mixed" "_law_mixed" (defArgs s_L_mixed) (defBody s_L_mixed) (defScope s_L_mixed) .none kV2 dc2 pm2 an2 cd2 ct2), sl2⟩) (c2 : PySem.W.codeIn K cd2 "_law_mixed" = true) (k2 : PySem.W.keepIn K (.ref f2) = true)
    (l3 : K.lookup f3 = some ⟨oc3, od3, .func (PySem.W.fnOf "_law_product" "_law_product" (defArgs s_L_product) (defBody s_L_product) (defScope s_L_product) .none kV3 dc3 pm3 an3 cd3 ct3), sl3⟩) (c3 : PySem.W.codeIn K cd3 "_law_product" = true) (k3 : PySem.W.keepIn K (.ref f3) = true)
    (l4 : K.lookup f4 = some ⟨oc4, od4, .func (PySem.W.fnOf "_law_form" "_law_form" (defArgs s_L_form) (defBody s_L_form) (defScope s_L_form) .none kV4 dc4 pm4 an4 cd4 ct4), sl4⟩) (c4 : PySem.W.codeIn K cd4 "_law_form" = true) (k4 : PySem.W.keepIn K (.ref f4) = true)
    (l5 : K.lookup f5 = some ⟨oc5, od5, .func (PySem.W.fnOf "letters_of" "letters_of" (defArgs s_letters_of) (defBody s_letters_of) (defScope s_letters_of) .none kV5 dc5 pm5 an5 cd5 ct5), sl5⟩) (c5 : PySem.W.codeIn K cd5 "letters_of" = true) (k5 : PySem.W.keepIn K (.ref f5) = true)
    (l6 : K.lookup f6 = some ⟨oc6, od6, .func (PySem.W.fnOf "worth" "worth" (defArgs s_worth) (defBody s_worth) (defScope s_worth) .none kV6 dc6 pm6 an6 cd6 ct6), sl6⟩) (c6 : PySem.W.codeIn K cd6 "worth" = true) (k6 : PySem.W.keepIn K (.ref f6) = true)
    (l7 : K.lookup f7 = some ⟨oc7, od7, .func (PySem.W.fnOf "_law_worth" "_law_worth" (defArgs s_L_worth) (defBody s_L_worth) (defScope s_L_worth) .none kV7 dc7 pm7 an7 cd7 ct7), sl7⟩) (c7 : PySem.W.codeIn K cd7 "_law_worth" = true) (k7 : PySem.W.keepIn K (.ref f7) = true)
    (l8 : K.lookup f8 = some ⟨oc8, od8, .func (PySem.W.fnOf "_law_turns" "_law_turns" (defArgs s_L_turns_3ed) (defBody s_L_turns_3ed) (defScope s_L_turns_3ed) .none kV8 dc8 pm8 an8 cd8 ct8), sl8⟩) (c8 : PySem.W.codeIn K cd8 "_law_turns" = true) (k8 : PySem.W.keepIn K (.ref f8) = true)
    (l9 : K.lookup f9 = some ⟨oc9, od9, .func (PySem.W.fnOf "law" "law" (defArgs s_law) (defBody s_law) (defScope s_law) .none kV9 dc9 pm9 an9 cd9 ct9), sl9⟩) (c9 : PySem.W.codeIn K cd9 "law" = true) (k9 : PySem.W.keepIn K (.ref f9) = true)
    (z_all : PySem.W.nsIn K mainGlobals "all" = some none)
    (z_bool : PySem.W.nsIn K mainGlobals "bool" = some none)
    (z_dict : PySem.W.nsIn K mainGlobals "dict" = some none)
    (z_enumerate : PySem.W.nsIn K mainGlobals "enumerate" = some none)
    (z_isinstance : PySem.W.nsIn K mainGlobals "isinstance" = some none)
    (z_len : PySem.W.nsIn K mainGlobals "len" = some none)
    (z_list : PySem.W.nsIn K mainGlobals "list" = some none)
    (z_min : PySem.W.nsIn K mainGlobals "min" = some none)
    (z_range : PySem.W.nsIn K mainGlobals "range" = some none)
    (z_reversed : PySem.W.nsIn K mainGlobals "reversed" = some none)
    (z_set : PySem.W.nsIn K mainGlobals "set" = some none)
    (z_sorted : PySem.W.nsIn K mainGlobals "sorted" = some none)
    (z_str : PySem.W.nsIn K mainGlobals "str" = some none)
    (z_tuple : PySem.W.nsIn K mainGlobals "tuple" = some none) :
    ∃ fd : FuncData, (∀ (s : Shared) (v : Value), BindsTo s fd ⟨[v], []⟩ [("_law_script", v)]) ∧ ∀ base : Heap, K.In base → base.Ns mainGlobals mg → FnOk l.prog w K mg base CX0 3 fa fd ["_law_script"] (spD K spLaw) := by
  have e := hfa.symm.trans (PySem.W.mg_of X G a9)
  cases e
  have F1 := fun_mk (st := s_L_letters) l1 c1 k1
  have b1 := F1.binds (ps := ["_law_number", "_law_many"]) fun _ _ _ _ _ _ us hl => match us, hl with | [_, _], _ => rfl
  have F2 := fun_mk (st := s_L_mixed) l2 c2 k2
  have b2 := F2.binds (ps := ["_law_script", "_law_k"]) fun _ _ _ _ _ _ us hl => match us, hl with | [_, _], _ => rfl
  have F3 := fun_mk (st := s_L_product) l3 c3 k3
  have b3 := F3.binds (ps := ["_law_letters_here", "_law_number"]) fun _ _ _ _ _ _ us hl => match us, hl with | [_, _], _ => rfl
  have F4 := fun_mk (st := s_L_form) l4 c4 k4
  have b4 := F4.binds (ps := ["_law_script", "_law_at", "_law_letters_here"]) fun _ _ _ _ _ _ us hl => match us, hl with | [_, _, _], _ => rfl
  have F5 := fun_mk (st := s_letters_of) l5 c5 k5
  have b5 := F5.binds (ps := ["form"]) fun _ _ _ _ _ _ us hl => match us, hl with | [_], _ => rfl
  have F6 := fun_mk (st := s_worth) l6 c6 k6
  have b6 := F6.binds (ps := ["form", "row"]) fun _ _ _ _ _ _ us hl => match us, hl with | [_, _], _ => rfl
  have F7 := fun_mk (st := s_L_worth) l7 c7 k7
  have b7 := F7.binds (ps := ["_law_form_here", "_law_row"]) fun _ _ _ _ _ _ us hl => match us, hl with | [_, _], _ => rfl
  have F8 := fun_mk (st := s_L_turns_3ed) l8 c8 k8
  have b8 := F8.binds (ps := ["_law_form_here", "_law_letter"]) fun _ _ _ _ _ _ us hl => match us, hl with | [_, _], _ => rfl
  have F9 := fun_mk (st := s_law) l9 c9 k9
  have m_all := PySem.W.mg_none_of X G z_all
  have m_bool := PySem.W.mg_none_of X G z_bool
  have m_dict := PySem.W.mg_none_of X G z_dict
  have m_enumerate := PySem.W.mg_none_of X G z_enumerate
  have m_isinstance := PySem.W.mg_none_of X G z_isinstance
  have m_len := PySem.W.mg_none_of X G z_len
  have m_list := PySem.W.mg_none_of X G z_list
  have m_min := PySem.W.mg_none_of X G z_min
  have m_range := PySem.W.mg_none_of X G z_range
  have m_reversed := PySem.W.mg_none_of X G z_reversed
  have m_set := PySem.W.mg_none_of X G z_set
  have m_sorted := PySem.W.mg_none_of X G z_sorted
  have m_str := PySem.W.mg_none_of X G z_str
  have m_tuple := PySem.W.mg_none_of X G z_tuple
  refine ⟨(PySem.W.fnOf "law" "law" (defArgs s_law) (defBody s_law) (defScope s_law) .none kV9 dc9 pm9 an9 cd9 ct9), fun s v => .of_eq rfl, fun base _ _ => ?_⟩
  have R1 := ok_L_letters (P := l.prog) (w := w) (mg := mg) (base := base) F1 m_len m_list
  have R2 := ok_L_mixed (P := l.prog) (w := w) (mg := mg) (base := base) F2 m_len m_min m_range
  have R3 := ok_L_product (P := l.prog) (w := w) (mg := mg) (base := base) F3 
  have R4 := ok_L_form (P := l.prog) (w := w) (mg := mg) (base := base) F4 R2 b2 k2 (PySem.W.mg_of X G a2) R3 b3 k3 (PySem.W.mg_of X G a3) m_enumerate m_len m_range m_set m_sorted m_tuple
  have R5 := ok_letters_of (P := l.prog) (w := w) (mg := mg) (base := base) F5 m_set m_sorted
  have R6 := ok_worth (P := l.prog) (w := w) (mg := mg) (base := base) F6 m_all
  have R7 := ok_L_worth (P := l.prog) (w := w) (mg := mg) (base := base) F7 m_all
  have R8 := ok_L_turns_3ed (P := l.prog) (w := w) (mg := mg) (base := base) F8 R6 b6 k6 (PySem.W.mg_of X G a6) m_all m_dict m_len m_sorted
  have R9 := ok_law (P := l.prog) (w := w) (mg := mg) (base := base) F9 R1 b1 k1 (PySem.W.mg_of X G a1) R2 b2 k2 (PySem.W.mg_of X G a2) R4 b4 k4 (PySem.W.mg_of X G a4) R5 b5 k5 (PySem.W.mg_of X G a5) R6 b6 k6 (PySem.W.mg_of X G a6) R7 b7 k7 (PySem.W.mg_of X G a7) R8 b8 k8 (PySem.W.mg_of X G a8) m_all m_bool m_dict m_isinstance m_range m_reversed m_str
  exact R9
theorem walk {l : PySem.W.OpenLaw} {q : Program} {loose : List Str} {XP : (Str → Option Value) → Heap → Prop} {YP : World → Heap → Prop} {d : DefRec} {K : Params → PySem.W.Frag} (hn : l.most = some 63) (hdf : d.params.defaults = [])
    (hY : ∀ (w : World) (h : Heap), YP w h → (K w.params).In h)
    (F : ∀ (w : World) (mg : Str → Option Value) (fa : Addr) (h : Heap), (K w.params).In h → h.Ns mainGlobals mg → mg d.name = some (.ref fa) →
      ∃ fd : FuncData, (∀ (s : Shared) (u : Value), BindsTo s fd ⟨[u], []⟩ [("_law_script", u)]) ∧ ∀ base : Heap, (K w.params).In base → base.Ns mainGlobals mg → FnOk l.prog w (K w.params) mg base CX0 3 fa fd ["_law_script"] (spD (K w.params) spLaw)) :
    PySem.W.WalkO q loose XP YP l.row.toRowW d [] (fun f vs => PySem.call f vs) :=
  L2.walk_ofB (n := 63) (k := 3) (x := "_law_script") (CX := fun _ => CX0) (sp := fun w => spD (K w.params) spLaw) hn (by decide) hdf ⟨rfl, by decide, by decide⟩ hY F (fun w H a ns hl hb _ hS => spLaw_at hl hb hS) fun _ _ _ _ _ z => z
end DL
open PySem PySem.W PyProof.Rows
set_option maxRecDepth 100000 in
set_option maxHeartbeats 0 in
theorem PySem.Challenge.cw_fillsay_k13_letters_and_worth_holds : PySem.Challenge.rw_fillsay_k13_letters_and_worth.Holds := by
  w_on; o_law; k_head; (case hw => w_witness2)
  k_fill
  refine DL.walk (l := PySem.Challenge.rw_fillsay_k13_letters_and_worth) rfl rfl (fun w h Y => PySem.W.kIn_of Y) ?F
  case F =>
    intro w mg fa h KX G hmg
    refine' DL.all_mk KX G hmg ?a1 ?a2 ?a3 ?a4 ?a5 ?a6 ?a7 ?a8 ?a9 ?l1 ?c1 ?k1 ?l2 ?c2 ?k2 ?l3 ?c3 ?k3 ?l4 ?c4 ?k4 ?l5 ?c5 ?k5 ?l6 ?c6 ?k6 ?l7 ?c7 ?k7 ?l8 ?c8 ?k8 ?l9 ?c9 ?k9 ?z_all ?z_bool ?z_dict ?z_enumerate ?z_isinstance ?z_len ?z_list ?z_min ?z_range ?z_reversed ?z_set ?z_sorted ?z_str ?z_tuple
    (case a1 => k_is)
    (case a2 => k_is)
    (case a3 => k_is)
    (case a4 => k_is)
    (case a5 => k_is)
    (case a6 => k_is)
    (case a7 => k_is)
    (case a8 => k_is)
    (case a9 => k_is)
    (case l1 => k_is)
    (case c1 => k_is)
    (case k1 => k_is)
    (case l2 => k_is)
    (case c2 => k_is)
    (case k2 => k_is)
    (case l3 => k_is)
    (case c3 => k_is)
    (case k3 => k_is)
    (case l4 => k_is)
    (case c4 => k_is)
    (case k4 => k_is)
    (case l5 => k_is)
    (case c5 => k_is)
    (case k5 => k_is)
    (case l6 => k_is)
    (case c6 => k_is)
    (case k6 => k_is)
    (case l7 => k_is)
    (case c7 => k_is)
    (case k7 => k_is)
    (case l8 => k_is)
    (case c8 => k_is)
    (case k8 => k_is)
    (case l9 => k_is)
    (case c9 => k_is)
    (case k9 => k_is)
    (case z_all => k_is)
    (case z_bool => k_is)
    (case z_dict => k_is)
    (case z_enumerate => k_is)
    (case z_isinstance => k_is)
    (case z_len => k_is)
    (case z_list => k_is)
    (case z_min => k_is)
    (case z_range => k_is)
    (case z_reversed => k_is)
    (case z_set => k_is)
    (case z_sorted => k_is)
    (case z_str => k_is)
    (case z_tuple => k_is)
