import PyProof.Rows.All
import Wide.All
import OpenK.AllK
import Wide.FinOn
import HandS.ForMost
import HandS.Exc
import HandS.TryOnly
import HandS.ExcOwn
import HandS.WordsExc
import HandS.EndBits
import HandS.Wide
import HandS.Set
import HandS.SetFor
import HandS.Strs
import PyProof.StrWalks
import PyProof.WalksMore
import HandS.More
import KE.KDictList
import KE.KDictSum
import PyProof.Rows.SortShellAny
import HandS.TupAny
import HandS.DeepEq
import PyProof.ListStr
import HandS.DictComp
import HandS.IsInst
import KE.GoesMore
import PyProof.EnumMake
import HandS.Rev
import HandS.TupLe
import HandS.WideBits
import PyProof.CollectStr
import KE.GoesEnum
import HandS.New
import HandS.StrMore
import HandS.ListItems
import HandS.Conv
import KE.KDictZip
import HandS.Replace
import HandS.Style
import HandS.SortRule
import PySem.Challenge.RW_fillsay_k88_whole_between_great_forms
set_option Elab.async false
set_option linter.all false
set_option maxRecDepth 100000
namespace DL
open PySem L2
inductive D where
  | non | bl (b : Bool) | int (i : Int) | str (x : Str) | ref (a : Addr) | ty (n : String)
  | cel (ns : List Int) | lst (xs : List D) | tup (xs : List D) | dic (ks : List Key) (xs : List D) | ins (N : Str) (ns : List Str) (xs : List D)
mutual
def Rep (K : PySem.W.Frag) (F : Hp) : D → V → Prop
  | .non, v => v = .non
  | .bl b, v => v = .bl b
  | .int i, v => v = .int i
  | .str x, v => v = .str x
  | .ref a, v => v = .ref a
  | .ty n, v => v = .ty n
  | .cel ns, v => ∃ a, v = .ref a ∧ SqL K F a (ns.map V.int)
  | .lst xs, v => ∃ a vs, v = .ref a ∧ F a = some (.lst vs) ∧ Reps K F xs vs
  | .tup xs, v => ∃ a vs, v = .ref a ∧ SqT K F a vs ∧ Reps K F xs vs
  | .dic ks xs, v => ∃ a vs, v = .ref a ∧ Rd F a (.dK (ks.zip vs)) ∧ ks.length = vs.length ∧ Reps K F xs vs
  | .ins N ns xs, v => ∃ a C dx vs, v = .ref a ∧ PySem.W.nsIn K mainGlobals N = some (some (.ref C)) ∧ F a = some (.ins C dx (ns.zip vs)) ∧ ns.length = vs.length ∧ Reps K F xs vs
def Reps (K : PySem.W.Frag) (F : Hp) : List D → List V → Prop
  | [], vs => vs = []
  | x :: xs, vs => ∃ v r, vs = v :: r ∧ Rep K F x v ∧ Reps K F xs r
end
section
variable {K : PySem.W.Frag} {F F' H H' : Hp}
theorem Same.rd {a : Addr} {o : HO} (e : Same F F') (h : Rd F a o) : Rd F' a o := by
  rcases h with h | ⟨o', h⟩
  · exact .inl (e _ _ h)
  · exact .inr ⟨o', e _ _ h⟩
theorem Same.sqT {a : Addr} {xs : List V} (e : Same F F') (h : SqT K F a xs) : SqT K F' a xs := by
  rcases h with (h | ⟨o, h⟩) | h
  · exact .inl (.inl (e _ _ h))
  · exact .inl (.inr ⟨o, e _ _ h⟩)
  · exact .inr h
mutual
theorem Rep.mono (e : Same F F') : ∀ (d : D) (v : V), Rep K F d v → Rep K F' d v
  | .non, _, h => h
  | .bl _, _, h => h
  | .int _, _, h => h
  | .str _, _, h => h
  | .ref _, _, h => h
  | .ty _, _, h => h
  | .cel ns, _, h => by
    obtain ⟨a, e1, h1⟩ := h
    exact ⟨a, e1, e.seq h1⟩
  | .lst xs, _, h => by
    obtain ⟨a, vs, e1, h1, h2⟩ := h
    exact ⟨a, vs, e1, e _ _ h1, Reps.mono e xs vs h2⟩
  | .tup xs, _, h => by
    obtain ⟨a, vs, e1, h1, h2⟩ := h
    exact ⟨a, vs, e1, Same.sqT e h1, Reps.mono e xs vs h2⟩
  | .dic ks xs, _, h => by
    obtain ⟨a, vs, e1, h1, l, h2⟩ := h
    exact ⟨a, vs, e1, Same.rd e h1, l, Reps.mono e xs vs h2⟩
  | .ins C ns xs, _, h => by
    obtain ⟨a, C, dx, vs, e1, g, h1, l, h2⟩ := h
    exact ⟨a, C, dx, vs, e1, g, e _ _ h1, l, Reps.mono e xs vs h2⟩
theorem Reps.mono (e : Same F F') : ∀ (ds : List D) (vs : List V), Reps K F ds vs → Reps K F' ds vs
  | [], _, h => h
  | x :: xs, _, h => by
    obtain ⟨v, r, e1, h1, h2⟩ := h
    exact ⟨v, r, e1, Rep.mono e x v h1, Reps.mono e xs r h2⟩
end
theorem Reps.len : ∀ {ds : List D} {vs : List V}, Reps K F ds vs → vs.length = ds.length
  | [], _, h => by cases h; rfl
  | x :: xs, _, h => by
    obtain ⟨v, r, e1, h1, h2⟩ := h
    subst e1
    exact congrArg Nat.succ (Reps.len h2)
theorem Reps.app : ∀ {ds es : List D} {vs us : List V}, Reps K F ds vs → Reps K F es us → Reps K F (ds ++ es) (vs ++ us)
  | [], _, _, _, h, g => by cases h; exact g
  | x :: xs, _, _, _, h, g => by
    obtain ⟨v, r, e1, h1, h2⟩ := h
    subst e1
    exact ⟨v, r ++ _, rfl, h1, Reps.app h2 g⟩
theorem Reps.one {d : D} {v : V} (h : Rep K F d v) : Reps K F [d] [v] := ⟨v, [], rfl, h, rfl⟩
theorem Reps.get : ∀ {ds : List D} {vs : List V} {i : Nat} {d : D}, Reps K F ds vs → ds[i]? = some d → ∃ v, vs[i]? = some v ∧ Rep K F d v
  | [], _, _, _, _, e => by simp at e
  | x :: xs, _, 0, d, h, e => by
    obtain ⟨v, r, e1, h1, h2⟩ := h
    subst e1
    simp at e; subst e
    exact ⟨v, rfl, h1⟩
  | x :: xs, _, i + 1, d, h, e => by
    obtain ⟨v, r, e1, h1, h2⟩ := h
    subst e1
    obtain ⟨u, q, z⟩ := Reps.get (i := i) (d := d) h2 (by simpa using e)
    exact ⟨u, by simpa using q, z⟩
theorem Reps.get' : ∀ {ds : List D} {vs : List V} {i : Nat} {v : V}, Reps K F ds vs → vs[i]? = some v → ∃ d, ds[i]? = some d ∧ Rep K F d v := by
  intro ds vs i v h e
  have hi : i < ds.length := by rw [← h.len]; exact (List.getElem?_eq_some_iff.mp e).1
  obtain ⟨u, q, z⟩ := h.get (List.getElem?_eq_getElem hi)
  rw [e] at q; cases q
  exact ⟨_, List.getElem?_eq_getElem hi, z⟩
theorem Reps.take : ∀ {ds : List D} {vs : List V} (n : Nat), Reps K F ds vs → Reps K F (ds.take n) (vs.take n)
  | _, _, 0, _ => rfl
  | [], _, _ + 1, h => by cases h; exact rfl
  | x :: xs, _, n + 1, h => by
    obtain ⟨v, r, e1, h1, h2⟩ := h
    subst e1
    exact ⟨v, r.take n, rfl, h1, Reps.take n h2⟩
theorem Reps.drop : ∀ {ds : List D} {vs : List V} (n : Nat), Reps K F ds vs → Reps K F (ds.drop n) (vs.drop n)
  | _, _, 0, h => h
  | [], _, _ + 1, h => by cases h; exact rfl
  | x :: xs, _, n + 1, h => by
    obtain ⟨v, r, e1, h1, h2⟩ := h
    subst e1
    exact Reps.drop n h2
theorem Reps.set : ∀ {ds : List D} {vs : List V} (i : Nat) {d : D} {v : V}, Reps K F ds vs → Rep K F d v → Reps K F (ds.set i d) (vs.set i v)
  | [], _, _, _, _, h, _ => by cases h; exact rfl
  | x :: xs, _, 0, d, v, h, z => by
    obtain ⟨u, r, e1, h1, h2⟩ := h
    subst e1
    exact ⟨v, r, rfl, z, h2⟩
  | x :: xs, _, i + 1, d, v, h, z => by
    obtain ⟨u, r, e1, h1, h2⟩ := h
    subst e1
    exact ⟨u, r.set i v, rfl, h1, Reps.set i h2 z⟩
theorem Reps.ints : ∀ {ns : List Int} {vs : List V}, Reps K F (ns.map D.int) vs ↔ vs = ns.map V.int
  | [], _ => Iff.rfl
  | n :: ns, vs => by
    constructor
    · rintro ⟨v, r, e1, h1, h2⟩
      rw [e1, show v = V.int n from h1, Reps.ints.mp h2]; rfl
    · intro e
      exact ⟨.int n, ns.map V.int, e, rfl, Reps.ints.mpr rfl⟩
theorem Reps.strs : ∀ {ns : List Str} {vs : List V}, Reps K F (ns.map D.str) vs ↔ vs = ns.map V.str
  | [], _ => Iff.rfl
  | n :: ns, vs => by
    constructor
    · rintro ⟨v, r, e1, h1, h2⟩
      rw [e1, show v = V.str n from h1, Reps.strs.mp h2]; rfl
    · intro e
      exact ⟨.str n, ns.map V.str, e, rfl, Reps.strs.mpr rfl⟩
end
inductive S where
  | d (x : D) | ol (xs : List D) | od (kvs : List (Key × D)) | oi (N : Str) (kvs : List (Str × D)) | os (a : Addr) (N : Str) (kvs : List (Str × D))
@[reducible] def S.own : S → Bool
  | .d _ => false
  | _ => true
@[reducible] def S.fz : S → D
  | .d x => x
  | .ol xs => .lst xs
  | .od kvs => .dic (kvs.map (·.1)) (kvs.map (·.2))
  | .oi C kvs => .ins C (kvs.map (·.1)) (kvs.map (·.2))
  | .os _ C kvs => .ins C (kvs.map (·.1)) (kvs.map (·.2))
abbrev R := List (Option S)
def D.flat : D → Bool
  | .cel _ => false
  | .lst _ => false
  | .tup _ => false
  | .dic _ _ => false
  | .ins _ _ _ => false
  | _ => true
theorem Rep.flat {K : PySem.W.Frag} {F F' : Hp} {d : D} {v : V} (h : Rep K F d v) (f : d.flat = true) : Rep K F' d v := by
  cases d <;> first | exact h | cases f
def SRep (K : PySem.W.Frag) (H0 F H : Hp) : S → V → Prop
  | .d x, v => Rep K F x v
  | .ol xs, v => ∃ a vs, v = .ref a ∧ H a = some (.lst vs) ∧ Reps K F xs vs ∧ H0 a = none ∧ F a = none
  | .od kvs, v => ∃ a kvs', v = .ref a ∧ H a = some (.dK kvs') ∧ kvs'.map (·.1) = kvs.map (·.1) ∧ Reps K F (kvs.map (·.2)) (kvs'.map (·.2)) ∧ H0 a = none ∧ F a = none
  | .oi N kvs, v => ∃ a C dx kvs', v = .ref a ∧ PySem.W.nsIn K mainGlobals N = some (some (.ref C)) ∧ H a = some (.ins C dx kvs') ∧ kvs'.map (·.1) = kvs.map (·.1) ∧ Reps K F (kvs.map (·.2)) (kvs'.map (·.2)) ∧ H0 a = none ∧ F a = none
  | .os a0 N kvs, v => v = .ref a0 ∧ ∃ a C dx kvs', v = .ref a ∧ PySem.W.nsIn K mainGlobals N = some (some (.ref C)) ∧ H a = some (.ins C dx kvs') ∧ kvs'.map (·.1) = kvs.map (·.1) ∧ Reps K F (kvs.map (·.2)) (kvs'.map (·.2)) ∧ H0 a = none ∧ F a = none
def Fr (ρ : R) (σ : St) (v : V) : Prop := ∀ (j : Nat) t, ρ[j]? = some (some t) → t.own = true → σ[j]? ≠ some (some v)
structure Rel (K : PySem.W.Frag) (H0 F0 F H : Hp) (ρ : R) (σ : St) : Prop where
  h : Same H0 H
  f : Same F0 F
  fh : Same F H
  nw : ∀ a, F a ≠ none → F0 a ≠ none ∨ H0 a = none
  len : ρ.length = σ.length
  at_ : ∀ (i : Nat) s, ρ[i]? = some (some s) → ∃ v, σ[i]? = some (some v) ∧ SRep K H0 F H s v
  ap : ∀ (i j : Nat) s t, ρ[i]? = some (some s) → ρ[j]? = some (some t) → s.own = true → t.own = true → σ[i]? = σ[j]? → i = j
section
variable {K : PySem.W.Frag} {H0 F0 F F' H H' : Hp} {ρ ρ' : R} {σ : St} {a : Addr} {o : HO} {i : Nat} {s : S} {v : V}
theorem Same.new {H : Hp} {p : Addr} {o : HO} (h : H p = none) : Same H (upd H p o) := fun b u e => by
  rw [upd_ne (ne_of_none e h)]; exact e
theorem SRep.grow (e : Same H H') (h : SRep K H0 F H s v) : SRep K H0 F H' s v := by
  cases s with
  | d x => exact h
  | ol xs => obtain ⟨a, vs, e1, h1, r⟩ := h; exact ⟨a, vs, e1, e _ _ h1, r⟩
  | od kvs => obtain ⟨a, vs, e1, h1, r⟩ := h; exact ⟨a, vs, e1, e _ _ h1, r⟩
  | oi N kvs => obtain ⟨a, C, dx, vs, e1, g, h1, r⟩ := h; exact ⟨a, C, dx, vs, e1, g, e _ _ h1, r⟩
  | os b N kvs => obtain ⟨e0, a, C, dx, vs, e1, g, h1, r⟩ := h; exact ⟨e0, a, C, dx, vs, e1, g, e _ _ h1, r⟩
theorem Rel.grow (r : Rel K H0 F0 F H ρ σ) (e : Same H H') : Rel K H0 F0 F H' ρ σ :=
  ⟨r.h.trans e, r.f, r.fh.trans e, r.nw, r.len, fun i s q => let ⟨v, q1, q2⟩ := r.at_ i s q; ⟨v, q1, q2.grow e⟩, r.ap⟩
theorem SRep.addr (h : SRep K H0 F H s v) (w : s.own = true) : ∃ a u, v = .ref a ∧ H a = some u ∧ H0 a = none ∧ F a = none := by
  cases s with
  | d x => cases w
  | ol xs => obtain ⟨a, vs, e1, h1, _, n1, n2⟩ := h; exact ⟨a, _, e1, h1, n1, n2⟩
  | od kvs => obtain ⟨a, vs, e1, h1, _, _, n1, n2⟩ := h; exact ⟨a, _, e1, h1, n1, n2⟩
  | oi N kvs => obtain ⟨a, C, dx, vs, e1, g, h1, _, _, n1, n2⟩ := h; exact ⟨a, _, e1, h1, n1, n2⟩
  | os b N kvs => obtain ⟨_, a, C, dx, vs, e1, g, h1, _, _, n1, n2⟩ := h; exact ⟨a, _, e1, h1, n1, n2⟩
theorem zip_unzip {α β : Type} : ∀ l : List (α × β), (l.map (·.1)).zip (l.map (·.2)) = l
  | [] => rfl
  | p :: l => by rw [List.map_cons, List.map_cons, List.zip_cons_cons, zip_unzip l]
theorem SRep.thaw (h : SRep K H0 F H s v) (w : s.own = true) : ∃ a u, v = .ref a ∧ H a = some u ∧ H0 a = none ∧ F a = none ∧ Rep K (upd F a u) s.fz v := by
  cases s with
  | d x => cases w
  | ol xs =>
    obtain ⟨a, vs, e1, h1, h2, n1, n2⟩ := h
    exact ⟨a, _, e1, h1, n1, n2, a, vs, e1, upd_same, Reps.mono (Same.new n2) _ _ h2⟩
  | od kvs =>
    obtain ⟨a, kvs', e1, h1, hk, h2, n1, n2⟩ := h
    refine ⟨a, _, e1, h1, n1, n2, a, kvs'.map (·.2), e1, ?_, ?_, Reps.mono (Same.new n2) _ _ h2⟩
    · refine .inl ?_; rw [upd_same, ← hk, zip_unzip]
    · rw [h2.len, List.length_map, List.length_map]
  | oi N kvs =>
    obtain ⟨a, C, dx, kvs', e1, g, h1, hk, h2, n1, n2⟩ := h
    refine ⟨a, _, e1, h1, n1, n2, a, C, dx, kvs'.map (·.2), e1, g, ?_, ?_, Reps.mono (Same.new n2) _ _ h2⟩
    · rw [upd_same, ← hk, zip_unzip]
    · rw [h2.len, List.length_map, List.length_map]
  | os b N kvs =>
    obtain ⟨_, a, C, dx, kvs', e1, g, h1, hk, h2, n1, n2⟩ := h
    refine ⟨a, _, e1, h1, n1, n2, a, C, dx, kvs'.map (·.2), e1, g, ?_, ?_, Reps.mono (Same.new n2) _ _ h2⟩
    · rw [upd_same, ← hk, zip_unzip]
    · rw [h2.len, List.length_map, List.length_map]
theorem Rel.more (r : Rel K H0 F0 F H ρ σ) (e : Same F F') (fh : Same F' H) (nw : ∀ a, F' a ≠ none → F a ≠ none ∨ H0 a = none)
    (no : ∀ (j : Nat) t a, ρ[j]? = some (some t) → t.own = true → σ[j]? = some (some (.ref a)) → F' a = none) : Rel K H0 F0 F' H ρ σ := by
  refine ⟨r.h, r.f.trans e, fh, fun a h => ?_, r.len, fun i s q => ?_, r.ap⟩
  · rcases nw a h with z | z
    · exact r.nw a z
    · exact .inr z
  · obtain ⟨v, q1, q2⟩ := r.at_ i s q
    refine ⟨v, q1, ?_⟩
    cases s with
    | d x => exact Rep.mono e _ _ q2
    | ol xs =>
      obtain ⟨a, vs, e1, h1, h2, n1, n2⟩ := q2
      subst e1
      exact ⟨a, vs, rfl, h1, Reps.mono e _ _ h2, n1, no i _ a q rfl q1⟩
    | od kvs =>
      obtain ⟨a, vs, e1, h1, hk, h2, n1, n2⟩ := q2
      subst e1
      exact ⟨a, vs, rfl, h1, hk, Reps.mono e _ _ h2, n1, no i _ a q rfl q1⟩
    | oi N kvs =>
      obtain ⟨a, C, dx, vs, e1, g, h1, hk, h2, n1, n2⟩ := q2
      subst e1
      exact ⟨a, C, dx, vs, rfl, g, h1, hk, Reps.mono e _ _ h2, n1, no i _ a q rfl q1⟩
    | os b N kvs =>
      obtain ⟨e0, a, C, dx, vs, e1, g, h1, hk, h2, n1, n2⟩ := q2
      subst e1
      exact ⟨e0, a, C, dx, vs, rfl, g, h1, hk, Reps.mono e _ _ h2, n1, no i _ a q rfl q1⟩
theorem Rel.put1 (r : Rel K H0 F0 F H ρ σ) {u : HO} (h : H a = some u) (n0 : H0 a = none) (n1 : F a = none) (fr : Fr ρ σ (.ref a)) : Rel K H0 F0 (upd F a u) H ρ σ := by
  refine r.more (Same.new n1) (fun b o q => ?_) (fun b q => ?_) fun j t b q w z => ?_
  · by_cases hb : b = a
    · subst hb; rw [upd_same] at q; cases q; exact h
    · rw [upd_ne hb] at q; exact r.fh _ _ q
  · by_cases hb : b = a
    · subst hb; exact .inr n0
    · rw [upd_ne hb] at q; exact .inl q
  · have hb : b ≠ a := by rintro rfl; exact fr j t q w z
    rw [upd_ne hb]
    obtain ⟨v, q1, q2⟩ := r.at_ j t q
    obtain ⟨c, o, e1, _, _, n2⟩ := q2.addr w
    rw [z] at q1; cases q1; cases e1; exact n2
theorem Rel.freeze (r : Rel K H0 F0 F H ρ σ) (h : SRep K H0 F H s v) (fr : s.own = true → Fr ρ σ v) : ∃ F', Same F F' ∧ Rel K H0 F0 F' H ρ σ ∧ Rep K F' s.fz v := by
  by_cases w : s.own = true
  · obtain ⟨a, u, e1, h1, n0, n1, rp⟩ := h.thaw w
    subst e1
    exact ⟨_, Same.new n1, r.put1 h1 n0 n1 (fr w), rp⟩
  · cases s with
    | d x => exact ⟨F, Same.refl F, r, h⟩
    | ol xs => exact absurd rfl w
    | od kvs => exact absurd rfl w
    | oi N kvs => exact absurd rfl w
    | os b N kvs => exact absurd rfl w
theorem Rel.forget (r : Rel K H0 F0 F H ρ σ) (hl : ρ'.length = ρ.length) (w : ∀ (i : Nat) s, ρ'[i]? = some (some s) → ρ[i]? = some (some s)) : Rel K H0 F0 F H ρ' σ :=
  ⟨r.h, r.f, r.fh, r.nw, hl.trans r.len, fun i s q => r.at_ i s (w i s q), fun i j s t q1 q2 => r.ap i j s t (w i s q1) (w j t q2)⟩
theorem set_none {s : S} (q : (ρ.set i none)[i]? = some (some s)) : False := by
  rw [List.getElem?_set] at q
  simp only [if_true] at q
  split at q <;> cases q
theorem Rel.drop1 (r : Rel K H0 F0 F H ρ σ) (i : Nat) : Rel K H0 F0 F H (ρ.set i none) σ :=
  r.forget (by simp) fun j s q => by
    by_cases hj : j = i
    · subst hj
      exact (set_none q).elim
    · rwa [List.getElem?_set_ne (Ne.symm hj)] at q
theorem Rel.moved (r : Rel K H0 F0 F H ρ σ) (q : ρ[i]? = some (some s)) (w : s.own = true) (e : σ[i]? = some (some v)) : Fr (ρ.set i none) σ v := fun j t q1 w1 q2 => by
  have hj : j ≠ i := by
    rintro rfl
    exact set_none q1
  rw [List.getElem?_set_ne (Ne.symm hj)] at q1
  exact hj (r.ap j i t s q1 q w1 w (q2.trans e.symm))
theorem Rel.store (r : Rel K H0 F0 F H ρ σ) (h : SRep K H0 F H s v) (fr : s.own = true → Fr ρ σ v) (i : Nat) : Rel K H0 F0 F H (ρ.set i (some s)) (σ.set i (some v)) := by
  have get : ∀ (j : Nat) t, (ρ.set i (some s))[j]? = some (some t) → (j = i ∧ t = s ∧ (σ.set i (some v))[j]? = some (some v)) ∨ (j ≠ i ∧ ρ[j]? = some (some t) ∧ (σ.set i (some v))[j]? = σ[j]?) := fun j t q => by
    by_cases hj : j = i
    · subst hj
      have hl : j < ρ.length := by
        have := (List.getElem?_eq_some_iff.mp q).1
        simpa using this
      rw [List.getElem?_set_self hl] at q
      cases q
      exact .inl ⟨rfl, rfl, List.getElem?_set_self (by rw [← r.len]; exact hl)⟩
    · rw [List.getElem?_set_ne (Ne.symm hj)] at q
      exact .inr ⟨hj, q, List.getElem?_set_ne (Ne.symm hj)⟩
  refine ⟨r.h, r.f, r.fh, r.nw, by simp [r.len], fun j t q => ?_, fun j k t u q1 q2 w1 w2 e => ?_⟩
  · rcases get j t q with ⟨rfl, rfl, z⟩ | ⟨hj, q', z⟩
    · exact ⟨v, z, h⟩
    · obtain ⟨x, z1, z2⟩ := r.at_ j t q'
      exact ⟨x, z.trans z1, z2⟩
  · rcases get j t q1 with ⟨rfl, rfl, z⟩ | ⟨hj, q', z⟩
    · rcases get k u q2 with ⟨rfl, rfl, z'⟩ | ⟨hk, q'', z'⟩
      · rfl
      · rw [z, z'] at e
        exact absurd e.symm (fr w1 k u q'' w2)
    · rcases get k u q2 with ⟨rfl, rfl, z'⟩ | ⟨hk, q'', z'⟩
      · rw [z, z'] at e
        exact absurd e (fr w2 j t q' w1)
      · rw [z, z'] at e
        exact r.ap j k t u q' q'' w1 w2 e
theorem Rel.write (r : Rel K H0 F0 F H ρ σ) (q : ρ[i]? = some (some s)) (w : s.own = true) (e : σ[i]? = some (some (.ref a))) {u : HO} {s' : S}
    (h' : SRep K H0 F (upd H a u) s' (.ref a)) (w' : s'.own = true) : Rel K H0 F0 F (upd H a u) (ρ.set i (some s')) σ := by
  obtain ⟨v0, e0, sr⟩ := r.at_ i s q
  rw [e] at e0; cases e0
  obtain ⟨b, u0, e1, hb, n0, n1⟩ := sr.addr w
  cases e1
  have hl : i < ρ.length := (List.getElem?_eq_some_iff.mp q).1
  have get : ∀ (j : Nat) t, (ρ.set i (some s'))[j]? = some (some t) → (j = i ∧ t = s') ∨ (j ≠ i ∧ ρ[j]? = some (some t)) := fun j t q => by
    by_cases hj : j = i
    · subst hj
      rw [List.getElem?_set_self hl] at q
      cases q
      exact .inl ⟨rfl, rfl⟩
    · rw [List.getElem?_set_ne (Ne.symm hj)] at q
      exact .inr ⟨hj, q⟩
  refine ⟨fun c o z => ?_, r.f, fun c o z => ?_, r.nw, by simp [r.len], fun j t q1 => ?_, fun j k t u q1 q2 w1 w2 z => ?_⟩
  · rw [upd_ne (ne_of_none z n0)]; exact r.h _ _ z
  · rw [upd_ne (ne_of_none z n1)]; exact r.fh _ _ z
  · rcases get j t q1 with ⟨rfl, rfl⟩ | ⟨hj, q'⟩
    · exact ⟨_, e, h'⟩
    · obtain ⟨x, z1, z2⟩ := r.at_ j t q'
      refine ⟨x, z1, ?_⟩
      have ne : t.own = true → x ≠ .ref a := fun wt z => hj (r.ap j i t s q' q wt w (by rw [z1, e, z]))
      cases t with
      | d x => exact z2
      | ol xs =>
        obtain ⟨c, vs, e1, h1, rr⟩ := z2
        have : c ≠ a := by rintro rfl; exact ne rfl e1
        exact ⟨c, vs, e1, by rw [upd_ne this]; exact h1, rr⟩
      | od kvs =>
        obtain ⟨c, vs, e1, h1, rr⟩ := z2
        have : c ≠ a := by rintro rfl; exact ne rfl e1
        exact ⟨c, vs, e1, by rw [upd_ne this]; exact h1, rr⟩
      | oi N kvs =>
        obtain ⟨c, C, dx, vs, e1, g, h1, rr⟩ := z2
        have : c ≠ a := by rintro rfl; exact ne rfl e1
        exact ⟨c, C, dx, vs, e1, g, by rw [upd_ne this]; exact h1, rr⟩
      | os b N kvs =>
        obtain ⟨e0, c, C, dx, vs, e1, g, h1, rr⟩ := z2
        have : c ≠ a := by rintro rfl; exact ne rfl e1
        exact ⟨e0, c, C, dx, vs, e1, g, by rw [upd_ne this]; exact h1, rr⟩
  · rcases get j t q1 with ⟨rfl, rfl⟩ | ⟨hj, q'⟩
    · rcases get k u q2 with ⟨rfl, rfl⟩ | ⟨hk, q''⟩
      · rfl
      · exact r.ap j k s u q q'' w w2 z
    · rcases get k u q2 with ⟨rfl, rfl⟩ | ⟨hk, q''⟩
      · exact r.ap j k t s q' q w1 w z
      · exact r.ap j k t u q' q'' w1 w2 z
end
end DL
namespace DL
open PySem L2
abbrev PX := Str → List (Str × D) → Prop
structure Zx where
  E : XK
  P : PX
abbrev Z0 : Zx := ⟨E0, fun _ _ => False⟩
def XRep (K : PySem.W.Frag) (F H : Hp) (fs : List (Str × D)) (d : Option Addr) : Prop :=
  (fs = [] ∧ d = none) ∨ ∃ a vs, d = some a ∧ H a = some (.xd ((fs.map (·.1)).zip vs)) ∧ Reps K F (fs.map (·.2)) vs
def Zx.Ok (Z : Zx) (K : PySem.W.Frag) (H0 F0 : Hp) : Prop := ∀ N C fs d F' H', Z.P N fs → PySem.W.nsIn K mainGlobals N = some (some (.ref C)) → Same H0 H' → Same F0 F' → Same F' H' → (∀ a, F' a ≠ none → F0 a ≠ none ∨ H0 a = none) → XRep K F' H' fs d → Z.E (.ref C) d H'
theorem Z0.ok {K : PySem.W.Frag} {H0 F0 : Hp} : Z0.Ok K H0 F0 := fun _ _ _ _ _ _ h => h.elim
abbrev W := R → (S → R → Prop) → Prop
abbrev WT := R → (Bool → R → Prop) → Prop
abbrev WA := R → (List D → R → Prop) → Prop
def RunE (K : PySem.W.Frag) (Z : Zx) (t : TE) (w : W) : Prop := ∀ {H0 F0 F H : Hp} {ρ : R} {σ : St} {Q : VK} {P : S → R → Prop}, Z.Ok K H0 F0 → Rel K H0 F0 F H ρ σ → w ρ P →
    (∀ s ρ' F' H' v, P s ρ' → Same F F' → Rel K H0 F0 F' H' ρ' σ → SRep K H0 F' H' s v → (s.own = true → Fr ρ' σ v) → Q v H') → t σ H Q
def RunT (K : PySem.W.Frag) (Z : Zx) (t : TT) (w : WT) : Prop := ∀ {H0 F0 F H : Hp} {ρ : R} {σ : St} {Q : Bool → Hp → Prop} {P : Bool → R → Prop}, Z.Ok K H0 F0 → Rel K H0 F0 F H ρ σ → w ρ P →
    (∀ b ρ' F' H', P b ρ' → Same F F' → Rel K H0 F0 F' H' ρ' σ → Q b H') → t σ H Q
def RunA (K : PySem.W.Frag) (Z : Zx) (t : TA) (w : WA) : Prop := ∀ {H0 F0 F H : Hp} {ρ : R} {σ : St} {Q : List V → Hp → Prop} {P : List D → R → Prop}, Z.Ok K H0 F0 → Rel K H0 F0 F H ρ σ → w ρ P →
    (∀ ds ρ' F' H' vs, P ds ρ' → Same F F' → Rel K H0 F0 F' H' ρ' σ → Reps K F' ds vs → Q vs H') → t σ H Q
structure DE (K : PySem.W.Frag) (X : Cx) (Z : Zx) (e : Expr) (t : TE) (w : W) : Prop where
  pe : PE X e t
  run : RunE K Z t w
structure DT (K : PySem.W.Frag) (X : Cx) (Z : Zx) (e : Expr) (t : TT) (w : WT) : Prop where
  pe : PT X e t
  run : RunT K Z t w
structure DW (K : PySem.W.Frag) (X : Cx) (Z : Zx) (e : Expr) (t : TT) (w : WT) : Prop where
  pe : PW X e t
  run : RunT K Z t w
structure DA (K : PySem.W.Frag) (X : Cx) (Z : Zx) (es : List Expr) (t : TA) (w : WA) : Prop where
  pe : PA X es t
  run : RunA K Z t w
def Kont (K : PySem.W.Frag) (H F : Hp) (P : S → Prop) (Q : VK) : Prop :=
  ∀ s v F' H', P s → Same H H' → Same F F' → Same F' H' → (∀ a, F' a ≠ none → F a ≠ none ∨ H a = none) → SRep K H F' H' s v → Q v H'
section
variable {K : PySem.W.Frag} {H F : Hp} {P : S → Prop} {Q : VK} {ds : List D} {vs : List V} {d : D} {v : V} {p : Addr}
theorem Kont.flat (k : Kont K H F P Q) (fh : Same F H) (h : P (.d d)) (r : Rep K F d v) : Q v H :=
  k (.d d) v F H h (Same.refl _) (Same.refl _) fh (fun _ q => .inl q) r
theorem Kont.newL (k : Kont K H F P Q) (fh : Same F H) (h : P (.ol ds)) (r : Reps K F ds vs) (n : H p = none) : Q (.ref p) (upd H p (.lst vs)) :=
  k (.ol ds) _ F _ h (Same.new n) (Same.refl _) (fh.trans (Same.new n)) (fun _ q => .inl q) ⟨p, vs, rfl, upd_same, r, n, fh.free n⟩
theorem Kont.newD {kvs : List (Key × D)} {kvs' : List (Key × V)} (k : Kont K H F P Q) (fh : Same F H) (h : P (.od kvs)) (hk : kvs'.map (·.1) = kvs.map (·.1)) (r : Reps K F (kvs.map (·.2)) (kvs'.map (·.2))) (n : H p = none) : Q (.ref p) (upd H p (.dK kvs')) :=
  k (.od kvs) _ F _ h (Same.new n) (Same.refl _) (fh.trans (Same.new n)) (fun _ q => .inl q) ⟨p, kvs', rfl, upd_same, hk, r, n, fh.free n⟩
theorem upd_both {u : HO} (fh : Same F H) (n : H p = none) : Same (upd F p u) (upd H p u) := fun b o q => by
  by_cases hb : b = p
  · subst hb; rw [upd_same] at q ⊢; exact q
  · rw [upd_ne hb] at q ⊢; exact fh _ _ q
theorem nw_upd {u : HO} (n : H p = none) : ∀ a, upd F p u a ≠ none → F a ≠ none ∨ H a = none := fun a q => by
  by_cases ha : a = p
  · subst ha; exact .inr n
  · rw [upd_ne ha] at q; exact .inl q
theorem Kont.newT (k : Kont K H F P Q) (fh : Same F H) (h : P (.d (.tup ds))) (r : Reps K F ds vs) (n : H p = none) : Q (.ref p) (upd H p (.tup vs)) :=
  k (.d (.tup ds)) _ (upd F p (.tup vs)) _ h (Same.new n) (Same.new (fh.free n)) (upd_both fh n) (nw_upd n)
    ⟨p, vs, rfl, SqT.of upd_same, Reps.mono (Same.new (fh.free n)) _ _ r⟩
end
section
variable {K : PySem.W.Frag} {H0 F0 F F' H H' : Hp} {ρ : R} {σ : St} {s : S} {v : V}
theorem Rel.after (r : Rel K H0 F0 F H ρ σ) (hh : Same H H') (ff : Same F F') (fh : Same F' H') (nw : ∀ a, F' a ≠ none → F a ≠ none ∨ H a = none) : Rel K H0 F0 F' H' ρ σ := by
  refine (r.grow hh).more ff fh (fun a q => ?_) fun j t a q w z => ?_
  · rcases nw a q with z | z
    · exact .inl z
    · exact .inr (r.h.free z)
  · obtain ⟨v, q1, q2⟩ := r.at_ j t q
    obtain ⟨c, o, e1, h1, _, n2⟩ := q2.addr w
    rw [z] at q1; cases q1; cases e1
    cases q3 : F' a with
    | none => rfl
    | some u =>
      rcases nw a (by rw [q3]; exact fun z => nomatch z) with y | y
      · exact absurd n2 y
      · rw [y] at h1; cases h1
theorem SRep.after (r : Rel K H0 F0 F H ρ σ) (h : SRep K H F' H' s v) : SRep K H0 F' H' s v ∧ (s.own = true → Fr ρ σ v) := by
  constructor
  · cases s with
    | d x => exact h
    | ol xs => obtain ⟨a, vs, e1, h1, h2, n0, n1⟩ := h; exact ⟨a, vs, e1, h1, h2, r.h.free n0, n1⟩
    | od kvs => obtain ⟨a, vs, e1, h1, hk, h2, n0, n1⟩ := h; exact ⟨a, vs, e1, h1, hk, h2, r.h.free n0, n1⟩
    | oi N kvs => obtain ⟨a, C, dx, vs, e1, g, h1, hk, h2, n0, n1⟩ := h; exact ⟨a, C, dx, vs, e1, g, h1, hk, h2, r.h.free n0, n1⟩
    | os b N kvs => obtain ⟨e0, a, C, dx, vs, e1, g, h1, hk, h2, n0, n1⟩ := h; exact ⟨e0, a, C, dx, vs, e1, g, h1, hk, h2, r.h.free n0, n1⟩
  · intro w j t q1 w1 q2
    obtain ⟨a, u, e1, h1, n0, n1⟩ := h.addr w
    subst e1
    obtain ⟨v, z1, z2⟩ := r.at_ j t q1
    obtain ⟨c, o, e2, h2, _, _⟩ := z2.addr w1
    rw [q2] at z1; cases z1; cases e2
    rw [n0] at h2; cases h2
end
theorem Rel.kont {K : PySem.W.Frag} {H0 F0 F1 F H : Hp} {ρ : R} {σ : St} {P : S → R → Prop} {Q : VK} (r : Rel K H0 F0 F H ρ σ) (f : Same F1 F)
    (k : ∀ s ρ' F' H' v, P s ρ' → Same F1 F' → Rel K H0 F0 F' H' ρ' σ → SRep K H0 F' H' s v → (s.own = true → Fr ρ' σ v) → Q v H') : Kont K H F (fun s => P s ρ) Q :=
  fun s v F' H' p hh ff fh nw sr => k s ρ F' H' v p (f.trans ff) (r.after hh ff fh nw) (SRep.after r sr).1 (SRep.after r sr).2
def nth : R → Nat → Option S
  | [], _ => none
  | x :: _, 0 => x
  | _ :: r, n + 1 => nth r n
def put : R → Nat → Option S → R
  | [], _, _ => []
  | _ :: r, 0, y => y :: r
  | x :: r, n + 1, y => x :: put r n y
theorem nth_eq : ∀ (ρ : R) (i : Nat), nth ρ i = (ρ[i]?).join
  | [], i => by simp [nth]
  | x :: r, 0 => by simp [nth]
  | x :: r, n + 1 => by rw [nth, nth_eq r n]; simp
theorem put_eq : ∀ (ρ : R) (i : Nat) (y : Option S), put ρ i y = ρ.set i y
  | [], _, _ => rfl
  | x :: r, 0, _ => rfl
  | x :: r, n + 1, y => by rw [put, put_eq r n]; rfl
theorem nth_some {ρ : R} {i : Nat} {s : S} (h : nth ρ i = some s) : ρ[i]? = some (some s) := by
  rw [nth_eq] at h
  cases e : ρ[i]? with
  | none => rw [e] at h; cases h
  | some o =>
    rw [e] at h
    cases o with
    | none => cases h
    | some t => cases h; rfl
section
variable {K : PySem.W.Frag} {X : Cx} {Z : Zx} {pos : Pos}
def wVar (i : Nat) : W := fun ρ P => match nth ρ i with
  | some (.d x) => P (.d x) ρ
  | some s => P (.d s.fz) (put ρ i (some (.d s.fz)))
  | none => False
theorem Rel.own_slot {K : PySem.W.Frag} {H0 F0 F H : Hp} {ρ : R} {σ : St} {i : Nat} {s : S} (r : Rel K H0 F0 F H ρ σ) (q : ρ[i]? = some (some s)) (w : s.own = true) :
    ∃ v F', σ[i]? = some (some v) ∧ Same F F' ∧ Rel K H0 F0 F' H (ρ.set i (some (.d s.fz))) σ ∧ Rep K F' s.fz v := by
  obtain ⟨v, e, sr⟩ := r.at_ i s q
  obtain ⟨F', ff, r', rp⟩ := (r.drop1 i).freeze sr fun _ => r.moved q w e
  refine ⟨v, F', e, ff, ?_, rp⟩
  have hl : i < σ.length := (List.getElem?_eq_some_iff.mp e).1
  have z := r'.store (s := .d s.fz) (v := v) rp (fun w => nomatch w) i
  rw [List.set_set] at z
  have e2 : σ.set i (some v) = σ := by
    apply List.ext_getElem?
    intro j
    by_cases hj : j = i
    · subst hj; rw [List.getElem?_set_self hl, e]
    · rw [List.getElem?_set_ne (Ne.symm hj)]
  rwa [e2] at z
theorem run_var {i : Nat} : RunE K Z (tVar i) (wVar i) := fun {H0 F0 F H ρ σ Q P} zo r h k => by
  unfold wVar at h
  split at h
  · rename_i x e
    obtain ⟨v, e1, sr⟩ := r.at_ i _ (nth_some e)
    exact ⟨v, e1, k _ _ F H v h (Same.refl _) r sr fun w => nomatch w⟩
  · rename_i s hs e
    have w : s.own = true := by
      cases s with
      | d x => exact absurd rfl (hs x)
      | ol _ => rfl
      | od _ => rfl
      | oi _ _ => rfl
      | os _ _ _ => rfl
    rw [put_eq] at h
    obtain ⟨v, F', e1, ff, r', rp⟩ := r.own_slot (nth_some e) w
    exact ⟨v, e1, k _ _ F' H v h ff r' rp fun w => nomatch w⟩
  · exact h.elim
theorem de_var (i : Nat) {x : Str} (hN : X.N[i]? = some x := by rfl) (hv : Vis X.env.scope x := by first | exact Or.inl rfl | exact Or.inr (Or.inl rfl) | exact Or.inr (Or.inr rfl)) (hd : (x == ("__debug__" : Str)) = false := by decide)
    (hcd : (x == ("__classdict__" : Str)) = false := by decide) : DE K X Z (.Name x pos) (tVar i) (wVar i) := ⟨pe_var hN hv hd hcd, run_var⟩
def wMove (i : Nat) : W := fun ρ P => match nth ρ i with
  | some s => P s (put ρ i none)
  | none => False
theorem run_move {i : Nat} : RunE K Z (tVar i) (wMove i) := fun {H0 F0 F H ρ σ Q P} zo r h k => by
  unfold wMove at h
  split at h
  · rename_i s e
    rw [put_eq] at h
    obtain ⟨v, e1, sr⟩ := r.at_ i _ (nth_some e)
    exact ⟨v, e1, k _ _ F H v h (Same.refl _) (r.drop1 i) sr fun w => r.moved (nth_some e) w e1⟩
  · exact h.elim
theorem de_move (i : Nat) {x : Str} (hN : X.N[i]? = some x := by rfl) (hv : Vis X.env.scope x := by first | exact Or.inl rfl | exact Or.inr (Or.inl rfl) | exact Or.inr (Or.inr rfl)) (hd : (x == ("__debug__" : Str)) = false := by decide)
    (hcd : (x == ("__classdict__" : Str)) = false := by decide) : DE K X Z (.Name x pos) (tVar i) (wMove i) := ⟨pe_var hN hv hd hcd, run_move⟩
def wC (d : D) : W := fun ρ P => P (.d d) ρ
theorem de_c {e : Expr} {v : V} {d : D} (h : PE X e (tC v)) (r : ∀ F, Rep K F d v) : DE K X Z e (tC v) (wC d) :=
  ⟨h, fun {H0 F0 F H ρ σ Q P} zo r' h k => k _ _ F H v h (Same.refl _) r' (r F) fun w => nomatch w⟩
theorem de_int {i j pos} : DE K X Z (.Constant (.int i) j pos) (tC (.int i)) (wC (.int i)) := de_c pe_int fun _ => rfl
theorem de_bl {b j pos} : DE K X Z (.Constant (.bool b) j pos) (tC (.bl b)) (wC (.bl b)) := de_c pe_bl fun _ => rfl
theorem de_str {x j pos} : DE K X Z (.Constant (.str x) j pos) (tC (.str x)) (wC (.str x)) := de_c pe_str fun _ => rfl
theorem de_glob {x : Str} {v : V} {u : Value} {d : D} (hg : Gl X x) (hm : X.mg x = some u) (rv : RelV v u) (r : ∀ F, Rep K F d v) (hd : (x == ("__debug__" : Str)) = false := by decide) : DE K X Z (.Name x pos) (tC v) (wC d) :=
  de_c (pe_glob hg hm rv hd) r
abbrev O2 := D → D → (S → Prop) → Prop
structure Snd2 (K : PySem.W.Frag) (r : R2) (o : O2) : Prop where
  run : ∀ {F H : Hp} {x y : D} {vx vy : V} {P : S → Prop} {Q : VK}, Same F H → Rep K F x vx → Rep K F y vy → o x y P → Kont K H F P Q → r vx vy H Q
def wOp (o : O2) (wa wb : W) : W := fun ρ P => wa ρ fun x ρ1 => wb ρ1 fun y ρ2 => o x.fz y.fz fun s => P s ρ2
theorem two_run {ta tb : TE} {wa wb : W} {r : R2} {o : O2} (ha : RunE K Z ta wa) (hb : RunE K Z tb wb) (ho : Snd2 K r o) : RunE K Z (tOp r ta tb) (wOp o wa wb) := fun zo rl h k => by
  refine ha zo rl h fun s1 ρ1 F1 H1 v1 h1 f1 r1 sr1 fr1 => ?_
  obtain ⟨F2, f2, r2, rp2⟩ := r1.freeze sr1 fr1
  refine hb zo r2 h1 fun s3 ρ3 F3 H3 v3 h3 f3 r3 sr3 fr3 => ?_
  obtain ⟨F4, f4, r4, rp4⟩ := r3.freeze sr3 fr3
  exact ho.run r4.fh (Rep.mono (f3.trans f4) _ _ rp2) rp4 h3 (r4.kont (f1.trans (f2.trans (f3.trans f4))) k)
section
variable {a b : Expr} {r : R2} {o : O2} {ta tb : TE} {wa wb : W}
theorem de_op {op : Operator} (hr : OpR X (binaryOp op) r) (ho : Snd2 K r o) (ha : DE K X Z a ta wa) (hb : DE K X Z b tb wb) : DE K X Z (.BinOp a op b pos) (tOp r ta tb) (wOp o wa wb) := ⟨pe_op hr ha.pe hb.pe, two_run ha.run hb.run ho⟩
theorem de_cmp {op : CmpOp} (hr : OpR X (compareOp op) r) (ho : Snd2 K r o) (hm : behindInMarks op b = false) (ha : DE K X Z a ta wa) (hb : DE K X Z b tb wb) : DE K X Z (.Compare a [op] [b] pos) (tOp r ta tb) (wOp o wa wb) := ⟨pe_cmpR hr ha.pe hb.pe hm, two_run ha.run hb.run ho⟩
theorem de_ix (hr : IxR X r) (ho : Snd2 K r o) (hs : PlainIx b) (ha : DE K X Z a ta wa) (hb : DE K X Z b tb wb) : DE K X Z (.Subscript a b pos) (tOp r ta tb) (wOp o wa wb) := ⟨pe_ix hr ha.pe hb.pe hs, two_run ha.run hb.run ho⟩
end
abbrev O1 := D → (S → Prop) → Prop
structure Snd1 (K : PySem.W.Frag) (r : V → Hp → VK → Prop) (o : O1) : Prop where
  run : ∀ {F H : Hp} {x : D} {vx : V} {P : S → Prop} {Q : VK}, Same F H → Rep K F x vx → o x P → Kont K H F P Q → r vx H Q
def wUn (o : O1) (wa : W) : W := fun ρ P => wa ρ fun x ρ1 => o x.fz fun s => P s ρ1
def wNil : WA := fun ρ P => P [] ρ
def wCons (we : W) (wr : WA) : WA := fun ρ P => we ρ fun x ρ1 => wr ρ1 fun xs ρ2 => P (x.fz :: xs) ρ2
theorem da_nil : DA K X Z [] tNil wNil := ⟨pa_nil, fun {H0 F0 F H ρ σ Q P} zo rl h k => k [] ρ F H [] h (Same.refl _) rl rfl⟩
theorem da_cons {e : Expr} {es : List Expr} {te : TE} {tr : TA} {we : W} {wr : WA} (he : DE K X Z e te we) (hr : DA K X Z es tr wr) (hs : starEach (e :: es) X.env = (false, eval e X.env) :: starEach es X.env := by rfl) : DA K X Z (e :: es) (tCons te tr) (wCons we wr) := by
  refine ⟨pa_cons he.pe hr.pe hs, fun zo rl h k => he.run zo rl h fun s1 ρ1 F1 H1 v1 h1 f1 r1 sr1 fr1 => ?_⟩
  obtain ⟨F2, f2, r2, rp2⟩ := r1.freeze sr1 fr1
  refine hr.run zo r2 h1 fun ds ρ3 F3 H3 vs h3 f3 r3 rps => ?_
  exact k _ ρ3 F3 H3 _ h3 (f1.trans (f2.trans f3)) r3 ⟨_, _, rfl, Rep.mono f3 _ _ rp2, rps⟩
abbrev OL := List D → (S → Prop) → Prop
structure SndL (K : PySem.W.Frag) (r : List V → Hp → VK → Prop) (o : OL) : Prop where
  run : ∀ {F H : Hp} {ds : List D} {vs : List V} {P : S → Prop} {Q : VK}, Same F H → Reps K F ds vs → o ds P → Kont K H F P Q → r vs H Q
def wCB (o : OL) (wa : WA) : W := fun ρ P => wa ρ fun ds ρ1 => o ds fun s => P s ρ1
theorem cb_run {t : TA} {wa : WA} {r : List V → Hp → VK → Prop} {o : OL} (ha : RunA K Z t wa) (ho : SndL K r o) : RunE K Z (tCB r t) (wCB o wa) := fun zo rl h k =>
  ha zo rl h fun _ _ _ _ _ h1 f1 r1 rps => ho.run r1.fh rps h1 (r1.kont f1 k)
section
variable {e : Expr} {es : List Expr} {x : Str} {p : Pos} {id T : String} {r : List V → Hp → VK → Prop} {o : OL} {ta : TA} {wa : WA}
theorem de_callB (hc : CallR X (.builtin id) r) (ho : SndL K r o) (hg : Gl X x) (hm : X.mg x = none) (hv : bootBuiltins x = some (.builtin id))
    (ha : DA K X Z (e :: es) ta wa) (hn : x ≠ "__name__" := by decide) (hdb : (x == ("__debug__" : Str)) = false := by decide) (he : starEach (e :: es) X.env = (false, eval e X.env) :: starEach es X.env := by rfl) (hpl : (backTo pos (starEach es X.env)).any (·.1) = false := by rfl) :
    DE K X Z (.Call (.Name x p) (e :: es) [] pos) (tCB r ta) (wCB o wa) := ⟨pe_callB hc hg hm hv ha.pe (hn := hn) (hdb := hdb) (he := he) (hpl := hpl), cb_run ha.run ho⟩
theorem de_callTy (hc : CallR X (.type T) r) (ho : SndL K r o) (hg : Gl X x) (hm : X.mg x = none) (hv : bootBuiltins x = some (.type T))
    (ha : DA K X Z (e :: es) ta wa) (hn : x ≠ "__name__" := by decide) (hdb : (x == ("__debug__" : Str)) = false := by decide) (he : starEach (e :: es) X.env = (false, eval e X.env) :: starEach es X.env := by rfl) (hpl : (backTo pos (starEach es X.env)).any (·.1) = false := by rfl) :
    DE K X Z (.Call (.Name x p) (e :: es) [] pos) (tCB r ta) (wCB o wa) := ⟨pe_callTy hc hg hm hv ha.pe (hn := hn) (hdb := hdb) (he := he) (hpl := hpl), cb_run ha.run ho⟩
end
def wTup (wa : WA) : W := fun ρ P => wa ρ fun ds ρ1 => ds.length ≤ sizeLine ∧ P (.d (.tup ds)) ρ1
def wLst (wa : WA) : W := fun ρ P => wa ρ fun ds ρ1 => ds.length ≤ sizeLine ∧ P (.ol ds) ρ1
theorem de_tup {es : List Expr} {x1} {ta : TA} {wa : WA} (ha : DA K X Z es ta wa) : DE K X Z (.Tuple es x1 pos) (tTup ta) (wTup wa) := by
  refine ⟨pe_tup ha.pe, fun zo rl h k => ha.run zo rl h fun ds ρ1 F1 H1 vs h1 f1 r1 rps => ?_⟩
  exact ⟨by rw [rps.len]; exact h1.1, fun p n => (r1.kont f1 k).newT r1.fh h1.2 rps n⟩
theorem de_lst {es : List Expr} {ta : TA} {wa : WA} (ha : DA K X Z es ta wa) : DE K X Z (.List es pos) (tLst ta) (wLst wa) := by
  refine ⟨pe_lst ha.pe, fun zo rl h k => ha.run zo rl h fun ds ρ1 F1 H1 vs h1 f1 r1 rps => ?_⟩
  exact ⟨by rw [rps.len]; exact h1.1, fun p n => (r1.kont f1 k).newL r1.fh h1.2 rps n⟩
def asB : D → (Bool → Prop) → Prop
  | .bl b, P => P b
  | _, _ => False
theorem asB_of {K : PySem.W.Frag} {F : Hp} {d : D} {v : V} {P : Bool → Prop} (h : asB d P) (r : Rep K F d v) : ∃ b, v = .bl b ∧ d = .bl b ∧ P b := by
  cases d <;> first | exact h.elim | exact ⟨_, r, rfl, h⟩
def wB (we : W) : WT := fun ρ P => we ρ fun s ρ' => asB s.fz fun b => P b ρ'
theorem run_B {t : TE} {w : W} (h : RunE K Z t w) : RunT K Z (tB t) (wB w) := fun zo rl q k => h zo rl q fun s1 ρ1 F1 H1 v1 h1 f1 r1 sr1 fr1 => by
  obtain ⟨F2, f2, r2, rp2⟩ := r1.freeze sr1 fr1
  obtain ⟨b, e, _, p⟩ := asB_of h1 rp2
  exact ⟨b, e, k _ _ _ _ p (f1.trans f2) r2⟩
theorem dt_val {e : Expr} {t : TE} {w : W} (h : DE K X Z e t w) (he : ∀ whole, isTrue e X.env whole = (do let v ← whole; standAt e.pos; holding [v] (truthy v)) := by intro _; rfl) : DT K X Z e (tB t) (wB w) := ⟨pt_val h.pe he, run_B h.run⟩
theorem dt_cmp {op : CmpOp} {a b : Expr} {r : R2} {o : O2} {ta tb : TE} {wa wb : W} (hr : OpR X (compareOp op) r) (ho : Snd2 K r o) (hm : behindInMarks op b = false) (ha : DE K X Z a ta wa) (hb : DE K X Z b tb wb) : DT K X Z (.Compare a [op] [b] pos) (tTest (tOp r ta tb)) (wB (wOp o wa wb)) :=
  ⟨pt_cmpR hr ha.pe hb.pe hm, run_B (two_run ha.run hb.run ho)⟩
def wAnd (a b : WT) : WT := fun ρ P => a ρ fun c ρ1 => if c = true then b ρ1 P else P false ρ1
def wOr (a b : WT) : WT := fun ρ P => a ρ fun c ρ1 => if c = true then P true ρ1 else b ρ1 P
def wNot (a : WT) : WT := fun ρ P => a ρ fun c ρ1 => P (!c) ρ1
section
variable {a b : Expr} {rest : List Expr} {ta tb : TT} {wa wb : WT}
theorem DW.dt {e : Expr} {t : TT} {w : WT} (h : DW K X Z e t w) : DT K X Z e t w := ⟨h.pe.pt, h.run⟩
theorem dw_and1 (h : DT K X Z a ta wa) : DW K X Z (.BoolOp .And [a] pos) ta wa := ⟨pw_and1 h.pe, h.run⟩
theorem dw_or1 (h : DT K X Z a ta wa) : DW K X Z (.BoolOp .Or [a] pos) ta wa := ⟨pw_or1 h.pe, h.run⟩
theorem dw_and (h : DT K X Z a ta wa) (g : DW K X Z (.BoolOp .And (b :: rest) pos) tb wb) : DW K X Z (.BoolOp .And (a :: b :: rest) pos) (tAnd ta tb) (wAnd wa wb) :=
  ⟨pw_and h.pe g.pe, fun zo rl q k => h.run zo rl q fun c ρ1 F1 H1 p f1 r1 => by
    cases c with
    | true => exact g.run zo r1 p fun b ρ2 F2 H2 p2 f2 r2 => k _ _ _ _ p2 (f1.trans f2) r2
    | false => exact k _ _ _ _ p f1 r1⟩
theorem dw_or (h : DT K X Z a ta wa) (g : DW K X Z (.BoolOp .Or (b :: rest) pos) tb wb) : DW K X Z (.BoolOp .Or (a :: b :: rest) pos) (tOr ta tb) (wOr wa wb) :=
  ⟨pw_or h.pe g.pe, fun zo rl q k => h.run zo rl q fun c ρ1 F1 H1 p f1 r1 => by
    cases c with
    | true => exact k _ _ _ _ p f1 r1
    | false => exact g.run zo r1 p fun b ρ2 F2 H2 p2 f2 r2 => k _ _ _ _ p2 (f1.trans f2) r2⟩
theorem dt_not (h : DT K X Z a ta wa) : DT K X Z (.UnaryOp .Not a pos) (tNot ta) (wNot wa) := ⟨pt_not h.pe, fun zo rl q k => h.run zo rl q fun c ρ1 F1 H1 p f1 r1 => k _ _ _ _ p f1 r1⟩
end
def wAndV (a b : W) : W := fun ρ P => a ρ fun s ρ1 => asB s.fz fun c => if c = true then b ρ1 P else P (.d (.bl false)) ρ1
def wOrV (a b : W) : W := fun ρ P => a ρ fun s ρ1 => asB s.fz fun c => if c = true then P (.d (.bl true)) ρ1 else b ρ1 P
def wNotV (a : W) : W := fun ρ P => a ρ fun s ρ1 => asB s.fz fun c => P (.d (.bl (!c))) ρ1
def wIf (c : WT) (a b : W) : W := fun ρ P => c ρ fun k ρ1 => if k = true then a ρ1 P else b ρ1 P
section
variable {a b c : Expr} {rest : List Expr} {ta tb : TE} {wa wb : W} {tc : TT} {wc : WT}
theorem de_one {op} (h : DE K X Z a ta wa) : DE K X Z (.BoolOp op [a] pos) ta wa := ⟨pe_one h.pe, h.run⟩
theorem de_and (h : DE K X Z a ta wa) (g : DE K X Z (.BoolOp .And (b :: rest) pos) tb wb) : DE K X Z (.BoolOp .And (a :: b :: rest) pos) (tAndV ta tb) (wAndV wa wb) :=
  ⟨pe_and h.pe g.pe, fun zo rl q k => h.run zo rl q fun s1 ρ1 F1 H1 v1 h1 f1 r1 sr1 fr1 => by
    obtain ⟨F2, f2, r2, rp2⟩ := r1.freeze sr1 fr1
    obtain ⟨b, e, _, p⟩ := asB_of h1 rp2
    refine ⟨b, e, ?_⟩
    cases b with
    | true => exact g.run zo r2 p fun s ρ3 F3 H3 v3 p3 f3 r3 sr3 fr3 => k _ _ _ _ _ p3 (f1.trans (f2.trans f3)) r3 sr3 fr3
    | false => exact k _ _ _ _ _ p (f1.trans f2) r2 rfl fun w => nomatch w⟩
theorem de_or (h : DE K X Z a ta wa) (g : DE K X Z (.BoolOp .Or (b :: rest) pos) tb wb) : DE K X Z (.BoolOp .Or (a :: b :: rest) pos) (tOrV ta tb) (wOrV wa wb) :=
  ⟨pe_or h.pe g.pe, fun zo rl q k => h.run zo rl q fun s1 ρ1 F1 H1 v1 h1 f1 r1 sr1 fr1 => by
    obtain ⟨F2, f2, r2, rp2⟩ := r1.freeze sr1 fr1
    obtain ⟨b, e, _, p⟩ := asB_of h1 rp2
    refine ⟨b, e, ?_⟩
    cases b with
    | true => exact k _ _ _ _ _ p (f1.trans f2) r2 rfl fun w => nomatch w
    | false => exact g.run zo r2 p fun s ρ3 F3 H3 v3 p3 f3 r3 sr3 fr3 => k _ _ _ _ _ p3 (f1.trans (f2.trans f3)) r3 sr3 fr3⟩
theorem de_not (h : DE K X Z a ta wa) : DE K X Z (.UnaryOp .Not a pos) (tNotV ta) (wNotV wa) :=
  ⟨pe_not h.pe, fun zo rl q k => h.run zo rl q fun s1 ρ1 F1 H1 v1 h1 f1 r1 sr1 fr1 => by
    obtain ⟨F2, f2, r2, rp2⟩ := r1.freeze sr1 fr1
    obtain ⟨b, e, _, p⟩ := asB_of h1 rp2
    exact ⟨b, e, k _ _ _ _ _ p (f1.trans f2) r2 rfl fun w => nomatch w⟩⟩
theorem de_if (hc : DT K X Z c tc wc) (h : DE K X Z a ta wa) (g : DE K X Z b tb wb) : DE K X Z (.IfExp c a b pos) (tIf tc ta tb) (wIf wc wa wb) :=
  ⟨pe_ifExp hc.pe h.pe g.pe, fun zo rl q k => hc.run zo rl q fun c ρ1 F1 H1 p f1 r1 => by
    cases c with
    | true => exact h.run zo r1 p fun s ρ3 F3 H3 v3 p3 f3 r3 sr3 fr3 => k _ _ _ _ _ p3 (f1.trans f3) r3 sr3 fr3
    | false => exact g.run zo r1 p fun s ρ3 F3 H3 v3 p3 f3 r3 sr3 fr3 => k _ _ _ _ _ p3 (f1.trans f3) r3 sr3 fr3⟩
end
end
end DL
namespace DL
open PySem L2
structure DEnds where
  nx : R → Prop
  rt : S → Prop
  bk : R → Prop := fun _ => False
  ct : R → Prop := fun _ => False
abbrev WS := DEnds → R → Prop
structure EndsOk (K : PySem.W.Frag) (H0 F0 F : Hp) (DD : DEnds) (Dh : Ends) : Prop where
  nx : ∀ ρ' F' H' σ', DD.nx ρ' → Same F F' → Rel K H0 F0 F' H' ρ' σ' → Dh.nx σ' H'
  rt : ∀ s v F' H', DD.rt s → Same F F' → Same H0 H' → Same F0 F' → Same F' H' → (∀ a, F' a ≠ none → F0 a ≠ none ∨ H0 a = none) → SRep K H0 F' H' s v → Dh.rt v H'
  bk : ∀ ρ' F' H' σ', DD.bk ρ' → Same F F' → Rel K H0 F0 F' H' ρ' σ' → Dh.bk σ' H'
  ct : ∀ ρ' F' H' σ', DD.ct ρ' → Same F F' → Rel K H0 F0 F' H' ρ' σ' → Dh.ct σ' H'
theorem EndsOk.on {K : PySem.W.Frag} {H0 F0 F F1 : Hp} {DD : DEnds} {Dh : Ends} (e : EndsOk K H0 F0 F DD Dh) (f : Same F F1) : EndsOk K H0 F0 F1 DD Dh :=
  ⟨fun ρ' F' H' σ' h g => e.nx ρ' F' H' σ' h (f.trans g), fun s v F' H' h g => e.rt s v F' H' h (f.trans g), fun ρ' F' H' σ' h g => e.bk ρ' F' H' σ' h (f.trans g), fun ρ' F' H' σ' h g => e.ct ρ' F' H' σ' h (f.trans g)⟩
def RunS (K : PySem.W.Frag) (Z : Zx) (t : TS) (w : WS) : Prop := ∀ {H0 F0 F H : Hp} {ρ : R} {σ : St} {DD : DEnds} {Dh : Ends}, Z.Ok K H0 F0 → Rel K H0 F0 F H ρ σ → EndsOk K H0 F0 F DD Dh → w DD ρ → t Dh σ H
structure DS (K : PySem.W.Frag) (X : Cx) (Z : Zx) (s : Stmt) (t : TS) (w : WS) : Prop where
  pe : PS X s t
  run : RunS K Z t w
structure DSs (K : PySem.W.Frag) (X : Cx) (Z : Zx) (s : List Stmt) (t : TS) (w : WS) : Prop where
  pe : PSs X s t
  run : RunS K Z t w
section
variable {K : PySem.W.Frag} {X : Cx} {Z : Zx} {pos : Pos} {st : Stmt} {rest : List Stmt} {t u : TS} {w v : WS} {e : Expr} {te : TE} {we : W}
def wNext : WS := fun DD ρ => DD.nx ρ
def wSeq (w v : WS) : WS := fun DD ρ => w { DD with nx := v DD } ρ
theorem run_next : RunS K Z tNext wNext := fun {H0 F0 F H ρ σ DD Dh} zo rl ee h => ee.nx ρ F H σ h (Same.refl _) rl
theorem run_seq (h1 : RunS K Z t w) (h2 : RunS K Z u v) : RunS K Z (tSeq t u) (wSeq w v) := fun {H0 F0 F H ρ σ DD Dh} zo rl ee h =>
  h1 (DD := { DD with nx := v DD }) (Dh := { Dh with nx := u Dh }) zo rl ⟨fun ρ' F' H' σ' q f r => h2 zo r (ee.on f) q, ee.rt, ee.bk, ee.ct⟩ h
theorem dss_nil : DSs K X Z [] tNext wNext := ⟨pss_nil, run_next⟩
theorem dss_cons (h1 : DS K X Z st t w) (h2 : DSs K X Z rest u v) : DSs K X Z (st :: rest) (tSeq t u) (wSeq w v) := ⟨pss_cons h1.pe h2.pe, run_seq h1.run h2.run⟩
theorem dss_one (h1 : DS K X Z st t w) : DSs K X Z [st] t w := ⟨pss_one h1.pe, h1.run⟩
def wDrop (we : W) : WS := fun DD ρ => we ρ fun _ ρ' => DD.nx ρ'
theorem ds_expr (he : DE K X Z e te we) (hs : swapsWith e none pos.line X.env = pure false := by rfl) : DS K X Z (.Expr e pos) (tDrop te) (wDrop we) :=
  ⟨ps_expr he.pe hs, fun {H0 F0 F H ρ σ DD Dh} zo rl ee h => he.run zo rl h fun s ρ' F' H' v p f r _ _ => ee.nx ρ' F' H' σ p f r⟩
def wRet (we : W) : WS := fun DD ρ => we ρ fun s _ => DD.rt s
theorem ds_ret (he : DE K X Z e te we) : DS K X Z (.Return (some e) pos) (tRet te) (wRet we) :=
  ⟨ps_ret he.pe, fun {H0 F0 F H ρ σ DD Dh} zo rl ee h => he.run zo rl h fun s ρ' F' H' v p f r sr _ => ee.rt s v F' H' p f r.h r.f r.fh r.nw sr⟩
def wRetN : WS := fun DD _ => DD.rt (.d .non)
def wIfS (c : WT) (a b : WS) : WS := fun DD ρ => c ρ fun k ρ1 => if k = true then a DD ρ1 else b DD ρ1
theorem ds_if {c : Expr} {a b : List Stmt} {tc : TT} {wc : WT} (hc : DT K X Z c tc wc) (ha : DSs K X Z a t w) (hb : DSs K X Z b u v) : DS K X Z (.If c a b pos) (tIfS tc t u) (wIfS wc w v) :=
  ⟨ps_if hc.pe ha.pe hb.pe, fun {H0 F0 F H ρ σ DD Dh} zo rl ee h => hc.run zo rl h fun k ρ1 F1 H1 p f r => by
    cases k with
    | true => exact ha.run zo r (ee.on f) p
    | false => exact hb.run zo r (ee.on f) p⟩
def wSet (i : Nat) (we : W) : WS := fun DD ρ => we ρ fun s ρ1 => DD.nx (put ρ1 i (some s))
theorem run_set {i : Nat} (he : RunE K Z te we) : RunS K Z (tAsg te (gName i)) (wSet i we) := fun {H0 F0 F H ρ σ DD Dh} zo rl ee h =>
  he zo rl h fun s ρ' F' H' v p f r sr fr => by
    rw [put_eq] at p
    exact ee.nx _ F' H' _ p f (r.store sr fr i)
theorem ds_set (i : Nat) {x : Str} {py : Pos} (hN : X.N.Nodup) (he : DE K X Z e te we) (hi : X.N[i]? = some x := by rfl) (hx : Loc X.env.scope x := by first | exact Or.inl rfl | exact Or.inr rfl)
    (hf : X.fn x = true ∨ X.env.scope.names.lookup x = some .local := by first | exact .inl rfl | exact .inr rfl)
    (hs : swapsWithSole [.Name x py] e pos.line X.env = pure false := by rfl) (hw : swappedStores [.Name x py] e X.env = pure none := by rfl) (h1 : (assignEach [.Name x py] X.env).map (·.2) = [assign (.Name x py) X.env] := by rfl) :
    DS K X Z (.Assign [.Name x py] e pos) (tAsg te (gName i)) (wSet i we) := ⟨ps_asg he.pe (pg_name hN hi hx hf) hs hw h1, run_set he.run⟩
abbrev WG := D → R → (R → Prop) → Prop
abbrev WGs := List D → R → (R → Prop) → Prop
def RunG (K : PySem.W.Frag) (Z : Zx) (t : TG) (w : WG) : Prop := ∀ {H0 F0 F H : Hp} {ρ : R} {σ : St} {Q : St → Hp → Prop} {P : R → Prop} {d : D} {v : V}, Z.Ok K H0 F0 → Rel K H0 F0 F H ρ σ → Rep K F d v → w d ρ P →
    (∀ ρ' F' H' σ', P ρ' → Same F F' → Rel K H0 F0 F' H' ρ' σ' → Q σ' H') → t v σ H Q
def RunGs (K : PySem.W.Frag) (Z : Zx) (t : TGs) (w : WGs) : Prop := ∀ {H0 F0 F H : Hp} {ρ : R} {σ : St} {Q : St → Hp → Prop} {P : R → Prop} {ds : List D} {vs : List V}, Z.Ok K H0 F0 → Rel K H0 F0 F H ρ σ → Reps K F ds vs → w ds ρ P →
    (∀ ρ' F' H' σ', P ρ' → Same F F' → Rel K H0 F0 F' H' ρ' σ' → Q σ' H') → t vs σ H Q
structure DG (K : PySem.W.Frag) (X : Cx) (Z : Zx) (e : Expr) (t : TG) (w : WG) : Prop where
  pe : PG X e t
  run : RunG K Z t w
structure DGs (K : PySem.W.Frag) (X : Cx) (Z : Zx) (es : List Expr) (t : TGs) (w : WGs) : Prop where
  pe : PGs X es t
  run : RunGs K Z t w
def wgName (i : Nat) : WG := fun d ρ P => P (put ρ i (some (.d d)))
theorem dg_name (i : Nat) {x : Str} (hN : X.N.Nodup) (hi : X.N[i]? = some x := by rfl) (hx : Loc X.env.scope x := by first | exact Or.inl rfl | exact Or.inr rfl) (hf : X.fn x = true ∨ X.env.scope.names.lookup x = some .local := by first | exact .inl rfl | exact .inr rfl) :
    DG K X Z (.Name x pos) (gName i) (wgName i) :=
  ⟨pg_name hN hi hx hf, fun {H0 F0 F H ρ σ Q P d v} zo rl rp h k => by
    rw [wgName, put_eq] at h
    exact k _ F H _ h (Same.refl _) (rl.store (s := .d d) rp (fun w => nomatch w) i)⟩
def wgNil : WGs := fun ds ρ P => ds = [] ∧ P ρ
def wgCons (w : WG) (r : WGs) : WGs := fun ds ρ P => match ds with
  | d :: ds => w d ρ fun ρ1 => r ds ρ1 P
  | [] => False
theorem dgs_nil : DGs K X Z [] gNil wgNil := ⟨pgs_nil, fun {H0 F0 F H ρ σ Q P ds vs} zo rl rp h k => by
    obtain ⟨rfl, p⟩ := h
    exact ⟨rp, k _ F H σ p (Same.refl _) rl⟩⟩
theorem dgs_cons {es : List Expr} {tg : TG} {tr : TGs} {wg : WG} {wr : WGs} (h1 : DG K X Z e tg wg) (h2 : DGs K X Z es tr wr) (hs : (assignEach (e :: es) X.env).map (·.2) = assign e X.env :: (assignEach es X.env).map (·.2) := by rfl) :
    DGs K X Z (e :: es) (gCons tg tr) (wgCons wg wr) := ⟨pgs_cons h1.pe h2.pe hs, fun {H0 F0 F H ρ σ Q P ds vs} zo rl rp h k => by
    cases ds with
    | nil => exact h.elim
    | cons d ds =>
      obtain ⟨v, r, rfl, q1, q2⟩ := rp
      exact ⟨v, r, rfl, h1.run zo rl q1 h fun ρ1 F1 H1 σ1 p f r1 => h2.run zo r1 (Reps.mono f _ _ q2) p fun ρ2 F2 H2 σ2 p2 f2 r2 => k _ _ _ _ p2 (f.trans f2) r2⟩⟩
def wgTup (n : Nat) (wr : WGs) : WG := fun d ρ P => match d with
  | .tup ds => ds.length = n ∧ wr ds ρ P
  | _ => False
theorem dg_tup {es : List Expr} {kx : Nat} {tr : TGs} {wr : WGs} {n : Nat} (hc : X.calm = true) (h : DGs K X Z es tr wr) (hK : X.K = K := by rfl) (hn : (assignEach es X.env).length = n := by rfl) (hst : (assignEach es X.env).findIdx? (·.1) = none := by rfl) :
    DG K X Z (.Tuple es kx pos) (gTup K n tr) (wgTup n wr) := by
  refine ⟨by subst hK; exact pg_tup hc h.pe hn hst, fun {H0 F0 F H ρ σ Q P d v} zo rl rp q k => ?_⟩
  cases d with
  | tup ds =>
    obtain ⟨a, vs, rfl, s1, s2⟩ := rp
    exact ⟨a, vs, rfl, Same.sqT rl.fh s1, by rw [s2.len]; exact q.1, h.run zo rl s2 q.2 k⟩
  | _ => exact q.elim
def wAsg (we : W) (wg : WG) : WS := fun DD ρ => we ρ fun s ρ1 => wg s.fz ρ1 DD.nx
theorem ds_asg {tg : Expr} {g : TG} {wg : WG} (he : DE K X Z e te we) (hg : DG K X Z tg g wg) (hs : swapsWithSole [tg] e pos.line X.env = pure false := by rfl) (hw : swappedStores [tg] e X.env = pure none := by rfl)
    (h1 : (assignEach [tg] X.env).map (·.2) = [assign tg X.env] := by rfl) : DS K X Z (.Assign [tg] e pos) (tAsg te g) (wAsg we wg) :=
  ⟨ps_asg he.pe hg.pe hs hw h1, fun {H0 F0 F H ρ σ DD Dh} zo rl ee h => he.run zo rl h fun s ρ' F' H' v p f r sr fr => by
    obtain ⟨F2, f2, r2, rp2⟩ := r.freeze sr fr
    exact hg.run zo r2 rp2 p fun ρ3 F3 H3 σ3 p3 f3 r3 => ee.nx _ _ _ _ p3 (f.trans (f2.trans f3)) r3⟩
structure ItOk (K : PySem.W.Frag) (J : It) (items : List D) (F1 : Hp) : Prop where
  go : ∀ {i : Nat} {F H : Hp}, Same F1 F → Same F H → i < items.length → J.go i H
  stop : ∀ {i : Nat} {F H : Hp}, Same F1 F → Same F H → items.length ≤ i → J.stop i H
  yld : ∀ {i : Nat} {F H H2 : Hp} {x : V}, Same F1 F → Same F H → J.yld i H x H2 → i < items.length →
    ∃ F2 d, items[i]? = some d ∧ Same H H2 ∧ Same F F2 ∧ Same F2 H2 ∧ (∀ a, F2 a ≠ none → F a ≠ none ∨ H a = none) ∧ Rep K F2 d x
def RunI (K : PySem.W.Frag) (Z : Zx) (t : TI) (w : WA) : Prop := ∀ {H0 F0 F H : Hp} {ρ : R} {σ : St} {Q : It → Hp → Prop} {P : List D → R → Prop}, Z.Ok K H0 F0 → Rel K H0 F0 F H ρ σ → w ρ P →
    (∀ items ρ' F' H' J, P items ρ' → Same F F' → Rel K H0 F0 F' H' ρ' σ → ItOk K J items F' → Q J H') → t σ H Q
structure DI (K : PySem.W.Frag) (X : Cx) (Z : Zx) (tg iter : Expr) (t : TI) (w : WA) : Prop where
  pe : PI X tg iter t
  run : RunI K Z t w
theorem ItOk.pure {K : PySem.W.Frag} {J : It} {items : List D} {F1 : Hp} (go : ∀ {i : Nat} {F H : Hp}, Same F1 F → Same F H → i < items.length → J.go i H) (stop : ∀ {i : Nat} {F H : Hp}, Same F1 F → Same F H → items.length ≤ i → J.stop i H)
    (yld : ∀ {i : Nat} {F H H2 : Hp} {x : V}, Same F1 F → Same F H → J.yld i H x H2 → i < items.length → ∃ d, items[i]? = some d ∧ H2 = H ∧ Rep K F d x) : ItOk K J items F1 :=
  ⟨go, stop, fun f h y l => by
    obtain ⟨d, e, rfl, r⟩ := yld f h y l
    exact ⟨_, d, e, Same.refl _, Same.refl _, h, fun _ q => .inl q, r⟩⟩
def asL (d : D) (P : List D → Prop) : Prop := match d with
  | .lst xs => P xs
  | .cel ns => P (ns.map .int)
  | _ => False
theorem asL_of {K : PySem.W.Frag} {F : Hp} {d : D} {v : V} {P : List D → Prop} (h : asL d P) (r : Rep K F d v) : ∃ a vs xs, v = .ref a ∧ SqL K F a vs ∧ Reps K F xs vs ∧ P xs := by
  cases d <;> first
    | exact h.elim
    | (obtain ⟨a, vs, e, h1, h2⟩ := r; exact ⟨a, vs, _, e, SqL.of h1, h2, h⟩)
    | (obtain ⟨a, e, h1⟩ := r; exact ⟨a, _, _, e, h1, Reps.ints.mpr rfl, h⟩)
def asT (d : D) (P : List D → Prop) : Prop := match d with
  | .tup xs => P xs
  | _ => False
def signs (z : Str) : List Str := z.cps.toList.map fun c => ⟨#[c]⟩
def rangeD (lo : Int) (n : Nat) : List D := (List.range n).map fun (i : Nat) => .int (lo + i)
theorem rangeD_len (lo : Int) (n : Nat) : (rangeD lo n).length = n := by simp [rangeD]
theorem it_range {K : PySem.W.Frag} {lo : Int} {n : Nat} {F1 : Hp} : ItOk K (Itr lo n) (rangeD lo n) F1 :=
  ItOk.pure (fun {i F H} f g l => by rw [rangeD_len] at l; exact l) (fun {i F H} f g l => by rw [rangeD_len] at l; exact l) fun {i F H H2 x} f g y l => by
    obtain ⟨rfl, rfl⟩ := y
    rw [rangeD_len] at l
    exact ⟨.int (lo + i), by simp [rangeD, l], rfl, rfl⟩
def wiR1 (wa : WA) : WA := fun ρ P => wa ρ fun ds ρ1 => match ds with
  | [.int j] => (-(2 ^ 62) ≤ j ∧ j < 2 ^ 62) ∧ P (rangeD 0 j.toNat) ρ1
  | _ => False
def wiR2 (wa : WA) : WA := fun ρ P => wa ρ fun ds ρ1 => match ds with
  | [.int i, .int j] => (-(2 ^ 62) ≤ i ∧ i < 2 ^ 62 ∧ -(2 ^ 62) ≤ j ∧ j < 2 ^ 62) ∧ P (rangeD i (j - i).toNat) ρ1
  | _ => False
theorem di_range1 {tg a : Expr} {p : Pos} {ta : TA} {wa : WA} (hm : X.mg "range" = none) (ha : DA K X Z [a] ta wa) (hg : Gl X "range" := by rfl) (hs : starEach [a] X.env = [(false, eval a X.env)] := by rfl) :
    DI K X Z tg (.Call (.Name "range" p) [a] [] pos) (iRng1 ta) (wiR1 wa) := by
  refine ⟨pi_range1 hg hm ha.pe hs, fun {H0 F0 F H ρ σ Q P} zo rl h k => ha.run zo rl h fun ds ρ1 F1 H1 vs h1 f1 r1 rps => ?_⟩
  split at h1
  · obtain ⟨v, r, rfl, rfl, rfl⟩ := rps
    exact ⟨_, rfl, h1.1.1, h1.1.2, k _ _ _ _ _ h1.2 f1 r1 it_range⟩
  · exact h1.elim
theorem di_range2 {tg a b : Expr} {p : Pos} {ta : TA} {wa : WA} (hm : X.mg "range" = none) (ha : DA K X Z [a, b] ta wa) (hg : Gl X "range" := by rfl) (hs : starEach [a, b] X.env = [(false, eval a X.env), (false, eval b X.env)] := by rfl) (hs2 : starEach [b] X.env = [(false, eval b X.env)] := by rfl) :
    DI K X Z tg (.Call (.Name "range" p) [a, b] [] pos) (iRng2 ta) (wiR2 wa) := by
  refine ⟨pi_range2 hg hm ha.pe hs hs2, fun {H0 F0 F H ρ σ Q P} zo rl h k => ha.run zo rl h fun ds ρ1 F1 H1 vs h1 f1 r1 rps => ?_⟩
  split at h1
  · obtain ⟨v, r, rfl, rfl, v2, r2, rfl, rfl, rfl⟩ := rps
    exact ⟨_, _, rfl, h1.1, k _ _ _ _ _ h1.2 f1 r1 it_range⟩
  · exact h1.elim
def forD (wg : WG) (wb : WS) (DD : DEnds) : List D → R → Prop
  | [], ρ => DD.nx ρ
  | d :: ds, ρ => wg d ρ fun ρ1 => ∃ N : R → Prop, (∀ ρ', N ρ' → forD wg wb DD ds ρ') ∧ wb ⟨N, DD.rt, DD.nx, N⟩ ρ1
def wFor (wi : WA) (wg : WG) (wb : WS) : WS := fun DD ρ => wi ρ fun items ρ1 => forD wg wb DD items ρ1
theorem run_for {wi : TI} {wa : WA} {g : TG} {wg : WG} {tb : TS} {wb : WS} (hi : RunI K Z wi wa) (hg : RunG K Z g wg) (hb : RunS K Z tb wb) : RunS K Z (tFor wi g tb) (wFor wa wg wb) := fun {H0 F0 F H ρ σ DD Dh} zo rl ee h => by
  refine hi zo rl h fun items ρ1 F1 H1 J h1 f1 r1 it => ?_
  refine ⟨fun i m σ H => m = items.length - i ∧ i ≤ items.length ∧ ∃ F2 ρ2, Same F1 F2 ∧ Rel K H0 F0 F2 H ρ2 σ ∧ forD wg wb DD (items.drop i) ρ2, ⟨_, rfl, Nat.zero_le _, F1, ρ1, Same.refl _, r1, h1⟩, ?_⟩
  rintro i m σ H ⟨rfl, hi, F2, ρ2, f2, r2, w⟩
  by_cases hlt : i < items.length
  · refine .inr ⟨it.go f2 r2.fh hlt, fun σ' H' => (fun i m σ H => m = items.length - i ∧ i ≤ items.length ∧ ∃ F2 ρ2, Same F1 F2 ∧ Rel K H0 F0 F2 H ρ2 σ ∧ forD wg wb DD (items.drop i) ρ2) (i + 1) (items.length - (i + 1)) σ' H',
      fun σ' H' q => ⟨_, by omega, q⟩, fun x H2 y => ?_⟩
    obtain ⟨F3, d, e, hh, ff, fh, nw, rp⟩ := it.yld f2 r2.fh y hlt
    have r3 : Rel K H0 F0 F3 H2 ρ2 σ := r2.after hh ff fh nw
    rw [List.drop_eq_getElem_cons hlt] at w
    have ed : items[i] = d := by rw [List.getElem?_eq_getElem hlt] at e; exact Option.some.inj e
    rw [ed] at w
    refine hg zo r3 rp w fun ρ4 F4 H4 σ4 p4 f4 r4 => ?_
    obtain ⟨N, hN, p4⟩ := p4
    refine hb (DD := ⟨N, DD.rt, DD.nx, N⟩) zo r4 ⟨fun ρ' F' H' σ' q f r => ?_, ?_, fun ρ' F' H' σ' q f r => ee.nx _ _ _ _ q (f1.trans (f2.trans (ff.trans (f4.trans f)))) r, fun ρ' F' H' σ' q f r => ?_⟩ p4
    · exact ⟨rfl, hlt, F', ρ', f2.trans (ff.trans (f4.trans f)), r, hN _ q⟩
    · exact fun s v F' H' q f => ee.rt s v F' H' q (f1.trans (f2.trans (ff.trans (f4.trans f))))
    · exact ⟨rfl, hlt, F', ρ', f2.trans (ff.trans (f4.trans f)), r, hN _ q⟩
  · have e : items.drop i = [] := List.drop_eq_nil_of_le (by omega)
    rw [e] at w
    exact .inl ⟨it.stop f2 r2.fh (by omega), ee.nx _ _ _ _ w (f1.trans f2) r2⟩
theorem ds_for {tg iter : Expr} {body : List Stmt} {wi : TI} {wa : WA} {g : TG} {wg : WG} {tb : TS} {wb : WS} (hp : PassesOwn (model X.prog X.w) X.A X.env X.xe) (hc : X.calm = true) (hi : DI K X Z tg iter wi wa) (hg : DG K X Z tg g wg) (hb : DSs K X Z body tb wb)
    (hs : ∀ x, foldedSetIterable iter X.env x = pure x := by intro _; rfl) : DS K X Z (.For tg iter body [] pos) (tFor wi g tb) (wFor wa wg wb) := ⟨ps_for hp hc hi.pe hg.pe hb.pe hs, run_for hi.run hg.run hb.run⟩
def wipeR (ρ : R) : List Nat → R
  | [] => ρ
  | v :: vs => put (wipeR ρ vs) v none
theorem Rel.setN {H0 F0 F H : Hp} {ρ : R} {σ : St} (r : Rel K H0 F0 F H ρ σ) (v : Nat) (x : Option V) : Rel K H0 F0 F H (ρ.set v none) (σ.set v x) := by
  have r1 := r.drop1 v
  refine ⟨r1.h, r1.f, r1.fh, r1.nw, by simp [r.len], fun i s q => ?_, fun i j s t q1 q2 w1 w2 e => ?_⟩
  · have hi : i ≠ v := by rintro rfl; exact set_none q
    obtain ⟨u, q1, q2⟩ := r1.at_ i s q
    exact ⟨u, by rw [List.getElem?_set_ne (Ne.symm hi)]; exact q1, q2⟩
  · have hi : i ≠ v := by rintro rfl; exact set_none q1
    have hj : j ≠ v := by rintro rfl; exact set_none q2
    rw [List.getElem?_set_ne (Ne.symm hi), List.getElem?_set_ne (Ne.symm hj)] at e
    exact r1.ap i j s t q1 q2 w1 w2 e
theorem Rel.wipe {H0 F0 F H : Hp} {ρ : R} {σ : St} (r : Rel K H0 F0 F H ρ σ) : ∀ vs : List Nat, Rel K H0 F0 F H (wipeR ρ vs) (wipe σ vs)
  | [] => r
  | v :: vs => by
    rw [wipeR, put_eq]
    exact (Rel.wipe r vs).setN v none
structure DGb (K : PySem.W.Frag) (X : Cx) (Z : Zx) (e : Expr) (vs : List Nat) (t : TG) (w : WG) : Prop where
  pe : PG X e t
  run : ∀ {H0 F0 F H : Hp} {ρ : R} {σ : St} {Q : St → Hp → Prop} {P : R → Prop} {d : D} {v : V}, Z.Ok K H0 F0 → Rel K H0 F0 F H ρ σ → Rep K F d v → w d ρ P →
    (∀ ρ' F' H' σ', P ρ' → Same F F' → Rel K H0 F0 F' H' ρ' σ' → L2.wipe σ' vs = L2.wipe σ vs → Q σ' H') → t v σ H Q
end
theorem wipe_comm (σ : St) (i : Nat) (x : Option V) : ∀ vs : List Nat, i ∉ vs → L2.wipe (σ.set i x) vs = (L2.wipe σ vs).set i x
  | [], _ => rfl
  | v :: vs, h => by
    have h1 : i ≠ v := fun e => h (by rw [e]; exact List.mem_cons_self)
    show (L2.wipe (σ.set i x) vs).set v none = ((L2.wipe σ vs).set v none).set i x
    rw [wipe_comm σ i x vs fun z => h (List.mem_cons_of_mem _ z), List.set_comm _ _ h1]
theorem wipe_set (σ : St) (i : Nat) (x : Option V) : ∀ vs : List Nat, i ∈ vs → L2.wipe (σ.set i x) vs = L2.wipe σ vs
  | [], h => by cases h
  | v :: vs, h => by
    show (L2.wipe (σ.set i x) vs).set v none = (L2.wipe σ vs).set v none
    by_cases hv : i ∈ vs
    · rw [wipe_set σ i x vs hv]
    · have e : i = v := (List.mem_cons.mp h).elim id fun z => absurd z hv
      subst e
      rw [wipe_comm σ i x vs hv, List.set_set]
theorem wipe_idem (σ : St) : ∀ vs us : List Nat, (∀ v ∈ us, v ∈ vs) → L2.wipe (L2.wipe σ us) vs = L2.wipe σ vs
  | vs, [], _ => rfl
  | vs, u :: us, h => by
    show L2.wipe ((L2.wipe σ us).set u none) vs = L2.wipe σ vs
    rw [wipe_set _ _ _ _ (h u List.mem_cons_self), wipe_idem σ vs us fun v z => h v (List.mem_cons_of_mem _ z)]
section
variable {K : PySem.W.Frag} {X : Cx} {Z : Zx} {pos : Pos} {e : Expr} {te : TE} {we : W}
theorem dgb_name (i : Nat) {vs : List Nat} {x : Str} (hN : X.N.Nodup) (hv : i ∈ vs := by decide) (hi : X.N[i]? = some x := by rfl) (hx : Loc X.env.scope x := by first | exact Or.inl rfl | exact Or.inr rfl) (hf : X.fn x = true ∨ X.env.scope.names.lookup x = some .local := by first | exact .inl rfl | exact .inr rfl) :
    DGb K X Z (.Name x pos) vs (gName i) (wgName i) :=
  ⟨pg_name hN hi hx hf, fun {H0 F0 F H ρ σ Q P d v} zo rl rp h k => by
    rw [wgName, put_eq] at h
    exact k _ F H _ h (Same.refl _) (rl.store (s := .d d) rp (fun w => nomatch w) i) (wipe_set _ _ _ _ hv)⟩
structure DGbs (K : PySem.W.Frag) (X : Cx) (Z : Zx) (es : List Expr) (vs : List Nat) (t : TGs) (w : WGs) : Prop where
  pe : PGs X es t
  run : ∀ {H0 F0 F H : Hp} {ρ : R} {σ : St} {Q : St → Hp → Prop} {P : R → Prop} {ds : List D} {us : List V}, Z.Ok K H0 F0 → Rel K H0 F0 F H ρ σ → Reps K F ds us → w ds ρ P →
    (∀ ρ' F' H' σ', P ρ' → Same F F' → Rel K H0 F0 F' H' ρ' σ' → L2.wipe σ' vs = L2.wipe σ vs → Q σ' H') → t us σ H Q
theorem dgbs_nil {vs : List Nat} : DGbs K X Z [] vs gNil wgNil := ⟨pgs_nil, fun {H0 F0 F H ρ σ Q P ds us} zo rl rp h k => by
    obtain ⟨rfl, p⟩ := h
    exact ⟨rp, k _ F H σ p (Same.refl _) rl rfl⟩⟩
theorem dgbs_cons {es : List Expr} {vs : List Nat} {tg : TG} {tr : TGs} {wg : WG} {wr : WGs} (h1 : DGb K X Z e vs tg wg) (h2 : DGbs K X Z es vs tr wr) (hs : (assignEach (e :: es) X.env).map (·.2) = assign e X.env :: (assignEach es X.env).map (·.2) := by rfl) :
    DGbs K X Z (e :: es) vs (gCons tg tr) (wgCons wg wr) := ⟨pgs_cons h1.pe h2.pe hs, fun {H0 F0 F H ρ σ Q P ds us} zo rl rp h k => by
    cases ds with
    | nil => exact h.elim
    | cons d ds =>
      obtain ⟨v, r, rfl, q1, q2⟩ := rp
      exact ⟨v, r, rfl, h1.run zo rl q1 h fun ρ1 F1 H1 σ1 p f r1 e1 => h2.run zo r1 (Reps.mono f _ _ q2) p fun ρ2 F2 H2 σ2 p2 f2 r2 e2 => k _ _ _ _ p2 (f.trans f2) r2 (e2.trans e1)⟩⟩
theorem dgb_tup {es : List Expr} {vs : List Nat} {kx : Nat} {tr : TGs} {wr : WGs} {n : Nat} (hc : X.calm = true) (h : DGbs K X Z es vs tr wr) (hK : X.K = K := by rfl) (hn : (assignEach es X.env).length = n := by rfl) (hst : (assignEach es X.env).findIdx? (·.1) = none := by rfl) :
    DGb K X Z (.Tuple es kx pos) vs (gTup K n tr) (wgTup n wr) := by
  refine ⟨by subst hK; exact pg_tup hc h.pe hn hst, fun {H0 F0 F H ρ σ Q P d v} zo rl rp q k => ?_⟩
  cases d with
  | tup ds =>
    obtain ⟨a, us, rfl, s1, s2⟩ := rp
    exact ⟨a, us, rfl, Same.sqT rl.fh s1, by rw [s2.len]; exact q.1, h.run zo rl s2 q.2 k⟩
  | _ => exact q.elim
structure DTs (K : PySem.W.Frag) (X : Cx) (Z : Zx) (es : List Expr) (t : TT) (w : WT) : Prop where
  pe : PTs X es t
  run : RunT K Z t w
def wYes : WT := fun ρ P => P true ρ
theorem dts_nil : DTs K X Z [] tYes wYes := ⟨pts_nil, fun {H0 F0 F H ρ σ Q P} zo rl h k => k _ _ F H h (Same.refl _) rl⟩
theorem dts_one {t : TT} {w : WT} (h : DT K X Z e t w) : DTs K X Z [e] t w := ⟨pts_one h.pe, h.run⟩
def dataR : R → R
  | [] => []
  | some (.d x) :: r => some (.d x) :: dataR r
  | _ :: r => none :: dataR r
theorem dataR_get : ∀ {ρ : R} {i : Nat} {s : S}, (dataR ρ)[i]? = some (some s) → ∃ x, s = .d x ∧ ρ[i]? = some (some (.d x))
  | [], i, s, h => by simp [dataR] at h
  | o :: r, 0, s, h => by
    cases o with
    | none => simp [dataR] at h
    | some t =>
      cases t with
      | d x => simp [dataR] at h; exact ⟨x, h.symm, rfl⟩
      | ol _ => simp [dataR] at h
      | od _ => simp [dataR] at h
      | oi _ _ => simp [dataR] at h
      | os _ _ _ => simp [dataR] at h
  | o :: r, i + 1, s, h => by
    have h' : (dataR r)[i]? = some (some s) := by
      cases o with
      | none => simpa [dataR] using h
      | some t => cases t <;> simpa [dataR] using h
    obtain ⟨x, e, q⟩ := dataR_get h'
    exact ⟨x, e, by simpa using q⟩
theorem dataR_len : ∀ ρ : R, (dataR ρ).length = ρ.length
  | [] => rfl
  | o :: r => by
    cases o with
    | none => simp [dataR, dataR_len r]
    | some t => cases t <;> simp [dataR, dataR_len r]
theorem wipeR_len (ρ : R) : ∀ vs : List Nat, (wipeR ρ vs).length = ρ.length
  | [] => rfl
  | v :: vs => by rw [wipeR, put_eq, List.length_set, wipeR_len ρ vs]
theorem wipeR_get {ρ : R} {i : Nat} {s : S} : ∀ {vs : List Nat}, (wipeR ρ vs)[i]? = some (some s) → ρ[i]? = some (some s) ∧ i ∉ vs
  | [], h => ⟨h, by simp⟩
  | v :: vs, h => by
    rw [wipeR, put_eq] at h
    by_cases hi : i = v
    · subst hi; exact (set_none h).elim
    · rw [List.getElem?_set_ne (Ne.symm hi)] at h
      obtain ⟨h1, h2⟩ := wipeR_get h
      exact ⟨h1, fun z => (List.mem_cons.mp z).elim hi h2⟩
theorem wipe_out (σ : St) : ∀ (vs : List Nat) (i : Nat), i ∉ vs → (L2.wipe σ vs)[i]? = σ[i]?
  | [], i, _ => rfl
  | v :: vs, i, h => by
    show ((L2.wipe σ vs).set v none)[i]? = _
    rw [List.getElem?_set_ne (fun e => h (by rw [e]; exact List.mem_cons_self)), wipe_out σ vs i fun z => h (List.mem_cons_of_mem _ z)]
theorem Rel.view {H0 F0 F H F' H' : Hp} {ρ : R} {σ : St} (r : Rel K H0 F0 F H ρ σ) (f : Same F F') (fh : Same F' H') (vs : List Nat) : Rel K H' F' F' H' (wipeR (dataR ρ) vs) (L2.wipe σ vs) := by
  refine ⟨Same.refl _, Same.refl _, fh, fun _ q => .inl q, ?_, fun i s q => ?_, fun i j s t q1 q2 w1 w2 z => ?_⟩
  · rw [wipeR_len, dataR_len, wipe_length, r.len]
  · obtain ⟨h1, h2⟩ := wipeR_get q
    obtain ⟨x, rfl, h3⟩ := dataR_get h1
    obtain ⟨v, z1, z2⟩ := r.at_ i _ h3
    exact ⟨v, by rw [wipe_out σ vs i h2]; exact z1, Rep.mono f _ _ z2⟩
  · obtain ⟨h1, h2⟩ := wipeR_get q1
    obtain ⟨x, rfl, h3⟩ := dataR_get h1
    cases w1
theorem Zx.Ok.on {H0 F0 H1 F1 : Hp} (zo : Z.Ok K H0 F0) (hh : Same H0 H1) (ff : Same F0 F1) (nw : ∀ a, F1 a ≠ none → F0 a ≠ none ∨ H0 a = none) : Z.Ok K H1 F1 := fun N C fs d F' H' p g h1 f1 fh n x =>
  zo N C fs d F' H' p g (hh.trans h1) (ff.trans f1) fh (fun a q => by
    rcases n a q with z | z
    · exact nw a z
    · exact .inr (hh.free z)) x
def compD (wg : WG) (wt : WT) (we : W) (ρb : R) : List D → (List D → Prop) → Prop
  | [], P => P []
  | d :: ds, P => wg d ρb fun ρ1 => wt ρ1 fun b ρ2 => if b = true then we ρ2 fun s _ => compD wg wt we ρb ds fun r => P (s.fz :: r) else compD wg wt we ρb ds P
def wLc (wi : WA) (wg : WG) (wt : WT) (we : W) (vs : List Nat) : W := fun ρ P => wi ρ fun items ρ1 => items.length ≤ sizeLine ∧ compD wg wt we (wipeR (dataR ρ1) vs) items fun acc => P (.ol acc) ρ1
theorem run_lc {wi : TI} {wa : WA} {g : TG} {wg : WG} {tt : TT} {wt : WT} {vs : List Nat} (hi : RunI K Z wi wa)
    (hg : ∀ {H0 F0 F H : Hp} {ρ : R} {σ : St} {Q : St → Hp → Prop} {P : R → Prop} {d : D} {v : V}, Z.Ok K H0 F0 → Rel K H0 F0 F H ρ σ → Rep K F d v → wg d ρ P →
      (∀ ρ' F' H' σ', P ρ' → Same F F' → Rel K H0 F0 F' H' ρ' σ' → L2.wipe σ' vs = L2.wipe σ vs → Q σ' H') → g v σ H Q)
    (ht : RunT K Z tt wt) (he : RunE K Z te we) : RunE K Z (tLc wi g tt te vs) (wLc wa wg wt we vs) := fun {H0 F0 F H ρ σ Q P} zo rl h k => by
  refine hi zo rl h fun items ρ1 F1 H1 J h1 f1 r1 it => fun D nD => ?_
  obtain ⟨hsz, h1⟩ := h1
  let Iv := fun (i : Nat) (H : Hp) => ∃ F2 acc vs', Same H1 H ∧ Same F1 F2 ∧ Same F2 H ∧ (∀ a, F2 a ≠ none → F1 a ≠ none ∨ H1 a = none) ∧ F2 D = none ∧ H D = some (.lst vs') ∧ Reps K F2 acc vs' ∧ acc.length ≤ i ∧
    compD wg wt we (wipeR (dataR ρ1) vs) (items.drop i) fun r => P (.ol (acc ++ r)) ρ1
  refine ⟨fun i m H => m = items.length - i ∧ i ≤ items.length ∧ Iv i H, ⟨_, rfl, Nat.zero_le _, F1, [], [], Same.new nD, Same.refl _, r1.fh.trans (Same.new nD), fun _ q => .inl q, r1.fh.free nD, upd_same, rfl, Nat.le_refl _, h1⟩, ?_⟩
  rintro i m H ⟨rfl, hi, F2, acc, vs', hh, ff, fh, nw, fn, hD, ra, la, w⟩
  by_cases hlt : i < items.length
  · refine .inr ⟨it.go ff fh hlt, fun H' => Iv (i + 1) H', fun H' q => ⟨items.length - (i + 1), by omega, rfl, hlt, q⟩, fun x H2 y => ?_⟩
    obtain ⟨F3, d, e, hh3, ff3, fh3, nw3, rp⟩ := it.yld ff fh y hlt
    rw [List.drop_eq_getElem_cons hlt] at w
    have ed : items[i] = d := by rw [List.getElem?_eq_getElem hlt] at e; exact Option.some.inj e
    rw [ed] at w
    have nwF3 : ∀ a, F3 a ≠ none → F1 a ≠ none ∨ H1 a = none := fun a q => by
      rcases nw3 a q with z | z
      · exact nw a z
      · exact .inr (hh.free z)
    have fn3 : F3 D = none := by
      cases q : F3 D with
      | none => rfl
      | some u =>
        rcases nw3 D (by rw [q]; exact fun z => nomatch z) with z | z
        · exact absurd fn z
        · rw [z] at hD; cases hD
    have r3 := r1.view (ff.trans ff3) fh3 vs
    have zo3 : Z.Ok K H2 F3 := (zo.on r1.h r1.f r1.nw).on (hh.trans hh3) (ff.trans ff3) nwF3
    -- what the turn leaves: from the state at its start
    have out : ∀ {F5 H5 : Hp} {ρ5 : R} {σ5 : St}, Rel K H2 F3 F5 H5 ρ5 σ5 → Same H1 H5 ∧ Same F1 F5 ∧ Same F5 H5 ∧ (∀ a, F5 a ≠ none → F1 a ≠ none ∨ H1 a = none) ∧ F5 D = none ∧ H5 D = some (.lst vs') ∧ Reps K F5 acc vs' := fun {F5 H5 ρ5 σ5} r5 => by
      refine ⟨(hh.trans hh3).trans r5.h, (ff.trans ff3).trans r5.f, r5.fh, fun a q => ?_, ?_, r5.h _ _ (hh3 _ _ hD), Reps.mono (ff3.trans r5.f) _ _ ra⟩
      · rcases r5.nw a q with z | z
        · exact nwF3 a z
        · exact .inr ((hh.trans hh3).free z)
      · cases q : F5 D with
        | none => rfl
        | some u =>
          rcases r5.nw D (by rw [q]; exact fun z => nomatch z) with z | z
          · exact absurd fn3 z
          · rw [hh3 _ _ hD] at z; cases z
    refine hg zo3 r3 rp w fun ρ4 F4 H4 σ4 p4 f4 r4 e4 => ⟨by rw [e4, wipe_idem σ vs vs fun v z => z], ?_⟩
    refine ht zo3 r4 p4 fun b ρ5 F5 H5 p5 f5 r5 => ?_
    cases b with
    | false =>
      rw [if_neg Bool.false_ne_true] at p5 ⊢
      obtain ⟨o1, o2, o3, o4, o5, o6, o7⟩ := out r5
      exact ⟨F5, acc, vs', o1, o2, o3, o4, o5, o6, o7, Nat.le_succ_of_le la, p5⟩
    | true =>
      rw [if_pos rfl] at p5 ⊢
      refine he zo3 r5 p5 fun s ρ6 F6 H6 v6 p6 f6 r6 sr6 fr6 => ?_
      obtain ⟨F7, f7, r7, rp7⟩ := r6.freeze sr6 fr6
      obtain ⟨o1, o2, o3, o4, o5, o6, o7⟩ := out r7
      have lv : vs'.length = acc.length := o7.len
      refine ⟨vs', o6, by omega, F7, acc ++ [s.fz], vs' ++ [v6], fun b u q => ?_, o2, fun b u q => ?_, o4, o5, upd_same, o7.app (.one rp7), by rw [List.length_append, List.length_singleton]; omega, ?_⟩
      · rw [upd_ne (ne_of_none q nD)]; exact o1 _ _ q
      · rw [upd_ne (ne_of_none q o5)]; exact o3 _ _ q
      · simpa only [List.append_assoc, List.singleton_append] using p6
  · have e : items.drop i = [] := List.drop_eq_nil_of_le (by omega)
    rw [e] at w
    have w' : P (.ol acc) ρ1 := by
      have z : P (.ol (acc ++ [])) ρ1 := w
      rwa [List.append_nil] at z
    refine .inl ⟨it.stop ff fh (by omega), k _ _ F2 H _ w' (f1.trans ff) (r1.after hh ff fh nw) ⟨D, vs', rfl, hD, ra, r1.h.free nD, fn⟩ fun _ j t q wt z => ?_⟩
    obtain ⟨v, q1, q2⟩ := r1.at_ j t q
    obtain ⟨a, u, e1, hu, _, _⟩ := q2.addr wt
    rw [z] at q1; cases q1; cases e1
    rw [nD] at hu; cases hu
section
variable {elt tg iter : Expr} {ifs : List Expr} {scope : Scope} {own : List (Str × Nat)} {wi : TI} {wa : WA} {g : TG} {wg : WG} {tt : TT} {wt : WT}
theorem de_lc (hc : X.calm = true) (hN : X.N.Nodup) (hi : DI K X Z tg iter wi wa) (ok : BlkOk X.N X.env.scope scope own)
    (hg : ∀ (s : Shared) (H : Hp) (C : Addr) (cl : List (Str × Addr)) (fp : List Addr), DGb K (X.blk s H scope (compEnvC scope cl C X.env) fp) Z tg (own.map (·.2)) g wg) (ht : ∀ (s : Shared) (H : Hp) (C : Addr) (cl : List (Str × Addr)) (fp : List Addr), DTs K (X.blk s H scope (compEnvC scope cl C X.env) fp) Z ifs tt wt)
    (he : ∀ (s : Shared) (H : Hp) (C : Addr) (cl : List (Str × Addr)) (fp : List Addr), DE K (X.blk s H scope (compEnvC scope cl C X.env) fp) Z elt te we) (hs : ∀ x, foldedSetIterable iter X.env x = pure x := by intro _; rfl) :
    DE K X Z (.ListComp elt [⟨tg, iter, ifs, 0⟩] scope pos) (tLc wi g tt te (own.map (·.2))) (wLc wa wg wt we (own.map (·.2))) :=
  ⟨pe_lc hc hN hi.pe ok (fun s H C cl fp => (hg s H C cl fp).pe) (fun s H C cl fp => (ht s H C cl fp).pe) (fun s H C cl fp => (he s H C cl fp).pe) hs,
    run_lc hi.run (hg X.s_0 (fun _ => none) 0 [] []).run (ht X.s_0 (fun _ => none) 0 [] []).run (he X.s_0 (fun _ => none) 0 [] []).run⟩
end
end
end DL
namespace DL
open PySem L2
abbrev DSp := List D → (S → Prop) → PX → Prop
def spD (K : PySem.W.Frag) (R : DSp) : Sp := fun vs H Q E => ∃ F ds P px, Same F H ∧ Reps K F ds vs ∧ R ds P px ∧ Kont K H F P Q ∧ (⟨E, px⟩ : Zx).Ok K H F
section
variable {K : PySem.W.Frag} {X : Cx} {Z : Zx} {pos p : Pos} {CX : CXT} {k : Nat} {f : Addr} {fd : FuncData} {ps : List Str} {Rf : DSp} {x : Str} {e : Expr} {es : List Expr} {ta : TA} {wa : WA}
def wCall (Rf : DSp) (px : PX) (wa : WA) : W := fun ρ P => wa ρ fun ds ρ1 => Rf ds (fun s => P s ρ1) px
theorem run_call (ha : RunA K Z ta wa) : RunE K Z (tCall (spD K Rf) [] Z.E ta) (wCall Rf Z.P wa) := fun {H0 F0 F H ρ σ Q P} zo rl h kq =>
  ha zo rl h fun ds ρ1 F1 H1 vs h1 f1 r1 rps => by
    rw [List.append_nil]
    exact ⟨F1, ds, _, Z.P, r1.fh, rps, h1, r1.kont f1 kq, zo.on r1.h r1.f r1.nw⟩
theorem de_call (F : FnOk X.prog X.w X.K X.mg X.base CX k f fd ps (spD K Rf)) (hr : Room k X.A) (hm : X.mg x = some (.ref f)) (hk : PySem.W.keepIn X.K (.ref f) = true) (hb : Binds X.K fd ps []) (hx : Passes CX X Z.E)
    (ha : DA K X Z (e :: es) ta wa) (hg : Gl X x := by rfl) (hdb : (x == ("__debug__" : Str)) = false := by decide) (he : starEach (e :: es) X.env = (false, eval e X.env) :: starEach es X.env := by rfl) (hpl : (backTo pos (starEach es X.env)).any (·.1) = false := by rfl) :
    DE K X Z (.Call (.Name x p) (e :: es) [] pos) (tCall (spD K Rf) [] Z.E ta) (wCall Rf Z.P wa) :=
  ⟨pe_call F hr hg hm hk hb .nil hx ha.pe (hdb := hdb) (he := he) (hpl := hpl), run_call ha.run⟩
end
def startR (N : List Str) (ds : List D) : R := ds.map (fun d => some (.d d)) ++ List.replicate (N.length - ds.length) none
theorem rel_start {K : PySem.W.Frag} {F H : Hp} {ds : List D} {vs : List V} {N : List Str} (fh : Same F H) (r : Reps K F ds vs) : Rel K H F F H (startR N ds) (start N vs) := by
  have hl : vs.length = ds.length := r.len
  have get : ∀ (i : Nat) s, (startR N ds)[i]? = some (some s) → ∃ d, s = .d d ∧ ds[i]? = some d := fun i s q => by
    unfold startR at q
    by_cases h : i < ds.length
    · rw [List.getElem?_append_left (by simpa using h), List.getElem?_map] at q
      cases e : ds[i]? with
      | none => rw [e] at q; cases q
      | some d => rw [e] at q; cases q; exact ⟨d, rfl, rfl⟩
    · rw [List.getElem?_append_right (by simpa using h), List.getElem?_replicate] at q
      split at q <;> cases q
  refine ⟨Same.refl _, Same.refl _, fh, fun _ q => .inl q, ?_, fun i s q => ?_, fun i j s t q1 q2 w1 w2 e => ?_⟩
  · simp [startR, L2.start, hl]
  · obtain ⟨d, rfl, e⟩ := get i s q
    obtain ⟨v, e1, rp⟩ := r.get e
    refine ⟨v, ?_, rp⟩
    have h : i < vs.length := (List.getElem?_eq_some_iff.mp e1).1
    unfold L2.start
    rw [List.getElem?_append_left (by simpa using h), List.getElem?_map, e1]
    rfl
  · obtain ⟨d, rfl, _⟩ := get i s q1
    cases w1
section
variable {P : Program} {w : World} {K : PySem.W.Frag} {mg : Str → Option Value} {base : Heap} {x qual : Str} {st : Stmt} {f : Addr} {fd : FuncData} {N ps : List Str} {k : Nat} {Rf : DSp}
theorem fnD (F : Fun K x qual st f fd) (S : FnScope N ps (defScope st)) (len : ∀ ds Q px, Rf ds Q px → ds.length = ps.length)
    (hbody : ∀ (cdv : Value) (A : Around) (outer : List Env) (s : Shared) (H : Hp) (E : XK), Room k (A.deeper (PyProof.Rows.envOfC qual (defScope st) s.heap.objs.size f cdv)) →
      ∃ t wb, DSs K (cxOf CX0 P w K mg base N qual (defScope st) f cdv A outer s H E).nox Z0 (defBody st) t wb ∧ ∀ ds Q px, Rf ds Q px → wb ⟨fun _ => Q (.d .non), Q, fun _ => False, fun _ => False⟩ (startR N ds)) :
    FnOk P w K mg base CX0 (k + 1) f fd ps (spD K Rf) := by
  refine F.ok S (fun vs H Q E h => ?_) (fun cdv A outer s H vs Q E hr h => ?_)
  · obtain ⟨F, ds, P, px, _, r, h, _⟩ := h
    rw [r.len]; exact len _ _ _ h
  · obtain ⟨F, ds, P', px, fh, r, h, kq, _⟩ := h
    obtain ⟨t, wb, d, q⟩ := hbody cdv A outer s H E hr
    refine ⟨t, d.pe, d.run (DD := ⟨fun _ => P' (.d .non), P', fun _ => False, fun _ => False⟩) Z0.ok (rel_start fh r) ⟨fun ρ' F' H' σ' h f r => ?_, fun s v F' H' h f hh ff fh' nw sr => ?_, fun _ _ _ _ h => h.elim, fun _ _ _ _ h => h.elim⟩ (q ds P' px h)⟩
    · exact kq (.d .non) .non F' H' h r.h r.f r.fh r.nw rfl
    · exact kq s v F' H' h hh ff fh' nw sr
end
def spLaw : DSp := fun ds Q _ => ∃ ns : List Int, ds = [.cel ns] ∧ ns.length ≤ 63 ∧ (∀ z ∈ ns, Builtin.Int.intBits z ≤ 1048576) ∧ Q (.d (.bl true))
theorem spLaw_at {K : PySem.W.Frag} {H : Hp} {a : Addr} {ns : List Int} (hl : ns.length ≤ 63) (hb : ∀ z ∈ ns, Builtin.Int.intBits z ≤ 1048576) (h : SqL K H a (ns.map V.int)) :
    spD K spLaw [.ref a] H (fun v _ => v = .bl true) fun _ _ _ => False :=
  ⟨H, [.cel ns], fun s => s = .d (.bl true), fun _ _ => False, Same.refl _, ⟨_, _, rfl, ⟨a, rfl, h⟩, rfl⟩, ⟨ns, rfl, hl, hb, rfl⟩,
    fun s v F' H' e _ _ _ _ sr => by subst e; exact sr, fun _ _ _ _ _ _ h => h.elim⟩
end DL
namespace DL
open PySem L2
section views
variable {K : PySem.W.Frag} {F : Hp} {d : D} {v : V}
def asI (d : D) (P : Int → Prop) : Prop := match d with
  | .int i => P i
  | _ => False
def asS (d : D) (P : Str → Prop) : Prop := match d with
  | .str i => P i
  | _ => False
theorem asI_of {P : Int → Prop} (h : asI d P) (r : Rep K F d v) : ∃ i, v = .int i ∧ P i := by
  cases d <;> first | exact h.elim | exact ⟨_, r, h⟩
theorem asS_of {P : Str → Prop} (h : asS d P) (r : Rep K F d v) : ∃ i, v = .str i ∧ P i := by
  cases d <;> first | exact h.elim | exact ⟨_, r, h⟩
theorem asT_of {P : List D → Prop} (h : asT d P) (r : Rep K F d v) : ∃ a vs xs, v = .ref a ∧ SqT K F a vs ∧ Reps K F xs vs ∧ P xs := by
  cases d <;> first | exact h.elim | (obtain ⟨a, vs, e, h1, h2⟩ := r; exact ⟨a, vs, _, e, h1, h2, h⟩)
def asSq (d : D) (P : List D → Prop) : Prop := match d with
  | .cel ns => P (ns.map .int)
  | .lst xs => P xs
  | .tup xs => P xs
  | _ => False
theorem asSq_of {P : List D → Prop} (h : asSq d P) (r : Rep K F d v) : ∃ a vs xs, v = .ref a ∧ (SqL K F a vs ∨ SqT K F a vs) ∧ Reps K F xs vs ∧ P xs := by
  cases d <;> first
    | exact h.elim
    | (obtain ⟨a, vs, e, h1, h2⟩ := r; exact ⟨a, vs, _, e, .inl (SqL.of h1), h2, h⟩)
    | (obtain ⟨a, vs, e, h1, h2⟩ := r; exact ⟨a, vs, _, e, .inr h1, h2, h⟩)
    | (obtain ⟨a, e, h1⟩ := r; exact ⟨a, _, _, e, .inl h1, Reps.ints.mpr rfl, h⟩)
theorem sq_same {H : Hp} {a : Addr} {vs : List V} (fh : Same F H) (h : SqL K F a vs ∨ SqT K F a vs) : SqL K H a vs ∨ SqT K H a vs :=
  h.elim (fun z => .inl (fh.seq z)) fun z => .inr (Same.sqT fh z)
end views
section ops
variable {K : PySem.W.Frag}
def oI (g : Int → Int → D) (C : Int → Int → Prop) : O2 := fun x y P => asI x fun i => asI y fun j => C i j ∧ P (.d (g i j))
def oI0 (g : Int → Int → D) : O2 := fun x y P => asI x fun i => asI y fun j => P (.d (g i j))
theorem snd_I {g : Int → Int → V} {g' : Int → Int → D} {C : Int → Int → Prop} (hg : ∀ i j F, Rep K F (g' i j) (g i j)) : Snd2 K (rI C g) (oI g' C) := ⟨fun {F H x y vx vy P Q} fh rx ry h k => by
  obtain ⟨i, rfl, h⟩ := asI_of h rx
  obtain ⟨j, rfl, h⟩ := asI_of h ry
  exact ⟨i, j, rfl, rfl, h.1, k.flat fh h.2 (hg i j F)⟩⟩
theorem snd_I0 {g : Int → Int → V} {g' : Int → Int → D} (hg : ∀ i j F, Rep K F (g' i j) (g i j)) : Snd2 K (rI0 g) (oI0 g') := ⟨fun {F H x y vx vy P Q} fh rx ry h k => by
  obtain ⟨i, rfl, h⟩ := asI_of h rx
  obtain ⟨j, rfl, h⟩ := asI_of h ry
  exact ⟨i, j, rfl, rfl, k.flat fh h (hg i j F)⟩⟩
abbrev oAdd : O2 := oI0 fun i j => .int (i + j)
abbrev oSub : O2 := oI0 fun i j => .int (i - j)
abbrev oMul : O2 := oI (fun i j => .int (i * j)) CMul
abbrev oDiv : O2 := oI (fun i j => .int (i / j)) CDiv
abbrev oMod : O2 := oI (fun i j => .int (i % j)) fun _ j => 0 < j
theorem snd_add : Snd2 K (rI0 fun i j => .int (i + j)) oAdd := snd_I0 fun _ _ _ => rfl
theorem snd_sub : Snd2 K (rI0 fun i j => .int (i - j)) oSub := snd_I0 fun _ _ _ => rfl
theorem snd_mul : Snd2 K (rI CMul fun i j => .int (i * j)) oMul := snd_I fun _ _ _ => rfl
theorem snd_div : Snd2 K (rI CDiv fun i j => .int (i / j)) oDiv := snd_I fun _ _ _ => rfl
theorem snd_mod : Snd2 K (rI (fun _ j => 0 < j) fun i j => .int (i % j)) oMod := snd_I fun _ _ _ => rfl
def eqS : D → D → Option Bool
  | .int i, .int j => some (decide (i = j))
  | .str i, .str j => some (decide (i = j))
  | .bl i, .bl j => some (decide (i = j))
  | .non, .non => some true
  | .non, .int _ => some false | .int _, .non => some false | .non, .bl _ => some false | .bl _, .non => some false | .non, .str _ => some false | .str _, .non => some false
  | .int _, .str _ => some false | .str _, .int _ => some false | .bl _, .str _ => some false | .str _, .bl _ => some false
  | _, _ => none
def asO (o : Option Bool) (P : Bool → Prop) : Prop := match o with
  | some b => P b
  | none => False
theorem eqS_ok {F : Hp} {x y : D} {vx vy : V} {b : Bool} (rx : Rep K F x vx) (ry : Rep K F y vy) (e : eqS x y = some b) : scal vx vy = true ∧ decide (vx = vy) = b := by
  cases x <;> cases y <;> first
    | (cases (show (none : Option Bool) = some b from e))
    | (have h1 : vx = _ := rx; have h2 : vy = _ := ry; subst h1; subst h2; cases e
       refine ⟨rfl, ?_⟩
       first
         | rfl
         | (apply decide_eq_decide.mpr; constructor <;> intro q <;> first | (injection q) | rw [q])
         | exact decide_eq_false (fun q => nomatch q))
def oCatS : O2 := fun x y P => asS x fun i => asS y fun j => i.length + j.length ≤ sizeLine ∧ P (.d (.str (i ++ j)))
theorem snd_catS : Snd2 K (fun x y H Q => ∃ i j, x = .str i ∧ y = .str j ∧ i.length + j.length ≤ sizeLine ∧ Q (.str (i ++ j)) H) oCatS := ⟨fun {F H x y vx vy P Q} fh rx ry h k => by
  obtain ⟨i, rfl, h⟩ := asS_of h rx
  obtain ⟨j, rfl, h⟩ := asS_of h ry
  exact ⟨i, j, rfl, rfl, h.1, k.flat (d := .str (i ++ j)) fh h.2 rfl⟩⟩
theorem one_sign {i : Str} {c : Nat} (h : i.cps.toList = [c]) : i = ⟨#[c]⟩ := by
  cases i with
  | mk a => exact congrArg Str.mk (by cases a; simpa using h)
def asA {α : Type} (o : Option α) (P : α → Prop) : Prop := match o with
  | some b => P b
  | none => False
theorem asA_of {α : Type} {o : Option α} {P : α → Prop} (h : asA o P) : ∃ b, o = some b ∧ P b := by
  cases o with
  | none => exact h.elim
  | some b => exact ⟨b, rfl, h⟩
theorem at_reps {F : Hp} {xs : List D} {vs : List V} {i : Int} {d : D} (r : Reps K F xs vs) (h : atI xs i = some d) : ∃ v, atI vs i = some v ∧ Rep K F d v := by
  unfold atI at h ⊢
  rw [r.len]
  cases e : ixN xs.length i with
  | none => rw [e] at h; cases h
  | some j => rw [e] at h; exact r.get h
def oIxL : O2 := fun x y P => asL x fun xs => asI y fun i => asA (atI xs i) fun d => P (.d d)
def oIxT : O2 := fun x y P => asT x fun xs => asI y fun i => asA (atI xs i) fun d => P (.d d)
def oIxS : O2 := fun x y P => asS x fun z => asI y fun i => z.length ≤ sizeLine ∧ asA (atI z.cps.toList i) fun c => P (.d (.str ⟨#[c]⟩))
theorem snd_ixL : Snd2 K (rIxL K) oIxL := ⟨fun {F H x y vx vy P Q} fh rx ry h k => by
  obtain ⟨a, vs, xs, rfl, h1, h2, h⟩ := asL_of h rx
  obtain ⟨i, rfl, h⟩ := asI_of h ry
  obtain ⟨d, e, h⟩ := asA_of h
  obtain ⟨v, e', r⟩ := at_reps h2 e
  exact ⟨a, vs, i, v, rfl, rfl, fh.seq h1, e', k.flat fh h r⟩⟩
theorem snd_ixT : Snd2 K (rIxT K) oIxT := ⟨fun {F H x y vx vy P Q} fh rx ry h k => by
  obtain ⟨a, vs, xs, rfl, h1, h2, h⟩ := asT_of h rx
  obtain ⟨i, rfl, h⟩ := asI_of h ry
  obtain ⟨d, e, h⟩ := asA_of h
  obtain ⟨v, e', r⟩ := at_reps h2 e
  exact ⟨a, vs, i, v, rfl, rfl, Same.sqT fh h1, e', k.flat fh h r⟩⟩
theorem snd_ixS : Snd2 K rIxS oIxS := ⟨fun {F H x y vx vy P Q} fh rx ry h k => by
  obtain ⟨z, rfl, h⟩ := asS_of h rx
  obtain ⟨i, rfl, h⟩ := asI_of h ry
  obtain ⟨c, e, h'⟩ := asA_of h.2
  exact ⟨z, i, c, rfl, rfl, h.1, e, k.flat (d := .str ⟨#[c]⟩) fh h' rfl⟩⟩
def oLen : OL := fun ds P => match ds with
  | [.cel ns] => P (.d (.int ns.length))
  | [.lst xs] => P (.d (.int xs.length))
  | [.tup xs] => P (.d (.int xs.length))
  | [.str z] => z.length ≤ sizeLine ∧ P (.d (.int z.length))
  | [.dic ks xs] => P (.d (.int ks.length))
  | _ => False
abbrev qLen (K : PySem.W.Frag) : List V → Hp → VK → Prop := fun xs H Q => (∃ x n, xs = [x] ∧ LenV K x H n ∧ Q (.int n) H) ∨ ∃ d kvs, xs = [.ref d] ∧ Rd H d (.dK kvs) ∧ Q (.int kvs.length) H
theorem snd_len : SndL K (qLen K) oLen := ⟨fun {F H ds vs P Q} fh r h k => by
  unfold oLen at h
  split at h
  · obtain ⟨v, _, rfl, ⟨a, rfl, h1⟩, rfl⟩ := r
    exact .inl ⟨_, _, rfl, .inl ⟨_, fh.seq h1, rfl⟩, k.flat (d := .int _) fh h (by rw [List.length_map]; rfl)⟩
  · obtain ⟨v, _, rfl, ⟨a, us, rfl, h1, h2⟩, rfl⟩ := r
    exact .inl ⟨_, _, rfl, .inl ⟨us, fh.seq (SqL.of h1), rfl⟩, k.flat (d := .int _) fh h (by rw [h2.len]; rfl)⟩
  · obtain ⟨v, _, rfl, ⟨a, us, rfl, h1, h2⟩, rfl⟩ := r
    exact .inl ⟨_, _, rfl, .inr ⟨us, Same.sqT fh h1, rfl⟩, k.flat (d := .int _) fh h (by rw [h2.len]; rfl)⟩
  · obtain ⟨v, _, rfl, rfl, rfl⟩ := r
    exact .inl ⟨_, _, rfl, ⟨h.1, rfl⟩, k.flat (d := .int _) fh h.2 rfl⟩
  · obtain ⟨v, _, rfl, ⟨a, us, rfl, h1, h2, h3⟩, rfl⟩ := r
    exact .inr ⟨a, _, rfl, Same.rd fh h1, by rw [List.length_zip, ← h2, Nat.min_self]; exact k.flat (d := .int _) fh h rfl⟩
  · exact h.elim⟩
def oMax : OL := fun ds P => match ds with
  | [.int i, .int j] => P (.d (.int (if j > i then j else i)))
  | _ => False
def oMin : OL := fun ds P => match ds with
  | [.int i, .int j] => P (.d (.int (if j < i then j else i)))
  | _ => False
def bools : List D → Option (List Bool)
  | [] => some []
  | .bl b :: r => (bools r).map (b :: ·)
  | _ => none
theorem bools_map : ∀ bs : List Bool, bools (bs.map D.bl) = some bs
  | [] => rfl
  | b :: bs => by rw [List.map_cons, bools, bools_map bs]; rfl
theorem bools_of {F : Hp} : ∀ {ds : List D} {bs : List Bool} {vs : List V}, bools ds = some bs → Reps K F ds vs → vs = bs.map V.bl
  | [], _, _, e, r => by cases e; exact r
  | d :: ds, bs, vs, e, r => by
    cases d <;> first | (cases (show (none : Option (List Bool)) = some bs from e)) | skip
    rename_i b
    rw [bools] at e
    cases q : bools ds with
    | none => rw [q] at e; cases e
    | some cs =>
      rw [q] at e; cases e
      obtain ⟨v, r', rfl, rfl, h⟩ := r
      rw [bools_of q h]; rfl
def oAll : OL := fun ds P => match ds with
  | [.lst xs] => asA (bools xs) fun bs => P (.d (.bl (bs.all id)))
  | _ => False
def oAny : OL := fun ds P => match ds with
  | [.lst xs] => asA (bools xs) fun bs => P (.d (.bl (bs.any id)))
  | _ => False
theorem snd_all : SndL K (rAll K) oAll := ⟨fun {F H ds vs P Q} fh r h k => by
  unfold oAll at h
  split at h
  · obtain ⟨v, _, rfl, ⟨a, us, rfl, h1, h2⟩, rfl⟩ := r
    obtain ⟨bs, e, h⟩ := asA_of h
    have q := bools_of e h2
    subst q
    exact ⟨a, bs, rfl, fh.seq (SqL.of h1), k.flat (d := .bl _) fh h rfl⟩
  · exact h.elim⟩
end ops
abbrev qAdd : R2 := rI0 fun i j => .int (i + j)
abbrev qAddS : R2 := fun x y H Q => ∃ i j, x = .str i ∧ y = .str j ∧ i.length + j.length ≤ sizeLine ∧ Q (.str (i ++ j)) H
abbrev qSub : R2 := rI0 fun i j => .int (i - j)
abbrev qMul : R2 := rI CMul fun i j => .int (i * j)
abbrev qDiv : R2 := rI CDiv fun i j => .int (i / j)
abbrev qMod : R2 := rI (fun _ j => 0 < j) fun i j => .int (i % j)
theorem call_lenR {X : Cx} : CallR X (.builtin "len") fun xs H Q => ∃ d kvs, xs = [.ref d] ∧ Rd H d (.dK kvs) ∧ Q (.int kvs.length) H := fun pins s σ H xs us Q I r h => by
  obtain ⟨d, kvs, rfl, hd, q⟩ := h
  obtain ⟨u, rfl, ru⟩ := vals1 r
  obtain rfl : u = Value.ref d := ru
  exact d_len I hd fun t s' J => ⟨.int kvs.length, H, J, ⟨t, rfl⟩, q⟩
theorem call_len_or {X : Cx} {r : List V → Hp → VK → Prop} (h : CallR X (.builtin "len") r) : CallR X (.builtin "len") fun xs H Q => (∃ x n, xs = [x] ∧ LenV X.K x H n ∧ Q (.int n) H) ∨ r xs H Q := fun pins s σ H vs us Q I rr q => q.elim (fun z => call_len pins s σ H vs us Q I rr z) fun z => h pins s σ H vs us Q I rr z
section sugar
variable {K : PySem.W.Frag} {X : Cx} {Z : Zx} {pos p : Pos} {a b c e : Expr} {ta tb te : TE} {wa wb we : W} {tx : TA} {wx : WA}
theorem de_sub (ha : DE K X Z a ta wa) (hb : DE K X Z b tb wb) : DE K X Z (.BinOp a .Sub b pos) (tOp qSub ta tb) (wOp oSub wa wb) := de_op op_sub snd_sub ha hb
theorem de_mul (ha : DE K X Z a ta wa) (hb : DE K X Z b tb wb) : DE K X Z (.BinOp a .Mult b pos) (tOp qMul ta tb) (wOp oMul wa wb) := de_op op_mul snd_mul ha hb
theorem de_div (ha : DE K X Z a ta wa) (hb : DE K X Z b tb wb) : DE K X Z (.BinOp a .FloorDiv b pos) (tOp qDiv ta tb) (wOp oDiv wa wb) := de_op op_fdiv snd_div ha hb
theorem de_mod (ha : DE K X Z a ta wa) (hb : DE K X Z b tb wb) : DE K X Z (.BinOp a .Mod b pos) (tOp qMod ta tb) (wOp oMod wa wb) := de_op op_mod snd_mod ha hb
theorem de_len (m : X.mg "len" = none) (ha : DE K X Z a ta wa) (hg : Gl X "len" := by rfl) (hs : starEach [a] X.env = [(false, eval a X.env)] := by rfl) (hK : X.K = K := by rfl) : DE K X Z (.Call (.Name "len" p) [a] [] pos) (tCB (qLen K) (tCons ta tNil)) (wCB oLen (wCons wa wNil)) := by
  subst hK
  exact de_callB (call_len_or call_lenR) snd_len hg m PySem.boot_len (da_cons ha da_nil hs) (hn := by decide) (hdb := by decide) (he := hs) (hpl := rfl)
end sugar
end DL
set_option maxHeartbeats 4000000
namespace DL
open PySem PySem.Spec PyProof.Rows L2
def keyS (e : Int × Value) : Str := match e.2 with | .str x _ => x | _ => Str.empty
def GoodS (w : World) (e : Int × Value) : Prop := ∃ x tk, e.2 = Value.str x tk ∧ e.1 = hashStr w x
def SetZ (w : World) (h : Heap) (a : Addr) (xs : List Str) : Prop :=
  ∃ o es ep t, h.get? a = some o ∧ o.ExactSet ∧ o.data = .set es ep t ∧ (∀ e ∈ es.toList, GoodS w e) ∧ xs.Nodup ∧ xs.Perm (es.toList.map keyS) ∧
    es.size < scanBound ∧ t.fits es.size = true ∧ Ris t.place.toList ∧ (w.params.followText "set-order" = true ∨ t.led = true)
section
variable {P : Program} {w : World} {A : Around} {E : Value → Shared → Prop} {s : Shared} {h h' : Heap} {a : Addr} {xs ys : List Str}
theorem SetZ.at (z : SetZ w h a xs) (k : ∀ o, h.get? a = some o → h'.get? a = some o) : SetZ w h' a xs := by
  obtain ⟨o, es, ep, t, ho, r⟩ := z
  exact ⟨o, es, ep, t, k o ho, r⟩
theorem goodS_elems {l : List (Int × Value)} (g : ∀ e ∈ l, GoodS w e) : ElemsOf (strKind P w) l := fun e he => by
  obtain ⟨k, tk, h1, h2⟩ := g e he
  exact ⟨⟨k, by rw [h1]; exact strKind_is P w k tk, h2⟩, by rw [h1] <;> rfl⟩
theorem goodS_is {e : Int × Value} (g : GoodS w e) (k : Str) : (strKind P w).is k e.2 = true ↔ keyS e = k := by
  obtain ⟨x, tk, h1, _⟩ := g
  unfold keyS
  rw [h1]
  constructor
  · intro q
    obtain ⟨t, e⟩ := Value.isStrOf_shape (show Value.isStrOf k (.str x tk) = true from q)
    injection e with e1
  · intro q
    have q' : x = k := q
    rw [q']
    exact strKind_is P w k tk
theorem addZ_tail {g : Bool → Sem Unit} (hg : ∀ (b : Bool) (s₁ : Shared) (Q' : Unit → Shared → Prop), Q' () s₁ → wpAny (model P w) A (g b) Q' E s₁)
    {o : Obj} {es es1 : Array (Int × Value)} {ep : Nat} {t t2 : SetTable} (ho : s.heap.get? a = some o) (hex : o.ExactSet) (hd : o.data = .set es ep t)
    (g1 : ∀ e ∈ es1.toList, GoodS w e) (nd : ys.Nodup) (pm : ys.Perm (es1.toList.map keyS)) (hb1 : es1.size < scanBound) (hf2 : t2.fits es1.size = true) (hr : Ris t2.place.toList) (hl : w.params.followText "set-order" = true ∨ t2.led = true)
    {wasDummy : Bool} {R : Option Bool → Shared → Prop} (hR : ∀ h', Heap.SameBut a s.heap h' → SetZ w h' a ys → R (some true) { s with heap := h' }) :
    wpAny (model P w) A (do
        storeSet a es1 t2
        if (!wasDummy && t2.tooFull) = true then do
            g (relayAll t2 es1 (SetTable.grown es1.size)).2.2
            storeSet a (relayAll t2 es1 (SetTable.grown es1.size)).1 (relayAll t2 es1 (SetTable.grown es1.size)).2.1
            pure (some true)
          else pure (some true)) R E s := by
  refine wpAny_bind (wpAny_storeSet_of ho hd ?_ (fits_of_scanBound hb1))
  have o1 := store_at (es' := es1) (t' := t2) ho hd
  have sb := Heap.SameBut.update s.heap a (Obj.putSet es1 t2)
  split
  · have p2 := relayAll_perm t2 es1 (SetTable.grown es1.size)
    have f3 := relayAll_fits t2 es1 (SetTable.grown es1.size)
    have r3 := relayAll_ris t2 es1 (SetTable.grown es1.size)
    have l3 := relayAll_led t2 es1 (SetTable.grown es1.size)
    generalize relayAll t2 es1 (SetTable.grown es1.size) = Zz at p2 f3 r3 l3 ⊢
    obtain ⟨es2, t3, gave⟩ := Zz
    dsimp only at p2 f3 r3 l3 ⊢
    have b2 : es2.size < scanBound := by rw [← Array.length_toList, p2.length_eq, Array.length_toList]; exact hb1
    refine wpAny_bind (hg _ _ _ (wpAny_bind (wpAny_storeSet_of o1 rfl ?_ (fits_of_scanBound b2))))
    refine wpAny_pure (hR _ (sb.trans (Heap.SameBut.update _ a _)) ?_)
    exact ⟨_, es2, _, t3, store_at (es' := es2) (t' := t3) o1 rfl, hex, rfl, fun e he => g1 e (p2.mem_iff.mp he), nd, pm.trans (p2.map keyS).symm, b2, f3, r3, hl.imp id fun z => by rw [l3]; exact z⟩
  · exact wpAny_pure (hR _ sb ⟨_, es1, _, t2, o1, hex, rfl, g1, nd, pm, hb1, hf2, hr, hl⟩)
def addS (xs : List Str) (k : Str) : List Str := if k ∈ xs then xs else xs ++ [k]
theorem addS_nodup {k : Str} (nd : xs.Nodup) : (addS xs k).Nodup := by
  unfold addS
  split
  · exact nd
  · rename_i hk
    exact List.nodup_append.mpr ⟨nd, by simp, fun a ha b hb e => hk (by rw [List.mem_singleton.mp hb] at e; rw [← e]; exact ha)⟩
theorem addZ_hashed {k : Str} {tk : Tok} {Q : Bool → Shared → Prop} (R : SetZ w s.heap a xs) (room : xs.length + 1 < scanBound)
    (hQ : ∀ b h', Heap.SameBut a s.heap h' → SetZ w h' a (addS xs k) → Q b { s with heap := h' }) :
    wpAny (model P w) A (setAddHashed a (.str k tk) ((strKind P w).hash k)) Q E s := by
  obtain ⟨o, es, ep, t, ho, hex, hd, g, nd, pm, hb, hf, hr, hl⟩ := R
  have hkey : (strKind P w).is k (.str k tk) = true := strKind_is P w k tk
  have hsc : (Value.str k tk).scannable = true := rfl
  have hel : ElemsOf (strKind P w) es.toList := goodS_elems g
  unfold setAddHashed setAddHashedIn
  refine wpAny_holding (wpAny_bind (wpAny_setState_of ho hd hf ?_))
  dsimp only
  rw [byScan_of hsc hb hel]
  simp only [↓reduceIte]
  unfold setAddByScan
  refine wpAny_bind (wpAny_bind (wpAny_rule (wpAny_bind (wpAny_setScan_of hkey ho hd hf hel ?_))))
  cases hfi : List.findIdx? (fun e => (strKind P w).is k e.2) es.toList with
  | some j =>
    dsimp only
    obtain ⟨hj, pj, _⟩ := List.findIdx?_eq_some_iff_getElem.mp hfi
    have hk : k ∈ xs := pm.mem_iff.mpr (List.mem_map.mpr ⟨es.toList[j], List.getElem_mem hj, (goodS_is (g _ (List.getElem_mem hj)) k).1 pj⟩)
    refine wpAny_pure (wpAny_pure (hQ _ s.heap (Heap.SameBut.refl a s.heap) ?_))
    rw [addS, if_pos hk]
    exact ⟨o, es, ep, t, ho, hex, hd, g, nd, pm, hb, hf, hr, hl⟩
  | none =>
    dsimp only
    have hk : k ∉ xs := fun z => by
      obtain ⟨e, he, q⟩ := List.mem_map.mp (pm.mem_iff.mp z)
      have c := List.findIdx?_eq_none_iff.mp hfi e he
      rw [(goodS_is (g e he) k).2 q] at c
      cases c
    have hgw : ∀ (b : Bool) {s₁ : Shared} {Q' : Unit → Shared → Prop}, Q' () s₁ → wpAny (model P w) A (match b with | true => rule "set.scan.the-table-gave-way" | false => pure ()) Q' E s₁ :=
      fun b s₁ Q' q => by cases b <;> first | exact wpAny_pure q | exact wpAny_rule q
    have p1 := layNew_perm t es ((strKind P w).hash k) (.str k tk)
    have f1 := layNew_fits t es ((strKind P w).hash k) (.str k tk)
    have r1 := layNew_ris t es ((strKind P w).hash k) (.str k tk) hr
    have l1 := layNew_led t es ((strKind P w).hash k) (.str k tk)
    generalize layNew t es ((strKind P w).hash k) (.str k tk) = Zz at p1 f1 r1 l1 ⊢
    obtain ⟨es1, t1, wasDummy, gave⟩ := Zz
    dsimp only at p1 f1 r1 l1 ⊢
    rw [Array.toList_push] at p1
    have g1 : ∀ e ∈ es1.toList, GoodS w e := fun e he => by
      rcases List.mem_append.mp (p1.mem_iff.mp he) with z | z
      · exact g e z
      · rw [List.mem_singleton.mp z]; exact ⟨k, tk, rfl, rfl⟩
    have pk : (addS xs k).Perm (es1.toList.map keyS) := by
      rw [addS, if_neg hk]
      refine List.Perm.trans ?_ (p1.map keyS).symm
      rw [List.map_append]
      exact pm.append_right _
    have nd1 : (addS xs k).Nodup := addS_nodup nd
    have hsz : es1.size = xs.length + 1 := by
      rw [← Array.length_toList, p1.length_eq, List.length_append, List.length_singleton]
      have := pm.length_eq
      rw [List.length_map] at this
      omega
    have hb1 : es1.size < scanBound := by rw [hsz]; exact room
    have hled : w.params.followText "set-order" = true ∨ t1.led = true := hl.imp id fun z => by rw [l1]; exact z
    refine wpAny_bind (hgw _ ?_)
    split
    · refine wpAny_bind ?_
      rw [hashByValue_scannable 8 hsc]
      refine wpAny_pure ?_
      refine addZ_tail ?_ ho hex hd g1 nd1 pk hb1 ?_ ?_ ?_ ?_
      · intro b s₁ Q' q; cases b <;> first | exact wpAny_pure q | exact wpAny_rule q
      · first | (split <;> first | exact f1 | exact SetTable.fits_plain_off f1) | exact f1
      · first | (split <;> exact r1) | exact r1
      · first | (split <;> exact hled) | exact hled
      · intro h' sb r; dsimp only; exact wpAny_pure (hQ _ h' sb r)
    · refine wpAny_bind (wpAny_pure ?_)
      simp only [↓reduceIte]
      refine addZ_tail ?_ ho hex hd g1 nd1 pk hb1 f1 r1 hled ?_
      · intro b s₁ Q' q; cases b <;> first | exact wpAny_pure q | exact wpAny_rule q
      · intro h' sb r; dsimp only; exact wpAny_pure (hQ _ h' sb r)
theorem addS_len (k : Str) : (addS xs k).length ≤ xs.length + 1 := by
  unfold addS; split
  · exact Nat.le_succ _
  · rw [List.length_append]; exact Nat.le_refl _
def met (xs : List Str) : List Str := xs.foldl addS []
theorem met_snoc (xs : List Str) (k : Str) : met (xs ++ [k]) = addS (met xs) k := by unfold met; rw [List.foldl_append]; rfl
theorem met_aux : ∀ (l acc : List Str), (l.foldl addS acc).length ≤ acc.length + l.length
  | [], acc => Nat.le_refl _
  | k :: l, acc => by
    have h1 := met_aux l (addS acc k)
    have h2 := addS_len (xs := acc) k
    rw [List.foldl_cons, List.length_cons]; omega
theorem met_len (xs : List Str) : (met xs).length ≤ xs.length := by have := met_aux xs []; simpa [met] using this
theorem loopZ {I : Addr} {fp wr : List Addr} {G : Array GenState → Array GenState → Prop} {n : Nat} {Pv : Nat → Value → Prop} {St : Nat → Shared → Prop} {R : Result → Shared → Prop}
    (W : WalksS P w A.in1 I fp wr G n Pv St) (S : Addr) (hSf : S ∉ fp) (ns : List Str) (hn : n = ns.length) (hb : ns.length + 1 < scanBound) (hval : ∀ i v, Pv i v → ∃ k t, ns[i]? = some k ∧ v = .str k t) :
    ∀ (k i : Nat) (s : Shared), n - i = k → i ≤ n → St i s → SetZ w s.heap S (met (ns.take i)) →
      (∀ s', Moved (S :: wr) G s s' → SetZ w s'.heap S (met ns) → R (.ok (.ret .none)) s') →
      codeAny (model P w) A (.builtin "set.update.loop" ⟨[.ref S, .ref I], []⟩) R s := by
  have hSw : S ∉ wr := fun h => hSf (W.sub _ h)
  have hsub : ∀ b ∈ wr, b ∈ S :: wr := fun b hb => List.mem_cons_of_mem _ hb
  intro k
  induction k with
  | zero =>
    intro i s hk' hi hst hS hR
    obtain rfl : i = n := by omega
    refine codeAny_builtin PyProof.Rows.F.entry_set_update_loop ?_
    rw [Around.under_plainId PyProof.Rows.F.plain_set_update_loop _]
    show wpAny _ A.in1 (pyNext (.ref I) >>= _) _ _ s
    refine wpAny_bind (W.done s _ _ hst fun s' hm => ?_)
    rw [List.take_of_length_le (by omega)] at hS
    show wpAny _ A.in1 (ret Value.none) _ _ s'
    exact wpAny_pure (hR s' (hm.mono hsub) (hS.at fun o e => hm.heap S o hSw e))
  | succ k ih =>
    intro i s hk' hi hst hS hR
    have hlt : i < n := by omega
    refine codeAny_builtin PyProof.Rows.F.entry_set_update_loop ?_
    rw [Around.under_plainId PyProof.Rows.F.plain_set_update_loop _]
    show wpAny _ A.in1 (pyNext (.ref I) >>= _) _ _ s
    refine wpAny_bind (W.item i s _ _ hlt hst fun v s' hP hst' hm => ?_)
    obtain ⟨z, t, hz, rfl⟩ := hval i v hP
    have hS' : SetZ w s'.heap S (met (ns.take i)) := hS.at fun o e => hm.heap S o hSw e
    show wpAny _ A.in1 (holding [Value.str z t] (setAdd S (.str z t)) >>= _) _ _ s'
    refine wpAny_bind (wpAny_holding ?_)
    unfold setAdd
    refine wpAny_holding (wpAny_bind ((strKind P w).pyHash (k := z) (strKind_is _ _ _ _) ?_))
    have hroom : (met (ns.take i)).length + 1 < scanBound := by
      have := met_len (ns.take i)
      have : (ns.take i).length ≤ ns.length := by rw [List.length_take]; omega
      omega
    refine addZ_hashed (s := { s' with toks := s'.toks + 1 }) hS' hroom fun b h' hsb hS2 => ?_
    have hS3 : SetZ w h' S (met (ns.take (i + 1))) := by
      rw [List.take_add_one, hz]
      show SetZ w h' S (met (ns.take i ++ [z]))
      rw [met_snoc]; exact hS2
    refine wpAny_pure ⟨plainId_quiet PyProof.Rows.F.plain_set_update_loop _, ih (i + 1) _ (by omega) hlt (W.frame _ s' _ _ hst' (Nat.le_succ _) fun b hb o e => ?_) hS3 fun s'' hm'' hS'' => ?_⟩
    · rw [hsb.2 b (fun h : b = S => hSf (by rw [← h]; exact hb))]; exact e
    · refine hR s'' (Moved.trans W.gtrans ((hm.mono hsub).then_heap (Nat.le_succ _) fun b o hb e => ?_) hm'') hS''
      rw [hsb.2 b (fun h : b = S => hb (by rw [h]; exact List.mem_cons_self))]; exact e
theorem setZ_new {o : Obj} (ho : h.get? a = some o) (e : o = { cls := .type "set", dict := none, data := .set #[] 0 (.fresh 0 0 (!w.params.followText "set-order")) }) : SetZ w h a [] := by
  subst e
  exact ⟨_, #[], 0, _, ho, ⟨rfl, rfl, rfl⟩, rfl, (fun e he => by simp at he), by simp, by simp, (by decide), (by rfl), List.Pairwise.nil, by
    show _ ∨ (!w.params.followText "set-order") = true
    cases w.params.followText "set-order"
    · exact .inr rfl
    · exact .inl rfl⟩
end
end DL
set_option maxHeartbeats 8000000
namespace DL
open PySem PySem.Spec PyProof.Rows L2
section
variable {P : Program} {w : World} {A : Around} {E : Value → Shared → Prop} {s : Shared}
abbrev freshSet (w : World) : Obj := { cls := .type "set", dict := none, data := .set #[] 0 (.fresh 0 0 (!w.params.followText "set-order")) }
theorem call_set_outer {v : Value} {Q : Value → Shared → Prop} (Pp : Heap → Prop)
    (hinit : ∀ R : Result → Shared → Prop, (∀ h' tk, Pp h' → R (.ok (.ret .none)) { s with heap := h', toks := tk }) →
      wpAny (model P w) A.in1.in1 (Builtin.«set.__init__» ⟨[.ref s.heap.objs.size, v], []⟩)
        (fun fin s' => match fin with | .done f => R (.ok f) s' | .again c' => c'.quiet = true ∧ codeAny (model P w) A.in1 c' R s') (fun e s' => R (.error e) s') { s with heap := s.heap.push (freshSet w) })
    (h : ∀ (h' : Heap) (tk : Nat), Pp h' → Q (.ref s.heap.objs.size) { s with heap := h', toks := tk }) :
    wpAny (model P w) A (call (.type "set") [v]) Q E s := by
  obtain ⟨c, tl, hmro⟩ := PySem.F.called_set.mro
  have hmade := PySem.F.called_set.made
  have hsub := PySem.F.called_set.sub
  refine wpAny_call (codeAny_of_tree ?_)
  show wpAny _ _ (callAny (.type "set") _) _ _ _
  refine wpAny_pure ⟨Code.quiet_builtin _ (by decide +kernel), codeAny_builtin PySem.F.entry_type_call ?_⟩
  rw [Around.under_plain (weight_type_call_type "set" [v] []) rfl]
  have h1 := PySem.F.called_set.notType
  have h2 := PySem.F.called_set.canCreate
  have hct := PySem.F.typeCall_set_1 v
  repeat (any_goals (first | assumption | wp_step))
  refine codeAny_mono (code_set_led1 v (E := E) (Q₁ := fun obj s₁ => obj = .ref s.heap.objs.size ∧ s₁ = { s with heap := s.heap.push (freshSet w) }) ⟨rfl, rfl⟩) fun r s₁ hr => ?_
  cases r with
  | error e => exact hr
  | ok fl =>
    cases fl with
    | ret obj =>
      obtain ⟨rfl, rfl⟩ := hr
      have hS : (s.heap.push (freshSet w)).get? s.heap.objs.size = some (freshSet w) := Heap.get?_push_size _ rfl
      have hT : Shared.TypeIs { s with heap := s.heap.push (freshSet w) } (.ref s.heap.objs.size) "set" := ⟨_, hS, rfl⟩
      have hli := PySem.F.called_set.init.lookup
      have hbi := PySem.F.called_set.init.bind (.ref s.heap.objs.size)
      repeat (any_goals (first | assumption | wp_step))
      refine codeAny_mono (codeAny_call_builtin (R := wants (fun r s₂ => r = .none ∧ ∃ h' tk, s₂ = { s with heap := h', toks := tk } ∧ Pp h') E) PySem.F.called_set.init.plain PySem.F.entry_set_init (check_set_init_1 hT ?_)) fun r₂ s₂ hr₂ => ?_
      · exact hinit _ fun h' tk hp => ⟨rfl, h', tk, rfl, hp⟩
      · cases r₂ with
        | error e => exact hr₂
        | ok fl₂ =>
          cases fl₂ with
          | ret r =>
            obtain ⟨rfl, h', tk, rfl, hS'⟩ := hr₂
            repeat (any_goals (first | assumption | wp_step))
            exact h _ _ hS'
          | _ => exact hr₂.elim
    | _ => exact hr.elim
theorem ne_lt {a b : Nat} (h : b < a) (z : b = a) : False := Nat.lt_irrefl _ (z ▸ h)
theorem ne_lt1 {a b : Nat} (h : b < a) (z : b = a + 1) : False := Nat.lt_irrefl _ (Nat.lt_of_lt_of_le (z ▸ h) (Nat.le_succ _))
theorem ne_succ {a : Nat} (z : a = a + 1) : False := Nat.lt_irrefl _ (Nat.lt_of_lt_of_le (Nat.lt_succ_self a) (Nat.le_of_eq z.symm))
theorem call_setT {x : Str} {t : Tok} {Q : Value → Shared → Prop} (hh : A.handled = none) (hb : x.cps.size + 1 < scanBound)
    (h : ∀ (h' : Heap) (tk : Nat), SetZ w h' s.heap.objs.size (met (signs x)) → (∀ b o, s.heap.get? b = some o → h'.get? b = some o) → Q (.ref s.heap.objs.size) { s with heap := h', toks := tk }) :
    wpAny (model P w) A (call (.type "set") [(.str x t)]) Q E s := by
  refine call_set_outer (fun h' => SetZ w h' s.heap.objs.size (met (signs x)) ∧ ∀ b o, s.heap.get? b = some o → h'.get? b = some o) (fun R hR => ?_) fun h' tk p => h h' tk p.1 p.2
  have hS : (s.heap.push (freshSet w)).get? s.heap.objs.size = some (freshSet w) := Heap.get?_push_size _ rfl
  have hT : Shared.TypeIs { s with heap := s.heap.push (freshSet w) } (.ref s.heap.objs.size) "set" := ⟨_, hS, rfl⟩
  have hz1 : (s.heap.push (freshSet w)).objs.size = s.heap.objs.size + 1 := Heap.size_push ..
  have hh3 : A.in1.in1.in1.handled = none := by simp [hh]
  have hsls := PySem.F.sub_str_set
  have hslf := PySem.F.sub_str_frozenset
  have hne : (Value.type "str" == Value.type "dict") = false := by decide
  unfold Builtin.«set.__init__» noKeywords Builtin.Frozenset.updateFrom
  generalize hPI : pyIter = PI
  wp_walk
  subst hPI
  refine wpAny_pyIter_str fun o St W st0 => ?_
  refine wpAny_bind (wpAny_runValue ?_)
  have hlen : (signs x).length = x.cps.size := by simp [signs]
  refine loopZ ((W _ hh3).toS) s.heap.objs.size (fun z => by have z := List.mem_singleton.mp z; rw [hz1] at z; exact ne_succ z) (signs x) hlen.symm (by rw [hlen]; exact hb) (fun i v hv => ?_) (x.cps.size - 0) 0 _ (by omega) (Nat.zero_le _) st0 (setZ_new (Heap.get?_push_of_some _ hS) rfl) ?_
  · obtain ⟨c, u, hc, rfl⟩ := hv
    have hc' : x.cps.toList[i]? = some c := by rw [Array.getElem?_toList]; exact hc
    exact ⟨⟨#[c]⟩, u, by simp [signs, hc'], rfl⟩
  intro s' hm hS'
  obtain ⟨h', g2, d', tk', os'⟩ := s'
  have eg : g2 = s.gens := hm.gens
  have ed : d' = s.drawn := hm.drawn
  have eo : os' = s.os := hm.os
  subst eg; subst ed; subst eo
  show wpAny _ _ _ _ _ _
  refine wpAny_pure ?_
  show wpAny _ _ (ret Value.none) _ _ _
  refine wpAny_pure (hR h' tk' ⟨hS', fun b u e => ?_⟩)
  have hb0 : b < s.heap.objs.size := Heap.lt_size e
  refine hm.heap b u (fun z => ?_) (Heap.get?_push_of_some _ (Heap.get?_push_of_some _ e))
  · rcases List.mem_cons.mp z with z | z
    · exact ne_lt hb0 z
    · have z := List.mem_singleton.mp z
      rw [hz1] at z
      exact ne_lt1 hb0 z
theorem call_setL {l : Addr} {items : Array Value} {xs : List Str} {Q : Value → Shared → Prop} (hh : A.handled = none) (hl : s.heap.IsList l items) (hi : StrsAre items.toList xs) (hb : xs.length + 1 < scanBound)
    (h : ∀ (h' : Heap) (tk : Nat), SetZ w h' s.heap.objs.size (met xs) → (∀ b o, s.heap.get? b = some o → h'.get? b = some o) → Q (.ref s.heap.objs.size) { s with heap := h', toks := tk }) :
    wpAny (model P w) A (call (.type "set") [(.ref l)]) Q E s := by
  refine call_set_outer (fun h' => SetZ w h' s.heap.objs.size (met xs) ∧ ∀ b o, s.heap.get? b = some o → h'.get? b = some o) (fun R hR => ?_) fun h' tk p => h h' tk p.1 p.2
  have hS : (s.heap.push (freshSet w)).get? s.heap.objs.size = some (freshSet w) := Heap.get?_push_size _ rfl
  have hT : Shared.TypeIs { s with heap := s.heap.push (freshSet w) } (.ref s.heap.objs.size) "set" := ⟨_, hS, rfl⟩
  have hz1 : (s.heap.push (freshSet w)).objs.size = s.heap.objs.size + 1 := Heap.size_push ..
  have hh3 : A.in1.in1.in1.handled = none := by simp [hh]
  obtain ⟨ol, hol, hcl, nl, hdl⟩ := hl
  obtain ⟨ocls, odict, odata, oslots⟩ := ol
  simp only at hcl hdl
  subst hcl; subst hdl
  have hol' : (s.heap.push (freshSet w)).get? l = some { cls := .type "list", dict := odict, data := .seq items nl, slots := oslots } := Heap.get?_push_of_some _ hol
  have hsls := PySem.F.sub_list_set
  have hslf := PySem.F.sub_list_frozenset
  have hne : (Value.type "list" == Value.type "dict") = false := by decide
  have hl1 : (s.heap.push (freshSet w)).IsList l items := ⟨_, hol', rfl, nl, rfl⟩
  unfold Builtin.«set.__init__» noKeywords Builtin.Frozenset.updateFrom
  generalize hPI : pyIter = PI
  wp_walk
  subst hPI
  refine wpAny_pyIter_list hl1 ?_
  refine wpAny_bind (wpAny_runValue ?_)
  have hlS : l < s.heap.objs.size := Heap.lt_size hol
  have hneI : l ≠ (s.heap.push (freshSet w)).objs.size := by rw [hz1]; exact fun z => ne_lt1 hlS z
  have hlen : items.size = xs.length := by rw [← StrsAre.len_eq hi, Array.length_toList]
  refine loopZ ((Walks.list hh3 _ l hneI items).toS) s.heap.objs.size (fun z => ?_) xs hlen hb (fun i v hv => ?_) (items.size - 0) 0 _ (by omega) (Nat.zero_le _)
    ⟨⟨_, Heap.get?_push_size _ rfl, rfl, rfl⟩, hl1.push _⟩ (setZ_new (Heap.get?_push_of_some _ hS) rfl) ?_
  · rcases List.mem_cons.mp z with z | z
    · rw [hz1] at z; exact ne_succ z
    · exact ne_lt hlS (List.mem_singleton.mp z).symm
  · have hi' : i < xs.length := by rw [← hlen]; exact (Array.getElem?_eq_some_iff.mp hv).1
    obtain ⟨t, e⟩ := SS.strs_at hi i v (by rw [Array.getElem?_toList]; exact hv)
    refine ⟨xs[i], t, List.getElem?_eq_getElem hi', ?_⟩
    rw [e, List.getD_eq_getElem?_getD, List.getElem?_eq_getElem hi'] <;> rfl
  intro s' hm hS'
  obtain ⟨h', g2, d', tk', os'⟩ := s'
  have eg : g2 = s.gens := hm.gens
  have ed : d' = s.drawn := hm.drawn
  have eo : os' = s.os := hm.os
  subst eg; subst ed; subst eo
  show wpAny _ _ _ _ _ _
  refine wpAny_pure ?_
  show wpAny _ _ (ret Value.none) _ _ _
  refine wpAny_pure (hR h' tk' ⟨hS', fun b u e => ?_⟩)
  have hb0 : b < s.heap.objs.size := Heap.lt_size e
  refine hm.heap b u (fun z => ?_) (Heap.get?_push_of_some _ (Heap.get?_push_of_some _ e))
  · rcases List.mem_cons.mp z with z | z
    · exact ne_lt hb0 z
    · have z := List.mem_singleton.mp z
      rw [hz1] at z
      exact ne_lt1 hb0 z
theorem call_setU {l : Addr} {items : Array Value} {xs : List Str} {Q : Value → Shared → Prop} (hh : A.handled = none) (hl : s.heap.IsTuple l items) (hi : StrsAre items.toList xs) (hb : xs.length + 1 < scanBound)
    (h : ∀ (h' : Heap) (tk : Nat), SetZ w h' s.heap.objs.size (met xs) → (∀ b o, s.heap.get? b = some o → h'.get? b = some o) → Q (.ref s.heap.objs.size) { s with heap := h', toks := tk }) :
    wpAny (model P w) A (call (.type "set") [(.ref l)]) Q E s := by
  refine call_set_outer (fun h' => SetZ w h' s.heap.objs.size (met xs) ∧ ∀ b o, s.heap.get? b = some o → h'.get? b = some o) (fun R hR => ?_) fun h' tk p => h h' tk p.1 p.2
  have hS : (s.heap.push (freshSet w)).get? s.heap.objs.size = some (freshSet w) := Heap.get?_push_size _ rfl
  have hT : Shared.TypeIs { s with heap := s.heap.push (freshSet w) } (.ref s.heap.objs.size) "set" := ⟨_, hS, rfl⟩
  have hz1 : (s.heap.push (freshSet w)).objs.size = s.heap.objs.size + 1 := Heap.size_push ..
  have hh3 : A.in1.in1.in1.handled = none := by simp [hh]
  obtain ⟨ol, hol, hcl, nl, hdl⟩ := hl
  obtain ⟨ocls, odict, odata, oslots⟩ := ol
  simp only at hcl hdl
  subst hcl; subst hdl
  have hol' : (s.heap.push (freshSet w)).get? l = some { cls := .type "tuple", dict := odict, data := .seq items nl, slots := oslots } := Heap.get?_push_of_some _ hol
  have hsls := PySem.F.sub_tuple_set
  have hslf := PySem.F.sub_tuple_frozenset
  have hne : (Value.type "tuple" == Value.type "dict") = false := by decide
  have hl1 : (s.heap.push (freshSet w)).IsTuple l items := ⟨_, hol', rfl, nl, rfl⟩
  unfold Builtin.«set.__init__» noKeywords Builtin.Frozenset.updateFrom
  generalize hPI : pyIter = PI
  wp_walk
  subst hPI
  refine wpAny_pyIter_tuple hl1 ?_
  refine wpAny_bind (wpAny_runValue ?_)
  have hlS : l < s.heap.objs.size := Heap.lt_size hol
  have hneI : l ≠ (s.heap.push (freshSet w)).objs.size := by rw [hz1]; exact fun z => ne_lt1 hlS z
  have hlen : items.size = xs.length := by rw [← StrsAre.len_eq hi, Array.length_toList]
  refine loopZ ((Walks.tuple hh3 _ l hneI items).toS) s.heap.objs.size (fun z => ?_) xs hlen hb (fun i v hv => ?_) (items.size - 0) 0 _ (by omega) (Nat.zero_le _)
    ⟨⟨_, Heap.get?_push_size _ rfl, rfl, rfl⟩, hl1.push _⟩ (setZ_new (Heap.get?_push_of_some _ hS) rfl) ?_
  · rcases List.mem_cons.mp z with z | z
    · rw [hz1] at z; exact ne_succ z
    · exact ne_lt hlS (List.mem_singleton.mp z).symm
  · have hi' : i < xs.length := by rw [← hlen]; exact (Array.getElem?_eq_some_iff.mp hv).1
    obtain ⟨t, e⟩ := SS.strs_at hi i v (by rw [Array.getElem?_toList]; exact hv)
    refine ⟨xs[i], t, List.getElem?_eq_getElem hi', ?_⟩
    rw [e, List.getD_eq_getElem?_getD, List.getElem?_eq_getElem hi'] <;> rfl
  intro s' hm hS'
  obtain ⟨h', g2, d', tk', os'⟩ := s'
  have eg : g2 = s.gens := hm.gens
  have ed : d' = s.drawn := hm.drawn
  have eo : os' = s.os := hm.os
  subst eg; subst ed; subst eo
  show wpAny _ _ _ _ _ _
  refine wpAny_pure ?_
  show wpAny _ _ (ret Value.none) _ _ _
  refine wpAny_pure (hR h' tk' ⟨hS', fun b u e => ?_⟩)
  have hb0 : b < s.heap.objs.size := Heap.lt_size e
  refine hm.heap b u (fun z => ?_) (Heap.get?_push_of_some _ (Heap.get?_push_of_some _ e))
  · rcases List.mem_cons.mp z with z | z
    · exact ne_lt hb0 z
    · have z := List.mem_singleton.mp z
      rw [hz1] at z
      exact ne_lt1 hb0 z
end
end DL
set_option maxHeartbeats 4000000
namespace DL
open PySem PySem.Spec PyProof.Rows L2
structure Later (s s' : Shared) : Prop where
  keep : ∀ b o, s.heap.get? b = some o → s'.heap.get? b = some o
  gens : s'.gens = s.gens
  os : s'.os = s.os
section
variable {P : Program} {w : World} {A : Around} {E : Value → Shared → Prop} {s : Shared}
theorem sorted_by {v : Value} {ks : List Str} {Q : Value → Shared → Prop}
    (hcol : ∀ (E' : Value → Shared → Prop) (Q' : List Value → Shared → Prop), (∀ s' vs ks', Later s s' → StrsAre vs ks' → ks'.Perm ks → Q' vs s') → wpAny (model P w) A.in1 (collect v) Q' E' s)
    (hL : ks.length ≤ sizeLine)
    (h : ∀ s1 s' p (out : Array Value) (c : Nat) (ys : List Str), Later s s1 → Later s1 s' → s1.heap.objs.size ≤ p → s'.heap.get? p = some (seqObj "list" out c) → StrsAre out.toList ys → ys.Perm ks → sortedS ys = true → Q (.ref p) s') :
    wpAny (model P w) A (call (.builtin "sorted") [v]) Q E s := by
  refine Calls.call_function_entry PyProof.Rows.kind_sorted PyProof.Rows.plain_sorted PyProof.Rows.entry_sorted (PyProof.Rows.args_sorted1 _) ?_
  unfold Builtin.«sorted»
  refine wpAny_bind (m := checkCount "sorted" 1 1 _) (wpAny_pure ?_)
  refine wpAny_bind (hcol _ _ fun s1 vs ks' la hS pk => ?_)
  have hvl : vs.length ≤ sizeLine := by rw [hS.length, pk.length_eq]; exact hL
  refine wpAny_bind (wpAny_newList ?_ hvl)
  have hoL : (s1.heap.push (seqObj "list" vs.toArray 0)).get? s1.heap.objs.size = some (seqObj "list" vs.toArray 0) := Heap.get?_push_size _ rfl
  refine wpAny_bind (wpAny_holding (wpAny_call_entry PyProof.Rows.slot_list_sort ⟨_, hoL, rfl⟩ PyProof.Rows.entry_list_sort
    (list_sort_treeKAny strKind_oneLt (s := { s1 with heap := s1.heap.push (seqObj "list" vs.toArray 0) }) hoL hS.keysOf (fun v₁ v₂ rest e => keyKind_strs (by rw [← e]; exact hS)) hvl fun st' hp hs => ⟨_, rfl, ?_⟩)
    (PyProof.Rows.args_list_sort _)))
  obtain ⟨ys, g1, g2, g3⟩ := sorted_out_str hS hp hs
  obtain ⟨c, hc⟩ := PyProof.Rows.sortedHeap_at (vs := vs) (out := (arrOf st').map (·.2)) hoL
  refine wpAny_pure ⟨_, rfl, h s1 _ s1.heap.objs.size ((arrOf st').map (·.2)) c ys la ⟨fun b u q => ?_, rfl, rfl⟩ (Nat.le_refl _) hc g1 (g2.trans pk) g3⟩
  · have hlt := Heap.lt_size q
    show (sortedHeap (s1.heap.push (seqObj "list" vs.toArray 0)) s1.heap.objs.size vs _).get? b = some u
    rw [PyProof.Rows.sortedHeap_old (Nat.ne_of_lt hlt) (by rw [size_push']; exact Nat.lt_succ_of_lt hlt)]
    exact Heap.get?_push_of_some _ q
theorem col_list {l : Addr} {vs : List Value} {ks : List Str} (hl : s.heap.IsList l vs.toArray) (hS : StrsAre vs ks) (hL : vs.length ≤ sizeLine) :
    ∀ (E' : Value → Shared → Prop) (Q' : List Value → Shared → Prop), (∀ s' vs ks', Later s s' → StrsAre vs ks' → ks'.Perm ks → Q' vs s') → wpAny (model P w) A (collect (.ref l)) Q' E' s := fun E' Q' h =>
  collect_list hl (h _ vs ks ⟨fun b o e => by
    show ((s.heap.push (seqObj "list" #[] 0)).update s.heap.objs.size _).get? b = some o
    rw [Heap.get?_update_ne _ _ _ _ (Nat.ne_of_lt (Heap.lt_size e))]
    exact Heap.get?_push_of_some _ e, rfl, rfl⟩ hS (List.Perm.refl _)) hL
theorem strs_of_all : ∀ l : List Value, (∀ v ∈ l, ∃ x tk, v = Value.str x tk) → StrsAre l (l.map fun v => match v with | .str x _ => x | _ => Str.empty)
  | [], _ => .nil
  | v :: l, h => by
    obtain ⟨x, tk, rfl⟩ := h v List.mem_cons_self
    exact .cons x tk (strs_of_all l fun u hu => h u (List.mem_cons_of_mem _ hu))
theorem col_set {a : Addr} {xs : List Str} (hh : A.handled = none) (z : SetZ w s.heap a xs) :
    ∀ (E' : Value → Shared → Prop) (Q' : List Value → Shared → Prop), (∀ s' vs ks', Later s s' → StrsAre vs ks' → ks'.Perm xs → Q' vs s') → wpAny (model P w) A (collect (.ref a)) Q' E' s := fun E' Q' h => by
  obtain ⟨o, es, ep, t, ho, hex, hd, g, nd, pm, hb, hf, hr, hl⟩ := z
  refine collect_set hh ⟨o, ho, hex.1, hd⟩ hf hb hr hl fun s1 vs k1 hz g1 o1 pv => ?_
  have hS : StrsAre vs (vs.map fun v => match v with | .str x _ => x | _ => Str.empty) := strs_of_all vs fun v hv => by
    obtain ⟨e, he, q⟩ := List.mem_map.mp (pv.mem_iff.mp hv)
    obtain ⟨k, tk, h1, _⟩ := g e he
    exact ⟨k, tk, by rw [← q]; exact h1⟩
  refine h s1 vs _ ⟨k1, g1, o1⟩ hS ?_
  refine List.Perm.trans ?_ pm.symm
  have q := pv.map fun v : Value => (match v with | .str x _ => x | _ => Str.empty : Str)
  rw [List.map_map] at q
  exact q
end
section
variable {X : Cx}
def SetZo (w : World) (a : Addr) (xs : List Str) : HO := .ext fun h => SetZ w h a xs
theorem setZo_new {w : World} {Pr : Program} {H : Hp} {h : Heap} {a : Addr} {xs : List Str} (z : SetZ w h a xs) : ObjOk Pr w H h a (SetZo w a xs) := by
  have ⟨o, _, _, _, ho, _⟩ := z
  exact ⟨z, ⟨o, ho⟩, fun h1 h2 p k => SetZ.at p k⟩
def rSetX (K : PySem.W.Frag) (w : World) : List V → Hp → VK → Prop := fun vs H Q => ∃ xs : List Str, xs.length + 1 < scanBound ∧
  ((∃ x, vs = [.str x] ∧ xs = signs x) ∨ (∃ a, vs = [.ref a] ∧ (SqL K H a (xs.map V.str) ∨ SqT K H a (xs.map V.str)))) ∧ ∀ p, H p = none → Q (.ref p) (upd H p (SetZo w p (met xs)))
theorem cr_setX (hc : X.calm = true) : CallR X (.type "set") (rSetX X.K X.w) := by
  intro pins s σ H vs us Q I r h
  obtain ⟨xs, hb, h, q⟩ := h
  have fin : ∀ (h' : Heap) (tk : Nat), SetZ X.w h' s.heap.objs.size (met xs) → (∀ b o, s.heap.get? b = some o → h'.get? b = some o) → EP X pins σ Q (.ref s.heap.objs.size) { s with heap := h', toks := tk } := fun h' tk z k => by
    have hn : H s.heap.objs.size = none := I.hok.fresh (Nat.le_refl _)
    exact ⟨.ref s.heap.objs.size, _, I.laid (o := SetZo X.w s.heap.objs.size (met xs)) k (Nat.le_refl _) (setZo_new z), rfl, q _ hn⟩
  rcases h with ⟨x, rfl, rfl⟩ | ⟨a, rfl, h | h⟩
  · obtain ⟨u, rfl, ru⟩ := vals1 r
    obtain ⟨t, rfl⟩ := ru
    exact call_setT (I.ok.hd hc) (by simpa [signs] using hb) fun h' tk z k => fin h' tk z k
  · obtain ⟨its, rv, pl, hz⟩ := I.list h
    rw [Vals.ref1 r]
    exact call_setL (I.ok.hd hc) pl.isList (by simpa using rv.strs) hb fun h' tk z k => fin h' tk z k
  · obtain ⟨its, rv, pl, hz⟩ := I.tuple h
    rw [Vals.ref1 r]
    exact call_setU (items := its.toArray) (I.ok.hd hc) (show s.heap.IsTuple a its.toArray from pl) (by simpa using rv.strs) hb fun h' tk z k => fin h' tk z k
theorem Later.inv {pins : List (Addr × Obj)} {σ : L2.St} {H : Hp} {s s' : Shared} (I : Inv X pins σ H s) (la : Later s s') : Inv X pins σ H s' :=
  I.call' (ch := []) la.os (Un.kept la.keep) (I.hok.kept la.keep) (by rw [la.gens]; exact I.bare) (fun _ z => nomatch z)
theorem sorted_fin {pins : List (Addr × Obj)} {σ : L2.St} {H : Hp} {s s1 s' : Shared} {p : Addr} {out : Array Value} {c : Nat} {ys : List Str} {Q : VK} (I : Inv X pins σ H s) (l1 : Later s s1) (la : Later s1 s') (hp : s1.heap.objs.size ≤ p)
    (ho : s'.heap.get? p = some (seqObj "list" out c)) (hS : StrsAre out.toList ys) (hL : ys.length ≤ sizeLine) (q : H p = none → Q (.ref p) (upd H p (.lst (ys.map V.str)))) : EP X pins σ Q (.ref p) s' := by
  have I1 := Later.inv I l1
  have hn : H p = none := I1.hok.fresh hp
  have J : Inv X pins σ (upd H p (.lst (ys.map V.str))) s' :=
    I1.call' (ch := []) la.os (Un.laid la.keep hp hn) (I1.hok.laid la.keep hp ⟨by rw [List.length_map]; exact hL, out.toList, c, vals_of_strs hS, ho⟩) (by rw [la.gens]; exact I1.bare) (fun _ z => nomatch z)
  exact ⟨.ref p, _, J, rfl, q hn⟩
def rSortX (K : PySem.W.Frag) (w : World) : List V → Hp → VK → Prop := fun vs H Q => ∃ (a : Addr) (xs : List Str), vs = [.ref a] ∧ xs.length ≤ sizeLine ∧ (SqL K H a (xs.map V.str) ∨ H a = some (SetZo w a xs)) ∧
  ∀ ys p, ys.Perm xs → sortedS ys = true → H p = none → Q (.ref p) (upd H p (.lst (ys.map V.str)))
theorem cr_sortX (hc : X.calm = true) : CallR X (.builtin "sorted") (rSortX X.K X.w) := by
  intro pins s σ H vs us Q I r h
  obtain ⟨a, xs, rfl, hL, h, q⟩ := h
  rw [Vals.ref1 r]
  rcases h with h | h
  · obtain ⟨its, rv, pl, hz⟩ := I.list h
    refine sorted_by (ks := xs) (col_list pl.isList rv.strs (by rw [rv.strs.length]; exact hL)) hL fun s1 s' p out c ys l1 la hp ho hS pm hs => ?_
    exact sorted_fin I l1 la hp ho hS (by rw [pm.length_eq]; exact hL) fun hn => q ys p pm hs hn
  · refine sorted_by (ks := xs) (col_set (show X.A.in1.handled = none from I.ok.hd hc) (I.hok a _ h).1) hL fun s1 s' p out c ys l1 la hp ho hS pm hs => ?_
    exact sorted_fin I l1 la hp ho hS (by rw [pm.length_eq]; exact hL) fun hn => q ys p pm hs hn
end
end DL
set_option maxHeartbeats 4000000
namespace DL
open PySem PySem.Spec PyProof.Rows L2
section
variable {X : Cx}
def KVo (v d : Addr) : HO := .ext fun h => PySem.W.KdlKeysView h v d
theorem kvo_new {w : World} {Pr : Program} {H : Hp} {h : Heap} {v d : Addr} (z : PySem.W.KdlKeysView h v d) : ObjOk Pr w H h v (KVo v d) := by
  have ⟨o, ho, _⟩ := z
  exact ⟨z, ⟨o, ho⟩, fun h1 h2 p k => let ⟨o, ho, r⟩ := p; ⟨o, k o ho, r⟩⟩
def tKeys (td : TE) : TE := fun σ H Q => td σ H fun x H1 => ∃ d kvs, x = .ref d ∧ Rd H1 d (.dK kvs) ∧ ∀ p, H1 p = none → Q (.ref p) (upd H1 p (KVo p d))
theorem pe_keys {e : Expr} {td : TE} {apos cpos : Pos} (he : PE X e td) (hbase : attributeBase e "keys" X.env (eval e X.env) = eval e X.env := by rfl) (hline : (apos.endLine == cpos.line) = true := by rfl) :
    PE X (.Call (.Attribute e "keys" apos) [] [] cpos) (tKeys td) := by
  refine ⟨fun pins s σ H Q I h => ?_⟩
  refine wpAny_Call_method (T := "dict") (id := "dict.keys") hbase rfl hline PySem.F.plainAttrs_dict PySem.F.slot_dict_keys PySem.F.type_dict_keys (thn (he.run pins s σ H _ I h) fun u s1 ⟨x, H1, I1, rx, d, kvs, ex, hd, q⟩ => ?_)
  subst ex
  obtain rfl : u = Value.ref d := rx
  obtain ⟨z, lo, vs, rel, dd⟩ := dk_rd I1.hok hd
  refine ⟨dd.typeIs, dd.mapOf.noDict, ?_⟩
  have hn : H1 s1.heap.objs.size = none := I1.hok.fresh (Nat.le_refl _)
  have fin : EP X pins σ Q (.ref s1.heap.objs.size) { s1 with heap := s1.heap.push { cls := .type "dict_keys", data := .fields #[.ref d] } } :=
    ⟨.ref s1.heap.objs.size, _, I1.laid (t' := s1.toks) (o := KVo s1.heap.objs.size d) (fun b ob q => Heap.get?_push_of_some _ q) (Nat.le_refl _) (kvo_new ⟨_, Heap.get?_push_size _ rfl, rfl, rfl⟩), rfl, q _ hn⟩
  show wpAny _ _ (callWith cpos (.builtin "dict.keys") [.ref d] [] []) _ X.xe s1
  exact method_meetsIn PySem.F.slot_dict_keys PySem.F.entry_dict_keys rfl (PySem.evalArgs_none ⟨rfl, dd.typeIs, PySem.F.args_dict_keys_1 _, _, PySem.W.kdl_meets_keys (mixKind X.prog X.w) d lo, ⟨vs, dd⟩, fin⟩)
def rSortK : List V → Hp → VK → Prop := fun vs H Q => ∃ (v d : Addr) (kvs : List (Key × V)) (ks : List Str), vs = [.ref v] ∧ H v = some (KVo v d) ∧ Rd H d (.dK kvs) ∧ kvs.map (·.1) = ks.map Sum.inr ∧
  ∀ ys p, ys.Perm ks → sortedS ys = true → H p = none → Q (.ref p) (upd H p (.lst (ys.map V.str)))
theorem cr_sortK (hc : X.calm = true) : CallR X (.builtin "sorted") rSortK := by
  intro pins s σ H xs us Q I r q
  obtain ⟨v, d, kvs, ks, rfl, hv, hd, hks, q⟩ := q
  rw [Vals.ref1 r]
  obtain ⟨z, lo, vs, rel, dd⟩ := dk_rd I.hok hd
  obtain ⟨ep, hat⟩ := dd.dictAt
  have hkeys : vs.map (·.1) = ks.map Sum.inr := rel.keys.symm.trans hks
  have hl : vs.length = ks.length := by
    have e := congrArg List.length hkeys
    rw [List.length_map, List.length_map] at e
    exact e
  have hL : ks.length ≤ sizeLine := by
    have e := congrArg List.length hks
    rw [List.length_map, List.length_map] at e
    rw [← e]; exact z
  have view : PySem.W.KdlKeysView s.heap v d := (I.hok v _ hv).1
  refine sorted_by (ks := ks) (fun E' Q' h => PySem.W.kdu_collect (A := X.A.in1) (PySem.W.kdl_keys (knd := mixKind X.prog X.w) (kvs := vs) (ep := ep)) (I.ok.hd hc) ⟨view, hat⟩ (by rw [hl]; exact hL) fun h' tk acc hk hacc => ?_) hL
    fun s1 s' p out c ys l1 la hp ho hS pm hs => sorted_fin I l1 la hp ho hS (by rw [pm.length_eq]; exact hL) fun hn => q ys p pm hs hn
  have hal : acc.toList.length = ks.length := by rw [Array.length_toList, hacc.1, hl]
  have hS : StrsAre acc.toList ks := L2.strs_at hal fun j v e => by
    obtain ⟨k, x, e1, e2⟩ := hacc.2 j v (by rw [← Array.getElem?_toList]; exact e)
    have e3 : (vs.map (·.1))[j]? = some k := by rw [List.getElem?_map, e1]; all_goals rfl
    rw [hkeys, List.getElem?_map] at e3
    cases e4 : ks[j]? with
    | none => rw [e4] at e3; cases e3
    | some y =>
      rw [e4] at e3
      have e5 : Sum.inr y = k := Option.some.inj e3
      subst e5
      obtain ⟨t, ev⟩ := Value.isStrOf_shape (x := y) (v := v) e2
      exact ⟨y, t, rfl, ev⟩
  exact h _ acc.toList ks ⟨hk, rfl, rfl⟩ hS (List.Perm.refl _)
end
end DL
namespace DL
open PySem L2
def leS (a b : Str) : Bool := decide (a.cps.toList ≤ b.cps.toList)
def srt (xs : List Str) : List Str := xs.mergeSort leS
theorem str_ext {a b : Str} (h : a.cps.toList = b.cps.toList) : a = b := by
  cases a; cases b; exact congrArg Str.mk (Array.toList_inj.mp h)
theorem leS_trans (a b c : Str) (h : leS a b = true) (g : leS b c = true) : leS a c = true :=
  decide_eq_true (List.le_trans (of_decide_eq_true h) (of_decide_eq_true g))
theorem leS_total (a b : Str) : (leS a b || leS b a) = true := by
  rcases List.le_total a.cps.toList b.cps.toList with h | h
  · rw [show leS a b = true from decide_eq_true h]; rfl
  · rw [show leS b a = true from decide_eq_true h, Bool.or_true]
theorem leS_anti {a b : Str} (h : leS a b = true) (g : leS b a = true) : a = b := str_ext (List.le_antisymm (of_decide_eq_true h) (of_decide_eq_true g))
theorem srt_perm (xs : List Str) : (srt xs).Perm xs := List.mergeSort_perm _ _
theorem srt_pw (xs : List Str) : (srt xs).Pairwise fun a b => leS a b = true := List.pairwise_mergeSort leS_trans leS_total xs
theorem rising_pw : ∀ (p : Str) (l : List Str), PyProof.Rows.risingS p l = true → (p :: l).Pairwise fun a b => leS a b = true
  | p, [], _ => List.pairwise_singleton _ _
  | p, x :: r, h => by
    have h' : (!Spec.ltCps x.cps.toList p.cps.toList && PyProof.Rows.risingS x r) = true := h
    rw [Bool.and_eq_true, PyProof.Rows.ltCps_eq] at h'
    have hx : leS p x = true := decide_eq_true (by simpa using h'.1)
    have ih := rising_pw x r h'.2
    refine List.pairwise_cons.mpr ⟨fun y hy => ?_, ih⟩
    rcases List.mem_cons.mp hy with e | e
    · rw [e]; exact hx
    · exact leS_trans _ _ _ hx (List.rel_of_pairwise_cons ih e)
theorem sorted_pw {l : List Str} (h : PyProof.Rows.sortedS l = true) : l.Pairwise fun a b => leS a b = true := by
  cases l with
  | nil => exact List.Pairwise.nil
  | cons x r => exact rising_pw x r h
theorem srt_unique {xs ys : List Str} (p : ys.Perm xs) (h : ys.Pairwise fun a b => leS a b = true) : ys = srt xs :=
  List.Perm.eq_of_pairwise (fun a b _ _ h1 h2 => leS_anti h1 h2) h (srt_pw xs) (p.trans (srt_perm xs).symm)
theorem srt_eq {xs ys : List Str} (p : ys.Perm xs) (h : PyProof.Rows.sortedS ys = true) : ys = srt xs := srt_unique p (sorted_pw h)
theorem srt_congr {xs ys : List Str} (p : ys.Perm xs) : srt ys = srt xs := srt_unique ((srt_perm ys).trans p) (srt_pw ys)
theorem mem_addS {xs : List Str} {k x : Str} : x ∈ addS xs k ↔ x ∈ xs ∨ x = k := by
  unfold addS; split
  · rename_i h; exact ⟨.inl, fun z => z.elim id fun e => e ▸ h⟩
  · simp
theorem mem_met_aux {x : Str} : ∀ (l acc : List Str), x ∈ l.foldl addS acc ↔ x ∈ acc ∨ x ∈ l
  | [], acc => by simp
  | k :: l, acc => by rw [List.foldl_cons, mem_met_aux l, mem_addS, List.mem_cons]; exact or_assoc
theorem mem_met {x : Str} {l : List Str} : x ∈ met l ↔ x ∈ l := by unfold met; rw [mem_met_aux]; simp
theorem nodup_met_aux : ∀ (l acc : List Str), acc.Nodup → (l.foldl addS acc).Nodup
  | [], _, h => h
  | k :: l, acc, h => nodup_met_aux l _ (addS_nodup h)
theorem nodup_met (l : List Str) : (met l).Nodup := nodup_met_aux l [] List.nodup_nil
def srtset (xs : List Str) : List Str := srt (met xs)
theorem mem_srtset {x : Str} {l : List Str} : x ∈ srtset l ↔ x ∈ l := by rw [srtset, (srt_perm _).mem_iff, mem_met]
theorem nodup_srtset (l : List Str) : (srtset l).Nodup := (srt_perm _).nodup_iff.mpr (nodup_met l)
def txts : List D → Option (List Str)
  | [] => some []
  | .str b :: r => (txts r).map (b :: ·)
  | _ => none
theorem txts_map : ∀ bs : List Str, txts (bs.map D.str) = some bs
  | [] => rfl
  | b :: bs => by rw [List.map_cons, txts, txts_map bs]; rfl
theorem txts_of {K : PySem.W.Frag} {F : Hp} : ∀ {ds : List D} {bs : List Str} {vs : List V}, txts ds = some bs → Reps K F ds vs → vs = bs.map V.str
  | [], _, _, e, r => by cases e; exact r
  | d :: ds, bs, vs, e, r => by
    cases d <;> first | (cases (show (none : Option (List Str)) = some bs from e)) | skip
    rename_i b
    rw [txts] at e
    cases q : txts ds with
    | none => rw [q] at e; cases e
    | some cs =>
      rw [q] at e; cases e
      obtain ⟨v, r', rfl, rfl, h⟩ := r
      rw [txts_of q h]; rfl
section
variable {K : PySem.W.Frag} {w : World}
def oSort : OL := fun ds P => match ds with
  | [.lst xs] => asA (txts xs) fun ss => ss.length ≤ sizeLine ∧ P (.ol ((srt ss).map .str))
  | _ => False
theorem snd_sort : SndL K (rSortX K w) oSort := ⟨fun {F H ds vs P Q} fh r h k => by
  unfold oSort at h
  split at h
  · obtain ⟨v, _, rfl, ⟨a, us, rfl, h1, h2⟩, rfl⟩ := r
    obtain ⟨ss, e, hz, h⟩ := asA_of h
    have q := txts_of e h2
    subst q
    exact ⟨a, ss, rfl, hz, .inl (fh.seq (SqL.of h1)), fun ys p pm hs n => by rw [srt_eq pm hs]; exact k.newL fh h (Reps.strs.mpr rfl) n⟩
  · exact h.elim⟩
def oSortSet : OL := fun ds P => match ds with
  | [.lst xs] => asA (txts xs) fun ss => ss.length + 1 < scanBound ∧ P (.ol ((srtset ss).map .str))
  | [.tup xs] => asA (txts xs) fun ss => ss.length + 1 < scanBound ∧ P (.ol ((srtset ss).map .str))
  | [.str x] => x.length + 1 < scanBound ∧ P (.ol ((srtset (signs x)).map .str))
  | _ => False
def rSortSet (K : PySem.W.Frag) (w : World) : List V → Hp → VK → Prop := fun vs H Q => rSetX K w vs H fun x H1 => rSortX K w [x] H1 Q
theorem met_small {xs : List Str} (h : xs.length + 1 < scanBound) : (met xs).length ≤ sizeLine := by
  have h1 := met_len xs
  have h2 : scanBound ≤ sizeLine := by decide
  omega
theorem snd_sortSet : SndL K (rSortSet K w) oSortSet := ⟨fun {F H ds vs P Q} fh r h k => by
  have fin : ∀ (xs : List Str), xs.length + 1 < scanBound → P (.ol ((srtset xs).map .str)) → ∀ p, H p = none → rSortX K w [.ref p] (upd H p (SetZo w p (met xs))) Q := fun xs hb hP p n =>
    ⟨p, met xs, rfl, met_small hb, .inr upd_same, fun ys p2 pm hs n2 => by
      rw [srt_eq pm hs]
      have fh2 : Same F (upd H p (SetZo w p (met xs))) := fh.trans (Same.new n)
      exact k (.ol ((srtset xs).map .str)) _ F _ hP ((Same.new n).trans (Same.new n2)) (Same.refl _) (fh2.trans (Same.new n2)) (fun _ q => .inl q)
        ⟨p2, _, rfl, upd_same, Reps.strs.mpr rfl, (Same.new n).free n2, fh2.free n2⟩⟩
  unfold oSortSet at h
  split at h
  · obtain ⟨v, _, rfl, ⟨a, us, rfl, h1, h2⟩, rfl⟩ := r
    obtain ⟨ss, e, hz, h⟩ := asA_of h
    have q := txts_of e h2
    subst q
    exact ⟨ss, hz, .inr ⟨a, rfl, .inl (fh.seq (SqL.of h1))⟩, fin ss hz h⟩
  · obtain ⟨v, _, rfl, ⟨a, us, rfl, h1, h2⟩, rfl⟩ := r
    obtain ⟨ss, e, hz, h⟩ := asA_of h
    have q := txts_of e h2
    subst q
    exact ⟨ss, hz, .inr ⟨a, rfl, .inr (Same.sqT fh h1)⟩, fin ss hz h⟩
  · rename_i x
    obtain ⟨v, _, rfl, rfl, rfl⟩ := r
    have e : (signs x).length = x.length := by simp [signs]; rfl
    have hz : (signs x).length + 1 < scanBound := by rw [e]; exact h.1
    exact ⟨signs x, hz, .inl ⟨_, rfl, rfl⟩, fin _ hz h.2⟩
  · exact h.elim⟩
def oList : OL := fun ds P => match ds with
  | [.lst xs] => P (.ol xs)
  | [.tup xs] => P (.ol xs)
  | _ => False
theorem snd_list : SndL K (fun xs H Q => ∃ p ys, xs = [.ref p] ∧ (SqL K H p ys ∨ SqT K H p ys) ∧ ∀ l, H l = none → Q (.ref l) (upd H l (.lst ys))) oList := ⟨fun {F H ds vs P Q} fh r h k => by
  unfold oList at h
  split at h
  · obtain ⟨v, _, rfl, ⟨a, us, rfl, h1, h2⟩, rfl⟩ := r
    exact ⟨a, us, rfl, .inl (fh.seq (SqL.of h1)), fun l n => k.newL fh h h2 n⟩
  · obtain ⟨v, _, rfl, ⟨a, us, rfl, h1, h2⟩, rfl⟩ := r
    exact ⟨a, us, rfl, .inr (Same.sqT fh h1), fun l n => k.newL fh h h2 n⟩
  · exact h.elim⟩
def oTuple : OL := fun ds P => match ds with
  | [.lst xs] => P (.d (.tup xs))
  | [.tup xs] => P (.d (.tup xs))
  | _ => False
theorem snd_tuple : SndL K (fun xs H Q => ∃ p ys, xs = [.ref p] ∧ ((SqL K H p ys ∧ ∀ l, H l = none → Q (.ref l) (upd H l (.tup ys))) ∨ (SqT K H p ys ∧ Q (.ref p) H))) oTuple := ⟨fun {F H ds vs P Q} fh r h k => by
  unfold oTuple at h
  split at h
  · obtain ⟨v, _, rfl, ⟨a, us, rfl, h1, h2⟩, rfl⟩ := r
    exact ⟨a, us, rfl, .inl ⟨fh.seq (SqL.of h1), fun l n => k.newT fh h h2 n⟩⟩
  · obtain ⟨v, _, rfl, ⟨a, us, rfl, h1, h2⟩, rfl⟩ := r
    exact ⟨a, us, rfl, .inr ⟨Same.sqT fh h1, k.flat fh h ⟨a, us, rfl, h1, h2⟩⟩⟩
  · exact h.elim⟩
end
section
variable {K : PySem.W.Frag} {w : World} {X : Cx} {Z : Zx} {pos p p2 : Pos} {a b e : Expr} {ta tb te : TE} {wa wb we : W}
abbrev qList (K : PySem.W.Frag) : List V → Hp → VK → Prop := fun xs H Q => ∃ p ys, xs = [.ref p] ∧ (SqL K H p ys ∨ SqT K H p ys) ∧ ∀ l, H l = none → Q (.ref l) (upd H l (.lst ys))
abbrev qTuple (K : PySem.W.Frag) : List V → Hp → VK → Prop := fun xs H Q => ∃ p ys, xs = [.ref p] ∧ ((SqL K H p ys ∧ ∀ l, H l = none → Q (.ref l) (upd H l (.tup ys))) ∨ (SqT K H p ys ∧ Q (.ref p) H))
theorem de_tuple (m : X.mg "tuple" = none) (ha : DE K X Z a ta wa) (hg : Gl X "tuple" := by rfl) (hs : starEach [a] X.env = [(false, eval a X.env)] := by rfl) (hK : X.K = K := by rfl) : DE K X Z (.Call (.Name "tuple" p) [a] [] pos) (tCB (qTuple K) (tCons ta tNil)) (wCB oTuple (wCons wa wNil)) := by
  subst hK
  exact de_callTy call_tuple_of snd_tuple hg m (by decide +kernel) (da_cons ha da_nil hs) (hn := by decide) (hdb := by decide) (he := hs) (hpl := rfl)
theorem de_sortSet (hc : X.calm = true) (m : X.mg "sorted" = none) (m2 : X.mg "set" = none) (ha : DE K X Z a ta wa) (hg : Gl X "sorted" := by rfl) (hg2 : Gl X "set" := by rfl) (hs : starEach [a] X.env = [(false, eval a X.env)] := by rfl)
    (hs2 : starEach [Expr.Call (.Name "set" p2) [a] [] pos] X.env = [(false, eval (Expr.Call (.Name "set" p2) [a] [] pos) X.env)] := by rfl) (hK : X.K = K := by rfl) (hw : X.w = w := by rfl) {pos2 : Pos} :
    DE K X Z (.Call (.Name "sorted" p) [.Call (.Name "set" p2) [a] [] pos] [] pos2) (tCB (rSortX K w) (tCons (tCB (rSetX K w) (tCons ta tNil)) tNil)) (wCB oSortSet (wCons wa wNil)) := by
  subst hK; subst hw
  refine ⟨pe_callB (cr_sortX hc) hg m (by decide +kernel) (pa_cons (pe_callTy (cr_setX hc) hg2 m2 (by decide +kernel) (pa_cons ha.pe pa_nil hs) (hn := by decide) (hdb := by decide) (he := hs) (hpl := rfl)) pa_nil hs2) (hn := by decide) (hdb := by decide) (he := hs2) (hpl := rfl), ?_⟩
  exact cb_run (t := tCons ta tNil) (r := rSortSet X.K X.w) (da_cons ha (da_nil (X := X) (Z := Z)) hs).run snd_sortSet
end
end DL
namespace DL
open PySem L2
def seeR : R → R
  | [] => []
  | some s :: r => some (.d s.fz) :: seeR r
  | none :: r => none :: seeR r
theorem seeR_len : ∀ ρ : R, (seeR ρ).length = ρ.length
  | [] => rfl
  | some s :: r => congrArg Nat.succ (seeR_len r)
  | none :: r => congrArg Nat.succ (seeR_len r)
theorem seeR_get : ∀ {ρ : R} {i : Nat} {s : S}, (seeR ρ)[i]? = some (some s) → ∃ t, s = .d t.fz ∧ ρ[i]? = some (some t)
  | [], i, s, h => by simp [seeR] at h
  | some t :: r, 0, s, h => by simp [seeR] at h; exact ⟨t, h.symm, rfl⟩
  | none :: r, 0, s, h => by simp [seeR] at h
  | some t :: r, i + 1, s, h => by simp [seeR] at h; obtain ⟨u, e, q⟩ := seeR_get h; exact ⟨u, e, by simpa using q⟩
  | none :: r, i + 1, s, h => by simp [seeR] at h; obtain ⟨u, e, q⟩ := seeR_get h; exact ⟨u, e, by simpa using q⟩
section
variable {K : PySem.W.Frag} {H0 F0 F H : Hp} {ρ : R} {σ : St}
theorem SRep.see {s : S} {v : V} (fh : Same F H) (h : SRep K H0 F H s v) : Rep K H s.fz v := by
  cases s with
  | d x => exact Rep.mono fh _ _ h
  | ol xs => obtain ⟨a, vs, e, h1, h2, _, _⟩ := h; exact ⟨a, vs, e, h1, Reps.mono fh _ _ h2⟩
  | od kvs =>
    obtain ⟨a, kvs', e, h1, hk, h2, _, _⟩ := h
    refine ⟨a, kvs'.map (·.2), e, ?_, ?_, Reps.mono fh _ _ h2⟩
    · refine .inl ?_; rw [h1, ← hk, zip_unzip]
    · rw [h2.len, List.length_map, List.length_map]
  | oi N kvs =>
    obtain ⟨a, C, dx, kvs', e, g, h1, hk, h2, _, _⟩ := h
    refine ⟨a, C, dx, kvs'.map (·.2), e, g, ?_, ?_, Reps.mono fh _ _ h2⟩
    · rw [h1, ← hk, zip_unzip]
    · rw [h2.len, List.length_map, List.length_map]
  | os b N kvs =>
    obtain ⟨_, a, C, dx, kvs', e, g, h1, hk, h2, _, _⟩ := h
    refine ⟨a, C, dx, kvs'.map (·.2), e, g, ?_, ?_, Reps.mono fh _ _ h2⟩
    · rw [h1, ← hk, zip_unzip]
    · rw [h2.len, List.length_map, List.length_map]
theorem Rel.see (r : Rel K H0 F0 F H ρ σ) : Rel K H H H H (seeR ρ) σ := by
  refine ⟨Same.refl _, Same.refl _, Same.refl _, fun _ q => .inl q, by rw [seeR_len]; exact r.len, fun i s q => ?_, fun i j s t q1 q2 w1 w2 z => ?_⟩
  · obtain ⟨t, rfl, q'⟩ := seeR_get q
    obtain ⟨v, e, sr⟩ := r.at_ i t q'
    exact ⟨v, e, sr.see r.fh⟩
  · obtain ⟨t, rfl, q'⟩ := seeR_get q1
    cases w1
end
section
variable {K : PySem.W.Frag} {X : Cx} {Z : Zx} {pos p p2 apos cpos : Pos} {a b e o : Expr} {ta tb te to : TE} {wa wb we wo : W} {i : Nat}
theorem Zx.Ok.all {H0 F0 F H : Hp} {ρ : R} {σ : St} (zo : Z.Ok K H0 F0) (r : Rel K H0 F0 F H ρ σ) : Z0.Ok K H H := Z0.ok
def wLend (w : W) : W := fun ρ P => w (seeR ρ) fun s _ => s.fz.flat = true ∧ P (.d s.fz) ρ
theorem run_lend {t : TE} {w : W} (h : RunE K Z0 t w) : RunE K Z t (wLend w) := fun {H0 F0 F H ρ σ Q P} zo r q k =>
  h Z0.ok r.see q fun s ρ' F' H' v p f r' sr fr => by
    obtain ⟨F2, f2, r2, rp2⟩ := r'.freeze sr fr
    have r3 : Rel K H0 F0 F H' ρ σ := r.grow r'.h
    exact k _ _ F H' v p.2 (Same.refl _) r3 (Rep.flat rp2 p.1) fun w => nomatch w
theorem de_lend {t : TE} {w : W} (h : DE K X Z0 e t w) : DE K X Z e t (wLend w) := ⟨h.pe, run_lend h.run⟩
def wLendT (w : WT) : WT := fun ρ P => w (seeR ρ) fun b _ => P b ρ
theorem run_lendT {t : TT} {w : WT} (h : RunT K Z0 t w) : RunT K Z t (wLendT w) := fun {H0 F0 F H ρ σ Q P} zo r q k =>
  h Z0.ok r.see q fun b ρ' F' H' p f r' => k _ _ F H' p (Same.refl _) (r.grow r'.h)
theorem dt_lend {t : TT} {w : WT} (h : DT K X Z0 e t w) : DT K X Z e t (wLendT w) := ⟨h.pe, run_lendT h.run⟩
def asOL (o : Option S) (P : List D → Prop) : Prop := match o with
  | some (.ol xs) => P xs
  | _ => False
theorem asOL_of {o : Option S} {P : List D → Prop} (h : asOL o P) : ∃ xs, o = some (.ol xs) ∧ P xs := by
  unfold asOL at h; split at h
  · exact ⟨_, rfl, h⟩
  · exact h.elim
def asOD (o : Option S) (P : List (Key × D) → Prop) : Prop := match o with
  | some (.od xs) => P xs
  | _ => False
theorem asOD_of {o : Option S} {P : List (Key × D) → Prop} (h : asOD o P) : ∃ xs, o = some (.od xs) ∧ P xs := by
  unfold asOD at h; split at h
  · exact ⟨_, rfl, h⟩
  · exact h.elim
def wM (i : Nat) (o : List D → List D → (S → List D → Prop) → Prop) (wr : WA) : W := fun ρ P => asOL (nth ρ i) fun _ => wr ρ fun ds ρ1 => asOL (nth ρ1 i) fun xs => o xs ds fun s ys => P s (put ρ1 i (some (.ol ys)))
structure SndM (K : PySem.W.Frag) (r : V → List V → Hp → VK → Prop) (o : List D → List D → (S → List D → Prop) → Prop) : Prop where
  run : ∀ {F H : Hp} {l : Addr} {vs us : List V} {xs ds : List D} {P : S → List D → Prop} {Q : VK}, Same F H → H l = some (.lst vs) → F l = none → Reps K F xs vs → Reps K F ds us → o xs ds P →
    (∀ d ys v vs', P (.d d) ys → Rep K F d v → Reps K F ys vs' → Q v (upd H l (.lst vs'))) → r (.ref l) us H Q
theorem run_M {T : String} {ta : TA} {wr : WA} {r : V → List V → Hp → VK → Prop} {o : List D → List D → (S → List D → Prop) → Prop} (hT : T = "list") (ha : RunA K Z ta wr) (ho : SndM K r o) : RunE K Z (tBM K T r (tVar i) ta) (wM i o wr) := fun {H0 F0 F H ρ σ Q P} zo rl h k => by
  obtain ⟨xs0, e0, h⟩ := asOL_of h
  obtain ⟨v, ev, a, vs, rfl, hl, _⟩ := rl.at_ i _ (nth_some e0)
  refine ⟨.ref a, ev, .inl ⟨hT, vs, SqL.of hl⟩, ha zo rl h fun ds ρ1 F1 H1 us h1 f1 r1 rps => ?_⟩
  obtain ⟨xs, e1, h1⟩ := asOL_of h1
  obtain ⟨v2, ev2, a2, vs2, rfl, hl2, rx, n0, n1⟩ := r1.at_ i _ (nth_some e1)
  rw [ev] at ev2; cases ev2
  refine ho.run r1.fh hl2 n1 rx rps h1 fun d ys v vs' p rd ry => ?_
  rw [put_eq] at p
  exact k _ _ F1 _ v p f1 (r1.write (nth_some e1) rfl ev ⟨a, vs', rfl, upd_same, ry, n0, n1⟩ rfl) rd fun w => nomatch w
def oAppend : List D → List D → (S → List D → Prop) → Prop := fun xs ds P => match ds with
  | [d] => xs.length < sizeLine ∧ P (.d .non) (xs ++ [d])
  | _ => False
theorem snd_append : SndM K rAppend oAppend := ⟨fun {F H l vs us xs ds P Q} fh hl n rx rd h k => by
  unfold oAppend at h
  split at h
  · obtain ⟨v, _, rfl, rv, rfl⟩ := rd
    exact ⟨l, vs, v, rfl, rfl, hl, by rw [rx.len]; exact h.1, k _ _ _ _ h.2 rfl (rx.app (.one rv))⟩
  · exact h.elim⟩
def oPop : List D → List D → (S → List D → Prop) → Prop := fun xs ds P => match ds with
  | [] => asA xs[xs.length - 1]? fun d => P (.d d) xs.dropLast
  | _ => False
theorem Reps.dropLast {F : Hp} {xs : List D} {vs : List V} (h : Reps K F xs vs) : Reps K F xs.dropLast vs.dropLast := by
  rw [List.dropLast_eq_take, List.dropLast_eq_take, h.len]; exact h.take _
section
variable {x : Str} {ta : TA} {wr : WA}
theorem de_append (i : Nat) (ha : DE K X Z e te we) (hN : X.N[i]? = some x := by rfl) (hv : Vis X.env.scope x := by first | exact Or.inl rfl | exact Or.inr (Or.inl rfl) | exact Or.inr (Or.inr rfl)) (hd : (x == ("__debug__" : Str)) = false := by decide)
    (hcd : (x == ("__classdict__" : Str)) = false := by decide) (hs : starEach [e] X.env = [(false, eval e X.env)] := by rfl)
    (hbase : attributeBase (.Name x p) "append" X.env (eval (.Name x p) X.env) = eval (.Name x p) X.env := by rfl)
    (hfew : ((backTo cpos (starEach [e] X.env)).all (fun x => !x.1) && (backToKw cpos (keywordEach [] X.env)).all (fun x => x.1.isSome)
      && decide (([e] : List Expr).length + ([] : List Keyword).length + (if ([] : List Keyword).isEmpty then 0 else 1) < 30)) = true := by rfl)
    (hline : (apos.endLine == cpos.line) = true := by rfl) (hK : X.K = K := by rfl) :
    DE K X Z (.Call (.Attribute (.Name x p) "append" apos) [e] [] cpos) (tBM K "list" rAppend (tVar i) (tCons te tNil)) (wM i oAppend (wCons we wNil)) := by
  subst hK
  exact ⟨pe_bm PySem.F.plainAttrs_list PySem.F.slot_list_append PySem.F.type_list_append mt_append (pe_var hN hv hd hcd) (pa_cons ha.pe pa_nil hs) hbase hfew hline hs rfl, run_M rfl (da_cons ha (da_nil (X := X) (Z := Z)) hs).run snd_append⟩
end
def vget {β : Type} (kvs : List (Key × β)) (k : Key) : Option β := (kvs.find? fun kv => decide (kv.1 = k)).map (·.2)
def vput {β : Type} (kvs : List (Key × β)) (k : Key) (v : β) : List (Key × β) :=
  if (kvs.any fun kv => decide (kv.1 = k)) = true then kvs.map (fun kv => if kv.1 = k then (kv.1, v) else kv) else kvs ++ [(k, v)]
def vdrop {β : Type} (kvs : List (Key × β)) (k : Key) : List (Key × β) := kvs.filter fun kv => decide (kv.1 ≠ k)
def asKey (d : D) (P : Key → Prop) : Prop := match d with
  | .int i => P (.inl i)
  | .str x => P (.inr x)
  | _ => False
theorem asKey_of {F : Hp} {d : D} {v : V} {P : Key → Prop} (h : asKey d P) (r : Rep K F d v) : ∃ k, v = kV k ∧ P k := by
  cases d <;> first | exact h.elim | exact ⟨.inl _, r, h⟩ | exact ⟨.inr _, r, h⟩
def KRep (K : PySem.W.Frag) (F : Hp) (kvs : List (Key × D)) (kvs' : List (Key × V)) : Prop := kvs'.map (·.1) = kvs.map (·.1) ∧ Reps K F (kvs.map (·.2)) (kvs'.map (·.2))
theorem KRep.cons {F : Hp} {p : Key × D} {kvs : List (Key × D)} {l : List (Key × V)} (h : KRep K F (p :: kvs) l) : ∃ q l', l = q :: l' ∧ q.1 = p.1 ∧ Rep K F p.2 q.2 ∧ KRep K F kvs l' := by
  obtain ⟨h1, h2⟩ := h
  cases l with
  | nil => simp at h1
  | cons q l' =>
    rw [List.map_cons, List.map_cons] at h1
    obtain ⟨v, r, e, rv, rr⟩ := h2
    rw [List.map_cons] at e
    obtain ⟨e1, e2⟩ := List.cons.inj e
    obtain ⟨e3, e4⟩ := List.cons.inj h1
    exact ⟨q, l', rfl, e3, by rw [e1]; exact rv, e4, by rw [e2]; exact rr⟩
theorem KRep.mk {F : Hp} {p : Key × D} {q : Key × V} {kvs : List (Key × D)} {l : List (Key × V)} (e : q.1 = p.1) (r : Rep K F p.2 q.2) (h : KRep K F kvs l) : KRep K F (p :: kvs) (q :: l) :=
  ⟨by rw [List.map_cons, List.map_cons, e, h.1], ⟨_, _, rfl, r, h.2⟩⟩
theorem KRep.nil {F : Hp} {l : List (Key × V)} (h : KRep K F [] l) : l = [] := by
  have := h.1; simpa using this
theorem KRep.get {F : Hp} {k : Key} : ∀ {kvs : List (Key × D)} {l : List (Key × V)}, KRep K F kvs l → (∃ d v, vget kvs k = some d ∧ valV l k = some v ∧ Rep K F d v) ∨ (vget kvs k = none ∧ valV l k = none)
  | [], l, h => by rw [h.nil]; exact .inr ⟨rfl, rfl⟩
  | p :: kvs, l, h => by
    obtain ⟨q, l', rfl, e, r, h'⟩ := h.cons
    by_cases hk : p.1 = k
    · exact .inl ⟨p.2, q.2, by simp [vget, hk], by simp [valV, e, hk], r⟩
    · rcases h'.get (k := k) with ⟨d, v, h1, h2, h3⟩ | ⟨h1, h2⟩
      · exact .inl ⟨d, v, by simpa [vget, List.find?_cons, hk] using h1, by simpa [valV, List.find?_cons, e, hk] using h2, h3⟩
      · exact .inr ⟨by simpa [vget, List.find?_cons, hk] using h1, by simpa [valV, List.find?_cons, e, hk] using h2⟩
theorem KRep.any {F : Hp} {k : Key} : ∀ {kvs : List (Key × D)} {l : List (Key × V)}, KRep K F kvs l → (l.any fun kv => decide (kv.1 = k)) = (kvs.any fun kv => decide (kv.1 = k))
  | [], l, h => by rw [h.nil]; rfl
  | p :: kvs, l, h => by
    obtain ⟨q, l', rfl, e, r, h'⟩ := h.cons
    rw [List.any_cons, List.any_cons, e, h'.any]
theorem KRep.app {F : Hp} {k : Key} {d : D} {v : V} (r : Rep K F d v) : ∀ {kvs : List (Key × D)} {l : List (Key × V)}, KRep K F kvs l → KRep K F (kvs ++ [(k, d)]) (l ++ [(k, v)])
  | [], l, h => by rw [h.nil]; exact KRep.mk rfl r ⟨rfl, rfl⟩
  | p :: kvs, l, h => by
    obtain ⟨q, l', rfl, e, r', h'⟩ := h.cons
    exact KRep.mk e r' (KRep.app r h')
theorem KRep.map {F : Hp} {k : Key} {d : D} {v : V} (r : Rep K F d v) : ∀ {kvs : List (Key × D)} {l : List (Key × V)}, KRep K F kvs l → KRep K F (kvs.map fun kv => if kv.1 = k then (kv.1, d) else kv) (l.map fun kv => if kv.1 = k then (kv.1, v) else kv)
  | [], l, h => by rw [h.nil]; exact ⟨rfl, rfl⟩
  | p :: kvs, l, h => by
    obtain ⟨q, l', rfl, e, r', h'⟩ := h.cons
    rw [List.map_cons, List.map_cons]
    by_cases hk : p.1 = k
    · rw [if_pos hk, if_pos (e.trans hk)]; exact KRep.mk e r (KRep.map r h')
    · rw [if_neg hk, if_neg (fun z => hk (e.symm.trans z))]; exact KRep.mk e r' (KRep.map r h')
theorem KRep.put {F : Hp} {k : Key} {d : D} {v : V} {kvs : List (Key × D)} {l : List (Key × V)} (r : Rep K F d v) (h : KRep K F kvs l) : KRep K F (vput kvs k d) (putK l k v) := by
  unfold vput putK
  rw [h.any (k := k)]
  split
  · exact KRep.map r h
  · exact KRep.app r h
theorem KRep.drop {F : Hp} {k : Key} : ∀ {kvs : List (Key × D)} {l : List (Key × V)}, KRep K F kvs l → KRep K F (vdrop kvs k) (dropK l k)
  | [], l, h => by rw [h.nil]; exact ⟨rfl, rfl⟩
  | p :: kvs, l, h => by
    obtain ⟨q, l', rfl, e, r', h'⟩ := h.cons
    unfold vdrop dropK
    by_cases hk : p.1 = k
    · rw [List.filter_cons_of_neg (by simp [hk]), List.filter_cons_of_neg (by simp [e, hk])]; exact KRep.drop h'
    · rw [List.filter_cons_of_pos (by simp [hk]), List.filter_cons_of_pos (by simp [e, hk])]; exact KRep.mk e r' (KRep.drop h')
theorem KRep.len {F : Hp} {kvs : List (Key × D)} {l : List (Key × V)} (h : KRep K F kvs l) : l.length = kvs.length := by
  have := congrArg List.length h.1; simpa using this
def wDict0 : W := fun ρ P => P (.od []) ρ
theorem de_dict0 : DE K X Z (.Dict [] [] pos) tDNewK wDict0 := ⟨pe_dnewK, fun {H0 F0 F H ρ σ Q P} zo rl h k d n => (rl.kont (Same.refl _) k).newD rl.fh h rfl rfl n⟩
def asDic (d : D) (P : List (Key × D) → Prop) : Prop := match d with
  | .dic ks xs => P (ks.zip xs)
  | _ => False
theorem asDic_of {F : Hp} {d : D} {v : V} {P : List (Key × D) → Prop} (h : asDic d P) (r : Rep K F d v) : ∃ a kvs l, v = .ref a ∧ Rd F a (.dK l) ∧ KRep K F kvs l ∧ P kvs := by
  cases d <;> first | exact h.elim | skip
  rename_i ks xs
  obtain ⟨a, vs, e, h1, hl, h2⟩ := r
  have hx : vs.length = xs.length := h2.len
  refine ⟨a, ks.zip xs, _, e, h1, ⟨?_, ?_⟩, h⟩
  · rw [List.map_fst_zip (by omega), List.map_fst_zip (by omega)]
  · rw [List.map_snd_zip (by omega), List.map_snd_zip (by omega)]; exact h2
def wDGet2 (wd wk wx : W) : W := fun ρ P => wd ρ fun s ρ1 => asDic s.fz fun kvs => wk ρ1 fun k ρ2 => wx ρ2 fun x ρ3 => asKey k.fz fun k => P (.d ((vget kvs k).getD x.fz)) ρ3
theorem de_dget2 {f : Expr} {tf : TE} {wf : W} (hu : X.A.units + 1 < cLine) (ho : DE K X Z o to wo) (hk : DE K X Z e te we) (hx : DE K X Z f tf wf) (m : M2 X o "get" apos e f cpos) : DE K X Z (.Call (.Attribute o "get" apos) [e, f] [] cpos) (tDGet2 to te tf) (wDGet2 wo we wf) := by
  refine ⟨pe_dget2 hu ho.pe hk.pe hx.pe m, fun {H0 F0 F H ρ σ Q P} zo rl h k => ho.run zo rl h fun s1 ρ1 F1 H1 v1 h1 f1 r1 sr1 fr1 => ?_⟩
  obtain ⟨F2, f2, r2, rp2⟩ := r1.freeze sr1 fr1
  obtain ⟨a, kvs, l, rfl, hl, kr, h1⟩ := asDic_of h1 rp2
  refine ⟨a, rfl, .inl ⟨l, (Same.rd r2.fh hl)⟩, hk.run zo r2 h1 fun s3 ρ3 F3 H3 v3 h3 f3 r3 sr3 fr3 => ?_⟩
  obtain ⟨F4, f4, r4, rp4⟩ := r3.freeze sr3 fr3
  refine hx.run zo r4 h3 fun s5 ρ5 F5 H5 v5 h5 f5 r5 sr5 fr5 => ?_
  obtain ⟨F6, f6, r6, rp6⟩ := r5.freeze sr5 fr5
  obtain ⟨key, rfl, h5⟩ := asKey_of h5 (Rep.mono (f5.trans f6) _ _ rp4)
  have hl' := Same.rd (f3.trans (f4.trans (f5.trans f6))) hl
  refine ⟨valV l key, .inl ⟨l, key, (Same.rd r6.fh hl'), rfl, rfl⟩, k _ _ F6 H5 _ h5 (f1.trans (f2.trans (f3.trans (f4.trans (f5.trans f6))))) r6 ?_ fun w => nomatch w⟩
  rcases kr.get (k := key) with ⟨d', v, g1, g2, g3⟩ | ⟨g1, g2⟩
  · rw [g1, g2]; exact Rep.mono (f3.trans (f4.trans (f5.trans f6))) _ _ g3
  · rw [g1, g2]; exact rp6
end
end DL
namespace DL
open PySem L2
section
variable {K : PySem.W.Frag} {X : Cx} {Z : Zx} {pos p p2 pos' apos cpos : Pos} {a b e o : Expr} {ta tb te to : TE} {wa wb we wo : W} {i : Nat}
def wJoin (wo we : W) : W := fun ρ P => wo ρ fun s ρ1 => asS s.fz fun a => we ρ1 fun x ρ2 => asSq x.fz fun xs => asA (txts xs) fun ss => (ss.map (·.length)).sum + ss.length * a.length ≤ 16777216 ∧ P (.d (.str (Txt.join a ss))) ρ2
abbrev qJoin (K : PySem.W.Frag) : V → List V → Hp → VK → Prop := fun x xs H Q => ∃ a p, ∃ ys : List Str, x = .str a ∧ xs = [.ref p] ∧ (SqL K H p (ys.map V.str) ∨ SqT K H p (ys.map V.str)) ∧
      (ys.map (·.length)).sum + ys.length * a.length ≤ 16777216 ∧ Q (.str (Txt.join a ys)) H
theorem run_join (ho : RunE K Z to wo) (he : RunE K Z te we) : RunE K Z (tM1 (qJoin K) to te) (wJoin wo we) := fun {H0 F0 F H ρ σ Q P} zo rl h k => ho zo rl h fun s1 ρ1 F1 H1 v1 h1 f1 r1 sr1 fr1 => by
  obtain ⟨F2, f2, r2, rp2⟩ := r1.freeze sr1 fr1
  obtain ⟨z, rfl, h1⟩ := asS_of h1 rp2
  refine ⟨⟨z, rfl⟩, he zo r2 h1 fun s3 ρ3 F3 H3 v3 h3 f3 r3 sr3 fr3 => ?_⟩
  obtain ⟨F4, f4, r4, rp4⟩ := r3.freeze sr3 fr3
  obtain ⟨a, vs, xs, rfl, hs, hr, h3⟩ := asSq_of h3 rp4
  obtain ⟨ss, es, hb, h3⟩ := asA_of h3
  have q := txts_of es hr
  subst q
  exact ⟨z, a, ss, rfl, rfl, sq_same r4.fh hs, hb, k (.d (.str _)) _ F4 _ _ h3 (f1.trans (f2.trans (f3.trans f4))) r4 rfl fun w => nomatch w⟩
theorem de_join (ho : DE K X Z o to wo) (he : DE K X Z e te we) (hs : starEach [e] X.env = [(false, eval e X.env)] := by rfl) (hbase : attributeBase o "join" X.env (eval o X.env) = eval o X.env := by rfl) (hline : (apos.endLine == pos.line) = true := by rfl) (hK : X.K = K := by rfl) :
    DE K X Z (.Call (.Attribute o "join" apos) [e] [] pos) (tM1 (qJoin K) to te) (wJoin wo we) := by
  subst hK
  exact ⟨pe_join ho.pe he.pe hs hbase hline, run_join ho.run he.run⟩
def asLT (d : D) (P : List D → Prop) : Prop := match d with
  | .lst xs => P xs
  | _ => False
theorem asLT_of {F : Hp} {d : D} {v : V} {P : List D → Prop} (h : asLT d P) (r : Rep K F d v) : ∃ a vs xs, v = .ref a ∧ F a = some (.lst vs) ∧ Reps K F xs vs ∧ P xs := by
  cases d <;> first | exact h.elim | (obtain ⟨a, vs, e, h1, h2⟩ := r; exact ⟨a, vs, _, e, h1, h2, h⟩)
def oCatL : O2 := fun x y P => asLT x fun xs => asLT y fun ys => xs.length + ys.length ≤ sizeLine ∧ P (.ol (xs ++ ys))
theorem snd_catL : Snd2 K rCat oCatL := ⟨fun {F H x y vx vy P Q} fh rx ry h k => by
  obtain ⟨a, vs, xs, rfl, h1, h2, h⟩ := asLT_of h rx
  obtain ⟨b, us, ys, rfl, h3, h4, h⟩ := asLT_of h ry
  exact ⟨a, b, vs, us, rfl, rfl, fh _ _ h1, fh _ _ h3, by rw [h2.len, h4.len]; exact h.1, fun l n => k.newL fh h.2 (h2.app h4) n⟩⟩
def oCatT : O2 := fun x y P => asT x fun xs => asT y fun ys => xs.length + ys.length ≤ sizeLine ∧ P (.d (.tup (xs ++ ys)))
mutual
def pyd : D → Option PyData
  | .non => some .none
  | .bl b => some (.bool b)
  | .int i => some (.int i)
  | .str x => some (.str x)
  | .cel ns => some (.list (ns.map .int))
  | .lst xs => (pyds xs).map .list
  | .tup xs => (pyds xs).map .tuple
  | _ => none
def pyds : List D → Option (List PyData)
  | [] => some []
  | x :: xs => (pyd x).bind fun a => (pyds xs).map (a :: ·)
end
theorem dps_ints {F : Hp} : ∀ ns : List Int, DpAll K F (ns.map V.int) (ns.map PyData.int)
  | [] => .nil
  | n :: ns => .cons (.int n) (dps_ints ns)
mutual
theorem pyd_ok {F : Hp} : ∀ (d : D) (v : V) (q : PyData), pyd d = some q → Rep K F d v → Dp K F v q
  | .non, _, _, h, r => by cases h; cases (show _ = V.non from r); exact .non
  | .bl b, _, _, h, r => by cases h; cases (show _ = V.bl b from r); exact .bl b
  | .int b, _, _, h, r => by cases h; cases (show _ = V.int b from r); exact .int b
  | .str b, _, _, h, r => by cases h; cases (show _ = V.str b from r); exact .str b
  | .cel ns, _, _, h, r => by
    cases h
    obtain ⟨a, rfl, s⟩ := r
    exact .lst s (dps_ints ns)
  | .lst xs, _, q, h, r => by
    obtain ⟨a, vs, rfl, s, rs⟩ := r
    rw [pyd] at h
    cases e : pyds xs with
    | none => rw [e] at h; cases h
    | some qs => rw [e] at h; cases h; exact .lst (SqL.of s) (pyds_ok xs vs qs e rs)
  | .tup xs, _, q, h, r => by
    obtain ⟨a, vs, rfl, s, rs⟩ := r
    rw [pyd] at h
    cases e : pyds xs with
    | none => rw [e] at h; cases h
    | some qs => rw [e] at h; cases h; exact .tup s (pyds_ok xs vs qs e rs)
  | .ref _, _, _, h, _ => by cases h
  | .ty _, _, _, h, _ => by cases h
  | .dic _ _, _, _, h, _ => by cases h
  | .ins _ _ _, _, _, h, _ => by cases h
theorem pyds_ok {F : Hp} : ∀ (ds : List D) (vs : List V) (qs : List PyData), pyds ds = some qs → Reps K F ds vs → DpAll K F vs qs
  | [], _, _, h, r => by cases h; cases (show _ = [] from r); exact .nil
  | x :: xs, _, qs, h, r => by
    obtain ⟨v, vs, rfl, rv, rs⟩ := r
    rw [pyds] at h
    cases e : pyd x with
    | none => rw [e] at h; cases h
    | some q =>
      rw [e] at h
      cases e2 : pyds xs with
      | none => rw [e2] at h; cases h
      | some qs' => rw [e2] at h; cases h; exact .cons (pyd_ok x v q e rv) (pyds_ok xs vs qs' e2 rs)
end
theorem Dp.same' {F H : Hp} (fh : Same F H) {d : D} {v : V} {q : PyData} (e : pyd d = some q) (r : Rep K F d v) : Dp K H v q := pyd_ok d v q e (Rep.mono fh _ _ r)
def oEqD (neg : Bool) : O2 := fun x y P => asA (pyd x) fun q => asA (pyd y) fun r => SeqAt.shaped q = true ∧ SeqAt.shaped r = true ∧ P (.d (.bl (if neg then !PyData.eqv q r else PyData.eqv q r)))
theorem snd_eqD : Snd2 K (rEqD K) (oEqD false) := ⟨fun {F H x y vx vy P Q} fh rx ry h k => by
  obtain ⟨q, e1, h⟩ := asA_of h
  obtain ⟨r, e2, h⟩ := asA_of h
  exact ⟨q, r, Dp.same' fh e1 rx, Dp.same' fh e2 ry, h.1, h.2.1, k.flat (d := .bl _) fh h.2.2 rfl⟩⟩
theorem snd_neD : Snd2 K (rNeD K) (oEqD true) := ⟨fun {F H x y vx vy P Q} fh rx ry h k => by
  obtain ⟨q, e1, h⟩ := asA_of h
  obtain ⟨r, e2, h⟩ := asA_of h
  exact ⟨q, r, Dp.same' fh e1 rx, Dp.same' fh e2 ry, h.1, h.2.1, k.flat (d := .bl _) fh h.2.2 rfl⟩⟩
def oPopAt : List D → List D → (S → List D → Prop) → Prop := fun xs ds P => match ds with
  | [.int i] => (-(2 ^ 63) ≤ i ∧ i < 2 ^ 63) ∧ asA (seqIndex? i xs.length) fun k => asA xs[k]? fun d => P (.d d) (xs.eraseIdx k)
  | _ => False
theorem Reps.eraseIdx {F : Hp} {xs : List D} {vs : List V} (k : Nat) (h : Reps K F xs vs) : Reps K F (xs.eraseIdx k) (vs.eraseIdx k) := by
  rw [List.eraseIdx_eq_take_drop_succ, List.eraseIdx_eq_take_drop_succ]
  exact (h.take k).app (h.drop (k + 1))
theorem snd_popAt : SndM K rPopAt oPopAt := ⟨fun {F H l vs us xs ds P Q} fh hl n rx rd h k => by
  unfold oPopAt at h
  split at h
  · obtain ⟨v, _, rfl, rfl, rfl⟩ := rd
    obtain ⟨⟨h1, h2⟩, h⟩ := h
    obtain ⟨j, ej, h⟩ := asA_of h
    obtain ⟨d, ed, h⟩ := asA_of h
    obtain ⟨v, ev, rv⟩ := rx.get ed
    exact ⟨l, vs, _, j, v, rfl, rfl, hl, h1, h2, by rw [rx.len]; exact ej, ev, k _ _ _ _ h rv (rx.eraseIdx j)⟩
  · exact h.elim⟩
theorem de_popAt (i : Nat) {x : Str} (ha : DE K X Z e te we) (hN : X.N[i]? = some x := by rfl) (hv : Vis X.env.scope x := by first | exact Or.inl rfl | exact Or.inr (Or.inl rfl) | exact Or.inr (Or.inr rfl)) (hd : (x == ("__debug__" : Str)) = false := by decide)
    (hcd : (x == ("__classdict__" : Str)) = false := by decide) (hs : starEach [e] X.env = [(false, eval e X.env)] := by rfl)
    (hbase : attributeBase (.Name x p) "pop" X.env (eval (.Name x p) X.env) = eval (.Name x p) X.env := by rfl)
    (hfew : ((backTo cpos (starEach [e] X.env)).all (fun x => !x.1) && (backToKw cpos (keywordEach [] X.env)).all (fun x => x.1.isSome)
      && decide (([e] : List Expr).length + ([] : List Keyword).length + (if ([] : List Keyword).isEmpty then 0 else 1) < 30)) = true := by rfl)
    (hline : (apos.endLine == cpos.line) = true := by rfl) (hK : X.K = K := by rfl) :
    DE K X Z (.Call (.Attribute (.Name x p) "pop" apos) [e] [] cpos) (tBM K "list" rPopAt (tVar i) (tCons te tNil)) (wM i oPopAt (wCons we wNil)) := by
  subst hK
  exact ⟨pe_bm PySem.F.plainAttrs_list PySem.F.slot_list_pop PySem.F.type_list_pop mt_popAt (pe_var hN hv hd hcd) (pa_cons ha.pe pa_nil hs) hbase hfew hline hs rfl, run_M rfl (da_cons ha (da_nil (X := X) (Z := Z)) hs).run snd_popAt⟩
def wDPut (i : Nat) (wk wv : W) : WS := fun DD ρ => wv ρ fun v ρ1 => asOD (nth ρ1 i) fun _ => wk ρ1 fun k ρ2 => asOD (nth ρ2 i) fun kvs => asKey k.fz fun k => kvs.length < sizeLine ∧ DD.nx (put ρ2 i (some (.od (vput kvs k v.fz))))
theorem Rel.dict {H0 F0 F H : Hp} {ρ : R} {σ : St} {kvs : List (Key × D)} (r : Rel K H0 F0 F H ρ σ) (e : nth ρ i = some (.od kvs)) :
    ∃ a l, σ[i]? = some (some (.ref a)) ∧ H a = some (.dK l) ∧ KRep K F kvs l ∧ H0 a = none ∧ F a = none := by
  obtain ⟨v, ev, a, l, rfl, hl, hk, rr, n0, n1⟩ := r.at_ i _ (nth_some e)
  exact ⟨a, l, ev, hl, ⟨hk, rr⟩, n0, n1⟩
theorem Rel.dictPut {H0 F0 F H : Hp} {ρ : R} {σ : St} {kvs kvs' : List (Key × D)} {a : Addr} {l' : List (Key × V)} (r : Rel K H0 F0 F H ρ σ) (e : nth ρ i = some (.od kvs)) (ev : σ[i]? = some (some (.ref a))) (n0 : H0 a = none) (n1 : F a = none) (kr : KRep K F kvs' l') :
    Rel K H0 F0 F (upd H a (.dK l')) (put ρ i (some (.od kvs'))) σ := by
  rw [put_eq]
  exact r.write (nth_some e) rfl ev ⟨a, l', rfl, upd_same, kr.1, kr.2, n0, n1⟩ rfl
theorem run_dput {tk tv : TE} {wk wv : W} (hk : RunE K Z tk wk) (hv : RunE K Z tv wv) : RunS K Z (sDPut (tVar i) tk tv) (wDPut i wk wv) := fun {H0 F0 F H ρ σ DD Dh} zo rl ee h => hv zo rl h fun s1 ρ1 F1 H1 v1 h1 f1 r1 sr1 fr1 => by
  obtain ⟨F2, f2, r2, rp2⟩ := r1.freeze sr1 fr1
  obtain ⟨kvs0, e0, h1⟩ := asOD_of h1
  obtain ⟨a, l0, ev, _⟩ := r2.dict e0
  refine ⟨.ref a, ev, hk zo r2 h1 fun s3 ρ3 F3 H3 v3 h3 f3 r3 sr3 fr3 => ?_⟩
  obtain ⟨F4, f4, r4, rp4⟩ := r3.freeze sr3 fr3
  obtain ⟨kvs, e1, h3⟩ := asOD_of h3
  obtain ⟨key, rfl, hl, h3⟩ := asKey_of h3 rp4
  obtain ⟨a', l, ev', hd, kr, n0, n1⟩ := r4.dict e1
  rw [ev] at ev'; cases ev'
  exact ⟨a, _, rfl, DPut.k hd (by rw [kr.len]; exact hl), ee.nx _ _ _ _ h3 (f1.trans (f2.trans (f3.trans f4))) (r4.dictPut e1 ev n0 n1 (KRep.put (Rep.mono (f3.trans f4) _ _ rp2) kr))⟩
theorem ds_dput {tk tv : TE} {wk wv : W} {k value : Expr} {x : Str} (i : Nat) (hu : X.A.units + 1 < cLine) (hk : DE K X Z k tk wk) (hv : DE K X Z value tv wv) (hN : X.N[i]? = some x := by rfl) (hvi : Vis X.env.scope x := by first | exact Or.inl rfl | exact Or.inr (Or.inl rfl) | exact Or.inr (Or.inr rfl)) (hd : (x == ("__debug__" : Str)) = false := by decide)
    (hcd : (x == ("__classdict__" : Str)) = false := by decide) (hs : swapsWith value (some (.Subscript (.Name x p) k pos')) pos.line X.env = pure false := by rfl) :
    DS K X Z (.Assign [.Subscript (.Name x p) k pos'] value pos) (sDPut (tVar i) tk tv) (wDPut i wk wv) := ⟨ps_dput hu (pe_var hN hvi hd hcd) hk.pe hv.pe hs, run_dput hk.run hv.run⟩
def wDPop (i : Nat) (wk : W) : W := fun ρ P => asOD (nth ρ i) fun _ => wk ρ fun k ρ1 => asOD (nth ρ1 i) fun kvs => asKey k.fz fun k => asA (vget kvs k) fun d => P (.d d) (put ρ1 i (some (.od (vdrop kvs k))))
theorem run_dpop {tk : TE} {wk : W} (hk : RunE K Z tk wk) : RunE K Z (tDPop1 (tVar i) tk) (wDPop i wk) := fun {H0 F0 F H ρ σ Q P} zo rl h k => by
  obtain ⟨kvs0, e0, h⟩ := asOD_of h
  obtain ⟨a, l0, ev, hd0, _⟩ := rl.dict e0
  refine ⟨.ref a, ev, a, rfl, .inl ⟨l0, .inl hd0⟩, hk zo rl h fun s3 ρ3 F3 H3 v3 h3 f3 r3 sr3 fr3 => ?_⟩
  obtain ⟨F4, f4, r4, rp4⟩ := r3.freeze sr3 fr3
  obtain ⟨kvs, e1, h3⟩ := asOD_of h3
  obtain ⟨key, rfl, h3⟩ := asKey_of h3 rp4
  obtain ⟨d, e, h3⟩ := asA_of h3
  obtain ⟨a', l, ev', hd, kr, n0, n1⟩ := r4.dict e1
  rw [ev] at ev'; cases ev'
  rcases kr.get (k := key) with ⟨d', v, g1, g2, g3⟩ | ⟨g1, g2⟩
  · rw [e] at g1; cases g1
    exact ⟨l, key, v, hd, rfl, g2, k _ _ F4 _ _ h3 (f3.trans f4) (r4.dictPut e1 ev n0 n1 kr.drop) g3 fun w => nomatch w⟩
  · rw [e] at g1; cases g1
theorem de_dpop {tk : TE} {wk : W} {k : Expr} {x : Str} (i : Nat) (hk : DE K X Z k tk wk) (m : M1 X (.Name x p) "pop" apos k cpos) (hN : X.N[i]? = some x := by rfl) (hvi : Vis X.env.scope x := by first | exact Or.inl rfl | exact Or.inr (Or.inl rfl) | exact Or.inr (Or.inr rfl)) (hd : (x == ("__debug__" : Str)) = false := by decide)
    (hcd : (x == ("__classdict__" : Str)) = false := by decide) :
    DE K X Z (.Call (.Attribute (.Name x p) "pop" apos) [k] [] cpos) (tDPop1 (tVar i) tk) (wDPop i wk) := ⟨pe_dpop1 (pe_var hN hvi hd hcd) hk.pe m, run_dpop hk.run⟩
def txtKeys : List Key → Option (List Str)
  | [] => some []
  | .inr x :: r => (txtKeys r).map (x :: ·)
  | _ => none
theorem txtKeys_map : ∀ bs : List Str, txtKeys (bs.map Sum.inr) = some bs
  | [] => rfl
  | b :: bs => by rw [List.map_cons, txtKeys, txtKeys_map bs]; rfl
theorem txtKeys_of : ∀ {ks : List Key} {bs : List Str}, txtKeys ks = some bs → ks = bs.map Sum.inr
  | [], bs, e => by cases e; rfl
  | .inl _ :: _, bs, e => by cases e
  | .inr x :: r, bs, e => by
    rw [txtKeys] at e
    cases q : txtKeys r with
    | none => rw [q] at e; cases e
    | some cs => rw [q] at e; cases e; rw [txtKeys_of q]; rfl
def wSortK (we : W) : W := fun ρ P => we ρ fun s ρ1 => asDic s.fz fun kvs => asA (txtKeys (kvs.map (·.1))) fun ks => P (.ol ((srt ks).map .str)) ρ1
theorem run_sortK (he : RunE K Z te we) : RunE K Z (tCB rSortK (tCons (tKeys te) tNil)) (wSortK we) := fun {H0 F0 F H ρ σ Q P} zo rl h k => he zo rl h fun s1 ρ1 F1 H1 v1 h1 f1 r1 sr1 fr1 => by
  obtain ⟨F2, f2, r2, rp2⟩ := r1.freeze sr1 fr1
  obtain ⟨a, kvs, l, rfl, hl, kr, h1⟩ := asDic_of h1 rp2
  obtain ⟨ks, ek, h1⟩ := asA_of h1
  refine ⟨a, l, rfl, Same.rd r2.fh hl, fun p n => ?_⟩
  have hh : Same H1 (upd H1 p (KVo p a)) := Same.new n
  refine ⟨p, a, l, ks, rfl, upd_same, Same.rd hh (Same.rd r2.fh hl), by rw [kr.1]; exact txtKeys_of ek, fun ys q hp hs hq => ?_⟩
  have r3 : Rel K H0 F0 F2 (upd H1 p (KVo p a)) ρ1 σ := r2.grow hh
  have e : ys = srt ks := srt_eq hp hs
  subst e
  exact (Rel.kont r3 (f1.trans f2) k).newL r3.fh h1 (Reps.strs.mpr rfl) hq
theorem de_sortK (hc : X.calm = true) (m : X.mg "sorted" = none) (he : DE K X Z e te we) (hg : Gl X "sorted" := by rfl) (hbase : attributeBase e "keys" X.env (eval e X.env) = eval e X.env := by rfl) (hline : (apos.endLine == cpos.line) = true := by rfl)
    (hs : starEach [Expr.Call (.Attribute e "keys" apos) [] [] cpos] X.env = [(false, eval (Expr.Call (.Attribute e "keys" apos) [] [] cpos) X.env)] := by rfl) :
    DE K X Z (.Call (.Name "sorted" p) [.Call (.Attribute e "keys" apos) [] [] cpos] [] pos) (tCB rSortK (tCons (tKeys te) tNil)) (wSortK we) :=
  ⟨pe_callB (cr_sortK hc) hg m (by decide +kernel) (pa_cons (pe_keys he.pe hbase hline) pa_nil hs) (hn := by decide) (hdb := by decide) (he := hs) (hpl := rfl), run_sortK he.run⟩
def enumD (i : Nat) : List D → List D
  | [] => []
  | x :: xs => .tup [.int i, x] :: enumD (i + 1) xs
end
end DL
namespace DL
open PySem L2
section
variable {K : PySem.W.Frag}
theorem Snd2.inl {r r' : R2} {o : O2} (h : Snd2 K r o) : Snd2 K (fun x y H Q => r x y H Q ∨ r' x y H Q) o := ⟨fun a b c d e => .inl (h.run a b c d e)⟩
theorem Snd2.inr {r r' : R2} {o : O2} (h : Snd2 K r' o) : Snd2 K (fun x y H Q => r x y H Q ∨ r' x y H Q) o := ⟨fun a b c d e => .inr (h.run a b c d e)⟩
theorem snd_catT : Snd2 K (rCatA K) oCatT := ⟨fun {F H x y vx vy P Q} fh rx ry h k => by
  obtain ⟨a, vs, xs, rfl, h1, h2, h⟩ := asT_of h rx
  obtain ⟨b, us, ys, rfl, h3, h4, h⟩ := asT_of h ry
  have e1 := h2.len
  have e2 := h4.len
  refine ⟨a, b, vs, us, rfl, rfl, Same.sqT fh h1, Same.sqT fh h3, by rw [e1, e2]; exact h.1, fun z => ?_, fun _ z => ?_, fun _ _ p n => k.newT fh h.2 (h2.app h4) n⟩
  · subst z
    obtain rfl : xs = [] := List.length_eq_zero_iff.mp e1.symm
    exact k.flat fh h.2 ⟨b, us, rfl, h3, h4⟩
  · subst z
    obtain rfl : ys = [] := List.length_eq_zero_iff.mp e2.symm
    have := h.2
    rw [List.append_nil] at this
    exact k.flat fh this ⟨a, vs, rfl, h1, h2⟩⟩
def oPlus : O2 := fun x y P => match x, y with
  | .int i, .int j => P (.d (.int (i + j)))
  | .str i, .str j => i.length + j.length ≤ sizeLine ∧ P (.d (.str (i ++ j)))
  | .lst xs, .lst ys => xs.length + ys.length ≤ sizeLine ∧ P (.ol (xs ++ ys))
  | .tup xs, .tup ys => xs.length + ys.length ≤ sizeLine ∧ P (.d (.tup (xs ++ ys)))
  | _, _ => False
abbrev rPlus (K : PySem.W.Frag) : R2 := fun x y H Q => qAdd x y H Q ∨ qAddS x y H Q ∨ rCat x y H Q ∨ rCatA K x y H Q
theorem op_plus {X : Cx} : OpR X (binaryOp .Add) (rPlus X.K) := op_add.or (op_add_str.or (op_cat.or op_catA))
theorem snd_plus : Snd2 K (rPlus K) oPlus := ⟨fun {F H x y vx vy P Q} fh rx ry h k => by
  unfold oPlus at h
  split at h
  · exact .inl (snd_add.run fh rx ry (by exact h) k)
  · exact .inr (.inl (snd_catS.run fh rx ry (by exact h) k))
  · exact .inr (.inr (.inl (snd_catL.run fh rx ry (by exact h) k)))
  · exact .inr (.inr (.inr (snd_catT.run fh rx ry (by exact h) k)))
  · exact h.elim⟩
def flatD : D → Bool
  | .non => true | .bl _ => true | .int _ => true | .str _ => true
  | _ => false
def SameV (K : PySem.W.Frag) (H : Hp) (v u : V) : Prop := (v = u ∧ flatB v = true) ∨ ∃ q r, Dp K H v q ∧ Dp K H u r ∧ (q.canLay0 = true ∧ r.canLay0 = true ∧ q.depth ≤ 60) ∧ PyData.eqv q r = true
def rEqDR (K : PySem.W.Frag) : R2 := fun x y H Q => ∃ a b ks ls, x = .ref a ∧ y = .ref b ∧ Rd H a (.dK ks) ∧ Rd H b (.dK ls) ∧ ks.length = ls.length ∧ (∀ p ∈ ks, ∃ u, valV ls p.1 = some u ∧ SameV K H p.2 u) ∧ Q (.bl true) H
def rNeDR (K : PySem.W.Frag) : R2 := fun x y H Q => ∃ a b ks ls, x = .ref a ∧ y = .ref b ∧ Rd H a (.dK ks) ∧ Rd H b (.dK ls) ∧ ks.length = ls.length ∧ (∀ p ∈ ks, ∃ u, valV ls p.1 = some u ∧ SameV K H p.2 u) ∧ Q (.bl false) H
theorem hits_same {X : Cx} {pins : List (Addr × Obj)} {σ : St} {H : Hp} {s : Shared} {A : Around} (I : Inv X pins σ H s) (hu : A.units + 60 < cLine) {kvs : List (Key × V)} {vb : List (Key × Value)} (rb : KV kvs vb) {ks : List (Key × V)} {va : List (Key × Value)} (ra : KV ks va) :
    (∀ p ∈ ks, ∃ u, valV kvs p.1 = some u ∧ SameV X.K H p.2 u) → PySem.W.KeqHits A s vb va true := by
  unfold KV at ra
  induction ra with
  | nil => intro _; exact .nil
  | @cons p q ps qs h t ih =>
    intro hp
    obtain ⟨h1, h2⟩ := h
    obtain ⟨w, e, f⟩ := hp p List.mem_cons_self
    have rr : RelO (some w) (valueAt vb p.1) := by rw [← e]; exact rb.val p.1
    obtain ⟨y, hy, ry⟩ := rr.some_of
    obtain ⟨k, v⟩ := q
    have h1' : p.1 = k := h1
    rw [h1'] at hy
    show PySem.W.KeqHits A s vb ((k, v) :: qs) (true && true)
    refine .hit hy ?_ (ih fun p' hm => hp p' (List.mem_cons_of_mem _ hm))
    rcases f with ⟨rfl, f⟩ | ⟨d1, d2, g1, g2, ⟨g3, g4, g5⟩, g6⟩
    · exact eqAt_same h2 ry f
    · obtain ⟨as, r1⟩ := Dp.reads I d1 _ _ g1 h2
      obtain ⟨bs, r2⟩ := Dp.reads I d2 _ _ g2 ry
      have := SeqAt.eqAt_reads d1 d2 A s _ _ as bs r1 r2 g3 g4 (by have := Nat.min_le_left d1.depth d2.depth; omega)
      rw [g6] at this
      exact this
theorem op_eqDR {X : Cx} (hu : X.A.units + 64 < cLine) : OpR X (compareOp .Eq) (rEqDR X.K) := by
  intro pins s σ H x y v u Q I rx ry h
  obtain ⟨a, b, ks, ls, rfl, rfl, ea, eb, hlen, hp, q⟩ := h
  obtain rfl : v = Value.ref a := rx
  obtain rfl : u = Value.ref b := ry
  obtain ⟨_, ya, va, ra, da⟩ := dk_rd I.hok ea
  obtain ⟨_, yb, vb, rb, db⟩ := dk_rd I.hok eb
  have hl : va.length = vb.length := by rw [← ra.length, ← rb.length]; exact hlen
  exact PySem.W.keq_eq (knd := mixKind X.prog X.w) (r := true) ya yb da db (by omega) (fun _ => hits_same I (by show X.A.units + 1 + 60 < cLine; omega) rb ra hp) (fin_bl I q (by simp [hl]))
theorem op_neDR {X : Cx} (hu : X.A.units + 64 < cLine) : OpR X (compareOp .NotEq) (rNeDR X.K) := by
  intro pins s σ H x y v u Q I rx ry h
  obtain ⟨a, b, ks, ls, rfl, rfl, ea, eb, hlen, hp, q⟩ := h
  obtain rfl : v = Value.ref a := rx
  obtain rfl : u = Value.ref b := ry
  obtain ⟨_, ya, va, ra, da⟩ := dk_rd I.hok ea
  obtain ⟨_, yb, vb, rb, db⟩ := dk_rd I.hok eb
  have hl : va.length = vb.length := by rw [← ra.length, ← rb.length]; exact hlen
  exact PySem.W.keq_ne (knd := mixKind X.prog X.w) (r := true) ya yb da db (by omega) (fun _ => hits_same I (by show X.A.units + 1 + 60 < cLine; omega) rb ra hp) (fin_bl I q (by simp [hl]))
def SameD (d e : D) : Prop := (d = e ∧ flatD d = true) ∨ ∃ q r, pyd d = some q ∧ pyd e = some r ∧ (q.canLay0 = true ∧ r.canLay0 = true ∧ q.depth ≤ 60) ∧ PyData.eqv q r = true
def dicEq (kvs ls : List (Key × D)) : Prop := kvs.length = ls.length ∧ ∀ p ∈ kvs, ∃ u, vget ls p.1 = some u ∧ SameD p.2 u
def eqX (x y : D) (P : Bool → Prop) : Prop := match eqS x y with
  | some b => P b
  | none => match x, y with
    | .dic ks xs, .dic ls ys => dicEq (ks.zip xs) (ls.zip ys) ∧ P true
    | _, _ => asA (pyd x) fun q => asA (pyd y) fun r => SeqAt.shaped q = true ∧ SeqAt.shaped r = true ∧ P (PyData.eqv q r)
def oEqX : O2 := fun x y P => eqX x y fun b => P (.d (.bl b))
def oNeX : O2 := fun x y P => eqX x y fun b => P (.d (.bl (!b)))
abbrev rEqX (K : PySem.W.Frag) : R2 := fun x y H Q => rEq x y H Q ∨ rEqD K x y H Q ∨ rEqDR K x y H Q
abbrev rNeX (K : PySem.W.Frag) : R2 := fun x y H Q => rNe x y H Q ∨ rNeD K x y H Q ∨ rNeDR K x y H Q
theorem op_eqX {X : Cx} (hu : X.A.units + 64 < cLine) : OpR X (compareOp .Eq) (rEqX X.K) := op_eq.or ((op_eqD hu).or (op_eqDR hu))
theorem op_neX {X : Cx} (hu : X.A.units + 64 < cLine) : OpR X (compareOp .NotEq) (rNeX X.K) := op_ne.or ((op_neD hu).or (op_neDR hu))
theorem KRep.mem {F : Hp} {p : Key × V} : ∀ {kvs : List (Key × D)} {l : List (Key × V)}, KRep K F kvs l → p ∈ l → ∃ d, (p.1, d) ∈ kvs ∧ Rep K F d p.2
  | [], l, h, hp => by rw [h.nil] at hp; simp at hp
  | q :: kvs, l, h, hp => by
    obtain ⟨r, l', rfl, e, rr, h'⟩ := h.cons
    rcases List.mem_cons.mp hp with z | z
    · subst z; exact ⟨q.2, by rw [e]; exact List.mem_cons_self, rr⟩
    · obtain ⟨d, hd, rd⟩ := KRep.mem h' z
      exact ⟨d, List.mem_cons_of_mem _ hd, rd⟩
theorem flat_same {F : Hp} {d : D} {v u : V} (f : flatD d = true) (r1 : Rep K F d v) (r2 : Rep K F d u) : v = u ∧ flatB v = true := by
  cases d <;> first | (cases (show false = true from f)) | (cases (show v = _ from r1); cases (show u = _ from r2); exact ⟨rfl, rfl⟩)
theorem dicEq_ok {F H : Hp} {kvs ls : List (Key × D)} {l m : List (Key × V)} {a b : Addr} (fh : Same F H) (ha : Rd F a (.dK l)) (hb : Rd F b (.dK m)) (k1 : KRep K F kvs l) (k2 : KRep K F ls m) (h : dicEq kvs ls) :
    Rd H a (.dK l) ∧ Rd H b (.dK m) ∧ l.length = m.length ∧ ∀ p ∈ l, ∃ u, valV m p.1 = some u ∧ SameV K H p.2 u := by
  refine ⟨Same.rd fh ha, Same.rd fh hb, by rw [k1.len, k2.len]; exact h.1, fun p hp => ?_⟩
  obtain ⟨d, hd, rd⟩ := k1.mem hp
  obtain ⟨d2, h1, h2⟩ := h.2 _ hd
  rcases k2.get (k := p.1) with ⟨d', v, g1, g2, g3⟩ | ⟨g1, g2⟩
  · have e : d' = d2 := Option.some.inj (g1.symm.trans h1)
    subst e
    refine ⟨v, g2, ?_⟩
    rcases h2 with ⟨e1, e2⟩ | ⟨q, r, e1, e2, e3, e4⟩
    · have e1' : d = d' := e1
      subst e1'
      obtain ⟨e1, e2⟩ := flat_same e2 rd g3
      exact .inl ⟨e1, e2⟩
    · exact .inr ⟨q, r, pyd_ok d _ q e1 (Rep.mono fh _ _ rd), pyd_ok d' _ r e2 (Rep.mono fh _ _ g3), e3, e4⟩
  · rw [h1] at g1; cases g1
theorem snd_eqX : Snd2 K (rEqX K) oEqX := ⟨fun {F H x y vx vy P Q} fh rx ry h k => by
  unfold oEqX eqX at h
  split at h
  · rename_i b e
    obtain ⟨h1, h2⟩ := eqS_ok rx ry e
    exact .inl ⟨h1, by rw [h2]; exact k.flat (d := .bl b) fh h rfl⟩
  · split at h
    · obtain ⟨h1, h2⟩ := h
      obtain ⟨a, kvs, l, rfl, hl, kr, q⟩ := asDic_of (d := .dic _ _) (P := fun kvs => kvs = _) rfl rx
      obtain ⟨b, kvs2, m, rfl, hm, kr2, q2⟩ := asDic_of (d := .dic _ _) (P := fun kvs => kvs = _) rfl ry
      subst q; subst q2
      obtain ⟨g1, g2, g3, g4⟩ := dicEq_ok fh hl hm kr kr2 h1
      exact .inr (.inr ⟨a, b, l, m, rfl, rfl, g1, g2, g3, g4, k.flat (d := .bl true) fh h2 rfl⟩)
    · exact .inr (.inl (snd_eqD.run fh rx ry h k))⟩
theorem snd_neX : Snd2 K (rNeX K) oNeX := ⟨fun {F H x y vx vy P Q} fh rx ry h k => by
  unfold oNeX eqX at h
  split at h
  · rename_i b e
    obtain ⟨h1, h2⟩ := eqS_ok rx ry e
    exact .inl ⟨h1, by rw [h2]; exact k.flat (d := .bl (!b)) fh h rfl⟩
  · split at h
    · obtain ⟨h1, h2⟩ := h
      obtain ⟨a, kvs, l, rfl, hl, kr, q⟩ := asDic_of (d := .dic _ _) (P := fun kvs => kvs = _) rfl rx
      obtain ⟨b, kvs2, m, rfl, hm, kr2, q2⟩ := asDic_of (d := .dic _ _) (P := fun kvs => kvs = _) rfl ry
      subst q; subst q2
      obtain ⟨g1, g2, g3, g4⟩ := dicEq_ok fh hl hm kr kr2 h1
      exact .inr (.inr ⟨a, b, l, m, rfl, rfl, g1, g2, g3, g4, k.flat (d := .bl false) fh h2 rfl⟩)
    · exact .inr (.inl (snd_neD.run fh rx ry h k))⟩
def oCmp (ri : Int → Int → Bool) (rs : List Nat → List Nat → Bool) : O2 := fun x y P => match x, y with
  | .int i, .int j => P (.d (.bl (ri i j)))
  | .str i, .str j => P (.d (.bl (rs i.cps.toList j.cps.toList)))
  | _, _ => False
abbrev rCmp (ri : Int → Int → Bool) (rs : List Nat → List Nat → Bool) : R2 := fun x y H Q => rI0 (fun i j => .bl (ri i j)) x y H Q ∨ ∃ i j, x = .str i ∧ y = .str j ∧ Q (.bl (rs i.cps.toList j.cps.toList)) H
theorem snd_cmp {ri : Int → Int → Bool} {rs : List Nat → List Nat → Bool} : Snd2 K (rCmp ri rs) (oCmp ri rs) := ⟨fun {F H x y vx vy P Q} fh rx ry h k => by
  unfold oCmp at h
  split at h
  · cases (show vx = _ from rx); cases (show vy = _ from ry)
    exact .inl ⟨_, _, rfl, rfl, k.flat (d := .bl _) fh h rfl⟩
  · cases (show vx = _ from rx); cases (show vy = _ from ry)
    exact .inr ⟨_, _, rfl, rfl, k.flat (d := .bl _) fh h rfl⟩
  · exact h.elim⟩
abbrev oLtX : O2 := oCmp (fun i j => decide (i < j)) fun i j => decide (i < j)
abbrev oLeX : O2 := oCmp (fun i j => decide (i ≤ j)) fun i j => !decide (j < i)
abbrev oGtX : O2 := oCmp (fun i j => decide (j < i)) fun i j => decide (j < i)
abbrev oGeX : O2 := oCmp (fun i j => decide (j ≤ i)) fun i j => !decide (i < j)
abbrev rLtX : R2 := rCmp (fun i j => decide (i < j)) fun i j => decide (i < j)
abbrev rGtX : R2 := rCmp (fun i j => decide (j < i)) fun i j => decide (j < i)
abbrev rGeX : R2 := rCmp (fun i j => decide (j ≤ i)) fun i j => !decide (i < j)
theorem op_ltX {X : Cx} : OpR X (compareOp .Lt) rLtX := op_lt.or op_lt_str
theorem op_gtX {X : Cx} : OpR X (compareOp .Gt) rGtX := op_gt.or op_gt_str
theorem op_geX {X : Cx} : OpR X (compareOp .GtE) rGeX := op_ge.or op_ge_str
theorem ix_dict {X : Cx} (hu : X.A.units + 1 < cLine) : IxR X (fun x y H Q => ∃ a v, x = .ref a ∧ DGet H a y (some v) ∧ Q v H) := by
  intro value slice pins s σ H x y v u Q I rx ry h hs
  obtain ⟨a, z, rfl, g, q⟩ := h
  obtain rfl : v = Value.ref a := rx
  exact PyProof.Rows.tail_any (dict_typeIs I g) PySem.F.slot_dict_getitem.lookup (d_getItem hu I g ry fun w' s3 I3 rw' => ⟨z, H, I3, rw', q⟩) hs
def oIxX : O2 := fun x y P => match x, y with
  | .cel ns, .int i => asA (atI ns i) fun n => P (.d (.int n))
  | .lst xs, .int i => asA (atI xs i) fun d => P (.d d)
  | .tup xs, .int i => asA (atI xs i) fun d => P (.d d)
  | .str z, .int i => z.length ≤ sizeLine ∧ asA (atI z.cps.toList i) fun c => P (.d (.str ⟨#[c]⟩))
  | .dic ks xs, y => asKey y fun k => asA (vget (ks.zip xs) k) fun d => P (.d d)
  | _, _ => False
abbrev rIxX (K : PySem.W.Frag) : R2 := fun x y H Q => rIx K x y H Q ∨ ∃ a v, x = .ref a ∧ DGet H a y (some v) ∧ Q v H
theorem ix_X {X : Cx} (hu : X.A.units + 1 < cLine) : IxR X (rIxX X.K) := ix_seq.or (ix_dict hu)
theorem atI_map {α β : Type} (f : α → β) (xs : List α) (i : Int) : atI (xs.map f) i = (atI xs i).map f := by
  unfold atI
  rw [List.length_map]
  cases ixN xs.length i with
  | none => rfl
  | some j => simp [List.getElem?_map]
theorem snd_ixX : Snd2 K (rIxX K) oIxX := ⟨fun {F H x y vx vy P Q} fh rx ry h k => by
  unfold oIxX at h
  split at h
  · obtain ⟨n, e, h⟩ := asA_of h
    refine .inl (.inl (snd_ixL.run (P := P) fh rx ry ?_ k))
    show asA (atI _ _) _
    rw [atI_map, e]
    exact h
  · exact .inl (.inl (snd_ixL.run fh rx ry (by exact h) k))
  · exact .inl (.inr (.inl (snd_ixT.run fh rx ry (by exact h) k)))
  · exact .inl (.inr (.inr (snd_ixS.run fh rx ry (by exact h) k)))
  · obtain ⟨key, rfl, h⟩ := asKey_of h ry
    obtain ⟨d, e, h⟩ := asA_of h
    obtain ⟨a, kvs, l, rfl, hl, kr, h⟩ := asDic_of (d := .dic _ _) (P := fun kvs => kvs = _) rfl rx
    subst h
    rcases kr.get (k := key) with ⟨d', v, g1, g2, g3⟩ | ⟨g1, g2⟩
    · rw [e] at g1; cases g1
      exact .inr ⟨a, v, rfl, .inl ⟨l, key, (Same.rd fh hl), rfl, g2.symm⟩, k.flat fh (by assumption) g3⟩
    · rw [e] at g1; cases g1
  · exact h.elim⟩
def eqvD : D → D → Bool
  | .non, .non => true
  | .bl a, .bl b => a == b
  | .bl a, .int b => (if a then 1 else 0) == b
  | .int a, .bl b => a == (if b then 1 else 0)
  | .int a, .int b => a == b
  | .str a, .str b => a == b
  | _, _ => false
theorem flat_rep {F : Hp} {x : D} {v : V} (r : Rep K F x v) (f : flatD x = true) : flatV v = true := by
  cases x <;> first | (cases (show false = true from f)) | (cases (show v = _ from r); rfl)
theorem eqv_rep {F : Hp} {x y : D} {vx vy : V} (rx : Rep K F x vx) (ry : Rep K F y vy) (fx : flatD x = true) (fy : flatD y = true) : eqV vx vy = eqvD x y := by
  cases x <;> first | (cases (show false = true from fx)) | (cases (show vx = _ from rx); cases y <;> first | (cases (show false = true from fy)) | (cases (show vy = _ from ry); rfl))
def inD (x : D) (xs : List D) : Bool := xs.any fun y => eqvD y x
theorem in_rep {F : Hp} {x : D} {vx : V} (rx : Rep K F x vx) (fx : flatD x = true) : ∀ {xs : List D} {vs : List V}, Reps K F xs vs → xs.all flatD = true → vs.all flatV = true ∧ inV vx vs = inD x xs
  | [], _, r, _ => by cases (show _ = [] from r); exact ⟨rfl, rfl⟩
  | d :: ds, _, r, f => by
    obtain ⟨v, vs, rfl, r1, r2⟩ := r
    rw [List.all_cons, Bool.and_eq_true] at f
    obtain ⟨h1, h2⟩ := in_rep rx fx r2 f.2
    refine ⟨by rw [List.all_cons, flat_rep r1 f.1, h1]; rfl, ?_⟩
    unfold inV inD at h2 ⊢
    rw [List.any_cons, List.any_cons, h2, eqv_rep r1 rx f.1 fx]
def inS (i j : Str) : Bool := match i.cps.toList with
  | [c] => decide (c ∈ j.cps.toList)
  | _ => !(Builtin.Str.occurrences j i 0 j.length 1).isEmpty
def oInX (neg : Bool) : O2 := fun x y P => match y with
  | .str j => asS x fun i => P (.d (.bl (xor neg (inS i j))))
  | .cel ns => flatD x = true ∧ P (.d (.bl (xor neg (inD x (ns.map .int)))))
  | .lst xs => flatD x = true ∧ xs.all flatD = true ∧ P (.d (.bl (xor neg (inD x xs))))
  | .tup xs => flatD x = true ∧ xs.all flatD = true ∧ P (.d (.bl (xor neg (inD x xs))))
  | .dic ks xs => asKey x fun k => P (.d (.bl (xor neg (vget (ks.zip xs) k).isSome)))
  | _ => False
abbrev rInX (K : PySem.W.Frag) (neg : Bool) : R2 := fun x y H Q => (∃ i j, x = .str i ∧ y = .str j ∧ Q (.bl (xor neg (inS i j))) H) ∨ rIn K neg x y H Q ∨ ∃ a o, y = .ref a ∧ DGet H a x o ∧ Q (.bl (xor neg o.isSome)) H
theorem xor_t (b : Bool) : xor true b = !b := by cases b <;> rfl
theorem xor_f (b : Bool) : xor false b = b := by cases b <;> rfl
theorem inS_one (i j : Str) : (∃ c, i = ⟨#[c]⟩ ∧ inS i j = decide (c ∈ j.cps.toList)) ∨ inS i j = !(Builtin.Str.occurrences j i 0 j.length 1).isEmpty := by
  unfold inS
  split
  · rename_i c e
    exact .inl ⟨c, one_sign e, rfl⟩
  · exact .inr rfl
theorem op_inStr {X : Cx} : OpR X (compareOp .In) (fun x y H Q => ∃ i j, x = .str i ∧ y = .str j ∧ Q (.bl (inS i j)) H) := by
  intro pins s σ H x y v u Q I rx ry h
  obtain ⟨i, j, rfl, rfl, q⟩ := h
  rcases inS_one i j with ⟨c, rfl, e⟩ | e
  · exact op_in_sign pins s σ H _ _ v u Q I rx ry ⟨c, j, rfl, rfl, by rw [← e]; exact q⟩
  · exact op_in_str pins s σ H _ _ v u Q I rx ry ⟨i, j, rfl, rfl, by rw [← e]; exact q⟩
theorem op_notInStr {X : Cx} : OpR X (compareOp .NotIn) (fun x y H Q => ∃ i j, x = .str i ∧ y = .str j ∧ Q (.bl (!inS i j)) H) := by
  intro pins s σ H x y v u Q I rx ry h
  obtain ⟨i, j, rfl, rfl, q⟩ := h
  rcases inS_one i j with ⟨c, rfl, e⟩ | e
  · exact op_notIn_sign pins s σ H _ _ v u Q I rx ry ⟨c, j, rfl, rfl, by rw [← e]; exact q⟩
  · exact op_notIn_str pins s σ H _ _ v u Q I rx ry ⟨i, j, rfl, rfl, by rw [← e]; exact q⟩
theorem op_inX {X : Cx} (hu : X.A.units + 1 < cLine) : OpR X (compareOp .In) (rInX X.K false) := by
  refine OpR.or (fun pins s σ H x y v u Q I rx ry h => ?_) (OpR.or op_in_seq fun pins s σ H x y v u Q I rx ry h => ?_)
  · obtain ⟨i, j, e1, e2, q⟩ := h
    exact op_inStr pins s σ H x y v u Q I rx ry ⟨i, j, e1, e2, by rw [xor_f] at q; exact q⟩
  · obtain ⟨a, o, rfl, g, q⟩ := h
    obtain rfl : u = Value.ref a := ry
    rw [xor_f] at q
    exact d_in hu I g rx fun s3 I3 => ⟨.bl o.isSome, H, I3, rfl, q⟩
theorem op_notInX {X : Cx} (hu : X.A.units + 1 < cLine) : OpR X (compareOp .NotIn) (rInX X.K true) := by
  refine OpR.or (fun pins s σ H x y v u Q I rx ry h => ?_) (OpR.or op_notIn_seq fun pins s σ H x y v u Q I rx ry h => ?_)
  · obtain ⟨i, j, e1, e2, q⟩ := h
    exact op_notInStr pins s σ H x y v u Q I rx ry ⟨i, j, e1, e2, by rw [xor_t] at q; exact q⟩
  · obtain ⟨a, o, rfl, g, q⟩ := h
    obtain rfl : u = Value.ref a := ry
    rw [xor_t] at q
    exact d_notIn hu I g rx fun s3 I3 => ⟨.bl (!o.isSome), H, I3, rfl, q⟩
theorem snd_inX {neg : Bool} : Snd2 K (rInX K neg) (oInX neg) := ⟨fun {F H x y vx vy P Q} fh rx ry h k => by
  have seq : ∀ {xs : List D} {a : Addr} {vs : List V}, (SqL K F a vs ∨ SqT K F a vs) → Reps K F xs vs → vy = .ref a → flatD x = true → xs.all flatD = true → P (.d (.bl (xor neg (inD x xs)))) → rInX K neg vx vy H Q := fun {xs a vs} hq r e f1 f2 h => by
    obtain ⟨h1, h2⟩ := in_rep rx f1 r f2
    refine .inr (.inl ⟨a, vs, e, sq_same fh hq, flat_rep rx f1, h1, ?_⟩)
    rw [h2]
    have e2 : (if neg then !inD x xs else inD x xs) = xor neg (inD x xs) := by cases neg <;> simp
    rw [e2]
    exact k.flat (d := .bl _) fh h rfl
  unfold oInX at h
  split at h
  · obtain ⟨i, rfl, h⟩ := asS_of h rx
    cases (show vy = _ from ry)
    exact .inl ⟨i, _, rfl, rfl, k.flat (d := .bl _) fh h rfl⟩
  · obtain ⟨a, rfl, h1⟩ := ry
    refine seq (.inl h1) (Reps.ints.mpr rfl) rfl h.1 (List.all_eq_true.mpr fun d hd => ?_) h.2
    obtain ⟨n, _, rfl⟩ := List.mem_map.mp hd
    rfl
  · obtain ⟨a, vs, rfl, h1, h2⟩ := ry
    exact seq (.inl (SqL.of h1)) h2 rfl h.1 h.2.1 h.2.2
  · obtain ⟨a, vs, rfl, h1, h2⟩ := ry
    exact seq (.inr h1) h2 rfl h.1 h.2.1 h.2.2
  · obtain ⟨key, rfl, h⟩ := asKey_of h rx
    obtain ⟨a, kvs, l, rfl, hl, kr, q⟩ := asDic_of (d := .dic _ _) (P := fun kvs => kvs = _) rfl ry
    subst q
    refine .inr (.inr ⟨a, valV l key, rfl, .inl ⟨l, key, (Same.rd fh hl), rfl, rfl⟩, ?_⟩)
    have e : ∀ kvs : List (Key × D), KRep K F kvs l → (valV l key).isSome = (vget kvs key).isSome := fun kvs kr => by
      rcases kr.get (k := key) with ⟨d', v, g1, g2, g3⟩ | ⟨g1, g2⟩ <;> rw [g1, g2] <;> rfl
    rw [e _ kr]
    exact k.flat (d := .bl _) fh h rfl
  · exact h.elim⟩
def iX (K : PySem.W.Frag) (te : TE) : TI := fun σ H R => te σ H fun v H1 => (∃ a, v = .ref a ∧ (∃ xs, SqL K H1 a xs) ∧ R (Itl K a) H1) ∨ (∃ a, v = .ref a ∧ (∃ xs, SqT K H1 a xs) ∧ R (Itt K a) H1) ∨ ∃ x, v = .str x ∧ R (Its x) H1
theorem pi_X {X : Cx} {tg e : Expr} {te : TE} (he : PE X e te) : PI X tg e (iX X.K te) := by
  refine ⟨fun pins s σ H R I h => ?_⟩
  refine L2.thn (he.run pins s σ H _ I h) fun v s1 ⟨y, H1, I1, r1, q⟩ => ?_
  rcases q with ⟨a, rfl, ⟨xs, hq⟩, q⟩ | ⟨a, rfl, ⟨xs, hq⟩, q⟩ | ⟨x, rfl, q⟩
  · cases r1
    obtain ⟨its, rv, p, hz⟩ := I1.list hq
    refine wpAny_pyIter_list p.isList ?_
    refine ⟨s1.heap.objs.size, [s1.heap.objs.size], _, _, H1, rfl, I1.kept (t' := s1.toks) fun b o e => Heap.get?_push_of_some _ e, turn_list a _, ⟨_, Heap.get?_push_size _ rfl, rfl, rfl⟩, fun b hb => ?_, q⟩
    have e : b = s1.heap.objs.size := by simpa using hb
    subst e
    exact I1.fpOk (Nat.le_refl _) (I1.hok.fresh (Nat.le_refl _))
  · cases r1
    obtain ⟨its, rv, p, hz⟩ := I1.tuple hq
    refine wpAny_pyIter_tuple (show s1.heap.IsTuple a its.toArray from p) ?_
    refine ⟨s1.heap.objs.size, [s1.heap.objs.size], _, _, H1, rfl, I1.kept (t' := s1.toks) fun b o e => Heap.get?_push_of_some _ e, turn_tuple a _, ⟨_, Heap.get?_push_size _ rfl, rfl, rfl⟩, fun b hb => ?_, q⟩
    have e : b = s1.heap.objs.size := by simpa using hb
    subst e
    exact I1.fpOk (Nat.le_refl _) (I1.hok.fresh (Nat.le_refl _))
  · obtain ⟨t, rfl⟩ := r1
    cases ha : x.cps.all (· < 128)
    · exact wpAny_pyIter_wide ha (pi_one (tk := s1.toks) I1 _ (turn_str _ x t "str_iterator" (.inr rfl)) ⟨_, Heap.get?_push_size _ rfl, rfl, rfl⟩ q)
    · exact wpAny_pyIter_ascii ha (pi_one (tk := s1.toks) I1 _ (turn_str _ x t "str_ascii_iterator" (.inl rfl)) ⟨_, Heap.get?_push_size _ rfl, rfl, rfl⟩ q)
def itemsOf (d : D) (P : List D → Prop) : Prop := match d with
  | .cel ns => P (ns.map .int)
  | .lst xs => P xs
  | .tup xs => P xs
  | .str z => P ((signs z).map .str)
  | _ => False
def wiX (we : W) : WA := fun ρ P => we ρ fun s ρ1 => itemsOf s.fz fun xs => P xs ρ1
theorem di_X {X : Cx} {Z : Zx} {tg e : Expr} {te : TE} {we : W} (he : DE K X Z e te we) (hK : X.K = K := by rfl) : DI K X Z tg e (iX K te) (wiX we) := by
  refine ⟨by subst hK; exact pi_X he.pe, fun {H0 F0 F H ρ σ Q P} zo rl h k => he.run zo rl h fun s1 ρ1 F1 H1 v1 h1 f1 r1 sr1 fr1 => ?_⟩
  obtain ⟨F2, f2, r2, rp2⟩ := r1.freeze sr1 fr1
  generalize s1.fz = d at h1 rp2
  have lst : ∀ {a : Addr} {vs : List V} {xs : List D}, v1 = .ref a → SqL K F2 a vs → Reps K F2 xs vs → P xs ρ1 → iX K (fun σ H Q => Q v1 H1) σ H1 Q := fun {a vs xs} e s1 s2 h1 => by
    refine .inl ⟨a, e, ⟨vs, r2.fh.seq s1⟩, k xs ρ1 F2 H1 _ h1 (f1.trans f2) r2 (ItOk.pure (fun {i F H} f g l => ?_) (fun {i F H} f g l => ?_) fun {i F H H2 x} f g y l => ?_)⟩
    · have hl : i < vs.length := by rw [s2.len]; exact l
      exact ⟨vs, vs[i], g.seq (f.seq s1), List.getElem?_eq_getElem hl⟩
    · exact ⟨vs, g.seq (f.seq s1), by rw [s2.len]; exact l⟩
    · obtain ⟨rfl, y⟩ := y
      obtain ⟨d, e, r⟩ := s2.get' (y vs (g.seq (f.seq s1)))
      exact ⟨d, e, rfl, Rep.mono f _ _ r⟩
  unfold itemsOf at h1
  split at h1
  · obtain ⟨a, e, s1⟩ := rp2
    exact lst e s1 (Reps.ints.mpr rfl) h1
  · obtain ⟨a, vs, e, s1, s2⟩ := rp2
    exact lst e (SqL.of s1) s2 h1
  · obtain ⟨a, vs, e, s1, s2⟩ := rp2
    refine .inr (.inl ⟨a, e, ⟨vs, Same.sqT r2.fh s1⟩, k _ ρ1 F2 H1 _ h1 (f1.trans f2) r2 (ItOk.pure (fun {i F H} f g l => ?_) (fun {i F H} f g l => ?_) fun {i F H H2 x} f g y l => ?_)⟩)
    · have hl : i < vs.length := by rw [s2.len]; exact l
      exact ⟨vs, vs[i], Same.sqT g (Same.sqT f s1), List.getElem?_eq_getElem hl⟩
    · exact ⟨vs, Same.sqT g (Same.sqT f s1), by rw [s2.len]; exact l⟩
    · obtain ⟨rfl, y⟩ := y
      obtain ⟨d, e, r⟩ := s2.get' (y vs (Same.sqT g (Same.sqT f s1)))
      exact ⟨d, e, rfl, Rep.mono f _ _ r⟩
  · rename_i z
    have hlen : ((signs z).map D.str).length = z.cps.size := by simp [signs]
    refine .inr (.inr ⟨z, rp2, k _ ρ1 F2 H1 _ h1 (f1.trans f2) r2 (ItOk.pure (fun {i F H} f g l => ?_) (fun {i F H} f g l => ?_) fun {i F H H2 x} f g y l => ?_)⟩)
    · show i < z.cps.size
      omega
    · show z.cps.size ≤ i
      omega
    · obtain ⟨rfl, c, hc, rfl⟩ := y
      refine ⟨.str ⟨#[c]⟩, ?_, rfl, rfl⟩
      have hc' : z.cps.toList[i]? = some c := by rw [Array.getElem?_toList]; exact hc
      simp [signs, hc']
  · exact h1.elim
theorem vals_at : ∀ {us : List Value} {vs : List V}, us.length = vs.length → (∀ (j : Nat) (v : Value), us[j]? = some v → ∃ x, vs[j]? = some x ∧ RelV x v) → Vals vs us
  | [], [], _, _ => .nil
  | u :: us, q :: vs, hl, h => by
    obtain ⟨x, e1, e2⟩ := h 0 u rfl
    have e1' : q = x := Option.some.inj e1
    subst e1'
    exact .cons e2 (vals_at (Nat.succ.inj hl) fun j v e => h (j + 1) v e)
  | [], _ :: _, hl, _ => nomatch hl
  | _ :: _, [], hl, _ => nomatch hl
theorem call_listS {X : Cx} (hc : X.calm = true) : CallR X (.type "list") (fun xs H Q => ∃ z, xs = [.str z] ∧ z.length ≤ sizeLine ∧ ∀ p, H p = none → Q (.ref p) (upd H p (.lst ((signs z).map V.str)))) := by
  intro pins s σ H xs us Q I r h
  obtain ⟨z, rfl, hz, q⟩ := h
  obtain ⟨u, rfl, t, rfl⟩ := vals1 r
  refine call_list_str (I.ok.hd hc) z t (hn := hz) fun h' tk acc c' hk hD hacc => ?_
  have hv : Vals ((signs z).map V.str) acc.toList := by
    refine vals_at (by rw [Array.length_toList, hacc.1]; simp [signs]) fun j v e => ?_
    obtain ⟨c, u, e1, rfl⟩ := hacc.2 j v (by rw [← Array.getElem?_toList]; exact e)
    have hc' : z.cps.toList[j]? = some c := by rw [Array.getElem?_toList]; exact e1
    exact ⟨.str ⟨#[c]⟩, by simp [signs, hc'], u, rfl⟩
  exact ⟨.ref s.heap.objs.size, upd H s.heap.objs.size (.lst ((signs z).map V.str)), I.laid (t' := tk) hk (Nat.le_refl _)
    (show ObjOk X.prog X.w _ _ _ (.lst ((signs z).map V.str)) from ⟨by simp [signs]; exact hz, acc.toList, c', hv, by rw [Array.toArray_toList]; exact hD⟩), rfl, q _ (I.hok.fresh (Nat.le_refl _))⟩
end
end DL
namespace DL
open PySem L2
theorem units1 {n : Nat} (h : n + 64 < cLine) : n + 1 < cLine := by omega
section
variable {K : PySem.W.Frag} {X : Cx} {Z : Zx} {pos p p2 : Pos} {a b e : Expr} {ta tb te : TE} {wa wb we : W}
theorem de_plus (ha : DE K X Z a ta wa) (hb : DE K X Z b tb wb) (hK : X.K = K := by rfl) : DE K X Z (.BinOp a .Add b pos) (tOp (rPlus K) ta tb) (wOp oPlus wa wb) := by subst hK; exact de_op op_plus snd_plus ha hb
theorem de_eqX (hu : X.A.units + 64 < cLine) (ha : DE K X Z a ta wa) (hb : DE K X Z b tb wb) (hm : behindInMarks .Eq b = false := by rfl) (hK : X.K = K := by rfl) : DE K X Z (.Compare a [.Eq] [b] pos) (tOp (rEqX K) ta tb) (wOp oEqX wa wb) := by subst hK; exact de_cmp (op_eqX hu) snd_eqX hm ha hb
theorem de_neX (hu : X.A.units + 64 < cLine) (ha : DE K X Z a ta wa) (hb : DE K X Z b tb wb) (hm : behindInMarks .NotEq b = false := by rfl) (hK : X.K = K := by rfl) : DE K X Z (.Compare a [.NotEq] [b] pos) (tOp (rNeX K) ta tb) (wOp oNeX wa wb) := by subst hK; exact de_cmp (op_neX hu) snd_neX hm ha hb
theorem de_inX (hu : X.A.units + 64 < cLine) (ha : DE K X Z a ta wa) (hb : DE K X Z b tb wb) (hm : behindInMarks .In b = false := by rfl) (hK : X.K = K := by rfl) : DE K X Z (.Compare a [.In] [b] pos) (tOp (rInX K false) ta tb) (wOp (oInX false) wa wb) := by subst hK; exact de_cmp (op_inX (units1 hu)) snd_inX hm ha hb
theorem de_notInX (hu : X.A.units + 64 < cLine) (ha : DE K X Z a ta wa) (hb : DE K X Z b tb wb) (hm : behindInMarks .NotIn b = false := by rfl) (hK : X.K = K := by rfl) : DE K X Z (.Compare a [.NotIn] [b] pos) (tOp (rInX K true) ta tb) (wOp (oInX true) wa wb) := by subst hK; exact de_cmp (op_notInX (units1 hu)) snd_inX hm ha hb
theorem dt_eqX (hu : X.A.units + 64 < cLine) (ha : DE K X Z a ta wa) (hb : DE K X Z b tb wb) (hm : behindInMarks .Eq b = false := by rfl) (hK : X.K = K := by rfl) : DT K X Z (.Compare a [.Eq] [b] pos) (tTest (tOp (rEqX K) ta tb)) (wB (wOp oEqX wa wb)) := by subst hK; exact dt_cmp (op_eqX hu) snd_eqX hm ha hb
theorem dt_neX (hu : X.A.units + 64 < cLine) (ha : DE K X Z a ta wa) (hb : DE K X Z b tb wb) (hm : behindInMarks .NotEq b = false := by rfl) (hK : X.K = K := by rfl) : DT K X Z (.Compare a [.NotEq] [b] pos) (tTest (tOp (rNeX K) ta tb)) (wB (wOp oNeX wa wb)) := by subst hK; exact dt_cmp (op_neX hu) snd_neX hm ha hb
theorem dt_ltX (hu : X.A.units + 64 < cLine) (ha : DE K X Z a ta wa) (hb : DE K X Z b tb wb) (hm : behindInMarks .Lt b = false := by rfl) : DT K X Z (.Compare a [.Lt] [b] pos) (tTest (tOp rLtX ta tb)) (wB (wOp oLtX wa wb)) := dt_cmp op_ltX snd_cmp hm ha hb
theorem dt_gtX (hu : X.A.units + 64 < cLine) (ha : DE K X Z a ta wa) (hb : DE K X Z b tb wb) (hm : behindInMarks .Gt b = false := by rfl) : DT K X Z (.Compare a [.Gt] [b] pos) (tTest (tOp rGtX ta tb)) (wB (wOp oGtX wa wb)) := dt_cmp op_gtX snd_cmp hm ha hb
theorem dt_geX (hu : X.A.units + 64 < cLine) (ha : DE K X Z a ta wa) (hb : DE K X Z b tb wb) (hm : behindInMarks .GtE b = false := by rfl) : DT K X Z (.Compare a [.GtE] [b] pos) (tTest (tOp rGeX ta tb)) (wB (wOp oGeX wa wb)) := dt_cmp op_geX snd_cmp hm ha hb
theorem dt_inX (hu : X.A.units + 64 < cLine) (ha : DE K X Z a ta wa) (hb : DE K X Z b tb wb) (hm : behindInMarks .In b = false := by rfl) (hK : X.K = K := by rfl) : DT K X Z (.Compare a [.In] [b] pos) (tTest (tOp (rInX K false) ta tb)) (wB (wOp (oInX false) wa wb)) := by subst hK; exact dt_cmp (op_inX (units1 hu)) snd_inX hm ha hb
theorem dt_notInX (hu : X.A.units + 64 < cLine) (ha : DE K X Z a ta wa) (hb : DE K X Z b tb wb) (hm : behindInMarks .NotIn b = false := by rfl) (hK : X.K = K := by rfl) : DT K X Z (.Compare a [.NotIn] [b] pos) (tTest (tOp (rInX K true) ta tb)) (wB (wOp (oInX true) wa wb)) := by subst hK; exact dt_cmp (op_notInX (units1 hu)) snd_inX hm ha hb
theorem de_ixX (hu : X.A.units + 64 < cLine) (ha : DE K X Z a ta wa) (hb : DE K X Z b tb wb) (hs : PlainIx b := by exact fun _ _ => rfl) (hK : X.K = K := by rfl) : DE K X Z (.Subscript a b pos) (tOp (rIxX K) ta tb) (wOp oIxX wa wb) := by subst hK; exact de_ix (ix_X (units1 hu)) snd_ixX hs ha hb
def oListX : OL := fun ds P => match ds with
  | [.lst xs] => P (.ol xs)
  | [.tup xs] => P (.ol xs)
  | [.str z] => z.length ≤ sizeLine ∧ P (.ol ((signs z).map .str))
  | _ => False
abbrev qListX (K : PySem.W.Frag) : List V → Hp → VK → Prop := fun xs H Q => qList K xs H Q ∨ ∃ z, xs = [.str z] ∧ z.length ≤ sizeLine ∧ ∀ p, H p = none → Q (.ref p) (upd H p (.lst ((signs z).map V.str)))
theorem snd_listX : SndL K (qListX K) oListX := ⟨fun {F H ds vs P Q} fh r h k => by
  unfold oListX at h
  split at h
  · exact .inl (snd_list.run fh r h k)
  · exact .inl (snd_list.run fh r h k)
  · obtain ⟨v, _, rfl, rfl, rfl⟩ := r
    exact .inr ⟨_, rfl, h.1, fun p n => k.newL fh h.2 (Reps.strs.mpr rfl) n⟩
  · exact h.elim⟩
theorem de_listX (hc : X.calm = true) (m : X.mg "list" = none) (ha : DE K X Z a ta wa) (hg : Gl X "list" := by rfl) (hs : starEach [a] X.env = [(false, eval a X.env)] := by rfl) (hK : X.K = K := by rfl) : DE K X Z (.Call (.Name "list" p) [a] [] pos) (tCB (qListX K) (tCons ta tNil)) (wCB oListX (wCons wa wNil)) := by
  subst hK
  exact de_callTy (call_list_of.or (call_listS hc)) snd_listX hg m (by decide +kernel) (da_cons ha da_nil hs) (hn := by decide) (hdb := by decide) (he := hs) (hpl := rfl)
theorem de_all (m : X.mg "all" = none) (hc : CallR X (.builtin "all") (rAll X.K)) (ha : DE K X Z a ta wa) (hg : Gl X "all" := by rfl) (hs : starEach [a] X.env = [(false, eval a X.env)] := by rfl) (hK : X.K = K := by rfl) : DE K X Z (.Call (.Name "all" p) [a] [] pos) (tCB (rAll K) (tCons ta tNil)) (wCB oAll (wCons wa wNil)) := by
  subst hK
  exact de_callB hc snd_all hg m (by decide +kernel) (da_cons ha da_nil hs) (hn := by decide) (hdb := by decide) (he := hs) (hpl := rfl)
end
section
variable {K : PySem.W.Frag} {X : Cx} {Z : Zx} {pos spos py : Pos} {te : TE} {we : W}
variable {elt tg iter : Expr} {ifs : List Expr} {scope : Scope} {own : List (Str × Nat)} {wi : TI} {wa : WA} {g : TG} {wg : WG} {tt : TT} {wt : WT}
theorem ds_asgLc (i : Nat) {y : Str} (hc : X.calm = true) (hN : X.N.Nodup) (hi : DI K X Z tg iter wi wa) (ok : BlkOk X.N X.env.scope scope own)
    (hg : ∀ (s : Shared) (H : Hp) (C : Addr) (cl : List (Str × Addr)) (fp : List Addr), DGb K (X.blk s H scope (compEnvC scope cl C X.env) fp) Z tg (own.map (·.2)) g wg) (ht : ∀ (s : Shared) (H : Hp) (C : Addr) (cl : List (Str × Addr)) (fp : List Addr), DTs K (X.blk s H scope (compEnvC scope cl C X.env) fp) Z ifs tt wt)
    (he : ∀ (s : Shared) (H : Hp) (C : Addr) (cl : List (Str × Addr)) (fp : List Addr), DE K (X.blk s H scope (compEnvC scope cl C X.env) fp) Z elt te we) (hs : ∀ x, foldedSetIterable iter X.env x = pure x := by intro _; rfl)
    (hy : X.N[i]? = some y := by rfl) (hyl : X.env.scope.names.lookup y = some .local := by rfl) (hk : X.env.scope.kind = .function := by rfl) (hl : (py.line == pos.line) = true := by rfl)
    (ha : (scope.names.any fun (n, k) => n == y && (k == .local || k == .cell)) = false := by rfl) :
    DS K X Z (.Assign [.Name y py] (.ListComp elt [⟨tg, iter, ifs, 0⟩] scope pos) spos) (tAsg (tLc wi g tt te (own.map (·.2))) (gName i)) (wAsg (wLc wa wg wt we (own.map (·.2))) (wgName i)) :=
  ⟨ps_setLc hc hN hy hyl (sw_true hk hyl hl ha) hi.pe ok (fun s H C cl fp => (hg s H C cl fp).pe) (fun s H C cl fp => (ht s H C cl fp).pe) (fun s H C cl fp => (he s H C cl fp).pe) hs,
    fun {H0 F0 F H ρ σ DD Dh} zo rl ee h => (run_lc hi.run (hg X.s_0 (fun _ => none) 0 [] []).run (ht X.s_0 (fun _ => none) 0 [] []).run (he X.s_0 (fun _ => none) 0 [] []).run) zo rl h fun s ρ' F' H' v p f r sr fr => by
      obtain ⟨F2, f2, r2, rp2⟩ := r.freeze sr fr
      exact (dg_name (K := K) (X := X) (Z := Z) (pos := py) i hN hy (Or.inl hyl) (.inr hyl)).run zo r2 rp2 p fun ρ3 F3 H3 σ3 p3 f3 r3 => ee.nx _ _ _ _ p3 (f.trans (f2.trans f3)) r3⟩
end
end DL
namespace DL
open PySem L2
def sg (p : Str) : List Nat := p.cps.toList
theorem sg_inj {p q : Str} (h : sg p = sg q) : p = q := str_ext h
theorem sg_append (p q : Str) : sg (p ++ q) = sg p ++ sg q := by
  show (p.cps ++ q.cps).toList = _
  rw [Array.toList_append]; rfl
theorem sg_len (p : Str) : p.length = (sg p).length := by simp [Str.length, sg]
theorem glue_fold (sep : Str) (hs : sg sep = []) : ∀ (xs : List Str) (a : Array Nat), (xs.foldl (fun acc p => acc ++ sep.cps ++ p.cps) a).toList = a.toList ++ (xs.map sg).flatten
  | [], a => by simp
  | x :: xs, a => by
    rw [List.foldl_cons, glue_fold sep hs xs]
    have : sep.cps.toList = [] := hs
    simp [this, sg]
theorem sg_join0 {sep : Str} (hs : sg sep = []) : ∀ xs : List Str, sg (Txt.join sep xs) = (xs.map sg).flatten
  | [] => rfl
  | x :: xs => by
    show (xs.foldl (fun acc p => acc ++ sep.cps ++ p.cps) x.cps).toList = _
    rw [glue_fold sep hs]; rfl
def LET : List Nat := [97, 98, 99, 112, 113, 114, 120, 121, 122]
structure Prd (p : Str) : Prop where
  up : (sg p).Pairwise (· < ·)
  le : ∀ c ∈ sg p, c ∈ LET
structure Frm (f : List Str) : Prop where
  so : f.Pairwise fun a b => leS a b = true
  nd : f.Nodup
  prd : ∀ p ∈ f, Prd p
def tr (r : Nat → Bool) (p : Str) : Bool := (sg p).all r
def val (r : Nat → Bool) (f : List Str) : Bool := decide (f.countP (tr r) % 2 = 1)
def tog (l : List Str) (x : Str) : List Str := if x ∈ l then l.filter (fun y => decide (y ≠ x)) else l ++ [x]
def odds (xs : List Str) : List Str := xs.foldl tog []
theorem tog_nodup {l : List Str} {x : Str} (h : l.Nodup) : (tog l x).Nodup := by
  unfold tog
  split
  · exact h.filter _
  · rename_i hx
    rw [List.nodup_append]
    refine ⟨h, by simp, fun a ha b hb => ?_⟩
    have : b = x := by simpa using hb
    subst this
    exact fun e => hx (e ▸ ha)
theorem countP_tog {t : Str → Bool} {l : List Str} {x : Str} (h : l.Nodup) : (tog l x).countP t % 2 = (l.countP t + (if t x = true then 1 else 0)) % 2 := by
  unfold tog
  split
  · rename_i hx
    have e : l.filter (fun y => decide (y ≠ x)) = l.erase x := by
      rw [h.erase_eq_filter]
      apply List.filter_congr
      intro y _
      simp [bne, BEq.beq]
    rw [e, (List.perm_cons_erase hx).countP_eq t, List.countP_cons]
    split <;> omega
  · rw [List.countP_append, List.countP_singleton]
theorem foldl_tog : ∀ (xs l : List Str), l.Nodup → (xs.foldl tog l).Nodup ∧ ∀ t : Str → Bool, (xs.foldl tog l).countP t % 2 = (l.countP t + xs.countP t) % 2
  | [], l, h => ⟨h, fun t => by simp⟩
  | x :: xs, l, h => by
    obtain ⟨h1, h2⟩ := foldl_tog xs (tog l x) (tog_nodup h)
    refine ⟨h1, fun t => ?_⟩
    rw [List.foldl_cons, h2 t, List.countP_cons]
    have := countP_tog (t := t) (x := x) h
    omega
theorem odds_nodup (xs : List Str) : (odds xs).Nodup := (foldl_tog xs [] List.nodup_nil).1
theorem countP_odds (t : Str → Bool) (xs : List Str) : (odds xs).countP t % 2 = xs.countP t % 2 := by
  have := (foldl_tog xs [] List.nodup_nil).2 t
  rw [List.countP_nil, Nat.zero_add] at this
  exact this
theorem tog_sub {l : List Str} {x y : Str} (h : y ∈ tog l x) : y ∈ l ∨ y = x := by
  unfold tog at h
  split at h
  · exact .inl (List.mem_filter.mp h).1
  · rcases List.mem_append.mp h with h | h
    · exact .inl h
    · exact .inr (by simpa using h)
theorem foldl_tog_sub {y : Str} : ∀ (xs l : List Str), y ∈ xs.foldl tog l → y ∈ l ∨ y ∈ xs
  | [], l, h => .inl h
  | x :: xs, l, h => by
    rcases foldl_tog_sub xs (tog l x) h with h | h
    · rcases tog_sub h with h | h
      · exact .inl h
      · exact .inr (h ▸ List.mem_cons_self)
    · exact .inr (List.mem_cons_of_mem _ h)
theorem odds_sub {y : Str} {xs : List Str} (h : y ∈ odds xs) : y ∈ xs := (foldl_tog_sub xs [] h).elim (fun z => by simp at z) id
theorem odds_len (xs : List Str) : (odds xs).length ≤ xs.length := (odds_nodup xs).length_le_of_subset fun y h => odds_sub h
def gath (xs : List Str) : List Str := srt (odds xs)
theorem gath_frm {xs : List Str} (h : ∀ p ∈ xs, Prd p) : Frm (gath xs) :=
  ⟨srt_pw _, (srt_perm _).nodup_iff.mpr (odds_nodup xs), fun p hp => h p (odds_sub ((srt_perm _).mem_iff.mp hp))⟩
theorem val_gath (r : Nat → Bool) (xs : List Str) : val r (gath xs) = decide (xs.countP (tr r) % 2 = 1) := by
  unfold val gath
  rw [(srt_perm _).countP_eq, countP_odds]
theorem val_append (r : Nat → Bool) (xs ys : List Str) : decide ((xs ++ ys).countP (tr r) % 2 = 1) = xor (val r xs) (val r ys) := by
  unfold val
  rw [List.countP_append]
  rcases Nat.mod_two_eq_zero_or_one (xs.countP (tr r)) with h | h <;> rcases Nat.mod_two_eq_zero_or_one (ys.countP (tr r)) with g | g <;> simp [Nat.add_mod, h, g]
theorem up_ext : ∀ {p q : List Nat}, p.Pairwise (· < ·) → q.Pairwise (· < ·) → (∀ c, c ∈ p ↔ c ∈ q) → p = q := fun {p q} hp hq h => by
  have np : p.Nodup := hp.imp fun h => Nat.ne_of_lt h
  have nq : q.Nodup := hq.imp fun h => Nat.ne_of_lt h
  exact ((List.perm_ext_iff_of_nodup np nq).mpr h).eq_of_pairwise (fun a b _ _ h1 h2 => absurd h1 (Nat.lt_asymm h2)) hp hq
theorem sub_len {p q : Str} (hp : Prd p) (hq : Prd q) (h : ∀ c ∈ sg p, c ∈ sg q) (hl : (sg q).length ≤ (sg p).length) : p = q := by
  have np : (sg p).Nodup := hp.up.imp fun h => Nat.ne_of_lt h
  have nq : (sg q).Nodup := hq.up.imp fun h => Nat.ne_of_lt h
  refine sg_inj (up_ext hp.up hq.up fun c => ⟨h c, fun hc => Classical.byContradiction fun hn => ?_⟩)
  have hnd : (c :: sg p).Nodup := List.nodup_cons.mpr ⟨hn, np⟩
  have := hnd.length_le_of_subset (l₂ := sg q) fun x hx => (List.mem_cons.mp hx).elim (fun e => e ▸ hc) (h x)
  simp only [List.length_cons] at this
  omega
theorem least : ∀ {f : List Str}, f ≠ [] → ∃ p ∈ f, ∀ q ∈ f, (sg p).length ≤ (sg q).length
  | [], h => absurd rfl h
  | [p], _ => ⟨p, by simp, fun q hq => by simp at hq; subst hq; exact Nat.le_refl _⟩
  | p :: x :: r, _ => by
    obtain ⟨q, hq, h⟩ := least (f := x :: r) (by simp)
    by_cases hl : (sg p).length ≤ (sg q).length
    · refine ⟨p, by simp, fun y hy => ?_⟩
      rcases List.mem_cons.mp hy with e | e
      · subst e; exact Nat.le_refl _
      · exact Nat.le_trans hl (h y e)
    · refine ⟨q, List.mem_cons_of_mem _ hq, fun y hy => ?_⟩
      rcases List.mem_cons.mp hy with e | e
      · subst e; omega
      · exact h y e
def rowP (p : Str) : Nat → Bool := fun c => decide (c ∈ sg p)
theorem tr_rowP {p q : Str} : tr (rowP p) q = true ↔ ∀ c ∈ sg q, c ∈ sg p := by
  simp [tr, rowP, List.all_eq_true]
theorem val_least {f : List Str} (hn : f.Nodup) (hp : ∀ p ∈ f, Prd p) {p : Str} (hm : p ∈ f) (hl : ∀ q ∈ f, (∀ c ∈ sg q, c ∈ sg p) → (sg p).length ≤ (sg q).length) : val (rowP p) f = true := by
  have : f.countP (tr (rowP p)) = f.count p := by
    unfold List.count
    apply List.countP_congr
    intro q hq
    rw [tr_rowP]
    constructor
    · intro h
      have := sub_len (hp q hq) (hp p hm) h (hl q hq h)
      subst this
      exact beq_self_eq_true _
    · intro h c hc
      have e : q = p := by simpa using h
      subst e; exact hc
  unfold val
  have h3 := List.nodup_iff_count.mp hn p
  have h4 := List.count_pos_iff.mpr hm
  have h5 : f.count p = 1 := by omega
  rw [this, h5]
  rfl
theorem uniq {f g : List Str} (hf : Frm f) (hg : Frm g) (h : ∀ r, val r f = val r g) : f = g := by
  have he : odds (f ++ g) = [] := Classical.byContradiction fun hne => by
    obtain ⟨p, hm, hl⟩ := least hne
    have hp : ∀ q ∈ odds (f ++ g), Prd q := fun q hq => (List.mem_append.mp (odds_sub hq)).elim (hf.prd q) (hg.prd q)
    have h1 := val_least (odds_nodup _) hp hm fun q hq _ => hl q hq
    have h2 := val_append (rowP p) f g
    rw [← countP_odds, h] at h2
    unfold val at h1 h2
    rw [h1] at h2
    simp at h2
  have hc : ∀ p, p ∈ f ↔ p ∈ g := fun p => by
    have h1 := countP_odds (fun x => x == p) (f ++ g)
    rw [he, List.countP_nil, List.countP_append] at h1
    have h2 : (f.count p + g.count p) % 2 = 0 := h1.symm
    have h3 := List.nodup_iff_count.mp hf.nd p
    have h4 := List.nodup_iff_count.mp hg.nd p
    constructor
    · intro hx
      have := List.count_pos_iff.mpr hx
      exact List.count_pos_iff.mp (by omega)
    · intro hx
      have := List.count_pos_iff.mpr hx
      exact List.count_pos_iff.mp (by omega)
  exact ((List.perm_ext_iff_of_nodup hf.nd hg.nd).mpr hc).eq_of_pairwise (fun a b _ _ h1 h2 => leS_anti h1 h2) hf.so hg.so
def subs : List Nat → List (List Nat)
  | [] => [[]]
  | c :: cs => subs cs ++ (subs cs).map (c :: ·)
theorem mem_subs : ∀ {L p : List Nat}, L.Pairwise (· < ·) → p.Pairwise (· < ·) → (∀ c ∈ p, c ∈ L) → p ∈ subs L
  | [], p, _, _, h => by
    cases p with
    | nil => simp [subs]
    | cons c r => exact absurd (h c List.mem_cons_self) (by simp)
  | d :: L, p, hL, hp, h => by
    rw [List.pairwise_cons] at hL
    cases p with
    | nil => exact List.mem_append.mpr (.inl (mem_subs hL.2 .nil (by simp)))
    | cons c r =>
      rw [List.pairwise_cons] at hp
      by_cases e : c = d
      · subst e
        refine List.mem_append.mpr (.inr (List.mem_map.mpr ⟨r, mem_subs hL.2 hp.2 fun x hx => ?_, rfl⟩))
        rcases List.mem_cons.mp (h x (List.mem_cons_of_mem _ hx)) with e | e
        · exact absurd (hp.1 x hx) (by omega)
        · exact e
      · have hc : c ∈ L := (List.mem_cons.mp (h c List.mem_cons_self)).elim (fun z => absurd z e) id
        have hdc := hL.1 c hc
        refine List.mem_append.mpr (.inl (mem_subs hL.2 (List.pairwise_cons.mpr hp) fun x hx => ?_))
        rcases List.mem_cons.mp (h x hx) with z | z
        · rcases List.mem_cons.mp hx with y | y
          · exact absurd (y.symm.trans z) e
          · have := hp.1 x y
            omega
        · exact z
theorem LET_up : LET.Pairwise (· < ·) := by decide
theorem Frm.len {f : List Str} (h : Frm f) : f.length ≤ 512 := by
  have h1 : (f.map sg).Nodup := by
    rw [List.nodup_iff_pairwise_ne, List.pairwise_map]
    exact (List.nodup_iff_pairwise_ne.mp h.nd).imp fun z e => z (sg_inj e)
  have h2 := h1.length_le_of_subset (l₂ := subs LET) fun x hx => by
    obtain ⟨p, hp, rfl⟩ := List.mem_map.mp hx
    exact mem_subs LET_up (h.prd p hp).up (h.prd p hp).le
  rw [List.length_map] at h2
  exact Nat.le_trans h2 (by decide +kernel)
theorem Prd.len {p : Str} (h : Prd p) : (sg p).length ≤ 9 := by
  have n : (sg p).Nodup := h.up.imp fun h => Nat.ne_of_lt h
  exact n.length_le_of_subset (l₂ := LET) h.le
def one (c : Nat) : Str := ⟨#[c]⟩
theorem sg_one (c : Nat) : sg (one c) = [c] := rfl
theorem one_inj {a b : Nat} (h : one a = one b) : a = b := by
  have := congrArg sg h
  simpa [sg_one] using this
theorem signs_eq (z : Str) : signs z = (sg z).map one := rfl
theorem leS_one {a b : Nat} : leS (one a) (one b) = true ↔ a ≤ b := by
  unfold leS
  rw [decide_eq_true_iff]
  show [a] ≤ [b] ↔ _
  rw [List.cons_le_cons_iff]
  constructor
  · rintro (h | h) <;> omega
  · intro h
    rcases Nat.lt_or_eq_of_le h with h | h
    · exact .inl h
    · exact .inr ⟨h, by simp⟩
theorem ones_of {L : List Str} (h : ∀ x ∈ L, ∃ c, x = one c) : ∃ cs : List Nat, L = cs.map one := by
  induction L with
  | nil => exact ⟨[], rfl⟩
  | cons x L ih =>
    obtain ⟨c, rfl⟩ := h x List.mem_cons_self
    obtain ⟨cs, rfl⟩ := ih fun y hy => h y (List.mem_cons_of_mem _ hy)
    exact ⟨c :: cs, rfl⟩
theorem flat_ones (cs : List Nat) : ((cs.map one).map sg).flatten = cs := by
  induction cs with
  | nil => rfl
  | cons c cs ih =>
    rw [List.map_cons, List.map_cons, List.flatten_cons, ih]; rfl
def lets (z : Str) : Str := Txt.join "" (srtset (signs z))
theorem sg_nil : sg "" = [] := by decide +kernel
theorem srtset_signs (z : Str) : ∃ cs : List Nat, srtset (signs z) = cs.map one ∧ cs.Pairwise (· < ·) ∧ ∀ c, c ∈ cs ↔ c ∈ sg z := by
  obtain ⟨cs, e⟩ := ones_of (L := srtset (signs z)) fun x hx => by
    have := mem_srtset.mp hx
    rw [signs_eq] at this
    obtain ⟨c, _, rfl⟩ := List.mem_map.mp this
    exact ⟨c, rfl⟩
  refine ⟨cs, e, ?_, fun c => ?_⟩
  · have h1 : (cs.map one).Pairwise fun a b => leS a b = true := by rw [← e]; exact srt_pw _
    have h2 : (cs.map one).Nodup := by rw [← e]; exact nodup_srtset _
    rw [List.pairwise_map] at h1
    rw [List.nodup_iff_pairwise_ne, List.pairwise_map] at h2
    refine (h1.and h2).imp fun h => ?_
    have := leS_one.mp h.1
    have h3 : ∀ {a b : Nat}, one a ≠ one b → a ≠ b := fun z e => z (e ▸ rfl)
    exact Nat.lt_of_le_of_ne this (h3 h.2)
  · have h1 : one c ∈ srtset (signs z) ↔ one c ∈ signs z := mem_srtset
    rw [e, signs_eq] at h1
    constructor
    · intro h
      obtain ⟨d, hd, ed⟩ := List.mem_map.mp (h1.mp (List.mem_map.mpr ⟨c, h, rfl⟩))
      exact one_inj ed ▸ hd
    · intro h
      obtain ⟨d, hd, ed⟩ := List.mem_map.mp (h1.mpr (List.mem_map.mpr ⟨c, h, rfl⟩))
      exact one_inj ed ▸ hd
theorem sg_lets (z : Str) : (sg (lets z)).Pairwise (· < ·) ∧ ∀ c, c ∈ sg (lets z) ↔ c ∈ sg z := by
  obtain ⟨cs, e, h1, h2⟩ := srtset_signs z
  have : sg (lets z) = cs := by
    unfold lets
    rw [sg_join0 sg_nil, e, flat_ones]
  rw [this]
  exact ⟨h1, h2⟩
theorem prd_lets {z : Str} (h : ∀ c ∈ sg z, c ∈ LET) : Prd (lets z) := ⟨(sg_lets z).1, fun c hc => h c (((sg_lets z).2 c).mp hc)⟩
theorem tr_lets (r : Nat → Bool) (z : Str) : tr r (lets z) = (sg z).all r := by
  unfold tr
  rw [Bool.eq_iff_iff, List.all_eq_true, List.all_eq_true]
  exact ⟨fun h c hc => h c (((sg_lets z).2 c).mpr hc), fun h c hc => h c (((sg_lets z).2 c).mp hc)⟩
def bothF (p q : Str) : Str := lets (p ++ q)
theorem prd_both {p q : Str} (hp : Prd p) (hq : Prd q) : Prd (bothF p q) := prd_lets fun c hc => by
  rw [sg_append] at hc
  exact (List.mem_append.mp hc).elim (hp.le c) (hq.le c)
theorem tr_both (r : Nat → Bool) (p q : Str) : tr r (bothF p q) = (tr r p && tr r q) := by
  rw [bothF, tr_lets, sg_append, List.all_append]; rfl
def addedF (a b : List Str) : List Str := gath (a ++ b)
def pairsF (a b : List Str) : List Str := a.flatMap fun p => b.map (bothF p)
def mulF (a b : List Str) : List Str := gath (pairsF a b)
def oneF : List Str := [""]
def oppF (a : List Str) : List Str := addedF a oneF
def joinF (a b : List Str) : List Str := addedF (addedF a b) (mulF a b)
theorem prd_nil : Prd "" := ⟨by rw [sg_nil]; exact .nil, by rw [sg_nil]; simp⟩
theorem frm_nil : Frm [] := ⟨.nil, .nil, by simp⟩
theorem frm_one : Frm oneF := ⟨by simp [oneF], by simp [oneF], fun p hp => by simp [oneF] at hp; subst hp; exact prd_nil⟩
theorem frm_added {a b : List Str} (ha : Frm a) (hb : Frm b) : Frm (addedF a b) := gath_frm fun p hp => (List.mem_append.mp hp).elim (ha.prd p) (hb.prd p)
theorem prd_pairs {a b : List Str} (ha : ∀ p ∈ a, Prd p) (hb : ∀ p ∈ b, Prd p) : ∀ p ∈ pairsF a b, Prd p := fun p hp => by
  obtain ⟨x, hx, h⟩ := List.mem_flatMap.mp hp
  obtain ⟨y, hy, rfl⟩ := List.mem_map.mp h
  exact prd_both (ha x hx) (hb y hy)
theorem frm_mul {a b : List Str} (ha : Frm a) (hb : Frm b) : Frm (mulF a b) := gath_frm (prd_pairs ha.prd hb.prd)
theorem frm_opp {a : List Str} (ha : Frm a) : Frm (oppF a) := frm_added ha frm_one
theorem frm_join {a b : List Str} (ha : Frm a) (hb : Frm b) : Frm (joinF a b) := frm_added (frm_added ha hb) (frm_mul ha hb)
theorem val_added (r : Nat → Bool) (a b : List Str) : val r (addedF a b) = xor (val r a) (val r b) := by rw [addedF, val_gath, val_append]
theorem countP_pairs (r : Nat → Bool) (b : List Str) : ∀ a : List Str, (pairsF a b).countP (tr r) = a.countP (tr r) * b.countP (tr r)
  | [] => by simp [pairsF]
  | p :: a => by
    show ((p :: a).flatMap _).countP _ = _
    rw [List.flatMap_cons, List.countP_append, List.countP_cons, show (a.flatMap fun p => b.map (bothF p)).countP (tr r) = _ from countP_pairs r b a, List.countP_map]
    by_cases h : tr r p = true
    · rw [if_pos h, Nat.add_mul, Nat.one_mul, Nat.add_comm]
      congr 1
      apply List.countP_congr
      intro q _
      simp [Function.comp, tr_both, h]
    · rw [if_neg h, Nat.add_zero]
      have : b.countP (tr r ∘ bothF p) = 0 := by
        rw [List.countP_eq_zero]
        intro q _
        simp [Function.comp, tr_both, h]
      rw [this, Nat.zero_add]
theorem val_mul (r : Nat → Bool) (a b : List Str) : val r (mulF a b) = (val r a && val r b) := by
  rw [mulF, val_gath, countP_pairs]
  unfold val
  rcases Nat.mod_two_eq_zero_or_one (a.countP (tr r)) with h | h <;> rcases Nat.mod_two_eq_zero_or_one (b.countP (tr r)) with g | g <;> simp [Nat.mul_mod, h, g]
theorem val_nil (r : Nat → Bool) : val r [] = false := rfl
theorem val_one (r : Nat → Bool) : val r oneF = true := by
  have : tr r "" = true := by unfold tr; rw [sg_nil]; rfl
  simp [val, oneF, this]
theorem val_opp (r : Nat → Bool) (a : List Str) : val r (oppF a) = !val r a := by rw [oppF, val_added, val_one]; cases val r a <;> rfl
theorem val_join (r : Nat → Bool) (a b : List Str) : val r (joinF a b) = (val r a || val r b) := by
  rw [joinF, val_added, val_added, val_mul]; cases val r a <;> cases val r b <;> rfl
theorem pairs_len (b : List Str) : ∀ a : List Str, (pairsF a b).length = a.length * b.length
  | [] => by simp [pairsF]
  | p :: a => by
    show ((p :: a).flatMap _).length = _
    rw [List.flatMap_cons, List.length_append, List.length_map, show (a.flatMap fun p => b.map (bothF p)).length = _ from pairs_len b a, List.length_cons, Nat.succ_mul, Nat.add_comm]
end DL
namespace DL
open PySem L2
section
variable {K : PySem.W.Frag} {X : Cx} {Z : Zx} {pos p p2 p3 apos cpos : Pos} {a b e o : Expr} {ta tb te to : TE} {wa wb we wo : W} {i : Nat}
def tyD : D → Option String
  | .non => some "NoneType" | .bl _ => some "bool" | .int _ => some "int" | .str _ => some "str" | .cel _ => some "list" | .lst _ => some "list" | .tup _ => some "tuple" | .dic _ _ => some "dict"
  | _ => none
def isiB (t c : String) : Option Bool := match t, c with
  | "NoneType", "bool" => some false | "NoneType", "int" => some false | "NoneType", "str" => some false | "NoneType", "list" => some false | "NoneType", "tuple" => some false | "NoneType", "dict" => some false
  | "bool", "bool" => some true | "bool", "int" => some true | "bool", "str" => some false | "bool", "list" => some false | "bool", "tuple" => some false | "bool", "dict" => some false
  | "int", "bool" => some false | "int", "int" => some true | "int", "str" => some false | "int", "list" => some false | "int", "tuple" => some false | "int", "dict" => some false
  | "str", "bool" => some false | "str", "int" => some false | "str", "str" => some true | "str", "list" => some false | "str", "tuple" => some false | "str", "dict" => some false
  | "list", "bool" => some false | "list", "int" => some false | "list", "str" => some false | "list", "list" => some true | "list", "tuple" => some false | "list", "dict" => some false
  | "tuple", "bool" => some false | "tuple", "int" => some false | "tuple", "str" => some false | "tuple", "list" => some false | "tuple", "tuple" => some true | "tuple", "dict" => some false
  | "dict", "bool" => some false | "dict", "int" => some false | "dict", "str" => some false | "dict", "list" => some false | "dict", "tuple" => some false | "dict", "dict" => some true
  | _, _ => none
theorem isiB_ok {t c : String} {b : Bool} (h : isiB t c = some b) : PySem.W.kitOne K (.type t) (.type c) = some b := by
  unfold isiB at h
  split at h <;> first | (cases h; done) | (cases h; with_unfolding_all rfl)
theorem ty_rep {F : Hp} {x : D} {v : V} {t : String} (r : Rep K F x v) (e : tyD x = some t) : TyX K F v (.type t) := by
  cases x <;> first | (cases e; done) | skip
  · cases e; cases (show v = _ from r); exact .base .non
  · cases e; cases (show v = _ from r); exact .base (.bl _)
  · cases e; cases (show v = _ from r); exact .base (.int _)
  · cases e; cases (show v = _ from r); exact .base (.str _)
  · cases e
    obtain ⟨a, rfl, h⟩ := r
    rcases h with (h | ⟨o, h⟩) | ⟨o, its, n, h, hc, _⟩
    · exact .base (.lst h)
    · exact .base (.frz h)
    · exact .kList h hc
  · cases e
    obtain ⟨a, vs, rfl, h, _⟩ := r
    exact .base (.lst h)
  · cases e
    obtain ⟨a, vs, rfl, h, _⟩ := r
    rcases h with (h | ⟨o, h⟩) | ⟨o, its, n, h, hc, _⟩
    · exact .base (.tup h)
    · exact .fTuple h
    · exact .kTuple h hc
  · cases e
    obtain ⟨a, vs, rfl, h, _⟩ := r
    rcases h with h | ⟨o, h⟩
    · exact .base (.dK h)
    · exact .fDict h
def oIsi : OL := fun ds P => match ds with
  | [x, .ty c] => asA (tyD x) fun t => asA (isiB t c) fun b => P (.d (.bl b))
  | _ => False
theorem snd_isi : SndL K (rIsi K) oIsi := ⟨fun {F H ds vs P Q} fh r h k => by
  unfold oIsi at h
  split at h
  · obtain ⟨v, _, rfl, rx, c, _, rfl, rc, rfl⟩ := r
    cases (show c = _ from rc)
    obtain ⟨t, e, h⟩ := asA_of h
    obtain ⟨b, e2, h⟩ := asA_of h
    exact ⟨v, _, _, _, b, rfl, .ty _, ty_rep (Rep.mono fh _ _ rx) e, isiB_ok e2, k.flat (d := .bl b) fh h rfl⟩
  · exact h.elim⟩
theorem de_ty {x : Str} {n : String} (hm : X.mg x = none) (hv : bootBuiltins x = some (.type n)) (hg : Gl X x := by rfl) (hn : x ≠ "__name__" := by decide) (hd : (x == ("__debug__" : Str)) = false := by decide) : DE K X Z (.Name x pos) (tC (.ty n)) (wC (.ty n)) := de_c (pe_bltn hg hm hv rfl hn hd) fun _ => rfl
theorem de_isi (m : X.mg "isinstance" = none) (ha : DE K X Z a ta wa) (hb : DE K X Z b tb wb) (hg : Gl X "isinstance" := by rfl) (hs : starEach [a, b] X.env = (false, eval a X.env) :: starEach [b] X.env := by rfl) (hs2 : starEach [b] X.env = [(false, eval b X.env)] := by rfl) (hpl : (backTo pos (starEach [b] X.env)).any (·.1) = false := by rfl) (hK : X.K = K := by rfl) :
    DE K X Z (.Call (.Name "isinstance" p) [a, b] [] pos) (tCB (rIsi K) (tCons ta (tCons tb tNil))) (wCB oIsi (wCons wa (wCons wb wNil))) := by
  subst hK
  exact de_callB call_isi snd_isi hg m (by decide +kernel) (da_cons ha (da_cons hb da_nil hs2) hs) (hn := by decide) (hdb := by decide) (he := hs) (hpl := hpl)
def oDict : OL := fun ds P => match ds with
  | [.dic ks xs] => P (.od (ks.zip xs))
  | _ => False
def wDisp1 (wk wv : W) : W := fun ρ P => wk (dataR ρ) fun k ρ1 => wv ρ1 fun v _ => asKey k.fz fun key => P (.od [(key, v.fz)]) ρ
theorem run_disp1 {tk tv : TE} {wk wv : W} (hk : RunE K Z tk wk) (hv : RunE K Z tv wv) : RunE K Z (tDisp [(tk, tv)]) (wDisp1 wk wv) := fun {H0 F0 F H ρ σ Q P} zo rl h k => fun p n => by
  have hn : Same H (upd H p (.dK [])) := Same.new n
  have r1 : Rel K (upd H p (.dK [])) F F (upd H p (.dK [])) (dataR ρ) σ := rl.view (Same.refl _) (rl.fh.trans hn) []
  have zo1 : Z.Ok K (upd H p (.dK [])) F := (zo.on rl.h rl.f rl.nw).on hn (Same.refl _) fun _ q => .inl q
  refine hk zo1 r1 h fun s1 ρ1 F1 H1 v1 h1 f1 r2 sr1 fr1 => ?_
  obtain ⟨F2, f2, r3, rp2⟩ := r2.freeze sr1 fr1
  refine hv zo1 r3 h1 fun s3 ρ3 F3 H3 v3 h3 f3 r4 sr3 fr3 => ?_
  obtain ⟨F4, f4, r5, rp4⟩ := r4.freeze sr3 fr3
  obtain ⟨key, rfl, h3⟩ := asKey_of h3 (Rep.mono (f3.trans f4) _ _ rp2)
  have hp : H3 p = some (.dK []) := r5.h _ _ upd_same
  have f4n : F4 p = none := by
    cases q : F4 p with
    | none => rfl
    | some u =>
      rcases r5.nw p (by rw [q]; exact fun z => nomatch z) with z | z
      · exact absurd (rl.fh.free n) z
      · rw [upd_same] at z; cases z
  have ff : Same F F4 := f1.trans (f2.trans (f3.trans f4))
  have sH : Same H (upd H3 p (.dK [(key, v3)])) := fun b u q => by
    have hb : b ≠ p := fun e => by rw [e, n] at q; cases q
    rw [upd_ne hb]
    exact r5.h _ _ (by rw [upd_ne hb]; exact q)
  have s4 : Same F4 (upd H3 p (.dK [(key, v3)])) := fun b u q => by
    have hb : b ≠ p := fun e => by rw [e, f4n] at q; cases q
    rw [upd_ne hb]
    exact r5.fh _ _ q
  refine ⟨hp, [(key, v3)], rfl, (show 1 ≤ 15 by decide), ?_⟩
  refine (rl.kont (Same.refl _) k) (.od [(key, s3.fz)]) _ F4 _ h3 sH ff s4 (fun b q => ?_) ⟨p, [(key, v3)], rfl, upd_same, rfl, Reps.one rp4, n, f4n⟩
  rcases r5.nw b q with z | z
  · exact .inl z
  · refine .inr ?_
    have hb : b ≠ p := fun e => by rw [e, upd_same] at z; cases z
    rw [upd_ne hb] at z
    exact z
theorem de_disp1 {k v : Expr} {tk tv : TE} {wk wv : W} (hk : DE K X Z k tk wk) (hv : DE K X Z v tv wv) : DE K X Z (.Dict [some k] [v] pos) (tDisp [(tk, tv)]) (wDisp1 wk wv) :=
  ⟨pe_disp (pps_cons hk.pe hv.pe pps_nil) rfl rfl (fun z => nomatch z) (show 1 ≤ 15 by decide), run_disp1 hk.run hv.run⟩
abbrev WO := R → (Option Int → R → Prop) → Prop
structure DO (K : PySem.W.Frag) (X : Cx) (Z : Zx) (e : Option Expr) (t : TO) (w : WO) : Prop where
  pe : PO X e t
  run : ∀ {H0 F0 F H : Hp} {ρ : R} {σ : St} {Q : Option Int → Hp → Prop} {P : Option Int → R → Prop}, Z.Ok K H0 F0 → Rel K H0 F0 F H ρ σ → w ρ P → (∀ o ρ' F' H', P o ρ' → Same F F' → Rel K H0 F0 F' H' ρ' σ → Q o H') → t σ H Q
def wNoP : WO := fun ρ P => P none ρ
def wPart (we : W) : WO := fun ρ P => we ρ fun s ρ1 => asI s.fz fun i => P (some i) ρ1
def cutD {α : Type} (xs : List α) (lo hi : Option Int) : List α := (xs.drop (HT.sIx xs.length 0 lo)).take (HT.sIx xs.length xs.length hi - HT.sIx xs.length 0 lo)
def oSl (x : D) (lo hi : Option Int) (P : S → Prop) : Prop := match x with
  | .lst xs => P (.ol (cutD xs lo hi))
  | .tup xs => P (.d (.tup (cutD xs lo hi)))
  | .str z => z.length ≤ sizeLine ∧ P (.d (.str (cutS z lo hi)))
  | _ => False
def wSl (we : W) (wl wh : WO) : W := fun ρ P => we ρ fun s ρ1 => wl ρ1 fun l ρ2 => wh ρ2 fun u ρ3 => oSl s.fz l u fun r => P r ρ3
def eqs (k : Str) (v : Value) : Bool := match v with
  | .str n _ => n == k
  | _ => false
theorem eqs_gives {k : Str} {t : Tok} : ∀ {us : List Value} {ns : List Str}, Vals (ns.map V.str) us → ∀ y ∈ us, MeetsSeq.EqGives y (.str k t) (eqs k y)
  | _, [], r => fun y hy => by cases r; cases hy
  | _, n :: ns, r => fun y hy => by
    rw [List.map_cons] at r
    cases r with
    | cons r1 r2 =>
      obtain ⟨t', rfl⟩ := r1
      rcases List.mem_cons.mp hy with e | e
      · rw [e]; exact PyProof.Rows.eqGives_str n k t' t
      · exact eqs_gives r2 y e
theorem erase_mapS : ∀ (l : List Str) (j : Nat), (l.map V.str).eraseIdx j = (l.eraseIdx j).map V.str
  | [], _ => rfl
  | _ :: _, 0 => rfl
  | x :: l, i + 1 => by
    rw [List.map_cons, List.eraseIdx_cons_succ, List.eraseIdx_cons_succ, erase_mapS l i]; rfl
theorem str_at : ∀ {us : List Value} {ns : List Str} {j : Nat} {n : Str}, Vals (ns.map V.str) us → ns[j]? = some n → ∃ t, us[j]? = some (.str n t)
  | _, [], _, _, _, e => by simp at e
  | _, m :: ns, 0, n, r, e => by
    rw [List.map_cons] at r
    cases r with
    | cons r1 r2 =>
      obtain ⟨t, rfl⟩ := r1
      simp at e; subst e
      exact ⟨t, rfl⟩
  | _, m :: ns, j + 1, n, r, e => by
    rw [List.map_cons] at r
    cases r with
    | cons r1 r2 =>
      obtain ⟨t, h⟩ := str_at (j := j) r2 (by simpa using e)
      exact ⟨t, by simpa using h⟩
def rRemS : V → List V → Hp → VK → Prop := fun x xs H Q => ∃ (l : Addr) (ns : List Str) (k : Str) (j : Nat), x = .ref l ∧ xs = [.str k] ∧ H l = some (.lst (ns.map V.str)) ∧ ns[j]? = some k ∧ (∀ m : Nat, m < j → ns[m]? ≠ some k) ∧ Q .non (upd H l (.lst ((ns.eraseIdx j).map V.str)))
theorem mt_removeS : MtM X "list.remove" rRemS := by
  intro pins s σ H x xs v us Q I rx rxs h
  obtain ⟨l, ns, k, j, rfl, rfl, hH, hj, hno, q⟩ := h
  cases rx
  obtain ⟨u, rfl, ru⟩ := rxs.one
  obtain ⟨t, rfl⟩ := ru
  obtain ⟨z, its, n, r, hl, e⟩ := I.lstM hH
  rw [List.length_map] at hl z
  have hjn : j < ns.length := (List.getElem?_eq_some_iff.mp hj).1
  have hjl : j < its.toArray.size := by rw [List.size_toArray]; omega
  refine call_meets PySem.F.slot_list_remove ⟨_, e, rfl⟩ PySem.F.entry_list_remove (PySem.F.args_list_remove_2 _ _)
    (MeetsSeq.list_remove l its.toArray n (.str k t) (eqs k) (fun y hy => eqs_gives r y (by simpa using hy)) j hjl ?_ ?_ (by rw [List.size_toArray]; omega)) ⟨e, ?_⟩
  · obtain ⟨tj, hjt⟩ := str_at r hj
    obtain ⟨h1, h2⟩ := List.getElem?_eq_some_iff.mp hjt
    have e1 : its.toArray[j] = .str k tj := by simpa using h2
    rw [e1]
    exact beq_self_eq_true k
  · intro m hm hmj
    have hmn : m < ns.length := by omega
    obtain ⟨tm, hmt⟩ := str_at r (List.getElem?_eq_getElem hmn)
    obtain ⟨h1, h2⟩ := List.getElem?_eq_some_iff.mp hmt
    have e1 : its.toArray[m] = .str ns[m] tm := by simpa using h2
    rw [e1]
    refine beq_eq_false_iff_ne.mpr fun e2 => hno m hmj ?_
    rw [List.getElem?_eq_getElem hmn, e2]
  · have rr := r.eraseIdx j
    rw [erase_mapS] at rr
    refine ⟨.non, _, I.lset (its' := its.eraseIdx j) (t' := s.toks) hH e ?_ rr ?_, rfl, q⟩
    · show its.toArray.eraseIdxIfInBounds j = (its.eraseIdx j).toArray
      rw [List.eraseIdxIfInBounds_toArray]
    · rw [List.length_map]
      have z2 := List.length_eraseIdx_le ns j
      omega
def oRemove : List D → List D → (S → List D → Prop) → Prop := fun xs ds P => match ds with
  | [.str k] => asA (txts xs) fun ss => k ∈ ss ∧ P (.d .non) ((ss.erase k).map .str)
  | _ => False
theorem snd_remove : SndM K rRemS oRemove := ⟨fun {F H l vs us xs ds P Q} fh hl n rx rd h k => by
  unfold oRemove at h
  split at h
  · rename_i x
    obtain ⟨v, _, rfl, rfl, rfl⟩ := rd
    obtain ⟨ss, e, hm, h⟩ := asA_of h
    have q := txts_of e rx
    subst q
    have hj : ss.idxOf x < ss.length := List.idxOf_lt_length_of_mem hm
    have e2 : ss.eraseIdx (ss.idxOf x) = ss.erase x := (List.erase_eq_eraseIdx_of_idxOf rfl).symm
    refine ⟨l, ss, x, ss.idxOf x, rfl, rfl, hl, ?_, fun m hm2 e3 => ?_, ?_⟩
    · rw [List.getElem?_eq_getElem hj, List.getElem_idxOf hj]
    · have := List.not_of_lt_findIdx (p := (· == x)) (xs := ss) (i := m) hm2
      obtain ⟨h1, h2⟩ := List.getElem?_eq_some_iff.mp e3
      rw [h2] at this
      simp at this
    · exact k _ _ _ _ h rfl (by rw [e2]; exact Reps.strs.mpr rfl)
  · exact h.elim⟩
theorem de_remove (i : Nat) {x : Str} (ha : DE K X Z e te we) (hN : X.N[i]? = some x := by rfl) (hv : Vis X.env.scope x := by first | exact Or.inl rfl | exact Or.inr (Or.inl rfl) | exact Or.inr (Or.inr rfl)) (hd : (x == ("__debug__" : Str)) = false := by decide)
    (hcd : (x == ("__classdict__" : Str)) = false := by decide) (hs : starEach [e] X.env = [(false, eval e X.env)] := by rfl)
    (hbase : attributeBase (.Name x p) "remove" X.env (eval (.Name x p) X.env) = eval (.Name x p) X.env := by rfl)
    (hfew : ((backTo cpos (starEach [e] X.env)).all (fun x => !x.1) && (backToKw cpos (keywordEach [] X.env)).all (fun x => x.1.isSome)
      && decide (([e] : List Expr).length + ([] : List Keyword).length + (if ([] : List Keyword).isEmpty then 0 else 1) < 30)) = true := by rfl)
    (hline : (apos.endLine == cpos.line) = true := by rfl) (hK : X.K = K := by rfl) :
    DE K X Z (.Call (.Attribute (.Name x p) "remove" apos) [e] [] cpos) (tBM K "list" rRemS (tVar i) (tCons te tNil)) (wM i oRemove (wCons we wNil)) := by
  subst hK
  exact ⟨pe_bm PySem.F.plainAttrs_list PySem.F.slot_list_remove PySem.F.type_list_remove mt_removeS (pe_var hN hv hd hcd) (pa_cons ha.pe pa_nil hs) hbase hfew hline hs rfl, run_M rfl (da_cons ha (da_nil (X := X) (Z := Z)) hs).run snd_remove⟩
end
end DL
namespace DL
open PySem L2
def wiEnumX (wa : WA) : WA := fun ρ P => wa ρ fun ds ρ1 => match ds with
  | [.cel ns] => P (enumD 0 (ns.map .int)) ρ1
  | [.lst xs] => P (enumD 0 xs) ρ1
  | [.str z] => P (enumD 0 ((signs z).map .str)) ρ1
  | _ => False
section
variable {K : PySem.W.Frag} {X : Cx} {Z : Zx} {pos p : Pos} {e : Expr}
end
end DL
set_option maxHeartbeats 1000000
namespace DL
open PySem PySem.Spec PyProof.Rows RT L2
theorem norev_str : typeLookup (.type "str") "__reversed__" = pure none := by rw [typeLookup_type, builtinLookup_eq_fast]; kernel_rfl
theorem getof_str : typeLookup (.type "str") "__getitem__" = pure (some (.builtin "str.__getitem__")) := by rw [typeLookup_type, builtinLookup_eq_fast]; kernel_rfl
def IsRs (h : Heap) (a : Addr) (x : Str) (t : Tok) (i : Int) : Prop := ∃ o, h.get? a = some o ∧ o.cls = .type "reversed" ∧ o.data = .fields #[.str x t, rawInt i]
section
variable {prog : Program} {w : World} {A : Around} {E : Value → Shared → Prop} {s : Shared} {x : Str} {t : Tok}
theorem IsRs.ty {a : Addr} {i : Int} (h : IsRs s.heap a x t i) : s.TypeIs (.ref a) "reversed" := let ⟨o, ho, hc, _⟩ := h; ⟨o, ho, hc⟩
theorem call_revS {Q : Value → Shared → Prop} (hx : x.length ≤ sizeLine)
    (h : Q (.ref s.heap.objs.size) { s with heap := s.heap.push { cls := .type "reversed", data := .fields #[.str x t, rawInt ((x.length : Int) - 1)] }, toks := s.toks + 1 + 1 }) : wpAny (model prog w) A (call (.type "reversed") [.str x t]) Q E s := by
  have hn := line63
  refine callType_codes (Q₁ := fun obj s₁ => s₁.TypeIs obj "reversed" ∧ Q obj s₁) called_rt (F.typeCall_reversed_1 _) F.entry_object_init (?_ : codeAny _ A.in1 _ (wants _ E) s) fun obj s₁ h₁ =>
    ⟨h₁.1, F.args_object_init_2 obj _, object_init_meets called_rt.init.lookup called_rt.made (by decide) prog w A.in1 _ s₁ ⟨h₁.1, rfl, h₁.2⟩⟩
  have hT : s.TypeIs (.str x t) "str" := typeIs_str s x t
  refine codeAny_of_tree ?_
  show wpAny _ A.in1.in1 (do checkBuiltinCall "reversed.__new__" ⟨[.type "reversed", .str x t], []⟩; again (.builtin "reversed.__new__" ⟨[.type "reversed", .str x t], []⟩)) _ _ s
  refine wpAny_bind (wpAny_of_eq (F.newCall_reversed_1 _) (wpAny_pure ⟨plainId_quiet F.plain_reversed_new _, codeAny_builtin F.entry_reversed_new ?_⟩))
  rw [Around.under_plainId F.plain_reversed_new _]
  unfold Builtin.«reversed.__new__»
  refine wpAny_bind (wpAny_of_eq (newClass_reversed _) ?_)
  try dsimp only
  refine wpAny_bind (wpAny_of_eq (a := ()) (by first | rfl | kernel_rfl) ?_)
  try dsimp only
  refine wpAny_bind (wpAny_of_eq (a := ()) (by first | rfl | kernel_rfl) ?_)
  try dsimp only
  refine wpAny_bind (wpAny_specialOf hT norev_str ?_)
  try dsimp only
  refine wpAny_bind ?_
  wp_delta
  refine wpAny_bind (wpAny_isInstance (T := "str") (U := "dict") (b := false) hT PySem.F.sub_str_dict ?_)
  try dsimp only
  try rw [if_neg Bool.false_ne_true]
  try dsimp only
  refine wpAny_bind (wpAny_specialOf hT getof_str ?_)
  try dsimp only
  try rw [if_pos (by decide +kernel)]
  refine wpAny_pure ?_
  try dsimp only
  try rw [if_neg (by decide)]
  try dsimp only
  refine wpAny_bind (PyProof.Rows.len_str (by omega) ?_)
  refine wpAny_bind (wpAny_of_eq (a := some ((x.length : Nat) : Int)) rfl ?_)
  try dsimp only
  refine wpAny_bind ?_
  show wpAny _ _ (newObj (.type "reversed") (.fields #[.str x t, rawInt ((x.length : Int) - 1)])) _ _ _
  refine wpAny_newObj_type ?_
  exact wpAny_pure ⟨⟨_, Heap.get?_push_size _ rfl, rfl⟩, h⟩
theorem next_rs {it : Addr} {i c : Nat} {Q : Option Value → Shared → Prop} (hit : IsRs s.heap it x t (i : Int)) (hx : x.cps[i]? = some c) (hsz : x.length ≤ sizeLine)
    (hQ : ∀ h' k, IsRs h' it x t ((i : Int) - 1) → Heap.SameBut it s.heap h' → Q (some (.str ⟨#[c]⟩ k)) { s with heap := h', toks := s.toks + 1 + 1 }) : wpAny (model prog w) A (pyNext (.ref it)) Q E s := by
  obtain ⟨o, ho, hc, hd⟩ := id hit
  have hi : i < x.cps.size := (Array.getElem?_eq_some_iff.mp hx).1
  have hi' : i < x.length := hi
  have hn := line63
  unfold pyNext
  refine wpAny_bind (wpAny_attempt (wpAny_callSpecial?_slot (name := Str.ofString "__next__") hit.ty slot_rt_next
    (wpAny_call_entry slot_rt_next hit.ty entry_rt_next ?_ (args_rt_next _))))
  unfold Builtin.«reversed.__next__»
  refine wpAny_bind (wpAny_of_eq (a := (Value.ref it, [])) rfl ?_)
  try dsimp only
  refine wpAny_bind (wpAny_field ho hd (x := .str x t) rfl ?_)
  try dsimp only
  refine wpAny_bind (wpAny_field ho hd (x := rawInt (i : Int)) rfl ?_)
  show wpAny _ _ (if (i : Int) < 0 then _ else _) _ _ s
  rw [if_neg (by omega)]
  try dsimp only
  refine wpAny_bind (wpAny_specialOf (typeIs_str s x t) getof_str ?_)
  try dsimp only
  try rw [if_neg (by decide)]
  try dsimp only
  refine wpAny_bind (wpAny_mkInt ?_)
  refine wpAny_bind (wpAny_attempt ?_)
  have fin : seqIndex? (i : Int) x.length = some i := seqIndex_of (by omega) (by omega)
  have hr : (decide ((i : Int) < -(2 ^ 63 : Int)) || decide ((i : Int) ≥ 2 ^ 63)) = false := by
    have e1 : decide ((i : Int) < -(2 ^ 63 : Int)) = false := decide_eq_false (by omega)
    have e2 : decide ((i : Int) ≥ 2 ^ 63) = false := decide_eq_false (by omega)
    rw [e1, e2, Bool.or_false]
  refine PyProof.Rows.getItem_str (s := { s with toks := s.toks + 1 }) (c := c) hr (by rw [fin]; exact hx) ?_
  try dsimp only
  refine wpAny_bind (wpAny_field (s := { s with toks := s.toks + 1 + 1 }) ho hd (x := rawInt (i : Int)) rfl ?_)
  try dsimp only
  refine wpAny_bind (wpAny_setField (s := { s with toks := s.toks + 1 + 1 }) ho hd (by simp) ?_)
  first
  | refine wpAny_pure ⟨_, rfl, wpAny_pure (hQ _ _ ?_ (Heap.SameBut.update ..))⟩
  | refine wpAny_bind (wpAny_pure (wpAny_pure ⟨_, rfl, wpAny_pure (hQ _ _ ?_ (Heap.SameBut.update ..))⟩))
  exact ⟨_, Heap.get?_update_self _ ho (Obj.isFreed_of_fields (Obj.data_mapFields hd _)), (Obj.cls_mapFields ..).trans hc, by
    rw [Obj.data_mapFields hd]; simp⟩
theorem end_rs {it : Addr} {Q : Option Value → Shared → Prop} (hh : A.handled = none) (hit : IsRs s.heap it x t (-1))
    (hQ : ∀ h', Heap.ExtBut it s.heap h' → Q none { s with heap := h' }) : wpAny (model prog w) A (pyNext (.ref it)) Q E s := by
  obtain ⟨o, ho, hc, hd⟩ := id hit
  unfold pyNext
  refine wpAny_bind (wpAny_attempt (wpAny_callSpecial?_slot (name := Str.ofString "__next__") hit.ty slot_rt_next
    (wpAny_call_entry slot_rt_next hit.ty entry_rt_next ?_ (args_rt_next _))))
  unfold Builtin.«reversed.__next__»
  refine wpAny_bind (wpAny_of_eq (a := (Value.ref it, [])) rfl ?_)
  try dsimp only
  refine wpAny_bind (wpAny_field ho hd (x := .str x t) rfl ?_)
  try dsimp only
  refine wpAny_bind (wpAny_field ho hd (x := rawInt (-1)) rfl ?_)
  show wpAny _ _ (if (-1 : Int) < 0 then _ else _) _ _ s
  rw [if_pos (by decide)]
  try dsimp only
  refine wpAny_bind (wpAny_rule ?_)
  refine wpAny_bind ?_
  wp_delta
  refine wpAny_bind (wpAny_setField ho hd (by simp) ?_)
  have ho2 := Heap.get?_update_self (Obj.mapFields (·.setIfInBounds 1 (rawInt (-1)))) ho (Obj.isFreed_of_fields (Obj.data_mapFields hd _))
  refine wpAny_setField (s := { s with heap := s.heap.update it (Obj.mapFields (·.setIfInBounds 1 (rawInt (-1)))) }) ho2 (Obj.data_mapFields hd _) (by simp) ?_
  try dsimp only
  first
  | show wpAny _ _ (newExc (.type "StopIteration") [] >>= _) _ _ _
  | (refine wpAny_bind ?_; show wpAny _ _ (newExc (.type "StopIteration") [] >>= _) _ _ _)
  | (refine wpAny_bind ?_; wp_delta; show wpAny _ _ (newExc (.type "StopIteration") [] >>= _) _ _ _)
  refine wpAny_bind ?_
  simp only [newExc, newTuple]
  refine wpAny_bind (wpAny_newObj_type ?_ (by size_fits))
  refine wpAny_bind (m := firstArgMember _ _) (wpAny_of_eq (a := Value.none) (by first | rfl | (simp only [firstArgMember]; rfl)) ?_)
  refine wpAny_newObj_type ?_ (by size_fits)
  simp only [raiseNew]
  refine wpAny_bind (wpAny_handled ?_)
  first | rw [show A.in1.handled = none from hh] | rw [hh]
  refine wpAny_bind (wpAny_pure (wpAny_throw ?_))
  refine wpAny_bind (wpAny_isInstance (T := "StopIteration") (b := true) ⟨_, Heap.get?_push_size _ rfl, rfl⟩ isSubtype_stop ?_)
  refine wpAny_pure (hQ _ ?_)
  refine ((?_ : Heap.ExtBut it s.heap _).push _).push _
  exact fun b ob hb e => (Heap.get?_update_other _ _ (Ne.symm hb)).trans ((Heap.get?_update_other _ _ (Ne.symm hb)).trans e)
theorem iter_rs {it : Addr} {i : Int} {Q : Value → Shared → Prop} (hit : IsRs s.heap it x t i) (h : Q (.ref it) s) : wpAny (model prog w) A (pyIter (.ref it)) Q E s := by
  refine wpAny_pyIter_slot hit.ty slot_rt_iter (wpAny_call_entry slot_rt_iter hit.ty entry_rt_iter ?_ (args_rt_iter _))
  show wpAny _ _ (ret (.ref it)) _ _ s
  exact wpAny_pure ⟨_, rfl, "reversed", _, hit.ty, slot_rt_next.lookup, h⟩
end
def Itrs (x : Str) : It := ⟨fun i _ => i < x.cps.size, fun i H v H' => H' = H ∧ ∃ c, x.cps[x.cps.size - 1 - i]? = some c ∧ v = .str ⟨#[c]⟩, fun i _ => x.cps.size ≤ i⟩
theorem turn_rs {P : Program} {w : World} {K : PySem.W.Frag} {tg : Expr} (x : Str) (t : Tok) (it : Addr) (hx : x.length ≤ sizeLine) :
    Turn P w K tg (Itrs x) [it] it (fun i h => i ≤ x.cps.size ∧ IsRs h it x t ((x.cps.size : Int) - 1 - (i : Nat))) where
  mem := by simp
  obj := fun i h st b hb => by
    have e : b = it := by simpa using hb
    subst e
    obtain ⟨_, o, e, c, d⟩ := st
    exact ⟨o, e, fun v z => by rw [d] at z; cases z⟩
  keep := fun i h h' st k => ⟨st.1, let ⟨o, ho, r⟩ := st.2; ⟨o, k it (by simp) o ho, r⟩⟩
  item := by
    intro X hP hw hK hc i pins s σ H E I hf st hg
    subst hP hw hK
    have hi : i < x.cps.size := hg
    obtain ⟨f0, f1, f2, f3, f4, f5⟩ := hf it (by simp)
    obtain ⟨_, hit⟩ := st
    have e1 : (x.cps.size : Int) - 1 - ((i : Nat) : Int) = ((x.cps.size - 1 - i : Nat) : Int) := by omega
    rw [e1] at hit
    have hl : x.cps.size - 1 - i < x.cps.size := by omega
    refine next_rs hit (Array.getElem?_eq_getElem hl) hx fun h' k st' sb => ?_
    have e2 : ((x.cps.size - 1 - i : Nat) : Int) - 1 = (x.cps.size : Int) - 1 - ((i + 1 : Nat) : Int) := by omega
    rw [e2] at st'
    have I1 : Inv X pins σ H { s with heap := h', toks := s.toks + 1 + 1 } := I.turned (t' := s.toks + 1 + 1) (fun b o hb e => (sb.2 b hb).trans e) f0 f1 f3 f4 f5
    obtain ⟨o, e, c, d⟩ := id st'
    exact ⟨_, rfl, go_of (s := { s with heap := h', toks := s.toks + 1 + 1 }) e c d (by decide) ⟨.str _, H, I1, ⟨k, rfl⟩, ⟨rfl, _, Array.getElem?_eq_getElem hl, rfl⟩, ⟨hi, st'⟩, fun b hb => (hf b hb).1⟩⟩
  done := by
    intro X hP hw hK hc i pins s σ H E I hf st hg
    subst hP hw hK
    obtain ⟨f0, f1, f2, f3, f4, f5⟩ := hf it (by simp)
    obtain ⟨hin, hit⟩ := st
    have hge : x.cps.size ≤ i := hg
    have e1 : (x.cps.size : Int) - 1 - ((i : Nat) : Int) = -1 := by omega
    rw [e1] at hit
    exact end_rs (I.ok.hd hc) hit fun h' eb => ⟨rfl, I.turned (t' := s.toks) (fun b o hb e => eb b o hb e) f0 f1 f3 f4 f5⟩
  self := fun A i s Q E st h => iter_rs st.2 h
def iRevX (K : PySem.W.Frag) (te : TE) : TI := fun σ H R => te σ H fun v H1 => (∃ (a : Addr) (xs : List V), v = .ref a ∧ ((SqL K H1 a xs ∧ R (Itv K a xs.length) H1) ∨ (SqT K H1 a xs ∧ R (ItvT K a xs.length) H1))) ∨ ∃ x, v = .str x ∧ x.length ≤ sizeLine ∧ R (Itrs x) H1
theorem pi_revX {X : Cx} {tg e : Expr} {te : TE} {p pos : Pos} (hg : Gl X "reversed") (hm : X.mg "reversed" = none) (he : PE X e te) (hs : starEach [e] X.env = (false, eval e X.env) :: starEach [] X.env := by rfl) : PI X tg (.Call (.Name "reversed" p) [e] [] pos) (iRevX X.K te) := by
  refine ⟨fun pins s σ H R I h => ?_⟩
  refine Call_ (ld_blt I hg hm PyProof.Rows.boot_reversed (PyProof.Rows.callWith_type1 (args_cons (thn (he.run pins s σ H _ I h) fun u s1 ⟨v, H1, I1, r1, q1⟩ => args_nil ?_) hs) hs rfl))
  rcases q1 with ⟨a, xs, ev, q⟩ | ⟨x, ev, hx, q⟩
  · subst ev
    obtain rfl : u = Value.ref a := r1
    rcases q with ⟨hq, q⟩ | ⟨hq, q⟩
    · obtain ⟨its, rv, p', hz⟩ := I1.list hq
      have hl := rv.length
      have e1 : ((its.toArray.size : Nat) : Int) - 1 = (xs.length : Int) - 1 - ((0 : Nat) : Int) := by simp only [List.size_toArray]; omega
      refine call_reversed_list p'.isList (wpAny_pyIter_revIter (l := a) (i := ((its.toArray.size : Nat) : Int) - 1) ⟨_, Heap.get?_push_size _ rfl, rfl, rfl⟩ ?_)
      refine pi_one (tk := s1.toks) I1 _ (turn_rev a _ xs.length) ⟨Nat.zero_le _, ?_⟩ q
      rw [← e1]
      exact ⟨_, Heap.get?_push_size _ rfl, rfl, rfl⟩
    · obtain ⟨its, rv, p', hz⟩ := I1.tuple hq
      have hl := rv.length
      have hn := line63
      have e1 : ((its.toArray.size : Nat) : Int) - 1 = (xs.length : Int) - 1 - ((0 : Nat) : Int) := by simp only [List.size_toArray]; omega
      refine call_reversed_tup p' (fun A' E' Q' hq' => len_tuple p' (by simp only [List.size_toArray]; omega) hq') (iter_rt ⟨_, Heap.get?_push_size _ rfl, rfl, rfl⟩ ?_)
      refine pi_one (tk := s1.toks + 1 + 1) I1 _ (turn_rt a _ xs.length) ⟨Nat.zero_le _, ?_⟩ q
      rw [← e1]
      exact ⟨_, Heap.get?_push_size _ rfl, rfl, rfl⟩
  · subst ev
    obtain ⟨t, rfl⟩ := r1
    refine call_revS hx (iter_rs ⟨_, Heap.get?_push_size _ rfl, rfl, rfl⟩ ?_)
    refine pi_one (tk := s1.toks + 1 + 1) I1 _ (turn_rs x t _ hx) ⟨Nat.zero_le _, ?_⟩ q
    exact ⟨_, Heap.get?_push_size _ rfl, rfl, by
      have e : (x.cps.size : Int) - 1 - ((0 : Nat) : Int) = (x.length : Int) - 1 := by show (x.cps.size : Int) - 1 - ((0 : Nat) : Int) = (x.cps.size : Int) - 1; omega
      rw [e]⟩
end DL
namespace DL
open PySem L2
def revItems (d : D) (P : List D → Prop) : Prop := match d with
  | .cel ns => P (ns.map .int).reverse
  | .lst xs => P xs.reverse
  | .tup xs => P xs.reverse
  | .str z => z.length ≤ sizeLine ∧ P ((signs z).reverse.map .str)
  | _ => False
def wiRev (we : W) : WA := fun ρ P => we ρ fun s ρ1 => revItems s.fz fun xs => P xs ρ1
theorem rev_get {α : Type} {xs : List α} {i : Nat} (h : i < xs.length) : xs.reverse[i]? = xs[xs.length - 1 - i]? := by
  rw [List.getElem?_reverse h]
theorem di_revX {K : PySem.W.Frag} {X : Cx} {Z : Zx} {tg e : Expr} {te : TE} {we : W} {p pos : Pos} (hm : X.mg "reversed" = none) (he : DE K X Z e te we) (hg : Gl X "reversed" := by rfl) (hs : starEach [e] X.env = (false, eval e X.env) :: starEach [] X.env := by rfl) (hK : X.K = K := by rfl) :
    DI K X Z tg (.Call (.Name "reversed" p) [e] [] pos) (iRevX K te) (wiRev we) := by
  refine ⟨by subst hK; exact pi_revX hg hm he.pe hs, fun {H0 F0 F H ρ σ Q P} zo rl h k => he.run zo rl h fun s1 ρ1 F1 H1 v1 h1 f1 r1 sr1 fr1 => ?_⟩
  obtain ⟨F2, f2, r2, rp2⟩ := r1.freeze sr1 fr1
  generalize s1.fz = d at h1 rp2
  have lst : ∀ {a : Addr} {vs : List V} {xs : List D}, v1 = .ref a → SqL K F2 a vs → Reps K F2 xs vs → P xs.reverse ρ1 → iRevX K (fun σ H Q => Q v1 H1) σ H1 Q := fun {a vs xs} e s1 s2 h1 => by
    have hl := s2.len
    refine .inl ⟨a, vs, e, .inl ⟨r2.fh.seq s1, k xs.reverse ρ1 F2 H1 _ h1 (f1.trans f2) r2 (ItOk.pure (fun {i F H} f g l => ?_) (fun {i F H} f g l => ?_) fun {i F H H2 x} f g y l => ?_)⟩⟩
    · rw [List.length_reverse] at l
      have hj : vs.length - 1 - i < vs.length := by omega
      exact ⟨by omega, vs, vs[vs.length - 1 - i], g.seq (f.seq s1), List.getElem?_eq_getElem hj⟩
    · rw [List.length_reverse] at l
      show vs.length ≤ i
      omega
    · obtain ⟨rfl, y⟩ := y
      rw [List.length_reverse] at l
      obtain ⟨d, e, r⟩ := s2.get' (y vs (g.seq (f.seq s1)))
      exact ⟨d, by rw [rev_get l, ← hl]; exact e, rfl, Rep.mono f _ _ r⟩
  unfold revItems at h1
  split at h1
  · obtain ⟨a, e, s1⟩ := rp2
    exact lst e s1 (Reps.ints.mpr rfl) h1
  · obtain ⟨a, vs, e, s1, s2⟩ := rp2
    exact lst e (SqL.of s1) s2 h1
  · rename_i xs
    obtain ⟨a, vs, e, s1, s2⟩ := rp2
    have hl := s2.len
    refine .inl ⟨a, vs, e, .inr ⟨Same.sqT r2.fh s1, k xs.reverse ρ1 F2 H1 _ h1 (f1.trans f2) r2 (ItOk.pure (fun {i F H} f g l => ?_) (fun {i F H} f g l => ?_) fun {i F H H2 x} f g y l => ?_)⟩⟩
    · rw [List.length_reverse] at l
      have hj : vs.length - 1 - i < vs.length := by omega
      exact ⟨by omega, vs, vs[vs.length - 1 - i], Same.sqT g (Same.sqT f s1), List.getElem?_eq_getElem hj⟩
    · rw [List.length_reverse] at l
      show vs.length ≤ i
      omega
    · obtain ⟨rfl, y⟩ := y
      rw [List.length_reverse] at l
      obtain ⟨d, e, r⟩ := s2.get' (y vs (Same.sqT g (Same.sqT f s1)))
      exact ⟨d, by rw [rev_get l, ← hl]; exact e, rfl, Rep.mono f _ _ r⟩
  · rename_i z
    have hlen : ((signs z).reverse.map D.str).length = z.cps.size := by simp [signs]
    have hs : (signs z).length = z.cps.size := by simp [signs]
    refine .inr ⟨z, rp2, h1.1, k _ ρ1 F2 H1 _ h1.2 (f1.trans f2) r2 (ItOk.pure (fun {i F H} f g l => ?_) (fun {i F H} f g l => ?_) fun {i F H H2 x} f g y l => ?_)⟩
    · show i < z.cps.size
      omega
    · show z.cps.size ≤ i
      omega
    · obtain ⟨rfl, c, hc, rfl⟩ := y
      have hi : i < (signs z).length := by omega
      refine ⟨.str ⟨#[c]⟩, ?_, rfl, rfl⟩
      have hc' : z.cps.toList[z.cps.size - 1 - i]? = some c := by rw [Array.getElem?_toList]; exact hc
      rw [List.getElem?_map, rev_get hi, hs]
      simp [signs, hc']
  · exact h1.elim
end DL
namespace DL
open PySem L2
section
variable {K : PySem.W.Frag} {d : Addr} {od : Obj} {l : List (Key × V)} {A B : Hp}
def lkO (od : Obj) : HO → HO
  | .dK l => .frz od (.dK l)
  | o => o
def ulO : HO → HO
  | .frz _ u => u
  | o => o
def lk (d : Addr) (od : Obj) (A : Hp) : Hp := fun a => if a = d then (A a).map (lkO od) else A a
def ul (d : Addr) (A : Hp) : Hp := fun a => if a = d then (A a).map ulO else A a
theorem lk_none {a : Addr} : lk d od A a = none ↔ A a = none := by
  unfold lk; split
  · simp
  · rfl
theorem ul_none {a : Addr} : ul d A a = none ↔ A a = none := by
  unfold ul; split
  · simp
  · rfl
theorem Same.lk (e : Same A B) : Same (lk d od A) (lk d od B) := fun a u q => by
  unfold DL.lk at q ⊢
  by_cases h : a = d
  · rw [if_pos h] at q ⊢
    cases h2 : A a with
    | none => rw [h2] at q; cases q
    | some o => rw [h2] at q; rw [e _ _ h2]; exact q
  · rw [if_neg h] at q ⊢; exact e _ _ q
theorem Same.ul (e : Same A B) : Same (ul d A) (ul d B) := fun a u q => by
  unfold DL.ul at q ⊢
  by_cases h : a = d
  · rw [if_pos h] at q ⊢
    cases h2 : A a with
    | none => rw [h2] at q; cases q
    | some o => rw [h2] at q; rw [e _ _ h2]; exact q
  · rw [if_neg h] at q ⊢; exact e _ _ q
theorem ul_lk (h : ∀ o, A d = some o → o = .dK l) : ul d (lk d od A) = A := by
  funext a
  unfold DL.ul DL.lk
  by_cases e : a = d
  · rw [if_pos e, if_pos e]
    subst e
    cases q : A a with
    | none => rfl
    | some o => rw [h o q]; rfl
  · rw [if_neg e, if_neg e]
def PlO (o : HO) : Prop := (∃ xs, o = .lst xs) ∨ (∃ xs, o = .tup xs) ∨ ∃ l, o = .dK l
mutual
theorem Rep.via (h1 : ∀ a o, PlO o → Rd A a o → Rd B a o) (h2 : ∀ a xs, A a = some (.lst xs) → B a = some (.lst xs)) (h3 : ∀ a C dx fs, A a = some (.ins C dx fs) → B a = some (.ins C dx fs)) : ∀ (x : D) (v : V), Rep K A x v → Rep K B x v
  | .non, _, h => h
  | .bl _, _, h => h
  | .int _, _, h => h
  | .str _, _, h => h
  | .ref _, _, h => h
  | .ty _, _, h => h
  | .cel ns, _, h => by
    obtain ⟨a, e1, h⟩ := h
    rcases h with h | h
    · exact ⟨a, e1, .inl (h1 _ _ (.inl ⟨_, rfl⟩) h)⟩
    · exact ⟨a, e1, .inr h⟩
  | .lst xs, _, h => by
    obtain ⟨a, vs, e1, q1, q2⟩ := h
    exact ⟨a, vs, e1, h2 _ _ q1, Reps.via h1 h2 h3 xs vs q2⟩
  | .tup xs, _, h => by
    obtain ⟨a, vs, e1, q1, q2⟩ := h
    rcases q1 with q1 | q1
    · exact ⟨a, vs, e1, .inl (h1 _ _ (.inr (.inl ⟨_, rfl⟩)) q1), Reps.via h1 h2 h3 xs vs q2⟩
    · exact ⟨a, vs, e1, .inr q1, Reps.via h1 h2 h3 xs vs q2⟩
  | .dic ks xs, _, h => by
    obtain ⟨a, vs, e1, q1, q, q2⟩ := h
    exact ⟨a, vs, e1, h1 _ _ (.inr (.inr ⟨_, rfl⟩)) q1, q, Reps.via h1 h2 h3 xs vs q2⟩
  | .ins C ns xs, _, h => by
    obtain ⟨a, C, dx, vs, e1, g, q1, q, q2⟩ := h
    exact ⟨a, C, dx, vs, e1, g, h3 _ _ _ _ q1, q, Reps.via h1 h2 h3 xs vs q2⟩
theorem Reps.via (h1 : ∀ a o, PlO o → Rd A a o → Rd B a o) (h2 : ∀ a xs, A a = some (.lst xs) → B a = some (.lst xs)) (h3 : ∀ a C dx fs, A a = some (.ins C dx fs) → B a = some (.ins C dx fs)) : ∀ (xs : List D) (vs : List V), Reps K A xs vs → Reps K B xs vs
  | [], _, h => h
  | x :: xs, _, h => by
    obtain ⟨v, r, e1, q1, q2⟩ := h
    exact ⟨v, r, e1, Rep.via h1 h2 h3 x v q1, Reps.via h1 h2 h3 xs r q2⟩
end
theorem lk_at {a : Addr} (h : a ≠ d) : lk d od A a = A a := if_neg h
theorem ul_at {a : Addr} (h : a ≠ d) : ul d A a = A a := if_neg h
theorem rd_lk (h : A d = some (.dK l)) : ∀ a o, PlO o → Rd A a o → Rd (lk d od A) a o := fun a o _ q => by
  by_cases e : a = d
  · subst e
    rcases q with q | ⟨o', q⟩
    · rw [h] at q; cases q
      exact .inr ⟨od, by unfold lk; rw [if_pos rfl, h]; rfl⟩
    · rw [h] at q; cases q
  · rcases q with q | ⟨o', q⟩
    · exact .inl (by rw [lk_at e]; exact q)
    · exact .inr ⟨o', by rw [lk_at e]; exact q⟩
theorem rd_ul (h : A d = some (.frz od (.dK l))) : ∀ a o, PlO o → Rd A a o → Rd (ul d A) a o := fun a o po q => by
  by_cases e : a = d
  · subst e
    rcases q with q | ⟨o', q⟩
    · rw [h] at q; cases q
      rcases po with ⟨_, z⟩ | ⟨_, z⟩ | ⟨_, z⟩ <;> cases z
    · rw [h] at q; cases q
      exact .inl (by unfold ul; rw [if_pos rfl, h]; rfl)
  · rcases q with q | ⟨o', q⟩
    · exact .inl (by rw [ul_at e]; exact q)
    · exact .inr ⟨o', by rw [ul_at e]; exact q⟩
theorem Rep.lk {x : D} {v : V} (h : A d = some (.dK l)) (r : Rep K A x v) : Rep K (lk d od A) x v :=
  Rep.via (rd_lk h) (fun a xs q => by rw [lk_at (fun e => by rw [e, h] at q; cases q)]; exact q) (fun a C dx fs q => by rw [lk_at (fun e => by rw [e, h] at q; cases q)]; exact q) x v r
theorem Rep.ul {x : D} {v : V} (h : A d = some (.frz od (.dK l))) (r : Rep K A x v) : Rep K (ul d A) x v :=
  Rep.via (rd_ul h) (fun a xs q => by rw [ul_at (fun e => by rw [e, h] at q; cases q)]; exact q) (fun a C dx fs q => by rw [ul_at (fun e => by rw [e, h] at q; cases q)]; exact q) x v r
theorem Reps.lk {xs : List D} {vs : List V} (h : A d = some (.dK l)) (r : Reps K A xs vs) : Reps K (DL.lk d od A) xs vs :=
  Reps.via (rd_lk h) (fun a xs q => by rw [lk_at (fun e => by rw [e, h] at q; cases q)]; exact q) (fun a C dx fs q => by rw [lk_at (fun e => by rw [e, h] at q; cases q)]; exact q) xs vs r
theorem Reps.ul {xs : List D} {vs : List V} (h : A d = some (.frz od (.dK l))) (r : Reps K A xs vs) : Reps K (DL.ul d A) xs vs :=
  Reps.via (rd_ul h) (fun a xs q => by rw [ul_at (fun e => by rw [e, h] at q; cases q)]; exact q) (fun a C dx fs q => by rw [ul_at (fun e => by rw [e, h] at q; cases q)]; exact q) xs vs r
variable {H0 F0 F H : Hp} {ρ : R} {σ : St}
theorem SRep.lk {s : S} {v : V} (hF : F d = some (.dK l)) (h : SRep K H0 F H s v) : SRep K (DL.lk d od H0) (DL.lk d od F) (DL.lk d od H) s v := by
  cases s with
  | d x => exact Rep.lk hF h
  | ol xs =>
    obtain ⟨a, vs, e, h1, h2, n0, n1⟩ := h
    have ne : a ≠ d := fun z => by rw [z, hF] at n1; cases n1
    exact ⟨a, vs, e, by rw [lk_at ne]; exact h1, Reps.lk hF h2, lk_none.mpr n0, lk_none.mpr n1⟩
  | od kvs =>
    obtain ⟨a, vs, e, h1, hk, h2, n0, n1⟩ := h
    have ne : a ≠ d := fun z => by rw [z, hF] at n1; cases n1
    exact ⟨a, vs, e, by rw [lk_at ne]; exact h1, hk, Reps.lk hF h2, lk_none.mpr n0, lk_none.mpr n1⟩
  | oi N kvs =>
    obtain ⟨a, C, dx, vs, e, g, h1, hk, h2, n0, n1⟩ := h
    have ne : a ≠ d := fun z => by rw [z, hF] at n1; cases n1
    exact ⟨a, C, dx, vs, e, g, by rw [lk_at ne]; exact h1, hk, Reps.lk hF h2, lk_none.mpr n0, lk_none.mpr n1⟩
  | os b N kvs =>
    obtain ⟨e0, a, C, dx, vs, e, g, h1, hk, h2, n0, n1⟩ := h
    have ne : a ≠ d := fun z => by rw [z, hF] at n1; cases n1
    exact ⟨e0, a, C, dx, vs, e, g, by rw [lk_at ne]; exact h1, hk, Reps.lk hF h2, lk_none.mpr n0, lk_none.mpr n1⟩
theorem SRep.ul {s : S} {v : V} (hF : F d = some (.frz od (.dK l))) (h : SRep K H0 F H s v) : SRep K (DL.ul d H0) (DL.ul d F) (DL.ul d H) s v := by
  cases s with
  | d x => exact Rep.ul hF h
  | ol xs =>
    obtain ⟨a, vs, e, h1, h2, n0, n1⟩ := h
    have ne : a ≠ d := fun z => by rw [z, hF] at n1; cases n1
    exact ⟨a, vs, e, by rw [ul_at ne]; exact h1, Reps.ul hF h2, ul_none.mpr n0, ul_none.mpr n1⟩
  | od kvs =>
    obtain ⟨a, vs, e, h1, hk, h2, n0, n1⟩ := h
    have ne : a ≠ d := fun z => by rw [z, hF] at n1; cases n1
    exact ⟨a, vs, e, by rw [ul_at ne]; exact h1, hk, Reps.ul hF h2, ul_none.mpr n0, ul_none.mpr n1⟩
  | oi N kvs =>
    obtain ⟨a, C, dx, vs, e, g, h1, hk, h2, n0, n1⟩ := h
    have ne : a ≠ d := fun z => by rw [z, hF] at n1; cases n1
    exact ⟨a, C, dx, vs, e, g, by rw [ul_at ne]; exact h1, hk, Reps.ul hF h2, ul_none.mpr n0, ul_none.mpr n1⟩
  | os b N kvs =>
    obtain ⟨e0, a, C, dx, vs, e, g, h1, hk, h2, n0, n1⟩ := h
    have ne : a ≠ d := fun z => by rw [z, hF] at n1; cases n1
    exact ⟨e0, a, C, dx, vs, e, g, by rw [ul_at ne]; exact h1, hk, Reps.ul hF h2, ul_none.mpr n0, ul_none.mpr n1⟩
theorem Rel.lk (hF : F d = some (.dK l)) (r : Rel K H0 F0 F H ρ σ) : Rel K (DL.lk d od H0) (DL.lk d od F0) (DL.lk d od F) (DL.lk d od H) ρ σ :=
  ⟨Same.lk r.h, Same.lk r.f, Same.lk r.fh, fun a q => by
    rcases r.nw a (fun z => q (lk_none.mpr z)) with z | z
    · exact .inl fun y => z (lk_none.mp y)
    · exact .inr (lk_none.mpr z), r.len, fun i s q => by
    obtain ⟨v, e, sr⟩ := r.at_ i s q
    exact ⟨v, e, sr.lk hF⟩, r.ap⟩
theorem Rel.ul (hF : F d = some (.frz od (.dK l))) (r : Rel K H0 F0 F H ρ σ) : Rel K (DL.ul d H0) (DL.ul d F0) (DL.ul d F) (DL.ul d H) ρ σ :=
  ⟨Same.ul r.h, Same.ul r.f, Same.ul r.fh, fun a q => by
    rcases r.nw a (fun z => q (ul_none.mpr z)) with z | z
    · exact .inl fun y => z (ul_none.mp y)
    · exact .inr (ul_none.mpr z), r.len, fun i s q => by
    obtain ⟨v, e, sr⟩ := r.at_ i s q
    exact ⟨v, e, sr.ul hF⟩, r.ap⟩
end
theorem upd_lk {H : Hp} {d : Addr} {od : Obj} {l : List (Key × V)} (h : H d = some (.dK l)) : upd H d (.frz od (.dK l)) = lk d od H := by
  funext a
  by_cases e : a = d
  · subst e; rw [upd_same]; unfold lk; rw [if_pos rfl, h]; rfl
  · rw [upd_ne e, lk_at e]
theorem upd_ul {H : Hp} {d : Addr} {od : Obj} {u : HO} (h : H d = some (.frz od u)) : upd H d u = ul d H := by
  funext a
  by_cases e : a = d
  · subst e; rw [upd_same]; unfold ul; rw [if_pos rfl, h]; rfl
  · rw [upd_ne e, ul_at e]
def kD : Key → D
  | .inl i => .int i
  | .inr s => .str s
theorem rep_kD {K : PySem.W.Frag} {F : Hp} : ∀ k : Key, Rep K F (kD k) (kV k)
  | .inl _ => rfl
  | .inr _ => rfl
section
variable {K : PySem.W.Frag} {X : Cx} {Z : Zx} {pos : Pos}
theorem it_keys {F : Hp} {d : Addr} {o : Obj} {ks : List Key} {vs : List V} (hl : ks.length = vs.length) (h : F d = some (.frz o (.dK (ks.zip vs)))) : ItOk K (Itk d o (ks.zip vs)) (ks.map kD) F := by
  have e : (ks.zip vs).length = ks.length := by simp [hl]
  refine .pure (fun f fh l => ⟨fh _ _ (f _ _ h), by simpa [hl] using l⟩) (fun f fh l => ⟨fh _ _ (f _ _ h), by simpa [hl] using l⟩) fun {i F' H H2 x} f fh y l => ?_
  obtain ⟨rfl, k, v, q, rfl⟩ := y
  have q2 : ks[i]? = some k := by
    have := (List.getElem?_zip_eq_some.mp q).1
    exact this
  exact ⟨kD k, by rw [List.getElem?_map, q2]; rfl, rfl, rep_kD k⟩
def wForK (i : Nat) (wg : WG) (wb : WS) : WS := fun DD ρ => ∃ ks xs, nth ρ i = some (.d (.dic ks xs)) ∧ forD wg wb DD (ks.map kD) ρ
def tLkE (t : TE) : TE := fun σ H Q => tLockE t σ H Q ∨ t σ H Q
theorem pe_lk {e : Expr} {t : TE} (h : PE X e t) : PE X e (tLkE t) :=
  ⟨fun pins s σ H Q I hw => hw.elim (fun q => (pe_lock h).run pins s σ H Q I q) fun q => h.run pins s σ H Q I q⟩
def Lkd (i : Nat) (σ : St) (H : Hp) : Prop := ∃ d o u, σ[i]? = some (some (.ref d)) ∧ H d = some (.frz o u)
theorem run_lkE {i : Nat} {t t' : TE} {w : W} (hr : RunE K Z0 t' w) (ht : ∀ σ H Q, Lkd i σ H → t' σ H Q → t σ H Q) (hw : ∀ ρ P, w ρ P → ∃ ks xs, nth ρ i = some (.d (.dic ks xs))) : RunE K Z (tLkE t) w := fun {H0 F0 F H ρ σ Q P} zo rl h k => by
  obtain ⟨ks, xs, e⟩ := hw ρ P h
  obtain ⟨v, e1, d, vs, rfl, q, hl, rp⟩ := rl.at_ i _ (nth_some e)
  rcases q with q | ⟨o, q⟩
  · refine .inl ⟨d, _, rl.fh _ _ q, trivial, fun od => ?_⟩
    have hH := rl.fh _ _ q
    have qF : lk d od F d = some (.frz od (.dK (ks.zip vs))) := by unfold lk; rw [if_pos rfl, q]; rfl
    have u0 : ul d (lk d od H0) = H0 := ul_lk (l := ks.zip vs) fun o z => by have := rl.h _ _ z; rw [hH] at this; cases this; rfl
    have u1 : ul d (lk d od F0) = F0 := ul_lk (l := ks.zip vs) fun o z => by have := rl.f _ _ z; rw [q] at this; cases this; rfl
    have u2 : ul d (lk d od F) = F := ul_lk (l := ks.zip vs) fun o z => by rw [q] at z; cases z; rfl
    have r1 := rl.lk (od := od) q
    rw [upd_lk hH]
    refine ht _ _ _ ⟨d, od, _, e1, r1.fh _ _ qF⟩ (hr Z0.ok r1 h fun s ρ' F' H' v p f r sr fr => ?_)
    have f1 := f _ _ qF
    have h1 := r.fh _ _ f1
    refine ⟨h1, ?_⟩
    rw [upd_ul h1]
    have t2 := Same.ul (d := d) f
    have t3 := r.ul f1
    have t4 := sr.ul f1
    rw [u2] at t2; rw [u0, u1] at t3; rw [u0] at t4
    exact k s ρ' _ _ v p t2 t3 t4 fr
  · exact .inr (ht _ _ _ ⟨d, o, _, e1, rl.fh _ _ q⟩ (hr Z0.ok rl h k))
def wiKeys (i : Nat) : WA := fun ρ P => ∃ ks xs, nth ρ i = some (.d (.dic ks xs)) ∧ P (ks.map kD) ρ
def iKeysF (i : Nat) : TI := fun σ H R => Lkd i σ H → iKeys (tVar i) σ H R
theorem run_keysF {i : Nat} : RunI K Z (iKeysF i) (wiKeys i) := fun {H0 F0 F H ρ σ Q P} zo rl h k => by
  rintro ⟨d', o, u, z1, z2⟩
  obtain ⟨ks, xs, e, w⟩ := h
  obtain ⟨v, e1, d, vs, rfl, q, hl, rp⟩ := rl.at_ i _ (nth_some e)
  rw [z1] at e1; cases e1
  rcases q with q | ⟨o2, q⟩
  · have := rl.fh _ _ q; rw [z2] at this; cases this
  · exact ⟨_, z1, d', o2, rfl, .inl ⟨_, rl.fh _ _ q, k _ _ F H _ w (Same.refl _) rl (it_keys hl q)⟩⟩
section
variable {elt tg : Expr} {ifs : List Expr} {scope : Scope} {own : List (Str × Nat)} {g : TG} {wg : WG} {tt : TT} {wt : WT} {te : TE} {we : W}
theorem de_lcK {i : Nat} {x : Str} {px : Pos} (hc : X.calm = true) (hN : X.N.Nodup) (ok : BlkOk X.N X.env.scope scope own)
    (hg : ∀ (s : Shared) (H : Hp) (C : Addr) (cl : List (Str × Addr)) (fp : List Addr), DGb K (X.blk s H scope (compEnvC scope cl C X.env) fp) Z0 tg (own.map (·.2)) g wg) (ht : ∀ (s : Shared) (H : Hp) (C : Addr) (cl : List (Str × Addr)) (fp : List Addr), DTs K (X.blk s H scope (compEnvC scope cl C X.env) fp) Z0 ifs tt wt)
    (he : ∀ (s : Shared) (H : Hp) (C : Addr) (cl : List (Str × Addr)) (fp : List Addr), DE K (X.blk s H scope (compEnvC scope cl C X.env) fp) Z0 elt te we) (hx : X.N[i]? = some x := by rfl) (hv : Vis X.env.scope x := by first | exact Or.inl rfl | exact Or.inr (Or.inl rfl) | exact Or.inr (Or.inr rfl)) (hd : (x == ("__debug__" : Str)) = false := by decide) (hcd : (x == ("__classdict__" : Str)) = false := by decide)
    (hs : ∀ y, foldedSetIterable (.Name x px) X.env y = pure y := by intro _; rfl) :
    DE K X Z (.ListComp elt [⟨tg, .Name x px, ifs, 0⟩] scope pos) (tLkE (tLc (iKeys (tVar i)) g tt te (own.map (·.2)))) (wLc (wiKeys i) wg wt we (own.map (·.2))) :=
  ⟨pe_lk (pe_lc hc hN (pi_keys (pe_var hx hv hd hcd)) ok (fun s H C cl fp => (hg s H C cl fp).pe) (fun s H C cl fp => (ht s H C cl fp).pe) (fun s H C cl fp => (he s H C cl fp).pe) hs),
    run_lkE (t' := tLc (iKeysF i) g tt te (own.map (·.2))) (run_lc run_keysF (hg X.s_0 (fun _ => none) 0 [] []).run (ht X.s_0 (fun _ => none) 0 [] []).run (he X.s_0 (fun _ => none) 0 [] []).run)
      (fun σ H Q hl h => h hl) fun ρ P h => by obtain ⟨ks, xs, e, _⟩ := h; exact ⟨ks, xs, e⟩⟩
end
end
end DL
namespace DL
open PySem L2
def pairD : D → Option (Key × D)
  | .tup [.int i, x] => some (.inl i, x)
  | .tup [.str s, x] => some (.inr s, x)
  | _ => none
def pairsD : List D → Option (List (Key × D))
  | [] => some []
  | d :: ds => match pairD d, pairsD ds with
    | some p, some ps => some (p :: ps)
    | _, _ => none
def mergeD (kvs more : List (Key × D)) : List (Key × D) := more.foldl (fun acc kv => vput acc kv.1 kv.2) kvs
section
variable {K : PySem.W.Frag} {X : Cx} {Z : Zx} {pos p : Pos} {a : Expr} {ta : TE} {wa : W}
def oDictP : OL := fun ds P => match ds with
  | [.lst xs] => asA (pairsD xs) fun kvs => P (.od (mergeD [] kvs))
  | _ => False
end
end DL
namespace DL
open PySem PySem.Spec PyProof.Rows L2
section
variable {P : Program} {w : World} {A : Around} {s : Shared}
theorem strsAre_at : ∀ {us : List Value} {ss : List Str}, us.length = ss.length → (∀ (j : Nat) (v : Value), us[j]? = some v → ∃ x t, ss[j]? = some x ∧ v = .str x t) → StrsAre us ss
  | [], [], _, _ => .nil
  | u :: us, q :: ss, hl, h => by
    obtain ⟨x, t, e1, rfl⟩ := h 0 u rfl
    have e1' : q = x := Option.some.inj e1
    subst e1'
    exact .cons _ t (strsAre_at (Nat.succ.inj hl) fun j v e => h (j + 1) v e)
  | [], _ :: _, hl, _ => nomatch hl
  | _ :: _, [], hl, _ => nomatch hl
theorem col_str {x : Str} {t : Tok} (hh : A.handled = none) (hx : x.length ≤ sizeLine) :
    ∀ (E' : Value → Shared → Prop) (Q' : List Value → Shared → Prop), (∀ s' vs ks', Later s s' → StrsAre vs ks' → ks'.Perm (signs x) → Q' vs s') → wpAny (model P w) A (collect (.str x t)) Q' E' s := fun E' Q' h =>
  wpAny_collect_str hh x t (hn := hx) fun s' acc k g d o it => h s' acc.toList (signs x) ⟨k, g, o⟩ (strsAre_at (by rw [Array.length_toList, it.1]; simp [signs]) fun j v e => by
    obtain ⟨c, u, e1, e2⟩ := it.2 j v (by rw [← Array.getElem?_toList]; exact e)
    have hc' : x.cps.toList[j]? = some c := by rw [Array.getElem?_toList]; exact e1
    exact ⟨⟨#[c]⟩, u, by simp [signs, hc'], e2⟩) (List.Perm.refl _)
end
section
variable {K : PySem.W.Frag} {w : World} {X : Cx} {Z : Zx} {pos p p2 : Pos} {a b c e : Expr} {ta tb tc te : TE} {wa wb wc we : W}
def rSortStr : List V → Hp → VK → Prop := fun vs H Q => ∃ x, vs = [.str x] ∧ x.length ≤ sizeLine ∧ ∀ ys p, ys.Perm (signs x) → sortedS ys = true → H p = none → Q (.ref p) (upd H p (.lst (ys.map V.str)))
theorem cr_sortStr (hc : X.calm = true) : CallR X (.builtin "sorted") rSortStr := by
  intro pins s σ H vs us Q I r h
  obtain ⟨x, rfl, hL, q⟩ := h
  obtain ⟨u, rfl, t, rfl⟩ := vals1 r
  have hL' : (signs x).length ≤ sizeLine := by
    have : (signs x).length = x.length := by simp [signs]; rfl
    rw [this]; exact hL
  refine sorted_by (ks := signs x) (col_str (show X.A.in1.handled = none from I.ok.hd hc) hL) hL' fun s1 s' p out c ys l1 la hp ho hS pm hs => ?_
  exact sorted_fin I l1 la hp ho hS (by rw [pm.length_eq]; exact hL') fun hn => q ys p pm hs hn
theorem CallR.or {f : Value} {r r' : List V → Hp → VK → Prop} (h : CallR X f r) (h' : CallR X f r') : CallR X f fun vs H Q => r vs H Q ∨ r' vs H Q := fun pins s σ H vs us Q I rr q => q.elim (fun z => h pins s σ H vs us Q I rr z) fun z => h' pins s σ H vs us Q I rr z
abbrev rSortXX (K : PySem.W.Frag) (w : World) : List V → Hp → VK → Prop := fun vs H Q => rSortX K w vs H Q ∨ rSortStr vs H Q
def oSortX : OL := fun ds P => match ds with
  | [.lst xs] => asA (txts xs) fun ss => ss.length ≤ sizeLine ∧ P (.ol ((srt ss).map .str))
  | [.str x] => x.length ≤ sizeLine ∧ P (.ol ((srt (signs x)).map .str))
  | _ => False
theorem snd_sortX : SndL K (rSortXX K w) oSortX := ⟨fun {F H ds vs P Q} fh r h k => by
  unfold oSortX at h
  split at h
  · exact .inl (snd_sort.run fh r h k)
  · obtain ⟨v, _, rfl, rfl, rfl⟩ := r
    exact .inr ⟨_, rfl, h.1, fun ys p pm hs n => by rw [srt_eq pm hs]; exact k.newL fh h.2 (Reps.strs.mpr rfl) n⟩
  · exact h.elim⟩
theorem de_sortX (hc : X.calm = true) (m : X.mg "sorted" = none) (ha : DE K X Z a ta wa) (hg : Gl X "sorted" := by rfl) (hs : starEach [a] X.env = [(false, eval a X.env)] := by rfl) (hK : X.K = K := by rfl) (hw : X.w = w := by rfl) : DE K X Z (.Call (.Name "sorted" p) [a] [] pos) (tCB (rSortXX K w) (tCons ta tNil)) (wCB oSortX (wCons wa wNil)) := by
  subst hK; subst hw
  exact de_callB (CallR.or (cr_sortX hc) (cr_sortStr hc)) snd_sortX hg m (by decide +kernel) (da_cons ha da_nil hs) (hn := by decide) (hdb := by decide) (he := hs) (hpl := rfl)
abbrev oPow : O2 := oI (fun i j => .int (i ^ j.toNat)) CPow
abbrev qPow : R2 := rI CPow fun i j => .int (i ^ j.toNat)
theorem de_pow (ha : DE K X Z a ta wa) (hb : DE K X Z b tb wb) : DE K X Z (.BinOp a .Pow b pos) (tOp qPow ta tb) (wOp oPow wa wb) := de_op op_pow (snd_I fun _ _ _ => rfl) ha hb
abbrev oBitAnd : O2 := oI0 fun i j => .int (Builtin.bitAnd i j)
abbrev oShl : O2 := oI (fun i j => .int (i * 2 ^ j.toNat)) CPow
def oNeg : O1 := fun x P => asI x fun i => P (.d (.int (-i)))
def oInt : OL := fun ds P => match ds with
  | [.int i] => P (.d (.int i))
  | [.bl b] => P (.d (.int (if b then 1 else 0)))
  | [.str a] => a.length ≤ 640 ∧ asA (PySem.intText? a) fun n => P (.d (.int n))
  | _ => False
abbrev qInt : List V → Hp → VK → Prop := fun xs H Q => ((∃ i, xs = [.int i] ∧ Q (.int i) H) ∨ ∃ k, xs = [.bl k] ∧ Q (.int (if k then 1 else 0)) H) ∨ ∃ a n, xs = [.str a] ∧ PySem.intText? a = some n ∧ a.length ≤ 640 ∧ Q (.int n) H
theorem snd_int : SndL K qInt oInt := ⟨fun {F H ds vs P Q} fh r h k => by
  unfold oInt at h
  split at h
  · obtain ⟨v, _, rfl, rfl, rfl⟩ := r
    exact .inl (.inl ⟨_, rfl, k.flat (d := .int _) fh h rfl⟩)
  · obtain ⟨v, _, rfl, rfl, rfl⟩ := r
    exact .inl (.inr ⟨_, rfl, k.flat (d := .int _) fh h rfl⟩)
  · obtain ⟨v, _, rfl, rfl, rfl⟩ := r
    obtain ⟨n, e, h2⟩ := asA_of h.2
    exact .inr ⟨_, n, rfl, e, h.1, k.flat (d := .int _) fh h2 rfl⟩
  · exact h.elim⟩
theorem de_intC (m : X.mg "int" = none) (ha : DE K X Z a ta wa) (hg : Gl X "int" := by rfl) (hs : starEach [a] X.env = [(false, eval a X.env)] := by rfl) : DE K X Z (.Call (.Name "int" p) [a] [] pos) (tCB qInt (tCons ta tNil)) (wCB oInt (wCons wa wNil)) :=
  de_callTy (CallR.or call_int1 call_int_str) snd_int hg m (by decide +kernel) (da_cons ha da_nil hs) (hn := by decide) (hdb := by decide) (he := hs) (hpl := rfl)
def oStr : OL := fun ds P => match ds with
  | [.int i] => i.natAbs.log2 < 1920 ∧ P (.d (.str (toString i)))
  | _ => False
def oDivmod : OL := fun ds P => match ds with
  | [.int i, .int j] => CDivP i j ∧ P (.d (.tup [.int (i / j), .int (i % j)]))
  | _ => False
def isD : D → D → Option Bool
  | .non, .non => some true
  | _, .non => some false
  | .bl a, .bl b => some (decide (a = b))
  | _, _ => none
def oIs (neg : Bool) : O2 := fun x y P => asA (isD x y) fun b => P (.d (.bl (xor neg b)))
def wChain (o o' : O2) (wa wb wc : W) : W := fun ρ P => wa ρ fun x ρ1 => wb ρ1 fun y ρ2 => o x.fz y.fz fun s => asB s.fz fun c => if c = true then wc ρ2 fun z ρ3 => o' y.fz z.fz fun s => P s ρ3 else P (.d (.bl false)) ρ2
def frzR (ρ : R) (i : Nat) : R := match nth ρ i with
  | some (.d _) => ρ
  | some s => put ρ i (some (.d s.fz))
  | none => ρ
theorem Rel.frz {H0 F0 F H : Hp} {ρ : R} {σ : L2.St} (r : Rel K H0 F0 F H ρ σ) (i : Nat) : ∃ F', Same F F' ∧ Rel K H0 F0 F' H (frzR ρ i) σ := by
  unfold frzR
  split
  · exact ⟨F, Same.refl _, r⟩
  · rename_i s hs e
    have w : s.own = true := by
      cases s with
      | d x => exact absurd rfl (hs x)
      | ol _ => rfl
      | od _ => rfl
      | oi _ _ => rfl
      | os _ _ _ => rfl
    obtain ⟨v, F', e1, ff, r', rp⟩ := r.own_slot (nth_some e) w
    rw [put_eq]
    exact ⟨F', ff, r'⟩
  · exact ⟨F, Same.refl _, r⟩
def wFz (i : Nat) (w : WS) : WS := fun DD ρ => w DD (frzR ρ i)
def wFzE (i : Nat) (w : W) : W := fun ρ P => w (frzR ρ i) P
theorem ds_fz (i : Nat) {st : Stmt} {t : TS} {w : WS} (h : DS K X Z st t w) : DS K X Z st t (wFz i w) := ⟨h.pe, fun {H0 F0 F H ρ σ DD Dh} zo rl ee q => by
  obtain ⟨F', ff, r'⟩ := rl.frz i
  exact h.run zo r' (ee.on ff) q⟩
def wLSet (i : Nat) (wk wv : W) : WS := fun DD ρ => wv ρ fun v ρ1 => asOL (nth ρ1 i) fun _ => wk ρ1 fun k ρ2 => asOL (nth ρ2 i) fun xs => asI k.fz fun k => asA (ixN xs.length k) fun j => DD.nx (put ρ2 i (some (.ol (xs.set j v.fz))))
theorem run_lset {i : Nat} {tk tv : TE} {wk wv : W} (hk : RunE K Z tk wk) (hv : RunE K Z tv wv) : RunS K Z (tAsg tv (gSub (tVar i) tk rSetL)) (wLSet i wk wv) := fun {H0 F0 F H ρ σ DD Dh} zo rl ee h => hv zo rl h fun s1 ρ1 F1 H1 v1 h1 f1 r1 sr1 fr1 => by
  obtain ⟨F2, f2, r2, rp2⟩ := r1.freeze sr1 fr1
  obtain ⟨xs0, e0, h1⟩ := asOL_of h1
  obtain ⟨v, ev, a, vs, rfl, hl, _⟩ := r2.at_ i _ (nth_some e0)
  refine ⟨.ref a, ev, hk zo r2 h1 fun s3 ρ3 F3 H3 v3 h3 f3 r3 sr3 fr3 => ?_⟩
  obtain ⟨F4, f4, r4, rp4⟩ := r3.freeze sr3 fr3
  obtain ⟨xs, e1, h3⟩ := asOL_of h3
  obtain ⟨z, rfl, h3⟩ := asI_of h3 rp4
  obtain ⟨j, ej, h3⟩ := asA_of h3
  obtain ⟨v2, ev2, a2, vs2, rfl, hl2, rx, n0, n1⟩ := r4.at_ i _ (nth_some e1)
  rw [ev] at ev2; cases ev2
  rw [put_eq] at h3
  refine ⟨a, vs2, z, j, rfl, rfl, hl2, by rw [rx.len]; exact ej, ee.nx _ _ _ _ h3 (f1.trans (f2.trans (f3.trans f4))) (r4.write (nth_some e1) rfl ev ⟨a, _, rfl, upd_same, rx.set j (Rep.mono (f3.trans f4) _ _ rp2), n0, n1⟩ rfl)⟩
theorem ds_lset {tk tv : TE} {wk wv : W} {k value : Expr} {x : Str} {pos' : Pos} (i : Nat) (hk : DE K X Z k tk wk) (hv : DE K X Z value tv wv) (hN : X.N[i]? = some x := by rfl) (hvi : Vis X.env.scope x := by first | exact Or.inl rfl | exact Or.inr (Or.inl rfl) | exact Or.inr (Or.inr rfl)) (hd : (x == ("__debug__" : Str)) = false := by decide)
    (hcd : (x == ("__classdict__" : Str)) = false := by decide)
    (ha : ∀ v, assign (.Subscript (.Name x p) k pos') X.env v = (do
      let ov ← holding [v] (eval (.Name x p) X.env)
      let iv ← holding [v, ov] (eval k X.env)
      standAt pos'
      holding [v, ov, iv] (setItem ov iv v)
      release [v, ov, iv] []) := by intro _; rfl) (hs : swapsWithSole [.Subscript (.Name x p) k pos'] value pos.line X.env = pure false := by rfl) (hw : swappedStores [.Subscript (.Name x p) k pos'] value X.env = pure none := by rfl)
    (h1 : (assignEach [.Subscript (.Name x p) k pos'] X.env).map (·.2) = [assign (.Subscript (.Name x p) k pos') X.env] := by rfl) :
    DS K X Z (.Assign [.Subscript (.Name x p) k pos'] value pos) (tAsg tv (gSub (tVar i) tk rSetL)) (wLSet i wk wv) := ⟨ps_asg hv.pe (pg_sub (pe_var hN hvi hd hcd) hk.pe set_list ha) hs hw h1, run_lset hk.run hv.run⟩
end
end DL
namespace DL
open PySem L2
inductive Src where
  | l (a : Addr) | t (a : Addr) | s (x : Str)
def Src.v : Src → V
  | .l a => .ref a
  | .t a => .ref a
  | .s x => .str x
def Src.items (K : PySem.W.Frag) (H : Hp) (xs : List V) : Src → Prop
  | .l a => SqL K H a xs
  | .t a => SqT K H a xs
  | .s x => xs = (signs x).map V.str
def Src.fp : Src → List Addr
  | .l a => [a]
  | .t a => [a]
  | .s _ => []
def Src.st (h : Heap) (it : Addr) (i : Nat) : Src → Prop
  | .l a => h.IsListIter it a i
  | .t a => h.IsTupleIter it a i
  | .s x => ∃ t, h.IsStrIter it (strIterType x) x t i
theorem vals_back : ∀ {xs : List V} {us : List Value} {j : Nat} {v : Value}, Vals xs us → us[j]? = some v → ∃ x, xs[j]? = some x ∧ RelV x v
  | _, _, _, _, .nil, e => by simp at e
  | _, _, 0, v, .cons r _, e => by simp at e; subst e; exact ⟨_, rfl, r⟩
  | _, _, j + 1, v, .cons _ rr, e => by
    obtain ⟨x, e1, r⟩ := vals_back (j := j) rr (by simpa using e)
    exact ⟨x, by simpa using e1, r⟩
theorem Src.st_at {h h' : Heap} {it : Addr} {i : Nat} : ∀ (c : Src), c.st h it i → (∀ o, h.get? it = some o → h'.get? it = some o) → c.st h' it i
  | .l a, st, k => Heap.IsListIter.at st k
  | .t a, st, k => Heap.IsTupleIter.at st k
  | .s x, ⟨tk, o, ho, r⟩, k => ⟨tk, o, k o ho, r⟩
theorem Src.st_obj {h : Heap} {it : Addr} {i : Nat} : ∀ (c : Src), c.st h it i → ∃ o, h.get? it = some o ∧ ∀ v, o.data ≠ .cell v
  | .l a, st => by obtain ⟨o, e, _, d⟩ := st; exact ⟨o, e, fun v q => by rw [d] at q; cases q⟩
  | .t a, st => by obtain ⟨o, e, _, d⟩ := st; exact ⟨o, e, fun v q => by rw [d] at q; cases q⟩
  | .s x, ⟨tk, st⟩ => by obtain ⟨o, e, _, d⟩ := st; exact ⟨o, e, fun v q => by rw [d] at q; cases q⟩
theorem Src.draws {X : Cx} {pins : List (Addr × Obj)} {σ : L2.St} {H : Hp} {s : Shared} {it : Addr} {i : Nat} {xs : List V} (I : Inv X pins σ H s) (hh : X.A.in1.handled = none) :
    ∀ (c : Src), c.items X.K H xs → c.st s.heap it i → (∀ b ∈ c.fp, b ≠ it) → ∃ (P1 : Nat → Value → Prop) (St1 : Nat → Heap → Prop), Draws X.prog X.w X.A.in1 it (it :: c.fp) xs.length P1 St1 ∧ St1 i s.heap ∧
      (∀ j h, St1 j h → c.st h it j) ∧ ∀ j v, P1 j v → ∃ x, xs[j]? = some x ∧ RelV x v
  | .l a, hq, st, hne => by
    obtain ⟨its, rv, p, _⟩ := I.list hq
    have hlen : its.toArray.size = xs.length := by simp [rv.length]
    refine ⟨_, _, hlen ▸ Draws.list hh it a (hne a (by simp [Src.fp])) its.toArray, ⟨st, p.isList⟩, fun j h z => z.1, fun j v e => ?_⟩
    have e' : its[j]? = some v := by simpa using e
    exact vals_back rv e'
  | .t a, hq, st, hne => by
    obtain ⟨its, rv, p, _⟩ := I.tuple hq
    have hlen : its.toArray.size = xs.length := by simp [rv.length]
    refine ⟨_, _, hlen ▸ Draws.tuple hh it a (hne a (by simp [Src.fp])) its.toArray, ⟨st, p⟩, fun j h z => z.1, fun j v e => ?_⟩
    have e' : its[j]? = some v := by simpa using e
    exact vals_back rv e'
  | .s x, hq, ⟨tk, st⟩, hne => by
    have hlen : x.cps.size = xs.length := by rw [show xs = (signs x).map V.str from hq]; simp [signs]
    refine ⟨_, _, hlen ▸ Draws.text hh it x tk, st, fun j h z => ⟨tk, z⟩, fun j v e => ?_⟩
    obtain ⟨c, u, e1, rfl⟩ := e
    have hc' : x.cps.toList[j]? = some c := by rw [Array.getElem?_toList]; exact e1
    refine ⟨.str ⟨#[c]⟩, ?_, u, rfl⟩
    rw [show xs = (signs x).map V.str from hq]
    simp [signs, hc']
def Itzz (K : PySem.W.Frag) (c1 c2 : Src) (xs ys : List V) : It :=
  ⟨fun i H => c1.items K H xs ∧ c2.items K H ys ∧ i < xs.length ∧ i < ys.length,
    fun i H v H' => ∃ T x y, v = .ref T ∧ H T = none ∧ H' = upd H T (.tup [x, y]) ∧ xs[i]? = some x ∧ ys[i]? = some y,
    fun i H => c1.items K H xs ∧ c2.items K H ys ∧ (xs.length ≤ i ∨ ys.length ≤ i)⟩
theorem turn_zipX {P : Program} {w : World} {K : PySem.W.Frag} {elts : List Expr} {kk : Nat} {tpos : Pos} {c1 c2 : Src} {xs ys : List V} {z TI TO i1 i2 : Addr} (D : ZipSep2 z TI TO i1 i2 (i1 :: c1.fp) (i2 :: c2.fp))
    (n1 : ∀ b ∈ c1.fp, b ≠ i1) (n2 : ∀ b ∈ c2.fp, b ≠ i2) :
    Turn P w K (.Tuple elts kk tpos) (Itzz K c1 c2 xs ys) [z, TI, TO, i1, i2] z (fun i h => (IsZip h z TI TO .none ∧ IsTupOf2 h TI (.ref i1) (.ref i2) ∧ (∃ a1 a2, IsTupOf2 h TO a1 a2) ∧ c1.st h i1 i ∧ c2.st h i2 i) ∧ i ≤ min xs.length ys.length) where
  mem := by simp
  obj := fun i h st c hc => by
    obtain ⟨⟨hz, hTI, ⟨x, y, hTO⟩, h1, h2⟩, _⟩ := st
    have e' : c = z ∨ c = TI ∨ c = TO ∨ c = i1 ∨ c = i2 := by simpa using hc
    rcases e' with q | q | q | q | q
    · rw [q]; exact ⟨_, hz, fun v q => nomatch q⟩
    · rw [q]; exact ⟨_, hTI, fun v q => nomatch q⟩
    · rw [q]; exact ⟨_, hTO, fun v q => nomatch q⟩
    · rw [q]; exact Src.st_obj _ h1
    · rw [q]; exact Src.st_obj _ h2
  keep := fun i h h' st k => by
    obtain ⟨⟨hz, hTI, ⟨x, y, hTO⟩, h1, h2⟩, hi⟩ := st
    exact ⟨⟨k z (by simp) _ hz, k TI (by simp) _ hTI, ⟨x, y, k TO (by simp) _ hTO⟩, Src.st_at _ h1 fun o q => k i1 (by simp) o q, Src.st_at _ h2 fun o q => k i2 (by simp) o q⟩, hi⟩
  item := by
    intro X hP hw hK hc i pins s σ H E I hf st hg
    subst hP hw hK
    have hh : X.A.in1.handled = none := by simp [I.ok.hd hc]
    obtain ⟨⟨hz, hTI, hTO, h1, h2⟩, hi⟩ := st
    obtain ⟨q1, q2, l1, l2⟩ := hg
    obtain ⟨P1, St1, D1, s1, b1, v1⟩ := Src.draws I hh c1 q1 h1 n1
    obtain ⟨P2, St2, D2, s2, b2, v2⟩ := Src.draws I hh c2 q2 h2 n2
    have W := WalksT.zipD2 (A := X.A) D D1 D2
    refine W.item i s _ _ (Nat.lt_min.mpr ⟨l1, l2⟩) ⟨hz, hTI, hTO, s1, s2⟩ fun T vals h' tk hpt hT hIs mid kp => ⟨_, rfl, ?_⟩
    refine W.go elts kk tpos i T { s with heap := h', toks := tk } _ _ mid fun h'' st'' kp2 => ?_
    obtain ⟨u1, u2, p1, p2, rfl⟩ := hpt
    obtain ⟨x, ex, rx⟩ := v1 i u1 p1
    obtain ⟨y, ey, ry⟩ := v2 i u2 p2
    have hTw := W.apart i T h' mid
    obtain ⟨oT, hoT, g1, g2⟩ := hIs
    have hoT2 := kp2 T oT hTw hoT
    have new : ObjOk X.prog X.w (upd H T (.tup [x, y])) h'' T (.tup [x, y]) :=
      ⟨by show 2 ≤ sizeLine; decide, [u1, u2], .cons rx (.cons ry .nil), ⟨oT, hoT2, g1, g2⟩⟩
    have wr : ∀ b, b ∉ [z, TI, TO, i1, i2] → b ∉ [z, TO, i1, i2] := fun b hb q => hb (by
      have e' : b = z ∨ b = TO ∨ b = i1 ∨ b = i2 := by simpa using q
      rcases e' with q | q | q | q <;> simp [q])
    have I1 : Inv X pins σ (upd H T (.tup [x, y])) { s with heap := h'', toks := tk } :=
      I.turnedNew (ch := [z, TI, TO, i1, i2]) (fun b o hb q => kp2 b o (wr b hb) (kp b o (wr b hb) q)) hf hT new
    refine ⟨.ref T, _, I1, rfl, ⟨T, x, y, rfl, I.hok.fresh hT, rfl, ex, ey⟩, ⟨⟨st''.1, st''.2.1, st''.2.2.1, b1 _ _ st''.2.2.2.1, b2 _ _ st''.2.2.2.2⟩, Nat.lt_min.mpr ⟨l1, l2⟩⟩, fun b hb => ?_⟩
    have hb' : b ≠ T := fun e => by
      subst e
      obtain ⟨o, ho, _⟩ : ∃ o, s.heap.get? b = some o ∧ True := by
        have e' : b = z ∨ b = TI ∨ b = TO ∨ b = i1 ∨ b = i2 := by simpa using hb
        rcases e' with q | q | q | q | q
        · rw [q]; exact ⟨_, hz, trivial⟩
        · rw [q]; exact ⟨_, hTI, trivial⟩
        · rw [q]; obtain ⟨_, _, e⟩ := hTO; exact ⟨_, e, trivial⟩
        · rw [q]; obtain ⟨o, e, _⟩ := Src.st_obj _ h1; exact ⟨o, e, trivial⟩
        · rw [q]; obtain ⟨o, e, _⟩ := Src.st_obj _ h2; exact ⟨o, e, trivial⟩
      exact absurd (Heap.lt_size ho) (Nat.not_lt.mpr hT)
    rw [upd_ne hb']
    exact (hf b hb).1
  done := by
    intro X hP hw hK hc i pins s σ H E I hf st hg
    subst hP hw hK
    have hh : X.A.in1.handled = none := by simp [I.ok.hd hc]
    obtain ⟨⟨hz, hTI, hTO, h1, h2⟩, hi⟩ := st
    obtain ⟨q1, q2, l⟩ := hg
    obtain ⟨P1, St1, D1, s1, b1, v1⟩ := Src.draws I hh c1 q1 h1 n1
    obtain ⟨P2, St2, D2, s2, b2, v2⟩ := Src.draws I hh c2 q2 h2 n2
    have W := WalksT.zipD2 (A := X.A) D D1 D2
    have hi' : i = min xs.length ys.length := Nat.le_antisymm hi (by omega)
    subst hi'
    have wr : ∀ b, b ∉ [z, TI, TO, i1, i2] → b ∉ [z, TO, i1, i2] := fun b hb q => hb (by
      have e' : b = z ∨ b = TO ∨ b = i1 ∨ b = i2 := by simpa using q
      rcases e' with q | q | q | q <;> simp [q])
    exact W.done s _ _ ⟨hz, hTI, hTO, s1, s2⟩ fun h' tk kp => ⟨rfl, I.turnedL (t' := tk) (ch := [z, TI, TO, i1, i2]) (fun b o hb q => kp b o (wr b hb) q) hf⟩
  self := fun A i s Q E st h => wpAny_pyIter_zip st.1.1 h
def Src.obj (u : Value) : Src → Obj
  | .l _ => { cls := .type "list_iterator", data := .fields #[u, .int 0 0] }
  | .t _ => { cls := .type "tuple_iterator", data := .fields #[u, .int 0 0] }
  | .s x => { cls := .type (strIterType x), data := .fields #[u, .int 0 0] }
theorem Src.begins {X : Cx} {pins : List (Addr × Obj)} {σ : L2.St} {H : Hp} {s : Shared} {xs : List V} {u : Value} (I : Inv X pins σ H s) : ∀ (c : Src), c.items X.K H xs → RelV c.v u →
    ∃ (o : Obj) (Hh : Heap → Prop), Begins u o Hh ∧ Hh s.heap ∧ (∀ h it, h.get? it = some o → c.st h it 0) ∧ ∀ b ∈ c.fp, b < s.heap.objs.size
  | .l a, hq, r => by
    obtain ⟨its, rv, p, _⟩ := I.list hq
    cases (show u = Value.ref a from r)
    exact ⟨_, _, begins_list a its.toArray, p.isList, fun h it e => ⟨_, e, rfl, rfl⟩, fun b hb => by simp [Src.fp] at hb; subst hb; exact p.lt⟩
  | .t a, hq, r => by
    obtain ⟨its, rv, p, _⟩ := I.tuple hq
    cases (show u = Value.ref a from r)
    exact ⟨_, _, begins_tuple a its.toArray, p, fun h it e => ⟨_, e, rfl, rfl⟩, fun b hb => by simp [Src.fp] at hb; subst hb; obtain ⟨o, ho, _⟩ := p; exact Heap.lt_size ho⟩
  | .s x, hq, r => by
    obtain ⟨t, rfl⟩ : ∃ t, u = Value.str x t := r
    exact ⟨_, _, begins_text x t, trivial, fun h it e => ⟨t, _, e, rfl, rfl⟩, fun b hb => by simp [Src.fp] at hb⟩
def iZipX (K : PySem.W.Frag) (ta : TA) : TI := fun σ H R => ta σ H fun vs H1 => ∃ (c1 c2 : Src) (xs ys : List V), vs = [c1.v, c2.v] ∧ c1.items K H1 xs ∧ c2.items K H1 ys ∧ R (Itzz K c1 c2 xs ys) H1
theorem pi_zipX {X : Cx} {e e2 : Expr} {ta : TA} {p pos tpos : Pos} {elts : List Expr} {kk : Nat} (hg : Gl X "zip") (hm : X.mg "zip" = none) (ha : PA X [e, e2] ta)
    (hs : starEach [e, e2] X.env = (false, eval e X.env) :: starEach [e2] X.env := by rfl) (hpl : (backTo pos (starEach [e2] X.env)).any (·.1) = false := by rfl) :
    PI X (.Tuple elts kk tpos) (.Call (.Name "zip" p) [e, e2] [] pos) (iZipX X.K ta) := by
  refine ⟨fun pins s σ H R I h => ?_⟩
  refine PyProof.Rows.Call_ (ld_blt I hg hm PyProof.Rows.boot_zip (PyProof.Rows.callWith_type1 (L2.thn (ha.run pos pins s σ H _ I h) fun us s1 ⟨vs, H1, I1, r1, q1⟩ => ?_) hs hpl))
  obtain ⟨c1, c2, xs, ys, ex, hq1, hq2, q⟩ := q1
  subst ex
  obtain ⟨u1, u2, rfl, r1, r2⟩ := vals2 r1
  obtain ⟨o1, K1, B1, k1, t1, f1⟩ := Src.begins I1 c1 hq1 r1
  obtain ⟨o2, K2, B2, k2, t2, f2⟩ := Src.begins I1 c2 hq2 r2
  refine zip_begins2 B1 B2 k1 k2 fun h' hz hTI hTO g1 g2 hsz hk => wpAny_pyIter_zip hz ?_
  have I2 : Inv X pins σ H1 { s1 with heap := h' } := I1.kept (t' := s1.toks) hk
  refine ⟨s1.heap.objs.size + 4, [s1.heap.objs.size + 4, s1.heap.objs.size + 2, s1.heap.objs.size + 3, s1.heap.objs.size, s1.heap.objs.size + 1], _, _, H1, rfl, I2,
    turn_zipX (zip_sep2 f1 f2) (fun b hb => Nat.ne_of_lt (f1 b hb)) (fun b hb => Nat.ne_of_lt (Nat.lt_succ_of_lt (f2 b hb))), ⟨⟨hz, hTI, ⟨_, _, hTO⟩, t1 _ _ g1, t2 _ _ g2⟩, Nat.zero_le _⟩, fun c hcm => ?_, q⟩
  have e' : c = s1.heap.objs.size + 4 ∨ c = s1.heap.objs.size + 2 ∨ c = s1.heap.objs.size + 3 ∨ c = s1.heap.objs.size ∨ c = s1.heap.objs.size + 1 := by simpa using hcm
  have hle : s1.heap.objs.size ≤ c := by
    rcases e' with z | z | z | z | z
    · rw [z]; exact Nat.le_add_right _ _
    · rw [z]; exact Nat.le_add_right _ _
    · rw [z]; exact Nat.le_add_right _ _
    · rw [z]; exact Nat.le_refl _
    · rw [z]; exact Nat.le_add_right _ _
  exact I1.fpOk hle (I1.hok.fresh hle)
def seqsD (d : D) (P : List D → Prop) : Prop := match d with
  | .cel ns => P (ns.map .int)
  | .lst xs => P xs
  | .tup xs => P xs
  | .str z => P ((signs z).map .str)
  | _ => False
theorem seqsD_of {K : PySem.W.Frag} {F : Hp} {d : D} {v : V} {P : List D → Prop} (h : seqsD d P) (r : Rep K F d v) : ∃ (c : Src) (vs : List V) (xs : List D), v = c.v ∧ (∀ H, Same F H → c.items K H vs) ∧ (∀ F', Same F F' → Reps K F' xs vs) ∧ P xs := by
  cases d <;> first | exact h.elim | skip
  · exact ⟨.s _, _, _, r, fun H fh => rfl, fun F' f => Reps.strs.mpr rfl, h⟩
  · obtain ⟨a, rfl, h1⟩ := r
    exact ⟨.l a, _, _, rfl, fun H fh => fh.seq h1, fun F' f => Reps.ints.mpr rfl, h⟩
  · obtain ⟨a, vs, rfl, h1, h2⟩ := r
    exact ⟨.l a, vs, _, rfl, fun H fh => SqL.of (fh _ _ h1), fun F' f => Reps.mono f _ _ h2, h⟩
  · obtain ⟨a, vs, rfl, h1, h2⟩ := r
    exact ⟨.t a, vs, _, rfl, fun H fh => Same.sqT fh h1, fun F' f => Reps.mono f _ _ h2, h⟩
def zipD (xs ys : List D) : List D := (xs.zip ys).map fun p => .tup [p.1, p.2]
theorem zipD_len (xs ys : List D) : (zipD xs ys).length = min xs.length ys.length := by simp [zipD]
def wiZip (wa : WA) : WA := fun ρ P => wa ρ fun ds ρ1 => match ds with
  | [x, y] => seqsD x fun xs => seqsD y fun ys => P (zipD xs ys) ρ1
  | _ => False
section
variable {K : PySem.W.Frag} {X : Cx} {Z : Zx} {pos p : Pos} {a b : Expr} {wa : WA} {ta : TA}
theorem di_zip {elts : List Expr} {kk : Nat} {tpos : Pos} (hm : X.mg "zip" = none) (ha : DA K X Z [a, b] ta wa) (hg : Gl X "zip" := by rfl) (hs : starEach [a, b] X.env = (false, eval a X.env) :: starEach [b] X.env := by rfl) (hpl : (backTo pos (starEach [b] X.env)).any (·.1) = false := by rfl) (hK : X.K = K := by rfl) :
    DI K X Z (.Tuple elts kk tpos) (.Call (.Name "zip" p) [a, b] [] pos) (iZipX K ta) (wiZip wa) := by
  refine ⟨by subst hK; exact pi_zipX hg hm ha.pe hs hpl, fun {H0 F0 F H ρ σ Q P} zo rl h k => ha.run zo rl h fun ds ρ1 F1 H1 vs h1 f1 r1 rps => ?_⟩
  split at h1
  · rename_i x y
    obtain ⟨v1, _, rfl, e1, v2, _, rfl, e2, rfl⟩ := rps
    obtain ⟨c1, us1, xs, rfl, g1, p1, h1⟩ := seqsD_of h1 e1
    obtain ⟨c2, us2, ys, rfl, g2, p2, h1⟩ := seqsD_of h1 e2
    have n1 := (p1 F1 (Same.refl _)).len
    have n2 := (p2 F1 (Same.refl _)).len
    refine ⟨c1, c2, us1, us2, rfl, g1 _ r1.fh, g2 _ r1.fh, k _ ρ1 F1 H1 _ h1 f1 r1 ⟨fun {i F H} f g l => ?_, fun {i F H} f g l => ?_, fun {i F H H2 x} f g y l => ?_⟩⟩
    · rw [zipD_len] at l
      exact ⟨g1 _ (f.trans g), g2 _ (f.trans g), by omega, by omega⟩
    · rw [zipD_len] at l
      exact ⟨g1 _ (f.trans g), g2 _ (f.trans g), by omega⟩
    · obtain ⟨T, x1, x2, rfl, n, rfl, y1, y2⟩ := y
      obtain ⟨d1, e1, q1⟩ := (p1 _ f).get' y1
      obtain ⟨d2, e2, q2⟩ := (p2 _ f).get' y2
      have nF : F T = none := g.free n
      refine ⟨upd F T (.tup [x1, x2]), .tup [d1, d2], ?_, Same.new n, Same.new nF, upd_both g n, nw_upd n, ⟨T, _, rfl, SqT.of upd_same, ?_⟩⟩
      · unfold zipD
        rw [List.getElem?_map, (List.getElem?_zip_eq_some (z := (d1, d2))).mpr ⟨e1, e2⟩]; rfl
      · exact ⟨_, _, rfl, Rep.mono (Same.new nF) _ _ q1, _, _, rfl, Rep.mono (Same.new nF) _ _ q2, rfl⟩
  · exact h1.elim
end
def itemsD (ks : List Key) (xs : List D) : List D := (ks.zip xs).map fun p => .tup [kD p.1, p.2]
end DL
namespace DL
open PySem L2
end DL
namespace DL
open PySem L2
section
variable {K : PySem.W.Frag} {X : Cx} {Z : Zx}
def wiVals (i : Nat) : WA := fun ρ P => ∃ ks xs, nth ρ i = some (.d (.dic ks xs)) ∧ P xs ρ
def wiItems (i : Nat) : WA := fun ρ P => ∃ ks xs, nth ρ i = some (.d (.dic ks xs)) ∧ P (itemsD ks xs) ρ
section
variable {tg : Expr} {body : List Stmt} {g : TG} {wg : WG} {tb : TS} {wb : WS} {py apos cpos : Pos}
end
section
variable {elt tg : Expr} {ifs : List Expr} {scope : Scope} {own : List (Str × Nat)} {g : TG} {wg : WG} {tt : TT} {wt : WT} {te : TE} {we : W} {px apos cpos : Pos}
end
end
end DL
namespace DL
open PySem L2
section
variable {K : PySem.W.Frag} {X : Cx} {Z : Zx} {pos p : Pos} {e : Expr} {te : TE} {we : W}
def wOIx (i : Nat) (wk : W) : W := fun ρ P => (nth ρ i).isSome = true ∧ wk ρ fun k ρ1 => match nth ρ1 i with
  | some (.ol xs) => asI k.fz fun j => asA (atI xs j) fun d => P (.d d) ρ1
  | some (.od kvs) => asKey k.fz fun key => asA (vget kvs key) fun d => P (.d d) ρ1
  | some (.d x) => oIxX x k.fz fun s => P s ρ1
  | _ => False
theorem run_oix {i : Nat} {tk : TE} {wk : W} (hk : RunE K Z tk wk) : RunE K Z (tOp (rIxX K) (tVar i) tk) (wOIx i wk) := fun {H0 F0 F H ρ σ Q P} zo rl h k => by
  obtain ⟨h0, h⟩ := h
  obtain ⟨s0, e0⟩ := Option.isSome_iff_exists.mp h0
  obtain ⟨v, ev, _⟩ := rl.at_ i _ (nth_some e0)
  refine ⟨v, ev, hk zo rl h fun s3 ρ3 F3 H3 v3 h3 f3 r3 sr3 fr3 => ?_⟩
  obtain ⟨F4, f4, r4, rp4⟩ := r3.freeze sr3 fr3
  split at h3
  · rename_i xs e1
    obtain ⟨j, ej, h3⟩ := asI_of h3 rp4
    subst ej
    obtain ⟨d, e, h3⟩ := asA_of h3
    obtain ⟨v', ev', a, vs, rfl, hl, rr, n0, n1⟩ := r4.at_ i _ (nth_some e1)
    rw [ev] at ev'; cases ev'
    obtain ⟨u, e', r⟩ := at_reps rr e
    exact .inl (.inl ⟨a, vs, j, u, rfl, rfl, .inl (.inl hl), e', k (.d d) _ F4 _ _ h3 (f3.trans f4) r4 r fun w => nomatch w⟩)
  · rename_i kvs e1
    obtain ⟨key, rfl, h3⟩ := asKey_of h3 rp4
    obtain ⟨d, e, h3⟩ := asA_of h3
    obtain ⟨a', l, ev', hd, kr, n0, n1⟩ := r4.dict e1
    rw [ev] at ev'; cases ev'
    rcases kr.get (k := key) with ⟨d', u, g1, g2, g3⟩ | ⟨g1, g2⟩
    · rw [e] at g1; cases g1
      exact .inr ⟨a', u, rfl, .inl ⟨l, key, .inl hd, rfl, g2.symm⟩, k (.d d) _ F4 _ _ h3 (f3.trans f4) r4 g3 fun w => nomatch w⟩
    · rw [e] at g1; cases g1
  · rename_i x e1
    obtain ⟨v', ev', rx⟩ := r4.at_ i _ (nth_some e1)
    rw [ev] at ev'; cases ev'
    exact snd_ixX.run r4.fh rx rp4 h3 (r4.kont (f3.trans f4) k)
  · exact h3.elim
theorem de_oix (i : Nat) {x : Str} {k : Expr} {tk : TE} {wk : W} {px : Pos} (hu : X.A.units + 64 < cLine) (hk : DE K X Z k tk wk) (hN : X.N[i]? = some x := by rfl) (hv : Vis X.env.scope x := by first | exact Or.inl rfl | exact Or.inr (Or.inl rfl) | exact Or.inr (Or.inr rfl)) (hd : (x == ("__debug__" : Str)) = false := by decide)
    (hcd : (x == ("__classdict__" : Str)) = false := by decide) (hs : PlainIx k := by exact fun _ _ => rfl) (hK : X.K = K := by rfl) : DE K X Z (.Subscript (.Name x px) k pos) (tOp (rIxX K) (tVar i) tk) (wOIx i wk) := by
  subst hK
  exact ⟨pe_ix (ix_X (units1 hu)) (pe_var hN hv hd hcd) hk.pe hs, run_oix hk.run⟩
def wNo : WS := fun _ _ => False
def relabelS (sc scF : Scope) : Scope := { sc with names := sc.names.map fun (n, k) => if (k == .free && scF.kind == .function && scF.names.lookup n == some .cell) then (n, .cell) else (n, k) }
theorem blk_in {N : List Str} {X : Cx} {s : Shared} {H : Hp} {scO scF sc : Scope} {cl : List (Str × Addr)} {C : Addr} {env : Env} {fp : List Addr} {own : List (Str × Nat)} (h : BlkOk N (relabelS scO scF) sc own) (e : X.N = N := by rfl) (e2 : env.scope = scF := by rfl) :
    BlkOk (X.blk s H scO (compEnvC scO cl C env) fp).N (X.blk s H scO (compEnvC scO cl C env) fp).env.scope sc own := by subst e; subst e2; exact h
abbrev oMulX : O2 := oI (fun i j => .int (i * j)) CMulX
end
end DL
namespace DL
open PySem L2
section
variable {K : PySem.W.Frag} {X : Cx} {Z : Zx} {pos p apos : Pos} {CX : CXT} {k : Nat}
def fget {β : Type} (kvs : List (Str × β)) (f : Str) : Option β := kvs.lookup f
def FldOk (K : PySem.W.Frag) (N f : Str) : Prop := ∀ C, PySem.W.nsIn K mainGlobals N = some (some (.ref C)) → Cls K C ∧ NoAttr K C f
def MethAt (P : Program) (w : World) (K : PySem.W.Frag) (mg : Str → Option Value) (base : Heap) (CX : CXT) (k : Nat) (m : Str) (C : Addr) (sp : DSp) : Prop := Cls K C ∧ ∃ g fd ps k', k' ≤ k ∧ Meth K C m g ∧ FnOk P w K mg base CX k' g fd ps (spD K sp) ∧ Binds K fd ps []
def MethOk (P : Program) (w : World) (K : PySem.W.Frag) (mg : Str → Option Value) (base : Heap) (CX : CXT) (k : Nat) (m : Str) (N : Str) (sp : DSp) : Prop := ∀ C, PySem.W.nsIn K mainGlobals N = some (some (.ref C)) → MethAt P w K mg base CX k m C sp
theorem MethOk.of {P : Program} {w : World} {K : PySem.W.Frag} {mg : Str → Option Value} {base : Heap} {CX : CXT} {k k' : Nat} {m N : Str} {sp : DSp} {C g : Addr} {fd : FuncData} {ps : List Str} (aC : PySem.W.nsIn K mainGlobals N = some (some (.ref C))) (c : Cls K C) (hm : Meth K C m g)
    (F : FnOk P w K mg base CX k' g fd ps (spD K sp)) (hb : Binds K fd ps []) (hk : k' ≤ k) : MethOk P w K mg base CX k m N sp := fun C' h => by rw [aC] at h; cases h; exact ⟨c, g, fd, ps, k', hk, hm, F, hb⟩
theorem FldOk.of {K : PySem.W.Frag} {N f : Str} {C : Addr} (aC : PySem.W.nsIn K mainGlobals N = some (some (.ref C))) (c : Cls K C) (n : NoAttr K C f) : FldOk K N f := fun C' h => by rw [aC] at h; cases h; exact ⟨c, n⟩
structure Bare (K : PySem.W.Frag) (C : Addr) : Prop where
  makes : PySem.W.makesIn K C = true
  init : PySem.W.findIn K (.ref C) "__init__" = some (some (.builtin "object.__init__"))
  top : PySem.W.mroIn K C (.type "object") = some true
  kp : PySem.W.keepIn K (.ref C) = true
open PySem.W in
end
end DL
namespace DL
open PySem L2
section
variable {K : PySem.W.Frag} {X : Cx} {Z : Zx} {pos apos : Pos} {o e : Expr} {to te : TE} {wo we : W}
def wM1 (op : O2) (wo we : W) : W := fun ρ P => wo ρ fun s ρ1 => asS s.fz fun _ => we ρ1 fun t ρ2 => op s.fz t.fz fun r => P r ρ2
structure SndT (K : PySem.W.Frag) (r : V → List V → Hp → VK → Prop) (op : O2) : Prop where
  run : ∀ {F H : Hp} {x y : D} {vx vy : V} {P : S → Prop} {Q : VK}, Same F H → Rep K F x vx → Rep K F y vy → op x y P → Kont K H F P Q → r vx [vy] H Q
def oSplit : O2 := fun x y P => match x, y with
  | .str a, .str b => (b.length == 0) = false ∧ a.length + 2 ≤ sizeLine ∧ P (.ol ((Txt.split a b).map .str))
  | _, _ => False
def oPart : O2 := fun x y P => match x, y with
  | .str a, .str b => (b.length == 0) = false ∧ a.length ≤ sizeLine ∧ P (.d (.tup [.str (Txt.partition a b).1, .str (Txt.partition a b).2.1, .str (Txt.partition a b).2.2]))
  | _, _ => False
def oStrip1 : O2 := fun x y P => match x, y with
  | .str a, .str b => a.length ≤ sizeLine ∧ P (.d (.str (Txt.stripChars a b)))
  | _, _ => False
end
end DL
namespace DL
open PySem L2
section
variable {K : PySem.W.Frag} {X : Cx} {Z : Zx} {pos p p2 : Pos} {a b : Expr} {ta tb : TE} {wa wb : W}
theorem Reps.rep {F : Hp} {xs : List D} {vs : List V} (h : Reps K F xs vs) : ∀ n : Nat, Reps K F (List.replicate n xs).flatten (List.replicate n vs).flatten
  | 0 => rfl
  | n + 1 => by
    rw [List.replicate_succ, List.replicate_succ, List.flatten_cons, List.flatten_cons]
    exact h.app (Reps.rep h n)
def oRep : O2 := fun x y P => match x, y with
  | .lst xs, .int k => (-(2 ^ 63) ≤ k ∧ k < 2 ^ 63) ∧ xs.length * k.toNat ≤ sizeLine ∧ P (.ol (List.replicate k.toNat xs).flatten)
  | _, _ => False
theorem snd_rep : Snd2 K rRep oRep := ⟨fun {F H x y vx vy P Q} fh rx ry h k => by
  unfold oRep at h
  split at h
  · rename_i xs i
    cases (show vy = _ from ry)
    obtain ⟨l, vs, rfl, hl, rr⟩ := rx
    refine ⟨l, i, vs, rfl, rfl, fh _ _ hl, h.1.1, h.1.2, by rw [rr.len]; exact h.2.1, fun p n => ?_⟩
    exact k.newL fh h.2.2 (Reps.rep rr _) n
  · exact h.elim⟩
theorem de_rep (ha : DE K X Z a ta wa) (hb : DE K X Z b tb wb) : DE K X Z (.BinOp a .Mult b pos) (tOp rRep ta tb) (wOp oRep wa wb) := de_op op_rep snd_rep ha hb
def intsD : List D → Option (List Int)
  | [] => some []
  | .int i :: xs => (intsD xs).map (i :: ·)
  | _ :: _ => none
theorem intsD_of {F : Hp} : ∀ {xs : List D} {vs : List V} {ns : List Int}, intsD xs = some ns → Reps K F xs vs → vs = ns.map V.int
  | [], vs, ns, e, r => by cases e; exact r
  | x :: xs, vs, ns, e, r => by
    obtain ⟨v, vs', rfl, r1, r2⟩ := r
    cases x <;> first | (cases e) | skip
    rename_i i
    unfold intsD at e
    cases e2 : intsD xs with
    | none => rw [e2] at e; cases e
    | some ms =>
      rw [e2] at e; cases e
      cases (show v = _ from r1)
      rw [intsD_of e2 r2]; rfl
def oSum : OL := fun ds P => match ds with
  | [.lst xs] => asA (intsD xs) fun ns => P (.d (.int ns.sum))
  | [.cel ns] => P (.d (.int ns.sum))
  | _ => False
theorem snd_sum : SndL K (rSum K) oSum := ⟨fun {F H ds vs P Q} fh r h k => by
  unfold oSum at h
  split at h
  · obtain ⟨v, _, rfl, ⟨l, us, rfl, hl, rr⟩, rfl⟩ := r
    obtain ⟨ns, e, h⟩ := asA_of h
    have := intsD_of e rr
    subst this
    exact ⟨l, ns, rfl, .inl (.inl (fh _ _ hl)), k.flat (d := .int _) fh h rfl⟩
  · obtain ⟨v, _, rfl, ⟨l, rfl, hs⟩, rfl⟩ := r
    exact ⟨l, _, rfl, fh.seq hs, k.flat (d := .int _) fh h rfl⟩
  · exact h.elim⟩
theorem de_sum (hc : X.calm = true) (m : X.mg "sum" = none) (ha : DE K X Z a ta wa) (hg : Gl X "sum" := by rfl) (hs : starEach [a] X.env = [(false, eval a X.env)] := by rfl) (hK : X.K = K := by rfl) : DE K X Z (.Call (.Name "sum" p) [a] [] pos) (tCB (rSum K) (tCons ta tNil)) (wCB oSum (wCons wa wNil)) := by
  subst hK
  exact de_callB (cr_sum hc) snd_sum hg m (by decide +kernel) (da_cons ha da_nil hs) (hn := by decide) (hdb := by decide) (he := hs) (hpl := rfl)
def IsOk (K : PySem.W.Frag) (M N : Str) (b : Bool) : Prop := ∀ C D, PySem.W.nsIn K mainGlobals M = some (some (.ref C)) → PySem.W.nsIn K mainGlobals N = some (some (.ref D)) → PySem.W.kitOne K (.ref C) (.ref D) = some b
theorem IsOk.of {M N : Str} {C D : Addr} {b : Bool} (h1 : PySem.W.nsIn K mainGlobals M = some (some (.ref C))) (h2 : PySem.W.nsIn K mainGlobals N = some (some (.ref D))) (h : PySem.W.kitOne K (.ref C) (.ref D) = some b) : IsOk K M N b := fun C' D' g1 g2 => by
  rw [h1] at g1; rw [h2] at g2; cases g1; cases g2; exact h
open PySem.W in
structure InsOk1 (K : PySem.W.Frag) (C : Addr) : Prop where
  cl : Cls K C
  ha : PySem.W.findIn K (.ref C) "__class__" = some (some (.builtin "object.__class__"))
  hn : PySem.W.specialIn K (.builtin "object.__class__") "__get__" = some (some (.builtin "getset_descriptor.__get__"))
  htk : PySem.W.takesIn K (.builtin "object.__class__") = some true
  hm : PySem.W.mroIn K C (.type "object") = some true
def InsOk (K : PySem.W.Frag) (M : Str) : Prop := ∀ C, PySem.W.nsIn K mainGlobals M = some (some (.ref C)) → InsOk1 K C
theorem InsOk.of {M : Str} {C : Addr} (h1 : PySem.W.nsIn K mainGlobals M = some (some (.ref C))) (h : InsOk1 K C) : InsOk K M := fun C' g => by rw [h1] at g; cases g; exact h
end
end DL
namespace DL
open PySem L2
def wRaise (px : PX) (N : Str) (fs : List Str) (wa : WA) : WS := fun _ ρ => (∃ M gs, px M gs) ∧ wa ρ fun ds _ => ds.length = fs.length ∧ px N (fs.zip ds)
section
variable {K : PySem.W.Frag} {X : Cx} {Z : Zx} {pos p : Pos} {CX : CXT} {k : Nat} {f : Addr} {fd : FuncData} {ps : List Str} {Rf : DSp} {x : Str} {e : Expr} {es : List Expr} {ta : TA} {wa : WA}
end
end DL
set_option maxHeartbeats 2000000
namespace DL
open PySem PySem.Spec PyProof.Rows L2 LiI
section
variable {X : Cx} {e : Expr} {te : TE} {p apos cpos pos : Pos}
end
section
variable {K : PySem.W.Frag} {X : Cx} {Z : Zx} {e : Expr} {te : TE} {we : W} {p apos cpos pos : Pos}
def itemsT (kvs : List (Key × D)) : List D := kvs.map fun q => .tup [kD q.1, q.2]
def wLI (we : W) : W := fun ρ P => we ρ fun s ρ1 => asDic s.fz fun kvs => P (.ol (itemsT kvs)) ρ1
def wLK (we : W) : W := fun ρ P => we ρ fun s ρ1 => asDic s.fz fun kvs => P (.ol (kvs.map fun q => kD q.1)) ρ1
end
end DL
set_option maxHeartbeats 4000000
namespace DL
open PySem PySem.Spec PyProof.Rows L2
section
variable {prog : Program} {w : World} {A : Around} {E : Value → Shared → Prop} {s : Shared} {z TI TO T i1 i2 : Addr} {fp1 fp2 : List Addr} {n1 n2 i : Nat} {P1 P2 : Nat → Value → Prop} {St1 St2 : Nat → Heap → Prop} {f : Bool} {oT : Obj}
end
end DL
set_option maxHeartbeats 4000000
namespace DL
open PySem PySem.Spec PyProof.Rows L2
def keysD : List D → Option (List Key)
  | [] => some []
  | .int i :: ds => (keysD ds).map (.inl i :: ·)
  | .str s :: ds => (keysD ds).map (.inr s :: ·)
  | _ => none
def seqLT (d : D) (P : List D → Prop) : Prop := match d with
  | .lst xs => P xs
  | .tup xs => P xs
  | _ => False
def wDZ (wa : WA) : W := fun ρ P => wa ρ fun ds ρ1 => match ds with
  | [x, y] => seqsD x fun xs => seqLT y fun ys => asA (keysD xs) fun ks => P (.od (mergeD [] (ks.zip ys))) ρ1
  | _ => False
section
variable {K : PySem.W.Frag} {X : Cx} {Z : Zx} {pos pos2 p p2 : Pos} {a b : Expr} {wa : WA} {ta : TA}
end
end DL
set_option maxHeartbeats 4000000
namespace DL
open PySem PySem.Spec PyProof.Rows L2
section
variable {K : PySem.W.Frag} {X : Cx} {Z : Zx} {pos p p2 apos cpos : Pos} {a b c e : Expr} {te : TE} {we : W} {ta : TA} {wa : WA} {i : Nat} {x : Str}
def rangeS (lo c : Int) (n : Nat) : List D := (List.range n).map fun (k : Nat) => .int (lo + k * c)
def wiR3 (wa : WA) : WA := fun ρ P => wa ρ fun ds ρ1 => match ds with
  | [.int i, .int j, .int c] => ∃ n, RgC i j c n ∧ P (rangeS i c n) ρ1
  | _ => False
theorem di_range3 {tg : Expr} (hm : X.mg "range" = none) (ha : DA K X Z [a, b, c] ta wa) (hg : Gl X "range" := by rfl) (hs : starEach [a, b, c] X.env = (false, eval a X.env) :: starEach [b, c] X.env := by rfl) (hpl : (backTo pos (starEach [b, c] X.env)).any (·.1) = false := by rfl) :
    DI K X Z tg (.Call (.Name "range" p) [a, b, c] [] pos) (iRng3 ta) (wiR3 wa) := by
  refine ⟨pi_range3 hg hm ha.pe hs hpl, fun {H0 F0 F H ρ σ Q P} zo rl h k => ha.run zo rl h fun ds ρ1 F1 H1 vs h1 f1 r1 rps => ?_⟩
  split at h1
  · obtain ⟨v, r, rfl, rfl, v2, r2, rfl, rfl, v3, r3, rfl, rfl, rfl⟩ := rps
    obtain ⟨n, rc, h1⟩ := h1
    have ln : ∀ lo c : Int, (rangeS lo c n).length = n := fun lo c => by simp [rangeS]
    refine ⟨_, _, _, n, rfl, rc, k _ _ _ _ _ h1 f1 r1 (ItOk.pure (fun {j F H} f g l => ?_) (fun {j F H} f g l => ?_) fun {j F H H2 x} f g y l => ?_)⟩
    · rw [ln] at l; exact l
    · rw [ln] at l; exact l
    · obtain ⟨rfl, rfl⟩ := y
      rw [ln] at l
      exact ⟨.int _, by simp [rangeS, l], rfl, rfl⟩
  · exact h1.elim
def wLR (we : W) : W := fun ρ P => we ρ fun s ρ1 => asI s.fz fun n => RgOk 0 n ∧ P (.ol (rangeD 0 n.toNat)) ρ1
def wPairs : List (W × W) → R → (List (Key × D) → Prop) → Prop
  | [], _, P => P []
  | q :: r, ρ, P => q.1 ρ fun k ρ1 => q.2 ρ1 fun v ρ2 => asKey k.fz fun key => wPairs r ρ2 fun kvs => P ((key, v.fz) :: kvs)
def wDisp (ws : List (W × W)) : W := fun ρ P => wPairs ws (dataR ρ) fun kvs => kvs.length ≤ 15 ∧ P (.od (mergeD [] kvs)) ρ
structure DPs (K : PySem.W.Frag) (X : Cx) (Z : Zx) (pos : Pos) (ks : List (Option Expr)) (vs : List Expr) (ts : List (TE × TE)) (ws : List (W × W)) : Prop where
  pe : PPs X pos ks vs ts
  run : ∀ {H0 F0 F H : Hp} {ρ : R} {σ : L2.St} {Q : List (V × V) → Hp → Prop} {P : List (Key × D) → Prop}, Z.Ok K H0 F0 → Rel K H0 F0 F H ρ σ → wPairs ws ρ P →
    (∀ kvs l ρ' F' H', P kvs → Same F F' → Rel K H0 F0 F' H' ρ' σ → KRep K F' kvs l → Q (l.map fun q => (kV q.1, q.2)) H') → tPairs ts σ H Q
def oReverse : List D → List D → (S → List D → Prop) → Prop := fun xs ds P => ds = [] ∧ P (.d .non) xs.reverse
def oClear : List D → List D → (S → List D → Prop) → Prop := fun _ ds P => ds = [] ∧ P (.d .non) []
def oInsert : List D → List D → (S → List D → Prop) → Prop := fun xs ds P => match ds with
  | [.int i, y] => (xs.length < sizeLine ∧ 0 ≤ i ∧ i < 2 ^ 63) ∧ P (.d .non) (xs.take i.toNat ++ [y] ++ xs.drop i.toNat)
  | _ => False
def wRevL (we : W) : W := fun ρ P => we ρ fun s ρ1 => asL s.fz fun xs => P (.ol xs.reverse) ρ1
end
end DL
set_option maxHeartbeats 4000000
namespace DL
open PySem PySem.Spec PyProof.Rows L2
abbrev IT := Int × Str
def ltIT (p q : IT) : Bool := bif decide (p.1 = q.1) then decide (p.2.cps.toList < q.2.cps.toList) else decide (p.1 < q.1)
def IsIT (h : Heap) (v : Value) (p : IT) : Prop := ∃ a o t u n, v = .ref a ∧ h.get? a = some o ∧ o.cls = .type "tuple" ∧ o.data = .seq #[.int p.1 t, .str p.2 u] n
section
variable {prog : Program} {w : World} {A : Around} {s : Shared} {E : Value → Shared → Prop} {k : Value → IT}
end
def keyIT (h : Heap) : Value → IT
  | .ref a => match h.get? a with
    | some o => match o.data with
      | .seq ⟨[.int i _, .str c _]⟩ _ => (i, c)
      | _ => (0, "")
    | none => (0, "")
  | _ => (0, "")
theorem IsIT.key {h : Heap} {v : Value} {p : IT} (q : IsIT h v p) : keyIT h v = p := by
  obtain ⟨a, o, t, u, n, rfl, ho, hc, hd⟩ := q
  show (match h.get? a with | some o => _ | none => _) = _
  rw [ho]
  show (match o.data with | .seq ⟨[.int i _, .str c _]⟩ _ => (i, c) | _ => (0, "")) = _
  rw [hd]
inductive All2 {α β : Type} (R : α → β → Prop) : List α → List β → Prop
  | nil : All2 R [] []
  | cons {x p xs ps} : R x p → All2 R xs ps → All2 R (x :: xs) (p :: ps)
def pairIT : D → Option IT
  | .tup [.int i, .str c] => some (i, c)
  | _ => none
def pairsIT : List D → Option (List IT)
  | [] => some []
  | d :: ds => match pairIT d, pairsIT ds with
    | some p, some ps => some (p :: ps)
    | _, _ => none
def itD (p : IT) : D := .tup [.int p.1, .str p.2]
def oSortIT : OL := fun ds P => match ds with
  | [.lst xs] => asA (pairsIT xs) fun ps => ∀ qs, qs.Perm ps → SrtO.Srtd ltIT qs → P (.ol (qs.map itD))
  | _ => False
section
variable {K : PySem.W.Frag} {X : Cx} {Z : Zx} {pos p : Pos} {a : Expr} {ta : TE} {wa : W}
end
end DL
set_option maxHeartbeats 4000000
namespace DL
open PySem PySem.Spec PyProof.Rows L2
def putG {β : Type} (f : Str) (v : β) : List (Str × β) → List (Str × β)
  | [] => [(f, v)]
  | (g, x) :: r => if g = f then (g, v) :: r else (g, x) :: putG f v r
theorem putG_V (f : Str) (v : V) : ∀ l : List (Str × V), putG f v l = putF f v l
  | [] => rfl
  | (g, x) :: r => by
    show (if g = f then _ else _) = (if g = f then _ else _)
    rw [putG_V f v r]
theorem putG_reps {K : PySem.W.Frag} {F : Hp} {f : Str} {d : D} {v : V} (rv : Rep K F d v) : ∀ {kvs : List (Str × D)} {l : List (Str × V)}, l.map (·.1) = kvs.map (·.1) → Reps K F (kvs.map (·.2)) (l.map (·.2)) →
    (putG f v l).map (·.1) = (putG f d kvs).map (·.1) ∧ Reps K F ((putG f d kvs).map (·.2)) ((putG f v l).map (·.2))
  | [], [], _, _ => ⟨rfl, v, [], rfl, rv, rfl⟩
  | [], _ :: _, h, _ => nomatch h
  | _ :: _, [], h, _ => nomatch h
  | (g, x) :: kvs, (g', y) :: l, h, r => by
    rw [List.map_cons, List.map_cons, List.cons.injEq] at h
    obtain ⟨u, us, e, r1, r2⟩ := r
    rw [List.map_cons, List.cons.injEq] at e
    obtain ⟨e1, e2⟩ := e
    have hg : g' = g := h.1
    subst hg
    have e1' : y = u := e1
    subst e1'
    have ih := putG_reps (f := f) rv h.2 (by rw [e2]; exact r2)
    unfold putG
    by_cases hgf : g' = f
    · rw [if_pos hgf, if_pos hgf]
      exact ⟨by rw [List.map_cons, List.map_cons, h.2], v, _, rfl, rv, by rw [e2]; exact r2⟩
    · rw [if_neg hgf, if_neg hgf]
      exact ⟨by rw [List.map_cons, List.map_cons, ih.1], y, _, rfl, r1, ih.2⟩
def asOI (o : Option S) (P : Str → List (Str × D) → Prop) : Prop := match o with
  | some (.oi N kvs) => P N kvs
  | some (.os _ N kvs) => P N kvs
  | _ => False
def setOI (o : Option S) (kvs : List (Str × D)) : Option S := match o with
  | some (.oi N _) => some (.oi N kvs)
  | some (.os a N _) => some (.os a N kvs)
  | o => o
section
variable {K : PySem.W.Frag} {X : Cx} {Z : Zx} {pos p pos' apos : Pos} {i : Nat}
theorem Rel.oi {H0 F0 F H : Hp} {ρ : R} {σ : L2.St} {P : Str → List (Str × D) → Prop} (r : Rel K H0 F0 F H ρ σ) (h : asOI (nth ρ i) P) :
    ∃ N kvs a C dx l, P N kvs ∧ σ[i]? = some (some (.ref a)) ∧ PySem.W.nsIn K mainGlobals N = some (some (.ref C)) ∧ H a = some (.ins C dx l) ∧ l.map (·.1) = kvs.map (·.1) ∧ Reps K F (kvs.map (·.2)) (l.map (·.2)) ∧ H0 a = none ∧ F a = none ∧
      ∀ d v f, Rep K F d v → Rel K H0 F0 F (upd H a (.ins C dx (putF f v l))) (put ρ i (setOI (nth ρ i) (putG f d kvs))) σ := by
  unfold asOI at h
  split at h
  · rename_i N kvs e
    obtain ⟨v, ev, a, C, dx, l, rfl, g, hl, hk, rr, n0, n1⟩ := r.at_ i _ (nth_some e)
    refine ⟨N, kvs, a, C, dx, l, h, ev, g, hl, hk, rr, n0, n1, fun d v f rv => ?_⟩
    rw [put_eq, e, ← putG_V]
    have q := putG_reps (f := f) rv hk rr
    exact r.write (nth_some e) rfl ev ⟨a, C, dx, _, rfl, g, upd_same, q.1, q.2, n0, n1⟩ rfl
  · rename_i a0 N kvs e
    obtain ⟨v, ev, e0, a, C, dx, l, rfl, g, hl, hk, rr, n0, n1⟩ := r.at_ i _ (nth_some e)
    refine ⟨N, kvs, a, C, dx, l, h, ev, g, hl, hk, rr, n0, n1, fun d v f rv => ?_⟩
    rw [put_eq, e, ← putG_V]
    have q := putG_reps (f := f) rv hk rr
    exact r.write (nth_some e) rfl ev ⟨e0, a, C, dx, _, rfl, g, upd_same, q.1, q.2, n0, n1⟩ rfl
  · exact h.elim
def wOFld (Ns : List Str) (i : Nat) (f : Str) : W := fun ρ P => asOI (nth ρ i) fun N kvs => N ∈ Ns ∧ asA (fget kvs f) fun d => P (.d d) ρ
def wSFld (Ns : List Str) (i : Nat) (f : Str) (we : W) : WS := fun DD ρ => we ρ fun s ρ1 => asOI (nth ρ1 i) fun N kvs => (N ∈ Ns ∧ kvs.length < 1000) ∧ DD.nx (put ρ1 i (setOI (nth ρ1 i) (putG f s.fz kvs)))
end
section
variable {P : Program} {w : World} {K : PySem.W.Frag} {mg : Str → Option Value} {base : Heap} {x qual : Str} {st : Stmt} {f : Addr} {fd : FuncData} {N ps : List Str} {k : Nat} {Rf : DSp} {Cn : Str}
end
section
variable {K : PySem.W.Frag} {X : Cx} {Z : Zx} {pos p : Pos} {CX : CXT} {k : Nat}
def wPar (i j : Nat) (wa : WA) : WS := fun DD ρ => wa ρ fun ds ρ1 => match ds with
  | [x, y] => DD.nx (put (put ρ1 i (some (.d x))) j (some (.d y)))
  | _ => False
end
end DL
set_option maxHeartbeats 2000000
namespace DL
open PySem PySem.Spec PyProof.Rows L2
section
variable {X : Cx} {e : Expr} {te : TE}
end
section
variable {K : PySem.W.Frag} {X : Cx} {Z : Zx} {e o : Expr} {te to : TE} {we wo : W} {p apos cpos pos : Pos}
theorem SRep.at_upd {H0 F H : Hp} {s : S} {v : V} {a : Addr} {u : HO} (n1 : F a = none) (fr : s.own = true → v ≠ .ref a) (h : SRep K H0 F H s v) : SRep K H0 (upd F a u) (upd H a u) s v := by
  cases s with
  | d x => exact Rep.mono (Same.new n1) _ _ h
  | ol xs =>
    obtain ⟨b, vs, e, h1, h2, m0, m1⟩ := h
    have ne : b ≠ a := fun z => fr rfl (by rw [e, z])
    exact ⟨b, vs, e, by rw [upd_ne ne]; exact h1, Reps.mono (Same.new n1) _ _ h2, m0, by rw [upd_ne ne]; exact m1⟩
  | od kvs =>
    obtain ⟨b, vs, e, h1, hk, h2, m0, m1⟩ := h
    have ne : b ≠ a := fun z => fr rfl (by rw [e, z])
    exact ⟨b, vs, e, by rw [upd_ne ne]; exact h1, hk, Reps.mono (Same.new n1) _ _ h2, m0, by rw [upd_ne ne]; exact m1⟩
  | oi N kvs =>
    obtain ⟨b, C, dx, vs, e, g, h1, hk, h2, m0, m1⟩ := h
    have ne : b ≠ a := fun z => fr rfl (by rw [e, z])
    exact ⟨b, C, dx, vs, e, g, by rw [upd_ne ne]; exact h1, hk, Reps.mono (Same.new n1) _ _ h2, m0, by rw [upd_ne ne]; exact m1⟩
  | os c N kvs =>
    obtain ⟨e0, b, C, dx, vs, e, g, h1, hk, h2, m0, m1⟩ := h
    have ne : b ≠ a := fun z => fr rfl (by rw [e, z])
    exact ⟨e0, b, C, dx, vs, e, g, by rw [upd_ne ne]; exact h1, hk, Reps.mono (Same.new n1) _ _ h2, m0, by rw [upd_ne ne]; exact m1⟩
theorem Rel.at_upd {H0 F0 F H : Hp} {ρ : R} {σ : L2.St} {a : Addr} {u : HO} (r : Rel K H0 F0 F H ρ σ) (n0 : H0 a = none) (n1 : F a = none) (fr : Fr ρ σ (.ref a)) : Rel K H0 F0 (upd F a u) (upd H a u) ρ σ := by
  refine ⟨fun b o q => ?_, r.f.trans (Same.new n1), fun b o q => ?_, fun b q => ?_, r.len, fun i s q => ?_, r.ap⟩
  · rw [upd_ne (ne_of_none q n0)]; exact r.h _ _ q
  · by_cases hb : b = a
    · subst hb; rw [upd_same] at q ⊢; exact q
    · rw [upd_ne hb] at q ⊢; exact r.fh _ _ q
  · by_cases hb : b = a
    · subst hb; exact .inr n0
    · rw [upd_ne hb] at q; exact r.nw _ q
  · obtain ⟨v, q1, q2⟩ := r.at_ i s q
    exact ⟨v, q1, q2.at_upd n1 fun w z => fr i s q w (by rw [q1, z])⟩
def wiItemsC (we : W) : WA := fun ρ P => we ρ fun s ρ1 => asOD (some s) fun kvs => P (itemsD (kvs.map (·.1)) (kvs.map (·.2))) ρ1
def wiValsC (we : W) : WA := fun ρ P => we ρ fun s ρ1 => asOD (some s) fun kvs => P (kvs.map (·.2)) ρ1
def toV : D → V
  | .bl b => .bl b
  | .int i => .int i
  | .str s => .str s
  | _ => .non
def flatK : D → Bool
  | .non => true
  | .bl _ => true
  | .int _ => true
  | .str _ => true
  | _ => false
def wIndexL (wo we : W) : W := fun ρ P => wo ρ fun s ρ1 => asL s.fz fun _ => we ρ1 fun t ρ2 => asL s.fz fun xs => flatK t.fz = true ∧ xs.all flatK = true ∧ ∃ j z, xs[j]? = some z ∧ eqV (toV z) (toV t.fz) = true ∧ (∀ (m : Nat) z', m < j → xs[m]? = some z' → eqV (toV z') (toV t.fz) = false) ∧ P (.d (.int (j : Nat))) ρ2
end
end DL
set_option maxHeartbeats 2000000
namespace DL
open PySem PySem.Spec PyProof.Rows L2
section
variable {K : PySem.W.Frag} {X : Cx} {Z : Zx} {pos pos2 p p2 py : Pos} {a : Expr} {wa : W} {ta : TE}
def wDZO (wa : W) (i : Nat) : W := fun ρ P => wa ρ fun s ρ1 => asOL (nth ρ1 i) fun ys => seqsD s.fz fun xs => asA (keysD xs) fun ks => P (.od (mergeD [] (ks.zip ys))) ρ1
def wLO (i : Nat) : W := fun ρ P => asOL (nth ρ i) fun xs => P (.ol xs) ρ
end
end DL
set_option maxHeartbeats 4000000
namespace DL
open PySem L2
def zip3D (xs ys zs : List D) : List D := ((xs.zip ys).zip zs).map fun p => .tup [p.1.1, p.1.2, p.2]
def wiZip3 (wa : WA) : WA := fun ρ P => wa ρ fun ds ρ1 => match ds with
  | [x, y, z] => seqsD x fun xs => seqsD y fun ys => seqsD z fun zs => P (zip3D xs ys zs) ρ1
  | _ => False
section
variable {K : PySem.W.Frag} {X : Cx} {Z : Zx} {pos p : Pos} {a b c : Expr} {wa : WA} {ta : TA}
end
end DL
namespace DL
open PySem L2
def dataO : Option S → Option S
  | some (.d x) => some (.d x)
  | _ => none
theorem dataR_cons {o : Option S} {r : R} : dataR (o :: r) = dataO o :: dataR r := by
  rcases o with _ | (_ | _ | _) <;> rfl
theorem dataR_nil : dataR [] = [] := rfl
theorem dataO_d {x : D} : dataO (some (.d x)) = some (.d x) := rfl
theorem dataO_none : dataO none = none := rfl
theorem dataO_ol {x : List D} : dataO (some (.ol x)) = none := rfl
theorem dataO_od {x : List (Key × D)} : dataO (some (.od x)) = none := rfl
def seeO : Option S → Option S
  | some s => some (.d s.fz)
  | _ => none
theorem seeR_cons {o : Option S} {r : R} : seeR (o :: r) = seeO o :: seeR r := by cases o <;> rfl
theorem seeR_nil : seeR [] = [] := rfl
theorem seeO_d {x : D} : seeO (some (.d x)) = some (.d x) := rfl
theorem seeO_none : seeO none = none := rfl
theorem seeO_ol {x : List D} : seeO (some (.ol x)) = some (.d (.lst x)) := rfl
theorem seeO_od {x : List (Key × D)} : seeO (some (.od x)) = some (.d (.dic (x.map (·.1)) (x.map (·.2)))) := rfl
theorem atI_0 {α : Type} {x : α} {l : List α} : atI (x :: l) 0 = some x := by
  have := atI_nat (xs := x :: l) (j := 0) (v := x) rfl
  exact this
theorem atI_1 {α : Type} {x y : α} {l : List α} : atI (x :: y :: l) 1 = some y := by
  have := atI_nat (xs := x :: y :: l) (j := 1) (v := y) rfl
  exact this
theorem atI_2 {α : Type} {x y z : α} {l : List α} : atI (x :: y :: z :: l) 2 = some z := by
  have := atI_nat (xs := x :: y :: z :: l) (j := 2) (v := z) rfl
  exact this
theorem asA_some {α : Type} {b : α} {P : α → Prop} : asA (some b) P = P b := rfl
theorem asA_none {α : Type} {P : α → Prop} : asA none P = False := rfl
theorem eqX_int {i j : Int} {P : Bool → Prop} : eqX (.int i) (.int j) P = P (decide (i = j)) := rfl
theorem eqX_str {i j : Str} {P : Bool → Prop} : eqX (.str i) (.str j) P = P (decide (i = j)) := rfl
theorem eqX_bl {i j : Bool} {P : Bool → Prop} : eqX (.bl i) (.bl j) P = P (decide (i = j)) := rfl
def MonoG (wg : WG) : Prop := ∀ d ρ (P Q : R → Prop), (∀ ρ, P ρ → Q ρ) → wg d ρ P → wg d ρ Q
def MonoGs (wg : WGs) : Prop := ∀ d ρ (P Q : R → Prop), (∀ ρ, P ρ → Q ρ) → wg d ρ P → wg d ρ Q
theorem mono_name {i : Nat} : MonoG (wgName i) := fun _ _ _ _ h z => h _ z
theorem monos_nil : MonoGs wgNil := fun _ _ _ _ h z => ⟨z.1, h _ z.2⟩
theorem monos_cons {a : WG} {b : WGs} (ha : MonoG a) (hb : MonoGs b) : MonoGs (wgCons a b) := fun d ρ P Q h z => by
  cases d with
  | nil => exact z.elim
  | cons x xs => exact ha _ _ _ _ (fun ρ1 z => hb _ _ _ _ h z) z
theorem mono_tup {n : Nat} {b : WGs} (hb : MonoGs b) : MonoG (wgTup n b) := fun d ρ P Q h z => by
  unfold wgTup at z ⊢
  split at z
  · exact ⟨z.1, hb _ _ _ _ h z.2⟩
  · exact z.elim
theorem forD_map {α : Type} {f : α → D} {wg : WG} {wb : WS} {DD : DEnds} (I : List α → List α → R → Prop) (mg : MonoG wg)
    (items : List α) (step : ∀ xs x ys ρ, items = xs ++ x :: ys → I xs (x :: ys) ρ → wg (f x) ρ fun ρ1 => wb ⟨I (xs ++ [x]) ys, DD.rt, DD.nx, I (xs ++ [x]) ys⟩ ρ1) (hend : ∀ ρ, I items [] ρ → DD.nx ρ) (ρ : R) (h0 : I [] items ρ) : forD wg wb DD (items.map f) ρ := by
  have aux : ∀ (ys xs : List α) (ρ : R), items = xs ++ ys → I xs ys ρ → forD wg wb DD (ys.map f) ρ := by
    intro ys
    induction ys with
    | nil => intro xs ρ e h; rw [List.append_nil] at e; subst e; exact hend ρ h
    | cons y ys ih =>
      intro xs ρ e h
      exact mg _ _ _ _ (fun ρ1 z => ⟨I (xs ++ [y]) ys, fun ρ' h' => ih (xs ++ [y]) ρ' (by rw [e]; simp) h', z⟩) (step xs y ys ρ e h)
  exact aux items [] ρ rfl h0
theorem compD_map {α : Type} {f : α → D} {wg : WG} {wt : WT} {we : W} {ρb : R} (mg : MonoG wg) (g : α → Option D) :
    ∀ (items : List α) (P : List D → Prop), (∀ x ∈ items, ∀ Q : Option D → Prop, Q (g x) → wg (f x) ρb fun ρ1 => wt ρ1 fun b ρ2 => if b = true then we ρ2 fun s _ => Q (some s.fz) else Q none) →
      P (items.filterMap g) → compD wg wt we ρb (items.map f) P
  | [], P, h, p => p
  | x :: xs, P, h, p => by
    have ih := compD_map (f := f) (wt := wt) (we := we) (ρb := ρb) mg g xs
    rw [List.map_cons]
    show wg (f x) ρb fun ρ1 => wt ρ1 fun b ρ2 => if b = true then we ρ2 fun s _ => compD wg wt we ρb (xs.map f) fun r => P (s.fz :: r) else compD wg wt we ρb (xs.map f) P
    refine h x List.mem_cons_self (fun o => match o with
      | some d => compD wg wt we ρb (xs.map f) fun r => P (d :: r)
      | none => compD wg wt we ρb (xs.map f) P) ?_
    cases e : g x with
    | none =>
      rw [List.filterMap_cons, e] at p
      exact ih P (fun y hy => h y (List.mem_cons_of_mem _ hy)) p
    | some d =>
      rw [List.filterMap_cons, e] at p
      exact ih (fun r => P (d :: r)) (fun y hy => h y (List.mem_cons_of_mem _ hy)) p
def fD (a : List Str) : D := .tup (a.map .str)
def asF (d : D) (P : List Str → Prop) : Prop := match d with
  | .tup xs => asA (txts xs) P
  | _ => False
theorem asF_fD {a : List Str} {P : List Str → Prop} : asF (fD a) P = P a := by
  show asA (txts (a.map D.str)) P = _
  rw [txts_map]; rfl
theorem len0 : sizeLine = 16777216 := rfl
theorem txts_eq : ∀ {ds : List D} {bs : List Str}, txts ds = some bs → ds = bs.map D.str
  | [], bs, e => by cases e; rfl
  | d :: ds, bs, e => by
    cases d <;> first | (cases (show (none : Option (List Str)) = some bs from e)) | skip
    rename_i b
    rw [txts] at e
    cases q : txts ds with
    | none => rw [q] at e; cases e
    | some cs => rw [q] at e; cases e; rw [txts_eq q]; rfl
def sp_gathered : DSp := fun ds P _ => match ds with
  | [.lst xs] => asA (txts xs) fun a => a.length ≤ 1048576 ∧ P (.d (fD (gath a)))
  | _ => False
def kvT (l : List Str) : List (Key × D) := l.map fun p => (.inr p, .bl true)
theorem vget_kvT {l : List Str} {p : Str} : vget (kvT l) (.inr p) = if p ∈ l then some (.bl true) else none := by
  induction l with
  | nil => rfl
  | cons q l ih =>
    unfold vget kvT at ih ⊢
    rw [List.map_cons, List.find?_cons]
    by_cases h : q = p
    · subst h; simp
    · have e : decide ((Sum.inr q : Key) = .inr p) = false := decide_eq_false fun z => h (Sum.inr.inj z)
      simp only [e]
      rw [ih]
      have : p ∈ q :: l ↔ p ∈ l := by simp [Ne.symm h]
      simp only [this]
theorem vdrop_kvT {l : List Str} {p : Str} : vdrop (kvT l) (.inr p) = kvT (l.filter fun y => decide (y ≠ p)) := by
  unfold vdrop kvT
  rw [List.filter_map]
  congr 1
  apply List.filter_congr
  intro y _
  simp [Function.comp]
theorem vput_kvT {l : List Str} {p : Str} (h : p ∉ l) : vput (kvT l) (.inr p) (.bl true) = kvT (l ++ [p]) := by
  unfold vput
  have : ((kvT l).any fun kv => decide (kv.1 = (.inr p : Key))) = false := by
    rw [List.any_eq_false]
    intro kv hkv
    obtain ⟨q, hq, rfl⟩ := List.mem_map.mp hkv
    simp only [decide_eq_true_eq]
    exact fun z => h (Sum.inr.inj z ▸ hq)
  rw [this]
  simp [kvT]
theorem txtKeys_kvT {l : List Str} : txtKeys ((kvT l).map (·.1)) = some l := by
  rw [kvT, List.map_map]
  exact txtKeys_map l
abbrev N_gathered : List Str := ["products", "odd", "product"]
def w_gathered_t2 : WS := (wRet (wCB oTuple (wCons (wSortK (wVar 1)) wNil)))
def w_gathered_t1 : WS := wSeq (wFor (wiX (wVar 0)) (wgName 2)
      (wIfS (wLendT (wB (wOp (oInX false) (wVar 2) (wVar 1)))) (wDrop (wDPop 1 (wVar 2))) (wDPut 1 (wVar 2) (wC (.bl true)))))
    w_gathered_t2
def w_gathered : WS := wSeq (wSet 1 wDict0)
    w_gathered_t1
theorem len_gathered {ds Q px} (h : sp_gathered ds Q px) : ds.length = 1 := by unfold sp_gathered at h; split at h <;> first | rfl | exact h.elim
theorem rd_gathered {ds Q px} (h : sp_gathered ds Q px) : w_gathered ⟨fun _ => Q (.d .non), Q, fun _ => False, fun _ => False⟩ (startR N_gathered ds) := by
  unfold sp_gathered at h
  split at h
  · rename_i xs
    obtain ⟨a, e, hl, hq⟩ := asA_of h
    clear h
    have ex := txts_eq e
    subst ex
    unfold w_gathered
    simp only [N_gathered, w_gathered_t1, w_gathered_t2, wSeq, wSet, wAsg, wC, wIfS, wB, wOp, oI, oI0, asI, asS, asL, asLT, asT, asB, asA_some, asA_none, asO, asOL, asOD, asKey, asDic, asSq, oLen, oMod, oAdd, oSub, oMul, oDiv, oMax, oMin, oPlus, oEqX, oNeX, eqX_int, eqX_str, eqX_bl, oCmp, oLtX, oLeX, oGtX, oGeX, oIxX, oInX, wCB, wCons, wNil, wVar, wMove, nth, put, startR, wNext, wRet, wRetN, wDrop, wFor, wiR1, wiR2, wiX, itemsOf, wgName, wgTup, wgCons, wgNil, wLend, wLendT, seeR_cons, seeR_nil, seeO_d, seeO_none, seeO_ol, seeO_od, wJoin, wM, oAppend, oPop, oPopAt, wDPut, wDPop, wSortK, wDict0, wTup, wLst, wCall, wAnd, wOr, wNot, wAndV, wOrV, wNotV, wIf, wYes, wLc, wiEnumX, oListX, oTuple, oSort, oSortSet, oAll, oAny, S.fz, S.own, D.flat, txts_map, bools_map, txtKeys_map, List.length_map, List.map_cons, List.map_nil, List.length_cons, List.length_nil, List.cons_append, List.nil_append, List.replicate, decide_eq_true_eq, Bool.not_eq_true', Bool.not_true, Bool.not_false, if_true, if_false, Nat.zero_add, Nat.reduceAdd, Nat.reduceSub, ge_iff_le, true_and, and_true, zip_unzip, Bool.false_xor, Bool.true_xor, Bool.false_eq_true, Bool.true_eq_false, reduceIte, wipeR, dataR_cons, dataR_nil, dataO_d, dataO_none, dataO_ol, dataO_od, oDict, oIsi, tyD, isiB, wSl, wPart, wNoP, oSl, wDisp1, wDGet2, oRemove, atI_0, atI_1, atI_2, wiRev, revItems, oDictP, wForK, wiKeys, kD, oSortX, oPow, oBitAnd, oShl, oNeg, wUn, oInt, oStr, oDivmod, oIs, isD, wChain, wFz, wFzE, frzR, wLSet, wiZip, seqsD, wiVals, wiItems, wOIx, wNo, Option.isSome_some, oMulX, wM1, oSplit, oPart, oStrip1, oRep, oSum, intsD, wRaise, wLI, wLK
, wiR3, wLR, wDisp, wPairs, oReverse, oClear, oInsert, wRevL, wDZ, seqLT, oSortIT, wOFld, wSFld, asOI, setOI, putG, wPar, wiItemsC, wiValsC, wIndexL, wDZO, wLO, wiZip3]
    refine forD_map (I := fun done _ ρ => ∃ o, ρ = [some (.d (.lst (a.map .str))), some (.od (kvT (done.foldl tog []))), o]) mono_name a (fun done x ys ρ he hI => ?_) (fun ρ hI => ?_) _ ⟨none, rfl⟩
    · obtain ⟨o, rfl⟩ := hI
      have hl2 : (kvT (done.foldl tog [])).length ≤ done.length := by
        unfold kvT
        rw [List.length_map]; exact odds_len done
      have hfold : (done ++ [x]).foldl tog [] = tog (done.foldl tog []) x := by rw [List.foldl_append]; rfl
      simp only [w_gathered_t1, w_gathered_t2, wSeq, wSet, wAsg, wC, wIfS, wB, wOp, oI, oI0, asI, asS, asL, asLT, asT, asB, asA_some, asA_none, asO, asOL, asOD, asKey, asDic, asSq, oLen, oMod, oAdd, oSub, oMul, oDiv, oMax, oMin, oPlus, oEqX, oNeX, eqX_int, eqX_str, eqX_bl, oCmp, oLtX, oLeX, oGtX, oGeX, oIxX, oInX, wCB, wCons, wNil, wVar, wMove, nth, put, startR, wNext, wRet, wRetN, wDrop, wFor, wiR1, wiR2, wiX, itemsOf, wgName, wgTup, wgCons, wgNil, wLend, wLendT, seeR_cons, seeR_nil, seeO_d, seeO_none, seeO_ol, seeO_od, wJoin, wM, oAppend, oPop, oPopAt, wDPut, wDPop, wSortK, wDict0, wTup, wLst, wCall, wAnd, wOr, wNot, wAndV, wOrV, wNotV, wIf, wYes, wLc, wiEnumX, oListX, oTuple, oSort, oSortSet, oAll, oAny, S.fz, S.own, D.flat, txts_map, bools_map, txtKeys_map, List.length_map, List.map_cons, List.map_nil, List.length_cons, List.length_nil, List.cons_append, List.nil_append, List.replicate, decide_eq_true_eq, Bool.not_eq_true', Bool.not_true, Bool.not_false, if_true, if_false, Nat.zero_add, Nat.reduceAdd, Nat.reduceSub, ge_iff_le, true_and, and_true, zip_unzip, Bool.false_xor, Bool.true_xor, Bool.false_eq_true, Bool.true_eq_false, reduceIte, wipeR, dataR_cons, dataR_nil, dataO_d, dataO_none, dataO_ol, dataO_od, oDict, oIsi, tyD, isiB, wSl, wPart, wNoP, oSl, wDisp1, wDGet2, oRemove, atI_0, atI_1, atI_2, wiRev, revItems, oDictP, wForK, wiKeys, kD, oSortX, oPow, oBitAnd, oShl, oNeg, wUn, oInt, oStr, oDivmod, oIs, isD, wChain, wFz, wFzE, frzR, wLSet, wiZip, seqsD, wiVals, wiItems, wOIx, wNo, Option.isSome_some, oMulX, wM1, oSplit, oPart, oStrip1, oRep, oSum, intsD, wRaise, wLI, wLK
, wiR3, wLR, wDisp, wPairs, oReverse, oClear, oInsert, wRevL, wDZ, seqLT, oSortIT, wOFld, wSFld, asOI, setOI, putG, wPar, wiItemsC, wiValsC, wIndexL, wDZO, wLO, wiZip3, vget_kvT, vdrop_kvT, hfold]
      by_cases hx : x ∈ done.foldl tog []
      · simp only [if_pos hx, Option.isSome_some, if_true, tog]
        exact ⟨_, rfl⟩
      · simp only [if_neg hx, Option.isSome_none, Bool.false_eq_true, if_false, vput_kvT hx, tog]
        refine ⟨?_, _, rfl⟩
        have := congrArg List.length he
        rw [List.length_append, List.length_cons] at this
        rw [len0]; omega
    · obtain ⟨o, rfl⟩ := hI
      simp only [w_gathered_t1, w_gathered_t2, wSeq, wSet, wAsg, wC, wIfS, wB, wOp, oI, oI0, asI, asS, asL, asLT, asT, asB, asA_some, asA_none, asO, asOL, asOD, asKey, asDic, asSq, oLen, oMod, oAdd, oSub, oMul, oDiv, oMax, oMin, oPlus, oEqX, oNeX, eqX_int, eqX_str, eqX_bl, oCmp, oLtX, oLeX, oGtX, oGeX, oIxX, oInX, wCB, wCons, wNil, wVar, wMove, nth, put, startR, wNext, wRet, wRetN, wDrop, wFor, wiR1, wiR2, wiX, itemsOf, wgName, wgTup, wgCons, wgNil, wLend, wLendT, seeR_cons, seeR_nil, seeO_d, seeO_none, seeO_ol, seeO_od, wJoin, wM, oAppend, oPop, oPopAt, wDPut, wDPop, wSortK, wDict0, wTup, wLst, wCall, wAnd, wOr, wNot, wAndV, wOrV, wNotV, wIf, wYes, wLc, wiEnumX, oListX, oTuple, oSort, oSortSet, oAll, oAny, S.fz, S.own, D.flat, txts_map, bools_map, txtKeys_map, List.length_map, List.map_cons, List.map_nil, List.length_cons, List.length_nil, List.cons_append, List.nil_append, List.replicate, decide_eq_true_eq, Bool.not_eq_true', Bool.not_true, Bool.not_false, if_true, if_false, Nat.zero_add, Nat.reduceAdd, Nat.reduceSub, ge_iff_le, true_and, and_true, zip_unzip, Bool.false_xor, Bool.true_xor, Bool.false_eq_true, Bool.true_eq_false, reduceIte, wipeR, dataR_cons, dataR_nil, dataO_d, dataO_none, dataO_ol, dataO_od, oDict, oIsi, tyD, isiB, wSl, wPart, wNoP, oSl, wDisp1, wDGet2, oRemove, atI_0, atI_1, atI_2, wiRev, revItems, oDictP, wForK, wiKeys, kD, oSortX, oPow, oBitAnd, oShl, oNeg, wUn, oInt, oStr, oDivmod, oIs, isD, wChain, wFz, wFzE, frzR, wLSet, wiZip, seqsD, wiVals, wiItems, wOIx, wNo, Option.isSome_some, oMulX, wM1, oSplit, oPart, oStrip1, oRep, oSum, intsD, wRaise, wLI, wLK
, wiR3, wLR, wDisp, wPairs, oReverse, oClear, oInsert, wRevL, wDZ, seqLT, oSortIT, wOFld, wSFld, asOI, setOI, putG, wPar, wiItemsC, wiValsC, wIndexL, wDZO, wLO, wiZip3, txtKeys_kvT]
      exact hq
  · exact h.elim
def sp_added : DSp := fun ds P _ => match ds with
  | [x, y] => asF x fun a => asF y fun b => (a.length ≤ 262144 ∧ b.length ≤ 262144) ∧ P (.d (fD (addedF a b)))
  | _ => False
theorem asF_of {d : D} {P : List Str → Prop} (h : asF d P) : ∃ a, d = fD a ∧ P a := by
  unfold asF at h
  split at h
  · obtain ⟨a, e, h⟩ := asA_of h
    exact ⟨a, by rw [txts_eq e]; rfl, h⟩
  · exact h.elim
abbrev N_added : List Str := ["one", "other"]
def w_added : WS := (wRet (wCall sp_gathered (fun _ _ => False) (wCons (wOp oPlus (wCB oListX (wCons (wVar 0) wNil)) (wCB oListX (wCons (wVar 1) wNil))) wNil)))
theorem len_added {ds Q px} (h : sp_added ds Q px) : ds.length = 2 := by unfold sp_added at h; split at h <;> first | rfl | exact h.elim
theorem rd_added {ds Q px} (h : sp_added ds Q px) : w_added ⟨fun _ => Q (.d .non), Q, fun _ => False, fun _ => False⟩ (startR N_added ds) := by
  unfold sp_added at h
  split at h
  · obtain ⟨a, rfl, g⟩ := asF_of h
    obtain ⟨b, rfl, ⟨h1, h2⟩, hq⟩ := asF_of g
    clear h g
    unfold w_added
    simp only [N_added, fD, wSeq, wSet, wAsg, wC, wIfS, wB, wOp, oI, oI0, asI, asS, asL, asLT, asT, asB, asA_some, asA_none, asO, asOL, asOD, asKey, asDic, asSq, oLen, oMod, oAdd, oSub, oMul, oDiv, oMax, oMin, oPlus, oEqX, oNeX, eqX_int, eqX_str, eqX_bl, oCmp, oLtX, oLeX, oGtX, oGeX, oIxX, oInX, wCB, wCons, wNil, wVar, wMove, nth, put, startR, wNext, wRet, wRetN, wDrop, wFor, wiR1, wiR2, wiX, itemsOf, wgName, wgTup, wgCons, wgNil, wLend, wLendT, seeR_cons, seeR_nil, seeO_d, seeO_none, seeO_ol, seeO_od, wJoin, wM, oAppend, oPop, oPopAt, wDPut, wDPop, wSortK, wDict0, wTup, wLst, wCall, wAnd, wOr, wNot, wAndV, wOrV, wNotV, wIf, wYes, wLc, wiEnumX, oListX, oTuple, oSort, oSortSet, oAll, oAny, S.fz, S.own, D.flat, txts_map, bools_map, txtKeys_map, List.length_map, List.map_cons, List.map_nil, List.length_cons, List.length_nil, List.cons_append, List.nil_append, List.replicate, decide_eq_true_eq, Bool.not_eq_true', Bool.not_true, Bool.not_false, if_true, if_false, Nat.zero_add, Nat.reduceAdd, Nat.reduceSub, ge_iff_le, true_and, and_true, zip_unzip, Bool.false_xor, Bool.true_xor, Bool.false_eq_true, Bool.true_eq_false, reduceIte, wipeR, dataR_cons, dataR_nil, dataO_d, dataO_none, dataO_ol, dataO_od, oDict, oIsi, tyD, isiB, wSl, wPart, wNoP, oSl, wDisp1, wDGet2, oRemove, atI_0, atI_1, atI_2, wiRev, revItems, oDictP, wForK, wiKeys, kD, oSortX, oPow, oBitAnd, oShl, oNeg, wUn, oInt, oStr, oDivmod, oIs, isD, wChain, wFz, wFzE, frzR, wLSet, wiZip, seqsD, wiVals, wiItems, wOIx, wNo, Option.isSome_some, oMulX, wM1, oSplit, oPart, oStrip1, oRep, oSum, intsD, wRaise, wLI, wLK
, wiR3, wLR, wDisp, wPairs, oReverse, oClear, oInsert, wRevL, wDZ, seqLT, oSortIT, wOFld, wSFld, asOI, setOI, putG, wPar, wiItemsC, wiValsC, wIndexL, wDZO, wLO, wiZip3, sp_gathered]
    rw [← List.map_append]
    simp only [txts_map, asA_some, List.length_append]
    exact ⟨by rw [len0]; omega, by omega, hq⟩
  · exact h.elim
def sp_both_letters : DSp := fun ds P _ => match ds with
  | [x, y] => asS x fun p => asS y fun q => ((sg p).length ≤ 1000 ∧ (sg q).length ≤ 1000) ∧ P (.d (.str (bothF p q)))
  | _ => False
theorem srtset_len (xs : List Str) : (srtset xs).length ≤ xs.length := by
  unfold srtset
  rw [(srt_perm _).length_eq]
  exact (nodup_met xs).length_le_of_subset fun x hx => mem_met.mp hx
theorem ones_sum : ∀ cs : List Nat, ((cs.map one).map (·.length)).sum = cs.length
  | [] => rfl
  | c :: cs => by
    rw [List.map_cons, List.map_cons, List.sum_cons, ones_sum cs, List.length_cons]
    show 1 + _ = _
    omega
theorem lets_fit {z : Str} (h : (sg z).length ≤ 100000) : ((srtset (signs z)).map (·.length)).sum + (srtset (signs z)).length * (Str.length "") ≤ 16777216 := by
  have h1 := srtset_len (signs z)
  obtain ⟨cs, e, _, _⟩ := srtset_signs z
  rw [e] at h1 ⊢
  rw [ones_sum]
  rw [List.length_map] at h1
  have h2 : (signs z).length = (sg z).length := by simp [signs, sg]
  have h3 : Str.length "" = 0 := by decide +kernel
  rw [h3, Nat.mul_zero]
  omega
abbrev N_both_letters : List Str := ["one", "other"]
def w_both_letters : WS := (wRet (wJoin (wC (.str "")) (wCB oSortSet (wCons (wOp oPlus (wVar 0) (wVar 1)) wNil))))
theorem len_both_letters {ds Q px} (h : sp_both_letters ds Q px) : ds.length = 2 := by unfold sp_both_letters at h; split at h <;> first | rfl | exact h.elim
theorem rd_both_letters {ds Q px} (h : sp_both_letters ds Q px) : w_both_letters ⟨fun _ => Q (.d .non), Q, fun _ => False, fun _ => False⟩ (startR N_both_letters ds) := by
  unfold sp_both_letters at h
  split at h
  · rename_i x y
    cases x <;> first | exact h.elim | skip
    cases y <;> first | exact h.elim | skip
    rename_i p q
    obtain ⟨⟨h1, h2⟩, hq⟩ := h
    unfold w_both_letters
    simp only [N_both_letters, wSeq, wSet, wAsg, wC, wIfS, wB, wOp, oI, oI0, asI, asS, asL, asLT, asT, asB, asA_some, asA_none, asO, asOL, asOD, asKey, asDic, asSq, oLen, oMod, oAdd, oSub, oMul, oDiv, oMax, oMin, oPlus, oEqX, oNeX, eqX_int, eqX_str, eqX_bl, oCmp, oLtX, oLeX, oGtX, oGeX, oIxX, oInX, wCB, wCons, wNil, wVar, wMove, nth, put, startR, wNext, wRet, wRetN, wDrop, wFor, wiR1, wiR2, wiX, itemsOf, wgName, wgTup, wgCons, wgNil, wLend, wLendT, seeR_cons, seeR_nil, seeO_d, seeO_none, seeO_ol, seeO_od, wJoin, wM, oAppend, oPop, oPopAt, wDPut, wDPop, wSortK, wDict0, wTup, wLst, wCall, wAnd, wOr, wNot, wAndV, wOrV, wNotV, wIf, wYes, wLc, wiEnumX, oListX, oTuple, oSort, oSortSet, oAll, oAny, S.fz, S.own, D.flat, txts_map, bools_map, txtKeys_map, List.length_map, List.map_cons, List.map_nil, List.length_cons, List.length_nil, List.cons_append, List.nil_append, List.replicate, decide_eq_true_eq, Bool.not_eq_true', Bool.not_true, Bool.not_false, if_true, if_false, Nat.zero_add, Nat.reduceAdd, Nat.reduceSub, ge_iff_le, true_and, and_true, zip_unzip, Bool.false_xor, Bool.true_xor, Bool.false_eq_true, Bool.true_eq_false, reduceIte, wipeR, dataR_cons, dataR_nil, dataO_d, dataO_none, dataO_ol, dataO_od, oDict, oIsi, tyD, isiB, wSl, wPart, wNoP, oSl, wDisp1, wDGet2, oRemove, atI_0, atI_1, atI_2, wiRev, revItems, oDictP, wForK, wiKeys, kD, oSortX, oPow, oBitAnd, oShl, oNeg, wUn, oInt, oStr, oDivmod, oIs, isD, wChain, wFz, wFzE, frzR, wLSet, wiZip, seqsD, wiVals, wiItems, wOIx, wNo, Option.isSome_some, oMulX, wM1, oSplit, oPart, oStrip1, oRep, oSum, intsD, wRaise, wLI, wLK
, wiR3, wLR, wDisp, wPairs, oReverse, oClear, oInsert, wRevL, wDZ, seqLT, oSortIT, wOFld, wSFld, asOI, setOI, putG, wPar, wiItemsC, wiValsC, wIndexL, wDZO, wLO, wiZip3]
    have e : (sg (p ++ q)).length ≤ 2000 := by rw [sg_append, List.length_append]; omega
    refine ⟨by rw [len0, sg_len, sg_len]; omega, by rw [sg_len]; show _ < 4096; omega, lets_fit (by omega), hq⟩
  · exact h.elim
def sp_multiplied : DSp := fun ds P _ => match ds with
  | [x, y] => asF x fun a => asF y fun b => (Frm a ∧ Frm b) ∧ P (.d (fD (mulF a b)))
  | _ => False
abbrev N_multiplied : List Str := ["one", "other", "products", "product", "factor"]
def w_multiplied_t2 : WS := (wRet (wCall sp_gathered (fun _ _ => False) (wCons (wVar 2) wNil)))
def w_multiplied_t1 : WS := wSeq (wFor (wiX (wVar 0)) (wgName 3)
      (wFor (wiX (wVar 1)) (wgName 4)
      (wDrop (wM 2 oAppend (wCons (wCall sp_both_letters (fun _ _ => False) (wCons (wVar 3) (wCons (wVar 4) wNil))) wNil)))))
    w_multiplied_t2
def w_multiplied : WS := wSeq (wSet 2 (wLst wNil))
    w_multiplied_t1
theorem len_multiplied {ds Q px} (h : sp_multiplied ds Q px) : ds.length = 2 := by unfold sp_multiplied at h; split at h <;> first | rfl | exact h.elim
theorem pairsF_snoc (a b : List Str) (p : Str) : pairsF (a ++ [p]) b = pairsF a b ++ b.map (bothF p) := by simp [pairsF]
theorem rd_multiplied {ds Q px} (h : sp_multiplied ds Q px) : w_multiplied ⟨fun _ => Q (.d .non), Q, fun _ => False, fun _ => False⟩ (startR N_multiplied ds) := by
  unfold sp_multiplied at h
  split at h
  · obtain ⟨a, rfl, g⟩ := asF_of h
    obtain ⟨b, rfl, ⟨ha, hb⟩, hq⟩ := asF_of g
    clear h g
    unfold w_multiplied
    simp only [N_multiplied, fD, w_multiplied_t1, w_multiplied_t2, wSeq, wSet, wAsg, wC, wIfS, wB, wOp, oI, oI0, asI, asS, asL, asLT, asT, asB, asA_some, asA_none, asO, asOL, asOD, asKey, asDic, asSq, oLen, oMod, oAdd, oSub, oMul, oDiv, oMax, oMin, oPlus, oEqX, oNeX, eqX_int, eqX_str, eqX_bl, oCmp, oLtX, oLeX, oGtX, oGeX, oIxX, oInX, wCB, wCons, wNil, wVar, wMove, nth, put, startR, wNext, wRet, wRetN, wDrop, wFor, wiR1, wiR2, wiX, itemsOf, wgName, wgTup, wgCons, wgNil, wLend, wLendT, seeR_cons, seeR_nil, seeO_d, seeO_none, seeO_ol, seeO_od, wJoin, wM, oAppend, oPop, oPopAt, wDPut, wDPop, wSortK, wDict0, wTup, wLst, wCall, wAnd, wOr, wNot, wAndV, wOrV, wNotV, wIf, wYes, wLc, wiEnumX, oListX, oTuple, oSort, oSortSet, oAll, oAny, S.fz, S.own, D.flat, txts_map, bools_map, txtKeys_map, List.length_map, List.map_cons, List.map_nil, List.length_cons, List.length_nil, List.cons_append, List.nil_append, List.replicate, decide_eq_true_eq, Bool.not_eq_true', Bool.not_true, Bool.not_false, if_true, if_false, Nat.zero_add, Nat.reduceAdd, Nat.reduceSub, ge_iff_le, true_and, and_true, zip_unzip, Bool.false_xor, Bool.true_xor, Bool.false_eq_true, Bool.true_eq_false, reduceIte, wipeR, dataR_cons, dataR_nil, dataO_d, dataO_none, dataO_ol, dataO_od, oDict, oIsi, tyD, isiB, wSl, wPart, wNoP, oSl, wDisp1, wDGet2, oRemove, atI_0, atI_1, atI_2, wiRev, revItems, oDictP, wForK, wiKeys, kD, oSortX, oPow, oBitAnd, oShl, oNeg, wUn, oInt, oStr, oDivmod, oIs, isD, wChain, wFz, wFzE, frzR, wLSet, wiZip, seqsD, wiVals, wiItems, wOIx, wNo, Option.isSome_some, oMulX, wM1, oSplit, oPart, oStrip1, oRep, oSum, intsD, wRaise, wLI, wLK
, wiR3, wLR, wDisp, wPairs, oReverse, oClear, oInsert, wRevL, wDZ, seqLT, oSortIT, wOFld, wSFld, asOI, setOI, putG, wPar, wiItemsC, wiValsC, wIndexL, wDZO, wLO, wiZip3]
    refine ⟨by decide, ?_⟩
    have la := ha.len
    have lb := hb.len
    refine forD_map (I := fun done _ ρ => ∃ o1 o2, ρ = [some (.d (.tup (a.map .str))), some (.d (.tup (b.map .str))), some (.ol ((pairsF done b).map .str)), o1, o2]) mono_name a (fun done p ys ρ he hI => ?_) (fun ρ hI => ?_) _ ⟨none, none, rfl⟩
    · obtain ⟨o1, o2, rfl⟩ := hI
      have hp : Prd p := ha.prd p (by rw [he]; simp)
      have l1 := congrArg List.length he
      rw [List.length_append, List.length_cons] at l1
      simp only [fD, w_multiplied_t1, w_multiplied_t2, wSeq, wSet, wAsg, wC, wIfS, wB, wOp, oI, oI0, asI, asS, asL, asLT, asT, asB, asA_some, asA_none, asO, asOL, asOD, asKey, asDic, asSq, oLen, oMod, oAdd, oSub, oMul, oDiv, oMax, oMin, oPlus, oEqX, oNeX, eqX_int, eqX_str, eqX_bl, oCmp, oLtX, oLeX, oGtX, oGeX, oIxX, oInX, wCB, wCons, wNil, wVar, wMove, nth, put, startR, wNext, wRet, wRetN, wDrop, wFor, wiR1, wiR2, wiX, itemsOf, wgName, wgTup, wgCons, wgNil, wLend, wLendT, seeR_cons, seeR_nil, seeO_d, seeO_none, seeO_ol, seeO_od, wJoin, wM, oAppend, oPop, oPopAt, wDPut, wDPop, wSortK, wDict0, wTup, wLst, wCall, wAnd, wOr, wNot, wAndV, wOrV, wNotV, wIf, wYes, wLc, wiEnumX, oListX, oTuple, oSort, oSortSet, oAll, oAny, S.fz, S.own, D.flat, txts_map, bools_map, txtKeys_map, List.length_map, List.map_cons, List.map_nil, List.length_cons, List.length_nil, List.cons_append, List.nil_append, List.replicate, decide_eq_true_eq, Bool.not_eq_true', Bool.not_true, Bool.not_false, if_true, if_false, Nat.zero_add, Nat.reduceAdd, Nat.reduceSub, ge_iff_le, true_and, and_true, zip_unzip, Bool.false_xor, Bool.true_xor, Bool.false_eq_true, Bool.true_eq_false, reduceIte, wipeR, dataR_cons, dataR_nil, dataO_d, dataO_none, dataO_ol, dataO_od, oDict, oIsi, tyD, isiB, wSl, wPart, wNoP, oSl, wDisp1, wDGet2, oRemove, atI_0, atI_1, atI_2, wiRev, revItems, oDictP, wForK, wiKeys, kD, oSortX, oPow, oBitAnd, oShl, oNeg, wUn, oInt, oStr, oDivmod, oIs, isD, wChain, wFz, wFzE, frzR, wLSet, wiZip, seqsD, wiVals, wiItems, wOIx, wNo, Option.isSome_some, oMulX, wM1, oSplit, oPart, oStrip1, oRep, oSum, intsD, wRaise, wLI, wLK
, wiR3, wLR, wDisp, wPairs, oReverse, oClear, oInsert, wRevL, wDZ, seqLT, oSortIT, wOFld, wSFld, asOI, setOI, putG, wPar, wiItemsC, wiValsC, wIndexL, wDZO, wLO, wiZip3]
      refine forD_map (I := fun done2 _ ρ => ∃ o2, ρ = [some (.d (.tup (a.map .str))), some (.d (.tup (b.map .str))), some (.ol ((pairsF done b ++ done2.map (bothF p)).map .str)), some (.d (.str p)), o2]) mono_name b (fun done2 q ys2 ρ he2 hI => ?_) (fun ρ hI => ?_) _ ⟨o2, by rw [List.map_nil, List.append_nil]⟩
      · obtain ⟨o2, rfl⟩ := hI
        have hq2 : Prd q := hb.prd q (by rw [he2]; simp)
        have l2 := congrArg List.length he2
        rw [List.length_append, List.length_cons] at l2
        simp only [w_multiplied_t1, w_multiplied_t2, wSeq, wSet, wAsg, wC, wIfS, wB, wOp, oI, oI0, asI, asS, asL, asLT, asT, asB, asA_some, asA_none, asO, asOL, asOD, asKey, asDic, asSq, oLen, oMod, oAdd, oSub, oMul, oDiv, oMax, oMin, oPlus, oEqX, oNeX, eqX_int, eqX_str, eqX_bl, oCmp, oLtX, oLeX, oGtX, oGeX, oIxX, oInX, wCB, wCons, wNil, wVar, wMove, nth, put, startR, wNext, wRet, wRetN, wDrop, wFor, wiR1, wiR2, wiX, itemsOf, wgName, wgTup, wgCons, wgNil, wLend, wLendT, seeR_cons, seeR_nil, seeO_d, seeO_none, seeO_ol, seeO_od, wJoin, wM, oAppend, oPop, oPopAt, wDPut, wDPop, wSortK, wDict0, wTup, wLst, wCall, wAnd, wOr, wNot, wAndV, wOrV, wNotV, wIf, wYes, wLc, wiEnumX, oListX, oTuple, oSort, oSortSet, oAll, oAny, S.fz, S.own, D.flat, txts_map, bools_map, txtKeys_map, List.length_map, List.map_cons, List.map_nil, List.length_cons, List.length_nil, List.cons_append, List.nil_append, List.replicate, decide_eq_true_eq, Bool.not_eq_true', Bool.not_true, Bool.not_false, if_true, if_false, Nat.zero_add, Nat.reduceAdd, Nat.reduceSub, ge_iff_le, true_and, and_true, zip_unzip, Bool.false_xor, Bool.true_xor, Bool.false_eq_true, Bool.true_eq_false, reduceIte, wipeR, dataR_cons, dataR_nil, dataO_d, dataO_none, dataO_ol, dataO_od, oDict, oIsi, tyD, isiB, wSl, wPart, wNoP, oSl, wDisp1, wDGet2, oRemove, atI_0, atI_1, atI_2, wiRev, revItems, oDictP, wForK, wiKeys, kD, oSortX, oPow, oBitAnd, oShl, oNeg, wUn, oInt, oStr, oDivmod, oIs, isD, wChain, wFz, wFzE, frzR, wLSet, wiZip, seqsD, wiVals, wiItems, wOIx, wNo, Option.isSome_some, oMulX, wM1, oSplit, oPart, oStrip1, oRep, oSum, intsD, wRaise, wLI, wLK
, wiR3, wLR, wDisp, wPairs, oReverse, oClear, oInsert, wRevL, wDZ, seqLT, oSortIT, wOFld, wSFld, asOI, setOI, putG, wPar, wiItemsC, wiValsC, wIndexL, wDZO, wLO, wiZip3, sp_both_letters]
        refine ⟨⟨by have := hp.len; omega, by have := hq2.len; omega⟩, ?_, some (.d (.str q)), ?_⟩
        · rw [List.length_append, List.length_map, pairs_len, len0]
          have : done.length * b.length ≤ 512 * 512 := Nat.mul_le_mul (by omega) lb
          omega
        · simp
      · obtain ⟨o2, rfl⟩ := hI
        exact ⟨_, _, by rw [pairsF_snoc]⟩
    · obtain ⟨o1, o2, rfl⟩ := hI
      simp only [w_multiplied_t1, w_multiplied_t2, wSeq, wSet, wAsg, wC, wIfS, wB, wOp, oI, oI0, asI, asS, asL, asLT, asT, asB, asA_some, asA_none, asO, asOL, asOD, asKey, asDic, asSq, oLen, oMod, oAdd, oSub, oMul, oDiv, oMax, oMin, oPlus, oEqX, oNeX, eqX_int, eqX_str, eqX_bl, oCmp, oLtX, oLeX, oGtX, oGeX, oIxX, oInX, wCB, wCons, wNil, wVar, wMove, nth, put, startR, wNext, wRet, wRetN, wDrop, wFor, wiR1, wiR2, wiX, itemsOf, wgName, wgTup, wgCons, wgNil, wLend, wLendT, seeR_cons, seeR_nil, seeO_d, seeO_none, seeO_ol, seeO_od, wJoin, wM, oAppend, oPop, oPopAt, wDPut, wDPop, wSortK, wDict0, wTup, wLst, wCall, wAnd, wOr, wNot, wAndV, wOrV, wNotV, wIf, wYes, wLc, wiEnumX, oListX, oTuple, oSort, oSortSet, oAll, oAny, S.fz, S.own, D.flat, txts_map, bools_map, txtKeys_map, List.length_map, List.map_cons, List.map_nil, List.length_cons, List.length_nil, List.cons_append, List.nil_append, List.replicate, decide_eq_true_eq, Bool.not_eq_true', Bool.not_true, Bool.not_false, if_true, if_false, Nat.zero_add, Nat.reduceAdd, Nat.reduceSub, ge_iff_le, true_and, and_true, zip_unzip, Bool.false_xor, Bool.true_xor, Bool.false_eq_true, Bool.true_eq_false, reduceIte, wipeR, dataR_cons, dataR_nil, dataO_d, dataO_none, dataO_ol, dataO_od, oDict, oIsi, tyD, isiB, wSl, wPart, wNoP, oSl, wDisp1, wDGet2, oRemove, atI_0, atI_1, atI_2, wiRev, revItems, oDictP, wForK, wiKeys, kD, oSortX, oPow, oBitAnd, oShl, oNeg, wUn, oInt, oStr, oDivmod, oIs, isD, wChain, wFz, wFzE, frzR, wLSet, wiZip, seqsD, wiVals, wiItems, wOIx, wNo, Option.isSome_some, oMulX, wM1, oSplit, oPart, oStrip1, oRep, oSum, intsD, wRaise, wLI, wLK
, wiR3, wLR, wDisp, wPairs, oReverse, oClear, oInsert, wRevL, wDZ, seqLT, oSortIT, wOFld, wSFld, asOI, setOI, putG, wPar, wiItemsC, wiValsC, wIndexL, wDZO, wLO, wiZip3, sp_gathered, pairs_len]
      refine ⟨?_, hq⟩
      have : a.length * b.length ≤ 512 * 512 := Nat.mul_le_mul la lb
      omega
  · exact h.elim
def sp_opposite : DSp := fun ds P _ => match ds with
  | [x] => asF x fun a => Frm a ∧ P (.d (fD (oppF a)))
  | _ => False
abbrev N_opposite : List Str := ["form"]
def w_opposite : WS := (wRet (wCall sp_added (fun _ _ => False) (wCons (wVar 0) (wCons (wTup (wCons (wC (.str "")) wNil)) wNil))))
theorem len_opposite {ds Q px} (h : sp_opposite ds Q px) : ds.length = 1 := by unfold sp_opposite at h; split at h <;> first | rfl | exact h.elim
theorem oneF_fD : D.tup [D.str ""] = fD oneF := rfl
theorem nilF_fD : D.tup [] = fD [] := rfl
theorem rd_opposite {ds Q px} (h : sp_opposite ds Q px) : w_opposite ⟨fun _ => Q (.d .non), Q, fun _ => False, fun _ => False⟩ (startR N_opposite ds) := by
  unfold sp_opposite at h
  split at h
  · obtain ⟨a, rfl, ha, hq⟩ := asF_of h
    clear h
    unfold w_opposite
    simp only [N_opposite, wSeq, wSet, wAsg, wC, wIfS, wB, wOp, oI, oI0, asI, asS, asL, asLT, asT, asB, asA_some, asA_none, asO, asOL, asOD, asKey, asDic, asSq, oLen, oMod, oAdd, oSub, oMul, oDiv, oMax, oMin, oPlus, oEqX, oNeX, eqX_int, eqX_str, eqX_bl, oCmp, oLtX, oLeX, oGtX, oGeX, oIxX, oInX, wCB, wCons, wNil, wVar, wMove, nth, put, startR, wNext, wRet, wRetN, wDrop, wFor, wiR1, wiR2, wiX, itemsOf, wgName, wgTup, wgCons, wgNil, wLend, wLendT, seeR_cons, seeR_nil, seeO_d, seeO_none, seeO_ol, seeO_od, wJoin, wM, oAppend, oPop, oPopAt, wDPut, wDPop, wSortK, wDict0, wTup, wLst, wCall, wAnd, wOr, wNot, wAndV, wOrV, wNotV, wIf, wYes, wLc, wiEnumX, oListX, oTuple, oSort, oSortSet, oAll, oAny, S.fz, S.own, D.flat, txts_map, bools_map, txtKeys_map, List.length_map, List.map_cons, List.map_nil, List.length_cons, List.length_nil, List.cons_append, List.nil_append, List.replicate, decide_eq_true_eq, Bool.not_eq_true', Bool.not_true, Bool.not_false, if_true, if_false, Nat.zero_add, Nat.reduceAdd, Nat.reduceSub, ge_iff_le, true_and, and_true, zip_unzip, Bool.false_xor, Bool.true_xor, Bool.false_eq_true, Bool.true_eq_false, reduceIte, wipeR, dataR_cons, dataR_nil, dataO_d, dataO_none, dataO_ol, dataO_od, oDict, oIsi, tyD, isiB, wSl, wPart, wNoP, oSl, wDisp1, wDGet2, oRemove, atI_0, atI_1, atI_2, wiRev, revItems, oDictP, wForK, wiKeys, kD, oSortX, oPow, oBitAnd, oShl, oNeg, wUn, oInt, oStr, oDivmod, oIs, isD, wChain, wFz, wFzE, frzR, wLSet, wiZip, seqsD, wiVals, wiItems, wOIx, wNo, Option.isSome_some, oMulX, wM1, oSplit, oPart, oStrip1, oRep, oSum, intsD, wRaise, wLI, wLK
, wiR3, wLR, wDisp, wPairs, oReverse, oClear, oInsert, wRevL, wDZ, seqLT, oSortIT, wOFld, wSFld, asOI, setOI, putG, wPar, wiItemsC, wiValsC, wIndexL, wDZO, wLO, wiZip3, sp_added, asF_fD, oneF_fD]
    have := ha.len
    exact ⟨by decide, ⟨by omega, by decide⟩, hq⟩
  · exact h.elim
def sp_joined : DSp := fun ds P _ => match ds with
  | [x, y] => asF x fun a => asF y fun b => (Frm a ∧ Frm b) ∧ P (.d (fD (joinF a b)))
  | _ => False
abbrev N_joined : List Str := ["one", "other"]
def w_joined : WS := (wRet (wCall sp_added (fun _ _ => False) (wCons (wCall sp_added (fun _ _ => False) (wCons (wVar 0) (wCons (wVar 1) wNil))) (wCons (wCall sp_multiplied (fun _ _ => False) (wCons (wVar 0) (wCons (wVar 1) wNil))) wNil))))
theorem len_joined {ds Q px} (h : sp_joined ds Q px) : ds.length = 2 := by unfold sp_joined at h; split at h <;> first | rfl | exact h.elim
theorem rd_joined {ds Q px} (h : sp_joined ds Q px) : w_joined ⟨fun _ => Q (.d .non), Q, fun _ => False, fun _ => False⟩ (startR N_joined ds) := by
  unfold sp_joined at h
  split at h
  · obtain ⟨a, rfl, g⟩ := asF_of h
    obtain ⟨b, rfl, ⟨ha, hb⟩, hq⟩ := asF_of g
    clear h g
    unfold w_joined
    simp only [N_joined, wSeq, wSet, wAsg, wC, wIfS, wB, wOp, oI, oI0, asI, asS, asL, asLT, asT, asB, asA_some, asA_none, asO, asOL, asOD, asKey, asDic, asSq, oLen, oMod, oAdd, oSub, oMul, oDiv, oMax, oMin, oPlus, oEqX, oNeX, eqX_int, eqX_str, eqX_bl, oCmp, oLtX, oLeX, oGtX, oGeX, oIxX, oInX, wCB, wCons, wNil, wVar, wMove, nth, put, startR, wNext, wRet, wRetN, wDrop, wFor, wiR1, wiR2, wiX, itemsOf, wgName, wgTup, wgCons, wgNil, wLend, wLendT, seeR_cons, seeR_nil, seeO_d, seeO_none, seeO_ol, seeO_od, wJoin, wM, oAppend, oPop, oPopAt, wDPut, wDPop, wSortK, wDict0, wTup, wLst, wCall, wAnd, wOr, wNot, wAndV, wOrV, wNotV, wIf, wYes, wLc, wiEnumX, oListX, oTuple, oSort, oSortSet, oAll, oAny, S.fz, S.own, D.flat, txts_map, bools_map, txtKeys_map, List.length_map, List.map_cons, List.map_nil, List.length_cons, List.length_nil, List.cons_append, List.nil_append, List.replicate, decide_eq_true_eq, Bool.not_eq_true', Bool.not_true, Bool.not_false, if_true, if_false, Nat.zero_add, Nat.reduceAdd, Nat.reduceSub, ge_iff_le, true_and, and_true, zip_unzip, Bool.false_xor, Bool.true_xor, Bool.false_eq_true, Bool.true_eq_false, reduceIte, wipeR, dataR_cons, dataR_nil, dataO_d, dataO_none, dataO_ol, dataO_od, oDict, oIsi, tyD, isiB, wSl, wPart, wNoP, oSl, wDisp1, wDGet2, oRemove, atI_0, atI_1, atI_2, wiRev, revItems, oDictP, wForK, wiKeys, kD, oSortX, oPow, oBitAnd, oShl, oNeg, wUn, oInt, oStr, oDivmod, oIs, isD, wChain, wFz, wFzE, frzR, wLSet, wiZip, seqsD, wiVals, wiItems, wOIx, wNo, Option.isSome_some, oMulX, wM1, oSplit, oPart, oStrip1, oRep, oSum, intsD, wRaise, wLI, wLK
, wiR3, wLR, wDisp, wPairs, oReverse, oClear, oInsert, wRevL, wDZ, seqLT, oSortIT, wOFld, wSFld, asOI, setOI, putG, wPar, wiItemsC, wiValsC, wIndexL, wDZO, wLO, wiZip3, sp_added, sp_multiplied, asF_fD]
    have := ha.len
    have := hb.len
    have := (frm_added ha hb).len
    have := (frm_mul ha hb).len
    exact ⟨⟨by omega, by omega⟩, ⟨ha, hb⟩, ⟨by omega, by omega⟩, hq⟩
  · exact h.elim
theorem strOk_prd {p : Str} (h : Prd p) : PyData.strOk p = true := by
  have hh : ∀ c ∈ sg p, c < 0x110000 := fun c hc => by
    have := h.le c hc
    simp [LET] at this
    omega
  unfold PyData.strOk
  rw [← Array.all_toList, List.all_eq_true]
  exact fun c hc => decide_eq_true (hh c hc)
theorem pyds_strs : ∀ a : List Str, pyds (a.map .str) = some (a.map .str)
  | [] => rfl
  | x :: a => by rw [List.map_cons, pyds, pyds_strs a]; rfl
theorem pyd_fD (a : List Str) : pyd (fD a) = some (.tuple (a.map .str)) := by
  unfold fD pyd; rw [pyds_strs]; rfl
theorem canLay_strs : ∀ a : List Str, (∀ p ∈ a, PyData.strOk p = true) → PyData.canLayAll0 (a.map .str) = true
  | [], _ => rfl
  | x :: a, h => by
    rw [List.map_cons, PyData.canLayAll0, canLay_strs a fun p hp => h p (List.mem_cons_of_mem _ hp), Bool.and_true]
    exact h x List.mem_cons_self
theorem depth_strs : ∀ a : List Str, PyData.depthAll (a.map .str) ≤ 1
  | [] => by decide
  | x :: a => by
    rw [List.map_cons]
    have := depth_strs a
    simp only [PyData.depthAll, PyData.depth]
    omega
theorem shaped_fD {a : List Str} (h : ∀ p ∈ a, PyData.strOk p = true) : SeqAt.shaped (.tuple (a.map .str)) = true := by
  unfold SeqAt.shaped
  rw [Bool.and_eq_true]
  refine ⟨canLay_strs a h, decide_eq_true ?_⟩
  have := depth_strs a
  simp only [PyData.depth]
  omega
theorem eqvAll_strs : ∀ a b : List Str, PyData.eqvAll (a.map .str) (b.map .str) = decide (a = b)
  | [], [] => rfl
  | [], y :: b => rfl
  | x :: a, [] => rfl
  | x :: a, y :: b => by
    rw [List.map_cons, List.map_cons, PyData.eqvAll, eqvAll_strs a b]
    show (x == y && _) = _
    rw [Bool.eq_iff_iff]
    simp
theorem eqX_fD {a b : List Str} {P : Bool → Prop} (ha : ∀ p ∈ a, PyData.strOk p = true) (hb : ∀ p ∈ b, PyData.strOk p = true) : eqX (fD a) (fD b) P = P (decide (a = b)) := by
  have e : eqS (fD a) (fD b) = none := rfl
  unfold eqX
  rw [e]
  show asA (pyd (fD a)) (fun q => asA (pyd (fD b)) fun r => SeqAt.shaped q = true ∧ SeqAt.shaped r = true ∧ P (PyData.eqv q r)) = _
  rw [pyd_fD, pyd_fD]
  show (SeqAt.shaped _ = true ∧ SeqAt.shaped _ = true ∧ P (PyData.eqvAll _ _)) = _
  rw [shaped_fD ha, shaped_fD hb, eqvAll_strs]
  simp
theorem Frm.ok {a : List Str} (h : Frm a) : ∀ p ∈ a, PyData.strOk p = true := fun p hp => strOk_prd (h.prd p hp)
theorem eqX_frm {a b : List Str} {P : Bool → Prop} (ha : Frm a) (hb : Frm b) : eqX (fD a) (fD b) P = P (decide (a = b)) := eqX_fD ha.ok hb.ok
def leadF (a b : List Str) : Bool := decide (mulF a (oppF b) = [])
def sp_leads : DSp := fun ds P _ => match ds with
  | [x, y] => asF x fun a => asF y fun b => (Frm a ∧ Frm b) ∧ P (.d (.bl (leadF a b)))
  | _ => False
abbrev N_leads : List Str := ["one", "other"]
def w_leads : WS := (wRet (wOp oEqX (wCall sp_multiplied (fun _ _ => False) (wCons (wVar 0) (wCons (wCall sp_opposite (fun _ _ => False) (wCons (wVar 1) wNil)) wNil))) (wTup wNil)))
theorem len_leads {ds Q px} (h : sp_leads ds Q px) : ds.length = 2 := by unfold sp_leads at h; split at h <;> first | rfl | exact h.elim
theorem rd_leads {ds Q px} (h : sp_leads ds Q px) : w_leads ⟨fun _ => Q (.d .non), Q, fun _ => False, fun _ => False⟩ (startR N_leads ds) := by
  unfold sp_leads at h
  split at h
  · obtain ⟨a, rfl, g⟩ := asF_of h
    obtain ⟨b, rfl, ⟨ha, hb⟩, hq⟩ := asF_of g
    clear h g
    unfold w_leads
    simp only [N_leads, wRet, wOp, wCall, wCons, wNil, wVar, startR, nth, List.map_cons, List.map_nil, S.fz, sp_opposite, sp_multiplied, asF_fD, wTup, List.cons_append, oEqX, nilF_fD, List.length_nil]
    refine ⟨hb, ⟨ha, frm_opp hb⟩, by decide, ?_⟩
    rw [eqX_frm (frm_mul ha (frm_opp hb)) frm_nil]
    exact hq
  · exact h.elim
end DL
namespace DL
open PySem L2
theorem atI_in {α : Type} {xs : List α} {i : Int} (h0 : 0 ≤ i) (h : i < xs.length) : ∃ v, atI xs i = some v ∧ v ∈ xs := by
  have hi : i.toNat < xs.length := by omega
  refine ⟨xs[i.toNat], ?_, List.getElem_mem hi⟩
  have := atI_nat (xs := xs) (List.getElem?_eq_getElem hi)
  rwa [show ((i.toNat : Nat) : Int) = i by omega] at this
theorem rangeD_map (n : Nat) : rangeD 0 n = (List.range n).map fun i : Nat => D.int (i : Int) := by
  unfold rangeD
  apply List.map_congr_left
  intro i _
  rw [Int.zero_add]
theorem up_nodup {p : List Nat} (h : p.Pairwise (· < ·)) : p.Nodup := h.imp fun h => Nat.ne_of_lt h
theorem erase_map {α β : Type} (f : α → β) : ∀ (l : List α) (i : Nat), (l.map f).eraseIdx i = (l.eraseIdx i).map f
  | [], _ => rfl
  | _ :: _, 0 => rfl
  | x :: l, i + 1 => by
    rw [List.map_cons, List.eraseIdx_cons_succ, List.eraseIdx_cons_succ, erase_map f l i]; rfl
theorem prd_ones {cs : List Nat} (h1 : cs.Pairwise (· < ·)) (h2 : ∀ c ∈ cs, c ∈ LET) : Prd (Txt.join "" (cs.map one)) := by
  have e : sg (Txt.join "" (cs.map one)) = cs := by rw [sg_join0 sg_nil, flat_ones]
  exact ⟨by rw [e]; exact h1, by rw [e]; exact h2⟩
def Over (s : Str) (f : List Str) : Prop := ∀ p ∈ f, ∀ c ∈ sg p, c ∈ sg s
end DL
namespace DL
open PySem L2
abbrev Row := List (Nat × Bool)
def rowD (r : Row) : D := .dic (r.map fun p => .inr (one p.1)) (r.map fun p => .bl p.2)
def rowF (r : Row) : Nat → Bool := fun c => match r.find? fun p => decide (p.1 = c) with
  | some p => p.2
  | none => false
def rowK (r : Row) : List (Key × D) := r.map fun p => (.inr (one p.1), .bl p.2)
theorem rowK_zip (r : Row) : (r.map fun p => (.inr (one p.1) : Key)).zip (r.map fun p => D.bl p.2) = rowK r := by
  induction r with
  | nil => rfl
  | cons p r ih => rw [List.map_cons, List.map_cons, List.zip_cons_cons, ih]; rfl
theorem rowK_fst (r : Row) : (rowK r).map (·.1) = r.map fun p => .inr (one p.1) := by rw [rowK, List.map_map]; rfl
theorem rowK_snd (r : Row) : (rowK r).map (·.2) = r.map fun p => .bl p.2 := by rw [rowK, List.map_map]; rfl
theorem rowD_K (r : Row) : D.dic ((rowK r).map (·.1)) ((rowK r).map (·.2)) = rowD r := by rw [rowK_fst, rowK_snd]; rfl
theorem vget_row {r : Row} {c : Nat} (h : c ∈ r.map (·.1)) : vget (rowK r) (.inr (one c)) = some (.bl (rowF r c)) := by
  induction r with
  | nil => simp at h
  | cons p r ih =>
    unfold vget rowK at ih ⊢
    rw [List.map_cons, List.find?_cons]
    by_cases e : p.1 = c
    · subst e
      simp [rowF, List.find?_cons]
    · have e2 : decide ((Sum.inr (one p.1) : Key) = .inr (one c)) = false := decide_eq_false fun z => e (one_inj (Sum.inr.inj z))
      simp only [e2]
      have h' : c ∈ r.map (·.1) := by
        rcases List.mem_map.mp h with ⟨q, hq, rfl⟩
        rcases List.mem_cons.mp hq with rfl | hq
        · exact absurd rfl e
        · exact List.mem_map.mpr ⟨q, hq, rfl⟩
      rw [ih h']
      simp [rowF, List.find?_cons, e]
theorem vput_row {r : Row} {c : Nat} {b : Bool} (h : c ∉ r.map (·.1)) : vput (rowK r) (.inr (one c)) (.bl b) = rowK (r ++ [(c, b)]) := by
  unfold vput
  have : ((rowK r).any fun kv => decide (kv.1 = (.inr (one c) : Key))) = false := by
    rw [List.any_eq_false]
    intro kv hkv
    obtain ⟨q, hq, rfl⟩ := List.mem_map.mp hkv
    simp only [decide_eq_true_eq]
    exact fun z => h (List.mem_map.mpr ⟨q, hq, one_inj (Sum.inr.inj z)⟩)
  rw [this]
  simp [rowK]
theorem rowF_app_l {r : Row} {c x : Nat} {b : Bool} (h : c ∈ r.map (·.1)) : rowF (r ++ [(x, b)]) c = rowF r c := by
  unfold rowF
  rw [List.find?_append]
  have : (r.find? fun p => decide (p.1 = c)).isSome = true := by
    rw [List.find?_isSome]
    obtain ⟨p, hp, e⟩ := List.mem_map.mp h
    exact ⟨p, hp, decide_eq_true e⟩
  obtain ⟨p, hp⟩ := Option.isSome_iff_exists.mp this
  rw [hp]; rfl
theorem rowF_app_r {r : Row} {x : Nat} {b : Bool} (h : x ∉ r.map (·.1)) : rowF (r ++ [(x, b)]) x = b := by
  unfold rowF
  rw [List.find?_append]
  have : r.find? (fun p => decide (p.1 = x)) = none := by
    rw [List.find?_eq_none]
    intro p hp
    simp only [decide_eq_true_eq]
    exact fun e => h (List.mem_map.mpr ⟨p, hp, e⟩)
  rw [this]
  simp
def LetC (y : D) (cs : List Nat) : Prop := (∃ s, y = .str s ∧ sg s = cs) ∨ y = .lst (cs.map fun c => .str (one c))
theorem items_let {y : D} {cs : List Nat} {P : List D → Prop} (h : LetC y cs) : itemsOf y P = P (cs.map fun c => .str (one c)) := by
  rcases h with ⟨s, rfl, rfl⟩ | rfl
  · show P ((signs s).map .str) = _
    rw [signs_eq, List.map_map]; rfl
  · rfl
def sp_L_is_form : DSp := fun ds P _ => match ds with
  | [x, y] => asF x fun f => ∃ cs : List Nat, (LetC y cs ∧ Frm f ∧ cs.Pairwise (· < ·) ∧ cs.length ≤ 9 ∧ ∀ p ∈ f, ∀ c ∈ sg p, c ∈ cs) ∧ P (.d (.bl true))
  | _ => False
theorem srtset_frm {f : List Str} (h : Frm f) : srtset f = f := by
  have p : f.Perm (met f) := (List.perm_ext_iff_of_nodup h.nd (nodup_met f)).mpr fun a => mem_met.symm
  exact (srt_unique p h.so).symm
theorem filter_prd {s : List Nat} {p : Str} (hs : s.Pairwise (· < ·)) (hp : Prd p) (h : ∀ c ∈ sg p, c ∈ s) : Txt.join "" ((s.filter fun c => decide (c ∈ sg p)).map one) = p := by
  apply sg_inj
  rw [sg_join0 sg_nil, flat_ones]
  refine up_ext (hs.filter _) hp.up fun c => ?_
  rw [List.mem_filter]
  simp only [decide_eq_true_eq]
  exact ⟨fun z => z.2, fun z => ⟨h c z, z⟩⟩
theorem inS_one' (c : Nat) (j : Str) : inS (one c) j = decide (c ∈ sg j) := rfl
abbrev N_L_is_form : List Str := ["_law_found", "_law_letters_here", "_law_product_here", "_law_letter"]
def w_L_is_form_t3 : WS := (wRet (wC (.bl true)))
def w_L_is_form_t2 : WS := wSeq (wFor (wiX (wVar 0)) (wgName 2)
      (wIfS (wB (wOp oNeX (wVar 2) (wJoin (wC (.str "")) (wLc (wiX (wVar 1)) (wgName 3) (wB (wOp (oInX false) (wVar 3) (wVar 2))) (wVar 3) [3])))) (wRet (wC (.bl false))) wNext))
    w_L_is_form_t3
def w_L_is_form_t1 : WS := wSeq (wIfS (wB (wOp oNeX (wCB oListX (wCons (wVar 0) wNil)) (wCB oSortSet (wCons (wVar 0) wNil)))) (wRet (wC (.bl false))) wNext)
    w_L_is_form_t2
def w_L_is_form : WS := wSeq (wIfS (wOr (wNot (wB (wCB oIsi (wCons (wVar 0) (wCons (wC (.ty "tuple")) wNil))))) (wNot (wB (wCB oAll (wCons (wLc (wiX (wVar 0)) (wgName 2) wYes (wCB oIsi (wCons (wVar 2) (wCons (wC (.ty "str")) wNil))) [2]) wNil))))) (wRet (wC (.bl false))) wNext)
    w_L_is_form_t1
theorem len_L_is_form {ds Q px} (h : sp_L_is_form ds Q px) : ds.length = 2 := by unfold sp_L_is_form at h; split at h <;> first | rfl | exact h.elim
theorem eqX_lst {a b : List Str} {P : Bool → Prop} (ha : ∀ p ∈ a, PyData.strOk p = true) (hb : ∀ p ∈ b, PyData.strOk p = true) : eqX (.lst (a.map .str)) (.lst (b.map .str)) P = P (decide (a = b)) := by
  have e : eqS (.lst (a.map .str)) (.lst (b.map .str)) = none := rfl
  have pl : ∀ a : List Str, pyd (.lst (a.map .str)) = some (.list (a.map .str)) := fun a => by unfold pyd; rw [pyds_strs]; rfl
  have sh : ∀ a : List Str, (∀ p ∈ a, PyData.strOk p = true) → SeqAt.shaped (.list (a.map .str)) = true := fun a h => by
    unfold SeqAt.shaped
    rw [Bool.and_eq_true]
    refine ⟨canLay_strs a h, decide_eq_true ?_⟩
    have := depth_strs a
    simp only [PyData.depth]
    omega
  unfold eqX
  rw [e]
  show asA (pyd _) (fun q => asA (pyd _) fun r => SeqAt.shaped q = true ∧ SeqAt.shaped r = true ∧ P (PyData.eqv q r)) = _
  rw [pl, pl]
  show (SeqAt.shaped _ = true ∧ SeqAt.shaped _ = true ∧ P (PyData.eqvAll _ _)) = _
  rw [sh a ha, sh b hb, eqvAll_strs]
  simp
theorem rd_L_is_form {ds Q px} (h : sp_L_is_form ds Q px) : w_L_is_form ⟨fun _ => Q (.d .non), Q, fun _ => False, fun _ => False⟩ (startR N_L_is_form ds) := by
  unfold sp_L_is_form at h
  split at h
  · rename_i x y
    obtain ⟨f, rfl, cs, ⟨hy, hf, hcs, hcl, ho⟩, hq⟩ := asF_of h
    clear h
    have fl := hf.len
    unfold w_L_is_form
    simp only [N_L_is_form, fD, w_L_is_form_t1, w_L_is_form_t2, w_L_is_form_t3, wSeq, wSet, wAsg, wC, wIfS, wB, wOp, oI, oI0, asI, asS, asL, asLT, asT, asB, asA_some, asA_none, asO, asOL, asOD, asKey, asDic, asSq, oLen, oMod, oAdd, oSub, oMul, oDiv, oMax, oMin, oPlus, oEqX, oNeX, eqX_int, eqX_str, eqX_bl, oCmp, oLtX, oLeX, oGtX, oGeX, oIxX, oInX, wCB, wCons, wNil, wVar, wMove, nth, put, startR, wNext, wRet, wRetN, wDrop, wFor, wiR1, wiR2, wiX, itemsOf, wgName, wgTup, wgCons, wgNil, wLend, wLendT, seeR_cons, seeR_nil, seeO_d, seeO_none, seeO_ol, seeO_od, wJoin, wM, oAppend, oPop, oPopAt, wDPut, wDPop, wSortK, wDict0, wTup, wLst, wCall, wAnd, wOr, wNot, wAndV, wOrV, wNotV, wIf, wYes, wLc, wiEnumX, oListX, oTuple, oSort, oSortSet, oAll, oAny, S.fz, S.own, D.flat, txts_map, bools_map, txtKeys_map, List.length_map, List.map_cons, List.map_nil, List.length_cons, List.length_nil, List.cons_append, List.nil_append, List.replicate, decide_eq_true_eq, Bool.not_eq_true', Bool.not_true, Bool.not_false, if_true, if_false, Nat.zero_add, Nat.reduceAdd, Nat.reduceSub, ge_iff_le, true_and, and_true, zip_unzip, Bool.false_xor, Bool.true_xor, Bool.false_eq_true, Bool.true_eq_false, reduceIte, wipeR, dataR_cons, dataR_nil, dataO_d, dataO_none, dataO_ol, dataO_od, oDict, oIsi, tyD, isiB, wSl, wPart, wNoP, oSl, wDisp1, wDGet2, oRemove, atI_0, atI_1, atI_2, wiRev, revItems, oDictP, wForK, wiKeys, kD, oSortX, oPow, oBitAnd, oShl, oNeg, wUn, oInt, oStr, oDivmod, oIs, isD, wChain, wFz, wFzE, frzR, wLSet, wiZip, seqsD, wiVals, wiItems, wOIx, wNo, Option.isSome_some, oMulX, wM1, oSplit, oPart, oStrip1, oRep, oSum, intsD, wRaise, wLI, wLK
, wiR3, wLR, wDisp, wPairs, oReverse, oClear, oInsert, wRevL, wDZ, seqLT, oSortIT, wOFld, wSFld, asOI, setOI, putG, wPar, wiItemsC, wiValsC, wIndexL, wDZO, wLO, wiZip3]
    refine ⟨by rw [len0]; omega, ?_⟩
    refine compD_map mono_name (fun c => some (.bl true)) f _ (fun c hc Q' hQ => ?_) ?_
    · simp only [wSeq, wSet, wAsg, wC, wIfS, wB, wOp, oI, oI0, asI, asS, asL, asLT, asT, asB, asA_some, asA_none, asO, asOL, asOD, asKey, asDic, asSq, oLen, oMod, oAdd, oSub, oMul, oDiv, oMax, oMin, oPlus, oEqX, oNeX, eqX_int, eqX_str, eqX_bl, oCmp, oLtX, oLeX, oGtX, oGeX, oIxX, oInX, wCB, wCons, wNil, wVar, wMove, nth, put, startR, wNext, wRet, wRetN, wDrop, wFor, wiR1, wiR2, wiX, itemsOf, wgName, wgTup, wgCons, wgNil, wLend, wLendT, seeR_cons, seeR_nil, seeO_d, seeO_none, seeO_ol, seeO_od, wJoin, wM, oAppend, oPop, oPopAt, wDPut, wDPop, wSortK, wDict0, wTup, wLst, wCall, wAnd, wOr, wNot, wAndV, wOrV, wNotV, wIf, wYes, wLc, wiEnumX, oListX, oTuple, oSort, oSortSet, oAll, oAny, S.fz, S.own, D.flat, txts_map, bools_map, txtKeys_map, List.length_map, List.map_cons, List.map_nil, List.length_cons, List.length_nil, List.cons_append, List.nil_append, List.replicate, decide_eq_true_eq, Bool.not_eq_true', Bool.not_true, Bool.not_false, if_true, if_false, Nat.zero_add, Nat.reduceAdd, Nat.reduceSub, ge_iff_le, true_and, and_true, zip_unzip, Bool.false_xor, Bool.true_xor, Bool.false_eq_true, Bool.true_eq_false, reduceIte, wipeR, dataR_cons, dataR_nil, dataO_d, dataO_none, dataO_ol, dataO_od, oDict, oIsi, tyD, isiB, wSl, wPart, wNoP, oSl, wDisp1, wDGet2, oRemove, atI_0, atI_1, atI_2, wiRev, revItems, oDictP, wForK, wiKeys, kD, oSortX, oPow, oBitAnd, oShl, oNeg, wUn, oInt, oStr, oDivmod, oIs, isD, wChain, wFz, wFzE, frzR, wLSet, wiZip, seqsD, wiVals, wiItems, wOIx, wNo, Option.isSome_some, oMulX, wM1, oSplit, oPart, oStrip1, oRep, oSum, intsD, wRaise, wLI, wLK
, wiR3, wLR, wDisp, wPairs, oReverse, oClear, oInsert, wRevL, wDZ, seqLT, oSortIT, wOFld, wSFld, asOI, setOI, putG, wPar, wiItemsC, wiValsC, wIndexL, wDZO, wLO, wiZip3]
      exact hQ
    have e : f.filterMap (fun c => some (D.bl true)) = (f.map fun _ => true).map .bl := by
      rw [List.map_map, ← List.filterMap_eq_map]; rfl
    rw [e, bools_map, asA_some]
    have e2 : (f.map fun _ => true).all id = true := by rw [List.all_map]; simp [Function.comp]
    rw [e2]
    simp only [wSeq, wSet, wAsg, wC, wIfS, wB, wOp, oI, oI0, asI, asS, asL, asLT, asT, asB, asA_some, asA_none, asO, asOL, asOD, asKey, asDic, asSq, oLen, oMod, oAdd, oSub, oMul, oDiv, oMax, oMin, oPlus, oEqX, oNeX, eqX_int, eqX_str, eqX_bl, oCmp, oLtX, oLeX, oGtX, oGeX, oIxX, oInX, wCB, wCons, wNil, wVar, wMove, nth, put, startR, wNext, wRet, wRetN, wDrop, wFor, wiR1, wiR2, wiX, itemsOf, wgName, wgTup, wgCons, wgNil, wLend, wLendT, seeR_cons, seeR_nil, seeO_d, seeO_none, seeO_ol, seeO_od, wJoin, wM, oAppend, oPop, oPopAt, wDPut, wDPop, wSortK, wDict0, wTup, wLst, wCall, wAnd, wOr, wNot, wAndV, wOrV, wNotV, wIf, wYes, wLc, wiEnumX, oListX, oTuple, oSort, oSortSet, oAll, oAny, S.fz, S.own, D.flat, txts_map, bools_map, txtKeys_map, List.length_map, List.map_cons, List.map_nil, List.length_cons, List.length_nil, List.cons_append, List.nil_append, List.replicate, decide_eq_true_eq, Bool.not_eq_true', Bool.not_true, Bool.not_false, if_true, if_false, Nat.zero_add, Nat.reduceAdd, Nat.reduceSub, ge_iff_le, true_and, and_true, zip_unzip, Bool.false_xor, Bool.true_xor, Bool.false_eq_true, Bool.true_eq_false, reduceIte, wipeR, dataR_cons, dataR_nil, dataO_d, dataO_none, dataO_ol, dataO_od, oDict, oIsi, tyD, isiB, wSl, wPart, wNoP, oSl, wDisp1, wDGet2, oRemove, atI_0, atI_1, atI_2, wiRev, revItems, oDictP, wForK, wiKeys, kD, oSortX, oPow, oBitAnd, oShl, oNeg, wUn, oInt, oStr, oDivmod, oIs, isD, wChain, wFz, wFzE, frzR, wLSet, wiZip, seqsD, wiVals, wiItems, wOIx, wNo, Option.isSome_some, oMulX, wM1, oSplit, oPart, oStrip1, oRep, oSum, intsD, wRaise, wLI, wLK
, wiR3, wLR, wDisp, wPairs, oReverse, oClear, oInsert, wRevL, wDZ, seqLT, oSortIT, wOFld, wSFld, asOI, setOI, putG, wPar, wiItemsC, wiValsC, wIndexL, wDZO, wLO, wiZip3]
    refine ⟨by show _ < 4096; omega, ?_⟩
    rw [srtset_frm hf, eqX_lst hf.ok hf.ok]
    simp only [wSeq, wSet, wAsg, wC, wIfS, wB, wOp, oI, oI0, asI, asS, asL, asLT, asT, asB, asA_some, asA_none, asO, asOL, asOD, asKey, asDic, asSq, oLen, oMod, oAdd, oSub, oMul, oDiv, oMax, oMin, oPlus, oEqX, oNeX, eqX_int, eqX_str, eqX_bl, oCmp, oLtX, oLeX, oGtX, oGeX, oIxX, oInX, wCB, wCons, wNil, wVar, wMove, nth, put, startR, wNext, wRet, wRetN, wDrop, wFor, wiR1, wiR2, wiX, itemsOf, wgName, wgTup, wgCons, wgNil, wLend, wLendT, seeR_cons, seeR_nil, seeO_d, seeO_none, seeO_ol, seeO_od, wJoin, wM, oAppend, oPop, oPopAt, wDPut, wDPop, wSortK, wDict0, wTup, wLst, wCall, wAnd, wOr, wNot, wAndV, wOrV, wNotV, wIf, wYes, wLc, wiEnumX, oListX, oTuple, oSort, oSortSet, oAll, oAny, S.fz, S.own, D.flat, txts_map, bools_map, txtKeys_map, List.length_map, List.map_cons, List.map_nil, List.length_cons, List.length_nil, List.cons_append, List.nil_append, List.replicate, decide_eq_true_eq, Bool.not_eq_true', Bool.not_true, Bool.not_false, if_true, if_false, Nat.zero_add, Nat.reduceAdd, Nat.reduceSub, ge_iff_le, true_and, and_true, zip_unzip, Bool.false_xor, Bool.true_xor, Bool.false_eq_true, Bool.true_eq_false, reduceIte, wipeR, dataR_cons, dataR_nil, dataO_d, dataO_none, dataO_ol, dataO_od, oDict, oIsi, tyD, isiB, wSl, wPart, wNoP, oSl, wDisp1, wDGet2, oRemove, atI_0, atI_1, atI_2, wiRev, revItems, oDictP, wForK, wiKeys, kD, oSortX, oPow, oBitAnd, oShl, oNeg, wUn, oInt, oStr, oDivmod, oIs, isD, wChain, wFz, wFzE, frzR, wLSet, wiZip, seqsD, wiVals, wiItems, wOIx, wNo, Option.isSome_some, oMulX, wM1, oSplit, oPart, oStrip1, oRep, oSum, intsD, wRaise, wLI, wLK
, wiR3, wLR, wDisp, wPairs, oReverse, oClear, oInsert, wRevL, wDZ, seqLT, oSortIT, wOFld, wSFld, asOI, setOI, putG, wPar, wiItemsC, wiValsC, wIndexL, wDZO, wLO, wiZip3, decide_true]
    refine forD_map (I := fun done _ ρ => ∃ (o o2 : Option S), ρ = [some (.d (.tup (f.map .str))), some (.d y), o, o2]) mono_name f (fun done p ys ρ he hI => ?_) (fun ρ hI => ?_) _ ⟨_, _, rfl⟩
    · obtain ⟨o, o2, rfl⟩ := hI
      have hp := hf.prd p (by rw [he]; simp)
      have hpo := ho p (by rw [he]; simp)
      simp only [wIfS, wB, wOp, oNeX, wVar, nth, put, wgName, wJoin, wC, asS, wLc, wiX, S.fz, items_let hy]
      refine ⟨by rw [List.length_map, len0]; omega, ?_⟩
      refine compD_map mono_name (fun c => if c ∈ sg p then some (.str (one c)) else none) cs _ (fun c hc Q' hQ => ?_) ?_
      · simp only [wSeq, wSet, wAsg, wC, wIfS, wB, wOp, oI, oI0, asI, asS, asL, asLT, asT, asB, asA_some, asA_none, asO, asOL, asOD, asKey, asDic, asSq, oLen, oMod, oAdd, oSub, oMul, oDiv, oMax, oMin, oPlus, oEqX, oNeX, eqX_int, eqX_str, eqX_bl, oCmp, oLtX, oLeX, oGtX, oGeX, oIxX, oInX, wCB, wCons, wNil, wVar, wMove, nth, put, startR, wNext, wRet, wRetN, wDrop, wFor, wiR1, wiR2, wiX, itemsOf, wgName, wgTup, wgCons, wgNil, wLend, wLendT, seeR_cons, seeR_nil, seeO_d, seeO_none, seeO_ol, seeO_od, wJoin, wM, oAppend, oPop, oPopAt, wDPut, wDPop, wSortK, wDict0, wTup, wLst, wCall, wAnd, wOr, wNot, wAndV, wOrV, wNotV, wIf, wYes, wLc, wiEnumX, oListX, oTuple, oSort, oSortSet, oAll, oAny, S.fz, S.own, D.flat, txts_map, bools_map, txtKeys_map, List.length_map, List.map_cons, List.map_nil, List.length_cons, List.length_nil, List.cons_append, List.nil_append, List.replicate, decide_eq_true_eq, Bool.not_eq_true', Bool.not_true, Bool.not_false, if_true, if_false, Nat.zero_add, Nat.reduceAdd, Nat.reduceSub, ge_iff_le, true_and, and_true, zip_unzip, Bool.false_xor, Bool.true_xor, Bool.false_eq_true, Bool.true_eq_false, reduceIte, wipeR, dataR_cons, dataR_nil, dataO_d, dataO_none, dataO_ol, dataO_od, oDict, oIsi, tyD, isiB, wSl, wPart, wNoP, oSl, wDisp1, wDGet2, oRemove, atI_0, atI_1, atI_2, wiRev, revItems, oDictP, wForK, wiKeys, kD, oSortX, oPow, oBitAnd, oShl, oNeg, wUn, oInt, oStr, oDivmod, oIs, isD, wChain, wFz, wFzE, frzR, wLSet, wiZip, seqsD, wiVals, wiItems, wOIx, wNo, Option.isSome_some, oMulX, wM1, oSplit, oPart, oStrip1, oRep, oSum, intsD, wRaise, wLI, wLK
, wiR3, wLR, wDisp, wPairs, oReverse, oClear, oInsert, wRevL, wDZ, seqLT, oSortIT, wOFld, wSFld, asOI, setOI, putG, wPar, wiItemsC, wiValsC, wIndexL, wDZO, wLO, wiZip3, Function.comp, inS_one', decide_eq_true_eq]
        by_cases h : c ∈ sg p
        · rw [if_pos h] at hQ ⊢; exact hQ
        · rw [if_neg h] at hQ ⊢; exact hQ
      · have e3 : cs.filterMap (fun c => if c ∈ sg p then some (D.str (one c)) else none) = ((cs.filter fun c => decide (c ∈ sg p)).map one).map .str := by
          clear hy hcs hcl ho hpo
          induction cs with
          | nil => rfl
          | cons c l ih =>
            rw [List.filterMap_cons, List.filter_cons]
            by_cases h : c ∈ sg p
            · simp [h, ih]
            · simp [h, ih]
        have l9 : (cs.filter fun c => decide (c ∈ sg p)).length ≤ 9 := Nat.le_trans (List.length_filter_le _ _) hcl
        have h0 : Str.length "" = 0 := by decide +kernel
        simp only [S.fz, asSq]
        rw [e3, txts_map, asA_some, filter_prd hcs hp hpo]
        refine ⟨by rw [ones_sum, h0]; omega, ?_⟩
        simp only [wSeq, wSet, wAsg, wC, wIfS, wB, wOp, oI, oI0, asI, asS, asL, asLT, asT, asB, asA_some, asA_none, asO, asOL, asOD, asKey, asDic, asSq, oLen, oMod, oAdd, oSub, oMul, oDiv, oMax, oMin, oPlus, oEqX, oNeX, eqX_int, eqX_str, eqX_bl, oCmp, oLtX, oLeX, oGtX, oGeX, oIxX, oInX, wCB, wCons, wNil, wVar, wMove, nth, put, startR, wNext, wRet, wRetN, wDrop, wFor, wiR1, wiR2, wiX, itemsOf, wgName, wgTup, wgCons, wgNil, wLend, wLendT, seeR_cons, seeR_nil, seeO_d, seeO_none, seeO_ol, seeO_od, wJoin, wM, oAppend, oPop, oPopAt, wDPut, wDPop, wSortK, wDict0, wTup, wLst, wCall, wAnd, wOr, wNot, wAndV, wOrV, wNotV, wIf, wYes, wLc, wiEnumX, oListX, oTuple, oSort, oSortSet, oAll, oAny, S.fz, S.own, D.flat, txts_map, bools_map, txtKeys_map, List.length_map, List.map_cons, List.map_nil, List.length_cons, List.length_nil, List.cons_append, List.nil_append, List.replicate, decide_eq_true_eq, Bool.not_eq_true', Bool.not_true, Bool.not_false, if_true, if_false, Nat.zero_add, Nat.reduceAdd, Nat.reduceSub, ge_iff_le, true_and, and_true, zip_unzip, Bool.false_xor, Bool.true_xor, Bool.false_eq_true, Bool.true_eq_false, reduceIte, wipeR, dataR_cons, dataR_nil, dataO_d, dataO_none, dataO_ol, dataO_od, oDict, oIsi, tyD, isiB, wSl, wPart, wNoP, oSl, wDisp1, wDGet2, oRemove, atI_0, atI_1, atI_2, wiRev, revItems, oDictP, wForK, wiKeys, kD, oSortX, oPow, oBitAnd, oShl, oNeg, wUn, oInt, oStr, oDivmod, oIs, isD, wChain, wFz, wFzE, frzR, wLSet, wiZip, seqsD, wiVals, wiItems, wOIx, wNo, Option.isSome_some, oMulX, wM1, oSplit, oPart, oStrip1, oRep, oSum, intsD, wRaise, wLI, wLK
, wiR3, wLR, wDisp, wPairs, oReverse, oClear, oInsert, wRevL, wDZ, seqLT, oSortIT, wOFld, wSFld, asOI, setOI, putG, wPar, wiItemsC, wiValsC, wIndexL, wDZO, wLO, wiZip3, decide_true]
        exact ⟨_, _, rfl⟩
    · obtain ⟨o, o2, rfl⟩ := hI
      simp only [wSeq, wSet, wAsg, wC, wIfS, wB, wOp, oI, oI0, asI, asS, asL, asLT, asT, asB, asA_some, asA_none, asO, asOL, asOD, asKey, asDic, asSq, oLen, oMod, oAdd, oSub, oMul, oDiv, oMax, oMin, oPlus, oEqX, oNeX, eqX_int, eqX_str, eqX_bl, oCmp, oLtX, oLeX, oGtX, oGeX, oIxX, oInX, wCB, wCons, wNil, wVar, wMove, nth, put, startR, wNext, wRet, wRetN, wDrop, wFor, wiR1, wiR2, wiX, itemsOf, wgName, wgTup, wgCons, wgNil, wLend, wLendT, seeR_cons, seeR_nil, seeO_d, seeO_none, seeO_ol, seeO_od, wJoin, wM, oAppend, oPop, oPopAt, wDPut, wDPop, wSortK, wDict0, wTup, wLst, wCall, wAnd, wOr, wNot, wAndV, wOrV, wNotV, wIf, wYes, wLc, wiEnumX, oListX, oTuple, oSort, oSortSet, oAll, oAny, S.fz, S.own, D.flat, txts_map, bools_map, txtKeys_map, List.length_map, List.map_cons, List.map_nil, List.length_cons, List.length_nil, List.cons_append, List.nil_append, List.replicate, decide_eq_true_eq, Bool.not_eq_true', Bool.not_true, Bool.not_false, if_true, if_false, Nat.zero_add, Nat.reduceAdd, Nat.reduceSub, ge_iff_le, true_and, and_true, zip_unzip, Bool.false_xor, Bool.true_xor, Bool.false_eq_true, Bool.true_eq_false, reduceIte, wipeR, dataR_cons, dataR_nil, dataO_d, dataO_none, dataO_ol, dataO_od, oDict, oIsi, tyD, isiB, wSl, wPart, wNoP, oSl, wDisp1, wDGet2, oRemove, atI_0, atI_1, atI_2, wiRev, revItems, oDictP, wForK, wiKeys, kD, oSortX, oPow, oBitAnd, oShl, oNeg, wUn, oInt, oStr, oDivmod, oIs, isD, wChain, wFz, wFzE, frzR, wLSet, wiZip, seqsD, wiVals, wiItems, wOIx, wNo, Option.isSome_some, oMulX, wM1, oSplit, oPart, oStrip1, oRep, oSum, intsD, wRaise, wLI, wLK
, wiR3, wLR, wDisp, wPairs, oReverse, oClear, oInsert, wRevL, wDZ, seqLT, oSortIT, wOFld, wSFld, asOI, setOI, putG, wPar, wiItemsC, wiValsC, wIndexL, wDZO, wLO, wiZip3]
      exact hq
  · exact h.elim
theorem over_added {s : Str} {a b : List Str} (ha : Over s a) (hb : Over s b) : Over s (addedF a b) := fun p hp => by
  have := odds_sub ((srt_perm _).mem_iff.mp hp)
  exact (List.mem_append.mp this).elim (ha p) (hb p)
theorem over_mul {s : Str} {a b : List Str} (ha : Over s a) (hb : Over s b) : Over s (mulF a b) := fun p hp c hc => by
  have h1 := odds_sub ((srt_perm _).mem_iff.mp hp)
  obtain ⟨x, hx, h⟩ := List.mem_flatMap.mp h1
  obtain ⟨y, hy, rfl⟩ := List.mem_map.mp h
  have h2 := ((sg_lets (x ++ y)).2 c).mp hc
  rw [sg_append] at h2
  exact (List.mem_append.mp h2).elim (ha x hx c) (hb y hy c)
theorem over_one {s : Str} : Over s oneF := fun p hp c hc => by
  simp [oneF] at hp; subst hp; rw [sg_nil] at hc; simp at hc
theorem over_opp {s : Str} {a : List Str} (ha : Over s a) : Over s (oppF a) := over_added ha over_one
theorem tr_congr {s : Nat → Bool} {r : Nat → Bool} {p : Str} (h : ∀ c ∈ sg p, r c = s c) : tr r p = tr s p := by
  unfold tr
  rw [Bool.eq_iff_iff, List.all_eq_true, List.all_eq_true]
  exact ⟨fun z c hc => by rw [← h c hc]; exact z c hc, fun z c hc => by rw [h c hc]; exact z c hc⟩
theorem inD_strs (b : Str) (l : List Str) : inD (.str b) (l.map D.str) = decide (b ∈ l) := by
  unfold inD
  induction l with
  | nil => rfl
  | cons x l ih =>
    rw [List.map_cons, List.any_cons, ih]
    show (x == b || _) = _
    rw [Bool.eq_iff_iff, Bool.or_eq_true, beq_iff_eq, decide_eq_true_iff, decide_eq_true_iff, List.mem_cons]
    exact or_congr ⟨Eq.symm, Eq.symm⟩ Iff.rfl
theorem lead_iff {a b : List Str} (ha : Frm a) (hb : Frm b) : leadF a b = true ↔ ∀ r, val r a = true → val r b = true := by
  unfold leadF
  rw [decide_eq_true_iff]
  constructor
  · intro h r hr
    have := congrArg (val r) h
    rw [val_mul, val_opp, val_nil, hr] at this
    revert this
    cases val r b <;> simp
  · intro h
    refine uniq (frm_mul ha (frm_opp hb)) frm_nil fun r => ?_
    rw [val_mul, val_opp, val_nil]
    have := h r
    revert this
    cases val r a <;> cases val r b <;> simp
end DL
namespace DL
open PySem L2
abbrev gD_NEVER : D := .tup []
abbrev gD_ALWAYS : D := .tup [.str ""]
def OverP (T : Nat → Prop) (f : List Str) : Prop := ∀ p ∈ f, ∀ c ∈ sg p, T c
theorem overP_added {T : Nat → Prop} {a b : List Str} (ha : OverP T a) (hb : OverP T b) : OverP T (addedF a b) := fun p hp => by
  have := odds_sub ((srt_perm _).mem_iff.mp hp)
  exact (List.mem_append.mp this).elim (ha p) (hb p)
theorem overP_mul {T : Nat → Prop} {a b : List Str} (ha : OverP T a) (hb : OverP T b) : OverP T (mulF a b) := fun p hp c hc => by
  have h1 := odds_sub ((srt_perm _).mem_iff.mp hp)
  obtain ⟨x, hx, h⟩ := List.mem_flatMap.mp h1
  obtain ⟨y, hy, rfl⟩ := List.mem_map.mp h
  have h2 := ((sg_lets (x ++ y)).2 c).mp hc
  rw [sg_append] at h2
  exact (List.mem_append.mp h2).elim (ha x hx c) (hb y hy c)
theorem overP_one {T : Nat → Prop} : OverP T oneF := fun p hp c hc => by
  simp [oneF] at hp; subst hp; rw [sg_nil] at hc; simp at hc
theorem overP_nil {T : Nat → Prop} : OverP T [] := fun p hp => by simp at hp
theorem overP_letter {T : Nat → Prop} {c : Nat} (h : T c) : OverP T [one c] := fun p hp d hd => by
  simp at hp; subst hp; rw [sg_one] at hd; simp at hd; subst hd; exact h
theorem overP_join {T : Nat → Prop} {a b : List Str} (ha : OverP T a) (hb : OverP T b) : OverP T (joinF a b) := overP_added (overP_added ha hb) (overP_mul ha hb)
theorem frm_letter {c : Nat} (h : c ∈ LET) : Frm [one c] := ⟨by simp, by simp, fun p hp => by
  simp at hp; subst hp
  exact ⟨by rw [sg_one]; simp, fun d hd => by rw [sg_one] at hd; simp at hd; subst hd; exact h⟩⟩
theorem val_letter (r : Nat → Bool) (c : Nat) : val r [one c] = r c := by
  have : tr r (one c) = r c := by simp [tr, sg_one]
  unfold val
  rw [List.countP_cons, this]
  cases r c <;> rfl
def look (m : List (Str × List Str)) (s : Str) : List Str := match m.find? fun q => decide (q.1 = s) with
  | some q => q.2
  | none => [s]
def mapD (m : List (Str × List Str)) : D := .dic (m.map fun q => .inr q.1) (m.map fun q => fD q.2)
def mapK (m : List (Str × List Str)) : List (Key × D) := m.map fun q => (.inr q.1, fD q.2)
theorem mapK_zip (m : List (Str × List Str)) : (m.map fun q => (.inr q.1 : Key)).zip (m.map fun q => fD q.2) = mapK m := by
  induction m with
  | nil => rfl
  | cons p m ih => rw [List.map_cons, List.map_cons, List.zip_cons_cons, ih]; rfl
theorem get_map {m : List (Str × List Str)} {s : Str} : (vget (mapK m) (.inr s)).getD (.tup [.str s]) = fD (look m s) := by
  unfold look
  induction m with
  | nil => rfl
  | cons q m ih =>
    unfold vget mapK at ih ⊢
    rw [List.map_cons, List.find?_cons, List.find?_cons]
    by_cases e : q.1 = s
    · have e2 : decide ((Sum.inr q.1 : Key) = .inr s) = true := decide_eq_true (by rw [e])
      simp only [e2, decide_eq_true e]
      rfl
    · have e2 : decide ((Sum.inr q.1 : Key) = .inr s) = false := decide_eq_false fun z => e (Sum.inr.inj z)
      simp only [e2, decide_eq_false e]
      exact ih
def termF (m : List (Str × List Str)) (p : Str) : List Str := (sg p).foldl (fun t c => mulF t (look m (one c))) oneF
def putF (f : List Str) (m : List (Str × List Str)) : List Str := f.foldl (fun acc p => addedF acc (termF m p)) []
theorem putF_snoc (f : List Str) (p : Str) (m : List (Str × List Str)) : putF (f ++ [p]) m = addedF (putF f m) (termF m p) := by rw [putF, List.foldl_append]; rfl
theorem frm_look {m : List (Str × List Str)} {c : Nat} (h : ∀ q ∈ m, Frm q.2) (hc : c ∈ LET) : Frm (look m (one c)) := by
  unfold look
  split
  · rename_i q e
    exact h q (List.mem_of_find?_eq_some e)
  · exact frm_letter hc
theorem fold_term {m : List (Str × List Str)} (h : ∀ q ∈ m, Frm q.2) : ∀ (cs : List Nat) (t : List Str), (∀ c ∈ cs, c ∈ LET) → Frm t → Frm (cs.foldl (fun t c => mulF t (look m (one c))) t)
  | [], t, _, ht => ht
  | c :: cs, t, hc, ht => fold_term h cs _ (fun d hd => hc d (List.mem_cons_of_mem _ hd)) (frm_mul ht (frm_look h (hc c List.mem_cons_self)))
theorem frm_term {m : List (Str × List Str)} {p : Str} (h : ∀ q ∈ m, Frm q.2) (hp : Prd p) : Frm (termF m p) := fold_term h _ _ hp.le frm_one
theorem fold_put {m : List (Str × List Str)} (h : ∀ q ∈ m, Frm q.2) : ∀ (f a : List Str), (∀ p ∈ f, Prd p) → Frm a → Frm (f.foldl (fun acc p => addedF acc (termF m p)) a)
  | [], a, _, ha => ha
  | p :: f, a, hf, ha => fold_put h f _ (fun q hq => hf q (List.mem_cons_of_mem _ hq)) (frm_added ha (frm_term h (hf p List.mem_cons_self)))
theorem frm_put {f : List Str} {m : List (Str × List Str)} (h : ∀ q ∈ m, Frm q.2) (hf : ∀ p ∈ f, Prd p) : Frm (putF f m) := fold_put h f _ hf frm_nil
theorem val_term (r : Nat → Bool) (m : List (Str × List Str)) (p : Str) : val r (termF m p) = tr (fun c => val r (look m (one c))) p := by
  have aux : ∀ (cs : List Nat) (t : List Str), val r (cs.foldl (fun t c => mulF t (look m (one c))) t) = (val r t && cs.all fun c => val r (look m (one c))) := by
    intro cs
    induction cs with
    | nil => intro t; simp
    | cons c cs ih => intro t; rw [List.foldl_cons, ih, val_mul, List.all_cons, Bool.and_assoc]
  rw [termF, aux, val_one, Bool.true_and]; rfl
theorem val_cons (r : Nat → Bool) (p : Str) (f : List Str) : val r (p :: f) = xor (tr r p) (val r f) := by
  unfold val
  rw [List.countP_cons]
  cases tr r p <;> rcases Nat.mod_two_eq_zero_or_one (f.countP (tr r)) with h | h <;> simp [Nat.add_mod, h]
theorem val_put (r : Nat → Bool) (f : List Str) (m : List (Str × List Str)) : val r (putF f m) = val (fun c => val r (look m (one c))) f := by
  have aux : ∀ (f a : List Str), val r (f.foldl (fun acc p => addedF acc (termF m p)) a) = xor (val r a) (val (fun c => val r (look m (one c))) f) := by
    intro f
    induction f with
    | nil => intro a; rw [List.foldl_nil, val_nil, Bool.xor_false]
    | cons p f ih => intro a; rw [List.foldl_cons, ih, val_added, val_term, val_cons, Bool.xor_assoc]
  rw [putF, aux, val_nil, Bool.false_xor]
theorem overP_put {T : Nat → Prop} {f : List Str} {m : List (Str × List Str)} (h : ∀ p ∈ f, ∀ c ∈ sg p, OverP T (look m (one c))) : OverP T (putF f m) := by
  have aux1 : ∀ (cs : List Nat) (t : List Str), (∀ c ∈ cs, OverP T (look m (one c))) → OverP T t → OverP T (cs.foldl (fun t c => mulF t (look m (one c))) t) := by
    intro cs
    induction cs with
    | nil => intro t _ ht; exact ht
    | cons c cs ih => intro t hc ht; exact ih _ (fun d hd => hc d (List.mem_cons_of_mem _ hd)) (overP_mul ht (hc c List.mem_cons_self))
  have aux : ∀ (f a : List Str), (∀ p ∈ f, ∀ c ∈ sg p, OverP T (look m (one c))) → OverP T a → OverP T (f.foldl (fun acc p => addedF acc (termF m p)) a) := by
    intro f
    induction f with
    | nil => intro a _ ha; exact ha
    | cons p f ih => intro a hf ha; exact ih _ (fun q hq => hf q (List.mem_cons_of_mem _ hq)) (overP_added ha (aux1 _ _ (hf p List.mem_cons_self) overP_one))
  exact aux f [] h overP_nil
def sp_put_in : DSp := fun ds P _ => match ds with
  | [x, y] => asF x fun f => ∃ m : List (Str × List Str), y = mapD m ∧ (Frm f ∧ ∀ q ∈ m, Frm q.2) ∧ P (.d (fD (putF f m)))
  | _ => False
abbrev N_put_in : List Str := ["form", "forms", "found", "product", "term", "letter"]
def w_put_in_b1_t2 : WS := (wAsg (wCall sp_added (fun _ _ => False) (wCons (wVar 2) (wCons (wVar 4) wNil))) (wgName 2))
def w_put_in_b1_t1 : WS := wSeq (wFor (wiX (wVar 3)) (wgName 5)
      (wAsg (wCall sp_multiplied (fun _ _ => False) (wCons (wVar 4) (wCons (wDGet2 (wVar 1) (wVar 5) (wTup (wCons (wVar 5) wNil))) wNil))) (wgName 4)))
    w_put_in_b1_t2
def w_put_in_b1 : WS := wSeq (wAsg (wC gD_ALWAYS) (wgName 4))
    w_put_in_b1_t1
def w_put_in_t2 : WS := (wRet (wVar 2))
def w_put_in_t1 : WS := wSeq (wFor (wiX (wVar 0)) (wgName 3)
      w_put_in_b1)
    w_put_in_t2
def w_put_in : WS := wSeq (wAsg (wC gD_NEVER) (wgName 2))
    w_put_in_t1
theorem len_put_in {ds Q px} (h : sp_put_in ds Q px) : ds.length = 2 := by unfold sp_put_in at h; split at h <;> first | rfl | exact h.elim
theorem rd_put_in {ds Q px} (h : sp_put_in ds Q px) : w_put_in ⟨fun _ => Q (.d .non), Q, fun _ => False, fun _ => False⟩ (startR N_put_in ds) := by
  unfold sp_put_in at h
  split at h
  · obtain ⟨f, rfl, m, rfl, ⟨hf, hm⟩, hq⟩ := asF_of h
    clear h
    unfold w_put_in
    simp only [N_put_in, w_put_in_t1, w_put_in_t2, wSeq, wSet, wAsg, wC, wIfS, wB, wOp, oI, oI0, asI, asS, asL, asLT, asT, asB, asA_some, asA_none, asO, asOL, asOD, asKey, asDic, asSq, oLen, oMod, oAdd, oSub, oMul, oDiv, oMax, oMin, oPlus, oEqX, oNeX, eqX_int, eqX_str, eqX_bl, oCmp, oLtX, oLeX, oGtX, oGeX, oIxX, oInX, wCB, wCons, wNil, wVar, wMove, nth, put, startR, wNext, wRet, wRetN, wDrop, wFor, wiR1, wiR2, wiX, itemsOf, wgName, wgTup, wgCons, wgNil, wLend, wLendT, seeR_cons, seeR_nil, seeO_d, seeO_none, seeO_ol, seeO_od, wJoin, wM, oAppend, oPop, oPopAt, wDPut, wDPop, wSortK, wDict0, wTup, wLst, wCall, wAnd, wOr, wNot, wAndV, wOrV, wNotV, wIf, wYes, wLc, wiEnumX, oListX, oTuple, oSort, oSortSet, oAll, oAny, S.fz, S.own, D.flat, txts_map, bools_map, txtKeys_map, List.length_map, List.map_cons, List.map_nil, List.length_cons, List.length_nil, List.cons_append, List.nil_append, List.replicate, decide_eq_true_eq, Bool.not_eq_true', Bool.not_true, Bool.not_false, if_true, if_false, Nat.zero_add, Nat.reduceAdd, Nat.reduceSub, ge_iff_le, true_and, and_true, zip_unzip, Bool.false_xor, Bool.true_xor, Bool.false_eq_true, Bool.true_eq_false, reduceIte, wipeR, dataR_cons, dataR_nil, dataO_d, dataO_none, dataO_ol, dataO_od, oDict, oIsi, tyD, isiB, wSl, wPart, wNoP, oSl, wDisp1, wDGet2, oRemove, atI_0, atI_1, atI_2, wiRev, revItems, oDictP, wForK, wiKeys, kD, oSortX, oPow, oBitAnd, oShl, oNeg, wUn, oInt, oStr, oDivmod, oIs, isD, wChain, wFz, wFzE, frzR, wLSet, wiZip, seqsD, wiVals, wiItems, wOIx, wNo, Option.isSome_some, oMulX, wM1, oSplit, oPart, oStrip1, oRep, oSum, intsD, wRaise, wLI, wLK
, wiR3, wLR, wDisp, wPairs, oReverse, oClear, oInsert, wRevL, wDZ, seqLT, oSortIT, wOFld, wSFld, asOI, setOI, putG, wPar, wiItemsC, wiValsC, wIndexL, wDZO, wLO, wiZip3]
    show forD _ _ _ (f.map .str) _
    refine forD_map (I := fun done _ ρ => ∃ (o3 o4 o5 : Option S), ρ = [some (.d (fD f)), some (.d (mapD m)), some (.d (fD (putF done m))), o3, o4, o5]) mono_name f (fun done p ys ρ he hI => ?_) (fun ρ hI => ?_) _ ⟨_, _, _, rfl⟩
    · obtain ⟨o3, o4, o5, rfl⟩ := hI
      have hp := hf.prd p (by rw [he]; simp)
      have hd : Frm (putF done m) := frm_put hm fun q hq => hf.prd q (by rw [he]; exact List.mem_append.mpr (.inl hq))
      have ht := frm_term hm hp
      simp only [w_put_in_b1, w_put_in_b1_t1, w_put_in_b1_t2, wSeq, wSet, wAsg, wC, wIfS, wB, wOp, oI, oI0, asI, asS, asL, asLT, asT, asB, asA_some, asA_none, asO, asOL, asOD, asKey, asDic, asSq, oLen, oMod, oAdd, oSub, oMul, oDiv, oMax, oMin, oPlus, oEqX, oNeX, eqX_int, eqX_str, eqX_bl, oCmp, oLtX, oLeX, oGtX, oGeX, oIxX, oInX, wCB, wCons, wNil, wVar, wMove, nth, put, startR, wNext, wRet, wRetN, wDrop, wFor, wiR1, wiR2, wiX, itemsOf, wgName, wgTup, wgCons, wgNil, wLend, wLendT, seeR_cons, seeR_nil, seeO_d, seeO_none, seeO_ol, seeO_od, wJoin, wM, oAppend, oPop, oPopAt, wDPut, wDPop, wSortK, wDict0, wTup, wLst, wCall, wAnd, wOr, wNot, wAndV, wOrV, wNotV, wIf, wYes, wLc, wiEnumX, oListX, oTuple, oSort, oSortSet, oAll, oAny, S.fz, S.own, D.flat, txts_map, bools_map, txtKeys_map, List.length_map, List.map_cons, List.map_nil, List.length_cons, List.length_nil, List.cons_append, List.nil_append, List.replicate, decide_eq_true_eq, Bool.not_eq_true', Bool.not_true, Bool.not_false, if_true, if_false, Nat.zero_add, Nat.reduceAdd, Nat.reduceSub, ge_iff_le, true_and, and_true, zip_unzip, Bool.false_xor, Bool.true_xor, Bool.false_eq_true, Bool.true_eq_false, reduceIte, wipeR, dataR_cons, dataR_nil, dataO_d, dataO_none, dataO_ol, dataO_od, oDict, oIsi, tyD, isiB, wSl, wPart, wNoP, oSl, wDisp1, wDGet2, oRemove, atI_0, atI_1, atI_2, wiRev, revItems, oDictP, wForK, wiKeys, kD, oSortX, oPow, oBitAnd, oShl, oNeg, wUn, oInt, oStr, oDivmod, oIs, isD, wChain, wFz, wFzE, frzR, wLSet, wiZip, seqsD, wiVals, wiItems, wOIx, wNo, Option.isSome_some, oMulX, wM1, oSplit, oPart, oStrip1, oRep, oSum, intsD, wRaise, wLI, wLK
, wiR3, wLR, wDisp, wPairs, oReverse, oClear, oInsert, wRevL, wDZ, seqLT, oSortIT, wOFld, wSFld, asOI, setOI, putG, wPar, wiItemsC, wiValsC, wIndexL, wDZO, wLO, wiZip3]
      rw [signs_eq, List.map_map]
      refine forD_map (I := fun dc _ ρ => ∃ (o5 : Option S), ρ = [some (.d (fD f)), some (.d (mapD m)), some (.d (fD (putF done m))), some (.d (.str p)), some (.d (fD (dc.foldl (fun t c => mulF t (look m (one c))) oneF))), o5]) mono_name (sg p) (fun dc c ys2 ρ he2 hI => ?_) (fun ρ hI => ?_) _ ⟨_, rfl⟩
      · obtain ⟨o5, rfl⟩ := hI
        have hc : c ∈ LET := hp.le c (by rw [he2]; simp)
        have hdc := fold_term hm dc oneF (fun d hd => hp.le d (by rw [he2]; exact List.mem_append.mpr (.inl hd))) frm_one
        simp only [wSeq, wSet, wAsg, wC, wIfS, wB, wOp, oI, oI0, asI, asS, asL, asLT, asT, asB, asA_some, asA_none, asO, asOL, asOD, asKey, asDic, asSq, oLen, oMod, oAdd, oSub, oMul, oDiv, oMax, oMin, oPlus, oEqX, oNeX, eqX_int, eqX_str, eqX_bl, oCmp, oLtX, oLeX, oGtX, oGeX, oIxX, oInX, wCB, wCons, wNil, wVar, wMove, nth, put, startR, wNext, wRet, wRetN, wDrop, wFor, wiR1, wiR2, wiX, itemsOf, wgName, wgTup, wgCons, wgNil, wLend, wLendT, seeR_cons, seeR_nil, seeO_d, seeO_none, seeO_ol, seeO_od, wJoin, wM, oAppend, oPop, oPopAt, wDPut, wDPop, wSortK, wDict0, wTup, wLst, wCall, wAnd, wOr, wNot, wAndV, wOrV, wNotV, wIf, wYes, wLc, wiEnumX, oListX, oTuple, oSort, oSortSet, oAll, oAny, S.fz, S.own, D.flat, txts_map, bools_map, txtKeys_map, List.length_map, List.map_cons, List.map_nil, List.length_cons, List.length_nil, List.cons_append, List.nil_append, List.replicate, decide_eq_true_eq, Bool.not_eq_true', Bool.not_true, Bool.not_false, if_true, if_false, Nat.zero_add, Nat.reduceAdd, Nat.reduceSub, ge_iff_le, true_and, and_true, zip_unzip, Bool.false_xor, Bool.true_xor, Bool.false_eq_true, Bool.true_eq_false, reduceIte, wipeR, dataR_cons, dataR_nil, dataO_d, dataO_none, dataO_ol, dataO_od, oDict, oIsi, tyD, isiB, wSl, wPart, wNoP, oSl, wDisp1, wDGet2, oRemove, atI_0, atI_1, atI_2, wiRev, revItems, oDictP, wForK, wiKeys, kD, oSortX, oPow, oBitAnd, oShl, oNeg, wUn, oInt, oStr, oDivmod, oIs, isD, wChain, wFz, wFzE, frzR, wLSet, wiZip, seqsD, wiVals, wiItems, wOIx, wNo, Option.isSome_some, oMulX, wM1, oSplit, oPart, oStrip1, oRep, oSum, intsD, wRaise, wLI, wLK
, wiR3, wLR, wDisp, wPairs, oReverse, oClear, oInsert, wRevL, wDZ, seqLT, oSortIT, wOFld, wSFld, asOI, setOI, putG, wPar, wiItemsC, wiValsC, wIndexL, wDZO, wLO, wiZip3, Function.comp, sp_multiplied, asF_fD, mapD, mapK_zip, get_map]
        refine ⟨by decide, ⟨hdc, frm_look hm hc⟩, some (.d (.str (one c))), ?_⟩
        rw [List.foldl_append]; rfl
      · obtain ⟨o5, rfl⟩ := hI
        simp only [wSeq, wSet, wAsg, wC, wIfS, wB, wOp, oI, oI0, asI, asS, asL, asLT, asT, asB, asA_some, asA_none, asO, asOL, asOD, asKey, asDic, asSq, oLen, oMod, oAdd, oSub, oMul, oDiv, oMax, oMin, oPlus, oEqX, oNeX, eqX_int, eqX_str, eqX_bl, oCmp, oLtX, oLeX, oGtX, oGeX, oIxX, oInX, wCB, wCons, wNil, wVar, wMove, nth, put, startR, wNext, wRet, wRetN, wDrop, wFor, wiR1, wiR2, wiX, itemsOf, wgName, wgTup, wgCons, wgNil, wLend, wLendT, seeR_cons, seeR_nil, seeO_d, seeO_none, seeO_ol, seeO_od, wJoin, wM, oAppend, oPop, oPopAt, wDPut, wDPop, wSortK, wDict0, wTup, wLst, wCall, wAnd, wOr, wNot, wAndV, wOrV, wNotV, wIf, wYes, wLc, wiEnumX, oListX, oTuple, oSort, oSortSet, oAll, oAny, S.fz, S.own, D.flat, txts_map, bools_map, txtKeys_map, List.length_map, List.map_cons, List.map_nil, List.length_cons, List.length_nil, List.cons_append, List.nil_append, List.replicate, decide_eq_true_eq, Bool.not_eq_true', Bool.not_true, Bool.not_false, if_true, if_false, Nat.zero_add, Nat.reduceAdd, Nat.reduceSub, ge_iff_le, true_and, and_true, zip_unzip, Bool.false_xor, Bool.true_xor, Bool.false_eq_true, Bool.true_eq_false, reduceIte, wipeR, dataR_cons, dataR_nil, dataO_d, dataO_none, dataO_ol, dataO_od, oDict, oIsi, tyD, isiB, wSl, wPart, wNoP, oSl, wDisp1, wDGet2, oRemove, atI_0, atI_1, atI_2, wiRev, revItems, oDictP, wForK, wiKeys, kD, oSortX, oPow, oBitAnd, oShl, oNeg, wUn, oInt, oStr, oDivmod, oIs, isD, wChain, wFz, wFzE, frzR, wLSet, wiZip, seqsD, wiVals, wiItems, wOIx, wNo, Option.isSome_some, oMulX, wM1, oSplit, oPart, oStrip1, oRep, oSum, intsD, wRaise, wLI, wLK
, wiR3, wLR, wDisp, wPairs, oReverse, oClear, oInsert, wRevL, wDZ, seqLT, oSortIT, wOFld, wSFld, asOI, setOI, putG, wPar, wiItemsC, wiValsC, wIndexL, wDZO, wLO, wiZip3, sp_added, asF_fD]
        refine ⟨⟨by have := hd.len; omega, by have := ht.len; exact Nat.le_trans this (by decide)⟩, some (.d (.str p)), some (.d (fD (termF m p))), o5, ?_⟩
        rw [putF_snoc]; rfl
    · obtain ⟨o3, o4, o5, rfl⟩ := hI
      simp only [wSeq, wSet, wAsg, wC, wIfS, wB, wOp, oI, oI0, asI, asS, asL, asLT, asT, asB, asA_some, asA_none, asO, asOL, asOD, asKey, asDic, asSq, oLen, oMod, oAdd, oSub, oMul, oDiv, oMax, oMin, oPlus, oEqX, oNeX, eqX_int, eqX_str, eqX_bl, oCmp, oLtX, oLeX, oGtX, oGeX, oIxX, oInX, wCB, wCons, wNil, wVar, wMove, nth, put, startR, wNext, wRet, wRetN, wDrop, wFor, wiR1, wiR2, wiX, itemsOf, wgName, wgTup, wgCons, wgNil, wLend, wLendT, seeR_cons, seeR_nil, seeO_d, seeO_none, seeO_ol, seeO_od, wJoin, wM, oAppend, oPop, oPopAt, wDPut, wDPop, wSortK, wDict0, wTup, wLst, wCall, wAnd, wOr, wNot, wAndV, wOrV, wNotV, wIf, wYes, wLc, wiEnumX, oListX, oTuple, oSort, oSortSet, oAll, oAny, S.fz, S.own, D.flat, txts_map, bools_map, txtKeys_map, List.length_map, List.map_cons, List.map_nil, List.length_cons, List.length_nil, List.cons_append, List.nil_append, List.replicate, decide_eq_true_eq, Bool.not_eq_true', Bool.not_true, Bool.not_false, if_true, if_false, Nat.zero_add, Nat.reduceAdd, Nat.reduceSub, ge_iff_le, true_and, and_true, zip_unzip, Bool.false_xor, Bool.true_xor, Bool.false_eq_true, Bool.true_eq_false, reduceIte, wipeR, dataR_cons, dataR_nil, dataO_d, dataO_none, dataO_ol, dataO_od, oDict, oIsi, tyD, isiB, wSl, wPart, wNoP, oSl, wDisp1, wDGet2, oRemove, atI_0, atI_1, atI_2, wiRev, revItems, oDictP, wForK, wiKeys, kD, oSortX, oPow, oBitAnd, oShl, oNeg, wUn, oInt, oStr, oDivmod, oIs, isD, wChain, wFz, wFzE, frzR, wLSet, wiZip, seqsD, wiVals, wiItems, wOIx, wNo, Option.isSome_some, oMulX, wM1, oSplit, oPart, oStrip1, oRep, oSum, intsD, wRaise, wLI, wLK
, wiR3, wLR, wDisp, wPairs, oReverse, oClear, oInsert, wRevL, wDZ, seqLT, oSortIT, wOFld, wSFld, asOI, setOI, putG, wPar, wiItemsC, wiValsC, wIndexL, wDZO, wLO, wiZip3]
      exact hq
  · exact h.elim
def fixF (f : List Str) (c : Nat) (t : Bool) : List Str := putF f [(one c, if t = true then oneF else [])]
def updR (r : Nat → Bool) (c : Nat) (t : Bool) : Nat → Bool := fun d => if d = c then t else r d
theorem look_fix {c d : Nat} {t : Bool} : look [(one c, if t = true then oneF else [])] (one d) = if d = c then (if t = true then oneF else []) else [one d] := by
  unfold look
  by_cases h : d = c
  · subst h; simp
  · have : ¬ one c = one d := fun e => h (one_inj e).symm
    simp [this, h]
theorem frm_fixd {c : Nat} {t : Bool} : ∀ q ∈ [(one c, if t = true then oneF else [])], Frm q.2 := fun q hq => by
  simp at hq; subst hq
  cases t
  · exact frm_nil
  · exact frm_one
theorem frm_fix {f : List Str} {c : Nat} {t : Bool} (hf : Frm f) : Frm (fixF f c t) := frm_put frm_fixd hf.prd
theorem val_fix (r : Nat → Bool) (f : List Str) (c : Nat) (t : Bool) : val r (fixF f c t) = val (updR r c t) f := by
  rw [fixF, val_put]
  congr 1
  funext d
  rw [look_fix]
  unfold updR
  by_cases h : d = c
  · rw [if_pos h, if_pos h]
    cases t
    · rfl
    · exact val_one r
  · rw [if_neg h, if_neg h, val_letter]
theorem overP_fix {T : Nat → Prop} {f : List Str} {c : Nat} {t : Bool} (h : OverP T f) : OverP (fun d => T d ∧ d ≠ c) (fixF f c t) := overP_put fun p hp d hd => by
  rw [look_fix]
  by_cases e : d = c
  · rw [if_pos e]
    cases t
    · exact overP_nil
    · exact overP_one
  · rw [if_neg e]
    exact overP_letter ⟨h p hp d hd, e⟩
def sp_fixed_at : DSp := fun ds P _ => match ds with
  | [x, .str s, .bl t] => asF x fun f => ∃ c, s = one c ∧ Frm f ∧ P (.d (fD (fixF f c t)))
  | _ => False
abbrev N_fixed_at : List Str := ["form", "letter", "truth"]
def w_fixed_at_t1 : WS := (wRet (wCall sp_put_in (fun _ _ => False) (wCons (wVar 0) (wCons (wDisp1 (wVar 1) (wC gD_NEVER)) wNil))))
def w_fixed_at : WS := wSeq (wIfS (wB (wVar 2)) (wRet (wCall sp_put_in (fun _ _ => False) (wCons (wVar 0) (wCons (wDisp1 (wVar 1) (wC gD_ALWAYS)) wNil)))) wNext)
    w_fixed_at_t1
theorem len_fixed_at {ds Q px} (h : sp_fixed_at ds Q px) : ds.length = 3 := by unfold sp_fixed_at at h; split at h <;> first | rfl | exact h.elim
theorem rd_fixed_at {ds Q px} (h : sp_fixed_at ds Q px) : w_fixed_at ⟨fun _ => Q (.d .non), Q, fun _ => False, fun _ => False⟩ (startR N_fixed_at ds) := by
  unfold sp_fixed_at at h
  split at h
  · rename_i x s t
    obtain ⟨f, rfl, c, rfl, hf, hq⟩ := asF_of h
    clear h
    unfold w_fixed_at
    simp only [N_fixed_at, w_fixed_at_t1, wSeq, wSet, wAsg, wC, wIfS, wB, wOp, oI, oI0, asI, asS, asL, asLT, asT, asB, asA_some, asA_none, asO, asOL, asOD, asKey, asDic, asSq, oLen, oMod, oAdd, oSub, oMul, oDiv, oMax, oMin, oPlus, oEqX, oNeX, eqX_int, eqX_str, eqX_bl, oCmp, oLtX, oLeX, oGtX, oGeX, oIxX, oInX, wCB, wCons, wNil, wVar, wMove, nth, put, startR, wNext, wRet, wRetN, wDrop, wFor, wiR1, wiR2, wiX, itemsOf, wgName, wgTup, wgCons, wgNil, wLend, wLendT, seeR_cons, seeR_nil, seeO_d, seeO_none, seeO_ol, seeO_od, wJoin, wM, oAppend, oPop, oPopAt, wDPut, wDPop, wSortK, wDict0, wTup, wLst, wCall, wAnd, wOr, wNot, wAndV, wOrV, wNotV, wIf, wYes, wLc, wiEnumX, oListX, oTuple, oSort, oSortSet, oAll, oAny, S.fz, S.own, D.flat, txts_map, bools_map, txtKeys_map, List.length_map, List.map_cons, List.map_nil, List.length_cons, List.length_nil, List.cons_append, List.nil_append, List.replicate, decide_eq_true_eq, Bool.not_eq_true', Bool.not_true, Bool.not_false, if_true, if_false, Nat.zero_add, Nat.reduceAdd, Nat.reduceSub, ge_iff_le, true_and, and_true, zip_unzip, Bool.false_xor, Bool.true_xor, Bool.false_eq_true, Bool.true_eq_false, reduceIte, wipeR, dataR_cons, dataR_nil, dataO_d, dataO_none, dataO_ol, dataO_od, oDict, oIsi, tyD, isiB, wSl, wPart, wNoP, oSl, wDisp1, wDGet2, oRemove, atI_0, atI_1, atI_2, wiRev, revItems, oDictP, wForK, wiKeys, kD, oSortX, oPow, oBitAnd, oShl, oNeg, wUn, oInt, oStr, oDivmod, oIs, isD, wChain, wFz, wFzE, frzR, wLSet, wiZip, seqsD, wiVals, wiItems, wOIx, wNo, Option.isSome_some, oMulX, wM1, oSplit, oPart, oStrip1, oRep, oSum, intsD, wRaise, wLI, wLK
, wiR3, wLR, wDisp, wPairs, oReverse, oClear, oInsert, wRevL, wDZ, seqLT, oSortIT, wOFld, wSFld, asOI, setOI, putG, wPar, wiItemsC, wiValsC, wIndexL, wDZO, wLO, wiZip3, sp_put_in, asF_fD]
    cases t with
    | true =>
      simp only [wSeq, wSet, wAsg, wC, wIfS, wB, wOp, oI, oI0, asI, asS, asL, asLT, asT, asB, asA_some, asA_none, asO, asOL, asOD, asKey, asDic, asSq, oLen, oMod, oAdd, oSub, oMul, oDiv, oMax, oMin, oPlus, oEqX, oNeX, eqX_int, eqX_str, eqX_bl, oCmp, oLtX, oLeX, oGtX, oGeX, oIxX, oInX, wCB, wCons, wNil, wVar, wMove, nth, put, startR, wNext, wRet, wRetN, wDrop, wFor, wiR1, wiR2, wiX, itemsOf, wgName, wgTup, wgCons, wgNil, wLend, wLendT, seeR_cons, seeR_nil, seeO_d, seeO_none, seeO_ol, seeO_od, wJoin, wM, oAppend, oPop, oPopAt, wDPut, wDPop, wSortK, wDict0, wTup, wLst, wCall, wAnd, wOr, wNot, wAndV, wOrV, wNotV, wIf, wYes, wLc, wiEnumX, oListX, oTuple, oSort, oSortSet, oAll, oAny, S.fz, S.own, D.flat, txts_map, bools_map, txtKeys_map, List.length_map, List.map_cons, List.map_nil, List.length_cons, List.length_nil, List.cons_append, List.nil_append, List.replicate, decide_eq_true_eq, Bool.not_eq_true', Bool.not_true, Bool.not_false, if_true, if_false, Nat.zero_add, Nat.reduceAdd, Nat.reduceSub, ge_iff_le, true_and, and_true, zip_unzip, Bool.false_xor, Bool.true_xor, Bool.false_eq_true, Bool.true_eq_false, reduceIte, wipeR, dataR_cons, dataR_nil, dataO_d, dataO_none, dataO_ol, dataO_od, oDict, oIsi, tyD, isiB, wSl, wPart, wNoP, oSl, wDisp1, wDGet2, oRemove, atI_0, atI_1, atI_2, wiRev, revItems, oDictP, wForK, wiKeys, kD, oSortX, oPow, oBitAnd, oShl, oNeg, wUn, oInt, oStr, oDivmod, oIs, isD, wChain, wFz, wFzE, frzR, wLSet, wiZip, seqsD, wiVals, wiItems, wOIx, wNo, Option.isSome_some, oMulX, wM1, oSplit, oPart, oStrip1, oRep, oSum, intsD, wRaise, wLI, wLK
, wiR3, wLR, wDisp, wPairs, oReverse, oClear, oInsert, wRevL, wDZ, seqLT, oSortIT, wOFld, wSFld, asOI, setOI, putG, wPar, wiItemsC, wiValsC, wIndexL, wDZO, wLO, wiZip3]
      exact ⟨[(one c, oneF)], rfl, ⟨hf, frm_fixd (t := true)⟩, hq⟩
    | false =>
      simp only [wSeq, wSet, wAsg, wC, wIfS, wB, wOp, oI, oI0, asI, asS, asL, asLT, asT, asB, asA_some, asA_none, asO, asOL, asOD, asKey, asDic, asSq, oLen, oMod, oAdd, oSub, oMul, oDiv, oMax, oMin, oPlus, oEqX, oNeX, eqX_int, eqX_str, eqX_bl, oCmp, oLtX, oLeX, oGtX, oGeX, oIxX, oInX, wCB, wCons, wNil, wVar, wMove, nth, put, startR, wNext, wRet, wRetN, wDrop, wFor, wiR1, wiR2, wiX, itemsOf, wgName, wgTup, wgCons, wgNil, wLend, wLendT, seeR_cons, seeR_nil, seeO_d, seeO_none, seeO_ol, seeO_od, wJoin, wM, oAppend, oPop, oPopAt, wDPut, wDPop, wSortK, wDict0, wTup, wLst, wCall, wAnd, wOr, wNot, wAndV, wOrV, wNotV, wIf, wYes, wLc, wiEnumX, oListX, oTuple, oSort, oSortSet, oAll, oAny, S.fz, S.own, D.flat, txts_map, bools_map, txtKeys_map, List.length_map, List.map_cons, List.map_nil, List.length_cons, List.length_nil, List.cons_append, List.nil_append, List.replicate, decide_eq_true_eq, Bool.not_eq_true', Bool.not_true, Bool.not_false, if_true, if_false, Nat.zero_add, Nat.reduceAdd, Nat.reduceSub, ge_iff_le, true_and, and_true, zip_unzip, Bool.false_xor, Bool.true_xor, Bool.false_eq_true, Bool.true_eq_false, reduceIte, wipeR, dataR_cons, dataR_nil, dataO_d, dataO_none, dataO_ol, dataO_od, oDict, oIsi, tyD, isiB, wSl, wPart, wNoP, oSl, wDisp1, wDGet2, oRemove, atI_0, atI_1, atI_2, wiRev, revItems, oDictP, wForK, wiKeys, kD, oSortX, oPow, oBitAnd, oShl, oNeg, wUn, oInt, oStr, oDivmod, oIs, isD, wChain, wFz, wFzE, frzR, wLSet, wiZip, seqsD, wiVals, wiItems, wOIx, wNo, Option.isSome_some, oMulX, wM1, oSplit, oPart, oStrip1, oRep, oSum, intsD, wRaise, wLI, wLK
, wiR3, wLR, wDisp, wPairs, oReverse, oClear, oInsert, wRevL, wDZ, seqLT, oSortIT, wOFld, wSFld, asOI, setOI, putG, wPar, wiItemsC, wiValsC, wIndexL, wDZO, wLO, wiZip3]
      exact ⟨[(one c, [])], rfl, ⟨hf, frm_fixd (t := false)⟩, hq⟩
  · exact h.elim
def someS (f : List Str) (c : Nat) : List Str := joinF (fixF f c false) (fixF f c true)
def everyS (f : List Str) (c : Nat) : List Str := mulF (fixF f c false) (fixF f c true)
def someF (f : List Str) (cs : List Nat) : List Str := cs.foldl someS f
def everyF (f : List Str) (cs : List Nat) : List Str := cs.foldl everyS f
theorem frm_someS {f : List Str} {c : Nat} (h : Frm f) : Frm (someS f c) := frm_join (frm_fix h) (frm_fix h)
theorem frm_everyS {f : List Str} {c : Nat} (h : Frm f) : Frm (everyS f c) := frm_mul (frm_fix h) (frm_fix h)
theorem frm_some : ∀ {cs : List Nat} {f : List Str}, Frm f → Frm (someF f cs)
  | [], _, h => h
  | _ :: cs, _, h => frm_some (cs := cs) (frm_someS h)
theorem frm_every : ∀ {cs : List Nat} {f : List Str}, Frm f → Frm (everyF f cs)
  | [], _, h => h
  | _ :: cs, _, h => frm_every (cs := cs) (frm_everyS h)
theorem overP_some : ∀ {cs : List Nat} {T : Nat → Prop} {f : List Str}, OverP T f → OverP (fun d => T d ∧ d ∉ cs) (someF f cs)
  | [], T, f, h => fun p hp c hc => ⟨h p hp c hc, by simp⟩
  | c :: cs, T, f, h => fun p hp d hd => by
    have := overP_some (cs := cs) (f := someS f c) (overP_join (overP_fix h) (overP_fix h)) p hp d hd
    exact ⟨this.1.1, fun z => (List.mem_cons.mp z).elim this.1.2 this.2⟩
theorem overP_every : ∀ {cs : List Nat} {T : Nat → Prop} {f : List Str}, OverP T f → OverP (fun d => T d ∧ d ∉ cs) (everyF f cs)
  | [], T, f, h => fun p hp c hc => ⟨h p hp c hc, by simp⟩
  | c :: cs, T, f, h => fun p hp d hd => by
    have := overP_every (cs := cs) (f := everyS f c) (overP_mul (overP_fix h) (overP_fix h)) p hp d hd
    exact ⟨this.1.1, fun z => (List.mem_cons.mp z).elim this.1.2 this.2⟩
theorem updR_self (r : Nat → Bool) (c : Nat) : updR r c (r c) = r := by funext d; unfold updR; split <;> simp_all
theorem updR_of {r : Nat → Bool} {c : Nat} {t : Bool} (h : r c = t) : updR r c t = r := by subst h; exact updR_self r c
def sp_some_of : DSp := fun ds P _ => match ds with
  | [x, .str s] => asF x fun f => Frm f ∧ P (.d (fD (someF f (sg s))))
  | _ => False
def sp_every_of : DSp := fun ds P _ => match ds with
  | [x, .str s] => asF x fun f => Frm f ∧ P (.d (fD (everyF f (sg s))))
  | _ => False
abbrev N_some_of : List Str := ["form", "letters", "letter"]
def w_some_of_t1 : WS := (wRet (wVar 0))
def w_some_of : WS := wSeq (wFor (wiX (wVar 1)) (wgName 2)
      (wAsg (wCall sp_joined (fun _ _ => False) (wCons (wCall sp_fixed_at (fun _ _ => False) (wCons (wVar 0) (wCons (wVar 2) (wCons (wC (.bl false)) wNil)))) (wCons (wCall sp_fixed_at (fun _ _ => False) (wCons (wVar 0) (wCons (wVar 2) (wCons (wC (.bl true)) wNil)))) wNil))) (wgName 0)))
    w_some_of_t1
theorem len_some_of {ds Q px} (h : sp_some_of ds Q px) : ds.length = 2 := by unfold sp_some_of at h; split at h <;> first | rfl | exact h.elim
theorem rd_some_of {ds Q px} (h : sp_some_of ds Q px) : w_some_of ⟨fun _ => Q (.d .non), Q, fun _ => False, fun _ => False⟩ (startR N_some_of ds) := by
  unfold sp_some_of at h
  split at h
  · obtain ⟨f, rfl, hf, hq⟩ := asF_of h
    clear h
    rename_i s
    unfold w_some_of
    simp only [N_some_of, w_some_of_t1, wSeq, wSet, wAsg, wC, wIfS, wB, wOp, oI, oI0, asI, asS, asL, asLT, asT, asB, asA_some, asA_none, asO, asOL, asOD, asKey, asDic, asSq, oLen, oMod, oAdd, oSub, oMul, oDiv, oMax, oMin, oPlus, oEqX, oNeX, eqX_int, eqX_str, eqX_bl, oCmp, oLtX, oLeX, oGtX, oGeX, oIxX, oInX, wCB, wCons, wNil, wVar, wMove, nth, put, startR, wNext, wRet, wRetN, wDrop, wFor, wiR1, wiR2, wiX, itemsOf, wgName, wgTup, wgCons, wgNil, wLend, wLendT, seeR_cons, seeR_nil, seeO_d, seeO_none, seeO_ol, seeO_od, wJoin, wM, oAppend, oPop, oPopAt, wDPut, wDPop, wSortK, wDict0, wTup, wLst, wCall, wAnd, wOr, wNot, wAndV, wOrV, wNotV, wIf, wYes, wLc, wiEnumX, oListX, oTuple, oSort, oSortSet, oAll, oAny, S.fz, S.own, D.flat, txts_map, bools_map, txtKeys_map, List.length_map, List.map_cons, List.map_nil, List.length_cons, List.length_nil, List.cons_append, List.nil_append, List.replicate, decide_eq_true_eq, Bool.not_eq_true', Bool.not_true, Bool.not_false, if_true, if_false, Nat.zero_add, Nat.reduceAdd, Nat.reduceSub, ge_iff_le, true_and, and_true, zip_unzip, Bool.false_xor, Bool.true_xor, Bool.false_eq_true, Bool.true_eq_false, reduceIte, wipeR, dataR_cons, dataR_nil, dataO_d, dataO_none, dataO_ol, dataO_od, oDict, oIsi, tyD, isiB, wSl, wPart, wNoP, oSl, wDisp1, wDGet2, oRemove, atI_0, atI_1, atI_2, wiRev, revItems, oDictP, wForK, wiKeys, kD, oSortX, oPow, oBitAnd, oShl, oNeg, wUn, oInt, oStr, oDivmod, oIs, isD, wChain, wFz, wFzE, frzR, wLSet, wiZip, seqsD, wiVals, wiItems, wOIx, wNo, Option.isSome_some, oMulX, wM1, oSplit, oPart, oStrip1, oRep, oSum, intsD, wRaise, wLI, wLK
, wiR3, wLR, wDisp, wPairs, oReverse, oClear, oInsert, wRevL, wDZ, seqLT, oSortIT, wOFld, wSFld, asOI, setOI, putG, wPar, wiItemsC, wiValsC, wIndexL, wDZO, wLO, wiZip3]
    rw [signs_eq, List.map_map]
    refine forD_map (I := fun done _ ρ => ∃ (o2 : Option S), ρ = [some (.d (fD (someF f done))), some (.d (.str s)), o2]) mono_name (sg s) (fun done c ys ρ he hI => ?_) (fun ρ hI => ?_) _ ⟨_, rfl⟩
    · obtain ⟨o2, rfl⟩ := hI
      have hd : Frm (someF f done) := frm_some hf
      simp only [wSeq, wSet, wAsg, wC, wIfS, wB, wOp, oI, oI0, asI, asS, asL, asLT, asT, asB, asA_some, asA_none, asO, asOL, asOD, asKey, asDic, asSq, oLen, oMod, oAdd, oSub, oMul, oDiv, oMax, oMin, oPlus, oEqX, oNeX, eqX_int, eqX_str, eqX_bl, oCmp, oLtX, oLeX, oGtX, oGeX, oIxX, oInX, wCB, wCons, wNil, wVar, wMove, nth, put, startR, wNext, wRet, wRetN, wDrop, wFor, wiR1, wiR2, wiX, itemsOf, wgName, wgTup, wgCons, wgNil, wLend, wLendT, seeR_cons, seeR_nil, seeO_d, seeO_none, seeO_ol, seeO_od, wJoin, wM, oAppend, oPop, oPopAt, wDPut, wDPop, wSortK, wDict0, wTup, wLst, wCall, wAnd, wOr, wNot, wAndV, wOrV, wNotV, wIf, wYes, wLc, wiEnumX, oListX, oTuple, oSort, oSortSet, oAll, oAny, S.fz, S.own, D.flat, txts_map, bools_map, txtKeys_map, List.length_map, List.map_cons, List.map_nil, List.length_cons, List.length_nil, List.cons_append, List.nil_append, List.replicate, decide_eq_true_eq, Bool.not_eq_true', Bool.not_true, Bool.not_false, if_true, if_false, Nat.zero_add, Nat.reduceAdd, Nat.reduceSub, ge_iff_le, true_and, and_true, zip_unzip, Bool.false_xor, Bool.true_xor, Bool.false_eq_true, Bool.true_eq_false, reduceIte, wipeR, dataR_cons, dataR_nil, dataO_d, dataO_none, dataO_ol, dataO_od, oDict, oIsi, tyD, isiB, wSl, wPart, wNoP, oSl, wDisp1, wDGet2, oRemove, atI_0, atI_1, atI_2, wiRev, revItems, oDictP, wForK, wiKeys, kD, oSortX, oPow, oBitAnd, oShl, oNeg, wUn, oInt, oStr, oDivmod, oIs, isD, wChain, wFz, wFzE, frzR, wLSet, wiZip, seqsD, wiVals, wiItems, wOIx, wNo, Option.isSome_some, oMulX, wM1, oSplit, oPart, oStrip1, oRep, oSum, intsD, wRaise, wLI, wLK
, wiR3, wLR, wDisp, wPairs, oReverse, oClear, oInsert, wRevL, wDZ, seqLT, oSortIT, wOFld, wSFld, asOI, setOI, putG, wPar, wiItemsC, wiValsC, wIndexL, wDZO, wLO, wiZip3, Function.comp, sp_fixed_at, sp_joined, asF_fD]
      refine ⟨c, rfl, hd, c, rfl, hd, ⟨frm_fix hd, frm_fix hd⟩, some (.d (.str (one c))), ?_⟩
      rw [someF, someF, List.foldl_append]; rfl
    · obtain ⟨o2, rfl⟩ := hI
      simp only [wSeq, wSet, wAsg, wC, wIfS, wB, wOp, oI, oI0, asI, asS, asL, asLT, asT, asB, asA_some, asA_none, asO, asOL, asOD, asKey, asDic, asSq, oLen, oMod, oAdd, oSub, oMul, oDiv, oMax, oMin, oPlus, oEqX, oNeX, eqX_int, eqX_str, eqX_bl, oCmp, oLtX, oLeX, oGtX, oGeX, oIxX, oInX, wCB, wCons, wNil, wVar, wMove, nth, put, startR, wNext, wRet, wRetN, wDrop, wFor, wiR1, wiR2, wiX, itemsOf, wgName, wgTup, wgCons, wgNil, wLend, wLendT, seeR_cons, seeR_nil, seeO_d, seeO_none, seeO_ol, seeO_od, wJoin, wM, oAppend, oPop, oPopAt, wDPut, wDPop, wSortK, wDict0, wTup, wLst, wCall, wAnd, wOr, wNot, wAndV, wOrV, wNotV, wIf, wYes, wLc, wiEnumX, oListX, oTuple, oSort, oSortSet, oAll, oAny, S.fz, S.own, D.flat, txts_map, bools_map, txtKeys_map, List.length_map, List.map_cons, List.map_nil, List.length_cons, List.length_nil, List.cons_append, List.nil_append, List.replicate, decide_eq_true_eq, Bool.not_eq_true', Bool.not_true, Bool.not_false, if_true, if_false, Nat.zero_add, Nat.reduceAdd, Nat.reduceSub, ge_iff_le, true_and, and_true, zip_unzip, Bool.false_xor, Bool.true_xor, Bool.false_eq_true, Bool.true_eq_false, reduceIte, wipeR, dataR_cons, dataR_nil, dataO_d, dataO_none, dataO_ol, dataO_od, oDict, oIsi, tyD, isiB, wSl, wPart, wNoP, oSl, wDisp1, wDGet2, oRemove, atI_0, atI_1, atI_2, wiRev, revItems, oDictP, wForK, wiKeys, kD, oSortX, oPow, oBitAnd, oShl, oNeg, wUn, oInt, oStr, oDivmod, oIs, isD, wChain, wFz, wFzE, frzR, wLSet, wiZip, seqsD, wiVals, wiItems, wOIx, wNo, Option.isSome_some, oMulX, wM1, oSplit, oPart, oStrip1, oRep, oSum, intsD, wRaise, wLI, wLK
, wiR3, wLR, wDisp, wPairs, oReverse, oClear, oInsert, wRevL, wDZ, seqLT, oSortIT, wOFld, wSFld, asOI, setOI, putG, wPar, wiItemsC, wiValsC, wIndexL, wDZO, wLO, wiZip3]
      exact hq
  · exact h.elim
abbrev N_every_of : List Str := ["form", "letters", "letter"]
def w_every_of_t1 : WS := (wRet (wVar 0))
def w_every_of : WS := wSeq (wFor (wiX (wVar 1)) (wgName 2)
      (wAsg (wCall sp_multiplied (fun _ _ => False) (wCons (wCall sp_fixed_at (fun _ _ => False) (wCons (wVar 0) (wCons (wVar 2) (wCons (wC (.bl false)) wNil)))) (wCons (wCall sp_fixed_at (fun _ _ => False) (wCons (wVar 0) (wCons (wVar 2) (wCons (wC (.bl true)) wNil)))) wNil))) (wgName 0)))
    w_every_of_t1
theorem len_every_of {ds Q px} (h : sp_every_of ds Q px) : ds.length = 2 := by unfold sp_every_of at h; split at h <;> first | rfl | exact h.elim
theorem rd_every_of {ds Q px} (h : sp_every_of ds Q px) : w_every_of ⟨fun _ => Q (.d .non), Q, fun _ => False, fun _ => False⟩ (startR N_every_of ds) := by
  unfold sp_every_of at h
  split at h
  · obtain ⟨f, rfl, hf, hq⟩ := asF_of h
    clear h
    rename_i s
    unfold w_every_of
    simp only [N_every_of, w_every_of_t1, wSeq, wSet, wAsg, wC, wIfS, wB, wOp, oI, oI0, asI, asS, asL, asLT, asT, asB, asA_some, asA_none, asO, asOL, asOD, asKey, asDic, asSq, oLen, oMod, oAdd, oSub, oMul, oDiv, oMax, oMin, oPlus, oEqX, oNeX, eqX_int, eqX_str, eqX_bl, oCmp, oLtX, oLeX, oGtX, oGeX, oIxX, oInX, wCB, wCons, wNil, wVar, wMove, nth, put, startR, wNext, wRet, wRetN, wDrop, wFor, wiR1, wiR2, wiX, itemsOf, wgName, wgTup, wgCons, wgNil, wLend, wLendT, seeR_cons, seeR_nil, seeO_d, seeO_none, seeO_ol, seeO_od, wJoin, wM, oAppend, oPop, oPopAt, wDPut, wDPop, wSortK, wDict0, wTup, wLst, wCall, wAnd, wOr, wNot, wAndV, wOrV, wNotV, wIf, wYes, wLc, wiEnumX, oListX, oTuple, oSort, oSortSet, oAll, oAny, S.fz, S.own, D.flat, txts_map, bools_map, txtKeys_map, List.length_map, List.map_cons, List.map_nil, List.length_cons, List.length_nil, List.cons_append, List.nil_append, List.replicate, decide_eq_true_eq, Bool.not_eq_true', Bool.not_true, Bool.not_false, if_true, if_false, Nat.zero_add, Nat.reduceAdd, Nat.reduceSub, ge_iff_le, true_and, and_true, zip_unzip, Bool.false_xor, Bool.true_xor, Bool.false_eq_true, Bool.true_eq_false, reduceIte, wipeR, dataR_cons, dataR_nil, dataO_d, dataO_none, dataO_ol, dataO_od, oDict, oIsi, tyD, isiB, wSl, wPart, wNoP, oSl, wDisp1, wDGet2, oRemove, atI_0, atI_1, atI_2, wiRev, revItems, oDictP, wForK, wiKeys, kD, oSortX, oPow, oBitAnd, oShl, oNeg, wUn, oInt, oStr, oDivmod, oIs, isD, wChain, wFz, wFzE, frzR, wLSet, wiZip, seqsD, wiVals, wiItems, wOIx, wNo, Option.isSome_some, oMulX, wM1, oSplit, oPart, oStrip1, oRep, oSum, intsD, wRaise, wLI, wLK
, wiR3, wLR, wDisp, wPairs, oReverse, oClear, oInsert, wRevL, wDZ, seqLT, oSortIT, wOFld, wSFld, asOI, setOI, putG, wPar, wiItemsC, wiValsC, wIndexL, wDZO, wLO, wiZip3]
    rw [signs_eq, List.map_map]
    refine forD_map (I := fun done _ ρ => ∃ (o2 : Option S), ρ = [some (.d (fD (everyF f done))), some (.d (.str s)), o2]) mono_name (sg s) (fun done c ys ρ he hI => ?_) (fun ρ hI => ?_) _ ⟨_, rfl⟩
    · obtain ⟨o2, rfl⟩ := hI
      have hd : Frm (everyF f done) := frm_every hf
      simp only [wSeq, wSet, wAsg, wC, wIfS, wB, wOp, oI, oI0, asI, asS, asL, asLT, asT, asB, asA_some, asA_none, asO, asOL, asOD, asKey, asDic, asSq, oLen, oMod, oAdd, oSub, oMul, oDiv, oMax, oMin, oPlus, oEqX, oNeX, eqX_int, eqX_str, eqX_bl, oCmp, oLtX, oLeX, oGtX, oGeX, oIxX, oInX, wCB, wCons, wNil, wVar, wMove, nth, put, startR, wNext, wRet, wRetN, wDrop, wFor, wiR1, wiR2, wiX, itemsOf, wgName, wgTup, wgCons, wgNil, wLend, wLendT, seeR_cons, seeR_nil, seeO_d, seeO_none, seeO_ol, seeO_od, wJoin, wM, oAppend, oPop, oPopAt, wDPut, wDPop, wSortK, wDict0, wTup, wLst, wCall, wAnd, wOr, wNot, wAndV, wOrV, wNotV, wIf, wYes, wLc, wiEnumX, oListX, oTuple, oSort, oSortSet, oAll, oAny, S.fz, S.own, D.flat, txts_map, bools_map, txtKeys_map, List.length_map, List.map_cons, List.map_nil, List.length_cons, List.length_nil, List.cons_append, List.nil_append, List.replicate, decide_eq_true_eq, Bool.not_eq_true', Bool.not_true, Bool.not_false, if_true, if_false, Nat.zero_add, Nat.reduceAdd, Nat.reduceSub, ge_iff_le, true_and, and_true, zip_unzip, Bool.false_xor, Bool.true_xor, Bool.false_eq_true, Bool.true_eq_false, reduceIte, wipeR, dataR_cons, dataR_nil, dataO_d, dataO_none, dataO_ol, dataO_od, oDict, oIsi, tyD, isiB, wSl, wPart, wNoP, oSl, wDisp1, wDGet2, oRemove, atI_0, atI_1, atI_2, wiRev, revItems, oDictP, wForK, wiKeys, kD, oSortX, oPow, oBitAnd, oShl, oNeg, wUn, oInt, oStr, oDivmod, oIs, isD, wChain, wFz, wFzE, frzR, wLSet, wiZip, seqsD, wiVals, wiItems, wOIx, wNo, Option.isSome_some, oMulX, wM1, oSplit, oPart, oStrip1, oRep, oSum, intsD, wRaise, wLI, wLK
, wiR3, wLR, wDisp, wPairs, oReverse, oClear, oInsert, wRevL, wDZ, seqLT, oSortIT, wOFld, wSFld, asOI, setOI, putG, wPar, wiItemsC, wiValsC, wIndexL, wDZO, wLO, wiZip3, Function.comp, sp_fixed_at, sp_multiplied, asF_fD]
      refine ⟨c, rfl, hd, c, rfl, hd, ⟨frm_fix hd, frm_fix hd⟩, some (.d (.str (one c))), ?_⟩
      rw [everyF, everyF, List.foldl_append]; rfl
    · obtain ⟨o2, rfl⟩ := hI
      simp only [wSeq, wSet, wAsg, wC, wIfS, wB, wOp, oI, oI0, asI, asS, asL, asLT, asT, asB, asA_some, asA_none, asO, asOL, asOD, asKey, asDic, asSq, oLen, oMod, oAdd, oSub, oMul, oDiv, oMax, oMin, oPlus, oEqX, oNeX, eqX_int, eqX_str, eqX_bl, oCmp, oLtX, oLeX, oGtX, oGeX, oIxX, oInX, wCB, wCons, wNil, wVar, wMove, nth, put, startR, wNext, wRet, wRetN, wDrop, wFor, wiR1, wiR2, wiX, itemsOf, wgName, wgTup, wgCons, wgNil, wLend, wLendT, seeR_cons, seeR_nil, seeO_d, seeO_none, seeO_ol, seeO_od, wJoin, wM, oAppend, oPop, oPopAt, wDPut, wDPop, wSortK, wDict0, wTup, wLst, wCall, wAnd, wOr, wNot, wAndV, wOrV, wNotV, wIf, wYes, wLc, wiEnumX, oListX, oTuple, oSort, oSortSet, oAll, oAny, S.fz, S.own, D.flat, txts_map, bools_map, txtKeys_map, List.length_map, List.map_cons, List.map_nil, List.length_cons, List.length_nil, List.cons_append, List.nil_append, List.replicate, decide_eq_true_eq, Bool.not_eq_true', Bool.not_true, Bool.not_false, if_true, if_false, Nat.zero_add, Nat.reduceAdd, Nat.reduceSub, ge_iff_le, true_and, and_true, zip_unzip, Bool.false_xor, Bool.true_xor, Bool.false_eq_true, Bool.true_eq_false, reduceIte, wipeR, dataR_cons, dataR_nil, dataO_d, dataO_none, dataO_ol, dataO_od, oDict, oIsi, tyD, isiB, wSl, wPart, wNoP, oSl, wDisp1, wDGet2, oRemove, atI_0, atI_1, atI_2, wiRev, revItems, oDictP, wForK, wiKeys, kD, oSortX, oPow, oBitAnd, oShl, oNeg, wUn, oInt, oStr, oDivmod, oIs, isD, wChain, wFz, wFzE, frzR, wLSet, wiZip, seqsD, wiVals, wiItems, wOIx, wNo, Option.isSome_some, oMulX, wM1, oSplit, oPart, oStrip1, oRep, oSum, intsD, wRaise, wLI, wLK
, wiR3, wLR, wDisp, wPairs, oReverse, oClear, oInsert, wRevL, wDZ, seqLT, oSortIT, wOFld, wSFld, asOI, setOI, putG, wPar, wiItemsC, wiValsC, wIndexL, wDZO, wLO, wiZip3]
      exact hq
  · exact h.elim
end DL
namespace DL
open PySem L2
theorem sum_sub : ∀ {l m : List (List Nat)}, l.Nodup → l ⊆ m → (l.map (·.length)).sum ≤ (m.map (·.length)).sum
  | [], m, _, _ => Nat.zero_le _
  | x :: l, m, hn, hs => by
    rw [List.nodup_cons] at hn
    have hx : x ∈ m := hs List.mem_cons_self
    have ih := sum_sub (l := l) (m := m.erase x) hn.2 fun y hy => by
      have : y ≠ x := fun e => hn.1 (e ▸ hy)
      exact (List.mem_erase_of_ne this).mpr (hs (List.mem_cons_of_mem _ hy))
    have e := ((List.perm_cons_erase hx).map (·.length)).sum_nat
    rw [List.map_cons, List.sum_cons] at e
    rw [List.map_cons, List.sum_cons]
    omega
theorem frm_sum {f : List Str} (h : Frm f) : ((f.map sg).map (·.length)).sum ≤ 2304 := by
  have h1 : (f.map sg).Nodup := by
    rw [List.nodup_iff_pairwise_ne, List.pairwise_map]
    exact (List.nodup_iff_pairwise_ne.mp h.nd).imp fun z e => z (sg_inj e)
  refine Nat.le_trans (sum_sub (m := subs LET) h1 fun x hx => ?_) (by decide +kernel)
  obtain ⟨p, hp, rfl⟩ := List.mem_map.mp hx
  exact mem_subs LET_up (h.prd p hp).up (h.prd p hp).le
def joinS (f : List Str) : Str := Txt.join "" f
theorem joinS_len {f : List Str} (h : Frm f) : (sg (joinS f)).length ≤ 2304 := by
  rw [joinS, sg_join0 sg_nil, List.length_flatten]
  exact frm_sum h
theorem mem_joinS {f : List Str} {c : Nat} : c ∈ sg (joinS f) ↔ ∃ p ∈ f, c ∈ sg p := by
  rw [joinS, sg_join0 sg_nil, List.mem_flatten]
  constructor
  · rintro ⟨l, hl, hc⟩
    obtain ⟨p, hp, rfl⟩ := List.mem_map.mp hl
    exact ⟨p, hp, hc⟩
  · rintro ⟨p, hp, hc⟩
    exact ⟨sg p, List.mem_map.mpr ⟨p, hp, rfl⟩, hc⟩
theorem joinS_fit {f : List Str} (h : Frm f) : (f.map (·.length)).sum + f.length * (Str.length "") ≤ 16777216 := by
  have h1 := frm_sum h
  rw [List.map_map] at h1
  have h2 : f.map (·.length) = f.map ((·.length) ∘ sg) := by
    apply List.map_congr_left
    intro p _
    exact sg_len p
  have h3 : Str.length "" = 0 := by decide +kernel
  rw [h2, h3, Nat.mul_zero]
  omega
def letF (f : List Str) : Str := lets (joinS f)
theorem mem_letF {f : List Str} {c : Nat} : c ∈ sg (letF f) ↔ ∃ p ∈ f, c ∈ sg p := ((sg_lets _).2 c).trans mem_joinS
theorem prd_letF {f : List Str} (h : Frm f) : Prd (letF f) := prd_lets fun c hc => by
  obtain ⟨p, hp, hc⟩ := mem_joinS.mp hc
  exact (h.prd p hp).le c hc
theorem over_letF (f : List Str) : Over (letF f) f := fun p hp c hc => mem_letF.mpr ⟨p, hp, hc⟩
def sp_letters_of : DSp := fun ds P _ => match ds with
  | [x] => asF x fun f => Frm f ∧ P (.d (.str (letF f)))
  | _ => False
abbrev N_letters_of : List Str := ["form"]
def w_letters_of : WS := (wRet (wJoin (wC (.str "")) (wCB oSortSet (wCons (wJoin (wC (.str "")) (wVar 0)) wNil))))
theorem len_letters_of {ds Q px} (h : sp_letters_of ds Q px) : ds.length = 1 := by unfold sp_letters_of at h; split at h <;> first | rfl | exact h.elim
theorem rd_letters_of {ds Q px} (h : sp_letters_of ds Q px) : w_letters_of ⟨fun _ => Q (.d .non), Q, fun _ => False, fun _ => False⟩ (startR N_letters_of ds) := by
  unfold sp_letters_of at h
  split at h
  · obtain ⟨f, rfl, hf, hq⟩ := asF_of h
    clear h
    have hl := joinS_len hf
    unfold w_letters_of
    simp only [N_letters_of, fD, wSeq, wSet, wAsg, wC, wIfS, wB, wOp, oI, oI0, asI, asS, asL, asLT, asT, asB, asA_some, asA_none, asO, asOL, asOD, asKey, asDic, asSq, oLen, oMod, oAdd, oSub, oMul, oDiv, oMax, oMin, oPlus, oEqX, oNeX, eqX_int, eqX_str, eqX_bl, oCmp, oLtX, oLeX, oGtX, oGeX, oIxX, oInX, wCB, wCons, wNil, wVar, wMove, nth, put, startR, wNext, wRet, wRetN, wDrop, wFor, wiR1, wiR2, wiX, itemsOf, wgName, wgTup, wgCons, wgNil, wLend, wLendT, seeR_cons, seeR_nil, seeO_d, seeO_none, seeO_ol, seeO_od, wJoin, wM, oAppend, oPop, oPopAt, wDPut, wDPop, wSortK, wDict0, wTup, wLst, wCall, wAnd, wOr, wNot, wAndV, wOrV, wNotV, wIf, wYes, wLc, wiEnumX, oListX, oTuple, oSort, oSortSet, oAll, oAny, S.fz, S.own, D.flat, txts_map, bools_map, txtKeys_map, List.length_map, List.map_cons, List.map_nil, List.length_cons, List.length_nil, List.cons_append, List.nil_append, List.replicate, decide_eq_true_eq, Bool.not_eq_true', Bool.not_true, Bool.not_false, if_true, if_false, Nat.zero_add, Nat.reduceAdd, Nat.reduceSub, ge_iff_le, true_and, and_true, zip_unzip, Bool.false_xor, Bool.true_xor, Bool.false_eq_true, Bool.true_eq_false, reduceIte, wipeR, dataR_cons, dataR_nil, dataO_d, dataO_none, dataO_ol, dataO_od, oDict, oIsi, tyD, isiB, wSl, wPart, wNoP, oSl, wDisp1, wDGet2, oRemove, atI_0, atI_1, atI_2, wiRev, revItems, oDictP, wForK, wiKeys, kD, oSortX, oPow, oBitAnd, oShl, oNeg, wUn, oInt, oStr, oDivmod, oIs, isD, wChain, wFz, wFzE, frzR, wLSet, wiZip, seqsD, wiVals, wiItems, wOIx, wNo, Option.isSome_some, oMulX, wM1, oSplit, oPart, oStrip1, oRep, oSum, intsD, wRaise, wLI, wLK
, wiR3, wLR, wDisp, wPairs, oReverse, oClear, oInsert, wRevL, wDZ, seqLT, oSortIT, wOFld, wSFld, asOI, setOI, putG, wPar, wiItemsC, wiValsC, wIndexL, wDZO, wLO, wiZip3]
    refine ⟨joinS_fit hf, ?_, lets_fit (z := joinS f) (by omega), hq⟩
    show (joinS f).length + 1 < 4096
    rw [sg_len]; omega
  · exact h.elim
end DL
namespace DL
open PySem L2
theorem fm_filter {T : Nat → Prop} [DecidablePred T] : ∀ l : List Nat, l.filterMap (fun d => if T d then some (D.str (one d)) else none) = (l.filter fun d => decide (T d)).map fun d => .str (one d)
  | [] => rfl
  | d :: l => by
    have ih := fm_filter (T := T) l
    rw [List.filterMap_cons, List.filter_cons]
    by_cases h : T d
    · simp [h, ih]
    · simp [h, ih]
end DL
namespace DL
open PySem L2
def sp_worth : DSp := fun ds P _ => match ds with
  | [x, y] => asF x fun f => ∃ r : Row, y = rowD r ∧ (f.length ≤ 100000 ∧ ∀ p ∈ f, (sg p).length ≤ 1000 ∧ ∀ c ∈ sg p, c ∈ r.map (·.1)) ∧ P (.d (.bl (val (rowF r) f)))
  | _ => False
theorem len_worth {ds Q px} (h : sp_worth ds Q px) : ds.length = 2 := by unfold sp_worth at h; split at h <;> first | rfl | exact h.elim
end DL
namespace DL
open PySem L2
theorem sg_abc : sg (Str.ofString "abcpqrxyz") = LET := by decide +kernel
theorem signs_abc : signs (Str.ofString "abcpqrxyz") = LET.map one := by rw [signs_eq, sg_abc]
theorem str_app_one (p : Str) (c : Nat) : sg (p ++ one c) = sg p ++ [c] := by rw [sg_append, sg_one]
theorem mono_pair {a b : Nat} {n : Nat} : MonoG (wgTup n (wgCons (wgName a) (wgCons (wgName b) wgNil))) := mono_tup (monos_cons mono_name (monos_cons mono_name monos_nil))
theorem fm_strs {T : Nat → Prop} [DecidablePred T] (l : List Nat) : l.filterMap (fun d => if T d then some (D.str (one d)) else none) = ((l.filter fun d => decide (T d)).map one).map .str := by rw [fm_filter, List.map_map]; rfl
end DL
namespace DL
open PySem L2
end DL
namespace DL
open PySem L2
abbrev FM := List (Str × List Str)
def putM (m : FM) (s : Str) (f : List Str) : FM :=
  if (m.any fun q => decide (q.1 = s)) = true then m.map (fun q => if q.1 = s then (q.1, f) else q) else m ++ [(s, f)]
theorem any_keys {m : FM} {s : Str} : (m.any fun q => decide (q.1 = s)) = decide (s ∈ m.map (·.1)) := by
  by_cases h : s ∈ m.map (·.1)
  · rw [decide_eq_true h, List.any_eq_true]
    obtain ⟨q, hq, e⟩ := List.mem_map.mp h
    exact ⟨q, hq, decide_eq_true e⟩
  · rw [decide_eq_false h, List.any_eq_false]
    intro q hq
    simp only [decide_eq_true_eq]
    exact fun e => h (List.mem_map.mpr ⟨q, hq, e⟩)
theorem keys_put {m : FM} {s : Str} {f : List Str} : (putM m s f).map (·.1) = if s ∈ m.map (·.1) then m.map (·.1) else m.map (·.1) ++ [s] := by
  unfold putM
  rw [any_keys]
  by_cases h : s ∈ m.map (·.1)
  · rw [decide_eq_true h, if_pos rfl, if_pos h, List.map_map]
    apply List.map_congr_left
    intro q _
    simp only [Function.comp]
    split <;> rfl
  · rw [decide_eq_false h, if_neg (by decide), if_neg h, List.map_append]; rfl
structure MapOk (m : FM) : Prop where
  nd : (m.map (·.1)).Nodup
  fr : ∀ q ∈ m, Frm q.2
  le : ∀ q ∈ m, ∃ c ∈ LET, q.1 = one c
theorem MapOk.len {m : FM} (h : MapOk m) : m.length ≤ 9 := by
  have := h.nd.length_le_of_subset (l₂ := LET.map one) fun s hs => by
    obtain ⟨q, hq, rfl⟩ := List.mem_map.mp hs
    obtain ⟨c, hc, e⟩ := h.le q hq
    exact List.mem_map.mpr ⟨c, hc, e.symm⟩
  rw [List.length_map] at this
  exact this
theorem MapOk.put {m : FM} {c : Nat} {f : List Str} (h : MapOk m) (hc : c ∈ LET) (hf : Frm f) : MapOk (putM m (one c) f) := by
  have hm : ∀ q ∈ putM m (one c) f, q ∈ m ∨ (q.1 = one c ∧ q.2 = f) := fun q hq => by
    unfold putM at hq
    split at hq
    · obtain ⟨p, hp, rfl⟩ := List.mem_map.mp hq
      split
      · rename_i e; exact .inr ⟨e, rfl⟩
      · exact .inl hp
    · rcases List.mem_append.mp hq with z | z
      · exact .inl z
      · simp at z; subst z; exact .inr ⟨rfl, rfl⟩
  refine ⟨?_, fun q hq => (hm q hq).elim (h.fr q) fun z => z.2 ▸ hf, fun q hq => (hm q hq).elim (h.le q) fun z => ⟨c, hc, z.1⟩⟩
  rw [keys_put]
  split
  · exact h.nd
  · rename_i n
    rw [List.nodup_append]
    exact ⟨h.nd, by simp, fun a ha b hb e => by simp at hb; subst hb; subst e; exact n ha⟩
end DL
namespace DL
open PySem L2
theorem eqX_blsN {a b : List Bool} {P : Bool → Prop} (ha : a.length ≤ 100000) (hb : b.length ≤ 100000) : eqX (.lst (a.map .bl)) (.lst (b.map .bl)) P = P (decide (a = b)) := by
  have e : eqS (.lst (a.map .bl)) (.lst (b.map .bl)) = none := rfl
  have pls : ∀ a : List Bool, pyds (a.map .bl) = some (a.map .bool) := fun a => by
    induction a with
    | nil => rfl
    | cons x a ih => rw [List.map_cons, pyds, ih]; rfl
  have pl : ∀ a : List Bool, pyd (.lst (a.map .bl)) = some (.list (a.map .bool)) := fun a => by unfold pyd; rw [pls]; rfl
  have cl : ∀ a : List Bool, PyData.canLayAll0 (a.map .bool) = true := fun a => by
    induction a with
    | nil => rfl
    | cons x a ih => rw [List.map_cons, PyData.canLayAll0, ih]; rfl
  have dp : ∀ a : List Bool, PyData.depthAll (a.map .bool) ≤ 1 := fun a => by
    induction a with
    | nil => decide
    | cons x a ih => rw [List.map_cons]; simp only [PyData.depthAll, PyData.depth]; omega
  have sh : ∀ a : List Bool, SeqAt.shaped (.list (a.map .bool)) = true := fun a => by
    unfold SeqAt.shaped
    rw [Bool.and_eq_true]
    refine ⟨cl a, decide_eq_true ?_⟩
    have := dp a
    simp only [PyData.depth]
    omega
  have ev : ∀ a b : List Bool, PyData.eqvAll (a.map .bool) (b.map .bool) = decide (a = b) := fun a => by
    induction a with
    | nil => intro b; cases b <;> rfl
    | cons x a ih =>
      intro b
      cases b with
      | nil => rfl
      | cons y b =>
        rw [List.map_cons, List.map_cons, PyData.eqvAll, ih]
        show (x == y && _) = _
        rw [Bool.eq_iff_iff]
        simp
  unfold eqX
  rw [e]
  show asA (pyd _) (fun q => asA (pyd _) fun r => SeqAt.shaped q = true ∧ SeqAt.shaped r = true ∧ P (PyData.eqv q r)) = _
  rw [pl, pl]
  show (SeqAt.shaped _ = true ∧ SeqAt.shaped _ = true ∧ P (PyData.eqvAll _ _)) = _
  rw [sh, sh, ev]
  simp
theorem join_srt {z : Str} (h : (sg z).Nodup) : Txt.join "" (srt (signs z)) = lets z := by
  unfold lets
  congr 1
  refine (srt_congr ?_).symm
  have hn : (signs z).Nodup := by
    rw [signs_eq]
    exact (List.nodup_iff_pairwise_ne.mpr (List.pairwise_map.mpr ((List.nodup_iff_pairwise_ne.mp h).imp fun h e => h (one_inj e))))
  exact ((List.perm_ext_iff_of_nodup hn (nodup_met _)).mpr fun a => mem_met.symm).symm
theorem srt_fit {z : Str} (h : (sg z).length ≤ 100000) : ((srt (signs z)).map (·.length)).sum + (srt (signs z)).length * (Str.length "") ≤ 16777216 := by
  have p := (srt_perm (signs z)).map (·.length)
  have e := p.sum_nat
  rw [e, (srt_perm _).length_eq, signs_eq, ones_sum, List.length_map]
  have h3 : Str.length "" = 0 := by decide +kernel
  rw [h3, Nat.mul_zero]
  omega
end DL
namespace DL
open PySem L2
def put1 (f : List Str) (c : Nat) (h : List Str) : List Str := putF f [(one c, h)]
theorem val_out {T : Nat → Prop} {f : List Str} {r r' : Nat → Bool} (ho : OverP T f) (h : ∀ c, T c → r c = r' c) : val r f = val r' f := by
  unfold val
  have : f.countP (tr r) = f.countP (tr r') := by
    apply List.countP_congr
    intro p hp
    rw [tr_congr fun c hc => h c (ho p hp c hc)]
  rw [this]
theorem nil_of {f : List Str} (hf : Frm f) (h : ∀ r, val r f = false) : f = [] := uniq hf frm_nil fun r => by rw [h, val_nil]
end DL
namespace DL
open PySem L2
end DL
namespace DL
open PySem L2
abbrev BM := List (Str × Bool)
structure OddM (done : List Str) (m : BM) : Prop where
  nd : (m.map (·.1)).Nodup
  mem : ∀ p, p ∈ m.map (·.1) ↔ p ∈ done
  od : ∀ q ∈ m, q.2 = decide (done.count q.1 % 2 = 1)
end DL
namespace DL
open PySem L2
def sp_L_in_0a4 : DSp := fun ds P _ => match ds with
  | [x] => asF x fun f => Frm f ∧ P (.d (.str (letF f)))
  | _ => False
abbrev N_L_in_0a4 : List Str := ["_law_form_here", "_law_letter"]
def w_L_in_0a4 : WS := (wRet (wJoin (wC (.str "")) (wLc (wiX (wC (.str "abcpqrxyz"))) (wgName 1) (wB (wOp (oInX false) (wVar 1) (wJoin (wC (.str "")) (wVar 0)))) (wVar 1) [1])))
theorem len_L_in_0a4 {ds Q px} (h : sp_L_in_0a4 ds Q px) : ds.length = 1 := by unfold sp_L_in_0a4 at h; split at h <;> first | rfl | exact h.elim
theorem in_letF {f : List Str} (hf : Frm f) : Txt.join "" ((LET.filter fun c => decide (c ∈ sg (joinS f))).map one) = letF f := by
  apply sg_inj
  rw [sg_join0 sg_nil, flat_ones]
  refine up_ext (LET_up.filter _) (prd_letF hf).up fun c => ?_
  rw [List.mem_filter, mem_letF, decide_eq_true_iff, mem_joinS]
  exact ⟨fun z => z.2, fun z => ⟨let ⟨p, hp, hc⟩ := z; (hf.prd p hp).le c hc, z⟩⟩
theorem rd_L_in_0a4 {ds Q px} (h : sp_L_in_0a4 ds Q px) : w_L_in_0a4 ⟨fun _ => Q (.d .non), Q, fun _ => False, fun _ => False⟩ (startR N_L_in_0a4 ds) := by
  unfold sp_L_in_0a4 at h
  split at h
  · obtain ⟨f, rfl, hf, hq⟩ := asF_of h
    clear h
    unfold w_L_in_0a4
    simp only [N_L_in_0a4, fD, wSeq, wSet, wAsg, wC, wIfS, wB, wOp, oI, oI0, asI, asS, asL, asLT, asT, asB, asA_some, asA_none, asO, asOL, asOD, asKey, asDic, asSq, oLen, oMod, oAdd, oSub, oMul, oDiv, oMax, oMin, oPlus, oEqX, oNeX, eqX_int, eqX_str, eqX_bl, oCmp, oLtX, oLeX, oGtX, oGeX, oIxX, oInX, wCB, wCons, wNil, wVar, wMove, nth, put, startR, wNext, wRet, wRetN, wDrop, wFor, wiR1, wiR2, wiX, itemsOf, wgName, wgTup, wgCons, wgNil, wLend, wLendT, seeR_cons, seeR_nil, seeO_d, seeO_none, seeO_ol, seeO_od, wJoin, wM, oAppend, oPop, oPopAt, wDPut, wDPop, wSortK, wDict0, wTup, wLst, wCall, wAnd, wOr, wNot, wAndV, wOrV, wNotV, wIf, wYes, wLc, wiEnumX, oListX, oTuple, oSort, oSortSet, oAll, oAny, S.fz, S.own, D.flat, txts_map, bools_map, txtKeys_map, List.length_map, List.map_cons, List.map_nil, List.length_cons, List.length_nil, List.cons_append, List.nil_append, List.replicate, decide_eq_true_eq, Bool.not_eq_true', Bool.not_true, Bool.not_false, if_true, if_false, Nat.zero_add, Nat.reduceAdd, Nat.reduceSub, ge_iff_le, true_and, and_true, zip_unzip, Bool.false_xor, Bool.true_xor, Bool.false_eq_true, Bool.true_eq_false, reduceIte, wipeR, dataR_cons, dataR_nil, dataO_d, dataO_none, dataO_ol, dataO_od, oDict, oIsi, tyD, isiB, wSl, wPart, wNoP, oSl, wDisp1, wDGet2, oRemove, atI_0, atI_1, atI_2, wiRev, revItems, oDictP, wForK, wiKeys, kD, oSortX, oPow, oBitAnd, oShl, oNeg, wUn, oInt, oStr, oDivmod, oIs, isD, wChain, wFz, wFzE, frzR, wLSet, wiZip, seqsD, wiVals, wiItems, wOIx, wNo, Option.isSome_some, oMulX, wM1, oSplit, oPart, oStrip1, oRep, oSum, intsD, wRaise, wLI, wLK
, wiR3, wLR, wDisp, wPairs, oReverse, oClear, oInsert, wRevL, wDZ, seqLT, oSortIT, wOFld, wSFld, asOI, setOI, putG, wPar, wiItemsC, wiValsC, wIndexL, wDZO, wLO, wiZip3]
    rw [signs_abc, List.map_map]
    refine ⟨by decide, ?_⟩
    refine compD_map mono_name (fun d => if d ∈ sg (joinS f) then some (.str (one d)) else none) LET _ (fun d hd Q' hQ => ?_) ?_
    · simp only [wSeq, wSet, wAsg, wC, wIfS, wB, wOp, oI, oI0, asI, asS, asL, asLT, asT, asB, asA_some, asA_none, asO, asOL, asOD, asKey, asDic, asSq, oLen, oMod, oAdd, oSub, oMul, oDiv, oMax, oMin, oPlus, oEqX, oNeX, eqX_int, eqX_str, eqX_bl, oCmp, oLtX, oLeX, oGtX, oGeX, oIxX, oInX, wCB, wCons, wNil, wVar, wMove, nth, put, startR, wNext, wRet, wRetN, wDrop, wFor, wiR1, wiR2, wiX, itemsOf, wgName, wgTup, wgCons, wgNil, wLend, wLendT, seeR_cons, seeR_nil, seeO_d, seeO_none, seeO_ol, seeO_od, wJoin, wM, oAppend, oPop, oPopAt, wDPut, wDPop, wSortK, wDict0, wTup, wLst, wCall, wAnd, wOr, wNot, wAndV, wOrV, wNotV, wIf, wYes, wLc, wiEnumX, oListX, oTuple, oSort, oSortSet, oAll, oAny, S.fz, S.own, D.flat, txts_map, bools_map, txtKeys_map, List.length_map, List.map_cons, List.map_nil, List.length_cons, List.length_nil, List.cons_append, List.nil_append, List.replicate, decide_eq_true_eq, Bool.not_eq_true', Bool.not_true, Bool.not_false, if_true, if_false, Nat.zero_add, Nat.reduceAdd, Nat.reduceSub, ge_iff_le, true_and, and_true, zip_unzip, Bool.false_xor, Bool.true_xor, Bool.false_eq_true, Bool.true_eq_false, reduceIte, wipeR, dataR_cons, dataR_nil, dataO_d, dataO_none, dataO_ol, dataO_od, oDict, oIsi, tyD, isiB, wSl, wPart, wNoP, oSl, wDisp1, wDGet2, oRemove, atI_0, atI_1, atI_2, wiRev, revItems, oDictP, wForK, wiKeys, kD, oSortX, oPow, oBitAnd, oShl, oNeg, wUn, oInt, oStr, oDivmod, oIs, isD, wChain, wFz, wFzE, frzR, wLSet, wiZip, seqsD, wiVals, wiItems, wOIx, wNo, Option.isSome_some, oMulX, wM1, oSplit, oPart, oStrip1, oRep, oSum, intsD, wRaise, wLI, wLK
, wiR3, wLR, wDisp, wPairs, oReverse, oClear, oInsert, wRevL, wDZ, seqLT, oSortIT, wOFld, wSFld, asOI, setOI, putG, wPar, wiItemsC, wiValsC, wIndexL, wDZO, wLO, wiZip3, Function.comp]
      refine ⟨joinS_fit hf, ?_⟩
      have e5 : inS (one d) (Txt.join "" f) = decide (d ∈ sg (joinS f)) := rfl
      rw [e5]
      by_cases z : d ∈ sg (joinS f)
      · rw [if_pos z] at hQ; rw [decide_eq_true z]; exact hQ
      · rw [if_neg z] at hQ; rw [decide_eq_false z]; exact hQ
    · rw [fm_strs (T := fun d => d ∈ sg (joinS f)), txts_map, asA_some, in_letF hf]
      have hfl := List.length_filter_le (fun d => decide (d ∈ sg (joinS f))) LET
      have e9 : LET.length = 9 := rfl
      have h3 : Str.length "" = 0 := by decide +kernel
      exact ⟨by rw [ones_sum, h3, Nat.mul_zero]; omega, hq⟩
  · exact h.elim
def PartOk (dl : List Nat) (p : Str) : Prop := (sg p).Pairwise (· < ·) ∧ ∀ c ∈ sg p, c ∈ dl
theorem PartOk.more {dl : List Nat} {p : Str} {x : Nat} (h : PartOk dl p) : PartOk (dl ++ [x]) p := ⟨h.1, fun c hc => List.mem_append.mpr (.inl (h.2 c hc))⟩
theorem PartOk.snoc {dl : List Nat} {p : Str} {x : Nat} (h : PartOk dl p) (hx : ∀ c ∈ dl, c < x) : PartOk (dl ++ [x]) (p ++ one x) := by
  refine ⟨?_, fun c hc => ?_⟩
  · rw [str_app_one, List.pairwise_append]
    exact ⟨h.1, by simp, fun a ha b hb => by simp at hb; subst hb; exact hx a (h.2 a ha)⟩
  · rw [str_app_one] at hc
    rcases List.mem_append.mp hc with z | z
    · exact List.mem_append.mpr (.inl (h.2 c z))
    · exact List.mem_append.mpr (.inr z)
theorem PartOk.len {dl : List Nat} {p : Str} (h : PartOk dl p) : (sg p).length ≤ dl.length := (up_nodup h.1).length_le_of_subset h.2
def Apart (a b : Str) : Prop := ∀ c ∈ sg a, c ∉ sg b
theorem Apart.snocL {dl : List Nat} {a b : Str} {x : Nat} (h : Apart a b) (hb : PartOk dl b) (hx : ∀ c ∈ dl, c < x) : Apart (a ++ one x) b := fun c hc hc2 => by
  rw [str_app_one] at hc
  rcases List.mem_append.mp hc with z | z
  · exact h c z hc2
  · simp at z; subst z; exact Nat.lt_irrefl _ (hx _ (hb.2 _ hc2))
theorem Apart.snocR {dl : List Nat} {a b : Str} {x : Nat} (h : Apart a b) (ha : PartOk dl a) (hx : ∀ c ∈ dl, c < x) : Apart a (b ++ one x) := fun c hc hc2 => by
  rw [str_app_one] at hc2
  rcases List.mem_append.mp hc2 with z | z
  · exact h c hc z
  · simp at z; subst z; exact Nat.lt_irrefl _ (hx _ (ha.2 _ hc))
theorem nodup_apart {a b : Str} (ha : Prd a) (hb : Prd b) (h : Apart a b) : (sg (a ++ b)).Nodup := by
  rw [sg_append, List.nodup_append]
  exact ⟨up_nodup ha.up, up_nodup hb.up, fun x hx y hy e => h x hx (e ▸ hy)⟩
theorem ixN3 : ixN 3 0 = some 0 ∧ ixN 3 1 = some 1 ∧ ixN 3 2 = some 2 := ⟨rfl, rfl, rfl⟩
end DL
namespace DL
open PySem L2
def Around (r : Row) (cs : List Nat) (rows : List Row) : Prop :=
  (∀ q ∈ rows, q.map (·.1) = r.map (·.1) ∧ ∀ d, d ∉ cs → rowF q d = rowF r d) ∧ rows.length ≤ 2 ^ cs.length ∧ ∀ v : Nat → Bool, (∀ d, d ∉ cs → v d = rowF r d) → ∃ q ∈ rows, ∀ d ∈ r.map (·.1), rowF q d = v d
def lessS (s t : Str) : Str := Txt.join "" (((sg s).filter fun c => decide (c ∉ sg t)).map one)
theorem sg_less (s t : Str) : sg (lessS s t) = (sg s).filter fun c => decide (c ∉ sg t) := by unfold lessS; rw [sg_join0 sg_nil, flat_ones]
theorem mem_less {s t : Str} {c : Nat} : c ∈ sg (lessS s t) ↔ c ∈ sg s ∧ c ∉ sg t := by rw [sg_less, List.mem_filter]; simp
def sp_less : DSp := fun ds P _ => match ds with
  | [.str s, .str t] => Prd s ∧ P (.d (.str (lessS s t)))
  | _ => False
abbrev N_less : List Str := ["letters", "others", "letter"]
def w_less : WS := (wRet (wJoin (wC (.str "")) (wLc (wiX (wVar 0)) (wgName 2) (wB (wOp (oInX true) (wVar 2) (wVar 1))) (wVar 2) [2])))
theorem len_less {ds Q px} (h : sp_less ds Q px) : ds.length = 2 := by unfold sp_less at h; split at h <;> first | rfl | exact h.elim
theorem rd_less {ds Q px} (h : sp_less ds Q px) : w_less ⟨fun _ => Q (.d .non), Q, fun _ => False, fun _ => False⟩ (startR N_less ds) := by
  unfold sp_less at h
  split at h
  · rename_i s t
    obtain ⟨hs, hq⟩ := h
    have hsl := hs.len
    unfold w_less
    simp only [N_less, wSeq, wSet, wAsg, wC, wIfS, wB, wOp, oI, oI0, asI, asS, asL, asLT, asT, asB, asA_some, asA_none, asO, asOL, asOD, asKey, asDic, asSq, oLen, oMod, oAdd, oSub, oMul, oDiv, oMax, oMin, oPlus, oEqX, oNeX, eqX_int, eqX_str, eqX_bl, oCmp, oLtX, oLeX, oGtX, oGeX, oIxX, oInX, wCB, wCons, wNil, wVar, wMove, nth, put, startR, wNext, wRet, wRetN, wDrop, wFor, wiR1, wiR2, wiX, itemsOf, wgName, wgTup, wgCons, wgNil, wLend, wLendT, seeR_cons, seeR_nil, seeO_d, seeO_none, seeO_ol, seeO_od, wJoin, wM, oAppend, oPop, oPopAt, wDPut, wDPop, wSortK, wDict0, wTup, wLst, wCall, wAnd, wOr, wNot, wAndV, wOrV, wNotV, wIf, wYes, wLc, wiEnumX, oListX, oTuple, oSort, oSortSet, oAll, oAny, S.fz, S.own, D.flat, txts_map, bools_map, txtKeys_map, List.length_map, List.map_cons, List.map_nil, List.length_cons, List.length_nil, List.cons_append, List.nil_append, List.replicate, decide_eq_true_eq, Bool.not_eq_true', Bool.not_true, Bool.not_false, if_true, if_false, Nat.zero_add, Nat.reduceAdd, Nat.reduceSub, ge_iff_le, true_and, and_true, zip_unzip, Bool.false_xor, Bool.true_xor, Bool.false_eq_true, Bool.true_eq_false, reduceIte, wipeR, dataR_cons, dataR_nil, dataO_d, dataO_none, dataO_ol, dataO_od, oDict, oIsi, tyD, isiB, wSl, wPart, wNoP, oSl, wDisp1, wDGet2, oRemove, atI_0, atI_1, atI_2, wiRev, revItems, oDictP, wForK, wiKeys, kD, oSortX, oPow, oBitAnd, oShl, oNeg, wUn, oInt, oStr, oDivmod, oIs, isD, wChain, wFz, wFzE, frzR, wLSet, wiZip, seqsD, wiVals, wiItems, wOIx, wNo, Option.isSome_some, oMulX, wM1, oSplit, oPart, oStrip1, oRep, oSum, intsD, wRaise, wLI, wLK
, wiR3, wLR, wDisp, wPairs, oReverse, oClear, oInsert, wRevL, wDZ, seqLT, oSortIT, wOFld, wSFld, asOI, setOI, putG, wPar, wiItemsC, wiValsC, wIndexL, wDZO, wLO, wiZip3]
    rw [signs_eq, List.length_map, List.map_map]
    refine ⟨by rw [len0]; omega, ?_⟩
    refine compD_map mono_name (fun d => if d ∉ sg t then some (.str (one d)) else none) (sg s) _ (fun d hd Q' hQ => ?_) ?_
    · simp only [wSeq, wSet, wAsg, wC, wIfS, wB, wOp, oI, oI0, asI, asS, asL, asLT, asT, asB, asA_some, asA_none, asO, asOL, asOD, asKey, asDic, asSq, oLen, oMod, oAdd, oSub, oMul, oDiv, oMax, oMin, oPlus, oEqX, oNeX, eqX_int, eqX_str, eqX_bl, oCmp, oLtX, oLeX, oGtX, oGeX, oIxX, oInX, wCB, wCons, wNil, wVar, wMove, nth, put, startR, wNext, wRet, wRetN, wDrop, wFor, wiR1, wiR2, wiX, itemsOf, wgName, wgTup, wgCons, wgNil, wLend, wLendT, seeR_cons, seeR_nil, seeO_d, seeO_none, seeO_ol, seeO_od, wJoin, wM, oAppend, oPop, oPopAt, wDPut, wDPop, wSortK, wDict0, wTup, wLst, wCall, wAnd, wOr, wNot, wAndV, wOrV, wNotV, wIf, wYes, wLc, wiEnumX, oListX, oTuple, oSort, oSortSet, oAll, oAny, S.fz, S.own, D.flat, txts_map, bools_map, txtKeys_map, List.length_map, List.map_cons, List.map_nil, List.length_cons, List.length_nil, List.cons_append, List.nil_append, List.replicate, decide_eq_true_eq, Bool.not_eq_true', Bool.not_true, Bool.not_false, if_true, if_false, Nat.zero_add, Nat.reduceAdd, Nat.reduceSub, ge_iff_le, true_and, and_true, zip_unzip, Bool.false_xor, Bool.true_xor, Bool.false_eq_true, Bool.true_eq_false, reduceIte, wipeR, dataR_cons, dataR_nil, dataO_d, dataO_none, dataO_ol, dataO_od, oDict, oIsi, tyD, isiB, wSl, wPart, wNoP, oSl, wDisp1, wDGet2, oRemove, atI_0, atI_1, atI_2, wiRev, revItems, oDictP, wForK, wiKeys, kD, oSortX, oPow, oBitAnd, oShl, oNeg, wUn, oInt, oStr, oDivmod, oIs, isD, wChain, wFz, wFzE, frzR, wLSet, wiZip, seqsD, wiVals, wiItems, wOIx, wNo, Option.isSome_some, oMulX, wM1, oSplit, oPart, oStrip1, oRep, oSum, intsD, wRaise, wLI, wLK
, wiR3, wLR, wDisp, wPairs, oReverse, oClear, oInsert, wRevL, wDZ, seqLT, oSortIT, wOFld, wSFld, asOI, setOI, putG, wPar, wiItemsC, wiValsC, wIndexL, wDZO, wLO, wiZip3, Function.comp, inS_one']
      by_cases h : d ∈ sg t
      · rw [if_neg (not_not_intro h)] at hQ; rw [decide_eq_true h]; simpa using hQ
      · rw [if_pos h] at hQ; rw [decide_eq_false h]; simpa using hQ
    · rw [fm_strs (T := fun d => d ∉ sg t), txts_map, asA_some]
      have hfl := List.length_filter_le (fun d => decide (d ∉ sg t)) (sg s)
      have h3 : Str.length "" = 0 := by decide +kernel
      exact ⟨by rw [ones_sum, h3, Nat.mul_zero]; omega, hq⟩
  · exact h.elim
def overlay (r : Row) (v : Nat → Bool) : Nat → Bool := fun c => if c ∈ r.map (·.1) then rowF r c else v c
theorem overlay_snoc {r : Row} {c : Nat} {b : Bool} (h : c ∉ r.map (·.1)) (v : Nat → Bool) : overlay (r ++ [(c, b)]) v = updR (overlay r v) c b := by
  funext d
  unfold overlay updR
  by_cases e : d = c
  · subst e
    rw [if_pos rfl, if_pos (by simp), rowF_app_r h]
  · rw [if_neg e]
    by_cases z : d ∈ r.map (·.1)
    · rw [if_pos (by rw [List.map_append]; exact List.mem_append.mpr (.inl z)), rowF_app_l z]
      show _ = if _ then _ else _
      rw [if_pos z]
    · rw [if_neg (by rw [List.map_append, List.mem_append]; simp [e]; simpa using z)]
      show _ = if _ then _ else _
      rw [if_neg z]
def sp_true_row : DSp := fun ds P _ => match ds with
  | [x, .str s] => asF x fun f => (Frm f ∧ Prd s ∧ Over s f ∧ f ≠ []) ∧ ∀ r : Row, r.map (·.1) = sg s → val (rowF r) f = true → P (.od (rowK r))
  | _ => False
abbrev N_true_row : List Str := ["form", "letters", "row", "letter", "low"]
def w_true_row_b1_t2 : WS := (wIfS (wB (wOIx 2 (wVar 3))) (wAsg (wCall sp_fixed_at (fun _ _ => False) (wCons (wVar 0) (wCons (wVar 3) (wCons (wC (.bl true)) wNil)))) (wgName 0)) (wAsg (wVar 4) (wgName 0)))
def w_true_row_b1_t1 : WS := wSeq (wDPut 2 (wVar 3) (wOp oEqX (wVar 4) (wTup wNil)))
    w_true_row_b1_t2
def w_true_row_b1 : WS := wSeq (wAsg (wCall sp_fixed_at (fun _ _ => False) (wCons (wVar 0) (wCons (wVar 3) (wCons (wC (.bl false)) wNil)))) (wgName 4))
    w_true_row_b1_t1
def w_true_row_t2 : WS := (wRet (wMove 2))
def w_true_row_t1 : WS := wSeq (wFor (wiX (wVar 1)) (wgName 3)
      w_true_row_b1)
    w_true_row_t2
def w_true_row : WS := wSeq (wSet 2 wDict0)
    w_true_row_t1
theorem len_true_row {ds Q px} (h : sp_true_row ds Q px) : ds.length = 2 := by unfold sp_true_row at h; split at h <;> first | rfl | exact h.elim
theorem rd_true_row {ds Q px} (h : sp_true_row ds Q px) : w_true_row ⟨fun _ => Q (.d .non), Q, fun _ => False, fun _ => False⟩ (startR N_true_row ds) := by
  unfold sp_true_row at h
  split at h
  · rename_i x s
    obtain ⟨f, rfl, ⟨hf, hs, ho, hne⟩, hq⟩ := asF_of h
    clear h
    have hsl := hs.len
    unfold w_true_row
    simp only [N_true_row, w_true_row_t1, wSeq, wSet, wAsg, wC, wIfS, wB, wOp, oI, oI0, asI, asS, asL, asLT, asT, asB, asA_some, asA_none, asO, asOL, asOD, asKey, asDic, asSq, oLen, oMod, oAdd, oSub, oMul, oDiv, oMax, oMin, oPlus, oEqX, oNeX, eqX_int, eqX_str, eqX_bl, oCmp, oLtX, oLeX, oGtX, oGeX, oIxX, oInX, wCB, wCons, wNil, wVar, wMove, nth, put, startR, wNext, wRet, wRetN, wDrop, wFor, wiR1, wiR2, wiX, itemsOf, wgName, wgTup, wgCons, wgNil, wLend, wLendT, seeR_cons, seeR_nil, seeO_d, seeO_none, seeO_ol, seeO_od, wJoin, wM, oAppend, oPop, oPopAt, wDPut, wDPop, wSortK, wDict0, wTup, wLst, wCall, wAnd, wOr, wNot, wAndV, wOrV, wNotV, wIf, wYes, wLc, wiEnumX, oListX, oTuple, oSort, oSortSet, oAll, oAny, S.fz, S.own, D.flat, txts_map, bools_map, txtKeys_map, List.length_map, List.map_cons, List.map_nil, List.length_cons, List.length_nil, List.cons_append, List.nil_append, List.replicate, decide_eq_true_eq, Bool.not_eq_true', Bool.not_true, Bool.not_false, if_true, if_false, Nat.zero_add, Nat.reduceAdd, Nat.reduceSub, ge_iff_le, true_and, and_true, zip_unzip, Bool.false_xor, Bool.true_xor, Bool.false_eq_true, Bool.true_eq_false, reduceIte, wipeR, dataR_cons, dataR_nil, dataO_d, dataO_none, dataO_ol, dataO_od, oDict, oIsi, tyD, isiB, wSl, wPart, wNoP, oSl, wDisp1, wDGet2, oRemove, atI_0, atI_1, atI_2, wiRev, revItems, oDictP, wForK, wiKeys, kD, oSortX, oPow, oBitAnd, oShl, oNeg, wUn, oInt, oStr, oDivmod, oIs, isD, wChain, wFz, wFzE, frzR, wLSet, wiZip, seqsD, wiVals, wiItems, wOIx, wNo, Option.isSome_some, oMulX, wM1, oSplit, oPart, oStrip1, oRep, oSum, intsD, wRaise, wLI, wLK
, wiR3, wLR, wDisp, wPairs, oReverse, oClear, oInsert, wRevL, wDZ, seqLT, oSortIT, wOFld, wSFld, asOI, setOI, putG, wPar, wiItemsC, wiValsC, wIndexL, wDZO, wLO, wiZip3]
    rw [signs_eq, List.map_map]
    refine forD_map (I := fun done rest ρ => ∃ (g : List Str) (r : Row) (o3 o4 : Option S), Frm g ∧ OverP (fun c => c ∈ rest) g ∧ g ≠ [] ∧ r.map (·.1) = done ∧ (∀ v, val v g = val (overlay r v) f) ∧ ρ = [some (.d (fD g)), some (.d (.str s)), some (.od (rowK r)), o3, o4]) mono_name (sg s) (fun done c ys ρ he hI => ?_) (fun ρ hI => ?_) _
      ⟨f, [], none, none, hf, ho, hne, rfl, fun v => by unfold overlay; simp, rfl⟩
    · obtain ⟨g, r, o3, o4, hg, hgo, hgn, hr, hv, rfl⟩ := hI
      have hn := up_nodup hs.up
      rw [he] at hn
      have hc : c ∉ r.map (·.1) := by rw [hr]; exact fun z => (List.nodup_append.mp hn).2.2 _ z _ List.mem_cons_self rfl
      have hrl : r.length ≤ 9 := by
        have e1 := congrArg List.length hr
        have e2 := congrArg List.length he
        rw [List.length_map] at e1
        rw [List.length_append] at e2
        omega
      have cut : ∀ b, OverP (fun d => d ∈ ys) (fixF g c b) := fun b p hp d hd => by
        have := overP_fix hgo (c := c) (t := b) p hp d hd
        exact (List.mem_cons.mp this.1).resolve_left this.2
      have next : ∀ b, fixF g c b ≠ [] → ∃ (g' : List Str) (r' : Row) (o3 o4 : Option S), Frm g' ∧ OverP (fun c => c ∈ ys) g' ∧ g' ≠ [] ∧ r'.map (·.1) = done ++ [c] ∧ (∀ v, val v g' = val (overlay r' v) f) ∧ [some (S.d (fD (fixF g c b))), some (S.d (D.str s)), some (S.od (rowK (r ++ [(c, b)]))), some (S.d (D.str (one c))), some (S.d (fD (fixF g c false)))] = [some (.d (fD g')), some (.d (.str s)), some (.od (rowK r')), o3, o4] := fun b hb =>
        ⟨fixF g c b, r ++ [(c, b)], _, _, frm_fix hg, cut b, hb, by rw [List.map_append, hr]; rfl, fun v => by
          rw [val_fix, hv, overlay_snoc hc]
          congr 1
          funext d
          unfold overlay updR
          by_cases e : d = c
          · subst e; rw [if_neg hc, if_pos rfl, if_pos rfl]
          · simp only [if_neg e], rfl⟩
      simp only [w_true_row_b1, w_true_row_b1_t1, w_true_row_b1_t2, wSeq, wSet, wAsg, wC, wIfS, wB, wOp, oI, oI0, asI, asS, asL, asLT, asT, asB, asA_some, asA_none, asO, asOL, asOD, asKey, asDic, asSq, oLen, oMod, oAdd, oSub, oMul, oDiv, oMax, oMin, oPlus, oEqX, oNeX, eqX_int, eqX_str, eqX_bl, oCmp, oLtX, oLeX, oGtX, oGeX, oIxX, oInX, wCB, wCons, wNil, wVar, wMove, nth, put, startR, wNext, wRet, wRetN, wDrop, wFor, wiR1, wiR2, wiX, itemsOf, wgName, wgTup, wgCons, wgNil, wLend, wLendT, seeR_cons, seeR_nil, seeO_d, seeO_none, seeO_ol, seeO_od, wJoin, wM, oAppend, oPop, oPopAt, wDPut, wDPop, wSortK, wDict0, wTup, wLst, wCall, wAnd, wOr, wNot, wAndV, wOrV, wNotV, wIf, wYes, wLc, wiEnumX, oListX, oTuple, oSort, oSortSet, oAll, oAny, S.fz, S.own, D.flat, txts_map, bools_map, txtKeys_map, List.length_map, List.map_cons, List.map_nil, List.length_cons, List.length_nil, List.cons_append, List.nil_append, List.replicate, decide_eq_true_eq, Bool.not_eq_true', Bool.not_true, Bool.not_false, if_true, if_false, Nat.zero_add, Nat.reduceAdd, Nat.reduceSub, ge_iff_le, true_and, and_true, zip_unzip, Bool.false_xor, Bool.true_xor, Bool.false_eq_true, Bool.true_eq_false, reduceIte, wipeR, dataR_cons, dataR_nil, dataO_d, dataO_none, dataO_ol, dataO_od, oDict, oIsi, tyD, isiB, wSl, wPart, wNoP, oSl, wDisp1, wDGet2, oRemove, atI_0, atI_1, atI_2, wiRev, revItems, oDictP, wForK, wiKeys, kD, oSortX, oPow, oBitAnd, oShl, oNeg, wUn, oInt, oStr, oDivmod, oIs, isD, wChain, wFz, wFzE, frzR, wLSet, wiZip, seqsD, wiVals, wiItems, wOIx, wNo, Option.isSome_some, oMulX, wM1, oSplit, oPart, oStrip1, oRep, oSum, intsD, wRaise, wLI, wLK
, wiR3, wLR, wDisp, wPairs, oReverse, oClear, oInsert, wRevL, wDZ, seqLT, oSortIT, wOFld, wSFld, asOI, setOI, putG, wPar, wiItemsC, wiValsC, wIndexL, wDZO, wLO, wiZip3, Function.comp, sp_fixed_at, asF_fD]
      refine ⟨c, rfl, hg, by decide, ?_⟩
      rw [nilF_fD, eqX_frm (frm_fix hg) frm_nil]
      by_cases hL : fixF g c false = []
      · rw [decide_eq_true hL]
        simp only [wSeq, wSet, wAsg, wC, wIfS, wB, wOp, oI, oI0, asI, asS, asL, asLT, asT, asB, asA_some, asA_none, asO, asOL, asOD, asKey, asDic, asSq, oLen, oMod, oAdd, oSub, oMul, oDiv, oMax, oMin, oPlus, oEqX, oNeX, eqX_int, eqX_str, eqX_bl, oCmp, oLtX, oLeX, oGtX, oGeX, oIxX, oInX, wCB, wCons, wNil, wVar, wMove, nth, put, startR, wNext, wRet, wRetN, wDrop, wFor, wiR1, wiR2, wiX, itemsOf, wgName, wgTup, wgCons, wgNil, wLend, wLendT, seeR_cons, seeR_nil, seeO_d, seeO_none, seeO_ol, seeO_od, wJoin, wM, oAppend, oPop, oPopAt, wDPut, wDPop, wSortK, wDict0, wTup, wLst, wCall, wAnd, wOr, wNot, wAndV, wOrV, wNotV, wIf, wYes, wLc, wiEnumX, oListX, oTuple, oSort, oSortSet, oAll, oAny, S.fz, S.own, D.flat, txts_map, bools_map, txtKeys_map, List.length_map, List.map_cons, List.map_nil, List.length_cons, List.length_nil, List.cons_append, List.nil_append, List.replicate, decide_eq_true_eq, Bool.not_eq_true', Bool.not_true, Bool.not_false, if_true, if_false, Nat.zero_add, Nat.reduceAdd, Nat.reduceSub, ge_iff_le, true_and, and_true, zip_unzip, Bool.false_xor, Bool.true_xor, Bool.false_eq_true, Bool.true_eq_false, reduceIte, wipeR, dataR_cons, dataR_nil, dataO_d, dataO_none, dataO_ol, dataO_od, oDict, oIsi, tyD, isiB, wSl, wPart, wNoP, oSl, wDisp1, wDGet2, oRemove, atI_0, atI_1, atI_2, wiRev, revItems, oDictP, wForK, wiKeys, kD, oSortX, oPow, oBitAnd, oShl, oNeg, wUn, oInt, oStr, oDivmod, oIs, isD, wChain, wFz, wFzE, frzR, wLSet, wiZip, seqsD, wiVals, wiItems, wOIx, wNo, Option.isSome_some, oMulX, wM1, oSplit, oPart, oStrip1, oRep, oSum, intsD, wRaise, wLI, wLK
, wiR3, wLR, wDisp, wPairs, oReverse, oClear, oInsert, wRevL, wDZ, seqLT, oSortIT, wOFld, wSFld, asOI, setOI, putG, wPar, wiItemsC, wiValsC, wIndexL, wDZO, wLO, wiZip3, vput_row hc]
        have e5 : vget (((rowK (r ++ [(c, true)])).map (·.1)).zip ((rowK (r ++ [(c, true)])).map (·.2))) (.inr (one c)) = some (.bl true) := by
          rw [zip_unzip, vget_row (by simp), rowF_app_r hc]
        have e6 : vget (rowK (r ++ [(c, true)])) (.inr (one c)) = some (.bl true) := by rw [vget_row (by simp), rowF_app_r hc]
        simp only [e5, e6, asA_some, wSeq, wSet, wAsg, wC, wIfS, wB, wOp, oI, oI0, asI, asS, asL, asLT, asT, asB, asA_some, asA_none, asO, asOL, asOD, asKey, asDic, asSq, oLen, oMod, oAdd, oSub, oMul, oDiv, oMax, oMin, oPlus, oEqX, oNeX, eqX_int, eqX_str, eqX_bl, oCmp, oLtX, oLeX, oGtX, oGeX, oIxX, oInX, wCB, wCons, wNil, wVar, wMove, nth, put, startR, wNext, wRet, wRetN, wDrop, wFor, wiR1, wiR2, wiX, itemsOf, wgName, wgTup, wgCons, wgNil, wLend, wLendT, seeR_cons, seeR_nil, seeO_d, seeO_none, seeO_ol, seeO_od, wJoin, wM, oAppend, oPop, oPopAt, wDPut, wDPop, wSortK, wDict0, wTup, wLst, wCall, wAnd, wOr, wNot, wAndV, wOrV, wNotV, wIf, wYes, wLc, wiEnumX, oListX, oTuple, oSort, oSortSet, oAll, oAny, S.fz, S.own, D.flat, txts_map, bools_map, txtKeys_map, List.length_map, List.map_cons, List.map_nil, List.length_cons, List.length_nil, List.cons_append, List.nil_append, List.replicate, decide_eq_true_eq, Bool.not_eq_true', Bool.not_true, Bool.not_false, if_true, if_false, Nat.zero_add, Nat.reduceAdd, Nat.reduceSub, ge_iff_le, true_and, and_true, zip_unzip, Bool.false_xor, Bool.true_xor, Bool.false_eq_true, Bool.true_eq_false, reduceIte, wipeR, dataR_cons, dataR_nil, dataO_d, dataO_none, dataO_ol, dataO_od, oDict, oIsi, tyD, isiB, wSl, wPart, wNoP, oSl, wDisp1, wDGet2, oRemove, atI_0, atI_1, atI_2, wiRev, revItems, oDictP, wForK, wiKeys, kD, oSortX, oPow, oBitAnd, oShl, oNeg, wUn, oInt, oStr, oDivmod, oIs, isD, wChain, wFz, wFzE, frzR, wLSet, wiZip, seqsD, wiVals, wiItems, wOIx, wNo, Option.isSome_some, oMulX, wM1, oSplit, oPart, oStrip1, oRep, oSum, intsD, wRaise, wLI, wLK
, wiR3, wLR, wDisp, wPairs, oReverse, oClear, oInsert, wRevL, wDZ, seqLT, oSortIT, wOFld, wSFld, asOI, setOI, putG, wPar, wiItemsC, wiValsC, wIndexL, wDZO, wLO, wiZip3, sp_fixed_at, asF_fD]
        refine ⟨by rw [rowK, List.length_map, len0]; omega, c, rfl, hg, next true fun z => hgn (nil_of hg fun v => ?_)⟩
        have h1 := congrArg (val (fun d => v d)) hL
        have h2 := congrArg (val (fun d => v d)) z
        rw [val_fix, val_nil] at h1 h2
        cases hb : v c with
        | true => rw [← updR_of hb]; exact h2
        | false => rw [← updR_of hb]; exact h1
      · rw [decide_eq_false hL]
        simp only [wSeq, wSet, wAsg, wC, wIfS, wB, wOp, oI, oI0, asI, asS, asL, asLT, asT, asB, asA_some, asA_none, asO, asOL, asOD, asKey, asDic, asSq, oLen, oMod, oAdd, oSub, oMul, oDiv, oMax, oMin, oPlus, oEqX, oNeX, eqX_int, eqX_str, eqX_bl, oCmp, oLtX, oLeX, oGtX, oGeX, oIxX, oInX, wCB, wCons, wNil, wVar, wMove, nth, put, startR, wNext, wRet, wRetN, wDrop, wFor, wiR1, wiR2, wiX, itemsOf, wgName, wgTup, wgCons, wgNil, wLend, wLendT, seeR_cons, seeR_nil, seeO_d, seeO_none, seeO_ol, seeO_od, wJoin, wM, oAppend, oPop, oPopAt, wDPut, wDPop, wSortK, wDict0, wTup, wLst, wCall, wAnd, wOr, wNot, wAndV, wOrV, wNotV, wIf, wYes, wLc, wiEnumX, oListX, oTuple, oSort, oSortSet, oAll, oAny, S.fz, S.own, D.flat, txts_map, bools_map, txtKeys_map, List.length_map, List.map_cons, List.map_nil, List.length_cons, List.length_nil, List.cons_append, List.nil_append, List.replicate, decide_eq_true_eq, Bool.not_eq_true', Bool.not_true, Bool.not_false, if_true, if_false, Nat.zero_add, Nat.reduceAdd, Nat.reduceSub, ge_iff_le, true_and, and_true, zip_unzip, Bool.false_xor, Bool.true_xor, Bool.false_eq_true, Bool.true_eq_false, reduceIte, wipeR, dataR_cons, dataR_nil, dataO_d, dataO_none, dataO_ol, dataO_od, oDict, oIsi, tyD, isiB, wSl, wPart, wNoP, oSl, wDisp1, wDGet2, oRemove, atI_0, atI_1, atI_2, wiRev, revItems, oDictP, wForK, wiKeys, kD, oSortX, oPow, oBitAnd, oShl, oNeg, wUn, oInt, oStr, oDivmod, oIs, isD, wChain, wFz, wFzE, frzR, wLSet, wiZip, seqsD, wiVals, wiItems, wOIx, wNo, Option.isSome_some, oMulX, wM1, oSplit, oPart, oStrip1, oRep, oSum, intsD, wRaise, wLI, wLK
, wiR3, wLR, wDisp, wPairs, oReverse, oClear, oInsert, wRevL, wDZ, seqLT, oSortIT, wOFld, wSFld, asOI, setOI, putG, wPar, wiItemsC, wiValsC, wIndexL, wDZO, wLO, wiZip3, vput_row hc]
        have e5 : vget (((rowK (r ++ [(c, false)])).map (·.1)).zip ((rowK (r ++ [(c, false)])).map (·.2))) (.inr (one c)) = some (.bl false) := by
          rw [zip_unzip, vget_row (by simp), rowF_app_r hc]
        have e6 : vget (rowK (r ++ [(c, false)])) (.inr (one c)) = some (.bl false) := by rw [vget_row (by simp), rowF_app_r hc]
        simp only [e5, e6, asA_some, wSeq, wSet, wAsg, wC, wIfS, wB, wOp, oI, oI0, asI, asS, asL, asLT, asT, asB, asA_some, asA_none, asO, asOL, asOD, asKey, asDic, asSq, oLen, oMod, oAdd, oSub, oMul, oDiv, oMax, oMin, oPlus, oEqX, oNeX, eqX_int, eqX_str, eqX_bl, oCmp, oLtX, oLeX, oGtX, oGeX, oIxX, oInX, wCB, wCons, wNil, wVar, wMove, nth, put, startR, wNext, wRet, wRetN, wDrop, wFor, wiR1, wiR2, wiX, itemsOf, wgName, wgTup, wgCons, wgNil, wLend, wLendT, seeR_cons, seeR_nil, seeO_d, seeO_none, seeO_ol, seeO_od, wJoin, wM, oAppend, oPop, oPopAt, wDPut, wDPop, wSortK, wDict0, wTup, wLst, wCall, wAnd, wOr, wNot, wAndV, wOrV, wNotV, wIf, wYes, wLc, wiEnumX, oListX, oTuple, oSort, oSortSet, oAll, oAny, S.fz, S.own, D.flat, txts_map, bools_map, txtKeys_map, List.length_map, List.map_cons, List.map_nil, List.length_cons, List.length_nil, List.cons_append, List.nil_append, List.replicate, decide_eq_true_eq, Bool.not_eq_true', Bool.not_true, Bool.not_false, if_true, if_false, Nat.zero_add, Nat.reduceAdd, Nat.reduceSub, ge_iff_le, true_and, and_true, zip_unzip, Bool.false_xor, Bool.true_xor, Bool.false_eq_true, Bool.true_eq_false, reduceIte, wipeR, dataR_cons, dataR_nil, dataO_d, dataO_none, dataO_ol, dataO_od, oDict, oIsi, tyD, isiB, wSl, wPart, wNoP, oSl, wDisp1, wDGet2, oRemove, atI_0, atI_1, atI_2, wiRev, revItems, oDictP, wForK, wiKeys, kD, oSortX, oPow, oBitAnd, oShl, oNeg, wUn, oInt, oStr, oDivmod, oIs, isD, wChain, wFz, wFzE, frzR, wLSet, wiZip, seqsD, wiVals, wiItems, wOIx, wNo, Option.isSome_some, oMulX, wM1, oSplit, oPart, oStrip1, oRep, oSum, intsD, wRaise, wLI, wLK
, wiR3, wLR, wDisp, wPairs, oReverse, oClear, oInsert, wRevL, wDZ, seqLT, oSortIT, wOFld, wSFld, asOI, setOI, putG, wPar, wiItemsC, wiValsC, wIndexL, wDZO, wLO, wiZip3]
        exact ⟨by rw [rowK, List.length_map, len0]; omega, next false hL⟩
    · obtain ⟨g, r, o3, o4, hg, hgo, hgn, hr, hv, rfl⟩ := hI
      simp only [w_true_row_t2, wSeq, wSet, wAsg, wC, wIfS, wB, wOp, oI, oI0, asI, asS, asL, asLT, asT, asB, asA_some, asA_none, asO, asOL, asOD, asKey, asDic, asSq, oLen, oMod, oAdd, oSub, oMul, oDiv, oMax, oMin, oPlus, oEqX, oNeX, eqX_int, eqX_str, eqX_bl, oCmp, oLtX, oLeX, oGtX, oGeX, oIxX, oInX, wCB, wCons, wNil, wVar, wMove, nth, put, startR, wNext, wRet, wRetN, wDrop, wFor, wiR1, wiR2, wiX, itemsOf, wgName, wgTup, wgCons, wgNil, wLend, wLendT, seeR_cons, seeR_nil, seeO_d, seeO_none, seeO_ol, seeO_od, wJoin, wM, oAppend, oPop, oPopAt, wDPut, wDPop, wSortK, wDict0, wTup, wLst, wCall, wAnd, wOr, wNot, wAndV, wOrV, wNotV, wIf, wYes, wLc, wiEnumX, oListX, oTuple, oSort, oSortSet, oAll, oAny, S.fz, S.own, D.flat, txts_map, bools_map, txtKeys_map, List.length_map, List.map_cons, List.map_nil, List.length_cons, List.length_nil, List.cons_append, List.nil_append, List.replicate, decide_eq_true_eq, Bool.not_eq_true', Bool.not_true, Bool.not_false, if_true, if_false, Nat.zero_add, Nat.reduceAdd, Nat.reduceSub, ge_iff_le, true_and, and_true, zip_unzip, Bool.false_xor, Bool.true_xor, Bool.false_eq_true, Bool.true_eq_false, reduceIte, wipeR, dataR_cons, dataR_nil, dataO_d, dataO_none, dataO_ol, dataO_od, oDict, oIsi, tyD, isiB, wSl, wPart, wNoP, oSl, wDisp1, wDGet2, oRemove, atI_0, atI_1, atI_2, wiRev, revItems, oDictP, wForK, wiKeys, kD, oSortX, oPow, oBitAnd, oShl, oNeg, wUn, oInt, oStr, oDivmod, oIs, isD, wChain, wFz, wFzE, frzR, wLSet, wiZip, seqsD, wiVals, wiItems, wOIx, wNo, Option.isSome_some, oMulX, wM1, oSplit, oPart, oStrip1, oRep, oSum, intsD, wRaise, wLI, wLK
, wiR3, wLR, wDisp, wPairs, oReverse, oClear, oInsert, wRevL, wDZ, seqLT, oSortIT, wOFld, wSFld, asOI, setOI, putG, wPar, wiItemsC, wiValsC, wIndexL, wDZO, wLO, wiZip3]
      refine hq r hr ?_
      have h1 : ∀ v, val v g = val v g := fun v => rfl
      have hall : ∀ v, val v g = true := fun v => by
        cases e : val v g with
        | true => rfl
        | false =>
          exfalso
          exact hgn (nil_of hg fun u => by rw [val_out hgo (r' := v) (fun c hc => by simp at hc), e])
      have e2 := hall fun c => rowF r c
      rw [hv] at e2
      have e3 : overlay r (fun c => rowF r c) = rowF r := by funext d; unfold overlay; split <;> rfl
      rw [e3] at e2
      exact e2
  · exact h.elim
def sp_between : DSp := fun ds P _ => match ds with
  | [x, y] => asF x fun f => asF y fun g => (Frm f ∧ Frm g) ∧
      (leadF f g = true → P (.d (.tup [.str "between", fD (someF f (sg (lessS (letF f) (letF g)))), fD (everyF g (sg (lessS (letF g) (letF f))))]))) ∧
      (leadF f g = false → ∀ r : Row, r.map (·.1) = sg (lets (letF f ++ letF g)) → val (rowF r) f = true → val (rowF r) g = false → P (.d (.tup [.str "row", rowD r])))
  | _ => False
abbrev N_between : List Str := ["one", "other", "mine", "yours"]
def w_between_t3 : WS := (wRet (wTup (wCons (wC (.str "row")) (wCons (wCall sp_true_row (fun _ _ => False) (wCons (wCall sp_multiplied (fun _ _ => False) (wCons (wVar 0) (wCons (wCall sp_opposite (fun _ _ => False) (wCons (wVar 1) wNil)) wNil))) (wCons (wJoin (wC (.str "")) (wCB oSortSet (wCons (wOp oPlus (wVar 2) (wVar 3)) wNil))) wNil))) wNil))))
def w_between_t2 : WS := wSeq (wIfS (wB (wCall sp_leads (fun _ _ => False) (wCons (wVar 0) (wCons (wVar 1) wNil)))) (wRet (wTup (wCons (wC (.str "between")) (wCons (wCall sp_some_of (fun _ _ => False) (wCons (wVar 0) (wCons (wCall sp_less (fun _ _ => False) (wCons (wVar 2) (wCons (wVar 3) wNil))) wNil))) (wCons (wCall sp_every_of (fun _ _ => False) (wCons (wVar 1) (wCons (wCall sp_less (fun _ _ => False) (wCons (wVar 3) (wCons (wVar 2) wNil))) wNil))) wNil))))) wNext)
    w_between_t3
def w_between_t1 : WS := wSeq (wAsg (wCall sp_letters_of (fun _ _ => False) (wCons (wVar 1) wNil)) (wgName 3))
    w_between_t2
def w_between : WS := wSeq (wAsg (wCall sp_letters_of (fun _ _ => False) (wCons (wVar 0) wNil)) (wgName 2))
    w_between_t1
theorem len_between {ds Q px} (h : sp_between ds Q px) : ds.length = 2 := by unfold sp_between at h; split at h <;> first | rfl | exact h.elim
theorem rd_between {ds Q px} (h : sp_between ds Q px) : w_between ⟨fun _ => Q (.d .non), Q, fun _ => False, fun _ => False⟩ (startR N_between ds) := by
  unfold sp_between at h
  split at h
  · obtain ⟨f, rfl, h2⟩ := asF_of h
    obtain ⟨g, rfl, ⟨hf, hg⟩, hq1, hq2⟩ := asF_of h2
    clear h h2
    have hF := prd_letF hf
    have hG := prd_letF hg
    unfold w_between
    simp only [N_between, w_between_t1, w_between_t2, wSeq, wSet, wAsg, wC, wIfS, wB, wOp, oI, oI0, asI, asS, asL, asLT, asT, asB, asA_some, asA_none, asO, asOL, asOD, asKey, asDic, asSq, oLen, oMod, oAdd, oSub, oMul, oDiv, oMax, oMin, oPlus, oEqX, oNeX, eqX_int, eqX_str, eqX_bl, oCmp, oLtX, oLeX, oGtX, oGeX, oIxX, oInX, wCB, wCons, wNil, wVar, wMove, nth, put, startR, wNext, wRet, wRetN, wDrop, wFor, wiR1, wiR2, wiX, itemsOf, wgName, wgTup, wgCons, wgNil, wLend, wLendT, seeR_cons, seeR_nil, seeO_d, seeO_none, seeO_ol, seeO_od, wJoin, wM, oAppend, oPop, oPopAt, wDPut, wDPop, wSortK, wDict0, wTup, wLst, wCall, wAnd, wOr, wNot, wAndV, wOrV, wNotV, wIf, wYes, wLc, wiEnumX, oListX, oTuple, oSort, oSortSet, oAll, oAny, S.fz, S.own, D.flat, txts_map, bools_map, txtKeys_map, List.length_map, List.map_cons, List.map_nil, List.length_cons, List.length_nil, List.cons_append, List.nil_append, List.replicate, decide_eq_true_eq, Bool.not_eq_true', Bool.not_true, Bool.not_false, if_true, if_false, Nat.zero_add, Nat.reduceAdd, Nat.reduceSub, ge_iff_le, true_and, and_true, zip_unzip, Bool.false_xor, Bool.true_xor, Bool.false_eq_true, Bool.true_eq_false, reduceIte, wipeR, dataR_cons, dataR_nil, dataO_d, dataO_none, dataO_ol, dataO_od, oDict, oIsi, tyD, isiB, wSl, wPart, wNoP, oSl, wDisp1, wDGet2, oRemove, atI_0, atI_1, atI_2, wiRev, revItems, oDictP, wForK, wiKeys, kD, oSortX, oPow, oBitAnd, oShl, oNeg, wUn, oInt, oStr, oDivmod, oIs, isD, wChain, wFz, wFzE, frzR, wLSet, wiZip, seqsD, wiVals, wiItems, wOIx, wNo, Option.isSome_some, oMulX, wM1, oSplit, oPart, oStrip1, oRep, oSum, intsD, wRaise, wLI, wLK
, wiR3, wLR, wDisp, wPairs, oReverse, oClear, oInsert, wRevL, wDZ, seqLT, oSortIT, wOFld, wSFld, asOI, setOI, putG, wPar, wiItemsC, wiValsC, wIndexL, wDZO, wLO, wiZip3, sp_letters_of, sp_leads, asF_fD]
    refine ⟨hf, hg, ⟨hf, hg⟩, ?_⟩
    have lF := hF.len
    have lG := hG.len
    cases hL : leadF f g with
    | true =>
      simp only [wSeq, wSet, wAsg, wC, wIfS, wB, wOp, oI, oI0, asI, asS, asL, asLT, asT, asB, asA_some, asA_none, asO, asOL, asOD, asKey, asDic, asSq, oLen, oMod, oAdd, oSub, oMul, oDiv, oMax, oMin, oPlus, oEqX, oNeX, eqX_int, eqX_str, eqX_bl, oCmp, oLtX, oLeX, oGtX, oGeX, oIxX, oInX, wCB, wCons, wNil, wVar, wMove, nth, put, startR, wNext, wRet, wRetN, wDrop, wFor, wiR1, wiR2, wiX, itemsOf, wgName, wgTup, wgCons, wgNil, wLend, wLendT, seeR_cons, seeR_nil, seeO_d, seeO_none, seeO_ol, seeO_od, wJoin, wM, oAppend, oPop, oPopAt, wDPut, wDPop, wSortK, wDict0, wTup, wLst, wCall, wAnd, wOr, wNot, wAndV, wOrV, wNotV, wIf, wYes, wLc, wiEnumX, oListX, oTuple, oSort, oSortSet, oAll, oAny, S.fz, S.own, D.flat, txts_map, bools_map, txtKeys_map, List.length_map, List.map_cons, List.map_nil, List.length_cons, List.length_nil, List.cons_append, List.nil_append, List.replicate, decide_eq_true_eq, Bool.not_eq_true', Bool.not_true, Bool.not_false, if_true, if_false, Nat.zero_add, Nat.reduceAdd, Nat.reduceSub, ge_iff_le, true_and, and_true, zip_unzip, Bool.false_xor, Bool.true_xor, Bool.false_eq_true, Bool.true_eq_false, reduceIte, wipeR, dataR_cons, dataR_nil, dataO_d, dataO_none, dataO_ol, dataO_od, oDict, oIsi, tyD, isiB, wSl, wPart, wNoP, oSl, wDisp1, wDGet2, oRemove, atI_0, atI_1, atI_2, wiRev, revItems, oDictP, wForK, wiKeys, kD, oSortX, oPow, oBitAnd, oShl, oNeg, wUn, oInt, oStr, oDivmod, oIs, isD, wChain, wFz, wFzE, frzR, wLSet, wiZip, seqsD, wiVals, wiItems, wOIx, wNo, Option.isSome_some, oMulX, wM1, oSplit, oPart, oStrip1, oRep, oSum, intsD, wRaise, wLI, wLK
, wiR3, wLR, wDisp, wPairs, oReverse, oClear, oInsert, wRevL, wDZ, seqLT, oSortIT, wOFld, wSFld, asOI, setOI, putG, wPar, wiItemsC, wiValsC, wIndexL, wDZO, wLO, wiZip3, sp_less, sp_some_of, sp_every_of, asF_fD]
      exact ⟨hF, hf, hG, hg, by decide, hq1 hL⟩
    | false =>
      simp only [wSeq, wSet, wAsg, wC, wIfS, wB, wOp, oI, oI0, asI, asS, asL, asLT, asT, asB, asA_some, asA_none, asO, asOL, asOD, asKey, asDic, asSq, oLen, oMod, oAdd, oSub, oMul, oDiv, oMax, oMin, oPlus, oEqX, oNeX, eqX_int, eqX_str, eqX_bl, oCmp, oLtX, oLeX, oGtX, oGeX, oIxX, oInX, wCB, wCons, wNil, wVar, wMove, nth, put, startR, wNext, wRet, wRetN, wDrop, wFor, wiR1, wiR2, wiX, itemsOf, wgName, wgTup, wgCons, wgNil, wLend, wLendT, seeR_cons, seeR_nil, seeO_d, seeO_none, seeO_ol, seeO_od, wJoin, wM, oAppend, oPop, oPopAt, wDPut, wDPop, wSortK, wDict0, wTup, wLst, wCall, wAnd, wOr, wNot, wAndV, wOrV, wNotV, wIf, wYes, wLc, wiEnumX, oListX, oTuple, oSort, oSortSet, oAll, oAny, S.fz, S.own, D.flat, txts_map, bools_map, txtKeys_map, List.length_map, List.map_cons, List.map_nil, List.length_cons, List.length_nil, List.cons_append, List.nil_append, List.replicate, decide_eq_true_eq, Bool.not_eq_true', Bool.not_true, Bool.not_false, if_true, if_false, Nat.zero_add, Nat.reduceAdd, Nat.reduceSub, ge_iff_le, true_and, and_true, zip_unzip, Bool.false_xor, Bool.true_xor, Bool.false_eq_true, Bool.true_eq_false, reduceIte, wipeR, dataR_cons, dataR_nil, dataO_d, dataO_none, dataO_ol, dataO_od, oDict, oIsi, tyD, isiB, wSl, wPart, wNoP, oSl, wDisp1, wDGet2, oRemove, atI_0, atI_1, atI_2, wiRev, revItems, oDictP, wForK, wiKeys, kD, oSortX, oPow, oBitAnd, oShl, oNeg, wUn, oInt, oStr, oDivmod, oIs, isD, wChain, wFz, wFzE, frzR, wLSet, wiZip, seqsD, wiVals, wiItems, wOIx, wNo, Option.isSome_some, oMulX, wM1, oSplit, oPart, oStrip1, oRep, oSum, intsD, wRaise, wLI, wLK
, wiR3, wLR, wDisp, wPairs, oReverse, oClear, oInsert, wRevL, wDZ, seqLT, oSortIT, wOFld, wSFld, asOI, setOI, putG, wPar, wiItemsC, wiValsC, wIndexL, wDZO, wLO, wiZip3, w_between_t3, sp_opposite, sp_multiplied, sp_true_row, asF_fD]
      have hm := frm_mul hf (frm_opp hg)
      have hFG : Prd (lets (letF f ++ letF g)) := prd_lets fun c hc => by
        rw [sg_append] at hc
        exact (List.mem_append.mp hc).elim (hF.le c) (hG.le c)
      have lFG : (sg (letF f ++ letF g)).length ≤ 18 := by rw [sg_append, List.length_append]; omega
      refine ⟨hg, ⟨hf, frm_opp hg⟩, by rw [sg_len, sg_len, len0]; omega, by rw [sg_len]; show _ < 4096; omega, lets_fit (by omega), ⟨hm, hFG, ?_, ?_⟩, fun r hr hv => ?_⟩
      · refine over_mul (fun p hp c hc => ?_) (over_opp fun p hp c hc => ?_)
        · exact ((sg_lets _).2 c).mpr (by rw [sg_append]; exact List.mem_append.mpr (.inl (over_letF f p hp c hc)))
        · exact ((sg_lets _).2 c).mpr (by rw [sg_append]; exact List.mem_append.mpr (.inr (over_letF g p hp c hc)))
      · intro z
        unfold leadF at hL
        rw [decide_eq_false_iff_not] at hL
        exact hL z
      · rw [val_mul, val_opp, Bool.and_eq_true] at hv
        simp only [rowD_K]
        exact ⟨by decide, hq2 hL r hr hv.1 (by have := hv.2; revert this; cases val (rowF r) g <;> simp)⟩
  · exact h.elim
end DL
namespace DL
open PySem L2
def sp_L_cell_808 : DSp := fun ds P _ => match ds with
  | [.cel ns, .int k] => (ns.length ≤ 63 ∧ 0 ≤ k) ∧ ∀ z : Int, P (.d (.int z))
  | _ => False
abbrev N_L_cell_808 : List Str := ["_law_script", "_law_k"]
def w_L_cell_808_t1 : WS := (wRet (wC (.int 0)))
def w_L_cell_808 : WS := wSeq (wIfS (wB (wOp oLtX (wVar 1) (wCB oLen (wCons (wVar 0) wNil)))) (wRet (wOp oIxX (wVar 0) (wVar 1))) wNext)
    w_L_cell_808_t1
theorem len_L_cell_808 {ds Q px} (h : sp_L_cell_808 ds Q px) : ds.length = 2 := by unfold sp_L_cell_808 at h; split at h <;> first | rfl | exact h.elim
theorem rd_L_cell_808 {ds Q px} (h : sp_L_cell_808 ds Q px) : w_L_cell_808 ⟨fun _ => Q (.d .non), Q, fun _ => False, fun _ => False⟩ (startR N_L_cell_808 ds) := by
  unfold sp_L_cell_808 at h
  split at h
  · rename_i ns k
    obtain ⟨⟨h1, h2⟩, hq⟩ := h
    unfold w_L_cell_808
    simp only [N_L_cell_808, w_L_cell_808_t1, wSeq, wSet, wAsg, wC, wIfS, wB, wOp, oI, oI0, asI, asS, asL, asLT, asT, asB, asA_some, asA_none, asO, asOL, asOD, asKey, asDic, asSq, oLen, oMod, oAdd, oSub, oMul, oDiv, oMax, oMin, oPlus, oEqX, oNeX, eqX_int, eqX_str, eqX_bl, oCmp, oLtX, oLeX, oGtX, oGeX, oIxX, oInX, wCB, wCons, wNil, wVar, wMove, nth, put, startR, wNext, wRet, wRetN, wDrop, wFor, wiR1, wiR2, wiX, itemsOf, wgName, wgTup, wgCons, wgNil, wLend, wLendT, seeR_cons, seeR_nil, seeO_d, seeO_none, seeO_ol, seeO_od, wJoin, wM, oAppend, oPop, oPopAt, wDPut, wDPop, wSortK, wDict0, wTup, wLst, wCall, wAnd, wOr, wNot, wAndV, wOrV, wNotV, wIf, wYes, wLc, wiEnumX, oListX, oTuple, oSort, oSortSet, oAll, oAny, S.fz, S.own, D.flat, txts_map, bools_map, txtKeys_map, List.length_map, List.map_cons, List.map_nil, List.length_cons, List.length_nil, List.cons_append, List.nil_append, List.replicate, decide_eq_true_eq, Bool.not_eq_true', Bool.not_true, Bool.not_false, if_true, if_false, Nat.zero_add, Nat.reduceAdd, Nat.reduceSub, ge_iff_le, true_and, and_true, zip_unzip, Bool.false_xor, Bool.true_xor, Bool.false_eq_true, Bool.true_eq_false, reduceIte, wipeR, dataR_cons, dataR_nil, dataO_d, dataO_none, dataO_ol, dataO_od, oDict, oIsi, tyD, isiB, wSl, wPart, wNoP, oSl, wDisp1, wDGet2, oRemove, atI_0, atI_1, atI_2, wiRev, revItems, oDictP, wForK, wiKeys, kD, oSortX, oPow, oBitAnd, oShl, oNeg, wUn, oInt, oStr, oDivmod, oIs, isD, wChain, wFz, wFzE, frzR, wLSet, wiZip, seqsD, wiVals, wiItems, wOIx, wNo, Option.isSome_some, oMulX, wM1, oSplit, oPart, oStrip1, oRep, oSum, intsD, wRaise, wLI, wLK
, wiR3, wLR, wDisp, wPairs, oReverse, oClear, oInsert, wRevL, wDZ, seqLT, oSortIT, wOFld, wSFld, asOI, setOI, putG, wPar, wiItemsC, wiValsC, wIndexL, wDZO, wLO, wiZip3]
    split
    · rename_i h3
      obtain ⟨v, e, _⟩ := atI_in h2 h3
      rw [e, asA_some]
      exact hq v
    · exact hq 0
  · exact h.elim
def sp_L_worth_f41 : DSp := sp_worth
abbrev N_L_worth_f41 : List Str := ["_law_form_here", "_law_row", "_law_product", "_law_letter"]
def w_L_worth_f41 : WS := (wRet (wOp oEqX (wOp oMod (wCB oLen (wCons (wLc (wiX (wVar 0)) (wgName 2) (wB (wCB oAll (wCons (wLc (wiX (wVar 2)) (wgName 3) wYes (wOp oIxX (wVar 1) (wVar 3)) [3]) wNil))) (wVar 2) [2]) wNil)) (wC (.int 2))) (wC (.int 1))))
theorem len_L_worth_f41 {ds Q px} (h : sp_L_worth_f41 ds Q px) : ds.length = 2 := len_worth h
theorem rd_L_worth_f41 {ds Q px} (h : sp_L_worth_f41 ds Q px) : w_L_worth_f41 ⟨fun _ => Q (.d .non), Q, fun _ => False, fun _ => False⟩ (startR N_L_worth_f41 ds) := by
  unfold sp_L_worth_f41 sp_worth at h
  split at h
  · obtain ⟨f, rfl, r, rfl, ⟨hl, hr⟩, hq⟩ := asF_of h
    clear h
    unfold w_L_worth_f41
    simp only [N_L_worth_f41, fD, wSeq, wSet, wAsg, wC, wIfS, wB, wOp, oI, oI0, asI, asS, asL, asLT, asT, asB, asA_some, asA_none, asO, asOL, asOD, asKey, asDic, asSq, oLen, oMod, oAdd, oSub, oMul, oDiv, oMax, oMin, oPlus, oEqX, oNeX, eqX_int, eqX_str, eqX_bl, oCmp, oLtX, oLeX, oGtX, oGeX, oIxX, oInX, wCB, wCons, wNil, wVar, wMove, nth, put, startR, wNext, wRet, wRetN, wDrop, wFor, wiR1, wiR2, wiX, itemsOf, wgName, wgTup, wgCons, wgNil, wLend, wLendT, seeR_cons, seeR_nil, seeO_d, seeO_none, seeO_ol, seeO_od, wJoin, wM, oAppend, oPop, oPopAt, wDPut, wDPop, wSortK, wDict0, wTup, wLst, wCall, wAnd, wOr, wNot, wAndV, wOrV, wNotV, wIf, wYes, wLc, wiEnumX, oListX, oTuple, oSort, oSortSet, oAll, oAny, S.fz, S.own, D.flat, txts_map, bools_map, txtKeys_map, List.length_map, List.map_cons, List.map_nil, List.length_cons, List.length_nil, List.cons_append, List.nil_append, List.replicate, decide_eq_true_eq, Bool.not_eq_true', Bool.not_true, Bool.not_false, if_true, if_false, Nat.zero_add, Nat.reduceAdd, Nat.reduceSub, ge_iff_le, true_and, and_true, zip_unzip, Bool.false_xor, Bool.true_xor, Bool.false_eq_true, Bool.true_eq_false, reduceIte, wipeR, dataR_cons, dataR_nil, dataO_d, dataO_none, dataO_ol, dataO_od, oDict, oIsi, tyD, isiB, wSl, wPart, wNoP, oSl, wDisp1, wDGet2, oRemove, atI_0, atI_1, atI_2, wiRev, revItems, oDictP, wForK, wiKeys, kD, oSortX, oPow, oBitAnd, oShl, oNeg, wUn, oInt, oStr, oDivmod, oIs, isD, wChain, wFz, wFzE, frzR, wLSet, wiZip, seqsD, wiVals, wiItems, wOIx, wNo, Option.isSome_some, oMulX, wM1, oSplit, oPart, oStrip1, oRep, oSum, intsD, wRaise, wLI, wLK
, wiR3, wLR, wDisp, wPairs, oReverse, oClear, oInsert, wRevL, wDZ, seqLT, oSortIT, wOFld, wSFld, asOI, setOI, putG, wPar, wiItemsC, wiValsC, wIndexL, wDZO, wLO, wiZip3]
    refine ⟨by rw [len0]; omega, ?_⟩
    refine compD_map mono_name (fun p => if tr (rowF r) p = true then some (.str p) else none) f _ (fun p hp Q' hQ => ?_) ?_
    · obtain ⟨hp1, hp2⟩ := hr p hp
      simp only [wSeq, wSet, wAsg, wC, wIfS, wB, wOp, oI, oI0, asI, asS, asL, asLT, asT, asB, asA_some, asA_none, asO, asOL, asOD, asKey, asDic, asSq, oLen, oMod, oAdd, oSub, oMul, oDiv, oMax, oMin, oPlus, oEqX, oNeX, eqX_int, eqX_str, eqX_bl, oCmp, oLtX, oLeX, oGtX, oGeX, oIxX, oInX, wCB, wCons, wNil, wVar, wMove, nth, put, startR, wNext, wRet, wRetN, wDrop, wFor, wiR1, wiR2, wiX, itemsOf, wgName, wgTup, wgCons, wgNil, wLend, wLendT, seeR_cons, seeR_nil, seeO_d, seeO_none, seeO_ol, seeO_od, wJoin, wM, oAppend, oPop, oPopAt, wDPut, wDPop, wSortK, wDict0, wTup, wLst, wCall, wAnd, wOr, wNot, wAndV, wOrV, wNotV, wIf, wYes, wLc, wiEnumX, oListX, oTuple, oSort, oSortSet, oAll, oAny, S.fz, S.own, D.flat, txts_map, bools_map, txtKeys_map, List.length_map, List.map_cons, List.map_nil, List.length_cons, List.length_nil, List.cons_append, List.nil_append, List.replicate, decide_eq_true_eq, Bool.not_eq_true', Bool.not_true, Bool.not_false, if_true, if_false, Nat.zero_add, Nat.reduceAdd, Nat.reduceSub, ge_iff_le, true_and, and_true, zip_unzip, Bool.false_xor, Bool.true_xor, Bool.false_eq_true, Bool.true_eq_false, reduceIte, wipeR, dataR_cons, dataR_nil, dataO_d, dataO_none, dataO_ol, dataO_od, oDict, oIsi, tyD, isiB, wSl, wPart, wNoP, oSl, wDisp1, wDGet2, oRemove, atI_0, atI_1, atI_2, wiRev, revItems, oDictP, wForK, wiKeys, kD, oSortX, oPow, oBitAnd, oShl, oNeg, wUn, oInt, oStr, oDivmod, oIs, isD, wChain, wFz, wFzE, frzR, wLSet, wiZip, seqsD, wiVals, wiItems, wOIx, wNo, Option.isSome_some, oMulX, wM1, oSplit, oPart, oStrip1, oRep, oSum, intsD, wRaise, wLI, wLK
, wiR3, wLR, wDisp, wPairs, oReverse, oClear, oInsert, wRevL, wDZ, seqLT, oSortIT, wOFld, wSFld, asOI, setOI, putG, wPar, wiItemsC, wiValsC, wIndexL, wDZO, wLO, wiZip3]
      rw [signs_eq, List.length_map, List.map_map]
      refine ⟨by rw [len0]; omega, ?_⟩
      refine compD_map mono_name (fun c => some (.bl (rowF r c))) (sg p) _ (fun c hc Q'' hQ' => ?_) ?_
      · simp only [wSeq, wSet, wAsg, wC, wIfS, wB, wOp, oI, oI0, asI, asS, asL, asLT, asT, asB, asA_some, asA_none, asO, asOL, asOD, asKey, asDic, asSq, oLen, oMod, oAdd, oSub, oMul, oDiv, oMax, oMin, oPlus, oEqX, oNeX, eqX_int, eqX_str, eqX_bl, oCmp, oLtX, oLeX, oGtX, oGeX, oIxX, oInX, wCB, wCons, wNil, wVar, wMove, nth, put, startR, wNext, wRet, wRetN, wDrop, wFor, wiR1, wiR2, wiX, itemsOf, wgName, wgTup, wgCons, wgNil, wLend, wLendT, seeR_cons, seeR_nil, seeO_d, seeO_none, seeO_ol, seeO_od, wJoin, wM, oAppend, oPop, oPopAt, wDPut, wDPop, wSortK, wDict0, wTup, wLst, wCall, wAnd, wOr, wNot, wAndV, wOrV, wNotV, wIf, wYes, wLc, wiEnumX, oListX, oTuple, oSort, oSortSet, oAll, oAny, S.fz, S.own, D.flat, txts_map, bools_map, txtKeys_map, List.length_map, List.map_cons, List.map_nil, List.length_cons, List.length_nil, List.cons_append, List.nil_append, List.replicate, decide_eq_true_eq, Bool.not_eq_true', Bool.not_true, Bool.not_false, if_true, if_false, Nat.zero_add, Nat.reduceAdd, Nat.reduceSub, ge_iff_le, true_and, and_true, zip_unzip, Bool.false_xor, Bool.true_xor, Bool.false_eq_true, Bool.true_eq_false, reduceIte, wipeR, dataR_cons, dataR_nil, dataO_d, dataO_none, dataO_ol, dataO_od, oDict, oIsi, tyD, isiB, wSl, wPart, wNoP, oSl, wDisp1, wDGet2, oRemove, atI_0, atI_1, atI_2, wiRev, revItems, oDictP, wForK, wiKeys, kD, oSortX, oPow, oBitAnd, oShl, oNeg, wUn, oInt, oStr, oDivmod, oIs, isD, wChain, wFz, wFzE, frzR, wLSet, wiZip, seqsD, wiVals, wiItems, wOIx, wNo, Option.isSome_some, oMulX, wM1, oSplit, oPart, oStrip1, oRep, oSum, intsD, wRaise, wLI, wLK
, wiR3, wLR, wDisp, wPairs, oReverse, oClear, oInsert, wRevL, wDZ, seqLT, oSortIT, wOFld, wSFld, asOI, setOI, putG, wPar, wiItemsC, wiValsC, wIndexL, wDZO, wLO, wiZip3, Function.comp, rowD, rowK_zip, vget_row (hp2 c hc), asA_some]
        exact hQ'
      have e : (sg p).filterMap (fun c => some (D.bl (rowF r c))) = ((sg p).map (rowF r)).map .bl := by
        rw [List.map_map, ← List.filterMap_eq_map]; rfl
      rw [e, bools_map, asA_some]
      have e2 : ((sg p).map (rowF r)).all id = tr (rowF r) p := by rw [List.all_map]; rfl
      rw [e2]
      cases h : tr (rowF r) p <;> rw [h] at hQ <;> exact hQ
    have e3 : (f.filterMap (fun p => if tr (rowF r) p = true then some (D.str p) else none)) = (f.filter (tr (rowF r))).map .str := by
      clear hl hr hq
      induction f with
      | nil => rfl
      | cons p f ih =>
        rw [List.filterMap_cons, List.filter_cons]
        cases h : tr (rowF r) p
        · rw [if_neg Bool.false_ne_true, if_neg Bool.false_ne_true]; exact ih
        · rw [if_pos rfl, if_pos rfl, List.map_cons, ih]
    rw [e3, List.length_map, ← List.countP_eq_length_filter]
    have hcp := List.countP_le_length (p := tr (rowF r)) (l := f)
    refine ⟨by decide, ?_⟩
    have e : decide (((f.countP (tr (rowF r)) : Nat) : Int) % 2 = 1) = val (rowF r) f := by
      unfold val
      apply decide_eq_decide.mpr
      omega
    rw [e]
    exact hq
  · exact h.elim
def sp_L_is_form_f61 : DSp := sp_L_is_form
abbrev N_L_is_form_f61 : List Str := ["_law_found", "_law_letters_here", "_law_product", "_law_letter"]
def w_L_is_form_f61_t3 : WS := (wRet (wC (.bl true)))
def w_L_is_form_f61_t2 : WS := wSeq (wFor (wiX (wVar 0)) (wgName 2)
      (wIfS (wB (wOp oNeX (wVar 2) (wJoin (wC (.str "")) (wLc (wiX (wVar 1)) (wgName 3) (wB (wOp (oInX false) (wVar 3) (wVar 2))) (wVar 3) [3])))) (wRet (wC (.bl false))) wNext))
    w_L_is_form_f61_t3
def w_L_is_form_f61_t1 : WS := wSeq (wIfS (wB (wOp oNeX (wCB oListX (wCons (wVar 0) wNil)) (wCB oSortSet (wCons (wVar 0) wNil)))) (wRet (wC (.bl false))) wNext)
    w_L_is_form_f61_t2
def w_L_is_form_f61 : WS := wSeq (wIfS (wOr (wNot (wB (wCB oIsi (wCons (wVar 0) (wCons (wC (.ty "tuple")) wNil))))) (wNot (wB (wCB oAll (wCons (wLc (wiX (wVar 0)) (wgName 2) wYes (wCB oIsi (wCons (wVar 2) (wCons (wC (.ty "str")) wNil))) [2]) wNil))))) (wRet (wC (.bl false))) wNext)
    w_L_is_form_f61_t1
theorem len_L_is_form_f61 {ds Q px} (h : sp_L_is_form_f61 ds Q px) : ds.length = 2 := len_L_is_form h
theorem rd_L_is_form_f61 {ds Q px} (h : sp_L_is_form_f61 ds Q px) : w_L_is_form_f61 ⟨fun _ => Q (.d .non), Q, fun _ => False, fun _ => False⟩ (startR N_L_is_form_f61 ds) := rd_L_is_form h
end DL
namespace DL
open PySem L2
def tabV : List Nat → ((Nat → Bool) → Bool) → (Nat → Bool) → List Bool
  | [], g, r => [g r]
  | c :: cs, g, r => tabV cs g (updR r c false) ++ tabV cs g (updR r c true)
theorem tabV_len : ∀ (ls : List Nat) (g : (Nat → Bool) → Bool) (r : Nat → Bool), (tabV ls g r).length = 2 ^ ls.length
  | [], _, _ => rfl
  | c :: cs, g, r => by rw [tabV, List.length_append, tabV_len cs, tabV_len cs, List.length_cons, Nat.pow_succ]; omega
theorem tabV_congr {g g' : (Nat → Bool) → Bool} : ∀ (ls : List Nat) (r : Nat → Bool), (∀ r' : Nat → Bool, (∀ c, c ∉ ls → r' c = r c) → g r' = g' r') → tabV ls g r = tabV ls g' r
  | [], r, h => by rw [tabV, tabV, h r fun _ _ => rfl]
  | c :: cs, r, h => by
    have k : ∀ b, tabV cs g (updR r c b) = tabV cs g' (updR r c b) := fun b => tabV_congr cs _ fun r' hr => h r' fun d hd => by
      rw [hr d fun z => hd (List.mem_cons_of_mem _ z), updR, if_neg fun (z : d = c) => hd (z ▸ List.mem_cons_self)]
    rw [tabV, tabV, k, k]
theorem tabV_zip (φ : Bool → Bool → Bool) (g h : (Nat → Bool) → Bool) : ∀ (ls : List Nat) (r : Nat → Bool), List.zipWith φ (tabV ls g r) (tabV ls h r) = tabV ls (fun x => φ (g x) (h x)) r
  | [], _ => rfl
  | c :: cs, r => by rw [tabV, tabV, tabV, List.zipWith_append (by rw [tabV_len, tabV_len]), tabV_zip, tabV_zip]
theorem getD_l {A B : List Bool} {k : Nat} (h : k < A.length) : (A ++ B).getD k false = A.getD k false := by
  rw [List.getD_eq_getElem?_getD, List.getD_eq_getElem?_getD, List.getElem?_append_left h]
theorem getD_r {A B : List Bool} {k : Nat} (h : A.length ≤ k) : (A ++ B).getD k false = B.getD (k - A.length) false := by
  rw [List.getD_eq_getElem?_getD, List.getD_eq_getElem?_getD, List.getElem?_append_right h]
theorem getD_in {A : List Bool} {k : Nat} (h : k < A.length) : A.getD k false = A[k] := by
  rw [List.getD_eq_getElem?_getD, List.getElem?_eq_getElem h]; rfl
theorem updR_swap {r : Nat → Bool} {c d : Nat} {a b : Bool} (h : c ≠ d) : updR (updR r c a) d b = updR (updR r d b) c a := by
  funext x
  unfold updR
  by_cases h1 : x = d
  · rw [if_pos h1, if_neg (fun z => h (z.symm.trans h1)), if_pos h1]
  · rw [if_neg h1]
    by_cases h2 : x = c
    · rw [if_pos h2, if_pos h2]
    · rw [if_neg h2, if_neg h2, if_neg h1]
theorem tabV_upd {g : (Nat → Bool) → Bool} {c : Nat} {b : Bool} : ∀ (ls : List Nat) (r : Nat → Bool), c ∉ ls → tabV ls g (updR r c b) = tabV ls (fun x => g (updR x c b)) r
  | [], _, _ => rfl
  | d :: ds, r, h => by
    have hd : c ≠ d := fun z => h (z ▸ List.mem_cons_self)
    rw [tabV, tabV, updR_swap hd, updR_swap hd, tabV_upd ds _ fun z => h (List.mem_cons_of_mem _ z), tabV_upd ds _ fun z => h (List.mem_cons_of_mem _ z)]
def oddB (n : Nat) : Bool := decide (n % 2 = 1)
theorem oddB_add (a b : Nat) : oddB (a + b) = xor (oddB a) (oddB b) := by
  unfold oddB
  rcases Nat.mod_two_eq_zero_or_one a with h1 | h1 <;> rcases Nat.mod_two_eq_zero_or_one b with h2 | h2
  · rw [Nat.add_mod, h1, h2]; decide
  · rw [Nat.add_mod, h1, h2]; decide
  · rw [Nat.add_mod, h1, h2]; decide
  · rw [Nat.add_mod, h1, h2]; decide
def wo (c : Nat) (F : List Str) : List Str := F.filter fun p => decide (c ∉ sg p)
def wi (c : Nat) (F : List Str) : List Str := F.filter fun p => decide (c ∈ sg p)
def ini : List Nat → List Str → List Bool
  | [], F => [oddB F.length]
  | c :: cs, F => ini cs (wo c F) ++ ini cs (wi c F)
theorem ini_len : ∀ (ls : List Nat) (F : List Str), (ini ls F).length = 2 ^ ls.length
  | [], _ => rfl
  | c :: cs, F => by rw [ini, List.length_append, ini_len cs, ini_len cs, List.length_cons, Nat.pow_succ]; omega
theorem filter_comm (Q R : Str → Bool) (F : List Str) : (F.filter Q).filter R = (F.filter R).filter Q := by
  rw [List.filter_filter, List.filter_filter]; congr 1; funext x; exact Bool.and_comm _ _
theorem ini_xor (Q : Str → Bool) : ∀ (cs : List Nat) (F : List Str), List.zipWith xor (ini cs (F.filter Q)) (ini cs (F.filter fun p => !Q p)) = ini cs F
  | [], F => by
    rw [ini, ini, ini, List.zipWith_cons_cons, List.zipWith_nil_left, ← oddB_add]
    have : (F.filter Q).length + (F.filter fun p => !Q p).length = F.length := by
      induction F with
      | nil => rfl
      | cons p F ih => rw [List.filter_cons, List.filter_cons]; cases Q p <;> simp <;> omega
    rw [this]
  | c :: cs, F => by
    rw [ini, ini, ini, List.zipWith_append (by rw [ini_len, ini_len])]
    unfold wo wi
    rw [filter_comm Q, filter_comm Q, filter_comm (fun p => !Q p), filter_comm (fun p => !Q p), ini_xor, ini_xor]
def mid : List Nat → List Nat → List Str → List Bool
  | [], rest, F => ini rest F
  | c :: done, rest, F => mid done rest (wo c F) ++ mid done rest F
theorem mid_len : ∀ (done rest : List Nat) (F : List Str), (mid done rest F).length = 2 ^ (done.length + rest.length)
  | [], rest, F => by rw [mid, ini_len, List.length_nil, Nat.zero_add]
  | c :: done, rest, F => by rw [mid, List.length_append, mid_len done, mid_len done, List.length_cons, show done.length + 1 + rest.length = (done.length + rest.length) + 1 by omega, Nat.pow_succ]; omega
def passB (s : Nat) (L : List Bool) (k : Nat) : Bool := if k / s % 2 = 1 then xor (L.getD k false) (L.getD (k - s) false) else L.getD k false
def passL (s : Nat) (L : List Bool) : List Bool := (List.range L.length).map (passB s L)
theorem passL_app {s m : Nat} {A B : List Bool} (hs : 0 < s) (h : A.length = 2 * s * m) : passL s (A ++ B) = passL s A ++ passL s B := by
  apply List.ext_getElem
  · simp [passL]
  · intro k h1 h2
    have hk : k < A.length + B.length := by simpa [passL] using h1
    by_cases ha : k < A.length
    · rw [List.getElem_append_left (by simpa [passL] using ha)]
      simp only [passL, List.getElem_map, List.getElem_range]
      unfold passB
      rw [getD_l ha, getD_l (by omega)]
    · rw [List.getElem_append_right (by simpa [passL] using ha)]
      simp only [passL, List.getElem_map, List.getElem_range, List.length_map, List.length_range]
      have e1 : k / s % 2 = (k - A.length) / s % 2 := by
        have : k = (k - A.length) + s * (2 * m) := by rw [show s * (2 * m) = A.length by rw [h]; ac_rfl]; omega
        conv => lhs; rw [this]
        rw [Nat.add_mul_div_left _ _ hs]
        omega
      unfold passB
      rw [e1, getD_r (by omega)]
      split
      · rename_i z
        have hge : s ≤ k - A.length := by
          rcases Nat.lt_or_ge (k - A.length) s with q | q
          · rw [Nat.div_eq_of_lt q] at z; exact absurd z (by decide)
          · exact q
        rw [getD_r (by omega), show k - s - A.length = k - A.length - s by omega]
      · rfl
theorem passL_two {s : Nat} {A B : List Bool} (hs : 0 < s) (hA : A.length = s) (hB : B.length = s) : passL s (A ++ B) = A ++ List.zipWith xor A B := by
  apply List.ext_getElem
  · simp [passL, hA, hB]
  · intro k h1 h2
    have hk : k < A.length + B.length := by simpa [passL] using h1
    simp only [passL, List.getElem_map, List.getElem_range]
    unfold passB
    by_cases ha : k < A.length
    · rw [if_neg (by rw [Nat.div_eq_of_lt (by omega)]; decide), List.getElem_append_left ha, getD_l ha, getD_in ha]
    · have e : k / s = 1 := Nat.div_eq_of_lt_le (by omega) (by omega)
      rw [if_pos (by rw [e]), List.getElem_append_right (by omega), List.getElem_zipWith, getD_r (by omega), getD_l (by omega), getD_in (show k - A.length < B.length by omega), getD_in (show k - s < A.length by omega), Bool.xor_comm]
      congr 2
      omega
theorem not_wo (c : Nat) (F : List Str) : (F.filter fun p => !decide (c ∉ sg p)) = wi c F := by
  unfold wi; congr 1; funext p; by_cases h : c ∈ sg p <;> simp [h]
theorem mid_pass : ∀ (done : List Nat) (c : Nat) (rest : List Nat) (F : List Str), passL (2 ^ rest.length) (mid done (c :: rest) F) = mid (done ++ [c]) rest F
  | [], c, rest, F => by
    show passL (2 ^ rest.length) (ini rest (wo c F) ++ ini rest (wi c F)) = ini rest (wo c F) ++ ini rest F
    rw [passL_two (Nat.two_pow_pos _) (ini_len _ _) (ini_len _ _)]
    congr 1
    rw [← not_wo]
    exact ini_xor _ rest F
  | d :: done, c, rest, F => by
    show passL (2 ^ rest.length) (mid done (c :: rest) (wo d F) ++ mid done (c :: rest) F) = mid (done ++ [c]) rest (wo d F) ++ mid (done ++ [c]) rest F
    rw [passL_app (m := 2 ^ done.length) (Nat.two_pow_pos _) (by rw [mid_len, List.length_cons, ← Nat.add_assoc, Nat.pow_succ, Nat.pow_add]; ac_rfl), mid_pass, mid_pass]
theorem tr_updF {r : Nat → Bool} {c : Nat} {p : Str} : r c = false → c ∈ sg p → tr r p = false := fun h hc => by
  cases e : tr r p with
  | false => rfl
  | true => exact absurd (List.all_eq_true.mp e c hc) (by rw [h]; decide)
theorem mid_tab : ∀ (ls : List Nat) (F : List Str) (r : Nat → Bool), ls.Nodup → (∀ p ∈ F, ∀ c ∈ sg p, c ∉ ls → r c = true) → mid ls [] F = tabV ls (fun x => val x F) r
  | [], F, r, _, h => by
    have : F.countP (tr r) = F.length := List.countP_eq_length.mpr fun p hp => List.all_eq_true.mpr fun c hc => h p hp c hc (by simp)
    rw [mid, ini, tabV, val, this]; rfl
  | c :: cs, F, r, hn, h => by
    have hc := (List.nodup_cons.mp hn).1
    rw [mid, tabV, mid_tab cs (wo c F) (updR r c false) (List.nodup_cons.mp hn).2 (fun p hp d hd hdn => ?_), mid_tab cs F (updR r c true) (List.nodup_cons.mp hn).2 (fun p hp d hd hdn => ?_)]
    · congr 1
      refine tabV_congr cs _ fun r' hr => ?_
      have h0 : r' c = false := by rw [hr c hc, updR, if_pos rfl]
      unfold val wo
      rw [List.countP_filter]
      have : F.countP (fun a => tr r' a && decide (c ∉ sg a)) = F.countP (tr r') := by
        refine List.countP_congr fun p _ => ?_
        by_cases z : c ∈ sg p
        · rw [tr_updF h0 z]; simp
        · simp [z]
      rw [this]
    · unfold updR
      by_cases z : d = c
      · rw [if_pos z]
      · rw [if_neg z]; exact h p hp d hd fun q => (List.mem_cons.mp q).elim z hdn
    · have hp' := List.mem_filter.mp hp
      have hcp : c ∉ sg p := of_decide_eq_true hp'.2
      unfold updR
      rw [if_neg fun (z : d = c) => hcp (z ▸ hd)]
      exact h p hp'.1 d hd fun q => (List.mem_cons.mp q).elim (fun z => hcp (z ▸ hd)) hdn
def msk : List Nat → List Nat → Nat
  | [], _ => 0
  | c :: cs, l => (if c ∈ l then 2 ^ cs.length else 0) + msk cs l
theorem msk_lt : ∀ (ls l : List Nat), msk ls l < 2 ^ ls.length
  | [], _ => Nat.one_pos
  | c :: cs, l => by have := msk_lt cs l; rw [msk, List.length_cons, Nat.pow_succ]; split <;> omega
theorem msk_inj : ∀ {ls l l' : List Nat}, msk ls l = msk ls l' → ∀ c ∈ ls, c ∈ l ↔ c ∈ l'
  | c :: cs, l, l', h, d, hd => by
    have h1 := msk_lt cs l
    have h2 := msk_lt cs l'
    rw [msk, msk] at h
    have k : c ∈ l ↔ c ∈ l' := by
      by_cases z : c ∈ l <;> by_cases z' : c ∈ l' <;> simp only [z, z', if_true, if_false] at h ⊢ <;> omega
    rcases List.mem_cons.mp hd with rfl | hd
    · exact k
    · have e : msk cs l = msk cs l' := by
        by_cases z : c ∈ l
        · have z' := k.mp z
          rw [if_pos z, if_pos z'] at h; omega
        · have z' : c ∉ l' := fun q => z (k.mpr q)
          rw [if_neg z, if_neg z'] at h; omega
      exact msk_inj e d hd
theorem ini_range : ∀ (ls : List Nat) (F : List Str), ini ls F = (List.range (2 ^ ls.length)).map fun k => oddB (F.countP fun p => decide (msk ls (sg p) = k))
  | [], F => by
    show [oddB F.length] = [oddB (F.countP fun p => decide (msk [] (sg p) = 0))]
    have : F.countP (fun p => decide (msk [] (sg p) = 0)) = F.length := List.countP_eq_length.mpr fun p _ => rfl
    rw [this]
  | c :: cs, F => by
    rw [ini, ini_range cs, ini_range cs, List.length_cons, Nat.pow_succ, Nat.mul_two, List.range_add, List.map_append, List.map_map]
    congr 1
    · refine List.map_congr_left fun k hk => ?_
      rw [wo, List.countP_filter]
      congr 1
      refine List.countP_congr fun p _ => ?_
      rw [List.mem_range] at hk
      rw [msk]
      by_cases z : c ∈ sg p <;> simp [z] <;> omega
    · refine List.map_congr_left fun k hk => ?_
      rw [wi, List.countP_filter]
      show _ = oddB (F.countP fun p => decide (msk (c :: cs) (sg p) = 2 ^ cs.length + k))
      congr 1
      refine List.countP_congr fun p _ => ?_
      have := msk_lt cs (sg p)
      rw [msk]
      by_cases z : c ∈ sg p <;> simp [z] <;> omega
def plc : List Nat → Nat → Nat
  | [], _ => 0
  | c :: cs, d => if d = c then 2 ^ cs.length else plc cs d
theorem plc_one {c : Nat} {cs : List Nat} : ∀ {l : List Nat}, l.Nodup → (l.map (plc (c :: cs))).sum = (if c ∈ l then 2 ^ cs.length else 0) + ((l.filter fun d => decide (d ≠ c)).map (plc cs)).sum
  | [], _ => rfl
  | d :: l, h => by
    have hd := List.nodup_cons.mp h
    rw [List.map_cons, List.sum_cons, plc_one hd.2]
    by_cases z : d = c
    · subst z
      rw [plc, if_pos rfl, if_neg hd.1, if_pos List.mem_cons_self, List.filter_cons_of_neg (by simp)]; omega
    · rw [plc, if_neg z, List.filter_cons_of_pos (by simpa using z), List.map_cons, List.sum_cons]
      by_cases y : c ∈ l
      · rw [if_pos y, if_pos (List.mem_cons_of_mem _ y)]; omega
      · rw [if_neg y, if_neg fun q => (List.mem_cons.mp q).elim (fun e => z e.symm) y]; omega
theorem msk_filter {c : Nat} : ∀ {cs l : List Nat}, c ∉ cs → msk cs (l.filter fun d => decide (d ≠ c)) = msk cs l
  | [], _, _ => rfl
  | d :: cs, l, h => by
    rw [msk, msk, msk_filter fun q => h (List.mem_cons_of_mem _ q)]
    have : d ≠ c := fun z => h (z ▸ List.mem_cons_self)
    simp [List.mem_filter, this]
theorem plc_sum : ∀ {ls l : List Nat}, ls.Nodup → l.Nodup → (∀ c ∈ l, c ∈ ls) → (l.map (plc ls)).sum = msk ls l
  | [], l, _, _, h => by
    cases l with
    | nil => rfl
    | cons a l => exact absurd (h a List.mem_cons_self) (by simp)
  | c :: cs, l, hn, hl, h => by
    have hc := (List.nodup_cons.mp hn).1
    rw [plc_one hl, plc_sum (List.nodup_cons.mp hn).2 (hl.sublist List.filter_sublist) (fun d hd => ?_), msk_filter hc, msk]
    have := List.mem_filter.mp hd
    rcases List.mem_cons.mp (h d this.1) with z | z
    · exact absurd z (of_decide_eq_true this.2)
    · exact z
theorem plc_at {c : Nat} {rest : List Nat} : ∀ {done : List Nat}, c ∉ done → plc (done ++ c :: rest) c = 2 ^ rest.length
  | [], _ => by rw [List.nil_append, plc, if_pos rfl]
  | d :: done, h => by rw [List.cons_append, plc, if_neg fun (z : c = d) => h (z ▸ List.mem_cons_self), plc_at fun q => h (List.mem_cons_of_mem _ q)]
theorem ini_form {ls : List Nat} {f : List Str} (hf : Frm f) (ho : ∀ p ∈ f, ∀ c ∈ sg p, c ∈ ls) : ini ls f = (List.range (2 ^ ls.length)).map fun k => decide (∃ p ∈ f, msk ls (sg p) = k) := by
  rw [ini_range]
  refine List.map_congr_left fun k _ => ?_
  by_cases h : ∃ p ∈ f, msk ls (sg p) = k
  · obtain ⟨p, hp, e⟩ := h
    have : f.countP (fun q => decide (msk ls (sg q) = k)) = f.count p := by
      rw [List.count]
      refine List.countP_congr fun q hq => ?_
      rw [decide_eq_true_iff, beq_iff_eq]
      constructor
      · intro z
        have hm := msk_inj (z.trans e.symm)
        exact sg_inj (up_ext (hf.prd q hq).up (hf.prd p hp).up fun c => ⟨fun y => (hm c (ho q hq c y)).mp y, fun y => (hm c (ho p hp c y)).mpr y⟩)
      · rintro rfl; exact e
    have c1 : f.count p = 1 := Nat.le_antisymm (List.nodup_iff_count.mp hf.nd p) (List.count_pos_iff.mpr hp)
    rw [this, c1]
    exact (decide_eq_true (⟨p, hp, e⟩ : ∃ p ∈ f, msk ls (sg p) = k)).symm
  · rw [List.countP_eq_zero.mpr fun q hq z => h ⟨q, hq, of_decide_eq_true z⟩]
    exact (decide_eq_false h).symm
def tabF (ls : List Nat) (f : List Str) : List Bool := tabV ls (fun r => val r f) fun _ => false
theorem tabF_len (ls : List Nat) (f : List Str) : (tabF ls f).length = 2 ^ ls.length := tabV_len _ _ _
theorem mid_end {ls : List Nat} {f : List Str} (hn : ls.Nodup) (ho : ∀ p ∈ f, ∀ c ∈ sg p, c ∈ ls) : mid ls [] f = tabF ls f := mid_tab ls f _ hn fun p hp c hc h => absurd (ho p hp c hc) h
end DL
namespace DL
open PySem L2
def sp_L_stir_d34 : DSp := fun ds P _ => match ds with
  | [.int c, .int k] => (0 ≤ k ∧ k ≤ 1000000) ∧ ∀ z : Int, 0 ≤ z → z < 2147483629 → P (.d (.int z))
  | _ => False
abbrev N_L_stir_d34 : List Str := ["_law_cell_here", "_law_k"]
def w_L_stir_d34 : WS := (wRet (wOp oMod (wOp oMul (wOp oPlus (wOp oMod (wOp oPow (wOp oPlus (wOp oPlus (wOp oMod (wVar 0) (wC (.int 2147483647))) (wOp oMul (wC (.int 7919)) (wVar 1))) (wC (.int 104729))) (wC (.int 5))) (wC (.int 2147483647))) (wVar 1)) (wC (.int 40692))) (wC (.int 2147483629))))
theorem len_L_stir_d34 {ds Q px} (h : sp_L_stir_d34 ds Q px) : ds.length = 2 := by unfold sp_L_stir_d34 at h; split at h <;> first | rfl | exact h.elim
theorem rd_L_stir_d34 {ds Q px} (h : sp_L_stir_d34 ds Q px) : w_L_stir_d34 ⟨fun _ => Q (.d .non), Q, fun _ => False, fun _ => False⟩ (startR N_L_stir_d34 ds) := by
  unfold sp_L_stir_d34 at h
  split at h
  · rename_i c k
    obtain ⟨⟨h1, h2⟩, hq⟩ := h
    unfold w_L_stir_d34
    simp only [N_L_stir_d34, wSeq, wSet, wAsg, wC, wIfS, wB, wOp, oI, oI0, asI, asS, asL, asLT, asT, asB, asA_some, asA_none, asO, asOL, asOD, asKey, asDic, asSq, oLen, oMod, oAdd, oSub, oMul, oDiv, oMax, oMin, oPlus, oEqX, oNeX, eqX_int, eqX_str, eqX_bl, oCmp, oLtX, oLeX, oGtX, oGeX, oIxX, oInX, wCB, wCons, wNil, wVar, wMove, nth, put, startR, wNext, wRet, wRetN, wDrop, wFor, wiR1, wiR2, wiX, itemsOf, wgName, wgTup, wgCons, wgNil, wLend, wLendT, seeR_cons, seeR_nil, seeO_d, seeO_none, seeO_ol, seeO_od, wJoin, wM, oAppend, oPop, oPopAt, wDPut, wDPop, wSortK, wDict0, wTup, wLst, wCall, wAnd, wOr, wNot, wAndV, wOrV, wNotV, wIf, wYes, wLc, wiEnumX, oListX, oTuple, oSort, oSortSet, oAll, oAny, S.fz, S.own, D.flat, txts_map, bools_map, txtKeys_map, List.length_map, List.map_cons, List.map_nil, List.length_cons, List.length_nil, List.cons_append, List.nil_append, List.replicate, decide_eq_true_eq, Bool.not_eq_true', Bool.not_true, Bool.not_false, if_true, if_false, Nat.zero_add, Nat.reduceAdd, Nat.reduceSub, ge_iff_le, true_and, and_true, zip_unzip, Bool.false_xor, Bool.true_xor, Bool.false_eq_true, Bool.true_eq_false, reduceIte, wipeR, dataR_cons, dataR_nil, dataO_d, dataO_none, dataO_ol, dataO_od, oDict, oIsi, tyD, isiB, wSl, wPart, wNoP, oSl, wDisp1, wDGet2, oRemove, atI_0, atI_1, atI_2, wiRev, revItems, oDictP, wForK, wiKeys, kD, oSortX, oPow, oBitAnd, oShl, oNeg, wUn, oInt, oStr, oDivmod, oIs, isD, wChain, wFz, wFzE, frzR, wLSet, wiZip, seqsD, wiVals, wiItems, wOIx, wNo, Option.isSome_some, oMulX, wM1, oSplit, oPart, oStrip1, oRep, oSum, intsD, wRaise, wLI, wLK
, wiR3, wLR, wDisp, wPairs, oReverse, oClear, oInsert, wRevL, wDZ, seqLT, oSortIT, wOFld, wSFld, asOI, setOI, putG, wPar, wiItemsC, wiValsC, wIndexL, wDZO, wLO, wiZip3]
    have r0 := Int.emod_nonneg c (show (2147483647 : Int) ≠ 0 by decide)
    have r1 := Int.emod_lt_of_pos c (show (0 : Int) < 2147483647 by decide)
    have e5 : ((5 : Int)).toNat = 5 := rfl
    refine ⟨by decide, .inl ⟨by decide, by decide⟩, ⟨by decide, by decide, ?_⟩, by decide, .inr ⟨by decide, by decide⟩, by decide, hq _ (Int.emod_nonneg _ (by decide)) (Int.emod_lt_of_pos _ (by decide))⟩
    generalize c % 2147483647 = u at r0 r1 ⊢
    show (u + 7919 * k + 104729).natAbs < 2 ^ 64
    omega
  · exact h.elim
def sp_L_numbers_81e : DSp := fun ds P _ => match ds with
  | [.int c, .int a, .int n] => (0 ≤ a ∧ a ≤ 1000 ∧ 0 ≤ n ∧ n ≤ 64) ∧ ∀ ns : List Int, ns.length ≤ 64 → P (.ol (ns.map .int))
  | _ => False
abbrev N_L_numbers_81e : List Str := ["_law_cell_here", "_law_at", "_law_many", "_law_found", "_law_rest", "_law_k"]
def w_L_numbers_81e_t3 : WS := (wRet (wMove 3))
def w_L_numbers_81e_t2 : WS := wSeq (wFor (wiR1 (wCons (wVar 2) wNil)) (wgName 5)
      (wIfS (wAnd (wB (wOp oGeX (wVar 0) (wOp oPow (wC (.int 10)) (wC (.int 18))))) (wB (wOp oGtX (wVar 4) (wC (.int 0))))) (wSeq (wDrop (wM 3 oAppend (wCons (wOp oMod (wVar 4) (wC (.int 512))) wNil)))
    (wAsg (wOp oDiv (wVar 4) (wC (.int 512))) (wgName 4))) (wDrop (wM 3 oAppend (wCons (wOp oMod (wOp oDiv (wCall sp_L_stir_d34 (fun _ _ => False) (wCons (wVar 0) (wCons (wOp oPlus (wOp oMul (wC (.int 32)) (wVar 1)) (wVar 5)) wNil))) (wC (.int 64))) (wC (.int 512))) wNil)))))
    w_L_numbers_81e_t3
def w_L_numbers_81e_t1 : WS := wSeq (wAsg (wVar 0) (wgName 4))
    w_L_numbers_81e_t2
def w_L_numbers_81e : WS := wSeq (wSet 3 (wLst wNil))
    w_L_numbers_81e_t1
theorem len_L_numbers_81e {ds Q px} (h : sp_L_numbers_81e ds Q px) : ds.length = 3 := by unfold sp_L_numbers_81e at h; split at h <;> first | rfl | exact h.elim
theorem rd_L_numbers_81e {ds Q px} (h : sp_L_numbers_81e ds Q px) : w_L_numbers_81e ⟨fun _ => Q (.d .non), Q, fun _ => False, fun _ => False⟩ (startR N_L_numbers_81e ds) := by
  unfold sp_L_numbers_81e at h
  split at h
  · rename_i c a n
    obtain ⟨⟨h1, h2, h3, h4⟩, hq⟩ := h
    unfold w_L_numbers_81e
    simp only [N_L_numbers_81e, w_L_numbers_81e_t1, w_L_numbers_81e_t2, wSeq, wSet, wAsg, wC, wIfS, wB, wOp, oI, oI0, asI, asS, asL, asLT, asT, asB, asA_some, asA_none, asO, asOL, asOD, asKey, asDic, asSq, oLen, oMod, oAdd, oSub, oMul, oDiv, oMax, oMin, oPlus, oEqX, oNeX, eqX_int, eqX_str, eqX_bl, oCmp, oLtX, oLeX, oGtX, oGeX, oIxX, oInX, wCB, wCons, wNil, wVar, wMove, nth, put, startR, wNext, wRet, wRetN, wDrop, wFor, wiR1, wiR2, wiX, itemsOf, wgName, wgTup, wgCons, wgNil, wLend, wLendT, seeR_cons, seeR_nil, seeO_d, seeO_none, seeO_ol, seeO_od, wJoin, wM, oAppend, oPop, oPopAt, wDPut, wDPop, wSortK, wDict0, wTup, wLst, wCall, wAnd, wOr, wNot, wAndV, wOrV, wNotV, wIf, wYes, wLc, wiEnumX, oListX, oTuple, oSort, oSortSet, oAll, oAny, S.fz, S.own, D.flat, txts_map, bools_map, txtKeys_map, List.length_map, List.map_cons, List.map_nil, List.length_cons, List.length_nil, List.cons_append, List.nil_append, List.replicate, decide_eq_true_eq, Bool.not_eq_true', Bool.not_true, Bool.not_false, if_true, if_false, Nat.zero_add, Nat.reduceAdd, Nat.reduceSub, ge_iff_le, true_and, and_true, zip_unzip, Bool.false_xor, Bool.true_xor, Bool.false_eq_true, Bool.true_eq_false, reduceIte, wipeR, dataR_cons, dataR_nil, dataO_d, dataO_none, dataO_ol, dataO_od, oDict, oIsi, tyD, isiB, wSl, wPart, wNoP, oSl, wDisp1, wDGet2, oRemove, atI_0, atI_1, atI_2, wiRev, revItems, oDictP, wForK, wiKeys, kD, oSortX, oPow, oBitAnd, oShl, oNeg, wUn, oInt, oStr, oDivmod, oIs, isD, wChain, wFz, wFzE, frzR, wLSet, wiZip, seqsD, wiVals, wiItems, wOIx, wNo, Option.isSome_some, oMulX, wM1, oSplit, oPart, oStrip1, oRep, oSum, intsD, wRaise, wLI, wLK
, wiR3, wLR, wDisp, wPairs, oReverse, oClear, oInsert, wRevL, wDZ, seqLT, oSortIT, wOFld, wSFld, asOI, setOI, putG, wPar, wiItemsC, wiValsC, wIndexL, wDZO, wLO, wiZip3]
    obtain ⟨M, hM⟩ : ∃ M : Nat, n = (M : Int) := ⟨n.toNat, by omega⟩
    subst hM
    rw [rangeD_map, Int.toNat_natCast]
    refine ⟨by decide, ⟨by omega, by omega⟩, ?_⟩
    refine forD_map (I := fun done _ ρ => ∃ (ns : List Int) (z : Int) (o : Option S), ns.length ≤ done.length ∧ ρ = [some (.d (.int c)), some (.d (.int a)), some (.d (.int (M : Int))), some (.ol (ns.map .int)), some (.d (.int z)), o]) mono_name (List.range M) (fun done j ys ρ he hI => ?_) (fun ρ hI => ?_) _ ⟨[], c, none, by simp, rfl⟩
    · obtain ⟨ns, z, o, hl, rfl⟩ := hI
      have hj : j < M := List.mem_range.mp (by rw [he]; simp)
      have hdl : done.length < M := by
        have := congrArg List.length he
        rw [List.length_append, List.length_cons, List.length_range] at this
        omega
      simp only [wSeq, wSet, wAsg, wC, wIfS, wB, wOp, oI, oI0, asI, asS, asL, asLT, asT, asB, asA_some, asA_none, asO, asOL, asOD, asKey, asDic, asSq, oLen, oMod, oAdd, oSub, oMul, oDiv, oMax, oMin, oPlus, oEqX, oNeX, eqX_int, eqX_str, eqX_bl, oCmp, oLtX, oLeX, oGtX, oGeX, oIxX, oInX, wCB, wCons, wNil, wVar, wMove, nth, put, startR, wNext, wRet, wRetN, wDrop, wFor, wiR1, wiR2, wiX, itemsOf, wgName, wgTup, wgCons, wgNil, wLend, wLendT, seeR_cons, seeR_nil, seeO_d, seeO_none, seeO_ol, seeO_od, wJoin, wM, oAppend, oPop, oPopAt, wDPut, wDPop, wSortK, wDict0, wTup, wLst, wCall, wAnd, wOr, wNot, wAndV, wOrV, wNotV, wIf, wYes, wLc, wiEnumX, oListX, oTuple, oSort, oSortSet, oAll, oAny, S.fz, S.own, D.flat, txts_map, bools_map, txtKeys_map, List.length_map, List.map_cons, List.map_nil, List.length_cons, List.length_nil, List.cons_append, List.nil_append, List.replicate, decide_eq_true_eq, Bool.not_eq_true', Bool.not_true, Bool.not_false, if_true, if_false, Nat.zero_add, Nat.reduceAdd, Nat.reduceSub, ge_iff_le, true_and, and_true, zip_unzip, Bool.false_xor, Bool.true_xor, Bool.false_eq_true, Bool.true_eq_false, reduceIte, wipeR, dataR_cons, dataR_nil, dataO_d, dataO_none, dataO_ol, dataO_od, oDict, oIsi, tyD, isiB, wSl, wPart, wNoP, oSl, wDisp1, wDGet2, oRemove, atI_0, atI_1, atI_2, wiRev, revItems, oDictP, wForK, wiKeys, kD, oSortX, oPow, oBitAnd, oShl, oNeg, wUn, oInt, oStr, oDivmod, oIs, isD, wChain, wFz, wFzE, frzR, wLSet, wiZip, seqsD, wiVals, wiItems, wOIx, wNo, Option.isSome_some, oMulX, wM1, oSplit, oPart, oStrip1, oRep, oSum, intsD, wRaise, wLI, wLK
, wiR3, wLR, wDisp, wPairs, oReverse, oClear, oInsert, wRevL, wDZ, seqLT, oSortIT, wOFld, wSFld, asOI, setOI, putG, wPar, wiItemsC, wiValsC, wIndexL, wDZO, wLO, wiZip3, sp_L_stir_d34]
      have fin : ∀ (v : Int) (z' : Int), ∃ (ns' : List Int) (z'' : Int) (o' : Option S), ns'.length ≤ (done ++ [j]).length ∧ [some (S.d (D.int c)), some (S.d (D.int a)), some (S.d (D.int (M : Int))), some (S.ol (List.map D.int ns ++ [D.int v])), some (S.d (D.int z')), some (S.d (D.int (j : Int)))] = [some (S.d (D.int c)), some (S.d (D.int a)), some (S.d (D.int (M : Int))), some (S.ol (List.map D.int ns')), some (S.d (D.int z'')), o'] := fun v z' => ⟨ns ++ [v], z', _, by rw [List.length_append, List.length_append, List.length_singleton, List.length_singleton]; omega, by rw [List.map_append]; rfl⟩
      have st : CMul 32 a ∧ (0 ≤ 32 * a + (j : Int) ∧ 32 * a + (j : Int) ≤ 1000000) := ⟨.inl ⟨by decide, by decide⟩, by omega, by omega⟩
      have ln : ns.length < sizeLine := by rw [len0]; omega
      refine ⟨⟨by decide, by decide, by decide⟩, ?_⟩
      split
      · split
        · exact ⟨by decide, ln, ⟨by decide, by decide⟩, fin _ _⟩
        · exact ⟨st.1, st.2, fun y y0 _ => ⟨⟨by decide, by decide⟩, by decide, ln, fin _ _⟩⟩
      · exact ⟨st.1, st.2, fun y y0 _ => ⟨⟨by decide, by decide⟩, by decide, ln, fin _ _⟩⟩
    · obtain ⟨ns, z, o, hl, rfl⟩ := hI
      rw [List.length_range] at hl
      simp only [w_L_numbers_81e_t3, wSeq, wSet, wAsg, wC, wIfS, wB, wOp, oI, oI0, asI, asS, asL, asLT, asT, asB, asA_some, asA_none, asO, asOL, asOD, asKey, asDic, asSq, oLen, oMod, oAdd, oSub, oMul, oDiv, oMax, oMin, oPlus, oEqX, oNeX, eqX_int, eqX_str, eqX_bl, oCmp, oLtX, oLeX, oGtX, oGeX, oIxX, oInX, wCB, wCons, wNil, wVar, wMove, nth, put, startR, wNext, wRet, wRetN, wDrop, wFor, wiR1, wiR2, wiX, itemsOf, wgName, wgTup, wgCons, wgNil, wLend, wLendT, seeR_cons, seeR_nil, seeO_d, seeO_none, seeO_ol, seeO_od, wJoin, wM, oAppend, oPop, oPopAt, wDPut, wDPop, wSortK, wDict0, wTup, wLst, wCall, wAnd, wOr, wNot, wAndV, wOrV, wNotV, wIf, wYes, wLc, wiEnumX, oListX, oTuple, oSort, oSortSet, oAll, oAny, S.fz, S.own, D.flat, txts_map, bools_map, txtKeys_map, List.length_map, List.map_cons, List.map_nil, List.length_cons, List.length_nil, List.cons_append, List.nil_append, List.replicate, decide_eq_true_eq, Bool.not_eq_true', Bool.not_true, Bool.not_false, if_true, if_false, Nat.zero_add, Nat.reduceAdd, Nat.reduceSub, ge_iff_le, true_and, and_true, zip_unzip, Bool.false_xor, Bool.true_xor, Bool.false_eq_true, Bool.true_eq_false, reduceIte, wipeR, dataR_cons, dataR_nil, dataO_d, dataO_none, dataO_ol, dataO_od, oDict, oIsi, tyD, isiB, wSl, wPart, wNoP, oSl, wDisp1, wDGet2, oRemove, atI_0, atI_1, atI_2, wiRev, revItems, oDictP, wForK, wiKeys, kD, oSortX, oPow, oBitAnd, oShl, oNeg, wUn, oInt, oStr, oDivmod, oIs, isD, wChain, wFz, wFzE, frzR, wLSet, wiZip, seqsD, wiVals, wiItems, wOIx, wNo, Option.isSome_some, oMulX, wM1, oSplit, oPart, oStrip1, oRep, oSum, intsD, wRaise, wLI, wLK
, wiR3, wLR, wDisp, wPairs, oReverse, oClear, oInsert, wRevL, wDZ, seqLT, oSortIT, wOFld, wSFld, asOI, setOI, putG, wPar, wiItemsC, wiValsC, wIndexL, wDZO, wLO, wiZip3]
      exact hq ns (by omega)
  · exact h.elim
theorem ints_of : ∀ {xs : List D} {ns : List Int}, intsD xs = some ns → xs = ns.map .int
  | [], ns, h => by cases h; rfl
  | x :: xs, ns, h => by
    cases x <;> first | (cases h) | skip
    rename_i i
    cases e : intsD xs with
    | none => rw [intsD, e] at h; cases h
    | some ms => rw [intsD, e] at h; cases h; rw [ints_of e]; rfl
def sp_L_form_ebc : DSp := fun ds P _ => match ds with
  | [.lst xs, .str s] => asA (intsD xs) fun ns => (Prd s ∧ ns.length ≤ 64) ∧ ∀ f : List Str, Frm f → Over s f → P (.d (fD f))
  | _ => False
abbrev N_L_form_ebc : List Str := ["_law_numbers_here", "_law_letters", "_law_held", "_law_number", "_law_rest", "_law_product", "_law_letter"]
def w_L_form_ebc_b1_t1 : WS := (wAsg (wOp oDiv (wVar 4) (wC (.int 2))) (wgName 4))
def w_L_form_ebc_b1 : WS := wSeq (wIfS (wB (wOp oEqX (wOp oMod (wVar 4) (wC (.int 2))) (wC (.int 1)))) (wAsg (wOp oPlus (wVar 5) (wVar 6)) (wgName 5)) wNext)
    w_L_form_ebc_b1_t1
def w_L_form_ebc_b2_t3 : WS := (wIfS (wLendT (wB (wOp (oInX false) (wVar 5) (wVar 2)))) (wDrop (wM 2 oRemove (wCons (wVar 5) wNil))) (wDrop (wM 2 oAppend (wCons (wVar 5) wNil))))
def w_L_form_ebc_b2_t2 : WS := wSeq (wFor (wiX (wVar 1)) (wgName 6)
      w_L_form_ebc_b1)
    w_L_form_ebc_b2_t3
def w_L_form_ebc_b2_t1 : WS := wSeq (wAsg (wC (.str "")) (wgName 5))
    w_L_form_ebc_b2_t2
def w_L_form_ebc_b2 : WS := wSeq (wAsg (wVar 3) (wgName 4))
    w_L_form_ebc_b2_t1
def w_L_form_ebc_t2 : WS := (wRet (wCB oTuple (wCons (wCB oSortX (wCons (wVar 2) wNil)) wNil)))
def w_L_form_ebc_t1 : WS := wSeq (wFor (wiX (wVar 0)) (wgName 3)
      w_L_form_ebc_b2)
    w_L_form_ebc_t2
def w_L_form_ebc : WS := wSeq (wSet 2 (wLst wNil))
    w_L_form_ebc_t1
theorem len_L_form_ebc {ds Q px} (h : sp_L_form_ebc ds Q px) : ds.length = 2 := by unfold sp_L_form_ebc at h; split at h <;> first | rfl | exact h.elim
theorem rd_L_form_ebc {ds Q px} (h : sp_L_form_ebc ds Q px) : w_L_form_ebc ⟨fun _ => Q (.d .non), Q, fun _ => False, fun _ => False⟩ (startR N_L_form_ebc ds) := by
  unfold sp_L_form_ebc at h
  split at h
  · rename_i xs s
    obtain ⟨ns, ens, ⟨hs, hns⟩, hq⟩ := asA_of h
    clear h
    have exs := ints_of ens
    subst exs
    unfold w_L_form_ebc
    simp only [N_L_form_ebc, w_L_form_ebc_t1, wSeq, wSet, wAsg, wC, wIfS, wB, wOp, oI, oI0, asI, asS, asL, asLT, asT, asB, asA_some, asA_none, asO, asOL, asOD, asKey, asDic, asSq, oLen, oMod, oAdd, oSub, oMul, oDiv, oMax, oMin, oPlus, oEqX, oNeX, eqX_int, eqX_str, eqX_bl, oCmp, oLtX, oLeX, oGtX, oGeX, oIxX, oInX, wCB, wCons, wNil, wVar, wMove, nth, put, startR, wNext, wRet, wRetN, wDrop, wFor, wiR1, wiR2, wiX, itemsOf, wgName, wgTup, wgCons, wgNil, wLend, wLendT, seeR_cons, seeR_nil, seeO_d, seeO_none, seeO_ol, seeO_od, wJoin, wM, oAppend, oPop, oPopAt, wDPut, wDPop, wSortK, wDict0, wTup, wLst, wCall, wAnd, wOr, wNot, wAndV, wOrV, wNotV, wIf, wYes, wLc, wiEnumX, oListX, oTuple, oSort, oSortSet, oAll, oAny, S.fz, S.own, D.flat, txts_map, bools_map, txtKeys_map, List.length_map, List.map_cons, List.map_nil, List.length_cons, List.length_nil, List.cons_append, List.nil_append, List.replicate, decide_eq_true_eq, Bool.not_eq_true', Bool.not_true, Bool.not_false, if_true, if_false, Nat.zero_add, Nat.reduceAdd, Nat.reduceSub, ge_iff_le, true_and, and_true, zip_unzip, Bool.false_xor, Bool.true_xor, Bool.false_eq_true, Bool.true_eq_false, reduceIte, wipeR, dataR_cons, dataR_nil, dataO_d, dataO_none, dataO_ol, dataO_od, oDict, oIsi, tyD, isiB, wSl, wPart, wNoP, oSl, wDisp1, wDGet2, oRemove, atI_0, atI_1, atI_2, wiRev, revItems, oDictP, wForK, wiKeys, kD, oSortX, oPow, oBitAnd, oShl, oNeg, wUn, oInt, oStr, oDivmod, oIs, isD, wChain, wFz, wFzE, frzR, wLSet, wiZip, seqsD, wiVals, wiItems, wOIx, wNo, Option.isSome_some, oMulX, wM1, oSplit, oPart, oStrip1, oRep, oSum, intsD, wRaise, wLI, wLK
, wiR3, wLR, wDisp, wPairs, oReverse, oClear, oInsert, wRevL, wDZ, seqLT, oSortIT, wOFld, wSFld, asOI, setOI, putG, wPar, wiItemsC, wiValsC, wIndexL, wDZO, wLO, wiZip3]
    refine ⟨by decide, ?_⟩
    refine forD_map (I := fun done _ ρ => ∃ (l : List Str) (o3 o4 o5 o6 : Option S), l.Nodup ∧ l.length ≤ done.length ∧ (∀ p ∈ l, Prd p ∧ ∀ c ∈ sg p, c ∈ sg s) ∧ ρ = [some (.d (.lst (ns.map .int))), some (.d (.str s)), some (.ol (l.map .str)), o3, o4, o5, o6]) mono_name ns (fun done n ys ρ he hI => ?_) (fun ρ hI => ?_) _ ⟨[], none, none, none, none, by simp, Nat.le_refl _, by simp, rfl⟩
    · obtain ⟨l, o3, o4, o5, o6, g1, g2, g3, rfl⟩ := hI
      have hdl : done.length < 64 := by
        have := congrArg List.length he
        rw [List.length_append, List.length_cons] at this
        omega
      simp only [w_L_form_ebc_b2, w_L_form_ebc_b2_t1, w_L_form_ebc_b2_t2, wSeq, wSet, wAsg, wC, wIfS, wB, wOp, oI, oI0, asI, asS, asL, asLT, asT, asB, asA_some, asA_none, asO, asOL, asOD, asKey, asDic, asSq, oLen, oMod, oAdd, oSub, oMul, oDiv, oMax, oMin, oPlus, oEqX, oNeX, eqX_int, eqX_str, eqX_bl, oCmp, oLtX, oLeX, oGtX, oGeX, oIxX, oInX, wCB, wCons, wNil, wVar, wMove, nth, put, startR, wNext, wRet, wRetN, wDrop, wFor, wiR1, wiR2, wiX, itemsOf, wgName, wgTup, wgCons, wgNil, wLend, wLendT, seeR_cons, seeR_nil, seeO_d, seeO_none, seeO_ol, seeO_od, wJoin, wM, oAppend, oPop, oPopAt, wDPut, wDPop, wSortK, wDict0, wTup, wLst, wCall, wAnd, wOr, wNot, wAndV, wOrV, wNotV, wIf, wYes, wLc, wiEnumX, oListX, oTuple, oSort, oSortSet, oAll, oAny, S.fz, S.own, D.flat, txts_map, bools_map, txtKeys_map, List.length_map, List.map_cons, List.map_nil, List.length_cons, List.length_nil, List.cons_append, List.nil_append, List.replicate, decide_eq_true_eq, Bool.not_eq_true', Bool.not_true, Bool.not_false, if_true, if_false, Nat.zero_add, Nat.reduceAdd, Nat.reduceSub, ge_iff_le, true_and, and_true, zip_unzip, Bool.false_xor, Bool.true_xor, Bool.false_eq_true, Bool.true_eq_false, reduceIte, wipeR, dataR_cons, dataR_nil, dataO_d, dataO_none, dataO_ol, dataO_od, oDict, oIsi, tyD, isiB, wSl, wPart, wNoP, oSl, wDisp1, wDGet2, oRemove, atI_0, atI_1, atI_2, wiRev, revItems, oDictP, wForK, wiKeys, kD, oSortX, oPow, oBitAnd, oShl, oNeg, wUn, oInt, oStr, oDivmod, oIs, isD, wChain, wFz, wFzE, frzR, wLSet, wiZip, seqsD, wiVals, wiItems, wOIx, wNo, Option.isSome_some, oMulX, wM1, oSplit, oPart, oStrip1, oRep, oSum, intsD, wRaise, wLI, wLK
, wiR3, wLR, wDisp, wPairs, oReverse, oClear, oInsert, wRevL, wDZ, seqLT, oSortIT, wOFld, wSFld, asOI, setOI, putG, wPar, wiItemsC, wiValsC, wIndexL, wDZO, wLO, wiZip3]
      have e3 : (signs s).map D.str = (sg s).map fun c => D.str (one c) := by rw [signs_eq, List.map_map]; rfl
      rw [e3]
      have hsl := hs.len
      refine forD_map (I := fun dc _ ρ => ∃ (z : Int) (p : Str) (o6 : Option S), (sg p).Pairwise (· < ·) ∧ (∀ c ∈ sg p, c ∈ dc) ∧ ρ = [some (.d (.lst (ns.map .int))), some (.d (.str s)), some (.ol (l.map .str)), some (.d (.int n)), some (.d (.int z)), some (.d (.str p)), o6]) mono_name (sg s) (fun dc x yc ρ hec hI => ?_) (fun ρ hI => ?_) _ ⟨n, "", o6, by rw [sg_nil]; exact .nil, by rw [sg_nil]; simp, rfl⟩
      · obtain ⟨z, p, o6, hu, hl, rfl⟩ := hI
        have hs1 := hs.up
        have hs2 := hs.len
        rw [hec] at hs1 hs2
        rw [List.length_append, List.length_cons] at hs2
        have hlt : ∀ c ∈ dc, c < x := fun c hc => (List.pairwise_append.mp hs1).2.2 c hc x List.mem_cons_self
        have l9 : (sg p).length ≤ dc.length := (up_nodup hu).length_le_of_subset (l₂ := dc) hl
        have h1 : CDiv z 2 := ⟨by decide, by decide⟩
        simp only [w_L_form_ebc_b1, w_L_form_ebc_b1_t1, wSeq, wSet, wAsg, wC, wIfS, wB, wOp, oI, oI0, asI, asS, asL, asLT, asT, asB, asA_some, asA_none, asO, asOL, asOD, asKey, asDic, asSq, oLen, oMod, oAdd, oSub, oMul, oDiv, oMax, oMin, oPlus, oEqX, oNeX, eqX_int, eqX_str, eqX_bl, oCmp, oLtX, oLeX, oGtX, oGeX, oIxX, oInX, wCB, wCons, wNil, wVar, wMove, nth, put, startR, wNext, wRet, wRetN, wDrop, wFor, wiR1, wiR2, wiX, itemsOf, wgName, wgTup, wgCons, wgNil, wLend, wLendT, seeR_cons, seeR_nil, seeO_d, seeO_none, seeO_ol, seeO_od, wJoin, wM, oAppend, oPop, oPopAt, wDPut, wDPop, wSortK, wDict0, wTup, wLst, wCall, wAnd, wOr, wNot, wAndV, wOrV, wNotV, wIf, wYes, wLc, wiEnumX, oListX, oTuple, oSort, oSortSet, oAll, oAny, S.fz, S.own, D.flat, txts_map, bools_map, txtKeys_map, List.length_map, List.map_cons, List.map_nil, List.length_cons, List.length_nil, List.cons_append, List.nil_append, List.replicate, decide_eq_true_eq, Bool.not_eq_true', Bool.not_true, Bool.not_false, if_true, if_false, Nat.zero_add, Nat.reduceAdd, Nat.reduceSub, ge_iff_le, true_and, and_true, zip_unzip, Bool.false_xor, Bool.true_xor, Bool.false_eq_true, Bool.true_eq_false, reduceIte, wipeR, dataR_cons, dataR_nil, dataO_d, dataO_none, dataO_ol, dataO_od, oDict, oIsi, tyD, isiB, wSl, wPart, wNoP, oSl, wDisp1, wDGet2, oRemove, atI_0, atI_1, atI_2, wiRev, revItems, oDictP, wForK, wiKeys, kD, oSortX, oPow, oBitAnd, oShl, oNeg, wUn, oInt, oStr, oDivmod, oIs, isD, wChain, wFz, wFzE, frzR, wLSet, wiZip, seqsD, wiVals, wiItems, wOIx, wNo, Option.isSome_some, oMulX, wM1, oSplit, oPart, oStrip1, oRep, oSum, intsD, wRaise, wLI, wLK
, wiR3, wLR, wDisp, wPairs, oReverse, oClear, oInsert, wRevL, wDZ, seqLT, oSortIT, wOFld, wSFld, asOI, setOI, putG, wPar, wiItemsC, wiValsC, wIndexL, wDZO, wLO, wiZip3]
        refine ⟨by decide, ?_⟩
        split
        · refine ⟨?_, h1, _, _, _, ?_, ?_, rfl⟩
          · rw [sg_len, sg_len, sg_one, len0]; simp only [List.length_singleton]; omega
          · rw [sg_append, sg_one, List.pairwise_append]
            exact ⟨hu, by simp, fun a ha b hb => by simp at hb; subst hb; exact hlt a (hl a ha)⟩
          · intro c hc
            rw [sg_append, sg_one] at hc
            rcases List.mem_append.mp hc with z | z
            · exact List.mem_append.mpr (.inl (hl c z))
            · exact List.mem_append.mpr (.inr z)
        · exact ⟨h1, _, _, _, hu, fun c hc => List.mem_append.mpr (.inl (hl c hc)), rfl⟩
      · obtain ⟨z, p, o6, hu, hl, rfl⟩ := hI
        have hp : Prd p := ⟨hu, fun c hc => hs.le c (hl c hc)⟩
        simp only [w_L_form_ebc_b2_t3, wSeq, wSet, wAsg, wC, wIfS, wB, wOp, oI, oI0, asI, asS, asL, asLT, asT, asB, asA_some, asA_none, asO, asOL, asOD, asKey, asDic, asSq, oLen, oMod, oAdd, oSub, oMul, oDiv, oMax, oMin, oPlus, oEqX, oNeX, eqX_int, eqX_str, eqX_bl, oCmp, oLtX, oLeX, oGtX, oGeX, oIxX, oInX, wCB, wCons, wNil, wVar, wMove, nth, put, startR, wNext, wRet, wRetN, wDrop, wFor, wiR1, wiR2, wiX, itemsOf, wgName, wgTup, wgCons, wgNil, wLend, wLendT, seeR_cons, seeR_nil, seeO_d, seeO_none, seeO_ol, seeO_od, wJoin, wM, oAppend, oPop, oPopAt, wDPut, wDPop, wSortK, wDict0, wTup, wLst, wCall, wAnd, wOr, wNot, wAndV, wOrV, wNotV, wIf, wYes, wLc, wiEnumX, oListX, oTuple, oSort, oSortSet, oAll, oAny, S.fz, S.own, D.flat, txts_map, bools_map, txtKeys_map, List.length_map, List.map_cons, List.map_nil, List.length_cons, List.length_nil, List.cons_append, List.nil_append, List.replicate, decide_eq_true_eq, Bool.not_eq_true', Bool.not_true, Bool.not_false, if_true, if_false, Nat.zero_add, Nat.reduceAdd, Nat.reduceSub, ge_iff_le, true_and, and_true, zip_unzip, Bool.false_xor, Bool.true_xor, Bool.false_eq_true, Bool.true_eq_false, reduceIte, wipeR, dataR_cons, dataR_nil, dataO_d, dataO_none, dataO_ol, dataO_od, oDict, oIsi, tyD, isiB, wSl, wPart, wNoP, oSl, wDisp1, wDGet2, oRemove, atI_0, atI_1, atI_2, wiRev, revItems, oDictP, wForK, wiKeys, kD, oSortX, oPow, oBitAnd, oShl, oNeg, wUn, oInt, oStr, oDivmod, oIs, isD, wChain, wFz, wFzE, frzR, wLSet, wiZip, seqsD, wiVals, wiItems, wOIx, wNo, Option.isSome_some, oMulX, wM1, oSplit, oPart, oStrip1, oRep, oSum, intsD, wRaise, wLI, wLK
, wiR3, wLR, wDisp, wPairs, oReverse, oClear, oInsert, wRevL, wDZ, seqLT, oSortIT, wOFld, wSFld, asOI, setOI, putG, wPar, wiItemsC, wiValsC, wIndexL, wDZO, wLO, wiZip3]
        have ha : (l.map D.str).all flatD = true := by rw [List.all_map]; exact List.all_eq_true.mpr fun _ _ => rfl
        refine ⟨rfl, ha, ?_⟩
        rw [inD_strs]
        by_cases hpl : p ∈ l
        · rw [decide_eq_true hpl, if_pos rfl]
          refine ⟨hpl, l.erase p, _, _, _, _, g1.erase p, ?_, fun q hq => g3 q (List.mem_of_mem_erase hq), rfl⟩
          rw [List.length_append, List.length_singleton]
          have := List.length_erase_le (a := p) (l := l)
          omega
        · rw [decide_eq_false hpl, if_neg Bool.false_ne_true]
          refine ⟨by rw [len0]; omega, l ++ [p], _, _, _, _, List.nodup_append.mpr ⟨g1, by simp, fun a ha b hb e => by simp at hb; subst hb; subst e; exact hpl ha⟩, by rw [List.length_append, List.length_append, List.length_singleton, List.length_singleton]; omega, (fun q hq => ?_), by rw [List.map_append]; rfl⟩
          rcases List.mem_append.mp hq with y | y
          · exact g3 q y
          · simp at y; subst y; exact ⟨hp, hl⟩
    · obtain ⟨l, o3, o4, o5, o6, g1, g2, g3, rfl⟩ := hI
      simp only [w_L_form_ebc_t2, wSeq, wSet, wAsg, wC, wIfS, wB, wOp, oI, oI0, asI, asS, asL, asLT, asT, asB, asA_some, asA_none, asO, asOL, asOD, asKey, asDic, asSq, oLen, oMod, oAdd, oSub, oMul, oDiv, oMax, oMin, oPlus, oEqX, oNeX, eqX_int, eqX_str, eqX_bl, oCmp, oLtX, oLeX, oGtX, oGeX, oIxX, oInX, wCB, wCons, wNil, wVar, wMove, nth, put, startR, wNext, wRet, wRetN, wDrop, wFor, wiR1, wiR2, wiX, itemsOf, wgName, wgTup, wgCons, wgNil, wLend, wLendT, seeR_cons, seeR_nil, seeO_d, seeO_none, seeO_ol, seeO_od, wJoin, wM, oAppend, oPop, oPopAt, wDPut, wDPop, wSortK, wDict0, wTup, wLst, wCall, wAnd, wOr, wNot, wAndV, wOrV, wNotV, wIf, wYes, wLc, wiEnumX, oListX, oTuple, oSort, oSortSet, oAll, oAny, S.fz, S.own, D.flat, txts_map, bools_map, txtKeys_map, List.length_map, List.map_cons, List.map_nil, List.length_cons, List.length_nil, List.cons_append, List.nil_append, List.replicate, decide_eq_true_eq, Bool.not_eq_true', Bool.not_true, Bool.not_false, if_true, if_false, Nat.zero_add, Nat.reduceAdd, Nat.reduceSub, ge_iff_le, true_and, and_true, zip_unzip, Bool.false_xor, Bool.true_xor, Bool.false_eq_true, Bool.true_eq_false, reduceIte, wipeR, dataR_cons, dataR_nil, dataO_d, dataO_none, dataO_ol, dataO_od, oDict, oIsi, tyD, isiB, wSl, wPart, wNoP, oSl, wDisp1, wDGet2, oRemove, atI_0, atI_1, atI_2, wiRev, revItems, oDictP, wForK, wiKeys, kD, oSortX, oPow, oBitAnd, oShl, oNeg, wUn, oInt, oStr, oDivmod, oIs, isD, wChain, wFz, wFzE, frzR, wLSet, wiZip, seqsD, wiVals, wiItems, wOIx, wNo, Option.isSome_some, oMulX, wM1, oSplit, oPart, oStrip1, oRep, oSum, intsD, wRaise, wLI, wLK
, wiR3, wLR, wDisp, wPairs, oReverse, oClear, oInsert, wRevL, wDZ, seqLT, oSortIT, wOFld, wSFld, asOI, setOI, putG, wPar, wiItemsC, wiValsC, wIndexL, wDZO, wLO, wiZip3, S.fz, oSortX, txts_map, asA_some, oTuple]
      refine ⟨by rw [len0]; omega, hq _ ⟨srt_pw _, (srt_perm _).nodup_iff.mpr g1, fun p hp => (g3 p ((srt_perm _).mem_iff.mp hp)).1⟩ fun p hp => (g3 p ((srt_perm _).mem_iff.mp hp)).2⟩
  · exact h.elim
def plR : List Nat → List (Key × D)
  | [] => []
  | c :: cs => plR cs ++ [(.inr (one c), .int ((2 ^ cs.length : Nat) : Int))]
theorem plR_keys : ∀ cs : List Nat, (plR cs).map (·.1) = (cs.reverse.map fun c => (.inr (one c) : Key))
  | [] => rfl
  | c :: cs => by rw [plR, List.map_append, plR_keys cs, List.reverse_cons, List.map_append]; rfl
theorem plR_len : ∀ cs : List Nat, (plR cs).length = cs.length
  | [] => rfl
  | c :: cs => by rw [plR, List.length_append, plR_len cs]; rfl
theorem plR_out {cs : List Nat} {c : Nat} (h : c ∉ cs) : ∀ kv ∈ plR cs, kv.1 ≠ .inr (one c) := fun kv hkv e => by
  have : kv.1 ∈ (plR cs).map (·.1) := List.mem_map.mpr ⟨kv, hkv, rfl⟩
  rw [plR_keys, e] at this
  obtain ⟨d, hd, z⟩ := List.mem_map.mp this
  rw [one_inj (Sum.inr.inj z)] at hd
  exact h (List.mem_reverse.mp hd)
theorem vput_plR {cs : List Nat} {c : Nat} (h : c ∉ cs) : vput (plR cs) (.inr (one c)) (.int ((2 ^ cs.length : Nat) : Int)) = plR (c :: cs) := by
  have : ((plR cs).any fun kv => decide (kv.1 = (.inr (one c) : Key))) = false := by
    rw [List.any_eq_false]
    intro kv hkv
    simp only [decide_eq_true_eq]
    exact plR_out h kv hkv
  unfold vput
  rw [this]
  simp [plR]
theorem vget_plR : ∀ {cs : List Nat} {c : Nat}, cs.Nodup → c ∈ cs → vget (plR cs) (.inr (one c)) = some (.int ((plc cs c : Nat) : Int))
  | d :: cs, c, hn, hc => by
    have hd := List.nodup_cons.mp hn
    unfold vget plR
    rw [List.find?_append]
    by_cases z : c = d
    · subst z
      have : (plR cs).find? (fun kv => decide (kv.1 = (.inr (one c) : Key))) = none := List.find?_eq_none.mpr fun kv hkv => by
        simp only [decide_eq_true_eq]
        exact plR_out hd.1 kv hkv
      rw [this, plc, if_pos rfl]
      simp
    · have hcs := (List.mem_cons.mp hc).resolve_left z
      have ih := vget_plR hd.2 hcs
      unfold vget at ih
      rw [plc, if_neg z]
      cases e : (plR cs).find? (fun kv => decide (kv.1 = (.inr (one c) : Key))) with
      | none => rw [e] at ih; cases ih
      | some kv => rw [e] at ih; exact ih
theorem intsD_ints : ∀ ns : List Int, intsD (ns.map .int) = some ns
  | [] => rfl
  | n :: ns => by rw [List.map_cons, intsD, intsD_ints ns]; rfl
theorem ints_cast : ∀ l : List Nat, (l.map fun n => ((n : Nat) : Int)).sum = ((l.sum : Nat) : Int)
  | [] => rfl
  | a :: l => by rw [List.map_cons, List.sum_cons, ints_cast l, List.sum_cons]; omega
theorem atI_nat {α : Type} {xs : List α} {k : Nat} (h : k < xs.length) : atI xs (k : Int) = some xs[k] := by
  obtain ⟨v, e, _⟩ := atI_in (xs := xs) (i := (k : Int)) (by omega) (by omega)
  rw [e]
  unfold atI at e
  rw [show ixN xs.length (k : Int) = some k from by rw [ixN, if_pos (by omega), if_pos (by omega), Int.toNat_natCast]] at e
  rw [← e]; exact List.getElem?_eq_getElem h
theorem range_mid {m x : Nat} {xs ys : List Nat} (h : List.range m = xs ++ x :: ys) : x = xs.length := by
  have hl := congrArg List.length h
  rw [List.length_range, List.length_append, List.length_cons] at hl
  have e := congrArg (fun l => l[xs.length]?) h
  simp only [List.getElem?_append_right (Nat.le_refl _), Nat.sub_self, List.getElem?_cons_zero] at e
  rw [List.getElem?_range (by omega)] at e
  exact (Option.some.inj e).symm
def tbB (s : Nat) (L : List Bool) (b : Nat) : List D := (List.range L.length).map fun k => D.bl (if k < b then passB s L k else L.getD k false)
theorem tbB_len (s : Nat) (L : List Bool) (b : Nat) : (tbB s L b).length = L.length := by simp [tbB]
theorem tbB_ext {s : Nat} {L : List Bool} {b b' : Nat} (hb : b ≤ b') (h : ∀ k, b ≤ k → k < b' → k / s % 2 = 0) : tbB s L b = tbB s L b' := by
  unfold tbB
  refine List.map_congr_left fun k _ => ?_
  by_cases h1 : k < b
  · rw [if_pos h1, if_pos (by omega)]
  · rw [if_neg h1]
    by_cases h2 : k < b'
    · rw [if_pos h2, passB, if_neg (by rw [h k (by omega) h2]; decide)]
    · rw [if_neg h2]
theorem tbB_0 (s : Nat) (L : List Bool) : tbB s L 0 = L.map .bl := by
  unfold tbB
  apply List.ext_getElem
  · simp
  · intro k h1 h2
    simp only [List.getElem_map, List.getElem_range, Nat.not_lt_zero, if_false]
    rw [getD_in (by simpa using h1)]
theorem tbB_end {s : Nat} {L : List Bool} {b : Nat} (h : L.length ≤ b) : tbB s L b = (passL s L).map .bl := by
  unfold tbB passL
  rw [List.map_map]
  refine List.map_congr_left fun k hk => ?_
  rw [if_pos (Nat.lt_of_lt_of_le (List.mem_range.mp hk) h)]; rfl
theorem tbB_set {s : Nat} {L : List Bool} {k : Nat} (hs : 0 < s) (hk : k < L.length) (ho : k / s % 2 = 1) : (tbB s L k).set k (.bl (xor (L.getD k false) (L.getD (k - s) false))) = tbB s L (k + 1) := by
  apply List.ext_getElem
  · simp [tbB]
  · intro j h1 h2
    rw [List.getElem_set]
    simp only [tbB, List.getElem_map, List.getElem_range]
    by_cases z : k = j
    · subst z
      rw [if_pos rfl, if_pos (Nat.lt_succ_self _), passB, if_pos ho]
    · rw [if_neg z]
      by_cases y : j < k
      · rw [if_pos y, if_pos (by omega)]
      · rw [if_neg y, if_neg (by omega)]
theorem tbB_at {s : Nat} {L : List Bool} {b k : Nat} (hk : k < L.length) (h : b ≤ k ∨ k / s % 2 = 0) : atI (tbB s L b) (k : Int) = some (.bl (L.getD k false)) := by
  rw [atI_nat (by rw [tbB_len]; exact hk)]
  simp only [tbB, List.getElem_map, List.getElem_range]
  rcases h with h | h
  · rw [if_neg (by omega)]
  · by_cases y : k < b
    · rw [if_pos y, passB, if_neg (by rw [h]; decide)]
    · rw [if_neg y]
def indT (ls : List Nat) (F : List Str) : List D := (List.range (2 ^ ls.length)).map fun k => D.bl (decide (∃ p ∈ F, msk ls (sg p) = k))
theorem indT_set {ls : List Nat} {F : List Str} {p : Str} : (indT ls F).set (msk ls (sg p)) (.bl true) = indT ls (F ++ [p]) := by
  apply List.ext_getElem
  · simp [indT]
  · intro j h1 h2
    rw [List.getElem_set]
    simp only [indT, List.getElem_map, List.getElem_range]
    by_cases z : msk ls (sg p) = j
    · rw [if_pos z, decide_eq_true (⟨p, by simp, z⟩ : ∃ q ∈ F ++ [p], msk ls (sg q) = j)]
    · rw [if_neg z]
      congr 1
      refine decide_eq_decide.mpr ⟨fun ⟨q, hq, e⟩ => ⟨q, List.mem_append.mpr (.inl hq), e⟩, fun ⟨q, hq, e⟩ => ?_⟩
      rcases List.mem_append.mp hq with y | y
      · exact ⟨q, y, e⟩
      · rw [List.mem_singleton.mp y] at e; exact absurd e z
def sp_L_table_bc0 : DSp := fun ds P _ => match ds with
  | [x, .str s] => asF x fun f => (Frm f ∧ (∀ p ∈ f, ∀ c ∈ sg p, c ∈ sg s) ∧ (sg s).Nodup ∧ (sg s).length ≤ 9) ∧ P (.ol ((tabF (sg s) f).map .bl))
  | _ => False
abbrev N_L_table_bc0 : List Str := ["_law_form_here", "_law_letters", "_law_places", "_law_size", "_law_letter", "_law_table_here", "_law_product", "_law_step", "_law_start", "_law_k"]
def w_L_table_bc0_b1_t1 : WS := (wAsg (wOp oPlus (wVar 3) (wVar 3)) (wgName 3))
def w_L_table_bc0_b1 : WS := wSeq (wDPut 2 (wVar 4) (wVar 3))
    w_L_table_bc0_b1_t1
def w_L_table_bc0_b2_t1 : WS := (wFor (wiR3 (wCons (wVar 7) (wCons (wVar 3) (wCons (wOp oPlus (wVar 7) (wVar 7)) wNil)))) (wgName 8)
      (wFor (wiR2 (wCons (wVar 8) (wCons (wOp oPlus (wVar 8) (wVar 7)) wNil))) (wgName 9)
      (wLSet 5 (wVar 9) (wLend (wOp oNeX (wOp oIxX (wVar 5) (wVar 9)) (wOp oIxX (wVar 5) (wOp oSub (wVar 9) (wVar 7))))))))
def w_L_table_bc0_b2 : WS := wSeq (wAsg (wOp oIxX (wVar 2) (wVar 4)) (wgName 7))
    w_L_table_bc0_b2_t1
def w_L_table_bc0_t6 : WS := (wRet (wMove 5))
def w_L_table_bc0_t5 : WS := wSeq (wFor (wiX (wVar 1)) (wgName 4)
      w_L_table_bc0_b2)
    w_L_table_bc0_t6
def w_L_table_bc0_t4 : WS := wSeq (wFz 2 (wFor (wiX (wVar 0)) (wgName 6)
      (wLSet 5 (wCB oSum (wCons (wLc (wiX (wVar 6)) (wgName 4) wYes (wOp oIxX (wVar 2) (wVar 4)) [4]) wNil)) (wC (.bl true)))))
    w_L_table_bc0_t5
def w_L_table_bc0_t3 : WS := wSeq (wSet 5 (wOp oRep (wLst (wCons (wC (.bl false)) wNil)) (wVar 3)))
    w_L_table_bc0_t4
def w_L_table_bc0_t2 : WS := wSeq (wFor (wiRev (wVar 1)) (wgName 4)
      w_L_table_bc0_b1)
    w_L_table_bc0_t3
def w_L_table_bc0_t1 : WS := wSeq (wAsg (wC (.int 1)) (wgName 3))
    w_L_table_bc0_t2
def w_L_table_bc0 : WS := wSeq (wSet 2 wDict0)
    w_L_table_bc0_t1
theorem len_L_table_bc0 {ds Q px} (h : sp_L_table_bc0 ds Q px) : ds.length = 2 := by unfold sp_L_table_bc0 at h; split at h <;> first | rfl | exact h.elim
theorem tab_rg : ∀ i < 9, ∀ m < 9, RgC ((2 ^ m : Nat) : Int) ((2 ^ (i + m + 1) : Nat) : Int) ((2 ^ m + 2 ^ m : Nat) : Int) (2 ^ i) := by unfold RgC; decide +kernel
theorem rd_L_table_bc0 {ds Q px} (h : sp_L_table_bc0 ds Q px) : w_L_table_bc0 ⟨fun _ => Q (.d .non), Q, fun _ => False, fun _ => False⟩ (startR N_L_table_bc0 ds) := by
  unfold sp_L_table_bc0 at h
  split at h
  · rename_i x s
    obtain ⟨f, rfl, ⟨hf, ho, hn, h9⟩, hq⟩ := asF_of h
    clear h
    unfold w_L_table_bc0
    simp only [N_L_table_bc0, fD, w_L_table_bc0_t1, w_L_table_bc0_t2, wSeq, wSet, wAsg, wC, wIfS, wB, wOp, oI, oI0, asI, asS, asL, asLT, asT, asB, asA_some, asA_none, asO, asOL, asOD, asKey, asDic, asSq, oLen, oMod, oAdd, oSub, oMul, oDiv, oMax, oMin, oPlus, oEqX, oNeX, eqX_int, eqX_str, eqX_bl, oCmp, oLtX, oLeX, oGtX, oGeX, oIxX, oInX, wCB, wCons, wNil, wVar, wMove, nth, put, startR, wNext, wRet, wRetN, wDrop, wFor, wiR1, wiR2, wiX, itemsOf, wgName, wgTup, wgCons, wgNil, wLend, wLendT, seeR_cons, seeR_nil, seeO_d, seeO_none, seeO_ol, seeO_od, wJoin, wM, oAppend, oPop, oPopAt, wDPut, wDPop, wSortK, wDict0, wTup, wLst, wCall, wAnd, wOr, wNot, wAndV, wOrV, wNotV, wIf, wYes, wLc, wiEnumX, oListX, oTuple, oSort, oSortSet, oAll, oAny, S.fz, S.own, D.flat, txts_map, bools_map, txtKeys_map, List.length_map, List.map_cons, List.map_nil, List.length_cons, List.length_nil, List.cons_append, List.nil_append, List.replicate, decide_eq_true_eq, Bool.not_eq_true', Bool.not_true, Bool.not_false, if_true, if_false, Nat.zero_add, Nat.reduceAdd, Nat.reduceSub, ge_iff_le, true_and, and_true, zip_unzip, Bool.false_xor, Bool.true_xor, Bool.false_eq_true, Bool.true_eq_false, reduceIte, wipeR, dataR_cons, dataR_nil, dataO_d, dataO_none, dataO_ol, dataO_od, oDict, oIsi, tyD, isiB, wSl, wPart, wNoP, oSl, wDisp1, wDGet2, oRemove, atI_0, atI_1, atI_2, wiRev, revItems, oDictP, wForK, wiKeys, kD, oSortX, oPow, oBitAnd, oShl, oNeg, wUn, oInt, oStr, oDivmod, oIs, isD, wChain, wFz, wFzE, frzR, wLSet, wiZip, seqsD, wiVals, wiItems, wOIx, wNo, Option.isSome_some, oMulX, wM1, oSplit, oPart, oStrip1, oRep, oSum, intsD, wRaise, wLI, wLK
, wiR3, wLR, wDisp, wPairs, oReverse, oClear, oInsert, wRevL, wDZ, seqLT, oSortIT, wOFld, wSFld, asOI, setOI, putG, wPar, wiItemsC, wiValsC, wIndexL, wDZO, wLO, wiZip3]
    have e0 : (signs s).reverse.map D.str = (sg s).reverse.map fun c => D.str (one c) := by rw [signs_eq, ← List.map_reverse, List.map_map]; rfl
    rw [e0]
    refine ⟨?_, ?_⟩
    · rw [len0, sg_len]; omega
    refine forD_map (I := fun done _ ρ => ∃ o4 : Option S, ρ = [some (.d (.tup (f.map .str))), some (.d (.str s)), some (.od (plR done.reverse)), some (.d (.int ((2 ^ done.length : Nat) : Int))), o4, none, none, none, none, none]) mono_name (sg s).reverse (fun done x ys ρ he hI => ?_) (fun ρ hI => ?_) _ ⟨none, rfl⟩
    · obtain ⟨o4, rfl⟩ := hI
      simp only [w_L_table_bc0_b1, w_L_table_bc0_b1_t1, wSeq, wSet, wAsg, wC, wIfS, wB, wOp, oI, oI0, asI, asS, asL, asLT, asT, asB, asA_some, asA_none, asO, asOL, asOD, asKey, asDic, asSq, oLen, oMod, oAdd, oSub, oMul, oDiv, oMax, oMin, oPlus, oEqX, oNeX, eqX_int, eqX_str, eqX_bl, oCmp, oLtX, oLeX, oGtX, oGeX, oIxX, oInX, wCB, wCons, wNil, wVar, wMove, nth, put, startR, wNext, wRet, wRetN, wDrop, wFor, wiR1, wiR2, wiX, itemsOf, wgName, wgTup, wgCons, wgNil, wLend, wLendT, seeR_cons, seeR_nil, seeO_d, seeO_none, seeO_ol, seeO_od, wJoin, wM, oAppend, oPop, oPopAt, wDPut, wDPop, wSortK, wDict0, wTup, wLst, wCall, wAnd, wOr, wNot, wAndV, wOrV, wNotV, wIf, wYes, wLc, wiEnumX, oListX, oTuple, oSort, oSortSet, oAll, oAny, S.fz, S.own, D.flat, txts_map, bools_map, txtKeys_map, List.length_map, List.map_cons, List.map_nil, List.length_cons, List.length_nil, List.cons_append, List.nil_append, List.replicate, decide_eq_true_eq, Bool.not_eq_true', Bool.not_true, Bool.not_false, if_true, if_false, Nat.zero_add, Nat.reduceAdd, Nat.reduceSub, ge_iff_le, true_and, and_true, zip_unzip, Bool.false_xor, Bool.true_xor, Bool.false_eq_true, Bool.true_eq_false, reduceIte, wipeR, dataR_cons, dataR_nil, dataO_d, dataO_none, dataO_ol, dataO_od, oDict, oIsi, tyD, isiB, wSl, wPart, wNoP, oSl, wDisp1, wDGet2, oRemove, atI_0, atI_1, atI_2, wiRev, revItems, oDictP, wForK, wiKeys, kD, oSortX, oPow, oBitAnd, oShl, oNeg, wUn, oInt, oStr, oDivmod, oIs, isD, wChain, wFz, wFzE, frzR, wLSet, wiZip, seqsD, wiVals, wiItems, wOIx, wNo, Option.isSome_some, oMulX, wM1, oSplit, oPart, oStrip1, oRep, oSum, intsD, wRaise, wLI, wLK
, wiR3, wLR, wDisp, wPairs, oReverse, oClear, oInsert, wRevL, wDZ, seqLT, oSortIT, wOFld, wSFld, asOI, setOI, putG, wPar, wiItemsC, wiValsC, wIndexL, wDZO, wLO, wiZip3]
      have hn' : (sg s).reverse.Nodup := (List.reverse_perm _).nodup_iff.mpr hn
      have hl := congrArg List.length he
      rw [List.length_reverse, List.length_append, List.length_cons] at hl
      rw [he] at hn'
      have hx : x ∉ done.reverse := fun z => (List.nodup_append.mp hn').2.2 x (List.mem_reverse.mp z) x List.mem_cons_self rfl
      have e1 := vput_plR hx
      rw [List.length_reverse] at e1
      refine ⟨by rw [plR_len, List.length_reverse, len0]; omega, some (.d (.str (one x))), ?_⟩
      rw [e1, List.reverse_append, List.length_append, List.length_singleton, Nat.pow_succ, Nat.mul_two]
      rfl
    · obtain ⟨o4, rfl⟩ := hI
      simp only [w_L_table_bc0_t3, w_L_table_bc0_t4, List.length_reverse, List.reverse_reverse, wSeq, wSet, wAsg, wC, wIfS, wB, wOp, oI, oI0, asI, asS, asL, asLT, asT, asB, asA_some, asA_none, asO, asOL, asOD, asKey, asDic, asSq, oLen, oMod, oAdd, oSub, oMul, oDiv, oMax, oMin, oPlus, oEqX, oNeX, eqX_int, eqX_str, eqX_bl, oCmp, oLtX, oLeX, oGtX, oGeX, oIxX, oInX, wCB, wCons, wNil, wVar, wMove, nth, put, startR, wNext, wRet, wRetN, wDrop, wFor, wiR1, wiR2, wiX, itemsOf, wgName, wgTup, wgCons, wgNil, wLend, wLendT, seeR_cons, seeR_nil, seeO_d, seeO_none, seeO_ol, seeO_od, wJoin, wM, oAppend, oPop, oPopAt, wDPut, wDPop, wSortK, wDict0, wTup, wLst, wCall, wAnd, wOr, wNot, wAndV, wOrV, wNotV, wIf, wYes, wLc, wiEnumX, oListX, oTuple, oSort, oSortSet, oAll, oAny, S.fz, S.own, D.flat, txts_map, bools_map, txtKeys_map, List.length_map, List.map_cons, List.map_nil, List.length_cons, List.length_nil, List.cons_append, List.nil_append, List.replicate, decide_eq_true_eq, Bool.not_eq_true', Bool.not_true, Bool.not_false, if_true, if_false, Nat.zero_add, Nat.reduceAdd, Nat.reduceSub, ge_iff_le, true_and, and_true, zip_unzip, Bool.false_xor, Bool.true_xor, Bool.false_eq_true, Bool.true_eq_false, reduceIte, wipeR, dataR_cons, dataR_nil, dataO_d, dataO_none, dataO_ol, dataO_od, oDict, oIsi, tyD, isiB, wSl, wPart, wNoP, oSl, wDisp1, wDGet2, oRemove, atI_0, atI_1, atI_2, wiRev, revItems, oDictP, wForK, wiKeys, kD, oSortX, oPow, oBitAnd, oShl, oNeg, wUn, oInt, oStr, oDivmod, oIs, isD, wChain, wFz, wFzE, frzR, wLSet, wiZip, seqsD, wiVals, wiItems, wOIx, wNo, Option.isSome_some, oMulX, wM1, oSplit, oPart, oStrip1, oRep, oSum, intsD, wRaise, wLI, wLK
, wiR3, wLR, wDisp, wPairs, oReverse, oClear, oInsert, wRevL, wDZ, seqLT, oSortIT, wOFld, wSFld, asOI, setOI, putG, wPar, wiItemsC, wiValsC, wIndexL, wDZO, wLO, wiZip3]
      have hN : 2 ^ (sg s).length ≤ 512 := Nat.pow_le_pow_right (n := 2) (by decide) h9
      have hN0 : 0 < 2 ^ (sg s).length := Nat.two_pow_pos _
      have e2 : (List.replicate (((2 ^ (sg s).length : Nat) : Int)).toNat [D.bl false]).flatten = indT (sg s) [] := by
        rw [Int.toNat_natCast]; unfold indT
        apply List.ext_getElem
        · simp
        · intro k h1 h2
          simp
      rw [e2]
      refine ⟨by decide, ⟨by omega, by omega⟩, by rw [len0]; omega, ?_⟩
      refine forD_map (I := fun done _ ρ => ∃ o4 o6 : Option S, ρ = [some (.d (.tup (f.map .str))), some (.d (.str s)), some (.d (.dic ((plR (sg s)).map (·.1)) ((plR (sg s)).map (·.2)))), some (.d (.int ((2 ^ (sg s).length : Nat) : Int))), o4, some (.ol (indT (sg s) done)), o6, none, none, none]) mono_name f (fun done p ys ρ he hI => ?_) (fun ρ hI => ?_) _ ⟨o4, none, rfl⟩
      · obtain ⟨o4, o6, rfl⟩ := hI
        have hpf : p ∈ f := by rw [he]; simp
        have hp := hf.prd p hpf
        have hps := ho p hpf
        simp only [wSeq, wSet, wAsg, wC, wIfS, wB, wOp, oI, oI0, asI, asS, asL, asLT, asT, asB, asA_some, asA_none, asO, asOL, asOD, asKey, asDic, asSq, oLen, oMod, oAdd, oSub, oMul, oDiv, oMax, oMin, oPlus, oEqX, oNeX, eqX_int, eqX_str, eqX_bl, oCmp, oLtX, oLeX, oGtX, oGeX, oIxX, oInX, wCB, wCons, wNil, wVar, wMove, nth, put, startR, wNext, wRet, wRetN, wDrop, wFor, wiR1, wiR2, wiX, itemsOf, wgName, wgTup, wgCons, wgNil, wLend, wLendT, seeR_cons, seeR_nil, seeO_d, seeO_none, seeO_ol, seeO_od, wJoin, wM, oAppend, oPop, oPopAt, wDPut, wDPop, wSortK, wDict0, wTup, wLst, wCall, wAnd, wOr, wNot, wAndV, wOrV, wNotV, wIf, wYes, wLc, wiEnumX, oListX, oTuple, oSort, oSortSet, oAll, oAny, S.fz, S.own, D.flat, txts_map, bools_map, txtKeys_map, List.length_map, List.map_cons, List.map_nil, List.length_cons, List.length_nil, List.cons_append, List.nil_append, List.replicate, decide_eq_true_eq, Bool.not_eq_true', Bool.not_true, Bool.not_false, if_true, if_false, Nat.zero_add, Nat.reduceAdd, Nat.reduceSub, ge_iff_le, true_and, and_true, zip_unzip, Bool.false_xor, Bool.true_xor, Bool.false_eq_true, Bool.true_eq_false, reduceIte, wipeR, dataR_cons, dataR_nil, dataO_d, dataO_none, dataO_ol, dataO_od, oDict, oIsi, tyD, isiB, wSl, wPart, wNoP, oSl, wDisp1, wDGet2, oRemove, atI_0, atI_1, atI_2, wiRev, revItems, oDictP, wForK, wiKeys, kD, oSortX, oPow, oBitAnd, oShl, oNeg, wUn, oInt, oStr, oDivmod, oIs, isD, wChain, wFz, wFzE, frzR, wLSet, wiZip, seqsD, wiVals, wiItems, wOIx, wNo, Option.isSome_some, oMulX, wM1, oSplit, oPart, oStrip1, oRep, oSum, intsD, wRaise, wLI, wLK
, wiR3, wLR, wDisp, wPairs, oReverse, oClear, oInsert, wRevL, wDZ, seqLT, oSortIT, wOFld, wSFld, asOI, setOI, putG, wPar, wiItemsC, wiValsC, wIndexL, wDZO, wLO, wiZip3]
        have e3 : (signs p).map D.str = (sg p).map fun c => D.str (one c) := by rw [signs_eq, List.map_map]; rfl
        rw [e3]
        have l9 := hp.len
        refine ⟨by rw [signs_eq, List.length_map, len0]; omega, ?_⟩
        refine compD_map mono_name (fun c => some (.int ((plc (sg s) c : Nat) : Int))) (sg p) _ (fun c hc Q' hQ => ?_) ?_
        · simp only [wSeq, wSet, wAsg, wC, wIfS, wB, wOp, oI, oI0, asI, asS, asL, asLT, asT, asB, asA_some, asA_none, asO, asOL, asOD, asKey, asDic, asSq, oLen, oMod, oAdd, oSub, oMul, oDiv, oMax, oMin, oPlus, oEqX, oNeX, eqX_int, eqX_str, eqX_bl, oCmp, oLtX, oLeX, oGtX, oGeX, oIxX, oInX, wCB, wCons, wNil, wVar, wMove, nth, put, startR, wNext, wRet, wRetN, wDrop, wFor, wiR1, wiR2, wiX, itemsOf, wgName, wgTup, wgCons, wgNil, wLend, wLendT, seeR_cons, seeR_nil, seeO_d, seeO_none, seeO_ol, seeO_od, wJoin, wM, oAppend, oPop, oPopAt, wDPut, wDPop, wSortK, wDict0, wTup, wLst, wCall, wAnd, wOr, wNot, wAndV, wOrV, wNotV, wIf, wYes, wLc, wiEnumX, oListX, oTuple, oSort, oSortSet, oAll, oAny, S.fz, S.own, D.flat, txts_map, bools_map, txtKeys_map, List.length_map, List.map_cons, List.map_nil, List.length_cons, List.length_nil, List.cons_append, List.nil_append, List.replicate, decide_eq_true_eq, Bool.not_eq_true', Bool.not_true, Bool.not_false, if_true, if_false, Nat.zero_add, Nat.reduceAdd, Nat.reduceSub, ge_iff_le, true_and, and_true, zip_unzip, Bool.false_xor, Bool.true_xor, Bool.false_eq_true, Bool.true_eq_false, reduceIte, wipeR, dataR_cons, dataR_nil, dataO_d, dataO_none, dataO_ol, dataO_od, oDict, oIsi, tyD, isiB, wSl, wPart, wNoP, oSl, wDisp1, wDGet2, oRemove, atI_0, atI_1, atI_2, wiRev, revItems, oDictP, wForK, wiKeys, kD, oSortX, oPow, oBitAnd, oShl, oNeg, wUn, oInt, oStr, oDivmod, oIs, isD, wChain, wFz, wFzE, frzR, wLSet, wiZip, seqsD, wiVals, wiItems, wOIx, wNo, Option.isSome_some, oMulX, wM1, oSplit, oPart, oStrip1, oRep, oSum, intsD, wRaise, wLI, wLK
, wiR3, wLR, wDisp, wPairs, oReverse, oClear, oInsert, wRevL, wDZ, seqLT, oSortIT, wOFld, wSFld, asOI, setOI, putG, wPar, wiItemsC, wiValsC, wIndexL, wDZO, wLO, wiZip3, vget_plR hn (hps c hc), asA_some]
          exact hQ
        have e4 : (sg p).filterMap (fun c => some (D.int ((plc (sg s) c : Nat) : Int))) = ((sg p).map fun c => ((plc (sg s) c : Nat) : Int)).map .int := by
          rw [List.map_map, ← List.filterMap_eq_map]; rfl
        have e5 : ((sg p).map fun c => ((plc (sg s) c : Nat) : Int)).sum = ((msk (sg s) (sg p) : Nat) : Int) := by
          rw [← plc_sum hn (up_nodup hp.up) hps, ← ints_cast, List.map_map]; rfl
        have hm := msk_lt (sg s) (sg p)
        have e6 : ixN (indT (sg s) done).length ((msk (sg s) (sg p) : Nat) : Int) = some (msk (sg s) (sg p)) := by
          rw [show (indT (sg s) done).length = 2 ^ (sg s).length by simp [indT], ixN, if_pos (by omega), if_pos (by omega), Int.toNat_natCast]
        rw [e4, intsD_ints, asA_some, e5, e6, asA_some, indT_set]
        exact ⟨_, _, rfl⟩
      · obtain ⟨o4, o6, rfl⟩ := hI
        simp only [w_L_table_bc0_t5, wSeq, wSet, wAsg, wC, wIfS, wB, wOp, oI, oI0, asI, asS, asL, asLT, asT, asB, asA_some, asA_none, asO, asOL, asOD, asKey, asDic, asSq, oLen, oMod, oAdd, oSub, oMul, oDiv, oMax, oMin, oPlus, oEqX, oNeX, eqX_int, eqX_str, eqX_bl, oCmp, oLtX, oLeX, oGtX, oGeX, oIxX, oInX, wCB, wCons, wNil, wVar, wMove, nth, put, startR, wNext, wRet, wRetN, wDrop, wFor, wiR1, wiR2, wiX, itemsOf, wgName, wgTup, wgCons, wgNil, wLend, wLendT, seeR_cons, seeR_nil, seeO_d, seeO_none, seeO_ol, seeO_od, wJoin, wM, oAppend, oPop, oPopAt, wDPut, wDPop, wSortK, wDict0, wTup, wLst, wCall, wAnd, wOr, wNot, wAndV, wOrV, wNotV, wIf, wYes, wLc, wiEnumX, oListX, oTuple, oSort, oSortSet, oAll, oAny, S.fz, S.own, D.flat, txts_map, bools_map, txtKeys_map, List.length_map, List.map_cons, List.map_nil, List.length_cons, List.length_nil, List.cons_append, List.nil_append, List.replicate, decide_eq_true_eq, Bool.not_eq_true', Bool.not_true, Bool.not_false, if_true, if_false, Nat.zero_add, Nat.reduceAdd, Nat.reduceSub, ge_iff_le, true_and, and_true, zip_unzip, Bool.false_xor, Bool.true_xor, Bool.false_eq_true, Bool.true_eq_false, reduceIte, wipeR, dataR_cons, dataR_nil, dataO_d, dataO_none, dataO_ol, dataO_od, oDict, oIsi, tyD, isiB, wSl, wPart, wNoP, oSl, wDisp1, wDGet2, oRemove, atI_0, atI_1, atI_2, wiRev, revItems, oDictP, wForK, wiKeys, kD, oSortX, oPow, oBitAnd, oShl, oNeg, wUn, oInt, oStr, oDivmod, oIs, isD, wChain, wFz, wFzE, frzR, wLSet, wiZip, seqsD, wiVals, wiItems, wOIx, wNo, Option.isSome_some, oMulX, wM1, oSplit, oPart, oStrip1, oRep, oSum, intsD, wRaise, wLI, wLK
, wiR3, wLR, wDisp, wPairs, oReverse, oClear, oInsert, wRevL, wDZ, seqLT, oSortIT, wOFld, wSFld, asOI, setOI, putG, wPar, wiItemsC, wiValsC, wIndexL, wDZO, wLO, wiZip3]
        have e3 : (signs s).map D.str = (sg s).map fun c => D.str (one c) := by rw [signs_eq, List.map_map]; rfl
        have e4 : indT (sg s) f = (mid [] (sg s) f).map .bl := by
          rw [mid, ini_form hf ho, List.map_map]; rfl
        rw [e3, e4]
        refine forD_map (I := fun done ys ρ => ∃ o4 o6 o7 o8 o9 : Option S, ρ = [some (.d (.tup (f.map .str))), some (.d (.str s)), some (.d (.dic ((plR (sg s)).map (·.1)) ((plR (sg s)).map (·.2)))), some (.d (.int ((2 ^ (sg s).length : Nat) : Int))), o4, some (.ol ((mid done ys f).map .bl)), o6, o7, o8, o9]) mono_name (sg s) (fun done c ys ρ he hI => ?_) (fun ρ hI => ?_) _ ⟨o4, o6, none, none, none, rfl⟩
        · obtain ⟨o4, o6, o7, o8, o9, rfl⟩ := hI
          have hc : c ∉ done := fun z => by
            have := hn; rw [he] at this
            exact (List.nodup_append.mp this).2.2 c z c List.mem_cons_self rfl
          have hpc : plc (sg s) c = 2 ^ ys.length := by rw [he]; exact plc_at hc
          have hl := congrArg List.length he
          rw [List.length_append, List.length_cons] at hl
          simp only [w_L_table_bc0_b2, w_L_table_bc0_b2_t1, wSeq, wSet, wAsg, wC, wIfS, wB, wOp, oI, oI0, asI, asS, asL, asLT, asT, asB, asA_some, asA_none, asO, asOL, asOD, asKey, asDic, asSq, oLen, oMod, oAdd, oSub, oMul, oDiv, oMax, oMin, oPlus, oEqX, oNeX, eqX_int, eqX_str, eqX_bl, oCmp, oLtX, oLeX, oGtX, oGeX, oIxX, oInX, wCB, wCons, wNil, wVar, wMove, nth, put, startR, wNext, wRet, wRetN, wDrop, wFor, wiR1, wiR2, wiX, itemsOf, wgName, wgTup, wgCons, wgNil, wLend, wLendT, seeR_cons, seeR_nil, seeO_d, seeO_none, seeO_ol, seeO_od, wJoin, wM, oAppend, oPop, oPopAt, wDPut, wDPop, wSortK, wDict0, wTup, wLst, wCall, wAnd, wOr, wNot, wAndV, wOrV, wNotV, wIf, wYes, wLc, wiEnumX, oListX, oTuple, oSort, oSortSet, oAll, oAny, S.fz, S.own, D.flat, txts_map, bools_map, txtKeys_map, List.length_map, List.map_cons, List.map_nil, List.length_cons, List.length_nil, List.cons_append, List.nil_append, List.replicate, decide_eq_true_eq, Bool.not_eq_true', Bool.not_true, Bool.not_false, if_true, if_false, Nat.zero_add, Nat.reduceAdd, Nat.reduceSub, ge_iff_le, true_and, and_true, zip_unzip, Bool.false_xor, Bool.true_xor, Bool.false_eq_true, Bool.true_eq_false, reduceIte, wipeR, dataR_cons, dataR_nil, dataO_d, dataO_none, dataO_ol, dataO_od, oDict, oIsi, tyD, isiB, wSl, wPart, wNoP, oSl, wDisp1, wDGet2, oRemove, atI_0, atI_1, atI_2, wiRev, revItems, oDictP, wForK, wiKeys, kD, oSortX, oPow, oBitAnd, oShl, oNeg, wUn, oInt, oStr, oDivmod, oIs, isD, wChain, wFz, wFzE, frzR, wLSet, wiZip, seqsD, wiVals, wiItems, wOIx, wNo, Option.isSome_some, oMulX, wM1, oSplit, oPart, oStrip1, oRep, oSum, intsD, wRaise, wLI, wLK
, wiR3, wLR, wDisp, wPairs, oReverse, oClear, oInsert, wRevL, wDZ, seqLT, oSortIT, wOFld, wSFld, asOI, setOI, putG, wPar, wiItemsC, wiValsC, wIndexL, wDZO, wLO, wiZip3, vget_plR hn (show c ∈ sg s by rw [he]; simp), asA_some, hpc]
          rw [show (((2 ^ ys.length : Nat) : Int) + ((2 ^ ys.length : Nat) : Int)) = ((2 ^ ys.length + 2 ^ ys.length : Nat) : Int) by omega]
          have hs0 : 0 < 2 ^ ys.length := Nat.two_pow_pos _
          have hm := mid_len done (c :: ys) f
          rw [List.length_cons, ← hl] at hm
          have hlt : 2 ^ (sg s).length = (2 ^ ys.length + 2 ^ ys.length) * 2 ^ done.length := by
            rw [hl, ← Nat.mul_two, ← Nat.pow_succ, ← Nat.pow_add]; congr 1; omega
          have hmp := mid_pass done c ys f
          generalize mid done (c :: ys) f = L at hm hmp ⊢
          rw [← tbB_0 (2 ^ ys.length) L]
          have hrg := tab_rg done.length (by omega) ys.length (by omega)
          rw [show done.length + ys.length + 1 = (sg s).length by omega] at hrg
          refine ⟨2 ^ done.length, hrg, ?_⟩
          rw [← hmp]
          rw [hlt] at hm hN
          clear hmp hrg hlt e4 e3 e2 e0 hl he hc hpc hN0
          generalize 2 ^ (sg s).length = N
          generalize 2 ^ ys.length = sz at hs0 hm hN ⊢
          generalize 2 ^ done.length = m at hm hN ⊢
          unfold rangeS
          refine forD_map (I := fun dj _ ρ => ∃ o4 o6 o8 o9 : Option S, ρ = [some (.d (.tup (f.map .str))), some (.d (.str s)), some (.d (.dic ((plR (sg s)).map (·.1)) ((plR (sg s)).map (·.2)))), some (.d (.int ((N : Nat) : Int))), o4, some (.ol (tbB sz L (dj.length * (sz + sz)))), o6, some (.d (.int (sz : Int))), o8, o9]) mono_name (List.range m) (fun dj j ysj ρ hej hI => ?_) (fun ρ hI => ?_) _ ⟨_, o6, o8, o9, by rw [List.length_nil, Nat.zero_mul]⟩
          · obtain ⟨o4, o6, o8, o9, rfl⟩ := hI
            have hjm : j < m := List.mem_range.mp (by rw [hej]; simp)
            have hjd : j = dj.length := range_mid hej
            subst hjd
            have hjN : dj.length * (sz + sz) + (sz + sz) ≤ (sz + sz) * m := by
              have := Nat.mul_le_mul_left (sz + sz) (show dj.length + 1 ≤ m by omega)
              rw [Nat.mul_add, Nat.mul_one, Nat.mul_comm] at this
              exact this
            simp only [wSeq, wSet, wAsg, wC, wIfS, wB, wOp, oI, oI0, asI, asS, asL, asLT, asT, asB, asA_some, asA_none, asO, asOL, asOD, asKey, asDic, asSq, oLen, oMod, oAdd, oSub, oMul, oDiv, oMax, oMin, oPlus, oEqX, oNeX, eqX_int, eqX_str, eqX_bl, oCmp, oLtX, oLeX, oGtX, oGeX, oIxX, oInX, wCB, wCons, wNil, wVar, wMove, nth, put, startR, wNext, wRet, wRetN, wDrop, wFor, wiR1, wiR2, wiX, itemsOf, wgName, wgTup, wgCons, wgNil, wLend, wLendT, seeR_cons, seeR_nil, seeO_d, seeO_none, seeO_ol, seeO_od, wJoin, wM, oAppend, oPop, oPopAt, wDPut, wDPop, wSortK, wDict0, wTup, wLst, wCall, wAnd, wOr, wNot, wAndV, wOrV, wNotV, wIf, wYes, wLc, wiEnumX, oListX, oTuple, oSort, oSortSet, oAll, oAny, S.fz, S.own, D.flat, txts_map, bools_map, txtKeys_map, List.length_map, List.map_cons, List.map_nil, List.length_cons, List.length_nil, List.cons_append, List.nil_append, List.replicate, decide_eq_true_eq, Bool.not_eq_true', Bool.not_true, Bool.not_false, if_true, if_false, Nat.zero_add, Nat.reduceAdd, Nat.reduceSub, ge_iff_le, true_and, and_true, zip_unzip, Bool.false_xor, Bool.true_xor, Bool.false_eq_true, Bool.true_eq_false, reduceIte, wipeR, dataR_cons, dataR_nil, dataO_d, dataO_none, dataO_ol, dataO_od, oDict, oIsi, tyD, isiB, wSl, wPart, wNoP, oSl, wDisp1, wDGet2, oRemove, atI_0, atI_1, atI_2, wiRev, revItems, oDictP, wForK, wiKeys, kD, oSortX, oPow, oBitAnd, oShl, oNeg, wUn, oInt, oStr, oDivmod, oIs, isD, wChain, wFz, wFzE, frzR, wLSet, wiZip, seqsD, wiVals, wiItems, wOIx, wNo, Option.isSome_some, oMulX, wM1, oSplit, oPart, oStrip1, oRep, oSum, intsD, wRaise, wLI, wLK
, wiR3, wLR, wDisp, wPairs, oReverse, oClear, oInsert, wRevL, wDZ, seqLT, oSortIT, wOFld, wSFld, asOI, setOI, putG, wPar, wiItemsC, wiValsC, wIndexL, wDZO, wLO, wiZip3]
            rw [show ((sz : Nat) : Int) + ((dj.length : Nat) : Int) * ((sz + sz : Nat) : Int) = ((dj.length * (sz + sz) + sz : Nat) : Int) by simp only [Int.natCast_add, Int.natCast_mul]; exact Int.add_comm _ _]
            rw [show (((dj.length * (sz + sz) + sz : Nat) : Int) + (sz : Int) - ((dj.length * (sz + sz) + sz : Nat) : Int)).toNat = sz by omega]
            rw [tbB_ext (b := dj.length * (sz + sz)) (b' := dj.length * (sz + sz) + sz) (by omega) (fun k h1 h2 => by
              rw [show k / sz = 2 * dj.length from Nat.div_eq_of_lt_le (by rw [show 2 * dj.length * sz = dj.length * (sz + sz) by rw [Nat.mul_comm 2, Nat.mul_assoc, Nat.two_mul]]; exact h1) (by rw [Nat.add_mul, Nat.one_mul, show 2 * dj.length * sz = dj.length * (sz + sz) by rw [Nat.mul_comm 2, Nat.mul_assoc, Nat.two_mul]]; exact h2)]; omega)]
            have hod : ∀ i, i < sz → (dj.length * (sz + sz) + sz + i) / sz % 2 = 1 := fun i hi => by
              have : (dj.length * (sz + sz) + sz + i) / sz = 2 * dj.length + 1 := Nat.div_eq_of_lt_le (by rw [Nat.add_mul, Nat.one_mul, show 2 * dj.length * sz = dj.length * (sz + sz) by rw [Nat.mul_comm 2, Nat.mul_assoc, Nat.two_mul]]; omega) (by rw [show (2 * dj.length + 1 + 1) * sz = dj.length * (sz + sz) + (sz + sz) by rw [Nat.add_mul, Nat.add_mul, Nat.one_mul, show 2 * dj.length * sz = dj.length * (sz + sz) by rw [Nat.mul_comm 2, Nat.mul_assoc, Nat.two_mul], Nat.add_assoc]]; omega)
              rw [this]; omega
            have hev : ∀ i, i < sz → (dj.length * (sz + sz) + i) / sz % 2 = 0 := fun i hi => by
              have : (dj.length * (sz + sz) + i) / sz = 2 * dj.length := Nat.div_eq_of_lt_le (by rw [show 2 * dj.length * sz = dj.length * (sz + sz) by rw [Nat.mul_comm 2, Nat.mul_assoc, Nat.two_mul]]; omega) (by rw [Nat.add_mul, Nat.one_mul, show 2 * dj.length * sz = dj.length * (sz + sz) by rw [Nat.mul_comm 2, Nat.mul_assoc, Nat.two_mul]]; omega)
              rw [this]; omega
            refine ⟨⟨by omega, by omega, by omega, by omega⟩, ?_⟩
            unfold rangeD
            refine forD_map (I := fun di _ ρ => ∃ o4 o6 o9 : Option S, ρ = [some (.d (.tup (f.map .str))), some (.d (.str s)), some (.d (.dic ((plR (sg s)).map (·.1)) ((plR (sg s)).map (·.2)))), some (.d (.int ((N : Nat) : Int))), o4, some (.ol (tbB sz L (dj.length * (sz + sz) + sz + di.length))), o6, some (.d (.int (sz : Int))), some (.d (.int ((dj.length * (sz + sz) + sz : Nat) : Int))), o9]) mono_name (List.range sz) (fun di i ysi ρ hei hI => ?_) (fun ρ hI => ?_) _ ⟨o4, o6, o9, rfl⟩
            · obtain ⟨o4, o6, o9, rfl⟩ := hI
              have him : i < sz := List.mem_range.mp (by rw [hei]; simp)
              have hid : i = di.length := range_mid hei
              subst hid
              have hkN : dj.length * (sz + sz) + sz + di.length < L.length := by rw [hm]; omega
              simp only [wSeq, wSet, wAsg, wC, wIfS, wB, wOp, oI, oI0, asI, asS, asL, asLT, asT, asB, asA_some, asA_none, asO, asOL, asOD, asKey, asDic, asSq, oLen, oMod, oAdd, oSub, oMul, oDiv, oMax, oMin, oPlus, oEqX, oNeX, eqX_int, eqX_str, eqX_bl, oCmp, oLtX, oLeX, oGtX, oGeX, oIxX, oInX, wCB, wCons, wNil, wVar, wMove, nth, put, startR, wNext, wRet, wRetN, wDrop, wFor, wiR1, wiR2, wiX, itemsOf, wgName, wgTup, wgCons, wgNil, wLend, wLendT, seeR_cons, seeR_nil, seeO_d, seeO_none, seeO_ol, seeO_od, wJoin, wM, oAppend, oPop, oPopAt, wDPut, wDPop, wSortK, wDict0, wTup, wLst, wCall, wAnd, wOr, wNot, wAndV, wOrV, wNotV, wIf, wYes, wLc, wiEnumX, oListX, oTuple, oSort, oSortSet, oAll, oAny, S.fz, S.own, D.flat, txts_map, bools_map, txtKeys_map, List.length_map, List.map_cons, List.map_nil, List.length_cons, List.length_nil, List.cons_append, List.nil_append, List.replicate, decide_eq_true_eq, Bool.not_eq_true', Bool.not_true, Bool.not_false, if_true, if_false, Nat.zero_add, Nat.reduceAdd, Nat.reduceSub, ge_iff_le, true_and, and_true, zip_unzip, Bool.false_xor, Bool.true_xor, Bool.false_eq_true, Bool.true_eq_false, reduceIte, wipeR, dataR_cons, dataR_nil, dataO_d, dataO_none, dataO_ol, dataO_od, oDict, oIsi, tyD, isiB, wSl, wPart, wNoP, oSl, wDisp1, wDGet2, oRemove, atI_0, atI_1, atI_2, wiRev, revItems, oDictP, wForK, wiKeys, kD, oSortX, oPow, oBitAnd, oShl, oNeg, wUn, oInt, oStr, oDivmod, oIs, isD, wChain, wFz, wFzE, frzR, wLSet, wiZip, seqsD, wiVals, wiItems, wOIx, wNo, Option.isSome_some, oMulX, wM1, oSplit, oPart, oStrip1, oRep, oSum, intsD, wRaise, wLI, wLK
, wiR3, wLR, wDisp, wPairs, oReverse, oClear, oInsert, wRevL, wDZ, seqLT, oSortIT, wOFld, wSFld, asOI, setOI, putG, wPar, wiItemsC, wiValsC, wIndexL, wDZO, wLO, wiZip3]
              rw [show (((dj.length * (sz + sz) + sz : Nat) : Int) + (di.length : Int)) = ((dj.length * (sz + sz) + sz + di.length : Nat) : Int) by rw [Int.natCast_add (dj.length * (sz + sz) + sz)],
                show (((dj.length * (sz + sz) + sz + di.length : Nat) : Int) - (sz : Int)) = ((dj.length * (sz + sz) + di.length : Nat) : Int) by omega]
              have e7 : ixN (tbB sz L (dj.length * (sz + sz) + sz + di.length)).length ((dj.length * (sz + sz) + sz + di.length : Nat) : Int) = some (dj.length * (sz + sz) + sz + di.length) := by
                rw [tbB_len, ixN, if_pos (by omega), if_pos (by omega), Int.toNat_natCast]
              rw [tbB_at hkN (.inl (Nat.le_refl _)), asA_some, tbB_at (by omega) (.inr (hev _ him)), asA_some, eqX_bl, e7, asA_some]
              have e8 := tbB_set hs0 hkN (hod _ him)
              rw [show dj.length * (sz + sz) + sz + di.length - sz = dj.length * (sz + sz) + di.length by omega] at e8
              have e9 : ∀ a b : Bool, (!decide (a = b)) = xor a b := by decide
              rw [e9, e8, List.length_append, List.length_singleton]
              exact ⟨_, _, _, rfl⟩
            · obtain ⟨o4, o6, o9, rfl⟩ := hI
              rw [List.length_range, List.length_append, List.length_singleton, Nat.add_mul, Nat.one_mul, Nat.add_assoc]
              exact ⟨_, _, _, _, rfl⟩
          · obtain ⟨o4, o6, o8, o9, rfl⟩ := hI
            rw [List.length_range, Nat.mul_comm, tbB_end (by rw [hm]; exact Nat.le_refl _)]
            exact ⟨_, _, _, _, _, rfl⟩
        · obtain ⟨o4, o6, o7, o8, o9, rfl⟩ := hI
          simp only [w_L_table_bc0_t6, wSeq, wSet, wAsg, wC, wIfS, wB, wOp, oI, oI0, asI, asS, asL, asLT, asT, asB, asA_some, asA_none, asO, asOL, asOD, asKey, asDic, asSq, oLen, oMod, oAdd, oSub, oMul, oDiv, oMax, oMin, oPlus, oEqX, oNeX, eqX_int, eqX_str, eqX_bl, oCmp, oLtX, oLeX, oGtX, oGeX, oIxX, oInX, wCB, wCons, wNil, wVar, wMove, nth, put, startR, wNext, wRet, wRetN, wDrop, wFor, wiR1, wiR2, wiX, itemsOf, wgName, wgTup, wgCons, wgNil, wLend, wLendT, seeR_cons, seeR_nil, seeO_d, seeO_none, seeO_ol, seeO_od, wJoin, wM, oAppend, oPop, oPopAt, wDPut, wDPop, wSortK, wDict0, wTup, wLst, wCall, wAnd, wOr, wNot, wAndV, wOrV, wNotV, wIf, wYes, wLc, wiEnumX, oListX, oTuple, oSort, oSortSet, oAll, oAny, S.fz, S.own, D.flat, txts_map, bools_map, txtKeys_map, List.length_map, List.map_cons, List.map_nil, List.length_cons, List.length_nil, List.cons_append, List.nil_append, List.replicate, decide_eq_true_eq, Bool.not_eq_true', Bool.not_true, Bool.not_false, if_true, if_false, Nat.zero_add, Nat.reduceAdd, Nat.reduceSub, ge_iff_le, true_and, and_true, zip_unzip, Bool.false_xor, Bool.true_xor, Bool.false_eq_true, Bool.true_eq_false, reduceIte, wipeR, dataR_cons, dataR_nil, dataO_d, dataO_none, dataO_ol, dataO_od, oDict, oIsi, tyD, isiB, wSl, wPart, wNoP, oSl, wDisp1, wDGet2, oRemove, atI_0, atI_1, atI_2, wiRev, revItems, oDictP, wForK, wiKeys, kD, oSortX, oPow, oBitAnd, oShl, oNeg, wUn, oInt, oStr, oDivmod, oIs, isD, wChain, wFz, wFzE, frzR, wLSet, wiZip, seqsD, wiVals, wiItems, wOIx, wNo, Option.isSome_some, oMulX, wM1, oSplit, oPart, oStrip1, oRep, oSum, intsD, wRaise, wLI, wLK
, wiR3, wLR, wDisp, wPairs, oReverse, oClear, oInsert, wRevL, wDZ, seqLT, oSortIT, wOFld, wSFld, asOI, setOI, putG, wPar, wiItemsC, wiValsC, wIndexL, wDZO, wLO, wiZip3]
          rw [mid_end hn ho]
          exact hq
  · exact h.elim
def kvO (done : List Str) : List (Key × D) := (met done).map fun p => (.inr p, .bl (oddB (done.count p)))
theorem vget_kvO (done : List Str) (p : Str) : (vget (kvO done) (.inr p)).getD (.bl false) = .bl (oddB (done.count p)) := by
  have aux : ∀ l : List Str, vget (l.map fun p => ((.inr p : Key), D.bl (oddB (done.count p)))) (.inr p) = if p ∈ l then some (.bl (oddB (done.count p))) else none := by
    intro l
    induction l with
    | nil => rfl
    | cons q l ih =>
      unfold vget at ih ⊢
      rw [List.map_cons, List.find?_cons]
      by_cases h : q = p
      · subst h; simp
      · have e : decide ((Sum.inr q : Key) = .inr p) = false := decide_eq_false fun z => h (Sum.inr.inj z)
        simp only [e]
        rw [ih]
        have : p ∈ q :: l ↔ p ∈ l := by simp [Ne.symm h]
        simp only [this]
  unfold kvO
  rw [aux]
  by_cases h : p ∈ met done
  · rw [if_pos h]; rfl
  · rw [if_neg h, List.count_eq_zero_of_not_mem fun z => h (mem_met.mpr z)]; rfl
theorem vget_kvO_in {done : List Str} {p : Str} (h : p ∈ met done) : vget (kvO done) (.inr p) = some (.bl (oddB (done.count p))) := by
  have := vget_kvO done p
  cases e : vget (kvO done) (.inr p) with
  | some v => rw [e] at this; rw [show v = _ from this]
  | none =>
    exfalso
    unfold vget at e
    rw [Option.map_eq_none_iff, List.find?_eq_none] at e
    exact e (.inr p, .bl (oddB (done.count p))) (List.mem_map.mpr ⟨p, h, rfl⟩) (by simp)
theorem oddB_succ (n : Nat) : oddB (n + 1) = !oddB n := by
  rw [oddB_add]; cases oddB n <;> rfl
theorem vput_kvO (done : List Str) (x : Str) : vput (kvO done) (.inr x) (.bl (!oddB (done.count x))) = kvO (done ++ [x]) := by
  have hm : ∀ p, p ≠ x → (done ++ [x]).count p = done.count p := fun p hp => by rw [List.count_append, List.count_singleton, if_neg (by simpa using Ne.symm hp), Nat.add_zero]
  have hx : (done ++ [x]).count x = done.count x + 1 := by rw [List.count_append, List.count_singleton, if_pos (by simp)]
  unfold vput
  by_cases h : x ∈ met done
  · have ha : ((kvO done).any fun kv => decide (kv.1 = (.inr x : Key))) = true := List.any_eq_true.mpr ⟨(.inr x, .bl (oddB (done.count x))), List.mem_map.mpr ⟨x, h, rfl⟩, by simp⟩
    rw [if_pos ha]
    unfold kvO
    rw [met_snoc, addS, if_pos h, List.map_map]
    refine List.map_congr_left fun p _ => ?_
    show (if (.inr p : Key) = .inr x then _ else _) = _
    by_cases z : p = x
    · subst z; rw [if_pos rfl, hx, oddB_succ]
    · rw [if_neg fun q => z (Sum.inr.inj q), hm p z]
  · have ha : ¬((kvO done).any fun kv => decide (kv.1 = (.inr x : Key))) = true := fun q => by
      obtain ⟨kv, hkv, e⟩ := List.any_eq_true.mp q
      obtain ⟨p, hp, rfl⟩ := List.mem_map.mp hkv
      exact h (Sum.inr.inj (of_decide_eq_true e) ▸ hp)
    rw [if_neg ha]
    unfold kvO
    rw [met_snoc, addS, if_neg h, List.map_append]
    congr 1
    · refine List.map_congr_left fun p hp => ?_
      rw [hm p fun z => h (z ▸ hp)]
    · rw [List.map_singleton, hx, oddB_succ]
theorem kvO_len (done : List Str) : (kvO done).length ≤ done.length := by
  unfold kvO; rw [List.length_map]
  exact (nodup_met done).length_le_of_subset fun x hx => mem_met.mp hx
theorem odds_mem {xs : List Str} {p : Str} : p ∈ odds xs ↔ oddB (xs.count p) = true := by
  have h := countP_odds (fun q => q == p) xs
  have c1 : (odds xs).count p ≤ 1 := List.nodup_iff_count.mp (odds_nodup xs) p
  unfold oddB
  rw [decide_eq_true_iff, List.count, ← h, ← List.count_pos_iff, List.count] 
  rw [List.count] at c1
  omega
theorem gath_met (xs : List Str) : srt ((met xs).filter fun p => oddB (xs.count p)) = gath xs := by
  unfold gath
  have h : ((met xs).filter fun p => oddB (xs.count p)).Perm (odds xs) := (List.perm_ext_iff_of_nodup ((nodup_met xs).sublist List.filter_sublist) (odds_nodup xs)).mpr fun p => by
    rw [List.mem_filter, odds_mem, mem_met]
    refine ⟨fun z => z.2, fun z => ⟨?_, z⟩⟩
    rcases Nat.eq_zero_or_pos (xs.count p) with q | q
    · rw [q] at z; cases z
    · exact List.count_pos_iff.mp q
  exact srt_unique ((srt_perm _).trans h) (srt_pw _)
def sp_L_turned_e82 : DSp := fun ds P _ => match ds with
  | [.lst xs] => asA (txts xs) fun a => a.length ≤ 1000000 ∧ P (.d (fD (gath a)))
  | _ => False
abbrev N_L_turned_e82 : List Str := ["_law_products", "_law_odd", "_law_product"]
def w_L_turned_e82_t2 : WS := (wFz 1 (wRet (wCB oTuple (wCons (wCB oSortX (wCons (wLc (wiKeys 1) (wgName 2) (wB (wOp oIxX (wVar 1) (wVar 2))) (wVar 2) [2]) wNil)) wNil))))
def w_L_turned_e82_t1 : WS := wSeq (wFor (wiX (wVar 0)) (wgName 2)
      (wDPut 1 (wVar 2) (wNotV (wLend (wDGet2 (wVar 1) (wVar 2) (wC (.bl false)))))))
    w_L_turned_e82_t2
def w_L_turned_e82 : WS := wSeq (wSet 1 wDict0)
    w_L_turned_e82_t1
theorem len_L_turned_e82 {ds Q px} (h : sp_L_turned_e82 ds Q px) : ds.length = 1 := by unfold sp_L_turned_e82 at h; split at h <;> first | rfl | exact h.elim
theorem rd_L_turned_e82 {ds Q px} (h : sp_L_turned_e82 ds Q px) : w_L_turned_e82 ⟨fun _ => Q (.d .non), Q, fun _ => False, fun _ => False⟩ (startR N_L_turned_e82 ds) := by
  unfold sp_L_turned_e82 at h
  split at h
  · rename_i xs
    obtain ⟨a, e, hl, hq⟩ := asA_of h
    clear h
    have ex := txts_eq e
    subst ex
    unfold w_L_turned_e82
    simp only [N_L_turned_e82, w_L_turned_e82_t1, wSeq, wSet, wAsg, wC, wIfS, wB, wOp, oI, oI0, asI, asS, asL, asLT, asT, asB, asA_some, asA_none, asO, asOL, asOD, asKey, asDic, asSq, oLen, oMod, oAdd, oSub, oMul, oDiv, oMax, oMin, oPlus, oEqX, oNeX, eqX_int, eqX_str, eqX_bl, oCmp, oLtX, oLeX, oGtX, oGeX, oIxX, oInX, wCB, wCons, wNil, wVar, wMove, nth, put, startR, wNext, wRet, wRetN, wDrop, wFor, wiR1, wiR2, wiX, itemsOf, wgName, wgTup, wgCons, wgNil, wLend, wLendT, seeR_cons, seeR_nil, seeO_d, seeO_none, seeO_ol, seeO_od, wJoin, wM, oAppend, oPop, oPopAt, wDPut, wDPop, wSortK, wDict0, wTup, wLst, wCall, wAnd, wOr, wNot, wAndV, wOrV, wNotV, wIf, wYes, wLc, wiEnumX, oListX, oTuple, oSort, oSortSet, oAll, oAny, S.fz, S.own, D.flat, txts_map, bools_map, txtKeys_map, List.length_map, List.map_cons, List.map_nil, List.length_cons, List.length_nil, List.cons_append, List.nil_append, List.replicate, decide_eq_true_eq, Bool.not_eq_true', Bool.not_true, Bool.not_false, if_true, if_false, Nat.zero_add, Nat.reduceAdd, Nat.reduceSub, ge_iff_le, true_and, and_true, zip_unzip, Bool.false_xor, Bool.true_xor, Bool.false_eq_true, Bool.true_eq_false, reduceIte, wipeR, dataR_cons, dataR_nil, dataO_d, dataO_none, dataO_ol, dataO_od, oDict, oIsi, tyD, isiB, wSl, wPart, wNoP, oSl, wDisp1, wDGet2, oRemove, atI_0, atI_1, atI_2, wiRev, revItems, oDictP, wForK, wiKeys, kD, oSortX, oPow, oBitAnd, oShl, oNeg, wUn, oInt, oStr, oDivmod, oIs, isD, wChain, wFz, wFzE, frzR, wLSet, wiZip, seqsD, wiVals, wiItems, wOIx, wNo, Option.isSome_some, oMulX, wM1, oSplit, oPart, oStrip1, oRep, oSum, intsD, wRaise, wLI, wLK
, wiR3, wLR, wDisp, wPairs, oReverse, oClear, oInsert, wRevL, wDZ, seqLT, oSortIT, wOFld, wSFld, asOI, setOI, putG, wPar, wiItemsC, wiValsC, wIndexL, wDZO, wLO, wiZip3]
    refine forD_map (I := fun done _ ρ => ∃ o, ρ = [some (.d (.lst (a.map .str))), some (.od (kvO done)), o]) mono_name a (fun done x ys ρ he hI => ?_) (fun ρ hI => ?_) _ ⟨none, rfl⟩
    · obtain ⟨o, rfl⟩ := hI
      simp only [wSeq, wSet, wAsg, wC, wIfS, wB, wOp, oI, oI0, asI, asS, asL, asLT, asT, asB, asA_some, asA_none, asO, asOL, asOD, asKey, asDic, asSq, oLen, oMod, oAdd, oSub, oMul, oDiv, oMax, oMin, oPlus, oEqX, oNeX, eqX_int, eqX_str, eqX_bl, oCmp, oLtX, oLeX, oGtX, oGeX, oIxX, oInX, wCB, wCons, wNil, wVar, wMove, nth, put, startR, wNext, wRet, wRetN, wDrop, wFor, wiR1, wiR2, wiX, itemsOf, wgName, wgTup, wgCons, wgNil, wLend, wLendT, seeR_cons, seeR_nil, seeO_d, seeO_none, seeO_ol, seeO_od, wJoin, wM, oAppend, oPop, oPopAt, wDPut, wDPop, wSortK, wDict0, wTup, wLst, wCall, wAnd, wOr, wNot, wAndV, wOrV, wNotV, wIf, wYes, wLc, wiEnumX, oListX, oTuple, oSort, oSortSet, oAll, oAny, S.fz, S.own, D.flat, txts_map, bools_map, txtKeys_map, List.length_map, List.map_cons, List.map_nil, List.length_cons, List.length_nil, List.cons_append, List.nil_append, List.replicate, decide_eq_true_eq, Bool.not_eq_true', Bool.not_true, Bool.not_false, if_true, if_false, Nat.zero_add, Nat.reduceAdd, Nat.reduceSub, ge_iff_le, true_and, and_true, zip_unzip, Bool.false_xor, Bool.true_xor, Bool.false_eq_true, Bool.true_eq_false, reduceIte, wipeR, dataR_cons, dataR_nil, dataO_d, dataO_none, dataO_ol, dataO_od, oDict, oIsi, tyD, isiB, wSl, wPart, wNoP, oSl, wDisp1, wDGet2, oRemove, atI_0, atI_1, atI_2, wiRev, revItems, oDictP, wForK, wiKeys, kD, oSortX, oPow, oBitAnd, oShl, oNeg, wUn, oInt, oStr, oDivmod, oIs, isD, wChain, wFz, wFzE, frzR, wLSet, wiZip, seqsD, wiVals, wiItems, wOIx, wNo, Option.isSome_some, oMulX, wM1, oSplit, oPart, oStrip1, oRep, oSum, intsD, wRaise, wLI, wLK
, wiR3, wLR, wDisp, wPairs, oReverse, oClear, oInsert, wRevL, wDZ, seqLT, oSortIT, wOFld, wSFld, asOI, setOI, putG, wPar, wiItemsC, wiValsC, wIndexL, wDZO, wLO, wiZip3, vget_kvO]
      have hd := congrArg List.length he
      rw [List.length_append, List.length_cons] at hd
      have := kvO_len done
      exact ⟨by rw [len0]; omega, _, by rw [vput_kvO]⟩
    · obtain ⟨o, rfl⟩ := hI
      simp only [w_L_turned_e82_t2, wSeq, wSet, wAsg, wC, wIfS, wB, wOp, oI, oI0, asI, asS, asL, asLT, asT, asB, asA_some, asA_none, asO, asOL, asOD, asKey, asDic, asSq, oLen, oMod, oAdd, oSub, oMul, oDiv, oMax, oMin, oPlus, oEqX, oNeX, eqX_int, eqX_str, eqX_bl, oCmp, oLtX, oLeX, oGtX, oGeX, oIxX, oInX, wCB, wCons, wNil, wVar, wMove, nth, put, startR, wNext, wRet, wRetN, wDrop, wFor, wiR1, wiR2, wiX, itemsOf, wgName, wgTup, wgCons, wgNil, wLend, wLendT, seeR_cons, seeR_nil, seeO_d, seeO_none, seeO_ol, seeO_od, wJoin, wM, oAppend, oPop, oPopAt, wDPut, wDPop, wSortK, wDict0, wTup, wLst, wCall, wAnd, wOr, wNot, wAndV, wOrV, wNotV, wIf, wYes, wLc, wiEnumX, oListX, oTuple, oSort, oSortSet, oAll, oAny, S.fz, S.own, D.flat, txts_map, bools_map, txtKeys_map, List.length_map, List.map_cons, List.map_nil, List.length_cons, List.length_nil, List.cons_append, List.nil_append, List.replicate, decide_eq_true_eq, Bool.not_eq_true', Bool.not_true, Bool.not_false, if_true, if_false, Nat.zero_add, Nat.reduceAdd, Nat.reduceSub, ge_iff_le, true_and, and_true, zip_unzip, Bool.false_xor, Bool.true_xor, Bool.false_eq_true, Bool.true_eq_false, reduceIte, wipeR, dataR_cons, dataR_nil, dataO_d, dataO_none, dataO_ol, dataO_od, oDict, oIsi, tyD, isiB, wSl, wPart, wNoP, oSl, wDisp1, wDGet2, oRemove, atI_0, atI_1, atI_2, wiRev, revItems, oDictP, wForK, wiKeys, kD, oSortX, oPow, oBitAnd, oShl, oNeg, wUn, oInt, oStr, oDivmod, oIs, isD, wChain, wFz, wFzE, frzR, wLSet, wiZip, seqsD, wiVals, wiItems, wOIx, wNo, Option.isSome_some, oMulX, wM1, oSplit, oPart, oStrip1, oRep, oSum, intsD, wRaise, wLI, wLK
, wiR3, wLR, wDisp, wPairs, oReverse, oClear, oInsert, wRevL, wDZ, seqLT, oSortIT, wOFld, wSFld, asOI, setOI, putG, wPar, wiItemsC, wiValsC, wIndexL, wDZO, wLO, wiZip3]
      have h2 := kvO_len a
      refine ⟨_, _, rfl, by rw [List.length_map, len0]; omega, ?_⟩
      rw [show ((kvO a).map (fun x => x.1)).map kD = (met a).map D.str by unfold kvO; rw [List.map_map, List.map_map]; rfl]
      refine compD_map mono_name (fun p => if oddB (a.count p) = true then some (.str p) else none) (met a) _ (fun p hp Q' hQ => ?_) ?_
      · simp only [wSeq, wSet, wAsg, wC, wIfS, wB, wOp, oI, oI0, asI, asS, asL, asLT, asT, asB, asA_some, asA_none, asO, asOL, asOD, asKey, asDic, asSq, oLen, oMod, oAdd, oSub, oMul, oDiv, oMax, oMin, oPlus, oEqX, oNeX, eqX_int, eqX_str, eqX_bl, oCmp, oLtX, oLeX, oGtX, oGeX, oIxX, oInX, wCB, wCons, wNil, wVar, wMove, nth, put, startR, wNext, wRet, wRetN, wDrop, wFor, wiR1, wiR2, wiX, itemsOf, wgName, wgTup, wgCons, wgNil, wLend, wLendT, seeR_cons, seeR_nil, seeO_d, seeO_none, seeO_ol, seeO_od, wJoin, wM, oAppend, oPop, oPopAt, wDPut, wDPop, wSortK, wDict0, wTup, wLst, wCall, wAnd, wOr, wNot, wAndV, wOrV, wNotV, wIf, wYes, wLc, wiEnumX, oListX, oTuple, oSort, oSortSet, oAll, oAny, S.fz, S.own, D.flat, txts_map, bools_map, txtKeys_map, List.length_map, List.map_cons, List.map_nil, List.length_cons, List.length_nil, List.cons_append, List.nil_append, List.replicate, decide_eq_true_eq, Bool.not_eq_true', Bool.not_true, Bool.not_false, if_true, if_false, Nat.zero_add, Nat.reduceAdd, Nat.reduceSub, ge_iff_le, true_and, and_true, zip_unzip, Bool.false_xor, Bool.true_xor, Bool.false_eq_true, Bool.true_eq_false, reduceIte, wipeR, dataR_cons, dataR_nil, dataO_d, dataO_none, dataO_ol, dataO_od, oDict, oIsi, tyD, isiB, wSl, wPart, wNoP, oSl, wDisp1, wDGet2, oRemove, atI_0, atI_1, atI_2, wiRev, revItems, oDictP, wForK, wiKeys, kD, oSortX, oPow, oBitAnd, oShl, oNeg, wUn, oInt, oStr, oDivmod, oIs, isD, wChain, wFz, wFzE, frzR, wLSet, wiZip, seqsD, wiVals, wiItems, wOIx, wNo, Option.isSome_some, oMulX, wM1, oSplit, oPart, oStrip1, oRep, oSum, intsD, wRaise, wLI, wLK
, wiR3, wLR, wDisp, wPairs, oReverse, oClear, oInsert, wRevL, wDZ, seqLT, oSortIT, wOFld, wSFld, asOI, setOI, putG, wPar, wiItemsC, wiValsC, wIndexL, wDZO, wLO, wiZip3, vget_kvO_in hp, asA_some]
        by_cases z : oddB (a.count p) = true
        · rw [if_pos z] at hQ ⊢; exact hQ
        · rw [if_neg z] at hQ ⊢; exact hQ
      have e3 : (met a).filterMap (fun p => if oddB (a.count p) = true then some (D.str p) else none) = ((met a).filter fun p => oddB (a.count p)).map .str := by
        generalize met a = l
        induction l with
        | nil => rfl
        | cons p l ih => rw [List.filterMap_cons, List.filter_cons, ih]; by_cases z : oddB (a.count p) = true <;> simp [z]
      rw [e3, txts_map, asA_some, gath_met]
      have h3 : ((met a).filter fun p => oddB (a.count p)).length ≤ a.length := Nat.le_trans (List.length_filter_le _ _) (met_len a)
      exact ⟨by rw [len0]; omega, hq⟩
  · exact h.elim
def sp_L_times_593 : DSp := sp_multiplied
abbrev N_L_times_593 : List Str := ["_law_one", "_law_other", "_law_products", "_law_product", "_law_factor"]
def w_L_times_593_t2 : WS := (wRet (wCall sp_L_turned_e82 (fun _ _ => False) (wCons (wVar 2) wNil)))
def w_L_times_593_t1 : WS := wSeq (wFor (wiX (wVar 0)) (wgName 3)
      (wFor (wiX (wVar 1)) (wgName 4)
      (wDrop (wM 2 oAppend (wCons (wJoin (wC (.str "")) (wCB oSortSet (wCons (wOp oPlus (wVar 3) (wVar 4)) wNil))) wNil)))))
    w_L_times_593_t2
def w_L_times_593 : WS := wSeq (wSet 2 (wLst wNil))
    w_L_times_593_t1
theorem len_L_times_593 {ds Q px} (h : sp_L_times_593 ds Q px) : ds.length = 2 := len_multiplied h
theorem rd_L_times_593 {ds Q px} (h : sp_L_times_593 ds Q px) : w_L_times_593 ⟨fun _ => Q (.d .non), Q, fun _ => False, fun _ => False⟩ (startR N_L_times_593 ds) := by
  unfold sp_L_times_593 sp_multiplied at h
  split at h
  · obtain ⟨a, rfl, g⟩ := asF_of h
    obtain ⟨b, rfl, ⟨ha, hb⟩, hq⟩ := asF_of g
    clear h g
    unfold w_L_times_593
    simp only [N_L_times_593, fD, w_L_times_593_t1, wSeq, wSet, wAsg, wC, wIfS, wB, wOp, oI, oI0, asI, asS, asL, asLT, asT, asB, asA_some, asA_none, asO, asOL, asOD, asKey, asDic, asSq, oLen, oMod, oAdd, oSub, oMul, oDiv, oMax, oMin, oPlus, oEqX, oNeX, eqX_int, eqX_str, eqX_bl, oCmp, oLtX, oLeX, oGtX, oGeX, oIxX, oInX, wCB, wCons, wNil, wVar, wMove, nth, put, startR, wNext, wRet, wRetN, wDrop, wFor, wiR1, wiR2, wiX, itemsOf, wgName, wgTup, wgCons, wgNil, wLend, wLendT, seeR_cons, seeR_nil, seeO_d, seeO_none, seeO_ol, seeO_od, wJoin, wM, oAppend, oPop, oPopAt, wDPut, wDPop, wSortK, wDict0, wTup, wLst, wCall, wAnd, wOr, wNot, wAndV, wOrV, wNotV, wIf, wYes, wLc, wiEnumX, oListX, oTuple, oSort, oSortSet, oAll, oAny, S.fz, S.own, D.flat, txts_map, bools_map, txtKeys_map, List.length_map, List.map_cons, List.map_nil, List.length_cons, List.length_nil, List.cons_append, List.nil_append, List.replicate, decide_eq_true_eq, Bool.not_eq_true', Bool.not_true, Bool.not_false, if_true, if_false, Nat.zero_add, Nat.reduceAdd, Nat.reduceSub, ge_iff_le, true_and, and_true, zip_unzip, Bool.false_xor, Bool.true_xor, Bool.false_eq_true, Bool.true_eq_false, reduceIte, wipeR, dataR_cons, dataR_nil, dataO_d, dataO_none, dataO_ol, dataO_od, oDict, oIsi, tyD, isiB, wSl, wPart, wNoP, oSl, wDisp1, wDGet2, oRemove, atI_0, atI_1, atI_2, wiRev, revItems, oDictP, wForK, wiKeys, kD, oSortX, oPow, oBitAnd, oShl, oNeg, wUn, oInt, oStr, oDivmod, oIs, isD, wChain, wFz, wFzE, frzR, wLSet, wiZip, seqsD, wiVals, wiItems, wOIx, wNo, Option.isSome_some, oMulX, wM1, oSplit, oPart, oStrip1, oRep, oSum, intsD, wRaise, wLI, wLK
, wiR3, wLR, wDisp, wPairs, oReverse, oClear, oInsert, wRevL, wDZ, seqLT, oSortIT, wOFld, wSFld, asOI, setOI, putG, wPar, wiItemsC, wiValsC, wIndexL, wDZO, wLO, wiZip3]
    have la := ha.len
    have lb := hb.len
    refine ⟨by decide, ?_⟩
    refine forD_map (I := fun done _ ρ => ∃ o1 o2, ρ = [some (.d (.tup (a.map .str))), some (.d (.tup (b.map .str))), some (.ol ((pairsF done b).map .str)), o1, o2]) mono_name a (fun done p ys ρ he hI => ?_) (fun ρ hI => ?_) _ ⟨none, none, rfl⟩
    · obtain ⟨o1, o2, rfl⟩ := hI
      have hp : Prd p := ha.prd p (by rw [he]; simp)
      have l1 := congrArg List.length he
      rw [List.length_append, List.length_cons] at l1
      simp only [fD, wSeq, wSet, wAsg, wC, wIfS, wB, wOp, oI, oI0, asI, asS, asL, asLT, asT, asB, asA_some, asA_none, asO, asOL, asOD, asKey, asDic, asSq, oLen, oMod, oAdd, oSub, oMul, oDiv, oMax, oMin, oPlus, oEqX, oNeX, eqX_int, eqX_str, eqX_bl, oCmp, oLtX, oLeX, oGtX, oGeX, oIxX, oInX, wCB, wCons, wNil, wVar, wMove, nth, put, startR, wNext, wRet, wRetN, wDrop, wFor, wiR1, wiR2, wiX, itemsOf, wgName, wgTup, wgCons, wgNil, wLend, wLendT, seeR_cons, seeR_nil, seeO_d, seeO_none, seeO_ol, seeO_od, wJoin, wM, oAppend, oPop, oPopAt, wDPut, wDPop, wSortK, wDict0, wTup, wLst, wCall, wAnd, wOr, wNot, wAndV, wOrV, wNotV, wIf, wYes, wLc, wiEnumX, oListX, oTuple, oSort, oSortSet, oAll, oAny, S.fz, S.own, D.flat, txts_map, bools_map, txtKeys_map, List.length_map, List.map_cons, List.map_nil, List.length_cons, List.length_nil, List.cons_append, List.nil_append, List.replicate, decide_eq_true_eq, Bool.not_eq_true', Bool.not_true, Bool.not_false, if_true, if_false, Nat.zero_add, Nat.reduceAdd, Nat.reduceSub, ge_iff_le, true_and, and_true, zip_unzip, Bool.false_xor, Bool.true_xor, Bool.false_eq_true, Bool.true_eq_false, reduceIte, wipeR, dataR_cons, dataR_nil, dataO_d, dataO_none, dataO_ol, dataO_od, oDict, oIsi, tyD, isiB, wSl, wPart, wNoP, oSl, wDisp1, wDGet2, oRemove, atI_0, atI_1, atI_2, wiRev, revItems, oDictP, wForK, wiKeys, kD, oSortX, oPow, oBitAnd, oShl, oNeg, wUn, oInt, oStr, oDivmod, oIs, isD, wChain, wFz, wFzE, frzR, wLSet, wiZip, seqsD, wiVals, wiItems, wOIx, wNo, Option.isSome_some, oMulX, wM1, oSplit, oPart, oStrip1, oRep, oSum, intsD, wRaise, wLI, wLK
, wiR3, wLR, wDisp, wPairs, oReverse, oClear, oInsert, wRevL, wDZ, seqLT, oSortIT, wOFld, wSFld, asOI, setOI, putG, wPar, wiItemsC, wiValsC, wIndexL, wDZO, wLO, wiZip3]
      refine forD_map (I := fun done2 _ ρ => ∃ o2, ρ = [some (.d (.tup (a.map .str))), some (.d (.tup (b.map .str))), some (.ol ((pairsF done b ++ done2.map (bothF p)).map .str)), some (.d (.str p)), o2]) mono_name b (fun done2 q ys2 ρ he2 hI => ?_) (fun ρ hI => ?_) _ ⟨o2, by rw [List.map_nil, List.append_nil]⟩
      · obtain ⟨o2, rfl⟩ := hI
        have hq2 : Prd q := hb.prd q (by rw [he2]; simp)
        have l2 := congrArg List.length he2
        rw [List.length_append, List.length_cons] at l2
        have hp9 := hp.len
        have hq9 := hq2.len
        have e : (sg (p ++ q)).length ≤ 18 := by rw [sg_append, List.length_append]; omega
        simp only [wSeq, wSet, wAsg, wC, wIfS, wB, wOp, oI, oI0, asI, asS, asL, asLT, asT, asB, asA_some, asA_none, asO, asOL, asOD, asKey, asDic, asSq, oLen, oMod, oAdd, oSub, oMul, oDiv, oMax, oMin, oPlus, oEqX, oNeX, eqX_int, eqX_str, eqX_bl, oCmp, oLtX, oLeX, oGtX, oGeX, oIxX, oInX, wCB, wCons, wNil, wVar, wMove, nth, put, startR, wNext, wRet, wRetN, wDrop, wFor, wiR1, wiR2, wiX, itemsOf, wgName, wgTup, wgCons, wgNil, wLend, wLendT, seeR_cons, seeR_nil, seeO_d, seeO_none, seeO_ol, seeO_od, wJoin, wM, oAppend, oPop, oPopAt, wDPut, wDPop, wSortK, wDict0, wTup, wLst, wCall, wAnd, wOr, wNot, wAndV, wOrV, wNotV, wIf, wYes, wLc, wiEnumX, oListX, oTuple, oSort, oSortSet, oAll, oAny, S.fz, S.own, D.flat, txts_map, bools_map, txtKeys_map, List.length_map, List.map_cons, List.map_nil, List.length_cons, List.length_nil, List.cons_append, List.nil_append, List.replicate, decide_eq_true_eq, Bool.not_eq_true', Bool.not_true, Bool.not_false, if_true, if_false, Nat.zero_add, Nat.reduceAdd, Nat.reduceSub, ge_iff_le, true_and, and_true, zip_unzip, Bool.false_xor, Bool.true_xor, Bool.false_eq_true, Bool.true_eq_false, reduceIte, wipeR, dataR_cons, dataR_nil, dataO_d, dataO_none, dataO_ol, dataO_od, oDict, oIsi, tyD, isiB, wSl, wPart, wNoP, oSl, wDisp1, wDGet2, oRemove, atI_0, atI_1, atI_2, wiRev, revItems, oDictP, wForK, wiKeys, kD, oSortX, oPow, oBitAnd, oShl, oNeg, wUn, oInt, oStr, oDivmod, oIs, isD, wChain, wFz, wFzE, frzR, wLSet, wiZip, seqsD, wiVals, wiItems, wOIx, wNo, Option.isSome_some, oMulX, wM1, oSplit, oPart, oStrip1, oRep, oSum, intsD, wRaise, wLI, wLK
, wiR3, wLR, wDisp, wPairs, oReverse, oClear, oInsert, wRevL, wDZ, seqLT, oSortIT, wOFld, wSFld, asOI, setOI, putG, wPar, wiItemsC, wiValsC, wIndexL, wDZO, wLO, wiZip3]
        refine ⟨by rw [len0, sg_len, sg_len]; omega, by rw [sg_len]; show _ < 4096; omega, lets_fit (by omega), ?_, some (.d (.str q)), ?_⟩
        · rw [List.length_append, List.length_map, pairs_len, len0]
          have : done.length * b.length ≤ 512 * 512 := Nat.mul_le_mul (by omega) lb
          omega
        · simp only [List.map_append, List.map_cons, List.map_nil, List.append_assoc]
          rfl
      · obtain ⟨o2, rfl⟩ := hI
        exact ⟨_, _, by rw [pairsF_snoc]⟩
    · obtain ⟨o1, o2, rfl⟩ := hI
      simp only [w_L_times_593_t2, wSeq, wSet, wAsg, wC, wIfS, wB, wOp, oI, oI0, asI, asS, asL, asLT, asT, asB, asA_some, asA_none, asO, asOL, asOD, asKey, asDic, asSq, oLen, oMod, oAdd, oSub, oMul, oDiv, oMax, oMin, oPlus, oEqX, oNeX, eqX_int, eqX_str, eqX_bl, oCmp, oLtX, oLeX, oGtX, oGeX, oIxX, oInX, wCB, wCons, wNil, wVar, wMove, nth, put, startR, wNext, wRet, wRetN, wDrop, wFor, wiR1, wiR2, wiX, itemsOf, wgName, wgTup, wgCons, wgNil, wLend, wLendT, seeR_cons, seeR_nil, seeO_d, seeO_none, seeO_ol, seeO_od, wJoin, wM, oAppend, oPop, oPopAt, wDPut, wDPop, wSortK, wDict0, wTup, wLst, wCall, wAnd, wOr, wNot, wAndV, wOrV, wNotV, wIf, wYes, wLc, wiEnumX, oListX, oTuple, oSort, oSortSet, oAll, oAny, S.fz, S.own, D.flat, txts_map, bools_map, txtKeys_map, List.length_map, List.map_cons, List.map_nil, List.length_cons, List.length_nil, List.cons_append, List.nil_append, List.replicate, decide_eq_true_eq, Bool.not_eq_true', Bool.not_true, Bool.not_false, if_true, if_false, Nat.zero_add, Nat.reduceAdd, Nat.reduceSub, ge_iff_le, true_and, and_true, zip_unzip, Bool.false_xor, Bool.true_xor, Bool.false_eq_true, Bool.true_eq_false, reduceIte, wipeR, dataR_cons, dataR_nil, dataO_d, dataO_none, dataO_ol, dataO_od, oDict, oIsi, tyD, isiB, wSl, wPart, wNoP, oSl, wDisp1, wDGet2, oRemove, atI_0, atI_1, atI_2, wiRev, revItems, oDictP, wForK, wiKeys, kD, oSortX, oPow, oBitAnd, oShl, oNeg, wUn, oInt, oStr, oDivmod, oIs, isD, wChain, wFz, wFzE, frzR, wLSet, wiZip, seqsD, wiVals, wiItems, wOIx, wNo, Option.isSome_some, oMulX, wM1, oSplit, oPart, oStrip1, oRep, oSum, intsD, wRaise, wLI, wLK
, wiR3, wLR, wDisp, wPairs, oReverse, oClear, oInsert, wRevL, wDZ, seqLT, oSortIT, wOFld, wSFld, asOI, setOI, putG, wPar, wiItemsC, wiValsC, wIndexL, wDZO, wLO, wiZip3, sp_L_turned_e82, pairs_len]
      refine ⟨?_, hq⟩
      have : a.length * b.length ≤ 512 * 512 := Nat.mul_le_mul la lb
      omega
  · exact h.elim
end DL
namespace DL
open PySem L2
end DL
namespace DL
open PySem L2
def hv (ls : List Nat) (f : List Str) (c : Nat) (b : Bool) : List Bool := tabV ls (fun r => val (updR r c b) f) fun _ => false
structure GapOk (f : List Str) (c : Nat) (s : Str) : Prop where
  frm : Frm f
  ov : ∀ p ∈ f, ∀ d ∈ sg p, d ∈ c :: sg s
  ns : c ∉ sg s
  ps : Prd s
  len : (sg s).length ≤ 8
  le : c ∈ LET
theorem GapOk.nd {f : List Str} {c : Nat} {s : Str} (h : GapOk f c s) : (c :: sg s).Nodup := List.nodup_cons.mpr ⟨h.ns, up_nodup h.ps.up⟩
theorem GapOk.fixF {f : List Str} {c : Nat} {s : Str} (G : GapOk f c s) (b : Bool) : Frm (fixF f c b) ∧ ∀ p ∈ fixF f c b, ∀ d ∈ sg p, d ∈ sg s :=
  ⟨frm_fix G.frm, fun p hp d hd => by
    have := overP_fix (c := c) (t := b) (T := fun d => d ∈ c :: sg s) G.ov p hp d hd
    exact (List.mem_cons.mp this.1).resolve_left this.2⟩
theorem fm_zip (φ : Bool → Bool → Bool) (l m : List Bool) : (l.zip m).filterMap (fun p => some (D.bl (φ p.1 p.2))) = (List.zipWith φ l m).map .bl := by
  induction l generalizing m with
  | nil => rfl
  | cons x l ih => cases m with
    | nil => rfl
    | cons y m => rw [List.zip_cons_cons, List.zipWith_cons_cons, List.map_cons, List.filterMap_cons, ih]
theorem fm_blsG {α : Type} (g : α → Bool) (l : List α) : l.filterMap (fun x => some (D.bl (g x))) = (l.map g).map .bl := by rw [List.map_map, ← List.filterMap_eq_map]; rfl
theorem zip_bls (l m : List Bool) : zipD (l.map D.bl) (m.map D.bl) = (l.zip m).map fun p => D.tup [.bl p.1, .bl p.2] := by
  unfold zipD; rw [List.zip_map, List.map_map]; rfl
end DL
namespace DL
open PySem L2
def sp_L_form_898 : DSp := sp_L_form_ebc
abbrev N_L_form_898 : List Str := ["_law_numbers_here", "_law_letters_here", "_law_held", "_law_number", "_law_rest", "_law_product", "_law_letter"]
def w_L_form_898_b1_t1 : WS := (wAsg (wOp oDiv (wVar 4) (wC (.int 2))) (wgName 4))
def w_L_form_898_b1 : WS := wSeq (wIfS (wB (wOp oEqX (wOp oMod (wVar 4) (wC (.int 2))) (wC (.int 1)))) (wAsg (wOp oPlus (wVar 5) (wVar 6)) (wgName 5)) wNext)
    w_L_form_898_b1_t1
def w_L_form_898_b2_t3 : WS := (wIfS (wLendT (wB (wOp (oInX false) (wVar 5) (wVar 2)))) (wDrop (wM 2 oRemove (wCons (wVar 5) wNil))) (wDrop (wM 2 oAppend (wCons (wVar 5) wNil))))
def w_L_form_898_b2_t2 : WS := wSeq (wFor (wiX (wVar 1)) (wgName 6)
      w_L_form_898_b1)
    w_L_form_898_b2_t3
def w_L_form_898_b2_t1 : WS := wSeq (wAsg (wC (.str "")) (wgName 5))
    w_L_form_898_b2_t2
def w_L_form_898_b2 : WS := wSeq (wAsg (wVar 3) (wgName 4))
    w_L_form_898_b2_t1
def w_L_form_898_t2 : WS := (wRet (wCB oTuple (wCons (wCB oSortX (wCons (wVar 2) wNil)) wNil)))
def w_L_form_898_t1 : WS := wSeq (wFor (wiX (wVar 0)) (wgName 3)
      w_L_form_898_b2)
    w_L_form_898_t2
def w_L_form_898 : WS := wSeq (wSet 2 (wLst wNil))
    w_L_form_898_t1
theorem len_L_form_898 {ds Q px} (h : sp_L_form_898 ds Q px) : ds.length = 2 := len_L_form_ebc h
theorem rd_L_form_898 {ds Q px} (h : sp_L_form_898 ds Q px) : w_L_form_898 ⟨fun _ => Q (.d .non), Q, fun _ => False, fun _ => False⟩ (startR N_L_form_898 ds) := rd_L_form_ebc h
def sp_L_table_9dd : DSp := sp_L_table_bc0
abbrev N_L_table_9dd : List Str := ["_law_form_here", "_law_letters_here", "_law_places", "_law_size", "_law_letter", "_law_table_here", "_law_product", "_law_step", "_law_start", "_law_k"]
def w_L_table_9dd_b1_t1 : WS := (wAsg (wOp oPlus (wVar 3) (wVar 3)) (wgName 3))
def w_L_table_9dd_b1 : WS := wSeq (wDPut 2 (wVar 4) (wVar 3))
    w_L_table_9dd_b1_t1
def w_L_table_9dd_b2_t1 : WS := (wFor (wiR3 (wCons (wVar 7) (wCons (wVar 3) (wCons (wOp oPlus (wVar 7) (wVar 7)) wNil)))) (wgName 8)
      (wFor (wiR2 (wCons (wVar 8) (wCons (wOp oPlus (wVar 8) (wVar 7)) wNil))) (wgName 9)
      (wLSet 5 (wVar 9) (wLend (wOp oNeX (wOp oIxX (wVar 5) (wVar 9)) (wOp oIxX (wVar 5) (wOp oSub (wVar 9) (wVar 7))))))))
def w_L_table_9dd_b2 : WS := wSeq (wAsg (wOp oIxX (wVar 2) (wVar 4)) (wgName 7))
    w_L_table_9dd_b2_t1
def w_L_table_9dd_t6 : WS := (wRet (wMove 5))
def w_L_table_9dd_t5 : WS := wSeq (wFor (wiX (wVar 1)) (wgName 4)
      w_L_table_9dd_b2)
    w_L_table_9dd_t6
def w_L_table_9dd_t4 : WS := wSeq (wFz 2 (wFor (wiX (wVar 0)) (wgName 6)
      (wLSet 5 (wCB oSum (wCons (wLc (wiX (wVar 6)) (wgName 4) wYes (wOp oIxX (wVar 2) (wVar 4)) [4]) wNil)) (wC (.bl true)))))
    w_L_table_9dd_t5
def w_L_table_9dd_t3 : WS := wSeq (wSet 5 (wOp oRep (wLst (wCons (wC (.bl false)) wNil)) (wVar 3)))
    w_L_table_9dd_t4
def w_L_table_9dd_t2 : WS := wSeq (wFor (wiRev (wVar 1)) (wgName 4)
      w_L_table_9dd_b1)
    w_L_table_9dd_t3
def w_L_table_9dd_t1 : WS := wSeq (wAsg (wC (.int 1)) (wgName 3))
    w_L_table_9dd_t2
def w_L_table_9dd : WS := wSeq (wSet 2 wDict0)
    w_L_table_9dd_t1
theorem len_L_table_9dd {ds Q px} (h : sp_L_table_9dd ds Q px) : ds.length = 2 := len_L_table_bc0 h
theorem rd_L_table_9dd {ds Q px} (h : sp_L_table_9dd ds Q px) : w_L_table_9dd ⟨fun _ => Q (.d .non), Q, fun _ => False, fun _ => False⟩ (startR N_L_table_9dd ds) := rd_L_table_bc0 h
def sp_L_letters_1c0 : DSp := fun ds P _ => match ds with
  | [.int n] => 0 ≤ n ∧ ∀ s : Str, Prd s → P (.d (.str s))
  | _ => False
abbrev N_L_letters_1c0 : List Str := ["_law_head", "_law_left", "_law_rest", "_law_k"]
def w_L_letters_1c0_b1_t1 : WS := (wAsg (wOp oDiv (wVar 2) (wC (.int 9))) (wgName 2))
def w_L_letters_1c0_b1 : WS := wSeq (wDrop (wM 1 oPopAt (wCons (wOp oMod (wVar 2) (wLend (wCB oLen (wCons (wVar 1) wNil)))) wNil)))
    w_L_letters_1c0_b1_t1
def w_L_letters_1c0_t3 : WS := (wRet (wLend (wJoin (wC (.str "")) (wVar 1))))
def w_L_letters_1c0_t2 : WS := wSeq (wFor (wiR1 (wCons (wOp oMod (wVar 0) (wC (.int 3))) wNil)) (wgName 3)
      w_L_letters_1c0_b1)
    w_L_letters_1c0_t3
def w_L_letters_1c0_t1 : WS := wSeq (wAsg (wOp oDiv (wVar 0) (wC (.int 3))) (wgName 2))
    w_L_letters_1c0_t2
def w_L_letters_1c0 : WS := wSeq (wSet 1 (wCB oListX (wCons (wC (.str "abcpqrxyz")) wNil)))
    w_L_letters_1c0_t1
theorem len_L_letters_1c0 {ds Q px} (h : sp_L_letters_1c0 ds Q px) : ds.length = 1 := by unfold sp_L_letters_1c0 at h; split at h <;> first | rfl | exact h.elim
theorem rd_L_letters_1c0 {ds Q px} (h : sp_L_letters_1c0 ds Q px) : w_L_letters_1c0 ⟨fun _ => Q (.d .non), Q, fun _ => False, fun _ => False⟩ (startR N_L_letters_1c0 ds) := by
  unfold sp_L_letters_1c0 at h
  split at h
  · rename_i n
    obtain ⟨h1, hq⟩ := h
    have e0 : signs "abcpqrxyz" = LET.map one := by
      rw [signs_eq]
      have : sg "abcpqrxyz" = LET := by decide +kernel
      rw [this]
    unfold w_L_letters_1c0
    simp only [N_L_letters_1c0, w_L_letters_1c0_t1, w_L_letters_1c0_t2, wSeq, wSet, wAsg, wC, wIfS, wB, wOp, oI, oI0, asI, asS, asL, asLT, asT, asB, asA_some, asA_none, asO, asOL, asOD, asKey, asDic, asSq, oLen, oMod, oAdd, oSub, oMul, oDiv, oMax, oMin, oPlus, oEqX, oNeX, eqX_int, eqX_str, eqX_bl, oCmp, oLtX, oLeX, oGtX, oGeX, oIxX, oInX, wCB, wCons, wNil, wVar, wMove, nth, put, startR, wNext, wRet, wRetN, wDrop, wFor, wiR1, wiR2, wiX, itemsOf, wgName, wgTup, wgCons, wgNil, wLend, wLendT, seeR_cons, seeR_nil, seeO_d, seeO_none, seeO_ol, seeO_od, wJoin, wM, oAppend, oPop, oPopAt, wDPut, wDPop, wSortK, wDict0, wTup, wLst, wCall, wAnd, wOr, wNot, wAndV, wOrV, wNotV, wIf, wYes, wLc, wiEnumX, oListX, oTuple, oSort, oSortSet, oAll, oAny, S.fz, S.own, D.flat, txts_map, bools_map, txtKeys_map, List.length_map, List.map_cons, List.map_nil, List.length_cons, List.length_nil, List.cons_append, List.nil_append, List.replicate, decide_eq_true_eq, Bool.not_eq_true', Bool.not_true, Bool.not_false, if_true, if_false, Nat.zero_add, Nat.reduceAdd, Nat.reduceSub, ge_iff_le, true_and, and_true, zip_unzip, Bool.false_xor, Bool.true_xor, Bool.false_eq_true, Bool.true_eq_false, reduceIte, wipeR, dataR_cons, dataR_nil, dataO_d, dataO_none, dataO_ol, dataO_od, oDict, oIsi, tyD, isiB, wSl, wPart, wNoP, oSl, wDisp1, wDGet2, oRemove, atI_0, atI_1, atI_2, wiRev, revItems, oDictP, wForK, wiKeys, kD, oSortX, oPow, oBitAnd, oShl, oNeg, wUn, oInt, oStr, oDivmod, oIs, isD, wChain, wFz, wFzE, frzR, wLSet, wiZip, seqsD, wiVals, wiItems, wOIx, wNo, Option.isSome_some, oMulX, wM1, oSplit, oPart, oStrip1, oRep, oSum, intsD, wRaise, wLI, wLK
, wiR3, wLR, wDisp, wPairs, oReverse, oClear, oInsert, wRevL, wDZ, seqLT, oSortIT, wOFld, wSFld, asOI, setOI, putG, wPar, wiItemsC, wiValsC, wIndexL, wDZO, wLO, wiZip3]
    have m0 := Int.emod_nonneg n (show (3 : Int) ≠ 0 by decide)
    have m1 := Int.emod_lt_of_pos n (show (0 : Int) < 3 by decide)
    obtain ⟨M, hM, hM3⟩ : ∃ M : Nat, n % 3 = (M : Int) ∧ M < 3 := ⟨(n % 3).toNat, by omega, by omega⟩
    rw [hM, rangeD_map, Int.toNat_natCast]
    refine ⟨by decide +kernel, ⟨by decide, by decide⟩, by decide, ⟨by omega, by omega⟩, ?_⟩
    refine forD_map (I := fun done _ ρ => ∃ (z : Int) (cs : List Nat) (o2 : Option S), 9 ≤ cs.length + done.length ∧ cs.Sublist LET ∧ ρ = [some (.d (.int n)), some (.ol ((cs.map one).map .str)), some (.d (.int z)), o2]) mono_name (List.range M) (fun done j ys ρ he hI => ?_) (fun ρ hI => ?_) _ ⟨n / 3, LET, none, by decide, List.Sublist.refl _, by rw [← e0]⟩
    · obtain ⟨z, cs, o2, hc9, hl, rfl⟩ := hI
      have hdl : done.length < 3 := by
        have := congrArg List.length he
        rw [List.length_append, List.length_cons, List.length_range] at this
        omega
      simp only [w_L_letters_1c0_b1, w_L_letters_1c0_b1_t1, wSeq, wSet, wAsg, wC, wIfS, wB, wOp, oI, oI0, asI, asS, asL, asLT, asT, asB, asA_some, asA_none, asO, asOL, asOD, asKey, asDic, asSq, oLen, oMod, oAdd, oSub, oMul, oDiv, oMax, oMin, oPlus, oEqX, oNeX, eqX_int, eqX_str, eqX_bl, oCmp, oLtX, oLeX, oGtX, oGeX, oIxX, oInX, wCB, wCons, wNil, wVar, wMove, nth, put, startR, wNext, wRet, wRetN, wDrop, wFor, wiR1, wiR2, wiX, itemsOf, wgName, wgTup, wgCons, wgNil, wLend, wLendT, seeR_cons, seeR_nil, seeO_d, seeO_none, seeO_ol, seeO_od, wJoin, wM, oAppend, oPop, oPopAt, wDPut, wDPop, wSortK, wDict0, wTup, wLst, wCall, wAnd, wOr, wNot, wAndV, wOrV, wNotV, wIf, wYes, wLc, wiEnumX, oListX, oTuple, oSort, oSortSet, oAll, oAny, S.fz, S.own, D.flat, txts_map, bools_map, txtKeys_map, List.length_map, List.map_cons, List.map_nil, List.length_cons, List.length_nil, List.cons_append, List.nil_append, List.replicate, decide_eq_true_eq, Bool.not_eq_true', Bool.not_true, Bool.not_false, if_true, if_false, Nat.zero_add, Nat.reduceAdd, Nat.reduceSub, ge_iff_le, true_and, and_true, zip_unzip, Bool.false_xor, Bool.true_xor, Bool.false_eq_true, Bool.true_eq_false, reduceIte, wipeR, dataR_cons, dataR_nil, dataO_d, dataO_none, dataO_ol, dataO_od, oDict, oIsi, tyD, isiB, wSl, wPart, wNoP, oSl, wDisp1, wDGet2, oRemove, atI_0, atI_1, atI_2, wiRev, revItems, oDictP, wForK, wiKeys, kD, oSortX, oPow, oBitAnd, oShl, oNeg, wUn, oInt, oStr, oDivmod, oIs, isD, wChain, wFz, wFzE, frzR, wLSet, wiZip, seqsD, wiVals, wiItems, wOIx, wNo, Option.isSome_some, oMulX, wM1, oSplit, oPart, oStrip1, oRep, oSum, intsD, wRaise, wLI, wLK
, wiR3, wLR, wDisp, wPairs, oReverse, oClear, oInsert, wRevL, wDZ, seqLT, oSortIT, wOFld, wSFld, asOI, setOI, putG, wPar, wiItemsC, wiValsC, wIndexL, wDZO, wLO, wiZip3]
      have hm : 0 < (cs.length : Int) := by omega
      have r0 := Int.emod_nonneg z (show (cs.length : Int) ≠ 0 by omega)
      have r1 := Int.emod_lt_of_pos z hm
      have hj : (z % (cs.length : Int)).toNat < cs.length := by omega
      have e1 : seqIndex? (z % (cs.length : Int)) cs.length = some (z % (cs.length : Int)).toNat := seqIndex_of r0 r1
      have l9 := hl.length_le
      have e9 : LET.length = 9 := rfl
      refine ⟨hm, ⟨by omega, by omega⟩, ?_⟩
      rw [e1, asA_some, List.getElem?_map, List.getElem?_map, List.getElem?_eq_getElem hj]
      refine ⟨⟨by decide, by decide⟩, z / 9, cs.eraseIdx (z % (cs.length : Int)).toNat, some (.d (.int (j : Int))), ?_, (List.eraseIdx_sublist _ _).trans hl, ?_⟩
      · rw [List.length_eraseIdx_of_lt hj, List.length_append, List.length_singleton]; omega
      · rw [erase_map, erase_map]
    · obtain ⟨z, cs, o2, hc9, hl, rfl⟩ := hI
      have l9 := hl.length_le
      have e9 : LET.length = 9 := rfl
      simp only [w_L_letters_1c0_t3, wSeq, wSet, wAsg, wC, wIfS, wB, wOp, oI, oI0, asI, asS, asL, asLT, asT, asB, asA_some, asA_none, asO, asOL, asOD, asKey, asDic, asSq, oLen, oMod, oAdd, oSub, oMul, oDiv, oMax, oMin, oPlus, oEqX, oNeX, eqX_int, eqX_str, eqX_bl, oCmp, oLtX, oLeX, oGtX, oGeX, oIxX, oInX, wCB, wCons, wNil, wVar, wMove, nth, put, startR, wNext, wRet, wRetN, wDrop, wFor, wiR1, wiR2, wiX, itemsOf, wgName, wgTup, wgCons, wgNil, wLend, wLendT, seeR_cons, seeR_nil, seeO_d, seeO_none, seeO_ol, seeO_od, wJoin, wM, oAppend, oPop, oPopAt, wDPut, wDPop, wSortK, wDict0, wTup, wLst, wCall, wAnd, wOr, wNot, wAndV, wOrV, wNotV, wIf, wYes, wLc, wiEnumX, oListX, oTuple, oSort, oSortSet, oAll, oAny, S.fz, S.own, D.flat, txts_map, bools_map, txtKeys_map, List.length_map, List.map_cons, List.map_nil, List.length_cons, List.length_nil, List.cons_append, List.nil_append, List.replicate, decide_eq_true_eq, Bool.not_eq_true', Bool.not_true, Bool.not_false, if_true, if_false, Nat.zero_add, Nat.reduceAdd, Nat.reduceSub, ge_iff_le, true_and, and_true, zip_unzip, Bool.false_xor, Bool.true_xor, Bool.false_eq_true, Bool.true_eq_false, reduceIte, wipeR, dataR_cons, dataR_nil, dataO_d, dataO_none, dataO_ol, dataO_od, oDict, oIsi, tyD, isiB, wSl, wPart, wNoP, oSl, wDisp1, wDGet2, oRemove, atI_0, atI_1, atI_2, wiRev, revItems, oDictP, wForK, wiKeys, kD, oSortX, oPow, oBitAnd, oShl, oNeg, wUn, oInt, oStr, oDivmod, oIs, isD, wChain, wFz, wFzE, frzR, wLSet, wiZip, seqsD, wiVals, wiItems, wOIx, wNo, Option.isSome_some, oMulX, wM1, oSplit, oPart, oStrip1, oRep, oSum, intsD, wRaise, wLI, wLK
, wiR3, wLR, wDisp, wPairs, oReverse, oClear, oInsert, wRevL, wDZ, seqLT, oSortIT, wOFld, wSFld, asOI, setOI, putG, wPar, wiItemsC, wiValsC, wIndexL, wDZO, wLO, wiZip3]
      have e3 : Str.length "" = 0 := by decide +kernel
      refine ⟨?_, hq _ (prd_ones (LET_up.sublist hl) fun c hc => hl.subset hc)⟩
      rw [ones_sum]; show _ + _ * Str.length "" ≤ _; rw [e3]; omega
  · exact h.elim
theorem zip_fst_sub {α β : Type} : ∀ (l : List α) (m : List β), ((l.zip m).map (·.1)).Sublist l
  | [], _ => List.nil_sublist _
  | a :: l, [] => List.nil_sublist _
  | a :: l, b :: m => by rw [List.zip_cons_cons, List.map_cons]; exact (zip_fst_sub l m).cons₂ _
theorem zip_ti (l : List Nat) (m : List Int) : zipD (l.map fun c => D.str (one c)) (m.map .int) = (l.zip m).map fun p => .tup [.str (one p.1), .int p.2] := by
  unfold zipD; rw [List.zip_map, List.map_map]; rfl
def sp_L_parts_bdf : DSp := fun ds P _ => match ds with
  | [.str s, .lst xs] => asA (intsD xs) fun ns => (Prd s ∧ ns.length ≤ 64) ∧ ∀ a b c : Str, Prd a → Prd b → Prd c → (∀ d ∈ sg a, d ∈ sg s) → (∀ d ∈ sg b, d ∈ sg s) → (∀ d ∈ sg c, d ∈ sg s) → Apart a b → Apart a c → P (.ol [.str a, .str b, .str c])
  | _ => False
abbrev N_L_parts_bdf : List Str := ["_law_letters_here", "_law_numbers_here", "_law_parts_here", "_law_letter", "_law_number", "_law_which"]
def w_L_parts_bdf_b1_t2 : WS := (wLSet 2 (wVar 5) (wOp oPlus (wOIx 2 (wVar 5)) (wVar 3)))
def w_L_parts_bdf_b1_t1 : WS := wSeq (wIfS (wLendT (wB (wOp oNeX (wOp oIxX (wVar 2) (wVar 5)) (wC (.str ""))))) (wAsg (wC (.int 0)) (wgName 5)) wNext)
    w_L_parts_bdf_b1_t2
def w_L_parts_bdf_b1 : WS := wSeq (wAsg (wOp oIxX (wLst (wCons (wC (.int 0)) (wCons (wC (.int 0)) (wCons (wC (.int 0)) (wCons (wC (.int 0)) (wCons (wC (.int 1)) (wCons (wC (.int 2)) wNil))))))) (wOp oMod (wVar 4) (wC (.int 6)))) (wgName 5))
    w_L_parts_bdf_b1_t1
def w_L_parts_bdf_t2 : WS := (wRet (wMove 2))
def w_L_parts_bdf_t1 : WS := wSeq (wFor (wiZip (wCons (wVar 0) (wCons (wVar 1) wNil))) (wgTup 2 (wgCons (wgName 3) (wgCons (wgName 4) wgNil)))
      w_L_parts_bdf_b1)
    w_L_parts_bdf_t2
def w_L_parts_bdf : WS := wSeq (wSet 2 (wLst (wCons (wC (.str "")) (wCons (wC (.str "")) (wCons (wC (.str "")) wNil)))))
    w_L_parts_bdf_t1
theorem len_L_parts_bdf {ds Q px} (h : sp_L_parts_bdf ds Q px) : ds.length = 2 := by unfold sp_L_parts_bdf at h; split at h <;> first | rfl | exact h.elim
theorem rd_L_parts_bdf {ds Q px} (h : sp_L_parts_bdf ds Q px) : w_L_parts_bdf ⟨fun _ => Q (.d .non), Q, fun _ => False, fun _ => False⟩ (startR N_L_parts_bdf ds) := by
  unfold sp_L_parts_bdf at h
  split at h
  · rename_i s xs
    obtain ⟨ns, ens, ⟨hs, hns⟩, hq⟩ := asA_of h
    clear h
    have exs := ints_of ens
    subst exs
    unfold w_L_parts_bdf
    simp only [N_L_parts_bdf, w_L_parts_bdf_t1, wSeq, wSet, wAsg, wC, wIfS, wB, wOp, oI, oI0, asI, asS, asL, asLT, asT, asB, asA_some, asA_none, asO, asOL, asOD, asKey, asDic, asSq, oLen, oMod, oAdd, oSub, oMul, oDiv, oMax, oMin, oPlus, oEqX, oNeX, eqX_int, eqX_str, eqX_bl, oCmp, oLtX, oLeX, oGtX, oGeX, oIxX, oInX, wCB, wCons, wNil, wVar, wMove, nth, put, startR, wNext, wRet, wRetN, wDrop, wFor, wiR1, wiR2, wiX, itemsOf, wgName, wgTup, wgCons, wgNil, wLend, wLendT, seeR_cons, seeR_nil, seeO_d, seeO_none, seeO_ol, seeO_od, wJoin, wM, oAppend, oPop, oPopAt, wDPut, wDPop, wSortK, wDict0, wTup, wLst, wCall, wAnd, wOr, wNot, wAndV, wOrV, wNotV, wIf, wYes, wLc, wiEnumX, oListX, oTuple, oSort, oSortSet, oAll, oAny, S.fz, S.own, D.flat, txts_map, bools_map, txtKeys_map, List.length_map, List.map_cons, List.map_nil, List.length_cons, List.length_nil, List.cons_append, List.nil_append, List.replicate, decide_eq_true_eq, Bool.not_eq_true', Bool.not_true, Bool.not_false, if_true, if_false, Nat.zero_add, Nat.reduceAdd, Nat.reduceSub, ge_iff_le, true_and, and_true, zip_unzip, Bool.false_xor, Bool.true_xor, Bool.false_eq_true, Bool.true_eq_false, reduceIte, wipeR, dataR_cons, dataR_nil, dataO_d, dataO_none, dataO_ol, dataO_od, oDict, oIsi, tyD, isiB, wSl, wPart, wNoP, oSl, wDisp1, wDGet2, oRemove, atI_0, atI_1, atI_2, wiRev, revItems, oDictP, wForK, wiKeys, kD, oSortX, oPow, oBitAnd, oShl, oNeg, wUn, oInt, oStr, oDivmod, oIs, isD, wChain, wFz, wFzE, frzR, wLSet, wiZip, seqsD, wiVals, wiItems, wOIx, wNo, Option.isSome_some, oMulX, wM1, oSplit, oPart, oStrip1, oRep, oSum, intsD, wRaise, wLI, wLK
, wiR3, wLR, wDisp, wPairs, oReverse, oClear, oInsert, wRevL, wDZ, seqLT, oSortIT, wOFld, wSFld, asOI, setOI, putG, wPar, wiItemsC, wiValsC, wIndexL, wDZO, wLO, wiZip3]
    have e3 : (signs s).map D.str = (sg s).map fun c => D.str (one c) := by rw [signs_eq, List.map_map]; rfl
    rw [e3, zip_ti]
    refine ⟨by decide, ?_⟩
    refine forD_map (I := fun done _ ρ => ∃ (a b c : Str) (o4 o5 o6 : Option S), PartOk (done.map (·.1)) a ∧ PartOk (done.map (·.1)) b ∧ PartOk (done.map (·.1)) c ∧ Apart a b ∧ Apart a c ∧ Apart b c ∧
      ρ = [some (.d (.str s)), some (.d (.lst (ns.map .int))), some (.ol [.str a, .str b, .str c]), o4, o5, o6]) mono_pair ((sg s).zip ns) (fun done x ys ρ he hI => ?_) (fun ρ hI => ?_) _
      ⟨"", "", "", none, none, none, ⟨by rw [sg_nil]; exact .nil, by rw [sg_nil]; simp⟩, ⟨by rw [sg_nil]; exact .nil, by rw [sg_nil]; simp⟩, ⟨by rw [sg_nil]; exact .nil, by rw [sg_nil]; simp⟩, fun c hc => by rw [sg_nil] at hc; simp at hc, fun c hc => by rw [sg_nil] at hc; simp at hc, fun c hc => by rw [sg_nil] at hc; simp at hc, rfl⟩
    · obtain ⟨a, b, c, o4, o5, o6, pa, pb, pc, ab, ac, bc, rfl⟩ := hI
      have hsub := zip_fst_sub (sg s) ns
      rw [he, List.map_append, List.map_cons] at hsub
      have hup := hs.up.sublist hsub
      have hlt : ∀ d ∈ done.map (·.1), d < x.1 := fun d hd => (List.pairwise_append.mp hup).2.2 d hd x.1 List.mem_cons_self
      have hl9 := hsub.length_le
      rw [List.length_append, List.length_cons] at hl9
      have hsl := hs.len
      have la := pa.len
      have lb := pb.len
      have lc := pc.len
      have fit : ∀ p : Str, (sg p).length ≤ 9 → p.length + (one x.1).length ≤ sizeLine := fun p hp => by
        rw [sg_len, sg_len, sg_one, len0]; simp only [List.length_singleton]; omega
      rw [List.map_append, show [x].map (·.1) = [x.1] from rfl]
      obtain ⟨t, v⟩ := x
      have h0 := Int.emod_nonneg v (show (6 : Int) ≠ 0 by decide)
      have h4 := Int.emod_lt_of_pos v (show (0 : Int) < 6 by decide)
      have at_ : ∀ w : Int, 0 ≤ w → w < 6 → ∃ k : Int, atI [D.int 0, .int 0, .int 0, .int 0, .int 1, .int 2] w = some (.int k) ∧ (k = 0 ∨ k = 1 ∨ k = 2) := fun w w0 w6 => by
        have h : w = 0 ∨ w = 1 ∨ w = 2 ∨ w = 3 ∨ w = 4 ∨ w = 5 := by omega
        rcases h with rfl | rfl | rfl | rfl | rfl | rfl
        · exact ⟨0, rfl, .inl rfl⟩
        · exact ⟨0, rfl, .inl rfl⟩
        · exact ⟨0, rfl, .inl rfl⟩
        · exact ⟨0, rfl, .inl rfl⟩
        · exact ⟨1, rfl, .inr (.inl rfl)⟩
        · exact ⟨2, rfl, .inr (.inr rfl)⟩
      have pa' := pa.more (x := t)
      have pb' := pb.more (x := t)
      have pc' := pc.more (x := t)
      have sA := pa.snoc hlt
      have sB := pb.snoc hlt
      have sC := pc.snoc hlt
      have t2 : ∀ {DD : DEnds}, (∀ (a b c : Str) (o5 o6 : Option S), PartOk (done.map (·.1) ++ [t]) a → PartOk (done.map (·.1) ++ [t]) b → PartOk (done.map (·.1) ++ [t]) c → Apart a b → Apart a c → Apart b c → DD.nx [some (.d (.str s)), some (.d (.lst (ns.map .int))), some (.ol [.str a, .str b, .str c]), some (.d (.str (one t))), o5, o6]) →
          ∀ k : Int, (k = 0 ∨ k = 1 ∨ k = 2) → w_L_parts_bdf_b1_t2 DD [some (.d (.str s)), some (.d (.lst (ns.map .int))), some (.ol [.str a, .str b, .str c]), some (.d (.str (one t))), some (.d (.int v)), some (.d (.int k))] := fun {DD} hD k hk => by
        rcases hk with rfl | rfl | rfl
        · simp only [w_L_parts_bdf_b1_t2, wSeq, wSet, wAsg, wC, wIfS, wB, wOp, oI, oI0, asI, asS, asL, asLT, asT, asB, asA_some, asA_none, asO, asOL, asOD, asKey, asDic, asSq, oLen, oMod, oAdd, oSub, oMul, oDiv, oMax, oMin, oPlus, oEqX, oNeX, eqX_int, eqX_str, eqX_bl, oCmp, oLtX, oLeX, oGtX, oGeX, oIxX, oInX, wCB, wCons, wNil, wVar, wMove, nth, put, startR, wNext, wRet, wRetN, wDrop, wFor, wiR1, wiR2, wiX, itemsOf, wgName, wgTup, wgCons, wgNil, wLend, wLendT, seeR_cons, seeR_nil, seeO_d, seeO_none, seeO_ol, seeO_od, wJoin, wM, oAppend, oPop, oPopAt, wDPut, wDPop, wSortK, wDict0, wTup, wLst, wCall, wAnd, wOr, wNot, wAndV, wOrV, wNotV, wIf, wYes, wLc, wiEnumX, oListX, oTuple, oSort, oSortSet, oAll, oAny, S.fz, S.own, D.flat, txts_map, bools_map, txtKeys_map, List.length_map, List.map_cons, List.map_nil, List.length_cons, List.length_nil, List.cons_append, List.nil_append, List.replicate, decide_eq_true_eq, Bool.not_eq_true', Bool.not_true, Bool.not_false, if_true, if_false, Nat.zero_add, Nat.reduceAdd, Nat.reduceSub, ge_iff_le, true_and, and_true, zip_unzip, Bool.false_xor, Bool.true_xor, Bool.false_eq_true, Bool.true_eq_false, reduceIte, wipeR, dataR_cons, dataR_nil, dataO_d, dataO_none, dataO_ol, dataO_od, oDict, oIsi, tyD, isiB, wSl, wPart, wNoP, oSl, wDisp1, wDGet2, oRemove, atI_0, atI_1, atI_2, wiRev, revItems, oDictP, wForK, wiKeys, kD, oSortX, oPow, oBitAnd, oShl, oNeg, wUn, oInt, oStr, oDivmod, oIs, isD, wChain, wFz, wFzE, frzR, wLSet, wiZip, seqsD, wiVals, wiItems, wOIx, wNo, Option.isSome_some, oMulX, wM1, oSplit, oPart, oStrip1, oRep, oSum, intsD, wRaise, wLI, wLK
, wiR3, wLR, wDisp, wPairs, oReverse, oClear, oInsert, wRevL, wDZ, seqLT, oSortIT, wOFld, wSFld, asOI, setOI, putG, wPar, wiItemsC, wiValsC, wIndexL, wDZO, wLO, wiZip3, ixN3.1, asA_some]
          exact ⟨fit a (by omega), hD _ _ _ _ _ sA pb' pc' (ab.snocL pb hlt) (ac.snocL pc hlt) bc⟩
        · simp only [w_L_parts_bdf_b1_t2, wSeq, wSet, wAsg, wC, wIfS, wB, wOp, oI, oI0, asI, asS, asL, asLT, asT, asB, asA_some, asA_none, asO, asOL, asOD, asKey, asDic, asSq, oLen, oMod, oAdd, oSub, oMul, oDiv, oMax, oMin, oPlus, oEqX, oNeX, eqX_int, eqX_str, eqX_bl, oCmp, oLtX, oLeX, oGtX, oGeX, oIxX, oInX, wCB, wCons, wNil, wVar, wMove, nth, put, startR, wNext, wRet, wRetN, wDrop, wFor, wiR1, wiR2, wiX, itemsOf, wgName, wgTup, wgCons, wgNil, wLend, wLendT, seeR_cons, seeR_nil, seeO_d, seeO_none, seeO_ol, seeO_od, wJoin, wM, oAppend, oPop, oPopAt, wDPut, wDPop, wSortK, wDict0, wTup, wLst, wCall, wAnd, wOr, wNot, wAndV, wOrV, wNotV, wIf, wYes, wLc, wiEnumX, oListX, oTuple, oSort, oSortSet, oAll, oAny, S.fz, S.own, D.flat, txts_map, bools_map, txtKeys_map, List.length_map, List.map_cons, List.map_nil, List.length_cons, List.length_nil, List.cons_append, List.nil_append, List.replicate, decide_eq_true_eq, Bool.not_eq_true', Bool.not_true, Bool.not_false, if_true, if_false, Nat.zero_add, Nat.reduceAdd, Nat.reduceSub, ge_iff_le, true_and, and_true, zip_unzip, Bool.false_xor, Bool.true_xor, Bool.false_eq_true, Bool.true_eq_false, reduceIte, wipeR, dataR_cons, dataR_nil, dataO_d, dataO_none, dataO_ol, dataO_od, oDict, oIsi, tyD, isiB, wSl, wPart, wNoP, oSl, wDisp1, wDGet2, oRemove, atI_0, atI_1, atI_2, wiRev, revItems, oDictP, wForK, wiKeys, kD, oSortX, oPow, oBitAnd, oShl, oNeg, wUn, oInt, oStr, oDivmod, oIs, isD, wChain, wFz, wFzE, frzR, wLSet, wiZip, seqsD, wiVals, wiItems, wOIx, wNo, Option.isSome_some, oMulX, wM1, oSplit, oPart, oStrip1, oRep, oSum, intsD, wRaise, wLI, wLK
, wiR3, wLR, wDisp, wPairs, oReverse, oClear, oInsert, wRevL, wDZ, seqLT, oSortIT, wOFld, wSFld, asOI, setOI, putG, wPar, wiItemsC, wiValsC, wIndexL, wDZO, wLO, wiZip3, ixN3.2.1, asA_some]
          exact ⟨fit b (by omega), hD _ _ _ _ _ pa' sB pc' (ab.snocR pa hlt) ac (bc.snocL pc hlt)⟩
        · simp only [w_L_parts_bdf_b1_t2, wSeq, wSet, wAsg, wC, wIfS, wB, wOp, oI, oI0, asI, asS, asL, asLT, asT, asB, asA_some, asA_none, asO, asOL, asOD, asKey, asDic, asSq, oLen, oMod, oAdd, oSub, oMul, oDiv, oMax, oMin, oPlus, oEqX, oNeX, eqX_int, eqX_str, eqX_bl, oCmp, oLtX, oLeX, oGtX, oGeX, oIxX, oInX, wCB, wCons, wNil, wVar, wMove, nth, put, startR, wNext, wRet, wRetN, wDrop, wFor, wiR1, wiR2, wiX, itemsOf, wgName, wgTup, wgCons, wgNil, wLend, wLendT, seeR_cons, seeR_nil, seeO_d, seeO_none, seeO_ol, seeO_od, wJoin, wM, oAppend, oPop, oPopAt, wDPut, wDPop, wSortK, wDict0, wTup, wLst, wCall, wAnd, wOr, wNot, wAndV, wOrV, wNotV, wIf, wYes, wLc, wiEnumX, oListX, oTuple, oSort, oSortSet, oAll, oAny, S.fz, S.own, D.flat, txts_map, bools_map, txtKeys_map, List.length_map, List.map_cons, List.map_nil, List.length_cons, List.length_nil, List.cons_append, List.nil_append, List.replicate, decide_eq_true_eq, Bool.not_eq_true', Bool.not_true, Bool.not_false, if_true, if_false, Nat.zero_add, Nat.reduceAdd, Nat.reduceSub, ge_iff_le, true_and, and_true, zip_unzip, Bool.false_xor, Bool.true_xor, Bool.false_eq_true, Bool.true_eq_false, reduceIte, wipeR, dataR_cons, dataR_nil, dataO_d, dataO_none, dataO_ol, dataO_od, oDict, oIsi, tyD, isiB, wSl, wPart, wNoP, oSl, wDisp1, wDGet2, oRemove, atI_0, atI_1, atI_2, wiRev, revItems, oDictP, wForK, wiKeys, kD, oSortX, oPow, oBitAnd, oShl, oNeg, wUn, oInt, oStr, oDivmod, oIs, isD, wChain, wFz, wFzE, frzR, wLSet, wiZip, seqsD, wiVals, wiItems, wOIx, wNo, Option.isSome_some, oMulX, wM1, oSplit, oPart, oStrip1, oRep, oSum, intsD, wRaise, wLI, wLK
, wiR3, wLR, wDisp, wPairs, oReverse, oClear, oInsert, wRevL, wDZ, seqLT, oSortIT, wOFld, wSFld, asOI, setOI, putG, wPar, wiItemsC, wiValsC, wIndexL, wDZO, wLO, wiZip3, ixN3.2.2, asA_some]
          exact ⟨fit c (by omega), hD _ _ _ _ _ pa' pb' sC ab (ac.snocR pa hlt) (bc.snocR pb hlt)⟩
      obtain ⟨k, ek, hk⟩ := at_ (v % 6) h0 h4
      have fin : ∀ (a b c : Str) (o5 o6 : Option S), PartOk (done.map (·.1) ++ [t]) a → PartOk (done.map (·.1) ++ [t]) b → PartOk (done.map (·.1) ++ [t]) c → Apart a b → Apart a c → Apart b c → ∃ (a' b' c' : Str) (o4' o5' o6' : Option S), PartOk (done.map (·.1) ++ [t]) a' ∧ PartOk (done.map (·.1) ++ [t]) b' ∧ PartOk (done.map (·.1) ++ [t]) c' ∧ Apart a' b' ∧ Apart a' c' ∧ Apart b' c' ∧ [some (S.d (.str s)), some (.d (.lst (ns.map .int))), some (.ol [.str a, .str b, .str c]), some (.d (.str (one t))), o5, o6] = [some (S.d (.str s)), some (.d (.lst (ns.map .int))), some (.ol [.str a', .str b', .str c']), o4', o5', o6'] := fun a b c o5 o6 h1 h2 h3 h4 h5 h6 => ⟨a, b, c, _, o5, o6, h1, h2, h3, h4, h5, h6, rfl⟩
      simp only [w_L_parts_bdf_b1, wSeq, wSet, wAsg, wC, wIfS, wB, wOp, oI, oI0, asI, asS, asL, asLT, asT, asB, asA_some, asA_none, asO, asOL, asOD, asKey, asDic, asSq, oLen, oMod, oAdd, oSub, oMul, oDiv, oMax, oMin, oPlus, oEqX, oNeX, eqX_int, eqX_str, eqX_bl, oCmp, oLtX, oLeX, oGtX, oGeX, oIxX, oInX, wCB, wCons, wNil, wVar, wMove, nth, put, startR, wNext, wRet, wRetN, wDrop, wFor, wiR1, wiR2, wiX, itemsOf, wgName, wgTup, wgCons, wgNil, wLend, wLendT, seeR_cons, seeR_nil, seeO_d, seeO_none, seeO_ol, seeO_od, wJoin, wM, oAppend, oPop, oPopAt, wDPut, wDPop, wSortK, wDict0, wTup, wLst, wCall, wAnd, wOr, wNot, wAndV, wOrV, wNotV, wIf, wYes, wLc, wiEnumX, oListX, oTuple, oSort, oSortSet, oAll, oAny, S.fz, S.own, D.flat, txts_map, bools_map, txtKeys_map, List.length_map, List.map_cons, List.map_nil, List.length_cons, List.length_nil, List.cons_append, List.nil_append, List.replicate, decide_eq_true_eq, Bool.not_eq_true', Bool.not_true, Bool.not_false, if_true, if_false, Nat.zero_add, Nat.reduceAdd, Nat.reduceSub, ge_iff_le, true_and, and_true, zip_unzip, Bool.false_xor, Bool.true_xor, Bool.false_eq_true, Bool.true_eq_false, reduceIte, wipeR, dataR_cons, dataR_nil, dataO_d, dataO_none, dataO_ol, dataO_od, oDict, oIsi, tyD, isiB, wSl, wPart, wNoP, oSl, wDisp1, wDGet2, oRemove, atI_0, atI_1, atI_2, wiRev, revItems, oDictP, wForK, wiKeys, kD, oSortX, oPow, oBitAnd, oShl, oNeg, wUn, oInt, oStr, oDivmod, oIs, isD, wChain, wFz, wFzE, frzR, wLSet, wiZip, seqsD, wiVals, wiItems, wOIx, wNo, Option.isSome_some, oMulX, wM1, oSplit, oPart, oStrip1, oRep, oSum, intsD, wRaise, wLI, wLK
, wiR3, wLR, wDisp, wPairs, oReverse, oClear, oInsert, wRevL, wDZ, seqLT, oSortIT, wOFld, wSFld, asOI, setOI, putG, wPar, wiItemsC, wiValsC, wIndexL, wDZO, wLO, wiZip3]
      refine ⟨by decide, by decide, ?_⟩
      rw [ek, asA_some]
      rcases hk with rfl | rfl | rfl
      · simp only [w_L_parts_bdf_b1_t1, wSeq, wSet, wAsg, wC, wIfS, wB, wOp, oI, oI0, asI, asS, asL, asLT, asT, asB, asA_some, asA_none, asO, asOL, asOD, asKey, asDic, asSq, oLen, oMod, oAdd, oSub, oMul, oDiv, oMax, oMin, oPlus, oEqX, oNeX, eqX_int, eqX_str, eqX_bl, oCmp, oLtX, oLeX, oGtX, oGeX, oIxX, oInX, wCB, wCons, wNil, wVar, wMove, nth, put, startR, wNext, wRet, wRetN, wDrop, wFor, wiR1, wiR2, wiX, itemsOf, wgName, wgTup, wgCons, wgNil, wLend, wLendT, seeR_cons, seeR_nil, seeO_d, seeO_none, seeO_ol, seeO_od, wJoin, wM, oAppend, oPop, oPopAt, wDPut, wDPop, wSortK, wDict0, wTup, wLst, wCall, wAnd, wOr, wNot, wAndV, wOrV, wNotV, wIf, wYes, wLc, wiEnumX, oListX, oTuple, oSort, oSortSet, oAll, oAny, S.fz, S.own, D.flat, txts_map, bools_map, txtKeys_map, List.length_map, List.map_cons, List.map_nil, List.length_cons, List.length_nil, List.cons_append, List.nil_append, List.replicate, decide_eq_true_eq, Bool.not_eq_true', Bool.not_true, Bool.not_false, if_true, if_false, Nat.zero_add, Nat.reduceAdd, Nat.reduceSub, ge_iff_le, true_and, and_true, zip_unzip, Bool.false_xor, Bool.true_xor, Bool.false_eq_true, Bool.true_eq_false, reduceIte, wipeR, dataR_cons, dataR_nil, dataO_d, dataO_none, dataO_ol, dataO_od, oDict, oIsi, tyD, isiB, wSl, wPart, wNoP, oSl, wDisp1, wDGet2, oRemove, atI_0, atI_1, atI_2, wiRev, revItems, oDictP, wForK, wiKeys, kD, oSortX, oPow, oBitAnd, oShl, oNeg, wUn, oInt, oStr, oDivmod, oIs, isD, wChain, wFz, wFzE, frzR, wLSet, wiZip, seqsD, wiVals, wiItems, wOIx, wNo, Option.isSome_some, oMulX, wM1, oSplit, oPart, oStrip1, oRep, oSum, intsD, wRaise, wLI, wLK
, wiR3, wLR, wDisp, wPairs, oReverse, oClear, oInsert, wRevL, wDZ, seqLT, oSortIT, wOFld, wSFld, asOI, setOI, putG, wPar, wiItemsC, wiValsC, wIndexL, wDZO, wLO, wiZip3]
        split
        · exact t2 fin 0 (.inl rfl)
        · exact t2 fin 0 (.inl rfl)
      · simp only [w_L_parts_bdf_b1_t1, wSeq, wSet, wAsg, wC, wIfS, wB, wOp, oI, oI0, asI, asS, asL, asLT, asT, asB, asA_some, asA_none, asO, asOL, asOD, asKey, asDic, asSq, oLen, oMod, oAdd, oSub, oMul, oDiv, oMax, oMin, oPlus, oEqX, oNeX, eqX_int, eqX_str, eqX_bl, oCmp, oLtX, oLeX, oGtX, oGeX, oIxX, oInX, wCB, wCons, wNil, wVar, wMove, nth, put, startR, wNext, wRet, wRetN, wDrop, wFor, wiR1, wiR2, wiX, itemsOf, wgName, wgTup, wgCons, wgNil, wLend, wLendT, seeR_cons, seeR_nil, seeO_d, seeO_none, seeO_ol, seeO_od, wJoin, wM, oAppend, oPop, oPopAt, wDPut, wDPop, wSortK, wDict0, wTup, wLst, wCall, wAnd, wOr, wNot, wAndV, wOrV, wNotV, wIf, wYes, wLc, wiEnumX, oListX, oTuple, oSort, oSortSet, oAll, oAny, S.fz, S.own, D.flat, txts_map, bools_map, txtKeys_map, List.length_map, List.map_cons, List.map_nil, List.length_cons, List.length_nil, List.cons_append, List.nil_append, List.replicate, decide_eq_true_eq, Bool.not_eq_true', Bool.not_true, Bool.not_false, if_true, if_false, Nat.zero_add, Nat.reduceAdd, Nat.reduceSub, ge_iff_le, true_and, and_true, zip_unzip, Bool.false_xor, Bool.true_xor, Bool.false_eq_true, Bool.true_eq_false, reduceIte, wipeR, dataR_cons, dataR_nil, dataO_d, dataO_none, dataO_ol, dataO_od, oDict, oIsi, tyD, isiB, wSl, wPart, wNoP, oSl, wDisp1, wDGet2, oRemove, atI_0, atI_1, atI_2, wiRev, revItems, oDictP, wForK, wiKeys, kD, oSortX, oPow, oBitAnd, oShl, oNeg, wUn, oInt, oStr, oDivmod, oIs, isD, wChain, wFz, wFzE, frzR, wLSet, wiZip, seqsD, wiVals, wiItems, wOIx, wNo, Option.isSome_some, oMulX, wM1, oSplit, oPart, oStrip1, oRep, oSum, intsD, wRaise, wLI, wLK
, wiR3, wLR, wDisp, wPairs, oReverse, oClear, oInsert, wRevL, wDZ, seqLT, oSortIT, wOFld, wSFld, asOI, setOI, putG, wPar, wiItemsC, wiValsC, wIndexL, wDZO, wLO, wiZip3]
        split
        · exact t2 fin 0 (.inl rfl)
        · exact t2 fin 1 (.inr (.inl rfl))
      · simp only [w_L_parts_bdf_b1_t1, wSeq, wSet, wAsg, wC, wIfS, wB, wOp, oI, oI0, asI, asS, asL, asLT, asT, asB, asA_some, asA_none, asO, asOL, asOD, asKey, asDic, asSq, oLen, oMod, oAdd, oSub, oMul, oDiv, oMax, oMin, oPlus, oEqX, oNeX, eqX_int, eqX_str, eqX_bl, oCmp, oLtX, oLeX, oGtX, oGeX, oIxX, oInX, wCB, wCons, wNil, wVar, wMove, nth, put, startR, wNext, wRet, wRetN, wDrop, wFor, wiR1, wiR2, wiX, itemsOf, wgName, wgTup, wgCons, wgNil, wLend, wLendT, seeR_cons, seeR_nil, seeO_d, seeO_none, seeO_ol, seeO_od, wJoin, wM, oAppend, oPop, oPopAt, wDPut, wDPop, wSortK, wDict0, wTup, wLst, wCall, wAnd, wOr, wNot, wAndV, wOrV, wNotV, wIf, wYes, wLc, wiEnumX, oListX, oTuple, oSort, oSortSet, oAll, oAny, S.fz, S.own, D.flat, txts_map, bools_map, txtKeys_map, List.length_map, List.map_cons, List.map_nil, List.length_cons, List.length_nil, List.cons_append, List.nil_append, List.replicate, decide_eq_true_eq, Bool.not_eq_true', Bool.not_true, Bool.not_false, if_true, if_false, Nat.zero_add, Nat.reduceAdd, Nat.reduceSub, ge_iff_le, true_and, and_true, zip_unzip, Bool.false_xor, Bool.true_xor, Bool.false_eq_true, Bool.true_eq_false, reduceIte, wipeR, dataR_cons, dataR_nil, dataO_d, dataO_none, dataO_ol, dataO_od, oDict, oIsi, tyD, isiB, wSl, wPart, wNoP, oSl, wDisp1, wDGet2, oRemove, atI_0, atI_1, atI_2, wiRev, revItems, oDictP, wForK, wiKeys, kD, oSortX, oPow, oBitAnd, oShl, oNeg, wUn, oInt, oStr, oDivmod, oIs, isD, wChain, wFz, wFzE, frzR, wLSet, wiZip, seqsD, wiVals, wiItems, wOIx, wNo, Option.isSome_some, oMulX, wM1, oSplit, oPart, oStrip1, oRep, oSum, intsD, wRaise, wLI, wLK
, wiR3, wLR, wDisp, wPairs, oReverse, oClear, oInsert, wRevL, wDZ, seqLT, oSortIT, wOFld, wSFld, asOI, setOI, putG, wPar, wiItemsC, wiValsC, wIndexL, wDZO, wLO, wiZip3]
        split
        · exact t2 fin 0 (.inl rfl)
        · exact t2 fin 2 (.inr (.inr rfl))
    · obtain ⟨a, b, c, o4, o5, o6, pa, pb, pc, ab, ac, bc, rfl⟩ := hI
      simp only [w_L_parts_bdf_t2, wSeq, wSet, wAsg, wC, wIfS, wB, wOp, oI, oI0, asI, asS, asL, asLT, asT, asB, asA_some, asA_none, asO, asOL, asOD, asKey, asDic, asSq, oLen, oMod, oAdd, oSub, oMul, oDiv, oMax, oMin, oPlus, oEqX, oNeX, eqX_int, eqX_str, eqX_bl, oCmp, oLtX, oLeX, oGtX, oGeX, oIxX, oInX, wCB, wCons, wNil, wVar, wMove, nth, put, startR, wNext, wRet, wRetN, wDrop, wFor, wiR1, wiR2, wiX, itemsOf, wgName, wgTup, wgCons, wgNil, wLend, wLendT, seeR_cons, seeR_nil, seeO_d, seeO_none, seeO_ol, seeO_od, wJoin, wM, oAppend, oPop, oPopAt, wDPut, wDPop, wSortK, wDict0, wTup, wLst, wCall, wAnd, wOr, wNot, wAndV, wOrV, wNotV, wIf, wYes, wLc, wiEnumX, oListX, oTuple, oSort, oSortSet, oAll, oAny, S.fz, S.own, D.flat, txts_map, bools_map, txtKeys_map, List.length_map, List.map_cons, List.map_nil, List.length_cons, List.length_nil, List.cons_append, List.nil_append, List.replicate, decide_eq_true_eq, Bool.not_eq_true', Bool.not_true, Bool.not_false, if_true, if_false, Nat.zero_add, Nat.reduceAdd, Nat.reduceSub, ge_iff_le, true_and, and_true, zip_unzip, Bool.false_xor, Bool.true_xor, Bool.false_eq_true, Bool.true_eq_false, reduceIte, wipeR, dataR_cons, dataR_nil, dataO_d, dataO_none, dataO_ol, dataO_od, oDict, oIsi, tyD, isiB, wSl, wPart, wNoP, oSl, wDisp1, wDGet2, oRemove, atI_0, atI_1, atI_2, wiRev, revItems, oDictP, wForK, wiKeys, kD, oSortX, oPow, oBitAnd, oShl, oNeg, wUn, oInt, oStr, oDivmod, oIs, isD, wChain, wFz, wFzE, frzR, wLSet, wiZip, seqsD, wiVals, wiItems, wOIx, wNo, Option.isSome_some, oMulX, wM1, oSplit, oPart, oStrip1, oRep, oSum, intsD, wRaise, wLI, wLK
, wiR3, wLR, wDisp, wPairs, oReverse, oClear, oInsert, wRevL, wDZ, seqLT, oSortIT, wOFld, wSFld, asOI, setOI, putG, wPar, wiItemsC, wiValsC, wIndexL, wDZO, wLO, wiZip3]
      have hsub : ∀ d ∈ ((sg s).zip ns).map (·.1), d ∈ sg s := fun d hd => (zip_fst_sub _ _).subset hd
      exact hq a b c ⟨pa.1, fun d hd => hs.le d (hsub d (pa.2 d hd))⟩ ⟨pb.1, fun d hd => hs.le d (hsub d (pb.2 d hd))⟩ ⟨pc.1, fun d hd => hs.le d (hsub d (pc.2 d hd))⟩ (fun d hd => hsub d (pa.2 d hd)) (fun d hd => hsub d (pb.2 d hd)) (fun d hd => hsub d (pc.2 d hd)) ab ac
  · exact h.elim
def sp_L_pair_3b9 : DSp := fun ds P _ => match ds with
  | [.cel ns, .str s, .int hd] => (ns.length ≤ 63 ∧ Prd s ∧ 0 ≤ hd) ∧ ∀ f g : List Str, Frm f → Over s f → Frm g → Over s g → P (.d (.tup [fD f, fD g]))
  | _ => False
abbrev N_L_pair_3b9 : List Str := ["_law_script", "_law_letters_here", "_law_head", "_law_parts_here", "_law_kind", "_law_sizes", "_law_more", "_law_numbers_here", "_law_k", "_law_middle", "_law_one", "_law_beside", "_law_other"]
def w_L_pair_3b9_t11 : WS := (wRet (wTup (wCons (wVar 10) (wCons (wVar 12) wNil))))
def w_L_pair_3b9_t10 : WS := wSeq (wIfS (wB (wOp oEqX (wVar 4) (wC (.int 1)))) (wAsg (wCall sp_L_turned_e82 (fun _ _ => False) (wCons (wOp oPlus (wCB oListX (wCons (wVar 10) wNil)) (wCB oListX (wCons (wCall sp_L_form_898 (fun _ _ => False) (wCons (wCall sp_L_numbers_81e (fun _ _ => False) (wCons (wCall sp_L_cell_808 (fun _ _ => False) (wCons (wVar 0) (wCons (wC (.int 5)) wNil))) (wCons (wC (.int 13)) (wCons (wC (.int 1)) wNil)))) (wCons (wVar 1) wNil))) wNil))) wNil)) (wgName 10)) wNext)
    w_L_pair_3b9_t11
def w_L_pair_3b9_t9 : WS := wSeq (wAsg (wCall sp_L_turned_e82 (fun _ _ => False) (wCons (wOp oPlus (wOp oPlus (wCB oListX (wCons (wVar 9) wNil)) (wCB oListX (wCons (wVar 11) wNil))) (wCB oListX (wCons (wCall sp_L_times_593 (fun _ _ => False) (wCons (wVar 9) (wCons (wVar 11) wNil))) wNil))) wNil)) (wgName 12))
    w_L_pair_3b9_t10
def w_L_pair_3b9_t8 : WS := wSeq (wAsg (wCall sp_L_form_898 (fun _ _ => False) (wCons (wOp oIxX (wVar 7) (wC (.int 1))) (wCons (wJoin (wC (.str "")) (wCB oSortX (wCons (wOp oPlus (wOp oIxX (wVar 3) (wC (.int 0))) (wOp oIxX (wVar 3) (wC (.int 2)))) wNil))) wNil))) (wgName 11))
    w_L_pair_3b9_t9
def w_L_pair_3b9_t7 : WS := wSeq (wAsg (wCall sp_L_times_593 (fun _ _ => False) (wCons (wVar 9) (wCons (wCall sp_L_form_898 (fun _ _ => False) (wCons (wOp oIxX (wVar 7) (wC (.int 0))) (wCons (wJoin (wC (.str "")) (wCB oSortX (wCons (wOp oPlus (wOp oIxX (wVar 3) (wC (.int 0))) (wOp oIxX (wVar 3) (wC (.int 1)))) wNil))) wNil))) wNil))) (wgName 10))
    w_L_pair_3b9_t8
def w_L_pair_3b9_t6 : WS := wSeq (wAsg (wCall sp_L_form_898 (fun _ _ => False) (wCons (wCall sp_L_numbers_81e (fun _ _ => False) (wCons (wCall sp_L_cell_808 (fun _ _ => False) (wCons (wVar 0) (wCons (wC (.int 2)) wNil))) (wCons (wC (.int 7)) (wCons (wOp oIxX (wVar 5) (wC (.int 0))) wNil)))) (wCons (wOp oIxX (wVar 3) (wC (.int 0))) wNil))) (wgName 9))
    w_L_pair_3b9_t7
def w_L_pair_3b9_t5 : WS := wSeq (wIfS (wB (wOp oEqX (wVar 4) (wC (.int 2)))) (wRet (wTup (wCons (wCall sp_L_form_898 (fun _ _ => False) (wCons (wOp oIxX (wVar 7) (wC (.int 0))) (wCons (wVar 1) wNil))) (wCons (wCall sp_L_form_898 (fun _ _ => False) (wCons (wOp oIxX (wVar 7) (wC (.int 1))) (wCons (wVar 1) wNil))) wNil)))) wNext)
    w_L_pair_3b9_t6
def w_L_pair_3b9_t4 : WS := wSeq (wAsg (wLc (wiR1 (wCons (wC (.int 2)) wNil)) (wgName 8) wYes (wCall sp_L_numbers_81e (fun _ _ => False) (wCons (wCall sp_L_cell_808 (fun _ _ => False) (wCons (wVar 0) (wCons (wOp oPlus (wC (.int 3)) (wVar 8)) wNil))) (wCons (wOp oPlus (wC (.int 9)) (wOp oMul (wC (.int 2)) (wVar 8))) (wCons (wOp oMul (wVar 6) (wOp oIxX (wVar 5) (wOp oPlus (wC (.int 1)) (wVar 8)))) wNil)))) [8]) (wgName 7))
    w_L_pair_3b9_t5
def w_L_pair_3b9_t3 : WS := wSeq (wAsg (wOp oIxX (wLst (wCons (wC (.int 1)) (wCons (wC (.int 4)) wNil))) (wCB oInt (wCons (wOp oEqX (wVar 4) (wC (.int 2))) wNil))) (wgName 6))
    w_L_pair_3b9_t4
def w_L_pair_3b9_t2 : WS := wSeq (wAsg (wLst (wCons (wOp oPlus (wC (.int 1)) (wOp oMod (wOp oDiv (wVar 2) (wC (.int 8192))) (wC (.int 6)))) (wCons (wOp oPlus (wC (.int 1)) (wOp oMod (wOp oDiv (wVar 2) (wC (.int 65536))) (wC (.int 6)))) (wCons (wOp oMod (wOp oDiv (wVar 2) (wC (.int 524288))) (wC (.int 7))) wNil)))) (wgName 5))
    w_L_pair_3b9_t3
def w_L_pair_3b9_t1 : WS := wSeq (wAsg (wOp oMod (wOp oDiv (wVar 2) (wC (.int 1024))) (wC (.int 4))) (wgName 4))
    w_L_pair_3b9_t2
def w_L_pair_3b9 : WS := wSeq (wAsg (wCall sp_L_parts_bdf (fun _ _ => False) (wCons (wVar 1) (wCons (wCall sp_L_numbers_81e (fun _ _ => False) (wCons (wCall sp_L_cell_808 (fun _ _ => False) (wCons (wVar 0) (wCons (wC (.int 1)) wNil))) (wCons (wC (.int 5)) (wCons (wC (.int 9)) wNil)))) wNil))) (wgName 3))
    w_L_pair_3b9_t1
theorem len_L_pair_3b9 {ds Q px} (h : sp_L_pair_3b9 ds Q px) : ds.length = 3 := by unfold sp_L_pair_3b9 at h; split at h <;> first | rfl | exact h.elim
theorem asF_tq {a : List Str} {P : List Str → Prop} : asF (D.tup (a.map .str)) P = P a := asF_fD
theorem rd_L_pair_3b9 {ds Q px} (h : sp_L_pair_3b9 ds Q px) : w_L_pair_3b9 ⟨fun _ => Q (.d .non), Q, fun _ => False, fun _ => False⟩ (startR N_L_pair_3b9 ds) := by
  unfold sp_L_pair_3b9 at h
  split at h
  · rename_i ns s hd
    obtain ⟨⟨hl, hs, h0⟩, hq⟩ := h
    unfold w_L_pair_3b9
    simp only [N_L_pair_3b9, w_L_pair_3b9_t1, w_L_pair_3b9_t2, w_L_pair_3b9_t3, wSeq, wSet, wAsg, wC, wIfS, wB, wOp, oI, oI0, asI, asS, asL, asLT, asT, asB, asA_some, asA_none, asO, asOL, asOD, asKey, asDic, asSq, oLen, oMod, oAdd, oSub, oMul, oDiv, oMax, oMin, oPlus, oEqX, oNeX, eqX_int, eqX_str, eqX_bl, oCmp, oLtX, oLeX, oGtX, oGeX, oIxX, oInX, wCB, wCons, wNil, wVar, wMove, nth, put, startR, wNext, wRet, wRetN, wDrop, wFor, wiR1, wiR2, wiX, itemsOf, wgName, wgTup, wgCons, wgNil, wLend, wLendT, seeR_cons, seeR_nil, seeO_d, seeO_none, seeO_ol, seeO_od, wJoin, wM, oAppend, oPop, oPopAt, wDPut, wDPop, wSortK, wDict0, wTup, wLst, wCall, wAnd, wOr, wNot, wAndV, wOrV, wNotV, wIf, wYes, wLc, wiEnumX, oListX, oTuple, oSort, oSortSet, oAll, oAny, S.fz, S.own, D.flat, txts_map, bools_map, txtKeys_map, List.length_map, List.map_cons, List.map_nil, List.length_cons, List.length_nil, List.cons_append, List.nil_append, List.replicate, decide_eq_true_eq, Bool.not_eq_true', Bool.not_true, Bool.not_false, if_true, if_false, Nat.zero_add, Nat.reduceAdd, Nat.reduceSub, ge_iff_le, true_and, and_true, zip_unzip, Bool.false_xor, Bool.true_xor, Bool.false_eq_true, Bool.true_eq_false, reduceIte, wipeR, dataR_cons, dataR_nil, dataO_d, dataO_none, dataO_ol, dataO_od, oDict, oIsi, tyD, isiB, wSl, wPart, wNoP, oSl, wDisp1, wDGet2, oRemove, atI_0, atI_1, atI_2, wiRev, revItems, oDictP, wForK, wiKeys, kD, oSortX, oPow, oBitAnd, oShl, oNeg, wUn, oInt, oStr, oDivmod, oIs, isD, wChain, wFz, wFzE, frzR, wLSet, wiZip, seqsD, wiVals, wiItems, wOIx, wNo, Option.isSome_some, oMulX, wM1, oSplit, oPart, oStrip1, oRep, oSum, intsD, wRaise, wLI, wLK
, wiR3, wLR, wDisp, wPairs, oReverse, oClear, oInsert, wRevL, wDZ, seqLT, oSortIT, wOFld, wSFld, asOI, setOI, putG, wPar, wiItemsC, wiValsC, wIndexL, wDZO, wLO, wiZip3, sp_L_parts_bdf, sp_L_numbers_81e, sp_L_cell_808]
    refine ⟨⟨hl, by decide⟩, fun z1 => ⟨by decide, fun ns1 hn1 => ?_⟩⟩
    rw [intsD_ints, asA_some]
    refine ⟨⟨hs, hn1⟩, fun a b c ha hb hc has hbs hcs ab ac => ⟨⟨by decide, by decide⟩, by decide, ⟨by decide, by decide⟩, by decide, ⟨by decide, by decide⟩, by decide, ⟨by decide, by decide⟩, by decide, by decide, by decide, ?_⟩⟩
    obtain ⟨m, em, hm⟩ : ∃ m : Int, atI [D.int 1, D.int 4] (if hd / 1024 % 4 = 2 then 1 else 0) = some (.int m) ∧ (m = 1 ∨ m = 4) := by
      split
      · exact ⟨4, rfl, .inr rfl⟩
      · exact ⟨1, rfl, .inl rfl⟩
    rw [em, asA_some]
    have k0 := Int.emod_nonneg (hd / 8192) (show (6 : Int) ≠ 0 by decide)
    have k1 := Int.emod_lt_of_pos (hd / 8192) (show (0 : Int) < 6 by decide)
    have k2 := Int.emod_nonneg (hd / 65536) (show (6 : Int) ≠ 0 by decide)
    have k3 := Int.emod_lt_of_pos (hd / 65536) (show (0 : Int) < 6 by decide)
    have k4 := Int.emod_nonneg (hd / 524288) (show (7 : Int) ≠ 0 by decide)
    have k5 := Int.emod_lt_of_pos (hd / 524288) (show (0 : Int) < 7 by decide)
    generalize hd / 8192 % 6 = q1 at k0 k1 ⊢
    generalize hd / 65536 % 6 = q2 at k2 k3 ⊢
    generalize hd / 524288 % 7 = q3 at k4 k5 ⊢
    generalize hd / 1024 % 4 = kind
    simp only [w_L_pair_3b9_t4, wSeq, wSet, wAsg, wC, wIfS, wB, wOp, oI, oI0, asI, asS, asL, asLT, asT, asB, asA_some, asA_none, asO, asOL, asOD, asKey, asDic, asSq, oLen, oMod, oAdd, oSub, oMul, oDiv, oMax, oMin, oPlus, oEqX, oNeX, eqX_int, eqX_str, eqX_bl, oCmp, oLtX, oLeX, oGtX, oGeX, oIxX, oInX, wCB, wCons, wNil, wVar, wMove, nth, put, startR, wNext, wRet, wRetN, wDrop, wFor, wiR1, wiR2, wiX, itemsOf, wgName, wgTup, wgCons, wgNil, wLend, wLendT, seeR_cons, seeR_nil, seeO_d, seeO_none, seeO_ol, seeO_od, wJoin, wM, oAppend, oPop, oPopAt, wDPut, wDPop, wSortK, wDict0, wTup, wLst, wCall, wAnd, wOr, wNot, wAndV, wOrV, wNotV, wIf, wYes, wLc, wiEnumX, oListX, oTuple, oSort, oSortSet, oAll, oAny, S.fz, S.own, D.flat, txts_map, bools_map, txtKeys_map, List.length_map, List.map_cons, List.map_nil, List.length_cons, List.length_nil, List.cons_append, List.nil_append, List.replicate, decide_eq_true_eq, Bool.not_eq_true', Bool.not_true, Bool.not_false, if_true, if_false, Nat.zero_add, Nat.reduceAdd, Nat.reduceSub, ge_iff_le, true_and, and_true, zip_unzip, Bool.false_xor, Bool.true_xor, Bool.false_eq_true, Bool.true_eq_false, reduceIte, wipeR, dataR_cons, dataR_nil, dataO_d, dataO_none, dataO_ol, dataO_od, oDict, oIsi, tyD, isiB, wSl, wPart, wNoP, oSl, wDisp1, wDGet2, oRemove, atI_0, atI_1, atI_2, wiRev, revItems, oDictP, wForK, wiKeys, kD, oSortX, oPow, oBitAnd, oShl, oNeg, wUn, oInt, oStr, oDivmod, oIs, isD, wChain, wFz, wFzE, frzR, wLSet, wiZip, seqsD, wiVals, wiItems, wOIx, wNo, Option.isSome_some, oMulX, wM1, oSplit, oPart, oStrip1, oRep, oSum, intsD, wRaise, wLI, wLK
, wiR3, wLR, wDisp, wPairs, oReverse, oClear, oInsert, wRevL, wDZ, seqLT, oSortIT, wOFld, wSFld, asOI, setOI, putG, wPar, wiItemsC, wiValsC, wIndexL, wDZO, wLO, wiZip3, sp_L_numbers_81e, sp_L_cell_808]
    rw [show rangeD 0 (Int.toNat 2) = [.int 0, .int 1] from rfl]
    simp only [compD, wSeq, wSet, wAsg, wC, wIfS, wB, wOp, oI, oI0, asI, asS, asL, asLT, asT, asB, asA_some, asA_none, asO, asOL, asOD, asKey, asDic, asSq, oLen, oMod, oAdd, oSub, oMul, oDiv, oMax, oMin, oPlus, oEqX, oNeX, eqX_int, eqX_str, eqX_bl, oCmp, oLtX, oLeX, oGtX, oGeX, oIxX, oInX, wCB, wCons, wNil, wVar, wMove, nth, put, startR, wNext, wRet, wRetN, wDrop, wFor, wiR1, wiR2, wiX, itemsOf, wgName, wgTup, wgCons, wgNil, wLend, wLendT, seeR_cons, seeR_nil, seeO_d, seeO_none, seeO_ol, seeO_od, wJoin, wM, oAppend, oPop, oPopAt, wDPut, wDPop, wSortK, wDict0, wTup, wLst, wCall, wAnd, wOr, wNot, wAndV, wOrV, wNotV, wIf, wYes, wLc, wiEnumX, oListX, oTuple, oSort, oSortSet, oAll, oAny, S.fz, S.own, D.flat, txts_map, bools_map, txtKeys_map, List.length_map, List.map_cons, List.map_nil, List.length_cons, List.length_nil, List.cons_append, List.nil_append, List.replicate, decide_eq_true_eq, Bool.not_eq_true', Bool.not_true, Bool.not_false, if_true, if_false, Nat.zero_add, Nat.reduceAdd, Nat.reduceSub, ge_iff_le, true_and, and_true, zip_unzip, Bool.false_xor, Bool.true_xor, Bool.false_eq_true, Bool.true_eq_false, reduceIte, wipeR, dataR_cons, dataR_nil, dataO_d, dataO_none, dataO_ol, dataO_od, oDict, oIsi, tyD, isiB, wSl, wPart, wNoP, oSl, wDisp1, wDGet2, oRemove, atI_0, atI_1, atI_2, wiRev, revItems, oDictP, wForK, wiKeys, kD, oSortX, oPow, oBitAnd, oShl, oNeg, wUn, oInt, oStr, oDivmod, oIs, isD, wChain, wFz, wFzE, frzR, wLSet, wiZip, seqsD, wiVals, wiItems, wOIx, wNo, Option.isSome_some, oMulX, wM1, oSplit, oPart, oStrip1, oRep, oSum, intsD, wRaise, wLI, wLK
, wiR3, wLR, wDisp, wPairs, oReverse, oClear, oInsert, wRevL, wDZ, seqLT, oSortIT, wOFld, wSFld, asOI, setOI, putG, wPar, wiItemsC, wiValsC, wIndexL, wDZO, wLO, wiZip3, sp_L_numbers_81e, sp_L_cell_808, atI_0, atI_1, atI_2]
    refine ⟨⟨by decide, by decide⟩, by decide, ⟨hl, by decide⟩, fun z2 => ⟨.inl ⟨by decide, by decide⟩, ?_⟩⟩
    rw [show atI [D.int (1 + q1), D.int (1 + q2), D.int q3] (1 + 0) = some (.int (1 + q2)) from rfl, asA_some]
    have mul : ∀ i : Int, 0 ≤ i → i ≤ 6 → CMul m i ∧ 0 ≤ m * i ∧ m * i ≤ 64 := fun i i0 i6 => by
      rcases hm with rfl | rfl
      · exact ⟨.inl ⟨by decide, by decide⟩, by omega, by omega⟩
      · exact ⟨.inl ⟨by decide, by decide⟩, by omega, by omega⟩
    refine ⟨(mul _ (by omega) (by omega)).1, ⟨by decide, by decide, (mul _ (by omega) (by omega)).2⟩, fun ns2 hn2 => ⟨⟨hl, by decide⟩, fun z3 => ⟨.inl ⟨by decide, by decide⟩, ?_⟩⟩⟩
    rw [show atI [D.int (1 + q1), D.int (1 + q2), D.int q3] (1 + 1) = some (.int q3) from rfl, asA_some]
    refine ⟨(mul _ (by omega) (by omega)).1, ⟨by decide, by decide, (mul _ (by omega) (by omega)).2⟩, fun ns3 hn3 => ?_⟩
    simp only [w_L_pair_3b9_t5, wSeq, wSet, wAsg, wC, wIfS, wB, wOp, oI, oI0, asI, asS, asL, asLT, asT, asB, asA_some, asA_none, asO, asOL, asOD, asKey, asDic, asSq, oLen, oMod, oAdd, oSub, oMul, oDiv, oMax, oMin, oPlus, oEqX, oNeX, eqX_int, eqX_str, eqX_bl, oCmp, oLtX, oLeX, oGtX, oGeX, oIxX, oInX, wCB, wCons, wNil, wVar, wMove, nth, put, startR, wNext, wRet, wRetN, wDrop, wFor, wiR1, wiR2, wiX, itemsOf, wgName, wgTup, wgCons, wgNil, wLend, wLendT, seeR_cons, seeR_nil, seeO_d, seeO_none, seeO_ol, seeO_od, wJoin, wM, oAppend, oPop, oPopAt, wDPut, wDPop, wSortK, wDict0, wTup, wLst, wCall, wAnd, wOr, wNot, wAndV, wOrV, wNotV, wIf, wYes, wLc, wiEnumX, oListX, oTuple, oSort, oSortSet, oAll, oAny, S.fz, S.own, D.flat, txts_map, bools_map, txtKeys_map, List.length_map, List.map_cons, List.map_nil, List.length_cons, List.length_nil, List.cons_append, List.nil_append, List.replicate, decide_eq_true_eq, Bool.not_eq_true', Bool.not_true, Bool.not_false, if_true, if_false, Nat.zero_add, Nat.reduceAdd, Nat.reduceSub, ge_iff_le, true_and, and_true, zip_unzip, Bool.false_xor, Bool.true_xor, Bool.false_eq_true, Bool.true_eq_false, reduceIte, wipeR, dataR_cons, dataR_nil, dataO_d, dataO_none, dataO_ol, dataO_od, oDict, oIsi, tyD, isiB, wSl, wPart, wNoP, oSl, wDisp1, wDGet2, oRemove, atI_0, atI_1, atI_2, wiRev, revItems, oDictP, wForK, wiKeys, kD, oSortX, oPow, oBitAnd, oShl, oNeg, wUn, oInt, oStr, oDivmod, oIs, isD, wChain, wFz, wFzE, frzR, wLSet, wiZip, seqsD, wiVals, wiItems, wOIx, wNo, Option.isSome_some, oMulX, wM1, oSplit, oPart, oStrip1, oRep, oSum, intsD, wRaise, wLI, wLK
, wiR3, wLR, wDisp, wPairs, oReverse, oClear, oInsert, wRevL, wDZ, seqLT, oSortIT, wOFld, wSFld, asOI, setOI, putG, wPar, wiItemsC, wiValsC, wIndexL, wDZO, wLO, wiZip3, sp_L_form_898, sp_L_form_ebc, atI_0, atI_1, atI_2, intsD_ints, asA_some, fD]
    split
    · exact ⟨⟨hs, hn2⟩, fun f hf hfo => ⟨⟨hs, hn3⟩, fun g hg hgo => ⟨by decide, hq f g hf hfo hg hgo⟩⟩⟩
    simp only [w_L_pair_3b9_t6, wSeq, wSet, wAsg, wC, wIfS, wB, wOp, oI, oI0, asI, asS, asL, asLT, asT, asB, asA_some, asA_none, asO, asOL, asOD, asKey, asDic, asSq, oLen, oMod, oAdd, oSub, oMul, oDiv, oMax, oMin, oPlus, oEqX, oNeX, eqX_int, eqX_str, eqX_bl, oCmp, oLtX, oLeX, oGtX, oGeX, oIxX, oInX, wCB, wCons, wNil, wVar, wMove, nth, put, startR, wNext, wRet, wRetN, wDrop, wFor, wiR1, wiR2, wiX, itemsOf, wgName, wgTup, wgCons, wgNil, wLend, wLendT, seeR_cons, seeR_nil, seeO_d, seeO_none, seeO_ol, seeO_od, wJoin, wM, oAppend, oPop, oPopAt, wDPut, wDPop, wSortK, wDict0, wTup, wLst, wCall, wAnd, wOr, wNot, wAndV, wOrV, wNotV, wIf, wYes, wLc, wiEnumX, oListX, oTuple, oSort, oSortSet, oAll, oAny, S.fz, S.own, D.flat, txts_map, bools_map, txtKeys_map, List.length_map, List.map_cons, List.map_nil, List.length_cons, List.length_nil, List.cons_append, List.nil_append, List.replicate, decide_eq_true_eq, Bool.not_eq_true', Bool.not_true, Bool.not_false, if_true, if_false, Nat.zero_add, Nat.reduceAdd, Nat.reduceSub, ge_iff_le, true_and, and_true, zip_unzip, Bool.false_xor, Bool.true_xor, Bool.false_eq_true, Bool.true_eq_false, reduceIte, wipeR, dataR_cons, dataR_nil, dataO_d, dataO_none, dataO_ol, dataO_od, oDict, oIsi, tyD, isiB, wSl, wPart, wNoP, oSl, wDisp1, wDGet2, oRemove, atI_0, atI_1, atI_2, wiRev, revItems, oDictP, wForK, wiKeys, kD, oSortX, oPow, oBitAnd, oShl, oNeg, wUn, oInt, oStr, oDivmod, oIs, isD, wChain, wFz, wFzE, frzR, wLSet, wiZip, seqsD, wiVals, wiItems, wOIx, wNo, Option.isSome_some, oMulX, wM1, oSplit, oPart, oStrip1, oRep, oSum, intsD, wRaise, wLI, wLK
, wiR3, wLR, wDisp, wPairs, oReverse, oClear, oInsert, wRevL, wDZ, seqLT, oSortIT, wOFld, wSFld, asOI, setOI, putG, wPar, wiItemsC, wiValsC, wIndexL, wDZO, wLO, wiZip3, sp_L_form_898, sp_L_form_ebc, sp_L_numbers_81e, sp_L_cell_808, atI_0, atI_1, atI_2, intsD_ints, asA_some, fD]
    refine ⟨⟨hl, by decide⟩, fun z4 => ⟨⟨by decide, by decide, by omega, by omega⟩, fun ns4 hn4 => ⟨⟨ha, hn4⟩, fun mid hmid hmido => ?_⟩⟩⟩
    have la := ha.len
    have lb := hb.len
    have lc := hc.len
    have nab := nodup_apart ha hb ab
    have nac := nodup_apart ha hc ac
    have lab : (sg (a ++ b)).length ≤ 18 := by rw [sg_append, List.length_append]; omega
    have lac : (sg (a ++ c)).length ≤ 18 := by rw [sg_append, List.length_append]; omega
    have pab : Prd (lets (a ++ b)) := prd_lets fun d hd => by rw [sg_append] at hd; exact (List.mem_append.mp hd).elim (ha.le d) (hb.le d)
    have pac : Prd (lets (a ++ c)) := prd_lets fun d hd => by rw [sg_append] at hd; exact (List.mem_append.mp hd).elim (ha.le d) (hc.le d)
    have sab : ∀ d ∈ sg (lets (a ++ b)), d ∈ sg s := fun d hd => by
      have := ((sg_lets _).2 d).mp hd
      rw [sg_append] at this
      exact (List.mem_append.mp this).elim (has d) (hbs d)
    have sac : ∀ d ∈ sg (lets (a ++ c)), d ∈ sg s := fun d hd => by
      have := ((sg_lets _).2 d).mp hd
      rw [sg_append] at this
      exact (List.mem_append.mp this).elim (has d) (hcs d)
    simp only [w_L_pair_3b9_t7, wSeq, wSet, wAsg, wC, wIfS, wB, wOp, oI, oI0, asI, asS, asL, asLT, asT, asB, asA_some, asA_none, asO, asOL, asOD, asKey, asDic, asSq, oLen, oMod, oAdd, oSub, oMul, oDiv, oMax, oMin, oPlus, oEqX, oNeX, eqX_int, eqX_str, eqX_bl, oCmp, oLtX, oLeX, oGtX, oGeX, oIxX, oInX, wCB, wCons, wNil, wVar, wMove, nth, put, startR, wNext, wRet, wRetN, wDrop, wFor, wiR1, wiR2, wiX, itemsOf, wgName, wgTup, wgCons, wgNil, wLend, wLendT, seeR_cons, seeR_nil, seeO_d, seeO_none, seeO_ol, seeO_od, wJoin, wM, oAppend, oPop, oPopAt, wDPut, wDPop, wSortK, wDict0, wTup, wLst, wCall, wAnd, wOr, wNot, wAndV, wOrV, wNotV, wIf, wYes, wLc, wiEnumX, oListX, oTuple, oSort, oSortSet, oAll, oAny, S.fz, S.own, D.flat, txts_map, bools_map, txtKeys_map, List.length_map, List.map_cons, List.map_nil, List.length_cons, List.length_nil, List.cons_append, List.nil_append, List.replicate, decide_eq_true_eq, Bool.not_eq_true', Bool.not_true, Bool.not_false, if_true, if_false, Nat.zero_add, Nat.reduceAdd, Nat.reduceSub, ge_iff_le, true_and, and_true, zip_unzip, Bool.false_xor, Bool.true_xor, Bool.false_eq_true, Bool.true_eq_false, reduceIte, wipeR, dataR_cons, dataR_nil, dataO_d, dataO_none, dataO_ol, dataO_od, oDict, oIsi, tyD, isiB, wSl, wPart, wNoP, oSl, wDisp1, wDGet2, oRemove, atI_0, atI_1, atI_2, wiRev, revItems, oDictP, wForK, wiKeys, kD, oSortX, oPow, oBitAnd, oShl, oNeg, wUn, oInt, oStr, oDivmod, oIs, isD, wChain, wFz, wFzE, frzR, wLSet, wiZip, seqsD, wiVals, wiItems, wOIx, wNo, Option.isSome_some, oMulX, wM1, oSplit, oPart, oStrip1, oRep, oSum, intsD, wRaise, wLI, wLK
, wiR3, wLR, wDisp, wPairs, oReverse, oClear, oInsert, wRevL, wDZ, seqLT, oSortIT, wOFld, wSFld, asOI, setOI, putG, wPar, wiItemsC, wiValsC, wIndexL, wDZO, wLO, wiZip3, sp_L_form_898, sp_L_form_ebc, sp_L_times_593, sp_multiplied, atI_0, atI_1, atI_2, intsD_ints, asA_some, fD, asF_tq]
    have eab : Txt.join (Str.ofString "") (srt (signs (a ++ b))) = lets (a ++ b) := join_srt nab
    have eac : Txt.join (Str.ofString "") (srt (signs (a ++ c))) = lets (a ++ c) := join_srt nac
    rw [eab]
    refine ⟨by rw [sg_len, sg_len, len0]; omega, by rw [sg_len, len0]; omega, srt_fit (by omega), ⟨pab, hn2⟩, fun f2 hf2 hf2o => ⟨⟨hmid, hf2⟩, ?_⟩⟩
    have os : ∀ {u : Str} {f : List Str}, (∀ d ∈ sg u, d ∈ sg s) → Over u f → Over s f := fun hu hf p hp d hd => hu d (hf p hp d hd)
    have h1 : Frm (mulF mid f2) := frm_mul hmid hf2
    have h1o : Over s (mulF mid f2) := over_mul (os has hmido) (os sab hf2o)
    generalize mulF mid f2 = one1 at h1 h1o ⊢
    simp only [w_L_pair_3b9_t8, wSeq, wSet, wAsg, wC, wIfS, wB, wOp, oI, oI0, asI, asS, asL, asLT, asT, asB, asA_some, asA_none, asO, asOL, asOD, asKey, asDic, asSq, oLen, oMod, oAdd, oSub, oMul, oDiv, oMax, oMin, oPlus, oEqX, oNeX, eqX_int, eqX_str, eqX_bl, oCmp, oLtX, oLeX, oGtX, oGeX, oIxX, oInX, wCB, wCons, wNil, wVar, wMove, nth, put, startR, wNext, wRet, wRetN, wDrop, wFor, wiR1, wiR2, wiX, itemsOf, wgName, wgTup, wgCons, wgNil, wLend, wLendT, seeR_cons, seeR_nil, seeO_d, seeO_none, seeO_ol, seeO_od, wJoin, wM, oAppend, oPop, oPopAt, wDPut, wDPop, wSortK, wDict0, wTup, wLst, wCall, wAnd, wOr, wNot, wAndV, wOrV, wNotV, wIf, wYes, wLc, wiEnumX, oListX, oTuple, oSort, oSortSet, oAll, oAny, S.fz, S.own, D.flat, txts_map, bools_map, txtKeys_map, List.length_map, List.map_cons, List.map_nil, List.length_cons, List.length_nil, List.cons_append, List.nil_append, List.replicate, decide_eq_true_eq, Bool.not_eq_true', Bool.not_true, Bool.not_false, if_true, if_false, Nat.zero_add, Nat.reduceAdd, Nat.reduceSub, ge_iff_le, true_and, and_true, zip_unzip, Bool.false_xor, Bool.true_xor, Bool.false_eq_true, Bool.true_eq_false, reduceIte, wipeR, dataR_cons, dataR_nil, dataO_d, dataO_none, dataO_ol, dataO_od, oDict, oIsi, tyD, isiB, wSl, wPart, wNoP, oSl, wDisp1, wDGet2, oRemove, atI_0, atI_1, atI_2, wiRev, revItems, oDictP, wForK, wiKeys, kD, oSortX, oPow, oBitAnd, oShl, oNeg, wUn, oInt, oStr, oDivmod, oIs, isD, wChain, wFz, wFzE, frzR, wLSet, wiZip, seqsD, wiVals, wiItems, wOIx, wNo, Option.isSome_some, oMulX, wM1, oSplit, oPart, oStrip1, oRep, oSum, intsD, wRaise, wLI, wLK
, wiR3, wLR, wDisp, wPairs, oReverse, oClear, oInsert, wRevL, wDZ, seqLT, oSortIT, wOFld, wSFld, asOI, setOI, putG, wPar, wiItemsC, wiValsC, wIndexL, wDZO, wLO, wiZip3, sp_L_form_898, sp_L_form_ebc, atI_0, atI_1, atI_2, intsD_ints, asA_some, fD]
    rw [eac]
    refine ⟨by rw [sg_len, sg_len, len0]; omega, by rw [sg_len, len0]; omega, srt_fit (by omega), ⟨pac, hn3⟩, fun f3 hf3 hf3o => ?_⟩
    have l1 := hmid.len
    have l2 := hf3.len
    have hm3 : Frm (mulF mid f3) := frm_mul hmid hf3
    have l3 := hm3.len
    have l4 := h1.len
    have l5 := h1
    simp only [w_L_pair_3b9_t9, wSeq, wSet, wAsg, wC, wIfS, wB, wOp, oI, oI0, asI, asS, asL, asLT, asT, asB, asA_some, asA_none, asO, asOL, asOD, asKey, asDic, asSq, oLen, oMod, oAdd, oSub, oMul, oDiv, oMax, oMin, oPlus, oEqX, oNeX, eqX_int, eqX_str, eqX_bl, oCmp, oLtX, oLeX, oGtX, oGeX, oIxX, oInX, wCB, wCons, wNil, wVar, wMove, nth, put, startR, wNext, wRet, wRetN, wDrop, wFor, wiR1, wiR2, wiX, itemsOf, wgName, wgTup, wgCons, wgNil, wLend, wLendT, seeR_cons, seeR_nil, seeO_d, seeO_none, seeO_ol, seeO_od, wJoin, wM, oAppend, oPop, oPopAt, wDPut, wDPop, wSortK, wDict0, wTup, wLst, wCall, wAnd, wOr, wNot, wAndV, wOrV, wNotV, wIf, wYes, wLc, wiEnumX, oListX, oTuple, oSort, oSortSet, oAll, oAny, S.fz, S.own, D.flat, txts_map, bools_map, txtKeys_map, List.length_map, List.map_cons, List.map_nil, List.length_cons, List.length_nil, List.cons_append, List.nil_append, List.replicate, decide_eq_true_eq, Bool.not_eq_true', Bool.not_true, Bool.not_false, if_true, if_false, Nat.zero_add, Nat.reduceAdd, Nat.reduceSub, ge_iff_le, true_and, and_true, zip_unzip, Bool.false_xor, Bool.true_xor, Bool.false_eq_true, Bool.true_eq_false, reduceIte, wipeR, dataR_cons, dataR_nil, dataO_d, dataO_none, dataO_ol, dataO_od, oDict, oIsi, tyD, isiB, wSl, wPart, wNoP, oSl, wDisp1, wDGet2, oRemove, atI_0, atI_1, atI_2, wiRev, revItems, oDictP, wForK, wiKeys, kD, oSortX, oPow, oBitAnd, oShl, oNeg, wUn, oInt, oStr, oDivmod, oIs, isD, wChain, wFz, wFzE, frzR, wLSet, wiZip, seqsD, wiVals, wiItems, wOIx, wNo, Option.isSome_some, oMulX, wM1, oSplit, oPart, oStrip1, oRep, oSum, intsD, wRaise, wLI, wLK
, wiR3, wLR, wDisp, wPairs, oReverse, oClear, oInsert, wRevL, wDZ, seqLT, oSortIT, wOFld, wSFld, asOI, setOI, putG, wPar, wiItemsC, wiValsC, wIndexL, wDZO, wLO, wiZip3, sp_L_times_593, sp_multiplied, sp_L_turned_e82, fD, asF_tq]
    rw [← List.map_append, ← List.map_append, txts_map, asA_some]
    refine ⟨by rw [len0]; omega, ⟨hmid, hf3⟩, by rw [List.length_map, List.length_append, len0]; omega, by rw [List.length_append, List.length_append]; omega, ?_⟩
    have h2 : Frm (gath (mid ++ f3 ++ mulF mid f3)) := gath_frm fun p hp => by
      rcases List.mem_append.mp hp with z | z
      · rcases List.mem_append.mp z with z | z
        · exact hmid.prd p z
        · exact hf3.prd p z
      · exact hm3.prd p z
    have h2o : Over s (gath (mid ++ f3 ++ mulF mid f3)) := fun p hp => by
      have := odds_sub ((srt_perm _).mem_iff.mp hp)
      rcases List.mem_append.mp this with z | z
      · rcases List.mem_append.mp z with z | z
        · exact os has hmido p z
        · exact os sac hf3o p z
      · exact over_mul (os has hmido) (os sac hf3o) p z
    generalize gath (mid ++ f3 ++ mulF mid f3) = two at h2 h2o ⊢
    simp only [w_L_pair_3b9_t10, w_L_pair_3b9_t11, wSeq, wSet, wAsg, wC, wIfS, wB, wOp, oI, oI0, asI, asS, asL, asLT, asT, asB, asA_some, asA_none, asO, asOL, asOD, asKey, asDic, asSq, oLen, oMod, oAdd, oSub, oMul, oDiv, oMax, oMin, oPlus, oEqX, oNeX, eqX_int, eqX_str, eqX_bl, oCmp, oLtX, oLeX, oGtX, oGeX, oIxX, oInX, wCB, wCons, wNil, wVar, wMove, nth, put, startR, wNext, wRet, wRetN, wDrop, wFor, wiR1, wiR2, wiX, itemsOf, wgName, wgTup, wgCons, wgNil, wLend, wLendT, seeR_cons, seeR_nil, seeO_d, seeO_none, seeO_ol, seeO_od, wJoin, wM, oAppend, oPop, oPopAt, wDPut, wDPop, wSortK, wDict0, wTup, wLst, wCall, wAnd, wOr, wNot, wAndV, wOrV, wNotV, wIf, wYes, wLc, wiEnumX, oListX, oTuple, oSort, oSortSet, oAll, oAny, S.fz, S.own, D.flat, txts_map, bools_map, txtKeys_map, List.length_map, List.map_cons, List.map_nil, List.length_cons, List.length_nil, List.cons_append, List.nil_append, List.replicate, decide_eq_true_eq, Bool.not_eq_true', Bool.not_true, Bool.not_false, if_true, if_false, Nat.zero_add, Nat.reduceAdd, Nat.reduceSub, ge_iff_le, true_and, and_true, zip_unzip, Bool.false_xor, Bool.true_xor, Bool.false_eq_true, Bool.true_eq_false, reduceIte, wipeR, dataR_cons, dataR_nil, dataO_d, dataO_none, dataO_ol, dataO_od, oDict, oIsi, tyD, isiB, wSl, wPart, wNoP, oSl, wDisp1, wDGet2, oRemove, atI_0, atI_1, atI_2, wiRev, revItems, oDictP, wForK, wiKeys, kD, oSortX, oPow, oBitAnd, oShl, oNeg, wUn, oInt, oStr, oDivmod, oIs, isD, wChain, wFz, wFzE, frzR, wLSet, wiZip, seqsD, wiVals, wiItems, wOIx, wNo, Option.isSome_some, oMulX, wM1, oSplit, oPart, oStrip1, oRep, oSum, intsD, wRaise, wLI, wLK
, wiR3, wLR, wDisp, wPairs, oReverse, oClear, oInsert, wRevL, wDZ, seqLT, oSortIT, wOFld, wSFld, asOI, setOI, putG, wPar, wiItemsC, wiValsC, wIndexL, wDZO, wLO, wiZip3, sp_L_form_898, sp_L_form_ebc, sp_L_numbers_81e, sp_L_cell_808, sp_L_turned_e82, intsD_ints, asA_some, fD]
    split
    · refine ⟨⟨hl, by decide⟩, fun z5 => ⟨by decide, fun ns5 hn5 => ⟨⟨hs, hn5⟩, fun f5 hf5 hf5o => ?_⟩⟩⟩
      have l6 := hf5.len
      rw [← List.map_append, txts_map, asA_some]
      refine ⟨by rw [len0]; omega, by rw [List.length_append]; omega, by decide, ?_⟩
      exact hq (addedF one1 f5) two (frm_added h1 hf5) (over_added h1o hf5o) h2 h2o
    · exact ⟨by decide, hq one1 two h1 h1o h2 h2o⟩
  · exact h.elim
end DL
namespace DL
open PySem L2
def pairB (φ : Bool → Bool → Bool) (s : Nat) (L : List Bool) (k : Nat) : Bool := if k / s % 2 = 1 then φ (L.getD (k - s) false) (L.getD k false) else φ (L.getD k false) (L.getD (k + s) false)
def pairL (φ : Bool → Bool → Bool) (s : Nat) (L : List Bool) : List Bool := (List.range L.length).map (pairB φ s L)
theorem low_half {s m k : Nat} (hs : 0 < s) (hk : k < 2 * s * m) (z : k / s % 2 = 0) : k + s < 2 * s * m := by
  have e : 2 * s * m = s * (2 * m) := by ac_rfl
  rw [e] at hk ⊢
  have h1 : k / s < 2 * m := Nat.div_lt_of_lt_mul hk
  have h2 : k / s + 2 ≤ 2 * m := by omega
  have h3 := Nat.mul_le_mul_left s h2
  have d1 : k = s * (k / s) + k % s := (Nat.div_add_mod k s).symm
  have d2 : k % s < s := Nat.mod_lt _ hs
  rw [Nat.mul_add] at h3
  omega
theorem pairL_app {φ : Bool → Bool → Bool} {s m : Nat} {A B : List Bool} (hs : 0 < s) (h : A.length = 2 * s * m) : pairL φ s (A ++ B) = pairL φ s A ++ pairL φ s B := by
  apply List.ext_getElem
  · simp [pairL]
  · intro k h1 h2
    have hk : k < A.length + B.length := by simpa [pairL] using h1
    have e0 : ∀ j, j / s % 2 = (j - A.length) / s % 2 ∨ j < A.length := fun j => by
      by_cases z : j < A.length
      · exact .inr z
      · left
        have : j = (j - A.length) + s * (2 * m) := by rw [show s * (2 * m) = A.length by rw [h]; ac_rfl]; omega
        conv => lhs; rw [this]
        rw [Nat.add_mul_div_left _ _ hs]
        omega
    by_cases ha : k < A.length
    · rw [List.getElem_append_left (by simpa [pairL] using ha)]
      simp only [pairL, List.getElem_map, List.getElem_range]
      unfold pairB
      by_cases z : k / s % 2 = 1
      · rw [if_pos z, if_pos z, getD_l ha, getD_l (by omega)]
      · rw [if_neg z, if_neg z, getD_l ha]
        have hlt : k + s < A.length := by rw [h]; exact low_half hs (by omega) (by omega)
        rw [getD_l hlt]
    · rw [List.getElem_append_right (by simpa [pairL] using ha)]
      simp only [pairL, List.getElem_map, List.getElem_range, List.length_map, List.length_range]
      have e1 := (e0 k).resolve_right ha
      unfold pairB
      rw [e1]
      by_cases z : (k - A.length) / s % 2 = 1
      · have hge : s ≤ k - A.length := by
          rcases Nat.lt_or_ge (k - A.length) s with q | q
          · rw [Nat.div_eq_of_lt q] at z; exact absurd z (by decide)
          · exact q
        rw [if_pos z, if_pos z, getD_r (show A.length ≤ k - s by omega), getD_r (show A.length ≤ k by omega), show k - s - A.length = k - A.length - s by omega]
      · rw [if_neg z, if_neg z, getD_r (show A.length ≤ k by omega), getD_r (show A.length ≤ k + s by omega), show k + s - A.length = k - A.length + s by omega]
theorem pairL_two {φ : Bool → Bool → Bool} {s : Nat} {A B : List Bool} (hs : 0 < s) (hA : A.length = s) (hB : B.length = s) : pairL φ s (A ++ B) = List.zipWith φ A B ++ List.zipWith φ A B := by
  apply List.ext_getElem
  · simp [pairL, hA, hB]
  · intro k h1 h2
    have hk : k < A.length + B.length := by simpa [pairL] using h1
    simp only [pairL, List.getElem_map, List.getElem_range]
    unfold pairB
    by_cases ha : k < A.length
    · rw [if_neg (by rw [Nat.div_eq_of_lt (by omega)]; decide), List.getElem_append_left (by rw [List.length_zipWith]; omega), List.getElem_zipWith, getD_l ha, getD_r (by omega), getD_in ha, getD_in (show k + s - A.length < B.length by omega)]
      congr 2
      omega
    · have e : k / s = 1 := Nat.div_eq_of_lt_le (by omega) (by omega)
      rw [if_pos (by rw [e]), List.getElem_append_right (by rw [List.length_zipWith]; omega), List.getElem_zipWith, getD_l (show k - s < A.length by omega), getD_r (show A.length ≤ k by omega), getD_in (show k - A.length < B.length by omega), getD_in (show k - s < A.length by omega)]
      simp only [List.length_zipWith, hA, hB, Nat.min_self]
theorem tabV_pair (φ : Bool → Bool → Bool) {c : Nat} {rest : List Nat} : ∀ (done : List Nat) (h : (Nat → Bool) → Bool) (r : Nat → Bool), (done ++ c :: rest).Nodup → pairL φ (2 ^ rest.length) (tabV (done ++ c :: rest) h r) = tabV (done ++ c :: rest) (fun x => φ (h (updR x c false)) (h (updR x c true))) r
  | [], h, r, hn => by
    have hc : c ∉ rest := (List.nodup_cons.mp hn).1
    rw [List.nil_append, tabV, tabV, pairL_two (Nat.two_pow_pos _) (tabV_len _ _ _) (tabV_len _ _ _), tabV_upd _ _ hc, tabV_upd _ _ hc, tabV_upd _ _ hc, tabV_upd _ _ hc, tabV_zip]
    have uu : ∀ (x : Nat → Bool) (a b : Bool), updR (updR x c a) c b = updR x c b := fun x a b => by
      funext d; unfold updR; split <;> rfl
    simp only [uu]
  | d :: done, h, r, hn => by
    have hn' := (List.nodup_cons.mp hn).2
    rw [List.cons_append, tabV, tabV, pairL_app (m := 2 ^ done.length) (Nat.two_pow_pos _) (by rw [tabV_len, List.length_append, List.length_cons, ← Nat.add_assoc, Nat.pow_succ, Nat.pow_add]; ac_rfl), tabV_pair φ done _ _ hn', tabV_pair φ done _ _ hn']
def tpB (φ : Bool → Bool → Bool) (s : Nat) (L : List Bool) (j i : Nat) : List D := (List.range L.length).map fun x => D.bl (if x / (s + s) < j ∨ (x / (s + s) = j ∧ x % s < i) then pairB φ s L x else L.getD x false)
theorem tpB_len (φ : Bool → Bool → Bool) (s : Nat) (L : List Bool) (j i : Nat) : (tpB φ s L j i).length = L.length := by simp [tpB]
theorem tpB_0 (φ : Bool → Bool → Bool) (s : Nat) (L : List Bool) : tpB φ s L 0 0 = L.map .bl := by
  unfold tpB
  apply List.ext_getElem
  · simp
  · intro k h1 h2
    simp only [List.getElem_map, List.getElem_range, Nat.not_lt_zero, and_false, or_false, if_false]
    rw [getD_in (by simpa using h1)]
theorem tpB_end {φ : Bool → Bool → Bool} {s m : Nat} {L : List Bool} (hs : 0 < s) (h : L.length = (s + s) * m) : tpB φ s L m 0 = (pairL φ s L).map .bl := by
  unfold tpB pairL
  rw [List.map_map]
  refine List.map_congr_left fun k hk => ?_
  have : k / (s + s) < m := by rw [Nat.div_lt_iff_lt_mul (by omega), Nat.mul_comm, ← h]; exact List.mem_range.mp hk
  rw [if_pos (.inl this)]; rfl
theorem tpB_next {φ : Bool → Bool → Bool} {s : Nat} {L : List Bool} {j : Nat} (hs : 0 < s) : tpB φ s L j s = tpB φ s L (j + 1) 0 := by
  unfold tpB
  refine List.map_congr_left fun k _ => ?_
  have hm := Nat.mod_lt k hs
  have : (k / (s + s) < j ∨ (k / (s + s) = j ∧ k % s < s)) ↔ (k / (s + s) < j + 1 ∨ (k / (s + s) = j + 1 ∧ k % s < 0)) := by
    constructor
    · rintro (z | ⟨z, _⟩)
      · exact .inl (by omega)
      · exact .inl (by omega)
    · rintro (z | ⟨_, z⟩)
      · rcases Nat.lt_or_ge (k / (s + s)) j with q | q
        · exact .inl q
        · exact .inr ⟨by omega, hm⟩
      · omega
  by_cases z : k / (s + s) < j ∨ (k / (s + s) = j ∧ k % s < s)
  · rw [if_pos z, if_pos (this.mp z)]
  · rw [if_neg z, if_neg fun q => z (this.mpr q)]
theorem blk {s j i : Nat} (hi : i < s) : (j * (s + s) + i) / (s + s) = j ∧ (j * (s + s) + i) % s = i ∧ (j * (s + s) + s + i) / (s + s) = j ∧ (j * (s + s) + s + i) % s = i ∧ (j * (s + s) + i) / s % 2 = 0 ∧ (j * (s + s) + s + i) / s % 2 = 1 := by
  have h1 : j * (s + s) = s * (2 * j) := by rw [Nat.mul_comm, ← Nat.two_mul, Nat.mul_assoc]; ac_rfl
  have h2 : j * (s + s) + s = s * (2 * j + 1) := by rw [h1, Nat.mul_add, Nat.mul_one]
  have hs : 0 < s := by omega
  refine ⟨?_, ?_, ?_, ?_, ?_, ?_⟩
  · rw [Nat.mul_comm, Nat.mul_add_div (by omega), Nat.div_eq_of_lt (by omega), Nat.add_zero]
  · rw [h1, Nat.mul_add_mod, Nat.mod_eq_of_lt hi]
  · rw [Nat.add_assoc, Nat.mul_comm, Nat.mul_add_div (by omega), Nat.div_eq_of_lt (by omega), Nat.add_zero]
  · rw [h2, Nat.mul_add_mod, Nat.mod_eq_of_lt hi]
  · rw [h1, Nat.mul_add_div hs, Nat.div_eq_of_lt hi]; omega
  · rw [h2, Nat.mul_add_div hs, Nat.div_eq_of_lt hi]; omega
theorem blk_inv {s j i x : Nat} (hs : 0 < s) (h1 : x / (s + s) = j) (h2 : x % s = i) : x = j * (s + s) + i ∨ x = j * (s + s) + s + i := by
  have d1 : x = (s + s) * (x / (s + s)) + x % (s + s) := (Nat.div_add_mod x (s + s)).symm
  have d2 : x % (s + s) < s + s := Nat.mod_lt _ (by omega)
  have d3 : x % (s + s) % s = x % s := Nat.mod_mod_of_dvd x ⟨2, by omega⟩
  rw [h1, Nat.mul_comm] at d1
  generalize x % (s + s) = y at d1 d2 d3
  rw [h2] at d3
  by_cases z : y < s
  · rw [Nat.mod_eq_of_lt z] at d3; omega
  · rw [Nat.mod_eq_sub_mod (by omega), Nat.mod_eq_of_lt (by omega)] at d3; omega
theorem tpB_at {φ : Bool → Bool → Bool} {s : Nat} {L : List Bool} {j i : Nat} (hi : i < s) {k : Nat} (hk : k < L.length) (h : k = j * (s + s) + i ∨ k = j * (s + s) + s + i) : atI (tpB φ s L j i) (k : Int) = some (.bl (L.getD k false)) := by
  rw [atI_nat (by rw [tpB_len]; exact hk)]
  simp only [tpB, List.getElem_map, List.getElem_range]
  obtain ⟨b1, b2, b3, b4, _, _⟩ := blk (j := j) hi
  rw [if_neg]
  rcases h with rfl | rfl
  · rw [b1, b2]; omega
  · rw [b3, b4]; omega
theorem tpB_set {φ : Bool → Bool → Bool} {s : Nat} {L : List Bool} {j i : Nat} (hi : i < s) : ((tpB φ s L j i).set (j * (s + s) + s + i) (.bl (φ (L.getD (j * (s + s) + i) false) (L.getD (j * (s + s) + s + i) false)))).set (j * (s + s) + i) (.bl (φ (L.getD (j * (s + s) + i) false) (L.getD (j * (s + s) + s + i) false))) = tpB φ s L j (i + 1) := by
  obtain ⟨b1, b2, b3, b4, b5, b6⟩ := blk (j := j) hi
  apply List.ext_getElem
  · simp [tpB]
  · intro x h1 h2
    rw [List.getElem_set, List.getElem_set]
    simp only [tpB, List.getElem_map, List.getElem_range]
    by_cases z : j * (s + s) + i = x
    · subst z
      rw [if_pos rfl, b1, b2, if_pos (.inr ⟨rfl, by omega⟩), pairB, if_neg (by omega), show j * (s + s) + i + s = j * (s + s) + s + i by omega]
    · rw [if_neg z]
      by_cases y : j * (s + s) + s + i = x
      · subst y
        rw [if_pos rfl, b3, b4, if_pos (.inr ⟨rfl, by omega⟩), pairB, if_pos b6, show j * (s + s) + s + i - s = j * (s + s) + i by omega]
      · rw [if_neg y]
        have : (x / (s + s) < j ∨ (x / (s + s) = j ∧ x % s < i)) ↔ (x / (s + s) < j ∨ (x / (s + s) = j ∧ x % s < i + 1)) := by
          constructor
          · rintro (q | ⟨q, q2⟩)
            · exact .inl q
            · exact .inr ⟨q, by omega⟩
          · rintro (q | ⟨q, q2⟩)
            · exact .inl q
            · rcases Nat.lt_or_ge (x % s) i with w | w
              · exact .inr ⟨q, w⟩
              · rcases blk_inv (by omega) q (show x % s = i by omega) with e | e
                · exact absurd e.symm z
                · exact absurd e.symm y
        by_cases w : x / (s + s) < j ∨ (x / (s + s) = j ∧ x % s < i)
        · rw [if_pos w, if_pos (this.mp w)]
        · rw [if_neg w, if_neg fun q => w (this.mpr q)]
def sp_L_taken_380 : DSp := fun ds P _ => match ds with
  | [.lst xs, .str s, .lst gs, .bl b] => asA (bools xs) fun L => asA (txts gs) fun G => ∃ (f : List Str) (gone : List Nat), (L = tabF (sg s) f ∧ G = gone.map one ∧ (sg s).Nodup ∧ (sg s).length ≤ 9) ∧ P (.ol ((tabF (sg s) (if b = true then someF f ((sg s).filter fun c => decide (c ∈ gone)) else everyF f ((sg s).filter fun c => decide (c ∈ gone)))).map .bl))
  | _ => False
abbrev N_L_taken_380 : List Str := ["_law_table_here", "_law_letters_here", "_law_gone", "_law_some", "_law_made", "_law_step", "_law_letter", "_law_start", "_law_k", "_law_truths"]
def w_L_taken_380_b1_t2 : WS := (wLSet 4 (wOp oSub (wVar 8) (wVar 5)) (wOIx 4 (wVar 8)))
def w_L_taken_380_b1_t1 : WS := wSeq (wLSet 4 (wVar 8) (wIf (wB (wVar 3)) (wOp (oInX false) (wC (.bl true)) (wVar 9)) (wOp (oInX true) (wC (.bl false)) (wVar 9))))
    w_L_taken_380_b1_t2
def w_L_taken_380_b1 : WS := wSeq (wAsg (wLst (wCons (wOIx 4 (wOp oSub (wVar 8) (wVar 5))) (wCons (wOIx 4 (wVar 8)) wNil))) (wgName 9))
    w_L_taken_380_b1_t1
def w_L_taken_380_b2_t1 : WS := (wIfS (wB (wOp (oInX false) (wVar 6) (wVar 2))) (wFor (wiR3 (wCons (wVar 5) (wCons (wCB oLen (wCons (wVar 0) wNil)) (wCons (wOp oPlus (wVar 5) (wVar 5)) wNil)))) (wgName 7)
      (wFor (wiR2 (wCons (wVar 7) (wCons (wOp oPlus (wVar 7) (wVar 5)) wNil))) (wgName 8)
      w_L_taken_380_b1)) wNext)
def w_L_taken_380_b2 : WS := wSeq (wAsg (wOp oDiv (wVar 5) (wC (.int 2))) (wgName 5))
    w_L_taken_380_b2_t1
def w_L_taken_380_t3 : WS := (wRet (wMove 4))
def w_L_taken_380_t2 : WS := wSeq (wFor (wiX (wVar 1)) (wgName 6)
      w_L_taken_380_b2)
    w_L_taken_380_t3
def w_L_taken_380_t1 : WS := wSeq (wAsg (wCB oLen (wCons (wVar 0) wNil)) (wgName 5))
    w_L_taken_380_t2
def w_L_taken_380 : WS := wSeq (wSet 4 (wCB oListX (wCons (wVar 0) wNil)))
    w_L_taken_380_t1
theorem len_L_taken_380 {ds Q px} (h : sp_L_taken_380 ds Q px) : ds.length = 4 := by unfold sp_L_taken_380 at h; split at h <;> first | rfl | exact h.elim
theorem bools_eqL : ∀ {xs : List D} {bs : List Bool}, bools xs = some bs → xs = bs.map .bl
  | [], bs, h => by cases h; rfl
  | x :: xs, bs, h => by
    cases x <;> first | (cases h) | skip
    rename_i i
    cases e : bools xs with
    | none => rw [bools, e] at h; cases h
    | some ms => rw [bools, e] at h; cases h; rw [bools_eqL e]; rfl
theorem rd_L_taken_380 {ds Q px} (h : sp_L_taken_380 ds Q px) : w_L_taken_380 ⟨fun _ => Q (.d .non), Q, fun _ => False, fun _ => False⟩ (startR N_L_taken_380 ds) := by
  unfold sp_L_taken_380 at h
  split at h
  · rename_i xs s gs b
    obtain ⟨L, eL, h⟩ := asA_of h
    obtain ⟨G, eG, f, gone, ⟨hL, hG, hn, h9⟩, hq⟩ := asA_of h
    clear h
    have ex := bools_eqL eL
    have eg := txts_eq eG
    subst ex eg hL hG
    have hN : 2 ^ (sg s).length ≤ 512 := Nat.pow_le_pow_right (n := 2) (by decide) h9
    have hN0 : 0 < 2 ^ (sg s).length := Nat.two_pow_pos _
    unfold w_L_taken_380
    simp only [N_L_taken_380, w_L_taken_380_t1, w_L_taken_380_t2, wSeq, wSet, wAsg, wC, wIfS, wB, wOp, oI, oI0, asI, asS, asL, asLT, asT, asB, asA_some, asA_none, asO, asOL, asOD, asKey, asDic, asSq, oLen, oMod, oAdd, oSub, oMul, oDiv, oMax, oMin, oPlus, oEqX, oNeX, eqX_int, eqX_str, eqX_bl, oCmp, oLtX, oLeX, oGtX, oGeX, oIxX, oInX, wCB, wCons, wNil, wVar, wMove, nth, put, startR, wNext, wRet, wRetN, wDrop, wFor, wiR1, wiR2, wiX, itemsOf, wgName, wgTup, wgCons, wgNil, wLend, wLendT, seeR_cons, seeR_nil, seeO_d, seeO_none, seeO_ol, seeO_od, wJoin, wM, oAppend, oPop, oPopAt, wDPut, wDPop, wSortK, wDict0, wTup, wLst, wCall, wAnd, wOr, wNot, wAndV, wOrV, wNotV, wIf, wYes, wLc, wiEnumX, oListX, oTuple, oSort, oSortSet, oAll, oAny, S.fz, S.own, D.flat, txts_map, bools_map, txtKeys_map, List.length_map, List.map_cons, List.map_nil, List.length_cons, List.length_nil, List.cons_append, List.nil_append, List.replicate, decide_eq_true_eq, Bool.not_eq_true', Bool.not_true, Bool.not_false, if_true, if_false, Nat.zero_add, Nat.reduceAdd, Nat.reduceSub, ge_iff_le, true_and, and_true, zip_unzip, Bool.false_xor, Bool.true_xor, Bool.false_eq_true, Bool.true_eq_false, reduceIte, wipeR, dataR_cons, dataR_nil, dataO_d, dataO_none, dataO_ol, dataO_od, oDict, oIsi, tyD, isiB, wSl, wPart, wNoP, oSl, wDisp1, wDGet2, oRemove, atI_0, atI_1, atI_2, wiRev, revItems, oDictP, wForK, wiKeys, kD, oSortX, oPow, oBitAnd, oShl, oNeg, wUn, oInt, oStr, oDivmod, oIs, isD, wChain, wFz, wFzE, frzR, wLSet, wiZip, seqsD, wiVals, wiItems, wOIx, wNo, Option.isSome_some, oMulX, wM1, oSplit, oPart, oStrip1, oRep, oSum, intsD, wRaise, wLI, wLK
, wiR3, wLR, wDisp, wPairs, oReverse, oClear, oInsert, wRevL, wDZ, seqLT, oSortIT, wOFld, wSFld, asOI, setOI, putG, wPar, wiItemsC, wiValsC, wIndexL, wDZO, wLO, wiZip3, tabF_len]
    have e3 : (signs s).map D.str = (sg s).map fun c => D.str (one c) := by rw [signs_eq, List.map_map]; rfl
    rw [e3]
    refine forD_map (I := fun done ys ρ => ∃ o6 o7 o8 o9 : Option S, ρ = [some (.d (.lst ((tabF (sg s) f).map .bl))), some (.d (.str s)), some (.d (.lst ((gone.map one).map .str))), some (.d (.bl b)), some (.ol ((tabF (sg s) (if b = true then someF f (done.filter fun c => decide (c ∈ gone)) else everyF f (done.filter fun c => decide (c ∈ gone)))).map .bl)), some (.d (.int ((2 ^ ys.length : Nat) : Int))), o6, o7, o8, o9]) mono_name (sg s) (fun done c ys ρ he hI => ?_) (fun ρ hI => ?_) _ ⟨none, none, none, none, by cases b <;> rfl⟩
    · obtain ⟨o6, o7, o8, o9, rfl⟩ := hI
      have hl := congrArg List.length he
      rw [List.length_append, List.length_cons] at hl
      rw [List.filter_append]
      have e5 : (((2 ^ (ys.length + 1) : Nat) : Int)) / 2 = ((2 ^ ys.length : Nat) : Int) := by rw [Nat.pow_succ]; omega
      simp only [w_L_taken_380_b2, w_L_taken_380_b2_t1, wSeq, wSet, wAsg, wC, wIfS, wB, wOp, oI, oI0, asI, asS, asL, asLT, asT, asB, asA_some, asA_none, asO, asOL, asOD, asKey, asDic, asSq, oLen, oMod, oAdd, oSub, oMul, oDiv, oMax, oMin, oPlus, oEqX, oNeX, eqX_int, eqX_str, eqX_bl, oCmp, oLtX, oLeX, oGtX, oGeX, oIxX, oInX, wCB, wCons, wNil, wVar, wMove, nth, put, startR, wNext, wRet, wRetN, wDrop, wFor, wiR1, wiR2, wiX, itemsOf, wgName, wgTup, wgCons, wgNil, wLend, wLendT, seeR_cons, seeR_nil, seeO_d, seeO_none, seeO_ol, seeO_od, wJoin, wM, oAppend, oPop, oPopAt, wDPut, wDPop, wSortK, wDict0, wTup, wLst, wCall, wAnd, wOr, wNot, wAndV, wOrV, wNotV, wIf, wYes, wLc, wiEnumX, oListX, oTuple, oSort, oSortSet, oAll, oAny, S.fz, S.own, D.flat, txts_map, bools_map, txtKeys_map, List.length_map, List.map_cons, List.map_nil, List.length_cons, List.length_nil, List.cons_append, List.nil_append, List.replicate, decide_eq_true_eq, Bool.not_eq_true', Bool.not_true, Bool.not_false, if_true, if_false, Nat.zero_add, Nat.reduceAdd, Nat.reduceSub, ge_iff_le, true_and, and_true, zip_unzip, Bool.false_xor, Bool.true_xor, Bool.false_eq_true, Bool.true_eq_false, reduceIte, wipeR, dataR_cons, dataR_nil, dataO_d, dataO_none, dataO_ol, dataO_od, oDict, oIsi, tyD, isiB, wSl, wPart, wNoP, oSl, wDisp1, wDGet2, oRemove, atI_0, atI_1, atI_2, wiRev, revItems, oDictP, wForK, wiKeys, kD, oSortX, oPow, oBitAnd, oShl, oNeg, wUn, oInt, oStr, oDivmod, oIs, isD, wChain, wFz, wFzE, frzR, wLSet, wiZip, seqsD, wiVals, wiItems, wOIx, wNo, Option.isSome_some, oMulX, wM1, oSplit, oPart, oStrip1, oRep, oSum, intsD, wRaise, wLI, wLK
, wiR3, wLR, wDisp, wPairs, oReverse, oClear, oInsert, wRevL, wDZ, seqLT, oSortIT, wOFld, wSFld, asOI, setOI, putG, wPar, wiItemsC, wiValsC, wIndexL, wDZO, wLO, wiZip3, e5, tabF_len]
      refine ⟨⟨by decide, by decide⟩, rfl, ?_, ?_⟩
      · rw [List.all_map]; exact List.all_eq_true.mpr fun _ _ => rfl
      rw [inD_strs]
      have em : (one c ∈ gone.map one) ↔ c ∈ gone := by
        rw [List.mem_map]
        exact ⟨fun ⟨d, hd, e⟩ => one_inj e ▸ hd, fun h => ⟨c, h, rfl⟩⟩
      by_cases hg : c ∈ gone
      · rw [decide_eq_true (em.mpr hg), if_pos rfl, show [c].filter (fun c => decide (c ∈ gone)) = [c] by simp [hg]]
        have hs0 : 0 < 2 ^ ys.length := Nat.two_pow_pos _
        have hlt : 2 ^ (sg s).length = (2 ^ ys.length + 2 ^ ys.length) * 2 ^ done.length := by
          rw [hl, ← Nat.mul_two, ← Nat.pow_succ, ← Nat.pow_add]; congr 1; omega
        have hrg := tab_rg done.length (by omega) ys.length (by omega)
        rw [show done.length + ys.length + 1 = (sg s).length by omega] at hrg
        rw [show (((2 ^ ys.length : Nat) : Int) + ((2 ^ ys.length : Nat) : Int)) = ((2 ^ ys.length + 2 ^ ys.length : Nat) : Int) by omega]
        refine ⟨2 ^ done.length, hrg, ?_⟩
        have hpass : pairL (if b = true then (· || ·) else (· && ·)) (2 ^ ys.length) (tabF (sg s) (if b = true then someF f (done.filter fun c => decide (c ∈ gone)) else everyF f (done.filter fun c => decide (c ∈ gone)))) = tabF (sg s) (if b = true then someF f (done.filter (fun c => decide (c ∈ gone)) ++ [c]) else everyF f (done.filter (fun c => decide (c ∈ gone)) ++ [c])) := by
          have hn2 := hn
          rw [he] at hn2
          unfold tabF
          rw [he, tabV_pair _ _ _ _ hn2]
          refine tabV_congr _ _ fun r _ => ?_
          cases b
          · simp only [Bool.false_eq_true, if_false]
            rw [everyF, everyF, List.foldl_append]
            show _ = val r (everyS _ c)
            rw [everyS, val_mul, val_fix, val_fix]
          · simp only [if_true]
            rw [someF, someF, List.foldl_append]
            show _ = val r (someS _ c)
            rw [someS, val_join, val_fix, val_fix]
        rw [← hpass]
        have hL := tabF_len (sg s) (if b = true then someF f (done.filter fun c => decide (c ∈ gone)) else everyF f (done.filter fun c => decide (c ∈ gone)))
        generalize tabF (sg s) (if b = true then someF f (done.filter fun c => decide (c ∈ gone)) else everyF f (done.filter fun c => decide (c ∈ gone))) = L at hL ⊢
        generalize hφ : (if b = true then (fun x1 x2 : Bool => x1 || x2) else (fun x1 x2 : Bool => x1 && x2)) = φ
        rw [← tpB_0 φ (2 ^ ys.length) L]
        generalize hT0 : (tabF (sg s) f).map D.bl = T0
        rw [hlt] at hL hN
        clear hpass hrg hlt e3 hl he hN0 hT0
        generalize 2 ^ ys.length = sz at hs0 hL hN ⊢
        generalize 2 ^ done.length = m at hL hN ⊢
        unfold rangeS
        refine forD_map (I := fun dj _ ρ => ∃ o8 o9 o7 : Option S, ρ = [some (.d (.lst T0)), some (.d (.str s)), some (.d (.lst ((gone.map one).map .str))), some (.d (.bl b)), some (.ol (tpB φ sz L dj.length 0)), some (.d (.int (sz : Int))), some (.d (.str (one c))), o7, o8, o9]) mono_name (List.range m) (fun dj j ysj ρ hej hI => ?_) (fun ρ hI => ?_) _ ⟨o8, o9, o7, rfl⟩
        · obtain ⟨o8, o9, o7, rfl⟩ := hI
          have hjm : j < m := List.mem_range.mp (by rw [hej]; simp)
          have hjd : j = dj.length := range_mid hej
          subst hjd
          have hjN : dj.length * (sz + sz) + (sz + sz) ≤ (sz + sz) * m := by
            have := Nat.mul_le_mul_left (sz + sz) (show dj.length + 1 ≤ m by omega)
            rw [Nat.mul_add, Nat.mul_one, Nat.mul_comm] at this
            exact this
          simp only [wSeq, wSet, wAsg, wC, wIfS, wB, wOp, oI, oI0, asI, asS, asL, asLT, asT, asB, asA_some, asA_none, asO, asOL, asOD, asKey, asDic, asSq, oLen, oMod, oAdd, oSub, oMul, oDiv, oMax, oMin, oPlus, oEqX, oNeX, eqX_int, eqX_str, eqX_bl, oCmp, oLtX, oLeX, oGtX, oGeX, oIxX, oInX, wCB, wCons, wNil, wVar, wMove, nth, put, startR, wNext, wRet, wRetN, wDrop, wFor, wiR1, wiR2, wiX, itemsOf, wgName, wgTup, wgCons, wgNil, wLend, wLendT, seeR_cons, seeR_nil, seeO_d, seeO_none, seeO_ol, seeO_od, wJoin, wM, oAppend, oPop, oPopAt, wDPut, wDPop, wSortK, wDict0, wTup, wLst, wCall, wAnd, wOr, wNot, wAndV, wOrV, wNotV, wIf, wYes, wLc, wiEnumX, oListX, oTuple, oSort, oSortSet, oAll, oAny, S.fz, S.own, D.flat, txts_map, bools_map, txtKeys_map, List.length_map, List.map_cons, List.map_nil, List.length_cons, List.length_nil, List.cons_append, List.nil_append, List.replicate, decide_eq_true_eq, Bool.not_eq_true', Bool.not_true, Bool.not_false, if_true, if_false, Nat.zero_add, Nat.reduceAdd, Nat.reduceSub, ge_iff_le, true_and, and_true, zip_unzip, Bool.false_xor, Bool.true_xor, Bool.false_eq_true, Bool.true_eq_false, reduceIte, wipeR, dataR_cons, dataR_nil, dataO_d, dataO_none, dataO_ol, dataO_od, oDict, oIsi, tyD, isiB, wSl, wPart, wNoP, oSl, wDisp1, wDGet2, oRemove, atI_0, atI_1, atI_2, wiRev, revItems, oDictP, wForK, wiKeys, kD, oSortX, oPow, oBitAnd, oShl, oNeg, wUn, oInt, oStr, oDivmod, oIs, isD, wChain, wFz, wFzE, frzR, wLSet, wiZip, seqsD, wiVals, wiItems, wOIx, wNo, Option.isSome_some, oMulX, wM1, oSplit, oPart, oStrip1, oRep, oSum, intsD, wRaise, wLI, wLK
, wiR3, wLR, wDisp, wPairs, oReverse, oClear, oInsert, wRevL, wDZ, seqLT, oSortIT, wOFld, wSFld, asOI, setOI, putG, wPar, wiItemsC, wiValsC, wIndexL, wDZO, wLO, wiZip3]
          rw [show ((sz : Nat) : Int) + ((dj.length : Nat) : Int) * ((sz + sz : Nat) : Int) = ((dj.length * (sz + sz) + sz : Nat) : Int) by simp only [Int.natCast_add, Int.natCast_mul]; exact Int.add_comm _ _]
          rw [show (((dj.length * (sz + sz) + sz : Nat) : Int) + (sz : Int) - ((dj.length * (sz + sz) + sz : Nat) : Int)).toNat = sz by omega]
          refine ⟨⟨by omega, by omega, by omega, by omega⟩, ?_⟩
          unfold rangeD
          refine forD_map (I := fun di _ ρ => ∃ o8 o9 : Option S, ρ = [some (.d (.lst T0)), some (.d (.str s)), some (.d (.lst ((gone.map one).map .str))), some (.d (.bl b)), some (.ol (tpB φ sz L dj.length di.length)), some (.d (.int (sz : Int))), some (.d (.str (one c))), some (.d (.int ((dj.length * (sz + sz) + sz : Nat) : Int))), o8, o9]) mono_name (List.range sz) (fun di i ysi ρ hei hI => ?_) (fun ρ hI => ?_) _ ⟨o8, o9, rfl⟩
          · obtain ⟨o8, o9, rfl⟩ := hI
            have him : i < sz := List.mem_range.mp (by rw [hei]; simp)
            have hid : i = di.length := range_mid hei
            subst hid
            have hkN : dj.length * (sz + sz) + sz + di.length < L.length := by rw [hL]; omega
            simp only [w_L_taken_380_b1, w_L_taken_380_b1_t1, w_L_taken_380_b1_t2, wSeq, wSet, wAsg, wC, wIfS, wB, wOp, oI, oI0, asI, asS, asL, asLT, asT, asB, asA_some, asA_none, asO, asOL, asOD, asKey, asDic, asSq, oLen, oMod, oAdd, oSub, oMul, oDiv, oMax, oMin, oPlus, oEqX, oNeX, eqX_int, eqX_str, eqX_bl, oCmp, oLtX, oLeX, oGtX, oGeX, oIxX, oInX, wCB, wCons, wNil, wVar, wMove, nth, put, startR, wNext, wRet, wRetN, wDrop, wFor, wiR1, wiR2, wiX, itemsOf, wgName, wgTup, wgCons, wgNil, wLend, wLendT, seeR_cons, seeR_nil, seeO_d, seeO_none, seeO_ol, seeO_od, wJoin, wM, oAppend, oPop, oPopAt, wDPut, wDPop, wSortK, wDict0, wTup, wLst, wCall, wAnd, wOr, wNot, wAndV, wOrV, wNotV, wIf, wYes, wLc, wiEnumX, oListX, oTuple, oSort, oSortSet, oAll, oAny, S.fz, S.own, D.flat, txts_map, bools_map, txtKeys_map, List.length_map, List.map_cons, List.map_nil, List.length_cons, List.length_nil, List.cons_append, List.nil_append, List.replicate, decide_eq_true_eq, Bool.not_eq_true', Bool.not_true, Bool.not_false, if_true, if_false, Nat.zero_add, Nat.reduceAdd, Nat.reduceSub, ge_iff_le, true_and, and_true, zip_unzip, Bool.false_xor, Bool.true_xor, Bool.false_eq_true, Bool.true_eq_false, reduceIte, wipeR, dataR_cons, dataR_nil, dataO_d, dataO_none, dataO_ol, dataO_od, oDict, oIsi, tyD, isiB, wSl, wPart, wNoP, oSl, wDisp1, wDGet2, oRemove, atI_0, atI_1, atI_2, wiRev, revItems, oDictP, wForK, wiKeys, kD, oSortX, oPow, oBitAnd, oShl, oNeg, wUn, oInt, oStr, oDivmod, oIs, isD, wChain, wFz, wFzE, frzR, wLSet, wiZip, seqsD, wiVals, wiItems, wOIx, wNo, Option.isSome_some, oMulX, wM1, oSplit, oPart, oStrip1, oRep, oSum, intsD, wRaise, wLI, wLK
, wiR3, wLR, wDisp, wPairs, oReverse, oClear, oInsert, wRevL, wDZ, seqLT, oSortIT, wOFld, wSFld, asOI, setOI, putG, wPar, wiItemsC, wiValsC, wIndexL, wDZO, wLO, wiZip3]
            rw [show (((dj.length * (sz + sz) + sz : Nat) : Int) + (di.length : Int)) = ((dj.length * (sz + sz) + sz + di.length : Nat) : Int) by rw [Int.natCast_add (dj.length * (sz + sz) + sz)],
              show (((dj.length * (sz + sz) + sz + di.length : Nat) : Int) - (sz : Int)) = ((dj.length * (sz + sz) + di.length : Nat) : Int) by omega]
            have hk2 : dj.length * (sz + sz) + di.length < L.length := by omega
            rw [tpB_at him hk2 (.inl rfl), asA_some, tpB_at him hkN (.inr rfl), asA_some]
            have hset := tpB_set (φ := φ) (L := L) (j := dj.length) him
            generalize L.getD (dj.length * (sz + sz) + di.length) false = v0 at hset ⊢
            generalize L.getD (dj.length * (sz + sz) + sz + di.length) false = v1 at hset ⊢
            have x1 : ∀ v : D, ixN ((tpB φ sz L dj.length di.length).set (dj.length * (sz + sz) + sz + di.length) v).length ((dj.length * (sz + sz) + di.length : Nat) : Int) = some (dj.length * (sz + sz) + di.length) := fun v => by
              rw [List.length_set, tpB_len, ixN, if_pos (by omega), if_pos (by omega), Int.toNat_natCast]
            have x2 : ixN (tpB φ sz L dj.length di.length).length ((dj.length * (sz + sz) + sz + di.length : Nat) : Int) = some (dj.length * (sz + sz) + sz + di.length) := by
              rw [tpB_len, ixN, if_pos (by omega), if_pos (by omega), Int.toNat_natCast]
            have x3 : ∀ v : D, atI ((tpB φ sz L dj.length di.length).set (dj.length * (sz + sz) + sz + di.length) v) ((dj.length * (sz + sz) + sz + di.length : Nat) : Int) = some v := fun v => by
              rw [atI_nat (by rw [List.length_set, tpB_len]; exact hkN), List.getElem_set_self]
            have i1 : ∀ a b : Bool, inD (.bl true) [.bl a, .bl b] = (a || b) := by decide
            have i2 : ∀ a b : Bool, (!inD (.bl false) [.bl a, .bl b]) = (a && b) := by decide
            refine ⟨by decide, ?_⟩
            rw [i1, i2, x2, asA_some, asA_some, x3, x3, asA_some, asA_some, x1, x1, asA_some, asA_some, List.length_append, List.length_singleton]
            cases b
            · rw [if_neg (by decide)] at hφ ⊢
              subst hφ
              exact ⟨rfl, rfl, _, _, by rw [← hset]⟩
            · rw [if_pos rfl] at hφ ⊢
              subst hφ
              exact ⟨rfl, rfl, _, _, by rw [← hset]⟩
          · obtain ⟨o8, o9, rfl⟩ := hI
            rw [List.length_range, List.length_append, List.length_singleton, tpB_next hs0]
            exact ⟨_, _, _, rfl⟩
        · obtain ⟨o8, o9, o7, rfl⟩ := hI
          rw [List.length_range, tpB_end hs0 hL]
          exact ⟨_, _, _, _, rfl⟩
      · rw [decide_eq_false fun q => hg (em.mp q), if_neg Bool.false_ne_true, show [c].filter (fun c => decide (c ∈ gone)) = [] by simp [hg], List.append_nil]
        exact ⟨_, _, _, _, rfl⟩
    · obtain ⟨o6, o7, o8, o9, rfl⟩ := hI
      simp only [w_L_taken_380_t3, wSeq, wSet, wAsg, wC, wIfS, wB, wOp, oI, oI0, asI, asS, asL, asLT, asT, asB, asA_some, asA_none, asO, asOL, asOD, asKey, asDic, asSq, oLen, oMod, oAdd, oSub, oMul, oDiv, oMax, oMin, oPlus, oEqX, oNeX, eqX_int, eqX_str, eqX_bl, oCmp, oLtX, oLeX, oGtX, oGeX, oIxX, oInX, wCB, wCons, wNil, wVar, wMove, nth, put, startR, wNext, wRet, wRetN, wDrop, wFor, wiR1, wiR2, wiX, itemsOf, wgName, wgTup, wgCons, wgNil, wLend, wLendT, seeR_cons, seeR_nil, seeO_d, seeO_none, seeO_ol, seeO_od, wJoin, wM, oAppend, oPop, oPopAt, wDPut, wDPop, wSortK, wDict0, wTup, wLst, wCall, wAnd, wOr, wNot, wAndV, wOrV, wNotV, wIf, wYes, wLc, wiEnumX, oListX, oTuple, oSort, oSortSet, oAll, oAny, S.fz, S.own, D.flat, txts_map, bools_map, txtKeys_map, List.length_map, List.map_cons, List.map_nil, List.length_cons, List.length_nil, List.cons_append, List.nil_append, List.replicate, decide_eq_true_eq, Bool.not_eq_true', Bool.not_true, Bool.not_false, if_true, if_false, Nat.zero_add, Nat.reduceAdd, Nat.reduceSub, ge_iff_le, true_and, and_true, zip_unzip, Bool.false_xor, Bool.true_xor, Bool.false_eq_true, Bool.true_eq_false, reduceIte, wipeR, dataR_cons, dataR_nil, dataO_d, dataO_none, dataO_ol, dataO_od, oDict, oIsi, tyD, isiB, wSl, wPart, wNoP, oSl, wDisp1, wDGet2, oRemove, atI_0, atI_1, atI_2, wiRev, revItems, oDictP, wForK, wiKeys, kD, oSortX, oPow, oBitAnd, oShl, oNeg, wUn, oInt, oStr, oDivmod, oIs, isD, wChain, wFz, wFzE, frzR, wLSet, wiZip, seqsD, wiVals, wiItems, wOIx, wNo, Option.isSome_some, oMulX, wM1, oSplit, oPart, oStrip1, oRep, oSum, intsD, wRaise, wLI, wLK
, wiR3, wLR, wDisp, wPairs, oReverse, oClear, oInsert, wRevL, wDZ, seqLT, oSortIT, wOFld, wSFld, asOI, setOI, putG, wPar, wiItemsC, wiValsC, wIndexL, wDZO, wLO, wiZip3]
      exact hq
  · exact h.elim
end DL
namespace DL
open PySem L2
theorem asF_tr {a : List Str} {P : List Str → Prop} : asF (D.tup (a.map .str)) P = P a := asF_fD
theorem let_filter {s : Str} (hs : Prd s) {T : Nat → Prop} [DecidablePred T] (h : ∀ c, c ∈ sg s ↔ c ∈ LET ∧ T c) : LET.filter (fun c => decide (T c)) = sg s :=
  up_ext (LET_up.filter _) hs.up fun c => by rw [List.mem_filter, decide_eq_true_iff, h]
def sp_L_row_well_e78 : DSp := fun ds P _ => match ds with
  | [x, y, z] => asF x fun f => asF y fun g => ∃ r : Row, (z = .tup [.str "row", rowD r] ∧ Frm f ∧ Frm g ∧ r.map (·.1) = sg (lets (letF f ++ letF g)) ∧ val (rowF r) f = true ∧ val (rowF r) g = false) ∧ P (.d (.bl true))
  | _ => False
abbrev N_L_row_well_e78 : List Str := ["_law_one", "_law_other", "_law_found", "_law_letters_here", "_law_letter"]
def w_L_row_well_e78_t3 : WS := (wRet (wAndV (wCall sp_L_worth_f41 (fun _ _ => False) (wCons (wVar 0) (wCons (wOp oIxX (wVar 2) (wC (.int 1))) wNil))) (wNotV (wCall sp_L_worth_f41 (fun _ _ => False) (wCons (wVar 1) (wCons (wOp oIxX (wVar 2) (wC (.int 1))) wNil))))))
def w_L_row_well_e78_t2 : WS := wSeq (wIfS (wOr (wB (wOp oNeX (wSortK (wOp oIxX (wVar 2) (wC (.int 1)))) (wVar 3))) (wNot (wB (wCB oAll (wCons (wLc (wiX (wVar 3)) (wgName 4) wYes (wCB oIsi (wCons (wOp oIxX (wOp oIxX (wVar 2) (wC (.int 1))) (wVar 4)) (wCons (wC (.ty "bool")) wNil))) [4]) wNil))))) (wRet (wC (.bl false))) wNext)
    w_L_row_well_e78_t3
def w_L_row_well_e78_t1 : WS := wSeq (wAsg (wLc (wiX (wC (.str "abcpqrxyz"))) (wgName 4) (wB (wOp (oInX false) (wVar 4) (wOp oPlus (wCall sp_L_in_0a4 (fun _ _ => False) (wCons (wVar 0) wNil)) (wCall sp_L_in_0a4 (fun _ _ => False) (wCons (wVar 1) wNil))))) (wVar 4) [4]) (wgName 3))
    w_L_row_well_e78_t2
def w_L_row_well_e78 : WS := wSeq (wIfS (wOr (wNot (wB (wCB oIsi (wCons (wVar 2) (wCons (wC (.ty "tuple")) wNil))))) (wOr (wB (wOp oNeX (wCB oLen (wCons (wVar 2) wNil)) (wC (.int 2)))) (wOr (wB (wOp oNeX (wOp oIxX (wVar 2) (wC (.int 0))) (wC (.str "row")))) (wNot (wB (wCB oIsi (wCons (wOp oIxX (wVar 2) (wC (.int 1))) (wCons (wC (.ty "dict")) wNil)))))))) (wRet (wC (.bl false))) wNext)
    w_L_row_well_e78_t1
theorem len_L_row_well_e78 {ds Q px} (h : sp_L_row_well_e78 ds Q px) : ds.length = 3 := by unfold sp_L_row_well_e78 at h; split at h <;> first | rfl | exact h.elim
theorem rd_L_row_well_e78 {ds Q px} (h : sp_L_row_well_e78 ds Q px) : w_L_row_well_e78 ⟨fun _ => Q (.d .non), Q, fun _ => False, fun _ => False⟩ (startR N_L_row_well_e78 ds) := by
  unfold sp_L_row_well_e78 at h
  split at h
  · rename_i x y z
    obtain ⟨f, rfl, h2⟩ := asF_of h
    obtain ⟨g, rfl, r, ⟨rfl, hf, hg, hr, vf, vg⟩, hq⟩ := asF_of h2
    clear h h2
    unfold w_L_row_well_e78
    simp only [N_L_row_well_e78, fD, rowD, w_L_row_well_e78_t1, wSeq, wSet, wAsg, wC, wIfS, wB, wOp, oI, oI0, asI, asS, asL, asLT, asT, asB, asA_some, asA_none, asO, asOL, asOD, asKey, asDic, asSq, oLen, oMod, oAdd, oSub, oMul, oDiv, oMax, oMin, oPlus, oEqX, oNeX, eqX_int, eqX_str, eqX_bl, oCmp, oLtX, oLeX, oGtX, oGeX, oIxX, oInX, wCB, wCons, wNil, wVar, wMove, nth, put, startR, wNext, wRet, wRetN, wDrop, wFor, wiR1, wiR2, wiX, itemsOf, wgName, wgTup, wgCons, wgNil, wLend, wLendT, seeR_cons, seeR_nil, seeO_d, seeO_none, seeO_ol, seeO_od, wJoin, wM, oAppend, oPop, oPopAt, wDPut, wDPop, wSortK, wDict0, wTup, wLst, wCall, wAnd, wOr, wNot, wAndV, wOrV, wNotV, wIf, wYes, wLc, wiEnumX, oListX, oTuple, oSort, oSortSet, oAll, oAny, S.fz, S.own, D.flat, txts_map, bools_map, txtKeys_map, List.length_map, List.map_cons, List.map_nil, List.length_cons, List.length_nil, List.cons_append, List.nil_append, List.replicate, decide_eq_true_eq, Bool.not_eq_true', Bool.not_true, Bool.not_false, if_true, if_false, Nat.zero_add, Nat.reduceAdd, Nat.reduceSub, ge_iff_le, true_and, and_true, zip_unzip, Bool.false_xor, Bool.true_xor, Bool.false_eq_true, Bool.true_eq_false, reduceIte, wipeR, dataR_cons, dataR_nil, dataO_d, dataO_none, dataO_ol, dataO_od, oDict, oIsi, tyD, isiB, wSl, wPart, wNoP, oSl, wDisp1, wDGet2, oRemove, atI_0, atI_1, atI_2, wiRev, revItems, oDictP, wForK, wiKeys, kD, oSortX, oPow, oBitAnd, oShl, oNeg, wUn, oInt, oStr, oDivmod, oIs, isD, wChain, wFz, wFzE, frzR, wLSet, wiZip, seqsD, wiVals, wiItems, wOIx, wNo, Option.isSome_some, oMulX, wM1, oSplit, oPart, oStrip1, oRep, oSum, intsD, wRaise, wLI, wLK
, wiR3, wLR, wDisp, wPairs, oReverse, oClear, oInsert, wRevL, wDZ, seqLT, oSortIT, wOFld, wSFld, asOI, setOI, putG, wPar, wiItemsC, wiValsC, wIndexL, wDZO, wLO, wiZip3, sp_L_in_0a4, atI_0, atI_1, asA_some, asF_tr]
    rw [if_neg (by decide), if_neg (by decide), signs_abc, List.map_map]
    refine ⟨by decide, ?_⟩
    have hS := sg_lets (letF f ++ letF g)
    have hP : Prd (lets (letF f ++ letF g)) := prd_lets fun d hd => by rw [sg_append] at hd; exact (List.mem_append.mp hd).elim ((prd_letF hf).le d) ((prd_letF hg).le d)
    have lf := (prd_letF hf).len
    have lg := (prd_letF hg).len
    refine compD_map mono_name (fun d => if d ∈ sg (letF f ++ letF g) then some (.str (one d)) else none) LET _ (fun d hd Q' hQ => ?_) ?_
    · simp only [wSeq, wSet, wAsg, wC, wIfS, wB, wOp, oI, oI0, asI, asS, asL, asLT, asT, asB, asA_some, asA_none, asO, asOL, asOD, asKey, asDic, asSq, oLen, oMod, oAdd, oSub, oMul, oDiv, oMax, oMin, oPlus, oEqX, oNeX, eqX_int, eqX_str, eqX_bl, oCmp, oLtX, oLeX, oGtX, oGeX, oIxX, oInX, wCB, wCons, wNil, wVar, wMove, nth, put, startR, wNext, wRet, wRetN, wDrop, wFor, wiR1, wiR2, wiX, itemsOf, wgName, wgTup, wgCons, wgNil, wLend, wLendT, seeR_cons, seeR_nil, seeO_d, seeO_none, seeO_ol, seeO_od, wJoin, wM, oAppend, oPop, oPopAt, wDPut, wDPop, wSortK, wDict0, wTup, wLst, wCall, wAnd, wOr, wNot, wAndV, wOrV, wNotV, wIf, wYes, wLc, wiEnumX, oListX, oTuple, oSort, oSortSet, oAll, oAny, S.fz, S.own, D.flat, txts_map, bools_map, txtKeys_map, List.length_map, List.map_cons, List.map_nil, List.length_cons, List.length_nil, List.cons_append, List.nil_append, List.replicate, decide_eq_true_eq, Bool.not_eq_true', Bool.not_true, Bool.not_false, if_true, if_false, Nat.zero_add, Nat.reduceAdd, Nat.reduceSub, ge_iff_le, true_and, and_true, zip_unzip, Bool.false_xor, Bool.true_xor, Bool.false_eq_true, Bool.true_eq_false, reduceIte, wipeR, dataR_cons, dataR_nil, dataO_d, dataO_none, dataO_ol, dataO_od, oDict, oIsi, tyD, isiB, wSl, wPart, wNoP, oSl, wDisp1, wDGet2, oRemove, atI_0, atI_1, atI_2, wiRev, revItems, oDictP, wForK, wiKeys, kD, oSortX, oPow, oBitAnd, oShl, oNeg, wUn, oInt, oStr, oDivmod, oIs, isD, wChain, wFz, wFzE, frzR, wLSet, wiZip, seqsD, wiVals, wiItems, wOIx, wNo, Option.isSome_some, oMulX, wM1, oSplit, oPart, oStrip1, oRep, oSum, intsD, wRaise, wLI, wLK
, wiR3, wLR, wDisp, wPairs, oReverse, oClear, oInsert, wRevL, wDZ, seqLT, oSortIT, wOFld, wSFld, asOI, setOI, putG, wPar, wiItemsC, wiValsC, wIndexL, wDZO, wLO, wiZip3, Function.comp, sp_L_in_0a4, asF_tr]
      refine ⟨hf, hg, by rw [sg_len, sg_len, len0]; omega, ?_⟩
      have e5 : inS (one d) (letF f ++ letF g) = decide (d ∈ sg (letF f ++ letF g)) := rfl
      rw [e5]
      by_cases z : d ∈ sg (letF f ++ letF g)
      · rw [if_pos z] at hQ; rw [decide_eq_true z]; exact hQ
      · rw [if_neg z] at hQ; rw [decide_eq_false z]; exact hQ
    rw [fm_strs (T := fun d => d ∈ sg (letF f ++ letF g)), let_filter hP (T := fun d => d ∈ sg (letF f ++ letF g)) fun c => ⟨fun z => ⟨hP.le c z, (hS.2 c).mp z⟩, fun z => (hS.2 c).mpr z.2⟩, ← hr]
    simp only [w_L_row_well_e78_t2, wSeq, wSet, wAsg, wC, wIfS, wB, wOp, oI, oI0, asI, asS, asL, asLT, asT, asB, asA_some, asA_none, asO, asOL, asOD, asKey, asDic, asSq, oLen, oMod, oAdd, oSub, oMul, oDiv, oMax, oMin, oPlus, oEqX, oNeX, eqX_int, eqX_str, eqX_bl, oCmp, oLtX, oLeX, oGtX, oGeX, oIxX, oInX, wCB, wCons, wNil, wVar, wMove, nth, put, startR, wNext, wRet, wRetN, wDrop, wFor, wiR1, wiR2, wiX, itemsOf, wgName, wgTup, wgCons, wgNil, wLend, wLendT, seeR_cons, seeR_nil, seeO_d, seeO_none, seeO_ol, seeO_od, wJoin, wM, oAppend, oPop, oPopAt, wDPut, wDPop, wSortK, wDict0, wTup, wLst, wCall, wAnd, wOr, wNot, wAndV, wOrV, wNotV, wIf, wYes, wLc, wiEnumX, oListX, oTuple, oSort, oSortSet, oAll, oAny, S.fz, S.own, D.flat, txts_map, bools_map, txtKeys_map, List.length_map, List.map_cons, List.map_nil, List.length_cons, List.length_nil, List.cons_append, List.nil_append, List.replicate, decide_eq_true_eq, Bool.not_eq_true', Bool.not_true, Bool.not_false, if_true, if_false, Nat.zero_add, Nat.reduceAdd, Nat.reduceSub, ge_iff_le, true_and, and_true, zip_unzip, Bool.false_xor, Bool.true_xor, Bool.false_eq_true, Bool.true_eq_false, reduceIte, wipeR, dataR_cons, dataR_nil, dataO_d, dataO_none, dataO_ol, dataO_od, oDict, oIsi, tyD, isiB, wSl, wPart, wNoP, oSl, wDisp1, wDGet2, oRemove, atI_0, atI_1, atI_2, wiRev, revItems, oDictP, wForK, wiKeys, kD, oSortX, oPow, oBitAnd, oShl, oNeg, wUn, oInt, oStr, oDivmod, oIs, isD, wChain, wFz, wFzE, frzR, wLSet, wiZip, seqsD, wiVals, wiItems, wOIx, wNo, Option.isSome_some, oMulX, wM1, oSplit, oPart, oStrip1, oRep, oSum, intsD, wRaise, wLI, wLK
, wiR3, wLR, wDisp, wPairs, oReverse, oClear, oInsert, wRevL, wDZ, seqLT, oSortIT, wOFld, wSFld, asOI, setOI, putG, wPar, wiItemsC, wiValsC, wIndexL, wDZO, wLO, wiZip3, atI_0, atI_1, asA_some]
    have hup : (r.map (·.1)).Pairwise (· < ·) := by rw [hr]; exact hP.up
    have hle : ∀ c ∈ r.map (·.1), c ∈ LET := fun c hc => by rw [hr] at hc; exact hP.le c hc
    have ek : ((r.map fun p => (Sum.inr (one p.1) : Key)).zip (r.map fun p => D.bl p.2)).map (·.1) = ((r.map (·.1)).map one).map Sum.inr := by
      rw [rowK_zip, rowK, List.map_map, List.map_map, List.map_map]; rfl
    have es : srt ((r.map (·.1)).map one) = (r.map (·.1)).map one := (srt_unique (List.Perm.refl _) (List.pairwise_map.mpr (hup.imp fun h => leS_one.mpr (Nat.le_of_lt h)))).symm
    have ok : ∀ p ∈ (r.map (·.1)).map one, PyData.strOk p = true := fun p hp => by
      obtain ⟨c, hc, rfl⟩ := List.mem_map.mp hp
      exact strOk_prd ((frm_letter (hle c hc)).prd (one c) (by simp))
    have l9 := hP.len
    rw [← hr, List.length_map] at l9
    rw [ek, txtKeys_map, asA_some, es, eqX_lst ok ok, decide_eq_true rfl, if_neg (by decide), List.map_map (f := one)]
    refine ⟨by rw [len0]; omega, ?_⟩
    refine compD_map mono_name (fun c => some (.bl true)) (r.map (·.1)) _ (fun c hc Q' hQ => ?_) ?_
    · simp only [wSeq, wSet, wAsg, wC, wIfS, wB, wOp, oI, oI0, asI, asS, asL, asLT, asT, asB, asA_some, asA_none, asO, asOL, asOD, asKey, asDic, asSq, oLen, oMod, oAdd, oSub, oMul, oDiv, oMax, oMin, oPlus, oEqX, oNeX, eqX_int, eqX_str, eqX_bl, oCmp, oLtX, oLeX, oGtX, oGeX, oIxX, oInX, wCB, wCons, wNil, wVar, wMove, nth, put, startR, wNext, wRet, wRetN, wDrop, wFor, wiR1, wiR2, wiX, itemsOf, wgName, wgTup, wgCons, wgNil, wLend, wLendT, seeR_cons, seeR_nil, seeO_d, seeO_none, seeO_ol, seeO_od, wJoin, wM, oAppend, oPop, oPopAt, wDPut, wDPop, wSortK, wDict0, wTup, wLst, wCall, wAnd, wOr, wNot, wAndV, wOrV, wNotV, wIf, wYes, wLc, wiEnumX, oListX, oTuple, oSort, oSortSet, oAll, oAny, S.fz, S.own, D.flat, txts_map, bools_map, txtKeys_map, List.length_map, List.map_cons, List.map_nil, List.length_cons, List.length_nil, List.cons_append, List.nil_append, List.replicate, decide_eq_true_eq, Bool.not_eq_true', Bool.not_true, Bool.not_false, if_true, if_false, Nat.zero_add, Nat.reduceAdd, Nat.reduceSub, ge_iff_le, true_and, and_true, zip_unzip, Bool.false_xor, Bool.true_xor, Bool.false_eq_true, Bool.true_eq_false, reduceIte, wipeR, dataR_cons, dataR_nil, dataO_d, dataO_none, dataO_ol, dataO_od, oDict, oIsi, tyD, isiB, wSl, wPart, wNoP, oSl, wDisp1, wDGet2, oRemove, atI_0, atI_1, atI_2, wiRev, revItems, oDictP, wForK, wiKeys, kD, oSortX, oPow, oBitAnd, oShl, oNeg, wUn, oInt, oStr, oDivmod, oIs, isD, wChain, wFz, wFzE, frzR, wLSet, wiZip, seqsD, wiVals, wiItems, wOIx, wNo, Option.isSome_some, oMulX, wM1, oSplit, oPart, oStrip1, oRep, oSum, intsD, wRaise, wLI, wLK
, wiR3, wLR, wDisp, wPairs, oReverse, oClear, oInsert, wRevL, wDZ, seqLT, oSortIT, wOFld, wSFld, asOI, setOI, putG, wPar, wiItemsC, wiValsC, wIndexL, wDZO, wLO, wiZip3, Function.comp, atI_1, asA_some, rowK_zip, vget_row hc]
      exact hQ
    have e4 : (r.map (·.1)).filterMap (fun _ => some (D.bl true)) = ((r.map (·.1)).map fun _ => true).map .bl := fm_blsG (fun _ => true) _
    rw [e4, bools_map, asA_some, show ((r.map (·.1)).map fun _ => true).all id = true by rw [List.all_map]; simp [Function.comp], if_neg (by decide)]
    simp only [w_L_row_well_e78_t3, wSeq, wSet, wAsg, wC, wIfS, wB, wOp, oI, oI0, asI, asS, asL, asLT, asT, asB, asA_some, asA_none, asO, asOL, asOD, asKey, asDic, asSq, oLen, oMod, oAdd, oSub, oMul, oDiv, oMax, oMin, oPlus, oEqX, oNeX, eqX_int, eqX_str, eqX_bl, oCmp, oLtX, oLeX, oGtX, oGeX, oIxX, oInX, wCB, wCons, wNil, wVar, wMove, nth, put, startR, wNext, wRet, wRetN, wDrop, wFor, wiR1, wiR2, wiX, itemsOf, wgName, wgTup, wgCons, wgNil, wLend, wLendT, seeR_cons, seeR_nil, seeO_d, seeO_none, seeO_ol, seeO_od, wJoin, wM, oAppend, oPop, oPopAt, wDPut, wDPop, wSortK, wDict0, wTup, wLst, wCall, wAnd, wOr, wNot, wAndV, wOrV, wNotV, wIf, wYes, wLc, wiEnumX, oListX, oTuple, oSort, oSortSet, oAll, oAny, S.fz, S.own, D.flat, txts_map, bools_map, txtKeys_map, List.length_map, List.map_cons, List.map_nil, List.length_cons, List.length_nil, List.cons_append, List.nil_append, List.replicate, decide_eq_true_eq, Bool.not_eq_true', Bool.not_true, Bool.not_false, if_true, if_false, Nat.zero_add, Nat.reduceAdd, Nat.reduceSub, ge_iff_le, true_and, and_true, zip_unzip, Bool.false_xor, Bool.true_xor, Bool.false_eq_true, Bool.true_eq_false, reduceIte, wipeR, dataR_cons, dataR_nil, dataO_d, dataO_none, dataO_ol, dataO_od, oDict, oIsi, tyD, isiB, wSl, wPart, wNoP, oSl, wDisp1, wDGet2, oRemove, atI_0, atI_1, atI_2, wiRev, revItems, oDictP, wForK, wiKeys, kD, oSortX, oPow, oBitAnd, oShl, oNeg, wUn, oInt, oStr, oDivmod, oIs, isD, wChain, wFz, wFzE, frzR, wLSet, wiZip, seqsD, wiVals, wiItems, wOIx, wNo, Option.isSome_some, oMulX, wM1, oSplit, oPart, oStrip1, oRep, oSum, intsD, wRaise, wLI, wLK
, wiR3, wLR, wDisp, wPairs, oReverse, oClear, oInsert, wRevL, wDZ, seqLT, oSortIT, wOFld, wSFld, asOI, setOI, putG, wPar, wiItemsC, wiValsC, wIndexL, wDZO, wLO, wiZip3, sp_L_worth_f41, sp_worth, atI_1, asA_some, asF_tr]
    have lff := hf.len
    have lgg := hg.len
    have mm : ∀ c, c ∈ r.map (·.1) ↔ c ∈ sg (letF f) ∨ c ∈ sg (letF g) := fun c => by rw [hr, hS.2, sg_append, List.mem_append]
    refine ⟨r, rfl, ⟨by omega, fun p hp => ⟨by have := (hf.prd p hp).len; omega, fun c hc => (mm c).mpr (.inl (over_letF f p hp c hc))⟩⟩, ?_⟩
    rw [vf, if_pos rfl]
    refine ⟨r, rfl, ⟨by omega, fun p hp => ⟨by have := (hg.prd p hp).len; omega, fun c hc => (mm c).mpr (.inr (over_letF g p hp c hc))⟩⟩, ?_⟩
    rw [vg]
    exact hq
  · exact h.elim
theorem tab_lead {ls : List Nat} {f g : List Str} (hn : ls.Nodup) (hf : ∀ p ∈ f, ∀ c ∈ sg p, c ∈ ls) (hg : ∀ p ∈ g, ∀ c ∈ sg p, c ∈ ls) (Ff : Frm f) (Fg : Frm g) : (List.zipWith (fun a b => b || !a) (tabF ls f) (tabF ls g)).all id = leadF f g := by
  have key : ∀ (ls : List Nat) (h : (Nat → Bool) → Bool) (r : Nat → Bool), (tabV ls h r).all id = true ↔ ∀ r' : Nat → Bool, (∀ c, c ∉ ls → r' c = r c) → (∀ r1 r2 : Nat → Bool, (∀ c, r1 c = r2 c) → h r1 = h r2) → h r' = true := by
    intro ls
    induction ls with
    | nil => intro h r; exact ⟨fun z r' e ext => by rw [ext r' r fun c => e c (by simp)]; simpa [tabV] using z, fun z => by simpa [tabV] using z r (fun _ _ => rfl) fun r1 r2 e => by rw [show r1 = r2 from funext e]⟩
    | cons c cs ih =>
      intro h r
      rw [tabV, List.all_append, Bool.and_eq_true, ih, ih]
      constructor
      · rintro ⟨z1, z2⟩ r' e ext
        cases hc : r' c with
        | false => exact z1 r' (fun d hd => by unfold updR; by_cases q : d = c
                                               · rw [if_pos q, q, hc]
                                               · rw [if_neg q]; exact e d fun y => (List.mem_cons.mp y).elim q hd) ext
        | true => exact z2 r' (fun d hd => by unfold updR; by_cases q : d = c
                                              · rw [if_pos q, q, hc]
                                              · rw [if_neg q]; exact e d fun y => (List.mem_cons.mp y).elim q hd) ext
      · intro z
        have st : ∀ b, ∀ r' : Nat → Bool, (∀ d, d ∉ cs → r' d = updR r c b d) → (∀ r1 r2 : Nat → Bool, (∀ c, r1 c = r2 c) → h r1 = h r2) → h r' = true := fun b r' e ext => z r' (fun d hd => by
          rw [e d fun y => hd (List.mem_cons_of_mem _ y), updR, if_neg fun (q : d = c) => hd (q ▸ List.mem_cons_self)]) ext
        exact ⟨st false, st true⟩
  rw [Bool.eq_iff_iff, lead_iff Ff Fg, tabF, tabF, tabV_zip, key]
  have ext : ∀ r1 r2 : Nat → Bool, (∀ c, r1 c = r2 c) → (val r1 g || !val r1 f) = (val r2 g || !val r2 f) := fun r1 r2 e => by rw [show r1 = r2 from funext e]
  constructor
  · intro z r hv
    have := z (fun c => if c ∈ ls then r c else false) (fun c hc => if_neg hc) ext
    rw [val_out (T := fun c => c ∈ ls) hg (r' := r) fun c hc => if_pos hc, val_out (T := fun c => c ∈ ls) hf (r' := r) fun c hc => if_pos hc, hv] at this
    simpa using this
  · intro z r _ _
    cases hv : val r f with
    | false => simp
    | true => rw [z r hv]; rfl
def sp_L_way_right_b5d : DSp := fun ds P _ => match ds with
  | [x, y, u, v, .str s] => asF x fun f => asF y fun g => (u = .lst ((tabF (sg s) f).map .bl) ∧ v = .lst ((tabF (sg s) g).map .bl) ∧ Frm f ∧ Frm g ∧ Over s f ∧ Over s g ∧ Prd s) ∧ P (.d (.bl true))
  | _ => False
abbrev N_L_way_right_b5d : List Str := ["_law_one", "_law_other", "_law_here", "_law_there", "_law_letters_here", "_law_leading", "_law_low", "_law_high", "_law_told", "_law_found", "_law_mine", "_law_yours", "_law_both", "_law_letter", "_law_least", "_law_widest"]
def w_L_way_right_b5d_t12 : WS := (wRet (wAndV (wOp oEqX (wCall sp_L_table_9dd (fun _ _ => False) (wCons (wOp oIxX (wVar 9) (wC (.int 1))) (wCons (wVar 4) wNil))) (wVar 14)) (wOp oEqX (wCall sp_L_table_9dd (fun _ _ => False) (wCons (wOp oIxX (wVar 9) (wC (.int 2))) (wCons (wVar 4) wNil))) (wVar 15))))
def w_L_way_right_b5d_t11 : WS := wSeq (wAsg (wCall sp_L_taken_380 (fun _ _ => False) (wCons (wVar 3) (wCons (wVar 4) (wCons (wLc (wiX (wVar 11)) (wgName 13) (wB (wOp (oInX true) (wVar 13) (wVar 10))) (wVar 13) [13]) (wCons (wC (.bl false)) wNil))))) (wgName 15))
    w_L_way_right_b5d_t12
def w_L_way_right_b5d_t10 : WS := wSeq (wAsg (wCall sp_L_taken_380 (fun _ _ => False) (wCons (wVar 2) (wCons (wVar 4) (wCons (wLc (wiX (wVar 10)) (wgName 13) (wB (wOp (oInX true) (wVar 13) (wVar 11))) (wVar 13) [13]) (wCons (wC (.bl true)) wNil))))) (wgName 14))
    w_L_way_right_b5d_t11
def w_L_way_right_b5d_t9 : WS := wSeq (wIfS (wOr (wNot (wB (wCall sp_L_is_form_f61 (fun _ _ => False) (wCons (wOp oIxX (wVar 9) (wC (.int 1))) (wCons (wVar 12) wNil))))) (wNot (wB (wCall sp_L_is_form_f61 (fun _ _ => False) (wCons (wOp oIxX (wVar 9) (wC (.int 2))) (wCons (wVar 12) wNil)))))) (wRet (wC (.bl false))) wNext)
    w_L_way_right_b5d_t10
def w_L_way_right_b5d_t8 : WS := wSeq (wAsg (wLc (wiX (wVar 10)) (wgName 13) (wB (wOp (oInX false) (wVar 13) (wVar 11))) (wVar 13) [13]) (wgName 12))
    w_L_way_right_b5d_t9
def w_L_way_right_b5d_t7 : WS := wSeq (wAsg (wCall sp_L_in_0a4 (fun _ _ => False) (wCons (wVar 1) wNil)) (wgName 11))
    w_L_way_right_b5d_t8
def w_L_way_right_b5d_t6 : WS := wSeq (wAsg (wCall sp_L_in_0a4 (fun _ _ => False) (wCons (wVar 0) wNil)) (wgName 10))
    w_L_way_right_b5d_t7
def w_L_way_right_b5d_t5 : WS := wSeq (wIfS (wOr (wNot (wB (wCB oIsi (wCons (wVar 9) (wCons (wC (.ty "tuple")) wNil))))) (wOr (wB (wOp oNeX (wCB oLen (wCons (wVar 9) wNil)) (wC (.int 3)))) (wB (wOp oNeX (wOp oIxX (wVar 9) (wC (.int 0))) (wC (.str "between")))))) (wRet (wC (.bl false))) wNext)
    w_L_way_right_b5d_t6
def w_L_way_right_b5d_t4 : WS := wSeq (wIfS (wNot (wB (wVar 5))) (wRet (wCall sp_L_row_well_e78 (fun _ _ => False) (wCons (wVar 0) (wCons (wVar 1) (wCons (wVar 9) wNil))))) wNext)
    w_L_way_right_b5d_t5
def w_L_way_right_b5d_t3 : WS := wSeq (wAsg (wCall sp_between (fun _ _ => False) (wCons (wVar 0) (wCons (wVar 1) wNil))) (wgName 9))
    w_L_way_right_b5d_t4
def w_L_way_right_b5d_t2 : WS := wSeq (wIfS (wOr (wNot (wB (wCB oIsi (wCons (wVar 8) (wCons (wC (.ty "bool")) wNil))))) (wB (wOp oNeX (wVar 8) (wVar 5)))) (wRet (wC (.bl false))) wNext)
    w_L_way_right_b5d_t3
def w_L_way_right_b5d_t1 : WS := wSeq (wAsg (wCall sp_leads (fun _ _ => False) (wCons (wVar 0) (wCons (wVar 1) wNil))) (wgName 8))
    w_L_way_right_b5d_t2
def w_L_way_right_b5d : WS := wSeq (wAsg (wCB oAll (wCons (wLc (wiZip (wCons (wVar 2) (wCons (wVar 3) wNil))) (wgTup 2 (wgCons (wgName 6) (wgCons (wgName 7) wgNil))) wYes (wOrV (wVar 7) (wNotV (wVar 6))) [6, 7]) wNil)) (wgName 5))
    w_L_way_right_b5d_t1
theorem len_L_way_right_b5d {ds Q px} (h : sp_L_way_right_b5d ds Q px) : ds.length = 5 := by unfold sp_L_way_right_b5d at h; split at h <;> first | rfl | exact h.elim
theorem rd_L_way_right_b5d {ds Q px} (h : sp_L_way_right_b5d ds Q px) : w_L_way_right_b5d ⟨fun _ => Q (.d .non), Q, fun _ => False, fun _ => False⟩ (startR N_L_way_right_b5d ds) := by
  unfold sp_L_way_right_b5d at h
  split at h
  · rename_i x y u v s
    obtain ⟨f, rfl, h2⟩ := asF_of h
    obtain ⟨g, rfl, ⟨rfl, rfl, hf, hg, fo, go, hs⟩, hq⟩ := asF_of h2
    clear h h2
    have h9 := hs.len
    have hn := up_nodup hs.up
    have hN : 2 ^ (sg s).length ≤ 512 := Nat.pow_le_pow_right (n := 2) (by decide) h9
    have l1 := tabF_len (sg s) f
    have l2 := tabF_len (sg s) g
    unfold w_L_way_right_b5d
    simp only [N_L_way_right_b5d, fD, wSeq, wSet, wAsg, wC, wIfS, wB, wOp, oI, oI0, asI, asS, asL, asLT, asT, asB, asA_some, asA_none, asO, asOL, asOD, asKey, asDic, asSq, oLen, oMod, oAdd, oSub, oMul, oDiv, oMax, oMin, oPlus, oEqX, oNeX, eqX_int, eqX_str, eqX_bl, oCmp, oLtX, oLeX, oGtX, oGeX, oIxX, oInX, wCB, wCons, wNil, wVar, wMove, nth, put, startR, wNext, wRet, wRetN, wDrop, wFor, wiR1, wiR2, wiX, itemsOf, wgName, wgTup, wgCons, wgNil, wLend, wLendT, seeR_cons, seeR_nil, seeO_d, seeO_none, seeO_ol, seeO_od, wJoin, wM, oAppend, oPop, oPopAt, wDPut, wDPop, wSortK, wDict0, wTup, wLst, wCall, wAnd, wOr, wNot, wAndV, wOrV, wNotV, wIf, wYes, wLc, wiEnumX, oListX, oTuple, oSort, oSortSet, oAll, oAny, S.fz, S.own, D.flat, txts_map, bools_map, txtKeys_map, List.length_map, List.map_cons, List.map_nil, List.length_cons, List.length_nil, List.cons_append, List.nil_append, List.replicate, decide_eq_true_eq, Bool.not_eq_true', Bool.not_true, Bool.not_false, if_true, if_false, Nat.zero_add, Nat.reduceAdd, Nat.reduceSub, ge_iff_le, true_and, and_true, zip_unzip, Bool.false_xor, Bool.true_xor, Bool.false_eq_true, Bool.true_eq_false, reduceIte, wipeR, dataR_cons, dataR_nil, dataO_d, dataO_none, dataO_ol, dataO_od, oDict, oIsi, tyD, isiB, wSl, wPart, wNoP, oSl, wDisp1, wDGet2, oRemove, atI_0, atI_1, atI_2, wiRev, revItems, oDictP, wForK, wiKeys, kD, oSortX, oPow, oBitAnd, oShl, oNeg, wUn, oInt, oStr, oDivmod, oIs, isD, wChain, wFz, wFzE, frzR, wLSet, wiZip, seqsD, wiVals, wiItems, wOIx, wNo, Option.isSome_some, oMulX, wM1, oSplit, oPart, oStrip1, oRep, oSum, intsD, wRaise, wLI, wLK
, wiR3, wLR, wDisp, wPairs, oReverse, oClear, oInsert, wRevL, wDZ, seqLT, oSortIT, wOFld, wSFld, asOI, setOI, putG, wPar, wiItemsC, wiValsC, wIndexL, wDZO, wLO, wiZip3]
    rw [zip_bls]
    refine ⟨by rw [List.length_map, List.length_zip, len0]; omega, ?_⟩
    refine compD_map mono_pair (fun p : Bool × Bool => some (.bl (p.2 || !p.1))) _ _ (fun p hp Q' hQ => ?_) ?_
    · simp only [wSeq, wSet, wAsg, wC, wIfS, wB, wOp, oI, oI0, asI, asS, asL, asLT, asT, asB, asA_some, asA_none, asO, asOL, asOD, asKey, asDic, asSq, oLen, oMod, oAdd, oSub, oMul, oDiv, oMax, oMin, oPlus, oEqX, oNeX, eqX_int, eqX_str, eqX_bl, oCmp, oLtX, oLeX, oGtX, oGeX, oIxX, oInX, wCB, wCons, wNil, wVar, wMove, nth, put, startR, wNext, wRet, wRetN, wDrop, wFor, wiR1, wiR2, wiX, itemsOf, wgName, wgTup, wgCons, wgNil, wLend, wLendT, seeR_cons, seeR_nil, seeO_d, seeO_none, seeO_ol, seeO_od, wJoin, wM, oAppend, oPop, oPopAt, wDPut, wDPop, wSortK, wDict0, wTup, wLst, wCall, wAnd, wOr, wNot, wAndV, wOrV, wNotV, wIf, wYes, wLc, wiEnumX, oListX, oTuple, oSort, oSortSet, oAll, oAny, S.fz, S.own, D.flat, txts_map, bools_map, txtKeys_map, List.length_map, List.map_cons, List.map_nil, List.length_cons, List.length_nil, List.cons_append, List.nil_append, List.replicate, decide_eq_true_eq, Bool.not_eq_true', Bool.not_true, Bool.not_false, if_true, if_false, Nat.zero_add, Nat.reduceAdd, Nat.reduceSub, ge_iff_le, true_and, and_true, zip_unzip, Bool.false_xor, Bool.true_xor, Bool.false_eq_true, Bool.true_eq_false, reduceIte, wipeR, dataR_cons, dataR_nil, dataO_d, dataO_none, dataO_ol, dataO_od, oDict, oIsi, tyD, isiB, wSl, wPart, wNoP, oSl, wDisp1, wDGet2, oRemove, atI_0, atI_1, atI_2, wiRev, revItems, oDictP, wForK, wiKeys, kD, oSortX, oPow, oBitAnd, oShl, oNeg, wUn, oInt, oStr, oDivmod, oIs, isD, wChain, wFz, wFzE, frzR, wLSet, wiZip, seqsD, wiVals, wiItems, wOIx, wNo, Option.isSome_some, oMulX, wM1, oSplit, oPart, oStrip1, oRep, oSum, intsD, wRaise, wLI, wLK
, wiR3, wLR, wDisp, wPairs, oReverse, oClear, oInsert, wRevL, wDZ, seqLT, oSortIT, wOFld, wSFld, asOI, setOI, putG, wPar, wiItemsC, wiValsC, wIndexL, wDZO, wLO, wiZip3]
      obtain ⟨a, b⟩ := p
      cases b <;> exact hQ
    rw [fm_zip fun a b => b || !a, bools_map, asA_some, tab_lead hn fo go hf hg]
    simp only [w_L_way_right_b5d_t1, w_L_way_right_b5d_t2, w_L_way_right_b5d_t3, wSeq, wSet, wAsg, wC, wIfS, wB, wOp, oI, oI0, asI, asS, asL, asLT, asT, asB, asA_some, asA_none, asO, asOL, asOD, asKey, asDic, asSq, oLen, oMod, oAdd, oSub, oMul, oDiv, oMax, oMin, oPlus, oEqX, oNeX, eqX_int, eqX_str, eqX_bl, oCmp, oLtX, oLeX, oGtX, oGeX, oIxX, oInX, wCB, wCons, wNil, wVar, wMove, nth, put, startR, wNext, wRet, wRetN, wDrop, wFor, wiR1, wiR2, wiX, itemsOf, wgName, wgTup, wgCons, wgNil, wLend, wLendT, seeR_cons, seeR_nil, seeO_d, seeO_none, seeO_ol, seeO_od, wJoin, wM, oAppend, oPop, oPopAt, wDPut, wDPop, wSortK, wDict0, wTup, wLst, wCall, wAnd, wOr, wNot, wAndV, wOrV, wNotV, wIf, wYes, wLc, wiEnumX, oListX, oTuple, oSort, oSortSet, oAll, oAny, S.fz, S.own, D.flat, txts_map, bools_map, txtKeys_map, List.length_map, List.map_cons, List.map_nil, List.length_cons, List.length_nil, List.cons_append, List.nil_append, List.replicate, decide_eq_true_eq, Bool.not_eq_true', Bool.not_true, Bool.not_false, if_true, if_false, Nat.zero_add, Nat.reduceAdd, Nat.reduceSub, ge_iff_le, true_and, and_true, zip_unzip, Bool.false_xor, Bool.true_xor, Bool.false_eq_true, Bool.true_eq_false, reduceIte, wipeR, dataR_cons, dataR_nil, dataO_d, dataO_none, dataO_ol, dataO_od, oDict, oIsi, tyD, isiB, wSl, wPart, wNoP, oSl, wDisp1, wDGet2, oRemove, atI_0, atI_1, atI_2, wiRev, revItems, oDictP, wForK, wiKeys, kD, oSortX, oPow, oBitAnd, oShl, oNeg, wUn, oInt, oStr, oDivmod, oIs, isD, wChain, wFz, wFzE, frzR, wLSet, wiZip, seqsD, wiVals, wiItems, wOIx, wNo, Option.isSome_some, oMulX, wM1, oSplit, oPart, oStrip1, oRep, oSum, intsD, wRaise, wLI, wLK
, wiR3, wLR, wDisp, wPairs, oReverse, oClear, oInsert, wRevL, wDZ, seqLT, oSortIT, wOFld, wSFld, asOI, setOI, putG, wPar, wiItemsC, wiValsC, wIndexL, wDZO, wLO, wiZip3, sp_leads, sp_between, asF_tr]
    refine ⟨⟨hf, hg⟩, ?_⟩
    rw [if_neg (by decide)]
    refine ⟨⟨hf, hg⟩, fun hlead => ?_, fun hlead r hr vf vg => ?_⟩
    · rw [hlead]
      simp only [w_L_way_right_b5d_t4, w_L_way_right_b5d_t5, w_L_way_right_b5d_t6, w_L_way_right_b5d_t7, w_L_way_right_b5d_t8, wSeq, wSet, wAsg, wC, wIfS, wB, wOp, oI, oI0, asI, asS, asL, asLT, asT, asB, asA_some, asA_none, asO, asOL, asOD, asKey, asDic, asSq, oLen, oMod, oAdd, oSub, oMul, oDiv, oMax, oMin, oPlus, oEqX, oNeX, eqX_int, eqX_str, eqX_bl, oCmp, oLtX, oLeX, oGtX, oGeX, oIxX, oInX, wCB, wCons, wNil, wVar, wMove, nth, put, startR, wNext, wRet, wRetN, wDrop, wFor, wiR1, wiR2, wiX, itemsOf, wgName, wgTup, wgCons, wgNil, wLend, wLendT, seeR_cons, seeR_nil, seeO_d, seeO_none, seeO_ol, seeO_od, wJoin, wM, oAppend, oPop, oPopAt, wDPut, wDPop, wSortK, wDict0, wTup, wLst, wCall, wAnd, wOr, wNot, wAndV, wOrV, wNotV, wIf, wYes, wLc, wiEnumX, oListX, oTuple, oSort, oSortSet, oAll, oAny, S.fz, S.own, D.flat, txts_map, bools_map, txtKeys_map, List.length_map, List.map_cons, List.map_nil, List.length_cons, List.length_nil, List.cons_append, List.nil_append, List.replicate, decide_eq_true_eq, Bool.not_eq_true', Bool.not_true, Bool.not_false, if_true, if_false, Nat.zero_add, Nat.reduceAdd, Nat.reduceSub, ge_iff_le, true_and, and_true, zip_unzip, Bool.false_xor, Bool.true_xor, Bool.false_eq_true, Bool.true_eq_false, reduceIte, wipeR, dataR_cons, dataR_nil, dataO_d, dataO_none, dataO_ol, dataO_od, oDict, oIsi, tyD, isiB, wSl, wPart, wNoP, oSl, wDisp1, wDGet2, oRemove, atI_0, atI_1, atI_2, wiRev, revItems, oDictP, wForK, wiKeys, kD, oSortX, oPow, oBitAnd, oShl, oNeg, wUn, oInt, oStr, oDivmod, oIs, isD, wChain, wFz, wFzE, frzR, wLSet, wiZip, seqsD, wiVals, wiItems, wOIx, wNo, Option.isSome_some, oMulX, wM1, oSplit, oPart, oStrip1, oRep, oSum, intsD, wRaise, wLI, wLK
, wiR3, wLR, wDisp, wPairs, oReverse, oClear, oInsert, wRevL, wDZ, seqLT, oSortIT, wOFld, wSFld, asOI, setOI, putG, wPar, wiItemsC, wiValsC, wIndexL, wDZO, wLO, wiZip3, sp_L_in_0a4, asF_tr, atI_0, asA_some]
      rw [if_neg (by decide), if_neg (by decide)]
      have pf := prd_letF hf
      have pg := prd_letF hg
      have lf := pf.len
      have lg := pg.len
      have sgn : ∀ u : Str, (signs u).map D.str = (sg u).map fun c => D.str (one c) := fun u => by rw [signs_eq, List.map_map]; rfl
      have sgl : ∀ u : Str, (signs u).length = (sg u).length := fun u => by rw [signs_eq, List.length_map]
      have fS : ∀ c ∈ sg (letF f), c ∈ sg s := fun c hc => by
        obtain ⟨p, hp, hc⟩ := mem_letF.mp hc
        exact fo p hp c hc
      have gS : ∀ c ∈ sg (letF g), c ∈ sg s := fun c hc => by
        obtain ⟨p, hp, hc⟩ := mem_letF.mp hc
        exact go p hp c hc
      have goneF : ∀ a b : Str, Prd a → (∀ c ∈ sg a, c ∈ sg s) → (sg s).filter (fun c => decide (c ∈ (sg a).filter fun d => decide (d ∉ sg b))) = sg (lessS a b) := fun a b ha has => by
        rw [sg_less]
        refine up_ext (hs.up.filter _) (ha.up.filter _) fun c => ?_
        rw [List.mem_filter, decide_eq_true_iff]
        exact ⟨fun z => z.2, fun z => ⟨has c (List.mem_filter.mp z).1, z⟩⟩
      have hSo : Frm (someF f (sg (lessS (letF f) (letF g)))) := frm_some hf
      have hEv : Frm (everyF g (sg (lessS (letF g) (letF f)))) := frm_every hg
      have oSo : ∀ p ∈ someF f (sg (lessS (letF f) (letF g))), ∀ c ∈ sg p, c ∈ sg (letF f) ∧ c ∈ sg (letF g) := fun p hp c hc => by
        have := overP_some (T := fun d => d ∈ sg (letF f)) (over_letF f) p hp c hc
        refine ⟨this.1, ?_⟩
        by_cases z : c ∈ sg (letF g)
        · exact z
        · exact absurd (mem_less.mpr ⟨this.1, z⟩) this.2
      have oEv : ∀ p ∈ everyF g (sg (lessS (letF g) (letF f))), ∀ c ∈ sg p, c ∈ sg (letF f) ∧ c ∈ sg (letF g) := fun p hp c hc => by
        have := overP_every (T := fun d => d ∈ sg (letF g)) (over_letF g) p hp c hc
        refine ⟨?_, this.1⟩
        by_cases z : c ∈ sg (letF f)
        · exact z
        · exact absurd (mem_less.mpr ⟨this.1, z⟩) this.2
      rw [sgn, sgl]
      refine ⟨hf, hg, by rw [len0]; omega, ?_⟩
      refine compD_map mono_name (fun c => if c ∈ sg (letF g) then some (.str (one c)) else none) (sg (letF f)) _ (fun c hc Q' hQ => ?_) ?_
      · simp only [wSeq, wSet, wAsg, wC, wIfS, wB, wOp, oI, oI0, asI, asS, asL, asLT, asT, asB, asA_some, asA_none, asO, asOL, asOD, asKey, asDic, asSq, oLen, oMod, oAdd, oSub, oMul, oDiv, oMax, oMin, oPlus, oEqX, oNeX, eqX_int, eqX_str, eqX_bl, oCmp, oLtX, oLeX, oGtX, oGeX, oIxX, oInX, wCB, wCons, wNil, wVar, wMove, nth, put, startR, wNext, wRet, wRetN, wDrop, wFor, wiR1, wiR2, wiX, itemsOf, wgName, wgTup, wgCons, wgNil, wLend, wLendT, seeR_cons, seeR_nil, seeO_d, seeO_none, seeO_ol, seeO_od, wJoin, wM, oAppend, oPop, oPopAt, wDPut, wDPop, wSortK, wDict0, wTup, wLst, wCall, wAnd, wOr, wNot, wAndV, wOrV, wNotV, wIf, wYes, wLc, wiEnumX, oListX, oTuple, oSort, oSortSet, oAll, oAny, S.fz, S.own, D.flat, txts_map, bools_map, txtKeys_map, List.length_map, List.map_cons, List.map_nil, List.length_cons, List.length_nil, List.cons_append, List.nil_append, List.replicate, decide_eq_true_eq, Bool.not_eq_true', Bool.not_true, Bool.not_false, if_true, if_false, Nat.zero_add, Nat.reduceAdd, Nat.reduceSub, ge_iff_le, true_and, and_true, zip_unzip, Bool.false_xor, Bool.true_xor, Bool.false_eq_true, Bool.true_eq_false, reduceIte, wipeR, dataR_cons, dataR_nil, dataO_d, dataO_none, dataO_ol, dataO_od, oDict, oIsi, tyD, isiB, wSl, wPart, wNoP, oSl, wDisp1, wDGet2, oRemove, atI_0, atI_1, atI_2, wiRev, revItems, oDictP, wForK, wiKeys, kD, oSortX, oPow, oBitAnd, oShl, oNeg, wUn, oInt, oStr, oDivmod, oIs, isD, wChain, wFz, wFzE, frzR, wLSet, wiZip, seqsD, wiVals, wiItems, wOIx, wNo, Option.isSome_some, oMulX, wM1, oSplit, oPart, oStrip1, oRep, oSum, intsD, wRaise, wLI, wLK
, wiR3, wLR, wDisp, wPairs, oReverse, oClear, oInsert, wRevL, wDZ, seqLT, oSortIT, wOFld, wSFld, asOI, setOI, putG, wPar, wiItemsC, wiValsC, wIndexL, wDZO, wLO, wiZip3, inS_one', decide_eq_true_eq]
        by_cases h : c ∈ sg (letF g)
        · rw [if_pos h] at hQ ⊢; exact hQ
        · rw [if_neg h] at hQ ⊢; exact hQ
      rw [fm_strs (T := fun c => c ∈ sg (letF g))]
      generalize hBoth : (sg (letF f)).filter (fun c => decide (c ∈ sg (letF g))) = both
      have bu : both.Pairwise (· < ·) := by rw [← hBoth]; exact pf.up.filter _
      have bl : both.length ≤ 9 := by rw [← hBoth]; exact Nat.le_trans (List.length_filter_le _ _) lf
      have bm : ∀ c, c ∈ sg (letF f) ∧ c ∈ sg (letF g) → c ∈ both := fun c hc => by rw [← hBoth]; exact List.mem_filter.mpr ⟨hc.1, decide_eq_true hc.2⟩
      have bD : (both.map one).map D.str = both.map fun c => D.str (one c) := List.map_map
      rw [bD]
      simp only [w_L_way_right_b5d_t9, wSeq, wSet, wAsg, wC, wIfS, wB, wOp, oI, oI0, asI, asS, asL, asLT, asT, asB, asA_some, asA_none, asO, asOL, asOD, asKey, asDic, asSq, oLen, oMod, oAdd, oSub, oMul, oDiv, oMax, oMin, oPlus, oEqX, oNeX, eqX_int, eqX_str, eqX_bl, oCmp, oLtX, oLeX, oGtX, oGeX, oIxX, oInX, wCB, wCons, wNil, wVar, wMove, nth, put, startR, wNext, wRet, wRetN, wDrop, wFor, wiR1, wiR2, wiX, itemsOf, wgName, wgTup, wgCons, wgNil, wLend, wLendT, seeR_cons, seeR_nil, seeO_d, seeO_none, seeO_ol, seeO_od, wJoin, wM, oAppend, oPop, oPopAt, wDPut, wDPop, wSortK, wDict0, wTup, wLst, wCall, wAnd, wOr, wNot, wAndV, wOrV, wNotV, wIf, wYes, wLc, wiEnumX, oListX, oTuple, oSort, oSortSet, oAll, oAny, S.fz, S.own, D.flat, txts_map, bools_map, txtKeys_map, List.length_map, List.map_cons, List.map_nil, List.length_cons, List.length_nil, List.cons_append, List.nil_append, List.replicate, decide_eq_true_eq, Bool.not_eq_true', Bool.not_true, Bool.not_false, if_true, if_false, Nat.zero_add, Nat.reduceAdd, Nat.reduceSub, ge_iff_le, true_and, and_true, zip_unzip, Bool.false_xor, Bool.true_xor, Bool.false_eq_true, Bool.true_eq_false, reduceIte, wipeR, dataR_cons, dataR_nil, dataO_d, dataO_none, dataO_ol, dataO_od, oDict, oIsi, tyD, isiB, wSl, wPart, wNoP, oSl, wDisp1, wDGet2, oRemove, atI_0, atI_1, atI_2, wiRev, revItems, oDictP, wForK, wiKeys, kD, oSortX, oPow, oBitAnd, oShl, oNeg, wUn, oInt, oStr, oDivmod, oIs, isD, wChain, wFz, wFzE, frzR, wLSet, wiZip, seqsD, wiVals, wiItems, wOIx, wNo, Option.isSome_some, oMulX, wM1, oSplit, oPart, oStrip1, oRep, oSum, intsD, wRaise, wLI, wLK
, wiR3, wLR, wDisp, wPairs, oReverse, oClear, oInsert, wRevL, wDZ, seqLT, oSortIT, wOFld, wSFld, asOI, setOI, putG, wPar, wiItemsC, wiValsC, wIndexL, wDZO, wLO, wiZip3, sp_L_is_form_f61, sp_L_is_form, atI_1, atI_2, asA_some, asF_tr, asF_fD]
      refine ⟨both, ⟨.inr rfl, hSo, bu, bl, fun p hp c hc => bm c (oSo p hp c hc)⟩, both, ⟨.inr rfl, hEv, bu, bl, fun p hp c hc => bm c (oEv p hp c hc)⟩, ?_⟩
      simp only [w_L_way_right_b5d_t10, wSeq, wSet, wAsg, wC, wIfS, wB, wOp, oI, oI0, asI, asS, asL, asLT, asT, asB, asA_some, asA_none, asO, asOL, asOD, asKey, asDic, asSq, oLen, oMod, oAdd, oSub, oMul, oDiv, oMax, oMin, oPlus, oEqX, oNeX, eqX_int, eqX_str, eqX_bl, oCmp, oLtX, oLeX, oGtX, oGeX, oIxX, oInX, wCB, wCons, wNil, wVar, wMove, nth, put, startR, wNext, wRet, wRetN, wDrop, wFor, wiR1, wiR2, wiX, itemsOf, wgName, wgTup, wgCons, wgNil, wLend, wLendT, seeR_cons, seeR_nil, seeO_d, seeO_none, seeO_ol, seeO_od, wJoin, wM, oAppend, oPop, oPopAt, wDPut, wDPop, wSortK, wDict0, wTup, wLst, wCall, wAnd, wOr, wNot, wAndV, wOrV, wNotV, wIf, wYes, wLc, wiEnumX, oListX, oTuple, oSort, oSortSet, oAll, oAny, S.fz, S.own, D.flat, txts_map, bools_map, txtKeys_map, List.length_map, List.map_cons, List.map_nil, List.length_cons, List.length_nil, List.cons_append, List.nil_append, List.replicate, decide_eq_true_eq, Bool.not_eq_true', Bool.not_true, Bool.not_false, if_true, if_false, Nat.zero_add, Nat.reduceAdd, Nat.reduceSub, ge_iff_le, true_and, and_true, zip_unzip, Bool.false_xor, Bool.true_xor, Bool.false_eq_true, Bool.true_eq_false, reduceIte, wipeR, dataR_cons, dataR_nil, dataO_d, dataO_none, dataO_ol, dataO_od, oDict, oIsi, tyD, isiB, wSl, wPart, wNoP, oSl, wDisp1, wDGet2, oRemove, atI_0, atI_1, atI_2, wiRev, revItems, oDictP, wForK, wiKeys, kD, oSortX, oPow, oBitAnd, oShl, oNeg, wUn, oInt, oStr, oDivmod, oIs, isD, wChain, wFz, wFzE, frzR, wLSet, wiZip, seqsD, wiVals, wiItems, wOIx, wNo, Option.isSome_some, oMulX, wM1, oSplit, oPart, oStrip1, oRep, oSum, intsD, wRaise, wLI, wLK
, wiR3, wLR, wDisp, wPairs, oReverse, oClear, oInsert, wRevL, wDZ, seqLT, oSortIT, wOFld, wSFld, asOI, setOI, putG, wPar, wiItemsC, wiValsC, wIndexL, wDZO, wLO, wiZip3, sp_L_taken_380]
      rw [sgn, sgl]
      refine ⟨by rw [len0]; omega, ?_⟩
      refine compD_map mono_name (fun c => if c ∉ sg (letF g) then some (.str (one c)) else none) (sg (letF f)) _ (fun c hc Q' hQ => ?_) ?_
      · simp only [wSeq, wSet, wAsg, wC, wIfS, wB, wOp, oI, oI0, asI, asS, asL, asLT, asT, asB, asA_some, asA_none, asO, asOL, asOD, asKey, asDic, asSq, oLen, oMod, oAdd, oSub, oMul, oDiv, oMax, oMin, oPlus, oEqX, oNeX, eqX_int, eqX_str, eqX_bl, oCmp, oLtX, oLeX, oGtX, oGeX, oIxX, oInX, wCB, wCons, wNil, wVar, wMove, nth, put, startR, wNext, wRet, wRetN, wDrop, wFor, wiR1, wiR2, wiX, itemsOf, wgName, wgTup, wgCons, wgNil, wLend, wLendT, seeR_cons, seeR_nil, seeO_d, seeO_none, seeO_ol, seeO_od, wJoin, wM, oAppend, oPop, oPopAt, wDPut, wDPop, wSortK, wDict0, wTup, wLst, wCall, wAnd, wOr, wNot, wAndV, wOrV, wNotV, wIf, wYes, wLc, wiEnumX, oListX, oTuple, oSort, oSortSet, oAll, oAny, S.fz, S.own, D.flat, txts_map, bools_map, txtKeys_map, List.length_map, List.map_cons, List.map_nil, List.length_cons, List.length_nil, List.cons_append, List.nil_append, List.replicate, decide_eq_true_eq, Bool.not_eq_true', Bool.not_true, Bool.not_false, if_true, if_false, Nat.zero_add, Nat.reduceAdd, Nat.reduceSub, ge_iff_le, true_and, and_true, zip_unzip, Bool.false_xor, Bool.true_xor, Bool.false_eq_true, Bool.true_eq_false, reduceIte, wipeR, dataR_cons, dataR_nil, dataO_d, dataO_none, dataO_ol, dataO_od, oDict, oIsi, tyD, isiB, wSl, wPart, wNoP, oSl, wDisp1, wDGet2, oRemove, atI_0, atI_1, atI_2, wiRev, revItems, oDictP, wForK, wiKeys, kD, oSortX, oPow, oBitAnd, oShl, oNeg, wUn, oInt, oStr, oDivmod, oIs, isD, wChain, wFz, wFzE, frzR, wLSet, wiZip, seqsD, wiVals, wiItems, wOIx, wNo, Option.isSome_some, oMulX, wM1, oSplit, oPart, oStrip1, oRep, oSum, intsD, wRaise, wLI, wLK
, wiR3, wLR, wDisp, wPairs, oReverse, oClear, oInsert, wRevL, wDZ, seqLT, oSortIT, wOFld, wSFld, asOI, setOI, putG, wPar, wiItemsC, wiValsC, wIndexL, wDZO, wLO, wiZip3, inS_one']
        by_cases h : c ∈ sg (letF g)
        · rw [if_neg (not_not_intro h)] at hQ; rw [decide_eq_true h]; exact hQ
        · rw [if_pos h] at hQ; rw [decide_eq_false h]; exact hQ
      rw [fm_strs (T := fun c => c ∉ sg (letF g)), txts_map, asA_some]
      refine ⟨f, (sg (letF f)).filter fun c => decide (c ∉ sg (letF g)), ⟨rfl, rfl, hn, h9⟩, ?_⟩
      rw [goneF _ _ pf fS]
      simp only [w_L_way_right_b5d_t11, wSeq, wSet, wAsg, wC, wIfS, wB, wOp, oI, oI0, asI, asS, asL, asLT, asT, asB, asA_some, asA_none, asO, asOL, asOD, asKey, asDic, asSq, oLen, oMod, oAdd, oSub, oMul, oDiv, oMax, oMin, oPlus, oEqX, oNeX, eqX_int, eqX_str, eqX_bl, oCmp, oLtX, oLeX, oGtX, oGeX, oIxX, oInX, wCB, wCons, wNil, wVar, wMove, nth, put, startR, wNext, wRet, wRetN, wDrop, wFor, wiR1, wiR2, wiX, itemsOf, wgName, wgTup, wgCons, wgNil, wLend, wLendT, seeR_cons, seeR_nil, seeO_d, seeO_none, seeO_ol, seeO_od, wJoin, wM, oAppend, oPop, oPopAt, wDPut, wDPop, wSortK, wDict0, wTup, wLst, wCall, wAnd, wOr, wNot, wAndV, wOrV, wNotV, wIf, wYes, wLc, wiEnumX, oListX, oTuple, oSort, oSortSet, oAll, oAny, S.fz, S.own, D.flat, txts_map, bools_map, txtKeys_map, List.length_map, List.map_cons, List.map_nil, List.length_cons, List.length_nil, List.cons_append, List.nil_append, List.replicate, decide_eq_true_eq, Bool.not_eq_true', Bool.not_true, Bool.not_false, if_true, if_false, Nat.zero_add, Nat.reduceAdd, Nat.reduceSub, ge_iff_le, true_and, and_true, zip_unzip, Bool.false_xor, Bool.true_xor, Bool.false_eq_true, Bool.true_eq_false, reduceIte, wipeR, dataR_cons, dataR_nil, dataO_d, dataO_none, dataO_ol, dataO_od, oDict, oIsi, tyD, isiB, wSl, wPart, wNoP, oSl, wDisp1, wDGet2, oRemove, atI_0, atI_1, atI_2, wiRev, revItems, oDictP, wForK, wiKeys, kD, oSortX, oPow, oBitAnd, oShl, oNeg, wUn, oInt, oStr, oDivmod, oIs, isD, wChain, wFz, wFzE, frzR, wLSet, wiZip, seqsD, wiVals, wiItems, wOIx, wNo, Option.isSome_some, oMulX, wM1, oSplit, oPart, oStrip1, oRep, oSum, intsD, wRaise, wLI, wLK
, wiR3, wLR, wDisp, wPairs, oReverse, oClear, oInsert, wRevL, wDZ, seqLT, oSortIT, wOFld, wSFld, asOI, setOI, putG, wPar, wiItemsC, wiValsC, wIndexL, wDZO, wLO, wiZip3, sp_L_taken_380]
      rw [sgn, sgl]
      refine ⟨by rw [len0]; omega, ?_⟩
      refine compD_map mono_name (fun c => if c ∉ sg (letF f) then some (.str (one c)) else none) (sg (letF g)) _ (fun c hc Q' hQ => ?_) ?_
      · simp only [wSeq, wSet, wAsg, wC, wIfS, wB, wOp, oI, oI0, asI, asS, asL, asLT, asT, asB, asA_some, asA_none, asO, asOL, asOD, asKey, asDic, asSq, oLen, oMod, oAdd, oSub, oMul, oDiv, oMax, oMin, oPlus, oEqX, oNeX, eqX_int, eqX_str, eqX_bl, oCmp, oLtX, oLeX, oGtX, oGeX, oIxX, oInX, wCB, wCons, wNil, wVar, wMove, nth, put, startR, wNext, wRet, wRetN, wDrop, wFor, wiR1, wiR2, wiX, itemsOf, wgName, wgTup, wgCons, wgNil, wLend, wLendT, seeR_cons, seeR_nil, seeO_d, seeO_none, seeO_ol, seeO_od, wJoin, wM, oAppend, oPop, oPopAt, wDPut, wDPop, wSortK, wDict0, wTup, wLst, wCall, wAnd, wOr, wNot, wAndV, wOrV, wNotV, wIf, wYes, wLc, wiEnumX, oListX, oTuple, oSort, oSortSet, oAll, oAny, S.fz, S.own, D.flat, txts_map, bools_map, txtKeys_map, List.length_map, List.map_cons, List.map_nil, List.length_cons, List.length_nil, List.cons_append, List.nil_append, List.replicate, decide_eq_true_eq, Bool.not_eq_true', Bool.not_true, Bool.not_false, if_true, if_false, Nat.zero_add, Nat.reduceAdd, Nat.reduceSub, ge_iff_le, true_and, and_true, zip_unzip, Bool.false_xor, Bool.true_xor, Bool.false_eq_true, Bool.true_eq_false, reduceIte, wipeR, dataR_cons, dataR_nil, dataO_d, dataO_none, dataO_ol, dataO_od, oDict, oIsi, tyD, isiB, wSl, wPart, wNoP, oSl, wDisp1, wDGet2, oRemove, atI_0, atI_1, atI_2, wiRev, revItems, oDictP, wForK, wiKeys, kD, oSortX, oPow, oBitAnd, oShl, oNeg, wUn, oInt, oStr, oDivmod, oIs, isD, wChain, wFz, wFzE, frzR, wLSet, wiZip, seqsD, wiVals, wiItems, wOIx, wNo, Option.isSome_some, oMulX, wM1, oSplit, oPart, oStrip1, oRep, oSum, intsD, wRaise, wLI, wLK
, wiR3, wLR, wDisp, wPairs, oReverse, oClear, oInsert, wRevL, wDZ, seqLT, oSortIT, wOFld, wSFld, asOI, setOI, putG, wPar, wiItemsC, wiValsC, wIndexL, wDZO, wLO, wiZip3, inS_one']
        by_cases h : c ∈ sg (letF f)
        · rw [if_neg (not_not_intro h)] at hQ; rw [decide_eq_true h]; exact hQ
        · rw [if_pos h] at hQ; rw [decide_eq_false h]; exact hQ
      rw [fm_strs (T := fun c => c ∉ sg (letF f)), txts_map, asA_some]
      refine ⟨g, (sg (letF g)).filter fun c => decide (c ∉ sg (letF f)), ⟨rfl, rfl, hn, h9⟩, ?_⟩
      rw [goneF _ _ pg gS]
      simp only [w_L_way_right_b5d_t12, wSeq, wSet, wAsg, wC, wIfS, wB, wOp, oI, oI0, asI, asS, asL, asLT, asT, asB, asA_some, asA_none, asO, asOL, asOD, asKey, asDic, asSq, oLen, oMod, oAdd, oSub, oMul, oDiv, oMax, oMin, oPlus, oEqX, oNeX, eqX_int, eqX_str, eqX_bl, oCmp, oLtX, oLeX, oGtX, oGeX, oIxX, oInX, wCB, wCons, wNil, wVar, wMove, nth, put, startR, wNext, wRet, wRetN, wDrop, wFor, wiR1, wiR2, wiX, itemsOf, wgName, wgTup, wgCons, wgNil, wLend, wLendT, seeR_cons, seeR_nil, seeO_d, seeO_none, seeO_ol, seeO_od, wJoin, wM, oAppend, oPop, oPopAt, wDPut, wDPop, wSortK, wDict0, wTup, wLst, wCall, wAnd, wOr, wNot, wAndV, wOrV, wNotV, wIf, wYes, wLc, wiEnumX, oListX, oTuple, oSort, oSortSet, oAll, oAny, S.fz, S.own, D.flat, txts_map, bools_map, txtKeys_map, List.length_map, List.map_cons, List.map_nil, List.length_cons, List.length_nil, List.cons_append, List.nil_append, List.replicate, decide_eq_true_eq, Bool.not_eq_true', Bool.not_true, Bool.not_false, if_true, if_false, Nat.zero_add, Nat.reduceAdd, Nat.reduceSub, ge_iff_le, true_and, and_true, zip_unzip, Bool.false_xor, Bool.true_xor, Bool.false_eq_true, Bool.true_eq_false, reduceIte, wipeR, dataR_cons, dataR_nil, dataO_d, dataO_none, dataO_ol, dataO_od, oDict, oIsi, tyD, isiB, wSl, wPart, wNoP, oSl, wDisp1, wDGet2, oRemove, atI_0, atI_1, atI_2, wiRev, revItems, oDictP, wForK, wiKeys, kD, oSortX, oPow, oBitAnd, oShl, oNeg, wUn, oInt, oStr, oDivmod, oIs, isD, wChain, wFz, wFzE, frzR, wLSet, wiZip, seqsD, wiVals, wiItems, wOIx, wNo, Option.isSome_some, oMulX, wM1, oSplit, oPart, oStrip1, oRep, oSum, intsD, wRaise, wLI, wLK
, wiR3, wLR, wDisp, wPairs, oReverse, oClear, oInsert, wRevL, wDZ, seqLT, oSortIT, wOFld, wSFld, asOI, setOI, putG, wPar, wiItemsC, wiValsC, wIndexL, wDZO, wLO, wiZip3, sp_L_table_9dd, sp_L_table_bc0, atI_1, atI_2, asA_some, asF_fD]
      refine ⟨⟨hSo, fun p hp c hc => fS c (oSo p hp c hc).1, hn, h9⟩, ?_⟩
      have q1 := tabF_len (sg s) (someF f (sg (lessS (letF f) (letF g))))
      have q2 := tabF_len (sg s) (everyF g (sg (lessS (letF g) (letF f))))
      rw [eqX_blsN (by omega) (by omega), decide_eq_true rfl, if_pos rfl]
      refine ⟨⟨hEv, fun p hp c hc => fS c (oEv p hp c hc).1, hn, h9⟩, ?_⟩
      rw [eqX_blsN (by omega) (by omega), decide_eq_true rfl]
      exact hq
    · rw [hlead]
      simp only [w_L_way_right_b5d_t4, wSeq, wSet, wAsg, wC, wIfS, wB, wOp, oI, oI0, asI, asS, asL, asLT, asT, asB, asA_some, asA_none, asO, asOL, asOD, asKey, asDic, asSq, oLen, oMod, oAdd, oSub, oMul, oDiv, oMax, oMin, oPlus, oEqX, oNeX, eqX_int, eqX_str, eqX_bl, oCmp, oLtX, oLeX, oGtX, oGeX, oIxX, oInX, wCB, wCons, wNil, wVar, wMove, nth, put, startR, wNext, wRet, wRetN, wDrop, wFor, wiR1, wiR2, wiX, itemsOf, wgName, wgTup, wgCons, wgNil, wLend, wLendT, seeR_cons, seeR_nil, seeO_d, seeO_none, seeO_ol, seeO_od, wJoin, wM, oAppend, oPop, oPopAt, wDPut, wDPop, wSortK, wDict0, wTup, wLst, wCall, wAnd, wOr, wNot, wAndV, wOrV, wNotV, wIf, wYes, wLc, wiEnumX, oListX, oTuple, oSort, oSortSet, oAll, oAny, S.fz, S.own, D.flat, txts_map, bools_map, txtKeys_map, List.length_map, List.map_cons, List.map_nil, List.length_cons, List.length_nil, List.cons_append, List.nil_append, List.replicate, decide_eq_true_eq, Bool.not_eq_true', Bool.not_true, Bool.not_false, if_true, if_false, Nat.zero_add, Nat.reduceAdd, Nat.reduceSub, ge_iff_le, true_and, and_true, zip_unzip, Bool.false_xor, Bool.true_xor, Bool.false_eq_true, Bool.true_eq_false, reduceIte, wipeR, dataR_cons, dataR_nil, dataO_d, dataO_none, dataO_ol, dataO_od, oDict, oIsi, tyD, isiB, wSl, wPart, wNoP, oSl, wDisp1, wDGet2, oRemove, atI_0, atI_1, atI_2, wiRev, revItems, oDictP, wForK, wiKeys, kD, oSortX, oPow, oBitAnd, oShl, oNeg, wUn, oInt, oStr, oDivmod, oIs, isD, wChain, wFz, wFzE, frzR, wLSet, wiZip, seqsD, wiVals, wiItems, wOIx, wNo, Option.isSome_some, oMulX, wM1, oSplit, oPart, oStrip1, oRep, oSum, intsD, wRaise, wLI, wLK
, wiR3, wLR, wDisp, wPairs, oReverse, oClear, oInsert, wRevL, wDZ, seqLT, oSortIT, wOFld, wSFld, asOI, setOI, putG, wPar, wiItemsC, wiValsC, wIndexL, wDZO, wLO, wiZip3, sp_L_row_well_e78, asF_tr]
      exact ⟨r, ⟨rfl, hf, hg, hr, vf, vg⟩, hq⟩
  · exact h.elim
abbrev N_law : List Str := ["_law_script", "_law_head", "_law_letters_here", "_law_one", "_law_other", "_law_here", "_law_there"]
def w_law_t6 : WS := (wRet (wCall sp_L_way_right_b5d (fun _ _ => False) (wCons (wVar 4) (wCons (wVar 3) (wCons (wVar 6) (wCons (wVar 5) (wCons (wVar 2) wNil)))))))
def w_law_t5 : WS := wSeq (wIfS (wNot (wB (wCall sp_L_way_right_b5d (fun _ _ => False) (wCons (wVar 3) (wCons (wVar 4) (wCons (wVar 5) (wCons (wVar 6) (wCons (wVar 2) wNil)))))))) (wRet (wC (.bl false))) wNext)
    w_law_t6
def w_law_t4 : WS := wSeq (wAsg (wCall sp_L_table_9dd (fun _ _ => False) (wCons (wVar 4) (wCons (wVar 2) wNil))) (wgName 6))
    w_law_t5
def w_law_t3 : WS := wSeq (wAsg (wCall sp_L_table_9dd (fun _ _ => False) (wCons (wVar 3) (wCons (wVar 2) wNil))) (wgName 5))
    w_law_t4
def w_law_t2 : WS := wSeq (wAsg (wCall sp_L_pair_3b9 (fun _ _ => False) (wCons (wVar 0) (wCons (wVar 2) (wCons (wVar 1) wNil)))) (wgTup 2 (wgCons (wgName 3) (wgCons (wgName 4) wgNil))))
    w_law_t3
def w_law_t1 : WS := wSeq (wAsg (wCall sp_L_letters_1c0 (fun _ _ => False) (wCons (wVar 1) wNil)) (wgName 2))
    w_law_t2
def w_law : WS := wSeq (wAsg (wCall sp_L_stir_d34 (fun _ _ => False) (wCons (wCall sp_L_cell_808 (fun _ _ => False) (wCons (wVar 0) (wCons (wC (.int 0)) wNil))) (wCons (wC (.int 3)) wNil))) (wgName 1))
    w_law_t1
theorem len_law {ds Q px} (h : spLaw ds Q px) : ds.length = 1 := by obtain ⟨ns, rfl, _⟩ := h; rfl
theorem rd_law {ds Q px} (h : spLaw ds Q px) : w_law ⟨fun _ => Q (.d .non), Q, fun _ => False, fun _ => False⟩ (startR N_law ds) := by
  obtain ⟨ns, rfl, hl, hb, hq⟩ := h
  simp only [w_law, w_law_t1, wSeq, wSet, wAsg, wC, wIfS, wB, wOp, oI, oI0, asI, asS, asL, asLT, asT, asB, asA_some, asA_none, asO, asOL, asOD, asKey, asDic, asSq, oLen, oMod, oAdd, oSub, oMul, oDiv, oMax, oMin, oPlus, oEqX, oNeX, eqX_int, eqX_str, eqX_bl, oCmp, oLtX, oLeX, oGtX, oGeX, oIxX, oInX, wCB, wCons, wNil, wVar, wMove, nth, put, startR, wNext, wRet, wRetN, wDrop, wFor, wiR1, wiR2, wiX, itemsOf, wgName, wgTup, wgCons, wgNil, wLend, wLendT, seeR_cons, seeR_nil, seeO_d, seeO_none, seeO_ol, seeO_od, wJoin, wM, oAppend, oPop, oPopAt, wDPut, wDPop, wSortK, wDict0, wTup, wLst, wCall, wAnd, wOr, wNot, wAndV, wOrV, wNotV, wIf, wYes, wLc, wiEnumX, oListX, oTuple, oSort, oSortSet, oAll, oAny, S.fz, S.own, D.flat, txts_map, bools_map, txtKeys_map, List.length_map, List.map_cons, List.map_nil, List.length_cons, List.length_nil, List.cons_append, List.nil_append, List.replicate, decide_eq_true_eq, Bool.not_eq_true', Bool.not_true, Bool.not_false, if_true, if_false, Nat.zero_add, Nat.reduceAdd, Nat.reduceSub, ge_iff_le, true_and, and_true, zip_unzip, Bool.false_xor, Bool.true_xor, Bool.false_eq_true, Bool.true_eq_false, reduceIte, wipeR, dataR_cons, dataR_nil, dataO_d, dataO_none, dataO_ol, dataO_od, oDict, oIsi, tyD, isiB, wSl, wPart, wNoP, oSl, wDisp1, wDGet2, oRemove, atI_0, atI_1, atI_2, wiRev, revItems, oDictP, wForK, wiKeys, kD, oSortX, oPow, oBitAnd, oShl, oNeg, wUn, oInt, oStr, oDivmod, oIs, isD, wChain, wFz, wFzE, frzR, wLSet, wiZip, seqsD, wiVals, wiItems, wOIx, wNo, Option.isSome_some, oMulX, wM1, oSplit, oPart, oStrip1, oRep, oSum, intsD, wRaise, wLI, wLK
, wiR3, wLR, wDisp, wPairs, oReverse, oClear, oInsert, wRevL, wDZ, seqLT, oSortIT, wOFld, wSFld, asOI, setOI, putG, wPar, wiItemsC, wiValsC, wIndexL, wDZO, wLO, wiZip3, sp_L_cell_808, sp_L_stir_d34, sp_L_letters_1c0]
  refine ⟨⟨hl, by decide⟩, fun c0 => ⟨⟨by decide, by decide⟩, fun hd h0 _ => ⟨h0, fun s hs => ?_⟩⟩⟩
  have h9 := hs.len
  have hn := up_nodup hs.up
  simp only [w_law_t2, wSeq, wSet, wAsg, wC, wIfS, wB, wOp, oI, oI0, asI, asS, asL, asLT, asT, asB, asA_some, asA_none, asO, asOL, asOD, asKey, asDic, asSq, oLen, oMod, oAdd, oSub, oMul, oDiv, oMax, oMin, oPlus, oEqX, oNeX, eqX_int, eqX_str, eqX_bl, oCmp, oLtX, oLeX, oGtX, oGeX, oIxX, oInX, wCB, wCons, wNil, wVar, wMove, nth, put, startR, wNext, wRet, wRetN, wDrop, wFor, wiR1, wiR2, wiX, itemsOf, wgName, wgTup, wgCons, wgNil, wLend, wLendT, seeR_cons, seeR_nil, seeO_d, seeO_none, seeO_ol, seeO_od, wJoin, wM, oAppend, oPop, oPopAt, wDPut, wDPop, wSortK, wDict0, wTup, wLst, wCall, wAnd, wOr, wNot, wAndV, wOrV, wNotV, wIf, wYes, wLc, wiEnumX, oListX, oTuple, oSort, oSortSet, oAll, oAny, S.fz, S.own, D.flat, txts_map, bools_map, txtKeys_map, List.length_map, List.map_cons, List.map_nil, List.length_cons, List.length_nil, List.cons_append, List.nil_append, List.replicate, decide_eq_true_eq, Bool.not_eq_true', Bool.not_true, Bool.not_false, if_true, if_false, Nat.zero_add, Nat.reduceAdd, Nat.reduceSub, ge_iff_le, true_and, and_true, zip_unzip, Bool.false_xor, Bool.true_xor, Bool.false_eq_true, Bool.true_eq_false, reduceIte, wipeR, dataR_cons, dataR_nil, dataO_d, dataO_none, dataO_ol, dataO_od, oDict, oIsi, tyD, isiB, wSl, wPart, wNoP, oSl, wDisp1, wDGet2, oRemove, atI_0, atI_1, atI_2, wiRev, revItems, oDictP, wForK, wiKeys, kD, oSortX, oPow, oBitAnd, oShl, oNeg, wUn, oInt, oStr, oDivmod, oIs, isD, wChain, wFz, wFzE, frzR, wLSet, wiZip, seqsD, wiVals, wiItems, wOIx, wNo, Option.isSome_some, oMulX, wM1, oSplit, oPart, oStrip1, oRep, oSum, intsD, wRaise, wLI, wLK
, wiR3, wLR, wDisp, wPairs, oReverse, oClear, oInsert, wRevL, wDZ, seqLT, oSortIT, wOFld, wSFld, asOI, setOI, putG, wPar, wiItemsC, wiValsC, wIndexL, wDZO, wLO, wiZip3, sp_L_pair_3b9]
  refine ⟨⟨hl, hs, h0⟩, fun f g hf fo hg go => ?_⟩
  simp only [w_law_t3, w_law_t4, w_law_t5, w_law_t6, wSeq, wSet, wAsg, wC, wIfS, wB, wOp, oI, oI0, asI, asS, asL, asLT, asT, asB, asA_some, asA_none, asO, asOL, asOD, asKey, asDic, asSq, oLen, oMod, oAdd, oSub, oMul, oDiv, oMax, oMin, oPlus, oEqX, oNeX, eqX_int, eqX_str, eqX_bl, oCmp, oLtX, oLeX, oGtX, oGeX, oIxX, oInX, wCB, wCons, wNil, wVar, wMove, nth, put, startR, wNext, wRet, wRetN, wDrop, wFor, wiR1, wiR2, wiX, itemsOf, wgName, wgTup, wgCons, wgNil, wLend, wLendT, seeR_cons, seeR_nil, seeO_d, seeO_none, seeO_ol, seeO_od, wJoin, wM, oAppend, oPop, oPopAt, wDPut, wDPop, wSortK, wDict0, wTup, wLst, wCall, wAnd, wOr, wNot, wAndV, wOrV, wNotV, wIf, wYes, wLc, wiEnumX, oListX, oTuple, oSort, oSortSet, oAll, oAny, S.fz, S.own, D.flat, txts_map, bools_map, txtKeys_map, List.length_map, List.map_cons, List.map_nil, List.length_cons, List.length_nil, List.cons_append, List.nil_append, List.replicate, decide_eq_true_eq, Bool.not_eq_true', Bool.not_true, Bool.not_false, if_true, if_false, Nat.zero_add, Nat.reduceAdd, Nat.reduceSub, ge_iff_le, true_and, and_true, zip_unzip, Bool.false_xor, Bool.true_xor, Bool.false_eq_true, Bool.true_eq_false, reduceIte, wipeR, dataR_cons, dataR_nil, dataO_d, dataO_none, dataO_ol, dataO_od, oDict, oIsi, tyD, isiB, wSl, wPart, wNoP, oSl, wDisp1, wDGet2, oRemove, atI_0, atI_1, atI_2, wiRev, revItems, oDictP, wForK, wiKeys, kD, oSortX, oPow, oBitAnd, oShl, oNeg, wUn, oInt, oStr, oDivmod, oIs, isD, wChain, wFz, wFzE, frzR, wLSet, wiZip, seqsD, wiVals, wiItems, wOIx, wNo, Option.isSome_some, oMulX, wM1, oSplit, oPart, oStrip1, oRep, oSum, intsD, wRaise, wLI, wLK
, wiR3, wLR, wDisp, wPairs, oReverse, oClear, oInsert, wRevL, wDZ, seqLT, oSortIT, wOFld, wSFld, asOI, setOI, putG, wPar, wiItemsC, wiValsC, wIndexL, wDZO, wLO, wiZip3, sp_L_table_9dd, sp_L_table_bc0, sp_L_way_right_b5d, asF_fD]
  refine ⟨⟨hf, fo, hn, h9⟩, ⟨hg, go, hn, h9⟩, ⟨⟨hf, hg, fo, go, hs⟩, ⟨hg, hf, go, fo, hs⟩, hq⟩⟩
end DL
namespace DL
open PySem L2
def top (i : Nat) : Stmt := PySem.Challenge.pw_fillsay_k88_whole_between_great_forms.main.body.getD i (.Pass ⟨0, 0, 0, 0⟩)
abbrev sp_law : DSp := spLaw

abbrev s_L_stir_d34 : Stmt := top 22
theorem sc_L_stir_d34 : FnScope N_L_stir_d34 ["_law_cell_here", "_law_k"] (defScope s_L_stir_d34) := ⟨rfl, rfl, rfl, by decide +kernel, rfl, by decide +kernel, by decide +kernel⟩
set_option maxHeartbeats 4000000 in
theorem ok_L_stir_d34 {P : Program} {w : World} {K : PySem.W.Frag} {mg : Str → Option Value} {base : Heap} {f : Addr} {fd : FuncData} (F : Fun K "_law_stir" "_law_stir" s_L_stir_d34 f fd) :
    FnOk P w K mg base CX0 1 f fd ["_law_cell_here", "_law_k"] (spD K sp_L_stir_d34) := by
  refine fnD F sc_L_stir_d34 (fun ds Q px h => len_L_stir_d34 h) (fun cdv A outer s H E hr => ⟨_, w_L_stir_d34,
    (dss_one (ds_ret (de_mod (de_mul (de_plus (de_mod (de_pow (de_plus (de_plus (de_mod (de_var 0) de_int) (de_mul de_int (de_var 1))) de_int) de_int) de_int) (de_var 1)) de_int) de_int))), fun ds Q px h => rd_L_stir_d34 h⟩)

abbrev s_L_cell_808 : Stmt := top 21
theorem sc_L_cell_808 : FnScope N_L_cell_808 ["_law_script", "_law_k"] (defScope s_L_cell_808) := ⟨rfl, rfl, rfl, by decide +kernel, rfl, by decide +kernel, by decide +kernel⟩
set_option maxHeartbeats 4000000 in
theorem ok_L_cell_808 {P : Program} {w : World} {K : PySem.W.Frag} {mg : Str → Option Value} {base : Heap} {f : Addr} {fd : FuncData} (F : Fun K "_law_cell" "_law_cell" s_L_cell_808 f fd) (m_len : mg "len" = none) :
    FnOk P w K mg base CX0 1 f fd ["_law_script", "_law_k"] (spD K sp_L_cell_808) := by
  refine fnD F sc_L_cell_808 (fun ds Q px h => len_L_cell_808 h) (fun cdv A outer s H E hr => ⟨_, w_L_cell_808,
    (dss_cons (ds_if (dt_ltX hr.units (de_var 1) (de_len m_len (de_var 0))) (dss_one (ds_ret (de_ixX hr.units (de_var 0) (de_var 1)))) dss_nil)
    (dss_one (ds_ret de_int))), fun ds Q px h => rd_L_cell_808 h⟩)

abbrev s_L_letters_1c0 : Stmt := top 30
theorem sc_L_letters_1c0 : FnScope N_L_letters_1c0 ["_law_head"] (defScope s_L_letters_1c0) := ⟨rfl, rfl, rfl, by decide +kernel, rfl, by decide +kernel, by decide +kernel⟩
set_option maxHeartbeats 4000000 in
theorem ok_L_letters_1c0 {P : Program} {w : World} {K : PySem.W.Frag} {mg : Str → Option Value} {base : Heap} {f : Addr} {fd : FuncData} (F : Fun K "_law_letters" "_law_letters" s_L_letters_1c0 f fd) (m_len : mg "len" = none) (m_list : mg "list" = none) (m_range : mg "range" = none) :
    FnOk P w K mg base CX0 1 f fd ["_law_head"] (spD K sp_L_letters_1c0) := by
  refine fnD F sc_L_letters_1c0 (fun ds Q px h => len_L_letters_1c0 h) (fun cdv A outer s H E hr => ⟨_, w_L_letters_1c0,
    (dss_cons (ds_set 1 sc_L_letters_1c0.nd (de_listX rfl m_list de_str))
    (dss_cons (ds_asg (de_div (de_var 0) de_int) (dg_name 2 sc_L_letters_1c0.nd))
    (dss_cons (ds_for PassesOwn.never rfl (di_range1 m_range (da_cons (de_mod (de_var 0) de_int) da_nil)) (dg_name 3 sc_L_letters_1c0.nd) (dss_cons (ds_expr (de_popAt 1 (de_mod (de_var 2) (de_lend (de_len m_len (de_var 1))))))
    (dss_one (ds_asg (de_div (de_var 2) de_int) (dg_name 2 sc_L_letters_1c0.nd)))))
    (dss_one (ds_ret (de_lend (de_join de_str (de_var 1)))))))), fun ds Q px h => rd_L_letters_1c0 h⟩)

abbrev s_L_parts_bdf : Stmt := top 31
theorem sc_L_parts_bdf : FnScope N_L_parts_bdf ["_law_letters_here", "_law_numbers_here"] (defScope s_L_parts_bdf) := ⟨rfl, rfl, rfl, by decide +kernel, rfl, by decide +kernel, by decide +kernel⟩
set_option maxHeartbeats 4000000 in
theorem ok_L_parts_bdf {P : Program} {w : World} {K : PySem.W.Frag} {mg : Str → Option Value} {base : Heap} {f : Addr} {fd : FuncData} (F : Fun K "_law_parts" "_law_parts" s_L_parts_bdf f fd) (m_zip : mg "zip" = none) :
    FnOk P w K mg base CX0 1 f fd ["_law_letters_here", "_law_numbers_here"] (spD K sp_L_parts_bdf) := by
  refine fnD F sc_L_parts_bdf (fun ds Q px h => len_L_parts_bdf h) (fun cdv A outer s H E hr => ⟨_, w_L_parts_bdf,
    (dss_cons (ds_set 2 sc_L_parts_bdf.nd (de_lst (da_cons de_str (da_cons de_str (da_cons de_str da_nil)))))
    (dss_cons (ds_for PassesOwn.never rfl (di_zip m_zip (da_cons (de_var 0) (da_cons (de_var 1) da_nil))) (dg_tup rfl (dgs_cons (dg_name 3 sc_L_parts_bdf.nd) (dgs_cons (dg_name 4 sc_L_parts_bdf.nd) dgs_nil))) (dss_cons (ds_asg (de_ixX hr.units (de_lst (da_cons de_int (da_cons de_int (da_cons de_int (da_cons de_int (da_cons de_int (da_cons de_int da_nil))))))) (de_mod (de_var 4) de_int)) (dg_name 5 sc_L_parts_bdf.nd))
    (dss_cons (ds_if (dt_lend (dt_neX hr.units (de_ixX hr.units (de_var 2) (de_var 5)) de_str)) (dss_one (ds_asg de_int (dg_name 5 sc_L_parts_bdf.nd))) dss_nil)
    (dss_one (ds_lset 2 (de_var 5) (de_plus (de_oix 2 hr.units (de_var 5)) (de_var 3)))))))
    (dss_one (ds_ret (de_move 2))))), fun ds Q px h => rd_L_parts_bdf h⟩)

abbrev s_L_numbers_81e : Stmt := top 23
theorem sc_L_numbers_81e : FnScope N_L_numbers_81e ["_law_cell_here", "_law_at", "_law_many"] (defScope s_L_numbers_81e) := ⟨rfl, rfl, rfl, by decide +kernel, rfl, by decide +kernel, by decide +kernel⟩
set_option maxHeartbeats 4000000 in
theorem ok_L_numbers_81e {P : Program} {w : World} {K : PySem.W.Frag} {mg : Str → Option Value} {base : Heap} {f : Addr} {fd : FuncData} (F : Fun K "_law_numbers" "_law_numbers" s_L_numbers_81e f fd) {f_L_stir_d34 : Addr} {fd_L_stir_d34 : FuncData} (F_L_stir_d34 : FnOk P w K mg base CX0 1 f_L_stir_d34 fd_L_stir_d34 ["_law_cell_here", "_law_k"] (spD K sp_L_stir_d34)) (b_L_stir_d34 : Binds K fd_L_stir_d34 ["_law_cell_here", "_law_k"] []) (k_L_stir_d34 : PySem.W.keepIn K (.ref f_L_stir_d34) = true) (mg_L_stir_d34 : mg "_law_stir" = some (.ref f_L_stir_d34)) (m_range : mg "range" = none) :
    FnOk P w K mg base CX0 2 f fd ["_law_cell_here", "_law_at", "_law_many"] (spD K sp_L_numbers_81e) := by
  refine fnD F sc_L_numbers_81e (fun ds Q px h => len_L_numbers_81e h) (fun cdv A outer s H E hr => ⟨_, w_L_numbers_81e,
    (dss_cons (ds_set 3 sc_L_numbers_81e.nd (de_lst da_nil))
    (dss_cons (ds_asg (de_var 0) (dg_name 4 sc_L_numbers_81e.nd))
    (dss_cons (ds_for PassesOwn.never rfl (di_range1 m_range (da_cons (de_var 2) da_nil)) (dg_name 5 sc_L_numbers_81e.nd) (dss_one (ds_if ((dw_and (dt_geX hr.units (de_var 0) (de_pow de_int de_int)) (dw_and1 (dt_gtX hr.units (de_var 4) de_int))).dt) (dss_cons (ds_expr (de_append 3 (de_mod (de_var 4) de_int)))
    (dss_one (ds_asg (de_div (de_var 4) de_int) (dg_name 4 sc_L_numbers_81e.nd)))) (dss_one (ds_expr (de_append 3 (de_mod (de_div (de_call F_L_stir_d34 (hr.mono (by decide)) mg_L_stir_d34 k_L_stir_d34 b_L_stir_d34 pass0 (da_cons (de_var 0) (da_cons (de_plus (de_mul de_int (de_var 1)) (de_var 5)) da_nil))) de_int) de_int)))))))
    (dss_one (ds_ret (de_move 3)))))), fun ds Q px h => rd_L_numbers_81e h⟩)

abbrev s_L_form_898 : Stmt := top 24
theorem sc_L_form_898 : FnScope N_L_form_898 ["_law_numbers_here", "_law_letters_here"] (defScope s_L_form_898) := ⟨rfl, rfl, rfl, by decide +kernel, rfl, by decide +kernel, by decide +kernel⟩
set_option maxHeartbeats 4000000 in
theorem ok_L_form_898 {P : Program} {w : World} {K : PySem.W.Frag} {mg : Str → Option Value} {base : Heap} {f : Addr} {fd : FuncData} (F : Fun K "_law_form" "_law_form" s_L_form_898 f fd) (m_sorted : mg "sorted" = none) (m_tuple : mg "tuple" = none) :
    FnOk P w K mg base CX0 1 f fd ["_law_numbers_here", "_law_letters_here"] (spD K sp_L_form_898) := by
  refine fnD F sc_L_form_898 (fun ds Q px h => len_L_form_898 h) (fun cdv A outer s H E hr => ⟨_, w_L_form_898,
    (dss_cons (ds_set 2 sc_L_form_898.nd (de_lst da_nil))
    (dss_cons (ds_for PassesOwn.never rfl (di_X (de_var 0)) (dg_name 3 sc_L_form_898.nd) (dss_cons (ds_asg (de_var 3) (dg_name 4 sc_L_form_898.nd))
    (dss_cons (ds_asg de_str (dg_name 5 sc_L_form_898.nd))
    (dss_cons (ds_for PassesOwn.never rfl (di_X (de_var 1)) (dg_name 6 sc_L_form_898.nd) (dss_cons (ds_if (dt_eqX hr.units (de_mod (de_var 4) de_int) de_int) (dss_one (ds_asg (de_plus (de_var 5) (de_var 6)) (dg_name 5 sc_L_form_898.nd))) dss_nil)
    (dss_one (ds_asg (de_div (de_var 4) de_int) (dg_name 4 sc_L_form_898.nd)))))
    (dss_one (ds_if (dt_lend (dt_inX hr.units (de_var 5) (de_var 2))) (dss_one (ds_expr (de_remove 2 (de_var 5)))) (dss_one (ds_expr (de_append 2 (de_var 5))))))))))
    (dss_one (ds_ret (de_tuple m_tuple (de_sortX rfl m_sorted (de_var 2))))))), fun ds Q px h => rd_L_form_898 h⟩)

abbrev s_L_turned_e82 : Stmt := top 28
theorem sc_L_turned_e82 : FnScope N_L_turned_e82 ["_law_products"] (defScope s_L_turned_e82) := ⟨rfl, rfl, rfl, by decide +kernel, rfl, by decide +kernel, by decide +kernel⟩
set_option maxHeartbeats 4000000 in
theorem ok_L_turned_e82 {P : Program} {w : World} {K : PySem.W.Frag} {mg : Str → Option Value} {base : Heap} {f : Addr} {fd : FuncData} (F : Fun K "_law_turned" "_law_turned" s_L_turned_e82 f fd) (m_sorted : mg "sorted" = none) (m_tuple : mg "tuple" = none) :
    FnOk P w K mg base CX0 1 f fd ["_law_products"] (spD K sp_L_turned_e82) := by
  refine fnD F sc_L_turned_e82 (fun ds Q px h => len_L_turned_e82 h) (fun cdv A outer s H E hr => ⟨_, w_L_turned_e82,
    (dss_cons (ds_set 1 sc_L_turned_e82.nd de_dict0)
    (dss_cons (ds_for PassesOwn.never rfl (di_X (de_var 0)) (dg_name 2 sc_L_turned_e82.nd) (dss_one (ds_dput 1 (units1 hr.units) (de_var 2) (de_not (de_lend (de_dget2 (units1 hr.units) (de_var 1) (de_var 2) de_bl ⟨rfl, rfl, rfl, rfl⟩))))))
    (dss_one (ds_fz 1 (ds_ret (de_tuple m_tuple (de_sortX rfl m_sorted (de_lcK (i := 1) (own := [("_law_product", 2)]) rfl sc_L_turned_e82.nd (show BlkOk N_L_turned_e82 (defScope s_L_turned_e82) _ [("_law_product", 2)] from ⟨rfl, by decide +kernel, by decide +kernel, by decide +kernel, by decide +kernel⟩) (fun _ _ _ _ _ => (dgb_name 2 sc_L_turned_e82.nd)) (fun _ _ _ _ _ => (dts_one (dt_val (de_ixX hr.units (de_var 1) (de_var 2))))) (fun _ _ _ _ _ => (de_var 2)))))))))), fun ds Q px h => rd_L_turned_e82 h⟩)

abbrev s_L_times_593 : Stmt := top 29
theorem sc_L_times_593 : FnScope N_L_times_593 ["_law_one", "_law_other"] (defScope s_L_times_593) := ⟨rfl, rfl, rfl, by decide +kernel, rfl, by decide +kernel, by decide +kernel⟩
set_option maxHeartbeats 4000000 in
theorem ok_L_times_593 {P : Program} {w : World} {K : PySem.W.Frag} {mg : Str → Option Value} {base : Heap} {f : Addr} {fd : FuncData} (F : Fun K "_law_times" "_law_times" s_L_times_593 f fd) {f_L_turned_e82 : Addr} {fd_L_turned_e82 : FuncData} (F_L_turned_e82 : FnOk P w K mg base CX0 1 f_L_turned_e82 fd_L_turned_e82 ["_law_products"] (spD K sp_L_turned_e82)) (b_L_turned_e82 : Binds K fd_L_turned_e82 ["_law_products"] []) (k_L_turned_e82 : PySem.W.keepIn K (.ref f_L_turned_e82) = true) (mg_L_turned_e82 : mg "_law_turned" = some (.ref f_L_turned_e82)) (m_set : mg "set" = none) (m_sorted : mg "sorted" = none) :
    FnOk P w K mg base CX0 2 f fd ["_law_one", "_law_other"] (spD K sp_L_times_593) := by
  refine fnD F sc_L_times_593 (fun ds Q px h => len_L_times_593 h) (fun cdv A outer s H E hr => ⟨_, w_L_times_593,
    (dss_cons (ds_set 2 sc_L_times_593.nd (de_lst da_nil))
    (dss_cons (ds_for PassesOwn.never rfl (di_X (de_var 0)) (dg_name 3 sc_L_times_593.nd) (dss_one (ds_for PassesOwn.never rfl (di_X (de_var 1)) (dg_name 4 sc_L_times_593.nd) (dss_one (ds_expr (de_append 2 (de_join de_str (de_sortSet rfl m_sorted m_set (de_plus (de_var 3) (de_var 4))))))))))
    (dss_one (ds_ret (de_call F_L_turned_e82 (hr.mono (by decide)) mg_L_turned_e82 k_L_turned_e82 b_L_turned_e82 pass0 (da_cons (de_var 2) da_nil)))))), fun ds Q px h => rd_L_times_593 h⟩)

abbrev s_L_pair_3b9 : Stmt := top 32
theorem sc_L_pair_3b9 : FnScope N_L_pair_3b9 ["_law_script", "_law_letters_here", "_law_head"] (defScope s_L_pair_3b9) := ⟨rfl, rfl, rfl, by decide +kernel, rfl, by decide +kernel, by decide +kernel⟩
set_option maxHeartbeats 4000000 in
theorem ok_L_pair_3b9 {P : Program} {w : World} {K : PySem.W.Frag} {mg : Str → Option Value} {base : Heap} {f : Addr} {fd : FuncData} (F : Fun K "_law_pair" "_law_pair" s_L_pair_3b9 f fd) {f_L_parts_bdf : Addr} {fd_L_parts_bdf : FuncData} (F_L_parts_bdf : FnOk P w K mg base CX0 1 f_L_parts_bdf fd_L_parts_bdf ["_law_letters_here", "_law_numbers_here"] (spD K sp_L_parts_bdf)) (b_L_parts_bdf : Binds K fd_L_parts_bdf ["_law_letters_here", "_law_numbers_here"] []) (k_L_parts_bdf : PySem.W.keepIn K (.ref f_L_parts_bdf) = true) (mg_L_parts_bdf : mg "_law_parts" = some (.ref f_L_parts_bdf)) {f_L_numbers_81e : Addr} {fd_L_numbers_81e : FuncData} (F_L_numbers_81e : FnOk P w K mg base CX0 2 f_L_numbers_81e fd_L_numbers_81e ["_law_cell_here", "_law_at", "_law_many"] (spD K sp_L_numbers_81e)) (b_L_numbers_81e : Binds K fd_L_numbers_81e ["_law_cell_here", "_law_at", "_law_many"] []) (k_L_numbers_81e : PySem.W.keepIn K (.ref f_L_numbers_81e) = true) (mg_L_numbers_81e : mg "_law_numbers" = some (.ref f_L_numbers_81e)) {f_L_cell_808 : Addr} {fd_L_cell_808 : FuncData} (F_L_cell_808 : FnOk P w K mg base CX0 1 f_L_cell_808 fd_L_cell_808 ["_law_script", "_law_k"] (spD K sp_L_cell_808)) (b_L_cell_808 : Binds K fd_L_cell_808 ["_law_script", "_law_k"] []) (k_L_cell_808 : PySem.W.keepIn K (.ref f_L_cell_808) = true) (mg_L_cell_808 : mg "_law_cell" = some (.ref f_L_cell_808)) {f_L_form_898 : Addr} {fd_L_form_898 : FuncData} (F_L_form_898 : FnOk P w K mg base CX0 1 f_L_form_898 fd_L_form_898 ["_law_numbers_here", "_law_letters_here"] (spD K sp_L_form_898)) (b_L_form_898 : Binds K fd_L_form_898 ["_law_numbers_here", "_law_letters_here"] []) (k_L_form_898 : PySem.W.keepIn K (.ref f_L_form_898) = true) (mg_L_form_898 : mg "_law_form" = some (.ref f_L_form_898)) {f_L_times_593 : Addr} {fd_L_times_593 : FuncData} (F_L_times_593 : FnOk P w K mg base CX0 2 f_L_times_593 fd_L_times_593 ["_law_one", "_law_other"] (spD K sp_L_times_593)) (b_L_times_593 : Binds K fd_L_times_593 ["_law_one", "_law_other"] []) (k_L_times_593 : PySem.W.keepIn K (.ref f_L_times_593) = true) (mg_L_times_593 : mg "_law_times" = some (.ref f_L_times_593)) {f_L_turned_e82 : Addr} {fd_L_turned_e82 : FuncData} (F_L_turned_e82 : FnOk P w K mg base CX0 1 f_L_turned_e82 fd_L_turned_e82 ["_law_products"] (spD K sp_L_turned_e82)) (b_L_turned_e82 : Binds K fd_L_turned_e82 ["_law_products"] []) (k_L_turned_e82 : PySem.W.keepIn K (.ref f_L_turned_e82) = true) (mg_L_turned_e82 : mg "_law_turned" = some (.ref f_L_turned_e82)) (m_int : mg "int" = none) (m_list : mg "list" = none) (m_range : mg "range" = none) (m_sorted : mg "sorted" = none) :
    FnOk P w K mg base CX0 3 f fd ["_law_script", "_law_letters_here", "_law_head"] (spD K sp_L_pair_3b9) := by
  refine fnD F sc_L_pair_3b9 (fun ds Q px h => len_L_pair_3b9 h) (fun cdv A outer s H E hr => ⟨_, w_L_pair_3b9,
    (dss_cons (ds_asg (de_call F_L_parts_bdf (hr.mono (by decide)) mg_L_parts_bdf k_L_parts_bdf b_L_parts_bdf pass0 (da_cons (de_var 1) (da_cons (de_call F_L_numbers_81e (hr.mono (by decide)) mg_L_numbers_81e k_L_numbers_81e b_L_numbers_81e pass0 (da_cons (de_call F_L_cell_808 (hr.mono (by decide)) mg_L_cell_808 k_L_cell_808 b_L_cell_808 pass0 (da_cons (de_var 0) (da_cons de_int da_nil))) (da_cons de_int (da_cons de_int da_nil)))) da_nil))) (dg_name 3 sc_L_pair_3b9.nd))
    (dss_cons (ds_asg (de_mod (de_div (de_var 2) de_int) de_int) (dg_name 4 sc_L_pair_3b9.nd))
    (dss_cons (ds_asg (de_lst (da_cons (de_plus de_int (de_mod (de_div (de_var 2) de_int) de_int)) (da_cons (de_plus de_int (de_mod (de_div (de_var 2) de_int) de_int)) (da_cons (de_mod (de_div (de_var 2) de_int) de_int) da_nil)))) (dg_name 5 sc_L_pair_3b9.nd))
    (dss_cons (ds_asg (de_ixX hr.units (de_lst (da_cons de_int (da_cons de_int da_nil))) (de_intC m_int (de_eqX hr.units (de_var 4) de_int))) (dg_name 6 sc_L_pair_3b9.nd))
    (dss_cons (ds_asgLc 7 (own := [("_law_k", 8)]) rfl sc_L_pair_3b9.nd (di_range1 m_range (da_cons de_int da_nil)) (show BlkOk N_L_pair_3b9 (defScope s_L_pair_3b9) _ [("_law_k", 8)] from ⟨rfl, by decide +kernel, by decide +kernel, by decide +kernel, by decide +kernel⟩) (fun _ _ _ _ _ => (dgb_name 8 sc_L_pair_3b9.nd)) (fun _ _ _ _ _ => dts_nil) (fun _ _ _ _ _ => (de_call F_L_numbers_81e (hr.mono (by decide)) mg_L_numbers_81e k_L_numbers_81e b_L_numbers_81e pass0 (da_cons (de_call F_L_cell_808 (hr.mono (by decide)) mg_L_cell_808 k_L_cell_808 b_L_cell_808 pass0 (da_cons (de_var 0) (da_cons (de_plus de_int (de_var 8)) da_nil))) (da_cons (de_plus de_int (de_mul de_int (de_var 8))) (da_cons (de_mul (de_var 6) (de_ixX hr.units (de_var 5) (de_plus de_int (de_var 8)))) da_nil))))))
    (dss_cons (ds_if (dt_eqX hr.units (de_var 4) de_int) (dss_one (ds_ret (de_tup (da_cons (de_call F_L_form_898 (hr.mono (by decide)) mg_L_form_898 k_L_form_898 b_L_form_898 pass0 (da_cons (de_ixX hr.units (de_var 7) de_int) (da_cons (de_var 1) da_nil))) (da_cons (de_call F_L_form_898 (hr.mono (by decide)) mg_L_form_898 k_L_form_898 b_L_form_898 pass0 (da_cons (de_ixX hr.units (de_var 7) de_int) (da_cons (de_var 1) da_nil))) da_nil))))) dss_nil)
    (dss_cons (ds_asg (de_call F_L_form_898 (hr.mono (by decide)) mg_L_form_898 k_L_form_898 b_L_form_898 pass0 (da_cons (de_call F_L_numbers_81e (hr.mono (by decide)) mg_L_numbers_81e k_L_numbers_81e b_L_numbers_81e pass0 (da_cons (de_call F_L_cell_808 (hr.mono (by decide)) mg_L_cell_808 k_L_cell_808 b_L_cell_808 pass0 (da_cons (de_var 0) (da_cons de_int da_nil))) (da_cons de_int (da_cons (de_ixX hr.units (de_var 5) de_int) da_nil)))) (da_cons (de_ixX hr.units (de_var 3) de_int) da_nil))) (dg_name 9 sc_L_pair_3b9.nd))
    (dss_cons (ds_asg (de_call F_L_times_593 (hr.mono (by decide)) mg_L_times_593 k_L_times_593 b_L_times_593 pass0 (da_cons (de_var 9) (da_cons (de_call F_L_form_898 (hr.mono (by decide)) mg_L_form_898 k_L_form_898 b_L_form_898 pass0 (da_cons (de_ixX hr.units (de_var 7) de_int) (da_cons (de_join de_str (de_sortX rfl m_sorted (de_plus (de_ixX hr.units (de_var 3) de_int) (de_ixX hr.units (de_var 3) de_int)))) da_nil))) da_nil))) (dg_name 10 sc_L_pair_3b9.nd))
    (dss_cons (ds_asg (de_call F_L_form_898 (hr.mono (by decide)) mg_L_form_898 k_L_form_898 b_L_form_898 pass0 (da_cons (de_ixX hr.units (de_var 7) de_int) (da_cons (de_join de_str (de_sortX rfl m_sorted (de_plus (de_ixX hr.units (de_var 3) de_int) (de_ixX hr.units (de_var 3) de_int)))) da_nil))) (dg_name 11 sc_L_pair_3b9.nd))
    (dss_cons (ds_asg (de_call F_L_turned_e82 (hr.mono (by decide)) mg_L_turned_e82 k_L_turned_e82 b_L_turned_e82 pass0 (da_cons (de_plus (de_plus (de_listX rfl m_list (de_var 9)) (de_listX rfl m_list (de_var 11))) (de_listX rfl m_list (de_call F_L_times_593 (hr.mono (by decide)) mg_L_times_593 k_L_times_593 b_L_times_593 pass0 (da_cons (de_var 9) (da_cons (de_var 11) da_nil))))) da_nil)) (dg_name 12 sc_L_pair_3b9.nd))
    (dss_cons (ds_if (dt_eqX hr.units (de_var 4) de_int) (dss_one (ds_asg (de_call F_L_turned_e82 (hr.mono (by decide)) mg_L_turned_e82 k_L_turned_e82 b_L_turned_e82 pass0 (da_cons (de_plus (de_listX rfl m_list (de_var 10)) (de_listX rfl m_list (de_call F_L_form_898 (hr.mono (by decide)) mg_L_form_898 k_L_form_898 b_L_form_898 pass0 (da_cons (de_call F_L_numbers_81e (hr.mono (by decide)) mg_L_numbers_81e k_L_numbers_81e b_L_numbers_81e pass0 (da_cons (de_call F_L_cell_808 (hr.mono (by decide)) mg_L_cell_808 k_L_cell_808 b_L_cell_808 pass0 (da_cons (de_var 0) (da_cons de_int da_nil))) (da_cons de_int (da_cons de_int da_nil)))) (da_cons (de_var 1) da_nil))))) da_nil)) (dg_name 10 sc_L_pair_3b9.nd))) dss_nil)
    (dss_one (ds_ret (de_tup (da_cons (de_var 10) (da_cons (de_var 12) da_nil)))))))))))))))), fun ds Q px h => rd_L_pair_3b9 h⟩)

abbrev s_L_table_9dd : Stmt := top 25
theorem sc_L_table_9dd : FnScope N_L_table_9dd ["_law_form_here", "_law_letters_here"] (defScope s_L_table_9dd) := ⟨rfl, rfl, rfl, by decide +kernel, rfl, by decide +kernel, by decide +kernel⟩
set_option maxHeartbeats 4000000 in
theorem ok_L_table_9dd {P : Program} {w : World} {K : PySem.W.Frag} {mg : Str → Option Value} {base : Heap} {f : Addr} {fd : FuncData} (F : Fun K "_law_table" "_law_table" s_L_table_9dd f fd) (m_range : mg "range" = none) (m_reversed : mg "reversed" = none) (m_sum : mg "sum" = none) :
    FnOk P w K mg base CX0 1 f fd ["_law_form_here", "_law_letters_here"] (spD K sp_L_table_9dd) := by
  refine fnD F sc_L_table_9dd (fun ds Q px h => len_L_table_9dd h) (fun cdv A outer s H E hr => ⟨_, w_L_table_9dd,
    (dss_cons (ds_set 2 sc_L_table_9dd.nd de_dict0)
    (dss_cons (ds_asg de_int (dg_name 3 sc_L_table_9dd.nd))
    (dss_cons (ds_for PassesOwn.never rfl (di_revX m_reversed (de_var 1)) (dg_name 4 sc_L_table_9dd.nd) (dss_cons (ds_dput 2 (units1 hr.units) (de_var 4) (de_var 3))
    (dss_one (ds_asg (de_plus (de_var 3) (de_var 3)) (dg_name 3 sc_L_table_9dd.nd)))))
    (dss_cons (ds_set 5 sc_L_table_9dd.nd (de_rep (de_lst (da_cons de_bl da_nil)) (de_var 3)))
    (dss_cons (ds_fz 2 (ds_for PassesOwn.never rfl (di_X (de_var 0)) (dg_name 6 sc_L_table_9dd.nd) (dss_one (ds_lset 5 (de_sum rfl m_sum (de_lc (own := [("_law_letter", 4)]) rfl sc_L_table_9dd.nd (di_X (de_var 6)) (show BlkOk N_L_table_9dd (defScope s_L_table_9dd) _ [("_law_letter", 4)] from ⟨rfl, by decide +kernel, by decide +kernel, by decide +kernel, by decide +kernel⟩) (fun _ _ _ _ _ => (dgb_name 4 sc_L_table_9dd.nd)) (fun _ _ _ _ _ => dts_nil) (fun _ _ _ _ _ => (de_ixX hr.units (de_var 2) (de_var 4))))) de_bl))))
    (dss_cons (ds_for PassesOwn.never rfl (di_X (de_var 1)) (dg_name 4 sc_L_table_9dd.nd) (dss_cons (ds_asg (de_ixX hr.units (de_var 2) (de_var 4)) (dg_name 7 sc_L_table_9dd.nd))
    (dss_one (ds_for PassesOwn.never rfl (di_range3 m_range (da_cons (de_var 7) (da_cons (de_var 3) (da_cons (de_plus (de_var 7) (de_var 7)) da_nil)))) (dg_name 8 sc_L_table_9dd.nd) (dss_one (ds_for PassesOwn.never rfl (di_range2 m_range (da_cons (de_var 8) (da_cons (de_plus (de_var 8) (de_var 7)) da_nil))) (dg_name 9 sc_L_table_9dd.nd) (dss_one (ds_lset 5 (de_var 9) (de_lend (de_neX hr.units (de_ixX hr.units (de_var 5) (de_var 9)) (de_ixX hr.units (de_var 5) (de_sub (de_var 9) (de_var 7)))))))))))))
    (dss_one (ds_ret (de_move 5))))))))), fun ds Q px h => rd_L_table_9dd h⟩)

abbrev s_both_letters : Stmt := top 3
theorem sc_both_letters : FnScope N_both_letters ["one", "other"] (defScope s_both_letters) := ⟨rfl, rfl, rfl, by decide +kernel, rfl, by decide +kernel, by decide +kernel⟩
set_option maxHeartbeats 4000000 in
theorem ok_both_letters {P : Program} {w : World} {K : PySem.W.Frag} {mg : Str → Option Value} {base : Heap} {f : Addr} {fd : FuncData} (F : Fun K "both_letters" "both_letters" s_both_letters f fd) (m_set : mg "set" = none) (m_sorted : mg "sorted" = none) :
    FnOk P w K mg base CX0 1 f fd ["one", "other"] (spD K sp_both_letters) := by
  refine fnD F sc_both_letters (fun ds Q px h => len_both_letters h) (fun cdv A outer s H E hr => ⟨_, w_both_letters,
    (dss_one (ds_ret (de_join de_str (de_sortSet rfl m_sorted m_set (de_plus (de_var 0) (de_var 1)))))), fun ds Q px h => rd_both_letters h⟩)

abbrev s_gathered : Stmt := top 1
theorem sc_gathered : FnScope N_gathered ["products"] (defScope s_gathered) := ⟨rfl, rfl, rfl, by decide +kernel, rfl, by decide +kernel, by decide +kernel⟩
set_option maxHeartbeats 4000000 in
theorem ok_gathered {P : Program} {w : World} {K : PySem.W.Frag} {mg : Str → Option Value} {base : Heap} {f : Addr} {fd : FuncData} (F : Fun K "gathered" "gathered" s_gathered f fd) (m_sorted : mg "sorted" = none) (m_tuple : mg "tuple" = none) :
    FnOk P w K mg base CX0 1 f fd ["products"] (spD K sp_gathered) := by
  refine fnD F sc_gathered (fun ds Q px h => len_gathered h) (fun cdv A outer s H E hr => ⟨_, w_gathered,
    (dss_cons (ds_set 1 sc_gathered.nd de_dict0)
    (dss_cons (ds_for PassesOwn.never rfl (di_X (de_var 0)) (dg_name 2 sc_gathered.nd) (dss_one (ds_if (dt_lend (dt_inX hr.units (de_var 2) (de_var 1))) (dss_one (ds_expr (de_dpop 1 (de_var 2) ⟨rfl, rfl, rfl, rfl⟩))) (dss_one (ds_dput 1 (units1 hr.units) (de_var 2) de_bl)))))
    (dss_one (ds_ret (de_tuple m_tuple (de_sortK rfl m_sorted (de_var 1))))))), fun ds Q px h => rd_gathered h⟩)

abbrev s_multiplied : Stmt := top 4
theorem sc_multiplied : FnScope N_multiplied ["one", "other"] (defScope s_multiplied) := ⟨rfl, rfl, rfl, by decide +kernel, rfl, by decide +kernel, by decide +kernel⟩
set_option maxHeartbeats 4000000 in
theorem ok_multiplied {P : Program} {w : World} {K : PySem.W.Frag} {mg : Str → Option Value} {base : Heap} {f : Addr} {fd : FuncData} (F : Fun K "multiplied" "multiplied" s_multiplied f fd) {f_both_letters : Addr} {fd_both_letters : FuncData} (F_both_letters : FnOk P w K mg base CX0 1 f_both_letters fd_both_letters ["one", "other"] (spD K sp_both_letters)) (b_both_letters : Binds K fd_both_letters ["one", "other"] []) (k_both_letters : PySem.W.keepIn K (.ref f_both_letters) = true) (mg_both_letters : mg "both_letters" = some (.ref f_both_letters)) {f_gathered : Addr} {fd_gathered : FuncData} (F_gathered : FnOk P w K mg base CX0 1 f_gathered fd_gathered ["products"] (spD K sp_gathered)) (b_gathered : Binds K fd_gathered ["products"] []) (k_gathered : PySem.W.keepIn K (.ref f_gathered) = true) (mg_gathered : mg "gathered" = some (.ref f_gathered)) :
    FnOk P w K mg base CX0 2 f fd ["one", "other"] (spD K sp_multiplied) := by
  refine fnD F sc_multiplied (fun ds Q px h => len_multiplied h) (fun cdv A outer s H E hr => ⟨_, w_multiplied,
    (dss_cons (ds_set 2 sc_multiplied.nd (de_lst da_nil))
    (dss_cons (ds_for PassesOwn.never rfl (di_X (de_var 0)) (dg_name 3 sc_multiplied.nd) (dss_one (ds_for PassesOwn.never rfl (di_X (de_var 1)) (dg_name 4 sc_multiplied.nd) (dss_one (ds_expr (de_append 2 (de_call F_both_letters (hr.mono (by decide)) mg_both_letters k_both_letters b_both_letters pass0 (da_cons (de_var 3) (da_cons (de_var 4) da_nil)))))))))
    (dss_one (ds_ret (de_call F_gathered (hr.mono (by decide)) mg_gathered k_gathered b_gathered pass0 (da_cons (de_var 2) da_nil)))))), fun ds Q px h => rd_multiplied h⟩)

abbrev s_added : Stmt := top 2
theorem sc_added : FnScope N_added ["one", "other"] (defScope s_added) := ⟨rfl, rfl, rfl, by decide +kernel, rfl, by decide +kernel, by decide +kernel⟩
set_option maxHeartbeats 4000000 in
theorem ok_added {P : Program} {w : World} {K : PySem.W.Frag} {mg : Str → Option Value} {base : Heap} {f : Addr} {fd : FuncData} (F : Fun K "added" "added" s_added f fd) {f_gathered : Addr} {fd_gathered : FuncData} (F_gathered : FnOk P w K mg base CX0 1 f_gathered fd_gathered ["products"] (spD K sp_gathered)) (b_gathered : Binds K fd_gathered ["products"] []) (k_gathered : PySem.W.keepIn K (.ref f_gathered) = true) (mg_gathered : mg "gathered" = some (.ref f_gathered)) (m_list : mg "list" = none) :
    FnOk P w K mg base CX0 2 f fd ["one", "other"] (spD K sp_added) := by
  refine fnD F sc_added (fun ds Q px h => len_added h) (fun cdv A outer s H E hr => ⟨_, w_added,
    (dss_one (ds_ret (de_call F_gathered (hr.mono (by decide)) mg_gathered k_gathered b_gathered pass0 (da_cons (de_plus (de_listX rfl m_list (de_var 0)) (de_listX rfl m_list (de_var 1))) da_nil)))), fun ds Q px h => rd_added h⟩)

abbrev s_opposite : Stmt := top 5
theorem sc_opposite : FnScope N_opposite ["form"] (defScope s_opposite) := ⟨rfl, rfl, rfl, by decide +kernel, rfl, by decide +kernel, by decide +kernel⟩
set_option maxHeartbeats 4000000 in
theorem ok_opposite {P : Program} {w : World} {K : PySem.W.Frag} {mg : Str → Option Value} {base : Heap} {f : Addr} {fd : FuncData} (F : Fun K "opposite" "opposite" s_opposite f fd) {f_added : Addr} {fd_added : FuncData} (F_added : FnOk P w K mg base CX0 2 f_added fd_added ["one", "other"] (spD K sp_added)) (b_added : Binds K fd_added ["one", "other"] []) (k_added : PySem.W.keepIn K (.ref f_added) = true) (mg_added : mg "added" = some (.ref f_added)) :
    FnOk P w K mg base CX0 3 f fd ["form"] (spD K sp_opposite) := by
  refine fnD F sc_opposite (fun ds Q px h => len_opposite h) (fun cdv A outer s H E hr => ⟨_, w_opposite,
    (dss_one (ds_ret (de_call F_added (hr.mono (by decide)) mg_added k_added b_added pass0 (da_cons (de_var 0) (da_cons (de_tup (da_cons de_str da_nil)) da_nil))))), fun ds Q px h => rd_opposite h⟩)

abbrev s_leads : Stmt := top 7
theorem sc_leads : FnScope N_leads ["one", "other"] (defScope s_leads) := ⟨rfl, rfl, rfl, by decide +kernel, rfl, by decide +kernel, by decide +kernel⟩
set_option maxHeartbeats 4000000 in
theorem ok_leads {P : Program} {w : World} {K : PySem.W.Frag} {mg : Str → Option Value} {base : Heap} {f : Addr} {fd : FuncData} (F : Fun K "leads" "leads" s_leads f fd) {f_multiplied : Addr} {fd_multiplied : FuncData} (F_multiplied : FnOk P w K mg base CX0 2 f_multiplied fd_multiplied ["one", "other"] (spD K sp_multiplied)) (b_multiplied : Binds K fd_multiplied ["one", "other"] []) (k_multiplied : PySem.W.keepIn K (.ref f_multiplied) = true) (mg_multiplied : mg "multiplied" = some (.ref f_multiplied)) {f_opposite : Addr} {fd_opposite : FuncData} (F_opposite : FnOk P w K mg base CX0 3 f_opposite fd_opposite ["form"] (spD K sp_opposite)) (b_opposite : Binds K fd_opposite ["form"] []) (k_opposite : PySem.W.keepIn K (.ref f_opposite) = true) (mg_opposite : mg "opposite" = some (.ref f_opposite)) :
    FnOk P w K mg base CX0 4 f fd ["one", "other"] (spD K sp_leads) := by
  refine fnD F sc_leads (fun ds Q px h => len_leads h) (fun cdv A outer s H E hr => ⟨_, w_leads,
    (dss_one (ds_ret (de_eqX hr.units (de_call F_multiplied (hr.mono (by decide)) mg_multiplied k_multiplied b_multiplied pass0 (da_cons (de_var 0) (da_cons (de_call F_opposite (hr.mono (by decide)) mg_opposite k_opposite b_opposite pass0 (da_cons (de_var 1) da_nil)) da_nil))) (de_tup da_nil)))), fun ds Q px h => rd_leads h⟩)

abbrev s_letters_of : Stmt := top 8
theorem sc_letters_of : FnScope N_letters_of ["form"] (defScope s_letters_of) := ⟨rfl, rfl, rfl, by decide +kernel, rfl, by decide +kernel, by decide +kernel⟩
set_option maxHeartbeats 4000000 in
theorem ok_letters_of {P : Program} {w : World} {K : PySem.W.Frag} {mg : Str → Option Value} {base : Heap} {f : Addr} {fd : FuncData} (F : Fun K "letters_of" "letters_of" s_letters_of f fd) (m_set : mg "set" = none) (m_sorted : mg "sorted" = none) :
    FnOk P w K mg base CX0 1 f fd ["form"] (spD K sp_letters_of) := by
  refine fnD F sc_letters_of (fun ds Q px h => len_letters_of h) (fun cdv A outer s H E hr => ⟨_, w_letters_of,
    (dss_one (ds_ret (de_join de_str (de_sortSet rfl m_sorted m_set (de_join de_str (de_var 0)))))), fun ds Q px h => rd_letters_of h⟩)

abbrev s_joined : Stmt := top 6
theorem sc_joined : FnScope N_joined ["one", "other"] (defScope s_joined) := ⟨rfl, rfl, rfl, by decide +kernel, rfl, by decide +kernel, by decide +kernel⟩
set_option maxHeartbeats 4000000 in
theorem ok_joined {P : Program} {w : World} {K : PySem.W.Frag} {mg : Str → Option Value} {base : Heap} {f : Addr} {fd : FuncData} (F : Fun K "joined" "joined" s_joined f fd) {f_added : Addr} {fd_added : FuncData} (F_added : FnOk P w K mg base CX0 2 f_added fd_added ["one", "other"] (spD K sp_added)) (b_added : Binds K fd_added ["one", "other"] []) (k_added : PySem.W.keepIn K (.ref f_added) = true) (mg_added : mg "added" = some (.ref f_added)) {f_multiplied : Addr} {fd_multiplied : FuncData} (F_multiplied : FnOk P w K mg base CX0 2 f_multiplied fd_multiplied ["one", "other"] (spD K sp_multiplied)) (b_multiplied : Binds K fd_multiplied ["one", "other"] []) (k_multiplied : PySem.W.keepIn K (.ref f_multiplied) = true) (mg_multiplied : mg "multiplied" = some (.ref f_multiplied)) :
    FnOk P w K mg base CX0 3 f fd ["one", "other"] (spD K sp_joined) := by
  refine fnD F sc_joined (fun ds Q px h => len_joined h) (fun cdv A outer s H E hr => ⟨_, w_joined,
    (dss_one (ds_ret (de_call F_added (hr.mono (by decide)) mg_added k_added b_added pass0 (da_cons (de_call F_added (hr.mono (by decide)) mg_added k_added b_added pass0 (da_cons (de_var 0) (da_cons (de_var 1) da_nil))) (da_cons (de_call F_multiplied (hr.mono (by decide)) mg_multiplied k_multiplied b_multiplied pass0 (da_cons (de_var 0) (da_cons (de_var 1) da_nil))) da_nil))))), fun ds Q px h => rd_joined h⟩)

abbrev s_put_in : Stmt := top 12
theorem sc_put_in : FnScope N_put_in ["form", "forms"] (defScope s_put_in) := ⟨rfl, rfl, rfl, by decide +kernel, rfl, by decide +kernel, by decide +kernel⟩
set_option maxHeartbeats 4000000 in
theorem ok_put_in {P : Program} {w : World} {K : PySem.W.Frag} {mg : Str → Option Value} {base : Heap} {f : Addr} {fd : FuncData} (F : Fun K "put_in" "put_in" s_put_in f fd) {f_multiplied : Addr} {fd_multiplied : FuncData} (F_multiplied : FnOk P w K mg base CX0 2 f_multiplied fd_multiplied ["one", "other"] (spD K sp_multiplied)) (b_multiplied : Binds K fd_multiplied ["one", "other"] []) (k_multiplied : PySem.W.keepIn K (.ref f_multiplied) = true) (mg_multiplied : mg "multiplied" = some (.ref f_multiplied)) {f_added : Addr} {fd_added : FuncData} (F_added : FnOk P w K mg base CX0 2 f_added fd_added ["one", "other"] (spD K sp_added)) (b_added : Binds K fd_added ["one", "other"] []) (k_added : PySem.W.keepIn K (.ref f_added) = true) (mg_added : mg "added" = some (.ref f_added)) {A_ALWAYS : Addr} (gm_ALWAYS : mg "ALWAYS" = some (.ref A_ALWAYS)) (gr_ALWAYS : ∀ F, Rep K F gD_ALWAYS (.ref A_ALWAYS)) {A_NEVER : Addr} (gm_NEVER : mg "NEVER" = some (.ref A_NEVER)) (gr_NEVER : ∀ F, Rep K F gD_NEVER (.ref A_NEVER)) :
    FnOk P w K mg base CX0 3 f fd ["form", "forms"] (spD K sp_put_in) := by
  refine fnD F sc_put_in (fun ds Q px h => len_put_in h) (fun cdv A outer s H E hr => ⟨_, w_put_in,
    (dss_cons (ds_asg (de_glob (v := .ref A_NEVER) (by rfl) gm_NEVER (by exact rfl) (by exact gr_NEVER)) (dg_name 2 sc_put_in.nd))
    (dss_cons (ds_for PassesOwn.never rfl (di_X (de_var 0)) (dg_name 3 sc_put_in.nd) (dss_cons (ds_asg (de_glob (v := .ref A_ALWAYS) (by rfl) gm_ALWAYS (by exact rfl) (by exact gr_ALWAYS)) (dg_name 4 sc_put_in.nd))
    (dss_cons (ds_for PassesOwn.never rfl (di_X (de_var 3)) (dg_name 5 sc_put_in.nd) (dss_one (ds_asg (de_call F_multiplied (hr.mono (by decide)) mg_multiplied k_multiplied b_multiplied pass0 (da_cons (de_var 4) (da_cons (de_dget2 (units1 hr.units) (de_var 1) (de_var 5) (de_tup (da_cons (de_var 5) da_nil)) ⟨rfl, rfl, rfl, rfl⟩) da_nil))) (dg_name 4 sc_put_in.nd))))
    (dss_one (ds_asg (de_call F_added (hr.mono (by decide)) mg_added k_added b_added pass0 (da_cons (de_var 2) (da_cons (de_var 4) da_nil))) (dg_name 2 sc_put_in.nd))))))
    (dss_one (ds_ret (de_var 2))))), fun ds Q px h => rd_put_in h⟩)

abbrev s_fixed_at : Stmt := top 13
theorem sc_fixed_at : FnScope N_fixed_at ["form", "letter", "truth"] (defScope s_fixed_at) := ⟨rfl, rfl, rfl, by decide +kernel, rfl, by decide +kernel, by decide +kernel⟩
set_option maxHeartbeats 4000000 in
theorem ok_fixed_at {P : Program} {w : World} {K : PySem.W.Frag} {mg : Str → Option Value} {base : Heap} {f : Addr} {fd : FuncData} (F : Fun K "fixed_at" "fixed_at" s_fixed_at f fd) {f_put_in : Addr} {fd_put_in : FuncData} (F_put_in : FnOk P w K mg base CX0 3 f_put_in fd_put_in ["form", "forms"] (spD K sp_put_in)) (b_put_in : Binds K fd_put_in ["form", "forms"] []) (k_put_in : PySem.W.keepIn K (.ref f_put_in) = true) (mg_put_in : mg "put_in" = some (.ref f_put_in)) {A_ALWAYS : Addr} (gm_ALWAYS : mg "ALWAYS" = some (.ref A_ALWAYS)) (gr_ALWAYS : ∀ F, Rep K F gD_ALWAYS (.ref A_ALWAYS)) {A_NEVER : Addr} (gm_NEVER : mg "NEVER" = some (.ref A_NEVER)) (gr_NEVER : ∀ F, Rep K F gD_NEVER (.ref A_NEVER)) :
    FnOk P w K mg base CX0 4 f fd ["form", "letter", "truth"] (spD K sp_fixed_at) := by
  refine fnD F sc_fixed_at (fun ds Q px h => len_fixed_at h) (fun cdv A outer s H E hr => ⟨_, w_fixed_at,
    (dss_cons (ds_if (dt_val (de_var 2)) (dss_one (ds_ret (de_call F_put_in (hr.mono (by decide)) mg_put_in k_put_in b_put_in pass0 (da_cons (de_var 0) (da_cons (de_disp1 (de_var 1) (de_glob (v := .ref A_ALWAYS) (by rfl) gm_ALWAYS (by exact rfl) (by exact gr_ALWAYS))) da_nil))))) dss_nil)
    (dss_one (ds_ret (de_call F_put_in (hr.mono (by decide)) mg_put_in k_put_in b_put_in pass0 (da_cons (de_var 0) (da_cons (de_disp1 (de_var 1) (de_glob (v := .ref A_NEVER) (by rfl) gm_NEVER (by exact rfl) (by exact gr_NEVER))) da_nil)))))), fun ds Q px h => rd_fixed_at h⟩)

abbrev s_some_of : Stmt := top 14
theorem sc_some_of : FnScope N_some_of ["form", "letters"] (defScope s_some_of) := ⟨rfl, rfl, rfl, by decide +kernel, rfl, by decide +kernel, by decide +kernel⟩
set_option maxHeartbeats 4000000 in
theorem ok_some_of {P : Program} {w : World} {K : PySem.W.Frag} {mg : Str → Option Value} {base : Heap} {f : Addr} {fd : FuncData} (F : Fun K "some_of" "some_of" s_some_of f fd) {f_joined : Addr} {fd_joined : FuncData} (F_joined : FnOk P w K mg base CX0 3 f_joined fd_joined ["one", "other"] (spD K sp_joined)) (b_joined : Binds K fd_joined ["one", "other"] []) (k_joined : PySem.W.keepIn K (.ref f_joined) = true) (mg_joined : mg "joined" = some (.ref f_joined)) {f_fixed_at : Addr} {fd_fixed_at : FuncData} (F_fixed_at : FnOk P w K mg base CX0 4 f_fixed_at fd_fixed_at ["form", "letter", "truth"] (spD K sp_fixed_at)) (b_fixed_at : Binds K fd_fixed_at ["form", "letter", "truth"] []) (k_fixed_at : PySem.W.keepIn K (.ref f_fixed_at) = true) (mg_fixed_at : mg "fixed_at" = some (.ref f_fixed_at)) :
    FnOk P w K mg base CX0 5 f fd ["form", "letters"] (spD K sp_some_of) := by
  refine fnD F sc_some_of (fun ds Q px h => len_some_of h) (fun cdv A outer s H E hr => ⟨_, w_some_of,
    (dss_cons (ds_for PassesOwn.never rfl (di_X (de_var 1)) (dg_name 2 sc_some_of.nd) (dss_one (ds_asg (de_call F_joined (hr.mono (by decide)) mg_joined k_joined b_joined pass0 (da_cons (de_call F_fixed_at (hr.mono (by decide)) mg_fixed_at k_fixed_at b_fixed_at pass0 (da_cons (de_var 0) (da_cons (de_var 2) (da_cons de_bl da_nil)))) (da_cons (de_call F_fixed_at (hr.mono (by decide)) mg_fixed_at k_fixed_at b_fixed_at pass0 (da_cons (de_var 0) (da_cons (de_var 2) (da_cons de_bl da_nil)))) da_nil))) (dg_name 0 sc_some_of.nd))))
    (dss_one (ds_ret (de_var 0)))), fun ds Q px h => rd_some_of h⟩)

abbrev s_less : Stmt := top 17
theorem sc_less : FnScope N_less ["letters", "others"] (defScope s_less) := ⟨rfl, rfl, rfl, by decide +kernel, rfl, by decide +kernel, by decide +kernel⟩
set_option maxHeartbeats 4000000 in
theorem ok_less {P : Program} {w : World} {K : PySem.W.Frag} {mg : Str → Option Value} {base : Heap} {f : Addr} {fd : FuncData} (F : Fun K "less" "less" s_less f fd) :
    FnOk P w K mg base CX0 1 f fd ["letters", "others"] (spD K sp_less) := by
  refine fnD F sc_less (fun ds Q px h => len_less h) (fun cdv A outer s H E hr => ⟨_, w_less,
    (dss_one (ds_ret (de_join de_str (de_lc (own := [("letter", 2)]) rfl sc_less.nd (di_X (de_var 0)) (show BlkOk N_less (defScope s_less) _ [("letter", 2)] from ⟨rfl, by decide +kernel, by decide +kernel, by decide +kernel, by decide +kernel⟩) (fun _ _ _ _ _ => (dgb_name 2 sc_less.nd)) (fun _ _ _ _ _ => (dts_one (dt_notInX hr.units (de_var 2) (de_var 1)))) (fun _ _ _ _ _ => (de_var 2)))))), fun ds Q px h => rd_less h⟩)

abbrev s_every_of : Stmt := top 15
theorem sc_every_of : FnScope N_every_of ["form", "letters"] (defScope s_every_of) := ⟨rfl, rfl, rfl, by decide +kernel, rfl, by decide +kernel, by decide +kernel⟩
set_option maxHeartbeats 4000000 in
theorem ok_every_of {P : Program} {w : World} {K : PySem.W.Frag} {mg : Str → Option Value} {base : Heap} {f : Addr} {fd : FuncData} (F : Fun K "every_of" "every_of" s_every_of f fd) {f_multiplied : Addr} {fd_multiplied : FuncData} (F_multiplied : FnOk P w K mg base CX0 2 f_multiplied fd_multiplied ["one", "other"] (spD K sp_multiplied)) (b_multiplied : Binds K fd_multiplied ["one", "other"] []) (k_multiplied : PySem.W.keepIn K (.ref f_multiplied) = true) (mg_multiplied : mg "multiplied" = some (.ref f_multiplied)) {f_fixed_at : Addr} {fd_fixed_at : FuncData} (F_fixed_at : FnOk P w K mg base CX0 4 f_fixed_at fd_fixed_at ["form", "letter", "truth"] (spD K sp_fixed_at)) (b_fixed_at : Binds K fd_fixed_at ["form", "letter", "truth"] []) (k_fixed_at : PySem.W.keepIn K (.ref f_fixed_at) = true) (mg_fixed_at : mg "fixed_at" = some (.ref f_fixed_at)) :
    FnOk P w K mg base CX0 5 f fd ["form", "letters"] (spD K sp_every_of) := by
  refine fnD F sc_every_of (fun ds Q px h => len_every_of h) (fun cdv A outer s H E hr => ⟨_, w_every_of,
    (dss_cons (ds_for PassesOwn.never rfl (di_X (de_var 1)) (dg_name 2 sc_every_of.nd) (dss_one (ds_asg (de_call F_multiplied (hr.mono (by decide)) mg_multiplied k_multiplied b_multiplied pass0 (da_cons (de_call F_fixed_at (hr.mono (by decide)) mg_fixed_at k_fixed_at b_fixed_at pass0 (da_cons (de_var 0) (da_cons (de_var 2) (da_cons de_bl da_nil)))) (da_cons (de_call F_fixed_at (hr.mono (by decide)) mg_fixed_at k_fixed_at b_fixed_at pass0 (da_cons (de_var 0) (da_cons (de_var 2) (da_cons de_bl da_nil)))) da_nil))) (dg_name 0 sc_every_of.nd))))
    (dss_one (ds_ret (de_var 0)))), fun ds Q px h => rd_every_of h⟩)

abbrev s_true_row : Stmt := top 18
theorem sc_true_row : FnScope N_true_row ["form", "letters"] (defScope s_true_row) := ⟨rfl, rfl, rfl, by decide +kernel, rfl, by decide +kernel, by decide +kernel⟩
set_option maxHeartbeats 4000000 in
theorem ok_true_row {P : Program} {w : World} {K : PySem.W.Frag} {mg : Str → Option Value} {base : Heap} {f : Addr} {fd : FuncData} (F : Fun K "true_row" "true_row" s_true_row f fd) {f_fixed_at : Addr} {fd_fixed_at : FuncData} (F_fixed_at : FnOk P w K mg base CX0 4 f_fixed_at fd_fixed_at ["form", "letter", "truth"] (spD K sp_fixed_at)) (b_fixed_at : Binds K fd_fixed_at ["form", "letter", "truth"] []) (k_fixed_at : PySem.W.keepIn K (.ref f_fixed_at) = true) (mg_fixed_at : mg "fixed_at" = some (.ref f_fixed_at)) :
    FnOk P w K mg base CX0 5 f fd ["form", "letters"] (spD K sp_true_row) := by
  refine fnD F sc_true_row (fun ds Q px h => len_true_row h) (fun cdv A outer s H E hr => ⟨_, w_true_row,
    (dss_cons (ds_set 2 sc_true_row.nd de_dict0)
    (dss_cons (ds_for PassesOwn.never rfl (di_X (de_var 1)) (dg_name 3 sc_true_row.nd) (dss_cons (ds_asg (de_call F_fixed_at (hr.mono (by decide)) mg_fixed_at k_fixed_at b_fixed_at pass0 (da_cons (de_var 0) (da_cons (de_var 3) (da_cons de_bl da_nil)))) (dg_name 4 sc_true_row.nd))
    (dss_cons (ds_dput 2 (units1 hr.units) (de_var 3) (de_eqX hr.units (de_var 4) (de_tup da_nil)))
    (dss_one (ds_if (dt_val (de_oix 2 hr.units (de_var 3))) (dss_one (ds_asg (de_call F_fixed_at (hr.mono (by decide)) mg_fixed_at k_fixed_at b_fixed_at pass0 (da_cons (de_var 0) (da_cons (de_var 3) (da_cons de_bl da_nil)))) (dg_name 0 sc_true_row.nd))) (dss_one (ds_asg (de_var 4) (dg_name 0 sc_true_row.nd))))))))
    (dss_one (ds_ret (de_move 2))))), fun ds Q px h => rd_true_row h⟩)

abbrev s_between : Stmt := top 19
theorem sc_between : FnScope N_between ["one", "other"] (defScope s_between) := ⟨rfl, rfl, rfl, by decide +kernel, rfl, by decide +kernel, by decide +kernel⟩
set_option maxHeartbeats 4000000 in
theorem ok_between {P : Program} {w : World} {K : PySem.W.Frag} {mg : Str → Option Value} {base : Heap} {f : Addr} {fd : FuncData} (F : Fun K "between" "between" s_between f fd) {f_letters_of : Addr} {fd_letters_of : FuncData} (F_letters_of : FnOk P w K mg base CX0 1 f_letters_of fd_letters_of ["form"] (spD K sp_letters_of)) (b_letters_of : Binds K fd_letters_of ["form"] []) (k_letters_of : PySem.W.keepIn K (.ref f_letters_of) = true) (mg_letters_of : mg "letters_of" = some (.ref f_letters_of)) {f_leads : Addr} {fd_leads : FuncData} (F_leads : FnOk P w K mg base CX0 4 f_leads fd_leads ["one", "other"] (spD K sp_leads)) (b_leads : Binds K fd_leads ["one", "other"] []) (k_leads : PySem.W.keepIn K (.ref f_leads) = true) (mg_leads : mg "leads" = some (.ref f_leads)) {f_some_of : Addr} {fd_some_of : FuncData} (F_some_of : FnOk P w K mg base CX0 5 f_some_of fd_some_of ["form", "letters"] (spD K sp_some_of)) (b_some_of : Binds K fd_some_of ["form", "letters"] []) (k_some_of : PySem.W.keepIn K (.ref f_some_of) = true) (mg_some_of : mg "some_of" = some (.ref f_some_of)) {f_less : Addr} {fd_less : FuncData} (F_less : FnOk P w K mg base CX0 1 f_less fd_less ["letters", "others"] (spD K sp_less)) (b_less : Binds K fd_less ["letters", "others"] []) (k_less : PySem.W.keepIn K (.ref f_less) = true) (mg_less : mg "less" = some (.ref f_less)) {f_every_of : Addr} {fd_every_of : FuncData} (F_every_of : FnOk P w K mg base CX0 5 f_every_of fd_every_of ["form", "letters"] (spD K sp_every_of)) (b_every_of : Binds K fd_every_of ["form", "letters"] []) (k_every_of : PySem.W.keepIn K (.ref f_every_of) = true) (mg_every_of : mg "every_of" = some (.ref f_every_of)) {f_true_row : Addr} {fd_true_row : FuncData} (F_true_row : FnOk P w K mg base CX0 5 f_true_row fd_true_row ["form", "letters"] (spD K sp_true_row)) (b_true_row : Binds K fd_true_row ["form", "letters"] []) (k_true_row : PySem.W.keepIn K (.ref f_true_row) = true) (mg_true_row : mg "true_row" = some (.ref f_true_row)) {f_multiplied : Addr} {fd_multiplied : FuncData} (F_multiplied : FnOk P w K mg base CX0 2 f_multiplied fd_multiplied ["one", "other"] (spD K sp_multiplied)) (b_multiplied : Binds K fd_multiplied ["one", "other"] []) (k_multiplied : PySem.W.keepIn K (.ref f_multiplied) = true) (mg_multiplied : mg "multiplied" = some (.ref f_multiplied)) {f_opposite : Addr} {fd_opposite : FuncData} (F_opposite : FnOk P w K mg base CX0 3 f_opposite fd_opposite ["form"] (spD K sp_opposite)) (b_opposite : Binds K fd_opposite ["form"] []) (k_opposite : PySem.W.keepIn K (.ref f_opposite) = true) (mg_opposite : mg "opposite" = some (.ref f_opposite)) (m_set : mg "set" = none) (m_sorted : mg "sorted" = none) :
    FnOk P w K mg base CX0 6 f fd ["one", "other"] (spD K sp_between) := by
  refine fnD F sc_between (fun ds Q px h => len_between h) (fun cdv A outer s H E hr => ⟨_, w_between,
    (dss_cons (ds_asg (de_call F_letters_of (hr.mono (by decide)) mg_letters_of k_letters_of b_letters_of pass0 (da_cons (de_var 0) da_nil)) (dg_name 2 sc_between.nd))
    (dss_cons (ds_asg (de_call F_letters_of (hr.mono (by decide)) mg_letters_of k_letters_of b_letters_of pass0 (da_cons (de_var 1) da_nil)) (dg_name 3 sc_between.nd))
    (dss_cons (ds_if (dt_val (de_call F_leads (hr.mono (by decide)) mg_leads k_leads b_leads pass0 (da_cons (de_var 0) (da_cons (de_var 1) da_nil)))) (dss_one (ds_ret (de_tup (da_cons de_str (da_cons (de_call F_some_of (hr.mono (by decide)) mg_some_of k_some_of b_some_of pass0 (da_cons (de_var 0) (da_cons (de_call F_less (hr.mono (by decide)) mg_less k_less b_less pass0 (da_cons (de_var 2) (da_cons (de_var 3) da_nil))) da_nil))) (da_cons (de_call F_every_of (hr.mono (by decide)) mg_every_of k_every_of b_every_of pass0 (da_cons (de_var 1) (da_cons (de_call F_less (hr.mono (by decide)) mg_less k_less b_less pass0 (da_cons (de_var 3) (da_cons (de_var 2) da_nil))) da_nil))) da_nil)))))) dss_nil)
    (dss_one (ds_ret (de_tup (da_cons de_str (da_cons (de_call F_true_row (hr.mono (by decide)) mg_true_row k_true_row b_true_row pass0 (da_cons (de_call F_multiplied (hr.mono (by decide)) mg_multiplied k_multiplied b_multiplied pass0 (da_cons (de_var 0) (da_cons (de_call F_opposite (hr.mono (by decide)) mg_opposite k_opposite b_opposite pass0 (da_cons (de_var 1) da_nil)) da_nil))) (da_cons (de_join de_str (de_sortSet rfl m_sorted m_set (de_plus (de_var 2) (de_var 3)))) da_nil))) da_nil)))))))), fun ds Q px h => rd_between h⟩)

abbrev s_L_in_0a4 : Stmt := top 33
theorem sc_L_in_0a4 : FnScope N_L_in_0a4 ["_law_form_here"] (defScope s_L_in_0a4) := ⟨rfl, rfl, rfl, by decide +kernel, rfl, by decide +kernel, by decide +kernel⟩
set_option maxHeartbeats 4000000 in
theorem ok_L_in_0a4 {P : Program} {w : World} {K : PySem.W.Frag} {mg : Str → Option Value} {base : Heap} {f : Addr} {fd : FuncData} (F : Fun K "_law_in" "_law_in" s_L_in_0a4 f fd) :
    FnOk P w K mg base CX0 1 f fd ["_law_form_here"] (spD K sp_L_in_0a4) := by
  refine fnD F sc_L_in_0a4 (fun ds Q px h => len_L_in_0a4 h) (fun cdv A outer s H E hr => ⟨_, w_L_in_0a4,
    (dss_one (ds_ret (de_join de_str (de_lc (own := [("_law_letter", 1)]) rfl sc_L_in_0a4.nd (di_X de_str) (show BlkOk N_L_in_0a4 (defScope s_L_in_0a4) _ [("_law_letter", 1)] from ⟨rfl, by decide +kernel, by decide +kernel, by decide +kernel, by decide +kernel⟩) (fun _ _ _ _ _ => (dgb_name 1 sc_L_in_0a4.nd)) (fun _ _ _ _ _ => (dts_one (dt_inX hr.units (de_var 1) (de_join de_str (de_var 0))))) (fun _ _ _ _ _ => (de_var 1)))))), fun ds Q px h => rd_L_in_0a4 h⟩)

abbrev s_L_worth_f41 : Stmt := top 34
theorem sc_L_worth_f41 : FnScope N_L_worth_f41 ["_law_form_here", "_law_row"] (defScope s_L_worth_f41) := ⟨rfl, rfl, rfl, by decide +kernel, rfl, by decide +kernel, by decide +kernel⟩
set_option maxHeartbeats 4000000 in
theorem ok_L_worth_f41 {P : Program} {w : World} {K : PySem.W.Frag} {mg : Str → Option Value} {base : Heap} {f : Addr} {fd : FuncData} (F : Fun K "_law_worth" "_law_worth" s_L_worth_f41 f fd) (m_all : mg "all" = none) (m_len : mg "len" = none) :
    FnOk P w K mg base CX0 1 f fd ["_law_form_here", "_law_row"] (spD K sp_L_worth_f41) := by
  refine fnD F sc_L_worth_f41 (fun ds Q px h => len_L_worth_f41 h) (fun cdv A outer s H E hr => ⟨_, w_L_worth_f41,
    (dss_one (ds_ret (de_eqX hr.units (de_mod (de_len m_len (de_lc (own := [("_law_product", 2)]) rfl sc_L_worth_f41.nd (di_X (de_var 0)) (show BlkOk N_L_worth_f41 (defScope s_L_worth_f41) _ [("_law_product", 2)] from ⟨rfl, by decide +kernel, by decide +kernel, by decide +kernel, by decide +kernel⟩) (fun _ _ _ _ _ => (dgb_name 2 sc_L_worth_f41.nd)) (fun _ _ _ _ _ => (dts_one (dt_val (de_all m_all (cr_all rfl) (de_lc (own := [("_law_letter", 3)]) rfl sc_L_worth_f41.nd (di_X (de_var 2)) (blk_in (N := N_L_worth_f41) (scF := defScope s_L_worth_f41) (own := [("_law_letter", 3)]) ⟨rfl, by decide +kernel, by decide +kernel, by decide +kernel, by decide +kernel⟩) (fun _ _ _ _ _ => (dgb_name 3 sc_L_worth_f41.nd)) (fun _ _ _ _ _ => dts_nil) (fun _ _ _ _ _ => (de_ixX hr.units (de_var 1) (de_var 3)))))))) (fun _ _ _ _ _ => (de_var 2)))) de_int) de_int))), fun ds Q px h => rd_L_worth_f41 h⟩)

abbrev s_L_row_well_e78 : Stmt := top 35
theorem sc_L_row_well_e78 : FnScope N_L_row_well_e78 ["_law_one", "_law_other", "_law_found"] (defScope s_L_row_well_e78) := ⟨rfl, rfl, rfl, by decide +kernel, rfl, by decide +kernel, by decide +kernel⟩
set_option maxHeartbeats 4000000 in
theorem ok_L_row_well_e78 {P : Program} {w : World} {K : PySem.W.Frag} {mg : Str → Option Value} {base : Heap} {f : Addr} {fd : FuncData} (F : Fun K "_law_row_well" "_law_row_well" s_L_row_well_e78 f fd) {f_L_in_0a4 : Addr} {fd_L_in_0a4 : FuncData} (F_L_in_0a4 : FnOk P w K mg base CX0 1 f_L_in_0a4 fd_L_in_0a4 ["_law_form_here"] (spD K sp_L_in_0a4)) (b_L_in_0a4 : Binds K fd_L_in_0a4 ["_law_form_here"] []) (k_L_in_0a4 : PySem.W.keepIn K (.ref f_L_in_0a4) = true) (mg_L_in_0a4 : mg "_law_in" = some (.ref f_L_in_0a4)) {f_L_worth_f41 : Addr} {fd_L_worth_f41 : FuncData} (F_L_worth_f41 : FnOk P w K mg base CX0 1 f_L_worth_f41 fd_L_worth_f41 ["_law_form_here", "_law_row"] (spD K sp_L_worth_f41)) (b_L_worth_f41 : Binds K fd_L_worth_f41 ["_law_form_here", "_law_row"] []) (k_L_worth_f41 : PySem.W.keepIn K (.ref f_L_worth_f41) = true) (mg_L_worth_f41 : mg "_law_worth" = some (.ref f_L_worth_f41)) (m_all : mg "all" = none) (m_bool : mg "bool" = none) (m_dict : mg "dict" = none) (m_isinstance : mg "isinstance" = none) (m_len : mg "len" = none) (m_sorted : mg "sorted" = none) (m_tuple : mg "tuple" = none) :
    FnOk P w K mg base CX0 2 f fd ["_law_one", "_law_other", "_law_found"] (spD K sp_L_row_well_e78) := by
  refine fnD F sc_L_row_well_e78 (fun ds Q px h => len_L_row_well_e78 h) (fun cdv A outer s H E hr => ⟨_, w_L_row_well_e78,
    (dss_cons (ds_if ((dw_or (dt_not (dt_val (de_isi m_isinstance (de_var 2) (de_ty m_tuple (by decide +kernel))))) (dw_or (dt_neX hr.units (de_len m_len (de_var 2)) de_int) (dw_or (dt_neX hr.units (de_ixX hr.units (de_var 2) de_int) de_str) (dw_or1 (dt_not (dt_val (de_isi m_isinstance (de_ixX hr.units (de_var 2) de_int) (de_ty m_dict (by decide +kernel))))))))).dt) (dss_one (ds_ret de_bl)) dss_nil)
    (dss_cons (ds_asgLc 3 (own := [("_law_letter", 4)]) rfl sc_L_row_well_e78.nd (di_X de_str) (show BlkOk N_L_row_well_e78 (defScope s_L_row_well_e78) _ [("_law_letter", 4)] from ⟨rfl, by decide +kernel, by decide +kernel, by decide +kernel, by decide +kernel⟩) (fun _ _ _ _ _ => (dgb_name 4 sc_L_row_well_e78.nd)) (fun _ _ _ _ _ => (dts_one (dt_inX hr.units (de_var 4) (de_plus (de_call F_L_in_0a4 (hr.mono (by decide)) mg_L_in_0a4 k_L_in_0a4 b_L_in_0a4 pass0 (da_cons (de_var 0) da_nil)) (de_call F_L_in_0a4 (hr.mono (by decide)) mg_L_in_0a4 k_L_in_0a4 b_L_in_0a4 pass0 (da_cons (de_var 1) da_nil)))))) (fun _ _ _ _ _ => (de_var 4)))
    (dss_cons (ds_if ((dw_or (dt_neX hr.units (de_sortK rfl m_sorted (de_ixX hr.units (de_var 2) de_int)) (de_var 3)) (dw_or1 (dt_not (dt_val (de_all m_all (cr_all rfl) (de_lc (own := [("_law_letter", 4)]) rfl sc_L_row_well_e78.nd (di_X (de_var 3)) (show BlkOk N_L_row_well_e78 (defScope s_L_row_well_e78) _ [("_law_letter", 4)] from ⟨rfl, by decide +kernel, by decide +kernel, by decide +kernel, by decide +kernel⟩) (fun _ _ _ _ _ => (dgb_name 4 sc_L_row_well_e78.nd)) (fun _ _ _ _ _ => dts_nil) (fun _ _ _ _ _ => (de_isi m_isinstance (de_ixX hr.units (de_ixX hr.units (de_var 2) de_int) (de_var 4)) (de_ty m_bool (by decide +kernel)))))))))).dt) (dss_one (ds_ret de_bl)) dss_nil)
    (dss_one (ds_ret (de_and (de_call F_L_worth_f41 (hr.mono (by decide)) mg_L_worth_f41 k_L_worth_f41 b_L_worth_f41 pass0 (da_cons (de_var 0) (da_cons (de_ixX hr.units (de_var 2) de_int) da_nil))) (de_one (de_not (de_call F_L_worth_f41 (hr.mono (by decide)) mg_L_worth_f41 k_L_worth_f41 b_L_worth_f41 pass0 (da_cons (de_var 1) (da_cons (de_ixX hr.units (de_var 2) de_int) da_nil))))))))))), fun ds Q px h => rd_L_row_well_e78 h⟩)

abbrev s_L_is_form_f61 : Stmt := top 26
theorem sc_L_is_form_f61 : FnScope N_L_is_form_f61 ["_law_found", "_law_letters_here"] (defScope s_L_is_form_f61) := ⟨rfl, rfl, rfl, by decide +kernel, rfl, by decide +kernel, by decide +kernel⟩
set_option maxHeartbeats 4000000 in
theorem ok_L_is_form_f61 {P : Program} {w : World} {K : PySem.W.Frag} {mg : Str → Option Value} {base : Heap} {f : Addr} {fd : FuncData} (F : Fun K "_law_is_form" "_law_is_form" s_L_is_form_f61 f fd) (m_all : mg "all" = none) (m_isinstance : mg "isinstance" = none) (m_list : mg "list" = none) (m_set : mg "set" = none) (m_sorted : mg "sorted" = none) (m_str : mg "str" = none) (m_tuple : mg "tuple" = none) :
    FnOk P w K mg base CX0 1 f fd ["_law_found", "_law_letters_here"] (spD K sp_L_is_form_f61) := by
  refine fnD F sc_L_is_form_f61 (fun ds Q px h => len_L_is_form_f61 h) (fun cdv A outer s H E hr => ⟨_, w_L_is_form_f61,
    (dss_cons (ds_if ((dw_or (dt_not (dt_val (de_isi m_isinstance (de_var 0) (de_ty m_tuple (by decide +kernel))))) (dw_or1 (dt_not (dt_val (de_all m_all (cr_all rfl) (de_lc (own := [("_law_product", 2)]) rfl sc_L_is_form_f61.nd (di_X (de_var 0)) (show BlkOk N_L_is_form_f61 (defScope s_L_is_form_f61) _ [("_law_product", 2)] from ⟨rfl, by decide +kernel, by decide +kernel, by decide +kernel, by decide +kernel⟩) (fun _ _ _ _ _ => (dgb_name 2 sc_L_is_form_f61.nd)) (fun _ _ _ _ _ => dts_nil) (fun _ _ _ _ _ => (de_isi m_isinstance (de_var 2) (de_ty m_str (by decide +kernel)))))))))).dt) (dss_one (ds_ret de_bl)) dss_nil)
    (dss_cons (ds_if (dt_neX hr.units (de_listX rfl m_list (de_var 0)) (de_sortSet rfl m_sorted m_set (de_var 0))) (dss_one (ds_ret de_bl)) dss_nil)
    (dss_cons (ds_for PassesOwn.never rfl (di_X (de_var 0)) (dg_name 2 sc_L_is_form_f61.nd) (dss_one (ds_if (dt_neX hr.units (de_var 2) (de_join de_str (de_lc (own := [("_law_letter", 3)]) rfl sc_L_is_form_f61.nd (di_X (de_var 1)) (show BlkOk N_L_is_form_f61 (defScope s_L_is_form_f61) _ [("_law_letter", 3)] from ⟨rfl, by decide +kernel, by decide +kernel, by decide +kernel, by decide +kernel⟩) (fun _ _ _ _ _ => (dgb_name 3 sc_L_is_form_f61.nd)) (fun _ _ _ _ _ => (dts_one (dt_inX hr.units (de_var 3) (de_var 2)))) (fun _ _ _ _ _ => (de_var 3))))) (dss_one (ds_ret de_bl)) dss_nil)))
    (dss_one (ds_ret de_bl))))), fun ds Q px h => rd_L_is_form_f61 h⟩)

abbrev s_L_taken_380 : Stmt := top 27
theorem sc_L_taken_380 : FnScope N_L_taken_380 ["_law_table_here", "_law_letters_here", "_law_gone", "_law_some"] (defScope s_L_taken_380) := ⟨rfl, rfl, rfl, by decide +kernel, rfl, by decide +kernel, by decide +kernel⟩
set_option maxHeartbeats 4000000 in
theorem ok_L_taken_380 {P : Program} {w : World} {K : PySem.W.Frag} {mg : Str → Option Value} {base : Heap} {f : Addr} {fd : FuncData} (F : Fun K "_law_taken" "_law_taken" s_L_taken_380 f fd) (m_len : mg "len" = none) (m_list : mg "list" = none) (m_range : mg "range" = none) :
    FnOk P w K mg base CX0 1 f fd ["_law_table_here", "_law_letters_here", "_law_gone", "_law_some"] (spD K sp_L_taken_380) := by
  refine fnD F sc_L_taken_380 (fun ds Q px h => len_L_taken_380 h) (fun cdv A outer s H E hr => ⟨_, w_L_taken_380,
    (dss_cons (ds_set 4 sc_L_taken_380.nd (de_listX rfl m_list (de_var 0)))
    (dss_cons (ds_asg (de_len m_len (de_var 0)) (dg_name 5 sc_L_taken_380.nd))
    (dss_cons (ds_for PassesOwn.never rfl (di_X (de_var 1)) (dg_name 6 sc_L_taken_380.nd) (dss_cons (ds_asg (de_div (de_var 5) de_int) (dg_name 5 sc_L_taken_380.nd))
    (dss_one (ds_if (dt_inX hr.units (de_var 6) (de_var 2)) (dss_one (ds_for PassesOwn.never rfl (di_range3 m_range (da_cons (de_var 5) (da_cons (de_len m_len (de_var 0)) (da_cons (de_plus (de_var 5) (de_var 5)) da_nil)))) (dg_name 7 sc_L_taken_380.nd) (dss_one (ds_for PassesOwn.never rfl (di_range2 m_range (da_cons (de_var 7) (da_cons (de_plus (de_var 7) (de_var 5)) da_nil))) (dg_name 8 sc_L_taken_380.nd) (dss_cons (ds_asg (de_lst (da_cons (de_oix 4 hr.units (de_sub (de_var 8) (de_var 5))) (da_cons (de_oix 4 hr.units (de_var 8)) da_nil))) (dg_name 9 sc_L_taken_380.nd))
    (dss_cons (ds_lset 4 (de_var 8) (de_if (dt_val (de_var 3)) (de_inX hr.units de_bl (de_var 9)) (de_notInX hr.units de_bl (de_var 9))))
    (dss_one (ds_lset 4 (de_sub (de_var 8) (de_var 5)) (de_oix 4 hr.units (de_var 8)))))))))) dss_nil))))
    (dss_one (ds_ret (de_move 4)))))), fun ds Q px h => rd_L_taken_380 h⟩)

abbrev s_L_way_right_b5d : Stmt := top 36
theorem sc_L_way_right_b5d : FnScope N_L_way_right_b5d ["_law_one", "_law_other", "_law_here", "_law_there", "_law_letters_here"] (defScope s_L_way_right_b5d) := ⟨rfl, rfl, rfl, by decide +kernel, rfl, by decide +kernel, by decide +kernel⟩
set_option maxHeartbeats 4000000 in
theorem ok_L_way_right_b5d {P : Program} {w : World} {K : PySem.W.Frag} {mg : Str → Option Value} {base : Heap} {f : Addr} {fd : FuncData} (F : Fun K "_law_way_right" "_law_way_right" s_L_way_right_b5d f fd) {f_leads : Addr} {fd_leads : FuncData} (F_leads : FnOk P w K mg base CX0 4 f_leads fd_leads ["one", "other"] (spD K sp_leads)) (b_leads : Binds K fd_leads ["one", "other"] []) (k_leads : PySem.W.keepIn K (.ref f_leads) = true) (mg_leads : mg "leads" = some (.ref f_leads)) {f_between : Addr} {fd_between : FuncData} (F_between : FnOk P w K mg base CX0 6 f_between fd_between ["one", "other"] (spD K sp_between)) (b_between : Binds K fd_between ["one", "other"] []) (k_between : PySem.W.keepIn K (.ref f_between) = true) (mg_between : mg "between" = some (.ref f_between)) {f_L_row_well_e78 : Addr} {fd_L_row_well_e78 : FuncData} (F_L_row_well_e78 : FnOk P w K mg base CX0 2 f_L_row_well_e78 fd_L_row_well_e78 ["_law_one", "_law_other", "_law_found"] (spD K sp_L_row_well_e78)) (b_L_row_well_e78 : Binds K fd_L_row_well_e78 ["_law_one", "_law_other", "_law_found"] []) (k_L_row_well_e78 : PySem.W.keepIn K (.ref f_L_row_well_e78) = true) (mg_L_row_well_e78 : mg "_law_row_well" = some (.ref f_L_row_well_e78)) {f_L_in_0a4 : Addr} {fd_L_in_0a4 : FuncData} (F_L_in_0a4 : FnOk P w K mg base CX0 1 f_L_in_0a4 fd_L_in_0a4 ["_law_form_here"] (spD K sp_L_in_0a4)) (b_L_in_0a4 : Binds K fd_L_in_0a4 ["_law_form_here"] []) (k_L_in_0a4 : PySem.W.keepIn K (.ref f_L_in_0a4) = true) (mg_L_in_0a4 : mg "_law_in" = some (.ref f_L_in_0a4)) {f_L_is_form_f61 : Addr} {fd_L_is_form_f61 : FuncData} (F_L_is_form_f61 : FnOk P w K mg base CX0 1 f_L_is_form_f61 fd_L_is_form_f61 ["_law_found", "_law_letters_here"] (spD K sp_L_is_form_f61)) (b_L_is_form_f61 : Binds K fd_L_is_form_f61 ["_law_found", "_law_letters_here"] []) (k_L_is_form_f61 : PySem.W.keepIn K (.ref f_L_is_form_f61) = true) (mg_L_is_form_f61 : mg "_law_is_form" = some (.ref f_L_is_form_f61)) {f_L_taken_380 : Addr} {fd_L_taken_380 : FuncData} (F_L_taken_380 : FnOk P w K mg base CX0 1 f_L_taken_380 fd_L_taken_380 ["_law_table_here", "_law_letters_here", "_law_gone", "_law_some"] (spD K sp_L_taken_380)) (b_L_taken_380 : Binds K fd_L_taken_380 ["_law_table_here", "_law_letters_here", "_law_gone", "_law_some"] []) (k_L_taken_380 : PySem.W.keepIn K (.ref f_L_taken_380) = true) (mg_L_taken_380 : mg "_law_taken" = some (.ref f_L_taken_380)) {f_L_table_9dd : Addr} {fd_L_table_9dd : FuncData} (F_L_table_9dd : FnOk P w K mg base CX0 1 f_L_table_9dd fd_L_table_9dd ["_law_form_here", "_law_letters_here"] (spD K sp_L_table_9dd)) (b_L_table_9dd : Binds K fd_L_table_9dd ["_law_form_here", "_law_letters_here"] []) (k_L_table_9dd : PySem.W.keepIn K (.ref f_L_table_9dd) = true) (mg_L_table_9dd : mg "_law_table" = some (.ref f_L_table_9dd)) (m_all : mg "all" = none) (m_bool : mg "bool" = none) (m_isinstance : mg "isinstance" = none) (m_len : mg "len" = none) (m_tuple : mg "tuple" = none) (m_zip : mg "zip" = none) :
    FnOk P w K mg base CX0 7 f fd ["_law_one", "_law_other", "_law_here", "_law_there", "_law_letters_here"] (spD K sp_L_way_right_b5d) := by
  refine fnD F sc_L_way_right_b5d (fun ds Q px h => len_L_way_right_b5d h) (fun cdv A outer s H E hr => ⟨_, w_L_way_right_b5d,
    (dss_cons (ds_asg (de_all m_all (cr_all rfl) (de_lc (own := [("_law_low", 6), ("_law_high", 7)]) rfl sc_L_way_right_b5d.nd (di_zip m_zip (da_cons (de_var 2) (da_cons (de_var 3) da_nil))) (show BlkOk N_L_way_right_b5d (defScope s_L_way_right_b5d) _ [("_law_low", 6), ("_law_high", 7)] from ⟨rfl, by decide +kernel, by decide +kernel, by decide +kernel, by decide +kernel⟩) (fun _ _ _ _ _ => (dgb_tup rfl (dgbs_cons (dgb_name 6 sc_L_way_right_b5d.nd) (dgbs_cons (dgb_name 7 sc_L_way_right_b5d.nd) dgbs_nil)))) (fun _ _ _ _ _ => dts_nil) (fun _ _ _ _ _ => (de_or (de_var 7) (de_one (de_not (de_var 6))))))) (dg_name 5 sc_L_way_right_b5d.nd))
    (dss_cons (ds_asg (de_call F_leads (hr.mono (by decide)) mg_leads k_leads b_leads pass0 (da_cons (de_var 0) (da_cons (de_var 1) da_nil))) (dg_name 8 sc_L_way_right_b5d.nd))
    (dss_cons (ds_if ((dw_or (dt_not (dt_val (de_isi m_isinstance (de_var 8) (de_ty m_bool (by decide +kernel))))) (dw_or1 (dt_neX hr.units (de_var 8) (de_var 5)))).dt) (dss_one (ds_ret de_bl)) dss_nil)
    (dss_cons (ds_asg (de_call F_between (hr.mono (by decide)) mg_between k_between b_between pass0 (da_cons (de_var 0) (da_cons (de_var 1) da_nil))) (dg_name 9 sc_L_way_right_b5d.nd))
    (dss_cons (ds_if (dt_not (dt_val (de_var 5))) (dss_one (ds_ret (de_call F_L_row_well_e78 (hr.mono (by decide)) mg_L_row_well_e78 k_L_row_well_e78 b_L_row_well_e78 pass0 (da_cons (de_var 0) (da_cons (de_var 1) (da_cons (de_var 9) da_nil)))))) dss_nil)
    (dss_cons (ds_if ((dw_or (dt_not (dt_val (de_isi m_isinstance (de_var 9) (de_ty m_tuple (by decide +kernel))))) (dw_or (dt_neX hr.units (de_len m_len (de_var 9)) de_int) (dw_or1 (dt_neX hr.units (de_ixX hr.units (de_var 9) de_int) de_str)))).dt) (dss_one (ds_ret de_bl)) dss_nil)
    (dss_cons (ds_asg (de_call F_L_in_0a4 (hr.mono (by decide)) mg_L_in_0a4 k_L_in_0a4 b_L_in_0a4 pass0 (da_cons (de_var 0) da_nil)) (dg_name 10 sc_L_way_right_b5d.nd))
    (dss_cons (ds_asg (de_call F_L_in_0a4 (hr.mono (by decide)) mg_L_in_0a4 k_L_in_0a4 b_L_in_0a4 pass0 (da_cons (de_var 1) da_nil)) (dg_name 11 sc_L_way_right_b5d.nd))
    (dss_cons (ds_asgLc 12 (own := [("_law_letter", 13)]) rfl sc_L_way_right_b5d.nd (di_X (de_var 10)) (show BlkOk N_L_way_right_b5d (defScope s_L_way_right_b5d) _ [("_law_letter", 13)] from ⟨rfl, by decide +kernel, by decide +kernel, by decide +kernel, by decide +kernel⟩) (fun _ _ _ _ _ => (dgb_name 13 sc_L_way_right_b5d.nd)) (fun _ _ _ _ _ => (dts_one (dt_inX hr.units (de_var 13) (de_var 11)))) (fun _ _ _ _ _ => (de_var 13)))
    (dss_cons (ds_if ((dw_or (dt_not (dt_val (de_call F_L_is_form_f61 (hr.mono (by decide)) mg_L_is_form_f61 k_L_is_form_f61 b_L_is_form_f61 pass0 (da_cons (de_ixX hr.units (de_var 9) de_int) (da_cons (de_var 12) da_nil))))) (dw_or1 (dt_not (dt_val (de_call F_L_is_form_f61 (hr.mono (by decide)) mg_L_is_form_f61 k_L_is_form_f61 b_L_is_form_f61 pass0 (da_cons (de_ixX hr.units (de_var 9) de_int) (da_cons (de_var 12) da_nil))))))).dt) (dss_one (ds_ret de_bl)) dss_nil)
    (dss_cons (ds_asg (de_call F_L_taken_380 (hr.mono (by decide)) mg_L_taken_380 k_L_taken_380 b_L_taken_380 pass0 (da_cons (de_var 2) (da_cons (de_var 4) (da_cons (de_lc (own := [("_law_letter", 13)]) rfl sc_L_way_right_b5d.nd (di_X (de_var 10)) (show BlkOk N_L_way_right_b5d (defScope s_L_way_right_b5d) _ [("_law_letter", 13)] from ⟨rfl, by decide +kernel, by decide +kernel, by decide +kernel, by decide +kernel⟩) (fun _ _ _ _ _ => (dgb_name 13 sc_L_way_right_b5d.nd)) (fun _ _ _ _ _ => (dts_one (dt_notInX hr.units (de_var 13) (de_var 11)))) (fun _ _ _ _ _ => (de_var 13))) (da_cons de_bl da_nil))))) (dg_name 14 sc_L_way_right_b5d.nd))
    (dss_cons (ds_asg (de_call F_L_taken_380 (hr.mono (by decide)) mg_L_taken_380 k_L_taken_380 b_L_taken_380 pass0 (da_cons (de_var 3) (da_cons (de_var 4) (da_cons (de_lc (own := [("_law_letter", 13)]) rfl sc_L_way_right_b5d.nd (di_X (de_var 11)) (show BlkOk N_L_way_right_b5d (defScope s_L_way_right_b5d) _ [("_law_letter", 13)] from ⟨rfl, by decide +kernel, by decide +kernel, by decide +kernel, by decide +kernel⟩) (fun _ _ _ _ _ => (dgb_name 13 sc_L_way_right_b5d.nd)) (fun _ _ _ _ _ => (dts_one (dt_notInX hr.units (de_var 13) (de_var 10)))) (fun _ _ _ _ _ => (de_var 13))) (da_cons de_bl da_nil))))) (dg_name 15 sc_L_way_right_b5d.nd))
    (dss_one (ds_ret (de_and (de_eqX hr.units (de_call F_L_table_9dd (hr.mono (by decide)) mg_L_table_9dd k_L_table_9dd b_L_table_9dd pass0 (da_cons (de_ixX hr.units (de_var 9) de_int) (da_cons (de_var 4) da_nil))) (de_var 14)) (de_one (de_eqX hr.units (de_call F_L_table_9dd (hr.mono (by decide)) mg_L_table_9dd k_L_table_9dd b_L_table_9dd pass0 (da_cons (de_ixX hr.units (de_var 9) de_int) (da_cons (de_var 4) da_nil))) (de_var 15)))))))))))))))))), fun ds Q px h => rd_L_way_right_b5d h⟩)

abbrev s_law : Stmt := top 37
theorem sc_law : FnScope N_law ["_law_script"] (defScope s_law) := ⟨rfl, rfl, rfl, by decide +kernel, rfl, by decide +kernel, by decide +kernel⟩
set_option maxHeartbeats 4000000 in
theorem ok_law {P : Program} {w : World} {K : PySem.W.Frag} {mg : Str → Option Value} {base : Heap} {f : Addr} {fd : FuncData} (F : Fun K "law" "law" s_law f fd) {f_L_stir_d34 : Addr} {fd_L_stir_d34 : FuncData} (F_L_stir_d34 : FnOk P w K mg base CX0 1 f_L_stir_d34 fd_L_stir_d34 ["_law_cell_here", "_law_k"] (spD K sp_L_stir_d34)) (b_L_stir_d34 : Binds K fd_L_stir_d34 ["_law_cell_here", "_law_k"] []) (k_L_stir_d34 : PySem.W.keepIn K (.ref f_L_stir_d34) = true) (mg_L_stir_d34 : mg "_law_stir" = some (.ref f_L_stir_d34)) {f_L_cell_808 : Addr} {fd_L_cell_808 : FuncData} (F_L_cell_808 : FnOk P w K mg base CX0 1 f_L_cell_808 fd_L_cell_808 ["_law_script", "_law_k"] (spD K sp_L_cell_808)) (b_L_cell_808 : Binds K fd_L_cell_808 ["_law_script", "_law_k"] []) (k_L_cell_808 : PySem.W.keepIn K (.ref f_L_cell_808) = true) (mg_L_cell_808 : mg "_law_cell" = some (.ref f_L_cell_808)) {f_L_letters_1c0 : Addr} {fd_L_letters_1c0 : FuncData} (F_L_letters_1c0 : FnOk P w K mg base CX0 1 f_L_letters_1c0 fd_L_letters_1c0 ["_law_head"] (spD K sp_L_letters_1c0)) (b_L_letters_1c0 : Binds K fd_L_letters_1c0 ["_law_head"] []) (k_L_letters_1c0 : PySem.W.keepIn K (.ref f_L_letters_1c0) = true) (mg_L_letters_1c0 : mg "_law_letters" = some (.ref f_L_letters_1c0)) {f_L_pair_3b9 : Addr} {fd_L_pair_3b9 : FuncData} (F_L_pair_3b9 : FnOk P w K mg base CX0 3 f_L_pair_3b9 fd_L_pair_3b9 ["_law_script", "_law_letters_here", "_law_head"] (spD K sp_L_pair_3b9)) (b_L_pair_3b9 : Binds K fd_L_pair_3b9 ["_law_script", "_law_letters_here", "_law_head"] []) (k_L_pair_3b9 : PySem.W.keepIn K (.ref f_L_pair_3b9) = true) (mg_L_pair_3b9 : mg "_law_pair" = some (.ref f_L_pair_3b9)) {f_L_table_9dd : Addr} {fd_L_table_9dd : FuncData} (F_L_table_9dd : FnOk P w K mg base CX0 1 f_L_table_9dd fd_L_table_9dd ["_law_form_here", "_law_letters_here"] (spD K sp_L_table_9dd)) (b_L_table_9dd : Binds K fd_L_table_9dd ["_law_form_here", "_law_letters_here"] []) (k_L_table_9dd : PySem.W.keepIn K (.ref f_L_table_9dd) = true) (mg_L_table_9dd : mg "_law_table" = some (.ref f_L_table_9dd)) {f_L_way_right_b5d : Addr} {fd_L_way_right_b5d : FuncData} (F_L_way_right_b5d : FnOk P w K mg base CX0 7 f_L_way_right_b5d fd_L_way_right_b5d ["_law_one", "_law_other", "_law_here", "_law_there", "_law_letters_here"] (spD K sp_L_way_right_b5d)) (b_L_way_right_b5d : Binds K fd_L_way_right_b5d ["_law_one", "_law_other", "_law_here", "_law_there", "_law_letters_here"] []) (k_L_way_right_b5d : PySem.W.keepIn K (.ref f_L_way_right_b5d) = true) (mg_L_way_right_b5d : mg "_law_way_right" = some (.ref f_L_way_right_b5d)) :
    FnOk P w K mg base CX0 8 f fd ["_law_script"] (spD K sp_law) := by
  refine fnD F sc_law (fun ds Q px h => len_law h) (fun cdv A outer s H E hr => ⟨_, w_law,
    (dss_cons (ds_asg (de_call F_L_stir_d34 (hr.mono (by decide)) mg_L_stir_d34 k_L_stir_d34 b_L_stir_d34 pass0 (da_cons (de_call F_L_cell_808 (hr.mono (by decide)) mg_L_cell_808 k_L_cell_808 b_L_cell_808 pass0 (da_cons (de_var 0) (da_cons de_int da_nil))) (da_cons de_int da_nil))) (dg_name 1 sc_law.nd))
    (dss_cons (ds_asg (de_call F_L_letters_1c0 (hr.mono (by decide)) mg_L_letters_1c0 k_L_letters_1c0 b_L_letters_1c0 pass0 (da_cons (de_var 1) da_nil)) (dg_name 2 sc_law.nd))
    (dss_cons (ds_asg (de_call F_L_pair_3b9 (hr.mono (by decide)) mg_L_pair_3b9 k_L_pair_3b9 b_L_pair_3b9 pass0 (da_cons (de_var 0) (da_cons (de_var 2) (da_cons (de_var 1) da_nil)))) (dg_tup rfl (dgs_cons (dg_name 3 sc_law.nd) (dgs_cons (dg_name 4 sc_law.nd) dgs_nil))))
    (dss_cons (ds_asg (de_call F_L_table_9dd (hr.mono (by decide)) mg_L_table_9dd k_L_table_9dd b_L_table_9dd pass0 (da_cons (de_var 3) (da_cons (de_var 2) da_nil))) (dg_name 5 sc_law.nd))
    (dss_cons (ds_asg (de_call F_L_table_9dd (hr.mono (by decide)) mg_L_table_9dd k_L_table_9dd b_L_table_9dd pass0 (da_cons (de_var 4) (da_cons (de_var 2) da_nil))) (dg_name 6 sc_law.nd))
    (dss_cons (ds_if (dt_not (dt_val (de_call F_L_way_right_b5d (hr.mono (by decide)) mg_L_way_right_b5d k_L_way_right_b5d b_L_way_right_b5d pass0 (da_cons (de_var 3) (da_cons (de_var 4) (da_cons (de_var 5) (da_cons (de_var 6) (da_cons (de_var 2) da_nil)))))))) (dss_one (ds_ret de_bl)) dss_nil)
    (dss_one (ds_ret (de_call F_L_way_right_b5d (hr.mono (by decide)) mg_L_way_right_b5d k_L_way_right_b5d b_L_way_right_b5d pass0 (da_cons (de_var 4) (da_cons (de_var 3) (da_cons (de_var 6) (da_cons (de_var 5) (da_cons (de_var 2) da_nil)))))))))))))), fun ds Q px h => rd_law h⟩)

set_option maxHeartbeats 8000000 in
theorem all_mk {l : PySem.W.OpenLaw} {w : World} {K : PySem.W.Frag} {h : Heap} {mg : Str → Option Value} {fa : Addr} (X : K.In h) (G : h.Ns mainGlobals mg) (hfa : mg "law" = some (.ref fa))
    {f1 : Addr} {od1 an1 : Option Addr} {sl1 : Array (Option Value)} {oc1 kV1 dc1 pm1 cd1 ct1 : Value}
    {f2 : Addr} {od2 an2 : Option Addr} {sl2 : Array (Option Value)} {oc2 kV2 dc2 pm2 cd2 ct2 : Value}
    {f3 : Addr} {od3 an3 : Option Addr} {sl3 : Array (Option Value)} {oc3 kV3 dc3 pm3 cd3 ct3 : Value}
    {f4 : Addr} {od4 an4 : Option Addr} {sl4 : Array (Option Value)} {oc4 kV4 dc4 pm4 cd4 ct4 : Value}
    {f5 : Addr} {od5 an5 : Option Addr} {sl5 : Array (Option Value)} {oc5 kV5 dc5 pm5 cd5 ct5 : Value}
    {f6 : Addr} {od6 an6 : Option Addr} {sl6 : Array (Option Value)} {oc6 kV6 dc6 pm6 cd6 ct6 : Value}
    {f7 : Addr} {od7 an7 : Option Addr} {sl7 : Array (Option Value)} {oc7 kV7 dc7 pm7 cd7 ct7 : Value}
    {f8 : Addr} {od8 an8 : Option Addr} {sl8 : Array (Option Value)} {oc8 kV8 dc8 pm8 cd8 ct8 : Value}
    {f9 : Addr} {od9 an9 : Option Addr} {sl9 : Array (Option Value)} {oc9 kV9 dc9 pm9 cd9 ct9 : Value}
    {f10 : Addr} {od10 an10 : Option Addr} {sl10 : Array (Option Value)} {oc10 kV10 dc10 pm10 cd10 ct10 : Value}
    {f11 : Addr} {od11 an11 : Option Addr} {sl11 : Array (Option Value)} {oc11 kV11 dc11 pm11 cd11 ct11 : Value}
    {f12 : Addr} {od12 an12 : Option Addr} {sl12 : Array (Option Value)} {oc12 kV12 dc12 pm12 cd12 ct12 : Value}
    {f13 : Addr} {od13 an13 : Option Addr} {sl13 : Array (Option Value)} {oc13 kV13 dc13 pm13 cd13 ct13 : Value}
    {f14 : Addr} {od14 an14 : Option Addr} {sl14 : Array (Option Value)} {oc14 kV14 dc14 pm14 cd14 ct14 : Value}
    {f15 : Addr} {od15 an15 : Option Addr} {sl15 : Array (Option Value)} {oc15 kV15 dc15 pm15 cd15 ct15 : Value}
    {f16 : Addr} {od16 an16 : Option Addr} {sl16 : Array (Option Value)} {oc16 kV16 dc16 pm16 cd16 ct16 : Value}
    {f17 : Addr} {od17 an17 : Option Addr} {sl17 : Array (Option Value)} {oc17 kV17 dc17 pm17 cd17 ct17 : Value}
    {f18 : Addr} {od18 an18 : Option Addr} {sl18 : Array (Option Value)} {oc18 kV18 dc18 pm18 cd18 ct18 : Value}
    {f19 : Addr} {od19 an19 : Option Addr} {sl19 : Array (Option Value)} {oc19 kV19 dc19 pm19 cd19 ct19 : Value}
    {f20 : Addr} {od20 an20 : Option Addr} {sl20 : Array (Option Value)} {oc20 kV20 dc20 pm20 cd20 ct20 : Value}
    {f21 : Addr} {od21 an21 : Option Addr} {sl21 : Array (Option Value)} {oc21 kV21 dc21 pm21 cd21 ct21 : Value}
    {f22 : Addr} {od22 an22 : Option Addr} {sl22 : Array (Option Value)} {oc22 kV22 dc22 pm22 cd22 ct22 : Value}
    {f23 : Addr} {od23 an23 : Option Addr} {sl23 : Array (Option Value)} {oc23 kV23 dc23 pm23 cd23 ct23 : Value}
    {f24 : Addr} {od24 an24 : Option Addr} {sl24 : Array (Option Value)} {oc24 kV24 dc24 pm24 cd24 ct24 : Value}
    {f25 : Addr} {od25 an25 : Option Addr} {sl25 : Array (Option Value)} {oc25 kV25 dc25 pm25 cd25 ct25 : Value}
    {f26 : Addr} {od26 an26 : Option Addr} {sl26 : Array (Option Value)} {oc26 kV26 dc26 pm26 cd26 ct26 : Value}
    {f27 : Addr} {od27 an27 : Option Addr} {sl27 : Array (Option Value)} {oc27 kV27 dc27 pm27 cd27 ct27 : Value}
    {f28 : Addr} {od28 an28 : Option Addr} {sl28 : Array (Option Value)} {oc28 kV28 dc28 pm28 cd28 ct28 : Value}
    {f29 : Addr} {od29 an29 : Option Addr} {sl29 : Array (Option Value)} {oc29 kV29 dc29 pm29 cd29 ct29 : Value}
    {f30 : Addr} {od30 an30 : Option Addr} {sl30 : Array (Option Value)} {oc30 kV30 dc30 pm30 cd30 ct30 : Value}
    {f31 : Addr} {od31 an31 : Option Addr} {sl31 : Array (Option Value)} {oc31 kV31 dc31 pm31 cd31 ct31 : Value}
    {f32 : Addr} {od32 an32 : Option Addr} {sl32 : Array (Option Value)} {oc32 kV32 dc32 pm32 cd32 ct32 : Value}
    {A_ALWAYS : Addr} {oo_ALWAYS : Option Addr} {n_ALWAYS : Nat} {sl_ALWAYS : Array (Option Value)} {t0_ALWAYS : Tok}
    {A_NEVER : Addr} {oo_NEVER : Option Addr} {n_NEVER : Nat} {sl_NEVER : Array (Option Value)}
    (a1 : PySem.W.nsIn K mainGlobals "_law_stir" = some (some (.ref f1)))
    (a2 : PySem.W.nsIn K mainGlobals "_law_cell" = some (some (.ref f2)))
    (a3 : PySem.W.nsIn K mainGlobals "_law_letters" = some (some (.ref f3)))
    (a4 : PySem.W.nsIn K mainGlobals "_law_parts" = some (some (.ref f4)))
    (a5 : PySem.W.nsIn K mainGlobals "_law_numbers" = some (some (.ref f5)))
    (a6 : PySem.W.nsIn K mainGlobals "_law_form" = some (some (.ref f6)))
    (a7 : PySem.W.nsIn K mainGlobals "_law_turned" = some (some (.ref f7)))
    (a8 : PySem.W.nsIn K mainGlobals "_law_times" = some (some (.ref f8)))
    (a9 : PySem.W.nsIn K mainGlobals "_law_pair" = some (some (.ref f9)))
    (a10 : PySem.W.nsIn K mainGlobals "_law_table" = some (some (.ref f10)))
    (a11 : PySem.W.nsIn K mainGlobals "both_letters" = some (some (.ref f11)))
    (a12 : PySem.W.nsIn K mainGlobals "gathered" = some (some (.ref f12)))
    (a13 : PySem.W.nsIn K mainGlobals "multiplied" = some (some (.ref f13)))
    (a14 : PySem.W.nsIn K mainGlobals "added" = some (some (.ref f14)))
    (a15 : PySem.W.nsIn K mainGlobals "opposite" = some (some (.ref f15)))
    (a16 : PySem.W.nsIn K mainGlobals "leads" = some (some (.ref f16)))
    (a17 : PySem.W.nsIn K mainGlobals "letters_of" = some (some (.ref f17)))
    (a18 : PySem.W.nsIn K mainGlobals "joined" = some (some (.ref f18)))
    (a19 : PySem.W.nsIn K mainGlobals "put_in" = some (some (.ref f19)))
    (a20 : PySem.W.nsIn K mainGlobals "fixed_at" = some (some (.ref f20)))
    (a21 : PySem.W.nsIn K mainGlobals "some_of" = some (some (.ref f21)))
    (a22 : PySem.W.nsIn K mainGlobals "less" = some (some (.ref f22)))
    (a23 : PySem.W.nsIn K mainGlobals "every_of" = some (some (.ref f23)))
    (a24 : PySem.W.nsIn K mainGlobals "true_row" = some (some (.ref f24)))
    (a25 : PySem.W.nsIn K mainGlobals "between" = some (some (.ref f25)))
    (a26 : PySem.W.nsIn K mainGlobals "_law_in" = some (some (.ref f26)))
    (a27 : PySem.W.nsIn K mainGlobals "_law_worth" = some (some (.ref f27)))
    (a28 : PySem.W.nsIn K mainGlobals "_law_row_well" = some (some (.ref f28)))
    (a29 : PySem.W.nsIn K mainGlobals "_law_is_form" = some (some (.ref f29)))
    (a30 : PySem.W.nsIn K mainGlobals "_law_taken" = some (some (.ref f30)))
    (a31 : PySem.W.nsIn K mainGlobals "_law_way_right" = some (some (.ref f31)))
    (a32 : PySem.W.nsIn K mainGlobals "law" = some (some (.ref f32)))
    (l1 : K.lookup f1 = some ⟨oc1, od1, .func (PySem.W.fnOf "_law_stir" "_law_stir" (defArgs s_L_stir_d34) (defBody s_L_stir_d34) (defScope s_L_stir_d34) .none kV1 dc1 pm1 an1 cd1 ct1), sl1⟩) (c1 : PySem.W.codeIn K cd1 "_law_stir" = true) (k1 : PySem.W.keepIn K (.ref f1) = true)
    (l2 : K.lookup f2 = some ⟨oc2, od2, .func (PySem.W.fnOf "_law_cell" "_law_cell" (defArgs s_L_cell_808) (defBody s_L_cell_808) (defScope s_L_cell_808) .none kV2 dc2 pm2 an2 cd2 ct2), sl2⟩) (c2 : PySem.W.codeIn K cd2 "_law_cell" = true) (k2 : PySem.W.keepIn K (.ref f2) = true)
    (l3 : K.lookup f3 = some ⟨oc3, od3, .func (PySem.W.fnOf "_law_letters" "_law_letters" (defArgs s_L_letters_1c0) (defBody s_L_letters_1c0) (defScope s_L_letters_1c0) .none kV3 dc3 pm3 an3 cd3 ct3), sl3⟩) (c3 : PySem.W.codeIn K cd3 "_law_letters" = true) (k3 : PySem.W.keepIn K (.ref f3) = true)
    (l4 : K.lookup f4 = some ⟨oc4, od4, .func (PySem.W.fnOf "_law_parts" "_law_parts" (defArgs s_L_parts_bdf) (defBody s_L_parts_bdf) (defScope s_L_parts_bdf) .none kV4 dc4 pm4 an4 cd4 ct4), sl4⟩) (c4 : PySem.W.codeIn K cd4 "_law_parts" = true) (k4 : PySem.W.keepIn K (.ref f4) = true)
    (l5 : K.lookup f5 = some ⟨oc5, od5, .func (PySem.W.fnOf "_law_numbers" "_law_numbers" (defArgs s_L_numbers_81e) (defBody s_L_numbers_81e) (defScope s_L_numbers_81e) .none kV5 dc5 pm5 an5 cd5 ct5), sl5⟩) (c5 : PySem.W.codeIn K cd5 "_law_numbers" = true) (k5 : PySem.W.keepIn K (.ref f5) = true)
    (l6 : K.lookup f6 = some ⟨oc6, od6, .func (PySem.W.fnOf "_law_form" "_law_form" (defArgs s_L_form_898) (defBody s_L_form_898) (defScope s_L_form_898) .none kV6 dc6 pm6 an6 cd6 ct6), sl6⟩) (c6 : PySem.W.codeIn K cd6 "_law_form" = true) (k6 : PySem.W.keepIn K (.ref f6) = true)
    (l7 : K.lookup f7 = some ⟨oc7, od7, .func (PySem.W.fnOf "_law_turned" "_law_turned" (defArgs s_L_turned_e82) (defBody s_L_turned_e82) (defScope s_L_turned_e82) .none kV7 dc7 pm7 an7 cd7 ct7), sl7⟩) (c7 : PySem.W.codeIn K cd7 "_law_turned" = true) (k7 : PySem.W.keepIn K (.ref f7) = true)
    (l8 : K.lookup f8 = some ⟨oc8, od8, .func (PySem.W.fnOf "_law_times" "_law_times" (defArgs s_L_times_593) (defBody s_L_times_593) (defScope s_L_times_593) .none kV8 dc8 pm8 an8 cd8 ct8), sl8⟩) (c8 : PySem.W.codeIn K cd8 "_law_times" = true) (k8 : PySem.W.keepIn K (.ref f8) = true)
    (l9 : K.lookup f9 = some ⟨oc9, od9, .func (PySem.W.fnOf "_law_pair" "_law_pair" (defArgs s_L_pair_3b9) (defBody s_L_pair_3b9) (defScope s_L_pair_3b9) .none kV9 dc9 pm9 an9 cd9 ct9), sl9⟩) (c9 : PySem.W.codeIn K cd9 "_law_pair" = true) (k9 : PySem.W.keepIn K (.ref f9) = true)
    (l10 : K.lookup f10 = some ⟨oc10, od10, .func (PySem.W.fnOf "_law_table" "_law_table" (defArgs s_L_table_9dd) (defBody s_L_table_9dd) (defScope s_L_table_9dd) .none kV10 dc10 pm10 an10 cd10 ct10), sl10⟩) (c10 : PySem.W.codeIn K cd10 "_law_table" = true) (k10 : PySem.W.keepIn K (.ref f10) = true)
    (l11 : K.lookup f11 = some ⟨oc11, od11, .func (PySem.W.fnOf "both_letters" "both_letters" (defArgs s_both_letters) (defBody s_both_letters) (defScope s_both_letters) .none kV11 dc11 pm11 an11 cd11 ct11), sl11⟩) (c11 : PySem.W.codeIn K cd11 "both_letters" = true) (k11 : PySem.W.keepIn K (.ref f11) = true)
    (l12 : K.lookup f12 = some ⟨oc12, od12, .func (PySem.W.fnOf "gathered" "gathered" (defArgs s_gathered) (defBody s_gathered) (defScope s_gathered) .none kV12 dc12 pm12 an12 cd12 ct12), sl12⟩) (c12 : PySem.W.codeIn K cd12 "gathered" = true) (k12 : PySem.W.keepIn K (.ref f12) = true)
    (l13 : K.lookup f13 = some ⟨oc13, od13, .func (PySem.W.fnOf "multiplied" "multiplied" (defArgs s_multiplied) (defBody s_multiplied) (defScope s_multiplied) .none kV13 dc13 pm13 an13 cd13 ct13), sl13⟩) (c13 : PySem.W.codeIn K cd13 "multiplied" = true) (k13 : PySem.W.keepIn K (.ref f13) = true)
    (l14 : K.lookup f14 = some ⟨oc14, od14, .func (PySem.W.fnOf "added" "added" (defArgs s_added) (defBody s_added) (defScope s_added) .none kV14 dc14 pm14 an14 cd14 ct14), sl14⟩) (c14 : PySem.W.codeIn K cd14 "added" = true) (k14 : PySem.W.keepIn K (.ref f14) = true)
    (l15 : K.lookup f15 = some ⟨oc15, od15, .func (PySem.W.fnOf "opposite" "opposite" (defArgs s_opposite) (defBody s_opposite) (defScope s_opposite) .none kV15 dc15 pm15 an15 cd15 ct15), sl15⟩) (c15 : PySem.W.codeIn K cd15 "opposite" = true) (k15 : PySem.W.keepIn K (.ref f15) = true)
    (l16 : K.lookup f16 = some ⟨oc16, od16, .func (PySem.W.fnOf "leads" "leads" (defArgs s_leads) (defBody s_leads) (defScope s_leads) .none kV16 dc16 pm16 an16 cd16 ct16), sl16⟩) (c16 : PySem.W.codeIn K cd16 "leads" = true) (k16 : PySem.W.keepIn K (.ref f16) = true)
    (l17 : K.lookup f17 = some ⟨oc17, od17, .func (PySem.W.fnOf "letters_of" "letters_of" (defArgs s_letters_of) (defBody s_letters_of) (defScope s_letters_of) .none kV17 dc17 pm17 an17 cd17 ct17), sl17⟩) (c17 : PySem.W.codeIn K cd17 "letters_of" = true) (k17 : PySem.W.keepIn K (.ref f17) = true)
    (l18 : K.lookup f18 = some ⟨oc18, od18, .func (PySem.W.fnOf "joined" "joined" (defArgs s_joined) (defBody s_joined) (defScope s_joined) .none kV18 dc18 pm18 an18 cd18 ct18), sl18⟩) (c18 : PySem.W.codeIn K cd18 "joined" = true) (k18 : PySem.W.keepIn K (.ref f18) = true)
    (l19 : K.lookup f19 = some ⟨oc19, od19, .func (PySem.W.fnOf "put_in" "put_in" (defArgs s_put_in) (defBody s_put_in) (defScope s_put_in) .none kV19 dc19 pm19 an19 cd19 ct19), sl19⟩) (c19 : PySem.W.codeIn K cd19 "put_in" = true) (k19 : PySem.W.keepIn K (.ref f19) = true)
    (l20 : K.lookup f20 = some ⟨oc20, od20, .func (PySem.W.fnOf "fixed_at" "fixed_at" (defArgs s_fixed_at) (defBody s_fixed_at) (defScope s_fixed_at) .none kV20 dc20 pm20 an20 cd20 ct20), sl20⟩) (c20 : PySem.W.codeIn K cd20 "fixed_at" = true) (k20 : PySem.W.keepIn K (.ref f20) = true)
    (l21 : K.lookup f21 = some ⟨oc21, od21, .func (PySem.W.fnOf "some_of" "some_of" (defArgs s_some_of) (defBody s_some_of) (defScope s_some_of) .none kV21 dc21 pm21 an21 cd21 ct21), sl21⟩) (c21 : PySem.W.codeIn K cd21 "some_of" = true) (k21 : PySem.W.keepIn K (.ref f21) = true)
    (l22 : K.lookup f22 = some ⟨oc22, od22, .func (PySem.W.fnOf "less" "less" (defArgs s_less) (defBody s_less) (defScope s_less) .none kV22 dc22 pm22 an22 cd22 ct22), sl22⟩) (c22 : PySem.W.codeIn K cd22 "less" = true) (k22 : PySem.W.keepIn K (.ref f22) = true)
    (l23 : K.lookup f23 = some ⟨oc23, od23, .func (PySem.W.fnOf "every_of" "every_of" (defArgs s_every_of) (defBody s_every_of) (defScope s_every_of) .none kV23 dc23 pm23 an23 cd23 ct23), sl23⟩) (c23 : PySem.W.codeIn K cd23 "every_of" = true) (k23 : PySem.W.keepIn K (.ref f23) = true)
    (l24 : K.lookup f24 = some ⟨oc24, od24, .func (PySem.W.fnOf "true_row" "true_row" (defArgs s_true_row) (defBody s_true_row) (defScope s_true_row) .none kV24 dc24 pm24 an24 cd24 ct24), sl24⟩) (c24 : PySem.W.codeIn K cd24 "true_row" = true) (k24 : PySem.W.keepIn K (.ref f24) = true)
    (l25 : K.lookup f25 = some ⟨oc25, od25, .func (PySem.W.fnOf "between" "between" (defArgs s_between) (defBody s_between) (defScope s_between) .none kV25 dc25 pm25 an25 cd25 ct25), sl25⟩) (c25 : PySem.W.codeIn K cd25 "between" = true) (k25 : PySem.W.keepIn K (.ref f25) = true)
    (l26 : K.lookup f26 = some ⟨oc26, od26, .func (PySem.W.fnOf "_law_in" "_law_in" (defArgs s_L_in_0a4) (defBody s_L_in_0a4) (defScope s_L_in_0a4) .none kV26 dc26 pm26 an26 cd26 ct26), sl26⟩) (c26 : PySem.W.codeIn K cd26 "_law_in" = true) (k26 : PySem.W.keepIn K (.ref f26) = true)
    (l27 : K.lookup f27 = some ⟨oc27, od27, .func (PySem.W.fnOf "_law_worth" "_law_worth" (defArgs s_L_worth_f41) (defBody s_L_worth_f41) (defScope s_L_worth_f41) .none kV27 dc27 pm27 an27 cd27 ct27), sl27⟩) (c27 : PySem.W.codeIn K cd27 "_law_worth" = true) (k27 : PySem.W.keepIn K (.ref f27) = true)
    (l28 : K.lookup f28 = some ⟨oc28, od28, .func (PySem.W.fnOf "_law_row_well" "_law_row_well" (defArgs s_L_row_well_e78) (defBody s_L_row_well_e78) (defScope s_L_row_well_e78) .none kV28 dc28 pm28 an28 cd28 ct28), sl28⟩) (c28 : PySem.W.codeIn K cd28 "_law_row_well" = true) (k28 : PySem.W.keepIn K (.ref f28) = true)
    (l29 : K.lookup f29 = some ⟨oc29, od29, .func (PySem.W.fnOf "_law_is_form" "_law_is_form" (defArgs s_L_is_form_f61) (defBody s_L_is_form_f61) (defScope s_L_is_form_f61) .none kV29 dc29 pm29 an29 cd29 ct29), sl29⟩) (c29 : PySem.W.codeIn K cd29 "_law_is_form" = true) (k29 : PySem.W.keepIn K (.ref f29) = true)
    (l30 : K.lookup f30 = some ⟨oc30, od30, .func (PySem.W.fnOf "_law_taken" "_law_taken" (defArgs s_L_taken_380) (defBody s_L_taken_380) (defScope s_L_taken_380) .none kV30 dc30 pm30 an30 cd30 ct30), sl30⟩) (c30 : PySem.W.codeIn K cd30 "_law_taken" = true) (k30 : PySem.W.keepIn K (.ref f30) = true)
    (l31 : K.lookup f31 = some ⟨oc31, od31, .func (PySem.W.fnOf "_law_way_right" "_law_way_right" (defArgs s_L_way_right_b5d) (defBody s_L_way_right_b5d) (defScope s_L_way_right_b5d) .none kV31 dc31 pm31 an31 cd31 ct31), sl31⟩) (c31 : PySem.W.codeIn K cd31 "_law_way_right" = true) (k31 : PySem.W.keepIn K (.ref f31) = true)
    (l32 : K.lookup f32 = some ⟨oc32, od32, .func (PySem.W.fnOf "law" "law" (defArgs s_law) (defBody s_law) (defScope s_law) .none kV32 dc32 pm32 an32 cd32 ct32), sl32⟩) (c32 : PySem.W.codeIn K cd32 "law" = true) (k32 : PySem.W.keepIn K (.ref f32) = true)
    (z_all : PySem.W.nsIn K mainGlobals "all" = some none)
    (z_bool : PySem.W.nsIn K mainGlobals "bool" = some none)
    (z_dict : PySem.W.nsIn K mainGlobals "dict" = some none)
    (z_int : PySem.W.nsIn K mainGlobals "int" = some none)
    (z_isinstance : PySem.W.nsIn K mainGlobals "isinstance" = some none)
    (z_len : PySem.W.nsIn K mainGlobals "len" = some none)
    (z_list : PySem.W.nsIn K mainGlobals "list" = some none)
    (z_range : PySem.W.nsIn K mainGlobals "range" = some none)
    (z_reversed : PySem.W.nsIn K mainGlobals "reversed" = some none)
    (z_set : PySem.W.nsIn K mainGlobals "set" = some none)
    (z_sorted : PySem.W.nsIn K mainGlobals "sorted" = some none)
    (z_str : PySem.W.nsIn K mainGlobals "str" = some none)
    (z_sum : PySem.W.nsIn K mainGlobals "sum" = some none)
    (z_tuple : PySem.W.nsIn K mainGlobals "tuple" = some none)
    (z_zip : PySem.W.nsIn K mainGlobals "zip" = some none)
    (a_ALWAYS : PySem.W.nsIn K mainGlobals "ALWAYS" = some (some (.ref A_ALWAYS))) (l_ALWAYS : K.lookup A_ALWAYS = some ⟨.type "tuple", oo_ALWAYS, .seq #[.str "" t0_ALWAYS] n_ALWAYS, sl_ALWAYS⟩)
    (a_NEVER : PySem.W.nsIn K mainGlobals "NEVER" = some (some (.ref A_NEVER))) (l_NEVER : K.lookup A_NEVER = some ⟨.type "tuple", oo_NEVER, .seq #[] n_NEVER, sl_NEVER⟩) :
    ∃ fd : FuncData, (∀ (s : Shared) (v : Value), BindsTo s fd ⟨[v], []⟩ [("_law_script", v)]) ∧ ∀ base : Heap, K.In base → base.Ns mainGlobals mg → FnOk l.prog w K mg base CX0 8 fa fd ["_law_script"] (spD K spLaw) := by
  have e := hfa.symm.trans (PySem.W.mg_of X G a32)
  cases e
  have F1 := fun_mk (st := s_L_stir_d34) l1 c1 k1
  have b1 := F1.binds (ps := ["_law_cell_here", "_law_k"]) fun _ _ _ _ _ _ us hl => match us, hl with | [_, _], _ => rfl
  have F2 := fun_mk (st := s_L_cell_808) l2 c2 k2
  have b2 := F2.binds (ps := ["_law_script", "_law_k"]) fun _ _ _ _ _ _ us hl => match us, hl with | [_, _], _ => rfl
  have F3 := fun_mk (st := s_L_letters_1c0) l3 c3 k3
  have b3 := F3.binds (ps := ["_law_head"]) fun _ _ _ _ _ _ us hl => match us, hl with | [_], _ => rfl
  have F4 := fun_mk (st := s_L_parts_bdf) l4 c4 k4
  have b4 := F4.binds (ps := ["_law_letters_here", "_law_numbers_here"]) fun _ _ _ _ _ _ us hl => match us, hl with | [_, _], _ => rfl
  have F5 := fun_mk (st := s_L_numbers_81e) l5 c5 k5
  have b5 := F5.binds (ps := ["_law_cell_here", "_law_at", "_law_many"]) fun _ _ _ _ _ _ us hl => match us, hl with | [_, _, _], _ => rfl
  have F6 := fun_mk (st := s_L_form_898) l6 c6 k6
  have b6 := F6.binds (ps := ["_law_numbers_here", "_law_letters_here"]) fun _ _ _ _ _ _ us hl => match us, hl with | [_, _], _ => rfl
  have F7 := fun_mk (st := s_L_turned_e82) l7 c7 k7
  have b7 := F7.binds (ps := ["_law_products"]) fun _ _ _ _ _ _ us hl => match us, hl with | [_], _ => rfl
  have F8 := fun_mk (st := s_L_times_593) l8 c8 k8
  have b8 := F8.binds (ps := ["_law_one", "_law_other"]) fun _ _ _ _ _ _ us hl => match us, hl with | [_, _], _ => rfl
  have F9 := fun_mk (st := s_L_pair_3b9) l9 c9 k9
  have b9 := F9.binds (ps := ["_law_script", "_law_letters_here", "_law_head"]) fun _ _ _ _ _ _ us hl => match us, hl with | [_, _, _], _ => rfl
  have F10 := fun_mk (st := s_L_table_9dd) l10 c10 k10
  have b10 := F10.binds (ps := ["_law_form_here", "_law_letters_here"]) fun _ _ _ _ _ _ us hl => match us, hl with | [_, _], _ => rfl
  have F11 := fun_mk (st := s_both_letters) l11 c11 k11
  have b11 := F11.binds (ps := ["one", "other"]) fun _ _ _ _ _ _ us hl => match us, hl with | [_, _], _ => rfl
  have F12 := fun_mk (st := s_gathered) l12 c12 k12
  have b12 := F12.binds (ps := ["products"]) fun _ _ _ _ _ _ us hl => match us, hl with | [_], _ => rfl
  have F13 := fun_mk (st := s_multiplied) l13 c13 k13
  have b13 := F13.binds (ps := ["one", "other"]) fun _ _ _ _ _ _ us hl => match us, hl with | [_, _], _ => rfl
  have F14 := fun_mk (st := s_added) l14 c14 k14
  have b14 := F14.binds (ps := ["one", "other"]) fun _ _ _ _ _ _ us hl => match us, hl with | [_, _], _ => rfl
  have F15 := fun_mk (st := s_opposite) l15 c15 k15
  have b15 := F15.binds (ps := ["form"]) fun _ _ _ _ _ _ us hl => match us, hl with | [_], _ => rfl
  have F16 := fun_mk (st := s_leads) l16 c16 k16
  have b16 := F16.binds (ps := ["one", "other"]) fun _ _ _ _ _ _ us hl => match us, hl with | [_, _], _ => rfl
  have F17 := fun_mk (st := s_letters_of) l17 c17 k17
  have b17 := F17.binds (ps := ["form"]) fun _ _ _ _ _ _ us hl => match us, hl with | [_], _ => rfl
  have F18 := fun_mk (st := s_joined) l18 c18 k18
  have b18 := F18.binds (ps := ["one", "other"]) fun _ _ _ _ _ _ us hl => match us, hl with | [_, _], _ => rfl
  have F19 := fun_mk (st := s_put_in) l19 c19 k19
  have b19 := F19.binds (ps := ["form", "forms"]) fun _ _ _ _ _ _ us hl => match us, hl with | [_, _], _ => rfl
  have F20 := fun_mk (st := s_fixed_at) l20 c20 k20
  have b20 := F20.binds (ps := ["form", "letter", "truth"]) fun _ _ _ _ _ _ us hl => match us, hl with | [_, _, _], _ => rfl
  have F21 := fun_mk (st := s_some_of) l21 c21 k21
  have b21 := F21.binds (ps := ["form", "letters"]) fun _ _ _ _ _ _ us hl => match us, hl with | [_, _], _ => rfl
  have F22 := fun_mk (st := s_less) l22 c22 k22
  have b22 := F22.binds (ps := ["letters", "others"]) fun _ _ _ _ _ _ us hl => match us, hl with | [_, _], _ => rfl
  have F23 := fun_mk (st := s_every_of) l23 c23 k23
  have b23 := F23.binds (ps := ["form", "letters"]) fun _ _ _ _ _ _ us hl => match us, hl with | [_, _], _ => rfl
  have F24 := fun_mk (st := s_true_row) l24 c24 k24
  have b24 := F24.binds (ps := ["form", "letters"]) fun _ _ _ _ _ _ us hl => match us, hl with | [_, _], _ => rfl
  have F25 := fun_mk (st := s_between) l25 c25 k25
  have b25 := F25.binds (ps := ["one", "other"]) fun _ _ _ _ _ _ us hl => match us, hl with | [_, _], _ => rfl
  have F26 := fun_mk (st := s_L_in_0a4) l26 c26 k26
  have b26 := F26.binds (ps := ["_law_form_here"]) fun _ _ _ _ _ _ us hl => match us, hl with | [_], _ => rfl
  have F27 := fun_mk (st := s_L_worth_f41) l27 c27 k27
  have b27 := F27.binds (ps := ["_law_form_here", "_law_row"]) fun _ _ _ _ _ _ us hl => match us, hl with | [_, _], _ => rfl
  have F28 := fun_mk (st := s_L_row_well_e78) l28 c28 k28
  have b28 := F28.binds (ps := ["_law_one", "_law_other", "_law_found"]) fun _ _ _ _ _ _ us hl => match us, hl with | [_, _, _], _ => rfl
  have F29 := fun_mk (st := s_L_is_form_f61) l29 c29 k29
  have b29 := F29.binds (ps := ["_law_found", "_law_letters_here"]) fun _ _ _ _ _ _ us hl => match us, hl with | [_, _], _ => rfl
  have F30 := fun_mk (st := s_L_taken_380) l30 c30 k30
  have b30 := F30.binds (ps := ["_law_table_here", "_law_letters_here", "_law_gone", "_law_some"]) fun _ _ _ _ _ _ us hl => match us, hl with | [_, _, _, _], _ => rfl
  have F31 := fun_mk (st := s_L_way_right_b5d) l31 c31 k31
  have b31 := F31.binds (ps := ["_law_one", "_law_other", "_law_here", "_law_there", "_law_letters_here"]) fun _ _ _ _ _ _ us hl => match us, hl with | [_, _, _, _, _], _ => rfl
  have F32 := fun_mk (st := s_law) l32 c32 k32
  have m_all := PySem.W.mg_none_of X G z_all
  have m_bool := PySem.W.mg_none_of X G z_bool
  have m_dict := PySem.W.mg_none_of X G z_dict
  have m_int := PySem.W.mg_none_of X G z_int
  have m_isinstance := PySem.W.mg_none_of X G z_isinstance
  have m_len := PySem.W.mg_none_of X G z_len
  have m_list := PySem.W.mg_none_of X G z_list
  have m_range := PySem.W.mg_none_of X G z_range
  have m_reversed := PySem.W.mg_none_of X G z_reversed
  have m_set := PySem.W.mg_none_of X G z_set
  have m_sorted := PySem.W.mg_none_of X G z_sorted
  have m_str := PySem.W.mg_none_of X G z_str
  have m_sum := PySem.W.mg_none_of X G z_sum
  have m_tuple := PySem.W.mg_none_of X G z_tuple
  have m_zip := PySem.W.mg_none_of X G z_zip
  have gr_ALWAYS : ∀ F, Rep K F gD_ALWAYS (.ref A_ALWAYS) := fun F => ⟨A_ALWAYS, [.str ""], rfl, .inr ⟨_, _, _, l_ALWAYS, rfl, rfl, (by show 1 ≤ sizeLine; decide), (.cons ⟨_, rfl⟩ .nil)⟩, ⟨_, _, rfl, rfl, rfl⟩⟩
  have gr_NEVER : ∀ F, Rep K F gD_NEVER (.ref A_NEVER) := fun F => ⟨A_NEVER, [], rfl, .inr ⟨_, _, _, l_NEVER, rfl, rfl, (by show 0 ≤ sizeLine; decide), .nil⟩, rfl⟩
  refine ⟨(PySem.W.fnOf "law" "law" (defArgs s_law) (defBody s_law) (defScope s_law) .none kV32 dc32 pm32 an32 cd32 ct32), fun s v => .of_eq rfl, fun base _ _ => ?_⟩
  have R1 := ok_L_stir_d34 (P := l.prog) (w := w) (mg := mg) (base := base) F1 
  have R2 := ok_L_cell_808 (P := l.prog) (w := w) (mg := mg) (base := base) F2 m_len
  have R3 := ok_L_letters_1c0 (P := l.prog) (w := w) (mg := mg) (base := base) F3 m_len m_list m_range
  have R4 := ok_L_parts_bdf (P := l.prog) (w := w) (mg := mg) (base := base) F4 m_zip
  have R5 := ok_L_numbers_81e (P := l.prog) (w := w) (mg := mg) (base := base) F5 R1 b1 k1 (PySem.W.mg_of X G a1) m_range
  have R6 := ok_L_form_898 (P := l.prog) (w := w) (mg := mg) (base := base) F6 m_sorted m_tuple
  have R7 := ok_L_turned_e82 (P := l.prog) (w := w) (mg := mg) (base := base) F7 m_sorted m_tuple
  have R8 := ok_L_times_593 (P := l.prog) (w := w) (mg := mg) (base := base) F8 R7 b7 k7 (PySem.W.mg_of X G a7) m_set m_sorted
  have R9 := ok_L_pair_3b9 (P := l.prog) (w := w) (mg := mg) (base := base) F9 R4 b4 k4 (PySem.W.mg_of X G a4) R5 b5 k5 (PySem.W.mg_of X G a5) R2 b2 k2 (PySem.W.mg_of X G a2) R6 b6 k6 (PySem.W.mg_of X G a6) R8 b8 k8 (PySem.W.mg_of X G a8) R7 b7 k7 (PySem.W.mg_of X G a7) m_int m_list m_range m_sorted
  have R10 := ok_L_table_9dd (P := l.prog) (w := w) (mg := mg) (base := base) F10 m_range m_reversed m_sum
  have R11 := ok_both_letters (P := l.prog) (w := w) (mg := mg) (base := base) F11 m_set m_sorted
  have R12 := ok_gathered (P := l.prog) (w := w) (mg := mg) (base := base) F12 m_sorted m_tuple
  have R13 := ok_multiplied (P := l.prog) (w := w) (mg := mg) (base := base) F13 R11 b11 k11 (PySem.W.mg_of X G a11) R12 b12 k12 (PySem.W.mg_of X G a12)
  have R14 := ok_added (P := l.prog) (w := w) (mg := mg) (base := base) F14 R12 b12 k12 (PySem.W.mg_of X G a12) m_list
  have R15 := ok_opposite (P := l.prog) (w := w) (mg := mg) (base := base) F15 R14 b14 k14 (PySem.W.mg_of X G a14)
  have R16 := ok_leads (P := l.prog) (w := w) (mg := mg) (base := base) F16 R13 b13 k13 (PySem.W.mg_of X G a13) R15 b15 k15 (PySem.W.mg_of X G a15)
  have R17 := ok_letters_of (P := l.prog) (w := w) (mg := mg) (base := base) F17 m_set m_sorted
  have R18 := ok_joined (P := l.prog) (w := w) (mg := mg) (base := base) F18 R14 b14 k14 (PySem.W.mg_of X G a14) R13 b13 k13 (PySem.W.mg_of X G a13)
  have R19 := ok_put_in (P := l.prog) (w := w) (mg := mg) (base := base) F19 R13 b13 k13 (PySem.W.mg_of X G a13) R14 b14 k14 (PySem.W.mg_of X G a14) (PySem.W.mg_of X G a_ALWAYS) gr_ALWAYS (PySem.W.mg_of X G a_NEVER) gr_NEVER
  have R20 := ok_fixed_at (P := l.prog) (w := w) (mg := mg) (base := base) F20 R19 b19 k19 (PySem.W.mg_of X G a19) (PySem.W.mg_of X G a_ALWAYS) gr_ALWAYS (PySem.W.mg_of X G a_NEVER) gr_NEVER
  have R21 := ok_some_of (P := l.prog) (w := w) (mg := mg) (base := base) F21 R18 b18 k18 (PySem.W.mg_of X G a18) R20 b20 k20 (PySem.W.mg_of X G a20)
  have R22 := ok_less (P := l.prog) (w := w) (mg := mg) (base := base) F22 
  have R23 := ok_every_of (P := l.prog) (w := w) (mg := mg) (base := base) F23 R13 b13 k13 (PySem.W.mg_of X G a13) R20 b20 k20 (PySem.W.mg_of X G a20)
  have R24 := ok_true_row (P := l.prog) (w := w) (mg := mg) (base := base) F24 R20 b20 k20 (PySem.W.mg_of X G a20)
  have R25 := ok_between (P := l.prog) (w := w) (mg := mg) (base := base) F25 R17 b17 k17 (PySem.W.mg_of X G a17) R16 b16 k16 (PySem.W.mg_of X G a16) R21 b21 k21 (PySem.W.mg_of X G a21) R22 b22 k22 (PySem.W.mg_of X G a22) R23 b23 k23 (PySem.W.mg_of X G a23) R24 b24 k24 (PySem.W.mg_of X G a24) R13 b13 k13 (PySem.W.mg_of X G a13) R15 b15 k15 (PySem.W.mg_of X G a15) m_set m_sorted
  have R26 := ok_L_in_0a4 (P := l.prog) (w := w) (mg := mg) (base := base) F26 
  have R27 := ok_L_worth_f41 (P := l.prog) (w := w) (mg := mg) (base := base) F27 m_all m_len
  have R28 := ok_L_row_well_e78 (P := l.prog) (w := w) (mg := mg) (base := base) F28 R26 b26 k26 (PySem.W.mg_of X G a26) R27 b27 k27 (PySem.W.mg_of X G a27) m_all m_bool m_dict m_isinstance m_len m_sorted m_tuple
  have R29 := ok_L_is_form_f61 (P := l.prog) (w := w) (mg := mg) (base := base) F29 m_all m_isinstance m_list m_set m_sorted m_str m_tuple
  have R30 := ok_L_taken_380 (P := l.prog) (w := w) (mg := mg) (base := base) F30 m_len m_list m_range
  have R31 := ok_L_way_right_b5d (P := l.prog) (w := w) (mg := mg) (base := base) F31 R16 b16 k16 (PySem.W.mg_of X G a16) R25 b25 k25 (PySem.W.mg_of X G a25) R28 b28 k28 (PySem.W.mg_of X G a28) R26 b26 k26 (PySem.W.mg_of X G a26) R29 b29 k29 (PySem.W.mg_of X G a29) R30 b30 k30 (PySem.W.mg_of X G a30) R10 b10 k10 (PySem.W.mg_of X G a10) m_all m_bool m_isinstance m_len m_tuple m_zip
  have R32 := ok_law (P := l.prog) (w := w) (mg := mg) (base := base) F32 R1 b1 k1 (PySem.W.mg_of X G a1) R2 b2 k2 (PySem.W.mg_of X G a2) R3 b3 k3 (PySem.W.mg_of X G a3) R9 b9 k9 (PySem.W.mg_of X G a9) R10 b10 k10 (PySem.W.mg_of X G a10) R31 b31 k31 (PySem.W.mg_of X G a31)
  exact R32
theorem walk {l : PySem.W.OpenLaw} {q : Program} {loose : List Str} {XP : (Str → Option Value) → Heap → Prop} {YP : World → Heap → Prop} {d : DefRec} {K : Params → PySem.W.Frag} (hn : l.most = some 63) (hdf : d.params.defaults = [])
    (hY : ∀ (w : World) (h : Heap), YP w h → (K w.params).In h)
    (F : ∀ (w : World) (mg : Str → Option Value) (fa : Addr) (h : Heap), (K w.params).In h → h.Ns mainGlobals mg → mg d.name = some (.ref fa) →
      ∃ fd : FuncData, (∀ (s : Shared) (u : Value), BindsTo s fd ⟨[u], []⟩ [("_law_script", u)]) ∧ ∀ base : Heap, (K w.params).In base → base.Ns mainGlobals mg → FnOk l.prog w (K w.params) mg base CX0 8 fa fd ["_law_script"] (spD (K w.params) spLaw)) :
    PySem.W.WalkO q loose XP YP l.row.toRowW d [] (fun f vs => PySem.call f vs) :=
  L2.walk_ofB (n := 63) (k := 8) (x := "_law_script") (CX := fun _ => CX0) (sp := fun w => spD (K w.params) spLaw) hn (by decide) hdf ⟨rfl, by decide, by decide⟩ hY F (fun w H a ns hl hb _ hS => spLaw_at hl hb hS) fun _ _ _ _ _ z => z
end DL
open PySem PySem.W PyProof.Rows
set_option maxRecDepth 100000 in
set_option maxHeartbeats 0 in
theorem PySem.Challenge.cw_fillsay_k88_whole_between_great_forms_holds : PySem.Challenge.rw_fillsay_k88_whole_between_great_forms.Holds := by
  w_on; o_law; k_head; (case hw => w_witness2)
  k_fill
  refine DL.walk (l := PySem.Challenge.rw_fillsay_k88_whole_between_great_forms) rfl rfl (fun w h Y => PySem.W.kIn_of Y) ?F
  case F =>
    intro w mg fa h KX G hmg
    refine' DL.all_mk KX G hmg ?a1 ?a2 ?a3 ?a4 ?a5 ?a6 ?a7 ?a8 ?a9 ?a10 ?a11 ?a12 ?a13 ?a14 ?a15 ?a16 ?a17 ?a18 ?a19 ?a20 ?a21 ?a22 ?a23 ?a24 ?a25 ?a26 ?a27 ?a28 ?a29 ?a30 ?a31 ?a32 ?l1 ?c1 ?k1 ?l2 ?c2 ?k2 ?l3 ?c3 ?k3 ?l4 ?c4 ?k4 ?l5 ?c5 ?k5 ?l6 ?c6 ?k6 ?l7 ?c7 ?k7 ?l8 ?c8 ?k8 ?l9 ?c9 ?k9 ?l10 ?c10 ?k10 ?l11 ?c11 ?k11 ?l12 ?c12 ?k12 ?l13 ?c13 ?k13 ?l14 ?c14 ?k14 ?l15 ?c15 ?k15 ?l16 ?c16 ?k16 ?l17 ?c17 ?k17 ?l18 ?c18 ?k18 ?l19 ?c19 ?k19 ?l20 ?c20 ?k20 ?l21 ?c21 ?k21 ?l22 ?c22 ?k22 ?l23 ?c23 ?k23 ?l24 ?c24 ?k24 ?l25 ?c25 ?k25 ?l26 ?c26 ?k26 ?l27 ?c27 ?k27 ?l28 ?c28 ?k28 ?l29 ?c29 ?k29 ?l30 ?c30 ?k30 ?l31 ?c31 ?k31 ?l32 ?c32 ?k32 ?z_all ?z_bool ?z_dict ?z_int ?z_isinstance ?z_len ?z_list ?z_range ?z_reversed ?z_set ?z_sorted ?z_str ?z_sum ?z_tuple ?z_zip ?a_ALWAYS ?l_ALWAYS ?a_NEVER ?l_NEVER
    (case a1 => k_is)
    (case a2 => k_is)
    (case a3 => k_is)
    (case a4 => k_is)
    (case a5 => k_is)
    (case a6 => k_is)
    (case a7 => k_is)
    (case a8 => k_is)
    (case a9 => k_is)
    (case a10 => k_is)
    (case a11 => k_is)
    (case a12 => k_is)
    (case a13 => k_is)
    (case a14 => k_is)
    (case a15 => k_is)
    (case a16 => k_is)
    (case a17 => k_is)
    (case a18 => k_is)
    (case a19 => k_is)
    (case a20 => k_is)
    (case a21 => k_is)
    (case a22 => k_is)
    (case a23 => k_is)
    (case a24 => k_is)
    (case a25 => k_is)
    (case a26 => k_is)
    (case a27 => k_is)
    (case a28 => k_is)
    (case a29 => k_is)
    (case a30 => k_is)
    (case a31 => k_is)
    (case a32 => k_is)
    (case l1 => k_is)
    (case c1 => k_is)
    (case k1 => k_is)
    (case l2 => k_is)
    (case c2 => k_is)
    (case k2 => k_is)
    (case l3 => k_is)
    (case c3 => k_is)
    (case k3 => k_is)
    (case l4 => k_is)
    (case c4 => k_is)
    (case k4 => k_is)
    (case l5 => k_is)
    (case c5 => k_is)
    (case k5 => k_is)
    (case l6 => k_is)
    (case c6 => k_is)
    (case k6 => k_is)
    (case l7 => k_is)
    (case c7 => k_is)
    (case k7 => k_is)
    (case l8 => k_is)
    (case c8 => k_is)
    (case k8 => k_is)
    (case l9 => k_is)
    (case c9 => k_is)
    (case k9 => k_is)
    (case l10 => k_is)
    (case c10 => k_is)
    (case k10 => k_is)
    (case l11 => k_is)
    (case c11 => k_is)
    (case k11 => k_is)
    (case l12 => k_is)
    (case c12 => k_is)
    (case k12 => k_is)
    (case l13 => k_is)
    (case c13 => k_is)
    (case k13 => k_is)
    (case l14 => k_is)
    (case c14 => k_is)
    (case k14 => k_is)
    (case l15 => k_is)
    (case c15 => k_is)
    (case k15 => k_is)
    (case l16 => k_is)
    (case c16 => k_is)
    (case k16 => k_is)
    (case l17 => k_is)
    (case c17 => k_is)
    (case k17 => k_is)
    (case l18 => k_is)
    (case c18 => k_is)
    (case k18 => k_is)
    (case l19 => k_is)
    (case c19 => k_is)
    (case k19 => k_is)
    (case l20 => k_is)
    (case c20 => k_is)
    (case k20 => k_is)
    (case l21 => k_is)
    (case c21 => k_is)
    (case k21 => k_is)
    (case l22 => k_is)
    (case c22 => k_is)
    (case k22 => k_is)
    (case l23 => k_is)
    (case c23 => k_is)
    (case k23 => k_is)
    (case l24 => k_is)
    (case c24 => k_is)
    (case k24 => k_is)
    (case l25 => k_is)
    (case c25 => k_is)
    (case k25 => k_is)
    (case l26 => k_is)
    (case c26 => k_is)
    (case k26 => k_is)
    (case l27 => k_is)
    (case c27 => k_is)
    (case k27 => k_is)
    (case l28 => k_is)
    (case c28 => k_is)
    (case k28 => k_is)
    (case l29 => k_is)
    (case c29 => k_is)
    (case k29 => k_is)
    (case l30 => k_is)
    (case c30 => k_is)
    (case k30 => k_is)
    (case l31 => k_is)
    (case c31 => k_is)
    (case k31 => k_is)
    (case l32 => k_is)
    (case c32 => k_is)
    (case k32 => k_is)
    (case z_all => k_is)
    (case z_bool => k_is)
    (case z_dict => k_is)
    (case z_int => k_is)
    (case z_isinstance => k_is)
    (case z_len => k_is)
    (case z_list => k_is)
    (case z_range => k_is)
    (case z_reversed => k_is)
    (case z_set => k_is)
    (case z_sorted => k_is)
    (case z_str => k_is)
    (case z_sum => k_is)
    (case z_tuple => k_is)
    (case z_zip => k_is)
    (case a_ALWAYS => k_is)
    (case l_ALWAYS => k_is)
    (case a_NEVER => k_is)
    (case l_NEVER => k_is)
