import PyProof.Rows.All
import Wide.All
import OpenK.AllK
import Wide.FinOn
import HandS.ForMost
import HandS.Exc
import HandS.TryOnly
import HandS.ExcOwn
import HandS.WordsExc
import HandS.EndBits
import HandS.Wide
import HandS.Set
import HandS.SetFor
import HandS.Strs
import PyProof.StrWalks
import PyProof.WalksMore
import HandS.More
import KE.KDictList
import KE.KDictSum
import PyProof.Rows.SortShellAny
import HandS.TupAny
import HandS.DeepEq
import PyProof.ListStr
import HandS.DictComp
import HandS.IsInst
import KE.GoesMore
import PyProof.EnumMake
import HandS.Rev
import HandS.TupLe
import HandS.WideBits
import PyProof.CollectStr
import KE.GoesEnum
import HandS.New
import HandS.StrMore
import HandS.ListItems
import HandS.Conv
import KE.KDictZip
import HandS.Replace
import HandS.Style
import HandS.SortRule
import PySem.Challenge.RW_fillsay_k33_fault_of_wishes
set_option Elab.async false
set_option linter.all false
set_option maxRecDepth 100000
namespace DL
open PySem L2
inductive D where
  | non | bl (b : Bool) | int (i : Int) | str (x : Str) | ref (a : Addr) | ty (n : String)
  | cel (ns : List Int) | lst (xs : List D) | tup (xs : List D) | dic (ks : List Key) (xs : List D) | ins (N : Str) (ns : List Str) (xs : List D)
mutual
def Rep (K : PySem.W.Frag) (F : Hp) : D → V → Prop
  | .non, v => v = .non
  | .bl b, v => v = .bl b
  | .int i, v => v = .int i
  | .str x, v => v = .str x
  | .ref a, v => v = .ref a
  | .ty n, v => v = .ty n
  | .cel ns, v => ∃ a, v = .ref a ∧ SqL K F a (ns.map V.int)
  | .lst xs, v => ∃ a vs, v = .ref a ∧ F a = some (.lst vs) ∧ Reps K F xs vs
  | .tup xs, v => ∃ a vs, v = .ref a ∧ SqT K F a vs ∧ Reps K F xs vs
  | .dic ks xs, v => ∃ a vs, v = .ref a ∧ Rd F a (.dK (ks.zip vs)) ∧ ks.length = vs.length ∧ Reps K F xs vs
  | .ins N ns xs, v => ∃ a C dx vs, v = .ref a ∧ PySem.W.nsIn K mainGlobals N = some (some (.ref C)) ∧ F a = some (.ins C dx (ns.zip vs)) ∧ ns.length = vs.length ∧ Reps K F xs vs
def Reps (K : PySem.W.Frag) (F : Hp) : List D → List V → Prop
  | [], vs => vs = []
  | x :: xs, vs => ∃ v r, vs = v :: r ∧ Rep K F x v ∧ Reps K F xs r
end
section
variable {K : PySem.W.Frag} {F F' H H' : Hp}
theorem Same.rd {a : Addr} {o : HO} (e : Same F F') (h : Rd F a o) : Rd F' a o := by
  rcases h with h | ⟨o', h⟩
  · exact .inl (e _ _ h)
  · exact .inr ⟨o', e _ _ h⟩
theorem Same.sqT {a : Addr} {xs : List V} (e : Same F F') (h : SqT K F a xs) : SqT K F' a xs := by
  rcases h with (h | ⟨o, h⟩) | h
  · exact .inl (.inl (e _ _ h))
  · exact .inl (.inr ⟨o, e _ _ h⟩)
  · exact .inr h
mutual
theorem Rep.mono (e : Same F F') : ∀ (d : D) (v : V), Rep K F d v → Rep K F' d v
  | .non, _, h => h
  | .bl _, _, h => h
  | .int _, _, h => h
  | .str _, _, h => h
  | .ref _, _, h => h
  | .ty _, _, h => h
  | .cel ns, _, h => by
    obtain ⟨a, e1, h1⟩ := h
    exact ⟨a, e1, e.seq h1⟩
  | .lst xs, _, h => by
    obtain ⟨a, vs, e1, h1, h2⟩ := h
    exact ⟨a, vs, e1, e _ _ h1, Reps.mono e xs vs h2⟩
  | .tup xs, _, h => by
    obtain ⟨a, vs, e1, h1, h2⟩ := h
    exact ⟨a, vs, e1, Same.sqT e h1, Reps.mono e xs vs h2⟩
  | .dic ks xs, _, h => by
    obtain ⟨a, vs, e1, h1, l, h2⟩ := h
    exact ⟨a, vs, e1, Same.rd e h1, l, Reps.mono e xs vs h2⟩
  | .ins C ns xs, _, h => by
    obtain ⟨a, C, dx, vs, e1, g, h1, l, h2⟩ := h
    exact ⟨a, C, dx, vs, e1, g, e _ _ h1, l, Reps.mono e xs vs h2⟩
theorem Reps.mono (e : Same F F') : ∀ (ds : List D) (vs : List V), Reps K F ds vs → Reps K F' ds vs
  | [], _, h => h
  | x :: xs, _, h => by
    obtain ⟨v, r, e1, h1, h2⟩ := h
    exact ⟨v, r, e1, Rep.mono e x v h1, Reps.mono e xs r h2⟩
end
theorem Reps.len : ∀ {ds : List D} {vs : List V}, Reps K F ds vs → vs.length = ds.length
  | [], _, h => by cases h; rfl
  | x :: xs, _, h => by
    obtain ⟨v, r, e1, h1, h2⟩ := h
    subst e1
    exact congrArg Nat.succ (Reps.len h2)
theorem Reps.app : ∀ {ds es : List D} {vs us : List V}, Reps K F ds vs → Reps K F es us → Reps K F (ds ++ es) (vs ++ us)
  | [], _, _, _, h, g => by cases h; exact g
  | x :: xs, _, _, _, h, g => by
    obtain ⟨v, r, e1, h1, h2⟩ := h
    subst e1
    exact ⟨v, r ++ _, rfl, h1, Reps.app h2 g⟩
theorem Reps.one {d : D} {v : V} (h : Rep K F d v) : Reps K F [d] [v] := ⟨v, [], rfl, h, rfl⟩
theorem Reps.get : ∀ {ds : List D} {vs : List V} {i : Nat} {d : D}, Reps K F ds vs → ds[i]? = some d → ∃ v, vs[i]? = some v ∧ Rep K F d v
  | [], _, _, _, _, e => by simp at e
  | x :: xs, _, 0, d, h, e => by
    obtain ⟨v, r, e1, h1, h2⟩ := h
    subst e1
    simp at e; subst e
    exact ⟨v, rfl, h1⟩
  | x :: xs, _, i + 1, d, h, e => by
    obtain ⟨v, r, e1, h1, h2⟩ := h
    subst e1
    obtain ⟨u, q, z⟩ := Reps.get (i := i) (d := d) h2 (by simpa using e)
    exact ⟨u, by simpa using q, z⟩
theorem Reps.get' : ∀ {ds : List D} {vs : List V} {i : Nat} {v : V}, Reps K F ds vs → vs[i]? = some v → ∃ d, ds[i]? = some d ∧ Rep K F d v := by
  intro ds vs i v h e
  have hi : i < ds.length := by rw [← h.len]; exact (List.getElem?_eq_some_iff.mp e).1
  obtain ⟨u, q, z⟩ := h.get (List.getElem?_eq_getElem hi)
  rw [e] at q; cases q
  exact ⟨_, List.getElem?_eq_getElem hi, z⟩
theorem Reps.take : ∀ {ds : List D} {vs : List V} (n : Nat), Reps K F ds vs → Reps K F (ds.take n) (vs.take n)
  | _, _, 0, _ => rfl
  | [], _, _ + 1, h => by cases h; exact rfl
  | x :: xs, _, n + 1, h => by
    obtain ⟨v, r, e1, h1, h2⟩ := h
    subst e1
    exact ⟨v, r.take n, rfl, h1, Reps.take n h2⟩
theorem Reps.drop : ∀ {ds : List D} {vs : List V} (n : Nat), Reps K F ds vs → Reps K F (ds.drop n) (vs.drop n)
  | _, _, 0, h => h
  | [], _, _ + 1, h => by cases h; exact rfl
  | x :: xs, _, n + 1, h => by
    obtain ⟨v, r, e1, h1, h2⟩ := h
    subst e1
    exact Reps.drop n h2
theorem Reps.set : ∀ {ds : List D} {vs : List V} (i : Nat) {d : D} {v : V}, Reps K F ds vs → Rep K F d v → Reps K F (ds.set i d) (vs.set i v)
  | [], _, _, _, _, h, _ => by cases h; exact rfl
  | x :: xs, _, 0, d, v, h, z => by
    obtain ⟨u, r, e1, h1, h2⟩ := h
    subst e1
    exact ⟨v, r, rfl, z, h2⟩
  | x :: xs, _, i + 1, d, v, h, z => by
    obtain ⟨u, r, e1, h1, h2⟩ := h
    subst e1
    exact ⟨u, r.set i v, rfl, h1, Reps.set i h2 z⟩
theorem Reps.ints : ∀ {ns : List Int} {vs : List V}, Reps K F (ns.map D.int) vs ↔ vs = ns.map V.int
  | [], _ => Iff.rfl
  | n :: ns, vs => by
    constructor
    · rintro ⟨v, r, e1, h1, h2⟩
      rw [e1, show v = V.int n from h1, Reps.ints.mp h2]; rfl
    · intro e
      exact ⟨.int n, ns.map V.int, e, rfl, Reps.ints.mpr rfl⟩
theorem Reps.strs : ∀ {ns : List Str} {vs : List V}, Reps K F (ns.map D.str) vs ↔ vs = ns.map V.str
  | [], _ => Iff.rfl
  | n :: ns, vs => by
    constructor
    · rintro ⟨v, r, e1, h1, h2⟩
      rw [e1, show v = V.str n from h1, Reps.strs.mp h2]; rfl
    · intro e
      exact ⟨.str n, ns.map V.str, e, rfl, Reps.strs.mpr rfl⟩
end
inductive S where
  | d (x : D) | ol (xs : List D) | od (kvs : List (Key × D)) | oi (N : Str) (kvs : List (Str × D)) | os (a : Addr) (N : Str) (kvs : List (Str × D))
@[reducible] def S.own : S → Bool
  | .d _ => false
  | _ => true
@[reducible] def S.fz : S → D
  | .d x => x
  | .ol xs => .lst xs
  | .od kvs => .dic (kvs.map (·.1)) (kvs.map (·.2))
  | .oi C kvs => .ins C (kvs.map (·.1)) (kvs.map (·.2))
  | .os _ C kvs => .ins C (kvs.map (·.1)) (kvs.map (·.2))
abbrev R := List (Option S)
def D.flat : D → Bool
  | .cel _ => false
  | .lst _ => false
  | .tup _ => false
  | .dic _ _ => false
  | .ins _ _ _ => false
  | _ => true
theorem Rep.flat {K : PySem.W.Frag} {F F' : Hp} {d : D} {v : V} (h : Rep K F d v) (f : d.flat = true) : Rep K F' d v := by
  cases d <;> first | exact h | cases f
def SRep (K : PySem.W.Frag) (H0 F H : Hp) : S → V → Prop
  | .d x, v => Rep K F x v
  | .ol xs, v => ∃ a vs, v = .ref a ∧ H a = some (.lst vs) ∧ Reps K F xs vs ∧ H0 a = none ∧ F a = none
  | .od kvs, v => ∃ a kvs', v = .ref a ∧ H a = some (.dK kvs') ∧ kvs'.map (·.1) = kvs.map (·.1) ∧ Reps K F (kvs.map (·.2)) (kvs'.map (·.2)) ∧ H0 a = none ∧ F a = none
  | .oi N kvs, v => ∃ a C dx kvs', v = .ref a ∧ PySem.W.nsIn K mainGlobals N = some (some (.ref C)) ∧ H a = some (.ins C dx kvs') ∧ kvs'.map (·.1) = kvs.map (·.1) ∧ Reps K F (kvs.map (·.2)) (kvs'.map (·.2)) ∧ H0 a = none ∧ F a = none
  | .os a0 N kvs, v => v = .ref a0 ∧ ∃ a C dx kvs', v = .ref a ∧ PySem.W.nsIn K mainGlobals N = some (some (.ref C)) ∧ H a = some (.ins C dx kvs') ∧ kvs'.map (·.1) = kvs.map (·.1) ∧ Reps K F (kvs.map (·.2)) (kvs'.map (·.2)) ∧ H0 a = none ∧ F a = none
def Fr (ρ : R) (σ : St) (v : V) : Prop := ∀ (j : Nat) t, ρ[j]? = some (some t) → t.own = true → σ[j]? ≠ some (some v)
structure Rel (K : PySem.W.Frag) (H0 F0 F H : Hp) (ρ : R) (σ : St) : Prop where
  h : Same H0 H
  f : Same F0 F
  fh : Same F H
  nw : ∀ a, F a ≠ none → F0 a ≠ none ∨ H0 a = none
  len : ρ.length = σ.length
  at_ : ∀ (i : Nat) s, ρ[i]? = some (some s) → ∃ v, σ[i]? = some (some v) ∧ SRep K H0 F H s v
  ap : ∀ (i j : Nat) s t, ρ[i]? = some (some s) → ρ[j]? = some (some t) → s.own = true → t.own = true → σ[i]? = σ[j]? → i = j
section
variable {K : PySem.W.Frag} {H0 F0 F F' H H' : Hp} {ρ ρ' : R} {σ : St} {a : Addr} {o : HO} {i : Nat} {s : S} {v : V}
theorem Same.new {H : Hp} {p : Addr} {o : HO} (h : H p = none) : Same H (upd H p o) := fun b u e => by
  rw [upd_ne (ne_of_none e h)]; exact e
theorem SRep.grow (e : Same H H') (h : SRep K H0 F H s v) : SRep K H0 F H' s v := by
  cases s with
  | d x => exact h
  | ol xs => obtain ⟨a, vs, e1, h1, r⟩ := h; exact ⟨a, vs, e1, e _ _ h1, r⟩
  | od kvs => obtain ⟨a, vs, e1, h1, r⟩ := h; exact ⟨a, vs, e1, e _ _ h1, r⟩
  | oi N kvs => obtain ⟨a, C, dx, vs, e1, g, h1, r⟩ := h; exact ⟨a, C, dx, vs, e1, g, e _ _ h1, r⟩
  | os b N kvs => obtain ⟨e0, a, C, dx, vs, e1, g, h1, r⟩ := h; exact ⟨e0, a, C, dx, vs, e1, g, e _ _ h1, r⟩
theorem Rel.grow (r : Rel K H0 F0 F H ρ σ) (e : Same H H') : Rel K H0 F0 F H' ρ σ :=
  ⟨r.h.trans e, r.f, r.fh.trans e, r.nw, r.len, fun i s q => let ⟨v, q1, q2⟩ := r.at_ i s q; ⟨v, q1, q2.grow e⟩, r.ap⟩
theorem SRep.addr (h : SRep K H0 F H s v) (w : s.own = true) : ∃ a u, v = .ref a ∧ H a = some u ∧ H0 a = none ∧ F a = none := by
  cases s with
  | d x => cases w
  | ol xs => obtain ⟨a, vs, e1, h1, _, n1, n2⟩ := h; exact ⟨a, _, e1, h1, n1, n2⟩
  | od kvs => obtain ⟨a, vs, e1, h1, _, _, n1, n2⟩ := h; exact ⟨a, _, e1, h1, n1, n2⟩
  | oi N kvs => obtain ⟨a, C, dx, vs, e1, g, h1, _, _, n1, n2⟩ := h; exact ⟨a, _, e1, h1, n1, n2⟩
  | os b N kvs => obtain ⟨_, a, C, dx, vs, e1, g, h1, _, _, n1, n2⟩ := h; exact ⟨a, _, e1, h1, n1, n2⟩
theorem zip_unzip {α β : Type} : ∀ l : List (α × β), (l.map (·.1)).zip (l.map (·.2)) = l
  | [] => rfl
  | p :: l => by rw [List.map_cons, List.map_cons, List.zip_cons_cons, zip_unzip l]
theorem SRep.thaw (h : SRep K H0 F H s v) (w : s.own = true) : ∃ a u, v = .ref a ∧ H a = some u ∧ H0 a = none ∧ F a = none ∧ Rep K (upd F a u) s.fz v := by
  cases s with
  | d x => cases w
  | ol xs =>
    obtain ⟨a, vs, e1, h1, h2, n1, n2⟩ := h
    exact ⟨a, _, e1, h1, n1, n2, a, vs, e1, upd_same, Reps.mono (Same.new n2) _ _ h2⟩
  | od kvs =>
    obtain ⟨a, kvs', e1, h1, hk, h2, n1, n2⟩ := h
    refine ⟨a, _, e1, h1, n1, n2, a, kvs'.map (·.2), e1, ?_, ?_, Reps.mono (Same.new n2) _ _ h2⟩
    · refine .inl ?_; rw [upd_same, ← hk, zip_unzip]
    · rw [h2.len, List.length_map, List.length_map]
  | oi N kvs =>
    obtain ⟨a, C, dx, kvs', e1, g, h1, hk, h2, n1, n2⟩ := h
    refine ⟨a, _, e1, h1, n1, n2, a, C, dx, kvs'.map (·.2), e1, g, ?_, ?_, Reps.mono (Same.new n2) _ _ h2⟩
    · rw [upd_same, ← hk, zip_unzip]
    · rw [h2.len, List.length_map, List.length_map]
  | os b N kvs =>
    obtain ⟨_, a, C, dx, kvs', e1, g, h1, hk, h2, n1, n2⟩ := h
    refine ⟨a, _, e1, h1, n1, n2, a, C, dx, kvs'.map (·.2), e1, g, ?_, ?_, Reps.mono (Same.new n2) _ _ h2⟩
    · rw [upd_same, ← hk, zip_unzip]
    · rw [h2.len, List.length_map, List.length_map]
theorem Rel.more (r : Rel K H0 F0 F H ρ σ) (e : Same F F') (fh : Same F' H) (nw : ∀ a, F' a ≠ none → F a ≠ none ∨ H0 a = none)
    (no : ∀ (j : Nat) t a, ρ[j]? = some (some t) → t.own = true → σ[j]? = some (some (.ref a)) → F' a = none) : Rel K H0 F0 F' H ρ σ := by
  refine ⟨r.h, r.f.trans e, fh, fun a h => ?_, r.len, fun i s q => ?_, r.ap⟩
  · rcases nw a h with z | z
    · exact r.nw a z
    · exact .inr z
  · obtain ⟨v, q1, q2⟩ := r.at_ i s q
    refine ⟨v, q1, ?_⟩
    cases s with
    | d x => exact Rep.mono e _ _ q2
    | ol xs =>
      obtain ⟨a, vs, e1, h1, h2, n1, n2⟩ := q2
      subst e1
      exact ⟨a, vs, rfl, h1, Reps.mono e _ _ h2, n1, no i _ a q rfl q1⟩
    | od kvs =>
      obtain ⟨a, vs, e1, h1, hk, h2, n1, n2⟩ := q2
      subst e1
      exact ⟨a, vs, rfl, h1, hk, Reps.mono e _ _ h2, n1, no i _ a q rfl q1⟩
    | oi N kvs =>
      obtain ⟨a, C, dx, vs, e1, g, h1, hk, h2, n1, n2⟩ := q2
      subst e1
      exact ⟨a, C, dx, vs, rfl, g, h1, hk, Reps.mono e _ _ h2, n1, no i _ a q rfl q1⟩
    | os b N kvs =>
      obtain ⟨e0, a, C, dx, vs, e1, g, h1, hk, h2, n1, n2⟩ := q2
      subst e1
      exact ⟨e0, a, C, dx, vs, rfl, g, h1, hk, Reps.mono e _ _ h2, n1, no i _ a q rfl q1⟩
theorem Rel.put1 (r : Rel K H0 F0 F H ρ σ) {u : HO} (h : H a = some u) (n0 : H0 a = none) (n1 : F a = none) (fr : Fr ρ σ (.ref a)) : Rel K H0 F0 (upd F a u) H ρ σ := by
  refine r.more (Same.new n1) (fun b o q => ?_) (fun b q => ?_) fun j t b q w z => ?_
  · by_cases hb : b = a
    · subst hb; rw [upd_same] at q; cases q; exact h
    · rw [upd_ne hb] at q; exact r.fh _ _ q
  · by_cases hb : b = a
    · subst hb; exact .inr n0
    · rw [upd_ne hb] at q; exact .inl q
  · have hb : b ≠ a := by rintro rfl; exact fr j t q w z
    rw [upd_ne hb]
    obtain ⟨v, q1, q2⟩ := r.at_ j t q
    obtain ⟨c, o, e1, _, _, n2⟩ := q2.addr w
    rw [z] at q1; cases q1; cases e1; exact n2
theorem Rel.freeze (r : Rel K H0 F0 F H ρ σ) (h : SRep K H0 F H s v) (fr : s.own = true → Fr ρ σ v) : ∃ F', Same F F' ∧ Rel K H0 F0 F' H ρ σ ∧ Rep K F' s.fz v := by
  by_cases w : s.own = true
  · obtain ⟨a, u, e1, h1, n0, n1, rp⟩ := h.thaw w
    subst e1
    exact ⟨_, Same.new n1, r.put1 h1 n0 n1 (fr w), rp⟩
  · cases s with
    | d x => exact ⟨F, Same.refl F, r, h⟩
    | ol xs => exact absurd rfl w
    | od kvs => exact absurd rfl w
    | oi N kvs => exact absurd rfl w
    | os b N kvs => exact absurd rfl w
theorem Rel.forget (r : Rel K H0 F0 F H ρ σ) (hl : ρ'.length = ρ.length) (w : ∀ (i : Nat) s, ρ'[i]? = some (some s) → ρ[i]? = some (some s)) : Rel K H0 F0 F H ρ' σ :=
  ⟨r.h, r.f, r.fh, r.nw, hl.trans r.len, fun i s q => r.at_ i s (w i s q), fun i j s t q1 q2 => r.ap i j s t (w i s q1) (w j t q2)⟩
theorem set_none {s : S} (q : (ρ.set i none)[i]? = some (some s)) : False := by
  rw [List.getElem?_set] at q
  simp only [if_true] at q
  split at q <;> cases q
theorem Rel.drop1 (r : Rel K H0 F0 F H ρ σ) (i : Nat) : Rel K H0 F0 F H (ρ.set i none) σ :=
  r.forget (by simp) fun j s q => by
    by_cases hj : j = i
    · subst hj
      exact (set_none q).elim
    · rwa [List.getElem?_set_ne (Ne.symm hj)] at q
theorem Rel.moved (r : Rel K H0 F0 F H ρ σ) (q : ρ[i]? = some (some s)) (w : s.own = true) (e : σ[i]? = some (some v)) : Fr (ρ.set i none) σ v := fun j t q1 w1 q2 => by
  have hj : j ≠ i := by
    rintro rfl
    exact set_none q1
  rw [List.getElem?_set_ne (Ne.symm hj)] at q1
  exact hj (r.ap j i t s q1 q w1 w (q2.trans e.symm))
theorem Rel.store (r : Rel K H0 F0 F H ρ σ) (h : SRep K H0 F H s v) (fr : s.own = true → Fr ρ σ v) (i : Nat) : Rel K H0 F0 F H (ρ.set i (some s)) (σ.set i (some v)) := by
  have get : ∀ (j : Nat) t, (ρ.set i (some s))[j]? = some (some t) → (j = i ∧ t = s ∧ (σ.set i (some v))[j]? = some (some v)) ∨ (j ≠ i ∧ ρ[j]? = some (some t) ∧ (σ.set i (some v))[j]? = σ[j]?) := fun j t q => by
    by_cases hj : j = i
    · subst hj
      have hl : j < ρ.length := by
        have := (List.getElem?_eq_some_iff.mp q).1
        simpa using this
      rw [List.getElem?_set_self hl] at q
      cases q
      exact .inl ⟨rfl, rfl, List.getElem?_set_self (by rw [← r.len]; exact hl)⟩
    · rw [List.getElem?_set_ne (Ne.symm hj)] at q
      exact .inr ⟨hj, q, List.getElem?_set_ne (Ne.symm hj)⟩
  refine ⟨r.h, r.f, r.fh, r.nw, by simp [r.len], fun j t q => ?_, fun j k t u q1 q2 w1 w2 e => ?_⟩
  · rcases get j t q with ⟨rfl, rfl, z⟩ | ⟨hj, q', z⟩
    · exact ⟨v, z, h⟩
    · obtain ⟨x, z1, z2⟩ := r.at_ j t q'
      exact ⟨x, z.trans z1, z2⟩
  · rcases get j t q1 with ⟨rfl, rfl, z⟩ | ⟨hj, q', z⟩
    · rcases get k u q2 with ⟨rfl, rfl, z'⟩ | ⟨hk, q'', z'⟩
      · rfl
      · rw [z, z'] at e
        exact absurd e.symm (fr w1 k u q'' w2)
    · rcases get k u q2 with ⟨rfl, rfl, z'⟩ | ⟨hk, q'', z'⟩
      · rw [z, z'] at e
        exact absurd e (fr w2 j t q' w1)
      · rw [z, z'] at e
        exact r.ap j k t u q' q'' w1 w2 e
theorem Rel.write (r : Rel K H0 F0 F H ρ σ) (q : ρ[i]? = some (some s)) (w : s.own = true) (e : σ[i]? = some (some (.ref a))) {u : HO} {s' : S}
    (h' : SRep K H0 F (upd H a u) s' (.ref a)) (w' : s'.own = true) : Rel K H0 F0 F (upd H a u) (ρ.set i (some s')) σ := by
  obtain ⟨v0, e0, sr⟩ := r.at_ i s q
  rw [e] at e0; cases e0
  obtain ⟨b, u0, e1, hb, n0, n1⟩ := sr.addr w
  cases e1
  have hl : i < ρ.length := (List.getElem?_eq_some_iff.mp q).1
  have get : ∀ (j : Nat) t, (ρ.set i (some s'))[j]? = some (some t) → (j = i ∧ t = s') ∨ (j ≠ i ∧ ρ[j]? = some (some t)) := fun j t q => by
    by_cases hj : j = i
    · subst hj
      rw [List.getElem?_set_self hl] at q
      cases q
      exact .inl ⟨rfl, rfl⟩
    · rw [List.getElem?_set_ne (Ne.symm hj)] at q
      exact .inr ⟨hj, q⟩
  refine ⟨fun c o z => ?_, r.f, fun c o z => ?_, r.nw, by simp [r.len], fun j t q1 => ?_, fun j k t u q1 q2 w1 w2 z => ?_⟩
  · rw [upd_ne (ne_of_none z n0)]; exact r.h _ _ z
  · rw [upd_ne (ne_of_none z n1)]; exact r.fh _ _ z
  · rcases get j t q1 with ⟨rfl, rfl⟩ | ⟨hj, q'⟩
    · exact ⟨_, e, h'⟩
    · obtain ⟨x, z1, z2⟩ := r.at_ j t q'
      refine ⟨x, z1, ?_⟩
      have ne : t.own = true → x ≠ .ref a := fun wt z => hj (r.ap j i t s q' q wt w (by rw [z1, e, z]))
      cases t with
      | d x => exact z2
      | ol xs =>
        obtain ⟨c, vs, e1, h1, rr⟩ := z2
        have : c ≠ a := by rintro rfl; exact ne rfl e1
        exact ⟨c, vs, e1, by rw [upd_ne this]; exact h1, rr⟩
      | od kvs =>
        obtain ⟨c, vs, e1, h1, rr⟩ := z2
        have : c ≠ a := by rintro rfl; exact ne rfl e1
        exact ⟨c, vs, e1, by rw [upd_ne this]; exact h1, rr⟩
      | oi N kvs =>
        obtain ⟨c, C, dx, vs, e1, g, h1, rr⟩ := z2
        have : c ≠ a := by rintro rfl; exact ne rfl e1
        exact ⟨c, C, dx, vs, e1, g, by rw [upd_ne this]; exact h1, rr⟩
      | os b N kvs =>
        obtain ⟨e0, c, C, dx, vs, e1, g, h1, rr⟩ := z2
        have : c ≠ a := by rintro rfl; exact ne rfl e1
        exact ⟨e0, c, C, dx, vs, e1, g, by rw [upd_ne this]; exact h1, rr⟩
  · rcases get j t q1 with ⟨rfl, rfl⟩ | ⟨hj, q'⟩
    · rcases get k u q2 with ⟨rfl, rfl⟩ | ⟨hk, q''⟩
      · rfl
      · exact r.ap j k s u q q'' w w2 z
    · rcases get k u q2 with ⟨rfl, rfl⟩ | ⟨hk, q''⟩
      · exact r.ap j k t s q' q w1 w z
      · exact r.ap j k t u q' q'' w1 w2 z
end
end DL
namespace DL
open PySem L2
abbrev PX := Str → List (Str × D) → Prop
structure Zx where
  E : XK
  P : PX
abbrev Z0 : Zx := ⟨E0, fun _ _ => False⟩
def XRep (K : PySem.W.Frag) (F H : Hp) (fs : List (Str × D)) (d : Option Addr) : Prop :=
  (fs = [] ∧ d = none) ∨ ∃ a vs, d = some a ∧ H a = some (.xd ((fs.map (·.1)).zip vs)) ∧ Reps K F (fs.map (·.2)) vs
def Zx.Ok (Z : Zx) (K : PySem.W.Frag) (H0 F0 : Hp) : Prop := ∀ N C fs d F' H', Z.P N fs → PySem.W.nsIn K mainGlobals N = some (some (.ref C)) → Same H0 H' → Same F0 F' → Same F' H' → (∀ a, F' a ≠ none → F0 a ≠ none ∨ H0 a = none) → XRep K F' H' fs d → Z.E (.ref C) d H'
theorem Z0.ok {K : PySem.W.Frag} {H0 F0 : Hp} : Z0.Ok K H0 F0 := fun _ _ _ _ _ _ h => h.elim
abbrev W := R → (S → R → Prop) → Prop
abbrev WT := R → (Bool → R → Prop) → Prop
abbrev WA := R → (List D → R → Prop) → Prop
def RunE (K : PySem.W.Frag) (Z : Zx) (t : TE) (w : W) : Prop := ∀ {H0 F0 F H : Hp} {ρ : R} {σ : St} {Q : VK} {P : S → R → Prop}, Z.Ok K H0 F0 → Rel K H0 F0 F H ρ σ → w ρ P →
    (∀ s ρ' F' H' v, P s ρ' → Same F F' → Rel K H0 F0 F' H' ρ' σ → SRep K H0 F' H' s v → (s.own = true → Fr ρ' σ v) → Q v H') → t σ H Q
def RunT (K : PySem.W.Frag) (Z : Zx) (t : TT) (w : WT) : Prop := ∀ {H0 F0 F H : Hp} {ρ : R} {σ : St} {Q : Bool → Hp → Prop} {P : Bool → R → Prop}, Z.Ok K H0 F0 → Rel K H0 F0 F H ρ σ → w ρ P →
    (∀ b ρ' F' H', P b ρ' → Same F F' → Rel K H0 F0 F' H' ρ' σ → Q b H') → t σ H Q
def RunA (K : PySem.W.Frag) (Z : Zx) (t : TA) (w : WA) : Prop := ∀ {H0 F0 F H : Hp} {ρ : R} {σ : St} {Q : List V → Hp → Prop} {P : List D → R → Prop}, Z.Ok K H0 F0 → Rel K H0 F0 F H ρ σ → w ρ P →
    (∀ ds ρ' F' H' vs, P ds ρ' → Same F F' → Rel K H0 F0 F' H' ρ' σ → Reps K F' ds vs → Q vs H') → t σ H Q
structure DE (K : PySem.W.Frag) (X : Cx) (Z : Zx) (e : Expr) (t : TE) (w : W) : Prop where
  pe : PE X e t
  run : RunE K Z t w
structure DT (K : PySem.W.Frag) (X : Cx) (Z : Zx) (e : Expr) (t : TT) (w : WT) : Prop where
  pe : PT X e t
  run : RunT K Z t w
structure DW (K : PySem.W.Frag) (X : Cx) (Z : Zx) (e : Expr) (t : TT) (w : WT) : Prop where
  pe : PW X e t
  run : RunT K Z t w
structure DA (K : PySem.W.Frag) (X : Cx) (Z : Zx) (es : List Expr) (t : TA) (w : WA) : Prop where
  pe : PA X es t
  run : RunA K Z t w
def Kont (K : PySem.W.Frag) (H F : Hp) (P : S → Prop) (Q : VK) : Prop :=
  ∀ s v F' H', P s → Same H H' → Same F F' → Same F' H' → (∀ a, F' a ≠ none → F a ≠ none ∨ H a = none) → SRep K H F' H' s v → Q v H'
section
variable {K : PySem.W.Frag} {H F : Hp} {P : S → Prop} {Q : VK} {ds : List D} {vs : List V} {d : D} {v : V} {p : Addr}
theorem Kont.flat (k : Kont K H F P Q) (fh : Same F H) (h : P (.d d)) (r : Rep K F d v) : Q v H :=
  k (.d d) v F H h (Same.refl _) (Same.refl _) fh (fun _ q => .inl q) r
theorem Kont.newL (k : Kont K H F P Q) (fh : Same F H) (h : P (.ol ds)) (r : Reps K F ds vs) (n : H p = none) : Q (.ref p) (upd H p (.lst vs)) :=
  k (.ol ds) _ F _ h (Same.new n) (Same.refl _) (fh.trans (Same.new n)) (fun _ q => .inl q) ⟨p, vs, rfl, upd_same, r, n, fh.free n⟩
theorem Kont.newD {kvs : List (Key × D)} {kvs' : List (Key × V)} (k : Kont K H F P Q) (fh : Same F H) (h : P (.od kvs)) (hk : kvs'.map (·.1) = kvs.map (·.1)) (r : Reps K F (kvs.map (·.2)) (kvs'.map (·.2))) (n : H p = none) : Q (.ref p) (upd H p (.dK kvs')) :=
  k (.od kvs) _ F _ h (Same.new n) (Same.refl _) (fh.trans (Same.new n)) (fun _ q => .inl q) ⟨p, kvs', rfl, upd_same, hk, r, n, fh.free n⟩
theorem upd_both {u : HO} (fh : Same F H) (n : H p = none) : Same (upd F p u) (upd H p u) := fun b o q => by
  by_cases hb : b = p
  · subst hb; rw [upd_same] at q ⊢; exact q
  · rw [upd_ne hb] at q ⊢; exact fh _ _ q
theorem nw_upd {u : HO} (n : H p = none) : ∀ a, upd F p u a ≠ none → F a ≠ none ∨ H a = none := fun a q => by
  by_cases ha : a = p
  · subst ha; exact .inr n
  · rw [upd_ne ha] at q; exact .inl q
theorem Kont.newT (k : Kont K H F P Q) (fh : Same F H) (h : P (.d (.tup ds))) (r : Reps K F ds vs) (n : H p = none) : Q (.ref p) (upd H p (.tup vs)) :=
  k (.d (.tup ds)) _ (upd F p (.tup vs)) _ h (Same.new n) (Same.new (fh.free n)) (upd_both fh n) (nw_upd n)
    ⟨p, vs, rfl, SqT.of upd_same, Reps.mono (Same.new (fh.free n)) _ _ r⟩
end
section
variable {K : PySem.W.Frag} {H0 F0 F F' H H' : Hp} {ρ : R} {σ : St} {s : S} {v : V}
theorem Rel.after (r : Rel K H0 F0 F H ρ σ) (hh : Same H H') (ff : Same F F') (fh : Same F' H') (nw : ∀ a, F' a ≠ none → F a ≠ none ∨ H a = none) : Rel K H0 F0 F' H' ρ σ := by
  refine (r.grow hh).more ff fh (fun a q => ?_) fun j t a q w z => ?_
  · rcases nw a q with z | z
    · exact .inl z
    · exact .inr (r.h.free z)
  · obtain ⟨v, q1, q2⟩ := r.at_ j t q
    obtain ⟨c, o, e1, h1, _, n2⟩ := q2.addr w
    rw [z] at q1; cases q1; cases e1
    cases q3 : F' a with
    | none => rfl
    | some u =>
      rcases nw a (by rw [q3]; exact fun z => nomatch z) with y | y
      · exact absurd n2 y
      · rw [y] at h1; cases h1
theorem SRep.after (r : Rel K H0 F0 F H ρ σ) (h : SRep K H F' H' s v) : SRep K H0 F' H' s v ∧ (s.own = true → Fr ρ σ v) := by
  constructor
  · cases s with
    | d x => exact h
    | ol xs => obtain ⟨a, vs, e1, h1, h2, n0, n1⟩ := h; exact ⟨a, vs, e1, h1, h2, r.h.free n0, n1⟩
    | od kvs => obtain ⟨a, vs, e1, h1, hk, h2, n0, n1⟩ := h; exact ⟨a, vs, e1, h1, hk, h2, r.h.free n0, n1⟩
    | oi N kvs => obtain ⟨a, C, dx, vs, e1, g, h1, hk, h2, n0, n1⟩ := h; exact ⟨a, C, dx, vs, e1, g, h1, hk, h2, r.h.free n0, n1⟩
    | os b N kvs => obtain ⟨e0, a, C, dx, vs, e1, g, h1, hk, h2, n0, n1⟩ := h; exact ⟨e0, a, C, dx, vs, e1, g, h1, hk, h2, r.h.free n0, n1⟩
  · intro w j t q1 w1 q2
    obtain ⟨a, u, e1, h1, n0, n1⟩ := h.addr w
    subst e1
    obtain ⟨v, z1, z2⟩ := r.at_ j t q1
    obtain ⟨c, o, e2, h2, _, _⟩ := z2.addr w1
    rw [q2] at z1; cases z1; cases e2
    rw [n0] at h2; cases h2
end
theorem Rel.kont {K : PySem.W.Frag} {H0 F0 F1 F H : Hp} {ρ : R} {σ : St} {P : S → R → Prop} {Q : VK} (r : Rel K H0 F0 F H ρ σ) (f : Same F1 F)
    (k : ∀ s ρ' F' H' v, P s ρ' → Same F1 F' → Rel K H0 F0 F' H' ρ' σ → SRep K H0 F' H' s v → (s.own = true → Fr ρ' σ v) → Q v H') : Kont K H F (fun s => P s ρ) Q :=
  fun s v F' H' p hh ff fh nw sr => k s ρ F' H' v p (f.trans ff) (r.after hh ff fh nw) (SRep.after r sr).1 (SRep.after r sr).2
def nth : R → Nat → Option S
  | [], _ => none
  | x :: _, 0 => x
  | _ :: r, n + 1 => nth r n
def put : R → Nat → Option S → R
  | [], _, _ => []
  | _ :: r, 0, y => y :: r
  | x :: r, n + 1, y => x :: put r n y
theorem nth_eq : ∀ (ρ : R) (i : Nat), nth ρ i = (ρ[i]?).join
  | [], i => by simp [nth]
  | x :: r, 0 => by simp [nth]
  | x :: r, n + 1 => by rw [nth, nth_eq r n]; simp
theorem put_eq : ∀ (ρ : R) (i : Nat) (y : Option S), put ρ i y = ρ.set i y
  | [], _, _ => rfl
  | x :: r, 0, _ => rfl
  | x :: r, n + 1, y => by rw [put, put_eq r n]; rfl
theorem nth_some {ρ : R} {i : Nat} {s : S} (h : nth ρ i = some s) : ρ[i]? = some (some s) := by
  rw [nth_eq] at h
  cases e : ρ[i]? with
  | none => rw [e] at h; cases h
  | some o =>
    rw [e] at h
    cases o with
    | none => cases h
    | some t => cases h; rfl
section
variable {K : PySem.W.Frag} {X : Cx} {Z : Zx} {pos : Pos}
def wVar (i : Nat) : W := fun ρ P => match nth ρ i with
  | some (.d x) => P (.d x) ρ
  | some s => P (.d s.fz) (put ρ i (some (.d s.fz)))
  | none => False
theorem Rel.own_slot {K : PySem.W.Frag} {H0 F0 F H : Hp} {ρ : R} {σ : St} {i : Nat} {s : S} (r : Rel K H0 F0 F H ρ σ) (q : ρ[i]? = some (some s)) (w : s.own = true) :
    ∃ v F', σ[i]? = some (some v) ∧ Same F F' ∧ Rel K H0 F0 F' H (ρ.set i (some (.d s.fz))) σ ∧ Rep K F' s.fz v := by
  obtain ⟨v, e, sr⟩ := r.at_ i s q
  obtain ⟨F', ff, r', rp⟩ := (r.drop1 i).freeze sr fun _ => r.moved q w e
  refine ⟨v, F', e, ff, ?_, rp⟩
  have hl : i < σ.length := (List.getElem?_eq_some_iff.mp e).1
  have z := r'.store (s := .d s.fz) (v := v) rp (fun w => nomatch w) i
  rw [List.set_set] at z
  have e2 : σ.set i (some v) = σ := by
    apply List.ext_getElem?
    intro j
    by_cases hj : j = i
    · subst hj; rw [List.getElem?_set_self hl, e]
    · rw [List.getElem?_set_ne (Ne.symm hj)]
  rwa [e2] at z
theorem run_var {i : Nat} : RunE K Z (tVar i) (wVar i) := fun {H0 F0 F H ρ σ Q P} zo r h k => by
  unfold wVar at h
  split at h
  · rename_i x e
    obtain ⟨v, e1, sr⟩ := r.at_ i _ (nth_some e)
    exact ⟨v, e1, k _ _ F H v h (Same.refl _) r sr fun w => nomatch w⟩
  · rename_i s hs e
    have w : s.own = true := by
      cases s with
      | d x => exact absurd rfl (hs x)
      | ol _ => rfl
      | od _ => rfl
      | oi _ _ => rfl
      | os _ _ _ => rfl
    rw [put_eq] at h
    obtain ⟨v, F', e1, ff, r', rp⟩ := r.own_slot (nth_some e) w
    exact ⟨v, e1, k _ _ F' H v h ff r' rp fun w => nomatch w⟩
  · exact h.elim
theorem de_var (i : Nat) {x : Str} (hN : X.N[i]? = some x := by rfl) (hv : Vis X.env.scope x := by first | exact Or.inl rfl | exact Or.inr (Or.inl rfl) | exact Or.inr (Or.inr rfl)) (hd : (x == ("__debug__" : Str)) = false := by decide)
    (hcd : (x == ("__classdict__" : Str)) = false := by decide) : DE K X Z (.Name x pos) (tVar i) (wVar i) := ⟨pe_var hN hv hd hcd, run_var⟩
def wMove (i : Nat) : W := fun ρ P => match nth ρ i with
  | some s => P s (put ρ i none)
  | none => False
theorem run_move {i : Nat} : RunE K Z (tVar i) (wMove i) := fun {H0 F0 F H ρ σ Q P} zo r h k => by
  unfold wMove at h
  split at h
  · rename_i s e
    rw [put_eq] at h
    obtain ⟨v, e1, sr⟩ := r.at_ i _ (nth_some e)
    exact ⟨v, e1, k _ _ F H v h (Same.refl _) (r.drop1 i) sr fun w => r.moved (nth_some e) w e1⟩
  · exact h.elim
theorem de_move (i : Nat) {x : Str} (hN : X.N[i]? = some x := by rfl) (hv : Vis X.env.scope x := by first | exact Or.inl rfl | exact Or.inr (Or.inl rfl) | exact Or.inr (Or.inr rfl)) (hd : (x == ("__debug__" : Str)) = false := by decide)
    (hcd : (x == ("__classdict__" : Str)) = false := by decide) : DE K X Z (.Name x pos) (tVar i) (wMove i) := ⟨pe_var hN hv hd hcd, run_move⟩
def wC (d : D) : W := fun ρ P => P (.d d) ρ
theorem de_c {e : Expr} {v : V} {d : D} (h : PE X e (tC v)) (r : ∀ F, Rep K F d v) : DE K X Z e (tC v) (wC d) :=
  ⟨h, fun {H0 F0 F H ρ σ Q P} zo r' h k => k _ _ F H v h (Same.refl _) r' (r F) fun w => nomatch w⟩
theorem de_int {i j pos} : DE K X Z (.Constant (.int i) j pos) (tC (.int i)) (wC (.int i)) := de_c pe_int fun _ => rfl
theorem de_bl {b j pos} : DE K X Z (.Constant (.bool b) j pos) (tC (.bl b)) (wC (.bl b)) := de_c pe_bl fun _ => rfl
theorem de_str {x j pos} : DE K X Z (.Constant (.str x) j pos) (tC (.str x)) (wC (.str x)) := de_c pe_str fun _ => rfl
theorem de_glob {x : Str} {v : V} {u : Value} {d : D} (hg : Gl X x) (hm : X.mg x = some u) (rv : RelV v u) (r : ∀ F, Rep K F d v) (hd : (x == ("__debug__" : Str)) = false := by decide) : DE K X Z (.Name x pos) (tC v) (wC d) :=
  de_c (pe_glob hg hm rv hd) r
abbrev O2 := D → D → (S → Prop) → Prop
structure Snd2 (K : PySem.W.Frag) (r : R2) (o : O2) : Prop where
  run : ∀ {F H : Hp} {x y : D} {vx vy : V} {P : S → Prop} {Q : VK}, Same F H → Rep K F x vx → Rep K F y vy → o x y P → Kont K H F P Q → r vx vy H Q
def wOp (o : O2) (wa wb : W) : W := fun ρ P => wa ρ fun x ρ1 => wb ρ1 fun y ρ2 => o x.fz y.fz fun s => P s ρ2
theorem two_run {ta tb : TE} {wa wb : W} {r : R2} {o : O2} (ha : RunE K Z ta wa) (hb : RunE K Z tb wb) (ho : Snd2 K r o) : RunE K Z (tOp r ta tb) (wOp o wa wb) := fun zo rl h k => by
  refine ha zo rl h fun s1 ρ1 F1 H1 v1 h1 f1 r1 sr1 fr1 => ?_
  obtain ⟨F2, f2, r2, rp2⟩ := r1.freeze sr1 fr1
  refine hb zo r2 h1 fun s3 ρ3 F3 H3 v3 h3 f3 r3 sr3 fr3 => ?_
  obtain ⟨F4, f4, r4, rp4⟩ := r3.freeze sr3 fr3
  exact ho.run r4.fh (Rep.mono (f3.trans f4) _ _ rp2) rp4 h3 (r4.kont (f1.trans (f2.trans (f3.trans f4))) k)
section
variable {a b : Expr} {r : R2} {o : O2} {ta tb : TE} {wa wb : W}
theorem de_op {op : Operator} (hr : OpR X (binaryOp op) r) (ho : Snd2 K r o) (ha : DE K X Z a ta wa) (hb : DE K X Z b tb wb) : DE K X Z (.BinOp a op b pos) (tOp r ta tb) (wOp o wa wb) := ⟨pe_op hr ha.pe hb.pe, two_run ha.run hb.run ho⟩
theorem de_cmp {op : CmpOp} (hr : OpR X (compareOp op) r) (ho : Snd2 K r o) (hm : behindInMarks op b = false) (ha : DE K X Z a ta wa) (hb : DE K X Z b tb wb) : DE K X Z (.Compare a [op] [b] pos) (tOp r ta tb) (wOp o wa wb) := ⟨pe_cmpR hr ha.pe hb.pe hm, two_run ha.run hb.run ho⟩
theorem de_ix (hr : IxR X r) (ho : Snd2 K r o) (hs : PlainIx b) (ha : DE K X Z a ta wa) (hb : DE K X Z b tb wb) : DE K X Z (.Subscript a b pos) (tOp r ta tb) (wOp o wa wb) := ⟨pe_ix hr ha.pe hb.pe hs, two_run ha.run hb.run ho⟩
end
abbrev O1 := D → (S → Prop) → Prop
structure Snd1 (K : PySem.W.Frag) (r : V → Hp → VK → Prop) (o : O1) : Prop where
  run : ∀ {F H : Hp} {x : D} {vx : V} {P : S → Prop} {Q : VK}, Same F H → Rep K F x vx → o x P → Kont K H F P Q → r vx H Q
def wUn (o : O1) (wa : W) : W := fun ρ P => wa ρ fun x ρ1 => o x.fz fun s => P s ρ1
theorem one_run {ta : TE} {wa : W} {r : V → Hp → VK → Prop} {o : O1} (ha : RunE K Z ta wa) (ho : Snd1 K r o) : RunE K Z (tUn r ta) (wUn o wa) := fun zo rl h k => by
  refine ha zo rl h fun s1 ρ1 F1 H1 v1 h1 f1 r1 sr1 fr1 => ?_
  obtain ⟨F2, f2, r2, rp2⟩ := r1.freeze sr1 fr1
  exact ho.run r2.fh rp2 h1 (r2.kont (f1.trans f2) k)
theorem de_un {op : UnaryOp} {a : Expr} {r : V → Hp → VK → Prop} {o : O1} {ta : TE} {wa : W} (hr : UnR X (unaryOp op) r) (ho : Snd1 K r o) (ha : DE K X Z a ta wa) : DE K X Z (.UnaryOp op a pos) (tUn r ta) (wUn o wa) := ⟨pe_un hr ha.pe, one_run ha.run ho⟩
def wNil : WA := fun ρ P => P [] ρ
def wCons (we : W) (wr : WA) : WA := fun ρ P => we ρ fun x ρ1 => wr ρ1 fun xs ρ2 => P (x.fz :: xs) ρ2
theorem da_nil : DA K X Z [] tNil wNil := ⟨pa_nil, fun {H0 F0 F H ρ σ Q P} zo rl h k => k [] ρ F H [] h (Same.refl _) rl rfl⟩
theorem da_cons {e : Expr} {es : List Expr} {te : TE} {tr : TA} {we : W} {wr : WA} (he : DE K X Z e te we) (hr : DA K X Z es tr wr) (hs : starEach (e :: es) X.env = (false, eval e X.env) :: starEach es X.env := by rfl) : DA K X Z (e :: es) (tCons te tr) (wCons we wr) := by
  refine ⟨pa_cons he.pe hr.pe hs, fun zo rl h k => he.run zo rl h fun s1 ρ1 F1 H1 v1 h1 f1 r1 sr1 fr1 => ?_⟩
  obtain ⟨F2, f2, r2, rp2⟩ := r1.freeze sr1 fr1
  refine hr.run zo r2 h1 fun ds ρ3 F3 H3 vs h3 f3 r3 rps => ?_
  exact k _ ρ3 F3 H3 _ h3 (f1.trans (f2.trans f3)) r3 ⟨_, _, rfl, Rep.mono f3 _ _ rp2, rps⟩
abbrev OL := List D → (S → Prop) → Prop
structure SndL (K : PySem.W.Frag) (r : List V → Hp → VK → Prop) (o : OL) : Prop where
  run : ∀ {F H : Hp} {ds : List D} {vs : List V} {P : S → Prop} {Q : VK}, Same F H → Reps K F ds vs → o ds P → Kont K H F P Q → r vs H Q
def wCB (o : OL) (wa : WA) : W := fun ρ P => wa ρ fun ds ρ1 => o ds fun s => P s ρ1
theorem cb_run {t : TA} {wa : WA} {r : List V → Hp → VK → Prop} {o : OL} (ha : RunA K Z t wa) (ho : SndL K r o) : RunE K Z (tCB r t) (wCB o wa) := fun zo rl h k =>
  ha zo rl h fun _ _ _ _ _ h1 f1 r1 rps => ho.run r1.fh rps h1 (r1.kont f1 k)
section
variable {e : Expr} {es : List Expr} {x : Str} {p : Pos} {id T : String} {r : List V → Hp → VK → Prop} {o : OL} {ta : TA} {wa : WA}
theorem de_callB (hc : CallR X (.builtin id) r) (ho : SndL K r o) (hg : Gl X x) (hm : X.mg x = none) (hv : bootBuiltins x = some (.builtin id))
    (ha : DA K X Z (e :: es) ta wa) (hn : x ≠ "__name__" := by decide) (hdb : (x == ("__debug__" : Str)) = false := by decide) (he : starEach (e :: es) X.env = (false, eval e X.env) :: starEach es X.env := by rfl) (hpl : (backTo pos (starEach es X.env)).any (·.1) = false := by rfl) :
    DE K X Z (.Call (.Name x p) (e :: es) [] pos) (tCB r ta) (wCB o wa) := ⟨pe_callB hc hg hm hv ha.pe (hn := hn) (hdb := hdb) (he := he) (hpl := hpl), cb_run ha.run ho⟩
theorem de_callTy (hc : CallR X (.type T) r) (ho : SndL K r o) (hg : Gl X x) (hm : X.mg x = none) (hv : bootBuiltins x = some (.type T))
    (ha : DA K X Z (e :: es) ta wa) (hn : x ≠ "__name__" := by decide) (hdb : (x == ("__debug__" : Str)) = false := by decide) (he : starEach (e :: es) X.env = (false, eval e X.env) :: starEach es X.env := by rfl) (hpl : (backTo pos (starEach es X.env)).any (·.1) = false := by rfl) :
    DE K X Z (.Call (.Name x p) (e :: es) [] pos) (tCB r ta) (wCB o wa) := ⟨pe_callTy hc hg hm hv ha.pe (hn := hn) (hdb := hdb) (he := he) (hpl := hpl), cb_run ha.run ho⟩
end
def wTup (wa : WA) : W := fun ρ P => wa ρ fun ds ρ1 => ds.length ≤ sizeLine ∧ P (.d (.tup ds)) ρ1
def wLst (wa : WA) : W := fun ρ P => wa ρ fun ds ρ1 => ds.length ≤ sizeLine ∧ P (.ol ds) ρ1
theorem de_tup {es : List Expr} {x1} {ta : TA} {wa : WA} (ha : DA K X Z es ta wa) : DE K X Z (.Tuple es x1 pos) (tTup ta) (wTup wa) := by
  refine ⟨pe_tup ha.pe, fun zo rl h k => ha.run zo rl h fun ds ρ1 F1 H1 vs h1 f1 r1 rps => ?_⟩
  exact ⟨by rw [rps.len]; exact h1.1, fun p n => (r1.kont f1 k).newT r1.fh h1.2 rps n⟩
theorem de_lst {es : List Expr} {ta : TA} {wa : WA} (ha : DA K X Z es ta wa) : DE K X Z (.List es pos) (tLst ta) (wLst wa) := by
  refine ⟨pe_lst ha.pe, fun zo rl h k => ha.run zo rl h fun ds ρ1 F1 H1 vs h1 f1 r1 rps => ?_⟩
  exact ⟨by rw [rps.len]; exact h1.1, fun p n => (r1.kont f1 k).newL r1.fh h1.2 rps n⟩
def asB : D → (Bool → Prop) → Prop
  | .bl b, P => P b
  | _, _ => False
theorem asB_of {K : PySem.W.Frag} {F : Hp} {d : D} {v : V} {P : Bool → Prop} (h : asB d P) (r : Rep K F d v) : ∃ b, v = .bl b ∧ d = .bl b ∧ P b := by
  cases d <;> first | exact h.elim | exact ⟨_, r, rfl, h⟩
def wB (we : W) : WT := fun ρ P => we ρ fun s ρ' => asB s.fz fun b => P b ρ'
theorem run_B {t : TE} {w : W} (h : RunE K Z t w) : RunT K Z (tB t) (wB w) := fun zo rl q k => h zo rl q fun s1 ρ1 F1 H1 v1 h1 f1 r1 sr1 fr1 => by
  obtain ⟨F2, f2, r2, rp2⟩ := r1.freeze sr1 fr1
  obtain ⟨b, e, _, p⟩ := asB_of h1 rp2
  exact ⟨b, e, k _ _ _ _ p (f1.trans f2) r2⟩
theorem dt_val {e : Expr} {t : TE} {w : W} (h : DE K X Z e t w) (he : ∀ whole, isTrue e X.env whole = (do let v ← whole; standAt e.pos; holding [v] (truthy v)) := by intro _; rfl) : DT K X Z e (tB t) (wB w) := ⟨pt_val h.pe he, run_B h.run⟩
theorem dt_cmp {op : CmpOp} {a b : Expr} {r : R2} {o : O2} {ta tb : TE} {wa wb : W} (hr : OpR X (compareOp op) r) (ho : Snd2 K r o) (hm : behindInMarks op b = false) (ha : DE K X Z a ta wa) (hb : DE K X Z b tb wb) : DT K X Z (.Compare a [op] [b] pos) (tTest (tOp r ta tb)) (wB (wOp o wa wb)) :=
  ⟨pt_cmpR hr ha.pe hb.pe hm, run_B (two_run ha.run hb.run ho)⟩
def wAnd (a b : WT) : WT := fun ρ P => a ρ fun c ρ1 => if c = true then b ρ1 P else P false ρ1
def wOr (a b : WT) : WT := fun ρ P => a ρ fun c ρ1 => if c = true then P true ρ1 else b ρ1 P
def wNot (a : WT) : WT := fun ρ P => a ρ fun c ρ1 => P (!c) ρ1
section
variable {a b : Expr} {rest : List Expr} {ta tb : TT} {wa wb : WT}
theorem DW.dt {e : Expr} {t : TT} {w : WT} (h : DW K X Z e t w) : DT K X Z e t w := ⟨h.pe.pt, h.run⟩
theorem dw_and1 (h : DT K X Z a ta wa) : DW K X Z (.BoolOp .And [a] pos) ta wa := ⟨pw_and1 h.pe, h.run⟩
theorem dw_or1 (h : DT K X Z a ta wa) : DW K X Z (.BoolOp .Or [a] pos) ta wa := ⟨pw_or1 h.pe, h.run⟩
theorem dw_and (h : DT K X Z a ta wa) (g : DW K X Z (.BoolOp .And (b :: rest) pos) tb wb) : DW K X Z (.BoolOp .And (a :: b :: rest) pos) (tAnd ta tb) (wAnd wa wb) :=
  ⟨pw_and h.pe g.pe, fun zo rl q k => h.run zo rl q fun c ρ1 F1 H1 p f1 r1 => by
    cases c with
    | true => exact g.run zo r1 p fun b ρ2 F2 H2 p2 f2 r2 => k _ _ _ _ p2 (f1.trans f2) r2
    | false => exact k _ _ _ _ p f1 r1⟩
theorem dw_or (h : DT K X Z a ta wa) (g : DW K X Z (.BoolOp .Or (b :: rest) pos) tb wb) : DW K X Z (.BoolOp .Or (a :: b :: rest) pos) (tOr ta tb) (wOr wa wb) :=
  ⟨pw_or h.pe g.pe, fun zo rl q k => h.run zo rl q fun c ρ1 F1 H1 p f1 r1 => by
    cases c with
    | true => exact k _ _ _ _ p f1 r1
    | false => exact g.run zo r1 p fun b ρ2 F2 H2 p2 f2 r2 => k _ _ _ _ p2 (f1.trans f2) r2⟩
theorem dt_not (h : DT K X Z a ta wa) : DT K X Z (.UnaryOp .Not a pos) (tNot ta) (wNot wa) := ⟨pt_not h.pe, fun zo rl q k => h.run zo rl q fun c ρ1 F1 H1 p f1 r1 => k _ _ _ _ p f1 r1⟩
end
def wAndV (a b : W) : W := fun ρ P => a ρ fun s ρ1 => asB s.fz fun c => if c = true then b ρ1 P else P (.d (.bl false)) ρ1
def wOrV (a b : W) : W := fun ρ P => a ρ fun s ρ1 => asB s.fz fun c => if c = true then P (.d (.bl true)) ρ1 else b ρ1 P
def wNotV (a : W) : W := fun ρ P => a ρ fun s ρ1 => asB s.fz fun c => P (.d (.bl (!c))) ρ1
def wIf (c : WT) (a b : W) : W := fun ρ P => c ρ fun k ρ1 => if k = true then a ρ1 P else b ρ1 P
section
variable {a b c : Expr} {rest : List Expr} {ta tb : TE} {wa wb : W} {tc : TT} {wc : WT}
theorem de_one {op} (h : DE K X Z a ta wa) : DE K X Z (.BoolOp op [a] pos) ta wa := ⟨pe_one h.pe, h.run⟩
theorem de_and (h : DE K X Z a ta wa) (g : DE K X Z (.BoolOp .And (b :: rest) pos) tb wb) : DE K X Z (.BoolOp .And (a :: b :: rest) pos) (tAndV ta tb) (wAndV wa wb) :=
  ⟨pe_and h.pe g.pe, fun zo rl q k => h.run zo rl q fun s1 ρ1 F1 H1 v1 h1 f1 r1 sr1 fr1 => by
    obtain ⟨F2, f2, r2, rp2⟩ := r1.freeze sr1 fr1
    obtain ⟨b, e, _, p⟩ := asB_of h1 rp2
    refine ⟨b, e, ?_⟩
    cases b with
    | true => exact g.run zo r2 p fun s ρ3 F3 H3 v3 p3 f3 r3 sr3 fr3 => k _ _ _ _ _ p3 (f1.trans (f2.trans f3)) r3 sr3 fr3
    | false => exact k _ _ _ _ _ p (f1.trans f2) r2 rfl fun w => nomatch w⟩
theorem de_or (h : DE K X Z a ta wa) (g : DE K X Z (.BoolOp .Or (b :: rest) pos) tb wb) : DE K X Z (.BoolOp .Or (a :: b :: rest) pos) (tOrV ta tb) (wOrV wa wb) :=
  ⟨pe_or h.pe g.pe, fun zo rl q k => h.run zo rl q fun s1 ρ1 F1 H1 v1 h1 f1 r1 sr1 fr1 => by
    obtain ⟨F2, f2, r2, rp2⟩ := r1.freeze sr1 fr1
    obtain ⟨b, e, _, p⟩ := asB_of h1 rp2
    refine ⟨b, e, ?_⟩
    cases b with
    | true => exact k _ _ _ _ _ p (f1.trans f2) r2 rfl fun w => nomatch w
    | false => exact g.run zo r2 p fun s ρ3 F3 H3 v3 p3 f3 r3 sr3 fr3 => k _ _ _ _ _ p3 (f1.trans (f2.trans f3)) r3 sr3 fr3⟩
theorem de_not (h : DE K X Z a ta wa) : DE K X Z (.UnaryOp .Not a pos) (tNotV ta) (wNotV wa) :=
  ⟨pe_not h.pe, fun zo rl q k => h.run zo rl q fun s1 ρ1 F1 H1 v1 h1 f1 r1 sr1 fr1 => by
    obtain ⟨F2, f2, r2, rp2⟩ := r1.freeze sr1 fr1
    obtain ⟨b, e, _, p⟩ := asB_of h1 rp2
    exact ⟨b, e, k _ _ _ _ _ p (f1.trans f2) r2 rfl fun w => nomatch w⟩⟩
end
end
end DL
namespace DL
open PySem L2
structure DEnds where
  nx : R → Prop
  rt : S → Prop
  bk : R → Prop := fun _ => False
  ct : R → Prop := fun _ => False
abbrev WS := DEnds → R → Prop
structure EndsOk (K : PySem.W.Frag) (H0 F0 F : Hp) (DD : DEnds) (Dh : Ends) : Prop where
  nx : ∀ ρ' F' H' σ', DD.nx ρ' → Same F F' → Rel K H0 F0 F' H' ρ' σ' → Dh.nx σ' H'
  rt : ∀ s v F' H', DD.rt s → Same F F' → Same H0 H' → Same F0 F' → Same F' H' → (∀ a, F' a ≠ none → F0 a ≠ none ∨ H0 a = none) → SRep K H0 F' H' s v → Dh.rt v H'
  bk : ∀ ρ' F' H' σ', DD.bk ρ' → Same F F' → Rel K H0 F0 F' H' ρ' σ' → Dh.bk σ' H'
  ct : ∀ ρ' F' H' σ', DD.ct ρ' → Same F F' → Rel K H0 F0 F' H' ρ' σ' → Dh.ct σ' H'
theorem EndsOk.on {K : PySem.W.Frag} {H0 F0 F F1 : Hp} {DD : DEnds} {Dh : Ends} (e : EndsOk K H0 F0 F DD Dh) (f : Same F F1) : EndsOk K H0 F0 F1 DD Dh :=
  ⟨fun ρ' F' H' σ' h g => e.nx ρ' F' H' σ' h (f.trans g), fun s v F' H' h g => e.rt s v F' H' h (f.trans g), fun ρ' F' H' σ' h g => e.bk ρ' F' H' σ' h (f.trans g), fun ρ' F' H' σ' h g => e.ct ρ' F' H' σ' h (f.trans g)⟩
def RunS (K : PySem.W.Frag) (Z : Zx) (t : TS) (w : WS) : Prop := ∀ {H0 F0 F H : Hp} {ρ : R} {σ : St} {DD : DEnds} {Dh : Ends}, Z.Ok K H0 F0 → Rel K H0 F0 F H ρ σ → EndsOk K H0 F0 F DD Dh → w DD ρ → t Dh σ H
structure DS (K : PySem.W.Frag) (X : Cx) (Z : Zx) (s : Stmt) (t : TS) (w : WS) : Prop where
  pe : PS X s t
  run : RunS K Z t w
structure DSs (K : PySem.W.Frag) (X : Cx) (Z : Zx) (s : List Stmt) (t : TS) (w : WS) : Prop where
  pe : PSs X s t
  run : RunS K Z t w
section
variable {K : PySem.W.Frag} {X : Cx} {Z : Zx} {pos : Pos} {st : Stmt} {rest : List Stmt} {t u : TS} {w v : WS} {e : Expr} {te : TE} {we : W}
def wNext : WS := fun DD ρ => DD.nx ρ
def wSeq (w v : WS) : WS := fun DD ρ => w { DD with nx := v DD } ρ
theorem run_next : RunS K Z tNext wNext := fun {H0 F0 F H ρ σ DD Dh} zo rl ee h => ee.nx ρ F H σ h (Same.refl _) rl
theorem run_seq (h1 : RunS K Z t w) (h2 : RunS K Z u v) : RunS K Z (tSeq t u) (wSeq w v) := fun {H0 F0 F H ρ σ DD Dh} zo rl ee h =>
  h1 (DD := { DD with nx := v DD }) (Dh := { Dh with nx := u Dh }) zo rl ⟨fun ρ' F' H' σ' q f r => h2 zo r (ee.on f) q, ee.rt, ee.bk, ee.ct⟩ h
theorem dss_nil : DSs K X Z [] tNext wNext := ⟨pss_nil, run_next⟩
theorem dss_cons (h1 : DS K X Z st t w) (h2 : DSs K X Z rest u v) : DSs K X Z (st :: rest) (tSeq t u) (wSeq w v) := ⟨pss_cons h1.pe h2.pe, run_seq h1.run h2.run⟩
theorem dss_one (h1 : DS K X Z st t w) : DSs K X Z [st] t w := ⟨pss_one h1.pe, h1.run⟩
def wDrop (we : W) : WS := fun DD ρ => we ρ fun _ ρ' => DD.nx ρ'
theorem ds_expr (he : DE K X Z e te we) (hs : swapsWith e none pos.line X.env = pure false := by rfl) : DS K X Z (.Expr e pos) (tDrop te) (wDrop we) :=
  ⟨ps_expr he.pe hs, fun {H0 F0 F H ρ σ DD Dh} zo rl ee h => he.run zo rl h fun s ρ' F' H' v p f r _ _ => ee.nx ρ' F' H' σ p f r⟩
def wRet (we : W) : WS := fun DD ρ => we ρ fun s _ => DD.rt s
theorem ds_ret (he : DE K X Z e te we) : DS K X Z (.Return (some e) pos) (tRet te) (wRet we) :=
  ⟨ps_ret he.pe, fun {H0 F0 F H ρ σ DD Dh} zo rl ee h => he.run zo rl h fun s ρ' F' H' v p f r sr _ => ee.rt s v F' H' p f r.h r.f r.fh r.nw sr⟩
def wRetN : WS := fun DD _ => DD.rt (.d .non)
def wIfS (c : WT) (a b : WS) : WS := fun DD ρ => c ρ fun k ρ1 => if k = true then a DD ρ1 else b DD ρ1
theorem ds_if {c : Expr} {a b : List Stmt} {tc : TT} {wc : WT} (hc : DT K X Z c tc wc) (ha : DSs K X Z a t w) (hb : DSs K X Z b u v) : DS K X Z (.If c a b pos) (tIfS tc t u) (wIfS wc w v) :=
  ⟨ps_if hc.pe ha.pe hb.pe, fun {H0 F0 F H ρ σ DD Dh} zo rl ee h => hc.run zo rl h fun k ρ1 F1 H1 p f r => by
    cases k with
    | true => exact ha.run zo r (ee.on f) p
    | false => exact hb.run zo r (ee.on f) p⟩
def wSet (i : Nat) (we : W) : WS := fun DD ρ => we ρ fun s ρ1 => DD.nx (put ρ1 i (some s))
theorem run_set {i : Nat} (he : RunE K Z te we) : RunS K Z (tAsg te (gName i)) (wSet i we) := fun {H0 F0 F H ρ σ DD Dh} zo rl ee h =>
  he zo rl h fun s ρ' F' H' v p f r sr fr => by
    rw [put_eq] at p
    exact ee.nx _ F' H' _ p f (r.store sr fr i)
theorem ds_set (i : Nat) {x : Str} {py : Pos} (hN : X.N.Nodup) (he : DE K X Z e te we) (hi : X.N[i]? = some x := by rfl) (hx : Loc X.env.scope x := by first | exact Or.inl rfl | exact Or.inr rfl)
    (hf : X.fn x = true ∨ X.env.scope.names.lookup x = some .local := by first | exact .inl rfl | exact .inr rfl)
    (hs : swapsWithSole [.Name x py] e pos.line X.env = pure false := by rfl) (hw : swappedStores [.Name x py] e X.env = pure none := by rfl) (h1 : (assignEach [.Name x py] X.env).map (·.2) = [assign (.Name x py) X.env] := by rfl) :
    DS K X Z (.Assign [.Name x py] e pos) (tAsg te (gName i)) (wSet i we) := ⟨ps_asg he.pe (pg_name hN hi hx hf) hs hw h1, run_set he.run⟩
abbrev WG := D → R → (R → Prop) → Prop
abbrev WGs := List D → R → (R → Prop) → Prop
def RunG (K : PySem.W.Frag) (Z : Zx) (t : TG) (w : WG) : Prop := ∀ {H0 F0 F H : Hp} {ρ : R} {σ : St} {Q : St → Hp → Prop} {P : R → Prop} {d : D} {v : V}, Z.Ok K H0 F0 → Rel K H0 F0 F H ρ σ → Rep K F d v → w d ρ P →
    (∀ ρ' F' H' σ', P ρ' → Same F F' → Rel K H0 F0 F' H' ρ' σ' → Q σ' H') → t v σ H Q
def RunGs (K : PySem.W.Frag) (Z : Zx) (t : TGs) (w : WGs) : Prop := ∀ {H0 F0 F H : Hp} {ρ : R} {σ : St} {Q : St → Hp → Prop} {P : R → Prop} {ds : List D} {vs : List V}, Z.Ok K H0 F0 → Rel K H0 F0 F H ρ σ → Reps K F ds vs → w ds ρ P →
    (∀ ρ' F' H' σ', P ρ' → Same F F' → Rel K H0 F0 F' H' ρ' σ' → Q σ' H') → t vs σ H Q
structure DG (K : PySem.W.Frag) (X : Cx) (Z : Zx) (e : Expr) (t : TG) (w : WG) : Prop where
  pe : PG X e t
  run : RunG K Z t w
structure DGs (K : PySem.W.Frag) (X : Cx) (Z : Zx) (es : List Expr) (t : TGs) (w : WGs) : Prop where
  pe : PGs X es t
  run : RunGs K Z t w
def wgName (i : Nat) : WG := fun d ρ P => P (put ρ i (some (.d d)))
theorem dg_name (i : Nat) {x : Str} (hN : X.N.Nodup) (hi : X.N[i]? = some x := by rfl) (hx : Loc X.env.scope x := by first | exact Or.inl rfl | exact Or.inr rfl) (hf : X.fn x = true ∨ X.env.scope.names.lookup x = some .local := by first | exact .inl rfl | exact .inr rfl) :
    DG K X Z (.Name x pos) (gName i) (wgName i) :=
  ⟨pg_name hN hi hx hf, fun {H0 F0 F H ρ σ Q P d v} zo rl rp h k => by
    rw [wgName, put_eq] at h
    exact k _ F H _ h (Same.refl _) (rl.store (s := .d d) rp (fun w => nomatch w) i)⟩
def wgNil : WGs := fun ds ρ P => ds = [] ∧ P ρ
def wgCons (w : WG) (r : WGs) : WGs := fun ds ρ P => match ds with
  | d :: ds => w d ρ fun ρ1 => r ds ρ1 P
  | [] => False
theorem dgs_nil : DGs K X Z [] gNil wgNil := ⟨pgs_nil, fun {H0 F0 F H ρ σ Q P ds vs} zo rl rp h k => by
    obtain ⟨rfl, p⟩ := h
    exact ⟨rp, k _ F H σ p (Same.refl _) rl⟩⟩
theorem dgs_cons {es : List Expr} {tg : TG} {tr : TGs} {wg : WG} {wr : WGs} (h1 : DG K X Z e tg wg) (h2 : DGs K X Z es tr wr) (hs : (assignEach (e :: es) X.env).map (·.2) = assign e X.env :: (assignEach es X.env).map (·.2) := by rfl) :
    DGs K X Z (e :: es) (gCons tg tr) (wgCons wg wr) := ⟨pgs_cons h1.pe h2.pe hs, fun {H0 F0 F H ρ σ Q P ds vs} zo rl rp h k => by
    cases ds with
    | nil => exact h.elim
    | cons d ds =>
      obtain ⟨v, r, rfl, q1, q2⟩ := rp
      exact ⟨v, r, rfl, h1.run zo rl q1 h fun ρ1 F1 H1 σ1 p f r1 => h2.run zo r1 (Reps.mono f _ _ q2) p fun ρ2 F2 H2 σ2 p2 f2 r2 => k _ _ _ _ p2 (f.trans f2) r2⟩⟩
def wgTup (n : Nat) (wr : WGs) : WG := fun d ρ P => match d with
  | .tup ds => ds.length = n ∧ wr ds ρ P
  | _ => False
theorem dg_tup {es : List Expr} {kx : Nat} {tr : TGs} {wr : WGs} {n : Nat} (hc : X.calm = true) (h : DGs K X Z es tr wr) (hK : X.K = K := by rfl) (hn : (assignEach es X.env).length = n := by rfl) (hst : (assignEach es X.env).findIdx? (·.1) = none := by rfl) :
    DG K X Z (.Tuple es kx pos) (gTup K n tr) (wgTup n wr) := by
  refine ⟨by subst hK; exact pg_tup hc h.pe hn hst, fun {H0 F0 F H ρ σ Q P d v} zo rl rp q k => ?_⟩
  cases d with
  | tup ds =>
    obtain ⟨a, vs, rfl, s1, s2⟩ := rp
    exact ⟨a, vs, rfl, Same.sqT rl.fh s1, by rw [s2.len]; exact q.1, h.run zo rl s2 q.2 k⟩
  | _ => exact q.elim
def wAsg (we : W) (wg : WG) : WS := fun DD ρ => we ρ fun s ρ1 => wg s.fz ρ1 DD.nx
theorem ds_asg {tg : Expr} {g : TG} {wg : WG} (he : DE K X Z e te we) (hg : DG K X Z tg g wg) (hs : swapsWithSole [tg] e pos.line X.env = pure false := by rfl) (hw : swappedStores [tg] e X.env = pure none := by rfl)
    (h1 : (assignEach [tg] X.env).map (·.2) = [assign tg X.env] := by rfl) : DS K X Z (.Assign [tg] e pos) (tAsg te g) (wAsg we wg) :=
  ⟨ps_asg he.pe hg.pe hs hw h1, fun {H0 F0 F H ρ σ DD Dh} zo rl ee h => he.run zo rl h fun s ρ' F' H' v p f r sr fr => by
    obtain ⟨F2, f2, r2, rp2⟩ := r.freeze sr fr
    exact hg.run zo r2 rp2 p fun ρ3 F3 H3 σ3 p3 f3 r3 => ee.nx _ _ _ _ p3 (f.trans (f2.trans f3)) r3⟩
structure ItOk (K : PySem.W.Frag) (J : It) (items : List D) (F1 : Hp) : Prop where
  go : ∀ {i : Nat} {F H : Hp}, Same F1 F → Same F H → i < items.length → J.go i H
  stop : ∀ {i : Nat} {F H : Hp}, Same F1 F → Same F H → items.length ≤ i → J.stop i H
  yld : ∀ {i : Nat} {F H H2 : Hp} {x : V}, Same F1 F → Same F H → J.yld i H x H2 → i < items.length →
    ∃ F2 d, items[i]? = some d ∧ Same H H2 ∧ Same F F2 ∧ Same F2 H2 ∧ (∀ a, F2 a ≠ none → F a ≠ none ∨ H a = none) ∧ Rep K F2 d x
def RunI (K : PySem.W.Frag) (Z : Zx) (t : TI) (w : WA) : Prop := ∀ {H0 F0 F H : Hp} {ρ : R} {σ : St} {Q : It → Hp → Prop} {P : List D → R → Prop}, Z.Ok K H0 F0 → Rel K H0 F0 F H ρ σ → w ρ P →
    (∀ items ρ' F' H' J, P items ρ' → Same F F' → Rel K H0 F0 F' H' ρ' σ → ItOk K J items F' → Q J H') → t σ H Q
structure DI (K : PySem.W.Frag) (X : Cx) (Z : Zx) (tg iter : Expr) (t : TI) (w : WA) : Prop where
  pe : PI X tg iter t
  run : RunI K Z t w
theorem ItOk.pure {K : PySem.W.Frag} {J : It} {items : List D} {F1 : Hp} (go : ∀ {i : Nat} {F H : Hp}, Same F1 F → Same F H → i < items.length → J.go i H) (stop : ∀ {i : Nat} {F H : Hp}, Same F1 F → Same F H → items.length ≤ i → J.stop i H)
    (yld : ∀ {i : Nat} {F H H2 : Hp} {x : V}, Same F1 F → Same F H → J.yld i H x H2 → i < items.length → ∃ d, items[i]? = some d ∧ H2 = H ∧ Rep K F d x) : ItOk K J items F1 :=
  ⟨go, stop, fun f h y l => by
    obtain ⟨d, e, rfl, r⟩ := yld f h y l
    exact ⟨_, d, e, Same.refl _, Same.refl _, h, fun _ q => .inl q, r⟩⟩
def asL (d : D) (P : List D → Prop) : Prop := match d with
  | .lst xs => P xs
  | .cel ns => P (ns.map .int)
  | _ => False
theorem asL_of {K : PySem.W.Frag} {F : Hp} {d : D} {v : V} {P : List D → Prop} (h : asL d P) (r : Rep K F d v) : ∃ a vs xs, v = .ref a ∧ SqL K F a vs ∧ Reps K F xs vs ∧ P xs := by
  cases d <;> first
    | exact h.elim
    | (obtain ⟨a, vs, e, h1, h2⟩ := r; exact ⟨a, vs, _, e, SqL.of h1, h2, h⟩)
    | (obtain ⟨a, e, h1⟩ := r; exact ⟨a, _, _, e, h1, Reps.ints.mpr rfl, h⟩)
def asT (d : D) (P : List D → Prop) : Prop := match d with
  | .tup xs => P xs
  | _ => False
def signs (z : Str) : List Str := z.cps.toList.map fun c => ⟨#[c]⟩
def rangeD (lo : Int) (n : Nat) : List D := (List.range n).map fun (i : Nat) => .int (lo + i)
theorem rangeD_len (lo : Int) (n : Nat) : (rangeD lo n).length = n := by simp [rangeD]
theorem it_range {K : PySem.W.Frag} {lo : Int} {n : Nat} {F1 : Hp} : ItOk K (Itr lo n) (rangeD lo n) F1 :=
  ItOk.pure (fun {i F H} f g l => by rw [rangeD_len] at l; exact l) (fun {i F H} f g l => by rw [rangeD_len] at l; exact l) fun {i F H H2 x} f g y l => by
    obtain ⟨rfl, rfl⟩ := y
    rw [rangeD_len] at l
    exact ⟨.int (lo + i), by simp [rangeD, l], rfl, rfl⟩
def wiR1 (wa : WA) : WA := fun ρ P => wa ρ fun ds ρ1 => match ds with
  | [.int j] => (-(2 ^ 62) ≤ j ∧ j < 2 ^ 62) ∧ P (rangeD 0 j.toNat) ρ1
  | _ => False
def wiR2 (wa : WA) : WA := fun ρ P => wa ρ fun ds ρ1 => match ds with
  | [.int i, .int j] => (-(2 ^ 62) ≤ i ∧ i < 2 ^ 62 ∧ -(2 ^ 62) ≤ j ∧ j < 2 ^ 62) ∧ P (rangeD i (j - i).toNat) ρ1
  | _ => False
theorem di_range1 {tg a : Expr} {p : Pos} {ta : TA} {wa : WA} (hm : X.mg "range" = none) (ha : DA K X Z [a] ta wa) (hg : Gl X "range" := by rfl) (hs : starEach [a] X.env = [(false, eval a X.env)] := by rfl) :
    DI K X Z tg (.Call (.Name "range" p) [a] [] pos) (iRng1 ta) (wiR1 wa) := by
  refine ⟨pi_range1 hg hm ha.pe hs, fun {H0 F0 F H ρ σ Q P} zo rl h k => ha.run zo rl h fun ds ρ1 F1 H1 vs h1 f1 r1 rps => ?_⟩
  split at h1
  · obtain ⟨v, r, rfl, rfl, rfl⟩ := rps
    exact ⟨_, rfl, h1.1.1, h1.1.2, k _ _ _ _ _ h1.2 f1 r1 it_range⟩
  · exact h1.elim
def forD (wg : WG) (wb : WS) (DD : DEnds) : List D → R → Prop
  | [], ρ => DD.nx ρ
  | d :: ds, ρ => wg d ρ fun ρ1 => ∃ N : R → Prop, (∀ ρ', N ρ' → forD wg wb DD ds ρ') ∧ wb ⟨N, DD.rt, DD.nx, N⟩ ρ1
def wFor (wi : WA) (wg : WG) (wb : WS) : WS := fun DD ρ => wi ρ fun items ρ1 => forD wg wb DD items ρ1
theorem run_for {wi : TI} {wa : WA} {g : TG} {wg : WG} {tb : TS} {wb : WS} (hi : RunI K Z wi wa) (hg : RunG K Z g wg) (hb : RunS K Z tb wb) : RunS K Z (tFor wi g tb) (wFor wa wg wb) := fun {H0 F0 F H ρ σ DD Dh} zo rl ee h => by
  refine hi zo rl h fun items ρ1 F1 H1 J h1 f1 r1 it => ?_
  refine ⟨fun i m σ H => m = items.length - i ∧ i ≤ items.length ∧ ∃ F2 ρ2, Same F1 F2 ∧ Rel K H0 F0 F2 H ρ2 σ ∧ forD wg wb DD (items.drop i) ρ2, ⟨_, rfl, Nat.zero_le _, F1, ρ1, Same.refl _, r1, h1⟩, ?_⟩
  rintro i m σ H ⟨rfl, hi, F2, ρ2, f2, r2, w⟩
  by_cases hlt : i < items.length
  · refine .inr ⟨it.go f2 r2.fh hlt, fun σ' H' => (fun i m σ H => m = items.length - i ∧ i ≤ items.length ∧ ∃ F2 ρ2, Same F1 F2 ∧ Rel K H0 F0 F2 H ρ2 σ ∧ forD wg wb DD (items.drop i) ρ2) (i + 1) (items.length - (i + 1)) σ' H',
      fun σ' H' q => ⟨_, by omega, q⟩, fun x H2 y => ?_⟩
    obtain ⟨F3, d, e, hh, ff, fh, nw, rp⟩ := it.yld f2 r2.fh y hlt
    have r3 : Rel K H0 F0 F3 H2 ρ2 σ := r2.after hh ff fh nw
    rw [List.drop_eq_getElem_cons hlt] at w
    have ed : items[i] = d := by rw [List.getElem?_eq_getElem hlt] at e; exact Option.some.inj e
    rw [ed] at w
    refine hg zo r3 rp w fun ρ4 F4 H4 σ4 p4 f4 r4 => ?_
    obtain ⟨N, hN, p4⟩ := p4
    refine hb (DD := ⟨N, DD.rt, DD.nx, N⟩) zo r4 ⟨fun ρ' F' H' σ' q f r => ?_, ?_, fun ρ' F' H' σ' q f r => ee.nx _ _ _ _ q (f1.trans (f2.trans (ff.trans (f4.trans f)))) r, fun ρ' F' H' σ' q f r => ?_⟩ p4
    · exact ⟨rfl, hlt, F', ρ', f2.trans (ff.trans (f4.trans f)), r, hN _ q⟩
    · exact fun s v F' H' q f => ee.rt s v F' H' q (f1.trans (f2.trans (ff.trans (f4.trans f))))
    · exact ⟨rfl, hlt, F', ρ', f2.trans (ff.trans (f4.trans f)), r, hN _ q⟩
  · have e : items.drop i = [] := List.drop_eq_nil_of_le (by omega)
    rw [e] at w
    exact .inl ⟨it.stop f2 r2.fh (by omega), ee.nx _ _ _ _ w (f1.trans f2) r2⟩
theorem ds_for {tg iter : Expr} {body : List Stmt} {wi : TI} {wa : WA} {g : TG} {wg : WG} {tb : TS} {wb : WS} (hp : PassesOwn (model X.prog X.w) X.A X.env X.xe) (hc : X.calm = true) (hi : DI K X Z tg iter wi wa) (hg : DG K X Z tg g wg) (hb : DSs K X Z body tb wb)
    (hs : ∀ x, foldedSetIterable iter X.env x = pure x := by intro _; rfl) : DS K X Z (.For tg iter body [] pos) (tFor wi g tb) (wFor wa wg wb) := ⟨ps_for hp hc hi.pe hg.pe hb.pe hs, run_for hi.run hg.run hb.run⟩
def wWhile (wc : WT) (wb : WS) : WS := fun DD ρ => ∃ W : Nat → R → Prop, (∃ m, W m ρ) ∧ ∀ m ρ, W m ρ → wc ρ fun b ρ1 => if b = true then wb ⟨fun ρ' => ∃ m', m' < m ∧ W m' ρ', DD.rt, DD.nx, fun ρ' => ∃ m', m' < m ∧ W m' ρ'⟩ ρ1 else DD.nx ρ1
theorem ds_while {c : Expr} {body : List Stmt} {tc : TT} {wc : WT} {tb : TS} {wb : WS} (hp : PassesOwn (model X.prog X.w) X.A X.env X.xe) (hc : DT K X Z c tc wc) (hb : DSs K X Z body tb wb) : DS K X Z (.While c body [] pos) (tWhile tc tb) (wWhile wc wb) :=
  ⟨ps_while hp hc.pe hb.pe, fun {H0 F0 F H ρ σ DD Dh} zo rl ee h => by
    obtain ⟨W, ⟨m0, w0⟩, turn⟩ := h
    refine ⟨fun m σ H => ∃ F2 ρ2, Same F F2 ∧ Rel K H0 F0 F2 H ρ2 σ ∧ W m ρ2, ⟨m0, F, ρ, Same.refl _, rl, w0⟩, ?_⟩
    rintro m σ H ⟨F2, ρ2, f2, r2, w⟩
    refine hc.run zo r2 (turn m ρ2 w) fun b ρ3 F3 H3 p f3 r3 => ?_
    cases b with
    | true =>
      refine ⟨fun σ' H' => ∃ m', m' < m ∧ ∃ F2 ρ2, Same F F2 ∧ Rel K H0 F0 F2 H' ρ2 σ' ∧ W m' ρ2, fun σ' H' q => q, ?_⟩
      refine hb.run (DD := ⟨fun ρ' => ∃ m', m' < m ∧ W m' ρ', DD.rt, DD.nx, fun ρ' => ∃ m', m' < m ∧ W m' ρ'⟩) zo r3 ⟨fun ρ' F' H' σ' q f r => ?_, fun s v F' H' q f => ee.rt s v F' H' q (f2.trans (f3.trans f)), fun ρ' F' H' σ' q f r => ee.nx _ _ _ _ q (f2.trans (f3.trans f)) r, fun ρ' F' H' σ' q f r => ?_⟩ p
      all_goals
        obtain ⟨m', hm, w'⟩ := q
        exact ⟨m', hm, F', ρ', f2.trans (f3.trans f), r, w'⟩
    | false => exact ee.nx _ _ _ _ p (f2.trans f3) r3⟩
def wipeR (ρ : R) : List Nat → R
  | [] => ρ
  | v :: vs => put (wipeR ρ vs) v none
theorem Rel.setN {H0 F0 F H : Hp} {ρ : R} {σ : St} (r : Rel K H0 F0 F H ρ σ) (v : Nat) (x : Option V) : Rel K H0 F0 F H (ρ.set v none) (σ.set v x) := by
  have r1 := r.drop1 v
  refine ⟨r1.h, r1.f, r1.fh, r1.nw, by simp [r.len], fun i s q => ?_, fun i j s t q1 q2 w1 w2 e => ?_⟩
  · have hi : i ≠ v := by rintro rfl; exact set_none q
    obtain ⟨u, q1, q2⟩ := r1.at_ i s q
    exact ⟨u, by rw [List.getElem?_set_ne (Ne.symm hi)]; exact q1, q2⟩
  · have hi : i ≠ v := by rintro rfl; exact set_none q1
    have hj : j ≠ v := by rintro rfl; exact set_none q2
    rw [List.getElem?_set_ne (Ne.symm hi), List.getElem?_set_ne (Ne.symm hj)] at e
    exact r1.ap i j s t q1 q2 w1 w2 e
theorem Rel.wipe {H0 F0 F H : Hp} {ρ : R} {σ : St} (r : Rel K H0 F0 F H ρ σ) : ∀ vs : List Nat, Rel K H0 F0 F H (wipeR ρ vs) (wipe σ vs)
  | [] => r
  | v :: vs => by
    rw [wipeR, put_eq]
    exact (Rel.wipe r vs).setN v none
structure DGb (K : PySem.W.Frag) (X : Cx) (Z : Zx) (e : Expr) (vs : List Nat) (t : TG) (w : WG) : Prop where
  pe : PG X e t
  run : ∀ {H0 F0 F H : Hp} {ρ : R} {σ : St} {Q : St → Hp → Prop} {P : R → Prop} {d : D} {v : V}, Z.Ok K H0 F0 → Rel K H0 F0 F H ρ σ → Rep K F d v → w d ρ P →
    (∀ ρ' F' H' σ', P ρ' → Same F F' → Rel K H0 F0 F' H' ρ' σ' → L2.wipe σ' vs = L2.wipe σ vs → Q σ' H') → t v σ H Q
end
theorem wipe_comm (σ : St) (i : Nat) (x : Option V) : ∀ vs : List Nat, i ∉ vs → L2.wipe (σ.set i x) vs = (L2.wipe σ vs).set i x
  | [], _ => rfl
  | v :: vs, h => by
    have h1 : i ≠ v := fun e => h (by rw [e]; exact List.mem_cons_self)
    show (L2.wipe (σ.set i x) vs).set v none = ((L2.wipe σ vs).set v none).set i x
    rw [wipe_comm σ i x vs fun z => h (List.mem_cons_of_mem _ z), List.set_comm _ _ h1]
theorem wipe_set (σ : St) (i : Nat) (x : Option V) : ∀ vs : List Nat, i ∈ vs → L2.wipe (σ.set i x) vs = L2.wipe σ vs
  | [], h => by cases h
  | v :: vs, h => by
    show (L2.wipe (σ.set i x) vs).set v none = (L2.wipe σ vs).set v none
    by_cases hv : i ∈ vs
    · rw [wipe_set σ i x vs hv]
    · have e : i = v := (List.mem_cons.mp h).elim id fun z => absurd z hv
      subst e
      rw [wipe_comm σ i x vs hv, List.set_set]
theorem wipe_idem (σ : St) : ∀ vs us : List Nat, (∀ v ∈ us, v ∈ vs) → L2.wipe (L2.wipe σ us) vs = L2.wipe σ vs
  | vs, [], _ => rfl
  | vs, u :: us, h => by
    show L2.wipe ((L2.wipe σ us).set u none) vs = L2.wipe σ vs
    rw [wipe_set _ _ _ _ (h u List.mem_cons_self), wipe_idem σ vs us fun v z => h v (List.mem_cons_of_mem _ z)]
section
variable {K : PySem.W.Frag} {X : Cx} {Z : Zx} {pos : Pos} {e : Expr} {te : TE} {we : W}
theorem dgb_name (i : Nat) {vs : List Nat} {x : Str} (hN : X.N.Nodup) (hv : i ∈ vs := by decide) (hi : X.N[i]? = some x := by rfl) (hx : Loc X.env.scope x := by first | exact Or.inl rfl | exact Or.inr rfl) (hf : X.fn x = true ∨ X.env.scope.names.lookup x = some .local := by first | exact .inl rfl | exact .inr rfl) :
    DGb K X Z (.Name x pos) vs (gName i) (wgName i) :=
  ⟨pg_name hN hi hx hf, fun {H0 F0 F H ρ σ Q P d v} zo rl rp h k => by
    rw [wgName, put_eq] at h
    exact k _ F H _ h (Same.refl _) (rl.store (s := .d d) rp (fun w => nomatch w) i) (wipe_set _ _ _ _ hv)⟩
structure DGbs (K : PySem.W.Frag) (X : Cx) (Z : Zx) (es : List Expr) (vs : List Nat) (t : TGs) (w : WGs) : Prop where
  pe : PGs X es t
  run : ∀ {H0 F0 F H : Hp} {ρ : R} {σ : St} {Q : St → Hp → Prop} {P : R → Prop} {ds : List D} {us : List V}, Z.Ok K H0 F0 → Rel K H0 F0 F H ρ σ → Reps K F ds us → w ds ρ P →
    (∀ ρ' F' H' σ', P ρ' → Same F F' → Rel K H0 F0 F' H' ρ' σ' → L2.wipe σ' vs = L2.wipe σ vs → Q σ' H') → t us σ H Q
theorem dgbs_nil {vs : List Nat} : DGbs K X Z [] vs gNil wgNil := ⟨pgs_nil, fun {H0 F0 F H ρ σ Q P ds us} zo rl rp h k => by
    obtain ⟨rfl, p⟩ := h
    exact ⟨rp, k _ F H σ p (Same.refl _) rl rfl⟩⟩
theorem dgbs_cons {es : List Expr} {vs : List Nat} {tg : TG} {tr : TGs} {wg : WG} {wr : WGs} (h1 : DGb K X Z e vs tg wg) (h2 : DGbs K X Z es vs tr wr) (hs : (assignEach (e :: es) X.env).map (·.2) = assign e X.env :: (assignEach es X.env).map (·.2) := by rfl) :
    DGbs K X Z (e :: es) vs (gCons tg tr) (wgCons wg wr) := ⟨pgs_cons h1.pe h2.pe hs, fun {H0 F0 F H ρ σ Q P ds us} zo rl rp h k => by
    cases ds with
    | nil => exact h.elim
    | cons d ds =>
      obtain ⟨v, r, rfl, q1, q2⟩ := rp
      exact ⟨v, r, rfl, h1.run zo rl q1 h fun ρ1 F1 H1 σ1 p f r1 e1 => h2.run zo r1 (Reps.mono f _ _ q2) p fun ρ2 F2 H2 σ2 p2 f2 r2 e2 => k _ _ _ _ p2 (f.trans f2) r2 (e2.trans e1)⟩⟩
theorem dgb_tup {es : List Expr} {vs : List Nat} {kx : Nat} {tr : TGs} {wr : WGs} {n : Nat} (hc : X.calm = true) (h : DGbs K X Z es vs tr wr) (hK : X.K = K := by rfl) (hn : (assignEach es X.env).length = n := by rfl) (hst : (assignEach es X.env).findIdx? (·.1) = none := by rfl) :
    DGb K X Z (.Tuple es kx pos) vs (gTup K n tr) (wgTup n wr) := by
  refine ⟨by subst hK; exact pg_tup hc h.pe hn hst, fun {H0 F0 F H ρ σ Q P d v} zo rl rp q k => ?_⟩
  cases d with
  | tup ds =>
    obtain ⟨a, us, rfl, s1, s2⟩ := rp
    exact ⟨a, us, rfl, Same.sqT rl.fh s1, by rw [s2.len]; exact q.1, h.run zo rl s2 q.2 k⟩
  | _ => exact q.elim
structure DTs (K : PySem.W.Frag) (X : Cx) (Z : Zx) (es : List Expr) (t : TT) (w : WT) : Prop where
  pe : PTs X es t
  run : RunT K Z t w
def wYes : WT := fun ρ P => P true ρ
theorem dts_nil : DTs K X Z [] tYes wYes := ⟨pts_nil, fun {H0 F0 F H ρ σ Q P} zo rl h k => k _ _ F H h (Same.refl _) rl⟩
theorem dts_one {t : TT} {w : WT} (h : DT K X Z e t w) : DTs K X Z [e] t w := ⟨pts_one h.pe, h.run⟩
def dataR : R → R
  | [] => []
  | some (.d x) :: r => some (.d x) :: dataR r
  | _ :: r => none :: dataR r
theorem dataR_get : ∀ {ρ : R} {i : Nat} {s : S}, (dataR ρ)[i]? = some (some s) → ∃ x, s = .d x ∧ ρ[i]? = some (some (.d x))
  | [], i, s, h => by simp [dataR] at h
  | o :: r, 0, s, h => by
    cases o with
    | none => simp [dataR] at h
    | some t =>
      cases t with
      | d x => simp [dataR] at h; exact ⟨x, h.symm, rfl⟩
      | ol _ => simp [dataR] at h
      | od _ => simp [dataR] at h
      | oi _ _ => simp [dataR] at h
      | os _ _ _ => simp [dataR] at h
  | o :: r, i + 1, s, h => by
    have h' : (dataR r)[i]? = some (some s) := by
      cases o with
      | none => simpa [dataR] using h
      | some t => cases t <;> simpa [dataR] using h
    obtain ⟨x, e, q⟩ := dataR_get h'
    exact ⟨x, e, by simpa using q⟩
theorem dataR_len : ∀ ρ : R, (dataR ρ).length = ρ.length
  | [] => rfl
  | o :: r => by
    cases o with
    | none => simp [dataR, dataR_len r]
    | some t => cases t <;> simp [dataR, dataR_len r]
theorem wipeR_len (ρ : R) : ∀ vs : List Nat, (wipeR ρ vs).length = ρ.length
  | [] => rfl
  | v :: vs => by rw [wipeR, put_eq, List.length_set, wipeR_len ρ vs]
theorem wipeR_get {ρ : R} {i : Nat} {s : S} : ∀ {vs : List Nat}, (wipeR ρ vs)[i]? = some (some s) → ρ[i]? = some (some s) ∧ i ∉ vs
  | [], h => ⟨h, by simp⟩
  | v :: vs, h => by
    rw [wipeR, put_eq] at h
    by_cases hi : i = v
    · subst hi; exact (set_none h).elim
    · rw [List.getElem?_set_ne (Ne.symm hi)] at h
      obtain ⟨h1, h2⟩ := wipeR_get h
      exact ⟨h1, fun z => (List.mem_cons.mp z).elim hi h2⟩
theorem wipe_out (σ : St) : ∀ (vs : List Nat) (i : Nat), i ∉ vs → (L2.wipe σ vs)[i]? = σ[i]?
  | [], i, _ => rfl
  | v :: vs, i, h => by
    show ((L2.wipe σ vs).set v none)[i]? = _
    rw [List.getElem?_set_ne (fun e => h (by rw [e]; exact List.mem_cons_self)), wipe_out σ vs i fun z => h (List.mem_cons_of_mem _ z)]
theorem Rel.view {H0 F0 F H F' H' : Hp} {ρ : R} {σ : St} (r : Rel K H0 F0 F H ρ σ) (f : Same F F') (fh : Same F' H') (vs : List Nat) : Rel K H' F' F' H' (wipeR (dataR ρ) vs) (L2.wipe σ vs) := by
  refine ⟨Same.refl _, Same.refl _, fh, fun _ q => .inl q, ?_, fun i s q => ?_, fun i j s t q1 q2 w1 w2 z => ?_⟩
  · rw [wipeR_len, dataR_len, wipe_length, r.len]
  · obtain ⟨h1, h2⟩ := wipeR_get q
    obtain ⟨x, rfl, h3⟩ := dataR_get h1
    obtain ⟨v, z1, z2⟩ := r.at_ i _ h3
    exact ⟨v, by rw [wipe_out σ vs i h2]; exact z1, Rep.mono f _ _ z2⟩
  · obtain ⟨h1, h2⟩ := wipeR_get q1
    obtain ⟨x, rfl, h3⟩ := dataR_get h1
    cases w1
theorem Zx.Ok.on {H0 F0 H1 F1 : Hp} (zo : Z.Ok K H0 F0) (hh : Same H0 H1) (ff : Same F0 F1) (nw : ∀ a, F1 a ≠ none → F0 a ≠ none ∨ H0 a = none) : Z.Ok K H1 F1 := fun N C fs d F' H' p g h1 f1 fh n x =>
  zo N C fs d F' H' p g (hh.trans h1) (ff.trans f1) fh (fun a q => by
    rcases n a q with z | z
    · exact nw a z
    · exact .inr (hh.free z)) x
def compD (wg : WG) (wt : WT) (we : W) (ρb : R) : List D → (List D → Prop) → Prop
  | [], P => P []
  | d :: ds, P => wg d ρb fun ρ1 => wt ρ1 fun b ρ2 => if b = true then we ρ2 fun s _ => compD wg wt we ρb ds fun r => P (s.fz :: r) else compD wg wt we ρb ds P
def wLc (wi : WA) (wg : WG) (wt : WT) (we : W) (vs : List Nat) : W := fun ρ P => wi ρ fun items ρ1 => items.length ≤ sizeLine ∧ compD wg wt we (wipeR (dataR ρ1) vs) items fun acc => P (.ol acc) ρ1
theorem run_lc {wi : TI} {wa : WA} {g : TG} {wg : WG} {tt : TT} {wt : WT} {vs : List Nat} (hi : RunI K Z wi wa)
    (hg : ∀ {H0 F0 F H : Hp} {ρ : R} {σ : St} {Q : St → Hp → Prop} {P : R → Prop} {d : D} {v : V}, Z.Ok K H0 F0 → Rel K H0 F0 F H ρ σ → Rep K F d v → wg d ρ P →
      (∀ ρ' F' H' σ', P ρ' → Same F F' → Rel K H0 F0 F' H' ρ' σ' → L2.wipe σ' vs = L2.wipe σ vs → Q σ' H') → g v σ H Q)
    (ht : RunT K Z tt wt) (he : RunE K Z te we) : RunE K Z (tLc wi g tt te vs) (wLc wa wg wt we vs) := fun {H0 F0 F H ρ σ Q P} zo rl h k => by
  refine hi zo rl h fun items ρ1 F1 H1 J h1 f1 r1 it => fun D nD => ?_
  obtain ⟨hsz, h1⟩ := h1
  let Iv := fun (i : Nat) (H : Hp) => ∃ F2 acc vs', Same H1 H ∧ Same F1 F2 ∧ Same F2 H ∧ (∀ a, F2 a ≠ none → F1 a ≠ none ∨ H1 a = none) ∧ F2 D = none ∧ H D = some (.lst vs') ∧ Reps K F2 acc vs' ∧ acc.length ≤ i ∧
    compD wg wt we (wipeR (dataR ρ1) vs) (items.drop i) fun r => P (.ol (acc ++ r)) ρ1
  refine ⟨fun i m H => m = items.length - i ∧ i ≤ items.length ∧ Iv i H, ⟨_, rfl, Nat.zero_le _, F1, [], [], Same.new nD, Same.refl _, r1.fh.trans (Same.new nD), fun _ q => .inl q, r1.fh.free nD, upd_same, rfl, Nat.le_refl _, h1⟩, ?_⟩
  rintro i m H ⟨rfl, hi, F2, acc, vs', hh, ff, fh, nw, fn, hD, ra, la, w⟩
  by_cases hlt : i < items.length
  · refine .inr ⟨it.go ff fh hlt, fun H' => Iv (i + 1) H', fun H' q => ⟨items.length - (i + 1), by omega, rfl, hlt, q⟩, fun x H2 y => ?_⟩
    obtain ⟨F3, d, e, hh3, ff3, fh3, nw3, rp⟩ := it.yld ff fh y hlt
    rw [List.drop_eq_getElem_cons hlt] at w
    have ed : items[i] = d := by rw [List.getElem?_eq_getElem hlt] at e; exact Option.some.inj e
    rw [ed] at w
    have nwF3 : ∀ a, F3 a ≠ none → F1 a ≠ none ∨ H1 a = none := fun a q => by
      rcases nw3 a q with z | z
      · exact nw a z
      · exact .inr (hh.free z)
    have fn3 : F3 D = none := by
      cases q : F3 D with
      | none => rfl
      | some u =>
        rcases nw3 D (by rw [q]; exact fun z => nomatch z) with z | z
        · exact absurd fn z
        · rw [z] at hD; cases hD
    have r3 := r1.view (ff.trans ff3) fh3 vs
    have zo3 : Z.Ok K H2 F3 := (zo.on r1.h r1.f r1.nw).on (hh.trans hh3) (ff.trans ff3) nwF3
    -- what the turn leaves: from the state at its start
    have out : ∀ {F5 H5 : Hp} {ρ5 : R} {σ5 : St}, Rel K H2 F3 F5 H5 ρ5 σ5 → Same H1 H5 ∧ Same F1 F5 ∧ Same F5 H5 ∧ (∀ a, F5 a ≠ none → F1 a ≠ none ∨ H1 a = none) ∧ F5 D = none ∧ H5 D = some (.lst vs') ∧ Reps K F5 acc vs' := fun {F5 H5 ρ5 σ5} r5 => by
      refine ⟨(hh.trans hh3).trans r5.h, (ff.trans ff3).trans r5.f, r5.fh, fun a q => ?_, ?_, r5.h _ _ (hh3 _ _ hD), Reps.mono (ff3.trans r5.f) _ _ ra⟩
      · rcases r5.nw a q with z | z
        · exact nwF3 a z
        · exact .inr ((hh.trans hh3).free z)
      · cases q : F5 D with
        | none => rfl
        | some u =>
          rcases r5.nw D (by rw [q]; exact fun z => nomatch z) with z | z
          · exact absurd fn3 z
          · rw [hh3 _ _ hD] at z; cases z
    refine hg zo3 r3 rp w fun ρ4 F4 H4 σ4 p4 f4 r4 e4 => ⟨by rw [e4, wipe_idem σ vs vs fun v z => z], ?_⟩
    refine ht zo3 r4 p4 fun b ρ5 F5 H5 p5 f5 r5 => ?_
    cases b with
    | false =>
      rw [if_neg Bool.false_ne_true] at p5 ⊢
      obtain ⟨o1, o2, o3, o4, o5, o6, o7⟩ := out r5
      exact ⟨F5, acc, vs', o1, o2, o3, o4, o5, o6, o7, Nat.le_succ_of_le la, p5⟩
    | true =>
      rw [if_pos rfl] at p5 ⊢
      refine he zo3 r5 p5 fun s ρ6 F6 H6 v6 p6 f6 r6 sr6 fr6 => ?_
      obtain ⟨F7, f7, r7, rp7⟩ := r6.freeze sr6 fr6
      obtain ⟨o1, o2, o3, o4, o5, o6, o7⟩ := out r7
      have lv : vs'.length = acc.length := o7.len
      refine ⟨vs', o6, by omega, F7, acc ++ [s.fz], vs' ++ [v6], fun b u q => ?_, o2, fun b u q => ?_, o4, o5, upd_same, o7.app (.one rp7), by rw [List.length_append, List.length_singleton]; omega, ?_⟩
      · rw [upd_ne (ne_of_none q nD)]; exact o1 _ _ q
      · rw [upd_ne (ne_of_none q o5)]; exact o3 _ _ q
      · simpa only [List.append_assoc, List.singleton_append] using p6
  · have e : items.drop i = [] := List.drop_eq_nil_of_le (by omega)
    rw [e] at w
    have w' : P (.ol acc) ρ1 := by
      have z : P (.ol (acc ++ [])) ρ1 := w
      rwa [List.append_nil] at z
    refine .inl ⟨it.stop ff fh (by omega), k _ _ F2 H _ w' (f1.trans ff) (r1.after hh ff fh nw) ⟨D, vs', rfl, hD, ra, r1.h.free nD, fn⟩ fun _ j t q wt z => ?_⟩
    obtain ⟨v, q1, q2⟩ := r1.at_ j t q
    obtain ⟨a, u, e1, hu, _, _⟩ := q2.addr wt
    rw [z] at q1; cases q1; cases e1
    rw [nD] at hu; cases hu
section
variable {elt tg iter : Expr} {ifs : List Expr} {scope : Scope} {own : List (Str × Nat)} {wi : TI} {wa : WA} {g : TG} {wg : WG} {tt : TT} {wt : WT}
theorem de_lc (hc : X.calm = true) (hN : X.N.Nodup) (hi : DI K X Z tg iter wi wa) (ok : BlkOk X.N X.env.scope scope own)
    (hg : ∀ (s : Shared) (H : Hp) (C : Addr) (cl : List (Str × Addr)) (fp : List Addr), DGb K (X.blk s H scope (compEnvC scope cl C X.env) fp) Z tg (own.map (·.2)) g wg) (ht : ∀ (s : Shared) (H : Hp) (C : Addr) (cl : List (Str × Addr)) (fp : List Addr), DTs K (X.blk s H scope (compEnvC scope cl C X.env) fp) Z ifs tt wt)
    (he : ∀ (s : Shared) (H : Hp) (C : Addr) (cl : List (Str × Addr)) (fp : List Addr), DE K (X.blk s H scope (compEnvC scope cl C X.env) fp) Z elt te we) (hs : ∀ x, foldedSetIterable iter X.env x = pure x := by intro _; rfl) :
    DE K X Z (.ListComp elt [⟨tg, iter, ifs, 0⟩] scope pos) (tLc wi g tt te (own.map (·.2))) (wLc wa wg wt we (own.map (·.2))) :=
  ⟨pe_lc hc hN hi.pe ok (fun s H C cl fp => (hg s H C cl fp).pe) (fun s H C cl fp => (ht s H C cl fp).pe) (fun s H C cl fp => (he s H C cl fp).pe) hs,
    run_lc hi.run (hg X.s_0 (fun _ => none) 0 [] []).run (ht X.s_0 (fun _ => none) 0 [] []).run (he X.s_0 (fun _ => none) 0 [] []).run⟩
end
end
end DL
namespace DL
open PySem L2
abbrev DSp := List D → (S → Prop) → PX → Prop
def spD (K : PySem.W.Frag) (R : DSp) : Sp := fun vs H Q E => ∃ F ds P px, Same F H ∧ Reps K F ds vs ∧ R ds P px ∧ Kont K H F P Q ∧ (⟨E, px⟩ : Zx).Ok K H F
section
variable {K : PySem.W.Frag} {X : Cx} {Z : Zx} {pos p : Pos} {CX : CXT} {k : Nat} {f : Addr} {fd : FuncData} {ps : List Str} {Rf : DSp} {x : Str} {e : Expr} {es : List Expr} {ta : TA} {wa : WA}
def wCall (Rf : DSp) (px : PX) (wa : WA) : W := fun ρ P => wa ρ fun ds ρ1 => Rf ds (fun s => P s ρ1) px
theorem run_call (ha : RunA K Z ta wa) : RunE K Z (tCall (spD K Rf) [] Z.E ta) (wCall Rf Z.P wa) := fun {H0 F0 F H ρ σ Q P} zo rl h kq =>
  ha zo rl h fun ds ρ1 F1 H1 vs h1 f1 r1 rps => by
    rw [List.append_nil]
    exact ⟨F1, ds, _, Z.P, r1.fh, rps, h1, r1.kont f1 kq, zo.on r1.h r1.f r1.nw⟩
theorem de_call (F : FnOk X.prog X.w X.K X.mg X.base CX k f fd ps (spD K Rf)) (hr : Room k X.A) (hm : X.mg x = some (.ref f)) (hk : PySem.W.keepIn X.K (.ref f) = true) (hb : Binds X.K fd ps []) (hx : Passes CX X Z.E)
    (ha : DA K X Z (e :: es) ta wa) (hg : Gl X x := by rfl) (hdb : (x == ("__debug__" : Str)) = false := by decide) (he : starEach (e :: es) X.env = (false, eval e X.env) :: starEach es X.env := by rfl) (hpl : (backTo pos (starEach es X.env)).any (·.1) = false := by rfl) :
    DE K X Z (.Call (.Name x p) (e :: es) [] pos) (tCall (spD K Rf) [] Z.E ta) (wCall Rf Z.P wa) :=
  ⟨pe_call F hr hg hm hk hb .nil hx ha.pe (hdb := hdb) (he := he) (hpl := hpl), run_call ha.run⟩
end
def startR (N : List Str) (ds : List D) : R := ds.map (fun d => some (.d d)) ++ List.replicate (N.length - ds.length) none
theorem rel_start {K : PySem.W.Frag} {F H : Hp} {ds : List D} {vs : List V} {N : List Str} (fh : Same F H) (r : Reps K F ds vs) : Rel K H F F H (startR N ds) (start N vs) := by
  have hl : vs.length = ds.length := r.len
  have get : ∀ (i : Nat) s, (startR N ds)[i]? = some (some s) → ∃ d, s = .d d ∧ ds[i]? = some d := fun i s q => by
    unfold startR at q
    by_cases h : i < ds.length
    · rw [List.getElem?_append_left (by simpa using h), List.getElem?_map] at q
      cases e : ds[i]? with
      | none => rw [e] at q; cases q
      | some d => rw [e] at q; cases q; exact ⟨d, rfl, rfl⟩
    · rw [List.getElem?_append_right (by simpa using h), List.getElem?_replicate] at q
      split at q <;> cases q
  refine ⟨Same.refl _, Same.refl _, fh, fun _ q => .inl q, ?_, fun i s q => ?_, fun i j s t q1 q2 w1 w2 e => ?_⟩
  · simp [startR, L2.start, hl]
  · obtain ⟨d, rfl, e⟩ := get i s q
    obtain ⟨v, e1, rp⟩ := r.get e
    refine ⟨v, ?_, rp⟩
    have h : i < vs.length := (List.getElem?_eq_some_iff.mp e1).1
    unfold L2.start
    rw [List.getElem?_append_left (by simpa using h), List.getElem?_map, e1]
    rfl
  · obtain ⟨d, rfl, _⟩ := get i s q1
    cases w1
section
variable {P : Program} {w : World} {K : PySem.W.Frag} {mg : Str → Option Value} {base : Heap} {x qual : Str} {st : Stmt} {f : Addr} {fd : FuncData} {N ps : List Str} {k : Nat} {Rf : DSp}
theorem fnD (F : Fun K x qual st f fd) (S : FnScope N ps (defScope st)) (len : ∀ ds Q px, Rf ds Q px → ds.length = ps.length)
    (hbody : ∀ (cdv : Value) (A : Around) (outer : List Env) (s : Shared) (H : Hp) (E : XK), Room k (A.deeper (PyProof.Rows.envOfC qual (defScope st) s.heap.objs.size f cdv)) →
      ∃ t wb, DSs K (cxOf CX0 P w K mg base N qual (defScope st) f cdv A outer s H E).nox Z0 (defBody st) t wb ∧ ∀ ds Q px, Rf ds Q px → wb ⟨fun _ => Q (.d .non), Q, fun _ => False, fun _ => False⟩ (startR N ds)) :
    FnOk P w K mg base CX0 (k + 1) f fd ps (spD K Rf) := by
  refine F.ok S (fun vs H Q E h => ?_) (fun cdv A outer s H vs Q E hr h => ?_)
  · obtain ⟨F, ds, P, px, _, r, h, _⟩ := h
    rw [r.len]; exact len _ _ _ h
  · obtain ⟨F, ds, P', px, fh, r, h, kq, _⟩ := h
    obtain ⟨t, wb, d, q⟩ := hbody cdv A outer s H E hr
    refine ⟨t, d.pe, d.run (DD := ⟨fun _ => P' (.d .non), P', fun _ => False, fun _ => False⟩) Z0.ok (rel_start fh r) ⟨fun ρ' F' H' σ' h f r => ?_, fun s v F' H' h f hh ff fh' nw sr => ?_, fun _ _ _ _ h => h.elim, fun _ _ _ _ h => h.elim⟩ (q ds P' px h)⟩
    · exact kq (.d .non) .non F' H' h r.h r.f r.fh r.nw rfl
    · exact kq s v F' H' h hh ff fh' nw sr
end
def spLaw : DSp := fun ds Q _ => ∃ ns : List Int, ds = [.cel ns] ∧ ns.length ≤ 63 ∧ (∀ z ∈ ns, Builtin.Int.intBits z ≤ 1048576) ∧ Q (.d (.bl true))
theorem spLaw_at {K : PySem.W.Frag} {H : Hp} {a : Addr} {ns : List Int} (hl : ns.length ≤ 63) (hb : ∀ z ∈ ns, Builtin.Int.intBits z ≤ 1048576) (h : SqL K H a (ns.map V.int)) :
    spD K spLaw [.ref a] H (fun v _ => v = .bl true) fun _ _ _ => False :=
  ⟨H, [.cel ns], fun s => s = .d (.bl true), fun _ _ => False, Same.refl _, ⟨_, _, rfl, ⟨a, rfl, h⟩, rfl⟩, ⟨ns, rfl, hl, hb, rfl⟩,
    fun s v F' H' e _ _ _ _ sr => by subst e; exact sr, fun _ _ _ _ _ _ h => h.elim⟩
end DL
namespace DL
open PySem L2
section views
variable {K : PySem.W.Frag} {F : Hp} {d : D} {v : V}
def asI (d : D) (P : Int → Prop) : Prop := match d with
  | .int i => P i
  | _ => False
def asS (d : D) (P : Str → Prop) : Prop := match d with
  | .str i => P i
  | _ => False
theorem asI_of {P : Int → Prop} (h : asI d P) (r : Rep K F d v) : ∃ i, v = .int i ∧ P i := by
  cases d <;> first | exact h.elim | exact ⟨_, r, h⟩
theorem asS_of {P : Str → Prop} (h : asS d P) (r : Rep K F d v) : ∃ i, v = .str i ∧ P i := by
  cases d <;> first | exact h.elim | exact ⟨_, r, h⟩
theorem asT_of {P : List D → Prop} (h : asT d P) (r : Rep K F d v) : ∃ a vs xs, v = .ref a ∧ SqT K F a vs ∧ Reps K F xs vs ∧ P xs := by
  cases d <;> first | exact h.elim | (obtain ⟨a, vs, e, h1, h2⟩ := r; exact ⟨a, vs, _, e, h1, h2, h⟩)
def asSq (d : D) (P : List D → Prop) : Prop := match d with
  | .cel ns => P (ns.map .int)
  | .lst xs => P xs
  | .tup xs => P xs
  | _ => False
theorem asSq_of {P : List D → Prop} (h : asSq d P) (r : Rep K F d v) : ∃ a vs xs, v = .ref a ∧ (SqL K F a vs ∨ SqT K F a vs) ∧ Reps K F xs vs ∧ P xs := by
  cases d <;> first
    | exact h.elim
    | (obtain ⟨a, vs, e, h1, h2⟩ := r; exact ⟨a, vs, _, e, .inl (SqL.of h1), h2, h⟩)
    | (obtain ⟨a, vs, e, h1, h2⟩ := r; exact ⟨a, vs, _, e, .inr h1, h2, h⟩)
    | (obtain ⟨a, e, h1⟩ := r; exact ⟨a, _, _, e, .inl h1, Reps.ints.mpr rfl, h⟩)
theorem sq_same {H : Hp} {a : Addr} {vs : List V} (fh : Same F H) (h : SqL K F a vs ∨ SqT K F a vs) : SqL K H a vs ∨ SqT K H a vs :=
  h.elim (fun z => .inl (fh.seq z)) fun z => .inr (Same.sqT fh z)
end views
section ops
variable {K : PySem.W.Frag}
def oI (g : Int → Int → D) (C : Int → Int → Prop) : O2 := fun x y P => asI x fun i => asI y fun j => C i j ∧ P (.d (g i j))
def oI0 (g : Int → Int → D) : O2 := fun x y P => asI x fun i => asI y fun j => P (.d (g i j))
theorem snd_I {g : Int → Int → V} {g' : Int → Int → D} {C : Int → Int → Prop} (hg : ∀ i j F, Rep K F (g' i j) (g i j)) : Snd2 K (rI C g) (oI g' C) := ⟨fun {F H x y vx vy P Q} fh rx ry h k => by
  obtain ⟨i, rfl, h⟩ := asI_of h rx
  obtain ⟨j, rfl, h⟩ := asI_of h ry
  exact ⟨i, j, rfl, rfl, h.1, k.flat fh h.2 (hg i j F)⟩⟩
theorem snd_I0 {g : Int → Int → V} {g' : Int → Int → D} (hg : ∀ i j F, Rep K F (g' i j) (g i j)) : Snd2 K (rI0 g) (oI0 g') := ⟨fun {F H x y vx vy P Q} fh rx ry h k => by
  obtain ⟨i, rfl, h⟩ := asI_of h rx
  obtain ⟨j, rfl, h⟩ := asI_of h ry
  exact ⟨i, j, rfl, rfl, k.flat fh h (hg i j F)⟩⟩
abbrev oAdd : O2 := oI0 fun i j => .int (i + j)
abbrev oSub : O2 := oI0 fun i j => .int (i - j)
abbrev oMul : O2 := oI (fun i j => .int (i * j)) CMul
abbrev oDiv : O2 := oI (fun i j => .int (i / j)) CDiv
abbrev oMod : O2 := oI (fun i j => .int (i % j)) fun _ j => 0 < j
theorem snd_add : Snd2 K (rI0 fun i j => .int (i + j)) oAdd := snd_I0 fun _ _ _ => rfl
theorem snd_sub : Snd2 K (rI0 fun i j => .int (i - j)) oSub := snd_I0 fun _ _ _ => rfl
theorem snd_mul : Snd2 K (rI CMul fun i j => .int (i * j)) oMul := snd_I fun _ _ _ => rfl
theorem snd_div : Snd2 K (rI CDiv fun i j => .int (i / j)) oDiv := snd_I fun _ _ _ => rfl
theorem snd_mod : Snd2 K (rI (fun _ j => 0 < j) fun i j => .int (i % j)) oMod := snd_I fun _ _ _ => rfl
def eqS : D → D → Option Bool
  | .int i, .int j => some (decide (i = j))
  | .str i, .str j => some (decide (i = j))
  | .bl i, .bl j => some (decide (i = j))
  | .non, .non => some true
  | .non, .int _ => some false | .int _, .non => some false | .non, .bl _ => some false | .bl _, .non => some false | .non, .str _ => some false | .str _, .non => some false
  | .int _, .str _ => some false | .str _, .int _ => some false | .bl _, .str _ => some false | .str _, .bl _ => some false
  | _, _ => none
def asO (o : Option Bool) (P : Bool → Prop) : Prop := match o with
  | some b => P b
  | none => False
theorem eqS_ok {F : Hp} {x y : D} {vx vy : V} {b : Bool} (rx : Rep K F x vx) (ry : Rep K F y vy) (e : eqS x y = some b) : scal vx vy = true ∧ decide (vx = vy) = b := by
  cases x <;> cases y <;> first
    | (cases (show (none : Option Bool) = some b from e))
    | (have h1 : vx = _ := rx; have h2 : vy = _ := ry; subst h1; subst h2; cases e
       refine ⟨rfl, ?_⟩
       first
         | rfl
         | (apply decide_eq_decide.mpr; constructor <;> intro q <;> first | (injection q) | rw [q])
         | exact decide_eq_false (fun q => nomatch q))
def oCatS : O2 := fun x y P => asS x fun i => asS y fun j => i.length + j.length ≤ sizeLine ∧ P (.d (.str (i ++ j)))
theorem snd_catS : Snd2 K (fun x y H Q => ∃ i j, x = .str i ∧ y = .str j ∧ i.length + j.length ≤ sizeLine ∧ Q (.str (i ++ j)) H) oCatS := ⟨fun {F H x y vx vy P Q} fh rx ry h k => by
  obtain ⟨i, rfl, h⟩ := asS_of h rx
  obtain ⟨j, rfl, h⟩ := asS_of h ry
  exact ⟨i, j, rfl, rfl, h.1, k.flat (d := .str (i ++ j)) fh h.2 rfl⟩⟩
theorem one_sign {i : Str} {c : Nat} (h : i.cps.toList = [c]) : i = ⟨#[c]⟩ := by
  cases i with
  | mk a => exact congrArg Str.mk (by cases a; simpa using h)
def asA {α : Type} (o : Option α) (P : α → Prop) : Prop := match o with
  | some b => P b
  | none => False
theorem asA_of {α : Type} {o : Option α} {P : α → Prop} (h : asA o P) : ∃ b, o = some b ∧ P b := by
  cases o with
  | none => exact h.elim
  | some b => exact ⟨b, rfl, h⟩
theorem at_reps {F : Hp} {xs : List D} {vs : List V} {i : Int} {d : D} (r : Reps K F xs vs) (h : atI xs i = some d) : ∃ v, atI vs i = some v ∧ Rep K F d v := by
  unfold atI at h ⊢
  rw [r.len]
  cases e : ixN xs.length i with
  | none => rw [e] at h; cases h
  | some j => rw [e] at h; exact r.get h
def oIxL : O2 := fun x y P => asL x fun xs => asI y fun i => asA (atI xs i) fun d => P (.d d)
def oIxT : O2 := fun x y P => asT x fun xs => asI y fun i => asA (atI xs i) fun d => P (.d d)
def oIxS : O2 := fun x y P => asS x fun z => asI y fun i => z.length ≤ sizeLine ∧ asA (atI z.cps.toList i) fun c => P (.d (.str ⟨#[c]⟩))
theorem snd_ixL : Snd2 K (rIxL K) oIxL := ⟨fun {F H x y vx vy P Q} fh rx ry h k => by
  obtain ⟨a, vs, xs, rfl, h1, h2, h⟩ := asL_of h rx
  obtain ⟨i, rfl, h⟩ := asI_of h ry
  obtain ⟨d, e, h⟩ := asA_of h
  obtain ⟨v, e', r⟩ := at_reps h2 e
  exact ⟨a, vs, i, v, rfl, rfl, fh.seq h1, e', k.flat fh h r⟩⟩
theorem snd_ixT : Snd2 K (rIxT K) oIxT := ⟨fun {F H x y vx vy P Q} fh rx ry h k => by
  obtain ⟨a, vs, xs, rfl, h1, h2, h⟩ := asT_of h rx
  obtain ⟨i, rfl, h⟩ := asI_of h ry
  obtain ⟨d, e, h⟩ := asA_of h
  obtain ⟨v, e', r⟩ := at_reps h2 e
  exact ⟨a, vs, i, v, rfl, rfl, Same.sqT fh h1, e', k.flat fh h r⟩⟩
theorem snd_ixS : Snd2 K rIxS oIxS := ⟨fun {F H x y vx vy P Q} fh rx ry h k => by
  obtain ⟨z, rfl, h⟩ := asS_of h rx
  obtain ⟨i, rfl, h⟩ := asI_of h ry
  obtain ⟨c, e, h'⟩ := asA_of h.2
  exact ⟨z, i, c, rfl, rfl, h.1, e, k.flat (d := .str ⟨#[c]⟩) fh h' rfl⟩⟩
def oLen : OL := fun ds P => match ds with
  | [.cel ns] => P (.d (.int ns.length))
  | [.lst xs] => P (.d (.int xs.length))
  | [.tup xs] => P (.d (.int xs.length))
  | [.str z] => z.length ≤ sizeLine ∧ P (.d (.int z.length))
  | [.dic ks xs] => P (.d (.int ks.length))
  | _ => False
abbrev qLen (K : PySem.W.Frag) : List V → Hp → VK → Prop := fun xs H Q => (∃ x n, xs = [x] ∧ LenV K x H n ∧ Q (.int n) H) ∨ ∃ d kvs, xs = [.ref d] ∧ Rd H d (.dK kvs) ∧ Q (.int kvs.length) H
theorem snd_len : SndL K (qLen K) oLen := ⟨fun {F H ds vs P Q} fh r h k => by
  unfold oLen at h
  split at h
  · obtain ⟨v, _, rfl, ⟨a, rfl, h1⟩, rfl⟩ := r
    exact .inl ⟨_, _, rfl, .inl ⟨_, fh.seq h1, rfl⟩, k.flat (d := .int _) fh h (by rw [List.length_map]; rfl)⟩
  · obtain ⟨v, _, rfl, ⟨a, us, rfl, h1, h2⟩, rfl⟩ := r
    exact .inl ⟨_, _, rfl, .inl ⟨us, fh.seq (SqL.of h1), rfl⟩, k.flat (d := .int _) fh h (by rw [h2.len]; rfl)⟩
  · obtain ⟨v, _, rfl, ⟨a, us, rfl, h1, h2⟩, rfl⟩ := r
    exact .inl ⟨_, _, rfl, .inr ⟨us, Same.sqT fh h1, rfl⟩, k.flat (d := .int _) fh h (by rw [h2.len]; rfl)⟩
  · obtain ⟨v, _, rfl, rfl, rfl⟩ := r
    exact .inl ⟨_, _, rfl, ⟨h.1, rfl⟩, k.flat (d := .int _) fh h.2 rfl⟩
  · obtain ⟨v, _, rfl, ⟨a, us, rfl, h1, h2, h3⟩, rfl⟩ := r
    exact .inr ⟨a, _, rfl, Same.rd fh h1, by rw [List.length_zip, ← h2, Nat.min_self]; exact k.flat (d := .int _) fh h rfl⟩
  · exact h.elim⟩
def oMax : OL := fun ds P => match ds with
  | [.int i, .int j] => P (.d (.int (if j > i then j else i)))
  | _ => False
def oMin : OL := fun ds P => match ds with
  | [.int i, .int j] => P (.d (.int (if j < i then j else i)))
  | _ => False
theorem snd_min : SndL K (fun xs H Q => ∃ i j, xs = [.int i, .int j] ∧ Q (.int (if j < i then j else i)) H) oMin := ⟨fun {F H ds vs P Q} fh r h k => by
  unfold oMin at h
  split at h
  · obtain ⟨v, _, rfl, rfl, v2, _, rfl, rfl, rfl⟩ := r
    exact ⟨_, _, rfl, k.flat (d := .int _) fh h rfl⟩
  · exact h.elim⟩
def bools : List D → Option (List Bool)
  | [] => some []
  | .bl b :: r => (bools r).map (b :: ·)
  | _ => none
theorem bools_map : ∀ bs : List Bool, bools (bs.map D.bl) = some bs
  | [] => rfl
  | b :: bs => by rw [List.map_cons, bools, bools_map bs]; rfl
theorem bools_of {F : Hp} : ∀ {ds : List D} {bs : List Bool} {vs : List V}, bools ds = some bs → Reps K F ds vs → vs = bs.map V.bl
  | [], _, _, e, r => by cases e; exact r
  | d :: ds, bs, vs, e, r => by
    cases d <;> first | (cases (show (none : Option (List Bool)) = some bs from e)) | skip
    rename_i b
    rw [bools] at e
    cases q : bools ds with
    | none => rw [q] at e; cases e
    | some cs =>
      rw [q] at e; cases e
      obtain ⟨v, r', rfl, rfl, h⟩ := r
      rw [bools_of q h]; rfl
def oAll : OL := fun ds P => match ds with
  | [.lst xs] => asA (bools xs) fun bs => P (.d (.bl (bs.all id)))
  | _ => False
def oAny : OL := fun ds P => match ds with
  | [.lst xs] => asA (bools xs) fun bs => P (.d (.bl (bs.any id)))
  | _ => False
theorem snd_all : SndL K (rAll K) oAll := ⟨fun {F H ds vs P Q} fh r h k => by
  unfold oAll at h
  split at h
  · obtain ⟨v, _, rfl, ⟨a, us, rfl, h1, h2⟩, rfl⟩ := r
    obtain ⟨bs, e, h⟩ := asA_of h
    have q := bools_of e h2
    subst q
    exact ⟨a, bs, rfl, fh.seq (SqL.of h1), k.flat (d := .bl _) fh h rfl⟩
  · exact h.elim⟩
end ops
abbrev qAdd : R2 := rI0 fun i j => .int (i + j)
abbrev qAddS : R2 := fun x y H Q => ∃ i j, x = .str i ∧ y = .str j ∧ i.length + j.length ≤ sizeLine ∧ Q (.str (i ++ j)) H
abbrev qSub : R2 := rI0 fun i j => .int (i - j)
abbrev qMul : R2 := rI CMul fun i j => .int (i * j)
abbrev qDiv : R2 := rI CDiv fun i j => .int (i / j)
abbrev qMod : R2 := rI (fun _ j => 0 < j) fun i j => .int (i % j)
theorem call_lenR {X : Cx} : CallR X (.builtin "len") fun xs H Q => ∃ d kvs, xs = [.ref d] ∧ Rd H d (.dK kvs) ∧ Q (.int kvs.length) H := fun pins s σ H xs us Q I r h => by
  obtain ⟨d, kvs, rfl, hd, q⟩ := h
  obtain ⟨u, rfl, ru⟩ := vals1 r
  obtain rfl : u = Value.ref d := ru
  exact d_len I hd fun t s' J => ⟨.int kvs.length, H, J, ⟨t, rfl⟩, q⟩
theorem call_len_or {X : Cx} {r : List V → Hp → VK → Prop} (h : CallR X (.builtin "len") r) : CallR X (.builtin "len") fun xs H Q => (∃ x n, xs = [x] ∧ LenV X.K x H n ∧ Q (.int n) H) ∨ r xs H Q := fun pins s σ H vs us Q I rr q => q.elim (fun z => call_len pins s σ H vs us Q I rr z) fun z => h pins s σ H vs us Q I rr z
section sugar
variable {K : PySem.W.Frag} {X : Cx} {Z : Zx} {pos p : Pos} {a b c e : Expr} {ta tb te : TE} {wa wb we : W} {tx : TA} {wx : WA}
theorem de_sub (ha : DE K X Z a ta wa) (hb : DE K X Z b tb wb) : DE K X Z (.BinOp a .Sub b pos) (tOp qSub ta tb) (wOp oSub wa wb) := de_op op_sub snd_sub ha hb
theorem de_mul (ha : DE K X Z a ta wa) (hb : DE K X Z b tb wb) : DE K X Z (.BinOp a .Mult b pos) (tOp qMul ta tb) (wOp oMul wa wb) := de_op op_mul snd_mul ha hb
theorem de_div (ha : DE K X Z a ta wa) (hb : DE K X Z b tb wb) : DE K X Z (.BinOp a .FloorDiv b pos) (tOp qDiv ta tb) (wOp oDiv wa wb) := de_op op_fdiv snd_div ha hb
theorem de_mod (ha : DE K X Z a ta wa) (hb : DE K X Z b tb wb) : DE K X Z (.BinOp a .Mod b pos) (tOp qMod ta tb) (wOp oMod wa wb) := de_op op_mod snd_mod ha hb
theorem de_len (m : X.mg "len" = none) (ha : DE K X Z a ta wa) (hg : Gl X "len" := by rfl) (hs : starEach [a] X.env = [(false, eval a X.env)] := by rfl) (hK : X.K = K := by rfl) : DE K X Z (.Call (.Name "len" p) [a] [] pos) (tCB (qLen K) (tCons ta tNil)) (wCB oLen (wCons wa wNil)) := by
  subst hK
  exact de_callB (call_len_or call_lenR) snd_len hg m PySem.boot_len (da_cons ha da_nil hs) (hn := by decide) (hdb := by decide) (he := hs) (hpl := rfl)
end sugar
end DL
set_option maxHeartbeats 4000000
namespace DL
open PySem PySem.Spec PyProof.Rows L2
def keyS (e : Int × Value) : Str := match e.2 with | .str x _ => x | _ => Str.empty
def GoodS (w : World) (e : Int × Value) : Prop := ∃ x tk, e.2 = Value.str x tk ∧ e.1 = hashStr w x
def SetZ (w : World) (h : Heap) (a : Addr) (xs : List Str) : Prop :=
  ∃ o es ep t, h.get? a = some o ∧ o.ExactSet ∧ o.data = .set es ep t ∧ (∀ e ∈ es.toList, GoodS w e) ∧ xs.Nodup ∧ xs.Perm (es.toList.map keyS) ∧
    es.size < scanBound ∧ t.fits es.size = true ∧ Ris t.place.toList ∧ (w.params.followText "set-order" = true ∨ t.led = true)
section
variable {P : Program} {w : World} {A : Around} {E : Value → Shared → Prop} {s : Shared} {h h' : Heap} {a : Addr} {xs ys : List Str}
theorem SetZ.at (z : SetZ w h a xs) (k : ∀ o, h.get? a = some o → h'.get? a = some o) : SetZ w h' a xs := by
  obtain ⟨o, es, ep, t, ho, r⟩ := z
  exact ⟨o, es, ep, t, k o ho, r⟩
theorem goodS_elems {l : List (Int × Value)} (g : ∀ e ∈ l, GoodS w e) : ElemsOf (strKind P w) l := fun e he => by
  obtain ⟨k, tk, h1, h2⟩ := g e he
  exact ⟨⟨k, by rw [h1]; exact strKind_is P w k tk, h2⟩, by rw [h1] <;> rfl⟩
theorem goodS_is {e : Int × Value} (g : GoodS w e) (k : Str) : (strKind P w).is k e.2 = true ↔ keyS e = k := by
  obtain ⟨x, tk, h1, _⟩ := g
  unfold keyS
  rw [h1]
  constructor
  · intro q
    obtain ⟨t, e⟩ := Value.isStrOf_shape (show Value.isStrOf k (.str x tk) = true from q)
    injection e with e1
  · intro q
    have q' : x = k := q
    rw [q']
    exact strKind_is P w k tk
theorem addZ_tail {g : Bool → Sem Unit} (hg : ∀ (b : Bool) (s₁ : Shared) (Q' : Unit → Shared → Prop), Q' () s₁ → wpAny (model P w) A (g b) Q' E s₁)
    {o : Obj} {es es1 : Array (Int × Value)} {ep : Nat} {t t2 : SetTable} (ho : s.heap.get? a = some o) (hex : o.ExactSet) (hd : o.data = .set es ep t)
    (g1 : ∀ e ∈ es1.toList, GoodS w e) (nd : ys.Nodup) (pm : ys.Perm (es1.toList.map keyS)) (hb1 : es1.size < scanBound) (hf2 : t2.fits es1.size = true) (hr : Ris t2.place.toList) (hl : w.params.followText "set-order" = true ∨ t2.led = true)
    {wasDummy : Bool} {R : Option Bool → Shared → Prop} (hR : ∀ h', Heap.SameBut a s.heap h' → SetZ w h' a ys → R (some true) { s with heap := h' }) :
    wpAny (model P w) A (do
        storeSet a es1 t2
        if (!wasDummy && t2.tooFull) = true then do
            g (relayAll t2 es1 (SetTable.grown es1.size)).2.2
            storeSet a (relayAll t2 es1 (SetTable.grown es1.size)).1 (relayAll t2 es1 (SetTable.grown es1.size)).2.1
            pure (some true)
          else pure (some true)) R E s := by
  refine wpAny_bind (wpAny_storeSet_of ho hd ?_ (fits_of_scanBound hb1))
  have o1 := store_at (es' := es1) (t' := t2) ho hd
  have sb := Heap.SameBut.update s.heap a (Obj.putSet es1 t2)
  split
  · have p2 := relayAll_perm t2 es1 (SetTable.grown es1.size)
    have f3 := relayAll_fits t2 es1 (SetTable.grown es1.size)
    have r3 := relayAll_ris t2 es1 (SetTable.grown es1.size)
    have l3 := relayAll_led t2 es1 (SetTable.grown es1.size)
    generalize relayAll t2 es1 (SetTable.grown es1.size) = Zz at p2 f3 r3 l3 ⊢
    obtain ⟨es2, t3, gave⟩ := Zz
    dsimp only at p2 f3 r3 l3 ⊢
    have b2 : es2.size < scanBound := by rw [← Array.length_toList, p2.length_eq, Array.length_toList]; exact hb1
    refine wpAny_bind (hg _ _ _ (wpAny_bind (wpAny_storeSet_of o1 rfl ?_ (fits_of_scanBound b2))))
    refine wpAny_pure (hR _ (sb.trans (Heap.SameBut.update _ a _)) ?_)
    exact ⟨_, es2, _, t3, store_at (es' := es2) (t' := t3) o1 rfl, hex, rfl, fun e he => g1 e (p2.mem_iff.mp he), nd, pm.trans (p2.map keyS).symm, b2, f3, r3, hl.imp id fun z => by rw [l3]; exact z⟩
  · exact wpAny_pure (hR _ sb ⟨_, es1, _, t2, o1, hex, rfl, g1, nd, pm, hb1, hf2, hr, hl⟩)
def addS (xs : List Str) (k : Str) : List Str := if k ∈ xs then xs else xs ++ [k]
theorem addS_nodup {k : Str} (nd : xs.Nodup) : (addS xs k).Nodup := by
  unfold addS
  split
  · exact nd
  · rename_i hk
    exact List.nodup_append.mpr ⟨nd, by simp, fun a ha b hb e => hk (by rw [List.mem_singleton.mp hb] at e; rw [← e]; exact ha)⟩
theorem addZ_hashed {k : Str} {tk : Tok} {Q : Bool → Shared → Prop} (R : SetZ w s.heap a xs) (room : xs.length + 1 < scanBound)
    (hQ : ∀ b h', Heap.SameBut a s.heap h' → SetZ w h' a (addS xs k) → Q b { s with heap := h' }) :
    wpAny (model P w) A (setAddHashed a (.str k tk) ((strKind P w).hash k)) Q E s := by
  obtain ⟨o, es, ep, t, ho, hex, hd, g, nd, pm, hb, hf, hr, hl⟩ := R
  have hkey : (strKind P w).is k (.str k tk) = true := strKind_is P w k tk
  have hsc : (Value.str k tk).scannable = true := rfl
  have hel : ElemsOf (strKind P w) es.toList := goodS_elems g
  unfold setAddHashed setAddHashedIn
  refine wpAny_holding (wpAny_bind (wpAny_setState_of ho hd hf ?_))
  dsimp only
  rw [byScan_of hsc hb hel]
  simp only [↓reduceIte]
  unfold setAddByScan
  refine wpAny_bind (wpAny_bind (wpAny_rule (wpAny_bind (wpAny_setScan_of hkey ho hd hf hel ?_))))
  cases hfi : List.findIdx? (fun e => (strKind P w).is k e.2) es.toList with
  | some j =>
    dsimp only
    obtain ⟨hj, pj, _⟩ := List.findIdx?_eq_some_iff_getElem.mp hfi
    have hk : k ∈ xs := pm.mem_iff.mpr (List.mem_map.mpr ⟨es.toList[j], List.getElem_mem hj, (goodS_is (g _ (List.getElem_mem hj)) k).1 pj⟩)
    refine wpAny_pure (wpAny_pure (hQ _ s.heap (Heap.SameBut.refl a s.heap) ?_))
    rw [addS, if_pos hk]
    exact ⟨o, es, ep, t, ho, hex, hd, g, nd, pm, hb, hf, hr, hl⟩
  | none =>
    dsimp only
    have hk : k ∉ xs := fun z => by
      obtain ⟨e, he, q⟩ := List.mem_map.mp (pm.mem_iff.mp z)
      have c := List.findIdx?_eq_none_iff.mp hfi e he
      rw [(goodS_is (g e he) k).2 q] at c
      cases c
    have hgw : ∀ (b : Bool) {s₁ : Shared} {Q' : Unit → Shared → Prop}, Q' () s₁ → wpAny (model P w) A (match b with | true => rule "set.scan.the-table-gave-way" | false => pure ()) Q' E s₁ :=
      fun b s₁ Q' q => by cases b <;> first | exact wpAny_pure q | exact wpAny_rule q
    have p1 := layNew_perm t es ((strKind P w).hash k) (.str k tk)
    have f1 := layNew_fits t es ((strKind P w).hash k) (.str k tk)
    have r1 := layNew_ris t es ((strKind P w).hash k) (.str k tk) hr
    have l1 := layNew_led t es ((strKind P w).hash k) (.str k tk)
    generalize layNew t es ((strKind P w).hash k) (.str k tk) = Zz at p1 f1 r1 l1 ⊢
    obtain ⟨es1, t1, wasDummy, gave⟩ := Zz
    dsimp only at p1 f1 r1 l1 ⊢
    rw [Array.toList_push] at p1
    have g1 : ∀ e ∈ es1.toList, GoodS w e := fun e he => by
      rcases List.mem_append.mp (p1.mem_iff.mp he) with z | z
      · exact g e z
      · rw [List.mem_singleton.mp z]; exact ⟨k, tk, rfl, rfl⟩
    have pk : (addS xs k).Perm (es1.toList.map keyS) := by
      rw [addS, if_neg hk]
      refine List.Perm.trans ?_ (p1.map keyS).symm
      rw [List.map_append]
      exact pm.append_right _
    have nd1 : (addS xs k).Nodup := addS_nodup nd
    have hsz : es1.size = xs.length + 1 := by
      rw [← Array.length_toList, p1.length_eq, List.length_append, List.length_singleton]
      have := pm.length_eq
      rw [List.length_map] at this
      omega
    have hb1 : es1.size < scanBound := by rw [hsz]; exact room
    have hled : w.params.followText "set-order" = true ∨ t1.led = true := hl.imp id fun z => by rw [l1]; exact z
    refine wpAny_bind (hgw _ ?_)
    split
    · refine wpAny_bind ?_
      rw [hashByValue_scannable 8 hsc]
      refine wpAny_pure ?_
      refine addZ_tail ?_ ho hex hd g1 nd1 pk hb1 ?_ ?_ ?_ ?_
      · intro b s₁ Q' q; cases b <;> first | exact wpAny_pure q | exact wpAny_rule q
      · first | (split <;> first | exact f1 | exact SetTable.fits_plain_off f1) | exact f1
      · first | (split <;> exact r1) | exact r1
      · first | (split <;> exact hled) | exact hled
      · intro h' sb r; dsimp only; exact wpAny_pure (hQ _ h' sb r)
    · refine wpAny_bind (wpAny_pure ?_)
      simp only [↓reduceIte]
      refine addZ_tail ?_ ho hex hd g1 nd1 pk hb1 f1 r1 hled ?_
      · intro b s₁ Q' q; cases b <;> first | exact wpAny_pure q | exact wpAny_rule q
      · intro h' sb r; dsimp only; exact wpAny_pure (hQ _ h' sb r)
theorem addS_len (k : Str) : (addS xs k).length ≤ xs.length + 1 := by
  unfold addS; split
  · exact Nat.le_succ _
  · rw [List.length_append]; exact Nat.le_refl _
def met (xs : List Str) : List Str := xs.foldl addS []
theorem met_snoc (xs : List Str) (k : Str) : met (xs ++ [k]) = addS (met xs) k := by unfold met; rw [List.foldl_append]; rfl
theorem met_aux : ∀ (l acc : List Str), (l.foldl addS acc).length ≤ acc.length + l.length
  | [], acc => Nat.le_refl _
  | k :: l, acc => by
    have h1 := met_aux l (addS acc k)
    have h2 := addS_len (xs := acc) k
    rw [List.foldl_cons, List.length_cons]; omega
theorem met_len (xs : List Str) : (met xs).length ≤ xs.length := by have := met_aux xs []; simpa [met] using this
theorem loopZ {I : Addr} {fp wr : List Addr} {G : Array GenState → Array GenState → Prop} {n : Nat} {Pv : Nat → Value → Prop} {St : Nat → Shared → Prop} {R : Result → Shared → Prop}
    (W : WalksS P w A.in1 I fp wr G n Pv St) (S : Addr) (hSf : S ∉ fp) (ns : List Str) (hn : n = ns.length) (hb : ns.length + 1 < scanBound) (hval : ∀ i v, Pv i v → ∃ k t, ns[i]? = some k ∧ v = .str k t) :
    ∀ (k i : Nat) (s : Shared), n - i = k → i ≤ n → St i s → SetZ w s.heap S (met (ns.take i)) →
      (∀ s', Moved (S :: wr) G s s' → SetZ w s'.heap S (met ns) → R (.ok (.ret .none)) s') →
      codeAny (model P w) A (.builtin "set.update.loop" ⟨[.ref S, .ref I], []⟩) R s := by
  have hSw : S ∉ wr := fun h => hSf (W.sub _ h)
  have hsub : ∀ b ∈ wr, b ∈ S :: wr := fun b hb => List.mem_cons_of_mem _ hb
  intro k
  induction k with
  | zero =>
    intro i s hk' hi hst hS hR
    obtain rfl : i = n := by omega
    refine codeAny_builtin PyProof.Rows.F.entry_set_update_loop ?_
    rw [Around.under_plainId PyProof.Rows.F.plain_set_update_loop _]
    show wpAny _ A.in1 (pyNext (.ref I) >>= _) _ _ s
    refine wpAny_bind (W.done s _ _ hst fun s' hm => ?_)
    rw [List.take_of_length_le (by omega)] at hS
    show wpAny _ A.in1 (ret Value.none) _ _ s'
    exact wpAny_pure (hR s' (hm.mono hsub) (hS.at fun o e => hm.heap S o hSw e))
  | succ k ih =>
    intro i s hk' hi hst hS hR
    have hlt : i < n := by omega
    refine codeAny_builtin PyProof.Rows.F.entry_set_update_loop ?_
    rw [Around.under_plainId PyProof.Rows.F.plain_set_update_loop _]
    show wpAny _ A.in1 (pyNext (.ref I) >>= _) _ _ s
    refine wpAny_bind (W.item i s _ _ hlt hst fun v s' hP hst' hm => ?_)
    obtain ⟨z, t, hz, rfl⟩ := hval i v hP
    have hS' : SetZ w s'.heap S (met (ns.take i)) := hS.at fun o e => hm.heap S o hSw e
    show wpAny _ A.in1 (holding [Value.str z t] (setAdd S (.str z t)) >>= _) _ _ s'
    refine wpAny_bind (wpAny_holding ?_)
    unfold setAdd
    refine wpAny_holding (wpAny_bind ((strKind P w).pyHash (k := z) (strKind_is _ _ _ _) ?_))
    have hroom : (met (ns.take i)).length + 1 < scanBound := by
      have := met_len (ns.take i)
      have : (ns.take i).length ≤ ns.length := by rw [List.length_take]; omega
      omega
    refine addZ_hashed (s := { s' with toks := s'.toks + 1 }) hS' hroom fun b h' hsb hS2 => ?_
    have hS3 : SetZ w h' S (met (ns.take (i + 1))) := by
      rw [List.take_add_one, hz]
      show SetZ w h' S (met (ns.take i ++ [z]))
      rw [met_snoc]; exact hS2
    refine wpAny_pure ⟨plainId_quiet PyProof.Rows.F.plain_set_update_loop _, ih (i + 1) _ (by omega) hlt (W.frame _ s' _ _ hst' (Nat.le_succ _) fun b hb o e => ?_) hS3 fun s'' hm'' hS'' => ?_⟩
    · rw [hsb.2 b (fun h : b = S => hSf (by rw [← h]; exact hb))]; exact e
    · refine hR s'' (Moved.trans W.gtrans ((hm.mono hsub).then_heap (Nat.le_succ _) fun b o hb e => ?_) hm'') hS''
      rw [hsb.2 b (fun h : b = S => hb (by rw [h]; exact List.mem_cons_self))]; exact e
theorem setZ_new {o : Obj} (ho : h.get? a = some o) (e : o = { cls := .type "set", dict := none, data := .set #[] 0 (.fresh 0 0 (!w.params.followText "set-order")) }) : SetZ w h a [] := by
  subst e
  exact ⟨_, #[], 0, _, ho, ⟨rfl, rfl, rfl⟩, rfl, (fun e he => by simp at he), by simp, by simp, (by decide), (by rfl), List.Pairwise.nil, by
    show _ ∨ (!w.params.followText "set-order") = true
    cases w.params.followText "set-order"
    · exact .inr rfl
    · exact .inl rfl⟩
end
end DL
set_option maxHeartbeats 8000000
namespace DL
open PySem PySem.Spec PyProof.Rows L2
section
variable {P : Program} {w : World} {A : Around} {E : Value → Shared → Prop} {s : Shared}
abbrev freshSet (w : World) : Obj := { cls := .type "set", dict := none, data := .set #[] 0 (.fresh 0 0 (!w.params.followText "set-order")) }
theorem call_set_outer {v : Value} {Q : Value → Shared → Prop} (Pp : Heap → Prop)
    (hinit : ∀ R : Result → Shared → Prop, (∀ h' tk, Pp h' → R (.ok (.ret .none)) { s with heap := h', toks := tk }) →
      wpAny (model P w) A.in1.in1 (Builtin.«set.__init__» ⟨[.ref s.heap.objs.size, v], []⟩)
        (fun fin s' => match fin with | .done f => R (.ok f) s' | .again c' => c'.quiet = true ∧ codeAny (model P w) A.in1 c' R s') (fun e s' => R (.error e) s') { s with heap := s.heap.push (freshSet w) })
    (h : ∀ (h' : Heap) (tk : Nat), Pp h' → Q (.ref s.heap.objs.size) { s with heap := h', toks := tk }) :
    wpAny (model P w) A (call (.type "set") [v]) Q E s := by
  obtain ⟨c, tl, hmro⟩ := PySem.F.called_set.mro
  have hmade := PySem.F.called_set.made
  have hsub := PySem.F.called_set.sub
  refine wpAny_call (codeAny_of_tree ?_)
  show wpAny _ _ (callAny (.type "set") _) _ _ _
  refine wpAny_pure ⟨Code.quiet_builtin _ (by decide +kernel), codeAny_builtin PySem.F.entry_type_call ?_⟩
  rw [Around.under_plain (weight_type_call_type "set" [v] []) rfl]
  have h1 := PySem.F.called_set.notType
  have h2 := PySem.F.called_set.canCreate
  have hct := PySem.F.typeCall_set_1 v
  repeat (any_goals (first | assumption | wp_step))
  refine codeAny_mono (code_set_led1 v (E := E) (Q₁ := fun obj s₁ => obj = .ref s.heap.objs.size ∧ s₁ = { s with heap := s.heap.push (freshSet w) }) ⟨rfl, rfl⟩) fun r s₁ hr => ?_
  cases r with
  | error e => exact hr
  | ok fl =>
    cases fl with
    | ret obj =>
      obtain ⟨rfl, rfl⟩ := hr
      have hS : (s.heap.push (freshSet w)).get? s.heap.objs.size = some (freshSet w) := Heap.get?_push_size _ rfl
      have hT : Shared.TypeIs { s with heap := s.heap.push (freshSet w) } (.ref s.heap.objs.size) "set" := ⟨_, hS, rfl⟩
      have hli := PySem.F.called_set.init.lookup
      have hbi := PySem.F.called_set.init.bind (.ref s.heap.objs.size)
      repeat (any_goals (first | assumption | wp_step))
      refine codeAny_mono (codeAny_call_builtin (R := wants (fun r s₂ => r = .none ∧ ∃ h' tk, s₂ = { s with heap := h', toks := tk } ∧ Pp h') E) PySem.F.called_set.init.plain PySem.F.entry_set_init (check_set_init_1 hT ?_)) fun r₂ s₂ hr₂ => ?_
      · exact hinit _ fun h' tk hp => ⟨rfl, h', tk, rfl, hp⟩
      · cases r₂ with
        | error e => exact hr₂
        | ok fl₂ =>
          cases fl₂ with
          | ret r =>
            obtain ⟨rfl, h', tk, rfl, hS'⟩ := hr₂
            repeat (any_goals (first | assumption | wp_step))
            exact h _ _ hS'
          | _ => exact hr₂.elim
    | _ => exact hr.elim
theorem ne_lt {a b : Nat} (h : b < a) (z : b = a) : False := Nat.lt_irrefl _ (z ▸ h)
theorem ne_lt1 {a b : Nat} (h : b < a) (z : b = a + 1) : False := Nat.lt_irrefl _ (Nat.lt_of_lt_of_le (z ▸ h) (Nat.le_succ _))
theorem ne_succ {a : Nat} (z : a = a + 1) : False := Nat.lt_irrefl _ (Nat.lt_of_lt_of_le (Nat.lt_succ_self a) (Nat.le_of_eq z.symm))
theorem call_setT {x : Str} {t : Tok} {Q : Value → Shared → Prop} (hh : A.handled = none) (hb : x.cps.size + 1 < scanBound)
    (h : ∀ (h' : Heap) (tk : Nat), SetZ w h' s.heap.objs.size (met (signs x)) → (∀ b o, s.heap.get? b = some o → h'.get? b = some o) → Q (.ref s.heap.objs.size) { s with heap := h', toks := tk }) :
    wpAny (model P w) A (call (.type "set") [(.str x t)]) Q E s := by
  refine call_set_outer (fun h' => SetZ w h' s.heap.objs.size (met (signs x)) ∧ ∀ b o, s.heap.get? b = some o → h'.get? b = some o) (fun R hR => ?_) fun h' tk p => h h' tk p.1 p.2
  have hS : (s.heap.push (freshSet w)).get? s.heap.objs.size = some (freshSet w) := Heap.get?_push_size _ rfl
  have hT : Shared.TypeIs { s with heap := s.heap.push (freshSet w) } (.ref s.heap.objs.size) "set" := ⟨_, hS, rfl⟩
  have hz1 : (s.heap.push (freshSet w)).objs.size = s.heap.objs.size + 1 := Heap.size_push ..
  have hh3 : A.in1.in1.in1.handled = none := by simp [hh]
  have hsls := PySem.F.sub_str_set
  have hslf := PySem.F.sub_str_frozenset
  have hne : (Value.type "str" == Value.type "dict") = false := by decide
  unfold Builtin.«set.__init__» noKeywords Builtin.Frozenset.updateFrom
  generalize hPI : pyIter = PI
  wp_walk
  subst hPI
  refine wpAny_pyIter_str fun o St W st0 => ?_
  refine wpAny_bind (wpAny_runValue ?_)
  have hlen : (signs x).length = x.cps.size := by simp [signs]
  refine loopZ ((W _ hh3).toS) s.heap.objs.size (fun z => by have z := List.mem_singleton.mp z; rw [hz1] at z; exact ne_succ z) (signs x) hlen.symm (by rw [hlen]; exact hb) (fun i v hv => ?_) (x.cps.size - 0) 0 _ (by omega) (Nat.zero_le _) st0 (setZ_new (Heap.get?_push_of_some _ hS) rfl) ?_
  · obtain ⟨c, u, hc, rfl⟩ := hv
    have hc' : x.cps.toList[i]? = some c := by rw [Array.getElem?_toList]; exact hc
    exact ⟨⟨#[c]⟩, u, by simp [signs, hc'], rfl⟩
  intro s' hm hS'
  obtain ⟨h', g2, d', tk', os'⟩ := s'
  have eg : g2 = s.gens := hm.gens
  have ed : d' = s.drawn := hm.drawn
  have eo : os' = s.os := hm.os
  subst eg; subst ed; subst eo
  show wpAny _ _ _ _ _ _
  refine wpAny_pure ?_
  show wpAny _ _ (ret Value.none) _ _ _
  refine wpAny_pure (hR h' tk' ⟨hS', fun b u e => ?_⟩)
  have hb0 : b < s.heap.objs.size := Heap.lt_size e
  refine hm.heap b u (fun z => ?_) (Heap.get?_push_of_some _ (Heap.get?_push_of_some _ e))
  · rcases List.mem_cons.mp z with z | z
    · exact ne_lt hb0 z
    · have z := List.mem_singleton.mp z
      rw [hz1] at z
      exact ne_lt1 hb0 z
theorem call_setL {l : Addr} {items : Array Value} {xs : List Str} {Q : Value → Shared → Prop} (hh : A.handled = none) (hl : s.heap.IsList l items) (hi : StrsAre items.toList xs) (hb : xs.length + 1 < scanBound)
    (h : ∀ (h' : Heap) (tk : Nat), SetZ w h' s.heap.objs.size (met xs) → (∀ b o, s.heap.get? b = some o → h'.get? b = some o) → Q (.ref s.heap.objs.size) { s with heap := h', toks := tk }) :
    wpAny (model P w) A (call (.type "set") [(.ref l)]) Q E s := by
  refine call_set_outer (fun h' => SetZ w h' s.heap.objs.size (met xs) ∧ ∀ b o, s.heap.get? b = some o → h'.get? b = some o) (fun R hR => ?_) fun h' tk p => h h' tk p.1 p.2
  have hS : (s.heap.push (freshSet w)).get? s.heap.objs.size = some (freshSet w) := Heap.get?_push_size _ rfl
  have hT : Shared.TypeIs { s with heap := s.heap.push (freshSet w) } (.ref s.heap.objs.size) "set" := ⟨_, hS, rfl⟩
  have hz1 : (s.heap.push (freshSet w)).objs.size = s.heap.objs.size + 1 := Heap.size_push ..
  have hh3 : A.in1.in1.in1.handled = none := by simp [hh]
  obtain ⟨ol, hol, hcl, nl, hdl⟩ := hl
  obtain ⟨ocls, odict, odata, oslots⟩ := ol
  simp only at hcl hdl
  subst hcl; subst hdl
  have hol' : (s.heap.push (freshSet w)).get? l = some { cls := .type "list", dict := odict, data := .seq items nl, slots := oslots } := Heap.get?_push_of_some _ hol
  have hsls := PySem.F.sub_list_set
  have hslf := PySem.F.sub_list_frozenset
  have hne : (Value.type "list" == Value.type "dict") = false := by decide
  have hl1 : (s.heap.push (freshSet w)).IsList l items := ⟨_, hol', rfl, nl, rfl⟩
  unfold Builtin.«set.__init__» noKeywords Builtin.Frozenset.updateFrom
  generalize hPI : pyIter = PI
  wp_walk
  subst hPI
  refine wpAny_pyIter_list hl1 ?_
  refine wpAny_bind (wpAny_runValue ?_)
  have hlS : l < s.heap.objs.size := Heap.lt_size hol
  have hneI : l ≠ (s.heap.push (freshSet w)).objs.size := by rw [hz1]; exact fun z => ne_lt1 hlS z
  have hlen : items.size = xs.length := by rw [← StrsAre.len_eq hi, Array.length_toList]
  refine loopZ ((Walks.list hh3 _ l hneI items).toS) s.heap.objs.size (fun z => ?_) xs hlen hb (fun i v hv => ?_) (items.size - 0) 0 _ (by omega) (Nat.zero_le _)
    ⟨⟨_, Heap.get?_push_size _ rfl, rfl, rfl⟩, hl1.push _⟩ (setZ_new (Heap.get?_push_of_some _ hS) rfl) ?_
  · rcases List.mem_cons.mp z with z | z
    · rw [hz1] at z; exact ne_succ z
    · exact ne_lt hlS (List.mem_singleton.mp z).symm
  · have hi' : i < xs.length := by rw [← hlen]; exact (Array.getElem?_eq_some_iff.mp hv).1
    obtain ⟨t, e⟩ := SS.strs_at hi i v (by rw [Array.getElem?_toList]; exact hv)
    refine ⟨xs[i], t, List.getElem?_eq_getElem hi', ?_⟩
    rw [e, List.getD_eq_getElem?_getD, List.getElem?_eq_getElem hi'] <;> rfl
  intro s' hm hS'
  obtain ⟨h', g2, d', tk', os'⟩ := s'
  have eg : g2 = s.gens := hm.gens
  have ed : d' = s.drawn := hm.drawn
  have eo : os' = s.os := hm.os
  subst eg; subst ed; subst eo
  show wpAny _ _ _ _ _ _
  refine wpAny_pure ?_
  show wpAny _ _ (ret Value.none) _ _ _
  refine wpAny_pure (hR h' tk' ⟨hS', fun b u e => ?_⟩)
  have hb0 : b < s.heap.objs.size := Heap.lt_size e
  refine hm.heap b u (fun z => ?_) (Heap.get?_push_of_some _ (Heap.get?_push_of_some _ e))
  · rcases List.mem_cons.mp z with z | z
    · exact ne_lt hb0 z
    · have z := List.mem_singleton.mp z
      rw [hz1] at z
      exact ne_lt1 hb0 z
theorem call_setU {l : Addr} {items : Array Value} {xs : List Str} {Q : Value → Shared → Prop} (hh : A.handled = none) (hl : s.heap.IsTuple l items) (hi : StrsAre items.toList xs) (hb : xs.length + 1 < scanBound)
    (h : ∀ (h' : Heap) (tk : Nat), SetZ w h' s.heap.objs.size (met xs) → (∀ b o, s.heap.get? b = some o → h'.get? b = some o) → Q (.ref s.heap.objs.size) { s with heap := h', toks := tk }) :
    wpAny (model P w) A (call (.type "set") [(.ref l)]) Q E s := by
  refine call_set_outer (fun h' => SetZ w h' s.heap.objs.size (met xs) ∧ ∀ b o, s.heap.get? b = some o → h'.get? b = some o) (fun R hR => ?_) fun h' tk p => h h' tk p.1 p.2
  have hS : (s.heap.push (freshSet w)).get? s.heap.objs.size = some (freshSet w) := Heap.get?_push_size _ rfl
  have hT : Shared.TypeIs { s with heap := s.heap.push (freshSet w) } (.ref s.heap.objs.size) "set" := ⟨_, hS, rfl⟩
  have hz1 : (s.heap.push (freshSet w)).objs.size = s.heap.objs.size + 1 := Heap.size_push ..
  have hh3 : A.in1.in1.in1.handled = none := by simp [hh]
  obtain ⟨ol, hol, hcl, nl, hdl⟩ := hl
  obtain ⟨ocls, odict, odata, oslots⟩ := ol
  simp only at hcl hdl
  subst hcl; subst hdl
  have hol' : (s.heap.push (freshSet w)).get? l = some { cls := .type "tuple", dict := odict, data := .seq items nl, slots := oslots } := Heap.get?_push_of_some _ hol
  have hsls := PySem.F.sub_tuple_set
  have hslf := PySem.F.sub_tuple_frozenset
  have hne : (Value.type "tuple" == Value.type "dict") = false := by decide
  have hl1 : (s.heap.push (freshSet w)).IsTuple l items := ⟨_, hol', rfl, nl, rfl⟩
  unfold Builtin.«set.__init__» noKeywords Builtin.Frozenset.updateFrom
  generalize hPI : pyIter = PI
  wp_walk
  subst hPI
  refine wpAny_pyIter_tuple hl1 ?_
  refine wpAny_bind (wpAny_runValue ?_)
  have hlS : l < s.heap.objs.size := Heap.lt_size hol
  have hneI : l ≠ (s.heap.push (freshSet w)).objs.size := by rw [hz1]; exact fun z => ne_lt1 hlS z
  have hlen : items.size = xs.length := by rw [← StrsAre.len_eq hi, Array.length_toList]
  refine loopZ ((Walks.tuple hh3 _ l hneI items).toS) s.heap.objs.size (fun z => ?_) xs hlen hb (fun i v hv => ?_) (items.size - 0) 0 _ (by omega) (Nat.zero_le _)
    ⟨⟨_, Heap.get?_push_size _ rfl, rfl, rfl⟩, hl1.push _⟩ (setZ_new (Heap.get?_push_of_some _ hS) rfl) ?_
  · rcases List.mem_cons.mp z with z | z
    · rw [hz1] at z; exact ne_succ z
    · exact ne_lt hlS (List.mem_singleton.mp z).symm
  · have hi' : i < xs.length := by rw [← hlen]; exact (Array.getElem?_eq_some_iff.mp hv).1
    obtain ⟨t, e⟩ := SS.strs_at hi i v (by rw [Array.getElem?_toList]; exact hv)
    refine ⟨xs[i], t, List.getElem?_eq_getElem hi', ?_⟩
    rw [e, List.getD_eq_getElem?_getD, List.getElem?_eq_getElem hi'] <;> rfl
  intro s' hm hS'
  obtain ⟨h', g2, d', tk', os'⟩ := s'
  have eg : g2 = s.gens := hm.gens
  have ed : d' = s.drawn := hm.drawn
  have eo : os' = s.os := hm.os
  subst eg; subst ed; subst eo
  show wpAny _ _ _ _ _ _
  refine wpAny_pure ?_
  show wpAny _ _ (ret Value.none) _ _ _
  refine wpAny_pure (hR h' tk' ⟨hS', fun b u e => ?_⟩)
  have hb0 : b < s.heap.objs.size := Heap.lt_size e
  refine hm.heap b u (fun z => ?_) (Heap.get?_push_of_some _ (Heap.get?_push_of_some _ e))
  · rcases List.mem_cons.mp z with z | z
    · exact ne_lt hb0 z
    · have z := List.mem_singleton.mp z
      rw [hz1] at z
      exact ne_lt1 hb0 z
end
end DL
set_option maxHeartbeats 4000000
namespace DL
open PySem PySem.Spec PyProof.Rows L2
structure Later (s s' : Shared) : Prop where
  keep : ∀ b o, s.heap.get? b = some o → s'.heap.get? b = some o
  gens : s'.gens = s.gens
  os : s'.os = s.os
section
variable {P : Program} {w : World} {A : Around} {E : Value → Shared → Prop} {s : Shared}
theorem sorted_by {v : Value} {ks : List Str} {Q : Value → Shared → Prop}
    (hcol : ∀ (E' : Value → Shared → Prop) (Q' : List Value → Shared → Prop), (∀ s' vs ks', Later s s' → StrsAre vs ks' → ks'.Perm ks → Q' vs s') → wpAny (model P w) A.in1 (collect v) Q' E' s)
    (hL : ks.length ≤ sizeLine)
    (h : ∀ s1 s' p (out : Array Value) (c : Nat) (ys : List Str), Later s s1 → Later s1 s' → s1.heap.objs.size ≤ p → s'.heap.get? p = some (seqObj "list" out c) → StrsAre out.toList ys → ys.Perm ks → sortedS ys = true → Q (.ref p) s') :
    wpAny (model P w) A (call (.builtin "sorted") [v]) Q E s := by
  refine Calls.call_function_entry PyProof.Rows.kind_sorted PyProof.Rows.plain_sorted PyProof.Rows.entry_sorted (PyProof.Rows.args_sorted1 _) ?_
  unfold Builtin.«sorted»
  refine wpAny_bind (m := checkCount "sorted" 1 1 _) (wpAny_pure ?_)
  refine wpAny_bind (hcol _ _ fun s1 vs ks' la hS pk => ?_)
  have hvl : vs.length ≤ sizeLine := by rw [hS.length, pk.length_eq]; exact hL
  refine wpAny_bind (wpAny_newList ?_ hvl)
  have hoL : (s1.heap.push (seqObj "list" vs.toArray 0)).get? s1.heap.objs.size = some (seqObj "list" vs.toArray 0) := Heap.get?_push_size _ rfl
  refine wpAny_bind (wpAny_holding (wpAny_call_entry PyProof.Rows.slot_list_sort ⟨_, hoL, rfl⟩ PyProof.Rows.entry_list_sort
    (list_sort_treeKAny strKind_oneLt (s := { s1 with heap := s1.heap.push (seqObj "list" vs.toArray 0) }) hoL hS.keysOf (fun v₁ v₂ rest e => keyKind_strs (by rw [← e]; exact hS)) hvl fun st' hp hs => ⟨_, rfl, ?_⟩)
    (PyProof.Rows.args_list_sort _)))
  obtain ⟨ys, g1, g2, g3⟩ := sorted_out_str hS hp hs
  obtain ⟨c, hc⟩ := PyProof.Rows.sortedHeap_at (vs := vs) (out := (arrOf st').map (·.2)) hoL
  refine wpAny_pure ⟨_, rfl, h s1 _ s1.heap.objs.size ((arrOf st').map (·.2)) c ys la ⟨fun b u q => ?_, rfl, rfl⟩ (Nat.le_refl _) hc g1 (g2.trans pk) g3⟩
  · have hlt := Heap.lt_size q
    show (sortedHeap (s1.heap.push (seqObj "list" vs.toArray 0)) s1.heap.objs.size vs _).get? b = some u
    rw [PyProof.Rows.sortedHeap_old (Nat.ne_of_lt hlt) (by rw [size_push']; exact Nat.lt_succ_of_lt hlt)]
    exact Heap.get?_push_of_some _ q
theorem col_list {l : Addr} {vs : List Value} {ks : List Str} (hl : s.heap.IsList l vs.toArray) (hS : StrsAre vs ks) (hL : vs.length ≤ sizeLine) :
    ∀ (E' : Value → Shared → Prop) (Q' : List Value → Shared → Prop), (∀ s' vs ks', Later s s' → StrsAre vs ks' → ks'.Perm ks → Q' vs s') → wpAny (model P w) A (collect (.ref l)) Q' E' s := fun E' Q' h =>
  collect_list hl (h _ vs ks ⟨fun b o e => by
    show ((s.heap.push (seqObj "list" #[] 0)).update s.heap.objs.size _).get? b = some o
    rw [Heap.get?_update_ne _ _ _ _ (Nat.ne_of_lt (Heap.lt_size e))]
    exact Heap.get?_push_of_some _ e, rfl, rfl⟩ hS (List.Perm.refl _)) hL
theorem strs_of_all : ∀ l : List Value, (∀ v ∈ l, ∃ x tk, v = Value.str x tk) → StrsAre l (l.map fun v => match v with | .str x _ => x | _ => Str.empty)
  | [], _ => .nil
  | v :: l, h => by
    obtain ⟨x, tk, rfl⟩ := h v List.mem_cons_self
    exact .cons x tk (strs_of_all l fun u hu => h u (List.mem_cons_of_mem _ hu))
theorem col_set {a : Addr} {xs : List Str} (hh : A.handled = none) (z : SetZ w s.heap a xs) :
    ∀ (E' : Value → Shared → Prop) (Q' : List Value → Shared → Prop), (∀ s' vs ks', Later s s' → StrsAre vs ks' → ks'.Perm xs → Q' vs s') → wpAny (model P w) A (collect (.ref a)) Q' E' s := fun E' Q' h => by
  obtain ⟨o, es, ep, t, ho, hex, hd, g, nd, pm, hb, hf, hr, hl⟩ := z
  refine collect_set hh ⟨o, ho, hex.1, hd⟩ hf hb hr hl fun s1 vs k1 hz g1 o1 pv => ?_
  have hS : StrsAre vs (vs.map fun v => match v with | .str x _ => x | _ => Str.empty) := strs_of_all vs fun v hv => by
    obtain ⟨e, he, q⟩ := List.mem_map.mp (pv.mem_iff.mp hv)
    obtain ⟨k, tk, h1, _⟩ := g e he
    exact ⟨k, tk, by rw [← q]; exact h1⟩
  refine h s1 vs _ ⟨k1, g1, o1⟩ hS ?_
  refine List.Perm.trans ?_ pm.symm
  have q := pv.map fun v : Value => (match v with | .str x _ => x | _ => Str.empty : Str)
  rw [List.map_map] at q
  exact q
end
section
variable {X : Cx}
def SetZo (w : World) (a : Addr) (xs : List Str) : HO := .ext fun h => SetZ w h a xs
theorem setZo_new {w : World} {Pr : Program} {H : Hp} {h : Heap} {a : Addr} {xs : List Str} (z : SetZ w h a xs) : ObjOk Pr w H h a (SetZo w a xs) := by
  have ⟨o, _, _, _, ho, _⟩ := z
  exact ⟨z, ⟨o, ho⟩, fun h1 h2 p k => SetZ.at p k⟩
def rSetX (K : PySem.W.Frag) (w : World) : List V → Hp → VK → Prop := fun vs H Q => ∃ xs : List Str, xs.length + 1 < scanBound ∧
  ((∃ x, vs = [.str x] ∧ xs = signs x) ∨ (∃ a, vs = [.ref a] ∧ (SqL K H a (xs.map V.str) ∨ SqT K H a (xs.map V.str)))) ∧ ∀ p, H p = none → Q (.ref p) (upd H p (SetZo w p (met xs)))
theorem cr_setX (hc : X.calm = true) : CallR X (.type "set") (rSetX X.K X.w) := by
  intro pins s σ H vs us Q I r h
  obtain ⟨xs, hb, h, q⟩ := h
  have fin : ∀ (h' : Heap) (tk : Nat), SetZ X.w h' s.heap.objs.size (met xs) → (∀ b o, s.heap.get? b = some o → h'.get? b = some o) → EP X pins σ Q (.ref s.heap.objs.size) { s with heap := h', toks := tk } := fun h' tk z k => by
    have hn : H s.heap.objs.size = none := I.hok.fresh (Nat.le_refl _)
    exact ⟨.ref s.heap.objs.size, _, I.laid (o := SetZo X.w s.heap.objs.size (met xs)) k (Nat.le_refl _) (setZo_new z), rfl, q _ hn⟩
  rcases h with ⟨x, rfl, rfl⟩ | ⟨a, rfl, h | h⟩
  · obtain ⟨u, rfl, ru⟩ := vals1 r
    obtain ⟨t, rfl⟩ := ru
    exact call_setT (I.ok.hd hc) (by simpa [signs] using hb) fun h' tk z k => fin h' tk z k
  · obtain ⟨its, rv, pl, hz⟩ := I.list h
    rw [Vals.ref1 r]
    exact call_setL (I.ok.hd hc) pl.isList (by simpa using rv.strs) hb fun h' tk z k => fin h' tk z k
  · obtain ⟨its, rv, pl, hz⟩ := I.tuple h
    rw [Vals.ref1 r]
    exact call_setU (items := its.toArray) (I.ok.hd hc) (show s.heap.IsTuple a its.toArray from pl) (by simpa using rv.strs) hb fun h' tk z k => fin h' tk z k
theorem Later.inv {pins : List (Addr × Obj)} {σ : L2.St} {H : Hp} {s s' : Shared} (I : Inv X pins σ H s) (la : Later s s') : Inv X pins σ H s' :=
  I.call' (ch := []) la.os (Un.kept la.keep) (I.hok.kept la.keep) (by rw [la.gens]; exact I.bare) (fun _ z => nomatch z)
theorem sorted_fin {pins : List (Addr × Obj)} {σ : L2.St} {H : Hp} {s s1 s' : Shared} {p : Addr} {out : Array Value} {c : Nat} {ys : List Str} {Q : VK} (I : Inv X pins σ H s) (l1 : Later s s1) (la : Later s1 s') (hp : s1.heap.objs.size ≤ p)
    (ho : s'.heap.get? p = some (seqObj "list" out c)) (hS : StrsAre out.toList ys) (hL : ys.length ≤ sizeLine) (q : H p = none → Q (.ref p) (upd H p (.lst (ys.map V.str)))) : EP X pins σ Q (.ref p) s' := by
  have I1 := Later.inv I l1
  have hn : H p = none := I1.hok.fresh hp
  have J : Inv X pins σ (upd H p (.lst (ys.map V.str))) s' :=
    I1.call' (ch := []) la.os (Un.laid la.keep hp hn) (I1.hok.laid la.keep hp ⟨by rw [List.length_map]; exact hL, out.toList, c, vals_of_strs hS, ho⟩) (by rw [la.gens]; exact I1.bare) (fun _ z => nomatch z)
  exact ⟨.ref p, _, J, rfl, q hn⟩
def rSortX (K : PySem.W.Frag) (w : World) : List V → Hp → VK → Prop := fun vs H Q => ∃ (a : Addr) (xs : List Str), vs = [.ref a] ∧ xs.length ≤ sizeLine ∧ (SqL K H a (xs.map V.str) ∨ H a = some (SetZo w a xs)) ∧
  ∀ ys p, ys.Perm xs → sortedS ys = true → H p = none → Q (.ref p) (upd H p (.lst (ys.map V.str)))
theorem cr_sortX (hc : X.calm = true) : CallR X (.builtin "sorted") (rSortX X.K X.w) := by
  intro pins s σ H vs us Q I r h
  obtain ⟨a, xs, rfl, hL, h, q⟩ := h
  rw [Vals.ref1 r]
  rcases h with h | h
  · obtain ⟨its, rv, pl, hz⟩ := I.list h
    refine sorted_by (ks := xs) (col_list pl.isList rv.strs (by rw [rv.strs.length]; exact hL)) hL fun s1 s' p out c ys l1 la hp ho hS pm hs => ?_
    exact sorted_fin I l1 la hp ho hS (by rw [pm.length_eq]; exact hL) fun hn => q ys p pm hs hn
  · refine sorted_by (ks := xs) (col_set (show X.A.in1.handled = none from I.ok.hd hc) (I.hok a _ h).1) hL fun s1 s' p out c ys l1 la hp ho hS pm hs => ?_
    exact sorted_fin I l1 la hp ho hS (by rw [pm.length_eq]; exact hL) fun hn => q ys p pm hs hn
end
end DL
set_option maxHeartbeats 4000000
namespace DL
open PySem PySem.Spec PyProof.Rows L2
section
variable {X : Cx}
def KVo (v d : Addr) : HO := .ext fun h => PySem.W.KdlKeysView h v d
theorem kvo_new {w : World} {Pr : Program} {H : Hp} {h : Heap} {v d : Addr} (z : PySem.W.KdlKeysView h v d) : ObjOk Pr w H h v (KVo v d) := by
  have ⟨o, ho, _⟩ := z
  exact ⟨z, ⟨o, ho⟩, fun h1 h2 p k => let ⟨o, ho, r⟩ := p; ⟨o, k o ho, r⟩⟩
def tKeys (td : TE) : TE := fun σ H Q => td σ H fun x H1 => ∃ d kvs, x = .ref d ∧ Rd H1 d (.dK kvs) ∧ ∀ p, H1 p = none → Q (.ref p) (upd H1 p (KVo p d))
theorem pe_keys {e : Expr} {td : TE} {apos cpos : Pos} (he : PE X e td) (hbase : attributeBase e "keys" X.env (eval e X.env) = eval e X.env := by rfl) (hline : (apos.endLine == cpos.line) = true := by rfl) :
    PE X (.Call (.Attribute e "keys" apos) [] [] cpos) (tKeys td) := by
  refine ⟨fun pins s σ H Q I h => ?_⟩
  refine wpAny_Call_method (T := "dict") (id := "dict.keys") hbase rfl hline PySem.F.plainAttrs_dict PySem.F.slot_dict_keys PySem.F.type_dict_keys (thn (he.run pins s σ H _ I h) fun u s1 ⟨x, H1, I1, rx, d, kvs, ex, hd, q⟩ => ?_)
  subst ex
  obtain rfl : u = Value.ref d := rx
  obtain ⟨z, lo, vs, rel, dd⟩ := dk_rd I1.hok hd
  refine ⟨dd.typeIs, dd.mapOf.noDict, ?_⟩
  have hn : H1 s1.heap.objs.size = none := I1.hok.fresh (Nat.le_refl _)
  have fin : EP X pins σ Q (.ref s1.heap.objs.size) { s1 with heap := s1.heap.push { cls := .type "dict_keys", data := .fields #[.ref d] } } :=
    ⟨.ref s1.heap.objs.size, _, I1.laid (t' := s1.toks) (o := KVo s1.heap.objs.size d) (fun b ob q => Heap.get?_push_of_some _ q) (Nat.le_refl _) (kvo_new ⟨_, Heap.get?_push_size _ rfl, rfl, rfl⟩), rfl, q _ hn⟩
  show wpAny _ _ (callWith cpos (.builtin "dict.keys") [.ref d] [] []) _ X.xe s1
  exact method_meetsIn PySem.F.slot_dict_keys PySem.F.entry_dict_keys rfl (PySem.evalArgs_none ⟨rfl, dd.typeIs, PySem.F.args_dict_keys_1 _, _, PySem.W.kdl_meets_keys (mixKind X.prog X.w) d lo, ⟨vs, dd⟩, fin⟩)
def rSortK : List V → Hp → VK → Prop := fun vs H Q => ∃ (v d : Addr) (kvs : List (Key × V)) (ks : List Str), vs = [.ref v] ∧ H v = some (KVo v d) ∧ Rd H d (.dK kvs) ∧ kvs.map (·.1) = ks.map Sum.inr ∧
  ∀ ys p, ys.Perm ks → sortedS ys = true → H p = none → Q (.ref p) (upd H p (.lst (ys.map V.str)))
theorem cr_sortK (hc : X.calm = true) : CallR X (.builtin "sorted") rSortK := by
  intro pins s σ H xs us Q I r q
  obtain ⟨v, d, kvs, ks, rfl, hv, hd, hks, q⟩ := q
  rw [Vals.ref1 r]
  obtain ⟨z, lo, vs, rel, dd⟩ := dk_rd I.hok hd
  obtain ⟨ep, hat⟩ := dd.dictAt
  have hkeys : vs.map (·.1) = ks.map Sum.inr := rel.keys.symm.trans hks
  have hl : vs.length = ks.length := by
    have e := congrArg List.length hkeys
    rw [List.length_map, List.length_map] at e
    exact e
  have hL : ks.length ≤ sizeLine := by
    have e := congrArg List.length hks
    rw [List.length_map, List.length_map] at e
    rw [← e]; exact z
  have view : PySem.W.KdlKeysView s.heap v d := (I.hok v _ hv).1
  refine sorted_by (ks := ks) (fun E' Q' h => PySem.W.kdu_collect (A := X.A.in1) (PySem.W.kdl_keys (knd := mixKind X.prog X.w) (kvs := vs) (ep := ep)) (I.ok.hd hc) ⟨view, hat⟩ (by rw [hl]; exact hL) fun h' tk acc hk hacc => ?_) hL
    fun s1 s' p out c ys l1 la hp ho hS pm hs => sorted_fin I l1 la hp ho hS (by rw [pm.length_eq]; exact hL) fun hn => q ys p pm hs hn
  have hal : acc.toList.length = ks.length := by rw [Array.length_toList, hacc.1, hl]
  have hS : StrsAre acc.toList ks := L2.strs_at hal fun j v e => by
    obtain ⟨k, x, e1, e2⟩ := hacc.2 j v (by rw [← Array.getElem?_toList]; exact e)
    have e3 : (vs.map (·.1))[j]? = some k := by rw [List.getElem?_map, e1]; all_goals rfl
    rw [hkeys, List.getElem?_map] at e3
    cases e4 : ks[j]? with
    | none => rw [e4] at e3; cases e3
    | some y =>
      rw [e4] at e3
      have e5 : Sum.inr y = k := Option.some.inj e3
      subst e5
      obtain ⟨t, ev⟩ := Value.isStrOf_shape (x := y) (v := v) e2
      exact ⟨y, t, rfl, ev⟩
  exact h _ acc.toList ks ⟨hk, rfl, rfl⟩ hS (List.Perm.refl _)
end
end DL
namespace DL
open PySem L2
def leS (a b : Str) : Bool := decide (a.cps.toList ≤ b.cps.toList)
def srt (xs : List Str) : List Str := xs.mergeSort leS
theorem str_ext {a b : Str} (h : a.cps.toList = b.cps.toList) : a = b := by
  cases a; cases b; exact congrArg Str.mk (Array.toList_inj.mp h)
theorem leS_trans (a b c : Str) (h : leS a b = true) (g : leS b c = true) : leS a c = true :=
  decide_eq_true (List.le_trans (of_decide_eq_true h) (of_decide_eq_true g))
theorem leS_total (a b : Str) : (leS a b || leS b a) = true := by
  rcases List.le_total a.cps.toList b.cps.toList with h | h
  · rw [show leS a b = true from decide_eq_true h]; rfl
  · rw [show leS b a = true from decide_eq_true h, Bool.or_true]
theorem leS_anti {a b : Str} (h : leS a b = true) (g : leS b a = true) : a = b := str_ext (List.le_antisymm (of_decide_eq_true h) (of_decide_eq_true g))
theorem srt_perm (xs : List Str) : (srt xs).Perm xs := List.mergeSort_perm _ _
theorem srt_pw (xs : List Str) : (srt xs).Pairwise fun a b => leS a b = true := List.pairwise_mergeSort leS_trans leS_total xs
theorem rising_pw : ∀ (p : Str) (l : List Str), PyProof.Rows.risingS p l = true → (p :: l).Pairwise fun a b => leS a b = true
  | p, [], _ => List.pairwise_singleton _ _
  | p, x :: r, h => by
    have h' : (!Spec.ltCps x.cps.toList p.cps.toList && PyProof.Rows.risingS x r) = true := h
    rw [Bool.and_eq_true, PyProof.Rows.ltCps_eq] at h'
    have hx : leS p x = true := decide_eq_true (by simpa using h'.1)
    have ih := rising_pw x r h'.2
    refine List.pairwise_cons.mpr ⟨fun y hy => ?_, ih⟩
    rcases List.mem_cons.mp hy with e | e
    · rw [e]; exact hx
    · exact leS_trans _ _ _ hx (List.rel_of_pairwise_cons ih e)
theorem sorted_pw {l : List Str} (h : PyProof.Rows.sortedS l = true) : l.Pairwise fun a b => leS a b = true := by
  cases l with
  | nil => exact List.Pairwise.nil
  | cons x r => exact rising_pw x r h
theorem srt_unique {xs ys : List Str} (p : ys.Perm xs) (h : ys.Pairwise fun a b => leS a b = true) : ys = srt xs :=
  List.Perm.eq_of_pairwise (fun a b _ _ h1 h2 => leS_anti h1 h2) h (srt_pw xs) (p.trans (srt_perm xs).symm)
theorem srt_eq {xs ys : List Str} (p : ys.Perm xs) (h : PyProof.Rows.sortedS ys = true) : ys = srt xs := srt_unique p (sorted_pw h)
theorem mem_addS {xs : List Str} {k x : Str} : x ∈ addS xs k ↔ x ∈ xs ∨ x = k := by
  unfold addS; split
  · rename_i h; exact ⟨.inl, fun z => z.elim id fun e => e ▸ h⟩
  · simp
theorem mem_met_aux {x : Str} : ∀ (l acc : List Str), x ∈ l.foldl addS acc ↔ x ∈ acc ∨ x ∈ l
  | [], acc => by simp
  | k :: l, acc => by rw [List.foldl_cons, mem_met_aux l, mem_addS, List.mem_cons]; exact or_assoc
theorem mem_met {x : Str} {l : List Str} : x ∈ met l ↔ x ∈ l := by unfold met; rw [mem_met_aux]; simp
theorem nodup_met_aux : ∀ (l acc : List Str), acc.Nodup → (l.foldl addS acc).Nodup
  | [], _, h => h
  | k :: l, acc, h => nodup_met_aux l _ (addS_nodup h)
theorem nodup_met (l : List Str) : (met l).Nodup := nodup_met_aux l [] List.nodup_nil
def srtset (xs : List Str) : List Str := srt (met xs)
theorem mem_srtset {x : Str} {l : List Str} : x ∈ srtset l ↔ x ∈ l := by rw [srtset, (srt_perm _).mem_iff, mem_met]
theorem nodup_srtset (l : List Str) : (srtset l).Nodup := (srt_perm _).nodup_iff.mpr (nodup_met l)
def txts : List D → Option (List Str)
  | [] => some []
  | .str b :: r => (txts r).map (b :: ·)
  | _ => none
theorem txts_map : ∀ bs : List Str, txts (bs.map D.str) = some bs
  | [] => rfl
  | b :: bs => by rw [List.map_cons, txts, txts_map bs]; rfl
theorem txts_of {K : PySem.W.Frag} {F : Hp} : ∀ {ds : List D} {bs : List Str} {vs : List V}, txts ds = some bs → Reps K F ds vs → vs = bs.map V.str
  | [], _, _, e, r => by cases e; exact r
  | d :: ds, bs, vs, e, r => by
    cases d <;> first | (cases (show (none : Option (List Str)) = some bs from e)) | skip
    rename_i b
    rw [txts] at e
    cases q : txts ds with
    | none => rw [q] at e; cases e
    | some cs =>
      rw [q] at e; cases e
      obtain ⟨v, r', rfl, rfl, h⟩ := r
      rw [txts_of q h]; rfl
section
variable {K : PySem.W.Frag} {w : World}
def oSort : OL := fun ds P => match ds with
  | [.lst xs] => asA (txts xs) fun ss => ss.length ≤ sizeLine ∧ P (.ol ((srt ss).map .str))
  | _ => False
theorem snd_sort : SndL K (rSortX K w) oSort := ⟨fun {F H ds vs P Q} fh r h k => by
  unfold oSort at h
  split at h
  · obtain ⟨v, _, rfl, ⟨a, us, rfl, h1, h2⟩, rfl⟩ := r
    obtain ⟨ss, e, hz, h⟩ := asA_of h
    have q := txts_of e h2
    subst q
    exact ⟨a, ss, rfl, hz, .inl (fh.seq (SqL.of h1)), fun ys p pm hs n => by rw [srt_eq pm hs]; exact k.newL fh h (Reps.strs.mpr rfl) n⟩
  · exact h.elim⟩
def oSortSet : OL := fun ds P => match ds with
  | [.lst xs] => asA (txts xs) fun ss => ss.length + 1 < scanBound ∧ P (.ol ((srtset ss).map .str))
  | [.tup xs] => asA (txts xs) fun ss => ss.length + 1 < scanBound ∧ P (.ol ((srtset ss).map .str))
  | [.str x] => x.length + 1 < scanBound ∧ P (.ol ((srtset (signs x)).map .str))
  | _ => False
def rSortSet (K : PySem.W.Frag) (w : World) : List V → Hp → VK → Prop := fun vs H Q => rSetX K w vs H fun x H1 => rSortX K w [x] H1 Q
theorem met_small {xs : List Str} (h : xs.length + 1 < scanBound) : (met xs).length ≤ sizeLine := by
  have h1 := met_len xs
  have h2 : scanBound ≤ sizeLine := by decide
  omega
theorem snd_sortSet : SndL K (rSortSet K w) oSortSet := ⟨fun {F H ds vs P Q} fh r h k => by
  have fin : ∀ (xs : List Str), xs.length + 1 < scanBound → P (.ol ((srtset xs).map .str)) → ∀ p, H p = none → rSortX K w [.ref p] (upd H p (SetZo w p (met xs))) Q := fun xs hb hP p n =>
    ⟨p, met xs, rfl, met_small hb, .inr upd_same, fun ys p2 pm hs n2 => by
      rw [srt_eq pm hs]
      have fh2 : Same F (upd H p (SetZo w p (met xs))) := fh.trans (Same.new n)
      exact k (.ol ((srtset xs).map .str)) _ F _ hP ((Same.new n).trans (Same.new n2)) (Same.refl _) (fh2.trans (Same.new n2)) (fun _ q => .inl q)
        ⟨p2, _, rfl, upd_same, Reps.strs.mpr rfl, (Same.new n).free n2, fh2.free n2⟩⟩
  unfold oSortSet at h
  split at h
  · obtain ⟨v, _, rfl, ⟨a, us, rfl, h1, h2⟩, rfl⟩ := r
    obtain ⟨ss, e, hz, h⟩ := asA_of h
    have q := txts_of e h2
    subst q
    exact ⟨ss, hz, .inr ⟨a, rfl, .inl (fh.seq (SqL.of h1))⟩, fin ss hz h⟩
  · obtain ⟨v, _, rfl, ⟨a, us, rfl, h1, h2⟩, rfl⟩ := r
    obtain ⟨ss, e, hz, h⟩ := asA_of h
    have q := txts_of e h2
    subst q
    exact ⟨ss, hz, .inr ⟨a, rfl, .inr (Same.sqT fh h1)⟩, fin ss hz h⟩
  · rename_i x
    obtain ⟨v, _, rfl, rfl, rfl⟩ := r
    have e : (signs x).length = x.length := by simp [signs]; rfl
    have hz : (signs x).length + 1 < scanBound := by rw [e]; exact h.1
    exact ⟨signs x, hz, .inl ⟨_, rfl, rfl⟩, fin _ hz h.2⟩
  · exact h.elim⟩
def oList : OL := fun ds P => match ds with
  | [.lst xs] => P (.ol xs)
  | [.tup xs] => P (.ol xs)
  | _ => False
theorem snd_list : SndL K (fun xs H Q => ∃ p ys, xs = [.ref p] ∧ (SqL K H p ys ∨ SqT K H p ys) ∧ ∀ l, H l = none → Q (.ref l) (upd H l (.lst ys))) oList := ⟨fun {F H ds vs P Q} fh r h k => by
  unfold oList at h
  split at h
  · obtain ⟨v, _, rfl, ⟨a, us, rfl, h1, h2⟩, rfl⟩ := r
    exact ⟨a, us, rfl, .inl (fh.seq (SqL.of h1)), fun l n => k.newL fh h h2 n⟩
  · obtain ⟨v, _, rfl, ⟨a, us, rfl, h1, h2⟩, rfl⟩ := r
    exact ⟨a, us, rfl, .inr (Same.sqT fh h1), fun l n => k.newL fh h h2 n⟩
  · exact h.elim⟩
def oTuple : OL := fun ds P => match ds with
  | [.lst xs] => P (.d (.tup xs))
  | [.tup xs] => P (.d (.tup xs))
  | _ => False
theorem snd_tuple : SndL K (fun xs H Q => ∃ p ys, xs = [.ref p] ∧ ((SqL K H p ys ∧ ∀ l, H l = none → Q (.ref l) (upd H l (.tup ys))) ∨ (SqT K H p ys ∧ Q (.ref p) H))) oTuple := ⟨fun {F H ds vs P Q} fh r h k => by
  unfold oTuple at h
  split at h
  · obtain ⟨v, _, rfl, ⟨a, us, rfl, h1, h2⟩, rfl⟩ := r
    exact ⟨a, us, rfl, .inl ⟨fh.seq (SqL.of h1), fun l n => k.newT fh h h2 n⟩⟩
  · obtain ⟨v, _, rfl, ⟨a, us, rfl, h1, h2⟩, rfl⟩ := r
    exact ⟨a, us, rfl, .inr ⟨Same.sqT fh h1, k.flat fh h ⟨a, us, rfl, h1, h2⟩⟩⟩
  · exact h.elim⟩
end
section
variable {K : PySem.W.Frag} {w : World} {X : Cx} {Z : Zx} {pos p p2 : Pos} {a b e : Expr} {ta tb te : TE} {wa wb we : W}
abbrev qList (K : PySem.W.Frag) : List V → Hp → VK → Prop := fun xs H Q => ∃ p ys, xs = [.ref p] ∧ (SqL K H p ys ∨ SqT K H p ys) ∧ ∀ l, H l = none → Q (.ref l) (upd H l (.lst ys))
abbrev qTuple (K : PySem.W.Frag) : List V → Hp → VK → Prop := fun xs H Q => ∃ p ys, xs = [.ref p] ∧ ((SqL K H p ys ∧ ∀ l, H l = none → Q (.ref l) (upd H l (.tup ys))) ∨ (SqT K H p ys ∧ Q (.ref p) H))
theorem de_tuple (m : X.mg "tuple" = none) (ha : DE K X Z a ta wa) (hg : Gl X "tuple" := by rfl) (hs : starEach [a] X.env = [(false, eval a X.env)] := by rfl) (hK : X.K = K := by rfl) : DE K X Z (.Call (.Name "tuple" p) [a] [] pos) (tCB (qTuple K) (tCons ta tNil)) (wCB oTuple (wCons wa wNil)) := by
  subst hK
  exact de_callTy call_tuple_of snd_tuple hg m (by decide +kernel) (da_cons ha da_nil hs) (hn := by decide) (hdb := by decide) (he := hs) (hpl := rfl)
theorem de_sortSet (hc : X.calm = true) (m : X.mg "sorted" = none) (m2 : X.mg "set" = none) (ha : DE K X Z a ta wa) (hg : Gl X "sorted" := by rfl) (hg2 : Gl X "set" := by rfl) (hs : starEach [a] X.env = [(false, eval a X.env)] := by rfl)
    (hs2 : starEach [Expr.Call (.Name "set" p2) [a] [] pos] X.env = [(false, eval (Expr.Call (.Name "set" p2) [a] [] pos) X.env)] := by rfl) (hK : X.K = K := by rfl) (hw : X.w = w := by rfl) {pos2 : Pos} :
    DE K X Z (.Call (.Name "sorted" p) [.Call (.Name "set" p2) [a] [] pos] [] pos2) (tCB (rSortX K w) (tCons (tCB (rSetX K w) (tCons ta tNil)) tNil)) (wCB oSortSet (wCons wa wNil)) := by
  subst hK; subst hw
  refine ⟨pe_callB (cr_sortX hc) hg m (by decide +kernel) (pa_cons (pe_callTy (cr_setX hc) hg2 m2 (by decide +kernel) (pa_cons ha.pe pa_nil hs) (hn := by decide) (hdb := by decide) (he := hs) (hpl := rfl)) pa_nil hs2) (hn := by decide) (hdb := by decide) (he := hs2) (hpl := rfl), ?_⟩
  exact cb_run (t := tCons ta tNil) (r := rSortSet X.K X.w) (da_cons ha (da_nil (X := X) (Z := Z)) hs).run snd_sortSet
end
end DL
namespace DL
open PySem L2
def seeR : R → R
  | [] => []
  | some s :: r => some (.d s.fz) :: seeR r
  | none :: r => none :: seeR r
theorem seeR_len : ∀ ρ : R, (seeR ρ).length = ρ.length
  | [] => rfl
  | some s :: r => congrArg Nat.succ (seeR_len r)
  | none :: r => congrArg Nat.succ (seeR_len r)
theorem seeR_get : ∀ {ρ : R} {i : Nat} {s : S}, (seeR ρ)[i]? = some (some s) → ∃ t, s = .d t.fz ∧ ρ[i]? = some (some t)
  | [], i, s, h => by simp [seeR] at h
  | some t :: r, 0, s, h => by simp [seeR] at h; exact ⟨t, h.symm, rfl⟩
  | none :: r, 0, s, h => by simp [seeR] at h
  | some t :: r, i + 1, s, h => by simp [seeR] at h; obtain ⟨u, e, q⟩ := seeR_get h; exact ⟨u, e, by simpa using q⟩
  | none :: r, i + 1, s, h => by simp [seeR] at h; obtain ⟨u, e, q⟩ := seeR_get h; exact ⟨u, e, by simpa using q⟩
section
variable {K : PySem.W.Frag} {H0 F0 F H : Hp} {ρ : R} {σ : St}
theorem SRep.see {s : S} {v : V} (fh : Same F H) (h : SRep K H0 F H s v) : Rep K H s.fz v := by
  cases s with
  | d x => exact Rep.mono fh _ _ h
  | ol xs => obtain ⟨a, vs, e, h1, h2, _, _⟩ := h; exact ⟨a, vs, e, h1, Reps.mono fh _ _ h2⟩
  | od kvs =>
    obtain ⟨a, kvs', e, h1, hk, h2, _, _⟩ := h
    refine ⟨a, kvs'.map (·.2), e, ?_, ?_, Reps.mono fh _ _ h2⟩
    · refine .inl ?_; rw [h1, ← hk, zip_unzip]
    · rw [h2.len, List.length_map, List.length_map]
  | oi N kvs =>
    obtain ⟨a, C, dx, kvs', e, g, h1, hk, h2, _, _⟩ := h
    refine ⟨a, C, dx, kvs'.map (·.2), e, g, ?_, ?_, Reps.mono fh _ _ h2⟩
    · rw [h1, ← hk, zip_unzip]
    · rw [h2.len, List.length_map, List.length_map]
  | os b N kvs =>
    obtain ⟨_, a, C, dx, kvs', e, g, h1, hk, h2, _, _⟩ := h
    refine ⟨a, C, dx, kvs'.map (·.2), e, g, ?_, ?_, Reps.mono fh _ _ h2⟩
    · rw [h1, ← hk, zip_unzip]
    · rw [h2.len, List.length_map, List.length_map]
theorem Rel.see (r : Rel K H0 F0 F H ρ σ) : Rel K H H H H (seeR ρ) σ := by
  refine ⟨Same.refl _, Same.refl _, Same.refl _, fun _ q => .inl q, by rw [seeR_len]; exact r.len, fun i s q => ?_, fun i j s t q1 q2 w1 w2 z => ?_⟩
  · obtain ⟨t, rfl, q'⟩ := seeR_get q
    obtain ⟨v, e, sr⟩ := r.at_ i t q'
    exact ⟨v, e, sr.see r.fh⟩
  · obtain ⟨t, rfl, q'⟩ := seeR_get q1
    cases w1
end
section
variable {K : PySem.W.Frag} {X : Cx} {Z : Zx} {pos p p2 apos cpos : Pos} {a b e o : Expr} {ta tb te to : TE} {wa wb we wo : W} {i : Nat}
theorem Zx.Ok.all {H0 F0 F H : Hp} {ρ : R} {σ : St} (zo : Z.Ok K H0 F0) (r : Rel K H0 F0 F H ρ σ) : Z0.Ok K H H := Z0.ok
def wLend (w : W) : W := fun ρ P => w (seeR ρ) fun s _ => s.fz.flat = true ∧ P (.d s.fz) ρ
theorem run_lend {t : TE} {w : W} (h : RunE K Z0 t w) : RunE K Z t (wLend w) := fun {H0 F0 F H ρ σ Q P} zo r q k =>
  h Z0.ok r.see q fun s ρ' F' H' v p f r' sr fr => by
    obtain ⟨F2, f2, r2, rp2⟩ := r'.freeze sr fr
    have r3 : Rel K H0 F0 F H' ρ σ := r.grow r'.h
    exact k _ _ F H' v p.2 (Same.refl _) r3 (Rep.flat rp2 p.1) fun w => nomatch w
theorem de_lend {t : TE} {w : W} (h : DE K X Z0 e t w) : DE K X Z e t (wLend w) := ⟨h.pe, run_lend h.run⟩
def wLendT (w : WT) : WT := fun ρ P => w (seeR ρ) fun b _ => P b ρ
theorem run_lendT {t : TT} {w : WT} (h : RunT K Z0 t w) : RunT K Z t (wLendT w) := fun {H0 F0 F H ρ σ Q P} zo r q k =>
  h Z0.ok r.see q fun b ρ' F' H' p f r' => k _ _ F H' p (Same.refl _) (r.grow r'.h)
theorem dt_lend {t : TT} {w : WT} (h : DT K X Z0 e t w) : DT K X Z e t (wLendT w) := ⟨h.pe, run_lendT h.run⟩
def asOL (o : Option S) (P : List D → Prop) : Prop := match o with
  | some (.ol xs) => P xs
  | _ => False
theorem asOL_of {o : Option S} {P : List D → Prop} (h : asOL o P) : ∃ xs, o = some (.ol xs) ∧ P xs := by
  unfold asOL at h; split at h
  · exact ⟨_, rfl, h⟩
  · exact h.elim
def asOD (o : Option S) (P : List (Key × D) → Prop) : Prop := match o with
  | some (.od xs) => P xs
  | _ => False
theorem asOD_of {o : Option S} {P : List (Key × D) → Prop} (h : asOD o P) : ∃ xs, o = some (.od xs) ∧ P xs := by
  unfold asOD at h; split at h
  · exact ⟨_, rfl, h⟩
  · exact h.elim
def wM (i : Nat) (o : List D → List D → (S → List D → Prop) → Prop) (wr : WA) : W := fun ρ P => asOL (nth ρ i) fun _ => wr ρ fun ds ρ1 => asOL (nth ρ1 i) fun xs => o xs ds fun s ys => P s (put ρ1 i (some (.ol ys)))
structure SndM (K : PySem.W.Frag) (r : V → List V → Hp → VK → Prop) (o : List D → List D → (S → List D → Prop) → Prop) : Prop where
  run : ∀ {F H : Hp} {l : Addr} {vs us : List V} {xs ds : List D} {P : S → List D → Prop} {Q : VK}, Same F H → H l = some (.lst vs) → F l = none → Reps K F xs vs → Reps K F ds us → o xs ds P →
    (∀ d ys v vs', P (.d d) ys → Rep K F d v → Reps K F ys vs' → Q v (upd H l (.lst vs'))) → r (.ref l) us H Q
theorem run_M {T : String} {ta : TA} {wr : WA} {r : V → List V → Hp → VK → Prop} {o : List D → List D → (S → List D → Prop) → Prop} (hT : T = "list") (ha : RunA K Z ta wr) (ho : SndM K r o) : RunE K Z (tBM K T r (tVar i) ta) (wM i o wr) := fun {H0 F0 F H ρ σ Q P} zo rl h k => by
  obtain ⟨xs0, e0, h⟩ := asOL_of h
  obtain ⟨v, ev, a, vs, rfl, hl, _⟩ := rl.at_ i _ (nth_some e0)
  refine ⟨.ref a, ev, .inl ⟨hT, vs, SqL.of hl⟩, ha zo rl h fun ds ρ1 F1 H1 us h1 f1 r1 rps => ?_⟩
  obtain ⟨xs, e1, h1⟩ := asOL_of h1
  obtain ⟨v2, ev2, a2, vs2, rfl, hl2, rx, n0, n1⟩ := r1.at_ i _ (nth_some e1)
  rw [ev] at ev2; cases ev2
  refine ho.run r1.fh hl2 n1 rx rps h1 fun d ys v vs' p rd ry => ?_
  rw [put_eq] at p
  exact k _ _ F1 _ v p f1 (r1.write (nth_some e1) rfl ev ⟨a, vs', rfl, upd_same, ry, n0, n1⟩ rfl) rd fun w => nomatch w
theorem run_M0 {T : String} {r : V → List V → Hp → VK → Prop} {o : List D → List D → (S → List D → Prop) → Prop} (hT : T = "list") (ho : SndM K r o) : RunE K Z (tBM0 K T r (tVar i)) (wM i o wNil) := fun {H0 F0 F H ρ σ Q P} zo rl h k => by
  obtain ⟨xs0, e0, h⟩ := asOL_of h
  obtain ⟨v, ev, a, vs, rfl, hl, rx, n0, n1⟩ := rl.at_ i _ (nth_some e0)
  refine ⟨.ref a, ev, .inl ⟨hT, vs, SqL.of hl⟩, ?_⟩
  obtain ⟨xs, e1, h1⟩ := asOL_of h
  rw [e0] at e1; cases e1
  refine ho.run rl.fh hl n1 rx (show Reps K F [] [] from rfl) h1 fun d ys v vs' p rd ry => ?_
  rw [put_eq] at p
  exact k _ _ F _ v p (Same.refl _) (rl.write (nth_some e0) rfl ev ⟨a, vs', rfl, upd_same, ry, n0, n1⟩ rfl) rd fun w => nomatch w
def oAppend : List D → List D → (S → List D → Prop) → Prop := fun xs ds P => match ds with
  | [d] => xs.length < sizeLine ∧ P (.d .non) (xs ++ [d])
  | _ => False
theorem snd_append : SndM K rAppend oAppend := ⟨fun {F H l vs us xs ds P Q} fh hl n rx rd h k => by
  unfold oAppend at h
  split at h
  · obtain ⟨v, _, rfl, rv, rfl⟩ := rd
    exact ⟨l, vs, v, rfl, rfl, hl, by rw [rx.len]; exact h.1, k _ _ _ _ h.2 rfl (rx.app (.one rv))⟩
  · exact h.elim⟩
def oPop : List D → List D → (S → List D → Prop) → Prop := fun xs ds P => match ds with
  | [] => asA xs[xs.length - 1]? fun d => P (.d d) xs.dropLast
  | _ => False
theorem Reps.dropLast {F : Hp} {xs : List D} {vs : List V} (h : Reps K F xs vs) : Reps K F xs.dropLast vs.dropLast := by
  rw [List.dropLast_eq_take, List.dropLast_eq_take, h.len]; exact h.take _
theorem snd_pop : SndM K rPop oPop := ⟨fun {F H l vs us xs ds P Q} fh hl n rx rd h k => by
  unfold oPop at h
  split at h
  · cases rd
    obtain ⟨d, e, h⟩ := asA_of h
    obtain ⟨v, e', rv⟩ := rx.get e
    exact ⟨l, vs, v, rfl, rfl, hl, by rw [rx.len]; exact e', k _ _ _ _ h rv rx.dropLast⟩
  · exact h.elim⟩
section
variable {x : Str} {ta : TA} {wr : WA}
theorem de_append (i : Nat) (ha : DE K X Z e te we) (hN : X.N[i]? = some x := by rfl) (hv : Vis X.env.scope x := by first | exact Or.inl rfl | exact Or.inr (Or.inl rfl) | exact Or.inr (Or.inr rfl)) (hd : (x == ("__debug__" : Str)) = false := by decide)
    (hcd : (x == ("__classdict__" : Str)) = false := by decide) (hs : starEach [e] X.env = [(false, eval e X.env)] := by rfl)
    (hbase : attributeBase (.Name x p) "append" X.env (eval (.Name x p) X.env) = eval (.Name x p) X.env := by rfl)
    (hfew : ((backTo cpos (starEach [e] X.env)).all (fun x => !x.1) && (backToKw cpos (keywordEach [] X.env)).all (fun x => x.1.isSome)
      && decide (([e] : List Expr).length + ([] : List Keyword).length + (if ([] : List Keyword).isEmpty then 0 else 1) < 30)) = true := by rfl)
    (hline : (apos.endLine == cpos.line) = true := by rfl) (hK : X.K = K := by rfl) :
    DE K X Z (.Call (.Attribute (.Name x p) "append" apos) [e] [] cpos) (tBM K "list" rAppend (tVar i) (tCons te tNil)) (wM i oAppend (wCons we wNil)) := by
  subst hK
  exact ⟨pe_bm PySem.F.plainAttrs_list PySem.F.slot_list_append PySem.F.type_list_append mt_append (pe_var hN hv hd hcd) (pa_cons ha.pe pa_nil hs) hbase hfew hline hs rfl, run_M rfl (da_cons ha (da_nil (X := X) (Z := Z)) hs).run snd_append⟩
theorem de_pop (i : Nat) (hN : X.N[i]? = some x := by rfl) (hv : Vis X.env.scope x := by first | exact Or.inl rfl | exact Or.inr (Or.inl rfl) | exact Or.inr (Or.inr rfl)) (hd : (x == ("__debug__" : Str)) = false := by decide)
    (hcd : (x == ("__classdict__" : Str)) = false := by decide)
    (hbase : attributeBase (.Name x p) "pop" X.env (eval (.Name x p) X.env) = eval (.Name x p) X.env := by rfl) (hline : (apos.endLine == cpos.line) = true := by rfl) (hK : X.K = K := by rfl) :
    DE K X Z (.Call (.Attribute (.Name x p) "pop" apos) [] [] cpos) (tBM0 K "list" rPop (tVar i)) (wM i oPop wNil) := by
  subst hK
  exact ⟨pe_bm0 PySem.F.plainAttrs_list PySem.F.slot_list_pop PySem.F.type_list_pop mt_pop (pe_var hN hv hd hcd) hbase hline, run_M0 rfl snd_pop⟩
end
def vget {β : Type} (kvs : List (Key × β)) (k : Key) : Option β := (kvs.find? fun kv => decide (kv.1 = k)).map (·.2)
def vput {β : Type} (kvs : List (Key × β)) (k : Key) (v : β) : List (Key × β) :=
  if (kvs.any fun kv => decide (kv.1 = k)) = true then kvs.map (fun kv => if kv.1 = k then (kv.1, v) else kv) else kvs ++ [(k, v)]
def vdrop {β : Type} (kvs : List (Key × β)) (k : Key) : List (Key × β) := kvs.filter fun kv => decide (kv.1 ≠ k)
def asKey (d : D) (P : Key → Prop) : Prop := match d with
  | .int i => P (.inl i)
  | .str x => P (.inr x)
  | _ => False
theorem asKey_of {F : Hp} {d : D} {v : V} {P : Key → Prop} (h : asKey d P) (r : Rep K F d v) : ∃ k, v = kV k ∧ P k := by
  cases d <;> first | exact h.elim | exact ⟨.inl _, r, h⟩ | exact ⟨.inr _, r, h⟩
def KRep (K : PySem.W.Frag) (F : Hp) (kvs : List (Key × D)) (kvs' : List (Key × V)) : Prop := kvs'.map (·.1) = kvs.map (·.1) ∧ Reps K F (kvs.map (·.2)) (kvs'.map (·.2))
theorem KRep.cons {F : Hp} {p : Key × D} {kvs : List (Key × D)} {l : List (Key × V)} (h : KRep K F (p :: kvs) l) : ∃ q l', l = q :: l' ∧ q.1 = p.1 ∧ Rep K F p.2 q.2 ∧ KRep K F kvs l' := by
  obtain ⟨h1, h2⟩ := h
  cases l with
  | nil => simp at h1
  | cons q l' =>
    rw [List.map_cons, List.map_cons] at h1
    obtain ⟨v, r, e, rv, rr⟩ := h2
    rw [List.map_cons] at e
    obtain ⟨e1, e2⟩ := List.cons.inj e
    obtain ⟨e3, e4⟩ := List.cons.inj h1
    exact ⟨q, l', rfl, e3, by rw [e1]; exact rv, e4, by rw [e2]; exact rr⟩
theorem KRep.mk {F : Hp} {p : Key × D} {q : Key × V} {kvs : List (Key × D)} {l : List (Key × V)} (e : q.1 = p.1) (r : Rep K F p.2 q.2) (h : KRep K F kvs l) : KRep K F (p :: kvs) (q :: l) :=
  ⟨by rw [List.map_cons, List.map_cons, e, h.1], ⟨_, _, rfl, r, h.2⟩⟩
theorem KRep.nil {F : Hp} {l : List (Key × V)} (h : KRep K F [] l) : l = [] := by
  have := h.1; simpa using this
theorem KRep.get {F : Hp} {k : Key} : ∀ {kvs : List (Key × D)} {l : List (Key × V)}, KRep K F kvs l → (∃ d v, vget kvs k = some d ∧ valV l k = some v ∧ Rep K F d v) ∨ (vget kvs k = none ∧ valV l k = none)
  | [], l, h => by rw [h.nil]; exact .inr ⟨rfl, rfl⟩
  | p :: kvs, l, h => by
    obtain ⟨q, l', rfl, e, r, h'⟩ := h.cons
    by_cases hk : p.1 = k
    · exact .inl ⟨p.2, q.2, by simp [vget, hk], by simp [valV, e, hk], r⟩
    · rcases h'.get (k := k) with ⟨d, v, h1, h2, h3⟩ | ⟨h1, h2⟩
      · exact .inl ⟨d, v, by simpa [vget, List.find?_cons, hk] using h1, by simpa [valV, List.find?_cons, e, hk] using h2, h3⟩
      · exact .inr ⟨by simpa [vget, List.find?_cons, hk] using h1, by simpa [valV, List.find?_cons, e, hk] using h2⟩
theorem KRep.any {F : Hp} {k : Key} : ∀ {kvs : List (Key × D)} {l : List (Key × V)}, KRep K F kvs l → (l.any fun kv => decide (kv.1 = k)) = (kvs.any fun kv => decide (kv.1 = k))
  | [], l, h => by rw [h.nil]; rfl
  | p :: kvs, l, h => by
    obtain ⟨q, l', rfl, e, r, h'⟩ := h.cons
    rw [List.any_cons, List.any_cons, e, h'.any]
theorem KRep.app {F : Hp} {k : Key} {d : D} {v : V} (r : Rep K F d v) : ∀ {kvs : List (Key × D)} {l : List (Key × V)}, KRep K F kvs l → KRep K F (kvs ++ [(k, d)]) (l ++ [(k, v)])
  | [], l, h => by rw [h.nil]; exact KRep.mk rfl r ⟨rfl, rfl⟩
  | p :: kvs, l, h => by
    obtain ⟨q, l', rfl, e, r', h'⟩ := h.cons
    exact KRep.mk e r' (KRep.app r h')
theorem KRep.map {F : Hp} {k : Key} {d : D} {v : V} (r : Rep K F d v) : ∀ {kvs : List (Key × D)} {l : List (Key × V)}, KRep K F kvs l → KRep K F (kvs.map fun kv => if kv.1 = k then (kv.1, d) else kv) (l.map fun kv => if kv.1 = k then (kv.1, v) else kv)
  | [], l, h => by rw [h.nil]; exact ⟨rfl, rfl⟩
  | p :: kvs, l, h => by
    obtain ⟨q, l', rfl, e, r', h'⟩ := h.cons
    rw [List.map_cons, List.map_cons]
    by_cases hk : p.1 = k
    · rw [if_pos hk, if_pos (e.trans hk)]; exact KRep.mk e r (KRep.map r h')
    · rw [if_neg hk, if_neg (fun z => hk (e.symm.trans z))]; exact KRep.mk e r' (KRep.map r h')
theorem KRep.put {F : Hp} {k : Key} {d : D} {v : V} {kvs : List (Key × D)} {l : List (Key × V)} (r : Rep K F d v) (h : KRep K F kvs l) : KRep K F (vput kvs k d) (putK l k v) := by
  unfold vput putK
  rw [h.any (k := k)]
  split
  · exact KRep.map r h
  · exact KRep.app r h
theorem KRep.drop {F : Hp} {k : Key} : ∀ {kvs : List (Key × D)} {l : List (Key × V)}, KRep K F kvs l → KRep K F (vdrop kvs k) (dropK l k)
  | [], l, h => by rw [h.nil]; exact ⟨rfl, rfl⟩
  | p :: kvs, l, h => by
    obtain ⟨q, l', rfl, e, r', h'⟩ := h.cons
    unfold vdrop dropK
    by_cases hk : p.1 = k
    · rw [List.filter_cons_of_neg (by simp [hk]), List.filter_cons_of_neg (by simp [e, hk])]; exact KRep.drop h'
    · rw [List.filter_cons_of_pos (by simp [hk]), List.filter_cons_of_pos (by simp [e, hk])]; exact KRep.mk e r' (KRep.drop h')
theorem KRep.len {F : Hp} {kvs : List (Key × D)} {l : List (Key × V)} (h : KRep K F kvs l) : l.length = kvs.length := by
  have := congrArg List.length h.1; simpa using this
def wDict0 : W := fun ρ P => P (.od []) ρ
theorem de_dict0 : DE K X Z (.Dict [] [] pos) tDNewK wDict0 := ⟨pe_dnewK, fun {H0 F0 F H ρ σ Q P} zo rl h k d n => (rl.kont (Same.refl _) k).newD rl.fh h rfl rfl n⟩
def asDic (d : D) (P : List (Key × D) → Prop) : Prop := match d with
  | .dic ks xs => P (ks.zip xs)
  | _ => False
theorem asDic_of {F : Hp} {d : D} {v : V} {P : List (Key × D) → Prop} (h : asDic d P) (r : Rep K F d v) : ∃ a kvs l, v = .ref a ∧ Rd F a (.dK l) ∧ KRep K F kvs l ∧ P kvs := by
  cases d <;> first | exact h.elim | skip
  rename_i ks xs
  obtain ⟨a, vs, e, h1, hl, h2⟩ := r
  have hx : vs.length = xs.length := h2.len
  refine ⟨a, ks.zip xs, _, e, h1, ⟨?_, ?_⟩, h⟩
  · rw [List.map_fst_zip (by omega), List.map_fst_zip (by omega)]
  · rw [List.map_snd_zip (by omega), List.map_snd_zip (by omega)]; exact h2
def wDGet2 (wd wk wx : W) : W := fun ρ P => wd ρ fun s ρ1 => asDic s.fz fun kvs => wk ρ1 fun k ρ2 => wx ρ2 fun x ρ3 => asKey k.fz fun k => P (.d ((vget kvs k).getD x.fz)) ρ3
end
end DL
namespace DL
open PySem L2
section
variable {K : PySem.W.Frag} {X : Cx} {Z : Zx} {pos p p2 pos' apos cpos : Pos} {a b e o : Expr} {ta tb te to : TE} {wa wb we wo : W} {i : Nat}
def wJoin (wo we : W) : W := fun ρ P => wo ρ fun s ρ1 => asS s.fz fun a => we ρ1 fun x ρ2 => asSq x.fz fun xs => asA (txts xs) fun ss => (ss.map (·.length)).sum + ss.length * a.length ≤ 16777216 ∧ P (.d (.str (Txt.join a ss))) ρ2
abbrev qJoin (K : PySem.W.Frag) : V → List V → Hp → VK → Prop := fun x xs H Q => ∃ a p, ∃ ys : List Str, x = .str a ∧ xs = [.ref p] ∧ (SqL K H p (ys.map V.str) ∨ SqT K H p (ys.map V.str)) ∧
      (ys.map (·.length)).sum + ys.length * a.length ≤ 16777216 ∧ Q (.str (Txt.join a ys)) H
theorem run_join (ho : RunE K Z to wo) (he : RunE K Z te we) : RunE K Z (tM1 (qJoin K) to te) (wJoin wo we) := fun {H0 F0 F H ρ σ Q P} zo rl h k => ho zo rl h fun s1 ρ1 F1 H1 v1 h1 f1 r1 sr1 fr1 => by
  obtain ⟨F2, f2, r2, rp2⟩ := r1.freeze sr1 fr1
  obtain ⟨z, rfl, h1⟩ := asS_of h1 rp2
  refine ⟨⟨z, rfl⟩, he zo r2 h1 fun s3 ρ3 F3 H3 v3 h3 f3 r3 sr3 fr3 => ?_⟩
  obtain ⟨F4, f4, r4, rp4⟩ := r3.freeze sr3 fr3
  obtain ⟨a, vs, xs, rfl, hs, hr, h3⟩ := asSq_of h3 rp4
  obtain ⟨ss, es, hb, h3⟩ := asA_of h3
  have q := txts_of es hr
  subst q
  exact ⟨z, a, ss, rfl, rfl, sq_same r4.fh hs, hb, k (.d (.str _)) _ F4 _ _ h3 (f1.trans (f2.trans (f3.trans f4))) r4 rfl fun w => nomatch w⟩
theorem de_join (ho : DE K X Z o to wo) (he : DE K X Z e te we) (hs : starEach [e] X.env = [(false, eval e X.env)] := by rfl) (hbase : attributeBase o "join" X.env (eval o X.env) = eval o X.env := by rfl) (hline : (apos.endLine == pos.line) = true := by rfl) (hK : X.K = K := by rfl) :
    DE K X Z (.Call (.Attribute o "join" apos) [e] [] pos) (tM1 (qJoin K) to te) (wJoin wo we) := by
  subst hK
  exact ⟨pe_join ho.pe he.pe hs hbase hline, run_join ho.run he.run⟩
def asLT (d : D) (P : List D → Prop) : Prop := match d with
  | .lst xs => P xs
  | _ => False
theorem asLT_of {F : Hp} {d : D} {v : V} {P : List D → Prop} (h : asLT d P) (r : Rep K F d v) : ∃ a vs xs, v = .ref a ∧ F a = some (.lst vs) ∧ Reps K F xs vs ∧ P xs := by
  cases d <;> first | exact h.elim | (obtain ⟨a, vs, e, h1, h2⟩ := r; exact ⟨a, vs, _, e, h1, h2, h⟩)
def oCatL : O2 := fun x y P => asLT x fun xs => asLT y fun ys => xs.length + ys.length ≤ sizeLine ∧ P (.ol (xs ++ ys))
theorem snd_catL : Snd2 K rCat oCatL := ⟨fun {F H x y vx vy P Q} fh rx ry h k => by
  obtain ⟨a, vs, xs, rfl, h1, h2, h⟩ := asLT_of h rx
  obtain ⟨b, us, ys, rfl, h3, h4, h⟩ := asLT_of h ry
  exact ⟨a, b, vs, us, rfl, rfl, fh _ _ h1, fh _ _ h3, by rw [h2.len, h4.len]; exact h.1, fun l n => k.newL fh h.2 (h2.app h4) n⟩⟩
def oCatT : O2 := fun x y P => asT x fun xs => asT y fun ys => xs.length + ys.length ≤ sizeLine ∧ P (.d (.tup (xs ++ ys)))
mutual
def pyd : D → Option PyData
  | .non => some .none
  | .bl b => some (.bool b)
  | .int i => some (.int i)
  | .str x => some (.str x)
  | .cel ns => some (.list (ns.map .int))
  | .lst xs => (pyds xs).map .list
  | .tup xs => (pyds xs).map .tuple
  | _ => none
def pyds : List D → Option (List PyData)
  | [] => some []
  | x :: xs => (pyd x).bind fun a => (pyds xs).map (a :: ·)
end
theorem dps_ints {F : Hp} : ∀ ns : List Int, DpAll K F (ns.map V.int) (ns.map PyData.int)
  | [] => .nil
  | n :: ns => .cons (.int n) (dps_ints ns)
mutual
theorem pyd_ok {F : Hp} : ∀ (d : D) (v : V) (q : PyData), pyd d = some q → Rep K F d v → Dp K F v q
  | .non, _, _, h, r => by cases h; cases (show _ = V.non from r); exact .non
  | .bl b, _, _, h, r => by cases h; cases (show _ = V.bl b from r); exact .bl b
  | .int b, _, _, h, r => by cases h; cases (show _ = V.int b from r); exact .int b
  | .str b, _, _, h, r => by cases h; cases (show _ = V.str b from r); exact .str b
  | .cel ns, _, _, h, r => by
    cases h
    obtain ⟨a, rfl, s⟩ := r
    exact .lst s (dps_ints ns)
  | .lst xs, _, q, h, r => by
    obtain ⟨a, vs, rfl, s, rs⟩ := r
    rw [pyd] at h
    cases e : pyds xs with
    | none => rw [e] at h; cases h
    | some qs => rw [e] at h; cases h; exact .lst (SqL.of s) (pyds_ok xs vs qs e rs)
  | .tup xs, _, q, h, r => by
    obtain ⟨a, vs, rfl, s, rs⟩ := r
    rw [pyd] at h
    cases e : pyds xs with
    | none => rw [e] at h; cases h
    | some qs => rw [e] at h; cases h; exact .tup s (pyds_ok xs vs qs e rs)
  | .ref _, _, _, h, _ => by cases h
  | .ty _, _, _, h, _ => by cases h
  | .dic _ _, _, _, h, _ => by cases h
  | .ins _ _ _, _, _, h, _ => by cases h
theorem pyds_ok {F : Hp} : ∀ (ds : List D) (vs : List V) (qs : List PyData), pyds ds = some qs → Reps K F ds vs → DpAll K F vs qs
  | [], _, _, h, r => by cases h; cases (show _ = [] from r); exact .nil
  | x :: xs, _, qs, h, r => by
    obtain ⟨v, vs, rfl, rv, rs⟩ := r
    rw [pyds] at h
    cases e : pyd x with
    | none => rw [e] at h; cases h
    | some q =>
      rw [e] at h
      cases e2 : pyds xs with
      | none => rw [e2] at h; cases h
      | some qs' => rw [e2] at h; cases h; exact .cons (pyd_ok x v q e rv) (pyds_ok xs vs qs' e2 rs)
end
theorem Dp.same' {F H : Hp} (fh : Same F H) {d : D} {v : V} {q : PyData} (e : pyd d = some q) (r : Rep K F d v) : Dp K H v q := pyd_ok d v q e (Rep.mono fh _ _ r)
def oEqD (neg : Bool) : O2 := fun x y P => asA (pyd x) fun q => asA (pyd y) fun r => SeqAt.shaped q = true ∧ SeqAt.shaped r = true ∧ P (.d (.bl (if neg then !PyData.eqv q r else PyData.eqv q r)))
theorem snd_eqD : Snd2 K (rEqD K) (oEqD false) := ⟨fun {F H x y vx vy P Q} fh rx ry h k => by
  obtain ⟨q, e1, h⟩ := asA_of h
  obtain ⟨r, e2, h⟩ := asA_of h
  exact ⟨q, r, Dp.same' fh e1 rx, Dp.same' fh e2 ry, h.1, h.2.1, k.flat (d := .bl _) fh h.2.2 rfl⟩⟩
theorem snd_neD : Snd2 K (rNeD K) (oEqD true) := ⟨fun {F H x y vx vy P Q} fh rx ry h k => by
  obtain ⟨q, e1, h⟩ := asA_of h
  obtain ⟨r, e2, h⟩ := asA_of h
  exact ⟨q, r, Dp.same' fh e1 rx, Dp.same' fh e2 ry, h.1, h.2.1, k.flat (d := .bl _) fh h.2.2 rfl⟩⟩
def oPopAt : List D → List D → (S → List D → Prop) → Prop := fun xs ds P => match ds with
  | [.int i] => (-(2 ^ 63) ≤ i ∧ i < 2 ^ 63) ∧ asA (seqIndex? i xs.length) fun k => asA xs[k]? fun d => P (.d d) (xs.eraseIdx k)
  | _ => False
theorem Reps.eraseIdx {F : Hp} {xs : List D} {vs : List V} (k : Nat) (h : Reps K F xs vs) : Reps K F (xs.eraseIdx k) (vs.eraseIdx k) := by
  rw [List.eraseIdx_eq_take_drop_succ, List.eraseIdx_eq_take_drop_succ]
  exact (h.take k).app (h.drop (k + 1))
def wDPut (i : Nat) (wk wv : W) : WS := fun DD ρ => wv ρ fun v ρ1 => asOD (nth ρ1 i) fun _ => wk ρ1 fun k ρ2 => asOD (nth ρ2 i) fun kvs => asKey k.fz fun k => kvs.length < sizeLine ∧ DD.nx (put ρ2 i (some (.od (vput kvs k v.fz))))
theorem Rel.dict {H0 F0 F H : Hp} {ρ : R} {σ : St} {kvs : List (Key × D)} (r : Rel K H0 F0 F H ρ σ) (e : nth ρ i = some (.od kvs)) :
    ∃ a l, σ[i]? = some (some (.ref a)) ∧ H a = some (.dK l) ∧ KRep K F kvs l ∧ H0 a = none ∧ F a = none := by
  obtain ⟨v, ev, a, l, rfl, hl, hk, rr, n0, n1⟩ := r.at_ i _ (nth_some e)
  exact ⟨a, l, ev, hl, ⟨hk, rr⟩, n0, n1⟩
theorem Rel.dictPut {H0 F0 F H : Hp} {ρ : R} {σ : St} {kvs kvs' : List (Key × D)} {a : Addr} {l' : List (Key × V)} (r : Rel K H0 F0 F H ρ σ) (e : nth ρ i = some (.od kvs)) (ev : σ[i]? = some (some (.ref a))) (n0 : H0 a = none) (n1 : F a = none) (kr : KRep K F kvs' l') :
    Rel K H0 F0 F (upd H a (.dK l')) (put ρ i (some (.od kvs'))) σ := by
  rw [put_eq]
  exact r.write (nth_some e) rfl ev ⟨a, l', rfl, upd_same, kr.1, kr.2, n0, n1⟩ rfl
theorem run_dput {tk tv : TE} {wk wv : W} (hk : RunE K Z tk wk) (hv : RunE K Z tv wv) : RunS K Z (sDPut (tVar i) tk tv) (wDPut i wk wv) := fun {H0 F0 F H ρ σ DD Dh} zo rl ee h => hv zo rl h fun s1 ρ1 F1 H1 v1 h1 f1 r1 sr1 fr1 => by
  obtain ⟨F2, f2, r2, rp2⟩ := r1.freeze sr1 fr1
  obtain ⟨kvs0, e0, h1⟩ := asOD_of h1
  obtain ⟨a, l0, ev, _⟩ := r2.dict e0
  refine ⟨.ref a, ev, hk zo r2 h1 fun s3 ρ3 F3 H3 v3 h3 f3 r3 sr3 fr3 => ?_⟩
  obtain ⟨F4, f4, r4, rp4⟩ := r3.freeze sr3 fr3
  obtain ⟨kvs, e1, h3⟩ := asOD_of h3
  obtain ⟨key, rfl, hl, h3⟩ := asKey_of h3 rp4
  obtain ⟨a', l, ev', hd, kr, n0, n1⟩ := r4.dict e1
  rw [ev] at ev'; cases ev'
  exact ⟨a, _, rfl, DPut.k hd (by rw [kr.len]; exact hl), ee.nx _ _ _ _ h3 (f1.trans (f2.trans (f3.trans f4))) (r4.dictPut e1 ev n0 n1 (KRep.put (Rep.mono (f3.trans f4) _ _ rp2) kr))⟩
theorem ds_dput {tk tv : TE} {wk wv : W} {k value : Expr} {x : Str} (i : Nat) (hu : X.A.units + 1 < cLine) (hk : DE K X Z k tk wk) (hv : DE K X Z value tv wv) (hN : X.N[i]? = some x := by rfl) (hvi : Vis X.env.scope x := by first | exact Or.inl rfl | exact Or.inr (Or.inl rfl) | exact Or.inr (Or.inr rfl)) (hd : (x == ("__debug__" : Str)) = false := by decide)
    (hcd : (x == ("__classdict__" : Str)) = false := by decide) (hs : swapsWith value (some (.Subscript (.Name x p) k pos')) pos.line X.env = pure false := by rfl) :
    DS K X Z (.Assign [.Subscript (.Name x p) k pos'] value pos) (sDPut (tVar i) tk tv) (wDPut i wk wv) := ⟨ps_dput hu (pe_var hN hvi hd hcd) hk.pe hv.pe hs, run_dput hk.run hv.run⟩
def wDPop (i : Nat) (wk : W) : W := fun ρ P => asOD (nth ρ i) fun _ => wk ρ fun k ρ1 => asOD (nth ρ1 i) fun kvs => asKey k.fz fun k => asA (vget kvs k) fun d => P (.d d) (put ρ1 i (some (.od (vdrop kvs k))))
theorem run_dpop {tk : TE} {wk : W} (hk : RunE K Z tk wk) : RunE K Z (tDPop1 (tVar i) tk) (wDPop i wk) := fun {H0 F0 F H ρ σ Q P} zo rl h k => by
  obtain ⟨kvs0, e0, h⟩ := asOD_of h
  obtain ⟨a, l0, ev, hd0, _⟩ := rl.dict e0
  refine ⟨.ref a, ev, a, rfl, .inl ⟨l0, .inl hd0⟩, hk zo rl h fun s3 ρ3 F3 H3 v3 h3 f3 r3 sr3 fr3 => ?_⟩
  obtain ⟨F4, f4, r4, rp4⟩ := r3.freeze sr3 fr3
  obtain ⟨kvs, e1, h3⟩ := asOD_of h3
  obtain ⟨key, rfl, h3⟩ := asKey_of h3 rp4
  obtain ⟨d, e, h3⟩ := asA_of h3
  obtain ⟨a', l, ev', hd, kr, n0, n1⟩ := r4.dict e1
  rw [ev] at ev'; cases ev'
  rcases kr.get (k := key) with ⟨d', v, g1, g2, g3⟩ | ⟨g1, g2⟩
  · rw [e] at g1; cases g1
    exact ⟨l, key, v, hd, rfl, g2, k _ _ F4 _ _ h3 (f3.trans f4) (r4.dictPut e1 ev n0 n1 kr.drop) g3 fun w => nomatch w⟩
  · rw [e] at g1; cases g1
theorem de_dpop {tk : TE} {wk : W} {k : Expr} {x : Str} (i : Nat) (hk : DE K X Z k tk wk) (m : M1 X (.Name x p) "pop" apos k cpos) (hN : X.N[i]? = some x := by rfl) (hvi : Vis X.env.scope x := by first | exact Or.inl rfl | exact Or.inr (Or.inl rfl) | exact Or.inr (Or.inr rfl)) (hd : (x == ("__debug__" : Str)) = false := by decide)
    (hcd : (x == ("__classdict__" : Str)) = false := by decide) :
    DE K X Z (.Call (.Attribute (.Name x p) "pop" apos) [k] [] cpos) (tDPop1 (tVar i) tk) (wDPop i wk) := ⟨pe_dpop1 (pe_var hN hvi hd hcd) hk.pe m, run_dpop hk.run⟩
def txtKeys : List Key → Option (List Str)
  | [] => some []
  | .inr x :: r => (txtKeys r).map (x :: ·)
  | _ => none
theorem txtKeys_map : ∀ bs : List Str, txtKeys (bs.map Sum.inr) = some bs
  | [] => rfl
  | b :: bs => by rw [List.map_cons, txtKeys, txtKeys_map bs]; rfl
theorem txtKeys_of : ∀ {ks : List Key} {bs : List Str}, txtKeys ks = some bs → ks = bs.map Sum.inr
  | [], bs, e => by cases e; rfl
  | .inl _ :: _, bs, e => by cases e
  | .inr x :: r, bs, e => by
    rw [txtKeys] at e
    cases q : txtKeys r with
    | none => rw [q] at e; cases e
    | some cs => rw [q] at e; cases e; rw [txtKeys_of q]; rfl
def wSortK (we : W) : W := fun ρ P => we ρ fun s ρ1 => asDic s.fz fun kvs => asA (txtKeys (kvs.map (·.1))) fun ks => P (.ol ((srt ks).map .str)) ρ1
theorem run_sortK (he : RunE K Z te we) : RunE K Z (tCB rSortK (tCons (tKeys te) tNil)) (wSortK we) := fun {H0 F0 F H ρ σ Q P} zo rl h k => he zo rl h fun s1 ρ1 F1 H1 v1 h1 f1 r1 sr1 fr1 => by
  obtain ⟨F2, f2, r2, rp2⟩ := r1.freeze sr1 fr1
  obtain ⟨a, kvs, l, rfl, hl, kr, h1⟩ := asDic_of h1 rp2
  obtain ⟨ks, ek, h1⟩ := asA_of h1
  refine ⟨a, l, rfl, Same.rd r2.fh hl, fun p n => ?_⟩
  have hh : Same H1 (upd H1 p (KVo p a)) := Same.new n
  refine ⟨p, a, l, ks, rfl, upd_same, Same.rd hh (Same.rd r2.fh hl), by rw [kr.1]; exact txtKeys_of ek, fun ys q hp hs hq => ?_⟩
  have r3 : Rel K H0 F0 F2 (upd H1 p (KVo p a)) ρ1 σ := r2.grow hh
  have e : ys = srt ks := srt_eq hp hs
  subst e
  exact (Rel.kont r3 (f1.trans f2) k).newL r3.fh h1 (Reps.strs.mpr rfl) hq
theorem de_sortK (hc : X.calm = true) (m : X.mg "sorted" = none) (he : DE K X Z e te we) (hg : Gl X "sorted" := by rfl) (hbase : attributeBase e "keys" X.env (eval e X.env) = eval e X.env := by rfl) (hline : (apos.endLine == cpos.line) = true := by rfl)
    (hs : starEach [Expr.Call (.Attribute e "keys" apos) [] [] cpos] X.env = [(false, eval (Expr.Call (.Attribute e "keys" apos) [] [] cpos) X.env)] := by rfl) :
    DE K X Z (.Call (.Name "sorted" p) [.Call (.Attribute e "keys" apos) [] [] cpos] [] pos) (tCB rSortK (tCons (tKeys te) tNil)) (wSortK we) :=
  ⟨pe_callB (cr_sortK hc) hg m (by decide +kernel) (pa_cons (pe_keys he.pe hbase hline) pa_nil hs) (hn := by decide) (hdb := by decide) (he := hs) (hpl := rfl), run_sortK he.run⟩
def enumD (i : Nat) : List D → List D
  | [] => []
  | x :: xs => .tup [.int i, x] :: enumD (i + 1) xs
theorem enumD_len : ∀ (xs : List D) (i : Nat), (enumD i xs).length = xs.length
  | [], _ => rfl
  | _ :: xs, i => congrArg Nat.succ (enumD_len xs (i + 1))
theorem enumD_get : ∀ (xs : List D) (i j : Nat) (d : D), xs[j]? = some d → (enumD i xs)[j]? = some (.tup [.int ((i + j : Nat) : Int), d])
  | [], _, _, _, e => by simp at e
  | x :: xs, i, 0, d, e => by simp at e; subst e; rfl
  | x :: xs, i, j + 1, d, e => by
    have := enumD_get xs (i + 1) j d (by simpa using e)
    rw [show i + 1 + j = i + (j + 1) by omega] at this
    simpa [enumD] using this
end
end DL
namespace DL
open PySem L2
section
variable {K : PySem.W.Frag}
theorem Snd2.inl {r r' : R2} {o : O2} (h : Snd2 K r o) : Snd2 K (fun x y H Q => r x y H Q ∨ r' x y H Q) o := ⟨fun a b c d e => .inl (h.run a b c d e)⟩
theorem Snd2.inr {r r' : R2} {o : O2} (h : Snd2 K r' o) : Snd2 K (fun x y H Q => r x y H Q ∨ r' x y H Q) o := ⟨fun a b c d e => .inr (h.run a b c d e)⟩
theorem snd_catT : Snd2 K (rCatA K) oCatT := ⟨fun {F H x y vx vy P Q} fh rx ry h k => by
  obtain ⟨a, vs, xs, rfl, h1, h2, h⟩ := asT_of h rx
  obtain ⟨b, us, ys, rfl, h3, h4, h⟩ := asT_of h ry
  have e1 := h2.len
  have e2 := h4.len
  refine ⟨a, b, vs, us, rfl, rfl, Same.sqT fh h1, Same.sqT fh h3, by rw [e1, e2]; exact h.1, fun z => ?_, fun _ z => ?_, fun _ _ p n => k.newT fh h.2 (h2.app h4) n⟩
  · subst z
    obtain rfl : xs = [] := List.length_eq_zero_iff.mp e1.symm
    exact k.flat fh h.2 ⟨b, us, rfl, h3, h4⟩
  · subst z
    obtain rfl : ys = [] := List.length_eq_zero_iff.mp e2.symm
    have := h.2
    rw [List.append_nil] at this
    exact k.flat fh this ⟨a, vs, rfl, h1, h2⟩⟩
def oPlus : O2 := fun x y P => match x, y with
  | .int i, .int j => P (.d (.int (i + j)))
  | .str i, .str j => i.length + j.length ≤ sizeLine ∧ P (.d (.str (i ++ j)))
  | .lst xs, .lst ys => xs.length + ys.length ≤ sizeLine ∧ P (.ol (xs ++ ys))
  | .tup xs, .tup ys => xs.length + ys.length ≤ sizeLine ∧ P (.d (.tup (xs ++ ys)))
  | _, _ => False
abbrev rPlus (K : PySem.W.Frag) : R2 := fun x y H Q => qAdd x y H Q ∨ qAddS x y H Q ∨ rCat x y H Q ∨ rCatA K x y H Q
theorem op_plus {X : Cx} : OpR X (binaryOp .Add) (rPlus X.K) := op_add.or (op_add_str.or (op_cat.or op_catA))
theorem snd_plus : Snd2 K (rPlus K) oPlus := ⟨fun {F H x y vx vy P Q} fh rx ry h k => by
  unfold oPlus at h
  split at h
  · exact .inl (snd_add.run fh rx ry (by exact h) k)
  · exact .inr (.inl (snd_catS.run fh rx ry (by exact h) k))
  · exact .inr (.inr (.inl (snd_catL.run fh rx ry (by exact h) k)))
  · exact .inr (.inr (.inr (snd_catT.run fh rx ry (by exact h) k)))
  · exact h.elim⟩
def flatD : D → Bool
  | .non => true | .bl _ => true | .int _ => true | .str _ => true
  | _ => false
def SameV (K : PySem.W.Frag) (H : Hp) (v u : V) : Prop := (v = u ∧ flatB v = true) ∨ ∃ q r, Dp K H v q ∧ Dp K H u r ∧ (q.canLay0 = true ∧ r.canLay0 = true ∧ q.depth ≤ 60) ∧ PyData.eqv q r = true
def rEqDR (K : PySem.W.Frag) : R2 := fun x y H Q => ∃ a b ks ls, x = .ref a ∧ y = .ref b ∧ Rd H a (.dK ks) ∧ Rd H b (.dK ls) ∧ ks.length = ls.length ∧ (∀ p ∈ ks, ∃ u, valV ls p.1 = some u ∧ SameV K H p.2 u) ∧ Q (.bl true) H
def rNeDR (K : PySem.W.Frag) : R2 := fun x y H Q => ∃ a b ks ls, x = .ref a ∧ y = .ref b ∧ Rd H a (.dK ks) ∧ Rd H b (.dK ls) ∧ ks.length = ls.length ∧ (∀ p ∈ ks, ∃ u, valV ls p.1 = some u ∧ SameV K H p.2 u) ∧ Q (.bl false) H
theorem hits_same {X : Cx} {pins : List (Addr × Obj)} {σ : St} {H : Hp} {s : Shared} {A : Around} (I : Inv X pins σ H s) (hu : A.units + 60 < cLine) {kvs : List (Key × V)} {vb : List (Key × Value)} (rb : KV kvs vb) {ks : List (Key × V)} {va : List (Key × Value)} (ra : KV ks va) :
    (∀ p ∈ ks, ∃ u, valV kvs p.1 = some u ∧ SameV X.K H p.2 u) → PySem.W.KeqHits A s vb va true := by
  unfold KV at ra
  induction ra with
  | nil => intro _; exact .nil
  | @cons p q ps qs h t ih =>
    intro hp
    obtain ⟨h1, h2⟩ := h
    obtain ⟨w, e, f⟩ := hp p List.mem_cons_self
    have rr : RelO (some w) (valueAt vb p.1) := by rw [← e]; exact rb.val p.1
    obtain ⟨y, hy, ry⟩ := rr.some_of
    obtain ⟨k, v⟩ := q
    have h1' : p.1 = k := h1
    rw [h1'] at hy
    show PySem.W.KeqHits A s vb ((k, v) :: qs) (true && true)
    refine .hit hy ?_ (ih fun p' hm => hp p' (List.mem_cons_of_mem _ hm))
    rcases f with ⟨rfl, f⟩ | ⟨d1, d2, g1, g2, ⟨g3, g4, g5⟩, g6⟩
    · exact eqAt_same h2 ry f
    · obtain ⟨as, r1⟩ := Dp.reads I d1 _ _ g1 h2
      obtain ⟨bs, r2⟩ := Dp.reads I d2 _ _ g2 ry
      have := SeqAt.eqAt_reads d1 d2 A s _ _ as bs r1 r2 g3 g4 (by have := Nat.min_le_left d1.depth d2.depth; omega)
      rw [g6] at this
      exact this
theorem op_eqDR {X : Cx} (hu : X.A.units + 64 < cLine) : OpR X (compareOp .Eq) (rEqDR X.K) := by
  intro pins s σ H x y v u Q I rx ry h
  obtain ⟨a, b, ks, ls, rfl, rfl, ea, eb, hlen, hp, q⟩ := h
  obtain rfl : v = Value.ref a := rx
  obtain rfl : u = Value.ref b := ry
  obtain ⟨_, ya, va, ra, da⟩ := dk_rd I.hok ea
  obtain ⟨_, yb, vb, rb, db⟩ := dk_rd I.hok eb
  have hl : va.length = vb.length := by rw [← ra.length, ← rb.length]; exact hlen
  exact PySem.W.keq_eq (knd := mixKind X.prog X.w) (r := true) ya yb da db (by omega) (fun _ => hits_same I (by show X.A.units + 1 + 60 < cLine; omega) rb ra hp) (fin_bl I q (by simp [hl]))
theorem op_neDR {X : Cx} (hu : X.A.units + 64 < cLine) : OpR X (compareOp .NotEq) (rNeDR X.K) := by
  intro pins s σ H x y v u Q I rx ry h
  obtain ⟨a, b, ks, ls, rfl, rfl, ea, eb, hlen, hp, q⟩ := h
  obtain rfl : v = Value.ref a := rx
  obtain rfl : u = Value.ref b := ry
  obtain ⟨_, ya, va, ra, da⟩ := dk_rd I.hok ea
  obtain ⟨_, yb, vb, rb, db⟩ := dk_rd I.hok eb
  have hl : va.length = vb.length := by rw [← ra.length, ← rb.length]; exact hlen
  exact PySem.W.keq_ne (knd := mixKind X.prog X.w) (r := true) ya yb da db (by omega) (fun _ => hits_same I (by show X.A.units + 1 + 60 < cLine; omega) rb ra hp) (fin_bl I q (by simp [hl]))
def SameD (d e : D) : Prop := (d = e ∧ flatD d = true) ∨ ∃ q r, pyd d = some q ∧ pyd e = some r ∧ (q.canLay0 = true ∧ r.canLay0 = true ∧ q.depth ≤ 60) ∧ PyData.eqv q r = true
def dicEq (kvs ls : List (Key × D)) : Prop := kvs.length = ls.length ∧ ∀ p ∈ kvs, ∃ u, vget ls p.1 = some u ∧ SameD p.2 u
def eqX (x y : D) (P : Bool → Prop) : Prop := match eqS x y with
  | some b => P b
  | none => match x, y with
    | .dic ks xs, .dic ls ys => dicEq (ks.zip xs) (ls.zip ys) ∧ P true
    | _, _ => asA (pyd x) fun q => asA (pyd y) fun r => SeqAt.shaped q = true ∧ SeqAt.shaped r = true ∧ P (PyData.eqv q r)
def oEqX : O2 := fun x y P => eqX x y fun b => P (.d (.bl b))
def oNeX : O2 := fun x y P => eqX x y fun b => P (.d (.bl (!b)))
abbrev rEqX (K : PySem.W.Frag) : R2 := fun x y H Q => rEq x y H Q ∨ rEqD K x y H Q ∨ rEqDR K x y H Q
abbrev rNeX (K : PySem.W.Frag) : R2 := fun x y H Q => rNe x y H Q ∨ rNeD K x y H Q ∨ rNeDR K x y H Q
theorem op_eqX {X : Cx} (hu : X.A.units + 64 < cLine) : OpR X (compareOp .Eq) (rEqX X.K) := op_eq.or ((op_eqD hu).or (op_eqDR hu))
theorem op_neX {X : Cx} (hu : X.A.units + 64 < cLine) : OpR X (compareOp .NotEq) (rNeX X.K) := op_ne.or ((op_neD hu).or (op_neDR hu))
theorem KRep.mem {F : Hp} {p : Key × V} : ∀ {kvs : List (Key × D)} {l : List (Key × V)}, KRep K F kvs l → p ∈ l → ∃ d, (p.1, d) ∈ kvs ∧ Rep K F d p.2
  | [], l, h, hp => by rw [h.nil] at hp; simp at hp
  | q :: kvs, l, h, hp => by
    obtain ⟨r, l', rfl, e, rr, h'⟩ := h.cons
    rcases List.mem_cons.mp hp with z | z
    · subst z; exact ⟨q.2, by rw [e]; exact List.mem_cons_self, rr⟩
    · obtain ⟨d, hd, rd⟩ := KRep.mem h' z
      exact ⟨d, List.mem_cons_of_mem _ hd, rd⟩
theorem flat_same {F : Hp} {d : D} {v u : V} (f : flatD d = true) (r1 : Rep K F d v) (r2 : Rep K F d u) : v = u ∧ flatB v = true := by
  cases d <;> first | (cases (show false = true from f)) | (cases (show v = _ from r1); cases (show u = _ from r2); exact ⟨rfl, rfl⟩)
theorem dicEq_ok {F H : Hp} {kvs ls : List (Key × D)} {l m : List (Key × V)} {a b : Addr} (fh : Same F H) (ha : Rd F a (.dK l)) (hb : Rd F b (.dK m)) (k1 : KRep K F kvs l) (k2 : KRep K F ls m) (h : dicEq kvs ls) :
    Rd H a (.dK l) ∧ Rd H b (.dK m) ∧ l.length = m.length ∧ ∀ p ∈ l, ∃ u, valV m p.1 = some u ∧ SameV K H p.2 u := by
  refine ⟨Same.rd fh ha, Same.rd fh hb, by rw [k1.len, k2.len]; exact h.1, fun p hp => ?_⟩
  obtain ⟨d, hd, rd⟩ := k1.mem hp
  obtain ⟨d2, h1, h2⟩ := h.2 _ hd
  rcases k2.get (k := p.1) with ⟨d', v, g1, g2, g3⟩ | ⟨g1, g2⟩
  · have e : d' = d2 := Option.some.inj (g1.symm.trans h1)
    subst e
    refine ⟨v, g2, ?_⟩
    rcases h2 with ⟨e1, e2⟩ | ⟨q, r, e1, e2, e3, e4⟩
    · have e1' : d = d' := e1
      subst e1'
      obtain ⟨e1, e2⟩ := flat_same e2 rd g3
      exact .inl ⟨e1, e2⟩
    · exact .inr ⟨q, r, pyd_ok d _ q e1 (Rep.mono fh _ _ rd), pyd_ok d' _ r e2 (Rep.mono fh _ _ g3), e3, e4⟩
  · rw [h1] at g1; cases g1
theorem snd_eqX : Snd2 K (rEqX K) oEqX := ⟨fun {F H x y vx vy P Q} fh rx ry h k => by
  unfold oEqX eqX at h
  split at h
  · rename_i b e
    obtain ⟨h1, h2⟩ := eqS_ok rx ry e
    exact .inl ⟨h1, by rw [h2]; exact k.flat (d := .bl b) fh h rfl⟩
  · split at h
    · obtain ⟨h1, h2⟩ := h
      obtain ⟨a, kvs, l, rfl, hl, kr, q⟩ := asDic_of (d := .dic _ _) (P := fun kvs => kvs = _) rfl rx
      obtain ⟨b, kvs2, m, rfl, hm, kr2, q2⟩ := asDic_of (d := .dic _ _) (P := fun kvs => kvs = _) rfl ry
      subst q; subst q2
      obtain ⟨g1, g2, g3, g4⟩ := dicEq_ok fh hl hm kr kr2 h1
      exact .inr (.inr ⟨a, b, l, m, rfl, rfl, g1, g2, g3, g4, k.flat (d := .bl true) fh h2 rfl⟩)
    · exact .inr (.inl (snd_eqD.run fh rx ry h k))⟩
theorem snd_neX : Snd2 K (rNeX K) oNeX := ⟨fun {F H x y vx vy P Q} fh rx ry h k => by
  unfold oNeX eqX at h
  split at h
  · rename_i b e
    obtain ⟨h1, h2⟩ := eqS_ok rx ry e
    exact .inl ⟨h1, by rw [h2]; exact k.flat (d := .bl (!b)) fh h rfl⟩
  · split at h
    · obtain ⟨h1, h2⟩ := h
      obtain ⟨a, kvs, l, rfl, hl, kr, q⟩ := asDic_of (d := .dic _ _) (P := fun kvs => kvs = _) rfl rx
      obtain ⟨b, kvs2, m, rfl, hm, kr2, q2⟩ := asDic_of (d := .dic _ _) (P := fun kvs => kvs = _) rfl ry
      subst q; subst q2
      obtain ⟨g1, g2, g3, g4⟩ := dicEq_ok fh hl hm kr kr2 h1
      exact .inr (.inr ⟨a, b, l, m, rfl, rfl, g1, g2, g3, g4, k.flat (d := .bl false) fh h2 rfl⟩)
    · exact .inr (.inl (snd_neD.run fh rx ry h k))⟩
def oCmp (ri : Int → Int → Bool) (rs : List Nat → List Nat → Bool) : O2 := fun x y P => match x, y with
  | .int i, .int j => P (.d (.bl (ri i j)))
  | .str i, .str j => P (.d (.bl (rs i.cps.toList j.cps.toList)))
  | _, _ => False
abbrev rCmp (ri : Int → Int → Bool) (rs : List Nat → List Nat → Bool) : R2 := fun x y H Q => rI0 (fun i j => .bl (ri i j)) x y H Q ∨ ∃ i j, x = .str i ∧ y = .str j ∧ Q (.bl (rs i.cps.toList j.cps.toList)) H
theorem snd_cmp {ri : Int → Int → Bool} {rs : List Nat → List Nat → Bool} : Snd2 K (rCmp ri rs) (oCmp ri rs) := ⟨fun {F H x y vx vy P Q} fh rx ry h k => by
  unfold oCmp at h
  split at h
  · cases (show vx = _ from rx); cases (show vy = _ from ry)
    exact .inl ⟨_, _, rfl, rfl, k.flat (d := .bl _) fh h rfl⟩
  · cases (show vx = _ from rx); cases (show vy = _ from ry)
    exact .inr ⟨_, _, rfl, rfl, k.flat (d := .bl _) fh h rfl⟩
  · exact h.elim⟩
abbrev oLtX : O2 := oCmp (fun i j => decide (i < j)) fun i j => decide (i < j)
abbrev oLeX : O2 := oCmp (fun i j => decide (i ≤ j)) fun i j => !decide (j < i)
abbrev oGtX : O2 := oCmp (fun i j => decide (j < i)) fun i j => decide (j < i)
abbrev oGeX : O2 := oCmp (fun i j => decide (j ≤ i)) fun i j => !decide (i < j)
abbrev rLtX : R2 := rCmp (fun i j => decide (i < j)) fun i j => decide (i < j)
abbrev rGtX : R2 := rCmp (fun i j => decide (j < i)) fun i j => decide (j < i)
theorem op_ltX {X : Cx} : OpR X (compareOp .Lt) rLtX := op_lt.or op_lt_str
theorem op_gtX {X : Cx} : OpR X (compareOp .Gt) rGtX := op_gt.or op_gt_str
theorem ix_dict {X : Cx} (hu : X.A.units + 1 < cLine) : IxR X (fun x y H Q => ∃ a v, x = .ref a ∧ DGet H a y (some v) ∧ Q v H) := by
  intro value slice pins s σ H x y v u Q I rx ry h hs
  obtain ⟨a, z, rfl, g, q⟩ := h
  obtain rfl : v = Value.ref a := rx
  exact PyProof.Rows.tail_any (dict_typeIs I g) PySem.F.slot_dict_getitem.lookup (d_getItem hu I g ry fun w' s3 I3 rw' => ⟨z, H, I3, rw', q⟩) hs
def oIxX : O2 := fun x y P => match x, y with
  | .cel ns, .int i => asA (atI ns i) fun n => P (.d (.int n))
  | .lst xs, .int i => asA (atI xs i) fun d => P (.d d)
  | .tup xs, .int i => asA (atI xs i) fun d => P (.d d)
  | .str z, .int i => z.length ≤ sizeLine ∧ asA (atI z.cps.toList i) fun c => P (.d (.str ⟨#[c]⟩))
  | .dic ks xs, y => asKey y fun k => asA (vget (ks.zip xs) k) fun d => P (.d d)
  | _, _ => False
abbrev rIxX (K : PySem.W.Frag) : R2 := fun x y H Q => rIx K x y H Q ∨ ∃ a v, x = .ref a ∧ DGet H a y (some v) ∧ Q v H
theorem ix_X {X : Cx} (hu : X.A.units + 1 < cLine) : IxR X (rIxX X.K) := ix_seq.or (ix_dict hu)
theorem atI_map {α β : Type} (f : α → β) (xs : List α) (i : Int) : atI (xs.map f) i = (atI xs i).map f := by
  unfold atI
  rw [List.length_map]
  cases ixN xs.length i with
  | none => rfl
  | some j => simp [List.getElem?_map]
theorem snd_ixX : Snd2 K (rIxX K) oIxX := ⟨fun {F H x y vx vy P Q} fh rx ry h k => by
  unfold oIxX at h
  split at h
  · obtain ⟨n, e, h⟩ := asA_of h
    refine .inl (.inl (snd_ixL.run (P := P) fh rx ry ?_ k))
    show asA (atI _ _) _
    rw [atI_map, e]
    exact h
  · exact .inl (.inl (snd_ixL.run fh rx ry (by exact h) k))
  · exact .inl (.inr (.inl (snd_ixT.run fh rx ry (by exact h) k)))
  · exact .inl (.inr (.inr (snd_ixS.run fh rx ry (by exact h) k)))
  · obtain ⟨key, rfl, h⟩ := asKey_of h ry
    obtain ⟨d, e, h⟩ := asA_of h
    obtain ⟨a, kvs, l, rfl, hl, kr, h⟩ := asDic_of (d := .dic _ _) (P := fun kvs => kvs = _) rfl rx
    subst h
    rcases kr.get (k := key) with ⟨d', v, g1, g2, g3⟩ | ⟨g1, g2⟩
    · rw [e] at g1; cases g1
      exact .inr ⟨a, v, rfl, .inl ⟨l, key, (Same.rd fh hl), rfl, g2.symm⟩, k.flat fh (by assumption) g3⟩
    · rw [e] at g1; cases g1
  · exact h.elim⟩
def eqvD : D → D → Bool
  | .non, .non => true
  | .bl a, .bl b => a == b
  | .bl a, .int b => (if a then 1 else 0) == b
  | .int a, .bl b => a == (if b then 1 else 0)
  | .int a, .int b => a == b
  | .str a, .str b => a == b
  | _, _ => false
theorem flat_rep {F : Hp} {x : D} {v : V} (r : Rep K F x v) (f : flatD x = true) : flatV v = true := by
  cases x <;> first | (cases (show false = true from f)) | (cases (show v = _ from r); rfl)
theorem eqv_rep {F : Hp} {x y : D} {vx vy : V} (rx : Rep K F x vx) (ry : Rep K F y vy) (fx : flatD x = true) (fy : flatD y = true) : eqV vx vy = eqvD x y := by
  cases x <;> first | (cases (show false = true from fx)) | (cases (show vx = _ from rx); cases y <;> first | (cases (show false = true from fy)) | (cases (show vy = _ from ry); rfl))
def inD (x : D) (xs : List D) : Bool := xs.any fun y => eqvD y x
theorem in_rep {F : Hp} {x : D} {vx : V} (rx : Rep K F x vx) (fx : flatD x = true) : ∀ {xs : List D} {vs : List V}, Reps K F xs vs → xs.all flatD = true → vs.all flatV = true ∧ inV vx vs = inD x xs
  | [], _, r, _ => by cases (show _ = [] from r); exact ⟨rfl, rfl⟩
  | d :: ds, _, r, f => by
    obtain ⟨v, vs, rfl, r1, r2⟩ := r
    rw [List.all_cons, Bool.and_eq_true] at f
    obtain ⟨h1, h2⟩ := in_rep rx fx r2 f.2
    refine ⟨by rw [List.all_cons, flat_rep r1 f.1, h1]; rfl, ?_⟩
    unfold inV inD at h2 ⊢
    rw [List.any_cons, List.any_cons, h2, eqv_rep r1 rx f.1 fx]
def inS (i j : Str) : Bool := match i.cps.toList with
  | [c] => decide (c ∈ j.cps.toList)
  | _ => !(Builtin.Str.occurrences j i 0 j.length 1).isEmpty
def oInX (neg : Bool) : O2 := fun x y P => match y with
  | .str j => asS x fun i => P (.d (.bl (xor neg (inS i j))))
  | .cel ns => flatD x = true ∧ P (.d (.bl (xor neg (inD x (ns.map .int)))))
  | .lst xs => flatD x = true ∧ xs.all flatD = true ∧ P (.d (.bl (xor neg (inD x xs))))
  | .tup xs => flatD x = true ∧ xs.all flatD = true ∧ P (.d (.bl (xor neg (inD x xs))))
  | .dic ks xs => asKey x fun k => P (.d (.bl (xor neg (vget (ks.zip xs) k).isSome)))
  | _ => False
abbrev rInX (K : PySem.W.Frag) (neg : Bool) : R2 := fun x y H Q => (∃ i j, x = .str i ∧ y = .str j ∧ Q (.bl (xor neg (inS i j))) H) ∨ rIn K neg x y H Q ∨ ∃ a o, y = .ref a ∧ DGet H a x o ∧ Q (.bl (xor neg o.isSome)) H
theorem xor_t (b : Bool) : xor true b = !b := by cases b <;> rfl
theorem xor_f (b : Bool) : xor false b = b := by cases b <;> rfl
theorem inS_one (i j : Str) : (∃ c, i = ⟨#[c]⟩ ∧ inS i j = decide (c ∈ j.cps.toList)) ∨ inS i j = !(Builtin.Str.occurrences j i 0 j.length 1).isEmpty := by
  unfold inS
  split
  · rename_i c e
    exact .inl ⟨c, one_sign e, rfl⟩
  · exact .inr rfl
theorem op_inStr {X : Cx} : OpR X (compareOp .In) (fun x y H Q => ∃ i j, x = .str i ∧ y = .str j ∧ Q (.bl (inS i j)) H) := by
  intro pins s σ H x y v u Q I rx ry h
  obtain ⟨i, j, rfl, rfl, q⟩ := h
  rcases inS_one i j with ⟨c, rfl, e⟩ | e
  · exact op_in_sign pins s σ H _ _ v u Q I rx ry ⟨c, j, rfl, rfl, by rw [← e]; exact q⟩
  · exact op_in_str pins s σ H _ _ v u Q I rx ry ⟨i, j, rfl, rfl, by rw [← e]; exact q⟩
theorem op_notInStr {X : Cx} : OpR X (compareOp .NotIn) (fun x y H Q => ∃ i j, x = .str i ∧ y = .str j ∧ Q (.bl (!inS i j)) H) := by
  intro pins s σ H x y v u Q I rx ry h
  obtain ⟨i, j, rfl, rfl, q⟩ := h
  rcases inS_one i j with ⟨c, rfl, e⟩ | e
  · exact op_notIn_sign pins s σ H _ _ v u Q I rx ry ⟨c, j, rfl, rfl, by rw [← e]; exact q⟩
  · exact op_notIn_str pins s σ H _ _ v u Q I rx ry ⟨i, j, rfl, rfl, by rw [← e]; exact q⟩
theorem op_inX {X : Cx} (hu : X.A.units + 1 < cLine) : OpR X (compareOp .In) (rInX X.K false) := by
  refine OpR.or (fun pins s σ H x y v u Q I rx ry h => ?_) (OpR.or op_in_seq fun pins s σ H x y v u Q I rx ry h => ?_)
  · obtain ⟨i, j, e1, e2, q⟩ := h
    exact op_inStr pins s σ H x y v u Q I rx ry ⟨i, j, e1, e2, by rw [xor_f] at q; exact q⟩
  · obtain ⟨a, o, rfl, g, q⟩ := h
    obtain rfl : u = Value.ref a := ry
    rw [xor_f] at q
    exact d_in hu I g rx fun s3 I3 => ⟨.bl o.isSome, H, I3, rfl, q⟩
theorem op_notInX {X : Cx} (hu : X.A.units + 1 < cLine) : OpR X (compareOp .NotIn) (rInX X.K true) := by
  refine OpR.or (fun pins s σ H x y v u Q I rx ry h => ?_) (OpR.or op_notIn_seq fun pins s σ H x y v u Q I rx ry h => ?_)
  · obtain ⟨i, j, e1, e2, q⟩ := h
    exact op_notInStr pins s σ H x y v u Q I rx ry ⟨i, j, e1, e2, by rw [xor_t] at q; exact q⟩
  · obtain ⟨a, o, rfl, g, q⟩ := h
    obtain rfl : u = Value.ref a := ry
    rw [xor_t] at q
    exact d_notIn hu I g rx fun s3 I3 => ⟨.bl (!o.isSome), H, I3, rfl, q⟩
theorem snd_inX {neg : Bool} : Snd2 K (rInX K neg) (oInX neg) := ⟨fun {F H x y vx vy P Q} fh rx ry h k => by
  have seq : ∀ {xs : List D} {a : Addr} {vs : List V}, (SqL K F a vs ∨ SqT K F a vs) → Reps K F xs vs → vy = .ref a → flatD x = true → xs.all flatD = true → P (.d (.bl (xor neg (inD x xs)))) → rInX K neg vx vy H Q := fun {xs a vs} hq r e f1 f2 h => by
    obtain ⟨h1, h2⟩ := in_rep rx f1 r f2
    refine .inr (.inl ⟨a, vs, e, sq_same fh hq, flat_rep rx f1, h1, ?_⟩)
    rw [h2]
    have e2 : (if neg then !inD x xs else inD x xs) = xor neg (inD x xs) := by cases neg <;> simp
    rw [e2]
    exact k.flat (d := .bl _) fh h rfl
  unfold oInX at h
  split at h
  · obtain ⟨i, rfl, h⟩ := asS_of h rx
    cases (show vy = _ from ry)
    exact .inl ⟨i, _, rfl, rfl, k.flat (d := .bl _) fh h rfl⟩
  · obtain ⟨a, rfl, h1⟩ := ry
    refine seq (.inl h1) (Reps.ints.mpr rfl) rfl h.1 (List.all_eq_true.mpr fun d hd => ?_) h.2
    obtain ⟨n, _, rfl⟩ := List.mem_map.mp hd
    rfl
  · obtain ⟨a, vs, rfl, h1, h2⟩ := ry
    exact seq (.inl (SqL.of h1)) h2 rfl h.1 h.2.1 h.2.2
  · obtain ⟨a, vs, rfl, h1, h2⟩ := ry
    exact seq (.inr h1) h2 rfl h.1 h.2.1 h.2.2
  · obtain ⟨key, rfl, h⟩ := asKey_of h rx
    obtain ⟨a, kvs, l, rfl, hl, kr, q⟩ := asDic_of (d := .dic _ _) (P := fun kvs => kvs = _) rfl ry
    subst q
    refine .inr (.inr ⟨a, valV l key, rfl, .inl ⟨l, key, (Same.rd fh hl), rfl, rfl⟩, ?_⟩)
    have e : ∀ kvs : List (Key × D), KRep K F kvs l → (valV l key).isSome = (vget kvs key).isSome := fun kvs kr => by
      rcases kr.get (k := key) with ⟨d', v, g1, g2, g3⟩ | ⟨g1, g2⟩ <;> rw [g1, g2] <;> rfl
    rw [e _ kr]
    exact k.flat (d := .bl _) fh h rfl
  · exact h.elim⟩
def iX (K : PySem.W.Frag) (te : TE) : TI := fun σ H R => te σ H fun v H1 => (∃ a, v = .ref a ∧ (∃ xs, SqL K H1 a xs) ∧ R (Itl K a) H1) ∨ (∃ a, v = .ref a ∧ (∃ xs, SqT K H1 a xs) ∧ R (Itt K a) H1) ∨ ∃ x, v = .str x ∧ R (Its x) H1
theorem pi_X {X : Cx} {tg e : Expr} {te : TE} (he : PE X e te) : PI X tg e (iX X.K te) := by
  refine ⟨fun pins s σ H R I h => ?_⟩
  refine L2.thn (he.run pins s σ H _ I h) fun v s1 ⟨y, H1, I1, r1, q⟩ => ?_
  rcases q with ⟨a, rfl, ⟨xs, hq⟩, q⟩ | ⟨a, rfl, ⟨xs, hq⟩, q⟩ | ⟨x, rfl, q⟩
  · cases r1
    obtain ⟨its, rv, p, hz⟩ := I1.list hq
    refine wpAny_pyIter_list p.isList ?_
    refine ⟨s1.heap.objs.size, [s1.heap.objs.size], _, _, H1, rfl, I1.kept (t' := s1.toks) fun b o e => Heap.get?_push_of_some _ e, turn_list a _, ⟨_, Heap.get?_push_size _ rfl, rfl, rfl⟩, fun b hb => ?_, q⟩
    have e : b = s1.heap.objs.size := by simpa using hb
    subst e
    exact I1.fpOk (Nat.le_refl _) (I1.hok.fresh (Nat.le_refl _))
  · cases r1
    obtain ⟨its, rv, p, hz⟩ := I1.tuple hq
    refine wpAny_pyIter_tuple (show s1.heap.IsTuple a its.toArray from p) ?_
    refine ⟨s1.heap.objs.size, [s1.heap.objs.size], _, _, H1, rfl, I1.kept (t' := s1.toks) fun b o e => Heap.get?_push_of_some _ e, turn_tuple a _, ⟨_, Heap.get?_push_size _ rfl, rfl, rfl⟩, fun b hb => ?_, q⟩
    have e : b = s1.heap.objs.size := by simpa using hb
    subst e
    exact I1.fpOk (Nat.le_refl _) (I1.hok.fresh (Nat.le_refl _))
  · obtain ⟨t, rfl⟩ := r1
    cases ha : x.cps.all (· < 128)
    · exact wpAny_pyIter_wide ha (pi_one (tk := s1.toks) I1 _ (turn_str _ x t "str_iterator" (.inr rfl)) ⟨_, Heap.get?_push_size _ rfl, rfl, rfl⟩ q)
    · exact wpAny_pyIter_ascii ha (pi_one (tk := s1.toks) I1 _ (turn_str _ x t "str_ascii_iterator" (.inl rfl)) ⟨_, Heap.get?_push_size _ rfl, rfl, rfl⟩ q)
def itemsOf (d : D) (P : List D → Prop) : Prop := match d with
  | .cel ns => P (ns.map .int)
  | .lst xs => P xs
  | .tup xs => P xs
  | .str z => P ((signs z).map .str)
  | _ => False
def wiX (we : W) : WA := fun ρ P => we ρ fun s ρ1 => itemsOf s.fz fun xs => P xs ρ1
theorem di_X {X : Cx} {Z : Zx} {tg e : Expr} {te : TE} {we : W} (he : DE K X Z e te we) (hK : X.K = K := by rfl) : DI K X Z tg e (iX K te) (wiX we) := by
  refine ⟨by subst hK; exact pi_X he.pe, fun {H0 F0 F H ρ σ Q P} zo rl h k => he.run zo rl h fun s1 ρ1 F1 H1 v1 h1 f1 r1 sr1 fr1 => ?_⟩
  obtain ⟨F2, f2, r2, rp2⟩ := r1.freeze sr1 fr1
  generalize s1.fz = d at h1 rp2
  have lst : ∀ {a : Addr} {vs : List V} {xs : List D}, v1 = .ref a → SqL K F2 a vs → Reps K F2 xs vs → P xs ρ1 → iX K (fun σ H Q => Q v1 H1) σ H1 Q := fun {a vs xs} e s1 s2 h1 => by
    refine .inl ⟨a, e, ⟨vs, r2.fh.seq s1⟩, k xs ρ1 F2 H1 _ h1 (f1.trans f2) r2 (ItOk.pure (fun {i F H} f g l => ?_) (fun {i F H} f g l => ?_) fun {i F H H2 x} f g y l => ?_)⟩
    · have hl : i < vs.length := by rw [s2.len]; exact l
      exact ⟨vs, vs[i], g.seq (f.seq s1), List.getElem?_eq_getElem hl⟩
    · exact ⟨vs, g.seq (f.seq s1), by rw [s2.len]; exact l⟩
    · obtain ⟨rfl, y⟩ := y
      obtain ⟨d, e, r⟩ := s2.get' (y vs (g.seq (f.seq s1)))
      exact ⟨d, e, rfl, Rep.mono f _ _ r⟩
  unfold itemsOf at h1
  split at h1
  · obtain ⟨a, e, s1⟩ := rp2
    exact lst e s1 (Reps.ints.mpr rfl) h1
  · obtain ⟨a, vs, e, s1, s2⟩ := rp2
    exact lst e (SqL.of s1) s2 h1
  · obtain ⟨a, vs, e, s1, s2⟩ := rp2
    refine .inr (.inl ⟨a, e, ⟨vs, Same.sqT r2.fh s1⟩, k _ ρ1 F2 H1 _ h1 (f1.trans f2) r2 (ItOk.pure (fun {i F H} f g l => ?_) (fun {i F H} f g l => ?_) fun {i F H H2 x} f g y l => ?_)⟩)
    · have hl : i < vs.length := by rw [s2.len]; exact l
      exact ⟨vs, vs[i], Same.sqT g (Same.sqT f s1), List.getElem?_eq_getElem hl⟩
    · exact ⟨vs, Same.sqT g (Same.sqT f s1), by rw [s2.len]; exact l⟩
    · obtain ⟨rfl, y⟩ := y
      obtain ⟨d, e, r⟩ := s2.get' (y vs (Same.sqT g (Same.sqT f s1)))
      exact ⟨d, e, rfl, Rep.mono f _ _ r⟩
  · rename_i z
    have hlen : ((signs z).map D.str).length = z.cps.size := by simp [signs]
    refine .inr (.inr ⟨z, rp2, k _ ρ1 F2 H1 _ h1 (f1.trans f2) r2 (ItOk.pure (fun {i F H} f g l => ?_) (fun {i F H} f g l => ?_) fun {i F H H2 x} f g y l => ?_)⟩)
    · show i < z.cps.size
      omega
    · show z.cps.size ≤ i
      omega
    · obtain ⟨rfl, c, hc, rfl⟩ := y
      refine ⟨.str ⟨#[c]⟩, ?_, rfl, rfl⟩
      have hc' : z.cps.toList[i]? = some c := by rw [Array.getElem?_toList]; exact hc
      simp [signs, hc']
  · exact h1.elim
theorem vals_at : ∀ {us : List Value} {vs : List V}, us.length = vs.length → (∀ (j : Nat) (v : Value), us[j]? = some v → ∃ x, vs[j]? = some x ∧ RelV x v) → Vals vs us
  | [], [], _, _ => .nil
  | u :: us, q :: vs, hl, h => by
    obtain ⟨x, e1, e2⟩ := h 0 u rfl
    have e1' : q = x := Option.some.inj e1
    subst e1'
    exact .cons e2 (vals_at (Nat.succ.inj hl) fun j v e => h (j + 1) v e)
  | [], _ :: _, hl, _ => nomatch hl
  | _ :: _, [], hl, _ => nomatch hl
theorem call_listS {X : Cx} (hc : X.calm = true) : CallR X (.type "list") (fun xs H Q => ∃ z, xs = [.str z] ∧ z.length ≤ sizeLine ∧ ∀ p, H p = none → Q (.ref p) (upd H p (.lst ((signs z).map V.str)))) := by
  intro pins s σ H xs us Q I r h
  obtain ⟨z, rfl, hz, q⟩ := h
  obtain ⟨u, rfl, t, rfl⟩ := vals1 r
  refine call_list_str (I.ok.hd hc) z t (hn := hz) fun h' tk acc c' hk hD hacc => ?_
  have hv : Vals ((signs z).map V.str) acc.toList := by
    refine vals_at (by rw [Array.length_toList, hacc.1]; simp [signs]) fun j v e => ?_
    obtain ⟨c, u, e1, rfl⟩ := hacc.2 j v (by rw [← Array.getElem?_toList]; exact e)
    have hc' : z.cps.toList[j]? = some c := by rw [Array.getElem?_toList]; exact e1
    exact ⟨.str ⟨#[c]⟩, by simp [signs, hc'], u, rfl⟩
  exact ⟨.ref s.heap.objs.size, upd H s.heap.objs.size (.lst ((signs z).map V.str)), I.laid (t' := tk) hk (Nat.le_refl _)
    (show ObjOk X.prog X.w _ _ _ (.lst ((signs z).map V.str)) from ⟨by simp [signs]; exact hz, acc.toList, c', hv, by rw [Array.toArray_toList]; exact hD⟩), rfl, q _ (I.hok.fresh (Nat.le_refl _))⟩
end
end DL
namespace DL
open PySem L2
theorem units1 {n : Nat} (h : n + 64 < cLine) : n + 1 < cLine := by omega
section
variable {K : PySem.W.Frag} {X : Cx} {Z : Zx} {pos p p2 : Pos} {a b e : Expr} {ta tb te : TE} {wa wb we : W}
theorem de_plus (ha : DE K X Z a ta wa) (hb : DE K X Z b tb wb) (hK : X.K = K := by rfl) : DE K X Z (.BinOp a .Add b pos) (tOp (rPlus K) ta tb) (wOp oPlus wa wb) := by subst hK; exact de_op op_plus snd_plus ha hb
theorem de_eqX (hu : X.A.units + 64 < cLine) (ha : DE K X Z a ta wa) (hb : DE K X Z b tb wb) (hm : behindInMarks .Eq b = false := by rfl) (hK : X.K = K := by rfl) : DE K X Z (.Compare a [.Eq] [b] pos) (tOp (rEqX K) ta tb) (wOp oEqX wa wb) := by subst hK; exact de_cmp (op_eqX hu) snd_eqX hm ha hb
theorem de_neX (hu : X.A.units + 64 < cLine) (ha : DE K X Z a ta wa) (hb : DE K X Z b tb wb) (hm : behindInMarks .NotEq b = false := by rfl) (hK : X.K = K := by rfl) : DE K X Z (.Compare a [.NotEq] [b] pos) (tOp (rNeX K) ta tb) (wOp oNeX wa wb) := by subst hK; exact de_cmp (op_neX hu) snd_neX hm ha hb
theorem de_gtX (hu : X.A.units + 64 < cLine) (ha : DE K X Z a ta wa) (hb : DE K X Z b tb wb) (hm : behindInMarks .Gt b = false := by rfl) : DE K X Z (.Compare a [.Gt] [b] pos) (tOp rGtX ta tb) (wOp oGtX wa wb) := de_cmp op_gtX snd_cmp hm ha hb
theorem dt_eqX (hu : X.A.units + 64 < cLine) (ha : DE K X Z a ta wa) (hb : DE K X Z b tb wb) (hm : behindInMarks .Eq b = false := by rfl) (hK : X.K = K := by rfl) : DT K X Z (.Compare a [.Eq] [b] pos) (tTest (tOp (rEqX K) ta tb)) (wB (wOp oEqX wa wb)) := by subst hK; exact dt_cmp (op_eqX hu) snd_eqX hm ha hb
theorem dt_neX (hu : X.A.units + 64 < cLine) (ha : DE K X Z a ta wa) (hb : DE K X Z b tb wb) (hm : behindInMarks .NotEq b = false := by rfl) (hK : X.K = K := by rfl) : DT K X Z (.Compare a [.NotEq] [b] pos) (tTest (tOp (rNeX K) ta tb)) (wB (wOp oNeX wa wb)) := by subst hK; exact dt_cmp (op_neX hu) snd_neX hm ha hb
theorem dt_ltX (hu : X.A.units + 64 < cLine) (ha : DE K X Z a ta wa) (hb : DE K X Z b tb wb) (hm : behindInMarks .Lt b = false := by rfl) : DT K X Z (.Compare a [.Lt] [b] pos) (tTest (tOp rLtX ta tb)) (wB (wOp oLtX wa wb)) := dt_cmp op_ltX snd_cmp hm ha hb
theorem dt_gtX (hu : X.A.units + 64 < cLine) (ha : DE K X Z a ta wa) (hb : DE K X Z b tb wb) (hm : behindInMarks .Gt b = false := by rfl) : DT K X Z (.Compare a [.Gt] [b] pos) (tTest (tOp rGtX ta tb)) (wB (wOp oGtX wa wb)) := dt_cmp op_gtX snd_cmp hm ha hb
theorem dt_inX (hu : X.A.units + 64 < cLine) (ha : DE K X Z a ta wa) (hb : DE K X Z b tb wb) (hm : behindInMarks .In b = false := by rfl) (hK : X.K = K := by rfl) : DT K X Z (.Compare a [.In] [b] pos) (tTest (tOp (rInX K false) ta tb)) (wB (wOp (oInX false) wa wb)) := by subst hK; exact dt_cmp (op_inX (units1 hu)) snd_inX hm ha hb
theorem dt_notInX (hu : X.A.units + 64 < cLine) (ha : DE K X Z a ta wa) (hb : DE K X Z b tb wb) (hm : behindInMarks .NotIn b = false := by rfl) (hK : X.K = K := by rfl) : DT K X Z (.Compare a [.NotIn] [b] pos) (tTest (tOp (rInX K true) ta tb)) (wB (wOp (oInX true) wa wb)) := by subst hK; exact dt_cmp (op_notInX (units1 hu)) snd_inX hm ha hb
theorem de_ixX (hu : X.A.units + 64 < cLine) (ha : DE K X Z a ta wa) (hb : DE K X Z b tb wb) (hs : PlainIx b := by exact fun _ _ => rfl) (hK : X.K = K := by rfl) : DE K X Z (.Subscript a b pos) (tOp (rIxX K) ta tb) (wOp oIxX wa wb) := by subst hK; exact de_ix (ix_X (units1 hu)) snd_ixX hs ha hb
def oListX : OL := fun ds P => match ds with
  | [.lst xs] => P (.ol xs)
  | [.tup xs] => P (.ol xs)
  | [.str z] => z.length ≤ sizeLine ∧ P (.ol ((signs z).map .str))
  | _ => False
abbrev qListX (K : PySem.W.Frag) : List V → Hp → VK → Prop := fun xs H Q => qList K xs H Q ∨ ∃ z, xs = [.str z] ∧ z.length ≤ sizeLine ∧ ∀ p, H p = none → Q (.ref p) (upd H p (.lst ((signs z).map V.str)))
theorem snd_listX : SndL K (qListX K) oListX := ⟨fun {F H ds vs P Q} fh r h k => by
  unfold oListX at h
  split at h
  · exact .inl (snd_list.run fh r h k)
  · exact .inl (snd_list.run fh r h k)
  · obtain ⟨v, _, rfl, rfl, rfl⟩ := r
    exact .inr ⟨_, rfl, h.1, fun p n => k.newL fh h.2 (Reps.strs.mpr rfl) n⟩
  · exact h.elim⟩
theorem de_listX (hc : X.calm = true) (m : X.mg "list" = none) (ha : DE K X Z a ta wa) (hg : Gl X "list" := by rfl) (hs : starEach [a] X.env = [(false, eval a X.env)] := by rfl) (hK : X.K = K := by rfl) : DE K X Z (.Call (.Name "list" p) [a] [] pos) (tCB (qListX K) (tCons ta tNil)) (wCB oListX (wCons wa wNil)) := by
  subst hK
  exact de_callTy (call_list_of.or (call_listS hc)) snd_listX hg m (by decide +kernel) (da_cons ha da_nil hs) (hn := by decide) (hdb := by decide) (he := hs) (hpl := rfl)
theorem de_all (m : X.mg "all" = none) (hc : CallR X (.builtin "all") (rAll X.K)) (ha : DE K X Z a ta wa) (hg : Gl X "all" := by rfl) (hs : starEach [a] X.env = [(false, eval a X.env)] := by rfl) (hK : X.K = K := by rfl) : DE K X Z (.Call (.Name "all" p) [a] [] pos) (tCB (rAll K) (tCons ta tNil)) (wCB oAll (wCons wa wNil)) := by
  subst hK
  exact de_callB hc snd_all hg m (by decide +kernel) (da_cons ha da_nil hs) (hn := by decide) (hdb := by decide) (he := hs) (hpl := rfl)
abbrev qMin : List V → Hp → VK → Prop := fun xs H Q => ∃ i j, xs = [.int i, .int j] ∧ Q (.int (if j < i then j else i)) H
theorem de_min (hc : X.calm = true) (m : X.mg "min" = none) (ha : DE K X Z a ta wa) (hb : DE K X Z b tb wb) (hg : Gl X "min" := by rfl) (hs : starEach [a, b] X.env = (false, eval a X.env) :: starEach [b] X.env := by rfl) (hs2 : starEach [b] X.env = [(false, eval b X.env)] := by rfl) (hpl : (backTo pos (starEach [b] X.env)).any (·.1) = false := by rfl) :
    DE K X Z (.Call (.Name "min" p) [a, b] [] pos) (tCB qMin (tCons ta (tCons tb tNil))) (wCB oMin (wCons wa (wCons wb wNil))) := de_callB (call_min2 hc) snd_min hg m (by decide +kernel) (da_cons ha (da_cons hb da_nil hs2) hs) (hn := by decide) (hdb := by decide) (he := hs) (hpl := hpl)
end
section
variable {K : PySem.W.Frag} {X : Cx} {Z : Zx} {pos spos py : Pos} {te : TE} {we : W}
variable {elt tg iter : Expr} {ifs : List Expr} {scope : Scope} {own : List (Str × Nat)} {wi : TI} {wa : WA} {g : TG} {wg : WG} {tt : TT} {wt : WT}
theorem ds_asgLc (i : Nat) {y : Str} (hc : X.calm = true) (hN : X.N.Nodup) (hi : DI K X Z tg iter wi wa) (ok : BlkOk X.N X.env.scope scope own)
    (hg : ∀ (s : Shared) (H : Hp) (C : Addr) (cl : List (Str × Addr)) (fp : List Addr), DGb K (X.blk s H scope (compEnvC scope cl C X.env) fp) Z tg (own.map (·.2)) g wg) (ht : ∀ (s : Shared) (H : Hp) (C : Addr) (cl : List (Str × Addr)) (fp : List Addr), DTs K (X.blk s H scope (compEnvC scope cl C X.env) fp) Z ifs tt wt)
    (he : ∀ (s : Shared) (H : Hp) (C : Addr) (cl : List (Str × Addr)) (fp : List Addr), DE K (X.blk s H scope (compEnvC scope cl C X.env) fp) Z elt te we) (hs : ∀ x, foldedSetIterable iter X.env x = pure x := by intro _; rfl)
    (hy : X.N[i]? = some y := by rfl) (hyl : X.env.scope.names.lookup y = some .local := by rfl) (hk : X.env.scope.kind = .function := by rfl) (hl : (py.line == pos.line) = true := by rfl)
    (ha : (scope.names.any fun (n, k) => n == y && (k == .local || k == .cell)) = false := by rfl) :
    DS K X Z (.Assign [.Name y py] (.ListComp elt [⟨tg, iter, ifs, 0⟩] scope pos) spos) (tAsg (tLc wi g tt te (own.map (·.2))) (gName i)) (wAsg (wLc wa wg wt we (own.map (·.2))) (wgName i)) :=
  ⟨ps_setLc hc hN hy hyl (sw_true hk hyl hl ha) hi.pe ok (fun s H C cl fp => (hg s H C cl fp).pe) (fun s H C cl fp => (ht s H C cl fp).pe) (fun s H C cl fp => (he s H C cl fp).pe) hs,
    fun {H0 F0 F H ρ σ DD Dh} zo rl ee h => (run_lc hi.run (hg X.s_0 (fun _ => none) 0 [] []).run (ht X.s_0 (fun _ => none) 0 [] []).run (he X.s_0 (fun _ => none) 0 [] []).run) zo rl h fun s ρ' F' H' v p f r sr fr => by
      obtain ⟨F2, f2, r2, rp2⟩ := r.freeze sr fr
      exact (dg_name (K := K) (X := X) (Z := Z) (pos := py) i hN hy (Or.inl hyl) (.inr hyl)).run zo r2 rp2 p fun ρ3 F3 H3 σ3 p3 f3 r3 => ee.nx _ _ _ _ p3 (f.trans (f2.trans f3)) r3⟩
end
end DL
namespace DL
open PySem L2
def sg (p : Str) : List Nat := p.cps.toList
theorem sg_inj {p q : Str} (h : sg p = sg q) : p = q := str_ext h
theorem sg_append (p q : Str) : sg (p ++ q) = sg p ++ sg q := by
  show (p.cps ++ q.cps).toList = _
  rw [Array.toList_append]; rfl
theorem sg_len (p : Str) : p.length = (sg p).length := by simp [Str.length, sg]
theorem glue_fold (sep : Str) (hs : sg sep = []) : ∀ (xs : List Str) (a : Array Nat), (xs.foldl (fun acc p => acc ++ sep.cps ++ p.cps) a).toList = a.toList ++ (xs.map sg).flatten
  | [], a => by simp
  | x :: xs, a => by
    rw [List.foldl_cons, glue_fold sep hs xs]
    have : sep.cps.toList = [] := hs
    simp [this, sg]
theorem sg_join0 {sep : Str} (hs : sg sep = []) : ∀ xs : List Str, sg (Txt.join sep xs) = (xs.map sg).flatten
  | [] => rfl
  | x :: xs => by
    show (xs.foldl (fun acc p => acc ++ sep.cps ++ p.cps) x.cps).toList = _
    rw [glue_fold sep hs]; rfl
def LET : List Nat := [97, 98, 99, 112, 113, 114, 120, 121, 122]
structure Prd (p : Str) : Prop where
  up : (sg p).Pairwise (· < ·)
  le : ∀ c ∈ sg p, c ∈ LET
structure Frm (f : List Str) : Prop where
  so : f.Pairwise fun a b => leS a b = true
  nd : f.Nodup
  prd : ∀ p ∈ f, Prd p
def tr (r : Nat → Bool) (p : Str) : Bool := (sg p).all r
def val (r : Nat → Bool) (f : List Str) : Bool := decide (f.countP (tr r) % 2 = 1)
def tog (l : List Str) (x : Str) : List Str := if x ∈ l then l.filter (fun y => decide (y ≠ x)) else l ++ [x]
def odds (xs : List Str) : List Str := xs.foldl tog []
theorem tog_nodup {l : List Str} {x : Str} (h : l.Nodup) : (tog l x).Nodup := by
  unfold tog
  split
  · exact h.filter _
  · rename_i hx
    rw [List.nodup_append]
    refine ⟨h, by simp, fun a ha b hb => ?_⟩
    have : b = x := by simpa using hb
    subst this
    exact fun e => hx (e ▸ ha)
theorem countP_tog {t : Str → Bool} {l : List Str} {x : Str} (h : l.Nodup) : (tog l x).countP t % 2 = (l.countP t + (if t x = true then 1 else 0)) % 2 := by
  unfold tog
  split
  · rename_i hx
    have e : l.filter (fun y => decide (y ≠ x)) = l.erase x := by
      rw [h.erase_eq_filter]
      apply List.filter_congr
      intro y _
      simp [bne, BEq.beq]
    rw [e, (List.perm_cons_erase hx).countP_eq t, List.countP_cons]
    split <;> omega
  · rw [List.countP_append, List.countP_singleton]
theorem foldl_tog : ∀ (xs l : List Str), l.Nodup → (xs.foldl tog l).Nodup ∧ ∀ t : Str → Bool, (xs.foldl tog l).countP t % 2 = (l.countP t + xs.countP t) % 2
  | [], l, h => ⟨h, fun t => by simp⟩
  | x :: xs, l, h => by
    obtain ⟨h1, h2⟩ := foldl_tog xs (tog l x) (tog_nodup h)
    refine ⟨h1, fun t => ?_⟩
    rw [List.foldl_cons, h2 t, List.countP_cons]
    have := countP_tog (t := t) (x := x) h
    omega
theorem odds_nodup (xs : List Str) : (odds xs).Nodup := (foldl_tog xs [] List.nodup_nil).1
theorem countP_odds (t : Str → Bool) (xs : List Str) : (odds xs).countP t % 2 = xs.countP t % 2 := by
  have := (foldl_tog xs [] List.nodup_nil).2 t
  rw [List.countP_nil, Nat.zero_add] at this
  exact this
theorem tog_sub {l : List Str} {x y : Str} (h : y ∈ tog l x) : y ∈ l ∨ y = x := by
  unfold tog at h
  split at h
  · exact .inl (List.mem_filter.mp h).1
  · rcases List.mem_append.mp h with h | h
    · exact .inl h
    · exact .inr (by simpa using h)
theorem foldl_tog_sub {y : Str} : ∀ (xs l : List Str), y ∈ xs.foldl tog l → y ∈ l ∨ y ∈ xs
  | [], l, h => .inl h
  | x :: xs, l, h => by
    rcases foldl_tog_sub xs (tog l x) h with h | h
    · rcases tog_sub h with h | h
      · exact .inl h
      · exact .inr (h ▸ List.mem_cons_self)
    · exact .inr (List.mem_cons_of_mem _ h)
theorem odds_sub {y : Str} {xs : List Str} (h : y ∈ odds xs) : y ∈ xs := (foldl_tog_sub xs [] h).elim (fun z => by simp at z) id
theorem odds_len (xs : List Str) : (odds xs).length ≤ xs.length := (odds_nodup xs).length_le_of_subset fun y h => odds_sub h
def gath (xs : List Str) : List Str := srt (odds xs)
theorem gath_frm {xs : List Str} (h : ∀ p ∈ xs, Prd p) : Frm (gath xs) :=
  ⟨srt_pw _, (srt_perm _).nodup_iff.mpr (odds_nodup xs), fun p hp => h p (odds_sub ((srt_perm _).mem_iff.mp hp))⟩
theorem val_gath (r : Nat → Bool) (xs : List Str) : val r (gath xs) = decide (xs.countP (tr r) % 2 = 1) := by
  unfold val gath
  rw [(srt_perm _).countP_eq, countP_odds]
theorem val_append (r : Nat → Bool) (xs ys : List Str) : decide ((xs ++ ys).countP (tr r) % 2 = 1) = xor (val r xs) (val r ys) := by
  unfold val
  rw [List.countP_append]
  rcases Nat.mod_two_eq_zero_or_one (xs.countP (tr r)) with h | h <;> rcases Nat.mod_two_eq_zero_or_one (ys.countP (tr r)) with g | g <;> simp [Nat.add_mod, h, g]
theorem up_ext : ∀ {p q : List Nat}, p.Pairwise (· < ·) → q.Pairwise (· < ·) → (∀ c, c ∈ p ↔ c ∈ q) → p = q := fun {p q} hp hq h => by
  have np : p.Nodup := hp.imp fun h => Nat.ne_of_lt h
  have nq : q.Nodup := hq.imp fun h => Nat.ne_of_lt h
  exact ((List.perm_ext_iff_of_nodup np nq).mpr h).eq_of_pairwise (fun a b _ _ h1 h2 => absurd h1 (Nat.lt_asymm h2)) hp hq
theorem sub_len {p q : Str} (hp : Prd p) (hq : Prd q) (h : ∀ c ∈ sg p, c ∈ sg q) (hl : (sg q).length ≤ (sg p).length) : p = q := by
  have np : (sg p).Nodup := hp.up.imp fun h => Nat.ne_of_lt h
  have nq : (sg q).Nodup := hq.up.imp fun h => Nat.ne_of_lt h
  refine sg_inj (up_ext hp.up hq.up fun c => ⟨h c, fun hc => Classical.byContradiction fun hn => ?_⟩)
  have hnd : (c :: sg p).Nodup := List.nodup_cons.mpr ⟨hn, np⟩
  have := hnd.length_le_of_subset (l₂ := sg q) fun x hx => (List.mem_cons.mp hx).elim (fun e => e ▸ hc) (h x)
  simp only [List.length_cons] at this
  omega
theorem least : ∀ {f : List Str}, f ≠ [] → ∃ p ∈ f, ∀ q ∈ f, (sg p).length ≤ (sg q).length
  | [], h => absurd rfl h
  | [p], _ => ⟨p, by simp, fun q hq => by simp at hq; subst hq; exact Nat.le_refl _⟩
  | p :: x :: r, _ => by
    obtain ⟨q, hq, h⟩ := least (f := x :: r) (by simp)
    by_cases hl : (sg p).length ≤ (sg q).length
    · refine ⟨p, by simp, fun y hy => ?_⟩
      rcases List.mem_cons.mp hy with e | e
      · subst e; exact Nat.le_refl _
      · exact Nat.le_trans hl (h y e)
    · refine ⟨q, List.mem_cons_of_mem _ hq, fun y hy => ?_⟩
      rcases List.mem_cons.mp hy with e | e
      · subst e; omega
      · exact h y e
def rowP (p : Str) : Nat → Bool := fun c => decide (c ∈ sg p)
theorem tr_rowP {p q : Str} : tr (rowP p) q = true ↔ ∀ c ∈ sg q, c ∈ sg p := by
  simp [tr, rowP, List.all_eq_true]
theorem val_least {f : List Str} (hn : f.Nodup) (hp : ∀ p ∈ f, Prd p) {p : Str} (hm : p ∈ f) (hl : ∀ q ∈ f, (∀ c ∈ sg q, c ∈ sg p) → (sg p).length ≤ (sg q).length) : val (rowP p) f = true := by
  have : f.countP (tr (rowP p)) = f.count p := by
    unfold List.count
    apply List.countP_congr
    intro q hq
    rw [tr_rowP]
    constructor
    · intro h
      have := sub_len (hp q hq) (hp p hm) h (hl q hq h)
      subst this
      exact beq_self_eq_true _
    · intro h c hc
      have e : q = p := by simpa using h
      subst e; exact hc
  unfold val
  have h3 := List.nodup_iff_count.mp hn p
  have h4 := List.count_pos_iff.mpr hm
  have h5 : f.count p = 1 := by omega
  rw [this, h5]
  rfl
theorem uniq {f g : List Str} (hf : Frm f) (hg : Frm g) (h : ∀ r, val r f = val r g) : f = g := by
  have he : odds (f ++ g) = [] := Classical.byContradiction fun hne => by
    obtain ⟨p, hm, hl⟩ := least hne
    have hp : ∀ q ∈ odds (f ++ g), Prd q := fun q hq => (List.mem_append.mp (odds_sub hq)).elim (hf.prd q) (hg.prd q)
    have h1 := val_least (odds_nodup _) hp hm fun q hq _ => hl q hq
    have h2 := val_append (rowP p) f g
    rw [← countP_odds, h] at h2
    unfold val at h1 h2
    rw [h1] at h2
    simp at h2
  have hc : ∀ p, p ∈ f ↔ p ∈ g := fun p => by
    have h1 := countP_odds (fun x => x == p) (f ++ g)
    rw [he, List.countP_nil, List.countP_append] at h1
    have h2 : (f.count p + g.count p) % 2 = 0 := h1.symm
    have h3 := List.nodup_iff_count.mp hf.nd p
    have h4 := List.nodup_iff_count.mp hg.nd p
    constructor
    · intro hx
      have := List.count_pos_iff.mpr hx
      exact List.count_pos_iff.mp (by omega)
    · intro hx
      have := List.count_pos_iff.mpr hx
      exact List.count_pos_iff.mp (by omega)
  exact ((List.perm_ext_iff_of_nodup hf.nd hg.nd).mpr hc).eq_of_pairwise (fun a b _ _ h1 h2 => leS_anti h1 h2) hf.so hg.so
def subs : List Nat → List (List Nat)
  | [] => [[]]
  | c :: cs => subs cs ++ (subs cs).map (c :: ·)
theorem mem_subs : ∀ {L p : List Nat}, L.Pairwise (· < ·) → p.Pairwise (· < ·) → (∀ c ∈ p, c ∈ L) → p ∈ subs L
  | [], p, _, _, h => by
    cases p with
    | nil => simp [subs]
    | cons c r => exact absurd (h c List.mem_cons_self) (by simp)
  | d :: L, p, hL, hp, h => by
    rw [List.pairwise_cons] at hL
    cases p with
    | nil => exact List.mem_append.mpr (.inl (mem_subs hL.2 .nil (by simp)))
    | cons c r =>
      rw [List.pairwise_cons] at hp
      by_cases e : c = d
      · subst e
        refine List.mem_append.mpr (.inr (List.mem_map.mpr ⟨r, mem_subs hL.2 hp.2 fun x hx => ?_, rfl⟩))
        rcases List.mem_cons.mp (h x (List.mem_cons_of_mem _ hx)) with e | e
        · exact absurd (hp.1 x hx) (by omega)
        · exact e
      · have hc : c ∈ L := (List.mem_cons.mp (h c List.mem_cons_self)).elim (fun z => absurd z e) id
        have hdc := hL.1 c hc
        refine List.mem_append.mpr (.inl (mem_subs hL.2 (List.pairwise_cons.mpr hp) fun x hx => ?_))
        rcases List.mem_cons.mp (h x hx) with z | z
        · rcases List.mem_cons.mp hx with y | y
          · exact absurd (y.symm.trans z) e
          · have := hp.1 x y
            omega
        · exact z
theorem LET_up : LET.Pairwise (· < ·) := by decide
theorem Frm.len {f : List Str} (h : Frm f) : f.length ≤ 512 := by
  have h1 : (f.map sg).Nodup := by
    rw [List.nodup_iff_pairwise_ne, List.pairwise_map]
    exact (List.nodup_iff_pairwise_ne.mp h.nd).imp fun z e => z (sg_inj e)
  have h2 := h1.length_le_of_subset (l₂ := subs LET) fun x hx => by
    obtain ⟨p, hp, rfl⟩ := List.mem_map.mp hx
    exact mem_subs LET_up (h.prd p hp).up (h.prd p hp).le
  rw [List.length_map] at h2
  exact Nat.le_trans h2 (by decide +kernel)
theorem Prd.len {p : Str} (h : Prd p) : (sg p).length ≤ 9 := by
  have n : (sg p).Nodup := h.up.imp fun h => Nat.ne_of_lt h
  exact n.length_le_of_subset (l₂ := LET) h.le
def one (c : Nat) : Str := ⟨#[c]⟩
theorem sg_one (c : Nat) : sg (one c) = [c] := rfl
theorem one_inj {a b : Nat} (h : one a = one b) : a = b := by
  have := congrArg sg h
  simpa [sg_one] using this
theorem signs_eq (z : Str) : signs z = (sg z).map one := rfl
theorem leS_one {a b : Nat} : leS (one a) (one b) = true ↔ a ≤ b := by
  unfold leS
  rw [decide_eq_true_iff]
  show [a] ≤ [b] ↔ _
  rw [List.cons_le_cons_iff]
  constructor
  · rintro (h | h) <;> omega
  · intro h
    rcases Nat.lt_or_eq_of_le h with h | h
    · exact .inl h
    · exact .inr ⟨h, by simp⟩
theorem ones_of {L : List Str} (h : ∀ x ∈ L, ∃ c, x = one c) : ∃ cs : List Nat, L = cs.map one := by
  induction L with
  | nil => exact ⟨[], rfl⟩
  | cons x L ih =>
    obtain ⟨c, rfl⟩ := h x List.mem_cons_self
    obtain ⟨cs, rfl⟩ := ih fun y hy => h y (List.mem_cons_of_mem _ hy)
    exact ⟨c :: cs, rfl⟩
theorem flat_ones (cs : List Nat) : ((cs.map one).map sg).flatten = cs := by
  induction cs with
  | nil => rfl
  | cons c cs ih =>
    rw [List.map_cons, List.map_cons, List.flatten_cons, ih]; rfl
def lets (z : Str) : Str := Txt.join "" (srtset (signs z))
theorem sg_nil : sg "" = [] := by decide +kernel
theorem srtset_signs (z : Str) : ∃ cs : List Nat, srtset (signs z) = cs.map one ∧ cs.Pairwise (· < ·) ∧ ∀ c, c ∈ cs ↔ c ∈ sg z := by
  obtain ⟨cs, e⟩ := ones_of (L := srtset (signs z)) fun x hx => by
    have := mem_srtset.mp hx
    rw [signs_eq] at this
    obtain ⟨c, _, rfl⟩ := List.mem_map.mp this
    exact ⟨c, rfl⟩
  refine ⟨cs, e, ?_, fun c => ?_⟩
  · have h1 : (cs.map one).Pairwise fun a b => leS a b = true := by rw [← e]; exact srt_pw _
    have h2 : (cs.map one).Nodup := by rw [← e]; exact nodup_srtset _
    rw [List.pairwise_map] at h1
    rw [List.nodup_iff_pairwise_ne, List.pairwise_map] at h2
    refine (h1.and h2).imp fun h => ?_
    have := leS_one.mp h.1
    have h3 : ∀ {a b : Nat}, one a ≠ one b → a ≠ b := fun z e => z (e ▸ rfl)
    exact Nat.lt_of_le_of_ne this (h3 h.2)
  · have h1 : one c ∈ srtset (signs z) ↔ one c ∈ signs z := mem_srtset
    rw [e, signs_eq] at h1
    constructor
    · intro h
      obtain ⟨d, hd, ed⟩ := List.mem_map.mp (h1.mp (List.mem_map.mpr ⟨c, h, rfl⟩))
      exact one_inj ed ▸ hd
    · intro h
      obtain ⟨d, hd, ed⟩ := List.mem_map.mp (h1.mpr (List.mem_map.mpr ⟨c, h, rfl⟩))
      exact one_inj ed ▸ hd
theorem sg_lets (z : Str) : (sg (lets z)).Pairwise (· < ·) ∧ ∀ c, c ∈ sg (lets z) ↔ c ∈ sg z := by
  obtain ⟨cs, e, h1, h2⟩ := srtset_signs z
  have : sg (lets z) = cs := by
    unfold lets
    rw [sg_join0 sg_nil, e, flat_ones]
  rw [this]
  exact ⟨h1, h2⟩
theorem prd_lets {z : Str} (h : ∀ c ∈ sg z, c ∈ LET) : Prd (lets z) := ⟨(sg_lets z).1, fun c hc => h c (((sg_lets z).2 c).mp hc)⟩
theorem tr_lets (r : Nat → Bool) (z : Str) : tr r (lets z) = (sg z).all r := by
  unfold tr
  rw [Bool.eq_iff_iff, List.all_eq_true, List.all_eq_true]
  exact ⟨fun h c hc => h c (((sg_lets z).2 c).mpr hc), fun h c hc => h c (((sg_lets z).2 c).mp hc)⟩
def bothF (p q : Str) : Str := lets (p ++ q)
theorem prd_both {p q : Str} (hp : Prd p) (hq : Prd q) : Prd (bothF p q) := prd_lets fun c hc => by
  rw [sg_append] at hc
  exact (List.mem_append.mp hc).elim (hp.le c) (hq.le c)
theorem tr_both (r : Nat → Bool) (p q : Str) : tr r (bothF p q) = (tr r p && tr r q) := by
  rw [bothF, tr_lets, sg_append, List.all_append]; rfl
def addedF (a b : List Str) : List Str := gath (a ++ b)
def pairsF (a b : List Str) : List Str := a.flatMap fun p => b.map (bothF p)
def mulF (a b : List Str) : List Str := gath (pairsF a b)
def oneF : List Str := [""]
def oppF (a : List Str) : List Str := addedF a oneF
def joinF (a b : List Str) : List Str := addedF (addedF a b) (mulF a b)
theorem prd_nil : Prd "" := ⟨by rw [sg_nil]; exact .nil, by rw [sg_nil]; simp⟩
theorem frm_nil : Frm [] := ⟨.nil, .nil, by simp⟩
theorem frm_one : Frm oneF := ⟨by simp [oneF], by simp [oneF], fun p hp => by simp [oneF] at hp; subst hp; exact prd_nil⟩
theorem frm_added {a b : List Str} (ha : Frm a) (hb : Frm b) : Frm (addedF a b) := gath_frm fun p hp => (List.mem_append.mp hp).elim (ha.prd p) (hb.prd p)
theorem prd_pairs {a b : List Str} (ha : ∀ p ∈ a, Prd p) (hb : ∀ p ∈ b, Prd p) : ∀ p ∈ pairsF a b, Prd p := fun p hp => by
  obtain ⟨x, hx, h⟩ := List.mem_flatMap.mp hp
  obtain ⟨y, hy, rfl⟩ := List.mem_map.mp h
  exact prd_both (ha x hx) (hb y hy)
theorem frm_mul {a b : List Str} (ha : Frm a) (hb : Frm b) : Frm (mulF a b) := gath_frm (prd_pairs ha.prd hb.prd)
theorem frm_opp {a : List Str} (ha : Frm a) : Frm (oppF a) := frm_added ha frm_one
theorem frm_join {a b : List Str} (ha : Frm a) (hb : Frm b) : Frm (joinF a b) := frm_added (frm_added ha hb) (frm_mul ha hb)
theorem val_added (r : Nat → Bool) (a b : List Str) : val r (addedF a b) = xor (val r a) (val r b) := by rw [addedF, val_gath, val_append]
theorem countP_pairs (r : Nat → Bool) (b : List Str) : ∀ a : List Str, (pairsF a b).countP (tr r) = a.countP (tr r) * b.countP (tr r)
  | [] => by simp [pairsF]
  | p :: a => by
    show ((p :: a).flatMap _).countP _ = _
    rw [List.flatMap_cons, List.countP_append, List.countP_cons, show (a.flatMap fun p => b.map (bothF p)).countP (tr r) = _ from countP_pairs r b a, List.countP_map]
    by_cases h : tr r p = true
    · rw [if_pos h, Nat.add_mul, Nat.one_mul, Nat.add_comm]
      congr 1
      apply List.countP_congr
      intro q _
      simp [Function.comp, tr_both, h]
    · rw [if_neg h, Nat.add_zero]
      have : b.countP (tr r ∘ bothF p) = 0 := by
        rw [List.countP_eq_zero]
        intro q _
        simp [Function.comp, tr_both, h]
      rw [this, Nat.zero_add]
theorem val_mul (r : Nat → Bool) (a b : List Str) : val r (mulF a b) = (val r a && val r b) := by
  rw [mulF, val_gath, countP_pairs]
  unfold val
  rcases Nat.mod_two_eq_zero_or_one (a.countP (tr r)) with h | h <;> rcases Nat.mod_two_eq_zero_or_one (b.countP (tr r)) with g | g <;> simp [Nat.mul_mod, h, g]
theorem val_nil (r : Nat → Bool) : val r [] = false := rfl
theorem val_one (r : Nat → Bool) : val r oneF = true := by
  have : tr r "" = true := by unfold tr; rw [sg_nil]; rfl
  simp [val, oneF, this]
theorem val_opp (r : Nat → Bool) (a : List Str) : val r (oppF a) = !val r a := by rw [oppF, val_added, val_one]; cases val r a <;> rfl
theorem val_join (r : Nat → Bool) (a b : List Str) : val r (joinF a b) = (val r a || val r b) := by
  rw [joinF, val_added, val_added, val_mul]; cases val r a <;> cases val r b <;> rfl
theorem pairs_len (b : List Str) : ∀ a : List Str, (pairsF a b).length = a.length * b.length
  | [] => by simp [pairsF]
  | p :: a => by
    show ((p :: a).flatMap _).length = _
    rw [List.flatMap_cons, List.length_append, List.length_map, show (a.flatMap fun p => b.map (bothF p)).length = _ from pairs_len b a, List.length_cons, Nat.succ_mul, Nat.add_comm]
end DL
namespace DL
open PySem L2
section
variable {K : PySem.W.Frag} {X : Cx} {Z : Zx} {pos p p2 p3 apos cpos : Pos} {a b e o : Expr} {ta tb te to : TE} {wa wb we wo : W} {i : Nat}
def tyD : D → Option String
  | .non => some "NoneType" | .bl _ => some "bool" | .int _ => some "int" | .str _ => some "str" | .cel _ => some "list" | .lst _ => some "list" | .tup _ => some "tuple" | .dic _ _ => some "dict"
  | _ => none
def isiB (t c : String) : Option Bool := match t, c with
  | "NoneType", "bool" => some false | "NoneType", "int" => some false | "NoneType", "str" => some false | "NoneType", "list" => some false | "NoneType", "tuple" => some false | "NoneType", "dict" => some false
  | "bool", "bool" => some true | "bool", "int" => some true | "bool", "str" => some false | "bool", "list" => some false | "bool", "tuple" => some false | "bool", "dict" => some false
  | "int", "bool" => some false | "int", "int" => some true | "int", "str" => some false | "int", "list" => some false | "int", "tuple" => some false | "int", "dict" => some false
  | "str", "bool" => some false | "str", "int" => some false | "str", "str" => some true | "str", "list" => some false | "str", "tuple" => some false | "str", "dict" => some false
  | "list", "bool" => some false | "list", "int" => some false | "list", "str" => some false | "list", "list" => some true | "list", "tuple" => some false | "list", "dict" => some false
  | "tuple", "bool" => some false | "tuple", "int" => some false | "tuple", "str" => some false | "tuple", "list" => some false | "tuple", "tuple" => some true | "tuple", "dict" => some false
  | "dict", "bool" => some false | "dict", "int" => some false | "dict", "str" => some false | "dict", "list" => some false | "dict", "tuple" => some false | "dict", "dict" => some true
  | _, _ => none
theorem isiB_ok {t c : String} {b : Bool} (h : isiB t c = some b) : PySem.W.kitOne K (.type t) (.type c) = some b := by
  unfold isiB at h
  split at h <;> first | (cases h; done) | (cases h; with_unfolding_all rfl)
theorem ty_rep {F : Hp} {x : D} {v : V} {t : String} (r : Rep K F x v) (e : tyD x = some t) : TyX K F v (.type t) := by
  cases x <;> first | (cases e; done) | skip
  · cases e; cases (show v = _ from r); exact .base .non
  · cases e; cases (show v = _ from r); exact .base (.bl _)
  · cases e; cases (show v = _ from r); exact .base (.int _)
  · cases e; cases (show v = _ from r); exact .base (.str _)
  · cases e
    obtain ⟨a, rfl, h⟩ := r
    rcases h with (h | ⟨o, h⟩) | ⟨o, its, n, h, hc, _⟩
    · exact .base (.lst h)
    · exact .base (.frz h)
    · exact .kList h hc
  · cases e
    obtain ⟨a, vs, rfl, h, _⟩ := r
    exact .base (.lst h)
  · cases e
    obtain ⟨a, vs, rfl, h, _⟩ := r
    rcases h with (h | ⟨o, h⟩) | ⟨o, its, n, h, hc, _⟩
    · exact .base (.tup h)
    · exact .fTuple h
    · exact .kTuple h hc
  · cases e
    obtain ⟨a, vs, rfl, h, _⟩ := r
    rcases h with h | ⟨o, h⟩
    · exact .base (.dK h)
    · exact .fDict h
def oIsi : OL := fun ds P => match ds with
  | [x, .ty c] => asA (tyD x) fun t => asA (isiB t c) fun b => P (.d (.bl b))
  | _ => False
theorem snd_isi : SndL K (rIsi K) oIsi := ⟨fun {F H ds vs P Q} fh r h k => by
  unfold oIsi at h
  split at h
  · obtain ⟨v, _, rfl, rx, c, _, rfl, rc, rfl⟩ := r
    cases (show c = _ from rc)
    obtain ⟨t, e, h⟩ := asA_of h
    obtain ⟨b, e2, h⟩ := asA_of h
    exact ⟨v, _, _, _, b, rfl, .ty _, ty_rep (Rep.mono fh _ _ rx) e, isiB_ok e2, k.flat (d := .bl b) fh h rfl⟩
  · exact h.elim⟩
theorem de_ty {x : Str} {n : String} (hm : X.mg x = none) (hv : bootBuiltins x = some (.type n)) (hg : Gl X x := by rfl) (hn : x ≠ "__name__" := by decide) (hd : (x == ("__debug__" : Str)) = false := by decide) : DE K X Z (.Name x pos) (tC (.ty n)) (wC (.ty n)) := de_c (pe_bltn hg hm hv rfl hn hd) fun _ => rfl
theorem de_isi (m : X.mg "isinstance" = none) (ha : DE K X Z a ta wa) (hb : DE K X Z b tb wb) (hg : Gl X "isinstance" := by rfl) (hs : starEach [a, b] X.env = (false, eval a X.env) :: starEach [b] X.env := by rfl) (hs2 : starEach [b] X.env = [(false, eval b X.env)] := by rfl) (hpl : (backTo pos (starEach [b] X.env)).any (·.1) = false := by rfl) (hK : X.K = K := by rfl) :
    DE K X Z (.Call (.Name "isinstance" p) [a, b] [] pos) (tCB (rIsi K) (tCons ta (tCons tb tNil))) (wCB oIsi (wCons wa (wCons wb wNil))) := by
  subst hK
  exact de_callB call_isi snd_isi hg m (by decide +kernel) (da_cons ha (da_cons hb da_nil hs2) hs) (hn := by decide) (hdb := by decide) (he := hs) (hpl := hpl)
def oDict : OL := fun ds P => match ds with
  | [.dic ks xs] => P (.od (ks.zip xs))
  | _ => False
def wDisp1 (wk wv : W) : W := fun ρ P => wk (dataR ρ) fun k ρ1 => wv ρ1 fun v _ => asKey k.fz fun key => P (.od [(key, v.fz)]) ρ
abbrev WO := R → (Option Int → R → Prop) → Prop
structure DO (K : PySem.W.Frag) (X : Cx) (Z : Zx) (e : Option Expr) (t : TO) (w : WO) : Prop where
  pe : PO X e t
  run : ∀ {H0 F0 F H : Hp} {ρ : R} {σ : St} {Q : Option Int → Hp → Prop} {P : Option Int → R → Prop}, Z.Ok K H0 F0 → Rel K H0 F0 F H ρ σ → w ρ P → (∀ o ρ' F' H', P o ρ' → Same F F' → Rel K H0 F0 F' H' ρ' σ → Q o H') → t σ H Q
def wNoP : WO := fun ρ P => P none ρ
def wPart (we : W) : WO := fun ρ P => we ρ fun s ρ1 => asI s.fz fun i => P (some i) ρ1
theorem do_some (h : DE K X Z e te we) : DO K X Z (some e) (tPart te) (wPart we) := ⟨po_some h.pe, fun {H0 F0 F H ρ σ Q P} zo rl q k => h.run zo rl q fun s1 ρ1 F1 H1 v1 h1 f1 r1 sr1 fr1 => by
  obtain ⟨F2, f2, r2, rp2⟩ := r1.freeze sr1 fr1
  obtain ⟨i, rfl, h1⟩ := asI_of h1 rp2
  exact ⟨i, rfl, k _ _ _ _ h1 (f1.trans f2) r2⟩⟩
def cutD {α : Type} (xs : List α) (lo hi : Option Int) : List α := (xs.drop (HT.sIx xs.length 0 lo)).take (HT.sIx xs.length xs.length hi - HT.sIx xs.length 0 lo)
theorem cut_reps {F : Hp} {xs : List D} {vs : List V} (r : Reps K F xs vs) (lo hi : Option Int) : Reps K F (cutD xs lo hi) (cutV vs lo hi) := by
  unfold cutD cutV
  rw [r.len]
  exact (r.drop _).take _
theorem cut_all {α : Type} {xs : List α} {lo hi : Option Int} (h1 : HT.sIx xs.length 0 lo = 0) (h2 : HT.sIx xs.length xs.length hi = xs.length) : cutD xs lo hi = xs := by
  unfold cutD
  rw [h1, h2, List.drop_zero, Nat.sub_zero, List.take_length]
def oSl (x : D) (lo hi : Option Int) (P : S → Prop) : Prop := match x with
  | .lst xs => P (.ol (cutD xs lo hi))
  | .tup xs => P (.d (.tup (cutD xs lo hi)))
  | .str z => z.length ≤ sizeLine ∧ P (.d (.str (cutS z lo hi)))
  | _ => False
abbrev rSlX' (K : PySem.W.Frag) : V → Option Int → Option Int → Hp → VK → Prop := fun x lo hi H Q => rSlL K x lo hi H Q ∨ rSlA K x lo hi H Q ∨ rSlS x lo hi H Q
theorem sl_X : SlR X (rSlX' X.K) := sl_list.or (sl_tupA.or sl_str)
def wSl (we : W) (wl wh : WO) : W := fun ρ P => we ρ fun s ρ1 => wl ρ1 fun l ρ2 => wh ρ2 fun u ρ3 => oSl s.fz l u fun r => P r ρ3
theorem de_sl {lo hi : Option Expr} {tl th : TO} {wl wh : WO} (he : DE K X Z e te we) (hl : DO K X Z lo tl wl) (hu : DO K X Z hi th wh) (hK : X.K = K := by rfl) : DE K X Z (.Subscript e (.Slice lo hi none p2) pos) (tSl (rSlX' K) te tl th) (wSl we wl wh) := by
  subst hK
  refine ⟨pe_slice sl_X he.pe hl.pe hu.pe, fun {H0 F0 F H ρ σ Q P} zo rl h k => he.run zo rl h fun s1 ρ1 F1 H1 v1 h1 f1 r1 sr1 fr1 => ?_⟩
  obtain ⟨F2, f2, r2, rp2⟩ := r1.freeze sr1 fr1
  refine hl.run zo r2 h1 fun l ρ3 F3 H3 h3 f3 r3 => hu.run zo r3 h3 fun u ρ4 F4 H4 h4 f4 r4 => ?_
  have rp4 := Rep.mono (f3.trans f4) _ _ rp2
  have kk := Rel.kont r4 (f1.trans (f2.trans (f3.trans f4))) k
  unfold oSl at h4
  split at h4
  · rename_i xs e
    rw [e] at rp4
    obtain ⟨a, vs, rfl, h1, h2⟩ := rp4
    exact .inl ⟨a, vs, rfl, SqL.of (r4.fh _ _ h1), fun p n => kk.newL r4.fh h4 (cut_reps h2 l u) n⟩
  · rename_i xs e
    rw [e] at rp4
    obtain ⟨a, vs, rfl, h1, h2⟩ := rp4
    refine .inr (.inl ⟨a, vs, rfl, Same.sqT r4.fh h1, fun z => ?_, fun _ p n => kk.newT r4.fh h4 (cut_reps h2 l u) n⟩)
    rw [h2.len] at z
    rw [cut_all z.1 z.2] at h4
    exact kk.flat r4.fh h4 ⟨a, vs, rfl, h1, h2⟩
  · rename_i z e
    rw [e] at rp4
    cases (show v1 = _ from rp4)
    exact .inr (.inr ⟨z, rfl, h4.1, kk.flat (d := .str _) r4.fh h4.2 rfl⟩)
  · exact h4.elim
def oRemove : List D → List D → (S → List D → Prop) → Prop := fun xs ds P => match ds with
  | [.str k] => asA (txts xs) fun ss => k ∈ ss ∧ P (.d .non) ((ss.erase k).map .str)
  | _ => False
end
end DL
namespace DL
open PySem L2
def Ites (x : Str) : It :=
  ⟨fun i _ => i < x.cps.size, fun i H v H' => ∃ T c, v = .ref T ∧ H T = none ∧ H' = upd H T (.tup [.int (i : Nat), .str ⟨#[c]⟩]) ∧ x.cps[i]? = some c, fun i _ => x.cps.size ≤ i⟩
theorem turn_enumS {P : Program} {w : World} {K : PySem.W.Frag} {elts : List Expr} {kk : Nat} {tpos : Pos} (e it : Addr) (hne : e ≠ it) (x : Str) (t : Tok) :
    Turn P w K (.Tuple elts kk tpos) (Ites x) [e, it] e (fun i h => ((∃ old, IsEnum h e it ((i : Nat) : Int) old) ∧ h.IsStrIter it (strIterType x) x t i) ∧ i ≤ x.cps.size) where
  mem := by simp
  obj := fun i h st b hb => by
    obtain ⟨⟨⟨old, he⟩, ⟨o, ho, hc, hd⟩⟩, _⟩ := st
    have e' : b = e ∨ b = it := by simpa using hb
    rcases e' with z | z
    · subst z
      exact ⟨_, he, fun v z => by cases z⟩
    · subst z
      exact ⟨o, ho, fun v z => by rw [hd] at z; cases z⟩
  keep := fun i h h' st k => by
    obtain ⟨⟨⟨old, he⟩, hs⟩, hle⟩ := st
    exact ⟨⟨⟨old, k e (by simp) _ he⟩, let ⟨o, ho, r⟩ := hs; ⟨o, k it (by simp) o ho, r⟩⟩, hle⟩
  item := by
    intro X hP hw hK hc i pins s σ H E I hf st hg
    subst hP hw hK
    have hh : X.A.in1.handled = none := by simp [I.ok.hd hc]
    have W := WalksT.enumerateD (A := X.A) (Draws.text (prog := X.prog) (w := X.w) hh it x t) e hne (by simpa using hne) (by simp)
    have hi : i < x.cps.size := hg
    refine W.item i s _ _ hi st.1 fun T vals h' tk hpt hT hIs mid kp => ⟨_, rfl, ?_⟩
    refine W.go elts kk tpos i T { s with heap := h', toks := tk } _ _ mid fun h'' st'' kp2 => ?_
    obtain ⟨tt, u, ⟨c, cu, hc', rfl⟩, rfl⟩ := hpt
    have hTw := W.apart i T h' mid
    obtain ⟨oT, hoT, q1, q2⟩ := hIs
    have hoT2 := kp2 T oT hTw hoT
    have new : ObjOk X.prog X.w (upd H T (.tup [.int (i : Nat), .str ⟨#[c]⟩])) h'' T (.tup [.int (i : Nat), .str ⟨#[c]⟩]) :=
      ⟨by show 2 ≤ sizeLine; decide, [.int (i : Nat) tt, .str ⟨#[c]⟩ cu], .cons ⟨_, rfl⟩ (.cons ⟨_, rfl⟩ .nil), ⟨oT, hoT2, q1, q2⟩⟩
    have I1 : Inv X pins σ (upd H T (.tup [.int (i : Nat), .str ⟨#[c]⟩])) { s with heap := h'', toks := tk } :=
      I.turnedNew (ch := [e, it]) (fun b o hb q => kp2 b o hb (kp b o hb q)) hf hT new
    refine ⟨.ref T, _, I1, rfl, ⟨T, c, rfl, I.hok.fresh hT, rfl, hc'⟩, ⟨st'', hi⟩, fun b hb => ?_⟩
    have hb' : b ≠ T := fun z => hTw (z ▸ hb)
    rw [upd_ne hb']
    exact (hf b hb).1
  done := by
    intro X hP hw hK hc i pins s σ H E I hf st hg
    subst hP hw hK
    have hh : X.A.in1.handled = none := by simp [I.ok.hd hc]
    have W := WalksT.enumerateD (A := X.A) (Draws.text (prog := X.prog) (w := X.w) hh it x t) e hne (by simpa using hne) (by simp)
    have hi : i = x.cps.size := Nat.le_antisymm st.2 hg
    subst hi
    exact W.done s _ _ st.1 fun h' tk kp => ⟨rfl, I.turnedL (t' := tk) (ch := [e, it]) (fun b o hb q => kp b o hb q) hf⟩
  self := fun A i s Q E st h => let ⟨⟨⟨_, he⟩, _⟩, _⟩ := st; wpAny_pyIter_enum he h
def iEnumX (K : PySem.W.Frag) (ta : TA) : TI := fun σ H R => ta σ H fun vs H1 => (∃ a xs, vs = [.ref a] ∧ SqL K H1 a xs ∧ R (Ite K a) H1) ∨ ∃ x, vs = [.str x] ∧ R (Ites x) H1
theorem pi_enumX {X : Cx} {e : Expr} {ta : TA} {p pos tpos : Pos} {elts : List Expr} {kk : Nat} (hg : Gl X "enumerate") (hm : X.mg "enumerate" = none) (ha : PA X [e] ta) (hs : starEach [e] X.env = [(false, eval e X.env)] := by rfl) :
    PI X (.Tuple elts kk tpos) (.Call (.Name "enumerate" p) [e] [] pos) (iEnumX X.K ta) := by
  refine ⟨fun pins s σ H R I h => ?_⟩
  refine PyProof.Rows.Call_ (ld_blt I hg hm PyProof.Rows.boot_enumerate (PyProof.Rows.callWith_type1 (L2.thn (ha.run pos pins s σ H _ I h) fun us s1 ⟨vs, H1, I1, r1, q1⟩ => ?_) hs rfl))
  rcases q1 with ⟨a, xs, ex, hq, q⟩ | ⟨x, ex, q⟩
  · subst ex
    cases r1 with
    | cons r rr =>
      cases rr
      cases r
      obtain ⟨its, rv, p', hz⟩ := I1.list hq
      refine call_enumerate_list p'.isList fun h' he hit hsz hk => wpAny_pyIter_enum he ?_
      have I2 : Inv X pins σ H1 { s1 with heap := h' } := I1.kept (t' := s1.toks) hk
      refine ⟨s1.heap.objs.size + 1, [s1.heap.objs.size + 1, s1.heap.objs.size], _, _, H1, rfl, I2, turn_enum a (s1.heap.objs.size + 1) s1.heap.objs.size, ⟨⟨.none, he⟩, hit, Nat.succ_ne_self _⟩, fun b hb => ?_, q⟩
      have e' : b = s1.heap.objs.size + 1 ∨ b = s1.heap.objs.size := by simpa using hb
      have hle : s1.heap.objs.size ≤ b := by
        rcases e' with z | z
        · rw [z]; exact Nat.le_add_right _ _
        · rw [z]; exact Nat.le_refl _
      exact I1.fpOk hle (I1.hok.fresh hle)
  · subst ex
    cases r1 with
    | cons r rr =>
      cases rr
      obtain ⟨t, rfl⟩ := r
      refine call_enumerate_str fun h' he hit hsz hk => wpAny_pyIter_enum he ?_
      have I2 : Inv X pins σ H1 { s1 with heap := h' } := I1.kept (t' := s1.toks) hk
      refine ⟨s1.heap.objs.size + 1, [s1.heap.objs.size + 1, s1.heap.objs.size], _, _, H1, rfl, I2, turn_enumS (s1.heap.objs.size + 1) s1.heap.objs.size (Nat.succ_ne_self _) x t, ⟨⟨⟨.none, he⟩, hit⟩, Nat.zero_le _⟩, fun b hb => ?_, q⟩
      have e' : b = s1.heap.objs.size + 1 ∨ b = s1.heap.objs.size := by simpa using hb
      have hle : s1.heap.objs.size ≤ b := by
        rcases e' with z | z
        · rw [z]; exact Nat.le_add_right _ _
        · rw [z]; exact Nat.le_refl _
      exact I1.fpOk hle (I1.hok.fresh hle)
def wiEnumX (wa : WA) : WA := fun ρ P => wa ρ fun ds ρ1 => match ds with
  | [.cel ns] => P (enumD 0 (ns.map .int)) ρ1
  | [.lst xs] => P (enumD 0 xs) ρ1
  | [.str z] => P (enumD 0 ((signs z).map .str)) ρ1
  | _ => False
section
variable {K : PySem.W.Frag} {X : Cx} {Z : Zx} {pos p : Pos} {e : Expr}
theorem di_enumX {ta : TA} {wa : WA} {elts : List Expr} {kk : Nat} {tpos : Pos} (hm : X.mg "enumerate" = none) (ha : DA K X Z [e] ta wa) (hg : Gl X "enumerate" := by rfl) (hs : starEach [e] X.env = [(false, eval e X.env)] := by rfl) (hK : X.K = K := by rfl) :
    DI K X Z (.Tuple elts kk tpos) (.Call (.Name "enumerate" p) [e] [] pos) (iEnumX K ta) (wiEnumX wa) := by
  refine ⟨by subst hK; exact pi_enumX hg hm ha.pe hs, fun {H0 F0 F H ρ σ Q P} zo rl h k => ha.run zo rl h fun ds ρ1 F1 H1 vs h1 f1 r1 rps => ?_⟩
  have lst : ∀ {a : Addr} {vs' : List V} {xs : List D}, vs = [.ref a] → SqL K F1 a vs' → Reps K F1 xs vs' → P (enumD 0 xs) ρ1 → iEnumX K (fun σ H Q => Q vs H1) σ H1 Q := fun {a vs' xs} e s1 s2 h1 => by
    refine .inl ⟨a, vs', e, r1.fh.seq s1, k _ ρ1 F1 H1 _ h1 f1 r1 ⟨fun {i F H} f g l => ?_, fun {i F H} f g l => ?_, fun {i F H H2 x} f g y l => ?_⟩⟩
    · have hl : i < vs'.length := by rw [s2.len]; rw [enumD_len] at l; exact l
      exact ⟨vs', vs'[i], g.seq (f.seq s1), List.getElem?_eq_getElem hl⟩
    · exact ⟨vs', g.seq (f.seq s1), by rw [s2.len]; rw [enumD_len] at l; exact l⟩
    · obtain ⟨T, u, rfl, n, rfl, y⟩ := y
      obtain ⟨d, e, r⟩ := s2.get' (y vs' (g.seq (f.seq s1)))
      refine ⟨upd F T (.tup [.int (i : Nat), u]), _, enumD_get xs 0 i d e, Same.new n, Same.new (g.free n), upd_both g n, nw_upd n, ⟨T, _, rfl, SqT.of upd_same, ?_⟩⟩
      exact ⟨_, _, rfl, by rw [Nat.zero_add]; rfl, _, _, rfl, Rep.mono (f.trans (Same.new (g.free n))) _ _ r, rfl⟩
  split at h1
  · obtain ⟨v, _, rfl, ⟨a, rfl, s1⟩, rfl⟩ := rps
    exact lst rfl s1 (Reps.ints.mpr rfl) h1
  · obtain ⟨v, _, rfl, ⟨a, vs', rfl, s1, s2⟩, rfl⟩ := rps
    exact lst rfl (SqL.of s1) s2 h1
  · rename_i z
    obtain ⟨v, _, rfl, rfl, rfl⟩ := rps
    have hlen : ((signs z).map D.str).length = z.cps.size := by simp [signs]
    refine .inr ⟨z, rfl, k _ ρ1 F1 H1 _ h1 f1 r1 ⟨fun {i F H} f g l => ?_, fun {i F H} f g l => ?_, fun {i F H H2 x} f g y l => ?_⟩⟩
    · rw [enumD_len, hlen] at l; exact l
    · rw [enumD_len, hlen] at l; exact l
    · obtain ⟨T, c, rfl, n, rfl, hc⟩ := y
      have hc' : z.cps.toList[i]? = some c := by rw [Array.getElem?_toList]; exact hc
      refine ⟨upd F T (.tup [.int (i : Nat), .str ⟨#[c]⟩]), _, enumD_get _ 0 i (.str ⟨#[c]⟩) (by simp [signs, hc']), Same.new n, Same.new (g.free n), upd_both g n, nw_upd n, ⟨T, _, rfl, SqT.of upd_same, ?_⟩⟩
      exact ⟨_, _, rfl, by rw [Nat.zero_add]; rfl, _, _, rfl, rfl, rfl⟩
  · exact h1.elim
end
end DL
set_option maxHeartbeats 1000000
namespace DL
open PySem PySem.Spec PyProof.Rows RT L2
def IsRs (h : Heap) (a : Addr) (x : Str) (t : Tok) (i : Int) : Prop := ∃ o, h.get? a = some o ∧ o.cls = .type "reversed" ∧ o.data = .fields #[.str x t, rawInt i]
section
variable {prog : Program} {w : World} {A : Around} {E : Value → Shared → Prop} {s : Shared} {x : Str} {t : Tok}
theorem IsRs.ty {a : Addr} {i : Int} (h : IsRs s.heap a x t i) : s.TypeIs (.ref a) "reversed" := let ⟨o, ho, hc, _⟩ := h; ⟨o, ho, hc⟩
end
end DL
namespace DL
open PySem L2
def revItems (d : D) (P : List D → Prop) : Prop := match d with
  | .cel ns => P (ns.map .int).reverse
  | .lst xs => P xs.reverse
  | .tup xs => P xs.reverse
  | .str z => z.length ≤ sizeLine ∧ P ((signs z).reverse.map .str)
  | _ => False
def wiRev (we : W) : WA := fun ρ P => we ρ fun s ρ1 => revItems s.fz fun xs => P xs ρ1
end DL
namespace DL
open PySem L2
section
variable {K : PySem.W.Frag} {d : Addr} {od : Obj} {l : List (Key × V)} {A B : Hp}
def lkO (od : Obj) : HO → HO
  | .dK l => .frz od (.dK l)
  | o => o
def ulO : HO → HO
  | .frz _ u => u
  | o => o
def lk (d : Addr) (od : Obj) (A : Hp) : Hp := fun a => if a = d then (A a).map (lkO od) else A a
def ul (d : Addr) (A : Hp) : Hp := fun a => if a = d then (A a).map ulO else A a
theorem lk_none {a : Addr} : lk d od A a = none ↔ A a = none := by
  unfold lk; split
  · simp
  · rfl
theorem ul_none {a : Addr} : ul d A a = none ↔ A a = none := by
  unfold ul; split
  · simp
  · rfl
theorem Same.lk (e : Same A B) : Same (lk d od A) (lk d od B) := fun a u q => by
  unfold DL.lk at q ⊢
  by_cases h : a = d
  · rw [if_pos h] at q ⊢
    cases h2 : A a with
    | none => rw [h2] at q; cases q
    | some o => rw [h2] at q; rw [e _ _ h2]; exact q
  · rw [if_neg h] at q ⊢; exact e _ _ q
theorem Same.ul (e : Same A B) : Same (ul d A) (ul d B) := fun a u q => by
  unfold DL.ul at q ⊢
  by_cases h : a = d
  · rw [if_pos h] at q ⊢
    cases h2 : A a with
    | none => rw [h2] at q; cases q
    | some o => rw [h2] at q; rw [e _ _ h2]; exact q
  · rw [if_neg h] at q ⊢; exact e _ _ q
def PlO (o : HO) : Prop := (∃ xs, o = .lst xs) ∨ (∃ xs, o = .tup xs) ∨ ∃ l, o = .dK l
mutual
theorem Rep.via (h1 : ∀ a o, PlO o → Rd A a o → Rd B a o) (h2 : ∀ a xs, A a = some (.lst xs) → B a = some (.lst xs)) (h3 : ∀ a C dx fs, A a = some (.ins C dx fs) → B a = some (.ins C dx fs)) : ∀ (x : D) (v : V), Rep K A x v → Rep K B x v
  | .non, _, h => h
  | .bl _, _, h => h
  | .int _, _, h => h
  | .str _, _, h => h
  | .ref _, _, h => h
  | .ty _, _, h => h
  | .cel ns, _, h => by
    obtain ⟨a, e1, h⟩ := h
    rcases h with h | h
    · exact ⟨a, e1, .inl (h1 _ _ (.inl ⟨_, rfl⟩) h)⟩
    · exact ⟨a, e1, .inr h⟩
  | .lst xs, _, h => by
    obtain ⟨a, vs, e1, q1, q2⟩ := h
    exact ⟨a, vs, e1, h2 _ _ q1, Reps.via h1 h2 h3 xs vs q2⟩
  | .tup xs, _, h => by
    obtain ⟨a, vs, e1, q1, q2⟩ := h
    rcases q1 with q1 | q1
    · exact ⟨a, vs, e1, .inl (h1 _ _ (.inr (.inl ⟨_, rfl⟩)) q1), Reps.via h1 h2 h3 xs vs q2⟩
    · exact ⟨a, vs, e1, .inr q1, Reps.via h1 h2 h3 xs vs q2⟩
  | .dic ks xs, _, h => by
    obtain ⟨a, vs, e1, q1, q, q2⟩ := h
    exact ⟨a, vs, e1, h1 _ _ (.inr (.inr ⟨_, rfl⟩)) q1, q, Reps.via h1 h2 h3 xs vs q2⟩
  | .ins C ns xs, _, h => by
    obtain ⟨a, C, dx, vs, e1, g, q1, q, q2⟩ := h
    exact ⟨a, C, dx, vs, e1, g, h3 _ _ _ _ q1, q, Reps.via h1 h2 h3 xs vs q2⟩
theorem Reps.via (h1 : ∀ a o, PlO o → Rd A a o → Rd B a o) (h2 : ∀ a xs, A a = some (.lst xs) → B a = some (.lst xs)) (h3 : ∀ a C dx fs, A a = some (.ins C dx fs) → B a = some (.ins C dx fs)) : ∀ (xs : List D) (vs : List V), Reps K A xs vs → Reps K B xs vs
  | [], _, h => h
  | x :: xs, _, h => by
    obtain ⟨v, r, e1, q1, q2⟩ := h
    exact ⟨v, r, e1, Rep.via h1 h2 h3 x v q1, Reps.via h1 h2 h3 xs r q2⟩
end
theorem lk_at {a : Addr} (h : a ≠ d) : lk d od A a = A a := if_neg h
theorem ul_at {a : Addr} (h : a ≠ d) : ul d A a = A a := if_neg h
theorem rd_lk (h : A d = some (.dK l)) : ∀ a o, PlO o → Rd A a o → Rd (lk d od A) a o := fun a o _ q => by
  by_cases e : a = d
  · subst e
    rcases q with q | ⟨o', q⟩
    · rw [h] at q; cases q
      exact .inr ⟨od, by unfold lk; rw [if_pos rfl, h]; rfl⟩
    · rw [h] at q; cases q
  · rcases q with q | ⟨o', q⟩
    · exact .inl (by rw [lk_at e]; exact q)
    · exact .inr ⟨o', by rw [lk_at e]; exact q⟩
theorem rd_ul (h : A d = some (.frz od (.dK l))) : ∀ a o, PlO o → Rd A a o → Rd (ul d A) a o := fun a o po q => by
  by_cases e : a = d
  · subst e
    rcases q with q | ⟨o', q⟩
    · rw [h] at q; cases q
      rcases po with ⟨_, z⟩ | ⟨_, z⟩ | ⟨_, z⟩ <;> cases z
    · rw [h] at q; cases q
      exact .inl (by unfold ul; rw [if_pos rfl, h]; rfl)
  · rcases q with q | ⟨o', q⟩
    · exact .inl (by rw [ul_at e]; exact q)
    · exact .inr ⟨o', by rw [ul_at e]; exact q⟩
theorem Rep.lk {x : D} {v : V} (h : A d = some (.dK l)) (r : Rep K A x v) : Rep K (lk d od A) x v :=
  Rep.via (rd_lk h) (fun a xs q => by rw [lk_at (fun e => by rw [e, h] at q; cases q)]; exact q) (fun a C dx fs q => by rw [lk_at (fun e => by rw [e, h] at q; cases q)]; exact q) x v r
theorem Rep.ul {x : D} {v : V} (h : A d = some (.frz od (.dK l))) (r : Rep K A x v) : Rep K (ul d A) x v :=
  Rep.via (rd_ul h) (fun a xs q => by rw [ul_at (fun e => by rw [e, h] at q; cases q)]; exact q) (fun a C dx fs q => by rw [ul_at (fun e => by rw [e, h] at q; cases q)]; exact q) x v r
theorem Reps.lk {xs : List D} {vs : List V} (h : A d = some (.dK l)) (r : Reps K A xs vs) : Reps K (DL.lk d od A) xs vs :=
  Reps.via (rd_lk h) (fun a xs q => by rw [lk_at (fun e => by rw [e, h] at q; cases q)]; exact q) (fun a C dx fs q => by rw [lk_at (fun e => by rw [e, h] at q; cases q)]; exact q) xs vs r
theorem Reps.ul {xs : List D} {vs : List V} (h : A d = some (.frz od (.dK l))) (r : Reps K A xs vs) : Reps K (DL.ul d A) xs vs :=
  Reps.via (rd_ul h) (fun a xs q => by rw [ul_at (fun e => by rw [e, h] at q; cases q)]; exact q) (fun a C dx fs q => by rw [ul_at (fun e => by rw [e, h] at q; cases q)]; exact q) xs vs r
variable {H0 F0 F H : Hp} {ρ : R} {σ : St}
theorem SRep.lk {s : S} {v : V} (hF : F d = some (.dK l)) (h : SRep K H0 F H s v) : SRep K (DL.lk d od H0) (DL.lk d od F) (DL.lk d od H) s v := by
  cases s with
  | d x => exact Rep.lk hF h
  | ol xs =>
    obtain ⟨a, vs, e, h1, h2, n0, n1⟩ := h
    have ne : a ≠ d := fun z => by rw [z, hF] at n1; cases n1
    exact ⟨a, vs, e, by rw [lk_at ne]; exact h1, Reps.lk hF h2, lk_none.mpr n0, lk_none.mpr n1⟩
  | od kvs =>
    obtain ⟨a, vs, e, h1, hk, h2, n0, n1⟩ := h
    have ne : a ≠ d := fun z => by rw [z, hF] at n1; cases n1
    exact ⟨a, vs, e, by rw [lk_at ne]; exact h1, hk, Reps.lk hF h2, lk_none.mpr n0, lk_none.mpr n1⟩
  | oi N kvs =>
    obtain ⟨a, C, dx, vs, e, g, h1, hk, h2, n0, n1⟩ := h
    have ne : a ≠ d := fun z => by rw [z, hF] at n1; cases n1
    exact ⟨a, C, dx, vs, e, g, by rw [lk_at ne]; exact h1, hk, Reps.lk hF h2, lk_none.mpr n0, lk_none.mpr n1⟩
  | os b N kvs =>
    obtain ⟨e0, a, C, dx, vs, e, g, h1, hk, h2, n0, n1⟩ := h
    have ne : a ≠ d := fun z => by rw [z, hF] at n1; cases n1
    exact ⟨e0, a, C, dx, vs, e, g, by rw [lk_at ne]; exact h1, hk, Reps.lk hF h2, lk_none.mpr n0, lk_none.mpr n1⟩
theorem SRep.ul {s : S} {v : V} (hF : F d = some (.frz od (.dK l))) (h : SRep K H0 F H s v) : SRep K (DL.ul d H0) (DL.ul d F) (DL.ul d H) s v := by
  cases s with
  | d x => exact Rep.ul hF h
  | ol xs =>
    obtain ⟨a, vs, e, h1, h2, n0, n1⟩ := h
    have ne : a ≠ d := fun z => by rw [z, hF] at n1; cases n1
    exact ⟨a, vs, e, by rw [ul_at ne]; exact h1, Reps.ul hF h2, ul_none.mpr n0, ul_none.mpr n1⟩
  | od kvs =>
    obtain ⟨a, vs, e, h1, hk, h2, n0, n1⟩ := h
    have ne : a ≠ d := fun z => by rw [z, hF] at n1; cases n1
    exact ⟨a, vs, e, by rw [ul_at ne]; exact h1, hk, Reps.ul hF h2, ul_none.mpr n0, ul_none.mpr n1⟩
  | oi N kvs =>
    obtain ⟨a, C, dx, vs, e, g, h1, hk, h2, n0, n1⟩ := h
    have ne : a ≠ d := fun z => by rw [z, hF] at n1; cases n1
    exact ⟨a, C, dx, vs, e, g, by rw [ul_at ne]; exact h1, hk, Reps.ul hF h2, ul_none.mpr n0, ul_none.mpr n1⟩
  | os b N kvs =>
    obtain ⟨e0, a, C, dx, vs, e, g, h1, hk, h2, n0, n1⟩ := h
    have ne : a ≠ d := fun z => by rw [z, hF] at n1; cases n1
    exact ⟨e0, a, C, dx, vs, e, g, by rw [ul_at ne]; exact h1, hk, Reps.ul hF h2, ul_none.mpr n0, ul_none.mpr n1⟩
theorem Rel.lk (hF : F d = some (.dK l)) (r : Rel K H0 F0 F H ρ σ) : Rel K (DL.lk d od H0) (DL.lk d od F0) (DL.lk d od F) (DL.lk d od H) ρ σ :=
  ⟨Same.lk r.h, Same.lk r.f, Same.lk r.fh, fun a q => by
    rcases r.nw a (fun z => q (lk_none.mpr z)) with z | z
    · exact .inl fun y => z (lk_none.mp y)
    · exact .inr (lk_none.mpr z), r.len, fun i s q => by
    obtain ⟨v, e, sr⟩ := r.at_ i s q
    exact ⟨v, e, sr.lk hF⟩, r.ap⟩
theorem Rel.ul (hF : F d = some (.frz od (.dK l))) (r : Rel K H0 F0 F H ρ σ) : Rel K (DL.ul d H0) (DL.ul d F0) (DL.ul d F) (DL.ul d H) ρ σ :=
  ⟨Same.ul r.h, Same.ul r.f, Same.ul r.fh, fun a q => by
    rcases r.nw a (fun z => q (ul_none.mpr z)) with z | z
    · exact .inl fun y => z (ul_none.mp y)
    · exact .inr (ul_none.mpr z), r.len, fun i s q => by
    obtain ⟨v, e, sr⟩ := r.at_ i s q
    exact ⟨v, e, sr.ul hF⟩, r.ap⟩
end
def kD : Key → D
  | .inl i => .int i
  | .inr s => .str s
section
variable {K : PySem.W.Frag} {X : Cx} {Z : Zx} {pos : Pos}
def wForK (i : Nat) (wg : WG) (wb : WS) : WS := fun DD ρ => ∃ ks xs, nth ρ i = some (.d (.dic ks xs)) ∧ forD wg wb DD (ks.map kD) ρ
def wiKeys (i : Nat) : WA := fun ρ P => ∃ ks xs, nth ρ i = some (.d (.dic ks xs)) ∧ P (ks.map kD) ρ
section
variable {elt tg : Expr} {ifs : List Expr} {scope : Scope} {own : List (Str × Nat)} {g : TG} {wg : WG} {tt : TT} {wt : WT} {te : TE} {we : W}
end
end
end DL
namespace DL
open PySem L2
def pairD : D → Option (Key × D)
  | .tup [.int i, x] => some (.inl i, x)
  | .tup [.str s, x] => some (.inr s, x)
  | _ => none
def pairsD : List D → Option (List (Key × D))
  | [] => some []
  | d :: ds => match pairD d, pairsD ds with
    | some p, some ps => some (p :: ps)
    | _, _ => none
def mergeD (kvs more : List (Key × D)) : List (Key × D) := more.foldl (fun acc kv => vput acc kv.1 kv.2) kvs
section
variable {K : PySem.W.Frag} {X : Cx} {Z : Zx} {pos p : Pos} {a : Expr} {ta : TE} {wa : W}
theorem KRep.merge {F : Hp} : ∀ {more : List (Key × D)} {lm : List (Key × V)} {kvs : List (Key × D)} {l : List (Key × V)}, KRep K F more lm → KRep K F kvs l → KRep K F (mergeD kvs more) (mergeK l lm)
  | [], lm, kvs, l, hm, hk => by rw [hm.nil]; exact hk
  | q :: more, lm, kvs, l, hm, hk => by
    obtain ⟨r, l', rfl, e, rr, h'⟩ := hm.cons
    show KRep K F (mergeD (vput kvs q.1 q.2) more) (mergeK (putK l r.1 r.2) l')
    rw [e]
    exact KRep.merge h' (KRep.put rr hk)
def oDictP : OL := fun ds P => match ds with
  | [.lst xs] => asA (pairsD xs) fun kvs => P (.od (mergeD [] kvs))
  | _ => False
end
end DL
namespace DL
open PySem PySem.Spec PyProof.Rows L2
section
variable {P : Program} {w : World} {A : Around} {s : Shared}
theorem strsAre_at : ∀ {us : List Value} {ss : List Str}, us.length = ss.length → (∀ (j : Nat) (v : Value), us[j]? = some v → ∃ x t, ss[j]? = some x ∧ v = .str x t) → StrsAre us ss
  | [], [], _, _ => .nil
  | u :: us, q :: ss, hl, h => by
    obtain ⟨x, t, e1, rfl⟩ := h 0 u rfl
    have e1' : q = x := Option.some.inj e1
    subst e1'
    exact .cons _ t (strsAre_at (Nat.succ.inj hl) fun j v e => h (j + 1) v e)
  | [], _ :: _, hl, _ => nomatch hl
  | _ :: _, [], hl, _ => nomatch hl
theorem col_str {x : Str} {t : Tok} (hh : A.handled = none) (hx : x.length ≤ sizeLine) :
    ∀ (E' : Value → Shared → Prop) (Q' : List Value → Shared → Prop), (∀ s' vs ks', Later s s' → StrsAre vs ks' → ks'.Perm (signs x) → Q' vs s') → wpAny (model P w) A (collect (.str x t)) Q' E' s := fun E' Q' h =>
  wpAny_collect_str hh x t (hn := hx) fun s' acc k g d o it => h s' acc.toList (signs x) ⟨k, g, o⟩ (strsAre_at (by rw [Array.length_toList, it.1]; simp [signs]) fun j v e => by
    obtain ⟨c, u, e1, e2⟩ := it.2 j v (by rw [← Array.getElem?_toList]; exact e)
    have hc' : x.cps.toList[j]? = some c := by rw [Array.getElem?_toList]; exact e1
    exact ⟨⟨#[c]⟩, u, by simp [signs, hc'], e2⟩) (List.Perm.refl _)
end
section
variable {K : PySem.W.Frag} {w : World} {X : Cx} {Z : Zx} {pos p p2 : Pos} {a b c e : Expr} {ta tb tc te : TE} {wa wb wc we : W}
def rSortStr : List V → Hp → VK → Prop := fun vs H Q => ∃ x, vs = [.str x] ∧ x.length ≤ sizeLine ∧ ∀ ys p, ys.Perm (signs x) → sortedS ys = true → H p = none → Q (.ref p) (upd H p (.lst (ys.map V.str)))
theorem cr_sortStr (hc : X.calm = true) : CallR X (.builtin "sorted") rSortStr := by
  intro pins s σ H vs us Q I r h
  obtain ⟨x, rfl, hL, q⟩ := h
  obtain ⟨u, rfl, t, rfl⟩ := vals1 r
  have hL' : (signs x).length ≤ sizeLine := by
    have : (signs x).length = x.length := by simp [signs]; rfl
    rw [this]; exact hL
  refine sorted_by (ks := signs x) (col_str (show X.A.in1.handled = none from I.ok.hd hc) hL) hL' fun s1 s' p out c ys l1 la hp ho hS pm hs => ?_
  exact sorted_fin I l1 la hp ho hS (by rw [pm.length_eq]; exact hL') fun hn => q ys p pm hs hn
theorem CallR.or {f : Value} {r r' : List V → Hp → VK → Prop} (h : CallR X f r) (h' : CallR X f r') : CallR X f fun vs H Q => r vs H Q ∨ r' vs H Q := fun pins s σ H vs us Q I rr q => q.elim (fun z => h pins s σ H vs us Q I rr z) fun z => h' pins s σ H vs us Q I rr z
abbrev rSortXX (K : PySem.W.Frag) (w : World) : List V → Hp → VK → Prop := fun vs H Q => rSortX K w vs H Q ∨ rSortStr vs H Q
def oSortX : OL := fun ds P => match ds with
  | [.lst xs] => asA (txts xs) fun ss => ss.length ≤ sizeLine ∧ P (.ol ((srt ss).map .str))
  | [.str x] => x.length ≤ sizeLine ∧ P (.ol ((srt (signs x)).map .str))
  | _ => False
theorem snd_sortX : SndL K (rSortXX K w) oSortX := ⟨fun {F H ds vs P Q} fh r h k => by
  unfold oSortX at h
  split at h
  · exact .inl (snd_sort.run fh r h k)
  · obtain ⟨v, _, rfl, rfl, rfl⟩ := r
    exact .inr ⟨_, rfl, h.1, fun ys p pm hs n => by rw [srt_eq pm hs]; exact k.newL fh h.2 (Reps.strs.mpr rfl) n⟩
  · exact h.elim⟩
theorem de_sortX (hc : X.calm = true) (m : X.mg "sorted" = none) (ha : DE K X Z a ta wa) (hg : Gl X "sorted" := by rfl) (hs : starEach [a] X.env = [(false, eval a X.env)] := by rfl) (hK : X.K = K := by rfl) (hw : X.w = w := by rfl) : DE K X Z (.Call (.Name "sorted" p) [a] [] pos) (tCB (rSortXX K w) (tCons ta tNil)) (wCB oSortX (wCons wa wNil)) := by
  subst hK; subst hw
  exact de_callB (CallR.or (cr_sortX hc) (cr_sortStr hc)) snd_sortX hg m (by decide +kernel) (da_cons ha da_nil hs) (hn := by decide) (hdb := by decide) (he := hs) (hpl := rfl)
abbrev oPow : O2 := oI (fun i j => .int (i ^ j.toNat)) CPow
abbrev oBitAnd : O2 := oI0 fun i j => .int (Builtin.bitAnd i j)
theorem de_bitand (ha : DE K X Z a ta wa) (hb : DE K X Z b tb wb) : DE K X Z (.BinOp a .BitAnd b pos) (tOp (rI0 fun i j => .int (Builtin.bitAnd i j)) ta tb) (wOp oBitAnd wa wb) := de_op op_and (snd_I0 fun _ _ _ => rfl) ha hb
abbrev oShl : O2 := oI (fun i j => .int (i * 2 ^ j.toNat)) CPow
def oNeg : O1 := fun x P => asI x fun i => P (.d (.int (-i)))
theorem snd_neg : Snd1 K (rU fun i => .int (-i)) oNeg := ⟨fun {F H x vx P Q} fh rx h k => by
  obtain ⟨i, rfl, h⟩ := asI_of h rx
  exact ⟨i, rfl, k.flat (d := .int (-i)) fh h rfl⟩⟩
theorem de_neg (ha : DE K X Z a ta wa) : DE K X Z (.UnaryOp .USub a pos) (tUn (rU fun i => .int (-i)) ta) (wUn oNeg wa) := de_un un_neg snd_neg ha
def oInt : OL := fun ds P => match ds with
  | [.int i] => P (.d (.int i))
  | [.bl b] => P (.d (.int (if b then 1 else 0)))
  | [.str a] => a.length ≤ 640 ∧ asA (PySem.intText? a) fun n => P (.d (.int n))
  | _ => False
abbrev qInt : List V → Hp → VK → Prop := fun xs H Q => ((∃ i, xs = [.int i] ∧ Q (.int i) H) ∨ ∃ k, xs = [.bl k] ∧ Q (.int (if k then 1 else 0)) H) ∨ ∃ a n, xs = [.str a] ∧ PySem.intText? a = some n ∧ a.length ≤ 640 ∧ Q (.int n) H
theorem snd_int : SndL K qInt oInt := ⟨fun {F H ds vs P Q} fh r h k => by
  unfold oInt at h
  split at h
  · obtain ⟨v, _, rfl, rfl, rfl⟩ := r
    exact .inl (.inl ⟨_, rfl, k.flat (d := .int _) fh h rfl⟩)
  · obtain ⟨v, _, rfl, rfl, rfl⟩ := r
    exact .inl (.inr ⟨_, rfl, k.flat (d := .int _) fh h rfl⟩)
  · obtain ⟨v, _, rfl, rfl, rfl⟩ := r
    obtain ⟨n, e, h2⟩ := asA_of h.2
    exact .inr ⟨_, n, rfl, e, h.1, k.flat (d := .int _) fh h2 rfl⟩
  · exact h.elim⟩
theorem de_intC (m : X.mg "int" = none) (ha : DE K X Z a ta wa) (hg : Gl X "int" := by rfl) (hs : starEach [a] X.env = [(false, eval a X.env)] := by rfl) : DE K X Z (.Call (.Name "int" p) [a] [] pos) (tCB qInt (tCons ta tNil)) (wCB oInt (wCons wa wNil)) :=
  de_callTy (CallR.or call_int1 call_int_str) snd_int hg m (by decide +kernel) (da_cons ha da_nil hs) (hn := by decide) (hdb := by decide) (he := hs) (hpl := rfl)
def oStr : OL := fun ds P => match ds with
  | [.int i] => i.natAbs.log2 < 1920 ∧ P (.d (.str (toString i)))
  | _ => False
def oDivmod : OL := fun ds P => match ds with
  | [.int i, .int j] => CDivP i j ∧ P (.d (.tup [.int (i / j), .int (i % j)]))
  | _ => False
def isD : D → D → Option Bool
  | .non, .non => some true
  | _, .non => some false
  | .bl a, .bl b => some (decide (a = b))
  | _, _ => none
def oIs (neg : Bool) : O2 := fun x y P => asA (isD x y) fun b => P (.d (.bl (xor neg b)))
def wChain (o o' : O2) (wa wb wc : W) : W := fun ρ P => wa ρ fun x ρ1 => wb ρ1 fun y ρ2 => o x.fz y.fz fun s => asB s.fz fun c => if c = true then wc ρ2 fun z ρ3 => o' y.fz z.fz fun s => P s ρ3 else P (.d (.bl false)) ρ2
def frzR (ρ : R) (i : Nat) : R := match nth ρ i with
  | some (.d _) => ρ
  | some s => put ρ i (some (.d s.fz))
  | none => ρ
theorem Rel.frz {H0 F0 F H : Hp} {ρ : R} {σ : L2.St} (r : Rel K H0 F0 F H ρ σ) (i : Nat) : ∃ F', Same F F' ∧ Rel K H0 F0 F' H (frzR ρ i) σ := by
  unfold frzR
  split
  · exact ⟨F, Same.refl _, r⟩
  · rename_i s hs e
    have w : s.own = true := by
      cases s with
      | d x => exact absurd rfl (hs x)
      | ol _ => rfl
      | od _ => rfl
      | oi _ _ => rfl
      | os _ _ _ => rfl
    obtain ⟨v, F', e1, ff, r', rp⟩ := r.own_slot (nth_some e) w
    rw [put_eq]
    exact ⟨F', ff, r'⟩
  · exact ⟨F, Same.refl _, r⟩
def wFz (i : Nat) (w : WS) : WS := fun DD ρ => w DD (frzR ρ i)
def wFzE (i : Nat) (w : W) : W := fun ρ P => w (frzR ρ i) P
def wLSet (i : Nat) (wk wv : W) : WS := fun DD ρ => wv ρ fun v ρ1 => asOL (nth ρ1 i) fun _ => wk ρ1 fun k ρ2 => asOL (nth ρ2 i) fun xs => asI k.fz fun k => asA (ixN xs.length k) fun j => DD.nx (put ρ2 i (some (.ol (xs.set j v.fz))))
theorem run_lset {i : Nat} {tk tv : TE} {wk wv : W} (hk : RunE K Z tk wk) (hv : RunE K Z tv wv) : RunS K Z (tAsg tv (gSub (tVar i) tk rSetL)) (wLSet i wk wv) := fun {H0 F0 F H ρ σ DD Dh} zo rl ee h => hv zo rl h fun s1 ρ1 F1 H1 v1 h1 f1 r1 sr1 fr1 => by
  obtain ⟨F2, f2, r2, rp2⟩ := r1.freeze sr1 fr1
  obtain ⟨xs0, e0, h1⟩ := asOL_of h1
  obtain ⟨v, ev, a, vs, rfl, hl, _⟩ := r2.at_ i _ (nth_some e0)
  refine ⟨.ref a, ev, hk zo r2 h1 fun s3 ρ3 F3 H3 v3 h3 f3 r3 sr3 fr3 => ?_⟩
  obtain ⟨F4, f4, r4, rp4⟩ := r3.freeze sr3 fr3
  obtain ⟨xs, e1, h3⟩ := asOL_of h3
  obtain ⟨z, rfl, h3⟩ := asI_of h3 rp4
  obtain ⟨j, ej, h3⟩ := asA_of h3
  obtain ⟨v2, ev2, a2, vs2, rfl, hl2, rx, n0, n1⟩ := r4.at_ i _ (nth_some e1)
  rw [ev] at ev2; cases ev2
  rw [put_eq] at h3
  refine ⟨a, vs2, z, j, rfl, rfl, hl2, by rw [rx.len]; exact ej, ee.nx _ _ _ _ h3 (f1.trans (f2.trans (f3.trans f4))) (r4.write (nth_some e1) rfl ev ⟨a, _, rfl, upd_same, rx.set j (Rep.mono (f3.trans f4) _ _ rp2), n0, n1⟩ rfl)⟩
theorem ds_lset {tk tv : TE} {wk wv : W} {k value : Expr} {x : Str} {pos' : Pos} (i : Nat) (hk : DE K X Z k tk wk) (hv : DE K X Z value tv wv) (hN : X.N[i]? = some x := by rfl) (hvi : Vis X.env.scope x := by first | exact Or.inl rfl | exact Or.inr (Or.inl rfl) | exact Or.inr (Or.inr rfl)) (hd : (x == ("__debug__" : Str)) = false := by decide)
    (hcd : (x == ("__classdict__" : Str)) = false := by decide)
    (ha : ∀ v, assign (.Subscript (.Name x p) k pos') X.env v = (do
      let ov ← holding [v] (eval (.Name x p) X.env)
      let iv ← holding [v, ov] (eval k X.env)
      standAt pos'
      holding [v, ov, iv] (setItem ov iv v)
      release [v, ov, iv] []) := by intro _; rfl) (hs : swapsWithSole [.Subscript (.Name x p) k pos'] value pos.line X.env = pure false := by rfl) (hw : swappedStores [.Subscript (.Name x p) k pos'] value X.env = pure none := by rfl)
    (h1 : (assignEach [.Subscript (.Name x p) k pos'] X.env).map (·.2) = [assign (.Subscript (.Name x p) k pos') X.env] := by rfl) :
    DS K X Z (.Assign [.Subscript (.Name x p) k pos'] value pos) (tAsg tv (gSub (tVar i) tk rSetL)) (wLSet i wk wv) := ⟨ps_asg hv.pe (pg_sub (pe_var hN hvi hd hcd) hk.pe set_list ha) hs hw h1, run_lset hk.run hv.run⟩
end
end DL
namespace DL
open PySem L2
inductive Src where
  | l (a : Addr) | t (a : Addr) | s (x : Str)
def Src.v : Src → V
  | .l a => .ref a
  | .t a => .ref a
  | .s x => .str x
def Src.items (K : PySem.W.Frag) (H : Hp) (xs : List V) : Src → Prop
  | .l a => SqL K H a xs
  | .t a => SqT K H a xs
  | .s x => xs = (signs x).map V.str
def Src.fp : Src → List Addr
  | .l a => [a]
  | .t a => [a]
  | .s _ => []
def Src.st (h : Heap) (it : Addr) (i : Nat) : Src → Prop
  | .l a => h.IsListIter it a i
  | .t a => h.IsTupleIter it a i
  | .s x => ∃ t, h.IsStrIter it (strIterType x) x t i
def Src.obj (u : Value) : Src → Obj
  | .l _ => { cls := .type "list_iterator", data := .fields #[u, .int 0 0] }
  | .t _ => { cls := .type "tuple_iterator", data := .fields #[u, .int 0 0] }
  | .s x => { cls := .type (strIterType x), data := .fields #[u, .int 0 0] }
def seqsD (d : D) (P : List D → Prop) : Prop := match d with
  | .cel ns => P (ns.map .int)
  | .lst xs => P xs
  | .tup xs => P xs
  | .str z => P ((signs z).map .str)
  | _ => False
def zipD (xs ys : List D) : List D := (xs.zip ys).map fun p => .tup [p.1, p.2]
def wiZip (wa : WA) : WA := fun ρ P => wa ρ fun ds ρ1 => match ds with
  | [x, y] => seqsD x fun xs => seqsD y fun ys => P (zipD xs ys) ρ1
  | _ => False
section
variable {K : PySem.W.Frag} {X : Cx} {Z : Zx} {pos p : Pos} {a b : Expr} {wa : WA} {ta : TA}
end
def itemsD (ks : List Key) (xs : List D) : List D := (ks.zip xs).map fun p => .tup [kD p.1, p.2]
end DL
namespace DL
open PySem L2
theorem FnOk.nothing {P : Program} {w : World} {K : PySem.W.Frag} {mg : Str → Option Value} {base : Heap} {CX : CXT} {k : Nat} {f : Addr} {fd : FuncData} {ps : List Str} :
    FnOk P w K mg base CX k f fd ps (spD K fun _ _ _ => False) :=
  ⟨fun vs H Q E h => by obtain ⟨_, _, _, _, _, _, h, _⟩ := h; exact h.elim, fun A outer s H args us vs Q E _ _ _ _ h => by obtain ⟨_, _, _, _, _, _, h, _⟩ := h; exact h.elim⟩
end DL
namespace DL
open PySem L2
section
variable {K : PySem.W.Frag} {X : Cx} {Z : Zx}
def wiVals (i : Nat) : WA := fun ρ P => ∃ ks xs, nth ρ i = some (.d (.dic ks xs)) ∧ P xs ρ
def wiItems (i : Nat) : WA := fun ρ P => ∃ ks xs, nth ρ i = some (.d (.dic ks xs)) ∧ P (itemsD ks xs) ρ
section
variable {tg : Expr} {body : List Stmt} {g : TG} {wg : WG} {tb : TS} {wb : WS} {py apos cpos : Pos}
end
section
variable {elt tg : Expr} {ifs : List Expr} {scope : Scope} {own : List (Str × Nat)} {g : TG} {wg : WG} {tt : TT} {wt : WT} {te : TE} {we : W} {px apos cpos : Pos}
end
end
end DL
namespace DL
open PySem L2
section
variable {K : PySem.W.Frag} {X : Cx} {Z : Zx} {pos p : Pos} {e : Expr} {te : TE} {we : W}
def wOIx (i : Nat) (wk : W) : W := fun ρ P => (nth ρ i).isSome = true ∧ wk ρ fun k ρ1 => match nth ρ1 i with
  | some (.ol xs) => asI k.fz fun j => asA (atI xs j) fun d => P (.d d) ρ1
  | some (.od kvs) => asKey k.fz fun key => asA (vget kvs key) fun d => P (.d d) ρ1
  | some (.d x) => oIxX x k.fz fun s => P s ρ1
  | _ => False
theorem run_oix {i : Nat} {tk : TE} {wk : W} (hk : RunE K Z tk wk) : RunE K Z (tOp (rIxX K) (tVar i) tk) (wOIx i wk) := fun {H0 F0 F H ρ σ Q P} zo rl h k => by
  obtain ⟨h0, h⟩ := h
  obtain ⟨s0, e0⟩ := Option.isSome_iff_exists.mp h0
  obtain ⟨v, ev, _⟩ := rl.at_ i _ (nth_some e0)
  refine ⟨v, ev, hk zo rl h fun s3 ρ3 F3 H3 v3 h3 f3 r3 sr3 fr3 => ?_⟩
  obtain ⟨F4, f4, r4, rp4⟩ := r3.freeze sr3 fr3
  split at h3
  · rename_i xs e1
    obtain ⟨j, ej, h3⟩ := asI_of h3 rp4
    subst ej
    obtain ⟨d, e, h3⟩ := asA_of h3
    obtain ⟨v', ev', a, vs, rfl, hl, rr, n0, n1⟩ := r4.at_ i _ (nth_some e1)
    rw [ev] at ev'; cases ev'
    obtain ⟨u, e', r⟩ := at_reps rr e
    exact .inl (.inl ⟨a, vs, j, u, rfl, rfl, .inl (.inl hl), e', k (.d d) _ F4 _ _ h3 (f3.trans f4) r4 r fun w => nomatch w⟩)
  · rename_i kvs e1
    obtain ⟨key, rfl, h3⟩ := asKey_of h3 rp4
    obtain ⟨d, e, h3⟩ := asA_of h3
    obtain ⟨a', l, ev', hd, kr, n0, n1⟩ := r4.dict e1
    rw [ev] at ev'; cases ev'
    rcases kr.get (k := key) with ⟨d', u, g1, g2, g3⟩ | ⟨g1, g2⟩
    · rw [e] at g1; cases g1
      exact .inr ⟨a', u, rfl, .inl ⟨l, key, .inl hd, rfl, g2.symm⟩, k (.d d) _ F4 _ _ h3 (f3.trans f4) r4 g3 fun w => nomatch w⟩
    · rw [e] at g1; cases g1
  · rename_i x e1
    obtain ⟨v', ev', rx⟩ := r4.at_ i _ (nth_some e1)
    rw [ev] at ev'; cases ev'
    exact snd_ixX.run r4.fh rx rp4 h3 (r4.kont (f3.trans f4) k)
  · exact h3.elim
theorem de_oix (i : Nat) {x : Str} {k : Expr} {tk : TE} {wk : W} {px : Pos} (hu : X.A.units + 64 < cLine) (hk : DE K X Z k tk wk) (hN : X.N[i]? = some x := by rfl) (hv : Vis X.env.scope x := by first | exact Or.inl rfl | exact Or.inr (Or.inl rfl) | exact Or.inr (Or.inr rfl)) (hd : (x == ("__debug__" : Str)) = false := by decide)
    (hcd : (x == ("__classdict__" : Str)) = false := by decide) (hs : PlainIx k := by exact fun _ _ => rfl) (hK : X.K = K := by rfl) : DE K X Z (.Subscript (.Name x px) k pos) (tOp (rIxX K) (tVar i) tk) (wOIx i wk) := by
  subst hK
  exact ⟨pe_ix (ix_X (units1 hu)) (pe_var hN hv hd hcd) hk.pe hs, run_oix hk.run⟩
def wNo : WS := fun _ _ => False
abbrev oMulX : O2 := oI (fun i j => .int (i * j)) CMulX
end
end DL
namespace DL
open PySem L2
section
variable {K : PySem.W.Frag} {X : Cx} {Z : Zx} {pos p apos : Pos} {CX : CXT} {k : Nat}
def asIns (d : D) (P : Str → List (Str × D) → Prop) : Prop := match d with
  | .ins N ns xs => P N (ns.zip xs)
  | _ => False
theorem asIns_of {F : Hp} {d : D} {v : V} {P : Str → List (Str × D) → Prop} (h : asIns d P) (r : Rep K F d v) : ∃ a N C dx kvs l, v = .ref a ∧ PySem.W.nsIn K mainGlobals N = some (some (.ref C)) ∧ F a = some (.ins C dx l) ∧ (l.map (·.1) = kvs.map (·.1) ∧ Reps K F (kvs.map (·.2)) (l.map (·.2))) ∧ P N kvs := by
  cases d <;> first | exact h.elim | skip
  rename_i N ns xs
  obtain ⟨a, C, dx, vs, rfl, g, h1, hl, rr⟩ := r
  have hx : ns.length = xs.length := by rw [hl]; exact rr.len
  have e1 : (ns.zip vs).map (·.1) = ns := List.map_fst_zip (by omega)
  have e2 : (ns.zip vs).map (·.2) = vs := List.map_snd_zip (by omega)
  have e3 : (ns.zip xs).map (·.1) = ns := List.map_fst_zip (by omega)
  have e4 : (ns.zip xs).map (·.2) = xs := List.map_snd_zip (by omega)
  exact ⟨a, N, C, dx, ns.zip xs, ns.zip vs, rfl, g, h1, ⟨by rw [e1, e3], by rw [e2, e4]; exact rr⟩, h⟩
def fget {β : Type} (kvs : List (Str × β)) (f : Str) : Option β := kvs.lookup f
theorem look_reps {F : Hp} {f : Str} : ∀ {kvs : List (Str × D)} {l : List (Str × V)}, l.map (·.1) = kvs.map (·.1) → Reps K F (kvs.map (·.2)) (l.map (·.2)) → (∀ d, fget kvs f = some d → ∃ v, l.lookup f = some v ∧ Rep K F d v) ∧ (fget kvs f = none → l.lookup f = none)
  | [], l, h, _ => by
    have : l = [] := by cases l with | nil => rfl | cons q l => cases h
    subst this
    exact ⟨fun d e => (by cases e), fun _ => rfl⟩
  | q :: kvs, [], h, _ => by cases h
  | q :: kvs, r :: l, h, rr => by
    rw [List.map_cons, List.map_cons, List.cons.injEq] at h
    obtain ⟨v, vs, e, r1, r2⟩ := rr
    rw [List.map_cons, List.cons.injEq] at e
    obtain ⟨ev, evs⟩ := e
    have ih := look_reps (f := f) h.2 (by rw [evs]; exact r2)
    unfold fget at ih ⊢
    obtain ⟨qk, qd⟩ := q
    obtain ⟨rk, rv⟩ := r
    have h1 : rk = qk := h.1
    subst h1
    have ev' : rv = v := ev
    subst ev'
    simp only [List.lookup]
    cases hb : (f == rk) with
    | true => exact ⟨fun d e => ⟨rv, rfl, by cases e; exact r1⟩, fun e => by cases e⟩
    | false => exact ih
def FldOk (K : PySem.W.Frag) (N f : Str) : Prop := ∀ C, PySem.W.nsIn K mainGlobals N = some (some (.ref C)) → Cls K C ∧ NoAttr K C f
def wFld (Ns : List Str) (f : Str) (we : W) : W := fun ρ P => we ρ fun s ρ1 => asIns s.fz fun N kvs => N ∈ Ns ∧ asA (fget kvs f) fun d => P (.d d) ρ1
theorem run_fld {te : TE} {we : W} {Ns : List Str} {f : Str} (he : RunE K Z te we) (hf : ∀ N ∈ Ns, FldOk K N f) : RunE K Z (tFld K te f) (wFld Ns f we) := fun {H0 F0 F H ρ σ Q P} zo rl h k => he zo rl h fun s1 ρ1 F1 H1 v1 h1 f1 r1 sr1 fr1 => by
  obtain ⟨F2, f2, r2, rp2⟩ := r1.freeze sr1 fr1
  obtain ⟨a, N, C, dx, kvs, l, rfl, g, e, ⟨q1, q2⟩, hN, h1⟩ := asIns_of h1 rp2
  obtain ⟨d, ed, h1⟩ := asA_of h1
  obtain ⟨v, ev, rv⟩ := (look_reps q1 q2).1 d ed
  obtain ⟨c1, c2⟩ := hf N hN C g
  exact ⟨a, C, dx, l, v, rfl, r2.fh _ _ e, c1, c2, ev, k (.d d) _ F2 _ _ h1 (f1.trans f2) r2 rv fun w => nomatch w⟩
theorem de_fld {e : Expr} {te : TE} {we : W} {Ns : List Str} {f : Str} (he : DE K X Z e te we) (hf : ∀ N ∈ Ns, FldOk K N f) (hb : attributeBase e f X.env (eval e X.env) = eval e X.env := by rfl) (hK : X.K = K := by rfl) : DE K X Z (.Attribute e f pos) (tFld K te f) (wFld Ns f we) := by
  subst hK
  exact ⟨pe_fld he.pe hb, run_fld he.run hf⟩
def MethAt (P : Program) (w : World) (K : PySem.W.Frag) (mg : Str → Option Value) (base : Heap) (CX : CXT) (k : Nat) (m : Str) (C : Addr) (sp : DSp) : Prop := Cls K C ∧ ∃ g fd ps k', k' ≤ k ∧ Meth K C m g ∧ FnOk P w K mg base CX k' g fd ps (spD K sp) ∧ Binds K fd ps []
def MethOk (P : Program) (w : World) (K : PySem.W.Frag) (mg : Str → Option Value) (base : Heap) (CX : CXT) (k : Nat) (m : Str) (N : Str) (sp : DSp) : Prop := ∀ C, PySem.W.nsIn K mainGlobals N = some (some (.ref C)) → MethAt P w K mg base CX k m C sp
theorem MethOk.of {P : Program} {w : World} {K : PySem.W.Frag} {mg : Str → Option Value} {base : Heap} {CX : CXT} {k k' : Nat} {m N : Str} {sp : DSp} {C g : Addr} {fd : FuncData} {ps : List Str} (aC : PySem.W.nsIn K mainGlobals N = some (some (.ref C))) (c : Cls K C) (hm : Meth K C m g)
    (F : FnOk P w K mg base CX k' g fd ps (spD K sp)) (hb : Binds K fd ps []) (hk : k' ≤ k) : MethOk P w K mg base CX k m N sp := fun C' h => by rw [aC] at h; cases h; exact ⟨c, g, fd, ps, k', hk, hm, F, hb⟩
theorem FldOk.of {K : PySem.W.Frag} {N f : Str} {C : Addr} (aC : PySem.W.nsIn K mainGlobals N = some (some (.ref C))) (c : Cls K C) (n : NoAttr K C f) : FldOk K N f := fun C' h => by rw [aC] at h; cases h; exact ⟨c, n⟩
def tMethD (P : Program) (w : World) (K : PySem.W.Frag) (mg : Str → Option Value) (base : Heap) (CX : CXT) (k : Nat) (m : Str) (E : XK) (ta : TE) (t : TA) : TE := fun σ H Q => ta σ H fun x H1 => ∃ a C dx fs, ∃ sp : DSp, x = .ref a ∧ H1 a = some (.ins C dx fs) ∧ MethAt P w K mg base CX k m C sp ∧ fs.lookup m = none ∧
  t σ H1 fun vs H2 => spD K sp (x :: vs) H2 Q E
theorem pe_methD0 {o : Expr} {m : Str} {ta : TE} {E : XK} {pl : Sem Bool} (he : PE X o ta) (hr : Room k X.A) (hx : Passes CX X E)
    (ht : eval (.Call (.Attribute o m apos) [] [] pos) X.env = (do
      let ov ← eval o X.env
      standAt apos.atName
      let (f, first) ← holding [ov] (getMethod ov m pl)
      callWith pos f first (backTo pos (starEach [] X.env)) (backToKw pos (keywordEach [] X.env))) := by rfl) :
    PE X (.Call (.Attribute o m apos) [] [] pos) (tMethD X.prog X.w X.K X.mg X.base CX k m E ta tNil) := by
  refine ⟨fun pins s σ H Q I h => ?_⟩
  refine PySem.W.methodCall_KW (pl := pl) (thn (he.run pins s σ H _ I h) fun u s1 ⟨x, H1, I1, rx, a, C, dx, fs, sp, ex, ea, ⟨c, g, fd, ps, k', hk, hm, F, hb⟩, l, q⟩ => ?_) ht
  subst ex
  obtain rfl : u = Value.ref a := rx
  refine getmeth_ok I1 ea c hm l ?_
  exact PySem.W.callWith_K0 (first := [.ref a]) I1.kIn hm.kp (run_fn (us := [.ref a]) (vs := [.ref a]) F (hr.mono hk) hb .nil hx I1 (.cons rfl .nil) q)
def tget {β : Type} (Tb : List (Str × β)) (N : Str) : Option β := Tb.lookup N
theorem tget_mem {β : Type} {Tb : List (Str × β)} {N : Str} {b : β} (h : tget Tb N = some b) : (N, b) ∈ Tb := by
  unfold tget at h
  induction Tb with
  | nil => cases h
  | cons q Tb ih =>
    obtain ⟨qk, qd⟩ := q
    simp only [List.lookup] at h
    cases hb : (N == qk) with
    | true =>
      rw [hb] at h
      cases h
      rw [beq_iff_eq.mp hb]
      exact List.mem_cons_self
    | false => rw [hb] at h; exact List.mem_cons_of_mem _ (ih h)
def wMeth (Tb : List (Str × DSp)) (m : Str) (px : PX) (wo : W) (wa : WA) : W := fun ρ P => wo ρ fun s ρ1 => asIns s.fz fun N kvs => fget kvs m = none ∧ asA (tget Tb N) fun sp => wa ρ1 fun ds ρ2 => sp (s.fz :: ds) (fun r => P r ρ2) px
theorem run_meth {P : Program} {w : World} {mg : Str → Option Value} {base : Heap} {ta : TE} {t : TA} {wo : W} {wa : WA} {Tb : List (Str × DSp)} {m : Str} (ho : RunE K Z ta wo) (ha : RunA K Z t wa) (hT : ∀ q ∈ Tb, MethOk P w K mg base CX k m q.1 q.2) : RunE K Z (tMethD P w K mg base CX k m Z.E ta t) (wMeth Tb m Z.P wo wa) := fun {H0 F0 F H ρ σ Q P} zo rl h kq => ho zo rl h fun s1 ρ1 F1 H1 v1 h1 f1 r1 sr1 fr1 => by
  obtain ⟨F2, f2, r2, rp2⟩ := r1.freeze sr1 fr1
  obtain ⟨a, N, C, dx, kvs, l, rfl, g, e, ⟨q1, q2⟩, hm, h1⟩ := asIns_of h1 rp2
  obtain ⟨sp, es, h1⟩ := asA_of h1
  refine ⟨a, C, dx, l, sp, rfl, r2.fh _ _ e, hT _ (tget_mem es) C g, (look_reps q1 q2).2 hm, ha zo r2 h1 fun ds ρ3 F3 H3 vs h3 f3 r3 rps => ?_⟩
  exact ⟨F3, s1.fz :: ds, _, Z.P, r3.fh, ⟨_, _, rfl, Rep.mono f3 _ _ rp2, rps⟩, h3, r3.kont (f1.trans (f2.trans f3)) kq, zo.on r3.h r3.f r3.nw⟩
theorem de_meth0 {P : Program} {w : World} {mg : Str → Option Value} {base : Heap} {o : Expr} {m : Str} {ta : TE} {wo : W} {Tb : List (Str × DSp)} {pl : Sem Bool} (ho : DE K X Z o ta wo) (hT : ∀ q ∈ Tb, MethOk P w K mg base CX k m q.1 q.2) (hr : Room k X.A) (hx : Passes CX X Z.E)
    (ht : eval (.Call (.Attribute o m apos) [] [] pos) X.env = (do
      let ov ← eval o X.env
      standAt apos.atName
      let (f, first) ← holding [ov] (getMethod ov m pl)
      callWith pos f first (backTo pos (starEach [] X.env)) (backToKw pos (keywordEach [] X.env))) := by rfl) (hK : X.K = K := by rfl) (hP : X.prog = P := by rfl) (hw : X.w = w := by rfl) (hmg : X.mg = mg := by rfl) (hba : X.base = base := by rfl) :
    DE K X Z (.Call (.Attribute o m apos) [] [] pos) (tMethD P w K mg base CX k m Z.E ta tNil) (wMeth Tb m Z.P wo wNil) := by
  subst hK hP hw hmg hba
  exact ⟨pe_methD0 ho.pe hr hx ht, run_meth ho.run (da_nil (X := X) (Z := Z)).run hT⟩
theorem Kont.newI {H F : Hp} {P : S → Prop} {Q : VK} {N : Str} {C x dx : Addr} {kvs : List (Str × D)} {l : List (Str × V)} (k : Kont K H F P Q) (fh : Same F H) (h : P (.oi N kvs)) (g : PySem.W.nsIn K mainGlobals N = some (some (.ref C))) (q1 : l.map (·.1) = kvs.map (·.1)) (q2 : Reps K F (kvs.map (·.2)) (l.map (·.2)))
    (nx : H x = none) (nd : H dx = none) (ne : dx ≠ x) : Q (.ref x) (upd (upd H dx (.own x)) x (.ins C dx l)) := by
  have s1 : Same H (upd H dx (.own x)) := Same.new nd
  have n2 : (upd H dx (.own x)) x = none := by rw [upd_ne ne.symm]; exact nx
  have s2 : Same H (upd (upd H dx (.own x)) x (.ins C dx l)) := s1.trans (Same.new n2)
  exact k (.oi N kvs) _ F _ h s2 (Same.refl F) (fh.trans s2) (fun a q => .inl q) ⟨x, C, dx, l, rfl, g, upd_same, q1, q2, nx, fh.free nx⟩
def spI (C : Addr) (fs : List Str) : Sp := fun vs H Q _ => ∃ (p dx : Addr) (xs : List V), vs = .ref p :: xs ∧ xs.length = fs.length ∧ H p = some (.ins C dx []) ∧ Q .non (upd H p (.ins C dx (fs.zip xs)))
def wMk (N : Str) (fs : List Str) (wa : WA) : W := fun ρ P => wa ρ fun ds ρ1 => ds.length = fs.length ∧ P (.oi N (fs.zip ds)) ρ1
theorem upd_upd {H : Hp} {x : Addr} {u v : HO} : upd (upd H x u) x v = upd H x v := by
  funext b
  by_cases e : b = x
  · subst e; rw [upd_same, upd_same]
  · rw [upd_ne e, upd_ne e, upd_ne e]
theorem run_mk {C : Addr} {N : Str} {fs : List Str} {t : TA} {wa : WA} {E : XK} (ha : RunA K Z t wa) (g : PySem.W.nsIn K mainGlobals N = some (some (.ref C))) : RunE K Z (tMake C (spI C fs) [] E t) (wMk N fs wa) := fun {H0 F0 F H ρ σ Q P} zo rl h kq => ha zo rl h fun ds ρ1 F1 H1 vs h1 f1 r1 rps => by
  obtain ⟨hl, h1⟩ := h1
  intro x dx nx nd ne
  rw [List.append_nil]
  have l2 := rps.len
  refine ⟨x, dx, vs, rfl, by omega, upd_same, rfl, ?_⟩
  rw [upd_upd]
  have e1 : (fs.zip vs).map (·.1) = fs := List.map_fst_zip (by omega)
  have e2 : (fs.zip vs).map (·.2) = vs := List.map_snd_zip (by omega)
  have e3 : (fs.zip ds).map (·.1) = fs := List.map_fst_zip (by omega)
  have e4 : (fs.zip ds).map (·.2) = ds := List.map_snd_zip (by omega)
  exact (r1.kont f1 kq).newI r1.fh h1 g (by rw [e1, e3]) (by rw [e2, e4]; exact rps) nx nd ne
theorem de_mk {C f : Addr} {fd : FuncData} {ps : List Str} {N x : Str} {fs : List Str} {e : Expr} {es : List Expr} {t : TA} {wa : WA} {E : XK} (g : PySem.W.nsIn K mainGlobals N = some (some (.ref C))) (M : Mk X.K C f) (F : FnOk X.prog X.w X.K X.mg X.base CX k f fd ps (spI C fs)) (hr : Room (k + 1) X.A) (hm : X.mg x = some (.ref C)) (hb : Binds X.K fd ps []) (hx : Passes CX X E)
    (ha : DA K X Z (e :: es) t wa) (hg : Gl X x := by rfl) (hdb : (x == ("__debug__" : Str)) = false := by decide) (he : starEach (e :: es) X.env = (false, eval e X.env) :: starEach es X.env := by rfl) (hpl : (backTo pos (starEach es X.env)).any (·.1) = false := by rfl) :
    DE K X Z (.Call (.Name x p) (e :: es) [] pos) (tMake C (spI C fs) [] E t) (wMk N fs wa) := ⟨pe_make M F hr hg hm hb .nil hx ha.pe (hdb := hdb) (he := he) (hpl := hpl), run_mk ha.run g⟩
structure Bare (K : PySem.W.Frag) (C : Addr) : Prop where
  makes : PySem.W.makesIn K C = true
  init : PySem.W.findIn K (.ref C) "__init__" = some (some (.builtin "object.__init__"))
  top : PySem.W.mroIn K C (.type "object") = some true
  kp : PySem.W.keepIn K (.ref C) = true
def tBare (C : Addr) : TE := fun _ H Q => ∀ x dx, H x = none → H dx = none → dx ≠ x → Q (.ref x) (upd (upd H dx (.own x)) x (.ins C dx []))
open PySem.W in
theorem code_oi {P : Program} {w : World} {A : Around} {K : PySem.W.Frag} {C y : Addr} {o : Obj} {s : Shared} {R : Result → Shared → Prop} (X : K.In s.heap) (ho : s.heap.get? y = some o) (hc : o.cls = .ref C) (top : PySem.W.mroIn K C (.type "object") = some true)
    (q : R (.ok (.ret .none)) s) : codeAny (model P w) A (.call (.builtin "object.__init__") ⟨[.ref y], []⟩) R s := by
  have t1 : Looks (model P w) s.heap (typeOf (.ref y)) (.ref C) := NwA.type_at ho hc
  have t2 : Looks (model P w) s.heap (isInstance (.ref y) (.type "object")) true := t1.andThen (looks_mroIn X top)
  refine codeAny_call_builtin oi_plain entry_oi (@check_slot (model P w) _ _ _ "object.__init__" "object" "__init__" (.ref y) [] [] _ oi_kind oi_split t2 (NwA.oi_args_any (.ref y) [] []) ?_)
  obtain ⟨hh, g, d, t, os⟩ := s
  rw [oi_run]
  exact wpAny_pure q
theorem pe_bare {C : Addr} {x : Str} (M : Bare X.K C) (hr : Room (k + 1) X.A) (hg : Gl X x) (hm : X.mg x = some (.ref C)) (hdb : (x == ("__debug__" : Str)) = false := by decide) : PE X (.Call (.Name x p) [] [] pos) (tBare C) := by
  refine ⟨fun pins s σ H Q I h => ?_⟩
  refine wpAny_Call_Name_kw (ld_glob I hg hm ?_ hdb)
  refine PySem.W.callWith_K0 I.kIn M.kp ?_
  have hq := h (s.heap.objs.size + 1) s.heap.objs.size (I.hok.fresh (Nat.le_succ _)) (I.hok.fresh (Nat.le_refl _)) (Nat.ne_of_lt (Nat.lt_succ_self _))
  have I2 := Inv.made (C := C) I
  have ho : ((s.heap.push PySem.W.emptyDict).push (PySem.W.instObj C s.heap.objs.size)).get? (s.heap.objs.size + 1) = some (PySem.W.instObj C s.heap.objs.size) := by
    have := Heap.get?_push_size (s.heap.push PySem.W.emptyDict) (o := PySem.W.instObj C s.heap.objs.size) rfl
    rwa [Heap.size_push] at this
  exact wpAny_call (make_map0 I.kIn M.makes M.init (fun self => PySem.W.Looks.of_pure (PySem.W.oi_bind _)) (code_oi I2.kIn ho rfl M.top ⟨rfl, .ref (s.heap.objs.size + 1), _, I2, rfl, hq⟩))
theorem putF_two {f1 f2 : Str} {x y : V} (h : f1 ≠ f2) : putF f2 y (putF f1 x []) = [(f1, x), (f2, y)] := by
  show (if f1 = f2 then _ else (f1, x) :: putF f2 y []) = _
  rw [if_neg h]; rfl
theorem two_of {xs : List V} (h : xs.length = 2) : ∃ x y, xs = [x, y] := by
  match xs, h with
  | [x, y], _ => exact ⟨x, y, rfl⟩
def wBare (N : Str) : W := fun ρ P => P (.oi N []) ρ
theorem run_bare {C : Addr} {N : Str} (g : PySem.W.nsIn K mainGlobals N = some (some (.ref C))) : RunE K Z (tBare C) (wBare N) := fun {H0 F0 F H ρ σ Q P} zo rl h kq => by
  intro x dx nx nd ne
  exact (rl.kont (Same.refl F) kq).newI rl.fh h g rfl rfl nx nd ne
theorem de_bare {C : Addr} {N x : Str} (g : PySem.W.nsIn K mainGlobals N = some (some (.ref C))) (M : Bare X.K C) (hr : Room (k + 1) X.A) (hm : X.mg x = some (.ref C)) (hg : Gl X x := by rfl) (hdb : (x == ("__debug__" : Str)) = false := by decide) : DE K X Z (.Call (.Name x p) [] [] pos) (tBare C) (wBare N) := ⟨pe_bare M hr hg hm hdb, run_bare g⟩
end
end DL
namespace DL
open PySem L2
section
variable {K : PySem.W.Frag} {X : Cx} {Z : Zx} {pos apos : Pos} {o e : Expr} {to te : TE} {wo we : W}
def wM1 (op : O2) (wo we : W) : W := fun ρ P => wo ρ fun s ρ1 => asS s.fz fun _ => we ρ1 fun t ρ2 => op s.fz t.fz fun r => P r ρ2
structure SndT (K : PySem.W.Frag) (r : V → List V → Hp → VK → Prop) (op : O2) : Prop where
  run : ∀ {F H : Hp} {x y : D} {vx vy : V} {P : S → Prop} {Q : VK}, Same F H → Rep K F x vx → Rep K F y vy → op x y P → Kont K H F P Q → r vx [vy] H Q
theorem run_m1 {r : V → List V → Hp → VK → Prop} {op : O2} (ho : RunE K Z to wo) (he : RunE K Z te we) (hs : SndT K r op) : RunE K Z (tM1 r to te) (wM1 op wo we) := fun {H0 F0 F H ρ σ Q P} zo rl h k => by
  refine ho zo rl h fun s1 ρ1 F1 H1 v1 h1 f1 r1 sr1 fr1 => ?_
  obtain ⟨F2, f2, r2, rp2⟩ := r1.freeze sr1 fr1
  obtain ⟨a, rfl, h1⟩ := asS_of h1 rp2
  refine ⟨⟨a, rfl⟩, he zo r2 h1 fun s3 ρ3 F3 H3 v3 h3 f3 r3 sr3 fr3 => ?_⟩
  obtain ⟨F4, f4, r4, rp4⟩ := r3.freeze sr3 fr3
  exact hs.run r4.fh (Rep.mono (f3.trans f4) _ _ rp2) rp4 h3 (r4.kont (f1.trans (f2.trans (f3.trans f4))) k)
def oSplit : O2 := fun x y P => match x, y with
  | .str a, .str b => (b.length == 0) = false ∧ a.length + 2 ≤ sizeLine ∧ P (.ol ((Txt.split a b).map .str))
  | _, _ => False
def oPart : O2 := fun x y P => match x, y with
  | .str a, .str b => (b.length == 0) = false ∧ a.length ≤ sizeLine ∧ P (.d (.tup [.str (Txt.partition a b).1, .str (Txt.partition a b).2.1, .str (Txt.partition a b).2.2]))
  | _, _ => False
theorem snd_part : SndT K (fun x xs H Q => ∃ a b, x = .str a ∧ xs = [.str b] ∧ (b.length == 0) = false ∧ a.length ≤ sizeLine ∧
      ∀ p, H p = none → Q (.ref p) (upd H p (.tup [.str (Txt.partition a b).1, .str (Txt.partition a b).2.1, .str (Txt.partition a b).2.2]))) oPart := ⟨fun {F H x y vx vy P Q} fh rx ry h k => by
  unfold oPart at h
  split at h
  · rename_i a b
    cases (show vx = _ from rx); cases (show vy = _ from ry)
    refine ⟨a, b, rfl, rfl, h.1, h.2.1, fun p n => ?_⟩
    exact k.newT fh h.2.2 ⟨_, _, rfl, rfl, _, _, rfl, rfl, _, _, rfl, rfl, rfl⟩ n
  · exact h.elim⟩
theorem de_part (ho : DE K X Z o to wo) (he : DE K X Z e te we) (hs : starEach [e] X.env = [(false, eval e X.env)] := by rfl) (hbase : attributeBase o "partition" X.env (eval o X.env) = eval o X.env := by rfl) (hline : (apos.endLine == pos.line) = true := by rfl) :
    DE K X Z (.Call (.Attribute o "partition" apos) [e] [] pos) (tM1 (fun x xs H Q => ∃ a b, x = .str a ∧ xs = [.str b] ∧ (b.length == 0) = false ∧ a.length ≤ sizeLine ∧
      ∀ p, H p = none → Q (.ref p) (upd H p (.tup [.str (Txt.partition a b).1, .str (Txt.partition a b).2.1, .str (Txt.partition a b).2.2]))) to te) (wM1 oPart wo we) :=
  ⟨pe_partition ho.pe he.pe hs hbase hline, run_m1 ho.run he.run snd_part⟩
def oStrip1 : O2 := fun x y P => match x, y with
  | .str a, .str b => a.length ≤ sizeLine ∧ P (.d (.str (Txt.stripChars a b)))
  | _, _ => False
theorem snd_strip1 : SndT K (fun x xs H Q => ∃ a b, x = .str a ∧ xs = [.str b] ∧ a.length ≤ sizeLine ∧ Q (.str (Txt.stripChars a b)) H) oStrip1 := ⟨fun {F H x y vx vy P Q} fh rx ry h k => by
  unfold oStrip1 at h
  split at h
  · rename_i a b
    cases (show vx = _ from rx); cases (show vy = _ from ry)
    exact ⟨a, b, rfl, rfl, h.1, k.flat (d := .str (Txt.stripChars a b)) fh h.2 rfl⟩
  · exact h.elim⟩
theorem de_strip1 (ho : DE K X Z o to wo) (he : DE K X Z e te we) (hs : starEach [e] X.env = [(false, eval e X.env)] := by rfl) (hbase : attributeBase o "strip" X.env (eval o X.env) = eval o X.env := by rfl) (hline : (apos.endLine == pos.line) = true := by rfl) :
    DE K X Z (.Call (.Attribute o "strip" apos) [e] [] pos) (tM1 (fun x xs H Q => ∃ a b, x = .str a ∧ xs = [.str b] ∧ a.length ≤ sizeLine ∧ Q (.str (Txt.stripChars a b)) H) to te) (wM1 oStrip1 wo we) :=
  ⟨pe_m1 PySem.F.slot_str_strip PySem.F.type_str_strip mt_stripChars ho.pe he.pe hs hbase hline, run_m1 ho.run he.run snd_strip1⟩
end
end DL
namespace DL
open PySem L2
section
variable {K : PySem.W.Frag} {X : Cx} {Z : Zx} {pos p p2 : Pos} {a b : Expr} {ta tb : TE} {wa wb : W}
def oRep : O2 := fun x y P => match x, y with
  | .lst xs, .int k => (-(2 ^ 63) ≤ k ∧ k < 2 ^ 63) ∧ xs.length * k.toNat ≤ sizeLine ∧ P (.ol (List.replicate k.toNat xs).flatten)
  | _, _ => False
def intsD : List D → Option (List Int)
  | [] => some []
  | .int i :: xs => (intsD xs).map (i :: ·)
  | _ :: _ => none
def oSum : OL := fun ds P => match ds with
  | [.lst xs] => asA (intsD xs) fun ns => P (.d (.int ns.sum))
  | [.cel ns] => P (.d (.int ns.sum))
  | _ => False
def IsOk (K : PySem.W.Frag) (M N : Str) (b : Bool) : Prop := ∀ C D, PySem.W.nsIn K mainGlobals M = some (some (.ref C)) → PySem.W.nsIn K mainGlobals N = some (some (.ref D)) → PySem.W.kitOne K (.ref C) (.ref D) = some b
theorem IsOk.of {M N : Str} {C D : Addr} {b : Bool} (h1 : PySem.W.nsIn K mainGlobals M = some (some (.ref C))) (h2 : PySem.W.nsIn K mainGlobals N = some (some (.ref D))) (h : PySem.W.kitOne K (.ref C) (.ref D) = some b) : IsOk K M N b := fun C' D' g1 g2 => by
  rw [h1] at g1; rw [h2] at g2; cases g1; cases g2; exact h
open PySem.W in
structure InsOk1 (K : PySem.W.Frag) (C : Addr) : Prop where
  cl : Cls K C
  ha : PySem.W.findIn K (.ref C) "__class__" = some (some (.builtin "object.__class__"))
  hn : PySem.W.specialIn K (.builtin "object.__class__") "__get__" = some (some (.builtin "getset_descriptor.__get__"))
  htk : PySem.W.takesIn K (.builtin "object.__class__") = some true
  hm : PySem.W.mroIn K C (.type "object") = some true
def InsOk (K : PySem.W.Frag) (M : Str) : Prop := ∀ C, PySem.W.nsIn K mainGlobals M = some (some (.ref C)) → InsOk1 K C
theorem InsOk.of {M : Str} {C : Addr} (h1 : PySem.W.nsIn K mainGlobals M = some (some (.ref C))) (h : InsOk1 K C) : InsOk K M := fun C' g => by rw [h1] at g; cases g; exact h
end
end DL
namespace DL
open PySem L2
def wRaise (px : PX) (N : Str) (fs : List Str) (wa : WA) : WS := fun _ ρ => (∃ M gs, px M gs) ∧ wa ρ fun ds _ => ds.length = fs.length ∧ px N (fs.zip ds)
theorem ds_noR {K : PySem.W.Frag} {X : Cx} {Z : Zx} {st : Stmt} {N : Str} {fs : List Str} {wa : WA} : DS K X Z st (fun _ _ _ => False) (wRaise (fun _ _ => False) N fs wa) :=
  ⟨⟨fun _ _ _ _ _ _ h => h.elim⟩, fun {_ _ _ _ _ _ _ _} _ _ _ h => by obtain ⟨⟨_, _, z⟩, _⟩ := h; exact z⟩
abbrev sp0 (R : DSp) : DSp := fun ds P _ => R ds P fun _ _ => False
section
variable {K : PySem.W.Frag} {X : Cx} {Z : Zx} {pos p : Pos} {CX : CXT} {k : Nat} {f : Addr} {fd : FuncData} {ps : List Str} {Rf : DSp} {x : Str} {e : Expr} {es : List Expr} {ta : TA} {wa : WA}
theorem de_callN (F : FnOk X.prog X.w X.K X.mg X.base CX k f fd ps (spD K (sp0 Rf))) (hr : Room k X.A) (hm : X.mg x = some (.ref f)) (hk : PySem.W.keepIn X.K (.ref f) = true) (hb : Binds X.K fd ps []) (hx : Passes CX X Z.E)
    (ha : DA K X Z (e :: es) ta wa) (hg : Gl X x := by rfl) (hdb : (x == ("__debug__" : Str)) = false := by decide) (he : starEach (e :: es) X.env = (false, eval e X.env) :: starEach es X.env := by rfl) (hpl : (backTo pos (starEach es X.env)).any (·.1) = false := by rfl) :
    DE K X Z (.Call (.Name x p) (e :: es) [] pos) (tCall (spD K (sp0 Rf)) [] Z.E ta) (wCall Rf (fun _ _ => False) wa) := de_call F hr hm hk hb hx ha hg hdb he hpl
end
end DL
set_option maxHeartbeats 2000000
namespace DL
open PySem PySem.Spec PyProof.Rows L2 LiI
section
variable {X : Cx} {e : Expr} {te : TE} {p apos cpos pos : Pos}
end
section
variable {K : PySem.W.Frag} {X : Cx} {Z : Zx} {e : Expr} {te : TE} {we : W} {p apos cpos pos : Pos}
def itemsT (kvs : List (Key × D)) : List D := kvs.map fun q => .tup [kD q.1, q.2]
def wLI (we : W) : W := fun ρ P => we ρ fun s ρ1 => asDic s.fz fun kvs => P (.ol (itemsT kvs)) ρ1
def wLK (we : W) : W := fun ρ P => we ρ fun s ρ1 => asDic s.fz fun kvs => P (.ol (kvs.map fun q => kD q.1)) ρ1
end
end DL
set_option maxHeartbeats 4000000
namespace DL
open PySem PySem.Spec PyProof.Rows L2
section
variable {prog : Program} {w : World} {A : Around} {E : Value → Shared → Prop} {s : Shared} {z TI TO T i1 i2 : Addr} {fp1 fp2 : List Addr} {n1 n2 i : Nat} {P1 P2 : Nat → Value → Prop} {St1 St2 : Nat → Heap → Prop} {f : Bool} {oT : Obj}
end
end DL
set_option maxHeartbeats 4000000
namespace DL
open PySem PySem.Spec PyProof.Rows L2
def keysD : List D → Option (List Key)
  | [] => some []
  | .int i :: ds => (keysD ds).map (.inl i :: ·)
  | .str s :: ds => (keysD ds).map (.inr s :: ·)
  | _ => none
def seqLT (d : D) (P : List D → Prop) : Prop := match d with
  | .lst xs => P xs
  | .tup xs => P xs
  | _ => False
def wDZ (wa : WA) : W := fun ρ P => wa ρ fun ds ρ1 => match ds with
  | [x, y] => seqsD x fun xs => seqLT y fun ys => asA (keysD xs) fun ks => P (.od (mergeD [] (ks.zip ys))) ρ1
  | _ => False
section
variable {K : PySem.W.Frag} {X : Cx} {Z : Zx} {pos pos2 p p2 : Pos} {a b : Expr} {wa : WA} {ta : TA}
end
end DL
set_option maxHeartbeats 4000000
namespace DL
open PySem PySem.Spec PyProof.Rows L2
section
variable {K : PySem.W.Frag} {X : Cx} {Z : Zx} {pos p p2 apos cpos : Pos} {a b c e : Expr} {te : TE} {we : W} {ta : TA} {wa : WA} {i : Nat} {x : Str}
def rangeS (lo c : Int) (n : Nat) : List D := (List.range n).map fun (k : Nat) => .int (lo + k * c)
def wiR3 (wa : WA) : WA := fun ρ P => wa ρ fun ds ρ1 => match ds with
  | [.int i, .int j, .int c] => ∃ n, RgC i j c n ∧ P (rangeS i c n) ρ1
  | _ => False
def wLR (we : W) : W := fun ρ P => we ρ fun s ρ1 => asI s.fz fun n => RgOk 0 n ∧ P (.ol (rangeD 0 n.toNat)) ρ1
def wPairs : List (W × W) → R → (List (Key × D) → Prop) → Prop
  | [], _, P => P []
  | q :: r, ρ, P => q.1 ρ fun k ρ1 => q.2 ρ1 fun v ρ2 => asKey k.fz fun key => wPairs r ρ2 fun kvs => P ((key, v.fz) :: kvs)
def wDisp (ws : List (W × W)) : W := fun ρ P => wPairs ws (dataR ρ) fun kvs => kvs.length ≤ 15 ∧ P (.od (mergeD [] kvs)) ρ
structure DPs (K : PySem.W.Frag) (X : Cx) (Z : Zx) (pos : Pos) (ks : List (Option Expr)) (vs : List Expr) (ts : List (TE × TE)) (ws : List (W × W)) : Prop where
  pe : PPs X pos ks vs ts
  run : ∀ {H0 F0 F H : Hp} {ρ : R} {σ : L2.St} {Q : List (V × V) → Hp → Prop} {P : List (Key × D) → Prop}, Z.Ok K H0 F0 → Rel K H0 F0 F H ρ σ → wPairs ws ρ P →
    (∀ kvs l ρ' F' H', P kvs → Same F F' → Rel K H0 F0 F' H' ρ' σ → KRep K F' kvs l → Q (l.map fun q => (kV q.1, q.2)) H') → tPairs ts σ H Q
theorem dps_nil : DPs K X Z pos [] [] [] [] := ⟨pps_nil, fun {H0 F0 F H ρ σ Q P} zo rl h k => k [] [] ρ F H h (Same.refl _) rl ⟨rfl, rfl⟩⟩
theorem dps_cons {k v : Expr} {ks : List (Option Expr)} {vs : List Expr} {tk tv : TE} {wk wv : W} {ts : List (TE × TE)} {ws : List (W × W)} (hk : DE K X Z k tk wk) (hv : DE K X Z v tv wv) (hr : DPs K X Z pos ks vs ts ws) : DPs K X Z pos (some k :: ks) (v :: vs) ((tk, tv) :: ts) ((wk, wv) :: ws) :=
  ⟨pps_cons hk.pe hv.pe hr.pe, fun {H0 F0 F H ρ σ Q P} zo rl h kq => hk.run zo rl h fun s1 ρ1 F1 H1 v1 h1 f1 r1 sr1 fr1 => by
    obtain ⟨F2, f2, r2, rp2⟩ := r1.freeze sr1 fr1
    refine hv.run zo r2 h1 fun s3 ρ3 F3 H3 v3 h3 f3 r3 sr3 fr3 => ?_
    obtain ⟨F4, f4, r4, rp4⟩ := r3.freeze sr3 fr3
    obtain ⟨key, rfl, h3⟩ := asKey_of h3 (Rep.mono (f3.trans f4) _ _ rp2)
    exact hr.run zo r4 h3 fun kvs l ρ5 F5 H5 p5 f5 r5 kr => kq ((key, s3.fz) :: kvs) ((key, v3) :: l) ρ5 F5 H5 p5 (f1.trans (f2.trans (f3.trans (f4.trans f5)))) r5 (KRep.mk (p := (key, s3.fz)) (q := (key, v3)) rfl (Rep.mono f5 _ _ rp4) kr)⟩
theorem run_disp {ks : List (Option Expr)} {vs : List Expr} {ts : List (TE × TE)} {ws : List (W × W)} (hd : DPs K X Z pos ks vs ts ws) : RunE K Z (tDisp ts) (wDisp ws) := fun {H0 F0 F H ρ σ Q P} zo rl h k => fun p n => by
  have hn : Same H (upd H p (.dK [])) := Same.new n
  have r1 : Rel K (upd H p (.dK [])) F F (upd H p (.dK [])) (dataR ρ) σ := rl.view (Same.refl _) (rl.fh.trans hn) []
  have zo1 : Z.Ok K (upd H p (.dK [])) F := (zo.on rl.h rl.f rl.nw).on hn (Same.refl _) fun _ q => .inl q
  refine hd.run zo1 r1 h fun kvs l ρ5 F4 H3 p5 ff r5 kr => ?_
  obtain ⟨h15, hq⟩ := p5
  have hp : H3 p = some (.dK []) := r5.h _ _ upd_same
  have f4n : F4 p = none := by
    cases q : F4 p with
    | none => rfl
    | some u =>
      rcases r5.nw p (by rw [q]; exact fun z => nomatch z) with z | z
      · exact absurd (rl.fh.free n) z
      · rw [upd_same] at z; cases z
  have km := KRep.merge (kvs := []) (l := []) kr ⟨rfl, rfl⟩
  have sH : Same H (upd H3 p (.dK (mergeK [] l))) := fun b u q => by
    have hb : b ≠ p := fun e => by rw [e, n] at q; cases q
    rw [upd_ne hb]
    exact r5.h _ _ (by rw [upd_ne hb]; exact q)
  have s4 : Same F4 (upd H3 p (.dK (mergeK [] l))) := fun b u q => by
    have hb : b ≠ p := fun e => by rw [e, f4n] at q; cases q
    rw [upd_ne hb]
    exact r5.fh _ _ q
  refine ⟨hp, l, rfl, by rw [kr.len]; exact h15, ?_⟩
  refine (rl.kont (Same.refl _) k) (.od (mergeD [] kvs)) _ F4 _ hq sH ff s4 (fun b q => ?_) ⟨p, mergeK [] l, rfl, upd_same, km.1, km.2, n, f4n⟩
  rcases r5.nw b q with z | z
  · exact .inl z
  · refine .inr ?_
    have hb : b ≠ p := fun e => by rw [e, upd_same] at z; cases z
    rw [upd_ne hb] at z
    exact z
theorem de_disp {ks : List (Option Expr)} {vs : List Expr} {ts : List (TE × TE)} {ws : List (W × W)} (hd : DPs K X Z pos ks vs ts ws) (hall : ks.all (·.isSome) = true := by rfl) (hl : ks.length = vs.length := by rfl) (h0 : ks ≠ [] := by exact fun z => nomatch z) (h15 : ks.length ≤ 15 := by decide) :
    DE K X Z (.Dict ks vs pos) (tDisp ts) (wDisp ws) := ⟨pe_disp hd.pe hall hl h0 h15, run_disp hd⟩
def oReverse : List D → List D → (S → List D → Prop) → Prop := fun xs ds P => ds = [] ∧ P (.d .non) xs.reverse
def oClear : List D → List D → (S → List D → Prop) → Prop := fun _ ds P => ds = [] ∧ P (.d .non) []
def oInsert : List D → List D → (S → List D → Prop) → Prop := fun xs ds P => match ds with
  | [.int i, y] => (xs.length < sizeLine ∧ 0 ≤ i ∧ i < 2 ^ 63) ∧ P (.d .non) (xs.take i.toNat ++ [y] ++ xs.drop i.toNat)
  | _ => False
def wRevL (we : W) : W := fun ρ P => we ρ fun s ρ1 => asL s.fz fun xs => P (.ol xs.reverse) ρ1
end
end DL
set_option maxHeartbeats 4000000
namespace DL
open PySem PySem.Spec PyProof.Rows L2
abbrev IT := Int × Str
def ltIT (p q : IT) : Bool := bif decide (p.1 = q.1) then decide (p.2.cps.toList < q.2.cps.toList) else decide (p.1 < q.1)
def IsIT (h : Heap) (v : Value) (p : IT) : Prop := ∃ a o t u n, v = .ref a ∧ h.get? a = some o ∧ o.cls = .type "tuple" ∧ o.data = .seq #[.int p.1 t, .str p.2 u] n
section
variable {prog : Program} {w : World} {A : Around} {s : Shared} {E : Value → Shared → Prop} {k : Value → IT}
end
def keyIT (h : Heap) : Value → IT
  | .ref a => match h.get? a with
    | some o => match o.data with
      | .seq ⟨[.int i _, .str c _]⟩ _ => (i, c)
      | _ => (0, "")
    | none => (0, "")
  | _ => (0, "")
theorem IsIT.key {h : Heap} {v : Value} {p : IT} (q : IsIT h v p) : keyIT h v = p := by
  obtain ⟨a, o, t, u, n, rfl, ho, hc, hd⟩ := q
  show (match h.get? a with | some o => _ | none => _) = _
  rw [ho]
  show (match o.data with | .seq ⟨[.int i _, .str c _]⟩ _ => (i, c) | _ => (0, "")) = _
  rw [hd]
inductive All2 {α β : Type} (R : α → β → Prop) : List α → List β → Prop
  | nil : All2 R [] []
  | cons {x p xs ps} : R x p → All2 R xs ps → All2 R (x :: xs) (p :: ps)
def pairIT : D → Option IT
  | .tup [.int i, .str c] => some (i, c)
  | _ => none
def pairsIT : List D → Option (List IT)
  | [] => some []
  | d :: ds => match pairIT d, pairsIT ds with
    | some p, some ps => some (p :: ps)
    | _, _ => none
def itD (p : IT) : D := .tup [.int p.1, .str p.2]
def oSortIT : OL := fun ds P => match ds with
  | [.lst xs] => asA (pairsIT xs) fun ps => ∀ qs, qs.Perm ps → SrtO.Srtd ltIT qs → P (.ol (qs.map itD))
  | _ => False
section
variable {K : PySem.W.Frag} {X : Cx} {Z : Zx} {pos p : Pos} {a : Expr} {ta : TE} {wa : W}
end
end DL
set_option maxHeartbeats 4000000
namespace DL
open PySem PySem.Spec PyProof.Rows L2
def putG {β : Type} (f : Str) (v : β) : List (Str × β) → List (Str × β)
  | [] => [(f, v)]
  | (g, x) :: r => if g = f then (g, v) :: r else (g, x) :: putG f v r
theorem putG_V (f : Str) (v : V) : ∀ l : List (Str × V), putG f v l = putF f v l
  | [] => rfl
  | (g, x) :: r => by
    show (if g = f then _ else _) = (if g = f then _ else _)
    rw [putG_V f v r]
theorem putG_reps {K : PySem.W.Frag} {F : Hp} {f : Str} {d : D} {v : V} (rv : Rep K F d v) : ∀ {kvs : List (Str × D)} {l : List (Str × V)}, l.map (·.1) = kvs.map (·.1) → Reps K F (kvs.map (·.2)) (l.map (·.2)) →
    (putG f v l).map (·.1) = (putG f d kvs).map (·.1) ∧ Reps K F ((putG f d kvs).map (·.2)) ((putG f v l).map (·.2))
  | [], [], _, _ => ⟨rfl, v, [], rfl, rv, rfl⟩
  | [], _ :: _, h, _ => nomatch h
  | _ :: _, [], h, _ => nomatch h
  | (g, x) :: kvs, (g', y) :: l, h, r => by
    rw [List.map_cons, List.map_cons, List.cons.injEq] at h
    obtain ⟨u, us, e, r1, r2⟩ := r
    rw [List.map_cons, List.cons.injEq] at e
    obtain ⟨e1, e2⟩ := e
    have hg : g' = g := h.1
    subst hg
    have e1' : y = u := e1
    subst e1'
    have ih := putG_reps (f := f) rv h.2 (by rw [e2]; exact r2)
    unfold putG
    by_cases hgf : g' = f
    · rw [if_pos hgf, if_pos hgf]
      exact ⟨by rw [List.map_cons, List.map_cons, h.2], v, _, rfl, rv, by rw [e2]; exact r2⟩
    · rw [if_neg hgf, if_neg hgf]
      exact ⟨by rw [List.map_cons, List.map_cons, ih.1], y, _, rfl, r1, ih.2⟩
def asOI (o : Option S) (P : Str → List (Str × D) → Prop) : Prop := match o with
  | some (.oi N kvs) => P N kvs
  | some (.os _ N kvs) => P N kvs
  | _ => False
def setOI (o : Option S) (kvs : List (Str × D)) : Option S := match o with
  | some (.oi N _) => some (.oi N kvs)
  | some (.os a N _) => some (.os a N kvs)
  | o => o
section
variable {K : PySem.W.Frag} {X : Cx} {Z : Zx} {pos p pos' apos : Pos} {i : Nat}
theorem Rel.oi {H0 F0 F H : Hp} {ρ : R} {σ : L2.St} {P : Str → List (Str × D) → Prop} (r : Rel K H0 F0 F H ρ σ) (h : asOI (nth ρ i) P) :
    ∃ N kvs a C dx l, P N kvs ∧ σ[i]? = some (some (.ref a)) ∧ PySem.W.nsIn K mainGlobals N = some (some (.ref C)) ∧ H a = some (.ins C dx l) ∧ l.map (·.1) = kvs.map (·.1) ∧ Reps K F (kvs.map (·.2)) (l.map (·.2)) ∧ H0 a = none ∧ F a = none ∧
      ∀ d v f, Rep K F d v → Rel K H0 F0 F (upd H a (.ins C dx (putF f v l))) (put ρ i (setOI (nth ρ i) (putG f d kvs))) σ := by
  unfold asOI at h
  split at h
  · rename_i N kvs e
    obtain ⟨v, ev, a, C, dx, l, rfl, g, hl, hk, rr, n0, n1⟩ := r.at_ i _ (nth_some e)
    refine ⟨N, kvs, a, C, dx, l, h, ev, g, hl, hk, rr, n0, n1, fun d v f rv => ?_⟩
    rw [put_eq, e, ← putG_V]
    have q := putG_reps (f := f) rv hk rr
    exact r.write (nth_some e) rfl ev ⟨a, C, dx, _, rfl, g, upd_same, q.1, q.2, n0, n1⟩ rfl
  · rename_i a0 N kvs e
    obtain ⟨v, ev, e0, a, C, dx, l, rfl, g, hl, hk, rr, n0, n1⟩ := r.at_ i _ (nth_some e)
    refine ⟨N, kvs, a, C, dx, l, h, ev, g, hl, hk, rr, n0, n1, fun d v f rv => ?_⟩
    rw [put_eq, e, ← putG_V]
    have q := putG_reps (f := f) rv hk rr
    exact r.write (nth_some e) rfl ev ⟨e0, a, C, dx, _, rfl, g, upd_same, q.1, q.2, n0, n1⟩ rfl
  · exact h.elim
def wOFld (Ns : List Str) (i : Nat) (f : Str) : W := fun ρ P => asOI (nth ρ i) fun N kvs => N ∈ Ns ∧ asA (fget kvs f) fun d => P (.d d) ρ
theorem run_ofld {Ns : List Str} {f : Str} (hf : ∀ N ∈ Ns, FldOk K N f) : RunE K Z (tFld K (tVar i) f) (wOFld Ns i f) := fun {H0 F0 F H ρ σ Q P} zo rl h k => by
  obtain ⟨N, kvs, a, C, dx, l, ⟨hN, h⟩, ev, g, hl, hk, rr, n0, n1, _⟩ := rl.oi h
  obtain ⟨d, ed, h⟩ := asA_of h
  obtain ⟨v, e, rv⟩ := (look_reps hk rr).1 d ed
  obtain ⟨c1, c2⟩ := hf N hN C g
  exact ⟨.ref a, ev, a, C, dx, l, v, rfl, hl, c1, c2, e, k (.d d) _ F _ _ h (Same.refl _) rl rv fun w => nomatch w⟩
theorem de_ofld {x : Str} {Ns : List Str} {f : Str} (i : Nat) (hf : ∀ N ∈ Ns, FldOk K N f) (hN : X.N[i]? = some x := by rfl) (hv : Vis X.env.scope x := by first | exact Or.inl rfl | exact Or.inr (Or.inl rfl) | exact Or.inr (Or.inr rfl)) (hd : (x == ("__debug__" : Str)) = false := by decide) (hcd : (x == ("__classdict__" : Str)) = false := by decide)
    (hb : attributeBase (.Name x p) f X.env (eval (.Name x p) X.env) = eval (.Name x p) X.env := by rfl) (hK : X.K = K := by rfl) : DE K X Z (.Attribute (.Name x p) f pos) (tFld K (tVar i) f) (wOFld Ns i f) := by
  subst hK
  exact ⟨pe_fld (pe_var hN hv hd hcd) hb, run_ofld hf⟩
def wSFld (Ns : List Str) (i : Nat) (f : Str) (we : W) : WS := fun DD ρ => we ρ fun s ρ1 => asOI (nth ρ1 i) fun N kvs => (N ∈ Ns ∧ kvs.length < 1000) ∧ DD.nx (put ρ1 i (setOI (nth ρ1 i) (putG f s.fz kvs)))
theorem run_sfld {Ns : List Str} {f : Str} {te : TE} {we : W} (hf : ∀ N ∈ Ns, FldOk K N f) (he : RunE K Z te we) : RunS K Z (sFld K (tVar i) te f) (wSFld Ns i f we) := fun {H0 F0 F H ρ σ DD Dh} zo rl ee h => he zo rl h fun s1 ρ1 F1 H1 v1 h1 f1 r1 sr1 fr1 => by
  obtain ⟨F2, f2, r2, rp2⟩ := r1.freeze sr1 fr1
  obtain ⟨N, kvs, a, C, dx, l, ⟨⟨hN, hl9⟩, h1⟩, ev, g, hl, hk, rr, n0, n1, wr⟩ := r2.oi h1
  obtain ⟨c1, c2⟩ := hf N hN C g
  have e9 : l.length = kvs.length := by have := congrArg List.length hk; simpa using this
  exact ⟨.ref a, ev, a, C, dx, l, rfl, hl, c1, c2, by omega, ee.nx _ _ _ _ h1 (f1.trans f2) (wr _ _ f rp2)⟩
theorem ds_sfld {x : Str} {Ns : List Str} {f : Str} {e : Expr} {te : TE} {we : W} (i : Nat) (hf : ∀ N ∈ Ns, FldOk K N f) (he : DE K X Z e te we) (hN : X.N[i]? = some x := by rfl) (hv : Vis X.env.scope x := by first | exact Or.inl rfl | exact Or.inr (Or.inl rfl) | exact Or.inr (Or.inr rfl)) (hd : (x == ("__debug__" : Str)) = false := by decide) (hcd : (x == ("__classdict__" : Str)) = false := by decide)
    (hs : swapsWith e (some (.Attribute (.Name x p) f pos')) pos.line X.env = pure false := by rfl) (hK : X.K = K := by rfl) : DS K X Z (.Assign [.Attribute (.Name x p) f pos'] e pos) (sFld K (tVar i) te f) (wSFld Ns i f we) := by
  subst hK
  exact ⟨ps_fld (pe_var hN hv hd hcd) he.pe hs, run_sfld hf he.run⟩
end
def spDI (K : PySem.W.Frag) (N : Str) (R : DSp) : Sp := fun vs H Q E => ∃ F ds us P px H1 x dx C Q0, vs = .ref x :: us ∧ H = upd (upd H1 dx (.own x)) x (.ins C dx []) ∧ (H1 x = none ∧ H1 dx = none ∧ dx ≠ x) ∧ PySem.W.nsIn K mainGlobals N = some (some (.ref C)) ∧
  Same F H1 ∧ Reps K F ds us ∧ R ds P px ∧ Kont K H1 F P Q0 ∧ (∀ H2, Q0 (.ref x) H2 → Q .non H2) ∧ (⟨E, px⟩ : Zx).Ok K H1 F
def startO (N : List Str) (a : Addr) (C : Str) (ds : List D) : R := some (.os a C []) :: startR (N.drop 1) ds
theorem rel_startO {K : PySem.W.Frag} {F H1 : Hp} {ds : List D} {us : List V} {N : List Str} {Cn : Str} {C x dx : Addr} (fh : Same F H1) (r : Reps K F ds us) (hN : N ≠ []) (nx : H1 x = none) (nd : H1 dx = none) (ne : dx ≠ x) (g : PySem.W.nsIn K mainGlobals Cn = some (some (.ref C))) :
    Rel K H1 F F (upd (upd H1 dx (.own x)) x (.ins C dx [])) (startO N x Cn ds) (start N (.ref x :: us)) := by
  have s1 : Same H1 (upd H1 dx (.own x)) := Same.new nd
  have n2 : (upd H1 dx (.own x)) x = none := by rw [upd_ne ne.symm]; exact nx
  have s2 : Same H1 (upd (upd H1 dx (.own x)) x (.ins C dx [])) := s1.trans (Same.new n2)
  have r0 := rel_start (N := N.drop 1) fh r
  have es : start N (.ref x :: us) = some (.ref x) :: start (N.drop 1) us := by
    unfold L2.start
    rw [List.map_cons, List.cons_append, List.length_cons, List.length_drop]
    rw [show N.length - (us.length + 1) = N.length - 1 - us.length by omega]
  have nod : ∀ (i : Nat) s, (startR (N.drop 1) ds)[i]? = some (some s) → s.own = false := fun i s q => by
    unfold startR at q
    by_cases h : i < ds.length
    · rw [List.getElem?_append_left (by simpa using h), List.getElem?_map] at q
      cases e : ds[i]? with
      | none => rw [e] at q; cases q
      | some d => rw [e] at q; cases q; rfl
    · rw [List.getElem?_append_right (by simpa using h), List.getElem?_replicate] at q
      split at q <;> cases q
  rw [es]
  refine ⟨s2, Same.refl _, fh.trans s2, fun _ q => .inl q, by rw [startO, List.length_cons, List.length_cons, r0.len], fun i s q => ?_, fun i j s t q1 q2 w1 w2 e => ?_⟩
  · cases i with
    | zero =>
      have e : s = .os x Cn [] := by simpa [startO] using q.symm
      subst e
      exact ⟨.ref x, by simp, rfl, x, C, dx, [], rfl, g, upd_same, rfl, rfl, nx, fh.free nx⟩
    | succ i =>
      obtain ⟨v, e1, sr⟩ := r0.at_ i s (by simpa [startO] using q)
      have : s.own = false := nod i s (by simpa [startO] using q)
      refine ⟨v, by simpa using e1, ?_⟩
      cases s <;> first | exact sr | cases this
  · cases i with
    | zero =>
      cases j with
      | zero => rfl
      | succ j => have := nod j t (by simpa [startO] using q2); rw [this] at w2; cases w2
    | succ i => have := nod i s (by simpa [startO] using q1); rw [this] at w1; cases w1
section
variable {P : Program} {w : World} {K : PySem.W.Frag} {mg : Str → Option Value} {base : Heap} {x qual : Str} {st : Stmt} {f : Addr} {fd : FuncData} {N ps : List Str} {k : Nat} {Rf : DSp} {Cn : Str}
abbrev endsI (a : Addr) (Cn : Str) (Q : S → Prop) : DEnds := ⟨fun ρ => ∃ kvs, nth ρ 0 = some (.os a Cn kvs) ∧ Q (.oi Cn kvs), fun _ => False, fun _ => False, fun _ => False⟩
theorem ends_I {F H1 : Hp} {a : Addr} {P' : S → Prop} {Q Q0 : VK} (kq : Kont K H1 F P' Q0) (hq : ∀ H2, Q0 (.ref a) H2 → Q .non H2) : EndsOk K H1 F F (endsI a Cn P') { nx := fun _ H' => Q .non H', rt := Q } := by
  refine ⟨fun ρ' F' H' σ' h f r => ?_, fun s v F' H' h => h.elim, fun _ _ _ _ h => h.elim, fun _ _ _ _ h => h.elim⟩
  obtain ⟨kvs, e, h⟩ := h
  obtain ⟨v, ev, e0, b, C, dx, l, e1, g, hl, hk, rr, n0, n1⟩ := r.at_ 0 _ (nth_some e)
  subst e0
  cases e1
  exact hq H' (kq (.oi Cn kvs) _ F' H' h r.h r.f r.fh r.nw ⟨a, C, dx, l, rfl, g, hl, hk, rr, n0, n1⟩)
theorem fnDI (F : Fun K x qual st f fd) (S : FnScope N ps (defScope st)) (hN : N ≠ []) (len : ∀ ds Q px, Rf ds Q px → ds.length + 1 = ps.length)
    (hbody : ∀ (cdv : Value) (A : Around) (outer : List Env) (s : Shared) (H : Hp) (E : XK), Room k (A.deeper (PyProof.Rows.envOfC qual (defScope st) s.heap.objs.size f cdv)) →
      ∃ t wb, DSs K (cxOf CX0 P w K mg base N qual (defScope st) f cdv A outer s H E).nox Z0 (defBody st) t wb ∧ ∀ a ds Q px, Rf ds Q px → wb (endsI a Cn Q) (startO N a Cn ds)) :
    FnOk P w K mg base CX0 (k + 1) f fd ps (spDI K Cn Rf) := by
  refine F.ok S (fun vs H Q E h => ?_) (fun cdv A outer s H vs Q E hr h => ?_)
  · obtain ⟨F, ds, us, P, px, H1, x, dx, C, Q0, rfl, _, _, _, _, r, h, _⟩ := h
    rw [List.length_cons, r.len]; exact len _ _ _ h
  · obtain ⟨F, ds, us, P', px, H1, y, dx, C, Q0, rfl, rfl, ⟨n1, n2, ne⟩, g, fh, r, h, kq, hq, _⟩ := h
    obtain ⟨t, wb, d, q⟩ := hbody cdv A outer s _ E hr
    exact ⟨t, d.pe, d.run (DD := endsI y Cn P') Z0.ok (rel_startO fh r hN n1 n2 ne g) (ends_I kq hq) (q y ds P' px h)⟩
end
section
variable {K : PySem.W.Frag} {X : Cx} {Z : Zx} {pos p : Pos} {CX : CXT} {k : Nat}
theorem run_mkD {C : Addr} {N : Str} {Rf : DSp} {t : TA} {wa : WA} (ha : RunA K Z t wa) (g : PySem.W.nsIn K mainGlobals N = some (some (.ref C))) : RunE K Z (tMake C (spDI K N Rf) [] Z.E t) (wCall Rf Z.P wa) := fun {H0 F0 F H ρ σ Q P} zo rl h kq => ha zo rl h fun ds ρ1 F1 H1 vs h1 f1 r1 rps => by
  intro x dx nx nd ne
  rw [List.append_nil]
  exact ⟨F1, ds, vs, _, Z.P, H1, x, dx, C, Q, rfl, rfl, ⟨nx, nd, ne⟩, g, r1.fh, rps, h1, r1.kont f1 kq, fun H2 q => ⟨rfl, q⟩, zo.on r1.h r1.f r1.nw⟩
theorem de_mkD {C f : Addr} {fd : FuncData} {ps : List Str} {N x : Str} {Rf : DSp} {e : Expr} {es : List Expr} {t : TA} {wa : WA} (g : PySem.W.nsIn K mainGlobals N = some (some (.ref C))) (M : Mk X.K C f) (F : FnOk X.prog X.w X.K X.mg X.base CX k f fd ps (spDI K N Rf)) (hr : Room (k + 1) X.A) (hm : X.mg x = some (.ref C)) (hb : Binds X.K fd ps []) (hx : Passes CX X Z.E)
    (ha : DA K X Z (e :: es) t wa) (hg : Gl X x := by rfl) (hdb : (x == ("__debug__" : Str)) = false := by decide) (he : starEach (e :: es) X.env = (false, eval e X.env) :: starEach es X.env := by rfl) (hpl : (backTo pos (starEach es X.env)).any (·.1) = false := by rfl) :
    DE K X Z (.Call (.Name x p) (e :: es) [] pos) (tMake C (spDI K N Rf) [] Z.E t) (wCall Rf Z.P wa) := ⟨pe_make M F hr hg hm hb .nil hx ha.pe (hdb := hdb) (he := he) (hpl := hpl), run_mkD ha.run g⟩
theorem de_mkN {C f : Addr} {fd : FuncData} {ps : List Str} {N x : Str} {Rf : DSp} {e : Expr} {es : List Expr} {t : TA} {wa : WA} (g : PySem.W.nsIn K mainGlobals N = some (some (.ref C))) (M : Mk X.K C f) (F : FnOk X.prog X.w X.K X.mg X.base CX k f fd ps (spDI K N (sp0 Rf))) (hr : Room (k + 1) X.A) (hm : X.mg x = some (.ref C)) (hb : Binds X.K fd ps []) (hx : Passes CX X Z.E)
    (ha : DA K X Z (e :: es) t wa) (hg : Gl X x := by rfl) (hdb : (x == ("__debug__" : Str)) = false := by decide) (he : starEach (e :: es) X.env = (false, eval e X.env) :: starEach es X.env := by rfl) (hpl : (backTo pos (starEach es X.env)).any (·.1) = false := by rfl) :
    DE K X Z (.Call (.Name x p) (e :: es) [] pos) (tMake C (spDI K N (sp0 Rf)) [] Z.E t) (wCall Rf (fun _ _ => False) wa) := de_mkD g M F hr hm hb hx ha hg hdb he hpl
def wPar (i j : Nat) (wa : WA) : WS := fun DD ρ => wa ρ fun ds ρ1 => match ds with
  | [x, y] => DD.nx (put (put ρ1 i (some (.d x))) j (some (.d y)))
  | _ => False
end
end DL
set_option maxHeartbeats 2000000
namespace DL
open PySem PySem.Spec PyProof.Rows L2
section
variable {X : Cx} {e : Expr} {te : TE}
end
section
variable {K : PySem.W.Frag} {X : Cx} {Z : Zx} {e o : Expr} {te to : TE} {we wo : W} {p apos cpos pos : Pos}
theorem SRep.at_upd {H0 F H : Hp} {s : S} {v : V} {a : Addr} {u : HO} (n1 : F a = none) (fr : s.own = true → v ≠ .ref a) (h : SRep K H0 F H s v) : SRep K H0 (upd F a u) (upd H a u) s v := by
  cases s with
  | d x => exact Rep.mono (Same.new n1) _ _ h
  | ol xs =>
    obtain ⟨b, vs, e, h1, h2, m0, m1⟩ := h
    have ne : b ≠ a := fun z => fr rfl (by rw [e, z])
    exact ⟨b, vs, e, by rw [upd_ne ne]; exact h1, Reps.mono (Same.new n1) _ _ h2, m0, by rw [upd_ne ne]; exact m1⟩
  | od kvs =>
    obtain ⟨b, vs, e, h1, hk, h2, m0, m1⟩ := h
    have ne : b ≠ a := fun z => fr rfl (by rw [e, z])
    exact ⟨b, vs, e, by rw [upd_ne ne]; exact h1, hk, Reps.mono (Same.new n1) _ _ h2, m0, by rw [upd_ne ne]; exact m1⟩
  | oi N kvs =>
    obtain ⟨b, C, dx, vs, e, g, h1, hk, h2, m0, m1⟩ := h
    have ne : b ≠ a := fun z => fr rfl (by rw [e, z])
    exact ⟨b, C, dx, vs, e, g, by rw [upd_ne ne]; exact h1, hk, Reps.mono (Same.new n1) _ _ h2, m0, by rw [upd_ne ne]; exact m1⟩
  | os c N kvs =>
    obtain ⟨e0, b, C, dx, vs, e, g, h1, hk, h2, m0, m1⟩ := h
    have ne : b ≠ a := fun z => fr rfl (by rw [e, z])
    exact ⟨e0, b, C, dx, vs, e, g, by rw [upd_ne ne]; exact h1, hk, Reps.mono (Same.new n1) _ _ h2, m0, by rw [upd_ne ne]; exact m1⟩
theorem Rel.at_upd {H0 F0 F H : Hp} {ρ : R} {σ : L2.St} {a : Addr} {u : HO} (r : Rel K H0 F0 F H ρ σ) (n0 : H0 a = none) (n1 : F a = none) (fr : Fr ρ σ (.ref a)) : Rel K H0 F0 (upd F a u) (upd H a u) ρ σ := by
  refine ⟨fun b o q => ?_, r.f.trans (Same.new n1), fun b o q => ?_, fun b q => ?_, r.len, fun i s q => ?_, r.ap⟩
  · rw [upd_ne (ne_of_none q n0)]; exact r.h _ _ q
  · by_cases hb : b = a
    · subst hb; rw [upd_same] at q ⊢; exact q
    · rw [upd_ne hb] at q ⊢; exact r.fh _ _ q
  · by_cases hb : b = a
    · subst hb; exact .inr n0
    · rw [upd_ne hb] at q; exact r.nw _ q
  · obtain ⟨v, q1, q2⟩ := r.at_ i s q
    exact ⟨v, q1, q2.at_upd n1 fun w z => fr i s q w (by rw [q1, z])⟩
def wiItemsC (we : W) : WA := fun ρ P => we ρ fun s ρ1 => asOD (some s) fun kvs => P (itemsD (kvs.map (·.1)) (kvs.map (·.2))) ρ1
def wiValsC (we : W) : WA := fun ρ P => we ρ fun s ρ1 => asOD (some s) fun kvs => P (kvs.map (·.2)) ρ1
def toV : D → V
  | .bl b => .bl b
  | .int i => .int i
  | .str s => .str s
  | _ => .non
def flatK : D → Bool
  | .non => true
  | .bl _ => true
  | .int _ => true
  | .str _ => true
  | _ => false
def wIndexL (wo we : W) : W := fun ρ P => wo ρ fun s ρ1 => asL s.fz fun _ => we ρ1 fun t ρ2 => asL s.fz fun xs => flatK t.fz = true ∧ xs.all flatK = true ∧ ∃ j z, xs[j]? = some z ∧ eqV (toV z) (toV t.fz) = true ∧ (∀ (m : Nat) z', m < j → xs[m]? = some z' → eqV (toV z') (toV t.fz) = false) ∧ P (.d (.int (j : Nat))) ρ2
end
end DL
set_option maxHeartbeats 2000000
namespace DL
open PySem PySem.Spec PyProof.Rows L2
section
variable {K : PySem.W.Frag} {X : Cx} {Z : Zx} {pos pos2 p p2 py : Pos} {a : Expr} {wa : W} {ta : TE}
end
end DL
namespace DL
open PySem L2
def dataO : Option S → Option S
  | some (.d x) => some (.d x)
  | _ => none
theorem dataR_cons {o : Option S} {r : R} : dataR (o :: r) = dataO o :: dataR r := by
  rcases o with _ | (_ | _ | _) <;> rfl
theorem dataR_nil : dataR [] = [] := rfl
theorem dataO_d {x : D} : dataO (some (.d x)) = some (.d x) := rfl
theorem dataO_none : dataO none = none := rfl
theorem dataO_ol {x : List D} : dataO (some (.ol x)) = none := rfl
theorem dataO_od {x : List (Key × D)} : dataO (some (.od x)) = none := rfl
def seeO : Option S → Option S
  | some s => some (.d s.fz)
  | _ => none
theorem seeR_cons {o : Option S} {r : R} : seeR (o :: r) = seeO o :: seeR r := by cases o <;> rfl
theorem seeR_nil : seeR [] = [] := rfl
theorem seeO_d {x : D} : seeO (some (.d x)) = some (.d x) := rfl
theorem seeO_none : seeO none = none := rfl
theorem seeO_ol {x : List D} : seeO (some (.ol x)) = some (.d (.lst x)) := rfl
theorem seeO_od {x : List (Key × D)} : seeO (some (.od x)) = some (.d (.dic (x.map (·.1)) (x.map (·.2)))) := rfl
theorem atI_0 {α : Type} {x : α} {l : List α} : atI (x :: l) 0 = some x := by
  have := atI_nat (xs := x :: l) (j := 0) (v := x) rfl
  exact this
theorem atI_1 {α : Type} {x y : α} {l : List α} : atI (x :: y :: l) 1 = some y := by
  have := atI_nat (xs := x :: y :: l) (j := 1) (v := y) rfl
  exact this
theorem atI_2 {α : Type} {x y z : α} {l : List α} : atI (x :: y :: z :: l) 2 = some z := by
  have := atI_nat (xs := x :: y :: z :: l) (j := 2) (v := z) rfl
  exact this
theorem asA_some {α : Type} {b : α} {P : α → Prop} : asA (some b) P = P b := rfl
theorem asA_none {α : Type} {P : α → Prop} : asA none P = False := rfl
theorem eqX_int {i j : Int} {P : Bool → Prop} : eqX (.int i) (.int j) P = P (decide (i = j)) := rfl
theorem eqX_str {i j : Str} {P : Bool → Prop} : eqX (.str i) (.str j) P = P (decide (i = j)) := rfl
theorem eqX_bl {i j : Bool} {P : Bool → Prop} : eqX (.bl i) (.bl j) P = P (decide (i = j)) := rfl
def MonoG (wg : WG) : Prop := ∀ d ρ (P Q : R → Prop), (∀ ρ, P ρ → Q ρ) → wg d ρ P → wg d ρ Q
def MonoGs (wg : WGs) : Prop := ∀ d ρ (P Q : R → Prop), (∀ ρ, P ρ → Q ρ) → wg d ρ P → wg d ρ Q
theorem mono_name {i : Nat} : MonoG (wgName i) := fun _ _ _ _ h z => h _ z
theorem monos_nil : MonoGs wgNil := fun _ _ _ _ h z => ⟨z.1, h _ z.2⟩
theorem monos_cons {a : WG} {b : WGs} (ha : MonoG a) (hb : MonoGs b) : MonoGs (wgCons a b) := fun d ρ P Q h z => by
  cases d with
  | nil => exact z.elim
  | cons x xs => exact ha _ _ _ _ (fun ρ1 z => hb _ _ _ _ h z) z
theorem mono_tup {n : Nat} {b : WGs} (hb : MonoGs b) : MonoG (wgTup n b) := fun d ρ P Q h z => by
  unfold wgTup at z ⊢
  split at z
  · exact ⟨z.1, hb _ _ _ _ h z.2⟩
  · exact z.elim
theorem forD_map {α : Type} {f : α → D} {wg : WG} {wb : WS} {DD : DEnds} (I : List α → List α → R → Prop) (mg : MonoG wg)
    (items : List α) (step : ∀ xs x ys ρ, items = xs ++ x :: ys → I xs (x :: ys) ρ → wg (f x) ρ fun ρ1 => wb ⟨I (xs ++ [x]) ys, DD.rt, DD.nx, I (xs ++ [x]) ys⟩ ρ1) (hend : ∀ ρ, I items [] ρ → DD.nx ρ) (ρ : R) (h0 : I [] items ρ) : forD wg wb DD (items.map f) ρ := by
  have aux : ∀ (ys xs : List α) (ρ : R), items = xs ++ ys → I xs ys ρ → forD wg wb DD (ys.map f) ρ := by
    intro ys
    induction ys with
    | nil => intro xs ρ e h; rw [List.append_nil] at e; subst e; exact hend ρ h
    | cons y ys ih =>
      intro xs ρ e h
      exact mg _ _ _ _ (fun ρ1 z => ⟨I (xs ++ [y]) ys, fun ρ' h' => ih (xs ++ [y]) ρ' (by rw [e]; simp) h', z⟩) (step xs y ys ρ e h)
  exact aux items [] ρ rfl h0
theorem compD_map {α : Type} {f : α → D} {wg : WG} {wt : WT} {we : W} {ρb : R} (mg : MonoG wg) (g : α → Option D) :
    ∀ (items : List α) (P : List D → Prop), (∀ x ∈ items, ∀ Q : Option D → Prop, Q (g x) → wg (f x) ρb fun ρ1 => wt ρ1 fun b ρ2 => if b = true then we ρ2 fun s _ => Q (some s.fz) else Q none) →
      P (items.filterMap g) → compD wg wt we ρb (items.map f) P
  | [], P, h, p => p
  | x :: xs, P, h, p => by
    have ih := compD_map (f := f) (wt := wt) (we := we) (ρb := ρb) mg g xs
    rw [List.map_cons]
    show wg (f x) ρb fun ρ1 => wt ρ1 fun b ρ2 => if b = true then we ρ2 fun s _ => compD wg wt we ρb (xs.map f) fun r => P (s.fz :: r) else compD wg wt we ρb (xs.map f) P
    refine h x List.mem_cons_self (fun o => match o with
      | some d => compD wg wt we ρb (xs.map f) fun r => P (d :: r)
      | none => compD wg wt we ρb (xs.map f) P) ?_
    cases e : g x with
    | none =>
      rw [List.filterMap_cons, e] at p
      exact ih P (fun y hy => h y (List.mem_cons_of_mem _ hy)) p
    | some d =>
      rw [List.filterMap_cons, e] at p
      exact ih (fun r => P (d :: r)) (fun y hy => h y (List.mem_cons_of_mem _ hy)) p
def fD (a : List Str) : D := .tup (a.map .str)
def asF (d : D) (P : List Str → Prop) : Prop := match d with
  | .tup xs => asA (txts xs) P
  | _ => False
theorem asF_fD {a : List Str} {P : List Str → Prop} : asF (fD a) P = P a := by
  show asA (txts (a.map D.str)) P = _
  rw [txts_map]; rfl
theorem len0 : sizeLine = 16777216 := rfl
theorem txts_eq : ∀ {ds : List D} {bs : List Str}, txts ds = some bs → ds = bs.map D.str
  | [], bs, e => by cases e; rfl
  | d :: ds, bs, e => by
    cases d <;> first | (cases (show (none : Option (List Str)) = some bs from e)) | skip
    rename_i b
    rw [txts] at e
    cases q : txts ds with
    | none => rw [q] at e; cases e
    | some cs => rw [q] at e; cases e; rw [txts_eq q]; rfl
def sp_gathered : DSp := fun ds P _ => match ds with
  | [.lst xs] => asA (txts xs) fun a => a.length ≤ 1048576 ∧ P (.d (fD (gath a)))
  | _ => False
def kvT (l : List Str) : List (Key × D) := l.map fun p => (.inr p, .bl true)
theorem vget_kvT {l : List Str} {p : Str} : vget (kvT l) (.inr p) = if p ∈ l then some (.bl true) else none := by
  induction l with
  | nil => rfl
  | cons q l ih =>
    unfold vget kvT at ih ⊢
    rw [List.map_cons, List.find?_cons]
    by_cases h : q = p
    · subst h; simp
    · have e : decide ((Sum.inr q : Key) = .inr p) = false := decide_eq_false fun z => h (Sum.inr.inj z)
      simp only [e]
      rw [ih]
      have : p ∈ q :: l ↔ p ∈ l := by simp [Ne.symm h]
      simp only [this]
theorem vdrop_kvT {l : List Str} {p : Str} : vdrop (kvT l) (.inr p) = kvT (l.filter fun y => decide (y ≠ p)) := by
  unfold vdrop kvT
  rw [List.filter_map]
  congr 1
  apply List.filter_congr
  intro y _
  simp [Function.comp]
theorem vput_kvT {l : List Str} {p : Str} (h : p ∉ l) : vput (kvT l) (.inr p) (.bl true) = kvT (l ++ [p]) := by
  unfold vput
  have : ((kvT l).any fun kv => decide (kv.1 = (.inr p : Key))) = false := by
    rw [List.any_eq_false]
    intro kv hkv
    obtain ⟨q, hq, rfl⟩ := List.mem_map.mp hkv
    simp only [decide_eq_true_eq]
    exact fun z => h (Sum.inr.inj z ▸ hq)
  rw [this]
  simp [kvT]
theorem txtKeys_kvT {l : List Str} : txtKeys ((kvT l).map (·.1)) = some l := by
  rw [kvT, List.map_map]
  exact txtKeys_map l
abbrev N_gathered : List Str := ["products", "odd", "product"]
def w_gathered_t2 : WS := (wRet (wCB oTuple (wCons (wSortK (wVar 1)) wNil)))
def w_gathered_t1 : WS := wSeq (wFor (wiX (wVar 0)) (wgName 2)
      (wIfS (wLendT (wB (wOp (oInX false) (wVar 2) (wVar 1)))) (wDrop (wDPop 1 (wVar 2))) (wDPut 1 (wVar 2) (wC (.bl true)))))
    w_gathered_t2
def w_gathered : WS := wSeq (wSet 1 wDict0)
    w_gathered_t1
theorem len_gathered {ds Q px} (h : sp_gathered ds Q px) : ds.length = 1 := by unfold sp_gathered at h; split at h <;> first | rfl | exact h.elim
theorem rd_gathered {ds Q px} (h : sp_gathered ds Q px) : w_gathered ⟨fun _ => Q (.d .non), Q, fun _ => False, fun _ => False⟩ (startR N_gathered ds) := by
  unfold sp_gathered at h
  split at h
  · rename_i xs
    obtain ⟨a, e, hl, hq⟩ := asA_of h
    clear h
    have ex := txts_eq e
    subst ex
    unfold w_gathered
    simp only [N_gathered, w_gathered_t1, w_gathered_t2, wSeq, wSet, wAsg, wC, wIfS, wB, wOp, oI, oI0, asI, asS, asL, asLT, asT, asB, asA_some, asA_none, asO, asOL, asOD, asKey, asDic, asSq, oLen, oMod, oAdd, oSub, oMul, oDiv, oMax, oMin, oPlus, oEqX, oNeX, eqX_int, eqX_str, eqX_bl, oCmp, oLtX, oLeX, oGtX, oGeX, oIxX, oInX, wCB, wCons, wNil, wVar, wMove, nth, put, startR, wNext, wRet, wRetN, wDrop, wFor, wiR1, wiR2, wiX, itemsOf, wgName, wgTup, wgCons, wgNil, wLend, wLendT, seeR_cons, seeR_nil, seeO_d, seeO_none, seeO_ol, seeO_od, wJoin, wM, oAppend, oPop, oPopAt, wDPut, wDPop, wSortK, wDict0, wTup, wLst, wCall, wAnd, wOr, wNot, wAndV, wOrV, wNotV, wIf, wYes, wLc, wiEnumX, oListX, oTuple, oSort, oSortSet, oAll, oAny, S.fz, S.own, D.flat, txts_map, bools_map, txtKeys_map, List.length_map, List.map_cons, List.map_nil, List.length_cons, List.length_nil, List.cons_append, List.nil_append, List.replicate, decide_eq_true_eq, Bool.not_eq_true', Bool.not_true, Bool.not_false, if_true, if_false, Nat.zero_add, Nat.reduceAdd, Nat.reduceSub, ge_iff_le, true_and, and_true, zip_unzip, Bool.false_xor, Bool.true_xor, Bool.false_eq_true, Bool.true_eq_false, reduceIte, wipeR, dataR_cons, dataR_nil, dataO_d, dataO_none, dataO_ol, dataO_od, oDict, oIsi, tyD, isiB, wSl, wPart, wNoP, oSl, wDisp1, wDGet2, oRemove, atI_0, atI_1, atI_2, wiRev, revItems, oDictP, wForK, wiKeys, kD, oSortX, oPow, oBitAnd, oShl, oNeg, wUn, oInt, oStr, oDivmod, oIs, isD, wChain, wFz, wFzE, frzR, wLSet, wiZip, seqsD, wiVals, wiItems, wOIx, wNo, Option.isSome_some, oMulX, wM1, oSplit, oPart, oStrip1, oRep, oSum, intsD, wRaise, wLI, wLK
, wiR3, wLR, wDisp, wPairs, oReverse, oClear, oInsert, wRevL, wDZ, seqLT, oSortIT, wOFld, wSFld, asOI, setOI, putG, wPar, wiItemsC, wiValsC, wIndexL]
    refine forD_map (I := fun done _ ρ => ∃ o, ρ = [some (.d (.lst (a.map .str))), some (.od (kvT (done.foldl tog []))), o]) mono_name a (fun done x ys ρ he hI => ?_) (fun ρ hI => ?_) _ ⟨none, rfl⟩
    · obtain ⟨o, rfl⟩ := hI
      have hl2 : (kvT (done.foldl tog [])).length ≤ done.length := by
        unfold kvT
        rw [List.length_map]; exact odds_len done
      have hfold : (done ++ [x]).foldl tog [] = tog (done.foldl tog []) x := by rw [List.foldl_append]; rfl
      simp only [w_gathered_t1, w_gathered_t2, wSeq, wSet, wAsg, wC, wIfS, wB, wOp, oI, oI0, asI, asS, asL, asLT, asT, asB, asA_some, asA_none, asO, asOL, asOD, asKey, asDic, asSq, oLen, oMod, oAdd, oSub, oMul, oDiv, oMax, oMin, oPlus, oEqX, oNeX, eqX_int, eqX_str, eqX_bl, oCmp, oLtX, oLeX, oGtX, oGeX, oIxX, oInX, wCB, wCons, wNil, wVar, wMove, nth, put, startR, wNext, wRet, wRetN, wDrop, wFor, wiR1, wiR2, wiX, itemsOf, wgName, wgTup, wgCons, wgNil, wLend, wLendT, seeR_cons, seeR_nil, seeO_d, seeO_none, seeO_ol, seeO_od, wJoin, wM, oAppend, oPop, oPopAt, wDPut, wDPop, wSortK, wDict0, wTup, wLst, wCall, wAnd, wOr, wNot, wAndV, wOrV, wNotV, wIf, wYes, wLc, wiEnumX, oListX, oTuple, oSort, oSortSet, oAll, oAny, S.fz, S.own, D.flat, txts_map, bools_map, txtKeys_map, List.length_map, List.map_cons, List.map_nil, List.length_cons, List.length_nil, List.cons_append, List.nil_append, List.replicate, decide_eq_true_eq, Bool.not_eq_true', Bool.not_true, Bool.not_false, if_true, if_false, Nat.zero_add, Nat.reduceAdd, Nat.reduceSub, ge_iff_le, true_and, and_true, zip_unzip, Bool.false_xor, Bool.true_xor, Bool.false_eq_true, Bool.true_eq_false, reduceIte, wipeR, dataR_cons, dataR_nil, dataO_d, dataO_none, dataO_ol, dataO_od, oDict, oIsi, tyD, isiB, wSl, wPart, wNoP, oSl, wDisp1, wDGet2, oRemove, atI_0, atI_1, atI_2, wiRev, revItems, oDictP, wForK, wiKeys, kD, oSortX, oPow, oBitAnd, oShl, oNeg, wUn, oInt, oStr, oDivmod, oIs, isD, wChain, wFz, wFzE, frzR, wLSet, wiZip, seqsD, wiVals, wiItems, wOIx, wNo, Option.isSome_some, oMulX, wM1, oSplit, oPart, oStrip1, oRep, oSum, intsD, wRaise, wLI, wLK
, wiR3, wLR, wDisp, wPairs, oReverse, oClear, oInsert, wRevL, wDZ, seqLT, oSortIT, wOFld, wSFld, asOI, setOI, putG, wPar, wiItemsC, wiValsC, wIndexL, vget_kvT, vdrop_kvT, hfold]
      by_cases hx : x ∈ done.foldl tog []
      · simp only [if_pos hx, Option.isSome_some, if_true, tog]
        exact ⟨_, rfl⟩
      · simp only [if_neg hx, Option.isSome_none, Bool.false_eq_true, if_false, vput_kvT hx, tog]
        refine ⟨?_, _, rfl⟩
        have := congrArg List.length he
        rw [List.length_append, List.length_cons] at this
        rw [len0]; omega
    · obtain ⟨o, rfl⟩ := hI
      simp only [w_gathered_t1, w_gathered_t2, wSeq, wSet, wAsg, wC, wIfS, wB, wOp, oI, oI0, asI, asS, asL, asLT, asT, asB, asA_some, asA_none, asO, asOL, asOD, asKey, asDic, asSq, oLen, oMod, oAdd, oSub, oMul, oDiv, oMax, oMin, oPlus, oEqX, oNeX, eqX_int, eqX_str, eqX_bl, oCmp, oLtX, oLeX, oGtX, oGeX, oIxX, oInX, wCB, wCons, wNil, wVar, wMove, nth, put, startR, wNext, wRet, wRetN, wDrop, wFor, wiR1, wiR2, wiX, itemsOf, wgName, wgTup, wgCons, wgNil, wLend, wLendT, seeR_cons, seeR_nil, seeO_d, seeO_none, seeO_ol, seeO_od, wJoin, wM, oAppend, oPop, oPopAt, wDPut, wDPop, wSortK, wDict0, wTup, wLst, wCall, wAnd, wOr, wNot, wAndV, wOrV, wNotV, wIf, wYes, wLc, wiEnumX, oListX, oTuple, oSort, oSortSet, oAll, oAny, S.fz, S.own, D.flat, txts_map, bools_map, txtKeys_map, List.length_map, List.map_cons, List.map_nil, List.length_cons, List.length_nil, List.cons_append, List.nil_append, List.replicate, decide_eq_true_eq, Bool.not_eq_true', Bool.not_true, Bool.not_false, if_true, if_false, Nat.zero_add, Nat.reduceAdd, Nat.reduceSub, ge_iff_le, true_and, and_true, zip_unzip, Bool.false_xor, Bool.true_xor, Bool.false_eq_true, Bool.true_eq_false, reduceIte, wipeR, dataR_cons, dataR_nil, dataO_d, dataO_none, dataO_ol, dataO_od, oDict, oIsi, tyD, isiB, wSl, wPart, wNoP, oSl, wDisp1, wDGet2, oRemove, atI_0, atI_1, atI_2, wiRev, revItems, oDictP, wForK, wiKeys, kD, oSortX, oPow, oBitAnd, oShl, oNeg, wUn, oInt, oStr, oDivmod, oIs, isD, wChain, wFz, wFzE, frzR, wLSet, wiZip, seqsD, wiVals, wiItems, wOIx, wNo, Option.isSome_some, oMulX, wM1, oSplit, oPart, oStrip1, oRep, oSum, intsD, wRaise, wLI, wLK
, wiR3, wLR, wDisp, wPairs, oReverse, oClear, oInsert, wRevL, wDZ, seqLT, oSortIT, wOFld, wSFld, asOI, setOI, putG, wPar, wiItemsC, wiValsC, wIndexL, txtKeys_kvT]
      exact hq
  · exact h.elim
def sp_added : DSp := fun ds P _ => match ds with
  | [x, y] => asF x fun a => asF y fun b => (a.length ≤ 262144 ∧ b.length ≤ 262144) ∧ P (.d (fD (addedF a b)))
  | _ => False
theorem asF_of {d : D} {P : List Str → Prop} (h : asF d P) : ∃ a, d = fD a ∧ P a := by
  unfold asF at h
  split at h
  · obtain ⟨a, e, h⟩ := asA_of h
    exact ⟨a, by rw [txts_eq e]; rfl, h⟩
  · exact h.elim
abbrev N_added : List Str := ["one", "other"]
def w_added : WS := (wRet (wCall sp_gathered (fun _ _ => False) (wCons (wOp oPlus (wCB oListX (wCons (wVar 0) wNil)) (wCB oListX (wCons (wVar 1) wNil))) wNil)))
theorem len_added {ds Q px} (h : sp_added ds Q px) : ds.length = 2 := by unfold sp_added at h; split at h <;> first | rfl | exact h.elim
theorem rd_added {ds Q px} (h : sp_added ds Q px) : w_added ⟨fun _ => Q (.d .non), Q, fun _ => False, fun _ => False⟩ (startR N_added ds) := by
  unfold sp_added at h
  split at h
  · obtain ⟨a, rfl, g⟩ := asF_of h
    obtain ⟨b, rfl, ⟨h1, h2⟩, hq⟩ := asF_of g
    clear h g
    unfold w_added
    simp only [N_added, fD, wSeq, wSet, wAsg, wC, wIfS, wB, wOp, oI, oI0, asI, asS, asL, asLT, asT, asB, asA_some, asA_none, asO, asOL, asOD, asKey, asDic, asSq, oLen, oMod, oAdd, oSub, oMul, oDiv, oMax, oMin, oPlus, oEqX, oNeX, eqX_int, eqX_str, eqX_bl, oCmp, oLtX, oLeX, oGtX, oGeX, oIxX, oInX, wCB, wCons, wNil, wVar, wMove, nth, put, startR, wNext, wRet, wRetN, wDrop, wFor, wiR1, wiR2, wiX, itemsOf, wgName, wgTup, wgCons, wgNil, wLend, wLendT, seeR_cons, seeR_nil, seeO_d, seeO_none, seeO_ol, seeO_od, wJoin, wM, oAppend, oPop, oPopAt, wDPut, wDPop, wSortK, wDict0, wTup, wLst, wCall, wAnd, wOr, wNot, wAndV, wOrV, wNotV, wIf, wYes, wLc, wiEnumX, oListX, oTuple, oSort, oSortSet, oAll, oAny, S.fz, S.own, D.flat, txts_map, bools_map, txtKeys_map, List.length_map, List.map_cons, List.map_nil, List.length_cons, List.length_nil, List.cons_append, List.nil_append, List.replicate, decide_eq_true_eq, Bool.not_eq_true', Bool.not_true, Bool.not_false, if_true, if_false, Nat.zero_add, Nat.reduceAdd, Nat.reduceSub, ge_iff_le, true_and, and_true, zip_unzip, Bool.false_xor, Bool.true_xor, Bool.false_eq_true, Bool.true_eq_false, reduceIte, wipeR, dataR_cons, dataR_nil, dataO_d, dataO_none, dataO_ol, dataO_od, oDict, oIsi, tyD, isiB, wSl, wPart, wNoP, oSl, wDisp1, wDGet2, oRemove, atI_0, atI_1, atI_2, wiRev, revItems, oDictP, wForK, wiKeys, kD, oSortX, oPow, oBitAnd, oShl, oNeg, wUn, oInt, oStr, oDivmod, oIs, isD, wChain, wFz, wFzE, frzR, wLSet, wiZip, seqsD, wiVals, wiItems, wOIx, wNo, Option.isSome_some, oMulX, wM1, oSplit, oPart, oStrip1, oRep, oSum, intsD, wRaise, wLI, wLK
, wiR3, wLR, wDisp, wPairs, oReverse, oClear, oInsert, wRevL, wDZ, seqLT, oSortIT, wOFld, wSFld, asOI, setOI, putG, wPar, wiItemsC, wiValsC, wIndexL, sp_gathered]
    rw [← List.map_append]
    simp only [txts_map, asA_some, List.length_append]
    exact ⟨by rw [len0]; omega, by omega, hq⟩
  · exact h.elim
def sp_both_letters : DSp := fun ds P _ => match ds with
  | [x, y] => asS x fun p => asS y fun q => ((sg p).length ≤ 1000 ∧ (sg q).length ≤ 1000) ∧ P (.d (.str (bothF p q)))
  | _ => False
theorem srtset_len (xs : List Str) : (srtset xs).length ≤ xs.length := by
  unfold srtset
  rw [(srt_perm _).length_eq]
  exact (nodup_met xs).length_le_of_subset fun x hx => mem_met.mp hx
theorem ones_sum : ∀ cs : List Nat, ((cs.map one).map (·.length)).sum = cs.length
  | [] => rfl
  | c :: cs => by
    rw [List.map_cons, List.map_cons, List.sum_cons, ones_sum cs, List.length_cons]
    show 1 + _ = _
    omega
theorem lets_fit {z : Str} (h : (sg z).length ≤ 100000) : ((srtset (signs z)).map (·.length)).sum + (srtset (signs z)).length * (Str.length "") ≤ 16777216 := by
  have h1 := srtset_len (signs z)
  obtain ⟨cs, e, _, _⟩ := srtset_signs z
  rw [e] at h1 ⊢
  rw [ones_sum]
  rw [List.length_map] at h1
  have h2 : (signs z).length = (sg z).length := by simp [signs, sg]
  have h3 : Str.length "" = 0 := by decide +kernel
  rw [h3, Nat.mul_zero]
  omega
abbrev N_both_letters : List Str := ["one", "other"]
def w_both_letters : WS := (wRet (wJoin (wC (.str "")) (wCB oSortSet (wCons (wOp oPlus (wVar 0) (wVar 1)) wNil))))
theorem len_both_letters {ds Q px} (h : sp_both_letters ds Q px) : ds.length = 2 := by unfold sp_both_letters at h; split at h <;> first | rfl | exact h.elim
theorem rd_both_letters {ds Q px} (h : sp_both_letters ds Q px) : w_both_letters ⟨fun _ => Q (.d .non), Q, fun _ => False, fun _ => False⟩ (startR N_both_letters ds) := by
  unfold sp_both_letters at h
  split at h
  · rename_i x y
    cases x <;> first | exact h.elim | skip
    cases y <;> first | exact h.elim | skip
    rename_i p q
    obtain ⟨⟨h1, h2⟩, hq⟩ := h
    unfold w_both_letters
    simp only [N_both_letters, wSeq, wSet, wAsg, wC, wIfS, wB, wOp, oI, oI0, asI, asS, asL, asLT, asT, asB, asA_some, asA_none, asO, asOL, asOD, asKey, asDic, asSq, oLen, oMod, oAdd, oSub, oMul, oDiv, oMax, oMin, oPlus, oEqX, oNeX, eqX_int, eqX_str, eqX_bl, oCmp, oLtX, oLeX, oGtX, oGeX, oIxX, oInX, wCB, wCons, wNil, wVar, wMove, nth, put, startR, wNext, wRet, wRetN, wDrop, wFor, wiR1, wiR2, wiX, itemsOf, wgName, wgTup, wgCons, wgNil, wLend, wLendT, seeR_cons, seeR_nil, seeO_d, seeO_none, seeO_ol, seeO_od, wJoin, wM, oAppend, oPop, oPopAt, wDPut, wDPop, wSortK, wDict0, wTup, wLst, wCall, wAnd, wOr, wNot, wAndV, wOrV, wNotV, wIf, wYes, wLc, wiEnumX, oListX, oTuple, oSort, oSortSet, oAll, oAny, S.fz, S.own, D.flat, txts_map, bools_map, txtKeys_map, List.length_map, List.map_cons, List.map_nil, List.length_cons, List.length_nil, List.cons_append, List.nil_append, List.replicate, decide_eq_true_eq, Bool.not_eq_true', Bool.not_true, Bool.not_false, if_true, if_false, Nat.zero_add, Nat.reduceAdd, Nat.reduceSub, ge_iff_le, true_and, and_true, zip_unzip, Bool.false_xor, Bool.true_xor, Bool.false_eq_true, Bool.true_eq_false, reduceIte, wipeR, dataR_cons, dataR_nil, dataO_d, dataO_none, dataO_ol, dataO_od, oDict, oIsi, tyD, isiB, wSl, wPart, wNoP, oSl, wDisp1, wDGet2, oRemove, atI_0, atI_1, atI_2, wiRev, revItems, oDictP, wForK, wiKeys, kD, oSortX, oPow, oBitAnd, oShl, oNeg, wUn, oInt, oStr, oDivmod, oIs, isD, wChain, wFz, wFzE, frzR, wLSet, wiZip, seqsD, wiVals, wiItems, wOIx, wNo, Option.isSome_some, oMulX, wM1, oSplit, oPart, oStrip1, oRep, oSum, intsD, wRaise, wLI, wLK
, wiR3, wLR, wDisp, wPairs, oReverse, oClear, oInsert, wRevL, wDZ, seqLT, oSortIT, wOFld, wSFld, asOI, setOI, putG, wPar, wiItemsC, wiValsC, wIndexL]
    have e : (sg (p ++ q)).length ≤ 2000 := by rw [sg_append, List.length_append]; omega
    refine ⟨by rw [len0, sg_len, sg_len]; omega, by rw [sg_len]; show _ < 4096; omega, lets_fit (by omega), hq⟩
  · exact h.elim
def sp_multiplied : DSp := fun ds P _ => match ds with
  | [x, y] => asF x fun a => asF y fun b => (Frm a ∧ Frm b) ∧ P (.d (fD (mulF a b)))
  | _ => False
abbrev N_multiplied : List Str := ["one", "other", "products", "product", "factor"]
def w_multiplied_t2 : WS := (wRet (wCall sp_gathered (fun _ _ => False) (wCons (wVar 2) wNil)))
def w_multiplied_t1 : WS := wSeq (wFor (wiX (wVar 0)) (wgName 3)
      (wFor (wiX (wVar 1)) (wgName 4)
      (wDrop (wM 2 oAppend (wCons (wCall sp_both_letters (fun _ _ => False) (wCons (wVar 3) (wCons (wVar 4) wNil))) wNil)))))
    w_multiplied_t2
def w_multiplied : WS := wSeq (wSet 2 (wLst wNil))
    w_multiplied_t1
theorem len_multiplied {ds Q px} (h : sp_multiplied ds Q px) : ds.length = 2 := by unfold sp_multiplied at h; split at h <;> first | rfl | exact h.elim
theorem pairsF_snoc (a b : List Str) (p : Str) : pairsF (a ++ [p]) b = pairsF a b ++ b.map (bothF p) := by simp [pairsF]
theorem rd_multiplied {ds Q px} (h : sp_multiplied ds Q px) : w_multiplied ⟨fun _ => Q (.d .non), Q, fun _ => False, fun _ => False⟩ (startR N_multiplied ds) := by
  unfold sp_multiplied at h
  split at h
  · obtain ⟨a, rfl, g⟩ := asF_of h
    obtain ⟨b, rfl, ⟨ha, hb⟩, hq⟩ := asF_of g
    clear h g
    unfold w_multiplied
    simp only [N_multiplied, fD, w_multiplied_t1, w_multiplied_t2, wSeq, wSet, wAsg, wC, wIfS, wB, wOp, oI, oI0, asI, asS, asL, asLT, asT, asB, asA_some, asA_none, asO, asOL, asOD, asKey, asDic, asSq, oLen, oMod, oAdd, oSub, oMul, oDiv, oMax, oMin, oPlus, oEqX, oNeX, eqX_int, eqX_str, eqX_bl, oCmp, oLtX, oLeX, oGtX, oGeX, oIxX, oInX, wCB, wCons, wNil, wVar, wMove, nth, put, startR, wNext, wRet, wRetN, wDrop, wFor, wiR1, wiR2, wiX, itemsOf, wgName, wgTup, wgCons, wgNil, wLend, wLendT, seeR_cons, seeR_nil, seeO_d, seeO_none, seeO_ol, seeO_od, wJoin, wM, oAppend, oPop, oPopAt, wDPut, wDPop, wSortK, wDict0, wTup, wLst, wCall, wAnd, wOr, wNot, wAndV, wOrV, wNotV, wIf, wYes, wLc, wiEnumX, oListX, oTuple, oSort, oSortSet, oAll, oAny, S.fz, S.own, D.flat, txts_map, bools_map, txtKeys_map, List.length_map, List.map_cons, List.map_nil, List.length_cons, List.length_nil, List.cons_append, List.nil_append, List.replicate, decide_eq_true_eq, Bool.not_eq_true', Bool.not_true, Bool.not_false, if_true, if_false, Nat.zero_add, Nat.reduceAdd, Nat.reduceSub, ge_iff_le, true_and, and_true, zip_unzip, Bool.false_xor, Bool.true_xor, Bool.false_eq_true, Bool.true_eq_false, reduceIte, wipeR, dataR_cons, dataR_nil, dataO_d, dataO_none, dataO_ol, dataO_od, oDict, oIsi, tyD, isiB, wSl, wPart, wNoP, oSl, wDisp1, wDGet2, oRemove, atI_0, atI_1, atI_2, wiRev, revItems, oDictP, wForK, wiKeys, kD, oSortX, oPow, oBitAnd, oShl, oNeg, wUn, oInt, oStr, oDivmod, oIs, isD, wChain, wFz, wFzE, frzR, wLSet, wiZip, seqsD, wiVals, wiItems, wOIx, wNo, Option.isSome_some, oMulX, wM1, oSplit, oPart, oStrip1, oRep, oSum, intsD, wRaise, wLI, wLK
, wiR3, wLR, wDisp, wPairs, oReverse, oClear, oInsert, wRevL, wDZ, seqLT, oSortIT, wOFld, wSFld, asOI, setOI, putG, wPar, wiItemsC, wiValsC, wIndexL]
    refine ⟨by decide, ?_⟩
    have la := ha.len
    have lb := hb.len
    refine forD_map (I := fun done _ ρ => ∃ o1 o2, ρ = [some (.d (.tup (a.map .str))), some (.d (.tup (b.map .str))), some (.ol ((pairsF done b).map .str)), o1, o2]) mono_name a (fun done p ys ρ he hI => ?_) (fun ρ hI => ?_) _ ⟨none, none, rfl⟩
    · obtain ⟨o1, o2, rfl⟩ := hI
      have hp : Prd p := ha.prd p (by rw [he]; simp)
      have l1 := congrArg List.length he
      rw [List.length_append, List.length_cons] at l1
      simp only [fD, w_multiplied_t1, w_multiplied_t2, wSeq, wSet, wAsg, wC, wIfS, wB, wOp, oI, oI0, asI, asS, asL, asLT, asT, asB, asA_some, asA_none, asO, asOL, asOD, asKey, asDic, asSq, oLen, oMod, oAdd, oSub, oMul, oDiv, oMax, oMin, oPlus, oEqX, oNeX, eqX_int, eqX_str, eqX_bl, oCmp, oLtX, oLeX, oGtX, oGeX, oIxX, oInX, wCB, wCons, wNil, wVar, wMove, nth, put, startR, wNext, wRet, wRetN, wDrop, wFor, wiR1, wiR2, wiX, itemsOf, wgName, wgTup, wgCons, wgNil, wLend, wLendT, seeR_cons, seeR_nil, seeO_d, seeO_none, seeO_ol, seeO_od, wJoin, wM, oAppend, oPop, oPopAt, wDPut, wDPop, wSortK, wDict0, wTup, wLst, wCall, wAnd, wOr, wNot, wAndV, wOrV, wNotV, wIf, wYes, wLc, wiEnumX, oListX, oTuple, oSort, oSortSet, oAll, oAny, S.fz, S.own, D.flat, txts_map, bools_map, txtKeys_map, List.length_map, List.map_cons, List.map_nil, List.length_cons, List.length_nil, List.cons_append, List.nil_append, List.replicate, decide_eq_true_eq, Bool.not_eq_true', Bool.not_true, Bool.not_false, if_true, if_false, Nat.zero_add, Nat.reduceAdd, Nat.reduceSub, ge_iff_le, true_and, and_true, zip_unzip, Bool.false_xor, Bool.true_xor, Bool.false_eq_true, Bool.true_eq_false, reduceIte, wipeR, dataR_cons, dataR_nil, dataO_d, dataO_none, dataO_ol, dataO_od, oDict, oIsi, tyD, isiB, wSl, wPart, wNoP, oSl, wDisp1, wDGet2, oRemove, atI_0, atI_1, atI_2, wiRev, revItems, oDictP, wForK, wiKeys, kD, oSortX, oPow, oBitAnd, oShl, oNeg, wUn, oInt, oStr, oDivmod, oIs, isD, wChain, wFz, wFzE, frzR, wLSet, wiZip, seqsD, wiVals, wiItems, wOIx, wNo, Option.isSome_some, oMulX, wM1, oSplit, oPart, oStrip1, oRep, oSum, intsD, wRaise, wLI, wLK
, wiR3, wLR, wDisp, wPairs, oReverse, oClear, oInsert, wRevL, wDZ, seqLT, oSortIT, wOFld, wSFld, asOI, setOI, putG, wPar, wiItemsC, wiValsC, wIndexL]
      refine forD_map (I := fun done2 _ ρ => ∃ o2, ρ = [some (.d (.tup (a.map .str))), some (.d (.tup (b.map .str))), some (.ol ((pairsF done b ++ done2.map (bothF p)).map .str)), some (.d (.str p)), o2]) mono_name b (fun done2 q ys2 ρ he2 hI => ?_) (fun ρ hI => ?_) _ ⟨o2, by rw [List.map_nil, List.append_nil]⟩
      · obtain ⟨o2, rfl⟩ := hI
        have hq2 : Prd q := hb.prd q (by rw [he2]; simp)
        have l2 := congrArg List.length he2
        rw [List.length_append, List.length_cons] at l2
        simp only [w_multiplied_t1, w_multiplied_t2, wSeq, wSet, wAsg, wC, wIfS, wB, wOp, oI, oI0, asI, asS, asL, asLT, asT, asB, asA_some, asA_none, asO, asOL, asOD, asKey, asDic, asSq, oLen, oMod, oAdd, oSub, oMul, oDiv, oMax, oMin, oPlus, oEqX, oNeX, eqX_int, eqX_str, eqX_bl, oCmp, oLtX, oLeX, oGtX, oGeX, oIxX, oInX, wCB, wCons, wNil, wVar, wMove, nth, put, startR, wNext, wRet, wRetN, wDrop, wFor, wiR1, wiR2, wiX, itemsOf, wgName, wgTup, wgCons, wgNil, wLend, wLendT, seeR_cons, seeR_nil, seeO_d, seeO_none, seeO_ol, seeO_od, wJoin, wM, oAppend, oPop, oPopAt, wDPut, wDPop, wSortK, wDict0, wTup, wLst, wCall, wAnd, wOr, wNot, wAndV, wOrV, wNotV, wIf, wYes, wLc, wiEnumX, oListX, oTuple, oSort, oSortSet, oAll, oAny, S.fz, S.own, D.flat, txts_map, bools_map, txtKeys_map, List.length_map, List.map_cons, List.map_nil, List.length_cons, List.length_nil, List.cons_append, List.nil_append, List.replicate, decide_eq_true_eq, Bool.not_eq_true', Bool.not_true, Bool.not_false, if_true, if_false, Nat.zero_add, Nat.reduceAdd, Nat.reduceSub, ge_iff_le, true_and, and_true, zip_unzip, Bool.false_xor, Bool.true_xor, Bool.false_eq_true, Bool.true_eq_false, reduceIte, wipeR, dataR_cons, dataR_nil, dataO_d, dataO_none, dataO_ol, dataO_od, oDict, oIsi, tyD, isiB, wSl, wPart, wNoP, oSl, wDisp1, wDGet2, oRemove, atI_0, atI_1, atI_2, wiRev, revItems, oDictP, wForK, wiKeys, kD, oSortX, oPow, oBitAnd, oShl, oNeg, wUn, oInt, oStr, oDivmod, oIs, isD, wChain, wFz, wFzE, frzR, wLSet, wiZip, seqsD, wiVals, wiItems, wOIx, wNo, Option.isSome_some, oMulX, wM1, oSplit, oPart, oStrip1, oRep, oSum, intsD, wRaise, wLI, wLK
, wiR3, wLR, wDisp, wPairs, oReverse, oClear, oInsert, wRevL, wDZ, seqLT, oSortIT, wOFld, wSFld, asOI, setOI, putG, wPar, wiItemsC, wiValsC, wIndexL, sp_both_letters]
        refine ⟨⟨by have := hp.len; omega, by have := hq2.len; omega⟩, ?_, some (.d (.str q)), ?_⟩
        · rw [List.length_append, List.length_map, pairs_len, len0]
          have : done.length * b.length ≤ 512 * 512 := Nat.mul_le_mul (by omega) lb
          omega
        · simp
      · obtain ⟨o2, rfl⟩ := hI
        exact ⟨_, _, by rw [pairsF_snoc]⟩
    · obtain ⟨o1, o2, rfl⟩ := hI
      simp only [w_multiplied_t1, w_multiplied_t2, wSeq, wSet, wAsg, wC, wIfS, wB, wOp, oI, oI0, asI, asS, asL, asLT, asT, asB, asA_some, asA_none, asO, asOL, asOD, asKey, asDic, asSq, oLen, oMod, oAdd, oSub, oMul, oDiv, oMax, oMin, oPlus, oEqX, oNeX, eqX_int, eqX_str, eqX_bl, oCmp, oLtX, oLeX, oGtX, oGeX, oIxX, oInX, wCB, wCons, wNil, wVar, wMove, nth, put, startR, wNext, wRet, wRetN, wDrop, wFor, wiR1, wiR2, wiX, itemsOf, wgName, wgTup, wgCons, wgNil, wLend, wLendT, seeR_cons, seeR_nil, seeO_d, seeO_none, seeO_ol, seeO_od, wJoin, wM, oAppend, oPop, oPopAt, wDPut, wDPop, wSortK, wDict0, wTup, wLst, wCall, wAnd, wOr, wNot, wAndV, wOrV, wNotV, wIf, wYes, wLc, wiEnumX, oListX, oTuple, oSort, oSortSet, oAll, oAny, S.fz, S.own, D.flat, txts_map, bools_map, txtKeys_map, List.length_map, List.map_cons, List.map_nil, List.length_cons, List.length_nil, List.cons_append, List.nil_append, List.replicate, decide_eq_true_eq, Bool.not_eq_true', Bool.not_true, Bool.not_false, if_true, if_false, Nat.zero_add, Nat.reduceAdd, Nat.reduceSub, ge_iff_le, true_and, and_true, zip_unzip, Bool.false_xor, Bool.true_xor, Bool.false_eq_true, Bool.true_eq_false, reduceIte, wipeR, dataR_cons, dataR_nil, dataO_d, dataO_none, dataO_ol, dataO_od, oDict, oIsi, tyD, isiB, wSl, wPart, wNoP, oSl, wDisp1, wDGet2, oRemove, atI_0, atI_1, atI_2, wiRev, revItems, oDictP, wForK, wiKeys, kD, oSortX, oPow, oBitAnd, oShl, oNeg, wUn, oInt, oStr, oDivmod, oIs, isD, wChain, wFz, wFzE, frzR, wLSet, wiZip, seqsD, wiVals, wiItems, wOIx, wNo, Option.isSome_some, oMulX, wM1, oSplit, oPart, oStrip1, oRep, oSum, intsD, wRaise, wLI, wLK
, wiR3, wLR, wDisp, wPairs, oReverse, oClear, oInsert, wRevL, wDZ, seqLT, oSortIT, wOFld, wSFld, asOI, setOI, putG, wPar, wiItemsC, wiValsC, wIndexL, sp_gathered, pairs_len]
      refine ⟨?_, hq⟩
      have : a.length * b.length ≤ 512 * 512 := Nat.mul_le_mul la lb
      omega
  · exact h.elim
def sp_opposite : DSp := fun ds P _ => match ds with
  | [x] => asF x fun a => Frm a ∧ P (.d (fD (oppF a)))
  | _ => False
abbrev N_opposite : List Str := ["form"]
def w_opposite : WS := (wRet (wCall sp_added (fun _ _ => False) (wCons (wVar 0) (wCons (wTup (wCons (wC (.str "")) wNil)) wNil))))
theorem len_opposite {ds Q px} (h : sp_opposite ds Q px) : ds.length = 1 := by unfold sp_opposite at h; split at h <;> first | rfl | exact h.elim
theorem oneF_fD : D.tup [D.str ""] = fD oneF := rfl
theorem rd_opposite {ds Q px} (h : sp_opposite ds Q px) : w_opposite ⟨fun _ => Q (.d .non), Q, fun _ => False, fun _ => False⟩ (startR N_opposite ds) := by
  unfold sp_opposite at h
  split at h
  · obtain ⟨a, rfl, ha, hq⟩ := asF_of h
    clear h
    unfold w_opposite
    simp only [N_opposite, wSeq, wSet, wAsg, wC, wIfS, wB, wOp, oI, oI0, asI, asS, asL, asLT, asT, asB, asA_some, asA_none, asO, asOL, asOD, asKey, asDic, asSq, oLen, oMod, oAdd, oSub, oMul, oDiv, oMax, oMin, oPlus, oEqX, oNeX, eqX_int, eqX_str, eqX_bl, oCmp, oLtX, oLeX, oGtX, oGeX, oIxX, oInX, wCB, wCons, wNil, wVar, wMove, nth, put, startR, wNext, wRet, wRetN, wDrop, wFor, wiR1, wiR2, wiX, itemsOf, wgName, wgTup, wgCons, wgNil, wLend, wLendT, seeR_cons, seeR_nil, seeO_d, seeO_none, seeO_ol, seeO_od, wJoin, wM, oAppend, oPop, oPopAt, wDPut, wDPop, wSortK, wDict0, wTup, wLst, wCall, wAnd, wOr, wNot, wAndV, wOrV, wNotV, wIf, wYes, wLc, wiEnumX, oListX, oTuple, oSort, oSortSet, oAll, oAny, S.fz, S.own, D.flat, txts_map, bools_map, txtKeys_map, List.length_map, List.map_cons, List.map_nil, List.length_cons, List.length_nil, List.cons_append, List.nil_append, List.replicate, decide_eq_true_eq, Bool.not_eq_true', Bool.not_true, Bool.not_false, if_true, if_false, Nat.zero_add, Nat.reduceAdd, Nat.reduceSub, ge_iff_le, true_and, and_true, zip_unzip, Bool.false_xor, Bool.true_xor, Bool.false_eq_true, Bool.true_eq_false, reduceIte, wipeR, dataR_cons, dataR_nil, dataO_d, dataO_none, dataO_ol, dataO_od, oDict, oIsi, tyD, isiB, wSl, wPart, wNoP, oSl, wDisp1, wDGet2, oRemove, atI_0, atI_1, atI_2, wiRev, revItems, oDictP, wForK, wiKeys, kD, oSortX, oPow, oBitAnd, oShl, oNeg, wUn, oInt, oStr, oDivmod, oIs, isD, wChain, wFz, wFzE, frzR, wLSet, wiZip, seqsD, wiVals, wiItems, wOIx, wNo, Option.isSome_some, oMulX, wM1, oSplit, oPart, oStrip1, oRep, oSum, intsD, wRaise, wLI, wLK
, wiR3, wLR, wDisp, wPairs, oReverse, oClear, oInsert, wRevL, wDZ, seqLT, oSortIT, wOFld, wSFld, asOI, setOI, putG, wPar, wiItemsC, wiValsC, wIndexL, sp_added, asF_fD, oneF_fD]
    have := ha.len
    exact ⟨by decide, ⟨by omega, by decide⟩, hq⟩
  · exact h.elim
def sp_joined : DSp := fun ds P _ => match ds with
  | [x, y] => asF x fun a => asF y fun b => (Frm a ∧ Frm b) ∧ P (.d (fD (joinF a b)))
  | _ => False
abbrev N_joined : List Str := ["one", "other"]
def w_joined : WS := (wRet (wCall sp_added (fun _ _ => False) (wCons (wCall sp_added (fun _ _ => False) (wCons (wVar 0) (wCons (wVar 1) wNil))) (wCons (wCall sp_multiplied (fun _ _ => False) (wCons (wVar 0) (wCons (wVar 1) wNil))) wNil))))
theorem len_joined {ds Q px} (h : sp_joined ds Q px) : ds.length = 2 := by unfold sp_joined at h; split at h <;> first | rfl | exact h.elim
theorem rd_joined {ds Q px} (h : sp_joined ds Q px) : w_joined ⟨fun _ => Q (.d .non), Q, fun _ => False, fun _ => False⟩ (startR N_joined ds) := by
  unfold sp_joined at h
  split at h
  · obtain ⟨a, rfl, g⟩ := asF_of h
    obtain ⟨b, rfl, ⟨ha, hb⟩, hq⟩ := asF_of g
    clear h g
    unfold w_joined
    simp only [N_joined, wSeq, wSet, wAsg, wC, wIfS, wB, wOp, oI, oI0, asI, asS, asL, asLT, asT, asB, asA_some, asA_none, asO, asOL, asOD, asKey, asDic, asSq, oLen, oMod, oAdd, oSub, oMul, oDiv, oMax, oMin, oPlus, oEqX, oNeX, eqX_int, eqX_str, eqX_bl, oCmp, oLtX, oLeX, oGtX, oGeX, oIxX, oInX, wCB, wCons, wNil, wVar, wMove, nth, put, startR, wNext, wRet, wRetN, wDrop, wFor, wiR1, wiR2, wiX, itemsOf, wgName, wgTup, wgCons, wgNil, wLend, wLendT, seeR_cons, seeR_nil, seeO_d, seeO_none, seeO_ol, seeO_od, wJoin, wM, oAppend, oPop, oPopAt, wDPut, wDPop, wSortK, wDict0, wTup, wLst, wCall, wAnd, wOr, wNot, wAndV, wOrV, wNotV, wIf, wYes, wLc, wiEnumX, oListX, oTuple, oSort, oSortSet, oAll, oAny, S.fz, S.own, D.flat, txts_map, bools_map, txtKeys_map, List.length_map, List.map_cons, List.map_nil, List.length_cons, List.length_nil, List.cons_append, List.nil_append, List.replicate, decide_eq_true_eq, Bool.not_eq_true', Bool.not_true, Bool.not_false, if_true, if_false, Nat.zero_add, Nat.reduceAdd, Nat.reduceSub, ge_iff_le, true_and, and_true, zip_unzip, Bool.false_xor, Bool.true_xor, Bool.false_eq_true, Bool.true_eq_false, reduceIte, wipeR, dataR_cons, dataR_nil, dataO_d, dataO_none, dataO_ol, dataO_od, oDict, oIsi, tyD, isiB, wSl, wPart, wNoP, oSl, wDisp1, wDGet2, oRemove, atI_0, atI_1, atI_2, wiRev, revItems, oDictP, wForK, wiKeys, kD, oSortX, oPow, oBitAnd, oShl, oNeg, wUn, oInt, oStr, oDivmod, oIs, isD, wChain, wFz, wFzE, frzR, wLSet, wiZip, seqsD, wiVals, wiItems, wOIx, wNo, Option.isSome_some, oMulX, wM1, oSplit, oPart, oStrip1, oRep, oSum, intsD, wRaise, wLI, wLK
, wiR3, wLR, wDisp, wPairs, oReverse, oClear, oInsert, wRevL, wDZ, seqLT, oSortIT, wOFld, wSFld, asOI, setOI, putG, wPar, wiItemsC, wiValsC, wIndexL, sp_added, sp_multiplied, asF_fD]
    have := ha.len
    have := hb.len
    have := (frm_added ha hb).len
    have := (frm_mul ha hb).len
    exact ⟨⟨by omega, by omega⟩, ⟨ha, hb⟩, ⟨by omega, by omega⟩, hq⟩
  · exact h.elim
theorem strOk_prd {p : Str} (h : Prd p) : PyData.strOk p = true := by
  have hh : ∀ c ∈ sg p, c < 0x110000 := fun c hc => by
    have := h.le c hc
    simp [LET] at this
    omega
  unfold PyData.strOk
  rw [← Array.all_toList, List.all_eq_true]
  exact fun c hc => decide_eq_true (hh c hc)
theorem pyds_strs : ∀ a : List Str, pyds (a.map .str) = some (a.map .str)
  | [] => rfl
  | x :: a => by rw [List.map_cons, pyds, pyds_strs a]; rfl
theorem pyd_fD (a : List Str) : pyd (fD a) = some (.tuple (a.map .str)) := by
  unfold fD pyd; rw [pyds_strs]; rfl
theorem canLay_strs : ∀ a : List Str, (∀ p ∈ a, PyData.strOk p = true) → PyData.canLayAll0 (a.map .str) = true
  | [], _ => rfl
  | x :: a, h => by
    rw [List.map_cons, PyData.canLayAll0, canLay_strs a fun p hp => h p (List.mem_cons_of_mem _ hp), Bool.and_true]
    exact h x List.mem_cons_self
theorem depth_strs : ∀ a : List Str, PyData.depthAll (a.map .str) ≤ 1
  | [] => by decide
  | x :: a => by
    rw [List.map_cons]
    have := depth_strs a
    simp only [PyData.depthAll, PyData.depth]
    omega
theorem shaped_fD {a : List Str} (h : ∀ p ∈ a, PyData.strOk p = true) : SeqAt.shaped (.tuple (a.map .str)) = true := by
  unfold SeqAt.shaped
  rw [Bool.and_eq_true]
  refine ⟨canLay_strs a h, decide_eq_true ?_⟩
  have := depth_strs a
  simp only [PyData.depth]
  omega
theorem eqvAll_strs : ∀ a b : List Str, PyData.eqvAll (a.map .str) (b.map .str) = decide (a = b)
  | [], [] => rfl
  | [], y :: b => rfl
  | x :: a, [] => rfl
  | x :: a, y :: b => by
    rw [List.map_cons, List.map_cons, PyData.eqvAll, eqvAll_strs a b]
    show (x == y && _) = _
    rw [Bool.eq_iff_iff]
    simp
theorem eqX_fD {a b : List Str} {P : Bool → Prop} (ha : ∀ p ∈ a, PyData.strOk p = true) (hb : ∀ p ∈ b, PyData.strOk p = true) : eqX (fD a) (fD b) P = P (decide (a = b)) := by
  have e : eqS (fD a) (fD b) = none := rfl
  unfold eqX
  rw [e]
  show asA (pyd (fD a)) (fun q => asA (pyd (fD b)) fun r => SeqAt.shaped q = true ∧ SeqAt.shaped r = true ∧ P (PyData.eqv q r)) = _
  rw [pyd_fD, pyd_fD]
  show (SeqAt.shaped _ = true ∧ SeqAt.shaped _ = true ∧ P (PyData.eqvAll _ _)) = _
  rw [shaped_fD ha, shaped_fD hb, eqvAll_strs]
  simp
theorem Frm.ok {a : List Str} (h : Frm a) : ∀ p ∈ a, PyData.strOk p = true := fun p hp => strOk_prd (h.prd p hp)
theorem eqX_frm {a b : List Str} {P : Bool → Prop} (ha : Frm a) (hb : Frm b) : eqX (fD a) (fD b) P = P (decide (a = b)) := eqX_fD ha.ok hb.ok
end DL
namespace DL
open PySem L2
theorem atI_in {α : Type} {xs : List α} {i : Int} (h0 : 0 ≤ i) (h : i < xs.length) : ∃ v, atI xs i = some v ∧ v ∈ xs := by
  have hi : i.toNat < xs.length := by omega
  refine ⟨xs[i.toNat], ?_, List.getElem_mem hi⟩
  have := atI_nat (xs := xs) (List.getElem?_eq_getElem hi)
  rwa [show ((i.toNat : Nat) : Int) = i by omega] at this
theorem rangeD_map (n : Nat) : rangeD 0 n = (List.range n).map fun i : Nat => D.int (i : Int) := by
  unfold rangeD
  apply List.map_congr_left
  intro i _
  rw [Int.zero_add]
theorem up_nodup {p : List Nat} (h : p.Pairwise (· < ·)) : p.Nodup := h.imp fun h => Nat.ne_of_lt h
def enumP : Nat → List Str → List (Nat × Str)
  | _, [] => []
  | i, x :: xs => (i, x) :: enumP (i + 1) xs
theorem enumD_map : ∀ (l : List Str) (i : Nat), enumD i (l.map .str) = (enumP i l).map fun x => D.tup [.int x.1, .str x.2]
  | [], _ => rfl
  | x :: xs, i => by rw [List.map_cons, enumD, enumD_map xs (i + 1)]; rfl
def Over (s : Str) (f : List Str) : Prop := ∀ p ∈ f, ∀ c ∈ sg p, c ∈ sg s
end DL
namespace DL
open PySem L2
abbrev Row := List (Nat × Bool)
def rowD (r : Row) : D := .dic (r.map fun p => .inr (one p.1)) (r.map fun p => .bl p.2)
def rowF (r : Row) : Nat → Bool := fun c => match r.find? fun p => decide (p.1 = c) with
  | some p => p.2
  | none => false
def rowK (r : Row) : List (Key × D) := r.map fun p => (.inr (one p.1), .bl p.2)
theorem rowK_zip (r : Row) : (r.map fun p => (.inr (one p.1) : Key)).zip (r.map fun p => D.bl p.2) = rowK r := by
  induction r with
  | nil => rfl
  | cons p r ih => rw [List.map_cons, List.map_cons, List.zip_cons_cons, ih]; rfl
theorem rowK_fst (r : Row) : (rowK r).map (·.1) = r.map fun p => .inr (one p.1) := by rw [rowK, List.map_map]; rfl
theorem rowK_snd (r : Row) : (rowK r).map (·.2) = r.map fun p => .bl p.2 := by rw [rowK, List.map_map]; rfl
theorem rowD_K (r : Row) : D.dic ((rowK r).map (·.1)) ((rowK r).map (·.2)) = rowD r := by rw [rowK_fst, rowK_snd]; rfl
theorem vget_row {r : Row} {c : Nat} (h : c ∈ r.map (·.1)) : vget (rowK r) (.inr (one c)) = some (.bl (rowF r c)) := by
  induction r with
  | nil => simp at h
  | cons p r ih =>
    unfold vget rowK at ih ⊢
    rw [List.map_cons, List.find?_cons]
    by_cases e : p.1 = c
    · subst e
      simp [rowF, List.find?_cons]
    · have e2 : decide ((Sum.inr (one p.1) : Key) = .inr (one c)) = false := decide_eq_false fun z => e (one_inj (Sum.inr.inj z))
      simp only [e2]
      have h' : c ∈ r.map (·.1) := by
        rcases List.mem_map.mp h with ⟨q, hq, rfl⟩
        rcases List.mem_cons.mp hq with rfl | hq
        · exact absurd rfl e
        · exact List.mem_map.mpr ⟨q, hq, rfl⟩
      rw [ih h']
      simp [rowF, List.find?_cons, e]
theorem vput_row {r : Row} {c : Nat} {b : Bool} (h : c ∉ r.map (·.1)) : vput (rowK r) (.inr (one c)) (.bl b) = rowK (r ++ [(c, b)]) := by
  unfold vput
  have : ((rowK r).any fun kv => decide (kv.1 = (.inr (one c) : Key))) = false := by
    rw [List.any_eq_false]
    intro kv hkv
    obtain ⟨q, hq, rfl⟩ := List.mem_map.mp hkv
    simp only [decide_eq_true_eq]
    exact fun z => h (List.mem_map.mpr ⟨q, hq, one_inj (Sum.inr.inj z)⟩)
  rw [this]
  simp [rowK]
theorem srtset_frm {f : List Str} (h : Frm f) : srtset f = f := by
  have p : f.Perm (met f) := (List.perm_ext_iff_of_nodup h.nd (nodup_met f)).mpr fun a => mem_met.symm
  exact (srt_unique p h.so).symm
theorem filter_prd {s : List Nat} {p : Str} (hs : s.Pairwise (· < ·)) (hp : Prd p) (h : ∀ c ∈ sg p, c ∈ s) : Txt.join "" ((s.filter fun c => decide (c ∈ sg p)).map one) = p := by
  apply sg_inj
  rw [sg_join0 sg_nil, flat_ones]
  refine up_ext (hs.filter _) hp.up fun c => ?_
  rw [List.mem_filter]
  simp only [decide_eq_true_eq]
  exact ⟨fun z => z.2, fun z => ⟨h c z, z⟩⟩
theorem inS_one' (c : Nat) (j : Str) : inS (one c) j = decide (c ∈ sg j) := rfl
theorem eqX_lst {a b : List Str} {P : Bool → Prop} (ha : ∀ p ∈ a, PyData.strOk p = true) (hb : ∀ p ∈ b, PyData.strOk p = true) : eqX (.lst (a.map .str)) (.lst (b.map .str)) P = P (decide (a = b)) := by
  have e : eqS (.lst (a.map .str)) (.lst (b.map .str)) = none := rfl
  have pl : ∀ a : List Str, pyd (.lst (a.map .str)) = some (.list (a.map .str)) := fun a => by unfold pyd; rw [pyds_strs]; rfl
  have sh : ∀ a : List Str, (∀ p ∈ a, PyData.strOk p = true) → SeqAt.shaped (.list (a.map .str)) = true := fun a h => by
    unfold SeqAt.shaped
    rw [Bool.and_eq_true]
    refine ⟨canLay_strs a h, decide_eq_true ?_⟩
    have := depth_strs a
    simp only [PyData.depth]
    omega
  unfold eqX
  rw [e]
  show asA (pyd _) (fun q => asA (pyd _) fun r => SeqAt.shaped q = true ∧ SeqAt.shaped r = true ∧ P (PyData.eqv q r)) = _
  rw [pl, pl]
  show (SeqAt.shaped _ = true ∧ SeqAt.shaped _ = true ∧ P (PyData.eqvAll _ _)) = _
  rw [sh a ha, sh b hb, eqvAll_strs]
  simp
theorem over_added {s : Str} {a b : List Str} (ha : Over s a) (hb : Over s b) : Over s (addedF a b) := fun p hp => by
  have := odds_sub ((srt_perm _).mem_iff.mp hp)
  exact (List.mem_append.mp this).elim (ha p) (hb p)
theorem over_mul {s : Str} {a b : List Str} (ha : Over s a) (hb : Over s b) : Over s (mulF a b) := fun p hp c hc => by
  have h1 := odds_sub ((srt_perm _).mem_iff.mp hp)
  obtain ⟨x, hx, h⟩ := List.mem_flatMap.mp h1
  obtain ⟨y, hy, rfl⟩ := List.mem_map.mp h
  have h2 := ((sg_lets (x ++ y)).2 c).mp hc
  rw [sg_append] at h2
  exact (List.mem_append.mp h2).elim (ha x hx c) (hb y hy c)
theorem over_one {s : Str} : Over s oneF := fun p hp c hc => by
  simp [oneF] at hp; subst hp; rw [sg_nil] at hc; simp at hc
theorem over_nil {s : Str} : Over s [] := fun p hp => by simp at hp
theorem over_opp {s : Str} {a : List Str} (ha : Over s a) : Over s (oppF a) := over_added ha over_one
theorem over_join {s : Str} {a b : List Str} (ha : Over s a) (hb : Over s b) : Over s (joinF a b) := over_added (over_added ha hb) (over_mul ha hb)
theorem tr_congr {s : Nat → Bool} {r : Nat → Bool} {p : Str} (h : ∀ c ∈ sg p, r c = s c) : tr r p = tr s p := by
  unfold tr
  rw [Bool.eq_iff_iff, List.all_eq_true, List.all_eq_true]
  exact ⟨fun z c hc => by rw [← h c hc]; exact z c hc, fun z c hc => by rw [h c hc]; exact z c hc⟩
theorem val_congr {s : Str} {f : List Str} {r r' : Nat → Bool} (ho : Over s f) (h : ∀ c ∈ sg s, r c = r' c) : val r f = val r' f := by
  unfold val
  have : f.countP (tr r) = f.countP (tr r') := by
    apply List.countP_congr
    intro p hp
    rw [tr_congr fun c hc => h c (ho p hp c hc)]
  rw [this]
end DL
namespace DL
open PySem L2
theorem frm_letter {c : Nat} (h : c ∈ LET) : Frm [one c] := ⟨by simp, by simp, fun p hp => by
  simp at hp; subst hp
  exact ⟨by rw [sg_one]; simp, fun d hd => by rw [sg_one] at hd; simp at hd; subst hd; exact h⟩⟩
theorem val_letter (r : Nat → Bool) (c : Nat) : val r [one c] = r c := by
  have : tr r (one c) = r c := by simp [tr, sg_one]
  unfold val
  rw [List.countP_cons, this]
  cases r c <;> rfl
def look (m : List (Str × List Str)) (s : Str) : List Str := match m.find? fun q => decide (q.1 = s) with
  | some q => q.2
  | none => [s]
def termF (m : List (Str × List Str)) (p : Str) : List Str := (sg p).foldl (fun t c => mulF t (look m (one c))) oneF
def putF (f : List Str) (m : List (Str × List Str)) : List Str := f.foldl (fun acc p => addedF acc (termF m p)) []
end DL
namespace DL
open PySem L2
end DL
namespace DL
open PySem L2
theorem fm_filter {T : Nat → Prop} [DecidablePred T] : ∀ l : List Nat, l.filterMap (fun d => if T d then some (D.str (one d)) else none) = (l.filter fun d => decide (T d)).map fun d => .str (one d)
  | [] => rfl
  | d :: l => by
    have ih := fm_filter (T := T) l
    rw [List.filterMap_cons, List.filter_cons]
    by_cases h : T d
    · simp [h, ih]
    · simp [h, ih]
end DL
namespace DL
open PySem L2
def rowR : List Nat → Nat → Row
  | [], _ => []
  | x :: xs, n => (x, decide (n % 2 = 1)) :: rowR xs (n / 2)
theorem rowR_app (x : Nat) : ∀ (xs : List Nat) (n : Nat), rowR (xs ++ [x]) n = rowR xs n ++ [(x, decide (n / 2 ^ xs.length % 2 = 1))]
  | [], n => by simp [rowR]
  | y :: xs, n => by
    rw [List.cons_append, rowR, rowR, rowR_app x xs, List.cons_append, List.length_cons, Nat.div_div_eq_div_mul, Nat.pow_succ, Nat.mul_comm 2]
theorem rowR_keys : ∀ (xs : List Nat) (n : Nat), (rowR xs n).map (·.1) = xs
  | [], _ => rfl
  | x :: xs, n => by rw [rowR, List.map_cons, rowR_keys xs]
def rowN (cs : List Nat) (n : Nat) : Row := (rowR cs.reverse n).reverse
def allRows (cs : List Nat) : List Row := (List.range (2 ^ cs.length)).map (rowN cs)
end DL
namespace DL
open PySem L2
theorem mono_pair {a b : Nat} {n : Nat} : MonoG (wgTup n (wgCons (wgName a) (wgCons (wgName b) wgNil))) := mono_tup (monos_cons mono_name (monos_cons mono_name monos_nil))
theorem fm_strs {T : Nat → Prop} [DecidablePred T] (l : List Nat) : l.filterMap (fun d => if T d then some (D.str (one d)) else none) = ((l.filter fun d => decide (T d)).map one).map .str := by rw [fm_filter, List.map_map]; rfl
end DL
namespace DL
open PySem L2
end DL
namespace DL
open PySem L2
abbrev FM := List (Str × List Str)
def putM (m : FM) (s : Str) (f : List Str) : FM :=
  if (m.any fun q => decide (q.1 = s)) = true then m.map (fun q => if q.1 = s then (q.1, f) else q) else m ++ [(s, f)]
theorem any_keys {m : FM} {s : Str} : (m.any fun q => decide (q.1 = s)) = decide (s ∈ m.map (·.1)) := by
  by_cases h : s ∈ m.map (·.1)
  · rw [decide_eq_true h, List.any_eq_true]
    obtain ⟨q, hq, e⟩ := List.mem_map.mp h
    exact ⟨q, hq, decide_eq_true e⟩
  · rw [decide_eq_false h, List.any_eq_false]
    intro q hq
    simp only [decide_eq_true_eq]
    exact fun e => h (List.mem_map.mpr ⟨q, hq, e⟩)
theorem keys_put {m : FM} {s : Str} {f : List Str} : (putM m s f).map (·.1) = if s ∈ m.map (·.1) then m.map (·.1) else m.map (·.1) ++ [s] := by
  unfold putM
  rw [any_keys]
  by_cases h : s ∈ m.map (·.1)
  · rw [decide_eq_true h, if_pos rfl, if_pos h, List.map_map]
    apply List.map_congr_left
    intro q _
    simp only [Function.comp]
    split <;> rfl
  · rw [decide_eq_false h, if_neg (by decide), if_neg h, List.map_append]; rfl
structure MapOk (m : FM) : Prop where
  nd : (m.map (·.1)).Nodup
  fr : ∀ q ∈ m, Frm q.2
  le : ∀ q ∈ m, ∃ c ∈ LET, q.1 = one c
theorem MapOk.len {m : FM} (h : MapOk m) : m.length ≤ 9 := by
  have := h.nd.length_le_of_subset (l₂ := LET.map one) fun s hs => by
    obtain ⟨q, hq, rfl⟩ := List.mem_map.mp hs
    obtain ⟨c, hc, e⟩ := h.le q hq
    exact List.mem_map.mpr ⟨c, hc, e.symm⟩
  rw [List.length_map] at this
  exact this
theorem MapOk.put {m : FM} {c : Nat} {f : List Str} (h : MapOk m) (hc : c ∈ LET) (hf : Frm f) : MapOk (putM m (one c) f) := by
  have hm : ∀ q ∈ putM m (one c) f, q ∈ m ∨ (q.1 = one c ∧ q.2 = f) := fun q hq => by
    unfold putM at hq
    split at hq
    · obtain ⟨p, hp, rfl⟩ := List.mem_map.mp hq
      split
      · rename_i e; exact .inr ⟨e, rfl⟩
      · exact .inl hp
    · rcases List.mem_append.mp hq with z | z
      · exact .inl z
      · simp at z; subst z; exact .inr ⟨rfl, rfl⟩
  refine ⟨?_, fun q hq => (hm q hq).elim (h.fr q) fun z => z.2 ▸ hf, fun q hq => (hm q hq).elim (h.le q) fun z => ⟨c, hc, z.1⟩⟩
  rw [keys_put]
  split
  · exact h.nd
  · rename_i n
    rw [List.nodup_append]
    exact ⟨h.nd, by simp, fun a ha b hb e => by simp at hb; subst hb; subst e; exact n ha⟩
theorem sg_abc9 : sg (Str.ofString "abcpqrxyz") = LET := by decide +kernel
end DL
namespace DL
open PySem L2
end DL
namespace DL
open PySem L2
def put1 (f : List Str) (c : Nat) (h : List Str) : List Str := putF f [(one c, h)]
end DL
namespace DL
open PySem L2
end DL
namespace DL
open PySem L2
abbrev BM := List (Str × Bool)
structure OddM (done : List Str) (m : BM) : Prop where
  nd : (m.map (·.1)).Nodup
  mem : ∀ p, p ∈ m.map (·.1) ↔ p ∈ done
  od : ∀ q ∈ m, q.2 = decide (done.count q.1 % 2 = 1)
end DL
namespace DL
open PySem L2
def PartOk (dl : List Nat) (p : Str) : Prop := (sg p).Pairwise (· < ·) ∧ ∀ c ∈ sg p, c ∈ dl
theorem PartOk.more {dl : List Nat} {p : Str} {x : Nat} (h : PartOk dl p) : PartOk (dl ++ [x]) p := ⟨h.1, fun c hc => List.mem_append.mpr (.inl (h.2 c hc))⟩
theorem PartOk.len {dl : List Nat} {p : Str} (h : PartOk dl p) : (sg p).length ≤ dl.length := (up_nodup h.1).length_le_of_subset h.2
end DL
namespace DL
open PySem L2
def Around (r : Row) (cs : List Nat) (rows : List Row) : Prop :=
  (∀ q ∈ rows, q.map (·.1) = r.map (·.1) ∧ ∀ d, d ∉ cs → rowF q d = rowF r d) ∧ rows.length ≤ 2 ^ cs.length ∧ ∀ v : Nat → Bool, (∀ d, d ∉ cs → v d = rowF r d) → ∃ q ∈ rows, ∀ d ∈ r.map (·.1), rowF q d = v d
end DL
namespace DL
open PySem L2
end DL
namespace DL
open PySem L2
end DL
namespace DL
open PySem L2
abbrev gD_LETTERS : D := .str "abcpqrxyz"
end DL
namespace DL
open PySem L2
inductive Kd | an | od | ei
inductive Tree
  | let (c : Nat)
  | one
  | zero
  | no (t : Tree)
  | pr (k : Kd) (a b : Tree)
def Kd.sign : Kd → Str
  | .an => "&"
  | .od => "|"
  | .ei => "+"
def Kd.cls : Kd → Str
  | .an => "And"
  | .od => "Or"
  | .ei => "Either"
namespace Tree
def obj : Tree → D
  | .let c => .ins "Letter" ["letter"] [.str (DL.one c)]
  | .one => .ins "Always" [] []
  | .zero => .ins "Never" [] []
  | .no t => .ins "Not" ["one"] [obj t]
  | .pr k a b => .ins k.cls ["one", "other"] [obj a, obj b]
def wt : Tree → Nat
  | .let _ => 1
  | .one => 1
  | .zero => 1
  | .no t => wt t + 1
  | .pr _ a b => wt a + wt b
def size : Tree → Nat
  | .let _ => 1
  | .one => 1
  | .zero => 1
  | .no t => 1 + size t
  | .pr _ a b => 1 + size a + size b
def txt : Tree → Str
  | .let c => DL.one c
  | .one => "1"
  | .zero => "0"
  | .no t => "~" ++ txt t
  | .pr k a b => "(" ++ txt a ++ k.sign ++ txt b ++ ")"
def lts : Tree → Str
  | .let c => DL.one c
  | .one => ""
  | .zero => ""
  | .no t => lts t
  | .pr _ a b => lets (Txt.join "" [lts a, lts b])
def ok : Tree → Prop
  | .let c => c ∈ LET
  | .one => True
  | .zero => True
  | .no t => ok t
  | .pr _ a b => ok a ∧ ok b
theorem wt_pos : ∀ t : Tree, 1 ≤ t.wt
  | .let _ => Nat.le_refl _
  | .one => Nat.le_refl _
  | .zero => Nat.le_refl _
  | .no t => by rw [wt]; omega
  | .pr _ a b => by have := wt_pos a; rw [wt]; omega
theorem len_app (a b : Str) : (a ++ b).length = a.length + b.length := by
  rw [sg_len, sg_len, sg_len, sg_append, List.length_append]
theorem sign_len (k : Kd) : k.sign.length = 1 := by cases k <;> decide +kernel
theorem txt_len : ∀ t : Tree, t.txt.length + 3 ≤ 4 * t.wt
  | .let c => by rw [txt, wt, sg_len]; exact Nat.le_refl _
  | .one => by rw [txt, wt]; decide +kernel
  | .zero => by rw [txt, wt]; decide +kernel
  | .no t => by
    have := txt_len t
    have e : Str.length "~" = 1 := by decide +kernel
    rw [txt, wt, len_app, e]; omega
  | .pr k a b => by
    have h1 := txt_len a
    have h2 := txt_len b
    have e : Str.length "(" = 1 := by decide +kernel
    have e2 : Str.length ")" = 1 := by decide +kernel
    rw [txt, wt, len_app, len_app, len_app, len_app, e, e2, sign_len]; omega
theorem prd_lts : ∀ {t : Tree}, t.ok → Prd t.lts
  | .let c, h => ⟨List.pairwise_singleton _ _, fun d hd => by rw [lts, sg_one, List.mem_singleton] at hd; subst hd; exact h⟩
  | .one, _ => ⟨by rw [lts, sg_nil]; exact .nil, fun d hd => by rw [lts, sg_nil] at hd; cases hd⟩
  | .zero, _ => ⟨by rw [lts, sg_nil]; exact .nil, fun d hd => by rw [lts, sg_nil] at hd; cases hd⟩
  | .no t, h => prd_lts (t := t) h
  | .pr _ a b, h => by
    have h1 := prd_lts h.1
    have h2 := prd_lts h.2
    refine prd_lets fun c hc => ?_
    rw [sg_join0 sg_nil] at hc
    simp only [List.map_cons, List.map_nil, List.flatten_cons, List.flatten_nil, List.append_nil, List.mem_append] at hc
    exact hc.elim (h1.le c) (h2.le c)
end Tree
open Tree
def spLet (r : Nat → D) : DSp := fun ds P _ => match ds with
  | [d] => ∃ c : Nat, d = (Tree.let c).obj ∧ P (.d (r c))
  | _ => False
theorem spLet_len {r ds Q px} (h : spLet r ds Q px) : ds.length = 1 := by unfold spLet at h; split at h <;> first | rfl | exact h.elim
def spNot (n : Nat) (C : Tree → Prop) (r : Tree → D) : DSp := fun ds P _ => match ds with
  | [d] => ∃ t : Tree, d = (Tree.no t).obj ∧ (t.wt ≤ n + 1 ∧ t.wt ≤ 100 ∧ C t) ∧ P (.d (r (.no t)))
  | _ => False
def spPair (n : Nat) (C : Tree → Prop) (r : Tree → D) : DSp := fun ds P _ => match ds with
  | [d] => ∃ (k : Kd) (a b : Tree), d = (Tree.pr k a b).obj ∧ (a.wt ≤ n + 1 ∧ b.wt ≤ n + 1 ∧ a.wt + b.wt ≤ 100 ∧ C a ∧ C b) ∧ P (.d (r (.pr k a b)))
  | _ => False
theorem spNot_len {n C r ds Q px} (h : spNot n C r ds Q px) : ds.length = 1 := by unfold spNot at h; split at h <;> first | rfl | exact h.elim
theorem spPair_len {n C r ds Q px} (h : spPair n C r ds Q px) : ds.length = 1 := by unfold spPair at h; split at h <;> first | rfl | exact h.elim
theorem fld_one {k : Kd} {a b : Tree} {P : D → Prop} (h : P a.obj) : asIns (Tree.pr k a b).obj fun N kvs => N ∈ (["Not", "And", "Or", "Either"] : List Str) ∧ asA (fget kvs "one") fun d => P d := by
  cases k <;> exact ⟨by simp [Kd.cls], h⟩
theorem fld_other {k : Kd} {a b : Tree} {P : D → Prop} (h : P b.obj) : asIns (Tree.pr k a b).obj fun N kvs => N ∈ (["And", "Or", "Either"] : List Str) ∧ asA (fget kvs "other") fun d => P d := by
  cases k <;> exact ⟨by simp [Kd.cls], h⟩
def sp_Always_size : DSp := fun ds P _ => match ds with
  | [_] => P (.d (.int 1))
  | _ => False
abbrev N_Always_size : List Str := ["self"]
def w_Always_size : WS := (wRet (wC (.int 1)))
theorem len_Always_size {ds Q px} (h : sp_Always_size ds Q px) : ds.length = 1 := by unfold sp_Always_size at h; split at h <;> first | rfl | exact h.elim
theorem rd_Always_size {ds Q px} (h : sp_Always_size ds Q px) : w_Always_size ⟨fun _ => Q (.d .non), Q, fun _ => False, fun _ => False⟩ (startR N_Always_size ds) := by
  unfold sp_Always_size at h
  split at h
  · unfold w_Always_size; simp only [N_Always_size, wSeq, wSet, wAsg, wC, wIfS, wB, wOp, oI, oI0, asI, asS, asL, asLT, asT, asB, asA_some, asA_none, asO, asOL, asOD, asKey, asDic, asSq, oLen, oMod, oAdd, oSub, oMul, oDiv, oMax, oMin, oPlus, oEqX, oNeX, eqX_int, eqX_str, eqX_bl, oCmp, oLtX, oLeX, oGtX, oGeX, oIxX, oInX, wCB, wCons, wNil, wVar, wMove, nth, put, startR, wNext, wRet, wRetN, wDrop, wFor, wiR1, wiR2, wiX, itemsOf, wgName, wgTup, wgCons, wgNil, wLend, wLendT, seeR_cons, seeR_nil, seeO_d, seeO_none, seeO_ol, seeO_od, wJoin, wM, oAppend, oPop, oPopAt, wDPut, wDPop, wSortK, wDict0, wTup, wLst, wCall, wAnd, wOr, wNot, wAndV, wOrV, wNotV, wIf, wYes, wLc, wiEnumX, oListX, oTuple, oSort, oSortSet, oAll, oAny, S.fz, S.own, D.flat, txts_map, bools_map, txtKeys_map, List.length_map, List.map_cons, List.map_nil, List.length_cons, List.length_nil, List.cons_append, List.nil_append, List.replicate, decide_eq_true_eq, Bool.not_eq_true', Bool.not_true, Bool.not_false, if_true, if_false, Nat.zero_add, Nat.reduceAdd, Nat.reduceSub, ge_iff_le, true_and, and_true, zip_unzip, Bool.false_xor, Bool.true_xor, Bool.false_eq_true, Bool.true_eq_false, reduceIte, wipeR, dataR_cons, dataR_nil, dataO_d, dataO_none, dataO_ol, dataO_od, oDict, oIsi, tyD, isiB, wSl, wPart, wNoP, oSl, wDisp1, wDGet2, oRemove, atI_0, atI_1, atI_2, wiRev, revItems, oDictP, wForK, wiKeys, kD, oSortX, oPow, oBitAnd, oShl, oNeg, wUn, oInt, oStr, oDivmod, oIs, isD, wChain, wFz, wFzE, frzR, wLSet, wiZip, seqsD, wiVals, wiItems, wOIx, wNo, Option.isSome_some, oMulX, wM1, oSplit, oPart, oStrip1, oRep, oSum, intsD, wRaise, wLI, wLK
, wiR3, wLR, wDisp, wPairs, oReverse, oClear, oInsert, wRevL, wDZ, seqLT, oSortIT, wOFld, wSFld, asOI, setOI, putG, wPar, wiItemsC, wiValsC, wIndexL]; exact h
  · exact h.elim
def sp_Never_size : DSp := fun ds P _ => match ds with
  | [_] => P (.d (.int 1))
  | _ => False
abbrev N_Never_size : List Str := ["self"]
def w_Never_size : WS := (wRet (wC (.int 1)))
theorem len_Never_size {ds Q px} (h : sp_Never_size ds Q px) : ds.length = 1 := by unfold sp_Never_size at h; split at h <;> first | rfl | exact h.elim
theorem rd_Never_size {ds Q px} (h : sp_Never_size ds Q px) : w_Never_size ⟨fun _ => Q (.d .non), Q, fun _ => False, fun _ => False⟩ (startR N_Never_size ds) := by
  unfold sp_Never_size at h
  split at h
  · unfold w_Never_size; simp only [N_Never_size, wSeq, wSet, wAsg, wC, wIfS, wB, wOp, oI, oI0, asI, asS, asL, asLT, asT, asB, asA_some, asA_none, asO, asOL, asOD, asKey, asDic, asSq, oLen, oMod, oAdd, oSub, oMul, oDiv, oMax, oMin, oPlus, oEqX, oNeX, eqX_int, eqX_str, eqX_bl, oCmp, oLtX, oLeX, oGtX, oGeX, oIxX, oInX, wCB, wCons, wNil, wVar, wMove, nth, put, startR, wNext, wRet, wRetN, wDrop, wFor, wiR1, wiR2, wiX, itemsOf, wgName, wgTup, wgCons, wgNil, wLend, wLendT, seeR_cons, seeR_nil, seeO_d, seeO_none, seeO_ol, seeO_od, wJoin, wM, oAppend, oPop, oPopAt, wDPut, wDPop, wSortK, wDict0, wTup, wLst, wCall, wAnd, wOr, wNot, wAndV, wOrV, wNotV, wIf, wYes, wLc, wiEnumX, oListX, oTuple, oSort, oSortSet, oAll, oAny, S.fz, S.own, D.flat, txts_map, bools_map, txtKeys_map, List.length_map, List.map_cons, List.map_nil, List.length_cons, List.length_nil, List.cons_append, List.nil_append, List.replicate, decide_eq_true_eq, Bool.not_eq_true', Bool.not_true, Bool.not_false, if_true, if_false, Nat.zero_add, Nat.reduceAdd, Nat.reduceSub, ge_iff_le, true_and, and_true, zip_unzip, Bool.false_xor, Bool.true_xor, Bool.false_eq_true, Bool.true_eq_false, reduceIte, wipeR, dataR_cons, dataR_nil, dataO_d, dataO_none, dataO_ol, dataO_od, oDict, oIsi, tyD, isiB, wSl, wPart, wNoP, oSl, wDisp1, wDGet2, oRemove, atI_0, atI_1, atI_2, wiRev, revItems, oDictP, wForK, wiKeys, kD, oSortX, oPow, oBitAnd, oShl, oNeg, wUn, oInt, oStr, oDivmod, oIs, isD, wChain, wFz, wFzE, frzR, wLSet, wiZip, seqsD, wiVals, wiItems, wOIx, wNo, Option.isSome_some, oMulX, wM1, oSplit, oPart, oStrip1, oRep, oSum, intsD, wRaise, wLI, wLK
, wiR3, wLR, wDisp, wPairs, oReverse, oClear, oInsert, wRevL, wDZ, seqLT, oSortIT, wOFld, wSFld, asOI, setOI, putG, wPar, wiItemsC, wiValsC, wIndexL]; exact h
  · exact h.elim
def sp_Letter_size : DSp := spLet fun c => .int 1
abbrev N_Letter_size : List Str := ["self"]
def w_Letter_size : WS := (wRet (wC (.int 1)))
theorem len_Letter_size {ds Q px} (h : sp_Letter_size ds Q px) : ds.length = 1 := spLet_len h
theorem rd_Letter_size {ds Q px} (h : sp_Letter_size ds Q px) : w_Letter_size ⟨fun _ => Q (.d .non), Q, fun _ => False, fun _ => False⟩ (startR N_Letter_size ds) := by
  unfold sp_Letter_size spLet at h
  split at h
  · obtain ⟨c, rfl, h⟩ := h
    unfold w_Letter_size; simp only [N_Letter_size, wSeq, wSet, wAsg, wC, wIfS, wB, wOp, oI, oI0, asI, asS, asL, asLT, asT, asB, asA_some, asA_none, asO, asOL, asOD, asKey, asDic, asSq, oLen, oMod, oAdd, oSub, oMul, oDiv, oMax, oMin, oPlus, oEqX, oNeX, eqX_int, eqX_str, eqX_bl, oCmp, oLtX, oLeX, oGtX, oGeX, oIxX, oInX, wCB, wCons, wNil, wVar, wMove, nth, put, startR, wNext, wRet, wRetN, wDrop, wFor, wiR1, wiR2, wiX, itemsOf, wgName, wgTup, wgCons, wgNil, wLend, wLendT, seeR_cons, seeR_nil, seeO_d, seeO_none, seeO_ol, seeO_od, wJoin, wM, oAppend, oPop, oPopAt, wDPut, wDPop, wSortK, wDict0, wTup, wLst, wCall, wAnd, wOr, wNot, wAndV, wOrV, wNotV, wIf, wYes, wLc, wiEnumX, oListX, oTuple, oSort, oSortSet, oAll, oAny, S.fz, S.own, D.flat, txts_map, bools_map, txtKeys_map, List.length_map, List.map_cons, List.map_nil, List.length_cons, List.length_nil, List.cons_append, List.nil_append, List.replicate, decide_eq_true_eq, Bool.not_eq_true', Bool.not_true, Bool.not_false, if_true, if_false, Nat.zero_add, Nat.reduceAdd, Nat.reduceSub, ge_iff_le, true_and, and_true, zip_unzip, Bool.false_xor, Bool.true_xor, Bool.false_eq_true, Bool.true_eq_false, reduceIte, wipeR, dataR_cons, dataR_nil, dataO_d, dataO_none, dataO_ol, dataO_od, oDict, oIsi, tyD, isiB, wSl, wPart, wNoP, oSl, wDisp1, wDGet2, oRemove, atI_0, atI_1, atI_2, wiRev, revItems, oDictP, wForK, wiKeys, kD, oSortX, oPow, oBitAnd, oShl, oNeg, wUn, oInt, oStr, oDivmod, oIs, isD, wChain, wFz, wFzE, frzR, wLSet, wiZip, seqsD, wiVals, wiItems, wOIx, wNo, Option.isSome_some, oMulX, wM1, oSplit, oPart, oStrip1, oRep, oSum, intsD, wRaise, wLI, wLK
, wiR3, wLR, wDisp, wPairs, oReverse, oClear, oInsert, wRevL, wDZ, seqLT, oSortIT, wOFld, wSFld, asOI, setOI, putG, wPar, wiItemsC, wiValsC, wIndexL]
    exact h
  · exact h.elim
def spr_Not_size : Nat → DSp
  | 0 => fun _ _ _ => False
  | n + 1 => spNot n (fun _ => True) (fun t => .int t.size)
def spr_Pair_size : Nat → DSp
  | 0 => fun _ _ _ => False
  | n + 1 => spPair n (fun _ => True) (fun t => .int t.size)
def Tb_size (n : Nat) : List (Str × DSp) := [("Always", sp_Always_size), ("Never", sp_Never_size), ("Letter", sp_Letter_size), ("Not", spr_Not_size n), ("And", spr_Pair_size n), ("Or", spr_Pair_size n), ("Either", spr_Pair_size n)]
theorem at_size {n : Nat} {t : Tree} {P : S → Prop} {px : PX} (h1 : t.wt ≤ n + 1) (h2 : t.wt ≤ 100) (h : P (.d (.int t.size))) :
    asIns t.obj fun N kvs => fget kvs "size" = none ∧ asA (tget (Tb_size n) N) fun sp => sp [t.obj] P px := by
  cases t with
  | «let» c => exact ⟨rfl, c, rfl, h⟩
  | one => exact ⟨rfl, h⟩
  | zero => exact ⟨rfl, h⟩
  | no t =>
    rw [wt] at h1 h2
    have := wt_pos t
    obtain ⟨m, rfl⟩ : ∃ m, n = m + 1 := ⟨n - 1, by omega⟩
    exact ⟨rfl, t, rfl, ⟨by omega, by omega, trivial⟩, h⟩
  | pr k a b =>
    rw [wt] at h1 h2
    have := wt_pos a
    have := wt_pos b
    obtain ⟨m, rfl⟩ : ∃ m, n = m + 1 := ⟨n - 1, by omega⟩
    have z : spPair m (fun _ => True) (fun t => .int t.size) [(Tree.pr k a b).obj] P px := ⟨k, a, b, rfl, ⟨by omega, by omega, by omega, trivial, trivial⟩, h⟩
    cases k <;> exact ⟨rfl, z⟩
abbrev N_Not_size : List Str := ["self"]
def w_Not_size (n : Nat) : WS := (wRet (wOp oPlus (wC (.int 1)) (wMeth (Tb_size n) "size" (fun _ _ => False) (wFld ["Not", "And", "Or", "Either"] "one" (wVar 0)) wNil)))
theorem len_Not_size {n : Nat} {ds Q px} (h : spr_Not_size (n + 1) ds Q px) : ds.length = 1 := by replace h : spNot n (fun _ => True) (fun t => .int t.size) ds Q px := h; exact spNot_len h
theorem rd_Not_size {n : Nat} {ds Q px} (h : spr_Not_size (n + 1) ds Q px) : w_Not_size n ⟨fun _ => Q (.d .non), Q, fun _ => False, fun _ => False⟩ (startR N_Not_size ds) := by
  replace h : spNot n (fun _ => True) (fun t => .int t.size) ds Q px := h
  unfold spNot at h
  split at h
  · obtain ⟨t, rfl, ⟨h1, h2, _⟩, h⟩ := h
    unfold w_Not_size; simp only [N_Not_size, wFld, wMeth, wSeq, wSet, wAsg, wC, wIfS, wB, wOp, oI, oI0, asI, asS, asL, asLT, asT, asB, asA_some, asA_none, asO, asOL, asOD, asKey, asDic, asSq, oLen, oMod, oAdd, oSub, oMul, oDiv, oMax, oMin, oPlus, oEqX, oNeX, eqX_int, eqX_str, eqX_bl, oCmp, oLtX, oLeX, oGtX, oGeX, oIxX, oInX, wCB, wCons, wNil, wVar, wMove, nth, put, startR, wNext, wRet, wRetN, wDrop, wFor, wiR1, wiR2, wiX, itemsOf, wgName, wgTup, wgCons, wgNil, wLend, wLendT, seeR_cons, seeR_nil, seeO_d, seeO_none, seeO_ol, seeO_od, wJoin, wM, oAppend, oPop, oPopAt, wDPut, wDPop, wSortK, wDict0, wTup, wLst, wCall, wAnd, wOr, wNot, wAndV, wOrV, wNotV, wIf, wYes, wLc, wiEnumX, oListX, oTuple, oSort, oSortSet, oAll, oAny, S.fz, S.own, D.flat, txts_map, bools_map, txtKeys_map, List.length_map, List.map_cons, List.map_nil, List.length_cons, List.length_nil, List.cons_append, List.nil_append, List.replicate, decide_eq_true_eq, Bool.not_eq_true', Bool.not_true, Bool.not_false, if_true, if_false, Nat.zero_add, Nat.reduceAdd, Nat.reduceSub, ge_iff_le, true_and, and_true, zip_unzip, Bool.false_xor, Bool.true_xor, Bool.false_eq_true, Bool.true_eq_false, reduceIte, wipeR, dataR_cons, dataR_nil, dataO_d, dataO_none, dataO_ol, dataO_od, oDict, oIsi, tyD, isiB, wSl, wPart, wNoP, oSl, wDisp1, wDGet2, oRemove, atI_0, atI_1, atI_2, wiRev, revItems, oDictP, wForK, wiKeys, kD, oSortX, oPow, oBitAnd, oShl, oNeg, wUn, oInt, oStr, oDivmod, oIs, isD, wChain, wFz, wFzE, frzR, wLSet, wiZip, seqsD, wiVals, wiItems, wOIx, wNo, Option.isSome_some, oMulX, wM1, oSplit, oPart, oStrip1, oRep, oSum, intsD, wRaise, wLI, wLK
, wiR3, wLR, wDisp, wPairs, oReverse, oClear, oInsert, wRevL, wDZ, seqLT, oSortIT, wOFld, wSFld, asOI, setOI, putG, wPar, wiItemsC, wiValsC, wIndexL]
    refine ⟨by simp, at_size h1 h2 ?_⟩
    have e : (1 : Int) + (t.size : Int) = ((Tree.no t).size : Nat) := by rw [Tree.size]; omega
    show Q (.d (.int (1 + (t.size : Int))))
    rw [e]; exact h
  · exact h.elim
abbrev N_Pair_size : List Str := ["self"]
def w_Pair_size (n : Nat) : WS := (wRet (wOp oPlus (wOp oPlus (wC (.int 1)) (wMeth (Tb_size n) "size" (fun _ _ => False) (wFld ["Not", "And", "Or", "Either"] "one" (wVar 0)) wNil)) (wMeth (Tb_size n) "size" (fun _ _ => False) (wFld ["And", "Or", "Either"] "other" (wVar 0)) wNil)))
theorem len_Pair_size {n : Nat} {ds Q px} (h : spr_Pair_size (n + 1) ds Q px) : ds.length = 1 := by replace h : spPair n (fun _ => True) (fun t => .int t.size) ds Q px := h; exact spPair_len h
theorem rd_Pair_size {n : Nat} {ds Q px} (h : spr_Pair_size (n + 1) ds Q px) : w_Pair_size n ⟨fun _ => Q (.d .non), Q, fun _ => False, fun _ => False⟩ (startR N_Pair_size ds) := by
  replace h : spPair n (fun _ => True) (fun t => .int t.size) ds Q px := h
  unfold spPair at h
  split at h
  · obtain ⟨k, a, b, rfl, ⟨h1, h2, h3, _⟩, h⟩ := h
    unfold w_Pair_size; simp only [N_Pair_size, wFld, wMeth, wSeq, wSet, wAsg, wC, wIfS, wB, wOp, oI, oI0, asI, asS, asL, asLT, asT, asB, asA_some, asA_none, asO, asOL, asOD, asKey, asDic, asSq, oLen, oMod, oAdd, oSub, oMul, oDiv, oMax, oMin, oPlus, oEqX, oNeX, eqX_int, eqX_str, eqX_bl, oCmp, oLtX, oLeX, oGtX, oGeX, oIxX, oInX, wCB, wCons, wNil, wVar, wMove, nth, put, startR, wNext, wRet, wRetN, wDrop, wFor, wiR1, wiR2, wiX, itemsOf, wgName, wgTup, wgCons, wgNil, wLend, wLendT, seeR_cons, seeR_nil, seeO_d, seeO_none, seeO_ol, seeO_od, wJoin, wM, oAppend, oPop, oPopAt, wDPut, wDPop, wSortK, wDict0, wTup, wLst, wCall, wAnd, wOr, wNot, wAndV, wOrV, wNotV, wIf, wYes, wLc, wiEnumX, oListX, oTuple, oSort, oSortSet, oAll, oAny, S.fz, S.own, D.flat, txts_map, bools_map, txtKeys_map, List.length_map, List.map_cons, List.map_nil, List.length_cons, List.length_nil, List.cons_append, List.nil_append, List.replicate, decide_eq_true_eq, Bool.not_eq_true', Bool.not_true, Bool.not_false, if_true, if_false, Nat.zero_add, Nat.reduceAdd, Nat.reduceSub, ge_iff_le, true_and, and_true, zip_unzip, Bool.false_xor, Bool.true_xor, Bool.false_eq_true, Bool.true_eq_false, reduceIte, wipeR, dataR_cons, dataR_nil, dataO_d, dataO_none, dataO_ol, dataO_od, oDict, oIsi, tyD, isiB, wSl, wPart, wNoP, oSl, wDisp1, wDGet2, oRemove, atI_0, atI_1, atI_2, wiRev, revItems, oDictP, wForK, wiKeys, kD, oSortX, oPow, oBitAnd, oShl, oNeg, wUn, oInt, oStr, oDivmod, oIs, isD, wChain, wFz, wFzE, frzR, wLSet, wiZip, seqsD, wiVals, wiItems, wOIx, wNo, Option.isSome_some, oMulX, wM1, oSplit, oPart, oStrip1, oRep, oSum, intsD, wRaise, wLI, wLK
, wiR3, wLR, wDisp, wPairs, oReverse, oClear, oInsert, wRevL, wDZ, seqLT, oSortIT, wOFld, wSFld, asOI, setOI, putG, wPar, wiItemsC, wiValsC, wIndexL]
    refine fld_one (at_size h1 (by omega) ?_)
    refine fld_other (at_size h2 (by omega) ?_)
    have e : (1 : Int) + (a.size : Int) + (b.size : Int) = ((Tree.pr k a b).size : Nat) := by rw [Tree.size]; omega
    show Q (.d (.int (1 + (a.size : Int) + (b.size : Int))))
    rw [e]; exact h
  · exact h.elim
end DL
namespace DL
open PySem L2 Tree
namespace Tree
def tup : Tree → D
  | .let c => .tup [.str "letter", .str (DL.one c)]
  | .one => .tup [.str "1"]
  | .zero => .tup [.str "0"]
  | .no t => .tup [.str "~", tup t]
  | .pr k a b => .tup [.str k.sign, tup a, tup b]
def made : Tree → S
  | .let c => .oi "Letter" [("letter", .str (DL.one c))]
  | .one => .oi "Always" []
  | .zero => .oi "Never" []
  | .no t => .oi "Not" [("one", t.obj)]
  | .pr k a b => .oi k.cls [("one", a.obj), ("other", b.obj)]
end Tree
namespace Tree
theorem srtset_len (l : List Str) : (srtset l).length ≤ l.length := by
  unfold srtset
  rw [(srt_perm _).length_eq]
  exact met_len l
end Tree
end DL
namespace DL
open PySem L2 Tree
namespace Tree
def cls : Tree → Str
  | .let _ => "Letter"
  | .one => "Always"
  | .zero => "Never"
  | .no _ => "Not"
  | .pr k _ _ => k.cls
def hd : Tree → Str
  | .let _ => "letter"
  | .one => "1"
  | .zero => "0"
  | .no _ => "~"
  | .pr k _ _ => k.sign
def names : List Str := ["letter", "1", "0", "~", "&", "|", "+"]
end Tree
def stk (ts : List Tree) : Nat := (ts.map Tree.wt).sum
theorem stk_len (ts : List Tree) : ts.length ≤ stk ts := by
  induction ts with
  | nil => exact Nat.le_refl _
  | cons t ts ih => have := wt_pos t; unfold stk at *; rw [List.map_cons, List.sum_cons, List.length_cons]; omega
theorem stk_app (a b : List Tree) : stk (a ++ b) = stk a + stk b := by unfold stk; rw [List.map_append, List.sum_append]
theorem stk_one (t : Tree) : stk [t] = t.wt := by simp [stk]
theorem split_last {ts : List Tree} (h : 1 ≤ ts.length) : ∃ l t, ts = l ++ [t] := by
  rcases List.eq_nil_or_concat ts with rfl | ⟨l, t, rfl⟩
  · simp at h
  · exact ⟨l, t, by simp⟩
end DL
namespace DL
open PySem L2 Tree
theorem ats_size {n : Nat} {t : Tree} {x y : D} {P : S → Prop} {px : PX} (hx : x = t.obj) (hy : y = t.obj) (h1 : t.wt ≤ n + 1) (h2 : t.wt ≤ 100) (h : P (.d (.int t.size))) :
    asIns x fun N kvs => fget kvs "size" = none ∧ asA (tget (Tb_size n) N) fun sp => sp [y] P px := by subst hx; subst hy; exact at_size h1 h2 h
end DL
namespace DL
open PySem L2 Tree
def atS (s : Str) (j : Nat) : Str := match (sg s)[j]? with
  | some c => one c
  | none => ""
theorem cut_at {s : Str} {j : Nat} : cutS s (some (j : Int)) (some ((j : Int) + 1)) = atS s j := by
  apply sg_inj
  have e : ((j : Int) + 1) = ((j + 1 : Nat) : Int) := by omega
  have e1 : sg (cutS s (some (j : Int)) (some ((j : Int) + 1))) = ((sg s).drop (min j (sg s).length)).take (min (j + 1) (sg s).length - min j (sg s).length) := by
    rw [e]
    unfold cutS sg
    have e9 : HT.sIx s.cps.size s.cps.size (some ((j : Int) + 1)) = min (j + 1) s.cps.size := by rw [e]; exact HT.sIx_nat _ _ _
    simp [HT.sIx_nat, Str.length, List.extract_eq_take_drop, e9]
  rw [e1]
  unfold atS
  by_cases h : j < (sg s).length
  · rw [List.getElem?_eq_getElem h, Nat.min_eq_left (by omega), Nat.min_eq_left (by omega), Nat.add_sub_cancel_left, List.drop_eq_getElem_cons h]
    rfl
  · rw [List.getElem?_eq_none (by omega), Nat.min_eq_right (by omega), Nat.min_eq_right (by omega), Nat.sub_self, List.take_zero, sg_nil]
def sp_sign_at : DSp := fun ds P _ => match ds with
  | [.str s, .int i] => ∃ j : Nat, i = j ∧ s.length ≤ 1000 ∧ P (.d (.str (atS s j)))
  | _ => False
abbrev N_sign_at : List Str := ["text", "place"]
def w_sign_at : WS := (wRet (wSl (wVar 0) (wPart (wVar 1)) (wPart (wOp oPlus (wVar 1) (wC (.int 1))))))
theorem len_sign_at {ds Q px} (h : sp_sign_at ds Q px) : ds.length = 2 := by unfold sp_sign_at at h; split at h <;> first | rfl | exact h.elim
theorem rd_sign_at {ds Q px} (h : sp_sign_at ds Q px) : w_sign_at ⟨fun _ => Q (.d .non), Q, fun _ => False, fun _ => False⟩ (startR N_sign_at ds) := by
  unfold sp_sign_at at h
  split at h
  · rename_i s i
    obtain ⟨j, rfl, hl, h⟩ := h
    unfold w_sign_at
    simp only [N_sign_at, wSeq, wSet, wAsg, wC, wIfS, wB, wOp, oI, oI0, asI, asS, asL, asLT, asT, asB, asA_some, asA_none, asO, asOL, asOD, asKey, asDic, asSq, oLen, oMod, oAdd, oSub, oMul, oDiv, oMax, oMin, oPlus, oEqX, oNeX, eqX_int, eqX_str, eqX_bl, oCmp, oLtX, oLeX, oGtX, oGeX, oIxX, oInX, wCB, wCons, wNil, wVar, wMove, nth, put, startR, wNext, wRet, wRetN, wDrop, wFor, wiR1, wiR2, wiX, itemsOf, wgName, wgTup, wgCons, wgNil, wLend, wLendT, seeR_cons, seeR_nil, seeO_d, seeO_none, seeO_ol, seeO_od, wJoin, wM, oAppend, oPop, oPopAt, wDPut, wDPop, wSortK, wDict0, wTup, wLst, wCall, wAnd, wOr, wNot, wAndV, wOrV, wNotV, wIf, wYes, wLc, wiEnumX, oListX, oTuple, oSort, oSortSet, oAll, oAny, S.fz, S.own, D.flat, txts_map, bools_map, txtKeys_map, List.length_map, List.map_cons, List.map_nil, List.length_cons, List.length_nil, List.cons_append, List.nil_append, List.replicate, decide_eq_true_eq, Bool.not_eq_true', Bool.not_true, Bool.not_false, if_true, if_false, Nat.zero_add, Nat.reduceAdd, Nat.reduceSub, ge_iff_le, true_and, and_true, zip_unzip, Bool.false_xor, Bool.true_xor, Bool.false_eq_true, Bool.true_eq_false, reduceIte, wipeR, dataR_cons, dataR_nil, dataO_d, dataO_none, dataO_ol, dataO_od, oDict, oIsi, tyD, isiB, wSl, wPart, wNoP, oSl, wDisp1, wDGet2, oRemove, atI_0, atI_1, atI_2, wiRev, revItems, oDictP, wForK, wiKeys, kD, oSortX, oPow, oBitAnd, oShl, oNeg, wUn, oInt, oStr, oDivmod, oIs, isD, wChain, wFz, wFzE, frzR, wLSet, wiZip, seqsD, wiVals, wiItems, wOIx, wNo, Option.isSome_some, oMulX, wM1, oSplit, oPart, oStrip1, oRep, oSum, intsD, wRaise, wLI, wLK
, wiR3, wLR, wDisp, wPairs, oReverse, oClear, oInsert, wRevL, wDZ, seqLT, oSortIT, wOFld, wSFld, asOI, setOI, putG, wPar, wiItemsC, wiValsC, wIndexL]
    rw [cut_at]
    exact ⟨by rw [len0]; omega, h⟩
  · exact h.elim
def Kd.of (c : Nat) : Option Kd := if c = 38 then some .an else if c = 124 then some .od else if c = 43 then some .ei else none
mutual
def parseF : Nat → List Nat → Nat → Option (Except Nat (Tree × Nat))
  | 0, _, _ => none
  | n + 1, s, i => match s[i]? with
    | none => some (.error i)
    | some c => if c = 49 then some (.ok (.one, i + 1)) else if c = 48 then some (.ok (.zero, i + 1)) else if c ∈ LET then some (.ok (.let c, i + 1))
      else if c = 126 then (match parseF n s (i + 1) with
        | some (.ok (t, j)) => some (.ok (.no t, j))
        | r => r)
      else if c = 40 then parseP n s (i + 1) else some (.error i)
def parseP : Nat → List Nat → Nat → Option (Except Nat (Tree × Nat))
  | 0, _, _ => none
  | n + 1, s, i => match parseF n s i with
    | some (.ok (a, j)) => (match (s[j]?).bind Kd.of with
      | none => some (.error j)
      | some k => match parseF n s (j + 1) with
        | some (.ok (b, m)) => if s[m]? = some 41 then some (.ok (.pr k a b, m + 1)) else some (.error m)
        | r => r)
    | r => r
end
def resF (r : Option (Except Nat (Tree × Nat))) (P : S → Prop) (px : PX) : Prop := match r with
  | some (.ok (t, m)) => P (.d (.tup [t.obj, .int (m : Nat)]))
  | some (.error p) => px "NoSaying" [("place", .int (p : Nat))]
  | none => False
def sps_read_from (n : Nat) : DSp := fun ds P px => match ds with
  | [.str s, .int i] => ∃ j : Nat, i = j ∧ s.length ≤ 1000 ∧ resF (parseF (n + 1) (sg s) j) P px
  | _ => False
def sps_read_pair (n : Nat) : DSp := fun ds P px => match ds with
  | [.str s, .int i] => ∃ j : Nat, i = j ∧ s.length ≤ 1000 ∧ resF (parseP (n + 1) (sg s) j) P px
  | _ => False
def spr_read_from : Nat → DSp
  | 0 => fun _ _ _ => False
  | n + 1 => sps_read_from n
abbrev sp_read_from : DSp := spr_read_from 120
def spr_read_pair : Nat → DSp
  | 0 => fun _ _ _ => False
  | n + 1 => sps_read_pair n
theorem read_from_at {n j : Nat} {i : Int} {s : Str} {P : S → Prop} {px : PX} (e : i = j) (hl : s.length ≤ 1000) (h : resF (parseF n (sg s) j) P px) : spr_read_from n [.str s, .int i] P px := by
  cases n with
  | zero => rw [parseF] at h; exact h.elim
  | succ n => exact ⟨j, e, hl, h⟩
theorem read_pair_at {n j : Nat} {i : Int} {s : Str} {P : S → Prop} {px : PX} (e : i = j) (hl : s.length ≤ 1000) (h : resF (parseP n (sg s) j) P px) : spr_read_pair n [.str s, .int i] P px := by
  cases n with
  | zero => rw [parseP] at h; exact h.elim
  | succ n => exact ⟨j, e, hl, h⟩
theorem atS_some {s : Str} {j c : Nat} (h : (sg s)[j]? = some c) : atS s j = one c := by unfold atS; rw [h]
theorem atS_none {s : Str} {j : Nat} (h : (sg s)[j]? = none) : atS s j = "" := by unfold atS; rw [h]
theorem one_eq {c d : Nat} : (one c = one d) = (c = d) := propext ⟨one_inj, fun e => by rw [e]⟩
theorem one_ne (c : Nat) : (one c = Str.ofString "") = False := eq_false fun e => by
  have := congrArg sg e
  rw [sg_one, show sg (Str.ofString "") = [] from sg_nil] at this
  cases this
theorem ne_one (c : Nat) : (Str.ofString "" = one c) = False := eq_false fun e => by have := one_ne c; rw [← this]; exact e.symm
theorem txt49 : Str.ofString "1" = one 49 := by decide +kernel
theorem txt48 : Str.ofString "0" = one 48 := by decide +kernel
theorem txt126 : Str.ofString "~" = one 126 := by decide +kernel
theorem txt40 : Str.ofString "(" = one 40 := by decide +kernel
theorem txt41 : Str.ofString ")" = one 41 := by decide +kernel
theorem txt38 : Str.ofString "&" = one 38 := by decide +kernel
theorem txt124 : Str.ofString "|" = one 124 := by decide +kernel
theorem inS_one9 (c : Nat) (z : Str) : inS (one c) z = decide (c ∈ sg z) := rfl
theorem sg_opsx : sg (Str.ofString "&|+") = [38, 124, 43] := by decide +kernel
def sp_pair_of : DSp := fun ds P _ => match ds with
  | [.str z, x, y] => ∃ (c : Nat) (k : Kd) (a b : Tree), z = one c ∧ Kd.of c = some k ∧ x = a.obj ∧ y = b.obj ∧ P (.oi k.cls [("one", a.obj), ("other", b.obj)])
  | _ => False
abbrev N_pair_of : List Str := ["sign", "one", "other"]
def w_pair_of_t2 : WS := (wRet (wMk "Either" ["one", "other"] (wCons (wVar 1) (wCons (wVar 2) wNil))))
def w_pair_of_t1 : WS := wSeq (wIfS (wB (wOp oEqX (wVar 0) (wC (.str "|")))) (wRet (wMk "Or" ["one", "other"] (wCons (wVar 1) (wCons (wVar 2) wNil)))) wNext)
    w_pair_of_t2
def w_pair_of : WS := wSeq (wIfS (wB (wOp oEqX (wVar 0) (wC (.str "&")))) (wRet (wMk "And" ["one", "other"] (wCons (wVar 1) (wCons (wVar 2) wNil)))) wNext)
    w_pair_of_t1
theorem len_pair_of {ds Q px} (h : sp_pair_of ds Q px) : ds.length = 3 := by unfold sp_pair_of at h; split at h <;> first | rfl | exact h.elim
theorem rd_pair_of {ds Q px} (h : sp_pair_of ds Q px) : w_pair_of ⟨fun _ => Q (.d .non), Q, fun _ => False, fun _ => False⟩ (startR N_pair_of ds) := by
  unfold sp_pair_of at h
  split at h
  · obtain ⟨c, k, a, b, rfl, hk, rfl, rfl, h⟩ := h
    unfold w_pair_of
    simp only [N_pair_of, w_pair_of_t1, w_pair_of_t2, wSeq, wSet, wAsg, wC, wIfS, wB, wOp, oI, oI0, asI, asS, asL, asLT, asT, asB, asA_some, asA_none, asO, asOL, asOD, asKey, asDic, asSq, oLen, oMod, oAdd, oSub, oMul, oDiv, oMax, oMin, oPlus, oEqX, oNeX, eqX_int, eqX_str, eqX_bl, oCmp, oLtX, oLeX, oGtX, oGeX, oIxX, oInX, wCB, wCons, wNil, wVar, wMove, nth, put, startR, wNext, wRet, wRetN, wDrop, wFor, wiR1, wiR2, wiX, itemsOf, wgName, wgTup, wgCons, wgNil, wLend, wLendT, seeR_cons, seeR_nil, seeO_d, seeO_none, seeO_ol, seeO_od, wJoin, wM, oAppend, oPop, oPopAt, wDPut, wDPop, wSortK, wDict0, wTup, wLst, wCall, wAnd, wOr, wNot, wAndV, wOrV, wNotV, wIf, wYes, wLc, wiEnumX, oListX, oTuple, oSort, oSortSet, oAll, oAny, S.fz, S.own, D.flat, txts_map, bools_map, txtKeys_map, List.length_map, List.map_cons, List.map_nil, List.length_cons, List.length_nil, List.cons_append, List.nil_append, List.replicate, decide_eq_true_eq, Bool.not_eq_true', Bool.not_true, Bool.not_false, if_true, if_false, Nat.zero_add, Nat.reduceAdd, Nat.reduceSub, ge_iff_le, true_and, and_true, zip_unzip, Bool.false_xor, Bool.true_xor, Bool.false_eq_true, Bool.true_eq_false, reduceIte, wipeR, dataR_cons, dataR_nil, dataO_d, dataO_none, dataO_ol, dataO_od, oDict, oIsi, tyD, isiB, wSl, wPart, wNoP, oSl, wDisp1, wDGet2, oRemove, atI_0, atI_1, atI_2, wiRev, revItems, oDictP, wForK, wiKeys, kD, oSortX, oPow, oBitAnd, oShl, oNeg, wUn, oInt, oStr, oDivmod, oIs, isD, wChain, wFz, wFzE, frzR, wLSet, wiZip, seqsD, wiVals, wiItems, wOIx, wNo, Option.isSome_some, oMulX, wM1, oSplit, oPart, oStrip1, oRep, oSum, intsD, wRaise, wLI, wLK
, wiR3, wLR, wDisp, wPairs, oReverse, oClear, oInsert, wRevL, wDZ, seqLT, oSortIT, wOFld, wSFld, asOI, setOI, putG, wPar, wiItemsC, wiValsC, wIndexL, wMk, txt38, txt124]
    simp only [one_eq]
    unfold Kd.of at hk
    by_cases c1 : c = 38
    · rw [if_pos c1] at hk; cases hk
      rw [if_pos c1]
      exact h
    rw [if_neg c1] at hk
    rw [if_neg c1]
    by_cases c2 : c = 124
    · rw [if_pos c2] at hk; cases hk
      rw [if_pos c2]
      exact h
    rw [if_neg c2] at hk
    rw [if_neg c2]
    by_cases c3 : c = 43
    · rw [if_pos c3] at hk; cases hk
      exact h
    rw [if_neg c3] at hk; cases hk
  · exact h.elim
abbrev N_read_from : List Str := ["text", "place", "sign", "one"]
def w_read_from_t6 (n : Nat) (px : PX) : WS := (wRaise px "NoSaying" ["place"] (wCons (wVar 1) wNil))
def w_read_from_t5 (n : Nat) (px : PX) : WS := wSeq (wIfS (wB (wOp oEqX (wVar 2) (wC (.str "(")))) (wRet (wCall (spr_read_pair n) px (wCons (wVar 0) (wCons (wOp oPlus (wVar 1) (wC (.int 1))) wNil)))) wNext)
    (w_read_from_t6 n px)
def w_read_from_t4 (n : Nat) (px : PX) : WS := wSeq (wIfS (wB (wOp oEqX (wVar 2) (wC (.str "~")))) (wSeq (wAsg (wCall (spr_read_from n) px (wCons (wVar 0) (wCons (wOp oPlus (wVar 1) (wC (.int 1))) wNil))) (wgTup 2 (wgCons (wgName 3) (wgCons (wgName 1) wgNil))))
    (wRet (wTup (wCons (wMk "Not" ["one"] (wCons (wVar 3) wNil)) (wCons (wVar 1) wNil))))) wNext)
    (w_read_from_t5 n px)
def w_read_from_t3 (n : Nat) (px : PX) : WS := wSeq (wIfS (wAnd (wB (wOp oNeX (wVar 2) (wC (.str "")))) (wB (wOp (oInX false) (wVar 2) (wC gD_LETTERS)))) (wRet (wTup (wCons (wMk "Letter" ["letter"] (wCons (wVar 2) wNil)) (wCons (wOp oPlus (wVar 1) (wC (.int 1))) wNil)))) wNext)
    (w_read_from_t4 n px)
def w_read_from_t2 (n : Nat) (px : PX) : WS := wSeq (wIfS (wB (wOp oEqX (wVar 2) (wC (.str "0")))) (wRet (wTup (wCons (wBare "Never") (wCons (wOp oPlus (wVar 1) (wC (.int 1))) wNil)))) wNext)
    (w_read_from_t3 n px)
def w_read_from_t1 (n : Nat) (px : PX) : WS := wSeq (wIfS (wB (wOp oEqX (wVar 2) (wC (.str "1")))) (wRet (wTup (wCons (wBare "Always") (wCons (wOp oPlus (wVar 1) (wC (.int 1))) wNil)))) wNext)
    (w_read_from_t2 n px)
def w_read_from (n : Nat) (px : PX) : WS := wSeq (wAsg (wCall sp_sign_at (fun _ _ => False) (wCons (wVar 0) (wCons (wVar 1) wNil))) (wgName 2))
    (w_read_from_t1 n px)
theorem len_read_from {n : Nat} {ds Q px} (h : spr_read_from (n + 1) ds Q px) : ds.length = 2 := by replace h : sps_read_from n ds Q px := h; unfold sps_read_from at h; split at h <;> first | rfl | exact h.elim
theorem rd_read_from {n : Nat} {ds Q px} (h : spr_read_from (n + 1) ds Q px) : w_read_from n px ⟨fun _ => Q (.d .non), Q, fun _ => False, fun _ => False⟩ (startR N_read_from ds) := by
  replace h : sps_read_from n ds Q px := h
  unfold sps_read_from at h
  split at h
  · rename_i s i
    obtain ⟨j, rfl, hl, h⟩ := h
    unfold w_read_from
    rw [parseF] at h
    simp only [N_read_from, w_read_from_t1, wSeq, wSet, wAsg, wC, wIfS, wB, wOp, oI, oI0, asI, asS, asL, asLT, asT, asB, asA_some, asA_none, asO, asOL, asOD, asKey, asDic, asSq, oLen, oMod, oAdd, oSub, oMul, oDiv, oMax, oMin, oPlus, oEqX, oNeX, eqX_int, eqX_str, eqX_bl, oCmp, oLtX, oLeX, oGtX, oGeX, oIxX, oInX, wCB, wCons, wNil, wVar, wMove, nth, put, startR, wNext, wRet, wRetN, wDrop, wFor, wiR1, wiR2, wiX, itemsOf, wgName, wgTup, wgCons, wgNil, wLend, wLendT, seeR_cons, seeR_nil, seeO_d, seeO_none, seeO_ol, seeO_od, wJoin, wM, oAppend, oPop, oPopAt, wDPut, wDPop, wSortK, wDict0, wTup, wLst, wCall, wAnd, wOr, wNot, wAndV, wOrV, wNotV, wIf, wYes, wLc, wiEnumX, oListX, oTuple, oSort, oSortSet, oAll, oAny, S.fz, S.own, D.flat, txts_map, bools_map, txtKeys_map, List.length_map, List.map_cons, List.map_nil, List.length_cons, List.length_nil, List.cons_append, List.nil_append, List.replicate, decide_eq_true_eq, Bool.not_eq_true', Bool.not_true, Bool.not_false, if_true, if_false, Nat.zero_add, Nat.reduceAdd, Nat.reduceSub, ge_iff_le, true_and, and_true, zip_unzip, Bool.false_xor, Bool.true_xor, Bool.false_eq_true, Bool.true_eq_false, reduceIte, wipeR, dataR_cons, dataR_nil, dataO_d, dataO_none, dataO_ol, dataO_od, oDict, oIsi, tyD, isiB, wSl, wPart, wNoP, oSl, wDisp1, wDGet2, oRemove, atI_0, atI_1, atI_2, wiRev, revItems, oDictP, wForK, wiKeys, kD, oSortX, oPow, oBitAnd, oShl, oNeg, wUn, oInt, oStr, oDivmod, oIs, isD, wChain, wFz, wFzE, frzR, wLSet, wiZip, seqsD, wiVals, wiItems, wOIx, wNo, Option.isSome_some, oMulX, wM1, oSplit, oPart, oStrip1, oRep, oSum, intsD, wRaise, wLI, wLK
, wiR3, wLR, wDisp, wPairs, oReverse, oClear, oInsert, wRevL, wDZ, seqLT, oSortIT, wOFld, wSFld, asOI, setOI, putG, wPar, wiItemsC, wiValsC, wIndexL, sp_sign_at]
    refine ⟨j, rfl, hl, ?_⟩
    cases ec : (sg s)[j]? with
    | none =>
      rw [ec] at h
      rw [atS_none ec]
      simp only [w_read_from_t1, w_read_from_t2, w_read_from_t3, w_read_from_t4, w_read_from_t5, w_read_from_t6, wSeq, wSet, wAsg, wC, wIfS, wB, wOp, oI, oI0, asI, asS, asL, asLT, asT, asB, asA_some, asA_none, asO, asOL, asOD, asKey, asDic, asSq, oLen, oMod, oAdd, oSub, oMul, oDiv, oMax, oMin, oPlus, oEqX, oNeX, eqX_int, eqX_str, eqX_bl, oCmp, oLtX, oLeX, oGtX, oGeX, oIxX, oInX, wCB, wCons, wNil, wVar, wMove, nth, put, startR, wNext, wRet, wRetN, wDrop, wFor, wiR1, wiR2, wiX, itemsOf, wgName, wgTup, wgCons, wgNil, wLend, wLendT, seeR_cons, seeR_nil, seeO_d, seeO_none, seeO_ol, seeO_od, wJoin, wM, oAppend, oPop, oPopAt, wDPut, wDPop, wSortK, wDict0, wTup, wLst, wCall, wAnd, wOr, wNot, wAndV, wOrV, wNotV, wIf, wYes, wLc, wiEnumX, oListX, oTuple, oSort, oSortSet, oAll, oAny, S.fz, S.own, D.flat, txts_map, bools_map, txtKeys_map, List.length_map, List.map_cons, List.map_nil, List.length_cons, List.length_nil, List.cons_append, List.nil_append, List.replicate, decide_eq_true_eq, Bool.not_eq_true', Bool.not_true, Bool.not_false, if_true, if_false, Nat.zero_add, Nat.reduceAdd, Nat.reduceSub, ge_iff_le, true_and, and_true, zip_unzip, Bool.false_xor, Bool.true_xor, Bool.false_eq_true, Bool.true_eq_false, reduceIte, wipeR, dataR_cons, dataR_nil, dataO_d, dataO_none, dataO_ol, dataO_od, oDict, oIsi, tyD, isiB, wSl, wPart, wNoP, oSl, wDisp1, wDGet2, oRemove, atI_0, atI_1, atI_2, wiRev, revItems, oDictP, wForK, wiKeys, kD, oSortX, oPow, oBitAnd, oShl, oNeg, wUn, oInt, oStr, oDivmod, oIs, isD, wChain, wFz, wFzE, frzR, wLSet, wiZip, seqsD, wiVals, wiItems, wOIx, wNo, Option.isSome_some, oMulX, wM1, oSplit, oPart, oStrip1, oRep, oSum, intsD, wRaise, wLI, wLK
, wiR3, wLR, wDisp, wPairs, oReverse, oClear, oInsert, wRevL, wDZ, seqLT, oSortIT, wOFld, wSFld, asOI, setOI, putG, wPar, wiItemsC, wiValsC, wIndexL, txt49, txt48, txt126, txt40, ne_one, decide_true, decide_false, gD_LETTERS, if_false]
      exact ⟨⟨_, _, h⟩, h⟩
    | some c =>
      rw [ec] at h
      rw [atS_some ec]
      simp only [w_read_from_t1, w_read_from_t2, w_read_from_t3, w_read_from_t4, w_read_from_t5, w_read_from_t6, wSeq, wSet, wAsg, wC, wIfS, wB, wOp, oI, oI0, asI, asS, asL, asLT, asT, asB, asA_some, asA_none, asO, asOL, asOD, asKey, asDic, asSq, oLen, oMod, oAdd, oSub, oMul, oDiv, oMax, oMin, oPlus, oEqX, oNeX, eqX_int, eqX_str, eqX_bl, oCmp, oLtX, oLeX, oGtX, oGeX, oIxX, oInX, wCB, wCons, wNil, wVar, wMove, nth, put, startR, wNext, wRet, wRetN, wDrop, wFor, wiR1, wiR2, wiX, itemsOf, wgName, wgTup, wgCons, wgNil, wLend, wLendT, seeR_cons, seeR_nil, seeO_d, seeO_none, seeO_ol, seeO_od, wJoin, wM, oAppend, oPop, oPopAt, wDPut, wDPop, wSortK, wDict0, wTup, wLst, wCall, wAnd, wOr, wNot, wAndV, wOrV, wNotV, wIf, wYes, wLc, wiEnumX, oListX, oTuple, oSort, oSortSet, oAll, oAny, S.fz, S.own, D.flat, txts_map, bools_map, txtKeys_map, List.length_map, List.map_cons, List.map_nil, List.length_cons, List.length_nil, List.cons_append, List.nil_append, List.replicate, decide_eq_true_eq, Bool.not_eq_true', Bool.not_true, Bool.not_false, if_true, if_false, Nat.zero_add, Nat.reduceAdd, Nat.reduceSub, ge_iff_le, true_and, and_true, zip_unzip, Bool.false_xor, Bool.true_xor, Bool.false_eq_true, Bool.true_eq_false, reduceIte, wipeR, dataR_cons, dataR_nil, dataO_d, dataO_none, dataO_ol, dataO_od, oDict, oIsi, tyD, isiB, wSl, wPart, wNoP, oSl, wDisp1, wDGet2, oRemove, atI_0, atI_1, atI_2, wiRev, revItems, oDictP, wForK, wiKeys, kD, oSortX, oPow, oBitAnd, oShl, oNeg, wUn, oInt, oStr, oDivmod, oIs, isD, wChain, wFz, wFzE, frzR, wLSet, wiZip, seqsD, wiVals, wiItems, wOIx, wNo, Option.isSome_some, oMulX, wM1, oSplit, oPart, oStrip1, oRep, oSum, intsD, wRaise, wLI, wLK
, wiR3, wLR, wDisp, wPairs, oReverse, oClear, oInsert, wRevL, wDZ, seqLT, oSortIT, wOFld, wSFld, asOI, setOI, putG, wPar, wiItemsC, wiValsC, wIndexL, wMk, wBare, gD_LETTERS, txt49, txt48, txt126, txt40, one_ne]
      simp only [one_eq, inS_one9, sg_abc9, decide_false, if_true, decide_eq_true_eq]
      simp only at h
      by_cases c1 : c = 49
      · rw [if_pos c1] at h
        rw [if_pos c1]
        exact ⟨by decide, h⟩
      rw [if_neg c1] at h
      rw [if_neg c1]
      by_cases c2 : c = 48
      · rw [if_pos c2] at h
        rw [if_pos c2]
        exact ⟨by decide, h⟩
      rw [if_neg c2] at h
      rw [if_neg c2]
      by_cases c3 : c ∈ LET
      · rw [if_pos c3] at h
        rw [if_pos c3]
        exact ⟨by decide, h⟩
      rw [if_neg c3] at h
      rw [if_neg c3]
      by_cases c4 : c = 126
      · rw [if_pos c4] at h
        rw [if_pos c4]
        refine read_from_at (j := j + 1) rfl hl ?_
        generalize parseF n (sg s) (j + 1) = r at h ⊢
        match r with
        | none => exact h
        | some (.error p) => exact h
        | some (.ok (t, m)) => exact ⟨rfl, by decide, by decide, h⟩
      rw [if_neg c4] at h
      rw [if_neg c4]
      by_cases c5 : c = 40
      · rw [if_pos c5] at h
        rw [if_pos c5]
        exact read_pair_at (j := j + 1) rfl hl h
      rw [if_neg c5] at h
      rw [if_neg c5]
      exact ⟨⟨_, _, h⟩, h⟩
  · exact h.elim
theorem sign_at_at {s : Str} {j : Nat} {i : Int} {P : S → Prop} {px : PX} (e : i = j) (hl : s.length ≤ 1000) (h : P (.d (.str (atS s j)))) : sp_sign_at [.str s, .int i] P px := ⟨j, e, hl, h⟩
abbrev N_read_pair : List Str := ["text", "place", "one", "sign", "other"]
def w_read_pair_t5 (n : Nat) (px : PX) : WS := (wRet (wTup (wCons (wCall sp_pair_of (fun _ _ => False) (wCons (wVar 3) (wCons (wVar 2) (wCons (wVar 4) wNil)))) (wCons (wOp oPlus (wVar 1) (wC (.int 1))) wNil))))
def w_read_pair_t4 (n : Nat) (px : PX) : WS := wSeq (wIfS (wB (wOp oNeX (wCall sp_sign_at (fun _ _ => False) (wCons (wVar 0) (wCons (wVar 1) wNil))) (wC (.str ")")))) (wRaise px "NoSaying" ["place"] (wCons (wVar 1) wNil)) wNext)
    (w_read_pair_t5 n px)
def w_read_pair_t3 (n : Nat) (px : PX) : WS := wSeq (wAsg (wCall (spr_read_from n) px (wCons (wVar 0) (wCons (wOp oPlus (wVar 1) (wC (.int 1))) wNil))) (wgTup 2 (wgCons (wgName 4) (wgCons (wgName 1) wgNil))))
    (w_read_pair_t4 n px)
def w_read_pair_t2 (n : Nat) (px : PX) : WS := wSeq (wIfS (wOr (wB (wOp oEqX (wVar 3) (wC (.str "")))) (wB (wOp (oInX true) (wVar 3) (wC (.str "&|+"))))) (wRaise px "NoSaying" ["place"] (wCons (wVar 1) wNil)) wNext)
    (w_read_pair_t3 n px)
def w_read_pair_t1 (n : Nat) (px : PX) : WS := wSeq (wAsg (wCall sp_sign_at (fun _ _ => False) (wCons (wVar 0) (wCons (wVar 1) wNil))) (wgName 3))
    (w_read_pair_t2 n px)
def w_read_pair (n : Nat) (px : PX) : WS := wSeq (wAsg (wCall (spr_read_from n) px (wCons (wVar 0) (wCons (wVar 1) wNil))) (wgTup 2 (wgCons (wgName 2) (wgCons (wgName 1) wgNil))))
    (w_read_pair_t1 n px)
theorem len_read_pair {n : Nat} {ds Q px} (h : spr_read_pair (n + 1) ds Q px) : ds.length = 2 := by replace h : sps_read_pair n ds Q px := h; unfold sps_read_pair at h; split at h <;> first | rfl | exact h.elim
theorem rd_read_pair {n : Nat} {ds Q px} (h : spr_read_pair (n + 1) ds Q px) : w_read_pair n px ⟨fun _ => Q (.d .non), Q, fun _ => False, fun _ => False⟩ (startR N_read_pair ds) := by
  replace h : sps_read_pair n ds Q px := h
  unfold sps_read_pair at h
  split at h
  · rename_i s i
    obtain ⟨j, rfl, hl, h⟩ := h
    unfold w_read_pair
    rw [parseP] at h
    simp only [N_read_pair, wSeq, wSet, wAsg, wC, wIfS, wB, wOp, oI, oI0, asI, asS, asL, asLT, asT, asB, asA_some, asA_none, asO, asOL, asOD, asKey, asDic, asSq, oLen, oMod, oAdd, oSub, oMul, oDiv, oMax, oMin, oPlus, oEqX, oNeX, eqX_int, eqX_str, eqX_bl, oCmp, oLtX, oLeX, oGtX, oGeX, oIxX, oInX, wCB, wCons, wNil, wVar, wMove, nth, put, startR, wNext, wRet, wRetN, wDrop, wFor, wiR1, wiR2, wiX, itemsOf, wgName, wgTup, wgCons, wgNil, wLend, wLendT, seeR_cons, seeR_nil, seeO_d, seeO_none, seeO_ol, seeO_od, wJoin, wM, oAppend, oPop, oPopAt, wDPut, wDPop, wSortK, wDict0, wTup, wLst, wCall, wAnd, wOr, wNot, wAndV, wOrV, wNotV, wIf, wYes, wLc, wiEnumX, oListX, oTuple, oSort, oSortSet, oAll, oAny, S.fz, S.own, D.flat, txts_map, bools_map, txtKeys_map, List.length_map, List.map_cons, List.map_nil, List.length_cons, List.length_nil, List.cons_append, List.nil_append, List.replicate, decide_eq_true_eq, Bool.not_eq_true', Bool.not_true, Bool.not_false, if_true, if_false, Nat.zero_add, Nat.reduceAdd, Nat.reduceSub, ge_iff_le, true_and, and_true, zip_unzip, Bool.false_xor, Bool.true_xor, Bool.false_eq_true, Bool.true_eq_false, reduceIte, wipeR, dataR_cons, dataR_nil, dataO_d, dataO_none, dataO_ol, dataO_od, oDict, oIsi, tyD, isiB, wSl, wPart, wNoP, oSl, wDisp1, wDGet2, oRemove, atI_0, atI_1, atI_2, wiRev, revItems, oDictP, wForK, wiKeys, kD, oSortX, oPow, oBitAnd, oShl, oNeg, wUn, oInt, oStr, oDivmod, oIs, isD, wChain, wFz, wFzE, frzR, wLSet, wiZip, seqsD, wiVals, wiItems, wOIx, wNo, Option.isSome_some, oMulX, wM1, oSplit, oPart, oStrip1, oRep, oSum, intsD, wRaise, wLI, wLK
, wiR3, wLR, wDisp, wPairs, oReverse, oClear, oInsert, wRevL, wDZ, seqLT, oSortIT, wOFld, wSFld, asOI, setOI, putG, wPar, wiItemsC, wiValsC, wIndexL]
    refine read_from_at rfl hl ?_
    generalize parseF n (sg s) j = r at h ⊢
    match r with
    | none => exact h
    | some (.error p) => exact h
    | some (.ok (a, m)) =>
      simp only at h
      simp only [resF, w_read_pair_t1, wSeq, wSet, wAsg, wC, wIfS, wB, wOp, oI, oI0, asI, asS, asL, asLT, asT, asB, asA_some, asA_none, asO, asOL, asOD, asKey, asDic, asSq, oLen, oMod, oAdd, oSub, oMul, oDiv, oMax, oMin, oPlus, oEqX, oNeX, eqX_int, eqX_str, eqX_bl, oCmp, oLtX, oLeX, oGtX, oGeX, oIxX, oInX, wCB, wCons, wNil, wVar, wMove, nth, put, startR, wNext, wRet, wRetN, wDrop, wFor, wiR1, wiR2, wiX, itemsOf, wgName, wgTup, wgCons, wgNil, wLend, wLendT, seeR_cons, seeR_nil, seeO_d, seeO_none, seeO_ol, seeO_od, wJoin, wM, oAppend, oPop, oPopAt, wDPut, wDPop, wSortK, wDict0, wTup, wLst, wCall, wAnd, wOr, wNot, wAndV, wOrV, wNotV, wIf, wYes, wLc, wiEnumX, oListX, oTuple, oSort, oSortSet, oAll, oAny, S.fz, S.own, D.flat, txts_map, bools_map, txtKeys_map, List.length_map, List.map_cons, List.map_nil, List.length_cons, List.length_nil, List.cons_append, List.nil_append, List.replicate, decide_eq_true_eq, Bool.not_eq_true', Bool.not_true, Bool.not_false, if_true, if_false, Nat.zero_add, Nat.reduceAdd, Nat.reduceSub, ge_iff_le, true_and, and_true, zip_unzip, Bool.false_xor, Bool.true_xor, Bool.false_eq_true, Bool.true_eq_false, reduceIte, wipeR, dataR_cons, dataR_nil, dataO_d, dataO_none, dataO_ol, dataO_od, oDict, oIsi, tyD, isiB, wSl, wPart, wNoP, oSl, wDisp1, wDGet2, oRemove, atI_0, atI_1, atI_2, wiRev, revItems, oDictP, wForK, wiKeys, kD, oSortX, oPow, oBitAnd, oShl, oNeg, wUn, oInt, oStr, oDivmod, oIs, isD, wChain, wFz, wFzE, frzR, wLSet, wiZip, seqsD, wiVals, wiItems, wOIx, wNo, Option.isSome_some, oMulX, wM1, oSplit, oPart, oStrip1, oRep, oSum, intsD, wRaise, wLI, wLK
, wiR3, wLR, wDisp, wPairs, oReverse, oClear, oInsert, wRevL, wDZ, seqLT, oSortIT, wOFld, wSFld, asOI, setOI, putG, wPar, wiItemsC, wiValsC, wIndexL]
      refine sign_at_at rfl hl ?_
      cases ec : (sg s)[m]? with
      | none =>
        rw [ec] at h
        rw [atS_none ec]
        simp only [w_read_pair_t2, wSeq, wSet, wAsg, wC, wIfS, wB, wOp, oI, oI0, asI, asS, asL, asLT, asT, asB, asA_some, asA_none, asO, asOL, asOD, asKey, asDic, asSq, oLen, oMod, oAdd, oSub, oMul, oDiv, oMax, oMin, oPlus, oEqX, oNeX, eqX_int, eqX_str, eqX_bl, oCmp, oLtX, oLeX, oGtX, oGeX, oIxX, oInX, wCB, wCons, wNil, wVar, wMove, nth, put, startR, wNext, wRet, wRetN, wDrop, wFor, wiR1, wiR2, wiX, itemsOf, wgName, wgTup, wgCons, wgNil, wLend, wLendT, seeR_cons, seeR_nil, seeO_d, seeO_none, seeO_ol, seeO_od, wJoin, wM, oAppend, oPop, oPopAt, wDPut, wDPop, wSortK, wDict0, wTup, wLst, wCall, wAnd, wOr, wNot, wAndV, wOrV, wNotV, wIf, wYes, wLc, wiEnumX, oListX, oTuple, oSort, oSortSet, oAll, oAny, S.fz, S.own, D.flat, txts_map, bools_map, txtKeys_map, List.length_map, List.map_cons, List.map_nil, List.length_cons, List.length_nil, List.cons_append, List.nil_append, List.replicate, decide_eq_true_eq, Bool.not_eq_true', Bool.not_true, Bool.not_false, if_true, if_false, Nat.zero_add, Nat.reduceAdd, Nat.reduceSub, ge_iff_le, true_and, and_true, zip_unzip, Bool.false_xor, Bool.true_xor, Bool.false_eq_true, Bool.true_eq_false, reduceIte, wipeR, dataR_cons, dataR_nil, dataO_d, dataO_none, dataO_ol, dataO_od, oDict, oIsi, tyD, isiB, wSl, wPart, wNoP, oSl, wDisp1, wDGet2, oRemove, atI_0, atI_1, atI_2, wiRev, revItems, oDictP, wForK, wiKeys, kD, oSortX, oPow, oBitAnd, oShl, oNeg, wUn, oInt, oStr, oDivmod, oIs, isD, wChain, wFz, wFzE, frzR, wLSet, wiZip, seqsD, wiVals, wiItems, wOIx, wNo, Option.isSome_some, oMulX, wM1, oSplit, oPart, oStrip1, oRep, oSum, intsD, wRaise, wLI, wLK
, wiR3, wLR, wDisp, wPairs, oReverse, oClear, oInsert, wRevL, wDZ, seqLT, oSortIT, wOFld, wSFld, asOI, setOI, putG, wPar, wiItemsC, wiValsC, wIndexL, ne_one]
        exact ⟨⟨_, _, h⟩, h⟩
      | some c =>
        rw [ec] at h
        rw [atS_some ec]
        simp only [w_read_pair_t2, wSeq, wSet, wAsg, wC, wIfS, wB, wOp, oI, oI0, asI, asS, asL, asLT, asT, asB, asA_some, asA_none, asO, asOL, asOD, asKey, asDic, asSq, oLen, oMod, oAdd, oSub, oMul, oDiv, oMax, oMin, oPlus, oEqX, oNeX, eqX_int, eqX_str, eqX_bl, oCmp, oLtX, oLeX, oGtX, oGeX, oIxX, oInX, wCB, wCons, wNil, wVar, wMove, nth, put, startR, wNext, wRet, wRetN, wDrop, wFor, wiR1, wiR2, wiX, itemsOf, wgName, wgTup, wgCons, wgNil, wLend, wLendT, seeR_cons, seeR_nil, seeO_d, seeO_none, seeO_ol, seeO_od, wJoin, wM, oAppend, oPop, oPopAt, wDPut, wDPop, wSortK, wDict0, wTup, wLst, wCall, wAnd, wOr, wNot, wAndV, wOrV, wNotV, wIf, wYes, wLc, wiEnumX, oListX, oTuple, oSort, oSortSet, oAll, oAny, S.fz, S.own, D.flat, txts_map, bools_map, txtKeys_map, List.length_map, List.map_cons, List.map_nil, List.length_cons, List.length_nil, List.cons_append, List.nil_append, List.replicate, decide_eq_true_eq, Bool.not_eq_true', Bool.not_true, Bool.not_false, if_true, if_false, Nat.zero_add, Nat.reduceAdd, Nat.reduceSub, ge_iff_le, true_and, and_true, zip_unzip, Bool.false_xor, Bool.true_xor, Bool.false_eq_true, Bool.true_eq_false, reduceIte, wipeR, dataR_cons, dataR_nil, dataO_d, dataO_none, dataO_ol, dataO_od, oDict, oIsi, tyD, isiB, wSl, wPart, wNoP, oSl, wDisp1, wDGet2, oRemove, atI_0, atI_1, atI_2, wiRev, revItems, oDictP, wForK, wiKeys, kD, oSortX, oPow, oBitAnd, oShl, oNeg, wUn, oInt, oStr, oDivmod, oIs, isD, wChain, wFz, wFzE, frzR, wLSet, wiZip, seqsD, wiVals, wiItems, wOIx, wNo, Option.isSome_some, oMulX, wM1, oSplit, oPart, oStrip1, oRep, oSum, intsD, wRaise, wLI, wLK
, wiR3, wLR, wDisp, wPairs, oReverse, oClear, oInsert, wRevL, wDZ, seqLT, oSortIT, wOFld, wSFld, asOI, setOI, putG, wPar, wiItemsC, wiValsC, wIndexL, one_ne, inS_one9, sg_opsx]
        simp only [Option.bind_some] at h
        have hop : decide (c ∈ [38, 124, 43]) = (Kd.of c).isSome := by
          unfold Kd.of
          by_cases c1 : c = 38
          · rw [if_pos c1, c1]; rfl
          rw [if_neg c1]
          by_cases c2 : c = 124
          · rw [if_pos c2, c2]; rfl
          rw [if_neg c2]
          by_cases c3 : c = 43
          · rw [if_pos c3, c3]; rfl
          rw [if_neg c3]
          exact decide_eq_false (by simp [c1, c2, c3])
        rw [hop]
        cases ek : Kd.of c with
        | none =>
          rw [ek] at h
          simp only [Option.isSome_none, wSeq, wSet, wAsg, wC, wIfS, wB, wOp, oI, oI0, asI, asS, asL, asLT, asT, asB, asA_some, asA_none, asO, asOL, asOD, asKey, asDic, asSq, oLen, oMod, oAdd, oSub, oMul, oDiv, oMax, oMin, oPlus, oEqX, oNeX, eqX_int, eqX_str, eqX_bl, oCmp, oLtX, oLeX, oGtX, oGeX, oIxX, oInX, wCB, wCons, wNil, wVar, wMove, nth, put, startR, wNext, wRet, wRetN, wDrop, wFor, wiR1, wiR2, wiX, itemsOf, wgName, wgTup, wgCons, wgNil, wLend, wLendT, seeR_cons, seeR_nil, seeO_d, seeO_none, seeO_ol, seeO_od, wJoin, wM, oAppend, oPop, oPopAt, wDPut, wDPop, wSortK, wDict0, wTup, wLst, wCall, wAnd, wOr, wNot, wAndV, wOrV, wNotV, wIf, wYes, wLc, wiEnumX, oListX, oTuple, oSort, oSortSet, oAll, oAny, S.fz, S.own, D.flat, txts_map, bools_map, txtKeys_map, List.length_map, List.map_cons, List.map_nil, List.length_cons, List.length_nil, List.cons_append, List.nil_append, List.replicate, decide_eq_true_eq, Bool.not_eq_true', Bool.not_true, Bool.not_false, if_true, if_false, Nat.zero_add, Nat.reduceAdd, Nat.reduceSub, ge_iff_le, true_and, and_true, zip_unzip, Bool.false_xor, Bool.true_xor, Bool.false_eq_true, Bool.true_eq_false, reduceIte, wipeR, dataR_cons, dataR_nil, dataO_d, dataO_none, dataO_ol, dataO_od, oDict, oIsi, tyD, isiB, wSl, wPart, wNoP, oSl, wDisp1, wDGet2, oRemove, atI_0, atI_1, atI_2, wiRev, revItems, oDictP, wForK, wiKeys, kD, oSortX, oPow, oBitAnd, oShl, oNeg, wUn, oInt, oStr, oDivmod, oIs, isD, wChain, wFz, wFzE, frzR, wLSet, wiZip, seqsD, wiVals, wiItems, wOIx, wNo, Option.isSome_some, oMulX, wM1, oSplit, oPart, oStrip1, oRep, oSum, intsD, wRaise, wLI, wLK
, wiR3, wLR, wDisp, wPairs, oReverse, oClear, oInsert, wRevL, wDZ, seqLT, oSortIT, wOFld, wSFld, asOI, setOI, putG, wPar, wiItemsC, wiValsC, wIndexL]
          exact ⟨⟨_, _, h⟩, h⟩
        | some k =>
          rw [ek] at h
          simp only at h
          simp only [Option.isSome_some, w_read_pair_t3, wSeq, wSet, wAsg, wC, wIfS, wB, wOp, oI, oI0, asI, asS, asL, asLT, asT, asB, asA_some, asA_none, asO, asOL, asOD, asKey, asDic, asSq, oLen, oMod, oAdd, oSub, oMul, oDiv, oMax, oMin, oPlus, oEqX, oNeX, eqX_int, eqX_str, eqX_bl, oCmp, oLtX, oLeX, oGtX, oGeX, oIxX, oInX, wCB, wCons, wNil, wVar, wMove, nth, put, startR, wNext, wRet, wRetN, wDrop, wFor, wiR1, wiR2, wiX, itemsOf, wgName, wgTup, wgCons, wgNil, wLend, wLendT, seeR_cons, seeR_nil, seeO_d, seeO_none, seeO_ol, seeO_od, wJoin, wM, oAppend, oPop, oPopAt, wDPut, wDPop, wSortK, wDict0, wTup, wLst, wCall, wAnd, wOr, wNot, wAndV, wOrV, wNotV, wIf, wYes, wLc, wiEnumX, oListX, oTuple, oSort, oSortSet, oAll, oAny, S.fz, S.own, D.flat, txts_map, bools_map, txtKeys_map, List.length_map, List.map_cons, List.map_nil, List.length_cons, List.length_nil, List.cons_append, List.nil_append, List.replicate, decide_eq_true_eq, Bool.not_eq_true', Bool.not_true, Bool.not_false, if_true, if_false, Nat.zero_add, Nat.reduceAdd, Nat.reduceSub, ge_iff_le, true_and, and_true, zip_unzip, Bool.false_xor, Bool.true_xor, Bool.false_eq_true, Bool.true_eq_false, reduceIte, wipeR, dataR_cons, dataR_nil, dataO_d, dataO_none, dataO_ol, dataO_od, oDict, oIsi, tyD, isiB, wSl, wPart, wNoP, oSl, wDisp1, wDGet2, oRemove, atI_0, atI_1, atI_2, wiRev, revItems, oDictP, wForK, wiKeys, kD, oSortX, oPow, oBitAnd, oShl, oNeg, wUn, oInt, oStr, oDivmod, oIs, isD, wChain, wFz, wFzE, frzR, wLSet, wiZip, seqsD, wiVals, wiItems, wOIx, wNo, Option.isSome_some, oMulX, wM1, oSplit, oPart, oStrip1, oRep, oSum, intsD, wRaise, wLI, wLK
, wiR3, wLR, wDisp, wPairs, oReverse, oClear, oInsert, wRevL, wDZ, seqLT, oSortIT, wOFld, wSFld, asOI, setOI, putG, wPar, wiItemsC, wiValsC, wIndexL]
          refine read_from_at (j := m + 1) rfl hl ?_
          generalize parseF n (sg s) (m + 1) = r2 at h ⊢
          match r2 with
          | none => exact h
          | some (.error p) => exact h
          | some (.ok (b, m2)) =>
            simp only at h
            simp only [resF, w_read_pair_t4, wSeq, wSet, wAsg, wC, wIfS, wB, wOp, oI, oI0, asI, asS, asL, asLT, asT, asB, asA_some, asA_none, asO, asOL, asOD, asKey, asDic, asSq, oLen, oMod, oAdd, oSub, oMul, oDiv, oMax, oMin, oPlus, oEqX, oNeX, eqX_int, eqX_str, eqX_bl, oCmp, oLtX, oLeX, oGtX, oGeX, oIxX, oInX, wCB, wCons, wNil, wVar, wMove, nth, put, startR, wNext, wRet, wRetN, wDrop, wFor, wiR1, wiR2, wiX, itemsOf, wgName, wgTup, wgCons, wgNil, wLend, wLendT, seeR_cons, seeR_nil, seeO_d, seeO_none, seeO_ol, seeO_od, wJoin, wM, oAppend, oPop, oPopAt, wDPut, wDPop, wSortK, wDict0, wTup, wLst, wCall, wAnd, wOr, wNot, wAndV, wOrV, wNotV, wIf, wYes, wLc, wiEnumX, oListX, oTuple, oSort, oSortSet, oAll, oAny, S.fz, S.own, D.flat, txts_map, bools_map, txtKeys_map, List.length_map, List.map_cons, List.map_nil, List.length_cons, List.length_nil, List.cons_append, List.nil_append, List.replicate, decide_eq_true_eq, Bool.not_eq_true', Bool.not_true, Bool.not_false, if_true, if_false, Nat.zero_add, Nat.reduceAdd, Nat.reduceSub, ge_iff_le, true_and, and_true, zip_unzip, Bool.false_xor, Bool.true_xor, Bool.false_eq_true, Bool.true_eq_false, reduceIte, wipeR, dataR_cons, dataR_nil, dataO_d, dataO_none, dataO_ol, dataO_od, oDict, oIsi, tyD, isiB, wSl, wPart, wNoP, oSl, wDisp1, wDGet2, oRemove, atI_0, atI_1, atI_2, wiRev, revItems, oDictP, wForK, wiKeys, kD, oSortX, oPow, oBitAnd, oShl, oNeg, wUn, oInt, oStr, oDivmod, oIs, isD, wChain, wFz, wFzE, frzR, wLSet, wiZip, seqsD, wiVals, wiItems, wOIx, wNo, Option.isSome_some, oMulX, wM1, oSplit, oPart, oStrip1, oRep, oSum, intsD, wRaise, wLI, wLK
, wiR3, wLR, wDisp, wPairs, oReverse, oClear, oInsert, wRevL, wDZ, seqLT, oSortIT, wOFld, wSFld, asOI, setOI, putG, wPar, wiItemsC, wiValsC, wIndexL]
            refine sign_at_at rfl hl ?_
            cases e2 : (sg s)[m2]? with
            | none =>
              rw [e2, if_neg (by simp)] at h
              rw [atS_none e2]
              simp only [wSeq, wSet, wAsg, wC, wIfS, wB, wOp, oI, oI0, asI, asS, asL, asLT, asT, asB, asA_some, asA_none, asO, asOL, asOD, asKey, asDic, asSq, oLen, oMod, oAdd, oSub, oMul, oDiv, oMax, oMin, oPlus, oEqX, oNeX, eqX_int, eqX_str, eqX_bl, oCmp, oLtX, oLeX, oGtX, oGeX, oIxX, oInX, wCB, wCons, wNil, wVar, wMove, nth, put, startR, wNext, wRet, wRetN, wDrop, wFor, wiR1, wiR2, wiX, itemsOf, wgName, wgTup, wgCons, wgNil, wLend, wLendT, seeR_cons, seeR_nil, seeO_d, seeO_none, seeO_ol, seeO_od, wJoin, wM, oAppend, oPop, oPopAt, wDPut, wDPop, wSortK, wDict0, wTup, wLst, wCall, wAnd, wOr, wNot, wAndV, wOrV, wNotV, wIf, wYes, wLc, wiEnumX, oListX, oTuple, oSort, oSortSet, oAll, oAny, S.fz, S.own, D.flat, txts_map, bools_map, txtKeys_map, List.length_map, List.map_cons, List.map_nil, List.length_cons, List.length_nil, List.cons_append, List.nil_append, List.replicate, decide_eq_true_eq, Bool.not_eq_true', Bool.not_true, Bool.not_false, if_true, if_false, Nat.zero_add, Nat.reduceAdd, Nat.reduceSub, ge_iff_le, true_and, and_true, zip_unzip, Bool.false_xor, Bool.true_xor, Bool.false_eq_true, Bool.true_eq_false, reduceIte, wipeR, dataR_cons, dataR_nil, dataO_d, dataO_none, dataO_ol, dataO_od, oDict, oIsi, tyD, isiB, wSl, wPart, wNoP, oSl, wDisp1, wDGet2, oRemove, atI_0, atI_1, atI_2, wiRev, revItems, oDictP, wForK, wiKeys, kD, oSortX, oPow, oBitAnd, oShl, oNeg, wUn, oInt, oStr, oDivmod, oIs, isD, wChain, wFz, wFzE, frzR, wLSet, wiZip, seqsD, wiVals, wiItems, wOIx, wNo, Option.isSome_some, oMulX, wM1, oSplit, oPart, oStrip1, oRep, oSum, intsD, wRaise, wLI, wLK
, wiR3, wLR, wDisp, wPairs, oReverse, oClear, oInsert, wRevL, wDZ, seqLT, oSortIT, wOFld, wSFld, asOI, setOI, putG, wPar, wiItemsC, wiValsC, wIndexL, txt41, ne_one]
              exact ⟨⟨_, _, h⟩, h⟩
            | some d =>
              rw [e2] at h
              rw [atS_some e2]
              simp only [wSeq, wSet, wAsg, wC, wIfS, wB, wOp, oI, oI0, asI, asS, asL, asLT, asT, asB, asA_some, asA_none, asO, asOL, asOD, asKey, asDic, asSq, oLen, oMod, oAdd, oSub, oMul, oDiv, oMax, oMin, oPlus, oEqX, oNeX, eqX_int, eqX_str, eqX_bl, oCmp, oLtX, oLeX, oGtX, oGeX, oIxX, oInX, wCB, wCons, wNil, wVar, wMove, nth, put, startR, wNext, wRet, wRetN, wDrop, wFor, wiR1, wiR2, wiX, itemsOf, wgName, wgTup, wgCons, wgNil, wLend, wLendT, seeR_cons, seeR_nil, seeO_d, seeO_none, seeO_ol, seeO_od, wJoin, wM, oAppend, oPop, oPopAt, wDPut, wDPop, wSortK, wDict0, wTup, wLst, wCall, wAnd, wOr, wNot, wAndV, wOrV, wNotV, wIf, wYes, wLc, wiEnumX, oListX, oTuple, oSort, oSortSet, oAll, oAny, S.fz, S.own, D.flat, txts_map, bools_map, txtKeys_map, List.length_map, List.map_cons, List.map_nil, List.length_cons, List.length_nil, List.cons_append, List.nil_append, List.replicate, decide_eq_true_eq, Bool.not_eq_true', Bool.not_true, Bool.not_false, if_true, if_false, Nat.zero_add, Nat.reduceAdd, Nat.reduceSub, ge_iff_le, true_and, and_true, zip_unzip, Bool.false_xor, Bool.true_xor, Bool.false_eq_true, Bool.true_eq_false, reduceIte, wipeR, dataR_cons, dataR_nil, dataO_d, dataO_none, dataO_ol, dataO_od, oDict, oIsi, tyD, isiB, wSl, wPart, wNoP, oSl, wDisp1, wDGet2, oRemove, atI_0, atI_1, atI_2, wiRev, revItems, oDictP, wForK, wiKeys, kD, oSortX, oPow, oBitAnd, oShl, oNeg, wUn, oInt, oStr, oDivmod, oIs, isD, wChain, wFz, wFzE, frzR, wLSet, wiZip, seqsD, wiVals, wiItems, wOIx, wNo, Option.isSome_some, oMulX, wM1, oSplit, oPart, oStrip1, oRep, oSum, intsD, wRaise, wLI, wLK
, wiR3, wLR, wDisp, wPairs, oReverse, oClear, oInsert, wRevL, wDZ, seqLT, oSortIT, wOFld, wSFld, asOI, setOI, putG, wPar, wiItemsC, wiValsC, wIndexL, txt41, one_eq]
              by_cases hd : d = 41
              · rw [if_pos (by rw [hd])] at h
                rw [decide_eq_true hd]
                simp only [w_read_pair_t5, wSeq, wSet, wAsg, wC, wIfS, wB, wOp, oI, oI0, asI, asS, asL, asLT, asT, asB, asA_some, asA_none, asO, asOL, asOD, asKey, asDic, asSq, oLen, oMod, oAdd, oSub, oMul, oDiv, oMax, oMin, oPlus, oEqX, oNeX, eqX_int, eqX_str, eqX_bl, oCmp, oLtX, oLeX, oGtX, oGeX, oIxX, oInX, wCB, wCons, wNil, wVar, wMove, nth, put, startR, wNext, wRet, wRetN, wDrop, wFor, wiR1, wiR2, wiX, itemsOf, wgName, wgTup, wgCons, wgNil, wLend, wLendT, seeR_cons, seeR_nil, seeO_d, seeO_none, seeO_ol, seeO_od, wJoin, wM, oAppend, oPop, oPopAt, wDPut, wDPop, wSortK, wDict0, wTup, wLst, wCall, wAnd, wOr, wNot, wAndV, wOrV, wNotV, wIf, wYes, wLc, wiEnumX, oListX, oTuple, oSort, oSortSet, oAll, oAny, S.fz, S.own, D.flat, txts_map, bools_map, txtKeys_map, List.length_map, List.map_cons, List.map_nil, List.length_cons, List.length_nil, List.cons_append, List.nil_append, List.replicate, decide_eq_true_eq, Bool.not_eq_true', Bool.not_true, Bool.not_false, if_true, if_false, Nat.zero_add, Nat.reduceAdd, Nat.reduceSub, ge_iff_le, true_and, and_true, zip_unzip, Bool.false_xor, Bool.true_xor, Bool.false_eq_true, Bool.true_eq_false, reduceIte, wipeR, dataR_cons, dataR_nil, dataO_d, dataO_none, dataO_ol, dataO_od, oDict, oIsi, tyD, isiB, wSl, wPart, wNoP, oSl, wDisp1, wDGet2, oRemove, atI_0, atI_1, atI_2, wiRev, revItems, oDictP, wForK, wiKeys, kD, oSortX, oPow, oBitAnd, oShl, oNeg, wUn, oInt, oStr, oDivmod, oIs, isD, wChain, wFz, wFzE, frzR, wLSet, wiZip, seqsD, wiVals, wiItems, wOIx, wNo, Option.isSome_some, oMulX, wM1, oSplit, oPart, oStrip1, oRep, oSum, intsD, wRaise, wLI, wLK
, wiR3, wLR, wDisp, wPairs, oReverse, oClear, oInsert, wRevL, wDZ, seqLT, oSortIT, wOFld, wSFld, asOI, setOI, putG, wPar, wiItemsC, wiValsC, wIndexL, sp_pair_of]
                exact ⟨c, k, a, b, rfl, ek, rfl, rfl, by decide, h⟩
              · rw [if_neg (by simpa using hd)] at h
                rw [decide_eq_false hd]
                simp only [wSeq, wSet, wAsg, wC, wIfS, wB, wOp, oI, oI0, asI, asS, asL, asLT, asT, asB, asA_some, asA_none, asO, asOL, asOD, asKey, asDic, asSq, oLen, oMod, oAdd, oSub, oMul, oDiv, oMax, oMin, oPlus, oEqX, oNeX, eqX_int, eqX_str, eqX_bl, oCmp, oLtX, oLeX, oGtX, oGeX, oIxX, oInX, wCB, wCons, wNil, wVar, wMove, nth, put, startR, wNext, wRet, wRetN, wDrop, wFor, wiR1, wiR2, wiX, itemsOf, wgName, wgTup, wgCons, wgNil, wLend, wLendT, seeR_cons, seeR_nil, seeO_d, seeO_none, seeO_ol, seeO_od, wJoin, wM, oAppend, oPop, oPopAt, wDPut, wDPop, wSortK, wDict0, wTup, wLst, wCall, wAnd, wOr, wNot, wAndV, wOrV, wNotV, wIf, wYes, wLc, wiEnumX, oListX, oTuple, oSort, oSortSet, oAll, oAny, S.fz, S.own, D.flat, txts_map, bools_map, txtKeys_map, List.length_map, List.map_cons, List.map_nil, List.length_cons, List.length_nil, List.cons_append, List.nil_append, List.replicate, decide_eq_true_eq, Bool.not_eq_true', Bool.not_true, Bool.not_false, if_true, if_false, Nat.zero_add, Nat.reduceAdd, Nat.reduceSub, ge_iff_le, true_and, and_true, zip_unzip, Bool.false_xor, Bool.true_xor, Bool.false_eq_true, Bool.true_eq_false, reduceIte, wipeR, dataR_cons, dataR_nil, dataO_d, dataO_none, dataO_ol, dataO_od, oDict, oIsi, tyD, isiB, wSl, wPart, wNoP, oSl, wDisp1, wDGet2, oRemove, atI_0, atI_1, atI_2, wiRev, revItems, oDictP, wForK, wiKeys, kD, oSortX, oPow, oBitAnd, oShl, oNeg, wUn, oInt, oStr, oDivmod, oIs, isD, wChain, wFz, wFzE, frzR, wLSet, wiZip, seqsD, wiVals, wiItems, wOIx, wNo, Option.isSome_some, oMulX, wM1, oSplit, oPart, oStrip1, oRep, oSum, intsD, wRaise, wLI, wLK
, wiR3, wLR, wDisp, wPairs, oReverse, oClear, oInsert, wRevL, wDZ, seqLT, oSortIT, wOFld, wSFld, asOI, setOI, putG, wPar, wiItemsC, wiValsC, wIndexL]
                exact ⟨⟨_, _, h⟩, h⟩
  · exact h.elim
def readT (s : List Nat) : Option (Except Nat Tree) := match parseF 120 s 0 with
  | some (.ok (t, j)) => if j < s.length then some (.error j) else some (.ok t)
  | some (.error p) => some (.error p)
  | none => none
def resT (r : Option (Except Nat Tree)) (P : S → Prop) (px : PX) : Prop := match r with
  | some (.ok t) => P (.d t.obj)
  | some (.error p) => px "NoSaying" [("place", .int (p : Nat))]
  | none => False
def sp_read : DSp := fun ds P px => match ds with
  | [.str s] => s.length ≤ 1000 ∧ resT (readT (sg s)) P px
  | _ => False
abbrev N_read : List Str := ["text", "saying", "place"]
def w_read_t2 (px : PX) : WS := (wRet (wVar 1))
def w_read_t1 (px : PX) : WS := wSeq (wIfS (wB (wOp oLtX (wVar 2) (wCB oLen (wCons (wVar 0) wNil)))) (wRaise px "NoSaying" ["place"] (wCons (wVar 2) wNil)) wNext)
    (w_read_t2 px)
def w_read (px : PX) : WS := wSeq (wAsg (wCall sp_read_from px (wCons (wVar 0) (wCons (wC (.int 0)) wNil))) (wgTup 2 (wgCons (wgName 1) (wgCons (wgName 2) wgNil))))
    (w_read_t1 px)
theorem len_read {ds Q px} (h : sp_read ds Q px) : ds.length = 1 := by unfold sp_read at h; split at h <;> first | rfl | exact h.elim
theorem rd_read {ds Q px} (h : sp_read ds Q px) : w_read px ⟨fun _ => Q (.d .non), Q, fun _ => False, fun _ => False⟩ (startR N_read ds) := by
  unfold sp_read at h
  split at h
  · rename_i s
    obtain ⟨hl, h⟩ := h
    unfold w_read
    simp only [N_read, wSeq, wSet, wAsg, wC, wIfS, wB, wOp, oI, oI0, asI, asS, asL, asLT, asT, asB, asA_some, asA_none, asO, asOL, asOD, asKey, asDic, asSq, oLen, oMod, oAdd, oSub, oMul, oDiv, oMax, oMin, oPlus, oEqX, oNeX, eqX_int, eqX_str, eqX_bl, oCmp, oLtX, oLeX, oGtX, oGeX, oIxX, oInX, wCB, wCons, wNil, wVar, wMove, nth, put, startR, wNext, wRet, wRetN, wDrop, wFor, wiR1, wiR2, wiX, itemsOf, wgName, wgTup, wgCons, wgNil, wLend, wLendT, seeR_cons, seeR_nil, seeO_d, seeO_none, seeO_ol, seeO_od, wJoin, wM, oAppend, oPop, oPopAt, wDPut, wDPop, wSortK, wDict0, wTup, wLst, wCall, wAnd, wOr, wNot, wAndV, wOrV, wNotV, wIf, wYes, wLc, wiEnumX, oListX, oTuple, oSort, oSortSet, oAll, oAny, S.fz, S.own, D.flat, txts_map, bools_map, txtKeys_map, List.length_map, List.map_cons, List.map_nil, List.length_cons, List.length_nil, List.cons_append, List.nil_append, List.replicate, decide_eq_true_eq, Bool.not_eq_true', Bool.not_true, Bool.not_false, if_true, if_false, Nat.zero_add, Nat.reduceAdd, Nat.reduceSub, ge_iff_le, true_and, and_true, zip_unzip, Bool.false_xor, Bool.true_xor, Bool.false_eq_true, Bool.true_eq_false, reduceIte, wipeR, dataR_cons, dataR_nil, dataO_d, dataO_none, dataO_ol, dataO_od, oDict, oIsi, tyD, isiB, wSl, wPart, wNoP, oSl, wDisp1, wDGet2, oRemove, atI_0, atI_1, atI_2, wiRev, revItems, oDictP, wForK, wiKeys, kD, oSortX, oPow, oBitAnd, oShl, oNeg, wUn, oInt, oStr, oDivmod, oIs, isD, wChain, wFz, wFzE, frzR, wLSet, wiZip, seqsD, wiVals, wiItems, wOIx, wNo, Option.isSome_some, oMulX, wM1, oSplit, oPart, oStrip1, oRep, oSum, intsD, wRaise, wLI, wLK
, wiR3, wLR, wDisp, wPairs, oReverse, oClear, oInsert, wRevL, wDZ, seqLT, oSortIT, wOFld, wSFld, asOI, setOI, putG, wPar, wiItemsC, wiValsC, wIndexL]
    refine read_from_at (j := 0) rfl hl ?_
    unfold readT at h
    generalize parseF 120 (sg s) 0 = r at h ⊢
    match r with
    | none => exact h
    | some (.error p) => exact h
    | some (.ok (t, m)) =>
      simp only at h
      simp only [resF, w_read_t1, w_read_t2, wSeq, wSet, wAsg, wC, wIfS, wB, wOp, oI, oI0, asI, asS, asL, asLT, asT, asB, asA_some, asA_none, asO, asOL, asOD, asKey, asDic, asSq, oLen, oMod, oAdd, oSub, oMul, oDiv, oMax, oMin, oPlus, oEqX, oNeX, eqX_int, eqX_str, eqX_bl, oCmp, oLtX, oLeX, oGtX, oGeX, oIxX, oInX, wCB, wCons, wNil, wVar, wMove, nth, put, startR, wNext, wRet, wRetN, wDrop, wFor, wiR1, wiR2, wiX, itemsOf, wgName, wgTup, wgCons, wgNil, wLend, wLendT, seeR_cons, seeR_nil, seeO_d, seeO_none, seeO_ol, seeO_od, wJoin, wM, oAppend, oPop, oPopAt, wDPut, wDPop, wSortK, wDict0, wTup, wLst, wCall, wAnd, wOr, wNot, wAndV, wOrV, wNotV, wIf, wYes, wLc, wiEnumX, oListX, oTuple, oSort, oSortSet, oAll, oAny, S.fz, S.own, D.flat, txts_map, bools_map, txtKeys_map, List.length_map, List.map_cons, List.map_nil, List.length_cons, List.length_nil, List.cons_append, List.nil_append, List.replicate, decide_eq_true_eq, Bool.not_eq_true', Bool.not_true, Bool.not_false, if_true, if_false, Nat.zero_add, Nat.reduceAdd, Nat.reduceSub, ge_iff_le, true_and, and_true, zip_unzip, Bool.false_xor, Bool.true_xor, Bool.false_eq_true, Bool.true_eq_false, reduceIte, wipeR, dataR_cons, dataR_nil, dataO_d, dataO_none, dataO_ol, dataO_od, oDict, oIsi, tyD, isiB, wSl, wPart, wNoP, oSl, wDisp1, wDGet2, oRemove, atI_0, atI_1, atI_2, wiRev, revItems, oDictP, wForK, wiKeys, kD, oSortX, oPow, oBitAnd, oShl, oNeg, wUn, oInt, oStr, oDivmod, oIs, isD, wChain, wFz, wFzE, frzR, wLSet, wiZip, seqsD, wiVals, wiItems, wOIx, wNo, Option.isSome_some, oMulX, wM1, oSplit, oPart, oStrip1, oRep, oSum, intsD, wRaise, wLI, wLK
, wiR3, wLR, wDisp, wPairs, oReverse, oClear, oInsert, wRevL, wDZ, seqLT, oSortIT, wOFld, wSFld, asOI, setOI, putG, wPar, wiItemsC, wiValsC, wIndexL]
      refine ⟨by rw [len0]; omega, ?_⟩
      rw [sg_len]
      by_cases hm : m < (sg s).length
      · rw [if_pos hm] at h
        rw [if_pos (by omega)]
        exact ⟨⟨_, _, h⟩, h⟩
      · rw [if_neg hm] at h
        rw [if_neg (by omega)]
        exact h
  · exact h.elim
def Tree.dp : Tree → Nat
  | .no t => t.dp + 1
  | .pr _ a b => max a.dp b.dp + 2
  | .let _ => 1
  | .one => 1
  | .zero => 1
theorem Tree.dp_wt : ∀ t : Tree, t.dp + 1 ≤ 2 * t.wt
  | .let _ => Nat.le_refl _
  | .one => Nat.le_refl _
  | .zero => Nat.le_refl _
  | .no t => by have := dp_wt t; rw [dp, wt]; omega
  | .pr _ a b => by
    have h1 := dp_wt a
    have h2 := dp_wt b
    have s1 := wt_pos a
    have s2 := wt_pos b
    rw [dp, wt]; omega
theorem Kd.of_sign (k : Kd) : ∃ c, sg k.sign = [c] ∧ Kd.of c = some k := by
  cases k
  · exact ⟨38, by decide +kernel, rfl⟩
  · exact ⟨124, by decide +kernel, rfl⟩
  · exact ⟨43, by decide +kernel, rfl⟩
theorem parse_txt : ∀ (t : Tree), t.ok → ∀ (n : Nat), t.dp ≤ n → ∀ (pre post : List Nat), parseF n (pre ++ (sg t.txt ++ post)) pre.length = some (.ok (t, pre.length + (sg t.txt).length))
  | .let c, h, n, hn, pre, post => by
    obtain ⟨m, rfl⟩ : ∃ m, n = m + 1 := ⟨n - 1, by rw [dp] at hn; omega⟩
    have e : (pre ++ (sg (txt (.let c)) ++ post))[pre.length]? = some c := by rw [List.getElem?_append_right (Nat.le_refl _), Nat.sub_self]; rfl
    have h : c ∈ LET := h
    have h1 : c ≠ 49 := by rintro rfl; revert h; decide
    have h2 : c ≠ 48 := by rintro rfl; revert h; decide
    rw [parseF, e]
    simp only
    rw [if_neg h1, if_neg h2, if_pos h]
    rfl
  | .one, h, n, hn, pre, post => by
    obtain ⟨m, rfl⟩ : ∃ m, n = m + 1 := ⟨n - 1, by rw [dp] at hn; omega⟩
    have es : sg (txt .one) = [49] := by rw [txt]; decide +kernel
    have e : (pre ++ (sg (txt .one) ++ post))[pre.length]? = some 49 := by rw [List.getElem?_append_right (Nat.le_refl _), Nat.sub_self, es]; rfl
    rw [parseF, e, es]
    rfl
  | .zero, h, n, hn, pre, post => by
    obtain ⟨m, rfl⟩ : ∃ m, n = m + 1 := ⟨n - 1, by rw [dp] at hn; omega⟩
    have es : sg (txt .zero) = [48] := by rw [txt]; decide +kernel
    have e : (pre ++ (sg (txt .zero) ++ post))[pre.length]? = some 48 := by rw [List.getElem?_append_right (Nat.le_refl _), Nat.sub_self, es]; rfl
    rw [parseF, e, es]
    rfl
  | .no t, h, n, hn, pre, post => by
    rw [dp] at hn
    obtain ⟨m, rfl⟩ : ∃ m, n = m + 1 := ⟨n - 1, by omega⟩
    have es : sg (txt (.no t)) = 126 :: sg (txt t) := by rw [txt, sg_append]; rw [show sg "~" = [126] by decide +kernel]; rfl
    have e : (pre ++ (sg (txt (.no t)) ++ post))[pre.length]? = some 126 := by rw [List.getElem?_append_right (Nat.le_refl _), Nat.sub_self, es]; rfl
    have ih := parse_txt t h m (by omega) (pre ++ [126]) post
    have e2 : pre ++ (sg (txt (.no t)) ++ post) = (pre ++ [126]) ++ (sg (txt t) ++ post) := by rw [es]; simp
    rw [parseF, e]
    simp only
    rw [if_neg (by decide), if_neg (by decide), if_neg (by decide), if_pos trivial]
    rw [e2, show pre.length + 1 = (pre ++ [126]).length by simp, ih, es]
    simp only [List.length_append, List.length_cons, List.length_nil, Option.some.injEq, Except.ok.injEq, Prod.mk.injEq, true_and]
    omega
  | .pr k a b, h, n, hn, pre, post => by
    rw [dp] at hn
    obtain ⟨m, rfl⟩ : ∃ m, n = m + 2 := ⟨n - 2, by omega⟩
    obtain ⟨c, ec, ek⟩ := k.of_sign
    have es : sg (txt (.pr k a b)) = 40 :: (sg (txt a) ++ (c :: (sg (txt b) ++ [41]))) := by
      rw [txt, sg_append, sg_append, sg_append, sg_append, ec]
      rw [show sg "(" = [40] by decide +kernel, show sg ")" = [41] by decide +kernel]; simp
    have e : (pre ++ (sg (txt (.pr k a b)) ++ post))[pre.length]? = some 40 := by rw [List.getElem?_append_right (Nat.le_refl _), Nat.sub_self, es]; rfl
    have iha := parse_txt a h.1 m (by omega) (pre ++ [40]) (c :: (sg (txt b) ++ (41 :: post)))
    have ihb := parse_txt b h.2 m (by omega) (pre ++ [40] ++ sg (txt a) ++ [c]) (41 :: post)
    have e2 : pre ++ (sg (txt (.pr k a b)) ++ post) = (pre ++ [40]) ++ (sg (txt a) ++ (c :: (sg (txt b) ++ (41 :: post)))) := by rw [es]; simp
    have e3 : (pre ++ [40]) ++ (sg (txt a) ++ (c :: (sg (txt b) ++ (41 :: post)))) = (pre ++ [40] ++ sg (txt a) ++ [c]) ++ (sg (txt b) ++ (41 :: post)) := by simp
    rw [parseF, e]
    simp only
    rw [if_neg (by decide), if_neg (by decide), if_neg (by decide), if_neg (by decide), if_pos trivial, parseP]
    rw [e2, show pre.length + 1 = (pre ++ [40]).length by simp, iha]
    simp only
    have g1 : ((pre ++ [40]) ++ (sg (txt a) ++ (c :: (sg (txt b) ++ (41 :: post)))))[(pre ++ [40]).length + (sg (txt a)).length]? = some c := by
      rw [List.getElem?_append_right (by omega), Nat.add_sub_cancel_left, List.getElem?_append_right (by omega), Nat.sub_self]; rfl
    rw [g1]
    simp only [Option.bind_some, ek]
    have e4 : (pre ++ [40]).length + (sg (txt a)).length + 1 = (pre ++ [40] ++ sg (txt a) ++ [c]).length := by simp; omega
    rw [e3, e4, ihb]
    simp only
    have g2 : ((pre ++ [40] ++ sg (txt a) ++ [c]) ++ (sg (txt b) ++ (41 :: post)))[(pre ++ [40] ++ sg (txt a) ++ [c]).length + (sg (txt b)).length]? = some 41 := by
      rw [List.getElem?_append_right (by omega), Nat.add_sub_cancel_left, List.getElem?_append_right (by omega), Nat.sub_self]; rfl
    rw [if_pos g2, es]
    congr 3
    simp; omega
theorem read_txt {t : Tree} (h : t.ok) (hd : t.dp ≤ 120) : readT (sg t.txt) = some (.ok t) := by
  have := parse_txt t h 120 hd [] []
  rw [List.nil_append, List.append_nil] at this
  unfold readT
  rw [show (0 : Nat) = ([] : List Nat).length from rfl, this]
  simp
theorem read_at {t : Tree} {s : Str} {P : S → Prop} {px : PX} (e : s = t.txt) (h : t.ok) (hw : t.wt ≤ 60) (p : P (.d t.obj)) : sp_read [.str s] P px := by
  subst e
  have h1 := txt_len t
  have h2 := dp_wt t
  refine ⟨by omega, ?_⟩
  rw [read_txt h (by omega)]
  exact p
end DL
namespace DL
open PySem L2 Tree
def Tree.cs : Tree → List Nat
  | .let c => [c]
  | .one => []
  | .zero => []
  | .no t => t.cs
  | .pr _ a b => a.cs ++ b.cs
def Kd.tru : Kd → Bool → Bool → Bool
  | .an => fun x y => x && y
  | .od => fun x y => x || y
  | .ei => fun x y => x != y
def Tree.tru (v : Nat → Bool) : Tree → Bool
  | .let c => v c
  | .one => true
  | .zero => false
  | .no t => !t.tru v
  | .pr k a b => k.tru (a.tru v) (b.tru v)
theorem Tree.cs_ok : ∀ {t : Tree}, t.ok → ∀ c ∈ t.cs, c ∈ LET
  | .let c, h, d, hd => by rw [cs, List.mem_singleton] at hd; subst hd; exact h
  | .one, _, d, hd => by cases hd
  | .zero, _, d, hd => by cases hd
  | .no t, h, d, hd => cs_ok (t := t) h d hd
  | .pr _ a b, h, d, hd => (List.mem_append.mp hd).elim (cs_ok h.1 d) (cs_ok h.2 d)
def isOne (t : Tree) : Prop := t = .one
def isZero (t : Tree) : Prop := t = .zero
def isLt (t : Tree) : Prop := ∃ c, t = .let c
def isNo (t : Tree) : Prop := ∃ u, t = .no u
def isPr (k : Kd) (t : Tree) : Prop := ∃ a b, t = .pr k a b
end DL
namespace DL
open PySem L2 Tree
theorem allRows_keys {cs : List Nat} {r : Row} (h : r ∈ allRows cs) : r.map (·.1) = cs := by
  obtain ⟨n, _, rfl⟩ := List.mem_map.mp h
  unfold rowN
  rw [List.map_reverse, rowR_keys, List.reverse_reverse]
theorem allRows_len (cs : List Nat) : (allRows cs).length = 2 ^ cs.length := by rw [allRows, List.length_map, List.length_range]
end DL
namespace DL
open PySem L2
theorem rowF_mem {r : Row} {p : Nat × Bool} (hn : (r.map (·.1)).Nodup) (hp : p ∈ r) : rowF r p.1 = p.2 := by
  induction r with
  | nil => cases hp
  | cons q r ih =>
    rw [List.map_cons, List.nodup_cons] at hn
    rcases List.mem_cons.mp hp with e | hp
    · subst e; simp [rowF, List.find?_cons]
    · have ne : q.1 ≠ p.1 := fun e => hn.1 (by rw [e]; exact List.mem_map.mpr ⟨p, hp, rfl⟩)
      have := ih hn.2 hp
      unfold rowF at this ⊢
      rw [List.find?_cons, decide_eq_false ne]
      exact this
def tabL (s : Str) (f : List Str) : List Bool := (List.range (2 ^ (sg s).length)).map fun n => val (rowF (rowN (sg s) n)) f
end DL
namespace DL
open PySem L2 Tree
def enumQ {α : Type} : Nat → List α → List (Nat × α)
  | _, [] => []
  | i, x :: l => (i, x) :: enumQ (i + 1) l
theorem enumD_mapG {α : Type} (f : α → D) : ∀ (l : List α) (i : Nat), enumD i (l.map f) = (enumQ i l).map fun x => D.tup [.int x.1, f x.2]
  | [], _ => rfl
  | x :: l, i => by rw [List.map_cons, enumD, enumD_mapG f l, enumQ]; rfl
theorem enumQ_at {α : Type} : ∀ {l : List α} {i : Nat} {x : Nat × α}, x ∈ enumQ i l → ∃ j, x.1 = i + j ∧ l[j]? = some x.2
  | [], _, _, h => by cases h
  | y :: ys, i, x, h => by
    rcases List.mem_cons.mp h with e | h
    · subst e; exact ⟨0, rfl, rfl⟩
    · obtain ⟨j, h1, h2⟩ := enumQ_at h
      exact ⟨j + 1, by omega, by simpa using h2⟩
end DL
namespace DL
open PySem L2 Tree
def Kd.frm : Kd → List Str → List Str → List Str
  | .an => mulF
  | .od => joinF
  | .ei => addedF
def Tree.frm : Tree → List Str
  | .let c => [DL.one c]
  | .one => oneF
  | .zero => []
  | .no t => oppF t.frm
  | .pr k a b => k.frm a.frm b.frm
theorem frm_let {c : Nat} (h : c ∈ LET) : Frm [one c] := ⟨List.pairwise_singleton _ _, List.pairwise_singleton _ _, fun p hp => by rw [List.mem_singleton] at hp; subst hp; exact prd_lts (t := .let c) h⟩
theorem Tree.frm_ok : ∀ {t : Tree}, t.ok → Frm t.frm
  | .let c, h => frm_let h
  | .one, _ => frm_one
  | .zero, _ => frm_nil
  | .no t, h => frm_opp (frm_ok (t := t) h)
  | .pr k a b, h => by
    have h1 := frm_ok h.1
    have h2 := frm_ok h.2
    cases k
    · exact frm_mul h1 h2
    · exact frm_join h1 h2
    · exact frm_added h1 h2
theorem Tree.val_frm (r : Nat → Bool) : ∀ t : Tree, val r t.frm = t.tru r
  | .let c => by
    show val r [DL.one c] = r c
    unfold val tr
    simp [sg_one]
    cases r c <;> rfl
  | .one => val_one r
  | .zero => val_nil r
  | .no t => by rw [frm, val_opp, val_frm r t]; rfl
  | .pr k a b => by
    rw [frm, tru, ← val_frm r a, ← val_frm r b]
    cases k
    · exact val_mul r _ _
    · exact val_join r _ _
    · exact val_added r _ _
theorem Tree.frm_over : ∀ {s : Str} {t : Tree}, (∀ c ∈ t.cs, c ∈ sg s) → Over s t.frm
  | s, .let c, h => fun p hp d hd => by
    rw [frm, List.mem_singleton] at hp; subst hp
    rw [sg_one, List.mem_singleton] at hd; subst hd
    exact h _ (by rw [cs]; simp)
  | s, .one, _ => over_one
  | s, .zero, _ => over_nil
  | s, .no t, h => over_opp (frm_over (t := t) h)
  | s, .pr k a b, h => by
    have h1 := frm_over (t := a) fun c hc => h c (List.mem_append.mpr (.inl hc))
    have h2 := frm_over (t := b) fun c hc => h c (List.mem_append.mpr (.inr hc))
    cases k
    · exact over_mul h1 h2
    · exact over_join h1 h2
    · exact over_added h1 h2
def spF (K : Tree → Prop) (n : Nat) : DSp := fun ds P _ => match ds with
  | [d] => ∃ t : Tree, K t ∧ d = t.obj ∧ (t.wt ≤ n + 2 ∧ t.ok) ∧ P (.d (fD t.frm))
  | _ => False
theorem spF_len {K n ds Q px} (h : spF K n ds Q px) : ds.length = 1 := by unfold spF at h; split at h <;> first | rfl | exact h.elim
def sp_Always_form : DSp := spF isOne 0
def sp_Never_form : DSp := spF isZero 0
def sp_Letter_form : DSp := spF isLt 0
def sps_Not_form (n : Nat) : DSp := spF isNo n
def sps_And_form (n : Nat) : DSp := spF (isPr .an) n
def sps_Or_form (n : Nat) : DSp := spF (isPr .od) n
def sps_Either_form (n : Nat) : DSp := spF (isPr .ei) n
def spr_Not_form : Nat → DSp
  | 0 => fun _ _ _ => False
  | n + 1 => sps_Not_form n
def spr_And_form : Nat → DSp
  | 0 => fun _ _ _ => False
  | n + 1 => sps_And_form n
def spr_Or_form : Nat → DSp
  | 0 => fun _ _ _ => False
  | n + 1 => sps_Or_form n
def spr_Either_form : Nat → DSp
  | 0 => fun _ _ _ => False
  | n + 1 => sps_Either_form n
def Tb_form (n : Nat) : List (Str × DSp) := [("Always", sp_Always_form), ("Never", sp_Never_form), ("Letter", sp_Letter_form), ("Not", spr_Not_form n), ("And", spr_And_form n), ("Or", spr_Or_form n), ("Either", spr_Either_form n)]
theorem at_form {n : Nat} {t : Tree} {x y : D} {P : S → Prop} {px : PX} (hx : x = t.obj) (hy : y = t.obj) (h1 : t.wt ≤ n + 1) (ho : t.ok) (h : P (.d (fD t.frm))) :
    asIns x fun N kvs => fget kvs "form" = none ∧ asA (tget (Tb_form n) N) fun sp => sp [y] P px := by
  subst hx; subst hy
  have z : ∀ (K : Tree → Prop) m, K t → t.wt ≤ m + 2 → spF K m [t.obj] P px := fun K m hk hw => ⟨t, hk, rfl, ⟨hw, ho⟩, h⟩
  cases t with
  | «let» c => exact ⟨rfl, z isLt 0 ⟨c, rfl⟩ (by rw [wt]; omega)⟩
  | one => exact ⟨rfl, z isOne 0 rfl (by rw [wt]; omega)⟩
  | zero => exact ⟨rfl, z isZero 0 rfl (by rw [wt]; omega)⟩
  | no t =>
    have := wt_pos t
    have h2 := h1
    rw [wt] at h2
    obtain ⟨m, rfl⟩ : ∃ m, n = m + 1 := ⟨n - 1, by omega⟩
    exact ⟨rfl, z isNo m ⟨t, rfl⟩ (by omega)⟩
  | pr k a b =>
    have := wt_pos a
    have := wt_pos b
    have h2 := h1
    rw [wt] at h2
    obtain ⟨m, rfl⟩ : ∃ m, n = m + 1 := ⟨n - 1, by omega⟩
    have y := z (isPr k) m ⟨a, b, rfl⟩ (by omega)
    cases k <;> exact ⟨rfl, y⟩
abbrev N_Always_form : List Str := ["self"]
def w_Always_form : WS := (wRet (wTup (wCons (wC (.str "")) wNil)))
theorem len_Always_form {ds Q px} (h : sp_Always_form ds Q px) : ds.length = 1 := spF_len (px := px) h
theorem rd_Always_form {ds Q px} (h : sp_Always_form ds Q px) : w_Always_form ⟨fun _ => Q (.d .non), Q, fun _ => False, fun _ => False⟩ (startR N_Always_form ds) := by
  unfold sp_Always_form spF at h
  split at h
  · obtain ⟨t, rfl, rfl, ⟨_, ho⟩, h⟩ := h
    unfold w_Always_form; simp only [N_Always_form, wFld, wSeq, wSet, wAsg, wC, wIfS, wB, wOp, oI, oI0, asI, asS, asL, asLT, asT, asB, asA_some, asA_none, asO, asOL, asOD, asKey, asDic, asSq, oLen, oMod, oAdd, oSub, oMul, oDiv, oMax, oMin, oPlus, oEqX, oNeX, eqX_int, eqX_str, eqX_bl, oCmp, oLtX, oLeX, oGtX, oGeX, oIxX, oInX, wCB, wCons, wNil, wVar, wMove, nth, put, startR, wNext, wRet, wRetN, wDrop, wFor, wiR1, wiR2, wiX, itemsOf, wgName, wgTup, wgCons, wgNil, wLend, wLendT, seeR_cons, seeR_nil, seeO_d, seeO_none, seeO_ol, seeO_od, wJoin, wM, oAppend, oPop, oPopAt, wDPut, wDPop, wSortK, wDict0, wTup, wLst, wCall, wAnd, wOr, wNot, wAndV, wOrV, wNotV, wIf, wYes, wLc, wiEnumX, oListX, oTuple, oSort, oSortSet, oAll, oAny, S.fz, S.own, D.flat, txts_map, bools_map, txtKeys_map, List.length_map, List.map_cons, List.map_nil, List.length_cons, List.length_nil, List.cons_append, List.nil_append, List.replicate, decide_eq_true_eq, Bool.not_eq_true', Bool.not_true, Bool.not_false, if_true, if_false, Nat.zero_add, Nat.reduceAdd, Nat.reduceSub, ge_iff_le, true_and, and_true, zip_unzip, Bool.false_xor, Bool.true_xor, Bool.false_eq_true, Bool.true_eq_false, reduceIte, wipeR, dataR_cons, dataR_nil, dataO_d, dataO_none, dataO_ol, dataO_od, oDict, oIsi, tyD, isiB, wSl, wPart, wNoP, oSl, wDisp1, wDGet2, oRemove, atI_0, atI_1, atI_2, wiRev, revItems, oDictP, wForK, wiKeys, kD, oSortX, oPow, oBitAnd, oShl, oNeg, wUn, oInt, oStr, oDivmod, oIs, isD, wChain, wFz, wFzE, frzR, wLSet, wiZip, seqsD, wiVals, wiItems, wOIx, wNo, Option.isSome_some, oMulX, wM1, oSplit, oPart, oStrip1, oRep, oSum, intsD, wRaise, wLI, wLK
, wiR3, wLR, wDisp, wPairs, oReverse, oClear, oInsert, wRevL, wDZ, seqLT, oSortIT, wOFld, wSFld, asOI, setOI, putG, wPar, wiItemsC, wiValsC, wIndexL]
    exact ⟨by decide, h⟩
  · exact h.elim
abbrev N_Never_form : List Str := ["self"]
def w_Never_form : WS := (wRet (wTup wNil))
theorem len_Never_form {ds Q px} (h : sp_Never_form ds Q px) : ds.length = 1 := spF_len (px := px) h
theorem rd_Never_form {ds Q px} (h : sp_Never_form ds Q px) : w_Never_form ⟨fun _ => Q (.d .non), Q, fun _ => False, fun _ => False⟩ (startR N_Never_form ds) := by
  unfold sp_Never_form spF at h
  split at h
  · obtain ⟨t, rfl, rfl, ⟨_, ho⟩, h⟩ := h
    unfold w_Never_form; simp only [N_Never_form, wFld, wSeq, wSet, wAsg, wC, wIfS, wB, wOp, oI, oI0, asI, asS, asL, asLT, asT, asB, asA_some, asA_none, asO, asOL, asOD, asKey, asDic, asSq, oLen, oMod, oAdd, oSub, oMul, oDiv, oMax, oMin, oPlus, oEqX, oNeX, eqX_int, eqX_str, eqX_bl, oCmp, oLtX, oLeX, oGtX, oGeX, oIxX, oInX, wCB, wCons, wNil, wVar, wMove, nth, put, startR, wNext, wRet, wRetN, wDrop, wFor, wiR1, wiR2, wiX, itemsOf, wgName, wgTup, wgCons, wgNil, wLend, wLendT, seeR_cons, seeR_nil, seeO_d, seeO_none, seeO_ol, seeO_od, wJoin, wM, oAppend, oPop, oPopAt, wDPut, wDPop, wSortK, wDict0, wTup, wLst, wCall, wAnd, wOr, wNot, wAndV, wOrV, wNotV, wIf, wYes, wLc, wiEnumX, oListX, oTuple, oSort, oSortSet, oAll, oAny, S.fz, S.own, D.flat, txts_map, bools_map, txtKeys_map, List.length_map, List.map_cons, List.map_nil, List.length_cons, List.length_nil, List.cons_append, List.nil_append, List.replicate, decide_eq_true_eq, Bool.not_eq_true', Bool.not_true, Bool.not_false, if_true, if_false, Nat.zero_add, Nat.reduceAdd, Nat.reduceSub, ge_iff_le, true_and, and_true, zip_unzip, Bool.false_xor, Bool.true_xor, Bool.false_eq_true, Bool.true_eq_false, reduceIte, wipeR, dataR_cons, dataR_nil, dataO_d, dataO_none, dataO_ol, dataO_od, oDict, oIsi, tyD, isiB, wSl, wPart, wNoP, oSl, wDisp1, wDGet2, oRemove, atI_0, atI_1, atI_2, wiRev, revItems, oDictP, wForK, wiKeys, kD, oSortX, oPow, oBitAnd, oShl, oNeg, wUn, oInt, oStr, oDivmod, oIs, isD, wChain, wFz, wFzE, frzR, wLSet, wiZip, seqsD, wiVals, wiItems, wOIx, wNo, Option.isSome_some, oMulX, wM1, oSplit, oPart, oStrip1, oRep, oSum, intsD, wRaise, wLI, wLK
, wiR3, wLR, wDisp, wPairs, oReverse, oClear, oInsert, wRevL, wDZ, seqLT, oSortIT, wOFld, wSFld, asOI, setOI, putG, wPar, wiItemsC, wiValsC, wIndexL]
    exact ⟨by decide, h⟩
  · exact h.elim
abbrev N_Letter_form : List Str := ["self"]
def w_Letter_form : WS := (wRet (wTup (wCons (wFld ["Letter"] "letter" (wVar 0)) wNil)))
theorem len_Letter_form {ds Q px} (h : sp_Letter_form ds Q px) : ds.length = 1 := spF_len (px := px) h
theorem rd_Letter_form {ds Q px} (h : sp_Letter_form ds Q px) : w_Letter_form ⟨fun _ => Q (.d .non), Q, fun _ => False, fun _ => False⟩ (startR N_Letter_form ds) := by
  unfold sp_Letter_form spF at h
  split at h
  · obtain ⟨t, ⟨c, rfl⟩, rfl, ⟨_, ho⟩, h⟩ := h
    unfold w_Letter_form; simp only [N_Letter_form, wFld, wSeq, wSet, wAsg, wC, wIfS, wB, wOp, oI, oI0, asI, asS, asL, asLT, asT, asB, asA_some, asA_none, asO, asOL, asOD, asKey, asDic, asSq, oLen, oMod, oAdd, oSub, oMul, oDiv, oMax, oMin, oPlus, oEqX, oNeX, eqX_int, eqX_str, eqX_bl, oCmp, oLtX, oLeX, oGtX, oGeX, oIxX, oInX, wCB, wCons, wNil, wVar, wMove, nth, put, startR, wNext, wRet, wRetN, wDrop, wFor, wiR1, wiR2, wiX, itemsOf, wgName, wgTup, wgCons, wgNil, wLend, wLendT, seeR_cons, seeR_nil, seeO_d, seeO_none, seeO_ol, seeO_od, wJoin, wM, oAppend, oPop, oPopAt, wDPut, wDPop, wSortK, wDict0, wTup, wLst, wCall, wAnd, wOr, wNot, wAndV, wOrV, wNotV, wIf, wYes, wLc, wiEnumX, oListX, oTuple, oSort, oSortSet, oAll, oAny, S.fz, S.own, D.flat, txts_map, bools_map, txtKeys_map, List.length_map, List.map_cons, List.map_nil, List.length_cons, List.length_nil, List.cons_append, List.nil_append, List.replicate, decide_eq_true_eq, Bool.not_eq_true', Bool.not_true, Bool.not_false, if_true, if_false, Nat.zero_add, Nat.reduceAdd, Nat.reduceSub, ge_iff_le, true_and, and_true, zip_unzip, Bool.false_xor, Bool.true_xor, Bool.false_eq_true, Bool.true_eq_false, reduceIte, wipeR, dataR_cons, dataR_nil, dataO_d, dataO_none, dataO_ol, dataO_od, oDict, oIsi, tyD, isiB, wSl, wPart, wNoP, oSl, wDisp1, wDGet2, oRemove, atI_0, atI_1, atI_2, wiRev, revItems, oDictP, wForK, wiKeys, kD, oSortX, oPow, oBitAnd, oShl, oNeg, wUn, oInt, oStr, oDivmod, oIs, isD, wChain, wFz, wFzE, frzR, wLSet, wiZip, seqsD, wiVals, wiItems, wOIx, wNo, Option.isSome_some, oMulX, wM1, oSplit, oPart, oStrip1, oRep, oSum, intsD, wRaise, wLI, wLK
, wiR3, wLR, wDisp, wPairs, oReverse, oClear, oInsert, wRevL, wDZ, seqLT, oSortIT, wOFld, wSFld, asOI, setOI, putG, wPar, wiItemsC, wiValsC, wIndexL]
    exact ⟨by simp, by decide, h⟩
  · exact h.elim
abbrev N_Not_form : List Str := ["self"]
def w_Not_form (n : Nat) : WS := (wRet (wCall sp_opposite (fun _ _ => False) (wCons (wMeth (Tb_form n) "form" (fun _ _ => False) (wFld ["Not", "And", "Or", "Either"] "one" (wVar 0)) wNil) wNil)))
theorem len_Not_form {n : Nat} {ds Q px} (h : spr_Not_form (n + 1) ds Q px) : ds.length = 1 := spF_len (K := isNo) (n := n) (px := px) h
theorem rd_Not_form {n : Nat} {ds Q px} (h : spr_Not_form (n + 1) ds Q px) : w_Not_form n ⟨fun _ => Q (.d .non), Q, fun _ => False, fun _ => False⟩ (startR N_Not_form ds) := by
  replace h : spF isNo n ds Q px := h
  unfold spF at h
  split at h
  · obtain ⟨t, ⟨u, rfl⟩, rfl, ⟨h1, ho⟩, h⟩ := h
    rw [wt] at h1
    unfold w_Not_form; simp only [N_Not_form, wFld, wMeth, wSeq, wSet, wAsg, wC, wIfS, wB, wOp, oI, oI0, asI, asS, asL, asLT, asT, asB, asA_some, asA_none, asO, asOL, asOD, asKey, asDic, asSq, oLen, oMod, oAdd, oSub, oMul, oDiv, oMax, oMin, oPlus, oEqX, oNeX, eqX_int, eqX_str, eqX_bl, oCmp, oLtX, oLeX, oGtX, oGeX, oIxX, oInX, wCB, wCons, wNil, wVar, wMove, nth, put, startR, wNext, wRet, wRetN, wDrop, wFor, wiR1, wiR2, wiX, itemsOf, wgName, wgTup, wgCons, wgNil, wLend, wLendT, seeR_cons, seeR_nil, seeO_d, seeO_none, seeO_ol, seeO_od, wJoin, wM, oAppend, oPop, oPopAt, wDPut, wDPop, wSortK, wDict0, wTup, wLst, wCall, wAnd, wOr, wNot, wAndV, wOrV, wNotV, wIf, wYes, wLc, wiEnumX, oListX, oTuple, oSort, oSortSet, oAll, oAny, S.fz, S.own, D.flat, txts_map, bools_map, txtKeys_map, List.length_map, List.map_cons, List.map_nil, List.length_cons, List.length_nil, List.cons_append, List.nil_append, List.replicate, decide_eq_true_eq, Bool.not_eq_true', Bool.not_true, Bool.not_false, if_true, if_false, Nat.zero_add, Nat.reduceAdd, Nat.reduceSub, ge_iff_le, true_and, and_true, zip_unzip, Bool.false_xor, Bool.true_xor, Bool.false_eq_true, Bool.true_eq_false, reduceIte, wipeR, dataR_cons, dataR_nil, dataO_d, dataO_none, dataO_ol, dataO_od, oDict, oIsi, tyD, isiB, wSl, wPart, wNoP, oSl, wDisp1, wDGet2, oRemove, atI_0, atI_1, atI_2, wiRev, revItems, oDictP, wForK, wiKeys, kD, oSortX, oPow, oBitAnd, oShl, oNeg, wUn, oInt, oStr, oDivmod, oIs, isD, wChain, wFz, wFzE, frzR, wLSet, wiZip, seqsD, wiVals, wiItems, wOIx, wNo, Option.isSome_some, oMulX, wM1, oSplit, oPart, oStrip1, oRep, oSum, intsD, wRaise, wLI, wLK
, wiR3, wLR, wDisp, wPairs, oReverse, oClear, oInsert, wRevL, wDZ, seqLT, oSortIT, wOFld, wSFld, asOI, setOI, putG, wPar, wiItemsC, wiValsC, wIndexL]
    refine ⟨by simp, at_form rfl rfl (by omega) ho ?_⟩
    simp only [S.fz, sp_opposite, asF_fD]
    exact ⟨frm_ok (t := u) ho, h⟩
  · exact h.elim
abbrev N_And_form : List Str := ["self"]
def w_And_form (n : Nat) : WS := (wRet (wCall sp_multiplied (fun _ _ => False) (wCons (wMeth (Tb_form n) "form" (fun _ _ => False) (wFld ["Not", "And", "Or", "Either"] "one" (wVar 0)) wNil) (wCons (wMeth (Tb_form n) "form" (fun _ _ => False) (wFld ["And", "Or", "Either"] "other" (wVar 0)) wNil) wNil))))
theorem len_And_form {n : Nat} {ds Q px} (h : spr_And_form (n + 1) ds Q px) : ds.length = 1 := spF_len (K := isPr .an) (n := n) (px := px) h
theorem rd_And_form {n : Nat} {ds Q px} (h : spr_And_form (n + 1) ds Q px) : w_And_form n ⟨fun _ => Q (.d .non), Q, fun _ => False, fun _ => False⟩ (startR N_And_form ds) := by
  replace h : spF (isPr .an) n ds Q px := h
  unfold spF at h
  split at h
  · obtain ⟨t, ⟨a, b, rfl⟩, rfl, ⟨h1, ho⟩, h⟩ := h
    rw [wt] at h1
    have := wt_pos a
    have := wt_pos b
    unfold w_And_form; simp only [N_And_form, wFld, wMeth, wSeq, wSet, wAsg, wC, wIfS, wB, wOp, oI, oI0, asI, asS, asL, asLT, asT, asB, asA_some, asA_none, asO, asOL, asOD, asKey, asDic, asSq, oLen, oMod, oAdd, oSub, oMul, oDiv, oMax, oMin, oPlus, oEqX, oNeX, eqX_int, eqX_str, eqX_bl, oCmp, oLtX, oLeX, oGtX, oGeX, oIxX, oInX, wCB, wCons, wNil, wVar, wMove, nth, put, startR, wNext, wRet, wRetN, wDrop, wFor, wiR1, wiR2, wiX, itemsOf, wgName, wgTup, wgCons, wgNil, wLend, wLendT, seeR_cons, seeR_nil, seeO_d, seeO_none, seeO_ol, seeO_od, wJoin, wM, oAppend, oPop, oPopAt, wDPut, wDPop, wSortK, wDict0, wTup, wLst, wCall, wAnd, wOr, wNot, wAndV, wOrV, wNotV, wIf, wYes, wLc, wiEnumX, oListX, oTuple, oSort, oSortSet, oAll, oAny, S.fz, S.own, D.flat, txts_map, bools_map, txtKeys_map, List.length_map, List.map_cons, List.map_nil, List.length_cons, List.length_nil, List.cons_append, List.nil_append, List.replicate, decide_eq_true_eq, Bool.not_eq_true', Bool.not_true, Bool.not_false, if_true, if_false, Nat.zero_add, Nat.reduceAdd, Nat.reduceSub, ge_iff_le, true_and, and_true, zip_unzip, Bool.false_xor, Bool.true_xor, Bool.false_eq_true, Bool.true_eq_false, reduceIte, wipeR, dataR_cons, dataR_nil, dataO_d, dataO_none, dataO_ol, dataO_od, oDict, oIsi, tyD, isiB, wSl, wPart, wNoP, oSl, wDisp1, wDGet2, oRemove, atI_0, atI_1, atI_2, wiRev, revItems, oDictP, wForK, wiKeys, kD, oSortX, oPow, oBitAnd, oShl, oNeg, wUn, oInt, oStr, oDivmod, oIs, isD, wChain, wFz, wFzE, frzR, wLSet, wiZip, seqsD, wiVals, wiItems, wOIx, wNo, Option.isSome_some, oMulX, wM1, oSplit, oPart, oStrip1, oRep, oSum, intsD, wRaise, wLI, wLK
, wiR3, wLR, wDisp, wPairs, oReverse, oClear, oInsert, wRevL, wDZ, seqLT, oSortIT, wOFld, wSFld, asOI, setOI, putG, wPar, wiItemsC, wiValsC, wIndexL]
    refine fld_one (at_form rfl rfl (by omega) ho.1 ?_)
    refine fld_other (at_form rfl rfl (by omega) ho.2 ?_)
    simp only [S.fz, sp_multiplied, asF_fD]
    exact ⟨⟨frm_ok ho.1, frm_ok ho.2⟩, h⟩
  · exact h.elim
abbrev N_Or_form : List Str := ["self"]
def w_Or_form (n : Nat) : WS := (wRet (wCall sp_joined (fun _ _ => False) (wCons (wMeth (Tb_form n) "form" (fun _ _ => False) (wFld ["Not", "And", "Or", "Either"] "one" (wVar 0)) wNil) (wCons (wMeth (Tb_form n) "form" (fun _ _ => False) (wFld ["And", "Or", "Either"] "other" (wVar 0)) wNil) wNil))))
theorem len_Or_form {n : Nat} {ds Q px} (h : spr_Or_form (n + 1) ds Q px) : ds.length = 1 := spF_len (K := isPr .od) (n := n) (px := px) h
theorem rd_Or_form {n : Nat} {ds Q px} (h : spr_Or_form (n + 1) ds Q px) : w_Or_form n ⟨fun _ => Q (.d .non), Q, fun _ => False, fun _ => False⟩ (startR N_Or_form ds) := by
  replace h : spF (isPr .od) n ds Q px := h
  unfold spF at h
  split at h
  · obtain ⟨t, ⟨a, b, rfl⟩, rfl, ⟨h1, ho⟩, h⟩ := h
    rw [wt] at h1
    have := wt_pos a
    have := wt_pos b
    unfold w_Or_form; simp only [N_Or_form, wFld, wMeth, wSeq, wSet, wAsg, wC, wIfS, wB, wOp, oI, oI0, asI, asS, asL, asLT, asT, asB, asA_some, asA_none, asO, asOL, asOD, asKey, asDic, asSq, oLen, oMod, oAdd, oSub, oMul, oDiv, oMax, oMin, oPlus, oEqX, oNeX, eqX_int, eqX_str, eqX_bl, oCmp, oLtX, oLeX, oGtX, oGeX, oIxX, oInX, wCB, wCons, wNil, wVar, wMove, nth, put, startR, wNext, wRet, wRetN, wDrop, wFor, wiR1, wiR2, wiX, itemsOf, wgName, wgTup, wgCons, wgNil, wLend, wLendT, seeR_cons, seeR_nil, seeO_d, seeO_none, seeO_ol, seeO_od, wJoin, wM, oAppend, oPop, oPopAt, wDPut, wDPop, wSortK, wDict0, wTup, wLst, wCall, wAnd, wOr, wNot, wAndV, wOrV, wNotV, wIf, wYes, wLc, wiEnumX, oListX, oTuple, oSort, oSortSet, oAll, oAny, S.fz, S.own, D.flat, txts_map, bools_map, txtKeys_map, List.length_map, List.map_cons, List.map_nil, List.length_cons, List.length_nil, List.cons_append, List.nil_append, List.replicate, decide_eq_true_eq, Bool.not_eq_true', Bool.not_true, Bool.not_false, if_true, if_false, Nat.zero_add, Nat.reduceAdd, Nat.reduceSub, ge_iff_le, true_and, and_true, zip_unzip, Bool.false_xor, Bool.true_xor, Bool.false_eq_true, Bool.true_eq_false, reduceIte, wipeR, dataR_cons, dataR_nil, dataO_d, dataO_none, dataO_ol, dataO_od, oDict, oIsi, tyD, isiB, wSl, wPart, wNoP, oSl, wDisp1, wDGet2, oRemove, atI_0, atI_1, atI_2, wiRev, revItems, oDictP, wForK, wiKeys, kD, oSortX, oPow, oBitAnd, oShl, oNeg, wUn, oInt, oStr, oDivmod, oIs, isD, wChain, wFz, wFzE, frzR, wLSet, wiZip, seqsD, wiVals, wiItems, wOIx, wNo, Option.isSome_some, oMulX, wM1, oSplit, oPart, oStrip1, oRep, oSum, intsD, wRaise, wLI, wLK
, wiR3, wLR, wDisp, wPairs, oReverse, oClear, oInsert, wRevL, wDZ, seqLT, oSortIT, wOFld, wSFld, asOI, setOI, putG, wPar, wiItemsC, wiValsC, wIndexL]
    refine fld_one (at_form rfl rfl (by omega) ho.1 ?_)
    refine fld_other (at_form rfl rfl (by omega) ho.2 ?_)
    simp only [S.fz, sp_joined, asF_fD]
    exact ⟨⟨frm_ok ho.1, frm_ok ho.2⟩, h⟩
  · exact h.elim
abbrev N_Either_form : List Str := ["self"]
def w_Either_form (n : Nat) : WS := (wRet (wCall sp_added (fun _ _ => False) (wCons (wMeth (Tb_form n) "form" (fun _ _ => False) (wFld ["Not", "And", "Or", "Either"] "one" (wVar 0)) wNil) (wCons (wMeth (Tb_form n) "form" (fun _ _ => False) (wFld ["And", "Or", "Either"] "other" (wVar 0)) wNil) wNil))))
theorem len_Either_form {n : Nat} {ds Q px} (h : spr_Either_form (n + 1) ds Q px) : ds.length = 1 := spF_len (K := isPr .ei) (n := n) (px := px) h
theorem rd_Either_form {n : Nat} {ds Q px} (h : spr_Either_form (n + 1) ds Q px) : w_Either_form n ⟨fun _ => Q (.d .non), Q, fun _ => False, fun _ => False⟩ (startR N_Either_form ds) := by
  replace h : spF (isPr .ei) n ds Q px := h
  unfold spF at h
  split at h
  · obtain ⟨t, ⟨a, b, rfl⟩, rfl, ⟨h1, ho⟩, h⟩ := h
    rw [wt] at h1
    have := wt_pos a
    have := wt_pos b
    unfold w_Either_form; simp only [N_Either_form, wFld, wMeth, wSeq, wSet, wAsg, wC, wIfS, wB, wOp, oI, oI0, asI, asS, asL, asLT, asT, asB, asA_some, asA_none, asO, asOL, asOD, asKey, asDic, asSq, oLen, oMod, oAdd, oSub, oMul, oDiv, oMax, oMin, oPlus, oEqX, oNeX, eqX_int, eqX_str, eqX_bl, oCmp, oLtX, oLeX, oGtX, oGeX, oIxX, oInX, wCB, wCons, wNil, wVar, wMove, nth, put, startR, wNext, wRet, wRetN, wDrop, wFor, wiR1, wiR2, wiX, itemsOf, wgName, wgTup, wgCons, wgNil, wLend, wLendT, seeR_cons, seeR_nil, seeO_d, seeO_none, seeO_ol, seeO_od, wJoin, wM, oAppend, oPop, oPopAt, wDPut, wDPop, wSortK, wDict0, wTup, wLst, wCall, wAnd, wOr, wNot, wAndV, wOrV, wNotV, wIf, wYes, wLc, wiEnumX, oListX, oTuple, oSort, oSortSet, oAll, oAny, S.fz, S.own, D.flat, txts_map, bools_map, txtKeys_map, List.length_map, List.map_cons, List.map_nil, List.length_cons, List.length_nil, List.cons_append, List.nil_append, List.replicate, decide_eq_true_eq, Bool.not_eq_true', Bool.not_true, Bool.not_false, if_true, if_false, Nat.zero_add, Nat.reduceAdd, Nat.reduceSub, ge_iff_le, true_and, and_true, zip_unzip, Bool.false_xor, Bool.true_xor, Bool.false_eq_true, Bool.true_eq_false, reduceIte, wipeR, dataR_cons, dataR_nil, dataO_d, dataO_none, dataO_ol, dataO_od, oDict, oIsi, tyD, isiB, wSl, wPart, wNoP, oSl, wDisp1, wDGet2, oRemove, atI_0, atI_1, atI_2, wiRev, revItems, oDictP, wForK, wiKeys, kD, oSortX, oPow, oBitAnd, oShl, oNeg, wUn, oInt, oStr, oDivmod, oIs, isD, wChain, wFz, wFzE, frzR, wLSet, wiZip, seqsD, wiVals, wiItems, wOIx, wNo, Option.isSome_some, oMulX, wM1, oSplit, oPart, oStrip1, oRep, oSum, intsD, wRaise, wLI, wLK
, wiR3, wLR, wDisp, wPairs, oReverse, oClear, oInsert, wRevL, wDZ, seqLT, oSortIT, wOFld, wSFld, asOI, setOI, putG, wPar, wiItemsC, wiValsC, wIndexL]
    refine fld_one (at_form rfl rfl (by omega) ho.1 ?_)
    refine fld_other (at_form rfl rfl (by omega) ho.2 ?_)
    simp only [S.fz, sp_added, asF_fD]
    exact ⟨⟨by have := (frm_ok ho.1).len; omega, by have := (frm_ok ho.2).len; omega⟩, h⟩
  · exact h.elim
end DL
set_option maxHeartbeats 2000000
namespace DL
open PySem L2 Tree
def Tree.gd (s : Str) (t : Tree) : Prop := t.ok ∧ ∀ c ∈ t.cs, c ∈ sg s
theorem gd_pr {s : Str} {k : Kd} {a b : Tree} (ha : a.gd s) (hb : b.gd s) : (Tree.pr k a b).gd s := ⟨⟨ha.1, hb.1⟩, fun c hc => (List.mem_append.mp hc).elim (ha.2 c) (hb.2 c)⟩
end DL
set_option maxHeartbeats 2000000
namespace DL
open PySem L2 Tree
def marks : List Nat := [49, 48, 126, 40, 41, 38, 124, 43]
theorem txt_sign : ∀ {t : Tree} {c : Nat}, c ∈ sg t.txt → c ∈ t.cs ∨ c ∈ marks
  | .let d, c, h => .inl h
  | .one, c, h => .inr (by rw [txt, show sg "1" = [49] by decide +kernel, List.mem_singleton] at h; subst h; decide)
  | .zero, c, h => .inr (by rw [txt, show sg "0" = [48] by decide +kernel, List.mem_singleton] at h; subst h; decide)
  | .no t, c, h => by
    rw [txt, sg_append, List.mem_append] at h
    rcases h with h | h
    · rw [show sg "~" = [126] by decide +kernel, List.mem_singleton] at h; subst h; exact .inr (by decide)
    · exact txt_sign (t := t) h
  | .pr k a b, c, h => by
    rw [txt, sg_append, sg_append, sg_append, sg_append] at h
    simp only [List.mem_append] at h
    rcases h with (((h | h) | h) | h) | h
    · rw [show sg "(" = [40] by decide +kernel, List.mem_singleton] at h; subst h; exact .inr (by decide)
    · exact (txt_sign (t := a) h).imp (fun z => List.mem_append.mpr (.inl z)) id
    · refine .inr ?_
      cases k
      · rw [show sg Kd.an.sign = [38] by decide +kernel, List.mem_singleton] at h; subst h; decide
      · rw [show sg Kd.od.sign = [124] by decide +kernel, List.mem_singleton] at h; subst h; decide
      · rw [show sg Kd.ei.sign = [43] by decide +kernel, List.mem_singleton] at h; subst h; decide
    · exact (txt_sign (t := b) h).imp (fun z => List.mem_append.mpr (.inr z)) id
    · rw [show sg ")" = [41] by decide +kernel, List.mem_singleton] at h; subst h; exact .inr (by decide)
theorem txt_not {t : Tree} (h : t.ok) {c : Nat} (hc : c ∈ sg t.txt) : c ≠ 32 ∧ c ≠ 61 := by
  rcases txt_sign hc with z | z
  · have := cs_ok h c z
    constructor <;> rintro rfl <;> revert this <;> decide
  · constructor <;> rintro rfl <;> revert z <;> decide
theorem txt_ne (t : Tree) : sg t.txt ≠ [] := by
  cases t with
  | «let» c => rw [txt, sg_one]; exact fun z => nomatch z
  | one => decide +kernel
  | zero => decide +kernel
  | no t => rw [txt, sg_append, show sg "~" = [126] by decide +kernel]; exact fun z => nomatch z
  | pr k a b => rw [txt, sg_append, sg_append, sg_append, sg_append, show sg "(" = [40] by decide +kernel]; simp
theorem mark_not : ∀ c ∈ marks, c ∉ LET := by decide
def blanks (n : Nat) : Str := ⟨(List.replicate n 32).toArray⟩
theorem sg_blanks (n : Nat) : sg (blanks n) = List.replicate n 32 := rfl
theorem tw_rep (p : Nat → Bool) (h : p 32 = true) : ∀ (n : Nat) (l : List Nat), (List.replicate n 32 ++ l).takeWhile p = List.replicate n 32 ++ l.takeWhile p
  | 0, l => by simp
  | n + 1, l => by rw [List.replicate_succ, List.cons_append, List.takeWhile_cons, h, if_pos rfl, tw_rep p h n l]; rfl
theorem tw_none {p : Nat → Bool} {l : List Nat} (h : ∀ c ∈ l, p c = false) : l.takeWhile p = [] := by
  cases l with
  | nil => rfl
  | cons c l => rw [List.takeWhile_cons, h c List.mem_cons_self]; rfl
theorem tw_none2 {p : Nat → Bool} {l m : List Nat} (h : ∀ c ∈ l, p c = false) (hn : l ≠ []) : (l ++ m).takeWhile p = [] := by
  cases l with
  | nil => exact absurd rfl hn
  | cons c l => rw [List.cons_append, List.takeWhile_cons, h c List.mem_cons_self]; rfl
theorem strip_blanks {w : Str} (h : ∀ c ∈ sg w, c ≠ 32) (hn : sg w ≠ []) (i j : Nat) : Txt.stripChars (blanks i ++ w ++ blanks j) " " = w := by
  have hs : sg (blanks i ++ w ++ blanks j) = List.replicate i 32 ++ (sg w ++ List.replicate j 32) := by rw [sg_append, sg_append, sg_blanks, sg_blanks, List.append_assoc]
  have hp : ∀ c, (" " : Str).cps.contains c = decide (c = 32) := fun c => by
    have : (" " : Str).cps = #[32] := by decide +kernel
    rw [this]
    have e : (#[32] : Array Nat).contains c = [32].contains c := by rw [← List.contains_toArray]
    rw [e]; by_cases h : c = 32 <;> simp [h]
  have hw : ∀ c ∈ sg w, (" " : Str).cps.contains c = false := fun c hc => by rw [hp]; exact decide_eq_false (h c hc)
  have h32 : (" " : Str).cps.contains 32 = true := by rw [hp]; rfl
  unfold Txt.stripChars
  generalize (" " : Str).cps.contains = g at hw h32
  have lo : stripLo g true (blanks i ++ w ++ blanks j) = i := by
    unfold stripLo
    rw [if_pos rfl]
    show ((sg _).takeWhile g).length = i
    rw [hs, tw_rep g h32, tw_none2 hw hn]; simp
  have len : (blanks i ++ w ++ blanks j).length = i + (sg w).length + j := by rw [sg_len, hs]; simp; omega
  have hi : stripHi g true (blanks i ++ w ++ blanks j) i = i + (sg w).length := by
    unfold stripHi
    rw [if_pos rfl, len]
    show _ - ((((sg _).drop i).reverse).takeWhile g).length = _
    rw [hs, List.drop_left' (by simp), List.reverse_append, List.reverse_replicate, tw_rep g h32, tw_none (l := (sg w).reverse) (fun c hc => hw c (List.mem_reverse.mp hc))]
    simp
  rw [PyProof.Rows.stripBy_eq, lo, hi]
  apply sg_inj
  show ((blanks i ++ w ++ blanks j).cps.extract i (i + (sg w).length)).toList = sg w
  rw [Array.toList_extract]
  show ((sg _).extract i _) = _
  rw [hs, List.extract_eq_drop_take, List.drop_left' (by simp), Nat.add_sub_cancel_left, List.take_left' rfl]
def sp_is_row : DSp := fun ds P _ => match ds with
  | [.str a, .str m] => (Prd a ∧ Prd m ∧ ∀ c ∈ sg a, c ∈ sg m) ∧ P (.d (.bl true))
  | _ => False
abbrev N_is_row : List Str := ["letters", "menu", "letter"]
def w_is_row : WS := (wRet (wOp oEqX (wVar 0) (wJoin (wC (.str "")) (wLc (wiX (wVar 1)) (wgName 2) (wB (wOp (oInX false) (wVar 2) (wVar 0))) (wVar 2) [2]))))
theorem len_is_row {ds Q px} (h : sp_is_row ds Q px) : ds.length = 2 := by unfold sp_is_row at h; split at h <;> first | rfl | exact h.elim
theorem rd_is_row {ds Q px} (h : sp_is_row ds Q px) : w_is_row ⟨fun _ => Q (.d .non), Q, fun _ => False, fun _ => False⟩ (startR N_is_row ds) := by
  unfold sp_is_row at h
  split at h
  · rename_i a m
    obtain ⟨⟨ha, hm, hs⟩, hq⟩ := h
    have lm := hm.len
    unfold w_is_row
    simp only [N_is_row, wSeq, wSet, wAsg, wC, wIfS, wB, wOp, oI, oI0, asI, asS, asL, asLT, asT, asB, asA_some, asA_none, asO, asOL, asOD, asKey, asDic, asSq, oLen, oMod, oAdd, oSub, oMul, oDiv, oMax, oMin, oPlus, oEqX, oNeX, eqX_int, eqX_str, eqX_bl, oCmp, oLtX, oLeX, oGtX, oGeX, oIxX, oInX, wCB, wCons, wNil, wVar, wMove, nth, put, startR, wNext, wRet, wRetN, wDrop, wFor, wiR1, wiR2, wiX, itemsOf, wgName, wgTup, wgCons, wgNil, wLend, wLendT, seeR_cons, seeR_nil, seeO_d, seeO_none, seeO_ol, seeO_od, wJoin, wM, oAppend, oPop, oPopAt, wDPut, wDPop, wSortK, wDict0, wTup, wLst, wCall, wAnd, wOr, wNot, wAndV, wOrV, wNotV, wIf, wYes, wLc, wiEnumX, oListX, oTuple, oSort, oSortSet, oAll, oAny, S.fz, S.own, D.flat, txts_map, bools_map, txtKeys_map, List.length_map, List.map_cons, List.map_nil, List.length_cons, List.length_nil, List.cons_append, List.nil_append, List.replicate, decide_eq_true_eq, Bool.not_eq_true', Bool.not_true, Bool.not_false, if_true, if_false, Nat.zero_add, Nat.reduceAdd, Nat.reduceSub, ge_iff_le, true_and, and_true, zip_unzip, Bool.false_xor, Bool.true_xor, Bool.false_eq_true, Bool.true_eq_false, reduceIte, wipeR, dataR_cons, dataR_nil, dataO_d, dataO_none, dataO_ol, dataO_od, oDict, oIsi, tyD, isiB, wSl, wPart, wNoP, oSl, wDisp1, wDGet2, oRemove, atI_0, atI_1, atI_2, wiRev, revItems, oDictP, wForK, wiKeys, kD, oSortX, oPow, oBitAnd, oShl, oNeg, wUn, oInt, oStr, oDivmod, oIs, isD, wChain, wFz, wFzE, frzR, wLSet, wiZip, seqsD, wiVals, wiItems, wOIx, wNo, Option.isSome_some, oMulX, wM1, oSplit, oPart, oStrip1, oRep, oSum, intsD, wRaise, wLI, wLK
, wiR3, wLR, wDisp, wPairs, oReverse, oClear, oInsert, wRevL, wDZ, seqLT, oSortIT, wOFld, wSFld, asOI, setOI, putG, wPar, wiItemsC, wiValsC, wIndexL]
    rw [signs_eq, List.map_map]
    refine ⟨by rw [List.length_map, len0]; omega, ?_⟩
    refine compD_map mono_name (fun d => if d ∈ sg a then some (.str (one d)) else none) (sg m) _ (fun d hd Q' hQ => ?_) ?_
    · simp only [wSeq, wSet, wAsg, wC, wIfS, wB, wOp, oI, oI0, asI, asS, asL, asLT, asT, asB, asA_some, asA_none, asO, asOL, asOD, asKey, asDic, asSq, oLen, oMod, oAdd, oSub, oMul, oDiv, oMax, oMin, oPlus, oEqX, oNeX, eqX_int, eqX_str, eqX_bl, oCmp, oLtX, oLeX, oGtX, oGeX, oIxX, oInX, wCB, wCons, wNil, wVar, wMove, nth, put, startR, wNext, wRet, wRetN, wDrop, wFor, wiR1, wiR2, wiX, itemsOf, wgName, wgTup, wgCons, wgNil, wLend, wLendT, seeR_cons, seeR_nil, seeO_d, seeO_none, seeO_ol, seeO_od, wJoin, wM, oAppend, oPop, oPopAt, wDPut, wDPop, wSortK, wDict0, wTup, wLst, wCall, wAnd, wOr, wNot, wAndV, wOrV, wNotV, wIf, wYes, wLc, wiEnumX, oListX, oTuple, oSort, oSortSet, oAll, oAny, S.fz, S.own, D.flat, txts_map, bools_map, txtKeys_map, List.length_map, List.map_cons, List.map_nil, List.length_cons, List.length_nil, List.cons_append, List.nil_append, List.replicate, decide_eq_true_eq, Bool.not_eq_true', Bool.not_true, Bool.not_false, if_true, if_false, Nat.zero_add, Nat.reduceAdd, Nat.reduceSub, ge_iff_le, true_and, and_true, zip_unzip, Bool.false_xor, Bool.true_xor, Bool.false_eq_true, Bool.true_eq_false, reduceIte, wipeR, dataR_cons, dataR_nil, dataO_d, dataO_none, dataO_ol, dataO_od, oDict, oIsi, tyD, isiB, wSl, wPart, wNoP, oSl, wDisp1, wDGet2, oRemove, atI_0, atI_1, atI_2, wiRev, revItems, oDictP, wForK, wiKeys, kD, oSortX, oPow, oBitAnd, oShl, oNeg, wUn, oInt, oStr, oDivmod, oIs, isD, wChain, wFz, wFzE, frzR, wLSet, wiZip, seqsD, wiVals, wiItems, wOIx, wNo, Option.isSome_some, oMulX, wM1, oSplit, oPart, oStrip1, oRep, oSum, intsD, wRaise, wLI, wLK
, wiR3, wLR, wDisp, wPairs, oReverse, oClear, oInsert, wRevL, wDZ, seqLT, oSortIT, wOFld, wSFld, asOI, setOI, putG, wPar, wiItemsC, wiValsC, wIndexL, Function.comp, inS_one']
      by_cases z : d ∈ sg a
      · rw [if_pos z] at hQ ⊢; exact hQ
      · rw [if_neg z] at hQ ⊢; exact hQ
    · rw [fm_strs (T := fun d => d ∈ sg a), txts_map, asA_some, filter_prd hm.up ha hs]
      have hfl := List.length_filter_le (fun d => decide (d ∈ sg a)) (sg m)
      have h3 : Str.length "" = 0 := by decide +kernel
      refine ⟨by rw [ones_sum, h3, Nat.mul_zero]; omega, ?_⟩
      simp only [S.fz, wSeq, wSet, wAsg, wC, wIfS, wB, wOp, oI, oI0, asI, asS, asL, asLT, asT, asB, asA_some, asA_none, asO, asOL, asOD, asKey, asDic, asSq, oLen, oMod, oAdd, oSub, oMul, oDiv, oMax, oMin, oPlus, oEqX, oNeX, eqX_int, eqX_str, eqX_bl, oCmp, oLtX, oLeX, oGtX, oGeX, oIxX, oInX, wCB, wCons, wNil, wVar, wMove, nth, put, startR, wNext, wRet, wRetN, wDrop, wFor, wiR1, wiR2, wiX, itemsOf, wgName, wgTup, wgCons, wgNil, wLend, wLendT, seeR_cons, seeR_nil, seeO_d, seeO_none, seeO_ol, seeO_od, wJoin, wM, oAppend, oPop, oPopAt, wDPut, wDPop, wSortK, wDict0, wTup, wLst, wCall, wAnd, wOr, wNot, wAndV, wOrV, wNotV, wIf, wYes, wLc, wiEnumX, oListX, oTuple, oSort, oSortSet, oAll, oAny, S.fz, S.own, D.flat, txts_map, bools_map, txtKeys_map, List.length_map, List.map_cons, List.map_nil, List.length_cons, List.length_nil, List.cons_append, List.nil_append, List.replicate, decide_eq_true_eq, Bool.not_eq_true', Bool.not_true, Bool.not_false, if_true, if_false, Nat.zero_add, Nat.reduceAdd, Nat.reduceSub, ge_iff_le, true_and, and_true, zip_unzip, Bool.false_xor, Bool.true_xor, Bool.false_eq_true, Bool.true_eq_false, reduceIte, wipeR, dataR_cons, dataR_nil, dataO_d, dataO_none, dataO_ol, dataO_od, oDict, oIsi, tyD, isiB, wSl, wPart, wNoP, oSl, wDisp1, wDGet2, oRemove, atI_0, atI_1, atI_2, wiRev, revItems, oDictP, wForK, wiKeys, kD, oSortX, oPow, oBitAnd, oShl, oNeg, wUn, oInt, oStr, oDivmod, oIs, isD, wChain, wFz, wFzE, frzR, wLSet, wiZip, seqsD, wiVals, wiItems, wOIx, wNo, Option.isSome_some, oMulX, wM1, oSplit, oPart, oStrip1, oRep, oSum, intsD, wRaise, wLI, wLK
, wiR3, wLR, wDisp, wPairs, oReverse, oClear, oInsert, wRevL, wDZ, seqLT, oSortIT, wOFld, wSFld, asOI, setOI, putG, wPar, wiItemsC, wiValsC, wIndexL]
      exact hq
  · exact h.elim
abbrev gD_LETTERS_wishes : D := .str "abcpqrxyz"
abbrev gD_MOST_PARTS : D := .int 20
abbrev gD_MOST_WISHES : D := .int 6
abbrev gD_GIVENS : D := .str "abc"
abbrev gD_GAPS : D := .str "xyz"
theorem wt_size : ∀ t : Tree, t.wt ≤ t.size
  | .let _ => Nat.le_refl _
  | .one => Nat.le_refl _
  | .zero => Nat.le_refl _
  | .no t => by have := wt_size t; rw [wt, size]; omega
  | .pr k a b => by have := wt_size a; have := wt_size b; rw [wt, size]; omega
structure Wsh where
  a : Tree
  b : Tree
  i : Nat
  j : Nat
  k : Nat
  l : Nat
def Wsh.txt (w : Wsh) : Str := (blanks w.i ++ w.a.txt ++ blanks w.j) ++ "=" ++ (blanks w.k ++ w.b.txt ++ blanks w.l)
structure Wsh.Ok (s : Str) (w : Wsh) : Prop where
  ga : w.a.gd s
  gb : w.b.gd s
  sa : w.a.size ≤ 20
  sb : w.b.size ≤ 20
  bl : w.i ≤ 100 ∧ w.j ≤ 100 ∧ w.k ≤ 100 ∧ w.l ≤ 100
def Wsh.D2 (w : Wsh) : D := .tup [w.a.obj, w.b.obj]
def sp_wish_of : DSp := fun ds P _ => match ds with
  | [.str t, .str s] => ∃ w : Wsh, t = w.txt ∧ w.Ok s ∧ P (.d w.D2)
  | _ => False
abbrev N_wish_of : List Str := ["text", "letters", "left", "mark", "right", "one", "other", "sign"]
def w_wish_of_t6 (px : PX) : WS := (wRet (wTup (wCons (wVar 5) (wCons (wVar 6) wNil))))
def w_wish_of_t5 (px : PX) : WS := wSeq (wFor (wiX (wVar 0)) (wgName 7)
      (wIfS (wAnd (wB (wOp (oInX false) (wVar 7) (wC gD_LETTERS_wishes))) (wB (wOp (oInX true) (wVar 7) (wVar 1)))) (wRaise px "Strange" ["letter"] (wCons (wVar 7) wNil)) wNext))
    (w_wish_of_t6 px)
def w_wish_of_t4 (px : PX) : WS := wSeq (wIfS (wOr (wB (wOp oGtX (wMeth (Tb_size 70) "size" (fun _ _ => False) (wVar 5) wNil) (wC gD_MOST_PARTS))) (wB (wOp oGtX (wMeth (Tb_size 70) "size" (fun _ _ => False) (wVar 6) wNil) (wC gD_MOST_PARTS)))) (wRaise px "TooMany" [] wNil) wNext)
    (w_wish_of_t5 px)
def w_wish_of_t3 (px : PX) : WS := wSeq (wAsg (wCall sp_read px (wCons (wM1 oStrip1 (wVar 4) (wC (.str " "))) wNil)) (wgName 6))
    (w_wish_of_t4 px)
def w_wish_of_t2 (px : PX) : WS := wSeq (wAsg (wCall sp_read px (wCons (wM1 oStrip1 (wVar 2) (wC (.str " "))) wNil)) (wgName 5))
    (w_wish_of_t3 px)
def w_wish_of_t1 (px : PX) : WS := wSeq (wIfS (wB (wOp oEqX (wVar 3) (wC (.str "")))) (wRaise px "NoWish" [] wNil) wNext)
    (w_wish_of_t2 px)
def w_wish_of (px : PX) : WS := wSeq (wAsg (wM1 oPart (wVar 0) (wC (.str "="))) (wgTup 3 (wgCons (wgName 2) (wgCons (wgName 3) (wgCons (wgName 4) wgNil)))))
    (w_wish_of_t1 px)
theorem len_wish_of {ds Q px} (h : sp_wish_of ds Q px) : ds.length = 2 := by unfold sp_wish_of at h; split at h <;> first | rfl | exact h.elim
theorem rd_wish_of {ds Q px} (h : sp_wish_of ds Q px) : w_wish_of px ⟨fun _ => Q (.d .non), Q, fun _ => False, fun _ => False⟩ (startR N_wish_of ds) := by
  unfold sp_wish_of at h
  split at h
  · rename_i t0 s
    obtain ⟨w, rfl, ok, hq⟩ := h
    unfold w_wish_of
    simp only [N_wish_of, wSeq, wSet, wAsg, wC, wIfS, wB, wOp, oI, oI0, asI, asS, asL, asLT, asT, asB, asA_some, asA_none, asO, asOL, asOD, asKey, asDic, asSq, oLen, oMod, oAdd, oSub, oMul, oDiv, oMax, oMin, oPlus, oEqX, oNeX, eqX_int, eqX_str, eqX_bl, oCmp, oLtX, oLeX, oGtX, oGeX, oIxX, oInX, wCB, wCons, wNil, wVar, wMove, nth, put, startR, wNext, wRet, wRetN, wDrop, wFor, wiR1, wiR2, wiX, itemsOf, wgName, wgTup, wgCons, wgNil, wLend, wLendT, seeR_cons, seeR_nil, seeO_d, seeO_none, seeO_ol, seeO_od, wJoin, wM, oAppend, oPop, oPopAt, wDPut, wDPop, wSortK, wDict0, wTup, wLst, wCall, wAnd, wOr, wNot, wAndV, wOrV, wNotV, wIf, wYes, wLc, wiEnumX, oListX, oTuple, oSort, oSortSet, oAll, oAny, S.fz, S.own, D.flat, txts_map, bools_map, txtKeys_map, List.length_map, List.map_cons, List.map_nil, List.length_cons, List.length_nil, List.cons_append, List.nil_append, List.replicate, decide_eq_true_eq, Bool.not_eq_true', Bool.not_true, Bool.not_false, if_true, if_false, Nat.zero_add, Nat.reduceAdd, Nat.reduceSub, ge_iff_le, true_and, and_true, zip_unzip, Bool.false_xor, Bool.true_xor, Bool.false_eq_true, Bool.true_eq_false, reduceIte, wipeR, dataR_cons, dataR_nil, dataO_d, dataO_none, dataO_ol, dataO_od, oDict, oIsi, tyD, isiB, wSl, wPart, wNoP, oSl, wDisp1, wDGet2, oRemove, atI_0, atI_1, atI_2, wiRev, revItems, oDictP, wForK, wiKeys, kD, oSortX, oPow, oBitAnd, oShl, oNeg, wUn, oInt, oStr, oDivmod, oIs, isD, wChain, wFz, wFzE, frzR, wLSet, wiZip, seqsD, wiVals, wiItems, wOIx, wNo, Option.isSome_some, oMulX, wM1, oSplit, oPart, oStrip1, oRep, oSum, intsD, wRaise, wLI, wLK
, wiR3, wLR, wDisp, wPairs, oReverse, oClear, oInsert, wRevL, wDZ, seqLT, oSortIT, wOFld, wSFld, asOI, setOI, putG, wPar, wiItemsC, wiValsC, wIndexL]
    have wa := wt_size w.a
    have wb := wt_size w.b
    have la := txt_len w.a
    have lb := txt_len w.b
    have sa := ok.sa
    have sb := ok.sb
    obtain ⟨b1, b2, b3, b4⟩ := ok.bl
    have bl : ∀ n, (blanks n).length = n := fun n => by rw [sg_len, sg_blanks, List.length_replicate]
    have l1 : (blanks w.i ++ w.a.txt ++ blanks w.j).length ≤ 280 := by rw [len_app, len_app, bl, bl]; omega
    have l2 : (blanks w.k ++ w.b.txt ++ blanks w.l).length ≤ 280 := by rw [len_app, len_app, bl, bl]; omega
    have lq : Str.length "=" = 1 := by decide +kernel
    have lt : w.txt.length ≤ 561 := by unfold Wsh.txt; rw [len_app, len_app, lq]; omega
    have no : 61 ∉ TL.tl (blanks w.i ++ w.a.txt ++ blanks w.j) := fun z => by
      have z : 61 ∈ sg (blanks w.i ++ w.a.txt ++ blanks w.j) := z
      rw [sg_append, sg_append, sg_blanks, sg_blanks] at z
      simp only [List.mem_append, List.mem_replicate] at z
      rcases z with (⟨_, z⟩ | z) | ⟨_, z⟩
      · cases z
      · exact (txt_not ok.ga.1 z).2 rfl
      · cases z
    have pt : Txt.partition w.txt (Str.ofString "=") = (blanks w.i ++ w.a.txt ++ blanks w.j, Str.ofString "=", blanks w.k ++ w.b.txt ++ blanks w.l) := TL.partition_app (s := 61) (S := []) (by decide +kernel) no
    rw [pt]
    refine ⟨by decide +kernel, by rw [len0]; omega, ?_⟩
    have es : ∀ c ∈ sg w.txt, c ∈ w.a.cs ∨ c ∈ w.b.cs ∨ c ∈ marks ∨ c = 32 ∨ c = 61 := fun c hc => by
      unfold Wsh.txt at hc
      rw [sg_append, sg_append, sg_append, sg_append, sg_append, sg_append] at hc
      simp only [List.mem_append, sg_blanks, List.mem_replicate, show sg (Str.ofString "=") = [61] by decide +kernel, List.mem_singleton] at hc
      rcases hc with (((⟨_, z⟩ | z) | ⟨_, z⟩) | z) | ((⟨_, z⟩ | z) | ⟨_, z⟩)
      · exact .inr (.inr (.inr (.inl z)))
      · exact (txt_sign z).imp id fun z => .inr (.inl z)
      · exact .inr (.inr (.inr (.inl z)))
      · exact .inr (.inr (.inr (.inr z)))
      · exact .inr (.inr (.inr (.inl z)))
      · rcases txt_sign z with z | z
        · exact .inr (.inl z)
        · exact .inr (.inr (.inl z))
      · exact .inr (.inr (.inr (.inl z)))
    have sA := strip_blanks (w := w.a.txt) (fun c hc => (txt_not ok.ga.1 hc).1) (txt_ne _) w.i w.j
    have sB := strip_blanks (w := w.b.txt) (fun c hc => (txt_not ok.gb.1 hc).1) (txt_ne _) w.k w.l
    generalize hA : blanks w.i ++ w.a.txt ++ blanks w.j = A at *
    generalize hB : blanks w.k ++ w.b.txt ++ blanks w.l = B at *
    simp only [w_wish_of_t1, w_wish_of_t2, w_wish_of_t3, wSeq, wSet, wAsg, wC, wIfS, wB, wOp, oI, oI0, asI, asS, asL, asLT, asT, asB, asA_some, asA_none, asO, asOL, asOD, asKey, asDic, asSq, oLen, oMod, oAdd, oSub, oMul, oDiv, oMax, oMin, oPlus, oEqX, oNeX, eqX_int, eqX_str, eqX_bl, oCmp, oLtX, oLeX, oGtX, oGeX, oIxX, oInX, wCB, wCons, wNil, wVar, wMove, nth, put, startR, wNext, wRet, wRetN, wDrop, wFor, wiR1, wiR2, wiX, itemsOf, wgName, wgTup, wgCons, wgNil, wLend, wLendT, seeR_cons, seeR_nil, seeO_d, seeO_none, seeO_ol, seeO_od, wJoin, wM, oAppend, oPop, oPopAt, wDPut, wDPop, wSortK, wDict0, wTup, wLst, wCall, wAnd, wOr, wNot, wAndV, wOrV, wNotV, wIf, wYes, wLc, wiEnumX, oListX, oTuple, oSort, oSortSet, oAll, oAny, S.fz, S.own, D.flat, txts_map, bools_map, txtKeys_map, List.length_map, List.map_cons, List.map_nil, List.length_cons, List.length_nil, List.cons_append, List.nil_append, List.replicate, decide_eq_true_eq, Bool.not_eq_true', Bool.not_true, Bool.not_false, if_true, if_false, Nat.zero_add, Nat.reduceAdd, Nat.reduceSub, ge_iff_le, true_and, and_true, zip_unzip, Bool.false_xor, Bool.true_xor, Bool.false_eq_true, Bool.true_eq_false, reduceIte, wipeR, dataR_cons, dataR_nil, dataO_d, dataO_none, dataO_ol, dataO_od, oDict, oIsi, tyD, isiB, wSl, wPart, wNoP, oSl, wDisp1, wDGet2, oRemove, atI_0, atI_1, atI_2, wiRev, revItems, oDictP, wForK, wiKeys, kD, oSortX, oPow, oBitAnd, oShl, oNeg, wUn, oInt, oStr, oDivmod, oIs, isD, wChain, wFz, wFzE, frzR, wLSet, wiZip, seqsD, wiVals, wiItems, wOIx, wNo, Option.isSome_some, oMulX, wM1, oSplit, oPart, oStrip1, oRep, oSum, intsD, wRaise, wLI, wLK
, wiR3, wLR, wDisp, wPairs, oReverse, oClear, oInsert, wRevL, wDZ, seqLT, oSortIT, wOFld, wSFld, asOI, setOI, putG, wPar, wiItemsC, wiValsC, wIndexL, show decide (Str.ofString "=" = Str.ofString "") = false by decide +kernel]
    rw [sA]
    refine ⟨by rw [len0]; omega, read_at rfl ok.ga.1 (by omega) ?_⟩
    simp only [wSeq, wSet, wAsg, wC, wIfS, wB, wOp, oI, oI0, asI, asS, asL, asLT, asT, asB, asA_some, asA_none, asO, asOL, asOD, asKey, asDic, asSq, oLen, oMod, oAdd, oSub, oMul, oDiv, oMax, oMin, oPlus, oEqX, oNeX, eqX_int, eqX_str, eqX_bl, oCmp, oLtX, oLeX, oGtX, oGeX, oIxX, oInX, wCB, wCons, wNil, wVar, wMove, nth, put, startR, wNext, wRet, wRetN, wDrop, wFor, wiR1, wiR2, wiX, itemsOf, wgName, wgTup, wgCons, wgNil, wLend, wLendT, seeR_cons, seeR_nil, seeO_d, seeO_none, seeO_ol, seeO_od, wJoin, wM, oAppend, oPop, oPopAt, wDPut, wDPop, wSortK, wDict0, wTup, wLst, wCall, wAnd, wOr, wNot, wAndV, wOrV, wNotV, wIf, wYes, wLc, wiEnumX, oListX, oTuple, oSort, oSortSet, oAll, oAny, S.fz, S.own, D.flat, txts_map, bools_map, txtKeys_map, List.length_map, List.map_cons, List.map_nil, List.length_cons, List.length_nil, List.cons_append, List.nil_append, List.replicate, decide_eq_true_eq, Bool.not_eq_true', Bool.not_true, Bool.not_false, if_true, if_false, Nat.zero_add, Nat.reduceAdd, Nat.reduceSub, ge_iff_le, true_and, and_true, zip_unzip, Bool.false_xor, Bool.true_xor, Bool.false_eq_true, Bool.true_eq_false, reduceIte, wipeR, dataR_cons, dataR_nil, dataO_d, dataO_none, dataO_ol, dataO_od, oDict, oIsi, tyD, isiB, wSl, wPart, wNoP, oSl, wDisp1, wDGet2, oRemove, atI_0, atI_1, atI_2, wiRev, revItems, oDictP, wForK, wiKeys, kD, oSortX, oPow, oBitAnd, oShl, oNeg, wUn, oInt, oStr, oDivmod, oIs, isD, wChain, wFz, wFzE, frzR, wLSet, wiZip, seqsD, wiVals, wiItems, wOIx, wNo, Option.isSome_some, oMulX, wM1, oSplit, oPart, oStrip1, oRep, oSum, intsD, wRaise, wLI, wLK
, wiR3, wLR, wDisp, wPairs, oReverse, oClear, oInsert, wRevL, wDZ, seqLT, oSortIT, wOFld, wSFld, asOI, setOI, putG, wPar, wiItemsC, wiValsC, wIndexL]
    rw [sB]
    refine ⟨by rw [len0]; omega, read_at rfl ok.gb.1 (by omega) ?_⟩
    simp only [w_wish_of_t4, wMeth, wSeq, wSet, wAsg, wC, wIfS, wB, wOp, oI, oI0, asI, asS, asL, asLT, asT, asB, asA_some, asA_none, asO, asOL, asOD, asKey, asDic, asSq, oLen, oMod, oAdd, oSub, oMul, oDiv, oMax, oMin, oPlus, oEqX, oNeX, eqX_int, eqX_str, eqX_bl, oCmp, oLtX, oLeX, oGtX, oGeX, oIxX, oInX, wCB, wCons, wNil, wVar, wMove, nth, put, startR, wNext, wRet, wRetN, wDrop, wFor, wiR1, wiR2, wiX, itemsOf, wgName, wgTup, wgCons, wgNil, wLend, wLendT, seeR_cons, seeR_nil, seeO_d, seeO_none, seeO_ol, seeO_od, wJoin, wM, oAppend, oPop, oPopAt, wDPut, wDPop, wSortK, wDict0, wTup, wLst, wCall, wAnd, wOr, wNot, wAndV, wOrV, wNotV, wIf, wYes, wLc, wiEnumX, oListX, oTuple, oSort, oSortSet, oAll, oAny, S.fz, S.own, D.flat, txts_map, bools_map, txtKeys_map, List.length_map, List.map_cons, List.map_nil, List.length_cons, List.length_nil, List.cons_append, List.nil_append, List.replicate, decide_eq_true_eq, Bool.not_eq_true', Bool.not_true, Bool.not_false, if_true, if_false, Nat.zero_add, Nat.reduceAdd, Nat.reduceSub, ge_iff_le, true_and, and_true, zip_unzip, Bool.false_xor, Bool.true_xor, Bool.false_eq_true, Bool.true_eq_false, reduceIte, wipeR, dataR_cons, dataR_nil, dataO_d, dataO_none, dataO_ol, dataO_od, oDict, oIsi, tyD, isiB, wSl, wPart, wNoP, oSl, wDisp1, wDGet2, oRemove, atI_0, atI_1, atI_2, wiRev, revItems, oDictP, wForK, wiKeys, kD, oSortX, oPow, oBitAnd, oShl, oNeg, wUn, oInt, oStr, oDivmod, oIs, isD, wChain, wFz, wFzE, frzR, wLSet, wiZip, seqsD, wiVals, wiItems, wOIx, wNo, Option.isSome_some, oMulX, wM1, oSplit, oPart, oStrip1, oRep, oSum, intsD, wRaise, wLI, wLK
, wiR3, wLR, wDisp, wPairs, oReverse, oClear, oInsert, wRevL, wDZ, seqLT, oSortIT, wOFld, wSFld, asOI, setOI, putG, wPar, wiItemsC, wiValsC, wIndexL, gD_MOST_PARTS]
    refine ats_size rfl rfl (by omega) (by omega) ?_
    simp only [S.fz]
    rw [if_neg (by omega)]
    refine ats_size rfl rfl (by omega) (by omega) ?_
    simp only [S.fz]
    rw [if_neg (by omega)]
    simp only [w_wish_of_t5, wSeq, wSet, wAsg, wC, wIfS, wB, wOp, oI, oI0, asI, asS, asL, asLT, asT, asB, asA_some, asA_none, asO, asOL, asOD, asKey, asDic, asSq, oLen, oMod, oAdd, oSub, oMul, oDiv, oMax, oMin, oPlus, oEqX, oNeX, eqX_int, eqX_str, eqX_bl, oCmp, oLtX, oLeX, oGtX, oGeX, oIxX, oInX, wCB, wCons, wNil, wVar, wMove, nth, put, startR, wNext, wRet, wRetN, wDrop, wFor, wiR1, wiR2, wiX, itemsOf, wgName, wgTup, wgCons, wgNil, wLend, wLendT, seeR_cons, seeR_nil, seeO_d, seeO_none, seeO_ol, seeO_od, wJoin, wM, oAppend, oPop, oPopAt, wDPut, wDPop, wSortK, wDict0, wTup, wLst, wCall, wAnd, wOr, wNot, wAndV, wOrV, wNotV, wIf, wYes, wLc, wiEnumX, oListX, oTuple, oSort, oSortSet, oAll, oAny, S.fz, S.own, D.flat, txts_map, bools_map, txtKeys_map, List.length_map, List.map_cons, List.map_nil, List.length_cons, List.length_nil, List.cons_append, List.nil_append, List.replicate, decide_eq_true_eq, Bool.not_eq_true', Bool.not_true, Bool.not_false, if_true, if_false, Nat.zero_add, Nat.reduceAdd, Nat.reduceSub, ge_iff_le, true_and, and_true, zip_unzip, Bool.false_xor, Bool.true_xor, Bool.false_eq_true, Bool.true_eq_false, reduceIte, wipeR, dataR_cons, dataR_nil, dataO_d, dataO_none, dataO_ol, dataO_od, oDict, oIsi, tyD, isiB, wSl, wPart, wNoP, oSl, wDisp1, wDGet2, oRemove, atI_0, atI_1, atI_2, wiRev, revItems, oDictP, wForK, wiKeys, kD, oSortX, oPow, oBitAnd, oShl, oNeg, wUn, oInt, oStr, oDivmod, oIs, isD, wChain, wFz, wFzE, frzR, wLSet, wiZip, seqsD, wiVals, wiItems, wOIx, wNo, Option.isSome_some, oMulX, wM1, oSplit, oPart, oStrip1, oRep, oSum, intsD, wRaise, wLI, wLK
, wiR3, wLR, wDisp, wPairs, oReverse, oClear, oInsert, wRevL, wDZ, seqLT, oSortIT, wOFld, wSFld, asOI, setOI, putG, wPar, wiItemsC, wiValsC, wIndexL]
    rw [signs_eq, List.map_map]
    refine forD_map (I := fun _ _ ρ => ∃ o : Option S, ρ = [some (.d (.str w.txt)), some (.d (.str s)), some (.d (.str A)), some (.d (.str (Str.ofString "="))), some (.d (.str B)), some (.d w.a.obj), some (.d w.b.obj), o]) mono_name _ (fun done c ys ρ he hI => ?_) (fun ρ hI => ?_) _ ⟨none, rfl⟩
    · obtain ⟨o, rfl⟩ := hI
      have hc := es c (by rw [he]; simp)
      simp only [gD_LETTERS_wishes, wSeq, wSet, wAsg, wC, wIfS, wB, wOp, oI, oI0, asI, asS, asL, asLT, asT, asB, asA_some, asA_none, asO, asOL, asOD, asKey, asDic, asSq, oLen, oMod, oAdd, oSub, oMul, oDiv, oMax, oMin, oPlus, oEqX, oNeX, eqX_int, eqX_str, eqX_bl, oCmp, oLtX, oLeX, oGtX, oGeX, oIxX, oInX, wCB, wCons, wNil, wVar, wMove, nth, put, startR, wNext, wRet, wRetN, wDrop, wFor, wiR1, wiR2, wiX, itemsOf, wgName, wgTup, wgCons, wgNil, wLend, wLendT, seeR_cons, seeR_nil, seeO_d, seeO_none, seeO_ol, seeO_od, wJoin, wM, oAppend, oPop, oPopAt, wDPut, wDPop, wSortK, wDict0, wTup, wLst, wCall, wAnd, wOr, wNot, wAndV, wOrV, wNotV, wIf, wYes, wLc, wiEnumX, oListX, oTuple, oSort, oSortSet, oAll, oAny, S.fz, S.own, D.flat, txts_map, bools_map, txtKeys_map, List.length_map, List.map_cons, List.map_nil, List.length_cons, List.length_nil, List.cons_append, List.nil_append, List.replicate, decide_eq_true_eq, Bool.not_eq_true', Bool.not_true, Bool.not_false, if_true, if_false, Nat.zero_add, Nat.reduceAdd, Nat.reduceSub, ge_iff_le, true_and, and_true, zip_unzip, Bool.false_xor, Bool.true_xor, Bool.false_eq_true, Bool.true_eq_false, reduceIte, wipeR, dataR_cons, dataR_nil, dataO_d, dataO_none, dataO_ol, dataO_od, oDict, oIsi, tyD, isiB, wSl, wPart, wNoP, oSl, wDisp1, wDGet2, oRemove, atI_0, atI_1, atI_2, wiRev, revItems, oDictP, wForK, wiKeys, kD, oSortX, oPow, oBitAnd, oShl, oNeg, wUn, oInt, oStr, oDivmod, oIs, isD, wChain, wFz, wFzE, frzR, wLSet, wiZip, seqsD, wiVals, wiItems, wOIx, wNo, Option.isSome_some, oMulX, wM1, oSplit, oPart, oStrip1, oRep, oSum, intsD, wRaise, wLI, wLK
, wiR3, wLR, wDisp, wPairs, oReverse, oClear, oInsert, wRevL, wDZ, seqLT, oSortIT, wOFld, wSFld, asOI, setOI, putG, wPar, wiItemsC, wiValsC, wIndexL, Function.comp, inS_one']
      rw [show sg (Str.ofString "abcpqrxyz") = LET by decide +kernel]
      by_cases hL : c ∈ LET
      · rw [if_pos hL]
        have hs : c ∈ sg s := by
          rcases hc with z | z | z | z | z
          · exact ok.ga.2 c z
          · exact ok.gb.2 c z
          · exact absurd hL (mark_not c z)
          · subst z; exact absurd hL (by decide)
          · subst z; exact absurd hL (by decide)
        rw [decide_eq_true hs, if_neg (by simp)]
        exact ⟨_, rfl⟩
      · rw [if_neg hL]
        exact ⟨_, rfl⟩
    · obtain ⟨o, rfl⟩ := hI
      simp only [w_wish_of_t6, wSeq, wSet, wAsg, wC, wIfS, wB, wOp, oI, oI0, asI, asS, asL, asLT, asT, asB, asA_some, asA_none, asO, asOL, asOD, asKey, asDic, asSq, oLen, oMod, oAdd, oSub, oMul, oDiv, oMax, oMin, oPlus, oEqX, oNeX, eqX_int, eqX_str, eqX_bl, oCmp, oLtX, oLeX, oGtX, oGeX, oIxX, oInX, wCB, wCons, wNil, wVar, wMove, nth, put, startR, wNext, wRet, wRetN, wDrop, wFor, wiR1, wiR2, wiX, itemsOf, wgName, wgTup, wgCons, wgNil, wLend, wLendT, seeR_cons, seeR_nil, seeO_d, seeO_none, seeO_ol, seeO_od, wJoin, wM, oAppend, oPop, oPopAt, wDPut, wDPop, wSortK, wDict0, wTup, wLst, wCall, wAnd, wOr, wNot, wAndV, wOrV, wNotV, wIf, wYes, wLc, wiEnumX, oListX, oTuple, oSort, oSortSet, oAll, oAny, S.fz, S.own, D.flat, txts_map, bools_map, txtKeys_map, List.length_map, List.map_cons, List.map_nil, List.length_cons, List.length_nil, List.cons_append, List.nil_append, List.replicate, decide_eq_true_eq, Bool.not_eq_true', Bool.not_true, Bool.not_false, if_true, if_false, Nat.zero_add, Nat.reduceAdd, Nat.reduceSub, ge_iff_le, true_and, and_true, zip_unzip, Bool.false_xor, Bool.true_xor, Bool.false_eq_true, Bool.true_eq_false, reduceIte, wipeR, dataR_cons, dataR_nil, dataO_d, dataO_none, dataO_ol, dataO_od, oDict, oIsi, tyD, isiB, wSl, wPart, wNoP, oSl, wDisp1, wDGet2, oRemove, atI_0, atI_1, atI_2, wiRev, revItems, oDictP, wForK, wiKeys, kD, oSortX, oPow, oBitAnd, oShl, oNeg, wUn, oInt, oStr, oDivmod, oIs, isD, wChain, wFz, wFzE, frzR, wLSet, wiZip, seqsD, wiVals, wiItems, wOIx, wNo, Option.isSome_some, oMulX, wM1, oSplit, oPart, oStrip1, oRep, oSum, intsD, wRaise, wLI, wLK
, wiR3, wLR, wDisp, wPairs, oReverse, oClear, oInsert, wRevL, wDZ, seqLT, oSortIT, wOFld, wSFld, asOI, setOI, putG, wPar, wiItemsC, wiValsC, wIndexL]
      exact ⟨by decide, hq⟩
  · exact h.elim
theorem fne01 : (Str.ofString "kept_givens" = Str.ofString "kept_gaps") = False := eq_false (by decide +kernel)
theorem fne02 : (Str.ofString "kept_givens" = Str.ofString "kept_wishes") = False := eq_false (by decide +kernel)
theorem fne03 : (Str.ofString "kept_givens" = Str.ofString "kept_sides") = False := eq_false (by decide +kernel)
theorem fne04 : (Str.ofString "kept_givens" = Str.ofString "kept_fault") = False := eq_false (by decide +kernel)
theorem fne12 : (Str.ofString "kept_gaps" = Str.ofString "kept_wishes") = False := eq_false (by decide +kernel)
theorem fne13 : (Str.ofString "kept_gaps" = Str.ofString "kept_sides") = False := eq_false (by decide +kernel)
theorem fne14 : (Str.ofString "kept_gaps" = Str.ofString "kept_fault") = False := eq_false (by decide +kernel)
theorem fne23 : (Str.ofString "kept_wishes" = Str.ofString "kept_sides") = False := eq_false (by decide +kernel)
theorem fne24 : (Str.ofString "kept_wishes" = Str.ofString "kept_fault") = False := eq_false (by decide +kernel)
theorem fne34 : (Str.ofString "kept_sides" = Str.ofString "kept_fault") = False := eq_false (by decide +kernel)
theorem fget_cons (k f : Str) (v : D) (r : List (Str × D)) : fget ((k, v) :: r) f = if k = f then some v else fget r f := by
  unfold fget
  simp only [List.lookup]
  by_cases h : k = f
  · subst h; simp
  · rw [if_neg h]
    have : (f == k) = false := beq_eq_false_iff_ne.mpr fun e => h e.symm
    rw [this]
theorem dataO_os (a : Addr) (N : Str) (kvs : List (Str × D)) : dataO (some (.os a N kvs)) = none := rfl
def Wsh.S2 (w : Wsh) : D := .tup [fD w.a.frm, fD w.b.frm]
def faultF (ws : List Wsh) : List Str := ws.foldl (fun f w => joinF f (addedF w.a.frm w.b.frm)) []
def taskK (g p : Str) (ws : List Wsh) : List (Str × D) := [("kept_givens", .str g), ("kept_gaps", .str p), ("kept_wishes", .lst (ws.map Wsh.D2)), ("kept_sides", .lst (ws.map Wsh.S2)), ("kept_fault", fD (faultF ws))]
structure TaskOk (g p : Str) (ws : List Wsh) : Prop where
  pg : Prd g
  sg_ : ∀ c ∈ sg g, c ∈ [97, 98, 99]
  pp : Prd p
  sp_ : ∀ c ∈ sg p, c ∈ [120, 121, 122]
  len : ws.length ≤ 6
  ok : ∀ w ∈ ws, w.Ok (g ++ p)
theorem foldl_frm : ∀ (ws : List Wsh) {f : List Str}, Frm f → (∀ w ∈ ws, w.a.ok ∧ w.b.ok) → Frm (ws.foldl (fun f w => joinF f (addedF w.a.frm w.b.frm)) f)
  | [], f, h, _ => h
  | w :: ws, f, h, ok => by
    rw [List.foldl_cons]
    have := ok w List.mem_cons_self
    exact foldl_frm ws (frm_join h (frm_added (frm_ok this.1) (frm_ok this.2))) fun x hx => ok x (List.mem_cons_of_mem _ hx)
theorem nil_frm : Frm [] := ⟨.nil, .nil, fun _ z => nomatch z⟩
def sp_Task_init : DSp := fun ds P _ => match ds with
  | [.str g, .str p, .lst xs] => ∃ ws : List Wsh, xs = ws.map (fun w => .str w.txt) ∧ TaskOk g p ws ∧ P (.oi "Task" (taskK g p ws))
  | _ => False
abbrev N_Task_init : List Str := ["self", "givens", "gaps", "wishes", "wish", "one", "other"]
def w_Task_init_t7 (px : PX) : WS := (wFor (wiX (wOFld ["Task"] 0 "kept_sides")) (wgTup 2 (wgCons (wgName 5) (wgCons (wgName 6) wgNil)))
      (wSFld ["Task"] 0 "kept_fault" (wCall sp_joined (fun _ _ => False) (wCons (wOFld ["Task"] 0 "kept_fault") (wCons (wCall sp_added (fun _ _ => False) (wCons (wVar 5) (wCons (wVar 6) wNil))) wNil)))))
def w_Task_init_t6 (px : PX) : WS := wSeq (wSFld ["Task"] 0 "kept_fault" (wTup wNil))
    (w_Task_init_t7 px)
def w_Task_init_t5 (px : PX) : WS := wSeq (wSFld ["Task"] 0 "kept_sides" (wLc (wiX (wOFld ["Task"] 0 "kept_wishes")) (wgTup 2 (wgCons (wgName 5) (wgCons (wgName 6) wgNil))) wYes (wTup (wCons (wMeth (Tb_form 70) "form" (fun _ _ => False) (wVar 5) wNil) (wCons (wMeth (Tb_form 70) "form" (fun _ _ => False) (wVar 6) wNil) wNil))) [5, 6]))
    (w_Task_init_t6 px)
def w_Task_init_t4 (px : PX) : WS := wSeq (wSFld ["Task"] 0 "kept_wishes" (wLc (wiX (wVar 3)) (wgName 4) wYes (wCall sp_wish_of px (wCons (wVar 4) (wCons (wOp oPlus (wVar 1) (wVar 2)) wNil))) [4]))
    (w_Task_init_t5 px)
def w_Task_init_t3 (px : PX) : WS := wSeq (wSFld ["Task"] 0 "kept_gaps" (wVar 2))
    (w_Task_init_t4 px)
def w_Task_init_t2 (px : PX) : WS := wSeq (wSFld ["Task"] 0 "kept_givens" (wVar 1))
    (w_Task_init_t3 px)
def w_Task_init_t1 (px : PX) : WS := wSeq (wIfS (wB (wOp oGtX (wCB oLen (wCons (wVar 3) wNil)) (wC gD_MOST_WISHES))) (wRaise px "TooMany" [] wNil) wNext)
    (w_Task_init_t2 px)
def w_Task_init (px : PX) : WS := wSeq (wIfS (wOr (wNot (wB (wCall sp_is_row (fun _ _ => False) (wCons (wVar 1) (wCons (wC gD_GIVENS) wNil))))) (wNot (wB (wCall sp_is_row (fun _ _ => False) (wCons (wVar 2) (wCons (wC gD_GAPS) wNil)))))) (wRaise px "NoLetters" [] wNil) wNext)
    (w_Task_init_t1 px)
theorem len_Task_init {ds Q px} (h : sp_Task_init ds Q px) : ds.length + 1 = 4 := by unfold sp_Task_init at h; split at h <;> first | rfl | exact h.elim
theorem rd_Task_init {a ds Q px} (h : sp_Task_init ds Q px) : w_Task_init px (endsI a "Task" Q) (startO N_Task_init a "Task" ds) := by
  unfold sp_Task_init at h
  split at h
  · rename_i g p xs
    obtain ⟨ws, rfl, ok, hq⟩ := h
    unfold w_Task_init
    simp only [N_Task_init, startO, List.drop, wSeq, wSet, wAsg, wC, wIfS, wB, wOp, oI, oI0, asI, asS, asL, asLT, asT, asB, asA_some, asA_none, asO, asOL, asOD, asKey, asDic, asSq, oLen, oMod, oAdd, oSub, oMul, oDiv, oMax, oMin, oPlus, oEqX, oNeX, eqX_int, eqX_str, eqX_bl, oCmp, oLtX, oLeX, oGtX, oGeX, oIxX, oInX, wCB, wCons, wNil, wVar, wMove, nth, put, startR, wNext, wRet, wRetN, wDrop, wFor, wiR1, wiR2, wiX, itemsOf, wgName, wgTup, wgCons, wgNil, wLend, wLendT, seeR_cons, seeR_nil, seeO_d, seeO_none, seeO_ol, seeO_od, wJoin, wM, oAppend, oPop, oPopAt, wDPut, wDPop, wSortK, wDict0, wTup, wLst, wCall, wAnd, wOr, wNot, wAndV, wOrV, wNotV, wIf, wYes, wLc, wiEnumX, oListX, oTuple, oSort, oSortSet, oAll, oAny, S.fz, S.own, D.flat, txts_map, bools_map, txtKeys_map, List.length_map, List.map_cons, List.map_nil, List.length_cons, List.length_nil, List.cons_append, List.nil_append, List.replicate, decide_eq_true_eq, Bool.not_eq_true', Bool.not_true, Bool.not_false, if_true, if_false, Nat.zero_add, Nat.reduceAdd, Nat.reduceSub, ge_iff_le, true_and, and_true, zip_unzip, Bool.false_xor, Bool.true_xor, Bool.false_eq_true, Bool.true_eq_false, reduceIte, wipeR, dataR_cons, dataR_nil, dataO_d, dataO_none, dataO_ol, dataO_od, oDict, oIsi, tyD, isiB, wSl, wPart, wNoP, oSl, wDisp1, wDGet2, oRemove, atI_0, atI_1, atI_2, wiRev, revItems, oDictP, wForK, wiKeys, kD, oSortX, oPow, oBitAnd, oShl, oNeg, wUn, oInt, oStr, oDivmod, oIs, isD, wChain, wFz, wFzE, frzR, wLSet, wiZip, seqsD, wiVals, wiItems, wOIx, wNo, Option.isSome_some, oMulX, wM1, oSplit, oPart, oStrip1, oRep, oSum, intsD, wRaise, wLI, wLK
, wiR3, wLR, wDisp, wPairs, oReverse, oClear, oInsert, wRevL, wDZ, seqLT, oSortIT, wOFld, wSFld, asOI, setOI, putG, wPar, wiItemsC, wiValsC, wIndexL, sp_is_row, gD_GIVENS, gD_GAPS]
    have e1 : sg (Str.ofString "abc") = [97, 98, 99] := by decide +kernel
    have e2 : sg (Str.ofString "xyz") = [120, 121, 122] := by decide +kernel
    have la : Prd (Str.ofString "abc") := ⟨by rw [e1]; decide, by rw [e1]; decide⟩
    have lx : Prd (Str.ofString "xyz") := ⟨by rw [e2]; decide, by rw [e2]; decide⟩
    have l6 := ok.len
    refine ⟨⟨ok.pg, la, by rw [e1]; exact ok.sg_⟩, ⟨ok.pp, lx, by rw [e2]; exact ok.sp_⟩, ?_⟩
    simp only [w_Task_init_t1, gD_MOST_WISHES, wSeq, wSet, wAsg, wC, wIfS, wB, wOp, oI, oI0, asI, asS, asL, asLT, asT, asB, asA_some, asA_none, asO, asOL, asOD, asKey, asDic, asSq, oLen, oMod, oAdd, oSub, oMul, oDiv, oMax, oMin, oPlus, oEqX, oNeX, eqX_int, eqX_str, eqX_bl, oCmp, oLtX, oLeX, oGtX, oGeX, oIxX, oInX, wCB, wCons, wNil, wVar, wMove, nth, put, startR, wNext, wRet, wRetN, wDrop, wFor, wiR1, wiR2, wiX, itemsOf, wgName, wgTup, wgCons, wgNil, wLend, wLendT, seeR_cons, seeR_nil, seeO_d, seeO_none, seeO_ol, seeO_od, wJoin, wM, oAppend, oPop, oPopAt, wDPut, wDPop, wSortK, wDict0, wTup, wLst, wCall, wAnd, wOr, wNot, wAndV, wOrV, wNotV, wIf, wYes, wLc, wiEnumX, oListX, oTuple, oSort, oSortSet, oAll, oAny, S.fz, S.own, D.flat, txts_map, bools_map, txtKeys_map, List.length_map, List.map_cons, List.map_nil, List.length_cons, List.length_nil, List.cons_append, List.nil_append, List.replicate, decide_eq_true_eq, Bool.not_eq_true', Bool.not_true, Bool.not_false, if_true, if_false, Nat.zero_add, Nat.reduceAdd, Nat.reduceSub, ge_iff_le, true_and, and_true, zip_unzip, Bool.false_xor, Bool.true_xor, Bool.false_eq_true, Bool.true_eq_false, reduceIte, wipeR, dataR_cons, dataR_nil, dataO_d, dataO_none, dataO_ol, dataO_od, oDict, oIsi, tyD, isiB, wSl, wPart, wNoP, oSl, wDisp1, wDGet2, oRemove, atI_0, atI_1, atI_2, wiRev, revItems, oDictP, wForK, wiKeys, kD, oSortX, oPow, oBitAnd, oShl, oNeg, wUn, oInt, oStr, oDivmod, oIs, isD, wChain, wFz, wFzE, frzR, wLSet, wiZip, seqsD, wiVals, wiItems, wOIx, wNo, Option.isSome_some, oMulX, wM1, oSplit, oPart, oStrip1, oRep, oSum, intsD, wRaise, wLI, wLK
, wiR3, wLR, wDisp, wPairs, oReverse, oClear, oInsert, wRevL, wDZ, seqLT, oSortIT, wOFld, wSFld, asOI, setOI, putG, wPar, wiItemsC, wiValsC, wIndexL]
    rw [if_neg (by omega)]
    simp only [w_Task_init_t2, w_Task_init_t3, w_Task_init_t4, List.mem_cons, true_or, reduceCtorEq, fne01, fne02, fne03, fne04, fne12, fne13, fne14, fne23, fne24, fne34, dataO_os, wSeq, wSet, wAsg, wC, wIfS, wB, wOp, oI, oI0, asI, asS, asL, asLT, asT, asB, asA_some, asA_none, asO, asOL, asOD, asKey, asDic, asSq, oLen, oMod, oAdd, oSub, oMul, oDiv, oMax, oMin, oPlus, oEqX, oNeX, eqX_int, eqX_str, eqX_bl, oCmp, oLtX, oLeX, oGtX, oGeX, oIxX, oInX, wCB, wCons, wNil, wVar, wMove, nth, put, startR, wNext, wRet, wRetN, wDrop, wFor, wiR1, wiR2, wiX, itemsOf, wgName, wgTup, wgCons, wgNil, wLend, wLendT, seeR_cons, seeR_nil, seeO_d, seeO_none, seeO_ol, seeO_od, wJoin, wM, oAppend, oPop, oPopAt, wDPut, wDPop, wSortK, wDict0, wTup, wLst, wCall, wAnd, wOr, wNot, wAndV, wOrV, wNotV, wIf, wYes, wLc, wiEnumX, oListX, oTuple, oSort, oSortSet, oAll, oAny, S.fz, S.own, D.flat, txts_map, bools_map, txtKeys_map, List.length_map, List.map_cons, List.map_nil, List.length_cons, List.length_nil, List.cons_append, List.nil_append, List.replicate, decide_eq_true_eq, Bool.not_eq_true', Bool.not_true, Bool.not_false, if_true, if_false, Nat.zero_add, Nat.reduceAdd, Nat.reduceSub, ge_iff_le, true_and, and_true, zip_unzip, Bool.false_xor, Bool.true_xor, Bool.false_eq_true, Bool.true_eq_false, reduceIte, wipeR, dataR_cons, dataR_nil, dataO_d, dataO_none, dataO_ol, dataO_od, oDict, oIsi, tyD, isiB, wSl, wPart, wNoP, oSl, wDisp1, wDGet2, oRemove, atI_0, atI_1, atI_2, wiRev, revItems, oDictP, wForK, wiKeys, kD, oSortX, oPow, oBitAnd, oShl, oNeg, wUn, oInt, oStr, oDivmod, oIs, isD, wChain, wFz, wFzE, frzR, wLSet, wiZip, seqsD, wiVals, wiItems, wOIx, wNo, Option.isSome_some, oMulX, wM1, oSplit, oPart, oStrip1, oRep, oSum, intsD, wRaise, wLI, wLK
, wiR3, wLR, wDisp, wPairs, oReverse, oClear, oInsert, wRevL, wDZ, seqLT, oSortIT, wOFld, wSFld, asOI, setOI, putG, wPar, wiItemsC, wiValsC, wIndexL, sp_wish_of]
    refine ⟨by decide, by decide, by rw [len0]; omega, ?_⟩
    refine compD_map mono_name (fun w : Wsh => some w.D2) ws _ (fun w hw Q' hQ => ?_) ?_
    · simp only [wSeq, wSet, wAsg, wC, wIfS, wB, wOp, oI, oI0, asI, asS, asL, asLT, asT, asB, asA_some, asA_none, asO, asOL, asOD, asKey, asDic, asSq, oLen, oMod, oAdd, oSub, oMul, oDiv, oMax, oMin, oPlus, oEqX, oNeX, eqX_int, eqX_str, eqX_bl, oCmp, oLtX, oLeX, oGtX, oGeX, oIxX, oInX, wCB, wCons, wNil, wVar, wMove, nth, put, startR, wNext, wRet, wRetN, wDrop, wFor, wiR1, wiR2, wiX, itemsOf, wgName, wgTup, wgCons, wgNil, wLend, wLendT, seeR_cons, seeR_nil, seeO_d, seeO_none, seeO_ol, seeO_od, wJoin, wM, oAppend, oPop, oPopAt, wDPut, wDPop, wSortK, wDict0, wTup, wLst, wCall, wAnd, wOr, wNot, wAndV, wOrV, wNotV, wIf, wYes, wLc, wiEnumX, oListX, oTuple, oSort, oSortSet, oAll, oAny, S.fz, S.own, D.flat, txts_map, bools_map, txtKeys_map, List.length_map, List.map_cons, List.map_nil, List.length_cons, List.length_nil, List.cons_append, List.nil_append, List.replicate, decide_eq_true_eq, Bool.not_eq_true', Bool.not_true, Bool.not_false, if_true, if_false, Nat.zero_add, Nat.reduceAdd, Nat.reduceSub, ge_iff_le, true_and, and_true, zip_unzip, Bool.false_xor, Bool.true_xor, Bool.false_eq_true, Bool.true_eq_false, reduceIte, wipeR, dataR_cons, dataR_nil, dataO_d, dataO_none, dataO_ol, dataO_od, oDict, oIsi, tyD, isiB, wSl, wPart, wNoP, oSl, wDisp1, wDGet2, oRemove, atI_0, atI_1, atI_2, wiRev, revItems, oDictP, wForK, wiKeys, kD, oSortX, oPow, oBitAnd, oShl, oNeg, wUn, oInt, oStr, oDivmod, oIs, isD, wChain, wFz, wFzE, frzR, wLSet, wiZip, seqsD, wiVals, wiItems, wOIx, wNo, Option.isSome_some, oMulX, wM1, oSplit, oPart, oStrip1, oRep, oSum, intsD, wRaise, wLI, wLK
, wiR3, wLR, wDisp, wPairs, oReverse, oClear, oInsert, wRevL, wDZ, seqLT, oSortIT, wOFld, wSFld, asOI, setOI, putG, wPar, wiItemsC, wiValsC, wIndexL, sp_wish_of]
      exact ⟨by have := ok.pg.len; have := ok.pp.len; rw [sg_len, sg_len, len0]; omega, w, rfl, ok.ok w hw, hQ⟩
    rw [show ws.filterMap (fun w : Wsh => some w.D2) = ws.map Wsh.D2 from congrFun List.filterMap_eq_map' ws]
    simp only [w_Task_init_t5, List.mem_cons, true_or, reduceCtorEq, fne01, fne02, fne03, fne04, fne12, fne13, fne14, fne23, fne24, fne34, dataO_os, fget_cons, wSeq, wSet, wAsg, wC, wIfS, wB, wOp, oI, oI0, asI, asS, asL, asLT, asT, asB, asA_some, asA_none, asO, asOL, asOD, asKey, asDic, asSq, oLen, oMod, oAdd, oSub, oMul, oDiv, oMax, oMin, oPlus, oEqX, oNeX, eqX_int, eqX_str, eqX_bl, oCmp, oLtX, oLeX, oGtX, oGeX, oIxX, oInX, wCB, wCons, wNil, wVar, wMove, nth, put, startR, wNext, wRet, wRetN, wDrop, wFor, wiR1, wiR2, wiX, itemsOf, wgName, wgTup, wgCons, wgNil, wLend, wLendT, seeR_cons, seeR_nil, seeO_d, seeO_none, seeO_ol, seeO_od, wJoin, wM, oAppend, oPop, oPopAt, wDPut, wDPop, wSortK, wDict0, wTup, wLst, wCall, wAnd, wOr, wNot, wAndV, wOrV, wNotV, wIf, wYes, wLc, wiEnumX, oListX, oTuple, oSort, oSortSet, oAll, oAny, S.fz, S.own, D.flat, txts_map, bools_map, txtKeys_map, List.length_map, List.map_cons, List.map_nil, List.length_cons, List.length_nil, List.cons_append, List.nil_append, List.replicate, decide_eq_true_eq, Bool.not_eq_true', Bool.not_true, Bool.not_false, if_true, if_false, Nat.zero_add, Nat.reduceAdd, Nat.reduceSub, ge_iff_le, true_and, and_true, zip_unzip, Bool.false_xor, Bool.true_xor, Bool.false_eq_true, Bool.true_eq_false, reduceIte, wipeR, dataR_cons, dataR_nil, dataO_d, dataO_none, dataO_ol, dataO_od, oDict, oIsi, tyD, isiB, wSl, wPart, wNoP, oSl, wDisp1, wDGet2, oRemove, atI_0, atI_1, atI_2, wiRev, revItems, oDictP, wForK, wiKeys, kD, oSortX, oPow, oBitAnd, oShl, oNeg, wUn, oInt, oStr, oDivmod, oIs, isD, wChain, wFz, wFzE, frzR, wLSet, wiZip, seqsD, wiVals, wiItems, wOIx, wNo, Option.isSome_some, oMulX, wM1, oSplit, oPart, oStrip1, oRep, oSum, intsD, wRaise, wLI, wLK
, wiR3, wLR, wDisp, wPairs, oReverse, oClear, oInsert, wRevL, wDZ, seqLT, oSortIT, wOFld, wSFld, asOI, setOI, putG, wPar, wiItemsC, wiValsC, wIndexL, wMeth]
    refine ⟨by decide, by rw [len0]; omega, ?_⟩
    refine compD_map mono_pair (fun w : Wsh => some w.S2) ws _ (fun w hw Q' hQ => ?_) ?_
    · have o := ok.ok w hw
      have wa := wt_size w.a
      have wb := wt_size w.b
      have sa := o.sa
      have sb := o.sb
      simp only [Wsh.D2, wMeth, wSeq, wSet, wAsg, wC, wIfS, wB, wOp, oI, oI0, asI, asS, asL, asLT, asT, asB, asA_some, asA_none, asO, asOL, asOD, asKey, asDic, asSq, oLen, oMod, oAdd, oSub, oMul, oDiv, oMax, oMin, oPlus, oEqX, oNeX, eqX_int, eqX_str, eqX_bl, oCmp, oLtX, oLeX, oGtX, oGeX, oIxX, oInX, wCB, wCons, wNil, wVar, wMove, nth, put, startR, wNext, wRet, wRetN, wDrop, wFor, wiR1, wiR2, wiX, itemsOf, wgName, wgTup, wgCons, wgNil, wLend, wLendT, seeR_cons, seeR_nil, seeO_d, seeO_none, seeO_ol, seeO_od, wJoin, wM, oAppend, oPop, oPopAt, wDPut, wDPop, wSortK, wDict0, wTup, wLst, wCall, wAnd, wOr, wNot, wAndV, wOrV, wNotV, wIf, wYes, wLc, wiEnumX, oListX, oTuple, oSort, oSortSet, oAll, oAny, S.fz, S.own, D.flat, txts_map, bools_map, txtKeys_map, List.length_map, List.map_cons, List.map_nil, List.length_cons, List.length_nil, List.cons_append, List.nil_append, List.replicate, decide_eq_true_eq, Bool.not_eq_true', Bool.not_true, Bool.not_false, if_true, if_false, Nat.zero_add, Nat.reduceAdd, Nat.reduceSub, ge_iff_le, true_and, and_true, zip_unzip, Bool.false_xor, Bool.true_xor, Bool.false_eq_true, Bool.true_eq_false, reduceIte, wipeR, dataR_cons, dataR_nil, dataO_d, dataO_none, dataO_ol, dataO_od, oDict, oIsi, tyD, isiB, wSl, wPart, wNoP, oSl, wDisp1, wDGet2, oRemove, atI_0, atI_1, atI_2, wiRev, revItems, oDictP, wForK, wiKeys, kD, oSortX, oPow, oBitAnd, oShl, oNeg, wUn, oInt, oStr, oDivmod, oIs, isD, wChain, wFz, wFzE, frzR, wLSet, wiZip, seqsD, wiVals, wiItems, wOIx, wNo, Option.isSome_some, oMulX, wM1, oSplit, oPart, oStrip1, oRep, oSum, intsD, wRaise, wLI, wLK
, wiR3, wLR, wDisp, wPairs, oReverse, oClear, oInsert, wRevL, wDZ, seqLT, oSortIT, wOFld, wSFld, asOI, setOI, putG, wPar, wiItemsC, wiValsC, wIndexL]
      refine at_form rfl rfl (by omega) o.ga.1 ?_
      simp only [wSeq, wSet, wAsg, wC, wIfS, wB, wOp, oI, oI0, asI, asS, asL, asLT, asT, asB, asA_some, asA_none, asO, asOL, asOD, asKey, asDic, asSq, oLen, oMod, oAdd, oSub, oMul, oDiv, oMax, oMin, oPlus, oEqX, oNeX, eqX_int, eqX_str, eqX_bl, oCmp, oLtX, oLeX, oGtX, oGeX, oIxX, oInX, wCB, wCons, wNil, wVar, wMove, nth, put, startR, wNext, wRet, wRetN, wDrop, wFor, wiR1, wiR2, wiX, itemsOf, wgName, wgTup, wgCons, wgNil, wLend, wLendT, seeR_cons, seeR_nil, seeO_d, seeO_none, seeO_ol, seeO_od, wJoin, wM, oAppend, oPop, oPopAt, wDPut, wDPop, wSortK, wDict0, wTup, wLst, wCall, wAnd, wOr, wNot, wAndV, wOrV, wNotV, wIf, wYes, wLc, wiEnumX, oListX, oTuple, oSort, oSortSet, oAll, oAny, S.fz, S.own, D.flat, txts_map, bools_map, txtKeys_map, List.length_map, List.map_cons, List.map_nil, List.length_cons, List.length_nil, List.cons_append, List.nil_append, List.replicate, decide_eq_true_eq, Bool.not_eq_true', Bool.not_true, Bool.not_false, if_true, if_false, Nat.zero_add, Nat.reduceAdd, Nat.reduceSub, ge_iff_le, true_and, and_true, zip_unzip, Bool.false_xor, Bool.true_xor, Bool.false_eq_true, Bool.true_eq_false, reduceIte, wipeR, dataR_cons, dataR_nil, dataO_d, dataO_none, dataO_ol, dataO_od, oDict, oIsi, tyD, isiB, wSl, wPart, wNoP, oSl, wDisp1, wDGet2, oRemove, atI_0, atI_1, atI_2, wiRev, revItems, oDictP, wForK, wiKeys, kD, oSortX, oPow, oBitAnd, oShl, oNeg, wUn, oInt, oStr, oDivmod, oIs, isD, wChain, wFz, wFzE, frzR, wLSet, wiZip, seqsD, wiVals, wiItems, wOIx, wNo, Option.isSome_some, oMulX, wM1, oSplit, oPart, oStrip1, oRep, oSum, intsD, wRaise, wLI, wLK
, wiR3, wLR, wDisp, wPairs, oReverse, oClear, oInsert, wRevL, wDZ, seqLT, oSortIT, wOFld, wSFld, asOI, setOI, putG, wPar, wiItemsC, wiValsC, wIndexL]
      refine at_form rfl rfl (by omega) o.gb.1 ?_
      simp only [wSeq, wSet, wAsg, wC, wIfS, wB, wOp, oI, oI0, asI, asS, asL, asLT, asT, asB, asA_some, asA_none, asO, asOL, asOD, asKey, asDic, asSq, oLen, oMod, oAdd, oSub, oMul, oDiv, oMax, oMin, oPlus, oEqX, oNeX, eqX_int, eqX_str, eqX_bl, oCmp, oLtX, oLeX, oGtX, oGeX, oIxX, oInX, wCB, wCons, wNil, wVar, wMove, nth, put, startR, wNext, wRet, wRetN, wDrop, wFor, wiR1, wiR2, wiX, itemsOf, wgName, wgTup, wgCons, wgNil, wLend, wLendT, seeR_cons, seeR_nil, seeO_d, seeO_none, seeO_ol, seeO_od, wJoin, wM, oAppend, oPop, oPopAt, wDPut, wDPop, wSortK, wDict0, wTup, wLst, wCall, wAnd, wOr, wNot, wAndV, wOrV, wNotV, wIf, wYes, wLc, wiEnumX, oListX, oTuple, oSort, oSortSet, oAll, oAny, S.fz, S.own, D.flat, txts_map, bools_map, txtKeys_map, List.length_map, List.map_cons, List.map_nil, List.length_cons, List.length_nil, List.cons_append, List.nil_append, List.replicate, decide_eq_true_eq, Bool.not_eq_true', Bool.not_true, Bool.not_false, if_true, if_false, Nat.zero_add, Nat.reduceAdd, Nat.reduceSub, ge_iff_le, true_and, and_true, zip_unzip, Bool.false_xor, Bool.true_xor, Bool.false_eq_true, Bool.true_eq_false, reduceIte, wipeR, dataR_cons, dataR_nil, dataO_d, dataO_none, dataO_ol, dataO_od, oDict, oIsi, tyD, isiB, wSl, wPart, wNoP, oSl, wDisp1, wDGet2, oRemove, atI_0, atI_1, atI_2, wiRev, revItems, oDictP, wForK, wiKeys, kD, oSortX, oPow, oBitAnd, oShl, oNeg, wUn, oInt, oStr, oDivmod, oIs, isD, wChain, wFz, wFzE, frzR, wLSet, wiZip, seqsD, wiVals, wiItems, wOIx, wNo, Option.isSome_some, oMulX, wM1, oSplit, oPart, oStrip1, oRep, oSum, intsD, wRaise, wLI, wLK
, wiR3, wLR, wDisp, wPairs, oReverse, oClear, oInsert, wRevL, wDZ, seqLT, oSortIT, wOFld, wSFld, asOI, setOI, putG, wPar, wiItemsC, wiValsC, wIndexL]
      exact ⟨by decide, hQ⟩
    rw [show ws.filterMap (fun w : Wsh => some w.S2) = ws.map Wsh.S2 from congrFun List.filterMap_eq_map' ws]
    simp only [w_Task_init_t6, w_Task_init_t7, List.mem_cons, true_or, reduceCtorEq, fne01, fne02, fne03, fne04, fne12, fne13, fne14, fne23, fne24, fne34, dataO_os, fget_cons, wSeq, wSet, wAsg, wC, wIfS, wB, wOp, oI, oI0, asI, asS, asL, asLT, asT, asB, asA_some, asA_none, asO, asOL, asOD, asKey, asDic, asSq, oLen, oMod, oAdd, oSub, oMul, oDiv, oMax, oMin, oPlus, oEqX, oNeX, eqX_int, eqX_str, eqX_bl, oCmp, oLtX, oLeX, oGtX, oGeX, oIxX, oInX, wCB, wCons, wNil, wVar, wMove, nth, put, startR, wNext, wRet, wRetN, wDrop, wFor, wiR1, wiR2, wiX, itemsOf, wgName, wgTup, wgCons, wgNil, wLend, wLendT, seeR_cons, seeR_nil, seeO_d, seeO_none, seeO_ol, seeO_od, wJoin, wM, oAppend, oPop, oPopAt, wDPut, wDPop, wSortK, wDict0, wTup, wLst, wCall, wAnd, wOr, wNot, wAndV, wOrV, wNotV, wIf, wYes, wLc, wiEnumX, oListX, oTuple, oSort, oSortSet, oAll, oAny, S.fz, S.own, D.flat, txts_map, bools_map, txtKeys_map, List.length_map, List.map_cons, List.map_nil, List.length_cons, List.length_nil, List.cons_append, List.nil_append, List.replicate, decide_eq_true_eq, Bool.not_eq_true', Bool.not_true, Bool.not_false, if_true, if_false, Nat.zero_add, Nat.reduceAdd, Nat.reduceSub, ge_iff_le, true_and, and_true, zip_unzip, Bool.false_xor, Bool.true_xor, Bool.false_eq_true, Bool.true_eq_false, reduceIte, wipeR, dataR_cons, dataR_nil, dataO_d, dataO_none, dataO_ol, dataO_od, oDict, oIsi, tyD, isiB, wSl, wPart, wNoP, oSl, wDisp1, wDGet2, oRemove, atI_0, atI_1, atI_2, wiRev, revItems, oDictP, wForK, wiKeys, kD, oSortX, oPow, oBitAnd, oShl, oNeg, wUn, oInt, oStr, oDivmod, oIs, isD, wChain, wFz, wFzE, frzR, wLSet, wiZip, seqsD, wiVals, wiItems, wOIx, wNo, Option.isSome_some, oMulX, wM1, oSplit, oPart, oStrip1, oRep, oSum, intsD, wRaise, wLI, wLK
, wiR3, wLR, wDisp, wPairs, oReverse, oClear, oInsert, wRevL, wDZ, seqLT, oSortIT, wOFld, wSFld, asOI, setOI, putG, wPar, wiItemsC, wiValsC, wIndexL]
    refine ⟨by decide, by decide, by decide, ?_⟩
    refine forD_map (I := fun done _ ρ => ∃ o5 o6 : Option S, ρ = [some (.os a (Str.ofString "Task") [(Str.ofString "kept_givens", .str g), (Str.ofString "kept_gaps", .str p), (Str.ofString "kept_wishes", .lst (ws.map Wsh.D2)), (Str.ofString "kept_sides", .lst (ws.map Wsh.S2)), (Str.ofString "kept_fault", fD (faultF done))]), some (.d (.str g)), some (.d (.str p)), some (.d (.lst (ws.map fun w => .str w.txt))), none, o5, o6]) mono_pair ws (fun done w ys ρ he hI => ?_) (fun ρ hI => ?_) _ ⟨none, none, rfl⟩
    · obtain ⟨o5, o6, rfl⟩ := hI
      have o := ok.ok w (by rw [he]; simp)
      have od : ∀ x ∈ done, x.a.ok ∧ x.b.ok := fun x hx => by have := ok.ok x (by rw [he]; simp [hx]); exact ⟨this.ga.1, this.gb.1⟩
      have fd := foldl_frm done nil_frm od
      have fa := frm_ok o.ga.1
      have fb := frm_ok o.gb.1
      have e : faultF (done ++ [w]) = joinF (faultF done) (addedF w.a.frm w.b.frm) := by unfold faultF; rw [List.foldl_append]; rfl
      simp only [Wsh.S2, w_Task_init_t7, List.mem_cons, true_or, reduceCtorEq, fne01, fne02, fne03, fne04, fne12, fne13, fne14, fne23, fne24, fne34, dataO_os, fget_cons, wSeq, wSet, wAsg, wC, wIfS, wB, wOp, oI, oI0, asI, asS, asL, asLT, asT, asB, asA_some, asA_none, asO, asOL, asOD, asKey, asDic, asSq, oLen, oMod, oAdd, oSub, oMul, oDiv, oMax, oMin, oPlus, oEqX, oNeX, eqX_int, eqX_str, eqX_bl, oCmp, oLtX, oLeX, oGtX, oGeX, oIxX, oInX, wCB, wCons, wNil, wVar, wMove, nth, put, startR, wNext, wRet, wRetN, wDrop, wFor, wiR1, wiR2, wiX, itemsOf, wgName, wgTup, wgCons, wgNil, wLend, wLendT, seeR_cons, seeR_nil, seeO_d, seeO_none, seeO_ol, seeO_od, wJoin, wM, oAppend, oPop, oPopAt, wDPut, wDPop, wSortK, wDict0, wTup, wLst, wCall, wAnd, wOr, wNot, wAndV, wOrV, wNotV, wIf, wYes, wLc, wiEnumX, oListX, oTuple, oSort, oSortSet, oAll, oAny, S.fz, S.own, D.flat, txts_map, bools_map, txtKeys_map, List.length_map, List.map_cons, List.map_nil, List.length_cons, List.length_nil, List.cons_append, List.nil_append, List.replicate, decide_eq_true_eq, Bool.not_eq_true', Bool.not_true, Bool.not_false, if_true, if_false, Nat.zero_add, Nat.reduceAdd, Nat.reduceSub, ge_iff_le, true_and, and_true, zip_unzip, Bool.false_xor, Bool.true_xor, Bool.false_eq_true, Bool.true_eq_false, reduceIte, wipeR, dataR_cons, dataR_nil, dataO_d, dataO_none, dataO_ol, dataO_od, oDict, oIsi, tyD, isiB, wSl, wPart, wNoP, oSl, wDisp1, wDGet2, oRemove, atI_0, atI_1, atI_2, wiRev, revItems, oDictP, wForK, wiKeys, kD, oSortX, oPow, oBitAnd, oShl, oNeg, wUn, oInt, oStr, oDivmod, oIs, isD, wChain, wFz, wFzE, frzR, wLSet, wiZip, seqsD, wiVals, wiItems, wOIx, wNo, Option.isSome_some, oMulX, wM1, oSplit, oPart, oStrip1, oRep, oSum, intsD, wRaise, wLI, wLK
, wiR3, wLR, wDisp, wPairs, oReverse, oClear, oInsert, wRevL, wDZ, seqLT, oSortIT, wOFld, wSFld, asOI, setOI, putG, wPar, wiItemsC, wiValsC, wIndexL, sp_joined, sp_added, asF_fD]
      rw [e]
      exact ⟨⟨by have := fa.len; omega, by have := fb.len; omega⟩, ⟨fd, frm_added fa fb⟩, by decide, _, _, rfl⟩
    · obtain ⟨o5, o6, rfl⟩ := hI
      exact ⟨_, rfl, hq⟩
  · exact h.elim
def taskD (g p : Str) (ws : List Wsh) : D := .ins "Task" ((taskK g p ws).map (·.1)) ((taskK g p ws).map (·.2))
theorem asIns_task {g p : Str} {ws : List Wsh} {P : Str → List (Str × D) → Prop} : asIns (taskD g p ws) P = P "Task" (taskK g p ws) := by
  unfold taskD asIns
  simp only [zip_unzip]
theorem TaskOk.prd {g p : Str} {ws : List Wsh} (ok : TaskOk g p ws) : Prd (g ++ p) := by
  refine ⟨?_, fun c hc => ?_⟩
  · rw [sg_append, List.pairwise_append]
    refine ⟨ok.pg.up, ok.pp.up, fun a ha b hb => ?_⟩
    have h1 := ok.sg_ a ha
    have h2 := ok.sp_ b hb
    simp only [List.mem_cons, List.not_mem_nil, or_false] at h1 h2
    omega
  · rw [sg_append] at hc
    exact (List.mem_append.mp hc).elim (ok.pg.le c) (ok.pp.le c)
theorem TaskOk.l3 {g p : Str} {ws : List Wsh} (ok : TaskOk g p ws) : (sg g).length ≤ 3 ∧ (sg p).length ≤ 3 :=
  ⟨(up_nodup ok.pg.up).length_le_of_subset (l₂ := [97, 98, 99]) ok.sg_, (up_nodup ok.pp.up).length_le_of_subset (l₂ := [120, 121, 122]) ok.sp_⟩
theorem foldl_over {s : Str} : ∀ (ws : List Wsh) {f : List Str}, Over s f → (∀ w ∈ ws, w.a.gd s ∧ w.b.gd s) → Over s (ws.foldl (fun f w => joinF f (addedF w.a.frm w.b.frm)) f)
  | [], f, h, _ => h
  | w :: ws, f, h, ok => by
    rw [List.foldl_cons]
    have := ok w List.mem_cons_self
    exact foldl_over ws (over_join h (over_added (frm_over this.1.2) (frm_over this.2.2))) fun x hx => ok x (List.mem_cons_of_mem _ hx)
theorem TaskOk.frm {g p : Str} {ws : List Wsh} (ok : TaskOk g p ws) : Frm (faultF ws) := foldl_frm ws nil_frm fun w hw => ⟨(ok.ok w hw).ga.1, (ok.ok w hw).gb.1⟩
theorem TaskOk.over {g p : Str} {ws : List Wsh} (ok : TaskOk g p ws) : Over (g ++ p) (faultF ws) := foldl_over ws over_nil fun w hw => ⟨(ok.ok w hw).ga, (ok.ok w hw).gb⟩
theorem atI_nat {α : Type} (xs : List α) (n : Nat) : atI xs (n : Int) = xs[n]? := by
  unfold atI ixN
  rw [if_pos (Int.natCast_nonneg n)]
  by_cases h : n < xs.length
  · rw [if_pos (by omega)]; simp
  · rw [if_neg (by omega), List.getElem?_eq_none (by omega)]; rfl
end DL
namespace DL
open PySem L2
def formF : List Nat → List Bool → List Str
  | [], t => if t.headD false = true then oneF else []
  | c :: cs, t => addedF (formF cs (t.take (t.length / 2))) (mulF [one c] (addedF (formF cs (t.take (t.length / 2))) (formF cs (t.drop (t.length / 2)))))
def tabAt : List Nat → List Bool → (Nat → Bool) → Bool
  | [], t, _ => t.headD false
  | c :: cs, t, r => if r c = true then tabAt cs (t.drop (t.length / 2)) r else tabAt cs (t.take (t.length / 2)) r
theorem val_formF (r : Nat → Bool) : ∀ (cs : List Nat) (t : List Bool), val r (formF cs t) = tabAt cs t r
  | [], t => by
    unfold formF tabAt
    cases t.headD false
    · exact val_nil r
    · exact val_one r
  | c :: cs, t => by
    rw [formF, tabAt, val_added, val_mul, val_added, val_letter, val_formF r cs, val_formF r cs]
    cases r c <;> cases tabAt cs (t.take (t.length / 2)) r <;> cases tabAt cs (t.drop (t.length / 2)) r <;> rfl
theorem frm_formF : ∀ {cs : List Nat} {t : List Bool}, (∀ c ∈ cs, c ∈ LET) → Frm (formF cs t)
  | [], t, _ => by
    unfold formF
    split
    · exact frm_one
    · exact frm_nil
  | c :: cs, t, h => by
    have ih : ∀ t, Frm (formF cs t) := fun t => frm_formF fun d hd => h d (List.mem_cons_of_mem _ hd)
    exact frm_added (ih _) (frm_mul (frm_letter (h c List.mem_cons_self)) (frm_added (ih _) (ih _)))
end DL
namespace DL
open PySem L2
theorem rowR_mod : ∀ (xs : List Nat) (n m : Nat), rowR xs (n + 2 ^ xs.length * m) = rowR xs n
  | [], _, _ => rfl
  | x :: xs, n, m => by
    rw [rowR, rowR, List.length_cons, Nat.pow_succ]
    have e1 : n + 2 ^ xs.length * 2 * m = n + 2 * (2 ^ xs.length * m) := by rw [Nat.mul_comm (2 ^ xs.length) 2, Nat.mul_assoc]
    rw [e1]
    have e2 : (n + 2 * (2 ^ xs.length * m)) % 2 = n % 2 := by omega
    have e3 : (n + 2 * (2 ^ xs.length * m)) / 2 = n / 2 + 2 ^ xs.length * m := by omega
    rw [e2, e3, rowR_mod xs]
theorem rowN_cons (c : Nat) (cs : List Nat) (n : Nat) : rowN (c :: cs) n = (c, decide (n / 2 ^ cs.length % 2 = 1)) :: rowN cs n := by
  unfold rowN
  rw [List.reverse_cons, rowR_app, List.reverse_append, List.length_reverse]; rfl
theorem rowN_keys (cs : List Nat) (n : Nat) : (rowN cs n).map (·.1) = cs := by unfold rowN; rw [List.map_reverse, rowR_keys, List.reverse_reverse]
theorem rowF_cons (c : Nat) (b : Bool) (r : Row) (d : Nat) : rowF ((c, b) :: r) d = if d = c then b else rowF r d := by
  unfold rowF
  rw [List.find?_cons]
  by_cases e : d = c
  · subst e; simp
  · have : ¬ c = d := fun z => e z.symm
    simp only [decide_eq_false this, if_neg e]
theorem tabAt_congr : ∀ {cs : List Nat} {t : List Bool} {r r' : Nat → Bool}, (∀ c ∈ cs, r c = r' c) → tabAt cs t r = tabAt cs t r'
  | [], _, _, _, _ => rfl
  | c :: cs, t, r, r', h => by
    rw [tabAt, tabAt, h c List.mem_cons_self, tabAt_congr fun d hd => h d (List.mem_cons_of_mem _ hd), tabAt_congr (t := t.take _) fun d hd => h d (List.mem_cons_of_mem _ hd)]
theorem range_add' (h : Nat) : List.range (h + h) = List.range h ++ (List.range h).map (· + h) := by
  rw [List.range_add]
  congr 1
  apply List.map_congr_left
  intro i _
  exact Nat.add_comm _ _
theorem tab_rows : ∀ {cs : List Nat} {t : List Bool}, cs.Nodup → t.length = 2 ^ cs.length → (List.range (2 ^ cs.length)).map (fun k => tabAt cs t (rowF (rowN cs k))) = t
  | [], t, _, hl => by
    obtain ⟨b, rfl⟩ : ∃ b, t = [b] := List.length_eq_one_iff.mp hl
    rfl
  | c :: cs, t, hn, hl => by
    rw [List.nodup_cons] at hn
    rw [List.length_cons, Nat.pow_succ] at hl
    have hh : t.length / 2 = 2 ^ cs.length := by omega
    have e2 : 2 ^ (c :: cs).length = 2 ^ cs.length + 2 ^ cs.length := by rw [List.length_cons, Nat.pow_succ]; omega
    have hpos : 0 < 2 ^ cs.length := Nat.pow_pos (by decide)
    have h1 := tab_rows (cs := cs) (t := t.take (t.length / 2)) hn.2 (by rw [List.length_take]; omega)
    have h2 := tab_rows (cs := cs) (t := t.drop (t.length / 2)) hn.2 (by rw [List.length_drop]; omega)
    rw [e2, range_add', List.map_append, List.map_map]
    have g1 : (List.range (2 ^ cs.length)).map (fun k => tabAt (c :: cs) t (rowF (rowN (c :: cs) k))) = t.take (t.length / 2) := by
      refine Eq.trans (List.map_congr_left fun k hk => ?_) h1
      have hk' := List.mem_range.mp hk
      rw [tabAt, rowN_cons, rowF_cons, if_pos rfl]
      have : decide (k / 2 ^ cs.length % 2 = 1) = false := by rw [Nat.div_eq_of_lt hk']; rfl
      rw [this, if_neg Bool.false_ne_true]
      exact tabAt_congr fun d hd => by rw [rowF_cons, if_neg (show ¬ d = c from fun e => hn.1 (e ▸ hd))]
    have g2 : (List.range (2 ^ cs.length)).map ((fun k => tabAt (c :: cs) t (rowF (rowN (c :: cs) k))) ∘ (· + 2 ^ cs.length)) = t.drop (t.length / 2) := by
      refine Eq.trans (List.map_congr_left fun k hk => ?_) h2
      have hk' := List.mem_range.mp hk
      show tabAt (c :: cs) t (rowF (rowN (c :: cs) (k + 2 ^ cs.length))) = _
      rw [tabAt, rowN_cons, rowF_cons, if_pos rfl]
      have : decide ((k + 2 ^ cs.length) / 2 ^ cs.length % 2 = 1) = true := by rw [Nat.add_div_right _ hpos, Nat.div_eq_of_lt hk']; rfl
      rw [this, if_pos rfl]
      have e5 : rowN cs (k + 2 ^ cs.length) = rowN cs k := by
        unfold rowN
        have := rowR_mod cs.reverse k 1
        rw [Nat.mul_one, List.length_reverse] at this
        rw [this]
      rw [e5]
      exact tabAt_congr fun d hd => by rw [rowF_cons, if_neg (show ¬ d = c from fun e => hn.1 (e ▸ hd))]
    rw [g1, g2, List.take_append_drop]
theorem rowN_cover : ∀ {cs : List Nat} (r : Nat → Bool), cs.Nodup → ∃ k, k < 2 ^ cs.length ∧ ∀ c ∈ cs, rowF (rowN cs k) c = r c
  | [], r, _ => ⟨0, by decide, by simp⟩
  | c :: cs, r, hn => by
    rw [List.nodup_cons] at hn
    obtain ⟨k, hk, h⟩ := rowN_cover (cs := cs) r hn.2
    have hpos : 0 < 2 ^ cs.length := Nat.pow_pos (by decide)
    have e2 : 2 ^ (c :: cs).length = 2 ^ cs.length + 2 ^ cs.length := by rw [List.length_cons, Nat.pow_succ]; omega
    cases hb : r c with
    | false =>
      refine ⟨k, by omega, fun d hd => ?_⟩
      rw [rowN_cons, rowF_cons]
      by_cases e : d = c
      · rw [if_pos e, e, hb, Nat.div_eq_of_lt hk]; rfl
      · rw [if_neg e]; exact h d ((List.mem_cons.mp hd).resolve_left e)
    | true =>
      refine ⟨k + 2 ^ cs.length, by omega, fun d hd => ?_⟩
      have e5 : rowN cs (k + 2 ^ cs.length) = rowN cs k := by
        unfold rowN
        have := rowR_mod cs.reverse k 1
        rw [Nat.mul_one, List.length_reverse] at this
        rw [this]
      rw [rowN_cons, rowF_cons]
      by_cases e : d = c
      · rw [if_pos e, e, hb, Nat.add_div_right _ hpos, Nat.div_eq_of_lt hk]; rfl
      · rw [if_neg e, e5]; exact h d ((List.mem_cons.mp hd).resolve_left e)
theorem tabL_len (s : Str) (f : List Str) : (tabL s f).length = 2 ^ (sg s).length := by unfold tabL; rw [List.length_map, List.length_range]
theorem tabAt_tabL {s : Str} {f : List Str} (hs : Prd s) (ho : Over s f) (r : Nat → Bool) : tabAt (sg s) (tabL s f) r = val r f := by
  obtain ⟨k, hk, h⟩ := rowN_cover (cs := sg s) r (up_nodup hs.up)
  have e := tab_rows (up_nodup hs.up) (tabL_len s f)
  have e1 : ∀ k, k < 2 ^ (sg s).length → tabAt (sg s) (tabL s f) (rowF (rowN (sg s) k)) = val (rowF (rowN (sg s) k)) f := fun k hk => by
    have := congrArg (fun l => l[k]?) e
    have e3 : (tabL s f)[k]? = some (val (rowF (rowN (sg s) k)) f) := by unfold tabL; rw [List.getElem?_map, List.getElem?_range hk]; rfl
    rw [e3] at this
    simp only [List.getElem?_map, List.getElem?_range hk] at this
    exact Option.some.inj this
  rw [← tabAt_congr (r := rowF (rowN (sg s) k)) h, e1 k hk]
  exact val_congr ho h
theorem formF_tabL {s : Str} {f : List Str} (hs : Prd s) (hf : Frm f) (ho : Over s f) : formF (sg s) (tabL s f) = f :=
  uniq (frm_formF hs.le) hf fun r => by rw [val_formF, tabAt_tabL hs ho]
theorem allRows_vals (s : Str) (f : List Str) : (allRows (sg s)).map (fun r => val (rowF r) f) = tabL s f := by unfold allRows tabL; rw [List.map_map]; rfl
end DL
namespace DL
open PySem L2
def subsL : List Nat → List (List Nat)
  | [] => [[]]
  | c :: cs => subsL cs ++ (subsL cs).map (c :: ·)
def mkS (x : List Nat) : Str := ⟨x.toArray⟩
theorem sg_mkS (x : List Nat) : sg (mkS x) = x := rfl
theorem mem_subsL {x : List Nat} : ∀ {cs : List Nat}, cs.Pairwise (· < ·) → (x ∈ subsL cs ↔ x.Pairwise (· < ·) ∧ ∀ c ∈ x, c ∈ cs)
  | [], _ => by
    rw [subsL, List.mem_singleton]
    constructor
    · rintro rfl; exact ⟨.nil, by simp⟩
    · rintro ⟨_, h⟩
      cases x with
      | nil => rfl
      | cons d _ => exact absurd (h d List.mem_cons_self) (by simp)
  | c :: cs, hu => by
    have hu2 := List.pairwise_cons.mp hu
    rw [subsL, List.mem_append, mem_subsL hu2.2, List.mem_map]
    constructor
    · rintro (⟨h1, h2⟩ | ⟨y, hy, rfl⟩)
      · exact ⟨h1, fun d hd => List.mem_cons_of_mem _ (h2 d hd)⟩
      · obtain ⟨h1, h2⟩ := (mem_subsL hu2.2).mp hy
        exact ⟨List.pairwise_cons.mpr ⟨fun d hd => hu2.1 d (h2 d hd), h1⟩, fun d hd => (List.mem_cons.mp hd).elim (fun e => e ▸ List.mem_cons_self) fun z => List.mem_cons_of_mem _ (h2 d z)⟩
    · rintro ⟨h1, h2⟩
      cases x with
      | nil => exact .inl ⟨.nil, by simp⟩
      | cons d y =>
        have h3 := List.pairwise_cons.mp h1
        rcases List.mem_cons.mp (h2 d List.mem_cons_self) with e | e
        · subst e
          refine .inr ⟨y, (mem_subsL hu2.2).mpr ⟨h3.2, fun b hb => ?_⟩, rfl⟩
          rcases List.mem_cons.mp (h2 b (List.mem_cons_of_mem _ hb)) with z | z
          · exact absurd (h3.1 b hb) (by omega)
          · exact z
        · refine .inl ⟨h1, fun b hb => ?_⟩
          rcases List.mem_cons.mp (h2 b hb) with z | z
          · exfalso
            subst z
            rcases List.mem_cons.mp hb with w | w
            · subst w; exact absurd (hu2.1 b e) (by omega)
            · have := h3.1 b w; have := hu2.1 d e; omega
          · exact z
theorem nodup_mapI {α β : Type} {f : α → β} (hf : ∀ a b, f a = f b → a = b) {l : List α} (h : l.Nodup) : (l.map f).Nodup := List.pairwise_map.mpr (h.imp fun hn e => hn (hf _ _ e))
theorem nodup_subsL : ∀ {cs : List Nat}, cs.Pairwise (· < ·) → (subsL cs).Nodup
  | [], _ => by simp [subsL]
  | c :: cs, hu => by
    have hu2 := List.pairwise_cons.mp hu
    have ih := nodup_subsL hu2.2
    rw [subsL, List.nodup_append]
    refine ⟨ih, ?_, fun a ha b hb e => ?_⟩
    · exact nodup_mapI (fun a b h => (List.cons.inj h).2) ih
    · subst e
      obtain ⟨y, hy, rfl⟩ := List.mem_map.mp hb
      have := ((mem_subsL hu2.2).mp ha).2 c List.mem_cons_self
      exact absurd (hu2.1 c this) (by omega)
def par {α : Type} (p : α → Bool) (l : List α) : Bool := decide (l.countP p % 2 = 1)
theorem par_append {α : Type} (p : α → Bool) (l k : List α) : par p (l ++ k) = xor (par p l) (par p k) := by
  unfold par
  rw [List.countP_append]
  rcases Nat.mod_two_eq_zero_or_one (l.countP p) with h | h <;> rcases Nat.mod_two_eq_zero_or_one (k.countP p) with g | g <;> simp [Nat.add_mod, h, g]
theorem par_map {α β : Type} (p : β → Bool) (f : α → β) (l : List α) : par p (l.map f) = par (p ∘ f) l := by unfold par; rw [List.countP_map]
theorem par_congr {α : Type} {p q : α → Bool} {l : List α} (h : ∀ x ∈ l, p x = q x) : par p l = par q l := by
  unfold par
  rw [List.countP_congr fun x hx => by rw [h x hx]]
theorem par_false {α : Type} (l : List α) : par (fun _ => false) l = false := by
  unfold par
  have : l.countP (fun _ => false) = 0 := by rw [List.countP_eq_zero]; simp
  rw [this]; rfl
theorem par_xor {α : Type} (p q : α → Bool) : ∀ l : List α, par (fun x => xor (p x) (q x)) l = xor (par p l) (par q l)
  | [] => rfl
  | x :: l => by
    have e : ∀ p : α → Bool, par p (x :: l) = xor (p x) (par p l) := fun p => by
      rw [show x :: l = [x] ++ l from rfl, par_append]
      congr 1
      unfold par
      cases h : p x <;> simp [h]
    rw [e, e, e, par_xor p q l]
    cases p x <;> cases q x <;> cases par p l <;> cases par q l <;> rfl
theorem par_and {α : Type} (b : Bool) (p : α → Bool) (l : List α) : par (fun x => b && p x) l = (b && par p l) := by
  cases b with
  | false => simp only [Bool.false_and]; exact par_false l
  | true => simp only [Bool.true_and]
def subT : List Nat → List Bool → List Nat → Bool
  | [], t, _ => t.headD false
  | c :: cs, t, x => xor (subT cs (t.take (t.length / 2)) x) (decide (c ∈ x) && subT cs (t.drop (t.length / 2)) x)
theorem subT_skip {c : Nat} {x : List Nat} : ∀ {cs : List Nat} {t : List Bool}, c ∉ cs → subT cs t (c :: x) = subT cs t x
  | [], _, _ => rfl
  | d :: cs, t, h => by
    rw [List.mem_cons, not_or] at h
    rw [subT, subT, subT_skip h.2, subT_skip h.2]
    have : decide (d ∈ c :: x) = decide (d ∈ x) := decide_eq_decide.mpr ⟨fun z => (List.mem_cons.mp z).resolve_left (fun e => h.1 e.symm), fun z => List.mem_cons_of_mem _ z⟩
    rw [this]
theorem mob : ∀ {cs : List Nat} {t : List Bool} {r : Nat → Bool}, cs.Pairwise (· < ·) → par (fun x => subT cs t x && x.all r) (subsL cs) = tabAt cs t r
  | [], t, r, _ => by
    unfold subsL tabAt par
    have e : (subT [] t [] && [].all r) = t.headD false := by rw [subT, List.all_nil, Bool.and_true]
    rw [List.countP_cons, e, List.countP_nil]
    cases t.headD false <;> rfl
  | c :: cs, t, r, hu => by
    have hu2 := List.pairwise_cons.mp hu
    have hc : c ∉ cs := fun z => absurd (hu2.1 c z) (by omega)
    rw [subsL, par_append, par_map]
    have g1 : par (fun x => subT (c :: cs) t x && x.all r) (subsL cs) = tabAt cs (t.take (t.length / 2)) r := by
      rw [← mob hu2.2]
      refine par_congr fun x hx => ?_
      have : c ∉ x := fun z => hc (((mem_subsL hu2.2).mp hx).2 c z)
      rw [subT, decide_eq_false this, Bool.false_and, Bool.xor_false]
    have g2 : par ((fun x => subT (c :: cs) t x && x.all r) ∘ (c :: ·)) (subsL cs) = (r c && xor (tabAt cs (t.take (t.length / 2)) r) (tabAt cs (t.drop (t.length / 2)) r)) := by
      rw [← mob hu2.2, ← mob hu2.2, ← par_xor, ← par_and]
      refine par_congr fun x hx => ?_
      simp only [Function.comp, subT, subT_skip hc, List.mem_cons_self, decide_true, Bool.true_and, List.all_cons]
      cases r c <;> cases subT cs (t.take (t.length / 2)) x <;> cases subT cs (t.drop (t.length / 2)) x <;> cases x.all r <;> rfl
    rw [g1, g2, tabAt]
    cases r c <;> cases tabAt cs (t.take (t.length / 2)) r <;> cases tabAt cs (t.drop (t.length / 2)) r <;> rfl
def under (cs x : List Nat) (k : Nat) : Bool := cs.all fun d => decide (d ∈ x) || !rowF (rowN cs k) d
theorem subT_rows {x : List Nat} : ∀ {cs : List Nat} {t : List Bool}, cs.Nodup → t.length = 2 ^ cs.length → par (fun k => t[k]?.getD false && under cs x k) (List.range (2 ^ cs.length)) = subT cs t x
  | [], t, _, hl => by
    obtain ⟨b, rfl⟩ : ∃ b, t = [b] := List.length_eq_one_iff.mp hl
    cases b <;> rfl
  | c :: cs, t, hn, hl => by
    rw [List.nodup_cons] at hn
    rw [List.length_cons, Nat.pow_succ] at hl
    have hh : t.length / 2 = 2 ^ cs.length := by omega
    have e2 : 2 ^ (c :: cs).length = 2 ^ cs.length + 2 ^ cs.length := by rw [List.length_cons, Nat.pow_succ]; omega
    have hpos : 0 < 2 ^ cs.length := Nat.pow_pos (by decide)
    have h1 := subT_rows (x := x) (cs := cs) (t := t.take (t.length / 2)) hn.2 (by rw [List.length_take]; omega)
    have h2 := subT_rows (x := x) (cs := cs) (t := t.drop (t.length / 2)) hn.2 (by rw [List.length_drop]; omega)
    rw [e2, range_add', par_append, par_map, subT, ← h1, ← h2, ← par_and]
    congr 1
    · refine par_congr fun k hk => ?_
      have hk' := List.mem_range.mp hk
      rw [List.getElem?_take, if_pos (by omega)]
      congr 1
      unfold under
      rw [List.all_cons, rowN_cons, rowF_cons, if_pos rfl, Nat.div_eq_of_lt hk']
      have : (decide (c ∈ x) || !decide (0 % 2 = 1)) = true := by simp
      rw [this, Bool.true_and]
      rw [Bool.eq_iff_iff, List.all_eq_true, List.all_eq_true]
      exact ⟨fun h d hd => by have := h d hd; rwa [rowF_cons, if_neg (show ¬ d = c from fun e => hn.1 (e ▸ hd))] at this, fun h d hd => by rw [rowF_cons, if_neg (show ¬ d = c from fun e => hn.1 (e ▸ hd))]; exact h d hd⟩
    · refine par_congr fun k hk => ?_
      have hk' := List.mem_range.mp hk
      simp only [Function.comp]
      rw [List.getElem?_drop, hh, Nat.add_comm (2 ^ cs.length) k, ← Bool.and_assoc, Bool.and_comm (decide _), Bool.and_assoc]
      congr 1
      have e5 : rowN cs (k + 2 ^ cs.length) = rowN cs k := by
        unfold rowN
        have := rowR_mod cs.reverse k 1
        rw [Nat.mul_one, List.length_reverse] at this
        rw [this]
      unfold under
      rw [List.all_cons, rowN_cons, rowF_cons, if_pos rfl, Nat.add_div_right _ hpos, Nat.div_eq_of_lt hk', e5]
      have : (decide (c ∈ x) || !decide ((0 + 1) % 2 = 1)) = decide (c ∈ x) := by simp
      rw [this]
      congr 1
      rw [Bool.eq_iff_iff, List.all_eq_true, List.all_eq_true]
      exact ⟨fun h d hd => by have := h d hd; rwa [rowF_cons, if_neg (show ¬ d = c from fun e => hn.1 (e ▸ hd))] at this, fun h d hd => by rw [rowF_cons, if_neg (show ¬ d = c from fun e => hn.1 (e ▸ hd))]; exact h d hd⟩
theorem val_made {s : Str} {t : List Bool} {l : List Str} (hs : Prd s) (hn : l.Nodup) (hm : ∀ p, p ∈ l ↔ Prd p ∧ ∀ c ∈ sg p, c ∈ sg s) (r : Nat → Bool) : val r (l.filter fun p => subT (sg s) t (sg p)) = tabAt (sg s) t r := by
  have hp : l.Perm ((subsL (sg s)).map mkS) := by
    refine (List.perm_ext_iff_of_nodup hn (nodup_mapI (fun a b h => by have := congrArg sg h; rwa [sg_mkS, sg_mkS] at this) (nodup_subsL hs.up))).mpr fun p => ?_
    rw [hm, List.mem_map]
    constructor
    · rintro ⟨h1, h2⟩
      exact ⟨sg p, (mem_subsL hs.up).mpr ⟨h1.up, h2⟩, sg_inj (sg_mkS _)⟩
    · rintro ⟨x, hx, rfl⟩
      have := (mem_subsL hs.up).mp hx
      exact ⟨⟨this.1, fun c hc => hs.le c (this.2 c hc)⟩, this.2⟩
  rw [← mob hs.up]
  have e1 : val r (l.filter fun p => subT (sg s) t (sg p)) = par (fun p => subT (sg s) t (sg p) && (sg p).all r) l := by
    unfold val par
    rw [List.countP_filter]
    have : (fun a => tr r a && subT (sg s) t (sg a)) = fun p => subT (sg s) t (sg p) && (sg p).all r := by funext p; unfold tr; rw [Bool.and_comm]
    rw [this]
  rw [e1]
  have e2 : par (fun p : Str => subT (sg s) t (sg p) && (sg p).all r) l = par (fun p : Str => subT (sg s) t (sg p) && (sg p).all r) ((subsL (sg s)).map mkS) := by
    unfold par; rw [hp.countP_eq]
  rw [e2, par_map]
  rfl
end DL
set_option maxHeartbeats 2000000
namespace DL
open PySem L2 Tree
def Kd.wd : Kd → Str
  | .an => "and"
  | .od => "or"
  | .ei => "either"
def Tree.tp2 : Tree → D
  | .let c => .tup [.str "letter", .str (DL.one c)]
  | .one => .tup [.str "always"]
  | .zero => .tup [.str "never"]
  | .no t => .tup [.str "not", t.tp2]
  | .pr k a b => .tup [.str k.wd, a.tp2, b.tp2]
def sp_L_mixed_47c : DSp := fun ds P _ => match ds with
  | [.cel ns, .int k] => (ns.length ≤ 63 ∧ 0 ≤ k ∧ k ≤ 100000) ∧ ∀ z : Int, 0 ≤ z → z < 1000000 → P (.d (.int z))
  | _ => False
abbrev N_L_mixed_47c : List Str := ["_law_script", "_law_k", "_law_cell", "_law_turn"]
def w_L_mixed_47c_t3 : WS := (wRet (wOp oMod (wOp oMul (wOp oMod (wOp oMul (wOp oPlus (wOp oPlus (wOp oMod (wVar 2) (wC (.int 1000003))) (wOp oMul (wC (.int 7919)) (wVar 1))) (wC (.int 11))) (wC (.int 48271))) (wC (.int 1000033))) (wC (.int 69621))) (wC (.int 999983))))
def w_L_mixed_47c_t2 : WS := wSeq (wIfS (wAnd (wB (wOp oGtX (wCB oLen (wCons (wVar 0) wNil)) (wC (.int 0)))) (wB (wOp oEqX (wOp oMod (wOp oIxX (wVar 0) (wC (.int 0))) (wC (.int 2))) (wC (.int 1))))) (wSeq (wAsg (wOp oDiv (wVar 2) (wC (.int 2))) (wgName 2))
    (wSeq (wFor (wiR1 (wCons (wCB oMin (wCons (wOp oDiv (wVar 1) (wCB oLen (wCons (wVar 0) wNil))) (wCons (wC (.int 24)) wNil))) wNil)) (wgName 3)
      (wAsg (wOp oDiv (wVar 2) (wC (.int 4096))) (wgName 2)))
    (wRet (wOp oMod (wVar 2) (wC (.int 4096)))))) wNext)
    w_L_mixed_47c_t3
def w_L_mixed_47c_t1 : WS := wSeq (wIfS (wB (wOp oGtX (wCB oLen (wCons (wVar 0) wNil)) (wC (.int 0)))) (wAsg (wOp oIxX (wVar 0) (wOp oMod (wVar 1) (wCB oLen (wCons (wVar 0) wNil)))) (wgName 2)) wNext)
    w_L_mixed_47c_t2
def w_L_mixed_47c : WS := wSeq (wAsg (wC (.int 0)) (wgName 2))
    w_L_mixed_47c_t1
theorem len_L_mixed_47c {ds Q px} (h : sp_L_mixed_47c ds Q px) : ds.length = 2 := by unfold sp_L_mixed_47c at h; split at h <;> first | rfl | exact h.elim
theorem rd_L_mixed_47c {ds Q px} (h : sp_L_mixed_47c ds Q px) : w_L_mixed_47c ⟨fun _ => Q (.d .non), Q, fun _ => False, fun _ => False⟩ (startR N_L_mixed_47c ds) := by
  unfold sp_L_mixed_47c at h
  split at h
  · rename_i ns k
    obtain ⟨⟨h1, h2, h3⟩, hq⟩ := h
    have t3 : ∀ (b : Int) (o : Option S), w_L_mixed_47c_t3 ⟨fun _ => Q (.d .non), Q, fun _ => False, fun _ => False⟩ [some (.d (.cel ns)), some (.d (.int k)), some (.d (.int b)), o] := fun b o => by
      simp only [w_L_mixed_47c_t3, wSeq, wSet, wAsg, wC, wIfS, wB, wOp, oI, oI0, asI, asS, asL, asLT, asT, asB, asA_some, asA_none, asO, asOL, asOD, asKey, asDic, asSq, oLen, oMod, oAdd, oSub, oMul, oDiv, oMax, oMin, oPlus, oEqX, oNeX, eqX_int, eqX_str, eqX_bl, oCmp, oLtX, oLeX, oGtX, oGeX, oIxX, oInX, wCB, wCons, wNil, wVar, wMove, nth, put, startR, wNext, wRet, wRetN, wDrop, wFor, wiR1, wiR2, wiX, itemsOf, wgName, wgTup, wgCons, wgNil, wLend, wLendT, seeR_cons, seeR_nil, seeO_d, seeO_none, seeO_ol, seeO_od, wJoin, wM, oAppend, oPop, oPopAt, wDPut, wDPop, wSortK, wDict0, wTup, wLst, wCall, wAnd, wOr, wNot, wAndV, wOrV, wNotV, wIf, wYes, wLc, wiEnumX, oListX, oTuple, oSort, oSortSet, oAll, oAny, S.fz, S.own, D.flat, txts_map, bools_map, txtKeys_map, List.length_map, List.map_cons, List.map_nil, List.length_cons, List.length_nil, List.cons_append, List.nil_append, List.replicate, decide_eq_true_eq, Bool.not_eq_true', Bool.not_true, Bool.not_false, if_true, if_false, Nat.zero_add, Nat.reduceAdd, Nat.reduceSub, ge_iff_le, true_and, and_true, zip_unzip, Bool.false_xor, Bool.true_xor, Bool.false_eq_true, Bool.true_eq_false, reduceIte, wipeR, dataR_cons, dataR_nil, dataO_d, dataO_none, dataO_ol, dataO_od, oDict, oIsi, tyD, isiB, wSl, wPart, wNoP, oSl, wDisp1, wDGet2, oRemove, atI_0, atI_1, atI_2, wiRev, revItems, oDictP, wForK, wiKeys, kD, oSortX, oPow, oBitAnd, oShl, oNeg, wUn, oInt, oStr, oDivmod, oIs, isD, wChain, wFz, wFzE, frzR, wLSet, wiZip, seqsD, wiVals, wiItems, wOIx, wNo, Option.isSome_some, oMulX, wM1, oSplit, oPart, oStrip1, oRep, oSum, intsD, wRaise, wLI, wLK
, wiR3, wLR, wDisp, wPairs, oReverse, oClear, oInsert, wRevL, wDZ, seqLT, oSortIT, wOFld, wSFld, asOI, setOI, putG, wPar, wiItemsC, wiValsC, wIndexL]
      have m0 := Int.emod_nonneg b (show (1000003 : Int) ≠ 0 by decide)
      have m1 := Int.emod_lt_of_pos b (show (0 : Int) < 1000003 by decide)
      refine ⟨by decide, .inl ⟨by decide, by decide⟩, .inr ⟨by decide, by decide⟩, by decide, .inr ⟨by decide, by decide⟩, by decide, hq _ (Int.emod_nonneg _ (by decide)) ?_⟩
      exact Int.lt_trans (Int.emod_lt_of_pos _ (show (0 : Int) < 999983 by decide)) (by decide)
    have t2 : ∀ (b : Int), w_L_mixed_47c_t2 ⟨fun _ => Q (.d .non), Q, fun _ => False, fun _ => False⟩ [some (.d (.cel ns)), some (.d (.int k)), some (.d (.int b)), none] := fun b => by
      simp only [w_L_mixed_47c_t2, wSeq, wSet, wAsg, wC, wIfS, wB, wOp, oI, oI0, asI, asS, asL, asLT, asT, asB, asA_some, asA_none, asO, asOL, asOD, asKey, asDic, asSq, oLen, oMod, oAdd, oSub, oMul, oDiv, oMax, oMin, oPlus, oEqX, oNeX, eqX_int, eqX_str, eqX_bl, oCmp, oLtX, oLeX, oGtX, oGeX, oIxX, oInX, wCB, wCons, wNil, wVar, wMove, nth, put, startR, wNext, wRet, wRetN, wDrop, wFor, wiR1, wiR2, wiX, itemsOf, wgName, wgTup, wgCons, wgNil, wLend, wLendT, seeR_cons, seeR_nil, seeO_d, seeO_none, seeO_ol, seeO_od, wJoin, wM, oAppend, oPop, oPopAt, wDPut, wDPop, wSortK, wDict0, wTup, wLst, wCall, wAnd, wOr, wNot, wAndV, wOrV, wNotV, wIf, wYes, wLc, wiEnumX, oListX, oTuple, oSort, oSortSet, oAll, oAny, S.fz, S.own, D.flat, txts_map, bools_map, txtKeys_map, List.length_map, List.map_cons, List.map_nil, List.length_cons, List.length_nil, List.cons_append, List.nil_append, List.replicate, decide_eq_true_eq, Bool.not_eq_true', Bool.not_true, Bool.not_false, if_true, if_false, Nat.zero_add, Nat.reduceAdd, Nat.reduceSub, ge_iff_le, true_and, and_true, zip_unzip, Bool.false_xor, Bool.true_xor, Bool.false_eq_true, Bool.true_eq_false, reduceIte, wipeR, dataR_cons, dataR_nil, dataO_d, dataO_none, dataO_ol, dataO_od, oDict, oIsi, tyD, isiB, wSl, wPart, wNoP, oSl, wDisp1, wDGet2, oRemove, atI_0, atI_1, atI_2, wiRev, revItems, oDictP, wForK, wiKeys, kD, oSortX, oPow, oBitAnd, oShl, oNeg, wUn, oInt, oStr, oDivmod, oIs, isD, wChain, wFz, wFzE, frzR, wLSet, wiZip, seqsD, wiVals, wiItems, wOIx, wNo, Option.isSome_some, oMulX, wM1, oSplit, oPart, oStrip1, oRep, oSum, intsD, wRaise, wLI, wLK
, wiR3, wLR, wDisp, wPairs, oReverse, oClear, oInsert, wRevL, wDZ, seqLT, oSortIT, wOFld, wSFld, asOI, setOI, putG, wPar, wiItemsC, wiValsC, wIndexL]
      by_cases c1 : (ns.length : Int) > 0
      · rw [if_pos c1]
        obtain ⟨x, ex, _⟩ := atI_in (xs := ns) (i := 0) (by omega) (by omega)
        rw [ex, asA_some]
        refine ⟨by decide, ?_⟩
        split
        · have hM : (0 : Int) < ns.length := c1
          have hd : 0 ≤ k / (ns.length : Int) := Int.ediv_nonneg h2 (by omega)
          refine ⟨⟨by decide, by decide⟩, ⟨by omega, by omega⟩, ⟨by split <;> omega, by split <;> omega⟩, ?_⟩
          rw [rangeD_map]
          refine forD_map (I := fun _ _ ρ => ∃ c o, ρ = [some (.d (.cel ns)), some (.d (.int k)), some (.d (.int c)), o]) mono_name _ (fun done x ys ρ he hI => ?_) (fun ρ hI => ?_) _ ⟨b / 2, none, rfl⟩
          · obtain ⟨c, o, rfl⟩ := hI
            simp only [wSeq, wSet, wAsg, wC, wIfS, wB, wOp, oI, oI0, asI, asS, asL, asLT, asT, asB, asA_some, asA_none, asO, asOL, asOD, asKey, asDic, asSq, oLen, oMod, oAdd, oSub, oMul, oDiv, oMax, oMin, oPlus, oEqX, oNeX, eqX_int, eqX_str, eqX_bl, oCmp, oLtX, oLeX, oGtX, oGeX, oIxX, oInX, wCB, wCons, wNil, wVar, wMove, nth, put, startR, wNext, wRet, wRetN, wDrop, wFor, wiR1, wiR2, wiX, itemsOf, wgName, wgTup, wgCons, wgNil, wLend, wLendT, seeR_cons, seeR_nil, seeO_d, seeO_none, seeO_ol, seeO_od, wJoin, wM, oAppend, oPop, oPopAt, wDPut, wDPop, wSortK, wDict0, wTup, wLst, wCall, wAnd, wOr, wNot, wAndV, wOrV, wNotV, wIf, wYes, wLc, wiEnumX, oListX, oTuple, oSort, oSortSet, oAll, oAny, S.fz, S.own, D.flat, txts_map, bools_map, txtKeys_map, List.length_map, List.map_cons, List.map_nil, List.length_cons, List.length_nil, List.cons_append, List.nil_append, List.replicate, decide_eq_true_eq, Bool.not_eq_true', Bool.not_true, Bool.not_false, if_true, if_false, Nat.zero_add, Nat.reduceAdd, Nat.reduceSub, ge_iff_le, true_and, and_true, zip_unzip, Bool.false_xor, Bool.true_xor, Bool.false_eq_true, Bool.true_eq_false, reduceIte, wipeR, dataR_cons, dataR_nil, dataO_d, dataO_none, dataO_ol, dataO_od, oDict, oIsi, tyD, isiB, wSl, wPart, wNoP, oSl, wDisp1, wDGet2, oRemove, atI_0, atI_1, atI_2, wiRev, revItems, oDictP, wForK, wiKeys, kD, oSortX, oPow, oBitAnd, oShl, oNeg, wUn, oInt, oStr, oDivmod, oIs, isD, wChain, wFz, wFzE, frzR, wLSet, wiZip, seqsD, wiVals, wiItems, wOIx, wNo, Option.isSome_some, oMulX, wM1, oSplit, oPart, oStrip1, oRep, oSum, intsD, wRaise, wLI, wLK
, wiR3, wLR, wDisp, wPairs, oReverse, oClear, oInsert, wRevL, wDZ, seqLT, oSortIT, wOFld, wSFld, asOI, setOI, putG, wPar, wiItemsC, wiValsC, wIndexL]
            exact ⟨⟨by decide, by decide⟩, _, _, rfl⟩
          · obtain ⟨c, o, rfl⟩ := hI
            simp only [wSeq, wSet, wAsg, wC, wIfS, wB, wOp, oI, oI0, asI, asS, asL, asLT, asT, asB, asA_some, asA_none, asO, asOL, asOD, asKey, asDic, asSq, oLen, oMod, oAdd, oSub, oMul, oDiv, oMax, oMin, oPlus, oEqX, oNeX, eqX_int, eqX_str, eqX_bl, oCmp, oLtX, oLeX, oGtX, oGeX, oIxX, oInX, wCB, wCons, wNil, wVar, wMove, nth, put, startR, wNext, wRet, wRetN, wDrop, wFor, wiR1, wiR2, wiX, itemsOf, wgName, wgTup, wgCons, wgNil, wLend, wLendT, seeR_cons, seeR_nil, seeO_d, seeO_none, seeO_ol, seeO_od, wJoin, wM, oAppend, oPop, oPopAt, wDPut, wDPop, wSortK, wDict0, wTup, wLst, wCall, wAnd, wOr, wNot, wAndV, wOrV, wNotV, wIf, wYes, wLc, wiEnumX, oListX, oTuple, oSort, oSortSet, oAll, oAny, S.fz, S.own, D.flat, txts_map, bools_map, txtKeys_map, List.length_map, List.map_cons, List.map_nil, List.length_cons, List.length_nil, List.cons_append, List.nil_append, List.replicate, decide_eq_true_eq, Bool.not_eq_true', Bool.not_true, Bool.not_false, if_true, if_false, Nat.zero_add, Nat.reduceAdd, Nat.reduceSub, ge_iff_le, true_and, and_true, zip_unzip, Bool.false_xor, Bool.true_xor, Bool.false_eq_true, Bool.true_eq_false, reduceIte, wipeR, dataR_cons, dataR_nil, dataO_d, dataO_none, dataO_ol, dataO_od, oDict, oIsi, tyD, isiB, wSl, wPart, wNoP, oSl, wDisp1, wDGet2, oRemove, atI_0, atI_1, atI_2, wiRev, revItems, oDictP, wForK, wiKeys, kD, oSortX, oPow, oBitAnd, oShl, oNeg, wUn, oInt, oStr, oDivmod, oIs, isD, wChain, wFz, wFzE, frzR, wLSet, wiZip, seqsD, wiVals, wiItems, wOIx, wNo, Option.isSome_some, oMulX, wM1, oSplit, oPart, oStrip1, oRep, oSum, intsD, wRaise, wLI, wLK
, wiR3, wLR, wDisp, wPairs, oReverse, oClear, oInsert, wRevL, wDZ, seqLT, oSortIT, wOFld, wSFld, asOI, setOI, putG, wPar, wiItemsC, wiValsC, wIndexL]
            exact ⟨by decide, hq _ (Int.emod_nonneg _ (by decide)) (Int.lt_trans (Int.emod_lt_of_pos _ (show (0 : Int) < 4096 by decide)) (by decide))⟩
        · exact t3 b none
      · rw [if_neg c1]
        exact t3 b none
    unfold w_L_mixed_47c
    simp only [N_L_mixed_47c, w_L_mixed_47c_t1, wSeq, wSet, wAsg, wC, wIfS, wB, wOp, oI, oI0, asI, asS, asL, asLT, asT, asB, asA_some, asA_none, asO, asOL, asOD, asKey, asDic, asSq, oLen, oMod, oAdd, oSub, oMul, oDiv, oMax, oMin, oPlus, oEqX, oNeX, eqX_int, eqX_str, eqX_bl, oCmp, oLtX, oLeX, oGtX, oGeX, oIxX, oInX, wCB, wCons, wNil, wVar, wMove, nth, put, startR, wNext, wRet, wRetN, wDrop, wFor, wiR1, wiR2, wiX, itemsOf, wgName, wgTup, wgCons, wgNil, wLend, wLendT, seeR_cons, seeR_nil, seeO_d, seeO_none, seeO_ol, seeO_od, wJoin, wM, oAppend, oPop, oPopAt, wDPut, wDPop, wSortK, wDict0, wTup, wLst, wCall, wAnd, wOr, wNot, wAndV, wOrV, wNotV, wIf, wYes, wLc, wiEnumX, oListX, oTuple, oSort, oSortSet, oAll, oAny, S.fz, S.own, D.flat, txts_map, bools_map, txtKeys_map, List.length_map, List.map_cons, List.map_nil, List.length_cons, List.length_nil, List.cons_append, List.nil_append, List.replicate, decide_eq_true_eq, Bool.not_eq_true', Bool.not_true, Bool.not_false, if_true, if_false, Nat.zero_add, Nat.reduceAdd, Nat.reduceSub, ge_iff_le, true_and, and_true, zip_unzip, Bool.false_xor, Bool.true_xor, Bool.false_eq_true, Bool.true_eq_false, reduceIte, wipeR, dataR_cons, dataR_nil, dataO_d, dataO_none, dataO_ol, dataO_od, oDict, oIsi, tyD, isiB, wSl, wPart, wNoP, oSl, wDisp1, wDGet2, oRemove, atI_0, atI_1, atI_2, wiRev, revItems, oDictP, wForK, wiKeys, kD, oSortX, oPow, oBitAnd, oShl, oNeg, wUn, oInt, oStr, oDivmod, oIs, isD, wChain, wFz, wFzE, frzR, wLSet, wiZip, seqsD, wiVals, wiItems, wOIx, wNo, Option.isSome_some, oMulX, wM1, oSplit, oPart, oStrip1, oRep, oSum, intsD, wRaise, wLI, wLK
, wiR3, wLR, wDisp, wPairs, oReverse, oClear, oInsert, wRevL, wDZ, seqLT, oSortIT, wOFld, wSFld, asOI, setOI, putG, wPar, wiItemsC, wiValsC, wIndexL]
    split
    · obtain ⟨b, e, _⟩ := atI_in (xs := ns) (i := k % ns.length) (Int.emod_nonneg _ (by omega)) (Int.emod_lt_of_pos _ (by omega))
      rw [e]
      exact ⟨by omega, t2 b⟩
    · exact t2 0
  · exact h.elim
def LettersOk (g p : Str) : Prop := (Prd g ∧ ∀ c ∈ sg g, c ∈ [97, 98, 99]) ∧ Prd p ∧ ∀ c ∈ sg p, c ∈ [120, 121, 122]
def menuG : List Str := [Str.ofString "abc", Str.ofString "ab", Str.ofString "a", Str.ofString "", Str.ofString "bc", Str.ofString "c", Str.ofString "ac", Str.ofString "b"]
def menuP : List Str := [Str.ofString "xy", Str.ofString "xyz", Str.ofString "x", Str.ofString "", Str.ofString "yz", Str.ofString "z", Str.ofString "xz", Str.ofString "xy"]
theorem menuG_eq : [D.str (Str.ofString "abc"), D.str (Str.ofString "ab"), D.str (Str.ofString "a"), D.str (Str.ofString ""), D.str (Str.ofString "bc"), D.str (Str.ofString "c"), D.str (Str.ofString "ac"), D.str (Str.ofString "b")] = menuG.map D.str := rfl
theorem menuP_eq : [D.str (Str.ofString "xy"), D.str (Str.ofString "xyz"), D.str (Str.ofString "x"), D.str (Str.ofString ""), D.str (Str.ofString "yz"), D.str (Str.ofString "z"), D.str (Str.ofString "xz"), D.str (Str.ofString "xy")] = menuP.map D.str := rfl
theorem menuG_len : menuG.length = 8 := rfl
theorem menuP_len : menuP.length = 8 := rfl
theorem letters_g : ∀ s ∈ menuG, (sg s).Pairwise (· < ·) ∧ (∀ c ∈ sg s, c ∈ LET) ∧ ∀ c ∈ sg s, c ∈ [97, 98, 99] := by decide +kernel
theorem letters_p : ∀ s ∈ menuP, (sg s).Pairwise (· < ·) ∧ (∀ c ∈ sg s, c ∈ LET) ∧ ∀ c ∈ sg s, c ∈ [120, 121, 122] := by decide +kernel
theorem menu_atT {l : List Str} {i : Int} (h0 : 0 ≤ i) (h1 : i < l.length) : ∃ s ∈ l, atI (l.map D.str) i = some (.str s) := by
  obtain ⟨v, e, hv⟩ := atI_in h0 h1
  exact ⟨v, hv, by rw [atI_map, e]; rfl⟩
def sp_L_letters_2d2 : DSp := fun ds P _ => match ds with
  | [.cel ns] => ns.length ≤ 63 ∧ ∀ g p, LettersOk g p → P (.d (.tup [.str g, .str p]))
  | _ => False
abbrev N_L_letters_2d2 : List Str := ["_law_script", "_law_cell", "_law_givens"]
def w_L_letters_2d2_t2 : WS := (wRet (wTup (wCons (wVar 2) (wCons (wOp oIxX (wLst (wCons (wC (.str "xy")) (wCons (wC (.str "xyz")) (wCons (wC (.str "x")) (wCons (wC (.str "")) (wCons (wC (.str "yz")) (wCons (wC (.str "z")) (wCons (wC (.str "xz")) (wCons (wC (.str "xy")) wNil))))))))) (wOp oMod (wOp oDiv (wVar 1) (wC (.int 8))) (wC (.int 8)))) wNil))))
def w_L_letters_2d2_t1 : WS := wSeq (wAsg (wOp oIxX (wLst (wCons (wC (.str "abc")) (wCons (wC (.str "ab")) (wCons (wC (.str "a")) (wCons (wC (.str "")) (wCons (wC (.str "bc")) (wCons (wC (.str "c")) (wCons (wC (.str "ac")) (wCons (wC (.str "b")) wNil))))))))) (wOp oMod (wVar 1) (wC (.int 8)))) (wgName 2))
    w_L_letters_2d2_t2
def w_L_letters_2d2 : WS := wSeq (wAsg (wCall sp_L_mixed_47c (fun _ _ => False) (wCons (wVar 0) (wCons (wC (.int 0)) wNil))) (wgName 1))
    w_L_letters_2d2_t1
theorem len_L_letters_2d2 {ds Q px} (h : sp_L_letters_2d2 ds Q px) : ds.length = 1 := by unfold sp_L_letters_2d2 at h; split at h <;> first | rfl | exact h.elim
theorem rd_L_letters_2d2 {ds Q px} (h : sp_L_letters_2d2 ds Q px) : w_L_letters_2d2 ⟨fun _ => Q (.d .non), Q, fun _ => False, fun _ => False⟩ (startR N_L_letters_2d2 ds) := by
  unfold sp_L_letters_2d2 at h
  split at h
  · rename_i ns
    obtain ⟨hl, hq⟩ := h
    have t2 : ∀ (g : Str) (z : Int), (Prd g ∧ ∀ c ∈ sg g, c ∈ [97, 98, 99]) → w_L_letters_2d2_t2 ⟨fun _ => Q (.d .non), Q, fun _ => False, fun _ => False⟩ [some (.d (.cel ns)), some (.d (.int z)), some (.d (.str g))] := fun g z hg => by
      simp only [w_L_letters_2d2_t2, wSeq, wSet, wAsg, wC, wIfS, wB, wOp, oI, oI0, asI, asS, asL, asLT, asT, asB, asA_some, asA_none, asO, asOL, asOD, asKey, asDic, asSq, oLen, oMod, oAdd, oSub, oMul, oDiv, oMax, oMin, oPlus, oEqX, oNeX, eqX_int, eqX_str, eqX_bl, oCmp, oLtX, oLeX, oGtX, oGeX, oIxX, oInX, wCB, wCons, wNil, wVar, wMove, nth, put, startR, wNext, wRet, wRetN, wDrop, wFor, wiR1, wiR2, wiX, itemsOf, wgName, wgTup, wgCons, wgNil, wLend, wLendT, seeR_cons, seeR_nil, seeO_d, seeO_none, seeO_ol, seeO_od, wJoin, wM, oAppend, oPop, oPopAt, wDPut, wDPop, wSortK, wDict0, wTup, wLst, wCall, wAnd, wOr, wNot, wAndV, wOrV, wNotV, wIf, wYes, wLc, wiEnumX, oListX, oTuple, oSort, oSortSet, oAll, oAny, S.fz, S.own, D.flat, txts_map, bools_map, txtKeys_map, List.length_map, List.map_cons, List.map_nil, List.length_cons, List.length_nil, List.cons_append, List.nil_append, List.replicate, decide_eq_true_eq, Bool.not_eq_true', Bool.not_true, Bool.not_false, if_true, if_false, Nat.zero_add, Nat.reduceAdd, Nat.reduceSub, ge_iff_le, true_and, and_true, zip_unzip, Bool.false_xor, Bool.true_xor, Bool.false_eq_true, Bool.true_eq_false, reduceIte, wipeR, dataR_cons, dataR_nil, dataO_d, dataO_none, dataO_ol, dataO_od, oDict, oIsi, tyD, isiB, wSl, wPart, wNoP, oSl, wDisp1, wDGet2, oRemove, atI_0, atI_1, atI_2, wiRev, revItems, oDictP, wForK, wiKeys, kD, oSortX, oPow, oBitAnd, oShl, oNeg, wUn, oInt, oStr, oDivmod, oIs, isD, wChain, wFz, wFzE, frzR, wLSet, wiZip, seqsD, wiVals, wiItems, wOIx, wNo, Option.isSome_some, oMulX, wM1, oSplit, oPart, oStrip1, oRep, oSum, intsD, wRaise, wLI, wLK
, wiR3, wLR, wDisp, wPairs, oReverse, oClear, oInsert, wRevL, wDZ, seqLT, oSortIT, wOFld, wSFld, asOI, setOI, putG, wPar, wiItemsC, wiValsC, wIndexL]
      rw [menuP_eq]
      obtain ⟨p, hp, ep⟩ := menu_atT (l := menuP) (i := z / 8 % 8) (Int.emod_nonneg _ (by decide)) (by rw [menuP_len]; exact Int.emod_lt_of_pos _ (by decide))
      rw [ep, asA_some]
      obtain ⟨p1, p2, p3⟩ := letters_p p hp
      exact ⟨by decide, ⟨by decide, by decide⟩, by decide, by decide, hq g p ⟨hg, ⟨p1, p2⟩, p3⟩⟩
    have t1 : ∀ (z : Int), w_L_letters_2d2_t1 ⟨fun _ => Q (.d .non), Q, fun _ => False, fun _ => False⟩ [some (.d (.cel ns)), some (.d (.int z)), none] := fun z => by
      simp only [w_L_letters_2d2_t1, wSeq, wSet, wAsg, wC, wIfS, wB, wOp, oI, oI0, asI, asS, asL, asLT, asT, asB, asA_some, asA_none, asO, asOL, asOD, asKey, asDic, asSq, oLen, oMod, oAdd, oSub, oMul, oDiv, oMax, oMin, oPlus, oEqX, oNeX, eqX_int, eqX_str, eqX_bl, oCmp, oLtX, oLeX, oGtX, oGeX, oIxX, oInX, wCB, wCons, wNil, wVar, wMove, nth, put, startR, wNext, wRet, wRetN, wDrop, wFor, wiR1, wiR2, wiX, itemsOf, wgName, wgTup, wgCons, wgNil, wLend, wLendT, seeR_cons, seeR_nil, seeO_d, seeO_none, seeO_ol, seeO_od, wJoin, wM, oAppend, oPop, oPopAt, wDPut, wDPop, wSortK, wDict0, wTup, wLst, wCall, wAnd, wOr, wNot, wAndV, wOrV, wNotV, wIf, wYes, wLc, wiEnumX, oListX, oTuple, oSort, oSortSet, oAll, oAny, S.fz, S.own, D.flat, txts_map, bools_map, txtKeys_map, List.length_map, List.map_cons, List.map_nil, List.length_cons, List.length_nil, List.cons_append, List.nil_append, List.replicate, decide_eq_true_eq, Bool.not_eq_true', Bool.not_true, Bool.not_false, if_true, if_false, Nat.zero_add, Nat.reduceAdd, Nat.reduceSub, ge_iff_le, true_and, and_true, zip_unzip, Bool.false_xor, Bool.true_xor, Bool.false_eq_true, Bool.true_eq_false, reduceIte, wipeR, dataR_cons, dataR_nil, dataO_d, dataO_none, dataO_ol, dataO_od, oDict, oIsi, tyD, isiB, wSl, wPart, wNoP, oSl, wDisp1, wDGet2, oRemove, atI_0, atI_1, atI_2, wiRev, revItems, oDictP, wForK, wiKeys, kD, oSortX, oPow, oBitAnd, oShl, oNeg, wUn, oInt, oStr, oDivmod, oIs, isD, wChain, wFz, wFzE, frzR, wLSet, wiZip, seqsD, wiVals, wiItems, wOIx, wNo, Option.isSome_some, oMulX, wM1, oSplit, oPart, oStrip1, oRep, oSum, intsD, wRaise, wLI, wLK
, wiR3, wLR, wDisp, wPairs, oReverse, oClear, oInsert, wRevL, wDZ, seqLT, oSortIT, wOFld, wSFld, asOI, setOI, putG, wPar, wiItemsC, wiValsC, wIndexL]
      rw [menuG_eq]
      obtain ⟨g, hg, eg⟩ := menu_atT (l := menuG) (i := z % 8) (Int.emod_nonneg _ (by decide)) (by rw [menuG_len]; exact Int.emod_lt_of_pos _ (by decide))
      rw [eg, asA_some]
      obtain ⟨g1, g2, g3⟩ := letters_g g hg
      exact ⟨by decide, by decide, t2 g z ⟨⟨g1, g2⟩, g3⟩⟩
    unfold w_L_letters_2d2
    simp only [N_L_letters_2d2, wSeq, wSet, wAsg, wC, wIfS, wB, wOp, oI, oI0, asI, asS, asL, asLT, asT, asB, asA_some, asA_none, asO, asOL, asOD, asKey, asDic, asSq, oLen, oMod, oAdd, oSub, oMul, oDiv, oMax, oMin, oPlus, oEqX, oNeX, eqX_int, eqX_str, eqX_bl, oCmp, oLtX, oLeX, oGtX, oGeX, oIxX, oInX, wCB, wCons, wNil, wVar, wMove, nth, put, startR, wNext, wRet, wRetN, wDrop, wFor, wiR1, wiR2, wiX, itemsOf, wgName, wgTup, wgCons, wgNil, wLend, wLendT, seeR_cons, seeR_nil, seeO_d, seeO_none, seeO_ol, seeO_od, wJoin, wM, oAppend, oPop, oPopAt, wDPut, wDPop, wSortK, wDict0, wTup, wLst, wCall, wAnd, wOr, wNot, wAndV, wOrV, wNotV, wIf, wYes, wLc, wiEnumX, oListX, oTuple, oSort, oSortSet, oAll, oAny, S.fz, S.own, D.flat, txts_map, bools_map, txtKeys_map, List.length_map, List.map_cons, List.map_nil, List.length_cons, List.length_nil, List.cons_append, List.nil_append, List.replicate, decide_eq_true_eq, Bool.not_eq_true', Bool.not_true, Bool.not_false, if_true, if_false, Nat.zero_add, Nat.reduceAdd, Nat.reduceSub, ge_iff_le, true_and, and_true, zip_unzip, Bool.false_xor, Bool.true_xor, Bool.false_eq_true, Bool.true_eq_false, reduceIte, wipeR, dataR_cons, dataR_nil, dataO_d, dataO_none, dataO_ol, dataO_od, oDict, oIsi, tyD, isiB, wSl, wPart, wNoP, oSl, wDisp1, wDGet2, oRemove, atI_0, atI_1, atI_2, wiRev, revItems, oDictP, wForK, wiKeys, kD, oSortX, oPow, oBitAnd, oShl, oNeg, wUn, oInt, oStr, oDivmod, oIs, isD, wChain, wFz, wFzE, frzR, wLSet, wiZip, seqsD, wiVals, wiItems, wOIx, wNo, Option.isSome_some, oMulX, wM1, oSplit, oPart, oStrip1, oRep, oSum, intsD, wRaise, wLI, wLK
, wiR3, wLR, wDisp, wPairs, oReverse, oClear, oInsert, wRevL, wDZ, seqLT, oSortIT, wOFld, wSFld, asOI, setOI, putG, wPar, wiItemsC, wiValsC, wIndexL, sp_L_mixed_47c]
    exact ⟨⟨hl, by decide, by decide⟩, fun z z0 _ => t1 z⟩
  · exact h.elim
def sp_L_leaf_2f7 : DSp := fun ds P _ => match ds with
  | [.int k, .str s] => Prd s ∧ ∀ t : Tree, t.wt = 1 → t.gd s → P (.d t.tp2)
  | _ => False
abbrev N_L_leaf_2f7 : List Str := ["_law_cell", "_law_letters_here"]
def w_L_leaf_2f7_t2 : WS := (wRet (wTup (wCons (wC (.str "letter")) (wCons (wOp oIxX (wVar 1) (wOp oMod (wOp oDiv (wVar 0) (wC (.int 9))) (wCB oLen (wCons (wVar 1) wNil)))) wNil))))
def w_L_leaf_2f7_t1 : WS := wSeq (wIfS (wOr (wB (wOp oEqX (wOp oMod (wVar 0) (wC (.int 9))) (wC (.int 7)))) (wB (wOp oEqX (wVar 1) (wC (.str ""))))) (wRet (wTup (wCons (wC (.str "never")) wNil))) wNext)
    w_L_leaf_2f7_t2
def w_L_leaf_2f7 : WS := wSeq (wIfS (wB (wOp oEqX (wOp oMod (wVar 0) (wC (.int 9))) (wC (.int 4)))) (wRet (wTup (wCons (wC (.str "always")) wNil))) wNext)
    w_L_leaf_2f7_t1
theorem len_L_leaf_2f7 {ds Q px} (h : sp_L_leaf_2f7 ds Q px) : ds.length = 2 := by unfold sp_L_leaf_2f7 at h; split at h <;> first | rfl | exact h.elim
theorem rd_L_leaf_2f7 {ds Q px} (h : sp_L_leaf_2f7 ds Q px) : w_L_leaf_2f7 ⟨fun _ => Q (.d .non), Q, fun _ => False, fun _ => False⟩ (startR N_L_leaf_2f7 ds) := by
  unfold sp_L_leaf_2f7 at h
  split at h
  · rename_i k s
    obtain ⟨hs, hq⟩ := h
    have l9 := hs.len
    unfold w_L_leaf_2f7
    simp only [N_L_leaf_2f7, w_L_leaf_2f7_t1, w_L_leaf_2f7_t2, wSeq, wSet, wAsg, wC, wIfS, wB, wOp, oI, oI0, asI, asS, asL, asLT, asT, asB, asA_some, asA_none, asO, asOL, asOD, asKey, asDic, asSq, oLen, oMod, oAdd, oSub, oMul, oDiv, oMax, oMin, oPlus, oEqX, oNeX, eqX_int, eqX_str, eqX_bl, oCmp, oLtX, oLeX, oGtX, oGeX, oIxX, oInX, wCB, wCons, wNil, wVar, wMove, nth, put, startR, wNext, wRet, wRetN, wDrop, wFor, wiR1, wiR2, wiX, itemsOf, wgName, wgTup, wgCons, wgNil, wLend, wLendT, seeR_cons, seeR_nil, seeO_d, seeO_none, seeO_ol, seeO_od, wJoin, wM, oAppend, oPop, oPopAt, wDPut, wDPop, wSortK, wDict0, wTup, wLst, wCall, wAnd, wOr, wNot, wAndV, wOrV, wNotV, wIf, wYes, wLc, wiEnumX, oListX, oTuple, oSort, oSortSet, oAll, oAny, S.fz, S.own, D.flat, txts_map, bools_map, txtKeys_map, List.length_map, List.map_cons, List.map_nil, List.length_cons, List.length_nil, List.cons_append, List.nil_append, List.replicate, decide_eq_true_eq, Bool.not_eq_true', Bool.not_true, Bool.not_false, if_true, if_false, Nat.zero_add, Nat.reduceAdd, Nat.reduceSub, ge_iff_le, true_and, and_true, zip_unzip, Bool.false_xor, Bool.true_xor, Bool.false_eq_true, Bool.true_eq_false, reduceIte, wipeR, dataR_cons, dataR_nil, dataO_d, dataO_none, dataO_ol, dataO_od, oDict, oIsi, tyD, isiB, wSl, wPart, wNoP, oSl, wDisp1, wDGet2, oRemove, atI_0, atI_1, atI_2, wiRev, revItems, oDictP, wForK, wiKeys, kD, oSortX, oPow, oBitAnd, oShl, oNeg, wUn, oInt, oStr, oDivmod, oIs, isD, wChain, wFz, wFzE, frzR, wLSet, wiZip, seqsD, wiVals, wiItems, wOIx, wNo, Option.isSome_some, oMulX, wM1, oSplit, oPart, oStrip1, oRep, oSum, intsD, wRaise, wLI, wLK
, wiR3, wLR, wDisp, wPairs, oReverse, oClear, oInsert, wRevL, wDZ, seqLT, oSortIT, wOFld, wSFld, asOI, setOI, putG, wPar, wiItemsC, wiValsC, wIndexL]
    refine ⟨by decide, ?_⟩
    split
    · exact ⟨by decide, hq .one rfl ⟨trivial, fun _ z => nomatch z⟩⟩
    · refine ⟨by decide, ?_⟩
      split
      · exact ⟨by decide, hq .zero rfl ⟨trivial, fun _ z => nomatch z⟩⟩
      · split
        · exact ⟨by decide, hq .zero rfl ⟨trivial, fun _ z => nomatch z⟩⟩
        · rename_i hne
          have hpos : (0 : Int) < s.length := by
            have : sg s ≠ [] := fun e => hne (sg_inj (by rw [e]; decide +kernel))
            rw [sg_len]
            have := List.length_pos_iff.mpr this
            omega
          refine ⟨⟨by decide, by decide⟩, by rw [sg_len, len0]; omega, hpos, by rw [sg_len, len0]; omega, ?_⟩
          have hpos2 : (0 : Int) < (sg s).length := by rw [← sg_len]; exact hpos
          obtain ⟨c, ec, hc⟩ := atI_in (xs := s.cps.toList) (i := k / 9 % (s.length : Int)) (Int.emod_nonneg _ (by omega)) (by
            have := Int.emod_lt_of_pos (k / 9) hpos
            rw [show ((s.cps.toList.length : Nat) : Int) = (s.length : Int) by rw [sg_len]; rfl]
            exact this)
          rw [ec, asA_some]
          exact ⟨by decide, hq (.let c) rfl ⟨hs.le c hc, fun d hd => by rw [Tree.cs, List.mem_singleton] at hd; subst hd; exact hc⟩⟩
  · exact h.elim
theorem gd_no {s : Str} {t : Tree} (h : t.gd s) : (Tree.no t).gd s := h
theorem stkT (ts : List Tree) : ts.length ≤ stk ts := stk_len ts
theorem at_last {α : Type} (l : List α) (x : α) : atI (l ++ [x]) (-1) = some x := by
  unfold atI ixN
  rw [if_neg (by decide), if_pos (by rw [List.length_append, List.length_singleton]; omega)]
  have : ((-1 : Int) + ((l ++ [x]).length : Nat)).toNat = l.length := by rw [List.length_append, List.length_singleton]; omega
  show (l ++ [x])[((-1 : Int) + ((l ++ [x]).length : Nat)).toNat]? = some x
  rw [this]; simp
theorem ix_last {n : Nat} (h : 0 < n) : ixN n (-1) = some (n - 1) := by
  unfold ixN
  rw [if_neg (by decide), if_pos (by omega)]
  congr 1
  omega
theorem set_last {α : Type} (l : List α) (x y : α) : (l ++ [x]).set ((l ++ [x]).length - 1) y = l ++ [y] := by
  rw [List.length_append, List.length_singleton, Nat.add_sub_cancel, List.set_append_right _ _ (Nat.le_refl _), Nat.sub_self]; rfl
def sp_L_tree_21f : DSp := fun ds P _ => match ds with
  | [.cel ns, .int a, .int m, .str s] => (ns.length ≤ 63 ∧ 0 ≤ a ∧ a ≤ 1000 ∧ 1 ≤ m ∧ m ≤ 24 ∧ Prd s) ∧ ∀ t : Tree, t.wt ≤ m.toNat → t.gd s → P (.d t.tp2)
  | _ => False
abbrev N_L_tree_21f : List Str := ["_law_script", "_law_at", "_law_many", "_law_letters_here", "_law_stack", "_law_k", "_law_cell", "_law_other"]
def w_L_tree_21f_b1_t1 : WS := (wIfS (wOr (wB (wOp oLtX (wOp oMod (wVar 6) (wC (.int 8))) (wC (.int 3)))) (wLendT (wB (wOp oEqX (wCB oLen (wCons (wVar 4) wNil)) (wC (.int 0)))))) (wDrop (wM 4 oAppend (wCons (wCall sp_L_leaf_2f7 (fun _ _ => False) (wCons (wOp oDiv (wVar 6) (wC (.int 8))) (wCons (wVar 3) wNil))) wNil))) (wIfS (wB (wOp oEqX (wOp oMod (wVar 6) (wC (.int 8))) (wC (.int 3)))) (wLSet 4 (wUn oNeg (wC (.int 1))) (wTup (wCons (wC (.str "not")) (wCons (wOIx 4 (wUn oNeg (wC (.int 1)))) wNil)))) (wIfS (wLendT (wB (wOp oGtX (wCB oLen (wCons (wVar 4) wNil)) (wC (.int 1))))) (wSeq (wAsg (wM 4 oPop wNil) (wgName 7))
    (wLSet 4 (wUn oNeg (wC (.int 1))) (wTup (wCons (wOp oIxX (wLst (wCons (wC (.str "and")) (wCons (wC (.str "or")) (wCons (wC (.str "either")) (wCons (wC (.str "and")) wNil))))) (wOp oSub (wOp oMod (wVar 6) (wC (.int 8))) (wC (.int 4)))) (wCons (wOIx 4 (wUn oNeg (wC (.int 1)))) (wCons (wVar 7) wNil)))))) wNext)))
def w_L_tree_21f_b1 : WS := wSeq (wAsg (wCall sp_L_mixed_47c (fun _ _ => False) (wCons (wVar 0) (wCons (wOp oPlus (wVar 1) (wVar 5)) wNil))) (wgName 6))
    w_L_tree_21f_b1_t1
def w_L_tree_21f_b2_t1 : WS := (wLSet 4 (wUn oNeg (wC (.int 1))) (wTup (wCons (wOp oIxX (wLst (wCons (wC (.str "either")) (wCons (wC (.str "and")) (wCons (wC (.str "or")) wNil)))) (wOp oMod (wLend (wCB oLen (wCons (wVar 4) wNil))) (wC (.int 3)))) (wCons (wOIx 4 (wUn oNeg (wC (.int 1)))) (wCons (wVar 7) wNil)))))
def w_L_tree_21f_b2 : WS := wSeq (wAsg (wM 4 oPop wNil) (wgName 7))
    w_L_tree_21f_b2_t1
def w_L_tree_21f_t3 : WS := (wRet (wOIx 4 (wC (.int 0))))
def w_L_tree_21f_t2 : WS := wSeq (wWhile (wLendT (wB (wOp oGtX (wCB oLen (wCons (wVar 4) wNil)) (wC (.int 1))))) w_L_tree_21f_b2)
    w_L_tree_21f_t3
def w_L_tree_21f_t1 : WS := wSeq (wFor (wiR1 (wCons (wVar 2) wNil)) (wgName 5)
      w_L_tree_21f_b1)
    w_L_tree_21f_t2
def w_L_tree_21f : WS := wSeq (wSet 4 (wLst wNil))
    w_L_tree_21f_t1
theorem len_L_tree_21f {ds Q px} (h : sp_L_tree_21f ds Q px) : ds.length = 4 := by unfold sp_L_tree_21f at h; split at h <;> first | rfl | exact h.elim
theorem rd_L_tree_21f {ds Q px} (h : sp_L_tree_21f ds Q px) : w_L_tree_21f ⟨fun _ => Q (.d .non), Q, fun _ => False, fun _ => False⟩ (startR N_L_tree_21f ds) := by
  unfold sp_L_tree_21f at h
  split at h
  · rename_i ns a m s
    obtain ⟨⟨hl, a0, a1, m0, m1, hs⟩, hq⟩ := h
    obtain ⟨M, rfl, hM, hM1⟩ : ∃ M : Nat, m = M ∧ M ≤ 24 ∧ 1 ≤ M := ⟨m.toNat, by omega, by omega, by omega⟩
    rw [Int.toNat_natCast] at hq
    unfold w_L_tree_21f
    simp only [N_L_tree_21f, w_L_tree_21f_t1, wSeq, wSet, wAsg, wC, wIfS, wB, wOp, oI, oI0, asI, asS, asL, asLT, asT, asB, asA_some, asA_none, asO, asOL, asOD, asKey, asDic, asSq, oLen, oMod, oAdd, oSub, oMul, oDiv, oMax, oMin, oPlus, oEqX, oNeX, eqX_int, eqX_str, eqX_bl, oCmp, oLtX, oLeX, oGtX, oGeX, oIxX, oInX, wCB, wCons, wNil, wVar, wMove, nth, put, startR, wNext, wRet, wRetN, wDrop, wFor, wiR1, wiR2, wiX, itemsOf, wgName, wgTup, wgCons, wgNil, wLend, wLendT, seeR_cons, seeR_nil, seeO_d, seeO_none, seeO_ol, seeO_od, wJoin, wM, oAppend, oPop, oPopAt, wDPut, wDPop, wSortK, wDict0, wTup, wLst, wCall, wAnd, wOr, wNot, wAndV, wOrV, wNotV, wIf, wYes, wLc, wiEnumX, oListX, oTuple, oSort, oSortSet, oAll, oAny, S.fz, S.own, D.flat, txts_map, bools_map, txtKeys_map, List.length_map, List.map_cons, List.map_nil, List.length_cons, List.length_nil, List.cons_append, List.nil_append, List.replicate, decide_eq_true_eq, Bool.not_eq_true', Bool.not_true, Bool.not_false, if_true, if_false, Nat.zero_add, Nat.reduceAdd, Nat.reduceSub, ge_iff_le, true_and, and_true, zip_unzip, Bool.false_xor, Bool.true_xor, Bool.false_eq_true, Bool.true_eq_false, reduceIte, wipeR, dataR_cons, dataR_nil, dataO_d, dataO_none, dataO_ol, dataO_od, oDict, oIsi, tyD, isiB, wSl, wPart, wNoP, oSl, wDisp1, wDGet2, oRemove, atI_0, atI_1, atI_2, wiRev, revItems, oDictP, wForK, wiKeys, kD, oSortX, oPow, oBitAnd, oShl, oNeg, wUn, oInt, oStr, oDivmod, oIs, isD, wChain, wFz, wFzE, frzR, wLSet, wiZip, seqsD, wiVals, wiItems, wOIx, wNo, Option.isSome_some, oMulX, wM1, oSplit, oPart, oStrip1, oRep, oSum, intsD, wRaise, wLI, wLK
, wiR3, wLR, wDisp, wPairs, oReverse, oClear, oInsert, wRevL, wDZ, seqLT, oSortIT, wOFld, wSFld, asOI, setOI, putG, wPar, wiItemsC, wiValsC, wIndexL]
    rw [rangeD_map, Int.toNat_natCast]
    refine ⟨by decide, ⟨by omega, by omega⟩, ?_⟩
    refine forD_map (I := fun done _ ρ => ∃ (ts : List Tree) (o5 o6 o7 : Option S), ((done ≠ [] → 1 ≤ ts.length) ∧ stk ts ≤ done.length ∧ ∀ t ∈ ts, t.gd s) ∧ ρ = [some (.d (.cel ns)), some (.d (.int a)), some (.d (.int M)), some (.d (.str s)), some (.ol (ts.map Tree.tp2)), o5, o6, o7]) mono_name (List.range M) (fun done j ys ρ he hI => ?_) (fun ρ hI => ?_) _ ⟨[], none, none, none, ⟨fun z => absurd rfl z, Nat.le_refl _, fun _ z => nomatch z⟩, rfl⟩
    · obtain ⟨ts, o5, o6, o7, ⟨g1, g2, g3⟩, rfl⟩ := hI
      have hj : j < M := List.mem_range.mp (by rw [he]; simp)
      have hdl : done.length < M := by
        have := congrArg List.length he
        rw [List.length_append, List.length_cons, List.length_range] at this
        omega
      have hsl := stkT ts
      have fin : ∀ (ts' : List Tree) (y : Int) (o7 : Option S), 1 ≤ ts'.length → stk ts' ≤ stk ts + 1 → (∀ t ∈ ts', t.gd s) → ∀ xs : List D, xs = ts'.map Tree.tp2 → ∃ (ts2 : List Tree) (p5 p6 p7 : Option S), ((done ++ [j] ≠ [] → 1 ≤ ts2.length) ∧ stk ts2 ≤ (done ++ [j]).length ∧ ∀ t ∈ ts2, t.gd s) ∧ [some (S.d (.cel ns)), some (S.d (.int a)), some (S.d (.int (M : Int))), some (S.d (.str s)), some (S.ol xs), some (S.d (.int (j : Int))), some (S.d (.int y)), o7] = [some (S.d (.cel ns)), some (S.d (.int a)), some (S.d (.int (M : Int))), some (S.d (.str s)), some (S.ol (ts2.map Tree.tp2)), p5, p6, p7] := fun ts' y o7 b1 b2 b3 xs e => by
        subst e
        exact ⟨ts', _, _, _, ⟨fun _ => b1, by rw [List.length_append, List.length_singleton]; omega, b3⟩, rfl⟩
      simp only [w_L_tree_21f_b1, wSeq, wSet, wAsg, wC, wIfS, wB, wOp, oI, oI0, asI, asS, asL, asLT, asT, asB, asA_some, asA_none, asO, asOL, asOD, asKey, asDic, asSq, oLen, oMod, oAdd, oSub, oMul, oDiv, oMax, oMin, oPlus, oEqX, oNeX, eqX_int, eqX_str, eqX_bl, oCmp, oLtX, oLeX, oGtX, oGeX, oIxX, oInX, wCB, wCons, wNil, wVar, wMove, nth, put, startR, wNext, wRet, wRetN, wDrop, wFor, wiR1, wiR2, wiX, itemsOf, wgName, wgTup, wgCons, wgNil, wLend, wLendT, seeR_cons, seeR_nil, seeO_d, seeO_none, seeO_ol, seeO_od, wJoin, wM, oAppend, oPop, oPopAt, wDPut, wDPop, wSortK, wDict0, wTup, wLst, wCall, wAnd, wOr, wNot, wAndV, wOrV, wNotV, wIf, wYes, wLc, wiEnumX, oListX, oTuple, oSort, oSortSet, oAll, oAny, S.fz, S.own, D.flat, txts_map, bools_map, txtKeys_map, List.length_map, List.map_cons, List.map_nil, List.length_cons, List.length_nil, List.cons_append, List.nil_append, List.replicate, decide_eq_true_eq, Bool.not_eq_true', Bool.not_true, Bool.not_false, if_true, if_false, Nat.zero_add, Nat.reduceAdd, Nat.reduceSub, ge_iff_le, true_and, and_true, zip_unzip, Bool.false_xor, Bool.true_xor, Bool.false_eq_true, Bool.true_eq_false, reduceIte, wipeR, dataR_cons, dataR_nil, dataO_d, dataO_none, dataO_ol, dataO_od, oDict, oIsi, tyD, isiB, wSl, wPart, wNoP, oSl, wDisp1, wDGet2, oRemove, atI_0, atI_1, atI_2, wiRev, revItems, oDictP, wForK, wiKeys, kD, oSortX, oPow, oBitAnd, oShl, oNeg, wUn, oInt, oStr, oDivmod, oIs, isD, wChain, wFz, wFzE, frzR, wLSet, wiZip, seqsD, wiVals, wiItems, wOIx, wNo, Option.isSome_some, oMulX, wM1, oSplit, oPart, oStrip1, oRep, oSum, intsD, wRaise, wLI, wLK
, wiR3, wLR, wDisp, wPairs, oReverse, oClear, oInsert, wRevL, wDZ, seqLT, oSortIT, wOFld, wSFld, asOI, setOI, putG, wPar, wiItemsC, wiValsC, wIndexL, sp_L_mixed_47c]
      refine ⟨⟨hl, by omega, by omega⟩, fun y y0 _ => ?_⟩
      simp only [w_L_tree_21f_b1_t1, wSeq, wSet, wAsg, wC, wIfS, wB, wOp, oI, oI0, asI, asS, asL, asLT, asT, asB, asA_some, asA_none, asO, asOL, asOD, asKey, asDic, asSq, oLen, oMod, oAdd, oSub, oMul, oDiv, oMax, oMin, oPlus, oEqX, oNeX, eqX_int, eqX_str, eqX_bl, oCmp, oLtX, oLeX, oGtX, oGeX, oIxX, oInX, wCB, wCons, wNil, wVar, wMove, nth, put, startR, wNext, wRet, wRetN, wDrop, wFor, wiR1, wiR2, wiX, itemsOf, wgName, wgTup, wgCons, wgNil, wLend, wLendT, seeR_cons, seeR_nil, seeO_d, seeO_none, seeO_ol, seeO_od, wJoin, wM, oAppend, oPop, oPopAt, wDPut, wDPop, wSortK, wDict0, wTup, wLst, wCall, wAnd, wOr, wNot, wAndV, wOrV, wNotV, wIf, wYes, wLc, wiEnumX, oListX, oTuple, oSort, oSortSet, oAll, oAny, S.fz, S.own, D.flat, txts_map, bools_map, txtKeys_map, List.length_map, List.map_cons, List.map_nil, List.length_cons, List.length_nil, List.cons_append, List.nil_append, List.replicate, decide_eq_true_eq, Bool.not_eq_true', Bool.not_true, Bool.not_false, if_true, if_false, Nat.zero_add, Nat.reduceAdd, Nat.reduceSub, ge_iff_le, true_and, and_true, zip_unzip, Bool.false_xor, Bool.true_xor, Bool.false_eq_true, Bool.true_eq_false, reduceIte, wipeR, dataR_cons, dataR_nil, dataO_d, dataO_none, dataO_ol, dataO_od, oDict, oIsi, tyD, isiB, wSl, wPart, wNoP, oSl, wDisp1, wDGet2, oRemove, atI_0, atI_1, atI_2, wiRev, revItems, oDictP, wForK, wiKeys, kD, oSortX, oPow, oBitAnd, oShl, oNeg, wUn, oInt, oStr, oDivmod, oIs, isD, wChain, wFz, wFzE, frzR, wLSet, wiZip, seqsD, wiVals, wiItems, wOIx, wNo, Option.isSome_some, oMulX, wM1, oSplit, oPart, oStrip1, oRep, oSum, intsD, wRaise, wLI, wLK
, wiR3, wLR, wDisp, wPairs, oReverse, oClear, oInsert, wRevL, wDZ, seqLT, oSortIT, wOFld, wSFld, asOI, setOI, putG, wPar, wiItemsC, wiValsC, wIndexL, sp_L_leaf_2f7]
      have q0 := Int.emod_nonneg y (show (8 : Int) ≠ 0 by decide)
      have q1 := Int.emod_lt_of_pos y (show (0 : Int) < 8 by decide)
      have pushL : ∀ t : Tree, t.wt = 1 → t.gd s → ts.length < sizeLine ∧ ∃ (ts2 : List Tree) (p5 p6 p7 : Option S), ((done ++ [j] ≠ [] → 1 ≤ ts2.length) ∧ stk ts2 ≤ (done ++ [j]).length ∧ ∀ t ∈ ts2, t.gd s) ∧ [some (S.d (.cel ns)), some (S.d (.int a)), some (S.d (.int (M : Int))), some (S.d (.str s)), some (S.ol (ts.map Tree.tp2 ++ [t.tp2])), some (S.d (.int (j : Int))), some (S.d (.int y)), o7] = [some (S.d (.cel ns)), some (S.d (.int a)), some (S.d (.int (M : Int))), some (S.d (.str s)), some (S.ol (ts2.map Tree.tp2)), p5, p6, p7] := fun t h1 h2 =>
        ⟨by rw [len0]; omega, fin (ts ++ [t]) y o7 (by simp) (by rw [stk_app, stk_one, h1]; omega) (fun x hx => (List.mem_append.mp hx).elim (g3 x) fun z => by rw [List.mem_singleton] at z; subst z; exact h2) _ (by simp)⟩
      refine ⟨by decide, ?_⟩
      by_cases c1 : y % 8 < 3
      · rw [if_pos c1]
        exact ⟨⟨by decide, by decide⟩, hs, pushL⟩
      rw [if_neg c1]
      by_cases c2 : (ts.length : Int) = 0
      · rw [if_pos c2]
        exact ⟨⟨by decide, by decide⟩, hs, pushL⟩
      rw [if_neg c2]
      refine ⟨by decide, ?_⟩
      obtain ⟨l, u, rfl⟩ := split_last (ts := ts) (by omega)
      rw [stk_app, stk_one] at g2 hsl fin
      rw [List.length_append, List.length_singleton] at hsl
      have ou : u.gd s := g3 u (by simp)
      have ol : ∀ t ∈ l, t.gd s := fun t h => g3 t (by simp [h])
      by_cases c3 : y % 8 = 3
      · rw [if_pos c3, List.map_append, List.map_singleton, at_last, asA_some, ix_last (by simp), asA_some]
        refine ⟨by decide, ?_⟩
        have es : (l.map Tree.tp2 ++ [u.tp2]).set ((l ++ [u]).length - 1) (.tup [.str (Str.ofString "not"), u.tp2]) = l.map Tree.tp2 ++ [.tup [.str (Str.ofString "not"), u.tp2]] := by
          have := set_last (l.map Tree.tp2) u.tp2 (D.tup [.str (Str.ofString "not"), u.tp2])
          rw [← this]; congr 1; simp
        rw [es]
        exact fin (l ++ [.no u]) y o7 (by simp) (by rw [stk_app, stk_one, wt]; omega) (fun x hx => (List.mem_append.mp hx).elim (ol x) fun z => by rw [List.mem_singleton] at z; subst z; exact gd_no ou) _ (by rw [List.map_append]; rfl)
      rw [if_neg c3]
      by_cases c4 : (1 : Int) < ((l ++ [u]).length : Int)
      · rw [if_pos c4]
        have eu : ((l ++ [u]).map Tree.tp2)[(l ++ [u]).length - 1]? = some u.tp2 := by simp
        have ed : ((l ++ [u]).map Tree.tp2).dropLast = l.map Tree.tp2 := by simp
        rw [eu, asA_some, ed]
        have gl : 1 ≤ l.length := by rw [List.length_append, List.length_singleton] at c4; omega
        obtain ⟨l2, v, rfl⟩ := split_last gl
        rw [stk_app, stk_one] at fin
        have hk : ∃ k : Kd, atI [D.str (Str.ofString "and"), D.str (Str.ofString "or"), D.str (Str.ofString "either"), D.str (Str.ofString "and")] (y % 8 - 4) = some (.str k.wd) := by
          have : y % 8 - 4 = 0 ∨ y % 8 - 4 = 1 ∨ y % 8 - 4 = 2 ∨ y % 8 - 4 = 3 := by omega
          rcases this with h | h | h | h <;> rw [h]
          · exact ⟨.an, rfl⟩
          · exact ⟨.od, rfl⟩
          · exact ⟨.ei, rfl⟩
          · exact ⟨.an, rfl⟩
        obtain ⟨k, ek⟩ := hk
        rw [ek, asA_some, List.map_append, List.map_singleton, at_last, asA_some, ix_last (by simp), asA_some]
        refine ⟨by decide, by decide, by decide, ?_⟩
        rw [set_last]
        exact fin (l2 ++ [.pr k v u]) y (some (.d u.tp2)) (by simp) (by rw [stk_app, stk_one, wt]; omega) (fun x hx => (List.mem_append.mp hx).elim (fun z => ol x (by simp [z])) fun z => by rw [List.mem_singleton] at z; subst z; exact gd_pr (ol v (by simp)) ou) _ (by rw [List.map_append]; rfl)
      · rw [if_neg c4]
        exact fin (l ++ [u]) y o7 (by simp) (by rw [stk_app, stk_one]; omega) g3 _ rfl
    · obtain ⟨ts, o5, o6, o7, ⟨g1, g2, g3⟩, rfl⟩ := hI
      rw [List.length_range] at g2
      simp only [w_L_tree_21f_t2, wWhile, wSeq, wSet, wAsg, wC, wIfS, wB, wOp, oI, oI0, asI, asS, asL, asLT, asT, asB, asA_some, asA_none, asO, asOL, asOD, asKey, asDic, asSq, oLen, oMod, oAdd, oSub, oMul, oDiv, oMax, oMin, oPlus, oEqX, oNeX, eqX_int, eqX_str, eqX_bl, oCmp, oLtX, oLeX, oGtX, oGeX, oIxX, oInX, wCB, wCons, wNil, wVar, wMove, nth, put, startR, wNext, wRet, wRetN, wDrop, wFor, wiR1, wiR2, wiX, itemsOf, wgName, wgTup, wgCons, wgNil, wLend, wLendT, seeR_cons, seeR_nil, seeO_d, seeO_none, seeO_ol, seeO_od, wJoin, wM, oAppend, oPop, oPopAt, wDPut, wDPop, wSortK, wDict0, wTup, wLst, wCall, wAnd, wOr, wNot, wAndV, wOrV, wNotV, wIf, wYes, wLc, wiEnumX, oListX, oTuple, oSort, oSortSet, oAll, oAny, S.fz, S.own, D.flat, txts_map, bools_map, txtKeys_map, List.length_map, List.map_cons, List.map_nil, List.length_cons, List.length_nil, List.cons_append, List.nil_append, List.replicate, decide_eq_true_eq, Bool.not_eq_true', Bool.not_true, Bool.not_false, if_true, if_false, Nat.zero_add, Nat.reduceAdd, Nat.reduceSub, ge_iff_le, true_and, and_true, zip_unzip, Bool.false_xor, Bool.true_xor, Bool.false_eq_true, Bool.true_eq_false, reduceIte, wipeR, dataR_cons, dataR_nil, dataO_d, dataO_none, dataO_ol, dataO_od, oDict, oIsi, tyD, isiB, wSl, wPart, wNoP, oSl, wDisp1, wDGet2, oRemove, atI_0, atI_1, atI_2, wiRev, revItems, oDictP, wForK, wiKeys, kD, oSortX, oPow, oBitAnd, oShl, oNeg, wUn, oInt, oStr, oDivmod, oIs, isD, wChain, wFz, wFzE, frzR, wLSet, wiZip, seqsD, wiVals, wiItems, wOIx, wNo, Option.isSome_some, oMulX, wM1, oSplit, oPart, oStrip1, oRep, oSum, intsD, wRaise, wLI, wLK
, wiR3, wLR, wDisp, wPairs, oReverse, oClear, oInsert, wRevL, wDZ, seqLT, oSortIT, wOFld, wSFld, asOI, setOI, putG, wPar, wiItemsC, wiValsC, wIndexL]
      refine ⟨fun m ρ => ∃ (ts : List Tree) (o7 : Option S), (m = ts.length ∧ 1 ≤ ts.length ∧ stk ts ≤ M ∧ ∀ t ∈ ts, t.gd s) ∧ ρ = [some (.d (.cel ns)), some (.d (.int a)), some (.d (.int M)), some (.d (.str s)), some (.ol (ts.map Tree.tp2)), o5, o6, o7], ⟨_, ts, _, ⟨rfl, g1 (fun e => by have := congrArg List.length e; rw [List.length_range] at this; simp at this; omega), g2, g3⟩, rfl⟩, fun m ρ hI => ?_⟩
      obtain ⟨ts, o7, ⟨rfl, g1, g2, g3⟩, rfl⟩ := hI
      have hsl := stkT ts
      obtain ⟨l, u, rfl⟩ := split_last g1
      have ou : u.gd s := g3 u (by simp)
      have ol : ∀ t ∈ l, t.gd s := fun t h => g3 t (by simp [h])
      rw [stk_app, stk_one] at g2 hsl
      simp only [w_L_tree_21f_b2, w_L_tree_21f_b2_t1, w_L_tree_21f_t3, wSeq, wSet, wAsg, wC, wIfS, wB, wOp, oI, oI0, asI, asS, asL, asLT, asT, asB, asA_some, asA_none, asO, asOL, asOD, asKey, asDic, asSq, oLen, oMod, oAdd, oSub, oMul, oDiv, oMax, oMin, oPlus, oEqX, oNeX, eqX_int, eqX_str, eqX_bl, oCmp, oLtX, oLeX, oGtX, oGeX, oIxX, oInX, wCB, wCons, wNil, wVar, wMove, nth, put, startR, wNext, wRet, wRetN, wDrop, wFor, wiR1, wiR2, wiX, itemsOf, wgName, wgTup, wgCons, wgNil, wLend, wLendT, seeR_cons, seeR_nil, seeO_d, seeO_none, seeO_ol, seeO_od, wJoin, wM, oAppend, oPop, oPopAt, wDPut, wDPop, wSortK, wDict0, wTup, wLst, wCall, wAnd, wOr, wNot, wAndV, wOrV, wNotV, wIf, wYes, wLc, wiEnumX, oListX, oTuple, oSort, oSortSet, oAll, oAny, S.fz, S.own, D.flat, txts_map, bools_map, txtKeys_map, List.length_map, List.map_cons, List.map_nil, List.length_cons, List.length_nil, List.cons_append, List.nil_append, List.replicate, decide_eq_true_eq, Bool.not_eq_true', Bool.not_true, Bool.not_false, if_true, if_false, Nat.zero_add, Nat.reduceAdd, Nat.reduceSub, ge_iff_le, true_and, and_true, zip_unzip, Bool.false_xor, Bool.true_xor, Bool.false_eq_true, Bool.true_eq_false, reduceIte, wipeR, dataR_cons, dataR_nil, dataO_d, dataO_none, dataO_ol, dataO_od, oDict, oIsi, tyD, isiB, wSl, wPart, wNoP, oSl, wDisp1, wDGet2, oRemove, atI_0, atI_1, atI_2, wiRev, revItems, oDictP, wForK, wiKeys, kD, oSortX, oPow, oBitAnd, oShl, oNeg, wUn, oInt, oStr, oDivmod, oIs, isD, wChain, wFz, wFzE, frzR, wLSet, wiZip, seqsD, wiVals, wiItems, wOIx, wNo, Option.isSome_some, oMulX, wM1, oSplit, oPart, oStrip1, oRep, oSum, intsD, wRaise, wLI, wLK
, wiR3, wLR, wDisp, wPairs, oReverse, oClear, oInsert, wRevL, wDZ, seqLT, oSortIT, wOFld, wSFld, asOI, setOI, putG, wPar, wiItemsC, wiValsC, wIndexL]
      have eu : ((l ++ [u]).map Tree.tp2)[(l ++ [u]).length - 1]? = some u.tp2 := by simp
      have ed : ((l ++ [u]).map Tree.tp2).dropLast = l.map Tree.tp2 := by simp
      by_cases c1 : (1 : Int) < ((l ++ [u]).length : Int)
      · rw [if_pos c1, eu, asA_some, ed]
        have gl : 1 ≤ l.length := by rw [List.length_append, List.length_singleton] at c1; omega
        obtain ⟨l2, v, rfl⟩ := split_last gl
        have hk : ∃ k : Kd, atI [D.str (Str.ofString "either"), D.str (Str.ofString "and"), D.str (Str.ofString "or")] ((((l2 ++ [v]).map Tree.tp2).length : Int) % 3) = some (.str k.wd) := by
          have h0 := Int.emod_nonneg (((l2 ++ [v]).map Tree.tp2).length : Int) (show (3 : Int) ≠ 0 by decide)
          have h1 := Int.emod_lt_of_pos (((l2 ++ [v]).map Tree.tp2).length : Int) (show (0 : Int) < 3 by decide)
          generalize (((l2 ++ [v]).map Tree.tp2).length : Int) % 3 = r at h0 h1 ⊢
          have : r = 0 ∨ r = 1 ∨ r = 2 := by omega
          rcases this with h | h | h <;> rw [h]
          · exact ⟨.ei, rfl⟩
          · exact ⟨.an, rfl⟩
          · exact ⟨.od, rfl⟩
        obtain ⟨k, ek⟩ := hk
        rw [ek, asA_some]
        rw [stk_app, stk_one] at g2
        rw [List.map_append, List.map_singleton, at_last, asA_some, ix_last (by simp), asA_some, set_last]
        refine ⟨by decide, by decide, by decide, l2.length + 1, by simp, l2 ++ [.pr k v u], some (.d u.tp2), ⟨by simp, by simp, by rw [stk_app, stk_one, wt]; omega, fun x hx => (List.mem_append.mp hx).elim (fun z => ol x (by simp [z])) fun z => by rw [List.mem_singleton] at z; subst z; exact gd_pr (ol v (by simp)) ou⟩, ?_⟩
        rw [List.map_append]; rfl
      · rw [if_neg c1]
        have el : l = [] := by
          cases l with
          | nil => rfl
          | cons x l => simp at c1; omega
        subst el
        show asA (atI [u.tp2] 0) _
        rw [atI_0, asA_some]
        refine hq u ?_ ou
        have : stk [] = 0 := rfl
        omega
  · exact h.elim
def tpair2 (q : Tree × Tree) : D := .tup [q.1.tp2, q.2.tp2]
def PairO (s : Str) (b : Nat) (q : Tree × Tree) : Prop := (q.1.wt ≤ b ∧ q.1.gd s) ∧ q.2.wt ≤ b ∧ q.2.gd s
def sp_L_wishes_a27 : DSp := fun ds P _ => match ds with
  | [.cel ns, .str s, .int m, .int b] => (ns.length ≤ 63 ∧ Prd s ∧ 0 ≤ m ∧ m ≤ 10 ∧ 1 ≤ b ∧ b ≤ 20) ∧ ∀ l : List (Tree × Tree), (l.length : Int) ≤ m → (∀ q ∈ l, PairO s b.toNat q) → P (.ol (l.map tpair2))
  | _ => False
abbrev N_L_wishes_a27 : List Str := ["_law_script", "_law_letters_here", "_law_most", "_law_many", "_law_wishes_here", "_law_k", "_law_size", "_law_left"]
def w_L_wishes_a27_b1_t2 : WS := (wDrop (wM 4 oAppend (wCons (wTup (wCons (wVar 7) (wCons (wCall sp_L_tree_21f (fun _ _ => False) (wCons (wVar 0) (wCons (wOp oPlus (wC (.int 20)) (wOp oMul (wC (.int 20)) (wVar 5))) (wCons (wOp oPlus (wC (.int 1)) (wOp oMod (wOp oDiv (wCall sp_L_mixed_47c (fun _ _ => False) (wCons (wVar 0) (wCons (wOp oPlus (wC (.int 2)) (wVar 5)) wNil))) (wC (.int 16))) (wVar 3))) (wCons (wVar 1) wNil))))) wNil))) wNil)))
def w_L_wishes_a27_b1_t1 : WS := wSeq (wAsg (wCall sp_L_tree_21f (fun _ _ => False) (wCons (wVar 0) (wCons (wOp oPlus (wC (.int 10)) (wOp oMul (wC (.int 20)) (wVar 5))) (wCons (wVar 6) (wCons (wVar 1) wNil))))) (wgName 7))
    w_L_wishes_a27_b1_t2
def w_L_wishes_a27_b1 : WS := wSeq (wAsg (wOp oPlus (wC (.int 1)) (wOp oMod (wCall sp_L_mixed_47c (fun _ _ => False) (wCons (wVar 0) (wCons (wOp oPlus (wC (.int 2)) (wVar 5)) wNil))) (wVar 3))) (wgName 6))
    w_L_wishes_a27_b1_t1
def w_L_wishes_a27_t2 : WS := (wRet (wMove 4))
def w_L_wishes_a27_t1 : WS := wSeq (wFor (wiR1 (wCons (wOp oMod (wCall sp_L_mixed_47c (fun _ _ => False) (wCons (wVar 0) (wCons (wC (.int 1)) wNil))) (wOp oPlus (wVar 2) (wC (.int 1)))) wNil)) (wgName 5)
      w_L_wishes_a27_b1)
    w_L_wishes_a27_t2
def w_L_wishes_a27 : WS := wSeq (wSet 4 (wLst wNil))
    w_L_wishes_a27_t1
theorem len_L_wishes_a27 {ds Q px} (h : sp_L_wishes_a27 ds Q px) : ds.length = 4 := by unfold sp_L_wishes_a27 at h; split at h <;> first | rfl | exact h.elim
theorem rd_L_wishes_a27 {ds Q px} (h : sp_L_wishes_a27 ds Q px) : w_L_wishes_a27 ⟨fun _ => Q (.d .non), Q, fun _ => False, fun _ => False⟩ (startR N_L_wishes_a27 ds) := by
  unfold sp_L_wishes_a27 at h
  split at h
  · rename_i ns s m b
    obtain ⟨⟨hl, hs, m0, m1, b0, b1⟩, hq⟩ := h
    unfold w_L_wishes_a27
    simp only [N_L_wishes_a27, w_L_wishes_a27_t1, wSeq, wSet, wAsg, wC, wIfS, wB, wOp, oI, oI0, asI, asS, asL, asLT, asT, asB, asA_some, asA_none, asO, asOL, asOD, asKey, asDic, asSq, oLen, oMod, oAdd, oSub, oMul, oDiv, oMax, oMin, oPlus, oEqX, oNeX, eqX_int, eqX_str, eqX_bl, oCmp, oLtX, oLeX, oGtX, oGeX, oIxX, oInX, wCB, wCons, wNil, wVar, wMove, nth, put, startR, wNext, wRet, wRetN, wDrop, wFor, wiR1, wiR2, wiX, itemsOf, wgName, wgTup, wgCons, wgNil, wLend, wLendT, seeR_cons, seeR_nil, seeO_d, seeO_none, seeO_ol, seeO_od, wJoin, wM, oAppend, oPop, oPopAt, wDPut, wDPop, wSortK, wDict0, wTup, wLst, wCall, wAnd, wOr, wNot, wAndV, wOrV, wNotV, wIf, wYes, wLc, wiEnumX, oListX, oTuple, oSort, oSortSet, oAll, oAny, S.fz, S.own, D.flat, txts_map, bools_map, txtKeys_map, List.length_map, List.map_cons, List.map_nil, List.length_cons, List.length_nil, List.cons_append, List.nil_append, List.replicate, decide_eq_true_eq, Bool.not_eq_true', Bool.not_true, Bool.not_false, if_true, if_false, Nat.zero_add, Nat.reduceAdd, Nat.reduceSub, ge_iff_le, true_and, and_true, zip_unzip, Bool.false_xor, Bool.true_xor, Bool.false_eq_true, Bool.true_eq_false, reduceIte, wipeR, dataR_cons, dataR_nil, dataO_d, dataO_none, dataO_ol, dataO_od, oDict, oIsi, tyD, isiB, wSl, wPart, wNoP, oSl, wDisp1, wDGet2, oRemove, atI_0, atI_1, atI_2, wiRev, revItems, oDictP, wForK, wiKeys, kD, oSortX, oPow, oBitAnd, oShl, oNeg, wUn, oInt, oStr, oDivmod, oIs, isD, wChain, wFz, wFzE, frzR, wLSet, wiZip, seqsD, wiVals, wiItems, wOIx, wNo, Option.isSome_some, oMulX, wM1, oSplit, oPart, oStrip1, oRep, oSum, intsD, wRaise, wLI, wLK
, wiR3, wLR, wDisp, wPairs, oReverse, oClear, oInsert, wRevL, wDZ, seqLT, oSortIT, wOFld, wSFld, asOI, setOI, putG, wPar, wiItemsC, wiValsC, wIndexL, sp_L_mixed_47c]
    refine ⟨by decide, ⟨hl, by decide, by decide⟩, fun z z0 _ => ⟨by omega, ⟨by have := Int.emod_nonneg z (show m + 1 ≠ 0 by omega); omega, by have := Int.emod_lt_of_pos z (show 0 < m + 1 by omega); omega⟩, ?_⟩⟩
    have hz1 := Int.emod_nonneg z (show m + 1 ≠ 0 by omega)
    have hz2 := Int.emod_lt_of_pos z (show 0 < m + 1 by omega)
    rw [rangeD_map]
    have hN : ((z % (m + 1)).toNat : Int) ≤ m := by omega
    generalize (z % (m + 1)).toNat = N at hN ⊢
    refine forD_map (I := fun done _ ρ => ∃ (l : List (Tree × Tree)) (o5 o6 o7 : Option S), (l.length = done.length ∧ ∀ q ∈ l, PairO s b.toNat q) ∧ ρ = [some (.d (.cel ns)), some (.d (.str s)), some (.d (.int m)), some (.d (.int b)), some (.ol (l.map tpair2)), o5, o6, o7]) mono_name (List.range N) (fun done k ys ρ he hI => ?_) (fun ρ hI => ?_) _ ⟨[], _, _, _, ⟨rfl, fun _ z => nomatch z⟩, rfl⟩
    · obtain ⟨l, o5, o6, o7, ⟨ll, lo⟩, rfl⟩ := hI
      have hk : k < N := List.mem_range.mp (by rw [he]; simp)
      have hd : done.length < N := by
        have := congrArg List.length he
        rw [List.length_append, List.length_cons, List.length_range] at this
        omega
      simp only [w_L_wishes_a27_b1, w_L_wishes_a27_b1_t1, w_L_wishes_a27_b1_t2, wSeq, wSet, wAsg, wC, wIfS, wB, wOp, oI, oI0, asI, asS, asL, asLT, asT, asB, asA_some, asA_none, asO, asOL, asOD, asKey, asDic, asSq, oLen, oMod, oAdd, oSub, oMul, oDiv, oMax, oMin, oPlus, oEqX, oNeX, eqX_int, eqX_str, eqX_bl, oCmp, oLtX, oLeX, oGtX, oGeX, oIxX, oInX, wCB, wCons, wNil, wVar, wMove, nth, put, startR, wNext, wRet, wRetN, wDrop, wFor, wiR1, wiR2, wiX, itemsOf, wgName, wgTup, wgCons, wgNil, wLend, wLendT, seeR_cons, seeR_nil, seeO_d, seeO_none, seeO_ol, seeO_od, wJoin, wM, oAppend, oPop, oPopAt, wDPut, wDPop, wSortK, wDict0, wTup, wLst, wCall, wAnd, wOr, wNot, wAndV, wOrV, wNotV, wIf, wYes, wLc, wiEnumX, oListX, oTuple, oSort, oSortSet, oAll, oAny, S.fz, S.own, D.flat, txts_map, bools_map, txtKeys_map, List.length_map, List.map_cons, List.map_nil, List.length_cons, List.length_nil, List.cons_append, List.nil_append, List.replicate, decide_eq_true_eq, Bool.not_eq_true', Bool.not_true, Bool.not_false, if_true, if_false, Nat.zero_add, Nat.reduceAdd, Nat.reduceSub, ge_iff_le, true_and, and_true, zip_unzip, Bool.false_xor, Bool.true_xor, Bool.false_eq_true, Bool.true_eq_false, reduceIte, wipeR, dataR_cons, dataR_nil, dataO_d, dataO_none, dataO_ol, dataO_od, oDict, oIsi, tyD, isiB, wSl, wPart, wNoP, oSl, wDisp1, wDGet2, oRemove, atI_0, atI_1, atI_2, wiRev, revItems, oDictP, wForK, wiKeys, kD, oSortX, oPow, oBitAnd, oShl, oNeg, wUn, oInt, oStr, oDivmod, oIs, isD, wChain, wFz, wFzE, frzR, wLSet, wiZip, seqsD, wiVals, wiItems, wOIx, wNo, Option.isSome_some, oMulX, wM1, oSplit, oPart, oStrip1, oRep, oSum, intsD, wRaise, wLI, wLK
, wiR3, wLR, wDisp, wPairs, oReverse, oClear, oInsert, wRevL, wDZ, seqLT, oSortIT, wOFld, wSFld, asOI, setOI, putG, wPar, wiItemsC, wiValsC, wIndexL, sp_L_mixed_47c, sp_L_tree_21f]
      have k10 : k < 10 := by omega
      refine ⟨⟨hl, by omega, by omega⟩, fun z z0 _ => ?_⟩
      have e0 := Int.emod_nonneg z (show b ≠ 0 by omega)
      have e1 := Int.emod_lt_of_pos z (show 0 < b by omega)
      refine ⟨by omega, .inl ⟨by decide, by decide⟩, ⟨hl, by omega, by omega, by omega, by omega, hs⟩, fun t ht tg => ⟨.inl ⟨by decide, by decide⟩, ⟨hl, by omega, by omega⟩, fun y y0 _ => ?_⟩⟩
      have f0 := Int.emod_nonneg (y / 16) (show b ≠ 0 by omega)
      have f1 := Int.emod_lt_of_pos (y / 16) (show 0 < b by omega)
      refine ⟨⟨by decide, by decide⟩, by omega, ⟨hl, by omega, by omega, by omega, by omega, hs⟩, fun u hu ug => ?_⟩
      have er : (l ++ [(t, u)]).map tpair2 = l.map tpair2 ++ [.tup [t.tp2, u.tp2]] := by rw [List.map_append]; rfl
      rw [← er]
      refine ⟨by decide, by rw [len0]; omega, l ++ [(t, u)], _, _, _, ⟨by simp [ll], fun q hq => ?_⟩, rfl⟩
      rcases List.mem_append.mp hq with z | z
      · exact lo q z
      · rw [List.mem_singleton] at z; subst z; exact ⟨⟨by show t.wt ≤ b.toNat; omega, tg⟩, by show u.wt ≤ b.toNat; omega, ug⟩
    · obtain ⟨l, o5, o6, o7, ⟨ll, lo⟩, rfl⟩ := hI
      rw [List.length_range] at ll
      simp only [w_L_wishes_a27_t2, wSeq, wSet, wAsg, wC, wIfS, wB, wOp, oI, oI0, asI, asS, asL, asLT, asT, asB, asA_some, asA_none, asO, asOL, asOD, asKey, asDic, asSq, oLen, oMod, oAdd, oSub, oMul, oDiv, oMax, oMin, oPlus, oEqX, oNeX, eqX_int, eqX_str, eqX_bl, oCmp, oLtX, oLeX, oGtX, oGeX, oIxX, oInX, wCB, wCons, wNil, wVar, wMove, nth, put, startR, wNext, wRet, wRetN, wDrop, wFor, wiR1, wiR2, wiX, itemsOf, wgName, wgTup, wgCons, wgNil, wLend, wLendT, seeR_cons, seeR_nil, seeO_d, seeO_none, seeO_ol, seeO_od, wJoin, wM, oAppend, oPop, oPopAt, wDPut, wDPop, wSortK, wDict0, wTup, wLst, wCall, wAnd, wOr, wNot, wAndV, wOrV, wNotV, wIf, wYes, wLc, wiEnumX, oListX, oTuple, oSort, oSortSet, oAll, oAny, S.fz, S.own, D.flat, txts_map, bools_map, txtKeys_map, List.length_map, List.map_cons, List.map_nil, List.length_cons, List.length_nil, List.cons_append, List.nil_append, List.replicate, decide_eq_true_eq, Bool.not_eq_true', Bool.not_true, Bool.not_false, if_true, if_false, Nat.zero_add, Nat.reduceAdd, Nat.reduceSub, ge_iff_le, true_and, and_true, zip_unzip, Bool.false_xor, Bool.true_xor, Bool.false_eq_true, Bool.true_eq_false, reduceIte, wipeR, dataR_cons, dataR_nil, dataO_d, dataO_none, dataO_ol, dataO_od, oDict, oIsi, tyD, isiB, wSl, wPart, wNoP, oSl, wDisp1, wDGet2, oRemove, atI_0, atI_1, atI_2, wiRev, revItems, oDictP, wForK, wiKeys, kD, oSortX, oPow, oBitAnd, oShl, oNeg, wUn, oInt, oStr, oDivmod, oIs, isD, wChain, wFz, wFzE, frzR, wLSet, wiZip, seqsD, wiVals, wiItems, wOIx, wNo, Option.isSome_some, oMulX, wM1, oSplit, oPart, oStrip1, oRep, oSum, intsD, wRaise, wLI, wLK
, wiR3, wLR, wDisp, wPairs, oReverse, oClear, oInsert, wRevL, wDZ, seqLT, oSortIT, wOFld, wSFld, asOI, setOI, putG, wPar, wiItemsC, wiValsC, wIndexL]
      exact hq l (by omega) lo
  · exact h.elim
def sps_L_text_16f (n : Nat) : DSp := fun ds P _ => match ds with
  | [d] => ∃ t : Tree, d = t.tp2 ∧ (t.wt ≤ n + 1 ∧ t.wt ≤ 100) ∧ P (.d (.str t.txt))
  | _ => False
theorem tx3 : (Str.ofString "not" = Str.ofString "letter") = False := eq_false (by decide +kernel)
theorem tx4 : (Str.ofString "not" = Str.ofString "not") = True := eq_true rfl
theorem tx5 (k : Kd) : (k.wd = Str.ofString "letter") = False := eq_false (by cases k <;> decide +kernel)
theorem tx6 (k : Kd) : (k.wd = Str.ofString "not") = False := eq_false (by cases k <;> decide +kernel)
theorem tx7 (k : Kd) : vget (mergeD [] [(Sum.inr (Str.ofString "and"), D.str (Str.ofString "&")), (Sum.inr (Str.ofString "or"), D.str (Str.ofString "|")), (Sum.inr (Str.ofString "either"), D.str (Str.ofString "+"))]) (Sum.inr k.wd) = some (.str k.sign) := by cases k <;> rfl
def spr_L_text_16f : Nat → DSp
  | 0 => fun _ _ _ => False
  | n + 1 => sps_L_text_16f n
abbrev sp_L_text_16f : DSp := spr_L_text_16f 70
abbrev N_L_text_16f : List Str := ["_law_tree_here", "_law_sign"]
def w_L_text_16f_t4 (n : Nat) : WS := (wRet (wOp oPlus (wOp oPlus (wOp oPlus (wOp oPlus (wC (.str "(")) (wCall (spr_L_text_16f n) (fun _ _ => False) (wCons (wOp oIxX (wVar 0) (wC (.int 1))) wNil))) (wVar 1)) (wCall (spr_L_text_16f n) (fun _ _ => False) (wCons (wOp oIxX (wVar 0) (wC (.int 2))) wNil))) (wC (.str ")"))))
def w_L_text_16f_t3 (n : Nat) : WS := wSeq (wAsg (wOp oIxX (wDisp [((wC (.str "and")), (wC (.str "&"))), ((wC (.str "or")), (wC (.str "|"))), ((wC (.str "either")), (wC (.str "+")))]) (wOp oIxX (wVar 0) (wC (.int 0)))) (wgName 1))
    (w_L_text_16f_t4 n)
def w_L_text_16f_t2 (n : Nat) : WS := wSeq (wIfS (wB (wOp oEqX (wOp oIxX (wVar 0) (wC (.int 0))) (wC (.str "not")))) (wRet (wOp oPlus (wC (.str "~")) (wCall (spr_L_text_16f n) (fun _ _ => False) (wCons (wOp oIxX (wVar 0) (wC (.int 1))) wNil)))) wNext)
    (w_L_text_16f_t3 n)
def w_L_text_16f_t1 (n : Nat) : WS := wSeq (wIfS (wB (wOp oEqX (wOp oIxX (wVar 0) (wC (.int 0))) (wC (.str "letter")))) (wRet (wOp oIxX (wVar 0) (wC (.int 1)))) wNext)
    (w_L_text_16f_t2 n)
def w_L_text_16f (n : Nat) : WS := wSeq (wIfS (wB (wOp oEqX (wCB oLen (wCons (wVar 0) wNil)) (wC (.int 1)))) (wRet (wOp oIxX (wLst (wCons (wC (.str "0")) (wCons (wC (.str "1")) wNil))) (wCB oInt (wCons (wOp oEqX (wOp oIxX (wVar 0) (wC (.int 0))) (wC (.str "always"))) wNil)))) wNext)
    (w_L_text_16f_t1 n)
theorem len_L_text_16f {n : Nat} {ds Q px} (h : spr_L_text_16f (n + 1) ds Q px) : ds.length = 1 := by replace h : sps_L_text_16f n ds Q px := h; unfold sps_L_text_16f at h; split at h <;> first | rfl | exact h.elim
theorem rd_L_text_16f {n : Nat} {ds Q px} (h : spr_L_text_16f (n + 1) ds Q px) : w_L_text_16f n ⟨fun _ => Q (.d .non), Q, fun _ => False, fun _ => False⟩ (startR N_L_text_16f ds) := by
  replace h : sps_L_text_16f n ds Q px := h
  unfold sps_L_text_16f at h
  split at h
  · obtain ⟨t, rfl, ⟨h1, h2⟩, h⟩ := h
    have tl := txt_len t
    unfold w_L_text_16f
    cases t with
    | «let» c =>
      simp only [N_L_text_16f, Tree.tp2, w_L_text_16f_t1, wSeq, wSet, wAsg, wC, wIfS, wB, wOp, oI, oI0, asI, asS, asL, asLT, asT, asB, asA_some, asA_none, asO, asOL, asOD, asKey, asDic, asSq, oLen, oMod, oAdd, oSub, oMul, oDiv, oMax, oMin, oPlus, oEqX, oNeX, eqX_int, eqX_str, eqX_bl, oCmp, oLtX, oLeX, oGtX, oGeX, oIxX, oInX, wCB, wCons, wNil, wVar, wMove, nth, put, startR, wNext, wRet, wRetN, wDrop, wFor, wiR1, wiR2, wiX, itemsOf, wgName, wgTup, wgCons, wgNil, wLend, wLendT, seeR_cons, seeR_nil, seeO_d, seeO_none, seeO_ol, seeO_od, wJoin, wM, oAppend, oPop, oPopAt, wDPut, wDPop, wSortK, wDict0, wTup, wLst, wCall, wAnd, wOr, wNot, wAndV, wOrV, wNotV, wIf, wYes, wLc, wiEnumX, oListX, oTuple, oSort, oSortSet, oAll, oAny, S.fz, S.own, D.flat, txts_map, bools_map, txtKeys_map, List.length_map, List.map_cons, List.map_nil, List.length_cons, List.length_nil, List.cons_append, List.nil_append, List.replicate, decide_eq_true_eq, Bool.not_eq_true', Bool.not_true, Bool.not_false, if_true, if_false, Nat.zero_add, Nat.reduceAdd, Nat.reduceSub, ge_iff_le, true_and, and_true, zip_unzip, Bool.false_xor, Bool.true_xor, Bool.false_eq_true, Bool.true_eq_false, reduceIte, wipeR, dataR_cons, dataR_nil, dataO_d, dataO_none, dataO_ol, dataO_od, oDict, oIsi, tyD, isiB, wSl, wPart, wNoP, oSl, wDisp1, wDGet2, oRemove, atI_0, atI_1, atI_2, wiRev, revItems, oDictP, wForK, wiKeys, kD, oSortX, oPow, oBitAnd, oShl, oNeg, wUn, oInt, oStr, oDivmod, oIs, isD, wChain, wFz, wFzE, frzR, wLSet, wiZip, seqsD, wiVals, wiItems, wOIx, wNo, Option.isSome_some, oMulX, wM1, oSplit, oPart, oStrip1, oRep, oSum, intsD, wRaise, wLI, wLK
, wiR3, wLR, wDisp, wPairs, oReverse, oClear, oInsert, wRevL, wDZ, seqLT, oSortIT, wOFld, wSFld, asOI, setOI, putG, wPar, wiItemsC, wiValsC, wIndexL]
      rw [if_neg (by decide)]
      exact h
    | one =>
      simp only [N_L_text_16f, Tree.tp2, wSeq, wSet, wAsg, wC, wIfS, wB, wOp, oI, oI0, asI, asS, asL, asLT, asT, asB, asA_some, asA_none, asO, asOL, asOD, asKey, asDic, asSq, oLen, oMod, oAdd, oSub, oMul, oDiv, oMax, oMin, oPlus, oEqX, oNeX, eqX_int, eqX_str, eqX_bl, oCmp, oLtX, oLeX, oGtX, oGeX, oIxX, oInX, wCB, wCons, wNil, wVar, wMove, nth, put, startR, wNext, wRet, wRetN, wDrop, wFor, wiR1, wiR2, wiX, itemsOf, wgName, wgTup, wgCons, wgNil, wLend, wLendT, seeR_cons, seeR_nil, seeO_d, seeO_none, seeO_ol, seeO_od, wJoin, wM, oAppend, oPop, oPopAt, wDPut, wDPop, wSortK, wDict0, wTup, wLst, wCall, wAnd, wOr, wNot, wAndV, wOrV, wNotV, wIf, wYes, wLc, wiEnumX, oListX, oTuple, oSort, oSortSet, oAll, oAny, S.fz, S.own, D.flat, txts_map, bools_map, txtKeys_map, List.length_map, List.map_cons, List.map_nil, List.length_cons, List.length_nil, List.cons_append, List.nil_append, List.replicate, decide_eq_true_eq, Bool.not_eq_true', Bool.not_true, Bool.not_false, if_true, if_false, Nat.zero_add, Nat.reduceAdd, Nat.reduceSub, ge_iff_le, true_and, and_true, zip_unzip, Bool.false_xor, Bool.true_xor, Bool.false_eq_true, Bool.true_eq_false, reduceIte, wipeR, dataR_cons, dataR_nil, dataO_d, dataO_none, dataO_ol, dataO_od, oDict, oIsi, tyD, isiB, wSl, wPart, wNoP, oSl, wDisp1, wDGet2, oRemove, atI_0, atI_1, atI_2, wiRev, revItems, oDictP, wForK, wiKeys, kD, oSortX, oPow, oBitAnd, oShl, oNeg, wUn, oInt, oStr, oDivmod, oIs, isD, wChain, wFz, wFzE, frzR, wLSet, wiZip, seqsD, wiVals, wiItems, wOIx, wNo, Option.isSome_some, oMulX, wM1, oSplit, oPart, oStrip1, oRep, oSum, intsD, wRaise, wLI, wLK
, wiR3, wLR, wDisp, wPairs, oReverse, oClear, oInsert, wRevL, wDZ, seqLT, oSortIT, wOFld, wSFld, asOI, setOI, putG, wPar, wiItemsC, wiValsC, wIndexL]
      rw [if_pos (by decide)]
      exact ⟨by decide, h⟩
    | zero =>
      simp only [N_L_text_16f, Tree.tp2, wSeq, wSet, wAsg, wC, wIfS, wB, wOp, oI, oI0, asI, asS, asL, asLT, asT, asB, asA_some, asA_none, asO, asOL, asOD, asKey, asDic, asSq, oLen, oMod, oAdd, oSub, oMul, oDiv, oMax, oMin, oPlus, oEqX, oNeX, eqX_int, eqX_str, eqX_bl, oCmp, oLtX, oLeX, oGtX, oGeX, oIxX, oInX, wCB, wCons, wNil, wVar, wMove, nth, put, startR, wNext, wRet, wRetN, wDrop, wFor, wiR1, wiR2, wiX, itemsOf, wgName, wgTup, wgCons, wgNil, wLend, wLendT, seeR_cons, seeR_nil, seeO_d, seeO_none, seeO_ol, seeO_od, wJoin, wM, oAppend, oPop, oPopAt, wDPut, wDPop, wSortK, wDict0, wTup, wLst, wCall, wAnd, wOr, wNot, wAndV, wOrV, wNotV, wIf, wYes, wLc, wiEnumX, oListX, oTuple, oSort, oSortSet, oAll, oAny, S.fz, S.own, D.flat, txts_map, bools_map, txtKeys_map, List.length_map, List.map_cons, List.map_nil, List.length_cons, List.length_nil, List.cons_append, List.nil_append, List.replicate, decide_eq_true_eq, Bool.not_eq_true', Bool.not_true, Bool.not_false, if_true, if_false, Nat.zero_add, Nat.reduceAdd, Nat.reduceSub, ge_iff_le, true_and, and_true, zip_unzip, Bool.false_xor, Bool.true_xor, Bool.false_eq_true, Bool.true_eq_false, reduceIte, wipeR, dataR_cons, dataR_nil, dataO_d, dataO_none, dataO_ol, dataO_od, oDict, oIsi, tyD, isiB, wSl, wPart, wNoP, oSl, wDisp1, wDGet2, oRemove, atI_0, atI_1, atI_2, wiRev, revItems, oDictP, wForK, wiKeys, kD, oSortX, oPow, oBitAnd, oShl, oNeg, wUn, oInt, oStr, oDivmod, oIs, isD, wChain, wFz, wFzE, frzR, wLSet, wiZip, seqsD, wiVals, wiItems, wOIx, wNo, Option.isSome_some, oMulX, wM1, oSplit, oPart, oStrip1, oRep, oSum, intsD, wRaise, wLI, wLK
, wiR3, wLR, wDisp, wPairs, oReverse, oClear, oInsert, wRevL, wDZ, seqLT, oSortIT, wOFld, wSFld, asOI, setOI, putG, wPar, wiItemsC, wiValsC, wIndexL]
      rw [if_pos (by decide)]
      refine ⟨by decide, ?_⟩
      rw [if_neg (by decide +kernel)]
      rw [atI_0, asA_some]
      exact h
    | no t =>
      simp only [N_L_text_16f, Tree.tp2, w_L_text_16f_t1, w_L_text_16f_t2, wSeq, wSet, wAsg, wC, wIfS, wB, wOp, oI, oI0, asI, asS, asL, asLT, asT, asB, asA_some, asA_none, asO, asOL, asOD, asKey, asDic, asSq, oLen, oMod, oAdd, oSub, oMul, oDiv, oMax, oMin, oPlus, oEqX, oNeX, eqX_int, eqX_str, eqX_bl, oCmp, oLtX, oLeX, oGtX, oGeX, oIxX, oInX, wCB, wCons, wNil, wVar, wMove, nth, put, startR, wNext, wRet, wRetN, wDrop, wFor, wiR1, wiR2, wiX, itemsOf, wgName, wgTup, wgCons, wgNil, wLend, wLendT, seeR_cons, seeR_nil, seeO_d, seeO_none, seeO_ol, seeO_od, wJoin, wM, oAppend, oPop, oPopAt, wDPut, wDPop, wSortK, wDict0, wTup, wLst, wCall, wAnd, wOr, wNot, wAndV, wOrV, wNotV, wIf, wYes, wLc, wiEnumX, oListX, oTuple, oSort, oSortSet, oAll, oAny, S.fz, S.own, D.flat, txts_map, bools_map, txtKeys_map, List.length_map, List.map_cons, List.map_nil, List.length_cons, List.length_nil, List.cons_append, List.nil_append, List.replicate, decide_eq_true_eq, Bool.not_eq_true', Bool.not_true, Bool.not_false, if_true, if_false, Nat.zero_add, Nat.reduceAdd, Nat.reduceSub, ge_iff_le, true_and, and_true, zip_unzip, Bool.false_xor, Bool.true_xor, Bool.false_eq_true, Bool.true_eq_false, reduceIte, wipeR, dataR_cons, dataR_nil, dataO_d, dataO_none, dataO_ol, dataO_od, oDict, oIsi, tyD, isiB, wSl, wPart, wNoP, oSl, wDisp1, wDGet2, oRemove, atI_0, atI_1, atI_2, wiRev, revItems, oDictP, wForK, wiKeys, kD, oSortX, oPow, oBitAnd, oShl, oNeg, wUn, oInt, oStr, oDivmod, oIs, isD, wChain, wFz, wFzE, frzR, wLSet, wiZip, seqsD, wiVals, wiItems, wOIx, wNo, Option.isSome_some, oMulX, wM1, oSplit, oPart, oStrip1, oRep, oSum, intsD, wRaise, wLI, wLK
, wiR3, wLR, wDisp, wPairs, oReverse, oClear, oInsert, wRevL, wDZ, seqLT, oSortIT, wOFld, wSFld, asOI, setOI, putG, wPar, wiItemsC, wiValsC, wIndexL, tx3, tx4]
      rw [if_neg (by decide)]
      rw [wt] at h1 h2 tl
      have := wt_pos t
      have t2 := txt_len t
      obtain ⟨q, rfl⟩ : ∃ q, n = q + 1 := ⟨n - 1, by omega⟩
      refine ⟨t, rfl, ⟨by omega, by omega⟩, ?_⟩
      have e : Str.length "~" = 1 := by decide +kernel
      exact ⟨by rw [e, len0]; omega, h⟩
    | pr k a b =>
      simp only [N_L_text_16f, Tree.tp2, w_L_text_16f_t1, w_L_text_16f_t2, wSeq, wSet, wAsg, wC, wIfS, wB, wOp, oI, oI0, asI, asS, asL, asLT, asT, asB, asA_some, asA_none, asO, asOL, asOD, asKey, asDic, asSq, oLen, oMod, oAdd, oSub, oMul, oDiv, oMax, oMin, oPlus, oEqX, oNeX, eqX_int, eqX_str, eqX_bl, oCmp, oLtX, oLeX, oGtX, oGeX, oIxX, oInX, wCB, wCons, wNil, wVar, wMove, nth, put, startR, wNext, wRet, wRetN, wDrop, wFor, wiR1, wiR2, wiX, itemsOf, wgName, wgTup, wgCons, wgNil, wLend, wLendT, seeR_cons, seeR_nil, seeO_d, seeO_none, seeO_ol, seeO_od, wJoin, wM, oAppend, oPop, oPopAt, wDPut, wDPop, wSortK, wDict0, wTup, wLst, wCall, wAnd, wOr, wNot, wAndV, wOrV, wNotV, wIf, wYes, wLc, wiEnumX, oListX, oTuple, oSort, oSortSet, oAll, oAny, S.fz, S.own, D.flat, txts_map, bools_map, txtKeys_map, List.length_map, List.map_cons, List.map_nil, List.length_cons, List.length_nil, List.cons_append, List.nil_append, List.replicate, decide_eq_true_eq, Bool.not_eq_true', Bool.not_true, Bool.not_false, if_true, if_false, Nat.zero_add, Nat.reduceAdd, Nat.reduceSub, ge_iff_le, true_and, and_true, zip_unzip, Bool.false_xor, Bool.true_xor, Bool.false_eq_true, Bool.true_eq_false, reduceIte, wipeR, dataR_cons, dataR_nil, dataO_d, dataO_none, dataO_ol, dataO_od, oDict, oIsi, tyD, isiB, wSl, wPart, wNoP, oSl, wDisp1, wDGet2, oRemove, atI_0, atI_1, atI_2, wiRev, revItems, oDictP, wForK, wiKeys, kD, oSortX, oPow, oBitAnd, oShl, oNeg, wUn, oInt, oStr, oDivmod, oIs, isD, wChain, wFz, wFzE, frzR, wLSet, wiZip, seqsD, wiVals, wiItems, wOIx, wNo, Option.isSome_some, oMulX, wM1, oSplit, oPart, oStrip1, oRep, oSum, intsD, wRaise, wLI, wLK
, wiR3, wLR, wDisp, wPairs, oReverse, oClear, oInsert, wRevL, wDZ, seqLT, oSortIT, wOFld, wSFld, asOI, setOI, putG, wPar, wiItemsC, wiValsC, wIndexL, tx5, tx6]
      rw [if_neg (by decide)]
      rw [wt] at h1 h2 tl
      have := wt_pos a
      have := wt_pos b
      have t2 := txt_len a
      have t3 := txt_len b
      obtain ⟨q, rfl⟩ : ∃ q, n = q + 1 := ⟨n - 1, by omega⟩
      simp only [w_L_text_16f_t3, wSeq, wSet, wAsg, wC, wIfS, wB, wOp, oI, oI0, asI, asS, asL, asLT, asT, asB, asA_some, asA_none, asO, asOL, asOD, asKey, asDic, asSq, oLen, oMod, oAdd, oSub, oMul, oDiv, oMax, oMin, oPlus, oEqX, oNeX, eqX_int, eqX_str, eqX_bl, oCmp, oLtX, oLeX, oGtX, oGeX, oIxX, oInX, wCB, wCons, wNil, wVar, wMove, nth, put, startR, wNext, wRet, wRetN, wDrop, wFor, wiR1, wiR2, wiX, itemsOf, wgName, wgTup, wgCons, wgNil, wLend, wLendT, seeR_cons, seeR_nil, seeO_d, seeO_none, seeO_ol, seeO_od, wJoin, wM, oAppend, oPop, oPopAt, wDPut, wDPop, wSortK, wDict0, wTup, wLst, wCall, wAnd, wOr, wNot, wAndV, wOrV, wNotV, wIf, wYes, wLc, wiEnumX, oListX, oTuple, oSort, oSortSet, oAll, oAny, S.fz, S.own, D.flat, txts_map, bools_map, txtKeys_map, List.length_map, List.map_cons, List.map_nil, List.length_cons, List.length_nil, List.cons_append, List.nil_append, List.replicate, decide_eq_true_eq, Bool.not_eq_true', Bool.not_true, Bool.not_false, if_true, if_false, Nat.zero_add, Nat.reduceAdd, Nat.reduceSub, ge_iff_le, true_and, and_true, zip_unzip, Bool.false_xor, Bool.true_xor, Bool.false_eq_true, Bool.true_eq_false, reduceIte, wipeR, dataR_cons, dataR_nil, dataO_d, dataO_none, dataO_ol, dataO_od, oDict, oIsi, tyD, isiB, wSl, wPart, wNoP, oSl, wDisp1, wDGet2, oRemove, atI_0, atI_1, atI_2, wiRev, revItems, oDictP, wForK, wiKeys, kD, oSortX, oPow, oBitAnd, oShl, oNeg, wUn, oInt, oStr, oDivmod, oIs, isD, wChain, wFz, wFzE, frzR, wLSet, wiZip, seqsD, wiVals, wiItems, wOIx, wNo, Option.isSome_some, oMulX, wM1, oSplit, oPart, oStrip1, oRep, oSum, intsD, wRaise, wLI, wLK
, wiR3, wLR, wDisp, wPairs, oReverse, oClear, oInsert, wRevL, wDZ, seqLT, oSortIT, wOFld, wSFld, asOI, setOI, putG, wPar, wiItemsC, wiValsC, wIndexL]
      rw [tx7, asA_some]
      refine ⟨by decide, ?_⟩
      simp only [w_L_text_16f_t4, wSeq, wSet, wAsg, wC, wIfS, wB, wOp, oI, oI0, asI, asS, asL, asLT, asT, asB, asA_some, asA_none, asO, asOL, asOD, asKey, asDic, asSq, oLen, oMod, oAdd, oSub, oMul, oDiv, oMax, oMin, oPlus, oEqX, oNeX, eqX_int, eqX_str, eqX_bl, oCmp, oLtX, oLeX, oGtX, oGeX, oIxX, oInX, wCB, wCons, wNil, wVar, wMove, nth, put, startR, wNext, wRet, wRetN, wDrop, wFor, wiR1, wiR2, wiX, itemsOf, wgName, wgTup, wgCons, wgNil, wLend, wLendT, seeR_cons, seeR_nil, seeO_d, seeO_none, seeO_ol, seeO_od, wJoin, wM, oAppend, oPop, oPopAt, wDPut, wDPop, wSortK, wDict0, wTup, wLst, wCall, wAnd, wOr, wNot, wAndV, wOrV, wNotV, wIf, wYes, wLc, wiEnumX, oListX, oTuple, oSort, oSortSet, oAll, oAny, S.fz, S.own, D.flat, txts_map, bools_map, txtKeys_map, List.length_map, List.map_cons, List.map_nil, List.length_cons, List.length_nil, List.cons_append, List.nil_append, List.replicate, decide_eq_true_eq, Bool.not_eq_true', Bool.not_true, Bool.not_false, if_true, if_false, Nat.zero_add, Nat.reduceAdd, Nat.reduceSub, ge_iff_le, true_and, and_true, zip_unzip, Bool.false_xor, Bool.true_xor, Bool.false_eq_true, Bool.true_eq_false, reduceIte, wipeR, dataR_cons, dataR_nil, dataO_d, dataO_none, dataO_ol, dataO_od, oDict, oIsi, tyD, isiB, wSl, wPart, wNoP, oSl, wDisp1, wDGet2, oRemove, atI_0, atI_1, atI_2, wiRev, revItems, oDictP, wForK, wiKeys, kD, oSortX, oPow, oBitAnd, oShl, oNeg, wUn, oInt, oStr, oDivmod, oIs, isD, wChain, wFz, wFzE, frzR, wLSet, wiZip, seqsD, wiVals, wiItems, wOIx, wNo, Option.isSome_some, oMulX, wM1, oSplit, oPart, oStrip1, oRep, oSum, intsD, wRaise, wLI, wLK
, wiR3, wLR, wDisp, wPairs, oReverse, oClear, oInsert, wRevL, wDZ, seqLT, oSortIT, wOFld, wSFld, asOI, setOI, putG, wPar, wiItemsC, wiValsC, wIndexL]
      refine ⟨a, rfl, ⟨by omega, by omega⟩, ?_⟩
      have e1 : Str.length "(" = 1 := by decide +kernel
      have e2 : Str.length ")" = 1 := by decide +kernel
      have e3 := sign_len k
      refine ⟨by rw [e1, len0]; omega, by rw [len_app, e1, e3, len0]; omega, b, rfl, ⟨by omega, by omega⟩, ?_⟩
      exact ⟨by rw [len_app, len_app, e1, e3, len0]; omega, by rw [len_app, len_app, len_app, e1, e2, e3, len0]; omega, h⟩
  · exact h.elim
def sp_L_written_ba0 : DSp := fun ds P _ => match ds with
  | [d] => ∃ (s : Str) (l : List (Tree × Tree)), d = .lst (l.map tpair2) ∧ (l.length ≤ 10 ∧ ∀ q ∈ l, PairO s 20 q) ∧ P (.ol (l.map fun q => .str (q.1.txt ++ " = " ++ q.2.txt)))
  | _ => False
abbrev N_L_written_ba0 : List Str := ["_law_wishes_here", "_law_left", "_law_right"]
def w_L_written_ba0 : WS := (wRet (wLc (wiX (wVar 0)) (wgTup 2 (wgCons (wgName 1) (wgCons (wgName 2) wgNil))) wYes (wOp oPlus (wOp oPlus (wCall sp_L_text_16f (fun _ _ => False) (wCons (wVar 1) wNil)) (wC (.str " = "))) (wCall sp_L_text_16f (fun _ _ => False) (wCons (wVar 2) wNil))) [1, 2]))
theorem len_L_written_ba0 {ds Q px} (h : sp_L_written_ba0 ds Q px) : ds.length = 1 := by unfold sp_L_written_ba0 at h; split at h <;> first | rfl | exact h.elim
theorem rd_L_written_ba0 {ds Q px} (h : sp_L_written_ba0 ds Q px) : w_L_written_ba0 ⟨fun _ => Q (.d .non), Q, fun _ => False, fun _ => False⟩ (startR N_L_written_ba0 ds) := by
  unfold sp_L_written_ba0 at h
  split at h
  · obtain ⟨s, l, rfl, ⟨l4, lo⟩, hq⟩ := h
    unfold w_L_written_ba0
    simp only [N_L_written_ba0, wSeq, wSet, wAsg, wC, wIfS, wB, wOp, oI, oI0, asI, asS, asL, asLT, asT, asB, asA_some, asA_none, asO, asOL, asOD, asKey, asDic, asSq, oLen, oMod, oAdd, oSub, oMul, oDiv, oMax, oMin, oPlus, oEqX, oNeX, eqX_int, eqX_str, eqX_bl, oCmp, oLtX, oLeX, oGtX, oGeX, oIxX, oInX, wCB, wCons, wNil, wVar, wMove, nth, put, startR, wNext, wRet, wRetN, wDrop, wFor, wiR1, wiR2, wiX, itemsOf, wgName, wgTup, wgCons, wgNil, wLend, wLendT, seeR_cons, seeR_nil, seeO_d, seeO_none, seeO_ol, seeO_od, wJoin, wM, oAppend, oPop, oPopAt, wDPut, wDPop, wSortK, wDict0, wTup, wLst, wCall, wAnd, wOr, wNot, wAndV, wOrV, wNotV, wIf, wYes, wLc, wiEnumX, oListX, oTuple, oSort, oSortSet, oAll, oAny, S.fz, S.own, D.flat, txts_map, bools_map, txtKeys_map, List.length_map, List.map_cons, List.map_nil, List.length_cons, List.length_nil, List.cons_append, List.nil_append, List.replicate, decide_eq_true_eq, Bool.not_eq_true', Bool.not_true, Bool.not_false, if_true, if_false, Nat.zero_add, Nat.reduceAdd, Nat.reduceSub, ge_iff_le, true_and, and_true, zip_unzip, Bool.false_xor, Bool.true_xor, Bool.false_eq_true, Bool.true_eq_false, reduceIte, wipeR, dataR_cons, dataR_nil, dataO_d, dataO_none, dataO_ol, dataO_od, oDict, oIsi, tyD, isiB, wSl, wPart, wNoP, oSl, wDisp1, wDGet2, oRemove, atI_0, atI_1, atI_2, wiRev, revItems, oDictP, wForK, wiKeys, kD, oSortX, oPow, oBitAnd, oShl, oNeg, wUn, oInt, oStr, oDivmod, oIs, isD, wChain, wFz, wFzE, frzR, wLSet, wiZip, seqsD, wiVals, wiItems, wOIx, wNo, Option.isSome_some, oMulX, wM1, oSplit, oPart, oStrip1, oRep, oSum, intsD, wRaise, wLI, wLK
, wiR3, wLR, wDisp, wPairs, oReverse, oClear, oInsert, wRevL, wDZ, seqLT, oSortIT, wOFld, wSFld, asOI, setOI, putG, wPar, wiItemsC, wiValsC, wIndexL]
    refine ⟨by rw [len0]; omega, ?_⟩
    refine compD_map mono_pair (fun q : Tree × Tree => some (.str (q.1.txt ++ " = " ++ q.2.txt))) l _ (fun q hq Q' hQ => ?_) ?_
    · obtain ⟨⟨s1, _⟩, s2, _⟩ := lo q hq
      have t1 := txt_len q.1
      have t2 := txt_len q.2
      simp only [tpair2, wSeq, wSet, wAsg, wC, wIfS, wB, wOp, oI, oI0, asI, asS, asL, asLT, asT, asB, asA_some, asA_none, asO, asOL, asOD, asKey, asDic, asSq, oLen, oMod, oAdd, oSub, oMul, oDiv, oMax, oMin, oPlus, oEqX, oNeX, eqX_int, eqX_str, eqX_bl, oCmp, oLtX, oLeX, oGtX, oGeX, oIxX, oInX, wCB, wCons, wNil, wVar, wMove, nth, put, startR, wNext, wRet, wRetN, wDrop, wFor, wiR1, wiR2, wiX, itemsOf, wgName, wgTup, wgCons, wgNil, wLend, wLendT, seeR_cons, seeR_nil, seeO_d, seeO_none, seeO_ol, seeO_od, wJoin, wM, oAppend, oPop, oPopAt, wDPut, wDPop, wSortK, wDict0, wTup, wLst, wCall, wAnd, wOr, wNot, wAndV, wOrV, wNotV, wIf, wYes, wLc, wiEnumX, oListX, oTuple, oSort, oSortSet, oAll, oAny, S.fz, S.own, D.flat, txts_map, bools_map, txtKeys_map, List.length_map, List.map_cons, List.map_nil, List.length_cons, List.length_nil, List.cons_append, List.nil_append, List.replicate, decide_eq_true_eq, Bool.not_eq_true', Bool.not_true, Bool.not_false, if_true, if_false, Nat.zero_add, Nat.reduceAdd, Nat.reduceSub, ge_iff_le, true_and, and_true, zip_unzip, Bool.false_xor, Bool.true_xor, Bool.false_eq_true, Bool.true_eq_false, reduceIte, wipeR, dataR_cons, dataR_nil, dataO_d, dataO_none, dataO_ol, dataO_od, oDict, oIsi, tyD, isiB, wSl, wPart, wNoP, oSl, wDisp1, wDGet2, oRemove, atI_0, atI_1, atI_2, wiRev, revItems, oDictP, wForK, wiKeys, kD, oSortX, oPow, oBitAnd, oShl, oNeg, wUn, oInt, oStr, oDivmod, oIs, isD, wChain, wFz, wFzE, frzR, wLSet, wiZip, seqsD, wiVals, wiItems, wOIx, wNo, Option.isSome_some, oMulX, wM1, oSplit, oPart, oStrip1, oRep, oSum, intsD, wRaise, wLI, wLK
, wiR3, wLR, wDisp, wPairs, oReverse, oClear, oInsert, wRevL, wDZ, seqLT, oSortIT, wOFld, wSFld, asOI, setOI, putG, wPar, wiItemsC, wiValsC, wIndexL, spr_L_text_16f, sps_L_text_16f]
      have e3 : Str.length " = " = 3 := by decide +kernel
      exact ⟨q.1, rfl, ⟨by omega, by omega⟩, by rw [e3, len0]; omega, q.2, rfl, ⟨by omega, by omega⟩, by rw [len_app, e3, len0]; omega, hQ⟩
    · rw [show l.filterMap (fun q : Tree × Tree => some (D.str (q.1.txt ++ " = " ++ q.2.txt))) = l.map fun q => .str (q.1.txt ++ " = " ++ q.2.txt) from congrFun List.filterMap_eq_map' l]
      exact hq
  · exact h.elim
end DL
set_option maxHeartbeats 2000000
namespace DL
open PySem L2 Tree
theorem ty1 : (Str.ofString "always" = Str.ofString "always") = True := eq_true rfl
theorem ty2 : (Str.ofString "never" = Str.ofString "always") = False := eq_false (by decide +kernel)
theorem ty3 : (Str.ofString "letter" = Str.ofString "letter") = True := eq_true rfl
def sps_L_truth_64c (n : Nat) : DSp := fun ds P _ => match ds with
  | [d, y] => ∃ (t : Tree) (r : Row), d = t.tp2 ∧ y = rowD r ∧ (t.wt ≤ n + 1 ∧ ∀ c ∈ t.cs, c ∈ r.map (·.1)) ∧ P (.d (.bl (t.tru (rowF r))))
  | _ => False
def spr_L_truth_64c : Nat → DSp
  | 0 => fun _ _ _ => False
  | n + 1 => sps_L_truth_64c n
abbrev sp_L_truth_64c : DSp := spr_L_truth_64c 70
abbrev N_L_truth_64c : List Str := ["_law_tree_here", "_law_row_here", "_law_one", "_law_other"]
def w_L_truth_64c_t7 (n : Nat) : WS := (wRet (wOp oNeX (wVar 2) (wVar 3)))
def w_L_truth_64c_t6 (n : Nat) : WS := wSeq (wIfS (wB (wOp oEqX (wOp oIxX (wVar 0) (wC (.int 0))) (wC (.str "or")))) (wRet (wOrV (wVar 2) (wVar 3))) wNext)
    (w_L_truth_64c_t7 n)
def w_L_truth_64c_t5 (n : Nat) : WS := wSeq (wIfS (wB (wOp oEqX (wOp oIxX (wVar 0) (wC (.int 0))) (wC (.str "and")))) (wRet (wAndV (wVar 2) (wVar 3))) wNext)
    (w_L_truth_64c_t6 n)
def w_L_truth_64c_t4 (n : Nat) : WS := wSeq (wAsg (wCall (spr_L_truth_64c n) (fun _ _ => False) (wCons (wOp oIxX (wVar 0) (wC (.int 2))) (wCons (wVar 1) wNil))) (wgName 3))
    (w_L_truth_64c_t5 n)
def w_L_truth_64c_t3 (n : Nat) : WS := wSeq (wIfS (wB (wOp oEqX (wOp oIxX (wVar 0) (wC (.int 0))) (wC (.str "not")))) (wRet (wNotV (wVar 2))) wNext)
    (w_L_truth_64c_t4 n)
def w_L_truth_64c_t2 (n : Nat) : WS := wSeq (wAsg (wCall (spr_L_truth_64c n) (fun _ _ => False) (wCons (wOp oIxX (wVar 0) (wC (.int 1))) (wCons (wVar 1) wNil))) (wgName 2))
    (w_L_truth_64c_t3 n)
def w_L_truth_64c_t1 (n : Nat) : WS := wSeq (wIfS (wB (wOp oEqX (wOp oIxX (wVar 0) (wC (.int 0))) (wC (.str "letter")))) (wRet (wOp oIxX (wVar 1) (wOp oIxX (wVar 0) (wC (.int 1))))) wNext)
    (w_L_truth_64c_t2 n)
def w_L_truth_64c (n : Nat) : WS := wSeq (wIfS (wB (wOp oEqX (wCB oLen (wCons (wVar 0) wNil)) (wC (.int 1)))) (wRet (wOp oEqX (wOp oIxX (wVar 0) (wC (.int 0))) (wC (.str "always")))) wNext)
    (w_L_truth_64c_t1 n)
theorem len_L_truth_64c {n : Nat} {ds Q px} (h : spr_L_truth_64c (n + 1) ds Q px) : ds.length = 2 := by replace h : sps_L_truth_64c n ds Q px := h; unfold sps_L_truth_64c at h; split at h <;> first | rfl | exact h.elim
theorem rd_L_truth_64c {n : Nat} {ds Q px} (h : spr_L_truth_64c (n + 1) ds Q px) : w_L_truth_64c n ⟨fun _ => Q (.d .non), Q, fun _ => False, fun _ => False⟩ (startR N_L_truth_64c ds) := by
  replace h : sps_L_truth_64c n ds Q px := h
  unfold sps_L_truth_64c at h
  split at h
  · obtain ⟨t, r, rfl, rfl, ⟨h1, h2⟩, h⟩ := h
    unfold w_L_truth_64c
    cases t with
    | «let» c =>
      simp only [N_L_truth_64c, Tree.tp2, w_L_truth_64c_t1, wSeq, wSet, wAsg, wC, wIfS, wB, wOp, oI, oI0, asI, asS, asL, asLT, asT, asB, asA_some, asA_none, asO, asOL, asOD, asKey, asDic, asSq, oLen, oMod, oAdd, oSub, oMul, oDiv, oMax, oMin, oPlus, oEqX, oNeX, eqX_int, eqX_str, eqX_bl, oCmp, oLtX, oLeX, oGtX, oGeX, oIxX, oInX, wCB, wCons, wNil, wVar, wMove, nth, put, startR, wNext, wRet, wRetN, wDrop, wFor, wiR1, wiR2, wiX, itemsOf, wgName, wgTup, wgCons, wgNil, wLend, wLendT, seeR_cons, seeR_nil, seeO_d, seeO_none, seeO_ol, seeO_od, wJoin, wM, oAppend, oPop, oPopAt, wDPut, wDPop, wSortK, wDict0, wTup, wLst, wCall, wAnd, wOr, wNot, wAndV, wOrV, wNotV, wIf, wYes, wLc, wiEnumX, oListX, oTuple, oSort, oSortSet, oAll, oAny, S.fz, S.own, D.flat, txts_map, bools_map, txtKeys_map, List.length_map, List.map_cons, List.map_nil, List.length_cons, List.length_nil, List.cons_append, List.nil_append, List.replicate, decide_eq_true_eq, Bool.not_eq_true', Bool.not_true, Bool.not_false, if_true, if_false, Nat.zero_add, Nat.reduceAdd, Nat.reduceSub, ge_iff_le, true_and, and_true, zip_unzip, Bool.false_xor, Bool.true_xor, Bool.false_eq_true, Bool.true_eq_false, reduceIte, wipeR, dataR_cons, dataR_nil, dataO_d, dataO_none, dataO_ol, dataO_od, oDict, oIsi, tyD, isiB, wSl, wPart, wNoP, oSl, wDisp1, wDGet2, oRemove, atI_0, atI_1, atI_2, wiRev, revItems, oDictP, wForK, wiKeys, kD, oSortX, oPow, oBitAnd, oShl, oNeg, wUn, oInt, oStr, oDivmod, oIs, isD, wChain, wFz, wFzE, frzR, wLSet, wiZip, seqsD, wiVals, wiItems, wOIx, wNo, Option.isSome_some, oMulX, wM1, oSplit, oPart, oStrip1, oRep, oSum, intsD, wRaise, wLI, wLK
, wiR3, wLR, wDisp, wPairs, oReverse, oClear, oInsert, wRevL, wDZ, seqLT, oSortIT, wOFld, wSFld, asOI, setOI, putG, wPar, wiItemsC, wiValsC, wIndexL, ty3]
      rw [if_neg (by decide)]
      simp only [rowD, rowK_zip, wSeq, wSet, wAsg, wC, wIfS, wB, wOp, oI, oI0, asI, asS, asL, asLT, asT, asB, asA_some, asA_none, asO, asOL, asOD, asKey, asDic, asSq, oLen, oMod, oAdd, oSub, oMul, oDiv, oMax, oMin, oPlus, oEqX, oNeX, eqX_int, eqX_str, eqX_bl, oCmp, oLtX, oLeX, oGtX, oGeX, oIxX, oInX, wCB, wCons, wNil, wVar, wMove, nth, put, startR, wNext, wRet, wRetN, wDrop, wFor, wiR1, wiR2, wiX, itemsOf, wgName, wgTup, wgCons, wgNil, wLend, wLendT, seeR_cons, seeR_nil, seeO_d, seeO_none, seeO_ol, seeO_od, wJoin, wM, oAppend, oPop, oPopAt, wDPut, wDPop, wSortK, wDict0, wTup, wLst, wCall, wAnd, wOr, wNot, wAndV, wOrV, wNotV, wIf, wYes, wLc, wiEnumX, oListX, oTuple, oSort, oSortSet, oAll, oAny, S.fz, S.own, D.flat, txts_map, bools_map, txtKeys_map, List.length_map, List.map_cons, List.map_nil, List.length_cons, List.length_nil, List.cons_append, List.nil_append, List.replicate, decide_eq_true_eq, Bool.not_eq_true', Bool.not_true, Bool.not_false, if_true, if_false, Nat.zero_add, Nat.reduceAdd, Nat.reduceSub, ge_iff_le, true_and, and_true, zip_unzip, Bool.false_xor, Bool.true_xor, Bool.false_eq_true, Bool.true_eq_false, reduceIte, wipeR, dataR_cons, dataR_nil, dataO_d, dataO_none, dataO_ol, dataO_od, oDict, oIsi, tyD, isiB, wSl, wPart, wNoP, oSl, wDisp1, wDGet2, oRemove, atI_0, atI_1, atI_2, wiRev, revItems, oDictP, wForK, wiKeys, kD, oSortX, oPow, oBitAnd, oShl, oNeg, wUn, oInt, oStr, oDivmod, oIs, isD, wChain, wFz, wFzE, frzR, wLSet, wiZip, seqsD, wiVals, wiItems, wOIx, wNo, Option.isSome_some, oMulX, wM1, oSplit, oPart, oStrip1, oRep, oSum, intsD, wRaise, wLI, wLK
, wiR3, wLR, wDisp, wPairs, oReverse, oClear, oInsert, wRevL, wDZ, seqLT, oSortIT, wOFld, wSFld, asOI, setOI, putG, wPar, wiItemsC, wiValsC, wIndexL]
      rw [vget_row (h2 c (by rw [cs]; simp)), asA_some]
      exact h
    | one =>
      simp only [N_L_truth_64c, Tree.tp2, wSeq, wSet, wAsg, wC, wIfS, wB, wOp, oI, oI0, asI, asS, asL, asLT, asT, asB, asA_some, asA_none, asO, asOL, asOD, asKey, asDic, asSq, oLen, oMod, oAdd, oSub, oMul, oDiv, oMax, oMin, oPlus, oEqX, oNeX, eqX_int, eqX_str, eqX_bl, oCmp, oLtX, oLeX, oGtX, oGeX, oIxX, oInX, wCB, wCons, wNil, wVar, wMove, nth, put, startR, wNext, wRet, wRetN, wDrop, wFor, wiR1, wiR2, wiX, itemsOf, wgName, wgTup, wgCons, wgNil, wLend, wLendT, seeR_cons, seeR_nil, seeO_d, seeO_none, seeO_ol, seeO_od, wJoin, wM, oAppend, oPop, oPopAt, wDPut, wDPop, wSortK, wDict0, wTup, wLst, wCall, wAnd, wOr, wNot, wAndV, wOrV, wNotV, wIf, wYes, wLc, wiEnumX, oListX, oTuple, oSort, oSortSet, oAll, oAny, S.fz, S.own, D.flat, txts_map, bools_map, txtKeys_map, List.length_map, List.map_cons, List.map_nil, List.length_cons, List.length_nil, List.cons_append, List.nil_append, List.replicate, decide_eq_true_eq, Bool.not_eq_true', Bool.not_true, Bool.not_false, if_true, if_false, Nat.zero_add, Nat.reduceAdd, Nat.reduceSub, ge_iff_le, true_and, and_true, zip_unzip, Bool.false_xor, Bool.true_xor, Bool.false_eq_true, Bool.true_eq_false, reduceIte, wipeR, dataR_cons, dataR_nil, dataO_d, dataO_none, dataO_ol, dataO_od, oDict, oIsi, tyD, isiB, wSl, wPart, wNoP, oSl, wDisp1, wDGet2, oRemove, atI_0, atI_1, atI_2, wiRev, revItems, oDictP, wForK, wiKeys, kD, oSortX, oPow, oBitAnd, oShl, oNeg, wUn, oInt, oStr, oDivmod, oIs, isD, wChain, wFz, wFzE, frzR, wLSet, wiZip, seqsD, wiVals, wiItems, wOIx, wNo, Option.isSome_some, oMulX, wM1, oSplit, oPart, oStrip1, oRep, oSum, intsD, wRaise, wLI, wLK
, wiR3, wLR, wDisp, wPairs, oReverse, oClear, oInsert, wRevL, wDZ, seqLT, oSortIT, wOFld, wSFld, asOI, setOI, putG, wPar, wiItemsC, wiValsC, wIndexL, ty1]
      rw [if_pos (by decide)]
      rw [tru] at h
      simpa using h
    | zero =>
      simp only [N_L_truth_64c, Tree.tp2, wSeq, wSet, wAsg, wC, wIfS, wB, wOp, oI, oI0, asI, asS, asL, asLT, asT, asB, asA_some, asA_none, asO, asOL, asOD, asKey, asDic, asSq, oLen, oMod, oAdd, oSub, oMul, oDiv, oMax, oMin, oPlus, oEqX, oNeX, eqX_int, eqX_str, eqX_bl, oCmp, oLtX, oLeX, oGtX, oGeX, oIxX, oInX, wCB, wCons, wNil, wVar, wMove, nth, put, startR, wNext, wRet, wRetN, wDrop, wFor, wiR1, wiR2, wiX, itemsOf, wgName, wgTup, wgCons, wgNil, wLend, wLendT, seeR_cons, seeR_nil, seeO_d, seeO_none, seeO_ol, seeO_od, wJoin, wM, oAppend, oPop, oPopAt, wDPut, wDPop, wSortK, wDict0, wTup, wLst, wCall, wAnd, wOr, wNot, wAndV, wOrV, wNotV, wIf, wYes, wLc, wiEnumX, oListX, oTuple, oSort, oSortSet, oAll, oAny, S.fz, S.own, D.flat, txts_map, bools_map, txtKeys_map, List.length_map, List.map_cons, List.map_nil, List.length_cons, List.length_nil, List.cons_append, List.nil_append, List.replicate, decide_eq_true_eq, Bool.not_eq_true', Bool.not_true, Bool.not_false, if_true, if_false, Nat.zero_add, Nat.reduceAdd, Nat.reduceSub, ge_iff_le, true_and, and_true, zip_unzip, Bool.false_xor, Bool.true_xor, Bool.false_eq_true, Bool.true_eq_false, reduceIte, wipeR, dataR_cons, dataR_nil, dataO_d, dataO_none, dataO_ol, dataO_od, oDict, oIsi, tyD, isiB, wSl, wPart, wNoP, oSl, wDisp1, wDGet2, oRemove, atI_0, atI_1, atI_2, wiRev, revItems, oDictP, wForK, wiKeys, kD, oSortX, oPow, oBitAnd, oShl, oNeg, wUn, oInt, oStr, oDivmod, oIs, isD, wChain, wFz, wFzE, frzR, wLSet, wiZip, seqsD, wiVals, wiItems, wOIx, wNo, Option.isSome_some, oMulX, wM1, oSplit, oPart, oStrip1, oRep, oSum, intsD, wRaise, wLI, wLK
, wiR3, wLR, wDisp, wPairs, oReverse, oClear, oInsert, wRevL, wDZ, seqLT, oSortIT, wOFld, wSFld, asOI, setOI, putG, wPar, wiItemsC, wiValsC, wIndexL, ty2]
      rw [if_pos (by decide)]
      rw [tru] at h
      simpa using h
    | no t =>
      simp only [N_L_truth_64c, Tree.tp2, w_L_truth_64c_t1, w_L_truth_64c_t2, wSeq, wSet, wAsg, wC, wIfS, wB, wOp, oI, oI0, asI, asS, asL, asLT, asT, asB, asA_some, asA_none, asO, asOL, asOD, asKey, asDic, asSq, oLen, oMod, oAdd, oSub, oMul, oDiv, oMax, oMin, oPlus, oEqX, oNeX, eqX_int, eqX_str, eqX_bl, oCmp, oLtX, oLeX, oGtX, oGeX, oIxX, oInX, wCB, wCons, wNil, wVar, wMove, nth, put, startR, wNext, wRet, wRetN, wDrop, wFor, wiR1, wiR2, wiX, itemsOf, wgName, wgTup, wgCons, wgNil, wLend, wLendT, seeR_cons, seeR_nil, seeO_d, seeO_none, seeO_ol, seeO_od, wJoin, wM, oAppend, oPop, oPopAt, wDPut, wDPop, wSortK, wDict0, wTup, wLst, wCall, wAnd, wOr, wNot, wAndV, wOrV, wNotV, wIf, wYes, wLc, wiEnumX, oListX, oTuple, oSort, oSortSet, oAll, oAny, S.fz, S.own, D.flat, txts_map, bools_map, txtKeys_map, List.length_map, List.map_cons, List.map_nil, List.length_cons, List.length_nil, List.cons_append, List.nil_append, List.replicate, decide_eq_true_eq, Bool.not_eq_true', Bool.not_true, Bool.not_false, if_true, if_false, Nat.zero_add, Nat.reduceAdd, Nat.reduceSub, ge_iff_le, true_and, and_true, zip_unzip, Bool.false_xor, Bool.true_xor, Bool.false_eq_true, Bool.true_eq_false, reduceIte, wipeR, dataR_cons, dataR_nil, dataO_d, dataO_none, dataO_ol, dataO_od, oDict, oIsi, tyD, isiB, wSl, wPart, wNoP, oSl, wDisp1, wDGet2, oRemove, atI_0, atI_1, atI_2, wiRev, revItems, oDictP, wForK, wiKeys, kD, oSortX, oPow, oBitAnd, oShl, oNeg, wUn, oInt, oStr, oDivmod, oIs, isD, wChain, wFz, wFzE, frzR, wLSet, wiZip, seqsD, wiVals, wiItems, wOIx, wNo, Option.isSome_some, oMulX, wM1, oSplit, oPart, oStrip1, oRep, oSum, intsD, wRaise, wLI, wLK
, wiR3, wLR, wDisp, wPairs, oReverse, oClear, oInsert, wRevL, wDZ, seqLT, oSortIT, wOFld, wSFld, asOI, setOI, putG, wPar, wiItemsC, wiValsC, wIndexL, tx3]
      rw [if_neg (by decide)]
      rw [wt] at h1
      have := wt_pos t
      obtain ⟨q, rfl⟩ : ∃ q, n = q + 1 := ⟨n - 1, by omega⟩
      refine ⟨t, r, rfl, rfl, ⟨by omega, fun c hc => h2 c hc⟩, ?_⟩
      simp only [w_L_truth_64c_t3, wSeq, wSet, wAsg, wC, wIfS, wB, wOp, oI, oI0, asI, asS, asL, asLT, asT, asB, asA_some, asA_none, asO, asOL, asOD, asKey, asDic, asSq, oLen, oMod, oAdd, oSub, oMul, oDiv, oMax, oMin, oPlus, oEqX, oNeX, eqX_int, eqX_str, eqX_bl, oCmp, oLtX, oLeX, oGtX, oGeX, oIxX, oInX, wCB, wCons, wNil, wVar, wMove, nth, put, startR, wNext, wRet, wRetN, wDrop, wFor, wiR1, wiR2, wiX, itemsOf, wgName, wgTup, wgCons, wgNil, wLend, wLendT, seeR_cons, seeR_nil, seeO_d, seeO_none, seeO_ol, seeO_od, wJoin, wM, oAppend, oPop, oPopAt, wDPut, wDPop, wSortK, wDict0, wTup, wLst, wCall, wAnd, wOr, wNot, wAndV, wOrV, wNotV, wIf, wYes, wLc, wiEnumX, oListX, oTuple, oSort, oSortSet, oAll, oAny, S.fz, S.own, D.flat, txts_map, bools_map, txtKeys_map, List.length_map, List.map_cons, List.map_nil, List.length_cons, List.length_nil, List.cons_append, List.nil_append, List.replicate, decide_eq_true_eq, Bool.not_eq_true', Bool.not_true, Bool.not_false, if_true, if_false, Nat.zero_add, Nat.reduceAdd, Nat.reduceSub, ge_iff_le, true_and, and_true, zip_unzip, Bool.false_xor, Bool.true_xor, Bool.false_eq_true, Bool.true_eq_false, reduceIte, wipeR, dataR_cons, dataR_nil, dataO_d, dataO_none, dataO_ol, dataO_od, oDict, oIsi, tyD, isiB, wSl, wPart, wNoP, oSl, wDisp1, wDGet2, oRemove, atI_0, atI_1, atI_2, wiRev, revItems, oDictP, wForK, wiKeys, kD, oSortX, oPow, oBitAnd, oShl, oNeg, wUn, oInt, oStr, oDivmod, oIs, isD, wChain, wFz, wFzE, frzR, wLSet, wiZip, seqsD, wiVals, wiItems, wOIx, wNo, Option.isSome_some, oMulX, wM1, oSplit, oPart, oStrip1, oRep, oSum, intsD, wRaise, wLI, wLK
, wiR3, wLR, wDisp, wPairs, oReverse, oClear, oInsert, wRevL, wDZ, seqLT, oSortIT, wOFld, wSFld, asOI, setOI, putG, wPar, wiItemsC, wiValsC, wIndexL, tx4]
      exact h
    | pr k a b =>
      simp only [N_L_truth_64c, Tree.tp2, w_L_truth_64c_t1, w_L_truth_64c_t2, wSeq, wSet, wAsg, wC, wIfS, wB, wOp, oI, oI0, asI, asS, asL, asLT, asT, asB, asA_some, asA_none, asO, asOL, asOD, asKey, asDic, asSq, oLen, oMod, oAdd, oSub, oMul, oDiv, oMax, oMin, oPlus, oEqX, oNeX, eqX_int, eqX_str, eqX_bl, oCmp, oLtX, oLeX, oGtX, oGeX, oIxX, oInX, wCB, wCons, wNil, wVar, wMove, nth, put, startR, wNext, wRet, wRetN, wDrop, wFor, wiR1, wiR2, wiX, itemsOf, wgName, wgTup, wgCons, wgNil, wLend, wLendT, seeR_cons, seeR_nil, seeO_d, seeO_none, seeO_ol, seeO_od, wJoin, wM, oAppend, oPop, oPopAt, wDPut, wDPop, wSortK, wDict0, wTup, wLst, wCall, wAnd, wOr, wNot, wAndV, wOrV, wNotV, wIf, wYes, wLc, wiEnumX, oListX, oTuple, oSort, oSortSet, oAll, oAny, S.fz, S.own, D.flat, txts_map, bools_map, txtKeys_map, List.length_map, List.map_cons, List.map_nil, List.length_cons, List.length_nil, List.cons_append, List.nil_append, List.replicate, decide_eq_true_eq, Bool.not_eq_true', Bool.not_true, Bool.not_false, if_true, if_false, Nat.zero_add, Nat.reduceAdd, Nat.reduceSub, ge_iff_le, true_and, and_true, zip_unzip, Bool.false_xor, Bool.true_xor, Bool.false_eq_true, Bool.true_eq_false, reduceIte, wipeR, dataR_cons, dataR_nil, dataO_d, dataO_none, dataO_ol, dataO_od, oDict, oIsi, tyD, isiB, wSl, wPart, wNoP, oSl, wDisp1, wDGet2, oRemove, atI_0, atI_1, atI_2, wiRev, revItems, oDictP, wForK, wiKeys, kD, oSortX, oPow, oBitAnd, oShl, oNeg, wUn, oInt, oStr, oDivmod, oIs, isD, wChain, wFz, wFzE, frzR, wLSet, wiZip, seqsD, wiVals, wiItems, wOIx, wNo, Option.isSome_some, oMulX, wM1, oSplit, oPart, oStrip1, oRep, oSum, intsD, wRaise, wLI, wLK
, wiR3, wLR, wDisp, wPairs, oReverse, oClear, oInsert, wRevL, wDZ, seqLT, oSortIT, wOFld, wSFld, asOI, setOI, putG, wPar, wiItemsC, wiValsC, wIndexL, tx5]
      rw [if_neg (by decide)]
      rw [wt] at h1
      have := wt_pos a
      have := wt_pos b
      obtain ⟨q, rfl⟩ : ∃ q, n = q + 1 := ⟨n - 1, by omega⟩
      refine ⟨a, r, rfl, rfl, ⟨by omega, fun c hc => h2 c (List.mem_append.mpr (.inl hc))⟩, ?_⟩
      simp only [w_L_truth_64c_t3, w_L_truth_64c_t4, wSeq, wSet, wAsg, wC, wIfS, wB, wOp, oI, oI0, asI, asS, asL, asLT, asT, asB, asA_some, asA_none, asO, asOL, asOD, asKey, asDic, asSq, oLen, oMod, oAdd, oSub, oMul, oDiv, oMax, oMin, oPlus, oEqX, oNeX, eqX_int, eqX_str, eqX_bl, oCmp, oLtX, oLeX, oGtX, oGeX, oIxX, oInX, wCB, wCons, wNil, wVar, wMove, nth, put, startR, wNext, wRet, wRetN, wDrop, wFor, wiR1, wiR2, wiX, itemsOf, wgName, wgTup, wgCons, wgNil, wLend, wLendT, seeR_cons, seeR_nil, seeO_d, seeO_none, seeO_ol, seeO_od, wJoin, wM, oAppend, oPop, oPopAt, wDPut, wDPop, wSortK, wDict0, wTup, wLst, wCall, wAnd, wOr, wNot, wAndV, wOrV, wNotV, wIf, wYes, wLc, wiEnumX, oListX, oTuple, oSort, oSortSet, oAll, oAny, S.fz, S.own, D.flat, txts_map, bools_map, txtKeys_map, List.length_map, List.map_cons, List.map_nil, List.length_cons, List.length_nil, List.cons_append, List.nil_append, List.replicate, decide_eq_true_eq, Bool.not_eq_true', Bool.not_true, Bool.not_false, if_true, if_false, Nat.zero_add, Nat.reduceAdd, Nat.reduceSub, ge_iff_le, true_and, and_true, zip_unzip, Bool.false_xor, Bool.true_xor, Bool.false_eq_true, Bool.true_eq_false, reduceIte, wipeR, dataR_cons, dataR_nil, dataO_d, dataO_none, dataO_ol, dataO_od, oDict, oIsi, tyD, isiB, wSl, wPart, wNoP, oSl, wDisp1, wDGet2, oRemove, atI_0, atI_1, atI_2, wiRev, revItems, oDictP, wForK, wiKeys, kD, oSortX, oPow, oBitAnd, oShl, oNeg, wUn, oInt, oStr, oDivmod, oIs, isD, wChain, wFz, wFzE, frzR, wLSet, wiZip, seqsD, wiVals, wiItems, wOIx, wNo, Option.isSome_some, oMulX, wM1, oSplit, oPart, oStrip1, oRep, oSum, intsD, wRaise, wLI, wLK
, wiR3, wLR, wDisp, wPairs, oReverse, oClear, oInsert, wRevL, wDZ, seqLT, oSortIT, wOFld, wSFld, asOI, setOI, putG, wPar, wiItemsC, wiValsC, wIndexL, tx6]
      refine ⟨b, r, rfl, rfl, ⟨by omega, fun c hc => h2 c (List.mem_append.mpr (.inr hc))⟩, ?_⟩
      simp only [w_L_truth_64c_t5, w_L_truth_64c_t6, w_L_truth_64c_t7, wSeq, wSet, wAsg, wC, wIfS, wB, wOp, oI, oI0, asI, asS, asL, asLT, asT, asB, asA_some, asA_none, asO, asOL, asOD, asKey, asDic, asSq, oLen, oMod, oAdd, oSub, oMul, oDiv, oMax, oMin, oPlus, oEqX, oNeX, eqX_int, eqX_str, eqX_bl, oCmp, oLtX, oLeX, oGtX, oGeX, oIxX, oInX, wCB, wCons, wNil, wVar, wMove, nth, put, startR, wNext, wRet, wRetN, wDrop, wFor, wiR1, wiR2, wiX, itemsOf, wgName, wgTup, wgCons, wgNil, wLend, wLendT, seeR_cons, seeR_nil, seeO_d, seeO_none, seeO_ol, seeO_od, wJoin, wM, oAppend, oPop, oPopAt, wDPut, wDPop, wSortK, wDict0, wTup, wLst, wCall, wAnd, wOr, wNot, wAndV, wOrV, wNotV, wIf, wYes, wLc, wiEnumX, oListX, oTuple, oSort, oSortSet, oAll, oAny, S.fz, S.own, D.flat, txts_map, bools_map, txtKeys_map, List.length_map, List.map_cons, List.map_nil, List.length_cons, List.length_nil, List.cons_append, List.nil_append, List.replicate, decide_eq_true_eq, Bool.not_eq_true', Bool.not_true, Bool.not_false, if_true, if_false, Nat.zero_add, Nat.reduceAdd, Nat.reduceSub, ge_iff_le, true_and, and_true, zip_unzip, Bool.false_xor, Bool.true_xor, Bool.false_eq_true, Bool.true_eq_false, reduceIte, wipeR, dataR_cons, dataR_nil, dataO_d, dataO_none, dataO_ol, dataO_od, oDict, oIsi, tyD, isiB, wSl, wPart, wNoP, oSl, wDisp1, wDGet2, oRemove, atI_0, atI_1, atI_2, wiRev, revItems, oDictP, wForK, wiKeys, kD, oSortX, oPow, oBitAnd, oShl, oNeg, wUn, oInt, oStr, oDivmod, oIs, isD, wChain, wFz, wFzE, frzR, wLSet, wiZip, seqsD, wiVals, wiItems, wOIx, wNo, Option.isSome_some, oMulX, wM1, oSplit, oPart, oStrip1, oRep, oSum, intsD, wRaise, wLI, wLK
, wiR3, wLR, wDisp, wPairs, oReverse, oClear, oInsert, wRevL, wDZ, seqLT, oSortIT, wOFld, wSFld, asOI, setOI, putG, wPar, wiItemsC, wiValsC, wIndexL, eqX_bl]
      rw [tru] at h
      cases k
      · rw [if_pos (by decide +kernel)]
        show if a.tru (rowF r) = true then _ else _
        revert h
        show Q (S.d (.bl (a.tru (rowF r) && b.tru (rowF r)))) → _
        cases a.tru (rowF r) <;> exact id
      · rw [if_neg (by decide +kernel), if_pos (by decide +kernel)]
        revert h
        show Q (S.d (.bl (a.tru (rowF r) || b.tru (rowF r)))) → _
        cases a.tru (rowF r) <;> exact id
      · rw [if_neg (by decide +kernel), if_neg (by decide +kernel)]
        revert h
        show Q (S.d (.bl (xor (a.tru (rowF r)) (b.tru (rowF r))))) → _
        cases a.tru (rowF r) <;> cases b.tru (rowF r) <;> exact id
  · exact h.elim
theorem row_menu : ∀ e < 6, atI [D.int 32, D.int 16, D.int 8, D.int 4, D.int 2, D.int 1] ((5 - e : Nat) : Int) = some (.int ((2 ^ e : Nat) : Int)) := by
  intro e he
  have : e = 0 ∨ e = 1 ∨ e = 2 ∨ e = 3 ∨ e = 4 ∨ e = 5 := by omega
  rcases this with rfl | rfl | rfl | rfl | rfl | rfl <;> rfl
theorem enumP_len : ∀ (l : List Str) (i : Nat), (enumP i l).length = l.length
  | [], _ => rfl
  | x :: l, i => by rw [enumP, List.length_cons, List.length_cons, enumP_len l]
theorem enumP_split : ∀ (done : List (Nat × Str)) (cs : List Nat) (i : Nat) (x : Nat × Str) (ys : List (Nat × Str)), enumP i (cs.map one) = done ++ x :: ys → x.1 = i + done.length ∧ ∃ c, x.2 = one c ∧ cs[done.length]? = some c
  | [], [], i, x, ys, h => nomatch h
  | [], c :: cs, i, x, ys, h => by
    rw [List.map_cons, enumP, List.nil_append, List.cons.injEq] at h
    obtain ⟨rfl, _⟩ := h
    exact ⟨rfl, c, rfl, rfl⟩
  | d :: done, [], i, x, ys, h => nomatch h
  | d :: done, c :: cs, i, x, ys, h => by
    rw [List.map_cons, enumP, List.cons_append, List.cons.injEq] at h
    obtain ⟨e1, c', e2, e3⟩ := enumP_split done cs (i + 1) x ys h.2
    exact ⟨by rw [e1, List.length_cons]; omega, c', e2, by simpa using e3⟩
theorem rowN_at {n : Nat} : ∀ {cs : List Nat} {j c : Nat}, cs[j]? = some c → (rowN cs n)[j]? = some (c, decide (n / 2 ^ (cs.length - 1 - j) % 2 = 1))
  | [], j, c, h => by simp at h
  | d :: cs, 0, c, h => by
    have : d = c := by simpa using h
    subst this
    rw [rowN_cons]; simp
  | d :: cs, j + 1, c, h => by
    have h' : cs[j]? = some c := by simpa using h
    rw [rowN_cons, List.getElem?_cons_succ, rowN_at h', List.length_cons]
    have hl := (List.getElem?_eq_some_iff.mp h').1
    rw [show cs.length + 1 - 1 - (j + 1) = cs.length - 1 - j by omega]
def sp_L_row_c72 : DSp := fun ds P _ => match ds with
  | [.str s, .int i] => ∃ n : Nat, i = n ∧ (Prd s ∧ (sg s).length ≤ 6) ∧ P (.od (rowK (rowN (sg s) n)))
  | _ => False
abbrev N_L_row_c72 : List Str := ["_law_letters_here", "_law_number", "_law_row_here", "_law_k", "_law_letter"]
def w_L_row_c72_t2 : WS := (wRet (wMove 2))
def w_L_row_c72_t1 : WS := wSeq (wFor (wiEnumX (wCons (wVar 0) wNil)) (wgTup 2 (wgCons (wgName 3) (wgCons (wgName 4) wgNil)))
      (wDPut 2 (wVar 4) (wOp oEqX (wOp oMod (wOp oDiv (wVar 1) (wOp oIxX (wLst (wCons (wC (.int 32)) (wCons (wC (.int 16)) (wCons (wC (.int 8)) (wCons (wC (.int 4)) (wCons (wC (.int 2)) (wCons (wC (.int 1)) wNil))))))) (wOp oPlus (wOp oSub (wC (.int 6)) (wCB oLen (wCons (wVar 0) wNil))) (wVar 3)))) (wC (.int 2))) (wC (.int 1)))))
    w_L_row_c72_t2
def w_L_row_c72 : WS := wSeq (wSet 2 wDict0)
    w_L_row_c72_t1
theorem len_L_row_c72 {ds Q px} (h : sp_L_row_c72 ds Q px) : ds.length = 2 := by unfold sp_L_row_c72 at h; split at h <;> first | rfl | exact h.elim
theorem rd_L_row_c72 {ds Q px} (h : sp_L_row_c72 ds Q px) : w_L_row_c72 ⟨fun _ => Q (.d .non), Q, fun _ => False, fun _ => False⟩ (startR N_L_row_c72 ds) := by
  unfold sp_L_row_c72 at h
  split at h
  · rename_i s i
    obtain ⟨n, rfl, ⟨hs, h6⟩, hq⟩ := h
    unfold w_L_row_c72
    simp only [N_L_row_c72, w_L_row_c72_t1, wSeq, wSet, wAsg, wC, wIfS, wB, wOp, oI, oI0, asI, asS, asL, asLT, asT, asB, asA_some, asA_none, asO, asOL, asOD, asKey, asDic, asSq, oLen, oMod, oAdd, oSub, oMul, oDiv, oMax, oMin, oPlus, oEqX, oNeX, eqX_int, eqX_str, eqX_bl, oCmp, oLtX, oLeX, oGtX, oGeX, oIxX, oInX, wCB, wCons, wNil, wVar, wMove, nth, put, startR, wNext, wRet, wRetN, wDrop, wFor, wiR1, wiR2, wiX, itemsOf, wgName, wgTup, wgCons, wgNil, wLend, wLendT, seeR_cons, seeR_nil, seeO_d, seeO_none, seeO_ol, seeO_od, wJoin, wM, oAppend, oPop, oPopAt, wDPut, wDPop, wSortK, wDict0, wTup, wLst, wCall, wAnd, wOr, wNot, wAndV, wOrV, wNotV, wIf, wYes, wLc, wiEnumX, oListX, oTuple, oSort, oSortSet, oAll, oAny, S.fz, S.own, D.flat, txts_map, bools_map, txtKeys_map, List.length_map, List.map_cons, List.map_nil, List.length_cons, List.length_nil, List.cons_append, List.nil_append, List.replicate, decide_eq_true_eq, Bool.not_eq_true', Bool.not_true, Bool.not_false, if_true, if_false, Nat.zero_add, Nat.reduceAdd, Nat.reduceSub, ge_iff_le, true_and, and_true, zip_unzip, Bool.false_xor, Bool.true_xor, Bool.false_eq_true, Bool.true_eq_false, reduceIte, wipeR, dataR_cons, dataR_nil, dataO_d, dataO_none, dataO_ol, dataO_od, oDict, oIsi, tyD, isiB, wSl, wPart, wNoP, oSl, wDisp1, wDGet2, oRemove, atI_0, atI_1, atI_2, wiRev, revItems, oDictP, wForK, wiKeys, kD, oSortX, oPow, oBitAnd, oShl, oNeg, wUn, oInt, oStr, oDivmod, oIs, isD, wChain, wFz, wFzE, frzR, wLSet, wiZip, seqsD, wiVals, wiItems, wOIx, wNo, Option.isSome_some, oMulX, wM1, oSplit, oPart, oStrip1, oRep, oSum, intsD, wRaise, wLI, wLK
, wiR3, wLR, wDisp, wPairs, oReverse, oClear, oInsert, wRevL, wDZ, seqLT, oSortIT, wOFld, wSFld, asOI, setOI, putG, wPar, wiItemsC, wiValsC, wIndexL]
    rw [signs_eq, enumD_map]
    have hn : (sg s).Nodup := up_nodup hs.up
    refine forD_map (I := fun done _ ρ => ∃ o3 o4 : Option S, ρ = [some (.d (.str s)), some (.d (.int (n : Nat))), some (.od (rowK ((rowN (sg s) n).take done.length))), o3, o4]) mono_pair (enumP 0 ((sg s).map one)) (fun done x ys ρ he hI => ?_) (fun ρ hI => ?_) _ ⟨none, none, by simp [rowK]⟩
    · obtain ⟨o3, o4, rfl⟩ := hI
      obtain ⟨e1, c, e2, e3⟩ := enumP_split _ _ _ _ _ he
      have hlt : done.length < (sg s).length := (List.getElem?_eq_some_iff.mp e3).1
      have er := rowN_at (n := n) e3
      have et : (rowN (sg s) n).take (done ++ [x]).length = (rowN (sg s) n).take done.length ++ [(c, decide (n / 2 ^ ((sg s).length - 1 - done.length) % 2 = 1))] := by
        rw [List.length_append, List.length_singleton, List.take_add_one, er]; rfl
      rw [et]
      have hx : c ∉ ((rowN (sg s) n).take done.length).map (·.1) := by
        rw [List.map_take, rowN_keys]
        intro z
        obtain ⟨i, hi, ei⟩ := List.mem_take_iff_getElem.mp z
        have h5 : (sg s)[i]? = some c := by rw [List.getElem?_eq_getElem (by omega), ei]
        have := (List.getElem?_inj (by omega) hn).mp (h5.trans e3.symm)
        omega
      simp only [wSeq, wSet, wAsg, wC, wIfS, wB, wOp, oI, oI0, asI, asS, asL, asLT, asT, asB, asA_some, asA_none, asO, asOL, asOD, asKey, asDic, asSq, oLen, oMod, oAdd, oSub, oMul, oDiv, oMax, oMin, oPlus, oEqX, oNeX, eqX_int, eqX_str, eqX_bl, oCmp, oLtX, oLeX, oGtX, oGeX, oIxX, oInX, wCB, wCons, wNil, wVar, wMove, nth, put, startR, wNext, wRet, wRetN, wDrop, wFor, wiR1, wiR2, wiX, itemsOf, wgName, wgTup, wgCons, wgNil, wLend, wLendT, seeR_cons, seeR_nil, seeO_d, seeO_none, seeO_ol, seeO_od, wJoin, wM, oAppend, oPop, oPopAt, wDPut, wDPop, wSortK, wDict0, wTup, wLst, wCall, wAnd, wOr, wNot, wAndV, wOrV, wNotV, wIf, wYes, wLc, wiEnumX, oListX, oTuple, oSort, oSortSet, oAll, oAny, S.fz, S.own, D.flat, txts_map, bools_map, txtKeys_map, List.length_map, List.map_cons, List.map_nil, List.length_cons, List.length_nil, List.cons_append, List.nil_append, List.replicate, decide_eq_true_eq, Bool.not_eq_true', Bool.not_true, Bool.not_false, if_true, if_false, Nat.zero_add, Nat.reduceAdd, Nat.reduceSub, ge_iff_le, true_and, and_true, zip_unzip, Bool.false_xor, Bool.true_xor, Bool.false_eq_true, Bool.true_eq_false, reduceIte, wipeR, dataR_cons, dataR_nil, dataO_d, dataO_none, dataO_ol, dataO_od, oDict, oIsi, tyD, isiB, wSl, wPart, wNoP, oSl, wDisp1, wDGet2, oRemove, atI_0, atI_1, atI_2, wiRev, revItems, oDictP, wForK, wiKeys, kD, oSortX, oPow, oBitAnd, oShl, oNeg, wUn, oInt, oStr, oDivmod, oIs, isD, wChain, wFz, wFzE, frzR, wLSet, wiZip, seqsD, wiVals, wiItems, wOIx, wNo, Option.isSome_some, oMulX, wM1, oSplit, oPart, oStrip1, oRep, oSum, intsD, wRaise, wLI, wLK
, wiR3, wLR, wDisp, wPairs, oReverse, oClear, oInsert, wRevL, wDZ, seqLT, oSortIT, wOFld, wSFld, asOI, setOI, putG, wPar, wiItemsC, wiValsC, wIndexL]
      have l9 : s.length = (sg s).length := sg_len s
      rw [Nat.zero_add] at e1
      have ei : (6 - (s.length : Int) + (x.1 : Int)) = ((5 - ((sg s).length - 1 - done.length) : Nat) : Int) := by rw [l9, e1]; omega
      rw [ei, row_menu _ (by omega), asA_some, e2]
      simp only [vput_row hx]
      generalize hE : (sg s).length - 1 - done.length = E at *
      have hE6 : E < 6 := by omega
      have hp : 1 ≤ 2 ^ E ∧ 2 ^ E ≤ 32 := by
        have : E = 0 ∨ E = 1 ∨ E = 2 ∨ E = 3 ∨ E = 4 ∨ E = 5 := by omega
        rcases this with h | h | h | h | h | h <;> subst h <;> decide
      have eb : decide (((n : Nat) : Int) / ((2 ^ E : Nat) : Int) % 2 = 1) = decide (n / 2 ^ E % 2 = 1) := decide_eq_decide.mpr (by
        rw [← Int.natCast_ediv]; omega)
      rw [eb]
      refine ⟨by decide, by rw [l9, len0]; omega, ⟨by omega, by omega⟩, by decide, ?_, _, _, rfl⟩
      have := List.length_take_le done.length (rowN (sg s) n)
      rw [rowK, List.length_map, len0]; omega
    · obtain ⟨o3, o4, rfl⟩ := hI
      have e : (enumP 0 ((sg s).map one)).length = (rowN (sg s) n).length := by
        have := congrArg List.length (rowN_keys (sg s) n)
        rw [List.length_map] at this
        rw [enumP_len, List.length_map, this]
      simp only [w_L_row_c72_t2, wSeq, wSet, wAsg, wC, wIfS, wB, wOp, oI, oI0, asI, asS, asL, asLT, asT, asB, asA_some, asA_none, asO, asOL, asOD, asKey, asDic, asSq, oLen, oMod, oAdd, oSub, oMul, oDiv, oMax, oMin, oPlus, oEqX, oNeX, eqX_int, eqX_str, eqX_bl, oCmp, oLtX, oLeX, oGtX, oGeX, oIxX, oInX, wCB, wCons, wNil, wVar, wMove, nth, put, startR, wNext, wRet, wRetN, wDrop, wFor, wiR1, wiR2, wiX, itemsOf, wgName, wgTup, wgCons, wgNil, wLend, wLendT, seeR_cons, seeR_nil, seeO_d, seeO_none, seeO_ol, seeO_od, wJoin, wM, oAppend, oPop, oPopAt, wDPut, wDPop, wSortK, wDict0, wTup, wLst, wCall, wAnd, wOr, wNot, wAndV, wOrV, wNotV, wIf, wYes, wLc, wiEnumX, oListX, oTuple, oSort, oSortSet, oAll, oAny, S.fz, S.own, D.flat, txts_map, bools_map, txtKeys_map, List.length_map, List.map_cons, List.map_nil, List.length_cons, List.length_nil, List.cons_append, List.nil_append, List.replicate, decide_eq_true_eq, Bool.not_eq_true', Bool.not_true, Bool.not_false, if_true, if_false, Nat.zero_add, Nat.reduceAdd, Nat.reduceSub, ge_iff_le, true_and, and_true, zip_unzip, Bool.false_xor, Bool.true_xor, Bool.false_eq_true, Bool.true_eq_false, reduceIte, wipeR, dataR_cons, dataR_nil, dataO_d, dataO_none, dataO_ol, dataO_od, oDict, oIsi, tyD, isiB, wSl, wPart, wNoP, oSl, wDisp1, wDGet2, oRemove, atI_0, atI_1, atI_2, wiRev, revItems, oDictP, wForK, wiKeys, kD, oSortX, oPow, oBitAnd, oShl, oNeg, wUn, oInt, oStr, oDivmod, oIs, isD, wChain, wFz, wFzE, frzR, wLSet, wiZip, seqsD, wiVals, wiItems, wOIx, wNo, Option.isSome_some, oMulX, wM1, oSplit, oPart, oStrip1, oRep, oSum, intsD, wRaise, wLI, wLK
, wiR3, wLR, wDisp, wPairs, oReverse, oClear, oInsert, wRevL, wDZ, seqLT, oSortIT, wOFld, wSFld, asOI, setOI, putG, wPar, wiItemsC, wiValsC, wIndexL]
      rw [e, List.take_length]
      exact hq
  · exact h.elim
theorem rows_menu : ∀ e < 7, atI [D.int 1, D.int 2, D.int 4, D.int 8, D.int 16, D.int 32, D.int 64] ((e : Nat) : Int) = some (.int ((2 ^ e : Nat) : Int)) := by
  intro e he
  have : e = 0 ∨ e = 1 ∨ e = 2 ∨ e = 3 ∨ e = 4 ∨ e = 5 ∨ e = 6 := by omega
  rcases this with rfl | rfl | rfl | rfl | rfl | rfl | rfl <;> rfl
def sp_L_rows_2f4 : DSp := fun ds P _ => match ds with
  | [.str s] => (Prd s ∧ (sg s).length ≤ 6) ∧ P (.ol ((allRows (sg s)).map rowD))
  | _ => False
abbrev N_L_rows_2f4 : List Str := ["_law_letters_here", "_law_number"]
def w_L_rows_2f4 : WS := (wRet (wLc (wiR1 (wCons (wOp oIxX (wLst (wCons (wC (.int 1)) (wCons (wC (.int 2)) (wCons (wC (.int 4)) (wCons (wC (.int 8)) (wCons (wC (.int 16)) (wCons (wC (.int 32)) (wCons (wC (.int 64)) wNil)))))))) (wCB oLen (wCons (wVar 0) wNil))) wNil)) (wgName 1) wYes (wCall sp_L_row_c72 (fun _ _ => False) (wCons (wVar 0) (wCons (wVar 1) wNil))) [1]))
theorem len_L_rows_2f4 {ds Q px} (h : sp_L_rows_2f4 ds Q px) : ds.length = 1 := by unfold sp_L_rows_2f4 at h; split at h <;> first | rfl | exact h.elim
theorem rd_L_rows_2f4 {ds Q px} (h : sp_L_rows_2f4 ds Q px) : w_L_rows_2f4 ⟨fun _ => Q (.d .non), Q, fun _ => False, fun _ => False⟩ (startR N_L_rows_2f4 ds) := by
  unfold sp_L_rows_2f4 at h
  split at h
  · rename_i s
    obtain ⟨⟨hs, h6⟩, hq⟩ := h
    have l9 : s.length = (sg s).length := sg_len s
    unfold w_L_rows_2f4
    simp only [N_L_rows_2f4, wSeq, wSet, wAsg, wC, wIfS, wB, wOp, oI, oI0, asI, asS, asL, asLT, asT, asB, asA_some, asA_none, asO, asOL, asOD, asKey, asDic, asSq, oLen, oMod, oAdd, oSub, oMul, oDiv, oMax, oMin, oPlus, oEqX, oNeX, eqX_int, eqX_str, eqX_bl, oCmp, oLtX, oLeX, oGtX, oGeX, oIxX, oInX, wCB, wCons, wNil, wVar, wMove, nth, put, startR, wNext, wRet, wRetN, wDrop, wFor, wiR1, wiR2, wiX, itemsOf, wgName, wgTup, wgCons, wgNil, wLend, wLendT, seeR_cons, seeR_nil, seeO_d, seeO_none, seeO_ol, seeO_od, wJoin, wM, oAppend, oPop, oPopAt, wDPut, wDPop, wSortK, wDict0, wTup, wLst, wCall, wAnd, wOr, wNot, wAndV, wOrV, wNotV, wIf, wYes, wLc, wiEnumX, oListX, oTuple, oSort, oSortSet, oAll, oAny, S.fz, S.own, D.flat, txts_map, bools_map, txtKeys_map, List.length_map, List.map_cons, List.map_nil, List.length_cons, List.length_nil, List.cons_append, List.nil_append, List.replicate, decide_eq_true_eq, Bool.not_eq_true', Bool.not_true, Bool.not_false, if_true, if_false, Nat.zero_add, Nat.reduceAdd, Nat.reduceSub, ge_iff_le, true_and, and_true, zip_unzip, Bool.false_xor, Bool.true_xor, Bool.false_eq_true, Bool.true_eq_false, reduceIte, wipeR, dataR_cons, dataR_nil, dataO_d, dataO_none, dataO_ol, dataO_od, oDict, oIsi, tyD, isiB, wSl, wPart, wNoP, oSl, wDisp1, wDGet2, oRemove, atI_0, atI_1, atI_2, wiRev, revItems, oDictP, wForK, wiKeys, kD, oSortX, oPow, oBitAnd, oShl, oNeg, wUn, oInt, oStr, oDivmod, oIs, isD, wChain, wFz, wFzE, frzR, wLSet, wiZip, seqsD, wiVals, wiItems, wOIx, wNo, Option.isSome_some, oMulX, wM1, oSplit, oPart, oStrip1, oRep, oSum, intsD, wRaise, wLI, wLK
, wiR3, wLR, wDisp, wPairs, oReverse, oClear, oInsert, wRevL, wDZ, seqLT, oSortIT, wOFld, wSFld, asOI, setOI, putG, wPar, wiItemsC, wiValsC, wIndexL]
    rw [l9, rows_menu _ (by omega), asA_some]
    have hp : 2 ^ (sg s).length ≤ 64 := by
      have : (sg s).length = 0 ∨ (sg s).length = 1 ∨ (sg s).length = 2 ∨ (sg s).length = 3 ∨ (sg s).length = 4 ∨ (sg s).length = 5 ∨ (sg s).length = 6 := by omega
      rcases this with h | h | h | h | h | h | h <;> rw [h] <;> decide
    generalize hW : 2 ^ (sg s).length = W at hp ⊢
    refine ⟨by decide, by rw [len0]; omega, ⟨by omega, by omega⟩, by rw [Int.toNat_natCast, rangeD_len, len0]; omega, ?_⟩
    rw [rangeD_map, Int.toNat_natCast]
    refine compD_map mono_name (fun n : Nat => some (rowD (rowN (sg s) n))) (List.range W) _ (fun n hn Q' hQ => ?_) ?_
    · simp only [wSeq, wSet, wAsg, wC, wIfS, wB, wOp, oI, oI0, asI, asS, asL, asLT, asT, asB, asA_some, asA_none, asO, asOL, asOD, asKey, asDic, asSq, oLen, oMod, oAdd, oSub, oMul, oDiv, oMax, oMin, oPlus, oEqX, oNeX, eqX_int, eqX_str, eqX_bl, oCmp, oLtX, oLeX, oGtX, oGeX, oIxX, oInX, wCB, wCons, wNil, wVar, wMove, nth, put, startR, wNext, wRet, wRetN, wDrop, wFor, wiR1, wiR2, wiX, itemsOf, wgName, wgTup, wgCons, wgNil, wLend, wLendT, seeR_cons, seeR_nil, seeO_d, seeO_none, seeO_ol, seeO_od, wJoin, wM, oAppend, oPop, oPopAt, wDPut, wDPop, wSortK, wDict0, wTup, wLst, wCall, wAnd, wOr, wNot, wAndV, wOrV, wNotV, wIf, wYes, wLc, wiEnumX, oListX, oTuple, oSort, oSortSet, oAll, oAny, S.fz, S.own, D.flat, txts_map, bools_map, txtKeys_map, List.length_map, List.map_cons, List.map_nil, List.length_cons, List.length_nil, List.cons_append, List.nil_append, List.replicate, decide_eq_true_eq, Bool.not_eq_true', Bool.not_true, Bool.not_false, if_true, if_false, Nat.zero_add, Nat.reduceAdd, Nat.reduceSub, ge_iff_le, true_and, and_true, zip_unzip, Bool.false_xor, Bool.true_xor, Bool.false_eq_true, Bool.true_eq_false, reduceIte, wipeR, dataR_cons, dataR_nil, dataO_d, dataO_none, dataO_ol, dataO_od, oDict, oIsi, tyD, isiB, wSl, wPart, wNoP, oSl, wDisp1, wDGet2, oRemove, atI_0, atI_1, atI_2, wiRev, revItems, oDictP, wForK, wiKeys, kD, oSortX, oPow, oBitAnd, oShl, oNeg, wUn, oInt, oStr, oDivmod, oIs, isD, wChain, wFz, wFzE, frzR, wLSet, wiZip, seqsD, wiVals, wiItems, wOIx, wNo, Option.isSome_some, oMulX, wM1, oSplit, oPart, oStrip1, oRep, oSum, intsD, wRaise, wLI, wLK
, wiR3, wLR, wDisp, wPairs, oReverse, oClear, oInsert, wRevL, wDZ, seqLT, oSortIT, wOFld, wSFld, asOI, setOI, putG, wPar, wiItemsC, wiValsC, wIndexL, sp_L_row_c72]
      refine ⟨n, rfl, ⟨hs, h6⟩, ?_⟩
      rw [rowD_K]
      exact hQ
    · rw [show (List.range W).filterMap (fun n : Nat => some (rowD (rowN (sg s) n))) = (allRows (sg s)).map rowD by unfold allRows; rw [List.map_map, hW]; exact congrFun List.filterMap_eq_map' _]
      exact hq
  · exact h.elim
end DL
set_option maxHeartbeats 2000000
namespace DL
open PySem L2 Tree
def sp_Task_fault : DSp := fun ds P _ => match ds with
  | [d] => ∃ g p ws, d = taskD g p ws ∧ P (.d (fD (faultF ws)))
  | _ => False
abbrev N_Task_fault : List Str := ["self"]
def w_Task_fault : WS := (wRet (wFld ["Task"] "kept_fault" (wVar 0)))
theorem len_Task_fault {ds Q px} (h : sp_Task_fault ds Q px) : ds.length = 1 := by unfold sp_Task_fault at h; split at h <;> first | rfl | exact h.elim
theorem rd_Task_fault {ds Q px} (h : sp_Task_fault ds Q px) : w_Task_fault ⟨fun _ => Q (.d .non), Q, fun _ => False, fun _ => False⟩ (startR N_Task_fault ds) := by
  unfold sp_Task_fault at h
  split at h
  · obtain ⟨g, p, ws, rfl, hq⟩ := h
    unfold w_Task_fault
    simp only [N_Task_fault, wFld, asIns_task, taskK, List.mem_cons, true_or, reduceCtorEq, fne01, fne02, fne03, fne04, fne12, fne13, fne14, fne23, fne24, fne34, fget_cons, wSeq, wSet, wAsg, wC, wIfS, wB, wOp, oI, oI0, asI, asS, asL, asLT, asT, asB, asA_some, asA_none, asO, asOL, asOD, asKey, asDic, asSq, oLen, oMod, oAdd, oSub, oMul, oDiv, oMax, oMin, oPlus, oEqX, oNeX, eqX_int, eqX_str, eqX_bl, oCmp, oLtX, oLeX, oGtX, oGeX, oIxX, oInX, wCB, wCons, wNil, wVar, wMove, nth, put, startR, wNext, wRet, wRetN, wDrop, wFor, wiR1, wiR2, wiX, itemsOf, wgName, wgTup, wgCons, wgNil, wLend, wLendT, seeR_cons, seeR_nil, seeO_d, seeO_none, seeO_ol, seeO_od, wJoin, wM, oAppend, oPop, oPopAt, wDPut, wDPop, wSortK, wDict0, wTup, wLst, wCall, wAnd, wOr, wNot, wAndV, wOrV, wNotV, wIf, wYes, wLc, wiEnumX, oListX, oTuple, oSort, oSortSet, oAll, oAny, S.fz, S.own, D.flat, txts_map, bools_map, txtKeys_map, List.length_map, List.map_cons, List.map_nil, List.length_cons, List.length_nil, List.cons_append, List.nil_append, List.replicate, decide_eq_true_eq, Bool.not_eq_true', Bool.not_true, Bool.not_false, if_true, if_false, Nat.zero_add, Nat.reduceAdd, Nat.reduceSub, ge_iff_le, true_and, and_true, zip_unzip, Bool.false_xor, Bool.true_xor, Bool.false_eq_true, Bool.true_eq_false, reduceIte, wipeR, dataR_cons, dataR_nil, dataO_d, dataO_none, dataO_ol, dataO_od, oDict, oIsi, tyD, isiB, wSl, wPart, wNoP, oSl, wDisp1, wDGet2, oRemove, atI_0, atI_1, atI_2, wiRev, revItems, oDictP, wForK, wiKeys, kD, oSortX, oPow, oBitAnd, oShl, oNeg, wUn, oInt, oStr, oDivmod, oIs, isD, wChain, wFz, wFzE, frzR, wLSet, wiZip, seqsD, wiVals, wiItems, wOIx, wNo, Option.isSome_some, oMulX, wM1, oSplit, oPart, oStrip1, oRep, oSum, intsD, wRaise, wLI, wLK
, wiR3, wLR, wDisp, wPairs, oReverse, oClear, oInsert, wRevL, wDZ, seqLT, oSortIT, wOFld, wSFld, asOI, setOI, putG, wPar, wiItemsC, wiValsC, wIndexL]
    exact hq
  · exact h.elim
def sp_L_form_like_5d5 : DSp := fun ds P _ => match ds with
  | [x, .str s] => asF x fun f => (Frm f ∧ Prd s ∧ Over s f) ∧ P (.d (.bl true))
  | _ => False
abbrev N_L_form_like_5d5 : List Str := ["_law_found", "_law_letters_here", "_law_one", "_law_letter"]
def w_L_form_like_5d5_t2 : WS := (wRet (wOp oEqX (wCB oListX (wCons (wVar 0) wNil)) (wCB oSortSet (wCons (wVar 0) wNil))))
def w_L_form_like_5d5_t1 : WS := wSeq (wFor (wiX (wVar 0)) (wgName 2)
      (wIfS (wB (wOp oNeX (wVar 2) (wJoin (wC (.str "")) (wLc (wiX (wVar 1)) (wgName 3) (wB (wOp (oInX false) (wVar 3) (wVar 2))) (wVar 3) [3])))) (wRet (wC (.bl false))) wNext))
    w_L_form_like_5d5_t2
def w_L_form_like_5d5 : WS := wSeq (wIfS (wOr (wNot (wB (wCB oIsi (wCons (wVar 0) (wCons (wC (.ty "tuple")) wNil))))) (wNot (wB (wCB oAll (wCons (wLc (wiX (wVar 0)) (wgName 2) wYes (wCB oIsi (wCons (wVar 2) (wCons (wC (.ty "str")) wNil))) [2]) wNil))))) (wRet (wC (.bl false))) wNext)
    w_L_form_like_5d5_t1
theorem len_L_form_like_5d5 {ds Q px} (h : sp_L_form_like_5d5 ds Q px) : ds.length = 2 := by unfold sp_L_form_like_5d5 at h; split at h <;> first | rfl | exact h.elim
theorem rd_L_form_like_5d5 {ds Q px} (h : sp_L_form_like_5d5 ds Q px) : w_L_form_like_5d5 ⟨fun _ => Q (.d .non), Q, fun _ => False, fun _ => False⟩ (startR N_L_form_like_5d5 ds) := by
  unfold sp_L_form_like_5d5 at h
  split at h
  · rename_i x s
    obtain ⟨f, rfl, ⟨hf, hs, ho⟩, hq⟩ := asF_of h
    clear h
    have fl := hf.len
    have hcl := hs.len
    unfold w_L_form_like_5d5
    simp only [N_L_form_like_5d5, fD, w_L_form_like_5d5_t1, w_L_form_like_5d5_t2, wSeq, wSet, wAsg, wC, wIfS, wB, wOp, oI, oI0, asI, asS, asL, asLT, asT, asB, asA_some, asA_none, asO, asOL, asOD, asKey, asDic, asSq, oLen, oMod, oAdd, oSub, oMul, oDiv, oMax, oMin, oPlus, oEqX, oNeX, eqX_int, eqX_str, eqX_bl, oCmp, oLtX, oLeX, oGtX, oGeX, oIxX, oInX, wCB, wCons, wNil, wVar, wMove, nth, put, startR, wNext, wRet, wRetN, wDrop, wFor, wiR1, wiR2, wiX, itemsOf, wgName, wgTup, wgCons, wgNil, wLend, wLendT, seeR_cons, seeR_nil, seeO_d, seeO_none, seeO_ol, seeO_od, wJoin, wM, oAppend, oPop, oPopAt, wDPut, wDPop, wSortK, wDict0, wTup, wLst, wCall, wAnd, wOr, wNot, wAndV, wOrV, wNotV, wIf, wYes, wLc, wiEnumX, oListX, oTuple, oSort, oSortSet, oAll, oAny, S.fz, S.own, D.flat, txts_map, bools_map, txtKeys_map, List.length_map, List.map_cons, List.map_nil, List.length_cons, List.length_nil, List.cons_append, List.nil_append, List.replicate, decide_eq_true_eq, Bool.not_eq_true', Bool.not_true, Bool.not_false, if_true, if_false, Nat.zero_add, Nat.reduceAdd, Nat.reduceSub, ge_iff_le, true_and, and_true, zip_unzip, Bool.false_xor, Bool.true_xor, Bool.false_eq_true, Bool.true_eq_false, reduceIte, wipeR, dataR_cons, dataR_nil, dataO_d, dataO_none, dataO_ol, dataO_od, oDict, oIsi, tyD, isiB, wSl, wPart, wNoP, oSl, wDisp1, wDGet2, oRemove, atI_0, atI_1, atI_2, wiRev, revItems, oDictP, wForK, wiKeys, kD, oSortX, oPow, oBitAnd, oShl, oNeg, wUn, oInt, oStr, oDivmod, oIs, isD, wChain, wFz, wFzE, frzR, wLSet, wiZip, seqsD, wiVals, wiItems, wOIx, wNo, Option.isSome_some, oMulX, wM1, oSplit, oPart, oStrip1, oRep, oSum, intsD, wRaise, wLI, wLK
, wiR3, wLR, wDisp, wPairs, oReverse, oClear, oInsert, wRevL, wDZ, seqLT, oSortIT, wOFld, wSFld, asOI, setOI, putG, wPar, wiItemsC, wiValsC, wIndexL]
    refine ⟨by rw [len0]; omega, ?_⟩
    refine compD_map mono_name (fun c => some (.bl true)) f _ (fun c hc Q' hQ => ?_) ?_
    · simp only [wSeq, wSet, wAsg, wC, wIfS, wB, wOp, oI, oI0, asI, asS, asL, asLT, asT, asB, asA_some, asA_none, asO, asOL, asOD, asKey, asDic, asSq, oLen, oMod, oAdd, oSub, oMul, oDiv, oMax, oMin, oPlus, oEqX, oNeX, eqX_int, eqX_str, eqX_bl, oCmp, oLtX, oLeX, oGtX, oGeX, oIxX, oInX, wCB, wCons, wNil, wVar, wMove, nth, put, startR, wNext, wRet, wRetN, wDrop, wFor, wiR1, wiR2, wiX, itemsOf, wgName, wgTup, wgCons, wgNil, wLend, wLendT, seeR_cons, seeR_nil, seeO_d, seeO_none, seeO_ol, seeO_od, wJoin, wM, oAppend, oPop, oPopAt, wDPut, wDPop, wSortK, wDict0, wTup, wLst, wCall, wAnd, wOr, wNot, wAndV, wOrV, wNotV, wIf, wYes, wLc, wiEnumX, oListX, oTuple, oSort, oSortSet, oAll, oAny, S.fz, S.own, D.flat, txts_map, bools_map, txtKeys_map, List.length_map, List.map_cons, List.map_nil, List.length_cons, List.length_nil, List.cons_append, List.nil_append, List.replicate, decide_eq_true_eq, Bool.not_eq_true', Bool.not_true, Bool.not_false, if_true, if_false, Nat.zero_add, Nat.reduceAdd, Nat.reduceSub, ge_iff_le, true_and, and_true, zip_unzip, Bool.false_xor, Bool.true_xor, Bool.false_eq_true, Bool.true_eq_false, reduceIte, wipeR, dataR_cons, dataR_nil, dataO_d, dataO_none, dataO_ol, dataO_od, oDict, oIsi, tyD, isiB, wSl, wPart, wNoP, oSl, wDisp1, wDGet2, oRemove, atI_0, atI_1, atI_2, wiRev, revItems, oDictP, wForK, wiKeys, kD, oSortX, oPow, oBitAnd, oShl, oNeg, wUn, oInt, oStr, oDivmod, oIs, isD, wChain, wFz, wFzE, frzR, wLSet, wiZip, seqsD, wiVals, wiItems, wOIx, wNo, Option.isSome_some, oMulX, wM1, oSplit, oPart, oStrip1, oRep, oSum, intsD, wRaise, wLI, wLK
, wiR3, wLR, wDisp, wPairs, oReverse, oClear, oInsert, wRevL, wDZ, seqLT, oSortIT, wOFld, wSFld, asOI, setOI, putG, wPar, wiItemsC, wiValsC, wIndexL]
      exact hQ
    have e : f.filterMap (fun c => some (D.bl true)) = (f.map fun _ => true).map .bl := by
      rw [List.map_map, ← List.filterMap_eq_map]; rfl
    rw [e, bools_map, asA_some]
    have e2 : (f.map fun _ => true).all id = true := by rw [List.all_map]; simp [Function.comp]
    rw [e2]
    simp only [wSeq, wSet, wAsg, wC, wIfS, wB, wOp, oI, oI0, asI, asS, asL, asLT, asT, asB, asA_some, asA_none, asO, asOL, asOD, asKey, asDic, asSq, oLen, oMod, oAdd, oSub, oMul, oDiv, oMax, oMin, oPlus, oEqX, oNeX, eqX_int, eqX_str, eqX_bl, oCmp, oLtX, oLeX, oGtX, oGeX, oIxX, oInX, wCB, wCons, wNil, wVar, wMove, nth, put, startR, wNext, wRet, wRetN, wDrop, wFor, wiR1, wiR2, wiX, itemsOf, wgName, wgTup, wgCons, wgNil, wLend, wLendT, seeR_cons, seeR_nil, seeO_d, seeO_none, seeO_ol, seeO_od, wJoin, wM, oAppend, oPop, oPopAt, wDPut, wDPop, wSortK, wDict0, wTup, wLst, wCall, wAnd, wOr, wNot, wAndV, wOrV, wNotV, wIf, wYes, wLc, wiEnumX, oListX, oTuple, oSort, oSortSet, oAll, oAny, S.fz, S.own, D.flat, txts_map, bools_map, txtKeys_map, List.length_map, List.map_cons, List.map_nil, List.length_cons, List.length_nil, List.cons_append, List.nil_append, List.replicate, decide_eq_true_eq, Bool.not_eq_true', Bool.not_true, Bool.not_false, if_true, if_false, Nat.zero_add, Nat.reduceAdd, Nat.reduceSub, ge_iff_le, true_and, and_true, zip_unzip, Bool.false_xor, Bool.true_xor, Bool.false_eq_true, Bool.true_eq_false, reduceIte, wipeR, dataR_cons, dataR_nil, dataO_d, dataO_none, dataO_ol, dataO_od, oDict, oIsi, tyD, isiB, wSl, wPart, wNoP, oSl, wDisp1, wDGet2, oRemove, atI_0, atI_1, atI_2, wiRev, revItems, oDictP, wForK, wiKeys, kD, oSortX, oPow, oBitAnd, oShl, oNeg, wUn, oInt, oStr, oDivmod, oIs, isD, wChain, wFz, wFzE, frzR, wLSet, wiZip, seqsD, wiVals, wiItems, wOIx, wNo, Option.isSome_some, oMulX, wM1, oSplit, oPart, oStrip1, oRep, oSum, intsD, wRaise, wLI, wLK
, wiR3, wLR, wDisp, wPairs, oReverse, oClear, oInsert, wRevL, wDZ, seqLT, oSortIT, wOFld, wSFld, asOI, setOI, putG, wPar, wiItemsC, wiValsC, wIndexL]
    refine forD_map (I := fun done _ ρ => ∃ (o o2 : Option S), ρ = [some (.d (.tup (f.map .str))), some (.d (.str s)), o, o2]) mono_name f (fun done p ys ρ he hI => ?_) (fun ρ hI => ?_) _ ⟨_, _, rfl⟩
    · obtain ⟨o, o2, rfl⟩ := hI
      have hp := hf.prd p (by rw [he]; simp)
      have hpo := ho p (by rw [he]; simp)
      simp only [wIfS, wB, wOp, oNeX, wVar, nth, put, wgName, wJoin, wC, asS, wLc, wiX, S.fz, itemsOf]
      rw [signs_eq, List.map_map]
      refine ⟨by rw [List.length_map, len0]; omega, ?_⟩
      refine compD_map mono_name (fun c => if c ∈ sg p then some (.str (one c)) else none) (sg s) _ (fun c hc Q' hQ => ?_) ?_
      · simp only [wSeq, wSet, wAsg, wC, wIfS, wB, wOp, oI, oI0, asI, asS, asL, asLT, asT, asB, asA_some, asA_none, asO, asOL, asOD, asKey, asDic, asSq, oLen, oMod, oAdd, oSub, oMul, oDiv, oMax, oMin, oPlus, oEqX, oNeX, eqX_int, eqX_str, eqX_bl, oCmp, oLtX, oLeX, oGtX, oGeX, oIxX, oInX, wCB, wCons, wNil, wVar, wMove, nth, put, startR, wNext, wRet, wRetN, wDrop, wFor, wiR1, wiR2, wiX, itemsOf, wgName, wgTup, wgCons, wgNil, wLend, wLendT, seeR_cons, seeR_nil, seeO_d, seeO_none, seeO_ol, seeO_od, wJoin, wM, oAppend, oPop, oPopAt, wDPut, wDPop, wSortK, wDict0, wTup, wLst, wCall, wAnd, wOr, wNot, wAndV, wOrV, wNotV, wIf, wYes, wLc, wiEnumX, oListX, oTuple, oSort, oSortSet, oAll, oAny, S.fz, S.own, D.flat, txts_map, bools_map, txtKeys_map, List.length_map, List.map_cons, List.map_nil, List.length_cons, List.length_nil, List.cons_append, List.nil_append, List.replicate, decide_eq_true_eq, Bool.not_eq_true', Bool.not_true, Bool.not_false, if_true, if_false, Nat.zero_add, Nat.reduceAdd, Nat.reduceSub, ge_iff_le, true_and, and_true, zip_unzip, Bool.false_xor, Bool.true_xor, Bool.false_eq_true, Bool.true_eq_false, reduceIte, wipeR, dataR_cons, dataR_nil, dataO_d, dataO_none, dataO_ol, dataO_od, oDict, oIsi, tyD, isiB, wSl, wPart, wNoP, oSl, wDisp1, wDGet2, oRemove, atI_0, atI_1, atI_2, wiRev, revItems, oDictP, wForK, wiKeys, kD, oSortX, oPow, oBitAnd, oShl, oNeg, wUn, oInt, oStr, oDivmod, oIs, isD, wChain, wFz, wFzE, frzR, wLSet, wiZip, seqsD, wiVals, wiItems, wOIx, wNo, Option.isSome_some, oMulX, wM1, oSplit, oPart, oStrip1, oRep, oSum, intsD, wRaise, wLI, wLK
, wiR3, wLR, wDisp, wPairs, oReverse, oClear, oInsert, wRevL, wDZ, seqLT, oSortIT, wOFld, wSFld, asOI, setOI, putG, wPar, wiItemsC, wiValsC, wIndexL, Function.comp, inS_one', decide_eq_true_eq]
        by_cases h : c ∈ sg p
        · rw [if_pos h] at hQ ⊢; exact hQ
        · rw [if_neg h] at hQ ⊢; exact hQ
      · rw [fm_strs (T := fun c => c ∈ sg p)]
        have l9 : ((sg s).filter fun c => decide (c ∈ sg p)).length ≤ 9 := Nat.le_trans (List.length_filter_le _ _) hcl
        have h0 : Str.length "" = 0 := by decide +kernel
        simp only [S.fz, asSq]
        rw [txts_map, asA_some, filter_prd hs.up hp hpo]
        refine ⟨by rw [ones_sum, h0]; omega, ?_⟩
        simp only [wSeq, wSet, wAsg, wC, wIfS, wB, wOp, oI, oI0, asI, asS, asL, asLT, asT, asB, asA_some, asA_none, asO, asOL, asOD, asKey, asDic, asSq, oLen, oMod, oAdd, oSub, oMul, oDiv, oMax, oMin, oPlus, oEqX, oNeX, eqX_int, eqX_str, eqX_bl, oCmp, oLtX, oLeX, oGtX, oGeX, oIxX, oInX, wCB, wCons, wNil, wVar, wMove, nth, put, startR, wNext, wRet, wRetN, wDrop, wFor, wiR1, wiR2, wiX, itemsOf, wgName, wgTup, wgCons, wgNil, wLend, wLendT, seeR_cons, seeR_nil, seeO_d, seeO_none, seeO_ol, seeO_od, wJoin, wM, oAppend, oPop, oPopAt, wDPut, wDPop, wSortK, wDict0, wTup, wLst, wCall, wAnd, wOr, wNot, wAndV, wOrV, wNotV, wIf, wYes, wLc, wiEnumX, oListX, oTuple, oSort, oSortSet, oAll, oAny, S.fz, S.own, D.flat, txts_map, bools_map, txtKeys_map, List.length_map, List.map_cons, List.map_nil, List.length_cons, List.length_nil, List.cons_append, List.nil_append, List.replicate, decide_eq_true_eq, Bool.not_eq_true', Bool.not_true, Bool.not_false, if_true, if_false, Nat.zero_add, Nat.reduceAdd, Nat.reduceSub, ge_iff_le, true_and, and_true, zip_unzip, Bool.false_xor, Bool.true_xor, Bool.false_eq_true, Bool.true_eq_false, reduceIte, wipeR, dataR_cons, dataR_nil, dataO_d, dataO_none, dataO_ol, dataO_od, oDict, oIsi, tyD, isiB, wSl, wPart, wNoP, oSl, wDisp1, wDGet2, oRemove, atI_0, atI_1, atI_2, wiRev, revItems, oDictP, wForK, wiKeys, kD, oSortX, oPow, oBitAnd, oShl, oNeg, wUn, oInt, oStr, oDivmod, oIs, isD, wChain, wFz, wFzE, frzR, wLSet, wiZip, seqsD, wiVals, wiItems, wOIx, wNo, Option.isSome_some, oMulX, wM1, oSplit, oPart, oStrip1, oRep, oSum, intsD, wRaise, wLI, wLK
, wiR3, wLR, wDisp, wPairs, oReverse, oClear, oInsert, wRevL, wDZ, seqLT, oSortIT, wOFld, wSFld, asOI, setOI, putG, wPar, wiItemsC, wiValsC, wIndexL, decide_true]
        exact ⟨_, _, rfl⟩
    · obtain ⟨o, o2, rfl⟩ := hI
      simp only [wSeq, wSet, wAsg, wC, wIfS, wB, wOp, oI, oI0, asI, asS, asL, asLT, asT, asB, asA_some, asA_none, asO, asOL, asOD, asKey, asDic, asSq, oLen, oMod, oAdd, oSub, oMul, oDiv, oMax, oMin, oPlus, oEqX, oNeX, eqX_int, eqX_str, eqX_bl, oCmp, oLtX, oLeX, oGtX, oGeX, oIxX, oInX, wCB, wCons, wNil, wVar, wMove, nth, put, startR, wNext, wRet, wRetN, wDrop, wFor, wiR1, wiR2, wiX, itemsOf, wgName, wgTup, wgCons, wgNil, wLend, wLendT, seeR_cons, seeR_nil, seeO_d, seeO_none, seeO_ol, seeO_od, wJoin, wM, oAppend, oPop, oPopAt, wDPut, wDPop, wSortK, wDict0, wTup, wLst, wCall, wAnd, wOr, wNot, wAndV, wOrV, wNotV, wIf, wYes, wLc, wiEnumX, oListX, oTuple, oSort, oSortSet, oAll, oAny, S.fz, S.own, D.flat, txts_map, bools_map, txtKeys_map, List.length_map, List.map_cons, List.map_nil, List.length_cons, List.length_nil, List.cons_append, List.nil_append, List.replicate, decide_eq_true_eq, Bool.not_eq_true', Bool.not_true, Bool.not_false, if_true, if_false, Nat.zero_add, Nat.reduceAdd, Nat.reduceSub, ge_iff_le, true_and, and_true, zip_unzip, Bool.false_xor, Bool.true_xor, Bool.false_eq_true, Bool.true_eq_false, reduceIte, wipeR, dataR_cons, dataR_nil, dataO_d, dataO_none, dataO_ol, dataO_od, oDict, oIsi, tyD, isiB, wSl, wPart, wNoP, oSl, wDisp1, wDGet2, oRemove, atI_0, atI_1, atI_2, wiRev, revItems, oDictP, wForK, wiKeys, kD, oSortX, oPow, oBitAnd, oShl, oNeg, wUn, oInt, oStr, oDivmod, oIs, isD, wChain, wFz, wFzE, frzR, wLSet, wiZip, seqsD, wiVals, wiItems, wOIx, wNo, Option.isSome_some, oMulX, wM1, oSplit, oPart, oStrip1, oRep, oSum, intsD, wRaise, wLI, wLK
, wiR3, wLR, wDisp, wPairs, oReverse, oClear, oInsert, wRevL, wDZ, seqLT, oSortIT, wOFld, wSFld, asOI, setOI, putG, wPar, wiItemsC, wiValsC, wIndexL]
      refine ⟨by show _ < 4096; omega, ?_⟩
      rw [srtset_frm hf, eqX_lst hf.ok hf.ok, decide_eq_true rfl]
      exact hq
  · exact h.elim
def differ (v : Nat → Bool) (q : Tree × Tree) : Bool := q.1.tru v != q.2.tru v
def failL (l : List (Tree × Tree)) (v : Nat → Bool) : List Nat := ((enumQ 0 l).filter fun x => differ v x.2).map (·.1)
def sp_L_failing_f34 : DSp := fun ds P _ => match ds with
  | [d, y] => ∃ (l : List (Tree × Tree)) (r : Row), d = .lst (l.map tpair2) ∧ y = rowD r ∧ (l.length ≤ 10 ∧ ∀ q ∈ l, (q.1.wt ≤ 20 ∧ ∀ c ∈ q.1.cs, c ∈ r.map (·.1)) ∧ q.2.wt ≤ 20 ∧ ∀ c ∈ q.2.cs, c ∈ r.map (·.1)) ∧ P (.ol ((failL l (rowF r)).map fun n : Nat => .int n))
  | _ => False
theorem enumQ_len {α : Type} : ∀ (l : List α) (i : Nat), (enumQ i l).length = l.length
  | [], _ => rfl
  | x :: l, i => by rw [enumQ, List.length_cons, List.length_cons, enumQ_len l]
abbrev N_L_failing_f34 : List Str := ["_law_wishes_here", "_law_row_here", "_law_k", "_law_wish"]
def w_L_failing_f34 : WS := (wRet (wLc (wiEnumX (wCons (wVar 0) wNil)) (wgTup 2 (wgCons (wgName 2) (wgCons (wgName 3) wgNil))) (wB (wOp oNeX (wCall sp_L_truth_64c (fun _ _ => False) (wCons (wOp oIxX (wVar 3) (wC (.int 0))) (wCons (wVar 1) wNil))) (wCall sp_L_truth_64c (fun _ _ => False) (wCons (wOp oIxX (wVar 3) (wC (.int 1))) (wCons (wVar 1) wNil))))) (wVar 2) [2, 3]))
theorem len_L_failing_f34 {ds Q px} (h : sp_L_failing_f34 ds Q px) : ds.length = 2 := by unfold sp_L_failing_f34 at h; split at h <;> first | rfl | exact h.elim
theorem rd_L_failing_f34 {ds Q px} (h : sp_L_failing_f34 ds Q px) : w_L_failing_f34 ⟨fun _ => Q (.d .non), Q, fun _ => False, fun _ => False⟩ (startR N_L_failing_f34 ds) := by
  unfold sp_L_failing_f34 at h
  split at h
  · obtain ⟨l, r, rfl, rfl, ⟨l10, lo⟩, hq⟩ := h
    unfold w_L_failing_f34
    simp only [N_L_failing_f34, wSeq, wSet, wAsg, wC, wIfS, wB, wOp, oI, oI0, asI, asS, asL, asLT, asT, asB, asA_some, asA_none, asO, asOL, asOD, asKey, asDic, asSq, oLen, oMod, oAdd, oSub, oMul, oDiv, oMax, oMin, oPlus, oEqX, oNeX, eqX_int, eqX_str, eqX_bl, oCmp, oLtX, oLeX, oGtX, oGeX, oIxX, oInX, wCB, wCons, wNil, wVar, wMove, nth, put, startR, wNext, wRet, wRetN, wDrop, wFor, wiR1, wiR2, wiX, itemsOf, wgName, wgTup, wgCons, wgNil, wLend, wLendT, seeR_cons, seeR_nil, seeO_d, seeO_none, seeO_ol, seeO_od, wJoin, wM, oAppend, oPop, oPopAt, wDPut, wDPop, wSortK, wDict0, wTup, wLst, wCall, wAnd, wOr, wNot, wAndV, wOrV, wNotV, wIf, wYes, wLc, wiEnumX, oListX, oTuple, oSort, oSortSet, oAll, oAny, S.fz, S.own, D.flat, txts_map, bools_map, txtKeys_map, List.length_map, List.map_cons, List.map_nil, List.length_cons, List.length_nil, List.cons_append, List.nil_append, List.replicate, decide_eq_true_eq, Bool.not_eq_true', Bool.not_true, Bool.not_false, if_true, if_false, Nat.zero_add, Nat.reduceAdd, Nat.reduceSub, ge_iff_le, true_and, and_true, zip_unzip, Bool.false_xor, Bool.true_xor, Bool.false_eq_true, Bool.true_eq_false, reduceIte, wipeR, dataR_cons, dataR_nil, dataO_d, dataO_none, dataO_ol, dataO_od, oDict, oIsi, tyD, isiB, wSl, wPart, wNoP, oSl, wDisp1, wDGet2, oRemove, atI_0, atI_1, atI_2, wiRev, revItems, oDictP, wForK, wiKeys, kD, oSortX, oPow, oBitAnd, oShl, oNeg, wUn, oInt, oStr, oDivmod, oIs, isD, wChain, wFz, wFzE, frzR, wLSet, wiZip, seqsD, wiVals, wiItems, wOIx, wNo, Option.isSome_some, oMulX, wM1, oSplit, oPart, oStrip1, oRep, oSum, intsD, wRaise, wLI, wLK
, wiR3, wLR, wDisp, wPairs, oReverse, oClear, oInsert, wRevL, wDZ, seqLT, oSortIT, wOFld, wSFld, asOI, setOI, putG, wPar, wiItemsC, wiValsC, wIndexL]
    rw [enumD_mapG]
    refine ⟨by rw [List.length_map, enumQ_len, len0]; omega, ?_⟩
    refine compD_map mono_pair (fun x : Nat × (Tree × Tree) => if differ (rowF r) x.2 = true then some (.int (x.1 : Nat)) else none) (enumQ 0 l) _ (fun x hx Q' hQ => ?_) ?_
    · obtain ⟨j, _, hj⟩ := enumQ_at hx
      obtain ⟨⟨a1, a2⟩, b1, b2⟩ := lo x.2 (List.mem_of_getElem? hj)
      simp only [tpair2, wSeq, wSet, wAsg, wC, wIfS, wB, wOp, oI, oI0, asI, asS, asL, asLT, asT, asB, asA_some, asA_none, asO, asOL, asOD, asKey, asDic, asSq, oLen, oMod, oAdd, oSub, oMul, oDiv, oMax, oMin, oPlus, oEqX, oNeX, eqX_int, eqX_str, eqX_bl, oCmp, oLtX, oLeX, oGtX, oGeX, oIxX, oInX, wCB, wCons, wNil, wVar, wMove, nth, put, startR, wNext, wRet, wRetN, wDrop, wFor, wiR1, wiR2, wiX, itemsOf, wgName, wgTup, wgCons, wgNil, wLend, wLendT, seeR_cons, seeR_nil, seeO_d, seeO_none, seeO_ol, seeO_od, wJoin, wM, oAppend, oPop, oPopAt, wDPut, wDPop, wSortK, wDict0, wTup, wLst, wCall, wAnd, wOr, wNot, wAndV, wOrV, wNotV, wIf, wYes, wLc, wiEnumX, oListX, oTuple, oSort, oSortSet, oAll, oAny, S.fz, S.own, D.flat, txts_map, bools_map, txtKeys_map, List.length_map, List.map_cons, List.map_nil, List.length_cons, List.length_nil, List.cons_append, List.nil_append, List.replicate, decide_eq_true_eq, Bool.not_eq_true', Bool.not_true, Bool.not_false, if_true, if_false, Nat.zero_add, Nat.reduceAdd, Nat.reduceSub, ge_iff_le, true_and, and_true, zip_unzip, Bool.false_xor, Bool.true_xor, Bool.false_eq_true, Bool.true_eq_false, reduceIte, wipeR, dataR_cons, dataR_nil, dataO_d, dataO_none, dataO_ol, dataO_od, oDict, oIsi, tyD, isiB, wSl, wPart, wNoP, oSl, wDisp1, wDGet2, oRemove, atI_0, atI_1, atI_2, wiRev, revItems, oDictP, wForK, wiKeys, kD, oSortX, oPow, oBitAnd, oShl, oNeg, wUn, oInt, oStr, oDivmod, oIs, isD, wChain, wFz, wFzE, frzR, wLSet, wiZip, seqsD, wiVals, wiItems, wOIx, wNo, Option.isSome_some, oMulX, wM1, oSplit, oPart, oStrip1, oRep, oSum, intsD, wRaise, wLI, wLK
, wiR3, wLR, wDisp, wPairs, oReverse, oClear, oInsert, wRevL, wDZ, seqLT, oSortIT, wOFld, wSFld, asOI, setOI, putG, wPar, wiItemsC, wiValsC, wIndexL, spr_L_truth_64c, sps_L_truth_64c, eqX_bl]
      refine ⟨x.2.1, r, rfl, rfl, ⟨by omega, a2⟩, x.2.2, r, rfl, rfl, ⟨by omega, b2⟩, ?_⟩
      revert hQ
      unfold differ
      cases x.2.1.tru (rowF r) <;> cases x.2.2.tru (rowF r) <;> exact id
    · rw [show (enumQ 0 l).filterMap (fun x : Nat × (Tree × Tree) => if differ (rowF r) x.2 = true then some (D.int (x.1 : Nat)) else none) = (failL l (rowF r)).map fun n : Nat => .int n by
        unfold failL
        rw [List.map_map, ← List.filterMap_eq_filter, List.map_filterMap]
        congr 1
        funext x
        cases h : differ (rowF r) x.2 <;> simp [h, Option.guard]]
      exact hq
  · exact h.elim
theorem fail_any (l : List (Tree × Tree)) (v : Nat → Bool) : decide (0 < (failL l v).length) = l.any (differ v) := by
  unfold failL
  rw [List.length_map]
  have g : ∀ (l : List (Tree × Tree)) (i : Nat), decide (0 < ((enumQ i l).filter fun x => differ v x.2).length) = l.any (differ v) := fun l => by
    induction l with
    | nil => intro i; rfl
    | cons q l ih =>
      intro i
      rw [enumQ, List.filter_cons, List.any_cons]
      cases h : differ v q
      · simp only [Bool.false_eq_true, if_false, Bool.false_or]; exact ih (i + 1)
      · simp
  exact g l 0
end DL
set_option maxHeartbeats 2000000
namespace DL
open PySem L2 Tree
theorem bit_div (n i : Nat) : n.testBit i = decide (n / 2 ^ i % 2 = 1) := by
  rw [Nat.testBit_eq_decide_div_mod_eq]
theorem sub_iff {m n : Nat} : m &&& n = m ↔ ∀ i, m.testBit i = true → n.testBit i = true := by
  constructor
  · intro h i hi
    have := congrArg (fun x => Nat.testBit x i) h
    simp only [Nat.testBit_and, hi, Bool.true_and] at this
    exact this
  · intro h
    apply Nat.eq_of_testBit_eq
    intro i
    rw [Nat.testBit_and]
    cases e : m.testBit i
    · rfl
    · rw [h i e]; rfl
def ltN (cs : List Nat) (n : Nat) : List Nat := cs.filter fun c => rowF (rowN cs n) c
theorem rowF_at {cs : List Nat} {n j c : Nat} (hn : cs.Nodup) (h : cs[j]? = some c) : rowF (rowN cs n) c = n.testBit (cs.length - 1 - j) := by
  have h1 := rowN_at (n := n) h
  have h2 := rowF_mem (r := rowN cs n) (p := (c, decide (n / 2 ^ (cs.length - 1 - j) % 2 = 1))) (by rw [rowN_keys]; exact hn) (List.mem_of_getElem? h1)
  rw [bit_div]; exact h2
theorem under_bits {cs : List Nat} {m n : Nat} (hn : cs.Nodup) (hm : m < 2 ^ cs.length) : under cs (ltN cs n) m = decide (m &&& n = m) := by
  rw [Bool.eq_iff_iff, decide_eq_true_iff, sub_iff]
  unfold under
  rw [List.all_eq_true]
  constructor
  · intro h i hi
    have hlt : i < cs.length := by
      rcases Nat.lt_or_ge i cs.length with z | z
      · exact z
      · have := Nat.testBit_lt_two_pow (Nat.lt_of_lt_of_le hm (Nat.pow_le_pow_right (by decide) z))
        rw [this] at hi; cases hi
    have hj : cs[cs.length - 1 - i]? = some cs[cs.length - 1 - i] := List.getElem?_eq_getElem (by omega)
    have e := rowF_at (n := m) hn hj
    have e2 := rowF_at (n := n) hn hj
    rw [show cs.length - 1 - (cs.length - 1 - i) = i by omega] at e e2
    have := h _ (List.mem_of_getElem? hj)
    rw [e, hi, Bool.not_true, Bool.or_false, decide_eq_true_iff] at this
    have := (List.mem_filter.mp this).2
    rw [e2] at this; exact this
  · intro h d hd
    obtain ⟨j, hjl, ej⟩ := List.mem_iff_getElem.mp hd
    have hj : cs[j]? = some d := by rw [List.getElem?_eq_getElem hjl, ej]
    rw [rowF_at (n := m) hn hj]
    cases e : m.testBit (cs.length - 1 - j)
    · simp
    · have := h _ e
      rw [← rowF_at (n := n) hn hj] at this
      have : d ∈ ltN cs n := List.mem_filter.mpr ⟨hd, this⟩
      simp [this]
def prodS (cs : List Nat) (n : Nat) : Str := mkS (ltN cs n)
def oddN (cs : List Nat) (tb : List Bool) (n : Nat) : Bool := par (fun m => tb[m]?.getD false && decide (m &&& n = m)) (List.range (n + 1))
theorem par_range {p : Nat → Bool} {a b : Nat} (h : a ≤ b) (hp : ∀ m, a ≤ m → m < b → p m = false) : par p (List.range b) = par p (List.range a) := by
  obtain ⟨d, rfl⟩ : ∃ d, b = a + d := ⟨b - a, by omega⟩
  rw [List.range_add, par_append]
  have : par p ((List.range d).map (a + ·)) = false := by
    rw [par_map]
    exact (par_congr (q := fun _ => false) fun x hx => hp (a + x) (by omega) (by have := List.mem_range.mp hx; omega)).trans (par_false _)
  rw [this]; simp
theorem odd_sub {s : Str} {tb : List Bool} {n : Nat} (hs : Prd s) (ht : tb.length = 2 ^ (sg s).length) (hn : n < 2 ^ (sg s).length) : oddN (sg s) tb n = subT (sg s) tb (ltN (sg s) n) := by
  have nd := up_nodup hs.up
  rw [← subT_rows nd ht]
  unfold oddN
  rw [← par_range (p := fun m => tb[m]?.getD false && decide (m &&& n = m)) (a := n + 1) (b := 2 ^ (sg s).length) (by omega) fun m h1 _ => by
    have : ¬ (m &&& n = m) := fun e => by have := Nat.and_le_right (n := m) (m := n); omega
    simp [this]]
  exact par_congr fun m hm => by rw [under_bits nd (List.mem_range.mp hm)]
theorem prodS_prd {s : Str} (hs : Prd s) (n : Nat) : Prd (prodS (sg s) n) ∧ ∀ c ∈ sg (prodS (sg s) n), c ∈ sg s :=
  ⟨⟨hs.up.filter _, fun c hc => hs.le c (List.mem_filter.mp hc).1⟩, fun c hc => (List.mem_filter.mp hc).1⟩
theorem prodS_join (s : Str) (n : Nat) : Txt.join "" (((sg s).filter fun c => rowF (rowN (sg s) n) c).map one) = prodS (sg s) n := by
  apply sg_inj
  rw [sg_join0 sg_nil, flat_ones]; rfl
theorem prodS_inj {s : Str} (hs : Prd s) {m n : Nat} (hm : m < 2 ^ (sg s).length) (hn : n < 2 ^ (sg s).length) (h : prodS (sg s) m = prodS (sg s) n) : m = n := by
  have nd := up_nodup hs.up
  have e : ltN (sg s) m = ltN (sg s) n := congrArg sg h
  have h1 := under_bits (n := n) nd hm
  have h2 := under_bits (n := m) nd hm
  have h3 := under_bits (n := m) nd hn
  have h4 := under_bits (n := n) nd hn
  rw [e, h1] at h2
  rw [e, h4] at h3
  have a := of_decide_eq_true (h2.trans (decide_eq_true (Nat.and_self m)))
  have b := of_decide_eq_true (h3.symm.trans (decide_eq_true (Nat.and_self n)))
  rw [Nat.and_comm] at b
  exact a.symm.trans b
theorem prodS_all {s p : Str} (hs : Prd s) (hp : Prd p) (ho : ∀ c ∈ sg p, c ∈ sg s) : ∃ n, n < 2 ^ (sg s).length ∧ prodS (sg s) n = p := by
  obtain ⟨k, hk, e⟩ := rowN_cover (cs := sg s) (fun c => decide (c ∈ sg p)) (up_nodup hs.up)
  refine ⟨k, hk, sg_inj ?_⟩
  show (sg s).filter _ = sg p
  refine up_ext (hs.up.filter _) hp.up fun c => ?_
  rw [List.mem_filter]
  constructor
  · rintro ⟨h1, h2⟩
    rw [e c h1] at h2
    exact of_decide_eq_true h2
  · intro h
    exact ⟨ho c h, by rw [e c (ho c h)]; exact decide_eq_true h⟩
def foundL (s : Str) (tb : List Bool) : List Str := ((List.range (2 ^ (sg s).length)).filter (oddN (sg s) tb)).map (prodS (sg s))
theorem found_form {s : Str} {tb : List Bool} (hs : Prd s) (ht : tb.length = 2 ^ (sg s).length) : Frm (srt (foundL s tb)) ∧ Over s (srt (foundL s tb)) ∧ tabL s (srt (foundL s tb)) = tb := by
  have nd : ((List.range (2 ^ (sg s).length)).map (prodS (sg s))).Nodup := by
    rw [List.nodup_iff_pairwise_ne, List.pairwise_map]
    refine (List.nodup_iff_pairwise_ne.mp List.nodup_range).imp_of_mem fun ha hb ne e => ne (prodS_inj hs (List.mem_range.mp ha) (List.mem_range.mp hb) e)
  have ef : foundL s tb = ((List.range (2 ^ (sg s).length)).map (prodS (sg s))).filter fun p => subT (sg s) tb (sg p) := by
    unfold foundL
    rw [List.filter_map]
    congr 1
    exact List.filter_congr fun n hn => odd_sub hs ht (List.mem_range.mp hn)
  have hp := srt_perm (foundL s tb)
  have hmem : ∀ p ∈ foundL s tb, Prd p ∧ ∀ c ∈ sg p, c ∈ sg s := fun p h => by
    obtain ⟨n, _, rfl⟩ := List.mem_map.mp h
    exact prodS_prd hs n
  have hn : (foundL s tb).Nodup := by rw [ef]; exact nd.filter _
  have hf : Frm (srt (foundL s tb)) := ⟨srt_pw _, hp.nodup_iff.mpr hn, fun p h => (hmem p (hp.mem_iff.mp h)).1⟩
  refine ⟨hf, fun p h => (hmem p (hp.mem_iff.mp h)).2, ?_⟩
  have hv : ∀ r, val r (srt (foundL s tb)) = tabAt (sg s) tb r := fun r => by
    rw [← val_made hs nd (fun p => by
      rw [List.mem_map]
      exact ⟨fun ⟨n, _, e⟩ => e ▸ prodS_prd hs n, fun h => let ⟨n, hn, e⟩ := prodS_all hs h.1 h.2; ⟨n, List.mem_range.mpr hn, e⟩⟩) r, ← ef]
    unfold val
    rw [hp.countP_eq]
  unfold tabL
  rw [show (fun n => val (rowF (rowN (sg s) n)) (srt (foundL s tb))) = fun n => tabAt (sg s) tb (rowF (rowN (sg s) n)) from funext fun n => hv _]
  exact tab_rows (up_nodup hs.up) ht
def sp_L_form_9d6 : DSp := fun ds P _ => match ds with
  | [.str s, .lst xs] => ∃ tb : List Bool, xs = tb.map .bl ∧ (Prd s ∧ (sg s).length ≤ 6 ∧ tb.length = 2 ^ (sg s).length) ∧ ∀ f, Frm f → Over s f → tabL s f = tb → P (.d (fD f))
  | _ => False
theorem band (m n : Nat) : Builtin.bitAnd (m : Int) (n : Int) = ((m &&& n : Nat) : Int) := rfl
abbrev N_L_form_9d6 : List Str := ["_law_letters_here", "_law_table", "_law_found", "_law_number", "_law_odd", "_law_other", "_law_row_here", "_law_letter"]
def w_L_form_9d6_b1_t2 : WS := (wIfS (wB (wVar 4)) (wSeq (wAsg (wCall sp_L_row_c72 (fun _ _ => False) (wCons (wVar 0) (wCons (wVar 3) wNil))) (wgName 6))
    (wDrop (wM 2 oAppend (wCons (wJoin (wC (.str "")) (wLc (wiX (wVar 0)) (wgName 7) (wB (wOp oIxX (wVar 6) (wVar 7))) (wVar 7) [7])) wNil)))) wNext)
def w_L_form_9d6_b1_t1 : WS := wSeq (wFor (wiR1 (wCons (wOp oPlus (wVar 3) (wC (.int 1))) wNil)) (wgName 5)
      (wIfS (wAnd (wB (wOp oEqX (wOp oBitAnd (wVar 5) (wVar 3)) (wVar 5))) (wB (wOp oIxX (wVar 1) (wVar 5)))) (wAsg (wNotV (wVar 4)) (wgName 4)) wNext))
    w_L_form_9d6_b1_t2
def w_L_form_9d6_b1 : WS := wSeq (wAsg (wC (.bl false)) (wgName 4))
    w_L_form_9d6_b1_t1
def w_L_form_9d6_t2 : WS := (wRet (wCB oTuple (wCons (wCB oSortX (wCons (wVar 2) wNil)) wNil)))
def w_L_form_9d6_t1 : WS := wSeq (wFor (wiR1 (wCons (wCB oLen (wCons (wVar 1) wNil)) wNil)) (wgName 3)
      w_L_form_9d6_b1)
    w_L_form_9d6_t2
def w_L_form_9d6 : WS := wSeq (wSet 2 (wLst wNil))
    w_L_form_9d6_t1
theorem len_L_form_9d6 {ds Q px} (h : sp_L_form_9d6 ds Q px) : ds.length = 2 := by unfold sp_L_form_9d6 at h; split at h <;> first | rfl | exact h.elim
theorem rd_L_form_9d6 {ds Q px} (h : sp_L_form_9d6 ds Q px) : w_L_form_9d6 ⟨fun _ => Q (.d .non), Q, fun _ => False, fun _ => False⟩ (startR N_L_form_9d6 ds) := by
  unfold sp_L_form_9d6 at h
  split at h
  · rename_i s xs
    obtain ⟨tb, rfl, ⟨hs, h6, ht⟩, hq⟩ := h
    have hp : 2 ^ (sg s).length ≤ 64 := by
      have : (sg s).length = 0 ∨ (sg s).length = 1 ∨ (sg s).length = 2 ∨ (sg s).length = 3 ∨ (sg s).length = 4 ∨ (sg s).length = 5 ∨ (sg s).length = 6 := by omega
      rcases this with h | h | h | h | h | h | h <;> rw [h] <;> decide
    obtain ⟨f1, f2, f3⟩ := found_form hs ht
    have hb : tb.length ≤ 64 := by omega
    unfold w_L_form_9d6
    simp only [N_L_form_9d6, w_L_form_9d6_t1, wSeq, wSet, wAsg, wC, wIfS, wB, wOp, oI, oI0, asI, asS, asL, asLT, asT, asB, asA_some, asA_none, asO, asOL, asOD, asKey, asDic, asSq, oLen, oMod, oAdd, oSub, oMul, oDiv, oMax, oMin, oPlus, oEqX, oNeX, eqX_int, eqX_str, eqX_bl, oCmp, oLtX, oLeX, oGtX, oGeX, oIxX, oInX, wCB, wCons, wNil, wVar, wMove, nth, put, startR, wNext, wRet, wRetN, wDrop, wFor, wiR1, wiR2, wiX, itemsOf, wgName, wgTup, wgCons, wgNil, wLend, wLendT, seeR_cons, seeR_nil, seeO_d, seeO_none, seeO_ol, seeO_od, wJoin, wM, oAppend, oPop, oPopAt, wDPut, wDPop, wSortK, wDict0, wTup, wLst, wCall, wAnd, wOr, wNot, wAndV, wOrV, wNotV, wIf, wYes, wLc, wiEnumX, oListX, oTuple, oSort, oSortSet, oAll, oAny, S.fz, S.own, D.flat, txts_map, bools_map, txtKeys_map, List.length_map, List.map_cons, List.map_nil, List.length_cons, List.length_nil, List.cons_append, List.nil_append, List.replicate, decide_eq_true_eq, Bool.not_eq_true', Bool.not_true, Bool.not_false, if_true, if_false, Nat.zero_add, Nat.reduceAdd, Nat.reduceSub, ge_iff_le, true_and, and_true, zip_unzip, Bool.false_xor, Bool.true_xor, Bool.false_eq_true, Bool.true_eq_false, reduceIte, wipeR, dataR_cons, dataR_nil, dataO_d, dataO_none, dataO_ol, dataO_od, oDict, oIsi, tyD, isiB, wSl, wPart, wNoP, oSl, wDisp1, wDGet2, oRemove, atI_0, atI_1, atI_2, wiRev, revItems, oDictP, wForK, wiKeys, kD, oSortX, oPow, oBitAnd, oShl, oNeg, wUn, oInt, oStr, oDivmod, oIs, isD, wChain, wFz, wFzE, frzR, wLSet, wiZip, seqsD, wiVals, wiItems, wOIx, wNo, Option.isSome_some, oMulX, wM1, oSplit, oPart, oStrip1, oRep, oSum, intsD, wRaise, wLI, wLK
, wiR3, wLR, wDisp, wPairs, oReverse, oClear, oInsert, wRevL, wDZ, seqLT, oSortIT, wOFld, wSFld, asOI, setOI, putG, wPar, wiItemsC, wiValsC, wIndexL]
    rw [rangeD_map, Int.toNat_natCast]
    refine ⟨by decide, ⟨by omega, by omega⟩, ?_⟩
    refine forD_map (I := fun done _ ρ => ∃ o3 o4 o5 o6 o7 : Option S, ρ = [some (.d (.str s)), some (.d (.lst (tb.map .bl))), some (.ol (((done.filter (oddN (sg s) tb)).map (prodS (sg s))).map .str)), o3, o4, o5, o6, o7]) mono_name (List.range tb.length) (fun done n ys ρ he hI => ?_) (fun ρ hI => ?_) _ ⟨_, _, _, _, _, rfl⟩
    · obtain ⟨o3, o4, o5, o6, o7, rfl⟩ := hI
      have hn : n < tb.length := List.mem_range.mp (by rw [he]; simp)
      have hd : done.length ≤ 64 := by
        have := congrArg List.length he
        rw [List.length_range, List.length_append] at this; omega
      simp only [w_L_form_9d6_b1, w_L_form_9d6_b1_t1, wSeq, wSet, wAsg, wC, wIfS, wB, wOp, oI, oI0, asI, asS, asL, asLT, asT, asB, asA_some, asA_none, asO, asOL, asOD, asKey, asDic, asSq, oLen, oMod, oAdd, oSub, oMul, oDiv, oMax, oMin, oPlus, oEqX, oNeX, eqX_int, eqX_str, eqX_bl, oCmp, oLtX, oLeX, oGtX, oGeX, oIxX, oInX, wCB, wCons, wNil, wVar, wMove, nth, put, startR, wNext, wRet, wRetN, wDrop, wFor, wiR1, wiR2, wiX, itemsOf, wgName, wgTup, wgCons, wgNil, wLend, wLendT, seeR_cons, seeR_nil, seeO_d, seeO_none, seeO_ol, seeO_od, wJoin, wM, oAppend, oPop, oPopAt, wDPut, wDPop, wSortK, wDict0, wTup, wLst, wCall, wAnd, wOr, wNot, wAndV, wOrV, wNotV, wIf, wYes, wLc, wiEnumX, oListX, oTuple, oSort, oSortSet, oAll, oAny, S.fz, S.own, D.flat, txts_map, bools_map, txtKeys_map, List.length_map, List.map_cons, List.map_nil, List.length_cons, List.length_nil, List.cons_append, List.nil_append, List.replicate, decide_eq_true_eq, Bool.not_eq_true', Bool.not_true, Bool.not_false, if_true, if_false, Nat.zero_add, Nat.reduceAdd, Nat.reduceSub, ge_iff_le, true_and, and_true, zip_unzip, Bool.false_xor, Bool.true_xor, Bool.false_eq_true, Bool.true_eq_false, reduceIte, wipeR, dataR_cons, dataR_nil, dataO_d, dataO_none, dataO_ol, dataO_od, oDict, oIsi, tyD, isiB, wSl, wPart, wNoP, oSl, wDisp1, wDGet2, oRemove, atI_0, atI_1, atI_2, wiRev, revItems, oDictP, wForK, wiKeys, kD, oSortX, oPow, oBitAnd, oShl, oNeg, wUn, oInt, oStr, oDivmod, oIs, isD, wChain, wFz, wFzE, frzR, wLSet, wiZip, seqsD, wiVals, wiItems, wOIx, wNo, Option.isSome_some, oMulX, wM1, oSplit, oPart, oStrip1, oRep, oSum, intsD, wRaise, wLI, wLK
, wiR3, wLR, wDisp, wPairs, oReverse, oClear, oInsert, wRevL, wDZ, seqLT, oSortIT, wOFld, wSFld, asOI, setOI, putG, wPar, wiItemsC, wiValsC, wIndexL]
      rw [rangeD_map, show ((n : Int) + 1).toNat = n + 1 by omega]
      refine ⟨⟨by omega, by omega⟩, ?_⟩
      let p : Nat → Bool := fun m => tb[m]?.getD false && decide (m &&& n = m)
      refine forD_map (I := fun dm _ ρ => ∃ o5 : Option S, ρ = [some (.d (.str s)), some (.d (.lst (tb.map .bl))), some (.ol (((done.filter (oddN (sg s) tb)).map (prodS (sg s))).map .str)), some (.d (.int (n : Nat))), some (.d (.bl (par p dm))), o5, o6, o7]) mono_name (List.range (n + 1)) (fun dm m ys2 ρ he2 hI => ?_) (fun ρ hI => ?_) _ ⟨o5, rfl⟩
      · obtain ⟨o5, rfl⟩ := hI
        have hm : m < n + 1 := List.mem_range.mp (by rw [he2]; simp)
        have ea : atI (tb.map D.bl) ((m : Nat) : Int) = some (.bl (tb[m]?.getD false)) := by
          rw [atI_nat, List.getElem?_map, List.getElem?_eq_getElem (by omega)]; rfl
        simp only [wSeq, wSet, wAsg, wC, wIfS, wB, wOp, oI, oI0, asI, asS, asL, asLT, asT, asB, asA_some, asA_none, asO, asOL, asOD, asKey, asDic, asSq, oLen, oMod, oAdd, oSub, oMul, oDiv, oMax, oMin, oPlus, oEqX, oNeX, eqX_int, eqX_str, eqX_bl, oCmp, oLtX, oLeX, oGtX, oGeX, oIxX, oInX, wCB, wCons, wNil, wVar, wMove, nth, put, startR, wNext, wRet, wRetN, wDrop, wFor, wiR1, wiR2, wiX, itemsOf, wgName, wgTup, wgCons, wgNil, wLend, wLendT, seeR_cons, seeR_nil, seeO_d, seeO_none, seeO_ol, seeO_od, wJoin, wM, oAppend, oPop, oPopAt, wDPut, wDPop, wSortK, wDict0, wTup, wLst, wCall, wAnd, wOr, wNot, wAndV, wOrV, wNotV, wIf, wYes, wLc, wiEnumX, oListX, oTuple, oSort, oSortSet, oAll, oAny, S.fz, S.own, D.flat, txts_map, bools_map, txtKeys_map, List.length_map, List.map_cons, List.map_nil, List.length_cons, List.length_nil, List.cons_append, List.nil_append, List.replicate, decide_eq_true_eq, Bool.not_eq_true', Bool.not_true, Bool.not_false, if_true, if_false, Nat.zero_add, Nat.reduceAdd, Nat.reduceSub, ge_iff_le, true_and, and_true, zip_unzip, Bool.false_xor, Bool.true_xor, Bool.false_eq_true, Bool.true_eq_false, reduceIte, wipeR, dataR_cons, dataR_nil, dataO_d, dataO_none, dataO_ol, dataO_od, oDict, oIsi, tyD, isiB, wSl, wPart, wNoP, oSl, wDisp1, wDGet2, oRemove, atI_0, atI_1, atI_2, wiRev, revItems, oDictP, wForK, wiKeys, kD, oSortX, oPow, oBitAnd, oShl, oNeg, wUn, oInt, oStr, oDivmod, oIs, isD, wChain, wFz, wFzE, frzR, wLSet, wiZip, seqsD, wiVals, wiItems, wOIx, wNo, Option.isSome_some, oMulX, wM1, oSplit, oPart, oStrip1, oRep, oSum, intsD, wRaise, wLI, wLK
, wiR3, wLR, wDisp, wPairs, oReverse, oClear, oInsert, wRevL, wDZ, seqLT, oSortIT, wOFld, wSFld, asOI, setOI, putG, wPar, wiItemsC, wiValsC, wIndexL, band, eqX_int]
        have ep : par p (dm ++ [m]) = xor (par p dm) (p m) := by
          rw [par_append]; congr 1
          unfold par
          cases h : p m <;> simp [h]
        rw [ep, ea, asA_some]
        by_cases c1 : m &&& n = m
        · rw [if_pos (by rw [c1])]
          have e2 : p m = tb[m]?.getD false := by show (_ && decide _) = _; rw [decide_eq_true c1, Bool.and_true]
          show if tb[m]?.getD false = true then _ else _
          rw [e2]
          cases tb[m]?.getD false
          · rw [if_neg Bool.false_ne_true, Bool.xor_false]; exact ⟨_, rfl⟩
          · rw [if_pos rfl, Bool.xor_true]; exact ⟨_, rfl⟩
        · rw [if_neg (fun z => c1 (by omega))]
          have e2 : p m = false := by show (_ && decide _) = _; rw [decide_eq_false c1, Bool.and_false]
          rw [e2, Bool.xor_false]; exact ⟨_, rfl⟩
      · obtain ⟨o5, rfl⟩ := hI
        simp only [w_L_form_9d6_b1_t2, wSeq, wSet, wAsg, wC, wIfS, wB, wOp, oI, oI0, asI, asS, asL, asLT, asT, asB, asA_some, asA_none, asO, asOL, asOD, asKey, asDic, asSq, oLen, oMod, oAdd, oSub, oMul, oDiv, oMax, oMin, oPlus, oEqX, oNeX, eqX_int, eqX_str, eqX_bl, oCmp, oLtX, oLeX, oGtX, oGeX, oIxX, oInX, wCB, wCons, wNil, wVar, wMove, nth, put, startR, wNext, wRet, wRetN, wDrop, wFor, wiR1, wiR2, wiX, itemsOf, wgName, wgTup, wgCons, wgNil, wLend, wLendT, seeR_cons, seeR_nil, seeO_d, seeO_none, seeO_ol, seeO_od, wJoin, wM, oAppend, oPop, oPopAt, wDPut, wDPop, wSortK, wDict0, wTup, wLst, wCall, wAnd, wOr, wNot, wAndV, wOrV, wNotV, wIf, wYes, wLc, wiEnumX, oListX, oTuple, oSort, oSortSet, oAll, oAny, S.fz, S.own, D.flat, txts_map, bools_map, txtKeys_map, List.length_map, List.map_cons, List.map_nil, List.length_cons, List.length_nil, List.cons_append, List.nil_append, List.replicate, decide_eq_true_eq, Bool.not_eq_true', Bool.not_true, Bool.not_false, if_true, if_false, Nat.zero_add, Nat.reduceAdd, Nat.reduceSub, ge_iff_le, true_and, and_true, zip_unzip, Bool.false_xor, Bool.true_xor, Bool.false_eq_true, Bool.true_eq_false, reduceIte, wipeR, dataR_cons, dataR_nil, dataO_d, dataO_none, dataO_ol, dataO_od, oDict, oIsi, tyD, isiB, wSl, wPart, wNoP, oSl, wDisp1, wDGet2, oRemove, atI_0, atI_1, atI_2, wiRev, revItems, oDictP, wForK, wiKeys, kD, oSortX, oPow, oBitAnd, oShl, oNeg, wUn, oInt, oStr, oDivmod, oIs, isD, wChain, wFz, wFzE, frzR, wLSet, wiZip, seqsD, wiVals, wiItems, wOIx, wNo, Option.isSome_some, oMulX, wM1, oSplit, oPart, oStrip1, oRep, oSum, intsD, wRaise, wLI, wLK
, wiR3, wLR, wDisp, wPairs, oReverse, oClear, oInsert, wRevL, wDZ, seqLT, oSortIT, wOFld, wSFld, asOI, setOI, putG, wPar, wiItemsC, wiValsC, wIndexL]
        rw [List.filter_append, List.map_append, List.map_append]
        show if oddN (sg s) tb n = true then _ else _
        cases hodd : oddN (sg s) tb n
        · rw [if_neg Bool.false_ne_true]
          have : ([n].filter (oddN (sg s) tb)) = [] := by simp [hodd]
          rw [this, List.map_nil, List.map_nil, List.append_nil]
          exact ⟨_, _, _, _, _, rfl⟩
        · rw [if_pos rfl]
          have : ([n].filter (oddN (sg s) tb)) = [n] := by simp [hodd]
          rw [this, List.map_singleton, List.map_singleton]
          simp only [wSeq, wSet, wAsg, wC, wIfS, wB, wOp, oI, oI0, asI, asS, asL, asLT, asT, asB, asA_some, asA_none, asO, asOL, asOD, asKey, asDic, asSq, oLen, oMod, oAdd, oSub, oMul, oDiv, oMax, oMin, oPlus, oEqX, oNeX, eqX_int, eqX_str, eqX_bl, oCmp, oLtX, oLeX, oGtX, oGeX, oIxX, oInX, wCB, wCons, wNil, wVar, wMove, nth, put, startR, wNext, wRet, wRetN, wDrop, wFor, wiR1, wiR2, wiX, itemsOf, wgName, wgTup, wgCons, wgNil, wLend, wLendT, seeR_cons, seeR_nil, seeO_d, seeO_none, seeO_ol, seeO_od, wJoin, wM, oAppend, oPop, oPopAt, wDPut, wDPop, wSortK, wDict0, wTup, wLst, wCall, wAnd, wOr, wNot, wAndV, wOrV, wNotV, wIf, wYes, wLc, wiEnumX, oListX, oTuple, oSort, oSortSet, oAll, oAny, S.fz, S.own, D.flat, txts_map, bools_map, txtKeys_map, List.length_map, List.map_cons, List.map_nil, List.length_cons, List.length_nil, List.cons_append, List.nil_append, List.replicate, decide_eq_true_eq, Bool.not_eq_true', Bool.not_true, Bool.not_false, if_true, if_false, Nat.zero_add, Nat.reduceAdd, Nat.reduceSub, ge_iff_le, true_and, and_true, zip_unzip, Bool.false_xor, Bool.true_xor, Bool.false_eq_true, Bool.true_eq_false, reduceIte, wipeR, dataR_cons, dataR_nil, dataO_d, dataO_none, dataO_ol, dataO_od, oDict, oIsi, tyD, isiB, wSl, wPart, wNoP, oSl, wDisp1, wDGet2, oRemove, atI_0, atI_1, atI_2, wiRev, revItems, oDictP, wForK, wiKeys, kD, oSortX, oPow, oBitAnd, oShl, oNeg, wUn, oInt, oStr, oDivmod, oIs, isD, wChain, wFz, wFzE, frzR, wLSet, wiZip, seqsD, wiVals, wiItems, wOIx, wNo, Option.isSome_some, oMulX, wM1, oSplit, oPart, oStrip1, oRep, oSum, intsD, wRaise, wLI, wLK
, wiR3, wLR, wDisp, wPairs, oReverse, oClear, oInsert, wRevL, wDZ, seqLT, oSortIT, wOFld, wSFld, asOI, setOI, putG, wPar, wiItemsC, wiValsC, wIndexL, sp_L_row_c72]
          refine ⟨n, rfl, ⟨hs, h6⟩, ?_⟩
          rw [signs_eq, List.map_map]
          refine ⟨by rw [List.length_map, len0]; omega, ?_⟩
          refine compD_map mono_name (fun c => if rowF (rowN (sg s) n) c = true then some (.str (one c)) else none) (sg s) _ (fun c hc Q' hQ => ?_) ?_
          · simp only [wSeq, wSet, wAsg, wC, wIfS, wB, wOp, oI, oI0, asI, asS, asL, asLT, asT, asB, asA_some, asA_none, asO, asOL, asOD, asKey, asDic, asSq, oLen, oMod, oAdd, oSub, oMul, oDiv, oMax, oMin, oPlus, oEqX, oNeX, eqX_int, eqX_str, eqX_bl, oCmp, oLtX, oLeX, oGtX, oGeX, oIxX, oInX, wCB, wCons, wNil, wVar, wMove, nth, put, startR, wNext, wRet, wRetN, wDrop, wFor, wiR1, wiR2, wiX, itemsOf, wgName, wgTup, wgCons, wgNil, wLend, wLendT, seeR_cons, seeR_nil, seeO_d, seeO_none, seeO_ol, seeO_od, wJoin, wM, oAppend, oPop, oPopAt, wDPut, wDPop, wSortK, wDict0, wTup, wLst, wCall, wAnd, wOr, wNot, wAndV, wOrV, wNotV, wIf, wYes, wLc, wiEnumX, oListX, oTuple, oSort, oSortSet, oAll, oAny, S.fz, S.own, D.flat, txts_map, bools_map, txtKeys_map, List.length_map, List.map_cons, List.map_nil, List.length_cons, List.length_nil, List.cons_append, List.nil_append, List.replicate, decide_eq_true_eq, Bool.not_eq_true', Bool.not_true, Bool.not_false, if_true, if_false, Nat.zero_add, Nat.reduceAdd, Nat.reduceSub, ge_iff_le, true_and, and_true, zip_unzip, Bool.false_xor, Bool.true_xor, Bool.false_eq_true, Bool.true_eq_false, reduceIte, wipeR, dataR_cons, dataR_nil, dataO_d, dataO_none, dataO_ol, dataO_od, oDict, oIsi, tyD, isiB, wSl, wPart, wNoP, oSl, wDisp1, wDGet2, oRemove, atI_0, atI_1, atI_2, wiRev, revItems, oDictP, wForK, wiKeys, kD, oSortX, oPow, oBitAnd, oShl, oNeg, wUn, oInt, oStr, oDivmod, oIs, isD, wChain, wFz, wFzE, frzR, wLSet, wiZip, seqsD, wiVals, wiItems, wOIx, wNo, Option.isSome_some, oMulX, wM1, oSplit, oPart, oStrip1, oRep, oSum, intsD, wRaise, wLI, wLK
, wiR3, wLR, wDisp, wPairs, oReverse, oClear, oInsert, wRevL, wDZ, seqLT, oSortIT, wOFld, wSFld, asOI, setOI, putG, wPar, wiItemsC, wiValsC, wIndexL, Function.comp]
            rw [vget_row (by rw [rowN_keys]; exact hc), asA_some]
            show if rowF (rowN (sg s) n) c = true then Q' (some (.str (one c))) else Q' none
            split
            · rename_i z; rw [if_pos z] at hQ; exact hQ
            · rename_i z; rw [if_neg z] at hQ; exact hQ
          · have e9 : (sg s).filterMap (fun c => if rowF (rowN (sg s) n) c = true then some (D.str (one c)) else none) = (((sg s).filter fun c => rowF (rowN (sg s) n) c).map one).map .str := by
              rw [List.map_map, ← List.filterMap_eq_filter, List.map_filterMap]
              congr 1
              funext c
              cases h : rowF (rowN (sg s) n) c <;> simp [h, Option.guard]
            rw [e9, txts_map, asA_some, prodS_join]
            have l9 := List.length_filter_le (fun c => rowF (rowN (sg s) n) c) (sg s)
            have h0 : Str.length "" = 0 := by decide +kernel
            have lf := List.length_filter_le (oddN (sg s) tb) done
            exact ⟨by rw [ones_sum, h0]; omega, by rw [len0]; omega, _, _, _, _, _, rfl⟩
    · obtain ⟨o3, o4, o5, o6, o7, rfl⟩ := hI
      simp only [w_L_form_9d6_t2, wSeq, wSet, wAsg, wC, wIfS, wB, wOp, oI, oI0, asI, asS, asL, asLT, asT, asB, asA_some, asA_none, asO, asOL, asOD, asKey, asDic, asSq, oLen, oMod, oAdd, oSub, oMul, oDiv, oMax, oMin, oPlus, oEqX, oNeX, eqX_int, eqX_str, eqX_bl, oCmp, oLtX, oLeX, oGtX, oGeX, oIxX, oInX, wCB, wCons, wNil, wVar, wMove, nth, put, startR, wNext, wRet, wRetN, wDrop, wFor, wiR1, wiR2, wiX, itemsOf, wgName, wgTup, wgCons, wgNil, wLend, wLendT, seeR_cons, seeR_nil, seeO_d, seeO_none, seeO_ol, seeO_od, wJoin, wM, oAppend, oPop, oPopAt, wDPut, wDPop, wSortK, wDict0, wTup, wLst, wCall, wAnd, wOr, wNot, wAndV, wOrV, wNotV, wIf, wYes, wLc, wiEnumX, oListX, oTuple, oSort, oSortSet, oAll, oAny, S.fz, S.own, D.flat, txts_map, bools_map, txtKeys_map, List.length_map, List.map_cons, List.map_nil, List.length_cons, List.length_nil, List.cons_append, List.nil_append, List.replicate, decide_eq_true_eq, Bool.not_eq_true', Bool.not_true, Bool.not_false, if_true, if_false, Nat.zero_add, Nat.reduceAdd, Nat.reduceSub, ge_iff_le, true_and, and_true, zip_unzip, Bool.false_xor, Bool.true_xor, Bool.false_eq_true, Bool.true_eq_false, reduceIte, wipeR, dataR_cons, dataR_nil, dataO_d, dataO_none, dataO_ol, dataO_od, oDict, oIsi, tyD, isiB, wSl, wPart, wNoP, oSl, wDisp1, wDGet2, oRemove, atI_0, atI_1, atI_2, wiRev, revItems, oDictP, wForK, wiKeys, kD, oSortX, oPow, oBitAnd, oShl, oNeg, wUn, oInt, oStr, oDivmod, oIs, isD, wChain, wFz, wFzE, frzR, wLSet, wiZip, seqsD, wiVals, wiItems, wOIx, wNo, Option.isSome_some, oMulX, wM1, oSplit, oPart, oStrip1, oRep, oSum, intsD, wRaise, wLI, wLK
, wiR3, wLR, wDisp, wPairs, oReverse, oClear, oInsert, wRevL, wDZ, seqLT, oSortIT, wOFld, wSFld, asOI, setOI, putG, wPar, wiItemsC, wiValsC, wIndexL]
      have e : (((List.range tb.length).filter (oddN (sg s) tb)).map (prodS (sg s))) = foundL s tb := by unfold foundL; rw [ht]
      rw [e]
      have hl := List.length_filter_le (oddN (sg s) tb) (List.range tb.length)
      rw [List.length_range] at hl
      exact ⟨by rw [len0]; omega, hq _ f1 f2 f3⟩
  · exact h.elim
end DL
set_option maxHeartbeats 2000000
namespace DL
open PySem L2 Tree
def Tb_fault (n : Nat) : List (Str × DSp) := [("Task", sp_Task_fault)]
theorem at_fault {n : Nat} {g p : Str} {ws : List Wsh} {x y : D} {P : S → Prop} {px : PX} (hx : x = taskD g p ws) (hy : y = taskD g p ws) (h : P (.d (fD (faultF ws)))) :
    asIns x fun N kvs => fget kvs "fault" = none ∧ asA (tget (Tb_fault n) N) fun sp => sp [y] P px := by
  subst hx; subst hy
  rw [asIns_task]
  exact ⟨by unfold taskK; rw [fget_cons, if_neg (by decide +kernel), fget_cons, if_neg (by decide +kernel), fget_cons, if_neg (by decide +kernel), fget_cons, if_neg (by decide +kernel), fget_cons, if_neg (by decide +kernel)]; rfl, g, p, ws, rfl, h⟩
def wishO (q : Tree × Tree) : Wsh := ⟨q.1, q.2, 0, 1, 1, 0⟩
theorem wishO_txt (q : Tree × Tree) : (wishO q).txt = q.1.txt ++ " = " ++ q.2.txt := by
  apply sg_inj
  unfold wishO Wsh.txt
  simp only [sg_append, sg_blanks]
  rw [show sg (Str.ofString " = ") = [32] ++ sg (Str.ofString "=") ++ [32] by decide +kernel]
  simp [List.replicate]
theorem val_faultO (r : Nat → Bool) (l : List (Tree × Tree)) : val r (faultF (l.map wishO)) = l.any (differ r) := by
  have g : ∀ (l : List (Tree × Tree)) (f : List Str), val r ((l.map wishO).foldl (fun f w => joinF f (addedF w.a.frm w.b.frm)) f) = (val r f || l.any (differ r)) := fun l => by
    induction l with
    | nil => intro f; simp
    | cons q l ih =>
      intro f
      rw [List.map_cons, List.foldl_cons, ih, val_join, val_added, val_frm, val_frm, List.any_cons]
      show (val r f || xor (q.1.tru r) (q.2.tru r) || _) = _
      rw [Bool.or_assoc]
      rfl
  unfold faultF
  rw [g, val_nil, Bool.false_or]
theorem size_wtO : ∀ t : Tree, t.size + 1 ≤ 2 * t.wt
  | .let _ => Nat.le_refl _
  | .one => Nat.le_refl _
  | .zero => Nat.le_refl _
  | .no t => by have := size_wtO t; rw [wt, size]; omega
  | .pr k a b => by have := size_wtO a; have := size_wtO b; rw [wt, size]; omega
theorem task_of {g p : Str} {l : List (Tree × Tree)} (hl : LettersOk g p) (h6 : l.length ≤ 6) (ho : ∀ q ∈ l, PairO (g ++ p) 10 q) : TaskOk g p (l.map wishO) :=
  ⟨hl.1.1, hl.1.2, hl.2.1, hl.2.2, by rw [List.length_map]; exact h6, fun w hw => by
    obtain ⟨q, hq, rfl⟩ := List.mem_map.mp hw
    obtain ⟨⟨a1, a2⟩, b1, b2⟩ := ho q hq
    have s1 := size_wtO q.1
    have s2 := size_wtO q.2
    exact ⟨a2, b2, by show q.1.size ≤ 20; omega, by show q.2.size ≤ 20; omega, Nat.zero_le _, (by decide : 1 ≤ 100), (by decide : 1 ≤ 100), Nat.zero_le _⟩⟩
abbrev N_law : List Str := ["_law_script", "_law_givens", "_law_gaps", "_law_letters_here", "_law_wishes_here", "_law_left", "_law_right", "_law_found", "_law_table", "_law_row_here"]
def w_law_t6 : WS := (wRet (wAndV (wCall sp_L_form_like_5d5 (fun _ _ => False) (wCons (wVar 7) (wCons (wVar 3) wNil))) (wOp oEqX (wVar 7) (wCall sp_L_form_9d6 (fun _ _ => False) (wCons (wVar 3) (wCons (wVar 8) wNil))))))
def w_law_t5 : WS := wSeq (wAsg (wLc (wiX (wCall sp_L_rows_2f4 (fun _ _ => False) (wCons (wVar 3) wNil))) (wgName 9) wYes (wOp oGtX (wCB oLen (wCons (wCall sp_L_failing_f34 (fun _ _ => False) (wCons (wVar 4) (wCons (wVar 9) wNil))) wNil)) (wC (.int 0))) [9]) (wgName 8))
    w_law_t6
def w_law_t4 : WS := wSeq (wAsg (wMeth (Tb_fault 70) "fault" (fun _ _ => False) (wCall sp_Task_init (fun _ _ => False) (wCons (wVar 1) (wCons (wVar 2) (wCons (wCall sp_L_written_ba0 (fun _ _ => False) (wCons (wVar 4) wNil)) wNil)))) wNil) (wgName 7))
    w_law_t5
def w_law_t3 : WS := wSeq (wIfS (wB (wOp oEqX (wOp oMod (wCall sp_L_mixed_47c (fun _ _ => False) (wCons (wVar 0) (wCons (wC (.int 140)) wNil))) (wC (.int 7))) (wC (.int 0)))) (wAsg (wLc (wiX (wVar 4)) (wgTup 2 (wgCons (wgName 5) (wgCons (wgName 6) wgNil))) wYes (wTup (wCons (wVar 5) (wCons (wVar 5) wNil))) [5, 6]) (wgName 4)) wNext)
    w_law_t4
def w_law_t2 : WS := wSeq (wAsg (wCall sp_L_wishes_a27 (fun _ _ => False) (wCons (wVar 0) (wCons (wVar 3) (wCons (wOp oSub (wC (.int 6)) (wOp oMul (wOp oDiv (wCB oLen (wCons (wVar 3) wNil)) (wC (.int 5))) (wC (.int 3)))) (wCons (wC (.int 10)) wNil))))) (wgName 4))
    w_law_t3
def w_law_t1 : WS := wSeq (wAsg (wOp oPlus (wVar 1) (wVar 2)) (wgName 3))
    w_law_t2
def w_law : WS := wSeq (wAsg (wCall sp_L_letters_2d2 (fun _ _ => False) (wCons (wVar 0) wNil)) (wgTup 2 (wgCons (wgName 1) (wgCons (wgName 2) wgNil))))
    w_law_t1
theorem len_law {ds Q px} (h : spLaw ds Q px) : ds.length = 1 := by obtain ⟨ns, rfl, _⟩ := h; rfl
theorem rd_law {ds Q px} (h : spLaw ds Q px) : w_law ⟨fun _ => Q (.d .non), Q, fun _ => False, fun _ => False⟩ (startR N_law ds) := by
  obtain ⟨ns, rfl, hl, hb, hq⟩ := h
  unfold w_law
  simp only [N_law, w_law_t1, wSeq, wSet, wAsg, wC, wIfS, wB, wOp, oI, oI0, asI, asS, asL, asLT, asT, asB, asA_some, asA_none, asO, asOL, asOD, asKey, asDic, asSq, oLen, oMod, oAdd, oSub, oMul, oDiv, oMax, oMin, oPlus, oEqX, oNeX, eqX_int, eqX_str, eqX_bl, oCmp, oLtX, oLeX, oGtX, oGeX, oIxX, oInX, wCB, wCons, wNil, wVar, wMove, nth, put, startR, wNext, wRet, wRetN, wDrop, wFor, wiR1, wiR2, wiX, itemsOf, wgName, wgTup, wgCons, wgNil, wLend, wLendT, seeR_cons, seeR_nil, seeO_d, seeO_none, seeO_ol, seeO_od, wJoin, wM, oAppend, oPop, oPopAt, wDPut, wDPop, wSortK, wDict0, wTup, wLst, wCall, wAnd, wOr, wNot, wAndV, wOrV, wNotV, wIf, wYes, wLc, wiEnumX, oListX, oTuple, oSort, oSortSet, oAll, oAny, S.fz, S.own, D.flat, txts_map, bools_map, txtKeys_map, List.length_map, List.map_cons, List.map_nil, List.length_cons, List.length_nil, List.cons_append, List.nil_append, List.replicate, decide_eq_true_eq, Bool.not_eq_true', Bool.not_true, Bool.not_false, if_true, if_false, Nat.zero_add, Nat.reduceAdd, Nat.reduceSub, ge_iff_le, true_and, and_true, zip_unzip, Bool.false_xor, Bool.true_xor, Bool.false_eq_true, Bool.true_eq_false, reduceIte, wipeR, dataR_cons, dataR_nil, dataO_d, dataO_none, dataO_ol, dataO_od, oDict, oIsi, tyD, isiB, wSl, wPart, wNoP, oSl, wDisp1, wDGet2, oRemove, atI_0, atI_1, atI_2, wiRev, revItems, oDictP, wForK, wiKeys, kD, oSortX, oPow, oBitAnd, oShl, oNeg, wUn, oInt, oStr, oDivmod, oIs, isD, wChain, wFz, wFzE, frzR, wLSet, wiZip, seqsD, wiVals, wiItems, wOIx, wNo, Option.isSome_some, oMulX, wM1, oSplit, oPart, oStrip1, oRep, oSum, intsD, wRaise, wLI, wLK
, wiR3, wLR, wDisp, wPairs, oReverse, oClear, oInsert, wRevL, wDZ, seqLT, oSortIT, wOFld, wSFld, asOI, setOI, putG, wPar, wiItemsC, wiValsC, wIndexL, sp_L_letters_2d2]
  refine ⟨hl, fun g p lo => ?_⟩
  have g3 : (sg g).length ≤ 3 := (up_nodup lo.1.1.up).length_le_of_subset (l₂ := [97, 98, 99]) lo.1.2
  have p3 : (sg p).length ≤ 3 := (up_nodup lo.2.1.up).length_le_of_subset (l₂ := [120, 121, 122]) lo.2.2
  have tk0 := task_of (l := []) lo (by decide) (fun _ z => nomatch z)
  have hgp : Prd (g ++ p) := tk0.prd
  have lgp : (sg (g ++ p)).length ≤ 6 := by rw [sg_append, List.length_append]; omega
  have lg : g.length = (sg g).length := sg_len g
  have lp : p.length = (sg p).length := sg_len p
  have lgl : (g ++ p).length = (sg (g ++ p)).length := sg_len _
  have t4 : ∀ (l : List (Tree × Tree)) (o5 o6 : Option S), l.length ≤ 6 → (∀ q ∈ l, PairO (g ++ p) 10 q) → w_law_t4 ⟨fun _ => Q (.d .non), Q, fun _ => False, fun _ => False⟩ [some (.d (.cel ns)), some (.d (.str g)), some (.d (.str p)), some (.d (.str (g ++ p))), some (.d (.lst (l.map tpair2))), o5, o6, none, none, none] := fun l o5 o6 l6 ho => by
    have tk := task_of lo l6 ho
    have hf := tk.frm
    have hov := tk.over
    simp only [w_law_t4, wMeth, wSeq, wSet, wAsg, wC, wIfS, wB, wOp, oI, oI0, asI, asS, asL, asLT, asT, asB, asA_some, asA_none, asO, asOL, asOD, asKey, asDic, asSq, oLen, oMod, oAdd, oSub, oMul, oDiv, oMax, oMin, oPlus, oEqX, oNeX, eqX_int, eqX_str, eqX_bl, oCmp, oLtX, oLeX, oGtX, oGeX, oIxX, oInX, wCB, wCons, wNil, wVar, wMove, nth, put, startR, wNext, wRet, wRetN, wDrop, wFor, wiR1, wiR2, wiX, itemsOf, wgName, wgTup, wgCons, wgNil, wLend, wLendT, seeR_cons, seeR_nil, seeO_d, seeO_none, seeO_ol, seeO_od, wJoin, wM, oAppend, oPop, oPopAt, wDPut, wDPop, wSortK, wDict0, wTup, wLst, wCall, wAnd, wOr, wNot, wAndV, wOrV, wNotV, wIf, wYes, wLc, wiEnumX, oListX, oTuple, oSort, oSortSet, oAll, oAny, S.fz, S.own, D.flat, txts_map, bools_map, txtKeys_map, List.length_map, List.map_cons, List.map_nil, List.length_cons, List.length_nil, List.cons_append, List.nil_append, List.replicate, decide_eq_true_eq, Bool.not_eq_true', Bool.not_true, Bool.not_false, if_true, if_false, Nat.zero_add, Nat.reduceAdd, Nat.reduceSub, ge_iff_le, true_and, and_true, zip_unzip, Bool.false_xor, Bool.true_xor, Bool.false_eq_true, Bool.true_eq_false, reduceIte, wipeR, dataR_cons, dataR_nil, dataO_d, dataO_none, dataO_ol, dataO_od, oDict, oIsi, tyD, isiB, wSl, wPart, wNoP, oSl, wDisp1, wDGet2, oRemove, atI_0, atI_1, atI_2, wiRev, revItems, oDictP, wForK, wiKeys, kD, oSortX, oPow, oBitAnd, oShl, oNeg, wUn, oInt, oStr, oDivmod, oIs, isD, wChain, wFz, wFzE, frzR, wLSet, wiZip, seqsD, wiVals, wiItems, wOIx, wNo, Option.isSome_some, oMulX, wM1, oSplit, oPart, oStrip1, oRep, oSum, intsD, wRaise, wLI, wLK
, wiR3, wLR, wDisp, wPairs, oReverse, oClear, oInsert, wRevL, wDZ, seqLT, oSortIT, wOFld, wSFld, asOI, setOI, putG, wPar, wiItemsC, wiValsC, wIndexL, sp_L_written_ba0, sp_Task_init]
    refine ⟨g ++ p, l, rfl, ⟨by omega, fun q hq => by obtain ⟨⟨a1, a2⟩, b1, b2⟩ := ho q hq; exact ⟨⟨by omega, a2⟩, by omega, b2⟩⟩, ?_⟩
    refine ⟨l.map wishO, by rw [List.map_map]; exact List.map_congr_left fun q _ => by show _ = D.str (wishO q).txt; rw [wishO_txt], tk, ?_⟩
    refine at_fault rfl rfl ?_
    simp only [w_law_t5, wSeq, wSet, wAsg, wC, wIfS, wB, wOp, oI, oI0, asI, asS, asL, asLT, asT, asB, asA_some, asA_none, asO, asOL, asOD, asKey, asDic, asSq, oLen, oMod, oAdd, oSub, oMul, oDiv, oMax, oMin, oPlus, oEqX, oNeX, eqX_int, eqX_str, eqX_bl, oCmp, oLtX, oLeX, oGtX, oGeX, oIxX, oInX, wCB, wCons, wNil, wVar, wMove, nth, put, startR, wNext, wRet, wRetN, wDrop, wFor, wiR1, wiR2, wiX, itemsOf, wgName, wgTup, wgCons, wgNil, wLend, wLendT, seeR_cons, seeR_nil, seeO_d, seeO_none, seeO_ol, seeO_od, wJoin, wM, oAppend, oPop, oPopAt, wDPut, wDPop, wSortK, wDict0, wTup, wLst, wCall, wAnd, wOr, wNot, wAndV, wOrV, wNotV, wIf, wYes, wLc, wiEnumX, oListX, oTuple, oSort, oSortSet, oAll, oAny, S.fz, S.own, D.flat, txts_map, bools_map, txtKeys_map, List.length_map, List.map_cons, List.map_nil, List.length_cons, List.length_nil, List.cons_append, List.nil_append, List.replicate, decide_eq_true_eq, Bool.not_eq_true', Bool.not_true, Bool.not_false, if_true, if_false, Nat.zero_add, Nat.reduceAdd, Nat.reduceSub, ge_iff_le, true_and, and_true, zip_unzip, Bool.false_xor, Bool.true_xor, Bool.false_eq_true, Bool.true_eq_false, reduceIte, wipeR, dataR_cons, dataR_nil, dataO_d, dataO_none, dataO_ol, dataO_od, oDict, oIsi, tyD, isiB, wSl, wPart, wNoP, oSl, wDisp1, wDGet2, oRemove, atI_0, atI_1, atI_2, wiRev, revItems, oDictP, wForK, wiKeys, kD, oSortX, oPow, oBitAnd, oShl, oNeg, wUn, oInt, oStr, oDivmod, oIs, isD, wChain, wFz, wFzE, frzR, wLSet, wiZip, seqsD, wiVals, wiItems, wOIx, wNo, Option.isSome_some, oMulX, wM1, oSplit, oPart, oStrip1, oRep, oSum, intsD, wRaise, wLI, wLK
, wiR3, wLR, wDisp, wPairs, oReverse, oClear, oInsert, wRevL, wDZ, seqLT, oSortIT, wOFld, wSFld, asOI, setOI, putG, wPar, wiItemsC, wiValsC, wIndexL, sp_L_rows_2f4]
    have l64 : (allRows (sg (g ++ p))).length ≤ 64 := by
      rw [allRows_len]
      generalize (sg (g ++ p)).length = n at lgp
      have : n = 0 ∨ n = 1 ∨ n = 2 ∨ n = 3 ∨ n = 4 ∨ n = 5 ∨ n = 6 := by omega
      rcases this with h | h | h | h | h | h | h <;> rw [h] <;> decide
    refine ⟨⟨hgp, lgp⟩, by rw [len0]; omega, ?_⟩
    refine compD_map mono_name (fun r : Row => some (.bl (l.any (differ (rowF r))))) (allRows (sg (g ++ p))) _ (fun r hr Q' hQ => ?_) ?_
    · have kr := allRows_keys hr
      simp only [wSeq, wSet, wAsg, wC, wIfS, wB, wOp, oI, oI0, asI, asS, asL, asLT, asT, asB, asA_some, asA_none, asO, asOL, asOD, asKey, asDic, asSq, oLen, oMod, oAdd, oSub, oMul, oDiv, oMax, oMin, oPlus, oEqX, oNeX, eqX_int, eqX_str, eqX_bl, oCmp, oLtX, oLeX, oGtX, oGeX, oIxX, oInX, wCB, wCons, wNil, wVar, wMove, nth, put, startR, wNext, wRet, wRetN, wDrop, wFor, wiR1, wiR2, wiX, itemsOf, wgName, wgTup, wgCons, wgNil, wLend, wLendT, seeR_cons, seeR_nil, seeO_d, seeO_none, seeO_ol, seeO_od, wJoin, wM, oAppend, oPop, oPopAt, wDPut, wDPop, wSortK, wDict0, wTup, wLst, wCall, wAnd, wOr, wNot, wAndV, wOrV, wNotV, wIf, wYes, wLc, wiEnumX, oListX, oTuple, oSort, oSortSet, oAll, oAny, S.fz, S.own, D.flat, txts_map, bools_map, txtKeys_map, List.length_map, List.map_cons, List.map_nil, List.length_cons, List.length_nil, List.cons_append, List.nil_append, List.replicate, decide_eq_true_eq, Bool.not_eq_true', Bool.not_true, Bool.not_false, if_true, if_false, Nat.zero_add, Nat.reduceAdd, Nat.reduceSub, ge_iff_le, true_and, and_true, zip_unzip, Bool.false_xor, Bool.true_xor, Bool.false_eq_true, Bool.true_eq_false, reduceIte, wipeR, dataR_cons, dataR_nil, dataO_d, dataO_none, dataO_ol, dataO_od, oDict, oIsi, tyD, isiB, wSl, wPart, wNoP, oSl, wDisp1, wDGet2, oRemove, atI_0, atI_1, atI_2, wiRev, revItems, oDictP, wForK, wiKeys, kD, oSortX, oPow, oBitAnd, oShl, oNeg, wUn, oInt, oStr, oDivmod, oIs, isD, wChain, wFz, wFzE, frzR, wLSet, wiZip, seqsD, wiVals, wiItems, wOIx, wNo, Option.isSome_some, oMulX, wM1, oSplit, oPart, oStrip1, oRep, oSum, intsD, wRaise, wLI, wLK
, wiR3, wLR, wDisp, wPairs, oReverse, oClear, oInsert, wRevL, wDZ, seqLT, oSortIT, wOFld, wSFld, asOI, setOI, putG, wPar, wiItemsC, wiValsC, wIndexL, sp_L_failing_f34]
      refine ⟨l, r, rfl, rfl, ⟨by omega, fun q hq => ?_⟩, ?_⟩
      · obtain ⟨⟨a1, a2⟩, b1, b2⟩ := ho q hq
        rw [kr]
        exact ⟨⟨by omega, a2.2⟩, by omega, b2.2⟩
      · have e := fail_any l (rowF r)
        have lfl : (failL l (rowF r)).length ≤ 6 := by
          unfold failL
          rw [List.length_map]
          exact Nat.le_trans (List.length_filter_le _ _) (by rw [enumQ_len]; exact l6)
        have e2 : decide ((0 : Int) < ((failL l (rowF r)).length : Int)) = decide (0 < (failL l (rowF r)).length) := decide_eq_decide.mpr (by omega)
        rw [e2, e]
        exact hQ
    · have et : (allRows (sg (g ++ p))).filterMap (fun r : Row => some (D.bl (l.any (differ (rowF r))))) = (tabL (g ++ p) (faultF (l.map wishO))).map .bl := by
        rw [← allRows_vals, List.map_map]
        rw [show (allRows (sg (g ++ p))).filterMap (fun r : Row => some (D.bl (l.any (differ (rowF r))))) = (allRows (sg (g ++ p))).map fun r => .bl (l.any (differ (rowF r))) from congrFun List.filterMap_eq_map' _]
        exact List.map_congr_left fun r _ => by show D.bl _ = D.bl (val (rowF r) _); rw [val_faultO]
      rw [et]
      simp only [w_law_t6, wSeq, wSet, wAsg, wC, wIfS, wB, wOp, oI, oI0, asI, asS, asL, asLT, asT, asB, asA_some, asA_none, asO, asOL, asOD, asKey, asDic, asSq, oLen, oMod, oAdd, oSub, oMul, oDiv, oMax, oMin, oPlus, oEqX, oNeX, eqX_int, eqX_str, eqX_bl, oCmp, oLtX, oLeX, oGtX, oGeX, oIxX, oInX, wCB, wCons, wNil, wVar, wMove, nth, put, startR, wNext, wRet, wRetN, wDrop, wFor, wiR1, wiR2, wiX, itemsOf, wgName, wgTup, wgCons, wgNil, wLend, wLendT, seeR_cons, seeR_nil, seeO_d, seeO_none, seeO_ol, seeO_od, wJoin, wM, oAppend, oPop, oPopAt, wDPut, wDPop, wSortK, wDict0, wTup, wLst, wCall, wAnd, wOr, wNot, wAndV, wOrV, wNotV, wIf, wYes, wLc, wiEnumX, oListX, oTuple, oSort, oSortSet, oAll, oAny, S.fz, S.own, D.flat, txts_map, bools_map, txtKeys_map, List.length_map, List.map_cons, List.map_nil, List.length_cons, List.length_nil, List.cons_append, List.nil_append, List.replicate, decide_eq_true_eq, Bool.not_eq_true', Bool.not_true, Bool.not_false, if_true, if_false, Nat.zero_add, Nat.reduceAdd, Nat.reduceSub, ge_iff_le, true_and, and_true, zip_unzip, Bool.false_xor, Bool.true_xor, Bool.false_eq_true, Bool.true_eq_false, reduceIte, wipeR, dataR_cons, dataR_nil, dataO_d, dataO_none, dataO_ol, dataO_od, oDict, oIsi, tyD, isiB, wSl, wPart, wNoP, oSl, wDisp1, wDGet2, oRemove, atI_0, atI_1, atI_2, wiRev, revItems, oDictP, wForK, wiKeys, kD, oSortX, oPow, oBitAnd, oShl, oNeg, wUn, oInt, oStr, oDivmod, oIs, isD, wChain, wFz, wFzE, frzR, wLSet, wiZip, seqsD, wiVals, wiItems, wOIx, wNo, Option.isSome_some, oMulX, wM1, oSplit, oPart, oStrip1, oRep, oSum, intsD, wRaise, wLI, wLK
, wiR3, wLR, wDisp, wPairs, oReverse, oClear, oInsert, wRevL, wDZ, seqLT, oSortIT, wOFld, wSFld, asOI, setOI, putG, wPar, wiItemsC, wiValsC, wIndexL, sp_L_form_like_5d5, sp_L_form_9d6, asF_fD]
      refine ⟨⟨hf, hgp, hov⟩, _, rfl, ⟨hgp, lgp, tabL_len _ _⟩, fun f f1 f2 f3 => ?_⟩
      have ef : f = faultF (l.map wishO) := by
        rw [← formF_tabL hgp f1 f2, f3, formF_tabL hgp hf hov]
      rw [ef, eqX_frm hf hf, decide_eq_true rfl]
      exact hq
  simp only [w_law_t2, wSeq, wSet, wAsg, wC, wIfS, wB, wOp, oI, oI0, asI, asS, asL, asLT, asT, asB, asA_some, asA_none, asO, asOL, asOD, asKey, asDic, asSq, oLen, oMod, oAdd, oSub, oMul, oDiv, oMax, oMin, oPlus, oEqX, oNeX, eqX_int, eqX_str, eqX_bl, oCmp, oLtX, oLeX, oGtX, oGeX, oIxX, oInX, wCB, wCons, wNil, wVar, wMove, nth, put, startR, wNext, wRet, wRetN, wDrop, wFor, wiR1, wiR2, wiX, itemsOf, wgName, wgTup, wgCons, wgNil, wLend, wLendT, seeR_cons, seeR_nil, seeO_d, seeO_none, seeO_ol, seeO_od, wJoin, wM, oAppend, oPop, oPopAt, wDPut, wDPop, wSortK, wDict0, wTup, wLst, wCall, wAnd, wOr, wNot, wAndV, wOrV, wNotV, wIf, wYes, wLc, wiEnumX, oListX, oTuple, oSort, oSortSet, oAll, oAny, S.fz, S.own, D.flat, txts_map, bools_map, txtKeys_map, List.length_map, List.map_cons, List.map_nil, List.length_cons, List.length_nil, List.cons_append, List.nil_append, List.replicate, decide_eq_true_eq, Bool.not_eq_true', Bool.not_true, Bool.not_false, if_true, if_false, Nat.zero_add, Nat.reduceAdd, Nat.reduceSub, ge_iff_le, true_and, and_true, zip_unzip, Bool.false_xor, Bool.true_xor, Bool.false_eq_true, Bool.true_eq_false, reduceIte, wipeR, dataR_cons, dataR_nil, dataO_d, dataO_none, dataO_ol, dataO_od, oDict, oIsi, tyD, isiB, wSl, wPart, wNoP, oSl, wDisp1, wDGet2, oRemove, atI_0, atI_1, atI_2, wiRev, revItems, oDictP, wForK, wiKeys, kD, oSortX, oPow, oBitAnd, oShl, oNeg, wUn, oInt, oStr, oDivmod, oIs, isD, wChain, wFz, wFzE, frzR, wLSet, wiZip, seqsD, wiVals, wiItems, wOIx, wNo, Option.isSome_some, oMulX, wM1, oSplit, oPart, oStrip1, oRep, oSum, intsD, wRaise, wLI, wLK
, wiR3, wLR, wDisp, wPairs, oReverse, oClear, oInsert, wRevL, wDZ, seqLT, oSortIT, wOFld, wSFld, asOI, setOI, putG, wPar, wiItemsC, wiValsC, wIndexL, sp_L_wishes_a27]
  refine ⟨by rw [lg, lp, len0]; omega, by rw [lgl, len0]; omega, ⟨by decide, by decide⟩, .inr ⟨by decide, by decide⟩, ⟨hl, hgp, by omega, by omega, by decide, by decide⟩, fun l ll ho => ?_⟩
  have l6 : l.length ≤ 6 := by omega
  simp only [w_law_t3, wSeq, wSet, wAsg, wC, wIfS, wB, wOp, oI, oI0, asI, asS, asL, asLT, asT, asB, asA_some, asA_none, asO, asOL, asOD, asKey, asDic, asSq, oLen, oMod, oAdd, oSub, oMul, oDiv, oMax, oMin, oPlus, oEqX, oNeX, eqX_int, eqX_str, eqX_bl, oCmp, oLtX, oLeX, oGtX, oGeX, oIxX, oInX, wCB, wCons, wNil, wVar, wMove, nth, put, startR, wNext, wRet, wRetN, wDrop, wFor, wiR1, wiR2, wiX, itemsOf, wgName, wgTup, wgCons, wgNil, wLend, wLendT, seeR_cons, seeR_nil, seeO_d, seeO_none, seeO_ol, seeO_od, wJoin, wM, oAppend, oPop, oPopAt, wDPut, wDPop, wSortK, wDict0, wTup, wLst, wCall, wAnd, wOr, wNot, wAndV, wOrV, wNotV, wIf, wYes, wLc, wiEnumX, oListX, oTuple, oSort, oSortSet, oAll, oAny, S.fz, S.own, D.flat, txts_map, bools_map, txtKeys_map, List.length_map, List.map_cons, List.map_nil, List.length_cons, List.length_nil, List.cons_append, List.nil_append, List.replicate, decide_eq_true_eq, Bool.not_eq_true', Bool.not_true, Bool.not_false, if_true, if_false, Nat.zero_add, Nat.reduceAdd, Nat.reduceSub, ge_iff_le, true_and, and_true, zip_unzip, Bool.false_xor, Bool.true_xor, Bool.false_eq_true, Bool.true_eq_false, reduceIte, wipeR, dataR_cons, dataR_nil, dataO_d, dataO_none, dataO_ol, dataO_od, oDict, oIsi, tyD, isiB, wSl, wPart, wNoP, oSl, wDisp1, wDGet2, oRemove, atI_0, atI_1, atI_2, wiRev, revItems, oDictP, wForK, wiKeys, kD, oSortX, oPow, oBitAnd, oShl, oNeg, wUn, oInt, oStr, oDivmod, oIs, isD, wChain, wFz, wFzE, frzR, wLSet, wiZip, seqsD, wiVals, wiItems, wOIx, wNo, Option.isSome_some, oMulX, wM1, oSplit, oPart, oStrip1, oRep, oSum, intsD, wRaise, wLI, wLK
, wiR3, wLR, wDisp, wPairs, oReverse, oClear, oInsert, wRevL, wDZ, seqLT, oSortIT, wOFld, wSFld, asOI, setOI, putG, wPar, wiItemsC, wiValsC, wIndexL, sp_L_mixed_47c]
  refine ⟨⟨hl, by decide, by decide⟩, fun z z0 _ => ⟨by decide, ?_⟩⟩
  split
  · refine ⟨by rw [len0]; omega, ?_⟩
    refine compD_map mono_pair (fun q : Tree × Tree => some (tpair2 (q.1, q.1))) l _ (fun q hq Q' hQ => ?_) ?_
    · simp only [tpair2, wSeq, wSet, wAsg, wC, wIfS, wB, wOp, oI, oI0, asI, asS, asL, asLT, asT, asB, asA_some, asA_none, asO, asOL, asOD, asKey, asDic, asSq, oLen, oMod, oAdd, oSub, oMul, oDiv, oMax, oMin, oPlus, oEqX, oNeX, eqX_int, eqX_str, eqX_bl, oCmp, oLtX, oLeX, oGtX, oGeX, oIxX, oInX, wCB, wCons, wNil, wVar, wMove, nth, put, startR, wNext, wRet, wRetN, wDrop, wFor, wiR1, wiR2, wiX, itemsOf, wgName, wgTup, wgCons, wgNil, wLend, wLendT, seeR_cons, seeR_nil, seeO_d, seeO_none, seeO_ol, seeO_od, wJoin, wM, oAppend, oPop, oPopAt, wDPut, wDPop, wSortK, wDict0, wTup, wLst, wCall, wAnd, wOr, wNot, wAndV, wOrV, wNotV, wIf, wYes, wLc, wiEnumX, oListX, oTuple, oSort, oSortSet, oAll, oAny, S.fz, S.own, D.flat, txts_map, bools_map, txtKeys_map, List.length_map, List.map_cons, List.map_nil, List.length_cons, List.length_nil, List.cons_append, List.nil_append, List.replicate, decide_eq_true_eq, Bool.not_eq_true', Bool.not_true, Bool.not_false, if_true, if_false, Nat.zero_add, Nat.reduceAdd, Nat.reduceSub, ge_iff_le, true_and, and_true, zip_unzip, Bool.false_xor, Bool.true_xor, Bool.false_eq_true, Bool.true_eq_false, reduceIte, wipeR, dataR_cons, dataR_nil, dataO_d, dataO_none, dataO_ol, dataO_od, oDict, oIsi, tyD, isiB, wSl, wPart, wNoP, oSl, wDisp1, wDGet2, oRemove, atI_0, atI_1, atI_2, wiRev, revItems, oDictP, wForK, wiKeys, kD, oSortX, oPow, oBitAnd, oShl, oNeg, wUn, oInt, oStr, oDivmod, oIs, isD, wChain, wFz, wFzE, frzR, wLSet, wiZip, seqsD, wiVals, wiItems, wOIx, wNo, Option.isSome_some, oMulX, wM1, oSplit, oPart, oStrip1, oRep, oSum, intsD, wRaise, wLI, wLK
, wiR3, wLR, wDisp, wPairs, oReverse, oClear, oInsert, wRevL, wDZ, seqLT, oSortIT, wOFld, wSFld, asOI, setOI, putG, wPar, wiItemsC, wiValsC, wIndexL]
      exact ⟨by decide, hQ⟩
    · rw [show l.filterMap (fun q : Tree × Tree => some (tpair2 (q.1, q.1))) = (l.map fun q => (q.1, q.1)).map tpair2 by rw [List.map_map]; exact congrFun List.filterMap_eq_map' l]
      exact t4 _ _ _ (by rw [List.length_map]; exact l6) fun q hq => by
        obtain ⟨q0, hq0, rfl⟩ := List.mem_map.mp hq
        exact ⟨(ho q0 hq0).1, (ho q0 hq0).1⟩
  · exact t4 l _ _ l6 ho
end DL
namespace DL
open PySem L2
def top (i : Nat) : Stmt := PySem.Challenge.pw_fillsay_k33_fault_of_wishes.main.body.getD i (.Pass ⟨0, 0, 0, 0⟩)
abbrev sp_law : DSp := spLaw

abbrev s_L_mixed_47c : Stmt := top 45
theorem sc_L_mixed_47c : FnScope N_L_mixed_47c ["_law_script", "_law_k"] (defScope s_L_mixed_47c) := ⟨rfl, rfl, rfl, by decide +kernel, rfl, by decide +kernel, by decide +kernel⟩
set_option maxHeartbeats 4000000 in
theorem ok_L_mixed_47c {P : Program} {w : World} {K : PySem.W.Frag} {mg : Str → Option Value} {base : Heap} {f : Addr} {fd : FuncData} (F : Fun K "_law_mixed" "_law_mixed" s_L_mixed_47c f fd) (m_len : mg "len" = none) (m_min : mg "min" = none) (m_range : mg "range" = none) :
    FnOk P w K mg base CX0 1 f fd ["_law_script", "_law_k"] (spD K sp_L_mixed_47c) := by
  refine fnD F sc_L_mixed_47c (fun ds Q px h => len_L_mixed_47c h) (fun cdv A outer s H E hr => ⟨_, w_L_mixed_47c,
    (dss_cons (ds_asg de_int (dg_name 2 sc_L_mixed_47c.nd))
    (dss_cons (ds_if (dt_gtX hr.units (de_len m_len (de_var 0)) de_int) (dss_one (ds_asg (de_ixX hr.units (de_var 0) (de_mod (de_var 1) (de_len m_len (de_var 0)))) (dg_name 2 sc_L_mixed_47c.nd))) dss_nil)
    (dss_cons (ds_if ((dw_and (dt_gtX hr.units (de_len m_len (de_var 0)) de_int) (dw_and1 (dt_eqX hr.units (de_mod (de_ixX hr.units (de_var 0) de_int) de_int) de_int))).dt) (dss_cons (ds_asg (de_div (de_var 2) de_int) (dg_name 2 sc_L_mixed_47c.nd))
    (dss_cons (ds_for PassesOwn.never rfl (di_range1 m_range (da_cons (de_min rfl m_min (de_div (de_var 1) (de_len m_len (de_var 0))) de_int) da_nil)) (dg_name 3 sc_L_mixed_47c.nd) (dss_one (ds_asg (de_div (de_var 2) de_int) (dg_name 2 sc_L_mixed_47c.nd))))
    (dss_one (ds_ret (de_mod (de_var 2) de_int))))) dss_nil)
    (dss_one (ds_ret (de_mod (de_mul (de_mod (de_mul (de_plus (de_plus (de_mod (de_var 2) de_int) (de_mul de_int (de_var 1))) de_int) de_int) de_int) de_int) de_int)))))), fun ds Q px h => rd_L_mixed_47c h⟩)

abbrev s_L_letters_2d2 : Stmt := top 54
theorem sc_L_letters_2d2 : FnScope N_L_letters_2d2 ["_law_script"] (defScope s_L_letters_2d2) := ⟨rfl, rfl, rfl, by decide +kernel, rfl, by decide +kernel, by decide +kernel⟩
set_option maxHeartbeats 4000000 in
theorem ok_L_letters_2d2 {P : Program} {w : World} {K : PySem.W.Frag} {mg : Str → Option Value} {base : Heap} {f : Addr} {fd : FuncData} (F : Fun K "_law_letters" "_law_letters" s_L_letters_2d2 f fd) {f_L_mixed_47c : Addr} {fd_L_mixed_47c : FuncData} (F_L_mixed_47c : FnOk P w K mg base CX0 1 f_L_mixed_47c fd_L_mixed_47c ["_law_script", "_law_k"] (spD K sp_L_mixed_47c)) (b_L_mixed_47c : Binds K fd_L_mixed_47c ["_law_script", "_law_k"] []) (k_L_mixed_47c : PySem.W.keepIn K (.ref f_L_mixed_47c) = true) (mg_L_mixed_47c : mg "_law_mixed" = some (.ref f_L_mixed_47c)) :
    FnOk P w K mg base CX0 2 f fd ["_law_script"] (spD K sp_L_letters_2d2) := by
  refine fnD F sc_L_letters_2d2 (fun ds Q px h => len_L_letters_2d2 h) (fun cdv A outer s H E hr => ⟨_, w_L_letters_2d2,
    (dss_cons (ds_asg (de_call F_L_mixed_47c (hr.mono (by decide)) mg_L_mixed_47c k_L_mixed_47c b_L_mixed_47c pass0 (da_cons (de_var 0) (da_cons de_int da_nil))) (dg_name 1 sc_L_letters_2d2.nd))
    (dss_cons (ds_asg (de_ixX hr.units (de_lst (da_cons de_str (da_cons de_str (da_cons de_str (da_cons de_str (da_cons de_str (da_cons de_str (da_cons de_str (da_cons de_str da_nil))))))))) (de_mod (de_var 1) de_int)) (dg_name 2 sc_L_letters_2d2.nd))
    (dss_one (ds_ret (de_tup (da_cons (de_var 2) (da_cons (de_ixX hr.units (de_lst (da_cons de_str (da_cons de_str (da_cons de_str (da_cons de_str (da_cons de_str (da_cons de_str (da_cons de_str (da_cons de_str da_nil))))))))) (de_mod (de_div (de_var 1) de_int) de_int)) da_nil))))))), fun ds Q px h => rd_L_letters_2d2 h⟩)

abbrev s_L_leaf_2f7 : Stmt := top 46
theorem sc_L_leaf_2f7 : FnScope N_L_leaf_2f7 ["_law_cell", "_law_letters_here"] (defScope s_L_leaf_2f7) := ⟨rfl, rfl, rfl, by decide +kernel, rfl, by decide +kernel, by decide +kernel⟩
set_option maxHeartbeats 4000000 in
theorem ok_L_leaf_2f7 {P : Program} {w : World} {K : PySem.W.Frag} {mg : Str → Option Value} {base : Heap} {f : Addr} {fd : FuncData} (F : Fun K "_law_leaf" "_law_leaf" s_L_leaf_2f7 f fd) (m_len : mg "len" = none) :
    FnOk P w K mg base CX0 1 f fd ["_law_cell", "_law_letters_here"] (spD K sp_L_leaf_2f7) := by
  refine fnD F sc_L_leaf_2f7 (fun ds Q px h => len_L_leaf_2f7 h) (fun cdv A outer s H E hr => ⟨_, w_L_leaf_2f7,
    (dss_cons (ds_if (dt_eqX hr.units (de_mod (de_var 0) de_int) de_int) (dss_one (ds_ret (de_tup (da_cons de_str da_nil)))) dss_nil)
    (dss_cons (ds_if ((dw_or (dt_eqX hr.units (de_mod (de_var 0) de_int) de_int) (dw_or1 (dt_eqX hr.units (de_var 1) de_str))).dt) (dss_one (ds_ret (de_tup (da_cons de_str da_nil)))) dss_nil)
    (dss_one (ds_ret (de_tup (da_cons de_str (da_cons (de_ixX hr.units (de_var 1) (de_mod (de_div (de_var 0) de_int) (de_len m_len (de_var 1)))) da_nil))))))), fun ds Q px h => rd_L_leaf_2f7 h⟩)

abbrev s_L_tree_21f : Stmt := top 47
theorem sc_L_tree_21f : FnScope N_L_tree_21f ["_law_script", "_law_at", "_law_many", "_law_letters_here"] (defScope s_L_tree_21f) := ⟨rfl, rfl, rfl, by decide +kernel, rfl, by decide +kernel, by decide +kernel⟩
set_option maxHeartbeats 4000000 in
theorem ok_L_tree_21f {P : Program} {w : World} {K : PySem.W.Frag} {mg : Str → Option Value} {base : Heap} {f : Addr} {fd : FuncData} (F : Fun K "_law_tree" "_law_tree" s_L_tree_21f f fd) {f_L_mixed_47c : Addr} {fd_L_mixed_47c : FuncData} (F_L_mixed_47c : FnOk P w K mg base CX0 1 f_L_mixed_47c fd_L_mixed_47c ["_law_script", "_law_k"] (spD K sp_L_mixed_47c)) (b_L_mixed_47c : Binds K fd_L_mixed_47c ["_law_script", "_law_k"] []) (k_L_mixed_47c : PySem.W.keepIn K (.ref f_L_mixed_47c) = true) (mg_L_mixed_47c : mg "_law_mixed" = some (.ref f_L_mixed_47c)) {f_L_leaf_2f7 : Addr} {fd_L_leaf_2f7 : FuncData} (F_L_leaf_2f7 : FnOk P w K mg base CX0 1 f_L_leaf_2f7 fd_L_leaf_2f7 ["_law_cell", "_law_letters_here"] (spD K sp_L_leaf_2f7)) (b_L_leaf_2f7 : Binds K fd_L_leaf_2f7 ["_law_cell", "_law_letters_here"] []) (k_L_leaf_2f7 : PySem.W.keepIn K (.ref f_L_leaf_2f7) = true) (mg_L_leaf_2f7 : mg "_law_leaf" = some (.ref f_L_leaf_2f7)) (m_len : mg "len" = none) (m_range : mg "range" = none) :
    FnOk P w K mg base CX0 2 f fd ["_law_script", "_law_at", "_law_many", "_law_letters_here"] (spD K sp_L_tree_21f) := by
  refine fnD F sc_L_tree_21f (fun ds Q px h => len_L_tree_21f h) (fun cdv A outer s H E hr => ⟨_, w_L_tree_21f,
    (dss_cons (ds_set 4 sc_L_tree_21f.nd (de_lst da_nil))
    (dss_cons (ds_for PassesOwn.never rfl (di_range1 m_range (da_cons (de_var 2) da_nil)) (dg_name 5 sc_L_tree_21f.nd) (dss_cons (ds_asg (de_call F_L_mixed_47c (hr.mono (by decide)) mg_L_mixed_47c k_L_mixed_47c b_L_mixed_47c pass0 (da_cons (de_var 0) (da_cons (de_plus (de_var 1) (de_var 5)) da_nil))) (dg_name 6 sc_L_tree_21f.nd))
    (dss_one (ds_if ((dw_or (dt_ltX hr.units (de_mod (de_var 6) de_int) de_int) (dw_or1 (dt_lend (dt_eqX hr.units (de_len m_len (de_var 4)) de_int)))).dt) (dss_one (ds_expr (de_append 4 (de_call F_L_leaf_2f7 (hr.mono (by decide)) mg_L_leaf_2f7 k_L_leaf_2f7 b_L_leaf_2f7 pass0 (da_cons (de_div (de_var 6) de_int) (da_cons (de_var 3) da_nil)))))) (dss_one (ds_if (dt_eqX hr.units (de_mod (de_var 6) de_int) de_int) (dss_one (ds_lset 4 (de_neg de_int) (de_tup (da_cons de_str (da_cons (de_oix 4 hr.units (de_neg de_int)) da_nil))))) (dss_one (ds_if (dt_lend (dt_gtX hr.units (de_len m_len (de_var 4)) de_int)) (dss_cons (ds_asg (de_pop 4) (dg_name 7 sc_L_tree_21f.nd))
    (dss_one (ds_lset 4 (de_neg de_int) (de_tup (da_cons (de_ixX hr.units (de_lst (da_cons de_str (da_cons de_str (da_cons de_str (da_cons de_str da_nil))))) (de_sub (de_mod (de_var 6) de_int) de_int)) (da_cons (de_oix 4 hr.units (de_neg de_int)) (da_cons (de_var 7) da_nil))))))) dss_nil))))))))
    (dss_cons (ds_while PassesOwn.never (dt_lend (dt_gtX hr.units (de_len m_len (de_var 4)) de_int)) (dss_cons (ds_asg (de_pop 4) (dg_name 7 sc_L_tree_21f.nd))
    (dss_one (ds_lset 4 (de_neg de_int) (de_tup (da_cons (de_ixX hr.units (de_lst (da_cons de_str (da_cons de_str (da_cons de_str da_nil)))) (de_mod (de_lend (de_len m_len (de_var 4))) de_int)) (da_cons (de_oix 4 hr.units (de_neg de_int)) (da_cons (de_var 7) da_nil))))))))
    (dss_one (ds_ret (de_oix 4 hr.units de_int)))))), fun ds Q px h => rd_L_tree_21f h⟩)

abbrev s_L_wishes_a27 : Stmt := top 55
theorem sc_L_wishes_a27 : FnScope N_L_wishes_a27 ["_law_script", "_law_letters_here", "_law_most", "_law_many"] (defScope s_L_wishes_a27) := ⟨rfl, rfl, rfl, by decide +kernel, rfl, by decide +kernel, by decide +kernel⟩
set_option maxHeartbeats 4000000 in
theorem ok_L_wishes_a27 {P : Program} {w : World} {K : PySem.W.Frag} {mg : Str → Option Value} {base : Heap} {f : Addr} {fd : FuncData} (F : Fun K "_law_wishes" "_law_wishes" s_L_wishes_a27 f fd) {f_L_mixed_47c : Addr} {fd_L_mixed_47c : FuncData} (F_L_mixed_47c : FnOk P w K mg base CX0 1 f_L_mixed_47c fd_L_mixed_47c ["_law_script", "_law_k"] (spD K sp_L_mixed_47c)) (b_L_mixed_47c : Binds K fd_L_mixed_47c ["_law_script", "_law_k"] []) (k_L_mixed_47c : PySem.W.keepIn K (.ref f_L_mixed_47c) = true) (mg_L_mixed_47c : mg "_law_mixed" = some (.ref f_L_mixed_47c)) {f_L_tree_21f : Addr} {fd_L_tree_21f : FuncData} (F_L_tree_21f : FnOk P w K mg base CX0 2 f_L_tree_21f fd_L_tree_21f ["_law_script", "_law_at", "_law_many", "_law_letters_here"] (spD K sp_L_tree_21f)) (b_L_tree_21f : Binds K fd_L_tree_21f ["_law_script", "_law_at", "_law_many", "_law_letters_here"] []) (k_L_tree_21f : PySem.W.keepIn K (.ref f_L_tree_21f) = true) (mg_L_tree_21f : mg "_law_tree" = some (.ref f_L_tree_21f)) (m_range : mg "range" = none) :
    FnOk P w K mg base CX0 3 f fd ["_law_script", "_law_letters_here", "_law_most", "_law_many"] (spD K sp_L_wishes_a27) := by
  refine fnD F sc_L_wishes_a27 (fun ds Q px h => len_L_wishes_a27 h) (fun cdv A outer s H E hr => ⟨_, w_L_wishes_a27,
    (dss_cons (ds_set 4 sc_L_wishes_a27.nd (de_lst da_nil))
    (dss_cons (ds_for PassesOwn.never rfl (di_range1 m_range (da_cons (de_mod (de_call F_L_mixed_47c (hr.mono (by decide)) mg_L_mixed_47c k_L_mixed_47c b_L_mixed_47c pass0 (da_cons (de_var 0) (da_cons de_int da_nil))) (de_plus (de_var 2) de_int)) da_nil)) (dg_name 5 sc_L_wishes_a27.nd) (dss_cons (ds_asg (de_plus de_int (de_mod (de_call F_L_mixed_47c (hr.mono (by decide)) mg_L_mixed_47c k_L_mixed_47c b_L_mixed_47c pass0 (da_cons (de_var 0) (da_cons (de_plus de_int (de_var 5)) da_nil))) (de_var 3))) (dg_name 6 sc_L_wishes_a27.nd))
    (dss_cons (ds_asg (de_call F_L_tree_21f (hr.mono (by decide)) mg_L_tree_21f k_L_tree_21f b_L_tree_21f pass0 (da_cons (de_var 0) (da_cons (de_plus de_int (de_mul de_int (de_var 5))) (da_cons (de_var 6) (da_cons (de_var 1) da_nil))))) (dg_name 7 sc_L_wishes_a27.nd))
    (dss_one (ds_expr (de_append 4 (de_tup (da_cons (de_var 7) (da_cons (de_call F_L_tree_21f (hr.mono (by decide)) mg_L_tree_21f k_L_tree_21f b_L_tree_21f pass0 (da_cons (de_var 0) (da_cons (de_plus de_int (de_mul de_int (de_var 5))) (da_cons (de_plus de_int (de_mod (de_div (de_call F_L_mixed_47c (hr.mono (by decide)) mg_L_mixed_47c k_L_mixed_47c b_L_mixed_47c pass0 (da_cons (de_var 0) (da_cons (de_plus de_int (de_var 5)) da_nil))) de_int) (de_var 3))) (da_cons (de_var 1) da_nil))))) da_nil)))))))))
    (dss_one (ds_ret (de_move 4))))), fun ds Q px h => rd_L_wishes_a27 h⟩)

abbrev s_L_text_16f : Stmt := top 48
theorem sc_L_text_16f : FnScope N_L_text_16f ["_law_tree_here"] (defScope s_L_text_16f) := ⟨rfl, rfl, rfl, by decide +kernel, rfl, by decide +kernel, by decide +kernel⟩
set_option maxHeartbeats 4000000 in
theorem okg_L_text_16f {P : Program} {w : World} {K : PySem.W.Frag} {mg : Str → Option Value} {base : Heap} {f_L_text_16f : Addr} {fd_L_text_16f : FuncData} (F0_L_text_16f : Fun K "_law_text" "_law_text" s_L_text_16f f_L_text_16f fd_L_text_16f) (b_L_text_16f : Binds K fd_L_text_16f ["_law_tree_here"] []) (k_L_text_16f : PySem.W.keepIn K (.ref f_L_text_16f) = true) (mg_L_text_16f : mg "_law_text" = some (.ref f_L_text_16f)) (m_int : mg "int" = none) (m_len : mg "len" = none) :
    ∀ n : Nat, FnOk P w K mg base CX0 (1 + n) f_L_text_16f fd_L_text_16f ["_law_tree_here"] (spD K (spr_L_text_16f n))
  | 0 => FnOk.nothing
  | n + 1 => by
    have ih := okg_L_text_16f (P := P) (w := w) (mg := mg) (base := base) F0_L_text_16f b_L_text_16f k_L_text_16f mg_L_text_16f m_int m_len n
    have F_L_text_16f := ih
    show FnOk P w K mg base CX0 ((1 + n) + 1) f_L_text_16f fd_L_text_16f ["_law_tree_here"] (spD K (spr_L_text_16f (n + 1)))
    refine fnD F0_L_text_16f sc_L_text_16f (fun ds Q px h => len_L_text_16f h) (fun cdv A outer s H E hr => ⟨_, w_L_text_16f n,
      (dss_cons (ds_if (dt_eqX hr.units (de_len m_len (de_var 0)) de_int) (dss_one (ds_ret (de_ixX hr.units (de_lst (da_cons de_str (da_cons de_str da_nil))) (de_intC m_int (de_eqX hr.units (de_ixX hr.units (de_var 0) de_int) de_str))))) dss_nil)
    (dss_cons (ds_if (dt_eqX hr.units (de_ixX hr.units (de_var 0) de_int) de_str) (dss_one (ds_ret (de_ixX hr.units (de_var 0) de_int))) dss_nil)
    (dss_cons (ds_if (dt_eqX hr.units (de_ixX hr.units (de_var 0) de_int) de_str) (dss_one (ds_ret (de_plus de_str (de_call F_L_text_16f (hr.mono (by omega)) mg_L_text_16f k_L_text_16f b_L_text_16f pass0 (da_cons (de_ixX hr.units (de_var 0) de_int) da_nil))))) dss_nil)
    (dss_cons (ds_asg (de_ixX hr.units (de_disp (dps_cons de_str de_str (dps_cons de_str de_str (dps_cons de_str de_str dps_nil)))) (de_ixX hr.units (de_var 0) de_int)) (dg_name 1 sc_L_text_16f.nd))
    (dss_one (ds_ret (de_plus (de_plus (de_plus (de_plus de_str (de_call F_L_text_16f (hr.mono (by omega)) mg_L_text_16f k_L_text_16f b_L_text_16f pass0 (da_cons (de_ixX hr.units (de_var 0) de_int) da_nil))) (de_var 1)) (de_call F_L_text_16f (hr.mono (by omega)) mg_L_text_16f k_L_text_16f b_L_text_16f pass0 (da_cons (de_ixX hr.units (de_var 0) de_int) da_nil))) de_str))))))), fun ds Q px h => rd_L_text_16f h⟩)

abbrev s_L_written_ba0 : Stmt := top 56
theorem sc_L_written_ba0 : FnScope N_L_written_ba0 ["_law_wishes_here"] (defScope s_L_written_ba0) := ⟨rfl, rfl, rfl, by decide +kernel, rfl, by decide +kernel, by decide +kernel⟩
set_option maxHeartbeats 4000000 in
theorem ok_L_written_ba0 {P : Program} {w : World} {K : PySem.W.Frag} {mg : Str → Option Value} {base : Heap} {f : Addr} {fd : FuncData} (F : Fun K "_law_written" "_law_written" s_L_written_ba0 f fd) {f_L_text_16f : Addr} {fd_L_text_16f : FuncData} (F_L_text_16f : FnOk P w K mg base CX0 71 f_L_text_16f fd_L_text_16f ["_law_tree_here"] (spD K sp_L_text_16f)) (b_L_text_16f : Binds K fd_L_text_16f ["_law_tree_here"] []) (k_L_text_16f : PySem.W.keepIn K (.ref f_L_text_16f) = true) (mg_L_text_16f : mg "_law_text" = some (.ref f_L_text_16f)) :
    FnOk P w K mg base CX0 72 f fd ["_law_wishes_here"] (spD K sp_L_written_ba0) := by
  refine fnD F sc_L_written_ba0 (fun ds Q px h => len_L_written_ba0 h) (fun cdv A outer s H E hr => ⟨_, w_L_written_ba0,
    (dss_one (ds_ret (de_lc (own := [("_law_left", 1), ("_law_right", 2)]) rfl sc_L_written_ba0.nd (di_X (de_var 0)) (show BlkOk N_L_written_ba0 (defScope s_L_written_ba0) _ [("_law_left", 1), ("_law_right", 2)] from ⟨rfl, by decide +kernel, by decide +kernel, by decide +kernel, by decide +kernel⟩) (fun _ _ _ _ _ => (dgb_tup rfl (dgbs_cons (dgb_name 1 sc_L_written_ba0.nd) (dgbs_cons (dgb_name 2 sc_L_written_ba0.nd) dgbs_nil)))) (fun _ _ _ _ _ => dts_nil) (fun _ _ _ _ _ => (de_plus (de_plus (de_call F_L_text_16f (hr.mono (by decide)) mg_L_text_16f k_L_text_16f b_L_text_16f pass0 (da_cons (de_var 1) da_nil)) de_str) (de_call F_L_text_16f (hr.mono (by decide)) mg_L_text_16f k_L_text_16f b_L_text_16f pass0 (da_cons (de_var 2) da_nil))))))), fun ds Q px h => rd_L_written_ba0 h⟩)

abbrev s_L_row_c72 : Stmt := top 50
theorem sc_L_row_c72 : FnScope N_L_row_c72 ["_law_letters_here", "_law_number"] (defScope s_L_row_c72) := ⟨rfl, rfl, rfl, by decide +kernel, rfl, by decide +kernel, by decide +kernel⟩
set_option maxHeartbeats 4000000 in
theorem ok_L_row_c72 {P : Program} {w : World} {K : PySem.W.Frag} {mg : Str → Option Value} {base : Heap} {f : Addr} {fd : FuncData} (F : Fun K "_law_row" "_law_row" s_L_row_c72 f fd) (m_enumerate : mg "enumerate" = none) (m_len : mg "len" = none) :
    FnOk P w K mg base CX0 1 f fd ["_law_letters_here", "_law_number"] (spD K sp_L_row_c72) := by
  refine fnD F sc_L_row_c72 (fun ds Q px h => len_L_row_c72 h) (fun cdv A outer s H E hr => ⟨_, w_L_row_c72,
    (dss_cons (ds_set 2 sc_L_row_c72.nd de_dict0)
    (dss_cons (ds_for PassesOwn.never rfl (di_enumX m_enumerate (da_cons (de_var 0) da_nil)) (dg_tup rfl (dgs_cons (dg_name 3 sc_L_row_c72.nd) (dgs_cons (dg_name 4 sc_L_row_c72.nd) dgs_nil))) (dss_one (ds_dput 2 (units1 hr.units) (de_var 4) (de_eqX hr.units (de_mod (de_div (de_var 1) (de_ixX hr.units (de_lst (da_cons de_int (da_cons de_int (da_cons de_int (da_cons de_int (da_cons de_int (da_cons de_int da_nil))))))) (de_plus (de_sub de_int (de_len m_len (de_var 0))) (de_var 3)))) de_int) de_int))))
    (dss_one (ds_ret (de_move 2))))), fun ds Q px h => rd_L_row_c72 h⟩)

abbrev s_L_rows_2f4 : Stmt := top 51
theorem sc_L_rows_2f4 : FnScope N_L_rows_2f4 ["_law_letters_here"] (defScope s_L_rows_2f4) := ⟨rfl, rfl, rfl, by decide +kernel, rfl, by decide +kernel, by decide +kernel⟩
set_option maxHeartbeats 4000000 in
theorem ok_L_rows_2f4 {P : Program} {w : World} {K : PySem.W.Frag} {mg : Str → Option Value} {base : Heap} {f : Addr} {fd : FuncData} (F : Fun K "_law_rows" "_law_rows" s_L_rows_2f4 f fd) {f_L_row_c72 : Addr} {fd_L_row_c72 : FuncData} (F_L_row_c72 : FnOk P w K mg base CX0 1 f_L_row_c72 fd_L_row_c72 ["_law_letters_here", "_law_number"] (spD K sp_L_row_c72)) (b_L_row_c72 : Binds K fd_L_row_c72 ["_law_letters_here", "_law_number"] []) (k_L_row_c72 : PySem.W.keepIn K (.ref f_L_row_c72) = true) (mg_L_row_c72 : mg "_law_row" = some (.ref f_L_row_c72)) (m_len : mg "len" = none) (m_range : mg "range" = none) :
    FnOk P w K mg base CX0 2 f fd ["_law_letters_here"] (spD K sp_L_rows_2f4) := by
  refine fnD F sc_L_rows_2f4 (fun ds Q px h => len_L_rows_2f4 h) (fun cdv A outer s H E hr => ⟨_, w_L_rows_2f4,
    (dss_one (ds_ret (de_lc (own := [("_law_number", 1)]) rfl sc_L_rows_2f4.nd (di_range1 m_range (da_cons (de_ixX hr.units (de_lst (da_cons de_int (da_cons de_int (da_cons de_int (da_cons de_int (da_cons de_int (da_cons de_int (da_cons de_int da_nil)))))))) (de_len m_len (de_var 0))) da_nil)) (show BlkOk N_L_rows_2f4 (defScope s_L_rows_2f4) _ [("_law_number", 1)] from ⟨rfl, by decide +kernel, by decide +kernel, by decide +kernel, by decide +kernel⟩) (fun _ _ _ _ _ => (dgb_name 1 sc_L_rows_2f4.nd)) (fun _ _ _ _ _ => dts_nil) (fun _ _ _ _ _ => (de_call F_L_row_c72 (hr.mono (by decide)) mg_L_row_c72 k_L_row_c72 b_L_row_c72 pass0 (da_cons (de_var 0) (da_cons (de_var 1) da_nil))))))), fun ds Q px h => rd_L_rows_2f4 h⟩)

abbrev s_L_truth_64c : Stmt := top 49
theorem sc_L_truth_64c : FnScope N_L_truth_64c ["_law_tree_here", "_law_row_here"] (defScope s_L_truth_64c) := ⟨rfl, rfl, rfl, by decide +kernel, rfl, by decide +kernel, by decide +kernel⟩
set_option maxHeartbeats 4000000 in
theorem okg_L_truth_64c {P : Program} {w : World} {K : PySem.W.Frag} {mg : Str → Option Value} {base : Heap} {f_L_truth_64c : Addr} {fd_L_truth_64c : FuncData} (F0_L_truth_64c : Fun K "_law_truth" "_law_truth" s_L_truth_64c f_L_truth_64c fd_L_truth_64c) (b_L_truth_64c : Binds K fd_L_truth_64c ["_law_tree_here", "_law_row_here"] []) (k_L_truth_64c : PySem.W.keepIn K (.ref f_L_truth_64c) = true) (mg_L_truth_64c : mg "_law_truth" = some (.ref f_L_truth_64c)) (m_len : mg "len" = none) :
    ∀ n : Nat, FnOk P w K mg base CX0 (1 + n) f_L_truth_64c fd_L_truth_64c ["_law_tree_here", "_law_row_here"] (spD K (spr_L_truth_64c n))
  | 0 => FnOk.nothing
  | n + 1 => by
    have ih := okg_L_truth_64c (P := P) (w := w) (mg := mg) (base := base) F0_L_truth_64c b_L_truth_64c k_L_truth_64c mg_L_truth_64c m_len n
    have F_L_truth_64c := ih
    show FnOk P w K mg base CX0 ((1 + n) + 1) f_L_truth_64c fd_L_truth_64c ["_law_tree_here", "_law_row_here"] (spD K (spr_L_truth_64c (n + 1)))
    refine fnD F0_L_truth_64c sc_L_truth_64c (fun ds Q px h => len_L_truth_64c h) (fun cdv A outer s H E hr => ⟨_, w_L_truth_64c n,
      (dss_cons (ds_if (dt_eqX hr.units (de_len m_len (de_var 0)) de_int) (dss_one (ds_ret (de_eqX hr.units (de_ixX hr.units (de_var 0) de_int) de_str))) dss_nil)
    (dss_cons (ds_if (dt_eqX hr.units (de_ixX hr.units (de_var 0) de_int) de_str) (dss_one (ds_ret (de_ixX hr.units (de_var 1) (de_ixX hr.units (de_var 0) de_int)))) dss_nil)
    (dss_cons (ds_asg (de_call F_L_truth_64c (hr.mono (by omega)) mg_L_truth_64c k_L_truth_64c b_L_truth_64c pass0 (da_cons (de_ixX hr.units (de_var 0) de_int) (da_cons (de_var 1) da_nil))) (dg_name 2 sc_L_truth_64c.nd))
    (dss_cons (ds_if (dt_eqX hr.units (de_ixX hr.units (de_var 0) de_int) de_str) (dss_one (ds_ret (de_not (de_var 2)))) dss_nil)
    (dss_cons (ds_asg (de_call F_L_truth_64c (hr.mono (by omega)) mg_L_truth_64c k_L_truth_64c b_L_truth_64c pass0 (da_cons (de_ixX hr.units (de_var 0) de_int) (da_cons (de_var 1) da_nil))) (dg_name 3 sc_L_truth_64c.nd))
    (dss_cons (ds_if (dt_eqX hr.units (de_ixX hr.units (de_var 0) de_int) de_str) (dss_one (ds_ret (de_and (de_var 2) (de_one (de_var 3))))) dss_nil)
    (dss_cons (ds_if (dt_eqX hr.units (de_ixX hr.units (de_var 0) de_int) de_str) (dss_one (ds_ret (de_or (de_var 2) (de_one (de_var 3))))) dss_nil)
    (dss_one (ds_ret (de_neX hr.units (de_var 2) (de_var 3))))))))))), fun ds Q px h => rd_L_truth_64c h⟩)

abbrev s_L_failing_f34 : Stmt := top 57
theorem sc_L_failing_f34 : FnScope N_L_failing_f34 ["_law_wishes_here", "_law_row_here"] (defScope s_L_failing_f34) := ⟨rfl, rfl, rfl, by decide +kernel, rfl, by decide +kernel, by decide +kernel⟩
set_option maxHeartbeats 4000000 in
theorem ok_L_failing_f34 {P : Program} {w : World} {K : PySem.W.Frag} {mg : Str → Option Value} {base : Heap} {f : Addr} {fd : FuncData} (F : Fun K "_law_failing" "_law_failing" s_L_failing_f34 f fd) {f_L_truth_64c : Addr} {fd_L_truth_64c : FuncData} (F_L_truth_64c : FnOk P w K mg base CX0 71 f_L_truth_64c fd_L_truth_64c ["_law_tree_here", "_law_row_here"] (spD K sp_L_truth_64c)) (b_L_truth_64c : Binds K fd_L_truth_64c ["_law_tree_here", "_law_row_here"] []) (k_L_truth_64c : PySem.W.keepIn K (.ref f_L_truth_64c) = true) (mg_L_truth_64c : mg "_law_truth" = some (.ref f_L_truth_64c)) (m_enumerate : mg "enumerate" = none) :
    FnOk P w K mg base CX0 72 f fd ["_law_wishes_here", "_law_row_here"] (spD K sp_L_failing_f34) := by
  refine fnD F sc_L_failing_f34 (fun ds Q px h => len_L_failing_f34 h) (fun cdv A outer s H E hr => ⟨_, w_L_failing_f34,
    (dss_one (ds_ret (de_lc (own := [("_law_k", 2), ("_law_wish", 3)]) rfl sc_L_failing_f34.nd (di_enumX m_enumerate (da_cons (de_var 0) da_nil)) (show BlkOk N_L_failing_f34 (defScope s_L_failing_f34) _ [("_law_k", 2), ("_law_wish", 3)] from ⟨rfl, by decide +kernel, by decide +kernel, by decide +kernel, by decide +kernel⟩) (fun _ _ _ _ _ => (dgb_tup rfl (dgbs_cons (dgb_name 2 sc_L_failing_f34.nd) (dgbs_cons (dgb_name 3 sc_L_failing_f34.nd) dgbs_nil)))) (fun _ _ _ _ _ => (dts_one (dt_neX hr.units (de_call F_L_truth_64c (hr.mono (by decide)) mg_L_truth_64c k_L_truth_64c b_L_truth_64c pass0 (da_cons (de_ixX hr.units (de_var 3) de_int) (da_cons (de_var 1) da_nil))) (de_call F_L_truth_64c (hr.mono (by decide)) mg_L_truth_64c k_L_truth_64c b_L_truth_64c pass0 (da_cons (de_ixX hr.units (de_var 3) de_int) (da_cons (de_var 1) da_nil)))))) (fun _ _ _ _ _ => (de_var 2))))), fun ds Q px h => rd_L_failing_f34 h⟩)

abbrev s_L_form_9d6 : Stmt := top 52
theorem sc_L_form_9d6 : FnScope N_L_form_9d6 ["_law_letters_here", "_law_table"] (defScope s_L_form_9d6) := ⟨rfl, rfl, rfl, by decide +kernel, rfl, by decide +kernel, by decide +kernel⟩
set_option maxHeartbeats 4000000 in
theorem ok_L_form_9d6 {P : Program} {w : World} {K : PySem.W.Frag} {mg : Str → Option Value} {base : Heap} {f : Addr} {fd : FuncData} (F : Fun K "_law_form" "_law_form" s_L_form_9d6 f fd) {f_L_row_c72 : Addr} {fd_L_row_c72 : FuncData} (F_L_row_c72 : FnOk P w K mg base CX0 1 f_L_row_c72 fd_L_row_c72 ["_law_letters_here", "_law_number"] (spD K sp_L_row_c72)) (b_L_row_c72 : Binds K fd_L_row_c72 ["_law_letters_here", "_law_number"] []) (k_L_row_c72 : PySem.W.keepIn K (.ref f_L_row_c72) = true) (mg_L_row_c72 : mg "_law_row" = some (.ref f_L_row_c72)) (m_len : mg "len" = none) (m_range : mg "range" = none) (m_sorted : mg "sorted" = none) (m_tuple : mg "tuple" = none) :
    FnOk P w K mg base CX0 2 f fd ["_law_letters_here", "_law_table"] (spD K sp_L_form_9d6) := by
  refine fnD F sc_L_form_9d6 (fun ds Q px h => len_L_form_9d6 h) (fun cdv A outer s H E hr => ⟨_, w_L_form_9d6,
    (dss_cons (ds_set 2 sc_L_form_9d6.nd (de_lst da_nil))
    (dss_cons (ds_for PassesOwn.never rfl (di_range1 m_range (da_cons (de_len m_len (de_var 1)) da_nil)) (dg_name 3 sc_L_form_9d6.nd) (dss_cons (ds_asg de_bl (dg_name 4 sc_L_form_9d6.nd))
    (dss_cons (ds_for PassesOwn.never rfl (di_range1 m_range (da_cons (de_plus (de_var 3) de_int) da_nil)) (dg_name 5 sc_L_form_9d6.nd) (dss_one (ds_if ((dw_and (dt_eqX hr.units (de_bitand (de_var 5) (de_var 3)) (de_var 5)) (dw_and1 (dt_val (de_ixX hr.units (de_var 1) (de_var 5))))).dt) (dss_one (ds_asg (de_not (de_var 4)) (dg_name 4 sc_L_form_9d6.nd))) dss_nil)))
    (dss_one (ds_if (dt_val (de_var 4)) (dss_cons (ds_asg (de_call F_L_row_c72 (hr.mono (by decide)) mg_L_row_c72 k_L_row_c72 b_L_row_c72 pass0 (da_cons (de_var 0) (da_cons (de_var 3) da_nil))) (dg_name 6 sc_L_form_9d6.nd))
    (dss_one (ds_expr (de_append 2 (de_join de_str (de_lc (own := [("_law_letter", 7)]) rfl sc_L_form_9d6.nd (di_X (de_var 0)) (show BlkOk N_L_form_9d6 (defScope s_L_form_9d6) _ [("_law_letter", 7)] from ⟨rfl, by decide +kernel, by decide +kernel, by decide +kernel, by decide +kernel⟩) (fun _ _ _ _ _ => (dgb_name 7 sc_L_form_9d6.nd)) (fun _ _ _ _ _ => (dts_one (dt_val (de_ixX hr.units (de_var 6) (de_var 7))))) (fun _ _ _ _ _ => (de_var 7)))))))) dss_nil)))))
    (dss_one (ds_ret (de_tuple m_tuple (de_sortX rfl m_sorted (de_var 2))))))), fun ds Q px h => rd_L_form_9d6 h⟩)

abbrev s_L_form_like_5d5 : Stmt := top 53
theorem sc_L_form_like_5d5 : FnScope N_L_form_like_5d5 ["_law_found", "_law_letters_here"] (defScope s_L_form_like_5d5) := ⟨rfl, rfl, rfl, by decide +kernel, rfl, by decide +kernel, by decide +kernel⟩
set_option maxHeartbeats 4000000 in
theorem ok_L_form_like_5d5 {P : Program} {w : World} {K : PySem.W.Frag} {mg : Str → Option Value} {base : Heap} {f : Addr} {fd : FuncData} (F : Fun K "_law_form_like" "_law_form_like" s_L_form_like_5d5 f fd) (m_all : mg "all" = none) (m_isinstance : mg "isinstance" = none) (m_list : mg "list" = none) (m_set : mg "set" = none) (m_sorted : mg "sorted" = none) (m_str : mg "str" = none) (m_tuple : mg "tuple" = none) :
    FnOk P w K mg base CX0 1 f fd ["_law_found", "_law_letters_here"] (spD K sp_L_form_like_5d5) := by
  refine fnD F sc_L_form_like_5d5 (fun ds Q px h => len_L_form_like_5d5 h) (fun cdv A outer s H E hr => ⟨_, w_L_form_like_5d5,
    (dss_cons (ds_if ((dw_or (dt_not (dt_val (de_isi m_isinstance (de_var 0) (de_ty m_tuple (by decide +kernel))))) (dw_or1 (dt_not (dt_val (de_all m_all (cr_all rfl) (de_lc (own := [("_law_one", 2)]) rfl sc_L_form_like_5d5.nd (di_X (de_var 0)) (show BlkOk N_L_form_like_5d5 (defScope s_L_form_like_5d5) _ [("_law_one", 2)] from ⟨rfl, by decide +kernel, by decide +kernel, by decide +kernel, by decide +kernel⟩) (fun _ _ _ _ _ => (dgb_name 2 sc_L_form_like_5d5.nd)) (fun _ _ _ _ _ => dts_nil) (fun _ _ _ _ _ => (de_isi m_isinstance (de_var 2) (de_ty m_str (by decide +kernel)))))))))).dt) (dss_one (ds_ret de_bl)) dss_nil)
    (dss_cons (ds_for PassesOwn.never rfl (di_X (de_var 0)) (dg_name 2 sc_L_form_like_5d5.nd) (dss_one (ds_if (dt_neX hr.units (de_var 2) (de_join de_str (de_lc (own := [("_law_letter", 3)]) rfl sc_L_form_like_5d5.nd (di_X (de_var 1)) (show BlkOk N_L_form_like_5d5 (defScope s_L_form_like_5d5) _ [("_law_letter", 3)] from ⟨rfl, by decide +kernel, by decide +kernel, by decide +kernel, by decide +kernel⟩) (fun _ _ _ _ _ => (dgb_name 3 sc_L_form_like_5d5.nd)) (fun _ _ _ _ _ => (dts_one (dt_inX hr.units (de_var 3) (de_var 2)))) (fun _ _ _ _ _ => (de_var 3))))) (dss_one (ds_ret de_bl)) dss_nil)))
    (dss_one (ds_ret (de_eqX hr.units (de_listX rfl m_list (de_var 0)) (de_sortSet rfl m_sorted m_set (de_var 0))))))), fun ds Q px h => rd_L_form_like_5d5 h⟩)

abbrev s_Task_fault : Stmt := inClass (top 43) 5
theorem sc_Task_fault : FnScope N_Task_fault ["self"] (defScope s_Task_fault) := ⟨rfl, rfl, rfl, by decide +kernel, rfl, by decide +kernel, by decide +kernel⟩
set_option maxHeartbeats 4000000 in
theorem ok_Task_fault {P : Program} {w : World} {K : PySem.W.Frag} {mg : Str → Option Value} {base : Heap} {f : Addr} {fd : FuncData} (F : Fun K "fault" "Task.fault" s_Task_fault f fd) (hF_kept_fault : ∀ N ∈ (["Task"] : List Str), FldOk K N "kept_fault") :
    FnOk P w K mg base CX0 1 f fd ["self"] (spD K sp_Task_fault) := by
  refine fnD F sc_Task_fault (fun ds Q px h => len_Task_fault h) (fun cdv A outer s H E hr => ⟨_, w_Task_fault,
    (dss_one (ds_ret (de_fld (de_var 0) hF_kept_fault))), fun ds Q px h => rd_Task_fault h⟩)

abbrev s_is_row : Stmt := top 41
theorem sc_is_row : FnScope N_is_row ["letters", "menu"] (defScope s_is_row) := ⟨rfl, rfl, rfl, by decide +kernel, rfl, by decide +kernel, by decide +kernel⟩
set_option maxHeartbeats 4000000 in
theorem ok_is_row {P : Program} {w : World} {K : PySem.W.Frag} {mg : Str → Option Value} {base : Heap} {f : Addr} {fd : FuncData} (F : Fun K "is_row" "is_row" s_is_row f fd) :
    FnOk P w K mg base CX0 1 f fd ["letters", "menu"] (spD K sp_is_row) := by
  refine fnD F sc_is_row (fun ds Q px h => len_is_row h) (fun cdv A outer s H E hr => ⟨_, w_is_row,
    (dss_one (ds_ret (de_eqX hr.units (de_var 0) (de_join de_str (de_lc (own := [("letter", 2)]) rfl sc_is_row.nd (di_X (de_var 1)) (show BlkOk N_is_row (defScope s_is_row) _ [("letter", 2)] from ⟨rfl, by decide +kernel, by decide +kernel, by decide +kernel, by decide +kernel⟩) (fun _ _ _ _ _ => (dgb_name 2 sc_is_row.nd)) (fun _ _ _ _ _ => (dts_one (dt_inX hr.units (de_var 2) (de_var 0)))) (fun _ _ _ _ _ => (de_var 2))))))), fun ds Q px h => rd_is_row h⟩)

abbrev s_sign_at : Stmt := top 30
theorem sc_sign_at : FnScope N_sign_at ["text", "place"] (defScope s_sign_at) := ⟨rfl, rfl, rfl, by decide +kernel, rfl, by decide +kernel, by decide +kernel⟩
set_option maxHeartbeats 4000000 in
theorem ok_sign_at {P : Program} {w : World} {K : PySem.W.Frag} {mg : Str → Option Value} {base : Heap} {f : Addr} {fd : FuncData} (F : Fun K "sign_at" "sign_at" s_sign_at f fd) :
    FnOk P w K mg base CX0 1 f fd ["text", "place"] (spD K sp_sign_at) := by
  refine fnD F sc_sign_at (fun ds Q px h => len_sign_at h) (fun cdv A outer s H E hr => ⟨_, w_sign_at,
    (dss_one (ds_ret (de_sl (de_var 0) (do_some (de_var 1)) (do_some (de_plus (de_var 1) de_int))))), fun ds Q px h => rd_sign_at h⟩)

abbrev s_Letter_init : Stmt := inClass (top 22) 0
theorem sc_Letter_init : FnScope ["self", "letter"] ["self", "letter"] (defScope s_Letter_init) := ⟨rfl, rfl, rfl, by decide +kernel, rfl, by decide +kernel, by decide +kernel⟩
theorem ok_Letter_init {P : Program} {w : World} {K : PySem.W.Frag} {mg : Str → Option Value} {base : Heap} {f C : Addr} {fd : FuncData} (F : Fun K "__init__" "Letter.__init__" s_Letter_init f fd) (c : Cls K C) (n0 : NoAttr K C "letter") :
    FnOk P w K mg base CX0 1 f fd ["self", "letter"] (spI C ["letter"]) := by
  refine F.ok sc_Letter_init (fun vs H Q E h => ?_) (fun cdv A outer s H vs Q E hr h => ?_)
  · obtain ⟨p, dx, xs, rfl, hl, _⟩ := h
    show xs.length + 1 = 2
    rw [hl]; rfl
  · obtain ⟨p, dx, xs, rfl, hl, hp, k⟩ := h
    obtain ⟨x, rfl⟩ := List.length_eq_one_iff.mp hl
    exact ⟨_, pss_one (ps_fld (pv 0) (pv 1) rfl), _, rfl, _, rfl, p, C, dx, [], rfl, hp, c, n0, (by show 0 < 1000; decide), k⟩

abbrev s_Not_init : Stmt := inClass (top 23) 0
theorem sc_Not_init : FnScope ["self", "one"] ["self", "one"] (defScope s_Not_init) := ⟨rfl, rfl, rfl, by decide +kernel, rfl, by decide +kernel, by decide +kernel⟩
theorem ok_Not_init {P : Program} {w : World} {K : PySem.W.Frag} {mg : Str → Option Value} {base : Heap} {f C : Addr} {fd : FuncData} (F : Fun K "__init__" "Not.__init__" s_Not_init f fd) (c : Cls K C) (n0 : NoAttr K C "one") :
    FnOk P w K mg base CX0 1 f fd ["self", "one"] (spI C ["one"]) := by
  refine F.ok sc_Not_init (fun vs H Q E h => ?_) (fun cdv A outer s H vs Q E hr h => ?_)
  · obtain ⟨p, dx, xs, rfl, hl, _⟩ := h
    show xs.length + 1 = 2
    rw [hl]; rfl
  · obtain ⟨p, dx, xs, rfl, hl, hp, k⟩ := h
    obtain ⟨x, rfl⟩ := List.length_eq_one_iff.mp hl
    exact ⟨_, pss_one (ps_fld (pv 0) (pv 1) rfl), _, rfl, _, rfl, p, C, dx, [], rfl, hp, c, n0, (by show 0 < 1000; decide), k⟩

abbrev s_Pair_init : Stmt := inClass (top 24) 0
theorem sc_Pair_init : FnScope ["self", "one", "other"] ["self", "one", "other"] (defScope s_Pair_init) := ⟨rfl, rfl, rfl, by decide +kernel, rfl, by decide +kernel, by decide +kernel⟩
theorem ok_Pair_init {P : Program} {w : World} {K : PySem.W.Frag} {mg : Str → Option Value} {base : Heap} {f C : Addr} {fd : FuncData} (F : Fun K "__init__" "Pair.__init__" s_Pair_init f fd) (c : Cls K C) (n0 : NoAttr K C "one") (n1 : NoAttr K C "other") :
    FnOk P w K mg base CX0 1 f fd ["self", "one", "other"] (spI C ["one", "other"]) := by
  refine F.ok sc_Pair_init (fun vs H Q E h => ?_) (fun cdv A outer s H vs Q E hr h => ?_)
  · obtain ⟨p, dx, xs, rfl, hl, _⟩ := h
    show xs.length + 1 = 3
    rw [hl]; rfl
  · obtain ⟨p, dx, xs, rfl, hl, hp, k⟩ := h
    obtain ⟨x, y, rfl⟩ := two_of hl
    refine ⟨_, pss_cons (ps_fld (pv 0) (pv 1) rfl) (pss_one (ps_fld (pv 0) (pv 2) rfl)), _, rfl, _, rfl, p, C, dx, [], rfl, hp, c, n0, (by show 0 < 1000; decide), _, rfl, _, rfl, p, C, dx, _, rfl, upd_same, c, n1, (by show 1 < 1000; decide), ?_⟩
    rw [upd_upd, putF_two (by decide +kernel)]
    exact k

abbrev s_pair_of : Stmt := top 31
theorem sc_pair_of : FnScope N_pair_of ["sign", "one", "other"] (defScope s_pair_of) := ⟨rfl, rfl, rfl, by decide +kernel, rfl, by decide +kernel, by decide +kernel⟩
set_option maxHeartbeats 4000000 in
theorem ok_pair_of {P : Program} {w : World} {K : PySem.W.Frag} {mg : Str → Option Value} {base : Heap} {f : Addr} {fd : FuncData} (F : Fun K "pair_of" "pair_of" s_pair_of f fd) {C_And : Addr} (aC_And : PySem.W.nsIn K mainGlobals "And" = some (some (.ref C_And))) (gC_And : mg "And" = some (.ref C_And)) {f_Pair_init : Addr} {fd_Pair_init : FuncData} (M_And : Mk K C_And f_Pair_init) (FI_And : FnOk P w K mg base CX0 1 f_Pair_init fd_Pair_init ["self", "one", "other"] (spI C_And ["one", "other"])) (b_Pair_init : Binds K fd_Pair_init ["self", "one", "other"] []) {C_Either : Addr} (aC_Either : PySem.W.nsIn K mainGlobals "Either" = some (some (.ref C_Either))) (gC_Either : mg "Either" = some (.ref C_Either)) (M_Either : Mk K C_Either f_Pair_init) (FI_Either : FnOk P w K mg base CX0 1 f_Pair_init fd_Pair_init ["self", "one", "other"] (spI C_Either ["one", "other"])) {C_Or : Addr} (aC_Or : PySem.W.nsIn K mainGlobals "Or" = some (some (.ref C_Or))) (gC_Or : mg "Or" = some (.ref C_Or)) (M_Or : Mk K C_Or f_Pair_init) (FI_Or : FnOk P w K mg base CX0 1 f_Pair_init fd_Pair_init ["self", "one", "other"] (spI C_Or ["one", "other"])) :
    FnOk P w K mg base CX0 3 f fd ["sign", "one", "other"] (spD K sp_pair_of) := by
  refine fnD F sc_pair_of (fun ds Q px h => len_pair_of h) (fun cdv A outer s H E hr => ⟨_, w_pair_of,
    (dss_cons (ds_if (dt_eqX hr.units (de_var 0) de_str) (dss_one (ds_ret (de_mk (k := 1) aC_And M_And FI_And (hr.mono (by decide)) gC_And b_Pair_init pass0 (da_cons (de_var 1) (da_cons (de_var 2) da_nil))))) dss_nil)
    (dss_cons (ds_if (dt_eqX hr.units (de_var 0) de_str) (dss_one (ds_ret (de_mk (k := 1) aC_Or M_Or FI_Or (hr.mono (by decide)) gC_Or b_Pair_init pass0 (da_cons (de_var 1) (da_cons (de_var 2) da_nil))))) dss_nil)
    (dss_one (ds_ret (de_mk (k := 1) aC_Either M_Either FI_Either (hr.mono (by decide)) gC_Either b_Pair_init pass0 (da_cons (de_var 1) (da_cons (de_var 2) da_nil))))))), fun ds Q px h => rd_pair_of h⟩)

abbrev s_read_from : Stmt := top 33
theorem sc_read_from : FnScope N_read_from ["text", "place"] (defScope s_read_from) := ⟨rfl, rfl, rfl, by decide +kernel, rfl, by decide +kernel, by decide +kernel⟩

abbrev s_read_pair : Stmt := top 32
theorem sc_read_pair : FnScope N_read_pair ["text", "place"] (defScope s_read_pair) := ⟨rfl, rfl, rfl, by decide +kernel, rfl, by decide +kernel, by decide +kernel⟩
set_option maxHeartbeats 4000000 in
theorem okg_read_from {P : Program} {w : World} {K : PySem.W.Frag} {mg : Str → Option Value} {base : Heap} {f_read_from : Addr} {fd_read_from : FuncData} (F0_read_from : Fun K "read_from" "read_from" s_read_from f_read_from fd_read_from) (b_read_from : Binds K fd_read_from ["text", "place"] []) (k_read_from : PySem.W.keepIn K (.ref f_read_from) = true) (mg_read_from : mg "read_from" = some (.ref f_read_from)) {f_read_pair : Addr} {fd_read_pair : FuncData} (F0_read_pair : Fun K "read_pair" "read_pair" s_read_pair f_read_pair fd_read_pair) (b_read_pair : Binds K fd_read_pair ["text", "place"] []) (k_read_pair : PySem.W.keepIn K (.ref f_read_pair) = true) (mg_read_pair : mg "read_pair" = some (.ref f_read_pair)) {f_sign_at : Addr} {fd_sign_at : FuncData} (F_sign_at : FnOk P w K mg base CX0 1 f_sign_at fd_sign_at ["text", "place"] (spD K sp_sign_at)) (b_sign_at : Binds K fd_sign_at ["text", "place"] []) (k_sign_at : PySem.W.keepIn K (.ref f_sign_at) = true) (mg_sign_at : mg "sign_at" = some (.ref f_sign_at)) {C_Always : Addr} (aC_Always : PySem.W.nsIn K mainGlobals "Always" = some (some (.ref C_Always))) (gC_Always : mg "Always" = some (.ref C_Always)) (B_Always : Bare K C_Always) {C_Letter : Addr} (aC_Letter : PySem.W.nsIn K mainGlobals "Letter" = some (some (.ref C_Letter))) (gC_Letter : mg "Letter" = some (.ref C_Letter)) {f_Letter_init : Addr} {fd_Letter_init : FuncData} (M_Letter : Mk K C_Letter f_Letter_init) (FI_Letter : FnOk P w K mg base CX0 1 f_Letter_init fd_Letter_init ["self", "letter"] (spI C_Letter ["letter"])) (b_Letter_init : Binds K fd_Letter_init ["self", "letter"] []) {C_Never : Addr} (aC_Never : PySem.W.nsIn K mainGlobals "Never" = some (some (.ref C_Never))) (gC_Never : mg "Never" = some (.ref C_Never)) (B_Never : Bare K C_Never) {C_Not : Addr} (aC_Not : PySem.W.nsIn K mainGlobals "Not" = some (some (.ref C_Not))) (gC_Not : mg "Not" = some (.ref C_Not)) {f_Not_init : Addr} {fd_Not_init : FuncData} (M_Not : Mk K C_Not f_Not_init) (FI_Not : FnOk P w K mg base CX0 1 f_Not_init fd_Not_init ["self", "one"] (spI C_Not ["one"])) (b_Not_init : Binds K fd_Not_init ["self", "one"] []) {T_LETTERS_texts : Tok} (gm_LETTERS_texts : mg "LETTERS_texts" = some (.str "abcpqrxyz" T_LETTERS_texts)) {f_pair_of : Addr} {fd_pair_of : FuncData} (F_pair_of : FnOk P w K mg base CX0 3 f_pair_of fd_pair_of ["sign", "one", "other"] (spD K sp_pair_of)) (b_pair_of : Binds K fd_pair_of ["sign", "one", "other"] []) (k_pair_of : PySem.W.keepIn K (.ref f_pair_of) = true) (mg_pair_of : mg "pair_of" = some (.ref f_pair_of)) :
    ∀ n : Nat, FnOk P w K mg base CX0 (4 + n) f_read_from fd_read_from ["text", "place"] (spD K (sp0 (spr_read_from n))) ∧ FnOk P w K mg base CX0 (4 + n) f_read_pair fd_read_pair ["text", "place"] (spD K (sp0 (spr_read_pair n)))
  | 0 => ⟨FnOk.nothing, FnOk.nothing⟩
  | n + 1 => by
    have ih := okg_read_from (P := P) (w := w) (mg := mg) (base := base) F0_read_from b_read_from k_read_from mg_read_from F0_read_pair b_read_pair k_read_pair mg_read_pair F_sign_at b_sign_at k_sign_at mg_sign_at aC_Always gC_Always B_Always aC_Letter gC_Letter M_Letter FI_Letter b_Letter_init aC_Never gC_Never B_Never aC_Not gC_Not M_Not FI_Not b_Not_init gm_LETTERS_texts F_pair_of b_pair_of k_pair_of mg_pair_of n
    obtain ⟨F_read_from, F_read_pair⟩ := ih
    show FnOk P w K mg base CX0 ((4 + n) + 1) f_read_from fd_read_from ["text", "place"] (spD K (sp0 (spr_read_from (n + 1)))) ∧ FnOk P w K mg base CX0 ((4 + n) + 1) f_read_pair fd_read_pair ["text", "place"] (spD K (sp0 (spr_read_pair (n + 1))))
    refine ⟨?_, ?_⟩
    · refine fnD F0_read_from sc_read_from (fun ds Q px h => len_read_from h) (fun cdv A outer s H E hr => ⟨_, w_read_from n (fun _ _ => False),
      (dss_cons (ds_asg (de_call F_sign_at (hr.mono (by omega)) mg_sign_at k_sign_at b_sign_at pass0 (da_cons (de_var 0) (da_cons (de_var 1) da_nil))) (dg_name 2 sc_read_from.nd))
    (dss_cons (ds_if (dt_eqX hr.units (de_var 2) de_str) (dss_one (ds_ret (de_tup (da_cons (de_bare (k := 1) aC_Always B_Always (hr.mono (by omega)) gC_Always) (da_cons (de_plus (de_var 1) de_int) da_nil))))) dss_nil)
    (dss_cons (ds_if (dt_eqX hr.units (de_var 2) de_str) (dss_one (ds_ret (de_tup (da_cons (de_bare (k := 1) aC_Never B_Never (hr.mono (by omega)) gC_Never) (da_cons (de_plus (de_var 1) de_int) da_nil))))) dss_nil)
    (dss_cons (ds_if ((dw_and (dt_neX hr.units (de_var 2) de_str) (dw_and1 (dt_inX hr.units (de_var 2) (de_glob (v := .str "abcpqrxyz") (by rfl) gm_LETTERS_texts (by exact ⟨_, rfl⟩) (by exact fun _ => rfl))))).dt) (dss_one (ds_ret (de_tup (da_cons (de_mk (k := 1) aC_Letter M_Letter FI_Letter (hr.mono (by omega)) gC_Letter b_Letter_init pass0 (da_cons (de_var 2) da_nil)) (da_cons (de_plus (de_var 1) de_int) da_nil))))) dss_nil)
    (dss_cons (ds_if (dt_eqX hr.units (de_var 2) de_str) (dss_cons (ds_asg (de_callN F_read_from (hr.mono (by omega)) mg_read_from k_read_from b_read_from pass0 (da_cons (de_var 0) (da_cons (de_plus (de_var 1) de_int) da_nil))) (dg_tup rfl (dgs_cons (dg_name 3 sc_read_from.nd) (dgs_cons (dg_name 1 sc_read_from.nd) dgs_nil))))
    (dss_one (ds_ret (de_tup (da_cons (de_mk (k := 1) aC_Not M_Not FI_Not (hr.mono (by omega)) gC_Not b_Not_init pass0 (da_cons (de_var 3) da_nil)) (da_cons (de_var 1) da_nil)))))) dss_nil)
    (dss_cons (ds_if (dt_eqX hr.units (de_var 2) de_str) (dss_one (ds_ret (de_callN F_read_pair (hr.mono (by omega)) mg_read_pair k_read_pair b_read_pair pass0 (da_cons (de_var 0) (da_cons (de_plus (de_var 1) de_int) da_nil))))) dss_nil)
    (dss_one ds_noR))))))), fun ds Q px h => rd_read_from h⟩)
    · refine fnD F0_read_pair sc_read_pair (fun ds Q px h => len_read_pair h) (fun cdv A outer s H E hr => ⟨_, w_read_pair n (fun _ _ => False),
      (dss_cons (ds_asg (de_callN F_read_from (hr.mono (by omega)) mg_read_from k_read_from b_read_from pass0 (da_cons (de_var 0) (da_cons (de_var 1) da_nil))) (dg_tup rfl (dgs_cons (dg_name 2 sc_read_pair.nd) (dgs_cons (dg_name 1 sc_read_pair.nd) dgs_nil))))
    (dss_cons (ds_asg (de_call F_sign_at (hr.mono (by omega)) mg_sign_at k_sign_at b_sign_at pass0 (da_cons (de_var 0) (da_cons (de_var 1) da_nil))) (dg_name 3 sc_read_pair.nd))
    (dss_cons (ds_if ((dw_or (dt_eqX hr.units (de_var 3) de_str) (dw_or1 (dt_notInX hr.units (de_var 3) de_str))).dt) (dss_one ds_noR) dss_nil)
    (dss_cons (ds_asg (de_callN F_read_from (hr.mono (by omega)) mg_read_from k_read_from b_read_from pass0 (da_cons (de_var 0) (da_cons (de_plus (de_var 1) de_int) da_nil))) (dg_tup rfl (dgs_cons (dg_name 4 sc_read_pair.nd) (dgs_cons (dg_name 1 sc_read_pair.nd) dgs_nil))))
    (dss_cons (ds_if (dt_neX hr.units (de_call F_sign_at (hr.mono (by omega)) mg_sign_at k_sign_at b_sign_at pass0 (da_cons (de_var 0) (da_cons (de_var 1) da_nil))) de_str) (dss_one ds_noR) dss_nil)
    (dss_one (ds_ret (de_tup (da_cons (de_call F_pair_of (hr.mono (by omega)) mg_pair_of k_pair_of b_pair_of pass0 (da_cons (de_var 3) (da_cons (de_var 2) (da_cons (de_var 4) da_nil)))) (da_cons (de_plus (de_var 1) de_int) da_nil)))))))))), fun ds Q px h => rd_read_pair h⟩)

abbrev s_read : Stmt := top 34
theorem sc_read : FnScope N_read ["text"] (defScope s_read) := ⟨rfl, rfl, rfl, by decide +kernel, rfl, by decide +kernel, by decide +kernel⟩
set_option maxHeartbeats 4000000 in
theorem ok_read {P : Program} {w : World} {K : PySem.W.Frag} {mg : Str → Option Value} {base : Heap} {f : Addr} {fd : FuncData} (F : Fun K "read" "read" s_read f fd) {f_read_from : Addr} {fd_read_from : FuncData} (F_read_from : FnOk P w K mg base CX0 124 f_read_from fd_read_from ["text", "place"] (spD K (sp0 sp_read_from))) (b_read_from : Binds K fd_read_from ["text", "place"] []) (k_read_from : PySem.W.keepIn K (.ref f_read_from) = true) (mg_read_from : mg "read_from" = some (.ref f_read_from)) (m_len : mg "len" = none) :
    FnOk P w K mg base CX0 125 f fd ["text"] (spD K (sp0 sp_read)) := by
  refine fnD F sc_read (fun ds Q px h => len_read h) (fun cdv A outer s H E hr => ⟨_, w_read (fun _ _ => False),
    (dss_cons (ds_asg (de_callN F_read_from (hr.mono (by decide)) mg_read_from k_read_from b_read_from pass0 (da_cons (de_var 0) (da_cons de_int da_nil))) (dg_tup rfl (dgs_cons (dg_name 1 sc_read.nd) (dgs_cons (dg_name 2 sc_read.nd) dgs_nil))))
    (dss_cons (ds_if (dt_ltX hr.units (de_var 2) (de_len m_len (de_var 0))) (dss_one ds_noR) dss_nil)
    (dss_one (ds_ret (de_var 1))))), fun ds Q px h => rd_read h⟩)

abbrev s_Always_size : Stmt := inClass (top 20) 1
theorem sc_Always_size : FnScope N_Always_size ["self"] (defScope s_Always_size) := ⟨rfl, rfl, rfl, by decide +kernel, rfl, by decide +kernel, by decide +kernel⟩
set_option maxHeartbeats 4000000 in
theorem ok_Always_size {P : Program} {w : World} {K : PySem.W.Frag} {mg : Str → Option Value} {base : Heap} {f : Addr} {fd : FuncData} (F : Fun K "size" "Always.size" s_Always_size f fd) :
    FnOk P w K mg base CX0 1 f fd ["self"] (spD K sp_Always_size) := by
  refine fnD F sc_Always_size (fun ds Q px h => len_Always_size h) (fun cdv A outer s H E hr => ⟨_, w_Always_size,
    (dss_one (ds_ret de_int)), fun ds Q px h => rd_Always_size h⟩)

abbrev s_Never_size : Stmt := inClass (top 21) 1
theorem sc_Never_size : FnScope N_Never_size ["self"] (defScope s_Never_size) := ⟨rfl, rfl, rfl, by decide +kernel, rfl, by decide +kernel, by decide +kernel⟩
set_option maxHeartbeats 4000000 in
theorem ok_Never_size {P : Program} {w : World} {K : PySem.W.Frag} {mg : Str → Option Value} {base : Heap} {f : Addr} {fd : FuncData} (F : Fun K "size" "Never.size" s_Never_size f fd) :
    FnOk P w K mg base CX0 1 f fd ["self"] (spD K sp_Never_size) := by
  refine fnD F sc_Never_size (fun ds Q px h => len_Never_size h) (fun cdv A outer s H E hr => ⟨_, w_Never_size,
    (dss_one (ds_ret de_int)), fun ds Q px h => rd_Never_size h⟩)

abbrev s_Letter_size : Stmt := inClass (top 22) 2
theorem sc_Letter_size : FnScope N_Letter_size ["self"] (defScope s_Letter_size) := ⟨rfl, rfl, rfl, by decide +kernel, rfl, by decide +kernel, by decide +kernel⟩
set_option maxHeartbeats 4000000 in
theorem ok_Letter_size {P : Program} {w : World} {K : PySem.W.Frag} {mg : Str → Option Value} {base : Heap} {f : Addr} {fd : FuncData} (F : Fun K "size" "Letter.size" s_Letter_size f fd) :
    FnOk P w K mg base CX0 1 f fd ["self"] (spD K sp_Letter_size) := by
  refine fnD F sc_Letter_size (fun ds Q px h => len_Letter_size h) (fun cdv A outer s H E hr => ⟨_, w_Letter_size,
    (dss_one (ds_ret de_int)), fun ds Q px h => rd_Letter_size h⟩)

abbrev s_Not_size : Stmt := inClass (top 23) 2
theorem sc_Not_size : FnScope N_Not_size ["self"] (defScope s_Not_size) := ⟨rfl, rfl, rfl, by decide +kernel, rfl, by decide +kernel, by decide +kernel⟩

abbrev s_Pair_size : Stmt := inClass (top 24) 3
theorem sc_Pair_size : FnScope N_Pair_size ["self"] (defScope s_Pair_size) := ⟨rfl, rfl, rfl, by decide +kernel, rfl, by decide +kernel, by decide +kernel⟩
set_option maxHeartbeats 4000000 in
theorem okg_Not_size {P : Program} {w : World} {K : PySem.W.Frag} {mg : Str → Option Value} {base : Heap} {f_Not_size : Addr} {fd_Not_size : FuncData} (F0_Not_size : Fun K "size" "Not.size" s_Not_size f_Not_size fd_Not_size) (b_Not_size : Binds K fd_Not_size ["self"] []) {f_Pair_size : Addr} {fd_Pair_size : FuncData} (F0_Pair_size : Fun K "size" "Pair.size" s_Pair_size f_Pair_size fd_Pair_size) (b_Pair_size : Binds K fd_Pair_size ["self"] []) (hF_one : ∀ N ∈ (["Not", "And", "Or", "Either"] : List Str), FldOk K N "one") {f_Always_size : Addr} {fd_Always_size : FuncData} {C_Always : Addr} (aC_Always : PySem.W.nsIn K mainGlobals "Always" = some (some (.ref C_Always))) (cl_Always : Cls K C_Always) (me_Always_size : Meth K C_Always "size" f_Always_size) (F_Always_size : FnOk P w K mg base CX0 1 f_Always_size fd_Always_size ["self"] (spD K sp_Always_size)) (b_Always_size : Binds K fd_Always_size ["self"] []) {f_Never_size : Addr} {fd_Never_size : FuncData} {C_Never : Addr} (aC_Never : PySem.W.nsIn K mainGlobals "Never" = some (some (.ref C_Never))) (cl_Never : Cls K C_Never) (me_Never_size : Meth K C_Never "size" f_Never_size) (F_Never_size : FnOk P w K mg base CX0 1 f_Never_size fd_Never_size ["self"] (spD K sp_Never_size)) (b_Never_size : Binds K fd_Never_size ["self"] []) {f_Letter_size : Addr} {fd_Letter_size : FuncData} {C_Letter : Addr} (aC_Letter : PySem.W.nsIn K mainGlobals "Letter" = some (some (.ref C_Letter))) (cl_Letter : Cls K C_Letter) (me_Letter_size : Meth K C_Letter "size" f_Letter_size) (F_Letter_size : FnOk P w K mg base CX0 1 f_Letter_size fd_Letter_size ["self"] (spD K sp_Letter_size)) (b_Letter_size : Binds K fd_Letter_size ["self"] []) {C_Not : Addr} (aC_Not : PySem.W.nsIn K mainGlobals "Not" = some (some (.ref C_Not))) (cl_Not : Cls K C_Not) (me_Not_size : Meth K C_Not "size" f_Not_size) {C_And : Addr} (aC_And : PySem.W.nsIn K mainGlobals "And" = some (some (.ref C_And))) (cl_And : Cls K C_And) (me_And_size : Meth K C_And "size" f_Pair_size) {C_Or : Addr} (aC_Or : PySem.W.nsIn K mainGlobals "Or" = some (some (.ref C_Or))) (cl_Or : Cls K C_Or) (me_Or_size : Meth K C_Or "size" f_Pair_size) {C_Either : Addr} (aC_Either : PySem.W.nsIn K mainGlobals "Either" = some (some (.ref C_Either))) (cl_Either : Cls K C_Either) (me_Either_size : Meth K C_Either "size" f_Pair_size) (hF_other : ∀ N ∈ (["And", "Or", "Either"] : List Str), FldOk K N "other") :
    ∀ n : Nat, FnOk P w K mg base CX0 (2 + n) f_Not_size fd_Not_size ["self"] (spD K (spr_Not_size n)) ∧ FnOk P w K mg base CX0 (2 + n) f_Pair_size fd_Pair_size ["self"] (spD K (spr_Pair_size n))
  | 0 => ⟨FnOk.nothing, FnOk.nothing⟩
  | n + 1 => by
    have ih := okg_Not_size (P := P) (w := w) (mg := mg) (base := base) F0_Not_size b_Not_size F0_Pair_size b_Pair_size hF_one aC_Always cl_Always me_Always_size F_Always_size b_Always_size aC_Never cl_Never me_Never_size F_Never_size b_Never_size aC_Letter cl_Letter me_Letter_size F_Letter_size b_Letter_size aC_Not cl_Not me_Not_size aC_And cl_And me_And_size aC_Or cl_Or me_Or_size aC_Either cl_Either me_Either_size hF_other n
    obtain ⟨F_Not_size, F_Pair_size⟩ := ih
    have hT_size : ∀ q ∈ Tb_size n, MethOk P w K mg base CX0 (2 + n) "size" q.1 q.2 := (fun q hq => by
      simp only [Tb_size, List.mem_cons, List.not_mem_nil, or_false] at hq
      rcases hq with rfl | rfl | rfl | rfl | rfl | rfl | rfl
      · exact MethOk.of aC_Always cl_Always me_Always_size F_Always_size b_Always_size (by omega)
      · exact MethOk.of aC_Never cl_Never me_Never_size F_Never_size b_Never_size (by omega)
      · exact MethOk.of aC_Letter cl_Letter me_Letter_size F_Letter_size b_Letter_size (by omega)
      · exact MethOk.of aC_Not cl_Not me_Not_size F_Not_size b_Not_size (by omega)
      · exact MethOk.of aC_And cl_And me_And_size F_Pair_size b_Pair_size (by omega)
      · exact MethOk.of aC_Or cl_Or me_Or_size F_Pair_size b_Pair_size (by omega)
      · exact MethOk.of aC_Either cl_Either me_Either_size F_Pair_size b_Pair_size (by omega)
    )
    show FnOk P w K mg base CX0 ((2 + n) + 1) f_Not_size fd_Not_size ["self"] (spD K (spr_Not_size (n + 1))) ∧ FnOk P w K mg base CX0 ((2 + n) + 1) f_Pair_size fd_Pair_size ["self"] (spD K (spr_Pair_size (n + 1)))
    refine ⟨?_, ?_⟩
    · refine fnD F0_Not_size sc_Not_size (fun ds Q px h => len_Not_size h) (fun cdv A outer s H E hr => ⟨_, w_Not_size n,
      (dss_one (ds_ret (de_plus de_int (de_meth0 (CX := CX0) (k := (2 + n)) (de_fld (de_var 0) hF_one) hT_size (hr.mono (by omega)) pass0)))), fun ds Q px h => rd_Not_size h⟩)
    · refine fnD F0_Pair_size sc_Pair_size (fun ds Q px h => len_Pair_size h) (fun cdv A outer s H E hr => ⟨_, w_Pair_size n,
      (dss_one (ds_ret (de_plus (de_plus de_int (de_meth0 (CX := CX0) (k := (2 + n)) (de_fld (de_var 0) hF_one) hT_size (hr.mono (by omega)) pass0)) (de_meth0 (CX := CX0) (k := (2 + n)) (de_fld (de_var 0) hF_other) hT_size (hr.mono (by omega)) pass0)))), fun ds Q px h => rd_Pair_size h⟩)

abbrev s_wish_of : Stmt := top 42
theorem sc_wish_of : FnScope N_wish_of ["text", "letters"] (defScope s_wish_of) := ⟨rfl, rfl, rfl, by decide +kernel, rfl, by decide +kernel, by decide +kernel⟩
set_option maxHeartbeats 4000000 in
theorem ok_wish_of {P : Program} {w : World} {K : PySem.W.Frag} {mg : Str → Option Value} {base : Heap} {f : Addr} {fd : FuncData} (F : Fun K "wish_of" "wish_of" s_wish_of f fd) {f_read : Addr} {fd_read : FuncData} (F_read : FnOk P w K mg base CX0 125 f_read fd_read ["text"] (spD K (sp0 sp_read))) (b_read : Binds K fd_read ["text"] []) (k_read : PySem.W.keepIn K (.ref f_read) = true) (mg_read : mg "read" = some (.ref f_read)) (hT_size : ∀ q ∈ Tb_size 70, MethOk P w K mg base CX0 72 "size" q.1 q.2) {T_LETTERS_wishes : Tok} (gm_LETTERS_wishes : mg "LETTERS_wishes" = some (.str "abcpqrxyz" T_LETTERS_wishes)) {T_MOST_PARTS : Tok} (gm_MOST_PARTS : mg "MOST_PARTS" = some (.int 20 T_MOST_PARTS)) :
    FnOk P w K mg base CX0 126 f fd ["text", "letters"] (spD K (sp0 sp_wish_of)) := by
  refine fnD F sc_wish_of (fun ds Q px h => len_wish_of h) (fun cdv A outer s H E hr => ⟨_, w_wish_of (fun _ _ => False),
    (dss_cons (ds_asg (de_part (de_var 0) de_str) (dg_tup rfl (dgs_cons (dg_name 2 sc_wish_of.nd) (dgs_cons (dg_name 3 sc_wish_of.nd) (dgs_cons (dg_name 4 sc_wish_of.nd) dgs_nil)))))
    (dss_cons (ds_if (dt_eqX hr.units (de_var 3) de_str) (dss_one ds_noR) dss_nil)
    (dss_cons (ds_asg (de_callN F_read (hr.mono (by decide)) mg_read k_read b_read pass0 (da_cons (de_strip1 (de_var 2) de_str) da_nil)) (dg_name 5 sc_wish_of.nd))
    (dss_cons (ds_asg (de_callN F_read (hr.mono (by decide)) mg_read k_read b_read pass0 (da_cons (de_strip1 (de_var 4) de_str) da_nil)) (dg_name 6 sc_wish_of.nd))
    (dss_cons (ds_if ((dw_or (dt_gtX hr.units (de_meth0 (CX := CX0) (k := 72) (de_var 5) hT_size (hr.mono (by decide)) pass0) (de_glob (v := .int 20) (by rfl) gm_MOST_PARTS (by exact ⟨_, rfl⟩) (by exact fun _ => rfl))) (dw_or1 (dt_gtX hr.units (de_meth0 (CX := CX0) (k := 72) (de_var 6) hT_size (hr.mono (by decide)) pass0) (de_glob (v := .int 20) (by rfl) gm_MOST_PARTS (by exact ⟨_, rfl⟩) (by exact fun _ => rfl))))).dt) (dss_one ds_noR) dss_nil)
    (dss_cons (ds_for PassesOwn.never rfl (di_X (de_var 0)) (dg_name 7 sc_wish_of.nd) (dss_one (ds_if ((dw_and (dt_inX hr.units (de_var 7) (de_glob (v := .str "abcpqrxyz") (by rfl) gm_LETTERS_wishes (by exact ⟨_, rfl⟩) (by exact fun _ => rfl))) (dw_and1 (dt_notInX hr.units (de_var 7) (de_var 1)))).dt) (dss_one ds_noR) dss_nil)))
    (dss_one (ds_ret (de_tup (da_cons (de_var 5) (da_cons (de_var 6) da_nil))))))))))), fun ds Q px h => rd_wish_of h⟩)

abbrev s_gathered : Stmt := top 9
theorem sc_gathered : FnScope N_gathered ["products"] (defScope s_gathered) := ⟨rfl, rfl, rfl, by decide +kernel, rfl, by decide +kernel, by decide +kernel⟩
set_option maxHeartbeats 4000000 in
theorem ok_gathered {P : Program} {w : World} {K : PySem.W.Frag} {mg : Str → Option Value} {base : Heap} {f : Addr} {fd : FuncData} (F : Fun K "gathered" "gathered" s_gathered f fd) (m_sorted : mg "sorted" = none) (m_tuple : mg "tuple" = none) :
    FnOk P w K mg base CX0 1 f fd ["products"] (spD K sp_gathered) := by
  refine fnD F sc_gathered (fun ds Q px h => len_gathered h) (fun cdv A outer s H E hr => ⟨_, w_gathered,
    (dss_cons (ds_set 1 sc_gathered.nd de_dict0)
    (dss_cons (ds_for PassesOwn.never rfl (di_X (de_var 0)) (dg_name 2 sc_gathered.nd) (dss_one (ds_if (dt_lend (dt_inX hr.units (de_var 2) (de_var 1))) (dss_one (ds_expr (de_dpop 1 (de_var 2) ⟨rfl, rfl, rfl, rfl⟩))) (dss_one (ds_dput 1 (units1 hr.units) (de_var 2) de_bl)))))
    (dss_one (ds_ret (de_tuple m_tuple (de_sortK rfl m_sorted (de_var 1))))))), fun ds Q px h => rd_gathered h⟩)

abbrev s_added : Stmt := top 10
theorem sc_added : FnScope N_added ["one", "other"] (defScope s_added) := ⟨rfl, rfl, rfl, by decide +kernel, rfl, by decide +kernel, by decide +kernel⟩
set_option maxHeartbeats 4000000 in
theorem ok_added {P : Program} {w : World} {K : PySem.W.Frag} {mg : Str → Option Value} {base : Heap} {f : Addr} {fd : FuncData} (F : Fun K "added" "added" s_added f fd) {f_gathered : Addr} {fd_gathered : FuncData} (F_gathered : FnOk P w K mg base CX0 1 f_gathered fd_gathered ["products"] (spD K sp_gathered)) (b_gathered : Binds K fd_gathered ["products"] []) (k_gathered : PySem.W.keepIn K (.ref f_gathered) = true) (mg_gathered : mg "gathered" = some (.ref f_gathered)) (m_list : mg "list" = none) :
    FnOk P w K mg base CX0 2 f fd ["one", "other"] (spD K sp_added) := by
  refine fnD F sc_added (fun ds Q px h => len_added h) (fun cdv A outer s H E hr => ⟨_, w_added,
    (dss_one (ds_ret (de_call F_gathered (hr.mono (by decide)) mg_gathered k_gathered b_gathered pass0 (da_cons (de_plus (de_listX rfl m_list (de_var 0)) (de_listX rfl m_list (de_var 1))) da_nil)))), fun ds Q px h => rd_added h⟩)

abbrev s_both_letters : Stmt := top 11
theorem sc_both_letters : FnScope N_both_letters ["one", "other"] (defScope s_both_letters) := ⟨rfl, rfl, rfl, by decide +kernel, rfl, by decide +kernel, by decide +kernel⟩
set_option maxHeartbeats 4000000 in
theorem ok_both_letters {P : Program} {w : World} {K : PySem.W.Frag} {mg : Str → Option Value} {base : Heap} {f : Addr} {fd : FuncData} (F : Fun K "both_letters" "both_letters" s_both_letters f fd) (m_set : mg "set" = none) (m_sorted : mg "sorted" = none) :
    FnOk P w K mg base CX0 1 f fd ["one", "other"] (spD K sp_both_letters) := by
  refine fnD F sc_both_letters (fun ds Q px h => len_both_letters h) (fun cdv A outer s H E hr => ⟨_, w_both_letters,
    (dss_one (ds_ret (de_join de_str (de_sortSet rfl m_sorted m_set (de_plus (de_var 0) (de_var 1)))))), fun ds Q px h => rd_both_letters h⟩)

abbrev s_multiplied : Stmt := top 12
theorem sc_multiplied : FnScope N_multiplied ["one", "other"] (defScope s_multiplied) := ⟨rfl, rfl, rfl, by decide +kernel, rfl, by decide +kernel, by decide +kernel⟩
set_option maxHeartbeats 4000000 in
theorem ok_multiplied {P : Program} {w : World} {K : PySem.W.Frag} {mg : Str → Option Value} {base : Heap} {f : Addr} {fd : FuncData} (F : Fun K "multiplied" "multiplied" s_multiplied f fd) {f_both_letters : Addr} {fd_both_letters : FuncData} (F_both_letters : FnOk P w K mg base CX0 1 f_both_letters fd_both_letters ["one", "other"] (spD K sp_both_letters)) (b_both_letters : Binds K fd_both_letters ["one", "other"] []) (k_both_letters : PySem.W.keepIn K (.ref f_both_letters) = true) (mg_both_letters : mg "both_letters" = some (.ref f_both_letters)) {f_gathered : Addr} {fd_gathered : FuncData} (F_gathered : FnOk P w K mg base CX0 1 f_gathered fd_gathered ["products"] (spD K sp_gathered)) (b_gathered : Binds K fd_gathered ["products"] []) (k_gathered : PySem.W.keepIn K (.ref f_gathered) = true) (mg_gathered : mg "gathered" = some (.ref f_gathered)) :
    FnOk P w K mg base CX0 2 f fd ["one", "other"] (spD K sp_multiplied) := by
  refine fnD F sc_multiplied (fun ds Q px h => len_multiplied h) (fun cdv A outer s H E hr => ⟨_, w_multiplied,
    (dss_cons (ds_set 2 sc_multiplied.nd (de_lst da_nil))
    (dss_cons (ds_for PassesOwn.never rfl (di_X (de_var 0)) (dg_name 3 sc_multiplied.nd) (dss_one (ds_for PassesOwn.never rfl (di_X (de_var 1)) (dg_name 4 sc_multiplied.nd) (dss_one (ds_expr (de_append 2 (de_call F_both_letters (hr.mono (by decide)) mg_both_letters k_both_letters b_both_letters pass0 (da_cons (de_var 3) (da_cons (de_var 4) da_nil)))))))))
    (dss_one (ds_ret (de_call F_gathered (hr.mono (by decide)) mg_gathered k_gathered b_gathered pass0 (da_cons (de_var 2) da_nil)))))), fun ds Q px h => rd_multiplied h⟩)

abbrev s_joined : Stmt := top 14
theorem sc_joined : FnScope N_joined ["one", "other"] (defScope s_joined) := ⟨rfl, rfl, rfl, by decide +kernel, rfl, by decide +kernel, by decide +kernel⟩
set_option maxHeartbeats 4000000 in
theorem ok_joined {P : Program} {w : World} {K : PySem.W.Frag} {mg : Str → Option Value} {base : Heap} {f : Addr} {fd : FuncData} (F : Fun K "joined" "joined" s_joined f fd) {f_added : Addr} {fd_added : FuncData} (F_added : FnOk P w K mg base CX0 2 f_added fd_added ["one", "other"] (spD K sp_added)) (b_added : Binds K fd_added ["one", "other"] []) (k_added : PySem.W.keepIn K (.ref f_added) = true) (mg_added : mg "added" = some (.ref f_added)) {f_multiplied : Addr} {fd_multiplied : FuncData} (F_multiplied : FnOk P w K mg base CX0 2 f_multiplied fd_multiplied ["one", "other"] (spD K sp_multiplied)) (b_multiplied : Binds K fd_multiplied ["one", "other"] []) (k_multiplied : PySem.W.keepIn K (.ref f_multiplied) = true) (mg_multiplied : mg "multiplied" = some (.ref f_multiplied)) :
    FnOk P w K mg base CX0 3 f fd ["one", "other"] (spD K sp_joined) := by
  refine fnD F sc_joined (fun ds Q px h => len_joined h) (fun cdv A outer s H E hr => ⟨_, w_joined,
    (dss_one (ds_ret (de_call F_added (hr.mono (by decide)) mg_added k_added b_added pass0 (da_cons (de_call F_added (hr.mono (by decide)) mg_added k_added b_added pass0 (da_cons (de_var 0) (da_cons (de_var 1) da_nil))) (da_cons (de_call F_multiplied (hr.mono (by decide)) mg_multiplied k_multiplied b_multiplied pass0 (da_cons (de_var 0) (da_cons (de_var 1) da_nil))) da_nil))))), fun ds Q px h => rd_joined h⟩)

abbrev s_Always_form : Stmt := inClass (top 20) 4
theorem sc_Always_form : FnScope N_Always_form ["self"] (defScope s_Always_form) := ⟨rfl, rfl, rfl, by decide +kernel, rfl, by decide +kernel, by decide +kernel⟩
set_option maxHeartbeats 4000000 in
theorem ok_Always_form {P : Program} {w : World} {K : PySem.W.Frag} {mg : Str → Option Value} {base : Heap} {f : Addr} {fd : FuncData} (F : Fun K "form" "Always.form" s_Always_form f fd) :
    FnOk P w K mg base CX0 1 f fd ["self"] (spD K sp_Always_form) := by
  refine fnD F sc_Always_form (fun ds Q px h => len_Always_form h) (fun cdv A outer s H E hr => ⟨_, w_Always_form,
    (dss_one (ds_ret (de_tup (da_cons de_str da_nil)))), fun ds Q px h => rd_Always_form h⟩)

abbrev s_Never_form : Stmt := inClass (top 21) 4
theorem sc_Never_form : FnScope N_Never_form ["self"] (defScope s_Never_form) := ⟨rfl, rfl, rfl, by decide +kernel, rfl, by decide +kernel, by decide +kernel⟩
set_option maxHeartbeats 4000000 in
theorem ok_Never_form {P : Program} {w : World} {K : PySem.W.Frag} {mg : Str → Option Value} {base : Heap} {f : Addr} {fd : FuncData} (F : Fun K "form" "Never.form" s_Never_form f fd) :
    FnOk P w K mg base CX0 1 f fd ["self"] (spD K sp_Never_form) := by
  refine fnD F sc_Never_form (fun ds Q px h => len_Never_form h) (fun cdv A outer s H E hr => ⟨_, w_Never_form,
    (dss_one (ds_ret (de_tup da_nil))), fun ds Q px h => rd_Never_form h⟩)

abbrev s_Letter_form : Stmt := inClass (top 22) 5
theorem sc_Letter_form : FnScope N_Letter_form ["self"] (defScope s_Letter_form) := ⟨rfl, rfl, rfl, by decide +kernel, rfl, by decide +kernel, by decide +kernel⟩
set_option maxHeartbeats 4000000 in
theorem ok_Letter_form {P : Program} {w : World} {K : PySem.W.Frag} {mg : Str → Option Value} {base : Heap} {f : Addr} {fd : FuncData} (F : Fun K "form" "Letter.form" s_Letter_form f fd) (hF_letter : ∀ N ∈ (["Letter"] : List Str), FldOk K N "letter") :
    FnOk P w K mg base CX0 1 f fd ["self"] (spD K sp_Letter_form) := by
  refine fnD F sc_Letter_form (fun ds Q px h => len_Letter_form h) (fun cdv A outer s H E hr => ⟨_, w_Letter_form,
    (dss_one (ds_ret (de_tup (da_cons (de_fld (de_var 0) hF_letter) da_nil)))), fun ds Q px h => rd_Letter_form h⟩)

abbrev s_opposite : Stmt := top 13
theorem sc_opposite : FnScope N_opposite ["form"] (defScope s_opposite) := ⟨rfl, rfl, rfl, by decide +kernel, rfl, by decide +kernel, by decide +kernel⟩
set_option maxHeartbeats 4000000 in
theorem ok_opposite {P : Program} {w : World} {K : PySem.W.Frag} {mg : Str → Option Value} {base : Heap} {f : Addr} {fd : FuncData} (F : Fun K "opposite" "opposite" s_opposite f fd) {f_added : Addr} {fd_added : FuncData} (F_added : FnOk P w K mg base CX0 2 f_added fd_added ["one", "other"] (spD K sp_added)) (b_added : Binds K fd_added ["one", "other"] []) (k_added : PySem.W.keepIn K (.ref f_added) = true) (mg_added : mg "added" = some (.ref f_added)) :
    FnOk P w K mg base CX0 3 f fd ["form"] (spD K sp_opposite) := by
  refine fnD F sc_opposite (fun ds Q px h => len_opposite h) (fun cdv A outer s H E hr => ⟨_, w_opposite,
    (dss_one (ds_ret (de_call F_added (hr.mono (by decide)) mg_added k_added b_added pass0 (da_cons (de_var 0) (da_cons (de_tup (da_cons de_str da_nil)) da_nil))))), fun ds Q px h => rd_opposite h⟩)

abbrev s_And_form : Stmt := inClass (top 25) 1
theorem sc_And_form : FnScope N_And_form ["self"] (defScope s_And_form) := ⟨rfl, rfl, rfl, by decide +kernel, rfl, by decide +kernel, by decide +kernel⟩

abbrev s_Either_form : Stmt := inClass (top 27) 2
theorem sc_Either_form : FnScope N_Either_form ["self"] (defScope s_Either_form) := ⟨rfl, rfl, rfl, by decide +kernel, rfl, by decide +kernel, by decide +kernel⟩

abbrev s_Not_form : Stmt := inClass (top 23) 5
theorem sc_Not_form : FnScope N_Not_form ["self"] (defScope s_Not_form) := ⟨rfl, rfl, rfl, by decide +kernel, rfl, by decide +kernel, by decide +kernel⟩

abbrev s_Or_form : Stmt := inClass (top 26) 2
theorem sc_Or_form : FnScope N_Or_form ["self"] (defScope s_Or_form) := ⟨rfl, rfl, rfl, by decide +kernel, rfl, by decide +kernel, by decide +kernel⟩
set_option maxHeartbeats 4000000 in
theorem okg_And_form {P : Program} {w : World} {K : PySem.W.Frag} {mg : Str → Option Value} {base : Heap} {f_And_form : Addr} {fd_And_form : FuncData} (F0_And_form : Fun K "form" "And.form" s_And_form f_And_form fd_And_form) (b_And_form : Binds K fd_And_form ["self"] []) {f_Either_form : Addr} {fd_Either_form : FuncData} (F0_Either_form : Fun K "form" "Either.form" s_Either_form f_Either_form fd_Either_form) (b_Either_form : Binds K fd_Either_form ["self"] []) {f_Not_form : Addr} {fd_Not_form : FuncData} (F0_Not_form : Fun K "form" "Not.form" s_Not_form f_Not_form fd_Not_form) (b_Not_form : Binds K fd_Not_form ["self"] []) {f_Or_form : Addr} {fd_Or_form : FuncData} (F0_Or_form : Fun K "form" "Or.form" s_Or_form f_Or_form fd_Or_form) (b_Or_form : Binds K fd_Or_form ["self"] []) {f_multiplied : Addr} {fd_multiplied : FuncData} (F_multiplied : FnOk P w K mg base CX0 2 f_multiplied fd_multiplied ["one", "other"] (spD K sp_multiplied)) (b_multiplied : Binds K fd_multiplied ["one", "other"] []) (k_multiplied : PySem.W.keepIn K (.ref f_multiplied) = true) (mg_multiplied : mg "multiplied" = some (.ref f_multiplied)) (hF_one : ∀ N ∈ (["Not", "And", "Or", "Either"] : List Str), FldOk K N "one") (hF_other : ∀ N ∈ (["And", "Or", "Either"] : List Str), FldOk K N "other") {f_Always_form : Addr} {fd_Always_form : FuncData} {C_Always : Addr} (aC_Always : PySem.W.nsIn K mainGlobals "Always" = some (some (.ref C_Always))) (cl_Always : Cls K C_Always) (me_Always_form : Meth K C_Always "form" f_Always_form) (F_Always_form : FnOk P w K mg base CX0 1 f_Always_form fd_Always_form ["self"] (spD K sp_Always_form)) (b_Always_form : Binds K fd_Always_form ["self"] []) {f_Never_form : Addr} {fd_Never_form : FuncData} {C_Never : Addr} (aC_Never : PySem.W.nsIn K mainGlobals "Never" = some (some (.ref C_Never))) (cl_Never : Cls K C_Never) (me_Never_form : Meth K C_Never "form" f_Never_form) (F_Never_form : FnOk P w K mg base CX0 1 f_Never_form fd_Never_form ["self"] (spD K sp_Never_form)) (b_Never_form : Binds K fd_Never_form ["self"] []) {f_Letter_form : Addr} {fd_Letter_form : FuncData} {C_Letter : Addr} (aC_Letter : PySem.W.nsIn K mainGlobals "Letter" = some (some (.ref C_Letter))) (cl_Letter : Cls K C_Letter) (me_Letter_form : Meth K C_Letter "form" f_Letter_form) (F_Letter_form : FnOk P w K mg base CX0 1 f_Letter_form fd_Letter_form ["self"] (spD K sp_Letter_form)) (b_Letter_form : Binds K fd_Letter_form ["self"] []) {C_Not : Addr} (aC_Not : PySem.W.nsIn K mainGlobals "Not" = some (some (.ref C_Not))) (cl_Not : Cls K C_Not) (me_Not_form : Meth K C_Not "form" f_Not_form) {C_And : Addr} (aC_And : PySem.W.nsIn K mainGlobals "And" = some (some (.ref C_And))) (cl_And : Cls K C_And) (me_And_form : Meth K C_And "form" f_And_form) {C_Or : Addr} (aC_Or : PySem.W.nsIn K mainGlobals "Or" = some (some (.ref C_Or))) (cl_Or : Cls K C_Or) (me_Or_form : Meth K C_Or "form" f_Or_form) {C_Either : Addr} (aC_Either : PySem.W.nsIn K mainGlobals "Either" = some (some (.ref C_Either))) (cl_Either : Cls K C_Either) (me_Either_form : Meth K C_Either "form" f_Either_form) {f_added : Addr} {fd_added : FuncData} (F_added : FnOk P w K mg base CX0 2 f_added fd_added ["one", "other"] (spD K sp_added)) (b_added : Binds K fd_added ["one", "other"] []) (k_added : PySem.W.keepIn K (.ref f_added) = true) (mg_added : mg "added" = some (.ref f_added)) {f_opposite : Addr} {fd_opposite : FuncData} (F_opposite : FnOk P w K mg base CX0 3 f_opposite fd_opposite ["form"] (spD K sp_opposite)) (b_opposite : Binds K fd_opposite ["form"] []) (k_opposite : PySem.W.keepIn K (.ref f_opposite) = true) (mg_opposite : mg "opposite" = some (.ref f_opposite)) {f_joined : Addr} {fd_joined : FuncData} (F_joined : FnOk P w K mg base CX0 3 f_joined fd_joined ["one", "other"] (spD K sp_joined)) (b_joined : Binds K fd_joined ["one", "other"] []) (k_joined : PySem.W.keepIn K (.ref f_joined) = true) (mg_joined : mg "joined" = some (.ref f_joined)) :
    ∀ n : Nat, FnOk P w K mg base CX0 (4 + n) f_And_form fd_And_form ["self"] (spD K (spr_And_form n)) ∧ FnOk P w K mg base CX0 (4 + n) f_Either_form fd_Either_form ["self"] (spD K (spr_Either_form n)) ∧ FnOk P w K mg base CX0 (4 + n) f_Not_form fd_Not_form ["self"] (spD K (spr_Not_form n)) ∧ FnOk P w K mg base CX0 (4 + n) f_Or_form fd_Or_form ["self"] (spD K (spr_Or_form n))
  | 0 => ⟨FnOk.nothing, FnOk.nothing, FnOk.nothing, FnOk.nothing⟩
  | n + 1 => by
    have ih := okg_And_form (P := P) (w := w) (mg := mg) (base := base) F0_And_form b_And_form F0_Either_form b_Either_form F0_Not_form b_Not_form F0_Or_form b_Or_form F_multiplied b_multiplied k_multiplied mg_multiplied hF_one hF_other aC_Always cl_Always me_Always_form F_Always_form b_Always_form aC_Never cl_Never me_Never_form F_Never_form b_Never_form aC_Letter cl_Letter me_Letter_form F_Letter_form b_Letter_form aC_Not cl_Not me_Not_form aC_And cl_And me_And_form aC_Or cl_Or me_Or_form aC_Either cl_Either me_Either_form F_added b_added k_added mg_added F_opposite b_opposite k_opposite mg_opposite F_joined b_joined k_joined mg_joined n
    obtain ⟨F_And_form, F_Either_form, F_Not_form, F_Or_form⟩ := ih
    have hT_form : ∀ q ∈ Tb_form n, MethOk P w K mg base CX0 (4 + n) "form" q.1 q.2 := (fun q hq => by
      simp only [Tb_form, List.mem_cons, List.not_mem_nil, or_false] at hq
      rcases hq with rfl | rfl | rfl | rfl | rfl | rfl | rfl
      · exact MethOk.of aC_Always cl_Always me_Always_form F_Always_form b_Always_form (by omega)
      · exact MethOk.of aC_Never cl_Never me_Never_form F_Never_form b_Never_form (by omega)
      · exact MethOk.of aC_Letter cl_Letter me_Letter_form F_Letter_form b_Letter_form (by omega)
      · exact MethOk.of aC_Not cl_Not me_Not_form F_Not_form b_Not_form (by omega)
      · exact MethOk.of aC_And cl_And me_And_form F_And_form b_And_form (by omega)
      · exact MethOk.of aC_Or cl_Or me_Or_form F_Or_form b_Or_form (by omega)
      · exact MethOk.of aC_Either cl_Either me_Either_form F_Either_form b_Either_form (by omega)
    )
    show FnOk P w K mg base CX0 ((4 + n) + 1) f_And_form fd_And_form ["self"] (spD K (spr_And_form (n + 1))) ∧ FnOk P w K mg base CX0 ((4 + n) + 1) f_Either_form fd_Either_form ["self"] (spD K (spr_Either_form (n + 1))) ∧ FnOk P w K mg base CX0 ((4 + n) + 1) f_Not_form fd_Not_form ["self"] (spD K (spr_Not_form (n + 1))) ∧ FnOk P w K mg base CX0 ((4 + n) + 1) f_Or_form fd_Or_form ["self"] (spD K (spr_Or_form (n + 1)))
    refine ⟨?_, ?_, ?_, ?_⟩
    · refine fnD F0_And_form sc_And_form (fun ds Q px h => len_And_form h) (fun cdv A outer s H E hr => ⟨_, w_And_form n,
      (dss_one (ds_ret (de_call F_multiplied (hr.mono (by omega)) mg_multiplied k_multiplied b_multiplied pass0 (da_cons (de_meth0 (CX := CX0) (k := (4 + n)) (de_fld (de_var 0) hF_one) hT_form (hr.mono (by omega)) pass0) (da_cons (de_meth0 (CX := CX0) (k := (4 + n)) (de_fld (de_var 0) hF_other) hT_form (hr.mono (by omega)) pass0) da_nil))))), fun ds Q px h => rd_And_form h⟩)
    · refine fnD F0_Either_form sc_Either_form (fun ds Q px h => len_Either_form h) (fun cdv A outer s H E hr => ⟨_, w_Either_form n,
      (dss_one (ds_ret (de_call F_added (hr.mono (by omega)) mg_added k_added b_added pass0 (da_cons (de_meth0 (CX := CX0) (k := (4 + n)) (de_fld (de_var 0) hF_one) hT_form (hr.mono (by omega)) pass0) (da_cons (de_meth0 (CX := CX0) (k := (4 + n)) (de_fld (de_var 0) hF_other) hT_form (hr.mono (by omega)) pass0) da_nil))))), fun ds Q px h => rd_Either_form h⟩)
    · refine fnD F0_Not_form sc_Not_form (fun ds Q px h => len_Not_form h) (fun cdv A outer s H E hr => ⟨_, w_Not_form n,
      (dss_one (ds_ret (de_call F_opposite (hr.mono (by omega)) mg_opposite k_opposite b_opposite pass0 (da_cons (de_meth0 (CX := CX0) (k := (4 + n)) (de_fld (de_var 0) hF_one) hT_form (hr.mono (by omega)) pass0) da_nil)))), fun ds Q px h => rd_Not_form h⟩)
    · refine fnD F0_Or_form sc_Or_form (fun ds Q px h => len_Or_form h) (fun cdv A outer s H E hr => ⟨_, w_Or_form n,
      (dss_one (ds_ret (de_call F_joined (hr.mono (by omega)) mg_joined k_joined b_joined pass0 (da_cons (de_meth0 (CX := CX0) (k := (4 + n)) (de_fld (de_var 0) hF_one) hT_form (hr.mono (by omega)) pass0) (da_cons (de_meth0 (CX := CX0) (k := (4 + n)) (de_fld (de_var 0) hF_other) hT_form (hr.mono (by omega)) pass0) da_nil))))), fun ds Q px h => rd_Or_form h⟩)

abbrev s_Task_init : Stmt := inClass (top 43) 0
theorem sc_Task_init : FnScope N_Task_init ["self", "givens", "gaps", "wishes"] (defScope s_Task_init) := ⟨rfl, rfl, rfl, by decide +kernel, rfl, by decide +kernel, by decide +kernel⟩
set_option maxHeartbeats 4000000 in
theorem ok_Task_init {P : Program} {w : World} {K : PySem.W.Frag} {mg : Str → Option Value} {base : Heap} {f : Addr} {fd : FuncData} (F : Fun K "__init__" "Task.__init__" s_Task_init f fd) {f_is_row : Addr} {fd_is_row : FuncData} (F_is_row : FnOk P w K mg base CX0 1 f_is_row fd_is_row ["letters", "menu"] (spD K sp_is_row)) (b_is_row : Binds K fd_is_row ["letters", "menu"] []) (k_is_row : PySem.W.keepIn K (.ref f_is_row) = true) (mg_is_row : mg "is_row" = some (.ref f_is_row)) {f_wish_of : Addr} {fd_wish_of : FuncData} (F_wish_of : FnOk P w K mg base CX0 126 f_wish_of fd_wish_of ["text", "letters"] (spD K (sp0 sp_wish_of))) (b_wish_of : Binds K fd_wish_of ["text", "letters"] []) (k_wish_of : PySem.W.keepIn K (.ref f_wish_of) = true) (mg_wish_of : mg "wish_of" = some (.ref f_wish_of)) {f_joined : Addr} {fd_joined : FuncData} (F_joined : FnOk P w K mg base CX0 3 f_joined fd_joined ["one", "other"] (spD K sp_joined)) (b_joined : Binds K fd_joined ["one", "other"] []) (k_joined : PySem.W.keepIn K (.ref f_joined) = true) (mg_joined : mg "joined" = some (.ref f_joined)) {f_added : Addr} {fd_added : FuncData} (F_added : FnOk P w K mg base CX0 2 f_added fd_added ["one", "other"] (spD K sp_added)) (b_added : Binds K fd_added ["one", "other"] []) (k_added : PySem.W.keepIn K (.ref f_added) = true) (mg_added : mg "added" = some (.ref f_added)) (hF_kept_fault : ∀ N ∈ (["Task"] : List Str), FldOk K N "kept_fault") (hF_kept_gaps : ∀ N ∈ (["Task"] : List Str), FldOk K N "kept_gaps") (hF_kept_givens : ∀ N ∈ (["Task"] : List Str), FldOk K N "kept_givens") (hF_kept_sides : ∀ N ∈ (["Task"] : List Str), FldOk K N "kept_sides") (hF_kept_wishes : ∀ N ∈ (["Task"] : List Str), FldOk K N "kept_wishes") (hT_form : ∀ q ∈ Tb_form 70, MethOk P w K mg base CX0 74 "form" q.1 q.2) (m_len : mg "len" = none) {T_GAPS : Tok} (gm_GAPS : mg "GAPS" = some (.str "xyz" T_GAPS)) {T_GIVENS : Tok} (gm_GIVENS : mg "GIVENS" = some (.str "abc" T_GIVENS)) {T_MOST_WISHES : Tok} (gm_MOST_WISHES : mg "MOST_WISHES" = some (.int 6 T_MOST_WISHES)) :
    FnOk P w K mg base CX0 127 f fd ["self", "givens", "gaps", "wishes"] (spDI K "Task" (sp0 sp_Task_init)) := by
  refine fnDI F sc_Task_init (by decide) (fun ds Q px h => len_Task_init h) (fun cdv A outer s H E hr => ⟨_, w_Task_init (fun _ _ => False),
    (dss_cons (ds_if ((dw_or (dt_not (dt_val (de_call F_is_row (hr.mono (by decide)) mg_is_row k_is_row b_is_row pass0 (da_cons (de_var 1) (da_cons (de_glob (v := .str "abc") (by rfl) gm_GIVENS (by exact ⟨_, rfl⟩) (by exact fun _ => rfl)) da_nil))))) (dw_or1 (dt_not (dt_val (de_call F_is_row (hr.mono (by decide)) mg_is_row k_is_row b_is_row pass0 (da_cons (de_var 2) (da_cons (de_glob (v := .str "xyz") (by rfl) gm_GAPS (by exact ⟨_, rfl⟩) (by exact fun _ => rfl)) da_nil))))))).dt) (dss_one ds_noR) dss_nil)
    (dss_cons (ds_if (dt_gtX hr.units (de_len m_len (de_var 3)) (de_glob (v := .int 6) (by rfl) gm_MOST_WISHES (by exact ⟨_, rfl⟩) (by exact fun _ => rfl))) (dss_one ds_noR) dss_nil)
    (dss_cons (ds_sfld 0 hF_kept_givens (de_var 1))
    (dss_cons (ds_sfld 0 hF_kept_gaps (de_var 2))
    (dss_cons (ds_sfld 0 hF_kept_wishes (de_lc (own := [("wish", 4)]) rfl sc_Task_init.nd (di_X (de_var 3)) (show BlkOk N_Task_init (defScope s_Task_init) _ [("wish", 4)] from ⟨rfl, by decide +kernel, by decide +kernel, by decide +kernel, by decide +kernel⟩) (fun _ _ _ _ _ => (dgb_name 4 sc_Task_init.nd)) (fun _ _ _ _ _ => dts_nil) (fun _ _ _ _ _ => (de_callN F_wish_of (hr.mono (by decide)) mg_wish_of k_wish_of b_wish_of pass0 (da_cons (de_var 4) (da_cons (de_plus (de_var 1) (de_var 2)) da_nil))))))
    (dss_cons (ds_sfld 0 hF_kept_sides (de_lc (own := [("one", 5), ("other", 6)]) rfl sc_Task_init.nd (di_X (de_ofld 0 hF_kept_wishes)) (show BlkOk N_Task_init (defScope s_Task_init) _ [("one", 5), ("other", 6)] from ⟨rfl, by decide +kernel, by decide +kernel, by decide +kernel, by decide +kernel⟩) (fun _ _ _ _ _ => (dgb_tup rfl (dgbs_cons (dgb_name 5 sc_Task_init.nd) (dgbs_cons (dgb_name 6 sc_Task_init.nd) dgbs_nil)))) (fun _ _ _ _ _ => dts_nil) (fun _ _ _ _ _ => (de_tup (da_cons (de_meth0 (CX := CX0) (k := 74) (de_var 5) hT_form (hr.mono (by decide)) pass0) (da_cons (de_meth0 (CX := CX0) (k := 74) (de_var 6) hT_form (hr.mono (by decide)) pass0) da_nil))))))
    (dss_cons (ds_sfld 0 hF_kept_fault (de_tup da_nil))
    (dss_one (ds_for PassesOwn.never rfl (di_X (de_ofld 0 hF_kept_sides)) (dg_tup rfl (dgs_cons (dg_name 5 sc_Task_init.nd) (dgs_cons (dg_name 6 sc_Task_init.nd) dgs_nil))) (dss_one (ds_sfld 0 hF_kept_fault (de_call F_joined (hr.mono (by decide)) mg_joined k_joined b_joined pass0 (da_cons (de_ofld 0 hF_kept_fault) (da_cons (de_call F_added (hr.mono (by decide)) mg_added k_added b_added pass0 (da_cons (de_var 5) (da_cons (de_var 6) da_nil))) da_nil)))))))))))))), fun a ds Q px h => rd_Task_init h⟩)

abbrev s_law : Stmt := top 58
theorem sc_law : FnScope N_law ["_law_script"] (defScope s_law) := ⟨rfl, rfl, rfl, by decide +kernel, rfl, by decide +kernel, by decide +kernel⟩
set_option maxHeartbeats 4000000 in
theorem ok_law {P : Program} {w : World} {K : PySem.W.Frag} {mg : Str → Option Value} {base : Heap} {f : Addr} {fd : FuncData} (F : Fun K "law" "law" s_law f fd) {f_L_letters_2d2 : Addr} {fd_L_letters_2d2 : FuncData} (F_L_letters_2d2 : FnOk P w K mg base CX0 2 f_L_letters_2d2 fd_L_letters_2d2 ["_law_script"] (spD K sp_L_letters_2d2)) (b_L_letters_2d2 : Binds K fd_L_letters_2d2 ["_law_script"] []) (k_L_letters_2d2 : PySem.W.keepIn K (.ref f_L_letters_2d2) = true) (mg_L_letters_2d2 : mg "_law_letters" = some (.ref f_L_letters_2d2)) {f_L_wishes_a27 : Addr} {fd_L_wishes_a27 : FuncData} (F_L_wishes_a27 : FnOk P w K mg base CX0 3 f_L_wishes_a27 fd_L_wishes_a27 ["_law_script", "_law_letters_here", "_law_most", "_law_many"] (spD K sp_L_wishes_a27)) (b_L_wishes_a27 : Binds K fd_L_wishes_a27 ["_law_script", "_law_letters_here", "_law_most", "_law_many"] []) (k_L_wishes_a27 : PySem.W.keepIn K (.ref f_L_wishes_a27) = true) (mg_L_wishes_a27 : mg "_law_wishes" = some (.ref f_L_wishes_a27)) {f_L_mixed_47c : Addr} {fd_L_mixed_47c : FuncData} (F_L_mixed_47c : FnOk P w K mg base CX0 1 f_L_mixed_47c fd_L_mixed_47c ["_law_script", "_law_k"] (spD K sp_L_mixed_47c)) (b_L_mixed_47c : Binds K fd_L_mixed_47c ["_law_script", "_law_k"] []) (k_L_mixed_47c : PySem.W.keepIn K (.ref f_L_mixed_47c) = true) (mg_L_mixed_47c : mg "_law_mixed" = some (.ref f_L_mixed_47c)) {f_L_written_ba0 : Addr} {fd_L_written_ba0 : FuncData} (F_L_written_ba0 : FnOk P w K mg base CX0 72 f_L_written_ba0 fd_L_written_ba0 ["_law_wishes_here"] (spD K sp_L_written_ba0)) (b_L_written_ba0 : Binds K fd_L_written_ba0 ["_law_wishes_here"] []) (k_L_written_ba0 : PySem.W.keepIn K (.ref f_L_written_ba0) = true) (mg_L_written_ba0 : mg "_law_written" = some (.ref f_L_written_ba0)) {f_L_rows_2f4 : Addr} {fd_L_rows_2f4 : FuncData} (F_L_rows_2f4 : FnOk P w K mg base CX0 2 f_L_rows_2f4 fd_L_rows_2f4 ["_law_letters_here"] (spD K sp_L_rows_2f4)) (b_L_rows_2f4 : Binds K fd_L_rows_2f4 ["_law_letters_here"] []) (k_L_rows_2f4 : PySem.W.keepIn K (.ref f_L_rows_2f4) = true) (mg_L_rows_2f4 : mg "_law_rows" = some (.ref f_L_rows_2f4)) {f_L_failing_f34 : Addr} {fd_L_failing_f34 : FuncData} (F_L_failing_f34 : FnOk P w K mg base CX0 72 f_L_failing_f34 fd_L_failing_f34 ["_law_wishes_here", "_law_row_here"] (spD K sp_L_failing_f34)) (b_L_failing_f34 : Binds K fd_L_failing_f34 ["_law_wishes_here", "_law_row_here"] []) (k_L_failing_f34 : PySem.W.keepIn K (.ref f_L_failing_f34) = true) (mg_L_failing_f34 : mg "_law_failing" = some (.ref f_L_failing_f34)) {f_L_form_9d6 : Addr} {fd_L_form_9d6 : FuncData} (F_L_form_9d6 : FnOk P w K mg base CX0 2 f_L_form_9d6 fd_L_form_9d6 ["_law_letters_here", "_law_table"] (spD K sp_L_form_9d6)) (b_L_form_9d6 : Binds K fd_L_form_9d6 ["_law_letters_here", "_law_table"] []) (k_L_form_9d6 : PySem.W.keepIn K (.ref f_L_form_9d6) = true) (mg_L_form_9d6 : mg "_law_form" = some (.ref f_L_form_9d6)) {f_L_form_like_5d5 : Addr} {fd_L_form_like_5d5 : FuncData} (F_L_form_like_5d5 : FnOk P w K mg base CX0 1 f_L_form_like_5d5 fd_L_form_like_5d5 ["_law_found", "_law_letters_here"] (spD K sp_L_form_like_5d5)) (b_L_form_like_5d5 : Binds K fd_L_form_like_5d5 ["_law_found", "_law_letters_here"] []) (k_L_form_like_5d5 : PySem.W.keepIn K (.ref f_L_form_like_5d5) = true) (mg_L_form_like_5d5 : mg "_law_form_like" = some (.ref f_L_form_like_5d5)) {C_Task : Addr} (aC_Task : PySem.W.nsIn K mainGlobals "Task" = some (some (.ref C_Task))) (gC_Task : mg "Task" = some (.ref C_Task)) {f_Task_init : Addr} {fd_Task_init : FuncData} (M_Task : Mk K C_Task f_Task_init) (FI_Task : FnOk P w K mg base CX0 127 f_Task_init fd_Task_init ["self", "givens", "gaps", "wishes"] (spDI K "Task" (sp0 sp_Task_init))) (b_Task_init : Binds K fd_Task_init ["self", "givens", "gaps", "wishes"] []) (hT_fault : ∀ q ∈ Tb_fault 70, MethOk P w K mg base CX0 1 "fault" q.1 q.2) (m_len : mg "len" = none) :
    FnOk P w K mg base CX0 129 f fd ["_law_script"] (spD K sp_law) := by
  refine fnD F sc_law (fun ds Q px h => len_law h) (fun cdv A outer s H E hr => ⟨_, w_law,
    (dss_cons (ds_asg (de_call F_L_letters_2d2 (hr.mono (by decide)) mg_L_letters_2d2 k_L_letters_2d2 b_L_letters_2d2 pass0 (da_cons (de_var 0) da_nil)) (dg_tup rfl (dgs_cons (dg_name 1 sc_law.nd) (dgs_cons (dg_name 2 sc_law.nd) dgs_nil))))
    (dss_cons (ds_asg (de_plus (de_var 1) (de_var 2)) (dg_name 3 sc_law.nd))
    (dss_cons (ds_asg (de_call F_L_wishes_a27 (hr.mono (by decide)) mg_L_wishes_a27 k_L_wishes_a27 b_L_wishes_a27 pass0 (da_cons (de_var 0) (da_cons (de_var 3) (da_cons (de_sub de_int (de_mul (de_div (de_len m_len (de_var 3)) de_int) de_int)) (da_cons de_int da_nil))))) (dg_name 4 sc_law.nd))
    (dss_cons (ds_if (dt_eqX hr.units (de_mod (de_call F_L_mixed_47c (hr.mono (by decide)) mg_L_mixed_47c k_L_mixed_47c b_L_mixed_47c pass0 (da_cons (de_var 0) (da_cons de_int da_nil))) de_int) de_int) (dss_one (ds_asg (de_lc (own := [("_law_left", 5), ("_law_right", 6)]) rfl sc_law.nd (di_X (de_var 4)) (show BlkOk N_law (defScope s_law) _ [("_law_left", 5), ("_law_right", 6)] from ⟨rfl, by decide +kernel, by decide +kernel, by decide +kernel, by decide +kernel⟩) (fun _ _ _ _ _ => (dgb_tup rfl (dgbs_cons (dgb_name 5 sc_law.nd) (dgbs_cons (dgb_name 6 sc_law.nd) dgbs_nil)))) (fun _ _ _ _ _ => dts_nil) (fun _ _ _ _ _ => (de_tup (da_cons (de_var 5) (da_cons (de_var 5) da_nil))))) (dg_name 4 sc_law.nd))) dss_nil)
    (dss_cons (ds_asg (de_meth0 (CX := CX0) (k := 1) (de_mkN aC_Task M_Task FI_Task (hr.mono (by decide)) gC_Task b_Task_init pass0 (da_cons (de_var 1) (da_cons (de_var 2) (da_cons (de_call F_L_written_ba0 (hr.mono (by decide)) mg_L_written_ba0 k_L_written_ba0 b_L_written_ba0 pass0 (da_cons (de_var 4) da_nil)) da_nil)))) hT_fault (hr.mono (by decide)) pass0) (dg_name 7 sc_law.nd))
    (dss_cons (ds_asgLc 8 (own := [("_law_row_here", 9)]) rfl sc_law.nd (di_X (de_call F_L_rows_2f4 (hr.mono (by decide)) mg_L_rows_2f4 k_L_rows_2f4 b_L_rows_2f4 pass0 (da_cons (de_var 3) da_nil))) (show BlkOk N_law (defScope s_law) _ [("_law_row_here", 9)] from ⟨rfl, by decide +kernel, by decide +kernel, by decide +kernel, by decide +kernel⟩) (fun _ _ _ _ _ => (dgb_name 9 sc_law.nd)) (fun _ _ _ _ _ => dts_nil) (fun _ _ _ _ _ => (de_gtX hr.units (de_len m_len (de_call F_L_failing_f34 (hr.mono (by decide)) mg_L_failing_f34 k_L_failing_f34 b_L_failing_f34 pass0 (da_cons (de_var 4) (da_cons (de_var 9) da_nil)))) de_int)))
    (dss_one (ds_ret (de_and (de_call F_L_form_like_5d5 (hr.mono (by decide)) mg_L_form_like_5d5 k_L_form_like_5d5 b_L_form_like_5d5 pass0 (da_cons (de_var 7) (da_cons (de_var 3) da_nil))) (de_one (de_eqX hr.units (de_var 7) (de_call F_L_form_9d6 (hr.mono (by decide)) mg_L_form_9d6 k_L_form_9d6 b_L_form_9d6 pass0 (da_cons (de_var 3) (da_cons (de_var 8) da_nil)))))))))))))), fun ds Q px h => rd_law h⟩)

set_option maxHeartbeats 8000000 in
theorem all_mk {l : PySem.W.OpenLaw} {w : World} {K : PySem.W.Frag} {h : Heap} {mg : Str → Option Value} {fa : Addr} (X : K.In h) (G : h.Ns mainGlobals mg) (hfa : mg "law" = some (.ref fa))
    {C_Always : Addr}
    {C_And : Addr}
    {C_Either : Addr}
    {C_Letter : Addr}
    {C_Never : Addr}
    {C_Not : Addr}
    {C_Or : Addr}
    {C_Task : Addr}
    {f1 : Addr} {od1 an1 : Option Addr} {sl1 : Array (Option Value)} {oc1 kV1 dc1 pm1 cd1 ct1 : Value}
    {f2 : Addr} {od2 an2 : Option Addr} {sl2 : Array (Option Value)} {oc2 kV2 dc2 pm2 cd2 ct2 : Value}
    {f3 : Addr} {od3 an3 : Option Addr} {sl3 : Array (Option Value)} {oc3 kV3 dc3 pm3 cd3 ct3 : Value}
    {f4 : Addr} {od4 an4 : Option Addr} {sl4 : Array (Option Value)} {oc4 kV4 dc4 pm4 cd4 ct4 : Value}
    {f5 : Addr} {od5 an5 : Option Addr} {sl5 : Array (Option Value)} {oc5 kV5 dc5 pm5 cd5 ct5 : Value}
    {f6 : Addr} {od6 an6 : Option Addr} {sl6 : Array (Option Value)} {oc6 kV6 dc6 pm6 cd6 ct6 : Value}
    {f7 : Addr} {od7 an7 : Option Addr} {sl7 : Array (Option Value)} {oc7 kV7 dc7 pm7 cd7 ct7 : Value}
    {f8 : Addr} {od8 an8 : Option Addr} {sl8 : Array (Option Value)} {oc8 kV8 dc8 pm8 cd8 ct8 : Value}
    {f9 : Addr} {od9 an9 : Option Addr} {sl9 : Array (Option Value)} {oc9 kV9 dc9 pm9 cd9 ct9 : Value}
    {f10 : Addr} {od10 an10 : Option Addr} {sl10 : Array (Option Value)} {oc10 kV10 dc10 pm10 cd10 ct10 : Value}
    {f11 : Addr} {od11 an11 : Option Addr} {sl11 : Array (Option Value)} {oc11 kV11 dc11 pm11 cd11 ct11 : Value}
    {f12 : Addr} {od12 an12 : Option Addr} {sl12 : Array (Option Value)} {oc12 kV12 dc12 pm12 cd12 ct12 : Value}
    {f13 : Addr} {od13 an13 : Option Addr} {sl13 : Array (Option Value)} {oc13 kV13 dc13 pm13 cd13 ct13 : Value}
    {f14 : Addr} {od14 an14 : Option Addr} {sl14 : Array (Option Value)} {oc14 kV14 dc14 pm14 cd14 ct14 : Value}
    {f15 : Addr} {od15 an15 : Option Addr} {sl15 : Array (Option Value)} {oc15 kV15 dc15 pm15 cd15 ct15 : Value}
    {f16 : Addr} {od16 an16 : Option Addr} {sl16 : Array (Option Value)} {oc16 kV16 dc16 pm16 cd16 ct16 : Value}
    {f17 : Addr} {od17 an17 : Option Addr} {sl17 : Array (Option Value)} {oc17 kV17 dc17 pm17 cd17 ct17 : Value}
    {f18 : Addr} {od18 an18 : Option Addr} {sl18 : Array (Option Value)} {oc18 kV18 dc18 pm18 cd18 ct18 : Value}
    {f19 : Addr} {od19 an19 : Option Addr} {sl19 : Array (Option Value)} {oc19 kV19 dc19 pm19 cd19 ct19 : Value}
    {f20 : Addr} {od20 an20 : Option Addr} {sl20 : Array (Option Value)} {oc20 kV20 dc20 pm20 cd20 ct20 : Value}
    {f21 : Addr} {od21 an21 : Option Addr} {sl21 : Array (Option Value)} {oc21 kV21 dc21 pm21 cd21 ct21 : Value}
    {f22 : Addr} {od22 an22 : Option Addr} {sl22 : Array (Option Value)} {oc22 kV22 dc22 pm22 cd22 ct22 : Value}
    {f23 : Addr} {od23 an23 : Option Addr} {sl23 : Array (Option Value)} {oc23 kV23 dc23 pm23 cd23 ct23 : Value}
    {f24 : Addr} {od24 an24 : Option Addr} {sl24 : Array (Option Value)} {oc24 kV24 dc24 pm24 cd24 ct24 : Value}
    {f25 : Addr} {od25 an25 : Option Addr} {sl25 : Array (Option Value)} {oc25 kV25 dc25 pm25 cd25 ct25 : Value}
    {f26 : Addr} {od26 an26 : Option Addr} {sl26 : Array (Option Value)} {oc26 kV26 dc26 pm26 cd26 ct26 : Value}
    {f27 : Addr} {od27 an27 : Option Addr} {sl27 : Array (Option Value)} {oc27 kV27 dc27 pm27 cd27 ct27 : Value}
    {f28 : Addr} {od28 an28 : Option Addr} {sl28 : Array (Option Value)} {oc28 kV28 dc28 pm28 cd28 ct28 : Value}
    {f29 : Addr} {od29 an29 : Option Addr} {sl29 : Array (Option Value)} {oc29 kV29 dc29 pm29 cd29 ct29 : Value}
    {f30 : Addr} {od30 an30 : Option Addr} {sl30 : Array (Option Value)} {oc30 kV30 dc30 pm30 cd30 ct30 : Value}
    {f31 : Addr} {od31 an31 : Option Addr} {sl31 : Array (Option Value)} {oc31 kV31 dc31 pm31 cd31 ct31 : Value}
    {f32 : Addr} {od32 an32 : Option Addr} {sl32 : Array (Option Value)} {oc32 kV32 dc32 pm32 cd32 ct32 : Value}
    {f33 : Addr} {od33 an33 : Option Addr} {sl33 : Array (Option Value)} {oc33 kV33 dc33 pm33 cd33 ct33 : Value}
    {f34 : Addr} {od34 an34 : Option Addr} {sl34 : Array (Option Value)} {oc34 kV34 dc34 pm34 cd34 ct34 : Value}
    {f35 : Addr} {od35 an35 : Option Addr} {sl35 : Array (Option Value)} {oc35 kV35 dc35 pm35 cd35 ct35 : Value}
    {f36 : Addr} {od36 an36 : Option Addr} {sl36 : Array (Option Value)} {oc36 kV36 dc36 pm36 cd36 ct36 : Value}
    {f37 : Addr} {od37 an37 : Option Addr} {sl37 : Array (Option Value)} {oc37 kV37 dc37 pm37 cd37 ct37 : Value}
    {f38 : Addr} {od38 an38 : Option Addr} {sl38 : Array (Option Value)} {oc38 kV38 dc38 pm38 cd38 ct38 : Value}
    {f39 : Addr} {od39 an39 : Option Addr} {sl39 : Array (Option Value)} {oc39 kV39 dc39 pm39 cd39 ct39 : Value}
    {f40 : Addr} {od40 an40 : Option Addr} {sl40 : Array (Option Value)} {oc40 kV40 dc40 pm40 cd40 ct40 : Value}
    {f41 : Addr} {od41 an41 : Option Addr} {sl41 : Array (Option Value)} {oc41 kV41 dc41 pm41 cd41 ct41 : Value}
    {f42 : Addr} {od42 an42 : Option Addr} {sl42 : Array (Option Value)} {oc42 kV42 dc42 pm42 cd42 ct42 : Value}
    {f43 : Addr} {od43 an43 : Option Addr} {sl43 : Array (Option Value)} {oc43 kV43 dc43 pm43 cd43 ct43 : Value}
    {f44 : Addr} {od44 an44 : Option Addr} {sl44 : Array (Option Value)} {oc44 kV44 dc44 pm44 cd44 ct44 : Value}
    {T_GAPS : Tok}
    {T_GIVENS : Tok}
    {T_LETTERS_texts : Tok}
    {T_LETTERS_wishes : Tok}
    {T_MOST_PARTS : Tok}
    {T_MOST_WISHES : Tok}
    (a1 : PySem.W.nsIn K mainGlobals "_law_mixed" = some (some (.ref f1)))
    (a2 : PySem.W.nsIn K mainGlobals "_law_letters" = some (some (.ref f2)))
    (a3 : PySem.W.nsIn K mainGlobals "_law_leaf" = some (some (.ref f3)))
    (a4 : PySem.W.nsIn K mainGlobals "_law_tree" = some (some (.ref f4)))
    (a5 : PySem.W.nsIn K mainGlobals "_law_wishes" = some (some (.ref f5)))
    (a6 : PySem.W.nsIn K mainGlobals "_law_text" = some (some (.ref f6)))
    (a7 : PySem.W.nsIn K mainGlobals "_law_written" = some (some (.ref f7)))
    (a8 : PySem.W.nsIn K mainGlobals "_law_row" = some (some (.ref f8)))
    (a9 : PySem.W.nsIn K mainGlobals "_law_rows" = some (some (.ref f9)))
    (a10 : PySem.W.nsIn K mainGlobals "_law_truth" = some (some (.ref f10)))
    (a11 : PySem.W.nsIn K mainGlobals "_law_failing" = some (some (.ref f11)))
    (a12 : PySem.W.nsIn K mainGlobals "_law_form" = some (some (.ref f12)))
    (a13 : PySem.W.nsIn K mainGlobals "_law_form_like" = some (some (.ref f13)))
    (a15 : PySem.W.nsIn K mainGlobals "is_row" = some (some (.ref f15)))
    (a16 : PySem.W.nsIn K mainGlobals "sign_at" = some (some (.ref f16)))
    (a20 : PySem.W.nsIn K mainGlobals "pair_of" = some (some (.ref f20)))
    (a21 : PySem.W.nsIn K mainGlobals "read_from" = some (some (.ref f21)))
    (a22 : PySem.W.nsIn K mainGlobals "read_pair" = some (some (.ref f22)))
    (a23 : PySem.W.nsIn K mainGlobals "read" = some (some (.ref f23)))
    (a29 : PySem.W.nsIn K mainGlobals "wish_of" = some (some (.ref f29)))
    (a30 : PySem.W.nsIn K mainGlobals "gathered" = some (some (.ref f30)))
    (a31 : PySem.W.nsIn K mainGlobals "added" = some (some (.ref f31)))
    (a32 : PySem.W.nsIn K mainGlobals "both_letters" = some (some (.ref f32)))
    (a33 : PySem.W.nsIn K mainGlobals "multiplied" = some (some (.ref f33)))
    (a34 : PySem.W.nsIn K mainGlobals "joined" = some (some (.ref f34)))
    (a38 : PySem.W.nsIn K mainGlobals "opposite" = some (some (.ref f38)))
    (a44 : PySem.W.nsIn K mainGlobals "law" = some (some (.ref f44)))
    (aC_Always : PySem.W.nsIn K mainGlobals "Always" = some (some (.ref C_Always)))
    (fi_Always : PySem.W.findIn K (.ref C_Always) "__init__" = some (some (.builtin "object.__init__")))
    (fm_Always_form : PySem.W.findIn K (.ref C_Always) "form" = some (some (.ref f35)))
    (fm_Always_size : PySem.W.findIn K (.ref C_Always) "size" = some (some (.ref f24)))
    (aC_And : PySem.W.nsIn K mainGlobals "And" = some (some (.ref C_And)))
    (fi_And : PySem.W.findIn K (.ref C_And) "__init__" = some (some (.ref f19)))
    (fm_And_form : PySem.W.findIn K (.ref C_And) "form" = some (some (.ref f39)))
    (fm_And_size : PySem.W.findIn K (.ref C_And) "size" = some (some (.ref f28)))
    (aC_Either : PySem.W.nsIn K mainGlobals "Either" = some (some (.ref C_Either)))
    (fi_Either : PySem.W.findIn K (.ref C_Either) "__init__" = some (some (.ref f19)))
    (fm_Either_form : PySem.W.findIn K (.ref C_Either) "form" = some (some (.ref f40)))
    (fm_Either_size : PySem.W.findIn K (.ref C_Either) "size" = some (some (.ref f28)))
    (aC_Letter : PySem.W.nsIn K mainGlobals "Letter" = some (some (.ref C_Letter)))
    (fi_Letter : PySem.W.findIn K (.ref C_Letter) "__init__" = some (some (.ref f17)))
    (fm_Letter_form : PySem.W.findIn K (.ref C_Letter) "form" = some (some (.ref f37)))
    (fm_Letter_size : PySem.W.findIn K (.ref C_Letter) "size" = some (some (.ref f26)))
    (aC_Never : PySem.W.nsIn K mainGlobals "Never" = some (some (.ref C_Never)))
    (fi_Never : PySem.W.findIn K (.ref C_Never) "__init__" = some (some (.builtin "object.__init__")))
    (fm_Never_form : PySem.W.findIn K (.ref C_Never) "form" = some (some (.ref f36)))
    (fm_Never_size : PySem.W.findIn K (.ref C_Never) "size" = some (some (.ref f25)))
    (aC_Not : PySem.W.nsIn K mainGlobals "Not" = some (some (.ref C_Not)))
    (fi_Not : PySem.W.findIn K (.ref C_Not) "__init__" = some (some (.ref f18)))
    (fm_Not_form : PySem.W.findIn K (.ref C_Not) "form" = some (some (.ref f41)))
    (fm_Not_size : PySem.W.findIn K (.ref C_Not) "size" = some (some (.ref f27)))
    (aC_Or : PySem.W.nsIn K mainGlobals "Or" = some (some (.ref C_Or)))
    (fi_Or : PySem.W.findIn K (.ref C_Or) "__init__" = some (some (.ref f19)))
    (fm_Or_form : PySem.W.findIn K (.ref C_Or) "form" = some (some (.ref f42)))
    (fm_Or_size : PySem.W.findIn K (.ref C_Or) "size" = some (some (.ref f28)))
    (aC_Task : PySem.W.nsIn K mainGlobals "Task" = some (some (.ref C_Task)))
    (fi_Task : PySem.W.findIn K (.ref C_Task) "__init__" = some (some (.ref f43)))
    (fm_Task_fault : PySem.W.findIn K (.ref C_Task) "fault" = some (some (.ref f14)))
    (l1 : K.lookup f1 = some ⟨oc1, od1, .func (PySem.W.fnOf "_law_mixed" "_law_mixed" (defArgs s_L_mixed_47c) (defBody s_L_mixed_47c) (defScope s_L_mixed_47c) .none kV1 dc1 pm1 an1 cd1 ct1), sl1⟩) (c1 : PySem.W.codeIn K cd1 "_law_mixed" = true) (k1 : PySem.W.keepIn K (.ref f1) = true)
    (l2 : K.lookup f2 = some ⟨oc2, od2, .func (PySem.W.fnOf "_law_letters" "_law_letters" (defArgs s_L_letters_2d2) (defBody s_L_letters_2d2) (defScope s_L_letters_2d2) .none kV2 dc2 pm2 an2 cd2 ct2), sl2⟩) (c2 : PySem.W.codeIn K cd2 "_law_letters" = true) (k2 : PySem.W.keepIn K (.ref f2) = true)
    (l3 : K.lookup f3 = some ⟨oc3, od3, .func (PySem.W.fnOf "_law_leaf" "_law_leaf" (defArgs s_L_leaf_2f7) (defBody s_L_leaf_2f7) (defScope s_L_leaf_2f7) .none kV3 dc3 pm3 an3 cd3 ct3), sl3⟩) (c3 : PySem.W.codeIn K cd3 "_law_leaf" = true) (k3 : PySem.W.keepIn K (.ref f3) = true)
    (l4 : K.lookup f4 = some ⟨oc4, od4, .func (PySem.W.fnOf "_law_tree" "_law_tree" (defArgs s_L_tree_21f) (defBody s_L_tree_21f) (defScope s_L_tree_21f) .none kV4 dc4 pm4 an4 cd4 ct4), sl4⟩) (c4 : PySem.W.codeIn K cd4 "_law_tree" = true) (k4 : PySem.W.keepIn K (.ref f4) = true)
    (l5 : K.lookup f5 = some ⟨oc5, od5, .func (PySem.W.fnOf "_law_wishes" "_law_wishes" (defArgs s_L_wishes_a27) (defBody s_L_wishes_a27) (defScope s_L_wishes_a27) .none kV5 dc5 pm5 an5 cd5 ct5), sl5⟩) (c5 : PySem.W.codeIn K cd5 "_law_wishes" = true) (k5 : PySem.W.keepIn K (.ref f5) = true)
    (l6 : K.lookup f6 = some ⟨oc6, od6, .func (PySem.W.fnOf "_law_text" "_law_text" (defArgs s_L_text_16f) (defBody s_L_text_16f) (defScope s_L_text_16f) .none kV6 dc6 pm6 an6 cd6 ct6), sl6⟩) (c6 : PySem.W.codeIn K cd6 "_law_text" = true) (k6 : PySem.W.keepIn K (.ref f6) = true)
    (l7 : K.lookup f7 = some ⟨oc7, od7, .func (PySem.W.fnOf "_law_written" "_law_written" (defArgs s_L_written_ba0) (defBody s_L_written_ba0) (defScope s_L_written_ba0) .none kV7 dc7 pm7 an7 cd7 ct7), sl7⟩) (c7 : PySem.W.codeIn K cd7 "_law_written" = true) (k7 : PySem.W.keepIn K (.ref f7) = true)
    (l8 : K.lookup f8 = some ⟨oc8, od8, .func (PySem.W.fnOf "_law_row" "_law_row" (defArgs s_L_row_c72) (defBody s_L_row_c72) (defScope s_L_row_c72) .none kV8 dc8 pm8 an8 cd8 ct8), sl8⟩) (c8 : PySem.W.codeIn K cd8 "_law_row" = true) (k8 : PySem.W.keepIn K (.ref f8) = true)
    (l9 : K.lookup f9 = some ⟨oc9, od9, .func (PySem.W.fnOf "_law_rows" "_law_rows" (defArgs s_L_rows_2f4) (defBody s_L_rows_2f4) (defScope s_L_rows_2f4) .none kV9 dc9 pm9 an9 cd9 ct9), sl9⟩) (c9 : PySem.W.codeIn K cd9 "_law_rows" = true) (k9 : PySem.W.keepIn K (.ref f9) = true)
    (l10 : K.lookup f10 = some ⟨oc10, od10, .func (PySem.W.fnOf "_law_truth" "_law_truth" (defArgs s_L_truth_64c) (defBody s_L_truth_64c) (defScope s_L_truth_64c) .none kV10 dc10 pm10 an10 cd10 ct10), sl10⟩) (c10 : PySem.W.codeIn K cd10 "_law_truth" = true) (k10 : PySem.W.keepIn K (.ref f10) = true)
    (l11 : K.lookup f11 = some ⟨oc11, od11, .func (PySem.W.fnOf "_law_failing" "_law_failing" (defArgs s_L_failing_f34) (defBody s_L_failing_f34) (defScope s_L_failing_f34) .none kV11 dc11 pm11 an11 cd11 ct11), sl11⟩) (c11 : PySem.W.codeIn K cd11 "_law_failing" = true) (k11 : PySem.W.keepIn K (.ref f11) = true)
    (l12 : K.lookup f12 = some ⟨oc12, od12, .func (PySem.W.fnOf "_law_form" "_law_form" (defArgs s_L_form_9d6) (defBody s_L_form_9d6) (defScope s_L_form_9d6) .none kV12 dc12 pm12 an12 cd12 ct12), sl12⟩) (c12 : PySem.W.codeIn K cd12 "_law_form" = true) (k12 : PySem.W.keepIn K (.ref f12) = true)
    (l13 : K.lookup f13 = some ⟨oc13, od13, .func (PySem.W.fnOf "_law_form_like" "_law_form_like" (defArgs s_L_form_like_5d5) (defBody s_L_form_like_5d5) (defScope s_L_form_like_5d5) .none kV13 dc13 pm13 an13 cd13 ct13), sl13⟩) (c13 : PySem.W.codeIn K cd13 "_law_form_like" = true) (k13 : PySem.W.keepIn K (.ref f13) = true)
    (l14 : K.lookup f14 = some ⟨oc14, od14, .func (PySem.W.fnOf "fault" "Task.fault" (defArgs s_Task_fault) (defBody s_Task_fault) (defScope s_Task_fault) .none kV14 dc14 pm14 an14 cd14 ct14), sl14⟩) (c14 : PySem.W.codeIn K cd14 "Task.fault" = true) (k14 : PySem.W.keepIn K (.ref f14) = true)
    (i14 : PySem.W.isFn K (.ref f14) = true)
    (l15 : K.lookup f15 = some ⟨oc15, od15, .func (PySem.W.fnOf "is_row" "is_row" (defArgs s_is_row) (defBody s_is_row) (defScope s_is_row) .none kV15 dc15 pm15 an15 cd15 ct15), sl15⟩) (c15 : PySem.W.codeIn K cd15 "is_row" = true) (k15 : PySem.W.keepIn K (.ref f15) = true)
    (l16 : K.lookup f16 = some ⟨oc16, od16, .func (PySem.W.fnOf "sign_at" "sign_at" (defArgs s_sign_at) (defBody s_sign_at) (defScope s_sign_at) .none kV16 dc16 pm16 an16 cd16 ct16), sl16⟩) (c16 : PySem.W.codeIn K cd16 "sign_at" = true) (k16 : PySem.W.keepIn K (.ref f16) = true)
    (l17 : K.lookup f17 = some ⟨oc17, od17, .func (PySem.W.fnOf "__init__" "Letter.__init__" (defArgs s_Letter_init) (defBody s_Letter_init) (defScope s_Letter_init) .none kV17 dc17 pm17 an17 cd17 ct17), sl17⟩) (c17 : PySem.W.codeIn K cd17 "Letter.__init__" = true) (k17 : PySem.W.keepIn K (.ref f17) = true)
    (i17 : PySem.W.isFn K (.ref f17) = true)
    (l18 : K.lookup f18 = some ⟨oc18, od18, .func (PySem.W.fnOf "__init__" "Not.__init__" (defArgs s_Not_init) (defBody s_Not_init) (defScope s_Not_init) .none kV18 dc18 pm18 an18 cd18 ct18), sl18⟩) (c18 : PySem.W.codeIn K cd18 "Not.__init__" = true) (k18 : PySem.W.keepIn K (.ref f18) = true)
    (i18 : PySem.W.isFn K (.ref f18) = true)
    (l19 : K.lookup f19 = some ⟨oc19, od19, .func (PySem.W.fnOf "__init__" "Pair.__init__" (defArgs s_Pair_init) (defBody s_Pair_init) (defScope s_Pair_init) .none kV19 dc19 pm19 an19 cd19 ct19), sl19⟩) (c19 : PySem.W.codeIn K cd19 "Pair.__init__" = true) (k19 : PySem.W.keepIn K (.ref f19) = true)
    (i19 : PySem.W.isFn K (.ref f19) = true)
    (l20 : K.lookup f20 = some ⟨oc20, od20, .func (PySem.W.fnOf "pair_of" "pair_of" (defArgs s_pair_of) (defBody s_pair_of) (defScope s_pair_of) .none kV20 dc20 pm20 an20 cd20 ct20), sl20⟩) (c20 : PySem.W.codeIn K cd20 "pair_of" = true) (k20 : PySem.W.keepIn K (.ref f20) = true)
    (l21 : K.lookup f21 = some ⟨oc21, od21, .func (PySem.W.fnOf "read_from" "read_from" (defArgs s_read_from) (defBody s_read_from) (defScope s_read_from) .none kV21 dc21 pm21 an21 cd21 ct21), sl21⟩) (c21 : PySem.W.codeIn K cd21 "read_from" = true) (k21 : PySem.W.keepIn K (.ref f21) = true)
    (l22 : K.lookup f22 = some ⟨oc22, od22, .func (PySem.W.fnOf "read_pair" "read_pair" (defArgs s_read_pair) (defBody s_read_pair) (defScope s_read_pair) .none kV22 dc22 pm22 an22 cd22 ct22), sl22⟩) (c22 : PySem.W.codeIn K cd22 "read_pair" = true) (k22 : PySem.W.keepIn K (.ref f22) = true)
    (l23 : K.lookup f23 = some ⟨oc23, od23, .func (PySem.W.fnOf "read" "read" (defArgs s_read) (defBody s_read) (defScope s_read) .none kV23 dc23 pm23 an23 cd23 ct23), sl23⟩) (c23 : PySem.W.codeIn K cd23 "read" = true) (k23 : PySem.W.keepIn K (.ref f23) = true)
    (l24 : K.lookup f24 = some ⟨oc24, od24, .func (PySem.W.fnOf "size" "Always.size" (defArgs s_Always_size) (defBody s_Always_size) (defScope s_Always_size) .none kV24 dc24 pm24 an24 cd24 ct24), sl24⟩) (c24 : PySem.W.codeIn K cd24 "Always.size" = true) (k24 : PySem.W.keepIn K (.ref f24) = true)
    (i24 : PySem.W.isFn K (.ref f24) = true)
    (l25 : K.lookup f25 = some ⟨oc25, od25, .func (PySem.W.fnOf "size" "Never.size" (defArgs s_Never_size) (defBody s_Never_size) (defScope s_Never_size) .none kV25 dc25 pm25 an25 cd25 ct25), sl25⟩) (c25 : PySem.W.codeIn K cd25 "Never.size" = true) (k25 : PySem.W.keepIn K (.ref f25) = true)
    (i25 : PySem.W.isFn K (.ref f25) = true)
    (l26 : K.lookup f26 = some ⟨oc26, od26, .func (PySem.W.fnOf "size" "Letter.size" (defArgs s_Letter_size) (defBody s_Letter_size) (defScope s_Letter_size) .none kV26 dc26 pm26 an26 cd26 ct26), sl26⟩) (c26 : PySem.W.codeIn K cd26 "Letter.size" = true) (k26 : PySem.W.keepIn K (.ref f26) = true)
    (i26 : PySem.W.isFn K (.ref f26) = true)
    (l27 : K.lookup f27 = some ⟨oc27, od27, .func (PySem.W.fnOf "size" "Not.size" (defArgs s_Not_size) (defBody s_Not_size) (defScope s_Not_size) .none kV27 dc27 pm27 an27 cd27 ct27), sl27⟩) (c27 : PySem.W.codeIn K cd27 "Not.size" = true) (k27 : PySem.W.keepIn K (.ref f27) = true)
    (i27 : PySem.W.isFn K (.ref f27) = true)
    (l28 : K.lookup f28 = some ⟨oc28, od28, .func (PySem.W.fnOf "size" "Pair.size" (defArgs s_Pair_size) (defBody s_Pair_size) (defScope s_Pair_size) .none kV28 dc28 pm28 an28 cd28 ct28), sl28⟩) (c28 : PySem.W.codeIn K cd28 "Pair.size" = true) (k28 : PySem.W.keepIn K (.ref f28) = true)
    (i28 : PySem.W.isFn K (.ref f28) = true)
    (l29 : K.lookup f29 = some ⟨oc29, od29, .func (PySem.W.fnOf "wish_of" "wish_of" (defArgs s_wish_of) (defBody s_wish_of) (defScope s_wish_of) .none kV29 dc29 pm29 an29 cd29 ct29), sl29⟩) (c29 : PySem.W.codeIn K cd29 "wish_of" = true) (k29 : PySem.W.keepIn K (.ref f29) = true)
    (l30 : K.lookup f30 = some ⟨oc30, od30, .func (PySem.W.fnOf "gathered" "gathered" (defArgs s_gathered) (defBody s_gathered) (defScope s_gathered) .none kV30 dc30 pm30 an30 cd30 ct30), sl30⟩) (c30 : PySem.W.codeIn K cd30 "gathered" = true) (k30 : PySem.W.keepIn K (.ref f30) = true)
    (l31 : K.lookup f31 = some ⟨oc31, od31, .func (PySem.W.fnOf "added" "added" (defArgs s_added) (defBody s_added) (defScope s_added) .none kV31 dc31 pm31 an31 cd31 ct31), sl31⟩) (c31 : PySem.W.codeIn K cd31 "added" = true) (k31 : PySem.W.keepIn K (.ref f31) = true)
    (l32 : K.lookup f32 = some ⟨oc32, od32, .func (PySem.W.fnOf "both_letters" "both_letters" (defArgs s_both_letters) (defBody s_both_letters) (defScope s_both_letters) .none kV32 dc32 pm32 an32 cd32 ct32), sl32⟩) (c32 : PySem.W.codeIn K cd32 "both_letters" = true) (k32 : PySem.W.keepIn K (.ref f32) = true)
    (l33 : K.lookup f33 = some ⟨oc33, od33, .func (PySem.W.fnOf "multiplied" "multiplied" (defArgs s_multiplied) (defBody s_multiplied) (defScope s_multiplied) .none kV33 dc33 pm33 an33 cd33 ct33), sl33⟩) (c33 : PySem.W.codeIn K cd33 "multiplied" = true) (k33 : PySem.W.keepIn K (.ref f33) = true)
    (l34 : K.lookup f34 = some ⟨oc34, od34, .func (PySem.W.fnOf "joined" "joined" (defArgs s_joined) (defBody s_joined) (defScope s_joined) .none kV34 dc34 pm34 an34 cd34 ct34), sl34⟩) (c34 : PySem.W.codeIn K cd34 "joined" = true) (k34 : PySem.W.keepIn K (.ref f34) = true)
    (l35 : K.lookup f35 = some ⟨oc35, od35, .func (PySem.W.fnOf "form" "Always.form" (defArgs s_Always_form) (defBody s_Always_form) (defScope s_Always_form) .none kV35 dc35 pm35 an35 cd35 ct35), sl35⟩) (c35 : PySem.W.codeIn K cd35 "Always.form" = true) (k35 : PySem.W.keepIn K (.ref f35) = true)
    (i35 : PySem.W.isFn K (.ref f35) = true)
    (l36 : K.lookup f36 = some ⟨oc36, od36, .func (PySem.W.fnOf "form" "Never.form" (defArgs s_Never_form) (defBody s_Never_form) (defScope s_Never_form) .none kV36 dc36 pm36 an36 cd36 ct36), sl36⟩) (c36 : PySem.W.codeIn K cd36 "Never.form" = true) (k36 : PySem.W.keepIn K (.ref f36) = true)
    (i36 : PySem.W.isFn K (.ref f36) = true)
    (l37 : K.lookup f37 = some ⟨oc37, od37, .func (PySem.W.fnOf "form" "Letter.form" (defArgs s_Letter_form) (defBody s_Letter_form) (defScope s_Letter_form) .none kV37 dc37 pm37 an37 cd37 ct37), sl37⟩) (c37 : PySem.W.codeIn K cd37 "Letter.form" = true) (k37 : PySem.W.keepIn K (.ref f37) = true)
    (i37 : PySem.W.isFn K (.ref f37) = true)
    (l38 : K.lookup f38 = some ⟨oc38, od38, .func (PySem.W.fnOf "opposite" "opposite" (defArgs s_opposite) (defBody s_opposite) (defScope s_opposite) .none kV38 dc38 pm38 an38 cd38 ct38), sl38⟩) (c38 : PySem.W.codeIn K cd38 "opposite" = true) (k38 : PySem.W.keepIn K (.ref f38) = true)
    (l39 : K.lookup f39 = some ⟨oc39, od39, .func (PySem.W.fnOf "form" "And.form" (defArgs s_And_form) (defBody s_And_form) (defScope s_And_form) .none kV39 dc39 pm39 an39 cd39 ct39), sl39⟩) (c39 : PySem.W.codeIn K cd39 "And.form" = true) (k39 : PySem.W.keepIn K (.ref f39) = true)
    (i39 : PySem.W.isFn K (.ref f39) = true)
    (l40 : K.lookup f40 = some ⟨oc40, od40, .func (PySem.W.fnOf "form" "Either.form" (defArgs s_Either_form) (defBody s_Either_form) (defScope s_Either_form) .none kV40 dc40 pm40 an40 cd40 ct40), sl40⟩) (c40 : PySem.W.codeIn K cd40 "Either.form" = true) (k40 : PySem.W.keepIn K (.ref f40) = true)
    (i40 : PySem.W.isFn K (.ref f40) = true)
    (l41 : K.lookup f41 = some ⟨oc41, od41, .func (PySem.W.fnOf "form" "Not.form" (defArgs s_Not_form) (defBody s_Not_form) (defScope s_Not_form) .none kV41 dc41 pm41 an41 cd41 ct41), sl41⟩) (c41 : PySem.W.codeIn K cd41 "Not.form" = true) (k41 : PySem.W.keepIn K (.ref f41) = true)
    (i41 : PySem.W.isFn K (.ref f41) = true)
    (l42 : K.lookup f42 = some ⟨oc42, od42, .func (PySem.W.fnOf "form" "Or.form" (defArgs s_Or_form) (defBody s_Or_form) (defScope s_Or_form) .none kV42 dc42 pm42 an42 cd42 ct42), sl42⟩) (c42 : PySem.W.codeIn K cd42 "Or.form" = true) (k42 : PySem.W.keepIn K (.ref f42) = true)
    (i42 : PySem.W.isFn K (.ref f42) = true)
    (l43 : K.lookup f43 = some ⟨oc43, od43, .func (PySem.W.fnOf "__init__" "Task.__init__" (defArgs s_Task_init) (defBody s_Task_init) (defScope s_Task_init) .none kV43 dc43 pm43 an43 cd43 ct43), sl43⟩) (c43 : PySem.W.codeIn K cd43 "Task.__init__" = true) (k43 : PySem.W.keepIn K (.ref f43) = true)
    (i43 : PySem.W.isFn K (.ref f43) = true)
    (l44 : K.lookup f44 = some ⟨oc44, od44, .func (PySem.W.fnOf "law" "law" (defArgs s_law) (defBody s_law) (defScope s_law) .none kV44 dc44 pm44 an44 cd44 ct44), sl44⟩) (c44 : PySem.W.codeIn K cd44 "law" = true) (k44 : PySem.W.keepIn K (.ref f44) = true)
    (pg_Always : PySem.W.plainGet K C_Always Str.empty = true) (hd_Always : PySem.W.hasDictIn K C_Always = true) (po_Always : PySem.W.plainOver K C_Always = true) (sa_Always : PySem.W.findIn K (.ref C_Always) "__setattr__" = some (some (.builtin "object.__setattr__"))) (mk_Always : PySem.W.makesIn K C_Always = true) (kc_Always : PySem.W.keepIn K (.ref C_Always) = true)
    (tp_Always : PySem.W.mroIn K C_Always (.type "object") = some true)
    (pg_And : PySem.W.plainGet K C_And Str.empty = true) (hd_And : PySem.W.hasDictIn K C_And = true) (po_And : PySem.W.plainOver K C_And = true) (sa_And : PySem.W.findIn K (.ref C_And) "__setattr__" = some (some (.builtin "object.__setattr__"))) (mk_And : PySem.W.makesIn K C_And = true) (kc_And : PySem.W.keepIn K (.ref C_And) = true)
    (nf_And_one : PySem.W.findIn K (.ref C_And) "one" = some none)
    (nf_And_other : PySem.W.findIn K (.ref C_And) "other" = some none)
    (pg_Either : PySem.W.plainGet K C_Either Str.empty = true) (hd_Either : PySem.W.hasDictIn K C_Either = true) (po_Either : PySem.W.plainOver K C_Either = true) (sa_Either : PySem.W.findIn K (.ref C_Either) "__setattr__" = some (some (.builtin "object.__setattr__"))) (mk_Either : PySem.W.makesIn K C_Either = true) (kc_Either : PySem.W.keepIn K (.ref C_Either) = true)
    (nf_Either_one : PySem.W.findIn K (.ref C_Either) "one" = some none)
    (nf_Either_other : PySem.W.findIn K (.ref C_Either) "other" = some none)
    (pg_Letter : PySem.W.plainGet K C_Letter Str.empty = true) (hd_Letter : PySem.W.hasDictIn K C_Letter = true) (po_Letter : PySem.W.plainOver K C_Letter = true) (sa_Letter : PySem.W.findIn K (.ref C_Letter) "__setattr__" = some (some (.builtin "object.__setattr__"))) (mk_Letter : PySem.W.makesIn K C_Letter = true) (kc_Letter : PySem.W.keepIn K (.ref C_Letter) = true)
    (nf_Letter_letter : PySem.W.findIn K (.ref C_Letter) "letter" = some none)
    (pg_Never : PySem.W.plainGet K C_Never Str.empty = true) (hd_Never : PySem.W.hasDictIn K C_Never = true) (po_Never : PySem.W.plainOver K C_Never = true) (sa_Never : PySem.W.findIn K (.ref C_Never) "__setattr__" = some (some (.builtin "object.__setattr__"))) (mk_Never : PySem.W.makesIn K C_Never = true) (kc_Never : PySem.W.keepIn K (.ref C_Never) = true)
    (tp_Never : PySem.W.mroIn K C_Never (.type "object") = some true)
    (pg_Not : PySem.W.plainGet K C_Not Str.empty = true) (hd_Not : PySem.W.hasDictIn K C_Not = true) (po_Not : PySem.W.plainOver K C_Not = true) (sa_Not : PySem.W.findIn K (.ref C_Not) "__setattr__" = some (some (.builtin "object.__setattr__"))) (mk_Not : PySem.W.makesIn K C_Not = true) (kc_Not : PySem.W.keepIn K (.ref C_Not) = true)
    (nf_Not_one : PySem.W.findIn K (.ref C_Not) "one" = some none)
    (pg_Or : PySem.W.plainGet K C_Or Str.empty = true) (hd_Or : PySem.W.hasDictIn K C_Or = true) (po_Or : PySem.W.plainOver K C_Or = true) (sa_Or : PySem.W.findIn K (.ref C_Or) "__setattr__" = some (some (.builtin "object.__setattr__"))) (mk_Or : PySem.W.makesIn K C_Or = true) (kc_Or : PySem.W.keepIn K (.ref C_Or) = true)
    (nf_Or_one : PySem.W.findIn K (.ref C_Or) "one" = some none)
    (nf_Or_other : PySem.W.findIn K (.ref C_Or) "other" = some none)
    (pg_Task : PySem.W.plainGet K C_Task Str.empty = true) (hd_Task : PySem.W.hasDictIn K C_Task = true) (po_Task : PySem.W.plainOver K C_Task = true) (sa_Task : PySem.W.findIn K (.ref C_Task) "__setattr__" = some (some (.builtin "object.__setattr__"))) (mk_Task : PySem.W.makesIn K C_Task = true) (kc_Task : PySem.W.keepIn K (.ref C_Task) = true)
    (nf_Task_kept_fault : PySem.W.findIn K (.ref C_Task) "kept_fault" = some none)
    (nf_Task_kept_gaps : PySem.W.findIn K (.ref C_Task) "kept_gaps" = some none)
    (nf_Task_kept_givens : PySem.W.findIn K (.ref C_Task) "kept_givens" = some none)
    (nf_Task_kept_sides : PySem.W.findIn K (.ref C_Task) "kept_sides" = some none)
    (nf_Task_kept_wishes : PySem.W.findIn K (.ref C_Task) "kept_wishes" = some none)
    (z_all : PySem.W.nsIn K mainGlobals "all" = some none)
    (z_enumerate : PySem.W.nsIn K mainGlobals "enumerate" = some none)
    (z_int : PySem.W.nsIn K mainGlobals "int" = some none)
    (z_isinstance : PySem.W.nsIn K mainGlobals "isinstance" = some none)
    (z_len : PySem.W.nsIn K mainGlobals "len" = some none)
    (z_list : PySem.W.nsIn K mainGlobals "list" = some none)
    (z_min : PySem.W.nsIn K mainGlobals "min" = some none)
    (z_range : PySem.W.nsIn K mainGlobals "range" = some none)
    (z_set : PySem.W.nsIn K mainGlobals "set" = some none)
    (z_sorted : PySem.W.nsIn K mainGlobals "sorted" = some none)
    (z_str : PySem.W.nsIn K mainGlobals "str" = some none)
    (z_tuple : PySem.W.nsIn K mainGlobals "tuple" = some none)
    (a_GAPS : PySem.W.nsIn K mainGlobals "GAPS" = some (some (.str "xyz" T_GAPS)))
    (a_GIVENS : PySem.W.nsIn K mainGlobals "GIVENS" = some (some (.str "abc" T_GIVENS)))
    (a_LETTERS_texts : PySem.W.nsIn K mainGlobals "LETTERS_texts" = some (some (.str "abcpqrxyz" T_LETTERS_texts)))
    (a_LETTERS_wishes : PySem.W.nsIn K mainGlobals "LETTERS_wishes" = some (some (.str "abcpqrxyz" T_LETTERS_wishes)))
    (a_MOST_PARTS : PySem.W.nsIn K mainGlobals "MOST_PARTS" = some (some (.int 20 T_MOST_PARTS)))
    (a_MOST_WISHES : PySem.W.nsIn K mainGlobals "MOST_WISHES" = some (some (.int 6 T_MOST_WISHES))) :
    ∃ fd : FuncData, (∀ (s : Shared) (v : Value), BindsTo s fd ⟨[v], []⟩ [("_law_script", v)]) ∧ ∀ base : Heap, K.In base → base.Ns mainGlobals mg → FnOk l.prog w K mg base CX0 129 fa fd ["_law_script"] (spD K spLaw) := by
  have e := hfa.symm.trans (PySem.W.mg_of X G a44)
  cases e
  have F1 := fun_mk (st := s_L_mixed_47c) l1 c1 k1
  have b1 := F1.binds (ps := ["_law_script", "_law_k"]) fun _ _ _ _ _ _ us hl => match us, hl with | [_, _], _ => rfl
  have F2 := fun_mk (st := s_L_letters_2d2) l2 c2 k2
  have b2 := F2.binds (ps := ["_law_script"]) fun _ _ _ _ _ _ us hl => match us, hl with | [_], _ => rfl
  have F3 := fun_mk (st := s_L_leaf_2f7) l3 c3 k3
  have b3 := F3.binds (ps := ["_law_cell", "_law_letters_here"]) fun _ _ _ _ _ _ us hl => match us, hl with | [_, _], _ => rfl
  have F4 := fun_mk (st := s_L_tree_21f) l4 c4 k4
  have b4 := F4.binds (ps := ["_law_script", "_law_at", "_law_many", "_law_letters_here"]) fun _ _ _ _ _ _ us hl => match us, hl with | [_, _, _, _], _ => rfl
  have F5 := fun_mk (st := s_L_wishes_a27) l5 c5 k5
  have b5 := F5.binds (ps := ["_law_script", "_law_letters_here", "_law_most", "_law_many"]) fun _ _ _ _ _ _ us hl => match us, hl with | [_, _, _, _], _ => rfl
  have F6 := fun_mk (st := s_L_text_16f) l6 c6 k6
  have b6 := F6.binds (ps := ["_law_tree_here"]) fun _ _ _ _ _ _ us hl => match us, hl with | [_], _ => rfl
  have F7 := fun_mk (st := s_L_written_ba0) l7 c7 k7
  have b7 := F7.binds (ps := ["_law_wishes_here"]) fun _ _ _ _ _ _ us hl => match us, hl with | [_], _ => rfl
  have F8 := fun_mk (st := s_L_row_c72) l8 c8 k8
  have b8 := F8.binds (ps := ["_law_letters_here", "_law_number"]) fun _ _ _ _ _ _ us hl => match us, hl with | [_, _], _ => rfl
  have F9 := fun_mk (st := s_L_rows_2f4) l9 c9 k9
  have b9 := F9.binds (ps := ["_law_letters_here"]) fun _ _ _ _ _ _ us hl => match us, hl with | [_], _ => rfl
  have F10 := fun_mk (st := s_L_truth_64c) l10 c10 k10
  have b10 := F10.binds (ps := ["_law_tree_here", "_law_row_here"]) fun _ _ _ _ _ _ us hl => match us, hl with | [_, _], _ => rfl
  have F11 := fun_mk (st := s_L_failing_f34) l11 c11 k11
  have b11 := F11.binds (ps := ["_law_wishes_here", "_law_row_here"]) fun _ _ _ _ _ _ us hl => match us, hl with | [_, _], _ => rfl
  have F12 := fun_mk (st := s_L_form_9d6) l12 c12 k12
  have b12 := F12.binds (ps := ["_law_letters_here", "_law_table"]) fun _ _ _ _ _ _ us hl => match us, hl with | [_, _], _ => rfl
  have F13 := fun_mk (st := s_L_form_like_5d5) l13 c13 k13
  have b13 := F13.binds (ps := ["_law_found", "_law_letters_here"]) fun _ _ _ _ _ _ us hl => match us, hl with | [_, _], _ => rfl
  have F14 := fun_mk (st := s_Task_fault) l14 c14 k14
  have b14 := F14.binds (ps := ["self"]) fun _ _ _ _ _ _ us hl => match us, hl with | [_], _ => rfl
  have F15 := fun_mk (st := s_is_row) l15 c15 k15
  have b15 := F15.binds (ps := ["letters", "menu"]) fun _ _ _ _ _ _ us hl => match us, hl with | [_, _], _ => rfl
  have F16 := fun_mk (st := s_sign_at) l16 c16 k16
  have b16 := F16.binds (ps := ["text", "place"]) fun _ _ _ _ _ _ us hl => match us, hl with | [_, _], _ => rfl
  have F17 := fun_mk (st := s_Letter_init) l17 c17 k17
  have b17 := F17.binds (ps := ["self", "letter"]) fun _ _ _ _ _ _ us hl => match us, hl with | [_, _], _ => rfl
  have F18 := fun_mk (st := s_Not_init) l18 c18 k18
  have b18 := F18.binds (ps := ["self", "one"]) fun _ _ _ _ _ _ us hl => match us, hl with | [_, _], _ => rfl
  have F19 := fun_mk (st := s_Pair_init) l19 c19 k19
  have b19 := F19.binds (ps := ["self", "one", "other"]) fun _ _ _ _ _ _ us hl => match us, hl with | [_, _, _], _ => rfl
  have F20 := fun_mk (st := s_pair_of) l20 c20 k20
  have b20 := F20.binds (ps := ["sign", "one", "other"]) fun _ _ _ _ _ _ us hl => match us, hl with | [_, _, _], _ => rfl
  have F21 := fun_mk (st := s_read_from) l21 c21 k21
  have b21 := F21.binds (ps := ["text", "place"]) fun _ _ _ _ _ _ us hl => match us, hl with | [_, _], _ => rfl
  have F22 := fun_mk (st := s_read_pair) l22 c22 k22
  have b22 := F22.binds (ps := ["text", "place"]) fun _ _ _ _ _ _ us hl => match us, hl with | [_, _], _ => rfl
  have F23 := fun_mk (st := s_read) l23 c23 k23
  have b23 := F23.binds (ps := ["text"]) fun _ _ _ _ _ _ us hl => match us, hl with | [_], _ => rfl
  have F24 := fun_mk (st := s_Always_size) l24 c24 k24
  have b24 := F24.binds (ps := ["self"]) fun _ _ _ _ _ _ us hl => match us, hl with | [_], _ => rfl
  have F25 := fun_mk (st := s_Never_size) l25 c25 k25
  have b25 := F25.binds (ps := ["self"]) fun _ _ _ _ _ _ us hl => match us, hl with | [_], _ => rfl
  have F26 := fun_mk (st := s_Letter_size) l26 c26 k26
  have b26 := F26.binds (ps := ["self"]) fun _ _ _ _ _ _ us hl => match us, hl with | [_], _ => rfl
  have F27 := fun_mk (st := s_Not_size) l27 c27 k27
  have b27 := F27.binds (ps := ["self"]) fun _ _ _ _ _ _ us hl => match us, hl with | [_], _ => rfl
  have F28 := fun_mk (st := s_Pair_size) l28 c28 k28
  have b28 := F28.binds (ps := ["self"]) fun _ _ _ _ _ _ us hl => match us, hl with | [_], _ => rfl
  have F29 := fun_mk (st := s_wish_of) l29 c29 k29
  have b29 := F29.binds (ps := ["text", "letters"]) fun _ _ _ _ _ _ us hl => match us, hl with | [_, _], _ => rfl
  have F30 := fun_mk (st := s_gathered) l30 c30 k30
  have b30 := F30.binds (ps := ["products"]) fun _ _ _ _ _ _ us hl => match us, hl with | [_], _ => rfl
  have F31 := fun_mk (st := s_added) l31 c31 k31
  have b31 := F31.binds (ps := ["one", "other"]) fun _ _ _ _ _ _ us hl => match us, hl with | [_, _], _ => rfl
  have F32 := fun_mk (st := s_both_letters) l32 c32 k32
  have b32 := F32.binds (ps := ["one", "other"]) fun _ _ _ _ _ _ us hl => match us, hl with | [_, _], _ => rfl
  have F33 := fun_mk (st := s_multiplied) l33 c33 k33
  have b33 := F33.binds (ps := ["one", "other"]) fun _ _ _ _ _ _ us hl => match us, hl with | [_, _], _ => rfl
  have F34 := fun_mk (st := s_joined) l34 c34 k34
  have b34 := F34.binds (ps := ["one", "other"]) fun _ _ _ _ _ _ us hl => match us, hl with | [_, _], _ => rfl
  have F35 := fun_mk (st := s_Always_form) l35 c35 k35
  have b35 := F35.binds (ps := ["self"]) fun _ _ _ _ _ _ us hl => match us, hl with | [_], _ => rfl
  have F36 := fun_mk (st := s_Never_form) l36 c36 k36
  have b36 := F36.binds (ps := ["self"]) fun _ _ _ _ _ _ us hl => match us, hl with | [_], _ => rfl
  have F37 := fun_mk (st := s_Letter_form) l37 c37 k37
  have b37 := F37.binds (ps := ["self"]) fun _ _ _ _ _ _ us hl => match us, hl with | [_], _ => rfl
  have F38 := fun_mk (st := s_opposite) l38 c38 k38
  have b38 := F38.binds (ps := ["form"]) fun _ _ _ _ _ _ us hl => match us, hl with | [_], _ => rfl
  have F39 := fun_mk (st := s_And_form) l39 c39 k39
  have b39 := F39.binds (ps := ["self"]) fun _ _ _ _ _ _ us hl => match us, hl with | [_], _ => rfl
  have F40 := fun_mk (st := s_Either_form) l40 c40 k40
  have b40 := F40.binds (ps := ["self"]) fun _ _ _ _ _ _ us hl => match us, hl with | [_], _ => rfl
  have F41 := fun_mk (st := s_Not_form) l41 c41 k41
  have b41 := F41.binds (ps := ["self"]) fun _ _ _ _ _ _ us hl => match us, hl with | [_], _ => rfl
  have F42 := fun_mk (st := s_Or_form) l42 c42 k42
  have b42 := F42.binds (ps := ["self"]) fun _ _ _ _ _ _ us hl => match us, hl with | [_], _ => rfl
  have F43 := fun_mk (st := s_Task_init) l43 c43 k43
  have b43 := F43.binds (ps := ["self", "givens", "gaps", "wishes"]) fun _ _ _ _ _ _ us hl => match us, hl with | [_, _, _, _], _ => rfl
  have F44 := fun_mk (st := s_law) l44 c44 k44
  have m_all := PySem.W.mg_none_of X G z_all
  have m_enumerate := PySem.W.mg_none_of X G z_enumerate
  have m_int := PySem.W.mg_none_of X G z_int
  have m_isinstance := PySem.W.mg_none_of X G z_isinstance
  have m_len := PySem.W.mg_none_of X G z_len
  have m_list := PySem.W.mg_none_of X G z_list
  have m_min := PySem.W.mg_none_of X G z_min
  have m_range := PySem.W.mg_none_of X G z_range
  have m_set := PySem.W.mg_none_of X G z_set
  have m_sorted := PySem.W.mg_none_of X G z_sorted
  have m_str := PySem.W.mg_none_of X G z_str
  have m_tuple := PySem.W.mg_none_of X G z_tuple
  have cl_Always : Cls K C_Always := ⟨pg_Always, hd_Always, po_Always, sa_Always⟩
  have B_Always : Bare K C_Always := ⟨mk_Always, fi_Always, tp_Always, kc_Always⟩
  have me_Always_form : Meth K C_Always "form" f35 := ⟨fm_Always_form, i35, k35⟩
  have me_Always_size : Meth K C_Always "size" f24 := ⟨fm_Always_size, i24, k24⟩
  have cl_And : Cls K C_And := ⟨pg_And, hd_And, po_And, sa_And⟩
  have n_And_one : NoAttr K C_And "one" := nf_And_one
  have n_And_other : NoAttr K C_And "other" := nf_And_other
  have M_And : Mk K C_And f19 := ⟨mk_And, fi_And, i19, kc_And⟩
  have me_And_form : Meth K C_And "form" f39 := ⟨fm_And_form, i39, k39⟩
  have me_And_size : Meth K C_And "size" f28 := ⟨fm_And_size, i28, k28⟩
  have cl_Either : Cls K C_Either := ⟨pg_Either, hd_Either, po_Either, sa_Either⟩
  have n_Either_one : NoAttr K C_Either "one" := nf_Either_one
  have n_Either_other : NoAttr K C_Either "other" := nf_Either_other
  have M_Either : Mk K C_Either f19 := ⟨mk_Either, fi_Either, i19, kc_Either⟩
  have me_Either_form : Meth K C_Either "form" f40 := ⟨fm_Either_form, i40, k40⟩
  have me_Either_size : Meth K C_Either "size" f28 := ⟨fm_Either_size, i28, k28⟩
  have cl_Letter : Cls K C_Letter := ⟨pg_Letter, hd_Letter, po_Letter, sa_Letter⟩
  have n_Letter_letter : NoAttr K C_Letter "letter" := nf_Letter_letter
  have M_Letter : Mk K C_Letter f17 := ⟨mk_Letter, fi_Letter, i17, kc_Letter⟩
  have me_Letter_form : Meth K C_Letter "form" f37 := ⟨fm_Letter_form, i37, k37⟩
  have me_Letter_size : Meth K C_Letter "size" f26 := ⟨fm_Letter_size, i26, k26⟩
  have cl_Never : Cls K C_Never := ⟨pg_Never, hd_Never, po_Never, sa_Never⟩
  have B_Never : Bare K C_Never := ⟨mk_Never, fi_Never, tp_Never, kc_Never⟩
  have me_Never_form : Meth K C_Never "form" f36 := ⟨fm_Never_form, i36, k36⟩
  have me_Never_size : Meth K C_Never "size" f25 := ⟨fm_Never_size, i25, k25⟩
  have cl_Not : Cls K C_Not := ⟨pg_Not, hd_Not, po_Not, sa_Not⟩
  have n_Not_one : NoAttr K C_Not "one" := nf_Not_one
  have M_Not : Mk K C_Not f18 := ⟨mk_Not, fi_Not, i18, kc_Not⟩
  have me_Not_form : Meth K C_Not "form" f41 := ⟨fm_Not_form, i41, k41⟩
  have me_Not_size : Meth K C_Not "size" f27 := ⟨fm_Not_size, i27, k27⟩
  have cl_Or : Cls K C_Or := ⟨pg_Or, hd_Or, po_Or, sa_Or⟩
  have n_Or_one : NoAttr K C_Or "one" := nf_Or_one
  have n_Or_other : NoAttr K C_Or "other" := nf_Or_other
  have M_Or : Mk K C_Or f19 := ⟨mk_Or, fi_Or, i19, kc_Or⟩
  have me_Or_form : Meth K C_Or "form" f42 := ⟨fm_Or_form, i42, k42⟩
  have me_Or_size : Meth K C_Or "size" f28 := ⟨fm_Or_size, i28, k28⟩
  have cl_Task : Cls K C_Task := ⟨pg_Task, hd_Task, po_Task, sa_Task⟩
  have n_Task_kept_fault : NoAttr K C_Task "kept_fault" := nf_Task_kept_fault
  have n_Task_kept_gaps : NoAttr K C_Task "kept_gaps" := nf_Task_kept_gaps
  have n_Task_kept_givens : NoAttr K C_Task "kept_givens" := nf_Task_kept_givens
  have n_Task_kept_sides : NoAttr K C_Task "kept_sides" := nf_Task_kept_sides
  have n_Task_kept_wishes : NoAttr K C_Task "kept_wishes" := nf_Task_kept_wishes
  have M_Task : Mk K C_Task f43 := ⟨mk_Task, fi_Task, i43, kc_Task⟩
  have me_Task_fault : Meth K C_Task "fault" f14 := ⟨fm_Task_fault, i14, k14⟩
  have hF_kept_fault : ∀ N ∈ (["Task"] : List Str), FldOk K N "kept_fault" := fun N hN => by
    simp only [List.mem_cons, List.not_mem_nil, or_false] at hN
    subst hN
    · exact FldOk.of aC_Task cl_Task n_Task_kept_fault
  have hF_kept_gaps : ∀ N ∈ (["Task"] : List Str), FldOk K N "kept_gaps" := fun N hN => by
    simp only [List.mem_cons, List.not_mem_nil, or_false] at hN
    subst hN
    · exact FldOk.of aC_Task cl_Task n_Task_kept_gaps
  have hF_kept_givens : ∀ N ∈ (["Task"] : List Str), FldOk K N "kept_givens" := fun N hN => by
    simp only [List.mem_cons, List.not_mem_nil, or_false] at hN
    subst hN
    · exact FldOk.of aC_Task cl_Task n_Task_kept_givens
  have hF_kept_sides : ∀ N ∈ (["Task"] : List Str), FldOk K N "kept_sides" := fun N hN => by
    simp only [List.mem_cons, List.not_mem_nil, or_false] at hN
    subst hN
    · exact FldOk.of aC_Task cl_Task n_Task_kept_sides
  have hF_kept_wishes : ∀ N ∈ (["Task"] : List Str), FldOk K N "kept_wishes" := fun N hN => by
    simp only [List.mem_cons, List.not_mem_nil, or_false] at hN
    subst hN
    · exact FldOk.of aC_Task cl_Task n_Task_kept_wishes
  have hF_letter : ∀ N ∈ (["Letter"] : List Str), FldOk K N "letter" := fun N hN => by
    simp only [List.mem_cons, List.not_mem_nil, or_false] at hN
    subst hN
    · exact FldOk.of aC_Letter cl_Letter n_Letter_letter
  have hF_one : ∀ N ∈ (["Not", "And", "Or", "Either"] : List Str), FldOk K N "one" := fun N hN => by
    simp only [List.mem_cons, List.not_mem_nil, or_false] at hN
    rcases hN with rfl | rfl | rfl | rfl
    · exact FldOk.of aC_Not cl_Not n_Not_one
    · exact FldOk.of aC_And cl_And n_And_one
    · exact FldOk.of aC_Or cl_Or n_Or_one
    · exact FldOk.of aC_Either cl_Either n_Either_one
  have hF_other : ∀ N ∈ (["And", "Or", "Either"] : List Str), FldOk K N "other" := fun N hN => by
    simp only [List.mem_cons, List.not_mem_nil, or_false] at hN
    rcases hN with rfl | rfl | rfl
    · exact FldOk.of aC_And cl_And n_And_other
    · exact FldOk.of aC_Or cl_Or n_Or_other
    · exact FldOk.of aC_Either cl_Either n_Either_other
  refine ⟨(PySem.W.fnOf "law" "law" (defArgs s_law) (defBody s_law) (defScope s_law) .none kV44 dc44 pm44 an44 cd44 ct44), fun s v => .of_eq rfl, fun base _ _ => ?_⟩
  have R1 := ok_L_mixed_47c (P := l.prog) (w := w) (mg := mg) (base := base) F1 m_len m_min m_range
  have R2 := ok_L_letters_2d2 (P := l.prog) (w := w) (mg := mg) (base := base) F2 R1 b1 k1 (PySem.W.mg_of X G a1)
  have R3 := ok_L_leaf_2f7 (P := l.prog) (w := w) (mg := mg) (base := base) F3 m_len
  have R4 := ok_L_tree_21f (P := l.prog) (w := w) (mg := mg) (base := base) F4 R1 b1 k1 (PySem.W.mg_of X G a1) R3 b3 k3 (PySem.W.mg_of X G a3) m_len m_range
  have R5 := ok_L_wishes_a27 (P := l.prog) (w := w) (mg := mg) (base := base) F5 R1 b1 k1 (PySem.W.mg_of X G a1) R4 b4 k4 (PySem.W.mg_of X G a4) m_range
  have RG6 := okg_L_text_16f (P := l.prog) (w := w) (K := K) (mg := mg) (base := base) F6 b6 k6 (PySem.W.mg_of X G a6) m_int m_len 70
  have R6 := RG6
  have R7 := ok_L_written_ba0 (P := l.prog) (w := w) (mg := mg) (base := base) F7 R6 b6 k6 (PySem.W.mg_of X G a6)
  have R8 := ok_L_row_c72 (P := l.prog) (w := w) (mg := mg) (base := base) F8 m_enumerate m_len
  have R9 := ok_L_rows_2f4 (P := l.prog) (w := w) (mg := mg) (base := base) F9 R8 b8 k8 (PySem.W.mg_of X G a8) m_len m_range
  have RG10 := okg_L_truth_64c (P := l.prog) (w := w) (K := K) (mg := mg) (base := base) F10 b10 k10 (PySem.W.mg_of X G a10) m_len 70
  have R10 := RG10
  have R11 := ok_L_failing_f34 (P := l.prog) (w := w) (mg := mg) (base := base) F11 R10 b10 k10 (PySem.W.mg_of X G a10) m_enumerate
  have R12 := ok_L_form_9d6 (P := l.prog) (w := w) (mg := mg) (base := base) F12 R8 b8 k8 (PySem.W.mg_of X G a8) m_len m_range m_sorted m_tuple
  have R13 := ok_L_form_like_5d5 (P := l.prog) (w := w) (mg := mg) (base := base) F13 m_all m_isinstance m_list m_set m_sorted m_str m_tuple
  have R14 := ok_Task_fault (P := l.prog) (w := w) (mg := mg) (base := base) F14 hF_kept_fault
  have R15 := ok_is_row (P := l.prog) (w := w) (mg := mg) (base := base) F15 
  have R16 := ok_sign_at (P := l.prog) (w := w) (mg := mg) (base := base) F16 
  have R20 := ok_pair_of (P := l.prog) (w := w) (mg := mg) (base := base) F20 aC_And (PySem.W.mg_of X G aC_And) M_And (ok_Pair_init (P := l.prog) (w := w) (mg := mg) (base := base) F19 cl_And n_And_one n_And_other) b19 aC_Either (PySem.W.mg_of X G aC_Either) M_Either (ok_Pair_init (P := l.prog) (w := w) (mg := mg) (base := base) F19 cl_Either n_Either_one n_Either_other) aC_Or (PySem.W.mg_of X G aC_Or) M_Or (ok_Pair_init (P := l.prog) (w := w) (mg := mg) (base := base) F19 cl_Or n_Or_one n_Or_other)
  have RG22 := okg_read_from (P := l.prog) (w := w) (K := K) (mg := mg) (base := base) F21 b21 k21 (PySem.W.mg_of X G a21) F22 b22 k22 (PySem.W.mg_of X G a22) R16 b16 k16 (PySem.W.mg_of X G a16) aC_Always (PySem.W.mg_of X G aC_Always) B_Always aC_Letter (PySem.W.mg_of X G aC_Letter) M_Letter (ok_Letter_init (P := l.prog) (w := w) (mg := mg) (base := base) F17 cl_Letter n_Letter_letter) b17 aC_Never (PySem.W.mg_of X G aC_Never) B_Never aC_Not (PySem.W.mg_of X G aC_Not) M_Not (ok_Not_init (P := l.prog) (w := w) (mg := mg) (base := base) F18 cl_Not n_Not_one) b18 (PySem.W.mg_of X G a_LETTERS_texts) R20 b20 k20 (PySem.W.mg_of X G a20) 120
  obtain ⟨R21, R22⟩ := RG22
  have R23 := ok_read (P := l.prog) (w := w) (mg := mg) (base := base) F23 R21 b21 k21 (PySem.W.mg_of X G a21) m_len
  have R24 := ok_Always_size (P := l.prog) (w := w) (mg := mg) (base := base) F24 
  have R25 := ok_Never_size (P := l.prog) (w := w) (mg := mg) (base := base) F25 
  have R26 := ok_Letter_size (P := l.prog) (w := w) (mg := mg) (base := base) F26 
  have RG28 := okg_Not_size (P := l.prog) (w := w) (K := K) (mg := mg) (base := base) F27 b27 F28 b28 hF_one aC_Always cl_Always me_Always_size R24 b24 aC_Never cl_Never me_Never_size R25 b25 aC_Letter cl_Letter me_Letter_size R26 b26 aC_Not cl_Not me_Not_size aC_And cl_And me_And_size aC_Or cl_Or me_Or_size aC_Either cl_Either me_Either_size hF_other 70
  obtain ⟨R27, R28⟩ := RG28
  have hT_size : ∀ q ∈ Tb_size 70, MethOk l.prog w K mg base CX0 72 "size" q.1 q.2 := (fun q hq => by
      simp only [Tb_size, List.mem_cons, List.not_mem_nil, or_false] at hq
      rcases hq with rfl | rfl | rfl | rfl | rfl | rfl | rfl
      · exact MethOk.of aC_Always cl_Always me_Always_size R24 b24 (by omega)
      · exact MethOk.of aC_Never cl_Never me_Never_size R25 b25 (by omega)
      · exact MethOk.of aC_Letter cl_Letter me_Letter_size R26 b26 (by omega)
      · exact MethOk.of aC_Not cl_Not me_Not_size R27 b27 (by omega)
      · exact MethOk.of aC_And cl_And me_And_size R28 b28 (by omega)
      · exact MethOk.of aC_Or cl_Or me_Or_size R28 b28 (by omega)
      · exact MethOk.of aC_Either cl_Either me_Either_size R28 b28 (by omega)
    )
  have R29 := ok_wish_of (P := l.prog) (w := w) (mg := mg) (base := base) F29 R23 b23 k23 (PySem.W.mg_of X G a23) hT_size (PySem.W.mg_of X G a_LETTERS_wishes) (PySem.W.mg_of X G a_MOST_PARTS)
  have R30 := ok_gathered (P := l.prog) (w := w) (mg := mg) (base := base) F30 m_sorted m_tuple
  have R31 := ok_added (P := l.prog) (w := w) (mg := mg) (base := base) F31 R30 b30 k30 (PySem.W.mg_of X G a30) m_list
  have R32 := ok_both_letters (P := l.prog) (w := w) (mg := mg) (base := base) F32 m_set m_sorted
  have R33 := ok_multiplied (P := l.prog) (w := w) (mg := mg) (base := base) F33 R32 b32 k32 (PySem.W.mg_of X G a32) R30 b30 k30 (PySem.W.mg_of X G a30)
  have R34 := ok_joined (P := l.prog) (w := w) (mg := mg) (base := base) F34 R31 b31 k31 (PySem.W.mg_of X G a31) R33 b33 k33 (PySem.W.mg_of X G a33)
  have R35 := ok_Always_form (P := l.prog) (w := w) (mg := mg) (base := base) F35 
  have R36 := ok_Never_form (P := l.prog) (w := w) (mg := mg) (base := base) F36 
  have R37 := ok_Letter_form (P := l.prog) (w := w) (mg := mg) (base := base) F37 hF_letter
  have R38 := ok_opposite (P := l.prog) (w := w) (mg := mg) (base := base) F38 R31 b31 k31 (PySem.W.mg_of X G a31)
  have RG42 := okg_And_form (P := l.prog) (w := w) (K := K) (mg := mg) (base := base) F39 b39 F40 b40 F41 b41 F42 b42 R33 b33 k33 (PySem.W.mg_of X G a33) hF_one hF_other aC_Always cl_Always me_Always_form R35 b35 aC_Never cl_Never me_Never_form R36 b36 aC_Letter cl_Letter me_Letter_form R37 b37 aC_Not cl_Not me_Not_form aC_And cl_And me_And_form aC_Or cl_Or me_Or_form aC_Either cl_Either me_Either_form R31 b31 k31 (PySem.W.mg_of X G a31) R38 b38 k38 (PySem.W.mg_of X G a38) R34 b34 k34 (PySem.W.mg_of X G a34) 70
  obtain ⟨R39, R40, R41, R42⟩ := RG42
  have hT_form : ∀ q ∈ Tb_form 70, MethOk l.prog w K mg base CX0 74 "form" q.1 q.2 := (fun q hq => by
      simp only [Tb_form, List.mem_cons, List.not_mem_nil, or_false] at hq
      rcases hq with rfl | rfl | rfl | rfl | rfl | rfl | rfl
      · exact MethOk.of aC_Always cl_Always me_Always_form R35 b35 (by omega)
      · exact MethOk.of aC_Never cl_Never me_Never_form R36 b36 (by omega)
      · exact MethOk.of aC_Letter cl_Letter me_Letter_form R37 b37 (by omega)
      · exact MethOk.of aC_Not cl_Not me_Not_form R41 b41 (by omega)
      · exact MethOk.of aC_And cl_And me_And_form R39 b39 (by omega)
      · exact MethOk.of aC_Or cl_Or me_Or_form R42 b42 (by omega)
      · exact MethOk.of aC_Either cl_Either me_Either_form R40 b40 (by omega)
    )
  have R43 := ok_Task_init (P := l.prog) (w := w) (mg := mg) (base := base) F43 R15 b15 k15 (PySem.W.mg_of X G a15) R29 b29 k29 (PySem.W.mg_of X G a29) R34 b34 k34 (PySem.W.mg_of X G a34) R31 b31 k31 (PySem.W.mg_of X G a31) hF_kept_fault hF_kept_gaps hF_kept_givens hF_kept_sides hF_kept_wishes hT_form m_len (PySem.W.mg_of X G a_GAPS) (PySem.W.mg_of X G a_GIVENS) (PySem.W.mg_of X G a_MOST_WISHES)
  have hT_fault : ∀ q ∈ Tb_fault 70, MethOk l.prog w K mg base CX0 1 "fault" q.1 q.2 := (fun q hq => by
      simp only [Tb_fault, List.mem_cons, List.not_mem_nil, or_false] at hq
      subst hq
      · exact MethOk.of aC_Task cl_Task me_Task_fault R14 b14 (by omega)
    )
  have R44 := ok_law (P := l.prog) (w := w) (mg := mg) (base := base) F44 R2 b2 k2 (PySem.W.mg_of X G a2) R5 b5 k5 (PySem.W.mg_of X G a5) R1 b1 k1 (PySem.W.mg_of X G a1) R7 b7 k7 (PySem.W.mg_of X G a7) R9 b9 k9 (PySem.W.mg_of X G a9) R11 b11 k11 (PySem.W.mg_of X G a11) R12 b12 k12 (PySem.W.mg_of X G a12) R13 b13 k13 (PySem.W.mg_of X G a13) aC_Task (PySem.W.mg_of X G aC_Task) M_Task R43 b43 hT_fault m_len
  exact R44
theorem walk {l : PySem.W.OpenLaw} {q : Program} {loose : List Str} {XP : (Str → Option Value) → Heap → Prop} {YP : World → Heap → Prop} {d : DefRec} {K : Params → PySem.W.Frag} (hn : l.most = some 63) (hdf : d.params.defaults = [])
    (hY : ∀ (w : World) (h : Heap), YP w h → (K w.params).In h)
    (F : ∀ (w : World) (mg : Str → Option Value) (fa : Addr) (h : Heap), (K w.params).In h → h.Ns mainGlobals mg → mg d.name = some (.ref fa) →
      ∃ fd : FuncData, (∀ (s : Shared) (u : Value), BindsTo s fd ⟨[u], []⟩ [("_law_script", u)]) ∧ ∀ base : Heap, (K w.params).In base → base.Ns mainGlobals mg → FnOk l.prog w (K w.params) mg base CX0 129 fa fd ["_law_script"] (spD (K w.params) spLaw)) :
    PySem.W.WalkO q loose XP YP l.row.toRowW d [] (fun f vs => PySem.call f vs) :=
  L2.walk_ofB (n := 63) (k := 129) (x := "_law_script") (CX := fun _ => CX0) (sp := fun w => spD (K w.params) spLaw) hn (by decide) hdf ⟨rfl, by decide, by decide⟩ hY F (fun w H a ns hl hb _ hS => spLaw_at hl hb hS) fun _ _ _ _ _ z => z
end DL
open PySem PySem.W PyProof.Rows
set_option maxRecDepth 100000 in
set_option maxHeartbeats 0 in
theorem PySem.Challenge.cw_fillsay_k33_fault_of_wishes_holds : PySem.Challenge.rw_fillsay_k33_fault_of_wishes.Holds := by
  w_on; o_law; k_head; (case hw => w_witness2)
  k_fill
  refine DL.walk (l := PySem.Challenge.rw_fillsay_k33_fault_of_wishes) rfl rfl (fun w h Y => PySem.W.kIn_of Y) ?F
  case F =>
    intro w mg fa h KX G hmg
    refine' DL.all_mk KX G hmg ?a1 ?a2 ?a3 ?a4 ?a5 ?a6 ?a7 ?a8 ?a9 ?a10 ?a11 ?a12 ?a13 ?a15 ?a16 ?a20 ?a21 ?a22 ?a23 ?a29 ?a30 ?a31 ?a32 ?a33 ?a34 ?a38 ?a44 ?aC_Always ?fi_Always ?fm_Always_form ?fm_Always_size ?aC_And ?fi_And ?fm_And_form ?fm_And_size ?aC_Either ?fi_Either ?fm_Either_form ?fm_Either_size ?aC_Letter ?fi_Letter ?fm_Letter_form ?fm_Letter_size ?aC_Never ?fi_Never ?fm_Never_form ?fm_Never_size ?aC_Not ?fi_Not ?fm_Not_form ?fm_Not_size ?aC_Or ?fi_Or ?fm_Or_form ?fm_Or_size ?aC_Task ?fi_Task ?fm_Task_fault ?l1 ?c1 ?k1 ?l2 ?c2 ?k2 ?l3 ?c3 ?k3 ?l4 ?c4 ?k4 ?l5 ?c5 ?k5 ?l6 ?c6 ?k6 ?l7 ?c7 ?k7 ?l8 ?c8 ?k8 ?l9 ?c9 ?k9 ?l10 ?c10 ?k10 ?l11 ?c11 ?k11 ?l12 ?c12 ?k12 ?l13 ?c13 ?k13 ?l14 ?c14 ?k14 ?i14 ?l15 ?c15 ?k15 ?l16 ?c16 ?k16 ?l17 ?c17 ?k17 ?i17 ?l18 ?c18 ?k18 ?i18 ?l19 ?c19 ?k19 ?i19 ?l20 ?c20 ?k20 ?l21 ?c21 ?k21 ?l22 ?c22 ?k22 ?l23 ?c23 ?k23 ?l24 ?c24 ?k24 ?i24 ?l25 ?c25 ?k25 ?i25 ?l26 ?c26 ?k26 ?i26 ?l27 ?c27 ?k27 ?i27 ?l28 ?c28 ?k28 ?i28 ?l29 ?c29 ?k29 ?l30 ?c30 ?k30 ?l31 ?c31 ?k31 ?l32 ?c32 ?k32 ?l33 ?c33 ?k33 ?l34 ?c34 ?k34 ?l35 ?c35 ?k35 ?i35 ?l36 ?c36 ?k36 ?i36 ?l37 ?c37 ?k37 ?i37 ?l38 ?c38 ?k38 ?l39 ?c39 ?k39 ?i39 ?l40 ?c40 ?k40 ?i40 ?l41 ?c41 ?k41 ?i41 ?l42 ?c42 ?k42 ?i42 ?l43 ?c43 ?k43 ?i43 ?l44 ?c44 ?k44 ?pg_Always ?hd_Always ?po_Always ?sa_Always ?mk_Always ?kc_Always ?tp_Always ?pg_And ?hd_And ?po_And ?sa_And ?mk_And ?kc_And ?nf_And_one ?nf_And_other ?pg_Either ?hd_Either ?po_Either ?sa_Either ?mk_Either ?kc_Either ?nf_Either_one ?nf_Either_other ?pg_Letter ?hd_Letter ?po_Letter ?sa_Letter ?mk_Letter ?kc_Letter ?nf_Letter_letter ?pg_Never ?hd_Never ?po_Never ?sa_Never ?mk_Never ?kc_Never ?tp_Never ?pg_Not ?hd_Not ?po_Not ?sa_Not ?mk_Not ?kc_Not ?nf_Not_one ?pg_Or ?hd_Or ?po_Or ?sa_Or ?mk_Or ?kc_Or ?nf_Or_one ?nf_Or_other ?pg_Task ?hd_Task ?po_Task ?sa_Task ?mk_Task ?kc_Task ?nf_Task_kept_fault ?nf_Task_kept_gaps ?nf_Task_kept_givens ?nf_Task_kept_sides ?nf_Task_kept_wishes ?z_all ?z_enumerate ?z_int ?z_isinstance ?z_len ?z_list ?z_min ?z_range ?z_set ?z_sorted ?z_str ?z_tuple ?a_GAPS ?a_GIVENS ?a_LETTERS_texts ?a_LETTERS_wishes ?a_MOST_PARTS ?a_MOST_WISHES
    (case a1 => k_is)
    (case a2 => k_is)
    (case a3 => k_is)
    (case a4 => k_is)
    (case a5 => k_is)
    (case a6 => k_is)
    (case a7 => k_is)
    (case a8 => k_is)
    (case a9 => k_is)
    (case a10 => k_is)
    (case a11 => k_is)
    (case a12 => k_is)
    (case a13 => k_is)
    (case a15 => k_is)
    (case a16 => k_is)
    (case a20 => k_is)
    (case a21 => k_is)
    (case a22 => k_is)
    (case a23 => k_is)
    (case a29 => k_is)
    (case a30 => k_is)
    (case a31 => k_is)
    (case a32 => k_is)
    (case a33 => k_is)
    (case a34 => k_is)
    (case a38 => k_is)
    (case a44 => k_is)
    (case aC_Always => k_is)
    (case fi_Always => k_is)
    (case fm_Always_form => k_is)
    (case fm_Always_size => k_is)
    (case aC_And => k_is)
    (case fi_And => k_is)
    (case fm_And_form => k_is)
    (case fm_And_size => k_is)
    (case aC_Either => k_is)
    (case fi_Either => k_is)
    (case fm_Either_form => k_is)
    (case fm_Either_size => k_is)
    (case aC_Letter => k_is)
    (case fi_Letter => k_is)
    (case fm_Letter_form => k_is)
    (case fm_Letter_size => k_is)
    (case aC_Never => k_is)
    (case fi_Never => k_is)
    (case fm_Never_form => k_is)
    (case fm_Never_size => k_is)
    (case aC_Not => k_is)
    (case fi_Not => k_is)
    (case fm_Not_form => k_is)
    (case fm_Not_size => k_is)
    (case aC_Or => k_is)
    (case fi_Or => k_is)
    (case fm_Or_form => k_is)
    (case fm_Or_size => k_is)
    (case aC_Task => k_is)
    (case fi_Task => k_is)
    (case fm_Task_fault => k_is)
    (case l1 => k_is)
    (case c1 => k_is)
    (case k1 => k_is)
    (case l2 => k_is)
    (case c2 => k_is)
    (case k2 => k_is)
    (case l3 => k_is)
    (case c3 => k_is)
    (case k3 => k_is)
    (case l4 => k_is)
    (case c4 => k_is)
    (case k4 => k_is)
    (case l5 => k_is)
    (case c5 => k_is)
    (case k5 => k_is)
    (case l6 => k_is)
    (case c6 => k_is)
    (case k6 => k_is)
    (case l7 => k_is)
    (case c7 => k_is)
    (case k7 => k_is)
    (case l8 => k_is)
    (case c8 => k_is)
    (case k8 => k_is)
    (case l9 => k_is)
    (case c9 => k_is)
    (case k9 => k_is)
    (case l10 => k_is)
    (case c10 => k_is)
    (case k10 => k_is)
    (case l11 => k_is)
    (case c11 => k_is)
    (case k11 => k_is)
    (case l12 => k_is)
    (case c12 => k_is)
    (case k12 => k_is)
    (case l13 => k_is)
    (case c13 => k_is)
    (case k13 => k_is)
    (case l14 => k_is)
    (case c14 => k_is)
    (case k14 => k_is)
    (case i14 => k_is)
    (case l15 => k_is)
    (case c15 => k_is)
    (case k15 => k_is)
    (case l16 => k_is)
    (case c16 => k_is)
    (case k16 => k_is)
    (case l17 => k_is)
    (case c17 => k_is)
    (case k17 => k_is)
    (case i17 => k_is)
    (case l18 => k_is)
    (case c18 => k_is)
    (case k18 => k_is)
    (case i18 => k_is)
    (case l19 => k_is)
    (case c19 => k_is)
    (case k19 => k_is)
    (case i19 => k_is)
    (case l20 => k_is)
    (case c20 => k_is)
    (case k20 => k_is)
    (case l21 => k_is)
    (case c21 => k_is)
    (case k21 => k_is)
    (case l22 => k_is)
    (case c22 => k_is)
    (case k22 => k_is)
    (case l23 => k_is)
    (case c23 => k_is)
    (case k23 => k_is)
    (case l24 => k_is)
    (case c24 => k_is)
    (case k24 => k_is)
    (case i24 => k_is)
    (case l25 => k_is)
    (case c25 => k_is)
    (case k25 => k_is)
    (case i25 => k_is)
    (case l26 => k_is)
    (case c26 => k_is)
    (case k26 => k_is)
    (case i26 => k_is)
    (case l27 => k_is)
    (case c27 => k_is)
    (case k27 => k_is)
    (case i27 => k_is)
    (case l28 => k_is)
    (case c28 => k_is)
    (case k28 => k_is)
    (case i28 => k_is)
    (case l29 => k_is)
    (case c29 => k_is)
    (case k29 => k_is)
    (case l30 => k_is)
    (case c30 => k_is)
    (case k30 => k_is)
    (case l31 => k_is)
    (case c31 => k_is)
    (case k31 => k_is)
    (case l32 => k_is)
    (case c32 => k_is)
    (case k32 => k_is)
    (case l33 => k_is)
    (case c33 => k_is)
    (case k33 => k_is)
    (case l34 => k_is)
    (case c34 => k_is)
    (case k34 => k_is)
    (case l35 => k_is)
    (case c35 => k_is)
    (case k35 => k_is)
    (case i35 => k_is)
    (case l36 => k_is)
    (case c36 => k_is)
    (case k36 => k_is)
    (case i36 => k_is)
    (case l37 => k_is)
    (case c37 => k_is)
    (case k37 => k_is)
    (case i37 => k_is)
    (case l38 => k_is)
    (case c38 => k_is)
    (case k38 => k_is)
    (case l39 => k_is)
    (case c39 => k_is)
    (case k39 => k_is)
    (case i39 => k_is)
    (case l40 => k_is)
    (case c40 => k_is)
    (case k40 => k_is)
    (case i40 => k_is)
    (case l41 => k_is)
    (case c41 => k_is)
    (case k41 => k_is)
    (case i41 => k_is)
    (case l42 => k_is)
    (case c42 => k_is)
    (case k42 => k_is)
    (case i42 => k_is)
    (case l43 => k_is)
    (case c43 => k_is)
    (case k43 => k_is)
    (case i43 => k_is)
    (case l44 => k_is)
    (case c44 => k_is)
    (case k44 => k_is)
    (case pg_Always => k_is)
    (case hd_Always => k_is)
    (case po_Always => k_is)
    (case sa_Always => k_is)
    (case mk_Always => k_is)
    (case kc_Always => k_is)
    (case tp_Always => k_is)
    (case pg_And => k_is)
    (case hd_And => k_is)
    (case po_And => k_is)
    (case sa_And => k_is)
    (case mk_And => k_is)
    (case kc_And => k_is)
    (case nf_And_one => k_is)
    (case nf_And_other => k_is)
    (case pg_Either => k_is)
    (case hd_Either => k_is)
    (case po_Either => k_is)
    (case sa_Either => k_is)
    (case mk_Either => k_is)
    (case kc_Either => k_is)
    (case nf_Either_one => k_is)
    (case nf_Either_other => k_is)
    (case pg_Letter => k_is)
    (case hd_Letter => k_is)
    (case po_Letter => k_is)
    (case sa_Letter => k_is)
    (case mk_Letter => k_is)
    (case kc_Letter => k_is)
    (case nf_Letter_letter => k_is)
    (case pg_Never => k_is)
    (case hd_Never => k_is)
    (case po_Never => k_is)
    (case sa_Never => k_is)
    (case mk_Never => k_is)
    (case kc_Never => k_is)
    (case tp_Never => k_is)
    (case pg_Not => k_is)
    (case hd_Not => k_is)
    (case po_Not => k_is)
    (case sa_Not => k_is)
    (case mk_Not => k_is)
    (case kc_Not => k_is)
    (case nf_Not_one => k_is)
    (case pg_Or => k_is)
    (case hd_Or => k_is)
    (case po_Or => k_is)
    (case sa_Or => k_is)
    (case mk_Or => k_is)
    (case kc_Or => k_is)
    (case nf_Or_one => k_is)
    (case nf_Or_other => k_is)
    (case pg_Task => k_is)
    (case hd_Task => k_is)
    (case po_Task => k_is)
    (case sa_Task => k_is)
    (case mk_Task => k_is)
    (case kc_Task => k_is)
    (case nf_Task_kept_fault => k_is)
    (case nf_Task_kept_gaps => k_is)
    (case nf_Task_kept_givens => k_is)
    (case nf_Task_kept_sides => k_is)
    (case nf_Task_kept_wishes => k_is)
    (case z_all => k_is)
    (case z_enumerate => k_is)
    (case z_int => k_is)
    (case z_isinstance => k_is)
    (case z_len => k_is)
    (case z_list => k_is)
    (case z_min => k_is)
    (case z_range => k_is)
    (case z_set => k_is)
    (case z_sorted => k_is)
    (case z_str => k_is)
    (case z_tuple => k_is)
    (case a_GAPS => k_is)
    (case a_GIVENS => k_is)
    (case a_LETTERS_texts => k_is)
    (case a_LETTERS_wishes => k_is)
    (case a_MOST_PARTS => k_is)
    (case a_MOST_WISHES => k_is)
