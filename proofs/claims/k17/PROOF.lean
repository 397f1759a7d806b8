import PyProof.Rows.All
import HandS.HeadHook4
import HandS.Head2
import HandS.EndBits
import HandS.Words
import HandS.WordsExc
import KE.KStateDown
import Wide.All
import OpenK.AllK
import Wide.FinOn
import HandS.ForMost
import HandS.Exc
import HandS.TryOnly
import HandS.ExcOwn
import HandS.Wide
import HandS.Set
import HandS.SetFor
import HandS.Strs
import PyProof.StrWalks
import PyProof.WalksMore
import HandS.More
import KE.KDictList
import KE.KDictSum
import PyProof.Rows.SortShellAny
import HandS.TupAny
import HandS.DeepEq
import PyProof.ListStr
import HandS.DictComp
import HandS.IsInst
import KE.GoesMore
import PyProof.EnumMake
import HandS.Rev
import HandS.TupLe
import HandS.WideBits
import PyProof.CollectStr
import KE.GoesEnum
import HandS.New
import HandS.StrMore
import HandS.ListItems
import HandS.Conv
import KE.KDictZip
import HandS.Replace
import HandS.Style
import HandS.SortRule
import HandS.ExcIs
import HandS.ExcField
import HandS.Small
import HandS.RevTup
import PyProof.ListNew
import HandS.Deep
import PySem.Challenge.RW_fillsay_k17_whole_leading
set_option Elab.async false
set_option linter.all false
set_option maxRecDepth 100000
set_option maxHeartbeats 4000000
namespace DL
open PySem PySem.Spec L2
theorem walk_ofEB {l : PySem.W.OpenLaw} {n k : Nat} {q : Program} {loose : List Str} {XP : (Str → Option Value) → Heap → Prop} {YP : World → Heap → Prop} {d : DefRec} {CX : CXT} {x : Str}
    (hn : l.most = some n) (hn2 : n ≤ sizeLine) (hdf : d.params.defaults = []) (hr : Room k callerA)
    (F : ∀ (w : World) (mg : Str → Option Value) (fa : Addr) (h : Heap), YP w h → h.Ns mainGlobals mg → mg d.name = some (.ref fa) →
      ∃ (K : PySem.W.Frag) (fd : FuncData) (sp : Sp), K.In h ∧ (∀ (s : Shared) (u : Value), BindsTo s fd ⟨[u], []⟩ [(x, u)]) ∧
        (∀ (H : Hp) (a : Addr) (ns : List Int), ns.length ≤ n → (∀ z ∈ ns, Builtin.Int.intBits z ≤ 1048576) → Only H → SqL K H a (ns.map V.int) → sp [.ref a] H (fun v _ => v = .bl true) fun _ _ _ => False) ∧
        ∀ base : Heap, K.In base → base.Ns mainGlobals mg → FnOk l.prog w K mg base CX k fa fd [x] sp)
    (hCX : ∀ (H : Hp) (s : Shared) (e : Value) (s' : Shared), CX [] H s (fun _ _ _ => False) e s' → False) :
    PySem.W.WalkO q loose XP YP l.row.toRowW d [] (fun f vs => PySem.call f vs) := by
  refine Att.attach_callB hn hdf fun w s₀ s₁ mg mb fa o pm cd doc a vs ns G Y ho hd hcd hmg hobj hints hlen hbits hg => ?_
  obtain ⟨K, fd, sp, KX, hb, hsp, hF⟩ := F w mg fa _ Y G.T.g hmg
  exact law_call KX G.T.g G.T.b G.T.builtins G.T.nolimit hg hobj hints (Nat.le_trans hlen hn2) hr hF hb (fun H hO hS => hsp H a ns hlen hbits hO hS) fun H e s' => hCX H s₁ e s'
theorem funD_parts {K : PySem.W.Frag} {x q : Str} {ar : Arguments} {body : List Stmt} {sc : Scope} {f : Addr} {fd : FuncData} (F : FunD K x q ar body sc [] [] f fd) :
    ∃ (oc : Value) (od : Option Addr) (kV doc pm : Value) (an : Option Addr) (cdv ct : Value) (osl : Array (Option Value)),
      K.lookup f = some ⟨oc, od, .func (PySem.W.fnOf x q ar body sc .none kV doc pm an cdv ct), osl⟩ ∧ PySem.W.codeIn K cdv q = true ∧ PySem.W.keepIn K (.ref f) = true := by
  obtain ⟨⟨oc, od, dV, kV, doc, pm, an, cdv, ct, osl, e, lk, c, hd, _⟩, kp⟩ := F
  subst e
  rcases hd with ⟨_, rfl⟩ | ⟨h, _⟩
  · exact ⟨oc, od, kV, doc, pm, an, cdv, ct, osl, lk, c, kp⟩
  · exact absurd rfl h
theorem bget {bs : List (PySem.W.Frag → Bool)} {K : PySem.W.Frag} (h : (bs.all fun b => b K) = true) (i : Nat) {b : PySem.W.Frag → Bool} (e : bs[i]? = some b := by rfl) : b K = true :=
  List.all_eq_true.mp h b (List.mem_of_getElem? e)
def refs1 (o : Obj) : List Addr := match o.data with
  | .dict es _ => es.toList.flatMap fun e => He.refV e.val
  | .func fd => He.refV fd.code
  | .cls cd => [cd.ns]
  | _ => []
def stepG (g : Addr → Option Obj) (as : List Addr) : List Addr := as.flatMap fun a => match g a with
  | some o => refs1 o
  | none => []
def frL {α : Type} : List Nat → (List Nat → α) → α
  | [], k => k []
  | a :: r, k => HandSHeadRun.frNat a fun a => frL r fun r => k (a :: r)
theorem frL_eq {α : Type} : ∀ (l : List Nat) (k : List Nat → α), frL l k = k l
  | [], _ => rfl
  | a :: r, k => by rw [frL, HandSHeadRun.frNat_eq, frL_eq r]
def frK {α : Type} : List (Addr × Obj) → (List (Addr × Obj) → α) → α
  | [], k => k []
  | (a, ⟨c, d, dt, sl⟩) :: r, k => HandSHeadRun.frNat a fun a => frK r fun r => k ((a, ⟨c, d, dt, sl⟩) :: r)
theorem frK_eq {α : Type} : ∀ (l : List (Addr × Obj)) (k : List (Addr × Obj) → α), frK l k = k l
  | [], _ => rfl
  | (a, ⟨c, d, dt, sl⟩) :: r, k => by rw [frK, HandSHeadRun.frNat_eq, frK_eq r]
abbrev AlM : Type := Bool × List He.FnW
def factsM (fn : List He.DefD) (hx : List (PySem.W.Frag → Bool)) (K : PySem.W.Frag) : AlM := ((hx.all fun b => b K) && fn.all fun d => d.ok K, fn.map fun d => He.fnW K d.at_)
def valM (fn : List He.DefD) : AlM := (true, fn.map He.DefD.val)
def obsM (fn : List He.DefD) (hx : List (PySem.W.Frag → Bool)) (g : Addr → Option Obj) : AlM :=
  frL (stepG g [mainGlobals]) fun l1 => frL (stepG g l1) fun l2 => frL (stepG g l2) fun l3 => frL (stepG g l3) fun l4 => frK (He.frG g (mainGlobals :: (l1 ++ (l2 ++ (l3 ++ l4))))) fun K => factsM fn hx K
def SaysM (fn : List He.DefD) (hx : List (PySem.W.Frag → Bool)) (K : PySem.W.Frag) : Prop := factsM fn hx K = valM fn
def hookM (fn : List He.DefD) (hx : List (PySem.W.Frag → Bool)) : PySem.W.Hook where
  α := AlM
  obs := fun s => obsM fn hx s.heap.get?
  val := fun _ => valM fn
  says := fun _ h => ∃ K : PySem.W.Frag, K.In h ∧ SaysM fn hx K
  of := fun w s e => by
    have e : obsM fn hx s.heap.get? = valM fn := e
    unfold obsM at e
    rw [frL_eq, frL_eq, frL_eq, frL_eq, frK_eq] at e
    exact ⟨_, He.frG_in, e⟩
  keeps := fun _ _ _ ⟨K, hK, c⟩ k => ⟨K, PySem.W.Frag.In.keeps hK k, c⟩
theorem obsM_eq {fn : List He.DefD} {hx : List (PySem.W.Frag → Bool)} {g : Addr → Option Obj} {s : Shared} (h : ∀ a, g a = s.heap.get? a) : obsM fn hx g = (hookM fn hx).obs s := by
  have e : g = s.heap.get? := funext h
  rw [e] <;> rfl
section
variable {fn : List He.DefD} {hx : List (PySem.W.Frag → Bool)} {K : PySem.W.Frag}
theorem SaysM.more (c : SaysM fn hx K) : (hx.all fun b => b K) = true := (He.ba (show ((hx.all fun b => b K) && fn.all fun d => d.ok K) = true from congrArg (fun z : AlM => z.1) c)).1
theorem SaysM.def_ (c : SaysM fn hx K) (i : Nat) {d : He.DefD} (h : fn[i]? = some d := by rfl) : ∃ fd, FunD K d.name d.qual d.params d.body d.scope (d.dvs K) (d.kws K) (He.fAd K d.at_) fd := by
  have c2 := (He.ba (show ((hx.all fun b => b K) && fn.all fun d => d.ok K) = true from congrArg (fun z : AlM => z.1) c)).2
  have e : fn.map (fun d => He.fnW K d.at_) = fn.map He.DefD.val := congrArg (fun z : AlM => z.2) c
  have e2 : (fn.map fun d => He.fnW K d.at_)[i]? = (fn.map He.DefD.val)[i]? := by rw [e]
  rw [List.getElem?_map, List.getElem?_map, h] at e2
  exact He.DefD.funD (Option.some.inj e2) (List.all_eq_true.mp c2 d (List.mem_of_getElem? h))
end
end DL
namespace DL
open PySem L2
def top (i : Nat) : Stmt := PySem.Challenge.pw_fillsay_k17_whole_leading.main.body.getD i (.Pass ⟨0, 0, 0, 0⟩)
abbrev s_L_letters : Stmt := top 11
abbrev s_L_mixed : Stmt := top 10
abbrev s_gathered : Stmt := top 1
abbrev s_added : Stmt := top 2
abbrev s_both_letters : Stmt := top 3
abbrev s_multiplied : Stmt := top 4
abbrev s_form_of : Stmt := top 8
abbrev s_L_within_ca5 : Stmt := top 14
abbrev s_opposite : Stmt := top 5
abbrev s_leads : Stmt := top 7
abbrev s_joined : Stmt := top 6
abbrev s_law : Stmt := top 15
def hd1 : He.DefD := ⟨("_law_letters", none), "_law_letters", "_law_letters", defArgs s_L_letters, defBody s_L_letters, defScope s_L_letters, [], []⟩
def hd2 : He.DefD := ⟨("_law_mixed", none), "_law_mixed", "_law_mixed", defArgs s_L_mixed, defBody s_L_mixed, defScope s_L_mixed, [], []⟩
def hd3 : He.DefD := ⟨("gathered", none), "gathered", "gathered", defArgs s_gathered, defBody s_gathered, defScope s_gathered, [], []⟩
def hd4 : He.DefD := ⟨("added", none), "added", "added", defArgs s_added, defBody s_added, defScope s_added, [], []⟩
def hd5 : He.DefD := ⟨("both_letters", none), "both_letters", "both_letters", defArgs s_both_letters, defBody s_both_letters, defScope s_both_letters, [], []⟩
def hd6 : He.DefD := ⟨("multiplied", none), "multiplied", "multiplied", defArgs s_multiplied, defBody s_multiplied, defScope s_multiplied, [], []⟩
def hd7 : He.DefD := ⟨("form_of", none), "form_of", "form_of", defArgs s_form_of, defBody s_form_of, defScope s_form_of, [], []⟩
def hd8 : He.DefD := ⟨("_law_within", none), "_law_within", "_law_within", defArgs s_L_within_ca5, defBody s_L_within_ca5, defScope s_L_within_ca5, [], []⟩
def hd9 : He.DefD := ⟨("opposite", none), "opposite", "opposite", defArgs s_opposite, defBody s_opposite, defScope s_opposite, [], []⟩
def hd10 : He.DefD := ⟨("leads", none), "leads", "leads", defArgs s_leads, defBody s_leads, defScope s_leads, [], []⟩
def hd11 : He.DefD := ⟨("joined", none), "joined", "joined", defArgs s_joined, defBody s_joined, defScope s_joined, [], []⟩
def hd12 : He.DefD := ⟨("law", none), "law", "law", defArgs s_law, defBody s_law, defScope s_law, [], []⟩
def hfn : List He.DefD := [hd1, hd2, hd3, hd4, hd5, hd6, hd7, hd8, hd9, hd10, hd11, hd12]
def hxe0 (K : PySem.W.Frag) : Bool := decide (PySem.W.nsIn K mainGlobals "_law_letters" = some (some (.ref (He.fAd K ("_law_letters", none)))))
def hxe1 (K : PySem.W.Frag) : Bool := decide (PySem.W.nsIn K mainGlobals "_law_mixed" = some (some (.ref (He.fAd K ("_law_mixed", none)))))
def hxe2 (K : PySem.W.Frag) : Bool := decide (PySem.W.nsIn K mainGlobals "gathered" = some (some (.ref (He.fAd K ("gathered", none)))))
def hxe3 (K : PySem.W.Frag) : Bool := decide (PySem.W.nsIn K mainGlobals "added" = some (some (.ref (He.fAd K ("added", none)))))
def hxe4 (K : PySem.W.Frag) : Bool := decide (PySem.W.nsIn K mainGlobals "both_letters" = some (some (.ref (He.fAd K ("both_letters", none)))))
def hxe5 (K : PySem.W.Frag) : Bool := decide (PySem.W.nsIn K mainGlobals "multiplied" = some (some (.ref (He.fAd K ("multiplied", none)))))
def hxe6 (K : PySem.W.Frag) : Bool := decide (PySem.W.nsIn K mainGlobals "form_of" = some (some (.ref (He.fAd K ("form_of", none)))))
def hxe7 (K : PySem.W.Frag) : Bool := decide (PySem.W.nsIn K mainGlobals "_law_within" = some (some (.ref (He.fAd K ("_law_within", none)))))
def hxe8 (K : PySem.W.Frag) : Bool := decide (PySem.W.nsIn K mainGlobals "opposite" = some (some (.ref (He.fAd K ("opposite", none)))))
def hxe9 (K : PySem.W.Frag) : Bool := decide (PySem.W.nsIn K mainGlobals "leads" = some (some (.ref (He.fAd K ("leads", none)))))
def hxe10 (K : PySem.W.Frag) : Bool := decide (PySem.W.nsIn K mainGlobals "joined" = some (some (.ref (He.fAd K ("joined", none)))))
def hxe11 (K : PySem.W.Frag) : Bool := decide (PySem.W.nsIn K mainGlobals "law" = some (some (.ref (He.fAd K ("law", none)))))
def hxe12 (K : PySem.W.Frag) : Bool := decide (PySem.W.nsIn K mainGlobals "all" = some none)
def hxe13 (K : PySem.W.Frag) : Bool := decide (PySem.W.nsIn K mainGlobals "enumerate" = some none)
def hxe14 (K : PySem.W.Frag) : Bool := decide (PySem.W.nsIn K mainGlobals "len" = some none)
def hxe15 (K : PySem.W.Frag) : Bool := decide (PySem.W.nsIn K mainGlobals "list" = some none)
def hxe16 (K : PySem.W.Frag) : Bool := decide (PySem.W.nsIn K mainGlobals "min" = some none)
def hxe17 (K : PySem.W.Frag) : Bool := decide (PySem.W.nsIn K mainGlobals "range" = some none)
def hxe18 (K : PySem.W.Frag) : Bool := decide (PySem.W.nsIn K mainGlobals "set" = some none)
def hxe19 (K : PySem.W.Frag) : Bool := decide (PySem.W.nsIn K mainGlobals "sorted" = some none)
def hxe20 (K : PySem.W.Frag) : Bool := decide (PySem.W.nsIn K mainGlobals "tuple" = some none)
def hxe21 (K : PySem.W.Frag) : Bool := decide (PySem.W.nsIn K mainGlobals "zip" = some none)
def hex : List (PySem.W.Frag → Bool) := [hxe0, hxe1, hxe2, hxe3, hxe4, hxe5, hxe6, hxe7, hxe8, hxe9, hxe10, hxe11, hxe12, hxe13, hxe14, hxe15, hxe16, hxe17, hxe18, hxe19, hxe20, hxe21]
def hnm0 : List PySem.Str := ["gathered", "added", "both_letters", "multiplied", "opposite", "joined", "leads", "form_of", "_law_mixed", "_law_letters", "_law_product", "_law_form", "_law_within"]
def hnms : List PySem.Str := hnm0
abbrev hR : PySem.W.OpenRow := PySem.W.OpenLaw.row PySem.Challenge.rw_fillsay_k17_whole_leading
abbrev hqv : Program := PySem.W.view hR.prog [15]
abbrev hhk : PySem.W.Hook := hookM hfn hex
def hob (s : PySem.W.SharedT) : AlM := obsM hfn hex (HandSHeadRun.getT s)
theorem hob_eq (s : PySem.W.SharedT) : hob s = hhk.obs s.abs := obsM_eq (HandSHeadRun.getT_eq s)
set_option maxHeartbeats 0 in
theorem hrun (w : World) : HandSHeadRun.RunEq hR hqv hhk hob 20000 hnms w := by
  intro os
  kernel_rfl
end DL
namespace DL
open PySem L2
inductive D where
  | non | bl (b : Bool) | int (i : Int) | str (x : Str) | ref (a : Addr) | ty (n : String)
  | cel (ns : List Int) | lst (xs : List D) | tup (xs : List D) | dic (ks : List Key) (xs : List D) | ins (N : Str) (ns : List Str) (xs : List D)
mutual
def Rep (K : PySem.W.Frag) (F : Hp) : D → V → Prop
  | .non, v => v = .non
  | .bl b, v => v = .bl b
  | .int i, v => v = .int i
  | .str x, v => v = .str x
  | .ref a, v => v = .ref a
  | .ty n, v => v = .ty n
  | .cel ns, v => ∃ a, v = .ref a ∧ SqL K F a (ns.map V.int)
  | .lst xs, v => ∃ a vs, v = .ref a ∧ F a = some (.lst vs) ∧ Reps K F xs vs
  | .tup xs, v => ∃ a vs, v = .ref a ∧ SqT K F a vs ∧ Reps K F xs vs
  | .dic ks xs, v => ∃ a vs, v = .ref a ∧ Rd F a (.dK (ks.zip vs)) ∧ ks.length = vs.length ∧ Reps K F xs vs
  | .ins N ns xs, v => ∃ a C dx vs, v = .ref a ∧ PySem.W.nsIn K mainGlobals N = some (some (.ref C)) ∧ F a = some (.ins C dx (ns.zip vs)) ∧ ns.length = vs.length ∧ Reps K F xs vs
def Reps (K : PySem.W.Frag) (F : Hp) : List D → List V → Prop
  | [], vs => vs = []
  | x :: xs, vs => ∃ v r, vs = v :: r ∧ Rep K F x v ∧ Reps K F xs r
end
section
variable {K : PySem.W.Frag} {F F' H H' : Hp}
theorem Same.rd {a : Addr} {o : HO} (e : Same F F') (h : Rd F a o) : Rd F' a o := by
  rcases h with h | ⟨o', h⟩
  · exact .inl (e _ _ h)
  · exact .inr ⟨o', e _ _ h⟩
theorem Same.sqT {a : Addr} {xs : List V} (e : Same F F') (h : SqT K F a xs) : SqT K F' a xs := by
  rcases h with (h | ⟨o, h⟩) | h
  · exact .inl (.inl (e _ _ h))
  · exact .inl (.inr ⟨o, e _ _ h⟩)
  · exact .inr h
mutual
theorem Rep.mono (e : Same F F') : ∀ (d : D) (v : V), Rep K F d v → Rep K F' d v
  | .non, _, h => h
  | .bl _, _, h => h
  | .int _, _, h => h
  | .str _, _, h => h
  | .ref _, _, h => h
  | .ty _, _, h => h
  | .cel ns, _, h => by
    obtain ⟨a, e1, h1⟩ := h
    exact ⟨a, e1, e.seq h1⟩
  | .lst xs, _, h => by
    obtain ⟨a, vs, e1, h1, h2⟩ := h
    exact ⟨a, vs, e1, e _ _ h1, Reps.mono e xs vs h2⟩
  | .tup xs, _, h => by
    obtain ⟨a, vs, e1, h1, h2⟩ := h
    exact ⟨a, vs, e1, Same.sqT e h1, Reps.mono e xs vs h2⟩
  | .dic ks xs, _, h => by
    obtain ⟨a, vs, e1, h1, l, h2⟩ := h
    exact ⟨a, vs, e1, Same.rd e h1, l, Reps.mono e xs vs h2⟩
  | .ins C ns xs, _, h => by
    obtain ⟨a, C, dx, vs, e1, g, h1, l, h2⟩ := h
    exact ⟨a, C, dx, vs, e1, g, e _ _ h1, l, Reps.mono e xs vs h2⟩
theorem Reps.mono (e : Same F F') : ∀ (ds : List D) (vs : List V), Reps K F ds vs → Reps K F' ds vs
  | [], _, h => h
  | x :: xs, _, h => by
    obtain ⟨v, r, e1, h1, h2⟩ := h
    exact ⟨v, r, e1, Rep.mono e x v h1, Reps.mono e xs r h2⟩
end
theorem Reps.len : ∀ {ds : List D} {vs : List V}, Reps K F ds vs → vs.length = ds.length
  | [], _, h => by cases h; rfl
  | x :: xs, _, h => by
    obtain ⟨v, r, e1, h1, h2⟩ := h
    subst e1
    exact congrArg Nat.succ (Reps.len h2)
theorem Reps.app : ∀ {ds es : List D} {vs us : List V}, Reps K F ds vs → Reps K F es us → Reps K F (ds ++ es) (vs ++ us)
  | [], _, _, _, h, g => by cases h; exact g
  | x :: xs, _, _, _, h, g => by
    obtain ⟨v, r, e1, h1, h2⟩ := h
    subst e1
    exact ⟨v, r ++ _, rfl, h1, Reps.app h2 g⟩
theorem Reps.one {d : D} {v : V} (h : Rep K F d v) : Reps K F [d] [v] := ⟨v, [], rfl, h, rfl⟩
theorem Reps.get : ∀ {ds : List D} {vs : List V} {i : Nat} {d : D}, Reps K F ds vs → ds[i]? = some d → ∃ v, vs[i]? = some v ∧ Rep K F d v
  | [], _, _, _, _, e => by simp at e
  | x :: xs, _, 0, d, h, e => by
    obtain ⟨v, r, e1, h1, h2⟩ := h
    subst e1
    simp at e; subst e
    exact ⟨v, rfl, h1⟩
  | x :: xs, _, i + 1, d, h, e => by
    obtain ⟨v, r, e1, h1, h2⟩ := h
    subst e1
    obtain ⟨u, q, z⟩ := Reps.get (i := i) (d := d) h2 (by simpa using e)
    exact ⟨u, by simpa using q, z⟩
theorem Reps.get' : ∀ {ds : List D} {vs : List V} {i : Nat} {v : V}, Reps K F ds vs → vs[i]? = some v → ∃ d, ds[i]? = some d ∧ Rep K F d v := by
  intro ds vs i v h e
  have hi : i < ds.length := by rw [← h.len]; exact (List.getElem?_eq_some_iff.mp e).1
  obtain ⟨u, q, z⟩ := h.get (List.getElem?_eq_getElem hi)
  rw [e] at q; cases q
  exact ⟨_, List.getElem?_eq_getElem hi, z⟩
theorem Reps.take : ∀ {ds : List D} {vs : List V} (n : Nat), Reps K F ds vs → Reps K F (ds.take n) (vs.take n)
  | _, _, 0, _ => rfl
  | [], _, _ + 1, h => by cases h; exact rfl
  | x :: xs, _, n + 1, h => by
    obtain ⟨v, r, e1, h1, h2⟩ := h
    subst e1
    exact ⟨v, r.take n, rfl, h1, Reps.take n h2⟩
theorem Reps.drop : ∀ {ds : List D} {vs : List V} (n : Nat), Reps K F ds vs → Reps K F (ds.drop n) (vs.drop n)
  | _, _, 0, h => h
  | [], _, _ + 1, h => by cases h; exact rfl
  | x :: xs, _, n + 1, h => by
    obtain ⟨v, r, e1, h1, h2⟩ := h
    subst e1
    exact Reps.drop n h2
theorem Reps.set : ∀ {ds : List D} {vs : List V} (i : Nat) {d : D} {v : V}, Reps K F ds vs → Rep K F d v → Reps K F (ds.set i d) (vs.set i v)
  | [], _, _, _, _, h, _ => by cases h; exact rfl
  | x :: xs, _, 0, d, v, h, z => by
    obtain ⟨u, r, e1, h1, h2⟩ := h
    subst e1
    exact ⟨v, r, rfl, z, h2⟩
  | x :: xs, _, i + 1, d, v, h, z => by
    obtain ⟨u, r, e1, h1, h2⟩ := h
    subst e1
    exact ⟨u, r.set i v, rfl, h1, Reps.set i h2 z⟩
theorem Reps.ints : ∀ {ns : List Int} {vs : List V}, Reps K F (ns.map D.int) vs ↔ vs = ns.map V.int
  | [], _ => Iff.rfl
  | n :: ns, vs => by
    constructor
    · rintro ⟨v, r, e1, h1, h2⟩
      rw [e1, show v = V.int n from h1, Reps.ints.mp h2]; rfl
    · intro e
      exact ⟨.int n, ns.map V.int, e, rfl, Reps.ints.mpr rfl⟩
theorem Reps.strs : ∀ {ns : List Str} {vs : List V}, Reps K F (ns.map D.str) vs ↔ vs = ns.map V.str
  | [], _ => Iff.rfl
  | n :: ns, vs => by
    constructor
    · rintro ⟨v, r, e1, h1, h2⟩
      rw [e1, show v = V.str n from h1, Reps.strs.mp h2]; rfl
    · intro e
      exact ⟨.str n, ns.map V.str, e, rfl, Reps.strs.mpr rfl⟩
end
inductive S where
  | d (x : D) | ol (xs : List D) | od (kvs : List (Key × D)) | oi (N : Str) (kvs : List (Str × D)) | os (a : Addr) (N : Str) (kvs : List (Str × D))
@[reducible] def S.own : S → Bool
  | .d _ => false
  | _ => true
@[reducible] def S.fz : S → D
  | .d x => x
  | .ol xs => .lst xs
  | .od kvs => .dic (kvs.map (·.1)) (kvs.map (·.2))
  | .oi C kvs => .ins C (kvs.map (·.1)) (kvs.map (·.2))
  | .os _ C kvs => .ins C (kvs.map (·.1)) (kvs.map (·.2))
abbrev R := List (Option S)
def D.flat : D → Bool
  | .cel _ => false
  | .lst _ => false
  | .tup _ => false
  | .dic _ _ => false
  | .ins _ _ _ => false
  | _ => true
theorem Rep.flat {K : PySem.W.Frag} {F F' : Hp} {d : D} {v : V} (h : Rep K F d v) (f : d.flat = true) : Rep K F' d v := by
  cases d <;> first | exact h | cases f
def SRep (K : PySem.W.Frag) (H0 F H : Hp) : S → V → Prop
  | .d x, v => Rep K F x v
  | .ol xs, v => ∃ a vs, v = .ref a ∧ H a = some (.lst vs) ∧ Reps K F xs vs ∧ H0 a = none ∧ F a = none
  | .od kvs, v => ∃ a kvs', v = .ref a ∧ H a = some (.dK kvs') ∧ kvs'.map (·.1) = kvs.map (·.1) ∧ Reps K F (kvs.map (·.2)) (kvs'.map (·.2)) ∧ H0 a = none ∧ F a = none
  | .oi N kvs, v => ∃ a C dx kvs', v = .ref a ∧ PySem.W.nsIn K mainGlobals N = some (some (.ref C)) ∧ H a = some (.ins C dx kvs') ∧ kvs'.map (·.1) = kvs.map (·.1) ∧ Reps K F (kvs.map (·.2)) (kvs'.map (·.2)) ∧ H0 a = none ∧ F a = none
  | .os a0 N kvs, v => v = .ref a0 ∧ ∃ a C dx kvs', v = .ref a ∧ PySem.W.nsIn K mainGlobals N = some (some (.ref C)) ∧ H a = some (.ins C dx kvs') ∧ kvs'.map (·.1) = kvs.map (·.1) ∧ Reps K F (kvs.map (·.2)) (kvs'.map (·.2)) ∧ H0 a = none ∧ F a = none
def Fr (ρ : R) (σ : St) (v : V) : Prop := ∀ (j : Nat) t, ρ[j]? = some (some t) → t.own = true → σ[j]? ≠ some (some v)
structure Rel (K : PySem.W.Frag) (H0 F0 F H : Hp) (ρ : R) (σ : St) : Prop where
  h : Same H0 H
  f : Same F0 F
  fh : Same F H
  nw : ∀ a, F a ≠ none → F0 a ≠ none ∨ H0 a = none
  len : ρ.length = σ.length
  at_ : ∀ (i : Nat) s, ρ[i]? = some (some s) → ∃ v, σ[i]? = some (some v) ∧ SRep K H0 F H s v
  ap : ∀ (i j : Nat) s t, ρ[i]? = some (some s) → ρ[j]? = some (some t) → s.own = true → t.own = true → σ[i]? = σ[j]? → i = j
section
variable {K : PySem.W.Frag} {H0 F0 F F' H H' : Hp} {ρ ρ' : R} {σ : St} {a : Addr} {o : HO} {i : Nat} {s : S} {v : V}
theorem Same.new {H : Hp} {p : Addr} {o : HO} (h : H p = none) : Same H (upd H p o) := fun b u e => by
  rw [upd_ne (ne_of_none e h)]; exact e
theorem SRep.grow (e : Same H H') (h : SRep K H0 F H s v) : SRep K H0 F H' s v := by
  cases s with
  | d x => exact h
  | ol xs => obtain ⟨a, vs, e1, h1, r⟩ := h; exact ⟨a, vs, e1, e _ _ h1, r⟩
  | od kvs => obtain ⟨a, vs, e1, h1, r⟩ := h; exact ⟨a, vs, e1, e _ _ h1, r⟩
  | oi N kvs => obtain ⟨a, C, dx, vs, e1, g, h1, r⟩ := h; exact ⟨a, C, dx, vs, e1, g, e _ _ h1, r⟩
  | os b N kvs => obtain ⟨e0, a, C, dx, vs, e1, g, h1, r⟩ := h; exact ⟨e0, a, C, dx, vs, e1, g, e _ _ h1, r⟩
theorem Rel.grow (r : Rel K H0 F0 F H ρ σ) (e : Same H H') : Rel K H0 F0 F H' ρ σ :=
  ⟨r.h.trans e, r.f, r.fh.trans e, r.nw, r.len, fun i s q => let ⟨v, q1, q2⟩ := r.at_ i s q; ⟨v, q1, q2.grow e⟩, r.ap⟩
theorem SRep.addr (h : SRep K H0 F H s v) (w : s.own = true) : ∃ a u, v = .ref a ∧ H a = some u ∧ H0 a = none ∧ F a = none := by
  cases s with
  | d x => cases w
  | ol xs => obtain ⟨a, vs, e1, h1, _, n1, n2⟩ := h; exact ⟨a, _, e1, h1, n1, n2⟩
  | od kvs => obtain ⟨a, vs, e1, h1, _, _, n1, n2⟩ := h; exact ⟨a, _, e1, h1, n1, n2⟩
  | oi N kvs => obtain ⟨a, C, dx, vs, e1, g, h1, _, _, n1, n2⟩ := h; exact ⟨a, _, e1, h1, n1, n2⟩
  | os b N kvs => obtain ⟨_, a, C, dx, vs, e1, g, h1, _, _, n1, n2⟩ := h; exact ⟨a, _, e1, h1, n1, n2⟩
theorem zip_unzip {α β : Type} : ∀ l : List (α × β), (l.map (·.1)).zip (l.map (·.2)) = l
  | [] => rfl
  | p :: l => by rw [List.map_cons, List.map_cons, List.zip_cons_cons, zip_unzip l]
theorem SRep.thaw (h : SRep K H0 F H s v) (w : s.own = true) : ∃ a u, v = .ref a ∧ H a = some u ∧ H0 a = none ∧ F a = none ∧ Rep K (upd F a u) s.fz v := by
  cases s with
  | d x => cases w
  | ol xs =>
    obtain ⟨a, vs, e1, h1, h2, n1, n2⟩ := h
    exact ⟨a, _, e1, h1, n1, n2, a, vs, e1, upd_same, Reps.mono (Same.new n2) _ _ h2⟩
  | od kvs =>
    obtain ⟨a, kvs', e1, h1, hk, h2, n1, n2⟩ := h
    refine ⟨a, _, e1, h1, n1, n2, a, kvs'.map (·.2), e1, ?_, ?_, Reps.mono (Same.new n2) _ _ h2⟩
    · refine .inl ?_; rw [upd_same, ← hk, zip_unzip]
    · rw [h2.len, List.length_map, List.length_map]
  | oi N kvs =>
    obtain ⟨a, C, dx, kvs', e1, g, h1, hk, h2, n1, n2⟩ := h
    refine ⟨a, _, e1, h1, n1, n2, a, C, dx, kvs'.map (·.2), e1, g, ?_, ?_, Reps.mono (Same.new n2) _ _ h2⟩
    · rw [upd_same, ← hk, zip_unzip]
    · rw [h2.len, List.length_map, List.length_map]
  | os b N kvs =>
    obtain ⟨_, a, C, dx, kvs', e1, g, h1, hk, h2, n1, n2⟩ := h
    refine ⟨a, _, e1, h1, n1, n2, a, C, dx, kvs'.map (·.2), e1, g, ?_, ?_, Reps.mono (Same.new n2) _ _ h2⟩
    · rw [upd_same, ← hk, zip_unzip]
    · rw [h2.len, List.length_map, List.length_map]
theorem Rel.more (r : Rel K H0 F0 F H ρ σ) (e : Same F F') (fh : Same F' H) (nw : ∀ a, F' a ≠ none → F a ≠ none ∨ H0 a = none)
    (no : ∀ (j : Nat) t a, ρ[j]? = some (some t) → t.own = true → σ[j]? = some (some (.ref a)) → F' a = none) : Rel K H0 F0 F' H ρ σ := by
  refine ⟨r.h, r.f.trans e, fh, fun a h => ?_, r.len, fun i s q => ?_, r.ap⟩
  · rcases nw a h with z | z
    · exact r.nw a z
    · exact .inr z
  · obtain ⟨v, q1, q2⟩ := r.at_ i s q
    refine ⟨v, q1, ?_⟩
    cases s with
    | d x => exact Rep.mono e _ _ q2
    | ol xs =>
      obtain ⟨a, vs, e1, h1, h2, n1, n2⟩ := q2
      subst e1
      exact ⟨a, vs, rfl, h1, Reps.mono e _ _ h2, n1, no i _ a q rfl q1⟩
    | od kvs =>
      obtain ⟨a, vs, e1, h1, hk, h2, n1, n2⟩ := q2
      subst e1
      exact ⟨a, vs, rfl, h1, hk, Reps.mono e _ _ h2, n1, no i _ a q rfl q1⟩
    | oi N kvs =>
      obtain ⟨a, C, dx, vs, e1, g, h1, hk, h2, n1, n2⟩ := q2
      subst e1
      exact ⟨a, C, dx, vs, rfl, g, h1, hk, Reps.mono e _ _ h2, n1, no i _ a q rfl q1⟩
    | os b N kvs =>
      obtain ⟨e0, a, C, dx, vs, e1, g, h1, hk, h2, n1, n2⟩ := q2
      subst e1
      exact ⟨e0, a, C, dx, vs, rfl, g, h1, hk, Reps.mono e _ _ h2, n1, no i _ a q rfl q1⟩
theorem Rel.put1 (r : Rel K H0 F0 F H ρ σ) {u : HO} (h : H a = some u) (n0 : H0 a = none) (n1 : F a = none) (fr : Fr ρ σ (.ref a)) : Rel K H0 F0 (upd F a u) H ρ σ := by
  refine r.more (Same.new n1) (fun b o q => ?_) (fun b q => ?_) fun j t b q w z => ?_
  · by_cases hb : b = a
    · subst hb; rw [upd_same] at q; cases q; exact h
    · rw [upd_ne hb] at q; exact r.fh _ _ q
  · by_cases hb : b = a
    · subst hb; exact .inr n0
    · rw [upd_ne hb] at q; exact .inl q
  · have hb : b ≠ a := by rintro rfl; exact fr j t q w z
    rw [upd_ne hb]
    obtain ⟨v, q1, q2⟩ := r.at_ j t q
    obtain ⟨c, o, e1, _, _, n2⟩ := q2.addr w
    rw [z] at q1; cases q1; cases e1; exact n2
theorem Rel.freeze (r : Rel K H0 F0 F H ρ σ) (h : SRep K H0 F H s v) (fr : s.own = true → Fr ρ σ v) : ∃ F', Same F F' ∧ Rel K H0 F0 F' H ρ σ ∧ Rep K F' s.fz v := by
  by_cases w : s.own = true
  · obtain ⟨a, u, e1, h1, n0, n1, rp⟩ := h.thaw w
    subst e1
    exact ⟨_, Same.new n1, r.put1 h1 n0 n1 (fr w), rp⟩
  · cases s with
    | d x => exact ⟨F, Same.refl F, r, h⟩
    | ol xs => exact absurd rfl w
    | od kvs => exact absurd rfl w
    | oi N kvs => exact absurd rfl w
    | os b N kvs => exact absurd rfl w
theorem Rel.forget (r : Rel K H0 F0 F H ρ σ) (hl : ρ'.length = ρ.length) (w : ∀ (i : Nat) s, ρ'[i]? = some (some s) → ρ[i]? = some (some s)) : Rel K H0 F0 F H ρ' σ :=
  ⟨r.h, r.f, r.fh, r.nw, hl.trans r.len, fun i s q => r.at_ i s (w i s q), fun i j s t q1 q2 => r.ap i j s t (w i s q1) (w j t q2)⟩
theorem set_none {s : S} (q : (ρ.set i none)[i]? = some (some s)) : False := by
  rw [List.getElem?_set] at q
  simp only [if_true] at q
  split at q <;> cases q
theorem Rel.drop1 (r : Rel K H0 F0 F H ρ σ) (i : Nat) : Rel K H0 F0 F H (ρ.set i none) σ :=
  r.forget (by simp) fun j s q => by
    by_cases hj : j = i
    · subst hj
      exact (set_none q).elim
    · rwa [List.getElem?_set_ne (Ne.symm hj)] at q
theorem Rel.moved (r : Rel K H0 F0 F H ρ σ) (q : ρ[i]? = some (some s)) (w : s.own = true) (e : σ[i]? = some (some v)) : Fr (ρ.set i none) σ v := fun j t q1 w1 q2 => by
  have hj : j ≠ i := by
    rintro rfl
    exact set_none q1
  rw [List.getElem?_set_ne (Ne.symm hj)] at q1
  exact hj (r.ap j i t s q1 q w1 w (q2.trans e.symm))
theorem Rel.store (r : Rel K H0 F0 F H ρ σ) (h : SRep K H0 F H s v) (fr : s.own = true → Fr ρ σ v) (i : Nat) : Rel K H0 F0 F H (ρ.set i (some s)) (σ.set i (some v)) := by
  have get : ∀ (j : Nat) t, (ρ.set i (some s))[j]? = some (some t) → (j = i ∧ t = s ∧ (σ.set i (some v))[j]? = some (some v)) ∨ (j ≠ i ∧ ρ[j]? = some (some t) ∧ (σ.set i (some v))[j]? = σ[j]?) := fun j t q => by
    by_cases hj : j = i
    · subst hj
      have hl : j < ρ.length := by
        have := (List.getElem?_eq_some_iff.mp q).1
        simpa using this
      rw [List.getElem?_set_self hl] at q
      cases q
      exact .inl ⟨rfl, rfl, List.getElem?_set_self (by rw [← r.len]; exact hl)⟩
    · rw [List.getElem?_set_ne (Ne.symm hj)] at q
      exact .inr ⟨hj, q, List.getElem?_set_ne (Ne.symm hj)⟩
  refine ⟨r.h, r.f, r.fh, r.nw, by simp [r.len], fun j t q => ?_, fun j k t u q1 q2 w1 w2 e => ?_⟩
  · rcases get j t q with ⟨rfl, rfl, z⟩ | ⟨hj, q', z⟩
    · exact ⟨v, z, h⟩
    · obtain ⟨x, z1, z2⟩ := r.at_ j t q'
      exact ⟨x, z.trans z1, z2⟩
  · rcases get j t q1 with ⟨rfl, rfl, z⟩ | ⟨hj, q', z⟩
    · rcases get k u q2 with ⟨rfl, rfl, z'⟩ | ⟨hk, q'', z'⟩
      · rfl
      · rw [z, z'] at e
        exact absurd e.symm (fr w1 k u q'' w2)
    · rcases get k u q2 with ⟨rfl, rfl, z'⟩ | ⟨hk, q'', z'⟩
      · rw [z, z'] at e
        exact absurd e (fr w2 j t q' w1)
      · rw [z, z'] at e
        exact r.ap j k t u q' q'' w1 w2 e
theorem Rel.write (r : Rel K H0 F0 F H ρ σ) (q : ρ[i]? = some (some s)) (w : s.own = true) (e : σ[i]? = some (some (.ref a))) {u : HO} {s' : S}
    (h' : SRep K H0 F (upd H a u) s' (.ref a)) (w' : s'.own = true) : Rel K H0 F0 F (upd H a u) (ρ.set i (some s')) σ := by
  obtain ⟨v0, e0, sr⟩ := r.at_ i s q
  rw [e] at e0; cases e0
  obtain ⟨b, u0, e1, hb, n0, n1⟩ := sr.addr w
  cases e1
  have hl : i < ρ.length := (List.getElem?_eq_some_iff.mp q).1
  have get : ∀ (j : Nat) t, (ρ.set i (some s'))[j]? = some (some t) → (j = i ∧ t = s') ∨ (j ≠ i ∧ ρ[j]? = some (some t)) := fun j t q => by
    by_cases hj : j = i
    · subst hj
      rw [List.getElem?_set_self hl] at q
      cases q
      exact .inl ⟨rfl, rfl⟩
    · rw [List.getElem?_set_ne (Ne.symm hj)] at q
      exact .inr ⟨hj, q⟩
  refine ⟨fun c o z => ?_, r.f, fun c o z => ?_, r.nw, by simp [r.len], fun j t q1 => ?_, fun j k t u q1 q2 w1 w2 z => ?_⟩
  · rw [upd_ne (ne_of_none z n0)]; exact r.h _ _ z
  · rw [upd_ne (ne_of_none z n1)]; exact r.fh _ _ z
  · rcases get j t q1 with ⟨rfl, rfl⟩ | ⟨hj, q'⟩
    · exact ⟨_, e, h'⟩
    · obtain ⟨x, z1, z2⟩ := r.at_ j t q'
      refine ⟨x, z1, ?_⟩
      have ne : t.own = true → x ≠ .ref a := fun wt z => hj (r.ap j i t s q' q wt w (by rw [z1, e, z]))
      cases t with
      | d x => exact z2
      | ol xs =>
        obtain ⟨c, vs, e1, h1, rr⟩ := z2
        have : c ≠ a := by rintro rfl; exact ne rfl e1
        exact ⟨c, vs, e1, by rw [upd_ne this]; exact h1, rr⟩
      | od kvs =>
        obtain ⟨c, vs, e1, h1, rr⟩ := z2
        have : c ≠ a := by rintro rfl; exact ne rfl e1
        exact ⟨c, vs, e1, by rw [upd_ne this]; exact h1, rr⟩
      | oi N kvs =>
        obtain ⟨c, C, dx, vs, e1, g, h1, rr⟩ := z2
        have : c ≠ a := by rintro rfl; exact ne rfl e1
        exact ⟨c, C, dx, vs, e1, g, by rw [upd_ne this]; exact h1, rr⟩
      | os b N kvs =>
        obtain ⟨e0, c, C, dx, vs, e1, g, h1, rr⟩ := z2
        have : c ≠ a := by rintro rfl; exact ne rfl e1
        exact ⟨e0, c, C, dx, vs, e1, g, by rw [upd_ne this]; exact h1, rr⟩
  · rcases get j t q1 with ⟨rfl, rfl⟩ | ⟨hj, q'⟩
    · rcases get k u q2 with ⟨rfl, rfl⟩ | ⟨hk, q''⟩
      · rfl
      · exact r.ap j k s u q q'' w w2 z
    · rcases get k u q2 with ⟨rfl, rfl⟩ | ⟨hk, q''⟩
      · exact r.ap j k t s q' q w1 w z
      · exact r.ap j k t u q' q'' w1 w2 z
end
end DL
namespace DL
open PySem L2
abbrev PX := Str → List (Str × D) → Prop
structure Zx where
  E : XK
  P : PX
abbrev Z0 : Zx := ⟨E0, fun _ _ => False⟩
def XRep (K : PySem.W.Frag) (F H : Hp) (fs : List (Str × D)) (d : Option Addr) : Prop :=
  (fs = [] ∧ d = none) ∨ (fs ≠ [] ∧ ∃ a vs, d = some a ∧ H a = some (.xd ((fs.map (·.1)).zip vs)) ∧ Reps K F (fs.map (·.2)) vs)
def Zx.Ok (Z : Zx) (K : PySem.W.Frag) (H0 F0 : Hp) : Prop := ∀ N C fs d F' H', Z.P N fs → PySem.W.nsIn K mainGlobals N = some (some (.ref C)) → Same H0 H' → Same F0 F' → Same F' H' → (∀ a, F' a ≠ none → F0 a ≠ none ∨ H0 a = none) → XRep K F' H' fs d → Z.E (.ref C) d H'
theorem Z0.ok {K : PySem.W.Frag} {H0 F0 : Hp} : Z0.Ok K H0 F0 := fun _ _ _ _ _ _ h => h.elim
abbrev W := R → (S → R → Prop) → Prop
abbrev WT := R → (Bool → R → Prop) → Prop
abbrev WA := R → (List D → R → Prop) → Prop
def RunE (K : PySem.W.Frag) (Z : Zx) (t : TE) (w : W) : Prop := ∀ {H0 F0 F H : Hp} {ρ : R} {σ : St} {Q : VK} {P : S → R → Prop}, Z.Ok K H0 F0 → Rel K H0 F0 F H ρ σ → w ρ P →
    (∀ s ρ' F' H' v, P s ρ' → Same F F' → Rel K H0 F0 F' H' ρ' σ → SRep K H0 F' H' s v → (s.own = true → Fr ρ' σ v) → Q v H') → t σ H Q
def RunT (K : PySem.W.Frag) (Z : Zx) (t : TT) (w : WT) : Prop := ∀ {H0 F0 F H : Hp} {ρ : R} {σ : St} {Q : Bool → Hp → Prop} {P : Bool → R → Prop}, Z.Ok K H0 F0 → Rel K H0 F0 F H ρ σ → w ρ P →
    (∀ b ρ' F' H', P b ρ' → Same F F' → Rel K H0 F0 F' H' ρ' σ → Q b H') → t σ H Q
def RunA (K : PySem.W.Frag) (Z : Zx) (t : TA) (w : WA) : Prop := ∀ {H0 F0 F H : Hp} {ρ : R} {σ : St} {Q : List V → Hp → Prop} {P : List D → R → Prop}, Z.Ok K H0 F0 → Rel K H0 F0 F H ρ σ → w ρ P →
    (∀ ds ρ' F' H' vs, P ds ρ' → Same F F' → Rel K H0 F0 F' H' ρ' σ → Reps K F' ds vs → Q vs H') → t σ H Q
structure DE (K : PySem.W.Frag) (X : Cx) (Z : Zx) (e : Expr) (t : TE) (w : W) : Prop where
  pe : PE X e t
  run : RunE K Z t w
structure DT (K : PySem.W.Frag) (X : Cx) (Z : Zx) (e : Expr) (t : TT) (w : WT) : Prop where
  pe : PT X e t
  run : RunT K Z t w
structure DW (K : PySem.W.Frag) (X : Cx) (Z : Zx) (e : Expr) (t : TT) (w : WT) : Prop where
  pe : PW X e t
  run : RunT K Z t w
structure DA (K : PySem.W.Frag) (X : Cx) (Z : Zx) (es : List Expr) (t : TA) (w : WA) : Prop where
  pe : PA X es t
  run : RunA K Z t w
def Kont (K : PySem.W.Frag) (H F : Hp) (P : S → Prop) (Q : VK) : Prop :=
  ∀ s v F' H', P s → Same H H' → Same F F' → Same F' H' → (∀ a, F' a ≠ none → F a ≠ none ∨ H a = none) → SRep K H F' H' s v → Q v H'
section
variable {K : PySem.W.Frag} {H F : Hp} {P : S → Prop} {Q : VK} {ds : List D} {vs : List V} {d : D} {v : V} {p : Addr}
theorem Kont.flat (k : Kont K H F P Q) (fh : Same F H) (h : P (.d d)) (r : Rep K F d v) : Q v H :=
  k (.d d) v F H h (Same.refl _) (Same.refl _) fh (fun _ q => .inl q) r
theorem Kont.newL (k : Kont K H F P Q) (fh : Same F H) (h : P (.ol ds)) (r : Reps K F ds vs) (n : H p = none) : Q (.ref p) (upd H p (.lst vs)) :=
  k (.ol ds) _ F _ h (Same.new n) (Same.refl _) (fh.trans (Same.new n)) (fun _ q => .inl q) ⟨p, vs, rfl, upd_same, r, n, fh.free n⟩
theorem Kont.newD {kvs : List (Key × D)} {kvs' : List (Key × V)} (k : Kont K H F P Q) (fh : Same F H) (h : P (.od kvs)) (hk : kvs'.map (·.1) = kvs.map (·.1)) (r : Reps K F (kvs.map (·.2)) (kvs'.map (·.2))) (n : H p = none) : Q (.ref p) (upd H p (.dK kvs')) :=
  k (.od kvs) _ F _ h (Same.new n) (Same.refl _) (fh.trans (Same.new n)) (fun _ q => .inl q) ⟨p, kvs', rfl, upd_same, hk, r, n, fh.free n⟩
theorem upd_both {u : HO} (fh : Same F H) (n : H p = none) : Same (upd F p u) (upd H p u) := fun b o q => by
  by_cases hb : b = p
  · subst hb; rw [upd_same] at q ⊢; exact q
  · rw [upd_ne hb] at q ⊢; exact fh _ _ q
theorem nw_upd {u : HO} (n : H p = none) : ∀ a, upd F p u a ≠ none → F a ≠ none ∨ H a = none := fun a q => by
  by_cases ha : a = p
  · subst ha; exact .inr n
  · rw [upd_ne ha] at q; exact .inl q
theorem Kont.newT (k : Kont K H F P Q) (fh : Same F H) (h : P (.d (.tup ds))) (r : Reps K F ds vs) (n : H p = none) : Q (.ref p) (upd H p (.tup vs)) :=
  k (.d (.tup ds)) _ (upd F p (.tup vs)) _ h (Same.new n) (Same.new (fh.free n)) (upd_both fh n) (nw_upd n)
    ⟨p, vs, rfl, SqT.of upd_same, Reps.mono (Same.new (fh.free n)) _ _ r⟩
end
section
variable {K : PySem.W.Frag} {H0 F0 F F' H H' : Hp} {ρ : R} {σ : St} {s : S} {v : V}
theorem Rel.after (r : Rel K H0 F0 F H ρ σ) (hh : Same H H') (ff : Same F F') (fh : Same F' H') (nw : ∀ a, F' a ≠ none → F a ≠ none ∨ H a = none) : Rel K H0 F0 F' H' ρ σ := by
  refine (r.grow hh).more ff fh (fun a q => ?_) fun j t a q w z => ?_
  · rcases nw a q with z | z
    · exact .inl z
    · exact .inr (r.h.free z)
  · obtain ⟨v, q1, q2⟩ := r.at_ j t q
    obtain ⟨c, o, e1, h1, _, n2⟩ := q2.addr w
    rw [z] at q1; cases q1; cases e1
    cases q3 : F' a with
    | none => rfl
    | some u =>
      rcases nw a (by rw [q3]; exact fun z => nomatch z) with y | y
      · exact absurd n2 y
      · rw [y] at h1; cases h1
theorem SRep.after (r : Rel K H0 F0 F H ρ σ) (h : SRep K H F' H' s v) : SRep K H0 F' H' s v ∧ (s.own = true → Fr ρ σ v) := by
  constructor
  · cases s with
    | d x => exact h
    | ol xs => obtain ⟨a, vs, e1, h1, h2, n0, n1⟩ := h; exact ⟨a, vs, e1, h1, h2, r.h.free n0, n1⟩
    | od kvs => obtain ⟨a, vs, e1, h1, hk, h2, n0, n1⟩ := h; exact ⟨a, vs, e1, h1, hk, h2, r.h.free n0, n1⟩
    | oi N kvs => obtain ⟨a, C, dx, vs, e1, g, h1, hk, h2, n0, n1⟩ := h; exact ⟨a, C, dx, vs, e1, g, h1, hk, h2, r.h.free n0, n1⟩
    | os b N kvs => obtain ⟨e0, a, C, dx, vs, e1, g, h1, hk, h2, n0, n1⟩ := h; exact ⟨e0, a, C, dx, vs, e1, g, h1, hk, h2, r.h.free n0, n1⟩
  · intro w j t q1 w1 q2
    obtain ⟨a, u, e1, h1, n0, n1⟩ := h.addr w
    subst e1
    obtain ⟨v, z1, z2⟩ := r.at_ j t q1
    obtain ⟨c, o, e2, h2, _, _⟩ := z2.addr w1
    rw [q2] at z1; cases z1; cases e2
    rw [n0] at h2; cases h2
end
theorem Rel.kont {K : PySem.W.Frag} {H0 F0 F1 F H : Hp} {ρ : R} {σ : St} {P : S → R → Prop} {Q : VK} (r : Rel K H0 F0 F H ρ σ) (f : Same F1 F)
    (k : ∀ s ρ' F' H' v, P s ρ' → Same F1 F' → Rel K H0 F0 F' H' ρ' σ → SRep K H0 F' H' s v → (s.own = true → Fr ρ' σ v) → Q v H') : Kont K H F (fun s => P s ρ) Q :=
  fun s v F' H' p hh ff fh nw sr => k s ρ F' H' v p (f.trans ff) (r.after hh ff fh nw) (SRep.after r sr).1 (SRep.after r sr).2
def nth : R → Nat → Option S
  | [], _ => none
  | x :: _, 0 => x
  | _ :: r, n + 1 => nth r n
def put : R → Nat → Option S → R
  | [], _, _ => []
  | _ :: r, 0, y => y :: r
  | x :: r, n + 1, y => x :: put r n y
theorem nth_eq : ∀ (ρ : R) (i : Nat), nth ρ i = (ρ[i]?).join
  | [], i => by simp [nth]
  | x :: r, 0 => by simp [nth]
  | x :: r, n + 1 => by rw [nth, nth_eq r n]; simp
theorem put_eq : ∀ (ρ : R) (i : Nat) (y : Option S), put ρ i y = ρ.set i y
  | [], _, _ => rfl
  | x :: r, 0, _ => rfl
  | x :: r, n + 1, y => by rw [put, put_eq r n]; rfl
theorem nth_some {ρ : R} {i : Nat} {s : S} (h : nth ρ i = some s) : ρ[i]? = some (some s) := by
  rw [nth_eq] at h
  cases e : ρ[i]? with
  | none => rw [e] at h; cases h
  | some o =>
    rw [e] at h
    cases o with
    | none => cases h
    | some t => cases h; rfl
section
variable {K : PySem.W.Frag} {X : Cx} {Z : Zx} {pos : Pos}
def wVar (i : Nat) : W := fun ρ P => match nth ρ i with
  | some (.d x) => P (.d x) ρ
  | some s => P (.d s.fz) (put ρ i (some (.d s.fz)))
  | none => False
theorem Rel.own_slot {K : PySem.W.Frag} {H0 F0 F H : Hp} {ρ : R} {σ : St} {i : Nat} {s : S} (r : Rel K H0 F0 F H ρ σ) (q : ρ[i]? = some (some s)) (w : s.own = true) :
    ∃ v F', σ[i]? = some (some v) ∧ Same F F' ∧ Rel K H0 F0 F' H (ρ.set i (some (.d s.fz))) σ ∧ Rep K F' s.fz v := by
  obtain ⟨v, e, sr⟩ := r.at_ i s q
  obtain ⟨F', ff, r', rp⟩ := (r.drop1 i).freeze sr fun _ => r.moved q w e
  refine ⟨v, F', e, ff, ?_, rp⟩
  have hl : i < σ.length := (List.getElem?_eq_some_iff.mp e).1
  have z := r'.store (s := .d s.fz) (v := v) rp (fun w => nomatch w) i
  rw [List.set_set] at z
  have e2 : σ.set i (some v) = σ := by
    apply List.ext_getElem?
    intro j
    by_cases hj : j = i
    · subst hj; rw [List.getElem?_set_self hl, e]
    · rw [List.getElem?_set_ne (Ne.symm hj)]
  rwa [e2] at z
theorem run_var {i : Nat} : RunE K Z (tVar i) (wVar i) := fun {H0 F0 F H ρ σ Q P} zo r h k => by
  unfold wVar at h
  split at h
  · rename_i x e
    obtain ⟨v, e1, sr⟩ := r.at_ i _ (nth_some e)
    exact ⟨v, e1, k _ _ F H v h (Same.refl _) r sr fun w => nomatch w⟩
  · rename_i s hs e
    have w : s.own = true := by
      cases s with
      | d x => exact absurd rfl (hs x)
      | ol _ => rfl
      | od _ => rfl
      | oi _ _ => rfl
      | os _ _ _ => rfl
    rw [put_eq] at h
    obtain ⟨v, F', e1, ff, r', rp⟩ := r.own_slot (nth_some e) w
    exact ⟨v, e1, k _ _ F' H v h ff r' rp fun w => nomatch w⟩
  · exact h.elim
theorem de_var (i : Nat) {x : Str} (hN : X.N[i]? = some x := by rfl) (hv : Vis X.env.scope x := by first | exact Or.inl rfl | exact Or.inr (Or.inl rfl) | exact Or.inr (Or.inr rfl)) (hd : (x == ("__debug__" : Str)) = false := by decide)
    (hcd : (x == ("__classdict__" : Str)) = false := by decide) : DE K X Z (.Name x pos) (tVar i) (wVar i) := ⟨pe_var hN hv hd hcd, run_var⟩
def wMove (i : Nat) : W := fun ρ P => match nth ρ i with
  | some s => P s (put ρ i none)
  | none => False
def wC (d : D) : W := fun ρ P => P (.d d) ρ
theorem de_c {e : Expr} {v : V} {d : D} (h : PE X e (tC v)) (r : ∀ F, Rep K F d v) : DE K X Z e (tC v) (wC d) :=
  ⟨h, fun {H0 F0 F H ρ σ Q P} zo r' h k => k _ _ F H v h (Same.refl _) r' (r F) fun w => nomatch w⟩
theorem de_int {i j pos} : DE K X Z (.Constant (.int i) j pos) (tC (.int i)) (wC (.int i)) := de_c pe_int fun _ => rfl
theorem de_bl {b j pos} : DE K X Z (.Constant (.bool b) j pos) (tC (.bl b)) (wC (.bl b)) := de_c pe_bl fun _ => rfl
theorem de_str {x j pos} : DE K X Z (.Constant (.str x) j pos) (tC (.str x)) (wC (.str x)) := de_c pe_str fun _ => rfl
abbrev O2 := D → D → (S → Prop) → Prop
structure Snd2 (K : PySem.W.Frag) (r : R2) (o : O2) : Prop where
  run : ∀ {F H : Hp} {x y : D} {vx vy : V} {P : S → Prop} {Q : VK}, Same F H → Rep K F x vx → Rep K F y vy → o x y P → Kont K H F P Q → r vx vy H Q
def wOp (o : O2) (wa wb : W) : W := fun ρ P => wa ρ fun x ρ1 => wb ρ1 fun y ρ2 => o x.fz y.fz fun s => P s ρ2
theorem two_run {ta tb : TE} {wa wb : W} {r : R2} {o : O2} (ha : RunE K Z ta wa) (hb : RunE K Z tb wb) (ho : Snd2 K r o) : RunE K Z (tOp r ta tb) (wOp o wa wb) := fun zo rl h k => by
  refine ha zo rl h fun s1 ρ1 F1 H1 v1 h1 f1 r1 sr1 fr1 => ?_
  obtain ⟨F2, f2, r2, rp2⟩ := r1.freeze sr1 fr1
  refine hb zo r2 h1 fun s3 ρ3 F3 H3 v3 h3 f3 r3 sr3 fr3 => ?_
  obtain ⟨F4, f4, r4, rp4⟩ := r3.freeze sr3 fr3
  exact ho.run r4.fh (Rep.mono (f3.trans f4) _ _ rp2) rp4 h3 (r4.kont (f1.trans (f2.trans (f3.trans f4))) k)
section
variable {a b : Expr} {r : R2} {o : O2} {ta tb : TE} {wa wb : W}
theorem de_op {op : Operator} (hr : OpR X (binaryOp op) r) (ho : Snd2 K r o) (ha : DE K X Z a ta wa) (hb : DE K X Z b tb wb) : DE K X Z (.BinOp a op b pos) (tOp r ta tb) (wOp o wa wb) := ⟨pe_op hr ha.pe hb.pe, two_run ha.run hb.run ho⟩
theorem de_cmp {op : CmpOp} (hr : OpR X (compareOp op) r) (ho : Snd2 K r o) (hm : behindInMarks op b = false) (ha : DE K X Z a ta wa) (hb : DE K X Z b tb wb) : DE K X Z (.Compare a [op] [b] pos) (tOp r ta tb) (wOp o wa wb) := ⟨pe_cmpR hr ha.pe hb.pe hm, two_run ha.run hb.run ho⟩
theorem de_ix (hr : IxR X r) (ho : Snd2 K r o) (hs : PlainIx b) (ha : DE K X Z a ta wa) (hb : DE K X Z b tb wb) : DE K X Z (.Subscript a b pos) (tOp r ta tb) (wOp o wa wb) := ⟨pe_ix hr ha.pe hb.pe hs, two_run ha.run hb.run ho⟩
end
abbrev O1 := D → (S → Prop) → Prop
structure Snd1 (K : PySem.W.Frag) (r : V → Hp → VK → Prop) (o : O1) : Prop where
  run : ∀ {F H : Hp} {x : D} {vx : V} {P : S → Prop} {Q : VK}, Same F H → Rep K F x vx → o x P → Kont K H F P Q → r vx H Q
def wUn (o : O1) (wa : W) : W := fun ρ P => wa ρ fun x ρ1 => o x.fz fun s => P s ρ1
def wNil : WA := fun ρ P => P [] ρ
def wCons (we : W) (wr : WA) : WA := fun ρ P => we ρ fun x ρ1 => wr ρ1 fun xs ρ2 => P (x.fz :: xs) ρ2
theorem da_nil : DA K X Z [] tNil wNil := ⟨pa_nil, fun {H0 F0 F H ρ σ Q P} zo rl h k => k [] ρ F H [] h (Same.refl _) rl rfl⟩
theorem da_cons {e : Expr} {es : List Expr} {te : TE} {tr : TA} {we : W} {wr : WA} (he : DE K X Z e te we) (hr : DA K X Z es tr wr) (hs : starEach (e :: es) X.env = (false, eval e X.env) :: starEach es X.env := by rfl) : DA K X Z (e :: es) (tCons te tr) (wCons we wr) := by
  refine ⟨pa_cons he.pe hr.pe hs, fun zo rl h k => he.run zo rl h fun s1 ρ1 F1 H1 v1 h1 f1 r1 sr1 fr1 => ?_⟩
  obtain ⟨F2, f2, r2, rp2⟩ := r1.freeze sr1 fr1
  refine hr.run zo r2 h1 fun ds ρ3 F3 H3 vs h3 f3 r3 rps => ?_
  exact k _ ρ3 F3 H3 _ h3 (f1.trans (f2.trans f3)) r3 ⟨_, _, rfl, Rep.mono f3 _ _ rp2, rps⟩
abbrev OL := List D → (S → Prop) → Prop
structure SndL (K : PySem.W.Frag) (r : List V → Hp → VK → Prop) (o : OL) : Prop where
  run : ∀ {F H : Hp} {ds : List D} {vs : List V} {P : S → Prop} {Q : VK}, Same F H → Reps K F ds vs → o ds P → Kont K H F P Q → r vs H Q
def wCB (o : OL) (wa : WA) : W := fun ρ P => wa ρ fun ds ρ1 => o ds fun s => P s ρ1
theorem cb_run {t : TA} {wa : WA} {r : List V → Hp → VK → Prop} {o : OL} (ha : RunA K Z t wa) (ho : SndL K r o) : RunE K Z (tCB r t) (wCB o wa) := fun zo rl h k =>
  ha zo rl h fun _ _ _ _ _ h1 f1 r1 rps => ho.run r1.fh rps h1 (r1.kont f1 k)
section
variable {e : Expr} {es : List Expr} {x : Str} {p : Pos} {id T : String} {r : List V → Hp → VK → Prop} {o : OL} {ta : TA} {wa : WA}
theorem de_callB (hc : CallR X (.builtin id) r) (ho : SndL K r o) (hg : Gl X x) (hm : X.mg x = none) (hv : bootBuiltins x = some (.builtin id))
    (ha : DA K X Z (e :: es) ta wa) (hn : x ≠ "__name__" := by decide) (hdb : (x == ("__debug__" : Str)) = false := by decide) (he : starEach (e :: es) X.env = (false, eval e X.env) :: starEach es X.env := by rfl) (hpl : (backTo pos (starEach es X.env)).any (·.1) = false := by rfl) :
    DE K X Z (.Call (.Name x p) (e :: es) [] pos) (tCB r ta) (wCB o wa) := ⟨pe_callB hc hg hm hv ha.pe (hn := hn) (hdb := hdb) (he := he) (hpl := hpl), cb_run ha.run ho⟩
theorem de_callTy (hc : CallR X (.type T) r) (ho : SndL K r o) (hg : Gl X x) (hm : X.mg x = none) (hv : bootBuiltins x = some (.type T))
    (ha : DA K X Z (e :: es) ta wa) (hn : x ≠ "__name__" := by decide) (hdb : (x == ("__debug__" : Str)) = false := by decide) (he : starEach (e :: es) X.env = (false, eval e X.env) :: starEach es X.env := by rfl) (hpl : (backTo pos (starEach es X.env)).any (·.1) = false := by rfl) :
    DE K X Z (.Call (.Name x p) (e :: es) [] pos) (tCB r ta) (wCB o wa) := ⟨pe_callTy hc hg hm hv ha.pe (hn := hn) (hdb := hdb) (he := he) (hpl := hpl), cb_run ha.run ho⟩
end
def wTup (wa : WA) : W := fun ρ P => wa ρ fun ds ρ1 => ds.length ≤ sizeLine ∧ P (.d (.tup ds)) ρ1
def wLst (wa : WA) : W := fun ρ P => wa ρ fun ds ρ1 => ds.length ≤ sizeLine ∧ P (.ol ds) ρ1
theorem de_tup {es : List Expr} {x1} {ta : TA} {wa : WA} (ha : DA K X Z es ta wa) : DE K X Z (.Tuple es x1 pos) (tTup ta) (wTup wa) := by
  refine ⟨pe_tup ha.pe, fun zo rl h k => ha.run zo rl h fun ds ρ1 F1 H1 vs h1 f1 r1 rps => ?_⟩
  exact ⟨by rw [rps.len]; exact h1.1, fun p n => (r1.kont f1 k).newT r1.fh h1.2 rps n⟩
theorem de_lst {es : List Expr} {ta : TA} {wa : WA} (ha : DA K X Z es ta wa) : DE K X Z (.List es pos) (tLst ta) (wLst wa) := by
  refine ⟨pe_lst ha.pe, fun zo rl h k => ha.run zo rl h fun ds ρ1 F1 H1 vs h1 f1 r1 rps => ?_⟩
  exact ⟨by rw [rps.len]; exact h1.1, fun p n => (r1.kont f1 k).newL r1.fh h1.2 rps n⟩
def asB : D → (Bool → Prop) → Prop
  | .bl b, P => P b
  | _, _ => False
theorem asB_of {K : PySem.W.Frag} {F : Hp} {d : D} {v : V} {P : Bool → Prop} (h : asB d P) (r : Rep K F d v) : ∃ b, v = .bl b ∧ d = .bl b ∧ P b := by
  cases d <;> first | exact h.elim | exact ⟨_, r, rfl, h⟩
def wB (we : W) : WT := fun ρ P => we ρ fun s ρ' => asB s.fz fun b => P b ρ'
theorem run_B {t : TE} {w : W} (h : RunE K Z t w) : RunT K Z (tB t) (wB w) := fun zo rl q k => h zo rl q fun s1 ρ1 F1 H1 v1 h1 f1 r1 sr1 fr1 => by
  obtain ⟨F2, f2, r2, rp2⟩ := r1.freeze sr1 fr1
  obtain ⟨b, e, _, p⟩ := asB_of h1 rp2
  exact ⟨b, e, k _ _ _ _ p (f1.trans f2) r2⟩
theorem dt_val {e : Expr} {t : TE} {w : W} (h : DE K X Z e t w) (he : ∀ whole, isTrue e X.env whole = (do let v ← whole; standAt e.pos; holding [v] (truthy v)) := by intro _; rfl) : DT K X Z e (tB t) (wB w) := ⟨pt_val h.pe he, run_B h.run⟩
theorem dt_cmp {op : CmpOp} {a b : Expr} {r : R2} {o : O2} {ta tb : TE} {wa wb : W} (hr : OpR X (compareOp op) r) (ho : Snd2 K r o) (hm : behindInMarks op b = false) (ha : DE K X Z a ta wa) (hb : DE K X Z b tb wb) : DT K X Z (.Compare a [op] [b] pos) (tTest (tOp r ta tb)) (wB (wOp o wa wb)) :=
  ⟨pt_cmpR hr ha.pe hb.pe hm, run_B (two_run ha.run hb.run ho)⟩
def wAnd (a b : WT) : WT := fun ρ P => a ρ fun c ρ1 => if c = true then b ρ1 P else P false ρ1
def wOr (a b : WT) : WT := fun ρ P => a ρ fun c ρ1 => if c = true then P true ρ1 else b ρ1 P
def wNot (a : WT) : WT := fun ρ P => a ρ fun c ρ1 => P (!c) ρ1
section
variable {a b : Expr} {rest : List Expr} {ta tb : TT} {wa wb : WT}
theorem DW.dt {e : Expr} {t : TT} {w : WT} (h : DW K X Z e t w) : DT K X Z e t w := ⟨h.pe.pt, h.run⟩
theorem dw_and1 (h : DT K X Z a ta wa) : DW K X Z (.BoolOp .And [a] pos) ta wa := ⟨pw_and1 h.pe, h.run⟩
theorem dw_and (h : DT K X Z a ta wa) (g : DW K X Z (.BoolOp .And (b :: rest) pos) tb wb) : DW K X Z (.BoolOp .And (a :: b :: rest) pos) (tAnd ta tb) (wAnd wa wb) :=
  ⟨pw_and h.pe g.pe, fun zo rl q k => h.run zo rl q fun c ρ1 F1 H1 p f1 r1 => by
    cases c with
    | true => exact g.run zo r1 p fun b ρ2 F2 H2 p2 f2 r2 => k _ _ _ _ p2 (f1.trans f2) r2
    | false => exact k _ _ _ _ p f1 r1⟩
end
def wAndV (a b : W) : W := fun ρ P => a ρ fun s ρ1 => asB s.fz fun c => if c = true then b ρ1 P else P (.d (.bl false)) ρ1
def wOrV (a b : W) : W := fun ρ P => a ρ fun s ρ1 => asB s.fz fun c => if c = true then P (.d (.bl true)) ρ1 else b ρ1 P
def wNotV (a : W) : W := fun ρ P => a ρ fun s ρ1 => asB s.fz fun c => P (.d (.bl (!c))) ρ1
def wIf (c : WT) (a b : W) : W := fun ρ P => c ρ fun k ρ1 => if k = true then a ρ1 P else b ρ1 P
section
variable {a b c : Expr} {rest : List Expr} {ta tb : TE} {wa wb : W} {tc : TT} {wc : WT}
theorem de_one {op} (h : DE K X Z a ta wa) : DE K X Z (.BoolOp op [a] pos) ta wa := ⟨pe_one h.pe, h.run⟩
theorem de_and (h : DE K X Z a ta wa) (g : DE K X Z (.BoolOp .And (b :: rest) pos) tb wb) : DE K X Z (.BoolOp .And (a :: b :: rest) pos) (tAndV ta tb) (wAndV wa wb) :=
  ⟨pe_and h.pe g.pe, fun zo rl q k => h.run zo rl q fun s1 ρ1 F1 H1 v1 h1 f1 r1 sr1 fr1 => by
    obtain ⟨F2, f2, r2, rp2⟩ := r1.freeze sr1 fr1
    obtain ⟨b, e, _, p⟩ := asB_of h1 rp2
    refine ⟨b, e, ?_⟩
    cases b with
    | true => exact g.run zo r2 p fun s ρ3 F3 H3 v3 p3 f3 r3 sr3 fr3 => k _ _ _ _ _ p3 (f1.trans (f2.trans f3)) r3 sr3 fr3
    | false => exact k _ _ _ _ _ p (f1.trans f2) r2 rfl fun w => nomatch w⟩
theorem de_or (h : DE K X Z a ta wa) (g : DE K X Z (.BoolOp .Or (b :: rest) pos) tb wb) : DE K X Z (.BoolOp .Or (a :: b :: rest) pos) (tOrV ta tb) (wOrV wa wb) :=
  ⟨pe_or h.pe g.pe, fun zo rl q k => h.run zo rl q fun s1 ρ1 F1 H1 v1 h1 f1 r1 sr1 fr1 => by
    obtain ⟨F2, f2, r2, rp2⟩ := r1.freeze sr1 fr1
    obtain ⟨b, e, _, p⟩ := asB_of h1 rp2
    refine ⟨b, e, ?_⟩
    cases b with
    | true => exact k _ _ _ _ _ p (f1.trans f2) r2 rfl fun w => nomatch w
    | false => exact g.run zo r2 p fun s ρ3 F3 H3 v3 p3 f3 r3 sr3 fr3 => k _ _ _ _ _ p3 (f1.trans (f2.trans f3)) r3 sr3 fr3⟩
theorem de_not (h : DE K X Z a ta wa) : DE K X Z (.UnaryOp .Not a pos) (tNotV ta) (wNotV wa) :=
  ⟨pe_not h.pe, fun zo rl q k => h.run zo rl q fun s1 ρ1 F1 H1 v1 h1 f1 r1 sr1 fr1 => by
    obtain ⟨F2, f2, r2, rp2⟩ := r1.freeze sr1 fr1
    obtain ⟨b, e, _, p⟩ := asB_of h1 rp2
    exact ⟨b, e, k _ _ _ _ _ p (f1.trans f2) r2 rfl fun w => nomatch w⟩⟩
end
end
end DL
namespace DL
open PySem L2
structure DEnds where
  nx : R → Prop
  rt : S → Prop
  bk : R → Prop := fun _ => False
  ct : R → Prop := fun _ => False
abbrev WS := DEnds → R → Prop
structure EndsOk (K : PySem.W.Frag) (H0 F0 F : Hp) (DD : DEnds) (Dh : Ends) : Prop where
  nx : ∀ ρ' F' H' σ', DD.nx ρ' → Same F F' → Rel K H0 F0 F' H' ρ' σ' → Dh.nx σ' H'
  rt : ∀ s v F' H', DD.rt s → Same F F' → Same H0 H' → Same F0 F' → Same F' H' → (∀ a, F' a ≠ none → F0 a ≠ none ∨ H0 a = none) → SRep K H0 F' H' s v → Dh.rt v H'
  bk : ∀ ρ' F' H' σ', DD.bk ρ' → Same F F' → Rel K H0 F0 F' H' ρ' σ' → Dh.bk σ' H'
  ct : ∀ ρ' F' H' σ', DD.ct ρ' → Same F F' → Rel K H0 F0 F' H' ρ' σ' → Dh.ct σ' H'
theorem EndsOk.on {K : PySem.W.Frag} {H0 F0 F F1 : Hp} {DD : DEnds} {Dh : Ends} (e : EndsOk K H0 F0 F DD Dh) (f : Same F F1) : EndsOk K H0 F0 F1 DD Dh :=
  ⟨fun ρ' F' H' σ' h g => e.nx ρ' F' H' σ' h (f.trans g), fun s v F' H' h g => e.rt s v F' H' h (f.trans g), fun ρ' F' H' σ' h g => e.bk ρ' F' H' σ' h (f.trans g), fun ρ' F' H' σ' h g => e.ct ρ' F' H' σ' h (f.trans g)⟩
def RunS (K : PySem.W.Frag) (Z : Zx) (t : TS) (w : WS) : Prop := ∀ {H0 F0 F H : Hp} {ρ : R} {σ : St} {DD : DEnds} {Dh : Ends}, Z.Ok K H0 F0 → Rel K H0 F0 F H ρ σ → EndsOk K H0 F0 F DD Dh → w DD ρ → t Dh σ H
structure DS (K : PySem.W.Frag) (X : Cx) (Z : Zx) (s : Stmt) (t : TS) (w : WS) : Prop where
  pe : PS X s t
  run : RunS K Z t w
structure DSs (K : PySem.W.Frag) (X : Cx) (Z : Zx) (s : List Stmt) (t : TS) (w : WS) : Prop where
  pe : PSs X s t
  run : RunS K Z t w
section
variable {K : PySem.W.Frag} {X : Cx} {Z : Zx} {pos : Pos} {st : Stmt} {rest : List Stmt} {t u : TS} {w v : WS} {e : Expr} {te : TE} {we : W}
def wNext : WS := fun DD ρ => DD.nx ρ
def wSeq (w v : WS) : WS := fun DD ρ => w { DD with nx := v DD } ρ
theorem run_next : RunS K Z tNext wNext := fun {H0 F0 F H ρ σ DD Dh} zo rl ee h => ee.nx ρ F H σ h (Same.refl _) rl
theorem run_seq (h1 : RunS K Z t w) (h2 : RunS K Z u v) : RunS K Z (tSeq t u) (wSeq w v) := fun {H0 F0 F H ρ σ DD Dh} zo rl ee h =>
  h1 (DD := { DD with nx := v DD }) (Dh := { Dh with nx := u Dh }) zo rl ⟨fun ρ' F' H' σ' q f r => h2 zo r (ee.on f) q, ee.rt, ee.bk, ee.ct⟩ h
theorem dss_nil : DSs K X Z [] tNext wNext := ⟨pss_nil, run_next⟩
theorem dss_cons (h1 : DS K X Z st t w) (h2 : DSs K X Z rest u v) : DSs K X Z (st :: rest) (tSeq t u) (wSeq w v) := ⟨pss_cons h1.pe h2.pe, run_seq h1.run h2.run⟩
theorem dss_one (h1 : DS K X Z st t w) : DSs K X Z [st] t w := ⟨pss_one h1.pe, h1.run⟩
def wCont : WS := fun DD ρ => DD.ct ρ
theorem ds_cont : DS K X Z (.Continue pos) tCont wCont := ⟨ps_continue, fun {H0 F0 F H ρ σ DD Dh} zo rl ee h => ee.ct ρ F H σ h (Same.refl _) rl⟩
def wDrop (we : W) : WS := fun DD ρ => we ρ fun _ ρ' => DD.nx ρ'
theorem ds_expr (he : DE K X Z e te we) (hs : swapsWith e none pos.line X.env = pure false := by rfl) : DS K X Z (.Expr e pos) (tDrop te) (wDrop we) :=
  ⟨ps_expr he.pe hs, fun {H0 F0 F H ρ σ DD Dh} zo rl ee h => he.run zo rl h fun s ρ' F' H' v p f r _ _ => ee.nx ρ' F' H' σ p f r⟩
def wRet (we : W) : WS := fun DD ρ => we ρ fun s _ => DD.rt s
theorem ds_ret (he : DE K X Z e te we) : DS K X Z (.Return (some e) pos) (tRet te) (wRet we) :=
  ⟨ps_ret he.pe, fun {H0 F0 F H ρ σ DD Dh} zo rl ee h => he.run zo rl h fun s ρ' F' H' v p f r sr _ => ee.rt s v F' H' p f r.h r.f r.fh r.nw sr⟩
def wRetN : WS := fun DD _ => DD.rt (.d .non)
def wIfS (c : WT) (a b : WS) : WS := fun DD ρ => c ρ fun k ρ1 => if k = true then a DD ρ1 else b DD ρ1
theorem ds_if {c : Expr} {a b : List Stmt} {tc : TT} {wc : WT} (hc : DT K X Z c tc wc) (ha : DSs K X Z a t w) (hb : DSs K X Z b u v) : DS K X Z (.If c a b pos) (tIfS tc t u) (wIfS wc w v) :=
  ⟨ps_if hc.pe ha.pe hb.pe, fun {H0 F0 F H ρ σ DD Dh} zo rl ee h => hc.run zo rl h fun k ρ1 F1 H1 p f r => by
    cases k with
    | true => exact ha.run zo r (ee.on f) p
    | false => exact hb.run zo r (ee.on f) p⟩
def wSet (i : Nat) (we : W) : WS := fun DD ρ => we ρ fun s ρ1 => DD.nx (put ρ1 i (some s))
theorem run_set {i : Nat} (he : RunE K Z te we) : RunS K Z (tAsg te (gName i)) (wSet i we) := fun {H0 F0 F H ρ σ DD Dh} zo rl ee h =>
  he zo rl h fun s ρ' F' H' v p f r sr fr => by
    rw [put_eq] at p
    exact ee.nx _ F' H' _ p f (r.store sr fr i)
theorem ds_set (i : Nat) {x : Str} {py : Pos} (hN : X.N.Nodup) (he : DE K X Z e te we) (hi : X.N[i]? = some x := by rfl) (hx : Loc X.env.scope x := by first | exact Or.inl rfl | exact Or.inr rfl)
    (hf : X.fn x = true ∨ X.env.scope.names.lookup x = some .local := by first | exact .inl rfl | exact .inr rfl)
    (hs : swapsWithSole [.Name x py] e pos.line X.env = pure false := by rfl) (hw : swappedStores [.Name x py] e X.env = pure none := by rfl) (h1 : (assignEach [.Name x py] X.env).map (·.2) = [assign (.Name x py) X.env] := by rfl) :
    DS K X Z (.Assign [.Name x py] e pos) (tAsg te (gName i)) (wSet i we) := ⟨ps_asg he.pe (pg_name hN hi hx hf) hs hw h1, run_set he.run⟩
abbrev WG := D → R → (R → Prop) → Prop
abbrev WGs := List D → R → (R → Prop) → Prop
def RunG (K : PySem.W.Frag) (Z : Zx) (t : TG) (w : WG) : Prop := ∀ {H0 F0 F H : Hp} {ρ : R} {σ : St} {Q : St → Hp → Prop} {P : R → Prop} {d : D} {v : V}, Z.Ok K H0 F0 → Rel K H0 F0 F H ρ σ → Rep K F d v → w d ρ P →
    (∀ ρ' F' H' σ', P ρ' → Same F F' → Rel K H0 F0 F' H' ρ' σ' → Q σ' H') → t v σ H Q
def RunGs (K : PySem.W.Frag) (Z : Zx) (t : TGs) (w : WGs) : Prop := ∀ {H0 F0 F H : Hp} {ρ : R} {σ : St} {Q : St → Hp → Prop} {P : R → Prop} {ds : List D} {vs : List V}, Z.Ok K H0 F0 → Rel K H0 F0 F H ρ σ → Reps K F ds vs → w ds ρ P →
    (∀ ρ' F' H' σ', P ρ' → Same F F' → Rel K H0 F0 F' H' ρ' σ' → Q σ' H') → t vs σ H Q
structure DG (K : PySem.W.Frag) (X : Cx) (Z : Zx) (e : Expr) (t : TG) (w : WG) : Prop where
  pe : PG X e t
  run : RunG K Z t w
structure DGs (K : PySem.W.Frag) (X : Cx) (Z : Zx) (es : List Expr) (t : TGs) (w : WGs) : Prop where
  pe : PGs X es t
  run : RunGs K Z t w
def wgName (i : Nat) : WG := fun d ρ P => P (put ρ i (some (.d d)))
theorem dg_name (i : Nat) {x : Str} (hN : X.N.Nodup) (hi : X.N[i]? = some x := by rfl) (hx : Loc X.env.scope x := by first | exact Or.inl rfl | exact Or.inr rfl) (hf : X.fn x = true ∨ X.env.scope.names.lookup x = some .local := by first | exact .inl rfl | exact .inr rfl) :
    DG K X Z (.Name x pos) (gName i) (wgName i) :=
  ⟨pg_name hN hi hx hf, fun {H0 F0 F H ρ σ Q P d v} zo rl rp h k => by
    rw [wgName, put_eq] at h
    exact k _ F H _ h (Same.refl _) (rl.store (s := .d d) rp (fun w => nomatch w) i)⟩
def wgNil : WGs := fun ds ρ P => ds = [] ∧ P ρ
def wgCons (w : WG) (r : WGs) : WGs := fun ds ρ P => match ds with
  | d :: ds => w d ρ fun ρ1 => r ds ρ1 P
  | [] => False
def wgTup (n : Nat) (wr : WGs) : WG := fun d ρ P => match d with
  | .tup ds => ds.length = n ∧ wr ds ρ P
  | _ => False
def wAsg (we : W) (wg : WG) : WS := fun DD ρ => we ρ fun s ρ1 => wg s.fz ρ1 DD.nx
theorem ds_asg {tg : Expr} {g : TG} {wg : WG} (he : DE K X Z e te we) (hg : DG K X Z tg g wg) (hs : swapsWithSole [tg] e pos.line X.env = pure false := by rfl) (hw : swappedStores [tg] e X.env = pure none := by rfl)
    (h1 : (assignEach [tg] X.env).map (·.2) = [assign tg X.env] := by rfl) : DS K X Z (.Assign [tg] e pos) (tAsg te g) (wAsg we wg) :=
  ⟨ps_asg he.pe hg.pe hs hw h1, fun {H0 F0 F H ρ σ DD Dh} zo rl ee h => he.run zo rl h fun s ρ' F' H' v p f r sr fr => by
    obtain ⟨F2, f2, r2, rp2⟩ := r.freeze sr fr
    exact hg.run zo r2 rp2 p fun ρ3 F3 H3 σ3 p3 f3 r3 => ee.nx _ _ _ _ p3 (f.trans (f2.trans f3)) r3⟩
structure ItOk (K : PySem.W.Frag) (J : It) (items : List D) (F1 : Hp) : Prop where
  go : ∀ {i : Nat} {F H : Hp}, Same F1 F → Same F H → i < items.length → J.go i H
  stop : ∀ {i : Nat} {F H : Hp}, Same F1 F → Same F H → items.length ≤ i → J.stop i H
  yld : ∀ {i : Nat} {F H H2 : Hp} {x : V}, Same F1 F → Same F H → J.yld i H x H2 → i < items.length →
    ∃ F2 d, items[i]? = some d ∧ Same H H2 ∧ Same F F2 ∧ Same F2 H2 ∧ (∀ a, F2 a ≠ none → F a ≠ none ∨ H a = none) ∧ Rep K F2 d x
def RunI (K : PySem.W.Frag) (Z : Zx) (t : TI) (w : WA) : Prop := ∀ {H0 F0 F H : Hp} {ρ : R} {σ : St} {Q : It → Hp → Prop} {P : List D → R → Prop}, Z.Ok K H0 F0 → Rel K H0 F0 F H ρ σ → w ρ P →
    (∀ items ρ' F' H' J, P items ρ' → Same F F' → Rel K H0 F0 F' H' ρ' σ → ItOk K J items F' → Q J H') → t σ H Q
structure DI (K : PySem.W.Frag) (X : Cx) (Z : Zx) (tg iter : Expr) (t : TI) (w : WA) : Prop where
  pe : PI X tg iter t
  run : RunI K Z t w
theorem ItOk.pure {K : PySem.W.Frag} {J : It} {items : List D} {F1 : Hp} (go : ∀ {i : Nat} {F H : Hp}, Same F1 F → Same F H → i < items.length → J.go i H) (stop : ∀ {i : Nat} {F H : Hp}, Same F1 F → Same F H → items.length ≤ i → J.stop i H)
    (yld : ∀ {i : Nat} {F H H2 : Hp} {x : V}, Same F1 F → Same F H → J.yld i H x H2 → i < items.length → ∃ d, items[i]? = some d ∧ H2 = H ∧ Rep K F d x) : ItOk K J items F1 :=
  ⟨go, stop, fun f h y l => by
    obtain ⟨d, e, rfl, r⟩ := yld f h y l
    exact ⟨_, d, e, Same.refl _, Same.refl _, h, fun _ q => .inl q, r⟩⟩
def asL (d : D) (P : List D → Prop) : Prop := match d with
  | .lst xs => P xs
  | .cel ns => P (ns.map .int)
  | _ => False
theorem asL_of {K : PySem.W.Frag} {F : Hp} {d : D} {v : V} {P : List D → Prop} (h : asL d P) (r : Rep K F d v) : ∃ a vs xs, v = .ref a ∧ SqL K F a vs ∧ Reps K F xs vs ∧ P xs := by
  cases d <;> first
    | exact h.elim
    | (obtain ⟨a, vs, e, h1, h2⟩ := r; exact ⟨a, vs, _, e, SqL.of h1, h2, h⟩)
    | (obtain ⟨a, e, h1⟩ := r; exact ⟨a, _, _, e, h1, Reps.ints.mpr rfl, h⟩)
def asT (d : D) (P : List D → Prop) : Prop := match d with
  | .tup xs => P xs
  | _ => False
def signs (z : Str) : List Str := z.cps.toList.map fun c => ⟨#[c]⟩
def rangeD (lo : Int) (n : Nat) : List D := (List.range n).map fun (i : Nat) => .int (lo + i)
theorem rangeD_len (lo : Int) (n : Nat) : (rangeD lo n).length = n := by simp [rangeD]
theorem it_range {K : PySem.W.Frag} {lo : Int} {n : Nat} {F1 : Hp} : ItOk K (Itr lo n) (rangeD lo n) F1 :=
  ItOk.pure (fun {i F H} f g l => by rw [rangeD_len] at l; exact l) (fun {i F H} f g l => by rw [rangeD_len] at l; exact l) fun {i F H H2 x} f g y l => by
    obtain ⟨rfl, rfl⟩ := y
    rw [rangeD_len] at l
    exact ⟨.int (lo + i), by simp [rangeD, l], rfl, rfl⟩
def wiR1 (wa : WA) : WA := fun ρ P => wa ρ fun ds ρ1 => match ds with
  | [.int j] => (-(2 ^ 62) ≤ j ∧ j < 2 ^ 62) ∧ P (rangeD 0 j.toNat) ρ1
  | _ => False
def wiR2 (wa : WA) : WA := fun ρ P => wa ρ fun ds ρ1 => match ds with
  | [.int i, .int j] => (-(2 ^ 62) ≤ i ∧ i < 2 ^ 62 ∧ -(2 ^ 62) ≤ j ∧ j < 2 ^ 62) ∧ P (rangeD i (j - i).toNat) ρ1
  | _ => False
theorem di_range1 {tg a : Expr} {p : Pos} {ta : TA} {wa : WA} (hm : X.mg "range" = none) (ha : DA K X Z [a] ta wa) (hg : Gl X "range" := by rfl) (hs : starEach [a] X.env = [(false, eval a X.env)] := by rfl) :
    DI K X Z tg (.Call (.Name "range" p) [a] [] pos) (iRng1 ta) (wiR1 wa) := by
  refine ⟨pi_range1 hg hm ha.pe hs, fun {H0 F0 F H ρ σ Q P} zo rl h k => ha.run zo rl h fun ds ρ1 F1 H1 vs h1 f1 r1 rps => ?_⟩
  split at h1
  · obtain ⟨v, r, rfl, rfl, rfl⟩ := rps
    exact ⟨_, rfl, h1.1.1, h1.1.2, k _ _ _ _ _ h1.2 f1 r1 it_range⟩
  · exact h1.elim
def forD (wg : WG) (wb : WS) (DD : DEnds) : List D → R → Prop
  | [], ρ => DD.nx ρ
  | d :: ds, ρ => wg d ρ fun ρ1 => ∃ N : R → Prop, (∀ ρ', N ρ' → forD wg wb DD ds ρ') ∧ wb ⟨N, DD.rt, DD.nx, N⟩ ρ1
def wFor (wi : WA) (wg : WG) (wb : WS) : WS := fun DD ρ => wi ρ fun items ρ1 => forD wg wb DD items ρ1
theorem run_for {wi : TI} {wa : WA} {g : TG} {wg : WG} {tb : TS} {wb : WS} (hi : RunI K Z wi wa) (hg : RunG K Z g wg) (hb : RunS K Z tb wb) : RunS K Z (tFor wi g tb) (wFor wa wg wb) := fun {H0 F0 F H ρ σ DD Dh} zo rl ee h => by
  refine hi zo rl h fun items ρ1 F1 H1 J h1 f1 r1 it => ?_
  refine ⟨fun i m σ H => m = items.length - i ∧ i ≤ items.length ∧ ∃ F2 ρ2, Same F1 F2 ∧ Rel K H0 F0 F2 H ρ2 σ ∧ forD wg wb DD (items.drop i) ρ2, ⟨_, rfl, Nat.zero_le _, F1, ρ1, Same.refl _, r1, h1⟩, ?_⟩
  rintro i m σ H ⟨rfl, hi, F2, ρ2, f2, r2, w⟩
  by_cases hlt : i < items.length
  · refine .inr ⟨it.go f2 r2.fh hlt, fun σ' H' => (fun i m σ H => m = items.length - i ∧ i ≤ items.length ∧ ∃ F2 ρ2, Same F1 F2 ∧ Rel K H0 F0 F2 H ρ2 σ ∧ forD wg wb DD (items.drop i) ρ2) (i + 1) (items.length - (i + 1)) σ' H',
      fun σ' H' q => ⟨_, by omega, q⟩, fun x H2 y => ?_⟩
    obtain ⟨F3, d, e, hh, ff, fh, nw, rp⟩ := it.yld f2 r2.fh y hlt
    have r3 : Rel K H0 F0 F3 H2 ρ2 σ := r2.after hh ff fh nw
    rw [List.drop_eq_getElem_cons hlt] at w
    have ed : items[i] = d := by rw [List.getElem?_eq_getElem hlt] at e; exact Option.some.inj e
    rw [ed] at w
    refine hg zo r3 rp w fun ρ4 F4 H4 σ4 p4 f4 r4 => ?_
    obtain ⟨N, hN, p4⟩ := p4
    refine hb (DD := ⟨N, DD.rt, DD.nx, N⟩) zo r4 ⟨fun ρ' F' H' σ' q f r => ?_, ?_, fun ρ' F' H' σ' q f r => ee.nx _ _ _ _ q (f1.trans (f2.trans (ff.trans (f4.trans f)))) r, fun ρ' F' H' σ' q f r => ?_⟩ p4
    · exact ⟨rfl, hlt, F', ρ', f2.trans (ff.trans (f4.trans f)), r, hN _ q⟩
    · exact fun s v F' H' q f => ee.rt s v F' H' q (f1.trans (f2.trans (ff.trans (f4.trans f))))
    · exact ⟨rfl, hlt, F', ρ', f2.trans (ff.trans (f4.trans f)), r, hN _ q⟩
  · have e : items.drop i = [] := List.drop_eq_nil_of_le (by omega)
    rw [e] at w
    exact .inl ⟨it.stop f2 r2.fh (by omega), ee.nx _ _ _ _ w (f1.trans f2) r2⟩
theorem ds_for {tg iter : Expr} {body : List Stmt} {wi : TI} {wa : WA} {g : TG} {wg : WG} {tb : TS} {wb : WS} (hp : PassesOwn (model X.prog X.w) X.A X.env X.xe) (hc : X.calm = true) (hi : DI K X Z tg iter wi wa) (hg : DG K X Z tg g wg) (hb : DSs K X Z body tb wb)
    (hs : ∀ x, foldedSetIterable iter X.env x = pure x := by intro _; rfl) : DS K X Z (.For tg iter body [] pos) (tFor wi g tb) (wFor wa wg wb) := ⟨ps_for hp hc hi.pe hg.pe hb.pe hs, run_for hi.run hg.run hb.run⟩
def wWhile (wc : WT) (wb : WS) : WS := fun DD ρ => ∃ W : Nat → R → Prop, (∃ m, W m ρ) ∧ ∀ m ρ, W m ρ → wc ρ fun b ρ1 => if b = true then wb ⟨fun ρ' => ∃ m', m' < m ∧ W m' ρ', DD.rt, DD.nx, fun ρ' => ∃ m', m' < m ∧ W m' ρ'⟩ ρ1 else DD.nx ρ1
theorem ds_while {c : Expr} {body : List Stmt} {tc : TT} {wc : WT} {tb : TS} {wb : WS} (hp : PassesOwn (model X.prog X.w) X.A X.env X.xe) (hc : DT K X Z c tc wc) (hb : DSs K X Z body tb wb) : DS K X Z (.While c body [] pos) (tWhile tc tb) (wWhile wc wb) :=
  ⟨ps_while hp hc.pe hb.pe, fun {H0 F0 F H ρ σ DD Dh} zo rl ee h => by
    obtain ⟨W, ⟨m0, w0⟩, turn⟩ := h
    refine ⟨fun m σ H => ∃ F2 ρ2, Same F F2 ∧ Rel K H0 F0 F2 H ρ2 σ ∧ W m ρ2, ⟨m0, F, ρ, Same.refl _, rl, w0⟩, ?_⟩
    rintro m σ H ⟨F2, ρ2, f2, r2, w⟩
    refine hc.run zo r2 (turn m ρ2 w) fun b ρ3 F3 H3 p f3 r3 => ?_
    cases b with
    | true =>
      refine ⟨fun σ' H' => ∃ m', m' < m ∧ ∃ F2 ρ2, Same F F2 ∧ Rel K H0 F0 F2 H' ρ2 σ' ∧ W m' ρ2, fun σ' H' q => q, ?_⟩
      refine hb.run (DD := ⟨fun ρ' => ∃ m', m' < m ∧ W m' ρ', DD.rt, DD.nx, fun ρ' => ∃ m', m' < m ∧ W m' ρ'⟩) zo r3 ⟨fun ρ' F' H' σ' q f r => ?_, fun s v F' H' q f => ee.rt s v F' H' q (f2.trans (f3.trans f)), fun ρ' F' H' σ' q f r => ee.nx _ _ _ _ q (f2.trans (f3.trans f)) r, fun ρ' F' H' σ' q f r => ?_⟩ p
      all_goals
        obtain ⟨m', hm, w'⟩ := q
        exact ⟨m', hm, F', ρ', f2.trans (f3.trans f), r, w'⟩
    | false => exact ee.nx _ _ _ _ p (f2.trans f3) r3⟩
def wipeR (ρ : R) : List Nat → R
  | [] => ρ
  | v :: vs => put (wipeR ρ vs) v none
theorem Rel.setN {H0 F0 F H : Hp} {ρ : R} {σ : St} (r : Rel K H0 F0 F H ρ σ) (v : Nat) (x : Option V) : Rel K H0 F0 F H (ρ.set v none) (σ.set v x) := by
  have r1 := r.drop1 v
  refine ⟨r1.h, r1.f, r1.fh, r1.nw, by simp [r.len], fun i s q => ?_, fun i j s t q1 q2 w1 w2 e => ?_⟩
  · have hi : i ≠ v := by rintro rfl; exact set_none q
    obtain ⟨u, q1, q2⟩ := r1.at_ i s q
    exact ⟨u, by rw [List.getElem?_set_ne (Ne.symm hi)]; exact q1, q2⟩
  · have hi : i ≠ v := by rintro rfl; exact set_none q1
    have hj : j ≠ v := by rintro rfl; exact set_none q2
    rw [List.getElem?_set_ne (Ne.symm hi), List.getElem?_set_ne (Ne.symm hj)] at e
    exact r1.ap i j s t q1 q2 w1 w2 e
theorem Rel.wipe {H0 F0 F H : Hp} {ρ : R} {σ : St} (r : Rel K H0 F0 F H ρ σ) : ∀ vs : List Nat, Rel K H0 F0 F H (wipeR ρ vs) (wipe σ vs)
  | [] => r
  | v :: vs => by
    rw [wipeR, put_eq]
    exact (Rel.wipe r vs).setN v none
structure DGb (K : PySem.W.Frag) (X : Cx) (Z : Zx) (e : Expr) (vs : List Nat) (t : TG) (w : WG) : Prop where
  pe : PG X e t
  run : ∀ {H0 F0 F H : Hp} {ρ : R} {σ : St} {Q : St → Hp → Prop} {P : R → Prop} {d : D} {v : V}, Z.Ok K H0 F0 → Rel K H0 F0 F H ρ σ → Rep K F d v → w d ρ P →
    (∀ ρ' F' H' σ', P ρ' → Same F F' → Rel K H0 F0 F' H' ρ' σ' → L2.wipe σ' vs = L2.wipe σ vs → Q σ' H') → t v σ H Q
end
theorem wipe_comm (σ : St) (i : Nat) (x : Option V) : ∀ vs : List Nat, i ∉ vs → L2.wipe (σ.set i x) vs = (L2.wipe σ vs).set i x
  | [], _ => rfl
  | v :: vs, h => by
    have h1 : i ≠ v := fun e => h (by rw [e]; exact List.mem_cons_self)
    show (L2.wipe (σ.set i x) vs).set v none = ((L2.wipe σ vs).set v none).set i x
    rw [wipe_comm σ i x vs fun z => h (List.mem_cons_of_mem _ z), List.set_comm _ _ h1]
theorem wipe_set (σ : St) (i : Nat) (x : Option V) : ∀ vs : List Nat, i ∈ vs → L2.wipe (σ.set i x) vs = L2.wipe σ vs
  | [], h => by cases h
  | v :: vs, h => by
    show (L2.wipe (σ.set i x) vs).set v none = (L2.wipe σ vs).set v none
    by_cases hv : i ∈ vs
    · rw [wipe_set σ i x vs hv]
    · have e : i = v := (List.mem_cons.mp h).elim id fun z => absurd z hv
      subst e
      rw [wipe_comm σ i x vs hv, List.set_set]
theorem wipe_idem (σ : St) : ∀ vs us : List Nat, (∀ v ∈ us, v ∈ vs) → L2.wipe (L2.wipe σ us) vs = L2.wipe σ vs
  | vs, [], _ => rfl
  | vs, u :: us, h => by
    show L2.wipe ((L2.wipe σ us).set u none) vs = L2.wipe σ vs
    rw [wipe_set _ _ _ _ (h u List.mem_cons_self), wipe_idem σ vs us fun v z => h v (List.mem_cons_of_mem _ z)]
section
variable {K : PySem.W.Frag} {X : Cx} {Z : Zx} {pos : Pos} {e : Expr} {te : TE} {we : W}
theorem dgb_name (i : Nat) {vs : List Nat} {x : Str} (hN : X.N.Nodup) (hv : i ∈ vs := by decide) (hi : X.N[i]? = some x := by rfl) (hx : Loc X.env.scope x := by first | exact Or.inl rfl | exact Or.inr rfl) (hf : X.fn x = true ∨ X.env.scope.names.lookup x = some .local := by first | exact .inl rfl | exact .inr rfl) :
    DGb K X Z (.Name x pos) vs (gName i) (wgName i) :=
  ⟨pg_name hN hi hx hf, fun {H0 F0 F H ρ σ Q P d v} zo rl rp h k => by
    rw [wgName, put_eq] at h
    exact k _ F H _ h (Same.refl _) (rl.store (s := .d d) rp (fun w => nomatch w) i) (wipe_set _ _ _ _ hv)⟩
structure DGbs (K : PySem.W.Frag) (X : Cx) (Z : Zx) (es : List Expr) (vs : List Nat) (t : TGs) (w : WGs) : Prop where
  pe : PGs X es t
  run : ∀ {H0 F0 F H : Hp} {ρ : R} {σ : St} {Q : St → Hp → Prop} {P : R → Prop} {ds : List D} {us : List V}, Z.Ok K H0 F0 → Rel K H0 F0 F H ρ σ → Reps K F ds us → w ds ρ P →
    (∀ ρ' F' H' σ', P ρ' → Same F F' → Rel K H0 F0 F' H' ρ' σ' → L2.wipe σ' vs = L2.wipe σ vs → Q σ' H') → t us σ H Q
theorem dgbs_nil {vs : List Nat} : DGbs K X Z [] vs gNil wgNil := ⟨pgs_nil, fun {H0 F0 F H ρ σ Q P ds us} zo rl rp h k => by
    obtain ⟨rfl, p⟩ := h
    exact ⟨rp, k _ F H σ p (Same.refl _) rl rfl⟩⟩
theorem dgbs_cons {es : List Expr} {vs : List Nat} {tg : TG} {tr : TGs} {wg : WG} {wr : WGs} (h1 : DGb K X Z e vs tg wg) (h2 : DGbs K X Z es vs tr wr) (hs : (assignEach (e :: es) X.env).map (·.2) = assign e X.env :: (assignEach es X.env).map (·.2) := by rfl) :
    DGbs K X Z (e :: es) vs (gCons tg tr) (wgCons wg wr) := ⟨pgs_cons h1.pe h2.pe hs, fun {H0 F0 F H ρ σ Q P ds us} zo rl rp h k => by
    cases ds with
    | nil => exact h.elim
    | cons d ds =>
      obtain ⟨v, r, rfl, q1, q2⟩ := rp
      exact ⟨v, r, rfl, h1.run zo rl q1 h fun ρ1 F1 H1 σ1 p f r1 e1 => h2.run zo r1 (Reps.mono f _ _ q2) p fun ρ2 F2 H2 σ2 p2 f2 r2 e2 => k _ _ _ _ p2 (f.trans f2) r2 (e2.trans e1)⟩⟩
theorem dgb_tup {es : List Expr} {vs : List Nat} {kx : Nat} {tr : TGs} {wr : WGs} {n : Nat} (hc : X.calm = true) (h : DGbs K X Z es vs tr wr) (hK : X.K = K := by rfl) (hn : (assignEach es X.env).length = n := by rfl) (hst : (assignEach es X.env).findIdx? (·.1) = none := by rfl) :
    DGb K X Z (.Tuple es kx pos) vs (gTup K n tr) (wgTup n wr) := by
  refine ⟨by subst hK; exact pg_tup hc h.pe hn hst, fun {H0 F0 F H ρ σ Q P d v} zo rl rp q k => ?_⟩
  cases d with
  | tup ds =>
    obtain ⟨a, us, rfl, s1, s2⟩ := rp
    exact ⟨a, us, rfl, Same.sqT rl.fh s1, by rw [s2.len]; exact q.1, h.run zo rl s2 q.2 k⟩
  | _ => exact q.elim
structure DTs (K : PySem.W.Frag) (X : Cx) (Z : Zx) (es : List Expr) (t : TT) (w : WT) : Prop where
  pe : PTs X es t
  run : RunT K Z t w
def wYes : WT := fun ρ P => P true ρ
theorem dts_nil : DTs K X Z [] tYes wYes := ⟨pts_nil, fun {H0 F0 F H ρ σ Q P} zo rl h k => k _ _ F H h (Same.refl _) rl⟩
def dataR : R → R
  | [] => []
  | some (.d x) :: r => some (.d x) :: dataR r
  | _ :: r => none :: dataR r
theorem dataR_get : ∀ {ρ : R} {i : Nat} {s : S}, (dataR ρ)[i]? = some (some s) → ∃ x, s = .d x ∧ ρ[i]? = some (some (.d x))
  | [], i, s, h => by simp [dataR] at h
  | o :: r, 0, s, h => by
    cases o with
    | none => simp [dataR] at h
    | some t =>
      cases t with
      | d x => simp [dataR] at h; exact ⟨x, h.symm, rfl⟩
      | ol _ => simp [dataR] at h
      | od _ => simp [dataR] at h
      | oi _ _ => simp [dataR] at h
      | os _ _ _ => simp [dataR] at h
  | o :: r, i + 1, s, h => by
    have h' : (dataR r)[i]? = some (some s) := by
      cases o with
      | none => simpa [dataR] using h
      | some t => cases t <;> simpa [dataR] using h
    obtain ⟨x, e, q⟩ := dataR_get h'
    exact ⟨x, e, by simpa using q⟩
theorem dataR_len : ∀ ρ : R, (dataR ρ).length = ρ.length
  | [] => rfl
  | o :: r => by
    cases o with
    | none => simp [dataR, dataR_len r]
    | some t => cases t <;> simp [dataR, dataR_len r]
theorem wipeR_len (ρ : R) : ∀ vs : List Nat, (wipeR ρ vs).length = ρ.length
  | [] => rfl
  | v :: vs => by rw [wipeR, put_eq, List.length_set, wipeR_len ρ vs]
theorem wipeR_get {ρ : R} {i : Nat} {s : S} : ∀ {vs : List Nat}, (wipeR ρ vs)[i]? = some (some s) → ρ[i]? = some (some s) ∧ i ∉ vs
  | [], h => ⟨h, by simp⟩
  | v :: vs, h => by
    rw [wipeR, put_eq] at h
    by_cases hi : i = v
    · subst hi; exact (set_none h).elim
    · rw [List.getElem?_set_ne (Ne.symm hi)] at h
      obtain ⟨h1, h2⟩ := wipeR_get h
      exact ⟨h1, fun z => (List.mem_cons.mp z).elim hi h2⟩
theorem wipe_out (σ : St) : ∀ (vs : List Nat) (i : Nat), i ∉ vs → (L2.wipe σ vs)[i]? = σ[i]?
  | [], i, _ => rfl
  | v :: vs, i, h => by
    show ((L2.wipe σ vs).set v none)[i]? = _
    rw [List.getElem?_set_ne (fun e => h (by rw [e]; exact List.mem_cons_self)), wipe_out σ vs i fun z => h (List.mem_cons_of_mem _ z)]
theorem Rel.view {H0 F0 F H F' H' : Hp} {ρ : R} {σ : St} (r : Rel K H0 F0 F H ρ σ) (f : Same F F') (fh : Same F' H') (vs : List Nat) : Rel K H' F' F' H' (wipeR (dataR ρ) vs) (L2.wipe σ vs) := by
  refine ⟨Same.refl _, Same.refl _, fh, fun _ q => .inl q, ?_, fun i s q => ?_, fun i j s t q1 q2 w1 w2 z => ?_⟩
  · rw [wipeR_len, dataR_len, wipe_length, r.len]
  · obtain ⟨h1, h2⟩ := wipeR_get q
    obtain ⟨x, rfl, h3⟩ := dataR_get h1
    obtain ⟨v, z1, z2⟩ := r.at_ i _ h3
    exact ⟨v, by rw [wipe_out σ vs i h2]; exact z1, Rep.mono f _ _ z2⟩
  · obtain ⟨h1, h2⟩ := wipeR_get q1
    obtain ⟨x, rfl, h3⟩ := dataR_get h1
    cases w1
theorem Zx.Ok.on {H0 F0 H1 F1 : Hp} (zo : Z.Ok K H0 F0) (hh : Same H0 H1) (ff : Same F0 F1) (nw : ∀ a, F1 a ≠ none → F0 a ≠ none ∨ H0 a = none) : Z.Ok K H1 F1 := fun N C fs d F' H' p g h1 f1 fh n x =>
  zo N C fs d F' H' p g (hh.trans h1) (ff.trans f1) fh (fun a q => by
    rcases n a q with z | z
    · exact nw a z
    · exact .inr (hh.free z)) x
def compD (wg : WG) (wt : WT) (we : W) (ρb : R) : List D → (List D → Prop) → Prop
  | [], P => P []
  | d :: ds, P => wg d ρb fun ρ1 => wt ρ1 fun b ρ2 => if b = true then we ρ2 fun s _ => compD wg wt we ρb ds fun r => P (s.fz :: r) else compD wg wt we ρb ds P
def wLc (wi : WA) (wg : WG) (wt : WT) (we : W) (vs : List Nat) : W := fun ρ P => wi ρ fun items ρ1 => items.length ≤ sizeLine ∧ compD wg wt we (wipeR (dataR ρ1) vs) items fun acc => P (.ol acc) ρ1
theorem run_lc {wi : TI} {wa : WA} {g : TG} {wg : WG} {tt : TT} {wt : WT} {vs : List Nat} (hi : RunI K Z wi wa)
    (hg : ∀ {H0 F0 F H : Hp} {ρ : R} {σ : St} {Q : St → Hp → Prop} {P : R → Prop} {d : D} {v : V}, Z.Ok K H0 F0 → Rel K H0 F0 F H ρ σ → Rep K F d v → wg d ρ P →
      (∀ ρ' F' H' σ', P ρ' → Same F F' → Rel K H0 F0 F' H' ρ' σ' → L2.wipe σ' vs = L2.wipe σ vs → Q σ' H') → g v σ H Q)
    (ht : RunT K Z tt wt) (he : RunE K Z te we) : RunE K Z (tLc wi g tt te vs) (wLc wa wg wt we vs) := fun {H0 F0 F H ρ σ Q P} zo rl h k => by
  refine hi zo rl h fun items ρ1 F1 H1 J h1 f1 r1 it => fun D nD => ?_
  obtain ⟨hsz, h1⟩ := h1
  let Iv := fun (i : Nat) (H : Hp) => ∃ F2 acc vs', Same H1 H ∧ Same F1 F2 ∧ Same F2 H ∧ (∀ a, F2 a ≠ none → F1 a ≠ none ∨ H1 a = none) ∧ F2 D = none ∧ H D = some (.lst vs') ∧ Reps K F2 acc vs' ∧ acc.length ≤ i ∧
    compD wg wt we (wipeR (dataR ρ1) vs) (items.drop i) fun r => P (.ol (acc ++ r)) ρ1
  refine ⟨fun i m H => m = items.length - i ∧ i ≤ items.length ∧ Iv i H, ⟨_, rfl, Nat.zero_le _, F1, [], [], Same.new nD, Same.refl _, r1.fh.trans (Same.new nD), fun _ q => .inl q, r1.fh.free nD, upd_same, rfl, Nat.le_refl _, h1⟩, ?_⟩
  rintro i m H ⟨rfl, hi, F2, acc, vs', hh, ff, fh, nw, fn, hD, ra, la, w⟩
  by_cases hlt : i < items.length
  · refine .inr ⟨it.go ff fh hlt, fun H' => Iv (i + 1) H', fun H' q => ⟨items.length - (i + 1), by omega, rfl, hlt, q⟩, fun x H2 y => ?_⟩
    obtain ⟨F3, d, e, hh3, ff3, fh3, nw3, rp⟩ := it.yld ff fh y hlt
    rw [List.drop_eq_getElem_cons hlt] at w
    have ed : items[i] = d := by rw [List.getElem?_eq_getElem hlt] at e; exact Option.some.inj e
    rw [ed] at w
    have nwF3 : ∀ a, F3 a ≠ none → F1 a ≠ none ∨ H1 a = none := fun a q => by
      rcases nw3 a q with z | z
      · exact nw a z
      · exact .inr (hh.free z)
    have fn3 : F3 D = none := by
      cases q : F3 D with
      | none => rfl
      | some u =>
        rcases nw3 D (by rw [q]; exact fun z => nomatch z) with z | z
        · exact absurd fn z
        · rw [z] at hD; cases hD
    have r3 := r1.view (ff.trans ff3) fh3 vs
    have zo3 : Z.Ok K H2 F3 := (zo.on r1.h r1.f r1.nw).on (hh.trans hh3) (ff.trans ff3) nwF3
    -- what the turn leaves: from the state at its start
    have out : ∀ {F5 H5 : Hp} {ρ5 : R} {σ5 : St}, Rel K H2 F3 F5 H5 ρ5 σ5 → Same H1 H5 ∧ Same F1 F5 ∧ Same F5 H5 ∧ (∀ a, F5 a ≠ none → F1 a ≠ none ∨ H1 a = none) ∧ F5 D = none ∧ H5 D = some (.lst vs') ∧ Reps K F5 acc vs' := fun {F5 H5 ρ5 σ5} r5 => by
      refine ⟨(hh.trans hh3).trans r5.h, (ff.trans ff3).trans r5.f, r5.fh, fun a q => ?_, ?_, r5.h _ _ (hh3 _ _ hD), Reps.mono (ff3.trans r5.f) _ _ ra⟩
      · rcases r5.nw a q with z | z
        · exact nwF3 a z
        · exact .inr ((hh.trans hh3).free z)
      · cases q : F5 D with
        | none => rfl
        | some u =>
          rcases r5.nw D (by rw [q]; exact fun z => nomatch z) with z | z
          · exact absurd fn3 z
          · rw [hh3 _ _ hD] at z; cases z
    refine hg zo3 r3 rp w fun ρ4 F4 H4 σ4 p4 f4 r4 e4 => ⟨by rw [e4, wipe_idem σ vs vs fun v z => z], ?_⟩
    refine ht zo3 r4 p4 fun b ρ5 F5 H5 p5 f5 r5 => ?_
    cases b with
    | false =>
      rw [if_neg Bool.false_ne_true] at p5 ⊢
      obtain ⟨o1, o2, o3, o4, o5, o6, o7⟩ := out r5
      exact ⟨F5, acc, vs', o1, o2, o3, o4, o5, o6, o7, Nat.le_succ_of_le la, p5⟩
    | true =>
      rw [if_pos rfl] at p5 ⊢
      refine he zo3 r5 p5 fun s ρ6 F6 H6 v6 p6 f6 r6 sr6 fr6 => ?_
      obtain ⟨F7, f7, r7, rp7⟩ := r6.freeze sr6 fr6
      obtain ⟨o1, o2, o3, o4, o5, o6, o7⟩ := out r7
      have lv : vs'.length = acc.length := o7.len
      refine ⟨vs', o6, by omega, F7, acc ++ [s.fz], vs' ++ [v6], fun b u q => ?_, o2, fun b u q => ?_, o4, o5, upd_same, o7.app (.one rp7), by rw [List.length_append, List.length_singleton]; omega, ?_⟩
      · rw [upd_ne (ne_of_none q nD)]; exact o1 _ _ q
      · rw [upd_ne (ne_of_none q o5)]; exact o3 _ _ q
      · simpa only [List.append_assoc, List.singleton_append] using p6
  · have e : items.drop i = [] := List.drop_eq_nil_of_le (by omega)
    rw [e] at w
    have w' : P (.ol acc) ρ1 := by
      have z : P (.ol (acc ++ [])) ρ1 := w
      rwa [List.append_nil] at z
    refine .inl ⟨it.stop ff fh (by omega), k _ _ F2 H _ w' (f1.trans ff) (r1.after hh ff fh nw) ⟨D, vs', rfl, hD, ra, r1.h.free nD, fn⟩ fun _ j t q wt z => ?_⟩
    obtain ⟨v, q1, q2⟩ := r1.at_ j t q
    obtain ⟨a, u, e1, hu, _, _⟩ := q2.addr wt
    rw [z] at q1; cases q1; cases e1
    rw [nD] at hu; cases hu
section
variable {elt tg iter : Expr} {ifs : List Expr} {scope : Scope} {own : List (Str × Nat)} {wi : TI} {wa : WA} {g : TG} {wg : WG} {tt : TT} {wt : WT}
theorem de_lc (hc : X.calm = true) (hN : X.N.Nodup) (hi : DI K X Z tg iter wi wa) (ok : BlkOk X.N X.env.scope scope own)
    (hg : ∀ (s : Shared) (H : Hp) (C : Addr) (cl : List (Str × Addr)) (fp : List Addr), DGb K (X.blk s H scope (compEnvC scope cl C X.env) fp) Z tg (own.map (·.2)) g wg) (ht : ∀ (s : Shared) (H : Hp) (C : Addr) (cl : List (Str × Addr)) (fp : List Addr), DTs K (X.blk s H scope (compEnvC scope cl C X.env) fp) Z ifs tt wt)
    (he : ∀ (s : Shared) (H : Hp) (C : Addr) (cl : List (Str × Addr)) (fp : List Addr), DE K (X.blk s H scope (compEnvC scope cl C X.env) fp) Z elt te we) (hs : ∀ x, foldedSetIterable iter X.env x = pure x := by intro _; rfl) :
    DE K X Z (.ListComp elt [⟨tg, iter, ifs, 0⟩] scope pos) (tLc wi g tt te (own.map (·.2))) (wLc wa wg wt we (own.map (·.2))) :=
  ⟨pe_lc hc hN hi.pe ok (fun s H C cl fp => (hg s H C cl fp).pe) (fun s H C cl fp => (ht s H C cl fp).pe) (fun s H C cl fp => (he s H C cl fp).pe) hs,
    run_lc hi.run (hg X.s_0 (fun _ => none) 0 [] []).run (ht X.s_0 (fun _ => none) 0 [] []).run (he X.s_0 (fun _ => none) 0 [] []).run⟩
end
end
end DL
namespace DL
open PySem L2
abbrev DSp := List D → (S → Prop) → PX → Prop
def spD (K : PySem.W.Frag) (R : DSp) : Sp := fun vs H Q E => ∃ F ds P px, Same F H ∧ Reps K F ds vs ∧ R ds P px ∧ Kont K H F P Q ∧ (⟨E, px⟩ : Zx).Ok K H F
section
variable {K : PySem.W.Frag} {X : Cx} {Z : Zx} {pos p : Pos} {CX : CXT} {k : Nat} {f : Addr} {fd : FuncData} {ps : List Str} {Rf : DSp} {x : Str} {e : Expr} {es : List Expr} {ta : TA} {wa : WA}
def wCall (Rf : DSp) (px : PX) (wa : WA) : W := fun ρ P => wa ρ fun ds ρ1 => Rf ds (fun s => P s ρ1) px
theorem run_call (ha : RunA K Z ta wa) : RunE K Z (tCall (spD K Rf) [] Z.E ta) (wCall Rf Z.P wa) := fun {H0 F0 F H ρ σ Q P} zo rl h kq =>
  ha zo rl h fun ds ρ1 F1 H1 vs h1 f1 r1 rps => by
    rw [List.append_nil]
    exact ⟨F1, ds, _, Z.P, r1.fh, rps, h1, r1.kont f1 kq, zo.on r1.h r1.f r1.nw⟩
theorem de_call (F : FnOk X.prog X.w X.K X.mg X.base CX k f fd ps (spD K Rf)) (hr : Room k X.A) (hm : X.mg x = some (.ref f)) (hk : PySem.W.keepIn X.K (.ref f) = true) (hb : Binds X.K fd ps []) (hx : Passes CX X Z.E)
    (ha : DA K X Z (e :: es) ta wa) (hg : Gl X x := by rfl) (hdb : (x == ("__debug__" : Str)) = false := by decide) (he : starEach (e :: es) X.env = (false, eval e X.env) :: starEach es X.env := by rfl) (hpl : (backTo pos (starEach es X.env)).any (·.1) = false := by rfl) :
    DE K X Z (.Call (.Name x p) (e :: es) [] pos) (tCall (spD K Rf) [] Z.E ta) (wCall Rf Z.P wa) :=
  ⟨pe_call F hr hg hm hk hb .nil hx ha.pe (hdb := hdb) (he := he) (hpl := hpl), run_call ha.run⟩
end
def startR (N : List Str) (ds : List D) : R := ds.map (fun d => some (.d d)) ++ List.replicate (N.length - ds.length) none
theorem rel_start {K : PySem.W.Frag} {F H : Hp} {ds : List D} {vs : List V} {N : List Str} (fh : Same F H) (r : Reps K F ds vs) : Rel K H F F H (startR N ds) (start N vs) := by
  have hl : vs.length = ds.length := r.len
  have get : ∀ (i : Nat) s, (startR N ds)[i]? = some (some s) → ∃ d, s = .d d ∧ ds[i]? = some d := fun i s q => by
    unfold startR at q
    by_cases h : i < ds.length
    · rw [List.getElem?_append_left (by simpa using h), List.getElem?_map] at q
      cases e : ds[i]? with
      | none => rw [e] at q; cases q
      | some d => rw [e] at q; cases q; exact ⟨d, rfl, rfl⟩
    · rw [List.getElem?_append_right (by simpa using h), List.getElem?_replicate] at q
      split at q <;> cases q
  refine ⟨Same.refl _, Same.refl _, fh, fun _ q => .inl q, ?_, fun i s q => ?_, fun i j s t q1 q2 w1 w2 e => ?_⟩
  · simp [startR, L2.start, hl]
  · obtain ⟨d, rfl, e⟩ := get i s q
    obtain ⟨v, e1, rp⟩ := r.get e
    refine ⟨v, ?_, rp⟩
    have h : i < vs.length := (List.getElem?_eq_some_iff.mp e1).1
    unfold L2.start
    rw [List.getElem?_append_left (by simpa using h), List.getElem?_map, e1]
    rfl
  · obtain ⟨d, rfl, _⟩ := get i s q1
    cases w1
section
variable {P : Program} {w : World} {K : PySem.W.Frag} {mg : Str → Option Value} {base : Heap} {x qual : Str} {st : Stmt} {f : Addr} {fd : FuncData} {N ps : List Str} {k : Nat} {Rf : DSp}
theorem fnD (F : Fun K x qual st f fd) (S : FnScope N ps (defScope st)) (len : ∀ ds Q px, Rf ds Q px → ds.length = ps.length)
    (hbody : ∀ (cdv : Value) (A : Around) (outer : List Env) (s : Shared) (H : Hp) (E : XK), Room k (A.deeper (PyProof.Rows.envOfC qual (defScope st) s.heap.objs.size f cdv)) →
      ∃ t wb, DSs K (cxOf CX0 P w K mg base N qual (defScope st) f cdv A outer s H E).nox Z0 (defBody st) t wb ∧ ∀ ds Q px, Rf ds Q px → wb ⟨fun _ => Q (.d .non), Q, fun _ => False, fun _ => False⟩ (startR N ds)) :
    FnOk P w K mg base CX0 (k + 1) f fd ps (spD K Rf) := by
  refine F.ok S (fun vs H Q E h => ?_) (fun cdv A outer s H vs Q E hr h => ?_)
  · obtain ⟨F, ds, P, px, _, r, h, _⟩ := h
    rw [r.len]; exact len _ _ _ h
  · obtain ⟨F, ds, P', px, fh, r, h, kq, _⟩ := h
    obtain ⟨t, wb, d, q⟩ := hbody cdv A outer s H E hr
    refine ⟨t, d.pe, d.run (DD := ⟨fun _ => P' (.d .non), P', fun _ => False, fun _ => False⟩) Z0.ok (rel_start fh r) ⟨fun ρ' F' H' σ' h f r => ?_, fun s v F' H' h f hh ff fh' nw sr => ?_, fun _ _ _ _ h => h.elim, fun _ _ _ _ h => h.elim⟩ (q ds P' px h)⟩
    · exact kq (.d .non) .non F' H' h r.h r.f r.fh r.nw rfl
    · exact kq s v F' H' h hh ff fh' nw sr
end
def spLaw : DSp := fun ds Q _ => ∃ ns : List Int, ds = [.cel ns] ∧ ns.length ≤ 63 ∧ (∀ z ∈ ns, Builtin.Int.intBits z ≤ 1048576) ∧ Q (.d (.bl true))
theorem spLaw_at {K : PySem.W.Frag} {H : Hp} {a : Addr} {ns : List Int} (hl : ns.length ≤ 63) (hb : ∀ z ∈ ns, Builtin.Int.intBits z ≤ 1048576) (h : SqL K H a (ns.map V.int)) :
    spD K spLaw [.ref a] H (fun v _ => v = .bl true) fun _ _ _ => False :=
  ⟨H, [.cel ns], fun s => s = .d (.bl true), fun _ _ => False, Same.refl _, ⟨_, _, rfl, ⟨a, rfl, h⟩, rfl⟩, ⟨ns, rfl, hl, hb, rfl⟩,
    fun s v F' H' e _ _ _ _ sr => by subst e; exact sr, fun _ _ _ _ _ _ h => h.elim⟩
end DL
namespace DL
open PySem L2
section views
variable {K : PySem.W.Frag} {F : Hp} {d : D} {v : V}
def asI (d : D) (P : Int → Prop) : Prop := match d with
  | .int i => P i
  | _ => False
def asS (d : D) (P : Str → Prop) : Prop := match d with
  | .str i => P i
  | _ => False
theorem asI_of {P : Int → Prop} (h : asI d P) (r : Rep K F d v) : ∃ i, v = .int i ∧ P i := by
  cases d <;> first | exact h.elim | exact ⟨_, r, h⟩
theorem asS_of {P : Str → Prop} (h : asS d P) (r : Rep K F d v) : ∃ i, v = .str i ∧ P i := by
  cases d <;> first | exact h.elim | exact ⟨_, r, h⟩
theorem asT_of {P : List D → Prop} (h : asT d P) (r : Rep K F d v) : ∃ a vs xs, v = .ref a ∧ SqT K F a vs ∧ Reps K F xs vs ∧ P xs := by
  cases d <;> first | exact h.elim | (obtain ⟨a, vs, e, h1, h2⟩ := r; exact ⟨a, vs, _, e, h1, h2, h⟩)
def asSq (d : D) (P : List D → Prop) : Prop := match d with
  | .cel ns => P (ns.map .int)
  | .lst xs => P xs
  | .tup xs => P xs
  | _ => False
theorem asSq_of {P : List D → Prop} (h : asSq d P) (r : Rep K F d v) : ∃ a vs xs, v = .ref a ∧ (SqL K F a vs ∨ SqT K F a vs) ∧ Reps K F xs vs ∧ P xs := by
  cases d <;> first
    | exact h.elim
    | (obtain ⟨a, vs, e, h1, h2⟩ := r; exact ⟨a, vs, _, e, .inl (SqL.of h1), h2, h⟩)
    | (obtain ⟨a, vs, e, h1, h2⟩ := r; exact ⟨a, vs, _, e, .inr h1, h2, h⟩)
    | (obtain ⟨a, e, h1⟩ := r; exact ⟨a, _, _, e, .inl h1, Reps.ints.mpr rfl, h⟩)
theorem sq_same {H : Hp} {a : Addr} {vs : List V} (fh : Same F H) (h : SqL K F a vs ∨ SqT K F a vs) : SqL K H a vs ∨ SqT K H a vs :=
  h.elim (fun z => .inl (fh.seq z)) fun z => .inr (Same.sqT fh z)
end views
section ops
variable {K : PySem.W.Frag}
def oI (g : Int → Int → D) (C : Int → Int → Prop) : O2 := fun x y P => asI x fun i => asI y fun j => C i j ∧ P (.d (g i j))
def oI0 (g : Int → Int → D) : O2 := fun x y P => asI x fun i => asI y fun j => P (.d (g i j))
theorem snd_I {g : Int → Int → V} {g' : Int → Int → D} {C : Int → Int → Prop} (hg : ∀ i j F, Rep K F (g' i j) (g i j)) : Snd2 K (rI C g) (oI g' C) := ⟨fun {F H x y vx vy P Q} fh rx ry h k => by
  obtain ⟨i, rfl, h⟩ := asI_of h rx
  obtain ⟨j, rfl, h⟩ := asI_of h ry
  exact ⟨i, j, rfl, rfl, h.1, k.flat fh h.2 (hg i j F)⟩⟩
theorem snd_I0 {g : Int → Int → V} {g' : Int → Int → D} (hg : ∀ i j F, Rep K F (g' i j) (g i j)) : Snd2 K (rI0 g) (oI0 g') := ⟨fun {F H x y vx vy P Q} fh rx ry h k => by
  obtain ⟨i, rfl, h⟩ := asI_of h rx
  obtain ⟨j, rfl, h⟩ := asI_of h ry
  exact ⟨i, j, rfl, rfl, k.flat fh h (hg i j F)⟩⟩
abbrev oAdd : O2 := oI0 fun i j => .int (i + j)
abbrev oSub : O2 := oI0 fun i j => .int (i - j)
abbrev oMul : O2 := oI (fun i j => .int (i * j)) CMul
abbrev oDiv : O2 := oI (fun i j => .int (i / j)) CDiv
abbrev oMod : O2 := oI (fun i j => .int (i % j)) fun _ j => 0 < j
theorem snd_add : Snd2 K (rI0 fun i j => .int (i + j)) oAdd := snd_I0 fun _ _ _ => rfl
theorem snd_sub : Snd2 K (rI0 fun i j => .int (i - j)) oSub := snd_I0 fun _ _ _ => rfl
theorem snd_mul : Snd2 K (rI CMul fun i j => .int (i * j)) oMul := snd_I fun _ _ _ => rfl
theorem snd_div : Snd2 K (rI CDiv fun i j => .int (i / j)) oDiv := snd_I fun _ _ _ => rfl
theorem snd_mod : Snd2 K (rI (fun _ j => 0 < j) fun i j => .int (i % j)) oMod := snd_I fun _ _ _ => rfl
def eqS : D → D → Option Bool
  | .int i, .int j => some (decide (i = j))
  | .str i, .str j => some (decide (i = j))
  | .bl i, .bl j => some (decide (i = j))
  | .non, .non => some true
  | .non, .int _ => some false | .int _, .non => some false | .non, .bl _ => some false | .bl _, .non => some false | .non, .str _ => some false | .str _, .non => some false
  | .int _, .str _ => some false | .str _, .int _ => some false | .bl _, .str _ => some false | .str _, .bl _ => some false
  | _, _ => none
def asO (o : Option Bool) (P : Bool → Prop) : Prop := match o with
  | some b => P b
  | none => False
theorem eqS_ok {F : Hp} {x y : D} {vx vy : V} {b : Bool} (rx : Rep K F x vx) (ry : Rep K F y vy) (e : eqS x y = some b) : scal vx vy = true ∧ decide (vx = vy) = b := by
  cases x <;> cases y <;> first
    | (cases (show (none : Option Bool) = some b from e))
    | (have h1 : vx = _ := rx; have h2 : vy = _ := ry; subst h1; subst h2; cases e
       refine ⟨rfl, ?_⟩
       first
         | rfl
         | (apply decide_eq_decide.mpr; constructor <;> intro q <;> first | (injection q) | rw [q])
         | exact decide_eq_false (fun q => nomatch q))
def oCatS : O2 := fun x y P => asS x fun i => asS y fun j => i.length + j.length ≤ sizeLine ∧ P (.d (.str (i ++ j)))
theorem snd_catS : Snd2 K (fun x y H Q => ∃ i j, x = .str i ∧ y = .str j ∧ i.length + j.length ≤ sizeLine ∧ Q (.str (i ++ j)) H) oCatS := ⟨fun {F H x y vx vy P Q} fh rx ry h k => by
  obtain ⟨i, rfl, h⟩ := asS_of h rx
  obtain ⟨j, rfl, h⟩ := asS_of h ry
  exact ⟨i, j, rfl, rfl, h.1, k.flat (d := .str (i ++ j)) fh h.2 rfl⟩⟩
theorem one_sign {i : Str} {c : Nat} (h : i.cps.toList = [c]) : i = ⟨#[c]⟩ := by
  cases i with
  | mk a => exact congrArg Str.mk (by cases a; simpa using h)
def asA {α : Type} (o : Option α) (P : α → Prop) : Prop := match o with
  | some b => P b
  | none => False
theorem asA_of {α : Type} {o : Option α} {P : α → Prop} (h : asA o P) : ∃ b, o = some b ∧ P b := by
  cases o with
  | none => exact h.elim
  | some b => exact ⟨b, rfl, h⟩
theorem at_reps {F : Hp} {xs : List D} {vs : List V} {i : Int} {d : D} (r : Reps K F xs vs) (h : atI xs i = some d) : ∃ v, atI vs i = some v ∧ Rep K F d v := by
  unfold atI at h ⊢
  rw [r.len]
  cases e : ixN xs.length i with
  | none => rw [e] at h; cases h
  | some j => rw [e] at h; exact r.get h
def oIxL : O2 := fun x y P => asL x fun xs => asI y fun i => asA (atI xs i) fun d => P (.d d)
def oIxT : O2 := fun x y P => asT x fun xs => asI y fun i => asA (atI xs i) fun d => P (.d d)
def oIxS : O2 := fun x y P => asS x fun z => asI y fun i => z.length ≤ sizeLine ∧ asA (atI z.cps.toList i) fun c => P (.d (.str ⟨#[c]⟩))
theorem snd_ixL : Snd2 K (rIxL K) oIxL := ⟨fun {F H x y vx vy P Q} fh rx ry h k => by
  obtain ⟨a, vs, xs, rfl, h1, h2, h⟩ := asL_of h rx
  obtain ⟨i, rfl, h⟩ := asI_of h ry
  obtain ⟨d, e, h⟩ := asA_of h
  obtain ⟨v, e', r⟩ := at_reps h2 e
  exact ⟨a, vs, i, v, rfl, rfl, fh.seq h1, e', k.flat fh h r⟩⟩
theorem snd_ixT : Snd2 K (rIxT K) oIxT := ⟨fun {F H x y vx vy P Q} fh rx ry h k => by
  obtain ⟨a, vs, xs, rfl, h1, h2, h⟩ := asT_of h rx
  obtain ⟨i, rfl, h⟩ := asI_of h ry
  obtain ⟨d, e, h⟩ := asA_of h
  obtain ⟨v, e', r⟩ := at_reps h2 e
  exact ⟨a, vs, i, v, rfl, rfl, Same.sqT fh h1, e', k.flat fh h r⟩⟩
theorem snd_ixS : Snd2 K rIxS oIxS := ⟨fun {F H x y vx vy P Q} fh rx ry h k => by
  obtain ⟨z, rfl, h⟩ := asS_of h rx
  obtain ⟨i, rfl, h⟩ := asI_of h ry
  obtain ⟨c, e, h'⟩ := asA_of h.2
  exact ⟨z, i, c, rfl, rfl, h.1, e, k.flat (d := .str ⟨#[c]⟩) fh h' rfl⟩⟩
def oLen : OL := fun ds P => match ds with
  | [.cel ns] => P (.d (.int ns.length))
  | [.lst xs] => P (.d (.int xs.length))
  | [.tup xs] => P (.d (.int xs.length))
  | [.str z] => z.length ≤ sizeLine ∧ P (.d (.int z.length))
  | [.dic ks xs] => P (.d (.int ks.length))
  | _ => False
abbrev qLen (K : PySem.W.Frag) : List V → Hp → VK → Prop := fun xs H Q => (∃ x n, xs = [x] ∧ LenV K x H n ∧ Q (.int n) H) ∨ ∃ d kvs, xs = [.ref d] ∧ Rd H d (.dK kvs) ∧ Q (.int kvs.length) H
theorem snd_len : SndL K (qLen K) oLen := ⟨fun {F H ds vs P Q} fh r h k => by
  unfold oLen at h
  split at h
  · obtain ⟨v, _, rfl, ⟨a, rfl, h1⟩, rfl⟩ := r
    exact .inl ⟨_, _, rfl, .inl ⟨_, fh.seq h1, rfl⟩, k.flat (d := .int _) fh h (by rw [List.length_map]; rfl)⟩
  · obtain ⟨v, _, rfl, ⟨a, us, rfl, h1, h2⟩, rfl⟩ := r
    exact .inl ⟨_, _, rfl, .inl ⟨us, fh.seq (SqL.of h1), rfl⟩, k.flat (d := .int _) fh h (by rw [h2.len]; rfl)⟩
  · obtain ⟨v, _, rfl, ⟨a, us, rfl, h1, h2⟩, rfl⟩ := r
    exact .inl ⟨_, _, rfl, .inr ⟨us, Same.sqT fh h1, rfl⟩, k.flat (d := .int _) fh h (by rw [h2.len]; rfl)⟩
  · obtain ⟨v, _, rfl, rfl, rfl⟩ := r
    exact .inl ⟨_, _, rfl, ⟨h.1, rfl⟩, k.flat (d := .int _) fh h.2 rfl⟩
  · obtain ⟨v, _, rfl, ⟨a, us, rfl, h1, h2, h3⟩, rfl⟩ := r
    exact .inr ⟨a, _, rfl, Same.rd fh h1, by rw [List.length_zip, ← h2, Nat.min_self]; exact k.flat (d := .int _) fh h rfl⟩
  · exact h.elim⟩
def oMax : OL := fun ds P => match ds with
  | [.int i, .int j] => P (.d (.int (if j > i then j else i)))
  | _ => False
def oMin : OL := fun ds P => match ds with
  | [.int i, .int j] => P (.d (.int (if j < i then j else i)))
  | _ => False
theorem snd_min : SndL K (fun xs H Q => ∃ i j, xs = [.int i, .int j] ∧ Q (.int (if j < i then j else i)) H) oMin := ⟨fun {F H ds vs P Q} fh r h k => by
  unfold oMin at h
  split at h
  · obtain ⟨v, _, rfl, rfl, v2, _, rfl, rfl, rfl⟩ := r
    exact ⟨_, _, rfl, k.flat (d := .int _) fh h rfl⟩
  · exact h.elim⟩
def bools : List D → Option (List Bool)
  | [] => some []
  | .bl b :: r => (bools r).map (b :: ·)
  | _ => none
theorem bools_map : ∀ bs : List Bool, bools (bs.map D.bl) = some bs
  | [] => rfl
  | b :: bs => by rw [List.map_cons, bools, bools_map bs]; rfl
theorem bools_of {F : Hp} : ∀ {ds : List D} {bs : List Bool} {vs : List V}, bools ds = some bs → Reps K F ds vs → vs = bs.map V.bl
  | [], _, _, e, r => by cases e; exact r
  | d :: ds, bs, vs, e, r => by
    cases d <;> first | (cases (show (none : Option (List Bool)) = some bs from e)) | skip
    rename_i b
    rw [bools] at e
    cases q : bools ds with
    | none => rw [q] at e; cases e
    | some cs =>
      rw [q] at e; cases e
      obtain ⟨v, r', rfl, rfl, h⟩ := r
      rw [bools_of q h]; rfl
def oAll : OL := fun ds P => match ds with
  | [.lst xs] => asA (bools xs) fun bs => P (.d (.bl (bs.all id)))
  | _ => False
def oAny : OL := fun ds P => match ds with
  | [.lst xs] => asA (bools xs) fun bs => P (.d (.bl (bs.any id)))
  | _ => False
theorem snd_all : SndL K (rAll K) oAll := ⟨fun {F H ds vs P Q} fh r h k => by
  unfold oAll at h
  split at h
  · obtain ⟨v, _, rfl, ⟨a, us, rfl, h1, h2⟩, rfl⟩ := r
    obtain ⟨bs, e, h⟩ := asA_of h
    have q := bools_of e h2
    subst q
    exact ⟨a, bs, rfl, fh.seq (SqL.of h1), k.flat (d := .bl _) fh h rfl⟩
  · exact h.elim⟩
end ops
abbrev qAdd : R2 := rI0 fun i j => .int (i + j)
abbrev qAddS : R2 := fun x y H Q => ∃ i j, x = .str i ∧ y = .str j ∧ i.length + j.length ≤ sizeLine ∧ Q (.str (i ++ j)) H
abbrev qSub : R2 := rI0 fun i j => .int (i - j)
abbrev qMul : R2 := rI CMul fun i j => .int (i * j)
abbrev qDiv : R2 := rI CDiv fun i j => .int (i / j)
abbrev qMod : R2 := rI (fun _ j => 0 < j) fun i j => .int (i % j)
theorem call_lenR {X : Cx} : CallR X (.builtin "len") fun xs H Q => ∃ d kvs, xs = [.ref d] ∧ Rd H d (.dK kvs) ∧ Q (.int kvs.length) H := fun pins s σ H xs us Q I r h => by
  obtain ⟨d, kvs, rfl, hd, q⟩ := h
  obtain ⟨u, rfl, ru⟩ := vals1 r
  obtain rfl : u = Value.ref d := ru
  exact d_len I hd fun t s' J => ⟨.int kvs.length, H, J, ⟨t, rfl⟩, q⟩
theorem call_len_or {X : Cx} {r : List V → Hp → VK → Prop} (h : CallR X (.builtin "len") r) : CallR X (.builtin "len") fun xs H Q => (∃ x n, xs = [x] ∧ LenV X.K x H n ∧ Q (.int n) H) ∨ r xs H Q := fun pins s σ H vs us Q I rr q => q.elim (fun z => call_len pins s σ H vs us Q I rr z) fun z => h pins s σ H vs us Q I rr z
section sugar
variable {K : PySem.W.Frag} {X : Cx} {Z : Zx} {pos p : Pos} {a b c e : Expr} {ta tb te : TE} {wa wb we : W} {tx : TA} {wx : WA}
theorem de_sub (ha : DE K X Z a ta wa) (hb : DE K X Z b tb wb) : DE K X Z (.BinOp a .Sub b pos) (tOp qSub ta tb) (wOp oSub wa wb) := de_op op_sub snd_sub ha hb
theorem de_mul (ha : DE K X Z a ta wa) (hb : DE K X Z b tb wb) : DE K X Z (.BinOp a .Mult b pos) (tOp qMul ta tb) (wOp oMul wa wb) := de_op op_mul snd_mul ha hb
theorem de_div (ha : DE K X Z a ta wa) (hb : DE K X Z b tb wb) : DE K X Z (.BinOp a .FloorDiv b pos) (tOp qDiv ta tb) (wOp oDiv wa wb) := de_op op_fdiv snd_div ha hb
theorem de_mod (ha : DE K X Z a ta wa) (hb : DE K X Z b tb wb) : DE K X Z (.BinOp a .Mod b pos) (tOp qMod ta tb) (wOp oMod wa wb) := de_op op_mod snd_mod ha hb
theorem de_len (m : X.mg "len" = none) (ha : DE K X Z a ta wa) (hg : Gl X "len" := by rfl) (hs : starEach [a] X.env = [(false, eval a X.env)] := by rfl) (hK : X.K = K := by rfl) : DE K X Z (.Call (.Name "len" p) [a] [] pos) (tCB (qLen K) (tCons ta tNil)) (wCB oLen (wCons wa wNil)) := by
  subst hK
  exact de_callB (call_len_or call_lenR) snd_len hg m PySem.boot_len (da_cons ha da_nil hs) (hn := by decide) (hdb := by decide) (he := hs) (hpl := rfl)
end sugar
end DL
set_option maxHeartbeats 4000000
namespace DL
open PySem PySem.Spec PyProof.Rows L2
def keyS (e : Int × Value) : Str := match e.2 with | .str x _ => x | _ => Str.empty
def GoodS (w : World) (e : Int × Value) : Prop := ∃ x tk, e.2 = Value.str x tk ∧ e.1 = hashStr w x
def SetZ (w : World) (h : Heap) (a : Addr) (xs : List Str) : Prop :=
  ∃ o es ep t, h.get? a = some o ∧ o.ExactSet ∧ o.data = .set es ep t ∧ (∀ e ∈ es.toList, GoodS w e) ∧ xs.Nodup ∧ xs.Perm (es.toList.map keyS) ∧
    es.size < scanBound ∧ t.fits es.size = true ∧ Ris t.place.toList ∧ (w.params.followText "set-order" = true ∨ t.led = true)
section
variable {P : Program} {w : World} {A : Around} {E : Value → Shared → Prop} {s : Shared} {h h' : Heap} {a : Addr} {xs ys : List Str}
theorem SetZ.at (z : SetZ w h a xs) (k : ∀ o, h.get? a = some o → h'.get? a = some o) : SetZ w h' a xs := by
  obtain ⟨o, es, ep, t, ho, r⟩ := z
  exact ⟨o, es, ep, t, k o ho, r⟩
theorem goodS_elems {l : List (Int × Value)} (g : ∀ e ∈ l, GoodS w e) : ElemsOf (strKind P w) l := fun e he => by
  obtain ⟨k, tk, h1, h2⟩ := g e he
  exact ⟨⟨k, by rw [h1]; exact strKind_is P w k tk, h2⟩, by rw [h1] <;> rfl⟩
theorem goodS_is {e : Int × Value} (g : GoodS w e) (k : Str) : (strKind P w).is k e.2 = true ↔ keyS e = k := by
  obtain ⟨x, tk, h1, _⟩ := g
  unfold keyS
  rw [h1]
  constructor
  · intro q
    obtain ⟨t, e⟩ := Value.isStrOf_shape (show Value.isStrOf k (.str x tk) = true from q)
    injection e with e1
  · intro q
    have q' : x = k := q
    rw [q']
    exact strKind_is P w k tk
theorem addZ_tail {g : Bool → Sem Unit} (hg : ∀ (b : Bool) (s₁ : Shared) (Q' : Unit → Shared → Prop), Q' () s₁ → wpAny (model P w) A (g b) Q' E s₁)
    {o : Obj} {es es1 : Array (Int × Value)} {ep : Nat} {t t2 : SetTable} (ho : s.heap.get? a = some o) (hex : o.ExactSet) (hd : o.data = .set es ep t)
    (g1 : ∀ e ∈ es1.toList, GoodS w e) (nd : ys.Nodup) (pm : ys.Perm (es1.toList.map keyS)) (hb1 : es1.size < scanBound) (hf2 : t2.fits es1.size = true) (hr : Ris t2.place.toList) (hl : w.params.followText "set-order" = true ∨ t2.led = true)
    {wasDummy : Bool} {R : Option Bool → Shared → Prop} (hR : ∀ h', Heap.SameBut a s.heap h' → SetZ w h' a ys → R (some true) { s with heap := h' }) :
    wpAny (model P w) A (do
        storeSet a es1 t2
        if (!wasDummy && t2.tooFull) = true then do
            g (relayAll t2 es1 (SetTable.grown es1.size)).2.2
            storeSet a (relayAll t2 es1 (SetTable.grown es1.size)).1 (relayAll t2 es1 (SetTable.grown es1.size)).2.1
            pure (some true)
          else pure (some true)) R E s := by
  refine wpAny_bind (wpAny_storeSet_of ho hd ?_ (fits_of_scanBound hb1))
  have o1 := store_at (es' := es1) (t' := t2) ho hd
  have sb := Heap.SameBut.update s.heap a (Obj.putSet es1 t2)
  split
  · have p2 := relayAll_perm t2 es1 (SetTable.grown es1.size)
    have f3 := relayAll_fits t2 es1 (SetTable.grown es1.size)
    have r3 := relayAll_ris t2 es1 (SetTable.grown es1.size)
    have l3 := relayAll_led t2 es1 (SetTable.grown es1.size)
    generalize relayAll t2 es1 (SetTable.grown es1.size) = Zz at p2 f3 r3 l3 ⊢
    obtain ⟨es2, t3, gave⟩ := Zz
    dsimp only at p2 f3 r3 l3 ⊢
    have b2 : es2.size < scanBound := by rw [← Array.length_toList, p2.length_eq, Array.length_toList]; exact hb1
    refine wpAny_bind (hg _ _ _ (wpAny_bind (wpAny_storeSet_of o1 rfl ?_ (fits_of_scanBound b2))))
    refine wpAny_pure (hR _ (sb.trans (Heap.SameBut.update _ a _)) ?_)
    exact ⟨_, es2, _, t3, store_at (es' := es2) (t' := t3) o1 rfl, hex, rfl, fun e he => g1 e (p2.mem_iff.mp he), nd, pm.trans (p2.map keyS).symm, b2, f3, r3, hl.imp id fun z => by rw [l3]; exact z⟩
  · exact wpAny_pure (hR _ sb ⟨_, es1, _, t2, o1, hex, rfl, g1, nd, pm, hb1, hf2, hr, hl⟩)
def addS (xs : List Str) (k : Str) : List Str := if k ∈ xs then xs else xs ++ [k]
theorem addS_nodup {k : Str} (nd : xs.Nodup) : (addS xs k).Nodup := by
  unfold addS
  split
  · exact nd
  · rename_i hk
    exact List.nodup_append.mpr ⟨nd, by simp, fun a ha b hb e => hk (by rw [List.mem_singleton.mp hb] at e; rw [← e]; exact ha)⟩
theorem addZ_hashed {k : Str} {tk : Tok} {Q : Bool → Shared → Prop} (R : SetZ w s.heap a xs) (room : xs.length + 1 < scanBound)
    (hQ : ∀ b h', Heap.SameBut a s.heap h' → SetZ w h' a (addS xs k) → Q b { s with heap := h' }) :
    wpAny (model P w) A (setAddHashed a (.str k tk) ((strKind P w).hash k)) Q E s := by
  obtain ⟨o, es, ep, t, ho, hex, hd, g, nd, pm, hb, hf, hr, hl⟩ := R
  have hkey : (strKind P w).is k (.str k tk) = true := strKind_is P w k tk
  have hsc : (Value.str k tk).scannable = true := rfl
  have hel : ElemsOf (strKind P w) es.toList := goodS_elems g
  unfold setAddHashed setAddHashedIn
  refine wpAny_holding (wpAny_bind (wpAny_setState_of ho hd hf ?_))
  dsimp only
  rw [byScan_of hsc hb hel]
  simp only [↓reduceIte]
  unfold setAddByScan
  refine wpAny_bind (wpAny_bind (wpAny_rule (wpAny_bind (wpAny_setScan_of hkey ho hd hf hel ?_))))
  cases hfi : List.findIdx? (fun e => (strKind P w).is k e.2) es.toList with
  | some j =>
    dsimp only
    obtain ⟨hj, pj, _⟩ := List.findIdx?_eq_some_iff_getElem.mp hfi
    have hk : k ∈ xs := pm.mem_iff.mpr (List.mem_map.mpr ⟨es.toList[j], List.getElem_mem hj, (goodS_is (g _ (List.getElem_mem hj)) k).1 pj⟩)
    refine wpAny_pure (wpAny_pure (hQ _ s.heap (Heap.SameBut.refl a s.heap) ?_))
    rw [addS, if_pos hk]
    exact ⟨o, es, ep, t, ho, hex, hd, g, nd, pm, hb, hf, hr, hl⟩
  | none =>
    dsimp only
    have hk : k ∉ xs := fun z => by
      obtain ⟨e, he, q⟩ := List.mem_map.mp (pm.mem_iff.mp z)
      have c := List.findIdx?_eq_none_iff.mp hfi e he
      rw [(goodS_is (g e he) k).2 q] at c
      cases c
    have hgw : ∀ (b : Bool) {s₁ : Shared} {Q' : Unit → Shared → Prop}, Q' () s₁ → wpAny (model P w) A (match b with | true => rule "set.scan.the-table-gave-way" | false => pure ()) Q' E s₁ :=
      fun b s₁ Q' q => by cases b <;> first | exact wpAny_pure q | exact wpAny_rule q
    have p1 := layNew_perm t es ((strKind P w).hash k) (.str k tk)
    have f1 := layNew_fits t es ((strKind P w).hash k) (.str k tk)
    have r1 := layNew_ris t es ((strKind P w).hash k) (.str k tk) hr
    have l1 := layNew_led t es ((strKind P w).hash k) (.str k tk)
    generalize layNew t es ((strKind P w).hash k) (.str k tk) = Zz at p1 f1 r1 l1 ⊢
    obtain ⟨es1, t1, wasDummy, gave⟩ := Zz
    dsimp only at p1 f1 r1 l1 ⊢
    rw [Array.toList_push] at p1
    have g1 : ∀ e ∈ es1.toList, GoodS w e := fun e he => by
      rcases List.mem_append.mp (p1.mem_iff.mp he) with z | z
      · exact g e z
      · rw [List.mem_singleton.mp z]; exact ⟨k, tk, rfl, rfl⟩
    have pk : (addS xs k).Perm (es1.toList.map keyS) := by
      rw [addS, if_neg hk]
      refine List.Perm.trans ?_ (p1.map keyS).symm
      rw [List.map_append]
      exact pm.append_right _
    have nd1 : (addS xs k).Nodup := addS_nodup nd
    have hsz : es1.size = xs.length + 1 := by
      rw [← Array.length_toList, p1.length_eq, List.length_append, List.length_singleton]
      have := pm.length_eq
      rw [List.length_map] at this
      omega
    have hb1 : es1.size < scanBound := by rw [hsz]; exact room
    have hled : w.params.followText "set-order" = true ∨ t1.led = true := hl.imp id fun z => by rw [l1]; exact z
    refine wpAny_bind (hgw _ ?_)
    split
    · refine wpAny_bind ?_
      rw [hashByValue_scannable 8 hsc]
      refine wpAny_pure ?_
      refine addZ_tail ?_ ho hex hd g1 nd1 pk hb1 ?_ ?_ ?_ ?_
      · intro b s₁ Q' q; cases b <;> first | exact wpAny_pure q | exact wpAny_rule q
      · first | (split <;> first | exact f1 | exact SetTable.fits_plain_off f1) | exact f1
      · first | (split <;> exact r1) | exact r1
      · first | (split <;> exact hled) | exact hled
      · intro h' sb r; dsimp only; exact wpAny_pure (hQ _ h' sb r)
    · refine wpAny_bind (wpAny_pure ?_)
      simp only [↓reduceIte]
      refine addZ_tail ?_ ho hex hd g1 nd1 pk hb1 f1 r1 hled ?_
      · intro b s₁ Q' q; cases b <;> first | exact wpAny_pure q | exact wpAny_rule q
      · intro h' sb r; dsimp only; exact wpAny_pure (hQ _ h' sb r)
theorem addS_len (k : Str) : (addS xs k).length ≤ xs.length + 1 := by
  unfold addS; split
  · exact Nat.le_succ _
  · rw [List.length_append]; exact Nat.le_refl _
def met (xs : List Str) : List Str := xs.foldl addS []
theorem met_snoc (xs : List Str) (k : Str) : met (xs ++ [k]) = addS (met xs) k := by unfold met; rw [List.foldl_append]; rfl
theorem met_aux : ∀ (l acc : List Str), (l.foldl addS acc).length ≤ acc.length + l.length
  | [], acc => Nat.le_refl _
  | k :: l, acc => by
    have h1 := met_aux l (addS acc k)
    have h2 := addS_len (xs := acc) k
    rw [List.foldl_cons, List.length_cons]; omega
theorem met_len (xs : List Str) : (met xs).length ≤ xs.length := by have := met_aux xs []; simpa [met] using this
theorem loopZ {I : Addr} {fp wr : List Addr} {G : Array GenState → Array GenState → Prop} {n : Nat} {Pv : Nat → Value → Prop} {St : Nat → Shared → Prop} {R : Result → Shared → Prop}
    (W : WalksS P w A.in1 I fp wr G n Pv St) (S : Addr) (hSf : S ∉ fp) (ns : List Str) (hn : n = ns.length) (hb : ns.length + 1 < scanBound) (hval : ∀ i v, Pv i v → ∃ k t, ns[i]? = some k ∧ v = .str k t) :
    ∀ (k i : Nat) (s : Shared), n - i = k → i ≤ n → St i s → SetZ w s.heap S (met (ns.take i)) →
      (∀ s', Moved (S :: wr) G s s' → SetZ w s'.heap S (met ns) → R (.ok (.ret .none)) s') →
      codeAny (model P w) A (.builtin "set.update.loop" ⟨[.ref S, .ref I], []⟩) R s := by
  have hSw : S ∉ wr := fun h => hSf (W.sub _ h)
  have hsub : ∀ b ∈ wr, b ∈ S :: wr := fun b hb => List.mem_cons_of_mem _ hb
  intro k
  induction k with
  | zero =>
    intro i s hk' hi hst hS hR
    obtain rfl : i = n := by omega
    refine codeAny_builtin PyProof.Rows.F.entry_set_update_loop ?_
    rw [Around.under_plainId PyProof.Rows.F.plain_set_update_loop _]
    show wpAny _ A.in1 (pyNext (.ref I) >>= _) _ _ s
    refine wpAny_bind (W.done s _ _ hst fun s' hm => ?_)
    rw [List.take_of_length_le (by omega)] at hS
    show wpAny _ A.in1 (ret Value.none) _ _ s'
    exact wpAny_pure (hR s' (hm.mono hsub) (hS.at fun o e => hm.heap S o hSw e))
  | succ k ih =>
    intro i s hk' hi hst hS hR
    have hlt : i < n := by omega
    refine codeAny_builtin PyProof.Rows.F.entry_set_update_loop ?_
    rw [Around.under_plainId PyProof.Rows.F.plain_set_update_loop _]
    show wpAny _ A.in1 (pyNext (.ref I) >>= _) _ _ s
    refine wpAny_bind (W.item i s _ _ hlt hst fun v s' hP hst' hm => ?_)
    obtain ⟨z, t, hz, rfl⟩ := hval i v hP
    have hS' : SetZ w s'.heap S (met (ns.take i)) := hS.at fun o e => hm.heap S o hSw e
    show wpAny _ A.in1 (holding [Value.str z t] (setAdd S (.str z t)) >>= _) _ _ s'
    refine wpAny_bind (wpAny_holding ?_)
    unfold setAdd
    refine wpAny_holding (wpAny_bind ((strKind P w).pyHash (k := z) (strKind_is _ _ _ _) ?_))
    have hroom : (met (ns.take i)).length + 1 < scanBound := by
      have := met_len (ns.take i)
      have : (ns.take i).length ≤ ns.length := by rw [List.length_take]; omega
      omega
    refine addZ_hashed (s := { s' with toks := s'.toks + 1 }) hS' hroom fun b h' hsb hS2 => ?_
    have hS3 : SetZ w h' S (met (ns.take (i + 1))) := by
      rw [List.take_add_one, hz]
      show SetZ w h' S (met (ns.take i ++ [z]))
      rw [met_snoc]; exact hS2
    refine wpAny_pure ⟨plainId_quiet PyProof.Rows.F.plain_set_update_loop _, ih (i + 1) _ (by omega) hlt (W.frame _ s' _ _ hst' (Nat.le_succ _) fun b hb o e => ?_) hS3 fun s'' hm'' hS'' => ?_⟩
    · rw [hsb.2 b (fun h : b = S => hSf (by rw [← h]; exact hb))]; exact e
    · refine hR s'' (Moved.trans W.gtrans ((hm.mono hsub).then_heap (Nat.le_succ _) fun b o hb e => ?_) hm'') hS''
      rw [hsb.2 b (fun h : b = S => hb (by rw [h]; exact List.mem_cons_self))]; exact e
theorem setZ_new {o : Obj} (ho : h.get? a = some o) (e : o = { cls := .type "set", dict := none, data := .set #[] 0 (.fresh 0 0 (!w.params.followText "set-order")) }) : SetZ w h a [] := by
  subst e
  exact ⟨_, #[], 0, _, ho, ⟨rfl, rfl, rfl⟩, rfl, (fun e he => by simp at he), by simp, by simp, (by decide), (by rfl), List.Pairwise.nil, by
    show _ ∨ (!w.params.followText "set-order") = true
    cases w.params.followText "set-order"
    · exact .inr rfl
    · exact .inl rfl⟩
end
end DL
set_option maxHeartbeats 8000000
namespace DL
open PySem PySem.Spec PyProof.Rows L2
section
variable {P : Program} {w : World} {A : Around} {E : Value → Shared → Prop} {s : Shared}
abbrev freshSet (w : World) : Obj := { cls := .type "set", dict := none, data := .set #[] 0 (.fresh 0 0 (!w.params.followText "set-order")) }
theorem call_set_outer {v : Value} {Q : Value → Shared → Prop} (Pp : Heap → Prop)
    (hinit : ∀ R : Result → Shared → Prop, (∀ h' tk, Pp h' → R (.ok (.ret .none)) { s with heap := h', toks := tk }) →
      wpAny (model P w) A.in1.in1 (Builtin.«set.__init__» ⟨[.ref s.heap.objs.size, v], []⟩)
        (fun fin s' => match fin with | .done f => R (.ok f) s' | .again c' => c'.quiet = true ∧ codeAny (model P w) A.in1 c' R s') (fun e s' => R (.error e) s') { s with heap := s.heap.push (freshSet w) })
    (h : ∀ (h' : Heap) (tk : Nat), Pp h' → Q (.ref s.heap.objs.size) { s with heap := h', toks := tk }) :
    wpAny (model P w) A (call (.type "set") [v]) Q E s := by
  obtain ⟨c, tl, hmro⟩ := PySem.F.called_set.mro
  have hmade := PySem.F.called_set.made
  have hsub := PySem.F.called_set.sub
  refine wpAny_call (codeAny_of_tree ?_)
  show wpAny _ _ (callAny (.type "set") _) _ _ _
  refine wpAny_pure ⟨Code.quiet_builtin _ (by decide +kernel), codeAny_builtin PySem.F.entry_type_call ?_⟩
  rw [Around.under_plain (weight_type_call_type "set" [v] []) rfl]
  have h1 := PySem.F.called_set.notType
  have h2 := PySem.F.called_set.canCreate
  have hct := PySem.F.typeCall_set_1 v
  repeat (any_goals (first | assumption | wp_step))
  refine codeAny_mono (code_set_led1 v (E := E) (Q₁ := fun obj s₁ => obj = .ref s.heap.objs.size ∧ s₁ = { s with heap := s.heap.push (freshSet w) }) ⟨rfl, rfl⟩) fun r s₁ hr => ?_
  cases r with
  | error e => exact hr
  | ok fl =>
    cases fl with
    | ret obj =>
      obtain ⟨rfl, rfl⟩ := hr
      have hS : (s.heap.push (freshSet w)).get? s.heap.objs.size = some (freshSet w) := Heap.get?_push_size _ rfl
      have hT : Shared.TypeIs { s with heap := s.heap.push (freshSet w) } (.ref s.heap.objs.size) "set" := ⟨_, hS, rfl⟩
      have hli := PySem.F.called_set.init.lookup
      have hbi := PySem.F.called_set.init.bind (.ref s.heap.objs.size)
      repeat (any_goals (first | assumption | wp_step))
      refine codeAny_mono (codeAny_call_builtin (R := wants (fun r s₂ => r = .none ∧ ∃ h' tk, s₂ = { s with heap := h', toks := tk } ∧ Pp h') E) PySem.F.called_set.init.plain PySem.F.entry_set_init (check_set_init_1 hT ?_)) fun r₂ s₂ hr₂ => ?_
      · exact hinit _ fun h' tk hp => ⟨rfl, h', tk, rfl, hp⟩
      · cases r₂ with
        | error e => exact hr₂
        | ok fl₂ =>
          cases fl₂ with
          | ret r =>
            obtain ⟨rfl, h', tk, rfl, hS'⟩ := hr₂
            repeat (any_goals (first | assumption | wp_step))
            exact h _ _ hS'
          | _ => exact hr₂.elim
    | _ => exact hr.elim
theorem ne_lt {a b : Nat} (h : b < a) (z : b = a) : False := Nat.lt_irrefl _ (z ▸ h)
theorem ne_lt1 {a b : Nat} (h : b < a) (z : b = a + 1) : False := Nat.lt_irrefl _ (Nat.lt_of_lt_of_le (z ▸ h) (Nat.le_succ _))
theorem ne_succ {a : Nat} (z : a = a + 1) : False := Nat.lt_irrefl _ (Nat.lt_of_lt_of_le (Nat.lt_succ_self a) (Nat.le_of_eq z.symm))
theorem call_setT {x : Str} {t : Tok} {Q : Value → Shared → Prop} (hh : A.handled = none) (hb : x.cps.size + 1 < scanBound)
    (h : ∀ (h' : Heap) (tk : Nat), SetZ w h' s.heap.objs.size (met (signs x)) → (∀ b o, s.heap.get? b = some o → h'.get? b = some o) → Q (.ref s.heap.objs.size) { s with heap := h', toks := tk }) :
    wpAny (model P w) A (call (.type "set") [(.str x t)]) Q E s := by
  refine call_set_outer (fun h' => SetZ w h' s.heap.objs.size (met (signs x)) ∧ ∀ b o, s.heap.get? b = some o → h'.get? b = some o) (fun R hR => ?_) fun h' tk p => h h' tk p.1 p.2
  have hS : (s.heap.push (freshSet w)).get? s.heap.objs.size = some (freshSet w) := Heap.get?_push_size _ rfl
  have hT : Shared.TypeIs { s with heap := s.heap.push (freshSet w) } (.ref s.heap.objs.size) "set" := ⟨_, hS, rfl⟩
  have hz1 : (s.heap.push (freshSet w)).objs.size = s.heap.objs.size + 1 := Heap.size_push ..
  have hh3 : A.in1.in1.in1.handled = none := by simp [hh]
  have hsls := PySem.F.sub_str_set
  have hslf := PySem.F.sub_str_frozenset
  have hne : (Value.type "str" == Value.type "dict") = false := by decide
  unfold Builtin.«set.__init__» noKeywords Builtin.Frozenset.updateFrom
  generalize hPI : pyIter = PI
  wp_walk
  subst hPI
  refine wpAny_pyIter_str fun o St W st0 => ?_
  refine wpAny_bind (wpAny_runValue ?_)
  have hlen : (signs x).length = x.cps.size := by simp [signs]
  refine loopZ ((W _ hh3).toS) s.heap.objs.size (fun z => by have z := List.mem_singleton.mp z; rw [hz1] at z; exact ne_succ z) (signs x) hlen.symm (by rw [hlen]; exact hb) (fun i v hv => ?_) (x.cps.size - 0) 0 _ (by omega) (Nat.zero_le _) st0 (setZ_new (Heap.get?_push_of_some _ hS) rfl) ?_
  · obtain ⟨c, u, hc, rfl⟩ := hv
    have hc' : x.cps.toList[i]? = some c := by rw [Array.getElem?_toList]; exact hc
    exact ⟨⟨#[c]⟩, u, by simp [signs, hc'], rfl⟩
  intro s' hm hS'
  obtain ⟨h', g2, d', tk', os'⟩ := s'
  have eg : g2 = s.gens := hm.gens
  have ed : d' = s.drawn := hm.drawn
  have eo : os' = s.os := hm.os
  subst eg; subst ed; subst eo
  show wpAny _ _ _ _ _ _
  refine wpAny_pure ?_
  show wpAny _ _ (ret Value.none) _ _ _
  refine wpAny_pure (hR h' tk' ⟨hS', fun b u e => ?_⟩)
  have hb0 : b < s.heap.objs.size := Heap.lt_size e
  refine hm.heap b u (fun z => ?_) (Heap.get?_push_of_some _ (Heap.get?_push_of_some _ e))
  · rcases List.mem_cons.mp z with z | z
    · exact ne_lt hb0 z
    · have z := List.mem_singleton.mp z
      rw [hz1] at z
      exact ne_lt1 hb0 z
theorem call_setL {l : Addr} {items : Array Value} {xs : List Str} {Q : Value → Shared → Prop} (hh : A.handled = none) (hl : s.heap.IsList l items) (hi : StrsAre items.toList xs) (hb : xs.length + 1 < scanBound)
    (h : ∀ (h' : Heap) (tk : Nat), SetZ w h' s.heap.objs.size (met xs) → (∀ b o, s.heap.get? b = some o → h'.get? b = some o) → Q (.ref s.heap.objs.size) { s with heap := h', toks := tk }) :
    wpAny (model P w) A (call (.type "set") [(.ref l)]) Q E s := by
  refine call_set_outer (fun h' => SetZ w h' s.heap.objs.size (met xs) ∧ ∀ b o, s.heap.get? b = some o → h'.get? b = some o) (fun R hR => ?_) fun h' tk p => h h' tk p.1 p.2
  have hS : (s.heap.push (freshSet w)).get? s.heap.objs.size = some (freshSet w) := Heap.get?_push_size _ rfl
  have hT : Shared.TypeIs { s with heap := s.heap.push (freshSet w) } (.ref s.heap.objs.size) "set" := ⟨_, hS, rfl⟩
  have hz1 : (s.heap.push (freshSet w)).objs.size = s.heap.objs.size + 1 := Heap.size_push ..
  have hh3 : A.in1.in1.in1.handled = none := by simp [hh]
  obtain ⟨ol, hol, hcl, nl, hdl⟩ := hl
  obtain ⟨ocls, odict, odata, oslots⟩ := ol
  simp only at hcl hdl
  subst hcl; subst hdl
  have hol' : (s.heap.push (freshSet w)).get? l = some { cls := .type "list", dict := odict, data := .seq items nl, slots := oslots } := Heap.get?_push_of_some _ hol
  have hsls := PySem.F.sub_list_set
  have hslf := PySem.F.sub_list_frozenset
  have hne : (Value.type "list" == Value.type "dict") = false := by decide
  have hl1 : (s.heap.push (freshSet w)).IsList l items := ⟨_, hol', rfl, nl, rfl⟩
  unfold Builtin.«set.__init__» noKeywords Builtin.Frozenset.updateFrom
  generalize hPI : pyIter = PI
  wp_walk
  subst hPI
  refine wpAny_pyIter_list hl1 ?_
  refine wpAny_bind (wpAny_runValue ?_)
  have hlS : l < s.heap.objs.size := Heap.lt_size hol
  have hneI : l ≠ (s.heap.push (freshSet w)).objs.size := by rw [hz1]; exact fun z => ne_lt1 hlS z
  have hlen : items.size = xs.length := by rw [← StrsAre.len_eq hi, Array.length_toList]
  refine loopZ ((Walks.list hh3 _ l hneI items).toS) s.heap.objs.size (fun z => ?_) xs hlen hb (fun i v hv => ?_) (items.size - 0) 0 _ (by omega) (Nat.zero_le _)
    ⟨⟨_, Heap.get?_push_size _ rfl, rfl, rfl⟩, hl1.push _⟩ (setZ_new (Heap.get?_push_of_some _ hS) rfl) ?_
  · rcases List.mem_cons.mp z with z | z
    · rw [hz1] at z; exact ne_succ z
    · exact ne_lt hlS (List.mem_singleton.mp z).symm
  · have hi' : i < xs.length := by rw [← hlen]; exact (Array.getElem?_eq_some_iff.mp hv).1
    obtain ⟨t, e⟩ := SS.strs_at hi i v (by rw [Array.getElem?_toList]; exact hv)
    refine ⟨xs[i], t, List.getElem?_eq_getElem hi', ?_⟩
    rw [e, List.getD_eq_getElem?_getD, List.getElem?_eq_getElem hi'] <;> rfl
  intro s' hm hS'
  obtain ⟨h', g2, d', tk', os'⟩ := s'
  have eg : g2 = s.gens := hm.gens
  have ed : d' = s.drawn := hm.drawn
  have eo : os' = s.os := hm.os
  subst eg; subst ed; subst eo
  show wpAny _ _ _ _ _ _
  refine wpAny_pure ?_
  show wpAny _ _ (ret Value.none) _ _ _
  refine wpAny_pure (hR h' tk' ⟨hS', fun b u e => ?_⟩)
  have hb0 : b < s.heap.objs.size := Heap.lt_size e
  refine hm.heap b u (fun z => ?_) (Heap.get?_push_of_some _ (Heap.get?_push_of_some _ e))
  · rcases List.mem_cons.mp z with z | z
    · exact ne_lt hb0 z
    · have z := List.mem_singleton.mp z
      rw [hz1] at z
      exact ne_lt1 hb0 z
theorem call_setU {l : Addr} {items : Array Value} {xs : List Str} {Q : Value → Shared → Prop} (hh : A.handled = none) (hl : s.heap.IsTuple l items) (hi : StrsAre items.toList xs) (hb : xs.length + 1 < scanBound)
    (h : ∀ (h' : Heap) (tk : Nat), SetZ w h' s.heap.objs.size (met xs) → (∀ b o, s.heap.get? b = some o → h'.get? b = some o) → Q (.ref s.heap.objs.size) { s with heap := h', toks := tk }) :
    wpAny (model P w) A (call (.type "set") [(.ref l)]) Q E s := by
  refine call_set_outer (fun h' => SetZ w h' s.heap.objs.size (met xs) ∧ ∀ b o, s.heap.get? b = some o → h'.get? b = some o) (fun R hR => ?_) fun h' tk p => h h' tk p.1 p.2
  have hS : (s.heap.push (freshSet w)).get? s.heap.objs.size = some (freshSet w) := Heap.get?_push_size _ rfl
  have hT : Shared.TypeIs { s with heap := s.heap.push (freshSet w) } (.ref s.heap.objs.size) "set" := ⟨_, hS, rfl⟩
  have hz1 : (s.heap.push (freshSet w)).objs.size = s.heap.objs.size + 1 := Heap.size_push ..
  have hh3 : A.in1.in1.in1.handled = none := by simp [hh]
  obtain ⟨ol, hol, hcl, nl, hdl⟩ := hl
  obtain ⟨ocls, odict, odata, oslots⟩ := ol
  simp only at hcl hdl
  subst hcl; subst hdl
  have hol' : (s.heap.push (freshSet w)).get? l = some { cls := .type "tuple", dict := odict, data := .seq items nl, slots := oslots } := Heap.get?_push_of_some _ hol
  have hsls := PySem.F.sub_tuple_set
  have hslf := PySem.F.sub_tuple_frozenset
  have hne : (Value.type "tuple" == Value.type "dict") = false := by decide
  have hl1 : (s.heap.push (freshSet w)).IsTuple l items := ⟨_, hol', rfl, nl, rfl⟩
  unfold Builtin.«set.__init__» noKeywords Builtin.Frozenset.updateFrom
  generalize hPI : pyIter = PI
  wp_walk
  subst hPI
  refine wpAny_pyIter_tuple hl1 ?_
  refine wpAny_bind (wpAny_runValue ?_)
  have hlS : l < s.heap.objs.size := Heap.lt_size hol
  have hneI : l ≠ (s.heap.push (freshSet w)).objs.size := by rw [hz1]; exact fun z => ne_lt1 hlS z
  have hlen : items.size = xs.length := by rw [← StrsAre.len_eq hi, Array.length_toList]
  refine loopZ ((Walks.tuple hh3 _ l hneI items).toS) s.heap.objs.size (fun z => ?_) xs hlen hb (fun i v hv => ?_) (items.size - 0) 0 _ (by omega) (Nat.zero_le _)
    ⟨⟨_, Heap.get?_push_size _ rfl, rfl, rfl⟩, hl1.push _⟩ (setZ_new (Heap.get?_push_of_some _ hS) rfl) ?_
  · rcases List.mem_cons.mp z with z | z
    · rw [hz1] at z; exact ne_succ z
    · exact ne_lt hlS (List.mem_singleton.mp z).symm
  · have hi' : i < xs.length := by rw [← hlen]; exact (Array.getElem?_eq_some_iff.mp hv).1
    obtain ⟨t, e⟩ := SS.strs_at hi i v (by rw [Array.getElem?_toList]; exact hv)
    refine ⟨xs[i], t, List.getElem?_eq_getElem hi', ?_⟩
    rw [e, List.getD_eq_getElem?_getD, List.getElem?_eq_getElem hi'] <;> rfl
  intro s' hm hS'
  obtain ⟨h', g2, d', tk', os'⟩ := s'
  have eg : g2 = s.gens := hm.gens
  have ed : d' = s.drawn := hm.drawn
  have eo : os' = s.os := hm.os
  subst eg; subst ed; subst eo
  show wpAny _ _ _ _ _ _
  refine wpAny_pure ?_
  show wpAny _ _ (ret Value.none) _ _ _
  refine wpAny_pure (hR h' tk' ⟨hS', fun b u e => ?_⟩)
  have hb0 : b < s.heap.objs.size := Heap.lt_size e
  refine hm.heap b u (fun z => ?_) (Heap.get?_push_of_some _ (Heap.get?_push_of_some _ e))
  · rcases List.mem_cons.mp z with z | z
    · exact ne_lt hb0 z
    · have z := List.mem_singleton.mp z
      rw [hz1] at z
      exact ne_lt1 hb0 z
end
end DL
set_option maxHeartbeats 4000000
namespace DL
open PySem PySem.Spec PyProof.Rows L2
structure Later (s s' : Shared) : Prop where
  keep : ∀ b o, s.heap.get? b = some o → s'.heap.get? b = some o
  gens : s'.gens = s.gens
  os : s'.os = s.os
section
variable {P : Program} {w : World} {A : Around} {E : Value → Shared → Prop} {s : Shared}
theorem sorted_by {v : Value} {ks : List Str} {Q : Value → Shared → Prop}
    (hcol : ∀ (E' : Value → Shared → Prop) (Q' : List Value → Shared → Prop), (∀ s' vs ks', Later s s' → StrsAre vs ks' → ks'.Perm ks → Q' vs s') → wpAny (model P w) A.in1 (collect v) Q' E' s)
    (hL : ks.length ≤ sizeLine)
    (h : ∀ s1 s' p (out : Array Value) (c : Nat) (ys : List Str), Later s s1 → Later s1 s' → s1.heap.objs.size ≤ p → s'.heap.get? p = some (seqObj "list" out c) → StrsAre out.toList ys → ys.Perm ks → sortedS ys = true → Q (.ref p) s') :
    wpAny (model P w) A (call (.builtin "sorted") [v]) Q E s := by
  refine Calls.call_function_entry PyProof.Rows.kind_sorted PyProof.Rows.plain_sorted PyProof.Rows.entry_sorted (PyProof.Rows.args_sorted1 _) ?_
  unfold Builtin.«sorted»
  refine wpAny_bind (m := checkCount "sorted" 1 1 _) (wpAny_pure ?_)
  refine wpAny_bind (hcol _ _ fun s1 vs ks' la hS pk => ?_)
  have hvl : vs.length ≤ sizeLine := by rw [hS.length, pk.length_eq]; exact hL
  refine wpAny_bind (wpAny_newList ?_ hvl)
  have hoL : (s1.heap.push (seqObj "list" vs.toArray 0)).get? s1.heap.objs.size = some (seqObj "list" vs.toArray 0) := Heap.get?_push_size _ rfl
  refine wpAny_bind (wpAny_holding (wpAny_call_entry PyProof.Rows.slot_list_sort ⟨_, hoL, rfl⟩ PyProof.Rows.entry_list_sort
    (list_sort_treeKAny strKind_oneLt (s := { s1 with heap := s1.heap.push (seqObj "list" vs.toArray 0) }) hoL hS.keysOf (fun v₁ v₂ rest e => keyKind_strs (by rw [← e]; exact hS)) hvl fun st' hp hs => ⟨_, rfl, ?_⟩)
    (PyProof.Rows.args_list_sort _)))
  obtain ⟨ys, g1, g2, g3⟩ := sorted_out_str hS hp hs
  obtain ⟨c, hc⟩ := PyProof.Rows.sortedHeap_at (vs := vs) (out := (arrOf st').map (·.2)) hoL
  refine wpAny_pure ⟨_, rfl, h s1 _ s1.heap.objs.size ((arrOf st').map (·.2)) c ys la ⟨fun b u q => ?_, rfl, rfl⟩ (Nat.le_refl _) hc g1 (g2.trans pk) g3⟩
  · have hlt := Heap.lt_size q
    show (sortedHeap (s1.heap.push (seqObj "list" vs.toArray 0)) s1.heap.objs.size vs _).get? b = some u
    rw [PyProof.Rows.sortedHeap_old (Nat.ne_of_lt hlt) (by rw [size_push']; exact Nat.lt_succ_of_lt hlt)]
    exact Heap.get?_push_of_some _ q
theorem col_list {l : Addr} {vs : List Value} {ks : List Str} (hl : s.heap.IsList l vs.toArray) (hS : StrsAre vs ks) (hL : vs.length ≤ sizeLine) :
    ∀ (E' : Value → Shared → Prop) (Q' : List Value → Shared → Prop), (∀ s' vs ks', Later s s' → StrsAre vs ks' → ks'.Perm ks → Q' vs s') → wpAny (model P w) A (collect (.ref l)) Q' E' s := fun E' Q' h =>
  collect_list hl (h _ vs ks ⟨fun b o e => by
    show ((s.heap.push (seqObj "list" #[] 0)).update s.heap.objs.size _).get? b = some o
    rw [Heap.get?_update_ne _ _ _ _ (Nat.ne_of_lt (Heap.lt_size e))]
    exact Heap.get?_push_of_some _ e, rfl, rfl⟩ hS (List.Perm.refl _)) hL
theorem strs_of_all : ∀ l : List Value, (∀ v ∈ l, ∃ x tk, v = Value.str x tk) → StrsAre l (l.map fun v => match v with | .str x _ => x | _ => Str.empty)
  | [], _ => .nil
  | v :: l, h => by
    obtain ⟨x, tk, rfl⟩ := h v List.mem_cons_self
    exact .cons x tk (strs_of_all l fun u hu => h u (List.mem_cons_of_mem _ hu))
theorem col_set {a : Addr} {xs : List Str} (hh : A.handled = none) (z : SetZ w s.heap a xs) :
    ∀ (E' : Value → Shared → Prop) (Q' : List Value → Shared → Prop), (∀ s' vs ks', Later s s' → StrsAre vs ks' → ks'.Perm xs → Q' vs s') → wpAny (model P w) A (collect (.ref a)) Q' E' s := fun E' Q' h => by
  obtain ⟨o, es, ep, t, ho, hex, hd, g, nd, pm, hb, hf, hr, hl⟩ := z
  refine collect_set hh ⟨o, ho, hex.1, hd⟩ hf hb hr hl fun s1 vs k1 hz g1 o1 pv => ?_
  have hS : StrsAre vs (vs.map fun v => match v with | .str x _ => x | _ => Str.empty) := strs_of_all vs fun v hv => by
    obtain ⟨e, he, q⟩ := List.mem_map.mp (pv.mem_iff.mp hv)
    obtain ⟨k, tk, h1, _⟩ := g e he
    exact ⟨k, tk, by rw [← q]; exact h1⟩
  refine h s1 vs _ ⟨k1, g1, o1⟩ hS ?_
  refine List.Perm.trans ?_ pm.symm
  have q := pv.map fun v : Value => (match v with | .str x _ => x | _ => Str.empty : Str)
  rw [List.map_map] at q
  exact q
end
section
variable {X : Cx}
def SetZo (w : World) (a : Addr) (xs : List Str) : HO := .ext fun h => SetZ w h a xs
theorem setZo_new {w : World} {Pr : Program} {H : Hp} {h : Heap} {a : Addr} {xs : List Str} (z : SetZ w h a xs) : ObjOk Pr w H h a (SetZo w a xs) := by
  have ⟨o, _, _, _, ho, _⟩ := z
  exact ⟨z, ⟨o, ho⟩, fun h1 h2 p k => SetZ.at p k⟩
def rSetX (K : PySem.W.Frag) (w : World) : List V → Hp → VK → Prop := fun vs H Q => ∃ xs : List Str, xs.length + 1 < scanBound ∧
  ((∃ x, vs = [.str x] ∧ xs = signs x) ∨ (∃ a, vs = [.ref a] ∧ (SqL K H a (xs.map V.str) ∨ SqT K H a (xs.map V.str)))) ∧ ∀ p, H p = none → Q (.ref p) (upd H p (SetZo w p (met xs)))
theorem cr_setX (hc : X.calm = true) : CallR X (.type "set") (rSetX X.K X.w) := by
  intro pins s σ H vs us Q I r h
  obtain ⟨xs, hb, h, q⟩ := h
  have fin : ∀ (h' : Heap) (tk : Nat), SetZ X.w h' s.heap.objs.size (met xs) → (∀ b o, s.heap.get? b = some o → h'.get? b = some o) → EP X pins σ Q (.ref s.heap.objs.size) { s with heap := h', toks := tk } := fun h' tk z k => by
    have hn : H s.heap.objs.size = none := I.hok.fresh (Nat.le_refl _)
    exact ⟨.ref s.heap.objs.size, _, I.laid (o := SetZo X.w s.heap.objs.size (met xs)) k (Nat.le_refl _) (setZo_new z), rfl, q _ hn⟩
  rcases h with ⟨x, rfl, rfl⟩ | ⟨a, rfl, h | h⟩
  · obtain ⟨u, rfl, ru⟩ := vals1 r
    obtain ⟨t, rfl⟩ := ru
    exact call_setT (I.ok.hd hc) (by simpa [signs] using hb) fun h' tk z k => fin h' tk z k
  · obtain ⟨its, rv, pl, hz⟩ := I.list h
    rw [Vals.ref1 r]
    exact call_setL (I.ok.hd hc) pl.isList (by simpa using rv.strs) hb fun h' tk z k => fin h' tk z k
  · obtain ⟨its, rv, pl, hz⟩ := I.tuple h
    rw [Vals.ref1 r]
    exact call_setU (items := its.toArray) (I.ok.hd hc) (show s.heap.IsTuple a its.toArray from pl) (by simpa using rv.strs) hb fun h' tk z k => fin h' tk z k
theorem Later.inv {pins : List (Addr × Obj)} {σ : L2.St} {H : Hp} {s s' : Shared} (I : Inv X pins σ H s) (la : Later s s') : Inv X pins σ H s' :=
  I.call' (ch := []) la.os (Un.kept la.keep) (I.hok.kept la.keep) (by rw [la.gens]; exact I.bare) (fun _ z => nomatch z)
theorem sorted_fin {pins : List (Addr × Obj)} {σ : L2.St} {H : Hp} {s s1 s' : Shared} {p : Addr} {out : Array Value} {c : Nat} {ys : List Str} {Q : VK} (I : Inv X pins σ H s) (l1 : Later s s1) (la : Later s1 s') (hp : s1.heap.objs.size ≤ p)
    (ho : s'.heap.get? p = some (seqObj "list" out c)) (hS : StrsAre out.toList ys) (hL : ys.length ≤ sizeLine) (q : H p = none → Q (.ref p) (upd H p (.lst (ys.map V.str)))) : EP X pins σ Q (.ref p) s' := by
  have I1 := Later.inv I l1
  have hn : H p = none := I1.hok.fresh hp
  have J : Inv X pins σ (upd H p (.lst (ys.map V.str))) s' :=
    I1.call' (ch := []) la.os (Un.laid la.keep hp hn) (I1.hok.laid la.keep hp ⟨by rw [List.length_map]; exact hL, out.toList, c, vals_of_strs hS, ho⟩) (by rw [la.gens]; exact I1.bare) (fun _ z => nomatch z)
  exact ⟨.ref p, _, J, rfl, q hn⟩
def rSortX (K : PySem.W.Frag) (w : World) : List V → Hp → VK → Prop := fun vs H Q => ∃ (a : Addr) (xs : List Str), vs = [.ref a] ∧ xs.length ≤ sizeLine ∧ (SqL K H a (xs.map V.str) ∨ H a = some (SetZo w a xs)) ∧
  ∀ ys p, ys.Perm xs → sortedS ys = true → H p = none → Q (.ref p) (upd H p (.lst (ys.map V.str)))
theorem cr_sortX (hc : X.calm = true) : CallR X (.builtin "sorted") (rSortX X.K X.w) := by
  intro pins s σ H vs us Q I r h
  obtain ⟨a, xs, rfl, hL, h, q⟩ := h
  rw [Vals.ref1 r]
  rcases h with h | h
  · obtain ⟨its, rv, pl, hz⟩ := I.list h
    refine sorted_by (ks := xs) (col_list pl.isList rv.strs (by rw [rv.strs.length]; exact hL)) hL fun s1 s' p out c ys l1 la hp ho hS pm hs => ?_
    exact sorted_fin I l1 la hp ho hS (by rw [pm.length_eq]; exact hL) fun hn => q ys p pm hs hn
  · refine sorted_by (ks := xs) (col_set (show X.A.in1.handled = none from I.ok.hd hc) (I.hok a _ h).1) hL fun s1 s' p out c ys l1 la hp ho hS pm hs => ?_
    exact sorted_fin I l1 la hp ho hS (by rw [pm.length_eq]; exact hL) fun hn => q ys p pm hs hn
end
end DL
set_option maxHeartbeats 4000000
namespace DL
open PySem PySem.Spec PyProof.Rows L2
section
variable {X : Cx}
def KVo (v d : Addr) : HO := .ext fun h => PySem.W.KdlKeysView h v d
theorem kvo_new {w : World} {Pr : Program} {H : Hp} {h : Heap} {v d : Addr} (z : PySem.W.KdlKeysView h v d) : ObjOk Pr w H h v (KVo v d) := by
  have ⟨o, ho, _⟩ := z
  exact ⟨z, ⟨o, ho⟩, fun h1 h2 p k => let ⟨o, ho, r⟩ := p; ⟨o, k o ho, r⟩⟩
def tKeys (td : TE) : TE := fun σ H Q => td σ H fun x H1 => ∃ d kvs, x = .ref d ∧ Rd H1 d (.dK kvs) ∧ ∀ p, H1 p = none → Q (.ref p) (upd H1 p (KVo p d))
theorem pe_keys {e : Expr} {td : TE} {apos cpos : Pos} (he : PE X e td) (hbase : attributeBase e "keys" X.env (eval e X.env) = eval e X.env := by rfl) (hline : (apos.endLine == cpos.line) = true := by rfl) :
    PE X (.Call (.Attribute e "keys" apos) [] [] cpos) (tKeys td) := by
  refine ⟨fun pins s σ H Q I h => ?_⟩
  refine wpAny_Call_method (T := "dict") (id := "dict.keys") hbase rfl hline PySem.F.plainAttrs_dict PySem.F.slot_dict_keys PySem.F.type_dict_keys (thn (he.run pins s σ H _ I h) fun u s1 ⟨x, H1, I1, rx, d, kvs, ex, hd, q⟩ => ?_)
  subst ex
  obtain rfl : u = Value.ref d := rx
  obtain ⟨z, lo, vs, rel, dd⟩ := dk_rd I1.hok hd
  refine ⟨dd.typeIs, dd.mapOf.noDict, ?_⟩
  have hn : H1 s1.heap.objs.size = none := I1.hok.fresh (Nat.le_refl _)
  have fin : EP X pins σ Q (.ref s1.heap.objs.size) { s1 with heap := s1.heap.push { cls := .type "dict_keys", data := .fields #[.ref d] } } :=
    ⟨.ref s1.heap.objs.size, _, I1.laid (t' := s1.toks) (o := KVo s1.heap.objs.size d) (fun b ob q => Heap.get?_push_of_some _ q) (Nat.le_refl _) (kvo_new ⟨_, Heap.get?_push_size _ rfl, rfl, rfl⟩), rfl, q _ hn⟩
  show wpAny _ _ (callWith cpos (.builtin "dict.keys") [.ref d] [] []) _ X.xe s1
  exact method_meetsIn PySem.F.slot_dict_keys PySem.F.entry_dict_keys rfl (PySem.evalArgs_none ⟨rfl, dd.typeIs, PySem.F.args_dict_keys_1 _, _, PySem.W.kdl_meets_keys (mixKind X.prog X.w) d lo, ⟨vs, dd⟩, fin⟩)
def rSortK : List V → Hp → VK → Prop := fun vs H Q => ∃ (v d : Addr) (kvs : List (Key × V)) (ks : List Str), vs = [.ref v] ∧ H v = some (KVo v d) ∧ Rd H d (.dK kvs) ∧ kvs.map (·.1) = ks.map Sum.inr ∧
  ∀ ys p, ys.Perm ks → sortedS ys = true → H p = none → Q (.ref p) (upd H p (.lst (ys.map V.str)))
theorem cr_sortK (hc : X.calm = true) : CallR X (.builtin "sorted") rSortK := by
  intro pins s σ H xs us Q I r q
  obtain ⟨v, d, kvs, ks, rfl, hv, hd, hks, q⟩ := q
  rw [Vals.ref1 r]
  obtain ⟨z, lo, vs, rel, dd⟩ := dk_rd I.hok hd
  obtain ⟨ep, hat⟩ := dd.dictAt
  have hkeys : vs.map (·.1) = ks.map Sum.inr := rel.keys.symm.trans hks
  have hl : vs.length = ks.length := by
    have e := congrArg List.length hkeys
    rw [List.length_map, List.length_map] at e
    exact e
  have hL : ks.length ≤ sizeLine := by
    have e := congrArg List.length hks
    rw [List.length_map, List.length_map] at e
    rw [← e]; exact z
  have view : PySem.W.KdlKeysView s.heap v d := (I.hok v _ hv).1
  refine sorted_by (ks := ks) (fun E' Q' h => PySem.W.kdu_collect (A := X.A.in1) (PySem.W.kdl_keys (knd := mixKind X.prog X.w) (kvs := vs) (ep := ep)) (I.ok.hd hc) ⟨view, hat⟩ (by rw [hl]; exact hL) fun h' tk acc hk hacc => ?_) hL
    fun s1 s' p out c ys l1 la hp ho hS pm hs => sorted_fin I l1 la hp ho hS (by rw [pm.length_eq]; exact hL) fun hn => q ys p pm hs hn
  have hal : acc.toList.length = ks.length := by rw [Array.length_toList, hacc.1, hl]
  have hS : StrsAre acc.toList ks := L2.strs_at hal fun j v e => by
    obtain ⟨k, x, e1, e2⟩ := hacc.2 j v (by rw [← Array.getElem?_toList]; exact e)
    have e3 : (vs.map (·.1))[j]? = some k := by rw [List.getElem?_map, e1]; all_goals rfl
    rw [hkeys, List.getElem?_map] at e3
    cases e4 : ks[j]? with
    | none => rw [e4] at e3; cases e3
    | some y =>
      rw [e4] at e3
      have e5 : Sum.inr y = k := Option.some.inj e3
      subst e5
      obtain ⟨t, ev⟩ := Value.isStrOf_shape (x := y) (v := v) e2
      exact ⟨y, t, rfl, ev⟩
  exact h _ acc.toList ks ⟨hk, rfl, rfl⟩ hS (List.Perm.refl _)
end
end DL
namespace DL
open PySem L2
def leS (a b : Str) : Bool := decide (a.cps.toList ≤ b.cps.toList)
def srt (xs : List Str) : List Str := xs.mergeSort leS
theorem str_ext {a b : Str} (h : a.cps.toList = b.cps.toList) : a = b := by
  cases a; cases b; exact congrArg Str.mk (Array.toList_inj.mp h)
theorem leS_trans (a b c : Str) (h : leS a b = true) (g : leS b c = true) : leS a c = true :=
  decide_eq_true (List.le_trans (of_decide_eq_true h) (of_decide_eq_true g))
theorem leS_total (a b : Str) : (leS a b || leS b a) = true := by
  rcases List.le_total a.cps.toList b.cps.toList with h | h
  · rw [show leS a b = true from decide_eq_true h]; rfl
  · rw [show leS b a = true from decide_eq_true h, Bool.or_true]
theorem leS_anti {a b : Str} (h : leS a b = true) (g : leS b a = true) : a = b := str_ext (List.le_antisymm (of_decide_eq_true h) (of_decide_eq_true g))
theorem srt_perm (xs : List Str) : (srt xs).Perm xs := List.mergeSort_perm _ _
theorem srt_pw (xs : List Str) : (srt xs).Pairwise fun a b => leS a b = true := List.pairwise_mergeSort leS_trans leS_total xs
theorem rising_pw : ∀ (p : Str) (l : List Str), PyProof.Rows.risingS p l = true → (p :: l).Pairwise fun a b => leS a b = true
  | p, [], _ => List.pairwise_singleton _ _
  | p, x :: r, h => by
    have h' : (!Spec.ltCps x.cps.toList p.cps.toList && PyProof.Rows.risingS x r) = true := h
    rw [Bool.and_eq_true, PyProof.Rows.ltCps_eq] at h'
    have hx : leS p x = true := decide_eq_true (by simpa using h'.1)
    have ih := rising_pw x r h'.2
    refine List.pairwise_cons.mpr ⟨fun y hy => ?_, ih⟩
    rcases List.mem_cons.mp hy with e | e
    · rw [e]; exact hx
    · exact leS_trans _ _ _ hx (List.rel_of_pairwise_cons ih e)
theorem sorted_pw {l : List Str} (h : PyProof.Rows.sortedS l = true) : l.Pairwise fun a b => leS a b = true := by
  cases l with
  | nil => exact List.Pairwise.nil
  | cons x r => exact rising_pw x r h
theorem srt_unique {xs ys : List Str} (p : ys.Perm xs) (h : ys.Pairwise fun a b => leS a b = true) : ys = srt xs :=
  List.Perm.eq_of_pairwise (fun a b _ _ h1 h2 => leS_anti h1 h2) h (srt_pw xs) (p.trans (srt_perm xs).symm)
theorem srt_eq {xs ys : List Str} (p : ys.Perm xs) (h : PyProof.Rows.sortedS ys = true) : ys = srt xs := srt_unique p (sorted_pw h)
theorem mem_addS {xs : List Str} {k x : Str} : x ∈ addS xs k ↔ x ∈ xs ∨ x = k := by
  unfold addS; split
  · rename_i h; exact ⟨.inl, fun z => z.elim id fun e => e ▸ h⟩
  · simp
theorem mem_met_aux {x : Str} : ∀ (l acc : List Str), x ∈ l.foldl addS acc ↔ x ∈ acc ∨ x ∈ l
  | [], acc => by simp
  | k :: l, acc => by rw [List.foldl_cons, mem_met_aux l, mem_addS, List.mem_cons]; exact or_assoc
theorem mem_met {x : Str} {l : List Str} : x ∈ met l ↔ x ∈ l := by unfold met; rw [mem_met_aux]; simp
theorem nodup_met_aux : ∀ (l acc : List Str), acc.Nodup → (l.foldl addS acc).Nodup
  | [], _, h => h
  | k :: l, acc, h => nodup_met_aux l _ (addS_nodup h)
theorem nodup_met (l : List Str) : (met l).Nodup := nodup_met_aux l [] List.nodup_nil
def srtset (xs : List Str) : List Str := srt (met xs)
theorem mem_srtset {x : Str} {l : List Str} : x ∈ srtset l ↔ x ∈ l := by rw [srtset, (srt_perm _).mem_iff, mem_met]
theorem nodup_srtset (l : List Str) : (srtset l).Nodup := (srt_perm _).nodup_iff.mpr (nodup_met l)
def txts : List D → Option (List Str)
  | [] => some []
  | .str b :: r => (txts r).map (b :: ·)
  | _ => none
theorem txts_map : ∀ bs : List Str, txts (bs.map D.str) = some bs
  | [] => rfl
  | b :: bs => by rw [List.map_cons, txts, txts_map bs]; rfl
theorem txts_of {K : PySem.W.Frag} {F : Hp} : ∀ {ds : List D} {bs : List Str} {vs : List V}, txts ds = some bs → Reps K F ds vs → vs = bs.map V.str
  | [], _, _, e, r => by cases e; exact r
  | d :: ds, bs, vs, e, r => by
    cases d <;> first | (cases (show (none : Option (List Str)) = some bs from e)) | skip
    rename_i b
    rw [txts] at e
    cases q : txts ds with
    | none => rw [q] at e; cases e
    | some cs =>
      rw [q] at e; cases e
      obtain ⟨v, r', rfl, rfl, h⟩ := r
      rw [txts_of q h]; rfl
section
variable {K : PySem.W.Frag} {w : World}
def oSort : OL := fun ds P => match ds with
  | [.lst xs] => asA (txts xs) fun ss => ss.length ≤ sizeLine ∧ P (.ol ((srt ss).map .str))
  | _ => False
def oSortSet : OL := fun ds P => match ds with
  | [.lst xs] => asA (txts xs) fun ss => ss.length + 1 < scanBound ∧ P (.ol ((srtset ss).map .str))
  | [.tup xs] => asA (txts xs) fun ss => ss.length + 1 < scanBound ∧ P (.ol ((srtset ss).map .str))
  | [.str x] => x.length + 1 < scanBound ∧ P (.ol ((srtset (signs x)).map .str))
  | _ => False
def rSortSet (K : PySem.W.Frag) (w : World) : List V → Hp → VK → Prop := fun vs H Q => rSetX K w vs H fun x H1 => rSortX K w [x] H1 Q
theorem met_small {xs : List Str} (h : xs.length + 1 < scanBound) : (met xs).length ≤ sizeLine := by
  have h1 := met_len xs
  have h2 : scanBound ≤ sizeLine := by decide
  omega
theorem snd_sortSet : SndL K (rSortSet K w) oSortSet := ⟨fun {F H ds vs P Q} fh r h k => by
  have fin : ∀ (xs : List Str), xs.length + 1 < scanBound → P (.ol ((srtset xs).map .str)) → ∀ p, H p = none → rSortX K w [.ref p] (upd H p (SetZo w p (met xs))) Q := fun xs hb hP p n =>
    ⟨p, met xs, rfl, met_small hb, .inr upd_same, fun ys p2 pm hs n2 => by
      rw [srt_eq pm hs]
      have fh2 : Same F (upd H p (SetZo w p (met xs))) := fh.trans (Same.new n)
      exact k (.ol ((srtset xs).map .str)) _ F _ hP ((Same.new n).trans (Same.new n2)) (Same.refl _) (fh2.trans (Same.new n2)) (fun _ q => .inl q)
        ⟨p2, _, rfl, upd_same, Reps.strs.mpr rfl, (Same.new n).free n2, fh2.free n2⟩⟩
  unfold oSortSet at h
  split at h
  · obtain ⟨v, _, rfl, ⟨a, us, rfl, h1, h2⟩, rfl⟩ := r
    obtain ⟨ss, e, hz, h⟩ := asA_of h
    have q := txts_of e h2
    subst q
    exact ⟨ss, hz, .inr ⟨a, rfl, .inl (fh.seq (SqL.of h1))⟩, fin ss hz h⟩
  · obtain ⟨v, _, rfl, ⟨a, us, rfl, h1, h2⟩, rfl⟩ := r
    obtain ⟨ss, e, hz, h⟩ := asA_of h
    have q := txts_of e h2
    subst q
    exact ⟨ss, hz, .inr ⟨a, rfl, .inr (Same.sqT fh h1)⟩, fin ss hz h⟩
  · rename_i x
    obtain ⟨v, _, rfl, rfl, rfl⟩ := r
    have e : (signs x).length = x.length := by simp [signs]; rfl
    have hz : (signs x).length + 1 < scanBound := by rw [e]; exact h.1
    exact ⟨signs x, hz, .inl ⟨_, rfl, rfl⟩, fin _ hz h.2⟩
  · exact h.elim⟩
def oList : OL := fun ds P => match ds with
  | [.lst xs] => P (.ol xs)
  | [.tup xs] => P (.ol xs)
  | _ => False
theorem snd_list : SndL K (fun xs H Q => ∃ p ys, xs = [.ref p] ∧ (SqL K H p ys ∨ SqT K H p ys) ∧ ∀ l, H l = none → Q (.ref l) (upd H l (.lst ys))) oList := ⟨fun {F H ds vs P Q} fh r h k => by
  unfold oList at h
  split at h
  · obtain ⟨v, _, rfl, ⟨a, us, rfl, h1, h2⟩, rfl⟩ := r
    exact ⟨a, us, rfl, .inl (fh.seq (SqL.of h1)), fun l n => k.newL fh h h2 n⟩
  · obtain ⟨v, _, rfl, ⟨a, us, rfl, h1, h2⟩, rfl⟩ := r
    exact ⟨a, us, rfl, .inr (Same.sqT fh h1), fun l n => k.newL fh h h2 n⟩
  · exact h.elim⟩
def oTuple : OL := fun ds P => match ds with
  | [.lst xs] => P (.d (.tup xs))
  | [.tup xs] => P (.d (.tup xs))
  | _ => False
theorem snd_tuple : SndL K (fun xs H Q => ∃ p ys, xs = [.ref p] ∧ ((SqL K H p ys ∧ ∀ l, H l = none → Q (.ref l) (upd H l (.tup ys))) ∨ (SqT K H p ys ∧ Q (.ref p) H))) oTuple := ⟨fun {F H ds vs P Q} fh r h k => by
  unfold oTuple at h
  split at h
  · obtain ⟨v, _, rfl, ⟨a, us, rfl, h1, h2⟩, rfl⟩ := r
    exact ⟨a, us, rfl, .inl ⟨fh.seq (SqL.of h1), fun l n => k.newT fh h h2 n⟩⟩
  · obtain ⟨v, _, rfl, ⟨a, us, rfl, h1, h2⟩, rfl⟩ := r
    exact ⟨a, us, rfl, .inr ⟨Same.sqT fh h1, k.flat fh h ⟨a, us, rfl, h1, h2⟩⟩⟩
  · exact h.elim⟩
end
section
variable {K : PySem.W.Frag} {w : World} {X : Cx} {Z : Zx} {pos p p2 : Pos} {a b e : Expr} {ta tb te : TE} {wa wb we : W}
abbrev qList (K : PySem.W.Frag) : List V → Hp → VK → Prop := fun xs H Q => ∃ p ys, xs = [.ref p] ∧ (SqL K H p ys ∨ SqT K H p ys) ∧ ∀ l, H l = none → Q (.ref l) (upd H l (.lst ys))
abbrev qTuple (K : PySem.W.Frag) : List V → Hp → VK → Prop := fun xs H Q => ∃ p ys, xs = [.ref p] ∧ ((SqL K H p ys ∧ ∀ l, H l = none → Q (.ref l) (upd H l (.tup ys))) ∨ (SqT K H p ys ∧ Q (.ref p) H))
theorem de_tuple (m : X.mg "tuple" = none) (ha : DE K X Z a ta wa) (hg : Gl X "tuple" := by rfl) (hs : starEach [a] X.env = [(false, eval a X.env)] := by rfl) (hK : X.K = K := by rfl) : DE K X Z (.Call (.Name "tuple" p) [a] [] pos) (tCB (qTuple K) (tCons ta tNil)) (wCB oTuple (wCons wa wNil)) := by
  subst hK
  exact de_callTy call_tuple_of snd_tuple hg m (by decide +kernel) (da_cons ha da_nil hs) (hn := by decide) (hdb := by decide) (he := hs) (hpl := rfl)
theorem de_sortSet (hc : X.calm = true) (m : X.mg "sorted" = none) (m2 : X.mg "set" = none) (ha : DE K X Z a ta wa) (hg : Gl X "sorted" := by rfl) (hg2 : Gl X "set" := by rfl) (hs : starEach [a] X.env = [(false, eval a X.env)] := by rfl)
    (hs2 : starEach [Expr.Call (.Name "set" p2) [a] [] pos] X.env = [(false, eval (Expr.Call (.Name "set" p2) [a] [] pos) X.env)] := by rfl) (hK : X.K = K := by rfl) (hw : X.w = w := by rfl) {pos2 : Pos} :
    DE K X Z (.Call (.Name "sorted" p) [.Call (.Name "set" p2) [a] [] pos] [] pos2) (tCB (rSortX K w) (tCons (tCB (rSetX K w) (tCons ta tNil)) tNil)) (wCB oSortSet (wCons wa wNil)) := by
  subst hK; subst hw
  refine ⟨pe_callB (cr_sortX hc) hg m (by decide +kernel) (pa_cons (pe_callTy (cr_setX hc) hg2 m2 (by decide +kernel) (pa_cons ha.pe pa_nil hs) (hn := by decide) (hdb := by decide) (he := hs) (hpl := rfl)) pa_nil hs2) (hn := by decide) (hdb := by decide) (he := hs2) (hpl := rfl), ?_⟩
  exact cb_run (t := tCons ta tNil) (r := rSortSet X.K X.w) (da_cons ha (da_nil (X := X) (Z := Z)) hs).run snd_sortSet
end
end DL
namespace DL
open PySem L2
def seeR : R → R
  | [] => []
  | some s :: r => some (.d s.fz) :: seeR r
  | none :: r => none :: seeR r
theorem seeR_len : ∀ ρ : R, (seeR ρ).length = ρ.length
  | [] => rfl
  | some s :: r => congrArg Nat.succ (seeR_len r)
  | none :: r => congrArg Nat.succ (seeR_len r)
theorem seeR_get : ∀ {ρ : R} {i : Nat} {s : S}, (seeR ρ)[i]? = some (some s) → ∃ t, s = .d t.fz ∧ ρ[i]? = some (some t)
  | [], i, s, h => by simp [seeR] at h
  | some t :: r, 0, s, h => by simp [seeR] at h; exact ⟨t, h.symm, rfl⟩
  | none :: r, 0, s, h => by simp [seeR] at h
  | some t :: r, i + 1, s, h => by simp [seeR] at h; obtain ⟨u, e, q⟩ := seeR_get h; exact ⟨u, e, by simpa using q⟩
  | none :: r, i + 1, s, h => by simp [seeR] at h; obtain ⟨u, e, q⟩ := seeR_get h; exact ⟨u, e, by simpa using q⟩
section
variable {K : PySem.W.Frag} {H0 F0 F H : Hp} {ρ : R} {σ : St}
theorem SRep.see {s : S} {v : V} (fh : Same F H) (h : SRep K H0 F H s v) : Rep K H s.fz v := by
  cases s with
  | d x => exact Rep.mono fh _ _ h
  | ol xs => obtain ⟨a, vs, e, h1, h2, _, _⟩ := h; exact ⟨a, vs, e, h1, Reps.mono fh _ _ h2⟩
  | od kvs =>
    obtain ⟨a, kvs', e, h1, hk, h2, _, _⟩ := h
    refine ⟨a, kvs'.map (·.2), e, ?_, ?_, Reps.mono fh _ _ h2⟩
    · refine .inl ?_; rw [h1, ← hk, zip_unzip]
    · rw [h2.len, List.length_map, List.length_map]
  | oi N kvs =>
    obtain ⟨a, C, dx, kvs', e, g, h1, hk, h2, _, _⟩ := h
    refine ⟨a, C, dx, kvs'.map (·.2), e, g, ?_, ?_, Reps.mono fh _ _ h2⟩
    · rw [h1, ← hk, zip_unzip]
    · rw [h2.len, List.length_map, List.length_map]
  | os b N kvs =>
    obtain ⟨_, a, C, dx, kvs', e, g, h1, hk, h2, _, _⟩ := h
    refine ⟨a, C, dx, kvs'.map (·.2), e, g, ?_, ?_, Reps.mono fh _ _ h2⟩
    · rw [h1, ← hk, zip_unzip]
    · rw [h2.len, List.length_map, List.length_map]
theorem Rel.see (r : Rel K H0 F0 F H ρ σ) : Rel K H H H H (seeR ρ) σ := by
  refine ⟨Same.refl _, Same.refl _, Same.refl _, fun _ q => .inl q, by rw [seeR_len]; exact r.len, fun i s q => ?_, fun i j s t q1 q2 w1 w2 z => ?_⟩
  · obtain ⟨t, rfl, q'⟩ := seeR_get q
    obtain ⟨v, e, sr⟩ := r.at_ i t q'
    exact ⟨v, e, sr.see r.fh⟩
  · obtain ⟨t, rfl, q'⟩ := seeR_get q1
    cases w1
end
section
variable {K : PySem.W.Frag} {X : Cx} {Z : Zx} {pos p p2 apos cpos : Pos} {a b e o : Expr} {ta tb te to : TE} {wa wb we wo : W} {i : Nat}
theorem Zx.Ok.all {H0 F0 F H : Hp} {ρ : R} {σ : St} (zo : Z.Ok K H0 F0) (r : Rel K H0 F0 F H ρ σ) : Z0.Ok K H H := Z0.ok
def wLend (w : W) : W := fun ρ P => w (seeR ρ) fun s _ => s.fz.flat = true ∧ P (.d s.fz) ρ
theorem run_lend {t : TE} {w : W} (h : RunE K Z0 t w) : RunE K Z t (wLend w) := fun {H0 F0 F H ρ σ Q P} zo r q k =>
  h Z0.ok r.see q fun s ρ' F' H' v p f r' sr fr => by
    obtain ⟨F2, f2, r2, rp2⟩ := r'.freeze sr fr
    have r3 : Rel K H0 F0 F H' ρ σ := r.grow r'.h
    exact k _ _ F H' v p.2 (Same.refl _) r3 (Rep.flat rp2 p.1) fun w => nomatch w
theorem de_lend {t : TE} {w : W} (h : DE K X Z0 e t w) : DE K X Z e t (wLend w) := ⟨h.pe, run_lend h.run⟩
def wLendT (w : WT) : WT := fun ρ P => w (seeR ρ) fun b _ => P b ρ
theorem run_lendT {t : TT} {w : WT} (h : RunT K Z0 t w) : RunT K Z t (wLendT w) := fun {H0 F0 F H ρ σ Q P} zo r q k =>
  h Z0.ok r.see q fun b ρ' F' H' p f r' => k _ _ F H' p (Same.refl _) (r.grow r'.h)
theorem dt_lend {t : TT} {w : WT} (h : DT K X Z0 e t w) : DT K X Z e t (wLendT w) := ⟨h.pe, run_lendT h.run⟩
def asOL (o : Option S) (P : List D → Prop) : Prop := match o with
  | some (.ol xs) => P xs
  | _ => False
theorem asOL_of {o : Option S} {P : List D → Prop} (h : asOL o P) : ∃ xs, o = some (.ol xs) ∧ P xs := by
  unfold asOL at h; split at h
  · exact ⟨_, rfl, h⟩
  · exact h.elim
def asOD (o : Option S) (P : List (Key × D) → Prop) : Prop := match o with
  | some (.od xs) => P xs
  | _ => False
theorem asOD_of {o : Option S} {P : List (Key × D) → Prop} (h : asOD o P) : ∃ xs, o = some (.od xs) ∧ P xs := by
  unfold asOD at h; split at h
  · exact ⟨_, rfl, h⟩
  · exact h.elim
def wM (i : Nat) (o : List D → List D → (S → List D → Prop) → Prop) (wr : WA) : W := fun ρ P => asOL (nth ρ i) fun _ => wr ρ fun ds ρ1 => asOL (nth ρ1 i) fun xs => o xs ds fun s ys => P s (put ρ1 i (some (.ol ys)))
structure SndM (K : PySem.W.Frag) (r : V → List V → Hp → VK → Prop) (o : List D → List D → (S → List D → Prop) → Prop) : Prop where
  run : ∀ {F H : Hp} {l : Addr} {vs us : List V} {xs ds : List D} {P : S → List D → Prop} {Q : VK}, Same F H → H l = some (.lst vs) → F l = none → Reps K F xs vs → Reps K F ds us → o xs ds P →
    (∀ d ys v vs', P (.d d) ys → Rep K F d v → Reps K F ys vs' → Q v (upd H l (.lst vs'))) → r (.ref l) us H Q
theorem run_M {T : String} {ta : TA} {wr : WA} {r : V → List V → Hp → VK → Prop} {o : List D → List D → (S → List D → Prop) → Prop} (hT : T = "list") (ha : RunA K Z ta wr) (ho : SndM K r o) : RunE K Z (tBM K T r (tVar i) ta) (wM i o wr) := fun {H0 F0 F H ρ σ Q P} zo rl h k => by
  obtain ⟨xs0, e0, h⟩ := asOL_of h
  obtain ⟨v, ev, a, vs, rfl, hl, _⟩ := rl.at_ i _ (nth_some e0)
  refine ⟨.ref a, ev, .inl ⟨hT, vs, SqL.of hl⟩, ha zo rl h fun ds ρ1 F1 H1 us h1 f1 r1 rps => ?_⟩
  obtain ⟨xs, e1, h1⟩ := asOL_of h1
  obtain ⟨v2, ev2, a2, vs2, rfl, hl2, rx, n0, n1⟩ := r1.at_ i _ (nth_some e1)
  rw [ev] at ev2; cases ev2
  refine ho.run r1.fh hl2 n1 rx rps h1 fun d ys v vs' p rd ry => ?_
  rw [put_eq] at p
  exact k _ _ F1 _ v p f1 (r1.write (nth_some e1) rfl ev ⟨a, vs', rfl, upd_same, ry, n0, n1⟩ rfl) rd fun w => nomatch w
def oAppend : List D → List D → (S → List D → Prop) → Prop := fun xs ds P => match ds with
  | [d] => xs.length < sizeLine ∧ P (.d .non) (xs ++ [d])
  | _ => False
theorem snd_append : SndM K rAppend oAppend := ⟨fun {F H l vs us xs ds P Q} fh hl n rx rd h k => by
  unfold oAppend at h
  split at h
  · obtain ⟨v, _, rfl, rv, rfl⟩ := rd
    exact ⟨l, vs, v, rfl, rfl, hl, by rw [rx.len]; exact h.1, k _ _ _ _ h.2 rfl (rx.app (.one rv))⟩
  · exact h.elim⟩
def oPop : List D → List D → (S → List D → Prop) → Prop := fun xs ds P => match ds with
  | [] => asA xs[xs.length - 1]? fun d => P (.d d) xs.dropLast
  | _ => False
theorem Reps.dropLast {F : Hp} {xs : List D} {vs : List V} (h : Reps K F xs vs) : Reps K F xs.dropLast vs.dropLast := by
  rw [List.dropLast_eq_take, List.dropLast_eq_take, h.len]; exact h.take _
section
variable {x : Str} {ta : TA} {wr : WA}
theorem de_append (i : Nat) (ha : DE K X Z e te we) (hN : X.N[i]? = some x := by rfl) (hv : Vis X.env.scope x := by first | exact Or.inl rfl | exact Or.inr (Or.inl rfl) | exact Or.inr (Or.inr rfl)) (hd : (x == ("__debug__" : Str)) = false := by decide)
    (hcd : (x == ("__classdict__" : Str)) = false := by decide) (hs : starEach [e] X.env = [(false, eval e X.env)] := by rfl)
    (hbase : attributeBase (.Name x p) "append" X.env (eval (.Name x p) X.env) = eval (.Name x p) X.env := by rfl)
    (hfew : ((backTo cpos (starEach [e] X.env)).all (fun x => !x.1) && (backToKw cpos (keywordEach [] X.env)).all (fun x => x.1.isSome)
      && decide (([e] : List Expr).length + ([] : List Keyword).length + (if ([] : List Keyword).isEmpty then 0 else 1) < 30)) = true := by rfl)
    (hline : (apos.endLine == cpos.line) = true := by rfl) (hK : X.K = K := by rfl) :
    DE K X Z (.Call (.Attribute (.Name x p) "append" apos) [e] [] cpos) (tBM K "list" rAppend (tVar i) (tCons te tNil)) (wM i oAppend (wCons we wNil)) := by
  subst hK
  exact ⟨pe_bm PySem.F.plainAttrs_list PySem.F.slot_list_append PySem.F.type_list_append mt_append (pe_var hN hv hd hcd) (pa_cons ha.pe pa_nil hs) hbase hfew hline hs rfl, run_M rfl (da_cons ha (da_nil (X := X) (Z := Z)) hs).run snd_append⟩
end
def vget {β : Type} (kvs : List (Key × β)) (k : Key) : Option β := (kvs.find? fun kv => decide (kv.1 = k)).map (·.2)
def vput {β : Type} (kvs : List (Key × β)) (k : Key) (v : β) : List (Key × β) :=
  if (kvs.any fun kv => decide (kv.1 = k)) = true then kvs.map (fun kv => if kv.1 = k then (kv.1, v) else kv) else kvs ++ [(k, v)]
def vdrop {β : Type} (kvs : List (Key × β)) (k : Key) : List (Key × β) := kvs.filter fun kv => decide (kv.1 ≠ k)
def asKey (d : D) (P : Key → Prop) : Prop := match d with
  | .int i => P (.inl i)
  | .str x => P (.inr x)
  | _ => False
theorem asKey_of {F : Hp} {d : D} {v : V} {P : Key → Prop} (h : asKey d P) (r : Rep K F d v) : ∃ k, v = kV k ∧ P k := by
  cases d <;> first | exact h.elim | exact ⟨.inl _, r, h⟩ | exact ⟨.inr _, r, h⟩
def KRep (K : PySem.W.Frag) (F : Hp) (kvs : List (Key × D)) (kvs' : List (Key × V)) : Prop := kvs'.map (·.1) = kvs.map (·.1) ∧ Reps K F (kvs.map (·.2)) (kvs'.map (·.2))
theorem KRep.cons {F : Hp} {p : Key × D} {kvs : List (Key × D)} {l : List (Key × V)} (h : KRep K F (p :: kvs) l) : ∃ q l', l = q :: l' ∧ q.1 = p.1 ∧ Rep K F p.2 q.2 ∧ KRep K F kvs l' := by
  obtain ⟨h1, h2⟩ := h
  cases l with
  | nil => simp at h1
  | cons q l' =>
    rw [List.map_cons, List.map_cons] at h1
    obtain ⟨v, r, e, rv, rr⟩ := h2
    rw [List.map_cons] at e
    obtain ⟨e1, e2⟩ := List.cons.inj e
    obtain ⟨e3, e4⟩ := List.cons.inj h1
    exact ⟨q, l', rfl, e3, by rw [e1]; exact rv, e4, by rw [e2]; exact rr⟩
theorem KRep.mk {F : Hp} {p : Key × D} {q : Key × V} {kvs : List (Key × D)} {l : List (Key × V)} (e : q.1 = p.1) (r : Rep K F p.2 q.2) (h : KRep K F kvs l) : KRep K F (p :: kvs) (q :: l) :=
  ⟨by rw [List.map_cons, List.map_cons, e, h.1], ⟨_, _, rfl, r, h.2⟩⟩
theorem KRep.nil {F : Hp} {l : List (Key × V)} (h : KRep K F [] l) : l = [] := by
  have := h.1; simpa using this
theorem KRep.get {F : Hp} {k : Key} : ∀ {kvs : List (Key × D)} {l : List (Key × V)}, KRep K F kvs l → (∃ d v, vget kvs k = some d ∧ valV l k = some v ∧ Rep K F d v) ∨ (vget kvs k = none ∧ valV l k = none)
  | [], l, h => by rw [h.nil]; exact .inr ⟨rfl, rfl⟩
  | p :: kvs, l, h => by
    obtain ⟨q, l', rfl, e, r, h'⟩ := h.cons
    by_cases hk : p.1 = k
    · exact .inl ⟨p.2, q.2, by simp [vget, hk], by simp [valV, e, hk], r⟩
    · rcases h'.get (k := k) with ⟨d, v, h1, h2, h3⟩ | ⟨h1, h2⟩
      · exact .inl ⟨d, v, by simpa [vget, List.find?_cons, hk] using h1, by simpa [valV, List.find?_cons, e, hk] using h2, h3⟩
      · exact .inr ⟨by simpa [vget, List.find?_cons, hk] using h1, by simpa [valV, List.find?_cons, e, hk] using h2⟩
theorem KRep.any {F : Hp} {k : Key} : ∀ {kvs : List (Key × D)} {l : List (Key × V)}, KRep K F kvs l → (l.any fun kv => decide (kv.1 = k)) = (kvs.any fun kv => decide (kv.1 = k))
  | [], l, h => by rw [h.nil]; rfl
  | p :: kvs, l, h => by
    obtain ⟨q, l', rfl, e, r, h'⟩ := h.cons
    rw [List.any_cons, List.any_cons, e, h'.any]
theorem KRep.app {F : Hp} {k : Key} {d : D} {v : V} (r : Rep K F d v) : ∀ {kvs : List (Key × D)} {l : List (Key × V)}, KRep K F kvs l → KRep K F (kvs ++ [(k, d)]) (l ++ [(k, v)])
  | [], l, h => by rw [h.nil]; exact KRep.mk rfl r ⟨rfl, rfl⟩
  | p :: kvs, l, h => by
    obtain ⟨q, l', rfl, e, r', h'⟩ := h.cons
    exact KRep.mk e r' (KRep.app r h')
theorem KRep.map {F : Hp} {k : Key} {d : D} {v : V} (r : Rep K F d v) : ∀ {kvs : List (Key × D)} {l : List (Key × V)}, KRep K F kvs l → KRep K F (kvs.map fun kv => if kv.1 = k then (kv.1, d) else kv) (l.map fun kv => if kv.1 = k then (kv.1, v) else kv)
  | [], l, h => by rw [h.nil]; exact ⟨rfl, rfl⟩
  | p :: kvs, l, h => by
    obtain ⟨q, l', rfl, e, r', h'⟩ := h.cons
    rw [List.map_cons, List.map_cons]
    by_cases hk : p.1 = k
    · rw [if_pos hk, if_pos (e.trans hk)]; exact KRep.mk e r (KRep.map r h')
    · rw [if_neg hk, if_neg (fun z => hk (e.symm.trans z))]; exact KRep.mk e r' (KRep.map r h')
theorem KRep.put {F : Hp} {k : Key} {d : D} {v : V} {kvs : List (Key × D)} {l : List (Key × V)} (r : Rep K F d v) (h : KRep K F kvs l) : KRep K F (vput kvs k d) (putK l k v) := by
  unfold vput putK
  rw [h.any (k := k)]
  split
  · exact KRep.map r h
  · exact KRep.app r h
theorem KRep.drop {F : Hp} {k : Key} : ∀ {kvs : List (Key × D)} {l : List (Key × V)}, KRep K F kvs l → KRep K F (vdrop kvs k) (dropK l k)
  | [], l, h => by rw [h.nil]; exact ⟨rfl, rfl⟩
  | p :: kvs, l, h => by
    obtain ⟨q, l', rfl, e, r', h'⟩ := h.cons
    unfold vdrop dropK
    by_cases hk : p.1 = k
    · rw [List.filter_cons_of_neg (by simp [hk]), List.filter_cons_of_neg (by simp [e, hk])]; exact KRep.drop h'
    · rw [List.filter_cons_of_pos (by simp [hk]), List.filter_cons_of_pos (by simp [e, hk])]; exact KRep.mk e r' (KRep.drop h')
theorem KRep.len {F : Hp} {kvs : List (Key × D)} {l : List (Key × V)} (h : KRep K F kvs l) : l.length = kvs.length := by
  have := congrArg List.length h.1; simpa using this
def wDict0 : W := fun ρ P => P (.od []) ρ
theorem de_dict0 : DE K X Z (.Dict [] [] pos) tDNewK wDict0 := ⟨pe_dnewK, fun {H0 F0 F H ρ σ Q P} zo rl h k d n => (rl.kont (Same.refl _) k).newD rl.fh h rfl rfl n⟩
def asDic (d : D) (P : List (Key × D) → Prop) : Prop := match d with
  | .dic ks xs => P (ks.zip xs)
  | _ => False
theorem asDic_of {F : Hp} {d : D} {v : V} {P : List (Key × D) → Prop} (h : asDic d P) (r : Rep K F d v) : ∃ a kvs l, v = .ref a ∧ Rd F a (.dK l) ∧ KRep K F kvs l ∧ P kvs := by
  cases d <;> first | exact h.elim | skip
  rename_i ks xs
  obtain ⟨a, vs, e, h1, hl, h2⟩ := r
  have hx : vs.length = xs.length := h2.len
  refine ⟨a, ks.zip xs, _, e, h1, ⟨?_, ?_⟩, h⟩
  · rw [List.map_fst_zip (by omega), List.map_fst_zip (by omega)]
  · rw [List.map_snd_zip (by omega), List.map_snd_zip (by omega)]; exact h2
def wDGet2 (wd wk wx : W) : W := fun ρ P => wd ρ fun s ρ1 => asDic s.fz fun kvs => wk ρ1 fun k ρ2 => wx ρ2 fun x ρ3 => asKey k.fz fun k => P (.d ((vget kvs k).getD x.fz)) ρ3
end
end DL
namespace DL
open PySem L2
section
variable {K : PySem.W.Frag} {X : Cx} {Z : Zx} {pos p p2 pos' apos cpos : Pos} {a b e o : Expr} {ta tb te to : TE} {wa wb we wo : W} {i : Nat}
def wJoin (wo we : W) : W := fun ρ P => wo ρ fun s ρ1 => asS s.fz fun a => we ρ1 fun x ρ2 => asSq x.fz fun xs => asA (txts xs) fun ss => (ss.map (·.length)).sum + ss.length * a.length ≤ 16777216 ∧ P (.d (.str (Txt.join a ss))) ρ2
abbrev qJoin (K : PySem.W.Frag) : V → List V → Hp → VK → Prop := fun x xs H Q => ∃ a p, ∃ ys : List Str, x = .str a ∧ xs = [.ref p] ∧ (SqL K H p (ys.map V.str) ∨ SqT K H p (ys.map V.str)) ∧
      (ys.map (·.length)).sum + ys.length * a.length ≤ 16777216 ∧ Q (.str (Txt.join a ys)) H
theorem run_join (ho : RunE K Z to wo) (he : RunE K Z te we) : RunE K Z (tM1 (qJoin K) to te) (wJoin wo we) := fun {H0 F0 F H ρ σ Q P} zo rl h k => ho zo rl h fun s1 ρ1 F1 H1 v1 h1 f1 r1 sr1 fr1 => by
  obtain ⟨F2, f2, r2, rp2⟩ := r1.freeze sr1 fr1
  obtain ⟨z, rfl, h1⟩ := asS_of h1 rp2
  refine ⟨⟨z, rfl⟩, he zo r2 h1 fun s3 ρ3 F3 H3 v3 h3 f3 r3 sr3 fr3 => ?_⟩
  obtain ⟨F4, f4, r4, rp4⟩ := r3.freeze sr3 fr3
  obtain ⟨a, vs, xs, rfl, hs, hr, h3⟩ := asSq_of h3 rp4
  obtain ⟨ss, es, hb, h3⟩ := asA_of h3
  have q := txts_of es hr
  subst q
  exact ⟨z, a, ss, rfl, rfl, sq_same r4.fh hs, hb, k (.d (.str _)) _ F4 _ _ h3 (f1.trans (f2.trans (f3.trans f4))) r4 rfl fun w => nomatch w⟩
theorem de_join (ho : DE K X Z o to wo) (he : DE K X Z e te we) (hs : starEach [e] X.env = [(false, eval e X.env)] := by rfl) (hbase : attributeBase o "join" X.env (eval o X.env) = eval o X.env := by rfl) (hline : (apos.endLine == pos.line) = true := by rfl) (hK : X.K = K := by rfl) :
    DE K X Z (.Call (.Attribute o "join" apos) [e] [] pos) (tM1 (qJoin K) to te) (wJoin wo we) := by
  subst hK
  exact ⟨pe_join ho.pe he.pe hs hbase hline, run_join ho.run he.run⟩
def asLT (d : D) (P : List D → Prop) : Prop := match d with
  | .lst xs => P xs
  | _ => False
theorem asLT_of {F : Hp} {d : D} {v : V} {P : List D → Prop} (h : asLT d P) (r : Rep K F d v) : ∃ a vs xs, v = .ref a ∧ F a = some (.lst vs) ∧ Reps K F xs vs ∧ P xs := by
  cases d <;> first | exact h.elim | (obtain ⟨a, vs, e, h1, h2⟩ := r; exact ⟨a, vs, _, e, h1, h2, h⟩)
def oCatL : O2 := fun x y P => asLT x fun xs => asLT y fun ys => xs.length + ys.length ≤ sizeLine ∧ P (.ol (xs ++ ys))
theorem snd_catL : Snd2 K rCat oCatL := ⟨fun {F H x y vx vy P Q} fh rx ry h k => by
  obtain ⟨a, vs, xs, rfl, h1, h2, h⟩ := asLT_of h rx
  obtain ⟨b, us, ys, rfl, h3, h4, h⟩ := asLT_of h ry
  exact ⟨a, b, vs, us, rfl, rfl, fh _ _ h1, fh _ _ h3, by rw [h2.len, h4.len]; exact h.1, fun l n => k.newL fh h.2 (h2.app h4) n⟩⟩
def oCatT : O2 := fun x y P => asT x fun xs => asT y fun ys => xs.length + ys.length ≤ sizeLine ∧ P (.d (.tup (xs ++ ys)))
mutual
def pyd : D → Option PyData
  | .non => some .none
  | .bl b => some (.bool b)
  | .int i => some (.int i)
  | .str x => some (.str x)
  | .cel ns => some (.list (ns.map .int))
  | .lst xs => (pyds xs).map .list
  | .tup xs => (pyds xs).map .tuple
  | _ => none
def pyds : List D → Option (List PyData)
  | [] => some []
  | x :: xs => (pyd x).bind fun a => (pyds xs).map (a :: ·)
end
theorem dps_ints {F : Hp} : ∀ ns : List Int, DpAll K F (ns.map V.int) (ns.map PyData.int)
  | [] => .nil
  | n :: ns => .cons (.int n) (dps_ints ns)
mutual
theorem pyd_ok {F : Hp} : ∀ (d : D) (v : V) (q : PyData), pyd d = some q → Rep K F d v → Dp K F v q
  | .non, _, _, h, r => by cases h; cases (show _ = V.non from r); exact .non
  | .bl b, _, _, h, r => by cases h; cases (show _ = V.bl b from r); exact .bl b
  | .int b, _, _, h, r => by cases h; cases (show _ = V.int b from r); exact .int b
  | .str b, _, _, h, r => by cases h; cases (show _ = V.str b from r); exact .str b
  | .cel ns, _, _, h, r => by
    cases h
    obtain ⟨a, rfl, s⟩ := r
    exact .lst s (dps_ints ns)
  | .lst xs, _, q, h, r => by
    obtain ⟨a, vs, rfl, s, rs⟩ := r
    rw [pyd] at h
    cases e : pyds xs with
    | none => rw [e] at h; cases h
    | some qs => rw [e] at h; cases h; exact .lst (SqL.of s) (pyds_ok xs vs qs e rs)
  | .tup xs, _, q, h, r => by
    obtain ⟨a, vs, rfl, s, rs⟩ := r
    rw [pyd] at h
    cases e : pyds xs with
    | none => rw [e] at h; cases h
    | some qs => rw [e] at h; cases h; exact .tup s (pyds_ok xs vs qs e rs)
  | .ref _, _, _, h, _ => by cases h
  | .ty _, _, _, h, _ => by cases h
  | .dic _ _, _, _, h, _ => by cases h
  | .ins _ _ _, _, _, h, _ => by cases h
theorem pyds_ok {F : Hp} : ∀ (ds : List D) (vs : List V) (qs : List PyData), pyds ds = some qs → Reps K F ds vs → DpAll K F vs qs
  | [], _, _, h, r => by cases h; cases (show _ = [] from r); exact .nil
  | x :: xs, _, qs, h, r => by
    obtain ⟨v, vs, rfl, rv, rs⟩ := r
    rw [pyds] at h
    cases e : pyd x with
    | none => rw [e] at h; cases h
    | some q =>
      rw [e] at h
      cases e2 : pyds xs with
      | none => rw [e2] at h; cases h
      | some qs' => rw [e2] at h; cases h; exact .cons (pyd_ok x v q e rv) (pyds_ok xs vs qs' e2 rs)
end
theorem Dp.same' {F H : Hp} (fh : Same F H) {d : D} {v : V} {q : PyData} (e : pyd d = some q) (r : Rep K F d v) : Dp K H v q := pyd_ok d v q e (Rep.mono fh _ _ r)
def oEqD (neg : Bool) : O2 := fun x y P => asA (pyd x) fun q => asA (pyd y) fun r => SeqAt.shaped q = true ∧ SeqAt.shaped r = true ∧ P (.d (.bl (if neg then !PyData.eqv q r else PyData.eqv q r)))
theorem snd_eqD : Snd2 K (rEqD K) (oEqD false) := ⟨fun {F H x y vx vy P Q} fh rx ry h k => by
  obtain ⟨q, e1, h⟩ := asA_of h
  obtain ⟨r, e2, h⟩ := asA_of h
  exact ⟨q, r, Dp.same' fh e1 rx, Dp.same' fh e2 ry, h.1, h.2.1, k.flat (d := .bl _) fh h.2.2 rfl⟩⟩
theorem snd_neD : Snd2 K (rNeD K) (oEqD true) := ⟨fun {F H x y vx vy P Q} fh rx ry h k => by
  obtain ⟨q, e1, h⟩ := asA_of h
  obtain ⟨r, e2, h⟩ := asA_of h
  exact ⟨q, r, Dp.same' fh e1 rx, Dp.same' fh e2 ry, h.1, h.2.1, k.flat (d := .bl _) fh h.2.2 rfl⟩⟩
def oPopAt : List D → List D → (S → List D → Prop) → Prop := fun xs ds P => match ds with
  | [.int i] => (-(2 ^ 63) ≤ i ∧ i < 2 ^ 63) ∧ asA (seqIndex? i xs.length) fun k => asA xs[k]? fun d => P (.d d) (xs.eraseIdx k)
  | _ => False
theorem Reps.eraseIdx {F : Hp} {xs : List D} {vs : List V} (k : Nat) (h : Reps K F xs vs) : Reps K F (xs.eraseIdx k) (vs.eraseIdx k) := by
  rw [List.eraseIdx_eq_take_drop_succ, List.eraseIdx_eq_take_drop_succ]
  exact (h.take k).app (h.drop (k + 1))
theorem snd_popAt : SndM K rPopAt oPopAt := ⟨fun {F H l vs us xs ds P Q} fh hl n rx rd h k => by
  unfold oPopAt at h
  split at h
  · obtain ⟨v, _, rfl, rfl, rfl⟩ := rd
    obtain ⟨⟨h1, h2⟩, h⟩ := h
    obtain ⟨j, ej, h⟩ := asA_of h
    obtain ⟨d, ed, h⟩ := asA_of h
    obtain ⟨v, ev, rv⟩ := rx.get ed
    exact ⟨l, vs, _, j, v, rfl, rfl, hl, h1, h2, by rw [rx.len]; exact ej, ev, k _ _ _ _ h rv (rx.eraseIdx j)⟩
  · exact h.elim⟩
theorem de_popAt (i : Nat) {x : Str} (ha : DE K X Z e te we) (hN : X.N[i]? = some x := by rfl) (hv : Vis X.env.scope x := by first | exact Or.inl rfl | exact Or.inr (Or.inl rfl) | exact Or.inr (Or.inr rfl)) (hd : (x == ("__debug__" : Str)) = false := by decide)
    (hcd : (x == ("__classdict__" : Str)) = false := by decide) (hs : starEach [e] X.env = [(false, eval e X.env)] := by rfl)
    (hbase : attributeBase (.Name x p) "pop" X.env (eval (.Name x p) X.env) = eval (.Name x p) X.env := by rfl)
    (hfew : ((backTo cpos (starEach [e] X.env)).all (fun x => !x.1) && (backToKw cpos (keywordEach [] X.env)).all (fun x => x.1.isSome)
      && decide (([e] : List Expr).length + ([] : List Keyword).length + (if ([] : List Keyword).isEmpty then 0 else 1) < 30)) = true := by rfl)
    (hline : (apos.endLine == cpos.line) = true := by rfl) (hK : X.K = K := by rfl) :
    DE K X Z (.Call (.Attribute (.Name x p) "pop" apos) [e] [] cpos) (tBM K "list" rPopAt (tVar i) (tCons te tNil)) (wM i oPopAt (wCons we wNil)) := by
  subst hK
  exact ⟨pe_bm PySem.F.plainAttrs_list PySem.F.slot_list_pop PySem.F.type_list_pop mt_popAt (pe_var hN hv hd hcd) (pa_cons ha.pe pa_nil hs) hbase hfew hline hs rfl, run_M rfl (da_cons ha (da_nil (X := X) (Z := Z)) hs).run snd_popAt⟩
def wDPut (i : Nat) (wk wv : W) : WS := fun DD ρ => wv ρ fun v ρ1 => asOD (nth ρ1 i) fun _ => wk ρ1 fun k ρ2 => asOD (nth ρ2 i) fun kvs => asKey k.fz fun k => kvs.length < sizeLine ∧ DD.nx (put ρ2 i (some (.od (vput kvs k v.fz))))
theorem Rel.dict {H0 F0 F H : Hp} {ρ : R} {σ : St} {kvs : List (Key × D)} (r : Rel K H0 F0 F H ρ σ) (e : nth ρ i = some (.od kvs)) :
    ∃ a l, σ[i]? = some (some (.ref a)) ∧ H a = some (.dK l) ∧ KRep K F kvs l ∧ H0 a = none ∧ F a = none := by
  obtain ⟨v, ev, a, l, rfl, hl, hk, rr, n0, n1⟩ := r.at_ i _ (nth_some e)
  exact ⟨a, l, ev, hl, ⟨hk, rr⟩, n0, n1⟩
theorem Rel.dictPut {H0 F0 F H : Hp} {ρ : R} {σ : St} {kvs kvs' : List (Key × D)} {a : Addr} {l' : List (Key × V)} (r : Rel K H0 F0 F H ρ σ) (e : nth ρ i = some (.od kvs)) (ev : σ[i]? = some (some (.ref a))) (n0 : H0 a = none) (n1 : F a = none) (kr : KRep K F kvs' l') :
    Rel K H0 F0 F (upd H a (.dK l')) (put ρ i (some (.od kvs'))) σ := by
  rw [put_eq]
  exact r.write (nth_some e) rfl ev ⟨a, l', rfl, upd_same, kr.1, kr.2, n0, n1⟩ rfl
theorem run_dput {tk tv : TE} {wk wv : W} (hk : RunE K Z tk wk) (hv : RunE K Z tv wv) : RunS K Z (sDPut (tVar i) tk tv) (wDPut i wk wv) := fun {H0 F0 F H ρ σ DD Dh} zo rl ee h => hv zo rl h fun s1 ρ1 F1 H1 v1 h1 f1 r1 sr1 fr1 => by
  obtain ⟨F2, f2, r2, rp2⟩ := r1.freeze sr1 fr1
  obtain ⟨kvs0, e0, h1⟩ := asOD_of h1
  obtain ⟨a, l0, ev, _⟩ := r2.dict e0
  refine ⟨.ref a, ev, hk zo r2 h1 fun s3 ρ3 F3 H3 v3 h3 f3 r3 sr3 fr3 => ?_⟩
  obtain ⟨F4, f4, r4, rp4⟩ := r3.freeze sr3 fr3
  obtain ⟨kvs, e1, h3⟩ := asOD_of h3
  obtain ⟨key, rfl, hl, h3⟩ := asKey_of h3 rp4
  obtain ⟨a', l, ev', hd, kr, n0, n1⟩ := r4.dict e1
  rw [ev] at ev'; cases ev'
  exact ⟨a, _, rfl, DPut.k hd (by rw [kr.len]; exact hl), ee.nx _ _ _ _ h3 (f1.trans (f2.trans (f3.trans f4))) (r4.dictPut e1 ev n0 n1 (KRep.put (Rep.mono (f3.trans f4) _ _ rp2) kr))⟩
theorem ds_dput {tk tv : TE} {wk wv : W} {k value : Expr} {x : Str} (i : Nat) (hu : X.A.units + 1 < cLine) (hk : DE K X Z k tk wk) (hv : DE K X Z value tv wv) (hN : X.N[i]? = some x := by rfl) (hvi : Vis X.env.scope x := by first | exact Or.inl rfl | exact Or.inr (Or.inl rfl) | exact Or.inr (Or.inr rfl)) (hd : (x == ("__debug__" : Str)) = false := by decide)
    (hcd : (x == ("__classdict__" : Str)) = false := by decide) (hs : swapsWith value (some (.Subscript (.Name x p) k pos')) pos.line X.env = pure false := by rfl) :
    DS K X Z (.Assign [.Subscript (.Name x p) k pos'] value pos) (sDPut (tVar i) tk tv) (wDPut i wk wv) := ⟨ps_dput hu (pe_var hN hvi hd hcd) hk.pe hv.pe hs, run_dput hk.run hv.run⟩
def wDPop (i : Nat) (wk : W) : W := fun ρ P => asOD (nth ρ i) fun _ => wk ρ fun k ρ1 => asOD (nth ρ1 i) fun kvs => asKey k.fz fun k => asA (vget kvs k) fun d => P (.d d) (put ρ1 i (some (.od (vdrop kvs k))))
theorem run_dpop {tk : TE} {wk : W} (hk : RunE K Z tk wk) : RunE K Z (tDPop1 (tVar i) tk) (wDPop i wk) := fun {H0 F0 F H ρ σ Q P} zo rl h k => by
  obtain ⟨kvs0, e0, h⟩ := asOD_of h
  obtain ⟨a, l0, ev, hd0, _⟩ := rl.dict e0
  refine ⟨.ref a, ev, a, rfl, .inl ⟨l0, .inl hd0⟩, hk zo rl h fun s3 ρ3 F3 H3 v3 h3 f3 r3 sr3 fr3 => ?_⟩
  obtain ⟨F4, f4, r4, rp4⟩ := r3.freeze sr3 fr3
  obtain ⟨kvs, e1, h3⟩ := asOD_of h3
  obtain ⟨key, rfl, h3⟩ := asKey_of h3 rp4
  obtain ⟨d, e, h3⟩ := asA_of h3
  obtain ⟨a', l, ev', hd, kr, n0, n1⟩ := r4.dict e1
  rw [ev] at ev'; cases ev'
  rcases kr.get (k := key) with ⟨d', v, g1, g2, g3⟩ | ⟨g1, g2⟩
  · rw [e] at g1; cases g1
    exact ⟨l, key, v, hd, rfl, g2, k _ _ F4 _ _ h3 (f3.trans f4) (r4.dictPut e1 ev n0 n1 kr.drop) g3 fun w => nomatch w⟩
  · rw [e] at g1; cases g1
theorem de_dpop {tk : TE} {wk : W} {k : Expr} {x : Str} (i : Nat) (hk : DE K X Z k tk wk) (m : M1 X (.Name x p) "pop" apos k cpos) (hN : X.N[i]? = some x := by rfl) (hvi : Vis X.env.scope x := by first | exact Or.inl rfl | exact Or.inr (Or.inl rfl) | exact Or.inr (Or.inr rfl)) (hd : (x == ("__debug__" : Str)) = false := by decide)
    (hcd : (x == ("__classdict__" : Str)) = false := by decide) :
    DE K X Z (.Call (.Attribute (.Name x p) "pop" apos) [k] [] cpos) (tDPop1 (tVar i) tk) (wDPop i wk) := ⟨pe_dpop1 (pe_var hN hvi hd hcd) hk.pe m, run_dpop hk.run⟩
def txtKeys : List Key → Option (List Str)
  | [] => some []
  | .inr x :: r => (txtKeys r).map (x :: ·)
  | _ => none
theorem txtKeys_map : ∀ bs : List Str, txtKeys (bs.map Sum.inr) = some bs
  | [] => rfl
  | b :: bs => by rw [List.map_cons, txtKeys, txtKeys_map bs]; rfl
theorem txtKeys_of : ∀ {ks : List Key} {bs : List Str}, txtKeys ks = some bs → ks = bs.map Sum.inr
  | [], bs, e => by cases e; rfl
  | .inl _ :: _, bs, e => by cases e
  | .inr x :: r, bs, e => by
    rw [txtKeys] at e
    cases q : txtKeys r with
    | none => rw [q] at e; cases e
    | some cs => rw [q] at e; cases e; rw [txtKeys_of q]; rfl
def wSortK (we : W) : W := fun ρ P => we ρ fun s ρ1 => asDic s.fz fun kvs => asA (txtKeys (kvs.map (·.1))) fun ks => P (.ol ((srt ks).map .str)) ρ1
theorem run_sortK (he : RunE K Z te we) : RunE K Z (tCB rSortK (tCons (tKeys te) tNil)) (wSortK we) := fun {H0 F0 F H ρ σ Q P} zo rl h k => he zo rl h fun s1 ρ1 F1 H1 v1 h1 f1 r1 sr1 fr1 => by
  obtain ⟨F2, f2, r2, rp2⟩ := r1.freeze sr1 fr1
  obtain ⟨a, kvs, l, rfl, hl, kr, h1⟩ := asDic_of h1 rp2
  obtain ⟨ks, ek, h1⟩ := asA_of h1
  refine ⟨a, l, rfl, Same.rd r2.fh hl, fun p n => ?_⟩
  have hh : Same H1 (upd H1 p (KVo p a)) := Same.new n
  refine ⟨p, a, l, ks, rfl, upd_same, Same.rd hh (Same.rd r2.fh hl), by rw [kr.1]; exact txtKeys_of ek, fun ys q hp hs hq => ?_⟩
  have r3 : Rel K H0 F0 F2 (upd H1 p (KVo p a)) ρ1 σ := r2.grow hh
  have e : ys = srt ks := srt_eq hp hs
  subst e
  exact (Rel.kont r3 (f1.trans f2) k).newL r3.fh h1 (Reps.strs.mpr rfl) hq
theorem de_sortK (hc : X.calm = true) (m : X.mg "sorted" = none) (he : DE K X Z e te we) (hg : Gl X "sorted" := by rfl) (hbase : attributeBase e "keys" X.env (eval e X.env) = eval e X.env := by rfl) (hline : (apos.endLine == cpos.line) = true := by rfl)
    (hs : starEach [Expr.Call (.Attribute e "keys" apos) [] [] cpos] X.env = [(false, eval (Expr.Call (.Attribute e "keys" apos) [] [] cpos) X.env)] := by rfl) :
    DE K X Z (.Call (.Name "sorted" p) [.Call (.Attribute e "keys" apos) [] [] cpos] [] pos) (tCB rSortK (tCons (tKeys te) tNil)) (wSortK we) :=
  ⟨pe_callB (cr_sortK hc) hg m (by decide +kernel) (pa_cons (pe_keys he.pe hbase hline) pa_nil hs) (hn := by decide) (hdb := by decide) (he := hs) (hpl := rfl), run_sortK he.run⟩
def enumD (i : Nat) : List D → List D
  | [] => []
  | x :: xs => .tup [.int i, x] :: enumD (i + 1) xs
theorem enumD_len : ∀ (xs : List D) (i : Nat), (enumD i xs).length = xs.length
  | [], _ => rfl
  | _ :: xs, i => congrArg Nat.succ (enumD_len xs (i + 1))
theorem enumD_get : ∀ (xs : List D) (i j : Nat) (d : D), xs[j]? = some d → (enumD i xs)[j]? = some (.tup [.int ((i + j : Nat) : Int), d])
  | [], _, _, _, e => by simp at e
  | x :: xs, i, 0, d, e => by simp at e; subst e; rfl
  | x :: xs, i, j + 1, d, e => by
    have := enumD_get xs (i + 1) j d (by simpa using e)
    rw [show i + 1 + j = i + (j + 1) by omega] at this
    simpa [enumD] using this
end
end DL
namespace DL
open PySem L2
section
variable {K : PySem.W.Frag}
theorem Snd2.inl {r r' : R2} {o : O2} (h : Snd2 K r o) : Snd2 K (fun x y H Q => r x y H Q ∨ r' x y H Q) o := ⟨fun a b c d e => .inl (h.run a b c d e)⟩
theorem Snd2.inr {r r' : R2} {o : O2} (h : Snd2 K r' o) : Snd2 K (fun x y H Q => r x y H Q ∨ r' x y H Q) o := ⟨fun a b c d e => .inr (h.run a b c d e)⟩
theorem snd_catT : Snd2 K (rCatA K) oCatT := ⟨fun {F H x y vx vy P Q} fh rx ry h k => by
  obtain ⟨a, vs, xs, rfl, h1, h2, h⟩ := asT_of h rx
  obtain ⟨b, us, ys, rfl, h3, h4, h⟩ := asT_of h ry
  have e1 := h2.len
  have e2 := h4.len
  refine ⟨a, b, vs, us, rfl, rfl, Same.sqT fh h1, Same.sqT fh h3, by rw [e1, e2]; exact h.1, fun z => ?_, fun _ z => ?_, fun _ _ p n => k.newT fh h.2 (h2.app h4) n⟩
  · subst z
    obtain rfl : xs = [] := List.length_eq_zero_iff.mp e1.symm
    exact k.flat fh h.2 ⟨b, us, rfl, h3, h4⟩
  · subst z
    obtain rfl : ys = [] := List.length_eq_zero_iff.mp e2.symm
    have := h.2
    rw [List.append_nil] at this
    exact k.flat fh this ⟨a, vs, rfl, h1, h2⟩⟩
def oPlus : O2 := fun x y P => match x, y with
  | .int i, .int j => P (.d (.int (i + j)))
  | .str i, .str j => i.length + j.length ≤ sizeLine ∧ P (.d (.str (i ++ j)))
  | .lst xs, .lst ys => xs.length + ys.length ≤ sizeLine ∧ P (.ol (xs ++ ys))
  | .tup xs, .tup ys => xs.length + ys.length ≤ sizeLine ∧ P (.d (.tup (xs ++ ys)))
  | _, _ => False
abbrev rPlus (K : PySem.W.Frag) : R2 := fun x y H Q => qAdd x y H Q ∨ qAddS x y H Q ∨ rCat x y H Q ∨ rCatA K x y H Q
theorem op_plus {X : Cx} : OpR X (binaryOp .Add) (rPlus X.K) := op_add.or (op_add_str.or (op_cat.or op_catA))
theorem snd_plus : Snd2 K (rPlus K) oPlus := ⟨fun {F H x y vx vy P Q} fh rx ry h k => by
  unfold oPlus at h
  split at h
  · exact .inl (snd_add.run fh rx ry (by exact h) k)
  · exact .inr (.inl (snd_catS.run fh rx ry (by exact h) k))
  · exact .inr (.inr (.inl (snd_catL.run fh rx ry (by exact h) k)))
  · exact .inr (.inr (.inr (snd_catT.run fh rx ry (by exact h) k)))
  · exact h.elim⟩
def flatD : D → Bool
  | .non => true | .bl _ => true | .int _ => true | .str _ => true
  | _ => false
def SameV (K : PySem.W.Frag) (H : Hp) (v u : V) : Prop := (v = u ∧ flatB v = true) ∨ ∃ q r, Dp K H v q ∧ Dp K H u r ∧ (q.canLay0 = true ∧ r.canLay0 = true ∧ q.depth ≤ 60) ∧ PyData.eqv q r = true
def rEqDR (K : PySem.W.Frag) : R2 := fun x y H Q => ∃ a b ks ls, x = .ref a ∧ y = .ref b ∧ Rd H a (.dK ks) ∧ Rd H b (.dK ls) ∧ ks.length = ls.length ∧ (∀ p ∈ ks, ∃ u, valV ls p.1 = some u ∧ SameV K H p.2 u) ∧ Q (.bl true) H
def rNeDR (K : PySem.W.Frag) : R2 := fun x y H Q => ∃ a b ks ls, x = .ref a ∧ y = .ref b ∧ Rd H a (.dK ks) ∧ Rd H b (.dK ls) ∧ ks.length = ls.length ∧ (∀ p ∈ ks, ∃ u, valV ls p.1 = some u ∧ SameV K H p.2 u) ∧ Q (.bl false) H
theorem hits_same {X : Cx} {pins : List (Addr × Obj)} {σ : St} {H : Hp} {s : Shared} {A : Around} (I : Inv X pins σ H s) (hu : A.units + 60 < cLine) {kvs : List (Key × V)} {vb : List (Key × Value)} (rb : KV kvs vb) {ks : List (Key × V)} {va : List (Key × Value)} (ra : KV ks va) :
    (∀ p ∈ ks, ∃ u, valV kvs p.1 = some u ∧ SameV X.K H p.2 u) → PySem.W.KeqHits A s vb va true := by
  unfold KV at ra
  induction ra with
  | nil => intro _; exact .nil
  | @cons p q ps qs h t ih =>
    intro hp
    obtain ⟨h1, h2⟩ := h
    obtain ⟨w, e, f⟩ := hp p List.mem_cons_self
    have rr : RelO (some w) (valueAt vb p.1) := by rw [← e]; exact rb.val p.1
    obtain ⟨y, hy, ry⟩ := rr.some_of
    obtain ⟨k, v⟩ := q
    have h1' : p.1 = k := h1
    rw [h1'] at hy
    show PySem.W.KeqHits A s vb ((k, v) :: qs) (true && true)
    refine .hit hy ?_ (ih fun p' hm => hp p' (List.mem_cons_of_mem _ hm))
    rcases f with ⟨rfl, f⟩ | ⟨d1, d2, g1, g2, ⟨g3, g4, g5⟩, g6⟩
    · exact eqAt_same h2 ry f
    · obtain ⟨as, r1⟩ := Dp.reads I d1 _ _ g1 h2
      obtain ⟨bs, r2⟩ := Dp.reads I d2 _ _ g2 ry
      have := SeqAt.eqAt_reads d1 d2 A s _ _ as bs r1 r2 g3 g4 (by have := Nat.min_le_left d1.depth d2.depth; omega)
      rw [g6] at this
      exact this
theorem op_eqDR {X : Cx} (hu : X.A.units + 64 < cLine) : OpR X (compareOp .Eq) (rEqDR X.K) := by
  intro pins s σ H x y v u Q I rx ry h
  obtain ⟨a, b, ks, ls, rfl, rfl, ea, eb, hlen, hp, q⟩ := h
  obtain rfl : v = Value.ref a := rx
  obtain rfl : u = Value.ref b := ry
  obtain ⟨_, ya, va, ra, da⟩ := dk_rd I.hok ea
  obtain ⟨_, yb, vb, rb, db⟩ := dk_rd I.hok eb
  have hl : va.length = vb.length := by rw [← ra.length, ← rb.length]; exact hlen
  exact PySem.W.keq_eq (knd := mixKind X.prog X.w) (r := true) ya yb da db (by omega) (fun _ => hits_same I (by show X.A.units + 1 + 60 < cLine; omega) rb ra hp) (fin_bl I q (by simp [hl]))
theorem op_neDR {X : Cx} (hu : X.A.units + 64 < cLine) : OpR X (compareOp .NotEq) (rNeDR X.K) := by
  intro pins s σ H x y v u Q I rx ry h
  obtain ⟨a, b, ks, ls, rfl, rfl, ea, eb, hlen, hp, q⟩ := h
  obtain rfl : v = Value.ref a := rx
  obtain rfl : u = Value.ref b := ry
  obtain ⟨_, ya, va, ra, da⟩ := dk_rd I.hok ea
  obtain ⟨_, yb, vb, rb, db⟩ := dk_rd I.hok eb
  have hl : va.length = vb.length := by rw [← ra.length, ← rb.length]; exact hlen
  exact PySem.W.keq_ne (knd := mixKind X.prog X.w) (r := true) ya yb da db (by omega) (fun _ => hits_same I (by show X.A.units + 1 + 60 < cLine; omega) rb ra hp) (fin_bl I q (by simp [hl]))
def SameD (d e : D) : Prop := (d = e ∧ flatD d = true) ∨ ∃ q r, pyd d = some q ∧ pyd e = some r ∧ (q.canLay0 = true ∧ r.canLay0 = true ∧ q.depth ≤ 60) ∧ PyData.eqv q r = true
def dicEq (kvs ls : List (Key × D)) : Prop := kvs.length = ls.length ∧ ∀ p ∈ kvs, ∃ u, vget ls p.1 = some u ∧ SameD p.2 u
def eqX (x y : D) (P : Bool → Prop) : Prop := match eqS x y with
  | some b => P b
  | none => match x, y with
    | .dic ks xs, .dic ls ys => dicEq (ks.zip xs) (ls.zip ys) ∧ P true
    | _, _ => asA (pyd x) fun q => asA (pyd y) fun r => SeqAt.shaped q = true ∧ SeqAt.shaped r = true ∧ P (PyData.eqv q r)
def oEqX : O2 := fun x y P => eqX x y fun b => P (.d (.bl b))
def oNeX : O2 := fun x y P => eqX x y fun b => P (.d (.bl (!b)))
abbrev rEqX (K : PySem.W.Frag) : R2 := fun x y H Q => rEq x y H Q ∨ rEqD K x y H Q ∨ rEqDR K x y H Q
abbrev rNeX (K : PySem.W.Frag) : R2 := fun x y H Q => rNe x y H Q ∨ rNeD K x y H Q ∨ rNeDR K x y H Q
theorem op_eqX {X : Cx} (hu : X.A.units + 64 < cLine) : OpR X (compareOp .Eq) (rEqX X.K) := op_eq.or ((op_eqD hu).or (op_eqDR hu))
theorem op_neX {X : Cx} (hu : X.A.units + 64 < cLine) : OpR X (compareOp .NotEq) (rNeX X.K) := op_ne.or ((op_neD hu).or (op_neDR hu))
theorem KRep.mem {F : Hp} {p : Key × V} : ∀ {kvs : List (Key × D)} {l : List (Key × V)}, KRep K F kvs l → p ∈ l → ∃ d, (p.1, d) ∈ kvs ∧ Rep K F d p.2
  | [], l, h, hp => by rw [h.nil] at hp; simp at hp
  | q :: kvs, l, h, hp => by
    obtain ⟨r, l', rfl, e, rr, h'⟩ := h.cons
    rcases List.mem_cons.mp hp with z | z
    · subst z; exact ⟨q.2, by rw [e]; exact List.mem_cons_self, rr⟩
    · obtain ⟨d, hd, rd⟩ := KRep.mem h' z
      exact ⟨d, List.mem_cons_of_mem _ hd, rd⟩
theorem flat_same {F : Hp} {d : D} {v u : V} (f : flatD d = true) (r1 : Rep K F d v) (r2 : Rep K F d u) : v = u ∧ flatB v = true := by
  cases d <;> first | (cases (show false = true from f)) | (cases (show v = _ from r1); cases (show u = _ from r2); exact ⟨rfl, rfl⟩)
theorem dicEq_ok {F H : Hp} {kvs ls : List (Key × D)} {l m : List (Key × V)} {a b : Addr} (fh : Same F H) (ha : Rd F a (.dK l)) (hb : Rd F b (.dK m)) (k1 : KRep K F kvs l) (k2 : KRep K F ls m) (h : dicEq kvs ls) :
    Rd H a (.dK l) ∧ Rd H b (.dK m) ∧ l.length = m.length ∧ ∀ p ∈ l, ∃ u, valV m p.1 = some u ∧ SameV K H p.2 u := by
  refine ⟨Same.rd fh ha, Same.rd fh hb, by rw [k1.len, k2.len]; exact h.1, fun p hp => ?_⟩
  obtain ⟨d, hd, rd⟩ := k1.mem hp
  obtain ⟨d2, h1, h2⟩ := h.2 _ hd
  rcases k2.get (k := p.1) with ⟨d', v, g1, g2, g3⟩ | ⟨g1, g2⟩
  · have e : d' = d2 := Option.some.inj (g1.symm.trans h1)
    subst e
    refine ⟨v, g2, ?_⟩
    rcases h2 with ⟨e1, e2⟩ | ⟨q, r, e1, e2, e3, e4⟩
    · have e1' : d = d' := e1
      subst e1'
      obtain ⟨e1, e2⟩ := flat_same e2 rd g3
      exact .inl ⟨e1, e2⟩
    · exact .inr ⟨q, r, pyd_ok d _ q e1 (Rep.mono fh _ _ rd), pyd_ok d' _ r e2 (Rep.mono fh _ _ g3), e3, e4⟩
  · rw [h1] at g1; cases g1
theorem snd_eqX : Snd2 K (rEqX K) oEqX := ⟨fun {F H x y vx vy P Q} fh rx ry h k => by
  unfold oEqX eqX at h
  split at h
  · rename_i b e
    obtain ⟨h1, h2⟩ := eqS_ok rx ry e
    exact .inl ⟨h1, by rw [h2]; exact k.flat (d := .bl b) fh h rfl⟩
  · split at h
    · obtain ⟨h1, h2⟩ := h
      obtain ⟨a, kvs, l, rfl, hl, kr, q⟩ := asDic_of (d := .dic _ _) (P := fun kvs => kvs = _) rfl rx
      obtain ⟨b, kvs2, m, rfl, hm, kr2, q2⟩ := asDic_of (d := .dic _ _) (P := fun kvs => kvs = _) rfl ry
      subst q; subst q2
      obtain ⟨g1, g2, g3, g4⟩ := dicEq_ok fh hl hm kr kr2 h1
      exact .inr (.inr ⟨a, b, l, m, rfl, rfl, g1, g2, g3, g4, k.flat (d := .bl true) fh h2 rfl⟩)
    · exact .inr (.inl (snd_eqD.run fh rx ry h k))⟩
theorem snd_neX : Snd2 K (rNeX K) oNeX := ⟨fun {F H x y vx vy P Q} fh rx ry h k => by
  unfold oNeX eqX at h
  split at h
  · rename_i b e
    obtain ⟨h1, h2⟩ := eqS_ok rx ry e
    exact .inl ⟨h1, by rw [h2]; exact k.flat (d := .bl (!b)) fh h rfl⟩
  · split at h
    · obtain ⟨h1, h2⟩ := h
      obtain ⟨a, kvs, l, rfl, hl, kr, q⟩ := asDic_of (d := .dic _ _) (P := fun kvs => kvs = _) rfl rx
      obtain ⟨b, kvs2, m, rfl, hm, kr2, q2⟩ := asDic_of (d := .dic _ _) (P := fun kvs => kvs = _) rfl ry
      subst q; subst q2
      obtain ⟨g1, g2, g3, g4⟩ := dicEq_ok fh hl hm kr kr2 h1
      exact .inr (.inr ⟨a, b, l, m, rfl, rfl, g1, g2, g3, g4, k.flat (d := .bl false) fh h2 rfl⟩)
    · exact .inr (.inl (snd_neD.run fh rx ry h k))⟩
def oCmp (ri : Int → Int → Bool) (rs : List Nat → List Nat → Bool) : O2 := fun x y P => match x, y with
  | .int i, .int j => P (.d (.bl (ri i j)))
  | .str i, .str j => P (.d (.bl (rs i.cps.toList j.cps.toList)))
  | _, _ => False
abbrev rCmp (ri : Int → Int → Bool) (rs : List Nat → List Nat → Bool) : R2 := fun x y H Q => rI0 (fun i j => .bl (ri i j)) x y H Q ∨ ∃ i j, x = .str i ∧ y = .str j ∧ Q (.bl (rs i.cps.toList j.cps.toList)) H
theorem snd_cmp {ri : Int → Int → Bool} {rs : List Nat → List Nat → Bool} : Snd2 K (rCmp ri rs) (oCmp ri rs) := ⟨fun {F H x y vx vy P Q} fh rx ry h k => by
  unfold oCmp at h
  split at h
  · cases (show vx = _ from rx); cases (show vy = _ from ry)
    exact .inl ⟨_, _, rfl, rfl, k.flat (d := .bl _) fh h rfl⟩
  · cases (show vx = _ from rx); cases (show vy = _ from ry)
    exact .inr ⟨_, _, rfl, rfl, k.flat (d := .bl _) fh h rfl⟩
  · exact h.elim⟩
abbrev oLtX : O2 := oCmp (fun i j => decide (i < j)) fun i j => decide (i < j)
abbrev oLeX : O2 := oCmp (fun i j => decide (i ≤ j)) fun i j => !decide (j < i)
abbrev oGtX : O2 := oCmp (fun i j => decide (j < i)) fun i j => decide (j < i)
abbrev oGeX : O2 := oCmp (fun i j => decide (j ≤ i)) fun i j => !decide (i < j)
abbrev rLtX : R2 := rCmp (fun i j => decide (i < j)) fun i j => decide (i < j)
abbrev rGtX : R2 := rCmp (fun i j => decide (j < i)) fun i j => decide (j < i)
abbrev rGeX : R2 := rCmp (fun i j => decide (j ≤ i)) fun i j => !decide (i < j)
theorem op_ltX {X : Cx} : OpR X (compareOp .Lt) rLtX := op_lt.or op_lt_str
theorem op_gtX {X : Cx} : OpR X (compareOp .Gt) rGtX := op_gt.or op_gt_str
theorem op_geX {X : Cx} : OpR X (compareOp .GtE) rGeX := op_ge.or op_ge_str
theorem ix_dict {X : Cx} (hu : X.A.units + 1 < cLine) : IxR X (fun x y H Q => ∃ a v, x = .ref a ∧ DGet H a y (some v) ∧ Q v H) := by
  intro value slice pins s σ H x y v u Q I rx ry h hs
  obtain ⟨a, z, rfl, g, q⟩ := h
  obtain rfl : v = Value.ref a := rx
  exact PyProof.Rows.tail_any (dict_typeIs I g) PySem.F.slot_dict_getitem.lookup (d_getItem hu I g ry fun w' s3 I3 rw' => ⟨z, H, I3, rw', q⟩) hs
def oIxX : O2 := fun x y P => match x, y with
  | .cel ns, .int i => asA (atI ns i) fun n => P (.d (.int n))
  | .lst xs, .int i => asA (atI xs i) fun d => P (.d d)
  | .tup xs, .int i => asA (atI xs i) fun d => P (.d d)
  | .str z, .int i => z.length ≤ sizeLine ∧ asA (atI z.cps.toList i) fun c => P (.d (.str ⟨#[c]⟩))
  | .dic ks xs, y => asKey y fun k => asA (vget (ks.zip xs) k) fun d => P (.d d)
  | _, _ => False
abbrev rIxX (K : PySem.W.Frag) : R2 := fun x y H Q => rIx K x y H Q ∨ ∃ a v, x = .ref a ∧ DGet H a y (some v) ∧ Q v H
theorem ix_X {X : Cx} (hu : X.A.units + 1 < cLine) : IxR X (rIxX X.K) := ix_seq.or (ix_dict hu)
theorem atI_map {α β : Type} (f : α → β) (xs : List α) (i : Int) : atI (xs.map f) i = (atI xs i).map f := by
  unfold atI
  rw [List.length_map]
  cases ixN xs.length i with
  | none => rfl
  | some j => simp [List.getElem?_map]
theorem snd_ixX : Snd2 K (rIxX K) oIxX := ⟨fun {F H x y vx vy P Q} fh rx ry h k => by
  unfold oIxX at h
  split at h
  · obtain ⟨n, e, h⟩ := asA_of h
    refine .inl (.inl (snd_ixL.run (P := P) fh rx ry ?_ k))
    show asA (atI _ _) _
    rw [atI_map, e]
    exact h
  · exact .inl (.inl (snd_ixL.run fh rx ry (by exact h) k))
  · exact .inl (.inr (.inl (snd_ixT.run fh rx ry (by exact h) k)))
  · exact .inl (.inr (.inr (snd_ixS.run fh rx ry (by exact h) k)))
  · obtain ⟨key, rfl, h⟩ := asKey_of h ry
    obtain ⟨d, e, h⟩ := asA_of h
    obtain ⟨a, kvs, l, rfl, hl, kr, h⟩ := asDic_of (d := .dic _ _) (P := fun kvs => kvs = _) rfl rx
    subst h
    rcases kr.get (k := key) with ⟨d', v, g1, g2, g3⟩ | ⟨g1, g2⟩
    · rw [e] at g1; cases g1
      exact .inr ⟨a, v, rfl, .inl ⟨l, key, (Same.rd fh hl), rfl, g2.symm⟩, k.flat fh (by assumption) g3⟩
    · rw [e] at g1; cases g1
  · exact h.elim⟩
def eqvD : D → D → Bool
  | .non, .non => true
  | .bl a, .bl b => a == b
  | .bl a, .int b => (if a then 1 else 0) == b
  | .int a, .bl b => a == (if b then 1 else 0)
  | .int a, .int b => a == b
  | .str a, .str b => a == b
  | _, _ => false
theorem flat_rep {F : Hp} {x : D} {v : V} (r : Rep K F x v) (f : flatD x = true) : flatV v = true := by
  cases x <;> first | (cases (show false = true from f)) | (cases (show v = _ from r); rfl)
theorem eqv_rep {F : Hp} {x y : D} {vx vy : V} (rx : Rep K F x vx) (ry : Rep K F y vy) (fx : flatD x = true) (fy : flatD y = true) : eqV vx vy = eqvD x y := by
  cases x <;> first | (cases (show false = true from fx)) | (cases (show vx = _ from rx); cases y <;> first | (cases (show false = true from fy)) | (cases (show vy = _ from ry); rfl))
def inD (x : D) (xs : List D) : Bool := xs.any fun y => eqvD y x
theorem in_rep {F : Hp} {x : D} {vx : V} (rx : Rep K F x vx) (fx : flatD x = true) : ∀ {xs : List D} {vs : List V}, Reps K F xs vs → xs.all flatD = true → vs.all flatV = true ∧ inV vx vs = inD x xs
  | [], _, r, _ => by cases (show _ = [] from r); exact ⟨rfl, rfl⟩
  | d :: ds, _, r, f => by
    obtain ⟨v, vs, rfl, r1, r2⟩ := r
    rw [List.all_cons, Bool.and_eq_true] at f
    obtain ⟨h1, h2⟩ := in_rep rx fx r2 f.2
    refine ⟨by rw [List.all_cons, flat_rep r1 f.1, h1]; rfl, ?_⟩
    unfold inV inD at h2 ⊢
    rw [List.any_cons, List.any_cons, h2, eqv_rep r1 rx f.1 fx]
def inS (i j : Str) : Bool := match i.cps.toList with
  | [c] => decide (c ∈ j.cps.toList)
  | _ => !(Builtin.Str.occurrences j i 0 j.length 1).isEmpty
def oInX (neg : Bool) : O2 := fun x y P => match y with
  | .str j => asS x fun i => P (.d (.bl (xor neg (inS i j))))
  | .cel ns => flatD x = true ∧ P (.d (.bl (xor neg (inD x (ns.map .int)))))
  | .lst xs => flatD x = true ∧ xs.all flatD = true ∧ P (.d (.bl (xor neg (inD x xs))))
  | .tup xs => flatD x = true ∧ xs.all flatD = true ∧ P (.d (.bl (xor neg (inD x xs))))
  | .dic ks xs => asKey x fun k => P (.d (.bl (xor neg (vget (ks.zip xs) k).isSome)))
  | _ => False
abbrev rInX (K : PySem.W.Frag) (neg : Bool) : R2 := fun x y H Q => (∃ i j, x = .str i ∧ y = .str j ∧ Q (.bl (xor neg (inS i j))) H) ∨ rIn K neg x y H Q ∨ ∃ a o, y = .ref a ∧ DGet H a x o ∧ Q (.bl (xor neg o.isSome)) H
theorem xor_f (b : Bool) : xor false b = b := by cases b <;> rfl
theorem inS_one (i j : Str) : (∃ c, i = ⟨#[c]⟩ ∧ inS i j = decide (c ∈ j.cps.toList)) ∨ inS i j = !(Builtin.Str.occurrences j i 0 j.length 1).isEmpty := by
  unfold inS
  split
  · rename_i c e
    exact .inl ⟨c, one_sign e, rfl⟩
  · exact .inr rfl
theorem op_inStr {X : Cx} : OpR X (compareOp .In) (fun x y H Q => ∃ i j, x = .str i ∧ y = .str j ∧ Q (.bl (inS i j)) H) := by
  intro pins s σ H x y v u Q I rx ry h
  obtain ⟨i, j, rfl, rfl, q⟩ := h
  rcases inS_one i j with ⟨c, rfl, e⟩ | e
  · exact op_in_sign pins s σ H _ _ v u Q I rx ry ⟨c, j, rfl, rfl, by rw [← e]; exact q⟩
  · exact op_in_str pins s σ H _ _ v u Q I rx ry ⟨i, j, rfl, rfl, by rw [← e]; exact q⟩
theorem op_inX {X : Cx} (hu : X.A.units + 1 < cLine) : OpR X (compareOp .In) (rInX X.K false) := by
  refine OpR.or (fun pins s σ H x y v u Q I rx ry h => ?_) (OpR.or op_in_seq fun pins s σ H x y v u Q I rx ry h => ?_)
  · obtain ⟨i, j, e1, e2, q⟩ := h
    exact op_inStr pins s σ H x y v u Q I rx ry ⟨i, j, e1, e2, by rw [xor_f] at q; exact q⟩
  · obtain ⟨a, o, rfl, g, q⟩ := h
    obtain rfl : u = Value.ref a := ry
    rw [xor_f] at q
    exact d_in hu I g rx fun s3 I3 => ⟨.bl o.isSome, H, I3, rfl, q⟩
theorem snd_inX {neg : Bool} : Snd2 K (rInX K neg) (oInX neg) := ⟨fun {F H x y vx vy P Q} fh rx ry h k => by
  have seq : ∀ {xs : List D} {a : Addr} {vs : List V}, (SqL K F a vs ∨ SqT K F a vs) → Reps K F xs vs → vy = .ref a → flatD x = true → xs.all flatD = true → P (.d (.bl (xor neg (inD x xs)))) → rInX K neg vx vy H Q := fun {xs a vs} hq r e f1 f2 h => by
    obtain ⟨h1, h2⟩ := in_rep rx f1 r f2
    refine .inr (.inl ⟨a, vs, e, sq_same fh hq, flat_rep rx f1, h1, ?_⟩)
    rw [h2]
    have e2 : (if neg then !inD x xs else inD x xs) = xor neg (inD x xs) := by cases neg <;> simp
    rw [e2]
    exact k.flat (d := .bl _) fh h rfl
  unfold oInX at h
  split at h
  · obtain ⟨i, rfl, h⟩ := asS_of h rx
    cases (show vy = _ from ry)
    exact .inl ⟨i, _, rfl, rfl, k.flat (d := .bl _) fh h rfl⟩
  · obtain ⟨a, rfl, h1⟩ := ry
    refine seq (.inl h1) (Reps.ints.mpr rfl) rfl h.1 (List.all_eq_true.mpr fun d hd => ?_) h.2
    obtain ⟨n, _, rfl⟩ := List.mem_map.mp hd
    rfl
  · obtain ⟨a, vs, rfl, h1, h2⟩ := ry
    exact seq (.inl (SqL.of h1)) h2 rfl h.1 h.2.1 h.2.2
  · obtain ⟨a, vs, rfl, h1, h2⟩ := ry
    exact seq (.inr h1) h2 rfl h.1 h.2.1 h.2.2
  · obtain ⟨key, rfl, h⟩ := asKey_of h rx
    obtain ⟨a, kvs, l, rfl, hl, kr, q⟩ := asDic_of (d := .dic _ _) (P := fun kvs => kvs = _) rfl ry
    subst q
    refine .inr (.inr ⟨a, valV l key, rfl, .inl ⟨l, key, (Same.rd fh hl), rfl, rfl⟩, ?_⟩)
    have e : ∀ kvs : List (Key × D), KRep K F kvs l → (valV l key).isSome = (vget kvs key).isSome := fun kvs kr => by
      rcases kr.get (k := key) with ⟨d', v, g1, g2, g3⟩ | ⟨g1, g2⟩ <;> rw [g1, g2] <;> rfl
    rw [e _ kr]
    exact k.flat (d := .bl _) fh h rfl
  · exact h.elim⟩
def iX (K : PySem.W.Frag) (te : TE) : TI := fun σ H R => te σ H fun v H1 => (∃ a, v = .ref a ∧ (∃ xs, SqL K H1 a xs) ∧ R (Itl K a) H1) ∨ (∃ a, v = .ref a ∧ (∃ xs, SqT K H1 a xs) ∧ R (Itt K a) H1) ∨ ∃ x, v = .str x ∧ R (Its x) H1
theorem pi_X {X : Cx} {tg e : Expr} {te : TE} (he : PE X e te) : PI X tg e (iX X.K te) := by
  refine ⟨fun pins s σ H R I h => ?_⟩
  refine L2.thn (he.run pins s σ H _ I h) fun v s1 ⟨y, H1, I1, r1, q⟩ => ?_
  rcases q with ⟨a, rfl, ⟨xs, hq⟩, q⟩ | ⟨a, rfl, ⟨xs, hq⟩, q⟩ | ⟨x, rfl, q⟩
  · cases r1
    obtain ⟨its, rv, p, hz⟩ := I1.list hq
    refine wpAny_pyIter_list p.isList ?_
    refine ⟨s1.heap.objs.size, [s1.heap.objs.size], _, _, H1, rfl, I1.kept (t' := s1.toks) fun b o e => Heap.get?_push_of_some _ e, turn_list a _, ⟨_, Heap.get?_push_size _ rfl, rfl, rfl⟩, fun b hb => ?_, q⟩
    have e : b = s1.heap.objs.size := by simpa using hb
    subst e
    exact I1.fpOk (Nat.le_refl _) (I1.hok.fresh (Nat.le_refl _))
  · cases r1
    obtain ⟨its, rv, p, hz⟩ := I1.tuple hq
    refine wpAny_pyIter_tuple (show s1.heap.IsTuple a its.toArray from p) ?_
    refine ⟨s1.heap.objs.size, [s1.heap.objs.size], _, _, H1, rfl, I1.kept (t' := s1.toks) fun b o e => Heap.get?_push_of_some _ e, turn_tuple a _, ⟨_, Heap.get?_push_size _ rfl, rfl, rfl⟩, fun b hb => ?_, q⟩
    have e : b = s1.heap.objs.size := by simpa using hb
    subst e
    exact I1.fpOk (Nat.le_refl _) (I1.hok.fresh (Nat.le_refl _))
  · obtain ⟨t, rfl⟩ := r1
    cases ha : x.cps.all (· < 128)
    · exact wpAny_pyIter_wide ha (pi_one (tk := s1.toks) I1 _ (turn_str _ x t "str_iterator" (.inr rfl)) ⟨_, Heap.get?_push_size _ rfl, rfl, rfl⟩ q)
    · exact wpAny_pyIter_ascii ha (pi_one (tk := s1.toks) I1 _ (turn_str _ x t "str_ascii_iterator" (.inl rfl)) ⟨_, Heap.get?_push_size _ rfl, rfl, rfl⟩ q)
def itemsOf (d : D) (P : List D → Prop) : Prop := match d with
  | .cel ns => P (ns.map .int)
  | .lst xs => P xs
  | .tup xs => P xs
  | .str z => P ((signs z).map .str)
  | _ => False
def wiX (we : W) : WA := fun ρ P => we ρ fun s ρ1 => itemsOf s.fz fun xs => P xs ρ1
theorem di_X {X : Cx} {Z : Zx} {tg e : Expr} {te : TE} {we : W} (he : DE K X Z e te we) (hK : X.K = K := by rfl) : DI K X Z tg e (iX K te) (wiX we) := by
  refine ⟨by subst hK; exact pi_X he.pe, fun {H0 F0 F H ρ σ Q P} zo rl h k => he.run zo rl h fun s1 ρ1 F1 H1 v1 h1 f1 r1 sr1 fr1 => ?_⟩
  obtain ⟨F2, f2, r2, rp2⟩ := r1.freeze sr1 fr1
  generalize s1.fz = d at h1 rp2
  have lst : ∀ {a : Addr} {vs : List V} {xs : List D}, v1 = .ref a → SqL K F2 a vs → Reps K F2 xs vs → P xs ρ1 → iX K (fun σ H Q => Q v1 H1) σ H1 Q := fun {a vs xs} e s1 s2 h1 => by
    refine .inl ⟨a, e, ⟨vs, r2.fh.seq s1⟩, k xs ρ1 F2 H1 _ h1 (f1.trans f2) r2 (ItOk.pure (fun {i F H} f g l => ?_) (fun {i F H} f g l => ?_) fun {i F H H2 x} f g y l => ?_)⟩
    · have hl : i < vs.length := by rw [s2.len]; exact l
      exact ⟨vs, vs[i], g.seq (f.seq s1), List.getElem?_eq_getElem hl⟩
    · exact ⟨vs, g.seq (f.seq s1), by rw [s2.len]; exact l⟩
    · obtain ⟨rfl, y⟩ := y
      obtain ⟨d, e, r⟩ := s2.get' (y vs (g.seq (f.seq s1)))
      exact ⟨d, e, rfl, Rep.mono f _ _ r⟩
  unfold itemsOf at h1
  split at h1
  · obtain ⟨a, e, s1⟩ := rp2
    exact lst e s1 (Reps.ints.mpr rfl) h1
  · obtain ⟨a, vs, e, s1, s2⟩ := rp2
    exact lst e (SqL.of s1) s2 h1
  · obtain ⟨a, vs, e, s1, s2⟩ := rp2
    refine .inr (.inl ⟨a, e, ⟨vs, Same.sqT r2.fh s1⟩, k _ ρ1 F2 H1 _ h1 (f1.trans f2) r2 (ItOk.pure (fun {i F H} f g l => ?_) (fun {i F H} f g l => ?_) fun {i F H H2 x} f g y l => ?_)⟩)
    · have hl : i < vs.length := by rw [s2.len]; exact l
      exact ⟨vs, vs[i], Same.sqT g (Same.sqT f s1), List.getElem?_eq_getElem hl⟩
    · exact ⟨vs, Same.sqT g (Same.sqT f s1), by rw [s2.len]; exact l⟩
    · obtain ⟨rfl, y⟩ := y
      obtain ⟨d, e, r⟩ := s2.get' (y vs (Same.sqT g (Same.sqT f s1)))
      exact ⟨d, e, rfl, Rep.mono f _ _ r⟩
  · rename_i z
    have hlen : ((signs z).map D.str).length = z.cps.size := by simp [signs]
    refine .inr (.inr ⟨z, rp2, k _ ρ1 F2 H1 _ h1 (f1.trans f2) r2 (ItOk.pure (fun {i F H} f g l => ?_) (fun {i F H} f g l => ?_) fun {i F H H2 x} f g y l => ?_)⟩)
    · show i < z.cps.size
      omega
    · show z.cps.size ≤ i
      omega
    · obtain ⟨rfl, c, hc, rfl⟩ := y
      refine ⟨.str ⟨#[c]⟩, ?_, rfl, rfl⟩
      have hc' : z.cps.toList[i]? = some c := by rw [Array.getElem?_toList]; exact hc
      simp [signs, hc']
  · exact h1.elim
theorem vals_at : ∀ {us : List Value} {vs : List V}, us.length = vs.length → (∀ (j : Nat) (v : Value), us[j]? = some v → ∃ x, vs[j]? = some x ∧ RelV x v) → Vals vs us
  | [], [], _, _ => .nil
  | u :: us, q :: vs, hl, h => by
    obtain ⟨x, e1, e2⟩ := h 0 u rfl
    have e1' : q = x := Option.some.inj e1
    subst e1'
    exact .cons e2 (vals_at (Nat.succ.inj hl) fun j v e => h (j + 1) v e)
  | [], _ :: _, hl, _ => nomatch hl
  | _ :: _, [], hl, _ => nomatch hl
theorem call_listS {X : Cx} (hc : X.calm = true) : CallR X (.type "list") (fun xs H Q => ∃ z, xs = [.str z] ∧ z.length ≤ sizeLine ∧ ∀ p, H p = none → Q (.ref p) (upd H p (.lst ((signs z).map V.str)))) := by
  intro pins s σ H xs us Q I r h
  obtain ⟨z, rfl, hz, q⟩ := h
  obtain ⟨u, rfl, t, rfl⟩ := vals1 r
  refine call_list_str (I.ok.hd hc) z t (hn := hz) fun h' tk acc c' hk hD hacc => ?_
  have hv : Vals ((signs z).map V.str) acc.toList := by
    refine vals_at (by rw [Array.length_toList, hacc.1]; simp [signs]) fun j v e => ?_
    obtain ⟨c, u, e1, rfl⟩ := hacc.2 j v (by rw [← Array.getElem?_toList]; exact e)
    have hc' : z.cps.toList[j]? = some c := by rw [Array.getElem?_toList]; exact e1
    exact ⟨.str ⟨#[c]⟩, by simp [signs, hc'], u, rfl⟩
  exact ⟨.ref s.heap.objs.size, upd H s.heap.objs.size (.lst ((signs z).map V.str)), I.laid (t' := tk) hk (Nat.le_refl _)
    (show ObjOk X.prog X.w _ _ _ (.lst ((signs z).map V.str)) from ⟨by simp [signs]; exact hz, acc.toList, c', hv, by rw [Array.toArray_toList]; exact hD⟩), rfl, q _ (I.hok.fresh (Nat.le_refl _))⟩
end
end DL
namespace DL
open PySem L2
theorem units1 {n : Nat} (h : n + 64 < cLine) : n + 1 < cLine := by omega
section
variable {K : PySem.W.Frag} {X : Cx} {Z : Zx} {pos p p2 : Pos} {a b e : Expr} {ta tb te : TE} {wa wb we : W}
theorem de_plus (ha : DE K X Z a ta wa) (hb : DE K X Z b tb wb) (hK : X.K = K := by rfl) : DE K X Z (.BinOp a .Add b pos) (tOp (rPlus K) ta tb) (wOp oPlus wa wb) := by subst hK; exact de_op op_plus snd_plus ha hb
theorem de_eqX (hu : X.A.units + 64 < cLine) (ha : DE K X Z a ta wa) (hb : DE K X Z b tb wb) (hm : behindInMarks .Eq b = false := by rfl) (hK : X.K = K := by rfl) : DE K X Z (.Compare a [.Eq] [b] pos) (tOp (rEqX K) ta tb) (wOp oEqX wa wb) := by subst hK; exact de_cmp (op_eqX hu) snd_eqX hm ha hb
theorem dt_eqX (hu : X.A.units + 64 < cLine) (ha : DE K X Z a ta wa) (hb : DE K X Z b tb wb) (hm : behindInMarks .Eq b = false := by rfl) (hK : X.K = K := by rfl) : DT K X Z (.Compare a [.Eq] [b] pos) (tTest (tOp (rEqX K) ta tb)) (wB (wOp oEqX wa wb)) := by subst hK; exact dt_cmp (op_eqX hu) snd_eqX hm ha hb
theorem dt_neX (hu : X.A.units + 64 < cLine) (ha : DE K X Z a ta wa) (hb : DE K X Z b tb wb) (hm : behindInMarks .NotEq b = false := by rfl) (hK : X.K = K := by rfl) : DT K X Z (.Compare a [.NotEq] [b] pos) (tTest (tOp (rNeX K) ta tb)) (wB (wOp oNeX wa wb)) := by subst hK; exact dt_cmp (op_neX hu) snd_neX hm ha hb
theorem dt_ltX (hu : X.A.units + 64 < cLine) (ha : DE K X Z a ta wa) (hb : DE K X Z b tb wb) (hm : behindInMarks .Lt b = false := by rfl) : DT K X Z (.Compare a [.Lt] [b] pos) (tTest (tOp rLtX ta tb)) (wB (wOp oLtX wa wb)) := dt_cmp op_ltX snd_cmp hm ha hb
theorem dt_gtX (hu : X.A.units + 64 < cLine) (ha : DE K X Z a ta wa) (hb : DE K X Z b tb wb) (hm : behindInMarks .Gt b = false := by rfl) : DT K X Z (.Compare a [.Gt] [b] pos) (tTest (tOp rGtX ta tb)) (wB (wOp oGtX wa wb)) := dt_cmp op_gtX snd_cmp hm ha hb
theorem dt_geX (hu : X.A.units + 64 < cLine) (ha : DE K X Z a ta wa) (hb : DE K X Z b tb wb) (hm : behindInMarks .GtE b = false := by rfl) : DT K X Z (.Compare a [.GtE] [b] pos) (tTest (tOp rGeX ta tb)) (wB (wOp oGeX wa wb)) := dt_cmp op_geX snd_cmp hm ha hb
theorem dt_inX (hu : X.A.units + 64 < cLine) (ha : DE K X Z a ta wa) (hb : DE K X Z b tb wb) (hm : behindInMarks .In b = false := by rfl) (hK : X.K = K := by rfl) : DT K X Z (.Compare a [.In] [b] pos) (tTest (tOp (rInX K false) ta tb)) (wB (wOp (oInX false) wa wb)) := by subst hK; exact dt_cmp (op_inX (units1 hu)) snd_inX hm ha hb
theorem de_ixX (hu : X.A.units + 64 < cLine) (ha : DE K X Z a ta wa) (hb : DE K X Z b tb wb) (hs : PlainIx b := by exact fun _ _ => rfl) (hK : X.K = K := by rfl) : DE K X Z (.Subscript a b pos) (tOp (rIxX K) ta tb) (wOp oIxX wa wb) := by subst hK; exact de_ix (ix_X (units1 hu)) snd_ixX hs ha hb
def oListX : OL := fun ds P => match ds with
  | [.lst xs] => P (.ol xs)
  | [.tup xs] => P (.ol xs)
  | [.str z] => z.length ≤ sizeLine ∧ P (.ol ((signs z).map .str))
  | _ => False
abbrev qListX (K : PySem.W.Frag) : List V → Hp → VK → Prop := fun xs H Q => qList K xs H Q ∨ ∃ z, xs = [.str z] ∧ z.length ≤ sizeLine ∧ ∀ p, H p = none → Q (.ref p) (upd H p (.lst ((signs z).map V.str)))
theorem snd_listX : SndL K (qListX K) oListX := ⟨fun {F H ds vs P Q} fh r h k => by
  unfold oListX at h
  split at h
  · exact .inl (snd_list.run fh r h k)
  · exact .inl (snd_list.run fh r h k)
  · obtain ⟨v, _, rfl, rfl, rfl⟩ := r
    exact .inr ⟨_, rfl, h.1, fun p n => k.newL fh h.2 (Reps.strs.mpr rfl) n⟩
  · exact h.elim⟩
theorem de_listX (hc : X.calm = true) (m : X.mg "list" = none) (ha : DE K X Z a ta wa) (hg : Gl X "list" := by rfl) (hs : starEach [a] X.env = [(false, eval a X.env)] := by rfl) (hK : X.K = K := by rfl) : DE K X Z (.Call (.Name "list" p) [a] [] pos) (tCB (qListX K) (tCons ta tNil)) (wCB oListX (wCons wa wNil)) := by
  subst hK
  exact de_callTy (call_list_of.or (call_listS hc)) snd_listX hg m (by decide +kernel) (da_cons ha da_nil hs) (hn := by decide) (hdb := by decide) (he := hs) (hpl := rfl)
theorem de_all (m : X.mg "all" = none) (hc : CallR X (.builtin "all") (rAll X.K)) (ha : DE K X Z a ta wa) (hg : Gl X "all" := by rfl) (hs : starEach [a] X.env = [(false, eval a X.env)] := by rfl) (hK : X.K = K := by rfl) : DE K X Z (.Call (.Name "all" p) [a] [] pos) (tCB (rAll K) (tCons ta tNil)) (wCB oAll (wCons wa wNil)) := by
  subst hK
  exact de_callB hc snd_all hg m (by decide +kernel) (da_cons ha da_nil hs) (hn := by decide) (hdb := by decide) (he := hs) (hpl := rfl)
abbrev qMin : List V → Hp → VK → Prop := fun xs H Q => ∃ i j, xs = [.int i, .int j] ∧ Q (.int (if j < i then j else i)) H
theorem de_min (hc : X.calm = true) (m : X.mg "min" = none) (ha : DE K X Z a ta wa) (hb : DE K X Z b tb wb) (hg : Gl X "min" := by rfl) (hs : starEach [a, b] X.env = (false, eval a X.env) :: starEach [b] X.env := by rfl) (hs2 : starEach [b] X.env = [(false, eval b X.env)] := by rfl) (hpl : (backTo pos (starEach [b] X.env)).any (·.1) = false := by rfl) :
    DE K X Z (.Call (.Name "min" p) [a, b] [] pos) (tCB qMin (tCons ta (tCons tb tNil))) (wCB oMin (wCons wa (wCons wb wNil))) := de_callB (call_min2 hc) snd_min hg m (by decide +kernel) (da_cons ha (da_cons hb da_nil hs2) hs) (hn := by decide) (hdb := by decide) (he := hs) (hpl := hpl)
end
section
variable {K : PySem.W.Frag} {X : Cx} {Z : Zx} {pos spos py : Pos} {te : TE} {we : W}
variable {elt tg iter : Expr} {ifs : List Expr} {scope : Scope} {own : List (Str × Nat)} {wi : TI} {wa : WA} {g : TG} {wg : WG} {tt : TT} {wt : WT}
theorem ds_asgLc (i : Nat) {y : Str} (hc : X.calm = true) (hN : X.N.Nodup) (hi : DI K X Z tg iter wi wa) (ok : BlkOk X.N X.env.scope scope own)
    (hg : ∀ (s : Shared) (H : Hp) (C : Addr) (cl : List (Str × Addr)) (fp : List Addr), DGb K (X.blk s H scope (compEnvC scope cl C X.env) fp) Z tg (own.map (·.2)) g wg) (ht : ∀ (s : Shared) (H : Hp) (C : Addr) (cl : List (Str × Addr)) (fp : List Addr), DTs K (X.blk s H scope (compEnvC scope cl C X.env) fp) Z ifs tt wt)
    (he : ∀ (s : Shared) (H : Hp) (C : Addr) (cl : List (Str × Addr)) (fp : List Addr), DE K (X.blk s H scope (compEnvC scope cl C X.env) fp) Z elt te we) (hs : ∀ x, foldedSetIterable iter X.env x = pure x := by intro _; rfl)
    (hy : X.N[i]? = some y := by rfl) (hyl : X.env.scope.names.lookup y = some .local := by rfl) (hk : X.env.scope.kind = .function := by rfl) (hl : (py.line == pos.line) = true := by rfl)
    (ha : (scope.names.any fun (n, k) => n == y && (k == .local || k == .cell)) = false := by rfl) :
    DS K X Z (.Assign [.Name y py] (.ListComp elt [⟨tg, iter, ifs, 0⟩] scope pos) spos) (tAsg (tLc wi g tt te (own.map (·.2))) (gName i)) (wAsg (wLc wa wg wt we (own.map (·.2))) (wgName i)) :=
  ⟨ps_setLc hc hN hy hyl (sw_true hk hyl hl ha) hi.pe ok (fun s H C cl fp => (hg s H C cl fp).pe) (fun s H C cl fp => (ht s H C cl fp).pe) (fun s H C cl fp => (he s H C cl fp).pe) hs,
    fun {H0 F0 F H ρ σ DD Dh} zo rl ee h => (run_lc hi.run (hg X.s_0 (fun _ => none) 0 [] []).run (ht X.s_0 (fun _ => none) 0 [] []).run (he X.s_0 (fun _ => none) 0 [] []).run) zo rl h fun s ρ' F' H' v p f r sr fr => by
      obtain ⟨F2, f2, r2, rp2⟩ := r.freeze sr fr
      exact (dg_name (K := K) (X := X) (Z := Z) (pos := py) i hN hy (Or.inl hyl) (.inr hyl)).run zo r2 rp2 p fun ρ3 F3 H3 σ3 p3 f3 r3 => ee.nx _ _ _ _ p3 (f.trans (f2.trans f3)) r3⟩
end
end DL
namespace DL
open PySem L2
def sg (p : Str) : List Nat := p.cps.toList
theorem sg_inj {p q : Str} (h : sg p = sg q) : p = q := str_ext h
theorem sg_append (p q : Str) : sg (p ++ q) = sg p ++ sg q := by
  show (p.cps ++ q.cps).toList = _
  rw [Array.toList_append]; rfl
theorem sg_len (p : Str) : p.length = (sg p).length := by simp [Str.length, sg]
theorem glue_fold (sep : Str) (hs : sg sep = []) : ∀ (xs : List Str) (a : Array Nat), (xs.foldl (fun acc p => acc ++ sep.cps ++ p.cps) a).toList = a.toList ++ (xs.map sg).flatten
  | [], a => by simp
  | x :: xs, a => by
    rw [List.foldl_cons, glue_fold sep hs xs]
    have : sep.cps.toList = [] := hs
    simp [this, sg]
theorem sg_join0 {sep : Str} (hs : sg sep = []) : ∀ xs : List Str, sg (Txt.join sep xs) = (xs.map sg).flatten
  | [] => rfl
  | x :: xs => by
    show (xs.foldl (fun acc p => acc ++ sep.cps ++ p.cps) x.cps).toList = _
    rw [glue_fold sep hs]; rfl
def LET : List Nat := [97, 98, 99, 112, 113, 114, 120, 121, 122]
structure Prd (p : Str) : Prop where
  up : (sg p).Pairwise (· < ·)
  le : ∀ c ∈ sg p, c ∈ LET
structure Frm (f : List Str) : Prop where
  so : f.Pairwise fun a b => leS a b = true
  nd : f.Nodup
  prd : ∀ p ∈ f, Prd p
def tr (r : Nat → Bool) (p : Str) : Bool := (sg p).all r
def val (r : Nat → Bool) (f : List Str) : Bool := decide (f.countP (tr r) % 2 = 1)
def tog (l : List Str) (x : Str) : List Str := if x ∈ l then l.filter (fun y => decide (y ≠ x)) else l ++ [x]
def odds (xs : List Str) : List Str := xs.foldl tog []
theorem tog_nodup {l : List Str} {x : Str} (h : l.Nodup) : (tog l x).Nodup := by
  unfold tog
  split
  · exact h.filter _
  · rename_i hx
    rw [List.nodup_append]
    refine ⟨h, by simp, fun a ha b hb => ?_⟩
    have : b = x := by simpa using hb
    subst this
    exact fun e => hx (e ▸ ha)
theorem countP_tog {t : Str → Bool} {l : List Str} {x : Str} (h : l.Nodup) : (tog l x).countP t % 2 = (l.countP t + (if t x = true then 1 else 0)) % 2 := by
  unfold tog
  split
  · rename_i hx
    have e : l.filter (fun y => decide (y ≠ x)) = l.erase x := by
      rw [h.erase_eq_filter]
      apply List.filter_congr
      intro y _
      simp [bne, BEq.beq]
    rw [e, (List.perm_cons_erase hx).countP_eq t, List.countP_cons]
    split <;> omega
  · rw [List.countP_append, List.countP_singleton]
theorem foldl_tog : ∀ (xs l : List Str), l.Nodup → (xs.foldl tog l).Nodup ∧ ∀ t : Str → Bool, (xs.foldl tog l).countP t % 2 = (l.countP t + xs.countP t) % 2
  | [], l, h => ⟨h, fun t => by simp⟩
  | x :: xs, l, h => by
    obtain ⟨h1, h2⟩ := foldl_tog xs (tog l x) (tog_nodup h)
    refine ⟨h1, fun t => ?_⟩
    rw [List.foldl_cons, h2 t, List.countP_cons]
    have := countP_tog (t := t) (x := x) h
    omega
theorem odds_nodup (xs : List Str) : (odds xs).Nodup := (foldl_tog xs [] List.nodup_nil).1
theorem countP_odds (t : Str → Bool) (xs : List Str) : (odds xs).countP t % 2 = xs.countP t % 2 := by
  have := (foldl_tog xs [] List.nodup_nil).2 t
  rw [List.countP_nil, Nat.zero_add] at this
  exact this
theorem tog_sub {l : List Str} {x y : Str} (h : y ∈ tog l x) : y ∈ l ∨ y = x := by
  unfold tog at h
  split at h
  · exact .inl (List.mem_filter.mp h).1
  · rcases List.mem_append.mp h with h | h
    · exact .inl h
    · exact .inr (by simpa using h)
theorem foldl_tog_sub {y : Str} : ∀ (xs l : List Str), y ∈ xs.foldl tog l → y ∈ l ∨ y ∈ xs
  | [], l, h => .inl h
  | x :: xs, l, h => by
    rcases foldl_tog_sub xs (tog l x) h with h | h
    · rcases tog_sub h with h | h
      · exact .inl h
      · exact .inr (h ▸ List.mem_cons_self)
    · exact .inr (List.mem_cons_of_mem _ h)
theorem odds_sub {y : Str} {xs : List Str} (h : y ∈ odds xs) : y ∈ xs := (foldl_tog_sub xs [] h).elim (fun z => by simp at z) id
theorem odds_len (xs : List Str) : (odds xs).length ≤ xs.length := (odds_nodup xs).length_le_of_subset fun y h => odds_sub h
def gath (xs : List Str) : List Str := srt (odds xs)
theorem gath_frm {xs : List Str} (h : ∀ p ∈ xs, Prd p) : Frm (gath xs) :=
  ⟨srt_pw _, (srt_perm _).nodup_iff.mpr (odds_nodup xs), fun p hp => h p (odds_sub ((srt_perm _).mem_iff.mp hp))⟩
theorem val_gath (r : Nat → Bool) (xs : List Str) : val r (gath xs) = decide (xs.countP (tr r) % 2 = 1) := by
  unfold val gath
  rw [(srt_perm _).countP_eq, countP_odds]
theorem val_append (r : Nat → Bool) (xs ys : List Str) : decide ((xs ++ ys).countP (tr r) % 2 = 1) = xor (val r xs) (val r ys) := by
  unfold val
  rw [List.countP_append]
  rcases Nat.mod_two_eq_zero_or_one (xs.countP (tr r)) with h | h <;> rcases Nat.mod_two_eq_zero_or_one (ys.countP (tr r)) with g | g <;> simp [Nat.add_mod, h, g]
theorem up_ext : ∀ {p q : List Nat}, p.Pairwise (· < ·) → q.Pairwise (· < ·) → (∀ c, c ∈ p ↔ c ∈ q) → p = q := fun {p q} hp hq h => by
  have np : p.Nodup := hp.imp fun h => Nat.ne_of_lt h
  have nq : q.Nodup := hq.imp fun h => Nat.ne_of_lt h
  exact ((List.perm_ext_iff_of_nodup np nq).mpr h).eq_of_pairwise (fun a b _ _ h1 h2 => absurd h1 (Nat.lt_asymm h2)) hp hq
theorem sub_len {p q : Str} (hp : Prd p) (hq : Prd q) (h : ∀ c ∈ sg p, c ∈ sg q) (hl : (sg q).length ≤ (sg p).length) : p = q := by
  have np : (sg p).Nodup := hp.up.imp fun h => Nat.ne_of_lt h
  have nq : (sg q).Nodup := hq.up.imp fun h => Nat.ne_of_lt h
  refine sg_inj (up_ext hp.up hq.up fun c => ⟨h c, fun hc => Classical.byContradiction fun hn => ?_⟩)
  have hnd : (c :: sg p).Nodup := List.nodup_cons.mpr ⟨hn, np⟩
  have := hnd.length_le_of_subset (l₂ := sg q) fun x hx => (List.mem_cons.mp hx).elim (fun e => e ▸ hc) (h x)
  simp only [List.length_cons] at this
  omega
theorem least : ∀ {f : List Str}, f ≠ [] → ∃ p ∈ f, ∀ q ∈ f, (sg p).length ≤ (sg q).length
  | [], h => absurd rfl h
  | [p], _ => ⟨p, by simp, fun q hq => by simp at hq; subst hq; exact Nat.le_refl _⟩
  | p :: x :: r, _ => by
    obtain ⟨q, hq, h⟩ := least (f := x :: r) (by simp)
    by_cases hl : (sg p).length ≤ (sg q).length
    · refine ⟨p, by simp, fun y hy => ?_⟩
      rcases List.mem_cons.mp hy with e | e
      · subst e; exact Nat.le_refl _
      · exact Nat.le_trans hl (h y e)
    · refine ⟨q, List.mem_cons_of_mem _ hq, fun y hy => ?_⟩
      rcases List.mem_cons.mp hy with e | e
      · subst e; omega
      · exact h y e
def rowP (p : Str) : Nat → Bool := fun c => decide (c ∈ sg p)
theorem tr_rowP {p q : Str} : tr (rowP p) q = true ↔ ∀ c ∈ sg q, c ∈ sg p := by
  simp [tr, rowP, List.all_eq_true]
theorem val_least {f : List Str} (hn : f.Nodup) (hp : ∀ p ∈ f, Prd p) {p : Str} (hm : p ∈ f) (hl : ∀ q ∈ f, (∀ c ∈ sg q, c ∈ sg p) → (sg p).length ≤ (sg q).length) : val (rowP p) f = true := by
  have : f.countP (tr (rowP p)) = f.count p := by
    unfold List.count
    apply List.countP_congr
    intro q hq
    rw [tr_rowP]
    constructor
    · intro h
      have := sub_len (hp q hq) (hp p hm) h (hl q hq h)
      subst this
      exact beq_self_eq_true _
    · intro h c hc
      have e : q = p := by simpa using h
      subst e; exact hc
  unfold val
  have h3 := List.nodup_iff_count.mp hn p
  have h4 := List.count_pos_iff.mpr hm
  have h5 : f.count p = 1 := by omega
  rw [this, h5]
  rfl
theorem uniq {f g : List Str} (hf : Frm f) (hg : Frm g) (h : ∀ r, val r f = val r g) : f = g := by
  have he : odds (f ++ g) = [] := Classical.byContradiction fun hne => by
    obtain ⟨p, hm, hl⟩ := least hne
    have hp : ∀ q ∈ odds (f ++ g), Prd q := fun q hq => (List.mem_append.mp (odds_sub hq)).elim (hf.prd q) (hg.prd q)
    have h1 := val_least (odds_nodup _) hp hm fun q hq _ => hl q hq
    have h2 := val_append (rowP p) f g
    rw [← countP_odds, h] at h2
    unfold val at h1 h2
    rw [h1] at h2
    simp at h2
  have hc : ∀ p, p ∈ f ↔ p ∈ g := fun p => by
    have h1 := countP_odds (fun x => x == p) (f ++ g)
    rw [he, List.countP_nil, List.countP_append] at h1
    have h2 : (f.count p + g.count p) % 2 = 0 := h1.symm
    have h3 := List.nodup_iff_count.mp hf.nd p
    have h4 := List.nodup_iff_count.mp hg.nd p
    constructor
    · intro hx
      have := List.count_pos_iff.mpr hx
      exact List.count_pos_iff.mp (by omega)
    · intro hx
      have := List.count_pos_iff.mpr hx
      exact List.count_pos_iff.mp (by omega)
  exact ((List.perm_ext_iff_of_nodup hf.nd hg.nd).mpr hc).eq_of_pairwise (fun a b _ _ h1 h2 => leS_anti h1 h2) hf.so hg.so
def subs : List Nat → List (List Nat)
  | [] => [[]]
  | c :: cs => subs cs ++ (subs cs).map (c :: ·)
theorem mem_subs : ∀ {L p : List Nat}, L.Pairwise (· < ·) → p.Pairwise (· < ·) → (∀ c ∈ p, c ∈ L) → p ∈ subs L
  | [], p, _, _, h => by
    cases p with
    | nil => simp [subs]
    | cons c r => exact absurd (h c List.mem_cons_self) (by simp)
  | d :: L, p, hL, hp, h => by
    rw [List.pairwise_cons] at hL
    cases p with
    | nil => exact List.mem_append.mpr (.inl (mem_subs hL.2 .nil (by simp)))
    | cons c r =>
      rw [List.pairwise_cons] at hp
      by_cases e : c = d
      · subst e
        refine List.mem_append.mpr (.inr (List.mem_map.mpr ⟨r, mem_subs hL.2 hp.2 fun x hx => ?_, rfl⟩))
        rcases List.mem_cons.mp (h x (List.mem_cons_of_mem _ hx)) with e | e
        · exact absurd (hp.1 x hx) (by omega)
        · exact e
      · have hc : c ∈ L := (List.mem_cons.mp (h c List.mem_cons_self)).elim (fun z => absurd z e) id
        have hdc := hL.1 c hc
        refine List.mem_append.mpr (.inl (mem_subs hL.2 (List.pairwise_cons.mpr hp) fun x hx => ?_))
        rcases List.mem_cons.mp (h x hx) with z | z
        · rcases List.mem_cons.mp hx with y | y
          · exact absurd (y.symm.trans z) e
          · have := hp.1 x y
            omega
        · exact z
theorem LET_up : LET.Pairwise (· < ·) := by decide
theorem Frm.len {f : List Str} (h : Frm f) : f.length ≤ 512 := by
  have h1 : (f.map sg).Nodup := by
    rw [List.nodup_iff_pairwise_ne, List.pairwise_map]
    exact (List.nodup_iff_pairwise_ne.mp h.nd).imp fun z e => z (sg_inj e)
  have h2 := h1.length_le_of_subset (l₂ := subs LET) fun x hx => by
    obtain ⟨p, hp, rfl⟩ := List.mem_map.mp hx
    exact mem_subs LET_up (h.prd p hp).up (h.prd p hp).le
  rw [List.length_map] at h2
  exact Nat.le_trans h2 (by decide +kernel)
theorem Prd.len {p : Str} (h : Prd p) : (sg p).length ≤ 9 := by
  have n : (sg p).Nodup := h.up.imp fun h => Nat.ne_of_lt h
  exact n.length_le_of_subset (l₂ := LET) h.le
def one (c : Nat) : Str := ⟨#[c]⟩
theorem sg_one (c : Nat) : sg (one c) = [c] := rfl
theorem one_inj {a b : Nat} (h : one a = one b) : a = b := by
  have := congrArg sg h
  simpa [sg_one] using this
theorem signs_eq (z : Str) : signs z = (sg z).map one := rfl
theorem leS_one {a b : Nat} : leS (one a) (one b) = true ↔ a ≤ b := by
  unfold leS
  rw [decide_eq_true_iff]
  show [a] ≤ [b] ↔ _
  rw [List.cons_le_cons_iff]
  constructor
  · rintro (h | h) <;> omega
  · intro h
    rcases Nat.lt_or_eq_of_le h with h | h
    · exact .inl h
    · exact .inr ⟨h, by simp⟩
theorem ones_of {L : List Str} (h : ∀ x ∈ L, ∃ c, x = one c) : ∃ cs : List Nat, L = cs.map one := by
  induction L with
  | nil => exact ⟨[], rfl⟩
  | cons x L ih =>
    obtain ⟨c, rfl⟩ := h x List.mem_cons_self
    obtain ⟨cs, rfl⟩ := ih fun y hy => h y (List.mem_cons_of_mem _ hy)
    exact ⟨c :: cs, rfl⟩
theorem flat_ones (cs : List Nat) : ((cs.map one).map sg).flatten = cs := by
  induction cs with
  | nil => rfl
  | cons c cs ih =>
    rw [List.map_cons, List.map_cons, List.flatten_cons, ih]; rfl
def lets (z : Str) : Str := Txt.join "" (srtset (signs z))
theorem sg_nil : sg "" = [] := by decide +kernel
theorem srtset_signs (z : Str) : ∃ cs : List Nat, srtset (signs z) = cs.map one ∧ cs.Pairwise (· < ·) ∧ ∀ c, c ∈ cs ↔ c ∈ sg z := by
  obtain ⟨cs, e⟩ := ones_of (L := srtset (signs z)) fun x hx => by
    have := mem_srtset.mp hx
    rw [signs_eq] at this
    obtain ⟨c, _, rfl⟩ := List.mem_map.mp this
    exact ⟨c, rfl⟩
  refine ⟨cs, e, ?_, fun c => ?_⟩
  · have h1 : (cs.map one).Pairwise fun a b => leS a b = true := by rw [← e]; exact srt_pw _
    have h2 : (cs.map one).Nodup := by rw [← e]; exact nodup_srtset _
    rw [List.pairwise_map] at h1
    rw [List.nodup_iff_pairwise_ne, List.pairwise_map] at h2
    refine (h1.and h2).imp fun h => ?_
    have := leS_one.mp h.1
    have h3 : ∀ {a b : Nat}, one a ≠ one b → a ≠ b := fun z e => z (e ▸ rfl)
    exact Nat.lt_of_le_of_ne this (h3 h.2)
  · have h1 : one c ∈ srtset (signs z) ↔ one c ∈ signs z := mem_srtset
    rw [e, signs_eq] at h1
    constructor
    · intro h
      obtain ⟨d, hd, ed⟩ := List.mem_map.mp (h1.mp (List.mem_map.mpr ⟨c, h, rfl⟩))
      exact one_inj ed ▸ hd
    · intro h
      obtain ⟨d, hd, ed⟩ := List.mem_map.mp (h1.mpr (List.mem_map.mpr ⟨c, h, rfl⟩))
      exact one_inj ed ▸ hd
theorem sg_lets (z : Str) : (sg (lets z)).Pairwise (· < ·) ∧ ∀ c, c ∈ sg (lets z) ↔ c ∈ sg z := by
  obtain ⟨cs, e, h1, h2⟩ := srtset_signs z
  have : sg (lets z) = cs := by
    unfold lets
    rw [sg_join0 sg_nil, e, flat_ones]
  rw [this]
  exact ⟨h1, h2⟩
theorem prd_lets {z : Str} (h : ∀ c ∈ sg z, c ∈ LET) : Prd (lets z) := ⟨(sg_lets z).1, fun c hc => h c (((sg_lets z).2 c).mp hc)⟩
theorem tr_lets (r : Nat → Bool) (z : Str) : tr r (lets z) = (sg z).all r := by
  unfold tr
  rw [Bool.eq_iff_iff, List.all_eq_true, List.all_eq_true]
  exact ⟨fun h c hc => h c (((sg_lets z).2 c).mpr hc), fun h c hc => h c (((sg_lets z).2 c).mp hc)⟩
def bothF (p q : Str) : Str := lets (p ++ q)
theorem prd_both {p q : Str} (hp : Prd p) (hq : Prd q) : Prd (bothF p q) := prd_lets fun c hc => by
  rw [sg_append] at hc
  exact (List.mem_append.mp hc).elim (hp.le c) (hq.le c)
theorem tr_both (r : Nat → Bool) (p q : Str) : tr r (bothF p q) = (tr r p && tr r q) := by
  rw [bothF, tr_lets, sg_append, List.all_append]; rfl
def addedF (a b : List Str) : List Str := gath (a ++ b)
def pairsF (a b : List Str) : List Str := a.flatMap fun p => b.map (bothF p)
def mulF (a b : List Str) : List Str := gath (pairsF a b)
def oneF : List Str := [""]
def oppF (a : List Str) : List Str := addedF a oneF
def joinF (a b : List Str) : List Str := addedF (addedF a b) (mulF a b)
theorem prd_nil : Prd "" := ⟨by rw [sg_nil]; exact .nil, by rw [sg_nil]; simp⟩
theorem frm_nil : Frm [] := ⟨.nil, .nil, by simp⟩
theorem frm_one : Frm oneF := ⟨by simp [oneF], by simp [oneF], fun p hp => by simp [oneF] at hp; subst hp; exact prd_nil⟩
theorem frm_added {a b : List Str} (ha : Frm a) (hb : Frm b) : Frm (addedF a b) := gath_frm fun p hp => (List.mem_append.mp hp).elim (ha.prd p) (hb.prd p)
theorem prd_pairs {a b : List Str} (ha : ∀ p ∈ a, Prd p) (hb : ∀ p ∈ b, Prd p) : ∀ p ∈ pairsF a b, Prd p := fun p hp => by
  obtain ⟨x, hx, h⟩ := List.mem_flatMap.mp hp
  obtain ⟨y, hy, rfl⟩ := List.mem_map.mp h
  exact prd_both (ha x hx) (hb y hy)
theorem frm_mul {a b : List Str} (ha : Frm a) (hb : Frm b) : Frm (mulF a b) := gath_frm (prd_pairs ha.prd hb.prd)
theorem frm_opp {a : List Str} (ha : Frm a) : Frm (oppF a) := frm_added ha frm_one
theorem frm_join {a b : List Str} (ha : Frm a) (hb : Frm b) : Frm (joinF a b) := frm_added (frm_added ha hb) (frm_mul ha hb)
theorem val_added (r : Nat → Bool) (a b : List Str) : val r (addedF a b) = xor (val r a) (val r b) := by rw [addedF, val_gath, val_append]
theorem countP_pairs (r : Nat → Bool) (b : List Str) : ∀ a : List Str, (pairsF a b).countP (tr r) = a.countP (tr r) * b.countP (tr r)
  | [] => by simp [pairsF]
  | p :: a => by
    show ((p :: a).flatMap _).countP _ = _
    rw [List.flatMap_cons, List.countP_append, List.countP_cons, show (a.flatMap fun p => b.map (bothF p)).countP (tr r) = _ from countP_pairs r b a, List.countP_map]
    by_cases h : tr r p = true
    · rw [if_pos h, Nat.add_mul, Nat.one_mul, Nat.add_comm]
      congr 1
      apply List.countP_congr
      intro q _
      simp [Function.comp, tr_both, h]
    · rw [if_neg h, Nat.add_zero]
      have : b.countP (tr r ∘ bothF p) = 0 := by
        rw [List.countP_eq_zero]
        intro q _
        simp [Function.comp, tr_both, h]
      rw [this, Nat.zero_add]
theorem val_mul (r : Nat → Bool) (a b : List Str) : val r (mulF a b) = (val r a && val r b) := by
  rw [mulF, val_gath, countP_pairs]
  unfold val
  rcases Nat.mod_two_eq_zero_or_one (a.countP (tr r)) with h | h <;> rcases Nat.mod_two_eq_zero_or_one (b.countP (tr r)) with g | g <;> simp [Nat.mul_mod, h, g]
theorem val_nil (r : Nat → Bool) : val r [] = false := rfl
theorem val_one (r : Nat → Bool) : val r oneF = true := by
  have : tr r "" = true := by unfold tr; rw [sg_nil]; rfl
  simp [val, oneF, this]
theorem val_opp (r : Nat → Bool) (a : List Str) : val r (oppF a) = !val r a := by rw [oppF, val_added, val_one]; cases val r a <;> rfl
theorem val_join (r : Nat → Bool) (a b : List Str) : val r (joinF a b) = (val r a || val r b) := by
  rw [joinF, val_added, val_added, val_mul]; cases val r a <;> cases val r b <;> rfl
theorem pairs_len (b : List Str) : ∀ a : List Str, (pairsF a b).length = a.length * b.length
  | [] => by simp [pairsF]
  | p :: a => by
    show ((p :: a).flatMap _).length = _
    rw [List.flatMap_cons, List.length_append, List.length_map, show (a.flatMap fun p => b.map (bothF p)).length = _ from pairs_len b a, List.length_cons, Nat.succ_mul, Nat.add_comm]
end DL
namespace DL
open PySem L2
section
variable {K : PySem.W.Frag} {X : Cx} {Z : Zx} {pos p p2 p3 apos cpos : Pos} {a b e o : Expr} {ta tb te to : TE} {wa wb we wo : W} {i : Nat}
def tyD : D → Option String
  | .non => some "NoneType" | .bl _ => some "bool" | .int _ => some "int" | .str _ => some "str" | .cel _ => some "list" | .lst _ => some "list" | .tup _ => some "tuple" | .dic _ _ => some "dict"
  | _ => none
def isiB (t c : String) : Option Bool := match t, c with
  | "NoneType", "bool" => some false | "NoneType", "int" => some false | "NoneType", "str" => some false | "NoneType", "list" => some false | "NoneType", "tuple" => some false | "NoneType", "dict" => some false
  | "bool", "bool" => some true | "bool", "int" => some true | "bool", "str" => some false | "bool", "list" => some false | "bool", "tuple" => some false | "bool", "dict" => some false
  | "int", "bool" => some false | "int", "int" => some true | "int", "str" => some false | "int", "list" => some false | "int", "tuple" => some false | "int", "dict" => some false
  | "str", "bool" => some false | "str", "int" => some false | "str", "str" => some true | "str", "list" => some false | "str", "tuple" => some false | "str", "dict" => some false
  | "list", "bool" => some false | "list", "int" => some false | "list", "str" => some false | "list", "list" => some true | "list", "tuple" => some false | "list", "dict" => some false
  | "tuple", "bool" => some false | "tuple", "int" => some false | "tuple", "str" => some false | "tuple", "list" => some false | "tuple", "tuple" => some true | "tuple", "dict" => some false
  | "dict", "bool" => some false | "dict", "int" => some false | "dict", "str" => some false | "dict", "list" => some false | "dict", "tuple" => some false | "dict", "dict" => some true
  | _, _ => none
def oIsi : OL := fun ds P => match ds with
  | [x, .ty c] => asA (tyD x) fun t => asA (isiB t c) fun b => P (.d (.bl b))
  | _ => False
def oDict : OL := fun ds P => match ds with
  | [.dic ks xs] => P (.od (ks.zip xs))
  | _ => False
def wDisp1 (wk wv : W) : W := fun ρ P => wk (dataR ρ) fun k ρ1 => wv ρ1 fun v _ => asKey k.fz fun key => P (.od [(key, v.fz)]) ρ
abbrev WO := R → (Option Int → R → Prop) → Prop
structure DO (K : PySem.W.Frag) (X : Cx) (Z : Zx) (e : Option Expr) (t : TO) (w : WO) : Prop where
  pe : PO X e t
  run : ∀ {H0 F0 F H : Hp} {ρ : R} {σ : St} {Q : Option Int → Hp → Prop} {P : Option Int → R → Prop}, Z.Ok K H0 F0 → Rel K H0 F0 F H ρ σ → w ρ P → (∀ o ρ' F' H', P o ρ' → Same F F' → Rel K H0 F0 F' H' ρ' σ → Q o H') → t σ H Q
def wNoP : WO := fun ρ P => P none ρ
def wPart (we : W) : WO := fun ρ P => we ρ fun s ρ1 => asI s.fz fun i => P (some i) ρ1
theorem do_none : DO K X Z none tNoPart wNoP := ⟨po_none, fun {H0 F0 F H ρ σ Q P} zo rl h k => k _ _ F H h (Same.refl _) rl⟩
theorem do_some (h : DE K X Z e te we) : DO K X Z (some e) (tPart te) (wPart we) := ⟨po_some h.pe, fun {H0 F0 F H ρ σ Q P} zo rl q k => h.run zo rl q fun s1 ρ1 F1 H1 v1 h1 f1 r1 sr1 fr1 => by
  obtain ⟨F2, f2, r2, rp2⟩ := r1.freeze sr1 fr1
  obtain ⟨i, rfl, h1⟩ := asI_of h1 rp2
  exact ⟨i, rfl, k _ _ _ _ h1 (f1.trans f2) r2⟩⟩
def cutD {α : Type} (xs : List α) (lo hi : Option Int) : List α := (xs.drop (HT.sIx xs.length 0 lo)).take (HT.sIx xs.length xs.length hi - HT.sIx xs.length 0 lo)
theorem cut_reps {F : Hp} {xs : List D} {vs : List V} (r : Reps K F xs vs) (lo hi : Option Int) : Reps K F (cutD xs lo hi) (cutV vs lo hi) := by
  unfold cutD cutV
  rw [r.len]
  exact (r.drop _).take _
theorem cut_all {α : Type} {xs : List α} {lo hi : Option Int} (h1 : HT.sIx xs.length 0 lo = 0) (h2 : HT.sIx xs.length xs.length hi = xs.length) : cutD xs lo hi = xs := by
  unfold cutD
  rw [h1, h2, List.drop_zero, Nat.sub_zero, List.take_length]
def oSl (x : D) (lo hi : Option Int) (P : S → Prop) : Prop := match x with
  | .lst xs => P (.ol (cutD xs lo hi))
  | .tup xs => P (.d (.tup (cutD xs lo hi)))
  | .str z => z.length ≤ sizeLine ∧ P (.d (.str (cutS z lo hi)))
  | _ => False
abbrev rSlX' (K : PySem.W.Frag) : V → Option Int → Option Int → Hp → VK → Prop := fun x lo hi H Q => rSlL K x lo hi H Q ∨ rSlA K x lo hi H Q ∨ rSlS x lo hi H Q
theorem sl_X : SlR X (rSlX' X.K) := sl_list.or (sl_tupA.or sl_str)
def wSl (we : W) (wl wh : WO) : W := fun ρ P => we ρ fun s ρ1 => wl ρ1 fun l ρ2 => wh ρ2 fun u ρ3 => oSl s.fz l u fun r => P r ρ3
theorem de_sl {lo hi : Option Expr} {tl th : TO} {wl wh : WO} (he : DE K X Z e te we) (hl : DO K X Z lo tl wl) (hu : DO K X Z hi th wh) (hK : X.K = K := by rfl) : DE K X Z (.Subscript e (.Slice lo hi none p2) pos) (tSl (rSlX' K) te tl th) (wSl we wl wh) := by
  subst hK
  refine ⟨pe_slice sl_X he.pe hl.pe hu.pe, fun {H0 F0 F H ρ σ Q P} zo rl h k => he.run zo rl h fun s1 ρ1 F1 H1 v1 h1 f1 r1 sr1 fr1 => ?_⟩
  obtain ⟨F2, f2, r2, rp2⟩ := r1.freeze sr1 fr1
  refine hl.run zo r2 h1 fun l ρ3 F3 H3 h3 f3 r3 => hu.run zo r3 h3 fun u ρ4 F4 H4 h4 f4 r4 => ?_
  have rp4 := Rep.mono (f3.trans f4) _ _ rp2
  have kk := Rel.kont r4 (f1.trans (f2.trans (f3.trans f4))) k
  unfold oSl at h4
  split at h4
  · rename_i xs e
    rw [e] at rp4
    obtain ⟨a, vs, rfl, h1, h2⟩ := rp4
    exact .inl ⟨a, vs, rfl, SqL.of (r4.fh _ _ h1), fun p n => kk.newL r4.fh h4 (cut_reps h2 l u) n⟩
  · rename_i xs e
    rw [e] at rp4
    obtain ⟨a, vs, rfl, h1, h2⟩ := rp4
    refine .inr (.inl ⟨a, vs, rfl, Same.sqT r4.fh h1, fun z => ?_, fun _ p n => kk.newT r4.fh h4 (cut_reps h2 l u) n⟩)
    rw [h2.len] at z
    rw [cut_all z.1 z.2] at h4
    exact kk.flat r4.fh h4 ⟨a, vs, rfl, h1, h2⟩
  · rename_i z e
    rw [e] at rp4
    cases (show v1 = _ from rp4)
    exact .inr (.inr ⟨z, rfl, h4.1, kk.flat (d := .str _) r4.fh h4.2 rfl⟩)
  · exact h4.elim
def oRemove : List D → List D → (S → List D → Prop) → Prop := fun xs ds P => match ds with
  | [.str k] => asA (txts xs) fun ss => k ∈ ss ∧ P (.d .non) ((ss.erase k).map .str)
  | _ => False
end
end DL
namespace DL
open PySem L2
def Ites (x : Str) : It :=
  ⟨fun i _ => i < x.cps.size, fun i H v H' => ∃ T c, v = .ref T ∧ H T = none ∧ H' = upd H T (.tup [.int (i : Nat), .str ⟨#[c]⟩]) ∧ x.cps[i]? = some c, fun i _ => x.cps.size ≤ i⟩
theorem turn_enumS {P : Program} {w : World} {K : PySem.W.Frag} {elts : List Expr} {kk : Nat} {tpos : Pos} (e it : Addr) (hne : e ≠ it) (x : Str) (t : Tok) :
    Turn P w K (.Tuple elts kk tpos) (Ites x) [e, it] e (fun i h => ((∃ old, IsEnum h e it ((i : Nat) : Int) old) ∧ h.IsStrIter it (strIterType x) x t i) ∧ i ≤ x.cps.size) where
  mem := by simp
  obj := fun i h st b hb => by
    obtain ⟨⟨⟨old, he⟩, ⟨o, ho, hc, hd⟩⟩, _⟩ := st
    have e' : b = e ∨ b = it := by simpa using hb
    rcases e' with z | z
    · subst z
      exact ⟨_, he, fun v z => by cases z⟩
    · subst z
      exact ⟨o, ho, fun v z => by rw [hd] at z; cases z⟩
  keep := fun i h h' st k => by
    obtain ⟨⟨⟨old, he⟩, hs⟩, hle⟩ := st
    exact ⟨⟨⟨old, k e (by simp) _ he⟩, let ⟨o, ho, r⟩ := hs; ⟨o, k it (by simp) o ho, r⟩⟩, hle⟩
  item := by
    intro X hP hw hK hc i pins s σ H E I hf st hg
    subst hP hw hK
    have hh : X.A.in1.handled = none := by simp [I.ok.hd hc]
    have W := WalksT.enumerateD (A := X.A) (Draws.text (prog := X.prog) (w := X.w) hh it x t) e hne (by simpa using hne) (by simp)
    have hi : i < x.cps.size := hg
    refine W.item i s _ _ hi st.1 fun T vals h' tk hpt hT hIs mid kp => ⟨_, rfl, ?_⟩
    refine W.go elts kk tpos i T { s with heap := h', toks := tk } _ _ mid fun h'' st'' kp2 => ?_
    obtain ⟨tt, u, ⟨c, cu, hc', rfl⟩, rfl⟩ := hpt
    have hTw := W.apart i T h' mid
    obtain ⟨oT, hoT, q1, q2⟩ := hIs
    have hoT2 := kp2 T oT hTw hoT
    have new : ObjOk X.prog X.w (upd H T (.tup [.int (i : Nat), .str ⟨#[c]⟩])) h'' T (.tup [.int (i : Nat), .str ⟨#[c]⟩]) :=
      ⟨by show 2 ≤ sizeLine; decide, [.int (i : Nat) tt, .str ⟨#[c]⟩ cu], .cons ⟨_, rfl⟩ (.cons ⟨_, rfl⟩ .nil), ⟨oT, hoT2, q1, q2⟩⟩
    have I1 : Inv X pins σ (upd H T (.tup [.int (i : Nat), .str ⟨#[c]⟩])) { s with heap := h'', toks := tk } :=
      I.turnedNew (ch := [e, it]) (fun b o hb q => kp2 b o hb (kp b o hb q)) hf hT new
    refine ⟨.ref T, _, I1, rfl, ⟨T, c, rfl, I.hok.fresh hT, rfl, hc'⟩, ⟨st'', hi⟩, fun b hb => ?_⟩
    have hb' : b ≠ T := fun z => hTw (z ▸ hb)
    rw [upd_ne hb']
    exact (hf b hb).1
  done := by
    intro X hP hw hK hc i pins s σ H E I hf st hg
    subst hP hw hK
    have hh : X.A.in1.handled = none := by simp [I.ok.hd hc]
    have W := WalksT.enumerateD (A := X.A) (Draws.text (prog := X.prog) (w := X.w) hh it x t) e hne (by simpa using hne) (by simp)
    have hi : i = x.cps.size := Nat.le_antisymm st.2 hg
    subst hi
    exact W.done s _ _ st.1 fun h' tk kp => ⟨rfl, I.turnedL (t' := tk) (ch := [e, it]) (fun b o hb q => kp b o hb q) hf⟩
  self := fun A i s Q E st h => let ⟨⟨⟨_, he⟩, _⟩, _⟩ := st; wpAny_pyIter_enum he h
def iEnumX (K : PySem.W.Frag) (ta : TA) : TI := fun σ H R => ta σ H fun vs H1 => (∃ a xs, vs = [.ref a] ∧ SqL K H1 a xs ∧ R (Ite K a) H1) ∨ ∃ x, vs = [.str x] ∧ R (Ites x) H1
theorem pi_enumX {X : Cx} {e : Expr} {ta : TA} {p pos tpos : Pos} {elts : List Expr} {kk : Nat} (hg : Gl X "enumerate") (hm : X.mg "enumerate" = none) (ha : PA X [e] ta) (hs : starEach [e] X.env = [(false, eval e X.env)] := by rfl) :
    PI X (.Tuple elts kk tpos) (.Call (.Name "enumerate" p) [e] [] pos) (iEnumX X.K ta) := by
  refine ⟨fun pins s σ H R I h => ?_⟩
  refine PyProof.Rows.Call_ (ld_blt I hg hm PyProof.Rows.boot_enumerate (PyProof.Rows.callWith_type1 (L2.thn (ha.run pos pins s σ H _ I h) fun us s1 ⟨vs, H1, I1, r1, q1⟩ => ?_) hs rfl))
  rcases q1 with ⟨a, xs, ex, hq, q⟩ | ⟨x, ex, q⟩
  · subst ex
    cases r1 with
    | cons r rr =>
      cases rr
      cases r
      obtain ⟨its, rv, p', hz⟩ := I1.list hq
      refine call_enumerate_list p'.isList fun h' he hit hsz hk => wpAny_pyIter_enum he ?_
      have I2 : Inv X pins σ H1 { s1 with heap := h' } := I1.kept (t' := s1.toks) hk
      refine ⟨s1.heap.objs.size + 1, [s1.heap.objs.size + 1, s1.heap.objs.size], _, _, H1, rfl, I2, turn_enum a (s1.heap.objs.size + 1) s1.heap.objs.size, ⟨⟨.none, he⟩, hit, Nat.succ_ne_self _⟩, fun b hb => ?_, q⟩
      have e' : b = s1.heap.objs.size + 1 ∨ b = s1.heap.objs.size := by simpa using hb
      have hle : s1.heap.objs.size ≤ b := by
        rcases e' with z | z
        · rw [z]; exact Nat.le_add_right _ _
        · rw [z]; exact Nat.le_refl _
      exact I1.fpOk hle (I1.hok.fresh hle)
  · subst ex
    cases r1 with
    | cons r rr =>
      cases rr
      obtain ⟨t, rfl⟩ := r
      refine call_enumerate_str fun h' he hit hsz hk => wpAny_pyIter_enum he ?_
      have I2 : Inv X pins σ H1 { s1 with heap := h' } := I1.kept (t' := s1.toks) hk
      refine ⟨s1.heap.objs.size + 1, [s1.heap.objs.size + 1, s1.heap.objs.size], _, _, H1, rfl, I2, turn_enumS (s1.heap.objs.size + 1) s1.heap.objs.size (Nat.succ_ne_self _) x t, ⟨⟨⟨.none, he⟩, hit⟩, Nat.zero_le _⟩, fun b hb => ?_, q⟩
      have e' : b = s1.heap.objs.size + 1 ∨ b = s1.heap.objs.size := by simpa using hb
      have hle : s1.heap.objs.size ≤ b := by
        rcases e' with z | z
        · rw [z]; exact Nat.le_add_right _ _
        · rw [z]; exact Nat.le_refl _
      exact I1.fpOk hle (I1.hok.fresh hle)
def wiEnumX (wa : WA) : WA := fun ρ P => wa ρ fun ds ρ1 => match ds with
  | [.cel ns] => P (enumD 0 (ns.map .int)) ρ1
  | [.lst xs] => P (enumD 0 xs) ρ1
  | [.str z] => P (enumD 0 ((signs z).map .str)) ρ1
  | _ => False
section
variable {K : PySem.W.Frag} {X : Cx} {Z : Zx} {pos p : Pos} {e : Expr}
theorem di_enumX {ta : TA} {wa : WA} {elts : List Expr} {kk : Nat} {tpos : Pos} (hm : X.mg "enumerate" = none) (ha : DA K X Z [e] ta wa) (hg : Gl X "enumerate" := by rfl) (hs : starEach [e] X.env = [(false, eval e X.env)] := by rfl) (hK : X.K = K := by rfl) :
    DI K X Z (.Tuple elts kk tpos) (.Call (.Name "enumerate" p) [e] [] pos) (iEnumX K ta) (wiEnumX wa) := by
  refine ⟨by subst hK; exact pi_enumX hg hm ha.pe hs, fun {H0 F0 F H ρ σ Q P} zo rl h k => ha.run zo rl h fun ds ρ1 F1 H1 vs h1 f1 r1 rps => ?_⟩
  have lst : ∀ {a : Addr} {vs' : List V} {xs : List D}, vs = [.ref a] → SqL K F1 a vs' → Reps K F1 xs vs' → P (enumD 0 xs) ρ1 → iEnumX K (fun σ H Q => Q vs H1) σ H1 Q := fun {a vs' xs} e s1 s2 h1 => by
    refine .inl ⟨a, vs', e, r1.fh.seq s1, k _ ρ1 F1 H1 _ h1 f1 r1 ⟨fun {i F H} f g l => ?_, fun {i F H} f g l => ?_, fun {i F H H2 x} f g y l => ?_⟩⟩
    · have hl : i < vs'.length := by rw [s2.len]; rw [enumD_len] at l; exact l
      exact ⟨vs', vs'[i], g.seq (f.seq s1), List.getElem?_eq_getElem hl⟩
    · exact ⟨vs', g.seq (f.seq s1), by rw [s2.len]; rw [enumD_len] at l; exact l⟩
    · obtain ⟨T, u, rfl, n, rfl, y⟩ := y
      obtain ⟨d, e, r⟩ := s2.get' (y vs' (g.seq (f.seq s1)))
      refine ⟨upd F T (.tup [.int (i : Nat), u]), _, enumD_get xs 0 i d e, Same.new n, Same.new (g.free n), upd_both g n, nw_upd n, ⟨T, _, rfl, SqT.of upd_same, ?_⟩⟩
      exact ⟨_, _, rfl, by rw [Nat.zero_add]; rfl, _, _, rfl, Rep.mono (f.trans (Same.new (g.free n))) _ _ r, rfl⟩
  split at h1
  · obtain ⟨v, _, rfl, ⟨a, rfl, s1⟩, rfl⟩ := rps
    exact lst rfl s1 (Reps.ints.mpr rfl) h1
  · obtain ⟨v, _, rfl, ⟨a, vs', rfl, s1, s2⟩, rfl⟩ := rps
    exact lst rfl (SqL.of s1) s2 h1
  · rename_i z
    obtain ⟨v, _, rfl, rfl, rfl⟩ := rps
    have hlen : ((signs z).map D.str).length = z.cps.size := by simp [signs]
    refine .inr ⟨z, rfl, k _ ρ1 F1 H1 _ h1 f1 r1 ⟨fun {i F H} f g l => ?_, fun {i F H} f g l => ?_, fun {i F H H2 x} f g y l => ?_⟩⟩
    · rw [enumD_len, hlen] at l; exact l
    · rw [enumD_len, hlen] at l; exact l
    · obtain ⟨T, c, rfl, n, rfl, hc⟩ := y
      have hc' : z.cps.toList[i]? = some c := by rw [Array.getElem?_toList]; exact hc
      refine ⟨upd F T (.tup [.int (i : Nat), .str ⟨#[c]⟩]), _, enumD_get _ 0 i (.str ⟨#[c]⟩) (by simp [signs, hc']), Same.new n, Same.new (g.free n), upd_both g n, nw_upd n, ⟨T, _, rfl, SqT.of upd_same, ?_⟩⟩
      exact ⟨_, _, rfl, by rw [Nat.zero_add]; rfl, _, _, rfl, rfl, rfl⟩
  · exact h1.elim
end
end DL
set_option maxHeartbeats 1000000
namespace DL
open PySem PySem.Spec PyProof.Rows RT L2
def IsRs (h : Heap) (a : Addr) (x : Str) (t : Tok) (i : Int) : Prop := ∃ o, h.get? a = some o ∧ o.cls = .type "reversed" ∧ o.data = .fields #[.str x t, rawInt i]
section
variable {prog : Program} {w : World} {A : Around} {E : Value → Shared → Prop} {s : Shared} {x : Str} {t : Tok}
theorem IsRs.ty {a : Addr} {i : Int} (h : IsRs s.heap a x t i) : s.TypeIs (.ref a) "reversed" := let ⟨o, ho, hc, _⟩ := h; ⟨o, ho, hc⟩
end
end DL
namespace DL
open PySem L2
def revItems (d : D) (P : List D → Prop) : Prop := match d with
  | .cel ns => P (ns.map .int).reverse
  | .lst xs => P xs.reverse
  | .tup xs => P xs.reverse
  | .str z => z.length ≤ sizeLine ∧ P ((signs z).reverse.map .str)
  | _ => False
def wiRev (we : W) : WA := fun ρ P => we ρ fun s ρ1 => revItems s.fz fun xs => P xs ρ1
end DL
namespace DL
open PySem L2
section
variable {K : PySem.W.Frag} {d : Addr} {od : Obj} {l : List (Key × V)} {A B : Hp}
def lkO (od : Obj) : HO → HO
  | .dK l => .frz od (.dK l)
  | o => o
def ulO : HO → HO
  | .frz _ u => u
  | o => o
def lk (d : Addr) (od : Obj) (A : Hp) : Hp := fun a => if a = d then (A a).map (lkO od) else A a
def ul (d : Addr) (A : Hp) : Hp := fun a => if a = d then (A a).map ulO else A a
theorem lk_none {a : Addr} : lk d od A a = none ↔ A a = none := by
  unfold lk; split
  · simp
  · rfl
theorem ul_none {a : Addr} : ul d A a = none ↔ A a = none := by
  unfold ul; split
  · simp
  · rfl
theorem Same.lk (e : Same A B) : Same (lk d od A) (lk d od B) := fun a u q => by
  unfold DL.lk at q ⊢
  by_cases h : a = d
  · rw [if_pos h] at q ⊢
    cases h2 : A a with
    | none => rw [h2] at q; cases q
    | some o => rw [h2] at q; rw [e _ _ h2]; exact q
  · rw [if_neg h] at q ⊢; exact e _ _ q
theorem Same.ul (e : Same A B) : Same (ul d A) (ul d B) := fun a u q => by
  unfold DL.ul at q ⊢
  by_cases h : a = d
  · rw [if_pos h] at q ⊢
    cases h2 : A a with
    | none => rw [h2] at q; cases q
    | some o => rw [h2] at q; rw [e _ _ h2]; exact q
  · rw [if_neg h] at q ⊢; exact e _ _ q
def PlO (o : HO) : Prop := (∃ xs, o = .lst xs) ∨ (∃ xs, o = .tup xs) ∨ ∃ l, o = .dK l
mutual
theorem Rep.via (h1 : ∀ a o, PlO o → Rd A a o → Rd B a o) (h2 : ∀ a xs, A a = some (.lst xs) → B a = some (.lst xs)) (h3 : ∀ a C dx fs, A a = some (.ins C dx fs) → B a = some (.ins C dx fs)) : ∀ (x : D) (v : V), Rep K A x v → Rep K B x v
  | .non, _, h => h
  | .bl _, _, h => h
  | .int _, _, h => h
  | .str _, _, h => h
  | .ref _, _, h => h
  | .ty _, _, h => h
  | .cel ns, _, h => by
    obtain ⟨a, e1, h⟩ := h
    rcases h with h | h
    · exact ⟨a, e1, .inl (h1 _ _ (.inl ⟨_, rfl⟩) h)⟩
    · exact ⟨a, e1, .inr h⟩
  | .lst xs, _, h => by
    obtain ⟨a, vs, e1, q1, q2⟩ := h
    exact ⟨a, vs, e1, h2 _ _ q1, Reps.via h1 h2 h3 xs vs q2⟩
  | .tup xs, _, h => by
    obtain ⟨a, vs, e1, q1, q2⟩ := h
    rcases q1 with q1 | q1
    · exact ⟨a, vs, e1, .inl (h1 _ _ (.inr (.inl ⟨_, rfl⟩)) q1), Reps.via h1 h2 h3 xs vs q2⟩
    · exact ⟨a, vs, e1, .inr q1, Reps.via h1 h2 h3 xs vs q2⟩
  | .dic ks xs, _, h => by
    obtain ⟨a, vs, e1, q1, q, q2⟩ := h
    exact ⟨a, vs, e1, h1 _ _ (.inr (.inr ⟨_, rfl⟩)) q1, q, Reps.via h1 h2 h3 xs vs q2⟩
  | .ins C ns xs, _, h => by
    obtain ⟨a, C, dx, vs, e1, g, q1, q, q2⟩ := h
    exact ⟨a, C, dx, vs, e1, g, h3 _ _ _ _ q1, q, Reps.via h1 h2 h3 xs vs q2⟩
theorem Reps.via (h1 : ∀ a o, PlO o → Rd A a o → Rd B a o) (h2 : ∀ a xs, A a = some (.lst xs) → B a = some (.lst xs)) (h3 : ∀ a C dx fs, A a = some (.ins C dx fs) → B a = some (.ins C dx fs)) : ∀ (xs : List D) (vs : List V), Reps K A xs vs → Reps K B xs vs
  | [], _, h => h
  | x :: xs, _, h => by
    obtain ⟨v, r, e1, q1, q2⟩ := h
    exact ⟨v, r, e1, Rep.via h1 h2 h3 x v q1, Reps.via h1 h2 h3 xs r q2⟩
end
theorem lk_at {a : Addr} (h : a ≠ d) : lk d od A a = A a := if_neg h
theorem ul_at {a : Addr} (h : a ≠ d) : ul d A a = A a := if_neg h
theorem rd_lk (h : A d = some (.dK l)) : ∀ a o, PlO o → Rd A a o → Rd (lk d od A) a o := fun a o _ q => by
  by_cases e : a = d
  · subst e
    rcases q with q | ⟨o', q⟩
    · rw [h] at q; cases q
      exact .inr ⟨od, by unfold lk; rw [if_pos rfl, h]; rfl⟩
    · rw [h] at q; cases q
  · rcases q with q | ⟨o', q⟩
    · exact .inl (by rw [lk_at e]; exact q)
    · exact .inr ⟨o', by rw [lk_at e]; exact q⟩
theorem rd_ul (h : A d = some (.frz od (.dK l))) : ∀ a o, PlO o → Rd A a o → Rd (ul d A) a o := fun a o po q => by
  by_cases e : a = d
  · subst e
    rcases q with q | ⟨o', q⟩
    · rw [h] at q; cases q
      rcases po with ⟨_, z⟩ | ⟨_, z⟩ | ⟨_, z⟩ <;> cases z
    · rw [h] at q; cases q
      exact .inl (by unfold ul; rw [if_pos rfl, h]; rfl)
  · rcases q with q | ⟨o', q⟩
    · exact .inl (by rw [ul_at e]; exact q)
    · exact .inr ⟨o', by rw [ul_at e]; exact q⟩
theorem Rep.lk {x : D} {v : V} (h : A d = some (.dK l)) (r : Rep K A x v) : Rep K (lk d od A) x v :=
  Rep.via (rd_lk h) (fun a xs q => by rw [lk_at (fun e => by rw [e, h] at q; cases q)]; exact q) (fun a C dx fs q => by rw [lk_at (fun e => by rw [e, h] at q; cases q)]; exact q) x v r
theorem Rep.ul {x : D} {v : V} (h : A d = some (.frz od (.dK l))) (r : Rep K A x v) : Rep K (ul d A) x v :=
  Rep.via (rd_ul h) (fun a xs q => by rw [ul_at (fun e => by rw [e, h] at q; cases q)]; exact q) (fun a C dx fs q => by rw [ul_at (fun e => by rw [e, h] at q; cases q)]; exact q) x v r
theorem Reps.lk {xs : List D} {vs : List V} (h : A d = some (.dK l)) (r : Reps K A xs vs) : Reps K (DL.lk d od A) xs vs :=
  Reps.via (rd_lk h) (fun a xs q => by rw [lk_at (fun e => by rw [e, h] at q; cases q)]; exact q) (fun a C dx fs q => by rw [lk_at (fun e => by rw [e, h] at q; cases q)]; exact q) xs vs r
theorem Reps.ul {xs : List D} {vs : List V} (h : A d = some (.frz od (.dK l))) (r : Reps K A xs vs) : Reps K (DL.ul d A) xs vs :=
  Reps.via (rd_ul h) (fun a xs q => by rw [ul_at (fun e => by rw [e, h] at q; cases q)]; exact q) (fun a C dx fs q => by rw [ul_at (fun e => by rw [e, h] at q; cases q)]; exact q) xs vs r
variable {H0 F0 F H : Hp} {ρ : R} {σ : St}
theorem SRep.lk {s : S} {v : V} (hF : F d = some (.dK l)) (h : SRep K H0 F H s v) : SRep K (DL.lk d od H0) (DL.lk d od F) (DL.lk d od H) s v := by
  cases s with
  | d x => exact Rep.lk hF h
  | ol xs =>
    obtain ⟨a, vs, e, h1, h2, n0, n1⟩ := h
    have ne : a ≠ d := fun z => by rw [z, hF] at n1; cases n1
    exact ⟨a, vs, e, by rw [lk_at ne]; exact h1, Reps.lk hF h2, lk_none.mpr n0, lk_none.mpr n1⟩
  | od kvs =>
    obtain ⟨a, vs, e, h1, hk, h2, n0, n1⟩ := h
    have ne : a ≠ d := fun z => by rw [z, hF] at n1; cases n1
    exact ⟨a, vs, e, by rw [lk_at ne]; exact h1, hk, Reps.lk hF h2, lk_none.mpr n0, lk_none.mpr n1⟩
  | oi N kvs =>
    obtain ⟨a, C, dx, vs, e, g, h1, hk, h2, n0, n1⟩ := h
    have ne : a ≠ d := fun z => by rw [z, hF] at n1; cases n1
    exact ⟨a, C, dx, vs, e, g, by rw [lk_at ne]; exact h1, hk, Reps.lk hF h2, lk_none.mpr n0, lk_none.mpr n1⟩
  | os b N kvs =>
    obtain ⟨e0, a, C, dx, vs, e, g, h1, hk, h2, n0, n1⟩ := h
    have ne : a ≠ d := fun z => by rw [z, hF] at n1; cases n1
    exact ⟨e0, a, C, dx, vs, e, g, by rw [lk_at ne]; exact h1, hk, Reps.lk hF h2, lk_none.mpr n0, lk_none.mpr n1⟩
theorem SRep.ul {s : S} {v : V} (hF : F d = some (.frz od (.dK l))) (h : SRep K H0 F H s v) : SRep K (DL.ul d H0) (DL.ul d F) (DL.ul d H) s v := by
  cases s with
  | d x => exact Rep.ul hF h
  | ol xs =>
    obtain ⟨a, vs, e, h1, h2, n0, n1⟩ := h
    have ne : a ≠ d := fun z => by rw [z, hF] at n1; cases n1
    exact ⟨a, vs, e, by rw [ul_at ne]; exact h1, Reps.ul hF h2, ul_none.mpr n0, ul_none.mpr n1⟩
  | od kvs =>
    obtain ⟨a, vs, e, h1, hk, h2, n0, n1⟩ := h
    have ne : a ≠ d := fun z => by rw [z, hF] at n1; cases n1
    exact ⟨a, vs, e, by rw [ul_at ne]; exact h1, hk, Reps.ul hF h2, ul_none.mpr n0, ul_none.mpr n1⟩
  | oi N kvs =>
    obtain ⟨a, C, dx, vs, e, g, h1, hk, h2, n0, n1⟩ := h
    have ne : a ≠ d := fun z => by rw [z, hF] at n1; cases n1
    exact ⟨a, C, dx, vs, e, g, by rw [ul_at ne]; exact h1, hk, Reps.ul hF h2, ul_none.mpr n0, ul_none.mpr n1⟩
  | os b N kvs =>
    obtain ⟨e0, a, C, dx, vs, e, g, h1, hk, h2, n0, n1⟩ := h
    have ne : a ≠ d := fun z => by rw [z, hF] at n1; cases n1
    exact ⟨e0, a, C, dx, vs, e, g, by rw [ul_at ne]; exact h1, hk, Reps.ul hF h2, ul_none.mpr n0, ul_none.mpr n1⟩
theorem Rel.lk (hF : F d = some (.dK l)) (r : Rel K H0 F0 F H ρ σ) : Rel K (DL.lk d od H0) (DL.lk d od F0) (DL.lk d od F) (DL.lk d od H) ρ σ :=
  ⟨Same.lk r.h, Same.lk r.f, Same.lk r.fh, fun a q => by
    rcases r.nw a (fun z => q (lk_none.mpr z)) with z | z
    · exact .inl fun y => z (lk_none.mp y)
    · exact .inr (lk_none.mpr z), r.len, fun i s q => by
    obtain ⟨v, e, sr⟩ := r.at_ i s q
    exact ⟨v, e, sr.lk hF⟩, r.ap⟩
theorem Rel.ul (hF : F d = some (.frz od (.dK l))) (r : Rel K H0 F0 F H ρ σ) : Rel K (DL.ul d H0) (DL.ul d F0) (DL.ul d F) (DL.ul d H) ρ σ :=
  ⟨Same.ul r.h, Same.ul r.f, Same.ul r.fh, fun a q => by
    rcases r.nw a (fun z => q (ul_none.mpr z)) with z | z
    · exact .inl fun y => z (ul_none.mp y)
    · exact .inr (ul_none.mpr z), r.len, fun i s q => by
    obtain ⟨v, e, sr⟩ := r.at_ i s q
    exact ⟨v, e, sr.ul hF⟩, r.ap⟩
end
def kD : Key → D
  | .inl i => .int i
  | .inr s => .str s
section
variable {K : PySem.W.Frag} {X : Cx} {Z : Zx} {pos : Pos}
def wForK (i : Nat) (wg : WG) (wb : WS) : WS := fun DD ρ => ∃ ks xs, nth ρ i = some (.d (.dic ks xs)) ∧ forD wg wb DD (ks.map kD) ρ
def wiKeys (i : Nat) : WA := fun ρ P => ∃ ks xs, nth ρ i = some (.d (.dic ks xs)) ∧ P (ks.map kD) ρ
section
variable {elt tg : Expr} {ifs : List Expr} {scope : Scope} {own : List (Str × Nat)} {g : TG} {wg : WG} {tt : TT} {wt : WT} {te : TE} {we : W}
end
end
end DL
namespace DL
open PySem L2
def pairD : D → Option (Key × D)
  | .tup [.int i, x] => some (.inl i, x)
  | .tup [.str s, x] => some (.inr s, x)
  | _ => none
def pairsD : List D → Option (List (Key × D))
  | [] => some []
  | d :: ds => match pairD d, pairsD ds with
    | some p, some ps => some (p :: ps)
    | _, _ => none
def mergeD (kvs more : List (Key × D)) : List (Key × D) := more.foldl (fun acc kv => vput acc kv.1 kv.2) kvs
section
variable {K : PySem.W.Frag} {X : Cx} {Z : Zx} {pos p : Pos} {a : Expr} {ta : TE} {wa : W}
def oDictP : OL := fun ds P => match ds with
  | [.lst xs] => asA (pairsD xs) fun kvs => P (.od (mergeD [] kvs))
  | _ => False
end
end DL
namespace DL
open PySem PySem.Spec PyProof.Rows L2
section
variable {P : Program} {w : World} {A : Around} {s : Shared}
end
section
variable {K : PySem.W.Frag} {w : World} {X : Cx} {Z : Zx} {pos p p2 : Pos} {a b c e : Expr} {ta tb tc te : TE} {wa wb wc we : W}
theorem CallR.or {f : Value} {r r' : List V → Hp → VK → Prop} (h : CallR X f r) (h' : CallR X f r') : CallR X f fun vs H Q => r vs H Q ∨ r' vs H Q := fun pins s σ H vs us Q I rr q => q.elim (fun z => h pins s σ H vs us Q I rr z) fun z => h' pins s σ H vs us Q I rr z
def oSortX : OL := fun ds P => match ds with
  | [.lst xs] => asA (txts xs) fun ss => ss.length ≤ sizeLine ∧ P (.ol ((srt ss).map .str))
  | [.str x] => x.length ≤ sizeLine ∧ P (.ol ((srt (signs x)).map .str))
  | _ => False
abbrev oPow : O2 := oI (fun i j => .int (i ^ j.toNat)) CPow
abbrev oBitAnd : O2 := oI0 fun i j => .int (Builtin.bitAnd i j)
abbrev oShl : O2 := oI (fun i j => .int (i * 2 ^ j.toNat)) CPow
def oNeg : O1 := fun x P => asI x fun i => P (.d (.int (-i)))
def oInt : OL := fun ds P => match ds with
  | [.int i] => P (.d (.int i))
  | [.bl b] => P (.d (.int (if b then 1 else 0)))
  | [.str a] => a.length ≤ 640 ∧ asA (PySem.intText? a) fun n => P (.d (.int n))
  | _ => False
def oStr : OL := fun ds P => match ds with
  | [.int i] => i.natAbs.log2 < 1920 ∧ P (.d (.str (toString i)))
  | _ => False
def oDivmod : OL := fun ds P => match ds with
  | [.int i, .int j] => CDivP i j ∧ P (.d (.tup [.int (i / j), .int (i % j)]))
  | _ => False
def isD : D → D → Option Bool
  | .non, .non => some true
  | _, .non => some false
  | .bl a, .bl b => some (decide (a = b))
  | _, _ => none
def oIs (neg : Bool) : O2 := fun x y P => asA (isD x y) fun b => P (.d (.bl (xor neg b)))
def wChain (o o' : O2) (wa wb wc : W) : W := fun ρ P => wa ρ fun x ρ1 => wb ρ1 fun y ρ2 => o x.fz y.fz fun s => asB s.fz fun c => if c = true then wc ρ2 fun z ρ3 => o' y.fz z.fz fun s => P s ρ3 else P (.d (.bl false)) ρ2
def frzR (ρ : R) (i : Nat) : R := match nth ρ i with
  | some (.d _) => ρ
  | some s => put ρ i (some (.d s.fz))
  | none => ρ
theorem Rel.frz {H0 F0 F H : Hp} {ρ : R} {σ : L2.St} (r : Rel K H0 F0 F H ρ σ) (i : Nat) : ∃ F', Same F F' ∧ Rel K H0 F0 F' H (frzR ρ i) σ := by
  unfold frzR
  split
  · exact ⟨F, Same.refl _, r⟩
  · rename_i s hs e
    have w : s.own = true := by
      cases s with
      | d x => exact absurd rfl (hs x)
      | ol _ => rfl
      | od _ => rfl
      | oi _ _ => rfl
      | os _ _ _ => rfl
    obtain ⟨v, F', e1, ff, r', rp⟩ := r.own_slot (nth_some e) w
    rw [put_eq]
    exact ⟨F', ff, r'⟩
  · exact ⟨F, Same.refl _, r⟩
def wFz (i : Nat) (w : WS) : WS := fun DD ρ => w DD (frzR ρ i)
def wFzE (i : Nat) (w : W) : W := fun ρ P => w (frzR ρ i) P
def wLSet (i : Nat) (wk wv : W) : WS := fun DD ρ => wv ρ fun v ρ1 => asOL (nth ρ1 i) fun _ => wk ρ1 fun k ρ2 => asOL (nth ρ2 i) fun xs => asI k.fz fun k => asA (ixN xs.length k) fun j => DD.nx (put ρ2 i (some (.ol (xs.set j v.fz))))
end
end DL
namespace DL
open PySem L2
inductive Src where
  | l (a : Addr) | t (a : Addr) | s (x : Str)
def Src.v : Src → V
  | .l a => .ref a
  | .t a => .ref a
  | .s x => .str x
def Src.items (K : PySem.W.Frag) (H : Hp) (xs : List V) : Src → Prop
  | .l a => SqL K H a xs
  | .t a => SqT K H a xs
  | .s x => xs = (signs x).map V.str
def Src.fp : Src → List Addr
  | .l a => [a]
  | .t a => [a]
  | .s _ => []
def Src.st (h : Heap) (it : Addr) (i : Nat) : Src → Prop
  | .l a => h.IsListIter it a i
  | .t a => h.IsTupleIter it a i
  | .s x => ∃ t, h.IsStrIter it (strIterType x) x t i
theorem vals_back : ∀ {xs : List V} {us : List Value} {j : Nat} {v : Value}, Vals xs us → us[j]? = some v → ∃ x, xs[j]? = some x ∧ RelV x v
  | _, _, _, _, .nil, e => by simp at e
  | _, _, 0, v, .cons r _, e => by simp at e; subst e; exact ⟨_, rfl, r⟩
  | _, _, j + 1, v, .cons _ rr, e => by
    obtain ⟨x, e1, r⟩ := vals_back (j := j) rr (by simpa using e)
    exact ⟨x, by simpa using e1, r⟩
theorem Src.st_at {h h' : Heap} {it : Addr} {i : Nat} : ∀ (c : Src), c.st h it i → (∀ o, h.get? it = some o → h'.get? it = some o) → c.st h' it i
  | .l a, st, k => Heap.IsListIter.at st k
  | .t a, st, k => Heap.IsTupleIter.at st k
  | .s x, ⟨tk, o, ho, r⟩, k => ⟨tk, o, k o ho, r⟩
theorem Src.st_obj {h : Heap} {it : Addr} {i : Nat} : ∀ (c : Src), c.st h it i → ∃ o, h.get? it = some o ∧ ∀ v, o.data ≠ .cell v
  | .l a, st => by obtain ⟨o, e, _, d⟩ := st; exact ⟨o, e, fun v q => by rw [d] at q; cases q⟩
  | .t a, st => by obtain ⟨o, e, _, d⟩ := st; exact ⟨o, e, fun v q => by rw [d] at q; cases q⟩
  | .s x, ⟨tk, st⟩ => by obtain ⟨o, e, _, d⟩ := st; exact ⟨o, e, fun v q => by rw [d] at q; cases q⟩
theorem Src.draws {X : Cx} {pins : List (Addr × Obj)} {σ : L2.St} {H : Hp} {s : Shared} {it : Addr} {i : Nat} {xs : List V} (I : Inv X pins σ H s) (hh : X.A.in1.handled = none) :
    ∀ (c : Src), c.items X.K H xs → c.st s.heap it i → (∀ b ∈ c.fp, b ≠ it) → ∃ (P1 : Nat → Value → Prop) (St1 : Nat → Heap → Prop), Draws X.prog X.w X.A.in1 it (it :: c.fp) xs.length P1 St1 ∧ St1 i s.heap ∧
      (∀ j h, St1 j h → c.st h it j) ∧ ∀ j v, P1 j v → ∃ x, xs[j]? = some x ∧ RelV x v
  | .l a, hq, st, hne => by
    obtain ⟨its, rv, p, _⟩ := I.list hq
    have hlen : its.toArray.size = xs.length := by simp [rv.length]
    refine ⟨_, _, hlen ▸ Draws.list hh it a (hne a (by simp [Src.fp])) its.toArray, ⟨st, p.isList⟩, fun j h z => z.1, fun j v e => ?_⟩
    have e' : its[j]? = some v := by simpa using e
    exact vals_back rv e'
  | .t a, hq, st, hne => by
    obtain ⟨its, rv, p, _⟩ := I.tuple hq
    have hlen : its.toArray.size = xs.length := by simp [rv.length]
    refine ⟨_, _, hlen ▸ Draws.tuple hh it a (hne a (by simp [Src.fp])) its.toArray, ⟨st, p⟩, fun j h z => z.1, fun j v e => ?_⟩
    have e' : its[j]? = some v := by simpa using e
    exact vals_back rv e'
  | .s x, hq, ⟨tk, st⟩, hne => by
    have hlen : x.cps.size = xs.length := by rw [show xs = (signs x).map V.str from hq]; simp [signs]
    refine ⟨_, _, hlen ▸ Draws.text hh it x tk, st, fun j h z => ⟨tk, z⟩, fun j v e => ?_⟩
    obtain ⟨c, u, e1, rfl⟩ := e
    have hc' : x.cps.toList[j]? = some c := by rw [Array.getElem?_toList]; exact e1
    refine ⟨.str ⟨#[c]⟩, ?_, u, rfl⟩
    rw [show xs = (signs x).map V.str from hq]
    simp [signs, hc']
def Itzz (K : PySem.W.Frag) (c1 c2 : Src) (xs ys : List V) : It :=
  ⟨fun i H => c1.items K H xs ∧ c2.items K H ys ∧ i < xs.length ∧ i < ys.length,
    fun i H v H' => ∃ T x y, v = .ref T ∧ H T = none ∧ H' = upd H T (.tup [x, y]) ∧ xs[i]? = some x ∧ ys[i]? = some y,
    fun i H => c1.items K H xs ∧ c2.items K H ys ∧ (xs.length ≤ i ∨ ys.length ≤ i)⟩
theorem turn_zipX {P : Program} {w : World} {K : PySem.W.Frag} {elts : List Expr} {kk : Nat} {tpos : Pos} {c1 c2 : Src} {xs ys : List V} {z TI TO i1 i2 : Addr} (D : ZipSep2 z TI TO i1 i2 (i1 :: c1.fp) (i2 :: c2.fp))
    (n1 : ∀ b ∈ c1.fp, b ≠ i1) (n2 : ∀ b ∈ c2.fp, b ≠ i2) :
    Turn P w K (.Tuple elts kk tpos) (Itzz K c1 c2 xs ys) [z, TI, TO, i1, i2] z (fun i h => (IsZip h z TI TO .none ∧ IsTupOf2 h TI (.ref i1) (.ref i2) ∧ (∃ a1 a2, IsTupOf2 h TO a1 a2) ∧ c1.st h i1 i ∧ c2.st h i2 i) ∧ i ≤ min xs.length ys.length) where
  mem := by simp
  obj := fun i h st c hc => by
    obtain ⟨⟨hz, hTI, ⟨x, y, hTO⟩, h1, h2⟩, _⟩ := st
    have e' : c = z ∨ c = TI ∨ c = TO ∨ c = i1 ∨ c = i2 := by simpa using hc
    rcases e' with q | q | q | q | q
    · rw [q]; exact ⟨_, hz, fun v q => nomatch q⟩
    · rw [q]; exact ⟨_, hTI, fun v q => nomatch q⟩
    · rw [q]; exact ⟨_, hTO, fun v q => nomatch q⟩
    · rw [q]; exact Src.st_obj _ h1
    · rw [q]; exact Src.st_obj _ h2
  keep := fun i h h' st k => by
    obtain ⟨⟨hz, hTI, ⟨x, y, hTO⟩, h1, h2⟩, hi⟩ := st
    exact ⟨⟨k z (by simp) _ hz, k TI (by simp) _ hTI, ⟨x, y, k TO (by simp) _ hTO⟩, Src.st_at _ h1 fun o q => k i1 (by simp) o q, Src.st_at _ h2 fun o q => k i2 (by simp) o q⟩, hi⟩
  item := by
    intro X hP hw hK hc i pins s σ H E I hf st hg
    subst hP hw hK
    have hh : X.A.in1.handled = none := by simp [I.ok.hd hc]
    obtain ⟨⟨hz, hTI, hTO, h1, h2⟩, hi⟩ := st
    obtain ⟨q1, q2, l1, l2⟩ := hg
    obtain ⟨P1, St1, D1, s1, b1, v1⟩ := Src.draws I hh c1 q1 h1 n1
    obtain ⟨P2, St2, D2, s2, b2, v2⟩ := Src.draws I hh c2 q2 h2 n2
    have W := WalksT.zipD2 (A := X.A) D D1 D2
    refine W.item i s _ _ (Nat.lt_min.mpr ⟨l1, l2⟩) ⟨hz, hTI, hTO, s1, s2⟩ fun T vals h' tk hpt hT hIs mid kp => ⟨_, rfl, ?_⟩
    refine W.go elts kk tpos i T { s with heap := h', toks := tk } _ _ mid fun h'' st'' kp2 => ?_
    obtain ⟨u1, u2, p1, p2, rfl⟩ := hpt
    obtain ⟨x, ex, rx⟩ := v1 i u1 p1
    obtain ⟨y, ey, ry⟩ := v2 i u2 p2
    have hTw := W.apart i T h' mid
    obtain ⟨oT, hoT, g1, g2⟩ := hIs
    have hoT2 := kp2 T oT hTw hoT
    have new : ObjOk X.prog X.w (upd H T (.tup [x, y])) h'' T (.tup [x, y]) :=
      ⟨by show 2 ≤ sizeLine; decide, [u1, u2], .cons rx (.cons ry .nil), ⟨oT, hoT2, g1, g2⟩⟩
    have wr : ∀ b, b ∉ [z, TI, TO, i1, i2] → b ∉ [z, TO, i1, i2] := fun b hb q => hb (by
      have e' : b = z ∨ b = TO ∨ b = i1 ∨ b = i2 := by simpa using q
      rcases e' with q | q | q | q <;> simp [q])
    have I1 : Inv X pins σ (upd H T (.tup [x, y])) { s with heap := h'', toks := tk } :=
      I.turnedNew (ch := [z, TI, TO, i1, i2]) (fun b o hb q => kp2 b o (wr b hb) (kp b o (wr b hb) q)) hf hT new
    refine ⟨.ref T, _, I1, rfl, ⟨T, x, y, rfl, I.hok.fresh hT, rfl, ex, ey⟩, ⟨⟨st''.1, st''.2.1, st''.2.2.1, b1 _ _ st''.2.2.2.1, b2 _ _ st''.2.2.2.2⟩, Nat.lt_min.mpr ⟨l1, l2⟩⟩, fun b hb => ?_⟩
    have hb' : b ≠ T := fun e => by
      subst e
      obtain ⟨o, ho, _⟩ : ∃ o, s.heap.get? b = some o ∧ True := by
        have e' : b = z ∨ b = TI ∨ b = TO ∨ b = i1 ∨ b = i2 := by simpa using hb
        rcases e' with q | q | q | q | q
        · rw [q]; exact ⟨_, hz, trivial⟩
        · rw [q]; exact ⟨_, hTI, trivial⟩
        · rw [q]; obtain ⟨_, _, e⟩ := hTO; exact ⟨_, e, trivial⟩
        · rw [q]; obtain ⟨o, e, _⟩ := Src.st_obj _ h1; exact ⟨o, e, trivial⟩
        · rw [q]; obtain ⟨o, e, _⟩ := Src.st_obj _ h2; exact ⟨o, e, trivial⟩
      exact absurd (Heap.lt_size ho) (Nat.not_lt.mpr hT)
    rw [upd_ne hb']
    exact (hf b hb).1
  done := by
    intro X hP hw hK hc i pins s σ H E I hf st hg
    subst hP hw hK
    have hh : X.A.in1.handled = none := by simp [I.ok.hd hc]
    obtain ⟨⟨hz, hTI, hTO, h1, h2⟩, hi⟩ := st
    obtain ⟨q1, q2, l⟩ := hg
    obtain ⟨P1, St1, D1, s1, b1, v1⟩ := Src.draws I hh c1 q1 h1 n1
    obtain ⟨P2, St2, D2, s2, b2, v2⟩ := Src.draws I hh c2 q2 h2 n2
    have W := WalksT.zipD2 (A := X.A) D D1 D2
    have hi' : i = min xs.length ys.length := Nat.le_antisymm hi (by omega)
    subst hi'
    have wr : ∀ b, b ∉ [z, TI, TO, i1, i2] → b ∉ [z, TO, i1, i2] := fun b hb q => hb (by
      have e' : b = z ∨ b = TO ∨ b = i1 ∨ b = i2 := by simpa using q
      rcases e' with q | q | q | q <;> simp [q])
    exact W.done s _ _ ⟨hz, hTI, hTO, s1, s2⟩ fun h' tk kp => ⟨rfl, I.turnedL (t' := tk) (ch := [z, TI, TO, i1, i2]) (fun b o hb q => kp b o (wr b hb) q) hf⟩
  self := fun A i s Q E st h => wpAny_pyIter_zip st.1.1 h
def Src.obj (u : Value) : Src → Obj
  | .l _ => { cls := .type "list_iterator", data := .fields #[u, .int 0 0] }
  | .t _ => { cls := .type "tuple_iterator", data := .fields #[u, .int 0 0] }
  | .s x => { cls := .type (strIterType x), data := .fields #[u, .int 0 0] }
theorem Src.begins {X : Cx} {pins : List (Addr × Obj)} {σ : L2.St} {H : Hp} {s : Shared} {xs : List V} {u : Value} (I : Inv X pins σ H s) : ∀ (c : Src), c.items X.K H xs → RelV c.v u →
    ∃ (o : Obj) (Hh : Heap → Prop), Begins u o Hh ∧ Hh s.heap ∧ (∀ h it, h.get? it = some o → c.st h it 0) ∧ ∀ b ∈ c.fp, b < s.heap.objs.size
  | .l a, hq, r => by
    obtain ⟨its, rv, p, _⟩ := I.list hq
    cases (show u = Value.ref a from r)
    exact ⟨_, _, begins_list a its.toArray, p.isList, fun h it e => ⟨_, e, rfl, rfl⟩, fun b hb => by simp [Src.fp] at hb; subst hb; exact p.lt⟩
  | .t a, hq, r => by
    obtain ⟨its, rv, p, _⟩ := I.tuple hq
    cases (show u = Value.ref a from r)
    exact ⟨_, _, begins_tuple a its.toArray, p, fun h it e => ⟨_, e, rfl, rfl⟩, fun b hb => by simp [Src.fp] at hb; subst hb; obtain ⟨o, ho, _⟩ := p; exact Heap.lt_size ho⟩
  | .s x, hq, r => by
    obtain ⟨t, rfl⟩ : ∃ t, u = Value.str x t := r
    exact ⟨_, _, begins_text x t, trivial, fun h it e => ⟨t, _, e, rfl, rfl⟩, fun b hb => by simp [Src.fp] at hb⟩
def iZipX (K : PySem.W.Frag) (ta : TA) : TI := fun σ H R => ta σ H fun vs H1 => ∃ (c1 c2 : Src) (xs ys : List V), vs = [c1.v, c2.v] ∧ c1.items K H1 xs ∧ c2.items K H1 ys ∧ R (Itzz K c1 c2 xs ys) H1
theorem pi_zipX {X : Cx} {e e2 : Expr} {ta : TA} {p pos tpos : Pos} {elts : List Expr} {kk : Nat} (hg : Gl X "zip") (hm : X.mg "zip" = none) (ha : PA X [e, e2] ta)
    (hs : starEach [e, e2] X.env = (false, eval e X.env) :: starEach [e2] X.env := by rfl) (hpl : (backTo pos (starEach [e2] X.env)).any (·.1) = false := by rfl) :
    PI X (.Tuple elts kk tpos) (.Call (.Name "zip" p) [e, e2] [] pos) (iZipX X.K ta) := by
  refine ⟨fun pins s σ H R I h => ?_⟩
  refine PyProof.Rows.Call_ (ld_blt I hg hm PyProof.Rows.boot_zip (PyProof.Rows.callWith_type1 (L2.thn (ha.run pos pins s σ H _ I h) fun us s1 ⟨vs, H1, I1, r1, q1⟩ => ?_) hs hpl))
  obtain ⟨c1, c2, xs, ys, ex, hq1, hq2, q⟩ := q1
  subst ex
  obtain ⟨u1, u2, rfl, r1, r2⟩ := vals2 r1
  obtain ⟨o1, K1, B1, k1, t1, f1⟩ := Src.begins I1 c1 hq1 r1
  obtain ⟨o2, K2, B2, k2, t2, f2⟩ := Src.begins I1 c2 hq2 r2
  refine zip_begins2 B1 B2 k1 k2 fun h' hz hTI hTO g1 g2 hsz hk => wpAny_pyIter_zip hz ?_
  have I2 : Inv X pins σ H1 { s1 with heap := h' } := I1.kept (t' := s1.toks) hk
  refine ⟨s1.heap.objs.size + 4, [s1.heap.objs.size + 4, s1.heap.objs.size + 2, s1.heap.objs.size + 3, s1.heap.objs.size, s1.heap.objs.size + 1], _, _, H1, rfl, I2,
    turn_zipX (zip_sep2 f1 f2) (fun b hb => Nat.ne_of_lt (f1 b hb)) (fun b hb => Nat.ne_of_lt (Nat.lt_succ_of_lt (f2 b hb))), ⟨⟨hz, hTI, ⟨_, _, hTO⟩, t1 _ _ g1, t2 _ _ g2⟩, Nat.zero_le _⟩, fun c hcm => ?_, q⟩
  have e' : c = s1.heap.objs.size + 4 ∨ c = s1.heap.objs.size + 2 ∨ c = s1.heap.objs.size + 3 ∨ c = s1.heap.objs.size ∨ c = s1.heap.objs.size + 1 := by simpa using hcm
  have hle : s1.heap.objs.size ≤ c := by
    rcases e' with z | z | z | z | z
    · rw [z]; exact Nat.le_add_right _ _
    · rw [z]; exact Nat.le_add_right _ _
    · rw [z]; exact Nat.le_add_right _ _
    · rw [z]; exact Nat.le_refl _
    · rw [z]; exact Nat.le_add_right _ _
  exact I1.fpOk hle (I1.hok.fresh hle)
def seqsD (d : D) (P : List D → Prop) : Prop := match d with
  | .cel ns => P (ns.map .int)
  | .lst xs => P xs
  | .tup xs => P xs
  | .str z => P ((signs z).map .str)
  | _ => False
theorem seqsD_of {K : PySem.W.Frag} {F : Hp} {d : D} {v : V} {P : List D → Prop} (h : seqsD d P) (r : Rep K F d v) : ∃ (c : Src) (vs : List V) (xs : List D), v = c.v ∧ (∀ H, Same F H → c.items K H vs) ∧ (∀ F', Same F F' → Reps K F' xs vs) ∧ P xs := by
  cases d <;> first | exact h.elim | skip
  · exact ⟨.s _, _, _, r, fun H fh => rfl, fun F' f => Reps.strs.mpr rfl, h⟩
  · obtain ⟨a, rfl, h1⟩ := r
    exact ⟨.l a, _, _, rfl, fun H fh => fh.seq h1, fun F' f => Reps.ints.mpr rfl, h⟩
  · obtain ⟨a, vs, rfl, h1, h2⟩ := r
    exact ⟨.l a, vs, _, rfl, fun H fh => SqL.of (fh _ _ h1), fun F' f => Reps.mono f _ _ h2, h⟩
  · obtain ⟨a, vs, rfl, h1, h2⟩ := r
    exact ⟨.t a, vs, _, rfl, fun H fh => Same.sqT fh h1, fun F' f => Reps.mono f _ _ h2, h⟩
def zipD (xs ys : List D) : List D := (xs.zip ys).map fun p => .tup [p.1, p.2]
theorem zipD_len (xs ys : List D) : (zipD xs ys).length = min xs.length ys.length := by simp [zipD]
def wiZip (wa : WA) : WA := fun ρ P => wa ρ fun ds ρ1 => match ds with
  | [x, y] => seqsD x fun xs => seqsD y fun ys => P (zipD xs ys) ρ1
  | _ => False
section
variable {K : PySem.W.Frag} {X : Cx} {Z : Zx} {pos p : Pos} {a b : Expr} {wa : WA} {ta : TA}
theorem di_zip {elts : List Expr} {kk : Nat} {tpos : Pos} (hm : X.mg "zip" = none) (ha : DA K X Z [a, b] ta wa) (hg : Gl X "zip" := by rfl) (hs : starEach [a, b] X.env = (false, eval a X.env) :: starEach [b] X.env := by rfl) (hpl : (backTo pos (starEach [b] X.env)).any (·.1) = false := by rfl) (hK : X.K = K := by rfl) :
    DI K X Z (.Tuple elts kk tpos) (.Call (.Name "zip" p) [a, b] [] pos) (iZipX K ta) (wiZip wa) := by
  refine ⟨by subst hK; exact pi_zipX hg hm ha.pe hs hpl, fun {H0 F0 F H ρ σ Q P} zo rl h k => ha.run zo rl h fun ds ρ1 F1 H1 vs h1 f1 r1 rps => ?_⟩
  split at h1
  · rename_i x y
    obtain ⟨v1, _, rfl, e1, v2, _, rfl, e2, rfl⟩ := rps
    obtain ⟨c1, us1, xs, rfl, g1, p1, h1⟩ := seqsD_of h1 e1
    obtain ⟨c2, us2, ys, rfl, g2, p2, h1⟩ := seqsD_of h1 e2
    have n1 := (p1 F1 (Same.refl _)).len
    have n2 := (p2 F1 (Same.refl _)).len
    refine ⟨c1, c2, us1, us2, rfl, g1 _ r1.fh, g2 _ r1.fh, k _ ρ1 F1 H1 _ h1 f1 r1 ⟨fun {i F H} f g l => ?_, fun {i F H} f g l => ?_, fun {i F H H2 x} f g y l => ?_⟩⟩
    · rw [zipD_len] at l
      exact ⟨g1 _ (f.trans g), g2 _ (f.trans g), by omega, by omega⟩
    · rw [zipD_len] at l
      exact ⟨g1 _ (f.trans g), g2 _ (f.trans g), by omega⟩
    · obtain ⟨T, x1, x2, rfl, n, rfl, y1, y2⟩ := y
      obtain ⟨d1, e1, q1⟩ := (p1 _ f).get' y1
      obtain ⟨d2, e2, q2⟩ := (p2 _ f).get' y2
      have nF : F T = none := g.free n
      refine ⟨upd F T (.tup [x1, x2]), .tup [d1, d2], ?_, Same.new n, Same.new nF, upd_both g n, nw_upd n, ⟨T, _, rfl, SqT.of upd_same, ?_⟩⟩
      · unfold zipD
        rw [List.getElem?_map, (List.getElem?_zip_eq_some (z := (d1, d2))).mpr ⟨e1, e2⟩]; rfl
      · exact ⟨_, _, rfl, Rep.mono (Same.new nF) _ _ q1, _, _, rfl, Rep.mono (Same.new nF) _ _ q2, rfl⟩
  · exact h1.elim
end
def itemsD (ks : List Key) (xs : List D) : List D := (ks.zip xs).map fun p => .tup [kD p.1, p.2]
end DL
namespace DL
open PySem L2
theorem FnOk.nothing {P : Program} {w : World} {K : PySem.W.Frag} {mg : Str → Option Value} {base : Heap} {CX : CXT} {k : Nat} {f : Addr} {fd : FuncData} {ps : List Str} :
    FnOk P w K mg base CX k f fd ps (spD K fun _ _ _ => False) :=
  ⟨fun vs H Q E h => by obtain ⟨_, _, _, _, _, _, h, _⟩ := h; exact h.elim, fun A outer s H args us vs Q E _ _ _ _ h => by obtain ⟨_, _, _, _, _, _, h, _⟩ := h; exact h.elim⟩
end DL
namespace DL
open PySem L2
section
variable {K : PySem.W.Frag} {X : Cx} {Z : Zx}
def wiVals (i : Nat) : WA := fun ρ P => ∃ ks xs, nth ρ i = some (.d (.dic ks xs)) ∧ P xs ρ
def wiItems (i : Nat) : WA := fun ρ P => ∃ ks xs, nth ρ i = some (.d (.dic ks xs)) ∧ P (itemsD ks xs) ρ
section
variable {tg : Expr} {body : List Stmt} {g : TG} {wg : WG} {tb : TS} {wb : WS} {py apos cpos : Pos}
end
section
variable {elt tg : Expr} {ifs : List Expr} {scope : Scope} {own : List (Str × Nat)} {g : TG} {wg : WG} {tt : TT} {wt : WT} {te : TE} {we : W} {px apos cpos : Pos}
end
end
end DL
namespace DL
open PySem L2
section
variable {K : PySem.W.Frag} {X : Cx} {Z : Zx} {pos p : Pos} {e : Expr} {te : TE} {we : W}
def wOIx (i : Nat) (wk : W) : W := fun ρ P => (nth ρ i).isSome = true ∧ wk ρ fun k ρ1 => match nth ρ1 i with
  | some (.ol xs) => asI k.fz fun j => asA (atI xs j) fun d => P (.d d) ρ1
  | some (.od kvs) => asKey k.fz fun key => asA (vget kvs key) fun d => P (.d d) ρ1
  | some (.d x) => oIxX x k.fz fun s => P s ρ1
  | _ => False
theorem run_oix {i : Nat} {tk : TE} {wk : W} (hk : RunE K Z tk wk) : RunE K Z (tOp (rIxX K) (tVar i) tk) (wOIx i wk) := fun {H0 F0 F H ρ σ Q P} zo rl h k => by
  obtain ⟨h0, h⟩ := h
  obtain ⟨s0, e0⟩ := Option.isSome_iff_exists.mp h0
  obtain ⟨v, ev, _⟩ := rl.at_ i _ (nth_some e0)
  refine ⟨v, ev, hk zo rl h fun s3 ρ3 F3 H3 v3 h3 f3 r3 sr3 fr3 => ?_⟩
  obtain ⟨F4, f4, r4, rp4⟩ := r3.freeze sr3 fr3
  split at h3
  · rename_i xs e1
    obtain ⟨j, ej, h3⟩ := asI_of h3 rp4
    subst ej
    obtain ⟨d, e, h3⟩ := asA_of h3
    obtain ⟨v', ev', a, vs, rfl, hl, rr, n0, n1⟩ := r4.at_ i _ (nth_some e1)
    rw [ev] at ev'; cases ev'
    obtain ⟨u, e', r⟩ := at_reps rr e
    exact .inl (.inl ⟨a, vs, j, u, rfl, rfl, .inl (.inl hl), e', k (.d d) _ F4 _ _ h3 (f3.trans f4) r4 r fun w => nomatch w⟩)
  · rename_i kvs e1
    obtain ⟨key, rfl, h3⟩ := asKey_of h3 rp4
    obtain ⟨d, e, h3⟩ := asA_of h3
    obtain ⟨a', l, ev', hd, kr, n0, n1⟩ := r4.dict e1
    rw [ev] at ev'; cases ev'
    rcases kr.get (k := key) with ⟨d', u, g1, g2, g3⟩ | ⟨g1, g2⟩
    · rw [e] at g1; cases g1
      exact .inr ⟨a', u, rfl, .inl ⟨l, key, .inl hd, rfl, g2.symm⟩, k (.d d) _ F4 _ _ h3 (f3.trans f4) r4 g3 fun w => nomatch w⟩
    · rw [e] at g1; cases g1
  · rename_i x e1
    obtain ⟨v', ev', rx⟩ := r4.at_ i _ (nth_some e1)
    rw [ev] at ev'; cases ev'
    exact snd_ixX.run r4.fh rx rp4 h3 (r4.kont (f3.trans f4) k)
  · exact h3.elim
theorem de_oix (i : Nat) {x : Str} {k : Expr} {tk : TE} {wk : W} {px : Pos} (hu : X.A.units + 64 < cLine) (hk : DE K X Z k tk wk) (hN : X.N[i]? = some x := by rfl) (hv : Vis X.env.scope x := by first | exact Or.inl rfl | exact Or.inr (Or.inl rfl) | exact Or.inr (Or.inr rfl)) (hd : (x == ("__debug__" : Str)) = false := by decide)
    (hcd : (x == ("__classdict__" : Str)) = false := by decide) (hs : PlainIx k := by exact fun _ _ => rfl) (hK : X.K = K := by rfl) : DE K X Z (.Subscript (.Name x px) k pos) (tOp (rIxX K) (tVar i) tk) (wOIx i wk) := by
  subst hK
  exact ⟨pe_ix (ix_X (units1 hu)) (pe_var hN hv hd hcd) hk.pe hs, run_oix hk.run⟩
def wNo : WS := fun _ _ => False
abbrev oMulX : O2 := oI (fun i j => .int (i * j)) CMulX
end
end DL
namespace DL
open PySem L2
section
variable {K : PySem.W.Frag} {X : Cx} {Z : Zx} {pos p apos : Pos} {CX : CXT} {k : Nat}
def fget {β : Type} (kvs : List (Str × β)) (f : Str) : Option β := kvs.lookup f
def FldOk (K : PySem.W.Frag) (N f : Str) : Prop := ∀ C, PySem.W.nsIn K mainGlobals N = some (some (.ref C)) → Cls K C ∧ NoAttr K C f
def MethAt (P : Program) (w : World) (K : PySem.W.Frag) (mg : Str → Option Value) (base : Heap) (CX : CXT) (k : Nat) (m : Str) (C : Addr) (sp : DSp) : Prop := Cls K C ∧ ∃ g fd ps k', k' ≤ k ∧ Meth K C m g ∧ FnOk P w K mg base CX k' g fd ps (spD K sp) ∧ Binds K fd ps []
def MethOk (P : Program) (w : World) (K : PySem.W.Frag) (mg : Str → Option Value) (base : Heap) (CX : CXT) (k : Nat) (m : Str) (N : Str) (sp : DSp) : Prop := ∀ C, PySem.W.nsIn K mainGlobals N = some (some (.ref C)) → MethAt P w K mg base CX k m C sp
theorem MethOk.of {P : Program} {w : World} {K : PySem.W.Frag} {mg : Str → Option Value} {base : Heap} {CX : CXT} {k k' : Nat} {m N : Str} {sp : DSp} {C g : Addr} {fd : FuncData} {ps : List Str} (aC : PySem.W.nsIn K mainGlobals N = some (some (.ref C))) (c : Cls K C) (hm : Meth K C m g)
    (F : FnOk P w K mg base CX k' g fd ps (spD K sp)) (hb : Binds K fd ps []) (hk : k' ≤ k) : MethOk P w K mg base CX k m N sp := fun C' h => by rw [aC] at h; cases h; exact ⟨c, g, fd, ps, k', hk, hm, F, hb⟩
theorem FldOk.of {K : PySem.W.Frag} {N f : Str} {C : Addr} (aC : PySem.W.nsIn K mainGlobals N = some (some (.ref C))) (c : Cls K C) (n : NoAttr K C f) : FldOk K N f := fun C' h => by rw [aC] at h; cases h; exact ⟨c, n⟩
structure Bare (K : PySem.W.Frag) (C : Addr) : Prop where
  makes : PySem.W.makesIn K C = true
  init : PySem.W.findIn K (.ref C) "__init__" = some (some (.builtin "object.__init__"))
  top : PySem.W.mroIn K C (.type "object") = some true
  kp : PySem.W.keepIn K (.ref C) = true
open PySem.W in
end
end DL
namespace DL
open PySem L2
section
variable {K : PySem.W.Frag} {X : Cx} {Z : Zx} {pos apos : Pos} {o e : Expr} {to te : TE} {wo we : W}
def wM1 (op : O2) (wo we : W) : W := fun ρ P => wo ρ fun s ρ1 => asS s.fz fun _ => we ρ1 fun t ρ2 => op s.fz t.fz fun r => P r ρ2
structure SndT (K : PySem.W.Frag) (r : V → List V → Hp → VK → Prop) (op : O2) : Prop where
  run : ∀ {F H : Hp} {x y : D} {vx vy : V} {P : S → Prop} {Q : VK}, Same F H → Rep K F x vx → Rep K F y vy → op x y P → Kont K H F P Q → r vx [vy] H Q
def oSplit : O2 := fun x y P => match x, y with
  | .str a, .str b => (b.length == 0) = false ∧ a.length + 2 ≤ sizeLine ∧ P (.ol ((Txt.split a b).map .str))
  | _, _ => False
def oPart : O2 := fun x y P => match x, y with
  | .str a, .str b => (b.length == 0) = false ∧ a.length ≤ sizeLine ∧ P (.d (.tup [.str (Txt.partition a b).1, .str (Txt.partition a b).2.1, .str (Txt.partition a b).2.2]))
  | _, _ => False
def oStrip1 : O2 := fun x y P => match x, y with
  | .str a, .str b => a.length ≤ sizeLine ∧ P (.d (.str (Txt.stripChars a b)))
  | _, _ => False
end
end DL
namespace DL
open PySem L2
section
variable {K : PySem.W.Frag} {X : Cx} {Z : Zx} {pos p p2 : Pos} {a b : Expr} {ta tb : TE} {wa wb : W}
def oRep : O2 := fun x y P => match x, y with
  | .lst xs, .int k => (-(2 ^ 63) ≤ k ∧ k < 2 ^ 63) ∧ xs.length * k.toNat ≤ sizeLine ∧ P (.ol (List.replicate k.toNat xs).flatten)
  | _, _ => False
def intsD : List D → Option (List Int)
  | [] => some []
  | .int i :: xs => (intsD xs).map (i :: ·)
  | _ :: _ => none
def oSum : OL := fun ds P => match ds with
  | [.lst xs] => asA (intsD xs) fun ns => P (.d (.int ns.sum))
  | [.cel ns] => P (.d (.int ns.sum))
  | _ => False
def IsOk (K : PySem.W.Frag) (M N : Str) (b : Bool) : Prop := ∀ C D, PySem.W.nsIn K mainGlobals M = some (some (.ref C)) → PySem.W.nsIn K mainGlobals N = some (some (.ref D)) → PySem.W.kitOne K (.ref C) (.ref D) = some b
theorem IsOk.of {M N : Str} {C D : Addr} {b : Bool} (h1 : PySem.W.nsIn K mainGlobals M = some (some (.ref C))) (h2 : PySem.W.nsIn K mainGlobals N = some (some (.ref D))) (h : PySem.W.kitOne K (.ref C) (.ref D) = some b) : IsOk K M N b := fun C' D' g1 g2 => by
  rw [h1] at g1; rw [h2] at g2; cases g1; cases g2; exact h
open PySem.W in
structure InsOk1 (K : PySem.W.Frag) (C : Addr) : Prop where
  cl : Cls K C
  ha : PySem.W.findIn K (.ref C) "__class__" = some (some (.builtin "object.__class__"))
  hn : PySem.W.specialIn K (.builtin "object.__class__") "__get__" = some (some (.builtin "getset_descriptor.__get__"))
  htk : PySem.W.takesIn K (.builtin "object.__class__") = some true
  hm : PySem.W.mroIn K C (.type "object") = some true
def InsOk (K : PySem.W.Frag) (M : Str) : Prop := ∀ C, PySem.W.nsIn K mainGlobals M = some (some (.ref C)) → InsOk1 K C
theorem InsOk.of {M : Str} {C : Addr} (h1 : PySem.W.nsIn K mainGlobals M = some (some (.ref C))) (h : InsOk1 K C) : InsOk K M := fun C' g => by rw [h1] at g; cases g; exact h
end
end DL
namespace DL
open PySem L2
def wRaise (px : PX) (N : Str) (fs : List Str) (wa : WA) : WS := fun _ ρ => (∃ M gs, px M gs) ∧ wa ρ fun ds _ => ds.length = fs.length ∧ px N (fs.zip ds)
section
variable {K : PySem.W.Frag} {X : Cx} {Z : Zx} {pos p : Pos} {CX : CXT} {k : Nat} {f : Addr} {fd : FuncData} {ps : List Str} {Rf : DSp} {x : Str} {e : Expr} {es : List Expr} {ta : TA} {wa : WA}
end
end DL
set_option maxHeartbeats 2000000
namespace DL
open PySem PySem.Spec PyProof.Rows L2 LiI
section
variable {X : Cx} {e : Expr} {te : TE} {p apos cpos pos : Pos}
end
section
variable {K : PySem.W.Frag} {X : Cx} {Z : Zx} {e : Expr} {te : TE} {we : W} {p apos cpos pos : Pos}
def itemsT (kvs : List (Key × D)) : List D := kvs.map fun q => .tup [kD q.1, q.2]
def wLI (we : W) : W := fun ρ P => we ρ fun s ρ1 => asDic s.fz fun kvs => P (.ol (itemsT kvs)) ρ1
def atts (F H' : Hp) (ts : List Addr) : Hp := fun b => if b ∈ ts then H' b else F b
def wLK (we : W) : W := fun ρ P => we ρ fun s ρ1 => asDic s.fz fun kvs => P (.ol (kvs.map fun q => kD q.1)) ρ1
end
end DL
set_option maxHeartbeats 4000000
namespace DL
open PySem PySem.Spec PyProof.Rows L2
section
variable {prog : Program} {w : World} {A : Around} {E : Value → Shared → Prop} {s : Shared} {z TI TO T i1 i2 : Addr} {fp1 fp2 : List Addr} {n1 n2 i : Nat} {P1 P2 : Nat → Value → Prop} {St1 St2 : Nat → Heap → Prop} {f : Bool} {oT : Obj}
theorem zipH_item {Q : Value → Shared → Prop} (S : ZipSep2 z TI TO i1 i2 fp1 fp2) (D1 : Draws prog w A i1 fp1 n1 P1 St1) (D2 : Draws prog w A i2 fp2 n2 P2 St2)
    (hz : IsZipHeld s.heap z TI TO T f) (hT : s.heap.get? T = some oT) (hTI : IsTupOf2 s.heap TI (.ref i1) (.ref i2)) (st1 : St1 i s.heap) (st2 : St2 i s.heap) (l1 : i < n1) (l2 : i < n2)
    (hQ : ∀ x1 x2 h' tk, P1 i x1 → P2 i x2 → IsZipHeld h' z TI TO T true → St1 (i + 1) h' → St2 (i + 1) h' → IsTupOf2 h' s.heap.objs.size x1 x2 → h'.objs.size = s.heap.objs.size + 1 →
      (∀ c o, c ≠ z → c ≠ i1 → c ≠ i2 → s.heap.get? c = some o → h'.get? c = some o) → Q (.ref s.heap.objs.size) { s with heap := h', toks := tk }) :
    wpAny (model prog w) A (Builtin.«zip.__next__» ⟨[.ref z], []⟩) (fun fin s' => ∃ v, fin = .done (.ret v) ∧ Q v s') E s := by
  obtain ⟨hp, g, d, tk0, os⟩ := s
  show wpAny (model prog w) A (field (.ref z) 2 >>= _) _ E ⟨hp, g, d, tk0, os⟩
  refine wpAny_bind (wpAny_field (x := .bool false) hz rfl rfl ?_)
  show wpAny (model prog w) A (field (.ref z) 3 >>= _) _ E ⟨hp, g, d, tk0, os⟩
  refine wpAny_bind (wpAny_field (x := .ref TI) hz rfl rfl (wpAny_bind (wpAny_seqItems hTI rfl ?_)))
  show wpAny (model prog w) A (Builtin.SmallTypes.ownedTupleIsFree (.ref z) >>= _) _ E ⟨hp, g, d, tk0, os⟩
  refine wpAny_bind (wpAny_tupleHeld_zip hz hT fun g0 hz0 hs0 => ?_)
  replace hs0 : Heap.SameBut z hp g0 := hs0
  simp only [Bool.false_eq_true, if_false]
  refine wpAny_bind ?_
  rw [← Array.forIn_toList]
  simp only [List.forIn_cons, List.forIn_nil]
  refine wpAny_bind (wpAny_bind (wpAny_holding ?_))
  show wpAny (model prog w) A (Builtin.SmallTypes.nextOf (.ref i1) >>= _) _ E ⟨g0, g, d, tk0, os⟩
  refine wpAny_bind (D1.item i _ _ _ l1 (D1.over st1 hs0 S.zf1) fun x1 p1 tk1 hx1 sn1 hp1 => wpAny_pure (wpAny_pure ?_))
  replace hp1 : Heap.SameBut i1 g0 p1 := hp1
  refine wpAny_bind (wpAny_bind (wpAny_holding ?_))
  show wpAny (model prog w) A (Builtin.SmallTypes.nextOf (.ref i2) >>= _) _ E ⟨p1, g, d, tk1, os⟩
  refine wpAny_bind (D2.item i _ _ _ l2 (D2.over (D2.over st2 hs0 S.zf2) hp1 S.sep1_2) fun x2 p2 tk2 hx2 sn2 hp2 => wpAny_pure (wpAny_pure (wpAny_pure ?_)))
  replace hp2 : Heap.SameBut i2 p1 p2 := hp2
  show wpAny (model prog w) A (newTuple [x1, x2] >>= _) _ E ⟨p2, g, d, tk2, os⟩
  refine wpAny_bind (wpAny_newTuple ?_)
  have esz : p2.objs.size = hp.objs.size := by rw [hp2.1, hp1.1, hs0.1]
  have hz2 : IsZipHeld p2 z TI TO T true := hp2.extBut _ _ S.zi2 (hp1.extBut _ _ S.zi1 hz0)
  have keep : ∀ c o, c ≠ z → c ≠ i1 → c ≠ i2 → hp.get? c = some o → p2.get? c = some o := fun c o cz c1 c2 e => hp2.extBut _ _ c2 (hp1.extBut _ _ c1 (hs0.extBut _ _ cz e))
  have j1 : St1 (i + 1) p2 := D1.over sn1 hp2 S.sep2_1
  refine wpAny_pure ⟨_, rfl, ?_⟩
  show Q (.ref p2.objs.size) _
  have up : ∀ c o, p2.get? c = some o → (p2.push { cls := .type "tuple", data := .seq #[x1, x2] }).get? c = some o := fun c o e => Heap.get?_push_of_some _ e
  have tp : IsTupOf2 (p2.push { cls := .type "tuple", data := .seq #[x1, x2] }) p2.objs.size x1 x2 := Heap.get?_push_size _ rfl
  have sz : (p2.push { cls := .type "tuple", data := .seq #[x1, x2] }).objs.size = p2.objs.size + 1 := Heap.size_push ..
  rw [esz] at tp sz ⊢
  exact hQ x1 x2 _ tk2 hx1 hx2 (up _ _ hz2) (D1.frame _ _ _ j1 fun b _ o e => up b o e) (D2.frame _ _ _ sn2 fun b _ o e => up b o e) tp sz fun c o cz c1 c2 e => up c o (keep c o cz c1 c2 e)
theorem zipH_end {Q : Fin → Shared → Prop} (S : ZipSep2 z TI TO i1 i2 fp1 fp2) (D1 : Draws prog w A i1 fp1 n1 P1 St1) (D2 : Draws prog w A i2 fp2 n2 P2 St2)
    (hz : IsZipHeld s.heap z TI TO T f) (hT : s.heap.get? T = some oT) (hTI : IsTupOf2 s.heap TI (.ref i1) (.ref i2)) (st1 : St1 i s.heap) (st2 : St2 i s.heap) (l1 : i ≤ n1) (l2 : i ≤ n2) (hend : i = n1 ∨ i = n2)
    (hE : ∀ h' tk e, (∀ c o, c ≠ z → c ≠ i1 → c ≠ i2 → s.heap.get? c = some o → h'.get? c = some o) → (∃ o, h'.get? e = some o ∧ o.cls = .type "StopIteration") → E (.ref e) { s with heap := h', toks := tk }) :
    wpAny (model prog w) A (Builtin.«zip.__next__» ⟨[.ref z], []⟩) Q E s := by
  obtain ⟨hp, g, d, tk0, os⟩ := s
  show wpAny (model prog w) A (field (.ref z) 2 >>= _) _ E ⟨hp, g, d, tk0, os⟩
  refine wpAny_bind (wpAny_field (x := .bool false) hz rfl rfl ?_)
  show wpAny (model prog w) A (field (.ref z) 3 >>= _) _ E ⟨hp, g, d, tk0, os⟩
  refine wpAny_bind (wpAny_field (x := .ref TI) hz rfl rfl (wpAny_bind (wpAny_seqItems hTI rfl ?_)))
  show wpAny (model prog w) A (Builtin.SmallTypes.ownedTupleIsFree (.ref z) >>= _) _ E ⟨hp, g, d, tk0, os⟩
  refine wpAny_bind (wpAny_tupleHeld_zip hz hT fun g0 hz0 hs0 => ?_)
  replace hs0 : Heap.SameBut z hp g0 := hs0
  simp only [Bool.false_eq_true, if_false]
  refine wpAny_bind ?_
  rw [← Array.forIn_toList]
  simp only [List.forIn_cons, List.forIn_nil]
  refine wpAny_bind (wpAny_bind (wpAny_holding ?_))
  show wpAny (model prog w) A (Builtin.SmallTypes.nextOf (.ref i1) >>= _) _ E ⟨g0, g, d, tk0, os⟩
  by_cases hlt : i < n1
  · refine wpAny_bind (D1.item i _ _ _ hlt (D1.over st1 hs0 S.zf1) fun x1 p1 tk1 hx1 sn1 hp1 => wpAny_pure (wpAny_pure ?_))
    replace hp1 : Heap.SameBut i1 g0 p1 := hp1
    have hi2 : i = n2 := by omega
    refine wpAny_bind (wpAny_bind (wpAny_holding ?_))
    show wpAny (model prog w) A (Builtin.SmallTypes.nextOf (.ref i2) >>= _) _ E ⟨p1, g, d, tk1, os⟩
    refine wpAny_bind (D2.done ⟨p1, g, d, tk1, os⟩ _ _ (by rw [← hi2]; exact D2.over (D2.over st2 hs0 S.zf2) hp1 S.sep1_2) fun q e hq he => ?_)
    replace hq : Heap.ExtBut i2 p1 q := hq
    exact hE q tk1 e (fun c o cz c1 c2 x => hq _ _ c2 (hp1.extBut _ _ c1 (hs0.extBut _ _ cz x))) he
  · have hi1 : i = n1 := by omega
    refine wpAny_bind (D1.done ⟨g0, g, d, tk0, os⟩ _ _ (by rw [← hi1]; exact D1.over st1 hs0 S.zf1) fun q e hq he => ?_)
    replace hq : Heap.ExtBut i1 g0 q := hq
    exact hE q tk0 e (fun c o cz c1 c2 x => hq _ _ c1 (hs0.extBut _ _ cz x)) he
theorem zipH_next {Q : Option Value → Shared → Prop} (S : ZipSep2 z TI TO i1 i2 fp1 fp2) (D1 : Draws prog w A.in1 i1 fp1 n1 P1 St1) (D2 : Draws prog w A.in1 i2 fp2 n2 P2 St2)
    (hz : IsZipHeld s.heap z TI TO T f) (hT : s.heap.get? T = some oT) (hTI : IsTupOf2 s.heap TI (.ref i1) (.ref i2)) (st1 : St1 i s.heap) (st2 : St2 i s.heap) (l1 : i < n1) (l2 : i < n2)
    (hQ : ∀ x1 x2 h' tk, P1 i x1 → P2 i x2 → IsZipHeld h' z TI TO T true → St1 (i + 1) h' → St2 (i + 1) h' → IsTupOf2 h' s.heap.objs.size x1 x2 → h'.objs.size = s.heap.objs.size + 1 →
      (∀ c o, c ≠ z → c ≠ i1 → c ≠ i2 → s.heap.get? c = some o → h'.get? c = some o) → Q (some (.ref s.heap.objs.size)) { s with heap := h', toks := tk }) :
    wpAny (model prog w) A (pyNext (.ref z)) Q E s := by
  have ty : s.TypeIs (.ref z) "zip" := ⟨_, hz, rfl⟩
  unfold pyNext
  exact wpAny_bind (wpAny_attempt (wpAny_callSpecial?_slot (name := Str.ofString "__next__") ty F.slot_zip_next (wpAny_call_entry F.slot_zip_next ty F.entry_zip_next
    (zipH_item S D1 D2 hz hT hTI st1 st2 l1 l2 fun x1 x2 h' tk y1 y2 b1 d1 d2 b5 b6 b7 => wpAny_pure (hQ x1 x2 h' tk y1 y2 b1 d1 d2 b5 b6 b7)) (F.args_zip_next_1 _))))
theorem zipH_stop {Q : Option Value → Shared → Prop} (S : ZipSep2 z TI TO i1 i2 fp1 fp2) (D1 : Draws prog w A.in1 i1 fp1 n1 P1 St1) (D2 : Draws prog w A.in1 i2 fp2 n2 P2 St2)
    (hz : IsZipHeld s.heap z TI TO T f) (hT : s.heap.get? T = some oT) (hTI : IsTupOf2 s.heap TI (.ref i1) (.ref i2)) (st1 : St1 i s.heap) (st2 : St2 i s.heap) (l1 : i ≤ n1) (l2 : i ≤ n2) (hend : i = n1 ∨ i = n2)
    (hQ : ∀ h' tk, (∀ c o, c ≠ z → c ≠ i1 → c ≠ i2 → s.heap.get? c = some o → h'.get? c = some o) → Q none { s with heap := h', toks := tk }) : wpAny (model prog w) A (pyNext (.ref z)) Q E s := by
  have ty : s.TypeIs (.ref z) "zip" := ⟨_, hz, rfl⟩
  unfold pyNext
  refine wpAny_bind (wpAny_attempt (wpAny_callSpecial?_slot (name := Str.ofString "__next__") ty F.slot_zip_next (wpAny_call_entry F.slot_zip_next ty F.entry_zip_next
    (zipH_end S D1 D2 hz hT hTI st1 st2 l1 l2 hend fun h' tk e hk he => ?_) (F.args_zip_next_1 _))))
  obtain ⟨o, ho, hc⟩ := he
  exact wpAny_bind (wpAny_isInstance (T := "StopIteration") (b := true) ⟨o, ho, hc⟩ isSubtype_stop (wpAny_pure (hQ _ _ hk)))
end
end DL
set_option maxHeartbeats 4000000
namespace DL
open PySem PySem.Spec PyProof.Rows L2
theorem Src.drawsA {X : Cx} {pins : List (Addr × Obj)} {σ : L2.St} {H : Hp} {s : Shared} {it : Addr} {i : Nat} {xs : List V} (I : Inv X pins σ H s) :
    ∀ (c : Src), c.items X.K H xs → c.st s.heap it i → (∀ b ∈ c.fp, b ≠ it) → ∃ (P1 : Nat → Value → Prop) (St1 : Nat → Heap → Prop), (∀ A : Around, A.handled = none → Draws X.prog X.w A it (it :: c.fp) xs.length P1 St1) ∧ St1 i s.heap ∧
      (∀ j v, P1 j v → ∃ x, xs[j]? = some x ∧ RelV x v) ∧ (∀ j h, St1 j h → ∀ b ∈ it :: c.fp, ∃ o, h.get? b = some o) ∧ (c.fp ≠ [] → ∃ us : List Value, Vals xs us ∧ ∀ j v, P1 j v → us[j]? = some v)
  | .l a, hq, st, hne => by
    obtain ⟨its, rv, p, _⟩ := I.list hq
    have hlen : its.toArray.size = xs.length := by simp [rv.length]
    refine ⟨_, _, fun A hA => hlen ▸ Draws.list hA it a (hne a (by simp [Src.fp])) its.toArray, ⟨st, p.isList⟩, fun j v e => ?_, fun j h z b hb => ?_, fun _ => ⟨its, rv, fun j v e => by simpa using e⟩⟩
    · have e' : its[j]? = some v := by simpa using e
      exact vals_back rv e'
    · obtain ⟨⟨o, z1, _⟩, o2, z2, _⟩ := z
      simp only [Src.fp, List.mem_cons, List.not_mem_nil, or_false] at hb
      rcases hb with rfl | rfl
      · exact ⟨o, z1⟩
      · exact ⟨o2, z2⟩
  | .t a, hq, st, hne => by
    obtain ⟨its, rv, p, _⟩ := I.tuple hq
    have hlen : its.toArray.size = xs.length := by simp [rv.length]
    refine ⟨_, _, fun A hA => hlen ▸ Draws.tuple hA it a (hne a (by simp [Src.fp])) its.toArray, ⟨st, p⟩, fun j v e => ?_, fun j h z b hb => ?_, fun _ => ⟨its, rv, fun j v e => by simpa using e⟩⟩
    · have e' : its[j]? = some v := by simpa using e
      exact vals_back rv e'
    · obtain ⟨⟨o, z1, _⟩, o2, z2, _⟩ := z
      simp only [Src.fp, List.mem_cons, List.not_mem_nil, or_false] at hb
      rcases hb with rfl | rfl
      · exact ⟨o, z1⟩
      · exact ⟨o2, z2⟩
  | .s x, hq, ⟨tk, st⟩, hne => by
    have hlen : x.cps.size = xs.length := by rw [show xs = (signs x).map V.str from hq]; simp [signs]
    refine ⟨_, _, fun A hA => hlen ▸ Draws.text hA it x tk, st, fun j v e => ?_, fun j h z b hb => ?_, fun q => absurd rfl q⟩
    · obtain ⟨c, u, e1, rfl⟩ := e
      have hc' : x.cps.toList[j]? = some c := by rw [Array.getElem?_toList]; exact e1
      refine ⟨.str ⟨#[c]⟩, ?_, u, rfl⟩
      rw [show xs = (signs x).map V.str from hq]
      simp [signs, hc']
    · obtain ⟨o, z1, _⟩ := z
      simp only [Src.fp, List.mem_cons, List.not_mem_nil, or_false] at hb
      subst hb
      exact ⟨o, z1⟩
def keysD : List D → Option (List Key)
  | [] => some []
  | .int i :: ds => (keysD ds).map (.inl i :: ·)
  | .str s :: ds => (keysD ds).map (.inr s :: ·)
  | _ => none
def seqLT (d : D) (P : List D → Prop) : Prop := match d with
  | .lst xs => P xs
  | .tup xs => P xs
  | _ => False
def wDZ (wa : WA) : W := fun ρ P => wa ρ fun ds ρ1 => match ds with
  | [x, y] => seqsD x fun xs => seqLT y fun ys => asA (keysD xs) fun ks => P (.od (mergeD [] (ks.zip ys))) ρ1
  | _ => False
section
variable {K : PySem.W.Frag} {X : Cx} {Z : Zx} {pos pos2 p p2 : Pos} {a b : Expr} {wa : WA} {ta : TA}
end
end DL
set_option maxHeartbeats 4000000
namespace DL
open PySem PySem.Spec PyProof.Rows L2
section
variable {K : PySem.W.Frag} {X : Cx} {Z : Zx} {pos p p2 apos cpos : Pos} {a b c e : Expr} {te : TE} {we : W} {ta : TA} {wa : WA} {i : Nat} {x : Str}
def rangeS (lo c : Int) (n : Nat) : List D := (List.range n).map fun (k : Nat) => .int (lo + k * c)
def wiR3 (wa : WA) : WA := fun ρ P => wa ρ fun ds ρ1 => match ds with
  | [.int i, .int j, .int c] => ∃ n, RgC i j c n ∧ P (rangeS i c n) ρ1
  | _ => False
def wLR (we : W) : W := fun ρ P => we ρ fun s ρ1 => asI s.fz fun n => RgOk 0 n ∧ P (.ol (rangeD 0 n.toNat)) ρ1
def wPairs : List (W × W) → R → (List (Key × D) → Prop) → Prop
  | [], _, P => P []
  | q :: r, ρ, P => q.1 ρ fun k ρ1 => q.2 ρ1 fun v ρ2 => asKey k.fz fun key => wPairs r ρ2 fun kvs => P ((key, v.fz) :: kvs)
def wDisp (ws : List (W × W)) : W := fun ρ P => wPairs ws (dataR ρ) fun kvs => kvs.length ≤ 15 ∧ P (.od (mergeD [] kvs)) ρ
structure DPs (K : PySem.W.Frag) (X : Cx) (Z : Zx) (pos : Pos) (ks : List (Option Expr)) (vs : List Expr) (ts : List (TE × TE)) (ws : List (W × W)) : Prop where
  pe : PPs X pos ks vs ts
  run : ∀ {H0 F0 F H : Hp} {ρ : R} {σ : L2.St} {Q : List (V × V) → Hp → Prop} {P : List (Key × D) → Prop}, Z.Ok K H0 F0 → Rel K H0 F0 F H ρ σ → wPairs ws ρ P →
    (∀ kvs l ρ' F' H', P kvs → Same F F' → Rel K H0 F0 F' H' ρ' σ → KRep K F' kvs l → Q (l.map fun q => (kV q.1, q.2)) H') → tPairs ts σ H Q
def oReverse : List D → List D → (S → List D → Prop) → Prop := fun xs ds P => ds = [] ∧ P (.d .non) xs.reverse
def oClear : List D → List D → (S → List D → Prop) → Prop := fun _ ds P => ds = [] ∧ P (.d .non) []
def oInsert : List D → List D → (S → List D → Prop) → Prop := fun xs ds P => match ds with
  | [.int i, y] => (xs.length < sizeLine ∧ 0 ≤ i ∧ i < 2 ^ 63) ∧ P (.d .non) (xs.take i.toNat ++ [y] ++ xs.drop i.toNat)
  | _ => False
def wRevL (we : W) : W := fun ρ P => we ρ fun s ρ1 => asL s.fz fun xs => P (.ol xs.reverse) ρ1
end
end DL
set_option maxHeartbeats 4000000
namespace DL
open PySem PySem.Spec PyProof.Rows L2
abbrev IT := Int × Str
def ltIT (p q : IT) : Bool := bif decide (p.1 = q.1) then decide (p.2.cps.toList < q.2.cps.toList) else decide (p.1 < q.1)
def IsIT (h : Heap) (v : Value) (p : IT) : Prop := ∃ a o t u n, v = .ref a ∧ h.get? a = some o ∧ o.cls = .type "tuple" ∧ o.data = .seq #[.int p.1 t, .str p.2 u] n
section
variable {prog : Program} {w : World} {A : Around} {s : Shared} {E : Value → Shared → Prop} {k : Value → IT}
theorem IsIT.keeps {h h' : Heap} {v : Value} {x : IT} (p : IsIT h v x) (kp : ∀ b o, h.get? b = some o → o.cls = .type "tuple" → h'.get? b = some o) : IsIT h' v x := by
  obtain ⟨a, o, t, u, n, e, ho, hc, hd⟩ := p
  exact ⟨a, o, t, u, n, e, kp _ _ ho hc, hc, hd⟩
end
def keyIT (h : Heap) : Value → IT
  | .ref a => match h.get? a with
    | some o => match o.data with
      | .seq ⟨[.int i _, .str c _]⟩ _ => (i, c)
      | _ => (0, "")
    | none => (0, "")
  | _ => (0, "")
theorem IsIT.key {h : Heap} {v : Value} {p : IT} (q : IsIT h v p) : keyIT h v = p := by
  obtain ⟨a, o, t, u, n, rfl, ho, hc, hd⟩ := q
  show (match h.get? a with | some o => _ | none => _) = _
  rw [ho]
  show (match o.data with | .seq ⟨[.int i _, .str c _]⟩ _ => (i, c) | _ => (0, "")) = _
  rw [hd]
inductive All2 {α β : Type} (R : α → β → Prop) : List α → List β → Prop
  | nil : All2 R [] []
  | cons {x p xs ps} : R x p → All2 R xs ps → All2 R (x :: xs) (p :: ps)
def pairIT : D → Option IT
  | .tup [.int i, .str c] => some (i, c)
  | _ => none
def pairsIT : List D → Option (List IT)
  | [] => some []
  | d :: ds => match pairIT d, pairsIT ds with
    | some p, some ps => some (p :: ps)
    | _, _ => none
def itD (p : IT) : D := .tup [.int p.1, .str p.2]
def oSortIT : OL := fun ds P => match ds with
  | [.lst xs] => asA (pairsIT xs) fun ps => ∀ qs, qs.Perm ps → SrtO.Srtd ltIT qs → P (.ol (qs.map itD))
  | _ => False
section
variable {K : PySem.W.Frag} {X : Cx} {Z : Zx} {pos p : Pos} {a : Expr} {ta : TE} {wa : W}
end
end DL
set_option maxHeartbeats 4000000
namespace DL
open PySem PySem.Spec PyProof.Rows L2
def putG {β : Type} (f : Str) (v : β) : List (Str × β) → List (Str × β)
  | [] => [(f, v)]
  | (g, x) :: r => if g = f then (g, v) :: r else (g, x) :: putG f v r
theorem putG_V (f : Str) (v : V) : ∀ l : List (Str × V), putG f v l = putF f v l
  | [] => rfl
  | (g, x) :: r => by
    show (if g = f then _ else _) = (if g = f then _ else _)
    rw [putG_V f v r]
theorem putG_reps {K : PySem.W.Frag} {F : Hp} {f : Str} {d : D} {v : V} (rv : Rep K F d v) : ∀ {kvs : List (Str × D)} {l : List (Str × V)}, l.map (·.1) = kvs.map (·.1) → Reps K F (kvs.map (·.2)) (l.map (·.2)) →
    (putG f v l).map (·.1) = (putG f d kvs).map (·.1) ∧ Reps K F ((putG f d kvs).map (·.2)) ((putG f v l).map (·.2))
  | [], [], _, _ => ⟨rfl, v, [], rfl, rv, rfl⟩
  | [], _ :: _, h, _ => nomatch h
  | _ :: _, [], h, _ => nomatch h
  | (g, x) :: kvs, (g', y) :: l, h, r => by
    rw [List.map_cons, List.map_cons, List.cons.injEq] at h
    obtain ⟨u, us, e, r1, r2⟩ := r
    rw [List.map_cons, List.cons.injEq] at e
    obtain ⟨e1, e2⟩ := e
    have hg : g' = g := h.1
    subst hg
    have e1' : y = u := e1
    subst e1'
    have ih := putG_reps (f := f) rv h.2 (by rw [e2]; exact r2)
    unfold putG
    by_cases hgf : g' = f
    · rw [if_pos hgf, if_pos hgf]
      exact ⟨by rw [List.map_cons, List.map_cons, h.2], v, _, rfl, rv, by rw [e2]; exact r2⟩
    · rw [if_neg hgf, if_neg hgf]
      exact ⟨by rw [List.map_cons, List.map_cons, ih.1], y, _, rfl, r1, ih.2⟩
def asOI (o : Option S) (P : Str → List (Str × D) → Prop) : Prop := match o with
  | some (.oi N kvs) => P N kvs
  | some (.os _ N kvs) => P N kvs
  | _ => False
def setOI (o : Option S) (kvs : List (Str × D)) : Option S := match o with
  | some (.oi N _) => some (.oi N kvs)
  | some (.os a N _) => some (.os a N kvs)
  | o => o
section
variable {K : PySem.W.Frag} {X : Cx} {Z : Zx} {pos p pos' apos : Pos} {i : Nat}
theorem Rel.oi {H0 F0 F H : Hp} {ρ : R} {σ : L2.St} {P : Str → List (Str × D) → Prop} (r : Rel K H0 F0 F H ρ σ) (h : asOI (nth ρ i) P) :
    ∃ N kvs a C dx l, P N kvs ∧ σ[i]? = some (some (.ref a)) ∧ PySem.W.nsIn K mainGlobals N = some (some (.ref C)) ∧ H a = some (.ins C dx l) ∧ l.map (·.1) = kvs.map (·.1) ∧ Reps K F (kvs.map (·.2)) (l.map (·.2)) ∧ H0 a = none ∧ F a = none ∧
      ∀ d v f, Rep K F d v → Rel K H0 F0 F (upd H a (.ins C dx (putF f v l))) (put ρ i (setOI (nth ρ i) (putG f d kvs))) σ := by
  unfold asOI at h
  split at h
  · rename_i N kvs e
    obtain ⟨v, ev, a, C, dx, l, rfl, g, hl, hk, rr, n0, n1⟩ := r.at_ i _ (nth_some e)
    refine ⟨N, kvs, a, C, dx, l, h, ev, g, hl, hk, rr, n0, n1, fun d v f rv => ?_⟩
    rw [put_eq, e, ← putG_V]
    have q := putG_reps (f := f) rv hk rr
    exact r.write (nth_some e) rfl ev ⟨a, C, dx, _, rfl, g, upd_same, q.1, q.2, n0, n1⟩ rfl
  · rename_i a0 N kvs e
    obtain ⟨v, ev, e0, a, C, dx, l, rfl, g, hl, hk, rr, n0, n1⟩ := r.at_ i _ (nth_some e)
    refine ⟨N, kvs, a, C, dx, l, h, ev, g, hl, hk, rr, n0, n1, fun d v f rv => ?_⟩
    rw [put_eq, e, ← putG_V]
    have q := putG_reps (f := f) rv hk rr
    exact r.write (nth_some e) rfl ev ⟨e0, a, C, dx, _, rfl, g, upd_same, q.1, q.2, n0, n1⟩ rfl
  · exact h.elim
def wOFld (Ns : List Str) (i : Nat) (f : Str) : W := fun ρ P => asOI (nth ρ i) fun N kvs => N ∈ Ns ∧ asA (fget kvs f) fun d => P (.d d) ρ
def wSFld (Ns : List Str) (i : Nat) (f : Str) (we : W) : WS := fun DD ρ => we ρ fun s ρ1 => asOI (nth ρ1 i) fun N kvs => (N ∈ Ns ∧ kvs.length < 1000) ∧ DD.nx (put ρ1 i (setOI (nth ρ1 i) (putG f s.fz kvs)))
end
section
variable {P : Program} {w : World} {K : PySem.W.Frag} {mg : Str → Option Value} {base : Heap} {x qual : Str} {st : Stmt} {f : Addr} {fd : FuncData} {N ps : List Str} {k : Nat} {Rf : DSp} {Cn : Str}
end
section
variable {K : PySem.W.Frag} {X : Cx} {Z : Zx} {pos p : Pos} {CX : CXT} {k : Nat}
def wPar (i j : Nat) (wa : WA) : WS := fun DD ρ => wa ρ fun ds ρ1 => match ds with
  | [x, y] => DD.nx (put (put ρ1 i (some (.d x))) j (some (.d y)))
  | _ => False
end
end DL
set_option maxHeartbeats 2000000
namespace DL
open PySem PySem.Spec PyProof.Rows L2
section
variable {X : Cx} {e : Expr} {te : TE}
end
section
variable {K : PySem.W.Frag} {X : Cx} {Z : Zx} {e o : Expr} {te to : TE} {we wo : W} {p apos cpos pos : Pos}
theorem SRep.at_upd {H0 F H : Hp} {s : S} {v : V} {a : Addr} {u : HO} (n1 : F a = none) (fr : s.own = true → v ≠ .ref a) (h : SRep K H0 F H s v) : SRep K H0 (upd F a u) (upd H a u) s v := by
  cases s with
  | d x => exact Rep.mono (Same.new n1) _ _ h
  | ol xs =>
    obtain ⟨b, vs, e, h1, h2, m0, m1⟩ := h
    have ne : b ≠ a := fun z => fr rfl (by rw [e, z])
    exact ⟨b, vs, e, by rw [upd_ne ne]; exact h1, Reps.mono (Same.new n1) _ _ h2, m0, by rw [upd_ne ne]; exact m1⟩
  | od kvs =>
    obtain ⟨b, vs, e, h1, hk, h2, m0, m1⟩ := h
    have ne : b ≠ a := fun z => fr rfl (by rw [e, z])
    exact ⟨b, vs, e, by rw [upd_ne ne]; exact h1, hk, Reps.mono (Same.new n1) _ _ h2, m0, by rw [upd_ne ne]; exact m1⟩
  | oi N kvs =>
    obtain ⟨b, C, dx, vs, e, g, h1, hk, h2, m0, m1⟩ := h
    have ne : b ≠ a := fun z => fr rfl (by rw [e, z])
    exact ⟨b, C, dx, vs, e, g, by rw [upd_ne ne]; exact h1, hk, Reps.mono (Same.new n1) _ _ h2, m0, by rw [upd_ne ne]; exact m1⟩
  | os c N kvs =>
    obtain ⟨e0, b, C, dx, vs, e, g, h1, hk, h2, m0, m1⟩ := h
    have ne : b ≠ a := fun z => fr rfl (by rw [e, z])
    exact ⟨e0, b, C, dx, vs, e, g, by rw [upd_ne ne]; exact h1, hk, Reps.mono (Same.new n1) _ _ h2, m0, by rw [upd_ne ne]; exact m1⟩
theorem Rel.at_upd {H0 F0 F H : Hp} {ρ : R} {σ : L2.St} {a : Addr} {u : HO} (r : Rel K H0 F0 F H ρ σ) (n0 : H0 a = none) (n1 : F a = none) (fr : Fr ρ σ (.ref a)) : Rel K H0 F0 (upd F a u) (upd H a u) ρ σ := by
  refine ⟨fun b o q => ?_, r.f.trans (Same.new n1), fun b o q => ?_, fun b q => ?_, r.len, fun i s q => ?_, r.ap⟩
  · rw [upd_ne (ne_of_none q n0)]; exact r.h _ _ q
  · by_cases hb : b = a
    · subst hb; rw [upd_same] at q ⊢; exact q
    · rw [upd_ne hb] at q ⊢; exact r.fh _ _ q
  · by_cases hb : b = a
    · subst hb; exact .inr n0
    · rw [upd_ne hb] at q; exact r.nw _ q
  · obtain ⟨v, q1, q2⟩ := r.at_ i s q
    exact ⟨v, q1, q2.at_upd n1 fun w z => fr i s q w (by rw [q1, z])⟩
def wiItemsC (we : W) : WA := fun ρ P => we ρ fun s ρ1 => asOD (some s) fun kvs => P (itemsD (kvs.map (·.1)) (kvs.map (·.2))) ρ1
def wiValsC (we : W) : WA := fun ρ P => we ρ fun s ρ1 => asOD (some s) fun kvs => P (kvs.map (·.2)) ρ1
def toV : D → V
  | .bl b => .bl b
  | .int i => .int i
  | .str s => .str s
  | _ => .non
def flatK : D → Bool
  | .non => true
  | .bl _ => true
  | .int _ => true
  | .str _ => true
  | _ => false
def wIndexL (wo we : W) : W := fun ρ P => wo ρ fun s ρ1 => asL s.fz fun _ => we ρ1 fun t ρ2 => asL s.fz fun xs => flatK t.fz = true ∧ xs.all flatK = true ∧ ∃ j z, xs[j]? = some z ∧ eqV (toV z) (toV t.fz) = true ∧ (∀ (m : Nat) z', m < j → xs[m]? = some z' → eqV (toV z') (toV t.fz) = false) ∧ P (.d (.int (j : Nat))) ρ2
end
end DL
set_option maxHeartbeats 2000000
namespace DL
open PySem PySem.Spec PyProof.Rows L2
section
variable {K : PySem.W.Frag} {X : Cx} {Z : Zx} {pos pos2 p p2 py : Pos} {a : Expr} {wa : W} {ta : TE}
def wDZO (wa : W) (i : Nat) : W := fun ρ P => wa ρ fun s ρ1 => asOL (nth ρ1 i) fun ys => seqsD s.fz fun xs => asA (keysD xs) fun ks => P (.od (mergeD [] (ks.zip ys))) ρ1
def wLO (i : Nat) : W := fun ρ P => asOL (nth ρ i) fun xs => P (.ol xs) ρ
end
end DL
set_option maxHeartbeats 4000000
namespace DL
open PySem L2
def zip3D (xs ys zs : List D) : List D := ((xs.zip ys).zip zs).map fun p => .tup [p.1.1, p.1.2, p.2]
def wiZip3 (wa : WA) : WA := fun ρ P => wa ρ fun ds ρ1 => match ds with
  | [x, y, z] => seqsD x fun xs => seqsD y fun ys => seqsD z fun zs => P (zip3D xs ys zs) ρ1
  | _ => False
section
variable {K : PySem.W.Frag} {X : Cx} {Z : Zx} {pos p : Pos} {a b c : Expr} {wa : WA} {ta : TA}
end
end DL
set_option maxHeartbeats 4000000
namespace DL
open PySem PySem.Spec PyProof.Rows L2
section
variable {K : PySem.W.Frag} {X : Cx} {Z : Zx} {pos p pos' : Pos}
end
section
variable {K : PySem.W.Frag} {X : Cx} {pos p pos' np : Pos} {Rf : DSp} {ta : TA} {wa : WA} {g : TG} {wg : WG}
def wTry1 (Rf : DSp) (wa : WA) (wg : WG) (Nc : Str) (i : Nat) (ws : Addr → WS) : WS := fun DD ρ => wa ρ fun ds ρ1 => Rf ds (fun s => wg s.fz ρ1 DD.nx)
  fun N fs => N = Nc ∧ fs = [] ∧ ∀ a, ws a ⟨fun ρ' => DD.nx (put ρ' i none), DD.rt, fun ρ' => DD.bk (put ρ' i none), fun ρ' => DD.ct (put ρ' i none)⟩ (put ρ1 i (some (.d (.ref a))))
end
end DL
set_option maxHeartbeats 4000000
namespace DL
open PySem PySem.Spec PyProof.Rows L2
section
variable {K : PySem.W.Frag} {X : Cx} {Z : Zx} {pos p p2 pos' np : Pos}
theorem vals_refs : ∀ {cs : List Addr} {us : List Value}, Vals (cs.map V.ref) us → us = cs.map Value.ref
  | [], us, h => by cases h; rfl
  | c :: cs, us, h => by
    cases h with
    | cons r rr =>
      cases r
      rw [vals_refs rr]; rfl
def wIsE (a : Addr) (b : Bool) (we : W) : W := fun ρ P => we ρ fun s ρ1 => s.fz = .ref a ∧ P (.d (.bl b)) ρ1
end
section
variable {K : PySem.W.Frag} {X : Cx} {Z : Zx} {pos p p2 pos' np : Pos} {a D : Addr} {oe : Obj} {pn : List (Addr × Obj)} {e ec : Expr} {te : TE} {we : W} {c : V} {cv : Value} {b : Bool} {cs : List Addr} {es : List Expr} {x1 : Nat}
end
section
variable {K : PySem.W.Frag} {X : Cx} {Z : Zx} {pos p p2 pos' np : Pos} {c : Value} {i k : Nat} {n x y : Str} {f Cc : Addr} {fd : FuncData} {ps : List Str} {Rf : DSp} {e tg : Expr} {es : List Expr} {ta : TA} {wa : WA} {g : TG} {wg : WG} {Nc : Str} {ts : Addr → TS} {ws : Addr → WS} {b₀ : Stmt} {suite : List Stmt} {pos1 pos2 pos3 : Pos}
abbrev wgDrop : WG := fun _ ρ P => P ρ
end
end DL
set_option maxHeartbeats 4000000
namespace DL
open PySem PySem.Spec PyProof.Rows L2 RT
section
variable {prog : Program} {w : World} {A : Around} {E : Value → Shared → Prop} {z : Shared} {R : Result → Shared → Prop} {j l L : Addr} {xs : Array Value}
end
section
variable {K : PySem.W.Frag} {X : Cx} {Z : Zx} {e : Expr} {te : TE} {we : W} {p p2 pos pos2 : Pos}
def wLRev (we : W) : W := fun ρ P => we ρ fun s ρ1 => match s.fz with
  | .lst xs => P (.ol xs.reverse) ρ1
  | _ => False
end
end DL
namespace DL
open PySem L2
section
variable {K : PySem.W.Frag} {C D : Addr} {T : String} {b : Bool} {t c : Value} {cs : List Value}
end
end DL
set_option maxHeartbeats 4000000
namespace DL
open PySem PySem.Spec L2
section
variable {K : PySem.W.Frag} {X : Cx} {Z : Zx} {pos : Pos} {a b : Expr} {ta tb : TE} {wa wb : W}
end
end DL
set_option maxHeartbeats 4000000
namespace DL
open PySem PySem.Spec PyProof.Rows L2 LiI
section
variable {prog : Program} {w : World} {A : Around} {z TI TO i1 i2 S : Addr} {fp1 fp2 : List Addr} {n1 n2 : Nat} {P1 P2 : Nat → Value → Prop} {St1 St2 : Nat → Heap → Prop}
def ZlSt (z TI TO i1 i2 S : Addr) (St1 St2 : Nat → Heap → Prop) (i : Nat) (h : Heap) : Prop :=
  IsTupOf2 h TI (.ref i1) (.ref i2) ∧ St1 i h ∧ St2 i h ∧ ((IsZip h z TI TO .none ∧ ∃ a b, IsTupOf2 h TO a b) ∨ ∃ T f oT, IsZipHeld h z TI TO T f ∧ h.get? T = some oT ∧ T ≠ z ∧ T ≠ i1 ∧ T ≠ i2 ∧ T ≠ S)
structure ZlOff (z TI TO i1 i2 S : Addr) (fp1 fp2 : List Addr) : Prop where
  z : S ≠ z
  TI : S ≠ TI
  TO : S ≠ TO
  f1 : S ∉ fp1
  f2 : S ∉ fp2
theorem ZlSt.keep {i : Nat} {h h' : Heap} {A0 : Around} (O : ZlOff z TI TO i1 i2 S fp1 fp2) (D1 : Draws prog w A0 i1 fp1 n1 P1 St1) (D2 : Draws prog w A0 i2 fp2 n2 P2 St2) (st : ZlSt z TI TO i1 i2 S St1 St2 i h)
    (hk : ∀ b o, b ≠ S → h.get? b = some o → h'.get? b = some o) : ZlSt z TI TO i1 i2 S St1 St2 i h' := by
  obtain ⟨hTI, h1, h2, hz⟩ := st
  refine ⟨hk _ _ (Ne.symm O.TI) hTI, D1.frame _ _ _ h1 fun b hb o e => hk b o (fun z => O.f1 (z ▸ hb)) e, D2.frame _ _ _ h2 fun b hb o e => hk b o (fun z => O.f2 (z ▸ hb)) e, ?_⟩
  rcases hz with ⟨hz, a, b, hTO⟩ | ⟨T, f, oT, hz, hT, r1, r2, r3, r4⟩
  · exact .inl ⟨hk _ _ (Ne.symm O.z) hz, a, b, hk _ _ (Ne.symm O.TO) hTO⟩
  · exact .inr ⟨T, f, oT, hk _ _ (Ne.symm O.z) hz, hk _ _ r4 hT, r1, r2, r3, r4⟩
theorem zl_item {E : Value → Shared → Prop} {Q : Option Value → Shared → Prop} {i : Nat} {s : Shared} (S2 : ZipSep2 z TI TO i1 i2 fp1 fp2) (E1 : Draws prog w A.in1 i1 fp1 n1 P1 St1) (E2 : Draws prog w A.in1 i2 fp2 n2 P2 St2)
    (st : ZlSt z TI TO i1 i2 S St1 St2 i s.heap) (l1 : i < n1) (l2 : i < n2) (hS : S < s.heap.objs.size)
    (hQ : ∀ x1 x2 h' tk, P1 i x1 → P2 i x2 → IsTupOf2 h' s.heap.objs.size x1 x2 → ZlSt z TI TO i1 i2 S St1 St2 (i + 1) h' →
      (∀ c o, c ≠ z → c ≠ TO → c ≠ i1 → c ≠ i2 → s.heap.get? c = some o → h'.get? c = some o) → Q (some (.ref s.heap.objs.size)) { s with heap := h', toks := tk }) :
    wpAny (model prog w) A (pyNext (.ref z)) Q E s := by
  obtain ⟨hTI, h1, h2, hz⟩ := st
  have lt : ∀ {c o}, s.heap.get? c = some o → s.heap.objs.size ≠ c := fun e => Nat.ne_of_gt (Heap.lt_size e)
  have m1 : s.heap.objs.size ≠ i1 := let ⟨_, e⟩ := E1.live _ _ h1; lt e
  have m2 : s.heap.objs.size ≠ i2 := let ⟨_, e⟩ := E2.live _ _ h2; lt e
  rcases hz with ⟨hz, a, b, hTO⟩ | ⟨T, f, oT, hz, hT, r1, r2, r3, r4⟩
  · refine wpAny_pyNext_zipD2_item S2 E1 E2 hz hTI hTO h1 h2 l1 l2 fun x1 x2 h' tk p1 p2 b1 b2 j1 j2 b5 b6 hk => ?_
    exact hQ x1 x2 h' tk p1 p2 b5 ⟨hk _ _ S2.TIz S2.TITO S2.TIi1 S2.TIi2 hTI, j1, j2, .inr ⟨s.heap.objs.size, false, _, b1, b5, lt hz, m1, m2, Nat.ne_of_gt hS⟩⟩
      fun c o c1 c2 c3 c4 e => hk c o c1 c2 c3 c4 e
  · refine zipH_next S2 E1 E2 hz hT hTI h1 h2 l1 l2 fun x1 x2 h' tk p1 p2 b1 j1 j2 b5 b6 hk => ?_
    exact hQ x1 x2 h' tk p1 p2 b5 ⟨hk _ _ S2.TIz S2.TIi1 S2.TIi2 hTI, j1, j2, .inr ⟨T, true, oT, b1, hk _ _ r1 r2 r3 hT, r1, r2, r3, r4⟩⟩
      fun c o c1 c2 c3 c4 e => hk c o c1 c3 c4 e
theorem zl_done {E : Value → Shared → Prop} {Q : Option Value → Shared → Prop} {i : Nat} {s : Shared} (S2 : ZipSep2 z TI TO i1 i2 fp1 fp2) (E1 : Draws prog w A.in1 i1 fp1 n1 P1 St1) (E2 : Draws prog w A.in1 i2 fp2 n2 P2 St2)
    (st : ZlSt z TI TO i1 i2 S St1 St2 i s.heap) (l1 : i ≤ n1) (l2 : i ≤ n2) (hend : i = n1 ∨ i = n2)
    (hQ : ∀ h' tk, (∀ c o, c ≠ z → c ≠ TO → c ≠ i1 → c ≠ i2 → s.heap.get? c = some o → h'.get? c = some o) → Q none { s with heap := h', toks := tk }) :
    wpAny (model prog w) A (pyNext (.ref z)) Q E s := by
  obtain ⟨hTI, h1, h2, hz⟩ := st
  rcases hz with ⟨hz, a, b, hTO⟩ | ⟨T, f, oT, hz, hT, r1, r2, r3, r4⟩
  · exact wpAny_pyNext_zipD2_end S2 E1 E2 hz hTI hTO h1 h2 l1 l2 hend fun h' tk hk => hQ h' tk fun c o c1 c2 c3 c4 e => hk c o c1 c2 c3 c4 e
  · exact zipH_stop S2 E1 E2 hz hT hTI h1 h2 l1 l2 hend fun h' tk hk => hQ h' tk fun c o c1 c2 c3 c4 e => hk c o c1 c3 c4 e
structure ZlG (P1 P2 : Nat → Value → Prop) (lo : Addr) (h : Heap) (as : List Addr) : Prop where
  rise : as.Pairwise (· < ·)
  above : ∀ a ∈ as, lo ≤ a
  pairs : ∀ (j : Nat) (a : Addr), as[j]? = some a → ∃ x1 x2, P1 j x1 ∧ P2 j x2 ∧ IsTupOf2 h a x1 x2
theorem zl_loop {R : Result → Shared → Prop} {s : Shared} {n : Nat} (S2 : ZipSep2 z TI TO i1 i2 fp1 fp2) (O : ZlOff z TI TO i1 i2 S fp1 fp2) (D1 : ∀ A : Around, A.handled = none → Draws prog w A i1 fp1 n1 P1 St1) (D2 : ∀ A : Around, A.handled = none → Draws prog w A i2 fp2 n2 P2 St2)
    (hh : A.handled = none) (hn : n = min n1 n2) (hz : n ≤ sizeLine) (lo : Addr) (lS : S < lo) (lz : z < lo) (lTO : TO < lo) (l1 : i1 < lo) (l2 : i2 < lo) (res : Value) {h₁ : Heap}
    (hR : ∀ h' tk acc c as, (∀ b o, b ≠ S → b ≠ z → b ≠ TO → b ≠ i1 → b ≠ i2 → h₁.get? b = some o → h'.get? b = some o) → h'.get? S = some { cls := .type "list", dict := none, data := .seq acc c, slots := #[] } → as.length = n → ZlG P1 P2 lo h' as →
      acc.toList = as.map Value.ref → R (.ok (.ret res)) { s with heap := h', toks := tk }) :
    ∀ (k i : Nat) (h : Heap) (tk c : Nat) (acc : Array Value) (as : List Addr), n - i = k → i ≤ n → ZlSt z TI TO i1 i2 S St1 St2 i h → (∀ b o, b ≠ S → b ≠ z → b ≠ TO → b ≠ i1 → b ≠ i2 → h₁.get? b = some o → h.get? b = some o) →
      h.get? S = some { cls := .type "list", dict := none, data := .seq acc c, slots := #[] } → acc.toList = as.map Value.ref → as.length = i → ZlG P1 P2 lo h as → (∀ a ∈ as, a < h.objs.size) → lo ≤ h.objs.size →
      codeAny (model prog w) A (.builtin "list.extend.loop" ⟨[.ref S, .ref z, res], []⟩) R { s with heap := h, toks := tk } := by
  have E1 := D1 A.in1.in1 (by simpa using hh)
  have E2 := D2 A.in1.in1 (by simpa using hh)
  have oi1 : S ≠ i1 := fun e => O.f1 (e ▸ S2.mem1)
  have oi2 : S ≠ i2 := fun e => O.f2 (e ▸ S2.mem2)
  have hig : ∀ a, lo ≤ a → a ≠ S ∧ a ≠ z ∧ a ≠ TO ∧ a ≠ i1 ∧ a ≠ i2 := fun a h => ⟨Nat.ne_of_gt (Nat.lt_of_lt_of_le lS h), Nat.ne_of_gt (Nat.lt_of_lt_of_le lz h), Nat.ne_of_gt (Nat.lt_of_lt_of_le lTO h), Nat.ne_of_gt (Nat.lt_of_lt_of_le l1 h), Nat.ne_of_gt (Nat.lt_of_lt_of_le l2 h)⟩
  intro k
  induction k with
  | zero =>
    intro i h tk c acc as hk hi hst hkeep hS hacc hal hG has hlo
    refine codeAny_builtin PySem.F.entry_extend_loop ?_
    rw [Around.under_plainId PySem.F.plain_extend_loop _]
    show wpAny _ A.in1 (pyNext (.ref z) >>= _) _ _ _
    refine wpAny_bind (zl_done (s := { s with heap := h, toks := tk }) (A := A.in1) S2 E1 E2 hst (by omega) (by omega) (by omega) fun h' tk' he => ?_)
    refine wpAny_pure (hR h' tk' acc c as (fun b o h1 h2 h3 h4 h5 e => he b o h2 h3 h4 h5 (hkeep b o h1 h2 h3 h4 h5 e)) (he S _ O.z O.TO oi1 oi2 hS) (by omega) ⟨hG.rise, hG.above, fun j a hj => ?_⟩ hacc)
    obtain ⟨x1, x2, p1, p2, e3⟩ := hG.pairs j a hj
    obtain ⟨_, q2, q3, q4, q5⟩ := hig a (hG.above a (List.mem_of_getElem? hj))
    exact ⟨x1, x2, p1, p2, he a _ q2 q3 q4 q5 e3⟩
  | succ k ih =>
    intro i h tk c acc as hk hi hst hkeep hS hacc hal hG has hlo
    have hlt : i < n := by omega
    have hsz : acc.size = i := by rw [← Array.length_toList, hacc, List.length_map, hal]
    refine codeAny_builtin PySem.F.entry_extend_loop ?_
    rw [Around.under_plainId PySem.F.plain_extend_loop _]
    show wpAny _ A.in1 (pyNext (.ref z) >>= _) _ _ _
    refine wpAny_bind (zl_item (s := { s with heap := h, toks := tk }) (A := A.in1) S2 E1 E2 hst (by omega) (by omega) (Heap.lt_size hS) fun x1 x2 h' tk' p1 p2 ht hst' hkp => ?_)
    dsimp only at ht hkp ⊢
    have hS' := hkp S _ O.z O.TO oi1 oi2 hS
    have up : ∀ b o, b ≠ S → h'.get? b = some o → (h'.update S (Obj.mapSeq (·.push (Value.ref h.objs.size)))).get? b = some o := fun b o hb e => (Heap.get?_update_other _ _ (Ne.symm hb)).trans e
    have hSl : S < h.objs.size := Heap.lt_size hS
    show wpAny _ A.in1 (updateSeq S (·.push (Value.ref h.objs.size)) >>= _) _ _ _
    refine wpAny_bind ?_
    have htop : IsTupOf2 (h'.update S (Obj.mapSeq (·.push (Value.ref h.objs.size)))) h.objs.size x1 x2 := up _ _ (Nat.ne_of_gt hSl) ht
    have hsize : h.objs.size < (h'.update S (Obj.mapSeq (·.push (Value.ref h.objs.size)))).objs.size := Heap.lt_size htop
    refine wpAny_updateSeq hS' rfl (wpAny_pure ⟨plainId_quiet PySem.F.plain_extend_loop _, ih (i + 1) _ tk' _ (acc.push (Value.ref h.objs.size)) (as ++ [h.objs.size]) (by omega) hlt (hst'.keep O E1 E2 up)
      (fun b o h1 h2 h3 h4 h5 e => up b o h1 (hkp b o h2 h3 h4 h5 (hkeep b o h1 h2 h3 h4 h5 e))) (Heap.get?_update_self _ hS' rfl) (by rw [Array.toList_push, hacc, List.map_append]; rfl) (by rw [List.length_append, hal]; rfl) ⟨?_, ?_, ?_⟩ ?_ ?_⟩) (by rw [hsz]; omega) (by show (acc.push (Value.ref h.objs.size)).size ≤ sizeLine + 1; rw [Array.size_push, hsz]; omega)
    · refine List.pairwise_append.mpr ⟨hG.rise, List.pairwise_singleton _ _, fun a ha b hb => ?_⟩
      rw [List.mem_singleton.mp hb]
      exact has a ha
    · intro a ha
      rcases List.mem_append.mp ha with ha | ha
      · exact hG.above a ha
      · rw [List.mem_singleton.mp ha]; exact hlo
    · intro j b hj
      rcases Nat.lt_trichotomy j as.length with h1 | h1 | h1
      · rw [List.getElem?_append_left h1] at hj
        obtain ⟨y1, y2, e1, e2, e3⟩ := hG.pairs j b hj
        obtain ⟨q1, q2, q3, q4, q5⟩ := hig b (hG.above b (List.mem_of_getElem? hj))
        exact ⟨y1, y2, e1, e2, up b _ q1 (hkp b _ q2 q3 q4 q5 e3)⟩
      · subst h1
        have hb : h.objs.size = b := by simpa using hj
        subst hb
        exact ⟨x1, x2, by rw [hal]; exact p1, by rw [hal]; exact p2, htop⟩
      · have hnone : (as ++ [h.objs.size])[j]? = none := List.getElem?_eq_none (by rw [List.length_append, List.length_singleton]; omega)
        rw [hnone] at hj; cases hj
    · intro a ha
      rcases List.mem_append.mp ha with ha | ha
      · exact Nat.lt_trans (has a ha) hsize
      · rw [List.mem_singleton.mp ha]; exact hsize
    · exact Nat.le_trans hlo (Nat.le_of_lt hsize)
end
theorem zip_no_len : typeLookup (.type "zip") "__len__" = pure none := by rw [typeLookup_type, builtinLookup_eq_fast]; kernel_rfl
theorem zip_no_hint : typeLookup (.type "zip") "__length_hint__" = pure none := by rw [typeLookup_type, builtinLookup_eq_fast]; kernel_rfl
section
variable {prog : Program} {w : World} {A : Around} {E : Value → Shared → Prop} {s : Shared} {r : Addr}
theorem zl_hint (hT : s.TypeIs (.ref r) "zip") {Q : Bool → Shared → Prop} (h : Q true s) : wpAny (model prog w) A (Builtin.List.listLengthHint (.ref r)) Q E s := by
  unfold Builtin.List.listLengthHint
  refine wpAny_bind (wpAny_specialOf hT zip_no_len ?_)
  show wpAny _ _ (specialOf (Value.ref r) (Str.ofString "__length_hint__") >>= fun _ => _) _ _ s
  refine wpAny_bind (wpAny_specialOf hT zip_no_hint ?_)
  exact wpAny_pure h
end
section
variable {prog : Program} {w : World} {A : Around} {s : Shared} {z TI TO i1 i2 S : Addr} {fp1 fp2 : List Addr} {n1 n2 : Nat} {P1 P2 : Nat → Value → Prop} {St1 St2 : Nat → Heap → Prop}
theorem zl_extend {R : Result → Shared → Prop} {n : Nat} (S2 : ZipSep2 z TI TO i1 i2 fp1 fp2) (O : ZlOff z TI TO i1 i2 S fp1 fp2) (D1 : ∀ A : Around, A.handled = none → Draws prog w A i1 fp1 n1 P1 St1) (D2 : ∀ A : Around, A.handled = none → Draws prog w A i2 fp2 n2 P2 St2)
    (hh : A.handled = none) (hn : n = min n1 n2) (hsz : n ≤ sizeLine) (hz : IsZip s.heap z TI TO .none) (st : ZlSt z TI TO i1 i2 S St1 St2 0 s.heap) (lTO : TO < s.heap.objs.size) (l1 : i1 < s.heap.objs.size) (l2 : i2 < s.heap.objs.size) (res : Value) (c₀ : Nat)
    (hS : s.heap.get? S = some { cls := .type "list", data := .seq #[] c₀ })
    (hR : ∀ h' tk acc c as, (∀ b o, b ≠ S → b ≠ z → b ≠ TO → b ≠ i1 → b ≠ i2 → s.heap.get? b = some o → h'.get? b = some o) → h'.get? S = some { cls := .type "list", dict := none, data := .seq acc c, slots := #[] } → as.length = n → ZlG P1 P2 s.heap.objs.size h' as →
      acc.toList = as.map Value.ref → R (.ok (.ret res)) { s with heap := h', toks := tk }) :
    wpAny (model prog w) A.in1 (Builtin.List.listExtendWith (.ref S) (.ref z) res)
      (fun fin s' => match fin with | .done f => R (.ok f) s' | .again c' => c'.quiet = true ∧ codeAny (model prog w) A c' R s') (fun e s' => R (.error e) s') s := by
  have ty : s.TypeIs (.ref z) "zip" := ⟨_, hz, rfl⟩
  have E1 := D1 A.in1.in1 (by simpa using hh)
  have E2 := D2 A.in1.in1 (by simpa using hh)
  have key : ∀ (h : Heap) (c₁ tk : Nat), (∀ b o, b ≠ S → s.heap.get? b = some o → h.get? b = some o) → s.heap.objs.size ≤ h.objs.size →
      h.get? S = some { cls := .type "list", data := .seq #[] c₁ } → codeAny (model prog w) A (.builtin "list.extend.loop" ⟨[.ref S, .ref z, res], []⟩) R { s with heap := h, toks := tk } := by
    intro h c₁ tk hk hle hS₁
    exact zl_loop (s := s) (h₁ := s.heap) S2 O D1 D2 hh hn hsz s.heap.objs.size (Heap.lt_size hS) (Heap.lt_size hz) lTO l1 l2 res hR
      n 0 h tk c₁ #[] [] (Nat.sub_zero _) (Nat.zero_le _) (st.keep O E1 E2 hk) (fun b o h1 _ _ _ _ e => hk b o h1 e) hS₁ rfl rfl
      ⟨List.Pairwise.nil, (fun _ ha => nomatch ha), (fun j a hj => by simp at hj)⟩ (fun _ ha => nomatch ha) hle
  unfold Builtin.List.listExtendWith
  refine wpAny_bind (wpAny_typeOf (T := "zip") ty ?_)
  have h1 : Builtin.List.listSameRef (.ref S) (.ref z) = false := by simp [Builtin.List.listSameRef, O.z]
  have h2 : (Value.type "zip" == Value.type "list") = false := by decide
  have h3 : (Value.type "zip" == Value.type "tuple") = false := by decide
  simp only [h1, h2, h3, Bool.or_false, Bool.false_eq_true, if_false]
  refine wpAny_bind (wpAny_pyIter_zip hz ?_)
  refine wpAny_bind (wpAny_holding (zl_hint ty ?_))
  refine wpAny_ite_split (fun _ => ?_) (fun _ => wpAny_pure ⟨plainId_quiet PySem.F.plain_extend_loop _, key _ c₀ _ (fun b o _ e => e) (Nat.le_refl _) hS⟩)
  refine wpAny_bind (wpAny_rule ?_)
  refine wpAny_bind ?_
  show wpAny _ _ (updateSeq S (·.push .none) >>= fun _ => updateSeq S (·.pop)) _ _ _
  refine wpAny_bind (wpAny_updateSeq hS rfl ?_)
  have hS₂ := Heap.get?_update_self (Obj.mapSeq (·.push Value.none)) hS rfl
  refine wpAny_updateSeq (hz := by seq_fits) hS₂ rfl ?_
  have hS₃ := Heap.get?_update_self (Obj.mapSeq (·.pop)) hS₂ rfl
  refine wpAny_pure ⟨plainId_quiet PySem.F.plain_extend_loop _, key _ _ _ (fun b o hb e => ?_) ?_ hS₃⟩
  · exact (Heap.get?_update_other _ _ (Ne.symm hb)).trans ((Heap.get?_update_other _ _ (Ne.symm hb)).trans e)
  · rw [Heap.size_update, Heap.size_update]; exact Nat.le_refl _
theorem zl_init {R : Result → Shared → Prop} {n : Nat} (S2 : ZipSep2 z TI TO i1 i2 fp1 fp2) (O : ZlOff z TI TO i1 i2 S fp1 fp2) (D1 : ∀ A : Around, A.handled = none → Draws prog w A i1 fp1 n1 P1 St1) (D2 : ∀ A : Around, A.handled = none → Draws prog w A i2 fp2 n2 P2 St2)
    (hh : A.handled = none) (hn : n = min n1 n2) (hsz : n ≤ sizeLine) (hz : IsZip s.heap z TI TO .none) (st : ZlSt z TI TO i1 i2 S St1 St2 0 s.heap) (lTO : TO < s.heap.objs.size) (l1 : i1 < s.heap.objs.size) (l2 : i2 < s.heap.objs.size)
    (hS : s.heap.get? S = some { cls := .type "list", data := .seq #[] })
    (hR : ∀ h' tk acc c as, (∀ b o, b ≠ S → b ≠ z → b ≠ TO → b ≠ i1 → b ≠ i2 → s.heap.get? b = some o → h'.get? b = some o) → h'.get? S = some { cls := .type "list", dict := none, data := .seq acc c, slots := #[] } → as.length = n → ZlG P1 P2 s.heap.objs.size h' as →
      acc.toList = as.map Value.ref → R (.ok (.ret .none)) { s with heap := h', toks := tk }) :
    wpAny (model prog w) A.in1 (Builtin.«list.__init__» ⟨[.ref S, .ref z], []⟩)
      (fun fin s' => match fin with | .done f => R (.ok f) s' | .again c' => c'.quiet = true ∧ codeAny (model prog w) A c' R s') (fun e s' => R (.error e) s') s := by
  show wpAny _ _ (Builtin.List.listItems (.ref S) >>= fun old => Builtin.List.listUpdate (.ref S) (fun _ => #[]) >>= fun _ => letGo old.toList.reverse >>= fun _ => Builtin.List.listExtendWith (.ref S) (.ref z) .none) _ _ s
  refine wpAny_bind ?_
  unfold Builtin.List.listItems
  refine wpAny_bind (wpAny_seqItems hS rfl (wpAny_pure ?_))
  show wpAny _ _ (updateSeq S (fun _ => #[]) >>= fun _ => letGo (#[] : Array Value).toList.reverse >>= fun _ => Builtin.List.listExtendWith (.ref S) (.ref z) .none) _ _ s
  refine wpAny_bind (wpAny_updateSeq hS rfl ?_)
  have hS₂ := Heap.get?_update_self (Obj.mapSeq (fun _ => (#[] : Array Value))) hS rfl
  have oth : ∀ b o, b ≠ S → s.heap.get? b = some o → (s.heap.update S (Obj.mapSeq (fun _ => (#[] : Array Value)))).get? b = some o :=
    fun b o hb e => (Heap.get?_update_other _ _ (Ne.symm hb)).trans e
  have esz : (s.heap.update S (Obj.mapSeq (fun _ => (#[] : Array Value)))).objs.size = s.heap.objs.size := Heap.size_update ..
  refine wpAny_bind (wpAny_letGo ?_)
  have E1 := D1 A.in1.in1 (by simpa using hh)
  have E2 := D2 A.in1.in1 (by simpa using hh)
  refine zl_extend (s := { s with heap := s.heap.update S (Obj.mapSeq (fun _ => (#[] : Array Value))) }) S2 O D1 D2 hh hn hsz (oth _ _ (Ne.symm O.z) hz) (st.keep O E1 E2 oth) (by rw [esz]; exact lTO) (by rw [esz]; exact l1) (by rw [esz]; exact l2) .none _ hS₂ fun h' tk acc c as hk hS' hl hG hacc => ?_
  rw [show ({ s with heap := s.heap.update S (Obj.mapSeq (fun _ => (#[] : Array Value))) } : Shared).heap.objs.size = s.heap.objs.size from esz] at hG
  exact hR h' tk acc c as (fun b o h1 h2 h3 h4 h5 e => hk b o h1 h2 h3 h4 h5 (oth b o h1 e)) hS' hl hG hacc
theorem zl_call {Q : Value → Shared → Prop} {E : Value → Shared → Prop} {n : Nat} (S2 : ZipSep2 z TI TO i1 i2 fp1 fp2) (D1 : ∀ A : Around, A.handled = none → Draws prog w A i1 fp1 n1 P1 St1) (D2 : ∀ A : Around, A.handled = none → Draws prog w A i2 fp2 n2 P2 St2)
    (hh : A.handled = none) (hn : n = min n1 n2) (hsz : n ≤ sizeLine) (hz : IsZip s.heap z TI TO .none) (hTI : IsTupOf2 s.heap TI (.ref i1) (.ref i2)) (hTO : ∃ a b, IsTupOf2 s.heap TO a b) (st1 : St1 0 s.heap) (st2 : St2 0 s.heap)
    (live1 : ∀ b ∈ fp1, ∃ o, s.heap.get? b = some o) (live2 : ∀ b ∈ fp2, ∃ o, s.heap.get? b = some o)
    (hQ : ∀ h' tk acc c as, (∀ b o, b ≠ z → b ≠ TO → b ≠ i1 → b ≠ i2 → s.heap.get? b = some o → h'.get? b = some o) → h'.get? s.heap.objs.size = some { cls := .type "list", dict := none, data := .seq acc c, slots := #[] } → as.length = n →
      ZlG P1 P2 (s.heap.objs.size + 1) h' as → acc.toList = as.map Value.ref → Q (.ref s.heap.objs.size) { s with heap := h', toks := tk }) :
    wpAny (model prog w) A (call (.type "list") [.ref z]) Q E s := by
  refine callType_codes (Q₁ := fun obj s₁ => obj = .ref s.heap.objs.size ∧ s₁ = { s with heap := s.heap.push { cls := .type "list", data := .seq #[] } }) PySem.F.called_list (PySem.F.typeCall_list_1 _) PySem.F.entry_list_init
    (code_list_new _ ⟨rfl, rfl⟩) fun obj s₁ h₁ => ?_
  obtain ⟨rfl, rfl⟩ := h₁
  have hS : (s.heap.push { cls := .type "list", data := .seq #[] }).get? s.heap.objs.size = some { cls := .type "list", data := .seq #[] } := Heap.get?_push_size _ rfl
  have up : ∀ b o, s.heap.get? b = some o → (s.heap.push { cls := .type "list", data := .seq #[] }).get? b = some o := fun b o e => Heap.get?_push_of_some _ e
  have esz : (s.heap.push { cls := .type "list", data := .seq #[] }).objs.size = s.heap.objs.size + 1 := Heap.size_push ..
  have E1 := D1 A.in1.in1 (by simpa using hh)
  have E2 := D2 A.in1.in1 (by simpa using hh)
  obtain ⟨ta, tb, hTO⟩ := hTO
  have ltO := Heap.lt_size hTO
  have lt1 : ∀ b ∈ fp1, b < s.heap.objs.size := fun b hb => let ⟨_, e⟩ := live1 b hb; Heap.lt_size e
  have lt2 : ∀ b ∈ fp2, b < s.heap.objs.size := fun b hb => let ⟨_, e⟩ := live2 b hb; Heap.lt_size e
  have O : ZlOff z TI TO i1 i2 s.heap.objs.size fp1 fp2 := ⟨Nat.ne_of_gt (Heap.lt_size hz), Nat.ne_of_gt (Heap.lt_size hTI), Nat.ne_of_gt ltO, fun m => Nat.lt_irrefl _ (lt1 _ m), fun m => Nat.lt_irrefl _ (lt2 _ m)⟩
  have st : ZlSt z TI TO i1 i2 s.heap.objs.size St1 St2 0 (s.heap.push { cls := .type "list", data := .seq #[] }) :=
    ⟨up _ _ hTI, E1.frame _ _ _ st1 fun b _ o e => up b o e, E2.frame _ _ _ st2 fun b _ o e => up b o e, .inl ⟨up _ _ hz, ta, tb, up _ _ hTO⟩⟩
  refine ⟨⟨_, hS, rfl⟩, PySem.F.args_list_init_2 _ _, zl_init (A := A.in1) (n := n) (s := { s with heap := s.heap.push { cls := .type "list", data := .seq #[] } }) S2 O D1 D2 hh hn hsz (up _ _ hz) st (by rw [esz]; exact Nat.lt_succ_of_lt ltO) (by rw [esz]; exact Nat.lt_succ_of_lt (lt1 _ S2.mem1)) (by rw [esz]; exact Nat.lt_succ_of_lt (lt2 _ S2.mem2)) hS fun h' tk acc c as hk hS' hl hG hacc => ?_⟩
  rw [show ({ s with heap := s.heap.push { cls := .type "list", data := .seq #[] } } : Shared).heap.objs.size = s.heap.objs.size + 1 from esz] at hG
  exact ⟨rfl, hQ h' tk acc c as (fun b o h2 h3 h4 h5 e => hk b o (Nat.ne_of_lt (Heap.lt_size e)) h2 h3 h4 h5 (up b o e)) hS' hl hG hacc⟩
end
def putP : Hp → List Addr → List (V × V) → Hp
  | H, a :: as, p :: ps => putP (upd H a (.tup [p.1, p.2])) as ps
  | H, _, _ => H
theorem putP_off {b : Addr} : ∀ (as : List Addr) (ps : List (V × V)) (H : Hp), b ∉ as → putP H as ps b = H b
  | [], _, _, _ => rfl
  | _ :: _, [], _, _ => rfl
  | a :: as, p :: ps, H, h => by
    show putP (upd H a (.tup [p.1, p.2])) as ps b = H b
    rw [putP_off as ps _ (fun z => h (List.mem_cons_of_mem _ z)), upd_ne (fun z => h (by rw [z]; exact List.mem_cons_self))]
theorem putP_at : ∀ (as : List Addr) (ps : List (V × V)) (H : Hp), as.length = ps.length → as.Nodup → Paired (fun (t : Addr) (p : V × V) => putP H as ps t = some (.tup [p.1, p.2])) as ps
  | [], [], _, _, _ => .nil
  | [], _ :: _, _, h, _ => by cases h
  | _ :: _, [], _, h, _ => by cases h
  | a :: as, p :: ps, H, h, hn => by
    have hn' := List.nodup_cons.mp hn
    have ih := putP_at as ps (upd H a (.tup [p.1, p.2])) (Nat.succ.inj h) hn'.2
    refine .cons ?_ ih
    show putP (upd H a (.tup [p.1, p.2])) as ps a = some (.tup [p.1, p.2])
    rw [putP_off as ps _ hn'.1, upd_same]
section
variable {X : Cx}
theorem pairs_laid {pins : List (Addr × Obj)} {σ : L2.St} {H : Hp} {s : Shared} {h' : Heap} {tk : Nat} {lo S : Addr} {xs ys : List V} {P1 P2 : Nat → Value → Prop} {acc : Array Value} {c : Nat} {as : List Addr} (I : Inv X pins σ H s) (hz : (xs.zip ys).length ≤ sizeLine)
    (r1 : ∀ j v, P1 j v → ∃ x, xs[j]? = some x ∧ RelV x v) (r2 : ∀ j v, P2 j v → ∃ x, ys[j]? = some x ∧ RelV x v) (hlo : s.heap.objs.size ≤ lo) (hSlo : S < lo) (hS0 : s.heap.objs.size ≤ S)
    (hk : ∀ b o, s.heap.get? b = some o → h'.get? b = some o) (hS : h'.get? S = some { cls := .type "list", dict := none, data := .seq acc c, slots := #[] }) (hl : as.length = (xs.zip ys).length) (hG : ZlG P1 P2 lo h' as) (hacc : acc.toList = as.map Value.ref) :
    ∃ H' : Hp, (∀ b o, H b = some o → H' b = some o) ∧ H S = none ∧ (∀ t ∈ as, H t = none) ∧ S ∉ as ∧ H' S = some (.lst (as.map V.ref)) ∧ Paired (fun (t : Addr) (q : V × V) => H' t = some (.tup [q.1, q.2])) as (xs.zip ys) ∧ Inv X pins σ H' { s with heap := h', toks := tk } := by
  have hSn : S ∉ as := fun z => absurd (hG.above _ z) (Nat.not_le.mpr hSlo)
  have nd : as.Nodup := List.Pairwise.imp (fun {a b} (h : a < b) => Nat.ne_of_lt h) hG.rise
  have new : ∀ t ∈ as, H t = none := fun t ht => I.hok.fresh (Nat.le_trans hlo (hG.above t ht))
  have newS : H S = none := I.hok.fresh hS0
  have atP := putP_at as (xs.zip ys) (upd H S (.lst (as.map V.ref))) hl nd
  have off : ∀ b, b ∉ as → b ≠ S → putP (upd H S (.lst (as.map V.ref))) as (xs.zip ys) b = H b := fun b h1 h2 => by rw [putP_off as _ _ h1, upd_ne h2]
  have low : ∀ b o, s.heap.get? b = some o → b ∉ as ∧ b ≠ S := fun b o e => ⟨fun z => absurd (Heap.lt_size e) (Nat.not_lt.mpr (Nat.le_trans hlo (hG.above b z))), Nat.ne_of_lt (Nat.lt_of_lt_of_le (Heap.lt_size e) hS0)⟩
  have kp : ∀ b u, H b = some u → (putP (upd H S (.lst (as.map V.ref))) as (xs.zip ys)) b = some u := fun b u e => by
    rw [off b (fun z => by rw [new b z] at e; cases e) (fun z => by rw [z, newS] at e; cases e)]
    exact e
  have eS : putP (upd H S (.lst (as.map V.ref))) as (xs.zip ys) S = some (.lst (as.map V.ref)) := by rw [putP_off as _ _ hSn, upd_same]
  refine ⟨putP (upd H S (.lst (as.map V.ref))) as (xs.zip ys), kp, newS, new, hSn, eS, atP, ?_⟩
  refine I.call' (ch := []) rfl ⟨fun b o q _ _ _ => hk b o q, fun b o q _ _ _ => ⟨o.slots, hk b o q⟩, fun b o q n _ => ?_, fun b o q _ => ⟨o, hk b o q⟩, fun b xs q => kp b _ q, fun b o u q => kp b _ q, fun b ps q => ⟨#[], by rw [kp b _ q]; simp⟩⟩ (fun b u q => ?_) I.bare fun b z => by simp at z
  · obtain ⟨z1, z2⟩ := low b o q
    rw [off b z1 z2]
    exact n
  · by_cases hb : b ∈ as
    · obtain ⟨j, pk, e1, e2, e3⟩ := paired_ix atP hb
      rw [e3] at q
      cases q
      obtain ⟨x1, x2, f1, f2, f3⟩ := hG.pairs j b e1
      obtain ⟨y1, g1, g2⟩ := r1 j x1 f1
      obtain ⟨y2, g3, g4⟩ := r2 j x2 f2
      have ez := (List.getElem?_zip_eq_some (z := pk)).mp e2
      rw [g1] at ez; rw [g3] at ez
      obtain ⟨z1, z2⟩ := ez
      cases z1; cases z2
      exact ⟨by show 2 ≤ sizeLine; decide, [x1, x2], .cons g2 (.cons g4 .nil), ⟨_, f3, rfl, _, rfl⟩⟩
    · by_cases hb2 : b = S
      · rw [hb2] at q ⊢
        rw [eS] at q
        cases q
        refine ⟨by rw [List.length_map]; omega, acc.toList, c, by rw [hacc]; exact LiI.vals_refs as, ?_⟩
        rw [Array.toArray_toList]
        exact hS
      · rw [off b hb hb2] at q
        exact (I.hok b u q).stay (fun d v _ y => hk d v y) (fun d y => kp d _ y) fun d xs y => kp d _ y
end
def tLZ (K : PySem.W.Frag) (ta : TA) : TE := fun σ H Q => ta σ H fun vs H1 => ∃ (c1 c2 : Src) (xs ys : List V), vs = [c1.v, c2.v] ∧ c1.items K H1 xs ∧ c2.items K H1 ys ∧ (xs.zip ys).length ≤ sizeLine ∧
  ∀ (H' : Hp) (p : Addr) (ts : List Addr), Same H1 H' → H1 p = none → (∀ t ∈ ts, H1 t = none) → p ∉ ts → H' p = some (.lst (ts.map V.ref)) → Paired (fun (t : Addr) (q : V × V) => H' t = some (.tup [q.1, q.2])) ts (xs.zip ys) → Q (.ref p) H'
theorem pe_listZip {X : Cx} {e e2 : Expr} {ta : TA} {p p2 pos pos2 : Pos} (hcalm : X.calm = true) (hgD : Gl X "list") (hmD : X.mg "list" = none) (hgZ : Gl X "zip") (hmZ : X.mg "zip" = none) (hvD : bootBuiltins "list" = some (.type "list")) (ha : PA X [e, e2] ta)
    (hs : starEach [e, e2] X.env = (false, eval e X.env) :: starEach [e2] X.env := by rfl) (hpl : (backTo pos2 (starEach [e2] X.env)).any (·.1) = false := by rfl)
    (hst : starEach [.Call (.Name "zip" p2) [e, e2] [] pos2] X.env = (false, eval (.Call (.Name "zip" p2) [e, e2] [] pos2) X.env) :: starEach [] X.env := by rfl) :
    PE X (.Call (.Name "list" p) [.Call (.Name "zip" p2) [e, e2] [] pos2] [] pos) (tLZ X.K ta) := by
  refine ⟨fun pins s σ H Q I h => wpAny_Call_Name_kw (ld_blt I hgD hmD hvD (PyProof.Rows.callWith_type1 ?_ hst rfl))⟩
  rw [hst]
  apply Calls.spliced_cons
  refine PyProof.Rows.Call_ (ld_blt I hgZ hmZ PyProof.Rows.boot_zip (PyProof.Rows.callWith_type1 (L2.thn (ha.run pos2 pins s σ H _ I h) fun us s1 hh => ?_) hs hpl))
  obtain ⟨vs, H1, I1, rr, c1, c2, xs, ys, ex, q1, q2, hzl, q⟩ := hh
  subst ex
  obtain ⟨u1, u2, rfl, r1, r2⟩ := vals2 rr
  obtain ⟨o1, K1, B1, k1, t1, f1⟩ := Src.begins I1 c1 q1 r1
  obtain ⟨o2, K2, B2, k2, t2, f2⟩ := Src.begins I1 c2 q2 r2
  refine zip_begins2 B1 B2 k1 k2 fun h' hz hTI hTO g1 g2 hsz hk => Calls.spliced_nil ?_
  have I2 : Inv X pins σ H1 { s1 with heap := h' } := I1.kept (t' := s1.toks) hk
  obtain ⟨P1, St1, D1, s1', b1, v1, _⟩ := Src.drawsA I2 c1 q1 (t1 _ _ g1) fun b hb => Nat.ne_of_lt (f1 b hb)
  obtain ⟨P2, St2, D2, s2', b2, v2, _⟩ := Src.drawsA I2 c2 q2 (t2 _ _ g2) fun b hb => Nat.ne_of_lt (Nat.lt_succ_of_lt (f2 b hb))
  have S := zip_sep2 f1 f2
  refine zl_call (s := { s1 with heap := h' }) (A := X.A) (n := (xs.zip ys).length) S D1 D2 (I1.ok.hd hcalm) (by rw [List.length_zip]) hzl hz hTI ⟨_, _, hTO⟩ s1' s2' (fun b hb => v1 0 _ s1' b hb) (fun b hb => v2 0 _ s2' b hb) fun h2 tk acc c as kp hS hl hG hacc => ?_
  have le : s1.heap.objs.size ≤ h'.objs.size := by omega
  have kept : ∀ b o, s1.heap.get? b = some o → h2.get? b = some o := fun b o e => by
    have hb := Heap.lt_size e
    refine kp b o ?_ ?_ ?_ ?_ (hk b o e)
    · exact Nat.ne_of_lt (Nat.lt_of_lt_of_le hb (Nat.le_add_right _ _))
    · exact Nat.ne_of_lt (Nat.lt_of_lt_of_le hb (Nat.le_add_right _ _))
    · exact Nat.ne_of_lt hb
    · exact Nat.ne_of_lt (Nat.lt_of_lt_of_le hb (Nat.le_add_right _ _))
  have ⟨H', j1, j2, j3, j4, j5, j6, J⟩ := pairs_laid (tk := tk) I1 hzl b1 b2 (lo := h'.objs.size + 1) (S := h'.objs.size) (Nat.le_succ_of_le le) (Nat.lt_succ_self _) le kept hS hl hG hacc
  exact ⟨.ref h'.objs.size, H', J, rfl, q H' _ as j1 j2 j3 j4 j5 j6⟩
def wLZ (wa : WA) : W := fun ρ P => wa ρ fun ds ρ1 => match ds with
  | [x, y] => seqsD x fun xs => seqsD y fun ys => (xs.zip ys).length ≤ sizeLine ∧ P (.ol (zipD xs ys)) ρ1
  | _ => False
section
variable {K : PySem.W.Frag} {X : Cx} {Z : Zx} {pos pos2 p p2 : Pos} {a b : Expr} {wa : WA} {ta : TA}
theorem zipl_reps {F : Hp} : ∀ {xs ys : List D} {us vs : List V} {ts : List Addr}, Reps K F xs us → Reps K F ys vs → Paired (fun (t : Addr) (q : V × V) => F t = some (.tup [q.1, q.2])) ts (us.zip vs) → Reps K F (zipD xs ys) (ts.map V.ref)
  | [], ys, us, vs, ts, h1, h2, pr => by cases h1; rw [List.zip_nil_left] at pr; cases pr; exact rfl
  | x :: xs, [], us, vs, ts, h1, h2, pr => by cases h2; rw [List.zip_nil_right] at pr; cases pr; exact rfl
  | x :: xs, y :: ys, us, vs, ts, h1, h2, pr => by
    obtain ⟨u, us', rfl, r1, h1'⟩ := h1
    obtain ⟨v, vs', rfl, r2, h2'⟩ := h2
    rw [List.zip_cons_cons] at pr
    cases pr with
    | cons q qs =>
      rename_i t ts'
      exact ⟨.ref t, _, rfl, ⟨t, [u, v], rfl, SqT.of q, u, _, rfl, r1, v, [], rfl, r2, rfl⟩, zipl_reps h1' h2' qs⟩
theorem run_LZ (ha : RunA K Z ta wa) : RunE K Z (tLZ K ta) (wLZ wa) := fun {H0 F0 F H ρ σ Q P} zo rl h k => by
  refine ha zo rl h fun ds ρ1 F1 H1 vs h1 f1 r1 rps => ?_
  split at h1
  · rename_i x y
    obtain ⟨v1, _, rfl, e1, v2, _, rfl, e2, rfl⟩ := rps
    obtain ⟨c1, us1, xs, rfl, g1, p1, h1⟩ := seqsD_of h1 e1
    obtain ⟨c2, us2, ys, rfl, g2, p2, h1⟩ := seqsD_of h1 e2
    have q1 := p1 F1 (Same.refl _)
    have q2 := p2 F1 (Same.refl _)
    have ln : (us1.zip us2).length = (xs.zip ys).length := by rw [List.length_zip, List.length_zip, q1.len, q2.len]
    refine ⟨c1, c2, us1, us2, rfl, g1 _ r1.fh, g2 _ r1.fh, by rw [ln]; exact h1.1, fun H' p ts hh np nt pt hp pr => ?_⟩
    have same : Same F1 (atts F1 H' ts) := fun b o q => by
      unfold atts
      split
      · rename_i hb
        have := r1.fh b o q
        rw [nt b hb] at this; cases this
      · exact q
    have fh' : Same (atts F1 H' ts) H' := fun b o q => by
      unfold atts at q
      split at q
      · exact q
      · exact hh b o (r1.fh b o q)
    have nw : ∀ a, atts F1 H' ts a ≠ none → F1 a ≠ none ∨ H1 a = none := fun a q => by
      unfold atts at q
      split at q
      · rename_i ha; exact .inr (nt a ha)
      · exact .inl q
    have pr' : Paired (fun (t : Addr) (q : V × V) => atts F1 H' ts t = some (.tup [q.1, q.2])) ts (us1.zip us2) := by
      have : ∀ (as : List Addr) (m : List (V × V)), (∀ t ∈ as, t ∈ ts) → Paired (fun (t : Addr) (q : V × V) => H' t = some (.tup [q.1, q.2])) as m → Paired (fun (t : Addr) (q : V × V) => atts F1 H' ts t = some (.tup [q.1, q.2])) as m := fun as m hs h => by
        induction h with
        | nil => exact .nil
        | cons a as ih => exact .cons (by unfold atts; rw [if_pos (hs _ (by simp))]; exact a) (ih fun t ht => hs t (by simp [ht]))
      exact this ts _ (fun t h => h) pr
    refine (r1.kont f1 k) (.ol (zipD xs ys)) (.ref p) (atts F1 H' ts) H' h1.2 hh same fh' nw ⟨p, ts.map V.ref, rfl, hp, zipl_reps (p1 _ same) (p2 _ same) pr', np, ?_⟩
    unfold atts
    rw [if_neg pt]
    exact r1.fh.free np
  · exact h1.elim
theorem de_listZip (hc : X.calm = true) (hmD : X.mg "list" = none) (hmZ : X.mg "zip" = none) (ha : DA K X Z [a, b] ta wa) (hgD : Gl X "list" := by rfl) (hgZ : Gl X "zip" := by rfl) (hs : starEach [a, b] X.env = (false, eval a X.env) :: starEach [b] X.env := by rfl) (hpl : (backTo pos2 (starEach [b] X.env)).any (·.1) = false := by rfl)
    (hst : starEach [.Call (.Name "zip" p2) [a, b] [] pos2] X.env = (false, eval (.Call (.Name "zip" p2) [a, b] [] pos2) X.env) :: starEach [] X.env := by rfl) (hK : X.K = K := by rfl) :
    DE K X Z (.Call (.Name "list" p) [.Call (.Name "zip" p2) [a, b] [] pos2] [] pos) (tLZ K ta) (wLZ wa) := by
  subst hK
  exact ⟨pe_listZip hc hgD hmD hgZ hmZ (by decide +kernel) ha.pe hs hpl hst, run_LZ ha.run⟩
end
end DL
namespace DL
open PySem L2
def dataO : Option S → Option S
  | some (.d x) => some (.d x)
  | _ => none
theorem dataR_cons {o : Option S} {r : R} : dataR (o :: r) = dataO o :: dataR r := by
  rcases o with _ | (_ | _ | _) <;> rfl
theorem dataR_nil : dataR [] = [] := rfl
theorem dataO_d {x : D} : dataO (some (.d x)) = some (.d x) := rfl
theorem dataO_none : dataO none = none := rfl
theorem dataO_ol {x : List D} : dataO (some (.ol x)) = none := rfl
theorem dataO_od {x : List (Key × D)} : dataO (some (.od x)) = none := rfl
def seeO : Option S → Option S
  | some s => some (.d s.fz)
  | _ => none
theorem seeR_cons {o : Option S} {r : R} : seeR (o :: r) = seeO o :: seeR r := by cases o <;> rfl
theorem seeR_nil : seeR [] = [] := rfl
theorem seeO_d {x : D} : seeO (some (.d x)) = some (.d x) := rfl
theorem seeO_none : seeO none = none := rfl
theorem seeO_ol {x : List D} : seeO (some (.ol x)) = some (.d (.lst x)) := rfl
theorem seeO_od {x : List (Key × D)} : seeO (some (.od x)) = some (.d (.dic (x.map (·.1)) (x.map (·.2)))) := rfl
theorem atI_0 {α : Type} {x : α} {l : List α} : atI (x :: l) 0 = some x := by
  have := atI_nat (xs := x :: l) (j := 0) (v := x) rfl
  exact this
theorem atI_1 {α : Type} {x y : α} {l : List α} : atI (x :: y :: l) 1 = some y := by
  have := atI_nat (xs := x :: y :: l) (j := 1) (v := y) rfl
  exact this
theorem atI_2 {α : Type} {x y z : α} {l : List α} : atI (x :: y :: z :: l) 2 = some z := by
  have := atI_nat (xs := x :: y :: z :: l) (j := 2) (v := z) rfl
  exact this
theorem asA_some {α : Type} {b : α} {P : α → Prop} : asA (some b) P = P b := rfl
theorem asA_none {α : Type} {P : α → Prop} : asA none P = False := rfl
theorem eqX_int {i j : Int} {P : Bool → Prop} : eqX (.int i) (.int j) P = P (decide (i = j)) := rfl
theorem eqX_str {i j : Str} {P : Bool → Prop} : eqX (.str i) (.str j) P = P (decide (i = j)) := rfl
theorem eqX_bl {i j : Bool} {P : Bool → Prop} : eqX (.bl i) (.bl j) P = P (decide (i = j)) := rfl
def MonoG (wg : WG) : Prop := ∀ d ρ (P Q : R → Prop), (∀ ρ, P ρ → Q ρ) → wg d ρ P → wg d ρ Q
def MonoGs (wg : WGs) : Prop := ∀ d ρ (P Q : R → Prop), (∀ ρ, P ρ → Q ρ) → wg d ρ P → wg d ρ Q
theorem mono_name {i : Nat} : MonoG (wgName i) := fun _ _ _ _ h z => h _ z
theorem monos_nil : MonoGs wgNil := fun _ _ _ _ h z => ⟨z.1, h _ z.2⟩
theorem monos_cons {a : WG} {b : WGs} (ha : MonoG a) (hb : MonoGs b) : MonoGs (wgCons a b) := fun d ρ P Q h z => by
  cases d with
  | nil => exact z.elim
  | cons x xs => exact ha _ _ _ _ (fun ρ1 z => hb _ _ _ _ h z) z
theorem mono_tup {n : Nat} {b : WGs} (hb : MonoGs b) : MonoG (wgTup n b) := fun d ρ P Q h z => by
  unfold wgTup at z ⊢
  split at z
  · exact ⟨z.1, hb _ _ _ _ h z.2⟩
  · exact z.elim
theorem forD_map {α : Type} {f : α → D} {wg : WG} {wb : WS} {DD : DEnds} (I : List α → List α → R → Prop) (mg : MonoG wg)
    (items : List α) (step : ∀ xs x ys ρ, items = xs ++ x :: ys → I xs (x :: ys) ρ → wg (f x) ρ fun ρ1 => wb ⟨I (xs ++ [x]) ys, DD.rt, DD.nx, I (xs ++ [x]) ys⟩ ρ1) (hend : ∀ ρ, I items [] ρ → DD.nx ρ) (ρ : R) (h0 : I [] items ρ) : forD wg wb DD (items.map f) ρ := by
  have aux : ∀ (ys xs : List α) (ρ : R), items = xs ++ ys → I xs ys ρ → forD wg wb DD (ys.map f) ρ := by
    intro ys
    induction ys with
    | nil => intro xs ρ e h; rw [List.append_nil] at e; subst e; exact hend ρ h
    | cons y ys ih =>
      intro xs ρ e h
      exact mg _ _ _ _ (fun ρ1 z => ⟨I (xs ++ [y]) ys, fun ρ' h' => ih (xs ++ [y]) ρ' (by rw [e]; simp) h', z⟩) (step xs y ys ρ e h)
  exact aux items [] ρ rfl h0
theorem compD_map {α : Type} {f : α → D} {wg : WG} {wt : WT} {we : W} {ρb : R} (mg : MonoG wg) (g : α → Option D) :
    ∀ (items : List α) (P : List D → Prop), (∀ x ∈ items, ∀ Q : Option D → Prop, Q (g x) → wg (f x) ρb fun ρ1 => wt ρ1 fun b ρ2 => if b = true then we ρ2 fun s _ => Q (some s.fz) else Q none) →
      P (items.filterMap g) → compD wg wt we ρb (items.map f) P
  | [], P, h, p => p
  | x :: xs, P, h, p => by
    have ih := compD_map (f := f) (wt := wt) (we := we) (ρb := ρb) mg g xs
    rw [List.map_cons]
    show wg (f x) ρb fun ρ1 => wt ρ1 fun b ρ2 => if b = true then we ρ2 fun s _ => compD wg wt we ρb (xs.map f) fun r => P (s.fz :: r) else compD wg wt we ρb (xs.map f) P
    refine h x List.mem_cons_self (fun o => match o with
      | some d => compD wg wt we ρb (xs.map f) fun r => P (d :: r)
      | none => compD wg wt we ρb (xs.map f) P) ?_
    cases e : g x with
    | none =>
      rw [List.filterMap_cons, e] at p
      exact ih P (fun y hy => h y (List.mem_cons_of_mem _ hy)) p
    | some d =>
      rw [List.filterMap_cons, e] at p
      exact ih (fun r => P (d :: r)) (fun y hy => h y (List.mem_cons_of_mem _ hy)) p
def fD (a : List Str) : D := .tup (a.map .str)
def asF (d : D) (P : List Str → Prop) : Prop := match d with
  | .tup xs => asA (txts xs) P
  | _ => False
theorem asF_fD {a : List Str} {P : List Str → Prop} : asF (fD a) P = P a := by
  show asA (txts (a.map D.str)) P = _
  rw [txts_map]; rfl
theorem len0 : sizeLine = 16777216 := rfl
theorem txts_eq : ∀ {ds : List D} {bs : List Str}, txts ds = some bs → ds = bs.map D.str
  | [], bs, e => by cases e; rfl
  | d :: ds, bs, e => by
    cases d <;> first | (cases (show (none : Option (List Str)) = some bs from e)) | skip
    rename_i b
    rw [txts] at e
    cases q : txts ds with
    | none => rw [q] at e; cases e
    | some cs => rw [q] at e; cases e; rw [txts_eq q]; rfl
def sp_gathered : DSp := fun ds P _ => match ds with
  | [.lst xs] => asA (txts xs) fun a => a.length ≤ 1048576 ∧ P (.d (fD (gath a)))
  | _ => False
def kvT (l : List Str) : List (Key × D) := l.map fun p => (.inr p, .bl true)
theorem vget_kvT {l : List Str} {p : Str} : vget (kvT l) (.inr p) = if p ∈ l then some (.bl true) else none := by
  induction l with
  | nil => rfl
  | cons q l ih =>
    unfold vget kvT at ih ⊢
    rw [List.map_cons, List.find?_cons]
    by_cases h : q = p
    · subst h; simp
    · have e : decide ((Sum.inr q : Key) = .inr p) = false := decide_eq_false fun z => h (Sum.inr.inj z)
      simp only [e]
      rw [ih]
      have : p ∈ q :: l ↔ p ∈ l := by simp [Ne.symm h]
      simp only [this]
theorem vdrop_kvT {l : List Str} {p : Str} : vdrop (kvT l) (.inr p) = kvT (l.filter fun y => decide (y ≠ p)) := by
  unfold vdrop kvT
  rw [List.filter_map]
  congr 1
  apply List.filter_congr
  intro y _
  simp [Function.comp]
theorem vput_kvT {l : List Str} {p : Str} (h : p ∉ l) : vput (kvT l) (.inr p) (.bl true) = kvT (l ++ [p]) := by
  unfold vput
  have : ((kvT l).any fun kv => decide (kv.1 = (.inr p : Key))) = false := by
    rw [List.any_eq_false]
    intro kv hkv
    obtain ⟨q, hq, rfl⟩ := List.mem_map.mp hkv
    simp only [decide_eq_true_eq]
    exact fun z => h (Sum.inr.inj z ▸ hq)
  rw [this]
  simp [kvT]
theorem txtKeys_kvT {l : List Str} : txtKeys ((kvT l).map (·.1)) = some l := by
  rw [kvT, List.map_map]
  exact txtKeys_map l
abbrev N_gathered : List Str := ["products", "odd", "product"]
def w_gathered_t2 : WS := (wRet (wCB oTuple (wCons (wSortK (wVar 1)) wNil)))
def w_gathered_t1 : WS := wSeq (wFor (wiX (wVar 0)) (wgName 2)
      (wIfS (wLendT (wB (wOp (oInX false) (wVar 2) (wVar 1)))) (wDrop (wDPop 1 (wVar 2))) (wDPut 1 (wVar 2) (wC (.bl true)))))
    w_gathered_t2
def w_gathered : WS := wSeq (wSet 1 wDict0)
    w_gathered_t1
theorem len_gathered {ds Q px} (h : sp_gathered ds Q px) : ds.length = 1 := by unfold sp_gathered at h; split at h <;> first | rfl | exact h.elim
theorem rd_gathered {ds Q px} (h : sp_gathered ds Q px) : w_gathered ⟨fun _ => Q (.d .non), Q, fun _ => False, fun _ => False⟩ (startR N_gathered ds) := by
  unfold sp_gathered at h
  split at h
  · rename_i xs
    obtain ⟨a, e, hl, hq⟩ := asA_of h
    clear h
    have ex := txts_eq e
    subst ex
    unfold w_gathered
    simp only [N_gathered, w_gathered_t1, w_gathered_t2, wSeq, wSet, wAsg, wC, wIfS, wB, wOp, oI, oI0, asI, asS, asL, asLT, asT, asB, asA_some, asA_none, asO, asOL, asOD, asKey, asDic, asSq, oLen, oMod, oAdd, oSub, oMul, oDiv, oMax, oMin, oPlus, oEqX, oNeX, eqX_int, eqX_str, eqX_bl, oCmp, oLtX, oLeX, oGtX, oGeX, oIxX, oInX, wCB, wCons, wNil, wVar, wMove, nth, put, startR, wNext, wRet, wRetN, wDrop, wFor, wiR1, wiR2, wiX, itemsOf, wgName, wgTup, wgCons, wgNil, wLend, wLendT, seeR_cons, seeR_nil, seeO_d, seeO_none, seeO_ol, seeO_od, wJoin, wM, oAppend, oPop, oPopAt, wDPut, wDPop, wSortK, wDict0, wTup, wLst, wCall, wAnd, wOr, wNot, wAndV, wOrV, wNotV, wIf, wYes, wLc, wiEnumX, oListX, oTuple, oSort, oSortSet, oAll, oAny, S.fz, S.own, D.flat, txts_map, bools_map, txtKeys_map, List.length_map, List.map_cons, List.map_nil, List.length_cons, List.length_nil, List.cons_append, List.nil_append, List.replicate, decide_eq_true_eq, Bool.not_eq_true', Bool.not_true, Bool.not_false, if_true, if_false, Nat.zero_add, Nat.reduceAdd, Nat.reduceSub, ge_iff_le, true_and, and_true, zip_unzip, Bool.false_xor, Bool.true_xor, Bool.false_eq_true, Bool.true_eq_false, reduceIte, wipeR, dataR_cons, dataR_nil, dataO_d, dataO_none, dataO_ol, dataO_od, oDict, oIsi, tyD, isiB, wSl, wPart, wNoP, oSl, wDisp1, wDGet2, oRemove, atI_0, atI_1, atI_2, wiRev, revItems, oDictP, wForK, wiKeys, kD, oSortX, oPow, oBitAnd, oShl, oNeg, wUn, oInt, oStr, oDivmod, oIs, isD, wChain, wFz, wFzE, frzR, wLSet, wiZip, seqsD, wiVals, wiItems, wOIx, wNo, Option.isSome_some, oMulX, wM1, oSplit, oPart, oStrip1, oRep, oSum, intsD, wRaise, wLI, wLK
, wiR3, wLR, wDisp, wPairs, oReverse, oClear, oInsert, wRevL, wDZ, seqLT, oSortIT, wOFld, wSFld, asOI, setOI, putG, wPar, wiItemsC, wiValsC, wIndexL, wDZO, wLO, wiZip3, wTry1, wgDrop, wIsE, wLRev, wLZ]
    refine forD_map (I := fun done _ ρ => ∃ o, ρ = [some (.d (.lst (a.map .str))), some (.od (kvT (done.foldl tog []))), o]) mono_name a (fun done x ys ρ he hI => ?_) (fun ρ hI => ?_) _ ⟨none, rfl⟩
    · obtain ⟨o, rfl⟩ := hI
      have hl2 : (kvT (done.foldl tog [])).length ≤ done.length := by
        unfold kvT
        rw [List.length_map]; exact odds_len done
      have hfold : (done ++ [x]).foldl tog [] = tog (done.foldl tog []) x := by rw [List.foldl_append]; rfl
      simp only [w_gathered_t1, w_gathered_t2, wSeq, wSet, wAsg, wC, wIfS, wB, wOp, oI, oI0, asI, asS, asL, asLT, asT, asB, asA_some, asA_none, asO, asOL, asOD, asKey, asDic, asSq, oLen, oMod, oAdd, oSub, oMul, oDiv, oMax, oMin, oPlus, oEqX, oNeX, eqX_int, eqX_str, eqX_bl, oCmp, oLtX, oLeX, oGtX, oGeX, oIxX, oInX, wCB, wCons, wNil, wVar, wMove, nth, put, startR, wNext, wRet, wRetN, wDrop, wFor, wiR1, wiR2, wiX, itemsOf, wgName, wgTup, wgCons, wgNil, wLend, wLendT, seeR_cons, seeR_nil, seeO_d, seeO_none, seeO_ol, seeO_od, wJoin, wM, oAppend, oPop, oPopAt, wDPut, wDPop, wSortK, wDict0, wTup, wLst, wCall, wAnd, wOr, wNot, wAndV, wOrV, wNotV, wIf, wYes, wLc, wiEnumX, oListX, oTuple, oSort, oSortSet, oAll, oAny, S.fz, S.own, D.flat, txts_map, bools_map, txtKeys_map, List.length_map, List.map_cons, List.map_nil, List.length_cons, List.length_nil, List.cons_append, List.nil_append, List.replicate, decide_eq_true_eq, Bool.not_eq_true', Bool.not_true, Bool.not_false, if_true, if_false, Nat.zero_add, Nat.reduceAdd, Nat.reduceSub, ge_iff_le, true_and, and_true, zip_unzip, Bool.false_xor, Bool.true_xor, Bool.false_eq_true, Bool.true_eq_false, reduceIte, wipeR, dataR_cons, dataR_nil, dataO_d, dataO_none, dataO_ol, dataO_od, oDict, oIsi, tyD, isiB, wSl, wPart, wNoP, oSl, wDisp1, wDGet2, oRemove, atI_0, atI_1, atI_2, wiRev, revItems, oDictP, wForK, wiKeys, kD, oSortX, oPow, oBitAnd, oShl, oNeg, wUn, oInt, oStr, oDivmod, oIs, isD, wChain, wFz, wFzE, frzR, wLSet, wiZip, seqsD, wiVals, wiItems, wOIx, wNo, Option.isSome_some, oMulX, wM1, oSplit, oPart, oStrip1, oRep, oSum, intsD, wRaise, wLI, wLK
, wiR3, wLR, wDisp, wPairs, oReverse, oClear, oInsert, wRevL, wDZ, seqLT, oSortIT, wOFld, wSFld, asOI, setOI, putG, wPar, wiItemsC, wiValsC, wIndexL, wDZO, wLO, wiZip3, wTry1, wgDrop, wIsE, wLRev, wLZ, vget_kvT, vdrop_kvT, hfold]
      by_cases hx : x ∈ done.foldl tog []
      · simp only [if_pos hx, Option.isSome_some, if_true, tog]
        exact ⟨_, rfl⟩
      · simp only [if_neg hx, Option.isSome_none, Bool.false_eq_true, if_false, vput_kvT hx, tog]
        refine ⟨?_, _, rfl⟩
        have := congrArg List.length he
        rw [List.length_append, List.length_cons] at this
        rw [len0]; omega
    · obtain ⟨o, rfl⟩ := hI
      simp only [w_gathered_t1, w_gathered_t2, wSeq, wSet, wAsg, wC, wIfS, wB, wOp, oI, oI0, asI, asS, asL, asLT, asT, asB, asA_some, asA_none, asO, asOL, asOD, asKey, asDic, asSq, oLen, oMod, oAdd, oSub, oMul, oDiv, oMax, oMin, oPlus, oEqX, oNeX, eqX_int, eqX_str, eqX_bl, oCmp, oLtX, oLeX, oGtX, oGeX, oIxX, oInX, wCB, wCons, wNil, wVar, wMove, nth, put, startR, wNext, wRet, wRetN, wDrop, wFor, wiR1, wiR2, wiX, itemsOf, wgName, wgTup, wgCons, wgNil, wLend, wLendT, seeR_cons, seeR_nil, seeO_d, seeO_none, seeO_ol, seeO_od, wJoin, wM, oAppend, oPop, oPopAt, wDPut, wDPop, wSortK, wDict0, wTup, wLst, wCall, wAnd, wOr, wNot, wAndV, wOrV, wNotV, wIf, wYes, wLc, wiEnumX, oListX, oTuple, oSort, oSortSet, oAll, oAny, S.fz, S.own, D.flat, txts_map, bools_map, txtKeys_map, List.length_map, List.map_cons, List.map_nil, List.length_cons, List.length_nil, List.cons_append, List.nil_append, List.replicate, decide_eq_true_eq, Bool.not_eq_true', Bool.not_true, Bool.not_false, if_true, if_false, Nat.zero_add, Nat.reduceAdd, Nat.reduceSub, ge_iff_le, true_and, and_true, zip_unzip, Bool.false_xor, Bool.true_xor, Bool.false_eq_true, Bool.true_eq_false, reduceIte, wipeR, dataR_cons, dataR_nil, dataO_d, dataO_none, dataO_ol, dataO_od, oDict, oIsi, tyD, isiB, wSl, wPart, wNoP, oSl, wDisp1, wDGet2, oRemove, atI_0, atI_1, atI_2, wiRev, revItems, oDictP, wForK, wiKeys, kD, oSortX, oPow, oBitAnd, oShl, oNeg, wUn, oInt, oStr, oDivmod, oIs, isD, wChain, wFz, wFzE, frzR, wLSet, wiZip, seqsD, wiVals, wiItems, wOIx, wNo, Option.isSome_some, oMulX, wM1, oSplit, oPart, oStrip1, oRep, oSum, intsD, wRaise, wLI, wLK
, wiR3, wLR, wDisp, wPairs, oReverse, oClear, oInsert, wRevL, wDZ, seqLT, oSortIT, wOFld, wSFld, asOI, setOI, putG, wPar, wiItemsC, wiValsC, wIndexL, wDZO, wLO, wiZip3, wTry1, wgDrop, wIsE, wLRev, wLZ, txtKeys_kvT]
      exact hq
  · exact h.elim
def sp_added : DSp := fun ds P _ => match ds with
  | [x, y] => asF x fun a => asF y fun b => (a.length ≤ 262144 ∧ b.length ≤ 262144) ∧ P (.d (fD (addedF a b)))
  | _ => False
theorem asF_of {d : D} {P : List Str → Prop} (h : asF d P) : ∃ a, d = fD a ∧ P a := by
  unfold asF at h
  split at h
  · obtain ⟨a, e, h⟩ := asA_of h
    exact ⟨a, by rw [txts_eq e]; rfl, h⟩
  · exact h.elim
abbrev N_added : List Str := ["one", "other"]
def w_added : WS := (wRet (wCall sp_gathered (fun _ _ => False) (wCons (wOp oPlus (wCB oListX (wCons (wVar 0) wNil)) (wCB oListX (wCons (wVar 1) wNil))) wNil)))
theorem len_added {ds Q px} (h : sp_added ds Q px) : ds.length = 2 := by unfold sp_added at h; split at h <;> first | rfl | exact h.elim
theorem rd_added {ds Q px} (h : sp_added ds Q px) : w_added ⟨fun _ => Q (.d .non), Q, fun _ => False, fun _ => False⟩ (startR N_added ds) := by
  unfold sp_added at h
  split at h
  · obtain ⟨a, rfl, g⟩ := asF_of h
    obtain ⟨b, rfl, ⟨h1, h2⟩, hq⟩ := asF_of g
    clear h g
    unfold w_added
    simp only [N_added, fD, wSeq, wSet, wAsg, wC, wIfS, wB, wOp, oI, oI0, asI, asS, asL, asLT, asT, asB, asA_some, asA_none, asO, asOL, asOD, asKey, asDic, asSq, oLen, oMod, oAdd, oSub, oMul, oDiv, oMax, oMin, oPlus, oEqX, oNeX, eqX_int, eqX_str, eqX_bl, oCmp, oLtX, oLeX, oGtX, oGeX, oIxX, oInX, wCB, wCons, wNil, wVar, wMove, nth, put, startR, wNext, wRet, wRetN, wDrop, wFor, wiR1, wiR2, wiX, itemsOf, wgName, wgTup, wgCons, wgNil, wLend, wLendT, seeR_cons, seeR_nil, seeO_d, seeO_none, seeO_ol, seeO_od, wJoin, wM, oAppend, oPop, oPopAt, wDPut, wDPop, wSortK, wDict0, wTup, wLst, wCall, wAnd, wOr, wNot, wAndV, wOrV, wNotV, wIf, wYes, wLc, wiEnumX, oListX, oTuple, oSort, oSortSet, oAll, oAny, S.fz, S.own, D.flat, txts_map, bools_map, txtKeys_map, List.length_map, List.map_cons, List.map_nil, List.length_cons, List.length_nil, List.cons_append, List.nil_append, List.replicate, decide_eq_true_eq, Bool.not_eq_true', Bool.not_true, Bool.not_false, if_true, if_false, Nat.zero_add, Nat.reduceAdd, Nat.reduceSub, ge_iff_le, true_and, and_true, zip_unzip, Bool.false_xor, Bool.true_xor, Bool.false_eq_true, Bool.true_eq_false, reduceIte, wipeR, dataR_cons, dataR_nil, dataO_d, dataO_none, dataO_ol, dataO_od, oDict, oIsi, tyD, isiB, wSl, wPart, wNoP, oSl, wDisp1, wDGet2, oRemove, atI_0, atI_1, atI_2, wiRev, revItems, oDictP, wForK, wiKeys, kD, oSortX, oPow, oBitAnd, oShl, oNeg, wUn, oInt, oStr, oDivmod, oIs, isD, wChain, wFz, wFzE, frzR, wLSet, wiZip, seqsD, wiVals, wiItems, wOIx, wNo, Option.isSome_some, oMulX, wM1, oSplit, oPart, oStrip1, oRep, oSum, intsD, wRaise, wLI, wLK
, wiR3, wLR, wDisp, wPairs, oReverse, oClear, oInsert, wRevL, wDZ, seqLT, oSortIT, wOFld, wSFld, asOI, setOI, putG, wPar, wiItemsC, wiValsC, wIndexL, wDZO, wLO, wiZip3, wTry1, wgDrop, wIsE, wLRev, wLZ, sp_gathered]
    rw [← List.map_append]
    simp only [txts_map, asA_some, List.length_append]
    exact ⟨by rw [len0]; omega, by omega, hq⟩
  · exact h.elim
def sp_both_letters : DSp := fun ds P _ => match ds with
  | [x, y] => asS x fun p => asS y fun q => ((sg p).length ≤ 1000 ∧ (sg q).length ≤ 1000) ∧ P (.d (.str (bothF p q)))
  | _ => False
theorem srtset_len (xs : List Str) : (srtset xs).length ≤ xs.length := by
  unfold srtset
  rw [(srt_perm _).length_eq]
  exact (nodup_met xs).length_le_of_subset fun x hx => mem_met.mp hx
theorem ones_sum : ∀ cs : List Nat, ((cs.map one).map (·.length)).sum = cs.length
  | [] => rfl
  | c :: cs => by
    rw [List.map_cons, List.map_cons, List.sum_cons, ones_sum cs, List.length_cons]
    show 1 + _ = _
    omega
theorem lets_fit {z : Str} (h : (sg z).length ≤ 100000) : ((srtset (signs z)).map (·.length)).sum + (srtset (signs z)).length * (Str.length "") ≤ 16777216 := by
  have h1 := srtset_len (signs z)
  obtain ⟨cs, e, _, _⟩ := srtset_signs z
  rw [e] at h1 ⊢
  rw [ones_sum]
  rw [List.length_map] at h1
  have h2 : (signs z).length = (sg z).length := by simp [signs, sg]
  have h3 : Str.length "" = 0 := by decide +kernel
  rw [h3, Nat.mul_zero]
  omega
abbrev N_both_letters : List Str := ["one", "other"]
def w_both_letters : WS := (wRet (wJoin (wC (.str "")) (wCB oSortSet (wCons (wOp oPlus (wVar 0) (wVar 1)) wNil))))
theorem len_both_letters {ds Q px} (h : sp_both_letters ds Q px) : ds.length = 2 := by unfold sp_both_letters at h; split at h <;> first | rfl | exact h.elim
theorem rd_both_letters {ds Q px} (h : sp_both_letters ds Q px) : w_both_letters ⟨fun _ => Q (.d .non), Q, fun _ => False, fun _ => False⟩ (startR N_both_letters ds) := by
  unfold sp_both_letters at h
  split at h
  · rename_i x y
    cases x <;> first | exact h.elim | skip
    cases y <;> first | exact h.elim | skip
    rename_i p q
    obtain ⟨⟨h1, h2⟩, hq⟩ := h
    unfold w_both_letters
    simp only [N_both_letters, wSeq, wSet, wAsg, wC, wIfS, wB, wOp, oI, oI0, asI, asS, asL, asLT, asT, asB, asA_some, asA_none, asO, asOL, asOD, asKey, asDic, asSq, oLen, oMod, oAdd, oSub, oMul, oDiv, oMax, oMin, oPlus, oEqX, oNeX, eqX_int, eqX_str, eqX_bl, oCmp, oLtX, oLeX, oGtX, oGeX, oIxX, oInX, wCB, wCons, wNil, wVar, wMove, nth, put, startR, wNext, wRet, wRetN, wDrop, wFor, wiR1, wiR2, wiX, itemsOf, wgName, wgTup, wgCons, wgNil, wLend, wLendT, seeR_cons, seeR_nil, seeO_d, seeO_none, seeO_ol, seeO_od, wJoin, wM, oAppend, oPop, oPopAt, wDPut, wDPop, wSortK, wDict0, wTup, wLst, wCall, wAnd, wOr, wNot, wAndV, wOrV, wNotV, wIf, wYes, wLc, wiEnumX, oListX, oTuple, oSort, oSortSet, oAll, oAny, S.fz, S.own, D.flat, txts_map, bools_map, txtKeys_map, List.length_map, List.map_cons, List.map_nil, List.length_cons, List.length_nil, List.cons_append, List.nil_append, List.replicate, decide_eq_true_eq, Bool.not_eq_true', Bool.not_true, Bool.not_false, if_true, if_false, Nat.zero_add, Nat.reduceAdd, Nat.reduceSub, ge_iff_le, true_and, and_true, zip_unzip, Bool.false_xor, Bool.true_xor, Bool.false_eq_true, Bool.true_eq_false, reduceIte, wipeR, dataR_cons, dataR_nil, dataO_d, dataO_none, dataO_ol, dataO_od, oDict, oIsi, tyD, isiB, wSl, wPart, wNoP, oSl, wDisp1, wDGet2, oRemove, atI_0, atI_1, atI_2, wiRev, revItems, oDictP, wForK, wiKeys, kD, oSortX, oPow, oBitAnd, oShl, oNeg, wUn, oInt, oStr, oDivmod, oIs, isD, wChain, wFz, wFzE, frzR, wLSet, wiZip, seqsD, wiVals, wiItems, wOIx, wNo, Option.isSome_some, oMulX, wM1, oSplit, oPart, oStrip1, oRep, oSum, intsD, wRaise, wLI, wLK
, wiR3, wLR, wDisp, wPairs, oReverse, oClear, oInsert, wRevL, wDZ, seqLT, oSortIT, wOFld, wSFld, asOI, setOI, putG, wPar, wiItemsC, wiValsC, wIndexL, wDZO, wLO, wiZip3, wTry1, wgDrop, wIsE, wLRev, wLZ]
    have e : (sg (p ++ q)).length ≤ 2000 := by rw [sg_append, List.length_append]; omega
    refine ⟨by rw [len0, sg_len, sg_len]; omega, by rw [sg_len]; show _ < 4096; omega, lets_fit (by omega), hq⟩
  · exact h.elim
def sp_multiplied : DSp := fun ds P _ => match ds with
  | [x, y] => asF x fun a => asF y fun b => (Frm a ∧ Frm b) ∧ P (.d (fD (mulF a b)))
  | _ => False
abbrev N_multiplied : List Str := ["one", "other", "products", "product", "factor"]
def w_multiplied_t2 : WS := (wRet (wCall sp_gathered (fun _ _ => False) (wCons (wVar 2) wNil)))
def w_multiplied_t1 : WS := wSeq (wFor (wiX (wVar 0)) (wgName 3)
      (wFor (wiX (wVar 1)) (wgName 4)
      (wDrop (wM 2 oAppend (wCons (wCall sp_both_letters (fun _ _ => False) (wCons (wVar 3) (wCons (wVar 4) wNil))) wNil)))))
    w_multiplied_t2
def w_multiplied : WS := wSeq (wSet 2 (wLst wNil))
    w_multiplied_t1
theorem len_multiplied {ds Q px} (h : sp_multiplied ds Q px) : ds.length = 2 := by unfold sp_multiplied at h; split at h <;> first | rfl | exact h.elim
theorem pairsF_snoc (a b : List Str) (p : Str) : pairsF (a ++ [p]) b = pairsF a b ++ b.map (bothF p) := by simp [pairsF]
theorem rd_multiplied {ds Q px} (h : sp_multiplied ds Q px) : w_multiplied ⟨fun _ => Q (.d .non), Q, fun _ => False, fun _ => False⟩ (startR N_multiplied ds) := by
  unfold sp_multiplied at h
  split at h
  · obtain ⟨a, rfl, g⟩ := asF_of h
    obtain ⟨b, rfl, ⟨ha, hb⟩, hq⟩ := asF_of g
    clear h g
    unfold w_multiplied
    simp only [N_multiplied, fD, w_multiplied_t1, w_multiplied_t2, wSeq, wSet, wAsg, wC, wIfS, wB, wOp, oI, oI0, asI, asS, asL, asLT, asT, asB, asA_some, asA_none, asO, asOL, asOD, asKey, asDic, asSq, oLen, oMod, oAdd, oSub, oMul, oDiv, oMax, oMin, oPlus, oEqX, oNeX, eqX_int, eqX_str, eqX_bl, oCmp, oLtX, oLeX, oGtX, oGeX, oIxX, oInX, wCB, wCons, wNil, wVar, wMove, nth, put, startR, wNext, wRet, wRetN, wDrop, wFor, wiR1, wiR2, wiX, itemsOf, wgName, wgTup, wgCons, wgNil, wLend, wLendT, seeR_cons, seeR_nil, seeO_d, seeO_none, seeO_ol, seeO_od, wJoin, wM, oAppend, oPop, oPopAt, wDPut, wDPop, wSortK, wDict0, wTup, wLst, wCall, wAnd, wOr, wNot, wAndV, wOrV, wNotV, wIf, wYes, wLc, wiEnumX, oListX, oTuple, oSort, oSortSet, oAll, oAny, S.fz, S.own, D.flat, txts_map, bools_map, txtKeys_map, List.length_map, List.map_cons, List.map_nil, List.length_cons, List.length_nil, List.cons_append, List.nil_append, List.replicate, decide_eq_true_eq, Bool.not_eq_true', Bool.not_true, Bool.not_false, if_true, if_false, Nat.zero_add, Nat.reduceAdd, Nat.reduceSub, ge_iff_le, true_and, and_true, zip_unzip, Bool.false_xor, Bool.true_xor, Bool.false_eq_true, Bool.true_eq_false, reduceIte, wipeR, dataR_cons, dataR_nil, dataO_d, dataO_none, dataO_ol, dataO_od, oDict, oIsi, tyD, isiB, wSl, wPart, wNoP, oSl, wDisp1, wDGet2, oRemove, atI_0, atI_1, atI_2, wiRev, revItems, oDictP, wForK, wiKeys, kD, oSortX, oPow, oBitAnd, oShl, oNeg, wUn, oInt, oStr, oDivmod, oIs, isD, wChain, wFz, wFzE, frzR, wLSet, wiZip, seqsD, wiVals, wiItems, wOIx, wNo, Option.isSome_some, oMulX, wM1, oSplit, oPart, oStrip1, oRep, oSum, intsD, wRaise, wLI, wLK
, wiR3, wLR, wDisp, wPairs, oReverse, oClear, oInsert, wRevL, wDZ, seqLT, oSortIT, wOFld, wSFld, asOI, setOI, putG, wPar, wiItemsC, wiValsC, wIndexL, wDZO, wLO, wiZip3, wTry1, wgDrop, wIsE, wLRev, wLZ]
    refine ⟨by decide, ?_⟩
    have la := ha.len
    have lb := hb.len
    refine forD_map (I := fun done _ ρ => ∃ o1 o2, ρ = [some (.d (.tup (a.map .str))), some (.d (.tup (b.map .str))), some (.ol ((pairsF done b).map .str)), o1, o2]) mono_name a (fun done p ys ρ he hI => ?_) (fun ρ hI => ?_) _ ⟨none, none, rfl⟩
    · obtain ⟨o1, o2, rfl⟩ := hI
      have hp : Prd p := ha.prd p (by rw [he]; simp)
      have l1 := congrArg List.length he
      rw [List.length_append, List.length_cons] at l1
      simp only [fD, w_multiplied_t1, w_multiplied_t2, wSeq, wSet, wAsg, wC, wIfS, wB, wOp, oI, oI0, asI, asS, asL, asLT, asT, asB, asA_some, asA_none, asO, asOL, asOD, asKey, asDic, asSq, oLen, oMod, oAdd, oSub, oMul, oDiv, oMax, oMin, oPlus, oEqX, oNeX, eqX_int, eqX_str, eqX_bl, oCmp, oLtX, oLeX, oGtX, oGeX, oIxX, oInX, wCB, wCons, wNil, wVar, wMove, nth, put, startR, wNext, wRet, wRetN, wDrop, wFor, wiR1, wiR2, wiX, itemsOf, wgName, wgTup, wgCons, wgNil, wLend, wLendT, seeR_cons, seeR_nil, seeO_d, seeO_none, seeO_ol, seeO_od, wJoin, wM, oAppend, oPop, oPopAt, wDPut, wDPop, wSortK, wDict0, wTup, wLst, wCall, wAnd, wOr, wNot, wAndV, wOrV, wNotV, wIf, wYes, wLc, wiEnumX, oListX, oTuple, oSort, oSortSet, oAll, oAny, S.fz, S.own, D.flat, txts_map, bools_map, txtKeys_map, List.length_map, List.map_cons, List.map_nil, List.length_cons, List.length_nil, List.cons_append, List.nil_append, List.replicate, decide_eq_true_eq, Bool.not_eq_true', Bool.not_true, Bool.not_false, if_true, if_false, Nat.zero_add, Nat.reduceAdd, Nat.reduceSub, ge_iff_le, true_and, and_true, zip_unzip, Bool.false_xor, Bool.true_xor, Bool.false_eq_true, Bool.true_eq_false, reduceIte, wipeR, dataR_cons, dataR_nil, dataO_d, dataO_none, dataO_ol, dataO_od, oDict, oIsi, tyD, isiB, wSl, wPart, wNoP, oSl, wDisp1, wDGet2, oRemove, atI_0, atI_1, atI_2, wiRev, revItems, oDictP, wForK, wiKeys, kD, oSortX, oPow, oBitAnd, oShl, oNeg, wUn, oInt, oStr, oDivmod, oIs, isD, wChain, wFz, wFzE, frzR, wLSet, wiZip, seqsD, wiVals, wiItems, wOIx, wNo, Option.isSome_some, oMulX, wM1, oSplit, oPart, oStrip1, oRep, oSum, intsD, wRaise, wLI, wLK
, wiR3, wLR, wDisp, wPairs, oReverse, oClear, oInsert, wRevL, wDZ, seqLT, oSortIT, wOFld, wSFld, asOI, setOI, putG, wPar, wiItemsC, wiValsC, wIndexL, wDZO, wLO, wiZip3, wTry1, wgDrop, wIsE, wLRev, wLZ]
      refine forD_map (I := fun done2 _ ρ => ∃ o2, ρ = [some (.d (.tup (a.map .str))), some (.d (.tup (b.map .str))), some (.ol ((pairsF done b ++ done2.map (bothF p)).map .str)), some (.d (.str p)), o2]) mono_name b (fun done2 q ys2 ρ he2 hI => ?_) (fun ρ hI => ?_) _ ⟨o2, by rw [List.map_nil, List.append_nil]⟩
      · obtain ⟨o2, rfl⟩ := hI
        have hq2 : Prd q := hb.prd q (by rw [he2]; simp)
        have l2 := congrArg List.length he2
        rw [List.length_append, List.length_cons] at l2
        simp only [w_multiplied_t1, w_multiplied_t2, wSeq, wSet, wAsg, wC, wIfS, wB, wOp, oI, oI0, asI, asS, asL, asLT, asT, asB, asA_some, asA_none, asO, asOL, asOD, asKey, asDic, asSq, oLen, oMod, oAdd, oSub, oMul, oDiv, oMax, oMin, oPlus, oEqX, oNeX, eqX_int, eqX_str, eqX_bl, oCmp, oLtX, oLeX, oGtX, oGeX, oIxX, oInX, wCB, wCons, wNil, wVar, wMove, nth, put, startR, wNext, wRet, wRetN, wDrop, wFor, wiR1, wiR2, wiX, itemsOf, wgName, wgTup, wgCons, wgNil, wLend, wLendT, seeR_cons, seeR_nil, seeO_d, seeO_none, seeO_ol, seeO_od, wJoin, wM, oAppend, oPop, oPopAt, wDPut, wDPop, wSortK, wDict0, wTup, wLst, wCall, wAnd, wOr, wNot, wAndV, wOrV, wNotV, wIf, wYes, wLc, wiEnumX, oListX, oTuple, oSort, oSortSet, oAll, oAny, S.fz, S.own, D.flat, txts_map, bools_map, txtKeys_map, List.length_map, List.map_cons, List.map_nil, List.length_cons, List.length_nil, List.cons_append, List.nil_append, List.replicate, decide_eq_true_eq, Bool.not_eq_true', Bool.not_true, Bool.not_false, if_true, if_false, Nat.zero_add, Nat.reduceAdd, Nat.reduceSub, ge_iff_le, true_and, and_true, zip_unzip, Bool.false_xor, Bool.true_xor, Bool.false_eq_true, Bool.true_eq_false, reduceIte, wipeR, dataR_cons, dataR_nil, dataO_d, dataO_none, dataO_ol, dataO_od, oDict, oIsi, tyD, isiB, wSl, wPart, wNoP, oSl, wDisp1, wDGet2, oRemove, atI_0, atI_1, atI_2, wiRev, revItems, oDictP, wForK, wiKeys, kD, oSortX, oPow, oBitAnd, oShl, oNeg, wUn, oInt, oStr, oDivmod, oIs, isD, wChain, wFz, wFzE, frzR, wLSet, wiZip, seqsD, wiVals, wiItems, wOIx, wNo, Option.isSome_some, oMulX, wM1, oSplit, oPart, oStrip1, oRep, oSum, intsD, wRaise, wLI, wLK
, wiR3, wLR, wDisp, wPairs, oReverse, oClear, oInsert, wRevL, wDZ, seqLT, oSortIT, wOFld, wSFld, asOI, setOI, putG, wPar, wiItemsC, wiValsC, wIndexL, wDZO, wLO, wiZip3, wTry1, wgDrop, wIsE, wLRev, wLZ, sp_both_letters]
        refine ⟨⟨by have := hp.len; omega, by have := hq2.len; omega⟩, ?_, some (.d (.str q)), ?_⟩
        · rw [List.length_append, List.length_map, pairs_len, len0]
          have : done.length * b.length ≤ 512 * 512 := Nat.mul_le_mul (by omega) lb
          omega
        · simp
      · obtain ⟨o2, rfl⟩ := hI
        exact ⟨_, _, by rw [pairsF_snoc]⟩
    · obtain ⟨o1, o2, rfl⟩ := hI
      simp only [w_multiplied_t1, w_multiplied_t2, wSeq, wSet, wAsg, wC, wIfS, wB, wOp, oI, oI0, asI, asS, asL, asLT, asT, asB, asA_some, asA_none, asO, asOL, asOD, asKey, asDic, asSq, oLen, oMod, oAdd, oSub, oMul, oDiv, oMax, oMin, oPlus, oEqX, oNeX, eqX_int, eqX_str, eqX_bl, oCmp, oLtX, oLeX, oGtX, oGeX, oIxX, oInX, wCB, wCons, wNil, wVar, wMove, nth, put, startR, wNext, wRet, wRetN, wDrop, wFor, wiR1, wiR2, wiX, itemsOf, wgName, wgTup, wgCons, wgNil, wLend, wLendT, seeR_cons, seeR_nil, seeO_d, seeO_none, seeO_ol, seeO_od, wJoin, wM, oAppend, oPop, oPopAt, wDPut, wDPop, wSortK, wDict0, wTup, wLst, wCall, wAnd, wOr, wNot, wAndV, wOrV, wNotV, wIf, wYes, wLc, wiEnumX, oListX, oTuple, oSort, oSortSet, oAll, oAny, S.fz, S.own, D.flat, txts_map, bools_map, txtKeys_map, List.length_map, List.map_cons, List.map_nil, List.length_cons, List.length_nil, List.cons_append, List.nil_append, List.replicate, decide_eq_true_eq, Bool.not_eq_true', Bool.not_true, Bool.not_false, if_true, if_false, Nat.zero_add, Nat.reduceAdd, Nat.reduceSub, ge_iff_le, true_and, and_true, zip_unzip, Bool.false_xor, Bool.true_xor, Bool.false_eq_true, Bool.true_eq_false, reduceIte, wipeR, dataR_cons, dataR_nil, dataO_d, dataO_none, dataO_ol, dataO_od, oDict, oIsi, tyD, isiB, wSl, wPart, wNoP, oSl, wDisp1, wDGet2, oRemove, atI_0, atI_1, atI_2, wiRev, revItems, oDictP, wForK, wiKeys, kD, oSortX, oPow, oBitAnd, oShl, oNeg, wUn, oInt, oStr, oDivmod, oIs, isD, wChain, wFz, wFzE, frzR, wLSet, wiZip, seqsD, wiVals, wiItems, wOIx, wNo, Option.isSome_some, oMulX, wM1, oSplit, oPart, oStrip1, oRep, oSum, intsD, wRaise, wLI, wLK
, wiR3, wLR, wDisp, wPairs, oReverse, oClear, oInsert, wRevL, wDZ, seqLT, oSortIT, wOFld, wSFld, asOI, setOI, putG, wPar, wiItemsC, wiValsC, wIndexL, wDZO, wLO, wiZip3, wTry1, wgDrop, wIsE, wLRev, wLZ, sp_gathered, pairs_len]
      refine ⟨?_, hq⟩
      have : a.length * b.length ≤ 512 * 512 := Nat.mul_le_mul la lb
      omega
  · exact h.elim
def sp_opposite : DSp := fun ds P _ => match ds with
  | [x] => asF x fun a => Frm a ∧ P (.d (fD (oppF a)))
  | _ => False
abbrev N_opposite : List Str := ["form"]
def w_opposite : WS := (wRet (wCall sp_added (fun _ _ => False) (wCons (wVar 0) (wCons (wTup (wCons (wC (.str "")) wNil)) wNil))))
theorem len_opposite {ds Q px} (h : sp_opposite ds Q px) : ds.length = 1 := by unfold sp_opposite at h; split at h <;> first | rfl | exact h.elim
theorem oneF_fD : D.tup [D.str ""] = fD oneF := rfl
theorem nilF_fD : D.tup [] = fD [] := rfl
theorem rd_opposite {ds Q px} (h : sp_opposite ds Q px) : w_opposite ⟨fun _ => Q (.d .non), Q, fun _ => False, fun _ => False⟩ (startR N_opposite ds) := by
  unfold sp_opposite at h
  split at h
  · obtain ⟨a, rfl, ha, hq⟩ := asF_of h
    clear h
    unfold w_opposite
    simp only [N_opposite, wSeq, wSet, wAsg, wC, wIfS, wB, wOp, oI, oI0, asI, asS, asL, asLT, asT, asB, asA_some, asA_none, asO, asOL, asOD, asKey, asDic, asSq, oLen, oMod, oAdd, oSub, oMul, oDiv, oMax, oMin, oPlus, oEqX, oNeX, eqX_int, eqX_str, eqX_bl, oCmp, oLtX, oLeX, oGtX, oGeX, oIxX, oInX, wCB, wCons, wNil, wVar, wMove, nth, put, startR, wNext, wRet, wRetN, wDrop, wFor, wiR1, wiR2, wiX, itemsOf, wgName, wgTup, wgCons, wgNil, wLend, wLendT, seeR_cons, seeR_nil, seeO_d, seeO_none, seeO_ol, seeO_od, wJoin, wM, oAppend, oPop, oPopAt, wDPut, wDPop, wSortK, wDict0, wTup, wLst, wCall, wAnd, wOr, wNot, wAndV, wOrV, wNotV, wIf, wYes, wLc, wiEnumX, oListX, oTuple, oSort, oSortSet, oAll, oAny, S.fz, S.own, D.flat, txts_map, bools_map, txtKeys_map, List.length_map, List.map_cons, List.map_nil, List.length_cons, List.length_nil, List.cons_append, List.nil_append, List.replicate, decide_eq_true_eq, Bool.not_eq_true', Bool.not_true, Bool.not_false, if_true, if_false, Nat.zero_add, Nat.reduceAdd, Nat.reduceSub, ge_iff_le, true_and, and_true, zip_unzip, Bool.false_xor, Bool.true_xor, Bool.false_eq_true, Bool.true_eq_false, reduceIte, wipeR, dataR_cons, dataR_nil, dataO_d, dataO_none, dataO_ol, dataO_od, oDict, oIsi, tyD, isiB, wSl, wPart, wNoP, oSl, wDisp1, wDGet2, oRemove, atI_0, atI_1, atI_2, wiRev, revItems, oDictP, wForK, wiKeys, kD, oSortX, oPow, oBitAnd, oShl, oNeg, wUn, oInt, oStr, oDivmod, oIs, isD, wChain, wFz, wFzE, frzR, wLSet, wiZip, seqsD, wiVals, wiItems, wOIx, wNo, Option.isSome_some, oMulX, wM1, oSplit, oPart, oStrip1, oRep, oSum, intsD, wRaise, wLI, wLK
, wiR3, wLR, wDisp, wPairs, oReverse, oClear, oInsert, wRevL, wDZ, seqLT, oSortIT, wOFld, wSFld, asOI, setOI, putG, wPar, wiItemsC, wiValsC, wIndexL, wDZO, wLO, wiZip3, wTry1, wgDrop, wIsE, wLRev, wLZ, sp_added, asF_fD, oneF_fD]
    have := ha.len
    exact ⟨by decide, ⟨by omega, by decide⟩, hq⟩
  · exact h.elim
def sp_joined : DSp := fun ds P _ => match ds with
  | [x, y] => asF x fun a => asF y fun b => (Frm a ∧ Frm b) ∧ P (.d (fD (joinF a b)))
  | _ => False
abbrev N_joined : List Str := ["one", "other"]
def w_joined : WS := (wRet (wCall sp_added (fun _ _ => False) (wCons (wCall sp_added (fun _ _ => False) (wCons (wVar 0) (wCons (wVar 1) wNil))) (wCons (wCall sp_multiplied (fun _ _ => False) (wCons (wVar 0) (wCons (wVar 1) wNil))) wNil))))
theorem len_joined {ds Q px} (h : sp_joined ds Q px) : ds.length = 2 := by unfold sp_joined at h; split at h <;> first | rfl | exact h.elim
theorem rd_joined {ds Q px} (h : sp_joined ds Q px) : w_joined ⟨fun _ => Q (.d .non), Q, fun _ => False, fun _ => False⟩ (startR N_joined ds) := by
  unfold sp_joined at h
  split at h
  · obtain ⟨a, rfl, g⟩ := asF_of h
    obtain ⟨b, rfl, ⟨ha, hb⟩, hq⟩ := asF_of g
    clear h g
    unfold w_joined
    simp only [N_joined, wSeq, wSet, wAsg, wC, wIfS, wB, wOp, oI, oI0, asI, asS, asL, asLT, asT, asB, asA_some, asA_none, asO, asOL, asOD, asKey, asDic, asSq, oLen, oMod, oAdd, oSub, oMul, oDiv, oMax, oMin, oPlus, oEqX, oNeX, eqX_int, eqX_str, eqX_bl, oCmp, oLtX, oLeX, oGtX, oGeX, oIxX, oInX, wCB, wCons, wNil, wVar, wMove, nth, put, startR, wNext, wRet, wRetN, wDrop, wFor, wiR1, wiR2, wiX, itemsOf, wgName, wgTup, wgCons, wgNil, wLend, wLendT, seeR_cons, seeR_nil, seeO_d, seeO_none, seeO_ol, seeO_od, wJoin, wM, oAppend, oPop, oPopAt, wDPut, wDPop, wSortK, wDict0, wTup, wLst, wCall, wAnd, wOr, wNot, wAndV, wOrV, wNotV, wIf, wYes, wLc, wiEnumX, oListX, oTuple, oSort, oSortSet, oAll, oAny, S.fz, S.own, D.flat, txts_map, bools_map, txtKeys_map, List.length_map, List.map_cons, List.map_nil, List.length_cons, List.length_nil, List.cons_append, List.nil_append, List.replicate, decide_eq_true_eq, Bool.not_eq_true', Bool.not_true, Bool.not_false, if_true, if_false, Nat.zero_add, Nat.reduceAdd, Nat.reduceSub, ge_iff_le, true_and, and_true, zip_unzip, Bool.false_xor, Bool.true_xor, Bool.false_eq_true, Bool.true_eq_false, reduceIte, wipeR, dataR_cons, dataR_nil, dataO_d, dataO_none, dataO_ol, dataO_od, oDict, oIsi, tyD, isiB, wSl, wPart, wNoP, oSl, wDisp1, wDGet2, oRemove, atI_0, atI_1, atI_2, wiRev, revItems, oDictP, wForK, wiKeys, kD, oSortX, oPow, oBitAnd, oShl, oNeg, wUn, oInt, oStr, oDivmod, oIs, isD, wChain, wFz, wFzE, frzR, wLSet, wiZip, seqsD, wiVals, wiItems, wOIx, wNo, Option.isSome_some, oMulX, wM1, oSplit, oPart, oStrip1, oRep, oSum, intsD, wRaise, wLI, wLK
, wiR3, wLR, wDisp, wPairs, oReverse, oClear, oInsert, wRevL, wDZ, seqLT, oSortIT, wOFld, wSFld, asOI, setOI, putG, wPar, wiItemsC, wiValsC, wIndexL, wDZO, wLO, wiZip3, wTry1, wgDrop, wIsE, wLRev, wLZ, sp_added, sp_multiplied, asF_fD]
    have := ha.len
    have := hb.len
    have := (frm_added ha hb).len
    have := (frm_mul ha hb).len
    exact ⟨⟨by omega, by omega⟩, ⟨ha, hb⟩, ⟨by omega, by omega⟩, hq⟩
  · exact h.elim
theorem strOk_prd {p : Str} (h : Prd p) : PyData.strOk p = true := by
  have hh : ∀ c ∈ sg p, c < 0x110000 := fun c hc => by
    have := h.le c hc
    simp [LET] at this
    omega
  unfold PyData.strOk
  rw [← Array.all_toList, List.all_eq_true]
  exact fun c hc => decide_eq_true (hh c hc)
theorem pyds_strs : ∀ a : List Str, pyds (a.map .str) = some (a.map .str)
  | [] => rfl
  | x :: a => by rw [List.map_cons, pyds, pyds_strs a]; rfl
theorem pyd_fD (a : List Str) : pyd (fD a) = some (.tuple (a.map .str)) := by
  unfold fD pyd; rw [pyds_strs]; rfl
theorem canLay_strs : ∀ a : List Str, (∀ p ∈ a, PyData.strOk p = true) → PyData.canLayAll0 (a.map .str) = true
  | [], _ => rfl
  | x :: a, h => by
    rw [List.map_cons, PyData.canLayAll0, canLay_strs a fun p hp => h p (List.mem_cons_of_mem _ hp), Bool.and_true]
    exact h x List.mem_cons_self
theorem depth_strs : ∀ a : List Str, PyData.depthAll (a.map .str) ≤ 1
  | [] => by decide
  | x :: a => by
    rw [List.map_cons]
    have := depth_strs a
    simp only [PyData.depthAll, PyData.depth]
    omega
theorem shaped_fD {a : List Str} (h : ∀ p ∈ a, PyData.strOk p = true) : SeqAt.shaped (.tuple (a.map .str)) = true := by
  unfold SeqAt.shaped
  rw [Bool.and_eq_true]
  refine ⟨canLay_strs a h, decide_eq_true ?_⟩
  have := depth_strs a
  simp only [PyData.depth]
  omega
theorem eqvAll_strs : ∀ a b : List Str, PyData.eqvAll (a.map .str) (b.map .str) = decide (a = b)
  | [], [] => rfl
  | [], y :: b => rfl
  | x :: a, [] => rfl
  | x :: a, y :: b => by
    rw [List.map_cons, List.map_cons, PyData.eqvAll, eqvAll_strs a b]
    show (x == y && _) = _
    rw [Bool.eq_iff_iff]
    simp
theorem eqX_fD {a b : List Str} {P : Bool → Prop} (ha : ∀ p ∈ a, PyData.strOk p = true) (hb : ∀ p ∈ b, PyData.strOk p = true) : eqX (fD a) (fD b) P = P (decide (a = b)) := by
  have e : eqS (fD a) (fD b) = none := rfl
  unfold eqX
  rw [e]
  show asA (pyd (fD a)) (fun q => asA (pyd (fD b)) fun r => SeqAt.shaped q = true ∧ SeqAt.shaped r = true ∧ P (PyData.eqv q r)) = _
  rw [pyd_fD, pyd_fD]
  show (SeqAt.shaped _ = true ∧ SeqAt.shaped _ = true ∧ P (PyData.eqvAll _ _)) = _
  rw [shaped_fD ha, shaped_fD hb, eqvAll_strs]
  simp
theorem Frm.ok {a : List Str} (h : Frm a) : ∀ p ∈ a, PyData.strOk p = true := fun p hp => strOk_prd (h.prd p hp)
theorem eqX_frm {a b : List Str} {P : Bool → Prop} (ha : Frm a) (hb : Frm b) : eqX (fD a) (fD b) P = P (decide (a = b)) := eqX_fD ha.ok hb.ok
def leadF (a b : List Str) : Bool := decide (mulF a (oppF b) = [])
def sp_leads : DSp := fun ds P _ => match ds with
  | [x, y] => asF x fun a => asF y fun b => (Frm a ∧ Frm b) ∧ P (.d (.bl (leadF a b)))
  | _ => False
abbrev N_leads : List Str := ["one", "other"]
def w_leads : WS := (wRet (wOp oEqX (wCall sp_multiplied (fun _ _ => False) (wCons (wVar 0) (wCons (wCall sp_opposite (fun _ _ => False) (wCons (wVar 1) wNil)) wNil))) (wTup wNil)))
theorem len_leads {ds Q px} (h : sp_leads ds Q px) : ds.length = 2 := by unfold sp_leads at h; split at h <;> first | rfl | exact h.elim
theorem rd_leads {ds Q px} (h : sp_leads ds Q px) : w_leads ⟨fun _ => Q (.d .non), Q, fun _ => False, fun _ => False⟩ (startR N_leads ds) := by
  unfold sp_leads at h
  split at h
  · obtain ⟨a, rfl, g⟩ := asF_of h
    obtain ⟨b, rfl, ⟨ha, hb⟩, hq⟩ := asF_of g
    clear h g
    unfold w_leads
    simp only [N_leads, wRet, wOp, wCall, wCons, wNil, wVar, startR, nth, List.map_cons, List.map_nil, S.fz, sp_opposite, sp_multiplied, asF_fD, wTup, List.cons_append, oEqX, nilF_fD, List.length_nil]
    refine ⟨hb, ⟨ha, frm_opp hb⟩, by decide, ?_⟩
    rw [eqX_frm (frm_mul ha (frm_opp hb)) frm_nil]
    exact hq
  · exact h.elim
end DL
namespace DL
open PySem L2
theorem atI_in {α : Type} {xs : List α} {i : Int} (h0 : 0 ≤ i) (h : i < xs.length) : ∃ v, atI xs i = some v ∧ v ∈ xs := by
  have hi : i.toNat < xs.length := by omega
  refine ⟨xs[i.toNat], ?_, List.getElem_mem hi⟩
  have := atI_nat (xs := xs) (List.getElem?_eq_getElem hi)
  rwa [show ((i.toNat : Nat) : Int) = i by omega] at this
def Picks {α : Type} (g : α → Option D → Prop) : List α → List D → Prop
  | [], r => r = []
  | x :: xs, r => ∃ o r', g x o ∧ Picks g xs r' ∧ r = (match o with | some d => d :: r' | none => r')
theorem compD_picks {α : Type} {f : α → D} {wg : WG} {wt : WT} {we : W} {ρb : R} (g : α → Option D → Prop) :
    ∀ (items : List α) (P : List D → Prop), (∀ x ∈ items, ∀ Q : Option D → Prop, (∀ o, g x o → Q o) → wg (f x) ρb fun ρ1 => wt ρ1 fun b ρ2 => if b = true then we ρ2 fun s _ => Q (some s.fz) else Q none) →
      (∀ r, Picks g items r → P r) → compD wg wt we ρb (items.map f) P
  | [], P, h, p => p [] rfl
  | x :: xs, P, h, p => by
    rw [List.map_cons]
    show wg (f x) ρb fun ρ1 => wt ρ1 fun b ρ2 => if b = true then we ρ2 fun s _ => compD wg wt we ρb (xs.map f) fun r => P (s.fz :: r) else compD wg wt we ρb (xs.map f) P
    refine h x List.mem_cons_self (fun o => match o with
      | some d => compD wg wt we ρb (xs.map f) fun r => P (d :: r)
      | none => compD wg wt we ρb (xs.map f) P) fun o ho => ?_
    cases o with
    | none => exact compD_picks g xs P (fun y hy => h y (List.mem_cons_of_mem _ hy)) fun r hr => p r ⟨none, r, ho, hr, rfl⟩
    | some d => exact compD_picks g xs (fun r => P (d :: r)) (fun y hy => h y (List.mem_cons_of_mem _ hy)) fun r hr => p _ ⟨some d, r, ho, hr, rfl⟩
theorem rangeD_map (n : Nat) : rangeD 0 n = (List.range n).map fun i : Nat => D.int (i : Int) := by
  unfold rangeD
  apply List.map_congr_left
  intro i _
  rw [Int.zero_add]
theorem up_nodup {p : List Nat} (h : p.Pairwise (· < ·)) : p.Nodup := h.imp fun h => Nat.ne_of_lt h
theorem erase_map {α β : Type} (f : α → β) : ∀ (l : List α) (i : Nat), (l.map f).eraseIdx i = (l.eraseIdx i).map f
  | [], _ => rfl
  | _ :: _, 0 => rfl
  | x :: l, i + 1 => by
    rw [List.map_cons, List.eraseIdx_cons_succ, List.eraseIdx_cons_succ, erase_map f l i]; rfl
def sp_L_mixed : DSp := fun ds P _ => match ds with
  | [.cel ns, .int k] => (ns.length ≤ 63 ∧ 0 ≤ k ∧ k ≤ 1000000) ∧ ∀ z : Int, 0 ≤ z → z < 999983 → P (.d (.int z))
  | _ => False
abbrev N_L_mixed : List Str := ["_law_script", "_law_k", "_law_many", "_law_cell", "_law_n"]
def w_L_mixed_t4 : WS := (wRet (wOp oMod (wOp oMul (wOp oMod (wOp oMul (wOp oPlus (wOp oPlus (wOp oMod (wVar 3) (wC (.int 1000003))) (wOp oMul (wC (.int 7919)) (wVar 1))) (wC (.int 11))) (wC (.int 48271))) (wC (.int 1000033))) (wC (.int 69621))) (wC (.int 999983))))
def w_L_mixed_t3 : WS := wSeq (wIfS (wB (wOp oGeX (wVar 2) (wC (.int 0)))) (wAsg (wOp oIxX (wVar 0) (wOp oMod (wVar 1) (wCB oLen (wCons (wVar 0) wNil)))) (wgName 3)) wNext)
    w_L_mixed_t4
def w_L_mixed_t2 : WS := wSeq (wAsg (wC (.int 0)) (wgName 3))
    w_L_mixed_t3
def w_L_mixed_t1 : WS := wSeq (wIfS (wAnd (wB (wOp oGtX (wVar 2) (wC (.int 0)))) (wB (wOp oEqX (wOp oMod (wOp oIxX (wVar 0) (wC (.int 0))) (wC (.int 2))) (wC (.int 1))))) (wSeq (wAsg (wOp oIxX (wVar 0) (wOp oPlus (wC (.int 1)) (wOp oMod (wVar 1) (wVar 2)))) (wgName 3))
    (wSeq (wFor (wiR1 (wCons (wCB oMin (wCons (wOp oDiv (wVar 1) (wVar 2)) (wCons (wC (.int 60)) wNil))) wNil)) (wgName 4)
      (wAsg (wOp oDiv (wVar 3) (wC (.int 999983))) (wgName 3)))
    (wRet (wOp oMod (wVar 3) (wC (.int 999983)))))) wNext)
    w_L_mixed_t2
def w_L_mixed : WS := wSeq (wAsg (wOp oSub (wCB oLen (wCons (wVar 0) wNil)) (wC (.int 1))) (wgName 2))
    w_L_mixed_t1
theorem len_L_mixed {ds Q px} (h : sp_L_mixed ds Q px) : ds.length = 2 := by unfold sp_L_mixed at h; split at h <;> first | rfl | exact h.elim
theorem rd_L_mixed {ds Q px} (h : sp_L_mixed ds Q px) : w_L_mixed ⟨fun _ => Q (.d .non), Q, fun _ => False, fun _ => False⟩ (startR N_L_mixed ds) := by
  unfold sp_L_mixed at h
  split at h
  · rename_i ns k
    obtain ⟨⟨h1, h2, h3⟩, hq⟩ := h
    unfold w_L_mixed
    simp only [N_L_mixed, w_L_mixed_t1, w_L_mixed_t2, w_L_mixed_t3, w_L_mixed_t4, wSeq, wSet, wAsg, wC, wIfS, wB, wOp, oI, oI0, asI, asS, asL, asLT, asT, asB, asA_some, asA_none, asO, asOL, asOD, asKey, asDic, asSq, oLen, oMod, oAdd, oSub, oMul, oDiv, oMax, oMin, oPlus, oEqX, oNeX, eqX_int, eqX_str, eqX_bl, oCmp, oLtX, oLeX, oGtX, oGeX, oIxX, oInX, wCB, wCons, wNil, wVar, wMove, nth, put, startR, wNext, wRet, wRetN, wDrop, wFor, wiR1, wiR2, wiX, itemsOf, wgName, wgTup, wgCons, wgNil, wLend, wLendT, seeR_cons, seeR_nil, seeO_d, seeO_none, seeO_ol, seeO_od, wJoin, wM, oAppend, oPop, oPopAt, wDPut, wDPop, wSortK, wDict0, wTup, wLst, wCall, wAnd, wOr, wNot, wAndV, wOrV, wNotV, wIf, wYes, wLc, wiEnumX, oListX, oTuple, oSort, oSortSet, oAll, oAny, S.fz, S.own, D.flat, txts_map, bools_map, txtKeys_map, List.length_map, List.map_cons, List.map_nil, List.length_cons, List.length_nil, List.cons_append, List.nil_append, List.replicate, decide_eq_true_eq, Bool.not_eq_true', Bool.not_true, Bool.not_false, if_true, if_false, Nat.zero_add, Nat.reduceAdd, Nat.reduceSub, ge_iff_le, true_and, and_true, zip_unzip, Bool.false_xor, Bool.true_xor, Bool.false_eq_true, Bool.true_eq_false, reduceIte, wipeR, dataR_cons, dataR_nil, dataO_d, dataO_none, dataO_ol, dataO_od, oDict, oIsi, tyD, isiB, wSl, wPart, wNoP, oSl, wDisp1, wDGet2, oRemove, atI_0, atI_1, atI_2, wiRev, revItems, oDictP, wForK, wiKeys, kD, oSortX, oPow, oBitAnd, oShl, oNeg, wUn, oInt, oStr, oDivmod, oIs, isD, wChain, wFz, wFzE, frzR, wLSet, wiZip, seqsD, wiVals, wiItems, wOIx, wNo, Option.isSome_some, oMulX, wM1, oSplit, oPart, oStrip1, oRep, oSum, intsD, wRaise, wLI, wLK
, wiR3, wLR, wDisp, wPairs, oReverse, oClear, oInsert, wRevL, wDZ, seqLT, oSortIT, wOFld, wSFld, asOI, setOI, putG, wPar, wiItemsC, wiValsC, wIndexL, wDZO, wLO, wiZip3, wTry1, wgDrop, wIsE, wLRev, wLZ]
    have fin : ∀ b : Int, 0 < (1000003 : Int) ∧ CMul 7919 k ∧ CMul (b % 1000003 + 7919 * k + 11) 48271 ∧ 0 < (1000033 : Int) ∧ CMul ((b % 1000003 + 7919 * k + 11) * 48271 % 1000033) 69621 ∧ 0 < (999983 : Int) ∧
        Q (S.d (D.int ((b % 1000003 + 7919 * k + 11) * 48271 % 1000033 * 69621 % 999983))) := fun b =>
      ⟨by decide, .inl ⟨by decide, by decide⟩, .inr ⟨by decide, by decide⟩, by decide, .inr ⟨by decide, by decide⟩, by decide, hq _ (Int.emod_nonneg _ (by decide)) (Int.emod_lt_of_pos _ (by decide))⟩
    have last : if 0 ≤ (ns.length : Int) - 1 then 0 < (ns.length : Int) ∧ asA (atI ns (k % ns.length)) fun b => 0 < (1000003 : Int) ∧ CMul 7919 k ∧ CMul (b % 1000003 + 7919 * k + 11) 48271 ∧ 0 < (1000033 : Int) ∧ CMul ((b % 1000003 + 7919 * k + 11) * 48271 % 1000033) 69621 ∧ 0 < (999983 : Int) ∧
            Q (S.d (D.int ((b % 1000003 + 7919 * k + 11) * 48271 % 1000033 * 69621 % 999983)))
        else 0 < (1000003 : Int) ∧ CMul 7919 k ∧ CMul (0 % 1000003 + 7919 * k + 11) 48271 ∧ 0 < (1000033 : Int) ∧ CMul ((0 % 1000003 + 7919 * k + 11) * 48271 % 1000033) 69621 ∧ 0 < (999983 : Int) ∧
            Q (S.d (D.int ((0 % 1000003 + 7919 * k + 11) * 48271 % 1000033 * 69621 % 999983))) := by
      split
      · rename_i c
        refine ⟨by omega, ?_⟩
        obtain ⟨b, e, _⟩ := atI_in (xs := ns) (i := k % ns.length) (Int.emod_nonneg _ (by omega)) (Int.emod_lt_of_pos _ (by omega))
        rw [e]
        exact fin b
      · exact fin 0
    by_cases c1 : 0 < (ns.length : Int) - 1
    · obtain ⟨b0, e0, _⟩ := atI_in (xs := ns) (i := 0) (by omega) (by omega)
      rw [if_pos c1, e0]
      refine ⟨by decide, ?_⟩
      by_cases c2 : b0 % 2 = 1
      · rw [if_pos c2]
        obtain ⟨b, e, _⟩ := atI_in (xs := ns) (i := 1 + k % (ns.length - 1)) (by have := Int.emod_nonneg k (show (ns.length : Int) - 1 ≠ 0 by omega); omega) (by have := Int.emod_lt_of_pos k c1; omega)
        rw [e]
        have hd : 0 ≤ k / ((ns.length : Int) - 1) := Int.ediv_nonneg h2 (by omega)
        refine ⟨c1, ⟨c1, by omega⟩, ⟨by split <;> omega, by split <;> omega⟩, ?_⟩
        rw [rangeD_map]
        refine forD_map (I := fun _ _ ρ => ∃ c o, ρ = [some (.d (.cel ns)), some (.d (.int k)), some (.d (.int ((ns.length : Int) - 1))), some (.d (.int c)), o]) mono_name _ (fun done x ys ρ he hI => ?_) (fun ρ hI => ?_) _ ⟨b, none, rfl⟩
        · obtain ⟨c, o, rfl⟩ := hI
          simp only [w_L_mixed_t1, w_L_mixed_t2, w_L_mixed_t3, w_L_mixed_t4, wSeq, wSet, wAsg, wC, wIfS, wB, wOp, oI, oI0, asI, asS, asL, asLT, asT, asB, asA_some, asA_none, asO, asOL, asOD, asKey, asDic, asSq, oLen, oMod, oAdd, oSub, oMul, oDiv, oMax, oMin, oPlus, oEqX, oNeX, eqX_int, eqX_str, eqX_bl, oCmp, oLtX, oLeX, oGtX, oGeX, oIxX, oInX, wCB, wCons, wNil, wVar, wMove, nth, put, startR, wNext, wRet, wRetN, wDrop, wFor, wiR1, wiR2, wiX, itemsOf, wgName, wgTup, wgCons, wgNil, wLend, wLendT, seeR_cons, seeR_nil, seeO_d, seeO_none, seeO_ol, seeO_od, wJoin, wM, oAppend, oPop, oPopAt, wDPut, wDPop, wSortK, wDict0, wTup, wLst, wCall, wAnd, wOr, wNot, wAndV, wOrV, wNotV, wIf, wYes, wLc, wiEnumX, oListX, oTuple, oSort, oSortSet, oAll, oAny, S.fz, S.own, D.flat, txts_map, bools_map, txtKeys_map, List.length_map, List.map_cons, List.map_nil, List.length_cons, List.length_nil, List.cons_append, List.nil_append, List.replicate, decide_eq_true_eq, Bool.not_eq_true', Bool.not_true, Bool.not_false, if_true, if_false, Nat.zero_add, Nat.reduceAdd, Nat.reduceSub, ge_iff_le, true_and, and_true, zip_unzip, Bool.false_xor, Bool.true_xor, Bool.false_eq_true, Bool.true_eq_false, reduceIte, wipeR, dataR_cons, dataR_nil, dataO_d, dataO_none, dataO_ol, dataO_od, oDict, oIsi, tyD, isiB, wSl, wPart, wNoP, oSl, wDisp1, wDGet2, oRemove, atI_0, atI_1, atI_2, wiRev, revItems, oDictP, wForK, wiKeys, kD, oSortX, oPow, oBitAnd, oShl, oNeg, wUn, oInt, oStr, oDivmod, oIs, isD, wChain, wFz, wFzE, frzR, wLSet, wiZip, seqsD, wiVals, wiItems, wOIx, wNo, Option.isSome_some, oMulX, wM1, oSplit, oPart, oStrip1, oRep, oSum, intsD, wRaise, wLI, wLK
, wiR3, wLR, wDisp, wPairs, oReverse, oClear, oInsert, wRevL, wDZ, seqLT, oSortIT, wOFld, wSFld, asOI, setOI, putG, wPar, wiItemsC, wiValsC, wIndexL, wDZO, wLO, wiZip3, wTry1, wgDrop, wIsE, wLRev, wLZ]
          exact ⟨⟨by decide, by decide⟩, _, _, rfl⟩
        · obtain ⟨c, o, rfl⟩ := hI
          simp only [w_L_mixed_t1, w_L_mixed_t2, w_L_mixed_t3, w_L_mixed_t4, wSeq, wSet, wAsg, wC, wIfS, wB, wOp, oI, oI0, asI, asS, asL, asLT, asT, asB, asA_some, asA_none, asO, asOL, asOD, asKey, asDic, asSq, oLen, oMod, oAdd, oSub, oMul, oDiv, oMax, oMin, oPlus, oEqX, oNeX, eqX_int, eqX_str, eqX_bl, oCmp, oLtX, oLeX, oGtX, oGeX, oIxX, oInX, wCB, wCons, wNil, wVar, wMove, nth, put, startR, wNext, wRet, wRetN, wDrop, wFor, wiR1, wiR2, wiX, itemsOf, wgName, wgTup, wgCons, wgNil, wLend, wLendT, seeR_cons, seeR_nil, seeO_d, seeO_none, seeO_ol, seeO_od, wJoin, wM, oAppend, oPop, oPopAt, wDPut, wDPop, wSortK, wDict0, wTup, wLst, wCall, wAnd, wOr, wNot, wAndV, wOrV, wNotV, wIf, wYes, wLc, wiEnumX, oListX, oTuple, oSort, oSortSet, oAll, oAny, S.fz, S.own, D.flat, txts_map, bools_map, txtKeys_map, List.length_map, List.map_cons, List.map_nil, List.length_cons, List.length_nil, List.cons_append, List.nil_append, List.replicate, decide_eq_true_eq, Bool.not_eq_true', Bool.not_true, Bool.not_false, if_true, if_false, Nat.zero_add, Nat.reduceAdd, Nat.reduceSub, ge_iff_le, true_and, and_true, zip_unzip, Bool.false_xor, Bool.true_xor, Bool.false_eq_true, Bool.true_eq_false, reduceIte, wipeR, dataR_cons, dataR_nil, dataO_d, dataO_none, dataO_ol, dataO_od, oDict, oIsi, tyD, isiB, wSl, wPart, wNoP, oSl, wDisp1, wDGet2, oRemove, atI_0, atI_1, atI_2, wiRev, revItems, oDictP, wForK, wiKeys, kD, oSortX, oPow, oBitAnd, oShl, oNeg, wUn, oInt, oStr, oDivmod, oIs, isD, wChain, wFz, wFzE, frzR, wLSet, wiZip, seqsD, wiVals, wiItems, wOIx, wNo, Option.isSome_some, oMulX, wM1, oSplit, oPart, oStrip1, oRep, oSum, intsD, wRaise, wLI, wLK
, wiR3, wLR, wDisp, wPairs, oReverse, oClear, oInsert, wRevL, wDZ, seqLT, oSortIT, wOFld, wSFld, asOI, setOI, putG, wPar, wiItemsC, wiValsC, wIndexL, wDZO, wLO, wiZip3, wTry1, wgDrop, wIsE, wLRev, wLZ]
          exact ⟨by decide, hq _ (Int.emod_nonneg _ (by decide)) (Int.emod_lt_of_pos _ (by decide))⟩
      · rw [if_neg c2]
        exact last
    · rw [if_neg c1]
      exact last
  · exact h.elim
theorem prd_ones {cs : List Nat} (h1 : cs.Pairwise (· < ·)) (h2 : ∀ c ∈ cs, c ∈ LET) : Prd (Txt.join "" (cs.map one)) := by
  have e : sg (Txt.join "" (cs.map one)) = cs := by rw [sg_join0 sg_nil, flat_ones]
  exact ⟨by rw [e]; exact h1, by rw [e]; exact h2⟩
def sp_L_letters : DSp := fun ds P _ => match ds with
  | [.int n, .int m] => (0 ≤ n ∧ 0 ≤ m) ∧ ∀ s : Str, Prd s → ((sg s).length : Int) ≤ m → P (.d (.str s))
  | _ => False
abbrev N_L_letters : List Str := ["_law_number", "_law_many", "_law_left"]
def w_L_letters_b1_t1 : WS := (wAsg (wOp oPlus (wOp oDiv (wVar 0) (wC (.int 3))) (wC (.int 7))) (wgName 0))
def w_L_letters_b1 : WS := wSeq (wDrop (wM 2 oPopAt (wCons (wOp oMod (wVar 0) (wLend (wCB oLen (wCons (wVar 2) wNil)))) wNil)))
    w_L_letters_b1_t1
def w_L_letters_t2 : WS := (wRet (wLend (wJoin (wC (.str "")) (wVar 2))))
def w_L_letters_t1 : WS := wSeq (wWhile (wLendT (wB (wOp oGtX (wCB oLen (wCons (wVar 2) wNil)) (wVar 1)))) w_L_letters_b1)
    w_L_letters_t2
def w_L_letters : WS := wSeq (wSet 2 (wCB oListX (wCons (wC (.str "abcpqrxyz")) wNil)))
    w_L_letters_t1
theorem len_L_letters {ds Q px} (h : sp_L_letters ds Q px) : ds.length = 2 := by unfold sp_L_letters at h; split at h <;> first | rfl | exact h.elim
theorem rd_L_letters {ds Q px} (h : sp_L_letters ds Q px) : w_L_letters ⟨fun _ => Q (.d .non), Q, fun _ => False, fun _ => False⟩ (startR N_L_letters ds) := by
  unfold sp_L_letters at h
  split at h
  · rename_i n m
    obtain ⟨⟨h1, h2⟩, hq⟩ := h
    have e0 : signs "abcpqrxyz" = LET.map one := by
      rw [signs_eq]
      have : sg "abcpqrxyz" = LET := by decide +kernel
      rw [this]
    unfold w_L_letters
    simp only [N_L_letters, w_L_letters_t1, w_L_letters_t2, w_L_letters_b1_t1, w_L_letters_b1, wSeq, wSet, wAsg, wC, wIfS, wB, wOp, oI, oI0, asI, asS, asL, asLT, asT, asB, asA_some, asA_none, asO, asOL, asOD, asKey, asDic, asSq, oLen, oMod, oAdd, oSub, oMul, oDiv, oMax, oMin, oPlus, oEqX, oNeX, eqX_int, eqX_str, eqX_bl, oCmp, oLtX, oLeX, oGtX, oGeX, oIxX, oInX, wCB, wCons, wNil, wVar, wMove, nth, put, startR, wNext, wRet, wRetN, wDrop, wFor, wiR1, wiR2, wiX, itemsOf, wgName, wgTup, wgCons, wgNil, wLend, wLendT, seeR_cons, seeR_nil, seeO_d, seeO_none, seeO_ol, seeO_od, wJoin, wM, oAppend, oPop, oPopAt, wDPut, wDPop, wSortK, wDict0, wTup, wLst, wCall, wAnd, wOr, wNot, wAndV, wOrV, wNotV, wIf, wYes, wLc, wiEnumX, oListX, oTuple, oSort, oSortSet, oAll, oAny, S.fz, S.own, D.flat, txts_map, bools_map, txtKeys_map, List.length_map, List.map_cons, List.map_nil, List.length_cons, List.length_nil, List.cons_append, List.nil_append, List.replicate, decide_eq_true_eq, Bool.not_eq_true', Bool.not_true, Bool.not_false, if_true, if_false, Nat.zero_add, Nat.reduceAdd, Nat.reduceSub, ge_iff_le, true_and, and_true, zip_unzip, Bool.false_xor, Bool.true_xor, Bool.false_eq_true, Bool.true_eq_false, reduceIte, wipeR, dataR_cons, dataR_nil, dataO_d, dataO_none, dataO_ol, dataO_od, oDict, oIsi, tyD, isiB, wSl, wPart, wNoP, oSl, wDisp1, wDGet2, oRemove, atI_0, atI_1, atI_2, wiRev, revItems, oDictP, wForK, wiKeys, kD, oSortX, oPow, oBitAnd, oShl, oNeg, wUn, oInt, oStr, oDivmod, oIs, isD, wChain, wFz, wFzE, frzR, wLSet, wiZip, seqsD, wiVals, wiItems, wOIx, wNo, Option.isSome_some, oMulX, wM1, oSplit, oPart, oStrip1, oRep, oSum, intsD, wRaise, wLI, wLK
, wiR3, wLR, wDisp, wPairs, oReverse, oClear, oInsert, wRevL, wDZ, seqLT, oSortIT, wOFld, wSFld, asOI, setOI, putG, wPar, wiItemsC, wiValsC, wIndexL, wDZO, wLO, wiZip3, wTry1, wgDrop, wIsE, wLRev, wLZ]
    refine ⟨by decide +kernel, fun l ρ => ∃ (n : Int) (cs : List Nat), l = cs.length ∧ 0 ≤ n ∧ cs.Pairwise (· < ·) ∧ (∀ c ∈ cs, c ∈ LET) ∧ ρ = [some (.d (.int n)), some (.d (.int m)), some (.ol ((cs.map one).map .str))], ⟨9, n, LET, rfl, h1, LET_up, fun _ h => h, by rw [← e0]⟩, ?_⟩
    rintro l ρ ⟨n, cs, rfl, hn, hu, hl, rfl⟩
    simp only [w_L_letters_t1, w_L_letters_t2, w_L_letters_b1_t1, w_L_letters_b1, wSeq, wSet, wAsg, wC, wIfS, wB, wOp, oI, oI0, asI, asS, asL, asLT, asT, asB, asA_some, asA_none, asO, asOL, asOD, asKey, asDic, asSq, oLen, oMod, oAdd, oSub, oMul, oDiv, oMax, oMin, oPlus, oEqX, oNeX, eqX_int, eqX_str, eqX_bl, oCmp, oLtX, oLeX, oGtX, oGeX, oIxX, oInX, wCB, wCons, wNil, wVar, wMove, nth, put, startR, wNext, wRet, wRetN, wDrop, wFor, wiR1, wiR2, wiX, itemsOf, wgName, wgTup, wgCons, wgNil, wLend, wLendT, seeR_cons, seeR_nil, seeO_d, seeO_none, seeO_ol, seeO_od, wJoin, wM, oAppend, oPop, oPopAt, wDPut, wDPop, wSortK, wDict0, wTup, wLst, wCall, wAnd, wOr, wNot, wAndV, wOrV, wNotV, wIf, wYes, wLc, wiEnumX, oListX, oTuple, oSort, oSortSet, oAll, oAny, S.fz, S.own, D.flat, txts_map, bools_map, txtKeys_map, List.length_map, List.map_cons, List.map_nil, List.length_cons, List.length_nil, List.cons_append, List.nil_append, List.replicate, decide_eq_true_eq, Bool.not_eq_true', Bool.not_true, Bool.not_false, if_true, if_false, Nat.zero_add, Nat.reduceAdd, Nat.reduceSub, ge_iff_le, true_and, and_true, zip_unzip, Bool.false_xor, Bool.true_xor, Bool.false_eq_true, Bool.true_eq_false, reduceIte, wipeR, dataR_cons, dataR_nil, dataO_d, dataO_none, dataO_ol, dataO_od, oDict, oIsi, tyD, isiB, wSl, wPart, wNoP, oSl, wDisp1, wDGet2, oRemove, atI_0, atI_1, atI_2, wiRev, revItems, oDictP, wForK, wiKeys, kD, oSortX, oPow, oBitAnd, oShl, oNeg, wUn, oInt, oStr, oDivmod, oIs, isD, wChain, wFz, wFzE, frzR, wLSet, wiZip, seqsD, wiVals, wiItems, wOIx, wNo, Option.isSome_some, oMulX, wM1, oSplit, oPart, oStrip1, oRep, oSum, intsD, wRaise, wLI, wLK
, wiR3, wLR, wDisp, wPairs, oReverse, oClear, oInsert, wRevL, wDZ, seqLT, oSortIT, wOFld, wSFld, asOI, setOI, putG, wPar, wiItemsC, wiValsC, wIndexL, wDZO, wLO, wiZip3, wTry1, wgDrop, wIsE, wLRev, wLZ]
    split
    · rename_i c
      have hm : 0 < (cs.length : Int) := by omega
      have r0 := Int.emod_nonneg n (show (cs.length : Int) ≠ 0 by omega)
      have r1 := Int.emod_lt_of_pos n hm
      have l9 : cs.length ≤ 9 := (up_nodup hu).length_le_of_subset (l₂ := LET) hl
      have hj : (n % (cs.length : Int)).toNat < cs.length := by omega
      have e1 : seqIndex? (n % (cs.length : Int)) cs.length = some (n % (cs.length : Int)).toNat := seqIndex_of r0 r1
      refine ⟨hm, ⟨by omega, by omega⟩, ?_⟩
      rw [e1, asA_some, List.getElem?_map, List.getElem?_map, List.getElem?_eq_getElem hj]
      refine ⟨⟨by decide, by decide⟩, _, ?_, n / 3 + 7, cs.eraseIdx (n % (cs.length : Int)).toNat, rfl, ?_, ?_, ?_, ?_⟩
      · rw [List.length_eraseIdx_of_lt hj]; omega
      · have := Int.ediv_nonneg hn (show (0 : Int) ≤ 3 by decide); omega
      · exact hu.sublist (List.eraseIdx_sublist _ _)
      · exact fun c hc => hl c ((List.eraseIdx_sublist _ _).subset hc)
      · rw [erase_map, erase_map]
    · rename_i c
      have e3 : Str.length "" = 0 := by decide +kernel
      have l9 : cs.length ≤ 9 := (up_nodup hu).length_le_of_subset (l₂ := LET) hl
      refine ⟨?_, hq _ (prd_ones hu hl) ?_⟩
      · rw [ones_sum, e3]; omega
      · rw [sg_join0 sg_nil, flat_ones]; omega
  · exact h.elim
def Over (s : Str) (f : List Str) : Prop := ∀ p ∈ f, ∀ c ∈ sg p, c ∈ sg s
end DL
namespace DL
open PySem L2
abbrev Row := List (Nat × Bool)
def rowF (r : Row) : Nat → Bool := fun c => match r.find? fun p => decide (p.1 = c) with
  | some p => p.2
  | none => false
theorem over_added {s : Str} {a b : List Str} (ha : Over s a) (hb : Over s b) : Over s (addedF a b) := fun p hp => by
  have := odds_sub ((srt_perm _).mem_iff.mp hp)
  exact (List.mem_append.mp this).elim (ha p) (hb p)
theorem over_mul {s : Str} {a b : List Str} (ha : Over s a) (hb : Over s b) : Over s (mulF a b) := fun p hp c hc => by
  have h1 := odds_sub ((srt_perm _).mem_iff.mp hp)
  obtain ⟨x, hx, h⟩ := List.mem_flatMap.mp h1
  obtain ⟨y, hy, rfl⟩ := List.mem_map.mp h
  have h2 := ((sg_lets (x ++ y)).2 c).mp hc
  rw [sg_append] at h2
  exact (List.mem_append.mp h2).elim (ha x hx c) (hb y hy c)
theorem over_one {s : Str} : Over s oneF := fun p hp c hc => by
  simp [oneF] at hp; subst hp; rw [sg_nil] at hc; simp at hc
theorem over_opp {s : Str} {a : List Str} (ha : Over s a) : Over s (oppF a) := over_added ha over_one
theorem over_join {s : Str} {a b : List Str} (ha : Over s a) (hb : Over s b) : Over s (joinF a b) := over_added (over_added ha hb) (over_mul ha hb)
theorem tr_congr {s : Nat → Bool} {r : Nat → Bool} {p : Str} (h : ∀ c ∈ sg p, r c = s c) : tr r p = tr s p := by
  unfold tr
  rw [Bool.eq_iff_iff, List.all_eq_true, List.all_eq_true]
  exact ⟨fun z c hc => by rw [← h c hc]; exact z c hc, fun z c hc => by rw [h c hc]; exact z c hc⟩
theorem val_congr {s : Str} {f : List Str} {r r' : Nat → Bool} (ho : Over s f) (h : ∀ c ∈ sg s, r c = r' c) : val r f = val r' f := by
  unfold val
  have : f.countP (tr r) = f.countP (tr r') := by
    apply List.countP_congr
    intro p hp
    rw [tr_congr fun c hc => h c (ho p hp c hc)]
  rw [this]
theorem lead_iff {a b : List Str} (ha : Frm a) (hb : Frm b) : leadF a b = true ↔ ∀ r, val r a = true → val r b = true := by
  unfold leadF
  rw [decide_eq_true_iff]
  constructor
  · intro h r hr
    have := congrArg (val r) h
    rw [val_mul, val_opp, val_nil, hr] at this
    revert this
    cases val r b <;> simp
  · intro h
    refine uniq (frm_mul ha (frm_opp hb)) frm_nil fun r => ?_
    rw [val_mul, val_opp, val_nil]
    have := h r
    revert this
    cases val r a <;> cases val r b <;> simp
end DL
namespace DL
open PySem L2
def OverP (T : Nat → Prop) (f : List Str) : Prop := ∀ p ∈ f, ∀ c ∈ sg p, T c
theorem overP_added {T : Nat → Prop} {a b : List Str} (ha : OverP T a) (hb : OverP T b) : OverP T (addedF a b) := fun p hp => by
  have := odds_sub ((srt_perm _).mem_iff.mp hp)
  exact (List.mem_append.mp this).elim (ha p) (hb p)
theorem overP_mul {T : Nat → Prop} {a b : List Str} (ha : OverP T a) (hb : OverP T b) : OverP T (mulF a b) := fun p hp c hc => by
  have h1 := odds_sub ((srt_perm _).mem_iff.mp hp)
  obtain ⟨x, hx, h⟩ := List.mem_flatMap.mp h1
  obtain ⟨y, hy, rfl⟩ := List.mem_map.mp h
  have h2 := ((sg_lets (x ++ y)).2 c).mp hc
  rw [sg_append] at h2
  exact (List.mem_append.mp h2).elim (ha x hx c) (hb y hy c)
theorem overP_one {T : Nat → Prop} : OverP T oneF := fun p hp c hc => by
  simp [oneF] at hp; subst hp; rw [sg_nil] at hc; simp at hc
theorem overP_nil {T : Nat → Prop} : OverP T [] := fun p hp => by simp at hp
theorem overP_letter {T : Nat → Prop} {c : Nat} (h : T c) : OverP T [one c] := fun p hp d hd => by
  simp at hp; subst hp; rw [sg_one] at hd; simp at hd; subst hd; exact h
theorem frm_letter {c : Nat} (h : c ∈ LET) : Frm [one c] := ⟨by simp, by simp, fun p hp => by
  simp at hp; subst hp
  exact ⟨by rw [sg_one]; simp, fun d hd => by rw [sg_one] at hd; simp at hd; subst hd; exact h⟩⟩
theorem val_letter (r : Nat → Bool) (c : Nat) : val r [one c] = r c := by
  have : tr r (one c) = r c := by simp [tr, sg_one]
  unfold val
  rw [List.countP_cons, this]
  cases r c <;> rfl
def look (m : List (Str × List Str)) (s : Str) : List Str := match m.find? fun q => decide (q.1 = s) with
  | some q => q.2
  | none => [s]
def termF (m : List (Str × List Str)) (p : Str) : List Str := (sg p).foldl (fun t c => mulF t (look m (one c))) oneF
def putF (f : List Str) (m : List (Str × List Str)) : List Str := f.foldl (fun acc p => addedF acc (termF m p)) []
end DL
namespace DL
open PySem L2
end DL
namespace DL
open PySem L2
end DL
namespace DL
open PySem L2
def rowR : List Nat → Nat → Row
  | [], _ => []
  | x :: xs, n => (x, decide (n % 2 = 1)) :: rowR xs (n / 2)
theorem rowR_app (x : Nat) : ∀ (xs : List Nat) (n : Nat), rowR (xs ++ [x]) n = rowR xs n ++ [(x, decide (n / 2 ^ xs.length % 2 = 1))]
  | [], n => by simp [rowR]
  | y :: xs, n => by
    rw [List.cons_append, rowR, rowR, rowR_app x xs, List.cons_append, List.length_cons, Nat.div_div_eq_div_mul, Nat.pow_succ, Nat.mul_comm 2]
def rowN (cs : List Nat) (n : Nat) : Row := (rowR cs.reverse n).reverse
end DL
namespace DL
open PySem L2
def tabL (s : Str) (f : List Str) : List Bool := (List.range (2 ^ (sg s).length)).map fun n => val (rowF (rowN (sg s) n)) f
end DL
namespace DL
open PySem L2
abbrev FM := List (Str × List Str)
def putM (m : FM) (s : Str) (f : List Str) : FM :=
  if (m.any fun q => decide (q.1 = s)) = true then m.map (fun q => if q.1 = s then (q.1, f) else q) else m ++ [(s, f)]
theorem any_keys {m : FM} {s : Str} : (m.any fun q => decide (q.1 = s)) = decide (s ∈ m.map (·.1)) := by
  by_cases h : s ∈ m.map (·.1)
  · rw [decide_eq_true h, List.any_eq_true]
    obtain ⟨q, hq, e⟩ := List.mem_map.mp h
    exact ⟨q, hq, decide_eq_true e⟩
  · rw [decide_eq_false h, List.any_eq_false]
    intro q hq
    simp only [decide_eq_true_eq]
    exact fun e => h (List.mem_map.mpr ⟨q, hq, e⟩)
theorem keys_put {m : FM} {s : Str} {f : List Str} : (putM m s f).map (·.1) = if s ∈ m.map (·.1) then m.map (·.1) else m.map (·.1) ++ [s] := by
  unfold putM
  rw [any_keys]
  by_cases h : s ∈ m.map (·.1)
  · rw [decide_eq_true h, if_pos rfl, if_pos h, List.map_map]
    apply List.map_congr_left
    intro q _
    simp only [Function.comp]
    split <;> rfl
  · rw [decide_eq_false h, if_neg (by decide), if_neg h, List.map_append]; rfl
structure MapOk (m : FM) : Prop where
  nd : (m.map (·.1)).Nodup
  fr : ∀ q ∈ m, Frm q.2
  le : ∀ q ∈ m, ∃ c ∈ LET, q.1 = one c
theorem MapOk.len {m : FM} (h : MapOk m) : m.length ≤ 9 := by
  have := h.nd.length_le_of_subset (l₂ := LET.map one) fun s hs => by
    obtain ⟨q, hq, rfl⟩ := List.mem_map.mp hs
    obtain ⟨c, hc, e⟩ := h.le q hq
    exact List.mem_map.mpr ⟨c, hc, e.symm⟩
  rw [List.length_map] at this
  exact this
theorem MapOk.put {m : FM} {c : Nat} {f : List Str} (h : MapOk m) (hc : c ∈ LET) (hf : Frm f) : MapOk (putM m (one c) f) := by
  have hm : ∀ q ∈ putM m (one c) f, q ∈ m ∨ (q.1 = one c ∧ q.2 = f) := fun q hq => by
    unfold putM at hq
    split at hq
    · obtain ⟨p, hp, rfl⟩ := List.mem_map.mp hq
      split
      · rename_i e; exact .inr ⟨e, rfl⟩
      · exact .inl hp
    · rcases List.mem_append.mp hq with z | z
      · exact .inl z
      · simp at z; subst z; exact .inr ⟨rfl, rfl⟩
  refine ⟨?_, fun q hq => (hm q hq).elim (h.fr q) fun z => z.2 ▸ hf, fun q hq => (hm q hq).elim (h.le q) fun z => ⟨c, hc, z.1⟩⟩
  rw [keys_put]
  split
  · exact h.nd
  · rename_i n
    rw [List.nodup_append]
    exact ⟨h.nd, by simp, fun a ha b hb e => by simp at hb; subst hb; subst e; exact n ha⟩
theorem cutD_map {α β : Type} (f : α → β) (l : List α) (lo hi : Option Int) : cutD (l.map f) lo hi = (cutD l lo hi).map f := by
  unfold cutD
  rw [List.length_map, ← List.map_drop, ← List.map_take]
end DL
namespace DL
open PySem L2
theorem cutD_drop {α : Type} (l : List α) (k : Nat) : cutD l (some (k : Int)) none = l.drop k := by
  unfold cutD
  rw [HT.sIx_nat, HT.sIx_none]
  by_cases h : k ≤ l.length
  · rw [Nat.min_eq_left h, List.take_of_length_le (by simp)]
  · rw [Nat.min_eq_right (by omega)]
    rw [List.drop_of_length_le (Nat.le_refl _), List.drop_of_length_le (by omega)]; simp
theorem cutD_take {α : Type} (l : List α) (k : Nat) : cutD l none (some (k : Int)) = l.take k := by
  unfold cutD
  rw [HT.sIx_nat, HT.sIx_none]
  rw [List.drop_zero, Nat.sub_zero]
  by_cases h : k ≤ l.length
  · rw [Nat.min_eq_left h]
  · rw [Nat.min_eq_right (by omega), List.take_of_length_le (Nat.le_refl _), List.take_of_length_le (by omega)]
theorem sg_cutS (z : Str) (lo hi : Option Int) : sg (cutS z lo hi) = cutD (sg z) lo hi := rfl
def formF : List Nat → List Bool → List Str
  | [], t => if t.headD false = true then oneF else []
  | c :: cs, t => addedF (formF cs (t.take (t.length / 2))) (mulF [one c] (addedF (formF cs (t.take (t.length / 2))) (formF cs (t.drop (t.length / 2)))))
def tabAt : List Nat → List Bool → (Nat → Bool) → Bool
  | [], t, _ => t.headD false
  | c :: cs, t, r => if r c = true then tabAt cs (t.drop (t.length / 2)) r else tabAt cs (t.take (t.length / 2)) r
theorem val_formF (r : Nat → Bool) : ∀ (cs : List Nat) (t : List Bool), val r (formF cs t) = tabAt cs t r
  | [], t => by
    unfold formF tabAt
    cases t.headD false
    · exact val_nil r
    · exact val_one r
  | c :: cs, t => by
    rw [formF, tabAt, val_added, val_mul, val_added, val_letter, val_formF r cs, val_formF r cs]
    cases r c <;> cases tabAt cs (t.take (t.length / 2)) r <;> cases tabAt cs (t.drop (t.length / 2)) r <;> rfl
theorem frm_formF : ∀ {cs : List Nat} {t : List Bool}, (∀ c ∈ cs, c ∈ LET) → Frm (formF cs t)
  | [], t, _ => by
    unfold formF
    split
    · exact frm_one
    · exact frm_nil
  | c :: cs, t, h => by
    have ih : ∀ t, Frm (formF cs t) := fun t => frm_formF fun d hd => h d (List.mem_cons_of_mem _ hd)
    exact frm_added (ih _) (frm_mul (frm_letter (h c List.mem_cons_self)) (frm_added (ih _) (ih _)))
theorem overP_formF : ∀ {cs : List Nat} {t : List Bool}, OverP (fun c => c ∈ cs) (formF cs t)
  | [], t => by
    unfold formF
    split
    · exact overP_one
    · exact overP_nil
  | c :: cs, t => by
    have ih : ∀ t, OverP (fun d => d ∈ c :: cs) (formF cs t) := fun t p hp d hd => List.mem_cons_of_mem _ (overP_formF p hp d hd)
    exact overP_added (ih _) (overP_mul (overP_letter List.mem_cons_self) (overP_added (ih _) (ih _)))
def sps_form_of (n : Nat) : DSp := fun ds P _ => match ds with
  | [.str s, .lst xs] => ∃ tb : List Bool, xs = tb.map .bl ∧ (Prd s ∧ tb.length = 2 ^ (sg s).length ∧ (sg s).length ≤ n) ∧ P (.d (fD (formF (sg s) tb)))
  | _ => False
def spr_form_of : Nat → DSp
  | 0 => fun _ _ _ => False
  | n + 1 => sps_form_of n
abbrev sp_form_of : DSp := spr_form_of 11
abbrev N_form_of : List Str := ["letters", "table", "half", "low", "high"]
def w_form_of_t4 (n : Nat) : WS := (wRet (wCall sp_added (fun _ _ => False) (wCons (wVar 3) (wCons (wCall sp_multiplied (fun _ _ => False) (wCons (wTup (wCons (wOp oIxX (wVar 0) (wC (.int 0))) wNil)) (wCons (wCall sp_added (fun _ _ => False) (wCons (wVar 3) (wCons (wVar 4) wNil))) wNil))) wNil))))
def w_form_of_t3 (n : Nat) : WS := wSeq (wAsg (wCall (spr_form_of n) (fun _ _ => False) (wCons (wSl (wVar 0) (wPart (wC (.int 1))) wNoP) (wCons (wSl (wVar 1) (wPart (wVar 2)) wNoP) wNil))) (wgName 4))
    (w_form_of_t4 n)
def w_form_of_t2 (n : Nat) : WS := wSeq (wAsg (wCall (spr_form_of n) (fun _ _ => False) (wCons (wSl (wVar 0) (wPart (wC (.int 1))) wNoP) (wCons (wSl (wVar 1) wNoP (wPart (wVar 2))) wNil))) (wgName 3))
    (w_form_of_t3 n)
def w_form_of_t1 (n : Nat) : WS := wSeq (wAsg (wOp oDiv (wCB oLen (wCons (wVar 1) wNil)) (wC (.int 2))) (wgName 2))
    (w_form_of_t2 n)
def w_form_of (n : Nat) : WS := wSeq (wIfS (wB (wOp oEqX (wCB oLen (wCons (wVar 0) wNil)) (wC (.int 0)))) (wSeq (wIfS (wB (wOp oIxX (wVar 1) (wC (.int 0)))) (wRet (wTup (wCons (wC (.str "")) wNil))) wNext)
    (wRet (wTup wNil))) wNext)
    (w_form_of_t1 n)
theorem len_form_of {n ds Q px} (h : spr_form_of (n + 1) ds Q px) : ds.length = 2 := by replace h : sps_form_of n ds Q px := h; unfold sps_form_of at h; split at h <;> first | rfl | exact h.elim
theorem rd_form_of {n ds Q px} (h : spr_form_of (n + 1) ds Q px) : w_form_of n ⟨fun _ => Q (.d .non), Q, fun _ => False, fun _ => False⟩ (startR N_form_of ds) := by
  replace h : sps_form_of n ds Q px := h
  unfold sps_form_of at h
  split at h
  · rename_i s xs
    obtain ⟨tb, rfl, ⟨hs, htl, hn⟩, hq⟩ := h
    have hsl := hs.len
    have hpow : 2 ^ (sg s).length ≤ 512 := Nat.pow_le_pow_right (n := 2) (by decide) hsl
    have z1 : s.length ≤ sizeLine := by rw [sg_len, len0]; omega
    unfold w_form_of
    simp only [N_form_of, wSeq, wSet, wAsg, wC, wIfS, wB, wOp, oI, oI0, asI, asS, asL, asLT, asT, asB, asA_some, asA_none, asO, asOL, asOD, asKey, asDic, asSq, oLen, oMod, oAdd, oSub, oMul, oDiv, oMax, oMin, oPlus, oEqX, oNeX, eqX_int, eqX_str, eqX_bl, oCmp, oLtX, oLeX, oGtX, oGeX, oIxX, oInX, wCB, wCons, wNil, wVar, wMove, nth, put, startR, wNext, wRet, wRetN, wDrop, wFor, wiR1, wiR2, wiX, itemsOf, wgName, wgTup, wgCons, wgNil, wLend, wLendT, seeR_cons, seeR_nil, seeO_d, seeO_none, seeO_ol, seeO_od, wJoin, wM, oAppend, oPop, oPopAt, wDPut, wDPop, wSortK, wDict0, wTup, wLst, wCall, wAnd, wOr, wNot, wAndV, wOrV, wNotV, wIf, wYes, wLc, wiEnumX, oListX, oTuple, oSort, oSortSet, oAll, oAny, S.fz, S.own, D.flat, txts_map, bools_map, txtKeys_map, List.length_map, List.map_cons, List.map_nil, List.length_cons, List.length_nil, List.cons_append, List.nil_append, List.replicate, decide_eq_true_eq, Bool.not_eq_true', Bool.not_true, Bool.not_false, if_true, if_false, Nat.zero_add, Nat.reduceAdd, Nat.reduceSub, ge_iff_le, true_and, and_true, zip_unzip, Bool.false_xor, Bool.true_xor, Bool.false_eq_true, Bool.true_eq_false, reduceIte, wipeR, dataR_cons, dataR_nil, dataO_d, dataO_none, dataO_ol, dataO_od, oDict, oIsi, tyD, isiB, wSl, wPart, wNoP, oSl, wDisp1, wDGet2, oRemove, atI_0, atI_1, atI_2, wiRev, revItems, oDictP, wForK, wiKeys, kD, oSortX, oPow, oBitAnd, oShl, oNeg, wUn, oInt, oStr, oDivmod, oIs, isD, wChain, wFz, wFzE, frzR, wLSet, wiZip, seqsD, wiVals, wiItems, wOIx, wNo, Option.isSome_some, oMulX, wM1, oSplit, oPart, oStrip1, oRep, oSum, intsD, wRaise, wLI, wLK
, wiR3, wLR, wDisp, wPairs, oReverse, oClear, oInsert, wRevL, wDZ, seqLT, oSortIT, wOFld, wSFld, asOI, setOI, putG, wPar, wiItemsC, wiValsC, wIndexL, wDZO, wLO, wiZip3, wTry1, wgDrop, wIsE, wLRev, wLZ]
    refine ⟨z1, ?_⟩
    cases hsg : sg s with
    | nil =>
      have e0 : s.length = 0 := by rw [sg_len, hsg]; rfl
      rw [e0]
      rw [hsg] at htl
      obtain ⟨b, rfl⟩ : ∃ b, tb = [b] := List.length_eq_one_iff.mp htl
      rw [hsg] at hq
      cases b with
      | true =>
        simp only [wSeq, wSet, wAsg, wC, wIfS, wB, wOp, oI, oI0, asI, asS, asL, asLT, asT, asB, asA_some, asA_none, asO, asOL, asOD, asKey, asDic, asSq, oLen, oMod, oAdd, oSub, oMul, oDiv, oMax, oMin, oPlus, oEqX, oNeX, eqX_int, eqX_str, eqX_bl, oCmp, oLtX, oLeX, oGtX, oGeX, oIxX, oInX, wCB, wCons, wNil, wVar, wMove, nth, put, startR, wNext, wRet, wRetN, wDrop, wFor, wiR1, wiR2, wiX, itemsOf, wgName, wgTup, wgCons, wgNil, wLend, wLendT, seeR_cons, seeR_nil, seeO_d, seeO_none, seeO_ol, seeO_od, wJoin, wM, oAppend, oPop, oPopAt, wDPut, wDPop, wSortK, wDict0, wTup, wLst, wCall, wAnd, wOr, wNot, wAndV, wOrV, wNotV, wIf, wYes, wLc, wiEnumX, oListX, oTuple, oSort, oSortSet, oAll, oAny, S.fz, S.own, D.flat, txts_map, bools_map, txtKeys_map, List.length_map, List.map_cons, List.map_nil, List.length_cons, List.length_nil, List.cons_append, List.nil_append, List.replicate, decide_eq_true_eq, Bool.not_eq_true', Bool.not_true, Bool.not_false, if_true, if_false, Nat.zero_add, Nat.reduceAdd, Nat.reduceSub, ge_iff_le, true_and, and_true, zip_unzip, Bool.false_xor, Bool.true_xor, Bool.false_eq_true, Bool.true_eq_false, reduceIte, wipeR, dataR_cons, dataR_nil, dataO_d, dataO_none, dataO_ol, dataO_od, oDict, oIsi, tyD, isiB, wSl, wPart, wNoP, oSl, wDisp1, wDGet2, oRemove, atI_0, atI_1, atI_2, wiRev, revItems, oDictP, wForK, wiKeys, kD, oSortX, oPow, oBitAnd, oShl, oNeg, wUn, oInt, oStr, oDivmod, oIs, isD, wChain, wFz, wFzE, frzR, wLSet, wiZip, seqsD, wiVals, wiItems, wOIx, wNo, Option.isSome_some, oMulX, wM1, oSplit, oPart, oStrip1, oRep, oSum, intsD, wRaise, wLI, wLK
, wiR3, wLR, wDisp, wPairs, oReverse, oClear, oInsert, wRevL, wDZ, seqLT, oSortIT, wOFld, wSFld, asOI, setOI, putG, wPar, wiItemsC, wiValsC, wIndexL, wDZO, wLO, wiZip3, wTry1, wgDrop, wIsE, wLRev, wLZ, Int.natCast_zero, decide_true]
        exact ⟨by decide, hq⟩
      | false =>
        simp only [wSeq, wSet, wAsg, wC, wIfS, wB, wOp, oI, oI0, asI, asS, asL, asLT, asT, asB, asA_some, asA_none, asO, asOL, asOD, asKey, asDic, asSq, oLen, oMod, oAdd, oSub, oMul, oDiv, oMax, oMin, oPlus, oEqX, oNeX, eqX_int, eqX_str, eqX_bl, oCmp, oLtX, oLeX, oGtX, oGeX, oIxX, oInX, wCB, wCons, wNil, wVar, wMove, nth, put, startR, wNext, wRet, wRetN, wDrop, wFor, wiR1, wiR2, wiX, itemsOf, wgName, wgTup, wgCons, wgNil, wLend, wLendT, seeR_cons, seeR_nil, seeO_d, seeO_none, seeO_ol, seeO_od, wJoin, wM, oAppend, oPop, oPopAt, wDPut, wDPop, wSortK, wDict0, wTup, wLst, wCall, wAnd, wOr, wNot, wAndV, wOrV, wNotV, wIf, wYes, wLc, wiEnumX, oListX, oTuple, oSort, oSortSet, oAll, oAny, S.fz, S.own, D.flat, txts_map, bools_map, txtKeys_map, List.length_map, List.map_cons, List.map_nil, List.length_cons, List.length_nil, List.cons_append, List.nil_append, List.replicate, decide_eq_true_eq, Bool.not_eq_true', Bool.not_true, Bool.not_false, if_true, if_false, Nat.zero_add, Nat.reduceAdd, Nat.reduceSub, ge_iff_le, true_and, and_true, zip_unzip, Bool.false_xor, Bool.true_xor, Bool.false_eq_true, Bool.true_eq_false, reduceIte, wipeR, dataR_cons, dataR_nil, dataO_d, dataO_none, dataO_ol, dataO_od, oDict, oIsi, tyD, isiB, wSl, wPart, wNoP, oSl, wDisp1, wDGet2, oRemove, atI_0, atI_1, atI_2, wiRev, revItems, oDictP, wForK, wiKeys, kD, oSortX, oPow, oBitAnd, oShl, oNeg, wUn, oInt, oStr, oDivmod, oIs, isD, wChain, wFz, wFzE, frzR, wLSet, wiZip, seqsD, wiVals, wiItems, wOIx, wNo, Option.isSome_some, oMulX, wM1, oSplit, oPart, oStrip1, oRep, oSum, intsD, wRaise, wLI, wLK
, wiR3, wLR, wDisp, wPairs, oReverse, oClear, oInsert, wRevL, wDZ, seqLT, oSortIT, wOFld, wSFld, asOI, setOI, putG, wPar, wiItemsC, wiValsC, wIndexL, wDZO, wLO, wiZip3, wTry1, wgDrop, wIsE, wLRev, wLZ, Int.natCast_zero, decide_true]
        exact ⟨by decide, hq⟩
    | cons c cs =>
      have e0 : s.length = cs.length + 1 := by rw [sg_len, hsg]; rfl
      rw [hsg] at htl hn hq
      simp only [List.length_cons] at htl hn
      have hd : decide ((s.length : Int) = 0) = false := decide_eq_false (by omega)
      have h0 : ¬ ((s.length : Int) = 0) := by omega
      simp only [h0, hd, if_false, wSeq, wSet, wAsg, wC, wIfS, wB, wOp, oI, oI0, asI, asS, asL, asLT, asT, asB, asA_some, asA_none, asO, asOL, asOD, asKey, asDic, asSq, oLen, oMod, oAdd, oSub, oMul, oDiv, oMax, oMin, oPlus, oEqX, oNeX, eqX_int, eqX_str, eqX_bl, oCmp, oLtX, oLeX, oGtX, oGeX, oIxX, oInX, wCB, wCons, wNil, wVar, wMove, nth, put, startR, wNext, wRet, wRetN, wDrop, wFor, wiR1, wiR2, wiX, itemsOf, wgName, wgTup, wgCons, wgNil, wLend, wLendT, seeR_cons, seeR_nil, seeO_d, seeO_none, seeO_ol, seeO_od, wJoin, wM, oAppend, oPop, oPopAt, wDPut, wDPop, wSortK, wDict0, wTup, wLst, wCall, wAnd, wOr, wNot, wAndV, wOrV, wNotV, wIf, wYes, wLc, wiEnumX, oListX, oTuple, oSort, oSortSet, oAll, oAny, S.fz, S.own, D.flat, txts_map, bools_map, txtKeys_map, List.length_map, List.map_cons, List.map_nil, List.length_cons, List.length_nil, List.cons_append, List.nil_append, List.replicate, decide_eq_true_eq, Bool.not_eq_true', Bool.not_true, Bool.not_false, if_true, if_false, Nat.zero_add, Nat.reduceAdd, Nat.reduceSub, ge_iff_le, true_and, and_true, zip_unzip, Bool.false_xor, Bool.true_xor, Bool.false_eq_true, Bool.true_eq_false, reduceIte, wipeR, dataR_cons, dataR_nil, dataO_d, dataO_none, dataO_ol, dataO_od, oDict, oIsi, tyD, isiB, wSl, wPart, wNoP, oSl, wDisp1, wDGet2, oRemove, atI_0, atI_1, atI_2, wiRev, revItems, oDictP, wForK, wiKeys, kD, oSortX, oPow, oBitAnd, oShl, oNeg, wUn, oInt, oStr, oDivmod, oIs, isD, wChain, wFz, wFzE, frzR, wLSet, wiZip, seqsD, wiVals, wiItems, wOIx, wNo, Option.isSome_some, oMulX, wM1, oSplit, oPart, oStrip1, oRep, oSum, intsD, wRaise, wLI, wLK
, wiR3, wLR, wDisp, wPairs, oReverse, oClear, oInsert, wRevL, wDZ, seqLT, oSortIT, wOFld, wSFld, asOI, setOI, putG, wPar, wiItemsC, wiValsC, wIndexL, wDZO, wLO, wiZip3, wTry1, wgDrop, wIsE, wLRev, wLZ]
      cases n with
      | zero => exact absurd hn (by omega)
      | succ n =>
        have eh : (tb.length : Int) / 2 = ((tb.length / 2 : Nat) : Int) := by omega
        have e1 : (1 : Int) = ((1 : Nat) : Int) := rfl
        have hhalf : tb.length / 2 = 2 ^ cs.length := by rw [htl, Nat.pow_succ]; omega
        have hcut : sg (cutS s (some 1) none) = cs := by rw [sg_cutS, e1, cutD_drop, hsg]; rfl
        have hps : Prd (cutS s (some 1) none) := ⟨by
          have := hs.up; rw [hsg] at this; rw [hcut]; exact (List.pairwise_cons.mp this).2, fun d hd => hs.le d (by rw [hsg]; rw [hcut] at hd; exact List.mem_cons_of_mem _ hd)⟩
        have hc : c ∈ LET := hs.le c (by rw [hsg]; exact List.mem_cons_self)
        have hcs : ∀ d ∈ cs, d ∈ LET := fun d hd => hs.le d (by rw [hsg]; exact List.mem_cons_of_mem _ hd)
        simp only [w_form_of_t1, w_form_of_t2, w_form_of_t3, w_form_of_t4, wSeq, wSet, wAsg, wC, wIfS, wB, wOp, oI, oI0, asI, asS, asL, asLT, asT, asB, asA_some, asA_none, asO, asOL, asOD, asKey, asDic, asSq, oLen, oMod, oAdd, oSub, oMul, oDiv, oMax, oMin, oPlus, oEqX, oNeX, eqX_int, eqX_str, eqX_bl, oCmp, oLtX, oLeX, oGtX, oGeX, oIxX, oInX, wCB, wCons, wNil, wVar, wMove, nth, put, startR, wNext, wRet, wRetN, wDrop, wFor, wiR1, wiR2, wiX, itemsOf, wgName, wgTup, wgCons, wgNil, wLend, wLendT, seeR_cons, seeR_nil, seeO_d, seeO_none, seeO_ol, seeO_od, wJoin, wM, oAppend, oPop, oPopAt, wDPut, wDPop, wSortK, wDict0, wTup, wLst, wCall, wAnd, wOr, wNot, wAndV, wOrV, wNotV, wIf, wYes, wLc, wiEnumX, oListX, oTuple, oSort, oSortSet, oAll, oAny, S.fz, S.own, D.flat, txts_map, bools_map, txtKeys_map, List.length_map, List.map_cons, List.map_nil, List.length_cons, List.length_nil, List.cons_append, List.nil_append, List.replicate, decide_eq_true_eq, Bool.not_eq_true', Bool.not_true, Bool.not_false, if_true, if_false, Nat.zero_add, Nat.reduceAdd, Nat.reduceSub, ge_iff_le, true_and, and_true, zip_unzip, Bool.false_xor, Bool.true_xor, Bool.false_eq_true, Bool.true_eq_false, reduceIte, wipeR, dataR_cons, dataR_nil, dataO_d, dataO_none, dataO_ol, dataO_od, oDict, oIsi, tyD, isiB, wSl, wPart, wNoP, oSl, wDisp1, wDGet2, oRemove, atI_0, atI_1, atI_2, wiRev, revItems, oDictP, wForK, wiKeys, kD, oSortX, oPow, oBitAnd, oShl, oNeg, wUn, oInt, oStr, oDivmod, oIs, isD, wChain, wFz, wFzE, frzR, wLSet, wiZip, seqsD, wiVals, wiItems, wOIx, wNo, Option.isSome_some, oMulX, wM1, oSplit, oPart, oStrip1, oRep, oSum, intsD, wRaise, wLI, wLK
, wiR3, wLR, wDisp, wPairs, oReverse, oClear, oInsert, wRevL, wDZ, seqLT, oSortIT, wOFld, wSFld, asOI, setOI, putG, wPar, wiItemsC, wiValsC, wIndexL, wDZO, wLO, wiZip3, wTry1, wgDrop, wIsE, wLRev, wLZ, spr_form_of, sps_form_of]
        refine ⟨⟨by decide, by decide⟩, z1, ?_⟩
        rw [eh, cutD_map, cutD_map, cutD_take, cutD_drop]
        refine ⟨tb.take (tb.length / 2), rfl, ⟨hps, by rw [hcut, List.length_take]; omega, by rw [hcut]; omega⟩, z1, ?_⟩
        refine ⟨tb.drop (tb.length / 2), rfl, ⟨hps, by rw [hcut, List.length_drop]; omega, by rw [hcut]; omega⟩, ?_⟩
        have hat : atI s.cps.toList 0 = some c := by
          have : s.cps.toList = c :: cs := hsg
          rw [this]; exact atI_0
        rw [hcut]
        simp only [hat, asA_some, sp_multiplied, sp_added, asF_fD]
        have low := frm_formF (t := tb.take (tb.length / 2)) hcs
        have high := frm_formF (t := tb.drop (tb.length / 2)) hcs
        have ll := low.len
        have lh := high.len
        have e9 : D.tup [D.str (⟨#[c]⟩ : Str)] = fD [one c] := rfl
        rw [e9]
        simp only [asF_fD]
        have lm := (frm_mul (frm_letter hc) (frm_added low high)).len
        exact ⟨z1, by decide, ⟨by omega, by omega⟩, ⟨frm_letter hc, frm_added low high⟩, ⟨by omega, by omega⟩, hq⟩
  · exact h.elim
end DL
namespace DL
open PySem L2
theorem rowR_mod : ∀ (xs : List Nat) (n m : Nat), rowR xs (n + 2 ^ xs.length * m) = rowR xs n
  | [], _, _ => rfl
  | x :: xs, n, m => by
    rw [rowR, rowR, List.length_cons, Nat.pow_succ]
    have e1 : n + 2 ^ xs.length * 2 * m = n + 2 * (2 ^ xs.length * m) := by rw [Nat.mul_comm (2 ^ xs.length) 2, Nat.mul_assoc]
    rw [e1]
    have e2 : (n + 2 * (2 ^ xs.length * m)) % 2 = n % 2 := by omega
    have e3 : (n + 2 * (2 ^ xs.length * m)) / 2 = n / 2 + 2 ^ xs.length * m := by omega
    rw [e2, e3, rowR_mod xs]
theorem rowN_cons (c : Nat) (cs : List Nat) (n : Nat) : rowN (c :: cs) n = (c, decide (n / 2 ^ cs.length % 2 = 1)) :: rowN cs n := by
  unfold rowN
  rw [List.reverse_cons, rowR_app, List.reverse_append, List.length_reverse]; rfl
theorem rowF_cons (c : Nat) (b : Bool) (r : Row) (d : Nat) : rowF ((c, b) :: r) d = if d = c then b else rowF r d := by
  unfold rowF
  rw [List.find?_cons]
  by_cases e : d = c
  · subst e; simp
  · have : ¬ c = d := fun z => e z.symm
    simp only [decide_eq_false this, if_neg e]
theorem tabAt_congr : ∀ {cs : List Nat} {t : List Bool} {r r' : Nat → Bool}, (∀ c ∈ cs, r c = r' c) → tabAt cs t r = tabAt cs t r'
  | [], _, _, _, _ => rfl
  | c :: cs, t, r, r', h => by
    rw [tabAt, tabAt, h c List.mem_cons_self, tabAt_congr fun d hd => h d (List.mem_cons_of_mem _ hd), tabAt_congr (t := t.take _) fun d hd => h d (List.mem_cons_of_mem _ hd)]
theorem range_add' (h : Nat) : List.range (h + h) = List.range h ++ (List.range h).map (· + h) := by
  rw [List.range_add]
  congr 1
  apply List.map_congr_left
  intro i _
  exact Nat.add_comm _ _
theorem tab_rows : ∀ {cs : List Nat} {t : List Bool}, cs.Nodup → t.length = 2 ^ cs.length → (List.range (2 ^ cs.length)).map (fun k => tabAt cs t (rowF (rowN cs k))) = t
  | [], t, _, hl => by
    obtain ⟨b, rfl⟩ : ∃ b, t = [b] := List.length_eq_one_iff.mp hl
    rfl
  | c :: cs, t, hn, hl => by
    rw [List.nodup_cons] at hn
    rw [List.length_cons, Nat.pow_succ] at hl
    have hh : t.length / 2 = 2 ^ cs.length := by omega
    have e2 : 2 ^ (c :: cs).length = 2 ^ cs.length + 2 ^ cs.length := by rw [List.length_cons, Nat.pow_succ]; omega
    have hpos : 0 < 2 ^ cs.length := Nat.pow_pos (by decide)
    have h1 := tab_rows (cs := cs) (t := t.take (t.length / 2)) hn.2 (by rw [List.length_take]; omega)
    have h2 := tab_rows (cs := cs) (t := t.drop (t.length / 2)) hn.2 (by rw [List.length_drop]; omega)
    rw [e2, range_add', List.map_append, List.map_map]
    have g1 : (List.range (2 ^ cs.length)).map (fun k => tabAt (c :: cs) t (rowF (rowN (c :: cs) k))) = t.take (t.length / 2) := by
      refine Eq.trans (List.map_congr_left fun k hk => ?_) h1
      have hk' := List.mem_range.mp hk
      rw [tabAt, rowN_cons, rowF_cons, if_pos rfl]
      have : decide (k / 2 ^ cs.length % 2 = 1) = false := by rw [Nat.div_eq_of_lt hk']; rfl
      rw [this, if_neg Bool.false_ne_true]
      exact tabAt_congr fun d hd => by rw [rowF_cons, if_neg (show ¬ d = c from fun e => hn.1 (e ▸ hd))]
    have g2 : (List.range (2 ^ cs.length)).map ((fun k => tabAt (c :: cs) t (rowF (rowN (c :: cs) k))) ∘ (· + 2 ^ cs.length)) = t.drop (t.length / 2) := by
      refine Eq.trans (List.map_congr_left fun k hk => ?_) h2
      have hk' := List.mem_range.mp hk
      show tabAt (c :: cs) t (rowF (rowN (c :: cs) (k + 2 ^ cs.length))) = _
      rw [tabAt, rowN_cons, rowF_cons, if_pos rfl]
      have : decide ((k + 2 ^ cs.length) / 2 ^ cs.length % 2 = 1) = true := by rw [Nat.add_div_right _ hpos, Nat.div_eq_of_lt hk']; rfl
      rw [this, if_pos rfl]
      have e5 : rowN cs (k + 2 ^ cs.length) = rowN cs k := by
        unfold rowN
        have := rowR_mod cs.reverse k 1
        rw [Nat.mul_one, List.length_reverse] at this
        rw [this]
      rw [e5]
      exact tabAt_congr fun d hd => by rw [rowF_cons, if_neg (show ¬ d = c from fun e => hn.1 (e ▸ hd))]
    rw [g1, g2, List.take_append_drop]
theorem rowN_cover : ∀ {cs : List Nat} (r : Nat → Bool), cs.Nodup → ∃ k, k < 2 ^ cs.length ∧ ∀ c ∈ cs, rowF (rowN cs k) c = r c
  | [], r, _ => ⟨0, by decide, by simp⟩
  | c :: cs, r, hn => by
    rw [List.nodup_cons] at hn
    obtain ⟨k, hk, h⟩ := rowN_cover (cs := cs) r hn.2
    have hpos : 0 < 2 ^ cs.length := Nat.pow_pos (by decide)
    have e2 : 2 ^ (c :: cs).length = 2 ^ cs.length + 2 ^ cs.length := by rw [List.length_cons, Nat.pow_succ]; omega
    cases hb : r c with
    | false =>
      refine ⟨k, by omega, fun d hd => ?_⟩
      rw [rowN_cons, rowF_cons]
      by_cases e : d = c
      · rw [if_pos e, e, hb, Nat.div_eq_of_lt hk]; rfl
      · rw [if_neg e]; exact h d ((List.mem_cons.mp hd).resolve_left e)
    | true =>
      refine ⟨k + 2 ^ cs.length, by omega, fun d hd => ?_⟩
      have e5 : rowN cs (k + 2 ^ cs.length) = rowN cs k := by
        unfold rowN
        have := rowR_mod cs.reverse k 1
        rw [Nat.mul_one, List.length_reverse] at this
        rw [this]
      rw [rowN_cons, rowF_cons]
      by_cases e : d = c
      · rw [if_pos e, e, hb, Nat.add_div_right _ hpos, Nat.div_eq_of_lt hk]; rfl
      · rw [if_neg e, e5]; exact h d ((List.mem_cons.mp hd).resolve_left e)
theorem tabL_len (s : Str) (f : List Str) : (tabL s f).length = 2 ^ (sg s).length := by unfold tabL; rw [List.length_map, List.length_range]
theorem tabL_form {s : Str} {t : List Bool} (hs : Prd s) (hl : t.length = 2 ^ (sg s).length) : tabL s (formF (sg s) t) = t := by
  unfold tabL
  refine Eq.trans (List.map_congr_left fun k _ => ?_) (tab_rows (up_nodup hs.up) hl)
  exact val_formF _ _ _
theorem tabAt_tabL {s : Str} {f : List Str} (hs : Prd s) (ho : Over s f) (r : Nat → Bool) : tabAt (sg s) (tabL s f) r = val r f := by
  obtain ⟨k, hk, h⟩ := rowN_cover (cs := sg s) r (up_nodup hs.up)
  have e := tab_rows (up_nodup hs.up) (tabL_len s f)
  have e1 : ∀ k, k < 2 ^ (sg s).length → tabAt (sg s) (tabL s f) (rowF (rowN (sg s) k)) = val (rowF (rowN (sg s) k)) f := fun k hk => by
    have := congrArg (fun l => l[k]?) e
    have e3 : (tabL s f)[k]? = some (val (rowF (rowN (sg s) k)) f) := by unfold tabL; rw [List.getElem?_map, List.getElem?_range hk]; rfl
    rw [e3] at this
    simp only [List.getElem?_map, List.getElem?_range hk] at this
    exact Option.some.inj this
  rw [← tabAt_congr (r := rowF (rowN (sg s) k)) h, e1 k hk]
  exact val_congr ho h
theorem formF_tabL {s : Str} {f : List Str} (hs : Prd s) (hf : Frm f) (ho : Over s f) : formF (sg s) (tabL s f) = f :=
  uniq (frm_formF hs.le) hf fun r => by rw [val_formF, tabAt_tabL hs ho]
end DL
set_option maxHeartbeats 2000000
namespace DL
open PySem L2
theorem mono_pr {a b : Nat} {n : Nat} : MonoG (wgTup n (wgCons (wgName a) (wgCons (wgName b) wgNil))) := mono_tup (monos_cons mono_name (monos_cons mono_name monos_nil))
def within (a b : List Bool) : Bool := (a.zip b).all fun q => q.2 || !q.1
theorem zipD_bls (a b : List Bool) : zipD (a.map D.bl) (b.map D.bl) = (a.zip b).map fun q => .tup [.bl q.1, .bl q.2] := by
  unfold zipD
  rw [List.zip_map, List.map_map]; rfl
def sp_L_within_ca5 : DSp := fun ds P _ => match ds with
  | [.lst xs, .lst ys] => ∃ a b : List Bool, xs = a.map .bl ∧ ys = b.map .bl ∧ a.length ≤ 1000 ∧ P (.d (.bl (within a b)))
  | _ => False
abbrev N_L_within_ca5 : List Str := ["_law_one", "_law_other", "_law_here", "_law_there"]
def w_L_within_ca5 : WS := (wRet (wCB oAll (wCons (wLc (wiZip (wCons (wVar 0) (wCons (wVar 1) wNil))) (wgTup 2 (wgCons (wgName 2) (wgCons (wgName 3) wgNil))) wYes (wOrV (wVar 3) (wNotV (wVar 2))) [2, 3]) wNil)))
theorem len_L_within_ca5 {ds Q px} (h : sp_L_within_ca5 ds Q px) : ds.length = 2 := by unfold sp_L_within_ca5 at h; split at h <;> first | rfl | exact h.elim
theorem rd_L_within_ca5 {ds Q px} (h : sp_L_within_ca5 ds Q px) : w_L_within_ca5 ⟨fun _ => Q (.d .non), Q, fun _ => False, fun _ => False⟩ (startR N_L_within_ca5 ds) := by
  unfold sp_L_within_ca5 at h
  split at h
  · obtain ⟨a, b, rfl, rfl, ha, hq⟩ := h
    unfold w_L_within_ca5
    simp only [N_L_within_ca5, wSeq, wSet, wAsg, wC, wIfS, wB, wOp, oI, oI0, asI, asS, asL, asLT, asT, asB, asA_some, asA_none, asO, asOL, asOD, asKey, asDic, asSq, oLen, oMod, oAdd, oSub, oMul, oDiv, oMax, oMin, oPlus, oEqX, oNeX, eqX_int, eqX_str, eqX_bl, oCmp, oLtX, oLeX, oGtX, oGeX, oIxX, oInX, wCB, wCons, wNil, wVar, wMove, nth, put, startR, wNext, wRet, wRetN, wDrop, wFor, wiR1, wiR2, wiX, itemsOf, wgName, wgTup, wgCons, wgNil, wLend, wLendT, seeR_cons, seeR_nil, seeO_d, seeO_none, seeO_ol, seeO_od, wJoin, wM, oAppend, oPop, oPopAt, wDPut, wDPop, wSortK, wDict0, wTup, wLst, wCall, wAnd, wOr, wNot, wAndV, wOrV, wNotV, wIf, wYes, wLc, wiEnumX, oListX, oTuple, oSort, oSortSet, oAll, oAny, S.fz, S.own, D.flat, txts_map, bools_map, txtKeys_map, List.length_map, List.map_cons, List.map_nil, List.length_cons, List.length_nil, List.cons_append, List.nil_append, List.replicate, decide_eq_true_eq, Bool.not_eq_true', Bool.not_true, Bool.not_false, if_true, if_false, Nat.zero_add, Nat.reduceAdd, Nat.reduceSub, ge_iff_le, true_and, and_true, zip_unzip, Bool.false_xor, Bool.true_xor, Bool.false_eq_true, Bool.true_eq_false, reduceIte, wipeR, dataR_cons, dataR_nil, dataO_d, dataO_none, dataO_ol, dataO_od, oDict, oIsi, tyD, isiB, wSl, wPart, wNoP, oSl, wDisp1, wDGet2, oRemove, atI_0, atI_1, atI_2, wiRev, revItems, oDictP, wForK, wiKeys, kD, oSortX, oPow, oBitAnd, oShl, oNeg, wUn, oInt, oStr, oDivmod, oIs, isD, wChain, wFz, wFzE, frzR, wLSet, wiZip, seqsD, wiVals, wiItems, wOIx, wNo, Option.isSome_some, oMulX, wM1, oSplit, oPart, oStrip1, oRep, oSum, intsD, wRaise, wLI, wLK
, wiR3, wLR, wDisp, wPairs, oReverse, oClear, oInsert, wRevL, wDZ, seqLT, oSortIT, wOFld, wSFld, asOI, setOI, putG, wPar, wiItemsC, wiValsC, wIndexL, wDZO, wLO, wiZip3, wTry1, wgDrop, wIsE, wLRev, wLZ]
    rw [zipD_bls]
    have hz : (a.zip b).length ≤ 1000 := by rw [List.length_zip]; omega
    refine ⟨by rw [List.length_map, len0]; omega, ?_⟩
    refine compD_map mono_pr (fun q : Bool × Bool => some (.bl (q.2 || !q.1))) (a.zip b) _ (fun q hq Q' hQ => ?_) ?_
    · obtain ⟨x, y⟩ := q
      cases x <;> cases y <;> (simp only [wSeq, wSet, wAsg, wC, wIfS, wB, wOp, oI, oI0, asI, asS, asL, asLT, asT, asB, asA_some, asA_none, asO, asOL, asOD, asKey, asDic, asSq, oLen, oMod, oAdd, oSub, oMul, oDiv, oMax, oMin, oPlus, oEqX, oNeX, eqX_int, eqX_str, eqX_bl, oCmp, oLtX, oLeX, oGtX, oGeX, oIxX, oInX, wCB, wCons, wNil, wVar, wMove, nth, put, startR, wNext, wRet, wRetN, wDrop, wFor, wiR1, wiR2, wiX, itemsOf, wgName, wgTup, wgCons, wgNil, wLend, wLendT, seeR_cons, seeR_nil, seeO_d, seeO_none, seeO_ol, seeO_od, wJoin, wM, oAppend, oPop, oPopAt, wDPut, wDPop, wSortK, wDict0, wTup, wLst, wCall, wAnd, wOr, wNot, wAndV, wOrV, wNotV, wIf, wYes, wLc, wiEnumX, oListX, oTuple, oSort, oSortSet, oAll, oAny, S.fz, S.own, D.flat, txts_map, bools_map, txtKeys_map, List.length_map, List.map_cons, List.map_nil, List.length_cons, List.length_nil, List.cons_append, List.nil_append, List.replicate, decide_eq_true_eq, Bool.not_eq_true', Bool.not_true, Bool.not_false, if_true, if_false, Nat.zero_add, Nat.reduceAdd, Nat.reduceSub, ge_iff_le, true_and, and_true, zip_unzip, Bool.false_xor, Bool.true_xor, Bool.false_eq_true, Bool.true_eq_false, reduceIte, wipeR, dataR_cons, dataR_nil, dataO_d, dataO_none, dataO_ol, dataO_od, oDict, oIsi, tyD, isiB, wSl, wPart, wNoP, oSl, wDisp1, wDGet2, oRemove, atI_0, atI_1, atI_2, wiRev, revItems, oDictP, wForK, wiKeys, kD, oSortX, oPow, oBitAnd, oShl, oNeg, wUn, oInt, oStr, oDivmod, oIs, isD, wChain, wFz, wFzE, frzR, wLSet, wiZip, seqsD, wiVals, wiItems, wOIx, wNo, Option.isSome_some, oMulX, wM1, oSplit, oPart, oStrip1, oRep, oSum, intsD, wRaise, wLI, wLK
, wiR3, wLR, wDisp, wPairs, oReverse, oClear, oInsert, wRevL, wDZ, seqLT, oSortIT, wOFld, wSFld, asOI, setOI, putG, wPar, wiItemsC, wiValsC, wIndexL, wDZO, wLO, wiZip3, wTry1, wgDrop, wIsE, wLRev, wLZ]; exact hQ)
    · have e : (a.zip b).filterMap (fun q : Bool × Bool => some (D.bl (q.2 || !q.1))) = ((a.zip b).map fun q => q.2 || !q.1).map .bl := by
        rw [List.map_map]; exact congrFun List.filterMap_eq_map' _
      rw [e, bools_map, asA_some]
      have e2 : ((a.zip b).map fun q => q.2 || !q.1).all id = within a b := by rw [List.all_map]; rfl
      rw [e2]
      exact hq
  · exact h.elim
theorem zip_self {α β γ : Type} (f : α → β) (g : α → γ) (l : List α) : (l.map f).zip (l.map g) = l.map fun a => (f a, g a) := by
  induction l with
  | nil => rfl
  | cons a l ih => rw [List.map_cons, List.map_cons, List.zip_cons_cons, ih, List.map_cons]
theorem tab_join (s : Str) (a b : List Str) : tabL s (joinF a b) = ((tabL s a).zip (tabL s b)).map fun q => q.1 || q.2 := by
  unfold tabL; rw [zip_self, List.map_map]; exact List.map_congr_left fun n _ => val_join _ a b
theorem tab_mul (s : Str) (a b : List Str) : tabL s (mulF a b) = ((tabL s a).zip (tabL s b)).map fun q => q.1 && q.2 := by
  unfold tabL; rw [zip_self, List.map_map]; exact List.map_congr_left fun n _ => val_mul _ a b
theorem tab_opp (s : Str) (a : List Str) : tabL s (oppF a) = (tabL s a).map fun q => !q := by
  unfold tabL; rw [List.map_map]; exact List.map_congr_left fun n _ => val_opp _ a
section
variable {s : Str} {t u : List Bool}
theorem form_join (hs : Prd s) (ht : t.length = 2 ^ (sg s).length) (hu : u.length = 2 ^ (sg s).length) :
    joinF (formF (sg s) t) (formF (sg s) u) = formF (sg s) ((t.zip u).map fun q => q.1 || q.2) := by
  rw [← formF_tabL hs (frm_join (frm_formF hs.le) (frm_formF hs.le)) (over_join overP_formF overP_formF), tab_join, tabL_form hs ht, tabL_form hs hu]
theorem form_mul (hs : Prd s) (ht : t.length = 2 ^ (sg s).length) (hu : u.length = 2 ^ (sg s).length) :
    mulF (formF (sg s) t) (formF (sg s) u) = formF (sg s) ((t.zip u).map fun q => q.1 && q.2) := by
  rw [← formF_tabL hs (frm_mul (frm_formF hs.le) (frm_formF hs.le)) (over_mul overP_formF overP_formF), tab_mul, tabL_form hs ht, tabL_form hs hu]
theorem form_opp (hs : Prd s) (ht : t.length = 2 ^ (sg s).length) : oppF (formF (sg s) t) = formF (sg s) (t.map fun q => !q) := by
  rw [← formF_tabL hs (frm_opp (frm_formF hs.le)) (over_opp overP_formF), tab_opp, tabL_form hs ht]
theorem within_iff {t u : List Bool} (h : t.length = u.length) : within t u = true ↔ ∀ k : Nat, t[k]? = some true → u[k]? = some true := by
  unfold within
  rw [List.all_eq_true]
  constructor
  · intro z k hk
    have hl : k < u.length := by have := (List.getElem?_eq_some_iff.mp hk).1; omega
    have hm : (true, u[k]) ∈ t.zip u := List.mem_iff_getElem?.mpr ⟨k, (List.getElem?_zip_eq_some (z := (true, u[k]))).mpr ⟨hk, List.getElem?_eq_getElem hl⟩⟩
    have := z _ hm
    simp at this
    rw [List.getElem?_eq_getElem hl, this]
  · intro z q hq
    obtain ⟨k, hk⟩ := List.mem_iff_getElem?.mp hq
    obtain ⟨h1, h2⟩ := (List.getElem?_zip_eq_some (z := q)).mp hk
    cases e : q.1 with
    | false => simp
    | true =>
      rw [e] at h1
      have := z k h1
      rw [h2] at this
      simp [Option.some.inj this]
theorem within_both {t u : List Bool} (h : t.length = u.length) : (within t u && within u t) = decide (t = u) := by
  rw [Bool.eq_iff_iff, Bool.and_eq_true, decide_eq_true_iff, within_iff h, within_iff h.symm]
  constructor
  · rintro ⟨a, b⟩
    refine List.ext_getElem? fun k => ?_
    by_cases hk : k < t.length
    · have e1 := List.getElem?_eq_getElem hk
      have e2 := List.getElem?_eq_getElem (show k < u.length by omega)
      rw [e1, e2]
      cases c : t[k] with
      | true => rw [c] at e1; rw [← e2, a k e1]
      | false =>
        cases d : u[k]'(by omega) with
        | false => rfl
        | true => rw [d] at e2; have := b k e2; rw [e1, c] at this; cases this
    · rw [List.getElem?_eq_none (by omega), List.getElem?_eq_none (by omega)]
  · rintro rfl; exact ⟨fun _ h => h, fun _ h => h⟩
theorem form_lead (hs : Prd s) (ht : t.length = 2 ^ (sg s).length) (hu : u.length = 2 ^ (sg s).length) : leadF (formF (sg s) t) (formF (sg s) u) = within t u := by
  have f1 : Frm (formF (sg s) t) := frm_formF hs.le
  have f2 : Frm (formF (sg s) u) := frm_formF hs.le
  have o1 : Over s (formF (sg s) t) := overP_formF
  have o2 : Over s (formF (sg s) u) := overP_formF
  have e1 := tabL_form hs ht
  have e2 := tabL_form hs hu
  rw [Bool.eq_iff_iff, lead_iff f1 f2, within_iff (by omega)]
  have at1 : ∀ k, k < 2 ^ (sg s).length → t[k]? = some (val (rowF (rowN (sg s) k)) (formF (sg s) t)) := fun k hk => by
    have := congrArg (fun l => l[k]?) e1
    unfold tabL at this
    simp only [List.getElem?_map, List.getElem?_range hk, Option.map_some] at this
    exact this.symm
  have at2 : ∀ k, k < 2 ^ (sg s).length → u[k]? = some (val (rowF (rowN (sg s) k)) (formF (sg s) u)) := fun k hk => by
    have := congrArg (fun l => l[k]?) e2
    unfold tabL at this
    simp only [List.getElem?_map, List.getElem?_range hk, Option.map_some] at this
    exact this.symm
  constructor
  · intro h k hk
    have hl : k < 2 ^ (sg s).length := by have := (List.getElem?_eq_some_iff.mp hk).1; omega
    rw [at1 k hl, Option.some.injEq] at hk
    rw [at2 k hl, h _ hk]
  · intro h r hr
    obtain ⟨k, hk, e⟩ := rowN_cover r (up_nodup hs.up)
    have e := fun c hc => (e c hc).symm
    rw [val_congr o1 e] at hr
    rw [val_congr o2 e]
    have := h k (by rw [at1 k hk, hr])
    rw [at2 k hk] at this
    exact Option.some.inj this
theorem form_same (hs : Prd s) (ht : t.length = 2 ^ (sg s).length) (hu : u.length = 2 ^ (sg s).length) : formF (sg s) t = formF (sg s) u ↔ t = u :=
  ⟨fun e => by rw [← tabL_form hs ht, e, tabL_form hs hu], fun e => by rw [e]⟩
end
end DL
set_option maxHeartbeats 2000000
namespace DL
open PySem L2
theorem picks_bit {α : Type} : ∀ {l : List α} {r : List D}, Picks (fun (_ : α) o => ∃ b : Bool, o = some (.bl b)) l r → ∃ bs : List Bool, r = bs.map .bl ∧ bs.length = l.length
  | [], r, h => ⟨[], h, rfl⟩
  | x :: l, r, h => by
    obtain ⟨o, r', ⟨b, rfl⟩, h2, rfl⟩ := h
    obtain ⟨bs, rfl, e⟩ := picks_bit h2
    exact ⟨b :: bs, rfl, by rw [List.length_cons, List.length_cons, e]⟩
def enumB : Nat → List Bool → List (Nat × Bool)
  | _, [] => []
  | i, x :: xs => (i, x) :: enumB (i + 1) xs
theorem enumD_bl : ∀ (l : List Bool) (i : Nat), enumD i (l.map .bl) = (enumB i l).map fun x => D.tup [.int x.1, .bl x.2]
  | [], _ => rfl
  | x :: l, i => by rw [List.map_cons, enumD, enumD_bl l, enumB]; rfl
theorem enumB_bound : ∀ {l : List Bool} {i : Nat} {x : Nat × Bool}, x ∈ enumB i l → x.1 < i + l.length
  | [], i, x, h => nomatch h
  | y :: l, i, x, h => by
    rcases List.mem_cons.mp h with rfl | h
    · show i < i + (l.length + 1); omega
    · have := enumB_bound h; rw [List.length_cons]; omega
theorem enumB_len : ∀ (l : List Bool) (i : Nat), (enumB i l).length = l.length
  | [], _ => rfl
  | x :: l, i => by rw [enumB, List.length_cons, List.length_cons, enumB_len l]
theorem atI_nt {α : Type} (xs : List α) (n : Nat) : atI xs (n : Int) = xs[n]? := by
  unfold atI ixN
  rw [if_pos (Int.natCast_nonneg n)]
  by_cases h : n < xs.length
  · rw [if_pos (by omega)]; simp
  · rw [if_neg (by omega), List.getElem?_eq_none (by omega)]; rfl
def tabsD (T : List (List Bool)) : List D := T.map fun t => .lst (t.map .bl)
abbrev N_law : List Str := ["_law_script", "_law_letters_here", "_law_many", "_law_letter", "_law_tables", "_law_k", "_law_here", "_law_forms", "_law_table", "_law_i", "_law_j", "_law_due", "_law_pairs", "_law_there"]
def w_law_b1_t6 : WS := (wIfS (wB (wOp oNeX (wCall sp_multiplied (fun _ _ => False) (wCons (wOp oIxX (wVar 7) (wVar 9)) (wCons (wOp oIxX (wVar 7) (wVar 10)) wNil))) (wCall sp_form_of (fun _ _ => False) (wCons (wVar 1) (wCons (wLc (wiX (wVar 12)) (wgTup 2 (wgCons (wgName 6) (wgCons (wgName 13) wgNil))) wYes (wAndV (wVar 6) (wVar 13)) [6, 13]) wNil))))) (wRet (wC (.bl false))) wNext)
def w_law_b1_t5 : WS := wSeq (wIfS (wB (wOp oNeX (wCall sp_joined (fun _ _ => False) (wCons (wOp oIxX (wVar 7) (wVar 9)) (wCons (wOp oIxX (wVar 7) (wVar 10)) wNil))) (wCall sp_form_of (fun _ _ => False) (wCons (wVar 1) (wCons (wLc (wiX (wVar 12)) (wgTup 2 (wgCons (wgName 6) (wgCons (wgName 13) wgNil))) wYes (wOrV (wVar 6) (wVar 13)) [6, 13]) wNil))))) (wRet (wC (.bl false))) wNext)
    w_law_b1_t6
def w_law_b1_t4 : WS := wSeq (wAsg (wLZ (wCons (wOIx 4 (wVar 9)) (wCons (wOIx 4 (wVar 10)) wNil))) (wgName 12))
    w_law_b1_t5
def w_law_b1_t3 : WS := wSeq (wIfS (wLendT (wB (wOp oNeX (wAndV (wVar 11) (wCall sp_L_within_ca5 (fun _ _ => False) (wCons (wOp oIxX (wVar 4) (wVar 10)) (wCons (wOp oIxX (wVar 4) (wVar 9)) wNil)))) (wOp oEqX (wOp oIxX (wVar 7) (wVar 9)) (wOp oIxX (wVar 7) (wVar 10)))))) (wRet (wC (.bl false))) wNext)
    w_law_b1_t4
def w_law_b1_t2 : WS := wSeq (wIfS (wB (wOp oLtX (wVar 10) (wVar 9))) wCont wNext)
    w_law_b1_t3
def w_law_b1_t1 : WS := wSeq (wIfS (wB (wOp oNeX (wCall sp_leads (fun _ _ => False) (wCons (wOp oIxX (wVar 7) (wVar 9)) (wCons (wOp oIxX (wVar 7) (wVar 10)) wNil))) (wVar 11))) (wRet (wC (.bl false))) wNext)
    w_law_b1_t2
def w_law_b1 : WS := wSeq (wAsg (wCall sp_L_within_ca5 (fun _ _ => False) (wCons (wOIx 4 (wVar 9)) (wCons (wOIx 4 (wVar 10)) wNil))) (wgName 11))
    w_law_b1_t1
def w_law_b2_t1 : WS := (wIfS (wLendT (wB (wOp oNeX (wCall sp_opposite (fun _ _ => False) (wCons (wOp oIxX (wVar 7) (wVar 9)) wNil)) (wCall sp_form_of (fun _ _ => False) (wCons (wVar 1) (wCons (wLc (wiX (wOp oIxX (wVar 4) (wVar 9))) (wgName 6) wYes (wNotV (wVar 6)) [6]) wNil)))))) (wRet (wC (.bl false))) wNext)
def w_law_b2 : WS := wSeq (wFor (wiR1 (wCons (wC (.int 3)) wNil)) (wgName 10)
      w_law_b1)
    w_law_b2_t1
def w_law_t8 : WS := (wRet (wC (.bl true)))
def w_law_t7 : WS := wSeq (wFor (wiR1 (wCons (wC (.int 3)) wNil)) (wgName 9)
      w_law_b2)
    w_law_t8
def w_law_t6 : WS := wSeq (wAsg (wLc (wiX (wVar 4)) (wgName 8) wYes (wCall sp_form_of (fun _ _ => False) (wCons (wVar 1) (wCons (wVar 8) wNil))) [8]) (wgName 7))
    w_law_t7
def w_law_t5 : WS := wSeq (wDrop (wM 4 oAppend (wCons (wLc (wiR1 (wCons (wVar 2) wNil)) (wgName 5) wYes (wOp oEqX (wOp oMod (wOp oDiv (wCall sp_L_mixed (fun _ _ => False) (wCons (wVar 0) (wCons (wOp oPlus (wC (.int 150)) (wVar 5)) wNil))) (wC (.int 7))) (wC (.int 2))) (wC (.int 1))) [5]) wNil)))
    w_law_t6
def w_law_t4 : WS := wSeq (wDrop (wM 4 oAppend (wCons (wLc (wiEnumX (wCons (wOIx 4 (wC (.int 0))) wNil)) (wgTup 2 (wgCons (wgName 5) (wgCons (wgName 6) wgNil))) wYes (wOrV (wVar 6) (wOp oEqX (wOp oMod (wOp oDiv (wCall sp_L_mixed (fun _ _ => False) (wCons (wVar 0) (wCons (wOp oPlus (wC (.int 80)) (wVar 5)) wNil))) (wC (.int 7))) (wC (.int 4))) (wC (.int 1)))) [5, 6]) wNil)))
    w_law_t5
def w_law_t3 : WS := wSeq (wSet 4 (wLst (wCons (wLc (wiR1 (wCons (wVar 2) wNil)) (wgName 5) wYes (wOp oEqX (wOp oMod (wOp oDiv (wCall sp_L_mixed (fun _ _ => False) (wCons (wVar 0) (wCons (wOp oPlus (wC (.int 10)) (wVar 5)) wNil))) (wC (.int 7))) (wC (.int 3))) (wC (.int 1))) [5]) wNil)))
    w_law_t4
def w_law_t2 : WS := wSeq (wFor (wiX (wVar 1)) (wgName 3)
      (wAsg (wOp oMul (wVar 2) (wC (.int 2))) (wgName 2)))
    w_law_t3
def w_law_t1 : WS := wSeq (wAsg (wC (.int 1)) (wgName 2))
    w_law_t2
def w_law : WS := wSeq (wAsg (wCall sp_L_letters (fun _ _ => False) (wCons (wCall sp_L_mixed (fun _ _ => False) (wCons (wVar 0) (wCons (wC (.int 0)) wNil))) (wCons (wOp oMod (wCall sp_L_mixed (fun _ _ => False) (wCons (wVar 0) (wCons (wC (.int 1)) wNil))) (wC (.int 6))) wNil))) (wgName 1))
    w_law_t1
theorem len_law {ds Q px} (h : spLaw ds Q px) : ds.length = 1 := by obtain ⟨ns, rfl, _⟩ := h; rfl
theorem rd_law {ds Q px} (h : spLaw ds Q px) : w_law ⟨fun _ => Q (.d .non), Q, fun _ => False, fun _ => False⟩ (startR N_law ds) := by
  obtain ⟨ns, rfl, hl, hb, hq⟩ := h
  unfold w_law
  simp only [N_law, wSeq, wSet, wAsg, wC, wIfS, wB, wOp, oI, oI0, asI, asS, asL, asLT, asT, asB, asA_some, asA_none, asO, asOL, asOD, asKey, asDic, asSq, oLen, oMod, oAdd, oSub, oMul, oDiv, oMax, oMin, oPlus, oEqX, oNeX, eqX_int, eqX_str, eqX_bl, oCmp, oLtX, oLeX, oGtX, oGeX, oIxX, oInX, wCB, wCons, wNil, wVar, wMove, nth, put, startR, wNext, wRet, wRetN, wDrop, wFor, wiR1, wiR2, wiX, itemsOf, wgName, wgTup, wgCons, wgNil, wLend, wLendT, seeR_cons, seeR_nil, seeO_d, seeO_none, seeO_ol, seeO_od, wJoin, wM, oAppend, oPop, oPopAt, wDPut, wDPop, wSortK, wDict0, wTup, wLst, wCall, wAnd, wOr, wNot, wAndV, wOrV, wNotV, wIf, wYes, wLc, wiEnumX, oListX, oTuple, oSort, oSortSet, oAll, oAny, S.fz, S.own, D.flat, txts_map, bools_map, txtKeys_map, List.length_map, List.map_cons, List.map_nil, List.length_cons, List.length_nil, List.cons_append, List.nil_append, List.replicate, decide_eq_true_eq, Bool.not_eq_true', Bool.not_true, Bool.not_false, if_true, if_false, Nat.zero_add, Nat.reduceAdd, Nat.reduceSub, ge_iff_le, true_and, and_true, zip_unzip, Bool.false_xor, Bool.true_xor, Bool.false_eq_true, Bool.true_eq_false, reduceIte, wipeR, dataR_cons, dataR_nil, dataO_d, dataO_none, dataO_ol, dataO_od, oDict, oIsi, tyD, isiB, wSl, wPart, wNoP, oSl, wDisp1, wDGet2, oRemove, atI_0, atI_1, atI_2, wiRev, revItems, oDictP, wForK, wiKeys, kD, oSortX, oPow, oBitAnd, oShl, oNeg, wUn, oInt, oStr, oDivmod, oIs, isD, wChain, wFz, wFzE, frzR, wLSet, wiZip, seqsD, wiVals, wiItems, wOIx, wNo, Option.isSome_some, oMulX, wM1, oSplit, oPart, oStrip1, oRep, oSum, intsD, wRaise, wLI, wLK
, wiR3, wLR, wDisp, wPairs, oReverse, oClear, oInsert, wRevL, wDZ, seqLT, oSortIT, wOFld, wSFld, asOI, setOI, putG, wPar, wiItemsC, wiValsC, wIndexL, wDZO, wLO, wiZip3, wTry1, wgDrop, wIsE, wLRev, wLZ, sp_L_mixed, sp_L_letters]
  refine ⟨⟨hl, by decide, by decide⟩, fun z0 z00 _ => ⟨⟨hl, by decide, by decide⟩, fun z1 z10 _ => ⟨by decide, ⟨z00, by omega⟩, fun s hs h5 => ?_⟩⟩⟩
  simp only [w_law_t1, w_law_t2, wSeq, wSet, wAsg, wC, wIfS, wB, wOp, oI, oI0, asI, asS, asL, asLT, asT, asB, asA_some, asA_none, asO, asOL, asOD, asKey, asDic, asSq, oLen, oMod, oAdd, oSub, oMul, oDiv, oMax, oMin, oPlus, oEqX, oNeX, eqX_int, eqX_str, eqX_bl, oCmp, oLtX, oLeX, oGtX, oGeX, oIxX, oInX, wCB, wCons, wNil, wVar, wMove, nth, put, startR, wNext, wRet, wRetN, wDrop, wFor, wiR1, wiR2, wiX, itemsOf, wgName, wgTup, wgCons, wgNil, wLend, wLendT, seeR_cons, seeR_nil, seeO_d, seeO_none, seeO_ol, seeO_od, wJoin, wM, oAppend, oPop, oPopAt, wDPut, wDPop, wSortK, wDict0, wTup, wLst, wCall, wAnd, wOr, wNot, wAndV, wOrV, wNotV, wIf, wYes, wLc, wiEnumX, oListX, oTuple, oSort, oSortSet, oAll, oAny, S.fz, S.own, D.flat, txts_map, bools_map, txtKeys_map, List.length_map, List.map_cons, List.map_nil, List.length_cons, List.length_nil, List.cons_append, List.nil_append, List.replicate, decide_eq_true_eq, Bool.not_eq_true', Bool.not_true, Bool.not_false, if_true, if_false, Nat.zero_add, Nat.reduceAdd, Nat.reduceSub, ge_iff_le, true_and, and_true, zip_unzip, Bool.false_xor, Bool.true_xor, Bool.false_eq_true, Bool.true_eq_false, reduceIte, wipeR, dataR_cons, dataR_nil, dataO_d, dataO_none, dataO_ol, dataO_od, oDict, oIsi, tyD, isiB, wSl, wPart, wNoP, oSl, wDisp1, wDGet2, oRemove, atI_0, atI_1, atI_2, wiRev, revItems, oDictP, wForK, wiKeys, kD, oSortX, oPow, oBitAnd, oShl, oNeg, wUn, oInt, oStr, oDivmod, oIs, isD, wChain, wFz, wFzE, frzR, wLSet, wiZip, seqsD, wiVals, wiItems, wOIx, wNo, Option.isSome_some, oMulX, wM1, oSplit, oPart, oStrip1, oRep, oSum, intsD, wRaise, wLI, wLK
, wiR3, wLR, wDisp, wPairs, oReverse, oClear, oInsert, wRevL, wDZ, seqLT, oSortIT, wOFld, wSFld, asOI, setOI, putG, wPar, wiItemsC, wiValsC, wIndexL, wDZO, wLO, wiZip3, wTry1, wgDrop, wIsE, wLRev, wLZ]
  have h5 : (sg s).length ≤ 5 := by omega
  have nd := up_nodup hs.up
  rw [signs_eq, List.map_map]
  refine forD_map (I := fun done _ ρ => ∃ o : Option S, ρ = [some (.d (.cel ns)), some (.d (.str s)), some (.d (.int (2 ^ done.length : Nat))), o, none, none, none, none, none, none, none, none, none, none]) mono_name (sg s) (fun done c ys ρ he hI => ?_) (fun ρ hI => ?_) _ ⟨_, rfl⟩
  · obtain ⟨o, rfl⟩ := hI
    have hd : done.length < 5 := by
      have := congrArg List.length he
      rw [List.length_append, List.length_cons] at this; omega
    have hp : 2 ^ done.length ≤ 16 := Nat.pow_le_pow_right (by decide) (by omega : done.length ≤ 4)
    simp only [Function.comp, wSeq, wSet, wAsg, wC, wIfS, wB, wOp, oI, oI0, asI, asS, asL, asLT, asT, asB, asA_some, asA_none, asO, asOL, asOD, asKey, asDic, asSq, oLen, oMod, oAdd, oSub, oMul, oDiv, oMax, oMin, oPlus, oEqX, oNeX, eqX_int, eqX_str, eqX_bl, oCmp, oLtX, oLeX, oGtX, oGeX, oIxX, oInX, wCB, wCons, wNil, wVar, wMove, nth, put, startR, wNext, wRet, wRetN, wDrop, wFor, wiR1, wiR2, wiX, itemsOf, wgName, wgTup, wgCons, wgNil, wLend, wLendT, seeR_cons, seeR_nil, seeO_d, seeO_none, seeO_ol, seeO_od, wJoin, wM, oAppend, oPop, oPopAt, wDPut, wDPop, wSortK, wDict0, wTup, wLst, wCall, wAnd, wOr, wNot, wAndV, wOrV, wNotV, wIf, wYes, wLc, wiEnumX, oListX, oTuple, oSort, oSortSet, oAll, oAny, S.fz, S.own, D.flat, txts_map, bools_map, txtKeys_map, List.length_map, List.map_cons, List.map_nil, List.length_cons, List.length_nil, List.cons_append, List.nil_append, List.replicate, decide_eq_true_eq, Bool.not_eq_true', Bool.not_true, Bool.not_false, if_true, if_false, Nat.zero_add, Nat.reduceAdd, Nat.reduceSub, ge_iff_le, true_and, and_true, zip_unzip, Bool.false_xor, Bool.true_xor, Bool.false_eq_true, Bool.true_eq_false, reduceIte, wipeR, dataR_cons, dataR_nil, dataO_d, dataO_none, dataO_ol, dataO_od, oDict, oIsi, tyD, isiB, wSl, wPart, wNoP, oSl, wDisp1, wDGet2, oRemove, atI_0, atI_1, atI_2, wiRev, revItems, oDictP, wForK, wiKeys, kD, oSortX, oPow, oBitAnd, oShl, oNeg, wUn, oInt, oStr, oDivmod, oIs, isD, wChain, wFz, wFzE, frzR, wLSet, wiZip, seqsD, wiVals, wiItems, wOIx, wNo, Option.isSome_some, oMulX, wM1, oSplit, oPart, oStrip1, oRep, oSum, intsD, wRaise, wLI, wLK
, wiR3, wLR, wDisp, wPairs, oReverse, oClear, oInsert, wRevL, wDZ, seqLT, oSortIT, wOFld, wSFld, asOI, setOI, putG, wPar, wiItemsC, wiValsC, wIndexL, wDZO, wLO, wiZip3, wTry1, wgDrop, wIsE, wLRev, wLZ]
    have e : ((2 ^ done.length : Nat) : Int) * 2 = ((2 ^ (done ++ [c]).length : Nat) : Int) := by
      rw [List.length_append, List.length_singleton, Nat.pow_succ]; omega
    rw [e]
    generalize 2 ^ done.length = M at hp
    exact ⟨.inl ⟨by omega, by omega⟩, _, rfl⟩
  obtain ⟨o3, rfl⟩ := hI
  have hN : 2 ^ (sg s).length ≤ 32 := Nat.pow_le_pow_right (by decide) h5
  generalize eN : 2 ^ (sg s).length = N at hN
  simp only [w_law_t3, wSeq, wSet, wAsg, wC, wIfS, wB, wOp, oI, oI0, asI, asS, asL, asLT, asT, asB, asA_some, asA_none, asO, asOL, asOD, asKey, asDic, asSq, oLen, oMod, oAdd, oSub, oMul, oDiv, oMax, oMin, oPlus, oEqX, oNeX, eqX_int, eqX_str, eqX_bl, oCmp, oLtX, oLeX, oGtX, oGeX, oIxX, oInX, wCB, wCons, wNil, wVar, wMove, nth, put, startR, wNext, wRet, wRetN, wDrop, wFor, wiR1, wiR2, wiX, itemsOf, wgName, wgTup, wgCons, wgNil, wLend, wLendT, seeR_cons, seeR_nil, seeO_d, seeO_none, seeO_ol, seeO_od, wJoin, wM, oAppend, oPop, oPopAt, wDPut, wDPop, wSortK, wDict0, wTup, wLst, wCall, wAnd, wOr, wNot, wAndV, wOrV, wNotV, wIf, wYes, wLc, wiEnumX, oListX, oTuple, oSort, oSortSet, oAll, oAny, S.fz, S.own, D.flat, txts_map, bools_map, txtKeys_map, List.length_map, List.map_cons, List.map_nil, List.length_cons, List.length_nil, List.cons_append, List.nil_append, List.replicate, decide_eq_true_eq, Bool.not_eq_true', Bool.not_true, Bool.not_false, if_true, if_false, Nat.zero_add, Nat.reduceAdd, Nat.reduceSub, ge_iff_le, true_and, and_true, zip_unzip, Bool.false_xor, Bool.true_xor, Bool.false_eq_true, Bool.true_eq_false, reduceIte, wipeR, dataR_cons, dataR_nil, dataO_d, dataO_none, dataO_ol, dataO_od, oDict, oIsi, tyD, isiB, wSl, wPart, wNoP, oSl, wDisp1, wDGet2, oRemove, atI_0, atI_1, atI_2, wiRev, revItems, oDictP, wForK, wiKeys, kD, oSortX, oPow, oBitAnd, oShl, oNeg, wUn, oInt, oStr, oDivmod, oIs, isD, wChain, wFz, wFzE, frzR, wLSet, wiZip, seqsD, wiVals, wiItems, wOIx, wNo, Option.isSome_some, oMulX, wM1, oSplit, oPart, oStrip1, oRep, oSum, intsD, wRaise, wLI, wLK
, wiR3, wLR, wDisp, wPairs, oReverse, oClear, oInsert, wRevL, wDZ, seqLT, oSortIT, wOFld, wSFld, asOI, setOI, putG, wPar, wiItemsC, wiValsC, wIndexL, wDZO, wLO, wiZip3, wTry1, wgDrop, wIsE, wLRev, wLZ, sp_L_mixed]
  rw [Int.toNat_natCast, rangeD_map]
  refine ⟨⟨by omega, by omega⟩, by rw [List.length_map, List.length_range, len0]; omega, ?_⟩
  refine compD_picks (g := fun (_ : Nat) o => ∃ b : Bool, o = some (.bl b)) _ _ (fun j hj Q' hQ => ?_) fun r hr => ?_
  · have hj := List.mem_range.mp hj
    simp only [wSeq, wSet, wAsg, wC, wIfS, wB, wOp, oI, oI0, asI, asS, asL, asLT, asT, asB, asA_some, asA_none, asO, asOL, asOD, asKey, asDic, asSq, oLen, oMod, oAdd, oSub, oMul, oDiv, oMax, oMin, oPlus, oEqX, oNeX, eqX_int, eqX_str, eqX_bl, oCmp, oLtX, oLeX, oGtX, oGeX, oIxX, oInX, wCB, wCons, wNil, wVar, wMove, nth, put, startR, wNext, wRet, wRetN, wDrop, wFor, wiR1, wiR2, wiX, itemsOf, wgName, wgTup, wgCons, wgNil, wLend, wLendT, seeR_cons, seeR_nil, seeO_d, seeO_none, seeO_ol, seeO_od, wJoin, wM, oAppend, oPop, oPopAt, wDPut, wDPop, wSortK, wDict0, wTup, wLst, wCall, wAnd, wOr, wNot, wAndV, wOrV, wNotV, wIf, wYes, wLc, wiEnumX, oListX, oTuple, oSort, oSortSet, oAll, oAny, S.fz, S.own, D.flat, txts_map, bools_map, txtKeys_map, List.length_map, List.map_cons, List.map_nil, List.length_cons, List.length_nil, List.cons_append, List.nil_append, List.replicate, decide_eq_true_eq, Bool.not_eq_true', Bool.not_true, Bool.not_false, if_true, if_false, Nat.zero_add, Nat.reduceAdd, Nat.reduceSub, ge_iff_le, true_and, and_true, zip_unzip, Bool.false_xor, Bool.true_xor, Bool.false_eq_true, Bool.true_eq_false, reduceIte, wipeR, dataR_cons, dataR_nil, dataO_d, dataO_none, dataO_ol, dataO_od, oDict, oIsi, tyD, isiB, wSl, wPart, wNoP, oSl, wDisp1, wDGet2, oRemove, atI_0, atI_1, atI_2, wiRev, revItems, oDictP, wForK, wiKeys, kD, oSortX, oPow, oBitAnd, oShl, oNeg, wUn, oInt, oStr, oDivmod, oIs, isD, wChain, wFz, wFzE, frzR, wLSet, wiZip, seqsD, wiVals, wiItems, wOIx, wNo, Option.isSome_some, oMulX, wM1, oSplit, oPart, oStrip1, oRep, oSum, intsD, wRaise, wLI, wLK
, wiR3, wLR, wDisp, wPairs, oReverse, oClear, oInsert, wRevL, wDZ, seqLT, oSortIT, wOFld, wSFld, asOI, setOI, putG, wPar, wiItemsC, wiValsC, wIndexL, wDZO, wLO, wiZip3, wTry1, wgDrop, wIsE, wLRev, wLZ, sp_L_mixed]
    exact ⟨⟨hl, by omega, by omega⟩, fun z z0 z1 => ⟨by unfold CDiv; omega, by decide, hQ _ ⟨_, rfl⟩⟩⟩
  obtain ⟨t0, rfl, l0⟩ := picks_bit hr
  rw [List.length_range] at l0
  refine ⟨by decide, ?_⟩
  simp only [w_law_t4, wSeq, wSet, wAsg, wC, wIfS, wB, wOp, oI, oI0, asI, asS, asL, asLT, asT, asB, asA_some, asA_none, asO, asOL, asOD, asKey, asDic, asSq, oLen, oMod, oAdd, oSub, oMul, oDiv, oMax, oMin, oPlus, oEqX, oNeX, eqX_int, eqX_str, eqX_bl, oCmp, oLtX, oLeX, oGtX, oGeX, oIxX, oInX, wCB, wCons, wNil, wVar, wMove, nth, put, startR, wNext, wRet, wRetN, wDrop, wFor, wiR1, wiR2, wiX, itemsOf, wgName, wgTup, wgCons, wgNil, wLend, wLendT, seeR_cons, seeR_nil, seeO_d, seeO_none, seeO_ol, seeO_od, wJoin, wM, oAppend, oPop, oPopAt, wDPut, wDPop, wSortK, wDict0, wTup, wLst, wCall, wAnd, wOr, wNot, wAndV, wOrV, wNotV, wIf, wYes, wLc, wiEnumX, oListX, oTuple, oSort, oSortSet, oAll, oAny, S.fz, S.own, D.flat, txts_map, bools_map, txtKeys_map, List.length_map, List.map_cons, List.map_nil, List.length_cons, List.length_nil, List.cons_append, List.nil_append, List.replicate, decide_eq_true_eq, Bool.not_eq_true', Bool.not_true, Bool.not_false, if_true, if_false, Nat.zero_add, Nat.reduceAdd, Nat.reduceSub, ge_iff_le, true_and, and_true, zip_unzip, Bool.false_xor, Bool.true_xor, Bool.false_eq_true, Bool.true_eq_false, reduceIte, wipeR, dataR_cons, dataR_nil, dataO_d, dataO_none, dataO_ol, dataO_od, oDict, oIsi, tyD, isiB, wSl, wPart, wNoP, oSl, wDisp1, wDGet2, oRemove, atI_0, atI_1, atI_2, wiRev, revItems, oDictP, wForK, wiKeys, kD, oSortX, oPow, oBitAnd, oShl, oNeg, wUn, oInt, oStr, oDivmod, oIs, isD, wChain, wFz, wFzE, frzR, wLSet, wiZip, seqsD, wiVals, wiItems, wOIx, wNo, Option.isSome_some, oMulX, wM1, oSplit, oPart, oStrip1, oRep, oSum, intsD, wRaise, wLI, wLK
, wiR3, wLR, wDisp, wPairs, oReverse, oClear, oInsert, wRevL, wDZ, seqLT, oSortIT, wOFld, wSFld, asOI, setOI, putG, wPar, wiItemsC, wiValsC, wIndexL, wDZO, wLO, wiZip3, wTry1, wgDrop, wIsE, wLRev, wLZ, sp_L_mixed]
  rw [enumD_bl]
  refine ⟨by rw [List.length_map, enumB_len, len0]; omega, ?_⟩
  refine compD_picks (g := fun (_ : Nat × Bool) o => ∃ b : Bool, o = some (.bl b)) _ _ (fun x hx Q' hQ => ?_) fun r hr => ?_
  · have hx := enumB_bound hx
    rw [l0] at hx
    obtain ⟨j, b⟩ := x
    cases b
    · simp only [wSeq, wSet, wAsg, wC, wIfS, wB, wOp, oI, oI0, asI, asS, asL, asLT, asT, asB, asA_some, asA_none, asO, asOL, asOD, asKey, asDic, asSq, oLen, oMod, oAdd, oSub, oMul, oDiv, oMax, oMin, oPlus, oEqX, oNeX, eqX_int, eqX_str, eqX_bl, oCmp, oLtX, oLeX, oGtX, oGeX, oIxX, oInX, wCB, wCons, wNil, wVar, wMove, nth, put, startR, wNext, wRet, wRetN, wDrop, wFor, wiR1, wiR2, wiX, itemsOf, wgName, wgTup, wgCons, wgNil, wLend, wLendT, seeR_cons, seeR_nil, seeO_d, seeO_none, seeO_ol, seeO_od, wJoin, wM, oAppend, oPop, oPopAt, wDPut, wDPop, wSortK, wDict0, wTup, wLst, wCall, wAnd, wOr, wNot, wAndV, wOrV, wNotV, wIf, wYes, wLc, wiEnumX, oListX, oTuple, oSort, oSortSet, oAll, oAny, S.fz, S.own, D.flat, txts_map, bools_map, txtKeys_map, List.length_map, List.map_cons, List.map_nil, List.length_cons, List.length_nil, List.cons_append, List.nil_append, List.replicate, decide_eq_true_eq, Bool.not_eq_true', Bool.not_true, Bool.not_false, if_true, if_false, Nat.zero_add, Nat.reduceAdd, Nat.reduceSub, ge_iff_le, true_and, and_true, zip_unzip, Bool.false_xor, Bool.true_xor, Bool.false_eq_true, Bool.true_eq_false, reduceIte, wipeR, dataR_cons, dataR_nil, dataO_d, dataO_none, dataO_ol, dataO_od, oDict, oIsi, tyD, isiB, wSl, wPart, wNoP, oSl, wDisp1, wDGet2, oRemove, atI_0, atI_1, atI_2, wiRev, revItems, oDictP, wForK, wiKeys, kD, oSortX, oPow, oBitAnd, oShl, oNeg, wUn, oInt, oStr, oDivmod, oIs, isD, wChain, wFz, wFzE, frzR, wLSet, wiZip, seqsD, wiVals, wiItems, wOIx, wNo, Option.isSome_some, oMulX, wM1, oSplit, oPart, oStrip1, oRep, oSum, intsD, wRaise, wLI, wLK
, wiR3, wLR, wDisp, wPairs, oReverse, oClear, oInsert, wRevL, wDZ, seqLT, oSortIT, wOFld, wSFld, asOI, setOI, putG, wPar, wiItemsC, wiValsC, wIndexL, wDZO, wLO, wiZip3, wTry1, wgDrop, wIsE, wLRev, wLZ, sp_L_mixed]
      exact ⟨⟨hl, by omega, by omega⟩, fun z z0 z1 => ⟨by unfold CDiv; omega, by decide, hQ _ ⟨_, rfl⟩⟩⟩
    · simp only [wSeq, wSet, wAsg, wC, wIfS, wB, wOp, oI, oI0, asI, asS, asL, asLT, asT, asB, asA_some, asA_none, asO, asOL, asOD, asKey, asDic, asSq, oLen, oMod, oAdd, oSub, oMul, oDiv, oMax, oMin, oPlus, oEqX, oNeX, eqX_int, eqX_str, eqX_bl, oCmp, oLtX, oLeX, oGtX, oGeX, oIxX, oInX, wCB, wCons, wNil, wVar, wMove, nth, put, startR, wNext, wRet, wRetN, wDrop, wFor, wiR1, wiR2, wiX, itemsOf, wgName, wgTup, wgCons, wgNil, wLend, wLendT, seeR_cons, seeR_nil, seeO_d, seeO_none, seeO_ol, seeO_od, wJoin, wM, oAppend, oPop, oPopAt, wDPut, wDPop, wSortK, wDict0, wTup, wLst, wCall, wAnd, wOr, wNot, wAndV, wOrV, wNotV, wIf, wYes, wLc, wiEnumX, oListX, oTuple, oSort, oSortSet, oAll, oAny, S.fz, S.own, D.flat, txts_map, bools_map, txtKeys_map, List.length_map, List.map_cons, List.map_nil, List.length_cons, List.length_nil, List.cons_append, List.nil_append, List.replicate, decide_eq_true_eq, Bool.not_eq_true', Bool.not_true, Bool.not_false, if_true, if_false, Nat.zero_add, Nat.reduceAdd, Nat.reduceSub, ge_iff_le, true_and, and_true, zip_unzip, Bool.false_xor, Bool.true_xor, Bool.false_eq_true, Bool.true_eq_false, reduceIte, wipeR, dataR_cons, dataR_nil, dataO_d, dataO_none, dataO_ol, dataO_od, oDict, oIsi, tyD, isiB, wSl, wPart, wNoP, oSl, wDisp1, wDGet2, oRemove, atI_0, atI_1, atI_2, wiRev, revItems, oDictP, wForK, wiKeys, kD, oSortX, oPow, oBitAnd, oShl, oNeg, wUn, oInt, oStr, oDivmod, oIs, isD, wChain, wFz, wFzE, frzR, wLSet, wiZip, seqsD, wiVals, wiItems, wOIx, wNo, Option.isSome_some, oMulX, wM1, oSplit, oPart, oStrip1, oRep, oSum, intsD, wRaise, wLI, wLK
, wiR3, wLR, wDisp, wPairs, oReverse, oClear, oInsert, wRevL, wDZ, seqLT, oSortIT, wOFld, wSFld, asOI, setOI, putG, wPar, wiItemsC, wiValsC, wIndexL, wDZO, wLO, wiZip3, wTry1, wgDrop, wIsE, wLRev, wLZ]
      exact hQ _ ⟨_, rfl⟩
  obtain ⟨t1, rfl, l1⟩ := picks_bit hr
  rw [enumB_len, l0] at l1
  refine ⟨by decide, ?_⟩
  simp only [w_law_t5, wSeq, wSet, wAsg, wC, wIfS, wB, wOp, oI, oI0, asI, asS, asL, asLT, asT, asB, asA_some, asA_none, asO, asOL, asOD, asKey, asDic, asSq, oLen, oMod, oAdd, oSub, oMul, oDiv, oMax, oMin, oPlus, oEqX, oNeX, eqX_int, eqX_str, eqX_bl, oCmp, oLtX, oLeX, oGtX, oGeX, oIxX, oInX, wCB, wCons, wNil, wVar, wMove, nth, put, startR, wNext, wRet, wRetN, wDrop, wFor, wiR1, wiR2, wiX, itemsOf, wgName, wgTup, wgCons, wgNil, wLend, wLendT, seeR_cons, seeR_nil, seeO_d, seeO_none, seeO_ol, seeO_od, wJoin, wM, oAppend, oPop, oPopAt, wDPut, wDPop, wSortK, wDict0, wTup, wLst, wCall, wAnd, wOr, wNot, wAndV, wOrV, wNotV, wIf, wYes, wLc, wiEnumX, oListX, oTuple, oSort, oSortSet, oAll, oAny, S.fz, S.own, D.flat, txts_map, bools_map, txtKeys_map, List.length_map, List.map_cons, List.map_nil, List.length_cons, List.length_nil, List.cons_append, List.nil_append, List.replicate, decide_eq_true_eq, Bool.not_eq_true', Bool.not_true, Bool.not_false, if_true, if_false, Nat.zero_add, Nat.reduceAdd, Nat.reduceSub, ge_iff_le, true_and, and_true, zip_unzip, Bool.false_xor, Bool.true_xor, Bool.false_eq_true, Bool.true_eq_false, reduceIte, wipeR, dataR_cons, dataR_nil, dataO_d, dataO_none, dataO_ol, dataO_od, oDict, oIsi, tyD, isiB, wSl, wPart, wNoP, oSl, wDisp1, wDGet2, oRemove, atI_0, atI_1, atI_2, wiRev, revItems, oDictP, wForK, wiKeys, kD, oSortX, oPow, oBitAnd, oShl, oNeg, wUn, oInt, oStr, oDivmod, oIs, isD, wChain, wFz, wFzE, frzR, wLSet, wiZip, seqsD, wiVals, wiItems, wOIx, wNo, Option.isSome_some, oMulX, wM1, oSplit, oPart, oStrip1, oRep, oSum, intsD, wRaise, wLI, wLK
, wiR3, wLR, wDisp, wPairs, oReverse, oClear, oInsert, wRevL, wDZ, seqLT, oSortIT, wOFld, wSFld, asOI, setOI, putG, wPar, wiItemsC, wiValsC, wIndexL, wDZO, wLO, wiZip3, wTry1, wgDrop, wIsE, wLRev, wLZ, sp_L_mixed]
  rw [Int.toNat_natCast, rangeD_map]
  refine ⟨⟨by omega, by omega⟩, by rw [List.length_map, List.length_range, len0]; omega, ?_⟩
  refine compD_picks (g := fun (_ : Nat) o => ∃ b : Bool, o = some (.bl b)) _ _ (fun j hj Q' hQ => ?_) fun r hr => ?_
  · have hj := List.mem_range.mp hj
    simp only [wSeq, wSet, wAsg, wC, wIfS, wB, wOp, oI, oI0, asI, asS, asL, asLT, asT, asB, asA_some, asA_none, asO, asOL, asOD, asKey, asDic, asSq, oLen, oMod, oAdd, oSub, oMul, oDiv, oMax, oMin, oPlus, oEqX, oNeX, eqX_int, eqX_str, eqX_bl, oCmp, oLtX, oLeX, oGtX, oGeX, oIxX, oInX, wCB, wCons, wNil, wVar, wMove, nth, put, startR, wNext, wRet, wRetN, wDrop, wFor, wiR1, wiR2, wiX, itemsOf, wgName, wgTup, wgCons, wgNil, wLend, wLendT, seeR_cons, seeR_nil, seeO_d, seeO_none, seeO_ol, seeO_od, wJoin, wM, oAppend, oPop, oPopAt, wDPut, wDPop, wSortK, wDict0, wTup, wLst, wCall, wAnd, wOr, wNot, wAndV, wOrV, wNotV, wIf, wYes, wLc, wiEnumX, oListX, oTuple, oSort, oSortSet, oAll, oAny, S.fz, S.own, D.flat, txts_map, bools_map, txtKeys_map, List.length_map, List.map_cons, List.map_nil, List.length_cons, List.length_nil, List.cons_append, List.nil_append, List.replicate, decide_eq_true_eq, Bool.not_eq_true', Bool.not_true, Bool.not_false, if_true, if_false, Nat.zero_add, Nat.reduceAdd, Nat.reduceSub, ge_iff_le, true_and, and_true, zip_unzip, Bool.false_xor, Bool.true_xor, Bool.false_eq_true, Bool.true_eq_false, reduceIte, wipeR, dataR_cons, dataR_nil, dataO_d, dataO_none, dataO_ol, dataO_od, oDict, oIsi, tyD, isiB, wSl, wPart, wNoP, oSl, wDisp1, wDGet2, oRemove, atI_0, atI_1, atI_2, wiRev, revItems, oDictP, wForK, wiKeys, kD, oSortX, oPow, oBitAnd, oShl, oNeg, wUn, oInt, oStr, oDivmod, oIs, isD, wChain, wFz, wFzE, frzR, wLSet, wiZip, seqsD, wiVals, wiItems, wOIx, wNo, Option.isSome_some, oMulX, wM1, oSplit, oPart, oStrip1, oRep, oSum, intsD, wRaise, wLI, wLK
, wiR3, wLR, wDisp, wPairs, oReverse, oClear, oInsert, wRevL, wDZ, seqLT, oSortIT, wOFld, wSFld, asOI, setOI, putG, wPar, wiItemsC, wiValsC, wIndexL, wDZO, wLO, wiZip3, wTry1, wgDrop, wIsE, wLRev, wLZ, sp_L_mixed]
    exact ⟨⟨hl, by omega, by omega⟩, fun z z0 z1 => ⟨by unfold CDiv; omega, by decide, hQ _ ⟨_, rfl⟩⟩⟩
  obtain ⟨t2, rfl, l2⟩ := picks_bit hr
  rw [List.length_range] at l2
  refine ⟨by decide, ?_⟩
  obtain ⟨T, eT, lT, hT⟩ : ∃ T : List (List Bool), [D.lst (t0.map .bl), D.lst (t1.map .bl), D.lst (t2.map .bl)] = tabsD T ∧ T.length = 3 ∧ ∀ t ∈ T, t.length = N := by
    refine ⟨[t0, t1, t2], rfl, rfl, fun t ht => ?_⟩
    simp only [List.mem_cons, List.not_mem_nil, or_false] at ht
    rcases ht with rfl | rfl | rfl <;> assumption
  simp only [w_law_t6, wSeq, wSet, wAsg, wC, wIfS, wB, wOp, oI, oI0, asI, asS, asL, asLT, asT, asB, asA_some, asA_none, asO, asOL, asOD, asKey, asDic, asSq, oLen, oMod, oAdd, oSub, oMul, oDiv, oMax, oMin, oPlus, oEqX, oNeX, eqX_int, eqX_str, eqX_bl, oCmp, oLtX, oLeX, oGtX, oGeX, oIxX, oInX, wCB, wCons, wNil, wVar, wMove, nth, put, startR, wNext, wRet, wRetN, wDrop, wFor, wiR1, wiR2, wiX, itemsOf, wgName, wgTup, wgCons, wgNil, wLend, wLendT, seeR_cons, seeR_nil, seeO_d, seeO_none, seeO_ol, seeO_od, wJoin, wM, oAppend, oPop, oPopAt, wDPut, wDPop, wSortK, wDict0, wTup, wLst, wCall, wAnd, wOr, wNot, wAndV, wOrV, wNotV, wIf, wYes, wLc, wiEnumX, oListX, oTuple, oSort, oSortSet, oAll, oAny, S.fz, S.own, D.flat, txts_map, bools_map, txtKeys_map, List.length_map, List.map_cons, List.map_nil, List.length_cons, List.length_nil, List.cons_append, List.nil_append, List.replicate, decide_eq_true_eq, Bool.not_eq_true', Bool.not_true, Bool.not_false, if_true, if_false, Nat.zero_add, Nat.reduceAdd, Nat.reduceSub, ge_iff_le, true_and, and_true, zip_unzip, Bool.false_xor, Bool.true_xor, Bool.false_eq_true, Bool.true_eq_false, reduceIte, wipeR, dataR_cons, dataR_nil, dataO_d, dataO_none, dataO_ol, dataO_od, oDict, oIsi, tyD, isiB, wSl, wPart, wNoP, oSl, wDisp1, wDGet2, oRemove, atI_0, atI_1, atI_2, wiRev, revItems, oDictP, wForK, wiKeys, kD, oSortX, oPow, oBitAnd, oShl, oNeg, wUn, oInt, oStr, oDivmod, oIs, isD, wChain, wFz, wFzE, frzR, wLSet, wiZip, seqsD, wiVals, wiItems, wOIx, wNo, Option.isSome_some, oMulX, wM1, oSplit, oPart, oStrip1, oRep, oSum, intsD, wRaise, wLI, wLK
, wiR3, wLR, wDisp, wPairs, oReverse, oClear, oInsert, wRevL, wDZ, seqLT, oSortIT, wOFld, wSFld, asOI, setOI, putG, wPar, wiItemsC, wiValsC, wIndexL, wDZO, wLO, wiZip3, wTry1, wgDrop, wIsE, wLRev, wLZ]
  rw [eT]
  clear eT
  refine ⟨by decide, ?_⟩
  refine compD_map (f := fun t : List Bool => D.lst (t.map .bl)) mono_name (fun t : List Bool => some (fD (formF (sg s) t))) T _ (fun t ht Q' hQ => ?_) ?_
  · simp only [wSeq, wSet, wAsg, wC, wIfS, wB, wOp, oI, oI0, asI, asS, asL, asLT, asT, asB, asA_some, asA_none, asO, asOL, asOD, asKey, asDic, asSq, oLen, oMod, oAdd, oSub, oMul, oDiv, oMax, oMin, oPlus, oEqX, oNeX, eqX_int, eqX_str, eqX_bl, oCmp, oLtX, oLeX, oGtX, oGeX, oIxX, oInX, wCB, wCons, wNil, wVar, wMove, nth, put, startR, wNext, wRet, wRetN, wDrop, wFor, wiR1, wiR2, wiX, itemsOf, wgName, wgTup, wgCons, wgNil, wLend, wLendT, seeR_cons, seeR_nil, seeO_d, seeO_none, seeO_ol, seeO_od, wJoin, wM, oAppend, oPop, oPopAt, wDPut, wDPop, wSortK, wDict0, wTup, wLst, wCall, wAnd, wOr, wNot, wAndV, wOrV, wNotV, wIf, wYes, wLc, wiEnumX, oListX, oTuple, oSort, oSortSet, oAll, oAny, S.fz, S.own, D.flat, txts_map, bools_map, txtKeys_map, List.length_map, List.map_cons, List.map_nil, List.length_cons, List.length_nil, List.cons_append, List.nil_append, List.replicate, decide_eq_true_eq, Bool.not_eq_true', Bool.not_true, Bool.not_false, if_true, if_false, Nat.zero_add, Nat.reduceAdd, Nat.reduceSub, ge_iff_le, true_and, and_true, zip_unzip, Bool.false_xor, Bool.true_xor, Bool.false_eq_true, Bool.true_eq_false, reduceIte, wipeR, dataR_cons, dataR_nil, dataO_d, dataO_none, dataO_ol, dataO_od, oDict, oIsi, tyD, isiB, wSl, wPart, wNoP, oSl, wDisp1, wDGet2, oRemove, atI_0, atI_1, atI_2, wiRev, revItems, oDictP, wForK, wiKeys, kD, oSortX, oPow, oBitAnd, oShl, oNeg, wUn, oInt, oStr, oDivmod, oIs, isD, wChain, wFz, wFzE, frzR, wLSet, wiZip, seqsD, wiVals, wiItems, wOIx, wNo, Option.isSome_some, oMulX, wM1, oSplit, oPart, oStrip1, oRep, oSum, intsD, wRaise, wLI, wLK
, wiR3, wLR, wDisp, wPairs, oReverse, oClear, oInsert, wRevL, wDZ, seqLT, oSortIT, wOFld, wSFld, asOI, setOI, putG, wPar, wiItemsC, wiValsC, wIndexL, wDZO, wLO, wiZip3, wTry1, wgDrop, wIsE, wLRev, wLZ]
    exact ⟨t, rfl, ⟨hs, by rw [hT t ht, eN], by show (sg s).length ≤ 10; omega⟩, hQ⟩
  rw [show T.filterMap (fun t : List Bool => some (fD (formF (sg s) t))) = T.map (fun t => fD (formF (sg s) t)) from congrFun List.filterMap_eq_map' _]
  have atT : ∀ {i : Nat}, i < 3 → ∃ t, T[i]? = some t ∧ t.length = N := fun {i} hi => ⟨_, List.getElem?_eq_getElem (by omega), hT _ (List.getElem_mem _)⟩
  have at1 : ∀ {i : Nat} {t : List Bool}, T[i]? = some t → atI (tabsD T) (i : Int) = some (.lst (t.map .bl)) := fun {i t} e => by rw [atI_nt]; unfold tabsD; rw [List.getElem?_map, e]; rfl
  have at2 : ∀ {i : Nat} {t : List Bool}, T[i]? = some t → atI (T.map fun t => fD (formF (sg s) t)) (i : Int) = some (fD (formF (sg s) t)) := fun {i t} e => by rw [atI_nt, List.getElem?_map, e]; rfl
  have ff : ∀ t : List Bool, Frm (formF (sg s) t) := fun t => frm_formF hs.le
  simp only [w_law_t7, wSeq, wSet, wAsg, wC, wIfS, wB, wOp, oI, oI0, asI, asS, asL, asLT, asT, asB, asA_some, asA_none, asO, asOL, asOD, asKey, asDic, asSq, oLen, oMod, oAdd, oSub, oMul, oDiv, oMax, oMin, oPlus, oEqX, oNeX, eqX_int, eqX_str, eqX_bl, oCmp, oLtX, oLeX, oGtX, oGeX, oIxX, oInX, wCB, wCons, wNil, wVar, wMove, nth, put, startR, wNext, wRet, wRetN, wDrop, wFor, wiR1, wiR2, wiX, itemsOf, wgName, wgTup, wgCons, wgNil, wLend, wLendT, seeR_cons, seeR_nil, seeO_d, seeO_none, seeO_ol, seeO_od, wJoin, wM, oAppend, oPop, oPopAt, wDPut, wDPop, wSortK, wDict0, wTup, wLst, wCall, wAnd, wOr, wNot, wAndV, wOrV, wNotV, wIf, wYes, wLc, wiEnumX, oListX, oTuple, oSort, oSortSet, oAll, oAny, S.fz, S.own, D.flat, txts_map, bools_map, txtKeys_map, List.length_map, List.map_cons, List.map_nil, List.length_cons, List.length_nil, List.cons_append, List.nil_append, List.replicate, decide_eq_true_eq, Bool.not_eq_true', Bool.not_true, Bool.not_false, if_true, if_false, Nat.zero_add, Nat.reduceAdd, Nat.reduceSub, ge_iff_le, true_and, and_true, zip_unzip, Bool.false_xor, Bool.true_xor, Bool.false_eq_true, Bool.true_eq_false, reduceIte, wipeR, dataR_cons, dataR_nil, dataO_d, dataO_none, dataO_ol, dataO_od, oDict, oIsi, tyD, isiB, wSl, wPart, wNoP, oSl, wDisp1, wDGet2, oRemove, atI_0, atI_1, atI_2, wiRev, revItems, oDictP, wForK, wiKeys, kD, oSortX, oPow, oBitAnd, oShl, oNeg, wUn, oInt, oStr, oDivmod, oIs, isD, wChain, wFz, wFzE, frzR, wLSet, wiZip, seqsD, wiVals, wiItems, wOIx, wNo, Option.isSome_some, oMulX, wM1, oSplit, oPart, oStrip1, oRep, oSum, intsD, wRaise, wLI, wLK
, wiR3, wLR, wDisp, wPairs, oReverse, oClear, oInsert, wRevL, wDZ, seqLT, oSortIT, wOFld, wSFld, asOI, setOI, putG, wPar, wiItemsC, wiValsC, wIndexL, wDZO, wLO, wiZip3, wTry1, wgDrop, wIsE, wLRev, wLZ]
  rw [show rangeD 0 (3 : Int).toNat = (List.range 3).map fun (k : Nat) => D.int (0 + k) from rfl]
  refine ⟨⟨by decide, by decide⟩, ?_⟩
  refine forD_map (I := fun _ _ ρ => ∃ o3 o5 o6 o8 o9 o10 o11 o12 o13 : Option S, ρ = [some (.d (.cel ns)), some (.d (.str s)), some (.d (.int (N : Nat))), o3, some (.d (.lst (tabsD T))), o5, o6, some (.d (.lst (T.map fun t => fD (formF (sg s) t)))), o8, o9, o10, o11, o12, o13]) mono_name _ (fun done i ys ρ he hI => ?_) (fun ρ hI => ?_) _ ⟨_, _, _, _, _, _, _, _, _, rfl⟩
  · obtain ⟨o3, o5, o6, o8, o9, o10, o11, o12, o13, rfl⟩ := hI
    have hi : i < 3 := List.mem_range.mp (by rw [he]; simp)
    obtain ⟨ti, ei, li⟩ := atT hi
    simp only [w_law_b2, wSeq, wSet, wAsg, wC, wIfS, wB, wOp, oI, oI0, asI, asS, asL, asLT, asT, asB, asA_some, asA_none, asO, asOL, asOD, asKey, asDic, asSq, oLen, oMod, oAdd, oSub, oMul, oDiv, oMax, oMin, oPlus, oEqX, oNeX, eqX_int, eqX_str, eqX_bl, oCmp, oLtX, oLeX, oGtX, oGeX, oIxX, oInX, wCB, wCons, wNil, wVar, wMove, nth, put, startR, wNext, wRet, wRetN, wDrop, wFor, wiR1, wiR2, wiX, itemsOf, wgName, wgTup, wgCons, wgNil, wLend, wLendT, seeR_cons, seeR_nil, seeO_d, seeO_none, seeO_ol, seeO_od, wJoin, wM, oAppend, oPop, oPopAt, wDPut, wDPop, wSortK, wDict0, wTup, wLst, wCall, wAnd, wOr, wNot, wAndV, wOrV, wNotV, wIf, wYes, wLc, wiEnumX, oListX, oTuple, oSort, oSortSet, oAll, oAny, S.fz, S.own, D.flat, txts_map, bools_map, txtKeys_map, List.length_map, List.map_cons, List.map_nil, List.length_cons, List.length_nil, List.cons_append, List.nil_append, List.replicate, decide_eq_true_eq, Bool.not_eq_true', Bool.not_true, Bool.not_false, if_true, if_false, Nat.zero_add, Nat.reduceAdd, Nat.reduceSub, ge_iff_le, true_and, and_true, zip_unzip, Bool.false_xor, Bool.true_xor, Bool.false_eq_true, Bool.true_eq_false, reduceIte, wipeR, dataR_cons, dataR_nil, dataO_d, dataO_none, dataO_ol, dataO_od, oDict, oIsi, tyD, isiB, wSl, wPart, wNoP, oSl, wDisp1, wDGet2, oRemove, atI_0, atI_1, atI_2, wiRev, revItems, oDictP, wForK, wiKeys, kD, oSortX, oPow, oBitAnd, oShl, oNeg, wUn, oInt, oStr, oDivmod, oIs, isD, wChain, wFz, wFzE, frzR, wLSet, wiZip, seqsD, wiVals, wiItems, wOIx, wNo, Option.isSome_some, oMulX, wM1, oSplit, oPart, oStrip1, oRep, oSum, intsD, wRaise, wLI, wLK
, wiR3, wLR, wDisp, wPairs, oReverse, oClear, oInsert, wRevL, wDZ, seqLT, oSortIT, wOFld, wSFld, asOI, setOI, putG, wPar, wiItemsC, wiValsC, wIndexL, wDZO, wLO, wiZip3, wTry1, wgDrop, wIsE, wLRev, wLZ]
    rw [show rangeD 0 (3 : Int).toNat = (List.range 3).map fun (k : Nat) => D.int (0 + k) from rfl]
    refine ⟨⟨by decide, by decide⟩, ?_⟩
    refine forD_map (I := fun _ _ ρ => ∃ o3 o5 o6 o8 o10 o11 o12 o13 : Option S, ρ = [some (.d (.cel ns)), some (.d (.str s)), some (.d (.int (N : Nat))), o3, some (.d (.lst (tabsD T))), o5, o6, some (.d (.lst (T.map fun t => fD (formF (sg s) t)))), o8, some (.d (.int (i : Nat))), o10, o11, o12, o13]) mono_name _ (fun done j ys ρ he hI => ?_) (fun ρ hI => ?_) _ ⟨_, _, _, _, _, _, _, _, by rw [Int.zero_add]⟩
    · obtain ⟨o3, o5, o6, o8, o10, o11, o12, o13, rfl⟩ := hI
      have hj : j < 3 := List.mem_range.mp (by rw [he]; simp)
      obtain ⟨tj, ej, lj⟩ := atT hj
      simp only [w_law_b1, Int.zero_add, wSeq, wSet, wAsg, wC, wIfS, wB, wOp, oI, oI0, asI, asS, asL, asLT, asT, asB, asA_some, asA_none, asO, asOL, asOD, asKey, asDic, asSq, oLen, oMod, oAdd, oSub, oMul, oDiv, oMax, oMin, oPlus, oEqX, oNeX, eqX_int, eqX_str, eqX_bl, oCmp, oLtX, oLeX, oGtX, oGeX, oIxX, oInX, wCB, wCons, wNil, wVar, wMove, nth, put, startR, wNext, wRet, wRetN, wDrop, wFor, wiR1, wiR2, wiX, itemsOf, wgName, wgTup, wgCons, wgNil, wLend, wLendT, seeR_cons, seeR_nil, seeO_d, seeO_none, seeO_ol, seeO_od, wJoin, wM, oAppend, oPop, oPopAt, wDPut, wDPop, wSortK, wDict0, wTup, wLst, wCall, wAnd, wOr, wNot, wAndV, wOrV, wNotV, wIf, wYes, wLc, wiEnumX, oListX, oTuple, oSort, oSortSet, oAll, oAny, S.fz, S.own, D.flat, txts_map, bools_map, txtKeys_map, List.length_map, List.map_cons, List.map_nil, List.length_cons, List.length_nil, List.cons_append, List.nil_append, List.replicate, decide_eq_true_eq, Bool.not_eq_true', Bool.not_true, Bool.not_false, if_true, if_false, Nat.zero_add, Nat.reduceAdd, Nat.reduceSub, ge_iff_le, true_and, and_true, zip_unzip, Bool.false_xor, Bool.true_xor, Bool.false_eq_true, Bool.true_eq_false, reduceIte, wipeR, dataR_cons, dataR_nil, dataO_d, dataO_none, dataO_ol, dataO_od, oDict, oIsi, tyD, isiB, wSl, wPart, wNoP, oSl, wDisp1, wDGet2, oRemove, atI_0, atI_1, atI_2, wiRev, revItems, oDictP, wForK, wiKeys, kD, oSortX, oPow, oBitAnd, oShl, oNeg, wUn, oInt, oStr, oDivmod, oIs, isD, wChain, wFz, wFzE, frzR, wLSet, wiZip, seqsD, wiVals, wiItems, wOIx, wNo, Option.isSome_some, oMulX, wM1, oSplit, oPart, oStrip1, oRep, oSum, intsD, wRaise, wLI, wLK
, wiR3, wLR, wDisp, wPairs, oReverse, oClear, oInsert, wRevL, wDZ, seqLT, oSortIT, wOFld, wSFld, asOI, setOI, putG, wPar, wiItemsC, wiValsC, wIndexL, wDZO, wLO, wiZip3, wTry1, wgDrop, wIsE, wLRev, wLZ, at1 ei, at1 ej, asA_some, sp_L_within_ca5]
      refine ⟨ti, tj, rfl, rfl, by omega, ?_⟩
      simp only [w_law_b1_t1, w_law_b1_t2, wSeq, wSet, wAsg, wC, wIfS, wB, wOp, oI, oI0, asI, asS, asL, asLT, asT, asB, asA_some, asA_none, asO, asOL, asOD, asKey, asDic, asSq, oLen, oMod, oAdd, oSub, oMul, oDiv, oMax, oMin, oPlus, oEqX, oNeX, eqX_int, eqX_str, eqX_bl, oCmp, oLtX, oLeX, oGtX, oGeX, oIxX, oInX, wCB, wCons, wNil, wVar, wMove, nth, put, startR, wNext, wRet, wRetN, wDrop, wFor, wiR1, wiR2, wiX, itemsOf, wgName, wgTup, wgCons, wgNil, wLend, wLendT, seeR_cons, seeR_nil, seeO_d, seeO_none, seeO_ol, seeO_od, wJoin, wM, oAppend, oPop, oPopAt, wDPut, wDPop, wSortK, wDict0, wTup, wLst, wCall, wAnd, wOr, wNot, wAndV, wOrV, wNotV, wIf, wYes, wLc, wiEnumX, oListX, oTuple, oSort, oSortSet, oAll, oAny, S.fz, S.own, D.flat, txts_map, bools_map, txtKeys_map, List.length_map, List.map_cons, List.map_nil, List.length_cons, List.length_nil, List.cons_append, List.nil_append, List.replicate, decide_eq_true_eq, Bool.not_eq_true', Bool.not_true, Bool.not_false, if_true, if_false, Nat.zero_add, Nat.reduceAdd, Nat.reduceSub, ge_iff_le, true_and, and_true, zip_unzip, Bool.false_xor, Bool.true_xor, Bool.false_eq_true, Bool.true_eq_false, reduceIte, wipeR, dataR_cons, dataR_nil, dataO_d, dataO_none, dataO_ol, dataO_od, oDict, oIsi, tyD, isiB, wSl, wPart, wNoP, oSl, wDisp1, wDGet2, oRemove, atI_0, atI_1, atI_2, wiRev, revItems, oDictP, wForK, wiKeys, kD, oSortX, oPow, oBitAnd, oShl, oNeg, wUn, oInt, oStr, oDivmod, oIs, isD, wChain, wFz, wFzE, frzR, wLSet, wiZip, seqsD, wiVals, wiItems, wOIx, wNo, Option.isSome_some, oMulX, wM1, oSplit, oPart, oStrip1, oRep, oSum, intsD, wRaise, wLI, wLK
, wiR3, wLR, wDisp, wPairs, oReverse, oClear, oInsert, wRevL, wDZ, seqLT, oSortIT, wOFld, wSFld, asOI, setOI, putG, wPar, wiItemsC, wiValsC, wIndexL, wDZO, wLO, wiZip3, wTry1, wgDrop, wIsE, wLRev, wLZ, at2 ei, at2 ej, asA_some, sp_leads, asF_fD]
      refine ⟨⟨ff ti, ff tj⟩, ?_⟩
      rw [form_lead hs (by omega) (by omega)]
      simp only [wSeq, wSet, wAsg, wC, wIfS, wB, wOp, oI, oI0, asI, asS, asL, asLT, asT, asB, asA_some, asA_none, asO, asOL, asOD, asKey, asDic, asSq, oLen, oMod, oAdd, oSub, oMul, oDiv, oMax, oMin, oPlus, oEqX, oNeX, eqX_int, eqX_str, eqX_bl, oCmp, oLtX, oLeX, oGtX, oGeX, oIxX, oInX, wCB, wCons, wNil, wVar, wMove, nth, put, startR, wNext, wRet, wRetN, wDrop, wFor, wiR1, wiR2, wiX, itemsOf, wgName, wgTup, wgCons, wgNil, wLend, wLendT, seeR_cons, seeR_nil, seeO_d, seeO_none, seeO_ol, seeO_od, wJoin, wM, oAppend, oPop, oPopAt, wDPut, wDPop, wSortK, wDict0, wTup, wLst, wCall, wAnd, wOr, wNot, wAndV, wOrV, wNotV, wIf, wYes, wLc, wiEnumX, oListX, oTuple, oSort, oSortSet, oAll, oAny, S.fz, S.own, D.flat, txts_map, bools_map, txtKeys_map, List.length_map, List.map_cons, List.map_nil, List.length_cons, List.length_nil, List.cons_append, List.nil_append, List.replicate, decide_eq_true_eq, Bool.not_eq_true', Bool.not_true, Bool.not_false, if_true, if_false, Nat.zero_add, Nat.reduceAdd, Nat.reduceSub, ge_iff_le, true_and, and_true, zip_unzip, Bool.false_xor, Bool.true_xor, Bool.false_eq_true, Bool.true_eq_false, reduceIte, wipeR, dataR_cons, dataR_nil, dataO_d, dataO_none, dataO_ol, dataO_od, oDict, oIsi, tyD, isiB, wSl, wPart, wNoP, oSl, wDisp1, wDGet2, oRemove, atI_0, atI_1, atI_2, wiRev, revItems, oDictP, wForK, wiKeys, kD, oSortX, oPow, oBitAnd, oShl, oNeg, wUn, oInt, oStr, oDivmod, oIs, isD, wChain, wFz, wFzE, frzR, wLSet, wiZip, seqsD, wiVals, wiItems, wOIx, wNo, Option.isSome_some, oMulX, wM1, oSplit, oPart, oStrip1, oRep, oSum, intsD, wRaise, wLI, wLK
, wiR3, wLR, wDisp, wPairs, oReverse, oClear, oInsert, wRevL, wDZ, seqLT, oSortIT, wOFld, wSFld, asOI, setOI, putG, wPar, wiItemsC, wiValsC, wIndexL, wDZO, wLO, wiZip3, wTry1, wgDrop, wIsE, wLRev, wLZ, decide_true]
      split
      · exact ⟨_, _, _, _, _, _, _, _, rfl⟩
      have ez : zipD (ti.map D.bl) (tj.map D.bl) = (ti.zip tj).map fun q => .tup [.bl q.1, .bl q.2] := zipD_bls ti tj
      have lz : (ti.zip tj).length = N := by rw [List.length_zip]; omega
      have es : ∀ {P : Bool → Prop}, eqX (fD (formF (sg s) ti)) (fD (formF (sg s) tj)) P = P (decide (ti = tj)) := fun {P} => by
        rw [eqX_frm (ff ti) (ff tj)]
        congr 1
        exact decide_eq_decide.mpr (form_same hs (by omega) (by omega))
      have rest : ∀ {DD : DEnds} {o3 o5 o6 o8 o11 o12 o13 : Option S}, (∀ o6 o12 o13, DD.nx [some (.d (.cel ns)), some (.d (.str s)), some (.d (.int (N : Nat))), o3, some (.d (.lst (tabsD T))), o5, o6, some (.d (.lst (T.map fun t => fD (formF (sg s) t)))), o8, some (.d (.int (i : Nat))), some (.d (.int (j : Nat))), o11, o12, o13]) →
          w_law_b1_t4 DD [some (.d (.cel ns)), some (.d (.str s)), some (.d (.int (N : Nat))), o3, some (.d (.lst (tabsD T))), o5, o6, some (.d (.lst (T.map fun t => fD (formF (sg s) t)))), o8, some (.d (.int (i : Nat))), some (.d (.int (j : Nat))), o11, o12, o13] := fun {DD o3 o5 o6 o8 o11 o12 o13} hn => by
        simp only [w_law_b1_t4, wSeq, wSet, wAsg, wC, wIfS, wB, wOp, oI, oI0, asI, asS, asL, asLT, asT, asB, asA_some, asA_none, asO, asOL, asOD, asKey, asDic, asSq, oLen, oMod, oAdd, oSub, oMul, oDiv, oMax, oMin, oPlus, oEqX, oNeX, eqX_int, eqX_str, eqX_bl, oCmp, oLtX, oLeX, oGtX, oGeX, oIxX, oInX, wCB, wCons, wNil, wVar, wMove, nth, put, startR, wNext, wRet, wRetN, wDrop, wFor, wiR1, wiR2, wiX, itemsOf, wgName, wgTup, wgCons, wgNil, wLend, wLendT, seeR_cons, seeR_nil, seeO_d, seeO_none, seeO_ol, seeO_od, wJoin, wM, oAppend, oPop, oPopAt, wDPut, wDPop, wSortK, wDict0, wTup, wLst, wCall, wAnd, wOr, wNot, wAndV, wOrV, wNotV, wIf, wYes, wLc, wiEnumX, oListX, oTuple, oSort, oSortSet, oAll, oAny, S.fz, S.own, D.flat, txts_map, bools_map, txtKeys_map, List.length_map, List.map_cons, List.map_nil, List.length_cons, List.length_nil, List.cons_append, List.nil_append, List.replicate, decide_eq_true_eq, Bool.not_eq_true', Bool.not_true, Bool.not_false, if_true, if_false, Nat.zero_add, Nat.reduceAdd, Nat.reduceSub, ge_iff_le, true_and, and_true, zip_unzip, Bool.false_xor, Bool.true_xor, Bool.false_eq_true, Bool.true_eq_false, reduceIte, wipeR, dataR_cons, dataR_nil, dataO_d, dataO_none, dataO_ol, dataO_od, oDict, oIsi, tyD, isiB, wSl, wPart, wNoP, oSl, wDisp1, wDGet2, oRemove, atI_0, atI_1, atI_2, wiRev, revItems, oDictP, wForK, wiKeys, kD, oSortX, oPow, oBitAnd, oShl, oNeg, wUn, oInt, oStr, oDivmod, oIs, isD, wChain, wFz, wFzE, frzR, wLSet, wiZip, seqsD, wiVals, wiItems, wOIx, wNo, Option.isSome_some, oMulX, wM1, oSplit, oPart, oStrip1, oRep, oSum, intsD, wRaise, wLI, wLK
, wiR3, wLR, wDisp, wPairs, oReverse, oClear, oInsert, wRevL, wDZ, seqLT, oSortIT, wOFld, wSFld, asOI, setOI, putG, wPar, wiItemsC, wiValsC, wIndexL, wDZO, wLO, wiZip3, wTry1, wgDrop, wIsE, wLRev, wLZ, at1 ei, at1 ej, asA_some, ez]
        refine ⟨by rw [List.length_zip, List.length_map, List.length_map, len0]; omega, ?_⟩
        simp only [w_law_b1_t5, wSeq, wSet, wAsg, wC, wIfS, wB, wOp, oI, oI0, asI, asS, asL, asLT, asT, asB, asA_some, asA_none, asO, asOL, asOD, asKey, asDic, asSq, oLen, oMod, oAdd, oSub, oMul, oDiv, oMax, oMin, oPlus, oEqX, oNeX, eqX_int, eqX_str, eqX_bl, oCmp, oLtX, oLeX, oGtX, oGeX, oIxX, oInX, wCB, wCons, wNil, wVar, wMove, nth, put, startR, wNext, wRet, wRetN, wDrop, wFor, wiR1, wiR2, wiX, itemsOf, wgName, wgTup, wgCons, wgNil, wLend, wLendT, seeR_cons, seeR_nil, seeO_d, seeO_none, seeO_ol, seeO_od, wJoin, wM, oAppend, oPop, oPopAt, wDPut, wDPop, wSortK, wDict0, wTup, wLst, wCall, wAnd, wOr, wNot, wAndV, wOrV, wNotV, wIf, wYes, wLc, wiEnumX, oListX, oTuple, oSort, oSortSet, oAll, oAny, S.fz, S.own, D.flat, txts_map, bools_map, txtKeys_map, List.length_map, List.map_cons, List.map_nil, List.length_cons, List.length_nil, List.cons_append, List.nil_append, List.replicate, decide_eq_true_eq, Bool.not_eq_true', Bool.not_true, Bool.not_false, if_true, if_false, Nat.zero_add, Nat.reduceAdd, Nat.reduceSub, ge_iff_le, true_and, and_true, zip_unzip, Bool.false_xor, Bool.true_xor, Bool.false_eq_true, Bool.true_eq_false, reduceIte, wipeR, dataR_cons, dataR_nil, dataO_d, dataO_none, dataO_ol, dataO_od, oDict, oIsi, tyD, isiB, wSl, wPart, wNoP, oSl, wDisp1, wDGet2, oRemove, atI_0, atI_1, atI_2, wiRev, revItems, oDictP, wForK, wiKeys, kD, oSortX, oPow, oBitAnd, oShl, oNeg, wUn, oInt, oStr, oDivmod, oIs, isD, wChain, wFz, wFzE, frzR, wLSet, wiZip, seqsD, wiVals, wiItems, wOIx, wNo, Option.isSome_some, oMulX, wM1, oSplit, oPart, oStrip1, oRep, oSum, intsD, wRaise, wLI, wLK
, wiR3, wLR, wDisp, wPairs, oReverse, oClear, oInsert, wRevL, wDZ, seqLT, oSortIT, wOFld, wSFld, asOI, setOI, putG, wPar, wiItemsC, wiValsC, wIndexL, wDZO, wLO, wiZip3, wTry1, wgDrop, wIsE, wLRev, wLZ, at2 ei, at2 ej, asA_some, sp_joined, asF_fD]
        refine ⟨⟨ff ti, ff tj⟩, by rw [lz, len0]; omega, ?_⟩
        refine compD_map mono_pr (fun q : Bool × Bool => some (.bl (q.1 || q.2))) (ti.zip tj) _ (fun q hq Q' hQ => ?_) ?_
        · obtain ⟨x, y⟩ := q
          cases x <;> cases y <;> (simp only [wSeq, wSet, wAsg, wC, wIfS, wB, wOp, oI, oI0, asI, asS, asL, asLT, asT, asB, asA_some, asA_none, asO, asOL, asOD, asKey, asDic, asSq, oLen, oMod, oAdd, oSub, oMul, oDiv, oMax, oMin, oPlus, oEqX, oNeX, eqX_int, eqX_str, eqX_bl, oCmp, oLtX, oLeX, oGtX, oGeX, oIxX, oInX, wCB, wCons, wNil, wVar, wMove, nth, put, startR, wNext, wRet, wRetN, wDrop, wFor, wiR1, wiR2, wiX, itemsOf, wgName, wgTup, wgCons, wgNil, wLend, wLendT, seeR_cons, seeR_nil, seeO_d, seeO_none, seeO_ol, seeO_od, wJoin, wM, oAppend, oPop, oPopAt, wDPut, wDPop, wSortK, wDict0, wTup, wLst, wCall, wAnd, wOr, wNot, wAndV, wOrV, wNotV, wIf, wYes, wLc, wiEnumX, oListX, oTuple, oSort, oSortSet, oAll, oAny, S.fz, S.own, D.flat, txts_map, bools_map, txtKeys_map, List.length_map, List.map_cons, List.map_nil, List.length_cons, List.length_nil, List.cons_append, List.nil_append, List.replicate, decide_eq_true_eq, Bool.not_eq_true', Bool.not_true, Bool.not_false, if_true, if_false, Nat.zero_add, Nat.reduceAdd, Nat.reduceSub, ge_iff_le, true_and, and_true, zip_unzip, Bool.false_xor, Bool.true_xor, Bool.false_eq_true, Bool.true_eq_false, reduceIte, wipeR, dataR_cons, dataR_nil, dataO_d, dataO_none, dataO_ol, dataO_od, oDict, oIsi, tyD, isiB, wSl, wPart, wNoP, oSl, wDisp1, wDGet2, oRemove, atI_0, atI_1, atI_2, wiRev, revItems, oDictP, wForK, wiKeys, kD, oSortX, oPow, oBitAnd, oShl, oNeg, wUn, oInt, oStr, oDivmod, oIs, isD, wChain, wFz, wFzE, frzR, wLSet, wiZip, seqsD, wiVals, wiItems, wOIx, wNo, Option.isSome_some, oMulX, wM1, oSplit, oPart, oStrip1, oRep, oSum, intsD, wRaise, wLI, wLK
, wiR3, wLR, wDisp, wPairs, oReverse, oClear, oInsert, wRevL, wDZ, seqLT, oSortIT, wOFld, wSFld, asOI, setOI, putG, wPar, wiItemsC, wiValsC, wIndexL, wDZO, wLO, wiZip3, wTry1, wgDrop, wIsE, wLRev, wLZ]; exact hQ)
        have e : (ti.zip tj).filterMap (fun q : Bool × Bool => some (D.bl (q.1 || q.2))) = ((ti.zip tj).map fun q => q.1 || q.2).map .bl := by
          rw [List.map_map]; exact congrFun List.filterMap_eq_map' _
        rw [e]
        refine ⟨_, rfl, ⟨hs, by rw [List.length_map, lz, eN], by show (sg s).length ≤ 10; omega⟩, ?_⟩
        rw [form_join hs (by omega) (by omega)]
        simp only [eqX_frm (ff _) (ff _), decide_true, wSeq, wSet, wAsg, wC, wIfS, wB, wOp, oI, oI0, asI, asS, asL, asLT, asT, asB, asA_some, asA_none, asO, asOL, asOD, asKey, asDic, asSq, oLen, oMod, oAdd, oSub, oMul, oDiv, oMax, oMin, oPlus, oEqX, oNeX, eqX_int, eqX_str, eqX_bl, oCmp, oLtX, oLeX, oGtX, oGeX, oIxX, oInX, wCB, wCons, wNil, wVar, wMove, nth, put, startR, wNext, wRet, wRetN, wDrop, wFor, wiR1, wiR2, wiX, itemsOf, wgName, wgTup, wgCons, wgNil, wLend, wLendT, seeR_cons, seeR_nil, seeO_d, seeO_none, seeO_ol, seeO_od, wJoin, wM, oAppend, oPop, oPopAt, wDPut, wDPop, wSortK, wDict0, wTup, wLst, wCall, wAnd, wOr, wNot, wAndV, wOrV, wNotV, wIf, wYes, wLc, wiEnumX, oListX, oTuple, oSort, oSortSet, oAll, oAny, S.fz, S.own, D.flat, txts_map, bools_map, txtKeys_map, List.length_map, List.map_cons, List.map_nil, List.length_cons, List.length_nil, List.cons_append, List.nil_append, List.replicate, decide_eq_true_eq, Bool.not_eq_true', Bool.not_true, Bool.not_false, if_true, if_false, Nat.zero_add, Nat.reduceAdd, Nat.reduceSub, ge_iff_le, true_and, and_true, zip_unzip, Bool.false_xor, Bool.true_xor, Bool.false_eq_true, Bool.true_eq_false, reduceIte, wipeR, dataR_cons, dataR_nil, dataO_d, dataO_none, dataO_ol, dataO_od, oDict, oIsi, tyD, isiB, wSl, wPart, wNoP, oSl, wDisp1, wDGet2, oRemove, atI_0, atI_1, atI_2, wiRev, revItems, oDictP, wForK, wiKeys, kD, oSortX, oPow, oBitAnd, oShl, oNeg, wUn, oInt, oStr, oDivmod, oIs, isD, wChain, wFz, wFzE, frzR, wLSet, wiZip, seqsD, wiVals, wiItems, wOIx, wNo, Option.isSome_some, oMulX, wM1, oSplit, oPart, oStrip1, oRep, oSum, intsD, wRaise, wLI, wLK
, wiR3, wLR, wDisp, wPairs, oReverse, oClear, oInsert, wRevL, wDZ, seqLT, oSortIT, wOFld, wSFld, asOI, setOI, putG, wPar, wiItemsC, wiValsC, wIndexL, wDZO, wLO, wiZip3, wTry1, wgDrop, wIsE, wLRev, wLZ]
        simp only [w_law_b1_t6, wSeq, wSet, wAsg, wC, wIfS, wB, wOp, oI, oI0, asI, asS, asL, asLT, asT, asB, asA_some, asA_none, asO, asOL, asOD, asKey, asDic, asSq, oLen, oMod, oAdd, oSub, oMul, oDiv, oMax, oMin, oPlus, oEqX, oNeX, eqX_int, eqX_str, eqX_bl, oCmp, oLtX, oLeX, oGtX, oGeX, oIxX, oInX, wCB, wCons, wNil, wVar, wMove, nth, put, startR, wNext, wRet, wRetN, wDrop, wFor, wiR1, wiR2, wiX, itemsOf, wgName, wgTup, wgCons, wgNil, wLend, wLendT, seeR_cons, seeR_nil, seeO_d, seeO_none, seeO_ol, seeO_od, wJoin, wM, oAppend, oPop, oPopAt, wDPut, wDPop, wSortK, wDict0, wTup, wLst, wCall, wAnd, wOr, wNot, wAndV, wOrV, wNotV, wIf, wYes, wLc, wiEnumX, oListX, oTuple, oSort, oSortSet, oAll, oAny, S.fz, S.own, D.flat, txts_map, bools_map, txtKeys_map, List.length_map, List.map_cons, List.map_nil, List.length_cons, List.length_nil, List.cons_append, List.nil_append, List.replicate, decide_eq_true_eq, Bool.not_eq_true', Bool.not_true, Bool.not_false, if_true, if_false, Nat.zero_add, Nat.reduceAdd, Nat.reduceSub, ge_iff_le, true_and, and_true, zip_unzip, Bool.false_xor, Bool.true_xor, Bool.false_eq_true, Bool.true_eq_false, reduceIte, wipeR, dataR_cons, dataR_nil, dataO_d, dataO_none, dataO_ol, dataO_od, oDict, oIsi, tyD, isiB, wSl, wPart, wNoP, oSl, wDisp1, wDGet2, oRemove, atI_0, atI_1, atI_2, wiRev, revItems, oDictP, wForK, wiKeys, kD, oSortX, oPow, oBitAnd, oShl, oNeg, wUn, oInt, oStr, oDivmod, oIs, isD, wChain, wFz, wFzE, frzR, wLSet, wiZip, seqsD, wiVals, wiItems, wOIx, wNo, Option.isSome_some, oMulX, wM1, oSplit, oPart, oStrip1, oRep, oSum, intsD, wRaise, wLI, wLK
, wiR3, wLR, wDisp, wPairs, oReverse, oClear, oInsert, wRevL, wDZ, seqLT, oSortIT, wOFld, wSFld, asOI, setOI, putG, wPar, wiItemsC, wiValsC, wIndexL, wDZO, wLO, wiZip3, wTry1, wgDrop, wIsE, wLRev, wLZ, at2 ei, at2 ej, asA_some, sp_multiplied, asF_fD]
        refine ⟨⟨ff ti, ff tj⟩, by rw [lz, len0]; omega, ?_⟩
        refine compD_map mono_pr (fun q : Bool × Bool => some (.bl (q.1 && q.2))) (ti.zip tj) _ (fun q hq Q' hQ => ?_) ?_
        · obtain ⟨x, y⟩ := q
          cases x <;> cases y <;> (simp only [wSeq, wSet, wAsg, wC, wIfS, wB, wOp, oI, oI0, asI, asS, asL, asLT, asT, asB, asA_some, asA_none, asO, asOL, asOD, asKey, asDic, asSq, oLen, oMod, oAdd, oSub, oMul, oDiv, oMax, oMin, oPlus, oEqX, oNeX, eqX_int, eqX_str, eqX_bl, oCmp, oLtX, oLeX, oGtX, oGeX, oIxX, oInX, wCB, wCons, wNil, wVar, wMove, nth, put, startR, wNext, wRet, wRetN, wDrop, wFor, wiR1, wiR2, wiX, itemsOf, wgName, wgTup, wgCons, wgNil, wLend, wLendT, seeR_cons, seeR_nil, seeO_d, seeO_none, seeO_ol, seeO_od, wJoin, wM, oAppend, oPop, oPopAt, wDPut, wDPop, wSortK, wDict0, wTup, wLst, wCall, wAnd, wOr, wNot, wAndV, wOrV, wNotV, wIf, wYes, wLc, wiEnumX, oListX, oTuple, oSort, oSortSet, oAll, oAny, S.fz, S.own, D.flat, txts_map, bools_map, txtKeys_map, List.length_map, List.map_cons, List.map_nil, List.length_cons, List.length_nil, List.cons_append, List.nil_append, List.replicate, decide_eq_true_eq, Bool.not_eq_true', Bool.not_true, Bool.not_false, if_true, if_false, Nat.zero_add, Nat.reduceAdd, Nat.reduceSub, ge_iff_le, true_and, and_true, zip_unzip, Bool.false_xor, Bool.true_xor, Bool.false_eq_true, Bool.true_eq_false, reduceIte, wipeR, dataR_cons, dataR_nil, dataO_d, dataO_none, dataO_ol, dataO_od, oDict, oIsi, tyD, isiB, wSl, wPart, wNoP, oSl, wDisp1, wDGet2, oRemove, atI_0, atI_1, atI_2, wiRev, revItems, oDictP, wForK, wiKeys, kD, oSortX, oPow, oBitAnd, oShl, oNeg, wUn, oInt, oStr, oDivmod, oIs, isD, wChain, wFz, wFzE, frzR, wLSet, wiZip, seqsD, wiVals, wiItems, wOIx, wNo, Option.isSome_some, oMulX, wM1, oSplit, oPart, oStrip1, oRep, oSum, intsD, wRaise, wLI, wLK
, wiR3, wLR, wDisp, wPairs, oReverse, oClear, oInsert, wRevL, wDZ, seqLT, oSortIT, wOFld, wSFld, asOI, setOI, putG, wPar, wiItemsC, wiValsC, wIndexL, wDZO, wLO, wiZip3, wTry1, wgDrop, wIsE, wLRev, wLZ]; exact hQ)
        have e : (ti.zip tj).filterMap (fun q : Bool × Bool => some (D.bl (q.1 && q.2))) = ((ti.zip tj).map fun q => q.1 && q.2).map .bl := by
          rw [List.map_map]; exact congrFun List.filterMap_eq_map' _
        rw [e]
        refine ⟨_, rfl, ⟨hs, by rw [List.length_map, lz, eN], by show (sg s).length ≤ 10; omega⟩, ?_⟩
        rw [form_mul hs (by omega) (by omega)]
        simp only [eqX_frm (ff _) (ff _), decide_true, wSeq, wSet, wAsg, wC, wIfS, wB, wOp, oI, oI0, asI, asS, asL, asLT, asT, asB, asA_some, asA_none, asO, asOL, asOD, asKey, asDic, asSq, oLen, oMod, oAdd, oSub, oMul, oDiv, oMax, oMin, oPlus, oEqX, oNeX, eqX_int, eqX_str, eqX_bl, oCmp, oLtX, oLeX, oGtX, oGeX, oIxX, oInX, wCB, wCons, wNil, wVar, wMove, nth, put, startR, wNext, wRet, wRetN, wDrop, wFor, wiR1, wiR2, wiX, itemsOf, wgName, wgTup, wgCons, wgNil, wLend, wLendT, seeR_cons, seeR_nil, seeO_d, seeO_none, seeO_ol, seeO_od, wJoin, wM, oAppend, oPop, oPopAt, wDPut, wDPop, wSortK, wDict0, wTup, wLst, wCall, wAnd, wOr, wNot, wAndV, wOrV, wNotV, wIf, wYes, wLc, wiEnumX, oListX, oTuple, oSort, oSortSet, oAll, oAny, S.fz, S.own, D.flat, txts_map, bools_map, txtKeys_map, List.length_map, List.map_cons, List.map_nil, List.length_cons, List.length_nil, List.cons_append, List.nil_append, List.replicate, decide_eq_true_eq, Bool.not_eq_true', Bool.not_true, Bool.not_false, if_true, if_false, Nat.zero_add, Nat.reduceAdd, Nat.reduceSub, ge_iff_le, true_and, and_true, zip_unzip, Bool.false_xor, Bool.true_xor, Bool.false_eq_true, Bool.true_eq_false, reduceIte, wipeR, dataR_cons, dataR_nil, dataO_d, dataO_none, dataO_ol, dataO_od, oDict, oIsi, tyD, isiB, wSl, wPart, wNoP, oSl, wDisp1, wDGet2, oRemove, atI_0, atI_1, atI_2, wiRev, revItems, oDictP, wForK, wiKeys, kD, oSortX, oPow, oBitAnd, oShl, oNeg, wUn, oInt, oStr, oDivmod, oIs, isD, wChain, wFz, wFzE, frzR, wLSet, wiZip, seqsD, wiVals, wiItems, wOIx, wNo, Option.isSome_some, oMulX, wM1, oSplit, oPart, oStrip1, oRep, oSum, intsD, wRaise, wLI, wLK
, wiR3, wLR, wDisp, wPairs, oReverse, oClear, oInsert, wRevL, wDZ, seqLT, oSortIT, wOFld, wSFld, asOI, setOI, putG, wPar, wiItemsC, wiValsC, wIndexL, wDZO, wLO, wiZip3, wTry1, wgDrop, wIsE, wLRev, wLZ]
        exact hn _ _ _
      have wb := within_both (t := ti) (u := tj) (by omega)
      simp only [w_law_b1_t3, wSeq, wSet, wAsg, wC, wIfS, wB, wOp, oI, oI0, asI, asS, asL, asLT, asT, asB, asA_some, asA_none, asO, asOL, asOD, asKey, asDic, asSq, oLen, oMod, oAdd, oSub, oMul, oDiv, oMax, oMin, oPlus, oEqX, oNeX, eqX_int, eqX_str, eqX_bl, oCmp, oLtX, oLeX, oGtX, oGeX, oIxX, oInX, wCB, wCons, wNil, wVar, wMove, nth, put, startR, wNext, wRet, wRetN, wDrop, wFor, wiR1, wiR2, wiX, itemsOf, wgName, wgTup, wgCons, wgNil, wLend, wLendT, seeR_cons, seeR_nil, seeO_d, seeO_none, seeO_ol, seeO_od, wJoin, wM, oAppend, oPop, oPopAt, wDPut, wDPop, wSortK, wDict0, wTup, wLst, wCall, wAnd, wOr, wNot, wAndV, wOrV, wNotV, wIf, wYes, wLc, wiEnumX, oListX, oTuple, oSort, oSortSet, oAll, oAny, S.fz, S.own, D.flat, txts_map, bools_map, txtKeys_map, List.length_map, List.map_cons, List.map_nil, List.length_cons, List.length_nil, List.cons_append, List.nil_append, List.replicate, decide_eq_true_eq, Bool.not_eq_true', Bool.not_true, Bool.not_false, if_true, if_false, Nat.zero_add, Nat.reduceAdd, Nat.reduceSub, ge_iff_le, true_and, and_true, zip_unzip, Bool.false_xor, Bool.true_xor, Bool.false_eq_true, Bool.true_eq_false, reduceIte, wipeR, dataR_cons, dataR_nil, dataO_d, dataO_none, dataO_ol, dataO_od, oDict, oIsi, tyD, isiB, wSl, wPart, wNoP, oSl, wDisp1, wDGet2, oRemove, atI_0, atI_1, atI_2, wiRev, revItems, oDictP, wForK, wiKeys, kD, oSortX, oPow, oBitAnd, oShl, oNeg, wUn, oInt, oStr, oDivmod, oIs, isD, wChain, wFz, wFzE, frzR, wLSet, wiZip, seqsD, wiVals, wiItems, wOIx, wNo, Option.isSome_some, oMulX, wM1, oSplit, oPart, oStrip1, oRep, oSum, intsD, wRaise, wLI, wLK
, wiR3, wLR, wDisp, wPairs, oReverse, oClear, oInsert, wRevL, wDZ, seqLT, oSortIT, wOFld, wSFld, asOI, setOI, putG, wPar, wiItemsC, wiValsC, wIndexL, wDZO, wLO, wiZip3, wTry1, wgDrop, wIsE, wLRev, wLZ, at1 ei, at1 ej, at2 ei, at2 ej, asA_some, sp_L_within_ca5, es]
      by_cases hw : within ti tj = true
      · rw [if_pos hw]
        rw [hw, Bool.true_and] at wb
        refine ⟨tj, ti, rfl, rfl, by omega, ?_⟩
        rw [wb, if_neg (by simp)]
        exact rest fun _ _ _ => ⟨_, _, _, _, _, _, _, _, rfl⟩
      · rw [if_neg hw]
        rw [Bool.not_eq_true] at hw
        rw [hw, Bool.false_and] at wb
        rw [hw, ← wb, if_neg (by simp)]
        exact rest fun _ _ _ => ⟨_, _, _, _, _, _, _, _, rfl⟩
    · obtain ⟨o3, o5, o6, o8, o10, o11, o12, o13, rfl⟩ := hI
      simp only [w_law_b2_t1, wSeq, wSet, wAsg, wC, wIfS, wB, wOp, oI, oI0, asI, asS, asL, asLT, asT, asB, asA_some, asA_none, asO, asOL, asOD, asKey, asDic, asSq, oLen, oMod, oAdd, oSub, oMul, oDiv, oMax, oMin, oPlus, oEqX, oNeX, eqX_int, eqX_str, eqX_bl, oCmp, oLtX, oLeX, oGtX, oGeX, oIxX, oInX, wCB, wCons, wNil, wVar, wMove, nth, put, startR, wNext, wRet, wRetN, wDrop, wFor, wiR1, wiR2, wiX, itemsOf, wgName, wgTup, wgCons, wgNil, wLend, wLendT, seeR_cons, seeR_nil, seeO_d, seeO_none, seeO_ol, seeO_od, wJoin, wM, oAppend, oPop, oPopAt, wDPut, wDPop, wSortK, wDict0, wTup, wLst, wCall, wAnd, wOr, wNot, wAndV, wOrV, wNotV, wIf, wYes, wLc, wiEnumX, oListX, oTuple, oSort, oSortSet, oAll, oAny, S.fz, S.own, D.flat, txts_map, bools_map, txtKeys_map, List.length_map, List.map_cons, List.map_nil, List.length_cons, List.length_nil, List.cons_append, List.nil_append, List.replicate, decide_eq_true_eq, Bool.not_eq_true', Bool.not_true, Bool.not_false, if_true, if_false, Nat.zero_add, Nat.reduceAdd, Nat.reduceSub, ge_iff_le, true_and, and_true, zip_unzip, Bool.false_xor, Bool.true_xor, Bool.false_eq_true, Bool.true_eq_false, reduceIte, wipeR, dataR_cons, dataR_nil, dataO_d, dataO_none, dataO_ol, dataO_od, oDict, oIsi, tyD, isiB, wSl, wPart, wNoP, oSl, wDisp1, wDGet2, oRemove, atI_0, atI_1, atI_2, wiRev, revItems, oDictP, wForK, wiKeys, kD, oSortX, oPow, oBitAnd, oShl, oNeg, wUn, oInt, oStr, oDivmod, oIs, isD, wChain, wFz, wFzE, frzR, wLSet, wiZip, seqsD, wiVals, wiItems, wOIx, wNo, Option.isSome_some, oMulX, wM1, oSplit, oPart, oStrip1, oRep, oSum, intsD, wRaise, wLI, wLK
, wiR3, wLR, wDisp, wPairs, oReverse, oClear, oInsert, wRevL, wDZ, seqLT, oSortIT, wOFld, wSFld, asOI, setOI, putG, wPar, wiItemsC, wiValsC, wIndexL, wDZO, wLO, wiZip3, wTry1, wgDrop, wIsE, wLRev, wLZ, at1 ei, at2 ei, asA_some]
      show asF (fD (formF (sg s) ti)) _
      rw [asF_fD]
      refine ⟨ff ti, by rw [len0]; omega, ?_⟩
      refine compD_map mono_name (fun q : Bool => some (.bl (!q))) ti _ (fun q hq Q' hQ => ?_) ?_
      · simp only [wSeq, wSet, wAsg, wC, wIfS, wB, wOp, oI, oI0, asI, asS, asL, asLT, asT, asB, asA_some, asA_none, asO, asOL, asOD, asKey, asDic, asSq, oLen, oMod, oAdd, oSub, oMul, oDiv, oMax, oMin, oPlus, oEqX, oNeX, eqX_int, eqX_str, eqX_bl, oCmp, oLtX, oLeX, oGtX, oGeX, oIxX, oInX, wCB, wCons, wNil, wVar, wMove, nth, put, startR, wNext, wRet, wRetN, wDrop, wFor, wiR1, wiR2, wiX, itemsOf, wgName, wgTup, wgCons, wgNil, wLend, wLendT, seeR_cons, seeR_nil, seeO_d, seeO_none, seeO_ol, seeO_od, wJoin, wM, oAppend, oPop, oPopAt, wDPut, wDPop, wSortK, wDict0, wTup, wLst, wCall, wAnd, wOr, wNot, wAndV, wOrV, wNotV, wIf, wYes, wLc, wiEnumX, oListX, oTuple, oSort, oSortSet, oAll, oAny, S.fz, S.own, D.flat, txts_map, bools_map, txtKeys_map, List.length_map, List.map_cons, List.map_nil, List.length_cons, List.length_nil, List.cons_append, List.nil_append, List.replicate, decide_eq_true_eq, Bool.not_eq_true', Bool.not_true, Bool.not_false, if_true, if_false, Nat.zero_add, Nat.reduceAdd, Nat.reduceSub, ge_iff_le, true_and, and_true, zip_unzip, Bool.false_xor, Bool.true_xor, Bool.false_eq_true, Bool.true_eq_false, reduceIte, wipeR, dataR_cons, dataR_nil, dataO_d, dataO_none, dataO_ol, dataO_od, oDict, oIsi, tyD, isiB, wSl, wPart, wNoP, oSl, wDisp1, wDGet2, oRemove, atI_0, atI_1, atI_2, wiRev, revItems, oDictP, wForK, wiKeys, kD, oSortX, oPow, oBitAnd, oShl, oNeg, wUn, oInt, oStr, oDivmod, oIs, isD, wChain, wFz, wFzE, frzR, wLSet, wiZip, seqsD, wiVals, wiItems, wOIx, wNo, Option.isSome_some, oMulX, wM1, oSplit, oPart, oStrip1, oRep, oSum, intsD, wRaise, wLI, wLK
, wiR3, wLR, wDisp, wPairs, oReverse, oClear, oInsert, wRevL, wDZ, seqLT, oSortIT, wOFld, wSFld, asOI, setOI, putG, wPar, wiItemsC, wiValsC, wIndexL, wDZO, wLO, wiZip3, wTry1, wgDrop, wIsE, wLRev, wLZ]; exact hQ
      have e : ti.filterMap (fun q : Bool => some (D.bl (!q))) = (ti.map fun q => !q).map .bl := by
        rw [List.map_map]; exact congrFun List.filterMap_eq_map' _
      rw [e]
      refine ⟨_, rfl, ⟨hs, by rw [List.length_map, li, eN], by show (sg s).length ≤ 10; omega⟩, ?_⟩
      rw [form_opp hs (by omega)]
      simp only [eqX_frm (ff _) (ff _), decide_true, wSeq, wSet, wAsg, wC, wIfS, wB, wOp, oI, oI0, asI, asS, asL, asLT, asT, asB, asA_some, asA_none, asO, asOL, asOD, asKey, asDic, asSq, oLen, oMod, oAdd, oSub, oMul, oDiv, oMax, oMin, oPlus, oEqX, oNeX, eqX_int, eqX_str, eqX_bl, oCmp, oLtX, oLeX, oGtX, oGeX, oIxX, oInX, wCB, wCons, wNil, wVar, wMove, nth, put, startR, wNext, wRet, wRetN, wDrop, wFor, wiR1, wiR2, wiX, itemsOf, wgName, wgTup, wgCons, wgNil, wLend, wLendT, seeR_cons, seeR_nil, seeO_d, seeO_none, seeO_ol, seeO_od, wJoin, wM, oAppend, oPop, oPopAt, wDPut, wDPop, wSortK, wDict0, wTup, wLst, wCall, wAnd, wOr, wNot, wAndV, wOrV, wNotV, wIf, wYes, wLc, wiEnumX, oListX, oTuple, oSort, oSortSet, oAll, oAny, S.fz, S.own, D.flat, txts_map, bools_map, txtKeys_map, List.length_map, List.map_cons, List.map_nil, List.length_cons, List.length_nil, List.cons_append, List.nil_append, List.replicate, decide_eq_true_eq, Bool.not_eq_true', Bool.not_true, Bool.not_false, if_true, if_false, Nat.zero_add, Nat.reduceAdd, Nat.reduceSub, ge_iff_le, true_and, and_true, zip_unzip, Bool.false_xor, Bool.true_xor, Bool.false_eq_true, Bool.true_eq_false, reduceIte, wipeR, dataR_cons, dataR_nil, dataO_d, dataO_none, dataO_ol, dataO_od, oDict, oIsi, tyD, isiB, wSl, wPart, wNoP, oSl, wDisp1, wDGet2, oRemove, atI_0, atI_1, atI_2, wiRev, revItems, oDictP, wForK, wiKeys, kD, oSortX, oPow, oBitAnd, oShl, oNeg, wUn, oInt, oStr, oDivmod, oIs, isD, wChain, wFz, wFzE, frzR, wLSet, wiZip, seqsD, wiVals, wiItems, wOIx, wNo, Option.isSome_some, oMulX, wM1, oSplit, oPart, oStrip1, oRep, oSum, intsD, wRaise, wLI, wLK
, wiR3, wLR, wDisp, wPairs, oReverse, oClear, oInsert, wRevL, wDZ, seqLT, oSortIT, wOFld, wSFld, asOI, setOI, putG, wPar, wiItemsC, wiValsC, wIndexL, wDZO, wLO, wiZip3, wTry1, wgDrop, wIsE, wLRev, wLZ]
      exact ⟨_, _, _, _, _, _, _, _, _, rfl⟩
  · obtain ⟨o3, o5, o6, o8, o9, o10, o11, o12, o13, rfl⟩ := hI
    simp only [w_law_t8, wSeq, wSet, wAsg, wC, wIfS, wB, wOp, oI, oI0, asI, asS, asL, asLT, asT, asB, asA_some, asA_none, asO, asOL, asOD, asKey, asDic, asSq, oLen, oMod, oAdd, oSub, oMul, oDiv, oMax, oMin, oPlus, oEqX, oNeX, eqX_int, eqX_str, eqX_bl, oCmp, oLtX, oLeX, oGtX, oGeX, oIxX, oInX, wCB, wCons, wNil, wVar, wMove, nth, put, startR, wNext, wRet, wRetN, wDrop, wFor, wiR1, wiR2, wiX, itemsOf, wgName, wgTup, wgCons, wgNil, wLend, wLendT, seeR_cons, seeR_nil, seeO_d, seeO_none, seeO_ol, seeO_od, wJoin, wM, oAppend, oPop, oPopAt, wDPut, wDPop, wSortK, wDict0, wTup, wLst, wCall, wAnd, wOr, wNot, wAndV, wOrV, wNotV, wIf, wYes, wLc, wiEnumX, oListX, oTuple, oSort, oSortSet, oAll, oAny, S.fz, S.own, D.flat, txts_map, bools_map, txtKeys_map, List.length_map, List.map_cons, List.map_nil, List.length_cons, List.length_nil, List.cons_append, List.nil_append, List.replicate, decide_eq_true_eq, Bool.not_eq_true', Bool.not_true, Bool.not_false, if_true, if_false, Nat.zero_add, Nat.reduceAdd, Nat.reduceSub, ge_iff_le, true_and, and_true, zip_unzip, Bool.false_xor, Bool.true_xor, Bool.false_eq_true, Bool.true_eq_false, reduceIte, wipeR, dataR_cons, dataR_nil, dataO_d, dataO_none, dataO_ol, dataO_od, oDict, oIsi, tyD, isiB, wSl, wPart, wNoP, oSl, wDisp1, wDGet2, oRemove, atI_0, atI_1, atI_2, wiRev, revItems, oDictP, wForK, wiKeys, kD, oSortX, oPow, oBitAnd, oShl, oNeg, wUn, oInt, oStr, oDivmod, oIs, isD, wChain, wFz, wFzE, frzR, wLSet, wiZip, seqsD, wiVals, wiItems, wOIx, wNo, Option.isSome_some, oMulX, wM1, oSplit, oPart, oStrip1, oRep, oSum, intsD, wRaise, wLI, wLK
, wiR3, wLR, wDisp, wPairs, oReverse, oClear, oInsert, wRevL, wDZ, seqLT, oSortIT, wOFld, wSFld, asOI, setOI, putG, wPar, wiItemsC, wiValsC, wIndexL, wDZO, wLO, wiZip3, wTry1, wgDrop, wIsE, wLRev, wLZ]
    exact hq
end DL
namespace DL
open PySem L2
abbrev sp_law : DSp := spLaw

theorem sc_L_letters : FnScope N_L_letters ["_law_number", "_law_many"] (defScope s_L_letters) := ⟨rfl, rfl, rfl, by decide +kernel, rfl, by decide +kernel, by decide +kernel⟩
set_option maxHeartbeats 4000000 in
theorem ok_L_letters {P : Program} {w : World} {K : PySem.W.Frag} {mg : Str → Option Value} {base : Heap} {f : Addr} {fd : FuncData} (F : Fun K "_law_letters" "_law_letters" s_L_letters f fd) (m_len : mg "len" = none) (m_list : mg "list" = none) :
    FnOk P w K mg base CX0 1 f fd ["_law_number", "_law_many"] (spD K sp_L_letters) := by
  refine fnD F sc_L_letters (fun ds Q px h => len_L_letters h) (fun cdv A outer s H E hr => ⟨_, w_L_letters,
    (dss_cons (ds_set 2 sc_L_letters.nd (de_listX rfl m_list de_str))
    (dss_cons (ds_while PassesOwn.never (dt_lend (dt_gtX hr.units (de_len m_len (de_var 2)) (de_var 1))) (dss_cons (ds_expr (de_popAt 2 (de_mod (de_var 0) (de_lend (de_len m_len (de_var 2))))))
    (dss_one (ds_asg (de_plus (de_div (de_var 0) de_int) de_int) (dg_name 0 sc_L_letters.nd)))))
    (dss_one (ds_ret (de_lend (de_join de_str (de_var 2))))))), fun ds Q px h => rd_L_letters h⟩)

theorem sc_L_mixed : FnScope N_L_mixed ["_law_script", "_law_k"] (defScope s_L_mixed) := ⟨rfl, rfl, rfl, by decide +kernel, rfl, by decide +kernel, by decide +kernel⟩
set_option maxHeartbeats 4000000 in
theorem ok_L_mixed {P : Program} {w : World} {K : PySem.W.Frag} {mg : Str → Option Value} {base : Heap} {f : Addr} {fd : FuncData} (F : Fun K "_law_mixed" "_law_mixed" s_L_mixed f fd) (m_len : mg "len" = none) (m_min : mg "min" = none) (m_range : mg "range" = none) :
    FnOk P w K mg base CX0 1 f fd ["_law_script", "_law_k"] (spD K sp_L_mixed) := by
  refine fnD F sc_L_mixed (fun ds Q px h => len_L_mixed h) (fun cdv A outer s H E hr => ⟨_, w_L_mixed,
    (dss_cons (ds_asg (de_sub (de_len m_len (de_var 0)) de_int) (dg_name 2 sc_L_mixed.nd))
    (dss_cons (ds_if ((dw_and (dt_gtX hr.units (de_var 2) de_int) (dw_and1 (dt_eqX hr.units (de_mod (de_ixX hr.units (de_var 0) de_int) de_int) de_int))).dt) (dss_cons (ds_asg (de_ixX hr.units (de_var 0) (de_plus de_int (de_mod (de_var 1) (de_var 2)))) (dg_name 3 sc_L_mixed.nd))
    (dss_cons (ds_for PassesOwn.never rfl (di_range1 m_range (da_cons (de_min rfl m_min (de_div (de_var 1) (de_var 2)) de_int) da_nil)) (dg_name 4 sc_L_mixed.nd) (dss_one (ds_asg (de_div (de_var 3) de_int) (dg_name 3 sc_L_mixed.nd))))
    (dss_one (ds_ret (de_mod (de_var 3) de_int))))) dss_nil)
    (dss_cons (ds_asg de_int (dg_name 3 sc_L_mixed.nd))
    (dss_cons (ds_if (dt_geX hr.units (de_var 2) de_int) (dss_one (ds_asg (de_ixX hr.units (de_var 0) (de_mod (de_var 1) (de_len m_len (de_var 0)))) (dg_name 3 sc_L_mixed.nd))) dss_nil)
    (dss_one (ds_ret (de_mod (de_mul (de_mod (de_mul (de_plus (de_plus (de_mod (de_var 3) de_int) (de_mul de_int (de_var 1))) de_int) de_int) de_int) de_int) de_int))))))), fun ds Q px h => rd_L_mixed h⟩)

theorem sc_gathered : FnScope N_gathered ["products"] (defScope s_gathered) := ⟨rfl, rfl, rfl, by decide +kernel, rfl, by decide +kernel, by decide +kernel⟩
set_option maxHeartbeats 4000000 in
theorem ok_gathered {P : Program} {w : World} {K : PySem.W.Frag} {mg : Str → Option Value} {base : Heap} {f : Addr} {fd : FuncData} (F : Fun K "gathered" "gathered" s_gathered f fd) (m_sorted : mg "sorted" = none) (m_tuple : mg "tuple" = none) :
    FnOk P w K mg base CX0 1 f fd ["products"] (spD K sp_gathered) := by
  refine fnD F sc_gathered (fun ds Q px h => len_gathered h) (fun cdv A outer s H E hr => ⟨_, w_gathered,
    (dss_cons (ds_set 1 sc_gathered.nd de_dict0)
    (dss_cons (ds_for PassesOwn.never rfl (di_X (de_var 0)) (dg_name 2 sc_gathered.nd) (dss_one (ds_if (dt_lend (dt_inX hr.units (de_var 2) (de_var 1))) (dss_one (ds_expr (de_dpop 1 (de_var 2) ⟨rfl, rfl, rfl, rfl⟩))) (dss_one (ds_dput 1 (units1 hr.units) (de_var 2) de_bl)))))
    (dss_one (ds_ret (de_tuple m_tuple (de_sortK rfl m_sorted (de_var 1))))))), fun ds Q px h => rd_gathered h⟩)

theorem sc_added : FnScope N_added ["one", "other"] (defScope s_added) := ⟨rfl, rfl, rfl, by decide +kernel, rfl, by decide +kernel, by decide +kernel⟩
set_option maxHeartbeats 4000000 in
theorem ok_added {P : Program} {w : World} {K : PySem.W.Frag} {mg : Str → Option Value} {base : Heap} {f : Addr} {fd : FuncData} (F : Fun K "added" "added" s_added f fd) {f_gathered : Addr} {fd_gathered : FuncData} (F_gathered : FnOk P w K mg base CX0 1 f_gathered fd_gathered ["products"] (spD K sp_gathered)) (b_gathered : Binds K fd_gathered ["products"] []) (k_gathered : PySem.W.keepIn K (.ref f_gathered) = true) (mg_gathered : mg "gathered" = some (.ref f_gathered)) (m_list : mg "list" = none) :
    FnOk P w K mg base CX0 2 f fd ["one", "other"] (spD K sp_added) := by
  refine fnD F sc_added (fun ds Q px h => len_added h) (fun cdv A outer s H E hr => ⟨_, w_added,
    (dss_one (ds_ret (de_call F_gathered (hr.mono (by decide)) mg_gathered k_gathered b_gathered pass0 (da_cons (de_plus (de_listX rfl m_list (de_var 0)) (de_listX rfl m_list (de_var 1))) da_nil)))), fun ds Q px h => rd_added h⟩)

theorem sc_both_letters : FnScope N_both_letters ["one", "other"] (defScope s_both_letters) := ⟨rfl, rfl, rfl, by decide +kernel, rfl, by decide +kernel, by decide +kernel⟩
set_option maxHeartbeats 4000000 in
theorem ok_both_letters {P : Program} {w : World} {K : PySem.W.Frag} {mg : Str → Option Value} {base : Heap} {f : Addr} {fd : FuncData} (F : Fun K "both_letters" "both_letters" s_both_letters f fd) (m_set : mg "set" = none) (m_sorted : mg "sorted" = none) :
    FnOk P w K mg base CX0 1 f fd ["one", "other"] (spD K sp_both_letters) := by
  refine fnD F sc_both_letters (fun ds Q px h => len_both_letters h) (fun cdv A outer s H E hr => ⟨_, w_both_letters,
    (dss_one (ds_ret (de_join de_str (de_sortSet rfl m_sorted m_set (de_plus (de_var 0) (de_var 1)))))), fun ds Q px h => rd_both_letters h⟩)

theorem sc_multiplied : FnScope N_multiplied ["one", "other"] (defScope s_multiplied) := ⟨rfl, rfl, rfl, by decide +kernel, rfl, by decide +kernel, by decide +kernel⟩
set_option maxHeartbeats 4000000 in
theorem ok_multiplied {P : Program} {w : World} {K : PySem.W.Frag} {mg : Str → Option Value} {base : Heap} {f : Addr} {fd : FuncData} (F : Fun K "multiplied" "multiplied" s_multiplied f fd) {f_both_letters : Addr} {fd_both_letters : FuncData} (F_both_letters : FnOk P w K mg base CX0 1 f_both_letters fd_both_letters ["one", "other"] (spD K sp_both_letters)) (b_both_letters : Binds K fd_both_letters ["one", "other"] []) (k_both_letters : PySem.W.keepIn K (.ref f_both_letters) = true) (mg_both_letters : mg "both_letters" = some (.ref f_both_letters)) {f_gathered : Addr} {fd_gathered : FuncData} (F_gathered : FnOk P w K mg base CX0 1 f_gathered fd_gathered ["products"] (spD K sp_gathered)) (b_gathered : Binds K fd_gathered ["products"] []) (k_gathered : PySem.W.keepIn K (.ref f_gathered) = true) (mg_gathered : mg "gathered" = some (.ref f_gathered)) :
    FnOk P w K mg base CX0 2 f fd ["one", "other"] (spD K sp_multiplied) := by
  refine fnD F sc_multiplied (fun ds Q px h => len_multiplied h) (fun cdv A outer s H E hr => ⟨_, w_multiplied,
    (dss_cons (ds_set 2 sc_multiplied.nd (de_lst da_nil))
    (dss_cons (ds_for PassesOwn.never rfl (di_X (de_var 0)) (dg_name 3 sc_multiplied.nd) (dss_one (ds_for PassesOwn.never rfl (di_X (de_var 1)) (dg_name 4 sc_multiplied.nd) (dss_one (ds_expr (de_append 2 (de_call F_both_letters (hr.mono (by decide)) mg_both_letters k_both_letters b_both_letters pass0 (da_cons (de_var 3) (da_cons (de_var 4) da_nil)))))))))
    (dss_one (ds_ret (de_call F_gathered (hr.mono (by decide)) mg_gathered k_gathered b_gathered pass0 (da_cons (de_var 2) da_nil)))))), fun ds Q px h => rd_multiplied h⟩)

theorem sc_form_of : FnScope N_form_of ["letters", "table"] (defScope s_form_of) := ⟨rfl, rfl, rfl, by decide +kernel, rfl, by decide +kernel, by decide +kernel⟩
set_option maxHeartbeats 4000000 in
theorem okg_form_of {P : Program} {w : World} {K : PySem.W.Frag} {mg : Str → Option Value} {base : Heap} {f_form_of : Addr} {fd_form_of : FuncData} (F0_form_of : Fun K "form_of" "form_of" s_form_of f_form_of fd_form_of) (b_form_of : Binds K fd_form_of ["letters", "table"] []) (k_form_of : PySem.W.keepIn K (.ref f_form_of) = true) (mg_form_of : mg "form_of" = some (.ref f_form_of)) {f_added : Addr} {fd_added : FuncData} (F_added : FnOk P w K mg base CX0 2 f_added fd_added ["one", "other"] (spD K sp_added)) (b_added : Binds K fd_added ["one", "other"] []) (k_added : PySem.W.keepIn K (.ref f_added) = true) (mg_added : mg "added" = some (.ref f_added)) {f_multiplied : Addr} {fd_multiplied : FuncData} (F_multiplied : FnOk P w K mg base CX0 2 f_multiplied fd_multiplied ["one", "other"] (spD K sp_multiplied)) (b_multiplied : Binds K fd_multiplied ["one", "other"] []) (k_multiplied : PySem.W.keepIn K (.ref f_multiplied) = true) (mg_multiplied : mg "multiplied" = some (.ref f_multiplied)) (m_len : mg "len" = none) :
    ∀ n : Nat, FnOk P w K mg base CX0 (3 + n) f_form_of fd_form_of ["letters", "table"] (spD K (spr_form_of n))
  | 0 => FnOk.nothing
  | n + 1 => by
    have ih := okg_form_of (P := P) (w := w) (mg := mg) (base := base) F0_form_of b_form_of k_form_of mg_form_of F_added b_added k_added mg_added F_multiplied b_multiplied k_multiplied mg_multiplied m_len n
    have F_form_of := ih
    show FnOk P w K mg base CX0 ((3 + n) + 1) f_form_of fd_form_of ["letters", "table"] (spD K (spr_form_of (n + 1)))
    refine fnD F0_form_of sc_form_of (fun ds Q px h => len_form_of h) (fun cdv A outer s H E hr => ⟨_, w_form_of n,
      (dss_cons (ds_if (dt_eqX hr.units (de_len m_len (de_var 0)) de_int) (dss_cons (ds_if (dt_val (de_ixX hr.units (de_var 1) de_int)) (dss_one (ds_ret (de_tup (da_cons de_str da_nil)))) dss_nil)
    (dss_one (ds_ret (de_tup da_nil)))) dss_nil)
    (dss_cons (ds_asg (de_div (de_len m_len (de_var 1)) de_int) (dg_name 2 sc_form_of.nd))
    (dss_cons (ds_asg (de_call F_form_of (hr.mono (by omega)) mg_form_of k_form_of b_form_of pass0 (da_cons (de_sl (de_var 0) (do_some de_int) do_none) (da_cons (de_sl (de_var 1) do_none (do_some (de_var 2))) da_nil))) (dg_name 3 sc_form_of.nd))
    (dss_cons (ds_asg (de_call F_form_of (hr.mono (by omega)) mg_form_of k_form_of b_form_of pass0 (da_cons (de_sl (de_var 0) (do_some de_int) do_none) (da_cons (de_sl (de_var 1) (do_some (de_var 2)) do_none) da_nil))) (dg_name 4 sc_form_of.nd))
    (dss_one (ds_ret (de_call F_added (hr.mono (by omega)) mg_added k_added b_added pass0 (da_cons (de_var 3) (da_cons (de_call F_multiplied (hr.mono (by omega)) mg_multiplied k_multiplied b_multiplied pass0 (da_cons (de_tup (da_cons (de_ixX hr.units (de_var 0) de_int) da_nil)) (da_cons (de_call F_added (hr.mono (by omega)) mg_added k_added b_added pass0 (da_cons (de_var 3) (da_cons (de_var 4) da_nil))) da_nil))) da_nil))))))))), fun ds Q px h => rd_form_of h⟩)

theorem sc_L_within_ca5 : FnScope N_L_within_ca5 ["_law_one", "_law_other"] (defScope s_L_within_ca5) := ⟨rfl, rfl, rfl, by decide +kernel, rfl, by decide +kernel, by decide +kernel⟩
set_option maxHeartbeats 4000000 in
theorem ok_L_within_ca5 {P : Program} {w : World} {K : PySem.W.Frag} {mg : Str → Option Value} {base : Heap} {f : Addr} {fd : FuncData} (F : Fun K "_law_within" "_law_within" s_L_within_ca5 f fd) (m_all : mg "all" = none) (m_zip : mg "zip" = none) :
    FnOk P w K mg base CX0 1 f fd ["_law_one", "_law_other"] (spD K sp_L_within_ca5) := by
  refine fnD F sc_L_within_ca5 (fun ds Q px h => len_L_within_ca5 h) (fun cdv A outer s H E hr => ⟨_, w_L_within_ca5,
    (dss_one (ds_ret (de_all m_all (cr_all rfl) (de_lc (own := [("_law_here", 2), ("_law_there", 3)]) rfl sc_L_within_ca5.nd (di_zip m_zip (da_cons (de_var 0) (da_cons (de_var 1) da_nil))) (show BlkOk N_L_within_ca5 (defScope s_L_within_ca5) _ [("_law_here", 2), ("_law_there", 3)] from ⟨rfl, by decide +kernel, by decide +kernel, by decide +kernel, by decide +kernel⟩) (fun _ _ _ _ _ => (dgb_tup rfl (dgbs_cons (dgb_name 2 sc_L_within_ca5.nd) (dgbs_cons (dgb_name 3 sc_L_within_ca5.nd) dgbs_nil)))) (fun _ _ _ _ _ => dts_nil) (fun _ _ _ _ _ => (de_or (de_var 3) (de_one (de_not (de_var 2))))))))), fun ds Q px h => rd_L_within_ca5 h⟩)

theorem sc_opposite : FnScope N_opposite ["form"] (defScope s_opposite) := ⟨rfl, rfl, rfl, by decide +kernel, rfl, by decide +kernel, by decide +kernel⟩
set_option maxHeartbeats 4000000 in
theorem ok_opposite {P : Program} {w : World} {K : PySem.W.Frag} {mg : Str → Option Value} {base : Heap} {f : Addr} {fd : FuncData} (F : Fun K "opposite" "opposite" s_opposite f fd) {f_added : Addr} {fd_added : FuncData} (F_added : FnOk P w K mg base CX0 2 f_added fd_added ["one", "other"] (spD K sp_added)) (b_added : Binds K fd_added ["one", "other"] []) (k_added : PySem.W.keepIn K (.ref f_added) = true) (mg_added : mg "added" = some (.ref f_added)) :
    FnOk P w K mg base CX0 3 f fd ["form"] (spD K sp_opposite) := by
  refine fnD F sc_opposite (fun ds Q px h => len_opposite h) (fun cdv A outer s H E hr => ⟨_, w_opposite,
    (dss_one (ds_ret (de_call F_added (hr.mono (by decide)) mg_added k_added b_added pass0 (da_cons (de_var 0) (da_cons (de_tup (da_cons de_str da_nil)) da_nil))))), fun ds Q px h => rd_opposite h⟩)

theorem sc_leads : FnScope N_leads ["one", "other"] (defScope s_leads) := ⟨rfl, rfl, rfl, by decide +kernel, rfl, by decide +kernel, by decide +kernel⟩
set_option maxHeartbeats 4000000 in
theorem ok_leads {P : Program} {w : World} {K : PySem.W.Frag} {mg : Str → Option Value} {base : Heap} {f : Addr} {fd : FuncData} (F : Fun K "leads" "leads" s_leads f fd) {f_multiplied : Addr} {fd_multiplied : FuncData} (F_multiplied : FnOk P w K mg base CX0 2 f_multiplied fd_multiplied ["one", "other"] (spD K sp_multiplied)) (b_multiplied : Binds K fd_multiplied ["one", "other"] []) (k_multiplied : PySem.W.keepIn K (.ref f_multiplied) = true) (mg_multiplied : mg "multiplied" = some (.ref f_multiplied)) {f_opposite : Addr} {fd_opposite : FuncData} (F_opposite : FnOk P w K mg base CX0 3 f_opposite fd_opposite ["form"] (spD K sp_opposite)) (b_opposite : Binds K fd_opposite ["form"] []) (k_opposite : PySem.W.keepIn K (.ref f_opposite) = true) (mg_opposite : mg "opposite" = some (.ref f_opposite)) :
    FnOk P w K mg base CX0 4 f fd ["one", "other"] (spD K sp_leads) := by
  refine fnD F sc_leads (fun ds Q px h => len_leads h) (fun cdv A outer s H E hr => ⟨_, w_leads,
    (dss_one (ds_ret (de_eqX hr.units (de_call F_multiplied (hr.mono (by decide)) mg_multiplied k_multiplied b_multiplied pass0 (da_cons (de_var 0) (da_cons (de_call F_opposite (hr.mono (by decide)) mg_opposite k_opposite b_opposite pass0 (da_cons (de_var 1) da_nil)) da_nil))) (de_tup da_nil)))), fun ds Q px h => rd_leads h⟩)

theorem sc_joined : FnScope N_joined ["one", "other"] (defScope s_joined) := ⟨rfl, rfl, rfl, by decide +kernel, rfl, by decide +kernel, by decide +kernel⟩
set_option maxHeartbeats 4000000 in
theorem ok_joined {P : Program} {w : World} {K : PySem.W.Frag} {mg : Str → Option Value} {base : Heap} {f : Addr} {fd : FuncData} (F : Fun K "joined" "joined" s_joined f fd) {f_added : Addr} {fd_added : FuncData} (F_added : FnOk P w K mg base CX0 2 f_added fd_added ["one", "other"] (spD K sp_added)) (b_added : Binds K fd_added ["one", "other"] []) (k_added : PySem.W.keepIn K (.ref f_added) = true) (mg_added : mg "added" = some (.ref f_added)) {f_multiplied : Addr} {fd_multiplied : FuncData} (F_multiplied : FnOk P w K mg base CX0 2 f_multiplied fd_multiplied ["one", "other"] (spD K sp_multiplied)) (b_multiplied : Binds K fd_multiplied ["one", "other"] []) (k_multiplied : PySem.W.keepIn K (.ref f_multiplied) = true) (mg_multiplied : mg "multiplied" = some (.ref f_multiplied)) :
    FnOk P w K mg base CX0 3 f fd ["one", "other"] (spD K sp_joined) := by
  refine fnD F sc_joined (fun ds Q px h => len_joined h) (fun cdv A outer s H E hr => ⟨_, w_joined,
    (dss_one (ds_ret (de_call F_added (hr.mono (by decide)) mg_added k_added b_added pass0 (da_cons (de_call F_added (hr.mono (by decide)) mg_added k_added b_added pass0 (da_cons (de_var 0) (da_cons (de_var 1) da_nil))) (da_cons (de_call F_multiplied (hr.mono (by decide)) mg_multiplied k_multiplied b_multiplied pass0 (da_cons (de_var 0) (da_cons (de_var 1) da_nil))) da_nil))))), fun ds Q px h => rd_joined h⟩)

theorem sc_law : FnScope N_law ["_law_script"] (defScope s_law) := ⟨rfl, rfl, rfl, by decide +kernel, rfl, by decide +kernel, by decide +kernel⟩
set_option maxHeartbeats 4000000 in
theorem ok_law {P : Program} {w : World} {K : PySem.W.Frag} {mg : Str → Option Value} {base : Heap} {f : Addr} {fd : FuncData} (F : Fun K "law" "law" s_law f fd) {f_L_letters : Addr} {fd_L_letters : FuncData} (F_L_letters : FnOk P w K mg base CX0 1 f_L_letters fd_L_letters ["_law_number", "_law_many"] (spD K sp_L_letters)) (b_L_letters : Binds K fd_L_letters ["_law_number", "_law_many"] []) (k_L_letters : PySem.W.keepIn K (.ref f_L_letters) = true) (mg_L_letters : mg "_law_letters" = some (.ref f_L_letters)) {f_L_mixed : Addr} {fd_L_mixed : FuncData} (F_L_mixed : FnOk P w K mg base CX0 1 f_L_mixed fd_L_mixed ["_law_script", "_law_k"] (spD K sp_L_mixed)) (b_L_mixed : Binds K fd_L_mixed ["_law_script", "_law_k"] []) (k_L_mixed : PySem.W.keepIn K (.ref f_L_mixed) = true) (mg_L_mixed : mg "_law_mixed" = some (.ref f_L_mixed)) {f_form_of : Addr} {fd_form_of : FuncData} (F_form_of : FnOk P w K mg base CX0 14 f_form_of fd_form_of ["letters", "table"] (spD K sp_form_of)) (b_form_of : Binds K fd_form_of ["letters", "table"] []) (k_form_of : PySem.W.keepIn K (.ref f_form_of) = true) (mg_form_of : mg "form_of" = some (.ref f_form_of)) {f_L_within_ca5 : Addr} {fd_L_within_ca5 : FuncData} (F_L_within_ca5 : FnOk P w K mg base CX0 1 f_L_within_ca5 fd_L_within_ca5 ["_law_one", "_law_other"] (spD K sp_L_within_ca5)) (b_L_within_ca5 : Binds K fd_L_within_ca5 ["_law_one", "_law_other"] []) (k_L_within_ca5 : PySem.W.keepIn K (.ref f_L_within_ca5) = true) (mg_L_within_ca5 : mg "_law_within" = some (.ref f_L_within_ca5)) {f_leads : Addr} {fd_leads : FuncData} (F_leads : FnOk P w K mg base CX0 4 f_leads fd_leads ["one", "other"] (spD K sp_leads)) (b_leads : Binds K fd_leads ["one", "other"] []) (k_leads : PySem.W.keepIn K (.ref f_leads) = true) (mg_leads : mg "leads" = some (.ref f_leads)) {f_joined : Addr} {fd_joined : FuncData} (F_joined : FnOk P w K mg base CX0 3 f_joined fd_joined ["one", "other"] (spD K sp_joined)) (b_joined : Binds K fd_joined ["one", "other"] []) (k_joined : PySem.W.keepIn K (.ref f_joined) = true) (mg_joined : mg "joined" = some (.ref f_joined)) {f_multiplied : Addr} {fd_multiplied : FuncData} (F_multiplied : FnOk P w K mg base CX0 2 f_multiplied fd_multiplied ["one", "other"] (spD K sp_multiplied)) (b_multiplied : Binds K fd_multiplied ["one", "other"] []) (k_multiplied : PySem.W.keepIn K (.ref f_multiplied) = true) (mg_multiplied : mg "multiplied" = some (.ref f_multiplied)) {f_opposite : Addr} {fd_opposite : FuncData} (F_opposite : FnOk P w K mg base CX0 3 f_opposite fd_opposite ["form"] (spD K sp_opposite)) (b_opposite : Binds K fd_opposite ["form"] []) (k_opposite : PySem.W.keepIn K (.ref f_opposite) = true) (mg_opposite : mg "opposite" = some (.ref f_opposite)) (m_enumerate : mg "enumerate" = none) (m_list : mg "list" = none) (m_range : mg "range" = none) (m_zip : mg "zip" = none) :
    FnOk P w K mg base CX0 15 f fd ["_law_script"] (spD K sp_law) := by
  refine fnD F sc_law (fun ds Q px h => len_law h) (fun cdv A outer s H E hr => ⟨_, w_law,
    (dss_cons (ds_asg (de_call F_L_letters (hr.mono (by decide)) mg_L_letters k_L_letters b_L_letters pass0 (da_cons (de_call F_L_mixed (hr.mono (by decide)) mg_L_mixed k_L_mixed b_L_mixed pass0 (da_cons (de_var 0) (da_cons de_int da_nil))) (da_cons (de_mod (de_call F_L_mixed (hr.mono (by decide)) mg_L_mixed k_L_mixed b_L_mixed pass0 (da_cons (de_var 0) (da_cons de_int da_nil))) de_int) da_nil))) (dg_name 1 sc_law.nd))
    (dss_cons (ds_asg de_int (dg_name 2 sc_law.nd))
    (dss_cons (ds_for PassesOwn.never rfl (di_X (de_var 1)) (dg_name 3 sc_law.nd) (dss_one (ds_asg (de_mul (de_var 2) de_int) (dg_name 2 sc_law.nd))))
    (dss_cons (ds_set 4 sc_law.nd (de_lst (da_cons (de_lc (own := [("_law_k", 5)]) rfl sc_law.nd (di_range1 m_range (da_cons (de_var 2) da_nil)) (show BlkOk N_law (defScope s_law) _ [("_law_k", 5)] from ⟨rfl, by decide +kernel, by decide +kernel, by decide +kernel, by decide +kernel⟩) (fun _ _ _ _ _ => (dgb_name 5 sc_law.nd)) (fun _ _ _ _ _ => dts_nil) (fun _ _ _ _ _ => (de_eqX hr.units (de_mod (de_div (de_call F_L_mixed (hr.mono (by decide)) mg_L_mixed k_L_mixed b_L_mixed pass0 (da_cons (de_var 0) (da_cons (de_plus de_int (de_var 5)) da_nil))) de_int) de_int) de_int))) da_nil)))
    (dss_cons (ds_expr (de_append 4 (de_lc (own := [("_law_k", 5), ("_law_here", 6)]) rfl sc_law.nd (di_enumX m_enumerate (da_cons (de_oix 4 hr.units de_int) da_nil)) (show BlkOk N_law (defScope s_law) _ [("_law_k", 5), ("_law_here", 6)] from ⟨rfl, by decide +kernel, by decide +kernel, by decide +kernel, by decide +kernel⟩) (fun _ _ _ _ _ => (dgb_tup rfl (dgbs_cons (dgb_name 5 sc_law.nd) (dgbs_cons (dgb_name 6 sc_law.nd) dgbs_nil)))) (fun _ _ _ _ _ => dts_nil) (fun _ _ _ _ _ => (de_or (de_var 6) (de_one (de_eqX hr.units (de_mod (de_div (de_call F_L_mixed (hr.mono (by decide)) mg_L_mixed k_L_mixed b_L_mixed pass0 (da_cons (de_var 0) (da_cons (de_plus de_int (de_var 5)) da_nil))) de_int) de_int) de_int)))))))
    (dss_cons (ds_expr (de_append 4 (de_lc (own := [("_law_k", 5)]) rfl sc_law.nd (di_range1 m_range (da_cons (de_var 2) da_nil)) (show BlkOk N_law (defScope s_law) _ [("_law_k", 5)] from ⟨rfl, by decide +kernel, by decide +kernel, by decide +kernel, by decide +kernel⟩) (fun _ _ _ _ _ => (dgb_name 5 sc_law.nd)) (fun _ _ _ _ _ => dts_nil) (fun _ _ _ _ _ => (de_eqX hr.units (de_mod (de_div (de_call F_L_mixed (hr.mono (by decide)) mg_L_mixed k_L_mixed b_L_mixed pass0 (da_cons (de_var 0) (da_cons (de_plus de_int (de_var 5)) da_nil))) de_int) de_int) de_int)))))
    (dss_cons (ds_asgLc 7 (own := [("_law_table", 8)]) rfl sc_law.nd (di_X (de_var 4)) (show BlkOk N_law (defScope s_law) _ [("_law_table", 8)] from ⟨rfl, by decide +kernel, by decide +kernel, by decide +kernel, by decide +kernel⟩) (fun _ _ _ _ _ => (dgb_name 8 sc_law.nd)) (fun _ _ _ _ _ => dts_nil) (fun _ _ _ _ _ => (de_call F_form_of (hr.mono (by decide)) mg_form_of k_form_of b_form_of pass0 (da_cons (de_var 1) (da_cons (de_var 8) da_nil)))))
    (dss_cons (ds_for PassesOwn.never rfl (di_range1 m_range (da_cons de_int da_nil)) (dg_name 9 sc_law.nd) (dss_cons (ds_for PassesOwn.never rfl (di_range1 m_range (da_cons de_int da_nil)) (dg_name 10 sc_law.nd) (dss_cons (ds_asg (de_call F_L_within_ca5 (hr.mono (by decide)) mg_L_within_ca5 k_L_within_ca5 b_L_within_ca5 pass0 (da_cons (de_oix 4 hr.units (de_var 9)) (da_cons (de_oix 4 hr.units (de_var 10)) da_nil))) (dg_name 11 sc_law.nd))
    (dss_cons (ds_if (dt_neX hr.units (de_call F_leads (hr.mono (by decide)) mg_leads k_leads b_leads pass0 (da_cons (de_ixX hr.units (de_var 7) (de_var 9)) (da_cons (de_ixX hr.units (de_var 7) (de_var 10)) da_nil))) (de_var 11)) (dss_one (ds_ret de_bl)) dss_nil)
    (dss_cons (ds_if (dt_ltX hr.units (de_var 10) (de_var 9)) (dss_one ds_cont) dss_nil)
    (dss_cons (ds_if (dt_lend (dt_neX hr.units (de_and (de_var 11) (de_one (de_call F_L_within_ca5 (hr.mono (by decide)) mg_L_within_ca5 k_L_within_ca5 b_L_within_ca5 pass0 (da_cons (de_ixX hr.units (de_var 4) (de_var 10)) (da_cons (de_ixX hr.units (de_var 4) (de_var 9)) da_nil))))) (de_eqX hr.units (de_ixX hr.units (de_var 7) (de_var 9)) (de_ixX hr.units (de_var 7) (de_var 10))))) (dss_one (ds_ret de_bl)) dss_nil)
    (dss_cons (ds_asg (de_listZip rfl m_list m_zip (da_cons (de_oix 4 hr.units (de_var 9)) (da_cons (de_oix 4 hr.units (de_var 10)) da_nil))) (dg_name 12 sc_law.nd))
    (dss_cons (ds_if (dt_neX hr.units (de_call F_joined (hr.mono (by decide)) mg_joined k_joined b_joined pass0 (da_cons (de_ixX hr.units (de_var 7) (de_var 9)) (da_cons (de_ixX hr.units (de_var 7) (de_var 10)) da_nil))) (de_call F_form_of (hr.mono (by decide)) mg_form_of k_form_of b_form_of pass0 (da_cons (de_var 1) (da_cons (de_lc (own := [("_law_here", 6), ("_law_there", 13)]) rfl sc_law.nd (di_X (de_var 12)) (show BlkOk N_law (defScope s_law) _ [("_law_here", 6), ("_law_there", 13)] from ⟨rfl, by decide +kernel, by decide +kernel, by decide +kernel, by decide +kernel⟩) (fun _ _ _ _ _ => (dgb_tup rfl (dgbs_cons (dgb_name 6 sc_law.nd) (dgbs_cons (dgb_name 13 sc_law.nd) dgbs_nil)))) (fun _ _ _ _ _ => dts_nil) (fun _ _ _ _ _ => (de_or (de_var 6) (de_one (de_var 13))))) da_nil)))) (dss_one (ds_ret de_bl)) dss_nil)
    (dss_one (ds_if (dt_neX hr.units (de_call F_multiplied (hr.mono (by decide)) mg_multiplied k_multiplied b_multiplied pass0 (da_cons (de_ixX hr.units (de_var 7) (de_var 9)) (da_cons (de_ixX hr.units (de_var 7) (de_var 10)) da_nil))) (de_call F_form_of (hr.mono (by decide)) mg_form_of k_form_of b_form_of pass0 (da_cons (de_var 1) (da_cons (de_lc (own := [("_law_here", 6), ("_law_there", 13)]) rfl sc_law.nd (di_X (de_var 12)) (show BlkOk N_law (defScope s_law) _ [("_law_here", 6), ("_law_there", 13)] from ⟨rfl, by decide +kernel, by decide +kernel, by decide +kernel, by decide +kernel⟩) (fun _ _ _ _ _ => (dgb_tup rfl (dgbs_cons (dgb_name 6 sc_law.nd) (dgbs_cons (dgb_name 13 sc_law.nd) dgbs_nil)))) (fun _ _ _ _ _ => dts_nil) (fun _ _ _ _ _ => (de_and (de_var 6) (de_one (de_var 13))))) da_nil)))) (dss_one (ds_ret de_bl)) dss_nil)))))))))
    (dss_one (ds_if (dt_lend (dt_neX hr.units (de_call F_opposite (hr.mono (by decide)) mg_opposite k_opposite b_opposite pass0 (da_cons (de_ixX hr.units (de_var 7) (de_var 9)) da_nil)) (de_call F_form_of (hr.mono (by decide)) mg_form_of k_form_of b_form_of pass0 (da_cons (de_var 1) (da_cons (de_lc (own := [("_law_here", 6)]) rfl sc_law.nd (di_X (de_ixX hr.units (de_var 4) (de_var 9))) (show BlkOk N_law (defScope s_law) _ [("_law_here", 6)] from ⟨rfl, by decide +kernel, by decide +kernel, by decide +kernel, by decide +kernel⟩) (fun _ _ _ _ _ => (dgb_name 6 sc_law.nd)) (fun _ _ _ _ _ => dts_nil) (fun _ _ _ _ _ => (de_not (de_var 6)))) da_nil))))) (dss_one (ds_ret de_bl)) dss_nil))))
    (dss_one (ds_ret de_bl)))))))))), fun ds Q px h => rd_law h⟩)

set_option maxHeartbeats 8000000 in
theorem all_mk {l : PySem.W.OpenLaw} {w : World} {K : PySem.W.Frag} {h : Heap} {mg : Str → Option Value} {fa : Addr} (X : K.In h) (G : h.Ns mainGlobals mg) (hfa : mg "law" = some (.ref fa))
    {f1 : Addr} {od1 an1 : Option Addr} {sl1 : Array (Option Value)} {oc1 kV1 dc1 pm1 cd1 ct1 : Value}
    {f2 : Addr} {od2 an2 : Option Addr} {sl2 : Array (Option Value)} {oc2 kV2 dc2 pm2 cd2 ct2 : Value}
    {f3 : Addr} {od3 an3 : Option Addr} {sl3 : Array (Option Value)} {oc3 kV3 dc3 pm3 cd3 ct3 : Value}
    {f4 : Addr} {od4 an4 : Option Addr} {sl4 : Array (Option Value)} {oc4 kV4 dc4 pm4 cd4 ct4 : Value}
    {f5 : Addr} {od5 an5 : Option Addr} {sl5 : Array (Option Value)} {oc5 kV5 dc5 pm5 cd5 ct5 : Value}
    {f6 : Addr} {od6 an6 : Option Addr} {sl6 : Array (Option Value)} {oc6 kV6 dc6 pm6 cd6 ct6 : Value}
    {f7 : Addr} {od7 an7 : Option Addr} {sl7 : Array (Option Value)} {oc7 kV7 dc7 pm7 cd7 ct7 : Value}
    {f8 : Addr} {od8 an8 : Option Addr} {sl8 : Array (Option Value)} {oc8 kV8 dc8 pm8 cd8 ct8 : Value}
    {f9 : Addr} {od9 an9 : Option Addr} {sl9 : Array (Option Value)} {oc9 kV9 dc9 pm9 cd9 ct9 : Value}
    {f10 : Addr} {od10 an10 : Option Addr} {sl10 : Array (Option Value)} {oc10 kV10 dc10 pm10 cd10 ct10 : Value}
    {f11 : Addr} {od11 an11 : Option Addr} {sl11 : Array (Option Value)} {oc11 kV11 dc11 pm11 cd11 ct11 : Value}
    {f12 : Addr} {od12 an12 : Option Addr} {sl12 : Array (Option Value)} {oc12 kV12 dc12 pm12 cd12 ct12 : Value}
    (a1 : PySem.W.nsIn K mainGlobals "_law_letters" = some (some (.ref f1)))
    (a2 : PySem.W.nsIn K mainGlobals "_law_mixed" = some (some (.ref f2)))
    (a3 : PySem.W.nsIn K mainGlobals "gathered" = some (some (.ref f3)))
    (a4 : PySem.W.nsIn K mainGlobals "added" = some (some (.ref f4)))
    (a5 : PySem.W.nsIn K mainGlobals "both_letters" = some (some (.ref f5)))
    (a6 : PySem.W.nsIn K mainGlobals "multiplied" = some (some (.ref f6)))
    (a7 : PySem.W.nsIn K mainGlobals "form_of" = some (some (.ref f7)))
    (a8 : PySem.W.nsIn K mainGlobals "_law_within" = some (some (.ref f8)))
    (a9 : PySem.W.nsIn K mainGlobals "opposite" = some (some (.ref f9)))
    (a10 : PySem.W.nsIn K mainGlobals "leads" = some (some (.ref f10)))
    (a11 : PySem.W.nsIn K mainGlobals "joined" = some (some (.ref f11)))
    (a12 : PySem.W.nsIn K mainGlobals "law" = some (some (.ref f12)))
    (l1 : K.lookup f1 = some ⟨oc1, od1, .func (PySem.W.fnOf "_law_letters" "_law_letters" (defArgs s_L_letters) (defBody s_L_letters) (defScope s_L_letters) .none kV1 dc1 pm1 an1 cd1 ct1), sl1⟩) (c1 : PySem.W.codeIn K cd1 "_law_letters" = true) (k1 : PySem.W.keepIn K (.ref f1) = true)
    (l2 : K.lookup f2 = some ⟨oc2, od2, .func (PySem.W.fnOf "_law_mixed" "_law_mixed" (defArgs s_L_mixed) (defBody s_L_mixed) (defScope s_L_mixed) .none kV2 dc2 pm2 an2 cd2 ct2), sl2⟩) (c2 : PySem.W.codeIn K cd2 "_law_mixed" = true) (k2 : PySem.W.keepIn K (.ref f2) = true)
    (l3 : K.lookup f3 = some ⟨oc3, od3, .func (PySem.W.fnOf "gathered" "gathered" (defArgs s_gathered) (defBody s_gathered) (defScope s_gathered) .none kV3 dc3 pm3 an3 cd3 ct3), sl3⟩) (c3 : PySem.W.codeIn K cd3 "gathered" = true) (k3 : PySem.W.keepIn K (.ref f3) = true)
    (l4 : K.lookup f4 = some ⟨oc4, od4, .func (PySem.W.fnOf "added" "added" (defArgs s_added) (defBody s_added) (defScope s_added) .none kV4 dc4 pm4 an4 cd4 ct4), sl4⟩) (c4 : PySem.W.codeIn K cd4 "added" = true) (k4 : PySem.W.keepIn K (.ref f4) = true)
    (l5 : K.lookup f5 = some ⟨oc5, od5, .func (PySem.W.fnOf "both_letters" "both_letters" (defArgs s_both_letters) (defBody s_both_letters) (defScope s_both_letters) .none kV5 dc5 pm5 an5 cd5 ct5), sl5⟩) (c5 : PySem.W.codeIn K cd5 "both_letters" = true) (k5 : PySem.W.keepIn K (.ref f5) = true)
    (l6 : K.lookup f6 = some ⟨oc6, od6, .func (PySem.W.fnOf "multiplied" "multiplied" (defArgs s_multiplied) (defBody s_multiplied) (defScope s_multiplied) .none kV6 dc6 pm6 an6 cd6 ct6), sl6⟩) (c6 : PySem.W.codeIn K cd6 "multiplied" = true) (k6 : PySem.W.keepIn K (.ref f6) = true)
    (l7 : K.lookup f7 = some ⟨oc7, od7, .func (PySem.W.fnOf "form_of" "form_of" (defArgs s_form_of) (defBody s_form_of) (defScope s_form_of) .none kV7 dc7 pm7 an7 cd7 ct7), sl7⟩) (c7 : PySem.W.codeIn K cd7 "form_of" = true) (k7 : PySem.W.keepIn K (.ref f7) = true)
    (l8 : K.lookup f8 = some ⟨oc8, od8, .func (PySem.W.fnOf "_law_within" "_law_within" (defArgs s_L_within_ca5) (defBody s_L_within_ca5) (defScope s_L_within_ca5) .none kV8 dc8 pm8 an8 cd8 ct8), sl8⟩) (c8 : PySem.W.codeIn K cd8 "_law_within" = true) (k8 : PySem.W.keepIn K (.ref f8) = true)
    (l9 : K.lookup f9 = some ⟨oc9, od9, .func (PySem.W.fnOf "opposite" "opposite" (defArgs s_opposite) (defBody s_opposite) (defScope s_opposite) .none kV9 dc9 pm9 an9 cd9 ct9), sl9⟩) (c9 : PySem.W.codeIn K cd9 "opposite" = true) (k9 : PySem.W.keepIn K (.ref f9) = true)
    (l10 : K.lookup f10 = some ⟨oc10, od10, .func (PySem.W.fnOf "leads" "leads" (defArgs s_leads) (defBody s_leads) (defScope s_leads) .none kV10 dc10 pm10 an10 cd10 ct10), sl10⟩) (c10 : PySem.W.codeIn K cd10 "leads" = true) (k10 : PySem.W.keepIn K (.ref f10) = true)
    (l11 : K.lookup f11 = some ⟨oc11, od11, .func (PySem.W.fnOf "joined" "joined" (defArgs s_joined) (defBody s_joined) (defScope s_joined) .none kV11 dc11 pm11 an11 cd11 ct11), sl11⟩) (c11 : PySem.W.codeIn K cd11 "joined" = true) (k11 : PySem.W.keepIn K (.ref f11) = true)
    (l12 : K.lookup f12 = some ⟨oc12, od12, .func (PySem.W.fnOf "law" "law" (defArgs s_law) (defBody s_law) (defScope s_law) .none kV12 dc12 pm12 an12 cd12 ct12), sl12⟩) (c12 : PySem.W.codeIn K cd12 "law" = true) (k12 : PySem.W.keepIn K (.ref f12) = true)
    (z_all : PySem.W.nsIn K mainGlobals "all" = some none)
    (z_enumerate : PySem.W.nsIn K mainGlobals "enumerate" = some none)
    (z_len : PySem.W.nsIn K mainGlobals "len" = some none)
    (z_list : PySem.W.nsIn K mainGlobals "list" = some none)
    (z_min : PySem.W.nsIn K mainGlobals "min" = some none)
    (z_range : PySem.W.nsIn K mainGlobals "range" = some none)
    (z_set : PySem.W.nsIn K mainGlobals "set" = some none)
    (z_sorted : PySem.W.nsIn K mainGlobals "sorted" = some none)
    (z_tuple : PySem.W.nsIn K mainGlobals "tuple" = some none)
    (z_zip : PySem.W.nsIn K mainGlobals "zip" = some none) :
    ∃ fd : FuncData, (∀ (s : Shared) (v : Value), BindsTo s fd ⟨[v], []⟩ [("_law_script", v)]) ∧ ∀ base : Heap, K.In base → base.Ns mainGlobals mg → FnOk l.prog w K mg base CX0 15 fa fd ["_law_script"] (spD K spLaw) := by
  have e := hfa.symm.trans (PySem.W.mg_of X G a12)
  cases e
  have F1 := fun_mk (st := s_L_letters) l1 c1 k1
  have b1 := F1.binds (ps := ["_law_number", "_law_many"]) fun _ _ _ _ _ _ us hl => match us, hl with | [_, _], _ => rfl
  have F2 := fun_mk (st := s_L_mixed) l2 c2 k2
  have b2 := F2.binds (ps := ["_law_script", "_law_k"]) fun _ _ _ _ _ _ us hl => match us, hl with | [_, _], _ => rfl
  have F3 := fun_mk (st := s_gathered) l3 c3 k3
  have b3 := F3.binds (ps := ["products"]) fun _ _ _ _ _ _ us hl => match us, hl with | [_], _ => rfl
  have F4 := fun_mk (st := s_added) l4 c4 k4
  have b4 := F4.binds (ps := ["one", "other"]) fun _ _ _ _ _ _ us hl => match us, hl with | [_, _], _ => rfl
  have F5 := fun_mk (st := s_both_letters) l5 c5 k5
  have b5 := F5.binds (ps := ["one", "other"]) fun _ _ _ _ _ _ us hl => match us, hl with | [_, _], _ => rfl
  have F6 := fun_mk (st := s_multiplied) l6 c6 k6
  have b6 := F6.binds (ps := ["one", "other"]) fun _ _ _ _ _ _ us hl => match us, hl with | [_, _], _ => rfl
  have F7 := fun_mk (st := s_form_of) l7 c7 k7
  have b7 := F7.binds (ps := ["letters", "table"]) fun _ _ _ _ _ _ us hl => match us, hl with | [_, _], _ => rfl
  have F8 := fun_mk (st := s_L_within_ca5) l8 c8 k8
  have b8 := F8.binds (ps := ["_law_one", "_law_other"]) fun _ _ _ _ _ _ us hl => match us, hl with | [_, _], _ => rfl
  have F9 := fun_mk (st := s_opposite) l9 c9 k9
  have b9 := F9.binds (ps := ["form"]) fun _ _ _ _ _ _ us hl => match us, hl with | [_], _ => rfl
  have F10 := fun_mk (st := s_leads) l10 c10 k10
  have b10 := F10.binds (ps := ["one", "other"]) fun _ _ _ _ _ _ us hl => match us, hl with | [_, _], _ => rfl
  have F11 := fun_mk (st := s_joined) l11 c11 k11
  have b11 := F11.binds (ps := ["one", "other"]) fun _ _ _ _ _ _ us hl => match us, hl with | [_, _], _ => rfl
  have F12 := fun_mk (st := s_law) l12 c12 k12
  have m_all := PySem.W.mg_none_of X G z_all
  have m_enumerate := PySem.W.mg_none_of X G z_enumerate
  have m_len := PySem.W.mg_none_of X G z_len
  have m_list := PySem.W.mg_none_of X G z_list
  have m_min := PySem.W.mg_none_of X G z_min
  have m_range := PySem.W.mg_none_of X G z_range
  have m_set := PySem.W.mg_none_of X G z_set
  have m_sorted := PySem.W.mg_none_of X G z_sorted
  have m_tuple := PySem.W.mg_none_of X G z_tuple
  have m_zip := PySem.W.mg_none_of X G z_zip
  refine ⟨(PySem.W.fnOf "law" "law" (defArgs s_law) (defBody s_law) (defScope s_law) .none kV12 dc12 pm12 an12 cd12 ct12), fun s v => .of_eq rfl, fun base _ _ => ?_⟩
  have R1 := ok_L_letters (P := l.prog) (w := w) (mg := mg) (base := base) F1 m_len m_list
  have R2 := ok_L_mixed (P := l.prog) (w := w) (mg := mg) (base := base) F2 m_len m_min m_range
  have R3 := ok_gathered (P := l.prog) (w := w) (mg := mg) (base := base) F3 m_sorted m_tuple
  have R4 := ok_added (P := l.prog) (w := w) (mg := mg) (base := base) F4 R3 b3 k3 (PySem.W.mg_of X G a3) m_list
  have R5 := ok_both_letters (P := l.prog) (w := w) (mg := mg) (base := base) F5 m_set m_sorted
  have R6 := ok_multiplied (P := l.prog) (w := w) (mg := mg) (base := base) F6 R5 b5 k5 (PySem.W.mg_of X G a5) R3 b3 k3 (PySem.W.mg_of X G a3)
  have RG7 := okg_form_of (P := l.prog) (w := w) (K := K) (mg := mg) (base := base) F7 b7 k7 (PySem.W.mg_of X G a7) R4 b4 k4 (PySem.W.mg_of X G a4) R6 b6 k6 (PySem.W.mg_of X G a6) m_len 11
  have R7 := RG7
  have R8 := ok_L_within_ca5 (P := l.prog) (w := w) (mg := mg) (base := base) F8 m_all m_zip
  have R9 := ok_opposite (P := l.prog) (w := w) (mg := mg) (base := base) F9 R4 b4 k4 (PySem.W.mg_of X G a4)
  have R10 := ok_leads (P := l.prog) (w := w) (mg := mg) (base := base) F10 R6 b6 k6 (PySem.W.mg_of X G a6) R9 b9 k9 (PySem.W.mg_of X G a9)
  have R11 := ok_joined (P := l.prog) (w := w) (mg := mg) (base := base) F11 R4 b4 k4 (PySem.W.mg_of X G a4) R6 b6 k6 (PySem.W.mg_of X G a6)
  have R12 := ok_law (P := l.prog) (w := w) (mg := mg) (base := base) F12 R1 b1 k1 (PySem.W.mg_of X G a1) R2 b2 k2 (PySem.W.mg_of X G a2) R7 b7 k7 (PySem.W.mg_of X G a7) R8 b8 k8 (PySem.W.mg_of X G a8) R10 b10 k10 (PySem.W.mg_of X G a10) R11 b11 k11 (PySem.W.mg_of X G a11) R6 b6 k6 (PySem.W.mg_of X G a6) R9 b9 k9 (PySem.W.mg_of X G a9) m_enumerate m_list m_range m_zip
  exact R12
set_option maxHeartbeats 0 in
theorem hfacts {l : PySem.W.OpenLaw} {w : World} {K : PySem.W.Frag} {h : Heap} {mg : Str → Option Value} {fa : Addr} (X : K.In h) (G : h.Ns mainGlobals mg) (hfa : mg "law" = some (.ref fa)) (c : SaysM hfn hex K) :
    ∃ fd : FuncData, (∀ (s : Shared) (v : Value), BindsTo s fd ⟨[v], []⟩ [("_law_script", v)]) ∧ ∀ base : Heap, K.In base → base.Ns mainGlobals mg → FnOk l.prog w K mg base CX0 15 fa fd ["_law_script"] (spD K spLaw) := by
  have B : (hex.all fun b => b K) = true := c.more
  have D := c
  obtain ⟨_, H1⟩ := D.def_ 0 (d := hd1)
  obtain ⟨oc1, od1, kV1, dc1, pm1, an1, cd1, ct1, sl1, l1, c1, k1⟩ := funD_parts H1
  obtain ⟨_, H2⟩ := D.def_ 1 (d := hd2)
  obtain ⟨oc2, od2, kV2, dc2, pm2, an2, cd2, ct2, sl2, l2, c2, k2⟩ := funD_parts H2
  obtain ⟨_, H3⟩ := D.def_ 2 (d := hd3)
  obtain ⟨oc3, od3, kV3, dc3, pm3, an3, cd3, ct3, sl3, l3, c3, k3⟩ := funD_parts H3
  obtain ⟨_, H4⟩ := D.def_ 3 (d := hd4)
  obtain ⟨oc4, od4, kV4, dc4, pm4, an4, cd4, ct4, sl4, l4, c4, k4⟩ := funD_parts H4
  obtain ⟨_, H5⟩ := D.def_ 4 (d := hd5)
  obtain ⟨oc5, od5, kV5, dc5, pm5, an5, cd5, ct5, sl5, l5, c5, k5⟩ := funD_parts H5
  obtain ⟨_, H6⟩ := D.def_ 5 (d := hd6)
  obtain ⟨oc6, od6, kV6, dc6, pm6, an6, cd6, ct6, sl6, l6, c6, k6⟩ := funD_parts H6
  obtain ⟨_, H7⟩ := D.def_ 6 (d := hd7)
  obtain ⟨oc7, od7, kV7, dc7, pm7, an7, cd7, ct7, sl7, l7, c7, k7⟩ := funD_parts H7
  obtain ⟨_, H8⟩ := D.def_ 7 (d := hd8)
  obtain ⟨oc8, od8, kV8, dc8, pm8, an8, cd8, ct8, sl8, l8, c8, k8⟩ := funD_parts H8
  obtain ⟨_, H9⟩ := D.def_ 8 (d := hd9)
  obtain ⟨oc9, od9, kV9, dc9, pm9, an9, cd9, ct9, sl9, l9, c9, k9⟩ := funD_parts H9
  obtain ⟨_, H10⟩ := D.def_ 9 (d := hd10)
  obtain ⟨oc10, od10, kV10, dc10, pm10, an10, cd10, ct10, sl10, l10, c10, k10⟩ := funD_parts H10
  obtain ⟨_, H11⟩ := D.def_ 10 (d := hd11)
  obtain ⟨oc11, od11, kV11, dc11, pm11, an11, cd11, ct11, sl11, l11, c11, k11⟩ := funD_parts H11
  obtain ⟨_, H12⟩ := D.def_ 11 (d := hd12)
  obtain ⟨oc12, od12, kV12, dc12, pm12, an12, cd12, ct12, sl12, l12, c12, k12⟩ := funD_parts H12
  exact all_mk (l := l) (w := w) (f1 := He.fAd K ("_law_letters", none)) (f2 := He.fAd K ("_law_mixed", none)) (f3 := He.fAd K ("gathered", none)) (f4 := He.fAd K ("added", none)) (f5 := He.fAd K ("both_letters", none)) (f6 := He.fAd K ("multiplied", none)) (f7 := He.fAd K ("form_of", none)) (f8 := He.fAd K ("_law_within", none)) (f9 := He.fAd K ("opposite", none)) (f10 := He.fAd K ("leads", none)) (f11 := He.fAd K ("joined", none)) (f12 := He.fAd K ("law", none)) X G hfa (of_decide_eq_true (p := PySem.W.nsIn K mainGlobals "_law_letters" = some (some (.ref (He.fAd K ("_law_letters", none))))) (bget B 0 (b := hxe0))) (of_decide_eq_true (p := PySem.W.nsIn K mainGlobals "_law_mixed" = some (some (.ref (He.fAd K ("_law_mixed", none))))) (bget B 1 (b := hxe1))) (of_decide_eq_true (p := PySem.W.nsIn K mainGlobals "gathered" = some (some (.ref (He.fAd K ("gathered", none))))) (bget B 2 (b := hxe2))) (of_decide_eq_true (p := PySem.W.nsIn K mainGlobals "added" = some (some (.ref (He.fAd K ("added", none))))) (bget B 3 (b := hxe3))) (of_decide_eq_true (p := PySem.W.nsIn K mainGlobals "both_letters" = some (some (.ref (He.fAd K ("both_letters", none))))) (bget B 4 (b := hxe4))) (of_decide_eq_true (p := PySem.W.nsIn K mainGlobals "multiplied" = some (some (.ref (He.fAd K ("multiplied", none))))) (bget B 5 (b := hxe5))) (of_decide_eq_true (p := PySem.W.nsIn K mainGlobals "form_of" = some (some (.ref (He.fAd K ("form_of", none))))) (bget B 6 (b := hxe6))) (of_decide_eq_true (p := PySem.W.nsIn K mainGlobals "_law_within" = some (some (.ref (He.fAd K ("_law_within", none))))) (bget B 7 (b := hxe7))) (of_decide_eq_true (p := PySem.W.nsIn K mainGlobals "opposite" = some (some (.ref (He.fAd K ("opposite", none))))) (bget B 8 (b := hxe8))) (of_decide_eq_true (p := PySem.W.nsIn K mainGlobals "leads" = some (some (.ref (He.fAd K ("leads", none))))) (bget B 9 (b := hxe9))) (of_decide_eq_true (p := PySem.W.nsIn K mainGlobals "joined" = some (some (.ref (He.fAd K ("joined", none))))) (bget B 10 (b := hxe10))) (of_decide_eq_true (p := PySem.W.nsIn K mainGlobals "law" = some (some (.ref (He.fAd K ("law", none))))) (bget B 11 (b := hxe11))) l1 c1 k1 l2 c2 k2 l3 c3 k3 l4 c4 k4 l5 c5 k5 l6 c6 k6 l7 c7 k7 l8 c8 k8 l9 c9 k9 l10 c10 k10 l11 c11 k11 l12 c12 k12 (of_decide_eq_true (p := PySem.W.nsIn K mainGlobals "all" = some none) (bget B 12 (b := hxe12))) (of_decide_eq_true (p := PySem.W.nsIn K mainGlobals "enumerate" = some none) (bget B 13 (b := hxe13))) (of_decide_eq_true (p := PySem.W.nsIn K mainGlobals "len" = some none) (bget B 14 (b := hxe14))) (of_decide_eq_true (p := PySem.W.nsIn K mainGlobals "list" = some none) (bget B 15 (b := hxe15))) (of_decide_eq_true (p := PySem.W.nsIn K mainGlobals "min" = some none) (bget B 16 (b := hxe16))) (of_decide_eq_true (p := PySem.W.nsIn K mainGlobals "range" = some none) (bget B 17 (b := hxe17))) (of_decide_eq_true (p := PySem.W.nsIn K mainGlobals "set" = some none) (bget B 18 (b := hxe18))) (of_decide_eq_true (p := PySem.W.nsIn K mainGlobals "sorted" = some none) (bget B 19 (b := hxe19))) (of_decide_eq_true (p := PySem.W.nsIn K mainGlobals "tuple" = some none) (bget B 20 (b := hxe20))) (of_decide_eq_true (p := PySem.W.nsIn K mainGlobals "zip" = some none) (bget B 21 (b := hxe21)))
end DL
open PySem PySem.W PyProof.Rows
set_option maxRecDepth 100000 in
set_option maxHeartbeats 0 in
theorem PySem.Challenge.cw_fillsay_k17_whole_leading_holds : PySem.Challenge.rw_fillsay_k17_whole_leading.Holds := by
  w_on; o_law
  refine HandSHeadRun.head_any (r := OpenLaw.row PySem.Challenge.rw_fillsay_k17_whole_leading) (q := view (OpenLaw.row PySem.Challenge.rw_fillsay_k17_whole_leading).prog [15]) (H := DL.hhk) (ob := DL.hob) (M := 20000) (loose := DL.hnms) (d := HandSHeadRun.topDef (OpenLaw.row PySem.Challenge.rw_fillsay_k17_whole_leading).prog 15) (kwd := []) DL.hob_eq
    (by kernel_rfl) (fun s => by kernel_rfl) DL.hrun (by kernel_rfl) (by kernel_rfl) (by kernel_rfl) (by rfl) (by first | assumption | decide +kernel) (by decide +kernel) ⟨rfl, rfl, rfl, rfl, rfl, by decide +kernel⟩ ?hw ?hc
  case hw => w_witness2
  case hc =>
    refine DL.walk_ofEB (l := PySem.Challenge.rw_fillsay_k17_whole_leading) (n := 63) (k := 15) (x := "_law_script") (CX := L2.CX0) rfl (by decide) (by kernel_rfl) ⟨rfl, by decide, by decide⟩ ?F (fun _ _ _ _ z => z)
    intro w mg fa h Y G hmg0
    obtain ⟨K, KX, c⟩ := Y
    have hmg : mg ("law" : PySem.Str) = some (.ref fa) := by
      have e : (HandSHeadRun.topDef (OpenLaw.row PySem.Challenge.rw_fillsay_k17_whole_leading).prog 15).name = ("law" : PySem.Str) := by kernel_rfl
      rw [← e]
      exact hmg0
    obtain ⟨fd, hb, hF⟩ := DL.hfacts (l := PySem.Challenge.rw_fillsay_k17_whole_leading) (w := w) KX G hmg c
    exact ⟨K, fd, DL.spD K DL.spLaw, KX, hb, fun H a ns hl hbt _ hS => DL.spLaw_at hl hbt hS, hF⟩
