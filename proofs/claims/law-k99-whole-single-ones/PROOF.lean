import PyProof.Rows.All
import Wide.All
import OpenK.AllK
import Wide.FinOn
import HandS.ForMost
import HandS.ForExc
import HandS.Evl
import HandS.Walk
import HandS.IsInst
import HandS.TupAny
import HandS.Style
import HandS.Conv
import HandS.Wide
import HandS.Deep
import HandS.SetKeys
import HandS.SetFor
import HandS.SortRule
import HandS.ExcInit
import HandS.ExcIs
import HandS.ExcField
import HandS.EndBits
import PySem.Challenge.RW_boundsmith_k99_whole_single_ones
import KE.DataMinMax
import KE.KDictPairs
import HandS.SortKw
import HandS.WordsExc
import HandS.ExcValue
import PyProof.StrBlock2
import HandS.ExcOwn
import PyProof.Rows.ReprShort
import PyProof.ReprBulk
set_option Elab.async false
set_option linter.all false
set_option maxRecDepth 100000
set_option maxHeartbeats 4000000
/-! Data over the hand layer: what evaluates to which plain data, leaving all that is known as it was. -/
namespace K9
open PySem PySem.Spec PyProof.Rows L2 Evl

/-! ### data in the heap; a tuple that is known to the object (its own dict is none) where dict(..) may be asked of it -/
def gdsLike : List PyData → Bool
  | [] => true
  | [.tuple [.str _, .int _]] => true
  | _ => false
def PT (H : Hp) (a : Addr) (xs : List V) : Prop := ∃ o : Obj, o.dict = none ∧ H a = some (.frz o (.tup xs))
def RT (H : Hp) (a : Addr) (xs : List V) : Prop := H a = some (.tup xs) ∨ PT H a xs
theorem PT.up {H H' : Hp} {a : Addr} {xs : List V} (h : PT H a xs) (e : Ex H H') : PT H' a xs := let ⟨o, n, q⟩ := h; ⟨o, n, e _ _ q⟩
theorem RT.up {H H' : Hp} {a : Addr} {xs : List V} (h : RT H a xs) (e : Ex H H') : RT H' a xs := h.elim (fun q => .inl (e _ _ q)) fun q => .inr (q.up e)
/-- keys' data; the flat values that a dict may hold here -/
def keyD : Key → PyData
  | .inl i => .int i
  | .inr x => .str x
def atomD : V → PyData
  | .int i => .int i
  | .bl b => .bool b
  | _ => .none
def isAtom : V → Bool
  | .int _ => true
  | .bl _ => true
  | _ => false
mutual
def noDic : PyData → Bool
  | .dict _ => false
  | .list ds => noDics ds
  | .tuple ds => noDics ds
  | _ => true
def noDics : List PyData → Bool
  | [] => true
  | d :: ds => noDic d && noDics ds
end
theorem noDics_of : ∀ {ds : List PyData}, (∀ d ∈ ds, noDic d = true) → noDics ds = true
  | [], _ => rfl
  | d :: ds, h => by
    show (noDic d && noDics ds) = true
    rw [h d List.mem_cons_self, noDics_of fun e he => h e (List.mem_cons_of_mem _ he)]
    rfl
/-- what can be compared -/
def shN (d : PyData) : Bool := SeqAt.shaped d && noDic d
theorem shN_sh {d : PyData} (h : shN d = true) : SeqAt.shaped d = true := (Bool.and_eq_true_iff.mp h).1
theorem shN_no {d : PyData} (h : shN d = true) : noDic d = true := (Bool.and_eq_true_iff.mp h).2
theorem RT.sq {K : PySem.W.Frag} {H : Hp} {a : Addr} {xs : List V} (h : RT H a xs) : SqT K H a xs := h.elim SqT.of fun ⟨o, _, q⟩ => .inl (.inr ⟨o, q⟩)
mutual
inductive DD (H : Hp) : V → PyData → Prop
  | non : DD H .non .none
  | bl (b : Bool) : DD H (.bl b) (.bool b)
  | int (i : Int) : DD H (.int i) (.int i)
  | str (x : Str) : DD H (.str x) (.str x)
  | lst {a : Addr} {xs : List V} {ds : List PyData} : H a = some (.lst xs) → DDs H xs ds → DD H (.ref a) (.list ds)
  | tup {a : Addr} {xs : List V} {ds : List PyData} : RT H a xs → (gdsLike ds = true → PT H a xs) → DDs H xs ds → DD H (.ref a) (.tuple ds)
  | dct {a : Addr} {kvs : List (Key × V)} {kds : List (PyData × PyData)} : H a = some (.dK kvs) → kds = kvs.map (fun p => (keyD p.1, atomD p.2)) → (kvs.all fun p => isAtom p.2) = true → DD H (.ref a) (.dict kds)
  | raw (a : Addr) : DD H (.ref a) (.dict [(.none, .int (a : Nat))])
inductive DDs (H : Hp) : List V → List PyData → Prop
  | nil : DDs H [] []
  | cons {v : V} {vs : List V} {d : PyData} {ds : List PyData} : DD H v d → DDs H vs ds → DDs H (v :: vs) (d :: ds)
end
mutual
theorem DD.mono {H H' : Hp} (e : Ex H H') : ∀ (d : PyData) (v : V), DD H v d → DD H' v d
  | .none, _, h => by cases h; exact .non
  | .bool _, _, h => by cases h; exact .bl _
  | .int _, _, h => by cases h; exact .int _
  | .str _, _, h => by cases h; exact .str _
  | .list ds, _, h => by
    cases h with
    | lst h1 h2 => exact .lst (e _ _ h1) (DDs.mono e ds _ h2)
  | .tuple ds, _, h => by
    cases h with
    | tup h1 hp h2 => exact .tup (h1.up e) (fun z => (hp z).up e) (DDs.mono e ds _ h2)
  | .dict _, _, h => by
    cases h with
    | dct h1 h2 h3 => exact .dct (e _ _ h1) h2 h3
    | raw a => exact .raw a
theorem DDs.mono {H H' : Hp} (e : Ex H H') : ∀ (ds : List PyData) (vs : List V), DDs H vs ds → DDs H' vs ds
  | [], _, h => by cases h; exact .nil
  | d :: ds, _, h => by
    cases h with
    | cons h1 h2 => exact .cons (DD.mono e d _ h1) (DDs.mono e ds _ h2)
end
mutual
theorem DD.dp {K : PySem.W.Frag} {H : Hp} : ∀ (d : PyData) (v : V), noDic d = true → DD H v d → Dp K H v d
  | .none, _, _, h => by cases h; exact .non
  | .bool _, _, _, h => by cases h; exact .bl _
  | .int _, _, _, h => by cases h; exact .int _
  | .str _, _, _, h => by cases h; exact .str _
  | .list ds, _, n, h => by
    cases h with
    | lst h1 h2 => exact .lst (SqL.of h1) (DDs.dp ds _ n h2)
  | .tuple ds, _, n, h => by
    cases h with
    | tup h1 _ h2 => exact .tup h1.sq (DDs.dp ds _ n h2)
  | .dict _, _, n, _ => by cases n
theorem DDs.dp {K : PySem.W.Frag} {H : Hp} : ∀ (ds : List PyData) (vs : List V), noDics ds = true → DDs H vs ds → DpAll K H vs ds
  | [], _, _, h => by cases h; exact .nil
  | d :: ds, _, n, h => by
    cases h with
    | cons h1 h2 =>
      have n2 : (noDic d && noDics ds) = true := n
      rw [Bool.and_eq_true] at n2
      exact .cons (DD.dp d _ n2.1 h1) (DDs.dp ds _ n2.2 h2)
end
theorem DD.dpS {K : PySem.W.Frag} {H : Hp} {d : PyData} {v : V} (h : DD H v d) (s : shN d = true) : Dp K H v d := DD.dp d v (shN_no s) h
theorem DD.up {H H' : Hp} {d : PyData} {v : V} (h : DD H v d) (e : Ex H H') : DD H' v d := DD.mono e d v h
theorem DDs.up {H H' : Hp} {ds : List PyData} {vs : List V} (h : DDs H vs ds) (e : Ex H H') : DDs H' vs ds := DDs.mono e ds vs h
theorem DDs.len {H : Hp} : ∀ {vs : List V} {ds : List PyData}, DDs H vs ds → vs.length = ds.length
  | _, _, .nil => rfl
  | _, _, .cons _ t => congrArg (· + 1) t.len
theorem DDs.get {H : Hp} : ∀ {vs : List V} {ds : List PyData} {i : Nat} {d : PyData}, DDs H vs ds → ds[i]? = some d → ∃ v, vs[i]? = some v ∧ DD H v d
  | _, _, 0, _, .cons h _, e => by
    cases (show some _ = some _ from e)
    exact ⟨_, rfl, h⟩
  | _, _, i + 1, _, .cons _ t, e => t.get (i := i) (by simpa using e) |>.imp fun v q => ⟨by simpa using q.1, q.2⟩
theorem DDs.got {H : Hp} : ∀ {vs : List V} {ds : List PyData} {i : Nat} {v : V}, DDs H vs ds → vs[i]? = some v → ∃ d, ds[i]? = some d ∧ DD H v d
  | _, _, 0, _, .cons h _, e => by
    cases (show some _ = some _ from e)
    exact ⟨_, rfl, h⟩
  | _, _, i + 1, _, .cons _ t, e => t.got (i := i) (by simpa using e) |>.imp fun v q => ⟨by simpa using q.1, q.2⟩
theorem DDs.app {H : Hp} : ∀ {vs us : List V} {ds es : List PyData}, DDs H vs ds → DDs H us es → DDs H (vs ++ us) (ds ++ es)
  | _, _, _, _, .nil, k => k
  | _, _, _, _, .cons h t, k => .cons h (t.app k)
theorem DDs.take {H : Hp} : ∀ {vs : List V} {ds : List PyData} (n : Nat), DDs H vs ds → DDs H (vs.take n) (ds.take n)
  | _, _, 0, _ => .nil
  | _, _, _ + 1, .nil => .nil
  | _, _, n + 1, .cons h t => .cons h (t.take n)
theorem DDs.drop {H : Hp} : ∀ {vs : List V} {ds : List PyData} (n : Nat), DDs H vs ds → DDs H (vs.drop n) (ds.drop n)
  | _, _, 0, h => h
  | _, _, _ + 1, .nil => .nil
  | _, _, n + 1, .cons _ t => t.drop n
theorem DDs.one {H : Hp} {v : V} {d : PyData} (h : DD H v d) : DDs H [v] [d] := .cons h .nil
theorem DDs.ints {H : Hp} : ∀ {ns : List Int} {vs : List V}, DDs H vs (ns.map PyData.int) → vs = ns.map V.int
  | [], _, .nil => rfl
  | _ :: ns, _, .cons h t => by
    cases h
    rw [List.map_cons, DDs.ints t]
theorem DDs.ofInts {H : Hp} : ∀ ns : List Int, DDs H (ns.map V.int) (ns.map PyData.int)
  | [] => .nil
  | n :: ns => .cons (.int n) (DDs.ofInts ns)
theorem DDs.strs {H : Hp} : ∀ {ns : List Str} {vs : List V}, DDs H vs (ns.map PyData.str) → vs = ns.map V.str
  | [], _, .nil => rfl
  | _ :: ns, _, .cons h t => by
    cases h
    rw [List.map_cons, DDs.strs t]
theorem DDs.bools {H : Hp} : ∀ {ns : List Bool} {vs : List V}, DDs H vs (ns.map PyData.bool) → vs = ns.map V.bl
  | [], _, .nil => rfl
  | _ :: ns, _, .cons h t => by
    cases h
    rw [List.map_cons, DDs.bools t]
theorem DD.eqInt {H : Hp} {v : V} {i : Int} (h : DD H v (.int i)) : v = .int i := by cases h; rfl
theorem DD.eqStr {H : Hp} {v : V} {i : Str} (h : DD H v (.str i)) : v = .str i := by cases h; rfl
theorem DD.eqBl {H : Hp} {v : V} {i : Bool} (h : DD H v (.bool i)) : v = .bl i := by cases h; rfl
theorem DD.eqNon {H : Hp} {v : V} (h : DD H v .none) : v = .non := by cases h; rfl
theorem DD.atTup {H : Hp} {v : V} {ds : List PyData} (h : DD H v (.tuple ds)) : ∃ a xs, v = .ref a ∧ RT H a xs ∧ DDs H xs ds := by
  cases h with
  | tup h1 _ h2 => exact ⟨_, _, rfl, h1, h2⟩
theorem DD.atLst {H : Hp} {v : V} {ds : List PyData} (h : DD H v (.list ds)) : ∃ a xs, v = .ref a ∧ H a = some (.lst xs) ∧ DDs H xs ds := by
  cases h with
  | lst h1 h2 => exact ⟨_, _, rfl, h1, h2⟩

/-! ### the slots' data -/
abbrev Sd := List (Option PyData)
structure SD (H : Hp) (s : L2.St) (t : Sd) : Prop where
  len : s.length = t.length
  get : ∀ (i : Nat) (d : PyData), t[i]? = some (some d) → ∃ v, s[i]? = some (some v) ∧ DD H v d
theorem SD.up {H H' : Hp} {s : L2.St} {t : Sd} (h : SD H s t) (e : Ex H H') : SD H' s t :=
  ⟨h.len, fun i d q => let ⟨v, a, b⟩ := h.get i d q; ⟨v, a, b.up e⟩⟩
theorem SD.set {H : Hp} {s : L2.St} {t : Sd} {v : V} {d : PyData} (h : SD H s t) (i : Nat) (hd : DD H v d) : SD H (s.set i (some v)) (t.set i (some d)) :=
  ⟨by rw [List.length_set, List.length_set, h.len], fun j e q => by
    by_cases hj : i = j
    · subst hj
      have hl : i < t.length := by
        have := (List.getElem?_eq_some_iff.mp q).1
        rwa [List.length_set] at this
      rw [List.getElem?_set_self hl] at q
      cases q
      exact ⟨v, by rw [List.getElem?_set_self (by rw [h.len]; exact hl)], hd⟩
    · rw [List.getElem?_set_ne hj] at q
      rw [List.getElem?_set_ne hj]
      exact h.get j e q⟩
/-- a slot forgotten -/
theorem SD.lose {H : Hp} {s : L2.St} {t : Sd} (h : SD H s t) (i : Nat) (o : Option V) : SD H (s.set i o) (t.set i none) :=
  ⟨by rw [List.length_set, List.length_set, h.len], fun j e q => by
    by_cases hj : i = j
    · subst hj
      have hl : i < t.length := by
        have := (List.getElem?_eq_some_iff.mp q).1
        rwa [List.length_set] at this
      rw [List.getElem?_set_self hl] at q
      cases q
    · rw [List.getElem?_set_ne hj] at q
      rw [List.getElem?_set_ne hj]
      exact h.get j e q⟩
/-- weaker knowledge -/
def leD : Sd → Sd → Prop := fun a b => a.length = b.length ∧ ∀ (i : Nat) (d : PyData), a[i]? = some (some d) → b[i]? = some (some d)
theorem SD.weak {H : Hp} {s : L2.St} {t t' : Sd} (h : SD H s t) (l : leD t' t) : SD H s t' := ⟨h.len.trans l.1.symm, fun i d q => h.get i d (l.2 i d q)⟩
theorem leD.refl (a : Sd) : leD a a := ⟨rfl, fun _ _ h => h⟩
theorem leD.setNone (a : Sd) (i : Nat) : leD (a.set i none) a := ⟨List.length_set, fun j d q => by
  by_cases hj : i = j
  · subst hj
    have hl : i < a.length := by
      have := (List.getElem?_eq_some_iff.mp q).1
      rwa [List.length_set] at this
    rw [List.getElem?_set_self hl] at q
    cases q
  · rwa [List.getElem?_set_ne hj] at q⟩
def startD (n : Nat) (ds : List PyData) : Sd := ds.map some ++ List.replicate (n - ds.length) none
theorem SD.start {H : Hp} {N : List Str} {vs : List V} {ds : List PyData} (h : DDs H vs ds) : SD H (start N vs) (startD N.length ds) :=
  ⟨by simp [L2.start, startD, h.len], fun i d q => by
    unfold startD at q
    unfold L2.start
    by_cases hi : i < ds.length
    · rw [List.getElem?_append_left (by simpa using hi), List.getElem?_map] at q
      cases e : ds[i]? with
      | none => rw [e] at q; cases q
      | some d' =>
        rw [e] at q
        cases q
        obtain ⟨v, e2, k⟩ := h.get e
        exact ⟨v, by rw [List.getElem?_append_left (by simpa [h.len] using hi), List.getElem?_map, e2] <;> rfl, k⟩
    · rw [List.getElem?_append_right (by simpa using hi), List.getElem?_replicate] at q
      split at q <;> cases q⟩

/-! ### worlds: G is what is known and stays, H all that is tracked -/
structure Nx (G H G' H' : Hp) : Prop where
  g : Ex G G'
  h : Ex H H'
  i : Ex G' H'
  n : ∀ b, H b ≠ none → G b = none → G' b = none
theorem Nx.refl {G H : Hp} (i : Ex G H) : Nx G H G H := ⟨Ex.refl _, Ex.refl _, i, fun _ _ h => h⟩
theorem Nx.trans {G H G1 H1 G2 H2 : Hp} (a : Nx G H G1 H1) (b : Nx G1 H1 G2 H2) : Nx G H G2 H2 := ⟨a.g.trans b.g, a.h.trans b.h, b.i, fun c hc hg => by
  refine b.n c ?_ (a.n c hc hg)
  cases e : H c with
  | none => exact absurd e hc
  | some o =>
    rw [a.h c o e]
    exact fun z => nomatch z⟩
theorem Nx.same {G H H' : Hp} (i : Ex G H) (e : Ex H H') : Nx G H G H' := ⟨Ex.refl _, e, i.trans e, fun _ _ h => h⟩
theorem Nx.new {G H : Hp} {p : Addr} {o : HO} (i : Ex G H) (np : H p = none) : Nx G H (upd G p o) (upd H p o) where
  g := Ex.new (fresh_back i np)
  h := Ex.new np
  i := fun a u e => by
    by_cases q : a = p
    · subst q
      rw [upd_same] at e ⊢
      exact e
    · rw [upd_ne q] at e ⊢
      exact i a u e
  n := fun b hb hg => by
    have q : b ≠ p := fun z => hb (z ▸ np)
    rw [upd_ne q]
    exact hg

/-! ### what evaluates to what data -/
def EvD (te : TE) (s : L2.St) (G0 : Hp) (d : PyData) : Prop := ∀ G H, Ex G0 G → Ex G H → ∀ Q : VK, (∀ v G' H', Nx G H G' H' → DD G' v d → Q v H') → te s H Q
def EvDs (ta : TA) (s : L2.St) (G0 : Hp) (ds : List PyData) : Prop := ∀ G H, Ex G0 G → Ex G H → ∀ Q : List V → Hp → Prop, (∀ vs G' H', Nx G H G' H' → DDs G' vs ds → Q vs H') → ta s H Q
def YD (G0 : Hp) (ds : List PyData) : Nat → Hp → V → Hp → Prop := fun i H x H' => ∀ G, Ex G0 G → Ex G H → ∃ G' d, Nx G H G' H' ∧ ds[i]? = some d ∧ DD G' x d
def EvI (wi : TI) (s : L2.St) (G0 : Hp) (ds : List PyData) : Prop := ∀ G H, Ex G0 G → Ex G H → ∀ R : It → Hp → Prop, (∀ J G' H', Nx G H G' H' → Walk J ds.length (Ex G') (YD G' ds) → R J H') → wi s H R
section
variable {K : PySem.W.Frag} {s : L2.St} {G0 G1 : Hp} {ta tb tc te tl : TE} {tr : TA} {t u : TT} {d d1 d2 : PyData} {ds : List PyData} {q : Sd} {r : R2}
theorem EvD.up (h : EvD te s G0 d) (e : Ex G0 G1) : EvD te s G1 d := fun G H a i Q k => h G H (e.trans a) i Q k
theorem EvDs.up (h : EvDs tr s G0 ds) (e : Ex G0 G1) : EvDs tr s G1 ds := fun G H a i Q k => h G H (e.trans a) i Q k
theorem dv_is (h : EvD te s G0 d1) (e : d1 = d2) : EvD te s G0 d2 := e ▸ h
theorem dv_var {i : Nat} (S : SD G0 s q) (h : q[i]? = some (some d) := by rfl) : EvD (tVar i) s G0 d := fun G H e j Q k =>
  let ⟨v, a, b⟩ := S.get i d h; ⟨v, a, k v G H (Nx.refl j) (b.up e)⟩
theorem dv_int {i : Int} : EvD (tC (.int i)) s G0 (.int i) := fun G H _ j Q k => k _ G H (Nx.refl j) (.int i)
theorem dv_str {i : Str} : EvD (tC (.str i)) s G0 (.str i) := fun G H _ j Q k => k _ G H (Nx.refl j) (.str i)
theorem dv_bl {i : Bool} : EvD (tC (.bl i)) s G0 (.bool i) := fun G H _ j Q k => k _ G H (Nx.refl j) (.bl i)
theorem dv_non : EvD (tC .non) s G0 .none := fun G H _ j Q k => k _ G H (Nx.refl j) .non
theorem EvD.ev {v : V} (h : EvD te s G0 d) (e : ∀ H v', DD H v' d → v' = v) : Ev te s G0 v := fun H a Q k => h G0 H (Ex.refl _) a _ fun v' G' H' n z => by
  rw [e _ v' z]
  exact k H' n.h
theorem EvD.int {i : Int} (h : EvD te s G0 (.int i)) : Ev te s G0 (.int i) := h.ev fun _ _ z => z.eqInt
theorem EvD.str {i : Str} (h : EvD te s G0 (.str i)) : Ev te s G0 (.str i) := h.ev fun _ _ z => z.eqStr
theorem EvD.bl {i : Bool} (h : EvD te s G0 (.bool i)) : Ev te s G0 (.bl i) := h.ev fun _ _ z => z.eqBl
theorem EvD.non (h : EvD te s G0 .none) : Ev te s G0 .non := h.ev fun _ _ z => z.eqNon
theorem dv_ev {v : V} (h : Ev te s G0 v) (hd : ∀ H, DD H v d) : EvD te s G0 d := fun G H a i Q k => h H (a.trans i) Q fun H2 e2 => k v G H2 (Nx.same i e2) (hd G)
/-- ints under an operator -/
theorem dv_I0 {g : Int → Int → V} {i j : Int} (ha : EvD ta s G0 (.int i)) (hb : EvD tb s G0 (.int j)) (hd : ∀ H, DD H (g i j) d) : EvD (tOp (rI0 g) ta tb) s G0 d :=
  dv_ev (ev_op ha.int hb.int rv_I0) hd
theorem dv_I {C : Int → Int → Prop} {g : Int → Int → V} {i j : Int} (ha : EvD ta s G0 (.int i)) (hb : EvD tb s G0 (.int j)) (hc : C i j) (hd : ∀ H, DD H (g i j) d) : EvD (tOp (rI C g) ta tb) s G0 d :=
  dv_ev (ev_op ha.int hb.int (rv_I hc)) hd
theorem dv_opI {g : Int → Int → Int} {i j : Int} (ha : EvD ta s G0 (.int i)) (hb : EvD tb s G0 (.int j)) : EvD (tOp (rI0 fun i j => .int (g i j)) ta tb) s G0 (.int (g i j)) := dv_I0 ha hb fun _ => .int _
theorem dv_opB {g : Int → Int → Bool} {i j : Int} (ha : EvD ta s G0 (.int i)) (hb : EvD tb s G0 (.int j)) : EvD (tOp (rI0 fun i j => .bl (g i j)) ta tb) s G0 (.bool (g i j)) := dv_I0 ha hb fun _ => .bl _
theorem dv_opC {C : Int → Int → Prop} {g : Int → Int → Int} {i j : Int} (ha : EvD ta s G0 (.int i)) (hb : EvD tb s G0 (.int j)) (hc : C i j) : EvD (tOp (rI C fun i j => .int (g i j)) ta tb) s G0 (.int (g i j)) := dv_I ha hb hc fun _ => .int _
theorem dv_chain {f g : Int → Int → Bool} {i j k : Int} (ha : EvD ta s G0 (.int i)) (hb : EvD tb s G0 (.int j)) (hc : EvD tc s G0 (.int k)) :
    EvD (tChain (rI0 fun i j => .bl (f i j)) (rI0 fun i j => .bl (g i j)) ta tb tc) s G0 (.bool (f i j && g j k)) := dv_ev (v := .bl (f i j && g j k)) (fun H1 e Q q =>
  ha.int H1 e _ fun H2 e2 => hb.int H2 (e.trans e2) _ fun H3 e3 => ⟨i, j, rfl, rfl, f i j, rfl, by
    cases hf : f i j with
    | true =>
      rw [hf] at q
      show tc s H3 _
      exact hc.int H3 ((e.trans e2).trans e3) _ fun H4 e4 => ⟨j, k, rfl, rfl, q H4 ((e2.trans e3).trans e4)⟩
    | false =>
      rw [hf] at q
      show Q (.bl false) H3
      exact q H3 (e2.trans e3)⟩) fun _ => .bl _
/-- a two-place rule by data -/
theorem dv_op (ha : EvD ta s G0 d1) (hb : EvD tb s G0 d2) (hr : ∀ G H x y, Ex G0 G → Ex G H → DD G x d1 → DD G y d2 → ∀ Q : VK, (∀ v G' H', Nx G H G' H' → DD G' v d → Q v H') → r x y H Q) : EvD (tOp r ta tb) s G0 d := fun G H e i Q k =>
  ha G H e i _ fun x G2 H2 n2 h2 => hb G2 H2 (e.trans n2.g) n2.i _ fun y G3 H3 n3 h3 => hr G3 H3 x y ((e.trans n2.g).trans n3.g) n3.i (h2.up n3.g) h3 Q fun v G4 H4 n4 h4 => k v G4 H4 ((n2.trans n3).trans n4) h4
theorem dv_eqD (ha : EvD ta s G0 d1) (hb : EvD tb s G0 d2) (s1 : shN d1 = true) (s2 : shN d2 = true) : EvD (tOp (rEqD K) ta tb) s G0 (.bool (PyData.eqv d1 d2)) :=
  dv_op ha hb fun G H _ _ _ i h1 h2 _ k => ⟨d1, d2, (h1.up i).dpS s1, (h2.up i).dpS s2, shN_sh s1, shN_sh s2, k _ G H (Nx.refl i) (.bl _)⟩
theorem dv_neD (ha : EvD ta s G0 d1) (hb : EvD tb s G0 d2) (s1 : shN d1 = true) (s2 : shN d2 = true) : EvD (tOp (rNeD K) ta tb) s G0 (.bool (!PyData.eqv d1 d2)) :=
  dv_op ha hb fun G H _ _ _ i h1 h2 _ k => ⟨d1, d2, (h1.up i).dpS s1, (h2.up i).dpS s2, shN_sh s1, shN_sh s2, k _ G H (Nx.refl i) (.bl _)⟩
theorem dv_inD {es : List PyData} (ha : EvD ta s G0 d1) (hb : EvD tb s G0 (.list es)) (s1 : shN d1 = true) (s2 : shN (.list es) = true) : EvD (tOp (rInD K) ta tb) s G0 (.bool (es.any fun z => PyData.eqv z d1)) :=
  dv_op ha hb fun G H _ _ _ i h1 h2 _ k => ⟨d1, es, (h1.up i).dpS s1, (h2.up i).dpS s2, shN_sh s1, shN_sh s2, k _ G H (Nx.refl i) (.bl _)⟩
theorem dv_niD {es : List PyData} (ha : EvD ta s G0 d1) (hb : EvD tb s G0 (.list es)) (s1 : shN d1 = true) (s2 : shN (.list es) = true) : EvD (tOp (rNotInD K) ta tb) s G0 (.bool (!es.any fun z => PyData.eqv z d1)) :=
  dv_op ha hb fun G H _ _ _ i h1 h2 _ k => ⟨d1, es, (h1.up i).dpS s1, (h2.up i).dpS s2, shN_sh s1, shN_sh s2, k _ G H (Nx.refl i) (.bl _)⟩
theorem dv_ixT {i : Int} (ha : EvD ta s G0 (.tuple ds)) (hb : EvD tb s G0 (.int i)) (hi : atI ds i = some d) : EvD (tOp (rIxT K) ta tb) s G0 d :=
  dv_op ha hb fun G H _ _ _ w h1 h2 _ k => by
    obtain ⟨a, xs, rfl, ea, hx⟩ := h1.atTup
    cases h2.eqInt
    unfold atI at hi
    obtain ⟨j, hj, hi⟩ := Option.bind_eq_some_iff.mp hi
    obtain ⟨v, hv, hd⟩ := hx.get hi
    exact ⟨a, xs, i, v, rfl, rfl, (ea.up w).sq, by unfold atI; rw [hx.len, hj]; exact hv, k _ G H (Nx.refl w) hd⟩
theorem dv_ixL {i : Int} (ha : EvD ta s G0 (.list ds)) (hb : EvD tb s G0 (.int i)) (hi : atI ds i = some d) : EvD (tOp (rIxL K) ta tb) s G0 d :=
  dv_op ha hb fun G H _ _ _ w h1 h2 _ k => by
    obtain ⟨a, xs, rfl, ea, hx⟩ := h1.atLst
    cases h2.eqInt
    unfold atI at hi
    obtain ⟨j, hj, hi⟩ := Option.bind_eq_some_iff.mp hi
    obtain ⟨v, hv, hd⟩ := hx.get hi
    exact ⟨a, xs, i, v, rfl, rfl, SqL.of (w _ _ ea), by unfold atI; rw [hx.len, hj]; exact hv, k _ G H (Nx.refl w) hd⟩
theorem dv_cat {es : List PyData} (ha : EvD ta s G0 (.list ds)) (hb : EvD tb s G0 (.list es)) (hl : ds.length + es.length ≤ 100000) : EvD (tOp rCat ta tb) s G0 (.list (ds ++ es)) :=
  dv_op ha hb fun G H _ _ _ w h1 h2 _ k => by
    obtain ⟨a, xs, rfl, ea, hx⟩ := h1.atLst
    obtain ⟨b, ys, rfl, eb, hy⟩ := h2.atLst
    exact ⟨a, b, xs, ys, rfl, rfl, w _ _ ea, w _ _ eb, by rw [hx.len, hy.len]; exact sz_of hl, fun p np => k _ _ _ (Nx.new w np) (.lst upd_same ((hx.app hy).up (Ex.new (fresh_back w np))))⟩
/-- a tuple, of which it is not said that it is known to the object -/
def EvW (te : TE) (s : L2.St) (G0 : Hp) (ds : List PyData) : Prop := ∀ G H, Ex G0 G → Ex G H → ∀ Q : VK, (∀ a xs G' H', Nx G H G' H' → RT G' a xs → DDs G' xs ds → Q (.ref a) H') → te s H Q
theorem EvD.ew (h : EvD te s G0 (.tuple ds)) : EvW te s G0 ds := fun G H e i Q k => h G H e i Q fun v G' H' n hv => by
  obtain ⟨a, xs, rfl, ea, hx⟩ := hv.atTup
  exact k a xs G' H' n ea hx
theorem EvW.ed (h : EvW te s G0 ds) (hn : gdsLike ds = false) : EvD te s G0 (.tuple ds) := fun G H e i Q k => h G H e i Q fun a xs G' H' n r hx => k _ G' H' n (.tup r (fun z => by rw [hn] at z; cases z) hx)
theorem dw_cat {es : List PyData} (ha : EvW ta s G0 ds) (hb : EvW tb s G0 es) (hl : ds.length + es.length ≤ 100000) : EvW (tOp (rCatA K) ta tb) s G0 (ds ++ es) := fun G H e i Q k =>
  ha G H e i _ fun a xs G2 H2 n2 ea hx => hb G2 H2 (e.trans n2.g) n2.i _ fun b ys G3 H3 n3 eb hy => by
    have n4 := n2.trans n3
    have w := n3.i
    have ea3 := ea.up n3.g
    have hx3 := hx.up n3.g
    refine ⟨a, b, xs, ys, rfl, rfl, (ea3.up w).sq, (eb.up w).sq, by rw [hx.len, hy.len]; exact sz_of hl, fun e => ?_, fun _ e => ?_, fun _ _ p np => k _ _ _ _ (n4.trans (Nx.new w np)) (.inl upd_same) ((hx3.app hy).up (Ex.new (fresh_back w np)))⟩
    · have e1 : ds = [] := List.length_eq_zero_iff.mp (by rw [← hx.len, e]; rfl)
      rw [e1, List.nil_append] at k
      exact k _ _ _ _ n4 eb hy
    · have e1 : es = [] := List.length_eq_zero_iff.mp (by rw [← hy.len, e]; rfl)
      rw [e1, List.append_nil] at k
      exact k _ _ _ _ n4 ea3 hx3
theorem dv_catT {es : List PyData} (ha : EvW ta s G0 ds) (hb : EvW tb s G0 es) (hl : ds.length + es.length ≤ 100000) (hn : gdsLike (ds ++ es) = false) : EvD (tOp (rCatA K) ta tb) s G0 (.tuple (ds ++ es)) := (dw_cat ha hb hl).ed hn
def cutD (xs : List PyData) (lo hi : Option Int) : List PyData := (xs.drop (HT.sIx xs.length 0 lo)).take (HT.sIx xs.length xs.length hi - HT.sIx xs.length 0 lo)
theorem DDs.cut {vs : List V} (h : DDs G0 vs ds) (lo hi : Option Int) : DDs G0 (cutV vs lo hi) (cutD ds lo hi) := by
  unfold cutV cutD
  rw [h.len]
  exact (h.drop _).take _
theorem dw_sl {tl th : TO} {lo hi : Option Int} (ha : EvD ta s G0 (.tuple ds)) (h1 : EvO tl s G0 lo) (h2 : EvO th s G0 hi) : EvW (tSl (rSlA K) ta tl th) s G0 (cutD ds lo hi) := fun G H e i Q k =>
  ha G H e i _ fun x G2 H2 n2 hx => h1 H2 ((e.trans n2.g).trans n2.i) _ fun H3 e3 => h2 H3 (((e.trans n2.g).trans n2.i).trans e3) _ fun H4 e4 => by
    have n4 : Nx G H G2 H4 := n2.trans (Nx.same n2.i (e3.trans e4))
    obtain ⟨a, xs, rfl, ea, hxs⟩ := id hx.atTup
    refine ⟨a, xs, rfl, (ea.up n4.i).sq, fun w => ?_, fun _ p np => k _ _ _ _ (n4.trans (Nx.new n4.i np)) (.inl upd_same) ((hxs.cut lo hi).up (Ex.new (fresh_back n4.i np)))⟩
    have ec : cutD ds lo hi = ds := by
      unfold cutD
      rw [hxs.len] at w
      rw [w.1, w.2, List.drop_zero, Nat.sub_zero, List.take_length]
    rw [ec] at k
    exact k _ _ _ _ n4 ea hxs
theorem dv_slT {tl th : TO} {lo hi : Option Int} (ha : EvD ta s G0 (.tuple ds)) (h1 : EvO tl s G0 lo) (h2 : EvO th s G0 hi) (hn : gdsLike (cutD ds lo hi) = false) : EvD (tSl (rSlA K) ta tl th) s G0 (.tuple (cutD ds lo hi)) := (dw_sl ha h1 h2).ed hn
theorem dv_slL {tl th : TO} {lo hi : Option Int} (ha : EvD ta s G0 (.list ds)) (h1 : EvO tl s G0 lo) (h2 : EvO th s G0 hi) : EvD (tSl (rSlL K) ta tl th) s G0 (.list (cutD ds lo hi)) := fun G H e i Q k =>
  ha G H e i _ fun x G2 H2 n2 hx => h1 H2 ((e.trans n2.g).trans n2.i) _ fun H3 e3 => h2 H3 (((e.trans n2.g).trans n2.i).trans e3) _ fun H4 e4 => by
    have n4 : Nx G H G2 H4 := n2.trans (Nx.same n2.i (e3.trans e4))
    obtain ⟨a, xs, rfl, ea, hxs⟩ := hx.atLst
    exact ⟨a, xs, rfl, SqL.of (n4.i _ _ ea), fun p np => k _ _ _ (n4.trans (Nx.new n4.i np)) (.lst upd_same ((hxs.cut lo hi).up (Ex.new (fresh_back n4.i np))))⟩
theorem eo_int {i : Int} (h : EvD te s G0 (.int i)) : EvO (tPart te) s G0 (some i) := eo_some h.int
/-! lists of arguments, displays, calls -/
theorem ds_nil : EvDs tNil s G0 [] := fun G H _ i _ k => k _ G H (Nx.refl i) .nil
theorem ds_cons (h : EvD ta s G0 d) (hr : EvDs tr s G0 ds) : EvDs (tCons ta tr) s G0 (d :: ds) := fun G H e i _ k =>
  h G H e i _ fun v G2 H2 n2 h2 => hr G2 H2 (e.trans n2.g) n2.i _ fun vs G3 H3 n3 h3 => k _ G3 H3 (n2.trans n3) (.cons (h2.up n3.g) h3)
/-- a tuple's display: the new thing is known -/
def tTupF (t : TA) : TE := fun σ H Q => t σ H fun xs H1 => xs.length ≤ sizeLine ∧ ∀ (p : Addr) (o : Obj), o.dict = none → H1 p = none → Q (.ref p) (upd H1 p (.frz o (.tup xs)))
theorem pe_tupF {X : Cx} {es : List Expr} {t : TA} {x1} {pos : Pos} (h : PA X es t) : PE X (.Tuple es x1 pos) (tTupF t) := by
  refine ⟨fun pins s σ H Q I hq => ?_⟩
  refine wpAny_Tuple_spliced (thn (h.run pos pins s σ H _ I hq) fun us s1 ⟨xs, H1, I1, r, z, q⟩ => ⟨by rw [← r.length]; exact z, ?_⟩)
  have hf : H1 s1.heap.objs.size = none := I1.hok.fresh (Nat.le_refl _)
  have hg := Heap.get?_push_size s1.heap (o := { cls := .type "tuple", data := .seq us.toArray 0 }) rfl
  refine ⟨.ref s1.heap.objs.size, upd H1 s1.heap.objs.size (.frz { cls := .type "tuple", data := .seq us.toArray 0 } (.tup xs)), I1.laid (t' := s1.toks) (fun b u e => Heap.get?_push_of_some _ e) (Nat.le_refl _) ?_, rfl, q _ _ rfl hf⟩
  exact ⟨hg, z, us, r, ⟨_, hg, rfl, _, rfl⟩⟩
theorem dv_tup (h : EvDs tr s G0 ds) (hl : ds.length ≤ 100000 := by decide) : EvD (tTupF tr) s G0 (.tuple ds) := fun G H e i _ k =>
  h G H e i _ fun vs G2 H2 n2 h2 => ⟨by rw [h2.len]; exact sz_of hl, fun p o ho np => k _ _ _ (n2.trans (Nx.new n2.i np)) (.tup (.inr ⟨o, ho, upd_same⟩) (fun _ => ⟨o, ho, upd_same⟩) (h2.up (Ex.new (fresh_back n2.i np))))⟩
theorem dv_lst (h : EvDs tr s G0 ds) (hl : ds.length ≤ 100000 := by decide) : EvD (tLst tr) s G0 (.list ds) := fun G H e i _ k =>
  h G H e i _ fun vs G2 H2 n2 h2 => ⟨by rw [h2.len]; exact sz_of hl, fun p np => k _ _ _ (n2.trans (Nx.new n2.i np)) (.lst upd_same (h2.up (Ex.new (fresh_back n2.i np))))⟩
/-- a built-in's call by data -/
theorem dv_cb {r : List V → Hp → VK → Prop} (h : EvDs tr s G0 ds) (hr : ∀ G H vs, Ex G0 G → Ex G H → DDs G vs ds → ∀ Q : VK, (∀ v G' H', Nx G H G' H' → DD G' v d → Q v H') → r vs H Q) : EvD (tCB r tr) s G0 d := fun G H e i Q k =>
  h G H e i _ fun vs G2 H2 n2 h2 => hr G2 H2 vs (e.trans n2.g) n2.i h2 Q fun v G3 H3 n3 h3 => k v G3 H3 (n2.trans n3) h3
theorem DDs.inv1 {vs : List V} (h : DDs G0 vs [d]) : ∃ v, vs = [v] ∧ DD G0 v d := by
  cases h with
  | cons h1 h2 =>
    cases h2
    exact ⟨_, rfl, h1⟩
theorem DDs.inv2 {vs : List V} (h : DDs G0 vs [d1, d2]) : ∃ v u, vs = [v, u] ∧ DD G0 v d1 ∧ DD G0 u d2 := by
  cases h with
  | cons h1 h2 =>
    obtain ⟨u, rfl, h3⟩ := h2.inv1
    exact ⟨_, _, rfl, h1, h3⟩
/-- len of a tuple, a list -/
def lenD : PyData → Nat
  | .tuple ds => ds.length
  | .list ds => ds.length
  | _ => 0
def kidsD : PyData → List PyData
  | .tuple ds => ds
  | .list ds => ds
  | _ => []
def isSeq : PyData → Bool
  | .tuple _ => true
  | .list _ => true
  | _ => false
def rLenQ (K : PySem.W.Frag) : List V → Hp → VK → Prop := fun xs H Q => ∃ p ys, xs = [.ref p] ∧ (SqL K H p ys ∨ SqT K H p ys) ∧ Q (.int ys.length) H
def rListQ (K : PySem.W.Frag) : List V → Hp → VK → Prop := fun xs H Q => ∃ p ys, xs = [.ref p] ∧ (SqL K H p ys ∨ SqT K H p ys) ∧ ∀ l, H l = none → Q (.ref l) (upd H l (.lst ys))
def rTupQ (K : PySem.W.Frag) : List V → Hp → VK → Prop := fun xs H Q => ∃ p ys, xs = [.ref p] ∧ ((SqL K H p ys ∧ ∀ l, H l = none → Q (.ref l) (upd H l (.tup ys))) ∨ (SqT K H p ys ∧ Q (.ref p) H))
def rIntQ : List V → Hp → VK → Prop := fun xs H Q => (∃ i, xs = [.int i] ∧ Q (.int i) H) ∨ ∃ k, xs = [.bl k] ∧ Q (.int (if k then 1 else 0)) H
theorem dv_list (h : EvD ta s G0 d) (hs : isSeq d = true) : EvD (tCB (rListQ K) (tCons ta tNil)) s G0 (.list (kidsD d)) :=
  dv_cb (ds_cons h ds_nil) fun G H vs _ w hv Q k => by
    obtain ⟨v, rfl, hw⟩ := hv.inv1
    cases d with
    | tuple ds =>
      obtain ⟨a, xs, rfl, ea, hx⟩ := hw.atTup
      exact ⟨a, xs, rfl, .inr ((ea.up w).sq), fun p np => k _ _ _ (Nx.new w np) (.lst upd_same (hx.up (Ex.new (fresh_back w np))))⟩
    | list ds =>
      obtain ⟨a, xs, rfl, ea, hx⟩ := hw.atLst
      exact ⟨a, xs, rfl, .inl (SqL.of (w _ _ ea)), fun p np => k _ _ _ (Nx.new w np) (.lst upd_same (hx.up (Ex.new (fresh_back w np))))⟩
    | _ => cases hs
theorem dv_intB {b : Bool} (h : EvD ta s G0 (.bool b)) : EvD (tCB rIntQ (tCons ta tNil)) s G0 (.int (if b then 1 else 0)) :=
  dv_cb (ds_cons h ds_nil) fun G H vs _ w hv Q k => by
    obtain ⟨v, rfl, hw⟩ := hv.inv1
    cases hw.eqBl
    exact .inr ⟨b, rfl, k _ G H (Nx.refl w) (.int _)⟩
theorem dv_len (h : EvD ta s G0 d) (hs : isSeq d = true) : EvD (tCB (rLenQ K) (tCons ta tNil)) s G0 (.int (lenD d)) :=
  dv_cb (ds_cons h ds_nil) fun G H vs _ w hv Q k => by
    obtain ⟨v, rfl, hw⟩ := hv.inv1
    cases d with
    | tuple ds =>
      obtain ⟨a, xs, rfl, ea, hx⟩ := hw.atTup
      refine ⟨a, xs, rfl, .inr ((ea.up w).sq), ?_⟩
      rw [hx.len]
      exact k _ G H (Nx.refl w) (.int _)
    | list ds =>
      obtain ⟨a, xs, rfl, ea, hx⟩ := hw.atLst
      refine ⟨a, xs, rfl, .inl (SqL.of (w _ _ ea)), ?_⟩
      rw [hx.len]
      exact k _ G H (Nx.refl w) (.int _)
    | _ => cases hs
theorem dv_lenS {z : Str} (h : EvD ta s G0 (.str z)) (hz : z.length ≤ 100000) : EvD (tCB (fun xs H Q => ∃ z, xs = [.str z] ∧ z.length ≤ sizeLine ∧ Q (.int z.length) H) (tCons ta tNil)) s G0 (.int (z.length : Nat)) :=
  dv_cb (ds_cons h ds_nil) fun G H vs _ w hv Q k => by
    obtain ⟨v, rfl, hw⟩ := hv.inv1
    cases hw.eqStr
    exact ⟨z, rfl, sz_of hz, k _ G H (Nx.refl w) (.int _)⟩
theorem dv_all {bs : List Bool} (h : EvD ta s G0 (.list (bs.map PyData.bool))) : EvD (tCB (rAll K) (tCons ta tNil)) s G0 (.bool (bs.all id)) :=
  dv_cb (ds_cons h ds_nil) fun G H vs _ w hv Q k => by
    obtain ⟨v, rfl, hw⟩ := hv.inv1
    obtain ⟨a, xs, rfl, ea, hx⟩ := hw.atLst
    cases hx.bools
    exact ⟨a, bs, rfl, SqL.of (w _ _ ea), k _ G H (Nx.refl w) (.bl _)⟩
/-! dicts whose keys are ints or texts, whose values are atoms -/
def isAtomD : PyData → Bool
  | .int _ => true
  | .bool _ => true
  | _ => false
theorem DD.atom {v : V} (h : DD G0 v d) (a : isAtomD d = true) : isAtom v = true ∧ atomD v = d := by
  cases h <;> first | exact ⟨rfl, rfl⟩ | cases a
theorem atom_DD {v : V} (h : isAtom v = true) (H : Hp) : DD H v (atomD v) := by
  cases v <;> first | exact .int _ | exact .bl _ | cases h
theorem DD.key {v : V} {k : Key} (h : DD G0 v (keyD k)) : v = kV k := by
  cases k with
  | inl i => exact h.eqInt
  | inr x => exact h.eqStr
theorem keyD_inj {k q : Key} (h : keyD k = keyD q) : k = q := by
  cases k <;> cases q <;> cases h <;> rfl
/-- the value of a key -/
def valD (kds : List (Key × PyData)) (k : Key) : Option PyData := (kds.find? fun p => decide (p.1 = k)).map Prod.snd
def dctD (kds : List (Key × PyData)) : PyData := .dict (kds.map fun p => (keyD p.1, p.2))
theorem DD.atDct {v : V} {kds : List (Key × PyData)} (h : DD G0 v (dctD kds)) : ∃ a kvs, v = .ref a ∧ G0 a = some (.dK kvs) ∧ (kds.map fun p => (keyD p.1, p.2)) = kvs.map (fun p => (keyD p.1, atomD p.2)) ∧ (kvs.all fun p => isAtom p.2) = true := by
  unfold dctD at h
  generalize hk : (kds.map fun p => (keyD p.1, p.2)) = m at h
  cases h with
  | dct h1 h2 h3 => exact ⟨_, _, rfl, h1, h2, h3⟩
  | raw a =>
    cases kds with
    | nil => cases hk
    | cons p r =>
      have e := (List.cons.inj hk).1
      have e2 : keyD p.1 = .none := congrArg Prod.fst e
      cases hp : p.1 with
      | inl i => rw [hp] at e2; cases e2
      | inr x => rw [hp] at e2; cases e2
/-- a thing of which the address alone is told -/
def rawD (a : Addr) : PyData := .dict [(.none, .int (a : Nat))]
theorem DD.atRaw {v : V} {a : Addr} (h : DD G0 v (rawD a)) : v = .ref a := by
  unfold rawD at h
  generalize hk : [(PyData.none, PyData.int (a : Nat))] = m at h
  cases h with
  | @dct _ kvs _ h1 h2 h3 =>
    rw [h2] at hk
    cases kvs with
    | nil => cases hk
    | cons p r =>
      have e2 : PyData.none = keyD p.1 := congrArg Prod.fst (List.cons.inj hk).1
      cases hp : p.1 with
      | inl i => rw [hp] at e2; cases e2
      | inr x => rw [hp] at e2; cases e2
  | raw b =>
    have e := (List.cons.inj hk).1
    have e2 : ((a : Nat) : Int) = ((b : Nat) : Int) := PyData.int.inj (congrArg Prod.snd e)
    rw [show a = b from Int.ofNat.inj e2]
theorem valV_D : ∀ {kvs : List (Key × V)} {kds : List (Key × PyData)} {k : Key}, (kds.map fun p => (keyD p.1, p.2)) = kvs.map (fun p => (keyD p.1, atomD p.2)) → (valV kvs k).map atomD = valD kds k
  | [], [], _, _ => rfl
  | [], _ :: _, _, h => by cases h
  | _ :: _, [], _, h => by cases h
  | (k1, v1) :: kvs, (k2, d2) :: kds, k, h => by
    rw [List.map_cons, List.map_cons] at h
    injection h with h1 h2
    injection h1 with h3 h4
    have h3 := keyD_inj h3
    subst h3
    have h4 : d2 = atomD v1 := h4
    subst h4
    have ih := valV_D (k := k) h2
    unfold valV valD at ih ⊢
    rw [List.find?_cons, List.find?_cons]
    by_cases e : k2 = k
    · simp only [e, decide_true]
      rfl
    · simp only [e, decide_false]
      exact ih
theorem dv_dget {kds : List (Key × PyData)} {k : Key} (ha : EvD ta s G0 (dctD kds)) (hb : EvD tb s G0 (keyD k)) (hv : valD kds k = some d) : EvD (tDGet ta tb) s G0 d := fun G H e i Q q =>
  ha G H e i _ fun x G2 H2 n2 hx => hb G2 H2 (e.trans n2.g) n2.i _ fun y G3 H3 n3 hy => by
    obtain ⟨a, kvs, rfl, ea, ed, hat⟩ := (hx.up n3.g).atDct
    cases hy.key
    have e1 := valV_D (k := k) ed
    rw [hv] at e1
    cases hq : valV kvs k with
    | none => rw [hq] at e1; cases e1
    | some v =>
      rw [hq] at e1
      cases e1
      have hm : isAtom v = true := by
        unfold valV at hq
        cases hf : kvs.find? (fun p => decide (p.1 = k)) with
        | none => rw [hf] at hq; cases hq
        | some p =>
          rw [hf] at hq
          cases hq
          exact List.all_eq_true.mp hat p (List.mem_of_find?_eq_some hf)
      exact ⟨a, v, rfl, hq ▸ DGet.k (n3.i _ _ ea), q v G3 H3 (n2.trans n3) (atom_DD hm G3)⟩
theorem dv_din {kds : List (Key × PyData)} {k : Key} (ha : EvD ta s G0 (keyD k)) (hb : EvD tb s G0 (dctD kds)) : EvD (tDIn ta tb) s G0 (.bool (valD kds k).isSome) := fun G H e i Q q =>
  ha G H e i _ fun y G2 H2 n2 hy => hb G2 H2 (e.trans n2.g) n2.i _ fun x G3 H3 n3 hx => by
    obtain ⟨a, kvs, rfl, ea, ed, hat⟩ := hx.atDct
    cases hy.key
    refine ⟨a, _, rfl, DGet.k (n3.i _ _ ea), ?_⟩
    have e1 := valV_D (k := k) ed
    have e2 : (valV kvs k).isSome = (valD kds k).isSome := by rw [← e1, Option.isSome_map]
    rw [e2]
    exact q _ G3 H3 (n2.trans n3) (.bl _)
theorem dv_dnin {kds : List (Key × PyData)} {k : Key} (ha : EvD ta s G0 (keyD k)) (hb : EvD tb s G0 (dctD kds)) : EvD (tDNotIn ta tb) s G0 (.bool (!(valD kds k).isSome)) := fun G H e i Q q =>
  ha G H e i _ fun y G2 H2 n2 hy => hb G2 H2 (e.trans n2.g) n2.i _ fun x G3 H3 n3 hx => by
    obtain ⟨a, kvs, rfl, ea, ed, hat⟩ := hx.atDct
    cases hy.key
    refine ⟨a, _, rfl, DGet.k (n3.i _ _ ea), ?_⟩
    have e1 := valV_D (k := k) ed
    have e2 : (valV kvs k).isSome = (valD kds k).isSome := by rw [← e1, Option.isSome_map]
    rw [e2]
    exact q _ G3 H3 (n2.trans n3) (.bl _)
/-! tests -/
theorem tt_B {b : Bool} (h : EvD te s G0 (.bool b)) : EvT (tB te) s G0 b := et_B h.bl
theorem tt_T {b : Bool} (h : EvD te s G0 (.bool b)) : EvT (tTest te) s G0 b := et_test h.bl
theorem dv_and {a b : Bool} (h1 : EvD ta s G0 (.bool a)) (h2 : a = true → EvD tb s G0 (.bool b)) : EvD (tAndV ta tb) s G0 (.bool (a && b)) := dv_ev (ev_andV h1.bl fun e => (h2 e).bl) fun _ => .bl _
theorem dv_or {a b : Bool} (h1 : EvD ta s G0 (.bool a)) (h2 : a = false → EvD tb s G0 (.bool b)) : EvD (tOrV ta tb) s G0 (.bool (a || b)) := dv_ev (ev_orV h1.bl fun e => (h2 e).bl) fun _ => .bl _
theorem dv_not {a : Bool} (h1 : EvD ta s G0 (.bool a)) : EvD (tNotV ta) s G0 (.bool (!a)) := dv_ev (ev_notV h1.bl) fun _ => .bl _
theorem dv_if {b : Bool} (h : EvT t s G0 b) (h1 : b = true → EvD ta s G0 d) (h2 : b = false → EvD tb s G0 d) : EvD (tIf t ta tb) s G0 d := fun G H e i Q k => h H (e.trans i) _ fun H2 e2 => by
  cases b with
  | true =>
    show ta s H2 Q
    exact h1 rfl G H2 e (i.trans e2) Q fun v G3 H3 n => k v G3 H3 ((Nx.same i e2).trans n)
  | false =>
    show tb s H2 Q
    exact h2 rfl G H2 e (i.trans e2) Q fun v G3 H3 n => k v G3 H3 ((Nx.same i e2).trans n)
def isNone : PyData → Bool
  | .none => true
  | _ => false
theorem DD.nonB {v : V} (h : DD G0 v d) : decide (v = .non) = isNone d := by
  cases h <;> simp [isNone]
theorem dv_isN (h : EvD ta s G0 d) : EvD (tOp (fun x y H Q => y = .non ∧ Q (.bl (decide (x = .non))) H) ta (tC .non)) s G0 (.bool (isNone d)) :=
  dv_op h dv_non fun G H x y _ w h1 h2 Q k => ⟨h2.eqNon, by rw [h1.nonB]; exact k _ G H (Nx.refl w) (.bl _)⟩
theorem dv_notN (h : EvD ta s G0 d) : EvD (tOp (fun x y H Q => y = .non ∧ Q (.bl (!decide (x = .non))) H) ta (tC .non)) s G0 (.bool (!isNone d)) :=
  dv_op h dv_non fun G H x y _ w h1 h2 Q k => ⟨h2.eqNon, by rw [h1.nonB]; exact k _ G H (Nx.refl w) (.bl _)⟩
/-! isinstance -/
def tyD : PyData → String
  | .none => "NoneType"
  | .bool _ => "bool"
  | .int _ => "int"
  | .str _ => "str"
  | .list _ => "list"
  | .tuple _ => "tuple"
  | .dict _ => "dict"
/-- what type(..) a datum has; a tuple that is known, too -/
def TyD (K : PySem.W.Frag) (H : Hp) (v : V) (n : String) : Prop := TyOf K H v (.type n) ∨ (n = "tuple" ∧ ∃ a xs, v = .ref a ∧ PT H a xs)
theorem DD.ty {H : Hp} {v : V} (h : DD H v d) (hn : noDic d = true) : TyD K H v (tyD d) := by
  cases h with
  | non => exact .inl .non
  | bl b => exact .inl (.bl b)
  | int i => exact .inl (.int i)
  | str x => exact .inl (.str x)
  | lst h _ => exact .inl (.lst h)
  | tup h _ _ => exact h.elim (fun q => .inl (.tup q)) fun q => .inr ⟨rfl, _, _, rfl, q⟩
  | dct _ _ _ => cases hn
  | raw _ => cases hn
def rIsiD (K : PySem.W.Frag) : List V → Hp → VK → Prop := fun xs H Q => ∃ (v : V) (m n : String) (b : Bool), xs = [v, .ty n] ∧ TyD K H v m ∧ kitB m n = some b ∧ Q (.bl b) H
theorem call_isiD {X : Cx} : CallR X (.builtin "isinstance") (rIsiD X.K) := by
  intro pins s σ H xs us Q I r h
  obtain ⟨v, m, n, b, rfl, ty, hk, q⟩ := h
  rcases ty with ty | ⟨rfl, a, ys, rfl, o, ho, hp⟩
  · exact call_isi pins s σ H _ us Q I r ⟨v, .ty n, _, _, b, rfl, ClsV.ty n, .base ty, kit_ty hk, q⟩
  · obtain ⟨u, c, rfl, ru, rc⟩ := vals2 r
    cases (show u = Value.ref a from ru)
    cases (show c = Value.type n from rc)
    obtain ⟨_, _, its, _, ob, h1, h2, _⟩ := (show ObjOk X.prog X.w H s.heap a (.frz o (.tup ys)) from I.hok a _ hp)
    exact PySem.W.kia_one PySem.W.kitx_tuple I.kIn ⟨_, h1, h2⟩ (kit_ty (K := X.K) hk) (fun z => nomatch z) fun tk => ⟨.bl b, H, I.tok tk, rfl, q⟩
theorem dv_isi {n : String} {b : Bool} (h : EvD ta s G0 d) (hn : noDic d = true) (hk : kitB (tyD d) n = some b) : EvD (tCB (rIsiD K) (tCons ta (tCons (tC (.ty n)) tNil))) s G0 (.bool b) := fun G H e i Q k =>
  h G H e i _ fun v G2 H2 n2 h2 => ⟨v, _, n, b, rfl, (h2.up n2.i).ty hn, hk, k _ G2 H2 n2 (.bl b)⟩
end
def isTup : PyData → Bool
  | .tuple _ => true
  | _ => false
def isLst : PyData → Bool
  | .list _ => true
  | _ => false
def isStrD : PyData → Bool
  | .str _ => true
  | _ => false
def isBoolD : PyData → Bool
  | .bool _ => true
  | _ => false
def isIntD : PyData → Bool
  | .int _ => true
  | .bool _ => true
  | _ => false
theorem kit_tup : ∀ d : PyData, kitB (tyD d) "tuple" = some (isTup d)
  | .none => (by decide +kernel : kitB "NoneType" "tuple" = some false)
  | .bool _ => (by decide +kernel : kitB "bool" "tuple" = some false)
  | .int _ => (by decide +kernel : kitB "int" "tuple" = some false)
  | .str _ => (by decide +kernel : kitB "str" "tuple" = some false)
  | .list _ => (by decide +kernel : kitB "list" "tuple" = some false)
  | .tuple _ => (by decide +kernel : kitB "tuple" "tuple" = some true)
  | .dict _ => (by decide +kernel : kitB "dict" "tuple" = some false)
theorem kit_list : ∀ d : PyData, kitB (tyD d) "list" = some (isLst d)
  | .none => (by decide +kernel : kitB "NoneType" "list" = some false)
  | .bool _ => (by decide +kernel : kitB "bool" "list" = some false)
  | .int _ => (by decide +kernel : kitB "int" "list" = some false)
  | .str _ => (by decide +kernel : kitB "str" "list" = some false)
  | .list _ => (by decide +kernel : kitB "list" "list" = some true)
  | .tuple _ => (by decide +kernel : kitB "tuple" "list" = some false)
  | .dict _ => (by decide +kernel : kitB "dict" "list" = some false)
theorem kit_str : ∀ d : PyData, kitB (tyD d) "str" = some (isStrD d)
  | .none => (by decide +kernel : kitB "NoneType" "str" = some false)
  | .bool _ => (by decide +kernel : kitB "bool" "str" = some false)
  | .int _ => (by decide +kernel : kitB "int" "str" = some false)
  | .str _ => (by decide +kernel : kitB "str" "str" = some true)
  | .list _ => (by decide +kernel : kitB "list" "str" = some false)
  | .tuple _ => (by decide +kernel : kitB "tuple" "str" = some false)
  | .dict _ => (by decide +kernel : kitB "dict" "str" = some false)
theorem kit_bool : ∀ d : PyData, kitB (tyD d) "bool" = some (isBoolD d)
  | .none => (by decide +kernel : kitB "NoneType" "bool" = some false)
  | .bool _ => (by decide +kernel : kitB "bool" "bool" = some true)
  | .int _ => (by decide +kernel : kitB "int" "bool" = some false)
  | .str _ => (by decide +kernel : kitB "str" "bool" = some false)
  | .list _ => (by decide +kernel : kitB "list" "bool" = some false)
  | .tuple _ => (by decide +kernel : kitB "tuple" "bool" = some false)
  | .dict _ => (by decide +kernel : kitB "dict" "bool" = some false)
theorem kit_int : ∀ d : PyData, kitB (tyD d) "int" = some (isIntD d)
  | .none => (by decide +kernel : kitB "NoneType" "int" = some false)
  | .bool _ => (by decide +kernel : kitB "bool" "int" = some true)
  | .int _ => (by decide +kernel : kitB "int" "int" = some true)
  | .str _ => (by decide +kernel : kitB "str" "int" = some false)
  | .list _ => (by decide +kernel : kitB "list" "int" = some false)
  | .tuple _ => (by decide +kernel : kitB "tuple" "int" = some false)
  | .dict _ => (by decide +kernel : kitB "dict" "int" = some false)
end K9

set_option Elab.async false
set_option linter.all false
set_option maxRecDepth 100000
set_option maxHeartbeats 4000000
/-! Walks, comprehensions, statements, promises by data. -/
namespace K9
open PySem PySem.Spec PyProof.Rows L2 Evl

section
variable {K : PySem.W.Frag} {s : L2.St} {G0 : Hp} {ta tb tc te tl : TE} {tr : TA} {t u : TT} {d d1 d2 : PyData} {ds : List PyData} {q : Sd}
/-! ### what a for walks -/
theorem ei_tup (h : EvD tl s G0 (.tuple ds)) : EvI (iTup K tl) s G0 ds := fun G H e i R k =>
  h G H e i _ fun v G2 H2 n2 hv => by
    obtain ⟨a, xs, rfl, ea, hx⟩ := hv.atTup
    refine ⟨a, rfl, ⟨xs, (ea.up n2.i).sq⟩, k _ G2 H2 n2 ?_⟩
    have w := walk_tup (K := K) (a := a) (xs := xs)
    rw [hx.len] at w
    exact w.mono (fun H3 e3 => ex_t e3 ea.sq) fun i H3 x H4 _ e3 y G e4 w4 => by
      obtain ⟨rfl, y2⟩ := y
      obtain ⟨d, hd, k2⟩ := hx.got y2
      exact ⟨G, d, Nx.refl w4, hd, k2.up e4⟩
theorem ei_list (h : EvD tl s G0 (.list ds)) : EvI (iList K tl) s G0 ds := fun G H e i R k =>
  h G H e i _ fun v G2 H2 n2 hv => by
    obtain ⟨a, xs, rfl, ea, hx⟩ := hv.atLst
    refine ⟨a, rfl, ⟨xs, SqL.of (n2.i _ _ ea)⟩, k _ G2 H2 n2 ?_⟩
    have w := walk_list (K := K) (a := a) (xs := xs)
    rw [hx.len] at w
    exact w.mono (fun H3 e3 => ex_l e3 (SqL.of ea)) fun i H3 x H4 _ e3 y G e4 w4 => by
      obtain ⟨rfl, y2⟩ := y
      obtain ⟨d, hd, k2⟩ := hx.got y2
      exact ⟨G, d, Nx.refl w4, hd, k2.up e4⟩
def signsD (z : Str) : List PyData := z.cps.toList.map fun c => PyData.str ⟨#[c]⟩
theorem ei_str {z : Str} (h : EvD te s G0 (.str z)) : EvI (iStr te) s G0 (signsD z) := fun G H e i R k =>
  h.str H (e.trans i) _ fun H2 e2 => by
    refine ⟨z, rfl, k _ G H2 (Nx.same i e2) ?_⟩
    have w := walk_str (z := z)
    have hl : (signsD z).length = z.cps.size := by simp [signsD]
    rw [hl]
    exact w.mono (fun _ _ => trivial) fun i H3 x H4 _ e3 y G w3 w4 => by
      obtain ⟨rfl, c, hc, rfl⟩ := y
      refine ⟨G, .str ⟨#[c]⟩, Nx.refl w4, ?_, .str _⟩
      unfold signsD
      rw [List.getElem?_map, Array.getElem?_toList, hc] <;> rfl
def intsD (lo : Int) (n : Nat) : List PyData := (List.range n).map fun i => PyData.int (lo + (i : Nat))
theorem intsD_len (lo : Int) (n : Nat) : (intsD lo n).length = n := by simp [intsD]
theorem intsD_get {lo : Int} {n i : Nat} (h : i < n) : (intsD lo n)[i]? = some (.int (lo + (i : Nat))) := by simp [intsD, h]
theorem walk_ints {lo : Int} {n : Nat} {P : Hp → Prop} : Walk (Itr lo n) (intsD lo n).length P (YD G0 (intsD lo n)) := by
  rw [intsD_len]
  exact walk_range.mono (fun _ _ => trivial) fun i H3 x H4 hi _ y G _ w4 => by
    obtain ⟨rfl, rfl⟩ := y
    exact ⟨G, _, Nx.refl w4, intsD_get hi, .int _⟩
theorem ei_rng1 {n : Int} (h : EvDs tr s G0 [.int n]) (h1 : -(2 ^ 62) ≤ n ∧ n < 2 ^ 62) : EvI (iRng1 tr) s G0 (intsD 0 n.toNat) := fun G H e i R k =>
  h G H e i _ fun vs G2 H2 n2 hv => by
    obtain ⟨v, rfl, hw⟩ := hv.inv1
    cases hw.eqInt
    exact ⟨n, rfl, h1.1, h1.2, k _ G2 H2 n2 walk_ints⟩
theorem ei_rng2 {m n : Int} (h : EvDs tr s G0 [.int m, .int n]) (h1 : -(2 ^ 62) ≤ m ∧ m < 2 ^ 62 ∧ -(2 ^ 62) ≤ n ∧ n < 2 ^ 62) : EvI (iRng2 tr) s G0 (intsD m (n - m).toNat) := fun G H e i R k =>
  h G H e i _ fun vs G2 H2 n2 hv => by
    obtain ⟨v, u, rfl, hw, hu⟩ := hv.inv2
    cases hw.eqInt
    cases hu.eqInt
    exact ⟨m, n, rfl, h1, k _ G2 H2 n2 walk_ints⟩
def stepsD (lo c : Int) (n : Nat) : List PyData := (List.range n).map fun i => PyData.int (lo + (i : Nat) * c)
theorem stepsD_len (lo c : Int) (n : Nat) : (stepsD lo c n).length = n := by simp [stepsD]
theorem ei_rng3 {a b c : Int} {n : Nat} (h : EvDs tr s G0 [.int a, .int b, .int c]) (h1 : RgC a b c n) : EvI (iRng3 tr) s G0 (stepsD a c n) := fun G H e i R k =>
  h G H e i _ fun vs G2 H2 n2 hv => by
    cases hv with
    | cons hx hr =>
      obtain ⟨v, u, rfl, hw, hu⟩ := hr.inv2
      cases hx.eqInt
      cases hw.eqInt
      cases hu.eqInt
      refine ⟨a, b, c, n, rfl, h1, k _ G2 H2 n2 ?_⟩
      rw [stepsD_len]
      exact walk_rangeC.mono (fun _ _ => trivial) fun i H3 x H4 hi _ y G _ w4 => by
        obtain ⟨rfl, rfl⟩ := y
        exact ⟨G, _, Nx.refl w4, by simp [stepsD, hi], .int _⟩
def enumD (i : Nat) : List PyData → List PyData
  | [] => []
  | d :: r => .tuple [.int (i : Nat), d] :: enumD (i + 1) r
theorem enumD_len : ∀ (r : List PyData) (i : Nat), (enumD i r).length = r.length
  | [], _ => rfl
  | _ :: r, i => congrArg (· + 1) (enumD_len r (i + 1))
theorem enumD_get : ∀ (r : List PyData) (i j : Nat) (d : PyData), r[j]? = some d → (enumD i r)[j]? = some (.tuple [.int ((i + j : Nat) : Int), d])
  | [], _, _, _, h => by simp at h
  | _ :: r, i, 0, d, h => by
    cases (show some _ = some _ from h)
    rfl
  | _ :: r, i, j + 1, d, h => by
    have q := enumD_get r (i + 1) j d (by simpa using h)
    rw [show i + (j + 1) = i + 1 + j by omega]
    simpa [enumD] using q
theorem ei_enum (h : EvDs tr s G0 [.list ds]) : EvI (iEnum K tr) s G0 (enumD 0 ds) := fun G H e i R k =>
  h G H e i _ fun vs G2 H2 n2 hv => by
    obtain ⟨v, rfl, hw⟩ := hv.inv1
    obtain ⟨a, xs, rfl, ea, hx⟩ := hw.atLst
    refine ⟨a, xs, rfl, SqL.of (n2.i _ _ ea), k _ G2 H2 n2 ?_⟩
    rw [enumD_len, ← hx.len]
    refine ⟨fun i H3 hi e3 => ⟨xs, xs[i], ex_l e3 (SqL.of ea), by simp [hi]⟩, fun H3 e3 => ⟨xs, ex_l e3 (SqL.of ea), Nat.le_refl _⟩, fun i H3 x H4 hi e3 y G e4 w4 => ?_⟩
    obtain ⟨T, y0, rfl, hT, rfl, hy⟩ := y
    obtain ⟨d, hd, k2⟩ := hx.got (hy xs (ex_l e3 (SqL.of ea)))
    have q := enumD_get ds 0 i d hd
    rw [Nat.zero_add] at q
    exact ⟨_, _, Nx.new w4 hT, q, .tup (.inl upd_same) (fun z => nomatch z) (.cons (.int _) (.one ((k2.up e4).up (Ex.new (fresh_back w4 hT)))))⟩

/-! ### targets -/
theorem wipe_set {s : L2.St} {j : Nat} {o : Option V} : ∀ {vs : List Nat}, j ∈ vs → wipe (s.set j o) vs = wipe s vs
  | v :: r, h => by
    by_cases hr : j ∈ r
    · show (wipe (s.set j o) r).set v none = (wipe s r).set v none
      rw [wipe_set hr]
    · have e : j = v := by
        rcases List.mem_cons.mp h with q | q
        · exact q
        · exact absurd q hr
      subst e
      show (wipe (s.set j o) r).set j none = (wipe s r).set j none
      have aux : ∀ r : List Nat, j ∉ r → wipe (s.set j o) r = (wipe s r).set j o := by
        intro r
        induction r with
        | nil => intro _; rfl
        | cons w r ih =>
          intro hn
          have h1 : j ≠ w := fun z => hn (z ▸ List.mem_cons_self)
          have h2 : j ∉ r := fun z => hn (List.mem_cons_of_mem _ z)
          show (wipe (s.set j o) r).set w none = ((wipe s r).set w none).set j o
          rw [ih h2, List.set_comm _ _ h1]
      rw [aux r hr, List.set_set]
theorem wipe_wipe (s : L2.St) (vs : List Nat) : wipe (wipe s vs) vs = wipe s vs := by
  have aux : ∀ us : List Nat, (∀ u ∈ us, u ∈ vs) → wipe (wipe s us) vs = wipe s vs := by
    intro us
    induction us with
    | nil => intro _; rfl
    | cons w r ih =>
      intro h
      show wipe ((wipe s r).set w none) vs = wipe s vs
      rw [wipe_set (h w List.mem_cons_self)]
      exact ih fun u hu => h u (List.mem_cons_of_mem _ hu)
  exact aux vs fun _ h => h
def wipeD (t : Sd) : List Nat → Sd
  | [] => t
  | v :: vs => (wipeD t vs).set v none
theorem SD.wipe {H : Hp} {s : L2.St} {t : Sd} (h : SD H s t) : ∀ vs : List Nat, SD H (L2.wipe s vs) (wipeD t vs)
  | [] => h
  | v :: vs => (h.wipe vs).lose v none
def TgD (g : TG) (js : List Nat) (q : Sd) (d : PyData) (q2 : Sd) : Prop := ∀ (s : L2.St) (G H : Hp) (v : V) (R : L2.St → Hp → Prop), SD G s q → Ex G H → DD G v d →
  (∀ s2, SD G s2 q2 → (∀ vs : List Nat, (∀ j ∈ js, j ∈ vs) → wipe s2 vs = wipe s vs) → R s2 H) → g v s H R
def TgsD (g : TGs) (js : List Nat) (q : Sd) (ds : List PyData) (q2 : Sd) : Prop := ∀ (s : L2.St) (G H : Hp) (vs : List V) (R : L2.St → Hp → Prop), SD G s q → Ex G H → DDs G vs ds →
  (∀ s2, SD G s2 q2 → (∀ us : List Nat, (∀ j ∈ js, j ∈ us) → wipe s2 us = wipe s us) → R s2 H) → g vs s H R
theorem tg_name {j : Nat} : TgD (gName j) [j] q d (q.set j (some d)) := fun s G H v R S _ hd k =>
  k _ (S.set j hd) fun vs h => wipe_set (h j (List.mem_singleton.mpr rfl))
theorem tgs_nil : TgsD gNil [] q [] q := fun s G H vs R S _ hd k => by
  cases hd
  exact ⟨rfl, k s S fun _ _ => rfl⟩
theorem tgs_cons {g : TG} {gs : TGs} {js ks : List Nat} {q1 q2 : Sd} (h1 : TgD g js q d q1) (h2 : TgsD gs ks q1 ds q2) : TgsD (gCons g gs) (js ++ ks) q (d :: ds) q2 := fun s G H vs R S i hd k => by
  cases hd with
  | @cons v us _ _ hv hr =>
    exact ⟨v, us, rfl, h1 s G H v _ S i hv fun s1 S1 w1 => h2 s1 G H us _ S1 i hr fun s2 S2 w2 =>
      k s2 S2 fun vs h => (w2 vs fun j hj => h j (List.mem_append_right _ hj)).trans (w1 vs fun j hj => h j (List.mem_append_left _ hj))⟩
theorem tg_tup {gs : TGs} {js : List Nat} {n : Nat} {q2 : Sd} (h : TgsD gs js q ds q2) (hl : ds.length = n := by rfl) : TgD (gTup K n gs) js q (.tuple ds) q2 := fun s G H v R S i hd k => by
  obtain ⟨a, xs, rfl, ea, hx⟩ := hd.atTup
  exact ⟨a, xs, rfl, (ea.up i).sq, by rw [hx.len, hl], h s G H xs R S i hx k⟩

/-! ### comprehensions -/
theorem dv_lc {wi : TI} {g : TG} {tt : TT} {vs js : List Nat} (q2 : PyData → Sd) (f : PyData → Bool) (v : PyData → PyData) (hI : EvI wi s G0 ds) (S : SD G0 s q) (hz : ds.length ≤ 40000)
    (hg : ∀ d ∈ ds, TgD g js (wipeD q vs) d (q2 d)) (hj : ∀ j ∈ js, j ∈ vs)
    (ht : ∀ d ∈ ds, ∀ s2 G, Ex G0 G → SD G s2 (q2 d) → EvT tt s2 G (f d)) (he : ∀ d ∈ ds, f d = true → ∀ s2 G, Ex G0 G → SD G s2 (q2 d) → EvD te s2 G (v d)) :
    EvD (tLc wi g tt te vs) s G0 (.list ((ds.filter f).map v)) := fun G1 H1 e i Q k => hI G1 H1 e i _ fun J G2 H2 n2 W => fun D hD => by
  have e02 := e.trans n2.g
  have nD : G2 D = none := fresh_back n2.i hD
  refine lc_it W (fun i H' => ∃ G xs, Nx G2 H2 G H' ∧ G D = none ∧ H' D = some (.lst xs) ∧ DDs G xs (((ds.take i).filter f).map v))
    ⟨G2, [], ⟨Ex.refl _, Ex.new hD, n2.i.mut nD, fun _ _ h => h⟩, nD, upd_same, .nil⟩ (fun i H' _ p => ?_) (fun i x H' H'' hi p y => ?_) fun H' p => ?_
  · obtain ⟨G, xs, n, _⟩ := p
    exact n.g.trans n.i
  · obtain ⟨G, xs, n, gD, hxs, hd⟩ := p
    obtain ⟨G3, d, n3, hdi, hx⟩ := y G n.g n.i
    have hm : d ∈ ds := List.mem_of_getElem? hdi
    have et : ds.take (i + 1) = ds.take i ++ [d] := by rw [List.take_add_one, hdi] <;> rfl
    have e03 : Ex G0 G3 := (e02.trans n.g).trans n3.g
    have gD3 : G3 D = none := n3.n D (by rw [hxs]; exact fun z => nomatch z) gD
    refine hg d hm (wipe s vs) G3 H'' x _ ((S.up e03).wipe vs) n3.i hx fun s2 S2 w2 => ⟨(w2 vs hj).trans (wipe_wipe s vs), ?_⟩
    refine ht d hm s2 G3 e03 S2 H'' n3.i _ fun H4 e4 => ?_
    have n4 : Nx G2 H2 G3 H4 := (n.trans n3).trans (Nx.same n3.i e4)
    have hD4 : H4 D = some (.lst xs) := e4 D _ (n3.h D _ hxs)
    cases hf : f d with
    | true =>
      show te s2 H4 _
      refine he d hm hf s2 G3 e03 S2 G3 H4 (Ex.refl _) n4.i _ fun y G5 H5 n5 hy => ?_
      have gD5 : G5 D = none := n5.n D (by rw [hD4]; exact fun z => nomatch z) gD3
      refine ⟨xs, n5.h D _ hD4, ?_, G5, xs ++ [y], ?_, gD5, upd_same, ?_⟩
      · rw [hd.len, List.length_map]
        have := List.length_filter_le f (ds.take i)
        rw [List.length_take] at this
        exact sz_lt (by omega)
      · have n6 := n4.trans n5
        exact ⟨n6.g, n6.h.mut hD, n6.i.mut gD5, n6.n⟩
      · rw [et, List.filter_append, List.map_append, List.filter_cons, if_pos hf]
        exact (hd.up (n3.g.trans n5.g)).app (.one hy)
    | false =>
      refine ⟨G3, xs, n4, gD3, hD4, ?_⟩
      rw [et, List.filter_append, List.map_append, List.filter_cons, if_neg (by rw [hf]; decide)]
      show DDs G3 xs (_ ++ [])
      rw [List.append_nil]
      exact hd.up n3.g
  · obtain ⟨G, xs, n, gD, hxs, hd⟩ := p
    rw [List.take_length] at hd
    have n6 := n2.trans n
    refine k _ (upd G D (.lst xs)) H' ⟨n6.g.trans (Ex.new gD), n6.h, fun b o hb => ?_, fun b hb hb2 => ?_⟩ (.lst upd_same (hd.up (Ex.new gD)))
    · by_cases z : b = D
      · rw [z, upd_same] at hb
        rw [z, hxs]
        exact hb
      · rw [upd_ne z] at hb
        exact n.i b o hb
    · have z : b ≠ D := fun z => hb (z ▸ fresh_back n2.h hD)
      rw [upd_ne z]
      exact n6.n b hb hb2
/-- without a test -/
theorem dv_lc1 {wi : TI} {g : TG} {vs js : List Nat} (q2 : PyData → Sd) (v : PyData → PyData) (hI : EvI wi s G0 ds) (S : SD G0 s q) (hz : ds.length ≤ 40000)
    (hg : ∀ d ∈ ds, TgD g js (wipeD q vs) d (q2 d)) (hj : ∀ j ∈ js, j ∈ vs) (he : ∀ d ∈ ds, ∀ s2 G, Ex G0 G → SD G s2 (q2 d) → EvD te s2 G (v d)) :
    EvD (tLc wi g tYes te vs) s G0 (.list (ds.map v)) := by
  have h := dv_lc (tt := tYes) q2 (fun _ => true) v hI S hz hg hj (fun d _ s2 G _ _ H1 _ Q k => k H1 (Ex.refl H1)) fun d hd _ => he d hd
  rw [List.filter_eq_self.mpr fun _ _ => rfl] at h
  exact h
/-- a comprehension of tests under all -/
theorem dv_allLc {wi : TI} {g : TG} {vs js : List Nat} (q2 : PyData → Sd) (b : PyData → Bool) (hI : EvI wi s G0 ds) (S : SD G0 s q) (hz : ds.length ≤ 40000)
    (hg : ∀ d ∈ ds, TgD g js (wipeD q vs) d (q2 d)) (hj : ∀ j ∈ js, j ∈ vs) (he : ∀ d ∈ ds, ∀ s2 G, Ex G0 G → SD G s2 (q2 d) → EvD te s2 G (.bool (b d))) :
    EvD (tCB (rAll K) (tCons (tLc wi g tYes te vs) tNil)) s G0 (.bool (ds.all b)) := by
  have h := dv_all (K := K) (bs := ds.map b) (by rw [List.map_map]; exact dv_lc1 q2 (fun d => .bool (b d)) hI S hz hg hj he)
  rw [List.all_map] at h
  exact h

/-! ### statements -/
variable {D : Ends} {H : Hp} {tu tw tz : TS}
theorem sd_set {i : Nat} (S : SD G0 s q) (w : Ex G0 H) (h : EvD te s G0 d) (k : ∀ s' G' H', SD G' s' (q.set i (some d)) → Nx G0 H G' H' → D.nx s' H') : tAsg te (gName i) D s H :=
  h G0 H (Ex.refl _) w _ fun v G' H' n hd => k _ G' H' ((S.up n.g).set i hd) n
theorem sd_asg {g : TG} {js : List Nat} {q2 : Sd} (S : SD G0 s q) (w : Ex G0 H) (h : EvD te s G0 d) (hg : TgD g js q d q2) (k : ∀ s' G' H', SD G' s' q2 → Nx G0 H G' H' → D.nx s' H') : tAsg te g D s H :=
  h G0 H (Ex.refl _) w _ fun v G' H' n hd => hg s G' H' v _ (S.up n.g) n.i hd fun s2 S2 _ => k s2 G' H' S2 n
theorem sd_aug {i : Nat} {f : Int → Int → Int} {a b : Int} (S : SD G0 s q) (w : Ex G0 H) (ha : q[i]? = some (some (.int a))) (h : EvD te s G0 (.int b)) (k : ∀ s' H', SD G0 s' (q.set i (some (.int (f a b)))) → Nx G0 H G0 H' → D.nx s' H') : tAug i te (ipI f) D s H := by
  obtain ⟨v, e, z⟩ := S.get i _ ha
  cases z.eqInt
  exact ⟨_, e, h.int H w _ fun H1 e1 => ⟨a, b, rfl, rfl, k _ H1 (S.set i (.int _)) (Nx.same w e1)⟩⟩
theorem sd_ret (w : Ex G0 H) (h : EvD te s G0 d) (k : ∀ v G' H', Nx G0 H G' H' → DD G' v d → D.rt v H') : tRet te D s H := h G0 H (Ex.refl _) w _ k
theorem sd_drop (w : Ex G0 H) (h : EvD te s G0 d) (k : ∀ G' H', Nx G0 H G' H' → D.nx s H') : tDrop te D s H := h G0 H (Ex.refl _) w _ fun _ G' H' n _ => k G' H' n
theorem sd_if {b : Bool} (w : Ex G0 H) (h : EvT t s G0 b) (h1 : b = true → ∀ H', Nx G0 H G0 H' → tu D s H') (h2 : b = false → ∀ H', Nx G0 H G0 H' → tw D s H') : tIfS t tu tw D s H := h H w _ fun H' e => by
  cases b with
  | true =>
    show tu D s H'
    exact h1 rfl H' (Nx.same w e)
  | false =>
    show tw D s H'
    exact h2 rfl H' (Nx.same w e)
/-- for over data: qs i is what is known ahead of turn i -/
def LoopAt (G0 H : Hp) (q : Sd) : L2.St → Hp → Prop := fun s' H' => ∃ G', SD G' s' q ∧ Nx G0 H G' H'
theorem sd_for {wi : TI} {g : TG} {js : List Nat} (qs : Nat → Sd) (q2 : Nat → PyData → Sd) (S : SD G0 s (qs 0)) (w : Ex G0 H) (hI : EvI wi s G0 ds)
    (hg : ∀ (i : Nat) (d : PyData), ds[i]? = some d → TgD g js (qs i) d (q2 i d))
    (hb : ∀ Gb Hb, Nx G0 H Gb Hb → ∀ (i : Nat) (d : PyData) s' G' H', ds[i]? = some d → SD G' s' (q2 i d) → Nx Gb Hb G' H' → tu { D with nx := LoopAt Gb Hb (qs (i + 1)), ct := LoopAt Gb Hb (qs (i + 1)), bk := D.nx } s' H')
    (hd : ∀ s' G' H', SD G' s' (qs ds.length) → Nx G0 H G' H' → D.nx s' H') : tFor wi g tu D s H :=
  hI G0 H (Ex.refl _) w _ fun J G2 H2 n2 W => by
    refine for_it W (fun i s' H' => LoopAt G2 H2 (qs i) s' H') ⟨G2, S.up n2.g, Nx.refl n2.i⟩ (fun i s' H' _ p => ?_) (fun i x s' H' H'' hi p y => ?_) fun s' H' p => ?_
    · obtain ⟨G', _, n⟩ := p
      exact n.g.trans n.i
    · obtain ⟨G', S', n⟩ := p
      obtain ⟨G3, d, n3, hdi, hx⟩ := y G' n.g n.i
      exact hg i d hdi s' G3 H'' x _ (S'.up n3.g) n3.i hx fun s2 S2 _ => hb G2 H2 n2 i d s2 G3 H'' hdi S2 (n.trans n3)
    · obtain ⟨G', S', n⟩ := p
      exact hd s' G' H' S' (n2.trans n)
/-- the rest of a block behind a statement -/
theorem sq_set {i : Nat} (S : SD G0 s q) (w : Ex G0 H) (h : EvD te s G0 d) (k : ∀ s' G' H', SD G' s' (q.set i (some d)) → Nx G0 H G' H' → tz D s' H') : tSeq (tAsg te (gName i)) tz D s H := sd_set (D := { D with nx := tz D }) S w h k
theorem sq_asg {g : TG} {js : List Nat} {q2 : Sd} (S : SD G0 s q) (w : Ex G0 H) (h : EvD te s G0 d) (hg : TgD g js q d q2) (k : ∀ s' G' H', SD G' s' q2 → Nx G0 H G' H' → tz D s' H') : tSeq (tAsg te g) tz D s H := sd_asg (D := { D with nx := tz D }) S w h hg k
theorem sq_aug {i : Nat} {f : Int → Int → Int} {a b : Int} (S : SD G0 s q) (w : Ex G0 H) (ha : q[i]? = some (some (.int a))) (h : EvD te s G0 (.int b)) (k : ∀ s' H', SD G0 s' (q.set i (some (.int (f a b)))) → Nx G0 H G0 H' → tz D s' H') : tSeq (tAug i te (ipI f)) tz D s H := sd_aug (D := { D with nx := tz D }) S w ha h k
theorem sq_if {b : Bool} (w : Ex G0 H) (h : EvT t s G0 b) (h1 : b = true → ∀ H', Nx G0 H G0 H' → tu { D with nx := tz D } s H') (h2 : b = false → ∀ H', Nx G0 H G0 H' → tw { D with nx := tz D } s H') : tSeq (tIfS t tu tw) tz D s H := sd_if (D := { D with nx := tz D }) w h h1 h2
/-- if c: .. that leaves, no else -/
theorem sq_when {b : Bool} (w : Ex G0 H) (h : EvT t s G0 b) (h1 : b = true → ∀ H', Nx G0 H G0 H' → tu { D with nx := tz D } s H') (h2 : b = false → ∀ H', Nx G0 H G0 H' → tz D s H') : tSeq (tIfS t tu tNext) tz D s H := sd_if (D := { D with nx := tz D }) w h h1 h2
theorem sq_for {wi : TI} {g : TG} {js : List Nat} (qs : Nat → Sd) (q2 : Nat → PyData → Sd) (S : SD G0 s (qs 0)) (w : Ex G0 H) (hI : EvI wi s G0 ds)
    (hg : ∀ (i : Nat) (d : PyData), ds[i]? = some d → TgD g js (qs i) d (q2 i d))
    (hb : ∀ Gb Hb, Nx G0 H Gb Hb → ∀ (i : Nat) (d : PyData) s' G' H', ds[i]? = some d → SD G' s' (q2 i d) → Nx Gb Hb G' H' → tu { D with nx := LoopAt Gb Hb (qs (i + 1)), ct := LoopAt Gb Hb (qs (i + 1)), bk := tz D } s' H')
    (hd : ∀ s' G' H', SD G' s' (qs ds.length) → Nx G0 H G' H' → tz D s' H') : tSeq (tFor wi g tu) tz D s H := sd_for (D := { D with nx := tz D }) qs q2 S w hI hg hb hd

/-! ### promises -/
/-- such data in, such data out -/
def SpR (n : Nat) (R : List PyData → PyData → Prop) : Sp := fun vs H Q _ => vs.length = n ∧ ∃ G ds d, Ex G H ∧ DDs G vs ds ∧ R ds d ∧ ∀ v G' H', Nx G H G' H' → DD G' v d → Q v H'
theorem SpR.len {n : Nat} {R : List PyData → PyData → Prop} {vs : List V} {H : Hp} {Q : VK} {E : XK} (h : SpR n R vs H Q E) : vs.length = n := h.1
theorem dv_call {n : Nat} {R : List PyData → PyData → Prop} {E : XK} (h : EvDs tr s G0 ds) (hR : R ds d) (hn : ds.length = n := by rfl) : EvD (tCall (SpR n R) [] E tr) s G0 d := fun G H e i Q k =>
  h G H e i _ fun vs G2 H2 n2 h2 => by
    rw [List.append_nil]
    exact ⟨h2.len.trans hn, G2, ds, d, n2.i, h2, hR, fun v G3 H3 n3 hv => k v G3 H3 (n2.trans n3) hv⟩
/-- .. where one of several may come out -/
def SpN (n : Nat) (Pre : List PyData → Prop) (R : List PyData → PyData → Prop) : Sp := fun vs H Q _ => vs.length = n ∧ ∃ G ds, Ex G H ∧ DDs G vs ds ∧ Pre ds ∧ ∀ v d G' H', R ds d → Nx G H G' H' → DD G' v d → Q v H'
end
section
variable {P : Program} {w : World} {K : PySem.W.Frag} {mg : Str → Option Value} {base : Heap}
theorem okD {x qual : Str} {st : Stmt} {f : Addr} {fd : FuncData} {N ps : List Str} {k n : Nat} {R : List PyData → PyData → Prop} (F : Fun K x qual st f fd) (S : FnScope N ps (defScope st)) (hn : n = ps.length)
    (hbody : ∀ (cdv : Value) (A : Around) (outer : List Env) (s : Shared) (G H : Hp) (vs : List V) (ds : List PyData) (d : PyData) (Q : VK) (E : XK), Room k (A.deeper (envOfC qual (defScope st) s.heap.objs.size f cdv)) → R ds d → SD G (start N vs) (startD N.length ds) → Ex G H →
      (∀ v G' H', Nx G H G' H' → DD G' v d → Q v H') →
      ∃ t, PSs (cxOf CX0 P w K mg base N qual (defScope st) f cdv A outer s H E).nox (defBody st) t ∧ t { nx := fun _ H' => Q .non H', rt := Q } (start N vs) H) : FnOk P w K mg base CX0 (k + 1) f fd ps (SpR n R) := by
  refine F.ok S (fun vs H Q E h => h.1.trans hn) fun cdv A outer s H vs Q E hr h => ?_
  obtain ⟨hl, G, ds, d, i, hd, hR, q⟩ := h
  exact hbody cdv A outer s G H vs ds d Q E hr hR (SD.start hd) i q
end
end K9

set_option Elab.async false
set_option linter.all false
set_option maxRecDepth 100000
set_option maxHeartbeats 4000000
/-! The text by places: each def, its slots; what the module's names hold. -/
namespace K9
open PySem PySem.Spec PyProof.Rows L2 Evl
def topS (i : Nat) : Stmt := PySem.Challenge.pw_boundsmith_k99_whole_single_ones.main.body.getD i (.Pass ⟨0, 0, 0, 0⟩)
abbrev s_is_whole : Stmt := topS 12
theorem sc_is_whole : FnScope ["thing"] ["thing"] (defScope s_is_whole) := ⟨rfl, rfl, rfl, by decide +kernel, rfl, by decide +kernel, by decide +kernel⟩
abbrev s_is_among : Stmt := topS 13
theorem sc_is_among : FnScope ["thing", "least", "most"] ["thing", "least", "most"] (defScope s_is_among) := ⟨rfl, rfl, rfl, by decide +kernel, rfl, by decide +kernel, by decide +kernel⟩
abbrev s_is_name : Stmt := topS 14
theorem sc_is_name : FnScope ["thing", "sign"] ["thing"] (defScope s_is_name) := ⟨rfl, rfl, rfl, by decide +kernel, rfl, by decide +kernel, by decide +kernel⟩
abbrev s_are_tuples : Stmt := topS 27
theorem sc_are_tuples : FnScope ["thing", "most", "size", "one"] ["thing", "most", "size"] (defScope s_are_tuples) := ⟨rfl, rfl, rfl, by decide +kernel, rfl, by decide +kernel, by decide +kernel⟩
abbrev s_are_names : Stmt := topS 28
theorem sc_are_names : FnScope ["thing", "one"] ["thing"] (defScope s_are_names) := ⟨rfl, rfl, rfl, by decide +kernel, rfl, by decide +kernel, by decide +kernel⟩
abbrev s_are_counts : Stmt := topS 29
theorem sc_are_counts : FnScope ["thing", "most", "name", "many"] ["thing", "most"] (defScope s_are_counts) := ⟨rfl, rfl, rfl, by decide +kernel, rfl, by decide +kernel, by decide +kernel⟩
abbrev s_is_task : Stmt := topS 30
theorem sc_is_task : FnScope ["thing", "name", "length", "machine", "needs", "first", "due", "weight"] ["thing"] (defScope s_is_task) := ⟨rfl, rfl, rfl, by decide +kernel, rfl, by decide +kernel, by decide +kernel⟩
abbrev s_is_wait : Stmt := topS 31
theorem sc_is_wait : FnScope ["thing", "one"] ["thing"] (defScope s_is_wait) := ⟨rfl, rfl, rfl, by decide +kernel, rfl, by decide +kernel, by decide +kernel⟩
abbrev s_has_form : Stmt := topS 32
theorem sc_has_form : FnScope ["thing", "machines", "goods", "tasks", "waits", "fixed", "task", "begin", "wait"] ["thing"] (defScope s_has_form) := ⟨rfl, rfl, rfl, by decide +kernel, rfl, by decide +kernel, by decide +kernel⟩
abbrev s_are_unlike : Stmt := topS 33
theorem sc_are_unlike : FnScope ["things"] ["things"] (defScope s_are_unlike) := ⟨rfl, rfl, rfl, by decide +kernel, rfl, by decide +kernel, by decide +kernel⟩
abbrev s_are_all_unlike : Stmt := topS 34
theorem sc_are_all_unlike : FnScope ["book", "machines", "goods", "tasks", "waits", "fixed", "task", "name", "many", "number", "begin", "good"] ["book"] (defScope s_are_all_unlike) := ⟨rfl, rfl, rfl, by decide +kernel, rfl, by decide +kernel, by decide +kernel⟩
abbrev s_are_all_there : Stmt := topS 35
theorem sc_are_all_there : FnScope ["book", "machines", "goods", "tasks", "waits", "fixed", "known", "task", "name", "many", "wait", "pair", "good"] ["book"] (defScope s_are_all_there) := ⟨rfl, rfl, rfl, by decide +kernel, rfl, by decide +kernel, by decide +kernel⟩
abbrev s_are_needs_met : Stmt := topS 36
theorem sc_are_needs_met : FnScope ["book", "there", "task", "good", "many"] ["book"] (defScope s_are_needs_met) := ⟨rfl, rfl, rfl, by decide +kernel, rfl, by decide +kernel, by decide +kernel⟩
abbrev s_goes_round : Stmt := topS 37
theorem sc_goes_round : FnScope ["pairs", "many", "left", "held", "free", "task", "ahead", "behind"] ["pairs", "many"] (defScope s_goes_round) := ⟨rfl, rfl, rfl, by decide +kernel, rfl, by decide +kernel, by decide +kernel⟩
abbrev s_wrong_in : Stmt := topS 38
theorem sc_wrong_in : FnScope ["book", "task", "begin", "wait"] ["book"] (defScope s_wrong_in) := ⟨rfl, rfl, rfl, by decide +kernel, rfl, by decide +kernel, by decide +kernel⟩
abbrev s_need_book : Stmt := topS 39
theorem sc_need_book : FnScope ["thing", "wrong"] ["thing"] (defScope s_need_book) := ⟨rfl, rfl, rfl, by decide +kernel, rfl, by decide +kernel, by decide +kernel⟩
abbrev s_is_work : Stmt := topS 41
theorem sc_is_work : FnScope ["thing", "hour"] ["thing"] (defScope s_is_work) := ⟨rfl, rfl, rfl, by decide +kernel, rfl, by decide +kernel, by decide +kernel⟩
abbrev s_need_rows : Stmt := topS 42
theorem sc_need_rows : FnScope ["rows", "row"] ["rows"] (defScope s_need_rows) := ⟨rfl, rfl, rfl, by decide +kernel, rfl, by decide +kernel, by decide +kernel⟩
abbrev s_due_order : Stmt := topS 43
theorem sc_due_order : FnScope ["rows", "due", "number", "row"] ["rows"] (defScope s_due_order) := ⟨rfl, rfl, rfl, by decide +kernel, rfl, by decide +kernel, by decide +kernel⟩
abbrev s_in_time_table : Stmt := topS 44
theorem sc_in_time_table : FnScope ["rows", "order", "table", "place", "number", "length", "first", "due", "ahead", "found", "many", "sums"] ["rows", "order"] (defScope s_in_time_table) := ⟨rfl, rfl, rfl, by decide +kernel, rfl, by decide +kernel, by decide +kernel⟩
abbrev s_in_time : Stmt := topS 45
theorem sc_in_time : FnScope ["rows", "order", "table", "many", "found", "place", "above"] ["rows", "order", "table", "many"] (defScope s_in_time) := ⟨rfl, rfl, rfl, by decide +kernel, rfl, by decide +kernel, by decide +kernel⟩
abbrev s_fewest_late : Stmt := topS 46
theorem sc_fewest_late : FnScope ["rows", "order", "table", "many", "some", "count", "least", "number"] ["rows"] (defScope s_fewest_late) := ⟨rfl, rfl, rfl, by decide +kernel, rfl, by decide +kernel, by decide +kernel⟩
abbrev s_goes_first : Stmt := topS 47
theorem sc_goes_first : FnScope ["rows", "left", "number", "length", "weight", "other"] ["rows", "left"] (defScope s_goes_first) := ⟨rfl, rfl, rfl, by decide +kernel, rfl, by decide +kernel, by decide +kernel⟩
abbrev s_least_sum : Stmt := topS 48
theorem sc_least_sum : FnScope ["rows", "left", "order", "end", "found", "number"] ["rows"] (defScope s_least_sum) := ⟨rfl, rfl, rfl, by decide +kernel, rfl, by decide +kernel, by decide +kernel⟩
abbrev s_need_single : Stmt := topS 51
theorem sc_need_single : FnScope ["book", "machines", "goods", "tasks", "waits", "fixed", "name", "length", "machine", "needs", "begin", "by", "weight"] ["book"] (defScope s_need_single) := ⟨rfl, rfl, rfl, by decide +kernel, rfl, by decide +kernel, by decide +kernel⟩
abbrev s_rows_in : Stmt := topS 52
theorem sc_rows_in : FnScope ["book", "task"] ["book"] (defScope s_rows_in) := ⟨rfl, rfl, rfl, by decide +kernel, rfl, by decide +kernel, by decide +kernel⟩
abbrev s_plan_in : Stmt := topS 53
theorem sc_plan_in : FnScope ["book", "order", "begins", "hour", "task"] ["book", "order"] (defScope s_plan_in) := ⟨rfl, rfl, rfl, by decide +kernel, rfl, by decide +kernel, by decide +kernel⟩
abbrev s_sum_plan : Stmt := topS 54
theorem sc_sum_plan : FnScope ["book", "total", "order"] ["book"] (defScope s_sum_plan) := ⟨rfl, rfl, rfl, by decide +kernel, rfl, by decide +kernel, by decide +kernel⟩
abbrev s_sum_shown : Stmt := topS 55
theorem sc_sum_shown : FnScope ["book", "rows", "total", "place", "one", "other", "length", "begin", "by", "weight"] ["book"] (defScope s_sum_shown) := ⟨rfl, rfl, rfl, by decide +kernel, rfl, by decide +kernel, by decide +kernel⟩
abbrev s_count_plan : Stmt := topS 56
theorem sc_count_plan : FnScope ["book", "count", "order", "table"] ["book"] (defScope s_count_plan) := ⟨rfl, rfl, rfl, by decide +kernel, rfl, by decide +kernel, by decide +kernel⟩
abbrev s_law_number : Stmt := topS 58
theorem sc_law_number : FnScope ["_law_script", "_law_k", "_law_cell", "_law_left", "_law_turn", "_law_more"] ["_law_script", "_law_k"] (defScope s_law_number) := ⟨rfl, rfl, rfl, by decide +kernel, rfl, by decide +kernel, by decide +kernel⟩
abbrev s_law_single : Stmt := topS 59
theorem sc_law_single : FnScope ["_law_script", "_law_first", "_law_most", "_law_many", "_law_letters", "_law_tasks", "_law_k", "_law_number_here", "_law_length", "_law_more", "_law_by", "_law_weight", "_law_name", "_law_machines", "_law_goods"] ["_law_script", "_law_first", "_law_most"] (defScope s_law_single) := ⟨rfl, rfl, rfl, by decide +kernel, rfl, by decide +kernel, by decide +kernel⟩
abbrev s_law_orders : Stmt := topS 60
theorem sc_law_orders : FnScope ["_law_many", "_law_found", "_law_k", "_law_longer", "_law_order", "_law_at"] ["_law_many"] (defScope s_law_orders) := ⟨rfl, rfl, rfl, by decide +kernel, rfl, by decide +kernel, by decide +kernel⟩
abbrev s_law_all_worths : Stmt := topS 61
theorem sc_law_all_worths : FnScope ["_law_tasks", "_law_sums", "_law_lates", "_law_order", "_law_hour", "_law_total", "_law_late", "_law_k"] ["_law_tasks"] (defScope s_law_all_worths) := ⟨rfl, rfl, rfl, by decide +kernel, rfl, by decide +kernel, by decide +kernel⟩
abbrev s_law_what : Stmt := topS 62
theorem sc_law_what : FnScope ["_law_thing", "_law_way", "_law_wrong", "error", "_law_others"] ["_law_thing", "_law_way"] (defScope s_law_what) := ⟨rfl, rfl, rfl, by decide +kernel, rfl, by decide +kernel, by decide +kernel⟩
abbrev s_law_bent : Stmt := topS 63
theorem sc_law_bent : FnScope ["_law_book", "_law_number_here", "_law_machines", "_law_goods", "_law_tasks", "_law_waits", "_law_fixed", "_law_at", "_law_task", "_law_way", "_law_some"] ["_law_book", "_law_number_here"] (defScope s_law_bent) := ⟨rfl, rfl, rfl, by decide +kernel, rfl, by decide +kernel, by decide +kernel⟩
abbrev s_law_is_single : Stmt := topS 64
theorem sc_law_is_single : FnScope ["_law_book", "_law_task"] ["_law_book"] (defScope s_law_is_single) := ⟨rfl, rfl, rfl, by decide +kernel, rfl, by decide +kernel, by decide +kernel⟩
abbrev s_law : Stmt := topS 65
theorem sc_law : FnScope ["_law_script", "_law_first", "_law_book", "_law_kept", "_law_least", "_law_late", "_law_bent_here", "_law_due", "_law_way"] ["_law_script"] (defScope s_law) := ⟨rfl, rfl, rfl, by decide +kernel, rfl, by decide +kernel, by decide +kernel⟩
abbrev s_init : Stmt := inClass (topS 7) 0
theorem sc_init : FnScope ["self", "what"] ["self", "what"] (defScope s_init) := ⟨rfl, rfl, rfl, by decide +kernel, rfl, by decide +kernel, by decide +kernel⟩
theorem bt_isinstance : bootBuiltins "isinstance" = some (.builtin "isinstance") := by decide +kernel
theorem bt_len : bootBuiltins "len" = some (.builtin "len") := by decide +kernel
theorem bt_all : bootBuiltins "all" = some (.builtin "all") := by decide +kernel
theorem bt_max : bootBuiltins "max" = some (.builtin "max") := by decide +kernel
theorem bt_min : bootBuiltins "min" = some (.builtin "min") := by decide +kernel
theorem bt_sorted : bootBuiltins "sorted" = some (.builtin "sorted") := by decide +kernel
theorem bt_sum : bootBuiltins "sum" = some (.builtin "sum") := by decide +kernel
theorem bt_repr : bootBuiltins "repr" = some (.builtin "repr") := by decide +kernel
theorem bt_range : bootBuiltins "range" = some (.type "range") := by decide +kernel
theorem bt_enumerate : bootBuiltins "enumerate" = some (.type "enumerate") := by decide +kernel
theorem bt_int : bootBuiltins "int" = some (.type "int") := by decide +kernel
theorem bt_bool : bootBuiltins "bool" = some (.type "bool") := by decide +kernel
theorem bt_str : bootBuiltins "str" = some (.type "str") := by decide +kernel
theorem bt_tuple : bootBuiltins "tuple" = some (.type "tuple") := by decide +kernel
theorem bt_list : bootBuiltins "list" = some (.type "list") := by decide +kernel
theorem bt_set : bootBuiltins "set" = some (.type "set") := by decide +kernel
theorem bt_dict : bootBuiltins "dict" = some (.type "dict") := by decide +kernel
theorem bt_ValueError : bootBuiltins "ValueError" = some (.type "ValueError") := by decide +kernel
theorem hu65 {k : Nat} {A : Around} (hr : Room k A) : A.units + 65 < cLine := by have := hr.un; omega
structure Txt (mg : Str → Option Value) : Prop where
  b_isinstance : mg "isinstance" = none
  b_len : mg "len" = none
  b_all : mg "all" = none
  b_max : mg "max" = none
  b_min : mg "min" = none
  b_sorted : mg "sorted" = none
  b_sum : mg "sum" = none
  b_repr : mg "repr" = none
  b_range : mg "range" = none
  b_enumerate : mg "enumerate" = none
  b_int : mg "int" = none
  b_bool : mg "bool" = none
  b_str : mg "str" = none
  b_tuple : mg "tuple" = none
  b_list : mg "list" = none
  b_set : mg "set" = none
  b_dict : mg "dict" = none
  b_ValueError : mg "ValueError" = none
  c_SMALL : ∃ u, mg "SMALL" = some u ∧ RelV (.str "abcdefghijklmnopqrstuvwxyz") u
  c_MOST_SIGNS : ∃ u, mg "MOST_SIGNS" = some u ∧ RelV (.int 8) u
  c_MOST_MACHINES : ∃ u, mg "MOST_MACHINES" = some u ∧ RelV (.int 6) u
  c_MOST_GOODS : ∃ u, mg "MOST_GOODS" = some u ∧ RelV (.int 4) u
  c_MOST_MANY : ∃ u, mg "MOST_MANY" = some u ∧ RelV (.int 99) u
  c_MOST_TASKS : ∃ u, mg "MOST_TASKS" = some u ∧ RelV (.int 30) u
  c_MOST_LENGTH : ∃ u, mg "MOST_LENGTH" = some u ∧ RelV (.int 1000) u
  c_MOST_HOUR : ∃ u, mg "MOST_HOUR" = some u ∧ RelV (.int 1000000) u
  c_MOST_WEIGHT : ∃ u, mg "MOST_WEIGHT" = some u ∧ RelV (.int 1000) u
  c_MOST_WAITS : ∃ u, mg "MOST_WAITS" = some u ∧ RelV (.int 60) u
  c_MOST_GAP : ∃ u, mg "MOST_GAP" = some u ∧ RelV (.int 1000) u
  c_PARTS : ∃ u, mg "PARTS" = some u ∧ RelV (.int 5) u
  c_TASK_PARTS : ∃ u, mg "TASK_PARTS" = some u ∧ RelV (.int 7) u
  c_FAR : ∃ u, mg "FAR" = some u ∧ RelV (.int 1000000) u
/-! built-ins whose readings bear a name -/
theorem cr_len {X : Cx} : CallR X (.builtin "len") (rLenQ X.K) := call_len_seq
theorem cr_list {X : Cx} : CallR X (.type "list") (rListQ X.K) := call_list_of
theorem cr_tuple {X : Cx} : CallR X (.type "tuple") (rTupQ X.K) := call_tuple_of
theorem cr_int {X : Cx} : CallR X (.type "int") rIntQ := call_int1
/-- a def of the text, called by its name: its promise, at level k -/
structure Cal (P : Program) (w : World) (K : PySem.W.Frag) (mg : Str → Option Value) (base : Heap) (k : Nat) (x : Str) (sp : Sp) : Prop where
  ex : ∃ (f : Addr) (fd : FuncData) (ps : List Str), FnOk P w K mg base CX0 k f fd ps sp ∧ mg x = some (.ref f) ∧ PySem.W.keepIn K (.ref f) = true ∧ Binds K fd ps []
section
variable {X : Cx} {e : Expr} {es : List Expr} {t : TA} {p pos : Pos} {x : Str} {k j : Nat} {sp : Sp}
theorem pe_c (c : Cal X.prog X.w X.K X.mg X.base k x sp) (hr : Room j X.A) (hk : k ≤ j) (hg : Gl X x) (ha : PA X (e :: es) t)
    (hdb : (x == ("__debug__" : Str)) = false := by decide) (he : starEach (e :: es) X.env = (false, eval e X.env) :: starEach es X.env := by rfl) (hpl : (backTo pos (starEach es X.env)).any (·.1) = false := by rfl) :
    PE X (.Call (.Name x p) (e :: es) [] pos) (tCall sp [] E0 t) := by
  obtain ⟨f, fd, ps, F, hm, kp, b⟩ := c.ex
  exact pe_call F (hr.mono hk) hg hm kp b .nil pass0 ha hdb he hpl
theorem pe_gc {v : V} (hg : Gl X x) (h : ∃ u, X.mg x = some u ∧ RelV v u) (hd : (x == ("__debug__" : Str)) = false := by decide) : PE X (.Name x pos) (tC v) := by
  obtain ⟨u, hm, r⟩ := h
  exact pe_glob hg hm r hd
end
end K9

set_option Elab.async false
set_option linter.all false
set_option maxRecDepth 100000
set_option maxHeartbeats 4000000
/-! Names, numbers, tuples: the smallest readers. -/
namespace K9
open PySem PySem.Spec PyProof.Rows L2 Evl
/-! data of a modest size -/
def okN : Nat → PyData → Bool
  | _, .none => true
  | _, .bool _ => true
  | _, .int _ => true
  | _, .str x => PyData.canLay0 (.str x) && decide (x.length ≤ 1000)
  | n + 1, .list xs => decide (xs.length ≤ 1000) && xs.all (okN n)
  | n + 1, .tuple xs => decide (xs.length ≤ 1000) && xs.all (okN n)
  | _, _ => false
def Fine (d : PyData) : Prop := ∃ n, n ≤ 8 ∧ okN n d = true
theorem fine_int (i : Int) : Fine (.int i) := ⟨0, by decide, rfl⟩
theorem fine_bool (i : Bool) : Fine (.bool i) := ⟨0, by decide, rfl⟩
theorem fine_none : Fine .none := ⟨0, by decide, rfl⟩
theorem okN_tup {n : Nat} {xs : List PyData} (h : okN (n + 1) (.tuple xs) = true) : xs.length ≤ 1000 ∧ ∀ x ∈ xs, okN n x = true := by
  simp only [okN, Bool.and_eq_true, decide_eq_true_eq, List.all_eq_true] at h
  exact h
theorem okN_lst {n : Nat} {xs : List PyData} (h : okN (n + 1) (.list xs) = true) : xs.length ≤ 1000 ∧ ∀ x ∈ xs, okN n x = true := by
  simp only [okN, Bool.and_eq_true, decide_eq_true_eq, List.all_eq_true] at h
  exact h
theorem canAll_of : ∀ {xs : List PyData}, (∀ x ∈ xs, PyData.canLay0 x = true) → PyData.canLayAll0 xs = true
  | [], _ => by simp only [PyData.canLayAll0]
  | x :: xs, h => by
    simp only [PyData.canLayAll0, Bool.and_eq_true]
    exact ⟨h x List.mem_cons_self, canAll_of fun y hy => h y (List.mem_cons_of_mem _ hy)⟩
theorem depthAll_of {n : Nat} : ∀ {xs : List PyData}, (∀ x ∈ xs, PyData.depth x ≤ n) → PyData.depthAll xs ≤ n
  | [], _ => by simp only [PyData.depthAll]; exact Nat.zero_le _
  | x :: xs, h => by
    simp only [PyData.depthAll]
    exact Nat.max_le.mpr ⟨h x List.mem_cons_self, depthAll_of fun y hy => h y (List.mem_cons_of_mem _ hy)⟩
theorem okN_shape : ∀ (n : Nat) (d : PyData), okN n d = true → PyData.canLay0 d = true ∧ PyData.depth d ≤ n
  | n, .none, _ => by simp [PyData.canLay0, PyData.depth]
  | n, .bool _, _ => by simp [PyData.canLay0, PyData.depth]
  | n, .int _, _ => by simp [PyData.canLay0, PyData.depth]
  | n, .str x, h => by
    have h' : (PyData.canLay0 (.str x) && decide (x.length ≤ 1000)) = true := by
      cases n <;> exact h
    rw [Bool.and_eq_true] at h'
    exact ⟨h'.1, by simp [PyData.depth]⟩
  | 0, .list xs, h => by cases h
  | 0, .tuple xs, h => by cases h
  | n + 1, .list xs, h => by
    have q := (okN_lst h).2
    simp only [PyData.canLay0, PyData.depth]
    exact ⟨canAll_of fun x hx => (okN_shape n x (q x hx)).1, Nat.succ_le_succ (depthAll_of fun x hx => (okN_shape n x (q x hx)).2)⟩
  | n + 1, .tuple xs, h => by
    have q := (okN_tup h).2
    simp only [PyData.canLay0, PyData.depth]
    exact ⟨canAll_of fun x hx => (okN_shape n x (q x hx)).1, Nat.succ_le_succ (depthAll_of fun x hx => (okN_shape n x (q x hx)).2)⟩
  | 0, .dict _, h => by cases h
  | n + 1, .dict _, h => by cases h
theorem okN_noDic : ∀ (n : Nat) (d : PyData), okN n d = true → noDic d = true
  | _, .none, _ => rfl
  | _, .bool _, _ => rfl
  | _, .int _, _ => rfl
  | _, .str _, _ => rfl
  | 0, .list xs, h => by cases h
  | 0, .tuple xs, h => by cases h
  | n + 1, .list xs, h => noDics_of fun x hx => okN_noDic n x ((okN_lst h).2 x hx)
  | n + 1, .tuple xs, h => noDics_of fun x hx => okN_noDic n x ((okN_tup h).2 x hx)
  | 0, .dict _, h => by cases h
  | n + 1, .dict _, h => by cases h
theorem Fine.shaped {d : PyData} (h : Fine d) : shN d = true := by
  obtain ⟨n, hn, hd⟩ := h
  obtain ⟨h1, h2⟩ := okN_shape n d hd
  unfold shN SeqAt.shaped
  rw [h1, decide_eq_true (by omega : d.depth ≤ 64), okN_noDic n d hd]
  rfl
theorem Fine.noDic {d : PyData} (h : Fine d) : noDic d = true := let ⟨n, _, hd⟩ := h; okN_noDic n d hd
theorem Fine.tup {xs : List PyData} (h : Fine (.tuple xs)) : xs.length ≤ 1000 ∧ ∀ x ∈ xs, Fine x := by
  obtain ⟨n, hn, hd⟩ := h
  cases n with
  | zero => cases hd
  | succ n => exact ⟨(okN_tup hd).1, fun x hx => ⟨n, by omega, (okN_tup hd).2 x hx⟩⟩
theorem Fine.lst {xs : List PyData} (h : Fine (.list xs)) : xs.length ≤ 1000 ∧ ∀ x ∈ xs, Fine x := by
  obtain ⟨n, hn, hd⟩ := h
  cases n with
  | zero => cases hd
  | succ n => exact ⟨(okN_lst hd).1, fun x hx => ⟨n, by omega, (okN_lst hd).2 x hx⟩⟩
theorem Fine.str {x : Str} (h : Fine (.str x)) : x.length ≤ 1000 := by
  obtain ⟨n, hn, hd⟩ := h
  have h' : (PyData.canLay0 (.str x) && decide (x.length ≤ 1000)) = true := by
    cases n <;> exact hd
  rw [Bool.and_eq_true] at h'
  exact of_decide_eq_true h'.2
theorem eqv_int (i j : Int) : PyData.eqv (.int i) (.int j) = (i == j) := by simp only [PyData.eqv]
theorem eqv_str (i j : Str) : PyData.eqv (.str i) (.str j) = (i == j) := by simp only [PyData.eqv]
theorem shaped_int (i : Int) : shN (.int i) = true := (fine_int i).shaped
/-- whole numbers; from one to another -/
def isWhole : PyData → Bool
  | .int _ => true
  | _ => false
def isAmong (lo hi : Int) : PyData → Bool
  | .int i => decide (lo ≤ i) && decide (i ≤ hi)
  | _ => false
def smallStr : Str := "abcdefghijklmnopqrstuvwxyz"
def inSmall : PyData → Bool
  | .str x => match x.cps.toList with
    | [c] => decide (c ∈ smallStr.cps.toList)
    | _ => false
  | _ => false
def isName : PyData → Bool
  | .str z => (decide (1 ≤ (z.length : Int)) && decide ((z.length : Int) ≤ 8)) && (signsD z).all inSmall
  | _ => false
section
variable {P : Program} {w : World} {K : PySem.W.Frag} {mg : Str → Option Value} {base : Heap}
abbrev RWhole : List PyData → PyData → Prop := fun ds r => ∃ d, ds = [d] ∧ noDic d = true ∧ r = .bool (isWhole d)
theorem ok_is_whole {f : Addr} {fd : FuncData} (F : Fun K "is_whole" "is_whole" s_is_whole f fd) (T : Txt mg) : FnOk P w K mg base CX0 1 f fd ["thing"] (SpR 1 RWhole) := by
  refine okD F sc_is_whole rfl fun cdv A outer s G H vs ds r Q E hr hR S i k => ?_
  obtain ⟨d, rfl, hn, rfl⟩ := hR
  refine ⟨_, (pss_one (ps_ret (pe_and (pe_callB (r := rIsiD K) call_isiD (by rfl) T.b_isinstance bt_isinstance (pa_cons (pv 0) (pa_cons (pe_bltn (v := .ty "int") (by rfl) T.b_int bt_int rfl) pa_nil))) (pe_one (pe_not (pe_callB (r := rIsiD K) call_isiD (by rfl) T.b_isinstance bt_isinstance (pa_cons (pv 0) (pa_cons (pe_bltn (v := .ty "bool") (by rfl) T.b_bool bt_bool rfl) pa_nil)))))))), ?_⟩
  refine sd_ret i (dv_is (dv_and (dv_isi (dv_var S) hn (kit_int d)) fun _ => dv_not (dv_isi (dv_var S) hn (kit_bool d))) ?_) fun v G' H' n hv => k v G' H' n hv
  cases d <;> rfl
abbrev RAmong : List PyData → PyData → Prop := fun ds r => ∃ d lo hi, ds = [d, .int lo, .int hi] ∧ noDic d = true ∧ r = .bool (isAmong lo hi d)
theorem ok_is_among {f : Addr} {fd : FuncData} (F : Fun K "is_among" "is_among" s_is_among f fd) (T : Txt mg) (C_is_whole : Cal P w K mg base 1 "is_whole" (SpR 1 RWhole)) : FnOk P w K mg base CX0 2 f fd ["thing", "least", "most"] (SpR 3 RAmong) := by
  refine okD F sc_is_among rfl fun cdv A outer s G H vs ds r Q E hr hR S i k => ?_
  obtain ⟨d, lo, hi, rfl, hn, rfl⟩ := hR
  refine ⟨_, (pss_one (ps_ret (pe_and (pe_c C_is_whole hr (by decide) (by rfl) (pa_cons (pv 0) pa_nil)) (pe_one (pe_chain op_le op_le (pv 1) (pv 0) (pv 2)))))), ?_⟩
  refine sd_ret i ?_ fun v G' H' n hv => k v G' H' n hv
  cases d with
  | int j => exact dv_and (a := true) (dv_call (ds_cons (dv_var S) ds_nil) ⟨_, rfl, hn, rfl⟩) fun _ => dv_chain (dv_var S) (dv_var S) (dv_var S)
  | _ => exact dv_and (a := false) (b := false) (dv_call (ds_cons (dv_var S) ds_nil) ⟨_, rfl, hn, rfl⟩) fun z => nomatch z
abbrev RName : List PyData → PyData → Prop := fun ds r => ∃ d, ds = [d] ∧ Fine d ∧ r = .bool (isName d)
theorem dv_inS {s : L2.St} {G0 : Hp} {ta tb : TE} {c : Nat} {z : Str} (ha : EvD ta s G0 (.str ⟨#[c]⟩)) (hb : EvD tb s G0 (.str z)) :
    EvD (tOp (fun x y H Q => ∃ (c : Nat) (z : Str), x = .str ⟨#[c]⟩ ∧ y = .str z ∧ Q (.bl (decide (c ∈ z.cps.toList))) H) ta tb) s G0 (.bool (decide (c ∈ z.cps.toList))) :=
  dv_op ha hb fun G H _ _ _ i h1 h2 _ k => ⟨c, z, h1.eqStr, h2.eqStr, k _ G H (Nx.refl i) (.bl _)⟩
theorem ok_is_name {f : Addr} {fd : FuncData} (F : Fun K "is_name" "is_name" s_is_name f fd) (T : Txt mg) : FnOk P w K mg base CX0 1 f fd ["thing"] (SpR 1 RName) := by
  refine okD F sc_is_name rfl fun cdv A outer s G H vs ds r Q E hr hR S i k => ?_
  obtain ⟨d, rfl, hd, rfl⟩ := hR
  refine ⟨_, (pss_one (ps_ret (pe_and (pe_callB (r := rIsiD K) call_isiD (by rfl) T.b_isinstance bt_isinstance (pa_cons (pv 0) (pa_cons (pe_bltn (v := .ty "str") (by rfl) T.b_str bt_str rfl) pa_nil))) (pe_and (pe_chain op_le op_le pe_int (pe_callB call_len_str (by rfl) T.b_len bt_len (pa_cons (pv 0) pa_nil)) (pe_gc (by rfl) T.c_MOST_SIGNS)) (pe_one (pe_callB (r := rAll K) (cr_all rfl) (by rfl) T.b_all bt_all (pa_cons (pe_lc (own := [("sign", 1)]) (g := (gName 1)) rfl sc_is_name.nd (pi_str (pv 0)) (blkOk_by (N := ["thing", "sign"]) (sc := defScope s_is_name) (by decide +kernel)) (fun _ _ _ _ _ => (pg_name (i := 1) sc_is_name.nd rfl (Or.inl rfl))) (fun _ _ _ _ _ => pts_nil) (fun _ _ _ _ _ => (pe_cmpR op_in_sign (pv 1) (pe_gc (by rfl) T.c_SMALL) (by rfl)))) pa_nil))))))), ?_⟩
  refine sd_ret i ?_ fun v G' H' n hv => k v G' H' n hv
  cases d with
  | str z =>
    have hz := hd.str
    have hs : (signsD z).length = z.length := by simp [signsD, Str.length]
    refine dv_is (dv_and (dv_isi (dv_var S) hd.noDic (kit_str _)) fun _ => dv_and (dv_chain dv_int (dv_lenS (dv_var S) (by omega)) dv_int) fun _ =>
      dv_allLc (js := [1]) (fun d => [none, some d].set 0 (some (.str z))) inSmall (ei_str (dv_var S)) S (by omega) (fun d _ => tg_name) (by decide) fun d hm s2 G2 e2 S2 => ?_) rfl
    obtain ⟨c, hc, rfl⟩ := List.mem_map.mp hm
    exact dv_inS (dv_var S2) dv_str
  | _ => exact dv_and (a := false) (b := false) (dv_isi (dv_var S) hd.noDic (kit_str _)) fun z => nomatch z
end
end K9

set_option Elab.async false
set_option linter.all false
set_option maxRecDepth 100000
set_option maxHeartbeats 4000000
/-! A book's form. -/
namespace K9
open PySem PySem.Spec PyProof.Rows L2 Evl
def tupOf (size : Int) (e : PyData) : Bool := isTup e && PyData.eqv (.int (lenD e)) (.int size)
def areTuples (most size : Int) : PyData → Bool
  | .tuple ds => !decide (most < (ds.length : Int)) && ds.all (tupOf size)
  | _ => false
def areNames : PyData → Bool
  | .tuple ds => decide ((ds.length : Int) ≤ 6) && ds.all isName
  | _ => false
def isPairNM : PyData → Bool
  | .tuple [a, b] => isName a && isAmong 1 99 b
  | _ => false
def kids : PyData → List PyData
  | .tuple ds => ds
  | _ => []
def areCounts (most : Int) (d : PyData) : Bool := areTuples most 2 d && (kids d).all isPairNM
def isTask : PyData → Bool
  | .tuple [name, length, machine, needs, first, due, weight] =>
    (isName name && (isAmong 1 1000 length && !(!PyData.eqv machine (.str "") && !isName machine))) && ((areCounts 1000000 needs && isAmong 0 1000000 first) && ((isNone due || isAmong 0 1000000 due) && isAmong 0 1000 weight))
  | _ => false
def isWait : PyData → Bool
  | .tuple [.int a, .int b, .int c] => (isAmong 0 1000000 (.int a) && (isAmong 0 1000000 (.int b) && isAmong 0 1000000 (.int c))) && (!PyData.eqv (.int a) (.int b) && decide (c ≤ 1000))
  | _ => false
def isFix : PyData → Bool
  | .tuple [a, b] => isAmong 0 1000000 a && isAmong 0 1000000 b
  | _ => false
def hasForm : PyData → Bool
  | .tuple [ms, gs, ts, ws, fs] =>
    (areNames ms && (areCounts 4 gs && areTuples 30 7 ts)) && ((!PyData.eqv ts (.tuple []) && ((kids ts).all isTask && areTuples 60 3 ws)) && (((kids ws).all isWait && areTuples 30 2 fs) && (kids fs).all isFix))
  | _ => false
theorem bn3 {a b x : Bool} (h : (!a || (!b || x)) = true) : (a && (b && !x)) = false := by revert h; cases a <;> cases b <;> cases x <;> decide
theorem bp3 {a b x : Bool} (h : (!a || (!b || x)) = false) : (a && (b && !x)) = true := by revert h; cases a <;> cases b <;> cases x <;> decide
theorem bn2 {a b : Bool} (h : (!a || !b) = true) : (a && b) = false := by revert h; cases a <;> cases b <;> decide
theorem bp2 {a b : Bool} (h : (!a || !b) = false) : (a && b) = true := by revert h; cases a <;> cases b <;> decide
theorem bn4 {a b c : Bool} (h : (!a || (!b || !c)) = true) : (a && (b && c)) = false := by revert h; cases a <;> cases b <;> cases c <;> decide
theorem bp4 {a b c : Bool} (h : (!a || (!b || !c)) = false) : (a && (b && c)) = true := by revert h; cases a <;> cases b <;> cases c <;> decide
theorem bn5 {a b c : Bool} (h : (a || (!b || !c)) = true) : (!a && (b && c)) = false := by revert h; cases a <;> cases b <;> cases c <;> decide
theorem bp5 {a b c : Bool} (h : (a || (!b || !c)) = false) : (!a && (b && c)) = true := by revert h; cases a <;> cases b <;> cases c <;> decide
section
variable {P : Program} {w : World} {K : PySem.W.Frag} {mg : Str → Option Value} {base : Heap}
abbrev RTuples : List PyData → PyData → Prop := fun ds r => ∃ d m n, ds = [d, .int m, .int n] ∧ Fine d ∧ r = .bool (areTuples m n d)
theorem ok_are_tuples {f : Addr} {fd : FuncData} (F : Fun K "are_tuples" "are_tuples" s_are_tuples f fd) (T : Txt mg) : FnOk P w K mg base CX0 1 f fd ["thing", "most", "size"] (SpR 3 RTuples) := by
  refine okD F sc_are_tuples rfl fun cdv A outer s G H vs ds r Q E hr hR S i k => ?_
  obtain ⟨d, m, n, rfl, hd, rfl⟩ := hR
  refine ⟨_, (pss_cons (ps_if (PW.pt (pw_or (pt_not (pt_val (pe_callB (r := rIsiD K) call_isiD (by rfl) T.b_isinstance bt_isinstance (pa_cons (pv 0) (pa_cons (pe_bltn (v := .ty "tuple") (by rfl) T.b_tuple bt_tuple rfl) pa_nil))))) (pw_or1 (pt_cmpR op_gt (pe_callB (r := rLenQ K) cr_len (by rfl) T.b_len bt_len (pa_cons (pv 0) pa_nil)) (pv 1) (nomark _))))) (pss_one (ps_ret pe_bl)) pss_nil)
      (pss_one (ps_ret (pe_callB (r := rAll K) (cr_all rfl) (by rfl) T.b_all bt_all (pa_cons (pe_lc (own := [("one", 3)]) (g := (gName 3)) rfl sc_are_tuples.nd (pi_tup (pv 0)) (blkOk_by (N := ["thing", "most", "size", "one"]) (sc := defScope s_are_tuples) (by decide +kernel)) (fun _ _ _ _ _ => (pg_name (i := 3) sc_are_tuples.nd rfl (Or.inl rfl))) (fun _ _ _ _ _ => pts_nil) (fun _ _ _ _ _ => (pe_and (pe_callB (r := rIsiD K) call_isiD (by rfl) T.b_isinstance bt_isinstance (pa_cons (pv 3) (pa_cons (pe_bltn (v := .ty "tuple") (by rfl) T.b_tuple bt_tuple rfl) pa_nil))) (pe_one (pe_cmpR (r := rEqD K) (op_eqD hr.units) (pe_callB (r := rLenQ K) cr_len (by rfl) T.b_len bt_len (pa_cons (pv 3) pa_nil)) (pv 2) (nomark _)))))) pa_nil))))), ?_⟩
  have hno : ∀ v H' G', Nx G H G' H' → DD G' v (.bool false) → areTuples m n d = false → Q v H' := fun v H' G' n1 hv e => k v G' H' n1 (by rw [e]; exact hv)
  cases d with
  | tuple ds =>
    have hl := hd.tup.1
    refine sq_when i (et_or (et_not (tt_B (dv_isi (dv_var S) hd.noDic (kit_tup _)))) fun _ => tt_T (dv_opB (dv_len (dv_var S) rfl) (dv_var S))) (fun hb H1 n1 => ?_) fun hb H1 n1 => ?_
    · refine sd_ret n1.i dv_bl fun v G2 H2 n2 hv => hno v H2 G2 (n1.trans n2) hv ?_
      have hb' : decide (m < (ds.length : Int)) = true := hb
      show (!decide (m < (ds.length : Int)) && ds.all (tupOf n)) = false
      rw [hb']
      rfl
    · have hb' : decide (m < (ds.length : Int)) = false := hb
      refine sd_ret n1.i ?_ fun v G2 H2 n2 hv => k v G2 H2 (n1.trans n2) hv
      refine dv_is (dv_allLc (js := [3]) (fun d => [some (.tuple ds), some (.int m), some (.int n), some d]) (tupOf n) (ei_tup (dv_var S)) S (by omega) (fun d _ => tg_name) (by decide) fun d hm s2 G2 e2 S2 => ?_) ?_
      · refine dv_and (dv_isi (dv_var S2) (hd.tup.2 d hm).noDic (kit_tup _)) fun ht => dv_eqD (dv_len (dv_var S2) ?_) (dv_var S2) (shaped_int _) (shaped_int _)
        cases d <;> first | rfl | cases ht
      · show PyData.bool (ds.all (tupOf n)) = PyData.bool (!decide (m < (ds.length : Int)) && ds.all (tupOf n))
        rw [hb']
        rfl
  | _ =>
    refine sq_when i (b := true) (et_or (a := true) (b := true) (et_not (a := false) (tt_B (dv_isi (dv_var S) hd.noDic (kit_tup _)))) fun z => nomatch z) (fun hb H1 n1 => ?_) fun hb => nomatch hb
    exact sd_ret n1.i dv_bl fun v G2 H2 n2 hv => hno v H2 G2 (n1.trans n2) hv rfl
abbrev RNames : List PyData → PyData → Prop := fun ds r => ∃ d, ds = [d] ∧ Fine d ∧ r = .bool (areNames d)
theorem ok_are_names {f : Addr} {fd : FuncData} (F : Fun K "are_names" "are_names" s_are_names f fd) (T : Txt mg) (C_is_name : Cal P w K mg base 1 "is_name" (SpR 1 RName)) : FnOk P w K mg base CX0 2 f fd ["thing"] (SpR 1 RNames) := by
  refine okD F sc_are_names rfl fun cdv A outer s G H vs ds r Q E hr hR S i k => ?_
  obtain ⟨d, rfl, hd, rfl⟩ := hR
  refine ⟨_, (pss_one (ps_ret (pe_and (pe_callB (r := rIsiD K) call_isiD (by rfl) T.b_isinstance bt_isinstance (pa_cons (pv 0) (pa_cons (pe_bltn (v := .ty "tuple") (by rfl) T.b_tuple bt_tuple rfl) pa_nil))) (pe_and (pe_cmpR op_le (pe_callB (r := rLenQ K) cr_len (by rfl) T.b_len bt_len (pa_cons (pv 0) pa_nil)) (pe_gc (by rfl) T.c_MOST_MACHINES) (nomark _)) (pe_one (pe_callB (r := rAll K) (cr_all rfl) (by rfl) T.b_all bt_all (pa_cons (pe_lc (own := [("one", 1)]) (g := (gName 1)) rfl sc_are_names.nd (pi_tup (pv 0)) (blkOk_by (N := ["thing", "one"]) (sc := defScope s_are_names) (by decide +kernel)) (fun _ _ _ _ _ => (pg_name (i := 1) sc_are_names.nd rfl (Or.inl rfl))) (fun _ _ _ _ _ => pts_nil) (fun _ _ _ _ _ => (pe_c C_is_name hr (by decide) (by rfl) (pa_cons (pv 1) pa_nil)))) pa_nil))))))), ?_⟩
  refine sd_ret i ?_ fun v G' H' n hv => k v G' H' n hv
  cases d with
  | tuple ds =>
    have hl := hd.tup
    refine dv_is (dv_and (dv_isi (dv_var S) hd.noDic (kit_tup _)) fun _ => dv_and (dv_opB (dv_len (dv_var S) rfl) dv_int) fun _ =>
      dv_allLc (js := [1]) (fun d => [some (.tuple ds), some d]) isName (ei_tup (dv_var S)) S (by omega) (fun d _ => tg_name) (by decide) fun d hm s2 G2 e2 S2 => ?_) rfl
    exact dv_call (ds_cons (dv_var S2) ds_nil) ⟨_, rfl, hl.2 d hm, rfl⟩
  | _ => exact dv_and (a := false) (b := false) (dv_isi (dv_var S) hd.noDic (kit_tup _)) fun z => nomatch z
abbrev RCounts : List PyData → PyData → Prop := fun ds r => ∃ d m, ds = [d, .int m] ∧ Fine d ∧ r = .bool (areCounts m d)
theorem tupOf_2 {d : PyData} (h : tupOf 2 d = true) : ∃ a b, d = .tuple [a, b] := by
  unfold tupOf at h
  rw [Bool.and_eq_true, eqv_int] at h
  cases d with
  | tuple ds =>
    have h2 : (ds.length : Int) = 2 := by simpa [lenD] using h.2
    match ds, h2 with
    | [a, b], _ => exact ⟨a, b, rfl⟩
    | [], h2 => simp at h2
    | [_], h2 => simp at h2
    | _ :: _ :: _ :: _, h2 => simp at h2; omega
  | _ => cases h.1
theorem areTuples_all {m n : Int} {d : PyData} (h : areTuples m n d = true) : ∃ ds, d = .tuple ds ∧ ∀ e ∈ ds, tupOf n e = true := by
  cases d with
  | tuple ds =>
    unfold areTuples at h
    rw [Bool.and_eq_true, List.all_eq_true] at h
    exact ⟨ds, rfl, h.2⟩
  | _ => cases h
theorem ok_are_counts {f : Addr} {fd : FuncData} (F : Fun K "are_counts" "are_counts" s_are_counts f fd) (T : Txt mg) (C_is_name : Cal P w K mg base 1 "is_name" (SpR 1 RName)) (C_is_among : Cal P w K mg base 2 "is_among" (SpR 3 RAmong))
    (C_are_tuples : Cal P w K mg base 1 "are_tuples" (SpR 3 RTuples)) : FnOk P w K mg base CX0 3 f fd ["thing", "most"] (SpR 2 RCounts) := by
  refine okD F sc_are_counts rfl fun cdv A outer s G H vs ds r Q E hr hR S i k => ?_
  obtain ⟨d, m, rfl, hd, rfl⟩ := hR
  refine ⟨_, (pss_cons (ps_if (pt_not (pt_val (pe_c C_are_tuples hr (by decide) (by rfl) (pa_cons (pv 0) (pa_cons (pv 1) (pa_cons pe_int pa_nil)))))) (pss_one (ps_ret pe_bl)) pss_nil)
      (pss_one (ps_ret (pe_callB (r := rAll K) (cr_all rfl) (by rfl) T.b_all bt_all (pa_cons (pe_lc (own := [("name", 2), ("many", 3)]) (g := (gTup K 2 (gCons (gName 2) (gCons (gName 3) gNil)))) rfl sc_are_counts.nd (pi_tup (pv 0)) (blkOk_by (N := ["thing", "most", "name", "many"]) (sc := defScope s_are_counts) (by decide +kernel)) (fun _ _ _ _ _ => (pg_tup rfl (pgs_cons (pg_name (i := 2) sc_are_counts.nd rfl (Or.inl rfl)) (pgs_cons (pg_name (i := 3) sc_are_counts.nd rfl (Or.inl rfl)) pgs_nil)))) (fun _ _ _ _ _ => pts_nil) (fun _ _ _ _ _ => (pe_and (pe_c C_is_name hr (by decide) (by rfl) (pa_cons (pv 2) pa_nil)) (pe_one (pe_c C_is_among hr (by decide) (by rfl) (pa_cons (pv 3) (pa_cons pe_int (pa_cons (pe_gc (by rfl) T.c_MOST_MANY) pa_nil)))))))) pa_nil))))), ?_⟩
  refine sq_when i (et_not (tt_B (dv_call (ds_cons (dv_var S) (ds_cons (dv_var S) (ds_cons dv_int ds_nil))) ⟨_, _, _, rfl, hd, rfl⟩))) (fun hb H1 n1 => ?_) fun hb H1 n1 => ?_
  · refine sd_ret n1.i dv_bl fun v G2 H2 n2 hv => k v G2 H2 (n1.trans n2) ?_
    have hb' : areTuples m 2 d = false := by simpa using hb
    unfold areCounts
    rw [hb']
    exact hv
  · have hb' : areTuples m 2 d = true := by simpa using hb
    obtain ⟨ds, rfl, hall⟩ := areTuples_all hb'
    have hl := hd.tup
    refine sd_ret n1.i ?_ fun v G2 H2 n2 hv => k v G2 H2 (n1.trans n2) hv
    refine dv_is (dv_allLc (js := [2, 3]) (fun d => [some (.tuple ds), some (.int m), (kids d)[0]?, (kids d)[1]?]) isPairNM (ei_tup (dv_var S)) S (by omega) (fun d hm => ?_) (by decide) fun d hm s2 G2 e2 S2 => ?_) ?_
    · obtain ⟨a, b, rfl⟩ := tupOf_2 (hall d hm)
      exact tg_tup (tgs_cons tg_name (tgs_cons tg_name tgs_nil))
    · obtain ⟨a, b, rfl⟩ := tupOf_2 (hall d hm)
      exact dv_and (dv_call (ds_cons (dv_var S2) ds_nil) ⟨_, rfl, (hl.2 _ hm).tup.2 a (by simp), rfl⟩) fun _ => dv_call (ds_cons (dv_var S2) (ds_cons dv_int (ds_cons dv_int ds_nil))) ⟨_, _, _, rfl, ((hl.2 _ hm).tup.2 b (by simp)).noDic, rfl⟩
    · unfold areCounts
      rw [hb']
      rfl
abbrev RTask : List PyData → PyData → Prop := fun ds r => ∃ d es, ds = [d] ∧ d = .tuple es ∧ es.length = 7 ∧ Fine d ∧ r = .bool (isTask d)
theorem ok_is_task {f : Addr} {fd : FuncData} (F : Fun K "is_task" "is_task" s_is_task f fd) (T : Txt mg) (C_is_name : Cal P w K mg base 1 "is_name" (SpR 1 RName)) (C_is_among : Cal P w K mg base 2 "is_among" (SpR 3 RAmong))
    (C_are_counts : Cal P w K mg base 3 "are_counts" (SpR 2 RCounts)) : FnOk P w K mg base CX0 4 f fd ["thing"] (SpR 1 RTask) := by
  refine okD F sc_is_task rfl fun cdv A outer s G H vs ds r Q E hr hR S i k => ?_
  obtain ⟨d, es, rfl, rfl, hlen, hd, rfl⟩ := hR
  refine ⟨_, (pss_cons (ps_asg (pv 0) (pg_tup rfl (pgs_cons (pg_name (i := 1) sc_is_task.nd rfl (Or.inl rfl)) (pgs_cons (pg_name (i := 2) sc_is_task.nd rfl (Or.inl rfl)) (pgs_cons (pg_name (i := 3) sc_is_task.nd rfl (Or.inl rfl)) (pgs_cons (pg_name (i := 4) sc_is_task.nd rfl (Or.inl rfl)) (pgs_cons (pg_name (i := 5) sc_is_task.nd rfl (Or.inl rfl)) (pgs_cons (pg_name (i := 6) sc_is_task.nd rfl (Or.inl rfl)) (pgs_cons (pg_name (i := 7) sc_is_task.nd rfl (Or.inl rfl)) pgs_nil)))))))))
      (pss_cons (ps_if (PW.pt (pw_or (pt_not (pt_val (pe_c C_is_name hr (by decide) (by rfl) (pa_cons (pv 1) pa_nil)))) (pw_or (pt_not (pt_val (pe_c C_is_among hr (by decide) (by rfl) (pa_cons (pv 2) (pa_cons pe_int (pa_cons (pe_gc (by rfl) T.c_MOST_LENGTH) pa_nil)))))) (pw_or1 (PW.pt (pw_and (pt_cmpR (r := rNeD K) (op_neD hr.units) (pv 3) pe_str (nomark _)) (pw_and1 (pt_not (pt_val (pe_c C_is_name hr (by decide) (by rfl) (pa_cons (pv 3) pa_nil))))))))))) (pss_one (ps_ret pe_bl)) pss_nil)
      (pss_cons (ps_if (PW.pt (pw_or (pt_not (pt_val (pe_c C_are_counts hr (by decide) (by rfl) (pa_cons (pv 4) (pa_cons (pe_gc (by rfl) T.c_MOST_HOUR) pa_nil))))) (pw_or1 (pt_not (pt_val (pe_c C_is_among hr (by decide) (by rfl) (pa_cons (pv 5) (pa_cons pe_int (pa_cons (pe_gc (by rfl) T.c_MOST_HOUR) pa_nil))))))))) (pss_one (ps_ret pe_bl)) pss_nil)
      (pss_one (ps_ret (pe_and (pe_or (pe_cmpR op_isN (pv 6) pe_non (nomark _)) (pe_one (pe_c C_is_among hr (by decide) (by rfl) (pa_cons (pv 6) (pa_cons pe_int (pa_cons (pe_gc (by rfl) T.c_MOST_HOUR) pa_nil)))))) (pe_one (pe_c C_is_among hr (by decide) (by rfl) (pa_cons (pv 7) (pa_cons pe_int (pa_cons (pe_gc (by rfl) T.c_MOST_WEIGHT) pa_nil))))))))))), ?_⟩
  obtain ⟨name, length, machine, needs, first, due, weight, rfl⟩ : ∃ a b c d e f g, es = [a, b, c, d, e, f, g] := by
    match es, hlen with
    | [a, b, c, d, e, f, g], _ => exact ⟨a, b, c, d, e, f, g, rfl⟩
  have hk := hd.tup.2
  have f1 : Fine name := hk _ (by simp)
  have f3 : Fine machine := hk _ (by simp)
  have f4 : Fine needs := hk _ (by simp)
  refine sq_asg S i (dv_var S) (tg_tup (tgs_cons tg_name (tgs_cons tg_name (tgs_cons tg_name (tgs_cons tg_name (tgs_cons tg_name (tgs_cons tg_name (tgs_cons tg_name tgs_nil)))))))) fun s1 G1 H1 S1 n1 => ?_
  have nm : ∀ {i : Nat} {d : PyData}, Fine d → ([some (PyData.tuple [name, length, machine, needs, first, due, weight]), some name, some length, some machine, some needs, some first, some due, some weight] : Sd)[i]? = some (some d) →
      EvD (tCall (SpR 1 RName) [] E0 (tCons (tVar i) tNil)) s1 G1 (.bool (isName d)) := fun hf e => dv_call (ds_cons (dv_var S1 e) ds_nil) ⟨_, rfl, hf, rfl⟩
  have am : ∀ {i : Nat} {d : PyData} (lo hi : Int), Fine d → ([some (PyData.tuple [name, length, machine, needs, first, due, weight]), some name, some length, some machine, some needs, some first, some due, some weight] : Sd)[i]? = some (some d) →
      EvD (tCall (SpR 3 RAmong) [] E0 (tCons (tVar i) (tCons (tC (.int lo)) (tCons (tC (.int hi)) tNil)))) s1 G1 (.bool (isAmong lo hi d)) := fun lo hi hf e => dv_call (ds_cons (dv_var S1 e) (ds_cons dv_int (ds_cons dv_int ds_nil))) ⟨_, _, _, rfl, hf.noDic, rfl⟩
  refine sq_when n1.i (et_or (et_not (tt_B (nm f1 rfl))) fun _ => et_or (et_not (tt_B (am 1 1000 (hk _ (by simp)) rfl))) fun _ => et_and (tt_T (dv_neD (dv_var S1) dv_str f3.shaped (by decide +kernel))) fun _ => et_not (tt_B (nm f3 rfl))) (fun hb H2 n2 => ?_) fun hb H2 n2 => ?_
  · refine sd_ret n2.i dv_bl fun v G3 H3 n3 hv => k v G3 H3 ((n1.trans n2).trans n3) ?_
    have e : isTask (.tuple [name, length, machine, needs, first, due, weight]) = false := by
      have e1 : (isName name && (isAmong 1 1000 length && !(!PyData.eqv machine (.str "") && !isName machine))) = false := by
        exact bn3 hb
      show ((isName name && (isAmong 1 1000 length && !(!PyData.eqv machine (.str "") && !isName machine))) && _) = false
      rw [e1]
      rfl
    rw [e]
    exact hv
  have e1 : (isName name && (isAmong 1 1000 length && !(!PyData.eqv machine (.str "") && !isName machine))) = true := by
    exact bp3 hb
  refine sq_when n2.i (et_or (et_not (tt_B (dv_call (ds_cons (dv_var S1) (ds_cons dv_int ds_nil)) ⟨_, _, rfl, f4, rfl⟩))) fun _ => et_not (tt_B (am 0 1000000 (hk _ (by simp)) rfl))) (fun hb2 H3 n3 => ?_) fun hb2 H3 n3 => ?_
  · refine sd_ret n3.i dv_bl fun v G4 H4 n4 hv => k v G4 H4 (((n1.trans n2).trans n3).trans n4) ?_
    have e : isTask (.tuple [name, length, machine, needs, first, due, weight]) = false := by
      have e2 : (areCounts 1000000 needs && isAmong 0 1000000 first) = false := by
        exact bn2 hb2
      show (_ && ((areCounts 1000000 needs && isAmong 0 1000000 first) && _)) = false
      rw [e2, Bool.false_and, Bool.and_false]
    rw [e]
    exact hv
  · have e2 : (areCounts 1000000 needs && isAmong 0 1000000 first) = true := by
      exact bp2 hb2
    refine sd_ret n3.i (dv_is (dv_and (dv_or (dv_isN (dv_var S1)) fun _ => am 0 1000000 (hk _ (by simp)) rfl) fun _ => am 0 1000 (hk _ (by simp)) rfl) ?_) fun v G4 H4 n4 hv => k v G4 H4 (((n1.trans n2).trans n3).trans n4) hv
    show PyData.bool ((isNone due || isAmong 0 1000000 due) && isAmong 0 1000 weight) = PyData.bool ((isName name && (isAmong 1 1000 length && !(!PyData.eqv machine (.str "") && !isName machine))) && ((areCounts 1000000 needs && isAmong 0 1000000 first) && ((isNone due || isAmong 0 1000000 due) && isAmong 0 1000 weight)))
    rw [e1, e2]
    rfl
abbrev RWait : List PyData → PyData → Prop := fun ds r => ∃ a b c, ds = [.tuple [a, b, c]] ∧ Fine (.tuple [a, b, c]) ∧ r = .bool (isWait (.tuple [a, b, c]))
theorem among_int {lo hi : Int} {d : PyData} (h : isAmong lo hi d = true) : ∃ i, d = .int i := by
  cases d with
  | int i => exact ⟨i, rfl⟩
  | _ => cases h
theorem isWait_no {a b c : PyData} (h : ([a, b, c].all (isAmong 0 1000000)) = false) : isWait (.tuple [a, b, c]) = false := by
  cases a <;> try rfl
  cases b <;> try rfl
  cases c <;> try rfl
  unfold isWait
  simp only [List.all_cons, List.all_nil, Bool.and_true] at h
  show ((isAmong 0 1000000 _ && (isAmong 0 1000000 _ && isAmong 0 1000000 _)) && _) = false
  rw [h]
  rfl
theorem ok_is_wait {f : Addr} {fd : FuncData} (F : Fun K "is_wait" "is_wait" s_is_wait f fd) (T : Txt mg) (C_is_among : Cal P w K mg base 2 "is_among" (SpR 3 RAmong)) : FnOk P w K mg base CX0 3 f fd ["thing"] (SpR 1 RWait) := by
  refine okD F sc_is_wait rfl fun cdv A outer s G H vs ds r Q E hr hR S i k => ?_
  obtain ⟨a, b, c, rfl, hd, rfl⟩ := hR
  refine ⟨_, (pss_one (ps_ret (pe_and (pe_callB (r := rAll K) (cr_all rfl) (by rfl) T.b_all bt_all (pa_cons (pe_lc (own := [("one", 1)]) (g := (gName 1)) rfl sc_is_wait.nd (pi_tup (pv 0)) (blkOk_by (N := ["thing", "one"]) (sc := defScope s_is_wait) (by decide +kernel)) (fun _ _ _ _ _ => (pg_name (i := 1) sc_is_wait.nd rfl (Or.inl rfl))) (fun _ _ _ _ _ => pts_nil) (fun _ _ _ _ _ => (pe_c C_is_among hr (by decide) (by rfl) (pa_cons (pv 1) (pa_cons pe_int (pa_cons (pe_gc (by rfl) T.c_MOST_HOUR) pa_nil)))))) pa_nil)) (pe_and (pe_cmpR (r := rNeD K) (op_neD hr.units) (pe_ix (r := rIxT K) ix_tup (pv 0) pe_int (fun _ _ => rfl)) (pe_ix (r := rIxT K) ix_tup (pv 0) pe_int (fun _ _ => rfl)) (nomark _)) (pe_one (pe_cmpR op_le (pe_ix (r := rIxT K) ix_tup (pv 0) pe_int (fun _ _ => rfl)) (pe_gc (by rfl) T.c_MOST_GAP) (nomark _))))))), ?_⟩
  refine sd_ret i ?_ fun v G' H' n hv => k v G' H' n hv
  have hall : EvD (tCB (rAll K) (tCons (tLc (iTup K (tVar 0)) (gName 1) tYes (tCall (SpR 3 RAmong) [] E0 (tCons (tVar 1) (tCons (tC (.int 0)) (tCons (tC (.int 1000000)) tNil)))) [1]) tNil)) (L2.start ["thing", "one"] vs) G (.bool ([a, b, c].all (isAmong 0 1000000))) :=
    dv_allLc (js := [1]) (fun d => [some (.tuple [a, b, c]), some d]) (isAmong 0 1000000) (ei_tup (dv_var S)) S (by show 3 ≤ 40000; decide) (fun d _ => tg_name) (by decide) fun d hm s2 G2 e2 S2 => dv_call (ds_cons (dv_var S2) (ds_cons dv_int (ds_cons dv_int ds_nil))) ⟨_, _, _, rfl, (hd.tup.2 d hm).noDic, rfl⟩
  cases hb : [a, b, c].all (isAmong 0 1000000) with
  | false =>
    rw [hb] at hall
    rw [isWait_no hb]
    exact dv_and (a := false) (b := false) hall fun z => nomatch z
  | true =>
    rw [hb] at hall
    have hb' := hb
    simp only [List.all_cons, List.all_nil, Bool.and_true, Bool.and_eq_true] at hb'
    obtain ⟨h1, h2, h3⟩ := hb'
    obtain ⟨x, rfl⟩ := among_int h1
    obtain ⟨y, rfl⟩ := among_int h2
    obtain ⟨z, rfl⟩ := among_int h3
    refine dv_is (dv_and hall fun _ => dv_and (dv_neD (dv_ixT (dv_var S) dv_int (atI_nat (j := 0) rfl)) (dv_ixT (dv_var S) dv_int (atI_nat (j := 1) rfl)) (shaped_int _) (shaped_int _)) fun _ => dv_opB (dv_ixT (dv_var S) dv_int (atI_nat (j := 2) rfl)) dv_int) ?_
    show PyData.bool (true && (!PyData.eqv (.int x) (.int y) && decide (z ≤ 1000))) = PyData.bool ((isAmong 0 1000000 (.int x) && (isAmong 0 1000000 (.int y) && isAmong 0 1000000 (.int z))) && (!PyData.eqv (.int x) (.int y) && decide (z ≤ 1000)))
    rw [h1, h2, h3]
    rfl
theorem tupOf_7 {d : PyData} (h : tupOf 7 d = true) : ∃ es, d = .tuple es ∧ es.length = 7 := by
  unfold tupOf at h
  rw [Bool.and_eq_true, eqv_int] at h
  cases d with
  | tuple ds => exact ⟨ds, rfl, by have : (ds.length : Int) = 7 := by simpa [lenD] using h.2
                                   omega⟩
  | _ => cases h.1
theorem tupOf_3 {d : PyData} (h : tupOf 3 d = true) : ∃ a b c, d = .tuple [a, b, c] := by
  unfold tupOf at h
  rw [Bool.and_eq_true, eqv_int] at h
  cases d with
  | tuple ds =>
    have h2 : (ds.length : Int) = 3 := by simpa [lenD] using h.2
    match ds, h2 with
    | [a, b, c], _ => exact ⟨a, b, c, rfl⟩
    | [], h2 => simp at h2
    | [_], h2 => simp at h2
    | [_, _], h2 => simp at h2
    | _ :: _ :: _ :: _ :: _, h2 => simp at h2; omega
  | _ => cases h.1
abbrev RForm : List PyData → PyData → Prop := fun ds r => ∃ d, ds = [d] ∧ Fine d ∧ r = .bool (hasForm d)
theorem hasForm_no {es : List PyData} (h : ¬ es.length = 5) : hasForm (.tuple es) = false := by
  unfold hasForm
  split
  · next heq =>
    cases heq
    exact absurd rfl h
  · rfl
theorem ok_has_form {f : Addr} {fd : FuncData} (F : Fun K "has_form" "has_form" s_has_form f fd) (T : Txt mg) (C_is_among : Cal P w K mg base 2 "is_among" (SpR 3 RAmong)) (C_are_tuples : Cal P w K mg base 1 "are_tuples" (SpR 3 RTuples))
    (C_are_names : Cal P w K mg base 2 "are_names" (SpR 1 RNames)) (C_are_counts : Cal P w K mg base 3 "are_counts" (SpR 2 RCounts)) (C_is_task : Cal P w K mg base 4 "is_task" (SpR 1 RTask)) (C_is_wait : Cal P w K mg base 3 "is_wait" (SpR 1 RWait)) :
    FnOk P w K mg base CX0 5 f fd ["thing"] (SpR 1 RForm) := by
  refine okD F sc_has_form rfl fun cdv A outer s G H vs ds r Q E hr hR S i k => ?_
  obtain ⟨d, rfl, hd, rfl⟩ := hR
  refine ⟨_, (pss_cons (ps_if (PW.pt (pw_or (pt_not (pt_val (pe_callB (r := rIsiD K) call_isiD (by rfl) T.b_isinstance bt_isinstance (pa_cons (pv 0) (pa_cons (pe_bltn (v := .ty "tuple") (by rfl) T.b_tuple bt_tuple rfl) pa_nil))))) (pw_or1 (pt_cmpR (r := rNeD K) (op_neD hr.units) (pe_callB (r := rLenQ K) cr_len (by rfl) T.b_len bt_len (pa_cons (pv 0) pa_nil)) (pe_gc (by rfl) T.c_PARTS) (nomark _))))) (pss_one (ps_ret pe_bl)) pss_nil)
      (pss_cons (ps_asg (pv 0) (pg_tup rfl (pgs_cons (pg_name (i := 1) sc_has_form.nd rfl (Or.inl rfl)) (pgs_cons (pg_name (i := 2) sc_has_form.nd rfl (Or.inl rfl)) (pgs_cons (pg_name (i := 3) sc_has_form.nd rfl (Or.inl rfl)) (pgs_cons (pg_name (i := 4) sc_has_form.nd rfl (Or.inl rfl)) (pgs_cons (pg_name (i := 5) sc_has_form.nd rfl (Or.inl rfl)) pgs_nil)))))))
      (pss_cons (ps_if (PW.pt (pw_or (pt_not (pt_val (pe_c C_are_names hr (by decide) (by rfl) (pa_cons (pv 1) pa_nil)))) (pw_or (pt_not (pt_val (pe_c C_are_counts hr (by decide) (by rfl) (pa_cons (pv 2) (pa_cons (pe_gc (by rfl) T.c_MOST_GOODS) pa_nil))))) (pw_or1 (pt_not (pt_val (pe_c C_are_tuples hr (by decide) (by rfl) (pa_cons (pv 3) (pa_cons (pe_gc (by rfl) T.c_MOST_TASKS) (pa_cons (pe_gc (by rfl) T.c_TASK_PARTS) pa_nil)))))))))) (pss_one (ps_ret pe_bl)) pss_nil)
      (pss_cons (ps_if (PW.pt (pw_or (pt_cmpR (r := rEqD K) (op_eqD hr.units) (pv 3) (pe_tupF pa_nil) (nomark _)) (pw_or (pt_not (pt_val (pe_callB (r := rAll K) (cr_all rfl) (by rfl) T.b_all bt_all (pa_cons (pe_lc (own := [("task", 6)]) (g := (gName 6)) rfl sc_has_form.nd (pi_tup (pv 3)) (blkOk_by (N := ["thing", "machines", "goods", "tasks", "waits", "fixed", "task", "begin", "wait"]) (sc := defScope s_has_form) (by decide +kernel)) (fun _ _ _ _ _ => (pg_name (i := 6) sc_has_form.nd rfl (Or.inl rfl))) (fun _ _ _ _ _ => pts_nil) (fun _ _ _ _ _ => (pe_c C_is_task hr (by decide) (by rfl) (pa_cons (pv 6) pa_nil)))) pa_nil)))) (pw_or1 (pt_not (pt_val (pe_c C_are_tuples hr (by decide) (by rfl) (pa_cons (pv 4) (pa_cons (pe_gc (by rfl) T.c_MOST_WAITS) (pa_cons pe_int pa_nil)))))))))) (pss_one (ps_ret pe_bl)) pss_nil)
      (pss_cons (ps_if (PW.pt (pw_or (pt_not (pt_val (pe_callB (r := rAll K) (cr_all rfl) (by rfl) T.b_all bt_all (pa_cons (pe_lc (own := [("wait", 8)]) (g := (gName 8)) rfl sc_has_form.nd (pi_tup (pv 4)) (blkOk_by (N := ["thing", "machines", "goods", "tasks", "waits", "fixed", "task", "begin", "wait"]) (sc := defScope s_has_form) (by decide +kernel)) (fun _ _ _ _ _ => (pg_name (i := 8) sc_has_form.nd rfl (Or.inl rfl))) (fun _ _ _ _ _ => pts_nil) (fun _ _ _ _ _ => (pe_c C_is_wait hr (by decide) (by rfl) (pa_cons (pv 8) pa_nil)))) pa_nil)))) (pw_or1 (pt_not (pt_val (pe_c C_are_tuples hr (by decide) (by rfl) (pa_cons (pv 5) (pa_cons (pe_gc (by rfl) T.c_MOST_TASKS) (pa_cons pe_int pa_nil))))))))) (pss_one (ps_ret pe_bl)) pss_nil)
      (pss_one (ps_ret (pe_callB (r := rAll K) (cr_all rfl) (by rfl) T.b_all bt_all (pa_cons (pe_lc (own := [("task", 6), ("begin", 7)]) (g := (gTup K 2 (gCons (gName 6) (gCons (gName 7) gNil)))) rfl sc_has_form.nd (pi_tup (pv 5)) (blkOk_by (N := ["thing", "machines", "goods", "tasks", "waits", "fixed", "task", "begin", "wait"]) (sc := defScope s_has_form) (by decide +kernel)) (fun _ _ _ _ _ => (pg_tup rfl (pgs_cons (pg_name (i := 6) sc_has_form.nd rfl (Or.inl rfl)) (pgs_cons (pg_name (i := 7) sc_has_form.nd rfl (Or.inl rfl)) pgs_nil)))) (fun _ _ _ _ _ => pts_nil) (fun _ _ _ _ _ => (pe_and (pe_c C_is_among hr (by decide) (by rfl) (pa_cons (pv 6) (pa_cons pe_int (pa_cons (pe_gc (by rfl) T.c_MOST_HOUR) pa_nil)))) (pe_one (pe_c C_is_among hr (by decide) (by rfl) (pa_cons (pv 7) (pa_cons pe_int (pa_cons (pe_gc (by rfl) T.c_MOST_HOUR) pa_nil)))))))) pa_nil))))))))), ?_⟩
  cases d with
  | tuple es =>
    have hk := hd.tup
    refine sq_when i (et_or (et_not (tt_B (dv_isi (dv_var S) hd.noDic (kit_tup _)))) fun _ => tt_T (dv_neD (dv_len (dv_var S) rfl) dv_int (shaped_int _) (shaped_int _))) (fun hb H1 n1 => ?_) fun hb H1 n1 => ?_
    · refine sd_ret n1.i dv_bl fun v G2 H2 n2 hv => k v G2 H2 (n1.trans n2) ?_
      rw [hasForm_no]
      · exact hv
      · intro z
        have hb' : (!PyData.eqv (.int (es.length : Nat)) (.int 5)) = true := hb
        rw [eqv_int, z] at hb'
        cases hb'
    have h5 : es.length = 5 := by
      have hb' : (!PyData.eqv (.int (es.length : Nat)) (.int 5)) = false := hb
      rw [eqv_int, Bool.not_eq_false', beq_iff_eq] at hb'
      omega
    obtain ⟨ms, gs, ts, ws, fs, rfl⟩ : ∃ a b c d e, es = [a, b, c, d, e] := by
      match es, h5 with
      | [a, b, c, d, e], _ => exact ⟨a, b, c, d, e, rfl⟩
    have f1 : Fine ms := hk.2 _ (by simp)
    have f2 : Fine gs := hk.2 _ (by simp)
    have f3 : Fine ts := hk.2 _ (by simp)
    have f4 : Fine ws := hk.2 _ (by simp)
    have f5 : Fine fs := hk.2 _ (by simp)
    refine sq_asg S n1.i (dv_var S) (tg_tup (tgs_cons tg_name (tgs_cons tg_name (tgs_cons tg_name (tgs_cons tg_name (tgs_cons tg_name tgs_nil)))))) fun s1 G1 H2 S1 n2 => ?_
    have m2 := n1.trans n2
    refine sq_when n2.i (et_or (et_not (tt_B (dv_call (ds_cons (dv_var S1) ds_nil) ⟨_, rfl, f1, rfl⟩))) fun _ => et_or (et_not (tt_B (dv_call (ds_cons (dv_var S1) (ds_cons dv_int ds_nil)) ⟨_, _, rfl, f2, rfl⟩))) fun _ => et_not (tt_B (dv_call (ds_cons (dv_var S1) (ds_cons dv_int (ds_cons dv_int ds_nil))) ⟨_, _, _, rfl, f3, rfl⟩))) (fun hb1 H3 n3 => ?_) fun hb1 H3 n3 => ?_
    · refine sd_ret n3.i dv_bl fun v G4 H4 n4 hv => k v G4 H4 ((m2.trans n3).trans n4) ?_
      have e : hasForm (.tuple [ms, gs, ts, ws, fs]) = false := by
        show ((areNames ms && (areCounts 4 gs && areTuples 30 7 ts)) && _) = false
        rw [bn4 hb1]
        rfl
      rw [e]
      exact hv
    have e1 := bp4 hb1
    have e1' := e1
    simp only [Bool.and_eq_true] at e1'
    obtain ⟨_, _, q3⟩ := e1'
    obtain ⟨tl, rfl, ht7⟩ := areTuples_all q3
    have m3 := m2.trans n3
    refine sq_when n3.i (et_or (tt_T (dv_eqD (dv_var S1) (dv_tup ds_nil) f3.shaped (by decide +kernel))) fun _ => et_or (et_not (tt_B (dv_allLc (js := [6]) (fun d => [some (.tuple [ms, gs, .tuple tl, ws, fs]), some ms, some gs, some (.tuple tl), some ws, some fs, some d, none, none]) isTask (ei_tup (dv_var S1)) S1 (by have := f3.tup.1; omega) (fun d _ => tg_name) (by decide) fun d hm s2 G2 e2 S2 => ?_))) fun _ => et_not (tt_B (dv_call (ds_cons (dv_var S1) (ds_cons dv_int (ds_cons dv_int ds_nil))) ⟨_, _, _, rfl, f4, rfl⟩))) (fun hb2 H4 n4 => ?_) fun hb2 H4 n4 => ?_
    · obtain ⟨es, rfl, hl7⟩ := tupOf_7 (ht7 d hm)
      exact dv_call (ds_cons (dv_var S2) ds_nil) ⟨_, _, rfl, rfl, hl7, f3.tup.2 _ hm, rfl⟩
    · refine sd_ret n4.i dv_bl fun v G5 H5 n5 hv => k v G5 H5 ((m3.trans n4).trans n5) ?_
      have e : hasForm (.tuple [ms, gs, .tuple tl, ws, fs]) = false := by
        show (_ && ((!PyData.eqv (.tuple tl) (.tuple []) && (tl.all isTask && areTuples 60 3 ws)) && _)) = false
        rw [bn5 hb2, Bool.false_and, Bool.and_false]
      rw [e]
      exact hv
    have e2 := bp5 hb2
    have e2' := e2
    simp only [Bool.and_eq_true] at e2'
    obtain ⟨_, _, q4⟩ := e2'
    obtain ⟨wl, rfl, hw3⟩ := areTuples_all q4
    have m4 := m3.trans n4
    refine sq_when n4.i (et_or (et_not (tt_B (dv_allLc (js := [8]) (fun d => [some (.tuple [ms, gs, .tuple tl, .tuple wl, fs]), some ms, some gs, some (.tuple tl), some (.tuple wl), some fs, none, none, some d]) isWait (ei_tup (dv_var S1)) S1 (by have := f4.tup.1; omega) (fun d _ => tg_name) (by decide) fun d hm s2 G2 e2 S2 => ?_))) fun _ => et_not (tt_B (dv_call (ds_cons (dv_var S1) (ds_cons dv_int (ds_cons dv_int ds_nil))) ⟨_, _, _, rfl, f5, rfl⟩))) (fun hb3 H5 n5 => ?_) fun hb3 H5 n5 => ?_
    · obtain ⟨a, b, c, rfl⟩ := tupOf_3 (hw3 d hm)
      exact dv_call (ds_cons (dv_var S2) ds_nil) ⟨_, _, _, rfl, f4.tup.2 _ hm, rfl⟩
    · refine sd_ret n5.i dv_bl fun v G6 H6 n6 hv => k v G6 H6 ((m4.trans n5).trans n6) ?_
      have e : hasForm (.tuple [ms, gs, .tuple tl, .tuple wl, fs]) = false := by
        show (_ && (_ && ((wl.all isWait && areTuples 30 2 fs) && _))) = false
        rw [bn2 hb3, Bool.false_and, Bool.and_false, Bool.and_false]
      rw [e]
      exact hv
    have e3 := bp2 hb3
    have e3' := e3
    simp only [Bool.and_eq_true] at e3'
    obtain ⟨_, q5⟩ := e3'
    obtain ⟨fl, rfl, hf2⟩ := areTuples_all q5
    refine sd_ret n5.i (dv_is (dv_allLc (js := [6, 7]) (fun d => [some (.tuple [ms, gs, .tuple tl, .tuple wl, .tuple fl]), some ms, some gs, some (.tuple tl), some (.tuple wl), some (.tuple fl), (kids d)[0]?, (kids d)[1]?, none]) isFix (ei_tup (dv_var S1)) S1 (by have := f5.tup.1; omega) (fun d hm => ?_) (by decide) fun d hm s2 G2 e2 S2 => ?_) ?_) fun v G6 H6 n6 hv => k v G6 H6 ((m4.trans n5).trans n6) hv
    · obtain ⟨a, b, rfl⟩ := tupOf_2 (hf2 d hm)
      exact tg_tup (tgs_cons tg_name (tgs_cons tg_name tgs_nil))
    · obtain ⟨a, b, rfl⟩ := tupOf_2 (hf2 d hm)
      exact dv_and (dv_call (ds_cons (dv_var S2) (ds_cons dv_int (ds_cons dv_int ds_nil))) ⟨_, _, _, rfl, ((f5.tup.2 _ hm).tup.2 a (by simp)).noDic, rfl⟩) fun _ => dv_call (ds_cons (dv_var S2) (ds_cons dv_int (ds_cons dv_int ds_nil))) ⟨_, _, _, rfl, ((f5.tup.2 _ hm).tup.2 b (by simp)).noDic, rfl⟩
    · show PyData.bool (fl.all isFix) = PyData.bool ((areNames ms && (areCounts 4 gs && areTuples 30 7 (.tuple tl))) && ((!PyData.eqv (.tuple tl) (.tuple []) && (tl.all isTask && areTuples 60 3 (.tuple wl))) && ((wl.all isWait && areTuples 30 2 (.tuple fl)) && fl.all isFix)))
      rw [e1, show (!PyData.eqv (.tuple tl) (.tuple []) && (tl.all isTask && areTuples 60 3 (.tuple wl))) = true from e2, e3]
      rfl
  | _ =>
    refine sq_when i (b := true) (et_or (a := true) (b := true) (et_not (a := false) (tt_B (dv_isi (dv_var S) hd.noDic (kit_tup _)))) fun z => nomatch z) (fun hb H1 n1 => ?_) fun hb => nomatch hb
    exact sd_ret n1.i dv_bl fun v G2 H2 n2 hv => k v G2 H2 (n1.trans n2) hv
end
end K9

set_option Elab.async false
set_option linter.all false
set_option maxRecDepth 100000
set_option maxHeartbeats 4000000
/-! len(set(xs)) of unlike keys, texts or ints, any number of them. -/
namespace K9
open PySem PySem.Spec PyProof.Rows L2 Evl
def inKs (ks : List Key) (q : Key) : Bool := ks.any fun z => decide (z = q)
theorem inKs_iff {ks : List Key} {q : Key} : inKs ks q = true ↔ q ∈ ks := by
  unfold inKs
  rw [List.any_eq_true]
  exact ⟨fun ⟨z, hz, e⟩ => of_decide_eq_true e ▸ hz, fun h => ⟨q, h, decide_eq_true rfl⟩⟩
theorem set_congr {prog : Program} {w : World} {h : Heap} {a : Addr} {S S' : Key → Bool} {n n' : Nat} (hS : h.SetOf (mixKind prog w) a S n) (e : ∀ k, S k = S' k) (en : n = n') : h.SetOf (mixKind prog w) a S' n' := by
  have e2 : S = S' := funext e
  subst e2
  subst en
  exact hS
section
variable {prog : Program} {w : World} {A : Around} {R : Result → Shared → Prop} {I : Addr} {fp wr : List Addr} {Gn : Array GenState → Array GenState → Prop} {n : Nat} {P : Nat → Value → Prop} {St : Nat → Shared → Prop}
/-- the loop that fills a set: the i first keys are in it -/
theorem fill_keys (W : WalksS prog w A.in1 I fp wr Gn n P St) (S : Addr) (away : S ∉ fp) (ks : List Key) (nd : ks.Nodup) (len : ks.length = n) (room : n + 1 < scanBound) (key : ∀ i v, P i v → ∃ q, ks[i]? = some q ∧ keyIs q v = true ∧ v.scannable = true) :
    ∀ (m i : Nat) (s : Shared), n - i = m → i ≤ n → St i s → s.heap.SetOf (mixKind prog w) S (fun q => inKs (ks.take i) q) i →
      (∀ s', Moved (S :: wr) Gn s s' → s'.heap.SetOf (mixKind prog w) S (fun q => inKs (ks.take n) q) n → R (.ok (.ret .none)) s') →
      codeAny (model prog w) A (.builtin "set.update.loop" ⟨[.ref S, .ref I], []⟩) R s := by
  have hSw : S ∉ wr := fun h => away (W.sub _ h)
  have wider : ∀ b ∈ wr, b ∈ S :: wr := fun b hb => List.mem_cons_of_mem _ hb
  have keepSet : ∀ {s s' : Shared} {f : Key → Bool} {c : Nat}, Moved wr Gn s s' → s.heap.SetOf (mixKind prog w) S f c → s'.heap.SetOf (mixKind prog w) S f c := fun hm ⟨o, es, ep, t, ho, rest⟩ => ⟨o, es, ep, t, hm.heap S _ hSw ho, rest⟩
  intro m
  induction m with
  | zero =>
    intro i s hm hi st set done
    obtain rfl : i = n := by omega
    refine codeAny_builtin F.entry_set_update_loop ?_
    rw [Around.under_plainId F.plain_set_update_loop _]
    show wpAny _ A.in1 (pyNext (.ref I) >>= _) _ _ s
    exact wpAny_bind (W.done s _ _ st fun s' mv => wpAny_pure (done s' (mv.mono wider) (keepSet mv set)))
  | succ m ih =>
    intro i s hm hi st set done
    have lt : i < n := by omega
    refine codeAny_builtin F.entry_set_update_loop ?_
    rw [Around.under_plainId F.plain_set_update_loop _]
    show wpAny _ A.in1 (pyNext (.ref I) >>= _) _ _ s
    refine wpAny_bind (W.item i s _ _ lt st fun v s' hP st' mv => ?_)
    obtain ⟨q, hq, kq, sc⟩ := key i v hP
    have set1 := keepSet mv set
    show wpAny _ A.in1 (holding [v] (setAdd S v) >>= _) _ _ s'
    refine wpAny_bind (wpAny_holding ?_)
    unfold setAdd
    refine wpAny_holding (wpAny_bind ((mixKind prog w).pyHash (k := q) kq ?_))
    refine wpAny_setAddHashed_of (knd := mixKind prog w) (s := { s' with toks := s'.toks + 1 }) kq sc set1 (by omega) fun h' same new => ?_
    have notIn : q ∉ ks.take i := fun hin => by
      obtain ⟨j, hj⟩ := List.mem_iff_getElem?.mp hin
      rw [List.getElem?_take] at hj
      split at hj
      · next hji =>
        obtain ⟨a1, a2⟩ := List.getElem?_eq_some_iff.mp hj
        obtain ⟨b1, b2⟩ := List.getElem?_eq_some_iff.mp hq
        exact absurd (a2.trans b2.symm) (List.pairwise_iff_getElem.mp nd j i a1 b1 hji)
      · cases hj
    have next : h'.SetOf (mixKind prog w) S (fun q => inKs (ks.take (i + 1)) q) (i + 1) := by
      have notB : inKs (ks.take i) q = false := by
        cases z : inKs (ks.take i) q with
        | false => rfl
        | true => exact absurd (inKs_iff.mp z) notIn
      refine set_congr new (fun p => ?_) (by rw [notB]; rfl)
      rw [List.take_add_one, hq]
      unfold inKs
      rw [List.any_append]
      show (_ || decide (p = q)) = (_ || (decide (q = p) || false))
      rw [Bool.or_false]
      congr 1
      by_cases e : p = q
      · rw [decide_eq_true e, decide_eq_true e.symm]
      · rw [decide_eq_false e, decide_eq_false fun z => e z.symm]
    refine wpAny_pure ⟨plainId_quiet F.plain_set_update_loop _, ih (i + 1) _ (by omega) lt (W.frame _ s' _ _ st' (Nat.le_succ _) fun b hb o e => ?_) next fun s'' mv2 set2 => ?_⟩
    · exact (same.2 b fun z : b = S => away (z ▸ hb)).trans e
    · exact done s'' (Moved.trans W.gtrans ((mv.mono wider).then_heap (Nat.le_succ _) fun b o hb e => (same.2 b fun z : b = S => hb (z ▸ List.mem_cons_self)).trans e) mv2) set2
end
section
variable {prog : Program} {w : World} {A : Around} {E : Value → Shared → Prop} {s : Shared}
abbrev newSet (led : Bool) : Obj := { cls := .type "set", dict := none, data := .set #[] 0 (.fresh 0 0 led) }
set_option maxHeartbeats 8000000 in
theorem set_of_keys {l : Addr} {items : Array Value} {ks : List Key} {Q : Value → Shared → Prop} (calm : A.handled = none) (hl : s.heap.IsList l items) (nd : ks.Nodup) (len : ks.length = items.size) (room : items.size + 1 < scanBound)
    (key : ∀ (i : Nat) (v : Value), items[i]? = some v → ∃ q, ks[i]? = some q ∧ keyIs q v = true ∧ v.scannable = true)
    (h : ∀ (h' : Heap) (tk : Nat), h'.SetOf (mixKind prog w) s.heap.objs.size (fun q => inKs (ks.take items.size) q) items.size → (∀ b o, b < s.heap.objs.size → s.heap.get? b = some o → h'.get? b = some o) → Q (.ref s.heap.objs.size) { s with heap := h', toks := tk }) :
    wpAny (model prog w) A (call (.type "set") [.ref l]) Q E s := by
  obtain ⟨c, tl, hmro⟩ := PySem.F.called_set.mro
  have made := PySem.F.called_set.made
  have subs := PySem.F.called_set.sub
  refine wpAny_call (codeAny_of_tree ?_)
  show wpAny _ _ (callAny (.type "set") _) _ _ _
  refine wpAny_pure ⟨Code.quiet_builtin _ (by decide +kernel), codeAny_builtin PySem.F.entry_type_call ?_⟩
  rw [Around.under_plain (weight_type_call_type "set" [.ref l] []) rfl]
  have notT := PySem.F.called_set.notType
  have canC := PySem.F.called_set.canCreate
  have chk := PySem.F.typeCall_set_1 (.ref l)
  repeat (any_goals (first | assumption | wp_step))
  refine codeAny_mono (code_set_new_1 (.ref l) (E := E) (Q₁ := fun o s1 => ∃ led : Bool, o = .ref s.heap.objs.size ∧ s1 = { s with heap := s.heap.push (newSet led) }) fun led => ⟨led, rfl, rfl⟩) fun r s1 hr => ?_
  cases r with
  | error e => exact hr
  | ok fl =>
    cases fl with
    | ret o =>
      obtain ⟨led, rfl, rfl⟩ := hr
      have hS : (s.heap.push (newSet led)).get? s.heap.objs.size = some (newSet led) := Heap.get?_push_size _ rfl
      have hT : Shared.TypeIs { s with heap := s.heap.push (newSet led) } (.ref s.heap.objs.size) "set" := ⟨_, hS, rfl⟩
      have lookI := PySem.F.called_set.init.lookup
      have bindI := PySem.F.called_set.init.bind (.ref s.heap.objs.size)
      repeat (any_goals (first | assumption | wp_step))
      refine codeAny_mono (codeAny_call_builtin (R := wants (fun r s2 => r = .none ∧ ∃ h' tk, s2 = { s with heap := h', toks := tk } ∧ h'.SetOf (mixKind prog w) s.heap.objs.size (fun q => inKs (ks.take items.size) q) items.size ∧
          (∀ b o, b < s.heap.objs.size → s.heap.get? b = some o → h'.get? b = some o)) E) PySem.F.called_set.init.plain PySem.F.entry_set_init (check_set_init_1 hT ?_)) fun r2 s2 hr2 => ?_
      · obtain ⟨⟨ocls, odict, odata, oslots⟩, hol, hcl, nl, hdl⟩ := hl
        simp only at hcl hdl
        subst hcl; subst hdl
        have hol' : (s.heap.push (newSet led)).get? l = some { cls := .type "list", dict := odict, data := .seq items nl, slots := oslots } := Heap.get?_push_of_some _ hol
        have noSet := PySem.F.sub_list_set
        have noFro := PySem.F.sub_list_frozenset
        have noDict : (Value.type "list" == Value.type "dict") = false := by decide
        have hl1 : (s.heap.push (newSet led)).IsList l items := ⟨_, hol', rfl, nl, rfl⟩
        unfold Builtin.«set.__init__» noKeywords Builtin.Frozenset.updateFrom
        generalize hPI : pyIter = PI
        wp_walk
        subst hPI
        refine wpAny_pyIter_list hl1 (wpAny_bind (wpAny_runValue ?_))
        have ltL : l < s.heap.objs.size := Heap.lt_size hol
        have calm3 : A.in1.in1.in1.handled = none := by simp [calm]
        have neI : l ≠ (s.heap.push (newSet led)).objs.size := by
          rw [Heap.size_push]; exact Nat.ne_of_lt (Nat.lt_succ_of_lt ltL)
        have away : s.heap.objs.size ∉ [(s.heap.push (newSet led)).objs.size, l] := by
          rw [Heap.size_push]
          simp only [List.mem_cons, List.mem_singleton, List.not_mem_nil, or_false, not_or]
          exact ⟨Nat.ne_of_lt (Nat.lt_succ_self _), Nat.ne_of_gt ltL⟩
        refine fill_keys ((Walks.list calm3 _ l neI items).toS) s.heap.objs.size away ks nd len room key (items.size - 0) 0 _ (by omega) (Nat.zero_le _) ⟨⟨_, Heap.get?_push_size _ rfl, rfl, rfl⟩, (hl1.push _)⟩ ?_ fun s' mv set => ?_
        · have here : ((s.heap.push (newSet led)).push { cls := .type "list_iterator", data := .fields #[.ref l, .int 0 0] }).get? s.heap.objs.size = some (newSet led) := Heap.get?_push_of_some _ hS
          exact ⟨_, #[], 0, _, here, ⟨rfl, rfl, rfl⟩, rfl, (fun e he => by simp at he), (fun q => by simp [inKs]), (by decide), (by rfl), rfl⟩
        · obtain ⟨h', g', d', tk', os'⟩ := s'
          obtain rfl : g' = s.gens := mv.gens
          obtain rfl : d' = s.drawn := mv.drawn
          obtain rfl : os' = s.os := mv.os
          show wpAny _ _ _ _ _ _
          refine wpAny_pure ?_
          show wpAny _ _ (ret Value.none) _ _ _
          refine wpAny_pure ⟨rfl, h', tk', rfl, set, fun b o hb e => ?_⟩
          refine mv.heap b o ?_ (Heap.get?_push_of_some _ (Heap.get?_push_of_some _ e))
          simp only [List.mem_cons, List.mem_singleton, List.not_mem_nil, or_false, not_or]
          exact ⟨Nat.ne_of_lt hb, by rw [Heap.size_push]; exact Nat.ne_of_lt (Nat.lt_succ_of_lt hb)⟩
      · cases r2 with
        | error e => exact hr2
        | ok f2 =>
          cases f2 with
          | ret r =>
            obtain ⟨rfl, h', tk, rfl, set, keep⟩ := hr2
            repeat (any_goals (first | assumption | wp_step))
            exact h _ _ set keep
          | _ => exact hr2.elim
    | _ => exact hr.elim
end
/-- len(set(a)), a a list of unlike keys -/
def tLenSetK (K : PySem.W.Frag) (ta : TE) : TE := fun s H Q => ta s H fun x H1 => ∃ (l : Addr) (ks : List Key), x = .ref l ∧ SqL K H1 l (ks.map kV) ∧ ks.Nodup ∧ ks.length ≤ 1000 ∧ Q (.int (ks.length : Nat)) H1
theorem pe_lenSetK {X : Cx} {a : Expr} {ta : TE} {p p2 q pos : Pos} (hg : Gl X "len") (hm : X.mg "len" = none) (hg2 : Gl X "set") (hm2 : X.mg "set" = none) (ha : PE X a ta) (hc : X.calm = true := by rfl)
    (na : starEach [a] X.env = (false, eval a X.env) :: starEach [] X.env := by rfl) : PE X (.Call (.Name "len" p) [.Call (.Name "set" p2) [a] [] q] [] pos) (tLenSetK X.K ta) := by
  refine ⟨fun pins s st H Q I h => ?_⟩
  refine Call_ (ld_blt I hg hm boot_len (callWith_builtin1 (args_cons ?_ rfl) rfl rfl))
  refine Call_ (ld_blt I hg2 hm2 boot_set (callWith_type1 (args_cons (thn (ha.run pins s st H _ I h) fun v s1 ⟨x, H1, I1, r1, q1⟩ => args_nil ?_) na) na rfl))
  obtain ⟨l, ks, rfl, hq, nd, hl, q1⟩ := q1
  cases r1
  obtain ⟨its, r, pl, hz⟩ := I1.list hq
  have len : its.toArray.size = ks.length := by rw [List.size_toArray, ← r.length, List.length_map]
  refine set_of_keys (I1.ok.hd hc) pl.isList nd len.symm (by rw [len]; unfold scanBound; omega) (fun i v hv => ?_) fun h' tk set keep => args_nil ?_
  · have hv' : its[i]? = some v := by simpa using hv
    have hi : i < ks.length := by
      have := (List.getElem?_eq_some_iff.mp hv').1
      rw [← r.length, List.length_map] at this
      exact this
    have hk : (ks.map kV)[i]? = some (kV ks[i]) := by simp [hi]
    obtain ⟨u, hu, ru⟩ := r.get hk
    rw [hv'] at hu
    cases hu
    exact ⟨ks[i], by simp [hi], kV_is (P := X.prog) (w := X.w) ru, key_scan ru⟩
  · rw [len] at set
    obtain ⟨o, es, ep, t, ho, hex, hd, _, _, _, hf, hn⟩ := set
    have I2 : Inv X pins st H1 { s1 with heap := h', toks := tk } := I1.kept fun b o e => keep b o (Heap.lt_size e) e
    exact call_len_set ho hex hd hf (by rw [hn]; omega) ⟨.int ks.length, H1, I2.tok _, ⟨_, by rw [hn]⟩, q1⟩
theorem DDs.keys {H : Hp} : ∀ {ks : List Key} {vs : List V}, DDs H vs (ks.map keyD) → vs = ks.map kV
  | [], _, .nil => rfl
  | .inl i :: ks, _, .cons h t => by
    cases h
    rw [List.map_cons, DDs.keys t]
    rfl
  | .inr i :: ks, _, .cons h t => by
    cases h
    rw [List.map_cons, DDs.keys t]
    rfl
theorem dv_lenSet {K : PySem.W.Frag} {s : L2.St} {G0 : Hp} {ta : TE} {ks : List Key} (h : EvD ta s G0 (.list (ks.map keyD))) (nd : ks.Nodup) (hl : ks.length ≤ 1000) : EvD (tLenSetK K ta) s G0 (.int (ks.length : Nat)) := fun G H e i Q k =>
  h G H e i _ fun v G2 H2 n2 hv => by
    obtain ⟨a, xs, rfl, ea, hx⟩ := hv.atLst
    cases hx.keys
    exact ⟨a, ks, rfl, SqL.of (n2.i _ _ ea), nd, hl, k _ G2 H2 n2 (.int _)⟩
section
variable {P : Program} {w : World} {K : PySem.W.Frag} {mg : Str → Option Value} {base : Heap}
abbrev RUnlike : List PyData → PyData → Prop := fun ds r => ∃ ks : List Key, ds = [.list (ks.map keyD)] ∧ ks.Nodup ∧ ks.length ≤ 1000 ∧ r = .bool true
theorem ok_are_unlike {f : Addr} {fd : FuncData} (F : Fun K "are_unlike" "are_unlike" s_are_unlike f fd) (T : Txt mg) : FnOk P w K mg base CX0 1 f fd ["things"] (SpR 1 RUnlike) := by
  refine okD F sc_are_unlike rfl fun cdv A outer s G H vs ds r Q E hr hR S i k => ?_
  obtain ⟨ks, rfl, nd, hl, rfl⟩ := hR
  refine ⟨_, (pss_one (ps_ret (pe_cmpR (r := rEqD K) (op_eqD hr.units) (pe_lenSetK (by rfl) T.b_len (by rfl) T.b_set (pv 0)) (pe_callB (r := rLenQ K) cr_len (by rfl) T.b_len bt_len (pa_cons (pv 0) pa_nil)) (nomark _)))), ?_⟩
  refine sd_ret i ?_ fun v G' H' n hv => k v G' H' n hv
  refine dv_is (dv_eqD (dv_lenSet (dv_var S) nd hl) (dv_len (dv_var S) rfl) (shaped_int _) (shaped_int _)) ?_
  rw [eqv_int]
  show PyData.bool (((ks.length : Nat) : Int) == (((ks.map keyD).length : Nat) : Int)) = _
  rw [List.length_map, beq_self_eq_true]
end
end K9

set_option Elab.async false
set_option linter.all false
set_option maxRecDepth 100000
set_option maxHeartbeats 4000000
/-! Built-ins that the hand layer lacks: max(tuple of ints), min(list of ints, default=None), dict(tuple of pairs). -/
namespace K9
open PySem PySem.Spec PyProof.Rows L2 Evl
theorem depth_ints : ∀ ns : List Int, PyData.depthAll (ns.map PyData.int) ≤ 1
  | [] => Nat.zero_le _
  | n :: ns => by
    show max (PyData.depth (.int n)) (PyData.depthAll (ns.map PyData.int)) ≤ 1
    exact Nat.max_le.mpr ⟨by simp [PyData.depth], depth_ints ns⟩
theorem noD_ints (ns : List Int) : noDics (ns.map PyData.int) = true := noDics_of fun d h => by
  obtain ⟨i, _, rfl⟩ := List.mem_map.mp h
  rfl
theorem alike_ints (ns : List Int) : PySem.W.AlikeAll (ns.map PyData.int) := by
  refine ⟨fun x hx y hy => ?_, fun x hx => ?_⟩
  · obtain ⟨i, _, rfl⟩ := List.mem_map.mp hx
    obtain ⟨j, _, rfl⟩ := List.mem_map.mp hy
    rfl
  · obtain ⟨i, _, rfl⟩ := List.mem_map.mp hx
    exact fun z => nomatch z
section
variable {X : Cx}
def rMaxT (K : PySem.W.Frag) : List V → Hp → VK → Prop := fun vs H Q => ∃ (a : Addr) (n : Int) (ns : List Int), vs = [V.ref a] ∧ SqT K H a ((n :: ns).map V.int) ∧ Q (.int (ns.foldl max n)) H
theorem cr_maxT (hc : X.calm = true) (hu : X.A.units + 65 < cLine) : CallR X (.builtin "max") (rMaxT X.K) := by
  intro pins s σ H vs us Q I r h
  obtain ⟨a, n, ns, rfl, hs, q⟩ := h
  obtain ⟨its, rv, hl, _⟩ := I.tuple hs
  rw [Vals.ref1 r]
  obtain ⟨as, hr⟩ := Dp.readsAll I ((n :: ns).map PyData.int) _ its (DDs.dp (H := H) _ _ (noD_ints (n :: ns)) (DDs.ofInts (n :: ns))) rv
  have hd := depth_ints (n :: ns)
  have ha := alike_ints (n :: ns)
  rw [List.map_cons] at hr hd ha
  obtain ⟨o, ho, hcl, m, hdat⟩ := hl
  refine PySem.W.max_tuple_data (x := .int n) (xs := ns.map PyData.int) (I.ok.hd hc) ⟨o, ho, hcl, m, hdat⟩ hr ha (by omega) fun i v h' tk bs hv rd hk => ?_
  rw [PySem.W.maxD_ints] at rd
  obtain ⟨t, rfl, _⟩ := reads_int_inv rd
  exact ⟨.int _, H, I.kept hk, ⟨t, rfl⟩, q⟩
/-- min(xs, default=None) of a list of ints -/
def minO : List Int → PyData
  | [] => .none
  | n :: ns => .int (ns.foldl min n)
def minV : List Int → V
  | [] => .non
  | n :: ns => .int (ns.foldl min n)
def rMinD (K : PySem.W.Frag) : List V → List V → Hp → VK → Prop := fun vs zs H Q => ∃ (a : Addr) (ns : List Int), vs = [V.ref a] ∧ zs = [.non] ∧ SqL K H a (ns.map V.int) ∧ Q (minV ns) H
theorem cr_minD (hc : X.calm = true) (hu : X.A.units + 65 < cLine) : CallRK X (.builtin "min") ["default"] (rMinD X.K) := by
  intro pins s σ H vs zs us ws Q I r rz h
  obtain ⟨a, ns, rfl, rfl, hs, q⟩ := h
  obtain ⟨its, rv, hl, _⟩ := I.list hs
  rw [Vals.ref1 r]
  obtain ⟨d, rfl, rd⟩ := vals1 rz
  cases (show d = Value.none from rd)
  obtain ⟨as, hr⟩ := Dp.readsAll I (ns.map PyData.int) _ its (DDs.dp (H := H) _ _ (noD_ints ns) (DDs.ofInts ns)) rv
  have hd := depth_ints ns
  show wpAny _ _ (call (.builtin "min") [.ref a] [(Str.ofString "default", .none)]) _ _ _
  refine PySem.W.min_list_default (xs := ns.map PyData.int) (I.ok.hd hc) hl.isList hr (alike_ints ns) (by omega) (fun e h' tk hk => ?_) fun y ys i v h' tk bs e hv rd hk => ?_
  · cases ns with
    | nil => exact ⟨.non, H, I.kept hk, rfl, q⟩
    | cons n ns => cases e
  · cases ns with
    | nil => cases e
    | cons n ns =>
      rw [List.map_cons] at e
      injection e with e1 e2
      subst e1 e2
      rw [PySem.W.minD_ints] at rd
      obtain ⟨t, rfl, _⟩ := reads_int_inv rd
      exact ⟨.int _, H, I.kept hk, ⟨t, rfl⟩, q⟩
/-- dict(xs) of a known tuple of pairs -/
def rDictT (K : PySem.W.Frag) : List V → Hp → VK → Prop := fun xs H Q => ∃ (a : Addr) (ps : List Addr) (kvs : List (Key × V)), xs = [.ref a] ∧ PT H a (ps.map V.ref) ∧ Paired (fun p kv => SqT K H p [kV kv.1, kv.2]) ps kvs ∧
    ∀ p, H p = none → Q (.ref p) (upd H p (.dK (mergeK [] kvs)))
theorem cr_dictT (hcalm : X.calm = true) : CallR X (.type "dict") (rDictT X.K) := by
  intro pins s σ H xs us Q I r q
  obtain ⟨a, ps, kvs, ex, ⟨o, hod, hq⟩, hp, q⟩ := q
  subst ex
  rw [Vals.ref1 r]
  obtain ⟨ho, hz, its, rv, o2, ho2, hcl, n, hdat⟩ := (show ObjOk X.prog X.w H s.heap a (.frz o (.tup (ps.map V.ref))) from I.hok a _ hq)
  rw [ho] at ho2
  cases ho2
  have ei := refs_at rv
  subst ei
  rw [List.length_map] at hz
  obtain ⟨prs, rel, hl, hpr⟩ := pairs_of I hp
  have hkey : ∀ (j : Nat) (q' : Key × Value), prs[j]? = some q' → ∃ u, PairAt s.heap (ps.getD j 0) u q'.2 ∧ keyIs q'.1 u = true ∧ ps[j]? = some (ps.getD j 0) := fun j q' e => by
    obtain ⟨b, u, e1, e2, e3⟩ := hpr j q' e
    have : ps.getD j 0 = b := by rw [List.getD_eq_getElem?_getD, e1] <;> rfl
    rw [this]
    exact ⟨u, .inl e2, e3, e1⟩
  -- the pairs as they stand
  obtain ⟨qs, hqs, hqk⟩ : ∃ qs : List (Value × Value), qs.length = prs.length ∧ ∀ (j : Nat) (k v : Value), qs[j]? = some (k, v) → ∃ q', prs[j]? = some q' ∧ v = q'.2 ∧ keyIs q'.1 k = true ∧ PairAt s.heap (ps.getD j 0) k v := by
    refine ⟨List.ofFn fun i : Fin prs.length => (Classical.choose (hkey i.1 prs[i.1] (List.getElem?_eq_getElem i.2)), prs[i.1].2), by rw [List.length_ofFn], fun j k v e => ?_⟩
    obtain ⟨hj, e⟩ := List.getElem?_eq_some_iff.mp e
    rw [List.getElem_ofFn] at e
    have hj2 : j < prs.length := by rw [List.length_ofFn] at hj; exact hj
    have c := Classical.choose_spec (hkey j prs[j] (List.getElem?_eq_getElem hj2))
    injection e with e1 e2
    refine ⟨prs[j], List.getElem?_eq_getElem hj2, e2.symm, ?_, ?_⟩
    · rw [← e1]; exact c.2.1
    · rw [← e1, ← e2]; exact c.1
  refine call_dict_pairs (knd := mixKind X.prog X.w) (kvs := prs) (PairArg.tuple a (ps.map Value.ref).toArray (fun j => ps.getD j 0) qs) (I.ok.hd hcalm) ⟨⟨o, n, ho, hcl, hod, hdat⟩, by rw [List.size_toArray, List.length_map, hqs, hl], fun j k v e => ?_⟩ ⟨hqs.symm, fun i key v e => ?_⟩ (by rw [hqs, hl]; exact hz) fun h' tk hd' k => ?_
  · obtain ⟨q', e1, _, _, e4⟩ := hqk j k v e
    obtain ⟨u, _, _, e5⟩ := hkey j q' e1
    refine ⟨?_, e4⟩
    rw [List.getElem?_toArray, List.getElem?_map, e5] <;> rfl
  · obtain ⟨q', e1, e2, e3, _⟩ := hqk i key v e
    exact ⟨q'.1, by rw [e1, e2], e3⟩
  · have hm : (s.heap.objs.size == sysModules) = false := beq_eq_false_iff_ne.mpr (Nat.ne_of_gt I.big)
    have hlen : (mergeK [] kvs).length ≤ sizeLine := by
      refine Nat.le_trans (length_mergeK kvs []) ?_
      rw [List.length_nil, Nat.zero_add, rel.length, hl]
      exact hz
    exact ⟨.ref s.heap.objs.size, upd H s.heap.objs.size (.dK (mergeK [] kvs)), I.laid (t' := tk) (fun b u e => k b u (fun z => nomatch z) e) (Nat.le_refl _) (show ObjOk X.prog X.w _ _ _ (.dK (mergeK [] kvs)) from ⟨hlen, hm, merged [] prs, KV.merge rel .nil, hd'⟩), rfl, q _ (I.hok.fresh (Nat.le_refl _))⟩
end
section
variable {K : PySem.W.Frag} {s : L2.St} {G0 : Hp} {ta : TE}
theorem dv_maxT {n : Int} {ns : List Int} (h : EvD ta s G0 (.tuple ((n :: ns).map PyData.int))) : EvD (tCB (rMaxT K) (tCons ta tNil)) s G0 (.int (ns.foldl max n)) :=
  dv_cb (ds_cons h ds_nil) fun G H vs _ w hv Q k => by
    obtain ⟨v, rfl, hw⟩ := hv.inv1
    obtain ⟨a, xs, rfl, ea, hx⟩ := hw.atTup
    cases hx.ints
    exact ⟨a, n, ns, rfl, (ea.up w).sq, k _ G H (Nx.refl w) (.int _)⟩
def rDictP (K : PySem.W.Frag) : List V → Hp → VK → Prop := fun xs H Q => ∃ (a : Addr) (ps : List Addr) (kvs : List (Key × V)), xs = [.ref a] ∧ SqL K H a (ps.map V.ref) ∧ Paired (fun p kv => SqT K H p [kV kv.1, kv.2]) ps kvs ∧
    ∀ p, H p = none → Q (.ref p) (upd H p (.dK (mergeK [] kvs)))
theorem cr_dictP {X : Cx} (hc : X.calm = true) : CallR X (.type "dict") (rDictP X.K) := call_dictP hc
/-- at most one pair of a key and an atom -/
theorem pairs_D {G H : Hp} (w : Ex G H) {xs : List V} {kds : List (Key × PyData)} (h : DDs G xs (kds.map fun p => .tuple [keyD p.1, p.2])) (hl : kds.length ≤ 1) (ha : ∀ p ∈ kds, isAtomD p.2 = true) :
    ∃ (ps : List Addr) (kvs : List (Key × V)), xs = ps.map V.ref ∧ Paired (fun p kv => SqT K H p [kV kv.1, kv.2]) ps kvs ∧ mergeK [] kvs = kvs ∧ (kds.map fun p => (keyD p.1, p.2)) = kvs.map (fun p => (keyD p.1, atomD p.2)) ∧ (kvs.all fun p => isAtom p.2) = true := by
  match kds, hl with
  | [], _ =>
    cases h
    exact ⟨[], [], rfl, .nil, rfl, rfl, rfl⟩
  | [(k, d)], _ =>
    obtain ⟨v, rfl, hv⟩ := DDs.inv1 h
    obtain ⟨a, ys, rfl, ea, hy⟩ := hv.atTup
    obtain ⟨x, y, rfl, hx, hyd⟩ := hy.inv2
    cases hx.key
    obtain ⟨h1, h2⟩ := hyd.atom (ha (k, d) List.mem_cons_self)
    refine ⟨[a], [(k, y)], rfl, .cons (ea.up w).sq .nil, rfl, ?_, ?_⟩
    · show [(keyD k, d)] = [(keyD k, atomD y)]
      rw [h2]
    · show (isAtom y && true) = true
      rw [h1]
      rfl
  | _ :: _ :: _, h => simp at h
theorem dv_dictL {kds : List (Key × PyData)} (h : EvD ta s G0 (.list (kds.map fun p => .tuple [keyD p.1, p.2]))) (hl : kds.length ≤ 1) (ha : ∀ p ∈ kds, isAtomD p.2 = true) : EvD (tCB (rDictP K) (tCons ta tNil)) s G0 (dctD kds) :=
  dv_cb (ds_cons h ds_nil) fun G H vs _ w hv Q k => by
    obtain ⟨v, rfl, hw⟩ := hv.inv1
    obtain ⟨a, xs, rfl, ea, hx⟩ := hw.atLst
    obtain ⟨ps, kvs, rfl, hp, hm, e1, e2⟩ := pairs_D (K := K) w hx hl ha
    refine ⟨a, ps, kvs, rfl, SqL.of (w _ _ ea), hp, fun p np => ?_⟩
    rw [hm]
    exact k _ _ _ (Nx.new w np) (.dct upd_same e1 e2)
theorem dv_dictT {kds : List (Key × PyData)} (h : EvD ta s G0 (.tuple (kds.map fun p => .tuple [keyD p.1, p.2]))) (hg : gdsLike (kds.map fun p => .tuple [keyD p.1, p.2]) = true) (hl : kds.length ≤ 1) (ha : ∀ p ∈ kds, isAtomD p.2 = true) : EvD (tCB (rDictT K) (tCons ta tNil)) s G0 (dctD kds) :=
  dv_cb (ds_cons h ds_nil) fun G H vs _ w hv Q k => by
    obtain ⟨v, rfl, hw⟩ := hv.inv1
    cases hw with
    | tup _ hp hx =>
      have hp := (hp hg).up w
      obtain ⟨ps, kvs, rfl, hpp, hm, e1, e2⟩ := pairs_D (K := K) w hx hl ha
      refine ⟨_, ps, kvs, rfl, hp, hpp, fun p np => ?_⟩
      rw [hm]
      exact k _ _ _ (Nx.new w np) (.dct upd_same e1 e2)
theorem minV_D (ns : List Int) (H : Hp) : DD H (minV ns) (minO ns) := by
  cases ns with
  | nil => exact .non
  | cons n ns => exact .int _
theorem dv_minD {ns : List Int} (h : EvD ta s G0 (.list (ns.map PyData.int))) : EvD (tCKw (rMinD K) (tCons ta tNil) (tCons (tC .non) tNil)) s G0 (minO ns) := fun G H e i Q k =>
  h G H e i _ fun v G2 H2 n2 hv => by
    obtain ⟨a, xs, rfl, ea, hx⟩ := hv.atLst
    cases hx.ints
    exact ⟨a, ns, rfl, rfl, SqL.of (n2.i _ _ ea), k _ G2 H2 n2 (minV_D ns G2)⟩
end
end K9

set_option Elab.async false
set_option linter.all false
set_option maxRecDepth 100000
set_option maxHeartbeats 4000000
/-! Books of this law: what stands in them, and that nothing is wrong in the good ones. -/
namespace K9
open PySem PySem.Spec PyProof.Rows L2 Evl
structure Tk where
  nm : Str
  len : Int
  mach : Str
  needs : Bool
  first : Int
  due : Option Int
  wt : Int
def dueD : Option Int → PyData
  | none => .none
  | some i => .int i
def handD : Str := "hand"
def needsD (b : Bool) : List (Key × PyData) := if b then [(.inr "hand", .int 1)] else []
def goodsD (b : Bool) : List (Key × PyData) := if b then [(.inr "hand", .int 2)] else []
def pairD (p : Key × PyData) : PyData := .tuple [keyD p.1, p.2]
def Tk.d (t : Tk) : PyData := .tuple [.str t.nm, .int t.len, .str t.mach, .tuple ((needsD t.needs).map pairD), .int t.first, dueD t.due, .int t.wt]
structure Bk where
  ms : List Str
  hand : Bool
  ts : List Tk
  wait : Option (Nat × Nat)
  fixed : Option (Nat × Int)
def Bk.waits (b : Bk) : List (Nat × Nat) := b.wait.toList
def Bk.fixs (b : Bk) : List (Nat × Int) := b.fixed.toList
def waitD (p : Nat × Nat) : PyData := .tuple [.int (p.1 : Nat), .int (p.2 : Nat), .int 0]
def fixD (p : Nat × Int) : PyData := .tuple [.int (p.1 : Nat), .int p.2]
def Bk.d (b : Bk) : PyData := .tuple [.tuple (b.ms.map .str), .tuple ((goodsD b.hand).map pairD), .tuple (b.ts.map Tk.d), .tuple (b.waits.map waitD), .tuple (b.fixs.map fixD)]
/-- what the law's books all keep, where they have a book's form -/
structure Good (b : Bk) : Prop where
  ms : b.ms.Nodup
  ml : b.ms.length ≤ 6
  nd : (b.ts.map Tk.nm).Nodup
  ne : b.ts ≠ []
  tl : b.ts.length ≤ 5
  mach : ∀ t ∈ b.ts, t.mach = "" ∨ t.mach ∈ b.ms
  need : ∀ t ∈ b.ts, t.needs = true → b.hand = true
  wait : ∀ p, b.wait = some p → p.1 < b.ts.length ∧ p.2 < b.ts.length ∧ p.1 ≠ p.2
  fixed : ∀ p, b.fixed = some p → ∃ t, b.ts[p.1]? = some t ∧ t.first ≤ p.2
  form : hasForm b.d = true
  fine : Fine b.d
theorem fine_task {b : Bk} (h : Good b) (t : Tk) (ht : t ∈ b.ts) : Fine t.d := by
  have h1 := h.fine.tup.2 (.tuple (b.ts.map Tk.d)) (by simp)
  exact h1.tup.2 _ (List.mem_map_of_mem ht)
theorem fine_mach {b : Bk} (h : Good b) (t : Tk) (ht : t ∈ b.ts) : Fine (.str t.mach) := (fine_task h t ht).tup.2 _ (by simp)
section
variable {P : Program} {w : World} {K : PySem.W.Frag} {mg : Str → Option Value} {base : Heap}
abbrev RAllUnlike : List PyData → PyData → Prop := fun ds r => ∃ b : Bk, ds = [b.d] ∧ Good b ∧ r = .bool true
theorem strs_keys (xs : List Str) : xs.map PyData.str = (xs.map Sum.inr).map keyD := by rw [List.map_map]; rfl
theorem nodup_inr {xs : List Str} (h : xs.Nodup) : (xs.map (Sum.inr : Str → Key)).Nodup := h.map (f := Sum.inr) fun a b hab e => hab (Sum.inr.inj e)
theorem ok_are_all_unlike {f : Addr} {fd : FuncData} (F : Fun K "are_all_unlike" "are_all_unlike" s_are_all_unlike f fd) (T : Txt mg) (C_are_unlike : Cal P w K mg base 1 "are_unlike" (SpR 1 RUnlike)) : FnOk P w K mg base CX0 2 f fd ["book"] (SpR 1 RAllUnlike) := by
  refine okD F sc_are_all_unlike rfl fun cdv A outer s G H vs ds r Q E hr hR S i k => ?_
  obtain ⟨b, rfl, hb, rfl⟩ := hR
  refine ⟨_, (pss_cons (ps_asg (pv 0) (pg_tup rfl (pgs_cons (pg_name (i := 1) sc_are_all_unlike.nd rfl (Or.inl rfl)) (pgs_cons (pg_name (i := 2) sc_are_all_unlike.nd rfl (Or.inl rfl)) (pgs_cons (pg_name (i := 3) sc_are_all_unlike.nd rfl (Or.inl rfl)) (pgs_cons (pg_name (i := 4) sc_are_all_unlike.nd rfl (Or.inl rfl)) (pgs_cons (pg_name (i := 5) sc_are_all_unlike.nd rfl (Or.inl rfl)) pgs_nil)))))))
      (pss_cons (ps_if (PW.pt (pw_or (pt_not (pt_val (pe_c C_are_unlike hr (by decide) (by rfl) (pa_cons (pe_callTy (r := rListQ K) cr_list (by rfl) T.b_list bt_list (pa_cons (pv 1) pa_nil)) pa_nil)))) (pw_or1 (pt_not (pt_val (pe_c C_are_unlike hr (by decide) (by rfl) (pa_cons (pe_lc (own := [("name", 7), ("many", 8)]) (g := (gTup K 2 (gCons (gName 7) (gCons (gName 8) gNil)))) rfl sc_are_all_unlike.nd (pi_tup (pv 2)) (blkOk_by (N := ["book", "machines", "goods", "tasks", "waits", "fixed", "task", "name", "many", "number", "begin", "good"]) (sc := defScope s_are_all_unlike) (by decide +kernel)) (fun _ _ _ _ _ => (pg_tup rfl (pgs_cons (pg_name (i := 7) sc_are_all_unlike.nd rfl (Or.inl rfl)) (pgs_cons (pg_name (i := 8) sc_are_all_unlike.nd rfl (Or.inl rfl)) pgs_nil)))) (fun _ _ _ _ _ => pts_nil) (fun _ _ _ _ _ => (pv 7))) pa_nil))))))) (pss_one (ps_ret pe_bl)) pss_nil)
      (pss_cons (ps_if (PW.pt (pw_or (pt_not (pt_val (pe_c C_are_unlike hr (by decide) (by rfl) (pa_cons (pe_lc (own := [("task", 6)]) (g := (gName 6)) rfl sc_are_all_unlike.nd (pi_tup (pv 3)) (blkOk_by (N := ["book", "machines", "goods", "tasks", "waits", "fixed", "task", "name", "many", "number", "begin", "good"]) (sc := defScope s_are_all_unlike) (by decide +kernel)) (fun _ _ _ _ _ => (pg_name (i := 6) sc_are_all_unlike.nd rfl (Or.inl rfl))) (fun _ _ _ _ _ => pts_nil) (fun _ _ _ _ _ => (pe_ix (r := rIxT K) ix_tup (pv 6) pe_int (fun _ _ => rfl)))) pa_nil)))) (pw_or1 (pt_not (pt_val (pe_c C_are_unlike hr (by decide) (by rfl) (pa_cons (pe_lc (own := [("number", 9), ("begin", 10)]) (g := (gTup K 2 (gCons (gName 9) (gCons (gName 10) gNil)))) rfl sc_are_all_unlike.nd (pi_tup (pv 5)) (blkOk_by (N := ["book", "machines", "goods", "tasks", "waits", "fixed", "task", "name", "many", "number", "begin", "good"]) (sc := defScope s_are_all_unlike) (by decide +kernel)) (fun _ _ _ _ _ => (pg_tup rfl (pgs_cons (pg_name (i := 9) sc_are_all_unlike.nd rfl (Or.inl rfl)) (pgs_cons (pg_name (i := 10) sc_are_all_unlike.nd rfl (Or.inl rfl)) pgs_nil)))) (fun _ _ _ _ _ => pts_nil) (fun _ _ _ _ _ => (pv 9))) pa_nil))))))) (pss_one (ps_ret pe_bl)) pss_nil)
      (pss_one (ps_ret (pe_callB (r := rAll K) (cr_all rfl) (by rfl) T.b_all bt_all (pa_cons (pe_lc (own := [("task", 6)]) (g := (gName 6)) rfl sc_are_all_unlike.nd (pi_tup (pv 3)) (blkOk_by (N := ["book", "machines", "goods", "tasks", "waits", "fixed", "task", "name", "many", "number", "begin", "good"]) (sc := defScope s_are_all_unlike) (by decide +kernel)) (fun _ _ _ _ _ => (pg_name (i := 6) sc_are_all_unlike.nd rfl (Or.inl rfl))) (fun _ _ _ _ _ => pts_nil) (fun _ _ _ _ _ => (pe_c C_are_unlike hr (by decide) (by rfl) (pa_cons (pe_lc (wi := iTup K _) (own := [("good", 11), ("many", 8)]) (g := (gTup K 2 (gCons (gName 11) (gCons (gName 8) gNil)))) rfl sc_are_all_unlike.nd (pi_tup (pe_ix (r := rIxT K) ix_tup (pv 6) pe_int (fun _ _ => rfl))) (blkOk_by (N := ["book", "machines", "goods", "tasks", "waits", "fixed", "task", "name", "many", "number", "begin", "good"]) (sc := _) (by kernel_rfl)) (fun _ _ _ _ _ => (pg_tup rfl (pgs_cons (pg_name (i := 11) sc_are_all_unlike.nd rfl (Or.inl rfl)) (pgs_cons (pg_name (i := 8) sc_are_all_unlike.nd rfl (Or.inl rfl)) pgs_nil)))) (fun _ _ _ _ _ => pts_nil) (fun _ _ _ _ _ => (pv 11))) pa_nil)))) pa_nil))))))), ?_⟩
  refine sq_asg S i (dv_var S) (tg_tup (tgs_cons tg_name (tgs_cons tg_name (tgs_cons tg_name (tgs_cons tg_name (tgs_cons tg_name tgs_nil)))))) fun s1 G1 H1 S1 n1 => ?_
  have un : ∀ {ta : TE} {s : L2.St} {G0 : Hp} (ks : List Key), EvD ta s G0 (.list (ks.map keyD)) → ks.Nodup → ks.length ≤ 1000 → EvD (tCall (SpR 1 RUnlike) [] E0 (tCons ta tNil)) s G0 (.bool true) := fun ks h nd hl => dv_call (ds_cons h ds_nil) ⟨ks, rfl, nd, hl, rfl⟩
  have tl := hb.tl
  refine sq_when (b := false) n1.i (et_or (a := false) (b := false) (et_not (a := true) (tt_B (un (b.ms.map Sum.inr) (dv_is (dv_list (dv_var S1) rfl) ?_) (nodup_inr hb.ms) (by have := hb.ml; rw [List.length_map]; omega)))) fun _ => et_not (a := true) (tt_B (un ((goodsD b.hand).map Prod.fst) (dv_is (dv_lc1 (js := [7, 8]) (fun d => [some b.d, some (.tuple (b.ms.map .str)), some (.tuple ((goodsD b.hand).map pairD)), some (.tuple (b.ts.map Tk.d)), some (.tuple (b.waits.map waitD)), some (.tuple (b.fixs.map fixD)), none, (kids d)[0]?, (kids d)[1]?, none, none, none]) (fun d => ((kids d)[0]?).getD .none) (ei_tup (dv_var S1)) S1 ?_ (fun d hm => ?_) (by decide) fun d hm s2 G2 e2 S2 => ?_) ?_) ?_ ?_))) (fun hb => nomatch hb) fun _ H2 n2 => ?_
  · show PyData.list (b.ms.map .str) = _
    rw [strs_keys]
  · unfold goodsD; cases b.hand <;> decide
  · obtain ⟨p, _, rfl⟩ := List.mem_map.mp hm
    exact tg_tup (tgs_cons tg_name (tgs_cons tg_name tgs_nil))
  · obtain ⟨p, _, rfl⟩ := List.mem_map.mp hm
    exact dv_var S2
  · unfold goodsD; cases b.hand <;> rfl
  · unfold goodsD; cases b.hand <;> decide
  · unfold goodsD; cases b.hand <;> decide
  refine sq_when (b := false) n2.i (et_or (a := false) (b := false) (et_not (a := true) (tt_B (un ((b.ts.map Tk.nm).map Sum.inr) (dv_is (dv_lc1 (js := [6]) (fun d => [some b.d, some (.tuple (b.ms.map .str)), some (.tuple ((goodsD b.hand).map pairD)), some (.tuple (b.ts.map Tk.d)), some (.tuple (b.waits.map waitD)), some (.tuple (b.fixs.map fixD)), some d, none, none, none, none, none]) (fun d => ((kids d)[0]?).getD .none) (ei_tup (dv_var S1)) S1 ?_ (fun d hm => tg_name) (by decide) fun d hm s2 G2 e2 S2 => ?_) ?_) (nodup_inr hb.nd) ?_))) fun _ => et_not (a := true) (tt_B (un (b.fixs.map fun p => .inl (p.1 : Nat)) (dv_is (dv_lc1 (js := [9, 10]) (fun d => [some b.d, some (.tuple (b.ms.map .str)), some (.tuple ((goodsD b.hand).map pairD)), some (.tuple (b.ts.map Tk.d)), some (.tuple (b.waits.map waitD)), some (.tuple (b.fixs.map fixD)), none, none, none, (kids d)[0]?, (kids d)[1]?, none]) (fun d => ((kids d)[0]?).getD .none) (ei_tup (dv_var S1)) S1 ?_ (fun d hm => ?_) (by decide) fun d hm s2 G2 e2 S2 => ?_) ?_) ?_ ?_))) (fun hb => nomatch hb) fun _ H3 n3 => ?_
  · rw [List.length_map]; omega
  · obtain ⟨t, _, rfl⟩ := List.mem_map.mp hm
    exact dv_ixT (dv_var S2) dv_int (atI_nat (j := 0) rfl)
  · rw [List.map_map, List.map_map, List.map_map]
    rfl
  · rw [List.length_map, List.length_map]; omega
  · unfold Bk.fixs; cases b.fixed <;> simp
  · obtain ⟨p, _, rfl⟩ := List.mem_map.mp hm
    exact tg_tup (tgs_cons tg_name (tgs_cons tg_name tgs_nil))
  · obtain ⟨p, _, rfl⟩ := List.mem_map.mp hm
    exact dv_var S2
  · unfold Bk.fixs; cases b.fixed <;> rfl
  · unfold Bk.fixs; cases b.fixed <;> simp
  · unfold Bk.fixs; cases b.fixed <;> simp
  refine sd_ret n3.i (dv_is (dv_allLc (js := [6]) (fun d => [some b.d, some (.tuple (b.ms.map .str)), some (.tuple ((goodsD b.hand).map pairD)), some (.tuple (b.ts.map Tk.d)), some (.tuple (b.waits.map waitD)), some (.tuple (b.fixs.map fixD)), some d, none, none, none, none, none]) (fun _ => true) (ei_tup (dv_var S1)) S1 ?_ (fun d hm => tg_name) (by decide) fun d hm s2 G2 e2 S2 => ?_) ?_) fun v G4 H4 n4 hv => k v G4 H4 (((n1.trans n2).trans n3).trans n4) hv
  · rw [List.length_map]; omega
  · obtain ⟨t, _, rfl⟩ := List.mem_map.mp hm
    refine un ((needsD t.needs).map Prod.fst) (dv_is (dv_lc1 (js := [11, 8]) (fun d => [some b.d, some (.tuple (b.ms.map .str)), some (.tuple ((goodsD b.hand).map pairD)), some (.tuple (b.ts.map Tk.d)), some (.tuple (b.waits.map waitD)), some (.tuple (b.fixs.map fixD)), some t.d, none, (kids d)[1]?, none, none, (kids d)[0]?]) (fun d => ((kids d)[0]?).getD .none) (ei_tup (dv_ixT (dv_var S2) dv_int (atI_nat (j := 3) rfl))) S2 ?_ (fun d hm => ?_) (by decide) fun d hm s3 G3 e3 S3 => ?_) ?_) ?_ ?_
    · unfold needsD; cases t.needs <;> decide
    · obtain ⟨p, _, rfl⟩ := List.mem_map.mp hm
      exact tg_tup (tgs_cons tg_name (tgs_cons tg_name tgs_nil))
    · obtain ⟨p, _, rfl⟩ := List.mem_map.mp hm
      exact dv_var S3
    · unfold needsD; cases t.needs <;> rfl
    · unfold needsD; cases t.needs <;> decide
    · unfold needsD; cases t.needs <;> decide
  · rw [List.all_eq_true.mpr fun _ _ => rfl]
/-! in a row of flat things -/
theorem inV_str (x : Str) (ms : List Str) : inV (.str x) (ms.map V.str) = decide (x ∈ ms) := by
  unfold inV
  rw [List.any_map]
  have e : (ms.any ((fun y => eqV y (.str x)) ∘ V.str)) = ms.any (fun y => y == x) := rfl
  rw [e, Bool.eq_iff_iff, List.any_eq_true, decide_eq_true_eq]
  exact ⟨fun ⟨y, hy, e⟩ => by rw [beq_iff_eq] at e; exact e ▸ hy, fun h => ⟨x, h, beq_self_eq_true _⟩⟩
theorem inV_int (x : Int) (ms : List Int) : inV (.int x) (ms.map V.int) = decide (x ∈ ms) := by
  unfold inV
  rw [List.any_map]
  have e : (ms.any ((fun y => eqV y (.int x)) ∘ V.int)) = ms.any (fun y => y == x) := rfl
  rw [e, Bool.eq_iff_iff, List.any_eq_true, decide_eq_true_eq]
  exact ⟨fun ⟨y, hy, e⟩ => by rw [beq_iff_eq] at e; exact e ▸ hy, fun h => ⟨x, h, beq_self_eq_true _⟩⟩
theorem all_flat_str (ms : List Str) : (ms.map V.str).all flatV = true := by rw [List.all_map]; exact List.all_eq_true.mpr fun _ _ => rfl
theorem all_flat_int (ms : List Int) : (ms.map V.int).all flatV = true := by rw [List.all_map]; exact List.all_eq_true.mpr fun _ _ => rfl
theorem dv_niT {s : L2.St} {G0 : Hp} {ta tb : TE} {x : Str} {ms : List Str} (ha : EvD ta s G0 (.str x)) (hb : EvD tb s G0 (.tuple (ms.map .str))) : EvD (tOp (rIn K true) ta tb) s G0 (.bool (!decide (x ∈ ms))) :=
  dv_op ha hb fun G H _ _ _ w h1 h2 _ k => by
    obtain ⟨a, xs, rfl, ea, hx⟩ := h2.atTup
    cases hx.strs
    cases h1.eqStr
    refine ⟨a, _, rfl, .inr (ea.up w).sq, rfl, all_flat_str _, ?_⟩
    rw [inV_str]
    exact k _ G H (Nx.refl w) (.bl _)
theorem dv_inL {s : L2.St} {G0 : Hp} {ta tb : TE} {x : Int} {ms : List Int} (neg : Bool) (ha : EvD ta s G0 (.int x)) (hb : EvD tb s G0 (.list (ms.map .int))) : EvD (tOp (rIn K neg) ta tb) s G0 (.bool (if neg then !decide (x ∈ ms) else decide (x ∈ ms))) :=
  dv_op ha hb fun G H _ _ _ w h1 h2 _ k => by
    obtain ⟨a, xs, rfl, ea, hx⟩ := h2.atLst
    cases hx.ints
    cases h1.eqInt
    refine ⟨a, _, rfl, .inl (SqL.of (w _ _ ea)), rfl, all_flat_int _, ?_⟩
    rw [inV_int]
    exact k _ G H (Nx.refl w) (.bl _)
theorem dv_listRg {s : L2.St} {G0 : Hp} {ta : TE} {n : Nat} (ha : EvD ta s G0 (.int (n : Nat))) (hn : n ≤ 1000000) : EvD (tLstRg (tRg1 ta)) s G0 (.list (intsD 0 n)) := fun G H e i Q k =>
  ha G H e i _ fun v G2 H2 n2 hv => by
    cases hv.eqInt
    refine ⟨_, rfl, RgOk.of_le (Int.le_refl _) (by omega) (by decide) (by omega), fun p np => k _ _ _ (n2.trans (Nx.new n2.i np)) (.lst upd_same ?_)⟩
    have e1 : rgV 0 (n : Nat) = ((List.range n).map fun i => (0 : Int) + (i : Nat)).map V.int := by
      unfold rgV
      rw [List.map_map, show (((n : Nat) : Int) - 0).toNat = n by omega]
      rfl
    have e2 : intsD 0 n = ((List.range n).map fun i => (0 : Int) + (i : Nat)).map PyData.int := by
      unfold intsD
      rw [List.map_map]
      rfl
    rw [e1, e2]
    exact DDs.ofInts _
theorem shN_ints (ns : List Int) : shN (.list (ns.map PyData.int)) = true := by
  unfold shN SeqAt.shaped
  have h1 : PyData.canLay0 (.list (ns.map PyData.int)) = true := by
    simp only [PyData.canLay0]
    refine canAll_of fun x hx => ?_
    obtain ⟨i, _, rfl⟩ := List.mem_map.mp hx
    simp only [PyData.canLay0]
  have h2 : (PyData.list (ns.map PyData.int)).depth ≤ 64 := by
    have := depth_ints ns
    simp only [PyData.depth]
    omega
  rw [h1, decide_eq_true h2]
  exact noDics_of fun d h => by
    obtain ⟨i, _, rfl⟩ := List.mem_map.mp h
    rfl
theorem eqv_nil (xs : List PyData) : PyData.eqv (.list xs) (.list []) = xs.isEmpty := by
  cases xs <;> simp [PyData.eqv, PyData.eqvAll]
/-- while -/
theorem sd_while {α : Type} {c : TT} {tb : TS} {D : Ends} {s : L2.St} {G0 H : Hp} (qs : α → Sd) (mu : α → Nat) (cb : α → Bool) (a0 : α) (S : SD G0 s (qs a0)) (w : Ex G0 H)
    (hc : ∀ a s' G', Ex G0 G' → SD G' s' (qs a) → EvT c s' G' (cb a))
    (hb : ∀ a s' G' H', cb a = true → SD G' s' (qs a) → Nx G0 H G' H' → tb { D with nx := fun s2 H2 => ∃ a' G2, mu a' < mu a ∧ SD G2 s2 (qs a') ∧ Nx G0 H G2 H2, ct := fun s2 H2 => ∃ a' G2, mu a' < mu a ∧ SD G2 s2 (qs a') ∧ Nx G0 H G2 H2, bk := D.nx } s' H')
    (hd : ∀ a s' G' H', cb a = false → SD G' s' (qs a) → Nx G0 H G' H' → D.nx s' H') : tWhile c tb D s H := by
  refine ⟨fun m s' H' => ∃ a G', mu a = m ∧ SD G' s' (qs a) ∧ Nx G0 H G' H', ⟨_, a0, G0, rfl, S, Nx.refl w⟩, ?_⟩
  rintro m s' H' ⟨a, G', rfl, S', n⟩
  refine hc a s' G' n.g S' H' n.i _ fun H2 e2 => ?_
  have n2 : Nx G0 H G' H2 := n.trans (Nx.same n.i e2)
  cases e : cb a with
  | true =>
    show ∃ N : L2.St → Hp → Prop, _
    exact ⟨_, fun s2 H3 ⟨a', G2, hm, S2, n3⟩ => ⟨mu a', hm, a', G2, rfl, S2, n3⟩, hb a s' G' H2 e S' n2⟩
  | false => exact hd a s' G' H2 e S' n2
theorem sq_while {α : Type} {c : TT} {tb tz : TS} {D : Ends} {s : L2.St} {G0 H : Hp} (qs : α → Sd) (mu : α → Nat) (cb : α → Bool) (a0 : α) (S : SD G0 s (qs a0)) (w : Ex G0 H)
    (hc : ∀ a s' G', Ex G0 G' → SD G' s' (qs a) → EvT c s' G' (cb a))
    (hb : ∀ a s' G' H', cb a = true → SD G' s' (qs a) → Nx G0 H G' H' → tb { D with nx := fun s2 H2 => ∃ a' G2, mu a' < mu a ∧ SD G2 s2 (qs a') ∧ Nx G0 H G2 H2, ct := fun s2 H2 => ∃ a' G2, mu a' < mu a ∧ SD G2 s2 (qs a') ∧ Nx G0 H G2 H2, bk := tz D } s' H')
    (hd : ∀ a s' G' H', cb a = false → SD G' s' (qs a) → Nx G0 H G' H' → tz D s' H') : tSeq (tWhile c tb) tz D s H := sd_while (D := { D with nx := tz D }) qs mu cb a0 S w hc hb hd
abbrev bq (b : Bk) : Sd := [some b.d, some (.tuple (b.ms.map .str)), some (.tuple ((goodsD b.hand).map pairD)), some (.tuple (b.ts.map Tk.d)), some (.tuple (b.waits.map waitD)), some (.tuple (b.fixs.map fixD))]
def knownD (b : Bk) : PyData := .list ((goodsD b.hand).map fun p => keyD p.1)
abbrev RAllThere : List PyData → PyData → Prop := RAllUnlike
theorem ok_are_all_there {f : Addr} {fd : FuncData} (F : Fun K "are_all_there" "are_all_there" s_are_all_there f fd) (T : Txt mg) : FnOk P w K mg base CX0 1 f fd ["book"] (SpR 1 RAllThere) := by
  refine okD F sc_are_all_there rfl fun cdv A outer s G H vs ds r Q E hr hR S i k => ?_
  obtain ⟨b, rfl, hb, rfl⟩ := hR
  refine ⟨_, (pss_cons (ps_asg (pv 0) (pg_tup rfl (pgs_cons (pg_name (i := 1) sc_are_all_there.nd rfl (Or.inl rfl)) (pgs_cons (pg_name (i := 2) sc_are_all_there.nd rfl (Or.inl rfl)) (pgs_cons (pg_name (i := 3) sc_are_all_there.nd rfl (Or.inr rfl)) (pgs_cons (pg_name (i := 4) sc_are_all_there.nd rfl (Or.inl rfl)) (pgs_cons (pg_name (i := 5) sc_are_all_there.nd rfl (Or.inl rfl)) pgs_nil)))))))
      (pss_cons (ps_set (i := 6) sc_are_all_there.nd rfl (Or.inr rfl) (pe_lc (own := [("name", 8), ("many", 9)]) (g := (gTup K 2 (gCons (gName 8) (gCons (gName 9) gNil)))) rfl sc_are_all_there.nd (pi_tup (pv 2)) (blkOk_by (N := ["book", "machines", "goods", "tasks", "waits", "fixed", "known", "task", "name", "many", "wait", "pair", "good"]) (sc := defScope s_are_all_there) (by decide +kernel)) (fun _ _ _ _ _ => (pg_tup rfl (pgs_cons (pg_name (i := 8) sc_are_all_there.nd rfl (Or.inl rfl)) (pgs_cons (pg_name (i := 9) sc_are_all_there.nd rfl (Or.inl rfl)) pgs_nil)))) (fun _ _ _ _ _ => pts_nil) (fun _ _ _ _ _ => (pv 8))))
      (pss_cons (ps_for PassesOwn.never rfl (pi_tup (pv 3)) (pg_name (i := 7) sc_are_all_there.nd rfl (Or.inl rfl)) (pss_one (ps_if (PW.pt (pw_or (PW.pt (pw_and (pt_cmpR (r := rNeD K) (op_neD hr.units) (pe_ix (r := rIxT K) ix_tup (pv 7) pe_int (fun _ _ => rfl)) pe_str (nomark _)) (pw_and1 (pt_cmpR (r := rIn K true) op_notIn_seq (pe_ix (r := rIxT K) ix_tup (pv 7) pe_int (fun _ _ => rfl)) (pv 1) (by rfl))))) (pw_or1 (pt_not (pt_val (pe_callB (r := rAll K) (cr_all rfl) (by rfl) T.b_all bt_all (pa_cons (pe_lc (own := [("good", 12), ("many", 9)]) (g := (gTup K 2 (gCons (gName 12) (gCons (gName 9) gNil)))) rfl sc_are_all_there.nd (pi_tup (pe_ix (r := rIxT K) ix_tup (pv 7) pe_int (fun _ _ => rfl))) (blkOk_by (N := ["book", "machines", "goods", "tasks", "waits", "fixed", "known", "task", "name", "many", "wait", "pair", "good"]) (sc := defScope s_are_all_there) (by decide +kernel)) (fun _ _ _ _ _ => (pg_tup rfl (pgs_cons (pg_name (i := 12) sc_are_all_there.nd rfl (Or.inl rfl)) (pgs_cons (pg_name (i := 9) sc_are_all_there.nd rfl (Or.inl rfl)) pgs_nil)))) (fun _ _ _ _ _ => pts_nil) (fun _ _ _ _ _ => (pe_cmpR (r := rInD K) (op_inD (hu65 hr)) (pv 12) (pv 6) (by rfl)))) pa_nil))))))) (pss_one (ps_ret pe_bl)) pss_nil)))
      (pss_one (ps_ret (pe_and (pe_callB (r := rAll K) (cr_all rfl) (by rfl) T.b_all bt_all (pa_cons (pe_lc (own := [("wait", 10)]) (g := (gName 10)) rfl sc_are_all_there.nd (pi_tup (pv 4)) (blkOk_by (N := ["book", "machines", "goods", "tasks", "waits", "fixed", "known", "task", "name", "many", "wait", "pair", "good"]) (sc := defScope s_are_all_there) (by decide +kernel)) (fun _ _ _ _ _ => (pg_name (i := 10) sc_are_all_there.nd rfl (Or.inl rfl))) (fun _ _ _ _ _ => pts_nil) (fun _ _ _ _ _ => (pe_cmpR op_lt (pe_callB (r := rMaxT K) (cr_maxT rfl (hu65 hr)) (by rfl) T.b_max bt_max (pa_cons (pe_slice (r := rSlA K) sl_tupA (pv 10) po_none (po_some pe_int)) pa_nil)) (pe_callB (r := rLenQ K) cr_len (by rfl) T.b_len bt_len (pa_cons (pv 3) pa_nil)) (nomark _)))) pa_nil)) (pe_one (pe_callB (r := rAll K) (cr_all rfl) (by rfl) T.b_all bt_all (pa_cons (pe_lc (own := [("pair", 11)]) (g := (gName 11)) rfl sc_are_all_there.nd (pi_tup (pv 5)) (blkOk_by (N := ["book", "machines", "goods", "tasks", "waits", "fixed", "known", "task", "name", "many", "wait", "pair", "good"]) (sc := defScope s_are_all_there) (by decide +kernel)) (fun _ _ _ _ _ => (pg_name (i := 11) sc_are_all_there.nd rfl (Or.inl rfl))) (fun _ _ _ _ _ => pts_nil) (fun _ _ _ _ _ => (pe_cmpR op_lt (pe_ix (r := rIxT K) ix_tup (pv 11) pe_int (fun _ _ => rfl)) (pe_callB (r := rLenQ K) cr_len (by rfl) T.b_len bt_len (pa_cons (pv 3) pa_nil)) (nomark _)))) pa_nil))))))))), ?_⟩
  have tl := hb.tl
  refine sq_asg S i (dv_var S) (tg_tup (tgs_cons tg_name (tgs_cons tg_name (tgs_cons tg_name (tgs_cons tg_name (tgs_cons tg_name tgs_nil)))))) fun s1 G1 H1 S1 n1 => ?_
  refine sq_set (d := knownD b) S1 n1.i (dv_is (dv_lc1 (js := [8, 9]) (fun d => bq b ++ [none, none, (kids d)[0]?, (kids d)[1]?, none, none, none]) (fun d => ((kids d)[0]?).getD .none) (ei_tup (dv_var S1)) S1 ?_ (fun d hm => ?_) (by decide) fun d hm s2 G2 e2 S2 => ?_) ?_) fun s2 G2 H2 S2 n2 => ?_
  · unfold goodsD; cases b.hand <;> decide
  · obtain ⟨p, _, rfl⟩ := List.mem_map.mp hm
    exact tg_tup (tgs_cons tg_name (tgs_cons tg_name tgs_nil))
  · obtain ⟨p, _, rfl⟩ := List.mem_map.mp hm
    exact dv_var S2
  · unfold knownD goodsD; cases b.hand <;> rfl
  have n12 := n1.trans n2
  refine sq_for (ds := b.ts.map Tk.d) (js := [7]) (fun _ => bq b ++ [some (knownD b), none, none, none, none, none, none]) (fun _ d => bq b ++ [some (knownD b), some d, none, none, none, none, none]) S2 n2.i (ei_tup (dv_var S2)) (fun j d hj => tg_name) (fun Gb Hb nb j d s3 G3 H3 hj S3 n3 => ?_) fun s3 G3 H3 S3 n3 => ?_
  · obtain ⟨t, ht, rfl⟩ := List.mem_map.mp (List.mem_of_getElem? hj)
    refine sd_if (b := false) n3.i (et_or (a := false) (b := false) (et_is (et_and (tt_T (dv_neD (dv_ixT (dv_var S3) dv_int (atI_nat (j := 2) rfl)) dv_str (fine_mach hb t ht).shaped (by decide +kernel))) fun _ => tt_T (dv_niT (dv_ixT (dv_var S3) dv_int (atI_nat (j := 2) rfl)) (dv_var S3))) ?_) fun _ => et_not (a := true) (tt_B (dv_is (dv_allLc (js := [12, 9]) (fun d => bq b ++ [some (knownD b), some t.d, none, (kids d)[1]?, none, none, (kids d)[0]?]) (fun _ => true) (ei_tup (dv_ixT (dv_var S3) dv_int (atI_nat (j := 3) rfl))) S3 ?_ (fun d hm => ?_) (by decide) fun d hm s4 G4 e4 S4 => ?_) ?_))) (fun z => nomatch z) fun _ H4 n4 => ⟨G3, S3.weak (leD.setNone (bq b ++ [some (knownD b), some t.d, none, none, none, none, none]) 7), n3.trans n4⟩
    · rw [eqv_str]
      rcases hb.mach t ht with e | e
      · rw [e]
        rfl
      · rw [decide_eq_true e]
        simp
    · unfold needsD; cases t.needs <;> decide
    · obtain ⟨p, _, rfl⟩ := List.mem_map.mp hm
      exact tg_tup (tgs_cons tg_name (tgs_cons tg_name tgs_nil))
    · obtain ⟨p, hp, rfl⟩ := List.mem_map.mp hm
      have hn : t.needs = true := by
        cases e : t.needs with
        | true => rfl
        | false => rw [e] at hp; cases hp
      have hh := hb.need t ht hn
      unfold needsD at hp
      rw [if_pos hn, List.mem_singleton] at hp
      subst hp
      have ek : knownD b = .list [.str "hand"] := by
        unfold knownD goodsD
        rw [if_pos hh]
        rfl
      refine dv_is (dv_inD (es := [.str "hand"]) (dv_var S4 (d := .str "hand")) (dv_is (dv_var S4 (i := 6)) ek) (by decide +kernel) (by decide +kernel)) (congrArg PyData.bool (by decide +kernel))
    · rw [List.all_eq_true.mpr fun _ _ => rfl]
  refine sd_ret n3.i (dv_is (dv_and (a := true) (b := true) (dv_is (dv_allLc (js := [10]) (fun d => bq b ++ [some (knownD b), none, none, none, some d, none, none]) (fun _ => true) (ei_tup (dv_var S3)) S3 ?_ (fun d hm => tg_name) (by decide) fun d hm s4 G4 e4 S4 => ?_) ?_) fun _ => dv_is (dv_allLc (js := [11]) (fun d => bq b ++ [some (knownD b), none, none, none, none, some d, none]) (fun _ => true) (ei_tup (dv_var S3)) S3 ?_ (fun d hm => tg_name) (by decide) fun d hm s4 G4 e4 S4 => ?_) ?_) rfl) fun v G4 H4 n4 hv => k v G4 H4 ((n12.trans n3).trans n4) hv
  · unfold Bk.waits; cases b.wait <;> simp
  · obtain ⟨p, hp, rfl⟩ := List.mem_map.mp hm
    have hw := hb.wait p (by unfold Bk.waits at hp; exact Option.mem_toList.mp hp)
    refine dv_is (dv_opB (dv_maxT (n := (p.1 : Nat)) (ns := [(p.2 : Nat)]) (dv_is (dv_slT (ds := [.int (p.1 : Nat), .int (p.2 : Nat), .int 0]) (lo := none) (hi := some 2) (dv_var S4) eo_none (eo_int dv_int) rfl) rfl)) (dv_len (dv_var S4) rfl)) ?_
    show PyData.bool (decide (max ((p.1 : Nat) : Int) ((p.2 : Nat) : Int) < (((b.ts.map Tk.d).length : Nat) : Int))) = _
    rw [List.length_map, decide_eq_true (by omega)]
  · rw [List.all_eq_true.mpr fun _ _ => rfl]
  · unfold Bk.fixs; cases b.fixed <;> simp
  · obtain ⟨p, hp, rfl⟩ := List.mem_map.mp hm
    obtain ⟨t, ht, _⟩ := hb.fixed p (by unfold Bk.fixs at hp; exact Option.mem_toList.mp hp)
    have hl := (List.getElem?_eq_some_iff.mp ht).1
    refine dv_is (dv_opB (dv_ixT (dv_var S4) dv_int (atI_nat (j := 0) rfl)) (dv_len (dv_var S4) rfl)) ?_
    show PyData.bool (decide (((p.1 : Nat) : Int) < (((b.ts.map Tk.d).length : Nat) : Int))) = _
    rw [List.length_map, decide_eq_true (by omega)]
  · rw [List.all_eq_true.mpr fun _ _ => rfl]
theorem ok_are_needs_met {f : Addr} {fd : FuncData} (F : Fun K "are_needs_met" "are_needs_met" s_are_needs_met f fd) (T : Txt mg) : FnOk P w K mg base CX0 1 f fd ["book"] (SpR 1 RAllUnlike) := by
  refine okD F sc_are_needs_met rfl fun cdv A outer s G H vs ds r Q E hr hR S i k => ?_
  obtain ⟨b, rfl, hb, rfl⟩ := hR
  refine ⟨_, (pss_cons (ps_set (i := 1) sc_are_needs_met.nd rfl (Or.inr rfl) (pe_callTy (r := rDictT K) (cr_dictT rfl) (by rfl) T.b_dict bt_dict (pa_cons (pe_ix (r := rIxT K) ix_tup (pv 0) pe_int (fun _ _ => rfl)) pa_nil)))
      (pss_cons (ps_for PassesOwn.never rfl (pi_tup (pe_ix (r := rIxT K) ix_tup (pv 0) pe_int (fun _ _ => rfl))) (pg_name (i := 2) sc_are_needs_met.nd rfl (Or.inl rfl)) (pss_one (ps_if (pt_not (pt_val (pe_callB (r := rAll K) (cr_all rfl) (by rfl) T.b_all bt_all (pa_cons (pe_lc (own := [("good", 3), ("many", 4)]) (g := (gTup K 2 (gCons (gName 3) (gCons (gName 4) gNil)))) rfl sc_are_needs_met.nd (pi_tup (pe_ix (r := rIxT K) ix_tup (pv 2) pe_int (fun _ _ => rfl))) (blkOk_by (N := ["book", "there", "task", "good", "many"]) (sc := defScope s_are_needs_met) (by decide +kernel)) (fun _ _ _ _ _ => (pg_tup rfl (pgs_cons (pg_name (i := 3) sc_are_needs_met.nd rfl (Or.inl rfl)) (pgs_cons (pg_name (i := 4) sc_are_needs_met.nd rfl (Or.inl rfl)) pgs_nil)))) (fun _ _ _ _ _ => pts_nil) (fun _ _ _ _ _ => (pe_cmpR op_le (pv 4) (pe_dget (hu_of hr) (pv 1) (pv 3) (fun _ _ => rfl)) (nomark _)))) pa_nil)))) (pss_one (ps_ret pe_bl)) pss_nil)))
      (pss_one (ps_ret pe_bl)))), ?_⟩
  have tl := hb.tl
  refine sq_set (d := dctD (goodsD b.hand)) S i (dv_dictT (dv_ixT (dv_var S) dv_int (atI_nat (j := 1) rfl)) ?_ ?_ ?_) fun s1 G1 H1 S1 n1 => ?_
  · unfold goodsD; cases b.hand <;> rfl
  · unfold goodsD; cases b.hand <;> decide
  · unfold goodsD; cases b.hand <;> decide
  refine sq_for (ds := b.ts.map Tk.d) (js := [2]) (fun _ => [some b.d, some (dctD (goodsD b.hand)), none, none, none]) (fun _ d => [some b.d, some (dctD (goodsD b.hand)), some d, none, none]) S1 n1.i (ei_tup (dv_ixT (dv_var S1) dv_int (atI_nat (j := 2) rfl))) (fun j d hj => tg_name) (fun Gb Hb nb j d s3 G3 H3 hj S3 n3 => ?_) fun s3 G3 H3 S3 n3 => ?_
  · obtain ⟨t, ht, rfl⟩ := List.mem_map.mp (List.mem_of_getElem? hj)
    refine sd_if (b := false) n3.i (et_not (a := true) (tt_B (dv_is (dv_allLc (js := [3, 4]) (fun d => [some b.d, some (dctD (goodsD b.hand)), some t.d, (kids d)[0]?, (kids d)[1]?]) (fun _ => true) (ei_tup (dv_ixT (dv_var S3) dv_int (atI_nat (j := 3) rfl))) S3 ?_ (fun d hm => ?_) (by decide) fun d hm s4 G4 e4 S4 => ?_) ?_))) (fun z => nomatch z) fun _ H4 n4 => ⟨G3, S3.weak (leD.setNone [some b.d, some (dctD (goodsD b.hand)), some t.d, none, none] 2), n3.trans n4⟩
    · unfold needsD; cases t.needs <;> decide
    · obtain ⟨p, _, rfl⟩ := List.mem_map.mp hm
      exact tg_tup (tgs_cons tg_name (tgs_cons tg_name tgs_nil))
    · obtain ⟨p, hp, rfl⟩ := List.mem_map.mp hm
      have hn : t.needs = true := by
        cases e : t.needs with
        | true => rfl
        | false => rw [e] at hp; cases hp
      have hh := hb.need t ht hn
      unfold needsD at hp
      rw [if_pos hn, List.mem_singleton] at hp
      subst hp
      refine dv_is (dv_opB (i := 1) (j := 2) (dv_var S4) (dv_dget (kds := goodsD b.hand) (k := .inr "hand") (dv_var S4) (dv_var S4) ?_)) rfl
      rw [hh]
      simp [valD, goodsD]
    · rw [List.all_eq_true.mpr fun _ _ => rfl]
  exact sd_ret n3.i dv_bl fun v G4 H4 n4 hv => k v G4 H4 ((n1.trans n3).trans n4) hv
/-- goes round: at most one pair -/
def prD (p : Nat × Nat) : PyData := .tuple [.int (p.1 : Nat), .int (p.2 : Nat)]
def iOf : PyData → Int
  | .int i => i
  | _ => 0
def heldD (L : List Int) (p : Option (Nat × Nat)) : List (Key × PyData) := (p.toList.filter fun p => decide (((p.1 : Nat) : Int) ∈ L)).map fun p => (.inl (p.2 : Nat), .bool true)
def isHeld (L : List Int) (p : Option (Nat × Nat)) (i : Int) : Bool := (valD (heldD L p) (.inl i)).isSome
def nextL (L : List Int) (p : Option (Nat × Nat)) : List Int := L.filter (isHeld L p)
def freeL (L : List Int) (p : Option (Nat × Nat)) : List Int := L.filter fun i => !isHeld L p i
theorem isHeld_iff {L : List Int} {p : Option (Nat × Nat)} {i : Int} : isHeld L p i = true ↔ ∃ q, p = some q ∧ ((q.1 : Nat) : Int) ∈ L ∧ i = (q.2 : Nat) := by
  unfold isHeld heldD valD
  cases p with
  | none => simp
  | some q =>
    by_cases h : ((q.1 : Nat) : Int) ∈ L
    · simp [h]
      constructor
      · intro e; exact e.symm
      · intro e; exact e.symm
    · simp [h]
theorem free_ne {L : List Int} {p : Option (Nat × Nat)} (hp : ∀ q, p = some q → q.1 ≠ q.2) (hL : L ≠ []) : freeL L p ≠ [] := by
  intro e
  unfold freeL at e
  rw [List.filter_eq_nil_iff] at e
  obtain ⟨x, r, rfl⟩ := List.exists_cons_of_ne_nil hL
  have h1 := e x List.mem_cons_self
  have h2 : isHeld (x :: r) p x = true := by simpa using h1
  obtain ⟨q, hq, hm, _⟩ := isHeld_iff.mp h2
  have h3 := e _ hm
  have h4 : isHeld (x :: r) p ((q.1 : Nat) : Int) = true := by simpa using h3
  obtain ⟨q2, hq2, _, h5⟩ := isHeld_iff.mp h4
  rw [hq] at hq2
  cases hq2
  exact hp q hq (by omega)
theorem next_lt {L : List Int} {p : Option (Nat × Nat)} (hp : ∀ q, p = some q → q.1 ≠ q.2) (hL : L ≠ []) : (nextL L p).length < L.length := by
  have h1 : (freeL L p).length + (nextL L p).length = L.length := by
    unfold freeL nextL
    have : ∀ M : List Int, (M.filter fun i => !isHeld L p i).length + (M.filter (isHeld L p)).length = M.length := by
      intro M
      induction M with
      | nil => rfl
      | cons x r ih =>
        rw [List.filter_cons, List.filter_cons, List.length_cons]
        cases isHeld L p x
        · simp; omega
        · simp; omega
    exact this L
  have h2 := List.length_pos_iff.mpr (free_ne hp hL)
  omega
abbrev RRound : List PyData → PyData → Prop := fun ds r => ∃ (p : Option (Nat × Nat)) (n : Nat), ds = [.list (p.toList.map prD), .int (n : Nat)] ∧ n ≤ 1000 ∧ (∀ q, p = some q → q.1 ≠ q.2) ∧ r = .bool false
theorem ints_filter (L : List Int) (f : Int → Bool) : ((L.map PyData.int).filter fun d => f (iOf d)).map (fun d => d) = (L.filter f).map PyData.int := by
  rw [List.filter_map, List.map_map]
  rfl
theorem ok_goes_round {f : Addr} {fd : FuncData} (F : Fun K "goes_round" "goes_round" s_goes_round f fd) (T : Txt mg) : FnOk P w K mg base CX0 1 f fd ["pairs", "many"] (SpR 2 RRound) := by
  refine okD F sc_goes_round rfl fun cdv A outer s G H vs ds r Q E hr hR S i k => ?_
  obtain ⟨p, n, rfl, hn, hp, rfl⟩ := hR
  refine ⟨_, (pss_cons (ps_set (i := 2) sc_goes_round.nd rfl (Or.inr rfl) (pe_listRg rfl (by rfl) T.b_list (prg_1 (by rfl) T.b_range (pv 1))))
      (pss_cons (ps_while PassesOwn.never (pt_cmpR (r := rNeD K) (op_neD hr.units) (pv 2) (pe_lst pa_nil) (nomark _)) (pss_cons (ps_set (i := 3) sc_goes_round.nd rfl (Or.inr rfl) (pe_callTy (r := rDictP K) (cr_dictP rfl) (by rfl) T.b_dict bt_dict (pa_cons (pe_lc (own := [("ahead", 6), ("behind", 7)]) (g := (gTup K 2 (gCons (gName 6) (gCons (gName 7) gNil)))) rfl sc_goes_round.nd (pi_list (pv 0)) (blkOk_by (N := ["pairs", "many", "left", "held", "free", "task", "ahead", "behind"]) (sc := defScope s_goes_round) (by decide +kernel)) (fun _ _ _ _ _ => (pg_tup rfl (pgs_cons (pg_name (i := 6) sc_goes_round.nd rfl (Or.inl rfl)) (pgs_cons (pg_name (i := 7) sc_goes_round.nd rfl (Or.inl rfl)) pgs_nil)))) (fun _ _ _ _ _ => (pts_one (pt_cmpR (r := rIn K false) op_in_seq (pv 6) (pv 2) (by rfl)))) (fun _ _ _ _ _ => (pe_tupF (pa_cons (pv 7) (pa_cons pe_bl pa_nil))))) pa_nil)))
      (pss_cons (ps_setLc (i := 4) (own := [("task", 5)]) (g := (gName 5)) rfl sc_goes_round.nd rfl rfl (sw_true rfl rfl rfl (by decide +kernel)) (pi_list (pv 2)) (blkOk_by (N := ["pairs", "many", "left", "held", "free", "task", "ahead", "behind"]) (sc := defScope s_goes_round) (by decide +kernel)) (fun _ _ _ _ _ => (pg_name (i := 5) sc_goes_round.nd rfl (Or.inl rfl))) (fun _ _ _ _ _ => (pts_one (pt_cmp (pc_dnotin (hu_of hr) (pv 5) (pv 3))))) (fun _ _ _ _ _ => (pv 5)))
      (pss_cons (ps_if (pt_cmpR (r := rEqD K) (op_eqD hr.units) (pv 4) (pe_lst pa_nil) (nomark _)) (pss_one (ps_ret pe_bl)) pss_nil)
      (pss_one (ps_set (i := 2) sc_goes_round.nd rfl (Or.inr rfl) (pe_lc (own := [("task", 5)]) (g := (gName 5)) rfl sc_goes_round.nd (pi_list (pv 2)) (blkOk_by (N := ["pairs", "many", "left", "held", "free", "task", "ahead", "behind"]) (sc := defScope s_goes_round) (by decide +kernel)) (fun _ _ _ _ _ => (pg_name (i := 5) sc_goes_round.nd rfl (Or.inl rfl))) (fun _ _ _ _ _ => (pts_one (pt_cmp (pc_din (hu_of hr) (pv 5) (pv 3))))) (fun _ _ _ _ _ => (pv 5)))))))))
      (pss_one (ps_ret pe_bl)))), ?_⟩
  have pl : p.toList.length ≤ 1 := by cases p <;> simp
  refine sq_set (d := .list (((List.range n).map fun i => ((0 : Int) + (i : Nat))).map .int)) S i (dv_is (dv_listRg (dv_var S) (by omega)) (by unfold intsD; rw [List.map_map]; rfl)) fun s1 G1 H1 S1 n1 => ?_
  refine sq_while (α := { L : List Int // L.length ≤ 1000 }) (fun L => [some (.list (p.toList.map prD)), some (.int (n : Nat)), some (.list (L.1.map .int)), none, none, none, none, none]) (fun L => L.1.length) (fun L => !L.1.isEmpty) ⟨(List.range n).map fun i => ((0 : Int) + (i : Nat)), by rw [List.length_map, List.length_range]; omega⟩ S1 n1.i (fun L s2 G2 e2 S2 => ?_) (fun L s2 G2 H2 hL S2 n2 => ?_) fun L s2 G2 H2 _ S2 n2 => ?_
  · refine tt_T (dv_is (dv_neD (dv_var S2) (dv_lst ds_nil) (shN_ints _) (by decide +kernel)) ?_)
    rw [eqv_nil]
    cases L.1 <;> rfl
  · obtain ⟨L, hl⟩ := L
    have hL : L ≠ [] := by
      rintro rfl
      cases hL
    refine sq_set (d := dctD (heldD L p)) S2 n2.i (dv_dictL (dv_is (dv_lc (js := [6, 7]) (fun d => [some (.list (p.toList.map prD)), some (.int (n : Nat)), some (.list (L.map .int)), none, none, none, (kids d)[0]?, (kids d)[1]?]) (fun d => decide (iOf ((kids d)[0]?.getD .none) ∈ L)) (fun d => .tuple [(kids d)[1]?.getD .none, .bool true]) (ei_list (dv_var S2)) S2 (by rw [List.length_map]; omega) (fun d hm => ?_) (by decide) (fun d hm s3 G3 e3 S3 => ?_) fun d hm _ s3 G3 e3 S3 => ?_) ?_) ?_ ?_) fun s3 G3 H3 S3 n3 => ?_
    · obtain ⟨q, _, rfl⟩ := List.mem_map.mp hm
      exact tg_tup (tgs_cons tg_name (tgs_cons tg_name tgs_nil))
    · obtain ⟨q, _, rfl⟩ := List.mem_map.mp hm
      exact tt_T (dv_inL false (dv_var S3) (dv_var S3))
    · obtain ⟨q, _, rfl⟩ := List.mem_map.mp hm
      exact dv_tup (ds_cons (dv_var S3) (ds_cons dv_bl ds_nil)) (by show 2 ≤ 100000; decide)
    · unfold heldD
      rw [List.filter_map, List.map_map, List.map_map]
      rfl
    · unfold heldD
      rw [List.length_map]
      exact Nat.le_trans (List.length_filter_le _ _) pl
    · intro e he
      unfold heldD at he
      obtain ⟨q, _, rfl⟩ := List.mem_map.mp he
      rfl
    refine sq_set (d := .list ((freeL L p).map .int)) S3 n3.i (dv_is (dv_lc (js := [5]) (fun d => [some (.list (p.toList.map prD)), some (.int (n : Nat)), some (.list (L.map .int)), some (dctD (heldD L p)), none, some d, none, none]) (fun d => !isHeld L p (iOf d)) (fun d => d) (ei_list (dv_var S3)) S3 (by rw [List.length_map]; omega) (fun d hm => tg_name) (by decide) (fun d hm s4 G4 e4 S4 => ?_) fun d hm _ s4 G4 e4 S4 => dv_var S4) (congrArg PyData.list (ints_filter L fun i => !isHeld L p i))) fun s4 G4 H4 S4 n4 => ?_
    · obtain ⟨x, _, rfl⟩ := List.mem_map.mp hm
      exact tt_B (dv_dnin (k := .inl x) (dv_var S4) (dv_var S4))
    refine sq_when (b := false) n4.i (tt_T (dv_is (dv_eqD (dv_var S4) (dv_lst ds_nil) (shN_ints _) (by decide +kernel)) ?_)) (fun z => nomatch z) fun _ H5 n5 => ?_
    · rw [eqv_nil]
      have := free_ne hp hL
      cases e : freeL L p with
      | nil => exact absurd e this
      | cons _ _ => rfl
    refine sd_set (d := .list ((nextL L p).map .int)) S4 n5.i (dv_is (dv_lc (js := [5]) (fun d => [some (.list (p.toList.map prD)), some (.int (n : Nat)), some (.list (L.map .int)), some (dctD (heldD L p)), some (.list ((freeL L p).map .int)), some d, none, none]) (fun d => isHeld L p (iOf d)) (fun d => d) (ei_list (dv_var S4)) S4 (by rw [List.length_map]; omega) (fun d hm => tg_name) (by decide) (fun d hm s6 G6 e6 S6 => ?_) fun d hm _ s6 G6 e6 S6 => dv_var S6) (congrArg PyData.list (ints_filter L (isHeld L p)))) fun s6 G6 H6 S6 n6 => ?_
    · obtain ⟨x, _, rfl⟩ := List.mem_map.mp hm
      exact tt_B (dv_din (k := .inl x) (dv_var S6) (dv_var S6))
    refine ⟨⟨nextL L p, Nat.le_trans (List.length_filter_le _ _) hl⟩, G6, next_lt hp hL, ?_, (((n2.trans n3).trans n4).trans n5).trans n6⟩
    refine (S6.weak (leD.setNone [some (.list (p.toList.map prD)), some (.int (n : Nat)), some (.list ((nextL L p).map .int)), some (dctD (heldD L p)), some (.list ((freeL L p).map .int)), none, none, none] 3)).weak ?_
    exact leD.setNone [some (.list (p.toList.map prD)), some (.int (n : Nat)), some (.list ((nextL L p).map .int)), none, some (.list ((freeL L p).map .int)), none, none, none] 4
  · exact sd_ret n2.i dv_bl fun v G3 H3 n3 hv => k v G3 H3 ((n1.trans n2).trans n3) hv
abbrev RWrong : List PyData → PyData → Prop := fun ds r => ∃ b : Bk, ds = [b.d] ∧ Good b ∧ r = .str ""
theorem ok_wrong_in {f : Addr} {fd : FuncData} (F : Fun K "wrong_in" "wrong_in" s_wrong_in f fd) (T : Txt mg) (C_are_all_unlike : Cal P w K mg base 2 "are_all_unlike" (SpR 1 RAllUnlike)) (C_are_all_there : Cal P w K mg base 1 "are_all_there" (SpR 1 RAllThere))
    (C_are_needs_met : Cal P w K mg base 1 "are_needs_met" (SpR 1 RAllUnlike)) (C_goes_round : Cal P w K mg base 1 "goes_round" (SpR 2 RRound)) : FnOk P w K mg base CX0 3 f fd ["book"] (SpR 1 RWrong) := by
  refine okD F sc_wrong_in rfl fun cdv A outer s G H vs ds r Q E hr hR S i k => ?_
  obtain ⟨b, rfl, hb, rfl⟩ := hR
  refine ⟨_, (pss_cons (ps_if (pt_not (pt_val (pe_c C_are_all_unlike hr (by decide) (by rfl) (pa_cons (pv 0) pa_nil)))) (pss_one (ps_ret pe_str)) pss_nil)
      (pss_cons (ps_if (pt_not (pt_val (pe_c C_are_all_there hr (by decide) (by rfl) (pa_cons (pv 0) pa_nil)))) (pss_one (ps_ret pe_str)) pss_nil)
      (pss_cons (ps_if (pt_not (pt_val (pe_c C_are_needs_met hr (by decide) (by rfl) (pa_cons (pv 0) pa_nil)))) (pss_one (ps_ret pe_str)) pss_nil)
      (pss_cons (ps_if (pt_not (pt_val (pe_callB (r := rAll K) (cr_all rfl) (by rfl) T.b_all bt_all (pa_cons (pe_lc (own := [("task", 1), ("begin", 2)]) (g := (gTup K 2 (gCons (gName 1) (gCons (gName 2) gNil)))) rfl sc_wrong_in.nd (pi_tup (pe_ix (r := rIxT K) ix_tup (pv 0) pe_int (fun _ _ => rfl))) (blkOk_by (N := ["book", "task", "begin", "wait"]) (sc := defScope s_wrong_in) (by decide +kernel)) (fun _ _ _ _ _ => (pg_tup rfl (pgs_cons (pg_name (i := 1) sc_wrong_in.nd rfl (Or.inl rfl)) (pgs_cons (pg_name (i := 2) sc_wrong_in.nd rfl (Or.inl rfl)) pgs_nil)))) (fun _ _ _ _ _ => pts_nil) (fun _ _ _ _ _ => (pe_cmpR op_ge (pv 2) (pe_ix (r := rIxT K) ix_tup (pe_ix (r := rIxT K) ix_tup (pe_ix (r := rIxT K) ix_tup (pv 0) pe_int (fun _ _ => rfl)) (pv 1) (fun _ _ => rfl)) pe_int (fun _ _ => rfl)) (nomark _)))) pa_nil)))) (pss_one (ps_ret pe_str)) pss_nil)
      (pss_one (ps_ret (pe_ifExp (pt_val (pe_c C_goes_round hr (by decide) (by rfl) (pa_cons (pe_lc (own := [("wait", 3)]) (g := (gName 3)) rfl sc_wrong_in.nd (pi_tup (pe_ix (r := rIxT K) ix_tup (pv 0) pe_int (fun _ _ => rfl))) (blkOk_by (N := ["book", "task", "begin", "wait"]) (sc := defScope s_wrong_in) (by decide +kernel)) (fun _ _ _ _ _ => (pg_name (i := 3) sc_wrong_in.nd rfl (Or.inl rfl))) (fun _ _ _ _ _ => pts_nil) (fun _ _ _ _ _ => (pe_slice (r := rSlA K) sl_tupA (pv 3) po_none (po_some pe_int)))) (pa_cons (pe_callB (r := rLenQ K) cr_len (by rfl) T.b_len bt_len (pa_cons (pe_ix (r := rIxT K) ix_tup (pv 0) pe_int (fun _ _ => rfl)) pa_nil)) pa_nil)))) pe_str pe_str))))))), ?_⟩
  have tl := hb.tl
  refine sq_when (b := false) i (et_not (a := true) (tt_B (dv_call (ds_cons (dv_var S) ds_nil) ⟨b, rfl, hb, rfl⟩))) (fun z => nomatch z) fun _ H1 n1 => ?_
  refine sq_when (b := false) n1.i (et_not (a := true) (tt_B (dv_call (ds_cons (dv_var S) ds_nil) ⟨b, rfl, hb, rfl⟩))) (fun z => nomatch z) fun _ H2 n2 => ?_
  refine sq_when (b := false) n2.i (et_not (a := true) (tt_B (dv_call (ds_cons (dv_var S) ds_nil) ⟨b, rfl, hb, rfl⟩))) (fun z => nomatch z) fun _ H3 n3 => ?_
  refine sq_when (b := false) n3.i (et_not (a := true) (tt_B (dv_is (dv_allLc (js := [1, 2]) (fun d => [some b.d, (kids d)[0]?, (kids d)[1]?, none]) (fun _ => true) (ei_tup (dv_ixT (dv_var S) dv_int (atI_nat (j := 4) rfl))) S ?_ (fun d hm => ?_) (by decide) fun d hm s4 G4 e4 S4 => ?_) ?_))) (fun z => nomatch z) fun _ H4 n4 => ?_
  · unfold Bk.fixs; cases b.fixed <;> simp
  · obtain ⟨p, _, rfl⟩ := List.mem_map.mp hm
    exact tg_tup (tgs_cons tg_name (tgs_cons tg_name tgs_nil))
  · obtain ⟨p, hp, rfl⟩ := List.mem_map.mp hm
    obtain ⟨t, ht, hf⟩ := hb.fixed p (by unfold Bk.fixs at hp; exact Option.mem_toList.mp hp)
    refine dv_is (dv_opB (i := p.2) (j := t.first) (dv_var S4) (dv_ixT (ds := [.str t.nm, .int t.len, .str t.mach, .tuple ((needsD t.needs).map pairD), .int t.first, dueD t.due, .int t.wt]) (dv_ixT (ds := b.ts.map Tk.d) (d := t.d) (dv_ixT (dv_var S4) dv_int (atI_nat (j := 2) rfl)) (dv_var S4) (atI_nat (j := p.1) (by rw [List.getElem?_map, ht]; rfl))) dv_int (atI_nat (j := 4) rfl))) ?_
    exact congrArg PyData.bool (decide_eq_true hf)
  · rw [List.all_eq_true.mpr fun _ _ => rfl]
  refine sd_ret n4.i (dv_if (b := false) (tt_B (dv_call (ds := [.list (b.wait.toList.map prD), .int (b.ts.length : Nat)]) (ds_cons (dv_is (dv_lc1 (js := [3]) (fun d => [some b.d, none, none, some d]) (fun d => .tuple ((kids d).take 2)) (ei_tup (dv_ixT (dv_var S) dv_int (atI_nat (j := 3) rfl))) S ?_ (fun d hm => tg_name) (by decide) fun d hm s5 G5 e5 S5 => ?_) ?_) (ds_cons (dv_is (dv_len (dv_ixT (dv_var S) dv_int (atI_nat (j := 2) rfl)) rfl) ?_) ds_nil)) ⟨b.wait, b.ts.length, rfl, by omega, fun q hq => (hb.wait q hq).2.2, rfl⟩)) (fun z => nomatch z) fun _ => dv_str) fun v G5 H5 n5 hv => k v G5 H5 ((((n1.trans n2).trans n3).trans n4).trans n5) hv
  · unfold Bk.waits; cases b.wait <;> simp
  · obtain ⟨p, _, rfl⟩ := List.mem_map.mp hm
    exact dv_slT (ds := [.int (p.1 : Nat), .int (p.2 : Nat), .int 0]) (lo := none) (hi := some 2) (dv_var S5) eo_none (eo_int dv_int) rfl
  · unfold Bk.waits
    rw [List.map_map]
    rfl
  · show PyData.int (((b.ts.map Tk.d).length : Nat) : Int) = _
    rw [List.length_map]
end
end K9

set_option Elab.async false
set_option linter.all false
set_option maxRecDepth 100000
set_option maxHeartbeats 4000000
/-! BadBook: made, raised, let through. -/
namespace K9
open PySem PySem.Spec PyProof.Rows L2 Evl
/-- what the module says of PlanError, at p -/
structure PlE (K : PySem.W.Frag) (mg : Str → Option Value) (p : Addr) : Prop where
  g : mg "PlanError" = some (.ref p)
  ga : PySem.W.specialIn K (.ref p) "__getattribute__" = some (some (.builtin "type.__getattribute__"))
  rd : PySem.W.readsIn K p (.type "type") = true
  fc : PySem.W.findCls K (.ref p) (.type "type") "__init__" = some (.val (.builtin "ValueError.__init__"))
/-- .. of BadBook, at C, and of its __init__, at fI -/
structure BadC (K : PySem.W.Frag) (mg : Str → Option Value) (C fI : Addr) (fd : FuncData) : Prop where
  g : mg "BadBook" = some (.ref C)
  oe : OexC K C
  no : PySem.W.findIn K (.ref C) "what" = some none
  iC : PySem.W.findIn K (.ref C) "__init__" = some (some (.ref fI))
  tI : PySem.W.typeIn K (.ref fI) = some (.type "function")
  F : Fun K "__init__" "BadBook.__init__" s_init fI fd
  b : Binds K fd ["self", "what"] []
section
variable {X : Cx} {e : Expr} {es : List Expr} {ta : TA} {p p1 p2 pos : Pos}
theorem pe_peinit {pl : Sem Bool} {P : Addr} (T : PlE X.K X.mg P) (hg : Gl X "PlanError") (ha : PA X (e :: es) ta)
    (hc : eval (.Call (.Attribute (.Name "PlanError" p1) "__init__" p2) (e :: es) [] pos) X.env = (do
      let ov ← eval (.Name "PlanError" p1) X.env
      standAt p2.atName
      let (f, first) ← holding [ov] (getMethod ov "__init__" pl)
      callWith pos f first (backTo pos (starEach (e :: es) X.env)) (backToKw pos (keywordEach [] X.env))) := by rfl)
    (he : starEach (e :: es) X.env = (false, eval e X.env) :: starEach es X.env := by rfl) (hpl : (backTo pos (starEach es X.env)).any (·.1) = false := by rfl) :
    PE X (.Call (.Attribute (.Name "PlanError" p1) "__init__" p2) (e :: es) [] pos) (tVeI X.K ta) := by
  refine ⟨fun pins s σ H Q I h => ?_⟩
  refine PySem.W.methodCall_KW (ld_glob I hg T.g ?_ (by decide)) hc
  refine PySem.W.method_cls I.kIn T.ga (PySem.W.cls_value I.kIn T.rd T.fc (by decide +kernel) ?_)
  show wpAny _ _ (callWith pos (Value.builtin "ValueError.__init__") [] (backTo pos (starEach (e :: es) X.env)) []) _ _ _
  refine PyProof.Rows.callWith_method1 (thn (ha.run pos pins _ σ H _ (I.tok _) h) fun us s1 ⟨vs, H1, I1, r1, a, C, ws, ev, hl, T, ea, q⟩ => ?_) he hpl
  subst ev
  cases r1 with
  | @cons _ u0 _ ur ra rw' =>
    cases (show u0 = Value.ref a from ra)
    have hlen : ur.length ≤ sizeLine := by
      rw [← Paired.length rw', sizeLine_eq]
      omega
    exact oinit_ok T I1 ea hlen fun s' J => ⟨.non, H1, J, rfl, q⟩
end
/-- BadBook.__init__ -/
def spInit (K : PySem.W.Frag) : Sp := fun vs H Q _ => ∃ (a C : Addr) (y : V), vs = [.ref a, y] ∧ OexC K C ∧ PySem.W.findIn K (.ref C) "what" = some none ∧ H a = some (exo a C none) ∧
  ∀ dx, H dx = none → dx ≠ a → Q .non (upd (upd H dx (exd dx [("what", y)])) a (exo a C (some dx)))
section
variable {P : Program} {w : World} {K : PySem.W.Frag} {mg : Str → Option Value} {base : Heap}
theorem ok_init {f pe : Addr} {fd : FuncData} (F : Fun K "__init__" "BadBook.__init__" s_init f fd) (T : PlE K mg pe) : FnOk P w K mg base CX0 1 f fd ["self", "what"] (spInit K) := by
  refine F.ok sc_init (fun vs H Q E h => ?_) fun cdv A outer s H vs Q E hr h => ?_
  · obtain ⟨a, C, y, rfl, _⟩ := h
    rfl
  obtain ⟨a, C, y, rfl, oc, no, ha, k⟩ := h
  refine ⟨_, (pss_cons (ps_expr (pe_peinit T (by rfl) (pa_cons (pv 0) (pa_cons pe_str pa_nil)))) (pss_one (ps_ost (pv 0) (pv 1)))), ?_⟩
  refine ⟨_, rfl, a, C, [.str "refused"], rfl, (by decide), oc, ha, ?_⟩
  refine ⟨_, rfl, _, rfl, a, C, rfl, oc, no, .inl ⟨ha, k⟩⟩
end
/-- raise BadBook(..) -/
def XD (C : Addr) (x : Str) (G H : Hp) (E : XK) : Prop := ∀ dd G' H', Nx G H G' H' → H' dd = some (.xd [("what", .str x)]) → E (.ref C) (some dd) H'
theorem XD.on {C : Addr} {x : Str} {G H G' H' : Hp} {E : XK} (h : XD C x G H E) (n : Nx G H G' H') : XD C x G' H' E := fun dd G2 H2 n2 e => h dd G2 H2 (n.trans n2) e
def tRaise (K : PySem.W.Frag) (C : Addr) (E : XK) (te : TE) : TS := fun _ σ H => tMkO C (spInit K) [] (tCons te tNil) σ H fun cls d H' => E cls d H'
theorem sd_raise {K : PySem.W.Frag} {s : L2.St} {G0 H : Hp} {te : TE} {x : Str} {C : Addr} {E : XK} {D : Ends} (w : Ex G0 H) (oc : OexC K C) (no : PySem.W.findIn K (.ref C) "what" = some none) (he : EvD te s G0 (.str x)) (k : XD C x G0 H E) : tRaise K C E te D s H :=
  he G0 H (Ex.refl _) w _ fun v G1 H1 n hv => by
    cases hv.eqStr
    refine ⟨by show 1 ≤ 1000; decide, fun a na => ⟨a, C, .str x, rfl, oc, no, upd_same, fun dx nd ne => ?_⟩⟩
    have nd1 : H1 dx = none := by rw [upd_ne ne] at nd; exact nd
    refine ⟨rfl, dx, [("what", .str x)], upd_same, by rw [upd_ne ne, upd_same], nd1, ?_⟩
    have e : upd (L2.del (upd (upd (upd H1 a (exo a C none)) dx (exd dx [("what", .str x)])) a (exo a C (some dx))) a) dx (.xd [("what", .str x)]) = upd H1 dx (.xd [("what", .str x)]) := by
      funext b
      by_cases h1 : b = dx
      · rw [h1, upd_same, upd_same]
      · rw [upd_ne h1, upd_ne h1]
        by_cases h2 : b = a
        · rw [h2, L2.del_same, na]
        · rw [L2.del_ne h2, upd_ne h2, upd_ne h1, upd_ne h2]
    rw [e]
    exact k dx _ _ (n.trans (Nx.new n.i nd1)) upd_same
/-- a def that may raise: such data in; such data out, or BadBook with such a word -/
def SpX (n : Nat) (C : Addr) (R : List PyData → Except Str (PyData → Prop) → Prop) : Sp := fun vs H Q E => vs.length = n ∧ ∃ G ds, Ex G H ∧ DDs G vs ds ∧
  ((∃ Pd, R ds (.ok Pd) ∧ ∀ v d G' H', Pd d → Nx G H G' H' → DD G' v d → Q v H') ∨ ∃ x, R ds (.error x) ∧ XD C x G H E)
/-- what evaluates to one of such data -/
def EvP (te : TE) (s : L2.St) (G0 : Hp) (Pd : PyData → Prop) : Prop := ∀ G H, Ex G0 G → Ex G H → ∀ Q : VK, (∀ v d G' H', Pd d → Nx G H G' H' → DD G' v d → Q v H') → te s H Q
structure CalX (P : Program) (w : World) (K : PySem.W.Frag) (mg : Str → Option Value) (base : Heap) (k : Nat) (x : Str) (sp : Sp) : Prop where
  ex : ∃ (f : Addr) (fd : FuncData) (ps : List Str), FnOk P w K mg base (L2.CX P w) k f fd ps sp ∧ mg x = some (.ref f) ∧ PySem.W.keepIn K (.ref f) = true ∧ Binds K fd ps []
section
variable {X : Cx} {e : Expr} {es : List Expr} {t : TA} {p pos : Pos} {x : Str} {k j : Nat} {sp : Sp} {E : XK}
theorem pe_cx (c : CalX X.prog X.w X.K X.mg X.base k x sp) (hx : Passes (L2.CX X.prog X.w) X E) (hr : Room j X.A) (hk : k ≤ j) (hg : Gl X x) (ha : PA X (e :: es) t)
    (hdb : (x == ("__debug__" : Str)) = false := by decide) (he : starEach (e :: es) X.env = (false, eval e X.env) :: starEach es X.env := by rfl) (hpl : (backTo pos (starEach es X.env)).any (·.1) = false := by rfl) :
    PE X (.Call (.Name x p) (e :: es) [] pos) (tCall sp [] E t) := by
  obtain ⟨f, fd, ps, F, hm, kp, b⟩ := c.ex
  exact pe_call F (hr.mono hk) hg hm kp b .nil hx ha hdb he hpl
/-- BadBook(..) raised -/
theorem ps_bad {C fI pe : Addr} {fd : FuncData} {te : TE} {spos : Pos} (B : BadC X.K X.mg C fI fd) (T : PlE X.K X.mg pe) (hr : Room k X.A) (hk : 2 ≤ k) (hc : X.calm = true) (tk : Takes X (fun cls d _ H => E cls d H)) (hg : Gl X "BadBook") (he : PE X e te)
    (hst : starEach [e] X.env = (false, eval e X.env) :: starEach [] X.env := by rfl) (hpl : (backTo pos (starEach [] X.env)).any (·.1) = false := by rfl) :
    PS X (.Raise (some (.Call (.Name "BadBook" p) [e] [] pos)) none spos) (tRaise X.K C E te) :=
  ps_raise hc tk (pmk_oex (k := 1) B.oe B.iC B.tI (ok_init B.F T) (hr.mono hk) B.b .nil pass0 hg B.g (pa_cons he pa_nil hst) (by decide) hst hpl)
end
section
variable {K : PySem.W.Frag} {s : L2.St} {G0 H : Hp} {ta tb te : TE} {tr : TA} {d : PyData} {ds : List PyData} {D : Ends} {tz : TS} {E : XK} {n : Nat} {C : Addr} {R : List PyData → Except Str (PyData → Prop) → Prop} {Pd : PyData → Prop} {q : Sd}
theorem EvP.of (h : EvD te s G0 d) (hp : Pd d) : EvP te s G0 Pd := fun G H e i Q k => h G H e i Q fun v G' H' n hv => k v d G' H' hp n hv
theorem EvP.toD (h : EvP te s G0 fun x => x = d) : EvD te s G0 d := fun G H e i Q k => h G H e i Q fun v d' G' H' hp n hv => k v G' H' n (hp ▸ hv)
theorem dp_call (h : EvDs tr s G0 ds) (hR : R ds (.ok Pd)) (hn : ds.length = n := by rfl) : EvP (tCall (SpX n C R) [] E tr) s G0 Pd := fun G H e i Q k =>
  h G H e i _ fun vs G2 H2 n2 h2 => by
    rw [List.append_nil]
    exact ⟨h2.len.trans hn, G2, ds, n2.i, h2, .inl ⟨Pd, hR, fun v d G3 H3 hp n3 hv => k v d G3 H3 hp (n2.trans n3) hv⟩⟩
theorem dp_callN {Pre : List PyData → Prop} {R : List PyData → PyData → Prop} {E : XK} (h : EvDs tr s G0 ds) (hR : Pre ds) (hn : ds.length = n := by rfl) : EvP (tCall (SpN n Pre R) [] E tr) s G0 (R ds) := fun G H e i Q k =>
  h G H e i _ fun vs G2 H2 n2 h2 => by
    rw [List.append_nil]
    exact ⟨h2.len.trans hn, G2, ds, n2.i, h2, hR, fun v d G3 H3 hp n3 hv => k v d G3 H3 hp (n2.trans n3) hv⟩
/-- a call as a statement: it raises -/
theorem sd_raises (w : Ex G0 H) (h : EvDs tr s G0 ds) {x : Str} (hR : R ds (.error x)) (k : XD C x G0 H E) (hn : ds.length = n := by rfl) : tDrop (tCall (SpX n C R) [] E tr) D s H :=
  h G0 H (Ex.refl _) w _ fun vs G2 H2 n2 h2 => by
    rw [List.append_nil]
    exact ⟨h2.len.trans hn, G2, ds, n2.i, h2, .inr ⟨x, hR, k.on n2⟩⟩
theorem sq_raises (w : Ex G0 H) (h : EvDs tr s G0 ds) {x : Str} (hR : R ds (.error x)) (k : XD C x G0 H E) (hn : ds.length = n := by rfl) : tSeq (tDrop (tCall (SpX n C R) [] E tr)) tz D s H := sd_raises (D := { D with nx := tz D }) w h hR k hn
theorem sd_dropP (w : Ex G0 H) (h : EvP te s G0 Pd) (k : ∀ G' H', Nx G0 H G' H' → D.nx s H') : tDrop te D s H := h G0 H (Ex.refl _) w _ fun _ _ G' H' _ n _ => k G' H' n
theorem sq_drop (w : Ex G0 H) (h : EvP te s G0 Pd) (k : ∀ G' H', Nx G0 H G' H' → tz D s H') : tSeq (tDrop te) tz D s H := sd_dropP (D := { D with nx := tz D }) w h k
theorem sd_retP (w : Ex G0 H) (h : EvP te s G0 Pd) (k : ∀ v d G' H', Pd d → Nx G0 H G' H' → DD G' v d → D.rt v H') : tRet te D s H := h G0 H (Ex.refl _) w _ k
theorem sd_setP {i : Nat} (S : SD G0 s q) (w : Ex G0 H) (h : EvP te s G0 Pd) (k : ∀ d s' G' H', Pd d → SD G' s' (q.set i (some d)) → Nx G0 H G' H' → D.nx s' H') : tAsg te (gName i) D s H :=
  h G0 H (Ex.refl _) w _ fun v d G' H' hp n hd => k d _ G' H' hp ((S.up n.g).set i hd) n
theorem sq_setP {i : Nat} (S : SD G0 s q) (w : Ex G0 H) (h : EvP te s G0 Pd) (k : ∀ d s' G' H', Pd d → SD G' s' (q.set i (some d)) → Nx G0 H G' H' → tz D s' H') : tSeq (tAsg te (gName i)) tz D s H := sd_setP (D := { D with nx := tz D }) S w h k
theorem sq_asgP {g : TG} {js : List Nat} (q2 : PyData → Sd) (S : SD G0 s q) (w : Ex G0 H) (h : EvP te s G0 Pd) (hg : ∀ d, Pd d → TgD g js q d (q2 d)) (k : ∀ d s' G' H', Pd d → SD G' s' (q2 d) → Nx G0 H G' H' → tz D s' H') : tSeq (tAsg te g) tz D s H :=
  h G0 H (Ex.refl _) w _ fun v d G' H' hp n hd => hg d hp s G' H' v _ (S.up n.g) n.i hd fun s2 S2 _ => k d s2 G' H' hp S2 n
/-- the first thing of one of such tuples -/
theorem dp_ixT {i : Int} (ha : EvP ta s G0 Pd) (hb : EvD tb s G0 (.int i)) {d2 : PyData} (hi : ∀ d, Pd d → ∃ es, d = .tuple es ∧ atI es i = some d2) : EvD (tOp (rIxT K) ta tb) s G0 d2 := fun G H e w Q k =>
  ha G H e w _ fun v d G2 H2 hp n2 h2 => by
    obtain ⟨es, rfl, he⟩ := hi d hp
    exact (dv_ixT (K := K) (s := s) (ta := fun s H Q => Q v H) (fun G3 H3 e3 i3 Q3 k3 => k3 v G3 H3 (Nx.refl i3) (h2.up e3)) (hb.up (e.trans n2.g)) he) G2 H2 (Ex.refl _) n2.i Q fun u G4 H4 n4 h4 => k u G4 H4 (n2.trans n4) h4
end
section
variable {P : Program} {w : World} {K : PySem.W.Frag} {mg : Str → Option Value} {base : Heap}
theorem okX {x qual : Str} {st : Stmt} {f C : Addr} {fd : FuncData} {N ps : List Str} {k n : Nat} {R : List PyData → Except Str (PyData → Prop) → Prop} (F : Fun K x qual st f fd) (S : FnScope N ps (defScope st)) (hn : n = ps.length)
    (hbody : ∀ (cdv : Value) (A : Around) (outer : List Env) (s : Shared) (G H : Hp) (vs : List V) (ds : List PyData) (Q : VK) (E : XK), Room k (A.deeper (envOfC qual (defScope st) s.heap.objs.size f cdv)) → ds.length = n → SD G (start N vs) (startD N.length ds) → Ex G H →
      ((∃ Pd, R ds (.ok Pd) ∧ ∀ v d G' H', Pd d → Nx G H G' H' → DD G' v d → Q v H') ∨ ∃ x, R ds (.error x) ∧ XD C x G H E) →
      Takes (cxOf (L2.CX P w) P w K mg base N qual (defScope st) f cdv A outer s H E) (fun cls d _ H => E cls d H) →
      ∃ t, PSs (cxOf (L2.CX P w) P w K mg base N qual (defScope st) f cdv A outer s H E) (defBody st) t ∧ t { nx := fun _ H' => Q .non H', rt := Q } (start N vs) H) : FnOk P w K mg base (L2.CX P w) (k + 1) f fd ps (SpX n C R) := by
  refine F.okX S (fun vs H Q E h => h.1.trans hn) fun cdv A outer s H vs Q E hr h => ?_
  obtain ⟨hl, G, ds, i, hd, q⟩ := h
  exact hbody cdv A outer s G H vs ds Q E hr (hd.len.symm.trans hl) (SD.start hd) i q (takes_of rfl rfl rfl rfl)
/-- refuses what is no book that is let by -/
abbrev RNeed : List PyData → Except Str (PyData → Prop) → Prop := fun ds r => ∃ d, ds = [d] ∧ Fine d ∧ ((hasForm d = false ∧ r = .error "form") ∨ ∃ b : Bk, d = b.d ∧ Good b ∧ r = .ok fun x => x = .none)
theorem ok_need_book {f C fI pe : Addr} {fd fdI : FuncData} (F : Fun K "need_book" "need_book" s_need_book f fd) (T : Txt mg) (B : BadC K mg C fI fdI) (L : PlE K mg pe) (C_has_form : Cal P w K mg base 5 "has_form" (SpR 1 RForm)) (C_wrong_in : Cal P w K mg base 3 "wrong_in" (SpR 1 RWrong)) : FnOk P w K mg base (L2.CX P w) 6 f fd ["thing"] (SpX 1 C RNeed) := by
  refine okX F sc_need_book rfl fun cdv A outer s G H vs ds Q E hr hl S i hq tk => ?_
  refine ⟨_, (pss_cons (ps_if (pt_not (pt_val (pe_c C_has_form hr (by decide) (by rfl) (pa_cons (pv 0) pa_nil)))) (pss_one (ps_bad B L hr (by decide) rfl tk (by rfl) pe_str)) pss_nil)
      (pss_cons (ps_set (i := 1) sc_need_book.nd rfl (Or.inl rfl) (pe_c C_wrong_in hr (by decide) (by rfl) (pa_cons (pv 0) pa_nil)))
      (pss_one (ps_if (pt_cmpR (r := rNeD K) (op_neD hr.units) (pv 1) pe_str (nomark _)) (pss_one (ps_bad B L hr (by decide) rfl tk (by rfl) (pv 1))) pss_nil)))), ?_⟩
  have go : ∀ d, ds = [d] → Fine d → ∀ b, hasForm d = b → EvD (tCall (SpR 1 RForm) [] E0 (tCons (tVar 0) tNil)) (start ["thing", "wrong"] vs) G (.bool b) := fun d e hf b hb => by
    subst e
    exact dv_call (ds_cons (dv_var S) ds_nil) ⟨d, rfl, hf, by rw [hb]⟩
  rcases hq with ⟨Pd, ⟨d, rfl, hd, h⟩, k⟩ | ⟨x, ⟨d, rfl, hd, h⟩, k⟩
  · rcases h with ⟨_, h⟩ | ⟨b, rfl, hb, h⟩
    · cases h
    · have h := Except.ok.inj h
      subst h
      refine sq_when (b := false) i (et_not (a := true) (tt_B (go _ rfl hd true hb.form))) (fun z => nomatch z) fun _ H1 n1 => ?_
      refine sq_set (d := .str "") S n1.i (dv_call (ds_cons (dv_var S) ds_nil) ⟨b, rfl, hb, rfl⟩) fun s2 G2 H2 S2 n2 => ?_
      refine sd_if (b := false) n2.i (tt_T (dv_is (dv_neD (dv_var S2) dv_str (by decide +kernel) (by decide +kernel)) (congrArg PyData.bool (by decide +kernel)))) (fun z => nomatch z) fun _ H3 n3 => ?_
      exact k .non .none G2 H3 rfl ((n1.trans n2).trans n3) .non
  · rcases h with ⟨hf, h⟩ | ⟨b, rfl, hb, h⟩
    · have h := Except.error.inj h
      subst h
      refine sq_when (b := true) i (et_not (a := false) (tt_B (go _ rfl hd false hf))) (fun _ H1 n1 => ?_) fun z => nomatch z
      exact sd_raise n1.i B.oe B.no dv_str (k.on n1)
    · cases h
end
end K9

set_option Elab.async false
set_option linter.all false
set_option maxRecDepth 100000
set_option maxHeartbeats 4000000
/-! Lists that a def changes while it runs: they stand apart from what is known and stays. -/
namespace K9
open PySem PySem.Spec PyProof.Rows L2 Evl
abbrev Mu := List (Nat × List PyData)
/-- slot i holds the list at p, whose things are ds -/
structure MuAt (G Hb : Hp) (s : L2.St) (H : Hp) (i : Nat) (ds : List PyData) (p : Addr) : Prop where
  sl : s[i]? = some (some (.ref p))
  hp : ∃ xs, H p = some (.lst xs) ∧ DDs G xs ds
  gp : G p = none
  bp : Hb p = none
structure MS (Gb Hb : Hp) (q : Sd) (M : Mu) (G : Hp) (ps : List Addr) (s : L2.St) (H : Hp) : Prop where
  S : SD G s q
  n : Nx Gb Hb G H
  len : ps.length = M.length
  nd : ps.Nodup
  mu : ∀ (j i : Nat) (ds : List PyData), M[j]? = some (i, ds) → ∃ p, ps[j]? = some p ∧ MuAt G Hb s H i ds p
def MSt (Gb Hb : Hp) (q : Sd) (M : Mu) : L2.St → Hp → Prop := fun s H => ∃ G ps, MS Gb Hb q M G ps s H
def qM (q : Sd) (M : Mu) : Sd := M.foldl (fun q x => q.set x.1 (some (.list x.2))) q
def plusH (G H : Hp) (ps : List Addr) : Hp := fun b => if b ∈ ps then H b else G b
def minusH (G : Hp) (ps : List Addr) : Hp := fun b => if b ∈ ps then none else G b
theorem minus_in {G : Hp} {ps : List Addr} {b : Addr} (h : b ∈ ps) : minusH G ps b = none := if_pos h
theorem minus_out {G : Hp} {ps : List Addr} {b : Addr} (h : b ∉ ps) : minusH G ps b = G b := if_neg h
theorem plus_in {G H : Hp} {ps : List Addr} {b : Addr} (h : b ∈ ps) : plusH G H ps b = H b := if_pos h
theorem plus_out {G H : Hp} {ps : List Addr} {b : Addr} (h : b ∉ ps) : plusH G H ps b = G b := if_neg h
theorem minus_ex {G : Hp} {ps : List Addr} : Ex (minusH G ps) G := fun b o e => by
  by_cases h : b ∈ ps
  · rw [minus_in h] at e
    cases e
  · rw [minus_out h] at e
    exact e
theorem ex_minus {G G' : Hp} {ps : List Addr} (e : Ex G G') (h : ∀ p ∈ ps, G p = none) : Ex G (minusH G' ps) := fun b o q => by
  have hb : b ∉ ps := fun z => by
    rw [h b z] at q
    cases q
  rw [minus_out hb]
  exact e b o q
theorem plus_H {G H : Hp} {ps : List Addr} (i : Ex G H) : Ex (plusH G H ps) H := fun b o e => by
  by_cases h : b ∈ ps
  · rw [plus_in h] at e
    exact e
  · rw [plus_out h] at e
    exact i b o e
theorem ex_plus {G H : Hp} {ps : List Addr} (h : ∀ p ∈ ps, G p = none) : Ex G (plusH G H ps) := fun b o q => by
  have hb : b ∉ ps := fun z => by
    rw [h b z] at q
    cases q
  rw [plus_out hb]
  exact q
/-- data without addresses -/
def isAt : PyData → Bool
  | .none => true
  | .bool _ => true
  | .int _ => true
  | .str _ => true
  | _ => false
theorem DD.at {G G' : Hp} {v : V} {d : PyData} (h : DD G v d) (a : isAt d = true) : DD G' v d := by
  cases h <;> first | cases a; done | exact .non | exact .bl _ | exact .int _ | exact .str _
theorem DDs.at {G G' : Hp} : ∀ {vs : List V} {ds : List PyData}, DDs G vs ds → (∀ d ∈ ds, isAt d = true) → DDs G' vs ds
  | _, _, .nil, _ => .nil
  | _, _, .cons h t, a => .cons (h.at (a _ List.mem_cons_self)) (t.at fun d hd => a d (List.mem_cons_of_mem _ hd))
theorem SD.know {G : Hp} {s : L2.St} {q : Sd} {i : Nat} {v : V} {d : PyData} (S : SD G s q) (hs : s[i]? = some (some v)) (h : DD G v d) : SD G s (q.set i (some d)) :=
  ⟨by rw [List.length_set]; exact S.len, fun j e z => by
    by_cases hj : i = j
    · subst hj
      have hl : i < q.length := by
        have := (List.getElem?_eq_some_iff.mp z).1
        rwa [List.length_set] at this
      rw [List.getElem?_set_self hl] at z
      cases z
      exact ⟨v, hs, h⟩
    · rw [List.getElem?_set_ne hj] at z
      exact S.get j e z⟩
theorem wipe_get {s : L2.St} {i : Nat} : ∀ {js : List Nat}, i ∉ js → (wipe s js)[i]? = s[i]?
  | [], _ => rfl
  | j :: js, h => by
    have h1 : j ≠ i := fun z => h (z ▸ List.mem_cons_self)
    have h2 : i ∉ js := fun z => h (List.mem_cons_of_mem _ z)
    show ((wipe s js).set j none)[i]? = s[i]?
    rw [List.getElem?_set_ne h1]
    exact wipe_get h2

section
variable {K : PySem.W.Frag} {Gb Hb G H G' H' : Hp} {q q2 : Sd} {M : Mu} {ps : List Addr} {s s' : L2.St} {te : TE} {tt : TT} {d : PyData} {ds : List PyData}
theorem MSt.start (S : SD G s q) (n : Nx Gb Hb G H) : MSt Gb Hb q [] s H := ⟨G, [], S, n, rfl, .nil, fun j i ds h => by simp at h⟩
theorem MS.mem (h : MS Gb Hb q M G ps s H) {p : Addr} (hp : p ∈ ps) : ∃ (j i : Nat) (ds : List PyData), ps[j]? = some p ∧ M[j]? = some (i, ds) ∧ MuAt G Hb s H i ds p := by
  obtain ⟨j, hj⟩ := List.mem_iff_getElem?.mp hp
  have hl : j < M.length := by
    rw [← h.len]
    exact (List.getElem?_eq_some_iff.mp hj).1
  obtain ⟨i, ds, hx⟩ : ∃ i ds, M[j] = (i, ds) := ⟨M[j].1, M[j].2, rfl⟩
  have hm : M[j]? = some (i, ds) := by rw [List.getElem?_eq_getElem hl, hx]
  obtain ⟨p2, h2, m⟩ := h.mu j i ds hm
  rw [hj] at h2
  cases h2
  exact ⟨j, i, ds, hj, hm, m⟩
theorem MS.gps (h : MS Gb Hb q M G ps s H) : ∀ p ∈ ps, G p = none := fun p hp => let ⟨_, _, _, _, _, m⟩ := h.mem hp; m.gp
theorem MS.bps (h : MS Gb Hb q M G ps s H) : ∀ p ∈ ps, Hb p = none := fun p hp => let ⟨_, _, _, _, _, m⟩ := h.mem hp; m.bp
theorem MS.hps (h : MS Gb Hb q M G ps s H) : ∀ p ∈ ps, H p ≠ none := fun p hp z => by
  obtain ⟨_, _, _, _, _, m⟩ := h.mem hp
  obtain ⟨xs, e, _⟩ := m.hp
  rw [z] at e
  cases e
/-- a world further -/
theorem MS.up (h : MS Gb Hb q M G ps s H) (n : Nx G H G' H') : MS Gb Hb q M G' ps s H' :=
  ⟨h.S.up n.g, h.n.trans n, h.len, h.nd, fun j i ds e => by
    obtain ⟨p, hp, m⟩ := h.mu j i ds e
    obtain ⟨xs, hx, hd⟩ := m.hp
    exact ⟨p, hp, m.sl, ⟨xs, n.h _ _ hx, hd.up n.g⟩, n.n p (by rw [hx]; exact fun z => nomatch z) m.gp, m.bp⟩⟩
theorem MS.ext (h : MS Gb Hb q M G ps s H) (e : Ex H H') : MS Gb Hb q M G ps s H' := h.up (Nx.same h.n.i e)
theorem MS.SDp (h : MS Gb Hb q M G ps s H) : SD (plusH G H ps) s (qM q M) := by
  have key : ∀ (M' : Mu) (q' : Sd), (∀ x ∈ M', ∃ p, s[x.1]? = some (some (.ref p)) ∧ DD (plusH G H ps) (.ref p) (.list x.2)) → SD (plusH G H ps) s q' → SD (plusH G H ps) s (qM q' M') := by
    intro M'
    induction M' with
    | nil => intro q' _ S; exact S
    | cons x r ih =>
      intro q' hx S
      obtain ⟨p, hs, hd⟩ := hx x List.mem_cons_self
      exact ih (q'.set x.1 (some (.list x.2))) (fun y hy => hx y (List.mem_cons_of_mem _ hy)) (S.know hs hd)
  refine key M q (fun x hx => ?_) (h.S.up (ex_plus h.gps))
  obtain ⟨j, hj⟩ := List.mem_iff_getElem?.mp hx
  obtain ⟨p, hp, m⟩ := h.mu j x.1 x.2 hj
  obtain ⟨xs, hx, hd⟩ := m.hp
  exact ⟨p, m.sl, .lst (by rw [plus_in (List.mem_of_getElem? hp)]; exact hx) (hd.up (ex_plus h.gps))⟩
/-- back from a world in which the changing lists were read -/
theorem MS.back (h : MS Gb Hb q M G ps s H) (n : Nx (plusH G H ps) H G' H') : Nx G H (minusH G' ps) H' where
  g := ex_minus ((ex_plus h.gps).trans n.g) h.gps
  h := n.h
  i := minus_ex.trans n.i
  n := fun b hb hg => by
    by_cases hp : b ∈ ps
    · exact minus_in hp
    · rw [minus_out hp]
      exact n.n b hb (by rw [plus_out hp]; exact hg)
theorem MS.ev (h : MS Gb Hb q M G ps s H) (e : EvD te s G d) {Q : VK} (k : ∀ v G' H', MS Gb Hb q M G' ps s H' → DD G' v d → Nx G H G' H' → Q v H') : te s H Q :=
  e G H (Ex.refl _) h.n.i Q fun v G' H' n hv => k v G' H' (h.up n) hv n
theorem MS.evS (h : MS Gb Hb q M G ps s H) (e : EvD te s (plusH G H ps) d) (a : isAt d = true) {Q : VK} (k : ∀ v G' H', MS Gb Hb q M G' ps s H' → DD G' v d → Nx G H G' H' → Q v H') : te s H Q :=
  e (plusH G H ps) H (Ex.refl _) (plus_H h.n.i) Q fun v G' H' n hv => k v _ H' (h.up (h.back n)) (hv.at a) (h.back n)
theorem MS.evT {b : Bool} {Q : Bool → Hp → Prop} (h : MS Gb Hb q M G ps s H) (e : EvT tt s (plusH G H ps) b) (k : ∀ H', MS Gb Hb q M G ps s H' → Q b H') : tt s H Q :=
  e H (plus_H h.n.i) Q fun H' e' => k H' (h.ext e')
theorem MS.evPS {Pd : PyData → Prop} (h : MS Gb Hb q M G ps s H) (e : EvP te s (plusH G H ps) Pd) (a : ∀ d, Pd d → isAt d = true) {Q : VK} (k : ∀ v d G' H', Pd d → MS Gb Hb q M G' ps s H' → DD G' v d → Nx G H G' H' → Q v H') : te s H Q :=
  e (plusH G H ps) H (Ex.refl _) (plus_H h.n.i) Q fun v d G' H' hp n hv => k v d _ H' hp (h.up (h.back n)) (hv.at (a d hp)) (h.back n)
/-- slots set: the changing ones stay -/
theorem MS.slots (h : MS Gb Hb q M G ps s H) (S2 : SD G s' q2) (hs : ∀ x ∈ M, s'[x.1]? = s[x.1]?) : MS Gb Hb q2 M G ps s' H :=
  ⟨S2, h.n, h.len, h.nd, fun j i ds e => by
    obtain ⟨p, hp, m⟩ := h.mu j i ds e
    exact ⟨p, hp, (hs (i, ds) (List.mem_of_getElem? e)).trans m.sl, m.hp, m.gp, m.bp⟩⟩
theorem MS.weak (h : MS Gb Hb q M G ps s H) (l : leD q2 q) : MS Gb Hb q2 M G ps s H := h.slots (h.S.weak l) fun _ _ => rfl
theorem MSt.weak (h : MSt Gb Hb q M s H) (l : leD q2 q) : MSt Gb Hb q2 M s H := let ⟨G, ps, m⟩ := h; ⟨G, ps, m.weak l⟩
/-- the last one is no longer looked at -/
theorem MSt.drop {x : Nat × List PyData} (h : MSt Gb Hb q (M ++ [x]) s H) : MSt Gb Hb q M s H := by
  obtain ⟨G, ps, m⟩ := h
  have hl := m.len
  rw [List.length_append, List.length_singleton] at hl
  refine ⟨G, ps.take M.length, m.S, m.n, by rw [List.length_take]; omega, m.nd.sublist (List.take_sublist _ _), fun j i ds e => ?_⟩
  have hj := (List.getElem?_eq_some_iff.mp e).1
  obtain ⟨p, hp, a⟩ := m.mu j i ds (by rw [List.getElem?_append_left hj]; exact e)
  exact ⟨p, by rw [List.getElem?_take, if_pos hj]; exact hp, a⟩
/-- all stand from here on -/
theorem MSt.freeze (h : MSt Gb Hb q M s H) : ∃ G, SD G s (qM q M) ∧ Nx Gb Hb G H := by
  obtain ⟨G, ps, m⟩ := h
  refine ⟨plusH G H ps, m.SDp, m.n.g.trans (ex_plus m.gps), m.n.h, plus_H m.n.i, fun b hb hg => ?_⟩
  have hp : b ∉ ps := fun z => hb (m.bps b z)
  rw [plus_out hp]
  exact m.n.n b hb hg
/-- another base -/
theorem MS.rebase (h : MS Gb Hb q M G ps s H) : MS G (minusH H ps) q M G ps s H where
  S := h.S
  n := ⟨Ex.refl _, minus_ex, h.n.i, fun _ _ h => h⟩
  len := h.len
  nd := h.nd
  mu := fun j i ds e => by
    obtain ⟨p, hp, m⟩ := h.mu j i ds e
    exact ⟨p, hp, m.sl, m.hp, m.gp, minus_in (List.mem_of_getElem? hp)⟩
theorem MS.nb (h : MS Gb Hb q M G ps s H) : Nx Gb Hb G (minusH H ps) where
  g := h.n.g
  h := ex_minus h.n.h h.bps
  i := ex_minus h.n.i h.gps
  n := h.n.n
theorem MSt.lift {G1 H1 : Hp} (n : Nx Gb Hb G1 H1) (h : MSt G1 H1 q M s H) : MSt Gb Hb q M s H := by
  obtain ⟨G, ps, m⟩ := h
  refine ⟨G, ps, m.S, n.trans m.n, m.len, m.nd, fun j i ds e => ?_⟩
  obtain ⟨p, hp, a⟩ := m.mu j i ds e
  exact ⟨p, hp, a.sl, a.hp, a.gp, fresh_back n.h a.bp⟩

/-! ### a new list -/
def EvF (te : TE) (s : L2.St) (G0 : Hp) (ds : List PyData) : Prop := ∀ G H, Ex G0 G → Ex G H → ∀ Q : VK, (∀ p xs G' H', Nx G H G' H' → G' p = none → H p = none → H' p = some (.lst xs) → DDs G' xs ds → Q (.ref p) H') → te s H Q
variable {G0 : Hp} {tr : TA} {ta tb : TE}
theorem ef_lst (h : EvDs tr s G0 ds) (hl : ds.length ≤ 100000 := by decide) : EvF (tLst tr) s G0 ds := fun G H e i Q k =>
  h G H e i _ fun vs G2 H2 n2 h2 => ⟨by rw [h2.len]; exact sz_of hl, fun p np => k p vs G2 _ (n2.trans (Nx.same n2.i (Ex.new np))) (fresh_back n2.i np) (fresh_back n2.h np) upd_same h2⟩
theorem ef_if {t : TT} {b : Bool} (h : EvT t s G0 b) (h1 : b = true → EvF ta s G0 ds) (h2 : b = false → EvF tb s G0 ds) : EvF (tIf t ta tb) s G0 ds := fun G H e i Q k => h H (e.trans i) _ fun H2 e2 => by
  cases b with
  | true =>
    show ta s H2 Q
    exact h1 rfl G H2 e (i.trans e2) Q fun p xs G3 H3 n g f z w => k p xs G3 H3 ((Nx.same i e2).trans n) g (fresh_back e2 f) z w
  | false =>
    show tb s H2 Q
    exact h2 rfl G H2 e (i.trans e2) Q fun p xs G3 H3 n g f z w => k p xs G3 H3 ((Nx.same i e2).trans n) g (fresh_back e2 f) z w
theorem ef_listRg {n : Nat} (ha : EvD ta s G0 (.int (n : Nat))) (hn : n ≤ 1000000) : EvF (tLstRg (tRg1 ta)) s G0 (intsD 0 n) := fun G H e i Q k =>
  ha G H e i _ fun v G2 H2 n2 hv => by
    cases hv.eqInt
    refine ⟨_, rfl, RgOk.of_le (Int.le_refl _) (by omega) (by decide) (by omega), fun p np => k p _ G2 _ (n2.trans (Nx.same n2.i (Ex.new np))) (fresh_back n2.i np) (fresh_back n2.h np) upd_same ?_⟩
    have e1 : rgV 0 (n : Nat) = ((List.range n).map fun i => (0 : Int) + (i : Nat)).map V.int := by
      unfold rgV
      rw [List.map_map, show (((n : Nat) : Int) - 0).toNat = n by omega]
      rfl
    have e2 : intsD 0 n = ((List.range n).map fun i => (0 : Int) + (i : Nat)).map PyData.int := by
      unfold intsD
      rw [List.map_map]
      rfl
    rw [e1, e2]
    exact DDs.ofInts _
theorem DDs.rep {G : Hp} {vs : List V} {ds : List PyData} (h : DDs G vs ds) : ∀ n : Nat, DDs G (List.replicate n vs).flatten (List.replicate n ds).flatten
  | 0 => .nil
  | n + 1 => by
    rw [List.replicate_succ, List.replicate_succ, List.flatten_cons, List.flatten_cons]
    exact h.app (DDs.rep h n)
theorem ef_rep {n : Nat} (ha : EvF ta s G0 ds) (hb : EvD tb s G0 (.int (n : Nat))) (hl : ds.length * n ≤ 100000) (hn : n ≤ 100000) : EvF (tOp rRep ta tb) s G0 (List.replicate n ds).flatten := fun G H e i Q k =>
  ha G H e i _ fun p xs G2 H2 n2 g2 f2 z2 w2 => hb G2 H2 (e.trans n2.g) n2.i _ fun v G3 H3 n3 hv => by
    cases hv.eqInt
    refine ⟨p, _, xs, rfl, rfl, n3.h _ _ z2, by omega, by omega, by rw [w2.len, Int.toNat_natCast]; exact sz_of hl, fun p2 np => ?_⟩
    have n4 := n2.trans n3
    rw [Int.toNat_natCast]
    exact k p2 _ G3 _ (n4.trans (Nx.same n4.i (Ex.new np))) (fresh_back n4.i np) (fresh_back n4.h np) upd_same ((w2.up n3.g).rep n)

def noI (M : Mu) (i : Nat) : Bool := M.all fun x => x.1 != i
theorem noI_ne {M : Mu} {i : Nat} (h : noI M i = true) : ∀ x ∈ M, x.1 ≠ i := fun x hx => by simpa using List.all_eq_true.mp h x hx
def noJ (M : Mu) (js : List Nat) : Bool := M.all fun x => !js.contains x.1
theorem noJ_ne {M : Mu} {js : List Nat} (h : noJ M js = true) : ∀ x ∈ M, x.1 ∉ js := fun x hx => by simpa using List.all_eq_true.mp h x hx
/-! ### statements -/
variable {D : Ends} {tz tu tw : TS}
theorem m_set {i : Nat} (hM : MSt Gb Hb q M s H) (hi : noI M i = true) (h : ∀ G, SD G s q → EvD te s G d) (k : ∀ s' H', MSt Gb Hb (q.set i (some d)) M s' H' → D.nx s' H') : tAsg te (gName i) D s H := by
  obtain ⟨G, ps, m⟩ := hM
  exact m.ev (h G m.S) fun v G' H' m' hv _ => k _ H' ⟨G', ps, m'.slots (m'.S.set i hv) fun x hx => List.getElem?_set_ne (Ne.symm (noI_ne hi x hx))⟩
theorem m_setS {i : Nat} (hM : MSt Gb Hb q M s H) (hi : noI M i = true) (h : ∀ G, SD G s (qM q M) → EvD te s G d) (a : isAt d = true) (k : ∀ s' H', MSt Gb Hb (q.set i (some d)) M s' H' → D.nx s' H') : tAsg te (gName i) D s H := by
  obtain ⟨G, ps, m⟩ := hM
  exact m.evS (h _ m.SDp) a fun v G' H' m' hv _ => k _ H' ⟨G', ps, m'.slots (m'.S.set i hv) fun x hx => List.getElem?_set_ne (Ne.symm (noI_ne hi x hx))⟩
theorem m_setPS {i : Nat} {Pd : PyData → Prop} (hM : MSt Gb Hb q M s H) (hi : noI M i = true) (h : ∀ G, SD G s (qM q M) → EvP te s G Pd) (a : ∀ d, Pd d → isAt d = true) (k : ∀ d s' H', Pd d → MSt Gb Hb (q.set i (some d)) M s' H' → D.nx s' H') : tAsg te (gName i) D s H := by
  obtain ⟨G, ps, m⟩ := hM
  exact m.evPS (h _ m.SDp) a fun v d G' H' hp m' hv _ => k d _ H' hp ⟨G', ps, m'.slots (m'.S.set i hv) fun x hx => List.getElem?_set_ne (Ne.symm (noI_ne hi x hx))⟩
theorem m_asg {g : TG} {js : List Nat} (hM : MSt Gb Hb q M s H) (h : ∀ G, SD G s q → EvD te s G d) (hg : TgD g js q d q2) (hj : noJ M js = true) (k : ∀ s' H', MSt Gb Hb q2 M s' H' → D.nx s' H') : tAsg te g D s H := by
  obtain ⟨G, ps, m⟩ := hM
  refine m.ev (h G m.S) fun v G' H' m' hv _ => hg s G' H' v _ m'.S m'.n.i hv fun s2 S2 w2 => k s2 H' ⟨G', ps, m'.slots S2 fun x hx => ?_⟩
  have e := w2 js fun _ h => h
  rw [← wipe_get (s := s2) (noJ_ne hj x hx), ← wipe_get (s := s) (noJ_ne hj x hx), e]
theorem m_aug {i : Nat} {f : Int → Int → Int} {a b : Int} (hM : MSt Gb Hb q M s H) (hi : noI M i = true) (ha : q[i]? = some (some (.int a))) (h : ∀ G, SD G s (qM q M) → EvD te s G (.int b)) (k : ∀ s' H', MSt Gb Hb (q.set i (some (.int (f a b)))) M s' H' → D.nx s' H') : tAug i te (ipI f) D s H := by
  obtain ⟨G, ps, m⟩ := hM
  obtain ⟨v, e, z⟩ := m.S.get i _ ha
  cases z.eqInt
  exact ⟨_, e, m.evS (h _ m.SDp) rfl fun v G' H' m' hv _ => by
    cases hv.eqInt
    exact ⟨a, b, rfl, rfl, k _ H' ⟨G', ps, m'.slots (m'.S.set i (.int _)) fun x hx => List.getElem?_set_ne (Ne.symm (noI_ne hi x hx))⟩⟩⟩
theorem m_if {t : TT} {b : Bool} (hM : MSt Gb Hb q M s H) (h : ∀ G, SD G s (qM q M) → EvT t s G b) (h1 : b = true → ∀ H', MSt Gb Hb q M s H' → tu D s H') (h2 : b = false → ∀ H', MSt Gb Hb q M s H' → tw D s H') : tIfS t tu tw D s H := by
  obtain ⟨G, ps, m⟩ := hM
  refine m.evT (h _ m.SDp) fun H' m' => ?_
  cases b with
  | true => exact h1 rfl H' ⟨G, ps, m'⟩
  | false => exact h2 rfl H' ⟨G, ps, m'⟩
theorem MS.add {i : Nat} {p : Addr} {xs : List V} {v : V} (m : MS Gb Hb q M G ps s H) (hi : ∀ x ∈ M, x.1 ≠ i) (hil : i < s.length) (hH : H p = some (.lst xs)) (hd : DDs G xs ds) (gp : G p = none) (bp : Hb p = none) (np : p ∉ ps) :
    MS Gb Hb (q.set i none) (M ++ [(i, ds)]) G (ps ++ [p]) (s.set i (some (.ref p))) H where
  S := m.S.lose i _
  n := m.n
  len := by rw [List.length_append, List.length_append, m.len]; rfl
  nd := List.nodup_append.mpr ⟨m.nd, by simp, fun a ha b hb e => by
    rw [List.mem_singleton] at hb
    subst hb
    exact np (e ▸ ha)⟩
  mu := fun j i2 ds2 e => by
    by_cases hj : j < M.length
    · rw [List.getElem?_append_left hj] at e
      obtain ⟨p2, h2, a⟩ := m.mu j i2 ds2 e
      have hne := hi _ (List.mem_of_getElem? e)
      exact ⟨p2, by rw [List.getElem?_append_left (by rw [m.len]; exact hj)]; exact h2, by rw [List.getElem?_set_ne (Ne.symm hne)]; exact a.sl, a.hp, a.gp, a.bp⟩
    · have hj2 : j = M.length := by
        have := (List.getElem?_eq_some_iff.mp e).1
        rw [List.length_append, List.length_singleton] at this
        omega
      subst hj2
      rw [List.getElem?_append_right (Nat.le_refl _), Nat.sub_self] at e
      cases e
      refine ⟨p, by rw [← m.len, List.getElem?_append_right (Nat.le_refl _), Nat.sub_self] <;> rfl, by rw [List.getElem?_set_self hil], ⟨xs, hH, hd⟩, gp, bp⟩
/-- name = a new list, that will change; what it is made of reads no changing one -/
theorem m_new {i : Nat} (hM : MSt Gb Hb q M s H) (hi : noI M i = true) (hil : Nat.blt i q.length = true) (h : ∀ G, SD G s q → EvF te s G ds) (k : ∀ s' H', MSt Gb Hb (q.set i none) (M ++ [(i, ds)]) s' H' → D.nx s' H') : tAsg te (gName i) D s H := by
  obtain ⟨G, ps, m⟩ := hM
  refine h G m.S G H (Ex.refl _) m.n.i _ fun p xs G' H' n g f z w => ?_
  have m' := m.up n
  exact k _ H' ⟨G', ps ++ [p], m'.add (v := .ref p) (noI_ne hi) (by rw [m.S.len]; exact Nat.blt_eq.mp hil) z w g (fresh_back m.n.h f) fun hp => m.hps p hp f⟩
/-- .. of atoms, which may be read off changing ones -/
theorem m_newS {i : Nat} (hM : MSt Gb Hb q M s H) (hi : noI M i = true) (hil : Nat.blt i q.length = true) (h : ∀ G, SD G s (qM q M) → EvF te s G ds) (a : ∀ d ∈ ds, isAt d = true) (k : ∀ s' H', MSt Gb Hb (q.set i none) (M ++ [(i, ds)]) s' H' → D.nx s' H') : tAsg te (gName i) D s H := by
  obtain ⟨G, ps, m⟩ := hM
  refine h _ m.SDp (plusH G H ps) H (Ex.refl _) (plus_H m.n.i) _ fun p xs G' H' n g f z w => ?_
  have m' := m.up (m.back n)
  have np : p ∉ ps := fun hp => m.hps p hp f
  exact k _ H' ⟨_, ps ++ [p], m'.add (v := .ref p) (noI_ne hi) (by rw [m.S.len]; exact Nat.blt_eq.mp hil) z (w.at a) (by rw [minus_out np]; exact g) (fresh_back m.n.h f) np⟩
/-- a changing list written -/
theorem MS.write {j i : Nat} {ds2 : List PyData} {p : Addr} {xs2 : List V} (m : MS Gb Hb q M G ps s H) (hj : M[j]? = some (i, ds)) (hp : ps[j]? = some p) (hd : DDs G xs2 ds2) : MS Gb Hb q (M.set j (i, ds2)) G ps s (upd H p (.lst xs2)) := by
  obtain ⟨p', hp', a⟩ := m.mu j i ds hj
  rw [hp] at hp'
  cases hp'
  refine ⟨m.S, ⟨m.n.g, m.n.h.mut a.bp, m.n.i.mut a.gp, m.n.n⟩, by rw [List.length_set]; exact m.len, m.nd, fun j2 i2 ds3 e => ?_⟩
  by_cases hjj : j = j2
  · subst hjj
    have hl : j < M.length := (List.getElem?_eq_some_iff.mp hj).1
    rw [List.getElem?_set_self hl] at e
    cases e
    exact ⟨p, hp, a.sl, ⟨xs2, upd_same, hd⟩, a.gp, a.bp⟩
  · rw [List.getElem?_set_ne hjj] at e
    obtain ⟨p2, h2, b⟩ := m.mu j2 i2 ds3 e
    obtain ⟨xs, hx, hd2⟩ := b.hp
    have hne : p2 ≠ p := fun z => by
      subst z
      obtain ⟨l1, q1⟩ := List.getElem?_eq_some_iff.mp hp
      obtain ⟨l2, q2⟩ := List.getElem?_eq_some_iff.mp h2
      rcases Nat.lt_or_gt_of_ne hjj with c | c
      · exact List.pairwise_iff_getElem.mp m.nd j j2 l1 l2 c (q1.trans q2.symm)
      · exact List.pairwise_iff_getElem.mp m.nd j2 j l2 l1 c (q2.trans q1.symm)
    exact ⟨p2, h2, b.sl, ⟨xs, by rw [upd_ne hne]; exact hx, hd2⟩, b.gp, b.bp⟩
/-- x.append(atom) -/
theorem m_append {j i : Nat} (hM : MSt Gb Hb q M s H) (hj : M[j]? = some (i, ds)) (h : ∀ G, SD G s (qM q M) → EvD te s G d) (a : isAt d = true) (hl : ds.length ≤ 40000) (k : ∀ H', MSt Gb Hb q (M.set j (i, ds ++ [d])) s H' → D.nx s H') :
    tDrop (tBM K "list" rAppend (tVar i) (tCons te tNil)) D s H := by
  obtain ⟨G, ps, m⟩ := hM
  obtain ⟨p, hp, b⟩ := m.mu j i ds hj
  obtain ⟨xs, hx, hd⟩ := b.hp
  refine ⟨.ref p, b.sl, .inl ⟨rfl, xs, SqL.of hx⟩, m.evS (h _ m.SDp) a fun v G' H' m' hv n => ?_⟩
  have hd' := hd.up n.g
  exact ⟨p, xs, v, rfl, rfl, n.h _ _ hx, by rw [hd.len]; exact sz_lt (by omega), k _ ⟨G', ps, m'.write hj hp (hd'.app (.one hv))⟩⟩
/-- x.append(anything made of what stands) -/
theorem m_appendG {j i : Nat} (hM : MSt Gb Hb q M s H) (hj : M[j]? = some (i, ds)) (h : ∀ G, SD G s q → EvD te s G d) (hl : ds.length ≤ 40000) (k : ∀ H', MSt Gb Hb q (M.set j (i, ds ++ [d])) s H' → D.nx s H') :
    tDrop (tBM K "list" rAppend (tVar i) (tCons te tNil)) D s H := by
  obtain ⟨G, ps, m⟩ := hM
  obtain ⟨p, hp, b⟩ := m.mu j i ds hj
  obtain ⟨xs, hx, hd⟩ := b.hp
  refine ⟨.ref p, b.sl, .inl ⟨rfl, xs, SqL.of hx⟩, m.ev (h _ m.S) fun v G' H' m' hv n => ?_⟩
  have hd' := hd.up n.g
  exact ⟨p, xs, v, rfl, rfl, n.h _ _ hx, by rw [hd.len]; exact sz_lt (by omega), k _ ⟨G', ps, m'.write hj hp (hd'.app (.one hv))⟩⟩
/-- x.append(y), y the last changing list: it changes no more -/
theorem m_appendM {j i i2 : Nat} {ds2 : List PyData} (hM : MSt Gb Hb q (M ++ [(i2, ds2)]) s H) (hj : M[j]? = some (i, ds)) (hl : ds.length ≤ 40000) (k : ∀ H', MSt Gb Hb (q.set i2 (some (.list ds2))) (M.set j (i, ds ++ [.list ds2])) s H' → D.nx s H') :
    tDrop (tBM K "list" rAppend (tVar i) (tCons (tVar i2) tNil)) D s H := by
  obtain ⟨G, ps, m⟩ := hM
  have hjl : j < M.length := (List.getElem?_eq_some_iff.mp hj).1
  obtain ⟨p, hp, b⟩ := m.mu j i ds (by rw [List.getElem?_append_left hjl]; exact hj)
  obtain ⟨xs, hx, hd⟩ := b.hp
  obtain ⟨p2, hp2, b2⟩ := m.mu M.length i2 ds2 (by rw [List.getElem?_append_right (Nat.le_refl _), Nat.sub_self] <;> rfl)
  obtain ⟨xs2, hx2, hd2⟩ := b2.hp
  refine ⟨.ref p, b.sl, .inl ⟨rfl, xs, SqL.of hx⟩, ⟨.ref p2, b2.sl, ⟨p, xs, .ref p2, rfl, rfl, hx, by rw [hd.len]; exact sz_lt (by omega), k _ ?_⟩⟩⟩
  have hlen := m.len
  rw [List.length_append, List.length_singleton] at hlen
  -- G with p2
  have e2 : Ex G (upd G p2 (.lst xs2)) := Ex.new b2.gp
  have dd2 : DD (upd G p2 (.lst xs2)) (.ref p2) (.list ds2) := .lst upd_same (hd2.up e2)
  have mt : MS Gb Hb (q.set i2 (some (.list ds2))) M (upd G p2 (.lst xs2)) (ps.take M.length) s H := by
    refine ⟨(m.S.up e2).know b2.sl dd2, ⟨m.n.g.trans e2, m.n.h, fun c o z => ?_, fun c hc hg => ?_⟩, by rw [List.length_take]; omega, m.nd.sublist (List.take_sublist _ _), fun j' i' ds' e => ?_⟩
    · by_cases hc : c = p2
      · rw [hc, upd_same] at z
        cases z
        rw [hc]
        exact hx2
      · rw [upd_ne hc] at z
        exact m.n.i c o z
    · have hc2 : c ≠ p2 := fun z => hc (z ▸ b2.bp)
      rw [upd_ne hc2]
      exact m.n.n c hc hg
    · have hj' := (List.getElem?_eq_some_iff.mp e).1
      obtain ⟨p', hp', a⟩ := m.mu j' i' ds' (by rw [List.getElem?_append_left hj']; exact e)
      obtain ⟨ys, hy, hyd⟩ := a.hp
      have hne : p' ≠ p2 := fun z => by
        subst z
        obtain ⟨l1, q1⟩ := List.getElem?_eq_some_iff.mp hp'
        obtain ⟨l2, q2⟩ := List.getElem?_eq_some_iff.mp hp2
        exact List.pairwise_iff_getElem.mp m.nd j' M.length l1 l2 hj' (q1.trans q2.symm)
      exact ⟨p', by rw [List.getElem?_take, if_pos hj']; exact hp', a.sl, ⟨ys, hy, hyd.up e2⟩, by rw [upd_ne hne]; exact a.gp, a.bp⟩
  exact ⟨_, _, mt.write hj (by rw [List.getElem?_take, if_pos hjl]; exact hp) ((hd.up e2).app (.one dd2))⟩
/-- x[i] = atom -/
theorem m_setitem {j i k0 : Nat} {ti : TE} {i0 : Int} (hM : MSt Gb Hb q M s H) (hj : M[j]? = some (i, ds)) (h : ∀ G, SD G s (qM q M) → EvD te s G d) (a : isAt d = true) (hi : ∀ G, SD G s (qM q M) → EvD ti s G (.int i0)) (hx : ixN ds.length i0 = some k0)
    (k : ∀ H', MSt Gb Hb q (M.set j (i, ds.set k0 d)) s H' → D.nx s H') : tAsg te (gSub (tVar i) ti rSetL) D s H := by
  obtain ⟨G, ps, m⟩ := hM
  refine m.evS (h _ m.SDp) a fun v G' H' m' hv n => ?_
  obtain ⟨p, hp, b⟩ := m'.mu j i ds hj
  refine ⟨.ref p, b.sl, m'.evS (hi _ m'.SDp) rfl fun v2 G2 H2 m2 hv2 n2 => ?_⟩
  cases hv2.eqInt
  obtain ⟨p', hp', b'⟩ := m2.mu j i ds hj
  rw [hp] at hp'
  cases hp'
  obtain ⟨xs, hxs, hd⟩ := b'.hp
  refine ⟨p, xs, i0, k0, rfl, rfl, hxs, by rw [hd.len]; exact hx, k _ ⟨G2, ps, m2.write hj hp (?_ : DDs G2 (xs.set k0 v) (ds.set k0 d))⟩⟩
  have hv2 := hv.up n2.g
  clear hxs hx hj b b' k
  have key : ∀ {xs : List V} {ds : List PyData} (k0 : Nat), DDs G2 xs ds → DDs G2 (xs.set k0 v) (ds.set k0 d) := by
    intro xs
    induction xs with
    | nil => intro ds k0 h; cases h; exact .nil
    | cons x r ih =>
      intro ds k0 h
      cases h with
      | cons h1 h2 =>
        cases k0 with
        | zero => exact .cons hv2 h2
        | succ k0 => exact .cons h1 (ih k0 h2)
  exact key k0 hd
/-- x.remove(an int) -/
theorem m_remove {j i k0 : Nat} {ns : List Int} {n0 : Int} (hM : MSt Gb Hb q M s H) (hj : M[j]? = some (i, ns.map .int)) (h : ∀ G, SD G s (qM q M) → EvD te s G (.int n0)) (h1 : ns[k0]? = some n0) (h2 : ∀ m : Nat, m < k0 → ns[m]? ≠ some n0)
    (k : ∀ H', MSt Gb Hb q (M.set j (i, (ns.eraseIdx k0).map .int)) s H' → D.nx s H') : tDrop (tBM K "list" rRemI (tVar i) (tCons te tNil)) D s H := by
  obtain ⟨G, ps, m⟩ := hM
  obtain ⟨p, hp, b⟩ := m.mu j i _ hj
  obtain ⟨xs, hx, hd⟩ := b.hp
  cases hd.ints
  refine ⟨.ref p, b.sl, .inl ⟨rfl, _, SqL.of hx⟩, m.evS (h _ m.SDp) rfl fun v G' H' m' hv n => ?_⟩
  cases hv.eqInt
  exact ⟨p, ns, n0, k0, rfl, rfl, n.h _ _ hx, h1, h2, k _ ⟨G', ps, m'.write hj hp (DDs.ofInts _)⟩⟩

/-! ### loops -/
def LM (Gb Hb : Hp) (P : Sd → Mu → Prop) : L2.St → Hp → Prop := fun s H => ∃ q M, P q M ∧ MSt Gb Hb q M s H
theorem m_for {wi : TI} {g : TG} {js : List Nat} {tb : TS} (Pv : Nat → Sd → Mu → Prop) (hM : MSt Gb Hb q M s H) (h0 : Pv 0 q M) (hI : ∀ G, SD G s q → EvI wi s G ds)
    (hb : ∀ (i : Nat) (d : PyData) (q : Sd) (M : Mu), ds[i]? = some d → Pv i q M → noJ M js = true ∧ ∃ q2, TgD g js q d q2 ∧
      ∀ Gc Hc, Nx Gb Hb Gc Hc → ∀ s' H', MSt Gc Hc q2 M s' H' → tb { D with nx := LM Gc Hc (Pv (i + 1)), ct := LM Gc Hc (Pv (i + 1)), bk := D.nx } s' H')
    (hd : ∀ q M s' H', Pv ds.length q M → MSt Gb Hb q M s' H' → D.nx s' H') : tFor wi g tb D s H := by
  obtain ⟨G, ps, m⟩ := hM
  refine hI G m.S G H (Ex.refl _) m.n.i _ fun J G2 H2 n2 W => ?_
  have m2 := m.up n2
  refine for_it W (fun i s' H' => LM G2 (minusH H2 ps) (Pv i) s' H') ⟨q, M, h0, G2, ps, m2.rebase⟩ (fun i s' H' _ p => ?_) (fun i x s' H' H'' hi p y => ?_) fun s' H' p => ?_
  · obtain ⟨_, _, _, G', _, m'⟩ := p
    exact m'.n.g.trans m'.n.i
  · obtain ⟨q', M', hp, G', ps', m'⟩ := p
    obtain ⟨G3, d, n3, hdi, hx⟩ := y G' m'.n.g m'.n.i
    obtain ⟨hj, q2, hg, hbody⟩ := hb i d q' M' hdi hp
    have m3 := m'.up n3
    refine hg s' G3 H'' x _ m3.S m3.n.i hx fun s2 S2 w2 => hbody G2 (minusH H2 ps) m2.nb s2 H'' ⟨G3, ps', m3.slots S2 fun x hx => ?_⟩
    have e := w2 js fun _ h => h
    rw [← wipe_get (s := s2) (noJ_ne hj x hx), ← wipe_get (s := s') (noJ_ne hj x hx), e]
  · obtain ⟨q', M', hp, hm⟩ := p
    exact hd q' M' s' H' hp (hm.lift m2.nb)
theorem m_while {α : Type} {c : TT} {tb : TS} (Pv : α → Sd → Mu → Prop) (mu : α → Nat) (cb : α → Bool) (a0 : α) (hM : MSt Gb Hb q M s H) (h0 : Pv a0 q M)
    (hc : ∀ a q M s' G', Pv a q M → SD G' s' (qM q M) → EvT c s' G' (cb a))
    (hb : ∀ a q M s' H', cb a = true → Pv a q M → MSt Gb Hb q M s' H' → tb { D with nx := fun s2 H2 => ∃ a', mu a' < mu a ∧ LM Gb Hb (Pv a') s2 H2, ct := fun s2 H2 => ∃ a', mu a' < mu a ∧ LM Gb Hb (Pv a') s2 H2, bk := D.nx } s' H')
    (hd : ∀ a q M s' H', cb a = false → Pv a q M → MSt Gb Hb q M s' H' → D.nx s' H') : tWhile c tb D s H := by
  refine ⟨fun m s' H' => ∃ a, mu a = m ∧ LM Gb Hb (Pv a) s' H', ⟨_, a0, rfl, q, M, h0, hM⟩, ?_⟩
  rintro m s' H' ⟨a, rfl, q', M', hp, hm⟩
  obtain ⟨G, ps, ms⟩ := id hm
  refine ms.evT (hc a q' M' s' _ hp ms.SDp) fun H2 m2 => ?_
  cases e : cb a with
  | true => exact ⟨_, fun s2 H3 ⟨a', hm', z⟩ => ⟨mu a', hm', a', rfl, z⟩, hb a q' M' s' H2 e hp ⟨G, ps, m2⟩⟩
  | false => exact hd a q' M' s' H2 e hp ⟨G, ps, m2⟩
/-! .. with the rest of a block behind them -/
theorem mq_set {i : Nat} (hM : MSt Gb Hb q M s H) (hi : noI M i = true) (h : ∀ G, SD G s q → EvD te s G d) (k : ∀ s' H', MSt Gb Hb (q.set i (some d)) M s' H' → tz D s' H') : tSeq (tAsg te (gName i)) tz D s H := m_set (D := { D with nx := tz D }) hM hi h k
theorem mq_setS {i : Nat} (hM : MSt Gb Hb q M s H) (hi : noI M i = true) (h : ∀ G, SD G s (qM q M) → EvD te s G d) (a : isAt d = true) (k : ∀ s' H', MSt Gb Hb (q.set i (some d)) M s' H' → tz D s' H') : tSeq (tAsg te (gName i)) tz D s H := m_setS (D := { D with nx := tz D }) hM hi h a k
theorem mq_setPS {i : Nat} {Pd : PyData → Prop} (hM : MSt Gb Hb q M s H) (hi : noI M i = true) (h : ∀ G, SD G s (qM q M) → EvP te s G Pd) (a : ∀ d, Pd d → isAt d = true) (k : ∀ d s' H', Pd d → MSt Gb Hb (q.set i (some d)) M s' H' → tz D s' H') : tSeq (tAsg te (gName i)) tz D s H := m_setPS (D := { D with nx := tz D }) hM hi h a k
theorem mq_asg {g : TG} {js : List Nat} (hM : MSt Gb Hb q M s H) (h : ∀ G, SD G s q → EvD te s G d) (hg : TgD g js q d q2) (hj : noJ M js = true) (k : ∀ s' H', MSt Gb Hb q2 M s' H' → tz D s' H') : tSeq (tAsg te g) tz D s H := m_asg (D := { D with nx := tz D }) hM h hg hj k
theorem mq_aug {i : Nat} {f : Int → Int → Int} {a b : Int} (hM : MSt Gb Hb q M s H) (hi : noI M i = true) (ha : q[i]? = some (some (.int a))) (h : ∀ G, SD G s (qM q M) → EvD te s G (.int b)) (k : ∀ s' H', MSt Gb Hb (q.set i (some (.int (f a b)))) M s' H' → tz D s' H') : tSeq (tAug i te (ipI f)) tz D s H := m_aug (D := { D with nx := tz D }) hM hi ha h k
theorem mq_if {t : TT} {b : Bool} (hM : MSt Gb Hb q M s H) (h : ∀ G, SD G s (qM q M) → EvT t s G b) (h1 : b = true → ∀ H', MSt Gb Hb q M s H' → tu { D with nx := tz D } s H') (h2 : b = false → ∀ H', MSt Gb Hb q M s H' → tw { D with nx := tz D } s H') : tSeq (tIfS t tu tw) tz D s H := m_if (D := { D with nx := tz D }) hM h h1 h2
/-- if c: .. without else -/
theorem mq_when {t : TT} {b : Bool} (hM : MSt Gb Hb q M s H) (h : ∀ G, SD G s (qM q M) → EvT t s G b) (h1 : b = true → ∀ H', MSt Gb Hb q M s H' → tu { D with nx := tz D } s H') (h2 : b = false → ∀ H', MSt Gb Hb q M s H' → tz D s H') : tSeq (tIfS t tu tNext) tz D s H := m_if (D := { D with nx := tz D }) hM h h1 h2
theorem mq_new {i : Nat} (hM : MSt Gb Hb q M s H) (hi : noI M i = true) (hil : Nat.blt i q.length = true) (h : ∀ G, SD G s q → EvF te s G ds) (k : ∀ s' H', MSt Gb Hb (q.set i none) (M ++ [(i, ds)]) s' H' → tz D s' H') : tSeq (tAsg te (gName i)) tz D s H := m_new (D := { D with nx := tz D }) hM hi hil h k
theorem mq_newS {i : Nat} (hM : MSt Gb Hb q M s H) (hi : noI M i = true) (hil : Nat.blt i q.length = true) (h : ∀ G, SD G s (qM q M) → EvF te s G ds) (a : ∀ d ∈ ds, isAt d = true) (k : ∀ s' H', MSt Gb Hb (q.set i none) (M ++ [(i, ds)]) s' H' → tz D s' H') : tSeq (tAsg te (gName i)) tz D s H := m_newS (D := { D with nx := tz D }) hM hi hil h a k
theorem mq_append {j i : Nat} (hM : MSt Gb Hb q M s H) (hj : M[j]? = some (i, ds)) (h : ∀ G, SD G s (qM q M) → EvD te s G d) (a : isAt d = true) (hl : ds.length ≤ 40000) (k : ∀ H', MSt Gb Hb q (M.set j (i, ds ++ [d])) s H' → tz D s H') : tSeq (tDrop (tBM K "list" rAppend (tVar i) (tCons te tNil))) tz D s H := m_append (D := { D with nx := tz D }) hM hj h a hl k
theorem mq_appendG {j i : Nat} (hM : MSt Gb Hb q M s H) (hj : M[j]? = some (i, ds)) (h : ∀ G, SD G s q → EvD te s G d) (hl : ds.length ≤ 40000) (k : ∀ H', MSt Gb Hb q (M.set j (i, ds ++ [d])) s H' → tz D s H') : tSeq (tDrop (tBM K "list" rAppend (tVar i) (tCons te tNil))) tz D s H := m_appendG (D := { D with nx := tz D }) hM hj h hl k
theorem mq_appendM {j i i2 : Nat} {ds2 : List PyData} (hM : MSt Gb Hb q (M ++ [(i2, ds2)]) s H) (hj : M[j]? = some (i, ds)) (hl : ds.length ≤ 40000) (k : ∀ H', MSt Gb Hb (q.set i2 (some (.list ds2))) (M.set j (i, ds ++ [.list ds2])) s H' → tz D s H') : tSeq (tDrop (tBM K "list" rAppend (tVar i) (tCons (tVar i2) tNil))) tz D s H := m_appendM (D := { D with nx := tz D }) hM hj hl k
theorem mq_setitem {j i k0 : Nat} {ti : TE} {i0 : Int} (hM : MSt Gb Hb q M s H) (hj : M[j]? = some (i, ds)) (h : ∀ G, SD G s (qM q M) → EvD te s G d) (a : isAt d = true) (hi : ∀ G, SD G s (qM q M) → EvD ti s G (.int i0)) (hx : ixN ds.length i0 = some k0)
    (k : ∀ H', MSt Gb Hb q (M.set j (i, ds.set k0 d)) s H' → tz D s H') : tSeq (tAsg te (gSub (tVar i) ti rSetL)) tz D s H := m_setitem (D := { D with nx := tz D }) hM hj h a hi hx k
theorem mq_remove {j i k0 : Nat} {ns : List Int} {n0 : Int} (hM : MSt Gb Hb q M s H) (hj : M[j]? = some (i, ns.map .int)) (h : ∀ G, SD G s (qM q M) → EvD te s G (.int n0)) (h1 : ns[k0]? = some n0) (h2 : ∀ m : Nat, m < k0 → ns[m]? ≠ some n0)
    (k : ∀ H', MSt Gb Hb q (M.set j (i, (ns.eraseIdx k0).map .int)) s H' → tz D s H') : tSeq (tDrop (tBM K "list" rRemI (tVar i) (tCons te tNil))) tz D s H := m_remove (D := { D with nx := tz D }) hM hj h h1 h2 k
theorem mq_for {wi : TI} {g : TG} {js : List Nat} {tb : TS} (Pv : Nat → Sd → Mu → Prop) (hM : MSt Gb Hb q M s H) (h0 : Pv 0 q M) (hI : ∀ G, SD G s q → EvI wi s G ds)
    (hb : ∀ (i : Nat) (d : PyData) (q : Sd) (M : Mu), ds[i]? = some d → Pv i q M → noJ M js = true ∧ ∃ q2, TgD g js q d q2 ∧
      ∀ Gc Hc, Nx Gb Hb Gc Hc → ∀ s' H', MSt Gc Hc q2 M s' H' → tb { D with nx := LM Gc Hc (Pv (i + 1)), ct := LM Gc Hc (Pv (i + 1)), bk := tz D } s' H')
    (hd : ∀ q M s' H', Pv ds.length q M → MSt Gb Hb q M s' H' → tz D s' H') : tSeq (tFor wi g tb) tz D s H := m_for (D := { D with nx := tz D }) Pv hM h0 hI hb hd
theorem mq_while {α : Type} {c : TT} {tb : TS} (Pv : α → Sd → Mu → Prop) (mu : α → Nat) (cb : α → Bool) (a0 : α) (hM : MSt Gb Hb q M s H) (h0 : Pv a0 q M)
    (hc : ∀ a q M s' G', Pv a q M → SD G' s' (qM q M) → EvT c s' G' (cb a))
    (hb : ∀ a q M s' H', cb a = true → Pv a q M → MSt Gb Hb q M s' H' → tb { D with nx := fun s2 H2 => ∃ a', mu a' < mu a ∧ LM Gb Hb (Pv a') s2 H2, ct := fun s2 H2 => ∃ a', mu a' < mu a ∧ LM Gb Hb (Pv a') s2 H2, bk := tz D } s' H')
    (hd : ∀ a q M s' H', cb a = false → Pv a q M → MSt Gb Hb q M s' H' → tz D s' H') : tSeq (tWhile c tb) tz D s H := m_while (D := { D with nx := tz D }) Pv mu cb a0 hM h0 hc hb hd
end
end K9

set_option Elab.async false
set_option linter.all false
set_option maxRecDepth 100000
set_option maxHeartbeats 4000000
/-! One machine: rows of work, the order of the least sum. -/
namespace K9
open PySem PySem.Spec PyProof.Rows L2 Evl
structure Rw where
  len : Int
  first : Int
  due : Int
  wt : Int
def rowL (r : Rw) : List PyData := [.int r.len, .int r.first, .int r.due, .int r.wt]
def rowD (r : Rw) : PyData := .tuple (rowL r)
def rowsD (rs : List Rw) : PyData := .list (rs.map rowD)
structure RwOk (r : Rw) : Prop where
  len : 1 ≤ r.len ∧ r.len ≤ 1000
  first : 0 ≤ r.first ∧ r.first ≤ 1000000
  due : 0 ≤ r.due ∧ r.due ≤ 1000000
  wt : 0 ≤ r.wt ∧ r.wt ≤ 1000
structure RowsOk (rs : List Rw) : Prop where
  ne : 1 ≤ rs.length
  most : rs.length ≤ 30
  all : ∀ r ∈ rs, RwOk r
theorem rowD_inj {a b : Rw} (h : rowD a = rowD b) : a = b := by
  unfold rowD rowL at h
  cases a
  cases b
  simp only [PyData.tuple.injEq, List.cons.injEq, PyData.int.injEq, and_true] at h
  obtain ⟨h1, h2, h3, h4⟩ := h
  subst h1 h2 h3 h4
  rfl
theorem noD_rows (rs : List Rw) : noDic (rowsD rs) = true := noDics_of fun d h => by
  obtain ⟨r, _, rfl⟩ := List.mem_map.mp h
  rfl
theorem map_inj {α β : Type} {f : α → β} (hf : ∀ a b, f a = f b → a = b) : ∀ {xs ys : List α}, xs.map f = ys.map f → xs = ys
  | [], [], _ => rfl
  | [], _ :: _, h => by cases h
  | _ :: _, [], h => by cases h
  | x :: xs, y :: ys, h => by
    rw [List.map_cons, List.map_cons] at h
    injection h with h1 h2
    rw [hf x y h1, map_inj hf h2]
theorem rowsD_inj {a b : List Rw} (h : rowsD a = rowsD b) : a = b := by
  unfold rowsD at h
  exact map_inj (fun _ _ => rowD_inj) (PyData.list.inj h)
def nD (L : List Nat) : List PyData := (L.map fun k : Nat => (k : Int)).map PyData.int
theorem nD_inj {a b : List Nat} (h : nD a = nD b) : a = b := by
  unfold nD at h
  exact map_inj (fun (x y : Nat) (e : (x : Int) = (y : Int)) => Int.ofNat.inj e) (map_inj (fun x y e => PyData.int.inj e) h)
theorem nD_len (L : List Nat) : (nD L).length = L.length := by unfold nD; rw [List.length_map, List.length_map]
theorem nD_get {L : List Nat} {j k : Nat} (h : L[j]? = some k) : (nD L)[j]? = some (.int (k : Nat)) := by unfold nD; rw [List.getElem?_map, List.getElem?_map, h]; rfl
theorem nD_got {L : List Nat} {j : Nat} {d : PyData} (h : (nD L)[j]? = some d) : ∃ k : Nat, L[j]? = some k ∧ d = .int (k : Nat) := by
  unfold nD at h
  rw [List.getElem?_map, List.getElem?_map] at h
  cases e : L[j]? with
  | none => rw [e] at h; cases h
  | some k =>
    rw [e] at h
    cases h
    exact ⟨k, rfl, rfl⟩
theorem nD_range (n : Nat) : intsD 0 n = nD (List.range n) := by
  unfold intsD nD
  rw [List.map_map]
  exact List.map_congr_left fun i _ => by simp
theorem nD_mem {L : List Nat} {d : PyData} (h : d ∈ nD L) : ∃ k ∈ L, d = .int (k : Nat) := by
  unfold nD at h
  rw [List.map_map] at h
  obtain ⟨k, hk, rfl⟩ := List.mem_map.mp h
  exact ⟨k, hk, rfl⟩
theorem nD_app (a b : List Nat) : nD (a ++ b) = nD a ++ nD b := by unfold nD; rw [List.map_append, List.map_append]
/-- nothing is asked of a statement that is never reached -/
theorem ps_dead {X : Cx} {st : Stmt} : PS X st (fun _ _ _ => False) := ⟨fun _ _ _ _ _ _ h => False.elim h⟩
section
variable {K : PySem.W.Frag} {s : L2.St} {G0 : Hp} {ta tb tc : TE} {rs : List Rw} {r : Rw} {k j : Nat} {d : PyData}
theorem dv_row (ha : EvD ta s G0 (rowsD rs)) (hb : EvD tb s G0 (.int (k : Nat))) (hk : rs[k]? = some r) : EvD (tOp (rIxL K) ta tb) s G0 (rowD r) :=
  dv_ixL ha hb (atI_nat (by rw [List.getElem?_map, hk]; rfl))
theorem dv_rowJ (j : Nat) (ha : EvD ta s G0 (rowsD rs)) (hb : EvD tb s G0 (.int (k : Nat))) (hk : rs[k]? = some r) (hj : (rowL r)[j]? = some d := by rfl) : EvD (tOp (rIxT K) (tOp (rIxL K) ta tb) (tC (.int (j : Nat)))) s G0 d :=
  dv_ixT (ds := rowL r) (dv_row ha hb hk) dv_int (atI_nat hj)
/-- a display of which dict(..) is not asked, as a tuple without more -/
theorem dv_tupN {tr : TA} {ds : List PyData} (h : EvDs tr s G0 ds) (hn : gdsLike ds = false) (hl : ds.length ≤ 100000 := by decide) : EvD (tTup tr) s G0 (.tuple ds) := fun G H e i _ k =>
  h G H e i _ fun vs G2 H2 n2 h2 => ⟨by rw [h2.len]; exact sz_of hl, fun p np => k _ _ _ (n2.trans (Nx.new n2.i np)) (.tup (.inl upd_same) (fun z => by rw [hn] at z; cases z) (h2.up (Ex.new (fresh_back n2.i np))))⟩
end
/-! ### sorted of pairs of ints -/
def pr2 (p : Int × Int) : PyData := .tuple [.int p.1, .int p.2]
def vp : List V → Int × Int
  | [.int i, .int j] => (i, j)
  | _ => (0, 0)
def kp (H : Hp) : V → Int × Int
  | .ref a => match H a with
    | some (.tup xs) => vp xs
    | some (.frz _ (.tup xs)) => vp xs
    | _ => (0, 0)
  | _ => (0, 0)
theorem kp_DD {G : Hp} {v : V} {p : Int × Int} (h : DD G v (pr2 p)) : kp G v = p ∧ ∃ a, v = .ref a ∧ RT G a [.int p.1, .int p.2] := by
  obtain ⟨a, xs, rfl, ea, hx⟩ := h.atTup
  obtain ⟨x, y, rfl, hx1, hx2⟩ := hx.inv2
  cases hx1.eqInt
  cases hx2.eqInt
  refine ⟨?_, a, rfl, ea⟩
  unfold kp
  rcases ea with e | ⟨o, _, e⟩
  · simp only [e, vp]
  · simp only [e, vp]
def rSortedQ (K : PySem.W.Frag) : List V → Hp → VK → Prop := fun vs H Q => ∃ (a : Addr) (xs : List V) (k : V → Int × Int), vs = [V.ref a] ∧ SqL K H a xs ∧ (∀ x ∈ xs, ∃ t, x = V.ref t ∧ RT H t [.int (k x).1, .int (k x).2]) ∧
  ∀ ys p, SrtO.Srtd (ltP k) ys → ys.Perm xs → H p = none → Q (.ref p) (upd H p (.lst ys))
theorem cr_sortedQ {X : Cx} : CallR X (.builtin "sorted") (rSortedQ X.K) := by
  intro pins s σ H vs us Q I r h
  obtain ⟨a, xs, k, rfl, hs, hx, q⟩ := h
  obtain ⟨its, rv, hl, hz⟩ := I.list hs
  obtain ⟨u, rfl, ru⟩ := vals1 r
  cases (show u = Value.ref a from ru)
  obtain ⟨e1, e2⟩ := refs_back rv fun x m => (hx x m).imp fun t z => z.1
  refine SrtO.sorted_pairsO (k := fun u => k (backV u)) hl.isList (by rw [← rv.length]; exact hz) (fun v hv => ?_) fun h' d out h1 h2 keep hd hn => ?_
  · obtain ⟨t, rfl⟩ := e2 v hv
    have hm : V.ref t ∈ xs := by rw [e1]; exact List.mem_map.mpr ⟨_, hv, rfl⟩
    obtain ⟨t', e, ht⟩ := hx _ hm
    cases e
    have fin : ObjOk X.prog X.w H s.heap t (.tup [.int (k (.ref t)).1, .int (k (.ref t)).2]) := by
      rcases ht with ht | ⟨o, _, ht⟩
      · exact I.hok _ _ ht
      · exact (show ObjOk X.prog X.w H s.heap t (.frz o _) from I.hok _ _ ht).2
    obtain ⟨_, its2, r2, o, ho, hc, n, hdat⟩ := fin
    obtain ⟨u1, u2, rfl, ⟨t1, rfl⟩, ⟨t2, rfl⟩⟩ := vals2 r2
    exact ⟨t, o, t1, t2, n, rfl, ho, hc, hdat⟩
  · have h3 : ∀ u ∈ out, ∃ a, u = Value.ref a := fun u hu => e2 u (h2.perm.mem_iff.mp hu)
    obtain ⟨n, hn⟩ := hn
    have hb : SrtO.Stb (ltP k) (out.map backV) xs := by
      rw [e1]
      exact SrtO.Stb.map (ltP_swo k) backV h2
    refine ⟨.ref d, upd H d (.lst (out.map backV)), I.laid (t' := s.toks) keep hd ⟨?_, out, n, vals_back h3, hn⟩, rfl, q _ d (SrtO.srtd_map h1) hb.perm (I.hok.fresh hd)⟩
    rw [hb.len]
    exact hz
theorem DDs.mapV {G : Hp} {f : V → PyData} : ∀ {vs : List V}, (∀ v ∈ vs, DD G v (f v)) → DDs G vs (vs.map f)
  | [], _ => .nil
  | v :: vs, h => .cons (h v List.mem_cons_self) (DDs.mapV fun u hu => h u (List.mem_cons_of_mem _ hu))
theorem DDs.pairs {G : Hp} : ∀ {vs : List V} {ps : List (Int × Int)}, DDs G vs (ps.map pr2) → ps = vs.map (kp G) ∧ ∀ v ∈ vs, DD G v (pr2 (kp G v))
  | _, [], .nil => ⟨rfl, fun _ h => absurd h (by simp)⟩
  | _, p :: ps, .cons (v := v) h t => by
    obtain ⟨e, hv⟩ := DDs.pairs t
    obtain ⟨e2, _⟩ := kp_DD h
    refine ⟨by rw [List.map_cons, e2, ← e], fun u hu => ?_⟩
    rcases List.mem_cons.mp hu with z | z
    · rw [z, e2]
      exact h
    · exact hv u z
theorem dp_sorted {K : PySem.W.Frag} {s : L2.St} {G0 : Hp} {ta : TE} {ps : List (Int × Int)} (h : EvD ta s G0 (.list (ps.map pr2))) : EvP (tCB (rSortedQ K) (tCons ta tNil)) s G0 (fun d => ∃ ps' : List (Int × Int), ps'.Perm ps ∧ ps'.Pairwise (fun x y => x.1 ≤ y.1) ∧ d = .list (ps'.map pr2)) := fun G H e i Q k =>
  h G H e i _ fun v G2 H2 n2 hv => by
    obtain ⟨a, xs, rfl, ea, hx⟩ := hv.atLst
    obtain ⟨e1, e2⟩ := hx.pairs
    refine ⟨a, xs, kp G2, rfl, SqL.of (n2.i _ _ ea), fun x hx => ?_, fun ys p hs hp np => ?_⟩
    · obtain ⟨_, t, rfl, ht⟩ := kp_DD (e2 x hx)
      exact ⟨t, rfl, ht.up n2.i⟩
    · have e3 : Ex G2 (upd G2 p (.lst ys)) := Ex.new (fresh_back n2.i np)
      refine k _ (.list ((ys.map (kp G2)).map pr2)) _ _ ⟨ys.map (kp G2), by rw [e1]; exact hp.map _, List.pairwise_map.mpr (hs.imp fun {x y} hxy => ?_), rfl⟩ (n2.trans (Nx.new n2.i np)) (.lst upd_same ?_)
      · have := SrtO.lexB_no.mp hxy
        omega
      · rw [List.map_map]
        exact DDs.mapV fun v hv => (e2 v (hp.mem_iff.mp hv)).up e3
theorem dv_const {s : L2.St} {G0 : Hp} {x : V} {d : PyData} (h : DD G0 x d) : EvD (fun _ H Q => Q x H) s G0 d := fun G H e i Q k => k x G H (Nx.refl i) (h.up e)
/-- a comprehension over one of several lists -/
theorem dp_lcL {K : PySem.W.Frag} {s : L2.St} {G0 : Hp} {tl te : TE} {g : TG} {tt : TT} {vs : List Nat} {Pd R : PyData → Prop} (h : EvP tl s G0 Pd)
    (hd : ∀ d, Pd d → ∃ ds out, d = .list ds ∧ (∀ te' G1, Ex G0 G1 → EvD te' s G1 (.list ds) → EvD (tLc (iList K te') g tt te vs) s G1 out) ∧ R out) : EvP (tLc (iList K tl) g tt te vs) s G0 R := fun G H e i Q k => by
  show tl s H (fun x H1 => tLc (iList K (fun _ H Q => Q x H)) g tt te vs s H1 Q)
  refine h G H e i _ fun v d G2 H2 hp n2 hv => ?_
  obtain ⟨ds, out, rfl, hl, hr⟩ := hd d hp
  exact hl (fun _ H Q => Q v H) G2 (e.trans n2.g) (dv_const hv) G2 H2 (Ex.refl _) n2.i Q fun u G3 H3 n3 hu => k u out G3 H3 hr (n2.trans n3) hu
/-! ### defs -/
section
variable {P : Program} {w : World} {K : PySem.W.Frag} {mg : Str → Option Value} {base : Heap}
theorem okN' {x qual : Str} {st : Stmt} {f : Addr} {fd : FuncData} {N ps : List Str} {k n : Nat} {Pre : List PyData → Prop} {R : List PyData → PyData → Prop} (F : Fun K x qual st f fd) (S : FnScope N ps (defScope st)) (hn : n = ps.length)
    (hbody : ∀ (cdv : Value) (A : Around) (outer : List Env) (s : Shared) (G H : Hp) (vs : List V) (ds : List PyData) (Q : VK) (E : XK), Room k (A.deeper (envOfC qual (defScope st) s.heap.objs.size f cdv)) → Pre ds → SD G (start N vs) (startD N.length ds) → Ex G H →
      (∀ v d G' H', R ds d → Nx G H G' H' → DD G' v d → Q v H') →
      ∃ t, PSs (cxOf CX0 P w K mg base N qual (defScope st) f cdv A outer s H E).nox (defBody st) t ∧ t { nx := fun _ H' => Q .non H', rt := Q } (start N vs) H) : FnOk P w K mg base CX0 (k + 1) f fd ps (SpN n Pre R) := by
  refine F.ok S (fun vs H Q E h => h.1.trans hn) fun cdv A outer s H vs Q E hr h => ?_
  obtain ⟨hl, G, ds, i, hd, hR, q⟩ := h
  exact hbody cdv A outer s G H vs ds Q E hr hR (SD.start hd) i q
abbrev RWork : List PyData → PyData → Prop := fun ds d => ∃ r : Rw, ds = [rowD r] ∧ RwOk r ∧ d = .bool true
theorem among_true {lo hi i : Int} (h : lo ≤ i ∧ i ≤ hi) : isAmong lo hi (.int i) = true := by
  simp [isAmong, h.1, h.2]
theorem ok_is_work {f : Addr} {fd : FuncData} (F : Fun K "is_work" "is_work" s_is_work f fd) (T : Txt mg) (C_is_among : Cal P w K mg base 2 "is_among" (SpR 3 RAmong)) : FnOk P w K mg base CX0 3 f fd ["thing"] (SpR 1 RWork) := by
  refine okD F sc_is_work rfl fun cdv A outer s G H vs ds r Q E hr hR S i k => ?_
  obtain ⟨r, rfl, hr', rfl⟩ := hR
  refine ⟨_, (pss_cons (ps_if (PW.pt (pw_or (pt_not (pt_val (pe_callB (r := rIsiD K) call_isiD (by rfl) T.b_isinstance bt_isinstance (pa_cons (pv 0) (pa_cons (pe_bltn (v := .ty "tuple") (by rfl) T.b_tuple bt_tuple rfl) pa_nil))))) (pw_or (pt_cmpR (r := rNeD K) (op_neD hr.units) (pe_callB (r := rLenQ K) cr_len (by rfl) T.b_len bt_len (pa_cons (pv 0) pa_nil)) pe_int (nomark _)) (pw_or1 (pt_not (pt_val (pe_c C_is_among hr (by decide) (by rfl) (pa_cons (pe_ix (r := rIxT K) ix_tup (pv 0) pe_int (fun _ _ => rfl)) (pa_cons pe_int (pa_cons (pe_gc (by rfl) T.c_MOST_LENGTH) pa_nil)))))))))) (pss_one (ps_ret pe_bl)) pss_nil)
      (pss_one (ps_ret (pe_and (pe_callB (r := rAll K) (cr_all rfl) (by rfl) T.b_all bt_all (pa_cons (pe_lc (own := [("hour", 1)]) (g := (gName 1)) rfl sc_is_work.nd (pi_tup (pe_slice (r := rSlA K) sl_tupA (pv 0) (po_some pe_int) (po_some pe_int))) (blkOk_by (N := ["thing", "hour"]) (sc := defScope s_is_work) (by decide +kernel)) (fun _ _ _ _ _ => (pg_name (i := 1) sc_is_work.nd rfl (Or.inl rfl))) (fun _ _ _ _ _ => pts_nil) (fun _ _ _ _ _ => (pe_c C_is_among hr (by decide) (by rfl) (pa_cons (pv 1) (pa_cons pe_int (pa_cons (pe_gc (by rfl) T.c_MOST_HOUR) pa_nil)))))) pa_nil)) (pe_one (pe_c C_is_among hr (by decide) (by rfl) (pa_cons (pe_ix (r := rIxT K) ix_tup (pv 0) pe_int (fun _ _ => rfl)) (pa_cons pe_int (pa_cons (pe_gc (by rfl) T.c_MOST_WEIGHT) pa_nil))))))))), ?_⟩
  have am : ∀ {te : TE} {s : L2.St} {G0 : Hp} {x : Int} (lo hi : Int), EvD te s G0 (.int x) → lo ≤ x ∧ x ≤ hi → EvD (tCall (SpR 3 RAmong) [] E0 (tCons te (tCons (tC (.int lo)) (tCons (tC (.int hi)) tNil)))) s G0 (.bool true) := fun lo hi h hx =>
    dv_call (ds_cons h (ds_cons dv_int (ds_cons dv_int ds_nil))) ⟨_, _, _, rfl, rfl, by rw [among_true hx]⟩
  refine sq_when (b := false) i (et_or (a := false) (b := false) (et_not (a := true) (tt_B (dv_isi (dv_var S) rfl (kit_tup _)))) fun _ => et_or (a := false) (b := false) (tt_T (dv_is (dv_neD (dv_len (dv_var S) rfl) dv_int (shaped_int _) (shaped_int _)) (congrArg PyData.bool (by rw [eqv_int]; rfl)))) fun _ => et_not (a := true) (tt_B (am 1 1000 (dv_ixT (ds := rowL r) (dv_var S) dv_int (atI_nat (j := 0) rfl)) hr'.len))) (fun z => nomatch z) fun _ H1 n1 => ?_
  refine sd_ret n1.i (dv_is (dv_and (a := true) (b := true) (dv_is (dv_allLc (js := [1]) (fun d => [some (rowD r), some d]) (fun _ => true) (ei_tup (dv_slT (ds := rowL r) (lo := some 1) (hi := some 3) (dv_var S) (eo_int dv_int) (eo_int dv_int) rfl)) S (by show 2 ≤ 40000; decide) (fun d hm => tg_name) (by decide) fun d hm s2 G2 e2 S2 => ?_) rfl) fun _ => am 0 1000 (dv_ixT (ds := rowL r) (dv_var S) dv_int (atI_nat (j := 3) rfl)) hr'.wt) rfl) fun v G2 H2 n2 hv => k v G2 H2 (n1.trans n2) hv
  have hm' : d ∈ [PyData.int r.first, PyData.int r.due] := hm
  rcases List.mem_cons.mp hm' with e | hm2
  · subst e
    exact am 0 1000000 (dv_var S2) hr'.first
  · rw [List.mem_singleton] at hm2
    subst hm2
    exact am 0 1000000 (dv_var S2) hr'.due
abbrev RNone : List PyData → PyData → Prop := fun ds d => ∃ rs : List Rw, ds = [rowsD rs] ∧ RowsOk rs ∧ d = .none
theorem ok_need_rows {f : Addr} {fd : FuncData} (F : Fun K "need_rows" "need_rows" s_need_rows f fd) (T : Txt mg) (C_is_work : Cal P w K mg base 3 "is_work" (SpR 1 RWork)) : FnOk P w K mg base CX0 4 f fd ["rows"] (SpR 1 RNone) := by
  refine okD F sc_need_rows rfl fun cdv A outer s G H vs ds r Q E hr hR S i k => ?_
  obtain ⟨rs, rfl, ho, rfl⟩ := hR
  refine ⟨_, (pss_one (ps_if (PW.pt (pw_or (pt_not (pt_val (pe_callB (r := rIsiD K) call_isiD (by rfl) T.b_isinstance bt_isinstance (pa_cons (pv 0) (pa_cons (pe_bltn (v := .ty "list") (by rfl) T.b_list bt_list rfl) pa_nil))))) (pw_or (pt_not (pt_chain op_le op_le pe_int (pe_callB (r := rLenQ K) cr_len (by rfl) T.b_len bt_len (pa_cons (pv 0) pa_nil)) (pe_gc (by rfl) T.c_MOST_TASKS))) (pw_or1 (pt_not (pt_val (pe_callB (r := rAll K) (cr_all rfl) (by rfl) T.b_all bt_all (pa_cons (pe_lc (own := [("row", 1)]) (g := (gName 1)) rfl sc_need_rows.nd (pi_list (pv 0)) (blkOk_by (N := ["rows", "row"]) (sc := defScope s_need_rows) (by decide +kernel)) (fun _ _ _ _ _ => (pg_name (i := 1) sc_need_rows.nd rfl (Or.inl rfl))) (fun _ _ _ _ _ => pts_nil) (fun _ _ _ _ _ => (pe_c C_is_work hr (by decide) (by rfl) (pa_cons (pv 1) pa_nil)))) pa_nil)))))))) (pss_one ps_dead) pss_nil)), ?_⟩
  have h1 := ho.ne
  have h2 := ho.most
  refine sd_if (b := false) i (et_or (a := false) (b := false) (et_not (a := true) (tt_B (dv_isi (dv_var S) (noD_rows rs) (kit_list _)))) fun _ => et_or (a := false) (b := false) (et_not (a := true) (tt_T (dv_is (dv_chain dv_int (dv_len (dv_var S) rfl) dv_int) ?_))) fun _ => et_not (a := true) (tt_B (dv_is (dv_allLc (js := [1]) (fun d => [some (rowsD rs), some d]) (fun _ => true) (ei_list (dv_var S)) S (by rw [List.length_map]; omega) (fun d hm => tg_name) (by decide) fun d hm s2 G2 e2 S2 => ?_) ?_))) (fun z => nomatch z) fun _ H1 n1 => ?_
  · show PyData.bool (decide ((1 : Int) ≤ (((rs.map rowD).length : Nat) : Int)) && decide ((((rs.map rowD).length : Nat) : Int) ≤ 30)) = _
    rw [List.length_map, decide_eq_true (by omega), decide_eq_true (by omega)]
    rfl
  · obtain ⟨r, hr, rfl⟩ := List.mem_map.mp hm
    exact dv_call (ds_cons (dv_var S2) ds_nil) ⟨r, rfl, ho.all r hr, rfl⟩
  · rw [List.all_eq_true.mpr fun _ _ => rfl]
  · exact k .non G H1 n1 .non
/-- by BY: some order of all, its BYs rising -/
abbrev POrd : List PyData → Prop := fun ds => ∃ rs : List Rw, ds = [rowsD rs] ∧ rs.length ≤ 30
def dueAt (rs : List Rw) (k : Nat) : Int := (rs[k]?.map Rw.due).getD 0
abbrev ROrd : List PyData → PyData → Prop := fun ds d => ∀ rs : List Rw, ds = [rowsD rs] → ∃ ord : List Nat, d = .list (nD ord) ∧ ord.Perm (List.range rs.length) ∧ ord.Pairwise fun a b => dueAt rs a ≤ dueAt rs b
theorem enum_mem : ∀ {ds : List PyData} {i : Nat} {e : PyData}, e ∈ enumD i ds → ∃ (j : Nat) (d : PyData), ds[j]? = some d ∧ e = .tuple [.int ((i + j : Nat) : Int), d]
  | d :: r, i, e, h => by
    rcases List.mem_cons.mp h with z | z
    · exact ⟨0, d, rfl, by rw [z]; rfl⟩
    · obtain ⟨j, d', hj, he⟩ := enum_mem z
      exact ⟨j + 1, d', by simpa using hj, by rw [he, show i + 1 + j = i + (j + 1) by omega]⟩
theorem enum_map {rs : List Rw} : ∀ (i : Nat) (f : PyData → PyData) (g : Nat → Rw → PyData), (∀ (j : Nat) r, f (.tuple [.int (j : Nat), rowD r]) = g j r) → (enumD i (rs.map rowD)).map f = (rs.zipIdx i).map fun p => g p.2 p.1 := by
  induction rs with
  | nil => intro i f g _; rfl
  | cons r rs ih =>
    intro i f g h
    rw [List.map_cons, List.zipIdx_cons, List.map_cons]
    show f (.tuple [.int (i : Nat), rowD r]) :: (enumD (i + 1) (rs.map rowD)).map f = _
    rw [h, ih (i + 1) f g h]
theorem ok_due_order {f : Addr} {fd : FuncData} (F : Fun K "due_order" "due_order" s_due_order f fd) (T : Txt mg) : FnOk P w K mg base CX0 1 f fd ["rows"] (SpN 1 POrd ROrd) := by
  refine okN' F sc_due_order rfl fun cdv A outer s G H vs ds Q E hr hR S i k => ?_
  obtain ⟨rs, rfl, hl⟩ := hR
  refine ⟨_, (pss_one (ps_ret (pe_lc (own := [("due", 1), ("number", 2)]) (g := (gTup K 2 (gCons (gName 1) (gCons (gName 2) gNil)))) rfl sc_due_order.nd (pi_list (pe_callB cr_sortedQ (by rfl) T.b_sorted bt_sorted (pa_cons (pe_lc (own := [("number", 2), ("row", 3)]) (g := (gTup K 2 (gCons (gName 2) (gCons (gName 3) gNil)))) rfl sc_due_order.nd (pi_enum (by rfl) T.b_enumerate (pa_cons (pv 0) pa_nil)) (blkOk_by (N := ["rows", "due", "number", "row"]) (sc := defScope s_due_order) (by decide +kernel)) (fun _ _ _ _ _ => (pg_tup rfl (pgs_cons (pg_name (i := 2) sc_due_order.nd rfl (Or.inl rfl)) (pgs_cons (pg_name (i := 3) sc_due_order.nd rfl (Or.inl rfl)) pgs_nil)))) (fun _ _ _ _ _ => pts_nil) (fun _ _ _ _ _ => (pe_tupF (pa_cons (pe_ix (r := rIxT K) ix_tup (pv 3) pe_int (fun _ _ => rfl)) (pa_cons (pv 2) pa_nil))))) pa_nil))) (blkOk_by (N := ["rows", "due", "number", "row"]) (sc := defScope s_due_order) (by decide +kernel)) (fun _ _ _ _ _ => (pg_tup rfl (pgs_cons (pg_name (i := 1) sc_due_order.nd rfl (Or.inl rfl)) (pgs_cons (pg_name (i := 2) sc_due_order.nd rfl (Or.inl rfl)) pgs_nil)))) (fun _ _ _ _ _ => pts_nil) (fun _ _ _ _ _ => (pv 2))))), ?_⟩
  refine sd_retP (Pd := ROrd [rowsD rs]) i ?_ fun v d G' H' hp n hv => k v d G' H' hp n hv
  refine dp_lcL (dp_sorted (ps := (rs.zipIdx).map fun p => (p.1.due, ((p.2 : Nat) : Int))) (dv_is (dv_lc1 (js := [2, 3]) (fun d => [some (rowsD rs), none, (kids d)[0]?, (kids d)[1]?]) (fun d => .tuple [(kids ((kids d)[1]?.getD .none))[2]?.getD .none, (kids d)[0]?.getD .none]) (ei_enum (ds_cons (dv_var S) ds_nil)) S ?_ (fun d hm => ?_) (by decide) fun d hm s2 G2 e2 S2 => ?_) ?_)) fun d hp => ?_
  · rw [enumD_len, List.length_map]; omega
  · obtain ⟨j, e, _, rfl⟩ := enum_mem hm
    exact tg_tup (tgs_cons tg_name (tgs_cons tg_name tgs_nil))
  · obtain ⟨j, e, he, rfl⟩ := enum_mem hm
    rw [List.getElem?_map] at he
    obtain ⟨r, _, rfl⟩ := Option.map_eq_some_iff.mp he
    exact dv_tup (ds_cons (dv_ixT (ds := rowL r) (dv_var S2) dv_int (atI_nat (j := 2) rfl)) (ds_cons (dv_var S2) ds_nil)) (by show 2 ≤ 100000; decide)
  · rw [List.map_map]
    exact congrArg PyData.list (enum_map 0 _ (fun j r => pr2 (r.due, ((j : Nat) : Int))) fun j r => rfl)
  · obtain ⟨ps', hperm, hpw, rfl⟩ := hp
    have hlen : ps'.length = rs.length := by rw [hperm.length_eq, List.length_map, List.length_zipIdx]
    have hmem : ∀ p ∈ ps', ∃ j : Nat, j < rs.length ∧ p.2 = (j : Nat) ∧ p.1 = dueAt rs j := fun p hp => by
      have hp2 := hperm.mem_iff.mp hp
      obtain ⟨x, hx, rfl⟩ := List.mem_map.mp hp2
      obtain ⟨r, j⟩ := x
      have hj := List.mem_zipIdx' hx
      exact ⟨j, hj.1, rfl, by unfold dueAt; rw [List.getElem?_eq_getElem hj.1, ← hj.2]; rfl⟩
    refine ⟨_, .list (nD (ps'.map fun p => p.2.toNat)), rfl, fun te' G1 e1 h1 => dv_is (dv_lc1 (js := [1, 2]) (fun d => [some (rowsD rs), (kids d)[0]?, (kids d)[1]?, none]) (fun d => (kids d)[1]?.getD .none) (ei_list h1) (S.up e1) ?_ (fun d hm => ?_) (by decide) fun d hm s2 G2 e2 S2 => ?_) ?_, fun rs2 e => ?_⟩
    · rw [List.length_map]; omega
    · obtain ⟨p, _, rfl⟩ := List.mem_map.mp hm
      exact tg_tup (tgs_cons tg_name (tgs_cons tg_name tgs_nil))
    · obtain ⟨p, _, rfl⟩ := List.mem_map.mp hm
      exact dv_var S2
    · unfold nD
      rw [List.map_map, List.map_map, List.map_map]
      refine congrArg PyData.list (List.map_congr_left fun p hp => ?_)
      obtain ⟨j, _, h2, _⟩ := hmem p hp
      show PyData.int p.2 = PyData.int ((p.2.toNat : Nat) : Int)
      rw [h2, Int.toNat_natCast]
    · have e2 := rowsD_inj (List.cons.inj e).1
      subst e2
      refine ⟨_, rfl, ?_, ?_⟩
      · have h3 := hperm.map fun p : Int × Int => p.2.toNat
        rw [List.map_map] at h3
        refine h3.trans (List.Perm.of_eq ?_)
        rw [List.range_eq_range', ← List.zipIdx_map_snd 0 rs]
        exact List.map_congr_left fun p _ => Int.toNat_natCast _
      · refine List.pairwise_map.mpr (List.Pairwise.imp_of_mem (fun {x y} hx hy hxy => ?_) hpw)
        obtain ⟨a, _, ha1, ha2⟩ := hmem x hx
        obtain ⟨b, _, hb1, hb2⟩ := hmem y hy
        rw [ha1, hb1, Int.toNat_natCast, Int.toNat_natCast, ← ha2, ← hb2]
        exact hxy
/-! the order of the least sum -/
def ratio (rs : List Rw) (a b : Nat) : Prop := ∀ x y, rs[a]? = some x → rs[b]? = some y → x.len * y.wt ≤ y.len * x.wt
def ratB (rs : List Rw) (a b : Nat) : Bool := match rs[a]?, rs[b]? with
  | some x, some y => decide (x.len * y.wt ≤ y.len * x.wt)
  | _, _ => true
theorem ratB_iff {rs : List Rw} {a b : Nat} : ratB rs a b = true ↔ ratio rs a b := by
  unfold ratB ratio
  cases rs[a]? with
  | none => simp
  | some x =>
    cases rs[b]? with
    | none => simp
    | some y => simp
theorem rat_trans {a b c : Rw} (hb : 1 ≤ b.len) (ha : 0 ≤ a.len) (hc : 0 ≤ c.len) (h1 : a.len * b.wt ≤ b.len * a.wt) (h2 : b.len * c.wt ≤ c.len * b.wt) : a.len * c.wt ≤ c.len * a.wt := by
  have e1 : (a.len * c.wt) * b.len = a.len * (b.len * c.wt) := by rw [Int.mul_assoc, Int.mul_comm c.wt b.len]
  have e2 : a.len * (b.len * c.wt) ≤ a.len * (c.len * b.wt) := Int.mul_le_mul_of_nonneg_left h2 ha
  have e3 : a.len * (c.len * b.wt) = c.len * (a.len * b.wt) := by rw [← Int.mul_assoc, Int.mul_comm a.len c.len, Int.mul_assoc]
  have e4 : c.len * (a.len * b.wt) ≤ c.len * (b.len * a.wt) := Int.mul_le_mul_of_nonneg_left h1 hc
  have e5 : c.len * (b.len * a.wt) = (c.len * a.wt) * b.len := by rw [Int.mul_assoc, Int.mul_comm a.wt b.len]
  exact Int.le_of_mul_le_mul_right (by omega : (a.len * c.wt) * b.len ≤ (c.len * a.wt) * b.len) (by omega)
theorem rat_first {rs : List Rw} (hr : ∀ r ∈ rs, 1 ≤ r.len) : ∀ {L : List Nat}, L ≠ [] → (∀ k ∈ L, k < rs.length) → ∃ k ∈ L, ∀ o ∈ L, ratio rs k o
  | [], h, _ => absurd rfl h
  | [k], _, _ => ⟨k, List.mem_cons_self, fun o ho x y hx hy => by
    rw [List.mem_singleton] at ho
    subst ho
    rw [hx] at hy
    cases hy
    exact Int.le_refl _⟩
  | a :: b :: r, _, hl => by
    obtain ⟨k, hk, ho⟩ := rat_first hr (L := b :: r) (by simp) fun k hk => hl k (List.mem_cons_of_mem _ hk)
    obtain ⟨x, hx⟩ : ∃ x, rs[a]? = some x := ⟨_, List.getElem?_eq_getElem (hl a List.mem_cons_self)⟩
    obtain ⟨y, hy⟩ : ∃ y, rs[k]? = some y := ⟨_, List.getElem?_eq_getElem (hl k (List.mem_cons_of_mem _ hk))⟩
    have px := hr x (List.mem_of_getElem? hx)
    have py := hr y (List.mem_of_getElem? hy)
    by_cases c : x.len * y.wt ≤ y.len * x.wt
    · refine ⟨a, List.mem_cons_self, fun o hm => ?_⟩
      rcases List.mem_cons.mp hm with e | e
      · subst e
        intro u v hu hv
        rw [hu] at hv
        cases hv
        exact Int.le_refl _
      · intro u v hu hv
        rw [hx] at hu
        cases hu
        exact rat_trans py (by omega) (by have := hr v (List.mem_of_getElem? hv); omega) c (ho o e y v hy hv)
    · refine ⟨k, List.mem_cons_of_mem _ hk, fun o hm => ?_⟩
      rcases List.mem_cons.mp hm with e | e
      · subst e
        intro u v hu hv
        rw [hx] at hv
        cases hv
        rw [hy] at hu
        cases hu
        omega
      · exact ho o e
abbrev PFirst : List PyData → Prop := fun ds => ∃ (rs : List Rw) (L : List Nat), ds = [rowsD rs, .list (nD L)] ∧ L ≠ [] ∧ L.length ≤ 100 ∧ (∀ k ∈ L, k < rs.length) ∧ ∀ r ∈ rs, RwOk r
abbrev RFirst : List PyData → PyData → Prop := fun ds d => ∀ (rs : List Rw) (L : List Nat), ds = [rowsD rs, .list (nD L)] → ∃ k ∈ L, d = .int (k : Nat) ∧ ∀ o ∈ L, ratio rs k o
theorem ok_goes_first {f : Addr} {fd : FuncData} (F : Fun K "goes_first" "goes_first" s_goes_first f fd) (T : Txt mg) : FnOk P w K mg base CX0 1 f fd ["rows", "left"] (SpN 2 PFirst RFirst) := by
  refine okN' F sc_goes_first rfl fun cdv A outer s G H vs ds Q E hr hR S i k => ?_
  obtain ⟨rs, L, rfl, hne, hl, hk, hp⟩ := hR
  refine ⟨_, (pss_cons (ps_for PassesOwn.never rfl (pi_list (pv 1)) (pg_name (i := 2) sc_goes_first.nd rfl (Or.inl rfl)) (pss_cons (ps_asg (pe_tupF (pa_cons (pe_ix (r := rIxT K) ix_tup (pe_ix (r := rIxL K) ix_list (pv 0) (pv 2) (fun _ _ => rfl)) pe_int (fun _ _ => rfl)) (pa_cons (pe_ix (r := rIxT K) ix_tup (pe_ix (r := rIxL K) ix_list (pv 0) (pv 2) (fun _ _ => rfl)) pe_int (fun _ _ => rfl)) pa_nil))) (pg_tup rfl (pgs_cons (pg_name (i := 3) sc_goes_first.nd rfl (Or.inr rfl)) (pgs_cons (pg_name (i := 4) sc_goes_first.nd rfl (Or.inr rfl)) pgs_nil))))
      (pss_one (ps_if (pt_val (pe_callB (r := rAll K) (cr_all rfl) (by rfl) T.b_all bt_all (pa_cons (pe_lc (own := [("other", 5)]) (g := (gName 5)) rfl sc_goes_first.nd (pi_list (pv 1)) (blkOk_by (N := ["rows", "left", "number", "length", "weight", "other"]) (sc := defScope s_goes_first) (by decide +kernel)) (fun _ _ _ _ _ => (pg_name (i := 5) sc_goes_first.nd rfl (Or.inl rfl))) (fun _ _ _ _ _ => pts_nil) (fun _ _ _ _ _ => (pe_cmpR op_le (pe_op op_mul (pv 3) (pe_ix (r := rIxT K) ix_tup (pe_ix (r := rIxL K) ix_list (pv 0) (pv 5) (fun _ _ => rfl)) pe_int (fun _ _ => rfl))) (pe_op op_mul (pe_ix (r := rIxT K) ix_tup (pe_ix (r := rIxL K) ix_list (pv 0) (pv 5) (fun _ _ => rfl)) pe_int (fun _ _ => rfl)) (pv 4)) (nomark _)))) pa_nil))) (pss_one (ps_ret (pv 2))) pss_nil))))
      (pss_one (ps_ret (pe_ix (r := rIxL K) ix_list (pv 1) pe_int (fun _ _ => rfl))))), ?_⟩
  obtain ⟨best, hbm, hbo⟩ := rat_first (fun r hr => (hp r hr).len.1) hne hk
  refine mq_for (ds := nD L) (js := [2]) (fun j q M => M = [] ∧ (∀ m k', m < j → L[m]? = some k' → (L.all fun o => ratB rs k' o) = false) ∧ ∃ a b c, q = [some (rowsD rs), some (.list (nD L)), a, b, c, none]) (MSt.start S (Nx.refl i)) ⟨rfl, fun m k' h => absurd h (Nat.not_lt_zero _), none, none, none, rfl⟩ (fun G0 S0 => ei_list (dv_var S0)) (fun j d q M hj hq => ?_) fun q M s' H' hq hM => ?_
  · obtain ⟨rfl, hno, a, b, c, rfl⟩ := hq
    obtain ⟨k0, hk0, rfl⟩ := nD_got hj
    refine ⟨rfl, _, tg_name, fun Gc Hc nc s' H' hM => ?_⟩
    obtain ⟨G', S', n'⟩ := hM.freeze
    obtain ⟨r0, hr0⟩ : ∃ r, rs[k0]? = some r := ⟨_, List.getElem?_eq_getElem (hk k0 (List.mem_of_getElem? hk0))⟩
    refine sq_asg S' n'.i (dv_tup (ds := [.int r0.len, .int r0.wt]) (ds_cons (dv_rowJ 0 (dv_var S') (dv_var S') hr0) (ds_cons (dv_rowJ 3 (dv_var S') (dv_var S') hr0) ds_nil)) (by show 2 ≤ 100000; decide)) (tg_tup (tgs_cons tg_name (tgs_cons tg_name tgs_nil))) fun s2 G2 H2 S2 n2 => ?_
    have p0 := hp r0 (List.mem_of_getElem? hr0)
    have cm : ∀ {i j : Int}, (0 ≤ i ∧ i ≤ 1000) → CMul i j := fun h => .inl ⟨by omega, by omega⟩
    refine sd_if (b := L.all fun o => ratB rs k0 o) n2.i (tt_B (dv_is (dv_allLc (js := [5]) (fun d => [some (rowsD rs), some (.list (nD L)), some (.int (k0 : Nat)), some (.int r0.len), some (.int r0.wt), some d]) (fun d => ratB rs k0 (iOf d).toNat) (ei_list (dv_var S2)) S2 (by rw [nD_len]; omega) (fun d hm => tg_name) (by decide) fun d hm s3 G3 e3 S3 => ?_) ?_)) (fun hb H3 n3 => ?_) fun hb H3 n3 => ?_
    · obtain ⟨o, ho, rfl⟩ := nD_mem hm
      obtain ⟨ro, hro⟩ : ∃ r, rs[o]? = some r := ⟨_, List.getElem?_eq_getElem (hk o ho)⟩
      have po := hp ro (List.mem_of_getElem? hro)
      refine dv_is (dv_opB (dv_opC (dv_var S3) (dv_rowJ 3 (dv_var S3) (dv_var S3) hro) (cm ⟨by have := p0.len; omega, p0.len.2⟩)) (dv_opC (dv_rowJ 0 (dv_var S3) (dv_var S3) hro) (dv_var S3) (cm ⟨by have := po.len; omega, po.len.2⟩))) ?_
      show PyData.bool (decide (r0.len * ro.wt ≤ ro.len * r0.wt)) = PyData.bool (ratB rs k0 (((o : Nat) : Int).toNat))
      unfold ratB
      rw [Int.toNat_natCast, hr0, hro]
    · unfold nD
      rw [List.all_map, List.all_map]
      refine congrArg PyData.bool ?_
      congr 1
    · refine sd_ret n3.i (dv_var S2) fun v G4 H4 n4 hv => k v (.int (k0 : Nat)) G4 H4 (fun rs2 L2 e => ?_) (nc.trans (((n'.trans n2).trans n3).trans n4)) hv
      obtain ⟨e1, e2⟩ := List.cons.inj e
      have e3 := rowsD_inj e1
      have e4 := nD_inj (PyData.list.inj (List.cons.inj e2).1)
      subst e3 e4
      exact ⟨k0, List.mem_of_getElem? hk0, rfl, fun o ho => ratB_iff.mp (List.all_eq_true.mp hb o ho)⟩
    · refine ⟨_, [], ⟨rfl, fun m k' hm hk' => ?_, _, _, _, rfl⟩, MSt.start S2 ((n'.trans n2).trans n3)⟩
      rcases Nat.lt_or_ge m j with c | c
      · exact hno m k' c hk'
      · have e : m = j := by omega
        subst e
        rw [hk0] at hk'
        cases hk'
        exact hb
  · obtain ⟨rfl, hno, a, b, c, rfl⟩ := hq
    exfalso
    obtain ⟨m, hm⟩ := List.mem_iff_getElem?.mp hbm
    have h1 := hno m best (by rw [nD_len]; exact (List.getElem?_eq_some_iff.mp hm).1) hm
    rw [List.all_eq_true.mpr fun o ho => ratB_iff.mpr (hbo o ho)] at h1
    cases h1
/-! the least sum -/
def rowsOf (rs : List Rw) (ord : List Nat) : List Rw := ord.filterMap fun k => rs[k]?
def costF (xs : List Rw) : Int × Int := xs.foldl (fun a r => (a.1 + r.len, a.2 + r.wt * (a.1 + r.len))) (0, 0)
theorem costF_snoc (xs : List Rw) (r : Rw) : costF (xs ++ [r]) = ((costF xs).1 + r.len, (costF xs).2 + r.wt * ((costF xs).1 + r.len)) := by
  unfold costF
  rw [List.foldl_append]
  rfl
theorem rowsOf_snoc {rs : List Rw} {ord : List Nat} {k : Nat} {r : Rw} (h : rs[k]? = some r) : rowsOf rs (ord ++ [k]) = rowsOf rs ord ++ [r] := by
  unfold rowsOf
  rw [List.filterMap_append]
  simp [h]
theorem first_at : ∀ {L : List Nat} {k : Nat}, k ∈ L → ∃ j, L[j]? = some k ∧ (∀ m : Nat, m < j → L[m]? ≠ some k) ∧ L.eraseIdx j = L.erase k
  | a :: r, k, h => by
    by_cases e : a = k
    · subst e
      exact ⟨0, rfl, fun m hm => absurd hm (Nat.not_lt_zero _), by simp⟩
    · obtain ⟨j, h1, h2, h3⟩ := first_at (L := r) (k := k) (by
        rcases List.mem_cons.mp h with z | z
        · exact absurd z.symm e
        · exact z)
      refine ⟨j + 1, by simpa using h1, fun m hm => ?_, ?_⟩
      · cases m with
        | zero => simpa using e
        | succ m => simpa using h2 m (by omega)
      · rw [List.eraseIdx_cons_succ, h3, List.erase_cons_tail (by simpa using e)]
theorem map_eraseIdx {α β : Type} (f : α → β) : ∀ (l : List α) (j : Nat), (l.eraseIdx j).map f = (l.map f).eraseIdx j
  | [], _ => by simp
  | _ :: _, 0 => rfl
  | a :: r, j + 1 => congrArg (f a :: ·) (map_eraseIdx f r j)
theorem cast_at {L : List Nat} {j k : Nat} : (L.map fun k : Nat => (k : Int))[j]? = some (k : Int) ↔ L[j]? = some k := by
  rw [List.getElem?_map]
  cases L[j]? with
  | none => simp
  | some x => exact ⟨fun h => congrArg some (Int.ofNat.inj (Option.some.inj h)), fun h => congrArg (fun o => o.map fun k : Nat => (k : Int)) h⟩
abbrev PSum : List PyData → Prop := fun ds => ∃ rs : List Rw, ds = [rowsD rs] ∧ RowsOk rs
abbrev RSum : List PyData → PyData → Prop := fun ds d => ∀ rs : List Rw, ds = [rowsD rs] → ∃ ord : List Nat, d = .tuple [.int (costF (rowsOf rs ord)).2, .list (nD ord)] ∧ ord.Perm (List.range rs.length) ∧ ord.Pairwise (ratio rs)
theorem ok_least_sum {f : Addr} {fd : FuncData} (F : Fun K "least_sum" "least_sum" s_least_sum f fd) (T : Txt mg) (C_need_rows : Cal P w K mg base 4 "need_rows" (SpR 1 RNone)) (C_goes_first : Cal P w K mg base 1 "goes_first" (SpN 2 PFirst RFirst)) : FnOk P w K mg base CX0 5 f fd ["rows"] (SpN 1 PSum RSum) := by
  refine okN' F sc_least_sum rfl fun cdv A outer s G H vs ds Q E hr hR S i k => ?_
  obtain ⟨rs, rfl, ho⟩ := hR
  refine ⟨_, (pss_cons (ps_expr (pe_c C_need_rows hr (by decide) (by rfl) (pa_cons (pv 0) pa_nil)))
      (pss_cons (ps_set (i := 1) sc_least_sum.nd rfl (Or.inl rfl) (pe_listRg rfl (by rfl) T.b_list (prg_1 (by rfl) T.b_range (pe_callB (r := rLenQ K) cr_len (by rfl) T.b_len bt_len (pa_cons (pv 0) pa_nil)))))
      (pss_cons (ps_set (i := 2) sc_least_sum.nd rfl (Or.inl rfl) (pe_lst pa_nil))
      (pss_cons (ps_set (i := 3) sc_least_sum.nd rfl (Or.inl rfl) pe_int)
      (pss_cons (ps_set (i := 4) sc_least_sum.nd rfl (Or.inl rfl) pe_int)
      (pss_cons (ps_while PassesOwn.never (pt_cmpR (r := rNeD K) (op_neD hr.units) (pv 1) (pe_lst pa_nil) (nomark _)) (pss_cons (ps_set (i := 5) sc_least_sum.nd rfl (Or.inl rfl) (pe_c C_goes_first hr (by decide) (by rfl) (pa_cons (pv 0) (pa_cons (pv 1) pa_nil))))
      (pss_cons (ps_expr (pe_bm PySem.F.plainAttrs_list PySem.F.slot_list_remove PySem.F.type_list_remove mt_remove (pv 1) (pa_cons (pv 5) pa_nil)))
      (pss_cons (ps_expr (pe_bm PySem.F.plainAttrs_list PySem.F.slot_list_append PySem.F.type_list_append mt_append (pv 2) (pa_cons (pv 5) pa_nil)))
      (pss_cons (ps_aug (i := 3) sc_least_sum.nd rfl (Or.inl rfl) (pe_ix (r := rIxT K) ix_tup (pe_ix (r := rIxL K) ix_list (pv 0) (pv 5) (fun _ _ => rfl)) pe_int (fun _ _ => rfl)) ip_add)
      (pss_one (ps_aug (i := 4) sc_least_sum.nd rfl (Or.inl rfl) (pe_op op_mul (pe_ix (r := rIxT K) ix_tup (pe_ix (r := rIxL K) ix_list (pv 0) (pv 5) (fun _ _ => rfl)) pe_int (fun _ _ => rfl)) (pv 3)) ip_add)))))))
      (pss_one (ps_ret (pe_tupF (pa_cons (pv 4) (pa_cons (pv 2) pa_nil))))))))))), ?_⟩
  have hl := ho.most
  refine sq_drop (Pd := fun _ => True) i (.of (dv_call (ds_cons (dv_var S) ds_nil) ⟨rs, rfl, ho, rfl⟩) trivial) fun G1 H1 n1 => ?_
  refine mq_new (i := 1) (ds := nD (List.range rs.length)) (MSt.start (S.up n1.g) n1) rfl rfl (fun G0 S0 => ?_) fun s2 H2 hM => ?_
  · rw [← nD_range]
    exact ef_listRg (dv_is (dv_len (dv_var S0) rfl) (by show PyData.int (((rs.map rowD).length : Nat) : Int) = _; rw [List.length_map])) (by omega)
  refine mq_new (i := 2) (ds := nD []) hM rfl rfl (fun G0 S0 => ef_lst ds_nil) fun s3 H3 hM => ?_
  refine mq_set (i := 3) hM rfl (fun G0 S0 => dv_int) fun s4 H4 hM => ?_
  refine mq_set (i := 4) hM rfl (fun G0 S0 => dv_int) fun s5 H5 hM => ?_
  refine mq_while (α := List Nat × List Nat) (fun a q M => M = [(1, nD a.2), (2, nD a.1)] ∧ (a.1 ++ a.2).Perm (List.range rs.length) ∧ a.1.Pairwise (ratio rs) ∧ (∀ x ∈ a.1, ∀ y ∈ a.2, ratio rs x y) ∧ ∃ x, q = [some (rowsD rs), none, none, some (.int (costF (rowsOf rs a.1)).1), some (.int (costF (rowsOf rs a.1)).2), x]) (fun a => a.2.length) (fun a => !a.2.isEmpty) ([], List.range rs.length) hM ⟨rfl, List.Perm.refl _, .nil, fun x hx => absurd hx (by simp), none, rfl⟩ (fun a q M s' G' hp S' => ?_) (fun a q M s' H' hne hp hM => ?_) fun a q M s' H' he hp hM => ?_
  · obtain ⟨done, L⟩ := a
    obtain ⟨rfl, _, _, _, x, rfl⟩ := hp
    refine tt_T (dv_is (dv_neD (d1 := .list (nD L)) (dv_var S') (dv_lst ds_nil) (shN_ints _) (by decide +kernel)) ?_)
    rw [eqv_nil]
    cases L <;> rfl
  · obtain ⟨done, L⟩ := a
    obtain ⟨rfl, hperm, hpw, hcr, x, rfl⟩ := hp
    have hperm : (done ++ L).Perm (List.range rs.length) := hperm
    have hL : L ≠ [] := by
      rintro rfl
      cases hne
    have hlt : ∀ m ∈ L, m < rs.length := fun m hm => List.mem_range.mp (hperm.mem_iff.mp (List.mem_append_right _ hm))
    have hll : L.length ≤ rs.length := by
      have := hperm.length_eq
      rw [List.length_append, List.length_range] at this
      omega
    refine mq_setPS (i := 5) (Pd := RFirst [rowsD rs, .list (nD L)]) hM rfl (fun G0 S0 => dp_callN (ds_cons (dv_var S0) (ds_cons (dv_var S0) ds_nil)) ⟨rs, L, rfl, hL, by omega, hlt, ho.all⟩) (fun d hd => ?_) fun d s6 H6 hd hM => ?_
    · obtain ⟨m, _, rfl, _⟩ := hd rs L rfl
      rfl
    obtain ⟨m, hm, rfl, hmin⟩ := hd rs L rfl
    obtain ⟨r, hrm⟩ : ∃ r, rs[m]? = some r := ⟨_, List.getElem?_eq_getElem (hlt m hm)⟩
    have hro := ho.all r (List.mem_of_getElem? hrm)
    obtain ⟨j, hj1, hj2, hj3⟩ := first_at hm
    refine mq_remove (j := 0) (i := 1) (k0 := j) (n0 := (m : Nat)) hM rfl (fun G0 S0 => dv_var S0) (cast_at.mpr hj1) (fun m' hm' e => hj2 m' hm' (cast_at.mp e)) fun H7 hM => ?_
    have e7 : ((L.map fun k : Nat => (k : Int)).eraseIdx j).map PyData.int = nD (L.erase m) := by
      unfold nD
      rw [← hj3]
      simp only [map_eraseIdx]
    rw [e7] at hM
    refine mq_append (j := 1) (i := 2) (d := .int (m : Nat)) (ds := nD done) hM rfl (fun G0 S0 => dv_var S0) rfl (by
      rw [nD_len]
      have := hperm.length_eq
      rw [List.length_append, List.length_range] at this
      omega) fun H8 hM => ?_
    refine mq_aug (i := 3) (a := (costF (rowsOf rs done)).1) hM rfl rfl (fun G0 S0 => dv_rowJ 0 (dv_var S0) (dv_var S0) hrm) fun s9 H9 hM => ?_
    refine m_aug (i := 4) (a := (costF (rowsOf rs done)).2) hM rfl rfl (fun G0 S0 => dv_opC (dv_rowJ 3 (dv_var S0) (dv_var S0) hrm) (dv_var S0) (.inl ⟨by have := hro.wt; omega, by have := hro.wt; omega⟩)) fun s10 H10 hM => ?_
    have hpe : L.Perm (m :: L.erase m) := List.perm_cons_erase hm
    refine ⟨(done ++ [m], L.erase m), ?_, _, _, ⟨?_, ?_, ?_, ?_, some (.int (m : Nat)), ?_⟩, hM⟩
    · have := hpe.length_eq
      rw [List.length_cons] at this
      show (L.erase m).length < L.length
      omega
    · rw [nD_app]
      rfl
    · show ((done ++ [m]) ++ L.erase m).Perm _
      rw [List.append_assoc]
      exact (hpe.symm.append_left done).trans hperm
    · refine List.pairwise_append.mpr ⟨hpw, List.pairwise_singleton _ _, fun x hx y hy => ?_⟩
      rw [List.mem_singleton] at hy
      subst hy
      exact hcr x hx y hm
    · intro x hx y hy
      have hy' := List.mem_of_mem_erase hy
      rcases List.mem_append.mp hx with z | z
      · exact hcr x z y hy'
      · rw [List.mem_singleton] at z
        subst z
        exact hmin y hy'
    · rw [rowsOf_snoc hrm, costF_snoc]
      rfl
  · obtain ⟨done, L⟩ := a
    obtain ⟨rfl, hperm, hpw, _, x, rfl⟩ := hp
    have hL : L = [] := by
      cases L with
      | nil => rfl
      | cons _ _ => cases he
    subst hL
    obtain ⟨G', S', n'⟩ := hM.freeze
    refine sd_ret n'.i (dv_tup (ds := [.int (costF (rowsOf rs done)).2, .list (nD done)]) (ds_cons (dv_var S') (ds_cons (dv_var S') ds_nil)) (by show 2 ≤ 100000; decide)) fun v G4 H4 n4 hv => k v _ G4 H4 (fun rs2 e => ?_) (n'.trans n4) hv
    have e3 := rowsD_inj (List.cons.inj e).1
    subst e3
    rw [List.append_nil] at hperm
    exact ⟨done, rfl, hperm, hpw⟩
end
end K9

set_option Elab.async false
set_option linter.all false
set_option maxRecDepth 100000
set_option maxHeartbeats 4000000
/-! One machine: the table of the fewest late ones. -/
namespace K9
open PySem PySem.Spec PyProof.Rows L2 Evl
/-! ### the table, in plain Lean -/
def optMin : List Int → Option Int
  | [] => none
  | n :: ns => some (ns.foldl min n)
theorem minO_opt (ns : List Int) : minO ns = dueD (optMin ns) := by cases ns <;> rfl
def at2 (row : List (Option Int)) (m : Nat) : Option Int := (row[m]?).getD none
/-- what is there of a count, the last row not taken or taken -/
def sumsOf (row : List (Option Int)) (l d : Int) (m : Nat) : List Int := (at2 row m).toList ++ (match at2 row (m - 1) with
  | some v => if v + l ≤ d then [v + l] else []
  | none => [])
def nextRow (row : List (Option Int)) (l d : Int) : List (Option Int) := some 0 :: (List.range row.length).map fun i => optMin (sumsOf row l d (i + 1))
def lastRow (xs : List Rw) : List (Option Int) := xs.foldl (fun row r => nextRow row r.len r.due) [some 0]
theorem lastRow_snoc (xs : List Rw) (r : Rw) : lastRow (xs ++ [r]) = nextRow (lastRow xs) r.len r.due := by
  unfold lastRow
  rw [List.foldl_append]
  rfl
theorem nextRow_len (row : List (Option Int)) (l d : Int) : (nextRow row l d).length = row.length + 1 := by
  unfold nextRow
  rw [List.length_cons, List.length_map, List.length_range]
theorem fold_len : ∀ (xs : List Rw) (row : List (Option Int)), (xs.foldl (fun row r => nextRow row r.len r.due) row).length = row.length + xs.length
  | [], row => rfl
  | x :: xs, row => by
    rw [List.foldl_cons, fold_len xs, nextRow_len, List.length_cons]
    omega
theorem lastRow_len (xs : List Rw) : (lastRow xs).length = xs.length + 1 := by
  unfold lastRow
  rw [fold_len, List.length_singleton]
  omega
theorem at2_zero (xs : List Rw) : at2 (lastRow xs) 0 = some 0 := by
  rcases List.eq_nil_or_concat xs with e | ⟨ys, y, e⟩
  · subst e
    rfl
  · rw [e, List.concat_eq_append, lastRow_snoc]
    rfl
theorem at2_next {row : List (Option Int)} {l d : Int} {m : Nat} (h : m < row.length) : at2 (nextRow row l d) (m + 1) = optMin (sumsOf row l d (m + 1)) := by
  unfold at2 nextRow
  rw [List.getElem?_cons_succ, List.getElem?_map, List.getElem?_range h]
  rfl
theorem at2_out {row : List (Option Int)} {m : Nat} (h : row.length ≤ m) : at2 row m = none := by
  unfold at2
  rw [List.getElem?_eq_none h]
  rfl
def rowOD (row : List (Option Int)) : PyData := .list (row.map dueD)
def tabD (xs : List Rw) (j : Nat) : List PyData := (List.range (j + 1)).map fun i => rowOD (lastRow (xs.take i))
theorem tabD_len (xs : List Rw) (j : Nat) : (tabD xs j).length = j + 1 := by unfold tabD; rw [List.length_map, List.length_range]
theorem tabD_get {xs : List Rw} {j i : Nat} (h : i ≤ j) : (tabD xs j)[i]? = some (rowOD (lastRow (xs.take i))) := by
  unfold tabD
  rw [List.getElem?_map, List.getElem?_range (by omega)]
  rfl
theorem tabD_succ (xs : List Rw) (j : Nat) : tabD xs (j + 1) = tabD xs j ++ [rowOD (lastRow (xs.take (j + 1)))] := by
  unfold tabD
  rw [List.range_succ (n := j + 1), List.map_append]
  rfl
theorem tabD_last (xs : List Rw) (j : Nat) : atI (tabD xs j) (-1) = some (rowOD (lastRow (xs.take j))) := by
  cases j with
  | zero => exact atI_last [] _
  | succ j =>
    rw [tabD_succ]
    exact atI_last _ _
theorem dueD_at (o : Option Int) : isAt (dueD o) = true := by cases o <;> rfl
theorem isNone_due (o : Option Int) : isNone (dueD o) = o.isNone := by cases o <;> rfl
/-- a row and None behind it -/
theorem ahead_get {row : List (Option Int)} {m : Nat} (h : m ≤ row.length) : ((row.map dueD) ++ [PyData.none])[m]? = some (dueD (at2 row m)) := by
  unfold at2
  by_cases c : m < row.length
  · rw [List.getElem?_append_left (by rw [List.length_map]; exact c), List.getElem?_map, List.getElem?_eq_getElem c]
    rfl
  · have e : m = row.length := by omega
    subst e
    rw [List.getElem?_append_right (by rw [List.length_map]; exact Nat.le_refl _), List.length_map, Nat.sub_self, List.getElem?_eq_none (Nat.le_refl _)]
    rfl
theorem ord_inj {ds ds2 : List PyData} (h : PyData.list ds = PyData.list ds2) : ds = ds2 := PyData.list.inj h
theorem rowsOf_len {rs : List Rw} : ∀ {ord : List Nat}, (∀ k ∈ ord, k < rs.length) → (rowsOf rs ord).length = ord.length
  | [], _ => rfl
  | k :: r, h => by
    obtain ⟨y, e⟩ : ∃ y, rs[k]? = some y := ⟨_, List.getElem?_eq_getElem (h k List.mem_cons_self)⟩
    unfold rowsOf
    rw [List.filterMap_cons_some (f := fun k => rs[k]?) e, List.length_cons, List.length_cons]
    exact congrArg (· + 1) (rowsOf_len fun k hk => h k (List.mem_cons_of_mem _ hk))
theorem rowsOf_take {rs : List Rw} : ∀ {ord : List Nat} (j : Nat), (∀ k ∈ ord, k < rs.length) → rowsOf rs (ord.take j) = (rowsOf rs ord).take j
  | [], j, _ => by simp [rowsOf]
  | k :: r, 0, _ => rfl
  | k :: r, j + 1, h => by
    obtain ⟨y, e⟩ : ∃ y, rs[k]? = some y := ⟨_, List.getElem?_eq_getElem (h k List.mem_cons_self)⟩
    have ih := rowsOf_take (ord := r) j fun k hk => h k (List.mem_cons_of_mem _ hk)
    unfold rowsOf at ih ⊢
    rw [List.take_succ_cons, List.filterMap_cons_some (f := fun k => rs[k]?) e, List.filterMap_cons_some (f := fun k => rs[k]?) e, List.take_succ_cons, ih]
theorem rowsOf_get {rs : List Rw} {ord : List Nat} {j k : Nat} {r : Rw} (h : ∀ k ∈ ord, k < rs.length) (hj : ord[j]? = some k) (hr : rs[k]? = some r) : (rowsOf rs ord).take (j + 1) = (rowsOf rs ord).take j ++ [r] := by
  rw [← rowsOf_take _ h, ← rowsOf_take _ h, List.take_add_one, hj]
  exact rowsOf_snoc hr
/-! ### the defs -/
section
variable {P : Program} {w : World} {K : PySem.W.Frag} {mg : Str → Option Value} {base : Heap}
theorem dv_neg {s : L2.St} {G0 : Hp} {ta : TE} {i : Int} (h : EvD ta s G0 (.int i)) : EvD (tUn (rU fun i => .int (-i)) ta) s G0 (.int (-i)) := fun G H e w Q k =>
  h G H e w _ fun v G2 H2 n2 hv => by
    cases hv.eqInt
    exact ⟨i, rfl, k _ G2 H2 n2 (.int _)⟩
/-- a thing of a changing list -/
theorem MS.item {Gb Hb G H : Hp} {q : Sd} {M : Mu} {ps : List Addr} {s : L2.St} {j i : Nat} {ds : List PyData} {k0 : Int} {d : PyData} {ti : TE} (m : MS Gb Hb q M G ps s H) (hj : M[j]? = some (i, ds)) (hi : EvD ti s G (.int k0)) (hx : atI ds k0 = some d) {Q : VK}
    (k : ∀ v G' H', Nx G H G' H' → DD G' v d → Q v H') : tOp (rIxL K) (tVar i) ti s H Q := by
  obtain ⟨p, hp, b⟩ := m.mu j i ds hj
  obtain ⟨xs, hxs, hd⟩ := b.hp
  refine ⟨.ref p, b.sl, hi G H (Ex.refl _) m.n.i _ fun u G2 H2 n2 hu => ?_⟩
  cases hu.eqInt
  unfold atI at hx
  obtain ⟨j0, hj0, hx⟩ := Option.bind_eq_some_iff.mp hx
  obtain ⟨v, hv, hdv⟩ := hd.get hx
  exact ⟨p, xs, k0, v, rfl, rfl, SqL.of (n2.h _ _ hxs), by unfold atI; rw [hd.len, hj0]; exact hv, k v G2 H2 n2 (hdv.up n2.g)⟩
theorem mq_setX {Gb Hb H : Hp} {q : Sd} {M : Mu} {s : L2.St} {te : TE} {tz : TS} {D : Ends} {d : PyData} {i : Nat} (hM : MSt Gb Hb q M s H) (hi : noI M i = true) (h : ∀ G ps, MS Gb Hb q M G ps s H → ∀ Q : VK, (∀ v G' H', Nx G H G' H' → DD G' v d → Q v H') → te s H Q) (k : ∀ s' H', MSt Gb Hb (q.set i (some d)) M s' H' → tz D s' H') : tSeq (tAsg te (gName i)) tz D s H := by
  obtain ⟨G, ps, m⟩ := hM
  refine h G ps m _ fun v G' H' n hv => ?_
  have m' := m.up n
  exact k _ H' ⟨G', ps, m'.slots (m'.S.set i hv) fun x hx => List.getElem?_set_ne (Ne.symm (noI_ne hi x hx))⟩
abbrev PTab : List PyData → Prop := fun ds => ∃ (rs : List Rw) (ord : List Nat), ds = [rowsD rs, .list (nD ord)] ∧ ord.length ≤ 100 ∧ ∀ k ∈ ord, k < rs.length
abbrev RTab : List PyData → PyData → Prop := fun ds d => ∃ (rs : List Rw) (ord : List Nat), ds = [rowsD rs, .list (nD ord)] ∧ ord.length ≤ 100 ∧ (∀ k ∈ ord, k < rs.length) ∧ d = .list (tabD (rowsOf rs ord) ord.length)
set_option maxHeartbeats 8000000 in
theorem ok_in_time_table {f : Addr} {fd : FuncData} (F : Fun K "in_time_table" "in_time_table" s_in_time_table f fd) (T : Txt mg) : FnOk P w K mg base CX0 1 f fd ["rows", "order"] (SpR 2 RTab) := by
  refine okD F sc_in_time_table rfl fun cdv A outer s G H vs ds r Q E hr hR S i k => ?_
  obtain ⟨rs, ord, rfl, hl, hk, rfl⟩ := hR
  refine ⟨_, (pss_cons (ps_set (i := 2) sc_in_time_table.nd rfl (Or.inl rfl) (pe_lst (pa_cons (pe_lst (pa_cons pe_int pa_nil)) pa_nil)))
      (pss_cons (ps_for PassesOwn.never rfl (pi_enum (by rfl) T.b_enumerate (pa_cons (pv 1) pa_nil)) (pg_tup rfl (pgs_cons (pg_name (i := 3) sc_in_time_table.nd rfl (Or.inl rfl)) (pgs_cons (pg_name (i := 4) sc_in_time_table.nd rfl (Or.inl rfl)) pgs_nil))) (pss_cons (ps_asg (pe_slice (r := rSlA K) sl_tupA (pe_ix (r := rIxL K) ix_list (pv 0) (pv 4) (fun _ _ => rfl)) po_none (po_some pe_int)) (pg_tup rfl (pgs_cons (pg_name (i := 5) sc_in_time_table.nd rfl (Or.inl rfl)) (pgs_cons (pg_name (i := 6) sc_in_time_table.nd rfl (Or.inl rfl)) (pgs_cons (pg_name (i := 7) sc_in_time_table.nd rfl (Or.inl rfl)) pgs_nil)))))
      (pss_cons (ps_set (i := 8) sc_in_time_table.nd rfl (Or.inl rfl) (pe_op (r := rCat) op_cat (pe_ix (r := rIxL K) ix_list (pv 2) (pe_un un_neg pe_int) (fun _ _ => rfl)) (pe_lst (pa_cons pe_non pa_nil))))
      (pss_cons (ps_set (i := 9) sc_in_time_table.nd rfl (Or.inl rfl) (pe_lst (pa_cons pe_int pa_nil)))
      (pss_cons (ps_for PassesOwn.never rfl (pi_range2 (by rfl) T.b_range (pa_cons pe_int (pa_cons (pe_op op_add (pv 3) pe_int) pa_nil))) (pg_name (i := 10) sc_in_time_table.nd rfl (Or.inl rfl)) (pss_cons (ps_set (i := 11) sc_in_time_table.nd rfl (Or.inl rfl) (pe_ifExp (pt_cmpR op_isN (pe_ix (r := rIxL K) ix_list (pv 8) (pv 10) (fun _ _ => rfl)) pe_non (nomark _)) (pe_lst pa_nil) (pe_lst (pa_cons (pe_ix (r := rIxL K) ix_list (pv 8) (pv 10) (fun _ _ => rfl)) pa_nil))))
      (pss_cons (ps_if (PW.pt (pw_and (pt_cmpR op_notN (pe_ix (r := rIxL K) ix_list (pv 8) (pe_op op_sub (pv 10) pe_int) (fun _ _ => rfl)) pe_non (nomark _)) (pw_and1 (pt_cmpR op_le (pe_op op_add (pe_ix (r := rIxL K) ix_list (pv 8) (pe_op op_sub (pv 10) pe_int) (fun _ _ => rfl)) (pv 5)) (pv 7) (nomark _))))) (pss_one (ps_expr (pe_bm PySem.F.plainAttrs_list PySem.F.slot_list_append PySem.F.type_list_append mt_append (pv 11) (pa_cons (pe_op op_add (pe_ix (r := rIxL K) ix_list (pv 8) (pe_op op_sub (pv 10) pe_int) (fun _ _ => rfl)) (pv 5)) pa_nil)))) pss_nil)
      (pss_one (ps_expr (pe_bm PySem.F.plainAttrs_list PySem.F.slot_list_append PySem.F.type_list_append mt_append (pv 9) (pa_cons (pe_callBK (cr_minD rfl (hu65 hr)) (by rfl) T.b_min bt_min (pa_cons (pv 11) pa_nil) (pk_cons pe_non pk_nil)) pa_nil)))))))
      (pss_one (ps_expr (pe_bm PySem.F.plainAttrs_list PySem.F.slot_list_append PySem.F.type_list_append mt_append (pv 2) (pa_cons (pv 9) pa_nil)))))))))
      (pss_one (ps_ret (pv 2))))), ?_⟩
  have hxl : (rowsOf rs ord).length = ord.length := rowsOf_len hk
  refine mq_new (i := 2) (ds := tabD (rowsOf rs ord) 0) (MSt.start S (Nx.refl i)) rfl rfl (fun G0 S0 => ef_lst (ds := [rowOD [some 0]]) (ds_cons (dv_lst (ds := [.int 0]) (ds_cons dv_int ds_nil)) ds_nil) (by show 1 ≤ 100000; decide)) fun s1 H1 hM => ?_
  refine mq_for (ds := enumD 0 (nD ord)) (js := [3, 4]) (fun j q M => M = [(2, tabD (rowsOf rs ord) j)] ∧ ∃ a b c d e f g h i, q = [some (rowsD rs), some (.list (nD ord)), none, a, b, c, d, e, f, g, h, i]) hM ⟨rfl, none, none, none, none, none, none, none, none, none, rfl⟩ (fun G0 S0 => ei_enum (ds_cons (dv_var S0) ds_nil)) (fun j d q M hj hq => ?_) fun q M s' H' hq hM => ?_
  · obtain ⟨rfl, a, b, c, dd, e, f, g, h, ii, rfl⟩ := hq
    have hjl : j < ord.length := by
      have := (List.getElem?_eq_some_iff.mp hj).1
      rw [enumD_len, nD_len] at this
      exact this
    have hoj : ord[j]? = some ord[j] := List.getElem?_eq_getElem hjl
    have ej := enumD_get (nD ord) 0 j _ (nD_get hoj)
    rw [Nat.zero_add, hj] at ej
    cases ej
    obtain ⟨r, hrj⟩ : ∃ r, rs[ord[j]]? = some r := ⟨_, List.getElem?_eq_getElem (hk _ (List.getElem_mem hjl))⟩
    have hrow : (lastRow ((rowsOf rs ord).take j)).length = j + 1 := by rw [lastRow_len, List.length_take, hxl]; omega
    generalize hrw : lastRow ((rowsOf rs ord).take j) = row at hrow
    refine ⟨rfl, _, tg_tup (tgs_cons tg_name (tgs_cons tg_name tgs_nil)), fun Gc Hc nc s2 H2 hM => ?_⟩
    refine mq_asg (js := [5, 6, 7]) (d := .tuple [.int r.len, .int r.first, .int r.due]) hM (fun G0 S0 => dv_slT (ds := rowL r) (lo := none) (hi := some 3) (dv_row (dv_var S0) (dv_var S0) hrj) eo_none (eo_int dv_int) rfl) (tg_tup (tgs_cons tg_name (tgs_cons tg_name (tgs_cons tg_name tgs_nil)))) rfl fun s3 H3 hM => ?_
    refine mq_setX (i := 8) (d := .list (row.map dueD ++ [.none])) hM rfl (fun G0 ps m Q0 k0 => ?_) fun s4 H4 hM => ?_
    · show tOp (rIxL K) (tVar 2) _ s3 H3 (fun v H' => tOp rCat (fun _ H Q => Q v H) (tLst (tCons (tC .non) tNil)) s3 H' Q0)
      refine m.item (j := 0) rfl (dv_neg dv_int) (tabD_last _ j) fun v G' H' n hv => ?_
      refine (dv_cat (dv_const hv) (dv_lst (ds := [.none]) (ds_cons dv_non ds_nil) (by show 1 ≤ 100000; decide)) ?_) G' H' (Ex.refl _) n.i _ fun v2 G2 H2 n2 hv2 => k0 v2 G2 H2 (n.trans n2) (by rw [← hrw]; exact hv2)
      rw [List.length_map, hrw, hrow]
      show j + 1 + 1 ≤ 100000
      omega
    refine mq_new (i := 9) (ds := [.int 0]) hM rfl rfl (fun G0 S0 => ef_lst (ds := [.int 0]) (ds_cons dv_int ds_nil) (by show 1 ≤ 100000; decide)) fun s5 H5 hM => ?_
    refine mq_for (ds := intsD 1 (((j : Nat) : Int) + 2 - 1).toNat) (js := [10]) (fun m q M => M = [(2, tabD (rowsOf rs ord) j), (9, .int 0 :: (List.range m).map fun t => dueD (optMin (sumsOf row r.len r.due (t + 1))))] ∧ ∃ h i, q = [some (rowsD rs), some (.list (nD ord)), none, some (.int (j : Nat)), some (.int (ord[j] : Nat)), some (.int r.len), some (.int r.first), some (.int r.due), some (.list (row.map dueD ++ [.none])), none, h, i]) hM ⟨rfl, h, ii, rfl⟩ (fun G0 S0 => ei_rng2 (ds_cons dv_int (ds_cons (dv_opI (dv_var S0) dv_int) ds_nil)) (by omega)) (fun m d q M hm hq => ?_) fun q M s6 H6 hq hM => ?_
    · obtain ⟨rfl, h, ii, rfl⟩ := hq
      have hml : m < j + 1 := by
        have := (List.getElem?_eq_some_iff.mp hm).1
        rw [intsD_len] at this
        omega
      rw [intsD_get (by omega)] at hm
      cases hm
      have em : (1 : Int) + (m : Nat) = ((m + 1 : Nat) : Int) := by omega
      rw [em]
      refine ⟨rfl, _, tg_name, fun Gd Hd nd s7 H7 hM => ?_⟩
      have ix : ∀ {G0 : Hp} {s : L2.St} {te : TE} {m' : Nat} (S0 : SD G0 s [some (rowsD rs), some (.list (nD ord)), none, some (.int (j : Nat)), some (.int (ord[j] : Nat)), some (.int r.len), some (.int r.first), some (.int r.due), some (.list (row.map dueD ++ [.none])), none, some (.int ((m + 1 : Nat) : Int)), none]), m' ≤ row.length → EvD te s G0 (.int (m' : Nat)) → EvD (tOp (rIxL K) (tVar 8) te) s G0 (dueD (at2 row m')) := fun S0 hm' h => dv_ixL (ds := row.map dueD ++ [.none]) (dv_var S0) h (atI_nat (ahead_get hm'))
      have hM2 := hM.weak (leD.setNone [some (rowsD rs), some (.list (nD ord)), none, some (.int (j : Nat)), some (.int (ord[j] : Nat)), some (.int r.len), some (.int r.first), some (.int r.due), some (.list (row.map dueD ++ [.none])), none, some (.int ((m + 1 : Nat) : Int)), ii] 11)
      have e1 : ∀ {G0 : Hp} {s : L2.St} (S0 : SD G0 s [some (rowsD rs), some (.list (nD ord)), none, some (.int (j : Nat)), some (.int (ord[j] : Nat)), some (.int r.len), some (.int r.first), some (.int r.due), some (.list (row.map dueD ++ [.none])), none, some (.int ((m + 1 : Nat) : Int)), none]), EvD (tOp (rI0 fun i j => .int (i - j)) (tVar 10) (tC (.int 1))) s G0 (.int ((m : Nat) : Int)) := fun S0 => dv_is (dv_opI (dv_var S0) dv_int) (congrArg PyData.int (by omega))
      refine mq_new (i := 11) (ds := ((at2 row (m + 1)).toList).map .int) hM2 rfl rfl (fun G0 S0 => ef_if (b := (at2 row (m + 1)).isNone) (tt_T (dv_is (dv_isN (ix (m' := m + 1) S0 (by omega) (dv_var S0))) (congrArg PyData.bool (isNone_due _)))) (fun hb => ?_) fun hb => ?_) fun s8 H8 hM => ?_
      · rw [Option.isNone_iff_eq_none.mp hb]
        exact ef_lst ds_nil
      · cases ho : at2 row (m + 1) with
        | none => rw [ho] at hb; cases hb
        | some v =>
          refine ef_lst (ds := [.int v]) (ds_cons (dv_is (ix (m' := m + 1) S0 (by omega) (dv_var S0)) ?_) ds_nil) (by show 1 ≤ 100000; decide)
          rw [ho]
          rfl
      have fin : ∀ (D : Ends) (s9 : L2.St) (H9 : Hp) (ls : List Int), ls = sumsOf row r.len r.due (m + 1) → MSt Gd Hd [some (rowsD rs), some (.list (nD ord)), none, some (.int (j : Nat)), some (.int (ord[j] : Nat)), some (.int r.len), some (.int r.first), some (.int r.due), some (.list (row.map dueD ++ [.none])), none, some (.int ((m + 1 : Nat) : Int)), none] [(2, tabD (rowsOf rs ord) j), (9, .int 0 :: (List.range m).map fun t => dueD (optMin (sumsOf row r.len r.due (t + 1)))), (11, ls.map .int)] s9 H9 →
          D.nx = LM Gd Hd (fun q M => M = [(2, tabD (rowsOf rs ord) j), (9, .int 0 :: (List.range (m + 1)).map fun t => dueD (optMin (sumsOf row r.len r.due (t + 1))))] ∧ ∃ h i, q = [some (rowsD rs), some (.list (nD ord)), none, some (.int (j : Nat)), some (.int (ord[j] : Nat)), some (.int r.len), some (.int r.first), some (.int r.due), some (.list (row.map dueD ++ [.none])), none, h, i]) →
          tDrop (tBM K "list" rAppend (tVar 9) (tCons (tCKw (rMinD K) (tCons (tVar 11) tNil) (tCons (tC .non) tNil)) tNil)) D s9 H9 := fun D s9 H9 ls hls hM hD => by
        refine m_append (j := 1) (d := minO ls) hM rfl (fun G0 S0 => dv_minD (dv_var S0)) (by rw [minO_opt]; exact dueD_at _) ?_ fun H10 hM => ?_
        · rw [List.length_cons, List.length_map, List.length_range]; omega
        · rw [hD]
          refine ⟨_, _, ⟨rfl, some (.int ((m + 1 : Nat) : Int)), none, rfl⟩, ?_⟩
          have hM3 := MSt.drop (M := [(2, tabD (rowsOf rs ord) j), (9, (.int 0 :: (List.range m).map fun t => dueD (optMin (sumsOf row r.len r.due (t + 1)))) ++ [minO ls])]) (x := (11, ls.map .int)) hM
          rw [List.range_succ, List.map_append, ← List.cons_append]
          rw [minO_opt, hls] at hM3
          exact hM3
      refine mq_when (b := match at2 row m with | some v => decide (v + r.len ≤ r.due) | none => false) hM (fun G0 S0 => ?_) (fun hb H9 hM => ?_) fun hb H9 hM => ?_
      · have S1 := S0.weak (leD.setNone [some (rowsD rs), some (.list (nD ord)), some (.list (tabD (rowsOf rs ord) j)), some (.int (j : Nat)), some (.int (ord[j] : Nat)), some (.int r.len), some (.int r.first), some (.int r.due), some (.list (row.map dueD ++ [.none])), some (.list (.int 0 :: (List.range m).map fun t => dueD (optMin (sumsOf row r.len r.due (t + 1))))), some (.int ((m + 1 : Nat) : Int)), some (.list (((at2 row (m + 1)).toList).map .int))] 2)
        have S2 := S1.weak (leD.setNone [some (rowsD rs), some (.list (nD ord)), none, some (.int (j : Nat)), some (.int (ord[j] : Nat)), some (.int r.len), some (.int r.first), some (.int r.due), some (.list (row.map dueD ++ [.none])), some (.list (.int 0 :: (List.range m).map fun t => dueD (optMin (sumsOf row r.len r.due (t + 1))))), some (.int ((m + 1 : Nat) : Int)), some (.list (((at2 row (m + 1)).toList).map .int))] 9)
        have S3 := S2.weak (leD.setNone [some (rowsD rs), some (.list (nD ord)), none, some (.int (j : Nat)), some (.int (ord[j] : Nat)), some (.int r.len), some (.int r.first), some (.int r.due), some (.list (row.map dueD ++ [.none])), none, some (.int ((m + 1 : Nat) : Int)), some (.list (((at2 row (m + 1)).toList).map .int))] 11)
        refine et_is (et_and (a := !(at2 row m).isNone) (b := match at2 row m with | some v => decide (v + r.len ≤ r.due) | none => false) (tt_T (dv_is (dv_notN (ix S3 (by omega) (e1 S3))) (congrArg PyData.bool (by rw [isNone_due])))) fun hb => ?_) ?_
        · cases ho : at2 row m with
          | none => rw [ho] at hb; cases hb
          | some v =>
            refine tt_T (dv_opB (i := v + r.len) (j := r.due) (dv_opI (i := v) (dv_is (ix S3 (by omega) (e1 S3)) ?_) (dv_var S3)) (dv_var S3))
            rw [ho]
            rfl
        · cases at2 row m <;> rfl
      · cases ho : at2 row m with
        | none => rw [ho] at hb; cases hb
        | some v =>
          rw [ho] at hb
          have hb' : v + r.len ≤ r.due := of_decide_eq_true hb
          refine m_append (j := 2) (i := 11) (d := .int (v + r.len)) hM rfl (fun G0 S0 => ?_) rfl ?_ fun H10 hM => ?_
          · have S1 := S0.weak (leD.setNone [some (rowsD rs), some (.list (nD ord)), some (.list (tabD (rowsOf rs ord) j)), some (.int (j : Nat)), some (.int (ord[j] : Nat)), some (.int r.len), some (.int r.first), some (.int r.due), some (.list (row.map dueD ++ [.none])), some (.list (.int 0 :: (List.range m).map fun t => dueD (optMin (sumsOf row r.len r.due (t + 1))))), some (.int ((m + 1 : Nat) : Int)), some (.list (((at2 row (m + 1)).toList).map .int))] 2)
            have S2 := S1.weak (leD.setNone [some (rowsD rs), some (.list (nD ord)), none, some (.int (j : Nat)), some (.int (ord[j] : Nat)), some (.int r.len), some (.int r.first), some (.int r.due), some (.list (row.map dueD ++ [.none])), some (.list (.int 0 :: (List.range m).map fun t => dueD (optMin (sumsOf row r.len r.due (t + 1))))), some (.int ((m + 1 : Nat) : Int)), some (.list (((at2 row (m + 1)).toList).map .int))] 9)
            have S3 := S2.weak (leD.setNone [some (rowsD rs), some (.list (nD ord)), none, some (.int (j : Nat)), some (.int (ord[j] : Nat)), some (.int r.len), some (.int r.first), some (.int r.due), some (.list (row.map dueD ++ [.none])), none, some (.int ((m + 1 : Nat) : Int)), some (.list (((at2 row (m + 1)).toList).map .int))] 11)
            refine dv_opI (i := v) (dv_is (ix S3 (by omega) (e1 S3)) ?_) (dv_var S3)
            rw [ho]
            rfl
          · cases at2 row (m + 1) <;> simp
          · refine fin _ _ _ ((at2 row (m + 1)).toList ++ [v + r.len]) ?_ ?_ rfl
            · unfold sumsOf
              rw [Nat.add_sub_cancel, ho]
              show _ = _ ++ (if v + r.len ≤ r.due then [v + r.len] else [])
              rw [if_pos hb']
            · rw [List.map_append]
              exact hM
      · refine fin _ _ _ ((at2 row (m + 1)).toList) ?_ hM rfl
        unfold sumsOf
        rw [Nat.add_sub_cancel]
        cases ho : at2 row m with
        | none => exact (List.append_nil _).symm
        | some v =>
          rw [ho] at hb
          have hb' : ¬ v + r.len ≤ r.due := of_decide_eq_false hb
          show _ = _ ++ (if v + r.len ≤ r.due then [v + r.len] else [])
          rw [if_neg hb', List.append_nil]
    · obtain ⟨rfl, h, ii, rfl⟩ := hq
      rw [intsD_len, show (((j : Nat) : Int) + 2 - 1).toNat = j + 1 by omega] at hM
      have ef : (PyData.int 0 :: (List.range (j + 1)).map fun t => dueD (optMin (sumsOf row r.len r.due (t + 1)))) = (lastRow ((rowsOf rs ord).take (j + 1))).map dueD := by
        rw [rowsOf_get hk hoj hrj, lastRow_snoc, hrw]
        unfold nextRow
        rw [List.map_cons, List.map_map, hrow]
        rfl
      rw [ef] at hM
      refine m_appendM (j := 0) (M := [(2, tabD (rowsOf rs ord) j)]) hM rfl (by rw [tabD_len]; omega) fun H7 hM => ?_
      refine ⟨_, _, ⟨?_, _, _, _, _, _, _, _, _, _, rfl⟩, hM⟩
      rw [tabD_succ]
      rfl
  · obtain ⟨rfl, a, b, c, dd, e, f, g, h, ii, rfl⟩ := hq
    rw [enumD_len, nD_len] at hM
    obtain ⟨G', S', n'⟩ := hM.freeze
    exact sd_ret n'.i (dv_var S') fun v G4 H4 n4 hv => k v G4 H4 (n'.trans n4) hv
end
end K9

set_option Elab.async false
set_option linter.all false
set_option maxRecDepth 100000
set_option maxHeartbeats 4000000
/-! One machine: the fewest late ones. -/
namespace K9
open PySem PySem.Spec PyProof.Rows L2 Evl
theorem shN_due (o : Option Int) : shN (dueD o) = true := by
  cases o with
  | none => exact fine_none.shaped
  | some i => exact shaped_int i
theorem eqv_due (a b : Option Int) : PyData.eqv (dueD a) (dueD b) = decide (a = b) := by
  cases a <;> cases b <;> first | (simp [dueD, PyData.eqv]; done) | skip
  rename_i x y
  show PyData.eqv (.int x) (.int y) = _
  rw [eqv_int, Bool.beq_eq_decide_eq]
  exact decide_eq_decide.mpr ⟨fun h => congrArg some h, fun h => Option.some.inj h⟩
theorem at2_get {row : List (Option Int)} {m : Nat} (h : at2 row m ≠ none) : m < row.length ∧ (row.map dueD)[m]? = some (dueD (at2 row m)) := by
  have hl : m < row.length := by
    rcases Nat.lt_or_ge m row.length with c | c
    · exact c
    · exact absurd (at2_out c) h
  refine ⟨hl, ?_⟩
  unfold at2
  rw [List.getElem?_map, List.getElem?_eq_getElem hl]
  rfl
/-- a row's count that the row ahead has not comes from one less there -/
theorem back_one {row : List (Option Int)} {l d : Int} {m : Nat} (h0 : at2 row 0 = some 0) (h : at2 (nextRow row l d) m ≠ none) (hne : at2 row m ≠ at2 (nextRow row l d) m) : 1 ≤ m ∧ at2 row (m - 1) ≠ none := by
  cases m with
  | zero =>
    rw [h0] at hne
    exact absurd rfl hne
  | succ m =>
    refine ⟨by omega, fun e => hne ?_⟩
    have hl := (at2_get h).1
    rw [nextRow_len] at hl
    rw [at2_next (by omega)]
    unfold sumsOf
    rw [Nat.add_sub_cancel] at e ⊢
    rw [e]
    cases at2 row (m + 1) <;> rfl
theorem DDs.rev {G : Hp} : ∀ {vs : List V} {ds : List PyData}, DDs G vs ds → DDs G vs.reverse ds.reverse
  | _, _, .nil => .nil
  | _, _, .cons h t => by
    rw [List.reverse_cons, List.reverse_cons]
    exact t.rev.app (.one h)
def Best (xs : List Rw) (many : Nat) : Prop := at2 (lastRow xs) many ≠ none ∧ ∀ m, at2 (lastRow xs) m ≠ none → m ≤ many
theorem best_ex (xs : List Rw) : ∃ many, Best xs many := by
  have key : ∀ n : Nat, (∃ many, many ≤ n ∧ at2 (lastRow xs) many ≠ none ∧ ∀ m, m ≤ n → at2 (lastRow xs) m ≠ none → m ≤ many) := by
    intro n
    induction n with
    | zero => exact ⟨0, Nat.le_refl _, by rw [at2_zero]; exact (fun z => by cases z), fun m h _ => h⟩
    | succ n ih =>
      obtain ⟨many, h1, h2, h3⟩ := ih
      by_cases c : at2 (lastRow xs) (n + 1) = none
      · refine ⟨many, by omega, h2, fun m hm hn => ?_⟩
        rcases Nat.lt_or_ge n m with z | z
        · have : m = n + 1 := by omega
          subst this
          exact absurd c hn
        · exact h3 m z hn
      · exact ⟨n + 1, Nat.le_refl _, c, fun m hm _ => hm⟩
  obtain ⟨many, _, h2, h3⟩ := key (xs.length + 1)
  refine ⟨many, h2, fun m hn => ?_⟩
  have := (at2_get hn).1
  rw [lastRow_len] at this
  exact h3 m (by omega) hn
theorem sub_len {sm ord : List Nat} (h : sm.Sublist ord) (nd : ord.Nodup) : sm.length + (ord.filter fun x => !decide (x ∈ sm)).length = ord.length := by
  induction h with
  | slnil => rfl
  | @cons l₁ l₂ a h ih =>
    have nd' := List.nodup_cons.mp nd
    have ha : a ∉ l₁ := fun z => nd'.1 (h.subset z)
    rw [List.filter_cons, if_pos (by simp [ha]), List.length_cons, List.length_cons]
    have := ih nd'.2
    omega
  | @cons_cons l₁ l₂ a h ih =>
    have nd' := List.nodup_cons.mp nd
    have e : (l₂.filter fun x => !decide (x ∈ a :: l₁)) = l₂.filter fun x => !decide (x ∈ l₁) := List.filter_congr fun x hx => by
      have : x ≠ a := fun z => nd'.1 (z ▸ hx)
      simp [this]
    rw [List.filter_cons, if_neg (by simp), e, List.length_cons, List.length_cons]
    have := ih nd'.2
    omega
theorem enum_row (row : List (Option Int)) : ∀ i : Nat, enumD i (row.map dueD) = (row.zipIdx i).map fun p => PyData.tuple [.int (p.2 : Nat), dueD p.1] := by
  induction row with
  | nil => intro i; rfl
  | cons o r ih =>
    intro i
    rw [List.map_cons, List.zipIdx_cons, List.map_cons]
    show PyData.tuple [.int (i : Nat), dueD o] :: enumD (i + 1) (r.map dueD) = _
    rw [ih]
section
variable {P : Program} {w : World} {K : PySem.W.Frag} {mg : Str → Option Value} {base : Heap}
theorem dv_rev {s : L2.St} {G0 : Hp} {ta : TE} {ds : List PyData} (h : EvD ta s G0 (.list ds)) : EvD (tRevL K ta) s G0 (.list ds.reverse) := fun G H e i Q k =>
  h G H e i _ fun v G2 H2 n2 hv => by
    obtain ⟨a, xs, rfl, ea, hx⟩ := hv.atLst
    exact ⟨a, xs, rfl, SqL.of (n2.i _ _ ea), fun p np => k _ _ _ (n2.trans (Nx.new n2.i np)) (.lst upd_same (hx.rev.up (Ex.new (fresh_back n2.i np))))⟩
theorem dv_max {s : L2.St} {G0 : Hp} {ta : TE} {ns : List Int} {mx : Int} (h : EvD ta s G0 (.list (ns.map .int))) (hm : mx ∈ ns) (hx : ∀ y ∈ ns, y ≤ mx) : EvD (tCB (rMax K) (tCons ta tNil)) s G0 (.int mx) :=
  dv_cb (ds_cons h ds_nil) fun G H vs _ w hv Q k => by
    obtain ⟨v, rfl, hw⟩ := hv.inv1
    obtain ⟨a, xs, rfl, ea, hxs⟩ := hw.atLst
    cases hxs.ints
    refine ⟨a, ns, rfl, SqL.of (w _ _ ea), List.length_pos_of_mem hm, fun m h1 h2 => ?_⟩
    have e : m = mx := Int.le_antisymm (hx m h1) (h2 mx hm)
    subst e
    exact k _ G H (Nx.refl w) (.int _)
theorem dv_tupleL {s : L2.St} {G0 : Hp} {ta : TE} {ds : List PyData} (h : EvD ta s G0 (.list ds)) (hn : gdsLike ds = false) : EvD (tCB (rTupQ K) (tCons ta tNil)) s G0 (.tuple ds) :=
  dv_cb (ds_cons h ds_nil) fun G H vs _ w hv Q k => by
    obtain ⟨v, rfl, hw⟩ := hv.inv1
    obtain ⟨a, xs, rfl, ea, hx⟩ := hw.atLst
    exact ⟨a, xs, rfl, .inl ⟨SqL.of (w _ _ ea), fun p np => k _ _ _ (Nx.new w np) (.tup (.inl upd_same) (fun z => by rw [hn] at z; cases z) (hx.up (Ex.new (fresh_back w np))))⟩⟩
/-- so many in time, by due order -/
abbrev PIn : List PyData → Prop := fun ds => ∃ (rs : List Rw) (ord : List Nat) (many : Nat), ds = [rowsD rs, .list (nD ord), .list (tabD (rowsOf rs ord) ord.length), .int (many : Nat)] ∧ ord.length ≤ 100 ∧ (∀ k ∈ ord, k < rs.length) ∧ at2 (lastRow (rowsOf rs ord)) many ≠ none
abbrev RIn : List PyData → PyData → Prop := fun ds d => ∀ (ord : List Nat), ds[1]? = some (.list (nD ord)) → ∃ sm : List Nat, d = .list (nD sm) ∧ sm.Sublist ord
theorem ok_in_time {f : Addr} {fd : FuncData} (F : Fun K "in_time" "in_time" s_in_time f fd) (T : Txt mg) : FnOk P w K mg base CX0 1 f fd ["rows", "order", "table", "many"] (SpN 4 PIn RIn) := by
  refine okN' F sc_in_time rfl fun cdv A outer s G H vs ds Q E hr hR S i k => ?_
  obtain ⟨rs, ord, many, rfl, hl, hk, hmany⟩ := hR
  refine ⟨_, (pss_cons (ps_set (i := 4) sc_in_time.nd rfl (Or.inl rfl) (pe_lst pa_nil))
      (pss_cons (ps_for PassesOwn.never rfl (pi_range3 (by rfl) T.b_range (pa_cons (pe_callB (r := rLenQ K) cr_len (by rfl) T.b_len bt_len (pa_cons (pv 1) pa_nil)) (pa_cons pe_int (pa_cons (pe_un un_neg pe_int) pa_nil)))) (pg_name (i := 5) sc_in_time.nd rfl (Or.inl rfl)) (pss_cons (ps_set (i := 6) sc_in_time.nd rfl (Or.inl rfl) (pe_op (r := rCat) op_cat (pe_ix (r := rIxL K) ix_list (pv 2) (pe_op op_sub (pv 5) pe_int) (fun _ _ => rfl)) (pe_lst (pa_cons pe_non pa_nil))))
      (pss_one (ps_if (pt_cmpR (r := rNeD K) (op_neD hr.units) (pe_ix (r := rIxL K) ix_list (pv 6) (pv 3) (fun _ _ => rfl)) (pe_ix (r := rIxL K) ix_list (pe_ix (r := rIxL K) ix_list (pv 2) (pv 5) (fun _ _ => rfl)) (pv 3) (fun _ _ => rfl)) (nomark _)) (pss_cons (ps_expr (pe_bm PySem.F.plainAttrs_list PySem.F.slot_list_append PySem.F.type_list_append mt_append (pv 4) (pa_cons (pe_ix (r := rIxL K) ix_list (pv 1) (pe_op op_sub (pv 5) pe_int) (fun _ _ => rfl)) pa_nil)))
      (pss_one (ps_aug (i := 3) sc_in_time.nd rfl (Or.inl rfl) pe_int ip_sub))) pss_nil))))
      (pss_one (ps_ret (pe_revL (pv 4)))))), ?_⟩
  have hxl : (rowsOf rs ord).length = ord.length := rowsOf_len hk
  refine mq_new (i := 4) (ds := nD []) (MSt.start S (Nx.refl i)) rfl rfl (fun G0 S0 => ef_lst ds_nil) fun s1 H1 hM => ?_
  refine mq_for (ds := stepsD (ord.length : Nat) (-1) (((ord.length : Nat) : Int) - 0).toNat) (js := [5]) (fun j q M => ∃ (m : Nat) (found : List Nat), M = [(4, nD found)] ∧ at2 (lastRow ((rowsOf rs ord).take (ord.length - j))) m ≠ none ∧ found.reverse.Sublist (ord.drop (ord.length - j)) ∧ ∃ a b, q = [some (rowsD rs), some (.list (nD ord)), some (.list (tabD (rowsOf rs ord) ord.length)), some (.int (m : Nat)), none, a, b]) hM ?_ (fun G0 S0 => ei_rng3 (ds_cons (dv_is (dv_len (dv_var S0) rfl) (by show PyData.int (((nD ord).length : Nat) : Int) = _; rw [nD_len])) (ds_cons dv_int (ds_cons (dv_neg dv_int) ds_nil))) (RgC.neg (by omega) (by omega) (by decide) (by decide))) (fun j d q M hj hq => ?_) fun q M s' H' hq hM => ?_
  · refine ⟨many, [], rfl, ?_, by simp, none, none, rfl⟩
    rw [Nat.sub_zero, ← hxl, List.take_length]
    exact hmany
  · obtain ⟨m, found, rfl, hat, hsub, a, b, rfl⟩ := hq
    have hjl : j < ord.length := by
      have := (List.getElem?_eq_some_iff.mp hj).1
      rw [stepsD_len] at this
      omega
    have ed : d = .int ((ord.length - j : Nat) : Int) := by
      unfold stepsD at hj
      rw [List.getElem?_map, List.getElem?_range (by omega)] at hj
      have := (Option.some.inj hj).symm
      rw [this]
      exact congrArg PyData.int (by omega)
    subst ed
    obtain ⟨p, hp⟩ : ∃ p, ord.length - j = p + 1 := ⟨ord.length - j - 1, by omega⟩
    rw [hp] at hat hsub ⊢
    have hpo : p < ord.length := by omega
    have hop : ord[p]? = some ord[p] := List.getElem?_eq_getElem hpo
    obtain ⟨r, hrp⟩ : ∃ r, rs[ord[p]]? = some r := ⟨_, List.getElem?_eq_getElem (hk _ (List.getElem_mem hpo))⟩
    have hnx : lastRow ((rowsOf rs ord).take (p + 1)) = nextRow (lastRow ((rowsOf rs ord).take p)) r.len r.due := by rw [rowsOf_get hk hop hrp, lastRow_snoc]
    have hrow : (lastRow ((rowsOf rs ord).take p)).length = p + 1 := by rw [lastRow_len, List.length_take, hxl]; omega
    have hz := at2_zero ((rowsOf rs ord).take p)
    rw [hnx] at hat
    generalize hrw : lastRow ((rowsOf rs ord).take p) = row at hrow hat hnx hz
    have hg := at2_get hat
    rw [nextRow_len] at hg
    refine ⟨rfl, _, tg_name, fun Gc Hc nc s2 H2 hM => ?_⟩
    refine mq_set (i := 6) (d := .list (row.map dueD ++ [.none])) hM rfl (fun G0 S0 => ?_) fun s3 H3 hM => ?_
    · refine dv_cat (ds := row.map dueD) (dv_ixL (ds := tabD (rowsOf rs ord) ord.length) (dv_var S0) (dv_is (dv_opI (dv_var S0) dv_int) (congrArg PyData.int (by omega : ((p + 1 : Nat) : Int) - 1 = (p : Nat)))) (atI_nat (by rw [tabD_get (by omega), hrw]; rfl))) (dv_lst (ds := [.none]) (ds_cons dv_non ds_nil) (by show 1 ≤ 100000; decide)) ?_
      rw [List.length_map, hrow]
      show p + 1 + 1 ≤ 100000
      omega
    refine m_if (b := !decide (at2 row m = at2 (nextRow row r.len r.due) m)) hM (fun G0 S0 => tt_T (dv_is (dv_neD (d1 := dueD (at2 row m)) (d2 := dueD (at2 (nextRow row r.len r.due) m)) (dv_ixL (ds := row.map dueD ++ [.none]) (dv_var S0) (dv_var S0) (atI_nat (ahead_get (by omega)))) (dv_ixL (ds := (nextRow row r.len r.due).map dueD) (dv_ixL (ds := tabD (rowsOf rs ord) ord.length) (dv_var S0) (dv_var S0) (atI_nat (by rw [tabD_get (by omega), hnx]; rfl))) (dv_var S0) (atI_nat hg.2)) (shN_due _) (shN_due _)) ?_)) (fun hb H4 hM => ?_) fun hb H4 hM => ?_
    · rw [eqv_due]
    · have hne : at2 row m ≠ at2 (nextRow row r.len r.due) m := fun e => by rw [decide_eq_true e] at hb; cases hb
      obtain ⟨h1, h2⟩ := back_one hz hat hne
      refine mq_append (j := 0) (i := 4) (d := .int (ord[p] : Nat)) (ds := nD found) hM rfl (fun G0 S0 => dv_ixL (ds := nD ord) (dv_var S0) (dv_is (dv_opI (dv_var S0) dv_int) (congrArg PyData.int (by omega : ((p + 1 : Nat) : Int) - 1 = (p : Nat)))) (atI_nat (nD_get hop))) rfl ?_ fun H5 hM => ?_
      · rw [nD_len]
        have := hsub.length_le
        rw [List.length_reverse, List.length_drop] at this
        omega
      refine m_aug (i := 3) (a := (m : Nat)) hM rfl rfl (fun G0 S0 => dv_int) fun s6 H6 hM => ?_
      refine ⟨_, _, ⟨m - 1, found ++ [ord[p]], ?_, ?_, ?_, some (.int ((p + 1 : Nat) : Int)), some (.list (row.map dueD ++ [.none])), ?_⟩, hM⟩
      · rw [nD_app]
        rfl
      · rw [show ord.length - (j + 1) = p by omega, hrw]
        exact h2
      · rw [show ord.length - (j + 1) = p by omega, List.reverse_append, List.reverse_singleton, List.singleton_append, List.drop_eq_getElem_cons hpo]
        exact hsub.cons₂ _
      · rw [show ((m : Nat) : Int) - 1 = ((m - 1 : Nat) : Int) by omega]
        rfl
    · have he : at2 row m = at2 (nextRow row r.len r.due) m := by simpa using hb
      refine ⟨_, _, ⟨m, found, rfl, ?_, ?_, some (.int ((p + 1 : Nat) : Int)), some (.list (row.map dueD ++ [PyData.none])), rfl⟩, hM⟩
      · rw [show ord.length - (j + 1) = p by omega, hrw, he]
        exact hat
      · rw [show ord.length - (j + 1) = p by omega, List.drop_eq_getElem_cons hpo]
        exact hsub.cons _
  · obtain ⟨m, found, rfl, hat, hsub, a, b, rfl⟩ := hq
    rw [stepsD_len, show ord.length - (((ord.length : Nat) : Int) - 0).toNat = 0 by omega, List.drop_zero] at hsub
    obtain ⟨G', S', n'⟩ := hM.freeze
    refine sd_ret n'.i (dv_is (dv_rev (dv_var S')) ?_) fun v G4 H4 n4 hv => k v (.list (nD found.reverse)) G4 H4 (fun ord2 e => ?_) (n'.trans n4) hv
    · unfold nD
      rw [← List.map_reverse, ← List.map_reverse]
    · have e2 := nD_inj (PyData.list.inj (Option.some.inj e))
      subst e2
      exact ⟨found.reverse, rfl, hsub⟩
abbrev RFew : List PyData → PyData → Prop := fun ds d => ∀ rs : List Rw, ds = [rowsD rs] → ∃ (ord ord2 : List Nat) (many : Nat) (x : PyData), d = .tuple [.int (((rs.length : Nat) : Int) - (many : Nat)), .list (nD ord2), x] ∧ ord.Perm (List.range rs.length) ∧ (ord.Pairwise fun a b => dueAt rs a ≤ dueAt rs b) ∧ Best (rowsOf rs ord) many ∧
  ord2.length = rs.length ∧ ∀ k ∈ ord2, k < rs.length
theorem ok_fewest_late {f : Addr} {fd : FuncData} (F : Fun K "fewest_late" "fewest_late" s_fewest_late f fd) (T : Txt mg) (C_need_rows : Cal P w K mg base 4 "need_rows" (SpR 1 RNone)) (C_due_order : Cal P w K mg base 1 "due_order" (SpN 1 POrd ROrd)) (C_in_time_table : Cal P w K mg base 1 "in_time_table" (SpR 2 RTab))
    (C_in_time : Cal P w K mg base 1 "in_time" (SpN 4 PIn RIn)) : FnOk P w K mg base CX0 5 f fd ["rows"] (SpN 1 PSum RFew) := by
  refine okN' F sc_fewest_late rfl fun cdv A outer s G H vs ds Q E hr hR S i k => ?_
  obtain ⟨rs, rfl, ho⟩ := hR
  refine ⟨_, (pss_cons (ps_expr (pe_c C_need_rows hr (by decide) (by rfl) (pa_cons (pv 0) pa_nil)))
      (pss_cons (ps_set (i := 1) sc_fewest_late.nd rfl (Or.inl rfl) (pe_c C_due_order hr (by decide) (by rfl) (pa_cons (pv 0) pa_nil)))
      (pss_cons (ps_set (i := 2) sc_fewest_late.nd rfl (Or.inl rfl) (pe_c C_in_time_table hr (by decide) (by rfl) (pa_cons (pv 0) (pa_cons (pv 1) pa_nil))))
      (pss_cons (ps_set (i := 3) sc_fewest_late.nd rfl (Or.inl rfl) (pe_callB (r := rMax K) (cr_max rfl) (by rfl) T.b_max bt_max (pa_cons (pe_lc (own := [("count", 5), ("least", 6)]) (g := (gTup K 2 (gCons (gName 5) (gCons (gName 6) gNil)))) rfl sc_fewest_late.nd (pi_enum (by rfl) T.b_enumerate (pa_cons (pe_ix (r := rIxL K) ix_list (pv 2) (pe_un un_neg pe_int) (fun _ _ => rfl)) pa_nil)) (blkOk_by (N := ["rows", "order", "table", "many", "some", "count", "least", "number"]) (sc := defScope s_fewest_late) (by decide +kernel)) (fun _ _ _ _ _ => (pg_tup rfl (pgs_cons (pg_name (i := 5) sc_fewest_late.nd rfl (Or.inl rfl)) (pgs_cons (pg_name (i := 6) sc_fewest_late.nd rfl (Or.inl rfl)) pgs_nil)))) (fun _ _ _ _ _ => (pts_one (pt_cmpR op_notN (pv 6) pe_non (nomark _)))) (fun _ _ _ _ _ => (pv 5))) pa_nil)))
      (pss_cons (ps_set (i := 4) sc_fewest_late.nd rfl (Or.inr rfl) (pe_c C_in_time hr (by decide) (by rfl) (pa_cons (pv 0) (pa_cons (pv 1) (pa_cons (pv 2) (pa_cons (pv 3) pa_nil))))))
      (pss_one (ps_ret (pe_tupF (pa_cons (pe_op op_sub (pe_callB (r := rLenQ K) cr_len (by rfl) T.b_len bt_len (pa_cons (pv 0) pa_nil)) (pv 3)) (pa_cons (pe_op (r := rCat) op_cat (pv 4) (pe_lc (own := [("number", 7)]) (g := (gName 7)) rfl sc_fewest_late.nd (pi_list (pv 1)) (blkOk_by (N := ["rows", "order", "table", "many", "some", "count", "least", "number"]) (sc := defScope s_fewest_late) (by decide +kernel)) (fun _ _ _ _ _ => (pg_name (i := 7) sc_fewest_late.nd rfl (Or.inl rfl))) (fun _ _ _ _ _ => (pts_one (pt_cmpR (r := rIn K true) op_notIn_seq (pv 7) (pv 4) (by rfl)))) (fun _ _ _ _ _ => (pv 7)))) (pa_cons (pv 2) pa_nil))))))))))), ?_⟩
  have hl := ho.most
  refine sq_drop (Pd := fun _ => True) i (.of (dv_call (ds_cons (dv_var S) ds_nil) ⟨rs, rfl, ho, rfl⟩) trivial) fun G1 H1 n1 => ?_
  refine sq_setP (Pd := ROrd [rowsD rs]) (S.up n1.g) n1.i (dp_callN (ds_cons (dv_var (S.up n1.g)) ds_nil) ⟨rs, rfl, hl⟩) fun d s2 G2 H2 hd S2 n2 => ?_
  obtain ⟨ord, rfl, hperm, hpw⟩ := hd rs rfl
  have hk : ∀ k ∈ ord, k < rs.length := fun k hk => List.mem_range.mp (hperm.mem_iff.mp hk)
  have hol : ord.length = rs.length := by rw [hperm.length_eq, List.length_range]
  have hxl : (rowsOf rs ord).length = ord.length := rowsOf_len hk
  obtain ⟨many, hbest⟩ := best_ex (rowsOf rs ord)
  have hmg := at2_get hbest.1
  have hrl := lastRow_len (rowsOf rs ord)
  refine sq_set (d := .list (tabD (rowsOf rs ord) ord.length)) S2 n2.i (dv_call (ds_cons (dv_var S2) (ds_cons (dv_var S2) ds_nil)) ⟨rs, ord, rfl, by omega, hk, rfl⟩) fun s3 G3 H3 S3 n3 => ?_
  refine sq_set (d := .int (many : Nat)) S3 n3.i (dv_max (ns := ((lastRow (rowsOf rs ord)).zipIdx.filter fun p => p.1.isSome).map fun p => ((p.2 : Nat) : Int)) (dv_is (dv_lc (js := [5, 6]) (fun d => [some (rowsD rs), some (.list (nD ord)), some (.list (tabD (rowsOf rs ord) ord.length)), none, none, (kids d)[0]?, (kids d)[1]?, none]) (fun d => !isNone ((kids d)[1]?.getD .none)) (fun d => (kids d)[0]?.getD .none) (ei_enum (ds := (lastRow (rowsOf rs ord)).map dueD) (ds_cons (dv_ixL (ds := tabD (rowsOf rs ord) ord.length) (dv_var S3) (dv_neg dv_int) (by rw [tabD_last, ← hxl, List.take_length]; rfl)) ds_nil)) S3 ?_ (fun d hm => ?_) (by decide) (fun d hm s4 G4 e4 S4 => ?_) fun d hm _ s4 G4 e4 S4 => ?_) ?_) ?_ ?_) fun s4 G4 H4 S4 n4 => ?_
  · rw [enumD_len, List.length_map, hrl]; omega
  · rw [enum_row] at hm
    obtain ⟨p, _, rfl⟩ := List.mem_map.mp hm
    exact tg_tup (tgs_cons tg_name (tgs_cons tg_name tgs_nil))
  · rw [enum_row] at hm
    obtain ⟨p, _, rfl⟩ := List.mem_map.mp hm
    exact tt_T (dv_notN (dv_var S4))
  · rw [enum_row] at hm
    obtain ⟨p, _, rfl⟩ := List.mem_map.mp hm
    exact dv_var S4
  · rw [enum_row, List.filter_map, List.map_map, List.map_map]
    refine congrArg PyData.list ?_
    have : (((fun d => !isNone ((kids d)[1]?.getD .none)) ∘ fun p : Option Int × Nat => PyData.tuple [.int (p.2 : Nat), dueD p.1])) = fun p => p.1.isSome := by
      funext p
      show (!isNone (dueD p.1)) = _
      rw [isNone_due]
      cases p.1 <;> rfl
    rw [this]
    rfl
  · refine List.mem_map.mpr ⟨(at2 (lastRow (rowsOf rs ord)) many, many), List.mem_filter.mpr ⟨?_, ?_⟩, rfl⟩
    · refine List.mem_zipIdx_iff_getElem?.mpr ?_
      show (lastRow (rowsOf rs ord))[many]? = some (at2 (lastRow (rowsOf rs ord)) many)
      unfold at2
      rw [List.getElem?_eq_getElem hmg.1]
      rfl
    · show (at2 (lastRow (rowsOf rs ord)) many).isSome = true
      exact Option.isSome_iff_ne_none.mpr hbest.1
  · intro y hy
    obtain ⟨p, hp, rfl⟩ := List.mem_map.mp hy
    obtain ⟨h1, h2⟩ := List.mem_filter.mp hp
    have h3 := List.mem_zipIdx_iff_getElem?.mp h1
    have h4 : at2 (lastRow (rowsOf rs ord)) p.2 ≠ none := by
      unfold at2
      rw [h3]
      exact Option.isSome_iff_ne_none.mp h2
    have := hbest.2 _ h4
    omega
  refine sq_setP (Pd := RIn [rowsD rs, .list (nD ord), .list (tabD (rowsOf rs ord) ord.length), .int (many : Nat)]) S4 n4.i (dp_callN (ds_cons (dv_var S4) (ds_cons (dv_var S4) (ds_cons (dv_var S4) (ds_cons (dv_var S4) ds_nil)))) ⟨rs, ord, many, rfl, by omega, hk, hbest.1⟩) fun d s5 G5 H5 hd S5 n5 => ?_
  obtain ⟨sm, rfl, hsub⟩ := hd ord rfl
  have hsl := hsub.length_le
  have hfl : (ord.filter fun x => !decide (x ∈ sm)).length ≤ ord.length := List.length_filter_le _ _
  have hnd : ord.Nodup := hperm.nodup_iff.mpr List.nodup_range
  refine sd_ret n5.i (dv_tup (ds := [.int (((rs.length : Nat) : Int) - (many : Nat)), .list (nD (sm ++ ord.filter fun x => !decide (x ∈ sm))), .list (tabD (rowsOf rs ord) ord.length)]) (ds_cons (dv_opI (i := ((rs.length : Nat) : Int)) (j := ((many : Nat) : Int)) (dv_is (dv_len (dv_var S5) rfl) (by show PyData.int (((rs.map rowD).length : Nat) : Int) = _; rw [List.length_map])) (dv_var S5)) (ds_cons (dv_is (dv_cat (es := nD (ord.filter fun x => !decide (x ∈ sm))) (dv_var S5) (dv_is (dv_lc (js := [7]) (fun d => [some (rowsD rs), some (.list (nD ord)), some (.list (tabD (rowsOf rs ord) ord.length)), some (.int (many : Nat)), some (.list (nD sm)), none, none, some d]) (fun d => !decide ((iOf d).toNat ∈ sm)) (fun d => d) (ei_list (dv_var S5)) S5 ?_ (fun d hm => tg_name) (by decide) (fun d hm s6 G6 e6 S6 => ?_) fun d hm _ s6 G6 e6 S6 => dv_var S6) ?_) ?_) ?_) (ds_cons (dv_var S5) ds_nil))) (by show 3 ≤ 100000; decide)) fun v G6 H6 n6 hv => k v _ G6 H6 (fun rs2 e => ?_) (((((n1.trans n2).trans n3).trans n4).trans n5).trans n6) hv
  · rw [nD_len]; omega
  · obtain ⟨x, hx, rfl⟩ := nD_mem hm
    refine tt_T (dv_is (dv_inL (ms := sm.map fun k : Nat => (k : Int)) true (dv_var S6) (dv_var S6)) ?_)
    show PyData.bool (!decide (((x : Nat) : Int) ∈ sm.map fun k : Nat => (k : Int))) = PyData.bool (!decide ((((x : Nat) : Int)).toNat ∈ sm))
    rw [Int.toNat_natCast]
    refine congrArg (fun b => PyData.bool (!b)) (decide_eq_decide.mpr ⟨fun h => ?_, fun h => List.mem_map.mpr ⟨x, h, rfl⟩⟩)
    obtain ⟨y, hy, e⟩ := List.mem_map.mp h
    exact (Int.ofNat.inj e) ▸ hy
  · rw [List.map_id']
    refine congrArg PyData.list ?_
    unfold nD
    rw [List.map_map, List.filter_map, List.map_map]
    refine congrArg _ (List.filter_congr fun x _ => ?_)
    show (!decide ((((x : Nat) : Int)).toNat ∈ sm)) = _
    rw [Int.toNat_natCast]
  · rw [nD_len, nD_len]; omega
  · rw [nD_app]
  · have e3 := rowsD_inj (List.cons.inj e).1
    subst e3
    refine ⟨ord, _, many, _, rfl, hperm, hpw, hbest, ?_, fun x hx => ?_⟩
    · rw [List.length_append, sub_len hsub hnd, hol]
    · rcases List.mem_append.mp hx with z | z
      · exact hk x (hsub.subset z)
      · exact hk x (List.mem_filter.mp z).1
/-- a plan: some tuple of ints -/
abbrev PPlan : List PyData → Prop := fun ds => ∃ (b : Bk) (ord : List Nat), ds = [b.d, .list (nD ord)] ∧ ord.length = b.ts.length ∧ b.ts ≠ [] ∧ b.ts.length ≤ 100 ∧ ∀ k ∈ ord, k < b.ts.length
theorem gds_ints {ns : List Int} (h : ns ≠ []) : gdsLike (ns.map .int) = false := by
  cases ns with
  | nil => exact absurd rfl h
  | cons n r => cases r <;> rfl
theorem ok_plan_in {f : Addr} {fd : FuncData} (F : Fun K "plan_in" "plan_in" s_plan_in f fd) (T : Txt mg) : FnOk P w K mg base CX0 1 f fd ["book", "order"] (SpN 2 PPlan fun _ _ => True) := by
  refine okN' F sc_plan_in rfl fun cdv A outer s G H vs ds Q E hr hR S i k => ?_
  obtain ⟨b, ord, rfl, hlen, hne, hl, hk⟩ := hR
  refine ⟨_, (pss_cons (ps_set (i := 2) sc_plan_in.nd rfl (Or.inl rfl) (pe_op op_rep (pe_lst (pa_cons pe_int pa_nil)) (pe_callB (r := rLenQ K) cr_len (by rfl) T.b_len bt_len (pa_cons (pv 1) pa_nil))))
      (pss_cons (ps_set (i := 3) sc_plan_in.nd rfl (Or.inl rfl) pe_int)
      (pss_cons (ps_for PassesOwn.never rfl (pi_list (pv 1)) (pg_name (i := 4) sc_plan_in.nd rfl (Or.inl rfl)) (pss_cons (ps_asg (pv 3) (pg_sub (pv 2) (pv 4) set_list))
      (pss_one (ps_aug (i := 3) sc_plan_in.nd rfl (Or.inl rfl) (pe_ix (r := rIxT K) ix_tup (pe_ix (r := rIxT K) ix_tup (pe_ix (r := rIxT K) ix_tup (pv 0) pe_int (fun _ _ => rfl)) (pv 4) (fun _ _ => rfl)) pe_int (fun _ _ => rfl)) ip_add))))
      (pss_one (ps_ret (pe_callTy (r := rTupQ K) cr_tuple (by rfl) T.b_tuple bt_tuple (pa_cons (pv 2) pa_nil))))))), ?_⟩
  refine mq_new (i := 2) (ds := (List.replicate ord.length [PyData.int 0]).flatten) (MSt.start S (Nx.refl i)) rfl rfl (fun G0 S0 => ef_rep (ef_lst (ds := [.int 0]) (ds_cons dv_int ds_nil) (by show 1 ≤ 100000; decide)) (dv_is (dv_len (dv_var S0) rfl) (by show PyData.int (((nD ord).length : Nat) : Int) = _; rw [nD_len])) (by show 1 * ord.length ≤ 100000; omega) (by omega)) fun s1 H1 hM => ?_
  refine mq_set (i := 3) (d := .int 0) hM rfl (fun G0 S0 => dv_int) fun s2 H2 hM => ?_
  refine mq_for (ds := nD ord) (js := [4]) (fun j q M => ∃ (ns : List Int) (hour : Int) (a : Option PyData), M = [(2, ns.map .int)] ∧ ns.length = ord.length ∧ q = [some b.d, some (.list (nD ord)), none, some (.int hour), a]) hM ⟨List.replicate ord.length 0, 0, none, ?_, List.length_replicate, rfl⟩ (fun G0 S0 => ei_list (dv_var S0)) (fun j d q M hj hq => ?_) fun q M s' H' hq hM => ?_
  · rw [List.map_replicate]
    have : ∀ n : Nat, (List.replicate n [PyData.int 0]).flatten = List.replicate n (PyData.int 0) := by
      intro n
      induction n with
      | zero => rfl
      | succ n ih => rw [List.replicate_succ, List.flatten_cons, ih]; rfl
    rw [this]
    rfl
  · obtain ⟨ns, hour, a, rfl, hns, rfl⟩ := hq
    obtain ⟨x, hx, rfl⟩ := nD_got hj
    have hxl := hk x (List.mem_of_getElem? hx)
    obtain ⟨t, ht⟩ : ∃ t, b.ts[x]? = some t := ⟨_, List.getElem?_eq_getElem hxl⟩
    refine ⟨rfl, _, tg_name, fun Gc Hc nc s3 H3 hM => ?_⟩
    refine mq_setitem (j := 0) (i := 2) (k0 := x) (i0 := (x : Nat)) hM rfl (fun G0 S0 => dv_var S0) rfl (fun G0 S0 => dv_var S0) ?_ fun H4 hM => ?_
    · rw [List.length_map, hns, hlen]
      unfold ixN
      rw [if_pos (by omega), if_pos (by omega), Int.toNat_natCast]
    refine m_aug (i := 3) (a := hour) hM rfl rfl (fun G0 S0 => dv_ixT (ds := [.str t.nm, .int t.len, .str t.mach, .tuple ((needsD t.needs).map pairD), .int t.first, dueD t.due, .int t.wt]) (dv_ixT (ds := b.ts.map Tk.d) (d := t.d) (dv_ixT (dv_var S0) dv_int (atI_nat (j := 2) rfl)) (dv_var S0) (atI_nat (j := x) (by rw [List.getElem?_map, ht]; rfl))) dv_int (atI_nat (j := 1) rfl)) fun s5 H5 hM => ?_
    refine ⟨_, _, ⟨ns.set x hour, _, some (.int (x : Nat)), ?_, by rw [List.length_set]; exact hns, rfl⟩, hM⟩
    rw [List.map_set]
    rfl
  · obtain ⟨ns, hour, a, rfl, hns, rfl⟩ := hq
    obtain ⟨G', S', n'⟩ := hM.freeze
    refine sd_ret n'.i (dv_tupleL (dv_var S') (gds_ints ?_)) fun v G4 H4 n4 hv => k v _ G4 H4 trivial (n'.trans n4) hv
    rintro rfl
    have : b.ts.length = 0 := by rw [← hlen, ← hns]; rfl
    exact hne (List.length_eq_zero_iff.mp this)
end
end K9

set_option Elab.async false
set_option linter.all false
set_option maxRecDepth 100000
set_option maxHeartbeats 4000000
/-! Single books: the three answers. -/
namespace K9
open PySem PySem.Spec PyProof.Rows L2 Evl
def Tk.rw (t : Tk) : Rw := ⟨t.len, t.first, t.due.getD 1000000, t.wt⟩
def Bk.rows (b : Bk) : List Rw := b.ts.map Tk.rw
def Bk.mach (b : Bk) : Str := ((b.ts[0]?).map Tk.mach).getD ""
def badT (b : Bk) (t : Tk) : Bool := decide (t.mach = "") || (!decide (t.mach = b.mach) || (t.needs || !decide (t.first = 0)))
def isSingle (b : Bk) : Bool := b.ts.all (fun t => !badT b t) && (b.wait.isNone && b.fixed.isNone)
theorem among_iff {lo hi i : Int} (h : isAmong lo hi (.int i) = true) : lo ≤ i ∧ i ≤ hi := by
  unfold isAmong at h
  simp at h
  exact h
theorem form_task {b : Bk} (h : hasForm b.d = true) (t : Tk) (ht : t ∈ b.ts) : isTask t.d = true := by
  unfold Bk.d hasForm at h
  simp only [Bool.and_eq_true] at h
  exact List.all_eq_true.mp h.2.1.2.1 _ (List.mem_map_of_mem ht)
theorem task_rng {t : Tk} (h : isTask t.d = true) : RwOk t.rw := by
  unfold Tk.d isTask at h
  simp only [Bool.and_eq_true, Bool.or_eq_true] at h
  obtain ⟨⟨_, h1, _⟩, ⟨_, h2⟩, h3, h4⟩ := h
  refine ⟨among_iff h1, among_iff h2, ?_, among_iff h4⟩
  unfold Tk.rw
  cases e : t.due with
  | none => exact ⟨(by decide : (0 : Int) ≤ 1000000), (by decide : (1000000 : Int) ≤ 1000000)⟩
  | some i =>
    rw [e] at h3
    rcases h3 with z | z
    · cases z
    · exact among_iff z
theorem rows_ok {b : Bk} (h : Good b) : RowsOk b.rows := by
  refine ⟨?_, ?_, fun r hr => ?_⟩
  · unfold Bk.rows
    rw [List.length_map]
    exact List.length_pos_iff.mpr h.ne
  · unfold Bk.rows
    rw [List.length_map]
    have := h.tl
    omega
  · obtain ⟨t, ht, rfl⟩ := List.mem_map.mp hr
    exact task_rng (form_task h.form t ht)
/-- tuples of which one thing is one of several -/
theorem dp_tup2 {s : L2.St} {G0 : Hp} {ta tb : TE} {d : PyData} {Pd : PyData → Prop} (ha : EvD ta s G0 d) (hb : EvP tb s G0 Pd) : EvP (tTupF (tCons ta (tCons tb tNil))) s G0 (fun x => ∃ p, x = .tuple [d, p]) := fun G H e i Q k =>
  ha G H e i _ fun v G2 H2 n2 h2 => hb G2 H2 (e.trans n2.g) n2.i _ fun u p G3 H3 hp n3 h3 => by
    have n4 := n2.trans n3
    refine ⟨sz_of (by show 2 ≤ 100000; decide), fun a o ho np => k _ (.tuple [d, p]) _ _ ⟨p, rfl⟩ (n4.trans (Nx.new n4.i np)) (.tup (.inr ⟨o, ho, upd_same⟩) (fun _ => ⟨o, ho, upd_same⟩) ?_)⟩
    exact DDs.up (.cons (h2.up n3.g) (.one h3)) (Ex.new (fresh_back n4.i np))
theorem dp_tup3 {s : L2.St} {G0 : Hp} {ta tb tc : TE} {d d2 : PyData} {Pd : PyData → Prop} (ha : EvD ta s G0 d) (hb : EvP tb s G0 Pd) (hc : EvD tc s G0 d2) : EvP (tTupF (tCons ta (tCons tb (tCons tc tNil)))) s G0 (fun x => ∃ p, x = .tuple [d, p, d2]) := fun G H e i Q k =>
  ha G H e i _ fun v G2 H2 n2 h2 => hb G2 H2 (e.trans n2.g) n2.i _ fun u p G3 H3 hp n3 h3 => hc G3 H3 ((e.trans n2.g).trans n3.g) n3.i _ fun x G4 H4 n4 h4 => by
    have n5 := (n2.trans n3).trans n4
    refine ⟨sz_of (by show 3 ≤ 100000; decide), fun a o ho np => k _ (.tuple [d, p, d2]) _ _ ⟨p, rfl⟩ (n5.trans (Nx.new n5.i np)) (.tup (.inr ⟨o, ho, upd_same⟩) (fun _ => ⟨o, ho, upd_same⟩) ?_)⟩
    exact DDs.up (.cons (h2.up (n3.g.trans n4.g)) (.cons (h3.up n4.g) (.one h4))) (Ex.new (fresh_back n5.i np))
/-! what no plan's sum is below -/
def mn (a b : Rw) : Int := if b.len * a.wt < a.len * b.wt then b.len * a.wt else a.len * b.wt
def pairS : List Rw → Int
  | [] => 0
  | r :: rest => (rest.map (mn r)).sum + pairS rest
def ownS (rs : List Rw) : Int := (rs.map fun r => r.len * r.wt).sum
def lbF (rs : List Rw) : Int := ownS rs + pairS rs
section
variable {P : Program} {w : World} {K : PySem.W.Frag} {mg : Str → Option Value} {base : Heap}
abbrev RRows : List PyData → PyData → Prop := fun ds d => ∃ b : Bk, ds = [b.d] ∧ b.ts.length ≤ 100 ∧ d = rowsD b.rows
theorem ok_rows_in {f : Addr} {fd : FuncData} (F : Fun K "rows_in" "rows_in" s_rows_in f fd) (T : Txt mg) : FnOk P w K mg base CX0 1 f fd ["book"] (SpR 1 RRows) := by
  refine okD F sc_rows_in rfl fun cdv A outer s G H vs ds r Q E hr hR S i k => ?_
  obtain ⟨b, rfl, hl, rfl⟩ := hR
  refine ⟨_, (pss_one (ps_ret (pe_lc (own := [("task", 1)]) (g := (gName 1)) rfl sc_rows_in.nd (pi_tup (pe_ix (r := rIxT K) ix_tup (pv 0) pe_int (fun _ _ => rfl))) (blkOk_by (N := ["book", "task"]) (sc := defScope s_rows_in) (by decide +kernel)) (fun _ _ _ _ _ => (pg_name (i := 1) sc_rows_in.nd rfl (Or.inl rfl))) (fun _ _ _ _ _ => pts_nil) (fun _ _ _ _ _ => (pe_tupF (pa_cons (pe_ix (r := rIxT K) ix_tup (pv 1) pe_int (fun _ _ => rfl)) (pa_cons (pe_ix (r := rIxT K) ix_tup (pv 1) pe_int (fun _ _ => rfl)) (pa_cons (pe_ifExp (pt_cmpR op_isN (pe_ix (r := rIxT K) ix_tup (pv 1) pe_int (fun _ _ => rfl)) pe_non (nomark _)) (pe_gc (by rfl) T.c_FAR) (pe_ix (r := rIxT K) ix_tup (pv 1) pe_int (fun _ _ => rfl))) (pa_cons (pe_ix (r := rIxT K) ix_tup (pv 1) pe_int (fun _ _ => rfl)) pa_nil))))))))), ?_⟩
  refine sd_ret i (dv_is (dv_lc1 (js := [1]) (fun d => [some b.d, some d]) (fun d => match d with
    | .tuple [_, .int l, _, _, .int f, d, .int w] => .tuple [.int l, .int f, (match d with | .none => .int 1000000 | d => d), .int w]
    | d => d) (ei_tup (dv_ixT (dv_var S) dv_int (atI_nat (j := 2) rfl))) S ?_ (fun d hm => tg_name) (by decide) fun d hm s2 G2 e2 S2 => ?_) ?_) fun v G' H' n hv => k v G' H' n hv
  · rw [List.length_map]; omega
  · obtain ⟨t, ht, rfl⟩ := List.mem_map.mp hm
    have ix : ∀ {d : PyData} (j : Nat), [PyData.str t.nm, .int t.len, .str t.mach, .tuple ((needsD t.needs).map pairD), .int t.first, dueD t.due, .int t.wt][j]? = some d → EvD (tOp (rIxT K) (tVar 1) (tC (.int (j : Nat)))) s2 G2 d := fun j h => dv_ixT (dv_var S2) dv_int (atI_nat h)
    refine dv_is (dv_tup (ds := [.int t.len, .int t.first, .int (t.due.getD 1000000), .int t.wt]) (ds_cons (ix 1 rfl) (ds_cons (ix 4 rfl) (ds_cons (dv_if (b := t.due.isNone) (tt_T (dv_is (dv_isN (ix 5 rfl)) (congrArg PyData.bool (isNone_due _)))) (fun hb => dv_is dv_int ?_) fun hb => dv_is (ix 5 rfl) ?_) (ds_cons (ix 6 rfl) ds_nil)))) (by show 4 ≤ 100000; decide)) ?_
    · rw [Option.isNone_iff_eq_none.mp hb]
      rfl
    · cases e : t.due with
      | none => rw [e] at hb; cases hb
      | some i => rfl
    · unfold Tk.d
      cases e : t.due <;> rfl
  · rw [List.map_map]
    unfold rowsD Bk.rows
    rw [List.map_map]
    refine congrArg PyData.list (List.map_congr_left fun t _ => ?_)
    show (match t.d with
      | .tuple [_, .int l, _, _, .int f, d, .int w] => PyData.tuple [.int l, .int f, (match d with | .none => .int 1000000 | d => d), .int w]
      | d => d) = rowD t.rw
    unfold Tk.d rowD rowL Tk.rw
    cases e : t.due <;> rfl
/-- no single book is refused -/
def RS (ok : Bk → PyData → Prop) : List PyData → Except Str (PyData → Prop) → Prop := fun ds r => ∃ d, ds = [d] ∧ Fine d ∧ ((hasForm d = false ∧ r = .error "form") ∨ ∃ b : Bk, d = b.d ∧ Good b ∧ ((isSingle b = true ∧ r = .ok (ok b)) ∨ (isSingle b = false ∧ r = .error "single")))
abbrev RNS := RS fun _ x => x = .none
theorem RS.split {ok : Bk → PyData → Prop} {ds : List PyData} {C : Addr} {G H : Hp} {Q : VK} {E : XK} (hq : (∃ Pd, RS ok ds (.ok Pd) ∧ ∀ v d G' H', Pd d → Nx G H G' H' → DD G' v d → Q v H') ∨ ∃ x, RS ok ds (.error x) ∧ XD C x G H E) :
    (∃ d, ds = [d] ∧ Fine d ∧ hasForm d = false ∧ XD C "form" G H E) ∨ ∃ b : Bk, ds = [b.d] ∧ Good b ∧ (isSingle b = true → ∀ v d G' H', ok b d → Nx G H G' H' → DD G' v d → Q v H') ∧ (isSingle b = false → XD C "single" G H E) := by
  rcases hq with ⟨Pd, ⟨d, rfl, hd, h⟩, k⟩ | ⟨x, ⟨d, rfl, hd, h⟩, k⟩
  · rcases h with ⟨_, h⟩ | ⟨b, rfl, hb, h⟩
    · cases h
    · rcases h with ⟨hs, h⟩ | ⟨_, h⟩
      · have h := Except.ok.inj h
        subst h
        exact .inr ⟨b, rfl, hb, fun _ => k, fun z => by rw [hs] at z; cases z⟩
      · cases h
  · rcases h with ⟨hf, h⟩ | ⟨b, rfl, hb, h⟩
    · have h := Except.error.inj h
      subst h
      exact .inl ⟨d, rfl, hd, hf, k⟩
    · rcases h with ⟨_, h⟩ | ⟨hs, h⟩
      · cases h
      · have h := Except.error.inj h
        subst h
        exact .inr ⟨b, rfl, hb, (fun z => by rw [hs] at z; cases z), fun _ => k⟩
theorem ok_need_single {f C fI pe : Addr} {fd fdI : FuncData} (F : Fun K "need_single" "need_single" s_need_single f fd) (T : Txt mg) (B : BadC K mg C fI fdI) (L : PlE K mg pe) (C_need_book : CalX P w K mg base 6 "need_book" (SpX 1 C RNeed)) : FnOk P w K mg base (L2.CX P w) 7 f fd ["book"] (SpX 1 C RNS) := by
  refine okX F sc_need_single rfl fun cdv A outer s G H vs ds Q E hr hl S i hq tk => ?_
  refine ⟨_, (pss_cons (ps_expr (pe_cx C_need_book (passes_call tk fun _ _ _ _ h => h) hr (by decide) (by rfl) (pa_cons (pv 0) pa_nil)))
      (pss_cons (ps_asg (pv 0) (pg_tup rfl (pgs_cons (pg_name (i := 1) sc_need_single.nd rfl (Or.inl rfl)) (pgs_cons (pg_name (i := 2) sc_need_single.nd rfl (Or.inl rfl)) (pgs_cons (pg_name (i := 3) sc_need_single.nd rfl (Or.inl rfl)) (pgs_cons (pg_name (i := 4) sc_need_single.nd rfl (Or.inl rfl)) (pgs_cons (pg_name (i := 5) sc_need_single.nd rfl (Or.inl rfl)) pgs_nil)))))))
      (pss_cons (ps_for (passes_of rfl) rfl (pi_tup (pv 3)) (pg_tup rfl (pgs_cons (pg_name (i := 6) sc_need_single.nd rfl (Or.inl rfl)) (pgs_cons (pg_name (i := 7) sc_need_single.nd rfl (Or.inl rfl)) (pgs_cons (pg_name (i := 8) sc_need_single.nd rfl (Or.inl rfl)) (pgs_cons (pg_name (i := 9) sc_need_single.nd rfl (Or.inl rfl)) (pgs_cons (pg_name (i := 10) sc_need_single.nd rfl (Or.inl rfl)) (pgs_cons (pg_name (i := 11) sc_need_single.nd rfl (Or.inl rfl)) (pgs_cons (pg_name (i := 12) sc_need_single.nd rfl (Or.inl rfl)) pgs_nil)))))))) (pss_one (ps_if (PW.pt (pw_or (pt_cmpR (r := rEqD K) (op_eqD hr.units) (pv 8) pe_str (nomark _)) (pw_or (pt_cmpR (r := rNeD K) (op_neD hr.units) (pv 8) (pe_ix (r := rIxT K) ix_tup (pe_ix (r := rIxT K) ix_tup (pv 3) pe_int (fun _ _ => rfl)) pe_int (fun _ _ => rfl)) (nomark _)) (pw_or (pt_cmpR (r := rNeD K) (op_neD hr.units) (pv 9) (pe_tupF pa_nil) (nomark _)) (pw_or1 (pt_cmpR (r := rNeD K) (op_neD hr.units) (pv 10) pe_int (nomark _))))))) (pss_one (ps_bad B L hr (by decide) rfl tk (by rfl) pe_str)) pss_nil)))
      (pss_one (ps_if (PW.pt (pw_or (pt_cmpR (r := rNeD K) (op_neD hr.units) (pv 4) (pe_tupF pa_nil) (nomark _)) (pw_or1 (pt_cmpR (r := rNeD K) (op_neD hr.units) (pv 5) (pe_tupF pa_nil) (nomark _))))) (pss_one (ps_bad B L hr (by decide) rfl tk (by rfl) pe_str)) pss_nil))))), ?_⟩
  rcases RS.split hq with ⟨d, rfl, hd, hf, k⟩ | ⟨b, rfl, hb, h1, h2⟩
  · exact sq_raises i (ds_cons (dv_var S) ds_nil) ⟨d, rfl, hd, .inl ⟨hf, rfl⟩⟩ k
  · have tl := hb.tl
    refine sq_drop (Pd := fun x => x = .none) i (dp_call (ds_cons (dv_var S) ds_nil) ⟨b.d, rfl, hb.fine, .inr ⟨b, rfl, hb, rfl⟩⟩) fun G1 H1 n1 => ?_
    refine sq_asg (S.up n1.g) n1.i (dv_var (S.up n1.g)) (tg_tup (tgs_cons tg_name (tgs_cons tg_name (tgs_cons tg_name (tgs_cons tg_name (tgs_cons tg_name tgs_nil)))))) fun s2 G2 H2 S2 n2 => ?_
    refine mq_for (ds := b.ts.map Tk.d) (js := [6, 7, 8, 9, 10, 11, 12]) (fun j q M => M = [] ∧ (∀ m t, m < j → b.ts[m]? = some t → badT b t = false) ∧ ∃ x1 x2 x3 x4 x5 x6 x7, q = bq b ++ [x1, x2, x3, x4, x5, x6, x7]) (MSt.start S2 (n1.trans n2)) ⟨rfl, fun m t h => absurd h (Nat.not_lt_zero _), none, none, none, none, none, none, none, rfl⟩ (fun G0 S0 => ei_tup (dv_var S0)) (fun j d q M hj hq => ?_) fun q M s' H' hq hM => ?_
    · obtain ⟨rfl, hno, x1, x2, x3, x4, x5, x6, x7, rfl⟩ := hq
      rw [List.getElem?_map] at hj
      obtain ⟨t, ht, rfl⟩ := Option.map_eq_some_iff.mp hj
      have htm := List.mem_of_getElem? ht
      have ft := fine_mach hb t htm
      obtain ⟨t0, ht0⟩ : ∃ t0, b.ts[0]? = some t0 := by
        cases e : b.ts with
        | nil => exact absurd e hb.ne
        | cons a r => exact ⟨a, rfl⟩
      have ft0 := fine_mach hb t0 (List.mem_of_getElem? ht0)
      have em : b.mach = t0.mach := by unfold Bk.mach; rw [ht0]; rfl
      refine ⟨rfl, _, tg_tup (tgs_cons tg_name (tgs_cons tg_name (tgs_cons tg_name (tgs_cons tg_name (tgs_cons tg_name (tgs_cons tg_name (tgs_cons tg_name tgs_nil))))))), fun Gc Hc nc s3 H3 hM => ?_⟩
      obtain ⟨G3, S3, n3⟩ := hM.freeze
      refine sd_if (b := badT b t) n3.i (et_is (et_or (tt_T (dv_eqD (d1 := .str t.mach) (dv_var S3) dv_str ft.shaped (by decide +kernel))) fun _ => et_or (tt_T (dv_neD (d1 := .str t.mach) (d2 := .str t0.mach) (dv_var S3) (dv_ixT (ds := [.str t0.nm, .int t0.len, .str t0.mach, .tuple ((needsD t0.needs).map pairD), .int t0.first, dueD t0.due, .int t0.wt]) (dv_ixT (ds := b.ts.map Tk.d) (d := t0.d) (dv_var S3) dv_int (atI_nat (j := 0) (by rw [List.getElem?_map, ht0]; rfl))) dv_int (atI_nat (j := 2) rfl)) ft.shaped ft0.shaped)) fun _ => et_or (tt_T (dv_neD (d1 := .tuple ((needsD t.needs).map pairD)) (dv_var S3) (dv_tup ds_nil) ?_ (by decide +kernel))) fun _ => tt_T (dv_neD (d1 := .int t.first) (dv_var S3) dv_int (shaped_int _) (shaped_int _))) ?_) (fun hb1 H4 n4 => ?_) fun hb1 H4 n4 => ?_
      · unfold needsD; cases t.needs <;> decide +kernel
      · unfold badT
        rw [eqv_str, eqv_str, eqv_int, em, Bool.beq_eq_decide_eq, Bool.beq_eq_decide_eq, Bool.beq_eq_decide_eq]
        have : (!PyData.eqv (.tuple ((needsD t.needs).map pairD)) (.tuple [])) = t.needs := by
          unfold needsD; cases t.needs <;> decide +kernel
        rw [this]
      · refine sd_raise n4.i B.oe B.no dv_str ((h2 ?_).on (nc.trans (n3.trans n4)))
        unfold isSingle
        rw [Bool.and_eq_false_iff]
        refine .inl (Bool.eq_false_iff.mpr fun z => ?_)
        have := List.all_eq_true.mp z t htm
        rw [hb1] at this
        cases this
      · refine ⟨_, [], ⟨rfl, fun m t' hm ht' => ?_, _, _, _, _, _, _, _, rfl⟩, MSt.start S3 (n3.trans n4)⟩
        rcases Nat.lt_or_ge m j with c | c
        · exact hno m t' c ht'
        · have : m = j := by omega
          subst this
          rw [ht] at ht'
          cases ht'
          exact hb1
    · obtain ⟨rfl, hno, x1, x2, x3, x4, x5, x6, x7, rfl⟩ := hq
      obtain ⟨G3, S3, n3⟩ := hM.freeze
      have hall : b.ts.all (fun t => !badT b t) = true := List.all_eq_true.mpr fun t ht => by
        obtain ⟨m, hm⟩ := List.mem_iff_getElem?.mp ht
        rw [hno m t (by rw [List.length_map]; exact (List.getElem?_eq_some_iff.mp hm).1) hm]
        rfl
      refine sd_if (b := !(b.wait.isNone && b.fixed.isNone)) n3.i (et_is (et_or (tt_T (dv_neD (d1 := .tuple (b.waits.map waitD)) (dv_var S3) (dv_tup ds_nil) ?_ (by decide +kernel))) fun _ => tt_T (dv_neD (d1 := .tuple (b.fixs.map fixD)) (dv_var S3) (dv_tup ds_nil) ?_ (by decide +kernel))) ?_) (fun hb1 H4 n4 => ?_) fun hb1 H4 n4 => ?_
      · exact (hb.fine.tup.2 (.tuple (b.waits.map waitD)) (by simp)).shaped
      · exact (hb.fine.tup.2 (.tuple (b.fixs.map fixD)) (by simp)).shaped
      · unfold Bk.waits Bk.fixs
        cases b.wait <;> cases b.fixed <;> simp [PyData.eqv, PyData.eqvAll]
      · refine sd_raise n4.i B.oe B.no dv_str ((h2 ?_).on (n3.trans n4))
        unfold isSingle
        rw [hall, Bool.true_and]
        cases e : (b.wait.isNone && b.fixed.isNone) with
        | false => rfl
        | true => rw [e] at hb1; cases hb1
      · refine h1 ?_ .non .none G3 H4 rfl (n3.trans n4) .non
        unfold isSingle
        rw [hall]
        simpa using hb1
/-- the least sum, and some plan -/
abbrev okSum : Bk → PyData → Prop := fun b x => ∃ (ord : List Nat) (p : PyData), x = .tuple [.int (costF (rowsOf b.rows ord)).2, p] ∧ ord.Perm (List.range b.rows.length) ∧ ord.Pairwise (ratio b.rows)
theorem ok_sum_plan {f C : Addr} {fd : FuncData} (F : Fun K "sum_plan" "sum_plan" s_sum_plan f fd) (T : Txt mg) (C_need_single : CalX P w K mg base 7 "need_single" (SpX 1 C RNS)) (C_least_sum : Cal P w K mg base 5 "least_sum" (SpN 1 PSum RSum)) (C_rows_in : Cal P w K mg base 1 "rows_in" (SpR 1 RRows)) (C_plan_in : Cal P w K mg base 1 "plan_in" (SpN 2 PPlan fun _ _ => True)) : FnOk P w K mg base (L2.CX P w) 8 f fd ["book"] (SpX 1 C (RS okSum)) := by
  refine okX F sc_sum_plan rfl fun cdv A outer s G H vs ds Q E hr hl S i hq tk => ?_
  refine ⟨_, (pss_cons (ps_expr (pe_cx C_need_single (passes_call tk fun _ _ _ _ h => h) hr (by decide) (by rfl) (pa_cons (pv 0) pa_nil)))
      (pss_cons (ps_asg (pe_c C_least_sum hr (by decide) (by rfl) (pa_cons (pe_c C_rows_in hr (by decide) (by rfl) (pa_cons (pv 0) pa_nil)) pa_nil)) (pg_tup rfl (pgs_cons (pg_name (i := 1) sc_sum_plan.nd rfl (Or.inl rfl)) (pgs_cons (pg_name (i := 2) sc_sum_plan.nd rfl (Or.inl rfl)) pgs_nil))))
      (pss_one (ps_ret (pe_tupF (pa_cons (pv 1) (pa_cons (pe_c C_plan_in hr (by decide) (by rfl) (pa_cons (pv 0) (pa_cons (pv 2) pa_nil))) pa_nil))))))), ?_⟩
  rcases RS.split hq with ⟨d, rfl, hd, hf, k⟩ | ⟨b, rfl, hb, h1, h2⟩
  · exact sq_raises i (ds_cons (dv_var S) ds_nil) ⟨d, rfl, hd, .inl ⟨hf, rfl⟩⟩ k
  cases hs : isSingle b with
  | false => exact sq_raises i (ds_cons (dv_var S) ds_nil) ⟨b.d, rfl, hb.fine, .inr ⟨b, rfl, hb, .inr ⟨hs, rfl⟩⟩⟩ (h2 hs)
  | true =>
    have tl := hb.tl
    have hrl : b.rows.length = b.ts.length := List.length_map _
    refine sq_drop (Pd := fun x => x = .none) i (dp_call (ds_cons (dv_var S) ds_nil) ⟨b.d, rfl, hb.fine, .inr ⟨b, rfl, hb, .inl ⟨hs, rfl⟩⟩⟩) fun G1 H1 n1 => ?_
    have S1 := S.up n1.g
    refine sq_asgP (Pd := RSum [rowsD b.rows]) (js := [1, 2]) (fun d => [some b.d, (kids d)[0]?, (kids d)[1]?]) S1 n1.i (dp_callN (ds_cons (dv_call (ds_cons (dv_var S1) ds_nil) ⟨b, rfl, by omega, rfl⟩) ds_nil) ⟨b.rows, rfl, rows_ok hb⟩) (fun d hd => ?_) fun d s2 G2 H2 hd S2 n2 => ?_
    · obtain ⟨ord, rfl, _, _⟩ := hd b.rows rfl
      exact tg_tup (tgs_cons tg_name (tgs_cons tg_name tgs_nil))
    · obtain ⟨ord, rfl, hp, hw⟩ := hd b.rows rfl
      have n12 := n1.trans n2
      show tRet (tTupF (tCons (tVar 1) (tCons (tCall (SpN 2 PPlan fun _ _ => True) [] E0 (tCons (tVar 0) (tCons (tVar 2) tNil))) tNil))) _ s2 H2
      refine sd_retP (Pd := fun x => ∃ p, x = .tuple [.int (costF (rowsOf b.rows ord)).2, p]) n2.i (dp_tup2 (dv_var S2) (dp_callN (ds_cons (dv_var S2) (ds_cons (dv_var S2) ds_nil)) ⟨b, ord, rfl, by rw [hp.length_eq, List.length_range, hrl], hb.ne, by omega, fun k hk => by rw [← hrl]; exact List.mem_range.mp (hp.mem_iff.mp hk)⟩)) fun v d G3 H3 hd n3 hv => ?_
      obtain ⟨p, rfl⟩ := hd
      exact h1 hs v _ G3 H3 ⟨ord, p, rfl, hp, hw⟩ (n12.trans n3) hv
/-- the fewest late ones, some plan, some table -/
abbrev okFew : Bk → PyData → Prop := fun b x => ∃ (ord : List Nat) (many : Nat) (p q : PyData), x = .tuple [.int (((b.rows.length : Nat) : Int) - (many : Nat)), p, q] ∧ ord.Perm (List.range b.rows.length) ∧ (ord.Pairwise fun a c => dueAt b.rows a ≤ dueAt b.rows c) ∧ Best (rowsOf b.rows ord) many
theorem ok_count_plan {f C : Addr} {fd : FuncData} (F : Fun K "count_plan" "count_plan" s_count_plan f fd) (T : Txt mg) (C_need_single : CalX P w K mg base 7 "need_single" (SpX 1 C RNS)) (C_fewest_late : Cal P w K mg base 5 "fewest_late" (SpN 1 PSum RFew)) (C_rows_in : Cal P w K mg base 1 "rows_in" (SpR 1 RRows)) (C_plan_in : Cal P w K mg base 1 "plan_in" (SpN 2 PPlan fun _ _ => True)) : FnOk P w K mg base (L2.CX P w) 8 f fd ["book"] (SpX 1 C (RS okFew)) := by
  refine okX F sc_count_plan rfl fun cdv A outer s G H vs ds Q E hr hl S i hq tk => ?_
  refine ⟨_, (pss_cons (ps_expr (pe_cx C_need_single (passes_call tk fun _ _ _ _ h => h) hr (by decide) (by rfl) (pa_cons (pv 0) pa_nil)))
      (pss_cons (ps_asg (pe_c C_fewest_late hr (by decide) (by rfl) (pa_cons (pe_c C_rows_in hr (by decide) (by rfl) (pa_cons (pv 0) pa_nil)) pa_nil)) (pg_tup rfl (pgs_cons (pg_name (i := 1) sc_count_plan.nd rfl (Or.inl rfl)) (pgs_cons (pg_name (i := 2) sc_count_plan.nd rfl (Or.inl rfl)) (pgs_cons (pg_name (i := 3) sc_count_plan.nd rfl (Or.inl rfl)) pgs_nil)))))
      (pss_one (ps_ret (pe_tupF (pa_cons (pv 1) (pa_cons (pe_c C_plan_in hr (by decide) (by rfl) (pa_cons (pv 0) (pa_cons (pv 2) pa_nil))) (pa_cons (pv 3) pa_nil)))))))), ?_⟩
  rcases RS.split hq with ⟨d, rfl, hd, hf, k⟩ | ⟨b, rfl, hb, h1, h2⟩
  · exact sq_raises i (ds_cons (dv_var S) ds_nil) ⟨d, rfl, hd, .inl ⟨hf, rfl⟩⟩ k
  cases hs : isSingle b with
  | false => exact sq_raises i (ds_cons (dv_var S) ds_nil) ⟨b.d, rfl, hb.fine, .inr ⟨b, rfl, hb, .inr ⟨hs, rfl⟩⟩⟩ (h2 hs)
  | true =>
    have tl := hb.tl
    have hrl : b.rows.length = b.ts.length := List.length_map _
    refine sq_drop (Pd := fun x => x = .none) i (dp_call (ds_cons (dv_var S) ds_nil) ⟨b.d, rfl, hb.fine, .inr ⟨b, rfl, hb, .inl ⟨hs, rfl⟩⟩⟩) fun G1 H1 n1 => ?_
    have S1 := S.up n1.g
    refine sq_asgP (Pd := RFew [rowsD b.rows]) (js := [1, 2, 3]) (fun d => [some b.d, (kids d)[0]?, (kids d)[1]?, (kids d)[2]?]) S1 n1.i (dp_callN (ds_cons (dv_call (ds_cons (dv_var S1) ds_nil) ⟨b, rfl, by omega, rfl⟩) ds_nil) ⟨b.rows, rfl, rows_ok hb⟩) (fun d hd => ?_) fun d s2 G2 H2 hd S2 n2 => ?_
    · obtain ⟨ord, ord2, many, x, rfl, _⟩ := hd b.rows rfl
      exact tg_tup (tgs_cons tg_name (tgs_cons tg_name (tgs_cons tg_name tgs_nil)))
    · obtain ⟨ord, ord2, many, x, rfl, hp, hw, hbest, ho2, hk2⟩ := hd b.rows rfl
      have n12 := n1.trans n2
      refine sd_retP (Pd := fun y => ∃ p, y = .tuple [.int (((b.rows.length : Nat) : Int) - (many : Nat)), p, x]) n2.i (dp_tup3 (dv_var S2) (dp_callN (ds_cons (dv_var S2) (ds_cons (dv_var S2) ds_nil)) ⟨b, ord2, rfl, by rw [ho2, hrl], hb.ne, by omega, fun k hk => by rw [← hrl]; exact hk2 k hk⟩) (dv_var S2)) fun v d G3 H3 hd n3 hv => ?_
      obtain ⟨p, rfl⟩ := hd
      exact h1 hs v _ G3 H3 ⟨ord, many, p, x, rfl, hp, hw, hbest⟩ (n12.trans n3) hv
theorem ei_is {wi : TI} {s : L2.St} {G0 : Hp} {ds ds2 : List PyData} (h : EvI wi s G0 ds) (e : ds = ds2) : EvI wi s G0 ds2 := e ▸ h
theorem cut_from (xs : List PyData) (k : Nat) : cutD xs (some (k : Int)) none = xs.drop k := by
  unfold cutD
  rw [HT.sIx_nat]
  show ((xs.drop (min k xs.length)).take (xs.length - min k xs.length)) = _
  rcases Nat.le_total k xs.length with c | c
  · rw [Nat.min_eq_left c, ← List.length_drop, List.take_length]
  · rw [Nat.min_eq_right c, List.drop_length, List.drop_eq_nil_of_le c, List.take_nil]
theorem dv_sum {s : L2.St} {G0 : Hp} {ta : TE} {ns : List Int} (h : EvD ta s G0 (.list (ns.map .int))) : EvD (tCB (rSum K) (tCons ta tNil)) s G0 (.int ns.sum) :=
  dv_cb (ds_cons h ds_nil) fun G H vs _ w hv Q k => by
    obtain ⟨v, rfl, hw⟩ := hv.inv1
    obtain ⟨a, xs, rfl, ea, hxs⟩ := hw.atLst
    cases hxs.ints
    exact ⟨a, ns, rfl, SqL.of (w _ _ ea), k _ G H (Nx.refl w) (.int _)⟩
theorem dv_min2 {s : L2.St} {G0 : Hp} {ta tb : TE} {i j : Int} (h1 : EvD ta s G0 (.int i)) (h2 : EvD tb s G0 (.int j)) : EvD (tCB (fun xs H Q => ∃ i j, xs = [.int i, .int j] ∧ Q (.int (if j < i then j else i)) H) (tCons ta (tCons tb tNil))) s G0 (.int (if j < i then j else i)) :=
  dv_cb (ds_cons h1 (ds_cons h2 ds_nil)) fun G H vs _ w hv Q k => by
    obtain ⟨v, u, rfl, hw, hu⟩ := hv.inv2
    cases hw.eqInt
    cases hu.eqInt
    exact ⟨i, j, rfl, k _ G H (Nx.refl w) (.int _)⟩
theorem mul_ok {i j : Int} (h : 0 ≤ i ∧ i ≤ 1000) : CMul i j := .inl ⟨by omega, by omega⟩
theorem pairS_drop {rs : List Rw} {j : Nat} {r : Rw} (h : rs[j]? = some r) : pairS (rs.drop j) = ((rs.drop (j + 1)).map (mn r)).sum + pairS (rs.drop (j + 1)) := by
  obtain ⟨hl, e⟩ := List.getElem?_eq_some_iff.mp h
  rw [List.drop_eq_getElem_cons hl, e]
  rfl
abbrev okShown : Bk → PyData → Prop := fun b x => x = .int (lbF b.rows)
theorem ok_sum_shown {f C : Addr} {fd : FuncData} (F : Fun K "sum_shown" "sum_shown" s_sum_shown f fd) (T : Txt mg) (C_need_single : CalX P w K mg base 7 "need_single" (SpX 1 C RNS)) (C_rows_in : Cal P w K mg base 1 "rows_in" (SpR 1 RRows)) : FnOk P w K mg base (L2.CX P w) 8 f fd ["book"] (SpX 1 C (RS okShown)) := by
  refine okX F sc_sum_shown rfl fun cdv A outer s G H vs ds Q E hr hl S i hq tk => ?_
  refine ⟨_, (pss_cons (ps_expr (pe_cx C_need_single (passes_call tk fun _ _ _ _ h => h) hr (by decide) (by rfl) (pa_cons (pv 0) pa_nil)))
      (pss_cons (ps_set (i := 1) sc_sum_shown.nd rfl (Or.inl rfl) (pe_c C_rows_in hr (by decide) (by rfl) (pa_cons (pv 0) pa_nil)))
      (pss_cons (ps_set (i := 2) sc_sum_shown.nd rfl (Or.inl rfl) (pe_callB (r := rSum K) (cr_sum rfl) (by rfl) T.b_sum bt_sum (pa_cons (pe_lc (own := [("length", 6), ("begin", 7), ("by", 8), ("weight", 9)]) (g := (gTup K 4 (gCons (gName 6) (gCons (gName 7) (gCons (gName 8) (gCons (gName 9) gNil)))))) rfl sc_sum_shown.nd (pi_list (pv 1)) (blkOk_by (N := ["book", "rows", "total", "place", "one", "other", "length", "begin", "by", "weight"]) (sc := defScope s_sum_shown) (by decide +kernel)) (fun _ _ _ _ _ => (pg_tup rfl (pgs_cons (pg_name (i := 6) sc_sum_shown.nd rfl (Or.inl rfl)) (pgs_cons (pg_name (i := 7) sc_sum_shown.nd rfl (Or.inl rfl)) (pgs_cons (pg_name (i := 8) sc_sum_shown.nd rfl (Or.inl rfl)) (pgs_cons (pg_name (i := 9) sc_sum_shown.nd rfl (Or.inl rfl)) pgs_nil)))))) (fun _ _ _ _ _ => pts_nil) (fun _ _ _ _ _ => (pe_op op_mul (pv 6) (pv 9)))) pa_nil)))
      (pss_cons (ps_for (passes_of rfl) rfl (pi_enum (by rfl) T.b_enumerate (pa_cons (pv 1) pa_nil)) (pg_tup rfl (pgs_cons (pg_name (i := 3) sc_sum_shown.nd rfl (Or.inl rfl)) (pgs_cons (pg_name (i := 4) sc_sum_shown.nd rfl (Or.inl rfl)) pgs_nil))) (pss_one (ps_for (passes_of rfl) rfl (pi_list (pe_slice (r := rSlL K) sl_list (pv 1) (po_some (pe_op op_add (pv 3) pe_int)) po_none)) (pg_name (i := 5) sc_sum_shown.nd rfl (Or.inl rfl)) (pss_one (ps_aug (i := 2) sc_sum_shown.nd rfl (Or.inl rfl) (pe_callB (call_min2 rfl) (by rfl) T.b_min bt_min (pa_cons (pe_op op_mul (pe_ix (r := rIxT K) ix_tup (pv 4) pe_int (fun _ _ => rfl)) (pe_ix (r := rIxT K) ix_tup (pv 5) pe_int (fun _ _ => rfl))) (pa_cons (pe_op op_mul (pe_ix (r := rIxT K) ix_tup (pv 5) pe_int (fun _ _ => rfl)) (pe_ix (r := rIxT K) ix_tup (pv 4) pe_int (fun _ _ => rfl))) pa_nil))) ip_add)))))
      (pss_one (ps_ret (pv 2))))))), ?_⟩
  rcases RS.split hq with ⟨d, rfl, hd, hf, k⟩ | ⟨b, rfl, hb, h1, h2⟩
  · exact sq_raises i (ds_cons (dv_var S) ds_nil) ⟨d, rfl, hd, .inl ⟨hf, rfl⟩⟩ k
  cases hs : isSingle b with
  | false => exact sq_raises i (ds_cons (dv_var S) ds_nil) ⟨b.d, rfl, hb.fine, .inr ⟨b, rfl, hb, .inr ⟨hs, rfl⟩⟩⟩ (h2 hs)
  | true =>
    have tl := hb.tl
    have hro := rows_ok hb
    have hrl : b.rows.length = b.ts.length := List.length_map _
    refine sq_drop (Pd := fun x => x = .none) i (dp_call (ds_cons (dv_var S) ds_nil) ⟨b.d, rfl, hb.fine, .inr ⟨b, rfl, hb, .inl ⟨hs, rfl⟩⟩⟩) fun G1 H1 n1 => ?_
    have S1 := S.up n1.g
    refine sq_set (d := rowsD b.rows) S1 n1.i (dv_call (ds_cons (dv_var S1) ds_nil) ⟨b, rfl, by omega, rfl⟩) fun s2 G2 H2 S2 n2 => ?_
    refine sq_set (d := .int (ownS b.rows)) S2 n2.i (dv_sum (ns := b.rows.map fun r => r.len * r.wt) (dv_is (dv_lc1 (js := [6, 7, 8, 9]) (fun d => [some b.d, some (rowsD b.rows), none, none, none, none, (kids d)[0]?, (kids d)[1]?, (kids d)[2]?, (kids d)[3]?]) (fun d => match d with
      | .tuple [.int l, _, _, .int w] => .int (l * w)
      | d => d) (ei_list (dv_var S2)) S2 ?_ (fun d hm => ?_) (by decide) fun d hm s3 G3 e3 S3 => ?_) ?_)) fun s3 G3 H3 S3 n3 => ?_
    · rw [List.length_map]; omega
    · obtain ⟨r, _, rfl⟩ := List.mem_map.mp hm
      exact tg_tup (ds := rowL r) (tgs_cons tg_name (tgs_cons tg_name (tgs_cons tg_name (tgs_cons tg_name tgs_nil))))
    · obtain ⟨r, hr, rfl⟩ := List.mem_map.mp hm
      have hr2 := hro.all r hr
      exact dv_opC (dv_var S3) (dv_var S3) (mul_ok ⟨by have := hr2.len; omega, hr2.len.2⟩)
    · rw [List.map_map, List.map_map]
      rfl
    have n13 := (n1.trans n2).trans n3
    refine mq_for (ds := enumD 0 (b.rows.map rowD)) (js := [3, 4]) (fun j q M => M = [] ∧ ∃ a1 a2 a3 a4 a5 a6 a7, q = [some b.d, some (rowsD b.rows), some (.int (lbF b.rows - pairS (b.rows.drop j))), a1, a2, a3, a4, a5, a6, a7]) (MSt.start S3 n13) ⟨rfl, none, none, none, none, none, none, none, ?_⟩ (fun G0 S0 => ei_enum (ds_cons (dv_var S0) ds_nil)) (fun j d q M hj hq => ?_) fun q M s' H' hq hM => ?_
    · unfold lbF
      rw [List.drop_zero, Int.add_sub_cancel]
      rfl
    · obtain ⟨rfl, a1, a2, a3, a4, a5, a6, a7, rfl⟩ := hq
      have hjl : j < b.rows.length := by
        have := (List.getElem?_eq_some_iff.mp hj).1
        rw [enumD_len, List.length_map] at this
        exact this
      obtain ⟨r, hr⟩ : ∃ r, b.rows[j]? = some r := ⟨_, List.getElem?_eq_getElem hjl⟩
      have ej := enumD_get (b.rows.map rowD) 0 j (rowD r) (by rw [List.getElem?_map, hr]; rfl)
      rw [Nat.zero_add, hj] at ej
      cases ej
      have hro1 := hro.all r (List.mem_of_getElem? hr)
      have hpd := pairS_drop hr
      refine ⟨rfl, _, tg_tup (tgs_cons tg_name (tgs_cons tg_name tgs_nil)), fun Gc Hc nc s4 H4 hM => ?_⟩
      refine m_for (ds := (b.rows.drop (j + 1)).map rowD) (js := [5]) (fun m q M => M = [] ∧ ∃ a3 a4 a5 a6 a7, q = [some b.d, some (rowsD b.rows), some (.int (lbF b.rows - pairS (b.rows.drop j) + (((b.rows.drop (j + 1)).take m).map (mn r)).sum)), some (.int (j : Nat)), some (rowD r), a3, a4, a5, a6, a7]) hM ⟨rfl, a3, a4, a5, a6, a7, ?_⟩ (fun G0 S0 => ?_) (fun m d q M hm hq => ?_) fun q M s5 H5 hq hM => ?_
      · show _ = [some b.d, some (rowsD b.rows), some (.int (lbF b.rows - pairS (b.rows.drop j) + 0)), some (.int (j : Nat)), some (rowD r), a3, a4, a5, a6, a7]
        rw [Int.add_zero]
        rfl
      · refine ei_is (ei_list (dv_slL (ds := b.rows.map rowD) (lo := some ((j + 1 : Nat) : Int)) (hi := none) (dv_var S0) (eo_int (dv_is (dv_opI (dv_var S0) dv_int) (congrArg PyData.int ((Int.natCast_succ j).symm)))) eo_none)) ?_
        rw [cut_from, List.map_drop]
      · obtain ⟨rfl, a3, a4, a5, a6, a7, rfl⟩ := hq
        rw [List.getElem?_map] at hm
        obtain ⟨o, ho, rfl⟩ := Option.map_eq_some_iff.mp hm
        have hoo := hro.all o (List.mem_of_mem_drop (List.mem_of_getElem? ho))
        refine ⟨rfl, _, tg_name, fun Gd Hd nd s6 H6 hM => ?_⟩
        refine m_aug (i := 2) (a := lbF b.rows - pairS (b.rows.drop j) + (((b.rows.drop (j + 1)).take m).map (mn r)).sum) (b := mn r o) hM rfl rfl (fun G0 S0 => dv_min2 (i := r.len * o.wt) (j := o.len * r.wt) (dv_opC (dv_ixT (ds := rowL r) (dv_var S0) dv_int (atI_nat (j := 0) rfl)) (dv_ixT (ds := rowL o) (dv_var S0) dv_int (atI_nat (j := 3) rfl)) (mul_ok ⟨by have := hro1.len; omega, hro1.len.2⟩)) (dv_opC (dv_ixT (ds := rowL o) (dv_var S0) dv_int (atI_nat (j := 0) rfl)) (dv_ixT (ds := rowL r) (dv_var S0) dv_int (atI_nat (j := 3) rfl)) (mul_ok ⟨by have := hoo.len; omega, hoo.len.2⟩))) fun s7 H7 hM => ?_
        refine ⟨_, _, ⟨rfl, some (rowD o), a4, a5, a6, a7, ?_⟩, hM⟩
        rw [List.take_add_one, ho, List.map_append, List.sum_append]
        show _ = [some b.d, some (rowsD b.rows), some (.int (lbF b.rows - pairS (b.rows.drop j) + ((((b.rows.drop (j + 1)).take m).map (mn r)).sum + (mn r o + 0)))), some (.int (j : Nat)), some (rowD r), some (rowD o), a4, a5, a6, a7]
        rw [Int.add_zero, ← Int.add_assoc]
        rfl
      · obtain ⟨rfl, a3, a4, a5, a6, a7, rfl⟩ := hq
        refine ⟨_, _, ⟨rfl, some (.int (j : Nat)), some (rowD r), a3, a4, a5, a6, a7, ?_⟩, hM⟩
        rw [List.length_map, List.take_length, show lbF b.rows - pairS (b.rows.drop j) + ((b.rows.drop (j + 1)).map (mn r)).sum = lbF b.rows - pairS (b.rows.drop (j + 1)) by omega]
    · obtain ⟨rfl, a1, a2, a3, a4, a5, a6, a7, rfl⟩ := hq
      rw [enumD_len, List.length_map, List.drop_length] at hM
      have hM : MSt G H [some b.d, some (rowsD b.rows), some (.int (lbF b.rows - 0)), a1, a2, a3, a4, a5, a6, a7] [] s' H' := hM
      rw [Int.sub_zero] at hM
      obtain ⟨G', S', n'⟩ := hM.freeze
      exact sd_ret n'.i (dv_var S') fun v G4 H4 n4 hv => h1 hs v _ G4 H4 rfl (n'.trans n4) hv
end
end K9

set_option Elab.async false
set_option linter.all false
set_option maxRecDepth 100000
set_option maxHeartbeats 4000000
/-! The law's own defs: numbers off the script, the single book. -/
namespace K9
open PySem PySem.Spec PyProof.Rows L2 Evl
/-! ### the script: known by its address -/
section
variable {K : PySem.W.Frag} {s : L2.St} {G0 : Hp} {ta tb : TE} {a : Addr} {xs : List V} {ns : List Int}
theorem dv_lenR (h : EvD ta s G0 (rawD a)) (hs : SqL K G0 a xs) : EvD (tCB (rLenQ K) (tCons ta tNil)) s G0 (.int (xs.length : Nat)) :=
  dv_cb (ds_cons h ds_nil) fun G H vs e w hv Q k => by
    obtain ⟨v, rfl, hw⟩ := hv.inv1
    cases hw.atRaw
    exact ⟨a, xs, rfl, .inl (ex_l (e.trans w) hs), k _ G H (Nx.refl w) (.int _)⟩
theorem dv_ixR {i n : Int} (ha : EvD ta s G0 (rawD a)) (hb : EvD tb s G0 (.int i)) (hs : SqL K G0 a (ns.map V.int)) (hi : atI ns i = some n) : EvD (tOp (rIxL K) ta tb) s G0 (.int n) :=
  dv_op ha hb fun G H _ _ e w h1 h2 _ k => by
    cases h1.atRaw
    cases h2.eqInt
    refine ⟨a, ns.map V.int, i, .int n, rfl, rfl, ex_l (e.trans w) hs, ?_, k _ G H (Nx.refl w) (.int _)⟩
    unfold atI at hi ⊢
    rw [List.length_map]
    obtain ⟨j, hj, hi⟩ := Option.bind_eq_some_iff.mp hi
    rw [hj]
    show (ns.map V.int)[j]? = _
    rw [List.getElem?_map, hi]
    rfl
end
/-! ### a number of the script -/
def divs : Nat → Int → Int
  | 0, x => x
  | n + 1, x => divs n x / 2147483629
theorem divs_succ (n : Nat) (x : Int) : divs (n + 1) x = divs n x / 2147483629 := rfl
def mixF (k cell : Int) : Int := (cell % 2147483629 * 48271 + (k + 3) * (k + 3) * 69621) % 2147483647 * 16807 % 2147483629
def cellF (ns : List Int) (k : Int) : Int := (ns[(k % (ns.length : Nat)).toNat]?).getD 0
def turnsF (ns : List Int) (k : Int) : Nat := (k / (ns.length : Nat) % 60 * (if decide ((ns[0]?).getD 0 % 2 = 1) then 1 else 0)).toNat
def numF (ns : List Int) (k : Int) : Int := if 0 < ns.length then
    (if (ns[0]?).getD 0 % 2 = 1 ∧ 0 < divs (turnsF ns k) (cellF ns k) then divs (turnsF ns k) (cellF ns k) % 2147483629 else mixF k (cellF ns k))
  else mixF k 1
theorem numF_rng (ns : List Int) (k : Int) : 0 ≤ numF ns k ∧ numF ns k < 2147483629 := by
  unfold numF mixF
  split
  · split
    · omega
    · omega
  · omega
def spNum (K : PySem.W.Frag) : Sp := fun vs H Q _ => ∃ (a : Addr) (k : Int) (ns : List Int), vs = [.ref a, .int k] ∧ SqL K H a (ns.map V.int) ∧ ns.length ≤ 63 ∧ 0 ≤ k ∧ k ≤ 1000 ∧ ∀ H', Ex H H' → Q (.int (numF ns k)) H'
section
variable {P : Program} {w : World} {K : PySem.W.Frag} {mg : Str → Option Value} {base : Heap}
theorem ok_law_number {f : Addr} {fd : FuncData} (F : Fun K "_law_number" "_law_number" s_law_number f fd) (T : Txt mg) : FnOk P w K mg base CX0 1 f fd ["_law_script", "_law_k"] (spNum K) := by
  refine F.ok sc_law_number (fun vs H Q E h => ?_) fun cdv A outer s H vs Q E hr h => ?_
  · obtain ⟨a, k, ns, rfl, _⟩ := h
    rfl
  obtain ⟨a, k, ns, rfl, hs, hnl, hk0, hk1, q⟩ := h
  have S : SD H (start ["_law_script", "_law_k", "_law_cell", "_law_left", "_law_turn", "_law_more"] [.ref a, .int k]) [some (rawD a), some (.int k), none, none, none, none] := SD.start (.cons (.raw a) (.one (.int k)))
  refine ⟨_, (pss_cons (ps_set (i := 2) sc_law_number.nd rfl (Or.inl rfl) pe_int)
      (pss_cons (ps_if (pt_cmpR op_gt (pe_callB (r := rLenQ K) cr_len (by rfl) T.b_len bt_len (pa_cons (pv 0) pa_nil)) pe_int (nomark _)) (pss_cons (ps_set (i := 2) sc_law_number.nd rfl (Or.inl rfl) (pe_ix (r := rIxL K) ix_list (pv 0) (pe_op op_mod (pv 1) (pe_callB (r := rLenQ K) cr_len (by rfl) T.b_len bt_len (pa_cons (pv 0) pa_nil))) (fun _ _ => rfl)))
      (pss_cons (ps_set (i := 3) sc_law_number.nd rfl (Or.inl rfl) (pv 2))
      (pss_cons (ps_for PassesOwn.never rfl (pi_range1 (by rfl) T.b_range (pa_cons (pe_op op_mul (pe_op op_mod (pe_op op_fdiv (pv 1) (pe_callB (r := rLenQ K) cr_len (by rfl) T.b_len bt_len (pa_cons (pv 0) pa_nil))) pe_int) (pe_callTy (r := rIntQ) cr_int (by rfl) T.b_int bt_int (pa_cons (pe_cmpR (r := rEqD K) (op_eqD hr.units) (pe_op op_mod (pe_ix (r := rIxL K) ix_list (pv 0) pe_int (fun _ _ => rfl)) pe_int) pe_int (nomark _)) pa_nil))) pa_nil)) (pg_name (i := 4) sc_law_number.nd rfl (Or.inl rfl)) (pss_one (ps_set (i := 3) sc_law_number.nd rfl (Or.inl rfl) (pe_op op_fdivW (pv 3) pe_int))))
      (pss_one (ps_if (PW.pt (pw_and (pt_cmpR (r := rEqD K) (op_eqD hr.units) (pe_op op_mod (pe_ix (r := rIxL K) ix_list (pv 0) pe_int (fun _ _ => rfl)) pe_int) pe_int (nomark _)) (pw_and1 (pt_cmpR op_gt (pv 3) pe_int (nomark _))))) (pss_one (ps_ret (pe_op op_mod (pv 3) pe_int))) pss_nil))))) pss_nil)
      (pss_cons (ps_set (i := 5) sc_law_number.nd rfl (Or.inl rfl) (pe_op op_add (pv 1) pe_int))
      (pss_one (ps_ret (pe_op op_mod (pe_op op_mul (pe_op op_mod (pe_op op_add (pe_op op_mul (pe_op op_mod (pv 2) pe_int) pe_int) (pe_op op_mul (pe_op op_mul (pv 5) (pv 5)) pe_int)) pe_int) pe_int) pe_int)))))), ?_⟩
  have i0 : Ex H H := Ex.refl H
  -- the end
  have fin : ∀ (cell : Int) (G' H' : Hp) (s' : L2.St) (x y : Option PyData) (D : Ends), numF ns k = mixF k cell → SD G' s' [some (rawD a), some (.int k), some (.int cell), x, y, none] → Nx H H G' H' → (∀ v H2, D.rt v H2 = Q v H2) →
      tSeq (tAsg (tOp (rI0 fun i j => .int (i + j)) (tVar 1) (tC (.int 3))) (gName 5)) (tRet (tOp (rI (fun _ j => 0 < j) fun i j => .int (i % j)) (tOp (rI CMul fun i j => .int (i * j)) (tOp (rI (fun _ j => 0 < j) fun i j => .int (i % j)) (tOp (rI0 fun i j => .int (i + j)) (tOp (rI CMul fun i j => .int (i * j)) (tOp (rI (fun _ j => 0 < j) fun i j => .int (i % j)) (tVar 2) (tC (.int 2147483629))) (tC (.int 48271))) (tOp (rI CMul fun i j => .int (i * j)) (tOp (rI CMul fun i j => .int (i * j)) (tVar 5) (tVar 5)) (tC (.int 69621)))) (tC (.int 2147483647))) (tC (.int 16807))) (tC (.int 2147483629)))) D s' H' := fun cell G' H' s' x y D he S' n' hD => by
    refine sq_set (d := .int (k + 3)) S' n'.i (dv_opI (dv_var S') dv_int) fun s2 G2 H2 S2 n2 => ?_
    have b31 : ∀ x : Int, 0 ≤ x % 2147483629 ∧ x % 2147483629 < 2147483629 := fun x => ⟨Int.emod_nonneg _ (by decide), Int.emod_lt_of_pos _ (by decide)⟩
    refine sd_ret n2.i (d := .int (mixF k cell)) (dv_opC (dv_opC (dv_opC (dv_opI (dv_opC (dv_opC (dv_var S2) dv_int (by decide)) dv_int (.inr ⟨by decide, by decide⟩)) (dv_opC (dv_opC (dv_var S2) (dv_var S2) (.inl ⟨by omega, by omega⟩)) dv_int (.inr ⟨by decide, by decide⟩))) dv_int (by decide)) dv_int (.inr ⟨by decide, by decide⟩)) dv_int (by decide)) fun v G3 H3 n3 hv => ?_
    cases hv.eqInt
    rw [hD, ← he]
    exact q H3 ((n'.trans n2).trans n3).h
  refine sq_set (d := .int 1) S i0 dv_int fun s1 G1 H1 S1 n1 => ?_
  have hs1 : SqL K G1 a (ns.map V.int) := ex_l n1.g hs
  refine sq_when (b := decide (0 < ns.length)) n1.i (tt_T (dv_is (dv_opB (dv_lenR (dv_var S1) hs1) dv_int) ?_)) (fun hb H2 n2 => ?_) fun hb H2 n2 => ?_
  · rw [List.length_map]
    exact congrArg PyData.bool (decide_eq_decide.mpr (by omega))
  · have hl : 0 < ns.length := of_decide_eq_true hb
    have hm : 0 ≤ k % (ns.length : Nat) ∧ k % (ns.length : Nat) < (ns.length : Nat) := ⟨Int.emod_nonneg _ (by omega), Int.emod_lt_of_pos _ (by omega)⟩
    have hcell : atI ns (k % (ns.length : Nat)) = some (cellF ns k) := by
      have e : k % (ns.length : Nat) = ((k % (ns.length : Nat)).toNat : Nat) := by omega
      rw [e]
      refine atI_nat ?_
      unfold cellF
      rw [List.getElem?_eq_getElem (by omega : (k % (ns.length : Nat)).toNat < ns.length)]
      rfl
    have h0 : atI ns 0 = some ((ns[0]?).getD 0) := atI_nat (j := 0) (by rw [List.getElem?_eq_getElem hl]; rfl)
    have dlen : ∀ {s G} (S : SD G s [some (rawD a), some (.int k), some (.int 1), none, none, none]) (hs : SqL K G a (ns.map V.int)), EvD (tCB (rLenQ K) (tCons (tVar 0) tNil)) s G (.int (ns.length : Nat)) := fun S hs => dv_is (dv_lenR (dv_var S) hs) (by rw [List.length_map])
    have dlen4 : ∀ {s G x} (S : SD G s [some (rawD a), some (.int k), some (.int (cellF ns k)), x, none, none]) (hs : SqL K G a (ns.map V.int)), EvD (tCB (rLenQ K) (tCons (tVar 0) tNil)) s G (.int (ns.length : Nat)) := fun S hs => dv_is (dv_lenR (dv_var S) hs) (by rw [List.length_map])
    refine sq_set (d := .int (cellF ns k)) S1 n2.i (dv_ixR (dv_var S1) (dv_opC (dv_var S1) (dlen S1 hs1) (by omega)) hs1 hcell) fun s3 G3 H3 S3 n3 => ?_
    refine sq_set (d := .int (cellF ns k)) S3 n3.i (dv_var S3) fun s4 G4 H4 S4 n4 => ?_
    have hs4 : SqL K G4 a (ns.map V.int) := ex_l (n3.g.trans n4.g) hs1
    have n14 := ((n1.trans n2).trans n3).trans n4
    have odd : ∀ {s G x y} (S : SD G s [some (rawD a), some (.int k), some (.int (cellF ns k)), x, y, none]) (hs : SqL K G a (ns.map V.int)), EvD (tOp (rEqD K) (tOp (rI (fun _ j => 0 < j) fun i j => .int (i % j)) (tOp (rIxL K) (tVar 0) (tC (.int 0))) (tC (.int 2))) (tC (.int 1))) s G (.bool (decide ((ns[0]?).getD 0 % 2 = 1))) := fun S hs => dv_is (dv_eqD (dv_opC (dv_ixR (dv_var S) dv_int hs h0) dv_int (by decide)) dv_int (shaped_int _) (shaped_int _)) (congrArg PyData.bool (by rw [eqv_int, Bool.beq_eq_decide_eq]))
    have ht : ((turnsF ns k : Nat) : Int) = k / (ns.length : Nat) % 60 * (if decide ((ns[0]?).getD 0 % 2 = 1) then 1 else 0) := by
      unfold turnsF
      have h1 : 0 ≤ k / (ns.length : Nat) % 60 := Int.emod_nonneg _ (by decide)
      split <;> omega
    have htb : (turnsF ns k : Int) < 60 := by
      rw [ht]
      have h1 : k / (ns.length : Nat) % 60 < 60 := Int.emod_lt_of_pos _ (by decide)
      split <;> omega
    refine sq_for (ds := intsD 0 ((turnsF ns k : Nat) : Int).toNat) (js := [4]) (fun j => [some (rawD a), some (.int k), some (.int (cellF ns k)), some (.int (divs j (cellF ns k))), none, none]) (fun j d => [some (rawD a), some (.int k), some (.int (cellF ns k)), some (.int (divs j (cellF ns k))), some d, none]) S4 n4.i (ei_rng1 (ds_cons ?_ ds_nil) (by omega)) (fun j d hj => tg_name) (fun Gb Hb nb j d s' G' H' hj S' n' => ?_) fun s5 G5 H5 S5 n5 => ?_
    · refine dv_is (dv_opC (dv_opC (dv_opC (dv_var S4) (dlen4 S4 hs4) (by constructor <;> omega)) dv_int (by decide)) (dv_intB (odd S4 hs4)) (.inr ?_)) (congrArg PyData.int ht.symm)
      split <;> exact ⟨by decide, by decide⟩
    · refine sd_set (d := .int (divs (j + 1) (cellF ns k))) S' n'.i (dv_opC (dv_var S') dv_int ⟨by decide, by decide⟩) fun s6 G6 H6 S6 n6 => ⟨G6, S6.weak (leD.setNone [some (rawD a), some (.int k), some (.int (cellF ns k)), some (.int (divs (j + 1) (cellF ns k))), some d, none] 4), n'.trans n6⟩
    · rw [intsD_len, Int.toNat_natCast] at S5
      have hs5 : SqL K G5 a (ns.map V.int) := ex_l n5.g hs4
      have n15 := n14.trans n5
      refine sd_if (b := decide ((ns[0]?).getD 0 % 2 = 1) && decide (0 < divs (turnsF ns k) (cellF ns k))) n5.i (et_and (tt_T (odd S5 hs5)) fun _ => tt_T (dv_opB (dv_var S5) dv_int)) (fun hc H6 n6 => ?_) fun hc H6 n6 => ?_
      · rw [Bool.and_eq_true, decide_eq_true_eq, decide_eq_true_eq] at hc
        refine sd_ret n6.i (d := .int (numF ns k)) (dv_is (dv_opC (dv_var S5) dv_int (by decide)) ?_) fun v G7 H7 n7 hv => ?_
        · unfold numF
          rw [if_pos hl, if_pos hc]
        · cases hv.eqInt
          exact q H7 ((n15.trans n6).trans n7).h
      · refine fin (cellF ns k) G5 H6 s5 _ none _ ?_ S5 (n15.trans n6) fun v H2 => rfl
        unfold numF
        rw [if_pos hl, if_neg fun z => ?_]
        rw [decide_eq_true z.1, decide_eq_true z.2] at hc
        cases hc
  · refine fin 1 G1 H2 s1 none none _ ?_ S1 (n1.trans n2) fun v H2 => rfl
    unfold numF
    rw [if_neg (of_decide_eq_false hb)]
/-- the number, by data -/
theorem dv_num {s : L2.St} {G0 : Hp} {ta tb : TE} {a : Addr} {k : Int} {ns : List Int} (ha : EvD ta s G0 (rawD a)) (hb : EvD tb s G0 (.int k)) (hs : SqL K G0 a (ns.map V.int)) (hl : ns.length ≤ 63) (h0 : 0 ≤ k ∧ k ≤ 1000) : EvD (tCall (spNum K) [] E0 (tCons ta (tCons tb tNil))) s G0 (.int (numF ns k)) := fun G H e i Q q =>
  ha G H e i _ fun x G2 H2 n2 hx => hb G2 H2 (e.trans n2.g) n2.i _ fun y G3 H3 n3 hy => by
    cases hx.atRaw
    cases hy.eqInt
    have n4 := n2.trans n3
    exact ⟨a, k, ns, rfl, ex_l ((e.trans n4.g).trans n4.i) hs, hl, h0.1, h0.2, fun H' e' => q _ G3 H' (n4.trans (Nx.same n4.i e')) (.int _)⟩
/-! ### all orders -/
def insAll (k : Nat) (o : List Nat) : List (List Nat) := (List.range (o.length + 1)).map fun at_ => o.take at_ ++ [k] ++ o.drop at_
def ordsL : Nat → List (List Nat)
  | 0 => [[]]
  | k + 1 => (ordsL k).flatMap (insAll k)
def ordD (o : List Nat) : PyData := .list (nD o)
theorem ordsL_len : ∀ (n : Nat) (o : List Nat), o ∈ ordsL n → o.length = n
  | 0, o, h => by
    rw [List.mem_singleton.mp h]
    rfl
  | n + 1, o, h => by
    obtain ⟨p, hp, ho⟩ := List.mem_flatMap.mp h
    obtain ⟨i, hi, rfl⟩ := List.mem_map.mp ho
    have hl := ordsL_len n p hp
    have hi' := List.mem_range.mp hi
    simp only [List.length_append, List.length_take, List.length_drop, List.length_singleton]
    omega
theorem cut_to (xs : List PyData) (k : Nat) (h : k ≤ xs.length) : cutD xs none (some (k : Int)) = xs.take k := by
  unfold cutD
  rw [HT.sIx_nat, HT.sIx_none, List.drop_zero, Nat.sub_zero, Nat.min_eq_left h]
abbrev ROrds : List PyData → PyData → Prop := fun ds d => ∃ n : Nat, ds = [.int (n : Nat)] ∧ n ≤ 5 ∧ d = .list ((ordsL n).map ordD)
theorem ordsL_small : ∀ n : Nat, n ≤ 5 → (ordsL n).length ≤ 120 := by decide +kernel
theorem ok_law_orders {f : Addr} {fd : FuncData} (F : Fun K "_law_orders" "_law_orders" s_law_orders f fd) (T : Txt mg) : FnOk P w K mg base CX0 1 f fd ["_law_many"] (SpR 1 ROrds) := by
  refine okD F sc_law_orders rfl fun cdv A outer s G H vs ds r Q E hr hR S i k => ?_
  obtain ⟨n, rfl, hn, rfl⟩ := hR
  refine ⟨_, (pss_cons (ps_set (i := 1) sc_law_orders.nd rfl (Or.inl rfl) (pe_lst (pa_cons (pe_lst pa_nil) pa_nil)))
      (pss_cons (ps_for PassesOwn.never rfl (pi_range1 (by rfl) T.b_range (pa_cons (pv 0) pa_nil)) (pg_name (i := 2) sc_law_orders.nd rfl (Or.inr rfl)) (pss_cons (ps_set (i := 3) sc_law_orders.nd rfl (Or.inl rfl) (pe_lst pa_nil))
      (pss_cons (ps_for PassesOwn.never rfl (pi_list (pv 1)) (pg_name (i := 4) sc_law_orders.nd rfl (Or.inr rfl)) (pss_one (ps_set (i := 3) sc_law_orders.nd rfl (Or.inl rfl) (pe_op (r := rCat) op_cat (pv 3) (pe_lc (own := [("_law_at", 5)]) (g := (gName 5)) rfl sc_law_orders.nd (pi_range1 (by rfl) T.b_range (pa_cons (pe_op op_add (pe_callB (r := rLenQ K) cr_len (by rfl) T.b_len bt_len (pa_cons (pv 4) pa_nil)) pe_int) pa_nil)) (blkOk_by (N := ["_law_many", "_law_found", "_law_k", "_law_longer", "_law_order", "_law_at"]) (sc := defScope s_law_orders) (by decide +kernel)) (fun _ _ _ _ _ => (pg_name (i := 5) sc_law_orders.nd rfl (Or.inl rfl))) (fun _ _ _ _ _ => pts_nil) (fun _ _ _ _ _ => (pe_op (r := rCat) op_cat (pe_op (r := rCat) op_cat (pe_slice (r := rSlL K) sl_list (pv 4) po_none (po_some (pv 5))) (pe_lst (pa_cons (pv 2) pa_nil))) (pe_slice (r := rSlL K) sl_list (pv 4) (po_some (pv 5)) po_none))))))))
      (pss_one (ps_set (i := 1) sc_law_orders.nd rfl (Or.inl rfl) (pv 3))))))
      (pss_one (ps_ret (pv 1))))), ?_⟩
  refine sq_set (d := .list ((ordsL 0).map ordD)) S i (dv_lst (ds := [.list []]) (ds_cons (dv_lst ds_nil) ds_nil) (by show 1 ≤ 100000; decide)) fun s1 G1 H1 S1 n1 => ?_
  refine sq_for (ds := intsD 0 ((n : Nat) : Int).toNat) (js := [2]) (fun j => [some (.int (n : Nat)), some (.list ((ordsL j).map ordD)), none, none, none, none]) (fun j d => [some (.int (n : Nat)), some (.list ((ordsL j).map ordD)), some d, none, none, none]) S1 n1.i (ei_rng1 (ds_cons (dv_var S1) ds_nil) (by omega)) (fun j d hj => tg_name) (fun Gb Hb nb j d s2 G2 H2 hj S2 n2 => ?_) fun s2 G2 H2 S2 n2 => ?_
  · have hjl : j < n := by
      have := (List.getElem?_eq_some_iff.mp hj).1
      rw [intsD_len] at this
      omega
    rw [intsD_get (by omega)] at hj
    cases hj
    rw [Int.zero_add] at S2
    have hsm := ordsL_small j (by omega)
    refine sq_set (d := .list []) S2 n2.i (dv_lst ds_nil) fun s3 G3 H3 S3 n3 => ?_
    refine sq_for (ds := (ordsL j).map ordD) (js := [4]) (fun m => [some (.int (n : Nat)), some (.list ((ordsL j).map ordD)), some (.int (j : Nat)), some (.list ((((ordsL j).take m).flatMap (insAll j)).map ordD)), none, none]) (fun m d => [some (.int (n : Nat)), some (.list ((ordsL j).map ordD)), some (.int (j : Nat)), some (.list ((((ordsL j).take m).flatMap (insAll j)).map ordD)), some d, none]) S3 n3.i (ei_list (dv_var S3)) (fun m d hm => tg_name) (fun Gc Hc nc m d s4 G4 H4 hm S4 n4 => ?_) fun s4 G4 H4 S4 n4 => ?_
    · rw [List.getElem?_map] at hm
      obtain ⟨o, ho, rfl⟩ := Option.map_eq_some_iff.mp hm
      have hol := ordsL_len j o (List.mem_of_getElem? ho)
      refine sd_set (d := .list ((((ordsL j).take (m + 1)).flatMap (insAll j)).map ordD)) S4 n4.i (dv_is (dv_cat (es := (insAll j o).map ordD) (dv_var S4) (dv_is (dv_lc1 (js := [5]) (fun d => [some (.int (n : Nat)), some (.list ((ordsL j).map ordD)), some (.int (j : Nat)), some (.list ((((ordsL j).take m).flatMap (insAll j)).map ordD)), some (ordD o), some d]) (fun d => ordD (o.take (iOf d).toNat ++ [j] ++ o.drop (iOf d).toNat)) (ei_rng1 (n := ((o.length + 1 : Nat) : Int)) (ds_cons (dv_is (dv_opI (dv_len (dv_var S4) rfl) dv_int) ?_) ds_nil) (by omega)) S4 ?_ (fun d hm => tg_name) (by decide) fun d hm s5 G5 e5 S5 => ?_) ?_) ?_) ?_) fun s5 G5 H5 S5 n5 => ⟨G5, S5.weak (leD.setNone [some (.int (n : Nat)), some (.list ((ordsL j).map ordD)), some (.int (j : Nat)), some (.list ((((ordsL j).take (m + 1)).flatMap (insAll j)).map ordD)), some (ordD o), none] 4), n4.trans n5⟩
      · show PyData.int (((nD o).length : Nat) + 1) = _
        rw [nD_len]
        rfl
      · rw [intsD_len]; omega
      · obtain ⟨x, hx, rfl⟩ := List.mem_map.mp hm
        have hx' : x < o.length + 1 := by
          have := List.mem_range.mp hx
          omega
        rw [Int.zero_add] at S5 ⊢
        have h1 : EvD _ s5 G5 (.list (nD (o.take x))) := dv_is (dv_slL (K := K) (ds := nD o) (lo := none) (hi := some ((x : Nat) : Int)) (dv_var (i := 4) S5) eo_none (eo_int (dv_var (i := 5) S5))) (by rw [cut_to _ _ (by rw [nD_len]; omega)]; unfold nD; rw [List.map_take, List.map_take])
        have h2 : EvD _ s5 G5 (.list (nD (o.drop x))) := dv_is (dv_slL (K := K) (ds := nD o) (lo := some ((x : Nat) : Int)) (hi := none) (dv_var (i := 4) S5) (eo_int (dv_var (i := 5) S5)) eo_none) (by rw [cut_from]; unfold nD; rw [List.map_drop, List.map_drop])
        refine dv_is (dv_cat (dv_cat h1 (dv_lst (ds := [.int (j : Nat)]) (ds_cons (dv_var S5) ds_nil) (by show 1 ≤ 100000; decide)) ?_) h2 ?_) ?_
        · rw [nD_len, List.length_take]
          show min x o.length + 1 ≤ 100000
          omega
        · rw [List.length_append, nD_len, nD_len, List.length_take, List.length_drop]
          show min x o.length + 1 + (o.length - x) ≤ 100000
          omega
        · show _ = ordD (o.take (((x : Nat) : Int)).toNat ++ [j] ++ o.drop (((x : Nat) : Int)).toNat)
          rw [Int.toNat_natCast]
          unfold ordD
          rw [nD_app, nD_app]
          rfl
      · unfold insAll intsD
        rw [List.map_map, List.map_map, Int.toNat_natCast]
        refine congrArg PyData.list (List.map_congr_left fun x _ => ?_)
        show ordD (o.take ((0 + ((x : Nat) : Int))).toNat ++ [j] ++ o.drop ((0 + ((x : Nat) : Int))).toNat) = _
        rw [Int.zero_add, Int.toNat_natCast]
        rfl
      · rw [List.length_map, List.length_map]
        have h1 : (insAll j o).length ≤ 6 := by unfold insAll; rw [List.length_map, List.length_range]; omega
        have h2 : (((ordsL j).take m).flatMap (insAll j)).length ≤ 6 * 120 := by
          have key : ∀ l : List (List Nat), (∀ p ∈ l, p.length ≤ 5) → (l.flatMap (insAll j)).length ≤ 6 * l.length := by
            intro l
            induction l with
            | nil => intro _; simp
            | cons p r ih =>
              intro h
              have hp := h p List.mem_cons_self
              have := ih fun x hx => h x (List.mem_cons_of_mem _ hx)
              rw [List.flatMap_cons, List.length_append, List.length_cons]
              have : (insAll j p).length ≤ 6 := by unfold insAll; rw [List.length_map, List.length_range]; omega
              omega
          have h3 := key ((ordsL j).take m) fun p hp => by rw [ordsL_len j p (List.mem_of_mem_take hp)]; omega
          have h4 : ((ordsL j).take m).length ≤ 120 := by rw [List.length_take]; omega
          omega
        omega
      · rw [List.take_add_one, ho, List.flatMap_append, List.map_append]
        show _ = PyData.list (_ ++ (([o].flatMap (insAll j)).map ordD))
        rw [List.flatMap_cons, List.flatMap_nil, List.append_nil]
    · rw [List.length_map, List.take_length] at S4
      refine sd_set (d := .list ((ordsL (j + 1)).map ordD)) S4 n4.i (dv_var S4) fun s5 G5 H5 S5 n5 => ?_
      refine ⟨G5, (S5.weak (leD.setNone [some (.int (n : Nat)), some (.list ((ordsL (j + 1)).map ordD)), some (.int (j : Nat)), some (.list ((ordsL (j + 1)).map ordD)), none, none] 2)).weak (leD.setNone [some (.int (n : Nat)), some (.list ((ordsL (j + 1)).map ordD)), none, some (.list ((ordsL (j + 1)).map ordD)), none, none] 3), ((n2.trans n3).trans n4).trans n5⟩
  · rw [intsD_len, Int.toNat_natCast] at S2
    exact sd_ret n2.i (dv_var S2) fun v G3 H3 n3 hv => k v G3 H3 ((n1.trans n2).trans n3) hv
end
end K9

set_option Elab.async false
set_option linter.all false
set_option maxRecDepth 100000
set_option maxHeartbeats 4000000
/-! The law's own defs: the least over all orders, the single book. -/
namespace K9
open PySem PySem.Spec PyProof.Rows L2 Evl
def minI : List Int → Int
  | [] => 0
  | n :: r => r.foldl min n
theorem foldMin_le : ∀ (r : List Int) (n : Int), r.foldl min n ≤ n ∧ ∀ y ∈ r, r.foldl min n ≤ y
  | [], n => ⟨Int.le_refl _, fun y h => absurd h (by simp)⟩
  | a :: r, n => by
    rw [List.foldl_cons]
    obtain ⟨h1, h2⟩ := foldMin_le r (min n a)
    refine ⟨by omega, fun y hy => ?_⟩
    rcases List.mem_cons.mp hy with e | e
    · subst e
      omega
    · exact h2 y e
theorem foldMin_mem : ∀ (r : List Int) (n : Int), r.foldl min n = n ∨ r.foldl min n ∈ r
  | [], n => .inl rfl
  | a :: r, n => by
    rw [List.foldl_cons]
    rcases foldMin_mem r (min n a) with h | h
    · rcases Int.le_total n a with c | c
      · rw [Int.min_eq_left c] at h ⊢
        exact .inl h
      · rw [Int.min_eq_right c] at h ⊢
        rw [h]
        exact .inr List.mem_cons_self
    · exact .inr (List.mem_cons_of_mem _ h)
theorem minI_mem {ns : List Int} (h : ns ≠ []) : minI ns ∈ ns := by
  cases ns with
  | nil => exact absurd rfl h
  | cons n r =>
    rcases foldMin_mem r n with e | e
    · show r.foldl min n ∈ n :: r
      rw [e]
      exact List.mem_cons_self
    · exact List.mem_cons_of_mem _ e
theorem minI_le {ns : List Int} {y : Int} (h : y ∈ ns) : minI ns ≤ y := by
  cases ns with
  | nil => cases h
  | cons n r =>
    obtain ⟨h1, h2⟩ := foldMin_le r n
    rcases List.mem_cons.mp h with e | e
    · subst e
      exact h1
    · exact h2 y e
def lateI (t : Tk) (hour : Int) : Int := match t.due with
  | some d => if d < hour then 1 else 0
  | none => 0
def stepO (ts : List Tk) (acc : Int × Int × Int) (k : Nat) : Int × Int × Int := match ts[k]? with
  | some t => (acc.1 + t.len, acc.2.1 + (acc.1 + t.len) * t.wt, acc.2.2 + lateI t (acc.1 + t.len))
  | none => acc
def foldO (ts : List Tk) (o : List Nat) : Int × Int × Int := o.foldl (stepO ts) (0, 0, 0)
theorem foldO_snoc (ts : List Tk) (o : List Nat) (k : Nat) : foldO ts (o ++ [k]) = stepO ts (foldO ts o) k := by
  unfold foldO
  rw [List.foldl_append]
  rfl
def sumsO (ts : List Tk) : List Int := (ordsL ts.length).map fun o => (foldO ts o).2.1
def latesO (ts : List Tk) : List Int := (ordsL ts.length).map fun o => (foldO ts o).2.2
theorem ordsL_mem : ∀ (n : Nat) (o : List Nat), o ∈ ordsL n → ∀ k ∈ o, k < n
  | 0, o, h, k, hk => by
    rw [List.mem_singleton.mp h] at hk
    cases hk
  | n + 1, o, h, k, hk => by
    obtain ⟨p, hp, ho⟩ := List.mem_flatMap.mp h
    obtain ⟨i, _, rfl⟩ := List.mem_map.mp ho
    have ih := ordsL_mem n p hp
    rw [List.mem_append, List.mem_append, List.mem_singleton] at hk
    rcases hk with (hk | hk) | hk
    · have := ih k (List.mem_of_mem_take hk)
      omega
    · omega
    · have := ih k (List.mem_of_mem_drop hk)
      omega
theorem ordsL_ne : ∀ n : Nat, n ≤ 5 → ordsL n ≠ [] := by decide +kernel
theorem MSt_nx {Gb Hb : Hp} {q : Sd} {M : Mu} {s : L2.St} {H : Hp} {te : TE} {tz : TS} {D : Ends} {d : PyData} {i : Nat} (hM : MSt Gb Hb q M s H) (hi : noI M i = true) (h : ∀ G, Ex Gb G → SD G s q → EvD te s G d) (k : ∀ s' H', MSt Gb Hb (q.set i (some d)) M s' H' → tz D s' H') : tSeq (tAsg te (gName i)) tz D s H := by
  obtain ⟨G, ps, m⟩ := hM
  exact m.ev (h G m.n.g m.S) fun v G' H' m' hv _ => k _ H' ⟨G', ps, m'.slots (m'.S.set i hv) fun x hx => List.getElem?_set_ne (Ne.symm (noI_ne hi x hx))⟩
section
variable {P : Program} {w : World} {K : PySem.W.Frag} {mg : Str → Option Value} {base : Heap}
theorem dv_minL {s : L2.St} {G0 : Hp} {ta : TE} {ns : List Int} (h : EvD ta s G0 (.list (ns.map .int))) (hn : ns ≠ []) : EvD (tCB (rMin K) (tCons ta tNil)) s G0 (.int (minI ns)) :=
  dv_cb (ds_cons h ds_nil) fun G H vs _ w hv Q k => by
    obtain ⟨v, rfl, hw⟩ := hv.inv1
    obtain ⟨a, xs, rfl, ea, hxs⟩ := hw.atLst
    cases hxs.ints
    refine ⟨a, ns, rfl, SqL.of (w _ _ ea), List.length_pos_iff.mpr hn, fun m h1 h2 => ?_⟩
    have e : m = minI ns := Int.le_antisymm (h2 _ (minI_mem hn)) (minI_le h1)
    subst e
    exact k _ G H (Nx.refl w) (.int _)
abbrev RWorths : List PyData → PyData → Prop := fun ds d => ∃ ts : List Tk, ds = [.tuple (ts.map Tk.d)] ∧ ts.length ≤ 5 ∧ (∀ t ∈ ts, RwOk t.rw) ∧ d = .tuple [.int (minI (sumsO ts)), .int (minI (latesO ts))]
theorem tk_ix {s : L2.St} {G0 : Hp} {ta tb : TE} {ts : List Tk} {t : Tk} {k : Nat} {d : PyData} (j : Nat) (ha : EvD ta s G0 (.tuple (ts.map Tk.d))) (hb : EvD tb s G0 (.int (k : Nat))) (hk : ts[k]? = some t) (hj : [PyData.str t.nm, .int t.len, .str t.mach, .tuple ((needsD t.needs).map pairD), .int t.first, dueD t.due, .int t.wt][j]? = some d) :
    EvD (tOp (rIxT K) (tOp (rIxT K) ta tb) (tC (.int (j : Nat)))) s G0 d := dv_ixT (dv_ixT (d := t.d) ha hb (atI_nat (by rw [List.getElem?_map, hk]; rfl))) dv_int (atI_nat hj)
theorem ok_law_all_worths {f : Addr} {fd : FuncData} (F : Fun K "_law_all_worths" "_law_all_worths" s_law_all_worths f fd) (T : Txt mg) (C_law_orders : Cal P w K mg base 1 "_law_orders" (SpR 1 ROrds)) : FnOk P w K mg base CX0 2 f fd ["_law_tasks"] (SpR 1 RWorths) := by
  refine okD F sc_law_all_worths rfl fun cdv A outer s G H vs ds r Q E hr hR S i k => ?_
  obtain ⟨ts, rfl, hl, hrw, rfl⟩ := hR
  refine ⟨_, (pss_cons (ps_set (i := 1) sc_law_all_worths.nd rfl (Or.inl rfl) (pe_lst pa_nil))
      (pss_cons (ps_set (i := 2) sc_law_all_worths.nd rfl (Or.inl rfl) (pe_lst pa_nil))
      (pss_cons (ps_for PassesOwn.never rfl (pi_list (pe_c C_law_orders hr (by decide) (by rfl) (pa_cons (pe_callB (r := rLenQ K) cr_len (by rfl) T.b_len bt_len (pa_cons (pv 0) pa_nil)) pa_nil))) (pg_name (i := 3) sc_law_all_worths.nd rfl (Or.inl rfl)) (pss_cons (ps_set (i := 4) sc_law_all_worths.nd rfl (Or.inl rfl) pe_int)
      (pss_cons (ps_set (i := 5) sc_law_all_worths.nd rfl (Or.inl rfl) pe_int)
      (pss_cons (ps_set (i := 6) sc_law_all_worths.nd rfl (Or.inl rfl) pe_int)
      (pss_cons (ps_for PassesOwn.never rfl (pi_list (pv 3)) (pg_name (i := 7) sc_law_all_worths.nd rfl (Or.inl rfl)) (pss_cons (ps_set (i := 4) sc_law_all_worths.nd rfl (Or.inl rfl) (pe_op op_add (pv 4) (pe_ix (r := rIxT K) ix_tup (pe_ix (r := rIxT K) ix_tup (pv 0) (pv 7) (fun _ _ => rfl)) pe_int (fun _ _ => rfl))))
      (pss_cons (ps_set (i := 5) sc_law_all_worths.nd rfl (Or.inl rfl) (pe_op op_add (pv 5) (pe_op op_mul (pv 4) (pe_ix (r := rIxT K) ix_tup (pe_ix (r := rIxT K) ix_tup (pv 0) (pv 7) (fun _ _ => rfl)) pe_int (fun _ _ => rfl)))))
      (pss_one (ps_set (i := 6) sc_law_all_worths.nd rfl (Or.inl rfl) (pe_op op_add (pv 6) (pe_callTy (r := rIntQ) cr_int (by rfl) T.b_int bt_int (pa_cons (pe_and (pe_cmpR op_notN (pe_ix (r := rIxT K) ix_tup (pe_ix (r := rIxT K) ix_tup (pv 0) (pv 7) (fun _ _ => rfl)) pe_int (fun _ _ => rfl)) pe_non (nomark _)) (pe_one (pe_cmpR op_gt (pv 4) (pe_ix (r := rIxT K) ix_tup (pe_ix (r := rIxT K) ix_tup (pv 0) (pv 7) (fun _ _ => rfl)) pe_int (fun _ _ => rfl)) (nomark _)))) pa_nil))))))))
      (pss_cons (ps_expr (pe_bm PySem.F.plainAttrs_list PySem.F.slot_list_append PySem.F.type_list_append mt_append (pv 1) (pa_cons (pv 5) pa_nil)))
      (pss_one (ps_expr (pe_bm PySem.F.plainAttrs_list PySem.F.slot_list_append PySem.F.type_list_append mt_append (pv 2) (pa_cons (pv 6) pa_nil))))))))))
      (pss_one (ps_ret (pe_tupF (pa_cons (pe_callB (r := rMin K) (cr_min rfl) (by rfl) T.b_min bt_min (pa_cons (pv 1) pa_nil)) (pa_cons (pe_callB (r := rMin K) (cr_min rfl) (by rfl) T.b_min bt_min (pa_cons (pv 2) pa_nil)) pa_nil)))))))), ?_⟩
  refine mq_new (i := 1) (ds := (([] : List Int)).map .int) (MSt.start S (Nx.refl i)) rfl rfl (fun G0 S0 => ef_lst ds_nil) fun s1 H1 hM => ?_
  refine mq_new (i := 2) (ds := (([] : List Int)).map .int) hM rfl rfl (fun G0 S0 => ef_lst ds_nil) fun s2 H2 hM => ?_
  have hsm := ordsL_small ts.length hl
  refine mq_for (ds := (ordsL ts.length).map ordD) (js := [3]) (fun j q M => M = [(1, (((ordsL ts.length).take j).map fun o => (foldO ts o).2.1).map .int), (2, (((ordsL ts.length).take j).map fun o => (foldO ts o).2.2).map .int)] ∧ ∃ a b c d e, q = [some (.tuple (ts.map Tk.d)), none, none, a, b, c, d, e]) hM ⟨rfl, none, none, none, none, none, rfl⟩ (fun G0 S0 => ei_list (dv_call (ds_cons (dv_is (dv_len (dv_var S0) rfl) (by show PyData.int (((ts.map Tk.d).length : Nat) : Int) = _; rw [List.length_map])) ds_nil) ⟨ts.length, rfl, hl, rfl⟩)) (fun j d q M hj hq => ?_) fun q M s' H' hq hM => ?_
  · obtain ⟨rfl, a, b, c, dd, e, rfl⟩ := hq
    rw [List.getElem?_map] at hj
    obtain ⟨o, ho, rfl⟩ := Option.map_eq_some_iff.mp hj
    have hom := ordsL_mem ts.length o (List.mem_of_getElem? ho)
    refine ⟨rfl, _, tg_name, fun Gc Hc nc s3 H3 hM => ?_⟩
    refine mq_set (i := 4) (d := .int 0) hM rfl (fun G0 S0 => dv_int) fun s4 H4 hM => ?_
    refine mq_set (i := 5) (d := .int 0) hM rfl (fun G0 S0 => dv_int) fun s5 H5 hM => ?_
    refine mq_set (i := 6) (d := .int 0) hM rfl (fun G0 S0 => dv_int) fun s6 H6 hM => ?_
    refine mq_for (ds := nD o) (js := [7]) (fun m q M => M = [(1, (((ordsL ts.length).take j).map fun o => (foldO ts o).2.1).map .int), (2, (((ordsL ts.length).take j).map fun o => (foldO ts o).2.2).map .int)] ∧ ∃ e, q = [some (.tuple (ts.map Tk.d)), none, none, some (ordD o), some (.int (foldO ts (o.take m)).1), some (.int (foldO ts (o.take m)).2.1), some (.int (foldO ts (o.take m)).2.2), e]) hM ⟨rfl, e, rfl⟩ (fun G0 S0 => ei_list (dv_var (d := .list (nD o)) S0)) (fun m d q M hm hq => ?_) fun q M s7 H7 hq hM => ?_
    · obtain ⟨rfl, e, rfl⟩ := hq
      obtain ⟨x, hx, rfl⟩ := nD_got hm
      obtain ⟨t, ht⟩ : ∃ t, ts[x]? = some t := ⟨_, List.getElem?_eq_getElem (hom x (List.mem_of_getElem? hx))⟩
      have hr2 := hrw t (List.mem_of_getElem? ht)
      refine ⟨rfl, _, tg_name, fun Gd Hd nd s8 H8 hM => ?_⟩
      refine mq_set (i := 4) (d := .int ((foldO ts (o.take m)).1 + t.len)) hM rfl (fun G0 S0 => dv_opI (dv_var S0) (tk_ix 1 (dv_var S0) (dv_var S0) ht rfl)) fun s9 H9 hM => ?_
      refine mq_set (i := 5) (d := .int ((foldO ts (o.take m)).2.1 + ((foldO ts (o.take m)).1 + t.len) * t.wt)) hM rfl (fun G0 S0 => dv_opI (dv_var S0) (dv_opC (dv_var S0) (tk_ix 6 (dv_var S0) (dv_var S0) ht rfl) (.inr ⟨by have := hr2.wt.1; show -(2 ^ 64) < t.rw.wt; omega, by have := hr2.wt.2; show t.rw.wt < 2 ^ 64; omega⟩))) fun s10 H10 hM => ?_
      refine m_set (i := 6) (d := .int ((foldO ts (o.take m)).2.2 + lateI t ((foldO ts (o.take m)).1 + t.len))) hM rfl (fun G0 S0 => dv_opI (j := lateI t ((foldO ts (o.take m)).1 + t.len)) (dv_var S0) (dv_is (dv_intB (dv_and (a := !t.due.isNone) (b := match t.due with | some d => decide (d < (foldO ts (o.take m)).1 + t.len) | none => false) (dv_is (dv_notN (tk_ix 5 (dv_var S0) (dv_var S0) ht rfl)) (congrArg PyData.bool (by rw [isNone_due]))) fun hb => ?_)) ?_)) fun s11 H11 hM => ?_
      · cases hd : t.due with
        | none => rw [hd] at hb; cases hb
        | some d => exact dv_opB (j := d) (dv_var S0) (tk_ix 5 (dv_var S0) (dv_var S0) ht (by rw [hd]; rfl))
      · unfold lateI
        cases t.due with
        | none => rfl
        | some d =>
          show PyData.int (if (true && decide (d < (foldO ts (o.take m)).1 + t.len)) = true then 1 else 0) = PyData.int (if d < (foldO ts (o.take m)).1 + t.len then 1 else 0)
          rw [Bool.true_and]
          by_cases c : d < (foldO ts (o.take m)).1 + t.len
          · rw [decide_eq_true c, if_pos rfl, if_pos c]
          · rw [decide_eq_false c, if_neg (by decide), if_neg c]
      · refine ⟨_, _, ⟨rfl, some (.int (x : Nat)), ?_⟩, hM⟩
        rw [List.take_add_one, hx]
        show _ = [some (.tuple (ts.map Tk.d)), none, none, some (ordD o), some (.int (foldO ts (o.take m ++ [x])).1), some (.int (foldO ts (o.take m ++ [x])).2.1), some (.int (foldO ts (o.take m ++ [x])).2.2), some (.int (x : Nat))]
        rw [foldO_snoc]
        unfold stepO
        rw [ht]
        rfl
    · obtain ⟨rfl, e, rfl⟩ := hq
      rw [nD_len, List.take_length] at hM
      refine mq_append (j := 0) (i := 1) (d := .int (foldO ts o).2.1) hM rfl (fun G0 S0 => dv_var S0) rfl ?_ fun H8 hM => ?_
      · rw [List.length_map, List.length_map, List.length_take]; omega
      refine m_append (j := 1) (i := 2) (d := .int (foldO ts o).2.2) hM rfl (fun G0 S0 => dv_var S0) rfl ?_ fun H9 hM => ?_
      · rw [List.length_map, List.length_map, List.length_take]; omega
      refine ⟨_, _, ⟨?_, _, _, _, _, _, rfl⟩, hM⟩
      rw [List.take_add_one, ho, List.map_append, List.map_append, List.map_append, List.map_append]
      rfl
  · obtain ⟨rfl, a, b, c, dd, e, rfl⟩ := hq
    rw [List.length_map, List.take_length] at hM
    obtain ⟨G', S', n'⟩ := hM.freeze
    have hne := ordsL_ne ts.length hl
    have h1 : sumsO ts ≠ [] := fun z => hne (List.map_eq_nil_iff.mp z)
    have h2 : latesO ts ≠ [] := fun z => hne (List.map_eq_nil_iff.mp z)
    exact sd_ret n'.i (dv_tup (ds_cons (dv_minL (ns := sumsO ts) (dv_var S') h1) (ds_cons (dv_minL (ns := latesO ts) (dv_var S') h2) ds_nil)) (by show 2 ≤ 100000; decide)) fun v G4 H4 n4 hv => k v G4 H4 (n'.trans n4) hv
end
end K9

set_option Elab.async false
set_option linter.all false
set_option maxRecDepth 100000
set_option maxHeartbeats 4000000
/-! The law's single book. -/
namespace K9
open PySem PySem.Spec PyProof.Rows L2 Evl
/-! ### text times one -/
def rMulS1 : R2 := fun x y H Q => ∃ z, x = .str z ∧ y = .int 1 ∧ Q (.str z) H
theorem op_mulS1 {X : Cx} : OpR X (binaryOp .Mult) rMulS1 := by
  intro pins s σ H x y v u Q I rx ry h
  obtain ⟨z, rfl, rfl, q⟩ := h
  obtain ⟨t, rfl⟩ := rx
  obtain ⟨t', rfl⟩ := ry
  refine PySem.SB.mul ⟨by decide, fun _ h => by simp at h, fun _ h => by simp at h⟩ fun t' k => ⟨.str z, H, I.tok k, ⟨t', ?_⟩, q⟩
  rw [show Txt.mul z 1 = z by unfold Txt.mul; rw [if_neg (by decide), if_pos (by simp)]]
section
variable {K : PySem.W.Frag} {s : L2.St} {G0 : Hp} {ta tb : TE}
theorem dv_mulS1 {z : Str} (ha : EvD ta s G0 (.str z)) (hb : EvD tb s G0 (.int 1)) : EvD (tOp rMulS1 ta tb) s G0 (.str z) :=
  dv_op ha hb fun G H _ _ _ w h1 h2 _ k => ⟨z, h1.eqStr, h2.eqInt, k _ G H (Nx.refl w) (.str z)⟩
theorem dv_ixS {z : Str} {i : Int} {c : Nat} (ha : EvD ta s G0 (.str z)) (hb : EvD tb s G0 (.int i)) (hz : z.length ≤ 100000) (hi : atI z.cps.toList i = some c) : EvD (tOp rIxS ta tb) s G0 (.str ⟨#[c]⟩) :=
  dv_op ha hb fun G H _ _ _ w h1 h2 _ k => ⟨z, i, c, h1.eqStr, h2.eqInt, sz_of hz, hi, k _ G H (Nx.refl w) (.str _)⟩
/-- one thing of a short list display -/
theorem atI_lt {α : Type} {xs : List α} {i : Int} (h0 : 0 ≤ i) (h1 : i < xs.length) : atI xs i = xs[i.toNat]? := by
  have e : i = (i.toNat : Nat) := by omega
  have hl : i.toNat < xs.length := by omega
  rw [e, Int.toNat_natCast, List.getElem?_eq_getElem hl]
  exact atI_nat (List.getElem?_eq_getElem hl)
end
def abc : Str := "abcdefghijklmnopqrstuvwxyz"
def nza : Str := "nzaybxcwdveuftgshriqjpkolm"
def lettersF (i : Int) : Str := if i % 2 = 0 then abc else nza
def nmF (z : Str) (k : Nat) : Str := ⟨#[(z.cps.toList[k]?).getD 0]⟩
def lenF (h : Int) : Int := if h % 8 / 3 = 0 then 1 + h / 8 % 6 else if h % 8 / 3 = 1 then 1 + h / 8 % 1000 else 1000
def byF (m : Int) : Option Int := if m / 30000 % 4 = 0 then some (m % 20) else if m / 30000 % 4 = 1 then none else if m / 30000 % 4 = 2 then some (m % 30000) else some 1000000
def wtF (m h : Int) : Int := if m / 720000 % 4 = 0 then m / 120000 % 6 else if m / 720000 % 4 = 1 then 0 else if m / 720000 % 4 = 2 then 1000 else h / 8000 % 1001
def tkF (ns : List Int) (first : Int) (k : Nat) : Tk := ⟨nmF (lettersF (numF ns (first + 42))) k, lenF (numF ns (first + 1 + (k : Nat))), "mill", false, 0, byF (numF ns (first + 60 + (k : Nat))), wtF (numF ns (first + 60 + (k : Nat))) (numF ns (first + 1 + (k : Nat)))⟩
def manyF (ns : List Int) (first : Int) : Nat := (1 + numF ns first % 5).toNat
def msF (i : Int) : List Str := if i % 3 = 0 then ["mill"] else if i % 3 = 1 then ["mill", "oven"] else ["oven", "mill", "saw"]
def bookF (ns : List Int) (first : Int) : Bk := ⟨msF (numF ns (first + 40)), decide (numF ns (first + 41) % 2 = 1), (List.range (manyF ns first)).map (tkF ns first), none, none⟩
theorem many_rng (ns : List Int) (first : Int) : 1 ≤ manyF ns first ∧ manyF ns first ≤ 5 := by
  unfold manyF
  have h1 : 0 ≤ numF ns first % 5 := Int.emod_nonneg _ (by decide)
  have h2 : numF ns first % 5 < 5 := Int.emod_lt_of_pos _ (by decide)
  omega
theorem many_eq (ns : List Int) (first : Int) : ((manyF ns first : Nat) : Int) = 1 + numF ns first % 5 := by
  unfold manyF
  have h1 : 0 ≤ numF ns first % 5 := Int.emod_nonneg _ (by decide)
  omega
/-- such script in, such book out -/
def spSingle (K : PySem.W.Frag) : Sp := fun vs H Q _ => ∃ (a : Addr) (first : Int) (ns : List Int) (G : Hp), vs = [.ref a, .int first, .int 5] ∧ Ex G H ∧ SqL K G a (ns.map V.int) ∧ ns.length ≤ 63 ∧ 0 ≤ first ∧ first ≤ 100 ∧ ∀ v G' H', Nx G H G' H' → DD G' v (bookF ns first).d → Q v H'
theorem letters_len (i : Int) : (lettersF i).length ≤ 26 ∧ (lettersF i).cps.toList.length = 26 := by
  unfold lettersF
  split <;> decide +kernel
section
variable {P : Program} {w : World} {K : PySem.W.Frag} {mg : Str → Option Value} {base : Heap}
theorem dv_modL {s : L2.St} {G0 : Hp} {ta : TE} {i j : Int} (h : EvD ta s G0 (.int i)) (hj : 0 < j) : EvD (tOp (rI (fun _ j => 0 < j) fun i j => .int (i % j)) ta (tC (.int j))) s G0 (.int (i % j)) := dv_opC h dv_int hj
theorem dv_divL {s : L2.St} {G0 : Hp} {ta : TE} {i j : Int} (h : EvD ta s G0 (.int i)) (hj : CDiv i j) : EvD (tOp (rI CDiv fun i j => .int (i / j)) ta (tC (.int j))) s G0 (.int (i / j)) := dv_opC h dv_int hj
theorem ok_law_single {f : Addr} {fd : FuncData} (F : Fun K "_law_single" "_law_single" s_law_single f fd) (T : Txt mg) (C_law_number : Cal P w K mg base 1 "_law_number" (spNum K)) : FnOk P w K mg base CX0 2 f fd ["_law_script", "_law_first", "_law_most"] (spSingle K) := by
  refine F.ok sc_law_single (fun vs H Q E h => ?_) fun cdv A outer s H vs Q E hr h => ?_
  · obtain ⟨a, first, ns, G, rfl, _⟩ := h
    rfl
  obtain ⟨a, first, ns, G, rfl, i, hs, hnl, hf0, hf1, q⟩ := h
  have S : SD G (start ["_law_script", "_law_first", "_law_most", "_law_many", "_law_letters", "_law_tasks", "_law_k", "_law_number_here", "_law_length", "_law_more", "_law_by", "_law_weight", "_law_name", "_law_machines", "_law_goods"] [.ref a, .int first, .int 5]) [some (rawD a), some (.int first), some (.int 5), none, none, none, none, none, none, none, none, none, none, none, none] := SD.start (.cons (.raw a) (.cons (.int _) (.one (.int _))))
  refine ⟨_, (pss_cons (ps_set (i := 3) sc_law_single.nd rfl (Or.inl rfl) (pe_op op_add pe_int (pe_op op_mod (pe_c C_law_number hr (by decide) (by rfl) (pa_cons (pv 0) (pa_cons (pv 1) pa_nil))) (pv 2))))
      (pss_cons (ps_set (i := 4) sc_law_single.nd rfl (Or.inl rfl) (pe_ix (r := rIxL K) ix_list (pe_lst (pa_cons pe_str (pa_cons pe_str pa_nil))) (pe_op op_mod (pe_c C_law_number hr (by decide) (by rfl) (pa_cons (pv 0) (pa_cons (pe_op op_add (pv 1) pe_int) pa_nil))) pe_int) (fun _ _ => rfl)))
      (pss_cons (ps_set (i := 5) sc_law_single.nd rfl (Or.inl rfl) (pe_lst pa_nil))
      (pss_cons (ps_for PassesOwn.never rfl (pi_range1 (by rfl) T.b_range (pa_cons (pv 3) pa_nil)) (pg_name (i := 6) sc_law_single.nd rfl (Or.inl rfl)) (pss_cons (ps_set (i := 7) sc_law_single.nd rfl (Or.inl rfl) (pe_c C_law_number hr (by decide) (by rfl) (pa_cons (pv 0) (pa_cons (pe_op op_add (pe_op op_add (pv 1) pe_int) (pv 6)) pa_nil))))
      (pss_cons (ps_set (i := 8) sc_law_single.nd rfl (Or.inl rfl) (pe_ix (r := rIxL K) ix_list (pe_lst (pa_cons (pe_op op_add pe_int (pe_op op_mod (pe_op op_fdiv (pv 7) pe_int) pe_int)) (pa_cons (pe_op op_add pe_int (pe_op op_mod (pe_op op_fdiv (pv 7) pe_int) pe_int)) (pa_cons pe_int pa_nil)))) (pe_op op_fdiv (pe_op op_mod (pv 7) pe_int) pe_int) (fun _ _ => rfl)))
      (pss_cons (ps_set (i := 9) sc_law_single.nd rfl (Or.inl rfl) (pe_c C_law_number hr (by decide) (by rfl) (pa_cons (pv 0) (pa_cons (pe_op op_add (pe_op op_add (pv 1) pe_int) (pv 6)) pa_nil))))
      (pss_cons (ps_set (i := 10) sc_law_single.nd rfl (Or.inl rfl) (pe_ix (r := rIxL K) ix_list (pe_lst (pa_cons (pe_op op_mod (pv 9) pe_int) (pa_cons pe_non (pa_cons (pe_op op_mod (pv 9) pe_int) (pa_cons pe_int pa_nil))))) (pe_op op_mod (pe_op op_fdiv (pv 9) pe_int) pe_int) (fun _ _ => rfl)))
      (pss_cons (ps_set (i := 11) sc_law_single.nd rfl (Or.inl rfl) (pe_ix (r := rIxL K) ix_list (pe_lst (pa_cons (pe_op op_mod (pe_op op_fdiv (pv 9) pe_int) pe_int) (pa_cons pe_int (pa_cons pe_int (pa_cons (pe_op op_mod (pe_op op_fdiv (pv 7) pe_int) pe_int) pa_nil))))) (pe_op op_mod (pe_op op_fdiv (pv 9) pe_int) pe_int) (fun _ _ => rfl)))
      (pss_cons (ps_set (i := 12) sc_law_single.nd rfl (Or.inl rfl) (pe_op op_mulS1 (pe_ix ix_str (pv 4) (pe_op op_mod (pv 6) pe_int) (fun _ _ => rfl)) (pe_op op_add pe_int (pe_op op_fdiv (pv 6) pe_int))))
      (pss_one (ps_expr (pe_bm PySem.F.plainAttrs_list PySem.F.slot_list_append PySem.F.type_list_append mt_append (pv 5) (pa_cons (pe_tupF (pa_cons (pv 12) (pa_cons (pv 8) (pa_cons pe_str (pa_cons (pe_tupF pa_nil) (pa_cons pe_int (pa_cons (pv 10) (pa_cons (pv 11) pa_nil)))))))) pa_nil)))))))))))
      (pss_cons (ps_set (i := 13) sc_law_single.nd rfl (Or.inl rfl) (pe_ix (r := rIxL K) ix_list (pe_lst (pa_cons (pe_tupF (pa_cons pe_str pa_nil)) (pa_cons (pe_tupF (pa_cons pe_str (pa_cons pe_str pa_nil))) (pa_cons (pe_tupF (pa_cons pe_str (pa_cons pe_str (pa_cons pe_str pa_nil)))) pa_nil)))) (pe_op op_mod (pe_c C_law_number hr (by decide) (by rfl) (pa_cons (pv 0) (pa_cons (pe_op op_add (pv 1) pe_int) pa_nil))) pe_int) (fun _ _ => rfl)))
      (pss_cons (ps_set (i := 14) sc_law_single.nd rfl (Or.inl rfl) (pe_ix (r := rIxL K) ix_list (pe_lst (pa_cons (pe_tupF pa_nil) (pa_cons (pe_tupF (pa_cons (pe_tupF (pa_cons pe_str (pa_cons pe_int pa_nil))) pa_nil)) pa_nil))) (pe_op op_mod (pe_c C_law_number hr (by decide) (by rfl) (pa_cons (pv 0) (pa_cons (pe_op op_add (pv 1) pe_int) pa_nil))) pe_int) (fun _ _ => rfl)))
      (pss_one (ps_ret (pe_tupF (pa_cons (pv 13) (pa_cons (pv 14) (pa_cons (pe_callTy (r := rTupQ K) cr_tuple (by rfl) T.b_tuple bt_tuple (pa_cons (pv 5) pa_nil)) (pa_cons (pe_tupF pa_nil) (pa_cons (pe_tupF pa_nil) pa_nil)))))))))))))), ?_⟩
  have hmr := many_rng ns first
  have hme := many_eq ns first
  have num : ∀ {s : L2.St} {G0 : Hp} {te : TE} {k : Int} {q : Sd} (S0 : SD G0 s (some (rawD a) :: q)), Ex G G0 → EvD te s G0 (.int k) → 0 ≤ k ∧ k ≤ 1000 → EvD (tCall (spNum K) [] E0 (tCons (tVar 0) (tCons te tNil))) s G0 (.int (numF ns k)) := fun S0 e h hk => dv_num (dv_var S0) h (ex_l e hs) hnl hk
  have dv8 : ∀ x : Int, CDiv x 8 := fun x => ⟨by decide, by decide⟩
  refine sq_set (d := .int (manyF ns first : Nat)) S i (dv_is (dv_opI dv_int (dv_opC (num S (Ex.refl _) (dv_var S) ⟨hf0, by omega⟩) (dv_var S) (by decide))) (congrArg PyData.int hme.symm)) fun s1 G1 H1 S1 n1 => ?_
  refine sq_set (d := .str (lettersF (numF ns (first + 42)))) S1 n1.i (dv_ixL (ds := [.str abc, .str nza]) (i := numF ns (first + 42) % 2) (dv_lst (ds_cons dv_str (ds_cons dv_str ds_nil)) (by show 2 ≤ 100000; decide)) (dv_modL (num S1 n1.g (dv_opI (dv_var S1) dv_int) (by omega)) (by decide)) ?_) fun s2 G2 H2 S2 n2 => ?_
  · have h1 := Int.emod_nonneg (numF ns (first + 42)) (by decide : (2 : Int) ≠ 0)
    have h2 := Int.emod_lt_of_pos (numF ns (first + 42)) (by decide : (0 : Int) < 2)
    rw [atI_lt h1 (by show _ < (2 : Int); exact h2)]
    unfold lettersF
    rcases (by omega : numF ns (first + 42) % 2 = 0 ∨ numF ns (first + 42) % 2 = 1) with e | e <;> rw [e] <;> rfl
  have n12 := n1.trans n2
  refine mq_new (i := 5) (ds := ((List.range 0).map (tkF ns first)).map Tk.d) (MSt.start S2 n12) rfl rfl (fun G0 S0 => ef_lst ds_nil (by show 0 ≤ 100000; decide)) fun s3 H3 hM => ?_
  refine mq_for (ds := intsD 0 ((manyF ns first : Nat) : Int).toNat) (js := [6]) (fun j q M => M = [(5, ((List.range j).map (tkF ns first)).map Tk.d)] ∧ ∃ a1 a2 a3 a4 a5 a6 a7, q = [some (rawD a), some (.int first), some (.int 5), some (.int (manyF ns first : Nat)), some (.str (lettersF (numF ns (first + 42)))), none, a1, a2, a3, a4, a5, a6, a7, none, none]) hM ⟨rfl, none, none, none, none, none, none, none, rfl⟩ (fun G0 S0 => ei_rng1 (ds_cons (dv_var S0) ds_nil) (by omega)) (fun j d q M hj hq => ?_) fun q M s' H' hq hM => ?_
  · obtain ⟨rfl, a1, a2, a3, a4, a5, a6, a7, rfl⟩ := hq
    have hjl : j < manyF ns first := by
      have := (List.getElem?_eq_some_iff.mp hj).1
      rw [intsD_len] at this
      omega
    rw [intsD_get (by omega)] at hj
    cases hj
    rw [Int.zero_add]
    refine ⟨rfl, _, tg_name, fun Gc Hc nc s4 H4 hM => ?_⟩
    have hp := numF_rng ns (first + 1 + (j : Nat))
    have hq := numF_rng ns (first + 60 + (j : Nat))
    generalize hh : numF ns (first + 1 + (j : Nat)) = h at hp
    generalize hm : numF ns (first + 60 + (j : Nat)) = m at hq
    refine MSt_nx (i := 7) (d := .int h) hM rfl (fun G0 e0 S0 => dv_is (num S0 (nc.g.trans e0) (dv_opI (dv_opI (dv_var S0) dv_int) (dv_var S0)) (by omega)) (congrArg PyData.int hh)) fun s5 H5 hM => ?_
    refine mq_set (i := 8) (d := .int (lenF h)) hM rfl (fun G0 S0 => dv_ixL (ds := [.int (1 + h / 8 % 6), .int (1 + h / 8 % 1000), .int 1000]) (dv_lst (ds_cons (dv_opI dv_int (dv_modL (dv_divL (dv_var S0) (dv8 _)) (by decide))) (ds_cons (dv_opI dv_int (dv_modL (dv_divL (dv_var S0) (dv8 _)) (by decide))) (ds_cons dv_int ds_nil))) (by show 3 ≤ 100000; decide)) (dv_divL (dv_modL (dv_var S0) (by decide)) ⟨by decide, by decide⟩) ?_) fun s6 H6 hM => ?_
    · rw [atI_lt (by omega) (by show _ < (3 : Int); omega)]
      unfold lenF
      rcases (by omega : h % 8 / 3 = 0 ∨ h % 8 / 3 = 1 ∨ h % 8 / 3 = 2) with e | e | e <;> rw [e] <;> rfl
    refine MSt_nx (i := 9) (d := .int m) hM rfl (fun G0 e0 S0 => dv_is (num S0 (nc.g.trans e0) (dv_opI (dv_opI (dv_var S0) dv_int) (dv_var S0)) (by omega)) (congrArg PyData.int hm)) fun s7 H7 hM => ?_
    refine mq_set (i := 10) (d := dueD (byF m)) hM rfl (fun G0 S0 => dv_ixL (ds := [.int (m % 20), .none, .int (m % 30000), .int 1000000]) (dv_lst (ds_cons (dv_modL (dv_var S0) (by decide)) (ds_cons dv_non (ds_cons (dv_modL (dv_var S0) (by decide)) (ds_cons dv_int ds_nil)))) (by show 4 ≤ 100000; decide)) (dv_modL (dv_divL (dv_var S0) ⟨by decide, by decide⟩) (by decide)) ?_) fun s8 H8 hM => ?_
    · rw [atI_lt (by omega) (by show _ < (4 : Int); omega)]
      unfold byF
      rcases (by omega : m / 30000 % 4 = 0 ∨ m / 30000 % 4 = 1 ∨ m / 30000 % 4 = 2 ∨ m / 30000 % 4 = 3) with e | e | e | e <;> rw [e] <;> rfl
    refine mq_set (i := 11) (d := .int (wtF m h)) hM rfl (fun G0 S0 => dv_ixL (ds := [.int (m / 120000 % 6), .int 0, .int 1000, .int (h / 8000 % 1001)]) (dv_lst (ds_cons (dv_modL (dv_divL (dv_var S0) ⟨by decide, by decide⟩) (by decide)) (ds_cons dv_int (ds_cons dv_int (ds_cons (dv_modL (dv_divL (dv_var S0) ⟨by decide, by decide⟩) (by decide)) ds_nil)))) (by show 4 ≤ 100000; decide)) (dv_modL (dv_divL (dv_var S0) ⟨by decide, by decide⟩) (by decide)) ?_) fun s9 H9 hM => ?_
    · rw [atI_lt (by omega) (by show _ < (4 : Int); omega)]
      unfold wtF
      rcases (by omega : m / 720000 % 4 = 0 ∨ m / 720000 % 4 = 1 ∨ m / 720000 % 4 = 2 ∨ m / 720000 % 4 = 3) with e | e | e | e <;> rw [e] <;> rfl
    have hlt := letters_len (numF ns (first + 42))
    refine mq_set (i := 12) (d := .str (nmF (lettersF (numF ns (first + 42))) j)) hM rfl (fun G0 S0 => dv_mulS1 (dv_ixS (c := ((lettersF (numF ns (first + 42))).cps.toList[j]?).getD 0) (dv_var S0) (dv_modL (dv_var S0) (by decide)) (by omega) ?_) (dv_is (dv_opI dv_int (dv_divL (dv_var S0) ⟨by decide, by decide⟩)) (congrArg PyData.int (by omega)))) fun s10 H10 hM => ?_
    · rw [show ((j : Nat) : Int) % 26 = (j : Nat) by omega]
      refine atI_nat ?_
      rw [List.getElem?_eq_getElem (by omega)]
      rfl
    refine m_appendG (j := 0) (i := 5) (d := (tkF ns first j).d) hM rfl (fun G0 S0 => ?_) ?_ fun H11 hM => ?_
    · unfold tkF Tk.d
      rw [hh, hm]
      exact dv_tup (ds_cons (dv_var S0) (ds_cons (dv_var S0) (ds_cons dv_str (ds_cons (dv_tup ds_nil (by show 0 ≤ 100000; decide)) (ds_cons dv_int (ds_cons (dv_var S0) (ds_cons (dv_var S0) ds_nil))))))) (by show 7 ≤ 100000; decide)
    · rw [List.length_map, List.length_map, List.length_range]; omega
    · refine ⟨_, _, ⟨?_, _, _, _, _, _, _, _, rfl⟩, hM⟩
      rw [List.range_succ, List.map_append, List.map_append]
      rfl
  · obtain ⟨rfl, a1, a2, a3, a4, a5, a6, a7, rfl⟩ := hq
    rw [intsD_len, Int.toNat_natCast] at hM
    obtain ⟨G4, S4, n4⟩ := hM.freeze
    refine sq_set (d := .tuple ((msF (numF ns (first + 40))).map .str)) S4 n4.i (dv_ixL (ds := [.tuple [.str "mill"], .tuple [.str "mill", .str "oven"], .tuple [.str "oven", .str "mill", .str "saw"]]) (i := numF ns (first + 40) % 3) (dv_lst (ds_cons (dv_tup (ds_cons dv_str ds_nil) (by show 1 ≤ 100000; decide)) (ds_cons (dv_tup (ds_cons dv_str (ds_cons dv_str ds_nil)) (by show 2 ≤ 100000; decide)) (ds_cons (dv_tup (ds_cons dv_str (ds_cons dv_str (ds_cons dv_str ds_nil))) (by show 3 ≤ 100000; decide)) ds_nil))) (by show 3 ≤ 100000; decide)) (dv_modL (num S4 n4.g (dv_opI (dv_var S4) dv_int) (by omega)) (by decide)) ?_) fun s5 G5 H5 S5 n5 => ?_
    · rw [atI_lt (by omega) (by show _ < (3 : Int); omega)]
      unfold msF
      rcases (by omega : numF ns (first + 40) % 3 = 0 ∨ numF ns (first + 40) % 3 = 1 ∨ numF ns (first + 40) % 3 = 2) with e | e | e <;> rw [e] <;> rfl
    have n45 := n4.trans n5
    refine sq_set (d := .tuple ((goodsD (decide (numF ns (first + 41) % 2 = 1))).map pairD)) S5 n5.i (dv_ixL (ds := [.tuple [], .tuple [.tuple [.str "hand", .int 2]]]) (i := numF ns (first + 41) % 2) (dv_lst (ds_cons (dv_tup ds_nil) (ds_cons (dv_tup (ds_cons (dv_tup (ds_cons dv_str (ds_cons dv_int ds_nil)) (by show 2 ≤ 100000; decide)) ds_nil) (by show 1 ≤ 100000; decide)) ds_nil)) (by show 2 ≤ 100000; decide)) (dv_modL (num S5 n45.g (dv_opI (dv_var S5) dv_int) (by omega)) (by decide)) ?_) fun s6 G6 H6 S6 n6 => ?_
    · rw [atI_lt (by omega) (by show _ < (2 : Int); omega)]
      rcases (by omega : numF ns (first + 41) % 2 = 0 ∨ numF ns (first + 41) % 2 = 1) with e | e <;> rw [e] <;> rfl
    refine sd_ret n6.i (d := (bookF ns first).d) (dv_tup (ds_cons (dv_var S6) (ds_cons (dv_var S6) (ds_cons (dv_tupleL (ds := (bookF ns first).ts.map Tk.d) (dv_var S6) ?_) (ds_cons (dv_tup ds_nil (by show 0 ≤ 100000; decide)) (ds_cons (dv_tup ds_nil (by show 0 ≤ 100000; decide)) ds_nil))))) (by show 5 ≤ 100000; decide)) fun v G7 H7 n7 hv => q v G7 H7 ((n45.trans n6).trans n7) hv
    unfold bookF
    obtain ⟨m, hm⟩ : ∃ m, manyF ns first = m + 1 := ⟨manyF ns first - 1, by omega⟩
    rw [hm, List.range_succ_eq_map]
    rfl
end
end K9

set_option Elab.async false
set_option linter.all false
set_option maxRecDepth 100000
set_option maxHeartbeats 4000000
/-! Which books the law makes: they have a book's form, or none. -/
namespace K9
open PySem PySem.Spec PyProof.Rows L2 Evl
/-! ### of a modest size -/
def strOk (x : Str) : Bool := PyData.canLay0 (.str x) && decide (x.length ≤ 1000)
theorem okN_str {n : Nat} {x : Str} (h : strOk x = true) : okN n (.str x) = true := by cases n <;> exact h
theorem okN_int {n : Nat} {i : Int} : okN n (.int i) = true := by cases n <;> rfl
theorem okN_bool {n : Nat} {i : Bool} : okN n (.bool i) = true := by cases n <;> rfl
theorem okN_none {n : Nat} : okN n .none = true := by cases n <;> rfl
theorem okN_due {n : Nat} {o : Option Int} : okN n (dueD o) = true := by cases o; exact okN_none; exact okN_int
theorem okN_tupI {n : Nat} {xs : List PyData} (hl : xs.length ≤ 1000) (h : ∀ x ∈ xs, okN n x = true) : okN (n + 1) (.tuple xs) = true := by
  simp only [okN, Bool.and_eq_true, decide_eq_true_eq, List.all_eq_true]
  exact ⟨hl, h⟩
theorem okN_lstI {n : Nat} {xs : List PyData} (hl : xs.length ≤ 1000) (h : ∀ x ∈ xs, okN n x = true) : okN (n + 1) (.list xs) = true := by
  simp only [okN, Bool.and_eq_true, decide_eq_true_eq, List.all_eq_true]
  exact ⟨hl, h⟩
theorem okN_needs (n : Nat) (b : Bool) : okN (n + 2) (.tuple ((needsD b).map pairD)) = true := by
  unfold needsD
  cases b with
  | false => exact okN_tupI (by decide) fun x hx => by cases hx
  | true =>
    refine okN_tupI (by decide) fun x hx => ?_
    · rw [if_pos rfl, List.map_cons, List.map_nil, List.mem_singleton] at hx
      subst hx
      refine okN_tupI (by decide) fun y hy => ?_
      simp only [List.mem_cons, List.not_mem_nil, or_false] at hy
      rcases hy with rfl | rfl
      · exact okN_str (by decide +kernel)
      · exact okN_int
theorem okN_goods (n : Nat) (b : Bool) : okN (n + 2) (.tuple ((goodsD b).map pairD)) = true := by
  unfold goodsD
  cases b with
  | false => exact okN_tupI (by decide) fun x hx => by cases hx
  | true =>
    refine okN_tupI (by decide) fun x hx => ?_
    · rw [if_pos rfl, List.map_cons, List.map_nil, List.mem_singleton] at hx
      subst hx
      refine okN_tupI (by decide) fun y hy => ?_
      simp only [List.mem_cons, List.not_mem_nil, or_false] at hy
      rcases hy with rfl | rfl
      · exact okN_str (by decide +kernel)
      · exact okN_int
/-- a task that is right by itself -/
structure TkOk (t : Tk) : Prop where
  nm : isName (.str t.nm) = true
  nok : strOk t.nm = true
  len : 1 ≤ t.len ∧ t.len ≤ 1000
  mach : t.mach = "" ∨ t.mach = "mill" ∨ t.mach = "oven"
  first : 0 ≤ t.first ∧ t.first ≤ 1000000
  due : ∀ d, t.due = some d → 0 ≤ d ∧ d ≤ 1000000
  wt : 0 ≤ t.wt ∧ t.wt ≤ 1000
theorem TkOk.mok {t : Tk} (h : TkOk t) : strOk t.mach = true := by
  rcases h.mach with e | e | e <;> rw [e] <;> decide +kernel
theorem TkOk.okN {t : Tk} (h : TkOk t) (n : Nat) : okN (n + 3) t.d = true := by
  refine okN_tupI (by show 7 ≤ 1000; decide) fun x hx => ?_
  simp only [List.mem_cons, List.not_mem_nil, or_false] at hx
  rcases hx with rfl | rfl | rfl | rfl | rfl | rfl | rfl
  · exact okN_str h.nok
  · exact okN_int
  · exact okN_str h.mok
  · exact okN_needs n _
  · exact okN_int
  · exact okN_due
  · exact okN_int
theorem TkOk.task {t : Tk} (h : TkOk t) : isTask t.d = true := by
  have h1 : isAmong 1 1000 (.int t.len) = true := among_true h.len
  have h2 : isAmong 0 1000000 (.int t.first) = true := among_true h.first
  have h3 : isAmong 0 1000 (.int t.wt) = true := among_true h.wt
  have h4 : (!PyData.eqv (.str t.mach) (.str "") && !isName (.str t.mach)) = false := by
    rcases h.mach with e | e | e <;> rw [e] <;> decide +kernel
  have h5 : areCounts 1000000 (.tuple ((needsD t.needs).map pairD)) = true := by
    unfold needsD
    cases t.needs <;> decide +kernel
  have h6 : (isNone (dueD t.due) || isAmong 0 1000000 (dueD t.due)) = true := by
    cases e : t.due with
    | none => rfl
    | some d =>
      show (false || isAmong 0 1000000 (.int d)) = true
      rw [among_true (h.due d e)]
      rfl
  show ((isName (.str t.nm) && (isAmong 1 1000 (.int t.len) && !(!PyData.eqv (.str t.mach) (.str "") && !isName (.str t.mach)))) && ((areCounts 1000000 (.tuple ((needsD t.needs).map pairD)) && isAmong 0 1000000 (.int t.first)) && ((isNone (dueD t.due) || isAmong 0 1000000 (dueD t.due)) && isAmong 0 1000 (.int t.wt)))) = true
  rw [h.nm, h1, h2, h3, h4, h5, h6]
  rfl
structure Fit (b : Bk) : Prop where
  ms : b.ms = [("mill" : Str)] ∨ b.ms = [("mill" : Str), "oven"] ∨ b.ms = [("oven" : Str), "mill", "saw"]
  ne : b.ts ≠ []
  tl : b.ts.length ≤ 5
  nd : (b.ts.map Tk.nm).Nodup
  task : ∀ t ∈ b.ts, TkOk t ∧ (t.mach = "" ∨ t.mach ∈ b.ms) ∧ (t.needs = true → b.hand = true)
  wait : ∀ p, b.wait = some p → p.1 < b.ts.length ∧ p.2 < b.ts.length ∧ p.1 ≠ p.2
  fixed : ∀ p, b.fixed = some p → p.2 ≤ 1000000 ∧ 0 ≤ p.2 ∧ ∃ t, b.ts[p.1]? = some t ∧ t.first ≤ p.2
theorem Fit.msOk {b : Bk} (h : Fit b) : b.ms.Nodup ∧ b.ms.length ≤ 6 ∧ areNames (.tuple (b.ms.map .str)) = true ∧ ∀ x ∈ b.ms, strOk x = true := by
  rcases h.ms with e | e | e <;> rw [e] <;> decide +kernel
theorem Fit.fine {b : Bk} (h : Fit b) : Fine b.d := by
  refine ⟨5, by decide, okN_tupI (n := 4) (by show 5 ≤ 1000; decide) fun x hx => ?_⟩
  have tl := h.tl
  simp only [List.mem_cons, List.not_mem_nil, or_false] at hx
  rcases hx with rfl | rfl | rfl | rfl | rfl
  · refine okN_tupI (by rw [List.length_map]; have := h.msOk.2.1; omega) fun y hy => ?_
    obtain ⟨z, hz, rfl⟩ := List.mem_map.mp hy
    exact okN_str (h.msOk.2.2.2 z hz)
  · exact okN_goods 2 _
  · refine okN_tupI (by rw [List.length_map]; omega) fun y hy => ?_
    obtain ⟨t, ht, rfl⟩ := List.mem_map.mp hy
    exact (h.task t ht).1.okN 0
  · refine okN_tupI (by rw [List.length_map]; unfold Bk.waits; cases b.wait <;> simp) fun y hy => ?_
    obtain ⟨p, _, rfl⟩ := List.mem_map.mp hy
    refine okN_tupI (by show 3 ≤ 1000; decide) fun z hz => ?_
    simp only [List.mem_cons, List.not_mem_nil, or_false] at hz
    rcases hz with rfl | rfl | rfl <;> exact okN_int
  · refine okN_tupI (by rw [List.length_map]; unfold Bk.fixs; cases b.fixed <;> simp) fun y hy => ?_
    obtain ⟨p, _, rfl⟩ := List.mem_map.mp hy
    refine okN_tupI (by show 2 ≤ 1000; decide) fun z hz => ?_
    simp only [List.mem_cons, List.not_mem_nil, or_false] at hz
    rcases hz with rfl | rfl <;> exact okN_int
theorem tuples_ok {most size : Int} {xs : List PyData} (hl : (xs.length : Int) ≤ most) (h : ∀ x ∈ xs, tupOf size x = true) : areTuples most size (.tuple xs) = true := by
  show (!decide (most < (xs.length : Int)) && xs.all (tupOf size)) = true
  rw [decide_eq_false (by omega), List.all_eq_true.mpr h]
  rfl
theorem Fit.form {b : Bk} (h : Fit b) : hasForm b.d = true := by
  have tl := h.tl
  have e1 := h.msOk.2.2.1
  have e2 : areCounts 4 (.tuple ((goodsD b.hand).map pairD)) = true := by unfold goodsD; cases b.hand <;> decide +kernel
  have e3 : areTuples 30 7 (.tuple (b.ts.map Tk.d)) = true := tuples_ok (by rw [List.length_map]; omega) fun x hx => by
    obtain ⟨t, _, rfl⟩ := List.mem_map.mp hx
    show (true && PyData.eqv (.int 7) (.int 7)) = true
    rw [eqv_int]
    rfl
  have e4 : PyData.eqv (.tuple (b.ts.map Tk.d)) (.tuple []) = false := by
    cases e : b.ts with
    | nil => exact absurd e h.ne
    | cons t r => simp [PyData.eqv, PyData.eqvAll]
  have e5 : (b.ts.map Tk.d).all isTask = true := List.all_eq_true.mpr fun x hx => by
    obtain ⟨t, ht, rfl⟩ := List.mem_map.mp hx
    exact (h.task t ht).1.task
  have e6 : areTuples 60 3 (.tuple (b.waits.map waitD)) = true := tuples_ok (by rw [List.length_map]; unfold Bk.waits; cases b.wait <;> simp) fun x hx => by
    obtain ⟨t, _, rfl⟩ := List.mem_map.mp hx
    show (true && PyData.eqv (.int 3) (.int 3)) = true
    rw [eqv_int]
    rfl
  have e7 : (b.waits.map waitD).all isWait = true := List.all_eq_true.mpr fun x hx => by
    obtain ⟨p, hp, rfl⟩ := List.mem_map.mp hx
    obtain ⟨p1, p2, p3⟩ := h.wait p (by unfold Bk.waits at hp; exact Option.mem_toList.mp hp)
    show ((isAmong 0 1000000 (.int (p.1 : Nat)) && (isAmong 0 1000000 (.int (p.2 : Nat)) && isAmong 0 1000000 (.int 0))) && (!PyData.eqv (.int (p.1 : Nat)) (.int (p.2 : Nat)) && decide ((0 : Int) ≤ 1000))) = true
    rw [among_true (by omega), among_true (by omega), among_true (by omega), eqv_int, show (((p.1 : Nat) : Int) == ((p.2 : Nat) : Int)) = false by rw [beq_eq_false_iff_ne]; omega]
    rfl
  have e8 : areTuples 30 2 (.tuple (b.fixs.map fixD)) = true := tuples_ok (by rw [List.length_map]; unfold Bk.fixs; cases b.fixed <;> simp) fun x hx => by
    obtain ⟨t, _, rfl⟩ := List.mem_map.mp hx
    show (true && PyData.eqv (.int 2) (.int 2)) = true
    rw [eqv_int]
    rfl
  have e9 : (b.fixs.map fixD).all isFix = true := List.all_eq_true.mpr fun x hx => by
    obtain ⟨p, hp, rfl⟩ := List.mem_map.mp hx
    obtain ⟨p1, p2, t, ht, _⟩ := h.fixed p (by unfold Bk.fixs at hp; exact Option.mem_toList.mp hp)
    have hl := (List.getElem?_eq_some_iff.mp ht).1
    show (isAmong 0 1000000 (.int (p.1 : Nat)) && isAmong 0 1000000 (.int p.2)) = true
    rw [among_true (by omega), among_true ⟨p2, p1⟩]
    rfl
  show ((areNames (.tuple (b.ms.map .str)) && (areCounts 4 (.tuple ((goodsD b.hand).map pairD)) && areTuples 30 7 (.tuple (b.ts.map Tk.d)))) && ((!PyData.eqv (.tuple (b.ts.map Tk.d)) (.tuple []) && ((b.ts.map Tk.d).all isTask && areTuples 60 3 (.tuple (b.waits.map waitD)))) && (((b.waits.map waitD).all isWait && areTuples 30 2 (.tuple (b.fixs.map fixD))) && (b.fixs.map fixD).all isFix))) = true
  rw [e1, e2, e3, e4, e5, e6, e7, e8, e9]
  rfl
theorem Fit.good {b : Bk} (h : Fit b) : Good b where
  ms := h.msOk.1
  ml := h.msOk.2.1
  nd := h.nd
  ne := h.ne
  tl := h.tl
  mach := fun t ht => (h.task t ht).2.1
  need := fun t ht => (h.task t ht).2.2
  wait := h.wait
  fixed := fun p hp => (h.fixed p hp).2.2
  form := h.form
  fine := h.fine
/-! ### the law's single book -/
structure Base (b : Bk) : Prop where
  fit : Fit b
  one : ∀ t ∈ b.ts, t.mach = "mill" ∧ t.needs = false ∧ t.first = 0
  wait : b.wait = none
  fixed : b.fixed = none
theorem letters_two (i : Int) : lettersF i = abc ∨ lettersF i = nza := by
  unfold lettersF
  split
  · exact .inl rfl
  · exact .inr rfl
theorem nm_ok (i : Int) {k : Nat} (hk : k < 5) : isName (.str (nmF (lettersF i) k)) = true ∧ strOk (nmF (lettersF i) k) = true := by
  rcases letters_two i with e | e <;> rw [e] <;> revert k <;> decide +kernel
theorem nm_nd (i : Int) : ((List.range 5).map (nmF (lettersF i))).Nodup := by
  rcases letters_two i with e | e <;> rw [e] <;> decide +kernel
theorem base_ok (ns : List Int) (first : Int) : Base (bookF ns first) := by
  have hm := many_rng ns first
  have htk : ∀ t ∈ (bookF ns first).ts, ∃ k, k < 5 ∧ t = tkF ns first k := fun t ht => by
    obtain ⟨k, hk, rfl⟩ := List.mem_map.mp ht
    exact ⟨k, by have := List.mem_range.mp hk; omega, rfl⟩
  refine ⟨⟨?_, ?_, ?_, ?_, fun t ht => ?_, (fun p hp => by cases hp), (fun p hp => by cases hp)⟩, fun t ht => ?_, rfl, rfl⟩
  · unfold bookF msF
    show (if _ then _ else _) = _ ∨ (if _ then _ else _) = _ ∨ (if _ then _ else _) = _
    split
    · exact .inl rfl
    · split
      · exact .inr (.inl rfl)
      · exact .inr (.inr rfl)
  · intro z
    have := congrArg List.length z
    unfold bookF at this
    rw [List.length_map, List.length_range] at this
    simp at this
    omega
  · unfold bookF
    rw [List.length_map, List.length_range]
    omega
  · have e : (bookF ns first).ts.map Tk.nm = (List.range (manyF ns first)).map (nmF (lettersF (numF ns (first + 42)))) := by
      unfold bookF
      rw [List.map_map]
      rfl
    rw [e]
    refine (nm_nd (numF ns (first + 42))).sublist (List.Sublist.map _ ?_)
    exact List.range_sublist.mpr hm.2
  · obtain ⟨k, hk, rfl⟩ := htk t ht
    have hp := numF_rng ns (first + 1 + (k : Nat))
    have hq := numF_rng ns (first + 60 + (k : Nat))
    unfold tkF
    generalize numF ns (first + 1 + (k : Nat)) = h at hp
    generalize numF ns (first + 60 + (k : Nat)) = m at hq
    have hn := nm_ok (numF ns (first + 42)) hk
    refine ⟨⟨hn.1, hn.2, ?_, .inr (.inl rfl), ⟨(by decide : (0 : Int) ≤ 0), (by decide : (0 : Int) ≤ 1000000)⟩, fun d hd => ?_, ?_⟩, .inr ?_, fun z => by cases z⟩
    · show 1 ≤ lenF h ∧ lenF h ≤ 1000
      unfold lenF
      split
      · omega
      · split <;> omega
    · have hd : byF m = some d := hd
      unfold byF at hd
      split at hd
      · cases hd
        omega
      · split at hd
        · cases hd
        · split at hd
          · cases hd
            omega
          · cases hd
            omega
    · show 0 ≤ wtF m h ∧ wtF m h ≤ 1000
      unfold wtF
      split
      · omega
      · split
        · omega
        · split
          · omega
          · omega
    · show ("mill" : Str) ∈ msF (numF ns (first + 40))
      unfold msF
      split
      · decide
      · split <;> decide
  · obtain ⟨k, hk, rfl⟩ := htk t ht
    exact ⟨rfl, rfl, rfl⟩
theorem base_single {b : Bk} (h : Base b) : isSingle b = true := by
  unfold isSingle
  rw [h.wait, h.fixed, Bool.and_eq_true]
  refine ⟨List.all_eq_true.mpr fun t ht => ?_, rfl⟩
  obtain ⟨e1, e2, e3⟩ := h.one t ht
  have em : b.mach = "mill" := by
    unfold Bk.mach
    cases e : b.ts with
    | nil => exact absurd e h.fit.ne
    | cons a r => exact (h.one a (by rw [e]; exact List.mem_cons_self)).1
  unfold badT
  rw [e1, e2, e3, em]
  decide +kernel
end K9

set_option Elab.async false
set_option linter.all false
set_option maxRecDepth 100000
set_option maxHeartbeats 4000000
/-! The law's bent books. -/
namespace K9
open PySem PySem.Spec PyProof.Rows L2 Evl
def RB (d : PyData) : Prop := Fine d ∧ (hasForm d = false ∨ ∃ b : Bk, d = b.d ∧ Good b)
theorem gds_cat {A B : List PyData} {x : PyData} (h : ∀ a b, x ≠ .tuple [.str a, .int b]) : gdsLike (A ++ [x] ++ B) = false := by
  cases A with
  | nil =>
    cases B with
    | nil =>
      show gdsLike [x] = false
      unfold gdsLike
      split
      · rename_i e
        cases e
      · rename_i a b e
        exact absurd (List.cons.inj e).1 (h a b)
      · rfl
    | cons c r => unfold gdsLike; split <;> first | rfl | (rename_i e; simp at e)
  | cons a r =>
    cases r with
    | nil => unfold gdsLike; split <;> first | rfl | (rename_i e; simp at e)
    | cons c r => unfold gdsLike; split <;> first | rfl | (rename_i e; simp at e)
theorem gds_two (x y : PyData) (r : List PyData) : gdsLike (x :: y :: r) = false := by
  unfold gdsLike
  split
  · rename_i e
    cases e
  · rename_i e
    simp at e
  · rfl
theorem set_data {ts : List Tk} {k : Nat} {t t' : Tk} (h : ts[k]? = some t) : (ts.map Tk.d).take k ++ [t'.d] ++ (ts.map Tk.d).drop (k + 1) = (ts.set k t').map Tk.d := by
  have hl := (List.getElem?_eq_some_iff.mp h).1
  rw [List.set_eq_take_append_cons_drop, if_pos hl, List.map_append, List.map_cons, List.map_take, List.map_drop, List.append_assoc]
  rfl
theorem bent_fit {b : Bk} (h : Base b) {k : Nat} {t t' : Tk} (ht : b.ts[k]? = some t) (hn : t'.nm = t.nm) (ok : TkOk t') {w : Option (Nat × Nat)} {f : Option (Nat × Int)} (hw : ∀ p, w = some p → p.1 < b.ts.length ∧ p.2 < b.ts.length ∧ p.1 ≠ p.2)
    (hf : ∀ p, f = some p → p.2 ≤ 1000000 ∧ 0 ≤ p.2 ∧ ∃ t2, (b.ts.set k t')[p.1]? = some t2 ∧ t2.first ≤ p.2) : Fit ⟨["mill", "oven"], true, b.ts.set k t', w, f⟩ where
  ms := .inr (.inl rfl)
  ne := fun z => h.fit.ne (List.length_eq_zero_iff.mp (by rw [← List.length_set (i := k) (a := t'), show b.ts.set k t' = [] from z]; rfl))
  tl := by
    show (b.ts.set k t').length ≤ 5
    rw [List.length_set]
    exact h.fit.tl
  nd := by
    show ((b.ts.set k t').map Tk.nm).Nodup
    rw [List.map_set, hn]
    have e : (b.ts.map Tk.nm).set k t.nm = b.ts.map Tk.nm := by
      apply List.ext_getElem?
      intro i
      rw [List.getElem?_set]
      split
      · rename_i e
        subst e
        split
        · rw [List.getElem?_map, ht]
          rfl
        · rename_i hl
          rw [List.getElem?_eq_none (by omega)]
      · rfl
    rw [e]
    exact h.fit.nd
  task := fun x hx => by
    rcases List.mem_or_eq_of_mem_set hx with z | z
    · have := h.fit.task x z
      refine ⟨this.1, ?_, fun _ => rfl⟩
      rw [(h.one x z).1]
      exact .inr (by show ("mill" : Str) ∈ [("mill" : Str), "oven"]; decide)
    · subst z
      refine ⟨ok, ?_, fun _ => rfl⟩
      rcases ok.mach with e | e | e
      · exact .inl e
      · rw [e]
        exact .inr (by show ("mill" : Str) ∈ [("mill" : Str), "oven"]; decide)
      · rw [e]
        exact .inr (by show ("oven" : Str) ∈ [("mill" : Str), "oven"]; decide)
  wait := fun p hp => by
    show p.1 < (b.ts.set k t').length ∧ p.2 < (b.ts.set k t').length ∧ p.1 ≠ p.2
    rw [List.length_set]
    exact hw p hp
  fixed := hf
/-- a thing among the tasks that is none -/
theorem form_bad {ms gs ws fs x : PyData} {tl : List PyData} (hx : x ∈ tl) (h : (tupOf 7 x && isTask x) = false) : hasForm (.tuple [ms, gs, .tuple tl, ws, fs]) = false := by
  refine Bool.eq_false_iff.mpr fun z => ?_
  have z2 : ((areNames ms && (areCounts 4 gs && areTuples 30 7 (.tuple tl))) && ((!PyData.eqv (.tuple tl) (.tuple []) && (tl.all isTask && areTuples 60 3 ws)) && (((kids ws).all isWait && areTuples 30 2 fs) && (kids fs).all isFix))) = true := z
  simp only [Bool.and_eq_true] at z2
  have h1 := z2.1.2.2
  have h2 := z2.2.1.2.1
  unfold areTuples at h1
  rw [Bool.and_eq_true] at h1
  rw [List.all_eq_true.mp h1.2 x hx, List.all_eq_true.mp h2 x hx] at h
  cases h
theorem tup_size {xs : List PyData} (h : xs.length ≠ 7) : tupOf 7 (.tuple xs) = false := by
  show (true && PyData.eqv (.int (xs.length : Nat)) (.int 7)) = false
  rw [eqv_int, Bool.true_and, beq_eq_false_iff_ne]
  omega
theorem fine_tup {xs : List PyData} {n : Nat} (hn : n ≤ 7) (hl : xs.length ≤ 1000) (h : ∀ x ∈ xs, okN n x = true) : Fine (.tuple xs) := ⟨n + 1, by omega, okN_tupI hl h⟩
/-- the pieces of a bent book are of a modest size -/
theorem bent_fine {b : Bk} (h : Base b) {k : Nat} {x wd fd : PyData} (hx : okN 3 x = true) (hw : okN 4 wd = true) (hf : okN 4 fd = true) : Fine (.tuple [.tuple [.str "mill", .str "oven"], .tuple [.tuple [.str "hand", .int 2]], .tuple ((b.ts.map Tk.d).take k ++ [x] ++ (b.ts.map Tk.d).drop (k + 1)), wd, fd]) := by
  have tl := h.fit.tl
  have hts : ∀ y ∈ b.ts.map Tk.d, okN 3 y = true := fun y hy => by
    obtain ⟨t, ht, rfl⟩ := List.mem_map.mp hy
    exact (h.fit.task t ht).1.okN 0
  refine fine_tup (n := 4) (by decide) (by show 5 ≤ 1000; decide) fun y hy => ?_
  simp only [List.mem_cons, List.not_mem_nil, or_false] at hy
  rcases hy with rfl | rfl | rfl | rfl | rfl
  · decide +kernel
  · decide +kernel
  · refine okN_tupI ?_ fun z hz => ?_
    · simp only [List.length_append, List.length_take, List.length_drop, List.length_map, List.length_singleton]
      omega
    · rw [List.mem_append, List.mem_append, List.mem_singleton] at hz
      rcases hz with (hz | hz) | hz
      · exact hts z (List.mem_of_mem_take hz)
      · subst hz
        exact hx
      · exact hts z (List.mem_of_mem_drop hz)
  · exact hw
  · exact hf
theorem tk_mach {t : Tk} (h : TkOk t) {m : Str} (hm : m = "" ∨ m = "mill" ∨ m = "oven") : TkOk { t with mach := m } := ⟨h.nm, h.nok, h.len, hm, h.first, h.due, h.wt⟩
theorem tk_needs {t : Tk} (h : TkOk t) : TkOk { t with needs := true } := ⟨h.nm, h.nok, h.len, h.mach, h.first, h.due, h.wt⟩
theorem tk_first {t : Tk} (h : TkOk t) {i : Int} (hi : 0 ≤ i ∧ i ≤ 1000000) : TkOk { t with first := i } := ⟨h.nm, h.nok, h.len, h.mach, hi, h.due, h.wt⟩
abbrev PBent : List PyData → Prop := fun ds => ∃ (b : Bk) (n : Int), ds = [b.d, .int n] ∧ Base b ∧ 0 ≤ n ∧ n < 2147483629
section
variable {P : Program} {w : World} {K : PySem.W.Frag} {mg : Str → Option Value} {base : Heap}
theorem ev_const {te : TE} {s : L2.St} {G : Hp} {d : PyData} (h : EvD te s G d) : EvD te s G d := h
set_option maxHeartbeats 8000000 in
theorem ok_law_bent {f : Addr} {fd : FuncData} (F : Fun K "_law_bent" "_law_bent" s_law_bent f fd) (T : Txt mg) : FnOk P w K mg base CX0 1 f fd ["_law_book", "_law_number_here"] (SpN 2 PBent fun _ d => RB d) := by
  refine okN' F sc_law_bent rfl fun cdv A outer s G H vs ds Q E hr hR S i k => ?_
  obtain ⟨b, n, rfl, hb, hn0, hn1⟩ := hR
  refine ⟨_, (pss_cons (ps_asg (pv 0) (pg_tup rfl (pgs_cons (pg_name (i := 2) sc_law_bent.nd rfl (Or.inl rfl)) (pgs_cons (pg_name (i := 3) sc_law_bent.nd rfl (Or.inl rfl)) (pgs_cons (pg_name (i := 4) sc_law_bent.nd rfl (Or.inl rfl)) (pgs_cons (pg_name (i := 5) sc_law_bent.nd rfl (Or.inl rfl)) (pgs_cons (pg_name (i := 6) sc_law_bent.nd rfl (Or.inl rfl)) pgs_nil)))))))
      (pss_cons (ps_set (i := 7) sc_law_bent.nd rfl (Or.inl rfl) (pe_op op_mod (pe_op op_fdiv (pv 1) pe_int) (pe_callB (r := rLenQ K) cr_len (by rfl) T.b_len bt_len (pa_cons (pv 4) pa_nil))))
      (pss_cons (ps_set (i := 8) sc_law_bent.nd rfl (Or.inl rfl) (pe_ix (r := rIxT K) ix_tup (pv 4) (pv 7) (fun _ _ => rfl)))
      (pss_cons (ps_set (i := 9) sc_law_bent.nd rfl (Or.inl rfl) (pe_op op_mod (pv 1) pe_int))
      (pss_cons (ps_set (i := 3) sc_law_bent.nd rfl (Or.inl rfl) (pe_tupF (pa_cons (pe_tupF (pa_cons pe_str (pa_cons pe_int pa_nil))) pa_nil)))
      (pss_cons (ps_set (i := 2) sc_law_bent.nd rfl (Or.inl rfl) (pe_tupF (pa_cons pe_str (pa_cons pe_str pa_nil))))
      (pss_cons (ps_if (pt_cmpR (r := rEqD K) (op_eqD hr.units) (pv 9) pe_int (nomark _)) (pss_one (ps_set (i := 8) sc_law_bent.nd rfl (Or.inl rfl) (pe_op (r := rCatA K) op_catA (pe_op (r := rCatA K) op_catA (pe_slice (r := rSlA K) sl_tupA (pv 8) po_none (po_some pe_int)) (pe_tupF (pa_cons pe_str pa_nil))) (pe_slice (r := rSlA K) sl_tupA (pv 8) (po_some pe_int) po_none)))) (pss_one (ps_if (pt_cmpR (r := rEqD K) (op_eqD hr.units) (pv 9) pe_int (nomark _)) (pss_one (ps_set (i := 8) sc_law_bent.nd rfl (Or.inl rfl) (pe_op (r := rCatA K) op_catA (pe_op (r := rCatA K) op_catA (pe_slice (r := rSlA K) sl_tupA (pv 8) po_none (po_some pe_int)) (pe_tupF (pa_cons pe_str pa_nil))) (pe_slice (r := rSlA K) sl_tupA (pv 8) (po_some pe_int) po_none)))) (pss_one (ps_if (pt_cmpR (r := rEqD K) (op_eqD hr.units) (pv 9) pe_int (nomark _)) (pss_one (ps_set (i := 8) sc_law_bent.nd rfl (Or.inl rfl) (pe_op (r := rCatA K) op_catA (pe_op (r := rCatA K) op_catA (pe_slice (r := rSlA K) sl_tupA (pv 8) po_none (po_some pe_int)) (pe_tupF (pa_cons (pe_tupF (pa_cons (pe_tupF (pa_cons pe_str (pa_cons pe_int pa_nil))) pa_nil)) pa_nil))) (pe_slice (r := rSlA K) sl_tupA (pv 8) (po_some pe_int) po_none)))) (pss_one (ps_if (pt_cmpR (r := rEqD K) (op_eqD hr.units) (pv 9) pe_int (nomark _)) (pss_one (ps_set (i := 8) sc_law_bent.nd rfl (Or.inl rfl) (pe_op (r := rCatA K) op_catA (pe_op (r := rCatA K) op_catA (pe_slice (r := rSlA K) sl_tupA (pv 8) po_none (po_some pe_int)) (pe_tupF (pa_cons (pe_op op_add pe_int (pe_op op_mod (pe_op op_fdiv (pv 1) pe_int) pe_int)) pa_nil))) (pe_slice (r := rSlA K) sl_tupA (pv 8) (po_some pe_int) po_none)))) (pss_one (ps_if (pt_cmpR (r := rEqD K) (op_eqD hr.units) (pv 9) pe_int (nomark _)) (pss_one (ps_set (i := 6) sc_law_bent.nd rfl (Or.inl rfl) (pe_tupF (pa_cons (pe_tupF (pa_cons (pv 7) (pa_cons (pe_op op_mod (pe_op op_fdiv (pv 1) pe_int) pe_int) pa_nil))) pa_nil)))) (pss_one (ps_if (pt_cmpR (r := rEqD K) (op_eqD hr.units) (pv 9) pe_int (nomark _)) (pss_one (ps_set (i := 5) sc_law_bent.nd rfl (Or.inl rfl) (pe_tupF (pa_cons (pe_tupF (pa_cons (pv 7) (pa_cons (pe_op op_mod (pe_op op_add (pv 7) pe_int) (pe_callB (r := rLenQ K) cr_len (by rfl) T.b_len bt_len (pa_cons (pv 4) pa_nil))) (pa_cons pe_int pa_nil)))) pa_nil)))) (pss_one (ps_if (pt_cmpR (r := rEqD K) (op_eqD hr.units) (pv 9) pe_int (nomark _)) (pss_one (ps_set (i := 8) sc_law_bent.nd rfl (Or.inl rfl) (pe_ix (r := rIxL K) ix_list (pe_lst (pa_cons pe_non (pa_cons (pe_slice (r := rSlA K) sl_tupA (pv 8) po_none (po_some pe_int)) (pa_cons (pe_op (r := rCatA K) op_catA (pv 8) (pe_tupF (pa_cons pe_int pa_nil))) (pa_cons (pe_op (r := rCatA K) op_catA (pe_tupF (pa_cons (pe_ix (r := rIxT K) ix_tup (pv 8) pe_int (fun _ _ => rfl)) (pa_cons pe_int pa_nil))) (pe_slice (r := rSlA K) sl_tupA (pv 8) (po_some pe_int) po_none)) (pa_cons (pe_op (r := rCatA K) op_catA (pe_tupF (pa_cons (pe_ix (r := rIxT K) ix_tup (pv 8) pe_int (fun _ _ => rfl)) (pa_cons pe_bl pa_nil))) (pe_slice (r := rSlA K) sl_tupA (pv 8) (po_some pe_int) po_none)) pa_nil)))))) (pe_op op_mod (pe_op op_fdiv (pv 1) pe_int) pe_int) (fun _ _ => rfl)))) (pss_cons (ps_set (i := 10) sc_law_bent.nd rfl (Or.inl rfl) (pe_lst (pa_cons pe_non (pa_cons pe_int (pa_cons (pe_lst (pa_cons (pv 2) (pa_cons (pv 3) (pa_cons (pv 4) (pa_cons (pe_tupF pa_nil) (pa_cons (pe_tupF pa_nil) pa_nil)))))) (pa_cons (pe_tupF pa_nil) (pa_cons (pe_tupF (pa_cons (pv 2) (pa_cons (pv 3) (pa_cons (pe_tupF pa_nil) (pa_cons (pe_tupF pa_nil) (pa_cons (pe_tupF pa_nil) pa_nil)))))) (pa_cons pe_str pa_nil))))))))
      (pss_one (ps_ret (pe_ix (r := rIxL K) ix_list (pv 10) (pe_op op_mod (pe_op op_fdiv (pv 1) pe_int) pe_int) (fun _ _ => rfl))))))))))))))))))
      (pss_one (ps_ret (pe_tupF (pa_cons (pv 2) (pa_cons (pv 3) (pa_cons (pe_op (r := rCatA K) op_catA (pe_op (r := rCatA K) op_catA (pe_slice (r := rSlA K) sl_tupA (pv 4) po_none (po_some (pv 7))) (pe_tupF (pa_cons (pv 8) pa_nil))) (pe_slice (r := rSlA K) sl_tupA (pv 4) (po_some (pe_op op_add (pv 7) pe_int)) po_none)) (pa_cons (pv 5) (pa_cons (pv 6) pa_nil))))))))))))))), ?_⟩
  have tl := hb.fit.tl
  have hpos : 0 < b.ts.length := List.length_pos_iff.mpr hb.fit.ne
  have dv8 : ∀ x : Int, CDiv x 8 ∧ CDiv x 64 := fun x => ⟨⟨by decide, by decide⟩, ⟨by decide, by decide⟩⟩
  have ha0 : 0 ≤ n / 8 % (b.ts.length : Nat) := Int.emod_nonneg _ (by omega)
  have ha1 : n / 8 % (b.ts.length : Nat) < (b.ts.length : Nat) := Int.emod_lt_of_pos _ (by omega)
  obtain ⟨a, ea⟩ : ∃ a : Nat, n / 8 % (b.ts.length : Nat) = (a : Nat) := ⟨(n / 8 % (b.ts.length : Nat)).toNat, by omega⟩
  have hal : a < b.ts.length := by omega
  obtain ⟨t, ht⟩ : ∃ t, b.ts[a]? = some t := ⟨_, List.getElem?_eq_getElem hal⟩
  have htm := List.mem_of_getElem? ht
  obtain ⟨o1, o2, o3⟩ := hb.one t htm
  have hto := (hb.fit.task t htm).1
  refine sq_asg S i (dv_var S) (tg_tup (tgs_cons tg_name (tgs_cons tg_name (tgs_cons tg_name (tgs_cons tg_name (tgs_cons tg_name tgs_nil)))))) fun s1 G1 H1 S1 n1 => ?_
  have dlen : ∀ {s G q} (S : SD G s q) (h : q[4]? = some (some (.tuple (b.ts.map Tk.d)))), EvD (tCB (rLenQ K) (tCons (tVar 4) tNil)) s G (.int (b.ts.length : Nat)) := fun S h => dv_is (dv_len (dv_var S h) rfl) (by show PyData.int (((b.ts.map Tk.d).length : Nat) : Int) = _; rw [List.length_map])
  refine sq_set (d := .int (a : Nat)) S1 n1.i (dv_is (dv_opC (dv_divL (dv_var S1) (dv8 _).1) (dlen S1 rfl) (by omega)) (congrArg PyData.int ea)) fun s2 G2 H2 S2 n2 => ?_
  refine sq_set (d := t.d) S2 n2.i (dv_ixT (ds := b.ts.map Tk.d) (dv_var S2) (dv_var S2) (atI_nat (by rw [List.getElem?_map, ht]; rfl))) fun s3 G3 H3 S3 n3 => ?_
  refine sq_set (d := .int (n % 8)) S3 n3.i (dv_modL (dv_var S3) (by decide)) fun s4 G4 H4 S4 n4 => ?_
  refine sq_set (d := .tuple [.tuple [.str "hand", .int 2]]) S4 n4.i (dv_tup (ds_cons (dv_tup (ds_cons dv_str (ds_cons dv_int ds_nil)) (by show 2 ≤ 100000; decide)) ds_nil) (by show 1 ≤ 100000; decide)) fun s5 G5 H5 S5 n5 => ?_
  refine sq_set (d := .tuple [.str "mill", .str "oven"]) S5 n5.i (dv_tup (ds_cons dv_str (ds_cons dv_str ds_nil)) (by show 2 ≤ 100000; decide)) fun s6 G6 H6 S6 n6 => ?_
  have n16 := ((((n1.trans n2).trans n3).trans n4).trans n5).trans n6
  have ew : b.waits = [] := by unfold Bk.waits; rw [hb.wait]; rfl
  have ef : b.fixs = [] := by unfold Bk.fixs; rw [hb.fixed]; rfl
  have S6' : SD G6 s6 [some b.d, some (.int n), some (.tuple [.str "mill", .str "oven"]), some (.tuple [.tuple [.str "hand", .int 2]]), some (.tuple (b.ts.map Tk.d)), some (.tuple []), some (.tuple []), some (.int (a : Nat)), some t.d, some (.int (n % 8)), none] := by
    have := S6
    rw [ew, ef] at this
    exact this
  clear S6 S5 S4 S3 S2 S1
  -- the end
  have fin : ∀ (s' : L2.St) (G' H' : Hp) (td wd fd : PyData) (D : Ends), (∀ v H2, D.rt v H2 = Q v H2) → (∀ a b, td ≠ .tuple [.str a, .int b]) → SD G' s' [some b.d, some (.int n), some (.tuple [.str "mill", .str "oven"]), some (.tuple [.tuple [.str "hand", .int 2]]), some (.tuple (b.ts.map Tk.d)), some wd, some fd, some (.int (a : Nat)), some td, some (.int (n % 8)), none] → Nx G H G' H' →
      RB (.tuple [.tuple [.str "mill", .str "oven"], .tuple [.tuple [.str "hand", .int 2]], .tuple ((b.ts.map Tk.d).take a ++ [td] ++ (b.ts.map Tk.d).drop (a + 1)), wd, fd]) →
      tRet (tTupF (tCons (tVar 2) (tCons (tVar 3) (tCons (tOp (rCatA K) (tOp (rCatA K) (tSl (rSlA K) (tVar 4) tNoPart (tPart (tVar 7))) (tTupF (tCons (tVar 8) tNil))) (tSl (rSlA K) (tVar 4) (tPart (tOp (rI0 fun i j => .int (i + j)) (tVar 7) (tC (.int 1)))) tNoPart)) (tCons (tVar 5) (tCons (tVar 6) tNil)))))) D s' H' := fun s' G' H' td wd fd D hD htd S' n' hRB => by
    have hml : (b.ts.map Tk.d).length = b.ts.length := List.length_map _
    have c1 : EvW (tSl (rSlA K) (tVar 4) tNoPart (tPart (tVar 7))) s' G' ((b.ts.map Tk.d).take a) := by
      have := dw_sl (K := K) (ds := b.ts.map Tk.d) (lo := none) (hi := some ((a : Nat) : Int)) (dv_var (i := 4) S') eo_none (eo_int (dv_var (i := 7) S'))
      rw [cut_to _ _ (by omega)] at this
      exact this
    have c2 : EvW (tSl (rSlA K) (tVar 4) (tPart (tOp (rI0 fun i j => .int (i + j)) (tVar 7) (tC (.int 1)))) tNoPart) s' G' ((b.ts.map Tk.d).drop (a + 1)) := by
      have := dw_sl (K := K) (ds := b.ts.map Tk.d) (lo := some ((a + 1 : Nat) : Int)) (hi := none) (dv_var (i := 4) S') (eo_int (dv_is (dv_opI (g := fun i j => i + j) (dv_var (i := 7) S') dv_int) (congrArg PyData.int ((Int.natCast_succ a).symm)))) eo_none
      rw [cut_from] at this
      exact this
    refine sd_ret n'.i (dv_tup (ds := [.tuple [.str "mill", .str "oven"], .tuple [.tuple [.str "hand", .int 2]], .tuple ((b.ts.map Tk.d).take a ++ [td] ++ (b.ts.map Tk.d).drop (a + 1)), wd, fd]) (ds_cons (dv_var S') (ds_cons (dv_var S') (ds_cons (dv_catT (dw_cat c1 (dv_tup (ds := [td]) (ds_cons (dv_var S') ds_nil) (by show 1 ≤ 100000; decide)).ew ?_) c2 ?_ (gds_cat htd)) (ds_cons (dv_var S') (ds_cons (dv_var S') ds_nil))))) (by show 5 ≤ 100000; decide)) fun v G7 H7 n7 hv => ?_
    · rw [List.length_take]
      show min a (b.ts.map Tk.d).length + 1 ≤ 100000
      omega
    · rw [List.length_append, List.length_take, List.length_drop]
      show min a (b.ts.map Tk.d).length + 1 + ((b.ts.map Tk.d).length - (a + 1)) ≤ 100000
      omega
    · rw [hD]
      exact k v _ G7 H7 hRB (n'.trans n7) hv
  have good : ∀ {t' : Tk} {w' : Option (Nat × Nat)} {f' : Option (Nat × Int)} {wd fd : PyData}, Fit ⟨["mill", "oven"], true, b.ts.set a t', w', f'⟩ → wd = .tuple (w'.toList.map waitD) → fd = .tuple (f'.toList.map fixD) → RB (.tuple [.tuple [.str "mill", .str "oven"], .tuple [.tuple [.str "hand", .int 2]], .tuple ((b.ts.map Tk.d).take a ++ [t'.d] ++ (b.ts.map Tk.d).drop (a + 1)), wd, fd]) := fun hfit hwd hfd => by
    rw [set_data ht, hwd, hfd]
    exact ⟨hfit.fine, .inr ⟨_, rfl, hfit.good⟩⟩
  have test : ∀ {s G} (c : Int) (S : SD G s [some b.d, some (.int n), some (.tuple [.str "mill", .str "oven"]), some (.tuple [.tuple [.str "hand", .int 2]]), some (.tuple (b.ts.map Tk.d)), some (.tuple []), some (.tuple []), some (.int (a : Nat)), some t.d, some (.int (n % 8)), none]), EvT (tTest (tOp (rEqD K) (tVar 9) (tC (.int c)))) s G (decide (n % 8 = c)) := fun c S => tt_T (dv_is (dv_eqD (dv_var S) dv_int (shaped_int _) (shaped_int _)) (congrArg PyData.bool (by rw [eqv_int, Bool.beq_eq_decide_eq])))
  have tk7 : ∀ (t' : Tk) (a b : _), t'.d ≠ .tuple [.str a, .int b] := fun t' a b z => by unfold Tk.d at z; simp at z
  -- a task with one part anew
  have anew : ∀ {s : L2.St} {G : Hp} {te : TE} (j : Nat) (x : PyData) (S : SD G s [some b.d, some (.int n), some (.tuple [.str "mill", .str "oven"]), some (.tuple [.tuple [.str "hand", .int 2]]), some (.tuple (b.ts.map Tk.d)), some (.tuple []), some (.tuple []), some (.int (a : Nat)), some t.d, some (.int (n % 8)), none]), j < 7 → EvD te s G x → ∀ t' : Tk, (.tuple ((kids t.d).take j ++ [x] ++ (kids t.d).drop (j + 1)) : PyData) = t'.d →
      EvD (tOp (rCatA K) (tOp (rCatA K) (tSl (rSlA K) (tVar 8) tNoPart (tPart (tC (.int (j : Nat))))) (tTupF (tCons te tNil))) (tSl (rSlA K) (tVar 8) (tPart (tC (.int ((j + 1 : Nat) : Int)))) tNoPart)) s G t'.d := fun {s G te} j x S hj hx t' e => by
    have hkl : (kids t.d).length = 7 := rfl
    have c1 : EvW (tSl (rSlA K) (tVar 8) tNoPart (tPart (tC (.int (j : Nat))))) s G ((kids t.d).take j) := by
      have := dw_sl (K := K) (ds := kids t.d) (lo := none) (hi := some ((j : Nat) : Int)) (dv_var (i := 8) (d := .tuple (kids t.d)) S) eo_none (eo_int dv_int)
      rw [cut_to _ _ (by omega)] at this
      exact this
    have c2 : EvW (tSl (rSlA K) (tVar 8) (tPart (tC (.int ((j + 1 : Nat) : Int)))) tNoPart) s G ((kids t.d).drop (j + 1)) := by
      have := dw_sl (K := K) (ds := kids t.d) (lo := some ((j + 1 : Nat) : Int)) (hi := none) (dv_var (i := 8) (d := .tuple (kids t.d)) S) (eo_int dv_int) eo_none
      rw [cut_from] at this
      exact this
    refine dv_is (dv_catT (dw_cat c1 (dv_tup (ds := [x]) (ds_cons hx ds_nil) (by show 1 ≤ 100000; decide)).ew ?_) c2 ?_ ?_) e
    · rw [List.length_take]
      show min j (kids t.d).length + 1 ≤ 100000
      omega
    · rw [List.length_append, List.length_take, List.length_drop]
      show min j (kids t.d).length + 1 + ((kids t.d).length - (j + 1)) ≤ 100000
      omega
    · have hl : ((kids t.d).take j ++ [x] ++ (kids t.d).drop (j + 1)).length = 7 := by
        simp only [List.length_append, List.length_take, List.length_drop, List.length_singleton]
        omega
      unfold gdsLike
      split
      · rename_i e
        rw [e] at hl
        cases hl
      · rename_i e
        rw [e] at hl
        cases hl
      · rfl
  have nw : ∀ p : Nat × Nat, (none : Option (Nat × Nat)) = some p → p.1 < b.ts.length ∧ p.2 < b.ts.length ∧ p.1 ≠ p.2 := fun p z => by cases z
  have nf : ∀ (t' : Tk) (p : Nat × Int), (none : Option (Nat × Int)) = some p → p.2 ≤ 1000000 ∧ 0 ≤ p.2 ∧ ∃ t2, (b.ts.set a t')[p.1]? = some t2 ∧ t2.first ≤ p.2 := fun t' p z => by cases z
  have q9 : 0 ≤ n / 64 % 9 ∧ n / 64 % 9 < 9 := by omega
  refine sq_if n6.i (test 0 S6') (fun hc H7 n7 => ?_) fun hc H7 n7 => ?_
  · refine sd_set (d := ({ t with mach := "oven" } : Tk).d) S6' n7.i (anew 2 (.str "oven") S6' (by decide) dv_str { t with mach := "oven" } rfl) fun s8 G8 H8 S8 n8 => ?_
    exact fin s8 G8 H8 _ _ _ _ (fun _ _ => rfl) (tk7 _) S8 ((n16.trans n7).trans n8) (good (bent_fit (t' := { t with mach := "oven" }) hb ht rfl (tk_mach hto (.inr (.inr rfl))) nw (nf _)) rfl rfl)
  refine sd_if n7.i (test 1 S6') (fun hc H8 n8 => ?_) fun hc H8 n8 => ?_
  · refine sd_set (d := ({ t with mach := "" } : Tk).d) S6' n8.i (anew 2 (.str "") S6' (by decide) dv_str { t with mach := "" } rfl) fun s9 G9 H9 S9 n9 => ?_
    exact fin s9 G9 H9 _ _ _ _ (fun _ _ => rfl) (tk7 _) S9 (((n16.trans n7).trans n8).trans n9) (good (bent_fit (t' := { t with mach := "" }) hb ht rfl (tk_mach hto (.inl rfl)) nw (nf _)) rfl rfl)
  refine sd_if n8.i (test 2 S6') (fun hc H9 n9 => ?_) fun hc H9 n9 => ?_
  · refine sd_set (d := ({ t with needs := true } : Tk).d) S6' n9.i (anew 3 (.tuple [.tuple [.str "hand", .int 1]]) S6' (by decide) (dv_tup (ds_cons (dv_tup (ds_cons dv_str (ds_cons dv_int ds_nil)) (by show 2 ≤ 100000; decide)) ds_nil) (by show 1 ≤ 100000; decide)) { t with needs := true } rfl) fun s10 G10 H10 S10 n10 => ?_
    exact fin s10 G10 H10 _ _ _ _ (fun _ _ => rfl) (tk7 _) S10 ((((n16.trans n7).trans n8).trans n9).trans n10) (good (bent_fit (t' := { t with needs := true }) hb ht rfl (tk_needs hto) nw (nf _)) rfl rfl)
  refine sd_if n9.i (test 3 S6') (fun hc H10 n10 => ?_) fun hc H10 n10 => ?_
  · refine sd_set (d := ({ t with first := 1 + n / 64 % 9 } : Tk).d) S6' n10.i (anew 4 (.int (1 + n / 64 % 9)) S6' (by decide) (dv_opI dv_int (dv_modL (dv_divL (dv_var S6') (dv8 _).2) (by decide))) { t with first := 1 + n / 64 % 9 } rfl) fun s11 G11 H11 S11 n11 => ?_
    exact fin s11 G11 H11 _ _ _ _ (fun _ _ => rfl) (tk7 _) S11 (((((n16.trans n7).trans n8).trans n9).trans n10).trans n11) (good (bent_fit (t' := { t with first := 1 + n / 64 % 9 }) hb ht rfl (tk_first hto ⟨by omega, by omega⟩) nw (nf _)) rfl rfl)
  have n710 := (((n16.trans n7).trans n8).trans n9).trans n10
  have st : b.ts.set a t = b.ts := by
    apply List.ext_getElem?
    intro i
    rw [List.getElem?_set]
    split
    · rename_i e
      subst e
      first
        | (rw [if_pos hal, ht]; done)
        | exact ht.symm
    · rfl
  refine sd_if n10.i (test 4 S6') (fun hc H11 n11 => ?_) fun hc H11 n11 => ?_
  · refine sd_set (d := .tuple [.tuple [.int (a : Nat), .int (n / 64 % 9)]]) S6' n11.i (dv_tup (ds_cons (dv_tup (ds_cons (dv_var S6') (ds_cons (dv_modL (dv_divL (dv_var S6') (dv8 _).2) (by decide)) ds_nil)) (by show 2 ≤ 100000; decide)) ds_nil) (by show 1 ≤ 100000; decide)) fun s12 G12 H12 S12 n12 => ?_
    refine fin s12 G12 H12 _ _ _ _ (fun _ _ => rfl) (tk7 _) S12 ((n710.trans n11).trans n12) (good (t' := t) (w' := none) (f' := some (a, n / 64 % 9)) (bent_fit hb ht rfl hto nw fun p hp => ?_) rfl rfl)
    cases hp
    exact ⟨by show n / 64 % 9 ≤ 1000000; omega, q9.1, t, by rw [st]; exact ht, by rw [o3]; exact q9.1⟩
  have n711 := n710.trans n11
  refine sd_if n11.i (test 5 S6') (fun hc H12 n12 => ?_) fun hc H12 n12 => ?_
  · have hw0 : 0 ≤ ((a : Nat) + 1 : Int) % (b.ts.length : Nat) := Int.emod_nonneg _ (by omega)
    have hw1 : ((a : Nat) + 1 : Int) % (b.ts.length : Nat) < (b.ts.length : Nat) := Int.emod_lt_of_pos _ (by omega)
    obtain ⟨c, ec⟩ : ∃ c : Nat, ((a : Nat) + 1 : Int) % (b.ts.length : Nat) = (c : Nat) := ⟨(((a : Nat) + 1 : Int) % (b.ts.length : Nat)).toNat, by omega⟩
    refine sd_set (d := .tuple [waitD (a, c)]) S6' n12.i (dv_tup (ds_cons (dv_tup (ds_cons (dv_var S6') (ds_cons (dv_is (dv_opC (dv_opI (dv_var S6') dv_int) (dlen S6' rfl) (by omega)) (congrArg PyData.int ec)) (ds_cons dv_int ds_nil))) (by show 3 ≤ 100000; decide)) ds_nil) (by show 1 ≤ 100000; decide)) fun s13 G13 H13 S13 n13 => ?_
    refine fin s13 G13 H13 _ _ _ _ (fun _ _ => rfl) (tk7 _) S13 ((n711.trans n12).trans n13) ?_
    by_cases e : a = c
    · subst e
      refine ⟨bent_fine hb (hto.okN 0) ?_ (by decide +kernel), .inl ?_⟩
      · refine okN_tupI (n := 3) (by show 1 ≤ 1000; decide) fun y hy => ?_
        rw [List.mem_singleton] at hy
        subst hy
        refine okN_tupI (n := 2) (by show 3 ≤ 1000; decide) fun z hz => ?_
        simp only [List.mem_cons, List.not_mem_nil, or_false] at hz
        rcases hz with rfl | rfl | rfl <;> exact okN_int
      · refine Bool.eq_false_iff.mpr fun z => ?_
        have z2 : (_ && (_ && (((kids (.tuple [waitD (a, a)])).all isWait && _) && _))) = true := z
        simp only [Bool.and_eq_true] at z2
        have z3 := List.all_eq_true.mp z2.2.2.1.1 (waitD (a, a)) List.mem_cons_self
        have z4 : (_ && (!PyData.eqv (.int (a : Nat)) (.int (a : Nat)) && _)) = true := z3
        rw [eqv_int, beq_self_eq_true] at z4
        simp at z4
    · exact good (t' := t) (w' := some (a, c)) (f' := none) (bent_fit hb ht rfl hto (fun p hp => by
        cases hp
        exact ⟨hal, by show c < _; omega, e⟩) (nf _)) rfl rfl
  have n712 := n711.trans n12
  have t7 : ∀ {s G} (S : SD G s [some b.d, some (.int n), some (.tuple [.str "mill", .str "oven"]), some (.tuple [.tuple [.str "hand", .int 2]]), some (.tuple (b.ts.map Tk.d)), some (.tuple []), some (.tuple []), some (.int (a : Nat)), some t.d, some (.int (n % 8)), none]), EvD (tVar 8) s G (.tuple [.str t.nm, .int t.len, .str t.mach, .tuple ((needsD t.needs).map pairD), .int t.first, dueD t.due, .int t.wt]) := fun S => dv_var S
  refine sd_if n12.i (test 6 S6') (fun hc H13 n13 => ?_) fun hc H13 n13 => ?_
  · have six : EvD (tSl (rSlA K) (tVar 8) tNoPart (tPart (tC (.int 6)))) s6 G6 (.tuple [.str t.nm, .int t.len, .str t.mach, .tuple ((needsD t.needs).map pairD), .int t.first, dueD t.due]) := dv_slT (lo := none) (hi := some 6) (t7 S6') eo_none (eo_int dv_int) rfl
    have eight : EvD (tOp (rCatA K) (tVar 8) (tTupF (tCons (tC (.int 0)) tNil))) s6 G6 (.tuple [.str t.nm, .int t.len, .str t.mach, .tuple ((needsD t.needs).map pairD), .int t.first, dueD t.due, .int t.wt, .int 0]) := dv_catT (t7 S6').ew (dv_tup (ds := [.int 0]) (ds_cons dv_int ds_nil) (by show 1 ≤ 100000; decide)).ew (by show 7 + 1 ≤ 100000; decide) rfl
    have seven : ∀ (te : TE) (x : PyData), EvD te s6 G6 x → EvD (tOp (rCatA K) (tTupF (tCons (tOp (rIxT K) (tVar 8) (tC (.int 0))) (tCons te tNil))) (tSl (rSlA K) (tVar 8) (tPart (tC (.int 2))) tNoPart)) s6 G6 (.tuple [.str t.nm, x, .str t.mach, .tuple ((needsD t.needs).map pairD), .int t.first, dueD t.due, .int t.wt]) := fun te x h =>
      dv_catT (ds := [.str t.nm, x]) (es := [.str t.mach, .tuple ((needsD t.needs).map pairD), .int t.first, dueD t.due, .int t.wt]) (dv_tup (ds_cons (dv_ixT (t7 S6') dv_int (atI_nat (j := 0) rfl)) (ds_cons h ds_nil)) (by show 2 ≤ 100000; decide)).ew (dw_sl (lo := some 2) (hi := none) (t7 S6') (eo_int dv_int) eo_none) (by show 2 + 5 ≤ 100000; decide) rfl
    have hi0 : 0 ≤ n / 64 % 5 := by omega
    have hi1 : n / 64 % 5 < 5 := by omega
    have ok7 : ∀ x : PyData, okN 2 x = true → ∀ y ∈ [PyData.str t.nm, x, .str t.mach, .tuple ((needsD t.needs).map pairD), .int t.first, dueD t.due, .int t.wt], okN 2 y = true := fun x hx y hy => by
      simp only [List.mem_cons, List.not_mem_nil, or_false] at hy
      rcases hy with rfl | rfl | rfl | rfl | rfl | rfl | rfl
      · exact okN_str hto.nok
      · exact hx
      · exact okN_str hto.mok
      · exact okN_needs 0 _
      · exact okN_int
      · exact okN_due
      · exact okN_int
    have bad7 : ∀ x : PyData, isAmong 1 1000 x = false → isTask (.tuple [.str t.nm, x, .str t.mach, .tuple ((needsD t.needs).map pairD), .int t.first, dueD t.due, .int t.wt]) = false := fun x hx => by
      show ((_ && (isAmong 1 1000 x && _)) && _) = false
      rw [hx, Bool.false_and, Bool.and_false, Bool.false_and]
    obtain ⟨x, hx1, hx2, hx3, hx4⟩ : ∃ x, atI [PyData.none, .tuple [.str t.nm, .int t.len, .str t.mach, .tuple ((needsD t.needs).map pairD), .int t.first, dueD t.due], .tuple [.str t.nm, .int t.len, .str t.mach, .tuple ((needsD t.needs).map pairD), .int t.first, dueD t.due, .int t.wt, .int 0], .tuple [.str t.nm, .int 0, .str t.mach, .tuple ((needsD t.needs).map pairD), .int t.first, dueD t.due, .int t.wt], .tuple [.str t.nm, .bool true, .str t.mach, .tuple ((needsD t.needs).map pairD), .int t.first, dueD t.due, .int t.wt]] (n / 64 % 5) = some x ∧ okN 3 x = true ∧ (tupOf 7 x && isTask x) = false ∧ ∀ a b, x ≠ .tuple [.str a, .int b] := by
      rw [atI_lt hi0 (by show _ < (5 : Int); exact hi1)]
      rcases (by omega : n / 64 % 5 = 0 ∨ n / 64 % 5 = 1 ∨ n / 64 % 5 = 2 ∨ n / 64 % 5 = 3 ∨ n / 64 % 5 = 4) with e | e | e | e | e <;> rw [e]
      · exact ⟨_, rfl, rfl, rfl, fun _ _ z => by cases z⟩
      · refine ⟨_, rfl, okN_tupI (by show 6 ≤ 1000; decide) fun y hy => ok7 (.int t.len) okN_int y ?_, by rw [tup_size (by show 6 ≠ 7; decide)]; rfl, fun _ _ z => by simp at z⟩
        simp only [List.mem_cons, List.not_mem_nil, or_false] at hy ⊢
        rcases hy with h | h | h | h | h | h <;> simp [h]
      · refine ⟨_, rfl, okN_tupI (by show 8 ≤ 1000; decide) fun y hy => ?_, by rw [tup_size (by show 8 ≠ 7; decide)]; rfl, fun _ _ z => by simp at z⟩
        simp only [List.mem_cons, List.not_mem_nil, or_false] at hy
        rcases hy with h | h | h | h | h | h | h | h
        · exact ok7 (.int t.len) okN_int y (by simp [h])
        · exact ok7 (.int t.len) okN_int y (by simp [h])
        · exact ok7 (.int t.len) okN_int y (by simp [h])
        · exact ok7 (.int t.len) okN_int y (by simp [h])
        · exact ok7 (.int t.len) okN_int y (by simp [h])
        · exact ok7 (.int t.len) okN_int y (by simp [h])
        · exact ok7 (.int t.len) okN_int y (by simp [h])
        · rw [h]
          exact okN_int
      · exact ⟨_, rfl, okN_tupI (by show 7 ≤ 1000; decide) (ok7 _ okN_int), by rw [bad7 (.int 0) (by decide +kernel), Bool.and_false], fun _ _ z => by simp at z⟩
      · exact ⟨_, rfl, okN_tupI (by show 7 ≤ 1000; decide) (ok7 _ okN_bool), by rw [bad7 (.bool true) rfl, Bool.and_false], fun _ _ z => by simp at z⟩
    refine sd_set (d := x) S6' n13.i (dv_ixL (dv_lst (ds_cons dv_non (ds_cons six (ds_cons eight (ds_cons (seven _ (.int 0) dv_int) (ds_cons (seven _ (.bool true) dv_bl) ds_nil))))) (by show 5 ≤ 100000; decide)) (dv_modL (dv_divL (dv_var S6') (dv8 _).2) (by decide)) hx1) fun s14 G14 H14 S14 n14 => ?_
    refine fin s14 G14 H14 _ _ _ _ (fun _ _ => rfl) hx4 S14 ((n712.trans n13).trans n14) ⟨bent_fine hb hx2 (by decide +kernel) (by decide +kernel), .inl (form_bad (x := x) (by simp) hx3)⟩
  · have em : ∀ {s G}, EvD (tTupF tNil) s G (.tuple []) := dv_tup ds_nil (by show 0 ≤ 100000; decide)
    refine sq_set (d := .list [.none, .int 5, .list [.tuple [.str "mill", .str "oven"], .tuple [.tuple [.str "hand", .int 2]], .tuple (b.ts.map Tk.d), .tuple [], .tuple []], .tuple [], .tuple [.tuple [.str "mill", .str "oven"], .tuple [.tuple [.str "hand", .int 2]], .tuple [], .tuple [], .tuple []], .str "book"]) S6' n13.i (dv_lst (ds_cons dv_non (ds_cons dv_int (ds_cons (dv_lst (ds_cons (dv_var S6') (ds_cons (dv_var S6') (ds_cons (dv_var S6') (ds_cons em (ds_cons em ds_nil))))) (by show 5 ≤ 100000; decide)) (ds_cons em (ds_cons (dv_tup (ds_cons (dv_var S6') (ds_cons (dv_var S6') (ds_cons em (ds_cons em (ds_cons em ds_nil))))) (by show 5 ≤ 100000; decide)) (ds_cons dv_str ds_nil)))))) (by show 6 ≤ 100000; decide)) fun s14 G14 H14 S14 n14 => ?_
    have hi0 : 0 ≤ n / 64 % 6 := by omega
    have hi1 : n / 64 % 6 < 6 := by omega
    obtain ⟨y, hy1, hy2⟩ : ∃ y, atI [PyData.none, .int 5, .list [.tuple [.str "mill", .str "oven"], .tuple [.tuple [.str "hand", .int 2]], .tuple (b.ts.map Tk.d), .tuple [], .tuple []], .tuple [], .tuple [.tuple [.str "mill", .str "oven"], .tuple [.tuple [.str "hand", .int 2]], .tuple [], .tuple [], .tuple []], .str "book"] (n / 64 % 6) = some y ∧ RB y := by
      rw [atI_lt hi0 (by show _ < (6 : Int); exact hi1)]
      rcases (by omega : n / 64 % 6 = 0 ∨ n / 64 % 6 = 1 ∨ n / 64 % 6 = 2 ∨ n / 64 % 6 = 3 ∨ n / 64 % 6 = 4 ∨ n / 64 % 6 = 5) with e | e | e | e | e | e <;> rw [e]
      · exact ⟨_, rfl, fine_none, .inl rfl⟩
      · exact ⟨_, rfl, fine_int 5, .inl rfl⟩
      · refine ⟨_, rfl, ⟨5, by decide, okN_lstI (n := 4) (by show 5 ≤ 1000; decide) fun z hz => ?_⟩, .inl rfl⟩
        simp only [List.mem_cons, List.not_mem_nil, or_false] at hz
        rcases hz with rfl | rfl | rfl | rfl | rfl
        · decide +kernel
        · decide +kernel
        · refine okN_tupI (by rw [List.length_map]; omega) fun z hz => ?_
          obtain ⟨t2, ht2, rfl⟩ := List.mem_map.mp hz
          exact (hb.fit.task t2 ht2).1.okN 0
        · decide +kernel
        · decide +kernel
      · exact ⟨_, rfl, ⟨1, by decide, by decide +kernel⟩, .inl rfl⟩
      · exact ⟨_, rfl, ⟨5, by decide, by decide +kernel⟩, .inl (by decide +kernel)⟩
      · exact ⟨_, rfl, ⟨0, by decide, by decide +kernel⟩, .inl rfl⟩
    exact sd_ret n14.i (dv_ixL (dv_var S14) (dv_modL (dv_divL (dv_var S14) (dv8 _).2) (by decide)) hy1) fun v G15 H15 n15 hv => k v y G15 H15 hy2 (((n712.trans n13).trans n14).trans n15) hv
/-- whether a book is single, by its parts -/
abbrev RIsS : List PyData → PyData → Prop := fun ds d => ∃ b : Bk, ds = [b.d] ∧ Good b ∧ d = .bool (isSingle b)
theorem ok_law_is_single {f : Addr} {fd : FuncData} (F : Fun K "_law_is_single" "_law_is_single" s_law_is_single f fd) (T : Txt mg) : FnOk P w K mg base CX0 1 f fd ["_law_book"] (SpR 1 RIsS) := by
  refine okD F sc_law_is_single rfl fun cdv A outer s G H vs ds r Q E hr hR S i k => ?_
  obtain ⟨b, rfl, hb, rfl⟩ := hR
  refine ⟨_, (pss_cons (ps_for PassesOwn.never rfl (pi_tup (pe_ix (r := rIxT K) ix_tup (pv 0) pe_int (fun _ _ => rfl))) (pg_name (i := 1) sc_law_is_single.nd rfl (Or.inl rfl)) (pss_one (ps_if (PW.pt (pw_or (pt_cmpR (r := rEqD K) (op_eqD hr.units) (pe_ix (r := rIxT K) ix_tup (pv 1) pe_int (fun _ _ => rfl)) pe_str (nomark _)) (pw_or (pt_cmpR (r := rNeD K) (op_neD hr.units) (pe_ix (r := rIxT K) ix_tup (pv 1) pe_int (fun _ _ => rfl)) (pe_ix (r := rIxT K) ix_tup (pe_ix (r := rIxT K) ix_tup (pe_ix (r := rIxT K) ix_tup (pv 0) pe_int (fun _ _ => rfl)) pe_int (fun _ _ => rfl)) pe_int (fun _ _ => rfl)) (nomark _)) (pw_or (pt_cmpR (r := rNeD K) (op_neD hr.units) (pe_ix (r := rIxT K) ix_tup (pv 1) pe_int (fun _ _ => rfl)) (pe_tupF pa_nil) (nomark _)) (pw_or1 (pt_cmpR (r := rNeD K) (op_neD hr.units) (pe_ix (r := rIxT K) ix_tup (pv 1) pe_int (fun _ _ => rfl)) pe_int (nomark _))))))) (pss_one (ps_ret pe_bl)) pss_nil)))
      (pss_one (ps_ret (pe_cmpR (r := rEqD K) (op_eqD hr.units) (pe_slice (r := rSlA K) sl_tupA (pv 0) (po_some pe_int) po_none) (pe_tupF (pa_cons (pe_tupF pa_nil) (pa_cons (pe_tupF pa_nil) pa_nil))) (nomark _))))), ?_⟩
  have tl := hb.tl
  have i2 : ∀ {s : L2.St} {G : Hp} {q : Sd}, SD G s (some b.d :: q) → EvD (tOp (rIxT K) (tVar 0) (tC (.int 2))) s G (.tuple (b.ts.map Tk.d)) := fun S => dv_ixT (ds := [.tuple (b.ms.map .str), .tuple ((goodsD b.hand).map pairD), .tuple (b.ts.map Tk.d), .tuple (b.waits.map waitD), .tuple (b.fixs.map fixD)]) (dv_var S) dv_int (atI_nat (j := 2) rfl)
  refine mq_for (ds := b.ts.map Tk.d) (js := [1]) (fun j q M => M = [] ∧ (∀ m t, m < j → b.ts[m]? = some t → badT b t = false) ∧ ∃ x, q = [some b.d, x]) (MSt.start S (Nx.refl i)) ⟨rfl, fun m t h => absurd h (Nat.not_lt_zero _), none, rfl⟩ (fun G0 S0 => ei_tup (i2 S0)) (fun j d q M hj hq => ?_) fun q M s' H' hq hM => ?_
  · obtain ⟨rfl, hno, x, rfl⟩ := hq
    rw [List.getElem?_map] at hj
    obtain ⟨t, ht, rfl⟩ := Option.map_eq_some_iff.mp hj
    have htm := List.mem_of_getElem? ht
    have ft := fine_mach hb t htm
    obtain ⟨t0, ht0⟩ : ∃ t0, b.ts[0]? = some t0 := by
      cases e : b.ts with
      | nil => exact absurd e hb.ne
      | cons a r => exact ⟨a, rfl⟩
    have ft0 := fine_mach hb t0 (List.mem_of_getElem? ht0)
    have em : b.mach = t0.mach := by unfold Bk.mach; rw [ht0]; rfl
    refine ⟨rfl, _, tg_name, fun Gc Hc nc s3 H3 hM => ?_⟩
    obtain ⟨G3, S3, n3⟩ := hM.freeze
    have ix : ∀ {d : PyData} (j : Nat), [PyData.str t.nm, .int t.len, .str t.mach, .tuple ((needsD t.needs).map pairD), .int t.first, dueD t.due, .int t.wt][j]? = some d → EvD (tOp (rIxT K) (tVar 1) (tC (.int (j : Nat)))) s3 G3 d := fun j h => dv_ixT (dv_var (d := t.d) S3) dv_int (atI_nat h)
    refine sd_if (b := badT b t) n3.i (et_is (et_or (tt_T (dv_eqD (d1 := .str t.mach) (ix 2 rfl) dv_str ft.shaped (by decide +kernel))) fun _ => et_or (tt_T (dv_neD (d1 := .str t.mach) (d2 := .str t0.mach) (ix 2 rfl) (dv_ixT (ds := [.str t0.nm, .int t0.len, .str t0.mach, .tuple ((needsD t0.needs).map pairD), .int t0.first, dueD t0.due, .int t0.wt]) (dv_ixT (ds := b.ts.map Tk.d) (d := t0.d) (i2 S3) dv_int (atI_nat (j := 0) (by rw [List.getElem?_map, ht0]; rfl))) dv_int (atI_nat (j := 2) rfl)) ft.shaped ft0.shaped)) fun _ => et_or (tt_T (dv_neD (d1 := .tuple ((needsD t.needs).map pairD)) (ix 3 rfl) (dv_tup ds_nil) ?_ (by decide +kernel))) fun _ => tt_T (dv_neD (d1 := .int t.first) (ix 4 rfl) dv_int (shaped_int _) (shaped_int _))) ?_) (fun hb1 H4 n4 => ?_) fun hb1 H4 n4 => ?_
    · unfold needsD; cases t.needs <;> decide +kernel
    · unfold badT
      rw [eqv_str, eqv_str, eqv_int, em, Bool.beq_eq_decide_eq, Bool.beq_eq_decide_eq, Bool.beq_eq_decide_eq]
      have : (!PyData.eqv (.tuple ((needsD t.needs).map pairD)) (.tuple [])) = t.needs := by
        unfold needsD; cases t.needs <;> decide +kernel
      rw [this]
    · refine sd_ret n4.i dv_bl fun v G5 H5 n5 hv => k v G5 H5 (nc.trans ((n3.trans n4).trans n5)) ?_
      have e : isSingle b = false := by
        unfold isSingle
        rw [Bool.and_eq_false_iff]
        refine .inl (Bool.eq_false_iff.mpr fun z => ?_)
        have := List.all_eq_true.mp z t htm
        rw [hb1] at this
        cases this
      rw [e]
      exact hv
    · refine ⟨_, [], ⟨rfl, fun m t' hm ht' => ?_, _, rfl⟩, MSt.start S3 (n3.trans n4)⟩
      rcases Nat.lt_or_ge m j with c | c
      · exact hno m t' c ht'
      · have : m = j := by omega
        subst this
        rw [ht] at ht'
        cases ht'
        exact hb1
  · obtain ⟨rfl, hno, x, rfl⟩ := hq
    obtain ⟨G3, S3, n3⟩ := hM.freeze
    have hall : b.ts.all (fun t => !badT b t) = true := List.all_eq_true.mpr fun t ht => by
      obtain ⟨m, hm⟩ := List.mem_iff_getElem?.mp ht
      rw [hno m t (by rw [List.length_map]; exact (List.getElem?_eq_some_iff.mp hm).1) hm]
      rfl
    have sh : shN (.tuple [.tuple (b.waits.map waitD), .tuple (b.fixs.map fixD)]) = true := by
      obtain ⟨m, hm, ho⟩ := hb.fine
      cases m with
      | zero => cases ho
      | succ m =>
        have h2 := (okN_tup ho).2
        exact (show Fine _ from ⟨m + 1, hm, okN_tupI (by show 2 ≤ 1000; decide) fun y hy => h2 y (by
          simp only [List.mem_cons, List.not_mem_nil, or_false] at hy
          rcases hy with rfl | rfl <;> simp)⟩).shaped
    refine sd_ret n3.i (dv_is (dv_eqD (d1 := .tuple [.tuple (b.waits.map waitD), .tuple (b.fixs.map fixD)]) (dv_slT (ds := [.tuple (b.ms.map .str), .tuple ((goodsD b.hand).map pairD), .tuple (b.ts.map Tk.d), .tuple (b.waits.map waitD), .tuple (b.fixs.map fixD)]) (lo := some 3) (hi := none) (dv_var S3) (eo_int dv_int) eo_none (gds_two _ _ [])) (dv_tup (ds_cons (dv_tup ds_nil) (ds_cons (dv_tup ds_nil) ds_nil)) (by show 2 ≤ 100000; decide)) sh (by decide +kernel)) ?_) fun v G5 H5 n5 hv => k v G5 H5 (n3.trans n5) hv
    unfold isSingle Bk.waits Bk.fixs
    rw [hall]
    cases b.wait <;> cases b.fixed <;> simp [PyData.eqv, PyData.eqvAll]
end
end K9

set_option Elab.async false
set_option linter.all false
set_option maxRecDepth 100000
set_option maxHeartbeats 4000000
/-! An exception that is kept behind its suite: isinstance of it, its field. -/
namespace K9
open PySem PySem.Spec PyProof.Rows L2 Evl
section
open PySem.W PySem.Calls
variable {prog : Program} {w : World} {A : Around} {E : Value → Shared → Prop} {s : Shared} {K : Frag} {x D : Addr} {ox : Obj} {od : Obj}
/-- the class of an exception that has a dict, as getattr tells it -/
theorem cls_told {Q : Option Value → Shared → Prop} (T : L2.ExcC K D) (X : K.In s.heap) (I : InstAt s.heap x ox D (some od)) (h : Q (some (.ref D)) { s with toks := s.toks + 1 }) : wpAny (model prog w) A (getAttr? (.ref x) "__class__") Q E s := by
  have hf : findObj K D (some od) "__class__" = some (.bind (.builtin "getset_descriptor.__get__") (.builtin "object.__class__")) := findObj_data (by obtain ⟨cd, hc, _⟩ := any_some T.hd; rw [hc]; rfl) T.ha T.hn T.ht
  obtain ⟨hp, g, d, t, os⟩ := s
  have L0 := I.type (M := model prog w)
  have L1 := looks_findIn (M := model prog w) X T.hg
  have L2' := looks_findIn (M := model prog w) X T.hk
  have L3 := looks_find (M := model prog w) X I hf
  have sub : Looks (model prog w) hp (isInstance (.ref x) (.type "BaseException")) true := L0.andThen (looks_subIn X T.hs)
  have n2 : (Value.builtin "BaseException.__getattribute__" == Value.builtin "object.__getattribute__") = false := by decide +kernel
  have n1 : (onTheHeap (Value.ref D) && Value.builtin "BaseException.__getattribute__" == Value.builtin "object.__getattribute__") = false := by rw [n2]; rfl
  have n0 : (false && onTheHeap (Value.builtin "BaseException.__getattribute__")) = false := rfl
  unfold getAttr? getAttrBy? getAttrBy
  refine wpAny_bind (wpAny_mkText (wpAny_bind (wpAny_attempt (wpAny_holding (wpAny_bind (L0.at (wpAny_bind (L1.at ?_))))))))
  show wpAny _ _ (if (onTheHeap (Value.ref D) && Value.builtin "BaseException.__getattribute__" == Value.builtin "object.__getattribute__") = true then _ else _) _ _ _
  rw [n1, if_neg Bool.false_ne_true]
  unfold getAttrByItsOwn hookBefore
  refine wpAny_bind ?_
  rw [if_pos (show onTheHeap (Value.ref D) = true from rfl)]
  refine L2'.at ?_
  refine wpAny_bind (wpAny_attempt (wpAny_holding ?_))
  unfold callGetattribute
  rw [n0, if_neg Bool.false_ne_true]
  unfold boundAndCalled
  rw [PySem.F.excAttr_ValueError.ga.bind (.ref x)]
  refine wpAny_bind (wpAny_pure ?_)
  show wpAny _ _ (call (.builtin "BaseException.__getattribute__") [.ref x, .str "__class__" t]) _ _ _
  refine wpAny_call (codeAny_call_builtin PySem.F.excAttr_ValueError.ga.plain PySem.F.entry_bexc_ga ?_)
  refine @check_slot (model prog w) _ _ ⟨hp, g, d, t + 1, os⟩ "BaseException.__getattribute__" "BaseException" "__getattribute__" (.ref x) [.str "__class__" t] [] _ (by decide +kernel) (by decide +kernel) sub (PySem.F.args_bexc_ga (.ref x) (.str "__class__" t)) ?_
  unfold Builtin.«object.__getattribute__»
  refine wpAny_bind (wpAny_of_eq (a := ((Value.ref x : Value), [Value.str "__class__" t])) (by first | rfl | (simp only [slotArgs]; rfl)) ?_)
  refine wpAny_bind (wpAny_pure (wpAny_bind (L0.at (wpAny_bind (L3.at ?_)))))
  show wpAny _ _ (holding [Value.builtin "object.__class__"] (call (.builtin "getset_descriptor.__get__") [.builtin "object.__class__", .ref x, .ref D]) >>= ret) _ _ _
  refine wpAny_bind (wpAny_holding (wpAny_call (class_get (s := ⟨hp, g, d, t + 1, os⟩) (ox := ox) (od := some od) X I T.hm ?_)))
  refine wpAny_pure ?_
  show wpAny _ _ (handedOut (.ref D)) _ _ _
  rw [handedOut_of (v := .ref D) rfl]
  first
    | exact wpAny_pure (wpAny_pure h)
    | exact wpAny_pure h
    | exact wpAny_pure (wpAny_bind (wpAny_pure (wpAny_pure h)))
theorem kit_told (T : L2.ExcC K D) : KitX K (.ref x) (.ref D) (fun h => InstAt h x ox D (some od)) where
  ty := fun _ _ _ I => I.type
  it := fun _ _ X _ => by
    obtain ⟨cdD, hcD, _⟩ := any_some T.hd
    unfold clsIn at hcD
    split at hcD
    · rename_i c' d' cd' sl' ho
      intro A' Q' E' s' k q
      unfold isType loadHead
      exact wpAny_bind (wpAny_loadPart (k _ _ (X _ _ ho)) (wpAny_pure q))
    · cases hcD
  ne := fun h tp dd its n sl X htp => by
    obtain ⟨cdD, hcD, _⟩ := any_some T.hd
    refine Bool.eq_false_iff.mpr fun q => ?_
    have e : D = tp := Value.ref.inj (beq_iff_eq.mp q)
    subst e
    unfold clsIn at hcD
    split at hcD
    · rename_i c' d' cd' sl' ho
      have z := (X _ _ ho).symm.trans htp
      cases z
    · cases hcD
  ca := fun X I k => cls_told T X I k
end
/-- at a: an exception of the class cls, its dict at d -/
def ExK (cls : Value) (d : Option Addr) (a : Addr) : HO := .ext fun h => ∃ (oe : Obj) (vs : Array Value), h.get? a = some oe ∧ Zc cls d oe ∧ oe.data = .fields vs
theorem exK_ok {P : Program} {w : World} {H : Hp} {h : Heap} {cls : Value} {d : Option Addr} {a : Addr} {oe : Obj} {vs : Array Value} (e : h.get? a = some oe) (z : Zc cls d oe) (hd : oe.data = .fields vs) : ObjOk P w H h a (ExK cls d a) :=
  ⟨⟨oe, vs, e, z, hd⟩, ⟨oe, e⟩, fun _ _ ⟨o, v, q, r⟩ k => ⟨o, v, k o q, r⟩⟩
section
variable {X : Cx} {pins : List (Addr × Obj)} {σ : L2.St} {H : Hp} {s : Shared}
/-- an exception that nobody tracks is tracked -/
theorem track {a : Addr} {oe : Obj} {vs : Array Value} {cls : Value} {d : Option Addr} (I : Inv X ((a, oe) :: pins) σ H s) (z : Zc cls d oe) (hd : oe.data = .fields vs) (n0 : X.s_0.heap.get? a = none) (hp : ∀ p ∈ X.pn ++ pins, p.1 ≠ a) : Inv X pins σ (upd H a (ExK cls d a)) s := by
  obtain ⟨ha, na, nL, nF, _⟩ := I.pin (a, oe) (List.mem_append_right _ List.mem_cons_self)
  have ne0 : ∀ b o, X.s_0.heap.get? b = some o → b ≠ a := fun b o e q => by
    rw [q, n0] at e
    cases e
  refine ⟨I.ok, I.os, I.bare, ⟨fun b o e n => I.base.keep b o e ?_, fun b o e n => I.base.slot b o e ?_, fun b o e n hx => ?_, I.base.there, fun b xs e => ?_, fun b o u e => ?_, fun b ps e => ?_⟩, I.loc, I.cell, ?_, fun x c e => ?_, fun p hm => ?_, fun b o e => ?_, I.len⟩
  · exact n
  · exact n
  · rw [upd_ne (ne0 b o e)]
    exact I.base.free b o e n hx
  · have q := I.base.tups b xs e
    rw [upd_ne (ne_of_none q na)]
    exact q
  · have q := I.base.frzs b o u e
    rw [upd_ne (ne_of_none q na)]
    exact q
  · obtain ⟨m, q⟩ := I.base.tbls b ps e
    exact ⟨m, by rw [upd_ne (ne_of_none q na)]; exact q⟩
  · rw [upd_ne (Ne.symm nL)]
    exact I.free
  · have hc : c ≠ a := fun q => by
      obtain ⟨v, o, ho, hdc⟩ := I.cell x c e
      rw [q, ha] at ho
      cases ho
      rw [hd] at hdc
      cases hdc
    rw [upd_ne hc]
    exact I.freeC x c e
  · obtain ⟨e, n, n1, n2, n3⟩ := I.pin p (by
      rcases List.mem_append.mp hm with q | q
      · exact List.mem_append_left _ q
      · exact List.mem_append_right _ (List.mem_cons_of_mem _ q))
    exact ⟨e, by rw [upd_ne (hp p hm)]; exact n, n1, n2, n3⟩
  · by_cases hb : b = a
    · subst hb
      rw [upd_same] at e
      cases e
      exact exK_ok ha z hd
    · rw [upd_ne hb] at e
      exact (I.hok b o e).stay (fun c v _ q => q) (fun c q => by rw [upd_ne (ne_of_none q na)]; exact q) fun c xs q => by rw [upd_ne (ne_of_none q na)]; exact q
theorem unsuite_pin {a : Addr} {oe : Obj} {pn' : List (Addr × Obj)} (I : Inv (X.suite a ((a, oe) :: (X.pn ++ pins))) pn' σ H s) (ok : X.Ok) : Inv X ((a, oe) :: pins) σ H s :=
  ⟨ok, I.os, I.bare, I.base, I.loc, I.cell, I.free, I.freeC, fun p hp => I.pin p (by
    rcases List.mem_append.mp hp with q | q
    · exact List.mem_append_left _ (List.mem_cons_of_mem _ (List.mem_append_left _ q))
    · rcases List.mem_cons.mp q with q | q
      · rw [q]
        exact List.mem_append_left _ List.mem_cons_self
      · exact List.mem_append_left _ (List.mem_cons_of_mem _ (List.mem_append_right _ q))), I.hok, I.len⟩
end
/-- what such a clause wishes: the suite runs, and the exception is tracked behind it -/
def wKeep (K : PySem.W.Frag) (c : Value) (i : Nat) (ts : TS) (D : Ends) : WX := fun cls d σ H =>
  PySem.W.exmOne K cls c = some true ∧ ∀ a, H a = none → ts { nx := fun σ' H' => D.nx (σ'.set i none) (upd H' a (ExK cls d a)), rt := fun _ _ => False, bk := fun _ _ => False, ct := fun _ _ => False } (σ.set i (some (.ref a))) H
section
variable {X : Cx} {x n : Str} {c : Value} {i : Nat} {body suite : List Stmt} {b₀ : Stmt} {np pos pos' : Pos} {tb : WX → TS} {ts : TS}
theorem ps_try_keep (hs : X.stack = X.env :: X.outer) (hf : X.env.frame = some X.env.locals) (hex : X.ex = []) (hN : X.N.Nodup) (hi : X.N[i]? = some n) (hln : X.env.kindOf n = some .local) (hc : Names X x c)
    (hb : ∀ (W : WX) (pn : List (Addr × Obj)) (xe : Value → Shared → Prop), Takes (X.tr pn xe) W → PassesOwn (model X.prog X.w) X.A X.env xe → PSs (X.tr pn xe) body (tb W))
    (hsu : ∀ (a : Addr) (oe : Obj) (pn : List (Addr × Obj)), PSs (X.suite a ((a, oe) :: pn)) (b₀ :: suite) ts) :
    PS X (.Try body [.ExceptHandler (some (.Name x np)) (some n) (b₀ :: suite) pos'] [] [] pos) (fun D σ H => tb (wKeep X.K c i ts D) D σ H) := by
  refine ⟨fun pins s σ H D I h => ?_⟩
  have ok := I.ok
  have hfr : X.A.frames = some (X.env :: X.outer) := by rw [ok.frames, hs]
  have hloc : Loc X.env.scope n := .inl hln
  refine wpAny_Try_except ?_
  refine wpAny_mono ((hb (wKeep X.K c i ts D) (X.pn ++ pins) (fun e s₁ => wpAny (model X.prog X.w) X.A (noteFrame e X.env) (fun _ s₂ => wpAny (model X.prog X.w) X.A (setFlight e none) (fun _ s₃ =>
    wpAny (model X.prog X.w) X.A (handleBy e X.env [.ExceptHandler (some (.Name x np)) (some n) (b₀ :: suite) pos']) (SP X pins D) X.xe s₃) X.xe s₂) X.xe s₁) (fun u s' xx => ?_) PassesOwn.looking).run [] s σ H D (I.toTry _) h) (fun f s1 hsp => ?_) (fun e s1 he => he)
  · obtain ⟨a, B, sI, pins', σ', H', cls, d, rfl, J', nb, up, sky, na, os, ag, hb1, hyes⟩ := xx
    have J : Inv X pins σ' H' sI := J'.ofTry ok
    have sky' : Sky B (X.env :: X.outer) a (Zc cls d) X.env.locals s'.heap := by rw [← hs]; exact sky
    have hBa : B.get? a = none := by
      rcases sky with ⟨_, q, _⟩ | q | q
      · exact q
      · exact q.2.1
      · exact q.2.1
    show wpAny (model X.prog X.w) X.A (noteFrame (.ref a) X.env) _ _ _
    refine Sky.land Zc.steady hfr hf sky' fun h3 fl3 up3 => ?_
    have J3 : Inv X pins σ' H' { s' with heap := h3 } := J.landed nb fl3.1 (up.trans up3) os ag
    obtain ⟨oe3, vs3, he3, hz3, hd3⟩ := fl3.there
    have nfr : a ∉ frs (X.env :: X.outer) := fun hm => by
      obtain ⟨_, o', e', hnf⟩ := fl3.2.2.1.mem hm
      rw [he3] at e'
      cases e'
      exact hnf _ hd3
    have nL : a ≠ X.env.locals := fun z => nfr (List.mem_filterMap.mpr ⟨X.env, List.mem_cons_self, by rw [hf, z]⟩)
    have nF : a ∉ X.fs := fun hm => by
      obtain ⟨e, he, q⟩ := List.mem_filterMap.mp hm
      exact nfr (List.mem_filterMap.mpr ⟨e, List.mem_cons_of_mem _ he, q⟩)
    -- it is new
    have nI : sI.heap.get? a = none := by
      cases e : sI.heap.get? a with
      | none => rfl
      | some o =>
        have q := nb a o e (by rw [hs]; exact nfr)
        rw [hBa] at q
        cases q
    have n0 : X.s_0.heap.get? a = none := by
      cases e : X.s_0.heap.get? a with
      | none => rfl
      | some o =>
        obtain ⟨o', q⟩ := J.base.there a o e (by rw [hex]; exact fun z => nomatch z)
        rw [nI] at q
        cases q
    have npin : ∀ p ∈ X.pn ++ pins, p.1 ≠ a := fun p hp z => by
      have q := (J.pin p hp).1
      rw [z, nI] at q
      cases q
    have S3 := J3.suite he3 hd3 na nL nF
    refine wpAny_handleBy_cons (codeAny_handlers_test ?_) (by intro q; cases q)
    have LT : PySem.W.Looks (model X.prog X.w) h3 (typeOf (.ref a)) cls := fun A Q E s k q => wpAny_typeOf_ref (k _ _ he3) (by rw [hz3.1]; exact q)
    have LM := PySem.W.exm_one (M := model X.prog X.w) (J3.kIn) LT hb1
    have test : ∀ {Q : Value → Shared → Prop} {E : Value → Shared → Prop}, Q c { s' with heap := h3 } → wpAny (model X.prog X.w) (X.A.mark (some (.ref a))) (eval (.Name x np) X.env) Q E { s' with heap := h3 } := fun {Q E} q => by
      obtain ⟨hg, hdbg, hm | ⟨hm, hv, hnn⟩⟩ := hc
      · exact ld_glob (X := X.suite a ((a, oe3) :: (X.pn ++ pins))) S3 hg hm q hdbg
      · exact ld_blt (X := X.suite a ((a, oe3) :: (X.pn ++ pins))) S3 hg hm hv q hnn hdbg
    refine test (LM.here ?_)
    refine codeAny_handlers_suite_as ?_
    refine HandSPX.lands_againZ fl3 fun h4 fl4 up4 => ?_
    have J4 : Inv X pins σ' H' { s' with heap := h4 } := J.landed nb fl4.1 ((up.trans up3).trans up4) os ag
    obtain ⟨oe4, vs4, he4, hz4, hd4⟩ := fl4.there
    have S4 := J4.suite he4 hd4 na nL nF
    refine store_ok (X := X.suite a ((a, oe4) :: (X.pn ++ pins))) (v := .ref a) S4 hN hi hloc rfl (fun s5 S5 => ?_) (.inr hln)
    refine wpAny_mono ((hsu a oe4 (X.pn ++ pins)).run [] s5 _ H' _ S5 (hyes a na)) (fun f s6 hsp => ?_) (fun _ _ z => False.elim z)
    cases f with
    | next =>
      obtain ⟨σ6, H6, S6, q6⟩ := hsp
      exact gone_ok (unsuite_pin S6 ok) hN hi hln fun s7 J7 => ⟨_, _, track J7 hz4 hd4 n0 npin, q6⟩
    | brk =>
      obtain ⟨_, _, _, q6⟩ := hsp
      exact q6.elim
    | cont =>
      obtain ⟨_, _, _, q6⟩ := hsp
      exact q6.elim
    | ret u =>
      obtain ⟨_, _, _, _, _, q6⟩ := hsp
      exact q6.elim
  · cases f with
    | next =>
      obtain ⟨σ', H', J', q⟩ := hsp
      exact wpAny_execs_nil ⟨σ', H', J'.ofTry ok, q⟩
    | brk =>
      obtain ⟨σ', H', J', q⟩ := hsp
      exact ⟨σ', H', J'.ofTry ok, q⟩
    | cont =>
      obtain ⟨σ', H', J', q⟩ := hsp
      exact ⟨σ', H', J'.ofTry ok, q⟩
    | ret u =>
      obtain ⟨v, σ', H', J', r, q⟩ := hsp
      exact ⟨v, σ', H', J'.ofTry ok, r, q⟩
/-! ### what is asked of the kept one -/
/-- at a: an exception of the class at C, its dict at dd holds fs -/
def KeptAt (H : Hp) (C a : Addr) (fs : List (Str × V)) : Prop := ∃ dd, H a = some (ExK (.ref C) (some dd) a) ∧ H dd = some (.xd fs)
theorem KeptAt.up {H H' : Hp} {C a : Addr} {fs : List (Str × V)} (h : KeptAt H C a fs) (e : Ex H H') : KeptAt H' C a fs := let ⟨dd, h1, h2⟩ := h; ⟨dd, e _ _ h1, e _ _ h2⟩
theorem kept_inst {pins : List (Addr × Obj)} {σ : L2.St} {H : Hp} {s : Shared} {C a : Addr} {fs : List (Str × V)} (I : Inv X pins σ H s) (h : KeptAt H C a fs) : ∃ (oe : Obj) (mA : Str → Option Value) (od : Obj), PySem.W.InstAt s.heap a oe C (some od) ∧ (∀ f, RelO (fs.lookup f) (mA f)) ∧ ∀ f, PySem.W.lookIn f od = some (mA f) := by
  obtain ⟨dd, h1, h2⟩ := h
  have e1 : ObjOk X.prog X.w H s.heap a (ExK (.ref C) (some dd) a) := I.hok a _ h1
  obtain ⟨⟨oe, vs, ha, hz, hd⟩, _⟩ := (show (∃ (oe : Obj) (vs : Array Value), s.heap.get? a = some oe ∧ Zc (.ref C) (some dd) oe ∧ oe.data = .fields vs) ∧ _ from e1)
  have e2 : ObjOk X.prog X.w H s.heap dd (.xd fs) := I.hok dd _ h2
  obtain ⟨mA, hns, hr⟩ := e2
  obtain ⟨od, ho, hl⟩ := lookIn_ns hns
  exact ⟨oe, mA, od, ⟨ha, hz.1, by unfold PySem.W.notCls; rw [hd] <;> rfl, by rw [hz.2]; exact ho⟩, hr, hl⟩
def rIsK1 (K : PySem.W.Frag) (C : Addr) : List V → Hp → VK → Prop := fun xs H Q => ∃ (a : Addr) (fs : List (Str × V)) (cv : V) (u : Value) (b : Bool), xs = [.ref a, cv] ∧ KeptAt H C a fs ∧ ClsV cv u ∧ PySem.W.kitOne K (.ref C) u = some b ∧ Q (.bl b) H
theorem call_isK1 {C : Addr} (T : ExcC X.K C) : CallR X (.builtin "isinstance") (rIsK1 X.K C) := by
  intro pins s σ H xs us Q I r h
  obtain ⟨a, fs, cv, u, b, rfl, hk, hc, e, q⟩ := h
  obtain ⟨u1, u2, rfl, r1, r2⟩ := vals2 r
  cases (show u1 = Value.ref a from r1)
  have e2 := hc.eq r2
  subst e2
  obtain ⟨oe, mA, od, J, _, _⟩ := kept_inst I hk
  exact PySem.W.kia_one (kit_told T) I.kIn J e (fun z => nomatch z) fun tk => ⟨.bl b, H, I.tok tk, rfl, q⟩
def rIsKT (K : PySem.W.Frag) (C : Addr) : List V → Hp → VK → Prop := fun xs H Q => ∃ (a tp : Addr) (fs : List (Str × V)) (cs : List V) (us : List Value) (b : Bool), xs = [.ref a, .ref tp] ∧ KeptAt H C a fs ∧ RT H tp cs ∧ Paired ClsV cs us ∧ PySem.W.kitAny K (.ref C) us = some b ∧ Q (.bl b) H
theorem call_isKT {C : Addr} (T : ExcC X.K C) : CallR X (.builtin "isinstance") (rIsKT X.K C) := by
  intro pins s σ H xs us Q I r h
  obtain ⟨a, tp, fs, cs, ws, b, rfl, hk, ht, hc, e, q⟩ := h
  obtain ⟨u1, u2, rfl, r1, r2⟩ := vals2 r
  cases (show u1 = Value.ref a from r1)
  cases (show u2 = Value.ref tp from r2)
  obtain ⟨oe, mA, od, J, _, _⟩ := kept_inst I hk
  have fin : ObjOk X.prog X.w H s.heap tp (.tup cs) := by
    rcases ht with ht | ⟨o, _, ht⟩
    · exact I.hok _ _ ht
    · exact (show ObjOk X.prog X.w H s.heap tp (.frz o _) from I.hok _ _ ht).2
  obtain ⟨_, its, rv, o, h1, h2, n, h3⟩ := fin
  have e3 := ClsV.all hc rv
  subst e3
  obtain ⟨oc, odc, dt, sl⟩ := o
  simp only at h2 h3
  subst h2 h3
  exact PySem.W.kia_tup (kit_told T) I.kIn J h1 e (fun z => nomatch z) fun tk => ⟨.bl b, H, I.tok tk, rfl, q⟩
/-- e.f, e the kept one -/
def tXk (K : PySem.W.Frag) (C : Addr) (f : Str) (te : TE) : TE := fun σ H Q => te σ H fun x H1 => ∃ (a : Addr) (fs : List (Str × V)) (v : V), x = .ref a ∧ KeptAt H1 C a fs ∧ fs.lookup f = some v ∧ Q v H1
theorem pe_xk {C : Addr} {e : Expr} {te : TE} {pos : Pos} {n : Str} (T : XfC X.K C) (hno : PySem.W.findIn X.K (.ref C) n = some none) (he : PE X e te) (hb : attributeBase e n X.env (eval e X.env) = eval e X.env := by rfl) : PE X (.Attribute e n pos) (tXk X.K C n te) := by
  refine ⟨fun pins s σ H Q I h => ?_⟩
  refine attr_of hb (thn (he.run pins s σ H _ I h) fun u s1 hh => ?_)
  obtain ⟨x, H1, I1, rx, a, fs, v, rfl, hk, l, q⟩ := hh
  cases (show u = Value.ref a from rx)
  obtain ⟨oe, mA, od, J, hr, hl⟩ := kept_inst I1 hk
  obtain ⟨u, hu, ru⟩ := RelO.some_of (v := v) (o := mA n) (by rw [← l]; exact hr n)
  exact HandSPX.exc_get I1.kIn J T.ga T.gg T.exC (PySem.W.findObj_own T.hdC hno rfl (by rw [hl, hu])) (handed_of ru) ⟨v, H1, I1.tok _, ru, q⟩
end
end K9

set_option Elab.async false
set_option linter.all false
set_option maxRecDepth 100000
set_option maxHeartbeats 4000000
/-! What BadBook tells. -/
namespace K9
open PySem PySem.Spec PyProof.Rows L2 Evl
/-- what the module says of the classes that are asked for -/
structure ErrC (K : PySem.W.Frag) (mg : Str → Option Value) (C p : Addr) : Prop where
  ec : ExcC K C
  xf : XfC K C
  ex : PySem.W.exmOne K (.ref C) (.ref p) = some true
  kC : PySem.W.kitOne K (.ref C) (.ref C) = some true
  kV : PySem.W.kitOne K (.ref C) (.type "ValueError") = some true
  others : ∃ a1 a2 a3 a4 a5 a6 : Addr, mg "BadArcs" = some (.ref a1) ∧ mg "BadPlan" = some (.ref a2) ∧ mg "BadRows" = some (.ref a3) ∧ mg "BadTasks" = some (.ref a4) ∧ mg "BadText" = some (.ref a5) ∧ mg "BadWorth" = some (.ref a6) ∧
    PySem.W.kitAny K (.ref C) [.ref a1, .ref a2, .ref a3, .ref a4, .ref a5, .ref a6] = some false
section
variable {X : Cx} {e : Expr} {es : List Expr} {t : TA} {p pos : Pos} {x : Str} {k j : Nat} {sp : Sp} {W : WX}
theorem pe_cxS (c : CalX X.prog X.w X.K X.mg X.base k x sp) (tk : Takes X W) (hr : Room j X.A) (hk : k ≤ j) (hg : Gl X x) (ha : PA X (e :: es) t)
    (hdb : (x == ("__debug__" : Str)) = false := by decide) (he : starEach (e :: es) X.env = (false, eval e X.env) :: starEach es X.env := by rfl) (hpl : (backTo pos (starEach es X.env)).any (·.1) = false := by rfl) :
    PE X (.Call (.Name x p) (e :: es) [] pos) (tCallS sp (WE W) t) := by
  obtain ⟨f, fd, ps, F, hm, kp, b⟩ := c.ex
  exact pe_callS F (hr.mono hk) hg hm kp b (fun σ => passAt tk σ) ha hdb he hpl
end
section
variable {K : PySem.W.Frag} {s : L2.St} {G0 H : Hp} {ta tb te : TE} {tr : TA} {d : PyData} {ds : List PyData} {D : Ends} {E : L2.St → XK} {n : Nat} {C : Addr} {R : List PyData → Except Str (PyData → Prop) → Prop} {Pd : PyData → Prop} {q : Sd}
theorem dp_callS (h : EvDs tr s G0 ds) (hR : R ds (.ok Pd)) (hn : ds.length = n := by rfl) : EvP (tCallS (SpX n C R) E tr) s G0 Pd := fun G H e i Q k =>
  h G H e i _ fun vs G2 H2 n2 h2 => ⟨h2.len.trans hn, G2, ds, n2.i, h2, .inl ⟨Pd, hR, fun v d G3 H3 hp n3 hv => k v d G3 H3 hp (n2.trans n3) hv⟩⟩
theorem sd_raisesS (w : Ex G0 H) (h : EvDs tr s G0 ds) {x : Str} (hR : R ds (.error x)) (k : XD C x G0 H (E s)) (hn : ds.length = n := by rfl) : tDrop (tCallS (SpX n C R) E tr) D s H :=
  h G0 H (Ex.refl _) w _ fun vs G2 H2 n2 h2 => ⟨h2.len.trans hn, G2, ds, n2.i, h2, .inr ⟨x, hR, k.on n2⟩⟩
theorem dv_ref {a : Addr} : EvD (tC (.ref a)) s G0 (rawD a) := dv_ev (v := .ref a) (fun H1 e Q q => q H1 (Ex.refl H1)) fun _ => .raw a
theorem dv_isK1 {a c : Addr} {fs : List (Str × V)} {b : Bool} (ha : EvD ta s G0 (rawD a)) (hk : KeptAt G0 C a fs) (hb : PySem.W.kitOne K (.ref C) (.ref c) = some b) : EvD (tCB (rIsK1 K C) (tCons ta (tCons (tC (.ref c)) tNil))) s G0 (.bool b) :=
  dv_cb (ds_cons ha (ds_cons dv_ref ds_nil)) fun G H vs e w hv Q k => by
    obtain ⟨v, u, rfl, h1, h2⟩ := hv.inv2
    cases h1.atRaw
    cases h2.atRaw
    exact ⟨a, fs, _, _, b, rfl, hk.up (e.trans w), ClsV.own c, hb, k _ G H (Nx.refl w) (.bl b)⟩
theorem dv_isKV {a : Addr} {fs : List (Str × V)} {b : Bool} {n : String} (ha : EvD ta s G0 (rawD a)) (hk : KeptAt G0 C a fs) (hb : PySem.W.kitOne K (.ref C) (.type n) = some b) : EvD (tCB (rIsK1 K C) (tCons ta (tCons (tC (.ty n)) tNil))) s G0 (.bool b) := fun G H e i Q q =>
  ha G H e i _ fun v G2 H2 n2 h2 => by
    cases h2.atRaw
    exact ⟨a, fs, _, _, b, rfl, hk.up ((e.trans n2.g).trans n2.i), ClsV.ty n, hb, q _ G2 H2 n2 (.bl b)⟩
theorem raws {G : Hp} : ∀ {cs : List Addr} {vs : List V}, DDs G vs (cs.map rawD) → vs = cs.map V.ref
  | [], _, .nil => rfl
  | c :: cs, _, .cons h t => by
    cases h.atRaw
    rw [List.map_cons, raws t]
theorem clsVs : ∀ cs : List Addr, Paired ClsV (cs.map V.ref) (cs.map Value.ref)
  | [] => .nil
  | c :: cs => .cons (ClsV.own c) (clsVs cs)
theorem dv_isKT {a : Addr} {fs : List (Str × V)} {cs : List Addr} {b : Bool} (ha : EvD ta s G0 (rawD a)) (hk : KeptAt G0 C a fs) (ht : EvD tb s G0 (.tuple (cs.map rawD))) (hb : PySem.W.kitAny K (.ref C) (cs.map Value.ref) = some b) : EvD (tCB (rIsKT K C) (tCons ta (tCons tb tNil))) s G0 (.bool b) :=
  dv_cb (ds_cons ha (ds_cons ht ds_nil)) fun G H vs e w hv Q k => by
    obtain ⟨v, u, rfl, h1, h2⟩ := hv.inv2
    cases h1.atRaw
    obtain ⟨tp, xs, rfl, et, hx⟩ := h2.atTup
    cases raws hx
    exact ⟨a, tp, fs, _, _, b, rfl, hk.up (e.trans w), et.up w, clsVs cs, hb, k _ G H (Nx.refl w) (.bl b)⟩
theorem dv_xk {a : Addr} {fs : List (Str × V)} {f x : Str} (ha : EvD ta s G0 (rawD a)) (hk : KeptAt G0 C a fs) (hl : fs.lookup f = some (.str x)) : EvD (tXk K C f ta) s G0 (.str x) := fun G H e i Q q =>
  ha G H e i _ fun v G2 H2 n2 h2 => by
    cases h2.atRaw
    exact ⟨a, fs, .str x, rfl, hk.up ((e.trans n2.g).trans n2.i), hl, q _ G2 H2 n2 (.str x)⟩
end
/-- what BadBook tells of such a thing, asked in such a way -/
def wordOf (b : Bk) (way : Int) : Str := if way = 3 then "" else if isSingle b = true then "" else "single"
def restW (K : PySem.W.Frag) (C a1 a2 a3 a4 a5 a6 : Addr) : TS := tSeq (tIfS (tTest (tOp (fun x y H Q => y = .non ∧ Q (.bl (decide (x = .non))) H) (tVar 2) (tC .non))) (tRet (tC (.str ""))) tNext) (tSeq (tAsg (tCB (rIsKT K C) (tCons (tVar 2) (tCons (tTupF (tCons (tC (.ref a1)) (tCons (tC (.ref a2)) (tCons (tC (.ref a3)) (tCons (tC (.ref a4)) (tCons (tC (.ref a5)) (tCons (tC (.ref a6)) tNil))))))) tNil))) (gName 4))           (tSeq (tIfS (tOr (tB (tVar 4)) (tOr (tNot (tB (tCB (rIsK1 K C) (tCons (tVar 2) (tCons (tC (.ref C)) tNil))))) (tNot (tB (tCB (rIsK1 K C) (tCons (tVar 2) (tCons (tC (.ty "ValueError")) tNil))))))) (tRet (tC (.str "other"))) tNext) (tRet (tXk K C "what" (tVar 2)))))
abbrev RWhat : List PyData → PyData → Prop := fun ds r => ∃ (d : PyData) (way : Int), ds = [d, .int way] ∧ 0 ≤ way ∧ way ≤ 3 ∧ Fine d ∧ ((hasForm d = false ∧ r = .str "form") ∨ ∃ b : Bk, d = b.d ∧ Good b ∧ r = .str (wordOf b way))
section
variable {P : Program} {w : World} {K : PySem.W.Frag} {mg : Str → Option Value} {base : Heap}
theorem ok_law_what {f C fI pe : Addr} {fd fdI : FuncData} (F : Fun K "_law_what" "_law_what" s_law_what f fd) (T : Txt mg) (B : BadC K mg C fI fdI) (L : PlE K mg pe) (Er : ErrC K mg C pe)
    (C_need_book : CalX P w K mg base 6 "need_book" (SpX 1 C RNeed)) (C_sum_plan : CalX P w K mg base 8 "sum_plan" (SpX 1 C (RS okSum))) (C_sum_shown : CalX P w K mg base 8 "sum_shown" (SpX 1 C (RS okShown))) (C_count_plan : CalX P w K mg base 8 "count_plan" (SpX 1 C (RS okFew))) :
    FnOk P w K mg base CX0 9 f fd ["_law_thing", "_law_way"] (SpR 2 RWhat) := by
  refine okD F sc_law_what rfl fun cdv A outer s G H vs ds r Q E hr hR S i k => ?_
  obtain ⟨d, way, rfl, hw0, hw1, hd, hres⟩ := hR
  obtain ⟨a1, a2, a3, a4, a5, a6, g1, g2, g3, g4, g5, g6, hall⟩ := Er.others
  refine ⟨_, (pss_cons (ps_set (i := 2) sc_law_what.nd rfl (Or.inl rfl) pe_non)
      (pss_cons (ps_try_keep (i := 3) (tb := _) rfl rfl rfl sc_law_what.nd rfl rfl ⟨by rfl, by decide, Or.inl L.g⟩ (fun W pn xe tk po => (pss_one (ps_if (pt_cmpR (r := rEqD K) (op_eqD hr.units) (pv 1) pe_int (nomark _)) (pss_one (ps_expr (pe_cxS C_sum_plan tk hr (by decide) (by rfl) (pa_cons (pv 0) pa_nil)))) (pss_one (ps_if (pt_cmpR (r := rEqD K) (op_eqD hr.units) (pv 1) pe_int (nomark _)) (pss_one (ps_expr (pe_cxS C_sum_shown tk hr (by decide) (by rfl) (pa_cons (pv 0) pa_nil)))) (pss_one (ps_if (pt_cmpR (r := rEqD K) (op_eqD hr.units) (pv 1) pe_int (nomark _)) (pss_one (ps_expr (pe_cxS C_count_plan tk hr (by decide) (by rfl) (pa_cons (pv 0) pa_nil)))) (pss_one (ps_expr (pe_cxS C_need_book tk hr (by decide) (by rfl) (pa_cons (pv 0) pa_nil))))))))))) (fun a oe pn => (pss_one (ps_set (i := 2) sc_law_what.nd rfl (Or.inl rfl) (pv 3)))))
      (pss_cons (ps_if (pt_cmpR op_isN (pv 2) pe_non (nomark _)) (pss_one (ps_ret pe_str)) pss_nil)
      (pss_cons (ps_set (i := 4) sc_law_what.nd rfl (Or.inl rfl) (pe_callB (call_isKT Er.ec) (by rfl) T.b_isinstance bt_isinstance (pa_cons (pv 2) (pa_cons (pe_tupF (pa_cons (pe_glob (v := .ref a1) (by rfl) g1 rfl) (pa_cons (pe_glob (v := .ref a2) (by rfl) g2 rfl) (pa_cons (pe_glob (v := .ref a3) (by rfl) g3 rfl) (pa_cons (pe_glob (v := .ref a4) (by rfl) g4 rfl) (pa_cons (pe_glob (v := .ref a5) (by rfl) g5 rfl) (pa_cons (pe_glob (v := .ref a6) (by rfl) g6 rfl) pa_nil))))))) pa_nil))))
      (pss_cons (ps_if (PW.pt (pw_or (pt_val (pv 4)) (pw_or (pt_not (pt_val (pe_callB (call_isK1 Er.ec) (by rfl) T.b_isinstance bt_isinstance (pa_cons (pv 2) (pa_cons (pe_glob (v := .ref C) (by rfl) B.g rfl) pa_nil))))) (pw_or1 (pt_not (pt_val (pe_callB (call_isK1 Er.ec) (by rfl) T.b_isinstance bt_isinstance (pa_cons (pv 2) (pa_cons (pe_bltn (v := .ty "ValueError") (by rfl) T.b_ValueError bt_ValueError rfl) pa_nil))))))))) (pss_one (ps_ret pe_str)) pss_nil)
      (pss_one (ps_ret (pe_xk Er.xf B.no (pv 2))))))))), ?_⟩
  refine sq_set (d := .none) S i dv_non fun s1 G1 H1 S1 n1 => ?_
  have hslen : s1.length = 5 := S1.len
  -- the rest behind the try
  have fin0 : ∀ (G' H' : Hp) (D : Ends) (tz : TS), (∀ v H2, D.rt v H2 = Q v H2) → SD G' s1 [some d, some (.int way), some .none, none, none] → Nx G H G' H' → r = .str "" →
      tSeq (tIfS (tTest (tOp (fun x y H Q => y = .non ∧ Q (.bl (decide (x = .non))) H) (tVar 2) (tC .non))) (tRet (tC (.str ""))) tNext) tz D s1 H' := fun G' H' D tz hD S' n' hr => by
    subst hr
    refine sq_when (b := true) n'.i (tt_T (dv_is (dv_isN (dv_var (i := 2) (d := .none) S')) rfl)) (fun _ H2 n2 => ?_) fun z => nomatch z
    refine sd_ret n2.i dv_str fun v G3 H3 n3 hv => ?_
    rw [show ({ D with nx := tz D } : Ends).rt v H3 = D.rt v H3 from rfl, hD]
    exact k v G3 H3 ((n'.trans n2).trans n3) hv
  have finX : ∀ (G' H' : Hp) (x : Str) (D : Ends), (∀ v H2, D.rt v H2 = Q v H2) → Nx G H G' H' → r = .str x →
      XD C x G' H' (WE (wKeep K (.ref pe) 3 (tAsg (tVar 3) (gName 2)) { D with nx := restW K C a1 a2 a3 a4 a5 a6 D }) s1) := fun G' H' x D hD n' hr => by
    subst hr
    intro dd G2 H2 n2 e2
    refine ⟨Er.ex, fun a na => ?_⟩
    have hs3 : (s1.set 3 (some (.ref a)))[3]? = some (some (.ref a)) := List.getElem?_set_self (by omega)
    refine ⟨_, hs3, ?_⟩
    show restW K C a1 a2 a3 a4 a5 a6 D (((s1.set 3 (some (.ref a))).set 2 (some (.ref a))).set 3 none) (upd H2 a (ExK (.ref C) (some dd) a))
    have hn := n'.trans n2
    have eH : Ex H (upd H2 a (ExK (.ref C) (some dd) a)) := hn.h.trans (Ex.new na)
    generalize hH3 : upd H2 a (ExK (.ref C) (some dd) a) = H3 at eH ⊢
    have hk : KeptAt H3 C a [("what", .str x)] := ⟨dd, by rw [← hH3]; exact upd_same, by rw [← hH3, upd_ne (ne_of_none e2 na)]; exact e2⟩
    have S3 : SD H3 (((s1.set 3 (some (.ref a))).set 2 (some (.ref a))).set 3 none) [none, none, some (rawD a), none, none] := by
      refine ⟨by rw [List.length_set, List.length_set, List.length_set, hslen]; rfl, fun j d' e => ?_⟩
      have hj : j = 2 ∧ d' = rawD a := by
        match j, e with
        | 2, e => exact ⟨rfl, by cases e; rfl⟩
        | 0, e => cases e
        | 1, e => cases e
        | 3, e => cases e
        | 4, e => cases e
        | j + 5, e => simp at e
      obtain ⟨rfl, rfl⟩ := hj
      exact ⟨.ref a, by rw [List.getElem?_set_ne (by decide), List.getElem?_set_self (by rw [List.length_set]; omega)], .raw a⟩
    have i3 := Ex.refl H3
    unfold restW
    refine sq_when (b := false) i3 (tt_T (dv_is (dv_isN (dv_var S3)) rfl)) (fun z => nomatch z) fun _ H4 n4 => ?_
    refine sq_set (d := .bool false) S3 n4.i (dv_isKT (cs := [a1, a2, a3, a4, a5, a6]) (dv_var S3) hk (dv_tup (ds_cons dv_ref (ds_cons dv_ref (ds_cons dv_ref (ds_cons dv_ref (ds_cons dv_ref (ds_cons dv_ref ds_nil)))))) (by show 6 ≤ 100000; decide)) hall) fun s5 G5 H5 S5 n5 => ?_
    have hk5 := hk.up n5.g
    refine sq_when (b := false) n5.i (et_or (a := false) (b := false) (tt_B (dv_var S5)) fun _ => et_or (a := false) (b := false) (et_not (a := true) (tt_B (dv_isK1 (dv_var S5) hk5 Er.kC))) fun _ => et_not (a := true) (tt_B (dv_isKV (dv_var S5) hk5 Er.kV))) (fun z => nomatch z) fun _ H6 n6 => ?_
    refine sd_ret n6.i (dv_xk (x := x) (dv_var S5) hk5 ?_) fun v G7 H7 n7 hv => ?_
    · simp [List.lookup]
    · cases hv.eqStr
      rw [hD]
      exact k _ G H7 (Nx.same i (eH.trans (((n4.trans n5).trans n6).trans n7).h)) (.str x)
  -- the four ways
  have rsOk : ∀ {ok : Bk → PyData → Prop} {x : Str}, r = .str x → way ≤ 2 → (RS ok [d] (.error x)) ∨ (∃ b, d = b.d ∧ x = "" ∧ RS ok [d] (.ok (ok b))) := fun {ok x} hr hw => by
    rcases hres with ⟨hf, e⟩ | ⟨b, hb, hg, e⟩
    · rw [e] at hr
      cases hr
      exact .inl ⟨d, rfl, hd, .inl ⟨hf, rfl⟩⟩
    · rw [e] at hr
      unfold wordOf at hr
      rw [if_neg (by omega)] at hr
      cases hs : isSingle b with
      | true =>
        rw [if_pos hs] at hr
        cases hr
        exact .inr ⟨b, hb, rfl, d, rfl, hd, .inr ⟨b, hb, hg, .inl ⟨hs, rfl⟩⟩⟩
      | false =>
        rw [hs] at hr
        cases hr
        exact .inl ⟨d, rfl, hd, .inr ⟨b, hb, hg, .inr ⟨hs, rfl⟩⟩⟩
  obtain ⟨x, hx⟩ : ∃ x, r = .str x := by
    rcases hres with ⟨_, e⟩ | ⟨b, _, _, e⟩
    · exact ⟨_, e⟩
    · exact ⟨_, e⟩
  have test : ∀ (c : Int), EvT (tTest (tOp (rEqD K) (tVar 1) (tC (.int c)))) s1 G1 (decide (way = c)) := fun c => tt_T (dv_is (dv_eqD (dv_var S1) dv_int (shaped_int _) (shaped_int _)) (congrArg PyData.bool (by rw [eqv_int, Bool.beq_eq_decide_eq])))
  refine sd_if n1.i (test 0) (fun hc H2 n2 => ?_) fun hc H2 n2 => ?_
  · rcases rsOk (ok := okSum) hx (by have := of_decide_eq_true hc; omega) with h | ⟨b, hb, e, h⟩
    · exact sd_raisesS n2.i (ds_cons (dv_var S1) ds_nil) h (finX G1 H2 x _ (fun _ _ => rfl) (n1.trans n2) hx)
    · subst e
      exact sd_dropP n2.i (dp_callS (ds_cons (dv_var S1) ds_nil) h) fun G3 H3 n3 => fin0 G3 H3 _ _ (fun _ _ => rfl) (S1.up n3.g) ((n1.trans n2).trans n3) hx
  refine sd_if n2.i (test 1) (fun hc H3 n3 => ?_) fun hc H3 n3 => ?_
  · rcases rsOk (ok := okShown) hx (by have := of_decide_eq_true hc; omega) with h | ⟨b, hb, e, h⟩
    · exact sd_raisesS n3.i (ds_cons (dv_var S1) ds_nil) h (finX G1 H3 x _ (fun _ _ => rfl) ((n1.trans n2).trans n3) hx)
    · subst e
      exact sd_dropP n3.i (dp_callS (ds_cons (dv_var S1) ds_nil) h) fun G4 H4 n4 => fin0 G4 H4 _ _ (fun _ _ => rfl) (S1.up n4.g) (((n1.trans n2).trans n3).trans n4) hx
  refine sd_if n3.i (test 2) (fun hc H4 n4 => ?_) fun hc H4 n4 => ?_
  · rcases rsOk (ok := okFew) hx (by have := of_decide_eq_true hc; omega) with h | ⟨b, hb, e, h⟩
    · exact sd_raisesS n4.i (ds_cons (dv_var S1) ds_nil) h (finX G1 H4 x _ (fun _ _ => rfl) (((n1.trans n2).trans n3).trans n4) hx)
    · subst e
      exact sd_dropP n4.i (dp_callS (ds_cons (dv_var S1) ds_nil) h) fun G5 H5 n5 => fin0 G5 H5 _ _ (fun _ _ => rfl) (S1.up n5.g) ((((n1.trans n2).trans n3).trans n4).trans n5) hx
  · have hw : way = 3 := by
      have q2 := of_decide_eq_false hc
      rename_i hc1 hc0
      have q1 := of_decide_eq_false hc1
      have q0 := of_decide_eq_false hc0
      omega
    have n14 := ((n1.trans n2).trans n3).trans n4
    rcases hres with ⟨hf, e⟩ | ⟨b, hb, hg, e⟩
    · rw [e] at hx
      cases hx
      exact sd_raisesS n4.i (ds_cons (dv_var S1) ds_nil) (R := RNeed) ⟨d, rfl, hd, .inl ⟨hf, rfl⟩⟩ (finX G1 H4 "form" _ (fun _ _ => rfl) n14 e)
    · have e2 : r = .str "" := by
        rw [e]
        unfold wordOf
        rw [if_pos hw]
      exact sd_dropP n4.i (dp_callS (R := RNeed) (ds_cons (dv_var S1) ds_nil) ⟨d, rfl, hd, .inr ⟨b, hb, hg, rfl⟩⟩) fun G5 H5 n5 => fin0 G5 H5 _ _ (fun _ _ => rfl) (S1.up n5.g) (n14.trans n5) e2
end
end K9

set_option Elab.async false
set_option linter.all false
set_option maxRecDepth 100000
set_option maxHeartbeats 4000000
/-! Plain mathematics: all orders, the least sum, the fewest late ones. -/
namespace K9
open PySem PySem.Spec PyProof.Rows L2 Evl
/-! ### all orders are just the permutations -/
theorem ords_perm : ∀ (n : Nat) (o : List Nat), o ∈ ordsL n → o.Perm (List.range n)
  | 0, o, h => by
    rw [List.mem_singleton.mp h]
    exact List.Perm.refl _
  | n + 1, o, h => by
    obtain ⟨p, hp, ho⟩ := List.mem_flatMap.mp h
    obtain ⟨i, _, rfl⟩ := List.mem_map.mp ho
    have ih := ords_perm n p hp
    rw [List.range_succ]
    have h1 : (p.take i ++ [n] ++ p.drop i).Perm (p.take i ++ p.drop i ++ [n]) := by
      rw [List.append_assoc, List.append_assoc]
      exact List.Perm.append_left _ List.perm_append_comm
    rw [List.take_append_drop] at h1
    exact h1.trans (ih.append_right _)
theorem perm_ords : ∀ (n : Nat) (o : List Nat), o.Perm (List.range n) → o ∈ ordsL n
  | 0, o, h => by
    have : o = [] := List.Perm.eq_nil h
    subst this
    exact List.mem_singleton.mpr rfl
  | n + 1, o, h => by
    have hm : n ∈ o := h.mem_iff.mpr (List.mem_range.mpr (Nat.lt_succ_self n))
    obtain ⟨s, t, rfl⟩ := List.append_of_mem hm
    have h2 : (n :: (s ++ t)).Perm (n :: List.range n) := by
      refine (List.perm_middle.symm).trans (h.trans ?_)
      rw [List.range_succ]
      exact List.perm_append_comm
    have ih := perm_ords n _ ((List.perm_cons n).mp h2)
    refine List.mem_flatMap.mpr ⟨s ++ t, ih, List.mem_map.mpr ⟨s.length, List.mem_range.mpr (by rw [List.length_append]; omega), ?_⟩⟩
    rw [List.take_left, List.drop_left, List.append_assoc]
    rfl
/-! ### the least sum -/
def wtS (xs : List Rw) : Int := (xs.map fun r => r.wt).sum
def costP : List Rw → Int
  | [] => 0
  | r :: rest => r.len * r.wt + r.len * wtS rest + costP rest
theorem cost_fold : ∀ (xs : List Rw) (c s : Int), (xs.foldl (fun (a : Int × Int) r => (a.1 + r.len, a.2 + r.wt * (a.1 + r.len))) (c, s)).2 = s + c * wtS xs + costP xs
  | [], c, s => by simp [wtS, costP]
  | r :: rest, c, s => by
    rw [List.foldl_cons, cost_fold rest]
    simp only [wtS, costP, List.map_cons, List.sum_cons]
    grind
theorem costF_P (xs : List Rw) : (costF xs).2 = costP xs := by
  unfold costF
  rw [cost_fold]
  simp
theorem mn_comm (a b : Rw) : mn a b = mn b a := by
  unfold mn
  rw [Int.mul_comm a.len b.wt, Int.mul_comm b.len a.wt]
  split <;> split <;> grind
theorem sum_perm {xs ys : List Int} (h : xs.Perm ys) : xs.sum = ys.sum := by
  induction h with
  | nil => rfl
  | cons x _ ih => rw [List.sum_cons, List.sum_cons, ih]
  | swap x y l => simp only [List.sum_cons]; omega
  | trans _ _ h1 h2 => exact h1.trans h2
theorem pairS_perm {xs ys : List Rw} (h : xs.Perm ys) : pairS xs = pairS ys := by
  induction h with
  | nil => rfl
  | cons x p ih =>
    show _ + _ = _ + _
    rw [ih, sum_perm (p.map (mn x))]
  | swap x y l =>
    simp only [pairS, List.map_cons, List.sum_cons]
    rw [mn_comm x y]
    omega
  | trans _ _ h1 h2 => exact h1.trans h2
theorem lbF_perm {xs ys : List Rw} (h : xs.Perm ys) : lbF xs = lbF ys := by
  unfold lbF ownS
  rw [pairS_perm h, sum_perm (h.map _)]
theorem mn_le (a b : Rw) : mn a b ≤ a.len * b.wt := by
  unfold mn
  split <;> omega
theorem mn_eq {a b : Rw} (h : a.len * b.wt ≤ b.len * a.wt) : mn a b = a.len * b.wt := by
  unfold mn
  split <;> omega
theorem mns_le (r : Rw) : ∀ xs : List Rw, (xs.map (mn r)).sum ≤ r.len * wtS xs
  | [] => by simp [wtS]
  | y :: ys => by
    have h1 := mns_le r ys
    have h2 := mn_le r y
    simp only [wtS, List.map_cons, List.sum_cons, Int.mul_add] at h1 ⊢
    omega
theorem mns_eq (r : Rw) : ∀ xs : List Rw, (∀ y ∈ xs, r.len * y.wt ≤ y.len * r.wt) → (xs.map (mn r)).sum = r.len * wtS xs
  | [], _ => by simp [wtS]
  | y :: ys, h => by
    have h1 := mns_eq r ys fun z hz => h z (List.mem_cons_of_mem _ hz)
    have h2 := mn_eq (h y List.mem_cons_self)
    simp only [wtS, List.map_cons, List.sum_cons, Int.mul_add] at h1 ⊢
    omega
theorem lb_cons (r : Rw) (xs : List Rw) : lbF (r :: xs) = r.len * r.wt + (xs.map (mn r)).sum + lbF xs := by
  unfold lbF ownS
  simp only [pairS, List.map_cons, List.sum_cons]
  omega
theorem lb_le : ∀ xs : List Rw, lbF xs ≤ costP xs
  | [] => Int.le_refl _
  | r :: rest => by
    have h1 := lb_le rest
    have h2 := mns_le r rest
    rw [lb_cons]
    simp only [costP]
    omega
theorem lb_eq : ∀ xs : List Rw, (xs.Pairwise fun x y => x.len * y.wt ≤ y.len * x.wt) → lbF xs = costP xs
  | [], _ => rfl
  | r :: rest, h => by
    obtain ⟨h1, h2⟩ := List.pairwise_cons.mp h
    rw [lb_cons, lb_eq rest h2, mns_eq r rest h1]
    rfl
theorem rowsOf_range (rs : List Rw) : rowsOf rs (List.range rs.length) = rs := by
  have key : ∀ n : Nat, n ≤ rs.length → rowsOf rs (List.range n) = rs.take n := by
    intro n
    induction n with
    | zero => intro _; rfl
    | succ n ih =>
      intro h
      have hn : n < rs.length := h
      rw [List.range_succ, rowsOf_snoc (List.getElem?_eq_getElem hn), ih (by omega), List.take_succ, List.getElem?_eq_getElem hn]
      rfl
  rw [key _ (Nat.le_refl _), List.take_length]
theorem rowsOf_perm {rs : List Rw} {o : List Nat} (h : o.Perm (List.range rs.length)) : (rowsOf rs o).Perm rs := by
  have := h.filterMap fun k => rs[k]?
  have e := rowsOf_range rs
  unfold rowsOf at e ⊢
  rw [e] at this
  exact this
theorem rows_pair {R : Rw → Rw → Prop} {rs : List Rw} : ∀ {o : List Nat}, (o.Pairwise fun a b => ∀ x y, rs[a]? = some x → rs[b]? = some y → R x y) → (rowsOf rs o).Pairwise R := by
  intro o h
  unfold rowsOf
  rw [List.pairwise_filterMap]
  exact h.imp fun hab x hx y hy => hab x y hx hy
/-! ### what the law counts, by rows -/
def latesG : Int → List Rw → Int
  | _, [] => 0
  | c, r :: rest => (if r.due < c + r.len then 1 else 0) + latesG (c + r.len) rest
theorem step_some {ts : List Tk} {k : Nat} {t : Tk} (h : ts[k]? = some t) (a : Int × Int × Int) : stepO ts a k = (a.1 + t.len, a.2.1 + (a.1 + t.len) * t.wt, a.2.2 + lateI t (a.1 + t.len)) := by
  unfold stepO
  rw [h]
theorem step_none {ts : List Tk} {k : Nat} (h : ts[k]? = none) (a : Int × Int × Int) : stepO ts a k = a := by
  unfold stepO
  rw [h]
theorem rows_none {ts : List Tk} {k : Nat} (h : ts[k]? = none) (o : List Nat) : rowsOf (ts.map Tk.rw) (k :: o) = rowsOf (ts.map Tk.rw) o := by
  unfold rowsOf
  rw [List.filterMap_cons, List.getElem?_map, h]
  rfl
theorem rows_some {ts : List Tk} {k : Nat} {t : Tk} (h : ts[k]? = some t) (o : List Nat) : rowsOf (ts.map Tk.rw) (k :: o) = t.rw :: rowsOf (ts.map Tk.rw) o := by
  unfold rowsOf
  rw [List.filterMap_cons, List.getElem?_map, h]
  rfl
theorem fold_sum (ts : List Tk) : ∀ (o : List Nat) (c s l : Int), ((o.foldl (stepO ts) (c, s, l)).1, (o.foldl (stepO ts) (c, s, l)).2.1) = (rowsOf (ts.map Tk.rw) o).foldl (fun (a : Int × Int) r => (a.1 + r.len, a.2 + r.wt * (a.1 + r.len))) (c, s)
  | [], c, s, l => rfl
  | k :: o, c, s, l => by
    rw [List.foldl_cons]
    cases e : ts[k]? with
    | none => rw [step_none e, rows_none e]; exact fold_sum ts o c s l
    | some t =>
      rw [step_some e, rows_some e, List.foldl_cons]
      have := fold_sum ts o (c + t.len) (s + (c + t.len) * t.wt) (l + lateI t (c + t.len))
      rw [this]
      rw [Int.mul_comm (c + t.len) t.wt]
      rfl
theorem sum_at (ts : List Tk) (o : List Nat) : (foldO ts o).2.1 = costP (rowsOf (ts.map Tk.rw) o) := by
  rw [← costF_P]
  exact congrArg Prod.snd (fold_sum ts o 0 0 0)
theorem sums_least {ts : List Tk} (hn : ordsL ts.length ≠ []) {ord : List Nat} (hp : ord.Perm (List.range (ts.map Tk.rw).length)) (hr : ord.Pairwise (ratio (ts.map Tk.rw))) :
    minI (sumsO ts) = lbF (ts.map Tk.rw) ∧ (costF (rowsOf (ts.map Tk.rw) ord)).2 = lbF (ts.map Tk.rw) := by
  have e : (costF (rowsOf (ts.map Tk.rw) ord)).2 = lbF (ts.map Tk.rw) := by
    rw [costF_P, ← lb_eq _ (rows_pair hr), lbF_perm (rowsOf_perm hp)]
  refine ⟨Int.le_antisymm ?_ ?_, e⟩
  · rw [← e, costF_P, ← sum_at]
    rw [List.length_map] at hp
    exact minI_le (List.mem_map.mpr ⟨ord, perm_ords _ _ hp, rfl⟩)
  · have hne : sumsO ts ≠ [] := by
      unfold sumsO
      intro z
      exact hn (List.map_eq_nil_iff.mp z)
    obtain ⟨o, ho, e2⟩ := List.mem_map.mp (minI_mem hne)
    have e3 : minI (sumsO ts) = (foldO ts o).2.1 := e2.symm
    rw [e3, sum_at]
    have hp2 := ords_perm _ _ ho
    rw [← lbF_perm (rowsOf_perm (rs := ts.map Tk.rw) (o := o) (by rw [List.length_map]; exact hp2))]
    exact lb_le _
end K9

set_option Elab.async false
set_option linter.all false
set_option maxRecDepth 100000
set_option maxHeartbeats 4000000
/-! Plain mathematics: the fewest late ones. -/
namespace K9
open PySem PySem.Spec PyProof.Rows L2 Evl
def lenS (xs : List Rw) : Int := (xs.map fun r => r.len).sum
theorem lenS_app (xs ys : List Rw) : lenS (xs ++ ys) = lenS xs + lenS ys := by
  unfold lenS
  rw [List.map_append, List.sum_append_int]
theorem lenS_cons (r : Rw) (xs : List Rw) : lenS (r :: xs) = r.len + lenS xs := by
  unfold lenS
  rw [List.map_cons, List.sum_cons]
theorem lenS_one (r : Rw) : lenS [r] = r.len := by rw [lenS_cons]; show r.len + 0 = _; omega
theorem lenS_perm {xs ys : List Rw} (h : xs.Perm ys) : lenS xs = lenS ys := sum_perm (h.map _)
theorem lenS_nn : ∀ xs : List Rw, (∀ r ∈ xs, 1 ≤ r.len) → 0 ≤ lenS xs
  | [], _ => Int.le_refl _
  | r :: xs, h => by
    rw [lenS_cons]
    have := lenS_nn xs fun z hz => h z (List.mem_cons_of_mem _ hz)
    have := h r List.mem_cons_self
    omega
theorem lenS_le : ∀ xs : List Rw, (∀ r ∈ xs, r.len ≤ 1000) → lenS xs ≤ 1000 * (xs.length : Nat)
  | [], _ => Int.le_refl _
  | r :: xs, h => by
    rw [lenS_cons, List.length_cons]
    have := lenS_le xs fun z hz => h z (List.mem_cons_of_mem _ hz)
    have := h r List.mem_cons_self
    omega
/-- all on time -/
def OnT : List Rw → Prop := fun xs => ∀ ys r zs, xs = ys ++ r :: zs → lenS ys + r.len ≤ r.due
theorem OnT.nil : OnT [] := fun ys r zs h => by
  have := congrArg List.length h
  simp at this
theorem OnT.init {xs : List Rw} {r : Rw} (h : OnT (xs ++ [r])) : OnT xs := fun ys s zs e => h ys s (zs ++ [r]) (by rw [e, List.append_assoc]; rfl)
theorem OnT.last {xs : List Rw} {r : Rw} (h : OnT (xs ++ [r])) : lenS xs + r.len ≤ r.due := h xs r [] rfl
theorem OnT.snoc {xs : List Rw} {r : Rw} (h : OnT xs) (h2 : lenS xs + r.len ≤ r.due) : OnT (xs ++ [r]) := fun ys s zs e => by
  rcases List.eq_nil_or_concat zs with z | ⟨zs', z, ez⟩
  · subst z
    obtain ⟨e1, e2⟩ := List.append_inj' e rfl
    cases e2
    subst e1
    exact h2
  · rw [ez, List.concat_eq_append] at e
    have e' : xs ++ [r] = (ys ++ s :: zs') ++ [z] := by rw [e, List.append_assoc]; rfl
    obtain ⟨e1, _⟩ := List.append_inj' e' rfl
    exact h ys s zs' e1
theorem snoc_ind {α : Type} {p : List α → Prop} (h0 : p []) (h1 : ∀ xs x, p xs → p (xs ++ [x])) (xs : List α) : p xs := by
  have key : ∀ ys : List α, p ys.reverse := by
    intro ys
    induction ys with
    | nil => exact h0
    | cons y ys ih =>
      rw [List.reverse_cons]
      exact h1 _ _ ih
  have := key xs.reverse
  rwa [List.reverse_reverse] at this
/-! earliest due first -/
def dueLe (D : Int) (r : Rw) : Bool := decide (r.due ≤ D)
def Feas (xs : List Rw) : Prop := ∀ D : Int, 0 ≤ D → lenS (xs.filter (dueLe D)) ≤ D
theorem filter_le {p : Rw → Bool} {xs : List Rw} (h : ∀ r ∈ xs, 1 ≤ r.len) : lenS (xs.filter p) ≤ lenS xs := by
  induction xs with
  | nil => exact Int.le_refl _
  | cons r xs ih =>
    have := ih fun z hz => h z (List.mem_cons_of_mem _ hz)
    have := h r List.mem_cons_self
    rw [List.filter_cons]
    split
    · rw [lenS_cons, lenS_cons]
      omega
    · rw [lenS_cons]
      omega
theorem feas_of {xs : List Rw} (h : OnT xs) (hl : ∀ r ∈ xs, 1 ≤ r.len) : Feas xs := by
  revert h hl
  refine snoc_ind (p := fun xs => OnT xs → (∀ r ∈ xs, 1 ≤ r.len) → Feas xs) (fun _ _ D hD => hD) (fun xs r ih h hl D hD => ?_) xs
  have hl' : ∀ r ∈ xs, 1 ≤ r.len := fun z hz => hl z (List.mem_append_left _ hz)
  have h1 := ih h.init hl' D hD
  have h2 := h.last
  rw [List.filter_append, lenS_app, List.filter_cons]
  split
  · rename_i c
    have c : r.due ≤ D := of_decide_eq_true c
    have := filter_le (p := dueLe D) hl'
    rw [List.filter_nil, lenS_one]
    omega
  · rw [List.filter_nil]
    show _ + 0 ≤ D
    omega
theorem feas_perm {xs ys : List Rw} (h : xs.Perm ys) (hf : Feas xs) : Feas ys := fun D hD => by
  rw [← lenS_perm (h.filter (dueLe D))]
  exact hf D hD
theorem onT_of {xs : List Rw} (h : Feas xs) (hl : ∀ r ∈ xs, 1 ≤ r.len) (hd : ∀ r ∈ xs, 0 ≤ r.due) (hs : xs.Pairwise fun a b => a.due ≤ b.due) : OnT xs := by
  revert h hl hd hs
  refine snoc_ind (p := fun xs => Feas xs → (∀ r ∈ xs, 1 ≤ r.len) → (∀ r ∈ xs, 0 ≤ r.due) → (xs.Pairwise fun a b => a.due ≤ b.due) → OnT xs) (fun _ _ _ _ => OnT.nil) (fun xs r ih h hl hd hs => ?_) xs
  have hl' : ∀ r ∈ xs, 1 ≤ r.len := fun z hz => hl z (List.mem_append_left _ hz)
  have hr : r ∈ xs ++ [r] := List.mem_append_right _ List.mem_cons_self
  obtain ⟨hs1, _, hs2⟩ := List.pairwise_append.mp hs
  refine (ih (fun D hD => ?_) hl' (fun z hz => hd z (List.mem_append_left _ hz)) hs1).snoc ?_
  · have := h D hD
    rw [List.filter_append, lenS_app] at this
    have h3 := lenS_nn ([r].filter (dueLe D)) fun z hz => hl z (List.mem_append_right _ (List.mem_filter.mp hz).1)
    omega
  · have := h r.due (hd r hr)
    rw [List.filter_append, lenS_app, (List.filter_eq_self (p := dueLe r.due)).mpr (fun a ha => decide_eq_true (hs2 a ha r List.mem_cons_self)), (List.filter_eq_self (p := dueLe r.due)).mpr (fun a ha => by
      rw [List.mem_singleton.mp ha]
      exact decide_eq_true (Int.le_refl _)), lenS_one] at this
    exact this
/-! the table -/
theorem opt_some {ns : List Int} {y : Int} (h : y ∈ ns) : ∃ v, optMin ns = some v ∧ v ≤ y := by
  cases ns with
  | nil => cases h
  | cons n r => exact ⟨_, rfl, minI_le (ns := n :: r) h⟩
theorem opt_mem {ns : List Int} {v : Int} (h : optMin ns = some v) : v ∈ ns := by
  cases ns with
  | nil => cases h
  | cons n r =>
    cases h
    exact minI_mem (ns := n :: r) (fun z => by cases z)
theorem sub_one {α : Type} {x : α} {ys : List α} (h : ys.Sublist [x]) : ys = [] ∨ ys = [x] := by
  rcases List.sublist_cons_iff.mp h with h1 | ⟨r, rfl, h1⟩
  · exact .inl (List.sublist_nil.mp h1)
  · rw [List.sublist_nil.mp h1]
    exact .inr rfl
theorem tab_some : ∀ (xs : List Rw) (ys : List Rw), ys.Sublist xs → OnT ys → ∃ v, at2 (lastRow xs) ys.length = some v ∧ v ≤ lenS ys := by
  refine snoc_ind (fun ys hs _ => ?_) (fun xs r ih ys hs ho => ?_)
  · have : ys = [] := List.sublist_nil.mp hs
    subst this
    exact ⟨0, rfl, Int.le_refl _⟩
  · have hlen := hs.length_le
    rw [List.length_append, List.length_singleton] at hlen
    rw [lastRow_snoc]
    cases hk : ys.length with
    | zero =>
      have : ys = [] := List.length_eq_zero_iff.mp hk
      subst this
      exact ⟨0, rfl, Int.le_refl _⟩
    | succ m =>
      rw [at2_next (by rw [lastRow_len]; omega)]
      obtain ⟨y1, y2, rfl, hs1, hs2⟩ := List.sublist_append_iff.mp hs
      rcases sub_one hs2 with e | e
      · subst e
        rw [List.append_nil] at ho hk ⊢
        obtain ⟨v, hv, hle⟩ := ih y1 hs1 ho
        rw [hk] at hv
        obtain ⟨u, hu, h2⟩ := opt_some (ns := sumsOf (lastRow xs) r.len r.due (m + 1)) (y := v) (List.mem_append_left _ (by rw [hv]; exact List.mem_singleton.mpr rfl))
        exact ⟨u, hu, by omega⟩
      · subst e
        obtain ⟨v, hv, hle⟩ := ih y1 hs1 ho.init
        rw [List.length_append, List.length_singleton] at hk
        have hm : y1.length = m := by omega
        rw [hm] at hv
        have hd := ho.last
        obtain ⟨u, hu, h2⟩ := opt_some (ns := sumsOf (lastRow xs) r.len r.due (m + 1)) (y := v + r.len) (List.mem_append_right _ (by
          rw [Nat.add_sub_cancel, hv]
          show _ ∈ if _ then _ else _
          rw [if_pos (by omega)]
          exact List.mem_singleton.mpr rfl))
        refine ⟨u, hu, ?_⟩
        rw [lenS_app, lenS_one]
        omega
theorem tab_sound : ∀ (xs : List Rw) (m : Nat) (v : Int), at2 (lastRow xs) m = some v → ∃ ys : List Rw, ys.Sublist xs ∧ ys.length = m ∧ OnT ys ∧ lenS ys = v := by
  refine snoc_ind (fun m v h => ?_) (fun xs r ih m v h => ?_)
  · cases m with
    | zero =>
      cases h
      exact ⟨[], List.Sublist.refl _, rfl, OnT.nil, rfl⟩
    | succ m =>
      rw [at2_out (by rw [lastRow_len]; simp)] at h
      cases h
  · cases m with
    | zero =>
      rw [at2_zero] at h
      cases h
      exact ⟨[], List.nil_sublist _, rfl, OnT.nil, rfl⟩
    | succ m =>
      rcases Nat.lt_or_ge m (lastRow xs).length with c | c
      · rw [lastRow_snoc, at2_next c] at h
        rcases List.mem_append.mp (opt_mem h) with z | z
        · have hv : at2 (lastRow xs) (m + 1) = some v := by
            cases e : at2 (lastRow xs) (m + 1) with
            | none =>
              rw [e] at z
              cases z
            | some u =>
              rw [e] at z
              rw [List.mem_singleton.mp z]
          obtain ⟨ys, h1, h2, h3, h4⟩ := ih _ _ hv
          exact ⟨ys, h1.trans (List.sublist_append_left _ _), h2, h3, h4⟩
        · rw [Nat.add_sub_cancel] at z
          cases e : at2 (lastRow xs) m with
          | none =>
            rw [e] at z
            cases z
          | some u =>
            rw [e] at z
            replace z : v ∈ if u + r.len ≤ r.due then [u + r.len] else [] := z
            by_cases c2 : u + r.len ≤ r.due
            · rw [if_pos c2] at z
              have z := List.mem_singleton.mp z
              obtain ⟨ys, h1, h2, h3, h4⟩ := ih _ _ e
              refine ⟨ys ++ [r], h1.append (List.Sublist.refl _), by rw [List.length_append, h2]; rfl, h3.snoc (by omega), ?_⟩
              rw [lenS_app, lenS_one]
              omega
            · rw [if_neg c2] at z
              cases z
      · rw [at2_out (by rw [lastRow_len, List.length_append, List.length_singleton]; rw [lastRow_len] at c; omega)] at h
        cases h
/-! a part of an order as a part of another one -/
theorem sub_perm {α : Type} {xs ys : List α} (h : xs.Perm ys) : ∀ zs : List α, zs.Sublist xs → ∃ z2 : List α, z2.Perm zs ∧ z2.Sublist ys := by
  induction h with
  | nil => exact fun zs hz => ⟨zs, List.Perm.refl _, hz⟩
  | cons x _ ih =>
    intro zs hz
    rcases List.sublist_cons_iff.mp hz with h1 | ⟨r, rfl, h1⟩
    · obtain ⟨z2, p, s⟩ := ih zs h1
      exact ⟨z2, p, s.cons x⟩
    · obtain ⟨z2, p, s⟩ := ih r h1
      exact ⟨x :: z2, p.cons x, s.cons_cons x⟩
  | swap x y l =>
    intro zs hz
    rcases List.sublist_cons_iff.mp hz with h1 | ⟨r, rfl, h1⟩
    · rcases List.sublist_cons_iff.mp h1 with h2 | ⟨r2, rfl, h2⟩
      · exact ⟨zs, List.Perm.refl _, (h2.cons y).cons x⟩
      · exact ⟨x :: r2, List.Perm.refl _, (h2.cons y).cons_cons x⟩
    · rcases List.sublist_cons_iff.mp h1 with h2 | ⟨r2, rfl, h2⟩
      · exact ⟨y :: r, List.Perm.refl _, (h2.cons_cons y).cons x⟩
      · exact ⟨x :: y :: r2, List.Perm.swap _ _ _, (h2.cons_cons y).cons_cons x⟩
  | trans _ _ h1 h2 =>
    intro zs hz
    obtain ⟨z2, p, s⟩ := h1 zs hz
    obtain ⟨z3, p2, s2⟩ := h2 z2 s
    exact ⟨z3, p2.trans p, s2⟩
/-! the late ones of an order -/
theorem late_sub (hl : (1 : Int) ≤ 1) : ∀ (zs : List Rw) (c : Int) (ys : List Rw), (∀ r ∈ zs, 1 ≤ r.len) → OnT ys → lenS ys ≤ c → ∃ ts : List Rw, ts.Sublist zs ∧ OnT (ys ++ ts) ∧ latesG c zs + (ts.length : Nat) = (zs.length : Nat)
  | [], c, ys, _, ho, _ => ⟨[], List.Sublist.refl _, by rw [List.append_nil]; exact ho, rfl⟩
  | r :: zs, c, ys, h, ho, hc => by
    have h' : ∀ r ∈ zs, 1 ≤ r.len := fun z hz => h z (List.mem_cons_of_mem _ hz)
    have hr := h r List.mem_cons_self
    unfold latesG
    by_cases d : r.due < c + r.len
    · rw [if_pos d]
      obtain ⟨ts, h1, h2, h3⟩ := late_sub hl zs (c + r.len) ys h' ho (by omega)
      refine ⟨ts, h1.cons r, h2, ?_⟩
      rw [List.length_cons]
      omega
    · rw [if_neg d]
      obtain ⟨ts, h1, h2, h3⟩ := late_sub hl zs (c + r.len) (ys ++ [r]) h' (ho.snoc (by omega)) (by rw [lenS_app, lenS_one]; omega)
      refine ⟨r :: ts, h1.cons_cons r, by rw [List.append_assoc] at h2; exact h2, ?_⟩
      rw [List.length_cons, List.length_cons]
      omega
theorem late_on : ∀ (ts us : List Rw) (ys : List Rw), OnT (ys ++ ts) → latesG (lenS ys) (ts ++ us) ≤ (us.length : Nat)
  | [], us, ys, _ => by
    have : ∀ (us : List Rw) (c : Int), latesG c us ≤ (us.length : Nat) := by
      intro us
      induction us with
      | nil => exact fun c => Int.le_refl _
      | cons r us ih =>
        intro c
        have := ih (c + r.len)
        unfold latesG
        rw [List.length_cons]
        split <;> omega
    exact this us _
  | r :: ts, us, ys, h => by
    rw [List.cons_append]
    unfold latesG
    have h1 := h ys r ts rfl
    rw [if_neg (by omega)]
    have := late_on ts us (ys ++ [r]) (by rw [List.append_assoc]; exact h)
    rw [lenS_app, lenS_one] at this
    omega
theorem fold_late (ts : List Tk) : ∀ (o : List Nat) (c s l : Int), c + lenS (rowsOf (ts.map Tk.rw) o) < 1000000 → (∀ t ∈ ts, 1 ≤ t.len) → (o.foldl (stepO ts) (c, s, l)).2.2 = l + latesG c (rowsOf (ts.map Tk.rw) o)
  | [], c, s, l, _, _ => by
    show l = l + 0
    omega
  | k :: o, c, s, l, h, hl => by
    rw [List.foldl_cons]
    cases e : ts[k]? with
    | none =>
      rw [rows_none e] at h
      rw [step_none e, rows_none e]
      exact fold_late ts o c s l h hl
    | some t =>
      rw [rows_some e, lenS_cons] at h
      rw [step_some e, rows_some e]
      have ht : t.rw.len = t.len := rfl
      have hnn := lenS_nn (rowsOf (ts.map Tk.rw) o) fun r hr => by
        obtain ⟨k', _, hk'⟩ := List.mem_filterMap.mp hr
        obtain ⟨t', ht', rfl⟩ := List.mem_map.mp (List.mem_of_getElem? hk')
        exact hl t' ht'
      rw [fold_late ts o _ _ _ (by show c + t.len + _ < _; omega) hl]
      show _ = l + ((if t.rw.due < c + t.rw.len then 1 else 0) + latesG (c + t.rw.len) _)
      have : lateI t (c + t.len) = if t.rw.due < c + t.rw.len then 1 else 0 := by
        unfold lateI
        cases ed : t.due with
        | some d =>
          have : t.rw.due = d := by unfold Tk.rw; rw [ed]; rfl
          rw [this]
          rfl
        | none =>
          have : t.rw.due = 1000000 := by unfold Tk.rw; rw [ed]; rfl
          rw [this, if_neg (by omega)]
      show l + lateI t (c + t.len) + latesG (c + t.rw.len) _ = _
      rw [this]
      omega
theorem lates_least {ts : List Tk} (hne : ts ≠ []) (hn : ordsL ts.length ≠ []) (h5 : ts.length ≤ 5) (hr : ∀ t ∈ ts, RwOk t.rw) {ord : List Nat} {many : Nat}
    (hp : ord.Perm (List.range (ts.map Tk.rw).length)) (hs : ord.Pairwise fun a c => dueAt (ts.map Tk.rw) a ≤ dueAt (ts.map Tk.rw) c) (hb : Best (rowsOf (ts.map Tk.rw) ord) many) :
    minI (latesO ts) = ((ts.map Tk.rw).length : Nat) - (many : Nat) := by
  have hlen1 : ∀ t ∈ ts, 1 ≤ t.len := fun t ht => (hr t ht).len.1
  have hmem : ∀ {o : List Nat} {r : Rw}, r ∈ rowsOf (ts.map Tk.rw) o → RwOk r := fun {o r} h => by
    obtain ⟨k', _, hk'⟩ := List.mem_filterMap.mp h
    obtain ⟨t', ht', rfl⟩ := List.mem_map.mp (List.mem_of_getElem? hk')
    exact hr t' ht'
  have hP := rowsOf_perm hp
  have hat : ∀ o : List Nat, o.Perm (List.range (ts.map Tk.rw).length) → (foldO ts o).2.2 = latesG 0 (rowsOf (ts.map Tk.rw) o) := fun o ho => by
    have := fold_late ts o 0 0 0 (by
      have h1 := lenS_le (rowsOf (ts.map Tk.rw) o) fun r hr' => (hmem hr').len.2
      have h2 := (rowsOf_perm ho).length_eq
      rw [List.length_map] at h2
      rw [h2] at h1
      omega) hlen1
    unfold foldO
    rw [this]
    omega
  have hS : (rowsOf (ts.map Tk.rw) ord).Pairwise fun a b => a.due ≤ b.due := rows_pair (R := fun a b => a.due ≤ b.due) (hs.imp fun {a b} h x y hx hy => by
    unfold dueAt at h
    rw [hx, hy] at h
    exact h)
  refine Int.le_antisymm ?_ ?_
  · cases hv : at2 (lastRow (rowsOf (ts.map Tk.rw) ord)) many with
    | none => exact absurd hv hb.1
    | some v =>
      obtain ⟨ys, h1, h2, h3, _⟩ := tab_sound _ _ _ hv
      obtain ⟨L, hL, e⟩ := List.sublist_filterMap_iff.mp h1
      obtain ⟨l, hl⟩ := hL.exists_perm_append
      have hp2 : (L ++ l).Perm (List.range (ts.map Tk.rw).length) := hl.symm.trans hp
      have hle := late_on ys (rowsOf (ts.map Tk.rw) l) [] h3
      have happ : rowsOf (ts.map Tk.rw) (L ++ l) = ys ++ rowsOf (ts.map Tk.rw) l := by
        rw [e]
        exact List.filterMap_append
      have hlen := (rowsOf_perm hp2).length_eq
      rw [happ, List.length_append] at hlen
      have hin : (foldO ts (L ++ l)).2.2 ∈ latesO ts := List.mem_map.mpr ⟨L ++ l, perm_ords _ _ (by rw [List.length_map] at hp2; exact hp2), rfl⟩
      have h4 := minI_le hin
      rw [hat _ hp2, happ] at h4
      have h5 : lenS [] = 0 := rfl
      rw [h5] at hle
      omega
  · have hne2 : latesO ts ≠ [] := by
      unfold latesO
      intro z
      exact hn (List.map_eq_nil_iff.mp z)
    obtain ⟨o, ho, e2⟩ := List.mem_map.mp (minI_mem hne2)
    have e3 : minI (latesO ts) = (foldO ts o).2.2 := e2.symm
    have ho2 := ords_perm _ _ ho
    rw [← List.length_map (f := Tk.rw)] at ho2
    rw [e3, hat o ho2]
    obtain ⟨tz, h1, h2, h3⟩ := late_sub (Int.le_refl _) (rowsOf (ts.map Tk.rw) o) 0 [] (fun r h => (hmem h).len.1) OnT.nil (Int.le_refl _)
    have hPo := rowsOf_perm ho2
    obtain ⟨z2, p2, s2⟩ := sub_perm (hPo.trans hP.symm) tz h1
    have hz1 : ∀ r ∈ z2, 1 ≤ r.len := fun r h => (hmem (s2.subset h)).len.1
    have hF : Feas z2 := feas_perm p2.symm (feas_of h2 fun r h => (hmem (h1.subset h)).len.1)
    have hO : OnT z2 := onT_of hF hz1 (fun r h => (hmem (s2.subset h)).due.1) (hS.sublist s2)
    obtain ⟨v, hv, _⟩ := tab_some _ z2 s2 hO
    have := hb.2 _ (by rw [hv]; exact fun z => by cases z)
    rw [p2.length_eq] at this
    rw [hPo.length_eq] at h3
    omega
end K9

set_option Elab.async false
set_option linter.all false
set_option maxRecDepth 100000
set_option maxHeartbeats 4000000
/-! repr of data; a def that is called by the caller alone. -/
namespace K9
open PySem PySem.Spec PyProof.Rows L2 Evl
def rReprD (K : PySem.W.Frag) : List V → Hp → VK → Prop := fun xs H Q => ∃ (a : Addr) (d : PyData), xs = [.ref a] ∧ Dp K H (.ref a) d ∧ d.showable = true ∧ d.hasDict = false ∧ d.depth ≤ 50 ∧ d.shown.length ≤ sizeLine ∧ Q (.str d.shown) H
theorem cr_repr {X : Cx} (hg : X.A.guards = some []) (hu : X.A.units + 64 < cLine) : CallR X (.builtin "repr") (rReprD X.K) := by
  intro pins s σ H xs us Q I r h
  obtain ⟨a, d, rfl, hd, h1, h2, h3, h4, q⟩ := h
  obtain ⟨u, rfl, ru⟩ := vals1 r
  obtain rfl : u = Value.ref a := ru
  obtain ⟨as, hr⟩ := Dp.reads I d (.ref a) (.ref a) hd rfl
  exact repr_of_reads' hr h1 (PyData.noDict_hsm h2) hg (by omega) (fun _ _ e => e) (fun h' u tk k => ⟨.str d.shown, H, I.kept k, ⟨u, rfl⟩, q⟩) h4
/-- as FnOk, where nothing is being shown -/
structure FnOkG (P : Program) (w : World) (K : PySem.W.Frag) (mg : Str → Option Value) (base : Heap) (k : Nat) (f : Addr) (fd : FuncData) (ps : List Str) (sp : Sp) : Prop where
  len : ∀ vs H Q E, sp vs H Q E → vs.length = ps.length
  run : ∀ (A : Around) (outer : List Env) (s : Shared) (H : Hp) (args : Args) (us : List Value) (vs : List V) (Q : VK) (E : XK), A.guards = some [] → Room k A → Env0 P w K mg base A outer s H → BindsTo s fd args (ps.zip us) → Vals vs us → sp vs H Q E →
    codeAny (model P w) A (.call (.ref f) args) (CR CX0 outer P w H s Q E) s
theorem fn_okG {P : Program} {w : World} {K : PySem.W.Frag} {mg : Str → Option Value} {base : Heap} {x qual : Str} {st : Stmt} {f : Addr} {fd : FuncData} {N ps : List Str} {k : Nat} {sp : Sp} (F : Fun K x qual st f fd) (S : FnScope N ps (defScope st)) (len : ∀ vs H Q E, sp vs H Q E → vs.length = ps.length)
    (hbody : ∀ (cdv : Value) (A : Around) (outer : List Env) (s : Shared) (H : Hp) (vs : List V) (Q : VK) (E : XK), (A.deeper (envOfC qual (defScope st) s.heap.objs.size f cdv)).guards = some [] → Room k (A.deeper (envOfC qual (defScope st) s.heap.objs.size f cdv)) → sp vs H Q E →
      ∃ t, PSs (cxOf CX0 P w K mg base N qual (defScope st) f cdv A outer s H E).nox (defBody st) t ∧ t { nx := fun _ H' => Q .non H', rt := Q } (start N vs) H) : FnOkG P w K mg base (k + 1) f fd ps sp := by
  obtain ⟨oc, od, kV, doc, pm, an, cdv, ct, osl, rfl, lk, hcd⟩ := F.ex
  refine ⟨len, fun A outer s H args us vs Q E hg hr e0 hb r hsp => ?_⟩
  have hl := len _ _ _ _ hsp
  have KX : K.In s.heap := e0.mod.kin.keeps fun b o e => (e0.bs b o e).1
  have lim : s.heap.NoLimit := e0.mod.nolimit.keeps fun b o e => (e0.bs b o e).1
  have hkind : ∀ y ∈ ps.zip us, (defScope st).names.lookup y.1 = some .local ∨ ((defScope st).names.lookup y.1 = some .cell ∧ ((cellsFrom (s.heap.objs.size + 1) (defScope st).names []).lookup y.1).isSome = true) := fun ⟨n, v⟩ hy => by
    rcases S.par n (List.of_mem_zip hy).1 with q | q
    · exact .inl q
    · exact .inr ⟨q, PySem.W.cellsFrom_some _ _ _ (.inl q)⟩
  refine codeAny_call_function hr.depth (KX _ _ lk) rfl S.co S.gen rfl (PySem.W.codeRec_of KX hcd) (hb _ _ _ _ ?_)
  refine wpAny_newFunctionEnv_cells S.kind hkind fun env he s1 x => ?_
  subst he
  refine ⟨lim.keeps x.toInCall.keep, codeAny_func ?_⟩
  obtain ⟨t, ht, hq⟩ := hbody cdv A outer s H vs Q E (by first | exact hg | (simp only [Around.deeper]; exact hg)) (hr.deeper _) hsp
  have I : Inv (cxOf CX0 P w K mg base N qual (defScope st) f cdv A outer s H E) [] (start N vs) H s1 := inv_start S hr.hd e0 hl r x
  refine wpAny_mono (ht.nox.run [] s1 (start N vs) H _ I hq) (fun fl s' hs => ?_) fun e s' hs => hs
  have fin : ∀ {σ' : L2.St} {H' : Hp} {v : V} {u : Value}, Inv (cxOf CX0 P w K mg base N qual (defScope st) f cdv A outer s H E) [] σ' H' s' → RelV v u → Q v H' → CE outer P w H s Q u s' :=
    fun {σ' H' v u} J rv q => ⟨v, H', J.os, J.bare, J.base, J.hok, rv, q⟩
  cases fl with
  | ret u =>
    obtain ⟨v, σ', H', J, rv, q⟩ := hs
    exact fin J rv q
  | next =>
    obtain ⟨σ', H', J, q⟩ := hs
    exact fin (v := V.non) (u := Value.none) J rfl q
  | brk =>
    obtain ⟨_, _, _, q⟩ := hs
    exact False.elim q
  | cont =>
    obtain ⟨_, _, _, q⟩ := hs
    exact False.elim q
end K9

set_option Elab.async false
set_option linter.all false
set_option maxRecDepth 100000
set_option maxHeartbeats 4000000
/-! The law's book can be shown. -/
namespace K9
open PySem PySem.Spec PyProof.Rows L2 Evl
def iSm : Nat → PyData → Bool
  | _, .none => true
  | _, .bool _ => true
  | _, .int i => decide (i.natAbs < 10 ^ 12)
  | _, .str _ => true
  | n + 1, .tuple xs => xs.all (iSm n)
  | _, _ => false
theorem showAll_of : ∀ {xs : List PyData}, (∀ x ∈ xs, PyData.showable x = true) → PyData.showableAll xs = true
  | [], _ => by simp only [PyData.showableAll]
  | x :: xs, h => by
    simp only [PyData.showableAll, Bool.and_eq_true]
    exact ⟨h x List.mem_cons_self, showAll_of fun y hy => h y (List.mem_cons_of_mem _ hy)⟩
theorem iSm_tup {n : Nat} {xs : List PyData} (h : iSm (n + 1) (.tuple xs) = true) : ∀ x ∈ xs, iSm n x = true := by
  simp only [iSm, List.all_eq_true] at h
  exact h
theorem iSm_tupI {n : Nat} {xs : List PyData} (h : ∀ x ∈ xs, iSm n x = true) : iSm (n + 1) (.tuple xs) = true := by
  simp only [iSm, List.all_eq_true]
  exact h
theorem iSm_str {n : Nat} {x : Str} : iSm n (.str x) = true := by cases n <;> rfl
theorem iSm_non {n : Nat} : iSm n .none = true := by cases n <;> rfl
theorem iSm_int {n : Nat} {i : Int} (h : 0 ≤ i ∧ i ≤ 1000000) : iSm n (.int i) = true := by
  have : i.natAbs < 10 ^ 12 := by
    have : (10 : Nat) ^ 12 = 1000000000000 := by decide
    omega
  cases n <;> exact decide_eq_true this
theorem sm_show {i : Int} (h : i.natAbs < 10 ^ 12) : PyData.showable (.int i) = true := by
  have h2 : (10 : Nat) ^ 12 < 2 ^ 40 := by decide
  by_cases z : i.natAbs = 0
  · simp only [PyData.showable, z, decide_eq_true_eq]
    decide
  · simp only [PyData.showable, decide_eq_true_eq]
    have := (Nat.log2_lt z (k := 40)).mpr (Nat.lt_trans h h2)
    omega
theorem iSm_of : ∀ (n : Nat) (d : PyData), iSm n d = true → PyData.showable d = true ∧ PyData.intsShort 13 d = true
  | n, .none, _ => by simp [PyData.showable, PyData.intsShort]
  | n, .bool _, _ => by simp [PyData.showable, PyData.intsShort]
  | n, .int i, h => by
    have h' : i.natAbs < 10 ^ 12 := by
      cases n <;> exact of_decide_eq_true h
    refine ⟨sm_show h', ?_⟩
    simp only [PyData.intsShort, decide_eq_true_eq]
    exact PyData.shown_int_le h'
  | n, .str x, h => by simp [PyData.showable, PyData.intsShort]
  | 0, .list xs, h => by cases h
  | 0, .tuple xs, h => by cases h
  | n + 1, .list xs, h => by cases h
  | n + 1, .tuple xs, h => by
    have q := iSm_tup h
    refine ⟨?_, ?_⟩
    · simp only [PyData.showable]
      exact showAll_of fun x hx => (iSm_of n x (q x hx)).1
    · simp only [PyData.intsShort]
      exact PySem.Spec.intsShortAll_of fun x hx => (iSm_of n x (q x hx)).2
  | 0, .dict _, h => by cases h
  | n + 1, .dict _, h => by cases h
theorem bulk_all {W : Nat} : ∀ {xs : List PyData}, (∀ x ∈ xs, x.bulk ≤ W) → PyData.bulkAll xs ≤ (W + 1) * xs.length
  | [], _ => by simp [PyData.bulkAll]
  | x :: xs, h => by
    have h1 := h x List.mem_cons_self
    have h2 := bulk_all fun y hy => h y (List.mem_cons_of_mem _ hy)
    simp only [PyData.bulkAll, List.length_cons, Nat.mul_add]
    omega
theorem strOk_size {x : Str} (h : strOk x = true) : x.cps.size ≤ 1000 := by
  unfold strOk at h
  rw [Bool.and_eq_true, decide_eq_true_eq] at h
  exact h.2
theorem Base.small {b : Bk} (h : Base b) : iSm 5 b.d = true := by
  refine iSm_tupI (n := 4) fun x hx => ?_
  simp only [List.mem_cons, List.not_mem_nil, or_false] at hx
  rcases hx with rfl | rfl | rfl | rfl | rfl
  · refine iSm_tupI fun x hx => ?_
    obtain ⟨y, _, rfl⟩ := List.mem_map.mp hx
    exact iSm_str
  · unfold goodsD
    cases b.hand <;> decide +kernel
  · refine iSm_tupI fun x hx => ?_
    obtain ⟨t, ht, rfl⟩ := List.mem_map.mp hx
    have ho := h.fit.task t ht
    refine iSm_tupI (n := 2) fun x hx => ?_
    simp only [List.mem_cons, List.not_mem_nil, or_false] at hx
    rcases hx with rfl | rfl | rfl | rfl | rfl | rfl | rfl
    · exact iSm_str
    · exact iSm_int ⟨by have := ho.1.len; omega, by have := ho.1.len; omega⟩
    · exact iSm_str
    · unfold needsD
      cases t.needs <;> decide +kernel
    · exact iSm_int ho.1.first
    · cases e : t.due with
      | none => exact iSm_non
      | some d => exact iSm_int (ho.1.due d e)
    · exact iSm_int ⟨by have := ho.1.wt; omega, by have := ho.1.wt; omega⟩
  · unfold Bk.waits
    rw [h.wait]
    rfl
  · unfold Bk.fixs
    rw [h.fixed]
    rfl
theorem Base.bulk {b : Bk} (h : Base b) : b.d.bulk ≤ 2 ^ 20 := by
  have e : (2 : Nat) ^ 20 = 1048576 := by decide
  have h1 : PyData.bulkAll (b.ms.map .str) ≤ 100 := by
    rcases h.fit.ms with e | e | e <;> rw [e] <;> decide +kernel
  have h2 : PyData.bulkAll ((goodsD b.hand).map pairD) ≤ 100 := by
    unfold goodsD
    cases b.hand <;> decide +kernel
  have h3 : PyData.bulkAll (b.ts.map Tk.d) ≤ (2100 + 1) * (b.ts.map Tk.d).length := bulk_all fun x hx => by
    obtain ⟨t, ht, rfl⟩ := List.mem_map.mp hx
    have ho := h.fit.task t ht
    have z1 := strOk_size ho.1.nok
    have z2 := strOk_size ho.1.mok
    have z3 : (PyData.tuple ((needsD t.needs).map pairD)).bulk = 0 := by
      rw [(h.one t ht).2.1]
      rfl
    have z4 : (dueD t.due).bulk = 0 := by cases t.due <;> rfl
    unfold Tk.d
    simp only [PyData.bulk, PyData.bulkAll] at z3 z4 ⊢
    omega
  rw [List.length_map] at h3
  have h4 := h.fit.tl
  have h5 : b.waits = [] := by
    unfold Bk.waits
    rw [h.wait]
    rfl
  have h6 : b.fixs = [] := by
    unfold Bk.fixs
    rw [h.fixed]
    rfl
  unfold Bk.d
  rw [h5, h6]
  simp only [PyData.bulk, PyData.bulkAll, List.map_nil]
  omega
theorem Base.shows {b : Bk} (h : Base b) : b.d.showable = true ∧ b.d.hasDict = false ∧ b.d.depth ≤ 50 ∧ b.d.shown.length ≤ sizeLine := by
  obtain ⟨n, hn, ho⟩ := h.fit.fine
  obtain ⟨c, dp⟩ := okN_shape n _ ho
  obtain ⟨s1, s2⟩ := iSm_of _ _ h.small
  refine ⟨s1, PyData.hasDict_of_canLay _ c, by omega, ?_⟩
  exact PyData.shown_fits_bulk (B := 13) (by decide) (by decide) (PyData.leavesShort_of_canLay0 13 _ c s2) h.bulk
end K9

set_option Elab.async false
set_option linter.all false
set_option maxRecDepth 100000
set_option maxHeartbeats 4000000
/-! The law. -/
namespace K9
open PySem PySem.Spec PyProof.Rows L2 Evl
theorem rgc9 : ∀ m : Nat, m < 64 → 1 ≤ m → RgC 0 (m : Int) 9 ((m + 8) / 9) := by
  unfold RgC
  decide +kernel
def topM (n : Nat) : Nat := if n < 63 then (if 1 < n then n else 1) else 63
theorem topM_eq (n : Nat) : (if (if ((n : Nat) : Int) < 63 then ((n : Nat) : Int) else 63) > 1 then (if ((n : Nat) : Int) < 63 then ((n : Nat) : Int) else 63) else 1) = ((topM n : Nat) : Int) := by
  unfold topM
  by_cases c : n < 63
  · rw [if_pos c, if_pos (by omega : ((n : Nat) : Int) < 63)]
    by_cases e : 1 < n
    · rw [if_pos e, if_pos (by omega)]
    · rw [if_neg e, if_neg (by omega)]
      rfl
  · rw [if_neg c, if_neg (by omega : ¬ ((n : Nat) : Int) < 63)]
    rfl
theorem topM_rng (n : Nat) : topM n < 64 ∧ 1 ≤ topM n := by
  unfold topM
  split
  · split <;> omega
  · omega
def spLaw (K : PySem.W.Frag) : Sp := fun vs H Q _ => ∃ (a : Addr) (ns : List Int), vs = [.ref a] ∧ SqL K H a (ns.map V.int) ∧ ns.length ≤ 63 ∧ ∀ H', Q (.bl true) H'
section
variable {K : PySem.W.Frag} {s : L2.St} {G0 H : Hp} {ta tb te : TE} {tr : TA} {d : PyData} {ds : List PyData} {D : Ends} {n : Nat} {C : Addr} {q : Sd}
theorem dv_max2 {i j : Int} (h1 : EvD ta s G0 (.int i)) (h2 : EvD tb s G0 (.int j)) : EvD (tCB (fun xs H Q => ∃ i j, xs = [.int i, .int j] ∧ Q (.int (if j > i then j else i)) H) (tCons ta (tCons tb tNil))) s G0 (.int (if j > i then j else i)) :=
  dv_cb (ds_cons h1 (ds_cons h2 ds_nil)) fun G H vs _ w hv Q k => by
    obtain ⟨v, u, rfl, hw, hu⟩ := hv.inv2
    cases hw.eqInt
    cases hu.eqInt
    exact ⟨i, j, rfl, k _ G H (Nx.refl w) (.int _)⟩
theorem dv_ofP (h : EvP te s G0 fun x => x = d) : EvD te s G0 d := fun G H e i Q k => h G H e i Q fun v x G' H' hx n hd => by
  subst hx
  exact k v G' H' n hd
theorem dv_repr {ds : List PyData} (h : EvD ta s G0 (.tuple ds)) (hn : noDic (.tuple ds) = true) (hs : (PyData.tuple ds).showable = true ∧ (PyData.tuple ds).hasDict = false ∧ (PyData.tuple ds).depth ≤ 50 ∧ (PyData.tuple ds).shown.length ≤ sizeLine) :
    EvD (tCB (rReprD K) (tCons ta tNil)) s G0 (.str (PyData.tuple ds).shown) :=
  dv_cb (ds_cons h ds_nil) fun G H vs _ w hv Q k => by
    obtain ⟨v, rfl, hw⟩ := hv.inv1
    have hp : Dp K H v (.tuple ds) := DD.dp _ _ hn (hw.up w)
    obtain ⟨a, xs, rfl, _⟩ := hw.atTup
    exact ⟨a, _, rfl, hp, hs.1, hs.2.1, hs.2.2.1, hs.2.2.2, k _ G H (Nx.refl w) (.str _)⟩
theorem dv_neS {x y : Str} (h1 : EvD ta s G0 (.str x)) (h2 : EvD tb s G0 (.str y)) : EvD (tOp rNe ta tb) s G0 (.bool (!decide (V.str x = V.str y))) :=
  dv_op h1 h2 fun G H _ _ e w hx hy Q k => by
    cases hx.eqStr
    cases hy.eqStr
    exact ⟨rfl, k _ G H (Nx.refl w) (.bl _)⟩
theorem dv_single {a : Addr} {first : Int} {ns : List Int} (ha : EvD ta s G0 (rawD a)) (hb : EvD tb s G0 (.int first)) (hs : SqL K G0 a (ns.map V.int)) (hl : ns.length ≤ 63) (h0 : 0 ≤ first ∧ first ≤ 100) :
    EvD (tCall (spSingle K) [] E0 (tCons ta (tCons tb (tCons (tC (.int 5)) tNil)))) s G0 (bookF ns first).d := fun G H e i Q q =>
  ha G H e i _ fun x G2 H2 n2 hx => hb G2 H2 (e.trans n2.g) n2.i _ fun y G3 H3 n3 hy => by
    cases hx.atRaw
    cases hy.eqInt
    have n4 := n2.trans n3
    exact ⟨a, first, ns, G3, rfl, n4.i, ex_l (e.trans n4.g) hs, hl, h0.1, h0.2, fun v G' H' n' hv => q v G' H' (n4.trans n') hv⟩
end
theorem rat_order {rs : List Rw} (hr : ∀ r ∈ rs, 1 ≤ r.len) : ∀ (n : Nat) (L : List Nat), L.length = n → (∀ k ∈ L, k < rs.length) → ∃ o : List Nat, o.Perm L ∧ o.Pairwise (ratio rs)
  | 0, L, hl, _ => by
    rw [List.length_eq_zero_iff.mp hl]
    exact ⟨[], List.Perm.refl _, List.Pairwise.nil⟩
  | n + 1, L, hl, hk => by
    have hne : L ≠ [] := fun z => by
      rw [z] at hl
      cases hl
    obtain ⟨k, hkL, hko⟩ := rat_first hr hne hk
    obtain ⟨o, hp, ho⟩ := rat_order hr n (L.erase k) (by rw [List.length_erase_of_mem hkL, hl]; rfl) fun m hm => hk m (List.mem_of_mem_erase hm)
    exact ⟨k :: o, (hp.cons k).trans (List.perm_cons_erase hkL).symm, List.pairwise_cons.mpr ⟨fun m hm => hko m (List.mem_of_mem_erase (hp.mem_iff.mp hm)), ho⟩⟩
theorem set_same {q : Sd} {i : Nat} {d : PyData} (h : q[i]? = some (some d)) : q.set i (some d) = q := by
  refine List.ext_getElem? fun j => ?_
  by_cases c : i = j
  · subst c
    rw [List.getElem?_set_self (List.getElem?_eq_some_iff.mp h).1, h]
  · rw [List.getElem?_set_ne c]
theorem sq_ifSet {t : TT} {tz : TS} {b : Bool} {i : Nat} {s : L2.St} {G0 H : Hp} {te : TE} {D : Ends} {q : Sd} {d0 dt : PyData} (S : SD G0 s q) (w : Ex G0 H) (h : EvT t s G0 b) (h0 : q[i]? = some (some d0)) (hset : EvD te s G0 dt)
    (k : ∀ s' G' H', SD G' s' (q.set i (some (if b = true then dt else d0))) → Nx G0 H G' H' → tz D s' H') : tSeq (tIfS t (tAsg te (gName i)) tNext) tz D s H := by
  refine sq_if w h (fun hb H2 n2 => ?_) fun hb H2 n2 => ?_
  · subst hb
    exact sd_set S n2.i hset fun s' G' H' S' n' => k s' G' H' S' (n2.trans n')
  · subst hb
    refine k s G0 H2 ?_ n2
    show SD G0 s (q.set i (some d0))
    rw [set_same h0]
    exact S
section
variable {P : Program} {w : World} {K : PySem.W.Frag} {mg : Str → Option Value} {base : Heap}
theorem bk_ts {s : L2.St} {G0 : Hp} {ta : TE} {b : Bk} (h : EvD ta s G0 b.d) : EvD (tOp (rIxT K) ta (tC (.int 2))) s G0 (.tuple (b.ts.map Tk.d)) :=
  dv_ixT (ds := [.tuple (b.ms.map .str), .tuple ((goodsD b.hand).map pairD), .tuple (b.ts.map Tk.d), .tuple (b.waits.map waitD), .tuple (b.fixs.map fixD)]) h dv_int (atI_nat (j := 2) rfl)
theorem ok_law {f C : Addr} {fd : FuncData} (F : Fun K "law" "law" s_law f fd) (T : Txt mg) (C_law_single : Cal P w K mg base 2 "_law_single" (spSingle K)) (C_law_number : Cal P w K mg base 1 "_law_number" (spNum K))
    (C_law_all_worths : Cal P w K mg base 2 "_law_all_worths" (SpR 1 RWorths)) (C_law_bent : Cal P w K mg base 1 "_law_bent" (SpN 2 PBent fun _ d => RB d)) (C_law_is_single : Cal P w K mg base 1 "_law_is_single" (SpR 1 RIsS))
    (C_law_what : Cal P w K mg base 9 "_law_what" (SpR 2 RWhat))
    (C_sum_plan : CalX P w K mg base 8 "sum_plan" (SpX 1 C (RS okSum))) (C_sum_shown : CalX P w K mg base 8 "sum_shown" (SpX 1 C (RS okShown))) (C_count_plan : CalX P w K mg base 8 "count_plan" (SpX 1 C (RS okFew))) :
    FnOkG P w K mg base 10 f fd ["_law_script"] (spLaw K) := by
  refine fn_okG F sc_law (fun vs H Q E h => ?_) fun cdv A outer s H vs Q E hg hr h => ?_
  · obtain ⟨a, ns, rfl, _⟩ := h
    rfl
  obtain ⟨a, ns, rfl, hs, hnl, q⟩ := h
  have S : SD H (start ["_law_script", "_law_first", "_law_book", "_law_kept", "_law_least", "_law_late", "_law_bent_here", "_law_due", "_law_way"] [.ref a]) [some (rawD a), none, none, none, none, none, none, none, none] := SD.start (.one (.raw a))
  have tm := topM_rng ns.length
  refine ⟨_, (pss_cons (ps_for PassesOwn.never rfl (pi_range3 (by rfl) T.b_range (pa_cons pe_int (pa_cons (pe_callB (call_max2 rfl) (by rfl) T.b_max bt_max (pa_cons pe_int (pa_cons (pe_callB (call_min2 rfl) (by rfl) T.b_min bt_min (pa_cons pe_int (pa_cons (pe_callB (r := rLenQ K) cr_len (by rfl) T.b_len bt_len (pa_cons (pv 0) pa_nil)) pa_nil))) pa_nil))) (pa_cons pe_int pa_nil)))) (pg_name (i := 1) sc_law.nd rfl (Or.inl rfl)) (pss_cons (ps_set (i := 2) sc_law.nd rfl (Or.inl rfl) (pe_c C_law_single hr (by decide) (by rfl) (pa_cons (pv 0) (pa_cons (pv 1) (pa_cons pe_int pa_nil)))))
      (pss_cons (ps_set (i := 3) sc_law.nd rfl (Or.inl rfl) (pe_callB (r := rReprD K) (cr_repr hg hr.units) (by rfl) T.b_repr bt_repr (pa_cons (pv 2) pa_nil)))
      (pss_cons (ps_asg (pe_c C_law_all_worths hr (by decide) (by rfl) (pa_cons (pe_ix (r := rIxT K) ix_tup (pv 2) pe_int (fun _ _ => rfl)) pa_nil)) (pg_tup rfl (pgs_cons (pg_name (i := 4) sc_law.nd rfl (Or.inl rfl)) (pgs_cons (pg_name (i := 5) sc_law.nd rfl (Or.inl rfl)) pgs_nil))))
      (pss_cons (ps_if (PW.pt (pw_or (pt_cmpR (r := rNeD K) (op_neD hr.units) (pe_cx C_sum_shown passL hr (by decide) (by rfl) (pa_cons (pv 2) pa_nil)) (pv 4) (nomark _)) (pw_or (pt_cmpR (r := rNeD K) (op_neD hr.units) (pe_ix (r := rIxT K) ix_tup (pe_cx C_sum_plan passL hr (by decide) (by rfl) (pa_cons (pv 2) pa_nil)) pe_int (fun _ _ => rfl)) (pv 4) (nomark _)) (pw_or1 (pt_cmpR (r := rNeD K) (op_neD hr.units) (pe_ix (r := rIxT K) ix_tup (pe_cx C_count_plan passL hr (by decide) (by rfl) (pa_cons (pv 2) pa_nil)) pe_int (fun _ _ => rfl)) (pv 5) (nomark _)))))) (pss_one (ps_ret pe_bl)) pss_nil)
      (pss_cons (ps_set (i := 6) sc_law.nd rfl (Or.inr rfl) (pe_c C_law_bent hr (by decide) (by rfl) (pa_cons (pv 2) (pa_cons (pe_c C_law_number hr (by decide) (by rfl) (pa_cons (pv 0) (pa_cons (pe_op op_add (pv 1) pe_int) pa_nil))) pa_nil))))
      (pss_cons (ps_set (i := 7) sc_law.nd rfl (Or.inr rfl) (pe_c C_law_what hr (by decide) (by rfl) (pa_cons (pv 6) (pa_cons pe_int pa_nil))))
      (pss_cons (ps_if (PW.pt (pw_and (pt_cmpR (r := rEqD K) (op_eqD hr.units) (pv 7) pe_str (nomark _)) (pw_and1 (pt_not (pt_val (pe_c C_law_is_single hr (by decide) (by rfl) (pa_cons (pv 6) pa_nil))))))) (pss_one (ps_set (i := 7) sc_law.nd rfl (Or.inr rfl) pe_str)) pss_nil)
      (pss_one (ps_if (PW.pt (pw_or (pt_cmpR (r := rNeD K) (op_neD hr.units) (pe_lc (own := [("_law_way", 8)]) (g := (gName 8)) rfl sc_law.nd (pi_range1 (by rfl) T.b_range (pa_cons pe_int pa_nil)) (blkOk_by (N := ["_law_script", "_law_first", "_law_book", "_law_kept", "_law_least", "_law_late", "_law_bent_here", "_law_due", "_law_way"]) (sc := defScope s_law) (by decide +kernel)) (fun _ _ _ _ _ => (pg_name (i := 8) sc_law.nd rfl (Or.inl rfl))) (fun _ _ _ _ _ => (pts_one (pt_cmpR (r := rNeD K) (op_neD hr.units) (pe_c C_law_what hr (by decide) (by rfl) (pa_cons (pv 6) (pa_cons (pv 8) pa_nil))) (pv 7) (nomark _)))) (fun _ _ _ _ _ => (pv 8))) (pe_lst pa_nil) (nomark _)) (pw_or1 (pt_cmpR op_ne (pe_callB (r := rReprD K) (cr_repr hg hr.units) (by rfl) T.b_repr bt_repr (pa_cons (pv 2) pa_nil)) (pv 3) (nomark _))))) (pss_one (ps_ret pe_bl)) pss_nil))))))))))
      (pss_one (ps_ret pe_bl))), ?_⟩
  have hLess : ∀ {s' : L2.St} {G' : Hp} {q' : Sd}, SD G' s' (some (rawD a) :: q') → q'.length = 8 → SD G' s' [some (rawD a), none, none, none, none, none, none, none, none] := fun {s' G' q'} S' hl => by
    obtain ⟨h1, h2⟩ := S'
    refine ⟨by rw [h1, List.length_cons, hl]; rfl, fun j d hj => ?_⟩
    match j, hj with
    | 0, hj => exact h2 0 d hj
    | j + 1, hj =>
      exfalso
      match j, hj with
      | 0, hj | 1, hj | 2, hj | 3, hj | 4, hj | 5, hj | 6, hj | 7, hj => cases hj
      | j + 8, hj => simp at hj
  refine sq_for (ds := stepsD 0 9 ((topM ns.length + 8) / 9)) (fun _ => [some (rawD a), none, none, none, none, none, none, none, none]) (fun _ d => [some (rawD a), some d, none, none, none, none, none, none, none]) S (Ex.refl H)
    (ei_rng3 (ds_cons dv_int (ds_cons (dv_is (dv_max2 dv_int (dv_min2 dv_int (dv_is (dv_lenR (dv_var S) hs) (by rw [List.length_map])))) (congrArg PyData.int (topM_eq ns.length))) (ds_cons dv_int ds_nil))) (rgc9 _ tm.1 tm.2)) (fun i d hd => tg_name) (fun Gb Hb nb j d s1 G1 H1 hj S1 n1 => ?_) fun s' G' H' S' n' => sd_ret n'.i dv_bl fun v G2 H2 n2 hv => ?_
  · have hjl : j < (topM ns.length + 8) / 9 := by
      have := (List.getElem?_eq_some_iff.mp hj).1
      rw [stepsD_len] at this
      exact this
    have ed : d = .int (0 + ((j : Nat) : Int) * 9) := by
      unfold stepsD at hj
      rw [List.getElem?_map, List.getElem?_range hjl] at hj
      exact (Option.some.inj hj).symm
    subst ed
    generalize hfi : 0 + ((j : Nat) : Int) * 9 = first at S1
    have hfr : 0 ≤ first ∧ first ≤ 62 := by omega
    have eH1 : Ex H G1 := nb.g.trans n1.g
    have hb := base_ok ns first
    refine sq_set (d := (bookF ns first).d) S1 n1.i (dv_single (dv_var S1) (dv_var S1) (ex_l eH1 hs) hnl ⟨hfr.1, by omega⟩) fun s2 G2 H2 S2 n2 => ?_
    generalize bookF ns first = b at hb S2
    have hgood := hb.fit.good
    have nd : noDic b.d = true := by
      obtain ⟨m, _, ho⟩ := hgood.fine
      exact okN_noDic m _ ho
    refine sq_set (d := .str b.d.shown) S2 n2.i (dv_repr (dv_var (d := b.d) S2) nd hb.shows) fun s3 G3 H3 S3 n3 => ?_
    have hrw : ∀ t ∈ b.ts, RwOk t.rw := fun t ht => task_rng (form_task hgood.form t ht)
    refine sq_asg (d := .tuple [.int (minI (sumsO b.ts)), .int (minI (latesO b.ts))]) S3 n3.i (dv_call (ds_cons (bk_ts (dv_var (d := b.d) S3)) ds_nil) ⟨b.ts, rfl, hgood.tl, hrw, rfl⟩) (tg_tup (tgs_cons tg_name (tgs_cons tg_name tgs_nil))) fun s4 G4 H4 S4 n4 => ?_
    have hne := ordsL_ne b.ts.length hgood.tl
    have hsing := base_single hb
    have hls : lbF b.rows = minI (sumsO b.ts) := by
      obtain ⟨o, hp, ho⟩ := rat_order (rs := b.rows) (fun r hr2 => by
        obtain ⟨t, ht, rfl⟩ := List.mem_map.mp hr2
        exact (hrw t ht).len.1) _ (List.range b.rows.length) rfl fun k hk => List.mem_range.mp hk
      exact (sums_least hne hp ho).1.symm
    have same : ∀ {x y : Int}, x = y → (!PyData.eqv (.int x) (.int y)) = false := fun {x y} h => by
      rw [h, eqv_int]
      simp
    refine sq_when (b := false) n4.i (et_is (et_or (tt_T (dv_neD (d1 := .int (lbF b.rows)) (d2 := .int (minI (sumsO b.ts))) (dv_ofP (dp_call (Pd := okShown b) (ds_cons (dv_var S4) ds_nil) ⟨b.d, rfl, hgood.fine, .inr ⟨b, rfl, hgood, .inl ⟨hsing, rfl⟩⟩⟩)) (dv_var S4) (shaped_int _) (shaped_int _))) fun _ =>
      et_or (tt_T (dv_neD (d1 := .int (minI (sumsO b.ts))) (d2 := .int (minI (sumsO b.ts))) (dp_ixT (Pd := okSum b) (dp_call (ds_cons (dv_var S4) ds_nil) ⟨b.d, rfl, hgood.fine, .inr ⟨b, rfl, hgood, .inl ⟨hsing, rfl⟩⟩⟩) dv_int fun d hd => ?_) (dv_var S4) (shaped_int _) (shaped_int _))) fun _ =>
        tt_T (dv_neD (d1 := .int (minI (latesO b.ts))) (d2 := .int (minI (latesO b.ts))) (dp_ixT (Pd := okFew b) (dp_call (ds_cons (dv_var S4) ds_nil) ⟨b.d, rfl, hgood.fine, .inr ⟨b, rfl, hgood, .inl ⟨hsing, rfl⟩⟩⟩) dv_int fun d hd => ?_) (dv_var S4) (shaped_int _) (shaped_int _))) ?_) (fun z => nomatch z) fun _ H5 n5 => ?_
    · obtain ⟨ord, p, rfl, hp, hr2⟩ := hd
      refine ⟨_, rfl, ?_⟩
      have h2 := sums_least hne hp hr2
      refine atI_nat (j := 0) ?_
      show some (PyData.int _) = some (PyData.int _)
      rw [h2.1]
      exact congrArg (fun x => some (PyData.int x)) h2.2
    · obtain ⟨ord, many, p, p2, rfl, hp, hr2, hbest⟩ := hd
      refine ⟨_, rfl, ?_⟩
      have h2 := lates_least hgood.ne hne hgood.tl hrw hp hr2 hbest
      refine atI_nat (j := 0) ?_
      show some (PyData.int _) = some (PyData.int _)
      rw [h2]
      rfl
    · rw [same hls, same rfl, same rfl]
      rfl
    refine sq_setP (Pd := RB) S4 n5.i (dp_callN (ds_cons (dv_var S4) (ds_cons (dv_num (dv_var S4) (dv_opI (dv_var S4) dv_int) (ex_l (eH1.trans ((n2.trans n3).trans n4).g) hs) hnl (by omega)) ds_nil)) ⟨b, _, rfl, hb, numF_rng _ _⟩) fun d s6 G6 H6 hd S6 n6 => ?_
    obtain ⟨hf, hcase⟩ := hd
    obtain ⟨z3, sg, hz3, hw3, his, hws⟩ : ∃ (z3 : Str) (sg : Bool), (z3 = "form" ∨ z3 = "") ∧ RWhat [d, .int 3] (.str z3) ∧ (z3 = "" → RIsS [d] (.bool sg)) ∧ ∀ way : Int, 0 ≤ way → way ≤ 2 → RWhat [d, .int way] (.str (if (PyData.eqv (.str z3) (.str "") && !sg) = true then "single" else z3)) := by
      rcases hcase with c | ⟨b2, e, hg2⟩
      · refine ⟨"form", true, .inl rfl, ⟨d, 3, rfl, by decide, by decide, hf, .inl ⟨c, rfl⟩⟩, fun z => absurd z (by decide), fun way h1 h2 => ⟨d, way, rfl, h1, by omega, hf, .inl ⟨c, ?_⟩⟩⟩
        rw [Bool.not_true, Bool.and_false]
        rfl
      · refine ⟨"", isSingle b2, .inr rfl, ⟨d, 3, rfl, by decide, by decide, hf, .inr ⟨b2, e, hg2, rfl⟩⟩, fun _ => ⟨b2, by rw [e], hg2, rfl⟩, fun way h1 h2 => ⟨d, way, rfl, h1, by omega, hf, .inr ⟨b2, e, hg2, ?_⟩⟩⟩
        unfold wordOf
        rw [if_neg (by omega : ¬ way = 3), eqv_str]
        cases isSingle b2 <;> rfl
    have hsh : ∀ z : Str, z = "form" ∨ z = "" ∨ z = "single" → shN (.str z) = true := fun z h => by
      rcases h with e | e | e <;> rw [e] <;> decide +kernel
    refine sq_set (d := .str z3) S6 n6.i (dv_call (ds_cons (dv_var S6) (ds_cons dv_int ds_nil)) hw3) fun s7 G7 H7 S7 n7 => ?_
    refine sq_ifSet (b := PyData.eqv (.str z3) (.str "") && !sg) (dt := .str "single") (d0 := .str z3) S7 n7.i (et_and (tt_T (dv_eqD (d1 := .str z3) (dv_var S7) dv_str (hsh _ (by rcases hz3 with e | e <;> simp [e])) (by decide +kernel))) fun he => et_not (tt_B (dv_call (ds_cons (dv_var S7) ds_nil) (his ?_)))) rfl dv_str fun s8 G8 H8 S8 n8 => ?_
    · rw [eqv_str] at he
      exact eq_of_beq he
    generalize hz : (if (PyData.eqv (.str z3) (.str "") && !sg) = true then ("single" : Str) else z3) = z at hws
    have S8 : SD G8 s8 [some (rawD a), some (.int first), some b.d, some (.str b.d.shown), some (.int (minI (sumsO b.ts))), some (.int (minI (latesO b.ts))), some d, some (.str z), none] := by
      have e : (if (PyData.eqv (.str z3) (.str "") && !sg) = true then PyData.str "single" else PyData.str z3) = PyData.str z := by
        rw [← hz]
        split <;> rfl
      rw [e] at S8
      exact S8
    have hzs : shN (.str z) = true := hsh _ (by
      rw [← hz]
      split
      · simp
      · rcases hz3 with e | e <;> simp [e])
    refine sd_if (b := false) n8.i (et_is (et_or (tt_T (dv_neD (d1 := .list []) (d2 := .list []) (dv_is (dv_lc (ds := intsD 0 3) (js := [8]) (fun d' => [some (rawD a), some (.int first), some b.d, some (.str b.d.shown), some (.int (minI (sumsO b.ts))), some (.int (minI (latesO b.ts))), some d, some (.str z), some d']) (fun _ => false) (fun d' => d') (ei_rng1 (ds_cons dv_int ds_nil) (by omega)) S8 (by rw [intsD_len]; decide) (fun d' hm => tg_name) (by decide) (fun d' hm s9 G9 e9 S9 => ?_) fun d' hm z => nomatch z) ?_) (dv_lst ds_nil) (by decide +kernel) (by decide +kernel))) fun _ =>
      tt_T (dv_neS (x := b.d.shown) (y := b.d.shown) (dv_repr (dv_var (d := b.d) S8) nd hb.shows) (dv_var S8))) ?_) (fun z => nomatch z) fun _ H9 n9 => ?_
    · obtain ⟨m, hm2, rfl⟩ := List.mem_map.mp hm
      have hml := List.mem_range.mp hm2
      refine et_is (tt_T (dv_neD (d1 := .str z) (d2 := .str z) (dv_call (ds_cons (dv_var S9) (ds_cons (dv_var S9) ds_nil)) (hws (0 + ((m : Nat) : Int)) (by omega) (by omega))) (dv_var S9) hzs hzs)) ?_
      rw [eqv_str]
      simp
    · rw [List.filter_eq_nil_iff.mpr (fun _ _ => by simp)]
      rfl
    · simp [PyData.eqv, PyData.eqvAll]
    · exact ⟨G8, hLess S8 rfl, ((((((n1.trans n2).trans n3).trans n4).trans n5).trans n6).trans n7).trans (n8.trans n9)⟩
  · cases hv
    exact q H2
end
end K9

set_option Elab.async false
set_option linter.all false
set_option maxRecDepth 100000
set_option maxHeartbeats 4000000
/-! The law is called: as L2.law_call and L2.walk_of, for a promise that may lean on "nothing is being shown". -/
namespace K9
open PySem PySem.Spec PyProof.Rows L2
theorem law_callG {P : Program} {w : World} {K : PySem.W.Frag} {mg mb : Str → Option Value} {k : Nat} {fa a : Addr} {fd : FuncData} {x : Str} {sp : Sp} {s₁ : Shared} {vs : List Value} {ns : List Int}
    (KX : K.In s₁.heap) (hns : s₁.heap.Ns mainGlobals mg) (hb : s₁.heap.Ns builtinsNs mb) (hbb : ∀ x : Str, x ≠ "__name__" → mb x = bootBuiltins x) (hlim : s₁.heap.NoLimit) (hg : s₁.gens = #[])
    (ha : s₁.heap.get? a = some { cls := .type "list", data := .seq vs.toArray }) (hi : IntsAre vs ns) (hl : ns.length ≤ sizeLine) (hr : Room k callerA)
    (F : ∀ base : Heap, K.In base → base.Ns mainGlobals mg → FnOkG P w K mg base k fa fd [x] sp) (hbind : ∀ (s : Shared) (u : Value), BindsTo s fd ⟨[u], []⟩ [(x, u)])
    (hsp : ∀ H : Hp, Only H → SqL K H a (ns.map V.int) → sp [.ref a] H (fun v _ => v = .bl true) fun _ _ _ => False) :
    codeAny (model P w) callerA (.call (.ref fa) ⟨[.ref a], []⟩) (fun r s' => r = .ok (.ret (.bool true)) ∧ OldK s₁.heap s'.heap ∧ s'.os = s₁.os ∧ AllBare s'.gens) s₁ := by
  have rv := vals_ints hi
  have lenV := hi.length
  have core : ∀ H : Hp, Only H → SqL K H a (ns.map V.int) → HOk P w H s₁.heap → (∀ b, H b ≠ none → b = a) → (H a ≠ none → K.lookup a = none) →
      codeAny (model P w) callerA (.call (.ref fa) ⟨[.ref a], []⟩) (fun r s' => r = .ok (.ret (.bool true)) ∧ OldK s₁.heap s'.heap ∧ s'.os = s₁.os ∧ AllBare s'.gens) s₁ := by
    intro H hO hS hok hA hK
    have atA : ∀ {b : Addr}, b ≠ a → H b = none := fun {b} hn => by
      cases q : H b with
      | none => rfl
      | some u => exact absurd (hA b (by rw [q]; simp)) hn
    have nsK : ∀ {b : Addr} {m : Str → Option Value}, s₁.heap.Ns b m → (hidT s₁.heap H).Ns b m := fun {b m} ⟨o, es, ep, e, d, r⟩ => ⟨o, es, ep, hidT_get e (atA fun z => by
      subst z
      rw [ha] at e
      cases e
      have d' : Data.seq vs.toArray _ = Data.dict es ep := d
      cases d'), d, r⟩
    have hKb : K.In (hidT s₁.heap H) := fun b o e => hidT_get (KX b o e) (by
      cases q : H b with
      | none => rfl
      | some u =>
        have e' : b = a := hA b (by rw [q]; simp)
        subst e'
        rw [hK (by rw [q]; simp)] at e
        cases e)
    have hM : Mod K mg (hidT s₁.heap H) := ⟨hKb, nsK hns, ⟨mb, nsK hb, hbb⟩, let ⟨mc, h1, h2⟩ := hlim; ⟨mc, nsK h1, h2⟩⟩
    have e0 : Env0 P w K mg (hidT s₁.heap H) callerA [] s₁ H := ⟨rfl, hM, fun b o e => of_hidT e, Nat.le_of_eq (hidT_size _ _), trivial, fun b hb => absurd (show b ∈ ([] : List Addr) from hb) (by simp), hok, .of_eq hg⟩
    refine codeAny_mono ((F _ hKb (nsK hns)).run callerA [] s₁ H ⟨[.ref a], []⟩ [.ref a] [.ref a] _ _ rfl hr e0 (hbind s₁ (.ref a)) (.cons rfl .nil) (hsp H hO hS)) fun r s' h => ?_
    cases r with
    | error e => exact False.elim h
    | ok fl =>
      cases fl with
      | next => exact False.elim h
      | brk => exact False.elim h
      | cont => exact False.elim h
      | ret u =>
        obtain ⟨v, H', os, bare, un, hok', r', q⟩ := h
        have q' : v = .bl true := q
        subst q'
        obtain rfl : u = Value.bool true := r'
        refine ⟨rfl, OldK.of_keep fun b o e => ?_, os, bare⟩
        cases q : H b with
        | none => exact un.keep b o e q (by intro z; exact absurd (show b ∈ ([] : List Addr) from z) (by simp)) (by simp)
        | some u =>
          rcases hO b with z | ⟨ob, xs, z⟩
          · rw [q] at z; cases z
          · obtain ⟨e1, _⟩ := hok b _ z
            obtain ⟨e2, _⟩ := hok' b _ (un.frzs b ob _ z)
            rw [e] at e1; cases e1
            exact e2
  cases hk : K.lookup a with
  | some o =>
    have e := KX a o hk
    rw [ha] at e
    cases e
    exact core (fun _ => none) (fun _ => .inl rfl) (.inr ⟨_, vs.toArray, _, hk, rfl, rfl, rfl, by rw [List.size_toArray, lenV]; exact hl, by simpa using rv⟩) (fun b u z => by have z' : (none : Option HO) = some u := z; cases z') (fun b z => absurd rfl z) fun z => absurd rfl z
  | none =>
    refine core (fun b => if b = a then some (.frz { cls := .type "list", data := .seq vs.toArray } (.lst (ns.map V.int))) else none) (fun b => ?_) (.inl (.inr ⟨{ cls := .type "list", data := .seq vs.toArray }, if_pos rfl⟩)) (fun b u z => ?_) (fun b z => ?_) fun _ => hk
    · by_cases hb : b = a
      · exact .inr ⟨_, _, if_pos hb⟩
      · exact .inl (if_neg hb)
    · by_cases hb : b = a
      · have z' := (if_pos hb).symm.trans z
        cases z'
        subst hb
        exact ⟨ha, by rw [List.length_map]; exact hl, vs, _, rv, ha⟩
      · have z' := (if_neg hb).symm.trans z
        cases z'
    · by_cases hb : b = a
      · exact hb
      · exact absurd (if_neg hb) z
theorem walk {l : PySem.W.OpenLaw} {q : Program} {loose : List Str} {XP : (Str → Option Value) → Heap → Prop} {YP : World → Heap → Prop} {d : DefRec} {K : Params → PySem.W.Frag} (hn : l.most = some 63) (hdf : d.params.defaults = [])
    (hY : ∀ (w : World) (h : Heap), YP w h → (K w.params).In h)
    (F : ∀ (w : World) (mg : Str → Option Value) (fa : Addr) (h : Heap), (K w.params).In h → h.Ns mainGlobals mg → mg d.name = some (.ref fa) →
      ∃ fd : FuncData, (∀ (s : Shared) (u : Value), BindsTo s fd ⟨[u], []⟩ [("_law_script", u)]) ∧ ∀ base : Heap, (K w.params).In base → base.Ns mainGlobals mg → FnOkG l.prog w (K w.params) mg base 10 fa fd ["_law_script"] (spLaw (K w.params))) :
    PySem.W.WalkO q loose XP YP l.row.toRowW d [] (fun f vs => PySem.call f vs) := by
  refine Att.attach_call hn hdf fun w s₀ s₁ mg mb fa o pm cd doc a vs ns G Y ho hd hcd hmg hobj hints hlen hg => ?_
  have KX := hY w _ Y
  obtain ⟨fd, hb, hF⟩ := F w mg fa _ KX G.T.g hmg
  exact law_callG KX G.T.g G.T.b G.T.builtins G.T.nolimit hg hobj hints (Nat.le_trans hlen (by decide)) ⟨rfl, by decide, by decide⟩ hF hb fun H hO hS => ⟨a, ns, rfl, hS, hlen, fun _ => rfl⟩
end K9

set_option Elab.async false
set_option linter.all false
set_option maxRecDepth 100000
set_option maxHeartbeats 4000000
/-! All promises joined; what the top has written. Printed by mkend.py. -/
namespace K9
open PySem PySem.Spec PyProof.Rows L2
def FunAt (K : PySem.W.Frag) (x : Str) (st : Stmt) : Prop := ∃ (f : Addr) (fd : FuncData), PySem.W.nsIn K mainGlobals x = some (some (.ref f)) ∧ Fun K x x st f fd
theorem fun_at {K : PySem.W.Frag} {x : Str} {st : Stmt} {f : Addr} {od an : Option Addr} {osl : Array (Option Value)} {oc kV doc pm cdv ct : Value} (a : PySem.W.nsIn K mainGlobals x = some (some (.ref f)))
    (l : K.lookup f = some ⟨oc, od, .func (PySem.W.fnOf x x (defArgs st) (defBody st) (defScope st) .none kV doc pm an cdv ct), osl⟩) (c : PySem.W.codeIn K cdv x = true) (k : PySem.W.keepIn K (.ref f) = true) : FunAt K x st := ⟨f, _, a, fun_mk l c k⟩
theorem cs_mk {K : PySem.W.Frag} {x : Str} {z : Str} {t : Tok} (h : PySem.W.nsIn K mainGlobals x = some (some (.str z t))) : ∃ t, PySem.W.nsIn K mainGlobals x = some (some (.str z t)) := ⟨t, h⟩
theorem ci_mk {K : PySem.W.Frag} {x : Str} {z : Int} {t : Tok} (h : PySem.W.nsIn K mainGlobals x = some (some (.int z t))) : ∃ t, PySem.W.nsIn K mainGlobals x = some (some (.int z t)) := ⟨t, h⟩
theorem kit_cl {K : PySem.W.Frag} {t : Value} {C : Addr} {b : Bool} (h2 : PySem.W.isClsIn K C = true) (h3 : PySem.W.typeIn K (.ref C) = some (.type "type")) (h4 : PySem.W.subIn K t (.ref C) = some b) : PySem.W.kitCls K t (.ref C) = some b := by
  have e2 : ((PySem.W.clsIn K C).isSome && PySem.W.typeIn K (.ref C) == some (.type "type")) = true := by
    have h2' : (PySem.W.clsIn K C).isSome = true := h2
    rw [h2', h3] <;> rfl
  show (if ((PySem.W.clsIn K C).isSome && PySem.W.typeIn K (.ref C) == some (.type "type")) = true then PySem.W.subIn K t (.ref C) else none) = some b
  rw [if_pos e2]
  exact h4
theorem exm_mk {K : PySem.W.Frag} {t : Value} {C : Addr} {b : Bool} (h1 : PySem.W.subIn K (.ref C) (.type "BaseException") = some true) (h2 : PySem.W.isClsIn K C = true) (h3 : PySem.W.typeIn K (.ref C) = some (.type "type")) (h4 : PySem.W.subIn K t (.ref C) = some b) : PySem.W.exmOne K t (.ref C) = some b := by
  have e1 : (PySem.W.subIn K (.ref C) (.type "BaseException") == some true) = true := by rw [h1] <;> rfl
  unfold PySem.W.exmOne
  rw [if_pos e1]
  exact kit_cl h2 h3 h4
theorem kit_self {K : PySem.W.Frag} {C : Addr} : PySem.W.kitOne K (.ref C) (.ref C) = some true := by
  unfold PySem.W.kitOne
  rw [if_pos (by simp)]
theorem kit_no {K : PySem.W.Frag} {C a : Addr} (n : C ≠ a) (h2 : PySem.W.isClsIn K a = true) (h3 : PySem.W.typeIn K (.ref a) = some (.type "type")) (h4 : PySem.W.subIn K (.ref C) (.ref a) = some false) : PySem.W.kitOne K (.ref C) (.ref a) = some false := by
  unfold PySem.W.kitOne
  rw [if_neg (by simpa using n)]
  exact kit_cl h2 h3 h4
theorem kit_ve {K : PySem.W.Frag} {C : Addr} (h4 : PySem.W.subIn K (.ref C) (.type "ValueError") = some true) : PySem.W.kitOne K (.ref C) (.type "ValueError") = some true := by
  unfold PySem.W.kitOne
  rw [if_neg (by simp)]
  show (if PySem.W.kitMeta "ValueError" = true then PySem.W.subIn K (.ref C) (.type "ValueError") else none) = some true
  rw [if_pos (by decide +kernel)]
  exact h4
theorem any_no {K : PySem.W.Frag} {t c : Value} {r : List Value} (h : PySem.W.kitOne K t c = some false) (h2 : PySem.W.kitAny K t r = some false) : PySem.W.kitAny K t (c :: r) = some false := by
  unfold PySem.W.kitAny
  rw [h]
  exact h2
theorem oex_mk {K : PySem.W.Frag} {C p : Addr} {nm q : Str} {N : Addr} {bs : List Value} {sn : List Str} {sub : List Value} {ab : Bool} {col : Option Bool} {dd : Option Addr} {m0 m1 m2 m3 m5 : Option Value}
    (gP : PySem.W.nsIn K mainGlobals "PlanError" = some (some (.ref p)))
    (xL : K.lookup C = some (PySem.excClassObj nm q C N bs [.ref p, .type "ValueError", .type "Exception", .type "BaseException", .type "object"] true sn sub ab col dd m0 m1 m2 m3 m5 "ValueError.__new__"))
    (sa : PySem.W.findIn K (.ref C) "__setattr__" = some (some (.builtin "object.__setattr__"))) (eC : PySem.W.subIn K (.ref C) (.type "BaseException") = some true) (tC : PySem.W.typeIn K (.ref C) = some (.type "type")) (kC : PySem.W.keepIn K (.ref C) = true) : OexC K C :=
  ⟨⟨nm, q, N, bs, _, sn, sub, ab, col, dd, m0, m1, m2, m3, m5, xL, by first | rfl | decide +kernel | simp [PySem.HandSPX.refsVE]⟩, sa, eC, tC, kC⟩
/-- the errors' classes -/
structure ErrAt (K : PySem.W.Frag) (C p fI : Addr) : Prop where
  gC : PySem.W.nsIn K mainGlobals "BadBook" = some (some (.ref C))
  gP : PySem.W.nsIn K mainGlobals "PlanError" = some (some (.ref p))
  oe : OexC K C
  no : PySem.W.findIn K (.ref C) "what" = some none
  iC : PySem.W.findIn K (.ref C) "__init__" = some (some (.ref fI))
  tI : PySem.W.typeIn K (.ref fI) = some (.type "function")
  F : ∃ fd : FuncData, Fun K "__init__" "BadBook.__init__" s_init fI fd
  pa : PySem.W.specialIn K (.ref p) "__getattribute__" = some (some (.builtin "type.__getattribute__"))
  pr : PySem.W.readsIn K p (.type "type") = true
  pf : PySem.W.findCls K (.ref p) (.type "type") "__init__" = some (.val (.builtin "ValueError.__init__"))
  ec : ExcC K C
  xf : XfC K C
  ex : PySem.W.exmOne K (.ref C) (.ref p) = some true
  kC : PySem.W.kitOne K (.ref C) (.ref C) = some true
  kV : PySem.W.kitOne K (.ref C) (.type "ValueError") = some true
  others : ∃ a1 a2 a3 a4 a5 a6 : Addr, PySem.W.nsIn K mainGlobals "BadArcs" = some (some (.ref a1)) ∧ PySem.W.nsIn K mainGlobals "BadPlan" = some (some (.ref a2)) ∧ PySem.W.nsIn K mainGlobals "BadRows" = some (some (.ref a3)) ∧ PySem.W.nsIn K mainGlobals "BadTasks" = some (some (.ref a4)) ∧ PySem.W.nsIn K mainGlobals "BadText" = some (some (.ref a5)) ∧ PySem.W.nsIn K mainGlobals "BadWorth" = some (some (.ref a6)) ∧
    PySem.W.kitAny K (.ref C) [.ref a1, .ref a2, .ref a3, .ref a4, .ref a5, .ref a6] = some false
theorem oth_mk {K : PySem.W.Frag} {C a1 a2 a3 a4 a5 a6 : Addr} (g1 : PySem.W.nsIn K mainGlobals "BadArcs" = some (some (.ref a1))) (q1 : PySem.W.kitOne K (.ref C) (.ref a1) = some false) (g2 : PySem.W.nsIn K mainGlobals "BadPlan" = some (some (.ref a2))) (q2 : PySem.W.kitOne K (.ref C) (.ref a2) = some false) (g3 : PySem.W.nsIn K mainGlobals "BadRows" = some (some (.ref a3))) (q3 : PySem.W.kitOne K (.ref C) (.ref a3) = some false) (g4 : PySem.W.nsIn K mainGlobals "BadTasks" = some (some (.ref a4))) (q4 : PySem.W.kitOne K (.ref C) (.ref a4) = some false) (g5 : PySem.W.nsIn K mainGlobals "BadText" = some (some (.ref a5))) (q5 : PySem.W.kitOne K (.ref C) (.ref a5) = some false) (g6 : PySem.W.nsIn K mainGlobals "BadWorth" = some (some (.ref a6))) (q6 : PySem.W.kitOne K (.ref C) (.ref a6) = some false) : ∃ a1 a2 a3 a4 a5 a6 : Addr, PySem.W.nsIn K mainGlobals "BadArcs" = some (some (.ref a1)) ∧ PySem.W.nsIn K mainGlobals "BadPlan" = some (some (.ref a2)) ∧ PySem.W.nsIn K mainGlobals "BadRows" = some (some (.ref a3)) ∧ PySem.W.nsIn K mainGlobals "BadTasks" = some (some (.ref a4)) ∧ PySem.W.nsIn K mainGlobals "BadText" = some (some (.ref a5)) ∧ PySem.W.nsIn K mainGlobals "BadWorth" = some (some (.ref a6)) ∧ PySem.W.kitAny K (.ref C) [.ref a1, .ref a2, .ref a3, .ref a4, .ref a5, .ref a6] = some false := ⟨a1, a2, a3, a4, a5, a6, g1, g2, g3, g4, g5, g6, any_no q1 (any_no q2 (any_no q3 (any_no q4 (any_no q5 (any_no q6 rfl)))))⟩
structure TxtAt (K : PySem.W.Frag) : Prop where
  b_isinstance : PySem.W.nsIn K mainGlobals "isinstance" = some none
  b_len : PySem.W.nsIn K mainGlobals "len" = some none
  b_all : PySem.W.nsIn K mainGlobals "all" = some none
  b_max : PySem.W.nsIn K mainGlobals "max" = some none
  b_min : PySem.W.nsIn K mainGlobals "min" = some none
  b_sorted : PySem.W.nsIn K mainGlobals "sorted" = some none
  b_sum : PySem.W.nsIn K mainGlobals "sum" = some none
  b_repr : PySem.W.nsIn K mainGlobals "repr" = some none
  b_range : PySem.W.nsIn K mainGlobals "range" = some none
  b_enumerate : PySem.W.nsIn K mainGlobals "enumerate" = some none
  b_int : PySem.W.nsIn K mainGlobals "int" = some none
  b_bool : PySem.W.nsIn K mainGlobals "bool" = some none
  b_str : PySem.W.nsIn K mainGlobals "str" = some none
  b_tuple : PySem.W.nsIn K mainGlobals "tuple" = some none
  b_list : PySem.W.nsIn K mainGlobals "list" = some none
  b_set : PySem.W.nsIn K mainGlobals "set" = some none
  b_dict : PySem.W.nsIn K mainGlobals "dict" = some none
  b_ValueError : PySem.W.nsIn K mainGlobals "ValueError" = some none
  c_SMALL : ∃ t, PySem.W.nsIn K mainGlobals "SMALL" = some (some (.str "abcdefghijklmnopqrstuvwxyz" t))
  c_MOST_SIGNS : ∃ t, PySem.W.nsIn K mainGlobals "MOST_SIGNS" = some (some (.int 8 t))
  c_MOST_MACHINES : ∃ t, PySem.W.nsIn K mainGlobals "MOST_MACHINES" = some (some (.int 6 t))
  c_MOST_GOODS : ∃ t, PySem.W.nsIn K mainGlobals "MOST_GOODS" = some (some (.int 4 t))
  c_MOST_MANY : ∃ t, PySem.W.nsIn K mainGlobals "MOST_MANY" = some (some (.int 99 t))
  c_MOST_TASKS : ∃ t, PySem.W.nsIn K mainGlobals "MOST_TASKS" = some (some (.int 30 t))
  c_MOST_LENGTH : ∃ t, PySem.W.nsIn K mainGlobals "MOST_LENGTH" = some (some (.int 1000 t))
  c_MOST_HOUR : ∃ t, PySem.W.nsIn K mainGlobals "MOST_HOUR" = some (some (.int 1000000 t))
  c_MOST_WEIGHT : ∃ t, PySem.W.nsIn K mainGlobals "MOST_WEIGHT" = some (some (.int 1000 t))
  c_MOST_WAITS : ∃ t, PySem.W.nsIn K mainGlobals "MOST_WAITS" = some (some (.int 60 t))
  c_MOST_GAP : ∃ t, PySem.W.nsIn K mainGlobals "MOST_GAP" = some (some (.int 1000 t))
  c_PARTS : ∃ t, PySem.W.nsIn K mainGlobals "PARTS" = some (some (.int 5 t))
  c_TASK_PARTS : ∃ t, PySem.W.nsIn K mainGlobals "TASK_PARTS" = some (some (.int 7 t))
  c_FAR : ∃ t, PySem.W.nsIn K mainGlobals "FAR" = some (some (.int 1000000 t))
theorem TxtAt.txt {K : PySem.W.Frag} {h : Heap} {mg : Str → Option Value} (X : K.In h) (G : h.Ns mainGlobals mg) (t : TxtAt K) : Txt mg where
  b_isinstance := PySem.W.mg_none_of X G t.b_isinstance
  b_len := PySem.W.mg_none_of X G t.b_len
  b_all := PySem.W.mg_none_of X G t.b_all
  b_max := PySem.W.mg_none_of X G t.b_max
  b_min := PySem.W.mg_none_of X G t.b_min
  b_sorted := PySem.W.mg_none_of X G t.b_sorted
  b_sum := PySem.W.mg_none_of X G t.b_sum
  b_repr := PySem.W.mg_none_of X G t.b_repr
  b_range := PySem.W.mg_none_of X G t.b_range
  b_enumerate := PySem.W.mg_none_of X G t.b_enumerate
  b_int := PySem.W.mg_none_of X G t.b_int
  b_bool := PySem.W.mg_none_of X G t.b_bool
  b_str := PySem.W.mg_none_of X G t.b_str
  b_tuple := PySem.W.mg_none_of X G t.b_tuple
  b_list := PySem.W.mg_none_of X G t.b_list
  b_set := PySem.W.mg_none_of X G t.b_set
  b_dict := PySem.W.mg_none_of X G t.b_dict
  b_ValueError := PySem.W.mg_none_of X G t.b_ValueError
  c_SMALL := let ⟨u, e⟩ := t.c_SMALL; ⟨_, PySem.W.mg_of X G e, u, rfl⟩
  c_MOST_SIGNS := let ⟨u, e⟩ := t.c_MOST_SIGNS; ⟨_, PySem.W.mg_of X G e, u, rfl⟩
  c_MOST_MACHINES := let ⟨u, e⟩ := t.c_MOST_MACHINES; ⟨_, PySem.W.mg_of X G e, u, rfl⟩
  c_MOST_GOODS := let ⟨u, e⟩ := t.c_MOST_GOODS; ⟨_, PySem.W.mg_of X G e, u, rfl⟩
  c_MOST_MANY := let ⟨u, e⟩ := t.c_MOST_MANY; ⟨_, PySem.W.mg_of X G e, u, rfl⟩
  c_MOST_TASKS := let ⟨u, e⟩ := t.c_MOST_TASKS; ⟨_, PySem.W.mg_of X G e, u, rfl⟩
  c_MOST_LENGTH := let ⟨u, e⟩ := t.c_MOST_LENGTH; ⟨_, PySem.W.mg_of X G e, u, rfl⟩
  c_MOST_HOUR := let ⟨u, e⟩ := t.c_MOST_HOUR; ⟨_, PySem.W.mg_of X G e, u, rfl⟩
  c_MOST_WEIGHT := let ⟨u, e⟩ := t.c_MOST_WEIGHT; ⟨_, PySem.W.mg_of X G e, u, rfl⟩
  c_MOST_WAITS := let ⟨u, e⟩ := t.c_MOST_WAITS; ⟨_, PySem.W.mg_of X G e, u, rfl⟩
  c_MOST_GAP := let ⟨u, e⟩ := t.c_MOST_GAP; ⟨_, PySem.W.mg_of X G e, u, rfl⟩
  c_PARTS := let ⟨u, e⟩ := t.c_PARTS; ⟨_, PySem.W.mg_of X G e, u, rfl⟩
  c_TASK_PARTS := let ⟨u, e⟩ := t.c_TASK_PARTS; ⟨_, PySem.W.mg_of X G e, u, rfl⟩
  c_FAR := let ⟨u, e⟩ := t.c_FAR; ⟨_, PySem.W.mg_of X G e, u, rfl⟩
theorem all_mk {P : Program} {w : World} {K : PySem.W.Frag} {h : Heap} {mg : Str → Option Value} {fa C p fI : Addr} (X : K.In h) (G : h.Ns mainGlobals mg) (hfa : mg "law" = some (.ref fa)) (TA : TxtAt K) (EA : ErrAt K C p fI)
    (A_is_whole : FunAt K "is_whole" s_is_whole)
    (A_is_among : FunAt K "is_among" s_is_among)
    (A_is_name : FunAt K "is_name" s_is_name)
    (A_are_tuples : FunAt K "are_tuples" s_are_tuples)
    (A_are_names : FunAt K "are_names" s_are_names)
    (A_are_counts : FunAt K "are_counts" s_are_counts)
    (A_is_task : FunAt K "is_task" s_is_task)
    (A_is_wait : FunAt K "is_wait" s_is_wait)
    (A_has_form : FunAt K "has_form" s_has_form)
    (A_are_unlike : FunAt K "are_unlike" s_are_unlike)
    (A_are_all_unlike : FunAt K "are_all_unlike" s_are_all_unlike)
    (A_are_all_there : FunAt K "are_all_there" s_are_all_there)
    (A_are_needs_met : FunAt K "are_needs_met" s_are_needs_met)
    (A_goes_round : FunAt K "goes_round" s_goes_round)
    (A_wrong_in : FunAt K "wrong_in" s_wrong_in)
    (A_need_book : FunAt K "need_book" s_need_book)
    (A_is_work : FunAt K "is_work" s_is_work)
    (A_need_rows : FunAt K "need_rows" s_need_rows)
    (A_due_order : FunAt K "due_order" s_due_order)
    (A_goes_first : FunAt K "goes_first" s_goes_first)
    (A_least_sum : FunAt K "least_sum" s_least_sum)
    (A_in_time_table : FunAt K "in_time_table" s_in_time_table)
    (A_in_time : FunAt K "in_time" s_in_time)
    (A_fewest_late : FunAt K "fewest_late" s_fewest_late)
    (A_plan_in : FunAt K "plan_in" s_plan_in)
    (A_rows_in : FunAt K "rows_in" s_rows_in)
    (A_need_single : FunAt K "need_single" s_need_single)
    (A_sum_plan : FunAt K "sum_plan" s_sum_plan)
    (A_count_plan : FunAt K "count_plan" s_count_plan)
    (A_sum_shown : FunAt K "sum_shown" s_sum_shown)
    (A_law_number : FunAt K "_law_number" s_law_number)
    (A_law_orders : FunAt K "_law_orders" s_law_orders)
    (A_law_all_worths : FunAt K "_law_all_worths" s_law_all_worths)
    (A_law_single : FunAt K "_law_single" s_law_single)
    (A_law_bent : FunAt K "_law_bent" s_law_bent)
    (A_law_is_single : FunAt K "_law_is_single" s_law_is_single)
    (A_law_what : FunAt K "_law_what" s_law_what)
    (A_law : FunAt K "law" s_law)
    : ∃ fd : FuncData, (∀ (s : Shared) (u : Value), BindsTo s fd ⟨[u], []⟩ [("_law_script", u)]) ∧ ∀ base : Heap, K.In base → base.Ns mainGlobals mg → FnOkG P w K mg base 10 fa fd ["_law_script"] (spLaw K) := by
  have T := TA.txt X G
  obtain ⟨fdI, FI⟩ := EA.F
  have B : BadC K mg C fI fdI := ⟨PySem.W.mg_of X G EA.gC, EA.oe, EA.no, EA.iC, EA.tI, FI, FI.binds (ps := ["self", "what"]) fun _ _ _ _ _ _ us hl => match us, hl with | [_, _], _ => rfl⟩
  have L : PlE K mg p := ⟨PySem.W.mg_of X G EA.gP, EA.pa, EA.pr, EA.pf⟩
  have Er : ErrC K mg C p := ⟨EA.ec, EA.xf, EA.ex, EA.kC, EA.kV, by
    obtain ⟨a1, a2, a3, a4, a5, a6, h1, h2, h3, h4, h5, h6, h7⟩ := EA.others
    exact ⟨a1, a2, a3, a4, a5, a6, PySem.W.mg_of X G h1, PySem.W.mg_of X G h2, PySem.W.mg_of X G h3, PySem.W.mg_of X G h4, PySem.W.mg_of X G h5, PySem.W.mg_of X G h6, h7⟩⟩
  obtain ⟨f_is_whole, fd_is_whole, g_is_whole, F_is_whole⟩ := A_is_whole
  obtain ⟨f_is_among, fd_is_among, g_is_among, F_is_among⟩ := A_is_among
  obtain ⟨f_is_name, fd_is_name, g_is_name, F_is_name⟩ := A_is_name
  obtain ⟨f_are_tuples, fd_are_tuples, g_are_tuples, F_are_tuples⟩ := A_are_tuples
  obtain ⟨f_are_names, fd_are_names, g_are_names, F_are_names⟩ := A_are_names
  obtain ⟨f_are_counts, fd_are_counts, g_are_counts, F_are_counts⟩ := A_are_counts
  obtain ⟨f_is_task, fd_is_task, g_is_task, F_is_task⟩ := A_is_task
  obtain ⟨f_is_wait, fd_is_wait, g_is_wait, F_is_wait⟩ := A_is_wait
  obtain ⟨f_has_form, fd_has_form, g_has_form, F_has_form⟩ := A_has_form
  obtain ⟨f_are_unlike, fd_are_unlike, g_are_unlike, F_are_unlike⟩ := A_are_unlike
  obtain ⟨f_are_all_unlike, fd_are_all_unlike, g_are_all_unlike, F_are_all_unlike⟩ := A_are_all_unlike
  obtain ⟨f_are_all_there, fd_are_all_there, g_are_all_there, F_are_all_there⟩ := A_are_all_there
  obtain ⟨f_are_needs_met, fd_are_needs_met, g_are_needs_met, F_are_needs_met⟩ := A_are_needs_met
  obtain ⟨f_goes_round, fd_goes_round, g_goes_round, F_goes_round⟩ := A_goes_round
  obtain ⟨f_wrong_in, fd_wrong_in, g_wrong_in, F_wrong_in⟩ := A_wrong_in
  obtain ⟨f_need_book, fd_need_book, g_need_book, F_need_book⟩ := A_need_book
  obtain ⟨f_is_work, fd_is_work, g_is_work, F_is_work⟩ := A_is_work
  obtain ⟨f_need_rows, fd_need_rows, g_need_rows, F_need_rows⟩ := A_need_rows
  obtain ⟨f_due_order, fd_due_order, g_due_order, F_due_order⟩ := A_due_order
  obtain ⟨f_goes_first, fd_goes_first, g_goes_first, F_goes_first⟩ := A_goes_first
  obtain ⟨f_least_sum, fd_least_sum, g_least_sum, F_least_sum⟩ := A_least_sum
  obtain ⟨f_in_time_table, fd_in_time_table, g_in_time_table, F_in_time_table⟩ := A_in_time_table
  obtain ⟨f_in_time, fd_in_time, g_in_time, F_in_time⟩ := A_in_time
  obtain ⟨f_fewest_late, fd_fewest_late, g_fewest_late, F_fewest_late⟩ := A_fewest_late
  obtain ⟨f_plan_in, fd_plan_in, g_plan_in, F_plan_in⟩ := A_plan_in
  obtain ⟨f_rows_in, fd_rows_in, g_rows_in, F_rows_in⟩ := A_rows_in
  obtain ⟨f_need_single, fd_need_single, g_need_single, F_need_single⟩ := A_need_single
  obtain ⟨f_sum_plan, fd_sum_plan, g_sum_plan, F_sum_plan⟩ := A_sum_plan
  obtain ⟨f_count_plan, fd_count_plan, g_count_plan, F_count_plan⟩ := A_count_plan
  obtain ⟨f_sum_shown, fd_sum_shown, g_sum_shown, F_sum_shown⟩ := A_sum_shown
  obtain ⟨f_law_number, fd_law_number, g_law_number, F_law_number⟩ := A_law_number
  obtain ⟨f_law_orders, fd_law_orders, g_law_orders, F_law_orders⟩ := A_law_orders
  obtain ⟨f_law_all_worths, fd_law_all_worths, g_law_all_worths, F_law_all_worths⟩ := A_law_all_worths
  obtain ⟨f_law_single, fd_law_single, g_law_single, F_law_single⟩ := A_law_single
  obtain ⟨f_law_bent, fd_law_bent, g_law_bent, F_law_bent⟩ := A_law_bent
  obtain ⟨f_law_is_single, fd_law_is_single, g_law_is_single, F_law_is_single⟩ := A_law_is_single
  obtain ⟨f_law_what, fd_law_what, g_law_what, F_law_what⟩ := A_law_what
  obtain ⟨f_law, fd_law, g_law, F_law⟩ := A_law
  have e := hfa.symm.trans (PySem.W.mg_of X G g_law)
  cases e
  refine ⟨fd_law, fun s u => ?_, fun base _ _ => ?_⟩
  · obtain ⟨oc, od, kV, doc, pm, an, cdv, ct, osl, rfl, _, _⟩ := F_law.ex
    exact .of_eq rfl
  have C_is_whole : Cal P w K mg base 1 "is_whole" ((SpR 1 RWhole)) := ⟨f_is_whole, fd_is_whole, _, ok_is_whole F_is_whole T, PySem.W.mg_of X G g_is_whole, F_is_whole.kp, F_is_whole.binds fun _ _ _ _ _ _ us hl => match us, hl with | [_], _ => rfl⟩
  have C_is_among : Cal P w K mg base 2 "is_among" ((SpR 3 RAmong)) := ⟨f_is_among, fd_is_among, _, ok_is_among F_is_among T C_is_whole, PySem.W.mg_of X G g_is_among, F_is_among.kp, F_is_among.binds fun _ _ _ _ _ _ us hl => match us, hl with | [_, _, _], _ => rfl⟩
  have C_is_name : Cal P w K mg base 1 "is_name" ((SpR 1 RName)) := ⟨f_is_name, fd_is_name, _, ok_is_name F_is_name T, PySem.W.mg_of X G g_is_name, F_is_name.kp, F_is_name.binds fun _ _ _ _ _ _ us hl => match us, hl with | [_], _ => rfl⟩
  have C_are_tuples : Cal P w K mg base 1 "are_tuples" ((SpR 3 RTuples)) := ⟨f_are_tuples, fd_are_tuples, _, ok_are_tuples F_are_tuples T, PySem.W.mg_of X G g_are_tuples, F_are_tuples.kp, F_are_tuples.binds fun _ _ _ _ _ _ us hl => match us, hl with | [_, _, _], _ => rfl⟩
  have C_are_names : Cal P w K mg base 2 "are_names" ((SpR 1 RNames)) := ⟨f_are_names, fd_are_names, _, ok_are_names F_are_names T C_is_name, PySem.W.mg_of X G g_are_names, F_are_names.kp, F_are_names.binds fun _ _ _ _ _ _ us hl => match us, hl with | [_], _ => rfl⟩
  have C_are_counts : Cal P w K mg base 3 "are_counts" ((SpR 2 RCounts)) := ⟨f_are_counts, fd_are_counts, _, ok_are_counts F_are_counts T C_is_name C_is_among C_are_tuples, PySem.W.mg_of X G g_are_counts, F_are_counts.kp, F_are_counts.binds fun _ _ _ _ _ _ us hl => match us, hl with | [_, _], _ => rfl⟩
  have C_is_task : Cal P w K mg base 4 "is_task" ((SpR 1 RTask)) := ⟨f_is_task, fd_is_task, _, ok_is_task F_is_task T C_is_name C_is_among C_are_counts, PySem.W.mg_of X G g_is_task, F_is_task.kp, F_is_task.binds fun _ _ _ _ _ _ us hl => match us, hl with | [_], _ => rfl⟩
  have C_is_wait : Cal P w K mg base 3 "is_wait" ((SpR 1 RWait)) := ⟨f_is_wait, fd_is_wait, _, ok_is_wait F_is_wait T C_is_among, PySem.W.mg_of X G g_is_wait, F_is_wait.kp, F_is_wait.binds fun _ _ _ _ _ _ us hl => match us, hl with | [_], _ => rfl⟩
  have C_has_form : Cal P w K mg base 5 "has_form" ((SpR 1 RForm)) := ⟨f_has_form, fd_has_form, _, ok_has_form F_has_form T C_is_among C_are_tuples C_are_names C_are_counts C_is_task C_is_wait, PySem.W.mg_of X G g_has_form, F_has_form.kp, F_has_form.binds fun _ _ _ _ _ _ us hl => match us, hl with | [_], _ => rfl⟩
  have C_are_unlike : Cal P w K mg base 1 "are_unlike" ((SpR 1 RUnlike)) := ⟨f_are_unlike, fd_are_unlike, _, ok_are_unlike F_are_unlike T, PySem.W.mg_of X G g_are_unlike, F_are_unlike.kp, F_are_unlike.binds fun _ _ _ _ _ _ us hl => match us, hl with | [_], _ => rfl⟩
  have C_are_all_unlike : Cal P w K mg base 2 "are_all_unlike" ((SpR 1 RAllUnlike)) := ⟨f_are_all_unlike, fd_are_all_unlike, _, ok_are_all_unlike F_are_all_unlike T C_are_unlike, PySem.W.mg_of X G g_are_all_unlike, F_are_all_unlike.kp, F_are_all_unlike.binds fun _ _ _ _ _ _ us hl => match us, hl with | [_], _ => rfl⟩
  have C_are_all_there : Cal P w K mg base 1 "are_all_there" ((SpR 1 RAllThere)) := ⟨f_are_all_there, fd_are_all_there, _, ok_are_all_there F_are_all_there T, PySem.W.mg_of X G g_are_all_there, F_are_all_there.kp, F_are_all_there.binds fun _ _ _ _ _ _ us hl => match us, hl with | [_], _ => rfl⟩
  have C_are_needs_met : Cal P w K mg base 1 "are_needs_met" ((SpR 1 RAllUnlike)) := ⟨f_are_needs_met, fd_are_needs_met, _, ok_are_needs_met F_are_needs_met T, PySem.W.mg_of X G g_are_needs_met, F_are_needs_met.kp, F_are_needs_met.binds fun _ _ _ _ _ _ us hl => match us, hl with | [_], _ => rfl⟩
  have C_goes_round : Cal P w K mg base 1 "goes_round" ((SpR 2 RRound)) := ⟨f_goes_round, fd_goes_round, _, ok_goes_round F_goes_round T, PySem.W.mg_of X G g_goes_round, F_goes_round.kp, F_goes_round.binds fun _ _ _ _ _ _ us hl => match us, hl with | [_, _], _ => rfl⟩
  have C_wrong_in : Cal P w K mg base 3 "wrong_in" ((SpR 1 RWrong)) := ⟨f_wrong_in, fd_wrong_in, _, ok_wrong_in F_wrong_in T C_are_all_unlike C_are_all_there C_are_needs_met C_goes_round, PySem.W.mg_of X G g_wrong_in, F_wrong_in.kp, F_wrong_in.binds fun _ _ _ _ _ _ us hl => match us, hl with | [_], _ => rfl⟩
  have C_need_book : CalX P w K mg base 6 "need_book" ((SpX 1 C RNeed)) := ⟨f_need_book, fd_need_book, _, ok_need_book F_need_book T B L C_has_form C_wrong_in, PySem.W.mg_of X G g_need_book, F_need_book.kp, F_need_book.binds fun _ _ _ _ _ _ us hl => match us, hl with | [_], _ => rfl⟩
  have C_is_work : Cal P w K mg base 3 "is_work" ((SpR 1 RWork)) := ⟨f_is_work, fd_is_work, _, ok_is_work F_is_work T C_is_among, PySem.W.mg_of X G g_is_work, F_is_work.kp, F_is_work.binds fun _ _ _ _ _ _ us hl => match us, hl with | [_], _ => rfl⟩
  have C_need_rows : Cal P w K mg base 4 "need_rows" ((SpR 1 RNone)) := ⟨f_need_rows, fd_need_rows, _, ok_need_rows F_need_rows T C_is_work, PySem.W.mg_of X G g_need_rows, F_need_rows.kp, F_need_rows.binds fun _ _ _ _ _ _ us hl => match us, hl with | [_], _ => rfl⟩
  have C_due_order : Cal P w K mg base 1 "due_order" ((SpN 1 POrd ROrd)) := ⟨f_due_order, fd_due_order, _, ok_due_order F_due_order T, PySem.W.mg_of X G g_due_order, F_due_order.kp, F_due_order.binds fun _ _ _ _ _ _ us hl => match us, hl with | [_], _ => rfl⟩
  have C_goes_first : Cal P w K mg base 1 "goes_first" ((SpN 2 PFirst RFirst)) := ⟨f_goes_first, fd_goes_first, _, ok_goes_first F_goes_first T, PySem.W.mg_of X G g_goes_first, F_goes_first.kp, F_goes_first.binds fun _ _ _ _ _ _ us hl => match us, hl with | [_, _], _ => rfl⟩
  have C_least_sum : Cal P w K mg base 5 "least_sum" ((SpN 1 PSum RSum)) := ⟨f_least_sum, fd_least_sum, _, ok_least_sum F_least_sum T C_need_rows C_goes_first, PySem.W.mg_of X G g_least_sum, F_least_sum.kp, F_least_sum.binds fun _ _ _ _ _ _ us hl => match us, hl with | [_], _ => rfl⟩
  have C_in_time_table : Cal P w K mg base 1 "in_time_table" ((SpR 2 RTab)) := ⟨f_in_time_table, fd_in_time_table, _, ok_in_time_table F_in_time_table T, PySem.W.mg_of X G g_in_time_table, F_in_time_table.kp, F_in_time_table.binds fun _ _ _ _ _ _ us hl => match us, hl with | [_, _], _ => rfl⟩
  have C_in_time : Cal P w K mg base 1 "in_time" ((SpN 4 PIn RIn)) := ⟨f_in_time, fd_in_time, _, ok_in_time F_in_time T, PySem.W.mg_of X G g_in_time, F_in_time.kp, F_in_time.binds fun _ _ _ _ _ _ us hl => match us, hl with | [_, _, _, _], _ => rfl⟩
  have C_fewest_late : Cal P w K mg base 5 "fewest_late" ((SpN 1 PSum RFew)) := ⟨f_fewest_late, fd_fewest_late, _, ok_fewest_late F_fewest_late T C_need_rows C_due_order C_in_time_table C_in_time, PySem.W.mg_of X G g_fewest_late, F_fewest_late.kp, F_fewest_late.binds fun _ _ _ _ _ _ us hl => match us, hl with | [_], _ => rfl⟩
  have C_plan_in : Cal P w K mg base 1 "plan_in" ((SpN 2 PPlan fun _ _ => True)) := ⟨f_plan_in, fd_plan_in, _, ok_plan_in F_plan_in T, PySem.W.mg_of X G g_plan_in, F_plan_in.kp, F_plan_in.binds fun _ _ _ _ _ _ us hl => match us, hl with | [_, _], _ => rfl⟩
  have C_rows_in : Cal P w K mg base 1 "rows_in" ((SpR 1 RRows)) := ⟨f_rows_in, fd_rows_in, _, ok_rows_in F_rows_in T, PySem.W.mg_of X G g_rows_in, F_rows_in.kp, F_rows_in.binds fun _ _ _ _ _ _ us hl => match us, hl with | [_], _ => rfl⟩
  have C_need_single : CalX P w K mg base 7 "need_single" ((SpX 1 C RNS)) := ⟨f_need_single, fd_need_single, _, ok_need_single F_need_single T B L C_need_book, PySem.W.mg_of X G g_need_single, F_need_single.kp, F_need_single.binds fun _ _ _ _ _ _ us hl => match us, hl with | [_], _ => rfl⟩
  have C_sum_plan : CalX P w K mg base 8 "sum_plan" ((SpX 1 C (RS okSum))) := ⟨f_sum_plan, fd_sum_plan, _, ok_sum_plan F_sum_plan T C_need_single C_least_sum C_rows_in C_plan_in, PySem.W.mg_of X G g_sum_plan, F_sum_plan.kp, F_sum_plan.binds fun _ _ _ _ _ _ us hl => match us, hl with | [_], _ => rfl⟩
  have C_count_plan : CalX P w K mg base 8 "count_plan" ((SpX 1 C (RS okFew))) := ⟨f_count_plan, fd_count_plan, _, ok_count_plan F_count_plan T C_need_single C_fewest_late C_rows_in C_plan_in, PySem.W.mg_of X G g_count_plan, F_count_plan.kp, F_count_plan.binds fun _ _ _ _ _ _ us hl => match us, hl with | [_], _ => rfl⟩
  have C_sum_shown : CalX P w K mg base 8 "sum_shown" ((SpX 1 C (RS okShown))) := ⟨f_sum_shown, fd_sum_shown, _, ok_sum_shown F_sum_shown T C_need_single C_rows_in, PySem.W.mg_of X G g_sum_shown, F_sum_shown.kp, F_sum_shown.binds fun _ _ _ _ _ _ us hl => match us, hl with | [_], _ => rfl⟩
  have C_law_number : Cal P w K mg base 1 "_law_number" ((spNum K)) := ⟨f_law_number, fd_law_number, _, ok_law_number F_law_number T, PySem.W.mg_of X G g_law_number, F_law_number.kp, F_law_number.binds fun _ _ _ _ _ _ us hl => match us, hl with | [_, _], _ => rfl⟩
  have C_law_orders : Cal P w K mg base 1 "_law_orders" ((SpR 1 ROrds)) := ⟨f_law_orders, fd_law_orders, _, ok_law_orders F_law_orders T, PySem.W.mg_of X G g_law_orders, F_law_orders.kp, F_law_orders.binds fun _ _ _ _ _ _ us hl => match us, hl with | [_], _ => rfl⟩
  have C_law_all_worths : Cal P w K mg base 2 "_law_all_worths" ((SpR 1 RWorths)) := ⟨f_law_all_worths, fd_law_all_worths, _, ok_law_all_worths F_law_all_worths T C_law_orders, PySem.W.mg_of X G g_law_all_worths, F_law_all_worths.kp, F_law_all_worths.binds fun _ _ _ _ _ _ us hl => match us, hl with | [_], _ => rfl⟩
  have C_law_single : Cal P w K mg base 2 "_law_single" ((spSingle K)) := ⟨f_law_single, fd_law_single, _, ok_law_single F_law_single T C_law_number, PySem.W.mg_of X G g_law_single, F_law_single.kp, F_law_single.binds fun _ _ _ _ _ _ us hl => match us, hl with | [_, _, _], _ => rfl⟩
  have C_law_bent : Cal P w K mg base 1 "_law_bent" ((SpN 2 PBent fun _ d => RB d)) := ⟨f_law_bent, fd_law_bent, _, ok_law_bent F_law_bent T, PySem.W.mg_of X G g_law_bent, F_law_bent.kp, F_law_bent.binds fun _ _ _ _ _ _ us hl => match us, hl with | [_, _], _ => rfl⟩
  have C_law_is_single : Cal P w K mg base 1 "_law_is_single" ((SpR 1 RIsS)) := ⟨f_law_is_single, fd_law_is_single, _, ok_law_is_single F_law_is_single T, PySem.W.mg_of X G g_law_is_single, F_law_is_single.kp, F_law_is_single.binds fun _ _ _ _ _ _ us hl => match us, hl with | [_], _ => rfl⟩
  have C_law_what : Cal P w K mg base 9 "_law_what" ((SpR 2 RWhat)) := ⟨f_law_what, fd_law_what, _, ok_law_what F_law_what T B L Er C_need_book C_sum_plan C_sum_shown C_count_plan, PySem.W.mg_of X G g_law_what, F_law_what.kp, F_law_what.binds fun _ _ _ _ _ _ us hl => match us, hl with | [_, _], _ => rfl⟩
  exact ok_law F_law T C_law_single C_law_number C_law_all_worths C_law_bent C_law_is_single C_law_what C_sum_plan C_sum_shown C_count_plan
end K9

set_option Elab.async false
set_option linter.all false
open PySem PySem.W PyProof.Rows
set_option maxRecDepth 100000 in
set_option maxHeartbeats 0 in
theorem PySem.Challenge.cw_boundsmith_k99_whole_single_ones_holds : PySem.Challenge.rw_boundsmith_k99_whole_single_ones.Holds := by
  w_on; o_law; k_head; (case hw => w_witness2)
  k_fill
  refine K9.walk (l := PySem.Challenge.rw_boundsmith_k99_whole_single_ones) rfl rfl (fun w h Y => PySem.W.kIn_of Y) ?F
  case F =>
    intro w mg fa h KX G hmg0
    have hmg : mg "law" = some (.ref fa) := hmg0
    clear hmg0
    refine' K9.all_mk KX G hmg ⟨?b_isinstance, ?b_len, ?b_all, ?b_max, ?b_min, ?b_sorted, ?b_sum, ?b_repr, ?b_range, ?b_enumerate, ?b_int, ?b_bool, ?b_str, ?b_tuple, ?b_list, ?b_set, ?b_dict, ?b_ValueError, (K9.cs_mk ?c_SMALL), (K9.ci_mk ?c_MOST_SIGNS), (K9.ci_mk ?c_MOST_MACHINES), (K9.ci_mk ?c_MOST_GOODS), (K9.ci_mk ?c_MOST_MANY), (K9.ci_mk ?c_MOST_TASKS), (K9.ci_mk ?c_MOST_LENGTH), (K9.ci_mk ?c_MOST_HOUR), (K9.ci_mk ?c_MOST_WEIGHT), (K9.ci_mk ?c_MOST_WAITS), (K9.ci_mk ?c_MOST_GAP), (K9.ci_mk ?c_PARTS), (K9.ci_mk ?c_TASK_PARTS), (K9.ci_mk ?c_FAR)⟩ ⟨?gC, ?gP, (K9.oex_mk ?gP2 ?xL ?sa ?eC ?tC ?yC), ?no, ?iC, ?tI, ⟨_, L2.fun_mk ?lI ?cI ?kI⟩, ?pa, ?pr, ?pf, ⟨?e1, ?e2, ?e3, ?e4, ?e5, ?e6, ?e7, ?e8⟩, ⟨?x1, ?x2, ?x3, ?x4⟩, (K9.exm_mk ?p1 ?p2 ?p3 ?p4), K9.kit_self, (K9.kit_ve ?mV), (K9.oth_mk ?o1 (K9.kit_no ?n1 ?u1 ?v1 ?w1) ?o2 (K9.kit_no ?n2 ?u2 ?v2 ?w2) ?o3 (K9.kit_no ?n3 ?u3 ?v3 ?w3) ?o4 (K9.kit_no ?n4 ?u4 ?v4 ?w4) ?o5 (K9.kit_no ?n5 ?u5 ?v5 ?w5) ?o6 (K9.kit_no ?n6 ?u6 ?v6 ?w6))⟩ (K9.fun_at ?a_is_whole ?l_is_whole ?d_is_whole ?k_is_whole) (K9.fun_at ?a_is_among ?l_is_among ?d_is_among ?k_is_among) (K9.fun_at ?a_is_name ?l_is_name ?d_is_name ?k_is_name) (K9.fun_at ?a_are_tuples ?l_are_tuples ?d_are_tuples ?k_are_tuples) (K9.fun_at ?a_are_names ?l_are_names ?d_are_names ?k_are_names) (K9.fun_at ?a_are_counts ?l_are_counts ?d_are_counts ?k_are_counts) (K9.fun_at ?a_is_task ?l_is_task ?d_is_task ?k_is_task) (K9.fun_at ?a_is_wait ?l_is_wait ?d_is_wait ?k_is_wait) (K9.fun_at ?a_has_form ?l_has_form ?d_has_form ?k_has_form) (K9.fun_at ?a_are_unlike ?l_are_unlike ?d_are_unlike ?k_are_unlike) (K9.fun_at ?a_are_all_unlike ?l_are_all_unlike ?d_are_all_unlike ?k_are_all_unlike) (K9.fun_at ?a_are_all_there ?l_are_all_there ?d_are_all_there ?k_are_all_there) (K9.fun_at ?a_are_needs_met ?l_are_needs_met ?d_are_needs_met ?k_are_needs_met) (K9.fun_at ?a_goes_round ?l_goes_round ?d_goes_round ?k_goes_round) (K9.fun_at ?a_wrong_in ?l_wrong_in ?d_wrong_in ?k_wrong_in) (K9.fun_at ?a_need_book ?l_need_book ?d_need_book ?k_need_book) (K9.fun_at ?a_is_work ?l_is_work ?d_is_work ?k_is_work) (K9.fun_at ?a_need_rows ?l_need_rows ?d_need_rows ?k_need_rows) (K9.fun_at ?a_due_order ?l_due_order ?d_due_order ?k_due_order) (K9.fun_at ?a_goes_first ?l_goes_first ?d_goes_first ?k_goes_first) (K9.fun_at ?a_least_sum ?l_least_sum ?d_least_sum ?k_least_sum) (K9.fun_at ?a_in_time_table ?l_in_time_table ?d_in_time_table ?k_in_time_table) (K9.fun_at ?a_in_time ?l_in_time ?d_in_time ?k_in_time) (K9.fun_at ?a_fewest_late ?l_fewest_late ?d_fewest_late ?k_fewest_late) (K9.fun_at ?a_plan_in ?l_plan_in ?d_plan_in ?k_plan_in) (K9.fun_at ?a_rows_in ?l_rows_in ?d_rows_in ?k_rows_in) (K9.fun_at ?a_need_single ?l_need_single ?d_need_single ?k_need_single) (K9.fun_at ?a_sum_plan ?l_sum_plan ?d_sum_plan ?k_sum_plan) (K9.fun_at ?a_count_plan ?l_count_plan ?d_count_plan ?k_count_plan) (K9.fun_at ?a_sum_shown ?l_sum_shown ?d_sum_shown ?k_sum_shown) (K9.fun_at ?a_law_number ?l_law_number ?d_law_number ?k_law_number) (K9.fun_at ?a_law_orders ?l_law_orders ?d_law_orders ?k_law_orders) (K9.fun_at ?a_law_all_worths ?l_law_all_worths ?d_law_all_worths ?k_law_all_worths) (K9.fun_at ?a_law_single ?l_law_single ?d_law_single ?k_law_single) (K9.fun_at ?a_law_bent ?l_law_bent ?d_law_bent ?k_law_bent) (K9.fun_at ?a_law_is_single ?l_law_is_single ?d_law_is_single ?k_law_is_single) (K9.fun_at ?a_law_what ?l_law_what ?d_law_what ?k_law_what) (K9.fun_at ?a_law ?l_law ?d_law ?k_law)
    (case b_isinstance => k_is)
    (case b_len => k_is)
    (case b_all => k_is)
    (case b_max => k_is)
    (case b_min => k_is)
    (case b_sorted => k_is)
    (case b_sum => k_is)
    (case b_repr => k_is)
    (case b_range => k_is)
    (case b_enumerate => k_is)
    (case b_int => k_is)
    (case b_bool => k_is)
    (case b_str => k_is)
    (case b_tuple => k_is)
    (case b_list => k_is)
    (case b_set => k_is)
    (case b_dict => k_is)
    (case b_ValueError => k_is)
    (case c_SMALL => k_is)
    (case c_MOST_SIGNS => k_is)
    (case c_MOST_MACHINES => k_is)
    (case c_MOST_GOODS => k_is)
    (case c_MOST_MANY => k_is)
    (case c_MOST_TASKS => k_is)
    (case c_MOST_LENGTH => k_is)
    (case c_MOST_HOUR => k_is)
    (case c_MOST_WEIGHT => k_is)
    (case c_MOST_WAITS => k_is)
    (case c_MOST_GAP => k_is)
    (case c_PARTS => k_is)
    (case c_TASK_PARTS => k_is)
    (case c_FAR => k_is)
    (case gC => k_is)
    (case gP => k_is)
    (case gP2 => k_is)
    (case xL => k_is)
    (case sa => k_is)
    (case eC => k_is)
    (case tC => k_is)
    (case yC => k_is)
    (case no => k_is)
    (case iC => k_is)
    (case tI => k_is)
    (case lI => k_is)
    (case cI => k_is)
    (case kI => k_is)
    (case pa => k_is)
    (case pr => k_is)
    (case pf => k_is)
    (case e1 => k_is)
    (case e2 => k_is)
    (case e3 => k_is)
    (case e4 => k_is)
    (case e5 => k_is)
    (case e6 => k_is)
    (case e7 => k_is)
    (case e8 => k_is)
    (case x1 => k_is)
    (case x2 => k_is)
    (case x3 => k_is)
    (case x4 => k_is)
    (case p1 => k_is)
    (case p2 => k_is)
    (case p3 => k_is)
    (case p4 => k_is)
    (case mV => k_is)
    (case o1 => k_is)
    (case n1 => decide +kernel)
    (case u1 => k_is)
    (case v1 => k_is)
    (case w1 => k_is)
    (case o2 => k_is)
    (case n2 => decide +kernel)
    (case u2 => k_is)
    (case v2 => k_is)
    (case w2 => k_is)
    (case o3 => k_is)
    (case n3 => decide +kernel)
    (case u3 => k_is)
    (case v3 => k_is)
    (case w3 => k_is)
    (case o4 => k_is)
    (case n4 => decide +kernel)
    (case u4 => k_is)
    (case v4 => k_is)
    (case w4 => k_is)
    (case o5 => k_is)
    (case n5 => decide +kernel)
    (case u5 => k_is)
    (case v5 => k_is)
    (case w5 => k_is)
    (case o6 => k_is)
    (case n6 => decide +kernel)
    (case u6 => k_is)
    (case v6 => k_is)
    (case w6 => k_is)
    (case a_is_whole => k_is)
    (case l_is_whole => k_is)
    (case d_is_whole => k_is)
    (case k_is_whole => k_is)
    (case a_is_among => k_is)
    (case l_is_among => k_is)
    (case d_is_among => k_is)
    (case k_is_among => k_is)
    (case a_is_name => k_is)
    (case l_is_name => k_is)
    (case d_is_name => k_is)
    (case k_is_name => k_is)
    (case a_are_tuples => k_is)
    (case l_are_tuples => k_is)
    (case d_are_tuples => k_is)
    (case k_are_tuples => k_is)
    (case a_are_names => k_is)
    (case l_are_names => k_is)
    (case d_are_names => k_is)
    (case k_are_names => k_is)
    (case a_are_counts => k_is)
    (case l_are_counts => k_is)
    (case d_are_counts => k_is)
    (case k_are_counts => k_is)
    (case a_is_task => k_is)
    (case l_is_task => k_is)
    (case d_is_task => k_is)
    (case k_is_task => k_is)
    (case a_is_wait => k_is)
    (case l_is_wait => k_is)
    (case d_is_wait => k_is)
    (case k_is_wait => k_is)
    (case a_has_form => k_is)
    (case l_has_form => k_is)
    (case d_has_form => k_is)
    (case k_has_form => k_is)
    (case a_are_unlike => k_is)
    (case l_are_unlike => k_is)
    (case d_are_unlike => k_is)
    (case k_are_unlike => k_is)
    (case a_are_all_unlike => k_is)
    (case l_are_all_unlike => k_is)
    (case d_are_all_unlike => k_is)
    (case k_are_all_unlike => k_is)
    (case a_are_all_there => k_is)
    (case l_are_all_there => k_is)
    (case d_are_all_there => k_is)
    (case k_are_all_there => k_is)
    (case a_are_needs_met => k_is)
    (case l_are_needs_met => k_is)
    (case d_are_needs_met => k_is)
    (case k_are_needs_met => k_is)
    (case a_goes_round => k_is)
    (case l_goes_round => k_is)
    (case d_goes_round => k_is)
    (case k_goes_round => k_is)
    (case a_wrong_in => k_is)
    (case l_wrong_in => k_is)
    (case d_wrong_in => k_is)
    (case k_wrong_in => k_is)
    (case a_need_book => k_is)
    (case l_need_book => k_is)
    (case d_need_book => k_is)
    (case k_need_book => k_is)
    (case a_is_work => k_is)
    (case l_is_work => k_is)
    (case d_is_work => k_is)
    (case k_is_work => k_is)
    (case a_need_rows => k_is)
    (case l_need_rows => k_is)
    (case d_need_rows => k_is)
    (case k_need_rows => k_is)
    (case a_due_order => k_is)
    (case l_due_order => k_is)
    (case d_due_order => k_is)
    (case k_due_order => k_is)
    (case a_goes_first => k_is)
    (case l_goes_first => k_is)
    (case d_goes_first => k_is)
    (case k_goes_first => k_is)
    (case a_least_sum => k_is)
    (case l_least_sum => k_is)
    (case d_least_sum => k_is)
    (case k_least_sum => k_is)
    (case a_in_time_table => k_is)
    (case l_in_time_table => k_is)
    (case d_in_time_table => k_is)
    (case k_in_time_table => k_is)
    (case a_in_time => k_is)
    (case l_in_time => k_is)
    (case d_in_time => k_is)
    (case k_in_time => k_is)
    (case a_fewest_late => k_is)
    (case l_fewest_late => k_is)
    (case d_fewest_late => k_is)
    (case k_fewest_late => k_is)
    (case a_plan_in => k_is)
    (case l_plan_in => k_is)
    (case d_plan_in => k_is)
    (case k_plan_in => k_is)
    (case a_rows_in => k_is)
    (case l_rows_in => k_is)
    (case d_rows_in => k_is)
    (case k_rows_in => k_is)
    (case a_need_single => k_is)
    (case l_need_single => k_is)
    (case d_need_single => k_is)
    (case k_need_single => k_is)
    (case a_sum_plan => k_is)
    (case l_sum_plan => k_is)
    (case d_sum_plan => k_is)
    (case k_sum_plan => k_is)
    (case a_count_plan => k_is)
    (case l_count_plan => k_is)
    (case d_count_plan => k_is)
    (case k_count_plan => k_is)
    (case a_sum_shown => k_is)
    (case l_sum_shown => k_is)
    (case d_sum_shown => k_is)
    (case k_sum_shown => k_is)
    (case a_law_number => k_is)
    (case l_law_number => k_is)
    (case d_law_number => k_is)
    (case k_law_number => k_is)
    (case a_law_orders => k_is)
    (case l_law_orders => k_is)
    (case d_law_orders => k_is)
    (case k_law_orders => k_is)
    (case a_law_all_worths => k_is)
    (case l_law_all_worths => k_is)
    (case d_law_all_worths => k_is)
    (case k_law_all_worths => k_is)
    (case a_law_single => k_is)
    (case l_law_single => k_is)
    (case d_law_single => k_is)
    (case k_law_single => k_is)
    (case a_law_bent => k_is)
    (case l_law_bent => k_is)
    (case d_law_bent => k_is)
    (case k_law_bent => k_is)
    (case a_law_is_single => k_is)
    (case l_law_is_single => k_is)
    (case d_law_is_single => k_is)
    (case k_law_is_single => k_is)
    (case a_law_what => k_is)
    (case l_law_what => k_is)
    (case d_law_what => k_is)
    (case k_law_what => k_is)
    (case a_law => k_is)
    (case l_law => k_is)
    (case d_law => k_is)
    (case k_law => k_is)
