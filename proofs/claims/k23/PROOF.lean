import PyProof.Rows.All
import Wide.All
import OpenK.AllK
import Wide.FinOn
import HandS.ForMost
import HandS.DictComp
import HandS.IsInst
import HandS.TupMul
import HandS.Flow
import KE.GoesEnum
import HandS.DictTup
import HandS.ListItems
import HandS.Wide
import HandS.Style
import HandS.Conv
import KE.KeyNested
import KE.KSortTupG
import KE.KDictCopyH
import KE.KDictItemsList
import KE.KDictPairs
import KE.KStateDown
import HandS.Ends
import HandS.More
import HandS.Words
import HandS.WordsExc
import HandS.Defaults
import HandS.Codes
import HandS.Head0
import HandS.Head1
import HandS.Head2
import HandS.HeadEnd
import HandS.HeadHook1
import HandS.HeadHook2
import PySem.Challenge.RW_cellswide_k23_near_numbers_and_rings
import PyProof.StrLawsRepr
set_option Elab.async false
set_option linter.all false
set_option maxRecDepth 100000
set_option maxHeartbeats 4000000
/-! A1: data without addresses of tuples (D), what stands at a tracked address (MO), how they lie over the hand layer's heap. -/
namespace L3
open PySem PySem.Spec PyProof.Rows L2

/-- a value: tuples are trees; lists, dicts and the like by their address -/
inductive D where
  | non | bl (b : Bool) | int (i : Int) | str (x : Str) | tup (xs : List D) | ref (a : Addr)
  /-- a list of ints that stands in the written part -/
  | sl (ns : List Int)

mutual
/-- d lies as the value v over the heap H -/
inductive Den (K : PySem.W.Frag) (H : Hp) : D → V → Prop
  | non : Den K H .non .non
  | bl (b : Bool) : Den K H (.bl b) (.bl b)
  | int (i : Int) : Den K H (.int i) (.int i)
  | str (x : Str) : Den K H (.str x) (.str x)
  | tup {ds : List D} {a : Addr} {vs : List V} (h : SqT K H a vs) (t : Dens K H ds vs) : Den K H (.tup ds) (.ref a)
  | ref (a : Addr) : Den K H (.ref a) (.ref a)
  | sl {ns : List Int} {a : Addr} (h : SqL K (fun _ => none) a (ns.map V.int)) : Den K H (.sl ns) (.ref a)
inductive Dens (K : PySem.W.Frag) (H : Hp) : List D → List V → Prop
  | nil : Dens K H [] []
  | cons {d : D} {v : V} {ds : List D} {vs : List V} (h : Den K H d v) (t : Dens K H ds vs) : Dens K H (d :: ds) (v :: vs)
end

/-- what never changes: tuples, what is locked -/
structure Ext (H H' : Hp) : Prop where
  tup : ∀ a xs, H a = some (.tup xs) → H' a = some (.tup xs)
  frz : ∀ a o u, H a = some (.frz o u) → H' a = some (.frz o u)
theorem Ext.refl (H : Hp) : Ext H H := ⟨fun _ _ e => e, fun _ _ _ e => e⟩
theorem Ext.trans {H H1 H2 : Hp} (a : Ext H H1) (b : Ext H1 H2) : Ext H H2 := ⟨fun c xs e => b.tup c xs (a.tup c xs e), fun c o u e => b.frz c o u (a.frz c o u e)⟩
theorem Ext.new {H : Hp} {p : Addr} {o : HO} (n : H p = none) : Ext H (upd H p o) :=
  ⟨fun a xs e => by rw [upd_ne (ne_of_none e n)]; exact e, fun a o u e => by rw [upd_ne (ne_of_none e n)]; exact e⟩
theorem Ext.put {H : Hp} {p : Addr} {o u : HO} (e : H p = some u) (h1 : ∀ xs, u ≠ .tup xs) (h2 : ∀ o x, u ≠ .frz o x) : Ext H (upd H p o) :=
  ⟨fun a xs q => by
    rw [upd_ne (fun z => ?_)]
    · exact q
    · rw [z, e] at q
      exact h1 xs (Option.some.inj q),
  fun a x y q => by
    rw [upd_ne (fun z => ?_)]
    · exact q
    · rw [z, e] at q
      exact h2 x y (Option.some.inj q)⟩
theorem Ext.sqT {K : PySem.W.Frag} {H H' : Hp} (x : Ext H H') {a : Addr} {vs : List V} (h : SqT K H a vs) : SqT K H' a vs := by
  rcases h with (h | ⟨o, h⟩) | h
  · exact .inl (.inl (x.tup a vs h))
  · exact .inl (.inr ⟨o, x.frz a o _ h⟩)
  · exact .inr h

section
variable {K : PySem.W.Frag} {H H' : Hp} {a : Addr} {xs : List V}
mutual
theorem Den.ext (x : Ext H H') : ∀ {d : D} {v : V}, Den K H d v → Den K H' d v
  | _, _, .non => .non
  | _, _, .bl b => .bl b
  | _, _, .int i => .int i
  | _, _, .str s => .str s
  | _, _, .tup h t => .tup (x.sqT h) (Dens.ext x t)
  | _, _, .ref a => .ref a
  | _, _, .sl h => .sl h
theorem Dens.ext (x : Ext H H') : ∀ {ds : List D} {vs : List V}, Dens K H ds vs → Dens K H' ds vs
  | _, _, .nil => .nil
  | _, _, .cons h t => .cons (Den.ext x h) (Dens.ext x t)
end
theorem sqL_none (h : SqL K (fun _ => none) a xs) : SqL K H a xs := by
  rcases h with (h | ⟨o, h⟩) | h
  · cases h
  · cases h
  · exact .inr h
theorem Den.sl_inv {ns : List Int} {v : V} (h : Den K H (.sl ns) v) : ∃ a, v = .ref a ∧ SqL K H a (ns.map V.int) := by
  cases h with
  | sl h => exact ⟨_, rfl, sqL_none h⟩
theorem Dens.length : ∀ {ds : List D} {vs : List V}, Dens K H ds vs → ds.length = vs.length
  | _, _, .nil => rfl
  | _, _, .cons _ t => congrArg (· + 1) (Dens.length t)
theorem Dens.get : ∀ {ds : List D} {vs : List V} {i : Nat} {d : D}, Dens K H ds vs → ds[i]? = some d → ∃ v, vs[i]? = some v ∧ Den K H d v
  | _, _, _, _, .nil, e => by simp at e
  | _, _, 0, _, .cons h _, e => by simp at e; subst e; exact ⟨_, rfl, h⟩
  | _, _, i + 1, _, .cons _ t, e => by
    obtain ⟨v, e1, h1⟩ := Dens.get (i := i) t (by simpa using e)
    exact ⟨v, by simpa using e1, h1⟩
theorem Dens.app : ∀ {ds es : List D} {vs us : List V}, Dens K H ds vs → Dens K H es us → Dens K H (ds ++ es) (vs ++ us)
  | _, _, _, _, .nil, s => s
  | _, _, _, _, .cons h t, s => .cons h (Dens.app t s)
theorem Dens.take : ∀ {ds : List D} {vs : List V} (n : Nat), Dens K H ds vs → Dens K H (ds.take n) (vs.take n)
  | _, _, 0, _ => .nil
  | _, _, _ + 1, .nil => .nil
  | _, _, n + 1, .cons h t => .cons h (Dens.take n t)
theorem Dens.drop : ∀ {ds : List D} {vs : List V} (n : Nat), Dens K H ds vs → Dens K H (ds.drop n) (vs.drop n)
  | _, _, 0, h => h
  | _, _, _ + 1, .nil => .nil
  | _, _, n + 1, .cons _ t => Dens.drop n t
theorem Dens.set {d : D} {v : V} (h : Den K H d v) : ∀ {ds : List D} {vs : List V} (i : Nat), Dens K H ds vs → Dens K H (ds.set i d) (vs.set i v)
  | _, _, _, .nil => .nil
  | _, _, 0, .cons _ t => .cons h t
  | _, _, i + 1, .cons q t => .cons q (Dens.set h i t)
theorem Dens.rev : ∀ {ds : List D} {vs : List V}, Dens K H ds vs → Dens K H ds.reverse vs.reverse
  | _, _, .nil => .nil
  | _, _, .cons h t => by
    rw [List.reverse_cons, List.reverse_cons]
    exact (Dens.rev t).app (.cons h .nil)
theorem Dens.ints : ∀ (ns : List Int), Dens K H (ns.map D.int) (ns.map V.int)
  | [] => .nil
  | n :: r => .cons (.int n) (Dens.ints r)
end

/-- a value of a dict, an entry of it -/
def DenU (K : PySem.W.Frag) (H : Hp) (d : D) (u : Value) : Prop := ∃ v, Den K H d v ∧ RelV v u
theorem DenU.ext {K : PySem.W.Frag} {H H' : Hp} (x : Ext H H') {d : D} {u : Value} (h : DenU K H d u) : DenU K H' d u := let ⟨v, a, b⟩ := h; ⟨v, a.ext x, b⟩
end L3

set_option Elab.async false
set_option linter.all false
set_option maxRecDepth 100000
set_option maxHeartbeats 4000000
/-! A2: dicts whose keys are of any of the nested kinds, mixed: by value and by address. -/
namespace L3
open PySem PySem.Spec PyProof.Rows L2

abbrev NE := NestedKey × Value × Value
def entN (w : World) (x : NE) : DictEntry := ⟨x.1.hash w, x.2.1, x.2.2⟩
structure KeyOk (h : Heap) (k : NestedKey) (u : Value) : Prop where
  is : NestedIs h k u
  dp : k.depth ≤ 8
theorem KeyOk.inj {h : Heap} {x y : NestedKey} {u : Value} (a : KeyOk h x u) (b : KeyOk h y u) : x = y := NestedIs.inj _ _ _ a.is b.is
section
variable {prog : Program} {w : World} {A : Around} {E : Value → Shared → Prop} {s : Shared}
theorem eqMix {x y : NestedKey} {a b : Value} {Q : Bool → Shared → Prop} (hu : A.units + 8 < cLine) (ha : KeyOk s.heap x a) (hb : KeyOk s.heap y b) (h : Q (decide (x = y)) s) : wpAny (model prog w) A (eqBool a b) Q E s := by
  have hm : min x.depth y.depth ≤ 8 := Nat.le_trans (Nat.min_le_left _ _) ha.dp
  refine eqAt_key x y A s a b ha.is hb.is (by omega) prog w E Q ?_
  rw [← NestedKey.decide_eq]
  exact h

/-- the place of the key k among the entries -/
def AtN (xs : List NE) (k : NestedKey) (j : Nat) : Prop := ∃ y, xs[j]? = some (k, y)
theorem AtN.uniq {xs : List NE} {k : NestedKey} (hn : (xs.map (·.1)).Nodup) {i j : Nat} (a : AtN xs k i) (b : AtN xs k j) : i = j := by
  obtain ⟨y, ea⟩ := a
  obtain ⟨z, eb⟩ := b
  have e1 : (xs.map (·.1))[i]? = some k := by rw [List.getElem?_map, ea]; rfl
  have e2 : (xs.map (·.1))[j]? = some k := by rw [List.getElem?_map, eb]; rfl
  exact (List.getElem?_inj (List.getElem?_eq_some_iff.mp e1).1 hn).mp (e1.trans e2.symm)
def pls (w : World) (xs : List NE) (k : NestedKey) : List Nat :=
  placesWithHash (xs.map (entN w)).toArray.size (fun i => Option.map (fun x => x.hash) (xs.map (entN w)).toArray[i]?) (k.hash w)
theorem ent_at (w : World) (xs : List NE) (i : Nat) : (xs.map (entN w)).toArray[i]? = (xs[i]?).map (entN w) := by
  rw [List.getElem?_toArray, List.getElem?_map]
theorem pls_nodup (w : World) (xs : List NE) (k : NestedKey) : (pls w xs k).Nodup := by
  unfold pls placesWithHash
  exact List.Nodup.sublist List.filter_sublist List.nodup_range
theorem pls_lt {w : World} {xs : List NE} {k : NestedKey} {i : Nat} (h : i ∈ pls w xs k) : i < xs.length := by
  unfold pls placesWithHash at h
  have := List.mem_range.mp (List.mem_filter.mp h).1
  simpa using this
theorem pls_has {w : World} {xs : List NE} {k : NestedKey} {j : Nat} (h : AtN xs k j) : j ∈ pls w xs k := by
  obtain ⟨y, e⟩ := h
  unfold pls placesWithHash
  refine List.mem_filter.mpr ⟨List.mem_range.mpr ?_, ?_⟩
  · have := (List.getElem?_eq_some_iff.mp e).1
    simpa using this
  · show (Option.map (fun x => x.hash) (xs.map (entN w)).toArray[j]? == some (k.hash w)) = true
    rw [ent_at, e]
    simp [entN]

/-- what the search for k among the entries xs may hand on -/
structure FindN (xs : List NE) (k : NestedKey) (R : Option Nat → Prop) : Prop where
  none : (∀ j, ¬ AtN xs k j) → R none
  some : ∀ j, AtN xs k j → R (some j)

/-- entries that stand in a heap -/
structure EntsN (w : World) (h : Heap) (d : Addr) (xs : List NE) (o : Obj) (ep : Nat) : Prop where
  ho : h.get? d = some o
  hd : o.data = .dict (xs.map (entN w)).toArray ep
  ks : ∀ x ∈ xs, KeyOk h x.1 x.2.1
  nd : (xs.map (·.1)).Nodup

theorem walk_plain {d : Addr} {key : Value} {k : NestedKey} {xs : List NE} {o : Obj} {ep : Nat} {Q : Option Nat → Shared → Prop} (hu : A.units + 8 < cLine) (hk : KeyOk s.heap k key) (D : EntsN w s.heap d xs o ep) (F : FindN xs k fun r => Q r s) :
    wpAny (model prog w) A (dictWalkPlain d key (k.hash w) (xs.map (entN w)).toArray (pls w xs k)) Q E s := by
  unfold dictWalkPlain
  refine wpAny_bind ?_
  refine wpAny_forIn_list _ (fun rest b s' => s' = s ∧ b.1 = none ∧ rest.Nodup ∧ (∀ i ∈ rest, i < xs.length) ∧ ∀ j, AtN xs k j → j ∈ rest) _ ?_ ?_ _ _ ⟨rfl, rfl, pls_nodup w xs k, fun i h => pls_lt h, fun j h => pls_has h⟩
  · rintro x rest b s' ⟨rfl, hb, hn, hl, hj⟩
    have hx := hl x List.mem_cons_self
    obtain ⟨⟨k', u, v⟩, e⟩ : ∃ y, xs[x]? = some y := ⟨xs[x], List.getElem?_eq_getElem hx⟩
    have hk' : KeyOk s'.heap k' u := D.ks _ (List.mem_of_getElem? e)
    have rest' : k' ≠ k → ∀ j, AtN xs k j → j ∈ rest := fun ne j h => by
      rcases List.mem_cons.mp (hj j h) with rfl | h'
      · obtain ⟨y, e'⟩ := h
        rw [e] at e'
        cases e'
        exact absurd rfl ne
      · exact h'
    have next : k' ≠ k → (none : Option (Option Nat)) = none ∧ rest.Nodup ∧ (∀ i ∈ rest, i < xs.length) ∧ ∀ j, AtN xs k j → j ∈ rest := fun ne =>
      ⟨rfl, (List.nodup_cons.mp hn).2, fun i h => hl i (List.mem_cons_of_mem _ h), rest' ne⟩
    rw [ent_at, e]
    dsimp only [Option.map_some, entN]
    by_cases hh : (k'.hash w == k.hash w) = true
    · rw [if_pos hh]
      refine wpAny_bind (wpAny_dictEpoch D.ho D.hd (wpAny_bind (eqMix hu hk' hk (wpAny_bind (wpAny_dictEpoch D.ho D.hd ?_)))))
      rw [if_neg (by simp)]
      by_cases hkk : k' = k
      · rw [decide_eq_true hkk, if_pos rfl]
        exact wpAny_bind (wpAny_rule (wpAny_pure (wpAny_pure (F.some x ⟨_, hkk ▸ e⟩))))
      · rw [decide_eq_false hkk, if_neg (by decide)]
        refine wpAny_bind (wpAny_rule ?_)
        first
          | exact wpAny_pure ⟨rfl, next hkk⟩
          | exact wpAny_bind (wpAny_pure (wpAny_pure ⟨rfl, next hkk⟩))
    · rw [if_neg hh]
      refine wpAny_pure ⟨rfl, next fun z => hh ?_⟩
      rw [z]
      simp
  · rintro ⟨b, u⟩ s' ⟨rfl, hb, _, _, hj⟩
    have hb' : b = none := hb
    subst hb'
    exact wpAny_pure (F.none fun j h => nomatch hj j h)

theorem found_value {d : Addr} {x : Str} {t : Tok} {xs : List NE} {o : Obj} {ep : Nat} {Q : Option Nat → Shared → Prop} (hu : A.units + 8 < cLine) (D : EntsN w s.heap d xs o ep) (F : FindN xs (.text x) fun r => Q r s) :
    wpAny (model prog w) A (foundByValue d (.str x t) (xs.map (entN w)).toArray x) Q E s := by
  have hk : KeyOk s.heap (.text x) (.str x t) := ⟨.text x t, by simp [NestedKey.depth]⟩
  have hit : ∀ j y, xs[j]? = some y → y.2.1.isStr x = true → AtN xs (.text x) j := fun j y e h => by
    obtain ⟨k', u, v⟩ := y
    have q := (D.ks _ (List.mem_of_getElem? e)).is
    cases u with
    | str z t' =>
      cases q with
      | text _ _ =>
        have e1 : (z == x) = true := h
        rw [eq_of_beq e1] at e
        exact ⟨_, e⟩
    | _ => exact absurd h (by simp [Value.isStr])
  have mis : ∀ j, AtN xs (.text x) j → ∃ y, xs[j]? = some y ∧ y.2.1.isStr x = true := fun j ⟨y, e⟩ => by
    refine ⟨_, e, ?_⟩
    have q := (D.ks _ (List.mem_of_getElem? e)).is
    obtain ⟨u, v⟩ := y
    cases q with
    | text _ _ => simp [Value.isStr]
  unfold foundByValue
  cases hf : (xs.map (entN w)).toArray.findIdx? (fun e => e.key.isStr x) with
  | none =>
    dsimp only
    refine wpAny_pure (F.none fun j h => ?_)
    obtain ⟨y, e, h1⟩ := mis j h
    rw [Array.findIdx?_eq_none_iff] at hf
    have hm : entN w y ∈ (xs.map (entN w)).toArray := by
      rw [List.mem_toArray]
      exact List.mem_map.mpr ⟨y, List.mem_of_getElem? e, rfl⟩
    have := hf _ hm
    simp only [entN] at this
    rw [h1] at this
    cases this
  | some i =>
    dsimp only
    obtain ⟨hlt, h1, _⟩ := Array.findIdx?_eq_some_iff_getElem.mp hf
    have hlt' : i < xs.length := by simpa using hlt
    have e : xs[i]? = some xs[i] := List.getElem?_eq_getElem hlt'
    have h2 : (xs[i]).2.1.isStr x = true := by simpa [entN] using h1
    have hA := hit i _ e h2
    obtain ⟨y, e3⟩ := hA
    have hk' : KeyOk s.heap (.text x) y.1 := by
      have := D.ks _ (List.mem_of_getElem? e3)
      exact this
    rw [ent_at, e3]
    dsimp only [Option.map_some, entN]
    refine wpAny_bind (wpAny_dictEpoch D.ho D.hd (wpAny_bind (eqMix hu hk' hk (wpAny_bind (wpAny_dictEpoch D.ho D.hd ?_)))))
    rw [if_neg (by simp), decide_eq_true rfl, if_pos rfl]
    exact wpAny_bind (wpAny_rule (wpAny_pure (F.some i ⟨y, e3⟩)))

theorem quietN {k : NestedKey} {u : Value} {Q : Bool → Shared → Prop} (h : KeyOk s.heap k u) (q : Q true s) : wpAny (model prog w) A (eqIsQuiet 8 u) Q E s := quiet_key k u 8 s h.is h.dp A E Q q
theorem tells_not {key : Value} {k : NestedKey} {stored : List Value} {Q : Bool → Shared → Prop} (hk : KeyOk s.heap k key) (hs : ∀ v ∈ stored, ∃ k', KeyOk s.heap k' v) (q : Q false s) : wpAny (model prog w) A (tableMayTell key stored) Q E s := by
  unfold tableMayTell
  by_cases he : stored.isEmpty = true
  · rw [if_pos he]
    exact wpAny_pure q
  · rw [if_neg he]
    refine wpAny_bind (quietN hk ?_)
    rw [if_neg (by decide)]
    refine wpAny_bind ?_
    refine wpAny_forIn_list _ (fun rest b s' => s' = s ∧ b.1 = none ∧ ∀ v ∈ rest, ∃ k', KeyOk s.heap k' v) _ ?_ ?_ _ _ ⟨rfl, rfl, hs⟩
    · rintro v rest b s' ⟨rfl, hb, hr⟩
      obtain ⟨k', h'⟩ := hr v List.mem_cons_self
      refine wpAny_bind (quietN h' ?_)
      rw [if_neg (by decide)]
      exact wpAny_pure ⟨rfl, rfl, fun z hz => hr z (List.mem_cons_of_mem _ hz)⟩
    · rintro ⟨b, u⟩ s' ⟨rfl, hb, _⟩
      have hb' : b = none := hb
      subst hb'
      exact wpAny_pure q
theorem stored_ok {d : Addr} {k : NestedKey} {xs : List NE} {o : Obj} {ep : Nat} (D : EntsN w s.heap d xs o ep) : ∀ v ∈ (pls w xs k).filterMap (fun i => Option.map (fun x => x.key) (xs.map (entN w)).toArray[i]?), ∃ k', KeyOk s.heap k' v := fun v hv => by
  obtain ⟨i, _, hi⟩ := List.mem_filterMap.mp hv
  rw [ent_at] at hi
  cases e : xs[i]? with
  | none => rw [e] at hi; cases hi
  | some y =>
    rw [e] at hi
    cases hi
    exact ⟨_, D.ks y (List.mem_of_getElem? e)⟩
theorem same_hash {d : Addr} {key : Value} {k : NestedKey} {xs : List NE} {o : Obj} {ep : Nat} (hk : KeyOk s.heap k key) (D : EntsN w s.heap d xs o ep) : ¬ ((xs.map (entN w)).toArray.any fun e => e.key == key && e.hash != k.hash w) = true := by
  intro h
  obtain ⟨i, hi, h⟩ := Array.any_eq_true.mp h
  have hi' : i < xs.length := by simpa using hi
  have h2 : ((xs[i]).2.1 == key && (xs[i]).1.hash w != k.hash w) = true := by simpa [entN] using h
  simp only [Bool.and_eq_true, beq_iff_eq, bne_iff_ne, ne_eq] at h2
  obtain ⟨e1, e2⟩ := h2
  have q := D.ks xs[i] (List.getElem_mem hi')
  rw [e1] at q
  exact e2 (by rw [q.inj hk])
end
end L3

set_option Elab.async false
set_option linter.all false
set_option maxRecDepth 100000
set_option maxHeartbeats 4000000
namespace L3
open PySem PySem.Spec PyProof.Rows L2
section
variable {prog : Program} {w : World} {A : Around} {E : Value → Shared → Prop} {s : Shared}
/-- what the told walk keeps between two turns -/
def TurnN (xs : List NE) (k : NestedKey) (rest : List Nat) (hit : Option Nat) : Prop :=
  rest.Nodup ∧ (∀ i ∈ rest, i < xs.length) ∧ ((hit = none ∧ ∀ j, AtN xs k j → j ∈ rest) ∨ ∃ j, hit = some j ∧ AtN xs k j ∧ j ∉ rest)
theorem TurnN.start (w : World) (xs : List NE) (k : NestedKey) : TurnN xs k (pls w xs k) none := ⟨pls_nodup w xs k, fun i h => pls_lt h, .inl ⟨rfl, fun j h => pls_has h⟩⟩
theorem TurnN.miss {xs : List NE} {k k' : NestedKey} {x : Nat} {rest : List Nat} {hit : Option Nat} {y : Value × Value} (T : TurnN xs k (x :: rest) hit) (e : xs[x]? = some (k', y)) (ne : ¬ k' = k) : TurnN xs k rest hit := by
  obtain ⟨hn, hl, h⟩ := T
  refine ⟨(List.nodup_cons.mp hn).2, fun i q => hl i (List.mem_cons_of_mem _ q), ?_⟩
  rcases h with ⟨h0, hj⟩ | ⟨j, h0, hj, hx⟩
  · refine .inl ⟨h0, fun j q => ?_⟩
    rcases List.mem_cons.mp (hj j q) with z | z
    · obtain ⟨y', e'⟩ := q
      rw [z, e] at e'
      cases e'
      exact absurd rfl ne
    · exact z
  · exact .inr ⟨j, h0, hj, fun z => hx (List.mem_cons_of_mem _ z)⟩
theorem TurnN.hit {xs : List NE} {k : NestedKey} {x : Nat} {rest : List Nat} {hit : Option Nat} {y : Value × Value} (hd : (xs.map (·.1)).Nodup) (T : TurnN xs k (x :: rest) hit) (e : xs[x]? = some (k, y)) : hit = none ∧ TurnN xs k rest (some x) := by
  obtain ⟨hn, hl, h⟩ := T
  refine ⟨?_, (List.nodup_cons.mp hn).2, fun i q => hl i (List.mem_cons_of_mem _ q), .inr ⟨x, rfl, ⟨y, e⟩, (List.nodup_cons.mp hn).1⟩⟩
  rcases h with ⟨h0, _⟩ | ⟨j, _, hj, hx⟩
  · exact h0
  · exact absurd (by rw [hj.uniq hd ⟨y, e⟩]; exact List.mem_cons_self) hx
theorem TurnN.fin {xs : List NE} {k : NestedKey} {hit : Option Nat} {R : Option Nat → Prop} (F : FindN xs k R) (T : TurnN xs k [] hit) : R hit := by
  obtain ⟨_, _, ⟨h0, hj⟩ | ⟨j, h0, hj, _⟩⟩ := T
  · rw [h0]
    exact F.none fun j q => nomatch hj j q
  · rw [h0]
    exact F.some j hj

theorem find_mix {d : Addr} {key : Value} {k : NestedKey} {xs : List NE} {o : Obj} {ep : Nat} {Q : Option Nat → Shared → Prop} (hu : A.units + 8 < cLine) (hk : KeyOk s.heap k key) (D : EntsN w s.heap d xs o ep) (F : FindN xs k fun r => Q r s) :
    wpAny (model prog w) A (dictFind d key (k.hash w)) Q E s := by
  have hany := same_hash hk D
  have hst := stored_ok (k := k) D
  have hpl := walk_plain (prog := prog) (A := A) (E := E) hu hk D F
  have T0 := TurnN.start w xs k
  unfold dictFind
  with_reducible refine wpAny_holding ?_
  refine wpAny_bind (wpAny_dictEntries D.ho D.hd ?_)
  unfold pls at hst hpl T0
  generalize placesWithHash (xs.map (entN w)).toArray.size (fun i => Option.map (fun x => x.hash) (xs.map (entN w)).toArray[i]?) (k.hash w) = ps at hst hpl T0
  cases hk.is
  case text z t =>
    dsimp only
    by_cases ha : ((xs.map (entN w)).toArray.all fun e => isExactStrKey e.key) = true
    · rw [if_pos ha]
      exact found_value hu D F
    · rw [if_neg ha]
      by_cases hv : (Value.str z t :: (ps.filterMap fun i => Option.map (fun x => x.key) (xs.map (entN w)).toArray[i]?)).all carriedByValue = true
      · rw [if_pos hv]
        exact hpl
      · rw [if_neg hv]
        generalize (ps.filterMap fun i => Option.map (fun x => x.key) (xs.map (entN w)).toArray[i]?) = stored at hst
        by_cases ho : (stored == [Value.str z t]) = true <;>
        (first | rw [if_pos ho] | rw [if_neg ho]) <;> (first | refine wpAny_bind (wpAny_pure ?_) | refine wpAny_bind (tells_not hk hst ?_)) <;> (
          rw [if_neg (by simp)]
          refine wpAny_bind ?_
          refine wpAny_forIn_list _ (fun rest b s' => s' = s ∧ b.1 = none ∧ TurnN xs _ rest b.2) _ ?_ ?_ _ _ ⟨rfl, rfl, T0⟩
          · rintro x rest ⟨b, hit⟩ s' ⟨rfl, hb, T⟩
            have hb' : b = none := hb
            subst hb'
            have hx := T.2.1 x List.mem_cons_self
            obtain ⟨⟨k', u, v⟩, e⟩ : ∃ y, xs[x]? = some y := ⟨xs[x], List.getElem?_eq_getElem hx⟩
            have hk' : KeyOk s'.heap k' u := D.ks _ (List.mem_of_getElem? e)
            rw [ent_at, e]
            dsimp only [Option.map_some, entN]
            by_cases hh : (k'.hash w == (NestedKey.text z).hash w) = true
            · rw [if_pos hh]
              refine wpAny_bind (wpAny_dictEpoch D.ho D.hd (wpAny_bind (eqMix hu hk' hk (wpAny_bind (wpAny_dictEpoch D.ho D.hd ?_)))))
              rw [if_neg (by simp)]
              by_cases hkk : k' = NestedKey.text z
              · subst hkk
                obtain ⟨h0, T'⟩ := T.hit D.nd e
                have h0' : hit = none := h0
                subst h0'
                rw [decide_eq_true rfl, if_pos rfl, if_neg (by simp)]
                refine wpAny_bind (wpAny_rule ?_)
                by_cases h2 : stored.length < 2
                · rw [if_pos h2]
                  exact wpAny_pure (wpAny_pure (F.some x ⟨_, e⟩))
                · rw [if_neg h2]
                  exact wpAny_pure ⟨rfl, rfl, T'⟩
              · rw [decide_eq_false hkk, if_neg (by decide)]
                refine wpAny_bind (wpAny_rule ?_)
                rw [if_neg (by simp)]
                exact wpAny_pure ⟨rfl, rfl, T.miss e hkk⟩
            · rw [if_neg hh]
              exact wpAny_pure ⟨rfl, rfl, T.miss e fun z => hh (by rw [z]; simp)⟩
          · rintro ⟨b, hit⟩ s' ⟨rfl, hb, T⟩
            have hb' : b = none := hb
            subst hb'
            exact wpAny_pure (T.fin F))
  case none =>
    dsimp only
    by_cases hv : (Value.none :: (ps.filterMap fun i => Option.map (fun x => x.key) (xs.map (entN w)).toArray[i]?)).all carriedByValue = true
    · rw [if_pos hv]
      exact hpl
    · rw [if_neg hv]
      generalize (ps.filterMap fun i => Option.map (fun x => x.key) (xs.map (entN w)).toArray[i]?) = stored at hst
      by_cases ho : (stored == [Value.none]) = true <;>
      (first | rw [if_pos ho] | rw [if_neg ho]) <;> (first | refine wpAny_bind (wpAny_pure ?_) | refine wpAny_bind (tells_not hk hst ?_)) <;> (
        rw [if_neg (by simp)]
        refine wpAny_bind ?_
        refine wpAny_forIn_list _ (fun rest b s' => s' = s ∧ b.1 = none ∧ TurnN xs _ rest b.2) _ ?_ ?_ _ _ ⟨rfl, rfl, T0⟩
        · rintro x rest ⟨b, hit⟩ s' ⟨rfl, hb, T⟩
          have hb' : b = none := hb
          subst hb'
          have hx := T.2.1 x List.mem_cons_self
          obtain ⟨⟨k', u, v⟩, e⟩ : ∃ y, xs[x]? = some y := ⟨xs[x], List.getElem?_eq_getElem hx⟩
          have hk' : KeyOk s'.heap k' u := D.ks _ (List.mem_of_getElem? e)
          rw [ent_at, e]
          dsimp only [Option.map_some, entN]
          by_cases hh : (k'.hash w == (NestedKey.none).hash w) = true
          · rw [if_pos hh]
            refine wpAny_bind (wpAny_dictEpoch D.ho D.hd (wpAny_bind (eqMix hu hk' hk (wpAny_bind (wpAny_dictEpoch D.ho D.hd ?_)))))
            rw [if_neg (by simp)]
            by_cases hkk : k' = NestedKey.none
            · subst hkk
              obtain ⟨h0, T'⟩ := T.hit D.nd e
              have h0' : hit = none := h0
              subst h0'
              rw [decide_eq_true rfl, if_pos rfl, if_neg (by simp)]
              refine wpAny_bind (wpAny_rule ?_)
              by_cases h2 : stored.length < 2
              · rw [if_pos h2]
                exact wpAny_pure (wpAny_pure (F.some x ⟨_, e⟩))
              · rw [if_neg h2]
                exact wpAny_pure ⟨rfl, rfl, T'⟩
            · rw [decide_eq_false hkk, if_neg (by decide)]
              refine wpAny_bind (wpAny_rule ?_)
              rw [if_neg (by simp)]
              exact wpAny_pure ⟨rfl, rfl, T.miss e hkk⟩
          · rw [if_neg hh]
            exact wpAny_pure ⟨rfl, rfl, T.miss e fun z => hh (by rw [z]; simp)⟩
        · rintro ⟨b, hit⟩ s' ⟨rfl, hb, T⟩
          have hb' : b = none := hb
          subst hb'
          exact wpAny_pure (T.fin F))
  case bool b i hbi =>
    dsimp only
    by_cases hv : (Value.bool b :: (ps.filterMap fun i => Option.map (fun x => x.key) (xs.map (entN w)).toArray[i]?)).all carriedByValue = true
    · rw [if_pos hv]
      exact hpl
    · rw [if_neg hv]
      generalize (ps.filterMap fun i => Option.map (fun x => x.key) (xs.map (entN w)).toArray[i]?) = stored at hst
      by_cases ho : (stored == [Value.bool b]) = true <;>
      (first | rw [if_pos ho] | rw [if_neg ho]) <;> (first | refine wpAny_bind (wpAny_pure ?_) | refine wpAny_bind (tells_not hk hst ?_)) <;> (
        rw [if_neg (by simp)]
        refine wpAny_bind ?_
        refine wpAny_forIn_list _ (fun rest b s' => s' = s ∧ b.1 = none ∧ TurnN xs _ rest b.2) _ ?_ ?_ _ _ ⟨rfl, rfl, T0⟩
        · rintro x rest ⟨b, hit⟩ s' ⟨rfl, hb, T⟩
          have hb' : b = none := hb
          subst hb'
          have hx := T.2.1 x List.mem_cons_self
          obtain ⟨⟨k', u, v⟩, e⟩ : ∃ y, xs[x]? = some y := ⟨xs[x], List.getElem?_eq_getElem hx⟩
          have hk' : KeyOk s'.heap k' u := D.ks _ (List.mem_of_getElem? e)
          rw [ent_at, e]
          dsimp only [Option.map_some, entN]
          by_cases hh : (k'.hash w == (NestedKey.num i).hash w) = true
          · rw [if_pos hh]
            refine wpAny_bind (wpAny_dictEpoch D.ho D.hd (wpAny_bind (eqMix hu hk' hk (wpAny_bind (wpAny_dictEpoch D.ho D.hd ?_)))))
            rw [if_neg (by simp)]
            by_cases hkk : k' = NestedKey.num i
            · subst hkk
              obtain ⟨h0, T'⟩ := T.hit D.nd e
              have h0' : hit = none := h0
              subst h0'
              rw [decide_eq_true rfl, if_pos rfl, if_neg (by simp)]
              refine wpAny_bind (wpAny_rule ?_)
              by_cases h2 : stored.length < 2
              · rw [if_pos h2]
                exact wpAny_pure (wpAny_pure (F.some x ⟨_, e⟩))
              · rw [if_neg h2]
                exact wpAny_pure ⟨rfl, rfl, T'⟩
            · rw [decide_eq_false hkk, if_neg (by decide)]
              refine wpAny_bind (wpAny_rule ?_)
              rw [if_neg (by simp)]
              exact wpAny_pure ⟨rfl, rfl, T.miss e hkk⟩
          · rw [if_neg hh]
            exact wpAny_pure ⟨rfl, rfl, T.miss e fun z => hh (by rw [z]; simp)⟩
        · rintro ⟨b, hit⟩ s' ⟨rfl, hb, T⟩
          have hb' : b = none := hb
          subst hb'
          exact wpAny_pure (T.fin F))
  case int i t =>
    dsimp only
    by_cases hv : (Value.int i t :: (ps.filterMap fun i => Option.map (fun x => x.key) (xs.map (entN w)).toArray[i]?)).all carriedByValue = true
    · rw [if_pos hv]
      exact hpl
    · rw [if_neg hv]
      generalize (ps.filterMap fun i => Option.map (fun x => x.key) (xs.map (entN w)).toArray[i]?) = stored at hst
      by_cases ho : (stored == [Value.int i t]) = true <;>
      (first | rw [if_pos ho] | rw [if_neg ho]) <;> (first | refine wpAny_bind (wpAny_pure ?_) | refine wpAny_bind (tells_not hk hst ?_)) <;> (
        rw [if_neg (by simp)]
        refine wpAny_bind ?_
        refine wpAny_forIn_list _ (fun rest b s' => s' = s ∧ b.1 = none ∧ TurnN xs _ rest b.2) _ ?_ ?_ _ _ ⟨rfl, rfl, T0⟩
        · rintro x rest ⟨b, hit⟩ s' ⟨rfl, hb, T⟩
          have hb' : b = none := hb
          subst hb'
          have hx := T.2.1 x List.mem_cons_self
          obtain ⟨⟨k', u, v⟩, e⟩ : ∃ y, xs[x]? = some y := ⟨xs[x], List.getElem?_eq_getElem hx⟩
          have hk' : KeyOk s'.heap k' u := D.ks _ (List.mem_of_getElem? e)
          rw [ent_at, e]
          dsimp only [Option.map_some, entN]
          by_cases hh : (k'.hash w == (NestedKey.num i).hash w) = true
          · rw [if_pos hh]
            refine wpAny_bind (wpAny_dictEpoch D.ho D.hd (wpAny_bind (eqMix hu hk' hk (wpAny_bind (wpAny_dictEpoch D.ho D.hd ?_)))))
            rw [if_neg (by simp)]
            by_cases hkk : k' = NestedKey.num i
            · subst hkk
              obtain ⟨h0, T'⟩ := T.hit D.nd e
              have h0' : hit = none := h0
              subst h0'
              rw [decide_eq_true rfl, if_pos rfl, if_neg (by simp)]
              refine wpAny_bind (wpAny_rule ?_)
              by_cases h2 : stored.length < 2
              · rw [if_pos h2]
                exact wpAny_pure (wpAny_pure (F.some x ⟨_, e⟩))
              · rw [if_neg h2]
                exact wpAny_pure ⟨rfl, rfl, T'⟩
            · rw [decide_eq_false hkk, if_neg (by decide)]
              refine wpAny_bind (wpAny_rule ?_)
              rw [if_neg (by simp)]
              exact wpAny_pure ⟨rfl, rfl, T.miss e hkk⟩
          · rw [if_neg hh]
            exact wpAny_pure ⟨rfl, rfl, T.miss e fun z => hh (by rw [z]; simp)⟩
        · rintro ⟨b, hit⟩ s' ⟨rfl, hb, T⟩
          have hb' : b = none := hb
          subst hb'
          exact wpAny_pure (T.fin F))
  case tup a oa vs n ks g1 g2 g3 g4 =>
    dsimp only
    by_cases hv : (Value.ref a :: (ps.filterMap fun i => Option.map (fun x => x.key) (xs.map (entN w)).toArray[i]?)).all carriedByValue = true
    · rw [if_pos hv]
      exact hpl
    · rw [if_neg hv]
      rw [if_neg hany]
      generalize (ps.filterMap fun i => Option.map (fun x => x.key) (xs.map (entN w)).toArray[i]?) = stored at hst
      by_cases ho : (stored == [Value.ref a]) = true <;>
      (first | rw [if_pos ho] | rw [if_neg ho]) <;> (first | refine wpAny_bind (wpAny_pure ?_) | refine wpAny_bind (tells_not hk hst ?_)) <;> (
        rw [if_neg (by simp)]
        refine wpAny_bind ?_
        refine wpAny_forIn_list _ (fun rest b s' => s' = s ∧ b.1 = none ∧ TurnN xs _ rest b.2) _ ?_ ?_ _ _ ⟨rfl, rfl, T0⟩
        · rintro x rest ⟨b, hit⟩ s' ⟨rfl, hb, T⟩
          have hb' : b = none := hb
          subst hb'
          have hx := T.2.1 x List.mem_cons_self
          obtain ⟨⟨k', u, v⟩, e⟩ : ∃ y, xs[x]? = some y := ⟨xs[x], List.getElem?_eq_getElem hx⟩
          have hk' : KeyOk s'.heap k' u := D.ks _ (List.mem_of_getElem? e)
          rw [ent_at, e]
          dsimp only [Option.map_some, entN]
          by_cases hh : (k'.hash w == (NestedKey.tup ks).hash w) = true
          · rw [if_pos hh]
            refine wpAny_bind (wpAny_dictEpoch D.ho D.hd (wpAny_bind (eqMix hu hk' hk (wpAny_bind (wpAny_dictEpoch D.ho D.hd ?_)))))
            rw [if_neg (by simp)]
            by_cases hkk : k' = NestedKey.tup ks
            · subst hkk
              obtain ⟨h0, T'⟩ := T.hit D.nd e
              have h0' : hit = none := h0
              subst h0'
              rw [decide_eq_true rfl, if_pos rfl, if_neg (by simp)]
              refine wpAny_bind (wpAny_rule ?_)
              by_cases h2 : stored.length < 2
              · rw [if_pos h2]
                exact wpAny_pure (wpAny_pure (F.some x ⟨_, e⟩))
              · rw [if_neg h2]
                exact wpAny_pure ⟨rfl, rfl, T'⟩
            · rw [decide_eq_false hkk, if_neg (by decide)]
              refine wpAny_bind (wpAny_rule ?_)
              rw [if_neg (by simp)]
              exact wpAny_pure ⟨rfl, rfl, T.miss e hkk⟩
          · rw [if_neg hh]
            exact wpAny_pure ⟨rfl, rfl, T.miss e fun z => hh (by rw [z]; simp)⟩
        · rintro ⟨b, hit⟩ s' ⟨rfl, hb, T⟩
          have hb' : b = none := hb
          subst hb'
          exact wpAny_pure (T.fin F))
end
end L3
namespace L3
open PySem PySem.Spec PyProof.Rows L2
/-- the value at the key -/
def valN (xs : List NE) (k : NestedKey) : Option Value := (xs.find? fun x => decide (x.1 = k)).map (·.2.2)
def setN (k : NestedKey) (v : Value) (x : NE) : NE := if x.1 = k then (x.1, x.2.1, v) else x
def putN (xs : List NE) (k : NestedKey) (u v : Value) : List NE := if k ∈ xs.map (·.1) then xs.map (setN k v) else xs ++ [(k, u, v)]
theorem not_at {xs : List NE} {k : NestedKey} (h : ∀ j, ¬ AtN xs k j) : k ∉ xs.map (·.1) := fun hm => by
  obtain ⟨y, hy, e⟩ := List.mem_map.mp hm
  obtain ⟨j, hj⟩ := List.mem_iff_getElem?.mp hy
  exact h j ⟨y.2, by rw [hj, ← e]⟩
theorem valN_none {xs : List NE} {k : NestedKey} (h : ∀ j, ¬ AtN xs k j) : valN xs k = none := by
  unfold valN
  rw [List.find?_eq_none.mpr]
  · rfl
  · intro x hx hk
    exact not_at h (List.mem_map.mpr ⟨x, hx, of_decide_eq_true hk⟩)
theorem valN_some {k : NestedKey} : ∀ {xs : List NE} {j : Nat} {y : Value × Value}, (xs.map (·.1)).Nodup → xs[j]? = some (k, y) → valN xs k = some y.2
  | [], _, _, _, e => by simp at e
  | x :: r, 0, _, _, e => by
    simp only [List.getElem?_cons_zero, Option.some.injEq] at e
    subst e
    simp [valN]
  | x :: r, j + 1, y, hn, e => by
    simp only [List.getElem?_cons_succ] at e
    rw [List.map_cons, List.nodup_cons] at hn
    have hm : k ∈ r.map (·.1) := List.mem_map.mpr ⟨(k, y), List.mem_of_getElem? e, rfl⟩
    have ne : ¬ x.1 = k := fun z => hn.1 (by rw [z]; exact hm)
    have := valN_some hn.2 e
    unfold valN at this ⊢
    rw [List.find?_cons, decide_eq_false ne]
    exact this
theorem keys_setN (xs : List NE) (k : NestedKey) (v : Value) : (xs.map (setN k v)).map (·.1) = xs.map (·.1) := by
  rw [List.map_map]
  refine List.map_congr_left fun x _ => ?_
  show (setN k v x).1 = x.1
  unfold setN
  split <;> rfl
theorem setN_id (xs : List NE) (k : NestedKey) (v : Value) (h : k ∉ xs.map (·.1)) : xs.map (setN k v) = xs := by
  refine (List.map_congr_left fun x hx => ?_).trans (List.map_id xs)
  show setN k v x = x
  unfold setN
  rw [if_neg fun z => h (List.mem_map.mpr ⟨x, hx, z⟩)]
theorem modify_setN (w : World) {k : NestedKey} {v : Value} : ∀ {xs : List NE} {j : Nat} {y : Value × Value}, (xs.map (·.1)).Nodup → xs[j]? = some (k, y) → (xs.map (entN w)).modify j (fun e => { e with val := v }) = (xs.map (setN k v)).map (entN w)
  | [], _, _, _, e => by simp at e
  | x :: r, 0, _, hn, e => by
    simp only [List.getElem?_cons_zero, Option.some.injEq] at e
    subst e
    rw [List.map_cons, List.nodup_cons] at hn
    rw [List.map_cons, List.map_cons, setN_id r k v hn.1]
    simp [setN, entN]
  | x :: r, j + 1, y, hn, e => by
    simp only [List.getElem?_cons_succ] at e
    rw [List.map_cons, List.nodup_cons] at hn
    have hm : k ∈ r.map (·.1) := List.mem_map.mpr ⟨(k, y), List.mem_of_getElem? e, rfl⟩
    have ne : ¬ x.1 = k := fun z => hn.1 (by rw [z]; exact hm)
    have ih := modify_setN w (v := v) hn.2 e
    rw [List.map_cons, List.modify_succ_cons, ih, List.map_cons, List.map_cons]
    have : setN k v x = x := by
      unfold setN
      rw [if_neg ne]
    rw [this]

/-- a dict of such entries stands at d -/
def DictN (w : World) (h : Heap) (d : Addr) (xs : List NE) : Prop := ∃ o ep, EntsN w h d xs o ep ∧ o.ExactDict
theorem DictN.typeIs {w : World} {s : Shared} {d : Addr} {xs : List NE} (D : DictN w s.heap d xs) : s.TypeIs (.ref d) "dict" := let ⟨o, _, E, c⟩ := D; ⟨o, E.ho, c.1⟩
theorem KeyOk.keep {h h' : Heap} {k : NestedKey} {u : Value} {d : Addr} {o : Obj} {es ep} (x : KeyOk h k u) (ho : h.get? d = some o) (hd : o.data = .dict es ep) (hs : Heap.SameBut d h h') : KeyOk h' k u :=
  ⟨NestedIs.at (fun b ob vs n hb hc => by
    refine (hs.2 b fun e => ?_).trans hb
    subst e
    rw [ho] at hb
    cases hb
    rw [hd] at hc
    cases hc) k u x.is, x.dp⟩
section
variable {prog : Program} {w : World} {A : Around} {E : Value → Shared → Prop} {s : Shared}
theorem get_mix {d : Addr} {key : Value} {k : NestedKey} {xs : List NE} {Q : Option Value → Shared → Prop} (hu : A.units + 8 < cLine) (hk : KeyOk s.heap k key) (D : DictN w s.heap d xs) (h : Q (valN xs k) { s with toks := s.toks + k.draws }) :
    wpAny (model prog w) A (dictGet d key) Q E s := by
  obtain ⟨o, ep, D, _⟩ := D
  unfold dictGet
  with_reducible refine wpAny_holding ?_
  refine wpAny_bind (pyHash_key k key A s _ hk.is (by have := hk.dp; omega) (wpAny_bind ?_))
  refine find_mix (s := { s with toks := s.toks + k.draws }) hu hk ⟨D.ho, D.hd, D.ks, D.nd⟩ ⟨fun hn => ?_, fun j ⟨y, e⟩ => ?_⟩
  · rw [valN_none hn] at h
    exact wpAny_pure h
  · rw [valN_some D.nd e] at h
    dsimp only
    refine wpAny_bind (wpAny_dictEntries (s := { s with toks := s.toks + k.draws }) D.ho D.hd ?_)
    rw [ent_at, e]
    exact wpAny_pure h
theorem set_mix {d : Addr} {key v : Value} {k : NestedKey} {xs : List NE} {Q : Unit → Shared → Prop} (hu : A.units + 8 < cLine) (hk : KeyOk s.heap k key) (D : DictN w s.heap d xs) (hz : xs.length ≤ sizeLine)
    (hQ : ∀ h', DictN w h' d (putN xs k key v) → Heap.SameBut d s.heap h' → Q () { s with heap := h', toks := s.toks + k.draws }) : wpAny (model prog w) A (dictSet d key v) Q E s := by
  obtain ⟨o, ep, D, hc⟩ := D
  unfold dictSet
  with_reducible refine wpAny_holding ?_
  refine wpAny_bind (pyHash_key k key A s _ hk.is (by have := hk.dp; omega) ?_)
  unfold dictSetHashed
  with_reducible refine wpAny_holding ?_
  refine wpAny_bind ?_
  refine find_mix (s := { s with toks := s.toks + k.draws }) hu hk ⟨D.ho, D.hd, D.ks, D.nd⟩ ⟨fun hn => ?_, fun j ⟨y, e⟩ => ?_⟩
  · have hnot := not_at hn
    have e1 : putN xs k key v = xs ++ [(k, key, v)] := by
      unfold putN
      rw [if_neg hnot]
    refine wpAny_bind (wpAny_rule (wpAny_updateDictKeys (hz := by simpa using hz) (s := { s with toks := s.toks + k.draws }) D.ho D.hd ?_))
    refine hQ _ ?_ (Heap.SameBut.update ..)
    rw [e1]
    refine ⟨_, ep + 1, ⟨Heap.get?_update_self _ D.ho (Obj.isFreed_of_dict (Obj.data_mapDictKeys D.hd _)), ?_, ?_, ?_⟩, hc.mapDictKeys _⟩
    · rw [Obj.data_mapDictKeys D.hd]
      simp [entN]
    · intro x hx
      rcases List.mem_append.mp hx with hx | hx
      · exact (D.ks x hx).keep D.ho D.hd (Heap.SameBut.update ..)
      · have : x = (k, key, v) := by simpa using hx
        subst this
        exact hk.keep D.ho D.hd (Heap.SameBut.update ..)
    · rw [List.map_append, List.nodup_append]
      refine ⟨D.nd, by simp, fun a ha b hb => ?_⟩
      have : b = k := by simpa using hb
      subst this
      exact fun z => hnot (z ▸ ha)
  · have e1 : putN xs k key v = xs.map (setN k v) := by
      unfold putN
      rw [if_pos (List.mem_map.mpr ⟨(k, y), List.mem_of_getElem? e, rfl⟩)]
    dsimp only
    refine wpAny_bind (wpAny_rule (wpAny_bind (wpAny_updateDict (s := { s with toks := s.toks + k.draws }) D.ho D.hd (wpAny_point ?_))))
    refine hQ _ ?_ (Heap.SameBut.update ..)
    rw [e1]
    refine ⟨_, ep, ⟨Heap.get?_update_self _ D.ho (Obj.isFreed_of_dict (Obj.data_mapDict D.hd _)), ?_, ?_, ?_⟩, hc.mapDict _⟩
    · rw [Obj.data_mapDict D.hd]
      have := modify_setN w (v := v) D.nd e
      rw [← this]
      simp
    · intro x hx
      obtain ⟨x0, h0, rfl⟩ := List.mem_map.mp hx
      unfold setN
      split <;> exact (D.ks x0 h0).keep D.ho D.hd (Heap.SameBut.update ..)
    · rw [keys_setN]
      exact D.nd
end
end L3

set_option Elab.async false
set_option linter.all false
set_option maxRecDepth 100000
set_option maxHeartbeats 4000000
/-! A4: what stands at an address (MO), the data heap over the hand layer's (Rep), the judgements over data. -/
namespace L3
open PySem PySem.Spec PyProof.Rows L2

mutual
def keyD : D → Option NestedKey
  | .non => some .none
  | .bl b => some (.num (if b = true then 1 else 0))
  | .int i => some (.num i)
  | .str x => some (.text x)
  | .tup ds => (keyDs ds).map NestedKey.tup
  | .ref _ => none
  | .sl _ => none
def keyDs : List D → Option (List NestedKey)
  | [] => some []
  | d :: ds => match keyD d, keyDs ds with
    | some k, some ks => some (k :: ks)
    | _, _ => none
end
/-- a key that may be asked: its depth at most eight -/
def keyOf (d : D) : Option NestedKey := match keyD d with
  | some k => if k.depth ≤ 8 then some k else none
  | none => none

inductive MO where
  | lst (ds : List D)
  | dct (kvs : List (D × D))
  /-- a list that is read alone -/
  | ro (ds : List D)
  /-- a dict that a loop walks -/
  | lck (kvs : List (D × D))

abbrev Hp3 := Addr → Option MO
def up3 (M : Hp3) (a : Addr) (o : MO) : Hp3 := fun b => if b = a then some o else M b
theorem up3_same {M : Hp3} {a : Addr} {o : MO} : up3 M a o a = some o := by unfold up3; rw [if_pos rfl]
theorem up3_ne {M : Hp3} {a b : Addr} {o : MO} (h : b ≠ a) : up3 M a o b = M b := by unfold up3; rw [if_neg h]
theorem up3_up3 {M : Hp3} {a : Addr} {o u : MO} : up3 (up3 M a o) a u = up3 M a u := by
  funext b
  unfold up3
  split <;> rfl
theorem ne3 {M : Hp3} {a b : Addr} {o u : MO} (h : M a = some o) (h' : M b = some u) (d : o ≠ u) : a ≠ b := fun e => by
  subst e
  rw [h] at h'
  exact d (Option.some.inj h')
theorem ne3_none {M : Hp3} {a b : Addr} {o : MO} (h : M a = some o) (h' : M b = none) : a ≠ b := fun e => by
  subst e
  rw [h] at h'
  cases h'

/-- the dict's object with the entries xs -/
def DictO (w : World) (d : Addr) (xs : List NE) : HO := .ext fun h => ∃ o ep, h.get? d = some o ∧ o.ExactDict ∧ o.data = .dict (xs.map (entN w)).toArray ep

def EntD (K : PySem.W.Frag) (H : Hp) (p : D × D) (x : NE) : Prop := keyOf p.1 = some x.1 ∧ DenU K H p.1 x.2.1 ∧ DenU K H p.2 x.2.2
structure DictR (K : PySem.W.Frag) (H : Hp) (d : Addr) (kvs : List (D × D)) (xs : List NE) : Prop where
  sys : (d == sysModules) = false
  ent : Paired (EntD K H) kvs xs
  nd : (xs.map (·.1)).Nodup
  sz : xs.length ≤ sizeLine

/-- the object o of the data heap at a lies over H -/
def Lies (K : PySem.W.Frag) (w : World) (H : Hp) (a : Addr) : MO → Prop
  | .lst ds => ∃ vs, H a = some (.lst vs) ∧ Dens K H ds vs
  | .dct kvs => ∃ xs, H a = some (DictO w a xs) ∧ DictR K H a kvs xs
  | .ro ds => ∃ o vs, H a = some (.frz o (.lst vs)) ∧ Dens K H ds vs
  | .lck kvs => ∃ o xs, H a = some (.frz o (DictO w a xs)) ∧ DictR K H a kvs xs
def Rep (K : PySem.W.Frag) (w : World) (H : Hp) (M : Hp3) : Prop := ∀ a o, M a = some o → Lies K w H a o

theorem Paired.ex {α β : Type} {F G : α → β → Prop} : ∀ {l : List α} {r : List β}, Paired F l r → (∀ a b, F a b → G a b) → Paired G l r
  | _, _, .nil, _ => .nil
  | _, _, .cons h t, f => .cons (f _ _ h) (Paired.ex t f)
theorem DictR.ext {K : PySem.W.Frag} {H H' : Hp} {d : Addr} {kvs : List (D × D)} {xs : List NE} (x : Ext H H') (r : DictR K H d kvs xs) : DictR K H' d kvs xs :=
  ⟨r.sys, Paired.ex r.ent fun _ _ ⟨a, b, c⟩ => ⟨a, b.ext x, c.ext x⟩, r.nd, r.sz⟩
section
variable {K : PySem.W.Frag} {w : World} {H H' : Hp} {M : Hp3}
theorem Lies.some {a : Addr} {o : MO} (l : Lies K w H a o) : ∃ u, H a = some u := by
  cases o with
  | lst ds => obtain ⟨vs, e, _⟩ := l; exact ⟨_, e⟩
  | dct kvs => obtain ⟨xs, e, _⟩ := l; exact ⟨_, e⟩
  | ro ds => obtain ⟨o, vs, e, _⟩ := l; exact ⟨_, e⟩
  | lck kvs => obtain ⟨o, xs, e, _⟩ := l; exact ⟨_, e⟩
/-- an object lies as it lay where its own address and what never changes stay -/
theorem Lies.stay {a : Addr} {o : MO} (x : Ext H H') (e : H' a = H a) (l : Lies K w H a o) : Lies K w H' a o := by
  cases o with
  | lst ds =>
    obtain ⟨vs, e1, t⟩ := l
    exact ⟨vs, e.trans e1, t.ext x⟩
  | dct kvs =>
    obtain ⟨xs, e1, t⟩ := l
    exact ⟨xs, e.trans e1, t.ext x⟩
  | ro ds =>
    obtain ⟨o, vs, e1, t⟩ := l
    exact ⟨o, vs, e.trans e1, t.ext x⟩
  | lck kvs =>
    obtain ⟨o, xs, e1, t⟩ := l
    exact ⟨o, xs, e.trans e1, t.ext x⟩
theorem Rep.free (r : Rep K w H M) {p : Addr} (n : H p = none) : M p = none := by
  cases e : M p with
  | none => rfl
  | some o =>
    obtain ⟨u, q⟩ := (r p o e).some
    rw [n] at q
    cases q
theorem Rep.stay (r : Rep K w H M) (x : Ext H H') (e : ∀ a o, M a = some o → H' a = H a) : Rep K w H' M := fun a o h => (r a o h).stay x (e a o h)
/-- a new object of the hand layer's that the data heap does not see (a tuple) -/
theorem Rep.hid (r : Rep K w H M) {p : Addr} {o : HO} (n : H p = none) : Rep K w (upd H p o) M :=
  r.stay (Ext.new n) fun a u h => upd_ne fun z => by
    rw [z, r.free n] at h
    cases h
/-- a new object of both -/
theorem Rep.new (r : Rep K w H M) {p : Addr} {o : HO} {u : MO} (n : H p = none) (l : Lies K w (upd H p o) p u) : Rep K w (upd H p o) (up3 M p u) := fun a v h => by
  by_cases z : a = p
  · subst z
    rw [up3_same] at h
    cases h
    exact l
  · rw [up3_ne z] at h
    exact (r.hid n) a v h
/-- an object that stands is changed -/
theorem Rep.put (r : Rep K w H M) {p : Addr} {o v : HO} {u : MO} (e : H p = some v) (h1 : ∀ xs, v ≠ .tup xs) (h2 : ∀ o x, v ≠ .frz o x) (l : Lies K w (upd H p o) p u) : Rep K w (upd H p o) (up3 M p u) := fun a x h => by
  by_cases z : a = p
  · subst z
    rw [up3_same] at h
    cases h
    exact l
  · rw [up3_ne z] at h
    exact (r a x h).stay (Ext.put e h1 h2) (upd_ne z)
end

/-! ### the judgements -/
abbrev St3 := List (Option D)
abbrev VK3 := D → Hp3 → Prop
abbrev TE3 := St3 → Hp3 → VK3 → Prop
abbrev TT3 := St3 → Hp3 → (Bool → Hp3 → Prop) → Prop
abbrev TA3 := St3 → Hp3 → (List D → Hp3 → Prop) → Prop
structure Ends3 where
  nx : St3 → Hp3 → Prop
  rt : VK3
  bk : St3 → Hp3 → Prop := fun _ _ => False
  ct : St3 → Hp3 → Prop := fun _ _ => False
abbrev TS3 := Ends3 → St3 → Hp3 → Prop
/-- the slots -/
def DenO (K : PySem.W.Frag) (H : Hp) : Option D → Option V → Prop
  | none, _ => True
  | some d, some v => Den K H d v
  | some _, none => False
abbrev DenS (K : PySem.W.Frag) (H : Hp) : St3 → L2.St → Prop := Paired (DenO K H)
theorem DenO.ext {K : PySem.W.Frag} {H H' : Hp} (x : Ext H H') {a : Option D} {b : Option V} (h : DenO K H a b) : DenO K H' a b := by
  cases a with
  | none => trivial
  | some d =>
    cases b with
    | none => exact h
    | some v => exact Den.ext x h
theorem DenS.ext {K : PySem.W.Frag} {H H' : Hp} (x : Ext H H') {a : St3} {b : L2.St} (h : DenS K H a b) : DenS K H' a b := Paired.ex h fun _ _ q => q.ext x
theorem DenS.get {K : PySem.W.Frag} {H : Hp} : ∀ {a : St3} {b : L2.St} {i : Nat} {d : D}, DenS K H a b → a[i]? = some (some d) → ∃ v, b[i]? = some (some v) ∧ Den K H d v
  | _, _, _, _, .nil, e => by simp at e
  | _, b :: _, 0, _, .cons h _, e => by
    simp only [List.getElem?_cons_zero, Option.some.injEq] at e
    subst e
    cases b with
    | none => exact h.elim
    | some v => exact ⟨v, rfl, h⟩
  | _, _, i + 1, _, .cons _ t, e => by
    obtain ⟨v, e1, h1⟩ := DenS.get (i := i) t (by simpa using e)
    exact ⟨v, by simpa using e1, h1⟩
theorem DenS.set {K : PySem.W.Frag} {H : Hp} {d : Option D} {v : Option V} (h : DenO K H d v) : ∀ {a : St3} {b : L2.St} (i : Nat), DenS K H a b → DenS K H (a.set i d) (b.set i v)
  | _, _, _, .nil => .nil
  | _, _, 0, .cons _ t => .cons h t
  | _, _, i + 1, .cons q t => .cons q (DenS.set h i t)
theorem DenS.start {K : PySem.W.Frag} {H : Hp} (m : Nat) : ∀ {ds : List D} {vs : List V}, Dens K H ds vs → DenS K H (ds.map some ++ List.replicate m none) (vs.map some ++ List.replicate m none)
  | _, _, .nil => by
    show DenS K H (List.replicate m none) (List.replicate m none)
    induction m with
    | zero => exact .nil
    | succ n ih => exact .cons trivial ih
  | _, _, .cons h t => .cons h (DenS.start m t)

structure R3 (K : PySem.W.Frag) (w : World) (σ3 : St3) (M : Hp3) (σ : L2.St) (H : Hp) : Prop where
  st : DenS K H σ3 σ
  rep : Rep K w H M
theorem R3.ext {K : PySem.W.Frag} {w : World} {σ3 : St3} {M M' : Hp3} {σ : L2.St} {H H' : Hp} (r : R3 K w σ3 M σ H) (x : Ext H H') (p : Rep K w H' M') : R3 K w σ3 M' σ H' := ⟨r.st.ext x, p⟩

/-- the reading over data, read over the hand layer -/
def liftE (K : PySem.W.Frag) (w : World) (t : TE3) : TE := fun σ H Q => ∃ σ3 M Q3, R3 K w σ3 M σ H ∧ t σ3 M Q3 ∧ ∀ d M' v H', Ext H H' → Rep K w H' M' → Den K H' d v → Q3 d M' → Q v H'
def liftT (K : PySem.W.Frag) (w : World) (t : TT3) : TT := fun σ H Q => ∃ σ3 M Q3, R3 K w σ3 M σ H ∧ t σ3 M Q3 ∧ ∀ b M' H', Ext H H' → Rep K w H' M' → Q3 b M' → Q b H'
def liftA (K : PySem.W.Frag) (w : World) (t : TA3) : TA := fun σ H Q => ∃ σ3 M Q3, R3 K w σ3 M σ H ∧ t σ3 M Q3 ∧ ∀ ds M' vs H', Ext H H' → Rep K w H' M' → Dens K H' ds vs → Q3 ds M' → Q vs H'
/-- what is wanted of a state, over the hand layer; G: the heap at the beginning -/
def lowS (K : PySem.W.Frag) (w : World) (G : Hp) (q : St3 → Hp3 → Prop) : L2.St → Hp → Prop := fun σ H => Ext G H ∧ ∃ σ3 M, R3 K w σ3 M σ H ∧ q σ3 M
def lowV (K : PySem.W.Frag) (w : World) (G : Hp) (q : VK3) : VK := fun v H => Ext G H ∧ ∃ d M, Rep K w H M ∧ Den K H d v ∧ q d M
def lowEnds (K : PySem.W.Frag) (w : World) (G : Hp) (D : Ends3) : Ends := ⟨lowS K w G D.nx, lowV K w G D.rt, lowS K w G D.bk, lowS K w G D.ct⟩
structure EndsLe (D E : Ends) : Prop where
  nx : ∀ σ H, D.nx σ H → E.nx σ H
  rt : ∀ v H, D.rt v H → E.rt v H
  bk : ∀ σ H, D.bk σ H → E.bk σ H
  ct : ∀ σ H, D.ct σ H → E.ct σ H
def liftS (K : PySem.W.Frag) (w : World) (t : TS3) : TS := fun D σ H => ∃ σ3 M D3, R3 K w σ3 M σ H ∧ t D3 σ3 M ∧ EndsLe (lowEnds K w H D3) D

abbrev PE3 (X : Cx) (e : Expr) (t : TE3) : Prop := PE X e (liftE X.K X.w t)
abbrev PT3 (X : Cx) (e : Expr) (t : TT3) : Prop := PT X e (liftT X.K X.w t)
abbrev PA3 (X : Cx) (es : List Expr) (t : TA3) : Prop := PA X es (liftA X.K X.w t)
abbrev PS3 (X : Cx) (st : Stmt) (t : TS3) : Prop := PS X st (liftS X.K X.w t)
abbrev PSs3 (X : Cx) (st : List Stmt) (t : TS3) : Prop := PSs X st (liftS X.K X.w t)
theorem PE.imp {X : Cx} {e : Expr} {t u : TE} (h : PE X e t) (i : ∀ σ H Q, u σ H Q → t σ H Q) : PE X e u := ⟨fun pins s σ H Q I q => h.run pins s σ H Q I (i σ H Q q)⟩
theorem PT.imp {X : Cx} {e : Expr} {t u : TT} (h : PT X e t) (i : ∀ σ H Q, u σ H Q → t σ H Q) : PT X e u := ⟨fun pins s σ H Q I q => h.run pins s σ H Q I (i σ H Q q)⟩
theorem PA.imp {X : Cx} {e : List Expr} {t u : TA} (h : PA X e t) (i : ∀ σ H Q, u σ H Q → t σ H Q) : PA X e u := ⟨fun pos pins s σ H Q I q => h.run pos pins s σ H Q I (i σ H Q q)⟩
theorem PS.imp {X : Cx} {e : Stmt} {t u : TS} (h : PS X e t) (i : ∀ D σ H, u D σ H → t D σ H) : PS X e u := ⟨fun pins s σ H D I q => h.run pins s σ H D I (i D σ H q)⟩
theorem PSs.imp {X : Cx} {e : List Stmt} {t u : TS} (h : PSs X e t) (i : ∀ D σ H, u D σ H → t D σ H) : PSs X e u := ⟨fun pins s σ H D I q => h.run pins s σ H D I (i D σ H q)⟩
end L3

set_option Elab.async false
set_option linter.all false
set_option maxRecDepth 100000
set_option maxHeartbeats 4000000
/-! B1: the programs as small trees with slots (IE, IS), and what they ask (WE, WS). -/
namespace L3
open PySem PySem.Spec PyProof.Rows L2

inductive Tg where
  | one (i : Nat) | many (is : List Nat)
inductive BI where
  | len | all | sum | sorted | min | max | abs | int | bool | str | list | tuple | dict | repr | nextIter | items
inductive ME where
  | append | pop | get
mutual
inductive IE where
  | var (i : Nat) | glo (g : Nat) | int (n : Int) | str (x : Str) | bl (b : Bool) | non
  | bin (op : Operator) (a b : IE) | neg (a : IE)
  | cmp (op : CmpOp) (a b : IE) | chn (op op' : CmpOp) (a b c : IE)
  | and2 (a b : IE) | or2 (a b : IE) | not (a : IE) | ite (t a b : IE)
  | sub (a i : IE) | slc (a : IE) (lo hi : IO) | rev (a : IE)
  | tup (es : IEs) | lst (es : IEs) | dct (kvs : IEs)
  | call (f : Nat) (es : IEs) | isi (a : IE) (t : String) | bi (b : BI) (es : IEs) | meth (m : ME) (o : IE) (es : IEs)
  | lc (elt : IE) (tg : Tg) (src : ISrc) (cond : IO) (own : List Nat)
  | dc (k v : IE) (tg : Tg) (src : ISrc) (cond : IO) (own : List Nat)
inductive IEs where
  | nil | cons (e : IE) (es : IEs)
inductive IO where
  | no | yes (e : IE)
inductive ISrc where
  | of (e : IE) | enum (e : IE) | range1 (e : IE) | dvar (i : Nat)
end
mutual
inductive IS where
  | asg (tg : Tg) (e : IE) | put (o i e : IE) | ret (e : IE) | retN | iff (t : IE) (a b : ISs) | loop (tg : Tg) (src : ISrc) (body : ISs) | whl (t : IE) (body : ISs) | exp (e : IE) | brk | cnt | pass | never
inductive ISs where
  | nil | cons (s : IS) (r : ISs)
end

abbrev Sp3 := List D → Hp3 → VK3 → Prop

/-! ### values -/
def truD (M : Hp3) : D → Option Bool
  | .non => some false
  | .bl b => some b
  | .int i => some (i != 0)
  | .str x => if x.length ≤ sizeLine then some ((x.length : Int) != 0) else none
  | .tup ds => some (!ds.isEmpty)
  | .sl _ => none
  | .ref a => match M a with
    | some (.lst ds) => some (!ds.isEmpty)
    | some (.ro ds) => some (!ds.isEmpty)
    | _ => none
mutual
/-- the value as data, lists and dicts read in M -/
inductive DataAt (M : Hp3) : D → PyData → Prop
  | non : DataAt M .non .none
  | bl (b : Bool) : DataAt M (.bl b) (.bool b)
  | int (i : Int) : DataAt M (.int i) (.int i)
  | str (x : Str) : DataAt M (.str x) (.str x)
  | tup {ds : List D} {ps : List PyData} : DataAts M ds ps → DataAt M (.tup ds) (.tuple ps)
  | lst {a : Addr} {ds : List D} {ps : List PyData} : M a = some (.lst ds) → DataAts M ds ps → DataAt M (.ref a) (.list ps)
  | dct {a : Addr} {kvs : List (D × D)} {qs : List (PyData × PyData)} : M a = some (.dct kvs) → DataAts M (kvs.map (·.1)) (qs.map (·.1)) → DataAts M (kvs.map (·.2)) (qs.map (·.2)) → DataAt M (.ref a) (.dict qs)
inductive DataAts (M : Hp3) : List D → List PyData → Prop
  | nil : DataAts M [] []
  | cons {d : D} {p : PyData} {ds : List D} {ps : List PyData} : DataAt M d p → DataAts M ds ps → DataAts M (d :: ds) (p :: ps)
end
/-- == of two values -/
def eqR (M : Hp3) (x y : D) (b : Bool) : Prop := ∃ p q, DataAt M x p ∧ DataAt M y q ∧ SeqAt.shaped p = true ∧ SeqAt.shaped q = true ∧ b = PyData.eqv p q
def lookD (kvs : List (D × D)) (k : NestedKey) : Option D := (kvs.find? fun p => decide (keyOf p.1 = some k)).map (·.2)
def putD (kvs : List (D × D)) (k : NestedKey) (kd vd : D) : List (D × D) := if kvs.any (fun p => decide (keyOf p.1 = some k)) = true then kvs.map (fun p => if keyOf p.1 = some k then (p.1, vd) else p) else kvs ++ [(kd, vd)]
/-- a list that may be read -/
def LstAt (M : Hp3) (a : Addr) (ds : List D) : Prop := M a = some (.lst ds) ∨ M a = some (.ro ds)
def DctAt (M : Hp3) (a : Addr) (kvs : List (D × D)) : Prop := M a = some (.dct kvs) ∨ M a = some (.lck kvs)
/-- is x in y -/
inductive InR (M : Hp3) : D → D → Bool → Prop
  | str (x y : Str) : InR M (.str x) (.str y) (!(Builtin.Str.occurrences y x 0 y.length 1).isEmpty)
  | tup {x : D} {ds : List D} {bs : List Bool} {b : Bool} : Paired (fun d c => eqR M d x c) ds bs → b = bs.any id → InR M x (.tup ds) b
  | lst {x : D} {a : Addr} {ds : List D} {bs : List Bool} {b : Bool} : LstAt M a ds → Paired (fun d c => eqR M d x c) ds bs → b = bs.any id → InR M x (.ref a) b
  | dct {x : D} {a : Addr} {kvs : List (D × D)} {k : NestedKey} {b : Bool} : DctAt M a kvs → keyOf x = some k → b = (lookD kvs k).isSome → InR M x (.ref a) b
def cmpD (op : CmpOp) (x y : D) (M : Hp3) (Q : Bool → Prop) : Prop :=
  match op with
  | .Lt => match x, y with
    | .int i, .int j => Q (decide (i < j))
    | _, _ => False
  | .LtE => match x, y with
    | .int i, .int j => Q (decide (i ≤ j))
    | _, _ => False
  | .Gt => match x, y with
    | .int i, .int j => Q (decide (j < i))
    | _, _ => False
  | .GtE => match x, y with
    | .int i, .int j => Q (decide (j ≤ i))
    | _, _ => False
  | .Eq => ∃ b, eqR M x y b ∧ Q b
  | .NotEq => ∃ b, eqR M x y b ∧ Q (!b)
  | .In => ∃ b, InR M x y b ∧ Q b
  | .NotIn => ∃ b, InR M x y b ∧ Q (!b)
  | .Is => match y with
    | .non => Q (match x with
      | .non => true
      | _ => false)
    | _ => False
  | .IsNot => match y with
    | .non => Q (match x with
      | .non => false
      | _ => true)
    | _ => False
def binD (op : Operator) (x y : D) (M : Hp3) (Q : VK3) : Prop :=
  match op with
  | .Add => match x, y with
    | .int i, .int j => Q (.int (i + j)) M
    | .tup xs, .tup ys => xs ≠ [] ∧ xs.length + ys.length ≤ sizeLine ∧ Q (.tup (xs ++ ys)) M
    | .ref a, .ref b => ∃ xs ys, M a = some (.lst xs) ∧ M b = some (.lst ys) ∧ xs.length + ys.length ≤ sizeLine ∧ ∀ p, M p = none → Q (.ref p) (up3 M p (.lst (xs ++ ys)))
    | _, _ => False
  | .Sub => match x, y with
    | .int i, .int j => Q (.int (i - j)) M
    | _, _ => False
  | .Mult => match x, y with
    | .int i, .int j => i.natAbs.log2 + j.natAbs.log2 < 1000000 ∧ Q (.int (i * j)) M
    | .ref a, .int k => ∃ xs, M a = some (.lst xs) ∧ 0 ≤ k ∧ k < 1000 ∧ xs.length * k.toNat ≤ sizeLine ∧ ∀ p, M p = none → Q (.ref p) (up3 M p (.lst (List.replicate k.toNat xs).flatten))
    | .tup xs, .int k => 2 ≤ k ∧ k ≤ 1000 ∧ xs.length ≤ 1000 ∧ Q (.tup (List.replicate k.toNat xs).flatten) M
    | _, _ => False
  | .FloorDiv => match x, y with
    | .int i, .int j => (0 < j ∧ j.natAbs.log2 < 9000) ∧ Q (.int (i / j)) M
    | _, _ => False
  | .Mod => match x, y with
    | .int i, .int j => 0 < j ∧ Q (.int (i % j)) M
    | _, _ => False
  | .Pow => match x, y with
    | .int i, .int j => 0 ≤ j ∧ (Builtin.Int.intBits i : Int) * j ≤ 2 ^ 27 ∧ Q (.int (i ^ j.toNat)) M
    | _, _ => False
  | _ => False
/-- an item by its place: negative from the end -/
abbrev itemAt {α : Type} (xs : List α) (i : Int) : Option α := atI xs i
def subD (x y : D) (M : Hp3) (Q : VK3) : Prop :=
  match x with
  | .tup ds => match y with
    | .int i => ∃ d, itemAt ds i = some d ∧ Q d M
    | _ => False
  | .str z => match y with
    | .int i => z.length ≤ sizeLine ∧ ∃ c, itemAt z.cps.toList i = some c ∧ Q (.str ⟨#[c]⟩) M
    | _ => False
  | .sl ns => ∃ i n, y = .int i ∧ itemAt ns i = some n ∧ Q (.int n) M
  | .ref a => (∃ ds i d, y = .int i ∧ LstAt M a ds ∧ itemAt ds i = some d ∧ Q d M) ∨ ∃ kvs k d, DctAt M a kvs ∧ keyOf y = some k ∧ lookD kvs k = some d ∧ Q d M
  | _ => False
/-- the class of a value, by its name -/
def tyD (M : Hp3) : D → Option String
  | .non => some "NoneType"
  | .bl _ => some "bool"
  | .int _ => some "int"
  | .str _ => some "str"
  | .tup _ => some "tuple"
  | .sl _ => none
  | .ref a => match M a with
    | some (.lst _) => some "list"
    | some (.ro _) => some "list"
    | some (.dct _) => some "dict"
    | some (.lck _) => some "dict"
    | none => none
def isiD (M : Hp3) (x : D) (t : String) : Option Bool := (tyD M x).bind fun c => kitB c t
end L3

set_option Elab.async false
set_option linter.all false
set_option maxRecDepth 100000
set_option maxHeartbeats 4000000
/-! B2: what built-in functions and methods ask; the readings of expressions and statements. -/
namespace L3
open PySem PySem.Spec PyProof.Rows L2

def lenD (M : Hp3) : D → Option Nat
  | .str x => if x.length ≤ sizeLine then some x.length else none
  | .tup ds => some ds.length
  | .sl ns => some ns.length
  | .ref a => match M a with
    | some (.lst ds) => some ds.length
    | some (.ro ds) => some ds.length
    | some (.dct kvs) => some kvs.length
    | some (.lck kvs) => some kvs.length
    | none => none
  | _ => none
/-- the pairs put one after another -/
def putsD : List (D × D) → List (D × D) → List (D × D)
  | acc, [] => acc
  | acc, (k, v) :: r => match keyOf k with
    | some n => putsD (putD acc n k v) r
    | none => putsD acc r
/-- a shape of tuples that can be sorted: texts and ints by place -/
def shapeD (sh : List Bool) (d : D) : Prop := ∃ ds, d = .tup ds ∧ Paired (fun x b => if b = true then ∃ z, x = D.str z else ∃ i, x = D.int i) ds sh
def biD (b : BI) (xs : List D) (M : Hp3) (Q : VK3) : Prop :=
  match b with
  | .len => ∃ x n, xs = [x] ∧ lenD M x = some n ∧ Q (.int n) M
  | .all => ∃ (a : Addr) (bs : List Bool), xs = [.ref a] ∧ LstAt M a (bs.map D.bl) ∧ Q (.bl (bs.all id)) M
  | .sum => ∃ (a : Addr) (ns : List Int), xs = [.ref a] ∧ LstAt M a (ns.map D.int) ∧ Q (.int ns.sum) M
  | .sorted => ∃ (a : Addr) (ds : List D), xs = [.ref a] ∧ LstAt M a ds ∧ ds.length < 64 ∧ ((∀ d ∈ ds, ∃ z, d = .str z) ∨ ∃ sh, sh ≠ [] ∧ ∀ d ∈ ds, shapeD sh d) ∧ ∀ (es : List D) (p : Addr), es.Perm ds → M p = none → Q (.ref p) (up3 M p (.lst es))
  | .min => ∃ i j, xs = [.int i, .int j] ∧ Q (.int (if j < i then j else i)) M
  | .max => ∃ i j, xs = [.int i, .int j] ∧ Q (.int (if j > i then j else i)) M
  | .abs => ∃ i, xs = [.int i] ∧ Q (.int (if i < 0 then -i else i)) M
  | .int => (∃ i, xs = [.int i] ∧ Q (.int i) M) ∨ ∃ k, xs = [.bl k] ∧ Q (.int (if k then 1 else 0)) M
  | .bool => ∃ i, xs = [.int i] ∧ Q (.bl (i != 0)) M
  | .str => ∃ i, xs = [.int i] ∧ i.natAbs.log2 < 1920 ∧ Q (.str (toString i)) M
  | .list => ∃ (x : D) (ds : List D), xs = [x] ∧ ((∃ a, x = .ref a ∧ LstAt M a ds) ∨ x = .tup ds) ∧ ∀ p, M p = none → Q (.ref p) (up3 M p (.lst ds))
  | .tuple => ∃ (x : D) (ds : List D), xs = [x] ∧ ((∃ a, x = .ref a ∧ LstAt M a ds) ∨ x = .tup ds) ∧ Q (.tup ds) M
  | .dict => ∃ (a : Addr) (kvs : List (D × D)), xs = [.ref a] ∧ LstAt M a (kvs.map fun p => D.tup [p.1, p.2]) ∧ (∀ p ∈ kvs, (keyOf p.1).isSome = true) ∧ ∀ p, M p = none → Q (.ref p) (up3 M p (.dct (putsD [] kvs)))
  | .repr => ∃ (x : D) (p : PyData), xs = [x] ∧ DataAt M x p ∧ p.showable = true ∧ p.shown.length ≤ sizeLine ∧ p.depth ≤ 100 ∧ Q (.str p.shown) M
  | .nextIter => ∃ (a : Addr) (kvs : List (D × D)), xs = [.ref a] ∧ DctAt M a kvs ∧ Q ((kvs.head?.map (·.1)).getD .non) M
  | .items => ∃ (a : Addr) (kvs : List (D × D)), xs = [.ref a] ∧ DctAt M a kvs ∧ ∀ p, M p = none → Q (.ref p) (up3 M p (.lst (kvs.map fun q => .tup [q.1, q.2])))
def meD (m : ME) (x : D) (xs : List D) (M : Hp3) (Q : VK3) : Prop :=
  match m with
  | .append => ∃ (a : Addr) (ds : List D) (y : D), x = .ref a ∧ xs = [y] ∧ M a = some (.lst ds) ∧ ds.length < sizeLine ∧ Q .non (up3 M a (.lst (ds ++ [y])))
  | .pop => ∃ (a : Addr) (ds : List D) (i : Int) (d : D), x = .ref a ∧ xs = [.int i] ∧ M a = some (.lst ds) ∧ 0 ≤ i ∧ ds[i.toNat]? = some d ∧ Q d (up3 M a (.lst (ds.eraseIdx i.toNat)))
  | .get => ∃ (a : Addr) (kvs : List (D × D)) (y d : D) (k : NestedKey), x = .ref a ∧ xs = [y, d] ∧ DctAt M a kvs ∧ keyOf y = some k ∧ Q ((lookD kvs k).getD d) M
/-- what kind of thing a method is called of -/
def meTy (m : ME) (x : D) (M : Hp3) : Prop := match m with
  | .get => ∃ a kvs, x = .ref a ∧ DctAt M a kvs
  | _ => ∃ a ds, x = .ref a ∧ M a = some (.lst ds)
def dctD (ps : List (D × D)) (M : Hp3) (Q : VK3) : Prop := (∀ p ∈ ps, (keyOf p.1).isSome = true) ∧ ps.length ≤ 15 ∧ ∀ p, M p = none → Q (.ref p) (up3 M p (.dct (putsD [] ps)))
/-- x[y] = d -/
def putW (x y d : D) (M : Hp3) (Q : Hp3 → Prop) : Prop := (∃ a kvs k, x = .ref a ∧ M a = some (.dct kvs) ∧ keyOf y = some k ∧ kvs.length < sizeLine ∧ Q (up3 M a (.dct (putD kvs k y d)))) ∨
  ∃ a ds i j, x = .ref a ∧ y = .int i ∧ M a = some (.lst ds) ∧ ixN ds.length i = some j ∧ Q (up3 M a (.lst (ds.set j d)))
/-- a part of a sequence -/
def partD {α : Type} (xs : List α) (lo hi : Option Int) : List α := (xs.drop (HT.sIx xs.length 0 lo)).take (HT.sIx xs.length xs.length hi - HT.sIx xs.length 0 lo)
def slcD (x : D) (lo hi : Option Int) (M : Hp3) (Q : VK3) : Prop :=
  match x with
  | .tup ds => ¬ (HT.sIx ds.length 0 lo = 0 ∧ HT.sIx ds.length ds.length hi = ds.length) ∧ Q (.tup (partD ds lo hi)) M
  | .str z => z.length ≤ sizeLine ∧ Q (.str (cutS z lo hi)) M
  | .ref a => ∃ ds, M a = some (.lst ds) ∧ ∀ p, M p = none → Q (.ref p) (up3 M p (.lst (partD ds lo hi)))
  | _ => False

/-! ### what is walked -/
inductive Src where
  | tup (ds : List D) | lst (a : Addr) (ds : List D) | ro (a : Addr) (ds : List D) | lck (a : Addr) (kvs : List (D × D)) | rng (n : Nat) | str (x : Str) | enT (ds : List D) | enL (a : Addr) (ds : List D)
def Src.holds : Src → Hp3 → Prop
  | .lst a ds, M => M a = some (.lst ds)
  | .ro a ds, M => M a = some (.ro ds)
  | .lck a kvs, M => M a = some (.lck kvs)
  | .enL a ds, M => M a = some (.lst ds)
  | _, _ => True
def enumD : Nat → List D → List D
  | _, [] => []
  | n, d :: r => .tup [.int n, d] :: enumD (n + 1) r
def Src.items : Src → List D
  | .tup ds => ds
  | .lst _ ds => ds
  | .ro _ ds => ds
  | .lck _ kvs => kvs.map (·.1)
  | .rng n => (List.range n).map fun (i : Nat) => D.int (i : Int)
  | .str x => x.cps.toList.map fun c => D.str ⟨#[c]⟩
  | .enT ds => enumD 0 ds
  | .enL _ ds => enumD 0 ds
def setAll : List Nat → List D → St3 → Option St3
  | [], [], σ => some σ
  | i :: is, d :: ds, σ => setAll is ds (σ.set i (some d))
  | _, _, _ => none
/-- a target takes a value -/
def asgT : Tg → D → St3 → Option St3
  | .one i, d, σ => some (σ.set i (some d))
  | .many is, .tup ds, σ => setAll is ds σ
  | .many _, _, _ => none
def loopW (hold : Hp3 → Prop) (tg : Tg) (body : TS3) : List D → TS3
  | [], D, σ, M => hold M ∧ D.nx σ M
  | x :: r, D, σ, M => hold M ∧ ∃ σ1, asgT tg x σ = some σ1 ∧ body ⟨loopW hold tg body r D, D.rt, D.nx, loopW hold tg body r D⟩ σ1 M
def wipe3 (σ : St3) : List Nat → St3
  | [] => σ
  | v :: vs => (wipe3 σ vs).set v none
def lcW (hold : Hp3 → Prop) (tg : Tg) (tst : TT3) (elt : TE3) (σ : St3) (p : Addr) : List D → Hp3 → VK3 → Prop
  | [], M, Q => hold M ∧ Q (.ref p) M
  | x :: r, M, Q => hold M ∧ ∃ σ1, asgT tg x σ = some σ1 ∧ tst σ1 M fun b M1 =>
    if b = true then elt σ1 M1 fun y M2 => ∃ acc, M2 p = some (.lst acc) ∧ acc.length < sizeLine ∧ lcW hold tg tst elt σ p r (up3 M2 p (.lst (acc ++ [y]))) Q else lcW hold tg tst elt σ p r M1 Q
def dcW (hold : Hp3 → Prop) (tg : Tg) (tst : TT3) (kx vx : TE3) (σ : St3) (p : Addr) : List D → Hp3 → VK3 → Prop
  | [], M, Q => hold M ∧ Q (.ref p) M
  | x :: r, M, Q => hold M ∧ ∃ σ1, asgT tg x σ = some σ1 ∧ tst σ1 M fun b M1 =>
    if b = true then kx σ1 M1 fun y M2 => vx σ1 M2 fun z M3 => ∃ acc k, M3 p = some (.dct acc) ∧ keyOf y = some k ∧ acc.length < sizeLine ∧ dcW hold tg tst kx vx σ p r (up3 M3 p (.dct (putD acc k y z))) Q
    else dcW hold tg tst kx vx σ p r M1 Q
def whlW (tst : TT3) (body : TS3) : Nat → TS3
  | 0 => fun _ _ _ => False
  | n + 1 => fun D σ M => tst σ M fun b M1 => if b = true then body ⟨whlW tst body n D, D.rt, D.nx, whlW tst body n D⟩ σ M1 else D.nx σ M1
/-- what follows where the dict at a was locked meanwhile -/
def unlockV (a : Addr) (kvs : List (D × D)) (Q : VK3) : VK3 := fun d M => M a = some (.lck kvs) ∧ Q d (up3 M a (.dct kvs))
def unlockS (a : Addr) (kvs : List (D × D)) (q : St3 → Hp3 → Prop) : St3 → Hp3 → Prop := fun σ M => M a = some (.lck kvs) ∧ q σ (up3 M a (.dct kvs))
def unlockE (a : Addr) (kvs : List (D × D)) (D : Ends3) : Ends3 := ⟨unlockS a kvs D.nx, unlockV a kvs D.rt, unlockS a kvs D.bk, unlockS a kvs D.ct⟩
abbrev TI3 := St3 → Hp3 → (Src → Hp3 → Prop) → Prop

/-- a value's reading, and that of its truth -/
def mkT (t : TE3) : TE3 × TT3 := (t, fun σ M Q => t σ M fun x M1 => ∃ r, truD M1 x = some r ∧ Q r M1)
section
variable (C : Nat → D) (Γ : Nat → Sp3)
mutual
def WX : IE → TE3 × TT3
  | .var i => mkT (fun σ M Q => ∃ d, σ[i]? = some (some d) ∧ Q d M)
  | .glo g => mkT (fun _ M Q => Q (C g) M)
  | .int n => mkT (fun _ M Q => Q (.int n) M)
  | .str x => mkT (fun _ M Q => Q (.str x) M)
  | .bl b => mkT (fun _ M Q => Q (.bl b) M)
  | .non => mkT (fun _ M Q => Q .non M)
  | .bin op a b => mkT (fun σ M Q => (WX a).1 σ M fun x M1 => (WX b).1 σ M1 fun y M2 => binD op x y M2 Q)
  | .neg a => mkT (fun σ M Q => (WX a).1 σ M fun x M1 => ∃ i, x = .int i ∧ Q (.int (-i)) M1)
  | .cmp op a b => mkT (fun σ M Q => (WX a).1 σ M fun x M1 => (WX b).1 σ M1 fun y M2 => cmpD op x y M2 fun r => Q (.bl r) M2)
  | .chn op op' a b c => mkT (fun σ M Q => (WX a).1 σ M fun x M1 => (WX b).1 σ M1 fun y M2 => cmpD op x y M2 fun r => if r = true then (WX c).1 σ M2 fun z M3 => cmpD op' y z M3 fun r' => Q (.bl r') M3 else Q (.bl false) M2)
  | .and2 a b => (fun σ M Q => (WX a).1 σ M fun x M1 => ∃ r, truD M1 x = some r ∧ if r = true then (WX b).1 σ M1 Q else Q x M1, fun σ M Q => (WX a).2 σ M fun r M1 => if r = true then (WX b).2 σ M1 Q else Q false M1)
  | .or2 a b => (fun σ M Q => (WX a).1 σ M fun x M1 => ∃ r, truD M1 x = some r ∧ if r = true then Q x M1 else (WX b).1 σ M1 Q, fun σ M Q => (WX a).2 σ M fun r M1 => if r = true then Q true M1 else (WX b).2 σ M1 Q)
  | .not a => (fun σ M Q => (WX a).1 σ M fun x M1 => ∃ r, truD M1 x = some r ∧ Q (.bl (!r)) M1, fun σ M Q => (WX a).2 σ M fun r M1 => Q (!r) M1)
  | .ite t a b => mkT (fun σ M Q => (WX t).2 σ M fun r M1 => if r = true then (WX a).1 σ M1 Q else (WX b).1 σ M1 Q)
  | .sub a i => mkT (fun σ M Q => (WX a).1 σ M fun x M1 => (WX i).1 σ M1 fun y M2 => subD x y M2 Q)
  | .slc a lo hi => mkT (fun σ M Q => (WX a).1 σ M fun x M1 => WO lo σ M1 fun l M2 => WO hi σ M2 fun h M3 => slcD x l h M3 Q)
  | .rev a => mkT (fun σ M Q => (WX a).1 σ M fun x M1 => ∃ q ds, x = .ref q ∧ M1 q = some (.lst ds) ∧ ∀ p, M1 p = none → Q (.ref p) (up3 M1 p (.lst ds.reverse)))
  | .tup es => mkT (fun σ M Q => WA es σ M fun ds M1 => ds.length ≤ sizeLine ∧ Q (.tup ds) M1)
  | .lst es => mkT (fun σ M Q => WA es σ M fun ds M1 => ds.length ≤ sizeLine ∧ ∀ p, M1 p = none → Q (.ref p) (up3 M1 p (.lst ds)))
  | .dct kvs => mkT (fun σ M Q => WP kvs σ M fun ps M1 => dctD ps M1 Q)
  | .call f es => mkT (fun σ M Q => WA es σ M fun ds M1 => Γ f ds M1 Q)
  | .isi a t => mkT (fun σ M Q => (WX a).1 σ M fun x M1 => ∃ b, isiD M1 x t = some b ∧ Q (.bl b) M1)
  | .bi b es => mkT (fun σ M Q => WA es σ M fun ds M1 => biD b ds M1 Q)
  | .meth m o es => mkT (fun σ M Q => (WX o).1 σ M fun x M1 => meTy m x M1 ∧ WA es σ M1 fun ds M2 => meD m x ds M2 Q)
  | .lc elt tg (.dvar i) cond own => mkT (fun σ M Q => ∃ a kvs, σ[i]? = some (some (.ref a)) ∧
      ((M a = some (.dct kvs) ∧ ∀ p, M p = none → lcW (Src.holds (.lck a kvs)) tg (WC cond) (WX elt).1 (wipe3 σ own) p (kvs.map (·.1)) (up3 (up3 M a (.lck kvs)) p (.lst [])) (unlockV a kvs Q)) ∨
      (M a = some (.lck kvs) ∧ ∀ p, M p = none → lcW (Src.holds (.lck a kvs)) tg (WC cond) (WX elt).1 (wipe3 σ own) p (kvs.map (·.1)) (up3 M p (.lst [])) Q)))
  | .lc elt tg src cond own => mkT (fun σ M Q => WI src σ M fun s M1 => ∀ p, M1 p = none → lcW s.holds tg (WC cond) (WX elt).1 (wipe3 σ own) p s.items (up3 M1 p (.lst [])) Q)
  | .dc k v tg src cond own => mkT (fun σ M Q => WI src σ M fun s M1 => ∀ p, M1 p = none → dcW s.holds tg (WC cond) (WX k).1 (WX v).1 (wipe3 σ own) p s.items (up3 M1 p (.dct [])) Q)
def WA : IEs → TA3
  | .nil => fun _ M Q => Q [] M
  | .cons e es => fun σ M Q => (WX e).1 σ M fun d M1 => WA es σ M1 fun ds M2 => Q (d :: ds) M2
def WP : IEs → St3 → Hp3 → (List (D × D) → Hp3 → Prop) → Prop
  | .cons k (.cons v r) => fun σ M Q => (WX k).1 σ M fun x M1 => (WX v).1 σ M1 fun y M2 => WP r σ M2 fun ps M3 => Q ((x, y) :: ps) M3
  | _ => fun _ M Q => Q [] M
def WO : IO → St3 → Hp3 → (Option Int → Hp3 → Prop) → Prop
  | .no => fun _ M Q => Q none M
  | .yes e => fun σ M Q => (WX e).1 σ M fun x M1 => ∃ i, x = .int i ∧ Q (some i) M1
def WC : IO → TT3
  | .no => fun _ M Q => Q true M
  | .yes e => (WX e).2
def WI : ISrc → TI3
  | .of e => fun σ M R => (WX e).1 σ M fun x M1 => match x with
    | .tup ds => R (.tup ds) M1
    | .str z => R (.str z) M1
    | .ref a => (∃ ds, M1 a = some (.lst ds) ∧ R (.lst a ds) M1) ∨ ∃ ds, M1 a = some (.ro ds) ∧ R (.ro a ds) M1
    | _ => False
  | .enum e => fun σ M R => (WX e).1 σ M fun x M1 => match x with
    | .tup ds => R (.enT ds) M1
    | .ref a => ∃ ds, M1 a = some (.lst ds) ∧ R (.enL a ds) M1
    | _ => False
  | .range1 e => fun σ M R => (WX e).1 σ M fun x M1 => ∃ j, x = .int j ∧ -(2 ^ 62) ≤ j ∧ j < 2 ^ 62 ∧ R (.rng j.toNat) M1
  | .dvar _ => fun _ _ _ => False
end
abbrev WE (e : IE) : TE3 := (WX C Γ e).1
abbrev WT (e : IE) : TT3 := (WX C Γ e).2
mutual
def WS : IS → TS3
  | .asg tg e => fun D σ M => WE C Γ e σ M fun d M1 => ∃ σ1, asgT tg d σ = some σ1 ∧ D.nx σ1 M1
  | .put o i e => fun D σ M => WE C Γ e σ M fun d M1 => WE C Γ o σ M1 fun x M2 => WE C Γ i σ M2 fun y M3 => putW x y d M3 (D.nx σ)
  | .ret e => fun D σ M => WE C Γ e σ M D.rt
  | .retN => fun D _ M => D.rt .non M
  | .iff t a b => fun D σ M => WT C Γ t σ M fun r M1 => if r = true then WSs a D σ M1 else WSs b D σ M1
  | .loop tg (.dvar i) body => fun D σ M => ∃ a kvs, σ[i]? = some (some (.ref a)) ∧
      ((M a = some (.dct kvs) ∧ loopW (Src.holds (.lck a kvs)) tg (WSs body) (kvs.map (·.1)) (unlockE a kvs D) σ (up3 M a (.lck kvs))) ∨
      (M a = some (.lck kvs) ∧ loopW (Src.holds (.lck a kvs)) tg (WSs body) (kvs.map (·.1)) D σ M))
  | .loop tg src body => fun D σ M => WI C Γ src σ M fun s M1 => loopW s.holds tg (WSs body) s.items D σ M1
  | .whl t body => fun D σ M => ∃ n, whlW (WT C Γ t) (WSs body) n D σ M
  | .exp e => fun D σ M => WE C Γ e σ M fun _ M1 => D.nx σ M1
  | .brk => fun D σ M => D.bk σ M
  | .cnt => fun D σ M => D.ct σ M
  | .pass => fun D σ M => D.nx σ M
  | .never => fun _ _ _ => False
def WSs : ISs → TS3
  | .nil => fun D σ M => D.nx σ M
  | .cons s r => fun D σ M => WS s { D with nx := WSs r D } σ M
end
end
end L3

set_option Elab.async false
set_option linter.all false
set_option maxRecDepth 100000
set_option maxHeartbeats 4000000
/-! C1: what a def promises where no container is being shown (FnG); the context of a body (Good); the first readings are right. -/
namespace L3
open PySem PySem.Spec PyProof.Rows L2

/-- a def's promise, called where no repr is under way -/
structure FnG (P : Program) (w : World) (K : PySem.W.Frag) (mg : Str → Option Value) (base : Heap) (k : Nat) (f : Addr) (fd : FuncData) (ps : List Str) (sp : Sp) : Prop where
  len : ∀ vs H Q E, sp vs H Q E → vs.length = ps.length
  run : ∀ (A : Around) (outer : List Env) (s : Shared) (H : Hp) (args : Args) (us : List Value) (vs : List V) (Q : VK) (E : XK), Room k A → A.guards = some [] → Env0 P w K mg base A outer s H → BindsTo s fd args (ps.zip us) → Vals vs us → sp vs H Q E →
    codeAny (model P w) A (.call (.ref f) args) (CR CX0 outer P w H s Q E) s
theorem FnG.mono {P : Program} {w : World} {K : PySem.W.Frag} {mg : Str → Option Value} {base : Heap} {j k : Nat} {f : Addr} {fd : FuncData} {ps : List Str} {sp : Sp} (F : FnG P w K mg base j f fd ps sp) (h : j ≤ k) : FnG P w K mg base k f fd ps sp :=
  ⟨F.len, fun A outer s H args us vs Q E hr => F.run A outer s H args us vs Q E (hr.mono h)⟩
/-- a promise over data, over the hand layer -/
def lowSp (K : PySem.W.Frag) (w : World) (n : Nat) (sp : Sp3) : Sp := fun vs H Q _ => vs.length = n ∧ ∃ ds M Q3, Dens K H ds vs ∧ Rep K w H M ∧ sp ds M Q3 ∧ ∀ d M' v H', Ext H H' → Rep K w H' M' → Den K H' d v → Q3 d M' → Q v H'

section
variable {X : Cx} {k : Nat} {f : Addr} {fd : FuncData} {ps : List Str} {sp : Sp} {E : XK} {x : Str} {p pos : Pos} {e : Expr} {es : List Expr} {t : TA}
theorem run_g {pins : List (Addr × Obj)} {σ : L2.St} {H : Hp} {s : Shared} {Q : VK} {us : List Value} {vs : List V} (F : FnG X.prog X.w X.K X.mg X.base k f fd ps sp) (hr : Room k X.A) (hg : X.A.guards = some []) (hb : Binds X.K fd ps [])
    (I : Inv X pins σ H s) (r : Vals vs us) (h : sp vs H Q E) : wpAny (model X.prog X.w) X.A (call (.ref f) us) (EP X pins σ Q) X.xe s := by
  have hl : us.length = ps.length := r.length.symm.trans (F.len _ _ _ _ h)
  have b := hb s us I.kIn (by rw [List.append_nil]; exact hl)
  rw [List.append_nil] at b
  refine wpAny_call (codeAny_mono (F.run X.A X.stack s H ⟨us, []⟩ us vs Q E hr hg I.env0 b r h) fun z s' hq => ?_)
  cases z with
  | error e => exact False.elim hq
  | ok fl =>
    cases fl with
    | ret u => exact I.after hq
    | next => exact False.elim hq
    | brk => exact False.elim hq
    | cont => exact False.elim hq
theorem pe_callG (F : FnG X.prog X.w X.K X.mg X.base k f fd ps sp) (hr : Room k X.A) (hG : X.A.guards = some []) (hg : Gl X x) (hm : X.mg x = some (.ref f)) (hk : PySem.W.keepIn X.K (.ref f) = true) (hb : Binds X.K fd ps [])
    (ha : PA X (e :: es) t) (hdb : (x == ("__debug__" : Str)) = false) (he : starEach (e :: es) X.env = (false, eval e X.env) :: starEach es X.env) (hpl : (backTo pos (starEach es X.env)).any (·.1) = false) :
    PE X (.Call (.Name x p) (e :: es) [] pos) (fun σ H Q => t σ H fun vs H1 => sp vs H1 Q E) := by
  refine ⟨fun pins s σ H Q I h => ?_⟩
  refine wpAny_Call_Name_kw (ld_glob I hg hm ?_ hdb)
  refine PySem.W.callWith_K (h₀ := X.base) I.ok.mod.kin hk (thn (ha.run pos pins s σ H _ I h) fun us s1 ⟨vs, H1, I1, r, q⟩ => ⟨I1.kIn, ?_⟩) he hpl
  exact run_g F hr hG hb I1 r q
end

/-- a def of the text, by its body -/
theorem fn_g {P : Program} {w : World} {K : PySem.W.Frag} {mg : Str → Option Value} {base : Heap} {k : Nat} {f : Addr} {name qual : Str} {params : Arguments} {body : List Stmt} {scope : Scope} {dV kV doc pm cdv ct oc : Value} {an od : Option Addr}
    {osl : Array (Option Value)} {N ps : List Str} {sp : Sp} (lk : K.lookup f = some ⟨oc, od, .func (PySem.W.fnOf name qual params body scope dV kV doc pm an cdv ct), osl⟩) (hcd : PySem.W.codeIn K cdv qual = true) (S : FnScope N ps scope)
    (len : ∀ vs H Q E, sp vs H Q E → vs.length = ps.length)
    (hbody : ∀ (A : Around) (outer : List Env) (s : Shared) (H : Hp) (vs : List V) (Q : VK) (E : XK), Room k (A.deeper (envOfC qual scope s.heap.objs.size f cdv)) → A.guards = some [] → sp vs H Q E →
      ∃ t, PSs (cxOf CX0 P w K mg base N qual scope f cdv A outer s H E) body t ∧ t { nx := fun _ H' => Q .non H', rt := Q } (start N vs) H) :
    FnG P w K mg base (k + 1) f (PySem.W.fnOf name qual params body scope dV kV doc pm an cdv ct) ps sp := by
  refine ⟨len, fun A outer s H args us vs Q E hr hg e0 hb r hsp => ?_⟩
  have hl := len _ _ _ _ hsp
  have KX : K.In s.heap := e0.mod.kin.keeps fun b o e => (e0.bs b o e).1
  have lim : s.heap.NoLimit := e0.mod.nolimit.keeps fun b o e => (e0.bs b o e).1
  have hkind : ∀ y ∈ ps.zip us, scope.names.lookup y.1 = some .local ∨ (scope.names.lookup y.1 = some .cell ∧ ((cellsFrom (s.heap.objs.size + 1) scope.names []).lookup y.1).isSome = true) := by
    rintro ⟨n, v⟩ hy
    cases S.par n (List.of_mem_zip hy).1 with
    | inl q => exact .inl q
    | inr q => exact .inr ⟨q, PySem.W.cellsFrom_some _ _ _ (.inl q)⟩
  refine codeAny_call_function hr.depth (KX _ _ lk) rfl S.co S.gen rfl (PySem.W.codeRec_of KX hcd) (hb _ _ _ _ ?_)
  refine wpAny_newFunctionEnv_cells S.kind hkind fun env he s1 x => ?_
  subst he
  refine ⟨lim.keeps x.toInCall.keep, codeAny_func ?_⟩
  obtain ⟨t, ht, hq⟩ := hbody A outer s H vs Q E (hr.deeper _) hg hsp
  have I := inv_start (CX := CX0) (E := E) (f := f) (cd := cdv) (qual := qual) S hr.hd e0 hl r x
  refine wpAny_mono (ht.run [] s1 (start N vs) H _ I hq) (fun fl s' hs => ?_) fun e s' hs => hs
  cases fl with
  | ret u =>
    obtain ⟨v, σ', H', J, rv, q⟩ := hs
    exact ⟨v, H', J.os, J.bare, J.base, J.hok, rv, q⟩
  | next =>
    obtain ⟨σ', H', J, q⟩ := hs
    exact ⟨V.non, H', J.os, J.bare, J.base, J.hok, rfl, q⟩
  | brk =>
    obtain ⟨_, _, _, q⟩ := hs
    exact q.elim
  | cont =>
    obtain ⟨_, _, _, q⟩ := hs
    exact q.elim

/-! ### the context of a body -/
inductive GK where
  | fn (i : Nat) | con (i : Nat) | blt
abbrev GEnv := List (Str × GK)
/-- a def that a body may call -/
def CalG (P : Program) (w : World) (K : PySem.W.Frag) (mg : Str → Option Value) (base : Heap) (k : Nat) (x : Str) (sp : Sp3) : Prop :=
  ∃ (f : Addr) (fd : FuncData) (ps : List Str), mg x = some (.ref f) ∧ PySem.W.keepIn K (.ref f) = true ∧ Binds K fd ps [] ∧ (∀ ds M Q, sp ds M Q → ds.length = ps.length) ∧ FnG P w K mg base k f fd ps (lowSp K w ps.length sp)
def ConG (K : PySem.W.Frag) (mg : Str → Option Value) (x : Str) (d : D) : Prop := ∃ v u, mg x = some u ∧ RelV v u ∧ ∀ H, Den K H d v
structure Good (G : GEnv) (C : Nat → D) (Γ : Nat → Sp3) (N : List Str) (k : Nat) (X : Cx) (sc : Scope) : Prop where
  hN : X.N = N
  nd : N.Nodup
  hs : X.env.scope = sc
  calm : X.calm = true
  room : Room k X.A
  guards : X.A.guards = some []
  sys : ∃ o, X.base.get? sysModules = some o ∧ o.cls = .type "dict"
  fn : ∀ x i, G.lookup x = some (.fn i) → CalG X.prog X.w X.K X.mg X.base k x (Γ i)
  con : ∀ x i, G.lookup x = some (.con i) → ConG X.K X.mg x (C i)
  blt : ∀ x, G.lookup x = some .blt → X.mg x = none
  pas : PassesOwn (model X.prog X.w) X.A X.env X.xe

/-! ### names -/
def visB (sc : Scope) (x : Str) : Bool := match sc.names.lookup x with
  | some .local => true
  | some .cell => true
  | some .free => true
  | _ => false
theorem visB_ok {sc : Scope} {x : Str} (h : visB sc x = true) : Vis sc x := by
  unfold visB at h
  unfold Vis
  cases e : sc.names.lookup x with
  | none => rw [e] at h; cases h
  | some k =>
    rw [e] at h
    cases k with
    | «local» => exact .inl rfl
    | cell => exact .inr (.inl rfl)
    | free => exact .inr (.inr rfl)
    | globalExplicit => cases h
    | globalImplicit => cases h
def gloB (sc : Scope) (x : Str) : Bool := match sc.names.lookup x with
  | some .globalImplicit => true
  | _ => false
theorem gloB_ok {sc : Scope} {x : Str} (h : gloB sc x = true) : sc.names.lookup x = some .globalImplicit := by
  unfold gloB at h
  cases e : sc.names.lookup x with
  | none => rw [e] at h; cases h
  | some k =>
    rw [e] at h
    cases k with
    | globalImplicit => rfl
    | _ => cases h
def nameOk (x : Str) : Bool := !(x == ("__debug__" : Str)) && !(x == ("__classdict__" : Str)) && !(x == ("__name__" : Str))
theorem nameOk_d {x : Str} (h : nameOk x = true) : (x == ("__debug__" : Str)) = false := by
  unfold nameOk at h
  simp only [Bool.and_eq_true, Bool.not_eq_true'] at h
  exact h.1.1
theorem nameOk_c {x : Str} (h : nameOk x = true) : (x == ("__classdict__" : Str)) = false := by
  unfold nameOk at h
  simp only [Bool.and_eq_true, Bool.not_eq_true'] at h
  exact h.1.2
theorem nameOk_n {x : Str} (h : nameOk x = true) : x ≠ ("__name__" : Str) := by
  unfold nameOk at h
  simp only [Bool.and_eq_true, Bool.not_eq_true', beq_eq_false_iff_ne] at h
  exact h.2
section
variable {G : GEnv} {C : Nat → D} {Γ : Nat → Sp3} {N : List Str} {k : Nat} {X : Cx} {sc : Scope}
theorem s_var (g : Good G C Γ N k X sc) {i : Nat} {x : Str} {pos : Pos} (hi : N[i]? = some x) (hv : visB sc x = true) (hn : nameOk x = true) : PE3 X (.Name x pos) (WE C Γ (.var i)) := by
  refine PE.imp (pe_var (i := i) (by rw [g.hN]; exact hi) (by rw [g.hs]; exact visB_ok hv) (nameOk_d hn) (nameOk_c hn)) fun σ H Q h => ?_
  obtain ⟨σ3, M, Q3, r, ⟨d, e, q⟩, fin⟩ := h
  obtain ⟨v, e', den⟩ := r.st.get e
  exact ⟨v, e', fin d M v H (Ext.refl H) r.rep den q⟩
theorem s_glo (g : Good G C Γ N k X sc) {i : Nat} {x : Str} {pos : Pos} (hi : G.lookup x = some (.con i)) (hv : gloB sc x = true) (hn : nameOk x = true) : PE3 X (.Name x pos) (WE C Γ (.glo i)) := by
  obtain ⟨v, u, hm, rv, den⟩ := g.con x i hi
  refine PE.imp (pe_glob (v := v) (by show X.env.scope.names.lookup x = _; rw [g.hs]; exact gloB_ok hv) hm rv (nameOk_d hn)) fun σ H Q h => ?_
  obtain ⟨σ3, M, Q3, r, q, fin⟩ := h
  exact fin _ M v H (Ext.refl H) r.rep (den H) q
/-- a constant -/
theorem s_con {e : Expr} {d : D} {v : V} (h : PE X e (tC v)) (den : ∀ H, Den X.K H d v) : PE3 X e fun _ M Q => Q d M := PE.imp h fun σ H Q h => by
  obtain ⟨σ3, M, Q3, r, q, fin⟩ := h
  exact fin _ M v H (Ext.refl H) r.rep (den H) q
/-- from one reading to the next: what stands in the slots stays -/
theorem liftE.then {K : PySem.W.Frag} {w : World} {a b : TE3} {r : D → D → Hp3 → VK3 → Prop} {Q : VK} {R : V → V → Hp → Prop} {σ : L2.St} {H : Hp} (h : liftE K w (fun σ M Q => a σ M fun x M1 => b σ M1 fun y M2 => r x y M2 Q) σ H Q)
    (f : ∀ x y M2 v u H2 Q3, Rep K w H2 M2 → Den K H2 x v → Den K H2 y u → r x y M2 Q3 → (∀ d M' v' H', Ext H2 H' → Rep K w H' M' → Den K H' d v' → Q3 d M' → Q v' H') → R v u H2) : liftE K w a σ H fun v H1 => liftE K w b σ H1 fun u H2 => R v u H2 := by
  obtain ⟨σ3, M, Q3, r3, q, fin⟩ := h
  refine ⟨σ3, M, _, r3, q, fun x M1 v H1 x1 p1 d1 q1 => ⟨σ3, M1, _, r3.ext x1 p1, q1, fun y M2 u H2 x2 p2 d2 q2 => ?_⟩⟩
  exact f x y M2 v u H2 Q3 p2 (d1.ext x2) d2 q2 fun d M' v' H' x3 p3 d3 q3 => fin d M' v' H' (x1.trans (x2.trans x3)) p3 d3 q3
end
end L3

set_option Elab.async false
set_option linter.all false
set_option maxRecDepth 100000
set_option maxHeartbeats 4000000
/-! C2: operators. -/
namespace L3
open PySem PySem.Spec PyProof.Rows L2

theorem Den.int_inv {K : PySem.W.Frag} {H : Hp} {i : Int} {v : V} (h : Den K H (.int i) v) : v = .int i := by cases h; rfl
theorem Den.str_inv {K : PySem.W.Frag} {H : Hp} {x : Str} {v : V} (h : Den K H (.str x) v) : v = .str x := by cases h; rfl
theorem Den.bl_inv {K : PySem.W.Frag} {H : Hp} {b : Bool} {v : V} (h : Den K H (.bl b) v) : v = .bl b := by cases h; rfl
theorem Den.non_inv {K : PySem.W.Frag} {H : Hp} {v : V} (h : Den K H .non v) : v = .non := by cases h; rfl
theorem Den.ref_inv {K : PySem.W.Frag} {H : Hp} {a : Addr} {v : V} (h : Den K H (.ref a) v) : v = .ref a := by cases h; rfl
theorem Den.tup_inv {K : PySem.W.Frag} {H : Hp} {ds : List D} {v : V} (h : Den K H (.tup ds) v) : ∃ a vs, v = .ref a ∧ SqT K H a vs ∧ Dens K H ds vs := by
  cases h with
  | tup h t => exact ⟨_, _, rfl, h, t⟩
theorem Dens.nil_iff {K : PySem.W.Frag} {H : Hp} {ds : List D} {vs : List V} (h : Dens K H ds vs) : ds = [] ↔ vs = [] := by
  cases h with
  | nil => simp
  | cons _ _ => simp
theorem Dens.rep {K : PySem.W.Frag} {H : Hp} {ds : List D} {vs : List V} (h : Dens K H ds vs) : ∀ n : Nat, Dens K H (List.replicate n ds).flatten (List.replicate n vs).flatten
  | 0 => .nil
  | n + 1 => by
    rw [List.replicate_succ, List.replicate_succ, List.flatten_cons, List.flatten_cons]
    exact h.app (Dens.rep h n)
/-- an operator by values over data -/
def liftR (K : PySem.W.Frag) (w : World) (r : D → D → Hp3 → VK3 → Prop) : R2 := fun v u H Q => ∃ x y M Q3, Rep K w H M ∧ Den K H x v ∧ Den K H y u ∧ r x y M Q3 ∧ ∀ d M' v' H', Ext H H' → Rep K w H' M' → Den K H' d v' → Q3 d M' → Q v' H'
section
variable {X : Cx} {a b : Expr} {ta tb : TE3} {pos : Pos}
theorem s_op {op : Operator} {r : D → D → Hp3 → VK3 → Prop} (ho : OpR X (binaryOp op) (liftR X.K X.w r)) (ha : PE3 X a ta) (hb : PE3 X b tb) : PE3 X (.BinOp a op b pos) fun σ M Q => ta σ M fun x M1 => tb σ M1 fun y M2 => r x y M2 Q :=
  PE.imp (pe_op ho ha hb) fun σ H Q h => liftE.then h fun x y M2 v u H2 Q3 p2 d1 d2 q k => ⟨x, y, M2, Q3, p2, d1, d2, q, k⟩
theorem OpR.imp {f : Value → Value → Sem Value} {r r' : R2} (h : OpR X f r) (i : ∀ x y H Q, r' x y H Q → r x y H Q) : OpR X f r' := fun pins s σ H x y v u Q I rx ry q => h pins s σ H x y v u Q I rx ry (i x y H Q q)
/-- which of two rules is taken hangs on the values -/
theorem OpR.or {f : Value → Value → Sem Value} {r r' : R2} (h : OpR X f r) (h' : OpR X f r') : OpR X f fun x y H Q => r x y H Q ∨ r' x y H Q := fun pins s σ H x y v u Q I rx ry q => q.elim (h pins s σ H x y v u Q I rx ry) (h' pins s σ H x y v u Q I rx ry)
end
theorem new_list {K : PySem.W.Frag} {w : World} {H : Hp} {M : Hp3} {Q3 : VK3} {Q : VK} {ds : List D} {vs : List V} (p3 : Rep K w H M) (t : Dens K H ds vs) (q : ∀ p, M p = none → Q3 (.ref p) (up3 M p (.lst ds))) (k : ∀ d M' v' H', Ext H H' → Rep K w H' M' → Den K H' d v' → Q3 d M' → Q v' H') :
    ∀ p, H p = none → Q (.ref p) (upd H p (.lst vs)) := fun p n =>
  k _ _ _ _ (Ext.new n) (p3.new (u := .lst ds) n ⟨vs, upd_same, t.ext (Ext.new n)⟩) (.ref p) (q p (p3.free n))
theorem new_tup {K : PySem.W.Frag} {w : World} {H : Hp} {M : Hp3} {Q3 : VK3} {Q : VK} {ds : List D} {vs : List V} (p3 : Rep K w H M) (t : Dens K H ds vs) (q : Q3 (.tup ds) M) (k : ∀ d M' v' H', Ext H H' → Rep K w H' M' → Den K H' d v' → Q3 d M' → Q v' H') :
    ∀ p, H p = none → Q (.ref p) (upd H p (.tup vs)) := fun p n =>
  k _ _ _ _ (Ext.new n) (p3.hid n) (.tup (.of upd_same) (t.ext (Ext.new n))) q
section
variable {X : Cx}
theorem op_pow_w : OpR X (binaryOp .Pow) (rI (fun i j => 0 ≤ j ∧ (Builtin.Int.intBits i : Int) * j ≤ 2 ^ 27) fun i j => .int (i ^ j.toNat)) := by
  intro pins s σ H x y v u Q I rx ry h
  obtain ⟨i, j, rfl, rfl, ⟨c1, c2⟩, q⟩ := h
  obtain ⟨t, rfl⟩ := rx
  obtain ⟨t', rfl⟩ := ry
  exact pow_int c1 c2 ⟨.int _, H, I.tok _, ⟨_, rfl⟩, q⟩
theorem tuple_mul_none (l : Addr) (n : Nat) (dd : Option Addr) (sl : Array (Option Value)) (x : Int) (u : Tok) (c0 : (decide (x < -(2 ^ 63)) || decide (x ≥ 2 ^ 63)) = false) :
    Meets (Builtin.«tuple.__mul__» ⟨[.ref l, .int x u], []⟩) (fun _ R s => s.heap.get? l = some { cls := .type "tuple", dict := dd, data := .seq #[] n, slots := sl } ∧ R (.ok (.ret (Value.ref l))) s) :=
  .of_wp fun prog w A R s h => by
    obtain ⟨hp, g, d, tk, os⟩ := s
    obtain ⟨hl, h⟩ := h
    have f1 := AutoSeq1.idx_int
    wp_walk using wpAny_loadPart' hl
    repeat (first
      | (refine wpAny_ite_false (decide_eq_false (by rw [c0]; exact Bool.false_ne_true)) ?_; wp_walk using wpAny_loadPart' hl))
    exact ⟨_, rfl, h⟩
theorem op_rep_none : OpR X (binaryOp .Mult) (fun x y H Q => ∃ l k, x = .ref l ∧ y = .int k ∧ SqT X.K H l [] ∧ 2 ≤ k ∧ k ≤ 1000 ∧ Q (.ref l) H) := by
  intro pins s σ H x y v u Q I rx ry h
  obtain ⟨l, k, rfl, rfl, hT, h1, h2, q⟩ := h
  cases rx
  obtain ⟨t, rfl⟩ := ry
  obtain ⟨its, r, ⟨⟨cls, dd, data, sl⟩, ho, hc, n, hd⟩, hs⟩ := I.tuple hT
  simp only at hc hd
  subst hc hd
  cases r
  have c0 : (decide (k < -(2 ^ 63)) || decide (k ≥ 2 ^ 63)) = false := by
    rw [decide_eq_false (by omega), decide_eq_false (by omega)] <;> rfl
  exact wpAny_binaryOp_repeat_ref (T := "tuple") (U := "int") (by decide) ⟨_, ho, rfl⟩ (fun s' => typeIs_int s' k t) noFill_tuple_mul F.fills_int_mul F.slot_int_rmul repeat_tuple F.slot_int_index.lookup
    (call_meets F.slot_int_rmul (typeIs_int s k t) F.entry_int_rmul (F.args_int_rmul_2 _ _) (int_rmul_tuple k t l #[] n dd sl)
      ⟨ho, rfl, ⟨_, ho, rfl⟩, call_meets F.slot_tuple_mul ⟨_, ho, rfl⟩ F.entry_tuple_mul (F.args_tuple_mul_2 _ _) (tuple_mul_none l n dd sl k t c0) ⟨ho, ⟨.ref l, H, I, rfl, q⟩⟩⟩)
theorem flat_nil {α : Type} : ∀ n : Nat, (List.replicate n ([] : List α)).flatten = []
  | 0 => rfl
  | n + 1 => by rw [List.replicate_succ, List.flatten_cons, flat_nil n]; rfl
theorem int_r {f : Value → Value → Sem Value} {c : Int → Int → Prop} {g : Int → Int → V} (h : OpR X f (rI c g)) : OpR X f fun v u H Q => ∃ i j, v = .int i ∧ u = .int j ∧ c i j ∧ Q (g i j) H := h
theorem op_bin (op : Operator) : OpR X (binaryOp op) (liftR X.K X.w (binD op)) := by
  cases op with
  | Add =>
    refine OpR.imp (OpR.or op_add (OpR.or op_catT op_cat)) fun v u H Q h => ?_
    obtain ⟨x, y, M, Q3, p3, dx, dy, q, k⟩ := h
    cases x with
    | int i =>
      cases y with
      | int j => exact .inl ⟨i, j, dx.int_inv, dy.int_inv, k _ _ _ _ (Ext.refl H) p3 (.int _) q⟩
      | _ => exact q.elim
    | tup xs =>
      cases y with
      | tup ys =>
        obtain ⟨ne, hz, q⟩ := q
        obtain ⟨a, vs, rfl, hv, tv⟩ := dx.tup_inv
        obtain ⟨b, us, rfl, hu, tu⟩ := dy.tup_inv
        refine .inr (.inl ⟨a, b, vs, us, rfl, rfl, hv, hu, fun z => ne (tv.nil_iff.mpr z), by rw [← tv.length, ← tu.length]; exact hz, fun z => ?_, fun z => new_tup p3 (tv.app tu) q k⟩)
        have e := tu.nil_iff.mpr z
        subst e
        rw [List.append_nil] at q
        exact k _ _ _ _ (Ext.refl H) p3 dx q
      | _ => exact q.elim
    | ref a =>
      cases y with
      | ref b =>
        obtain ⟨xs, ys, ha, hb, hz, q⟩ := q
        cases dx.ref_inv
        cases dy.ref_inv
        obtain ⟨vs, ea, ta⟩ := p3 a _ ha
        obtain ⟨us, eb, tb⟩ := p3 b _ hb
        exact .inr (.inr ⟨a, b, vs, us, rfl, rfl, ea, eb, by rw [← ta.length, ← tb.length]; exact hz, new_list p3 (ta.app tb) q k⟩)
      | _ => exact q.elim
    | _ => exact q.elim
  | Sub =>
    refine OpR.imp op_sub fun v u H Q h => ?_
    obtain ⟨x, y, M, Q3, p3, dx, dy, q, k⟩ := h
    cases x with
    | int i =>
      cases y with
      | int j => exact ⟨i, j, dx.int_inv, dy.int_inv, k _ _ _ _ (Ext.refl H) p3 (.int _) q⟩
      | _ => exact q.elim
    | _ => exact q.elim
  | Mult =>
    refine OpR.imp (OpR.or op_mulW (OpR.or op_rep (OpR.or op_repT op_rep_none))) fun v u H Q h => ?_
    obtain ⟨x, y, M, Q3, p3, dx, dy, q, k⟩ := h
    cases x with
    | int i =>
      cases y with
      | int j => exact .inl ⟨i, j, dx.int_inv, dy.int_inv, q.1, k _ _ _ _ (Ext.refl H) p3 (.int _) q.2⟩
      | _ => exact q.elim
    | tup xs =>
      cases y with
      | int j =>
        obtain ⟨h1, h2, h3, q⟩ := q
        obtain ⟨a, vs, rfl, hv, tv⟩ := dx.tup_inv
        by_cases e : xs = []
        · subst e
          cases tv
          rw [flat_nil] at q
          exact .inr (.inr (.inr ⟨a, j, rfl, dy.int_inv, hv, h1, h2, k _ _ _ _ (Ext.refl H) p3 dx q⟩))
        · exact .inr (.inr (.inl ⟨a, j, vs, rfl, dy.int_inv, hv, fun z => e (tv.nil_iff.mpr z), h1, h2, by rw [← tv.length]; exact h3, new_tup p3 (tv.rep _) q k⟩))
      | _ => exact q.elim
    | ref a =>
      cases y with
      | int j =>
        obtain ⟨xs, ha, h0, h1, hz, q⟩ := q
        cases dx.ref_inv
        obtain ⟨vs, ea, ta⟩ := p3 a _ ha
        exact .inr (.inl ⟨a, j, vs, rfl, dy.int_inv, ea, by omega, by omega, by rw [← ta.length]; exact hz, new_list p3 (ta.rep _) q k⟩)
      | _ => exact q.elim
    | _ => exact q.elim
  | FloorDiv =>
    refine OpR.imp op_fdivW fun v u H Q h => ?_
    obtain ⟨x, y, M, Q3, p3, dx, dy, q, k⟩ := h
    cases x with
    | int i =>
      cases y with
      | int j => exact ⟨i, j, dx.int_inv, dy.int_inv, q.1, k _ _ _ _ (Ext.refl H) p3 (.int _) q.2⟩
      | _ => exact q.elim
    | _ => exact q.elim
  | Mod =>
    refine OpR.imp op_mod fun v u H Q h => ?_
    obtain ⟨x, y, M, Q3, p3, dx, dy, q, k⟩ := h
    cases x with
    | int i =>
      cases y with
      | int j => exact ⟨i, j, dx.int_inv, dy.int_inv, q.1, k _ _ _ _ (Ext.refl H) p3 (.int _) q.2⟩
      | _ => exact q.elim
    | _ => exact q.elim
  | Pow =>
    refine OpR.imp op_pow_w fun v u H Q h => ?_
    obtain ⟨x, y, M, Q3, p3, dx, dy, q, k⟩ := h
    cases x with
    | int i =>
      cases y with
      | int j => exact ⟨i, j, dx.int_inv, dy.int_inv, ⟨q.1, q.2.1⟩, k _ _ _ _ (Ext.refl H) p3 (.int _) q.2.2⟩
      | _ => exact q.elim
    | _ => exact q.elim
  | _ =>
    intro pins s σ H x y v u Q I rx ry h
    obtain ⟨_, _, _, _, _, _, _, q, _⟩ := h
    exact q.elim
theorem s_bin {C : Nat → D} {Γ : Nat → Sp3} {op : Operator} {a b : Expr} {ia ib : IE} {pos : Pos} (ha : PE3 X a (WE C Γ ia)) (hb : PE3 X b (WE C Γ ib)) : PE3 X (.BinOp a op b pos) (WE C Γ (.bin op ia ib)) := s_op (op_bin op) ha hb
end
end L3

set_option Elab.async false
set_option linter.all false
set_option maxRecDepth 100000
set_option maxHeartbeats 4000000
/-! C3: comparisons. -/
namespace L3
open PySem PySem.Spec PyProof.Rows L2

section
variable {K : PySem.W.Frag} {w : World} {H : Hp} {M : Hp3}
mutual
theorem DataAt.dp (p3 : Rep K w H M) : ∀ {d : D} {p : PyData} {v : V}, DataAt M d p → Den K H d v → p.canLay0 = true → Dp K H v p
  | _, _, _, .non, d, _ => by cases d; exact .non
  | _, _, _, .bl b, d, _ => by cases d; exact .bl b
  | _, _, _, .int i, d, _ => by cases d; exact .int i
  | _, _, _, .str x, d, _ => by cases d; exact .str x
  | _, _, _, .tup t, d, c => by
    obtain ⟨a, vs, rfl, hv, tv⟩ := d.tup_inv
    exact .tup hv (DataAts.dp p3 t tv (by simpa only [PyData.canLay0] using c))
  | _, _, _, .lst e t, d, c => by
    cases d
    obtain ⟨vs, ea, ta⟩ := p3 _ _ e
    exact .lst (.of ea) (DataAts.dp p3 t ta (by simpa only [PyData.canLay0] using c))
  | _, _, _, .dct _ _ _, _, c => by simp [PyData.canLay0] at c
theorem DataAts.dp (p3 : Rep K w H M) : ∀ {ds : List D} {ps : List PyData} {vs : List V}, DataAts M ds ps → Dens K H ds vs → PyData.canLayAll0 ps = true → DpAll K H vs ps
  | _, _, _, .nil, d, _ => by cases d; exact .nil
  | _, _, _, .cons h t, e, c => by
    cases e with
    | cons e1 e2 =>
      simp only [PyData.canLayAll0, Bool.and_eq_true] at c
      exact .cons (DataAt.dp p3 h e1 c.1) (DataAts.dp p3 t e2 c.2)
end
end
theorem shaped_lay {p : PyData} (h : SeqAt.shaped p = true) : p.canLay0 = true := SeqAt.canLay_of_shaped h
section
variable {X : Cx} {pins : List (Addr × Obj)} {σ : L2.St} {H : Hp} {s : Shared} {M : Hp3}
theorem DataAt.reads (I : Inv X pins σ H s) (p3 : Rep X.K X.w H M) {d : D} {p : PyData} {v : V} {u : Value} (h : DataAt M d p) (e : Den X.K H d v) (c : p.canLay0 = true) (r : RelV v u) : ∃ as, Reads s.heap u p as :=
  Dp.reads I p v u (h.dp p3 e c) r
open Classical in
/-- what u == a value of the data q answers -/
noncomputable def eqPick (h : Heap) (q : PyData) (u : Value) : Bool := if z : ∃ p as, Reads h u p as ∧ p.canLay0 = true then PyData.eqv z.choose q else false
theorem eqPick_of {h : Heap} {q p : PyData} {u : Value} {as : List Addr} (r : Reads h u p as) (c : p.canLay0 = true) : eqPick h q u = PyData.eqv p q := by
  have z : ∃ p as, Reads h u p as ∧ p.canLay0 = true := ⟨p, as, r, c⟩
  unfold eqPick
  rw [dif_pos z]
  obtain ⟨as', r', c'⟩ := z.choose_spec
  rw [SeqAt.Reads.unique _ _ _ _ _ c' r' r]
/-- the answers of the items -/
theorem picks (I : Inv X pins σ H s) (p3 : Rep X.K X.w H M) {x : D} {q : PyData} {vx : V} {ux : Value} (hq : DataAt M x q) (sq : SeqAt.shaped q = true) (dx : Den X.K H x vx) (rx : RelV vx ux) (A : Around) (hu : A.units + 64 < cLine) :
    ∀ {ds : List D} {bs : List Bool} {vs : List V} {us : List Value}, Paired (fun d c => eqR M d x c) ds bs → Dens X.K H ds vs → Vals vs us → (∀ y ∈ us, SeqAt.EqAt A s y ux (eqPick s.heap q y)) ∧ us.any (eqPick s.heap q) = bs.any id
  | _, _, _, _, .nil, dd, vv => by
    cases dd
    cases vv
    exact ⟨fun y hy => absurd hy (by simp), rfl⟩
  | _, _, _, _, .cons h t, dd, vv => by
    cases dd with
    | cons d1 d2 =>
      cases vv with
      | cons v1 v2 =>
        obtain ⟨p, q', hp, hq', sp, sq', e⟩ := h
        obtain ⟨ih1, ih2⟩ := picks I p3 hq sq dx rx A hu t d2 v2
        obtain ⟨as, ra⟩ := hp.reads I p3 d1 (shaped_lay sp) v1
        obtain ⟨bs, rb⟩ := hq.reads I p3 dx (shaped_lay sq) rx
        obtain ⟨bs', rb'⟩ := hq'.reads I p3 dx (shaped_lay sq') rx
        have eq : q' = q := SeqAt.Reads.unique _ _ _ _ _ (shaped_lay sq') rb' rb
        subst eq
        have e1 := eqPick_of (q := q') ra (shaped_lay sp)
        refine ⟨fun y hy => ?_, ?_⟩
        · rcases List.mem_cons.mp hy with rfl | hy
          · rw [e1]
            exact SeqAt.eqAt_reads p q' A s _ _ as bs ra rb (shaped_lay sp) (shaped_lay sq) (SeqAt.room_of_shaped sp hu)
          · exact ih1 y hy
        · rw [List.any_cons, List.any_cons, ih2, e1, e]
          rfl
end
theorem keyDs_length : ∀ {ds : List D} {ks : List NestedKey}, keyDs ds = some ks → ks.length = ds.length
  | [], ks, h => by
    simp only [keyDs, Option.some.injEq] at h
    subst h
    rfl
  | d :: ds, ks, h => by
    simp only [keyDs] at h
    cases e : keyD d with
    | none => rw [e] at h; cases h
    | some k =>
      cases e' : keyDs ds with
      | none => rw [e, e'] at h; cases h
      | some ks' =>
        rw [e, e'] at h
        cases h
        rw [List.length_cons, List.length_cons, keyDs_length e']
section
variable {X : Cx} {pins : List (Addr × Obj)} {σ : L2.St} {H : Hp} {s : Shared} {M : Hp3}
mutual
theorem keyD_is (I : Inv X pins σ H s) : ∀ (d : D) (k : NestedKey) (v : V) (u : Value), keyD d = some k → Den X.K H d v → RelV v u → NestedIs s.heap k u
  | .non, k, v, u, h, e, r => by
    cases e
    cases (show u = Value.none from r)
    simp only [keyD, Option.some.injEq] at h
    subst h
    exact .none
  | .bl b, k, v, u, h, e, r => by
    cases e
    cases (show u = Value.bool b from r)
    simp only [keyD, Option.some.injEq] at h
    subst h
    exact .bool rfl
  | .int i, k, v, u, h, e, r => by
    cases e
    obtain ⟨t, rfl⟩ := (show ∃ t, u = Value.int i t from r)
    simp only [keyD, Option.some.injEq] at h
    subst h
    exact .int i t
  | .str x, k, v, u, h, e, r => by
    cases e
    obtain ⟨t, rfl⟩ := (show ∃ t, u = Value.str x t from r)
    simp only [keyD, Option.some.injEq] at h
    subst h
    exact .text x t
  | .tup ds, k, v, u, h, e, r => by
    obtain ⟨a, vs, rfl, hv, tv⟩ := e.tup_inv
    cases (show u = Value.ref a from r)
    simp only [keyD, Option.map_eq_some_iff] at h
    obtain ⟨ks, hk, rfl⟩ := h
    obtain ⟨its, rv, ⟨o, ho, hc, n, hd⟩, _⟩ := I.tuple hv
    exact .tup ho hc hd (by simpa using keyDs_is I ds ks vs its hk tv rv)
  | .ref a, k, v, u, h, e, r => by simp [keyD] at h
  | .sl a, k, v, u, h, e, r => by simp [keyD] at h
theorem keyDs_is (I : Inv X pins σ H s) : ∀ (ds : List D) (ks : List NestedKey) (vs : List V) (us : List Value), keyDs ds = some ks → Dens X.K H ds vs → Vals vs us → NestedAll s.heap ks us
  | [], ks, vs, us, h, e, r => by
    cases e
    cases r
    simp only [keyDs, Option.some.injEq] at h
    subst h
    exact .nil
  | d :: ds, ks, vs, us, h, e, r => by
    cases e with
    | cons e1 e2 =>
      cases r with
      | cons r1 r2 =>
        simp only [keyDs] at h
        cases q : keyD d with
        | none => rw [q] at h; cases h
        | some k =>
          cases q' : keyDs ds with
          | none => rw [q, q'] at h; cases h
          | some ks' =>
            rw [q, q'] at h
            cases h
            exact .cons (keyD_is I d k _ _ q e1 r1) (keyDs_is I ds ks' _ _ q' e2 r2)
end
theorem key_ok (I : Inv X pins σ H s) {d : D} {k : NestedKey} {v : V} {u : Value} (h : keyOf d = some k) (e : Den X.K H d v) (r : RelV v u) : KeyOk s.heap k u := by
  unfold keyOf at h
  cases q : keyD d with
  | none => rw [q] at h; cases h
  | some k' =>
    rw [q] at h
    dsimp only at h
    split at h
    · rename_i hd
      cases h
      exact ⟨keyD_is I d _ v u q e r, hd⟩
    · cases h
/-- a dict of the data heap stands in the heap -/
theorem dict_at (I : Inv X pins σ H s) {a : Addr} {kvs : List (D × D)} {xs : List NE} (h : H a = some (DictO X.w a xs) ∨ ∃ o, H a = some (.frz o (DictO X.w a xs))) (d : DictR X.K H a kvs xs) : DictN X.w s.heap a xs := by
  have ob : ObjOk X.prog X.w H s.heap a (DictO X.w a xs) := by
    rcases h with h | ⟨o, h⟩
    · exact I.hok a _ h
    · exact (show ObjOk X.prog X.w H s.heap a (.frz o (DictO X.w a xs)) from I.hok a _ h).2
  obtain ⟨⟨o, ep, ho, hc, hd⟩, _, _⟩ := ob
  refine ⟨o, ep, ⟨ho, hd, ?_, d.nd⟩, hc⟩
  have all : ∀ {l : List (D × D)} {r : List NE}, Paired (EntD X.K H) l r → ∀ x ∈ r, KeyOk s.heap x.1 x.2.1 := by
    intro l r p
    induction p with
    | nil => intro x hx; cases hx
    | cons h _ ih =>
      intro x hx
      rcases List.mem_cons.mp hx with rfl | hx
      · obtain ⟨e1, ⟨v, e2, e3⟩, _⟩ := h
        exact key_ok I e1 e2 e3
      · exact ih x hx
  exact all d.ent
end
/-- what a lookup finds -/
theorem look_ent {K : PySem.W.Frag} {H : Hp} {k : NestedKey} : ∀ {kvs : List (D × D)} {xs : List NE}, Paired (EntD K H) kvs xs → (lookD kvs k = none ∧ valN xs k = none) ∨ ∃ d u, lookD kvs k = some d ∧ valN xs k = some u ∧ DenU K H d u
  | _, _, .nil => .inl ⟨rfl, rfl⟩
  | _, _, .cons (l₁ := l) (l₂ := r) (a := p) (b := x) h t => by
    obtain ⟨e1, _, e3⟩ := h
    unfold lookD valN
    by_cases hk : x.1 = k
    · refine .inr ⟨p.2, x.2.2, ?_, ?_, e3⟩
      · rw [List.find?_cons, e1, hk, decide_eq_true rfl]
        rfl
      · rw [List.find?_cons, decide_eq_true hk]
        rfl
    · have ne : ¬ keyOf p.1 = some k := fun z => hk (by rw [e1] at z; exact Option.some.inj z)
      rw [List.find?_cons, List.find?_cons, decide_eq_false hk, decide_eq_false ne]
      exact look_ent t
end L3

set_option Elab.async false
set_option linter.all false
set_option maxRecDepth 100000
set_option maxHeartbeats 4000000
/-! A5: what a program does with such a dict, at the machine's level. -/
namespace L3
open PySem PySem.Spec PyProof.Rows L2
section
variable {prog : Program} {w : World} {A : Around} {E : Value → Shared → Prop} {s : Shared} {d : Addr} {key : Value} {k : NestedKey} {xs : List NE}
theorem DictN.raw {h : Heap} (D : DictN w h d xs) : ∃ ep, h.DictRaw d (xs.map (entN w)).toArray ep := let ⟨o, ep, E, c⟩ := D; ⟨ep, o, E.ho, c, E.hd⟩
theorem contains_mix {Q : Bool → Shared → Prop} (hu : A.units + 9 < cLine) (hk : KeyOk s.heap k key) (hd : (d == sysModules) = false) (D : DictN w s.heap d xs) (h : Q (valN xs k).isSome { s with toks := s.toks + k.draws }) :
    wpAny (model prog w) A (contains (.ref d) key) Q E s := by
  refine wpAny_contains_slot D.typeIs F.slot_dict_contains ?_
  refine call_meetsIn F.slot_dict_contains D.typeIs F.entry_dict_contains (F.args_dict_contains_2 _ _) (S := fun A' R s' => A' = A ∧ s' = s ∧ R (.ok (.ret (.bool (valN xs k).isSome))) { s with toks := s.toks + k.draws }) (fun A' R s' hS => ?_) ⟨rfl, rfl, wpAny_truthy_bool h⟩
  obtain ⟨rfl, rfl, hq⟩ := hS
  show wpAny _ _ (dictGet d key >>= _) _ _ _
  refine wpAny_bind (get_mix (by show A'.units + 1 + 8 < cLine; omega) hk D ?_)
  cases e : valN xs k with
  | some v =>
    rw [e] at hq
    show wpAny _ _ (ret (.bool true)) _ _ _
    exact wpAny_pure hq
  | none =>
    rw [e] at hq
    show wpAny _ _ (Builtin.Dict.pendingKey? d key >>= _) _ _ _
    exact wpAny_bind (wpAny_pendingKey_other hd (wpAny_pure hq))
theorem in_mix {Q : Value → Shared → Prop} (hu : A.units + 9 < cLine) (hk : KeyOk s.heap k key) (hd : (d == sysModules) = false) (D : DictN w s.heap d xs) (h : Q (.bool (valN xs k).isSome) { s with toks := s.toks + k.draws }) :
    wpAny (model prog w) A (compareOp .In key (.ref d)) Q E s := by
  show wpAny _ _ (do return .bool (← contains (.ref d) key)) Q E s
  exact wpAny_bind (contains_mix hu hk hd D (wpAny_pure h))
theorem notIn_mix {Q : Value → Shared → Prop} (hu : A.units + 9 < cLine) (hk : KeyOk s.heap k key) (hd : (d == sysModules) = false) (D : DictN w s.heap d xs) (h : Q (.bool (!(valN xs k).isSome)) { s with toks := s.toks + k.draws }) :
    wpAny (model prog w) A (compareOp .NotIn key (.ref d)) Q E s := by
  show wpAny _ _ (do return .bool (!(← contains (.ref d) key))) Q E s
  exact wpAny_bind (contains_mix hu hk hd D (wpAny_pure h))
theorem item_mix {v : Value} {Q : Value → Shared → Prop} (hu : A.units + 9 < cLine) (hk : KeyOk s.heap k key) (D : DictN w s.heap d xs) (e : valN xs k = some v) (h : Q v { s with toks := s.toks + k.draws }) : wpAny (model prog w) A (getItem (.ref d) key) Q E s := by
  unfold getItem
  with_reducible refine wpAny_holding ?_
  refine wpAny_bind (wpAny_sequenceKey D.typeIs (by decide) ?_)
  refine wpAny_bind (wpAny_callSpecial?_slot (name := Str.ofString "__getitem__") D.typeIs slot_dict_getitem (wpAny_call_entry slot_dict_getitem D.typeIs entry_dict_getitem ?_ (args_dict_getitem _ _)))
  show wpAny _ _ (dictGet d key >>= _) _ _ s
  refine wpAny_bind (get_mix (by show A.units + 1 + 8 < cLine; omega) hk D ?_)
  rw [e]
  exact wpAny_pure ⟨v, rfl, wpAny_pure h⟩
theorem put_mix {v : Value} {Q : Unit → Shared → Prop} (hu : A.units + 9 < cLine) (hk : KeyOk s.heap k key) (D : DictN w s.heap d xs) (hz : xs.length ≤ sizeLine)
    (hQ : ∀ h', DictN w h' d (putN xs k key v) → Heap.SameBut d s.heap h' → Q () { s with heap := h', toks := s.toks + k.draws }) : wpAny (model prog w) A (setItem (.ref d) key v) Q E s := by
  unfold setItem
  with_reducible refine wpAny_holding ?_
  refine wpAny_bind (wpAny_sequenceKey D.typeIs (by decide) ?_)
  refine wpAny_bind (wpAny_callSpecial?_slot (name := Str.ofString "__setitem__") D.typeIs slot_dict_setitem (wpAny_call_entry slot_dict_setitem D.typeIs entry_dict_setitem ?_ (args_dict_setitem _ _ _)))
  show wpAny _ _ (Builtin.Dict.notOrdered "__setitem__" ⟨[.ref d, key, v], []⟩ >>= _) _ _ s
  refine wpAny_bind (wpAny_notOrdered_dict D.typeIs ?_)
  show wpAny _ _ (dictSet d key v >>= _) _ _ s
  exact wpAny_bind (set_mix (by show A.units + 1 + 8 < cLine; omega) hk D hz fun h' D' sb => wpAny_pure ⟨.none, rfl, wpAny_pure (hQ h' D' sb)⟩)
theorem get2_mix {dflt : Value} {Q : Value → Shared → Prop} (hu : A.units + 9 < cLine) (hk : KeyOk s.heap k key) (hd : (d == sysModules) = false) (D : DictN w s.heap d xs) (h : Q ((valN xs k).getD dflt) { s with toks := s.toks + k.draws }) :
    wpAny (model prog w) A (call (.builtin "dict.get") [.ref d, key, dflt]) Q E s := by
  refine call_meetsIn PySem.F.slot_dict_get D.typeIs PySem.F.entry_dict_get (PySem.F.args_dict_get_3 _ _ _) (S := fun A' R s' => A' = A ∧ s' = s ∧ R (.ok (.ret ((valN xs k).getD dflt))) { s with toks := s.toks + k.draws }) (fun A' R s' hS => ?_) ⟨rfl, rfl, h⟩
  obtain ⟨rfl, rfl, hq⟩ := hS
  show wpAny _ _ (dictGet d key >>= _) _ _ _
  refine wpAny_bind (get_mix (by show A'.units + 1 + 8 < cLine; omega) hk D ?_)
  cases e : valN xs k with
  | some v =>
    rw [e] at hq
    exact wpAny_pure hq
  | none =>
    rw [e] at hq
    show wpAny _ _ (Builtin.Dict.missed d key >>= _) _ _ _
    exact wpAny_bind (wpAny_missed_other hd (wpAny_pure hq))
theorem len_mix {Q : Value → Shared → Prop} (hd : (d == sysModules) = false) (D : DictN w s.heap d xs) (hz : xs.length ≤ sizeLine) (h : Q (.int xs.length (s.toks + 1)) { s with toks := s.toks + 1 + 1 }) : wpAny (model prog w) A (call (.builtin "len") [.ref d]) Q E s := by
  obtain ⟨ep, R⟩ := D.raw
  have hz' : xs.length ≤ 2 ^ 24 := hz
  have hs : ((xs.map (entN w)).toArray.size : Int) = xs.length := by simp
  refine Calls.call_function_entry kind_len plain_len entry_len (args_len1 _) ?_
  unfold Builtin.«len»
  refine wpAny_bind (m := oneArg "len" _) (wpAny_pure ?_)
  refine wpAny_bind (m := callSpecial? (.ref d) (Str.ofString "__len__")) (wpAny_callSpecial?_slot (name := Str.ofString "__len__") D.typeIs F.slot_dict_len
    (call_meetsIn F.slot_dict_len D.typeIs F.entry_dict_len (F.args_dict_len_1 _) (meets_dict_len_raw d hd) ⟨_, ep, R, ?_⟩))
  show wpAny _ _ _ _ _ { s with toks := s.toks + 1 }
  refine wpAny_bind (wpAny_holding (wpAny_pure ?_))
  refine wpAny_bind (wpAny_letGo ?_)
  rw [hs]
  show wpAny _ _ (if ((xs.length : Nat) : Int) < 0 then _ else _) _ _ _
  rw [if_neg (by omega)]
  show wpAny _ _ (if ((xs.length : Nat) : Int) ≥ 2 ^ 63 then _ else _) _ _ _
  rw [if_neg (by omega)]
  exact wpAny_bind (wpAny_mkInt (wpAny_pure ⟨_, rfl, h⟩))
end
end L3

set_option Elab.async false
set_option linter.all false
set_option maxRecDepth 100000
set_option maxHeartbeats 4000000
/-! C4: comparisons as operators over data. -/
namespace L3
open PySem PySem.Spec PyProof.Rows L2

def cmpV (op : CmpOp) (x y : D) (M : Hp3) (Q : VK3) : Prop := cmpD op x y M fun r => Q (.bl r) M
section
variable {X : Cx}
theorem dctAt_lies {K : PySem.W.Frag} {w : World} {H : Hp} {M : Hp3} (p3 : Rep K w H M) {a : Addr} {kvs : List (D × D)} (h : DctAt M a kvs) : ∃ xs, (H a = some (DictO w a xs) ∨ ∃ o, H a = some (.frz o (DictO w a xs))) ∧ DictR K H a kvs xs := by
  rcases h with h | h
  · obtain ⟨xs, e, d⟩ := p3 a _ h
    exact ⟨xs, .inl e, d⟩
  · obtain ⟨o, xs, e, d⟩ := p3 a _ h
    exact ⟨xs, .inr ⟨o, e⟩, d⟩
theorem lstAt_lies {K : PySem.W.Frag} {w : World} {H : Hp} {M : Hp3} (p3 : Rep K w H M) {a : Addr} {ds : List D} (h : LstAt M a ds) : ∃ vs, SqL K H a vs ∧ Dens K H ds vs := by
  rcases h with h | h
  · obtain ⟨vs, e, d⟩ := p3 a _ h
    exact ⟨vs, .of e, d⟩
  · obtain ⟨o, vs, e, d⟩ := p3 a _ h
    exact ⟨vs, .inl (.inr ⟨o, e⟩), d⟩
theorem look_isSome {K : PySem.W.Frag} {H : Hp} {k : NestedKey} {kvs : List (D × D)} {xs : List NE} (h : Paired (EntD K H) kvs xs) : (valN xs k).isSome = (lookD kvs k).isSome := by
  rcases look_ent (k := k) h with ⟨a, b⟩ | ⟨d, u, a, b, _⟩
  · rw [a, b]
    rfl
  · rw [a, b]
    rfl
theorem op_isIn (hu : X.A.units + 100 < cLine) (neg : Bool) : OpR X (compareOp (if neg = true then .NotIn else .In)) (liftR X.K X.w fun x y M Q => ∃ b, InR M x y b ∧ Q (.bl (if neg = true then !b else b)) M) := by
  intro pins s σ H v u v' u' Q I rv ru h
  obtain ⟨x, y, M, Q3, p3, dx, dy, ⟨b, i, q⟩, k⟩ := h
  have fin : ∀ {s' : Shared}, Inv X pins σ H s' → EP X pins σ Q (.bool (if neg = true then !b else b)) s' := fun {s'} I' => ⟨.bl _, H, I', rfl, k _ _ _ _ (Ext.refl H) p3 (.bl _) q⟩
  cases i with
  | str z t =>
    cases dx
    cases dy
    cases neg with
    | false => exact op_in_str pins s σ H _ _ _ _ Q I rv ru ⟨z, t, rfl, rfl, k _ _ _ _ (Ext.refl H) p3 (.bl _) q⟩
    | true => exact op_notin_str pins s σ H _ _ _ _ Q I rv ru ⟨z, t, rfl, rfl, k _ _ _ _ (Ext.refl H) p3 (.bl _) q⟩
  | tup hp hb =>
    obtain ⟨a, vs, rfl, hv, tv⟩ := dy.tup_inv
    cases (show u' = Value.ref a from ru)
    obtain ⟨its, rr, pl, hz⟩ := I.tuple hv
    by_cases hn : its = []
    · subst hn
      cases rr
      cases tv
      cases hp
      subst hb
      cases neg with
      | false => exact SeqAt.in_tupleAt (fun _ => false) pl (fun w hw => absurd hw (by simp)) (by simpa using fin I)
      | true => exact SeqAt.notIn_tupleAt (fun _ => false) pl (fun w hw => absurd hw (by simp)) (by simpa using fin I)
    · -- the asked value's data
      have ex : ∃ q, DataAt M x q ∧ SeqAt.shaped q = true := by
        cases hp with
        | nil =>
          cases tv
          cases rr
          exact absurd rfl hn
        | cons h _ =>
          obtain ⟨p, q', _, hq', _, sq', _⟩ := h
          exact ⟨q', hq', sq'⟩
      obtain ⟨qx, hq, sq⟩ := ex
      obtain ⟨h1, h2⟩ := picks I p3 hq sq dx rv X.A.in1 (by show X.A.units + 1 + 64 < cLine; omega) hp tv rr
      rw [← hb] at h2
      cases neg with
      | false =>
        refine SeqAt.in_tupleAt (eqPick s.heap qx) pl (fun w hw => h1 w (by simpa using hw)) ?_
        rw [show its.toArray.any (eqPick s.heap qx) = its.any (eqPick s.heap qx) by simp, h2]
        exact fin I
      | true =>
        refine SeqAt.notIn_tupleAt (eqPick s.heap qx) pl (fun w hw => h1 w (by simpa using hw)) ?_
        rw [show its.toArray.any (eqPick s.heap qx) = its.any (eqPick s.heap qx) by simp, h2]
        exact fin I
  | lst hl hp hb =>
    rename_i a ds bs
    cases dy
    cases (show u' = Value.ref a from ru)
    obtain ⟨vs, hv, tv⟩ := lstAt_lies p3 hl
    obtain ⟨its, rr, pl, hz⟩ := I.list hv
    by_cases hn : its = []
    · subst hn
      cases rr
      cases tv
      cases hp
      subst hb
      cases neg with
      | false => exact SeqAt.in_listAt (fun _ => false) pl.isList (fun w hw => absurd hw (by simp)) (by simpa using fin I)
      | true => exact SeqAt.notIn_listAt (fun _ => false) pl.isList (fun w hw => absurd hw (by simp)) (by simpa using fin I)
    · have ex : ∃ q, DataAt M x q ∧ SeqAt.shaped q = true := by
        cases hp with
        | nil =>
          cases tv
          cases rr
          exact absurd rfl hn
        | cons h _ =>
          obtain ⟨p, q', _, hq', _, sq', _⟩ := h
          exact ⟨q', hq', sq'⟩
      obtain ⟨qx, hq, sq⟩ := ex
      obtain ⟨h1, h2⟩ := picks I p3 hq sq dx rv X.A.in1 (by show X.A.units + 1 + 64 < cLine; omega) hp tv rr
      rw [← hb] at h2
      cases neg with
      | false =>
        refine SeqAt.in_listAt (eqPick s.heap qx) pl.isList (fun w hw => h1 w (by simpa using hw)) ?_
        rw [show its.toArray.any (eqPick s.heap qx) = its.any (eqPick s.heap qx) by simp, h2]
        exact fin I
      | true =>
        refine SeqAt.notIn_listAt (eqPick s.heap qx) pl.isList (fun w hw => h1 w (by simpa using hw)) ?_
        rw [show its.toArray.any (eqPick s.heap qx) = its.any (eqPick s.heap qx) by simp, h2]
        exact fin I
  | dct hd hk hb =>
    rename_i a kvs kk
    cases dy
    cases (show u' = Value.ref a from ru)
    obtain ⟨xs, hx, r⟩ := dctAt_lies p3 hd
    have D := dict_at I hx r
    have ko := key_ok I hk dx rv
    rw [← look_isSome r.ent] at hb
    subst hb
    cases neg with
    | false => exact in_mix (by omega) ko r.sys D (fin (I.tok _))
    | true => exact notIn_mix (by omega) ko r.sys D (fin (I.tok _))
theorem op_cmp (hu : X.A.units + 100 < cLine) (op : CmpOp) : OpR X (compareOp op) (liftR X.K X.w (cmpV op)) := by
  cases op with
  | Lt =>
    refine OpR.imp op_lt fun v u H Q h => ?_
    obtain ⟨x, y, M, Q3, p3, dx, dy, q, k⟩ := h
    cases x with
    | int i =>
      cases y with
      | int j => exact ⟨i, j, dx.int_inv, dy.int_inv, k _ _ _ _ (Ext.refl H) p3 (.bl _) q⟩
      | _ => exact q.elim
    | _ => exact q.elim
  | LtE =>
    refine OpR.imp op_le fun v u H Q h => ?_
    obtain ⟨x, y, M, Q3, p3, dx, dy, q, k⟩ := h
    cases x with
    | int i =>
      cases y with
      | int j => exact ⟨i, j, dx.int_inv, dy.int_inv, k _ _ _ _ (Ext.refl H) p3 (.bl _) q⟩
      | _ => exact q.elim
    | _ => exact q.elim
  | Gt =>
    refine OpR.imp op_gt fun v u H Q h => ?_
    obtain ⟨x, y, M, Q3, p3, dx, dy, q, k⟩ := h
    cases x with
    | int i =>
      cases y with
      | int j => exact ⟨i, j, dx.int_inv, dy.int_inv, k _ _ _ _ (Ext.refl H) p3 (.bl _) q⟩
      | _ => exact q.elim
    | _ => exact q.elim
  | GtE =>
    refine OpR.imp op_ge fun v u H Q h => ?_
    obtain ⟨x, y, M, Q3, p3, dx, dy, q, k⟩ := h
    cases x with
    | int i =>
      cases y with
      | int j => exact ⟨i, j, dx.int_inv, dy.int_inv, k _ _ _ _ (Ext.refl H) p3 (.bl _) q⟩
      | _ => exact q.elim
    | _ => exact q.elim
  | Eq =>
    refine OpR.imp (op_eqD (by omega)) fun v u H Q h => ?_
    obtain ⟨x, y, M, Q3, p3, dx, dy, ⟨b, ⟨p, q', hp, hq', sp, sq, rfl⟩, q⟩, k⟩ := h
    exact ⟨p, q', hp.dp p3 dx (shaped_lay sp), hq'.dp p3 dy (shaped_lay sq), sp, sq, k _ _ _ _ (Ext.refl H) p3 (.bl _) q⟩
  | NotEq =>
    refine OpR.imp (op_neD (by omega)) fun v u H Q h => ?_
    obtain ⟨x, y, M, Q3, p3, dx, dy, ⟨b, ⟨p, q', hp, hq', sp, sq, rfl⟩, q⟩, k⟩ := h
    exact ⟨p, q', hp.dp p3 dx (shaped_lay sp), hq'.dp p3 dy (shaped_lay sq), sp, sq, k _ _ _ _ (Ext.refl H) p3 (.bl _) q⟩
  | In => exact op_isIn hu false
  | NotIn => exact op_isIn hu true
  | Is =>
    refine OpR.imp op_isN fun v u H Q h => ?_
    obtain ⟨x, y, M, Q3, p3, dx, dy, q, k⟩ := h
    cases y with
    | non =>
      refine ⟨dy.non_inv, k _ _ _ _ (Ext.refl H) p3 ?_ q⟩
      cases dx <;> exact .bl _
    | _ => exact q.elim
  | IsNot =>
    refine OpR.imp op_notN fun v u H Q h => ?_
    obtain ⟨x, y, M, Q3, p3, dx, dy, q, k⟩ := h
    cases y with
    | non =>
      refine ⟨dy.non_inv, k _ _ _ _ (Ext.refl H) p3 ?_ q⟩
      cases dx <;> exact .bl _
    | _ => exact q.elim
end
section
variable {X : Cx} {a b c : Expr} {ta tb tc : TE3} {pos : Pos}
theorem s_cmp (hu : X.A.units + 100 < cLine) {op : CmpOp} (hm : behindInMarks op b = false) (ha : PE3 X a ta) (hb : PE3 X b tb) : PE3 X (.Compare a [op] [b] pos) fun σ M Q => ta σ M fun x M1 => tb σ M1 fun y M2 => cmpD op x y M2 fun r => Q (.bl r) M2 :=
  PE.imp (pe_cmpR (op_cmp hu op) ha hb hm) fun σ H Q h => liftE.then (r := cmpV op) h fun x y M2 v u H2 Q3 p2 d1 d2 q k => ⟨x, y, M2, Q3, p2, d1, d2, q, k⟩
end
end L3

set_option Elab.async false
set_option linter.all false
set_option maxRecDepth 100000
set_option maxHeartbeats 4000000
/-! C5: truth, and, or, not, conditional expressions, chains. -/
namespace L3
open PySem PySem.Spec PyProof.Rows L2

theorem Dens.isEmpty {K : PySem.W.Frag} {H : Hp} {ds : List D} {vs : List V} (h : Dens K H ds vs) : ds.isEmpty = vs.isEmpty := by
  cases h with
  | nil => rfl
  | cons _ _ => rfl
theorem cmpD.mono {op : CmpOp} {x y : D} {M : Hp3} {Q Q' : Bool → Prop} (h : cmpD op x y M Q) (i : ∀ r, Q r → Q' r) : cmpD op x y M Q' := by
  cases op with
  | Lt => cases x <;> cases y <;> first | exact h.elim | exact i _ h
  | LtE => cases x <;> cases y <;> first | exact h.elim | exact i _ h
  | Gt => cases x <;> cases y <;> first | exact h.elim | exact i _ h
  | GtE => cases x <;> cases y <;> first | exact h.elim | exact i _ h
  | Eq => obtain ⟨b, e, q⟩ := h; exact ⟨b, e, i _ q⟩
  | NotEq => obtain ⟨b, e, q⟩ := h; exact ⟨b, e, i _ q⟩
  | In => obtain ⟨b, e, q⟩ := h; exact ⟨b, e, i _ q⟩
  | NotIn => obtain ⟨b, e, q⟩ := h; exact ⟨b, e, i _ q⟩
  | Is => cases y <;> first | exact h.elim | exact i _ h
  | IsNot => cases y <;> first | exact h.elim | exact i _ h
theorem truD_ok {K : PySem.W.Frag} {w : World} {H : Hp} {M : Hp3} (p3 : Rep K w H M) {x : D} {v : V} {r : Bool} (h : truD M x = some r) (d : Den K H x v) : TruV K v H r := by
  cases d with
  | non =>
    cases h
    exact rfl
  | bl b =>
    cases h
    exact rfl
  | int i =>
    cases h
    exact rfl
  | str z =>
    simp only [truD] at h
    split at h
    · rename_i hz
      cases h
      exact ⟨hz, rfl⟩
    · cases h
  | tup hv t =>
    cases h
    exact .inr (.inl ⟨_, hv, by rw [t.isEmpty]⟩)
  | sl _ => cases h
  | ref a =>
    simp only [truD] at h
    cases e : M a with
    | none => rw [e] at h; cases h
    | some o =>
      rw [e] at h
      cases o with
      | lst ds =>
        cases h
        obtain ⟨vs, hv, t⟩ := lstAt_lies p3 (.inl e)
        exact .inl ⟨vs, hv, by rw [t.isEmpty]⟩
      | ro ds =>
        cases h
        obtain ⟨vs, hv, t⟩ := lstAt_lies p3 (.inr e)
        exact .inl ⟨vs, hv, by rw [t.isEmpty]⟩
      | dct _ => cases h
      | lck _ => cases h
section
variable {X : Cx} {a b c : Expr} {ta tb tc : TE3} {ra rb : TT3} {rest : List Expr} {pos : Pos}
theorem s_and (ha : PE3 X a ta) (hb : PE3 X (.BoolOp .And (b :: rest) pos) tb) : PE3 X (.BoolOp .And (a :: b :: rest) pos) fun σ M Q => ta σ M fun x M1 => ∃ r, truD M1 x = some r ∧ if r = true then tb σ M1 Q else Q x M1 :=
  PE.imp (pe_andT ha hb) fun σ H Q h => by
    obtain ⟨σ3, M, Q3, r3, q, fin⟩ := h
    refine ⟨σ3, M, _, r3, q, fun x M1 v H1 x1 p1 d1 ⟨r, e, q1⟩ => ⟨r, truD_ok p1 e d1, ?_⟩⟩
    cases r with
    | true => exact ⟨σ3, M1, Q3, r3.ext x1 p1, q1, fun d M' v' H' x2 => fin d M' v' H' (x1.trans x2)⟩
    | false => exact fin x M1 v H1 x1 p1 d1 q1
theorem s_or (ha : PE3 X a ta) (hb : PE3 X (.BoolOp .Or (b :: rest) pos) tb) : PE3 X (.BoolOp .Or (a :: b :: rest) pos) fun σ M Q => ta σ M fun x M1 => ∃ r, truD M1 x = some r ∧ if r = true then Q x M1 else tb σ M1 Q :=
  PE.imp (pe_orT ha hb) fun σ H Q h => by
    obtain ⟨σ3, M, Q3, r3, q, fin⟩ := h
    refine ⟨σ3, M, _, r3, q, fun x M1 v H1 x1 p1 d1 ⟨r, e, q1⟩ => ⟨r, truD_ok p1 e d1, ?_⟩⟩
    cases r with
    | false => exact ⟨σ3, M1, Q3, r3.ext x1 p1, q1, fun d M' v' H' x2 => fin d M' v' H' (x1.trans x2)⟩
    | true => exact fin x M1 v H1 x1 p1 d1 q1
theorem s_one {op : BoolOp} (ha : PE3 X a ta) : PE3 X (.BoolOp op [a] pos) ta := pe_one ha
theorem s_not (ha : PE3 X a ta) : PE3 X (.UnaryOp .Not a pos) fun σ M Q => ta σ M fun x M1 => ∃ r, truD M1 x = some r ∧ Q (.bl (!r)) M1 :=
  PE.imp (pe_notT ha) fun σ H Q h => by
    obtain ⟨σ3, M, Q3, r3, q, fin⟩ := h
    exact ⟨σ3, M, _, r3, q, fun x M1 v H1 x1 p1 d1 ⟨r, e, q1⟩ => ⟨r, truD_ok p1 e d1, fin _ _ _ _ x1 p1 (.bl _) q1⟩⟩
theorem s_neg (ha : PE3 X a ta) : PE3 X (.UnaryOp .USub a pos) fun σ M Q => ta σ M fun x M1 => ∃ i, x = .int i ∧ Q (.int (-i)) M1 :=
  PE.imp (pe_un un_neg ha) fun σ H Q h => by
    obtain ⟨σ3, M, Q3, r3, q, fin⟩ := h
    refine ⟨σ3, M, _, r3, q, fun x M1 v H1 x1 p1 d1 ⟨i, e, q1⟩ => ?_⟩
    subst e
    exact ⟨i, d1.int_inv, fin _ _ _ _ x1 p1 (.int _) q1⟩
theorem s_ite (hc : PT3 X c ra) (ha : PE3 X a ta) (hb : PE3 X b tb) : PE3 X (.IfExp c a b pos) fun σ M Q => ra σ M fun r M1 => if r = true then ta σ M1 Q else tb σ M1 Q :=
  PE.imp (pe_ifExp hc ha hb) fun σ H Q h => by
    obtain ⟨σ3, M, Q3, r3, q, fin⟩ := h
    refine ⟨σ3, M, _, r3, q, fun r M1 H1 x1 p1 q1 => ?_⟩
    cases r with
    | true => exact ⟨σ3, M1, Q3, r3.ext x1 p1, q1, fun d M' v' H' x2 => fin d M' v' H' (x1.trans x2)⟩
    | false => exact ⟨σ3, M1, Q3, r3.ext x1 p1, q1, fun d M' v' H' x2 => fin d M' v' H' (x1.trans x2)⟩
theorem s_chn (hu : X.A.units + 100 < cLine) {op op' : CmpOp} (hm : lastMarks [op, op'] [b, c] = false) (ha : PE3 X a ta) (hb : PE3 X b tb) (hc : PE3 X c tc) :
    PE3 X (.Compare a [op, op'] [b, c] pos) fun σ M Q => ta σ M fun x M1 => tb σ M1 fun y M2 => cmpD op x y M2 fun r => if r = true then tc σ M2 fun z M3 => cmpD op' y z M3 fun r' => Q (.bl r') M3 else Q (.bl false) M2 :=
  PE.imp (pe_chain (op_cmp hu op) (op_cmp hu op') ha hb hc hm) fun σ H Q h => by
    obtain ⟨σ3, M, Q3, r3, q, fin⟩ := h
    refine ⟨σ3, M, _, r3, q, fun x M1 v H1 x1 p1 d1 q1 => ⟨σ3, M1, _, r3.ext x1 p1, q1, fun y M2 u H2 x2 p2 d2 q2 => ?_⟩⟩
    refine ⟨x, y, M2, fun z M3 => M3 = M2 ∧ ∃ r, z = .bl r ∧ if r = true then tc σ3 M2 fun z' M4 => cmpD op' y z' M4 fun r' => Q3 (.bl r') M4 else Q3 (.bl false) M2, p2, d1.ext x2, d2, cmpD.mono q2 fun r q => ⟨rfl, r, rfl, q⟩, fun z M3 v' H3 x3 p3 d3 q3 => ?_⟩
    obtain ⟨rfl, r, rfl, q3⟩ := q3
    refine ⟨r, d3.bl_inv, ?_⟩
    have r3' := ((r3.ext x1 p1).ext x2 p2).ext x3 p3
    cases r with
    | true =>
      refine ⟨σ3, M3, _, r3', q3, fun z' M4 v4 H4 x4 p4 d4 q4 => ?_⟩
      exact ⟨y, z', M4, Q3, p4, (d2.ext x3).ext x4, d4, q4, fun d M' v' H' x5 => fin d M' v' H' (x1.trans (x2.trans (x3.trans (x4.trans x5))))⟩
    | false => exact fin _ _ _ _ (x1.trans (x2.trans x3)) p3 (.bl _) q3
/-! ### tests -/
theorem t_and1 (ha : PT3 X a ra) : PW X (.BoolOp .And [a] pos) (liftT X.K X.w ra) := pw_and1 ha
theorem PW.imp {e : Expr} {t u : TT} (h : PW X e t) (i : ∀ σ H Q, u σ H Q → t σ H Q) : PW X e u := ⟨fun wh pins s σ H Q I q => h.run wh pins s σ H Q I (i σ H Q q)⟩
theorem t_and (ha : PT3 X a ra) (hb : PW X (.BoolOp .And (b :: rest) pos) (liftT X.K X.w rb)) : PW X (.BoolOp .And (a :: b :: rest) pos) (liftT X.K X.w fun σ M Q => ra σ M fun r M1 => if r = true then rb σ M1 Q else Q false M1) :=
  PW.imp (pw_and ha hb) fun σ H Q h => by
    obtain ⟨σ3, M, Q3, r3, q, fin⟩ := h
    refine ⟨σ3, M, _, r3, q, fun r M1 H1 x1 p1 q1 => ?_⟩
    cases r with
    | true => exact ⟨σ3, M1, Q3, r3.ext x1 p1, q1, fun b M' H' x2 => fin b M' H' (x1.trans x2)⟩
    | false => exact fin _ _ _ x1 p1 q1
theorem t_or1 (ha : PT3 X a ra) : PW X (.BoolOp .Or [a] pos) (liftT X.K X.w ra) := pw_or1 ha
theorem t_or (ha : PT3 X a ra) (hb : PW X (.BoolOp .Or (b :: rest) pos) (liftT X.K X.w rb)) : PW X (.BoolOp .Or (a :: b :: rest) pos) (liftT X.K X.w fun σ M Q => ra σ M fun r M1 => if r = true then Q true M1 else rb σ M1 Q) :=
  PW.imp (pw_or ha hb) fun σ H Q h => by
    obtain ⟨σ3, M, Q3, r3, q, fin⟩ := h
    refine ⟨σ3, M, _, r3, q, fun r M1 H1 x1 p1 q1 => ?_⟩
    cases r with
    | false => exact ⟨σ3, M1, Q3, r3.ext x1 p1, q1, fun b M' H' x2 => fin b M' H' (x1.trans x2)⟩
    | true => exact fin _ _ _ x1 p1 q1
theorem t_not (ha : PT3 X a ra) : PT3 X (.UnaryOp .Not a pos) fun σ M Q => ra σ M fun r M1 => Q (!r) M1 :=
  PT.imp (pt_not ha) fun σ H Q h => by
    obtain ⟨σ3, M, Q3, r3, q, fin⟩ := h
    exact ⟨σ3, M, _, r3, q, fun r M1 H1 x1 p1 q1 => fin _ _ _ x1 p1 q1⟩
/-- the truth of a value that is no comparison, and, or, not -/
theorem t_val (ha : PE3 X a ta) (he : ∀ whole, isTrue a X.env whole = (do let v ← whole; standAt a.pos; holding [v] (truthy v))) : PT3 X a fun σ M Q => ta σ M fun x M1 => ∃ r, truD M1 x = some r ∧ Q r M1 :=
  PT.imp (pt_truth ha he) fun σ H Q h => by
    obtain ⟨σ3, M, Q3, r3, q, fin⟩ := h
    exact ⟨σ3, M, _, r3, q, fun x M1 v H1 x1 p1 d1 ⟨r, e, q1⟩ => ⟨r, truD_ok p1 e d1, fin _ _ _ x1 p1 q1⟩⟩
theorem t_cmp (hu : X.A.units + 100 < cLine) {op : CmpOp} (hm : behindInMarks op b = false) (ha : PE3 X a ta) (hb : PE3 X b tb) : PT3 X (.Compare a [op] [b] pos) fun σ M Q => ta σ M fun x M1 => tb σ M1 fun y M2 => cmpD op x y M2 fun r => ∃ k, truD M2 (.bl r) = some k ∧ Q k M2 :=
  PT.imp (pt_cmpR (op_cmp hu op) ha hb hm) fun σ H Q h => by
    obtain ⟨σ3, M, Q3, r3, q, fin⟩ := h
    refine ⟨σ3, M, _, r3, q, fun x M1 v H1 x1 p1 d1 q1 => ⟨σ3, M1, _, r3.ext x1 p1, q1, fun y M2 u H2 x2 p2 d2 q2 => ?_⟩⟩
    refine ⟨x, y, M2, fun z M3 => M3 = M2 ∧ ∃ r, z = .bl r ∧ Q3 r M2, p2, d1.ext x2, d2, cmpD.mono q2 fun r ⟨k, e, q⟩ => ⟨rfl, r, rfl, ?_⟩, fun z M3 v' H3 x3 p3 d3 q3 => ?_⟩
    · cases e
      exact q
    · obtain ⟨rfl, r, rfl, q3⟩ := q3
      exact ⟨r, d3.bl_inv, fin _ _ _ (x1.trans (x2.trans x3)) p3 q3⟩
theorem t_chn (hu : X.A.units + 100 < cLine) {op op' : CmpOp} (hm : lastMarks [op, op'] [b, c] = false) (ha : PE3 X a ta) (hb : PE3 X b tb) (hc : PE3 X c tc) :
    PT3 X (.Compare a [op, op'] [b, c] pos) fun σ M Q => ta σ M fun x M1 => tb σ M1 fun y M2 => cmpD op x y M2 fun r => if r = true then tc σ M2 fun z M3 => cmpD op' y z M3 fun r' => ∃ k, truD M3 (.bl r') = some k ∧ Q k M3 else ∃ k, truD M2 (.bl false) = some k ∧ Q k M2 :=
  PT.imp (pt_chain (op_cmp hu op) (op_cmp hu op') ha hb hc hm) fun σ H Q h => by
    obtain ⟨σ3, M, Q3, r3, q, fin⟩ := h
    refine ⟨σ3, M, _, r3, q, fun x M1 v H1 x1 p1 d1 q1 => ⟨σ3, M1, _, r3.ext x1 p1, q1, fun y M2 u H2 x2 p2 d2 q2 => ?_⟩⟩
    refine ⟨x, y, M2, fun z M3 => M3 = M2 ∧ ∃ r, z = .bl r ∧ if r = true then tc σ3 M2 fun z' M4 => cmpD op' y z' M4 fun r' => ∃ k, truD M4 (.bl r') = some k ∧ Q3 k M4 else ∃ k, truD M2 (.bl false) = some k ∧ Q3 k M2, p2, d1.ext x2, d2, cmpD.mono q2 fun r q => ⟨rfl, r, rfl, q⟩, fun z M3 v' H3 x3 p3 d3 q3 => ?_⟩
    obtain ⟨rfl, r, rfl, q3⟩ := q3
    refine ⟨r, d3.bl_inv, ?_⟩
    have r3' := ((r3.ext x1 p1).ext x2 p2).ext x3 p3
    cases r with
    | true =>
      refine ⟨σ3, M3, _, r3', q3, fun z' M4 v4 H4 x4 p4 d4 q4 => ?_⟩
      refine ⟨y, z', M4, fun z5 M5 => M5 = M4 ∧ ∃ r, z5 = .bl r ∧ Q3 r M4, p4, (d2.ext x3).ext x4, d4, cmpD.mono q4 fun r ⟨k, e, q⟩ => ⟨rfl, r, rfl, ?_⟩, fun z5 M5 v5 H5 x5 p5 d5 q5 => ?_⟩
      · cases e
        exact q
      · obtain ⟨rfl, r, rfl, q5⟩ := q5
        exact ⟨r, d5.bl_inv, fin _ _ _ (x1.trans (x2.trans (x3.trans (x4.trans x5)))) p5 q5⟩
    | false =>
      obtain ⟨k, e, q⟩ := q3
      cases e
      exact ⟨false, rfl, fin _ _ _ (x1.trans (x2.trans x3)) p3 q⟩
end
end L3

set_option Elab.async false
set_option linter.all false
set_option maxRecDepth 100000
set_option maxHeartbeats 4000000
/-! C6: argument lists, displays, subscripts, slices. -/
namespace L3
open PySem PySem.Spec PyProof.Rows L2

def plainA : Expr → Bool
  | .Starred _ _ => false
  | _ => true
theorem star_plain {e : Expr} (h : plainA e = true) (es : List Expr) (env : Env) : starEach (e :: es) env = (false, eval e env) :: starEach es env := by
  cases e <;> first | rfl | cases h
theorem stars_plain (pos : Pos) (env : Env) : ∀ {es : List Expr}, es.all plainA = true → (backTo pos (starEach es env)).any (·.1) = false
  | [], _ => rfl
  | e :: es, h => by
    rw [List.all_cons, Bool.and_eq_true] at h
    rw [star_plain h.1]
    exact stars_plain pos env h.2
section
variable {X : Cx} {e a b : Expr} {es : List Expr} {te ta tb : TE3} {t : TA3} {pos p2 : Pos} {lo hi : Option Expr}
theorem a_nil : PA3 X [] fun _ M Q => Q [] M := PA.imp pa_nil fun σ H Q h => by
  obtain ⟨σ3, M, Q3, r3, q, fin⟩ := h
  exact fin [] M [] H (Ext.refl H) r3.rep .nil q
theorem a_cons (hp : plainA e = true) (he : PE3 X e te) (hes : PA3 X es t) : PA3 X (e :: es) fun σ M Q => te σ M fun d M1 => t σ M1 fun ds M2 => Q (d :: ds) M2 :=
  PA.imp (pa_cons he hes (star_plain hp es X.env)) fun σ H Q h => by
    obtain ⟨σ3, M, Q3, r3, q, fin⟩ := h
    refine ⟨σ3, M, _, r3, q, fun d M1 v H1 x1 p1 d1 q1 => ⟨σ3, M1, _, r3.ext x1 p1, q1, fun ds M2 vs H2 x2 p2 d2 q2 => ?_⟩⟩
    exact fin _ M2 _ H2 (x1.trans x2) p2 (.cons (d1.ext x2) d2) q2
theorem s_tup {k : Nat} (h : PA3 X es t) : PE3 X (.Tuple es k pos) fun σ M Q => t σ M fun ds M1 => ds.length ≤ sizeLine ∧ Q (.tup ds) M1 :=
  PE.imp (pe_tup h) fun σ H Q h => by
    obtain ⟨σ3, M, Q3, r3, q, fin⟩ := h
    refine ⟨σ3, M, _, r3, q, fun ds M1 vs H1 x1 p1 d1 ⟨hz, q1⟩ => ⟨by rw [← d1.length]; exact hz, ?_⟩⟩
    exact new_tup p1 d1 q1 fun d M' v' H' x2 => fin d M' v' H' (x1.trans x2)
theorem s_lst (h : PA3 X es t) : PE3 X (.List es pos) fun σ M Q => t σ M fun ds M1 => ds.length ≤ sizeLine ∧ ∀ p, M1 p = none → Q (.ref p) (up3 M1 p (.lst ds)) :=
  PE.imp (pe_lst h) fun σ H Q h => by
    obtain ⟨σ3, M, Q3, r3, q, fin⟩ := h
    refine ⟨σ3, M, _, r3, q, fun ds M1 vs H1 x1 p1 d1 ⟨hz, q1⟩ => ⟨by rw [← d1.length]; exact hz, ?_⟩⟩
    exact new_list p1 d1 q1 fun d M' v' H' x2 => fin d M' v' H' (x1.trans x2)

/-! ### subscripts -/
theorem itemAt_den {K : PySem.W.Frag} {H : Hp} {ds : List D} {vs : List V} (t : Dens K H ds vs) {i : Int} {d : D} (h : itemAt ds i = some d) : ∃ v, atI vs i = some v ∧ Den K H d v := by
  have hl := t.length
  unfold itemAt atI at h
  unfold atI
  rw [← hl]
  cases e : ixN ds.length i with
  | none => rw [e] at h; cases h
  | some j =>
    rw [e] at h
    obtain ⟨v, e1, dv⟩ := t.get (i := j) h
    exact ⟨v, e1, dv⟩
theorem ix_all (hu : X.A.units + 100 < cLine) : IxR X (liftR X.K X.w subD) := by
  intro value slice pins s σ H v u vv uu Q I rv ru h hs
  obtain ⟨x, y, M, Q3, p3, dx, dy, q, k⟩ := h
  cases x with
  | tup ds =>
    cases y with
    | int i =>
      obtain ⟨d, e, q⟩ := q
      obtain ⟨a, vs, rfl, hv, t⟩ := dx.tup_inv
      obtain ⟨w, e1, dw⟩ := itemAt_den t e
      exact ix_tup value slice pins s σ H _ _ vv uu Q I rv ru ⟨a, vs, i, w, rfl, dy.int_inv, hv, e1, k _ _ _ _ (Ext.refl H) p3 dw q⟩ hs
    | _ => exact q.elim
  | str z =>
    cases y with
    | int i =>
      obtain ⟨hz, c, e, q⟩ := q
      exact ix_str value slice pins s σ H _ _ vv uu Q I rv ru ⟨z, i, c, dx.str_inv, dy.int_inv, hz, e, k _ _ _ _ (Ext.refl H) p3 (.str _) q⟩ hs
    | _ => exact q.elim
  | sl ns =>
    obtain ⟨i, n, rfl, e, q⟩ := q
    obtain ⟨a, rfl, hv⟩ := dx.sl_inv
    refine ix_list value slice pins s σ H _ _ vv uu Q I rv ru ⟨a, _, i, .int n, rfl, dy.int_inv, hv, ?_, k _ _ _ _ (Ext.refl H) p3 (.int n) q⟩ hs
    unfold itemAt atI at e
    unfold atI
    rw [List.length_map]
    cases ej : ixN ns.length i with
    | none => rw [ej] at e; cases e
    | some j =>
      rw [ej] at e
      show (ns.map V.int)[j]? = _
      rw [List.getElem?_map, show ns[j]? = some n from e]
      rfl
  | ref a =>
    rcases q with ⟨ds, i, d, rfl, hl, e, q⟩ | ⟨kvs, kk, d, hd, hk, hl, q⟩
    · obtain ⟨vs, hv, t⟩ := lstAt_lies p3 hl
      obtain ⟨w, e1, dw⟩ := itemAt_den t e
      exact ix_list value slice pins s σ H _ _ vv uu Q I rv ru ⟨a, vs, i, w, dx.ref_inv, dy.int_inv, hv, e1, k _ _ _ _ (Ext.refl H) p3 dw q⟩ hs
    · cases dx
      cases (show vv = Value.ref a from rv)
      obtain ⟨xs, hx, r⟩ := dctAt_lies p3 hd
      have D := dict_at I hx r
      have ko := key_ok I hk dy ru
      rcases look_ent (k := kk) r.ent with ⟨e1, _⟩ | ⟨d', u', e1, e2, ⟨w, dw, rw'⟩⟩
      · rw [hl] at e1
        cases e1
      · rw [hl] at e1
        cases e1
        exact tail_any D.typeIs slot_dict_getitem.lookup (item_mix (by omega) ko D e2 ⟨w, H, I.tok _, rw', k _ _ _ _ (Ext.refl H) p3 dw q⟩) hs
  | _ => exact q.elim
def ixE : Expr → Bool
  | .Slice _ _ _ _ => false
  | _ => true
theorem ixE_ok {b : Expr} (h : ixE b = true) : PlainIx b := by
  intro o i
  cases b <;> first | rfl | cases h
theorem s_sub (hu : X.A.units + 100 < cLine) (hx : ixE b = true) (ha : PE3 X a ta) (hb : PE3 X b tb) : PE3 X (.Subscript a b pos) fun σ M Q => ta σ M fun x M1 => tb σ M1 fun y M2 => subD x y M2 Q :=
  PE.imp (pe_ix (ix_all hu) ha hb (ixE_ok hx)) fun σ H Q h => liftE.then h fun x y M2 v u H2 Q3 p2 d1 d2 q k => ⟨x, y, M2, Q3, p2, d1, d2, q, k⟩

/-! ### slices -/
abbrev TO3 := St3 → Hp3 → (Option Int → Hp3 → Prop) → Prop
def liftO (K : PySem.W.Frag) (w : World) (t : TO3) : TO := fun σ H Q => ∃ σ3 M Q3, R3 K w σ3 M σ H ∧ t σ3 M Q3 ∧ ∀ o M' H', Ext H H' → Rep K w H' M' → Q3 o M' → Q o H'
abbrev PO3 (X : Cx) (e : Option Expr) (t : TO3) : Prop := PO X e (liftO X.K X.w t)
theorem PO.imp {e : Option Expr} {t u : TO} (h : PO X e t) (i : ∀ σ H Q, u σ H Q → t σ H Q) : PO X e u := ⟨fun pins s σ H Q I q => h.run pins s σ H Q I (i σ H Q q)⟩
theorem o_no : PO3 X none fun _ M Q => Q none M := PO.imp po_none fun σ H Q h => by
  obtain ⟨σ3, M, Q3, r3, q, fin⟩ := h
  exact fin none M H (Ext.refl H) r3.rep q
theorem o_yes (h : PE3 X e te) : PO3 X (some e) fun σ M Q => te σ M fun x M1 => ∃ i, x = .int i ∧ Q (some i) M1 := PO.imp (po_some h) fun σ H Q h => by
  obtain ⟨σ3, M, Q3, r3, q, fin⟩ := h
  refine ⟨σ3, M, _, r3, q, fun x M1 v H1 x1 p1 d1 ⟨i, e, q1⟩ => ?_⟩
  subst e
  exact ⟨i, d1.int_inv, fin _ M1 H1 x1 p1 q1⟩
theorem Dens.part {K : PySem.W.Frag} {H : Hp} {ds : List D} {vs : List V} (t : Dens K H ds vs) (lo hi : Option Int) : Dens K H (partD ds lo hi) (cutV vs lo hi) := by
  unfold partD cutV
  rw [t.length]
  exact (t.drop _).take _
def liftSl (K : PySem.W.Frag) (w : World) : V → Option Int → Option Int → Hp → VK → Prop := fun v lo hi H Q => ∃ x M Q3, Rep K w H M ∧ Den K H x v ∧ slcD x lo hi M Q3 ∧ ∀ d M' v' H', Ext H H' → Rep K w H' M' → Den K H' d v' → Q3 d M' → Q v' H'
theorem sl_all : SlR X (liftSl X.K X.w) := by
  intro pins s σ H v vv vl vu lo hi sl Q I rv hs pl pu h
  obtain ⟨x, M, Q3, p3, dx, q, k⟩ := h
  cases x with
  | tup ds =>
    obtain ⟨hw, q⟩ := q
    obtain ⟨a, vs, rfl, hv, t⟩ := dx.tup_inv
    exact sl_tup pins s σ H _ vv vl vu lo hi sl Q I rv hs pl pu ⟨a, vs, rfl, hv, by rw [← t.length]; exact hw, new_tup p3 (t.part lo hi) q k⟩
  | str z =>
    obtain ⟨hz, q⟩ := q
    exact sl_str pins s σ H _ vv vl vu lo hi sl Q I rv hs pl pu ⟨z, dx.str_inv, hz, k _ _ _ _ (Ext.refl H) p3 (.str _) q⟩
  | ref a =>
    obtain ⟨ds, hl, q⟩ := q
    obtain ⟨vs, hv, t⟩ := lstAt_lies p3 (.inl hl)
    exact sl_list pins s σ H _ vv vl vu lo hi sl Q I rv hs pl pu ⟨a, vs, dx.ref_inv, hv, new_list p3 (t.part lo hi) q k⟩
  | _ => exact q.elim
theorem s_slc {tl th : TO3} (he : PE3 X e te) (hl : PO3 X lo tl) (hh : PO3 X hi th) : PE3 X (.Subscript e (.Slice lo hi none p2) pos) fun σ M Q => te σ M fun x M1 => tl σ M1 fun l M2 => th σ M2 fun h M3 => slcD x l h M3 Q :=
  PE.imp (pe_slice sl_all he hl hh) fun σ H Q h => by
    obtain ⟨σ3, M, Q3, r3, q, fin⟩ := h
    refine ⟨σ3, M, _, r3, q, fun x M1 v H1 x1 p1 d1 q1 => ⟨σ3, M1, _, r3.ext x1 p1, q1, fun l M2 H2 x2 p2 q2 => ⟨σ3, M2, _, (r3.ext x1 p1).ext x2 p2, q2, fun o M3 H3 x3 p3 q3 => ?_⟩⟩⟩
    exact ⟨x, M3, Q3, p3, (d1.ext x2).ext x3, q3, fun d M' v' H' x4 => fin d M' v' H' (x1.trans (x2.trans (x3.trans x4)))⟩
theorem s_rev {k : Nat} {p1 p3 : Pos} (he : PE3 X e te) : PE3 X (.Subscript e (.Slice none none (some (.UnaryOp .USub (.Constant (.int 1) k p1) p2)) p3) pos) fun σ M Q => te σ M fun x M1 => ∃ q ds, x = .ref q ∧ M1 q = some (.lst ds) ∧ ∀ p, M1 p = none → Q (.ref p) (up3 M1 p (.lst ds.reverse)) :=
  PE.imp (pe_revL he) fun σ H Q h => by
    obtain ⟨σ3, M, Q3, r3, q, fin⟩ := h
    refine ⟨σ3, M, _, r3, q, fun x M1 v H1 x1 p1 d1 ⟨a, ds, e, hl, q1⟩ => ?_⟩
    subst e
    obtain ⟨vs, hv, t⟩ := lstAt_lies p1 (.inl hl)
    exact ⟨a, vs, d1.ref_inv, hv, new_list p1 t.rev q1 fun d M' v' H' x2 => fin d M' v' H' (x1.trans x2)⟩
end
end L3

set_option Elab.async false
set_option linter.all false
set_option maxRecDepth 100000
set_option maxHeartbeats 4000000
/-! C7: helpers: data read in the heap with dicts, reordered lists, many objects tracked at once, a dict's store. -/
namespace L3
open PySem PySem.Spec PyProof.Rows L2

/-! ### many new objects at once -/
def putH (H : Hp) : List (Addr × HO) → Hp
  | [] => H
  | (a, o) :: r => upd (putH H r) a o
theorem putH_off {H : Hp} {b : Addr} : ∀ {ns : List (Addr × HO)}, b ∉ ns.map (·.1) → putH H ns b = H b
  | [], _ => rfl
  | (a, o) :: r, h => by
    rw [List.map_cons, List.mem_cons, not_or] at h
    show upd (putH H r) a o b = H b
    rw [upd_ne h.1, putH_off h.2]
theorem putH_at {H : Hp} : ∀ {ns : List (Addr × HO)} {p : Addr × HO}, (ns.map (·.1)).Nodup → p ∈ ns → putH H ns p.1 = some p.2
  | [], _, _, h => by cases h
  | (a, o) :: r, p, nd, h => by
    rw [List.map_cons, List.nodup_cons] at nd
    show upd (putH H r) a o p.1 = some p.2
    rcases List.mem_cons.mp h with rfl | h
    · exact upd_same
    · have hm : p.1 ∈ r.map (·.1) := List.mem_map.mpr ⟨p, h, rfl⟩
      rw [upd_ne (fun z => nd.1 (by rw [← z]; exact hm)), putH_at nd.2 h]
section
variable {X : Cx} {pins : List (Addr × Obj)} {σ : L2.St} {H : Hp} {s : Shared} {M : Hp3}
theorem Inv.many {h' : Heap} {tk : Nat} {ns : List (Addr × HO)} (I : Inv X pins σ H s) (hk : ∀ b o, s.heap.get? b = some o → h'.get? b = some o) (nd : (ns.map (·.1)).Nodup) (lo : ∀ p ∈ ns, s.heap.objs.size ≤ p.1)
    (ok : ∀ p ∈ ns, ObjOk X.prog X.w (putH H ns) h' p.1 p.2) : Inv X pins σ (putH H ns) { s with heap := h', toks := tk } := by
  have new : ∀ a ∈ ns.map (·.1), H a = none := fun a ha => by
    obtain ⟨p, hp, rfl⟩ := List.mem_map.mp ha
    exact I.hok.fresh (lo p hp)
  have low : ∀ b o, s.heap.get? b = some o → b ∉ ns.map (·.1) := fun b o e hb => by
    obtain ⟨p, hp, rfl⟩ := List.mem_map.mp hb
    exact absurd (Heap.lt_size e) (Nat.not_lt.mpr (lo p hp))
  have kp : ∀ b u, H b = some u → putH H ns b = some u := fun b u e => by
    rw [putH_off (fun z => by rw [new b z] at e; cases e)]
    exact e
  refine I.call' (ch := []) rfl ⟨fun b o q _ _ _ => hk b o q, fun b o q _ _ _ => ⟨o.slots, hk b o q⟩, fun b o q n _ => ?_, fun b o q _ => ⟨o, hk b o q⟩, fun b xs q => kp b _ q, fun b o u q => kp b _ q, fun b ps q => ⟨#[], by rw [kp b _ q]; simp⟩⟩ (fun b u q => ?_) I.bare fun b z => by simp at z
  · rw [putH_off (low b o q)]
    exact n
  · by_cases hb : b ∈ ns.map (·.1)
    · obtain ⟨p, hp, rfl⟩ := List.mem_map.mp hb
      rw [putH_at nd hp] at q
      cases q
      exact ok p hp
    · rw [putH_off hb] at q
      exact (I.hok b u q).stay (fun d v _ y => hk d v y) (fun d y => kp d _ y) fun d xs y => kp d _ y
theorem Ext.many {ns : List (Addr × HO)} (new : ∀ a ∈ ns.map (·.1), H a = none) : Ext H (putH H ns) :=
  ⟨fun a xs e => by rw [putH_off (fun z => by rw [new a z] at e; cases e)]; exact e, fun a o u e => by rw [putH_off (fun z => by rw [new a z] at e; cases e)]; exact e⟩

/-! ### a dict's objects -/
theorem dictO_ok {P : Program} {w : World} {H' : Hp} {h : Heap} {a : Addr} {xs : List NE} {o : Obj} {ep : Nat} (ho : h.get? a = some o) (hc : o.ExactDict) (hd : o.data = .dict (xs.map (entN w)).toArray ep) : ObjOk P w H' h a (DictO w a xs) :=
  ⟨⟨o, ep, ho, hc, hd⟩, ⟨o, ho⟩, fun h1 h2 ⟨o', ep', e, c, d⟩ st => ⟨o', ep', st o' e, c, d⟩⟩
theorem dictN_ok {P : Program} {w : World} {H' : Hp} {h : Heap} {a : Addr} {xs : List NE} (D : DictN w h a xs) : ObjOk P w H' h a (DictO w a xs) := by
  obtain ⟨o, ep, E, c⟩ := D
  exact dictO_ok E.ho c E.hd
theorem EntD.key {K : PySem.W.Frag} {H : Hp} {p : D × D} {x : NE} (e : EntD K H p x) : keyOf p.1 = some x.1 := e.1
theorem any_key {K : PySem.W.Frag} {H : Hp} {k : NestedKey} : ∀ {kvs : List (D × D)} {xs : List NE}, Paired (EntD K H) kvs xs → (kvs.any (fun p => decide (keyOf p.1 = some k)) = true ↔ k ∈ xs.map (·.1))
  | _, _, .nil => by simp
  | _, _, .cons (a := p) (b := x) h t => by
    rw [List.any_cons, List.map_cons, List.mem_cons, Bool.or_eq_true, any_key t, h.key]
    simp [eq_comm]
theorem put_ent {K : PySem.W.Frag} {H : Hp} {k : NestedKey} {y z : D} {u v : Value} (hk : keyOf y = some k) (du : DenU K H y u) (dv : DenU K H z v) {kvs : List (D × D)} {xs : List NE} (h : Paired (EntD K H) kvs xs) : Paired (EntD K H) (putD kvs k y z) (putN xs k u v) := by
  unfold putD putN
  by_cases c : k ∈ xs.map (·.1)
  · rw [if_pos c, if_pos ((any_key h).mpr c)]
    clear c
    induction h with
    | nil => exact .nil
    | @cons p x l r hh t ih =>
      rw [List.map_cons, List.map_cons]
      refine .cons ?_ ih
      obtain ⟨e1, e2, e3⟩ := hh
      unfold setN
      by_cases hx : x.1 = k
      · rw [if_pos hx, if_pos (by rw [e1, hx])]
        exact ⟨e1, e2, dv⟩
      · rw [if_neg hx, if_neg (by rw [e1]; exact fun z => hx (Option.some.inj z))]
        exact ⟨e1, e2, e3⟩
  · rw [if_neg c, if_neg (fun q => c ((any_key h).mp q))]
    have app : ∀ {l : List (D × D)} {r : List NE}, Paired (EntD K H) l r → Paired (EntD K H) (l ++ [(y, z)]) (r ++ [(k, u, v)]) := by
      intro l r p
      induction p with
      | nil => exact .cons ⟨hk, du, dv⟩ .nil
      | cons a _ ih => exact .cons a ih
    exact app h
theorem putN_nodup {xs : List NE} {k : NestedKey} {u v : Value} (nd : (xs.map (·.1)).Nodup) : ((putN xs k u v).map (·.1)).Nodup := by
  unfold putN
  by_cases c : k ∈ xs.map (·.1)
  · rw [if_pos c, List.map_map, show ((fun x : NE => x.1) ∘ setN k v) = fun x => x.1 from funext fun x => by unfold setN; dsimp only [Function.comp]; split <;> rfl]
    exact nd
  · rw [if_neg c, List.map_append, List.map_cons, List.map_nil]
    exact List.nodup_append.mpr ⟨nd, List.nodup_cons.mpr ⟨by simp, List.nodup_nil⟩, fun a ha b hb e => by
      have e2 : a = k := e.trans (congrArg (·) (List.mem_singleton.mp hb))
      exact c (by rw [← e2]; exact ha)⟩
theorem putN_length {xs : List NE} {k : NestedKey} {u v : Value} : (putN xs k u v).length ≤ xs.length + 1 := by
  unfold putN
  split <;> simp
/-- d[y] = z -/
theorem dict_put {m : Sem Unit} {A : Around} {E : Value → Shared → Prop} {a : Addr} {kvs : List (D × D)} {y z : D} {k : NestedKey} {vy vz : V} {u v : Value} {Q : Unit → Shared → Prop} (I : Inv X pins σ H s) (p3 : Rep X.K X.w H M) (hM : M a = some (.dct kvs)) (hk : keyOf y = some k) (hz : kvs.length < sizeLine)
    (dy : Den X.K H y vy) (ry : RelV vy u) (dz : Den X.K H z vz) (rz : RelV vz v) (h : ∀ s' H', Ext H H' → Inv X pins σ H' s' → Rep X.K X.w H' (up3 M a (.dct (putD kvs k y z))) → Q () s')
    (go : ∀ xs, DictN X.w s.heap a xs → KeyOk s.heap k u → xs.length ≤ sizeLine → (∀ h' tk, DictN X.w h' a (putN xs k u v) → Heap.SameBut a s.heap h' → Q () { s with heap := h', toks := tk }) → wpAny (model X.prog X.w) A m Q E s) : wpAny (model X.prog X.w) A m Q E s := by
  obtain ⟨xs, hx, r⟩ := p3 a _ hM
  have D := dict_at I (.inl hx) r
  have hl : kvs.length = xs.length := Paired.length r.ent
  refine go xs D (key_ok I hk dy ry) r.sz fun h' tk D' sb => ?_
  have he : ∃ q, h'.get? a = some q := let ⟨q, _, E, _⟩ := D'; ⟨q, E.ho⟩
  have x1 : Ext H (upd H a (DictO X.w a (putN xs k u v))) := Ext.put hx (fun _ e => by cases e) fun _ _ e => by cases e
  refine h _ (upd H a (DictO X.w a (putN xs k u v))) x1 (d_write I (by rw [hx]; exact True.intro) sb he (dictN_ok D')) ?_
  refine p3.put hx (fun _ e => by cases e) (fun _ _ e => by cases e) ⟨putN xs k u v, upd_same, ?_⟩
  exact ⟨r.sys, put_ent hk ⟨vy, dy.ext x1, ry⟩ ⟨vz, dz.ext x1, rz⟩ (Paired.ex r.ent fun _ _ ⟨a, b, c⟩ => ⟨a, b.ext x1, c.ext x1⟩), putN_nodup r.nd, by have := putN_length (xs := xs) (k := k) (u := u) (v := v); omega⟩
end

/-! ### data with dicts, read -/
theorem densU {K : PySem.W.Frag} {H : Hp} : ∀ {ds : List D} {vs : List V} {us : List Value}, Dens K H ds vs → Vals vs us → Paired (DenU K H) ds us
  | _, _, _, .nil, .nil => .nil
  | _, _, _, .cons h t, .cons r q => .cons ⟨_, h, r⟩ (densU t q)
theorem entsK {K : PySem.W.Frag} {H : Hp} : ∀ {kvs : List (D × D)} {xs : List NE}, Paired (EntD K H) kvs xs → Paired (DenU K H) (kvs.map (·.1)) (xs.map fun x => x.2.1)
  | _, _, .nil => .nil
  | _, _, .cons h t => .cons h.2.1 (entsK t)
theorem entsV {K : PySem.W.Frag} {H : Hp} : ∀ {kvs : List (D × D)} {xs : List NE}, Paired (EntD K H) kvs xs → Paired (DenU K H) (kvs.map (·.2)) (xs.map fun x => x.2.2)
  | _, _, .nil => .nil
  | _, _, .cons h t => .cons h.2.2 (entsV t)
section
variable {X : Cx} {pins : List (Addr × Obj)} {σ : L2.St} {H : Hp} {s : Shared} {M : Hp3}
mutual
theorem reads_at (I : Inv X pins σ H s) (p3 : Rep X.K X.w H M) : ∀ {d : D} {p : PyData} {u : Value}, DataAt M d p → DenU X.K H d u → ∃ as, Reads s.heap u p as ∧ ∀ b ∈ as, ∃ o, H b = some o
  | _, _, u, .non, ⟨v, e, r⟩ => by
    cases e
    cases (show u = Value.none from r)
    exact ⟨_, .none, fun _ h => nomatch h⟩
  | _, _, u, .bl b, ⟨v, e, r⟩ => by
    cases e
    cases (show u = Value.bool b from r)
    exact ⟨_, .bool b, fun _ h => nomatch h⟩
  | _, _, u, .int i, ⟨v, e, r⟩ => by
    cases e
    obtain ⟨t, rfl⟩ := (show ∃ t, u = Value.int i t from r)
    exact ⟨_, .int i t, fun _ h => nomatch h⟩
  | _, _, u, .str x, ⟨v, e, r⟩ => by
    cases e
    obtain ⟨t, rfl⟩ := (show ∃ t, u = Value.str x t from r)
    exact ⟨_, .str x t, fun _ h => nomatch h⟩
  | _, _, u, .tup t, ⟨v, e, r⟩ => by
    obtain ⟨a, vs, rfl, hv, tv⟩ := e.tup_inv
    cases (show u = Value.ref a from r)
    obtain ⟨its, rv, ⟨o, ho, hc, n, hd⟩, _⟩ := I.tuple hv
    obtain ⟨as, ra, ha⟩ := reads_all I p3 t (densU tv rv)
    exact ⟨as, .tuple ho hc hd (by simpa using ra), ha⟩
  | _, _, u, .lst (a := a) hm t, ⟨v, e, r⟩ => by
    cases e
    cases (show u = Value.ref a from r)
    obtain ⟨vs, hv, tv⟩ := p3 a _ hm
    obtain ⟨its, rv, ⟨o, n, ho, hc, hdd, hd⟩, _⟩ := I.list (.of hv)
    obtain ⟨as, ra, ha⟩ := reads_all I p3 t (densU tv rv)
    refine ⟨a :: as, .list ho hc hd (by simpa using ra), fun b hb => ?_⟩
    rcases List.mem_cons.mp hb with rfl | hb
    · exact ⟨_, hv⟩
    · exact ha b hb
  | _, _, u, .dct (a := a) hm tk tv, ⟨v, e, r⟩ => by
    cases e
    cases (show u = Value.ref a from r)
    obtain ⟨xs, hx, dr⟩ := p3 a _ hm
    obtain ⟨o, ep, E, hc⟩ := dict_at I (.inl hx) dr
    obtain ⟨as, ra, ha⟩ := reads_all I p3 tk (entsK dr.ent)
    obtain ⟨bs, rb, hb⟩ := reads_all I p3 tv (entsV dr.ent)
    refine ⟨a :: as ++ bs, .dict E.ho hc.1 E.hd (by rw [List.toList_toArray, List.map_map]; exact ra) (by rw [List.toList_toArray, List.map_map]; exact rb), fun b hm => ?_⟩
    rcases List.mem_append.mp hm with hm | hm
    · rcases List.mem_cons.mp hm with rfl | hm
      · exact ⟨_, hx⟩
      · exact ha b hm
    · exact hb b hm
theorem reads_all (I : Inv X pins σ H s) (p3 : Rep X.K X.w H M) : ∀ {ds : List D} {ps : List PyData} {us : List Value}, DataAts M ds ps → Paired (DenU X.K H) ds us → ∃ as, ReadsAll s.heap us ps as ∧ ∀ b ∈ as, ∃ o, H b = some o
  | _, _, _, .nil, r => by
    cases r
    exact ⟨[], .nil, fun _ h => nomatch h⟩
  | _, _, _, .cons h t, r => by
    cases r with
    | cons r1 r2 =>
      obtain ⟨as, ra, ha⟩ := reads_at I p3 h r1
      obtain ⟨bs, rb, hb⟩ := reads_all I p3 t r2
      exact ⟨as ++ bs, .cons ra rb, fun b hm => (List.mem_append.mp hm).elim (ha b) (hb b)⟩
end
end
end L3

set_option Elab.async false
set_option linter.all false
set_option maxRecDepth 100000
set_option maxHeartbeats 4000000
/-! C8: built-in functions over data. -/
namespace L3
open PySem PySem.Spec PyProof.Rows L2

/-- a call over data, over the hand layer -/
def liftC (K : PySem.W.Frag) (w : World) (r : List D → Hp3 → VK3 → Prop) : List V → Hp → VK → Prop := fun vs H Q => ∃ ds M Q3, Rep K w H M ∧ Dens K H ds vs ∧ r ds M Q3 ∧ ∀ d M' v' H', Ext H H' → Rep K w H' M' → Den K H' d v' → Q3 d M' → Q v' H'
theorem CallR.imp {X : Cx} {f : Value} {r r' : List V → Hp → VK → Prop} (h : CallR X f r) (i : ∀ vs H Q, r' vs H Q → r vs H Q) : CallR X f r' := fun pins s σ H xs us Q I rs q => h pins s σ H xs us Q I rs (i xs H Q q)
theorem Dens.one {K : PySem.W.Frag} {H : Hp} {d : D} {vs : List V} (h : Dens K H [d] vs) : ∃ v, vs = [v] ∧ Den K H d v := by
  cases h with
  | cons h t => cases t; exact ⟨_, rfl, h⟩
theorem Dens.two {K : PySem.W.Frag} {H : Hp} {d e : D} {vs : List V} (h : Dens K H [d, e] vs) : ∃ v u, vs = [v, u] ∧ Den K H d v ∧ Den K H e u := by
  cases h with
  | cons h t =>
    cases t with
    | cons t t2 => cases t2; exact ⟨_, _, rfl, h, t⟩
theorem Dens.mapOf {K : PySem.W.Frag} {H : Hp} {α : Type} {f : α → D} {g : α → V} (i : ∀ x v, Den K H (f x) v → v = g x) : ∀ {l : List α} {vs : List V}, Dens K H (l.map f) vs → vs = l.map g
  | [], _, h => by cases h; rfl
  | x :: l, _, h => by
    cases h with
    | cons h t => rw [List.map_cons, i x _ h, Dens.mapOf i t]
/-- an order of the things that lie, another of the values -/
theorem Paired.perm0 {α β : Type} {F : α → β → Prop} {r r' : List β} (p : r.Perm r') : ∀ {l : List α}, Paired F l r → ∃ l' : List α, l'.Perm l ∧ Paired F l' r' := by
  induction p with
  | nil => intro l h; cases h; exact ⟨[], .nil, .nil⟩
  | cons x _ ih =>
    intro l h
    cases h with
    | cons h t =>
      obtain ⟨l', q, t'⟩ := ih t
      exact ⟨_ :: l', q.cons _, .cons h t'⟩
  | swap x y l0 =>
    intro l h
    cases h with
    | cons h t =>
      cases t with
      | cons h2 t2 => exact ⟨_, List.Perm.swap _ _ _, .cons h2 (.cons h t2)⟩
  | trans _ _ ih1 ih2 =>
    intro l h
    obtain ⟨l1, q1, t1⟩ := ih1 h
    obtain ⟨l2, q2, t2⟩ := ih2 t1
    exact ⟨l2, q2.trans q1, t2⟩
theorem Paired.perm {α β : Type} {F : α → β → Prop} {l : List α} {r r' : List β} (h : Paired F l r) (p : r'.Perm r) : ∃ l' : List α, l'.Perm l ∧ Paired F l' r' := Paired.perm0 p.symm h
theorem DenU.back {K : PySem.W.Frag} {H : Hp} : ∀ {ds : List D} {us : List Value}, Paired (DenU K H) ds us → ∃ vs, Dens K H ds vs ∧ Vals vs us
  | _, _, .nil => ⟨[], .nil, .nil⟩
  | _, _, .cons ⟨v, a, b⟩ t => by
    obtain ⟨vs, c, e⟩ := DenU.back t
    exact ⟨v :: vs, .cons a c, .cons b e⟩
theorem strs_of : ∀ ds : List D, (∀ d ∈ ds, ∃ z, d = .str z) → ∃ zs : List Str, ds = zs.map D.str
  | [], _ => ⟨[], rfl⟩
  | d :: ds, h => by
    obtain ⟨z, rfl⟩ := h d List.mem_cons_self
    obtain ⟨zs, e⟩ := strs_of ds fun d hd => h d (List.mem_cons_of_mem _ hd)
    exact ⟨z :: zs, by rw [List.map_cons, e]⟩
theorem Dens.strs {K : PySem.W.Frag} {H : Hp} : ∀ (zs : List Str), Dens K H (zs.map D.str) (zs.map V.str)
  | [] => .nil
  | z :: r => .cons (.str z) (Dens.strs r)
theorem zip_snd {α : Type} : ∀ l : List α, (l.zip l).map (·.2) = l
  | [] => rfl
  | a :: l => by
    rw [List.zip_cons_cons, List.map_cons, zip_snd l]
theorem pair_mem {α β : Type} {F : α → β → Prop} : ∀ {l : List α} {r : List β}, Paired F l r → ∀ {v : β}, v ∈ r → ∃ d ∈ l, F d v
  | _, _, .nil, v, h => nomatch h
  | _, _, .cons h t, v, hv => by
    rcases List.mem_cons.mp hv with rfl | hv
    · exact ⟨_, List.mem_cons_self, h⟩
    · obtain ⟨d, hd, f⟩ := pair_mem t hv
      exact ⟨d, List.mem_cons_of_mem _ hd, f⟩
theorem shape_items {K : PySem.W.Frag} {H : Hp} {f : Nat → Bool} : ∀ {ds : List D} {sh : List Bool} {us : List Value} (i : Nat), (∀ j b, sh[j]? = some b → f (i + j) = b) → Paired (fun x b => if b = true then ∃ z, x = D.str z else ∃ i, x = D.int i) ds sh → Paired (DenU K H) ds us → ∃ l, tupItems f i us = some l
  | _, _, _, i, _, .nil, h => by
    cases h
    exact ⟨[], rfl⟩
  | _, b :: sh, _, i, hf, .cons c t, h => by
    cases h with
    | cons h1 h2 =>
      obtain ⟨l, e⟩ := shape_items (i + 1) (fun j b hj => by rw [show i + 1 + j = i + (j + 1) by omega]; exact hf (j + 1) b hj) t h2
      have hb : f i = b := hf 0 b rfl
      obtain ⟨v, dv, rv⟩ := h1
      cases b with
      | true =>
        obtain ⟨z, rfl⟩ := (show ∃ z, _ = D.str z from by simpa using c)
        cases dv
        obtain ⟨t, rfl⟩ := rv
        refine ⟨Sum.inr z.cps.toList :: l, ?_⟩
        show (if f i = true then (tupItems f (i + 1) _).map (Sum.inr z.cps.toList :: ·) else none) = _
        rw [if_pos hb, e]
        rfl
      | false =>
        obtain ⟨z, rfl⟩ := (show ∃ z, _ = D.int z from by simpa using c)
        cases dv
        obtain ⟨t, rfl⟩ := rv
        refine ⟨Sum.inl z :: l, ?_⟩
        show (if f i = true then none else (tupItems f (i + 1) _).map (Sum.inl z :: ·)) = _
        rw [if_neg (by rw [hb]; decide), e]
        rfl
section
variable {X : Cx} {pins : List (Addr × Obj)} {σ : L2.St} {H : Hp} {s : Shared}
theorem shape_key (I : Inv X pins σ H s) {sh : List Bool} {d : D} {u : Value} (h : shapeD sh d) (hu : DenU X.K H d u) : ∃ l, PyProof.Rows.G.tupKeyC s.heap (fun i => sh.getD i false) u = some l := by
  obtain ⟨ds, rfl, p⟩ := h
  obtain ⟨v, dv, rv⟩ := hu
  obtain ⟨a, vs, rfl, hv, tv⟩ := dv.tup_inv
  cases (show u = Value.ref a from rv)
  obtain ⟨its, r, ⟨o, ho, hc, n, hd⟩, _⟩ := I.tuple hv
  obtain ⟨l, e⟩ := shape_items (f := fun i => sh.getD i false) 0 (fun j b hj => by rw [Nat.zero_add, List.getD_eq_getElem?_getD, hj]; rfl) p (densU tv r)
  refine ⟨l, ?_⟩
  unfold PyProof.Rows.G.tupKeyC PyProof.Rows.G.isTupObj tupKey
  simp only [ho, hc, hd]
  simpa using e
theorem shape_tups (I : Inv X pins σ H s) {sh : List Bool} (hne : sh ≠ []) : ∀ {ds : List D} {us : List Value}, (∀ d ∈ ds, shapeD sh d) → Paired (DenU X.K H) ds us → ∃ fs, TupsOf s.heap (fun i => sh.getD i false) us fs
  | [], [], _, _ => ⟨[], .nil⟩
  | [], _ :: _, _, h => by cases h
  | _ :: _, [], _, h => by cases h
  | d :: ds0, u0 :: us0, h, h12 => by
    obtain ⟨h1, t⟩ : DenU X.K H d u0 ∧ Paired (DenU X.K H) ds0 us0 := by
      cases h12 with
      | cons a b => exact ⟨a, b⟩
    obtain ⟨fs, tf⟩ := shape_tups I hne (fun d hd => h d (List.mem_cons_of_mem _ hd)) t
    obtain ⟨ds, rfl, p⟩ := h _ List.mem_cons_self
    obtain ⟨v, dv, rv⟩ := h1
    obtain ⟨a, vs, rfl, hv, tv⟩ := dv.tup_inv
    obtain rfl : u0 = Value.ref a := rv
    obtain ⟨its, r, ⟨o, ho, hc, n, hd⟩, _⟩ := I.tuple hv
    cases p with
    | nil => exact absurd rfl hne
    | @cons x b _ shr c p =>
      cases tv with
      | cons d1 _ =>
        cases r with
        | @cons _ u1 _ _ r1 _ =>
          refine ⟨u1 :: fs, .cons ⟨a, o, _, n, rfl, ho, hc, hd, rfl, fun hs => ?_, fun hs => ?_⟩ tf⟩
          · have hb : b = false := hs
            subst hb
            obtain ⟨z, rfl⟩ := (show ∃ z, x = D.int z from by simpa using c)
            cases d1
            obtain ⟨t, rfl⟩ := r1
            exact ⟨_, _, rfl⟩
          · have hb : b = true := hs
            subst hb
            obtain ⟨z, rfl⟩ := (show ∃ z, x = D.str z from by simpa using c)
            cases d1
            obtain ⟨t, rfl⟩ := r1
            exact ⟨_, _, rfl⟩
end
section
variable {X : Cx}
theorem b_len : CallR X (.builtin "len") (liftC X.K X.w (biD .len)) := by
  intro pins s σ H xs us Q I rs h
  obtain ⟨ds, M, Q3, p3, dd, ⟨x, n, rfl, e, q⟩, k⟩ := h
  obtain ⟨v, rfl, dx⟩ := dd.one
  have fin := k _ _ _ _ (Ext.refl H) p3 (.int n) q
  cases x with
  | str z =>
    simp only [lenD] at e
    split at e
    · cases e
      exact call_len_str pins s σ H _ us Q I rs ⟨z, by rw [dx.str_inv], by assumption, fin⟩
    · cases e
  | tup ds =>
    cases e
    obtain ⟨a, vs, rfl, hv, tv⟩ := dx.tup_inv
    exact call_len_seq pins s σ H _ us Q I rs ⟨a, vs, rfl, .inr hv, by rw [← tv.length]; exact fin⟩
  | sl ns =>
    cases e
    obtain ⟨a, rfl, hv⟩ := dx.sl_inv
    exact call_len_seq pins s σ H _ us Q I rs ⟨a, _, rfl, .inl hv, by rw [List.length_map]; exact fin⟩
  | ref a =>
    cases dx
    simp only [lenD] at e
    cases hm : M a with
    | none => rw [hm] at e; cases e
    | some o =>
      rw [hm] at e
      have seq : ∀ ds, LstAt M a ds → n = ds.length → wpAny (model X.prog X.w) X.A (call (.builtin "len") us) (EP X pins σ Q) X.xe s := fun ds hl hn => by
        obtain ⟨vs, hv, tv⟩ := lstAt_lies p3 hl
        exact call_len_seq pins s σ H _ us Q I rs ⟨a, vs, rfl, .inl hv, by rw [← tv.length, ← hn]; exact fin⟩
      have dic : ∀ kvs, DctAt M a kvs → n = kvs.length → wpAny (model X.prog X.w) X.A (call (.builtin "len") us) (EP X pins σ Q) X.xe s := fun kvs hl hn => by
        obtain ⟨u, rfl, ru⟩ := vals1 rs
        cases (show u = Value.ref a from ru)
        obtain ⟨xs, hx, r⟩ := dctAt_lies p3 hl
        have hlen : kvs.length = xs.length := Paired.length r.ent
        exact len_mix r.sys (dict_at I hx r) r.sz ⟨.int n, H, I.tok _, ⟨_, by rw [hn, hlen]⟩, fin⟩
      cases o with
      | lst ds => exact seq ds (.inl hm) (Option.some.inj e).symm
      | ro ds => exact seq ds (.inr hm) (Option.some.inj e).symm
      | dct kvs => exact dic kvs (.inl hm) (Option.some.inj e).symm
      | lck kvs => exact dic kvs (.inr hm) (Option.some.inj e).symm
  | _ => cases e
theorem b_all (hc : X.calm = true) : CallR X (.builtin "all") (liftC X.K X.w (biD .all)) := CallR.imp (cr_all hc) fun vs H Q h => by
  obtain ⟨ds, M, Q3, p3, dd, ⟨a, bs, rfl, hl, q⟩, k⟩ := h
  obtain ⟨v, rfl, dx⟩ := dd.one
  obtain ⟨ws, hv, tv⟩ := lstAt_lies p3 hl
  have e := Dens.mapOf (g := V.bl) (fun b v h => h.bl_inv) tv
  subst e
  exact ⟨a, bs, by rw [dx.ref_inv], hv, k _ _ _ _ (Ext.refl H) p3 (.bl _) q⟩
theorem b_sum (hc : X.calm = true) : CallR X (.builtin "sum") (liftC X.K X.w (biD .sum)) := CallR.imp (cr_sum hc) fun vs H Q h => by
  obtain ⟨ds, M, Q3, p3, dd, ⟨a, bs, rfl, hl, q⟩, k⟩ := h
  obtain ⟨v, rfl, dx⟩ := dd.one
  obtain ⟨ws, hv, tv⟩ := lstAt_lies p3 hl
  have e := Dens.mapOf (g := V.int) (fun b v h => h.int_inv) tv
  subst e
  exact ⟨a, bs, by rw [dx.ref_inv], hv, k _ _ _ _ (Ext.refl H) p3 (.int _) q⟩
theorem b_min (hc : X.calm = true) : CallR X (.builtin "min") (liftC X.K X.w (biD .min)) := CallR.imp (call_min2 hc) fun vs H Q h => by
  obtain ⟨ds, M, Q3, p3, dd, ⟨i, j, rfl, q⟩, k⟩ := h
  obtain ⟨v, u, rfl, d1, d2⟩ := dd.two
  exact ⟨i, j, by rw [d1.int_inv, d2.int_inv], k _ _ _ _ (Ext.refl H) p3 (.int _) q⟩
theorem b_max (hc : X.calm = true) : CallR X (.builtin "max") (liftC X.K X.w (biD .max)) := CallR.imp (call_max2 hc) fun vs H Q h => by
  obtain ⟨ds, M, Q3, p3, dd, ⟨i, j, rfl, q⟩, k⟩ := h
  obtain ⟨v, u, rfl, d1, d2⟩ := dd.two
  exact ⟨i, j, by rw [d1.int_inv, d2.int_inv], k _ _ _ _ (Ext.refl H) p3 (.int _) q⟩
theorem b_abs : CallR X (.builtin "abs") (liftC X.K X.w (biD .abs)) := CallR.imp call_abs fun vs H Q h => by
  obtain ⟨ds, M, Q3, p3, dd, ⟨i, rfl, q⟩, k⟩ := h
  obtain ⟨v, rfl, d1⟩ := dd.one
  exact ⟨i, by rw [d1.int_inv], k _ _ _ _ (Ext.refl H) p3 (.int _) q⟩
theorem b_int : CallR X (.type "int") (liftC X.K X.w (biD .int)) := CallR.imp call_int1 fun vs H Q h => by
  obtain ⟨ds, M, Q3, p3, dd, (⟨i, rfl, q⟩ | ⟨i, rfl, q⟩), k⟩ := h
  · obtain ⟨v, rfl, d1⟩ := dd.one
    exact .inl ⟨i, by rw [d1.int_inv], k _ _ _ _ (Ext.refl H) p3 (.int _) q⟩
  · obtain ⟨v, rfl, d1⟩ := dd.one
    exact .inr ⟨i, by rw [d1.bl_inv], k _ _ _ _ (Ext.refl H) p3 (.int _) q⟩
theorem b_bool : CallR X (.type "bool") (liftC X.K X.w (biD .bool)) := CallR.imp call_bool1 fun vs H Q h => by
  obtain ⟨ds, M, Q3, p3, dd, ⟨i, rfl, q⟩, k⟩ := h
  obtain ⟨v, rfl, d1⟩ := dd.one
  exact .inl ⟨i, by rw [d1.int_inv], k _ _ _ _ (Ext.refl H) p3 (.bl _) q⟩
theorem b_str : CallR X (.type "str") (liftC X.K X.w (biD .str)) := CallR.imp call_str_int fun vs H Q h => by
  obtain ⟨ds, M, Q3, p3, dd, ⟨i, rfl, hz, q⟩, k⟩ := h
  obtain ⟨v, rfl, d1⟩ := dd.one
  exact ⟨i, by rw [d1.int_inv], hz, k _ _ _ _ (Ext.refl H) p3 (.str _) q⟩
theorem b_list : CallR X (.type "list") (liftC X.K X.w (biD .list)) := CallR.imp call_list_of fun vs H Q h => by
  obtain ⟨es, M, Q3, p3, dd, ⟨x, ds, rfl, (⟨a, rfl, hl⟩ | rfl), q⟩, k⟩ := h
  · obtain ⟨v, rfl, d1⟩ := dd.one
    obtain ⟨ws, hv, tv⟩ := lstAt_lies p3 hl
    exact ⟨a, ws, by rw [d1.ref_inv], .inl hv, new_list p3 tv q k⟩
  · obtain ⟨v, rfl, d1⟩ := dd.one
    obtain ⟨a, ws, rfl, hv, tv⟩ := d1.tup_inv
    exact ⟨a, ws, rfl, .inr hv, new_list p3 tv q k⟩
theorem b_tuple : CallR X (.type "tuple") (liftC X.K X.w (biD .tuple)) := CallR.imp call_tuple_of fun vs H Q h => by
  obtain ⟨es, M, Q3, p3, dd, ⟨x, ds, rfl, (⟨a, rfl, hl⟩ | rfl), q⟩, k⟩ := h
  · obtain ⟨v, rfl, d1⟩ := dd.one
    obtain ⟨ws, hv, tv⟩ := lstAt_lies p3 hl
    exact ⟨a, ws, by rw [d1.ref_inv], .inl ⟨hv, new_tup p3 tv q k⟩⟩
  · obtain ⟨v, rfl, d1⟩ := dd.one
    have d1' := d1
    obtain ⟨a, ws, rfl, hv, tv⟩ := d1.tup_inv
    exact ⟨a, ws, rfl, .inr ⟨hv, k _ _ _ _ (Ext.refl H) p3 d1' q⟩⟩
/-- sorted, the order itself not told -/
theorem b_sorted : CallR X (.builtin "sorted") (liftC X.K X.w (biD .sorted)) := by
  intro pins s σ H xs us Q I rs h
  obtain ⟨dl, M, Q3, p3, dd, ⟨a, ds, rfl, hl, h64, kinds, q⟩, k⟩ := h
  obtain ⟨v, rfl, dx⟩ := dd.one
  cases dx
  obtain ⟨vs, hv, tv⟩ := lstAt_lies p3 hl
  obtain ⟨its, rv, pl, hz⟩ := I.list hv
  have pu := densU tv rv
  have hlen : its.length = ds.length := by rw [tv.length, rv.length]
  have fin : ∀ out : Array Value, out.toList.Perm its → EP X pins σ Q (.ref (s.heap.objs.size + 1)) { s with heap := sortedAll s.heap its out } := fun out hp => by
    obtain ⟨es, pe, pu'⟩ := Paired.perm pu hp
    obtain ⟨ws, dw, rw'⟩ := DenU.back pu'
    obtain ⟨ep, he'⟩ := PyProof.Rows.sortedAll_at s.heap its out
    have hf : H (s.heap.objs.size + 1) = none := I.hok.fresh (Nat.le_succ _)
    have hl2 : ws.length ≤ sizeLine := by rw [← dw.length, pe.length_eq]; exact small64 h64
    refine ⟨.ref _, upd H (s.heap.objs.size + 1) (.lst ws), I.laid (t' := s.toks) (fun _ _ => PyProof.Rows.sortedAll_old) (Nat.le_succ _) ⟨hl2, out.toList, ep, rw', he'⟩, rfl, ?_⟩
    exact new_list p3 dw (fun p hp => q es p pe hp) k _ hf
  rcases kinds with hs | ⟨sh, hne, hs⟩
  · obtain ⟨zs, rfl⟩ := strs_of ds hs
    have e := Dens.mapOf (g := V.str) (fun b v h => h.str_inv) tv
    subst e
    rw [List.length_map] at h64
    exact cr_sortedS pins s σ H _ us Q I rs ⟨a, zs, rfl, hv, h64, fun ys p hp _ hf => new_list p3 (Dens.strs ys) (fun p hm => q (ys.map D.str) p (hp.map _) hm) k p hf⟩
  · obtain ⟨u, rfl, ru⟩ := vals1 rs
    cases (show u = Value.ref a from ru)
    have tk : ∀ v, v ∈ its → ∃ l, PyProof.Rows.G.tupKeyC s.heap (fun i => sh.getD i false) v = some l := fun v hv => by
      obtain ⟨d, hd, hdu⟩ := pair_mem pu hv
      exact shape_key I (hs d hd) hdu
    obtain ⟨fs, tf⟩ := shape_tups I hne hs pu
    refine PyProof.Rows.G.sorted_tups (shape := fun i => sh.getD i false) pl.isList tf tk (by rw [hlen]; exact small64 h64) fun st' hp _ _ => fin _ ?_
    have hl : (PyProof.Rows.arrOf st').toList.Perm (its.zip its) := by rw [← PyProof.Rows.pairsOf_toList]; exact Array.perm_iff_toList_perm.mp hp
    have := hl.map (·.2)
    rw [Array.toList_map]
    refine this.trans (List.Perm.of_eq ?_)
    exact zip_snd its
end
end L3

set_option Elab.async false
set_option linter.all false
set_option maxRecDepth 100000
set_option maxHeartbeats 4000000
/-! C9: repr, isinstance, next(iter(d), None), list(d.items()), dict(pairs), methods, defs. -/
namespace L3
open PySem PySem.Spec PyProof.Rows L2
section
variable {X : Cx}
theorem b_repr (hg : X.A.guards = some []) (hu : X.A.units + 200 < cLine) (hs : ∃ o, X.base.get? sysModules = some o ∧ o.cls = .type "dict") : CallR X (.builtin "repr") (liftC X.K X.w (biD .repr)) := by
  intro pins s σ H xs us Q I rs h
  obtain ⟨ds, M, Q3, p3, dd, ⟨x, p, rfl, hp, sh, hl, hdp, q⟩, k⟩ := h
  obtain ⟨v, rfl, dx⟩ := dd.one
  obtain ⟨u, rfl, ru⟩ := vals1 rs
  have fin := k _ _ _ _ (Ext.refl H) p3 (.str p.shown) q
  have big : ∀ a, u = .ref a → wpAny (model X.prog X.w) X.A (call (.builtin "repr") [u]) (EP X pins σ Q) X.xe s := fun a e => by
    subst e
    obtain ⟨as, ra, ha⟩ := reads_at I p3 hp ⟨v, dx, ru⟩
    refine repr_of_reads' ra sh (fun _ hm => ?_) hg (by omega) (fun _ _ e => e) (fun h' u tk hk => ⟨.str p.shown, H, I.kept hk, ⟨_, rfl⟩, fin⟩) hl
    obtain ⟨o, ho⟩ := ha _ hm
    obtain ⟨o', ho', _⟩ := hs
    rw [(I.bs _ o' ho').2] at ho
    cases ho
  cases hp with
  | non =>
    cases dx
    cases (show u = Value.none from ru)
    exact PySem.P.repr_of_none ⟨.str _, H, I.tok _, ⟨s.toks, by simp only [PyData.shown]⟩, fin⟩
  | bl b =>
    cases dx
    cases (show u = Value.bool b from ru)
    exact PySem.P.repr_of_bool ⟨.str _, H, I.tok _, ⟨s.toks, by simp only [PyData.shown]⟩, fin⟩
  | int i =>
    cases dx
    obtain ⟨t, rfl⟩ := (show ∃ t, u = Value.int i t from ru)
    have hi : i.natAbs.log2 < 1920 := by simpa only [PyData.showable, decide_eq_true_eq] using sh
    exact PySem.P.repr_of_int hi ⟨.str _, H, I.tok _, ⟨s.toks, by simp only [PyData.shown]⟩, fin⟩
  | str z =>
    cases dx
    obtain ⟨t, rfl⟩ := (show ∃ t, u = Value.str z t from ru)
    simp only [PyData.shown] at hl
    exact PySem.P.repr_of_str ⟨.str _, H, I.tok _, ⟨s.toks, by simp only [PyData.shown]⟩, fin⟩ hl
  | tup t =>
    obtain ⟨a, vs, rfl, hv, tv⟩ := dx.tup_inv
    exact big a ru
  | lst e t =>
    cases dx
    exact big _ ru
  | dct e t1 t2 =>
    cases dx
    exact big _ ru

/-! ### isinstance -/
theorem kit_ofD {pins : List (Addr × Obj)} {σ : L2.St} {H : Hp} {s : Shared} {M : Hp3} (I : Inv X pins σ H s) (p3 : Rep X.K X.w H M) {x : D} {v : V} {u : Value} {c : String} (dx : Den X.K H x v) (rv : RelV v u) (h : tyD M x = some c) :
    ∃ P : Heap → Prop, PySem.W.KitX X.K u (.type c) P ∧ P s.heap ∧ u ≠ .builtin "__main__.__loader__#opaque" := by
  cases x with
  | non =>
    cases h
    cases dx
    cases (show u = Value.none from rv)
    exact ⟨_, PySem.W.kitx_none, True.intro, fun z => nomatch z⟩
  | bl b =>
    cases h
    cases dx
    cases (show u = Value.bool b from rv)
    exact ⟨_, PySem.W.kitx_bool, True.intro, fun z => nomatch z⟩
  | int i =>
    cases h
    cases dx
    obtain ⟨t, rfl⟩ := (show ∃ t, u = Value.int i t from rv)
    exact ⟨_, PySem.W.kitx_int, True.intro, fun z => nomatch z⟩
  | str i =>
    cases h
    cases dx
    obtain ⟨t, rfl⟩ := (show ∃ t, u = Value.str i t from rv)
    exact ⟨_, PySem.W.kitx_str, True.intro, fun z => nomatch z⟩
  | tup ds =>
    cases h
    obtain ⟨a, vs, rfl, hv, tv⟩ := dx.tup_inv
    cases (show u = Value.ref a from rv)
    obtain ⟨its, r, ⟨o, ho, hc, n, hd⟩, _⟩ := I.tuple hv
    exact ⟨_, PySem.W.kitx_tuple, ⟨o, ho, hc⟩, fun z => nomatch z⟩
  | sl _ => cases h
  | ref a =>
    cases dx
    cases (show u = Value.ref a from rv)
    have seq : ∀ ds, LstAt M a ds → ∃ P : Heap → Prop, PySem.W.KitX X.K (.ref a) (.type "list") P ∧ P s.heap ∧ (Value.ref a) ≠ .builtin "__main__.__loader__#opaque" := fun ds hl => by
      obtain ⟨vs, hv, tv⟩ := lstAt_lies p3 hl
      obtain ⟨its, r, ⟨o, n, ho, hc, _⟩, _⟩ := I.list hv
      exact ⟨_, PySem.W.kitx_list, ⟨o, ho, hc⟩, fun z => nomatch z⟩
    have dic : ∀ kvs, DctAt M a kvs → ∃ P : Heap → Prop, PySem.W.KitX X.K (.ref a) (.type "dict") P ∧ P s.heap ∧ (Value.ref a) ≠ .builtin "__main__.__loader__#opaque" := fun kvs hl => by
      obtain ⟨xs, hx, r⟩ := dctAt_lies p3 hl
      obtain ⟨o, ep, E, hc⟩ := dict_at I hx r
      exact ⟨_, PySem.W.kitx_dict, ⟨o, E.ho, hc.1⟩, fun z => nomatch z⟩
    simp only [tyD] at h
    cases hm : M a with
    | none => rw [hm] at h; cases h
    | some o =>
      rw [hm] at h
      cases o with
      | lst ds => cases h; exact seq ds (.inl hm)
      | ro ds => cases h; exact seq ds (.inr hm)
      | dct kvs => cases h; exact dic kvs (.inl hm)
      | lck kvs => cases h; exact dic kvs (.inr hm)
def rIsD (K : PySem.W.Frag) (w : World) (t : String) : List V → Hp → VK → Prop := fun vs H Q => ∃ v x M b, vs = [v, .ty t] ∧ Rep K w H M ∧ Den K H x v ∧ isiD M x t = some b ∧ Q (.bl b) H
theorem call_isD (t : String) : CallR X (.builtin "isinstance") (rIsD X.K X.w t) := by
  intro pins s σ H xs us Q I rs h
  obtain ⟨v, x, M, b, rfl, p3, dx, e, q⟩ := h
  obtain ⟨u, w', rfl, r1, r2⟩ := vals2 rs
  cases (show w' = Value.type t from r2)
  unfold isiD at e
  cases ht : tyD M x with
  | none => rw [ht] at e; cases e
  | some c =>
    rw [ht] at e
    obtain ⟨P, Z, p, hx⟩ := kit_ofD I p3 dx r1 ht
    exact PySem.W.kia_one Z I.kIn p (kit_ty e) hx fun tk => ⟨.bl b, H, I.tok tk, rfl, q⟩
end
section
variable {G : GEnv} {C : Nat → D} {Γ : Nat → Sp3} {N : List Str} {k : Nat} {X : Cx} {sc : Scope}
/-- a name that is a built-in function, a built-in type -/
def bltB (G : GEnv) (sc : Scope) (x : Str) (v : Value) : Bool := gloB sc x && nameOk x && (match G.lookup x with
  | some .blt => true
  | _ => false) && (match bootBuiltins x with
  | some (.builtin i) => (match v with
    | .builtin j => i == j
    | _ => false)
  | some (.type i) => (match v with
    | .type j => i == j
    | _ => false)
  | _ => false)
structure BltOk (X : Cx) (x : Str) (v : Value) : Prop where
  gl : Gl X x
  mg : X.mg x = none
  bv : bootBuiltins x = some v
  nn : x ≠ ("__name__" : Str)
  nd : (x == ("__debug__" : Str)) = false
theorem bltB_ok (g : Good G C Γ N k X sc) {x : Str} {v : Value} (h : bltB G sc x v = true) : BltOk X x v := by
  unfold bltB at h
  rw [Bool.and_eq_true, Bool.and_eq_true, Bool.and_eq_true] at h
  obtain ⟨⟨⟨h1, h2⟩, h3⟩, h4⟩ := h
  refine ⟨by show X.env.scope.names.lookup x = _; rw [g.hs]; exact gloB_ok h1, g.blt x ?_, ?_, nameOk_n h2, nameOk_d h2⟩
  · cases e : G.lookup x with
    | none => rw [e] at h3; cases h3
    | some a =>
      rw [e] at h3
      cases a with
      | blt => rfl
      | _ => cases h3
  · cases e : bootBuiltins x with
    | none => rw [e] at h4; cases h4
    | some a =>
      rw [e] at h4
      cases a with
      | builtin i =>
        cases v with
        | builtin j => rw [eq_of_beq h4]
        | _ => cases h4
      | type i =>
        cases v with
        | type j => rw [eq_of_beq h4]
        | _ => cases h4
      | _ => cases h4
variable {e o : Expr} {es : List Expr} {x : Str} {te to : TE3} {t : TA3} {p pos p2 apos cpos : Pos} {id : String} {r : List D → Hp3 → VK3 → Prop}
theorem low_call {ra : TA3} {σ : L2.St} {H : Hp} {Q : VK} (h : liftE X.K X.w (fun σ M Q => ra σ M fun ds M1 => r ds M1 Q) σ H Q) : tCB (liftC X.K X.w r) (liftA X.K X.w ra) σ H Q := by
  obtain ⟨σ3, M, Q3, r3, q, fin⟩ := h
  exact ⟨σ3, M, _, r3, q, fun ds M1 vs H1 x1 p1 d1 q1 => ⟨ds, M1, Q3, p1, d1, q1, fun d M' v' H' x2 => fin d M' v' H' (x1.trans x2)⟩⟩
theorem s_callB (b : BltOk X x (.builtin id)) (hc : CallR X (.builtin id) (liftC X.K X.w r)) (hp : (e :: es).all plainA = true) (ha : PA3 X (e :: es) t) : PE3 X (.Call (.Name x p) (e :: es) [] pos) fun σ M Q => t σ M fun ds M1 => r ds M1 Q := by
  rw [List.all_cons, Bool.and_eq_true] at hp
  exact PE.imp (pe_callB hc b.gl b.mg b.bv ha b.nn b.nd (star_plain hp.1 es X.env) (stars_plain pos X.env hp.2)) fun σ H Q h => low_call h
theorem s_callTy {T : String} (b : BltOk X x (.type T)) (hc : CallR X (.type T) (liftC X.K X.w r)) (hp : (e :: es).all plainA = true) (ha : PA3 X (e :: es) t) : PE3 X (.Call (.Name x p) (e :: es) [] pos) fun σ M Q => t σ M fun ds M1 => r ds M1 Q := by
  rw [List.all_cons, Bool.and_eq_true] at hp
  exact PE.imp (pe_callTy hc b.gl b.mg b.bv ha b.nn b.nd (star_plain hp.1 es X.env) (stars_plain pos X.env hp.2)) fun σ H Q h => low_call h
theorem s_isi {T : String} {y : Str} (b : BltOk X x (.builtin "isinstance")) (c : BltOk X y (.type T)) (hp : plainA e = true) (he : PE3 X e te) :
    PE3 X (.Call (.Name x p) [e, .Name y p2] [] pos) fun σ M Q => te σ M fun d M1 => ∃ r, isiD M1 d T = some r ∧ Q (.bl r) M1 := by
  have hy : PE X (.Name y p2) (tC (.ty T)) := pe_bltn c.gl c.mg c.bv rfl c.nn c.nd
  refine PE.imp (pe_callB (call_isD T) b.gl b.mg b.bv (pa_cons he (pa_cons hy pa_nil) (star_plain hp _ X.env)) b.nn b.nd (star_plain hp _ X.env) rfl) fun σ H Q h => ?_
  obtain ⟨σ3, M, Q3, r3, q, fin⟩ := h
  exact ⟨σ3, M, _, r3, q, fun d M1 v H1 x1 p1 d1 ⟨r, e, q1⟩ => ⟨v, d, M1, r, rfl, p1, d1, e, fin _ _ _ _ x1 p1 (.bl _) q1⟩⟩
/-- a def of the text -/
theorem s_call {i : Nat} (g : Good G C Γ N k X sc) (hi : G.lookup x = some (.fn i)) (hv : gloB sc x = true) (hn : nameOk x = true) (hp : (e :: es).all plainA = true) (ha : PA3 X (e :: es) t) :
    PE3 X (.Call (.Name x p) (e :: es) [] pos) fun σ M Q => t σ M fun ds M1 => (Γ i) ds M1 Q := by
  obtain ⟨f, fd, ps, hm, hk, hb, hl, F⟩ := g.fn x i hi
  rw [List.all_cons, Bool.and_eq_true] at hp
  refine PE.imp (pe_callG (E := fun _ _ _ => False) F g.room g.guards (by show X.env.scope.names.lookup x = _; rw [g.hs]; exact gloB_ok hv) hm hk hb ha (nameOk_d hn) (star_plain hp.1 es X.env) (stars_plain pos X.env hp.2)) fun σ H Q h => ?_
  obtain ⟨σ3, M, Q3, r3, q, fin⟩ := h
  exact ⟨σ3, M, _, r3, q, fun ds M1 vs H1 x1 p1 d1 q1 => ⟨by rw [← d1.length]; exact hl _ _ _ q1, ds, M1, Q3, d1, p1, q1, fun d M' v' H' x2 => fin d M' v' H' (x1.trans x2)⟩⟩
end
end L3

set_option Elab.async false
set_option linter.all false
set_option maxRecDepth 100000
set_option maxHeartbeats 4000000
/-! C10: next(iter(d), None), list(d.items()), dict(pairs), {k: v}, methods. -/
namespace L3
open PySem PySem.Spec PyProof.Rows L2

/-! ### a few pairs put -/
def putNs (acc xs : List NE) : List NE := xs.foldl (fun a x => putN a x.1 x.2.1 x.2.2) acc
theorem putNs_take {acc xs : List NE} {i : Nat} {x : NE} (h : xs[i]? = some x) : putNs acc (xs.take (i + 1)) = putN (putNs acc (xs.take i)) x.1 x.2.1 x.2.2 := by
  unfold putNs
  rw [List.take_add_one, h, List.foldl_append]
  rfl
theorem putNs_length : ∀ (xs acc : List NE), (putNs acc xs).length ≤ acc.length + xs.length
  | [], acc => by show acc.length ≤ acc.length + 0; omega
  | x :: r, acc => by
    have h1 := putNs_length r (putN acc x.1 x.2.1 x.2.2)
    have h2 := putN_length (xs := acc) (k := x.1) (u := x.2.1) (v := x.2.2)
    show (putNs (putN acc x.1 x.2.1 x.2.2) r).length ≤ _
    rw [List.length_cons]
    omega
theorem putNs_nodup : ∀ (xs : List NE) {acc : List NE}, (acc.map (·.1)).Nodup → ((putNs acc xs).map (·.1)).Nodup
  | [], _, h => h
  | x :: r, _, h => putNs_nodup r (putN_nodup h)
theorem mem_putN {P : NestedKey → Value → Prop} {xs : List NE} {k : NestedKey} {u v : Value} (h : ∀ x ∈ xs, P x.1 x.2.1) (hn : P k u) : ∀ x ∈ putN xs k u v, P x.1 x.2.1 := by
  unfold putN
  intro x hx
  by_cases c : k ∈ xs.map (·.1)
  · rw [if_pos c] at hx
    obtain ⟨y, hy, rfl⟩ := List.mem_map.mp hx
    unfold setN
    split
    · exact h y hy
    · exact h y hy
  · rw [if_neg c] at hx
    rcases List.mem_append.mp hx with hx | hx
    · exact h x hx
    · rw [List.mem_singleton.mp hx]
      exact hn
theorem mem_putNs0 {P : NestedKey → Value → Prop} : ∀ (xs : List NE) {acc : List NE}, (∀ x ∈ acc, P x.1 x.2.1) → (∀ x ∈ xs, P x.1 x.2.1) → ∀ x ∈ putNs acc xs, P x.1 x.2.1
  | [], _, ha, _ => ha
  | y :: r, _, ha, h => mem_putNs0 r (mem_putN ha (h y List.mem_cons_self)) fun x hx => h x (List.mem_cons_of_mem _ hx)
theorem mem_putNs {P : NestedKey → Value → Prop} {xs : List NE} (h : ∀ x ∈ xs, P x.1 x.2.1) : ∀ x ∈ putNs [] xs, P x.1 x.2.1 := mem_putNs0 xs (fun _ h => nomatch h) h
theorem paired_back {α β : Type} {F : α → β → Prop} : ∀ {xs : List α} {ys : List β}, Paired F xs ys → ∀ {i : Nat} {y : β}, ys[i]? = some y → ∃ x, xs[i]? = some x ∧ F x y
  | _, _, .nil, i, x, h => by cases h
  | _, _, .cons r t, 0, x, h => by
    have e := Option.some.inj h
    subst e
    exact ⟨_, rfl, r⟩
  | _, _, .cons r t, i + 1, x, h => paired_back t h
theorem puts_ent {K : PySem.W.Frag} {H : Hp} : ∀ {kvs : List (D × D)} {xs : List NE} {acc : List (D × D)} {axs : List NE}, Paired (EntD K H) acc axs → Paired (EntD K H) kvs xs → Paired (EntD K H) (putsD acc kvs) (putNs axs xs)
  | [], [], _, _, a, _ => a
  | [], _ :: _, _, _, _, h => by cases h
  | _ :: _, [], _, _, _, h => by cases h
  | p :: kvs, x :: xs, acc, axs, a, h => by
    obtain ⟨⟨e1, e2, e3⟩, t⟩ : EntD K H p x ∧ Paired (EntD K H) kvs xs := by
      cases h with
      | cons h t => exact ⟨h, t⟩
    have e : putsD acc (p :: kvs) = putsD (putD acc x.1 p.1 p.2) kvs := by
      show (match keyOf p.1 with
        | some n => putsD (putD acc n p.1 p.2) kvs
        | none => putsD acc kvs) = _
      rw [e1]
    rw [e]
    exact puts_ent (axs := putN axs x.1 x.2.1 x.2.2) (put_ent e1 e2 e3 a) t
theorem ents_of {K : PySem.W.Frag} {H : Hp} : ∀ {kvs : List (D × D)}, (∀ p ∈ kvs, (keyOf p.1).isSome = true) → ∀ {us : List (Value × Value)}, Paired (fun (p : D × D) (q : Value × Value) => DenU K H p.1 q.1 ∧ DenU K H p.2 q.2) kvs us → ∃ xs : List NE, Paired (EntD K H) kvs xs ∧ us = xs.map fun x => x.2
  | [], _, _, h => by cases h; exact ⟨[], .nil, rfl⟩
  | p :: kvs, hk, _, h => by
    cases h with
    | @cons _ q _ us h t =>
      obtain ⟨xs, a, b⟩ := ents_of (fun p hp => hk p (List.mem_cons_of_mem _ hp)) t
      obtain ⟨k, e⟩ := Option.isSome_iff_exists.mp (hk p List.mem_cons_self)
      exact ⟨(k, q.1, q.2) :: xs, .cons ⟨e, h.1, h.2⟩ a, by rw [List.map_cons, ← b]⟩
theorem EntD.ext {K : PySem.W.Frag} {H H' : Hp} (x : Ext H H') {p : D × D} {q : NE} (e : EntD K H p q) : EntD K H' p q := ⟨e.1, e.2.1.ext x, e.2.2.ext x⟩
section
variable {X : Cx} {pins : List (Addr × Obj)} {σ : L2.St} {H : Hp} {s : Shared} {M : Hp3}
theorem ent_ok (I : Inv X pins σ H s) : ∀ {kvs : List (D × D)} {xs : List NE}, Paired (EntD X.K H) kvs xs → ∀ x ∈ xs, KeyOk s.heap x.1 x.2.1
  | _, _, .nil, x, h => nomatch h
  | _, _, .cons h t, x, hx => by
    rcases List.mem_cons.mp hx with rfl | hx
    · obtain ⟨e1, ⟨v, e2, e3⟩, _⟩ := h
      exact key_ok I e1 e2 e3
    · exact ent_ok I t x hx
theorem KeyOk.at {h h' : Heap} {k : NestedKey} {u : Value} (hk : ∀ a o vs n, h.get? a = some o → o.data = .seq vs n → h'.get? a = some o) (x : KeyOk h k u) : KeyOk h' k u := ⟨NestedIs.at hk _ _ x.is, x.dp⟩
/-- what stands at the items of a list of pairs -/
theorem pairs_at (I : Inv X pins σ H s) : ∀ {kvs : List (D × D)} {us : List Value}, Paired (DenU X.K H) (kvs.map fun p => D.tup [p.1, p.2]) us → ∃ (as : List Addr) (qs : List (Value × Value)), us = as.map Value.ref ∧ as.length = qs.length ∧ Paired (fun (a : Addr) (q : Value × Value) => s.heap.IsTuple a #[q.1, q.2]) as qs ∧
    Paired (fun (p : D × D) (q : Value × Value) => DenU X.K H p.1 q.1 ∧ DenU X.K H p.2 q.2) kvs qs
  | [], us, h => by
    cases h
    exact ⟨[], [], rfl, rfl, .nil, .nil⟩
  | p :: kvs, us, h => by
    rw [List.map_cons] at h
    cases h with
    | @cons _ u _ us h t =>
      obtain ⟨as, qs, e, l, t1, t2⟩ := pairs_at I t
      obtain ⟨v, dv, rv⟩ := h
      obtain ⟨a, vs, rfl, hv, tv⟩ := dv.tup_inv
      obtain rfl : u = Value.ref a := rv
      obtain ⟨its, r, ht, _⟩ := I.tuple hv
      obtain ⟨w1, w2, rfl, d1, d2⟩ := tv.two
      obtain ⟨u1, u2, rfl, r1, r2⟩ := vals2 r
      exact ⟨a :: as, (u1, u2) :: qs, by rw [e, List.map_cons], by rw [List.length_cons, List.length_cons, l], .cons ht t1, .cons ⟨⟨w1, d1, r1⟩, ⟨w2, d2, r2⟩⟩ t2⟩
theorem b_dict (hc : X.calm = true) (hu : X.A.units + 100 < cLine) : CallR X (.type "dict") (liftC X.K X.w (biD .dict)) := by
  intro pins s σ H xs us Q I rs h
  obtain ⟨ds, M, Q3, p3, dd, ⟨a, kvs, rfl, hl, hk, q⟩, k⟩ := h
  obtain ⟨v, rfl, dx⟩ := dd.one
  cases dx
  obtain ⟨u, rfl, ru⟩ := vals1 rs
  cases (show u = Value.ref a from ru)
  obtain ⟨vs, hv, tv⟩ := lstAt_lies p3 hl
  obtain ⟨its, rv, ⟨o, n, ho, hcl, hdd, hdat⟩, hz⟩ := I.list hv
  obtain ⟨as, qs, e, hl1, t1, t2⟩ := pairs_at I (densU tv rv)
  obtain ⟨ns, en, e2⟩ := ents_of hk t2
  subst e2
  rw [List.length_map] at hl1
  have hlen : ns.length ≤ sizeLine := by rw [← hl1]; have := rv.length; rw [e, List.length_map] at this; omega
  have kok := ent_ok I en
  have hsz : s.heap.objs.size = s.heap.objs.size := rfl
  have P := PairArg.list (prog := X.prog) (w := X.w) a its.toArray (fun j => as.getD j 0) (ns.map fun x => x.2)
  have ok : PlainSeq "list" s.heap a its.toArray ∧ PairItems s.heap its.toArray (fun j => as.getD j 0) (ns.map fun x => x.2) := by
    refine ⟨⟨o, n, ho, hcl, hdd, hdat⟩, ?_, fun j kk vv hj => ?_⟩
    · rw [List.size_toArray, e, List.length_map, List.length_map, hl1]
    · obtain ⟨b, hb, ht⟩ := paired_back t1 hj
      have hg : as.getD j 0 = b := by rw [List.getD_eq_getElem?_getD, hb]; rfl
      refine ⟨?_, .inl ?_⟩
      · show its.toArray[j]? = some (.ref (as.getD j 0))
        rw [List.getElem?_toArray, e, List.getElem?_map, hb, hg]
        rfl
      · show s.heap.IsTuple (as.getD j 0) #[kk, vv]
        rw [hg]
        exact ht
  have noDd : ∀ b ob, s.heap.get? b = some ob → b ≠ s.heap.objs.size := fun b ob hb z => absurd (Heap.lt_size hb) (by rw [z]; exact Nat.lt_irrefl _)
  have hnew := I.hok.fresh (Nat.le_of_eq hsz)
  have sysd : (s.heap.objs.size == sysModules) = false := by
    have hb := I.big
    exact beq_eq_false_iff_ne.mpr (Nat.ne_of_gt hb)
  refine call_dict_arg P ok fun s₁ hs₁ hdf ok₁ => ?_
  subst hs₁
  refine updateFrom_arg (s := { s with heap := s.heap.push { cls := .type "dict", data := .dict #[] } }) (wr := []) (Tab := fun i h => DictN X.w h s.heap.objs.size (putNs [] (ns.take i)) ∧ ∀ b o, s.heap.get? b = some o → h.get? b = some o) P .none (I.ok.hd hc) ok₁ hdf ?_ ?_ ?_ ?_ ?_
  · refine ⟨⟨{ cls := .type "dict", data := .dict #[] }, 0, ⟨?_, rfl, (fun x hx => nomatch hx), List.nodup_nil⟩, ⟨rfl, rfl, rfl⟩⟩, fun b o hb => Heap.get?_push_of_some _ hb⟩
    exact Heap.get?_push_size _ rfl
  · rintro i h ⟨⟨o', ep, E, _⟩, _⟩
    exact Heap.lt_size E.ho
  · rintro i h h' wr' hd hw ⟨⟨o', ep, E, hex⟩, keep⟩ hk'
    have keep' : ∀ b o, s.heap.get? b = some o → h'.get? b = some o := fun b o hb => hk' b o (fun hm => by
      rcases hw b hm with z | z
      · cases z
      · have z : (s.heap.push { cls := .type "dict", data := .dict #[] }).get? b = none := z
        rw [Heap.get?_push_of_some _ hb] at z
        cases z) (keep b o hb)
    refine ⟨⟨o', ep, ⟨hk' s.heap.objs.size o' hd E.ho, E.hd, fun x hx => ?_, E.nd⟩, hex⟩, keep'⟩
    exact KeyOk.at (fun c oc vs m hc _ => keep' c oc hc) (mem_putNs (fun y hy => kok y (List.mem_of_mem_take hy)) x hx)
  · rintro i key v s' Q' E' hi hrel ⟨Dn, keep⟩ _ hQ
    obtain ⟨x, hx, e3⟩ : ∃ x, ns[i]? = some x ∧ x.2 = (key, v) := by
      have hrel : (ns.map fun x => x.2)[i]? = some (key, v) := hrel
      rw [List.getElem?_map] at hrel
      cases e4 : ns[i]? with
      | none => rw [e4] at hrel; cases hrel
      | some x => rw [e4] at hrel; exact ⟨x, rfl, Option.some.inj hrel⟩
    have e5 : x.2.1 = key := by rw [e3]
    have e6 : x.2.2 = v := by rw [e3]
    have ko : KeyOk s'.heap x.1 key := by
      rw [← e5]
      exact KeyOk.at (fun c oc vs m hc _ => keep c oc hc) (kok x (List.mem_of_getElem? hx))
    have hzz : (putNs [] (ns.take i)).length ≤ sizeLine := by
      have h1 := putNs_length (ns.take i) []
      rw [List.length_take] at h1
      have : ([] : List NE).length = 0 := rfl
      omega
    refine set_mix (by show X.A.units + 1 + 1 + 8 < cLine; omega) ko Dn hzz fun h' D' sb => ?_
    refine hQ h' _ ⟨?_, fun b o hb => ?_⟩ sb
    · rw [putNs_take hx, e5, e6]
      exact D'
    · exact sb.extBut b o (noDd b o hb) (keep b o hb)
  · rintro h' tk ⟨Dn, keep⟩ _
    have hlN : (ns.map fun x => x.2).length = ns.length := List.length_map _
    rw [hlN, List.take_of_length_le (Nat.le_refl _)] at Dn
    show wants _ _ _ _
    have x1 : Ext H (upd H s.heap.objs.size (DictO X.w s.heap.objs.size (putNs [] ns))) := Ext.new hnew
    refine ⟨rfl, .ref s.heap.objs.size, upd H s.heap.objs.size (DictO X.w s.heap.objs.size (putNs [] ns)), I.laid (t' := tk) keep (Nat.le_of_eq hsz) (dictN_ok Dn), rfl, ?_⟩
    refine k _ _ _ _ x1 (p3.new (u := .dct (putsD [] kvs)) hnew ⟨putNs [] ns, upd_same, ?_⟩) (.ref s.heap.objs.size) (q s.heap.objs.size (p3.free hnew))
    refine ⟨sysd, puts_ent .nil (Paired.ex en fun _ _ e => e.ext x1), putNs_nodup ns List.nodup_nil, ?_⟩
    have h1 := putNs_length ns []
    have : ([] : List NE).length = 0 := rfl
    omega
end
end L3

set_option Elab.async false
set_option linter.all false
set_option maxRecDepth 100000
set_option maxHeartbeats 4000000
/-! C11: {k: v}, next(iter(d), None), list(d.items()), methods. -/
namespace L3
open PySem PySem.Spec PyProof.Rows L2

/-! ### {k: v, ..} -/
abbrev TP3 := St3 → Hp3 → (List (D × D) → Hp3 → Prop) → Prop
abbrev DenP (K : PySem.W.Frag) (H : Hp) : List (D × D) → List (V × V) → Prop := Paired fun p q => Den K H p.1 q.1 ∧ Den K H p.2 q.2
theorem DenP.ext {K : PySem.W.Frag} {H H' : Hp} (x : Ext H H') {ps : List (D × D)} {vs : List (V × V)} (h : DenP K H ps vs) : DenP K H' ps vs := Paired.ex h fun _ _ q => ⟨q.1.ext x, q.2.ext x⟩
structure PP3 (X : Cx) (pos : Pos) (keys : List (Option Expr)) (values : List Expr) (t : TP3) : Prop where
  run : ∀ (pins : List (Addr × Obj)) (s : Shared) (σ : L2.St) (H : Hp) (σ3 : St3) (M : Hp3) (Q3 : List (D × D) → Hp3 → Prop), Inv X pins σ H s → R3 X.K X.w σ3 M σ H → t σ3 M Q3 →
    wpAny (model X.prog X.w) X.A (evalPairs (pairTrees keys values X.env pos)) (fun ws s' => ∃ ps M' vs H', Ext H H' ∧ Rep X.K X.w H' M' ∧ DenP X.K H' ps vs ∧ VV vs ws ∧ Inv X pins σ H' s' ∧ Q3 ps M') X.xe s
section
variable {X : Cx} {pos : Pos} {k v : Expr} {ks : List (Option Expr)} {vs : List Expr} {tk tv : TE3} {t : TP3}
theorem p_nil : PP3 X pos [] [] fun _ M Q => Q [] M := ⟨fun pins s σ H σ3 M Q3 I r h => pairTrees_nil_walk ⟨[], M, [], H, Ext.refl H, r.rep, .nil, .nil, I, h⟩⟩
theorem p_cons (hk : PE3 X k tk) (hv : PE3 X v tv) (hr : PP3 X pos ks vs t) : PP3 X pos (some k :: ks) (v :: vs) fun σ M Q => tk σ M fun x M1 => tv σ M1 fun y M2 => t σ M2 fun ps M3 => Q ((x, y) :: ps) M3 := by
  refine ⟨fun pins s σ H σ3 M Q3 I r h => ?_⟩
  refine pairTrees_cons_walk (thn (hk.run pins s σ H (fun v1 H1 => ∃ x M1, Ext H H1 ∧ Rep X.K X.w H1 M1 ∧ Den X.K H1 x v1 ∧ _) I ⟨σ3, M, _, r, h, fun x M1 v1 H1 x1 p1 d1 q1 => ⟨x, M1, x1, p1, d1, q1⟩⟩) fun u s1 ⟨v1, H1, I1, r1, x, M1, x1, p1, d1, q1⟩ => ?_)
  refine thn (hv.run pins s1 σ H1 (fun v2 H2 => ∃ y M2, Ext H1 H2 ∧ Rep X.K X.w H2 M2 ∧ Den X.K H2 y v2 ∧ _) I1 ⟨σ3, M1, _, r.ext x1 p1, q1, fun y M2 v2 H2 x2 p2 d2 q2 => ⟨y, M2, x2, p2, d2, q2⟩⟩) fun u2 s2 ⟨v2, H2, I2, r2, y, M2, x2, p2, d2, q2⟩ => ?_
  refine thn (hr.run pins s2 σ H2 σ3 M2 _ I2 ((r.ext x1 p1).ext x2 p2) q2) fun ws s3 ⟨ps, M3, vs, H3, x3, p3, d3, rv, I3, q3⟩ => ?_
  exact ⟨(x, y) :: ps, M3, (v1, v2) :: vs, H3, x1.trans (x2.trans x3), p3, .cons ⟨(d1.ext x2).ext x3, d2.ext x3⟩ d3, .cons ⟨r1, r2⟩ rv, I3, q3⟩
theorem storeAll3 (hu : X.A.units + 100 < cLine) {p : Addr} {pins : List (Addr × Obj)} {σ : L2.St} {Q : PUnit → Shared → Prop} {E : Value → Shared → Prop} : ∀ {ps : List (D × D)} {vs : List (V × V)} {ws : List (Value × Value)} {acc : List (D × D)} {H : Hp} {M : Hp3} {s : Shared}, Inv X pins σ H s → Rep X.K X.w H M → M p = some (.dct acc) → DenP X.K H ps vs → VV vs ws →
    (∀ q ∈ ps, (keyOf q.1).isSome = true) → acc.length + ps.length < sizeLine → (∀ s' H', Ext H H' → Inv X pins σ H' s' → Rep X.K X.w H' (up3 M p (.dct (putsD acc ps))) → Q PUnit.unit s') →
    wpAny (model X.prog X.w) X.A (forIn ws PUnit.unit fun (x : Value × Value) (_ : PUnit) => (do dictSet p x.1 x.2; pure (ForInStep.yield PUnit.unit) : Sem (ForInStep PUnit))) Q E s
  | [], _, _, acc, H, M, s, I, p3, hM, dp, rv, hk, hz, hQ => by
    cases dp
    cases rv
    rw [List.forIn_nil]
    refine wpAny_pure (hQ s H (Ext.refl H) I ?_)
    have e : up3 M p (.dct acc) = M := by
      funext b
      unfold up3
      split
      · rename_i hb
        rw [hb, hM]
      · rfl
    show Rep X.K X.w H (up3 M p (.dct acc))
    rw [e]
    exact p3
  | q :: ps, _, _, acc, H, M, s, I, p3, hM, dp, rv, hk, hz, hQ => by
    cases dp with
    | @cons _ v2 _ vs d1 d2 =>
      cases rv with
      | @cons _ w2 _ ws r1 r2 =>
        obtain ⟨k, ek⟩ := Option.isSome_iff_exists.mp (hk q List.mem_cons_self)
        rw [List.length_cons] at hz
        rw [List.forIn_cons]
        refine wpAny_bind (wpAny_bind (dict_put (k := k) I p3 hM ek (by omega) d1.1 r1.1 d1.2 r1.2 (fun s' H' x1 I' p3' => ?_) fun xs D ko hxs go => set_mix (by omega) ko D hxs fun h' D' sb => go h' _ D' sb))
        refine wpAny_pure ?_
        have hl : (putD acc k q.1 q.2).length ≤ acc.length + 1 := by
          unfold putD
          split <;> simp
        refine storeAll3 hu (acc := putD acc k q.1 q.2) I' p3' up3_same (DenP.ext x1 d2) r2 (fun z hz => hk z (List.mem_cons_of_mem _ hz)) (by omega) fun s2 H2 x2 I2 q2 => ?_
        refine hQ s2 H2 (x1.trans x2) I2 ?_
        have e : putsD acc (q :: ps) = putsD (putD acc k q.1 q.2) ps := by
          show (match keyOf q.1 with
            | some n => putsD (putD acc n q.1 q.2) ps
            | none => putsD acc ps) = _
          rw [ek]
        rw [e, ← up3_up3 (M := M) (a := p) (o := .dct (putD acc k q.1 q.2))]
        exact q2
end
/-! ### what does not see a hole: an object that nothing points to by its description -/
/-- no tuple stands there, not even a frozen one -/
def NoTup (H : Hp) (p : Addr) : Prop := (∀ xs, H p ≠ some (.tup xs)) ∧ ∀ o xs, H p ≠ some (.frz o (.tup xs))
theorem NoTup.two {o1 o2 : Obj} {u : HO} {H : Hp} {p : Addr} (e : H p = some (.frz o1 (.frz o2 u))) : NoTup H p := ⟨(fun xs z => by rw [e] at z; cases z), fun o xs z => by rw [e] at z; cases z⟩
theorem NoTup.dic {a : Addr} {o1 : Obj} {w : World} {xs : List NE} {H : Hp} {p : Addr} (e : H p = some (.frz o1 (DictO w a xs))) : NoTup H p := ⟨(fun xs z => by rw [e] at z; cases z), fun o xs z => by rw [e] at z; cases z⟩
section
variable {K : PySem.W.Frag} {w : World} {H : Hp} {p : Addr} {n : HO}
theorem SqT.hole (e : NoTup H p) {a : Addr} {vs : List V} (h : SqT K H a vs) : SqT K (upd H p n) a vs := by
  rcases h with (h | ⟨o, h⟩) | h
  · exact .inl (.inl (by rw [upd_ne (fun z => e.1 _ (by rw [← z]; exact h))]; exact h))
  · exact .inl (.inr ⟨o, by rw [upd_ne (fun z => e.2 _ _ (by rw [← z]; exact h))]; exact h⟩)
  · exact .inr h
mutual
theorem Den.hole (e : NoTup H p) : ∀ {d : D} {v : V}, Den K H d v → Den K (upd H p n) d v
  | _, _, .non => .non
  | _, _, .bl b => .bl b
  | _, _, .int i => .int i
  | _, _, .str s => .str s
  | _, _, .tup h t => .tup (SqT.hole e h) (Dens.hole e t)
  | _, _, .ref a => .ref a
  | _, _, .sl h => .sl h
theorem Dens.hole (e : NoTup H p) : ∀ {ds : List D} {vs : List V}, Dens K H ds vs → Dens K (upd H p n) ds vs
  | _, _, .nil => .nil
  | _, _, .cons h t => .cons (Den.hole e h) (Dens.hole e t)
end
theorem DenU.hole (e : NoTup H p) {d : D} {x : Value} (h : DenU K H d x) : DenU K (upd H p n) d x := let ⟨v, a, b⟩ := h; ⟨v, a.hole e, b⟩
theorem DictR.hole (e : NoTup H p) {d : Addr} {kvs : List (D × D)} {xs : List NE} (r : DictR K H d kvs xs) : DictR K (upd H p n) d kvs xs :=
  ⟨r.sys, Paired.ex r.ent fun _ _ ⟨a, b, c⟩ => ⟨a, b.hole e, c.hole e⟩, r.nd, r.sz⟩
theorem Lies.hole (e : NoTup H p) {a : Addr} {o : MO} (z : a ≠ p) (l : Lies K w H a o) : Lies K w (upd H p n) a o := by
  cases o with
  | lst ds => obtain ⟨vs, q, t⟩ := l; exact ⟨vs, by rw [upd_ne z]; exact q, t.hole e⟩
  | dct ds => obtain ⟨vs, q, t⟩ := l; exact ⟨vs, by rw [upd_ne z]; exact q, t.hole e⟩
  | ro ds => obtain ⟨o, vs, q, t⟩ := l; exact ⟨o, vs, by rw [upd_ne z]; exact q, t.hole e⟩
  | lck ds => obtain ⟨o, vs, q, t⟩ := l; exact ⟨o, vs, by rw [upd_ne z]; exact q, t.hole e⟩
theorem DenP.hole (e : NoTup H p) {ps : List (D × D)} {vs : List (V × V)} (h : DenP K H ps vs) : DenP K (upd H p n) ps vs := Paired.ex h fun _ _ q => ⟨q.1.hole e, q.2.hole e⟩
end
theorem subDict_raw {prog : Program} {w : World} {A : Around} {E : Value → Shared → Prop} {s : Shared} {pairs : List (Sem Value × Sem Value)} {Q : Addr → Shared → Prop} (hlen : pairs.length ≤ 15)
    (h : wpAny (model prog w) A (evalPairs pairs) (fun vs s₁ => wpAny (model prog w) A (forIn vs PUnit.unit fun (x : Value × Value) (_ : PUnit) => (do dictSet s.heap.objs.size x.1 x.2; pure (ForInStep.yield PUnit.unit) : Sem (ForInStep PUnit))) (fun _ s₂ => Q s.heap.objs.size s₂) E s₁) E { s with heap := s.heap.push { cls := .type "dict", data := .dict #[] } }) :
    wpAny (model prog w) A (subDict pairs) Q E s := by
  unfold subDict
  refine wpAny_bind (wpAny_alloc ?_)
  refine wpAny_bind (wpAny_holding ?_)
  rw [if_pos hlen]
  refine wpAny_bind (wpAny_mono h (fun vs s₁ h₁ => ?_) fun _ _ e => e)
  refine wpAny_holding ?_
  exact wpAny_bind (wpAny_mono h₁ (fun _ s₂ h₂ => wpAny_pure (wpAny_pure h₂)) fun _ _ e => e)
section
variable {X : Cx} {pos : Pos} {keys : List (Option Expr)} {values : List Expr} {t : TP3}
theorem s_dct (hu : X.A.units + 100 < cLine) (h : PP3 X pos keys values t) (hall : keys.all (·.isSome) = true) (hl : keys.length = values.length) (h0 : keys.isEmpty = false) (h15 : keys.length ≤ 15) : PE3 X (.Dict keys values pos) fun σ M Q => t σ M fun ps M1 => dctD ps M1 Q := by
  refine ⟨fun pins s σ H Q I hq => ?_⟩
  obtain ⟨σ3, M, Q3, r3, q, fin⟩ := hq
  have hn := pairTrees_length keys values X.env pos hall hl
  have hne : pairTrees keys values X.env pos ≠ [] := fun he => by
    rw [he] at hn
    have : keys = [] := List.length_eq_zero_iff.mp hn.symm
    rw [this] at h0
    cases h0
  rw [arm_eval_Dict, zip_pairTrees keys values X.env pos hall hl, dictDisplay_pairs _ hne (by omega)]
  refine wpAny_bind (wpAny_standAt (wpAny_bind (subDict_raw (by omega) ?_)))
  have hf : H s.heap.objs.size = none := I.hok.fresh (Nat.le_refl _)
  have hb0 : X.H_0 s.heap.objs.size = none ∨ ∃ u, X.H_0 s.heap.objs.size = some u := by
    cases X.H_0 s.heap.objs.size with
    | none => exact .inl rfl
    | some u => exact .inr ⟨u, rfl⟩
  have hnf : ∀ o' u', X.H_0 s.heap.objs.size ≠ some (.frz o' u') := fun o' u' e => by
    have q := I.base.frzs _ o' u' e
    rw [hf] at q
    cases q
  have hg : (s.heap.push { cls := .type "dict", data := .dict #[] }).get? s.heap.objs.size = some { cls := .type "dict", data := .dict #[] } := Heap.get?_push_size _ rfl
  have ok0 : ∀ H', ObjOk X.prog X.w H' (s.heap.push { cls := .type "dict", data := .dict #[] }) s.heap.objs.size (DictO X.w s.heap.objs.size []) := fun H' => dictO_ok (o := { cls := .type "dict", data := .dict #[] }) (ep := 0) hg ⟨rfl, rfl, rfl⟩ rfl
  have I1 : Inv X pins σ (upd H s.heap.objs.size (.frz { cls := .type "dict", data := .dict #[] } (.frz { cls := .type "dict", data := .dict #[] } (DictO X.w s.heap.objs.size [])))) { s with heap := s.heap.push { cls := .type "dict", data := .dict #[] } } :=
    I.laid (t' := s.toks) (fun b u e => Heap.get?_push_of_some _ e) (Nat.le_refl _) ⟨hg, hg, ok0 _⟩
  have x1 : Ext H (upd H s.heap.objs.size (.frz { cls := .type "dict", data := .dict #[] } (.frz { cls := .type "dict", data := .dict #[] } (DictO X.w s.heap.objs.size [])))) := Ext.new hf
  refine thn (h.run pins _ σ _ σ3 M _ I1 (r3.ext x1 (r3.rep.hid hf)) q) fun ws s2 ⟨ps, M2, vs, H2, x2, p2, dp, rv, I2, hk, hl15, q2⟩ => ?_
  have e2 := x2.frz _ _ _ upd_same
  have mn : M2 s.heap.objs.size = none := by
    cases e : M2 s.heap.objs.size with
    | none => rfl
    | some o =>
      have l := p2 _ o e
      cases o with
      | lst ds => obtain ⟨_, z, _⟩ := l; rw [e2] at z; cases z
      | dct ds => obtain ⟨_, z, _⟩ := l; rw [e2] at z; cases z
      | ro ds => obtain ⟨_, _, z, _⟩ := l; rw [e2] at z; cases z
      | lck ds => obtain ⟨_, _, z, _⟩ := l; rw [e2] at z; cases z
  have I3 := I2.unlock e2 hnf
  have I4 := I3.unlock upd_same hnf
  have sysd : (s.heap.objs.size == sysModules) = false := beq_eq_false_iff_ne.mpr (Nat.ne_of_gt I.big)
  -- the dict is seen
  have upup : upd (upd H2 s.heap.objs.size (.frz { cls := .type "dict", data := .dict #[] } (DictO X.w s.heap.objs.size []))) s.heap.objs.size (DictO X.w s.heap.objs.size []) = upd H2 s.heap.objs.size (DictO X.w s.heap.objs.size []) := by
    funext b
    unfold upd
    split <;> rfl
  rw [upup] at I4
  have tupNe : ∀ b xs, H2 b = some (.tup xs) → b ≠ s.heap.objs.size := fun b xs e z => by
    rw [z, e2] at e
    cases e
  have dnP : DenP X.K (upd H2 s.heap.objs.size (DictO X.w s.heap.objs.size [])) ps vs := DenP.hole (.two e2) dp
  have p4 : Rep X.K X.w (upd H2 s.heap.objs.size (DictO X.w s.heap.objs.size [])) (up3 M2 s.heap.objs.size (.dct [])) := by
    intro b o hb
    by_cases z : b = s.heap.objs.size
    · subst z
      rw [up3_same] at hb
      cases hb
      exact ⟨[], upd_same, sysd, .nil, List.nodup_nil, by show 0 ≤ sizeLine; omega⟩
    · rw [up3_ne z] at hb
      exact Lies.hole (.two e2) z (p2 b o hb)
  refine storeAll3 hu (acc := []) I4 p4 up3_same dnP rv hk (by have := sizeLine_eq; have e0 : ([] : List (D × D)).length = 0 := rfl; omega) fun s' H' x5 I5 q5 => ?_
  refine wpAny_pure ⟨.ref s.heap.objs.size, H', I5, rfl, ?_⟩
  rw [up3_up3] at q5
  refine fin (.ref s.heap.objs.size) _ _ H' ?_ q5 (.ref _) (q2 _ mn)
  refine ⟨fun b xs e => x5.tup b xs ?_, fun b o u e => x5.frz b o u ?_⟩
  · have := x2.tup b xs (x1.tup b xs e)
    rw [upd_ne (tupNe b xs this)]
    exact this
  · have z : b ≠ s.heap.objs.size := fun z => by rw [z, hf] at e; cases e
    rw [upd_ne z]
    exact x2.frz b o u (x1.frz b o u e)
theorem s_dct0 : PE3 X (.Dict [] [] pos) fun σ M Q => dctD [] M Q := by
  refine ⟨fun pins s σ H Q I hq => ?_⟩
  obtain ⟨σ3, M, Q3, r3, ⟨_, _, q⟩, fin⟩ := hq
  have hf : H s.heap.objs.size = none := I.hok.fresh (Nat.le_refl _)
  have hg : (s.heap.push { cls := .type "dict", data := .dict #[] }).get? s.heap.objs.size = some { cls := .type "dict", data := .dict #[] } := Heap.get?_push_size _ rfl
  have x1 : Ext H (upd H s.heap.objs.size (DictO X.w s.heap.objs.size [])) := Ext.new hf
  refine wpAny_Dict_empty ⟨.ref s.heap.objs.size, _, I.laid (a := s.heap.objs.size) (o := DictO X.w s.heap.objs.size []) (t' := s.toks) (fun _ _ q => Heap.get?_push_of_some _ q) (Nat.le_refl _) (dictO_ok (o := { cls := .type "dict", data := .dict #[] }) (ep := 0) hg ⟨rfl, rfl, rfl⟩ rfl), rfl, ?_⟩
  refine fin _ _ _ _ x1 (r3.rep.new (u := .dct []) hf ⟨[], upd_same, beq_eq_false_iff_ne.mpr (Nat.ne_of_gt I.big), .nil, List.nodup_nil, by show 0 ≤ sizeLine; omega⟩) (.ref _) (q _ (r3.rep.free hf))
end
end L3

set_option Elab.async false
set_option linter.all false
set_option maxRecDepth 100000
set_option maxHeartbeats 4000000
/-! C12: next(iter(d), None), list(d.items()), methods. -/
namespace L3
open PySem PySem.Spec PyProof.Rows L2
theorem Dens.erase {K : PySem.W.Frag} {H : Hp} : ∀ {ds : List D} {vs : List V} (i : Nat), Dens K H ds vs → Dens K H (ds.eraseIdx i) (vs.eraseIdx i)
  | _, _, _, .nil => .nil
  | _, _, 0, .cons _ t => t
  | _, _, i + 1, .cons h t => .cons h (Dens.erase i t)
section
variable {X : Cx} {te : TE3} {x : Expr} {p p1 p2 p3 apos cpos pos : Pos} {j : Nat} {ni nn nl : Str}
theorem s_next (hc : X.calm = true) (bn : BltOk X nn (.builtin "next")) (bi : BltOk X ni (.builtin "iter")) (hp : plainA x = true) (he : PE3 X x te) :
    PE3 X (.Call (.Name nn p) [.Call (.Name ni p1) [x] [] p2, .Constant .none j p3] [] pos) fun σ M Q => te σ M fun d M1 => biD .nextIter [d] M1 Q := by
  refine ⟨fun pins s σ H Q I h => ?_⟩
  obtain ⟨σ3, M, Q3, r3, q, fin⟩ := h
  refine wpAny_Call_Name_kw (ld_blt I bn.gl bn.mg bn.bv ?_ bn.nn bn.nd)
  refine PyProof.Rows.callWith_builtin1 ?_ rfl rfl
  show wpAny _ _ (spliced ((false, eval (.Call (.Name ni p1) [x] [] p2) X.env) :: backTo pos (starEach [.Constant .none j p3] X.env))) _ _ s
  refine Calls.spliced_cons ?_
  refine wpAny_Call_Name_kw (ld_blt I bi.gl bi.mg bi.bv ?_ bi.nn bi.nd)
  refine PyProof.Rows.callWith_builtin1 ?_ (star_plain hp [] X.env) rfl
  rw [star_plain hp]
  show wpAny _ _ (spliced ((false, eval x X.env) :: backTo p2 (starEach [] X.env))) _ _ s
  refine Calls.spliced_cons (thn (he.run pins s σ H (fun v H1 => ∃ d M1, Ext H H1 ∧ Rep X.K X.w H1 M1 ∧ Den X.K H1 d v ∧ _) I ⟨σ3, M, _, r3, q, fun d M1 v H1 x1 p1 d1 q1 => ⟨d, M1, x1, p1, d1, q1⟩⟩) fun u s1 ⟨v, H1, I1, rv, d, M1, x1, p1, d1, a, kvs, e, hd, q1⟩ => ?_)
  cases e
  cases d1
  obtain rfl : u = Value.ref a := rv
  obtain ⟨xs, hx, r⟩ := dctAt_lies p1 hd
  obtain ⟨ep, R⟩ := (dict_at I1 hx r).raw
  refine Calls.spliced_nil ?_
  -- iter(d)
  refine Calls.call_function_entry (by decide +kernel) (by decide +kernel) PySem.W.kdk_entry_iter (PySem.W.kdk_args_iter _) ?_
  unfold Builtin.«iter»
  refine wpAny_bind (m := someArgs "iter" 1 2 _) (wpAny_of_eq (a := [Value.ref a]) (by first | rfl | kernel_rfl!) ?_)
  show wpAny _ _ (pyIter (.ref a) >>= _) _ _ _
  refine wpAny_bind (wpAny_pyIter_dict_raw r.sys R (wpAny_pure ⟨_, rfl, ?_⟩))
  -- None
  show wpAny _ _ (spliced ((false, eval (.Constant .none j p3) X.env) :: backTo pos (starEach [] X.env))) _ _ _
  refine Calls.spliced_cons (Constant_none (Calls.spliced_nil ?_))
  -- next(it, None)
  have hit : (s1.heap.push { cls := .type "dict_keyiterator", data := .fields #[.ref a, .int 0 0, .int (xs.map (entN X.w)).toArray.size 0, .int ep 0] }).IsKeyIter s1.heap.objs.size a 0 (xs.map (entN X.w)).toArray.size ep := ⟨_, Heap.get?_push_size _ rfl, rfl, rfl⟩
  have R' : (s1.heap.push { cls := .type "dict_keyiterator", data := .fields #[.ref a, .int 0 0, .int (xs.map (entN X.w)).toArray.size 0, .int ep 0] }).DictRaw a (xs.map (entN X.w)).toArray ep := R.at fun o e => Heap.get?_push_of_some _ e
  have old : ∀ b o, s1.heap.get? b = some o → b ≠ s1.heap.objs.size := fun b o e z => absurd (Heap.lt_size e) (by rw [z]; exact Nat.lt_irrefl _)
  refine Calls.call_function_entry (by decide +kernel) (by decide +kernel) PySem.W.kdk_entry_next (PySem.W.kdk_args_next2 _ _) ?_
  unfold Builtin.«next»
  refine wpAny_bind (m := someArgs "next" 1 2 _) (wpAny_of_eq (a := [Value.ref s1.heap.objs.size, Value.none]) (by first | rfl | kernel_rfl!) ?_)
  dsimp only
  refine wpAny_bind (wpAny_specialOf (name := Str.ofString "__next__") hit.typeIs PySem.F.slot_dict_keyiterator_next.lookup ?_)
  refine wpAny_ite_split (fun hab => absurd hab (by decide)) (fun _ => ?_)
  cases xs with
  | nil =>
    have hkv : kvs = [] := by
      cases r.ent
      rfl
    subst hkv
    refine wpAny_bind (wpAny_pyNext_keys_end_raw (I.ok.hd hc) hit R' (Nat.le_refl _) fun h' eb => ?_)
    refine wpAny_pure ⟨_, rfl, .non, H1, I1.kept (t' := s1.toks) fun b o e => eb b o (old b o e) (Heap.get?_push_of_some _ e), rfl, ?_⟩
    exact fin _ _ _ _ x1 p1 .non q1
  | cons y ys =>
    obtain ⟨p0, kr, hkv, e1, ⟨v0, d0, rv0⟩, _⟩ : ∃ p0 kr, kvs = p0 :: kr ∧ EntD X.K H1 p0 y := by
      cases r.ent with
      | cons h t => exact ⟨_, _, rfl, h⟩
    subst hkv
    refine wpAny_bind (wpAny_pyNext_keys_item_raw hit R' (by simp) fun h' _ sb => ?_)
    refine wpAny_pure ⟨_, rfl, v0, H1, I1.kept (t' := s1.toks) fun b o e => sb.extBut b o (old b o e) (Heap.get?_push_of_some _ e), rv0, ?_⟩
    exact fin _ _ _ _ x1 p1 d0 q1
def noSup : Expr → Bool
  | .Call _ _ _ _ => false
  | _ => true
theorem noSup_ok {o : Expr} (h : noSup o = true) (a : Str) (env : Env) (w : Sem Value) : attributeBase o a env w = w := by
  cases o <;> first | rfl | cases h
/-- the tuples of a dict's items, each at its address -/
def TupsAt (K : PySem.W.Frag) (H : Hp) (h' : Heap) (a : Addr) (o : HO) (p : D × D) : Prop := ∃ v1 v2 u1 u2, o = .tup [v1, v2] ∧ h'.get? a = some { cls := .type "tuple", data := .seq #[u1, u2] } ∧ RelV v1 u1 ∧ RelV v2 u2 ∧ Den K H p.1 v1 ∧ Den K H p.2 v2
theorem ents_tups {K : PySem.W.Frag} {H : Hp} {h' : Heap} : ∀ {kvs : List (D × D)} {xs : List NE} {as : List Addr}, Paired (EntD K H) kvs xs → as.length = xs.length →
    (∀ (j : Nat) (b : Addr), as[j]? = some b → ∃ x : NE, xs[j]? = some x ∧ h'.get? b = some { cls := .type "tuple", data := .seq #[x.2.1, x.2.2] }) → ∃ ns : List (Addr × HO), ns.map (·.1) = as ∧ Paired (fun (q : Addr × HO) (p : D × D) => TupsAt K H h' q.1 q.2 p) ns kvs
  | [], _, as, h, hl, _ => by
    cases h
    cases as with
    | nil => exact ⟨[], rfl, .nil⟩
    | cons _ _ => cases hl
  | p :: kvs, xs, as, h, hl, hj => by
    cases h with
    | @cons _ x _ xs h t =>
      cases as with
      | nil => cases hl
      | cons b as =>
        obtain ⟨ns, e, ih⟩ := ents_tups t (Nat.succ.inj hl) fun j b hb => hj (j + 1) b hb
        obtain ⟨y, ey, g⟩ := hj 0 b rfl
        cases ey
        obtain ⟨_, ⟨v1, d1, r1⟩, ⟨v2, d2, r2⟩⟩ := h
        exact ⟨(b, .tup [v1, v2]) :: ns, by rw [List.map_cons, e], .cons ⟨v1, v2, x.2.1, x.2.2, rfl, g, r1, r2, d1, d2⟩ ih⟩
theorem pair_memL {α β : Type} {F : α → β → Prop} : ∀ {l : List α} {r : List β}, Paired F l r → ∀ {v : α}, v ∈ l → ∃ d, F v d
  | _, _, .nil, v, h => nomatch h
  | _, _, .cons h t, v, hv => by
    rcases List.mem_cons.mp hv with rfl | hv
    · exact ⟨_, h⟩
    · exact pair_memL t hv
theorem tups_den {K : PySem.W.Frag} {H H' : Hp} {h' : Heap} (x : Ext H H') : ∀ {ns : List (Addr × HO)} {kvs : List (D × D)}, Paired (fun (q : Addr × HO) (p : D × D) => TupsAt K H h' q.1 q.2 p) ns kvs → (∀ q ∈ ns, H' q.1 = some q.2) → Dens K H' (kvs.map fun q => D.tup [q.1, q.2]) (ns.map fun q => V.ref q.1)
  | [], _, h, _ => by cases h; exact .nil
  | q :: ns, _, h, hq => by
    cases h with
    | @cons _ p _ kvs h t =>
      obtain ⟨v1, v2, u1, u2, e, _, _, _, d1, d2⟩ := h
      have e2 := hq q List.mem_cons_self
      rw [e] at e2
      exact .cons (.tup (.of e2) (.cons (d1.ext x) (.cons (d2.ext x) .nil))) (tups_den x t fun q h => hq q (List.mem_cons_of_mem _ h))
theorem s_items (hc : X.calm = true) (bl : BltOk X nl (.type "list")) (hs : noSup x = true) (hline : (apos.endLine == cpos.line) = true) (he : PE3 X x te) :
    PE3 X (.Call (.Name nl p) [.Call (.Attribute x "items" apos) [] [] cpos] [] pos) fun σ M Q => te σ M fun d M1 => biD .items [d] M1 Q := by
  refine ⟨fun pins s σ H Q I h => ?_⟩
  obtain ⟨σ3, M, Q3, r3, q, fin⟩ := h
  refine wpAny_Call_Name_kw (ld_blt I bl.gl bl.mg bl.bv ?_ bl.nn bl.nd)
  refine PyProof.Rows.callWith_type1 ?_ rfl rfl
  show wpAny _ _ (spliced ((false, eval (.Call (.Attribute x "items" apos) [] [] cpos) X.env) :: backTo pos (starEach [] X.env))) _ _ s
  refine Calls.spliced_cons ?_
  refine wpAny_Call_method (T := "dict") (id := "dict.items") (noSup_ok hs _ _ _) rfl hline F.plainAttrs_dict F.slot_dict_items F.type_dict_items (thn (he.run pins s σ H (fun v H1 => ∃ d M1, Ext H H1 ∧ Rep X.K X.w H1 M1 ∧ Den X.K H1 d v ∧ _) I ⟨σ3, M, _, r3, q, fun d M1 v H1 x1 p1 d1 q1 => ⟨d, M1, x1, p1, d1, q1⟩⟩) fun u s1 ⟨v, H1, I1, rv, d, M1, x1, p1, d1, a, kvs, e, hd, q1⟩ => ?_)
  cases e
  cases d1
  obtain rfl : u = Value.ref a := rv
  obtain ⟨xs, hx, r⟩ := dctAt_lies p1 hd
  have D := dict_at I1 hx r
  obtain ⟨ep, R⟩ := D.raw
  have hxs : (xs.map (entN X.w)).toArray.size = xs.length := by simp
  obtain ⟨o, _, E, hex⟩ := id D
  refine ⟨D.typeIs, fun b e => by cases e; exact ⟨o, E.ho, hex.2.1⟩, ?_⟩
  show wpAny _ _ (callWith cpos (.builtin "dict.items") [.ref a] [] []) _ X.xe s1
  refine Calls.callWith_builtin rfl (PySem.evalArgs_none (DT.callItems r.sys R ?_))
  refine Calls.spliced_nil ?_
  refine PySem.W.dil_call (es := (xs.map (entN X.w)).toArray) (ep := ep) (I1.ok.hd hc) ⟨_, Heap.get?_push_size _ rfl, rfl, rfl⟩ (R.at fun o e => Heap.get?_push_of_some _ e) (by rw [hxs]; exact r.sz) fun h' tk acc c as hk hS hl hG hacc => ?_
  have I2 : Inv X pins σ H1 { s1 with heap := s1.heap.push { cls := .type "dict_items", data := .fields #[.ref a] } } := I1.kept (t' := s1.toks) fun b ob q => Heap.get?_push_of_some _ q
  generalize hs2 : ({ s1 with heap := s1.heap.push { cls := .type "dict_items", data := .fields #[.ref a] } } : Shared) = s2 at *
  have hh : (s1.heap.push { cls := .type "dict_items", data := .fields #[.ref a] }) = s2.heap := by rw [← hs2]
  rw [hxs] at hl
  -- what is tracked
  have lay := ents_tups (as := as) (h' := h') r.ent hl (fun j b hb => by
    obtain ⟨hj, e⟩ := hG.pairs j b hb
    have hj' : j < xs.length := by rw [← hxs]; exact hj
    refine ⟨xs[j], by simp [hj'], ?_⟩
    rw [e]
    simp [entN])
  obtain ⟨ns, e1, hT⟩ := lay
  have hT2 : ∀ q ∈ ns, ∃ p, TupsAt X.K H1 h' q.1 q.2 p := fun q hq => pair_memL hT hq
  have nd : as.Nodup := List.Pairwise.imp (fun {a b} (h : a < b) => Nat.ne_of_lt h) hG.rise
  have hSn : s2.heap.objs.size ∉ as := fun z => Nat.lt_irrefl _ (hG.above _ z)
  have nd2 : (((s2.heap.objs.size, HO.lst (as.map V.ref)) :: ns).map (·.1)).Nodup := by
    rw [List.map_cons, e1]
    exact List.nodup_cons.mpr ⟨hSn, nd⟩
  have I3 : Inv X pins σ (putH H1 ((s2.heap.objs.size, HO.lst (as.map V.ref)) :: ns)) { s2 with heap := h', toks := tk } := by
    refine Inv.many I2 hk nd2 (fun q hq => ?_) fun q hq => ?_
    · rcases List.mem_cons.mp hq with rfl | hq
      · exact Nat.le_refl _
      · exact Nat.le_of_lt (hG.above q.1 (by rw [← e1]; exact List.mem_map.mpr ⟨q, hq, rfl⟩))
    · rcases List.mem_cons.mp hq with rfl | hq
      · refine ⟨by rw [List.length_map, hl]; exact r.sz, acc.toList, c, by rw [hacc]; exact LiI.vals_refs as, ?_⟩
        rw [Array.toArray_toList]
        exact hS
      · obtain ⟨_, v1, v2, u1, u2, e, ht, ra, rb, _⟩ := hT2 q hq
        rw [e]
        exact ⟨by show 2 ≤ sizeLine; rw [sizeLine_eq]; omega, [u1, u2], .cons ra (.cons rb .nil), ⟨_, ht, rfl, _, rfl⟩⟩
  have new : ∀ b ∈ ((s2.heap.objs.size, HO.lst (as.map V.ref)) :: ns).map (·.1), H1 b = none := fun b hb => by
    rw [List.map_cons, e1] at hb
    rcases List.mem_cons.mp hb with rfl | hb
    · exact I2.hok.fresh (Nat.le_refl _)
    · exact I2.hok.fresh (Nat.le_of_lt (hG.above b hb))
  have x3 := Ext.many (H := H1) new
  refine ⟨.ref s2.heap.objs.size, _, I3, rfl, ?_⟩
  have hnS : H1 s2.heap.objs.size = none := new _ (by rw [List.map_cons]; exact List.mem_cons_self)
  refine fin (.ref s2.heap.objs.size) _ _ _ (x1.trans x3) ?_ (.ref _) (q1 _ (p1.free hnS))
  intro b o hb
  by_cases z : b = s2.heap.objs.size
  · subst z
    rw [up3_same] at hb
    cases hb
    refine ⟨as.map V.ref, putH_at nd2 List.mem_cons_self, ?_⟩
    have e9 : as.map V.ref = ns.map fun q => V.ref q.1 := by rw [← e1, List.map_map]; rfl
    have t := tups_den x3 hT (fun q hq => putH_at nd2 (List.mem_cons_of_mem _ hq))
    rw [← e9] at t
    exact t
  · rw [up3_ne z] at hb
    exact (p1.stay x3 fun c v hc => putH_off fun hm => by
      have := p1.free (new c hm)
      rw [this] at hc
      cases hc) b o hb

/-! ### methods -/
def meN : ME → Str
  | .append => "append"
  | .pop => "pop"
  | .get => "get"
variable {o e : Expr} {es : List Expr} {to : TE3} {t : TA3}
theorem few_ok (hp : (e :: es).all plainA = true) (hl : decide ((e :: es).length < 30) = true) : ((backTo cpos (starEach (e :: es) X.env)).all (fun x => !x.1) && (backToKw cpos (keywordEach [] X.env)).all (fun x => x.1.isSome)
      && decide ((e :: es).length + ([] : List Keyword).length + (if ([] : List Keyword).isEmpty then 0 else 1) < 30)) = true := by
  have h1 : (backTo cpos (starEach (e :: es) X.env)).all (fun x => !x.1) = true := by
    have := stars_plain cpos X.env hp
    rw [List.any_eq_false] at this
    rw [List.all_eq_true]
    intro x hx
    have := this x hx
    simpa using this
  rw [h1]
  show (true && true && decide ((e :: es).length + 0 + 0 < 30)) = true
  exact hl
theorem s_meth (hu : X.A.units + 100 < cLine) (m : ME) (hs : noSup o = true) (hp : (e :: es).all plainA = true) (hl : decide ((e :: es).length < 30) = true) (hline : (apos.endLine == cpos.line) = true) (ho : PE3 X o to) (ha : PA3 X (e :: es) t) :
    PE3 X (.Call (.Attribute o (meN m) apos) (e :: es) [] cpos) fun σ M Q => to σ M fun x M1 => meTy m x M1 ∧ t σ M1 fun ds M2 => meD m x ds M2 Q := by
  refine ⟨fun pins s σ H Q I h => ?_⟩
  obtain ⟨σ3, M, Q3, r3, q, fin⟩ := h
  have hp2 := hp
  rw [List.all_cons, Bool.and_eq_true] at hp2
  refine wpAny_Call_method_late (noSup_ok hs _ _ _) (few_ok hp hl) hline rfl (thn (ho.run pins s σ H (fun v H1 => ∃ d M1, Ext H H1 ∧ Rep X.K X.w H1 M1 ∧ Den X.K H1 d v ∧ _) I ⟨σ3, M, _, r3, q, fun d M1 v H1 x1 p1 d1 q1 => ⟨d, M1, x1, p1, d1, q1⟩⟩) fun u s1 ⟨v, H1, I1, rv, d, M1, x1, p1, d1, ty, q1⟩ => ?_)
  have args : ∀ {Q' : List Value → Shared → Prop}, (∀ us s2 vs H2 ds M2, Ext H1 H2 → Rep X.K X.w H2 M2 → Dens X.K H2 ds vs → Inv X pins σ H2 s2 → Vals vs us → meD m d ds M2 Q3 → Q' us s2) → wpAny (model X.prog X.w) X.A (spliced (backTo cpos (starEach (e :: es) X.env))) Q' X.xe s1 := fun {Q'} hq =>
    thn (ha.run cpos pins s1 σ H1 (fun vs H2 => ∃ ds M2, Ext H1 H2 ∧ Rep X.K X.w H2 M2 ∧ Dens X.K H2 ds vs ∧ meD m d ds M2 Q3) I1 ⟨σ3, M1, _, r3.ext x1 p1, q1, fun ds M2 vs H2 x2 p2 d2 q2 => ⟨ds, M2, x2, p2, d2, q2⟩⟩) fun us s2 ⟨vs, H2, I2, r2, ds, M2, x2, p2, d2, q2⟩ => hq us s2 vs H2 ds M2 x2 p2 d2 I2 r2 q2
  have go : ∀ (T id : String), PlainAttrs T → Slot T (meN m) id → typeOf (.builtin id) = pure (.type "method_descriptor") → s1.TypeIs u T → (∀ a, u = .ref a → ∃ ob, s1.heap.get? a = some ob ∧ ob.dict = none) →
      (∀ us s2 vs H2 ds M2, Ext H1 H2 → Rep X.K X.w H2 M2 → Dens X.K H2 ds vs → Inv X pins σ H2 s2 → Vals vs us → meD m d ds M2 Q3 → wpAny (model X.prog X.w) X.A (call (.builtin id) (u :: us)) (EP X pins σ Q) X.xe s2) →
      MethodOn X.prog X.w X.A (meN m) cpos u (backTo cpos (starEach (e :: es) X.env)) (EP X pins σ Q) X.xe s1 := fun T id pa sl ty h1 h2 hc => by
    refine ⟨T, id, pa, sl, ty, h1, h2, ?_⟩
    refine Calls.callWith_builtin (stars_plain cpos X.env hp) ?_
    have he := star_plain hp2.1 es X.env
    have := args fun us s2 vs H2 ds M2 x2 p2 d2 I2 r2 q2 => hc us s2 vs H2 ds M2 x2 p2 d2 I2 r2 q2
    rw [he] at this ⊢
    exact Calls.evalArgs_plain this
  have lstT : ∀ a ds, d = .ref a → M1 a = some (.lst ds) → s1.TypeIs u "list" ∧ ∀ b, u = .ref b → ∃ ob, s1.heap.get? b = some ob ∧ ob.dict = none := fun a ds e hl => by
    subst e
    cases d1
    obtain rfl : u = Value.ref a := rv
    obtain ⟨vs, hv, _⟩ := p1 a _ hl
    obtain ⟨its, _, pl, _⟩ := I1.list (.of hv)
    refine ⟨pl.isList.typeIs, fun b e => ?_⟩
    cases e
    obtain ⟨o, n, e, c, hd, _⟩ := pl
    exact ⟨o, e, hd⟩
  cases m with
  | append =>
    obtain ⟨a, ds, e, hl⟩ := ty
    obtain ⟨h1, h2⟩ := lstT a ds e hl
    refine go "list" "list.append" F.plainAttrs_list F.slot_list_append F.type_list_append h1 h2 fun us s2 vs H2 dl M2 x2 p2 d2 I2 r2 q2 => ?_
    obtain ⟨a', ds', y, e', rfl, hm, hz, q3⟩ := q2
    rw [e] at e'
    cases e'
    subst e
    cases d1
    obtain ⟨w, rfl, dy⟩ := d2.one
    obtain ⟨ws, hv, tv⟩ := p2 a _ hm
    have x3 : Ext H2 (upd H2 a (.lst (ws ++ [w]))) := Ext.put hv (fun _ e => by cases e) fun _ _ e => by cases e
    refine mt_append pins s2 σ H2 _ _ u us Q I2 rv r2 ⟨a, ws, w, rfl, rfl, hv, by rw [← tv.length]; exact hz, ?_⟩
    exact fin _ _ _ _ (x1.trans (x2.trans x3)) (p2.put (u := .lst (ds' ++ [y])) hv (fun _ e => by cases e) (fun _ _ e => by cases e) ⟨ws ++ [w], upd_same, (tv.ext x3).app (.cons (dy.ext x3) .nil)⟩) .non q3
  | pop =>
    obtain ⟨a, ds, e, hl⟩ := ty
    obtain ⟨h1, h2⟩ := lstT a ds e hl
    refine go "list" "list.pop" F.plainAttrs_list F.slot_list_pop F.type_list_pop h1 h2 fun us s2 vs H2 dl M2 x2 p2 d2 I2 r2 q2 => ?_
    obtain ⟨a', ds', i, y, e', rfl, hm, h0, hy, q3⟩ := q2
    rw [e] at e'
    cases e'
    subst e
    cases d1
    obtain ⟨w, rfl, dy⟩ := d2.one
    obtain ⟨ws, hv, tv⟩ := p2 a _ hm
    obtain ⟨yv, hyv, dyv⟩ := tv.get hy
    have hlt : i.toNat < ws.length := (List.getElem?_eq_some_iff.mp hyv).1
    have hz : ws.length ≤ sizeLine := by
      obtain ⟨_, _, _, hz⟩ := I2.list (.of hv)
      exact hz
    have hln := line63
    have x3 : Ext H2 (upd H2 a (.lst (ws.eraseIdx i.toNat))) := Ext.put hv (fun _ e => by cases e) fun _ _ e => by cases e
    refine mt_popAt pins s2 σ H2 _ _ u us Q I2 rv r2 ⟨a, ws, i, i.toNat, yv, rfl, by rw [dy.int_inv], hv, by omega, by omega, PySem.StrLaws.seqIndex_nonneg h0 (by omega), hyv, ?_⟩
    exact fin _ _ _ _ (x1.trans (x2.trans x3)) (p2.put (u := .lst (ds'.eraseIdx i.toNat)) hv (fun _ e => by cases e) (fun _ _ e => by cases e) ⟨ws.eraseIdx i.toNat, upd_same, (tv.ext x3).erase i.toNat⟩) (dyv.ext x3) q3
  | get =>
    obtain ⟨a, kvs, e, hl⟩ := ty
    have dT : s1.TypeIs u "dict" ∧ ∀ b, u = .ref b → ∃ ob, s1.heap.get? b = some ob ∧ ob.dict = none := by
      subst e
      cases d1
      obtain rfl : u = Value.ref a := rv
      obtain ⟨xs, hx, r⟩ := dctAt_lies p1 hl
      have D := dict_at I1 hx r
      refine ⟨D.typeIs, fun b e => ?_⟩
      cases e
      obtain ⟨o, _, E, hex⟩ := D
      exact ⟨o, E.ho, hex.2.1⟩
    refine go "dict" "dict.get" F.plainAttrs_dict F.slot_dict_get F.type_dict_get dT.1 dT.2 fun us s2 vs H2 dl M2 x2 p2 d2 I2 r2 q2 => ?_
    obtain ⟨a', kvs', y, dv, kk, e', rfl, hm, hk, q3⟩ := q2
    rw [e] at e'
    cases e'
    subst e
    cases d1
    obtain rfl : u = Value.ref a := rv
    obtain ⟨v1, v2, rfl, d3, d4⟩ := d2.two
    obtain ⟨u1, u2, rfl, r3', r4⟩ := vals2 r2
    obtain ⟨xs, hx, r⟩ := dctAt_lies p2 hm
    have D := dict_at I2 hx r
    refine get2_mix (by omega) (key_ok I2 hk d3 r3') r.sys D ?_
    rcases look_ent (k := kk) r.ent with ⟨e1, e2⟩ | ⟨d', u', e1, e2, ⟨w, dw, rw'⟩⟩
    · rw [e1] at q3
      rw [e2]
      exact ⟨v2, H2, I2.tok _, r4, fin _ _ _ _ (x1.trans x2) p2 d4 q3⟩
    · rw [e1] at q3
      rw [e2]
      exact ⟨w, H2, I2.tok _, rw', fin _ _ _ _ (x1.trans x2) p2 dw q3⟩
end
end L3

set_option Elab.async false
set_option linter.all false
set_option maxRecDepth 100000
set_option maxHeartbeats 4000000
/-! C13: what loops and comprehensions walk. -/
namespace L3
open PySem PySem.Spec PyProof.Rows L2

/-- the iterator J walks s, from the heap H1 on -/
structure Feeds (K : PySem.W.Frag) (w : World) (H1 : Hp) (J : It) (s : Src) : Prop where
  go : ∀ i H M, Ext H1 H → Rep K w H M → s.holds M → i < s.items.length → J.go i H
  yld : ∀ i H M x H', Ext H1 H → Rep K w H M → s.holds M → J.yld i H x H' → i < s.items.length → Ext H H' ∧ Rep K w H' M ∧ ∃ d, s.items[i]? = some d ∧ Den K H' d x
  stop : ∀ i H M, Ext H1 H → Rep K w H M → s.holds M → s.items.length ≤ i → J.stop i H
def liftI (K : PySem.W.Frag) (w : World) (t : TI3) : TI := fun σ H R => ∃ σ3 M Q3, R3 K w σ3 M σ H ∧ t σ3 M Q3 ∧ ∀ s M' J H', Ext H H' → Rep K w H' M' → Feeds K w H' J s → s.holds M' → Q3 s M' → R J H'
abbrev PI3 (X : Cx) (tg iter : Expr) (t : TI3) : Prop := PI X tg iter (liftI X.K X.w t)
theorem PI.imp {X : Cx} {tg e : Expr} {t u : TI} (h : PI X tg e t) (i : ∀ σ H R, u σ H R → t σ H R) : PI X tg e u := ⟨fun pins s σ H R I q => h.run pins s σ H R I (i σ H R q)⟩
theorem get_of_lt {α : Type} {l : List α} {i : Nat} (h : i < l.length) : ∃ x, l[i]? = some x := ⟨l[i], List.getElem?_eq_getElem h⟩
theorem feeds_tup {K : PySem.W.Frag} {w : World} {H1 : Hp} {a : Addr} {ds : List D} {vs : List V} (hv : SqT K H1 a vs) (t : Dens K H1 ds vs) : Feeds K w H1 (Itt K a) (.tup ds) where
  go := fun i H M x1 p _ hi => by
    have hi : i < ds.length := hi
    rw [t.length] at hi
    obtain ⟨x, e⟩ := get_of_lt hi
    exact ⟨vs, x, x1.sqT hv, e⟩
  yld := fun i H M x H' x1 p _ hy hi => by
    obtain ⟨rfl, hy⟩ := hy
    have e := hy vs (x1.sqT hv)
    have hi : i < ds.length := hi
    obtain ⟨d, ed⟩ := get_of_lt hi
    obtain ⟨v, e2, dv⟩ := (t.ext x1).get ed
    rw [e] at e2
    cases e2
    exact ⟨Ext.refl _, p, d, ed, dv⟩
  stop := fun i H M x1 p _ hi => by
    have hi : ds.length ≤ i := hi
    exact ⟨vs, x1.sqT hv, by rw [← t.length]; exact hi⟩
theorem sqL_inj {K : PySem.W.Frag} {H : Hp} {a : Addr} {xs ys : List V} (h : Rd H a (.lst xs)) (g : Rd H a (.lst ys)) : xs = ys := by
  rcases h with h | ⟨o, h⟩ <;> rcases g with g | ⟨o', g⟩ <;> rw [h] at g <;> cases g <;> rfl
theorem feeds_lstAt {K : PySem.W.Frag} {w : World} {H1 : Hp} {a : Addr} {ds : List D} {s : Src} (hi : s.items = ds) (hh : ∀ M, s.holds M → LstAt M a ds) : Feeds K w H1 (Itl K a) s where
  go := fun i H M x1 p h hlt => by
    obtain ⟨vs, hv, t⟩ := lstAt_lies p (hh M h)
    rw [hi, t.length] at hlt
    obtain ⟨x, e⟩ := get_of_lt hlt
    exact ⟨vs, x, hv, e⟩
  yld := fun i H M x H' x1 p h hy hlt => by
    obtain ⟨rfl, hy⟩ := hy
    obtain ⟨vs, hv, t⟩ := lstAt_lies p (hh M h)
    have e := hy vs hv
    rw [hi] at hlt ⊢
    obtain ⟨d, ed⟩ := get_of_lt hlt
    obtain ⟨v, e2, dv⟩ := t.get ed
    rw [e] at e2
    cases e2
    exact ⟨Ext.refl _, p, d, ed, dv⟩
  stop := fun i H M x1 p h hlt => by
    obtain ⟨vs, hv, t⟩ := lstAt_lies p (hh M h)
    exact ⟨vs, hv, by rw [← t.length, ← hi]; exact hlt⟩
theorem feeds_str {K : PySem.W.Frag} {w : World} {H1 : Hp} {z : Str} : Feeds K w H1 (Its z) (.str z) where
  go := fun i H M x1 p h hlt => by
    have hlt : i < (z.cps.toList.map fun c => D.str ⟨#[c]⟩).length := hlt
    rw [List.length_map, Array.length_toList] at hlt
    exact hlt
  yld := fun i H M x H' x1 p h hy hlt => by
    obtain ⟨rfl, c, hc, rfl⟩ := hy
    refine ⟨Ext.refl _, p, .str ⟨#[c]⟩, ?_, .str _⟩
    show (z.cps.toList.map fun c => D.str ⟨#[c]⟩)[i]? = _
    rw [List.getElem?_map, Array.getElem?_toList, hc]
    rfl
  stop := fun i H M x1 p h hlt => by
    have hlt : (z.cps.toList.map fun c => D.str ⟨#[c]⟩).length ≤ i := hlt
    rw [List.length_map, Array.length_toList] at hlt
    exact hlt
theorem feeds_rng {K : PySem.W.Frag} {w : World} {H1 : Hp} {n : Nat} : Feeds K w H1 (Itr 0 n) (.rng n) where
  go := fun i H M x1 p h hlt => by
    have hlt : i < ((List.range n).map fun (i : Nat) => D.int (i : Int)).length := hlt
    rw [List.length_map, List.length_range] at hlt
    exact hlt
  yld := fun i H M x H' x1 p h hy hlt => by
    obtain ⟨rfl, rfl⟩ := hy
    have hlt : i < ((List.range n).map fun (i : Nat) => D.int (i : Int)).length := hlt
    rw [List.length_map, List.length_range] at hlt
    refine ⟨Ext.refl _, p, .int (i : Int), ?_, ?_⟩
    · show ((List.range n).map fun (i : Nat) => D.int (i : Int))[i]? = _
      rw [List.getElem?_map, List.getElem?_range hlt]
      rfl
    · rw [Int.zero_add]
      exact .int _
  stop := fun i H M x1 p h hlt => by
    have hlt : ((List.range n).map fun (i : Nat) => D.int (i : Int)).length ≤ i := hlt
    rw [List.length_map, List.length_range] at hlt
    exact hlt
section
variable {X : Cx} {tg e : Expr} {te : TE3} {p pos tpos : Pos}
theorem i_of (he : PE3 X e te) : PI3 X tg e fun σ M R => te σ M fun x M1 => match x with
    | .tup ds => R (.tup ds) M1
    | .str z => R (.str z) M1
    | .ref a => (∃ ds, M1 a = some (.lst ds) ∧ R (.lst a ds) M1) ∨ ∃ ds, M1 a = some (.ro ds) ∧ R (.ro a ds) M1
    | _ => False := by
  refine ⟨fun pins s σ H R I h => ?_⟩
  obtain ⟨σ3, M, Q3, r3, q, fin⟩ := h
  refine thn (he.run pins s σ H (fun v H1 => ∃ d M1, Ext H H1 ∧ Rep X.K X.w H1 M1 ∧ Den X.K H1 d v ∧ _) I ⟨σ3, M, _, r3, q, fun d M1 v H1 x1 p1 d1 q1 => ⟨d, M1, x1, p1, d1, q1⟩⟩) fun u s1 ⟨v, H1, I1, rv, d, M1, x1, p1, d1, q1⟩ => ?_
  have self : ∀ b, b ∈ [s1.heap.objs.size] → FpOk X pins H1 b := fun b hb => by
    have e : b = s1.heap.objs.size := by simpa using hb
    rw [e]
    exact I1.fpOk (Nat.le_refl _) (I1.hok.fresh (Nat.le_refl _))
  have lst : ∀ a ds (sr : Src), d = .ref a → sr.items = ds → (∀ M, sr.holds M → LstAt M a ds) → sr.holds M1 → Q3 sr M1 → wpAny (model X.prog X.w) X.A (pyIter u) (PIE X pins σ tg R) X.xe s1 := fun a ds sr e hi hh hm q2 => by
    subst e
    cases d1
    obtain rfl : u = Value.ref a := rv
    obtain ⟨vs, hv, t⟩ := lstAt_lies p1 (hh M1 hm)
    obtain ⟨its, rv', pl, hz⟩ := I1.list hv
    refine wpAny_pyIter_list pl.isList ?_
    exact ⟨s1.heap.objs.size, [s1.heap.objs.size], _, _, H1, rfl, I1.kept (t' := s1.toks) fun b o e => Heap.get?_push_of_some _ e, turn_list a _, ⟨_, Heap.get?_push_size _ rfl, rfl, rfl⟩, self, fin sr M1 _ H1 x1 p1 (feeds_lstAt hi hh) hm q2⟩
  cases d with
  | tup ds =>
    obtain ⟨a, vs, rfl, hv, t⟩ := d1.tup_inv
    obtain rfl : u = Value.ref a := rv
    obtain ⟨its, rv', pl, hz⟩ := I1.tuple hv
    refine wpAny_pyIter_tuple (show s1.heap.IsTuple a its.toArray from pl) ?_
    exact ⟨s1.heap.objs.size, [s1.heap.objs.size], _, _, H1, rfl, I1.kept (t' := s1.toks) fun b o e => Heap.get?_push_of_some _ e, turn_tuple a _, ⟨_, Heap.get?_push_size _ rfl, rfl, rfl⟩, self, fin (.tup ds) M1 _ H1 x1 p1 (feeds_tup hv t) trivial q1⟩
  | str z =>
    cases d1
    obtain ⟨t, rfl⟩ := (show ∃ t, u = Value.str z t from rv)
    have q2 := fin (.str z) M1 _ H1 x1 p1 feeds_str trivial q1
    cases ha : z.cps.all (· < 128)
    · exact wpAny_pyIter_wide ha (pi_one (tk := s1.toks) I1 _ (turn_str _ z t "str_iterator" (.inr rfl)) ⟨_, Heap.get?_push_size _ rfl, rfl, rfl⟩ q2)
    · exact wpAny_pyIter_ascii ha (pi_one (tk := s1.toks) I1 _ (turn_str _ z t "str_ascii_iterator" (.inl rfl)) ⟨_, Heap.get?_push_size _ rfl, rfl, rfl⟩ q2)
  | ref a =>
    rcases q1 with ⟨ds, hm, q2⟩ | ⟨ds, hm, q2⟩
    · exact lst a ds (.lst a ds) rfl rfl (fun M h => .inl h) hm q2
    · exact lst a ds (.ro a ds) rfl rfl (fun M h => .inr h) hm q2
  | _ => exact q1.elim
theorem i_range (hg : Gl X "range") (hm : X.mg "range" = none) (hp : plainA e = true) (he : PE3 X e te) : PI3 X tg (.Call (.Name "range" p) [e] [] pos) fun σ M R => te σ M fun x M1 => ∃ j, x = .int j ∧ -(2 ^ 62) ≤ j ∧ j < 2 ^ 62 ∧ R (.rng j.toNat) M1 :=
  PI.imp (pi_range1 hg hm (pa_cons he pa_nil (star_plain hp [] X.env)) (star_plain hp [] X.env)) fun σ H R h => by
    obtain ⟨σ3, M, Q3, r3, q, fin⟩ := h
    refine ⟨σ3, M, _, r3, q, fun d M1 v H1 x1 p1 d1 ⟨j, e, h1, h2, q1⟩ => ?_⟩
    subst e
    exact ⟨j, by rw [d1.int_inv], h1, h2, fin (.rng j.toNat) M1 _ H1 x1 p1 feeds_rng trivial q1⟩
end

/-! ### enumerate -/
theorem enumD_get : ∀ (ds : List D) (n i : Nat), (enumD n ds)[i]? = (ds[i]?).map fun d => D.tup [.int ((n + i : Nat) : Int), d]
  | [], n, i => rfl
  | d :: r, n, 0 => by
    show some (D.tup [.int (n : Int), d]) = _
    rfl
  | d :: r, n, i + 1 => by
    show (enumD (n + 1) r)[i]? = (r[i]?).map fun d => D.tup [.int ((n + (i + 1) : Nat) : Int), d]
    rw [enumD_get r (n + 1) i, show n + 1 + i = n + (i + 1) by omega]
theorem enumD_length : ∀ (ds : List D) (n : Nat), (enumD n ds).length = ds.length
  | [], _ => rfl
  | d :: r, n => congrArg (· + 1) (enumD_length r (n + 1))
/-- each item of the tuple at a, in a new pair -/
def Itet (K : PySem.W.Frag) (a : Addr) (n : Nat) : It :=
  ⟨fun i H => ∃ (xs : List V) (x : V), SqT K H a xs ∧ xs.length = n ∧ xs[i]? = some x, fun i H v H' => ∃ T x, v = .ref T ∧ H T = none ∧ H' = upd H T (.tup [.int (i : Nat), x]) ∧ ∀ xs, SqT K H a xs → xs[i]? = some x, fun i H => ∃ xs : List V, SqT K H a xs ∧ xs.length = n ∧ n ≤ i⟩
theorem feeds_enT {K : PySem.W.Frag} {w : World} {H1 : Hp} {a : Addr} {ds : List D} {vs : List V} (hv : SqT K H1 a vs) (t : Dens K H1 ds vs) : Feeds K w H1 (Itet K a ds.length) (.enT ds) where
  go := fun i H M x1 p _ hi => by
    have hi : i < (enumD 0 ds).length := hi
    rw [enumD_length, t.length] at hi
    obtain ⟨x, e⟩ := get_of_lt hi
    exact ⟨vs, x, x1.sqT hv, t.length.symm, e⟩
  yld := fun i H M x H' x1 p _ hy hi => by
    obtain ⟨T, v, rfl, hn, rfl, hy⟩ := hy
    have e := hy vs (x1.sqT hv)
    have hi : i < (enumD 0 ds).length := hi
    rw [enumD_length] at hi
    obtain ⟨d, ed⟩ := get_of_lt hi
    obtain ⟨v', e2, dv⟩ := (t.ext x1).get ed
    rw [e] at e2
    cases e2
    refine ⟨Ext.new hn, p.hid hn, D.tup [.int (i : Int), d], ?_, .tup (.of upd_same) (.cons (.int _) (.cons (dv.ext (Ext.new hn)) .nil))⟩
    show (enumD 0 ds)[i]? = _
    rw [enumD_get, ed, Nat.zero_add]
    rfl
  stop := fun i H M x1 p _ hi => by
    have hi : (enumD 0 ds).length ≤ i := hi
    rw [enumD_length] at hi
    exact ⟨vs, x1.sqT hv, t.length.symm, hi⟩
theorem feeds_enL {K : PySem.W.Frag} {w : World} {H1 : Hp} {a : Addr} {ds : List D} : Feeds K w H1 (Ite K a) (.enL a ds) where
  go := fun i H M x1 p h hi => by
    obtain ⟨vs, hv, t⟩ := lstAt_lies p (.inl h)
    have hi : i < (enumD 0 ds).length := hi
    rw [enumD_length, t.length] at hi
    obtain ⟨x, e⟩ := get_of_lt hi
    exact ⟨vs, x, hv, e⟩
  yld := fun i H M x H' x1 p h hy hi => by
    obtain ⟨vs, hv, t⟩ := lstAt_lies p (.inl h)
    obtain ⟨T, v, rfl, hn, rfl, hy⟩ := hy
    have e := hy vs hv
    have hi : i < (enumD 0 ds).length := hi
    rw [enumD_length] at hi
    obtain ⟨d, ed⟩ := get_of_lt hi
    obtain ⟨v', e2, dv⟩ := t.get ed
    rw [e] at e2
    cases e2
    refine ⟨Ext.new hn, p.hid hn, D.tup [.int (i : Int), d], ?_, .tup (.of upd_same) (.cons (.int _) (.cons (dv.ext (Ext.new hn)) .nil))⟩
    show (enumD 0 ds)[i]? = _
    rw [enumD_get, ed, Nat.zero_add]
    rfl
  stop := fun i H M x1 p h hi => by
    obtain ⟨vs, hv, t⟩ := lstAt_lies p (.inl h)
    have hi : (enumD 0 ds).length ≤ i := hi
    rw [enumD_length] at hi
    exact ⟨vs, hv, by rw [← t.length]; exact hi⟩
end L3

set_option Elab.async false
set_option linter.all false
set_option maxRecDepth 100000
set_option maxHeartbeats 4000000
/-! C14: enumerate over tuples too; a locked dict's keys. -/
namespace L3
open PySem PySem.Spec PyProof.Rows L2

/-- enumerate(v), v whatever begins an iterator -/
theorem enum_new {v : Value} {o : Obj} {Hq : Heap → Prop} (B : Begins v o Hq) :
    Meets (Builtin.«enumerate.__new__» ⟨[.type "enumerate", v], []⟩) (fun _ R s => Hq s.heap ∧
      R (.ok (.ret (.ref (s.heap.push o).objs.size))) { s with heap := (s.heap.push o).push { cls := .type "enumerate", data := .fields #[.none, .bool false, .ref s.heap.objs.size, rawInt 0, .none, .none] } }) :=
  .of_wp fun prog w A R s h => by
    obtain ⟨hp, g, d, tk, os⟩ := s
    obtain ⟨h1, h⟩ := h
    have hsub := sub_enumerate
    have q1 : ∀ {A' : Around} {E : Value → Shared → Prop} {Q : Value → Shared → Prop}, Q (.ref hp.objs.size) ⟨hp.push o, g, d, tk, os⟩ → wpAny (model prog w) A' (pyIter v) Q E ⟨hp, g, d, tk, os⟩ :=
      fun q => B.iter prog w _ _ ⟨hp, g, d, tk, os⟩ _ h1 q
    wp_walk using q1
    refine wpAny_stack_any fun st => wpAny_pure ?_
    split
    · rename_i c _ _ _ _ _
      cases (c == Value.type "enumerate")
      all_goals
        wp_walk using q1
        exact ⟨_, rfl, h⟩
    · wp_walk using q1
      exact ⟨_, rfl, h⟩
theorem enum_call {prog : Program} {w : World} {A : Around} {E : Value → Shared → Prop} {s : Shared} {v : Value} {o : Obj} {Hq : Heap → Prop} {Q : Value → Shared → Prop} (B : Begins v o Hq) (h1 : Hq s.heap)
    (h : ∀ h', IsEnum h' (s.heap.objs.size + 1) s.heap.objs.size 0 .none → h'.get? s.heap.objs.size = some o → (∀ b o, s.heap.get? b = some o → h'.get? b = some o) → Q (.ref (s.heap.objs.size + 1)) { s with heap := h' }) :
    wpAny (model prog w) A (call (.type "enumerate") [v]) Q E s := by
  refine callType_new F.called_enumerate (by decide) (F.typeCall_enumerate_1 _) (F.newCall_enumerate_1 _) (fun obj => F.args_object_init_2 obj _) F.entry_enumerate_new (enum_new B) ⟨h1, ?_⟩
  have hz : (s.heap.push o).objs.size = s.heap.objs.size + 1 := Heap.size_push ..
  show _ ∧ _
  rw [hz]
  have he : IsEnum ((s.heap.push o).push { cls := .type "enumerate", data := .fields #[.none, .bool false, .ref s.heap.objs.size, rawInt 0, .none, .none] }) (s.heap.objs.size + 1) s.heap.objs.size 0 .none := by
    have q := Heap.get?_push_size (s.heap.push o) (o := { cls := .type "enumerate", data := .fields #[.none, .bool false, .ref s.heap.objs.size, rawInt 0, .none, .none] }) rfl
    rw [hz] at q
    exact q
  exact ⟨⟨_, he, rfl⟩, h _ he (Heap.get?_push_of_some _ (Heap.get?_push_size _ B.free)) fun b o x => Heap.get?_push_of_some _ (Heap.get?_push_of_some _ x)⟩
theorem turn_enT {P : Program} {w : World} {K : PySem.W.Frag} {elts : List Expr} {kk : Nat} {tpos : Pos} (a e it : Addr) (n : Nat) :
    Turn P w K (.Tuple elts kk tpos) (Itet K a n) [e, it] e (fun i h => (∃ old, IsEnum h e it ((i : Nat) : Int) old) ∧ h.IsTupleIter it a i ∧ e ≠ it ∧ i ≤ n) where
  mem := by simp
  obj := fun i h st b hb => by
    obtain ⟨⟨old, he⟩, ⟨o, ho, hc, hd⟩, _⟩ := st
    have e' : b = e ∨ b = it := by simpa using hb
    rcases e' with z | z
    · rw [z]; exact ⟨_, he, fun v q => nomatch q⟩
    · rw [z]; exact ⟨o, ho, fun v q => by rw [hd] at q; cases q⟩
  keep := fun i h h' st k => let ⟨⟨old, he⟩, hi, hne, hn⟩ := st; ⟨⟨old, k e (by simp) _ he⟩, hi.at fun o q => k it (by simp) o q, hne, hn⟩
  item := by
    intro X hP hw hK hc i pins s σ H E I hf st hg
    subst hP hw hK
    obtain ⟨⟨old, he⟩, hit, hne, hin⟩ := st
    obtain ⟨xs, x, hq, hxn, hx⟩ := hg
    obtain ⟨its, rv, p, hz⟩ := I.tuple hq
    obtain ⟨u, hu, ru⟩ := rv.get hx
    have hel : e < s.heap.objs.size := Heap.lt_size he
    have hil : it < s.heap.objs.size := by obtain ⟨_, q, _⟩ := hit; exact Heap.lt_size q
    have hisT : s.heap.IsTuple a its.toArray := p
    have hai : a ≠ it := fun z => by
      obtain ⟨o, q, c, _⟩ := hit
      obtain ⟨o', q', c', _⟩ := hisT
      rw [z, q] at q'
      cases q'
      rw [c] at c'
      have z2 := Value.type.inj c'
      exact absurd z2 (by decide)
    have hae : a ≠ e := fun z => by
      obtain ⟨o', q', c', _⟩ := hisT
      rw [z] at q'
      have he' := he
      unfold IsEnum at he'
      rw [he'] at q'
      cases q'
      have z2 := Value.type.inj c'
      exact absurd z2 (by decide)
    have D := Draws.tuple (prog := X.prog) (w := X.w) (A := X.A.in1) (I.ok.hd hc) it a hai its.toArray
    have hlt : i < its.toArray.size := by
      rw [List.size_toArray, ← rv.length]
      exact (List.getElem?_eq_some_iff.mp hx).1
    refine wpAny_pyNext_enum_itemD D he ⟨hit, hisT⟩ hlt hne (by simp [hne, Ne.symm hae]) fun y h' tk hy ho hst' hT hsz hk => ?_
    have hyu : y = u := by
      have hu' : its.toArray[i]? = some u := by simpa using hu
      rw [hu'] at hy
      exact (Option.some.inj hy).symm
    subst hyu
    refine ⟨_, rfl, wpAny_letOwnedTupleGo_enum (s := { s with heap := h', toks := tk + 1 }) ho fun h'' he' sb => ?_⟩
    have hT2 : h''.get? s.heap.objs.size = some { cls := .type "tuple", data := .seq #[.int i tk, y] } := (sb.2 _ (Nat.ne_of_gt hel)).trans hT
    have new : ObjOk X.prog X.w (upd H s.heap.objs.size (.tup [.int (i : Nat), x])) h'' s.heap.objs.size (.tup [.int (i : Nat), x]) :=
      ⟨by show 2 ≤ sizeLine; decide, [.int i tk, y], .cons ⟨_, rfl⟩ (.cons ru .nil), ⟨_, hT2, rfl, _, rfl⟩⟩
    have I1 : Inv X pins σ (upd H s.heap.objs.size (.tup [.int (i : Nat), x])) { s with heap := h'', toks := tk + 1 } :=
      I.turnedNew (ch := [e, it]) (fun b ob hb q => (sb.2 b (fun z => hb (by simp [z]))).trans (hk b ob (fun z => hb (by simp [z])) (fun z => hb (by simp [z])) q)) hf (Nat.le_refl _) new
    refine ⟨.ref s.heap.objs.size, _, I1, rfl, ⟨_, x, rfl, I.hok.fresh (Nat.le_refl _), rfl, fun ys hy => by rw [I.tuple_inj hy hq]; exact hx⟩, ⟨⟨y, ?_⟩, hst'.1.at fun o q => (sb.2 it (Ne.symm hne)).trans q, hne, by have := (List.getElem?_eq_some_iff.mp hx).1; omega⟩, fun b hb => ?_⟩
    · have e1 : ((i + 1 : Nat) : Int) = (i : Int) + 1 := by omega
      rw [e1]; exact he'
    · have hb' : b < s.heap.objs.size := by
        have e' : b = e ∨ b = it := by simpa using hb
        rcases e' with z | z
        · rw [z]; exact hel
        · rw [z]; exact hil
      rw [upd_ne (Nat.ne_of_lt hb')]
      exact (hf b hb).1
  done := by
    intro X hP hw hK hc i pins s σ H E I hf st hg
    subst hP hw hK
    obtain ⟨⟨old, he⟩, hit, hne, hin⟩ := st
    obtain ⟨xs, hq, hxn, hx⟩ := hg
    obtain ⟨its, rv, p, hz⟩ := I.tuple hq
    obtain ⟨f0, f1, f2, f3, f4, f5⟩ := hf it (by simp)
    have hl := rv.length
    have hisT : s.heap.IsTuple a its.toArray := p
    have hai : a ≠ it := fun z => by
      obtain ⟨o, q, c, _⟩ := hit
      obtain ⟨o', q', c', _⟩ := hisT
      rw [z, q] at q'
      cases q'
      rw [c] at c'
      have z2 := Value.type.inj c'
      exact absurd z2 (by decide)
    have D := Draws.tuple (prog := X.prog) (w := X.w) (A := X.A.in1) (I.ok.hd hc) it a hai its.toArray
    have e : i = its.toArray.size := by rw [List.size_toArray]; omega
    subst e
    exact wpAny_pyNext_enum_endD D he ⟨hit, hisT⟩ fun h' eb => ⟨rfl, I.turned (t' := s.toks) (fun b o hb q => eb b o hb q) f0 f1 f3 f4 f5⟩
  self := fun A i s Q E st h => let ⟨⟨_, he⟩, _⟩ := st; wpAny_pyIter_enum he h
section
variable {X : Cx} {e : Expr} {te : TE3} {p pos tpos : Pos} {elts : List Expr} {kk : Nat}
def enW (R : Src → Hp3 → Prop) (x : D) (M1 : Hp3) : Prop := match x with
    | .tup ds => R (.enT ds) M1
    | .ref a => ∃ ds, M1 a = some (.lst ds) ∧ R (.enL a ds) M1
    | _ => False
theorem i_enum (hg : Gl X "enumerate") (hm : X.mg "enumerate" = none) (hp : plainA e = true) (he : PE3 X e te) : PI3 X (.Tuple elts kk tpos) (.Call (.Name "enumerate" p) [e] [] pos) fun σ M R => te σ M fun x M1 => match x with
    | .tup ds => R (.enT ds) M1
    | .ref a => ∃ ds, M1 a = some (.lst ds) ∧ R (.enL a ds) M1
    | _ => False := by
  refine ⟨fun pins s σ H R I h => ?_⟩
  obtain ⟨σ3, M, Q3, r3, q, fin⟩ := h
  have ha := (pa_cons he pa_nil (star_plain hp [] X.env)).run pos pins s σ H (fun vs H1 => ∃ v, vs = [v] ∧ ∃ d M1, Ext H H1 ∧ Rep X.K X.w H1 M1 ∧ Den X.K H1 d v ∧ enW Q3 d M1) I ⟨σ3, M, _, r3, q, fun d M1 v H1 x1 p1 d1 q1 => ⟨v, rfl, d, M1, x1, p1, d1, q1⟩⟩
  refine Call_ (ld_blt I hg hm boot_enumerate (PyProof.Rows.callWith_type1 (thn ha fun us s1 ⟨vs, H1, I1, r1, v, ev, d, M1, x1, p1, d1, q1⟩ => ?_) (star_plain hp [] X.env) rfl))
  subst ev
  obtain ⟨u, rfl, rv⟩ := vals1 r1
  have self : ∀ b, b ∈ [s1.heap.objs.size + 1, s1.heap.objs.size] → FpOk X pins H1 b := fun b hb => by
    have e' : b = s1.heap.objs.size + 1 ∨ b = s1.heap.objs.size := by simpa using hb
    have hle : s1.heap.objs.size ≤ b := by
      rcases e' with z | z
      · rw [z]; exact Nat.le_add_right _ _
      · rw [z]; exact Nat.le_refl _
    exact I1.fpOk hle (I1.hok.fresh hle)
  cases d with
  | tup ds =>
    obtain ⟨a, vs, rfl, hv, t⟩ := d1.tup_inv
    obtain rfl : u = Value.ref a := rv
    obtain ⟨its, rv', pl, hz⟩ := I1.tuple hv
    refine enum_call (begins_tuple a its.toArray) (show s1.heap.IsTuple a its.toArray from pl) fun h' he hit hk => wpAny_pyIter_enum he ?_
    exact ⟨s1.heap.objs.size + 1, [s1.heap.objs.size + 1, s1.heap.objs.size], _, _, H1, rfl, I1.kept (t' := s1.toks) hk, turn_enT a (s1.heap.objs.size + 1) s1.heap.objs.size ds.length, ⟨⟨.none, he⟩, ⟨_, hit, rfl, rfl⟩, Nat.succ_ne_self _, Nat.zero_le _⟩, self, fin (.enT ds) M1 _ H1 x1 p1 (feeds_enT hv t) trivial q1⟩
  | ref a =>
    cases d1
    obtain rfl : u = Value.ref a := rv
    obtain ⟨ds, hm2, q2⟩ := q1
    obtain ⟨vs, hv, t⟩ := lstAt_lies p1 (.inl hm2)
    obtain ⟨its, rv', pl, hz⟩ := I1.list hv
    refine enum_call (begins_list a its.toArray) pl.isList fun h' he hit hk => wpAny_pyIter_enum he ?_
    exact ⟨s1.heap.objs.size + 1, [s1.heap.objs.size + 1, s1.heap.objs.size], _, _, H1, rfl, I1.kept (t' := s1.toks) hk, turn_enum a (s1.heap.objs.size + 1) s1.heap.objs.size, ⟨⟨.none, he⟩, ⟨_, hit, rfl, rfl⟩, Nat.succ_ne_self _⟩, self, fin (.enL a ds) M1 _ H1 x1 p1 feeds_enL hm2 q2⟩
  | _ => exact q1.elim
end

/-! ### the keys of a locked dict -/
def Itk3 (K : PySem.W.Frag) (w : World) (d : Addr) (od : Obj) (kvs : List (D × D)) (xs : List NE) : It :=
  ⟨fun i H => H d = some (.frz od (DictO w d xs)) ∧ DictR K H d kvs xs ∧ i < kvs.length, fun i H x H' => H' = H ∧ ∃ p, kvs[i]? = some p ∧ Den K H p.1 x, fun i H => H d = some (.frz od (DictO w d xs)) ∧ DictR K H d kvs xs ∧ kvs.length ≤ i⟩
theorem frz_raw {X : Cx} {pins : List (Addr × Obj)} {σ : L2.St} {H : Hp} {s : Shared} {d : Addr} {od : Obj} {xs : List NE} (I : Inv X pins σ H s) (h : H d = some (.frz od (DictO X.w d xs))) : s.heap.get? d = some od ∧ od.ExactDict ∧ ∃ ep, od.data = .dict (xs.map (entN X.w)).toArray ep := by
  obtain ⟨hg, ⟨o, ep, ho, hc, hd⟩, _⟩ := (show ObjOk X.prog X.w H s.heap d (.frz od (DictO X.w d xs)) from I.hok d _ h)
  rw [hg] at ho
  cases ho
  exact ⟨hg, hc, ep, hd⟩
theorem ent_get {K : PySem.W.Frag} {H : Hp} : ∀ {kvs : List (D × D)} {xs : List NE} {i : Nat} {p : D × D}, Paired (EntD K H) kvs xs → kvs[i]? = some p → ∃ x, xs[i]? = some x ∧ EntD K H p x
  | _, _, _, _, .nil, h => by simp at h
  | _, _, 0, _, .cons h t, e => by
    cases e
    exact ⟨_, rfl, h⟩
  | _, _, i + 1, _, .cons h t, e => ent_get (i := i) t e
theorem turn_key3 {P : Program} {w : World} {K : PySem.W.Frag} {tg : Expr} {d it : Addr} {od : Obj} {ep : Nat} {kvs : List (D × D)} {xs : List NE} (hod : od.data = .dict (xs.map (entN w)).toArray ep) :
    Turn P w K tg (Itk3 K w d od kvs xs) [it] it (fun i h => h.IsKeyIter it d i (xs.map (entN w)).toArray.size ep) where
  mem := by simp
  obj := fun i h st b hb => by
    have e : b = it := by simpa using hb
    subst e
    obtain ⟨oi, e, c, dd⟩ := st
    exact ⟨oi, e, fun v z => by rw [dd] at z; cases z⟩
  keep := fun i h h' st k => st.at fun oi e => k it (by simp) oi e
  item := by
    intro X hP hw hK hc i pins s σ H E I hf st hg
    subst hP hw hK
    obtain ⟨hd, r, hi⟩ := hg
    obtain ⟨f0, f1, f2, f3, f4, f5⟩ := hf it (by simp)
    obtain ⟨hgd, hx, ep', hdt⟩ := frz_raw I hd
    obtain ⟨p, hp⟩ := get_of_lt hi
    obtain ⟨x, hx2, e1, ⟨v, dv, rv⟩, _⟩ := ent_get r.ent hp
    have hep : ep' = ep := by
      rw [hod] at hdt
      injection hdt with _ z
      exact z.symm
    subst hep
    have hlt : i < (xs.map (entN X.w)).toArray.size := by
      rw [List.size_toArray, List.length_map]
      exact (List.getElem?_eq_some_iff.mp hx2).1
    have hkey : ((xs.map (entN X.w)).toArray[i]).key = x.2.1 := by
      have e2 : (xs.map (entN X.w)).toArray[i]? = some (entN X.w x) := by
        rw [List.getElem?_toArray, List.getElem?_map, hx2]
        rfl
      rw [Array.getElem?_eq_getElem hlt] at e2
      rw [Option.some.inj e2]
      rfl
    refine wpAny_pyNext_keys_item_raw st ⟨od, hgd, hx, hdt⟩ hlt fun h' st' sb => ?_
    have I1 : Inv X pins σ H { s with heap := h' } := I.turned (t' := s.toks) (fun b ob hb e => (sb.2 b hb).trans e) f0 f1 f3 f4 f5
    obtain ⟨oi, e, cc, dd⟩ := id st'
    refine ⟨_, rfl, go_of (s := { s with heap := h' }) e cc dd (by decide) ⟨v, H, I1, by rw [hkey]; exact rv, ⟨rfl, p, hp, dv⟩, st', fun b hb => (hf b hb).1⟩⟩
  done := by
    intro X hP hw hK hc i pins s σ H E I hf st hg
    subst hP hw hK
    obtain ⟨hd, r, hi⟩ := hg
    obtain ⟨f0, f1, f2, f3, f4, f5⟩ := hf it (by simp)
    obtain ⟨hgd, hx, ep', hdt⟩ := frz_raw I hd
    have hep : ep' = ep := by
      rw [hod] at hdt
      injection hdt with _ z
      exact z.symm
    subst hep
    have hl : kvs.length = xs.length := Paired.length r.ent
    exact wpAny_pyNext_keys_end_raw (I.ok.hd hc) st ⟨od, hgd, hx, hdt⟩ (by rw [List.size_toArray, List.length_map]; omega) fun h' eb => ⟨rfl, I.turned (t' := s.toks) (fun b ob hb e => eb b ob hb e) f0 f1 f3 f4 f5⟩
  self := fun A i s Q E st h => by
    refine wpAny_pyIter_slot st.typeIs F.slot_dict_keyiterator_iter (wpAny_call_entry F.slot_dict_keyiterator_iter st.typeIs F.entry_dict_keyiterator_iter ?_ (F.args_dict_keyiterator_iter_1 _))
    show wpAny _ _ (ret (.ref it)) _ _ s
    exact wpAny_pure ⟨_, rfl, "dict_keyiterator", _, st.typeIs, F.slot_dict_keyiterator_next.lookup, h⟩
theorem DictO.inj {w : World} {d : Addr} {xs ys : List NE} {K : PySem.W.Frag} {H : Hp} {kvs : List (D × D)} (e : DictO w d xs = DictO w d ys) (r : DictR K H d kvs ys) : DictR K H d kvs ys := r
theorem feeds_lck {K : PySem.W.Frag} {w : World} {H1 : Hp} {d : Addr} {od : Obj} {kvs : List (D × D)} {xs : List NE} (hd : H1 d = some (.frz od (DictO w d xs))) (r : DictR K H1 d kvs xs) : Feeds K w H1 (Itk3 K w d od kvs xs) (.lck d kvs) where
  go := fun i H M x1 p h hlt => by
    have hlt : i < (kvs.map (·.1)).length := hlt
    rw [List.length_map] at hlt
    exact ⟨x1.frz _ _ _ hd, r.ext x1, hlt⟩
  yld := fun i H M x H' x1 p h hy hlt => by
    obtain ⟨rfl, q, hq, dq⟩ := hy
    refine ⟨Ext.refl _, p, q.1, ?_, dq⟩
    show (kvs.map (·.1))[i]? = _
    rw [List.getElem?_map, hq]
    rfl
  stop := fun i H M x1 p h hlt => by
    have hlt : (kvs.map (·.1)).length ≤ i := hlt
    rw [List.length_map] at hlt
    exact ⟨x1.frz _ _ _ hd, r.ext x1, hlt⟩
section
variable {X : Cx} {tg : Expr} {x : Str} {pos : Pos} {G : GEnv} {C : Nat → D} {Γ : Nat → Sp3} {N : List Str} {k : Nat} {sc : Scope}
theorem i_dvar (g : Good G C Γ N k X sc) {i : Nat} (hi : N[i]? = some x) (hv : visB sc x = true) (hn : nameOk x = true) : PI3 X tg (.Name x pos) fun σ M R => ∃ a kvs, σ[i]? = some (some (.ref a)) ∧ M a = some (.lck kvs) ∧ R (.lck a kvs) M := by
  refine ⟨fun pins s σ H R I h => ?_⟩
  obtain ⟨σ3, M, Q3, r3, ⟨a, kvs, e, hm, q⟩, fin⟩ := h
  obtain ⟨v, e', den⟩ := r3.st.get e
  cases den
  obtain ⟨od, xs, hd, r⟩ := r3.rep a _ hm
  refine thn ((pe_var (i := i) (by rw [g.hN]; exact hi) (by rw [g.hs]; exact visB_ok hv) (nameOk_d hn) (nameOk_c hn)).run pins s σ H (fun v H1 => v = .ref a ∧ H1 = H) I ⟨_, e', rfl, rfl⟩) fun u s1 ⟨v1, H1, I1, r1, ev, eh⟩ => ?_
  subst ev eh
  obtain rfl : u = Value.ref a := r1
  obtain ⟨hgd, hx, ep, hdt⟩ := frz_raw I1 hd
  refine wpAny_pyIter_dict_raw r.sys ⟨od, hgd, hx, hdt⟩ ?_
  exact pi_one (tk := s1.toks) I1 _ (turn_key3 hdt) ⟨_, Heap.get?_push_size _ rfl, rfl, rfl⟩ (fin (.lck a kvs) M _ H1 (Ext.refl H1) r3.rep (feeds_lck hd r) hm q)
end
end L3

set_option Elab.async false
set_option linter.all false
set_option maxRecDepth 100000
set_option maxHeartbeats 4000000
/-! C15: targets; for-loops, while-loops. -/
namespace L3
open PySem PySem.Spec PyProof.Rows L2

def tgIn : Tg → List Nat → Prop
  | .one i, own => i ∈ own
  | .many is, own => ∀ i ∈ is, i ∈ own
theorem set_none {σ : L2.St} {i j : Nat} {v w : Option V} (h : i = j) : (σ.set i v).set j w = σ.set j w := by
  subst h
  rw [List.set_set]
theorem wipe_comm {i : Nat} {v : Option V} : ∀ {own : List Nat} {σ : L2.St}, i ∉ own → wipe (σ.set i v) own = (wipe σ own).set i v
  | [], _, _ => rfl
  | j :: own, σ, h => by
    rw [List.mem_cons, not_or] at h
    show (wipe (σ.set i v) own).set j none = ((wipe σ own).set j none).set i v
    rw [wipe_comm h.2, List.set_comm _ _ h.1]
theorem wipe_set {i : Nat} {v : Option V} : ∀ {own : List Nat} {σ : L2.St}, i ∈ own → wipe (σ.set i v) own = wipe σ own
  | [], _, h => nomatch h
  | j :: own, σ, h => by
    show (wipe (σ.set i v) own).set j none = (wipe σ own).set j none
    by_cases hm : i ∈ own
    · rw [wipe_set hm]
    · have e : i = j := by
        rcases List.mem_cons.mp h with h | h
        · exact h
        · exact absurd h hm
      subst e
      rw [wipe_comm hm, List.set_set]
theorem wipe_wipe (σ : L2.St) (own : List Nat) : wipe (wipe σ own) own = wipe σ own := by
  suffices h : ∀ (vs : List Nat) , (∀ i ∈ vs, i ∈ own) → wipe (wipe σ vs) own = wipe σ own from h own fun _ h => h
  intro vs
  induction vs with
  | nil => intro _; rfl
  | cons v vs ih =>
    intro h
    show wipe ((wipe σ vs).set v none) own = _
    rw [wipe_set (h v List.mem_cons_self), ih fun i hi => h i (List.mem_cons_of_mem _ hi)]
theorem DenS.wipe {K : PySem.W.Frag} {H : Hp} {a : St3} {b : L2.St} (h : DenS K H a b) : ∀ vs : List Nat, DenS K H (wipe3 a vs) (L2.wipe b vs)
  | [] => h
  | v :: vs => DenS.set (d := none) (v := none) trivial v (DenS.wipe h vs)

/-- a target over data -/
def liftG (K : PySem.W.Frag) (w : World) (tg : Tg) : TG := fun v σ H Q => ∃ σ3 M d σ1, R3 K w σ3 M σ H ∧ Den K H d v ∧ asgT tg d σ3 = some σ1 ∧ ∀ σ', R3 K w σ1 M σ' H → (∀ own, tgIn tg own → wipe σ' own = wipe σ own) → Q σ' H
theorem PG.imp {X : Cx} {e : Expr} {t u : TG} (h : PG X e t) (i : ∀ v σ H Q, u v σ H Q → t v σ H Q) : PG X e u := ⟨fun pins s σ H v x Q I r q => h.run pins s σ H v x Q I r (i v σ H Q q)⟩
def locB (sc : Scope) (x : Str) : Bool := match sc.names.lookup x with
  | some .local => true
  | some .cell => true
  | _ => false
def tgN (N : List Str) (sc : Scope) : List Nat → List Expr → Bool
  | [], [] => true
  | i :: is, .Name x _ :: es => decide (N[i]? = some x) && locB sc x && tgN N sc is es
  | _, _ => false
def tgB (N : List Str) (sc : Scope) : Tg → Expr → Bool
  | .one i, .Name x _ => decide (N[i]? = some x) && locB sc x
  | .many is, .Tuple es _ _ => tgN N sc is es
  | _, _ => false
/-- names that may be stored to, by the scope ts that is written -/
def Sto (X : Cx) (ts : Scope) : Prop := ∀ x, locB ts x = true → Loc X.env.scope x ∧ (X.fn x = true ∨ X.env.scope.names.lookup x = some .local)
def gsOf : List Nat → TGs
  | [] => gNil
  | i :: is => gCons (gName i) (gsOf is)
section
variable {G : GEnv} {C : Nat → D} {Γ : Nat → Sp3} {N : List Str} {k : Nat} {X : Cx} {sc ts : Scope} {pos : Pos}
theorem g_name (g : Good G C Γ N k X sc) (st : Sto X ts) {i : Nat} {x : Str} (hi : N[i]? = some x) (hl : locB ts x = true) : PG X (.Name x pos) (gName i) := by
  obtain ⟨h1, h2⟩ := st x hl
  exact pg_name (by rw [g.hN]; exact g.nd) (by rw [g.hN]; exact hi) h1 h2
theorem gs_names (g : Good G C Γ N k X sc) (st : Sto X ts) : ∀ {is : List Nat} {es : List Expr}, tgN N ts is es = true → PGs X es (gsOf is) ∧ (assignEach es X.env).length = is.length ∧ (assignEach es X.env).findIdx? (·.1) = none
  | [], [], _ => ⟨pgs_nil, rfl, rfl⟩
  | [], _ :: _, h => by simp [tgN] at h
  | _ :: _, [], h => by simp [tgN] at h
  | i :: is, e :: es, h => by
    cases e with
    | Name x p =>
      simp only [tgN, Bool.and_eq_true, decide_eq_true_eq] at h
      obtain ⟨⟨h1, h2⟩, h3⟩ := h
      obtain ⟨a, b, c⟩ := gs_names g st h3
      refine ⟨pgs_cons (g_name g st h1 h2) a rfl, ?_, ?_⟩
      · show (assignEach es X.env).length + 1 = is.length + 1
        rw [b]
      · show ((false, assign (.Name x p) X.env) :: assignEach es X.env).findIdx? (·.1) = none
        rw [List.findIdx?_cons, c]
        rfl
    | _ => simp [tgN] at h
theorem gs_run {K : PySem.W.Frag} {w : World} {M : Hp3} {H : Hp} {Q : L2.St → Hp → Prop} : ∀ {is : List Nat} {ds : List D} {vs : List V} {σ3 σ1 : St3} {σ : L2.St}, setAll is ds σ3 = some σ1 → Dens K H ds vs → R3 K w σ3 M σ H →
    (∀ σ', R3 K w σ1 M σ' H → (∀ own, (∀ i ∈ is, i ∈ own) → wipe σ' own = wipe σ own) → Q σ' H) → gsOf is vs σ H Q ∧ vs.length = is.length
  | [], [], _, σ3, σ1, σ, e, t, r, q => by
    cases t
    cases e
    exact ⟨⟨rfl, q σ r fun _ _ => rfl⟩, rfl⟩
  | [], _ :: _, _, _, _, _, e, _, _, _ => by simp [setAll] at e
  | _ :: _, [], _, _, _, _, e, _, _, _ => by simp [setAll] at e
  | i :: is, d :: ds, _, σ3, σ1, σ, e, t, r, q => by
    cases t with
    | @cons _ v _ vs h t =>
      have r' : R3 K w (σ3.set i (some d)) M (σ.set i (some v)) H := ⟨DenS.set (d := some d) (v := some v) h i r.st, r.rep⟩
      obtain ⟨a, b⟩ := gs_run (Q := Q) (show setAll is ds (σ3.set i (some d)) = some σ1 from e) t r' fun σ' r2 hw => q σ' r2 fun own ho => by
        rw [hw own fun j hj => ho j (List.mem_cons_of_mem _ hj), wipe_set (ho i List.mem_cons_self)]
      exact ⟨⟨v, vs, rfl, a⟩, by rw [List.length_cons, List.length_cons, b]⟩
theorem g_tg (g : Good G C Γ N k X sc) (st : Sto X ts) {tg : Tg} {e : Expr} (h : tgB N ts tg e = true) : PG X e (liftG X.K X.w tg) := by
  cases tg with
  | one i =>
    cases e with
    | Name x p =>
      simp only [tgB, Bool.and_eq_true, decide_eq_true_eq] at h
      refine PG.imp (g_name g st h.1 h.2) fun v σ H Q hq => ?_
      obtain ⟨σ3, M, d, σ1, r, dv, e, q⟩ := hq
      cases e
      exact q _ ⟨DenS.set (d := some d) (v := some v) dv i r.st, r.rep⟩ fun own ho => wipe_set ho
    | _ => simp [tgB] at h
  | many is =>
    cases e with
    | Tuple es kk p =>
      obtain ⟨a, b, c⟩ := gs_names g st (show tgN N ts is es = true from h)
      refine PG.imp (pg_tup g.calm a b c) fun v σ H Q hq => ?_
      obtain ⟨σ3, M, d, σ1, r, dv, e, q⟩ := hq
      cases d with
      | tup ds =>
        obtain ⟨a, vs, rfl, hv, t⟩ := dv.tup_inv
        obtain ⟨x, y⟩ := gs_run (Q := Q) (show setAll is ds σ3 = some σ1 from e) t r fun σ' r2 hw => q σ' r2 hw
        exact ⟨a, vs, rfl, hv, y, x⟩
      | _ => cases e
    | _ => simp [tgB] at h
/-! ### for -/
def plainFor (e : Expr) : Bool := match e with
  | .Set _ _ _ => false
  | _ => true
variable {iter tgE : Expr} {body : List Stmt} {wi : TI3} {tb : TS3} {tg : Tg}
theorem loop_run {H1 : Hp} {J : It} {s : Src} {K : PySem.W.Frag} {w : World} {E : Ends} {D3 : Ends3} {H0 : Hp} (x0 : Ext H0 H1) (F : Feeds K w H1 J s) (le : EndsLe (lowEnds K w H0 D3) E) {σ3 : St3} {M1 : Hp3} {σ : L2.St} (r : R3 K w σ3 M1 σ H1) (h : loopW s.holds tg tb s.items D3 σ3 M1) :
    ∃ W : Nat → Nat → L2.St → Hp → Prop, (∃ m, W 0 m σ H1) ∧ ∀ i m σ H, W i m σ H → (J.stop i H ∧ E.nx σ H) ∨ (J.go i H ∧ ∃ Nn : L2.St → Hp → Prop, (∀ σ' H', Nn σ' H' → ∃ m', m' < m ∧ W (i + 1) m' σ' H') ∧ ∀ x H', J.yld i H x H' → liftG K w tg x σ H' fun σ2 H2 => liftS K w tb { E with nx := Nn, ct := Nn, bk := E.nx } σ2 H2) := by
  refine ⟨fun i m σ H => m = s.items.length - i ∧ i ≤ s.items.length ∧ Ext H1 H ∧ ∃ σ3 M, R3 K w σ3 M σ H ∧ loopW s.holds tg tb (s.items.drop i) D3 σ3 M, ⟨s.items.length, by simp, Nat.zero_le _, Ext.refl _, σ3, M1, r, h⟩, ?_⟩
  rintro i m σ H ⟨rfl, hi, x1, σ3, M, r, hl⟩
  by_cases hlt : i < s.items.length
  · obtain ⟨d, hd⟩ := get_of_lt hlt
    have e : s.items.drop i = d :: s.items.drop (i + 1) := by
      rw [List.drop_eq_getElem_cons hlt]
      rw [List.getElem?_eq_getElem hlt] at hd
      rw [Option.some.inj hd]
    rw [e] at hl
    obtain ⟨hold, σ1, ea, hb⟩ := hl
    refine .inr ⟨F.go i H M x1 r.rep hold hlt, fun σ' H' => Ext H1 H' ∧ ∃ σ3 M, R3 K w σ3 M σ' H' ∧ loopW s.holds tg tb (s.items.drop (i + 1)) D3 σ3 M, fun σ' H' hN => ⟨_, by omega, rfl, hlt, hN.1, hN.2⟩, fun x H' hy => ?_⟩
    obtain ⟨x2, p2, d', hd', dv⟩ := F.yld i H M x H' x1 r.rep hold hy hlt
    rw [hd] at hd'
    cases hd'
    refine ⟨σ3, M, d, σ1, r.ext x2 p2, dv, ea, fun σ' r' _ => ?_⟩
    refine ⟨σ1, M, _, r', hb, ⟨fun σ4 H4 hq => ?_, fun v4 H4 hq => ?_, fun σ4 H4 hq => ?_, fun σ4 H4 hq => ?_⟩⟩
    · obtain ⟨x4, σ5, M5, r5, q5⟩ := hq
      exact ⟨x1.trans (x2.trans x4), σ5, M5, r5, q5⟩
    · obtain ⟨x4, q5⟩ := hq
      exact le.rt v4 H4 ⟨x0.trans (x1.trans (x2.trans x4)), q5⟩
    · obtain ⟨x4, q5⟩ := hq
      exact le.nx σ4 H4 ⟨x0.trans (x1.trans (x2.trans x4)), q5⟩
    · obtain ⟨x4, σ5, M5, r5, q5⟩ := hq
      exact ⟨x1.trans (x2.trans x4), σ5, M5, r5, q5⟩
  · have e : i = s.items.length := by omega
    rw [e, List.drop_length] at hl
    obtain ⟨hold, q⟩ := hl
    exact .inl ⟨F.stop i H M x1 r.rep hold (by omega), le.nx σ H ⟨x0.trans x1, σ3, M, r, q⟩⟩
theorem s_for (g : Good G C Γ N k X sc) (st : Sto X ts) (ht : tgB N ts tg tgE = true) (hi : PI3 X tgE iter wi) (hb : PSs3 X body tb) (hs : ∀ x, foldedSetIterable iter X.env x = pure x) :
    PS3 X (.For tgE iter body [] pos) fun D σ M => wi σ M fun s M1 => loopW s.holds tg tb s.items D σ M1 :=
  PS.imp (ps_for g.pas g.calm hi (g_tg g st ht) hb hs) fun D σ H h => by
    obtain ⟨σ3, M, D3, r3, q, le⟩ := h
    exact ⟨σ3, M, _, r3, q, fun s M1 J H1 x1 p1 F hold q1 => loop_run x1 F le (r3.ext x1 p1) q1⟩
/-! ### while -/
theorem s_whl {c : Expr} {tc : TT3} (g : Good G C Γ N k X sc) (hc : PT3 X c tc) (hb : PSs3 X body tb) : PS3 X (.While c body [] pos) fun D σ M => ∃ n, whlW tc tb n D σ M :=
  PS.imp (ps_while g.pas hc hb) fun D σ H h => by
    obtain ⟨σ3, M, D3, r3, ⟨n, q⟩, le⟩ := h
    refine ⟨fun m σ' H' => Ext H H' ∧ ∃ σ3 M, R3 X.K X.w σ3 M σ' H' ∧ whlW tc tb m D3 σ3 M, ⟨n, Ext.refl _, σ3, M, r3, q⟩, ?_⟩
    rintro m σ1 H1 ⟨x1, σ4, M4, r4, q4⟩
    cases m with
    | zero => exact q4.elim
    | succ m =>
      refine ⟨σ4, M4, _, r4, q4, fun b M5 H5 x5 p5 q5 => ?_⟩
      cases b with
      | true =>
        rw [if_pos rfl] at q5 ⊢
        refine ⟨fun σ' H' => Ext H H' ∧ ∃ σ3 M, R3 X.K X.w σ3 M σ' H' ∧ whlW tc tb m D3 σ3 M, fun σ' H' hN => ⟨m, Nat.lt_succ_self m, hN⟩, σ4, M5, _, r4.ext x5 p5, q5, ⟨fun σ6 H6 hq => ?_, fun v6 H6 hq => ?_, fun σ6 H6 hq => ?_, fun σ6 H6 hq => ?_⟩⟩
        · obtain ⟨x6, q6⟩ := hq
          exact ⟨x1.trans (x5.trans x6), q6⟩
        · obtain ⟨x6, q6⟩ := hq
          exact le.rt v6 H6 ⟨x1.trans (x5.trans x6), q6⟩
        · obtain ⟨x6, q6⟩ := hq
          exact le.nx σ6 H6 ⟨x1.trans (x5.trans x6), q6⟩
        · obtain ⟨x6, q6⟩ := hq
          exact ⟨x1.trans (x5.trans x6), q6⟩
      | false =>
        rw [if_neg Bool.false_ne_true] at q5 ⊢
        exact le.nx σ1 H5 ⟨x1.trans x5, σ4, M5, r4.ext x5 p5, q5⟩
end
end L3

set_option Elab.async false
set_option linter.all false
set_option maxRecDepth 100000
set_option maxHeartbeats 4000000
/-! C16: comprehensions; dicts that are walked. -/
namespace L3
open PySem PySem.Spec PyProof.Rows L2

def tgInB : Tg → List Nat → Bool
  | .one i, own => own.contains i
  | .many is, own => is.all fun i => own.contains i
theorem tgInB_ok {tg : Tg} {own : List Nat} (h : tgInB tg own = true) : tgIn tg own := by
  cases tg with
  | one i => exact List.contains_iff_mem.mp h
  | many is => exact fun i hi => List.contains_iff_mem.mp (List.all_eq_true.mp h i hi)
def ownP (N : List Str) (own : List Nat) : List (Str × Nat) := own.filterMap fun i => (N[i]?).map fun x => (x, i)
def blkB (N : List Str) (sc scope : Scope) (tg : Tg) (own : List Nat) : Bool := blkC N sc scope (ownP N own) && decide ((ownP N own).map (·.2) = own) && tgInB tg own
section
variable {G : GEnv} {C : Nat → D} {Γ : Nat → Sp3} {N : List Str} {k : Nat} {X : Cx} {sc scope : Scope} {pos : Pos}
theorem Good.blk (g : Good G C Γ N k X sc) (s : Shared) (H : Hp) (a : Addr) (cl : List (Str × Addr)) (fp : List Addr) : Good G C Γ N k (X.blk s H scope (compEnvC scope cl a X.env) fp) (relS scope sc) :=
  ⟨g.hN, g.nd, by rw [← g.hs]; rfl, g.calm, g.room, g.guards, g.sys, g.fn, g.con, g.blt, PassesOwn.never⟩
theorem relS_look {sc : Scope} {x : Str} {kd : NameKind} (hk : kd ≠ .free) : ∀ {names : List (Str × NameKind)}, names.lookup x = some kd →
    (names.map fun (n, k) => if (k == NameKind.free && sc.kind == .function && sc.names.lookup n == some .cell) then (n, NameKind.cell) else (n, k)).lookup x = some kd
  | [], h => by simp at h
  | (n, k0) :: r, h => by
    rw [List.map_cons]
    cases hx : x == n with
    | true =>
      rw [List.lookup_cons, hx] at h
      cases h
      have hf : (kd == NameKind.free) = false := by
        cases kd <;> first | rfl | exact absurd rfl hk
      dsimp only
      rw [hf, Bool.false_and, Bool.false_and, if_neg Bool.false_ne_true, List.lookup_cons, hx]
    | false =>
      rw [List.lookup_cons, hx] at h
      have ih := relS_look (sc := sc) hk h
      dsimp only
      split
      · rw [List.lookup_cons, hx]
        exact ih
      · rw [List.lookup_cons, hx]
        exact ih
theorem sto_blk (g : Good G C Γ N k X sc) (s : Shared) (H : Hp) (a : Addr) (cl : List (Str × Addr)) (fp : List Addr) : Sto (X.blk s H scope (compEnvC scope cl a X.env) fp) scope := by
  intro x hx
  unfold locB at hx
  cases e : scope.names.lookup x with
  | none => rw [e] at hx; cases hx
  | some kd =>
    rw [e] at hx
    cases kd with
    | «local» =>
      have q := relS_look (sc := X.env.scope) (by decide) e
      exact ⟨.inl q, .inr q⟩
    | cell =>
      have q := relS_look (sc := X.env.scope) (by decide) e
      exact ⟨.inr q, .inl (by show (scope.names.lookup x == some .cell) = true; rw [e]; rfl)⟩
    | _ => cases hx
variable {elt iter tgE : Expr} {ifs : List Expr} {wi : TI3} {te tk tv : TE3} {tt : TT3} {tg : Tg} {own : List Nat}
theorem lc_run {K : PySem.W.Frag} {w : World} {H0 H1 : Hp} {J : It} {s : Src} {p : Addr} {σ3 : St3} {σ : L2.St} {M1 : Hp3} {Q3 : VK3} {Q : VK} (x0 : Ext H0 H1) (p1 : Rep K w H1 M1) (F : Feeds K w H1 J s) (ds : DenS K H1 (wipe3 σ3 own) (wipe σ own)) (hg : tgIn tg own) (hp : H1 p = none)
    (h : lcW s.holds tg tt te (wipe3 σ3 own) p s.items (up3 M1 p (.lst [])) Q3) (fin : ∀ d M' v H', Ext H0 H' → Rep K w H' M' → Den K H' d v → Q3 d M' → Q v H') :
    ∃ W : Nat → Nat → Hp → Prop, (∃ m, W 0 m (upd H1 p (.lst []))) ∧ ∀ i m H, W i m H → (J.stop i H ∧ Q (.ref p) H) ∨ (J.go i H ∧ ∃ Nx : Hp → Prop, (∀ H', Nx H' → ∃ m', m' < m ∧ W (i + 1) m' H') ∧ ∀ x H', J.yld i H x H' → liftG K w tg x (wipe σ own) H' fun σ2 H2 => wipe σ2 own = wipe σ own ∧ liftT K w tt σ2 H2 fun b H3 =>
      if b = true then liftE K w te σ2 H3 fun y H4 => ∃ acc, H4 p = some (.lst acc) ∧ acc.length < sizeLine ∧ Nx (upd H4 p (.lst (acc ++ [y]))) else Nx H3) := by
  have xp : Ext H1 (upd H1 p (.lst [])) := Ext.new hp
  refine ⟨fun i m H => m = s.items.length - i ∧ i ≤ s.items.length ∧ Ext H1 H ∧ ∃ M, Rep K w H M ∧ lcW s.holds tg tt te (wipe3 σ3 own) p (s.items.drop i) M Q3, ⟨s.items.length, by simp, Nat.zero_le _, xp, _, p1.new (u := .lst []) hp ⟨[], upd_same, .nil⟩, h⟩, ?_⟩
  rintro i m H ⟨rfl, hi, x1, M, pM, hl⟩
  by_cases hlt : i < s.items.length
  · obtain ⟨d, hd⟩ := get_of_lt hlt
    have e : s.items.drop i = d :: s.items.drop (i + 1) := by
      rw [List.drop_eq_getElem_cons hlt]
      rw [List.getElem?_eq_getElem hlt] at hd
      rw [Option.some.inj hd]
    rw [e] at hl
    obtain ⟨hold, σ1, ea, hb⟩ := hl
    refine .inr ⟨F.go i H M x1 pM hold hlt, fun H' => Ext H1 H' ∧ ∃ M, Rep K w H' M ∧ lcW s.holds tg tt te (wipe3 σ3 own) p (s.items.drop (i + 1)) M Q3, fun H' hN => ⟨_, by omega, rfl, hlt, hN.1, hN.2⟩, fun x H' hy => ?_⟩
    obtain ⟨x2, p2, d', hd', dv⟩ := F.yld i H M x H' x1 pM hold hy hlt
    rw [hd] at hd'
    cases hd'
    refine ⟨wipe3 σ3 own, M, d, σ1, ⟨(ds.ext x1).ext x2, p2⟩, dv, ea, fun σ' r' hw => ⟨by rw [hw own hg, wipe_wipe], ?_⟩⟩
    refine ⟨σ1, M, _, r', hb, fun b M3 H3 x3 p3 q3 => ?_⟩
    cases b with
    | false => exact ⟨x1.trans (x2.trans x3), M3, p3, q3⟩
    | true =>
      refine ⟨σ1, M3, _, r'.ext x3 p3, q3, fun y M4 v H4 x4 p4 d4 q4 => ?_⟩
      obtain ⟨acc, hm, hz, q5⟩ := q4
      obtain ⟨vs, hv, t⟩ := p4 p _ hm
      have x5 : Ext H4 (upd H4 p (.lst (vs ++ [v]))) := Ext.put hv (fun _ e => by cases e) fun _ _ e => by cases e
      exact ⟨vs, hv, by rw [← t.length]; exact hz, x1.trans (x2.trans (x3.trans (x4.trans x5))), _, p4.put (u := .lst (acc ++ [y])) hv (fun _ e => by cases e) (fun _ _ e => by cases e) ⟨vs ++ [v], upd_same, (t.ext x5).app (.cons (d4.ext x5) .nil)⟩, q5⟩
  · have e : i = s.items.length := by omega
    rw [e, List.drop_length] at hl
    obtain ⟨hold, q⟩ := hl
    exact .inl ⟨F.stop i H M x1 pM hold (by omega), fin _ _ _ _ (x0.trans x1) pM (.ref p) q⟩
theorem pts_no : PTs X [] (liftT X.K X.w fun _ M Q => Q true M) := ⟨fun pins s σ H Q I h => (pts_nil (X := X)).run pins s σ H Q I (by
  obtain ⟨σ3, M, Q3, r3, q, fin⟩ := h
  exact fin _ _ _ (Ext.refl H) r3.rep q)⟩
theorem s_lc (g : Good G C Γ N k X sc) (hb : blkB N sc scope tg own = true) (ht : tgB N scope tg tgE = true) (hi : PI3 X tgE iter wi)
    (hc : ∀ Y : Cx, Good G C Γ N k Y (relS scope sc) → PTs Y ifs (liftT Y.K Y.w tt)) (he : ∀ Y : Cx, Good G C Γ N k Y (relS scope sc) → PE3 Y elt te) (hs : ∀ x, foldedSetIterable iter X.env x = pure x) :
    PE3 X (.ListComp elt [⟨tgE, iter, ifs, 0⟩] scope pos) fun σ M Q => wi σ M fun s M1 => ∀ p, M1 p = none → lcW s.holds tg tt te (wipe3 σ own) p s.items (up3 M1 p (.lst [])) Q := by
  unfold blkB at hb
  simp only [Bool.and_eq_true, decide_eq_true_eq] at hb
  obtain ⟨⟨hb1, hb2⟩, hb3⟩ := hb
  have ok := blkOk_by hb1
  refine PE.imp (pe_lc (wi := liftI X.K X.w wi) (g := liftG X.K X.w tg) (tt := liftT X.K X.w tt) (te := liftE X.K X.w te) g.calm (by rw [g.hN]; exact g.nd) hi (by rw [g.hN, g.hs]; exact ok) (fun s H a cl fp => g_tg (g.blk s H a cl fp) (sto_blk g s H a cl fp) ht) (fun s H a cl fp => hc _ (g.blk s H a cl fp)) (fun s H a cl fp => he _ (g.blk s H a cl fp)) hs) fun σ H Q h => ?_
  rw [hb2]
  obtain ⟨σ3, M, Q3, r3, q, fin⟩ := h
  exact ⟨σ3, M, _, r3, q, fun s M1 J H1 x1 p1 F hold q1 p hp => lc_run x1 p1 F ((r3.st.ext x1).wipe own) (tgInB_ok hb3) hp (q1 p (p1.free hp)) fin⟩

/-! ### a dict locked while it is walked -/
theorem lock_rep {K : PySem.W.Frag} {w : World} {H : Hp} {M : Hp3} {a : Addr} {kvs : List (D × D)} {xs : List NE} (p3 : Rep K w H M) (hd : H a = some (DictO w a xs)) (r : DictR K H a kvs xs) (od : Obj) : Ext H (upd H a (.frz od (DictO w a xs))) ∧ Rep K w (upd H a (.frz od (DictO w a xs))) (up3 M a (.lck kvs)) := by
  have x : Ext H (upd H a (.frz od (DictO w a xs))) := Ext.put hd (fun _ e => by cases e) fun _ _ e => by cases e
  exact ⟨x, p3.put (u := .lck kvs) hd (fun _ e => by cases e) (fun _ _ e => by cases e) ⟨od, xs, upd_same, r.ext x⟩⟩
theorem unlock_rep {K : PySem.W.Frag} {w : World} {H : Hp} {M : Hp3} {a : Addr} {kvs : List (D × D)} {xs : List NE} {od : Obj} (p3 : Rep K w H M) (hd : H a = some (.frz od (DictO w a xs))) (hm : M a = some (.lck kvs)) : Rep K w (upd H a (DictO w a xs)) (up3 M a (.dct kvs)) := fun b o hb => by
  by_cases z : b = a
  · subst z
    rw [up3_same] at hb
    cases hb
    obtain ⟨o', xs', e, r⟩ := p3 b _ hm
    rw [hd] at e
    have e2 : DictO w b xs = DictO w b xs' := by
      injection Option.some.inj e
    exact ⟨xs', by rw [upd_same, e2], r.hole (.dic hd)⟩
  · rw [up3_ne z] at hb
    exact Lies.hole (.dic hd) z (p3 b o hb)
theorem ext_unlock {w : World} {H H' : Hp} {a : Addr} {xs : List NE} {od : Obj} (hd : H a = some (DictO w a xs)) (x : Ext (upd H a (.frz od (DictO w a xs))) H') : Ext H (upd H' a (DictO w a xs)) := by
  refine ⟨fun b ys e => ?_, fun b o u e => ?_⟩
  · have z : b ≠ a := fun z => by rw [z, hd] at e; cases e
    rw [upd_ne z]
    exact x.tup b ys (by rw [upd_ne z]; exact e)
  · have z : b ≠ a := fun z => by rw [z, hd] at e; cases e
    rw [upd_ne z]
    exact x.frz b o u (by rw [upd_ne z]; exact e)
theorem PE.or {e : Expr} {t u : TE} (h : PE X e t) (h' : PE X e u) : PE X e fun σ H Q => t σ H Q ∨ u σ H Q := ⟨fun pins s σ H Q I q => q.elim (h.run pins s σ H Q I) (h'.run pins s σ H Q I)⟩
theorem PS.or {e : Stmt} {t u : TS} (h : PS X e t) (h' : PS X e u) : PS X e fun D σ H => t D σ H ∨ u D σ H := ⟨fun pins s σ H D I q => q.elim (h.run pins s σ H D I) (h'.run pins s σ H D I)⟩
def wiD (i : Nat) : TI3 := fun σ M R => ∃ a kvs, σ[i]? = some (some (.ref a)) ∧ M a = some (.lck kvs) ∧ R (.lck a kvs) M
theorem lockE {e : Expr} {i : Nat} {body : St3 → Hp3 → Addr → List (D × D) → VK3 → Prop} (h : PE3 X e fun σ M Q => ∃ a kvs, σ[i]? = some (some (.ref a)) ∧ M a = some (.lck kvs) ∧ body σ M a kvs Q) :
    PE3 X e fun σ M Q => ∃ a kvs, σ[i]? = some (some (.ref a)) ∧ ((M a = some (.dct kvs) ∧ body σ (up3 M a (.lck kvs)) a kvs (unlockV a kvs Q)) ∨ (M a = some (.lck kvs) ∧ body σ M a kvs Q)) := by
  refine PE.imp (PE.or (pe_lock h) h) fun σ H Q hq => ?_
  obtain ⟨σ3, M, Q3, r3, ⟨a, kvs, ea, (⟨hm, q⟩ | ⟨hm, q⟩)⟩, fin⟩ := hq
  · left
    obtain ⟨xs, hd, r⟩ := r3.rep a _ hm
    refine ⟨a, DictO X.w a xs, hd, True.intro, fun od => ?_⟩
    obtain ⟨x1, p1⟩ := lock_rep r3.rep hd r od
    refine ⟨σ3, _, _, r3.ext x1 p1, ⟨a, kvs, ea, up3_same, q⟩, fun d M' v H' x2 p2 d2 q2 => ?_⟩
    have e2 := x2.frz _ _ _ upd_same
    obtain ⟨hm2, q3⟩ := q2
    exact ⟨e2, fin d _ v _ (ext_unlock hd x2) (unlock_rep p2 e2 hm2) (d2.hole (.dic e2)) q3⟩
  · right
    exact ⟨σ3, M, Q3, r3, ⟨a, kvs, ea, hm, q⟩, fin⟩
theorem DenS.hole {K : PySem.W.Frag} {H : Hp} {p : Addr} {n : HO} (e : NoTup H p) {a : St3} {b : L2.St} (h : DenS K H a b) : DenS K (upd H p n) a b := Paired.ex h fun x y q => by
  cases x with
  | none => trivial
  | some d =>
    cases y with
    | none => exact q
    | some v => exact Den.hole e q
theorem lockS {st : Stmt} {i : Nat} {body : St3 → Hp3 → Addr → List (D × D) → Ends3 → Prop} (h : PS3 X st fun D σ M => ∃ a kvs, σ[i]? = some (some (.ref a)) ∧ M a = some (.lck kvs) ∧ body σ M a kvs D) :
    PS3 X st fun D σ M => ∃ a kvs, σ[i]? = some (some (.ref a)) ∧ ((M a = some (.dct kvs) ∧ body σ (up3 M a (.lck kvs)) a kvs (unlockE a kvs D)) ∨ (M a = some (.lck kvs) ∧ body σ M a kvs D)) := by
  refine PS.imp (PS.or (ps_lock h) h) fun D σ H hq => ?_
  obtain ⟨σ3, M, D3, r3, ⟨a, kvs, ea, (⟨hm, q⟩ | ⟨hm, q⟩)⟩, le⟩ := hq
  · left
    obtain ⟨xs, hd, r⟩ := r3.rep a _ hm
    refine ⟨a, DictO X.w a xs, hd, True.intro, fun od => ?_⟩
    obtain ⟨x1, p1⟩ := lock_rep r3.rep hd r od
    have un : ∀ {σ4 : L2.St} {H' : Hp} {q3 : St3 → Hp3 → Prop}, lowS X.K X.w (upd H a (.frz od (DictO X.w a xs))) (unlockS a kvs q3) σ4 H' → H' a = some (.frz od (DictO X.w a xs)) ∧ lowS X.K X.w H q3 σ4 (upd H' a (DictO X.w a xs)) := fun {σ4 H' q3} hl => by
      obtain ⟨x2, σ5, M5, r5, hm5, q5⟩ := hl
      have e2 := x2.frz _ _ _ upd_same
      exact ⟨e2, ext_unlock hd x2, σ5, _, ⟨r5.st.hole (.dic e2), unlock_rep r5.rep e2 hm5⟩, q5⟩
    refine ⟨σ3, _, _, r3.ext x1 p1, ⟨a, kvs, ea, up3_same, q⟩, ⟨fun σ4 H4 hq => ?_, fun v4 H4 hq => ?_, fun σ4 H4 hq => ?_, fun σ4 H4 hq => ?_⟩⟩
    · exact ⟨(un hq).1, le.nx _ _ (un hq).2⟩
    · obtain ⟨x2, d5, M5, p5, dv, hm5, q5⟩ := hq
      have e2 := x2.frz _ _ _ upd_same
      exact ⟨e2, le.rt _ _ ⟨ext_unlock hd x2, d5, _, unlock_rep p5 e2 hm5, dv.hole (.dic e2), q5⟩⟩
    · exact ⟨(un hq).1, le.bk _ _ (un hq).2⟩
    · exact ⟨(un hq).1, le.ct _ _ (un hq).2⟩
  · right
    exact ⟨σ3, M, D3, r3, ⟨a, kvs, ea, hm, q⟩, le⟩
end
end L3

set_option Elab.async false
set_option linter.all false
set_option maxRecDepth 100000
set_option maxHeartbeats 4000000
/-! C17: dict comprehensions, whatever the keys are. -/
namespace L3
open PySem PySem.Spec PyProof.Rows L2
section
variable {X : Cx}
/-- what a store into the new dict asks -/
def Store3 (K : PySem.W.Frag) (w : World) (p : Addr) (y z : V) (H : Hp) (Nx : Hp → Prop) : Prop := ∃ kk yd zd acc M, Rep K w H M ∧ M p = some (.dct acc) ∧ Den K H yd y ∧ Den K H zd z ∧ keyOf yd = some kk ∧ acc.length < sizeLine ∧
  ∀ H', Ext H H' → Rep K w H' (up3 M p (.dct (putD acc kk yd zd))) → Nx H'
def tDc3 (K : PySem.W.Frag) (w : World) (wi : TI) (g : TG) (tt : TT) (tk tv : TE) (vs : List Nat) : TE := fun σ H Q => wi σ H fun J H1 => ∀ D, H1 D = none → (D == sysModules) = false → ∃ W : Nat → Nat → Hp → Prop, (∃ m, W 0 m (upd H1 D (DictO w D []))) ∧ ∀ i m H, W i m H →
  (J.stop i H ∧ Q (.ref D) H) ∨ (J.go i H ∧ ∃ Nx : Hp → Prop, (∀ H', Nx H' → ∃ m', m' < m ∧ W (i + 1) m' H') ∧ ∀ x H', J.yld i H x H' → g x (wipe σ vs) H' fun σ2 H2 => wipe σ2 vs = wipe σ vs ∧ tt σ2 H2 fun b H3 =>
    if b = true then tk σ2 H3 fun y H4 => tv σ2 H4 fun z H5 => Store3 K w D y z H5 Nx else Nx H3)
theorem dc_core3 {pins : List (Addr × Obj)} {s : Shared} {σ : L2.St} {H : Hp} {Q : VK} {kx vx tg iter : Expr} {ifs : List Expr} {scope : Scope} {own : List (Str × Nat)} {pos pos' : Pos} {wi : TI} {g : TG} {tt : TT} {tk tv : TE} {use : Option (Value → Sem Unit)} {Qf : Value → Shared → Prop}
    (hu : X.A.units + 100 < cLine) (hc : X.calm = true) (hN : X.N.Nodup) (I : Inv X pins σ H s) (hi : PI X tg iter wi) (ok : BlkOk X.N X.env.scope scope own)
    (hg : ∀ (s : Shared) (H : Hp) (C : Addr) (cl : List (Str × Addr)) (fp : List Addr), PG (X.blk s H scope (compEnvC scope cl C X.env) fp) tg g) (ht : ∀ (s : Shared) (H : Hp) (C : Addr) (cl : List (Str × Addr)) (fp : List Addr), PTs (X.blk s H scope (compEnvC scope cl C X.env) fp) ifs tt)
    (hk : ∀ (s : Shared) (H : Hp) (C : Addr) (cl : List (Str × Addr)) (fp : List Addr), PE (X.blk s H scope (compEnvC scope cl C X.env) fp) kx tk)
    (he : ∀ (s : Shared) (H : Hp) (C : Addr) (cl : List (Str × Addr)) (fp : List Addr), PE (X.blk s H scope (compEnvC scope cl C X.env) fp) vx tv) (hs : ∀ x, foldedSetIterable iter X.env x = pure x)
    (h : tDc3 X.K X.w wi g tt tk tv (own.map (·.2)) σ H Q)
    (hRR : ∀ D C s' m H', Inv X pins σ H' s' → Q (.ref D) H' → s'.heap.Ns C m → FpOk X pins H' C → compPost (model X.prog X.w) X.A X.xe use Qf (.ref D) C (.ok .next) s') :
    wpAny (model X.prog X.w) X.A (comprehension (.DictComp kx vx [⟨tg, iter, ifs, 0⟩] scope pos) scope X.env pos' newDict false (eval iter X.env) use) Qf X.xe s := by
  have hfree : ∀ y ∈ scope.names, y.2 = .free → ∃ c, X.env.cells.lookup y.1 = some c := fun y hy e => by
    rcases ok.free y hy e with k | k
    · exact I.ok.has _ (.inl k)
    · exact I.ok.has _ (.inr k)
  refine wpAny_comprehension_free (use := use) rfl hs (closure_ok hfree) ok.kind (fun y hy e => by rw [ok.uniq y hy, e])
    (thn (hi.run pins s σ H _ I h) fun xv s1 hx => thn hx fun itv s2 h2 => ?_)
  obtain ⟨it, fp, tn, J, H2, e, I2, T, st2, f2, q⟩ := h2
  subst e
  refine wpAny_newObj_type (newEnv_comp ?_)
  have sysd : (s2.heap.objs.size == sysModules) = false := beq_eq_false_iff_ne.mpr (Nat.ne_of_gt I2.big)
  generalize hD : s2.heap.objs.size = D at sysd
  have hDn : H2 D = none := I2.hok.fresh (Nat.le_of_eq hD)
  obtain ⟨W, ⟨m0, w0⟩, turn⟩ := q D hDn sysd
  generalize hs3 : ({ s2 with heap := s2.heap.push { cls := .type "dict", data := .dict #[] } } : Shared) = s3
  have I3 : Inv X pins σ (upd H2 D (DictO X.w D [])) s3 := by
    rw [← hs3]
    refine I2.laid (t' := s2.toks) (fun b o e => Heap.get?_push_of_some _ e) (Nat.le_of_eq hD) ?_
    rw [← hD]
    exact dictO_ok (o := { cls := .type "dict", data := .dict #[] }) (ep := 0) (Heap.get?_push_size _ rfl) ⟨rfl, rfl, rfl⟩ rfl
  have h3 : s3.heap = s2.heap.push { cls := .type "dict", data := .dict #[] } := by rw [← hs3]
  have sz : ∀ b ∈ fp, b < s2.heap.objs.size := fun b hb => by
    obtain ⟨o, e, _⟩ := T.obj _ _ st2 b hb
    exact Heap.lt_size e
  have f3 : ∀ b ∈ fp, FpOk X pins (upd H2 D (DictO X.w D [])) b ∧ b < s3.heap.objs.size := fun b hb => by
    have hlt := sz b hb
    refine ⟨⟨?_, (f2 b hb).2⟩, by rw [h3, Heap.size_push]; exact Nat.lt_succ_of_lt hlt⟩
    rw [upd_ne (by rw [← hD]; exact Nat.ne_of_lt hlt)]
    exact (f2 b hb).1
  have st3 : tn 0 s3.heap := T.keep _ _ _ st2 fun b _ o e => by rw [h3]; exact Heap.get?_push_of_some _ e
  have I4 := block_start I3 ok hN f3
  have pg := hg s3 (upd H2 D (DictO X.w D [])) s3.heap.objs.size (cellsFrom (s3.heap.objs.size + 1) scope.names (cloFrom X.env.cells scope.names [])) fp
  have pt := ht s3 (upd H2 D (DictO X.w D [])) s3.heap.objs.size (cellsFrom (s3.heap.objs.size + 1) scope.names (cloFrom X.env.cells scope.names [])) fp
  have pk := hk s3 (upd H2 D (DictO X.w D [])) s3.heap.objs.size (cellsFrom (s3.heap.objs.size + 1) scope.names (cloFrom X.env.cells scope.names [])) fp
  have pe := he s3 (upd H2 D (DictO X.w D [])) s3.heap.objs.size (cellsFrom (s3.heap.objs.size + 1) scope.names (cloFrom X.env.cells scope.names [])) fp
  show codeAny _ _ (.compStart (.DictComp kx vx [⟨tg, iter, ifs, 0⟩] scope pos) 0 (.ref it) (.ref D) (compEnvC scope (cellsFrom (s3.heap.objs.size + 1) scope.names (cloFrom X.env.cells scope.names [])) s3.heap.objs.size X.env)) (compPost (model X.prog X.w) X.A X.xe use Qf (.ref D) s3.heap.objs.size) { s3 with heap := pushCells (s3.heap.push { cls := .type "dict", data := .dict #[] }) scope.names }
  have nfp : ∀ b ∈ fp, (upd H2 D (DictO X.w D [])) b = none := fun b hb => (f3 b hb).1.1
  generalize hce : compEnvC scope (cellsFrom (s3.heap.objs.size + 1) scope.names (cloFrom X.env.cells scope.names [])) s3.heap.objs.size X.env = ce at I4 pg pt pk pe ⊢
  have cL : ce.locals = s3.heap.objs.size := by subst hce; rfl
  generalize hH3 : upd H2 D (DictO X.w D []) = H3 at I3 I4 pg pt pk pe w0 nfp f3
  generalize hs4 : ({ s3 with heap := pushCells (s3.heap.push { cls := .type "dict", data := .dict #[] }) scope.names } : Shared) = s4 at I4 ⊢
  have st4 : tn 0 s4.heap := T.keep _ _ _ st3 fun b _ o e => by rw [← hs4]; exact pushCells_keeps _ _ _ _ (Heap.get?_push_of_some _ e)
  have stat : ∀ {σ' : L2.St} {H' : Hp} {s' : Shared}, Inv (X.blk s3 H3 scope ce fp) [] σ' H' s' → (∀ b ∈ fp, H' b = none) → ∀ b ∈ fp, FpOk (X.blk s3 H3 scope ce fp) [] H' b := fun {σ' H' s'} I' hn b hb =>
    ⟨hn b hb, (I'.ok.exf b hb).1, I'.ok.exfs b hb, .inl hb, fun x c e => (I'.ok.exf b hb).2 x c e, fun p hp => absurd (show p ∈ ([] : List (Addr × Obj)) ++ [] from hp) (by simp)⟩
  have loop : codeAny (model X.prog X.w) X.A (.compLoop (.DictComp kx vx [⟨tg, iter, ifs, 0⟩] scope pos) 0 (.ref it) (.ref D) ce) (compPost (model X.prog X.w) X.A X.xe use Qf (.ref D) s3.heap.objs.size) s4 := by
    refine compLoop_anyD (fun n s' => ∃ i H', Inv (X.blk s3 H3 scope ce fp) [] (wipe σ (own.map (·.2))) H' s' ∧ tn i s'.heap ∧ (∀ b ∈ fp, H' b = none) ∧ W i n H') ?_ m0 ⟨0, H3, I4, st4, nfp, w0⟩
    rintro n s5 ⟨i, H5, I5, st5, n5, w5⟩
    rcases turn i n H5 w5 with ⟨stop, qq⟩ | ⟨go, Nx, hNx, step⟩
    · refine thnF (T.done (X.blk s3 H3 scope ce fp) rfl rfl rfl hc i [] s5 _ H5 (fun _ _ => False) I5 (stat I5 n5) st5 stop) fun r s6 ⟨hr, I6⟩ => ?_
      subst hr
      have I7 : Inv X pins σ H5 s6 := I3.call' (ch := fp) I6.os I6.base I6.hok I6.bare fun b hb => ⟨(f3 b hb).1.2.2.2.1, (f3 b hb).1.2.1, (f3 b hb).1.2.2.2.2.1, (f3 b hb).1.2.2.2.2.2⟩
      have nC : H5 s3.heap.objs.size = none := by
        have z : H5 ce.locals = none := I6.free
        rw [cL] at z
        exact z
      obtain ⟨m, hn, _⟩ := I6.loc
      have hn : s6.heap.Ns ce.locals m := hn
      rw [cL] at hn
      exact hRR D s3.heap.objs.size s6 m H5 I7 qq hn (I3.fpOk (Nat.le_refl _) nC)
    · refine thnF (T.item (X.blk s3 H3 scope ce fp) rfl rfl rfl hc i [] s5 _ H5 (fun _ _ => False) I5 (stat I5 n5) st5 go) fun r s6 ⟨u, hr, h6⟩ => ?_
      subst hr
      refine thnF h6 fun _ s7 ⟨x, H7, I7, r7, y7, st7, n7⟩ => ?_
      have I7' := I7.pinned (stat I7 n7) (T.obj _ _ st7)
      refine thnF (pg.run _ s7 _ H7 x u _ I7' r7 (step x H7 y7)) fun _ s8 ⟨σ8, H8, I8, hw8, q8⟩ => ?_
      refine thnF (pt.run _ s8 σ8 H8 _ I8 q8) fun b s9 ⟨H9, I9, q9⟩ => ?_
      have fin : ∀ {s' : Shared} {H' : Hp}, Inv (X.blk s3 H3 scope ce fp) ([] ++ pinsAt fp s7.heap) σ8 H' s' → Nx H' → ∃ m, m < n ∧ ∃ i H', Inv (X.blk s3 H3 scope ce fp) [] (wipe σ (own.map (·.2))) H' s' ∧ tn i s'.heap ∧ (∀ b ∈ fp, H' b = none) ∧ W i m H' := fun {s' H'} I' nx => by
        obtain ⟨m', hm, w'⟩ := hNx H' nx
        have pin' : ∀ b ∈ fp, ∀ o, s7.heap.get? b = some o → s'.heap.get? b = some o ∧ H' b = none := fun b hb o e =>
          let z := I'.pin (b, o) (List.mem_append_right _ (List.mem_append_right _ (mem_pinsAt hb e)))
          ⟨z.1, z.2.1⟩
        have hl : (wipe σ (own.map (·.2))).length = σ8.length := by rw [← hw8, wipe_length]
        refine ⟨m', hm, i + 1, H', (I'.unpinned (pins := [])).weak hl (fun j v e => ?_), T.keep _ _ _ st7 fun b hb o e => (pin' b hb o e).1, fun b hb => ?_, w'⟩
        · rw [← hw8] at e
          exact (wipe_some e).1
        · obtain ⟨o, e, _⟩ := T.obj _ _ st7 b hb
          exact (pin' b hb o e).2
      cases b with
      | false =>
        simp only [Bool.false_eq_true, if_false] at q9 ⊢
        exact fin I9 q9
      | true =>
        simp only [if_true] at q9 ⊢
        refine thnF (pk.run _ s9 σ8 H9 _ I9 q9) fun z s10 ⟨yk, H10, I10, r10, q10⟩ => ?_
        refine thnF (pe.run _ s10 σ8 H10 _ I10 q10) fun z2 s11 ⟨yv, H11, I11, r11, kk, yd, zd, acc, M, p11, hM, dy, dz, ek, hz, nx⟩ => ?_
        exact dict_put (X := X.blk s3 H3 scope ce fp) I11 p11 hM ek hz dy r10 dz r11 (fun s12 H12 x12 I12 p12 => fin I12 (nx H12 x12 p12)) fun xs D' ko hxs go' => set_mix (by show X.A.units + 8 < cLine; omega) ko D' hxs fun h' D2 sb => go' h' _ D2 sb
  exact codeAny_compStart_dict loop (T.self X.A 0 _ _ _ st4 loop)
theorem pe_dc3 {kx vx tg iter : Expr} {ifs : List Expr} {scope : Scope} {own : List (Str × Nat)} {pos : Pos} {wi : TI} {g : TG} {tt : TT} {tk tv : TE} (hu : X.A.units + 100 < cLine) (hc : X.calm = true) (hN : X.N.Nodup) (hi : PI X tg iter wi) (ok : BlkOk X.N X.env.scope scope own)
    (hg : ∀ (s : Shared) (H : Hp) (C : Addr) (cl : List (Str × Addr)) (fp : List Addr), PG (X.blk s H scope (compEnvC scope cl C X.env) fp) tg g) (ht : ∀ (s : Shared) (H : Hp) (C : Addr) (cl : List (Str × Addr)) (fp : List Addr), PTs (X.blk s H scope (compEnvC scope cl C X.env) fp) ifs tt)
    (hk : ∀ (s : Shared) (H : Hp) (C : Addr) (cl : List (Str × Addr)) (fp : List Addr), PE (X.blk s H scope (compEnvC scope cl C X.env) fp) kx tk)
    (he : ∀ (s : Shared) (H : Hp) (C : Addr) (cl : List (Str × Addr)) (fp : List Addr), PE (X.blk s H scope (compEnvC scope cl C X.env) fp) vx tv) (hs : ∀ x, foldedSetIterable iter X.env x = pure x) :
    PE X (.DictComp kx vx [⟨tg, iter, ifs, 0⟩] scope pos) (tDc3 X.K X.w wi g tt tk tv (own.map (·.2))) := by
  refine ⟨fun pins s σ H Q I h => ?_⟩
  rw [arm_eval_DictComp]
  refine dc_core3 hu hc hN I hi ok hg ht hk he hs h fun D C s' m H' I' q hn f => ⟨m, hn, fun h'' sb => ?_⟩
  obtain ⟨f0, f1, f2, f3, f4, f5⟩ := f
  exact ⟨.ref D, H', I'.turned (t' := s'.toks) (fun b o hb e => (sb.2 b hb).trans e) f0 f1 f3 f4 f5, rfl, q⟩
end
theorem dc_run {K : PySem.W.Frag} {w : World} {H0 H1 : Hp} {J : It} {s : Src} {p : Addr} {σ3 : St3} {σ : L2.St} {M1 : Hp3} {Q3 : VK3} {Q : VK} {tk tv : TE3} {tt : TT3} {tg : Tg} {own : List Nat} (x0 : Ext H0 H1) (p1 : Rep K w H1 M1) (F : Feeds K w H1 J s) (ds : DenS K H1 (wipe3 σ3 own) (wipe σ own)) (hg : tgIn tg own) (hp : H1 p = none) (sysd : (p == sysModules) = false)
    (h : dcW s.holds tg tt tk tv (wipe3 σ3 own) p s.items (up3 M1 p (.dct [])) Q3) (fin : ∀ d M' v H', Ext H0 H' → Rep K w H' M' → Den K H' d v → Q3 d M' → Q v H') :
    ∃ W : Nat → Nat → Hp → Prop, (∃ m, W 0 m (upd H1 p (DictO w p []))) ∧ ∀ i m H, W i m H → (J.stop i H ∧ Q (.ref p) H) ∨ (J.go i H ∧ ∃ Nx : Hp → Prop, (∀ H', Nx H' → ∃ m', m' < m ∧ W (i + 1) m' H') ∧ ∀ x H', J.yld i H x H' → liftG K w tg x (wipe σ own) H' fun σ2 H2 => wipe σ2 own = wipe σ own ∧ liftT K w tt σ2 H2 fun b H3 =>
      if b = true then liftE K w tk σ2 H3 fun y H4 => liftE K w tv σ2 H4 fun z H5 => Store3 K w p y z H5 Nx else Nx H3) := by
  have xp : Ext H1 (upd H1 p (DictO w p [])) := Ext.new hp
  refine ⟨fun i m H => m = s.items.length - i ∧ i ≤ s.items.length ∧ Ext H1 H ∧ ∃ M, Rep K w H M ∧ dcW s.holds tg tt tk tv (wipe3 σ3 own) p (s.items.drop i) M Q3, ⟨s.items.length, by simp, Nat.zero_le _, xp, _, p1.new (u := .dct []) hp ⟨[], upd_same, sysd, .nil, List.nodup_nil, by show 0 ≤ sizeLine; omega⟩, h⟩, ?_⟩
  rintro i m H2 ⟨rfl, hi, x1, M, pM, hl⟩
  by_cases hlt : i < s.items.length
  · obtain ⟨d, hd⟩ := get_of_lt hlt
    have e : s.items.drop i = d :: s.items.drop (i + 1) := by
      rw [List.drop_eq_getElem_cons hlt]
      rw [List.getElem?_eq_getElem hlt] at hd
      rw [Option.some.inj hd]
    rw [e] at hl
    obtain ⟨hold, σ1, ea, hb⟩ := hl
    refine .inr ⟨F.go i H2 M x1 pM hold hlt, fun H' => Ext H1 H' ∧ ∃ M, Rep K w H' M ∧ dcW s.holds tg tt tk tv (wipe3 σ3 own) p (s.items.drop (i + 1)) M Q3, fun H' hN => ⟨_, by omega, rfl, hlt, hN.1, hN.2⟩, fun x H' hy => ?_⟩
    obtain ⟨x2, p2, d', hd', dv⟩ := F.yld i H2 M x H' x1 pM hold hy hlt
    rw [hd] at hd'
    cases hd'
    refine ⟨wipe3 σ3 own, M, d, σ1, ⟨(ds.ext x1).ext x2, p2⟩, dv, ea, fun σ' r' hw => ⟨by rw [hw own hg, wipe_wipe], ?_⟩⟩
    refine ⟨σ1, M, _, r', hb, fun b M3 H3 x3 p3 q3 => ?_⟩
    cases b with
    | false => exact ⟨x1.trans (x2.trans x3), M3, p3, q3⟩
    | true =>
      refine ⟨σ1, M3, _, r'.ext x3 p3, q3, fun y M4 v H4 x4 p4 d4 q4 => ?_⟩
      refine ⟨σ1, M4, _, (r'.ext x3 p3).ext x4 p4, q4, fun z M5 u H5 x5 p5 d5 q5 => ?_⟩
      obtain ⟨acc, kk, hm, hk, hz, q6⟩ := q5
      exact ⟨kk, y, z, acc, M5, p5, hm, d4.ext x5, d5, hk, hz, fun H6 x6 p6 => ⟨x1.trans (x2.trans (x3.trans (x4.trans (x5.trans x6)))), _, p6, q6⟩⟩
  · have e : i = s.items.length := by omega
    rw [e, List.drop_length] at hl
    obtain ⟨hold, q⟩ := hl
    exact .inl ⟨F.stop i H2 M x1 pM hold (by omega), fin _ _ _ _ (x0.trans x1) pM (.ref p) q⟩
section
variable {G : GEnv} {C : Nat → D} {Γ : Nat → Sp3} {N : List Str} {k : Nat} {X : Cx} {sc scope : Scope} {pos : Pos} {kx vx iter tgE : Expr} {ifs : List Expr} {wi : TI3} {tk tv : TE3} {tt : TT3} {tg : Tg} {own : List Nat}
theorem s_dc (hu : X.A.units + 100 < cLine) (g : Good G C Γ N k X sc) (hb : blkB N sc scope tg own = true) (ht : tgB N scope tg tgE = true) (hi : PI3 X tgE iter wi)
    (hc : ∀ Y : Cx, Good G C Γ N k Y (relS scope sc) → PTs Y ifs (liftT Y.K Y.w tt)) (hk : ∀ Y : Cx, Good G C Γ N k Y (relS scope sc) → PE3 Y kx tk) (he : ∀ Y : Cx, Good G C Γ N k Y (relS scope sc) → PE3 Y vx tv) (hs : ∀ x, foldedSetIterable iter X.env x = pure x) :
    PE3 X (.DictComp kx vx [⟨tgE, iter, ifs, 0⟩] scope pos) fun σ M Q => wi σ M fun s M1 => ∀ p, M1 p = none → dcW s.holds tg tt tk tv (wipe3 σ own) p s.items (up3 M1 p (.dct [])) Q := by
  unfold blkB at hb
  simp only [Bool.and_eq_true, decide_eq_true_eq] at hb
  obtain ⟨⟨hb1, hb2⟩, hb3⟩ := hb
  have ok := blkOk_by hb1
  have hg := tgInB_ok hb3
  refine PE.imp (pe_dc3 (wi := liftI X.K X.w wi) (g := liftG X.K X.w tg) (tt := liftT X.K X.w tt) (tk := liftE X.K X.w tk) (tv := liftE X.K X.w tv) hu g.calm (by rw [g.hN]; exact g.nd) hi (by rw [g.hN, g.hs]; exact ok) (fun s H a cl fp => g_tg (g.blk s H a cl fp) (sto_blk g s H a cl fp) ht) (fun s H a cl fp => hc _ (g.blk s H a cl fp)) (fun s H a cl fp => hk _ (g.blk s H a cl fp)) (fun s H a cl fp => he _ (g.blk s H a cl fp)) hs) fun σ H Q h => ?_
  rw [hb2]
  obtain ⟨σ3, M0, Q3, r3, q, fin⟩ := h
  exact ⟨σ3, M0, _, r3, q, fun s M1 J H1 x0 p1 F hold q1 p hp sysd => dc_run x0 p1 F ((r3.st.ext x0).wipe own) hg hp sysd (q1 p (p1.free hp)) fin⟩
end
end L3

set_option Elab.async false
set_option linter.all false
set_option maxRecDepth 100000
set_option maxHeartbeats 4000000
/-! C18: statements. -/
namespace L3
open PySem PySem.Spec PyProof.Rows L2
section
variable {X : Cx} {st : Stmt} {rest a b : List Stmt} {e c : Expr} {te : TE3} {tc : TT3} {t u ta tb : TS3} {pos : Pos}
theorem ss_nil : PSs3 X [] fun D σ M => D.nx σ M := PSs.imp pss_nil fun D σ H h => by
  obtain ⟨σ3, M, D3, r, q, le⟩ := h
  exact le.nx σ H ⟨Ext.refl H, σ3, M, r, q⟩
theorem ss_cons (h1 : PS3 X st t) (h2 : PSs3 X rest u) : PSs3 X (st :: rest) fun D σ M => t { D with nx := u D } σ M := PSs.imp (pss_cons h1 h2) fun D σ H h => by
  obtain ⟨σ3, M, D3, r, q, le⟩ := h
  refine ⟨σ3, M, _, r, q, ⟨fun σ1 H1 hq => ?_, fun v1 H1 hq => le.rt v1 H1 hq, fun σ1 H1 hq => le.bk σ1 H1 hq, fun σ1 H1 hq => le.ct σ1 H1 hq⟩⟩
  obtain ⟨x1, σ4, M4, r4, q4⟩ := hq
  refine ⟨σ4, M4, D3, r4, q4, ⟨fun σ2 H2 hq => ?_, fun v2 H2 hq => ?_, fun σ2 H2 hq => ?_, fun σ2 H2 hq => ?_⟩⟩
  · exact le.nx σ2 H2 ⟨x1.trans hq.1, hq.2⟩
  · exact le.rt v2 H2 ⟨x1.trans hq.1, hq.2⟩
  · exact le.bk σ2 H2 ⟨x1.trans hq.1, hq.2⟩
  · exact le.ct σ2 H2 ⟨x1.trans hq.1, hq.2⟩
theorem ss_ret (he : PE3 X e te) : PS3 X (.Return (some e) pos) fun D σ M => te σ M D.rt := PS.imp (ps_ret he) fun D σ H h => by
  obtain ⟨σ3, M, D3, r, q, le⟩ := h
  exact ⟨σ3, M, _, r, q, fun d M' v H' x p dv q' => le.rt v H' ⟨x, d, M', p, dv, q'⟩⟩
theorem ss_retN : PS3 X (.Return none pos) fun D _ M => D.rt .non M := PS.imp ps_retN fun D σ H h => by
  obtain ⟨σ3, M, D3, r, q, le⟩ := h
  exact le.rt .non H ⟨Ext.refl H, .non, M, r.rep, .non, q⟩
theorem ss_if (hc : PT3 X c tc) (ha : PSs3 X a ta) (hb : PSs3 X b tb) : PS3 X (.If c a b pos) fun D σ M => tc σ M fun r M1 => if r = true then ta D σ M1 else tb D σ M1 := PS.imp (ps_if hc ha hb) fun D σ H h => by
  obtain ⟨σ3, M, D3, r, q, le⟩ := h
  refine ⟨σ3, M, _, r, q, fun d M1 H1 x1 p1 q1 => ?_⟩
  have le1 : EndsLe (lowEnds X.K X.w H1 D3) D := ⟨fun σ2 H2 hq => le.nx σ2 H2 ⟨x1.trans hq.1, hq.2⟩, fun v2 H2 hq => le.rt v2 H2 ⟨x1.trans hq.1, hq.2⟩, fun σ2 H2 hq => le.bk σ2 H2 ⟨x1.trans hq.1, hq.2⟩, fun σ2 H2 hq => le.ct σ2 H2 ⟨x1.trans hq.1, hq.2⟩⟩
  cases d with
  | true => exact ⟨σ3, M1, D3, r.ext x1 p1, q1, le1⟩
  | false => exact ⟨σ3, M1, D3, r.ext x1 p1, q1, le1⟩
theorem ss_brk : PS3 X (.Break pos) fun D σ M => D.bk σ M := PS.imp ps_break fun D σ H h => by
  obtain ⟨σ3, M, D3, r, q, le⟩ := h
  exact le.bk σ H ⟨Ext.refl H, σ3, M, r, q⟩
theorem ss_cnt : PS3 X (.Continue pos) fun D σ M => D.ct σ M := PS.imp ps_continue fun D σ H h => by
  obtain ⟨σ3, M, D3, r, q, le⟩ := h
  exact le.ct σ H ⟨Ext.refl H, σ3, M, r, q⟩
theorem ss_pass : PS3 X (.Pass pos) fun D σ M => D.nx σ M := PS.imp ps_pass fun D σ H h => by
  obtain ⟨σ3, M, D3, r, q, le⟩ := h
  exact le.nx σ H ⟨Ext.refl H, σ3, M, r, q⟩
theorem ss_never : PS3 X st fun _ _ _ => False := PS.imp ps_never fun D σ H h => by
  obtain ⟨σ3, M, D3, r, q, le⟩ := h
  exact q.elim
/-- no comprehension -/
def noComp : Expr → Bool
  | .ListComp _ _ _ _ => false
  | .SetComp _ _ _ _ => false
  | .DictComp _ _ _ _ _ => false
  | _ => true
theorem noComp_ok (h : noComp e = true) (tg : Option Expr) (l : Nat) (env : Env) : swapsWith e tg l env = pure false := by
  cases e <;> first | rfl | cases h
theorem ss_exp (hn : noComp e = true) (he : PE3 X e te) : PS3 X (.Expr e pos) fun D σ M => te σ M fun _ M1 => D.nx σ M1 := PS.imp (ps_expr he (noComp_ok hn _ _ _)) fun D σ H h => by
  obtain ⟨σ3, M, D3, r, q, le⟩ := h
  exact ⟨σ3, M, _, r, q, fun d M' v H' x p dv q' => le.nx σ H' ⟨x, σ3, M', r.ext x p, q'⟩⟩
end
/-! ### assignments -/
theorem asg_low {K : PySem.W.Frag} {w : World} {te : TE3} {tg : Tg} {σ : L2.St} {H : Hp} {D : Ends} (h : liftS K w (fun D σ M => te σ M fun d M1 => ∃ σ1, asgT tg d σ = some σ1 ∧ D.nx σ1 M1) D σ H) : liftE K w te σ H fun v H1 => liftG K w tg v σ H1 D.nx := by
  obtain ⟨σ3, M, D3, r, q, le⟩ := h
  exact ⟨σ3, M, _, r, q, fun d M' v H' x p dv ⟨σ1, e, q'⟩ => ⟨σ3, M', d, σ1, r.ext x p, dv, e, fun σ' r' _ => le.nx σ' H' ⟨x, σ1, M', r', q'⟩⟩⟩
def swF (sc : Scope) (x : Str) (pos : Pos) (s : Scope) (p0 : Pos) : Bool := (match sc.names.lookup x with
  | some .local => true
  | _ => false) && pos.line == p0.line && !(s.names.any fun (n, k) => n == x && (k == .local || k == .cell))
def fnKind (sc : Scope) : Bool := match sc.kind with
  | .function => true
  | _ => false
theorem block_of {env : Env} {sc : Scope} (hs : env.scope = sc) (hk : fnKind sc = true) : env.blockKind = .function := by
  have : sc.kind = .function := by
    unfold fnKind at hk
    cases e : sc.kind <;> rw [e] at hk <;> first | rfl | cases hk
  unfold Env.blockKind
  rw [hs, this]
  rfl
theorem look_beq {o : Option NameKind} : (o == some NameKind.local) = (match o with
  | some .local => true
  | _ => false) := by
  cases o with
  | none => rfl
  | some k => cases k <;> rfl
theorem swaps_lc {env : Env} {sc s : Scope} (hs : env.scope = sc) (hk : fnKind sc = true) (elt : Expr) (gs : List Comprehension) (p0 pos : Pos) (x : Str) (l : Nat) : swapsWith (.ListComp elt gs s p0) (some (.Name x pos)) l env = pure (swF sc x pos s p0) := by
  show (pure (env.blockKind == .function && env.kindOf x == some .local && pos.line == p0.line && !(s.names.any fun (n, k) => n == x && (k == .local || k == .cell))) : Sem Bool) = _
  have : (env.kindOf x == some .local) = (match sc.names.lookup x with
    | some .local => true
    | _ => false) := by
    unfold Env.kindOf
    rw [hs]
    exact look_beq
  rw [block_of hs hk, this]
  rfl
theorem swaps_dc {env : Env} {sc s : Scope} (hs : env.scope = sc) (hk : fnKind sc = true) (k v : Expr) (gs : List Comprehension) (p0 pos : Pos) (x : Str) (l : Nat) : swapsWith (.DictComp k v gs s p0) (some (.Name x pos)) l env = pure (swF sc x pos s p0) := by
  show (pure (env.blockKind == .function && env.kindOf x == some .local && pos.line == p0.line && !(s.names.any fun (n, k) => n == x && (k == .local || k == .cell))) : Sem Bool) = _
  have : (env.kindOf x == some .local) = (match sc.names.lookup x with
    | some .local => true
    | _ => false) := by
    unfold Env.kindOf
    rw [hs]
    exact look_beq
  rw [block_of hs hk, this]
  rfl
section
variable {G : GEnv} {C : Nat → D} {Γ : Nat → Sp3} {N : List Str} {k : Nat} {X : Cx} {sc scope : Scope} {pos p0 ps : Pos} {e : Expr} {te : TE3} {x : Str} {i : Nat}
theorem ss_name (g : Good G C Γ N k X sc) (st : Sto X sc) (hi : N[i]? = some x) (hl : locB sc x = true) (he : PE3 X e te) (hs : swapsWith e (some (.Name x p0)) pos.line X.env = pure false) : PS3 X (.Assign [.Name x p0] e pos) fun D σ M => te σ M fun d M1 => ∃ σ1, asgT (.one i) d σ = some σ1 ∧ D.nx σ1 M1 := by
  obtain ⟨h1, h2⟩ := st x hl
  refine PS.imp (ps_set (i := i) (by rw [g.hN]; exact g.nd) (by rw [g.hN]; exact hi) h1 he hs h2) fun D σ H h => ?_
  obtain ⟨σ3, M, D3, r, q, le⟩ := h
  refine ⟨σ3, M, _, r, q, fun d M' v H' x p dv ⟨σ1, e, q'⟩ => ?_⟩
  cases e
  exact le.nx _ H' ⟨x, _, M', ⟨DenS.set (d := some d) (v := some v) dv i (r.st.ext x), p⟩, q'⟩
variable {elt iter tgE kx vx : Expr} {ifs : List Expr} {wi : TI3} {tk tv : TE3} {tt : TT3} {tg : Tg} {own : List Nat}
theorem ss_setLc (g : Good G C Γ N k X sc) (hk : fnKind sc = true) (hsw : swF sc x p0 scope ps = true) (hx : N[i]? = some x) (hb : blkB N sc scope tg own = true) (ht : tgB N scope tg tgE = true) (hi : PI3 X tgE iter wi)
    (hc : ∀ Y : Cx, Good G C Γ N k Y (relS scope sc) → PTs Y ifs (liftT Y.K Y.w tt)) (he : ∀ Y : Cx, Good G C Γ N k Y (relS scope sc) → PE3 Y elt te) (hs : ∀ x, foldedSetIterable iter X.env x = pure x) :
    PS3 X (.Assign [.Name x p0] (.ListComp elt [⟨tgE, iter, ifs, 0⟩] scope ps) pos) fun D σ M => (wi σ M fun s M1 => ∀ p, M1 p = none → lcW s.holds tg tt te (wipe3 σ own) p s.items (up3 M1 p (.lst [])) fun d M2 => ∃ σ1, asgT (.one i) d σ = some σ1 ∧ D.nx σ1 M2) := by
  unfold blkB at hb
  simp only [Bool.and_eq_true, decide_eq_true_eq] at hb
  obtain ⟨⟨hb1, hb2⟩, hb3⟩ := hb
  have ok := blkOk_by hb1
  have hloc : sc.names.lookup x = some .local := by
    unfold swF at hsw
    simp only [Bool.and_eq_true] at hsw
    have := hsw.1.1
    cases e : sc.names.lookup x with
    | none => rw [e] at this; cases this
    | some kd => rw [e] at this; cases kd <;> first | rfl | cases this
  refine PS.imp (ps_setLc (wi := liftI X.K X.w wi) (g := liftG X.K X.w tg) (tt := liftT X.K X.w tt) (te := liftE X.K X.w te) g.calm (by rw [g.hN]; exact g.nd) (by rw [g.hN]; exact hx) (by rw [g.hs]; exact hloc) (by rw [swaps_lc g.hs hk, hsw]) hi (by rw [g.hN, g.hs]; exact ok) (fun s H a cl fp => g_tg (g.blk s H a cl fp) (sto_blk g s H a cl fp) ht) (fun s H a cl fp => hc _ (g.blk s H a cl fp)) (fun s H a cl fp => he _ (g.blk s H a cl fp)) hs) fun D σ H h => ?_
  rw [hb2]
  obtain ⟨σ3, M, D3, r3, q, le⟩ := h
  refine ⟨σ3, M, _, r3, q, fun s M1 J H1 x1 p1 F hold q1 p hp => lc_run (Q := fun v H' => gName i v σ H' D.nx) x1 p1 F ((r3.st.ext x1).wipe own) (tgInB_ok hb3) hp (q1 p (p1.free hp)) fun d M' v H' x' p' dv hq => ?_⟩
  obtain ⟨σ1, e, q'⟩ := hq
  cases e
  exact le.nx _ H' ⟨x', _, M', ⟨DenS.set (d := some d) (v := some v) dv i (r3.st.ext x'), p'⟩, q'⟩
/-- name = {k: v for ..}, stored by the comprehension itself -/
theorem ps_setDc3 {y : Str} {py spos pp : Pos} {kx vx tg iter : Expr} {ifs : List Expr} {ownp : List (Str × Nat)} {wi : TI} {g : TG} {tt : TT} {tk tv : TE} (hu : X.A.units + 100 < cLine) (hc : X.calm = true) (hN : X.N.Nodup) (hy : X.N[i]? = some y) (hyl : X.env.scope.names.lookup y = some .local)
    (hsw : swapsWith (.DictComp kx vx [⟨tg, iter, ifs, 0⟩] scope pp) (some (.Name y py)) spos.line X.env = pure true) (hi : PI X tg iter wi) (ok : BlkOk X.N X.env.scope scope ownp)
    (hg : ∀ (s : Shared) (H : Hp) (C : Addr) (cl : List (Str × Addr)) (fp : List Addr), PG (X.blk s H scope (compEnvC scope cl C X.env) fp) tg g) (ht : ∀ (s : Shared) (H : Hp) (C : Addr) (cl : List (Str × Addr)) (fp : List Addr), PTs (X.blk s H scope (compEnvC scope cl C X.env) fp) ifs tt)
    (hk : ∀ (s : Shared) (H : Hp) (C : Addr) (cl : List (Str × Addr)) (fp : List Addr), PE (X.blk s H scope (compEnvC scope cl C X.env) fp) kx tk)
    (he : ∀ (s : Shared) (H : Hp) (C : Addr) (cl : List (Str × Addr)) (fp : List Addr), PE (X.blk s H scope (compEnvC scope cl C X.env) fp) vx tv) (hs : ∀ x, foldedSetIterable iter X.env x = pure x) :
    PS X (.Assign [.Name y py] (.DictComp kx vx [⟨tg, iter, ifs, 0⟩] scope pp) spos) (tAsg (tDc3 X.K X.w wi g tt tk tv (ownp.map (·.2))) (gName i)) := by
  refine ⟨fun pins s σ H D I h => ?_⟩
  rw [exec_Assign_Name_used _ _ _ _ hsw]
  refine wpAny_bind (wpAny_standAt (wpAny_bind ?_))
  show wpAny _ X.A (do let _ ← comprehension (.DictComp kx vx [⟨tg, iter, ifs, 0⟩] scope pp) scope X.env (firstIterPos [⟨tg, iter, ifs, 0⟩] pp) newDict false (eval iter X.env) (some (assign (.Name y py) X.env))) _ _ s
  have h : tDc3 X.K X.w wi g tt tk tv (ownp.map (·.2)) σ H (fun x H1 => gName i x σ H1 D.nx) := h
  refine wpAny_bind (thn (dc_core3 (Qf := fun _ s' => SP X pins D .next s') hu hc hN I hi ok hg ht hk he hs h fun L C s' m H' I' q hn f => ?_) fun _ s' hq => wpAny_pure (wpAny_pure hq))
  show wpAny _ _ (assign (.Name y py) X.env (.ref L)) _ _ _
  refine wpAny_assign_Name (store_ok2 (v := V.ref L) I' hN hy (.inl hyl) rfl (fun s2 I2 ⟨a, sb, ha⟩ => ?_) (.inr hyl))
  obtain ⟨f0, f1, f2, f3, f4, f5⟩ := f
  have haC : C ≠ a := by
    rcases ha with z | z
    · rw [z]; exact f1
    · exact fun e => f4 y a z e.symm
  refine ⟨m, hn.sameBut sb haC, fun h3 sb3 => ?_⟩
  exact ⟨_, H', I2.turned (t' := s2.toks) (fun b o hb e => (sb3.2 b hb).trans e) f0 f1 f3 f4 f5, q⟩
theorem swF_local {p0 : Pos} (hsw : swF sc x p0 scope ps = true) : sc.names.lookup x = some .local := by
  unfold swF at hsw
  simp only [Bool.and_eq_true] at hsw
  have := hsw.1.1
  cases e : sc.names.lookup x with
  | none => rw [e] at this; cases this
  | some kd => rw [e] at this; cases kd <;> first | rfl | cases this
theorem ss_setDc (hu : X.A.units + 100 < cLine) (g : Good G C Γ N k X sc) (hk : fnKind sc = true) (hsw : swF sc x p0 scope ps = true) (hx : N[i]? = some x) (hb : blkB N sc scope tg own = true) (ht : tgB N scope tg tgE = true) (hi : PI3 X tgE iter wi)
    (hc : ∀ Y : Cx, Good G C Γ N k Y (relS scope sc) → PTs Y ifs (liftT Y.K Y.w tt)) (hkx : ∀ Y : Cx, Good G C Γ N k Y (relS scope sc) → PE3 Y kx tk) (he : ∀ Y : Cx, Good G C Γ N k Y (relS scope sc) → PE3 Y vx tv) (hs : ∀ x, foldedSetIterable iter X.env x = pure x) :
    PS3 X (.Assign [.Name x p0] (.DictComp kx vx [⟨tgE, iter, ifs, 0⟩] scope ps) pos) fun D σ M => (wi σ M fun s M1 => ∀ p, M1 p = none → dcW s.holds tg tt tk tv (wipe3 σ own) p s.items (up3 M1 p (.dct [])) fun d M2 => ∃ σ1, asgT (.one i) d σ = some σ1 ∧ D.nx σ1 M2) := by
  unfold blkB at hb
  simp only [Bool.and_eq_true, decide_eq_true_eq] at hb
  obtain ⟨⟨hb1, hb2⟩, hb3⟩ := hb
  have ok := blkOk_by hb1
  refine PS.imp (ps_setDc3 (wi := liftI X.K X.w wi) (g := liftG X.K X.w tg) (tt := liftT X.K X.w tt) (tk := liftE X.K X.w tk) (tv := liftE X.K X.w tv) hu g.calm (by rw [g.hN]; exact g.nd) (by rw [g.hN]; exact hx) (by rw [g.hs]; exact swF_local hsw) (by rw [swaps_dc g.hs hk, hsw]) hi (by rw [g.hN, g.hs]; exact ok) (fun s H a cl fp => g_tg (g.blk s H a cl fp) (sto_blk g s H a cl fp) ht) (fun s H a cl fp => hc _ (g.blk s H a cl fp)) (fun s H a cl fp => hkx _ (g.blk s H a cl fp)) (fun s H a cl fp => he _ (g.blk s H a cl fp)) hs) fun D σ H h => ?_
  rw [hb2]
  obtain ⟨σ3, M, D3, r3, q, le⟩ := h
  refine ⟨σ3, M, _, r3, q, fun s M1 J H1 x1 p1 F hold q1 p hp sysd => dc_run (Q := fun v H' => gName i v σ H' D.nx) x1 p1 F ((r3.st.ext x1).wipe own) (tgInB_ok hb3) hp sysd (q1 p (p1.free hp)) fun d M' v H' x' p' dv hq => ?_⟩
  obtain ⟨σ1, e, q'⟩ := hq
  cases e
  exact le.nx _ H' ⟨x', _, M', ⟨DenS.set (d := some d) (v := some v) dv i (r3.st.ext x'), p'⟩, q'⟩
theorem ss_sub {o ix : Expr} {to ti : TE3} {tp : Pos} (hu : X.A.units + 100 < cLine) (hn : noComp e = true) (he : PE3 X e te) (ho : PE3 X o to) (hi : PE3 X ix ti) : PS3 X (.Assign [.Subscript o ix tp] e pos) fun D σ M => te σ M fun d M1 => to σ M1 fun x M2 => ti σ M2 fun y M3 => putW x y d M3 (D.nx σ) := by
  refine ⟨fun pins s σ H D I h => ?_⟩
  obtain ⟨σ3, M, D3, r3, q, le⟩ := h
  refine wpAny_Assign_Subscript (thn (he.run pins s σ H (fun v H1 => ∃ d M1, Ext H H1 ∧ Rep X.K X.w H1 M1 ∧ Den X.K H1 d v ∧ _) I ⟨σ3, M, _, r3, q, fun d M1 v H1 x1 p1 d1 q1 => ⟨d, M1, x1, p1, d1, q1⟩⟩) fun u s1 ⟨v, H1, I1, rv, d, M1, x1, p1, d1, q1⟩ => ?_) (noComp_ok hn _ _ _)
  refine thn (ho.run pins s1 σ H1 (fun v2 H2 => ∃ x M2, Ext H1 H2 ∧ Rep X.K X.w H2 M2 ∧ Den X.K H2 x v2 ∧ _) I1 ⟨σ3, M1, _, r3.ext x1 p1, q1, fun y M2 v2 H2 x2 p2 d2 q2 => ⟨y, M2, x2, p2, d2, q2⟩⟩) fun u2 s2 ⟨v2, H2, I2, r2, x, M2, x2, p2, d2, q2⟩ => ?_
  refine thn (hi.run pins s2 σ H2 (fun v3 H3 => ∃ y M3, Ext H2 H3 ∧ Rep X.K X.w H3 M3 ∧ Den X.K H3 y v3 ∧ _) I2 ⟨σ3, M2, _, (r3.ext x1 p1).ext x2 p2, q2, fun y M3 v3 H3 x3 p3 d3 q3 => ⟨y, M3, x3, p3, d3, q3⟩⟩) fun u3 s3 ⟨v3, H3, I3, r3', y, M3, x3, p3, d3, q3⟩ => ?_
  have x13 := x1.trans (x2.trans x3)
  rcases q3 with ⟨a, kvs, kk, rfl, hm, hk, hz, q4⟩ | ⟨a, ds, i, j, rfl, rfl, hm, hj, q4⟩
  · cases d2
    obtain rfl : u2 = Value.ref a := r2
    refine dict_put (k := kk) I3 p3 hm hk hz d3 r3' ((d1.ext x2).ext x3) rv (fun s' H' x4 I4 p4 => ?_) fun xs D' ko hxs go => put_mix (by omega) ko D' hxs fun h' D2 sb => go h' _ D2 sb
    exact ⟨σ, H', I4, le.nx σ H' ⟨x13.trans x4, σ3, _, r3.ext (x13.trans x4) p4, q4⟩⟩
  · cases d2
    obtain ⟨vs, hv, t⟩ := p3 a _ hm
    have x4 : Ext H3 (upd H3 a (.lst (vs.set j v))) := Ext.put hv (fun _ e => by cases e) fun _ _ e => by cases e
    have p4 : Rep X.K X.w (upd H3 a (.lst (vs.set j v))) (up3 M3 a (.lst (ds.set j d))) := p3.put hv (fun _ e => by cases e) (fun _ _ e => by cases e) ⟨_, upd_same, Dens.set (((d1.ext x2).ext x3).ext x4) j (t.ext x4)⟩
    refine thn (set_list (X := X) pins s3 σ H3 _ _ v u2 u3 u (fun H' => D.nx σ H') I3 r2 r3' rv ⟨a, vs, i, j, rfl, d3.int_inv, hv, by rw [← t.length]; exact hj, ?_⟩) fun _ s4 ⟨H4, I4, q5⟩ => ⟨σ, H4, I4, q5⟩
    exact le.nx σ _ ⟨x13.trans x4, σ3, _, r3.ext (x13.trans x4) p4, q4⟩
end
end L3

set_option Elab.async false
set_option linter.all false
set_option maxRecDepth 100000
set_option maxHeartbeats 4000000
/-! C19: a, b = .. -/
namespace L3
open PySem PySem.Spec PyProof.Rows L2

def pureOf {α : Type} : Sem α → Option α
  | .pure a => some a
  | _ => none
theorem pureOf_ok {α : Type} {t : Sem α} {a : α} (h : pureOf t = some a) : t = pure a := by
  cases t with
  | pure b => cases h; rfl
  | _ => cases h
def envS (sc : Scope) : Env := { scope := sc, locals := 0, globals := 0, cells := [] }
theorem sw_env {env : Env} {sc : Scope} (hs : env.scope = sc) (ts : List Expr) (v : Expr) : swappedStores ts v env = swappedStores ts v (envS sc) := by
  unfold swappedStores Env.kindOf Env.blockKind
  rw [hs]
  rfl
/-- which names are stored from the right -/
def swQ (sc : Scope) (ts : List Expr) (v : Expr) : Option (Option (List Str)) := pureOf (swappedStores ts v (envS sc))
theorem swQ_ok {env : Env} {sc : Scope} (hs : env.scope = sc) {ts : List Expr} {v : Expr} {r : Option (List Str)} (h : swQ sc ts v = some r) : swappedStores ts v env = pure r := by
  rw [sw_env hs]
  exact pureOf_ok h
section
variable {G : GEnv} {C : Nat → D} {Γ : Nat → Sp3} {N : List Str} {k : Nat} {X : Cx} {sc : Scope} {pos p0 pt px py : Pos} {e a b : Expr} {te : TE3} {x y : Str} {i j : Nat} {tg : Tg} {kt k2 : Nat} {es : List Expr} {t : TA3}
/-- the targets one after another -/
theorem ss_many (g : Good G C Γ N k X sc) (st : Sto X sc) (ht : tgB N sc tg (.Tuple es kt pt) = true) (hn : noComp e = true) (hw : swQ sc [.Tuple es kt pt] e = some none) (he : PE3 X e te) : PS3 X (.Assign [.Tuple es kt pt] e pos) fun D σ M => te σ M fun d M1 => ∃ σ1, asgT tg d σ = some σ1 ∧ D.nx σ1 M1 :=
  PS.imp (ps_asg he (g_tg g st ht) (show swapsWith e (some (.Tuple es kt pt)) pos.line X.env = pure false from noComp_ok hn _ _ _) (swQ_ok g.hs hw) rfl) fun D σ H h => asg_low h
/-- two names, stored from the right -/
theorem ss_par (g : Good G C Γ N k X sc) (hi : N[i]? = some x) (hj : N[j]? = some y) (hij : i ≠ j) (hx : sc.names.lookup x = some .local) (hy : sc.names.lookup y = some .local) (hw : swQ sc [.Tuple [.Name x px, .Name y py] kt pt] (.Tuple [a, b] k2 p0) = some (some [x, y])) (ha : PA3 X [a, b] t) :
    PS3 X (.Assign [.Tuple [.Name x px, .Name y py] kt pt] (.Tuple [a, b] k2 p0) pos) fun D σ M => t σ M fun ds M1 => ds.length ≤ sizeLine ∧ ∃ σ1, asgT (.many [i, j]) (.tup ds) σ = some σ1 ∧ D.nx σ1 M1 :=
  PS.imp (ps_par g.calm (by rw [g.hN]; exact g.nd) (by rw [g.hN]; exact hi) (by rw [g.hN]; exact hj) hij (by rw [g.hs]; exact hx) (by rw [g.hs]; exact hy) ha (swQ_ok g.hs hw) (show swapsWith (.Tuple [a, b] k2 p0) (some (.Tuple [.Name x px, .Name y py] kt pt)) pos.line X.env = pure false from rfl)) fun D σ H h => by
    obtain ⟨σ3, M, D3, r, q, le⟩ := h
    refine ⟨σ3, M, _, r, q, fun ds M1 vs H1 x1 p1 d1 ⟨_, σ1, e, q1⟩ => ?_⟩
    match ds, d1, e with
    | [], _, e => simp [asgT, setAll] at e
    | [_], _, e => simp [asgT, setAll] at e
    | _ :: _ :: _ :: _, _, e => simp [asgT, setAll] at e
    | [d, d'], d1, e =>
      obtain ⟨v, w, rfl, dv, dw⟩ := d1.two
      have e2 : σ1 = (σ3.set i (some d)).set j (some d') := by
        have : some ((σ3.set i (some d)).set j (some d')) = some σ1 := e
        exact (Option.some.inj this).symm
      subst e2
      exact ⟨v, w, rfl, le.nx _ H1 ⟨x1, _, M1, ⟨DenS.set (d := some d') (v := some w) dw j (DenS.set (d := some d) (v := some v) dv i (r.st.ext x1)), p1⟩, q1⟩⟩
end
end L3

set_option Elab.async false
set_option linter.all false
set_option maxRecDepth 100000
set_option maxHeartbeats 4000000
/-! C20: does a small tree tell the text (chkE, chkS)? -/
namespace L3
open PySem PySem.Spec PyProof.Rows L2

def biV : BI → Value
  | .len => .builtin "len"
  | .all => .builtin "all"
  | .sum => .builtin "sum"
  | .sorted => .builtin "sorted"
  | .min => .builtin "min"
  | .max => .builtin "max"
  | .abs => .builtin "abs"
  | .int => .type "int"
  | .bool => .type "bool"
  | .str => .type "str"
  | .list => .type "list"
  | .tuple => .type "tuple"
  | .dict => .type "dict"
  | .repr => .builtin "repr"
  | .nextIter => .builtin "next"
  | .items => .type "list"
def isCon (G : GEnv) (x : Str) (i : Nat) : Bool := match G.lookup x with
  | some (.con j) => i == j
  | _ => false
def isFn (G : GEnv) (x : Str) (i : Nat) : Bool := match G.lookup x with
  | some (.fn j) => i == j
  | _ => false
theorem isCon_ok {G : GEnv} {x : Str} {i : Nat} (h : isCon G x i = true) : G.lookup x = some (.con i) := by
  unfold isCon at h
  split at h
  · rename_i j e
    rw [e, eq_of_beq h]
  · cases h
theorem isFn_ok {G : GEnv} {x : Str} {i : Nat} (h : isFn G x i = true) : G.lookup x = some (.fn i) := by
  unfold isFn at h
  split at h
  · rename_i j e
    rw [e, eq_of_beq h]
  · cases h
/-- its truth is that of its value -/
def valT : Expr → Bool
  | .UnaryOp .Not _ _ => false
  | .BoolOp _ _ _ => false
  | .IfExp _ _ _ _ => false
  | .Compare _ _ _ _ => false
  | _ => true
theorem valT_ok {a : Expr} (h : valT a = true) (env : Env) : ∀ whole, isTrue a env whole = (do let v ← whole; standAt a.pos; holding [v] (truthy v)) := by
  intro whole
  cases a with
  | UnaryOp op x p => cases op <;> first | rfl | cases h
  | BoolOp op x p => cases h
  | IfExp a b c p => cases h
  | Compare a b c p => cases h
  | _ => rfl
theorem plainFor_ok {e : Expr} (h : plainFor e = true) (env : Env) (x : Value) : foldedSetIterable e env x = pure x := by
  cases e <;> first | rfl | cases h
def isTup : Expr → Bool
  | .Tuple _ _ _ => true
  | _ => false
section
variable (G : GEnv) (N : List Str)
mutual
def chkE : IE → Scope → Expr → Bool
  | .var i, sc, e => match e with
    | .Name x _ => decide (N[i]? = some x) && visB sc x && nameOk x
    | _ => false
  | .glo i, sc, e => match e with
    | .Name x _ => isCon G x i && gloB sc x && nameOk x
    | _ => false
  | .int n, _, e => match e with
    | .Constant (.int m) _ _ => decide (n = m)
    | _ => false
  | .str z, _, e => match e with
    | .Constant (.str y) _ _ => decide (z = y)
    | _ => false
  | .bl b, _, e => match e with
    | .Constant (.bool c) _ _ => b == c
    | _ => false
  | .non, _, e => match e with
    | .Constant .none _ _ => true
    | _ => false
  | .bin op a b, sc, e => match e with
    | .BinOp x op' y _ => decide (op = op') && chkE a sc x && chkE b sc y
    | _ => false
  | .neg a, sc, e => match e with
    | .UnaryOp .USub x _ => chkE a sc x
    | _ => false
  | .cmp op a b, sc, e => match e with
    | .Compare x [op'] [y] _ => decide (op = op') && !(behindInMarks op y) && chkE a sc x && chkE b sc y
    | _ => false
  | .chn op op2 a b c, sc, e => match e with
    | .Compare x [o1, o2] [y, z] _ => decide (op = o1) && decide (op2 = o2) && !(lastMarks [op, op2] [y, z]) && chkE a sc x && chkE b sc y && chkE c sc z
    | _ => false
  | .and2 a b, sc, e => match e with
    | .BoolOp .And (x :: y :: []) _ => chkE a sc x && chkE b sc y
    | .BoolOp .And (x :: y :: z :: r) p => chkE a sc x && chkE b sc (.BoolOp .And (y :: z :: r) p)
    | _ => false
  | .or2 a b, sc, e => match e with
    | .BoolOp .Or (x :: y :: []) _ => chkE a sc x && chkE b sc y
    | .BoolOp .Or (x :: y :: z :: r) p => chkE a sc x && chkE b sc (.BoolOp .Or (y :: z :: r) p)
    | _ => false
  | .not a, sc, e => match e with
    | .UnaryOp .Not x _ => chkE a sc x
    | _ => false
  | .ite t a b, sc, e => match e with
    | .IfExp c x y _ => chkT t sc c && chkE a sc x && chkE b sc y
    | _ => false
  | .sub a i, sc, e => match e with
    | .Subscript x y _ => ixE y && chkE a sc x && chkE i sc y
    | _ => false
  | .slc a lo hi, sc, e => match e with
    | .Subscript x (.Slice l h none _) _ => chkE a sc x && chkO lo sc l && chkO hi sc h
    | _ => false
  | .rev a, sc, e => match e with
    | .Subscript x (.Slice none none (some (.UnaryOp .USub (.Constant (.int n) _ _) _)) _) _ => decide (n = 1) && chkE a sc x
    | _ => false
  | .tup es, sc, e => match e with
    | .Tuple xs _ _ => chkA es sc xs
    | _ => false
  | .lst es, sc, e => match e with
    | .List xs _ => chkA es sc xs
    | _ => false
  | .dct kvs, sc, e => match e with
    | .Dict ks vs _ => chkP kvs sc ks vs && decide (ks.length ≤ 15) && ks.all (·.isSome) && decide (ks.length = vs.length)
    | _ => false
  | .call f es, sc, e => match e with
    | .Call (.Name x _) (y :: ys) [] _ => isFn G x f && gloB sc x && nameOk x && (y :: ys).all plainA && chkA es sc (y :: ys)
    | _ => false
  | .isi a t, sc, e => match e with
    | .Call (.Name x _) [y, .Name z _] [] _ => bltB G sc x (.builtin "isinstance") && bltB G sc z (.type t) && plainA y && chkE a sc y
    | _ => false
  | .bi b es, sc, e => match b, es with
    | .nextIter, .cons e1 .nil => match e with
      | .Call (.Name nn _) [.Call (.Name ni _) [x] [] _, .Constant .none _ _] [] _ => bltB G sc nn (.builtin "next") && bltB G sc ni (.builtin "iter") && plainA x && chkE e1 sc x
      | _ => false
    | .items, .cons e1 .nil => match e with
      | .Call (.Name nl _) [.Call (.Attribute x nm apos) [] [] cpos] [] _ => bltB G sc nl (.type "list") && decide (nm = "items") && noSup x && (apos.endLine == cpos.line) && chkE e1 sc x
      | _ => false
    | .nextIter, _ => false
    | .items, _ => false
    | b, es => match e with
      | .Call (.Name x _) (y :: ys) [] _ => bltB G sc x (biV b) && (y :: ys).all plainA && chkA es sc (y :: ys)
      | _ => false
  | .meth m o es, sc, e => match e with
    | .Call (.Attribute x nm apos) (y :: ys) [] cpos => decide (nm = meN m) && noSup x && (y :: ys).all plainA && decide ((y :: ys).length < 30) && (apos.endLine == cpos.line) && chkE o sc x && chkA es sc (y :: ys)
    | _ => false
  | .lc elt tg src cond own, sc, e => match e with
    | .ListComp x [⟨tgE, iter, ifs, as⟩] scope _ => decide (as = 0) && blkB N sc scope tg own && tgB N scope tg tgE && plainFor iter && chkI src sc tgE iter && chkC cond (relS scope sc) ifs && chkE elt (relS scope sc) x
    | _ => false
  | .dc kx vx tg src cond own, sc, e => match e with
    | .DictComp x y [⟨tgE, iter, ifs, as⟩] scope _ => decide (as = 0) && blkB N sc scope tg own && tgB N scope tg tgE && plainFor iter && chkI src sc tgE iter && chkC cond (relS scope sc) ifs && chkE kx (relS scope sc) x && chkE vx (relS scope sc) y
    | _ => false
def chkA : IEs → Scope → List Expr → Bool
  | .nil, _, xs => xs.isEmpty
  | .cons e es, sc, xs => match xs with
    | x :: r => plainA x && chkE e sc x && chkA es sc r
    | [] => false
def chkP : IEs → Scope → List (Option Expr) → List Expr → Bool
  | .nil, _, ks, vs => ks.isEmpty && vs.isEmpty
  | .cons k (.cons v r), sc, ks, vs => match ks, vs with
    | some x :: ks, y :: vs => chkE k sc x && chkE v sc y && chkP r sc ks vs
    | _, _ => false
  | _, _, _, _ => false
def chkO : IO → Scope → Option Expr → Bool
  | .no, _, o => o.isNone
  | .yes e, sc, o => match o with
    | some x => chkE e sc x
    | none => false
def chkC : IO → Scope → List Expr → Bool
  | .no, _, l => l.isEmpty
  | .yes e, sc, l => match l with
    | [x] => chkT e sc x
    | _ => false
def chkI : ISrc → Scope → Expr → Expr → Bool
  | .of e, sc, _, x => chkE e sc x
  | .enum e, sc, tg, x => match x with
    | .Call (.Name nm _) [y] [] _ => decide (nm = "enumerate") && bltB G sc nm (.type "enumerate") && isTup tg && plainA y && chkE e sc y
    | _ => false
  | .range1 e, sc, _, x => match x with
    | .Call (.Name nm _) [y] [] _ => decide (nm = "range") && bltB G sc nm (.type "range") && plainA y && chkE e sc y
    | _ => false
  | .dvar i, sc, _, x => match x with
    | .Name nm _ => decide (N[i]? = some nm) && visB sc nm && nameOk nm
    | _ => false
def chkT : IE → Scope → Expr → Bool
  | .and2 a b, sc, e => match e with
    | .BoolOp .And (x :: y :: []) _ => chkT a sc x && chkT b sc y
    | .BoolOp .And (x :: y :: z :: r) p => chkT a sc x && chkT b sc (.BoolOp .And (y :: z :: r) p)
    | _ => false
  | .or2 a b, sc, e => match e with
    | .BoolOp .Or (x :: y :: []) _ => chkT a sc x && chkT b sc y
    | .BoolOp .Or (x :: y :: z :: r) p => chkT a sc x && chkT b sc (.BoolOp .Or (y :: z :: r) p)
    | _ => false
  | .not a, sc, e => match e with
    | .UnaryOp .Not x _ => chkT a sc x
    | _ => false
  | .cmp op a b, sc, e => match e with
    | .Compare x [op'] [y] _ => decide (op = op') && !(behindInMarks op y) && chkE a sc x && chkE b sc y
    | _ => false
  | .chn op op2 a b c, sc, e => match e with
    | .Compare x [o1, o2] [y, z] _ => decide (op = o1) && decide (op2 = o2) && !(lastMarks [op, op2] [y, z]) && chkE a sc x && chkE b sc y && chkE c sc z
    | _ => false
  | ie, sc, e => valT e && (match ie with
    | .var i => match e with
      | .Name x _ => decide (N[i]? = some x) && visB sc x && nameOk x
      | _ => false
    | .glo i => match e with
      | .Name x _ => isCon G x i && gloB sc x && nameOk x
      | _ => false
    | .call f es => match e with
      | .Call (.Name x _) (y :: ys) [] _ => isFn G x f && gloB sc x && nameOk x && (y :: ys).all plainA && chkA es sc (y :: ys)
      | _ => false
    | .isi a t => match e with
      | .Call (.Name x _) [y, .Name z _] [] _ => bltB G sc x (.builtin "isinstance") && bltB G sc z (.type t) && plainA y && chkE a sc y
      | _ => false
    | .bi .all es => match e with
      | .Call (.Name x _) (y :: ys) [] _ => bltB G sc x (.builtin "all") && (y :: ys).all plainA && chkA es sc (y :: ys)
      | _ => false
    | .sub a i => match e with
      | .Subscript x y _ => ixE y && chkE a sc x && chkE i sc y
      | _ => false
    | _ => false)
end
end
end L3

set_option Elab.async false
set_option linter.all false
set_option maxRecDepth 100000
set_option maxHeartbeats 4000000
/-! C21: what the checker accepts is right. -/
namespace L3
open PySem PySem.Spec PyProof.Rows L2

theorem PE3.imp {X : Cx} {e : Expr} {t u : TE3} (h : PE3 X e t) (i : ∀ σ M Q, u σ M Q → t σ M Q) : PE3 X e u := PE.imp h fun σ H Q ⟨σ3, M, Q3, r, q, fin⟩ => ⟨σ3, M, Q3, r, i σ3 M Q3 q, fin⟩
def isBop : Expr → Bool
  | .BoolOp _ _ _ => true
  | _ => false
section
variable {G : GEnv} {C : Nat → D} {Γ : Nat → Sp3} {N : List Str} {k : Nat}
theorem Good.hu {X : Cx} {sc : Scope} (g : Good G C Γ N k X sc) : X.A.units + 200 < cLine := by have := g.room.un; omega
mutual
theorem sE : ∀ (ie : IE) {X : Cx} {sc : Scope} {e : Expr}, Good G C Γ N k X sc → chkE G N ie sc e = true → PE3 X e (WE C Γ ie)
  | .var i, X, sc, e, g, h => by
    unfold chkE at h
    split at h
    · simp only [Bool.and_eq_true, decide_eq_true_eq] at h
      exact s_var g h.1.1 h.1.2 h.2
    · cases h
  | .glo i, X, sc, e, g, h => by
    unfold chkE at h
    split at h
    · simp only [Bool.and_eq_true] at h
      exact s_glo g (isCon_ok h.1.1) h.1.2 h.2
    · cases h
  | .int n, X, sc, e, g, h => by
    unfold chkE at h
    split at h
    · rw [decide_eq_true_eq] at h
      subst h
      exact s_con pe_int fun _ => .int _
    · cases h
  | .str n, X, sc, e, g, h => by
    unfold chkE at h
    split at h
    · rw [decide_eq_true_eq] at h
      subst h
      exact s_con pe_str fun _ => .str _
    · cases h
  | .bl n, X, sc, e, g, h => by
    unfold chkE at h
    split at h
    · have h := eq_of_beq h
      subst h
      exact s_con pe_bl fun _ => .bl _
    · cases h
  | .non, X, sc, e, g, h => by
    unfold chkE at h
    split at h
    · exact s_con pe_non fun _ => .non
    · cases h
  | .bin op a b, X, sc, e, g, h => by
    unfold chkE at h
    split at h
    · simp only [Bool.and_eq_true, decide_eq_true_eq] at h
      obtain ⟨⟨rfl, h1⟩, h2⟩ := h
      exact s_bin (sE a g h1) (sE b g h2)
    · cases h
  | .neg a, X, sc, e, g, h => by
    unfold chkE at h
    split at h
    · exact s_neg (sE a g h)
    · cases h
  | .cmp op a b, X, sc, e, g, h => by
    unfold chkE at h
    split at h
    · simp only [Bool.and_eq_true, decide_eq_true_eq, Bool.not_eq_true'] at h
      obtain ⟨⟨⟨rfl, h0⟩, h1⟩, h2⟩ := h
      exact s_cmp (by have := g.hu; omega) h0 (sE a g h1) (sE b g h2)
    · cases h
  | .chn op op2 a b c, X, sc, e, g, h => by
    unfold chkE at h
    split at h
    · simp only [Bool.and_eq_true, decide_eq_true_eq, Bool.not_eq_true'] at h
      obtain ⟨⟨⟨⟨⟨rfl, rfl⟩, h0⟩, h1⟩, h2⟩, h3⟩ := h
      exact s_chn (by have := g.hu; omega) h0 (sE a g h1) (sE b g h2) (sE c g h3)
    · cases h
  | .and2 a b, X, sc, e, g, h => by
    unfold chkE at h
    split at h
    · rw [Bool.and_eq_true] at h
      exact s_and (sE a g h.1) (s_one (sE b g h.2))
    · rw [Bool.and_eq_true] at h
      exact s_and (sE a g h.1) (sE b g h.2)
    · cases h
  | .or2 a b, X, sc, e, g, h => by
    unfold chkE at h
    split at h
    · rw [Bool.and_eq_true] at h
      exact s_or (sE a g h.1) (s_one (sE b g h.2))
    · rw [Bool.and_eq_true] at h
      exact s_or (sE a g h.1) (sE b g h.2)
    · cases h
  | .not a, X, sc, e, g, h => by
    unfold chkE at h
    split at h
    · exact s_not (sE a g h)
    · cases h
  | .ite t a b, X, sc, e, g, h => by
    unfold chkE at h
    split at h
    · simp only [Bool.and_eq_true] at h
      exact s_ite (sT t g h.1.1).1 (sE a g h.1.2) (sE b g h.2)
    · cases h
  | .sub a i, X, sc, e, g, h => by
    unfold chkE at h
    split at h
    · simp only [Bool.and_eq_true] at h
      exact s_sub (by have := g.hu; omega) h.1.1 (sE a g h.1.2) (sE i g h.2)
    · cases h
  | .slc a lo hi, X, sc, e, g, h => by
    unfold chkE at h
    split at h
    · simp only [Bool.and_eq_true] at h
      exact s_slc (sE a g h.1.1) (sO lo g h.1.2) (sO hi g h.2)
    · cases h
  | .rev a, X, sc, e, g, h => by
    unfold chkE at h
    split at h
    · simp only [Bool.and_eq_true, decide_eq_true_eq] at h
      obtain ⟨rfl, h1⟩ := h
      exact s_rev (sE a g h1)
    · cases h
  | .tup es, X, sc, e, g, h => by
    unfold chkE at h
    split at h
    · exact s_tup (sA es g h)
    · cases h
  | .lst es, X, sc, e, g, h => by
    unfold chkE at h
    split at h
    · exact s_lst (sA es g h)
    · cases h
  | .dct kvs, X, sc, e, g, h => by
    unfold chkE at h
    split at h
    · rename_i ks vs p
      simp only [Bool.and_eq_true, decide_eq_true_eq] at h
      obtain ⟨⟨⟨h1, h2⟩, h3⟩, h4⟩ := h
      cases hk : ks.isEmpty with
      | false => exact s_dct (by have := g.hu; omega) (sP kvs p g h1) h3 h4 hk h2
      | true =>
        have e1 : ks = [] := List.isEmpty_iff.mp hk
        subst e1
        have e2 : vs = [] := List.length_eq_zero_iff.mp h4.symm
        subst e2
        have e3 : kvs = .nil := by
          cases kvs with
          | nil => rfl
          | cons a r => cases r <;> simp [chkP] at h1
        subst e3
        exact s_dct0
    · cases h
  | .call f es, X, sc, e, g, h => by
    unfold chkE at h
    split at h
    · simp only [Bool.and_eq_true] at h
      obtain ⟨⟨⟨⟨h1, h2⟩, h3⟩, h4⟩, h5⟩ := h
      exact s_call g (isFn_ok h1) h2 h3 h4 (sA es g h5)
    · cases h
  | .isi a t, X, sc, e, g, h => by
    unfold chkE at h
    split at h
    · simp only [Bool.and_eq_true] at h
      exact s_isi (bltB_ok g h.1.1.1) (bltB_ok g h.1.1.2) h.1.2 (sE a g h.2)
    · cases h
  | .bi b es, X, sc, e, g, h => by
    unfold chkE at h
    split at h
    · rename_i e1
      split at h
      · simp only [Bool.and_eq_true] at h
        exact PE3.imp (s_next g.calm (bltB_ok g h.1.1.1) (bltB_ok g h.1.1.2) h.1.2 (sE e1 g h.2)) fun _ _ _ h => h
      · cases h
    · rename_i e1
      split at h
      · simp only [Bool.and_eq_true, decide_eq_true_eq] at h
        obtain ⟨⟨⟨⟨h1, rfl⟩, h3⟩, h4⟩, h5⟩ := h
        exact PE3.imp (s_items g.calm (bltB_ok g h1) h3 h4 (sE e1 g h5)) fun _ _ _ h => h
      · cases h
    · cases h
    · cases h
    · split at h
      · simp only [Bool.and_eq_true] at h
        obtain ⟨⟨h1, h2⟩, h3⟩ := h
        have hu := g.hu
        cases b with
        | len => exact s_callB (bltB_ok g h1) b_len h2 (sA es g h3)
        | all => exact s_callB (bltB_ok g h1) (b_all g.calm) h2 (sA es g h3)
        | sum => exact s_callB (bltB_ok g h1) (b_sum g.calm) h2 (sA es g h3)
        | sorted => exact s_callB (bltB_ok g h1) b_sorted h2 (sA es g h3)
        | min => exact s_callB (bltB_ok g h1) (b_min g.calm) h2 (sA es g h3)
        | max => exact s_callB (bltB_ok g h1) (b_max g.calm) h2 (sA es g h3)
        | abs => exact s_callB (bltB_ok g h1) b_abs h2 (sA es g h3)
        | int => exact s_callTy (bltB_ok g h1) b_int h2 (sA es g h3)
        | bool => exact s_callTy (bltB_ok g h1) b_bool h2 (sA es g h3)
        | str => exact s_callTy (bltB_ok g h1) b_str h2 (sA es g h3)
        | list => exact s_callTy (bltB_ok g h1) b_list h2 (sA es g h3)
        | tuple => exact s_callTy (bltB_ok g h1) b_tuple h2 (sA es g h3)
        | dict => exact s_callTy (bltB_ok g h1) (b_dict g.calm (by omega)) h2 (sA es g h3)
        | repr => exact s_callB (bltB_ok g h1) (b_repr g.guards hu g.sys) h2 (sA es g h3)
        | nextIter => simp_all
        | items => simp_all
      · cases h
  | .meth m o es, X, sc, e, g, h => by
    unfold chkE at h
    split at h
    · simp only [Bool.and_eq_true, decide_eq_true_eq] at h
      obtain ⟨⟨⟨⟨⟨⟨rfl, h1⟩, h2⟩, h3⟩, h4⟩, h5⟩, h6⟩ := h
      exact s_meth (by have := g.hu; omega) m h1 h2 (decide_eq_true h3) h4 (sE o g h5) (sA es g h6)
    · cases h
  | .lc elt tg src cond own, X, sc, e, g, h => by
    unfold chkE at h
    split at h
    · rename_i x tgE iter ifs as scope p
      simp only [Bool.and_eq_true, decide_eq_true_eq] at h
      obtain ⟨⟨⟨⟨⟨⟨rfl, h1⟩, h2⟩, h3⟩, h4⟩, h5⟩, h6⟩ := h
      cases src with
      | dvar i =>
        unfold chkI at h4
        split at h4
        · simp only [Bool.and_eq_true, decide_eq_true_eq] at h4
          have base := s_lc (pos := p) (te := WE C Γ elt) (tt := WC C Γ cond) g h1 h2 (i_dvar g h4.1.1 h4.1.2 h4.2) (fun Y g' => sC cond g' h5) (fun Y g' => sE elt g' h6) (plainFor_ok h3 X.env)
          refine PE3.imp (lockE (i := i) (body := fun (σ : St3) (M : Hp3) (a : Addr) (kvs : List (D × D)) (Q : VK3) => ∀ p, M p = none → lcW (Src.holds (.lck a kvs)) tg (WC C Γ cond) (WE C Γ elt) (wipe3 σ own) p (kvs.map fun q : D × D => q.1) (up3 M p (.lst [])) Q) base) fun σ M Q hq => ?_
          obtain ⟨a, kvs, ea, (⟨hm, q⟩ | ⟨hm, q⟩)⟩ := hq
          · refine ⟨a, kvs, ea, .inl ⟨hm, fun p hp => q p ?_⟩⟩
            have : p ≠ a := fun z => by rw [z, up3_same] at hp; cases hp
            rw [up3_ne this] at hp
            exact hp
          · exact ⟨a, kvs, ea, .inr ⟨hm, q⟩⟩
        · cases h4
      | of e' => exact s_lc (wi := WI C Γ (.of e')) g h1 h2 (sI (.of e') g h4) (fun Y g' => sC cond g' h5) (fun Y g' => sE elt g' h6) (plainFor_ok h3 X.env)
      | enum e' => exact s_lc (wi := WI C Γ (.enum e')) g h1 h2 (sI (.enum e') g h4) (fun Y g' => sC cond g' h5) (fun Y g' => sE elt g' h6) (plainFor_ok h3 X.env)
      | range1 e' => exact s_lc (wi := WI C Γ (.range1 e')) g h1 h2 (sI (.range1 e') g h4) (fun Y g' => sC cond g' h5) (fun Y g' => sE elt g' h6) (plainFor_ok h3 X.env)
    · cases h
  | .dc kx vx tg src cond own, X, sc, e, g, h => by
    unfold chkE at h
    split at h
    · rename_i x y tgE iter ifs as scope p
      simp only [Bool.and_eq_true, decide_eq_true_eq] at h
      obtain ⟨⟨⟨⟨⟨⟨⟨rfl, h1⟩, h2⟩, h3⟩, h4⟩, h5⟩, h6⟩, h7⟩ := h
      exact s_dc (wi := WI C Γ src) (by have := g.hu; omega) g h1 h2 (sI src g h4) (fun Y g' => sC cond g' h5) (fun Y g' => sE kx g' h6) (fun Y g' => sE vx g' h7) (plainFor_ok h3 X.env)
    · cases h
theorem sA : ∀ (es : IEs) {X : Cx} {sc : Scope} {xs : List Expr}, Good G C Γ N k X sc → chkA G N es sc xs = true → PA3 X xs (WA C Γ es)
  | .nil, X, sc, xs, g, h => by
    unfold chkA at h
    have e := List.isEmpty_iff.mp h
    subst e
    exact a_nil
  | .cons e es, X, sc, xs, g, h => by
    unfold chkA at h
    split at h
    · simp only [Bool.and_eq_true] at h
      exact a_cons h.1.1 (sE e g h.1.2) (sA es g h.2)
    · cases h
theorem sP : ∀ (es : IEs) (p : Pos) {X : Cx} {sc : Scope} {ks : List (Option Expr)} {vs : List Expr}, Good G C Γ N k X sc → chkP G N es sc ks vs = true → PP3 X p ks vs (WP C Γ es)
  | .nil, p, X, sc, ks, vs, g, h => by
    unfold chkP at h
    simp only [Bool.and_eq_true] at h
    have e := List.isEmpty_iff.mp h.1
    subst e
    have e := List.isEmpty_iff.mp h.2
    subst e
    exact p_nil
  | .cons kx .nil, p, X, sc, ks, vs, g, h => by
    simp [chkP] at h
  | .cons kx (.cons vx r), p, X, sc, ks, vs, g, h => by
    unfold chkP at h
    split at h
    · simp only [Bool.and_eq_true] at h
      exact p_cons (sE kx g h.1.1) (sE vx g h.1.2) (sP r p g h.2)
    · cases h
theorem sO : ∀ (o : IO) {X : Cx} {sc : Scope} {e : Option Expr}, Good G C Γ N k X sc → chkO G N o sc e = true → PO3 X e (WO C Γ o)
  | .no, X, sc, e, g, h => by
    unfold chkO at h
    have e1 := Option.isNone_iff_eq_none.mp h
    subst e1
    exact o_no
  | .yes x, X, sc, e, g, h => by
    unfold chkO at h
    split at h
    · exact o_yes (sE x g h)
    · cases h
theorem sC : ∀ (o : IO) {X : Cx} {sc : Scope} {l : List Expr}, Good G C Γ N k X sc → chkC G N o sc l = true → PTs X l (liftT X.K X.w (WC C Γ o))
  | .no, X, sc, l, g, h => by
    unfold chkC at h
    have e1 := List.isEmpty_iff.mp h
    subst e1
    exact pts_no
  | .yes x, X, sc, l, g, h => by
    unfold chkC at h
    split at h
    · exact pts_one (sT x g h).1
    · cases h
theorem sI : ∀ (s : ISrc) {X : Cx} {sc : Scope} {tg x : Expr}, Good G C Γ N k X sc → chkI G N s sc tg x = true → PI3 X tg x (WI C Γ s)
  | .of e, X, sc, tg, x, g, h => i_of (sE e g h)
  | .enum e, X, sc, tg, x, g, h => by
    unfold chkI at h
    split at h
    · simp only [Bool.and_eq_true, decide_eq_true_eq] at h
      obtain ⟨⟨⟨⟨rfl, h1⟩, h2⟩, h3⟩, h4⟩ := h
      have b := bltB_ok g h1
      cases tg with
      | Tuple elts kk p => exact i_enum b.gl b.mg h3 (sE e g h4)
      | _ => cases h2
    · cases h
  | .range1 e, X, sc, tg, x, g, h => by
    unfold chkI at h
    split at h
    · simp only [Bool.and_eq_true, decide_eq_true_eq] at h
      obtain ⟨⟨⟨rfl, h1⟩, h3⟩, h4⟩ := h
      have b := bltB_ok g h1
      exact i_range b.gl b.mg h3 (sE e g h4)
    · cases h
  | .dvar i, X, sc, tg, x, g, h => ⟨fun pins s σ H R I h => by
    obtain ⟨_, _, _, _, z, _⟩ := h
    exact False.elim z⟩
theorem sT : ∀ (ie : IE) {X : Cx} {sc : Scope} {e : Expr}, Good G C Γ N k X sc → chkT G N ie sc e = true → PT3 X e (WT C Γ ie) ∧ (isBop e = true → PW X e (liftT X.K X.w (WT C Γ ie)))
  | .and2 a b, X, sc, e, g, h => by
    unfold chkT at h
    split at h
    · rename_i x y p
      rw [Bool.and_eq_true] at h
      have w := t_and (pos := p) (sT a g h.1).1 (t_and1 (sT b g h.2).1)
      exact ⟨w.pt, fun _ => w⟩
    · rw [Bool.and_eq_true] at h
      have w := t_and (sT a g h.1).1 ((sT b g h.2).2 rfl)
      exact ⟨w.pt, fun _ => w⟩
    · cases h
  | .or2 a b, X, sc, e, g, h => by
    unfold chkT at h
    split at h
    · rename_i x y p
      rw [Bool.and_eq_true] at h
      have w := t_or (pos := p) (sT a g h.1).1 (t_or1 (sT b g h.2).1)
      exact ⟨w.pt, fun _ => w⟩
    · rw [Bool.and_eq_true] at h
      have w := t_or (sT a g h.1).1 ((sT b g h.2).2 rfl)
      exact ⟨w.pt, fun _ => w⟩
    · cases h
  | .not a, X, sc, e, g, h => by
    unfold chkT at h
    split at h
    · exact ⟨t_not (sT a g h).1, fun z => nomatch z⟩
    · cases h
  | .cmp op a b, X, sc, e, g, h => by
    unfold chkT at h
    split at h
    · simp only [Bool.and_eq_true, decide_eq_true_eq, Bool.not_eq_true'] at h
      obtain ⟨⟨⟨rfl, h0⟩, h1⟩, h2⟩ := h
      exact ⟨t_cmp (by have := g.hu; omega) h0 (sE a g h1) (sE b g h2), fun z => nomatch z⟩
    · cases h
  | .chn op op2 a b c, X, sc, e, g, h => by
    unfold chkT at h
    split at h
    · simp only [Bool.and_eq_true, decide_eq_true_eq, Bool.not_eq_true'] at h
      obtain ⟨⟨⟨⟨⟨rfl, rfl⟩, h0⟩, h1⟩, h2⟩, h3⟩ := h
      exact ⟨t_chn (by have := g.hu; omega) h0 (sE a g h1) (sE b g h2) (sE c g h3), fun z => nomatch z⟩
    · cases h
  | .var i, X, sc, e, g, h => by
    simp only [chkT, Bool.and_eq_true] at h
    obtain ⟨hv, h⟩ := h
    split at h
    · simp only [Bool.and_eq_true, decide_eq_true_eq] at h
      exact ⟨t_val (s_var g h.1.1 h.1.2 h.2) (valT_ok hv X.env), fun z => nomatch z⟩
    · cases h
  | .glo i, X, sc, e, g, h => by
    simp only [chkT, Bool.and_eq_true] at h
    obtain ⟨hv, h⟩ := h
    split at h
    · simp only [Bool.and_eq_true] at h
      exact ⟨t_val (s_glo g (isCon_ok h.1.1) h.1.2 h.2) (valT_ok hv X.env), fun z => nomatch z⟩
    · cases h
  | .call f es, X, sc, e, g, h => by
    simp only [chkT, Bool.and_eq_true] at h
    obtain ⟨hv, h⟩ := h
    split at h
    · simp only [Bool.and_eq_true] at h
      obtain ⟨⟨⟨⟨h1, h2⟩, h3⟩, h4⟩, h5⟩ := h
      exact ⟨t_val (s_call g (isFn_ok h1) h2 h3 h4 (sA es g h5)) (valT_ok hv X.env), fun z => nomatch z⟩
    · cases h
  | .isi a t, X, sc, e, g, h => by
    simp only [chkT, Bool.and_eq_true] at h
    obtain ⟨hv, h⟩ := h
    split at h
    · simp only [Bool.and_eq_true] at h
      exact ⟨t_val (s_isi (bltB_ok g h.1.1.1) (bltB_ok g h.1.1.2) h.1.2 (sE a g h.2)) (valT_ok hv X.env), fun z => nomatch z⟩
    · cases h
  | .bi b es, X, sc, e, g, h => by
    cases b with
    | all =>
      simp only [chkT, Bool.and_eq_true] at h
      obtain ⟨hv, h⟩ := h
      split at h
      · simp only [Bool.and_eq_true] at h
        exact ⟨t_val (s_callB (bltB_ok g h.1.1) (b_all g.calm) h.1.2 (sA es g h.2)) (valT_ok hv X.env), fun z => nomatch z⟩
      · cases h
    | _ => simp [chkT] at h
  | .sub a i, X, sc, e, g, h => by
    simp only [chkT, Bool.and_eq_true] at h
    obtain ⟨hv, h⟩ := h
    split at h
    · simp only [Bool.and_eq_true] at h
      exact ⟨t_val (s_sub (by have := g.hu; omega) h.1.1 (sE a g h.1.2) (sE i g h.2)) (valT_ok hv X.env), fun z => nomatch z⟩
    · cases h
  | .int _, _, _, _, _, h => by simp [chkT] at h
  | .str _, _, _, _, _, h => by simp [chkT] at h
  | .bl _, _, _, _, _, h => by simp [chkT] at h
  | .non, _, _, _, _, h => by simp [chkT] at h
  | .bin _ _ _, _, _, _, _, h => by simp [chkT] at h
  | .neg _, _, _, _, _, h => by simp [chkT] at h
  | .ite _ _ _, _, _, _, _, h => by simp [chkT] at h
  | .slc _ _ _, _, _, _, _, h => by simp [chkT] at h
  | .rev _, _, _, _, _, h => by simp [chkT] at h
  | .tup _, _, _, _, _, h => by simp [chkT] at h
  | .lst _, _, _, _, _, h => by simp [chkT] at h
  | .dct _, _, _, _, _, h => by simp [chkT] at h
  | .meth _ _ _, _, _, _, _, h => by simp [chkT] at h
  | .lc _ _ _ _ _, _, _, _, _, h => by simp [chkT] at h
  | .dc _ _ _ _ _ _, _, _, _, _, h => by simp [chkT] at h
end
end
end L3

set_option Elab.async false
set_option linter.all false
set_option maxRecDepth 100000
set_option maxHeartbeats 4000000
/-! C22: statements checked. -/
namespace L3
open PySem PySem.Spec PyProof.Rows L2
section
variable (G : GEnv) (N : List Str)
/-- name = a comprehension that stores by itself -/
def chkSetC (i : Nat) (e : IE) (sc : Scope) (x : Str) (p0 : Pos) (v : Expr) : Bool := match e with
  | .lc elt tg src cond own => match v with
    | .ListComp y [⟨tgE, iter, ifs, as⟩] scope ps => swF sc x p0 scope ps && decide (as = 0) && blkB N sc scope tg own && tgB N scope tg tgE && plainFor iter && chkI G N src sc tgE iter && chkC G N cond (relS scope sc) ifs && chkE G N elt (relS scope sc) y && (match src with
      | .dvar _ => false
      | _ => true)
    | _ => false
  | .dc kx vx tg src cond own => match v with
    | .DictComp y z [⟨tgE, iter, ifs, as⟩] scope ps => swF sc x p0 scope ps && decide (as = 0) && blkB N sc scope tg own && tgB N scope tg tgE && plainFor iter && chkI G N src sc tgE iter && chkC G N cond (relS scope sc) ifs && chkE G N kx (relS scope sc) y && chkE G N vx (relS scope sc) z
    | _ => false
  | _ => false
/-- the value is stored by the statement -/
def swNo (sc : Scope) (x : Str) (p0 : Pos) (v : Expr) : Bool := match v with
  | .ListComp _ _ s ps => !(swF sc x p0 s ps)
  | .DictComp _ _ _ s ps => !(swF sc x p0 s ps)
  | .SetComp _ _ _ _ => false
  | _ => true
def chkPar (sc : Scope) (is : List Nat) (e : IE) (ts : List Expr) (v : Expr) (kt : Nat) (pt : Pos) : Bool := match is, e, ts, v with
  | [i, j], .tup es, [.Name x px, .Name y py], .Tuple [a, b] k2 p2 => decide (N[i]? = some x) && decide (N[j]? = some y) && decide (i ≠ j) && decide (sc.names.lookup x = some .local) && decide (sc.names.lookup y = some .local) &&
      decide (swQ sc [.Tuple ts kt pt] (.Tuple [a, b] k2 p2) = some (some [x, y])) && chkA G N es sc [a, b]
  | _, _, _, _ => false
mutual
def chkS : IS → Scope → Stmt → Bool
  | .asg tg e, sc, s => match s with
    | .Assign [.Name x p0] v _ => match tg with
      | .one i => decide (N[i]? = some x) && ((locB sc x && swNo sc x p0 v && chkE G N e sc v) || chkSetC G N i e sc x p0 v)
      | _ => false
    | .Assign [.Tuple ts kt pt] v _ => match tg with
      | .many is => (noComp v && tgB N sc tg (.Tuple ts kt pt) && decide (swQ sc [.Tuple ts kt pt] v = some none) && chkE G N e sc v) || chkPar G N sc is e ts v kt pt
      | _ => false
    | _ => false
  | .put o i e, sc, s => match s with
    | .Assign [.Subscript x y _] v _ => noComp v && chkE G N e sc v && chkE G N o sc x && chkE G N i sc y
    | _ => false
  | .ret e, sc, s => match s with
    | .Return (some v) _ => chkE G N e sc v
    | _ => false
  | .retN, _, s => match s with
    | .Return none _ => true
    | _ => false
  | .iff t a b, sc, s => match s with
    | .If c x y _ => chkT G N t sc c && chkSs a sc x && chkSs b sc y
    | _ => false
  | .loop tg src body, sc, s => match s with
    | .For tgE iter b [] _ => tgB N sc tg tgE && plainFor iter && chkI G N src sc tgE iter && chkSs body sc b
    | _ => false
  | .whl t body, sc, s => match s with
    | .While c b [] _ => chkT G N t sc c && chkSs body sc b
    | _ => false
  | .exp e, sc, s => match s with
    | .Expr v _ => noComp v && chkE G N e sc v
    | _ => false
  | .brk, _, s => match s with
    | .Break _ => true
    | _ => false
  | .cnt, _, s => match s with
    | .Continue _ => true
    | _ => false
  | .pass, _, s => match s with
    | .Pass _ => true
    | _ => false
  | .never, _, _ => true
def chkSs : ISs → Scope → List Stmt → Bool
  | .nil, _, l => l.isEmpty
  | .cons s r, sc, l => match l with
    | x :: xs => chkS s sc x && chkSs r sc xs
    | [] => false
end
end
section
variable {G : GEnv} {C : Nat → D} {Γ : Nat → Sp3} {N : List Str} {k : Nat}
theorem swNo_ok {X : Cx} {sc : Scope} (hs : X.env.scope = sc) (hk : fnKind sc = true) {x : Str} {p0 : Pos} {v : Expr} (h : swNo sc x p0 v = true) (l : Nat) : swapsWith v (some (.Name x p0)) l X.env = pure false := by
  unfold swNo at h
  cases v with
  | ListComp a b c d =>
    rw [swaps_lc hs hk]
    simp only [Bool.not_eq_true'] at h
    rw [h]
  | DictComp a b c d e =>
    rw [swaps_dc hs hk]
    simp only [Bool.not_eq_true'] at h
    rw [h]
  | SetComp _ _ _ _ => cases h
  | _ => rfl
theorem PS3.imp {X : Cx} {e : Stmt} {t u : TS3} (h : PS3 X e t) (i : ∀ D σ M, u D σ M → t D σ M) : PS3 X e u := PS.imp h fun D σ H ⟨σ3, M, D3, r, q, le⟩ => ⟨σ3, M, D3, r, i D3 σ3 M q, le⟩
theorem sSetC {X : Cx} {sc : Scope} (g : Good G C Γ N k X sc) (hk : fnKind sc = true) {i : Nat} {e : IE} {x : Str} {p0 pos : Pos} {v : Expr} (hx : N[i]? = some x) (h : chkSetC G N i e sc x p0 v = true) : PS3 X (.Assign [.Name x p0] v pos) (WS C Γ (.asg (.one i) e)) := by
  unfold chkSetC at h
  split at h
  · rename_i elt tg src cond own
    split at h
    · rename_i y tgE iter ifs as scope ps
      simp only [Bool.and_eq_true, decide_eq_true_eq] at h
      obtain ⟨⟨⟨⟨⟨⟨⟨⟨h0, rfl⟩, h1⟩, h2⟩, h3⟩, h4⟩, h5⟩, h6⟩, h7⟩ := h
      cases src with
      | dvar _ => cases h7
      | of e' => exact ss_setLc (wi := WI C Γ (.of e')) g hk h0 hx h1 h2 (sI (.of e') g h4) (fun Y g' => sC cond g' h5) (fun Y g' => sE elt g' h6) (plainFor_ok h3 X.env)
      | enum e' => exact ss_setLc (wi := WI C Γ (.enum e')) g hk h0 hx h1 h2 (sI (.enum e') g h4) (fun Y g' => sC cond g' h5) (fun Y g' => sE elt g' h6) (plainFor_ok h3 X.env)
      | range1 e' => exact ss_setLc (wi := WI C Γ (.range1 e')) g hk h0 hx h1 h2 (sI (.range1 e') g h4) (fun Y g' => sC cond g' h5) (fun Y g' => sE elt g' h6) (plainFor_ok h3 X.env)
    · cases h
  · rename_i kx vx tg src cond own
    split at h
    · rename_i y z tgE iter ifs as scope ps
      simp only [Bool.and_eq_true, decide_eq_true_eq] at h
      obtain ⟨⟨⟨⟨⟨⟨⟨⟨h0, rfl⟩, h1⟩, h2⟩, h3⟩, h4⟩, h5⟩, h6⟩, h7⟩ := h
      exact ss_setDc (wi := WI C Γ src) (by have := g.hu; omega) g hk h0 hx h1 h2 (sI src g h4) (fun Y g' => sC cond g' h5) (fun Y g' => sE kx g' h6) (fun Y g' => sE vx g' h7) (plainFor_ok h3 X.env)
    · cases h
  · cases h
theorem sPar {X : Cx} {sc : Scope} (g : Good G C Γ N k X sc) {is : List Nat} {e : IE} {ts : List Expr} {v : Expr} {kt : Nat} {pt pos : Pos} (h : chkPar G N sc is e ts v kt pt = true) : PS3 X (.Assign [.Tuple ts kt pt] v pos) (WS C Γ (.asg (.many is) e)) := by
  unfold chkPar at h
  split at h
  · simp only [Bool.and_eq_true, decide_eq_true_eq] at h
    obtain ⟨⟨⟨⟨⟨⟨h1, h2⟩, h3⟩, h4⟩, h5⟩, h6⟩, h7⟩ := h
    rename_i i j es x px y py a b k2 p2
    exact ss_par g h1 h2 h3 h4 h5 h6 (sA es g h7)
  · cases h
mutual
theorem sS : ∀ (s : IS) {X : Cx} {sc : Scope} {st : Stmt}, Good G C Γ N k X sc → Sto X sc → fnKind sc = true → chkS G N s sc st = true → PS3 X st (WS C Γ s)
  | .asg tg e, X, sc, st, g, to, hk, h => by
    unfold chkS at h
    split at h
    · split at h
      · rename_i i
        simp only [Bool.and_eq_true, decide_eq_true_eq, Bool.or_eq_true] at h
        obtain ⟨hx, (⟨⟨h1, h2⟩, h3⟩ | h1)⟩ := h
        · exact ss_name g to hx h1 (sE e g h3) (swNo_ok g.hs hk h2 _)
        · exact sSetC g hk hx h1
      · cases h
    · split at h
      · simp only [Bool.and_eq_true, decide_eq_true_eq, Bool.or_eq_true] at h
        rcases h with ⟨⟨⟨h1, h2⟩, h3⟩, h4⟩ | h1
        · exact ss_many g to h2 h1 h3 (sE e g h4)
        · exact sPar g h1
      · cases h
    · cases h
  | .put o i e, X, sc, st, g, to, hk, h => by
    unfold chkS at h
    split at h
    · simp only [Bool.and_eq_true] at h
      exact ss_sub (by have := g.hu; omega) h.1.1.1 (sE e g h.1.1.2) (sE o g h.1.2) (sE i g h.2)
    · cases h
  | .ret e, X, sc, st, g, to, hk, h => by
    unfold chkS at h
    split at h
    · exact ss_ret (sE e g h)
    · cases h
  | .retN, X, sc, st, g, to, hk, h => by
    unfold chkS at h
    split at h
    · exact ss_retN
    · cases h
  | .iff t a b, X, sc, st, g, to, hk, h => by
    unfold chkS at h
    split at h
    · simp only [Bool.and_eq_true] at h
      exact ss_if (sT t g h.1.1).1 (sSs a g to hk h.1.2) (sSs b g to hk h.2)
    · cases h
  | .loop tg src body, X, sc, st, g, to, hk, h => by
    unfold chkS at h
    split at h
    · rename_i tgE iter b p
      simp only [Bool.and_eq_true] at h
      obtain ⟨⟨⟨h1, h2⟩, h3⟩, h4⟩ := h
      cases src with
      | dvar i =>
        unfold chkI at h3
        split at h3
        · simp only [Bool.and_eq_true, decide_eq_true_eq] at h3
          have base := s_for (pos := p) g to h1 (i_dvar g h3.1.1 h3.1.2 h3.2) (sSs body g to hk h4) (plainFor_ok h2 X.env)
          exact lockS (i := i) (body := fun (σ : St3) (M : Hp3) (a : Addr) (kvs : List (D × D)) (E : Ends3) => loopW (Src.holds (.lck a kvs)) tg (WSs C Γ body) (kvs.map fun q : D × D => q.1) E σ M) base
        · cases h3
      | of e' => exact s_for (wi := WI C Γ (.of e')) g to h1 (sI (.of e') g h3) (sSs body g to hk h4) (plainFor_ok h2 X.env)
      | enum e' => exact s_for (wi := WI C Γ (.enum e')) g to h1 (sI (.enum e') g h3) (sSs body g to hk h4) (plainFor_ok h2 X.env)
      | range1 e' => exact s_for (wi := WI C Γ (.range1 e')) g to h1 (sI (.range1 e') g h3) (sSs body g to hk h4) (plainFor_ok h2 X.env)
    · cases h
  | .whl t body, X, sc, st, g, to, hk, h => by
    unfold chkS at h
    split at h
    · simp only [Bool.and_eq_true] at h
      exact s_whl g (sT t g h.1).1 (sSs body g to hk h.2)
    · cases h
  | .exp e, X, sc, st, g, to, hk, h => by
    unfold chkS at h
    split at h
    · simp only [Bool.and_eq_true] at h
      exact ss_exp h.1 (sE e g h.2)
    · cases h
  | .brk, X, sc, st, g, to, hk, h => by
    unfold chkS at h
    split at h
    · exact ss_brk
    · cases h
  | .cnt, X, sc, st, g, to, hk, h => by
    unfold chkS at h
    split at h
    · exact ss_cnt
    · cases h
  | .pass, X, sc, st, g, to, hk, h => by
    unfold chkS at h
    split at h
    · exact ss_pass
    · cases h
  | .never, X, sc, st, g, to, hk, h => ss_never
theorem sSs : ∀ (s : ISs) {X : Cx} {sc : Scope} {st : List Stmt}, Good G C Γ N k X sc → Sto X sc → fnKind sc = true → chkSs G N s sc st = true → PSs3 X st (WSs C Γ s)
  | .nil, X, sc, st, g, to, hk, h => by
    unfold chkSs at h
    have e := List.isEmpty_iff.mp h
    subst e
    exact ss_nil
  | .cons s r, X, sc, st, g, to, hk, h => by
    unfold chkSs at h
    split at h
    · rw [Bool.and_eq_true] at h
      exact ss_cons (t := WS C Γ s) (u := WSs C Γ r) (sS s g to hk h.1) (sSs r g to hk h.2)
    · cases h
end
end
end L3

set_option Elab.async false
set_option linter.all false
set_option maxRecDepth 100000
set_option maxHeartbeats 4000000
/-! D0: a def's promise by its tree; the law's call. -/
namespace L3
open PySem PySem.Spec PyProof.Rows L2

/-- what a def leans on -/
structure EnvG (G : GEnv) (C : Nat → D) (Γ : Nat → Sp3) (P : Program) (w : World) (K : PySem.W.Frag) (mg : Str → Option Value) (base : Heap) (k : Nat) : Prop where
  sys : ∃ o, base.get? sysModules = some o ∧ o.cls = .type "dict"
  fn : ∀ x i, G.lookup x = some (.fn i) → CalG P w K mg base k x (Γ i)
  con : ∀ x i, G.lookup x = some (.con i) → ConG K mg x (C i)
  blt : ∀ x, G.lookup x = some .blt → mg x = none
theorem CalG.mono {P : Program} {w : World} {K : PySem.W.Frag} {mg : Str → Option Value} {base : Heap} {j k : Nat} {x : Str} {sp : Sp3} (c : CalG P w K mg base j x sp) (h : j ≤ k) : CalG P w K mg base k x sp := by
  obtain ⟨f, fd, ps, a, b, c, d, F⟩ := c
  exact ⟨f, fd, ps, a, b, c, d, F.mono h⟩
/-- the slots at the entry -/
def start3 (N : List Str) (ds : List D) : St3 := ds.map some ++ List.replicate (N.length - ds.length) none
theorem sto_def {CX : CXT} {P : Program} {w : World} {K : PySem.W.Frag} {mg : Str → Option Value} {base : Heap} {N : List Str} {qual : Str} {scope : Scope} {f : Addr} {cd : Value} {A : Around} {outer : List Env} {s : Shared} {H : Hp} {E : XK} : Sto (cxOf CX P w K mg base N qual scope f cd A outer s H E) scope := by
  intro x hx
  unfold locB at hx
  refine ⟨?_, .inl rfl⟩
  show scope.names.lookup x = some .local ∨ scope.names.lookup x = some .cell
  cases e : scope.names.lookup x with
  | none => rw [e] at hx; cases hx
  | some kd =>
    rw [e] at hx
    cases kd <;> first | exact .inl rfl | exact .inr rfl | cases hx
section
variable {P : Program} {w : World} {K : PySem.W.Frag} {mg : Str → Option Value} {base : Heap} {k : Nat} {x : Str} {st : Stmt} {f : Addr} {fd : FuncData} {G : GEnv} {C : Nat → D} {Γ : Nat → Sp3} {N ps : List Str} {ir : ISs} {sp : Sp3}
theorem fn_def (F : FunD K x x (defArgs st) (defBody st) (defScope st) [] [] f fd) (S : C8.scC N ps (defScope st) = true) (ck : chkSs G N ir (defScope st) (defBody st) = true) (len : ∀ ds M Q, sp ds M Q → ds.length = ps.length)
    (env : EnvG G C Γ P w K mg base k) (spec : ∀ ds M Q, sp ds M Q → WSs C Γ ir { nx := fun _ M' => Q .non M', rt := Q } (start3 N ds) M) : FnG P w K mg base (k + 1) f fd ps (lowSp K w ps.length sp) := by
  have S' := C8.fnScope_by S
  have hk : fnKind (defScope st) = true := by
    unfold fnKind
    rw [S'.kind]
  obtain ⟨oc, od, dV, kV, doc, pm, an, cdv, ct, osl, rfl, lk, hcd, _, _⟩ := F.ex
  refine fn_g lk hcd S' (fun vs H Q E h => h.1) fun A outer s H vs Q E hr hg hsp => ?_
  obtain ⟨hl, ds, M, Q3, dd, p3, hs, fin⟩ := hsp
  have good : Good G C Γ N k (cxOf CX0 P w K mg base N x (defScope st) f cdv A outer s H E) (defScope st) :=
    ⟨rfl, S'.nd, rfl, rfl, hr, hg, env.sys, env.fn, env.con, env.blt, PassesOwn.leaving⟩
  refine ⟨_, sSs ir good sto_def hk ck, start3 N ds, M, _, ⟨?_, p3⟩, spec ds M Q3 hs, ⟨fun σ1 H1 hq => ?_, fun v1 H1 hq => ?_, fun σ1 H1 hq => ?_, fun σ1 H1 hq => ?_⟩⟩
  · show DenS K H (ds.map some ++ List.replicate (N.length - ds.length) none) (vs.map some ++ List.replicate (N.length - vs.length) none)
    rw [dd.length]
    exact DenS.start _ dd
  · obtain ⟨x1, σ4, M4, r4, q4⟩ := hq
    exact fin .non M4 .non H1 x1 r4.rep .non q4
  · obtain ⟨x1, d, M4, p4, dv, q4⟩ := hq
    exact fin d M4 v1 H1 x1 p4 dv q4
  · obtain ⟨_, _, _, _, q4⟩ := hq
    exact q4.elim
  · obtain ⟨_, _, _, _, q4⟩ := hq
    exact q4.elim
theorem cal_def (F : FunD K x x (defArgs st) (defBody st) (defScope st) [] [] f fd) (hm : mg x = some (.ref f)) (S : C8.scC N ps (defScope st) = true) (ck : chkSs G N ir (defScope st) (defBody st) = true)
    (hb : ∀ (kV doc pm : Value) (an : Option Addr) (cdv ct : Value) (us : List Value), us.length = ps.length → bindArgs (PySem.W.fnOf x x (defArgs st) (defBody st) (defScope st) .none kV doc pm an cdv ct) ⟨us, []⟩ = pure (ps.zip us))
    (len : ∀ ds M Q, sp ds M Q → ds.length = ps.length) (env : EnvG G C Γ P w K mg base k) (spec : ∀ ds M Q, sp ds M Q → WSs C Γ ir { nx := fun _ M' => Q .non M', rt := Q } (start3 N ds) M) : CalG P w K mg base (k + 1) x sp :=
  ⟨f, fd, ps, hm, F.kp, F.bindsN hb, len, fn_def F S ck len env spec⟩
end

/-! ### the law's call -/
/-- the script, as data -/
inductive Script (M : Hp3) (ns : List Int) : D → Prop
  | ro {a : Addr} (h : M a = some (.ro (ns.map D.int))) : Script M ns (.ref a)
  | sl : Script M ns (.sl ns)
theorem law_callG {P : Program} {w : World} {K : PySem.W.Frag} {mg mb : Str → Option Value} {k : Nat} {fa a : Addr} {fd : FuncData} {x : Str} {sp : Sp3} {s₁ : Shared} {vs : List Value} {ns : List Int}
    (KX : K.In s₁.heap) (hns : s₁.heap.Ns mainGlobals mg) (hb : s₁.heap.Ns builtinsNs mb) (hbb : ∀ x : Str, x ≠ "__name__" → mb x = bootBuiltins x) (hlim : s₁.heap.NoLimit) (hg : s₁.gens = #[])
    (hsys : ∃ o, s₁.heap.get? sysModules = some o ∧ o.cls = .type "dict")
    (ha : s₁.heap.get? a = some { cls := .type "list", data := .seq vs.toArray }) (hi : IntsAre vs ns) (hl : ns.length ≤ sizeLine) (hr : Room k callerA)
    (F : ∀ base : Heap, K.In base → base.Ns mainGlobals mg → (∃ o, base.get? sysModules = some o ∧ o.cls = .type "dict") → FnG P w K mg base k fa fd [x] (lowSp K w 1 sp)) (hbind : ∀ (s : Shared) (u : Value), BindsTo s fd ⟨[u], []⟩ [(x, u)])
    (hsp : ∀ M d, Script M ns d → sp [d] M (fun v _ => v = .bl true)) :
    codeAny (model P w) callerA (.call (.ref fa) ⟨[.ref a], []⟩) (fun r s' => r = .ok (.ret (.bool true)) ∧ OldK s₁.heap s'.heap ∧ s'.os = s₁.os ∧ AllBare s'.gens) s₁ := by
  have rv := vals_ints hi
  have lenV := hi.length
  have core : ∀ (H : Hp) (M : Hp3) (d : D), Rep K w H M → Den K H d (.ref a) → Script M ns d → Only H → HOk P w H s₁.heap → (∀ b, H b ≠ none → b = a) → (H a ≠ none → K.lookup a = none) →
      codeAny (model P w) callerA (.call (.ref fa) ⟨[.ref a], []⟩) (fun r s' => r = .ok (.ret (.bool true)) ∧ OldK s₁.heap s'.heap ∧ s'.os = s₁.os ∧ AllBare s'.gens) s₁ := by
    intro H M d p3 dd hscr hO hok hA hK
    have base_of : ∀ {b : Addr} {o : Obj}, s₁.heap.get? b = some o → H b = none → (hidT s₁.heap H).get? b = some o := fun e n => hidT_get e n
    have notA : ∀ {b : Addr} {o : Obj} (xs : Array Value) (n : Nat), s₁.heap.get? b = some o → (o.cls ≠ .type "list" ∨ o.data ≠ .seq xs n → True) → True := fun _ _ _ _ => trivial
    have noA : ∀ {b : Addr} {o : Obj}, s₁.heap.get? b = some o → o.cls ≠ .type "list" ∨ (∃ es ep, o.data = .dict es ep) → H b = none := fun {b o} e d => by
      cases q : H b with
      | none => rfl
      | some u =>
        have e' : b = a := hA b (by rw [q]; simp)
        subst e'
        rw [ha] at e
        cases e
        rcases d with d | ⟨es, ep, d⟩
        · exact absurd rfl d
        · cases d
    have nsK : ∀ {b : Addr} {m : Str → Option Value}, s₁.heap.Ns b m → (hidT s₁.heap H).Ns b m := fun {b m} ⟨o, es, ep, e, d, r⟩ => ⟨o, es, ep, base_of e (noA e (.inr ⟨es, ep, d⟩)), d, r⟩
    have hKb : K.In (hidT s₁.heap H) := fun b o e => base_of (KX b o e) (by
      cases q : H b with
      | none => rfl
      | some u =>
        have e' : b = a := hA b (by rw [q]; simp)
        subst e'
        rw [hK (by rw [q]; simp)] at e; cases e)
    have hM : Mod K mg (hidT s₁.heap H) := ⟨hKb, nsK hns, ⟨mb, nsK hb, hbb⟩, let ⟨mc, h1, h2⟩ := hlim; ⟨mc, nsK h1, h2⟩⟩
    have hS : ∃ o, (hidT s₁.heap H).get? sysModules = some o ∧ o.cls = .type "dict" := by
      obtain ⟨o, e, c⟩ := hsys
      exact ⟨o, base_of e (noA e (.inl (by rw [c]; intro z; exact absurd (Value.type.inj z) (by decide)))), c⟩
    have e0 : Env0 P w K mg (hidT s₁.heap H) callerA [] s₁ H := ⟨rfl, hM, fun b o e => of_hidT e, Nat.le_of_eq (hidT_size _ _), trivial, fun b hb => absurd (show b ∈ ([] : List Addr) from hb) (by simp), hok, .of_eq hg⟩
    refine codeAny_mono ((F _ hKb (nsK hns) hS).run callerA [] s₁ H ⟨[.ref a], []⟩ [.ref a] [.ref a] (fun v _ => v = .bl true) (fun _ _ _ => False) hr rfl e0 (hbind s₁ (.ref a)) (.cons rfl .nil) ⟨rfl, [d], M, _, .cons dd .nil, p3, hsp M d hscr, fun d' M' v' H' _ _ dv e => ?_⟩) fun r s' h => ?_
    · subst e
      exact dv.bl_inv
    cases r with
    | error e => exact False.elim h
    | ok fl =>
      cases fl with
      | next => exact False.elim h
      | brk => exact False.elim h
      | cont => exact False.elim h
      | ret u =>
        obtain ⟨v, H', os, bare, un, hok', r', q⟩ := h
        have q' : v = .bl true := q
        subst q'
        obtain rfl : u = Value.bool true := r'
        refine ⟨rfl, OldK.of_keep fun b o e => ?_, os, bare⟩
        cases q : H b with
        | none => exact un.keep b o e q (by intro z; exact absurd (show b ∈ ([] : List Addr) from z) (by simp)) (by simp)
        | some u =>
          rcases hO b with z | ⟨ob, xs, z⟩
          · rw [q] at z; cases z
          · have z2 := un.frzs b ob _ z
            obtain ⟨e1, _⟩ := hok b _ z
            obtain ⟨e2, _⟩ := hok' b _ z2
            rw [e] at e1; cases e1
            exact e2
  cases hk : K.lookup a with
  | some o =>
    have e := KX a o hk
    rw [ha] at e
    cases e
    refine core (fun _ => none) (fun _ => none) (.sl ns) (fun b o h => by cases h) (.sl (.inr ⟨_, vs.toArray, _, hk, rfl, rfl, rfl, by rw [List.size_toArray, lenV]; exact hl, by simpa using rv⟩)) .sl (fun _ => .inl rfl) (fun b u z => by have z' : (none : Option HO) = some u := z; cases z') (fun b z => absurd rfl z) fun z => absurd rfl z
  | none =>
    refine core (fun b => if b = a then some (.frz { cls := .type "list", data := .seq vs.toArray } (.lst (ns.map V.int))) else none) (fun b => if b = a then some (.ro (ns.map D.int)) else none) (.ref a) (fun b o h => ?_) (.ref a) (.ro (if_pos rfl)) (fun b => ?_) (fun b u z => ?_) (fun b z => ?_) fun _ => hk
    · by_cases hb : b = a
      · have h' := (if_pos hb).symm.trans h
        cases h'
        exact ⟨_, ns.map V.int, if_pos hb, Dens.ints ns⟩
      · have h' := (if_neg hb).symm.trans h
        cases h'
    · by_cases hb : b = a
      · exact .inr ⟨_, _, if_pos hb⟩
      · exact .inl (if_neg hb)
    · by_cases hb : b = a
      · have z' := (if_pos hb).symm.trans z
        cases z'
        subst hb
        exact ⟨ha, by rw [List.length_map]; exact hl, vs, _, rv, ha⟩
      · have z' := (if_neg hb).symm.trans z
        cases z'
    · by_cases hb : b = a
      · exact hb
      · exact absurd (if_neg hb) z
end L3

set_option Elab.async false
set_option linter.all false
set_option maxRecDepth 100000
set_option maxHeartbeats 4000000
/-! D1: the text of k23 as small trees. -/
namespace L3
open PySem PySem.Spec PyProof.Rows L2
def top (i : Nat) : Stmt := PySem.Challenge.pw_cellswide_k23_near_numbers_and_rings.main.body.getD i (.Pass ⟨0, 0, 0, 0⟩)
-- defs: 0 is_integer@7, 1 is_name@8, 2 is_new@14, 3 is_place@15, 4 is_point@16, 5 is_difference@17, 6 require_differences@18, 7 points_of@19, 8 improved@20, 9 settled@21, 10 ring_in@22, 11 ring_of@23, 12 fitted@24, 13 is_ring_of@25, 14 fitting@26, 15 is_fitting@27, 16 ring@28, 17 is_ring@29, 18 _law_keg@31, 19 _law_tap@32, 20 _law_choices@33, 21 _law_points_drawn@34, 22 _law_points_in@35, 23 _law_choice@36, 24 _law_near_numbers@37, 25 _law_drawn_walk@38, 26 _law_near_ring@39, 27 _law_is_whole@40, 28 _law_are_true@41, 29 _law_fits_due@42, 30 _law_ring_due@43, 31 _law_right@44, 32 _law_differences@45, 33 law@46
-- consts: 0 MAX_NAME@4, 1 GREATEST@5, 2 LETTERS@6, 3 MAX_DIFFERENCES@10, 4 ZERO@11, 5 NEW_MARK@12, 6 DIGITS@13
def N_is_integer : List Str := ["value"]
def P_is_integer : List Str := ["value"]
def G_is_integer : GEnv := [("GREATEST", .con 1), ("bool", .blt), ("int", .blt), ("isinstance", .blt)]
def I_is_integer : ISs := (.cons (.ret (.and2 (.isi (.var 0) "int") (.and2 (.not (.isi (.var 0) "bool")) (.chn .Lt .Lt (.neg (.glo 1)) (.var 0) (.glo 1)))))
  .nil)
def S_is_integer : Stmt := top 7
def N_is_name : List Str := ["value", "letter"]
def P_is_name : List Str := ["value"]
def G_is_name : GEnv := [("LETTERS", .con 2), ("MAX_NAME", .con 0), ("all", .blt), ("isinstance", .blt), ("len", .blt), ("str", .blt)]
def I_is_name : ISs := (.cons (.ret (.and2 (.isi (.var 0) "str") (.and2 (.chn .LtE .LtE (.int 1) (.bi .len (.cons (.var 0) .nil)) (.glo 0)) (.bi .all (.cons (.lc (.cmp .In (.var 1) (.glo 2)) (.one 1) (.of (.var 0)) .no [1]) .nil)))))
  .nil)
def S_is_name : Stmt := top 8
def N_is_new : List Str := ["value", "digit"]
def P_is_new : List Str := ["value"]
def G_is_new : GEnv := [("DIGITS", .con 6), ("NEW_MARK", .con 5), ("all", .blt), ("isinstance", .blt), ("len", .blt), ("str", .blt)]
def I_is_new : ISs := (.cons (.iff (.or2 (.not (.isi (.var 0) "str")) (.or2 (.cmp .Lt (.bi .len (.cons (.var 0) .nil)) (.int 2)) (.or2 (.cmp .NotEq (.sub (.var 0) (.int 0)) (.glo 5)) (.cmp .Eq (.sub (.var 0) (.int 1)) (.str "0"))))) (.cons (.ret (.bl false))
  .nil) .nil)
  (.cons (.ret (.bi .all (.cons (.lc (.cmp .In (.var 1) (.glo 6)) (.one 1) (.of (.slc (.var 0) (.yes (.int 1)) .no)) .no [1]) .nil)))
  .nil))
def S_is_new : Stmt := top 14
def N_is_place : List Str := ["value"]
def P_is_place : List Str := ["value"]
def G_is_place : GEnv := [("ZERO", .con 4), ("is_name", .fn 1), ("is_new", .fn 2), ("isinstance", .blt), ("str", .blt)]
def I_is_place : ISs := (.cons (.ret (.and2 (.isi (.var 0) "str") (.or2 (.cmp .Eq (.var 0) (.glo 4)) (.or2 (.call 1 (.cons (.var 0) .nil)) (.call 2 (.cons (.var 0) .nil))))))
  .nil)
def S_is_place : Stmt := top 15
def N_is_point : List Str := ["value"]
def P_is_point : List Str := ["value"]
def G_is_point : GEnv := [("is_integer", .fn 0), ("is_name", .fn 1), ("is_place", .fn 3), ("isinstance", .blt), ("len", .blt), ("tuple", .blt)]
def I_is_point : ISs := (.cons (.iff (.not (.isi (.var 0) "tuple")) (.cons (.ret (.call 3 (.cons (.var 0) .nil)))
  .nil) .nil)
  (.cons (.ret (.and2 (.cmp .Eq (.bi .len (.cons (.var 0) .nil)) (.int 3)) (.and2 (.call 1 (.cons (.sub (.var 0) (.int 0)) .nil)) (.and2 (.call 3 (.cons (.sub (.var 0) (.int 1)) .nil)) (.call 0 (.cons (.sub (.var 0) (.int 2)) .nil))))))
  .nil))
def S_is_point : Stmt := top 16
def N_is_difference : List Str := ["value"]
def P_is_difference : List Str := ["value"]
def G_is_difference : GEnv := [("is_integer", .fn 0), ("is_point", .fn 4), ("isinstance", .blt), ("len", .blt), ("tuple", .blt)]
def I_is_difference : ISs := (.cons (.iff (.or2 (.not (.isi (.var 0) "tuple")) (.cmp .NotEq (.bi .len (.cons (.var 0) .nil)) (.int 3))) (.cons (.ret (.bl false))
  .nil) .nil)
  (.cons (.ret (.and2 (.call 4 (.cons (.sub (.var 0) (.int 0)) .nil)) (.and2 (.call 4 (.cons (.sub (.var 0) (.int 1)) .nil)) (.call 0 (.cons (.sub (.var 0) (.int 2)) .nil)))))
  .nil))
def S_is_difference : Stmt := top 17
def N_require_differences : List Str := ["value", "row"]
def P_require_differences : List Str := ["value"]
def G_require_differences : GEnv := [("MAX_DIFFERENCES", .con 3), ("all", .blt), ("is_difference", .fn 5), ("isinstance", .blt), ("len", .blt), ("tuple", .blt)]
def I_require_differences : ISs := (.cons (.iff (.or2 (.not (.isi (.var 0) "tuple")) (.or2 (.cmp .Gt (.bi .len (.cons (.var 0) .nil)) (.glo 3)) (.not (.bi .all (.cons (.lc (.call 5 (.cons (.var 1) .nil)) (.one 1) (.of (.var 0)) .no [1]) .nil))))) (.cons .never
  .nil) .nil)
  .nil)
def S_require_differences : Stmt := top 18
def N_points_of : List Str := ["differences", "found", "names", "one", "other", "number", "point"]
def P_points_of : List Str := ["differences"]
def G_points_of : GEnv := [("ZERO", .con 4), ("isinstance", .blt), ("sorted", .blt), ("str", .blt), ("tuple", .blt)]
def I_points_of : ISs := (.cons (.asg (.one 1) (.dct (.cons (.glo 4) (.cons (.bl true) .nil))))
  (.cons (.loop (.many [3, 4, 5]) (.of (.var 0)) (.cons (.put (.var 1) (.var 3) (.bl true))
  (.cons (.put (.var 1) (.var 4) (.bl true))
  .nil)))
  (.cons (.asg (.one 2) (.bi .sorted (.cons (.lc (.var 6) (.one 6) (.dvar 1) (.yes (.isi (.var 6) "str")) [6]) .nil)))
  (.cons (.ret (.bin .Add (.var 2) (.bi .sorted (.cons (.lc (.var 6) (.one 6) (.dvar 1) (.yes (.isi (.var 6) "tuple")) [6]) .nil))))
  .nil))))
def S_points_of : Stmt := top 19
def N_improved : List Str := ["differences", "numbers", "steps", "is_changed", "index", "row", "one", "other", "number"]
def P_improved : List Str := ["differences", "numbers", "steps"]
def G_improved : GEnv := [("enumerate", .blt)]
def I_improved : ISs := (.cons (.asg (.one 3) (.bl false))
  (.cons (.loop (.many [4, 5]) (.enum (.var 0)) (.cons (.asg (.many [6, 7, 8]) (.var 5))
  (.cons (.iff (.and2 (.cmp .In (.var 7) (.var 1)) (.or2 (.cmp .NotIn (.var 6) (.var 1)) (.cmp .Lt (.bin .Add (.sub (.var 1) (.var 7)) (.var 8)) (.sub (.var 1) (.var 6))))) (.cons (.put (.var 1) (.var 6) (.bin .Add (.sub (.var 1) (.var 7)) (.var 8)))
  (.cons (.put (.var 2) (.var 6) (.var 4))
  (.cons (.asg (.one 3) (.bl true))
  .nil))) .nil)
  .nil)))
  (.cons (.ret (.var 3))
  .nil)))
def S_improved : Stmt := top 20
def N_settled : List Str := ["differences", "numbers", "turn", "steps", "points"]
def P_settled : List Str := ["differences", "numbers"]
def G_settled : GEnv := [("improved", .fn 8), ("len", .blt), ("points_of", .fn 7), ("range", .blt)]
def I_settled : ISs := (.cons (.asg (.many [3, 4]) (.tup (.cons (.dct .nil) (.cons (.call 7 (.cons (.var 0) .nil)) .nil))))
  (.cons (.loop (.one 2) (.range1 (.bin .Add (.bin .Add (.bi .len (.cons (.var 4) .nil)) (.bi .len (.cons (.var 1) .nil))) (.int 1))) (.cons (.iff (.not (.call 8 (.cons (.var 0) (.cons (.var 1) (.cons (.var 3) .nil))))) (.cons (.ret (.tup (.cons (.var 3) (.cons (.bl false) .nil))))
  .nil) .nil)
  .nil))
  (.cons (.ret (.tup (.cons (.var 3) (.cons (.bl true) .nil))))
  .nil)))
def S_settled : Stmt := top 21
def N_ring_in : List Str := ["differences", "steps", "point", "start", "found", "here", "seen"]
def P_ring_in : List Str := ["differences", "steps"]
def G_ring_in : GEnv := [("iter", .blt), ("len", .blt), ("next", .blt), ("tuple", .blt)]
def I_ring_in : ISs := (.cons (.asg (.one 2) (.bi .nextIter (.cons (.var 1) .nil)))
  (.cons (.loop (.one 3) (.dvar 1) (.cons (.asg (.many [6, 2]) (.tup (.cons (.dct .nil) (.cons (.var 3) .nil))))
  (.cons (.whl (.and2 (.cmp .In (.var 2) (.var 1)) (.cmp .NotIn (.var 2) (.var 6))) (.cons (.put (.var 6) (.var 2) (.bl true))
  (.cons (.asg (.one 2) (.sub (.sub (.var 0) (.sub (.var 1) (.var 2))) (.int 1)))
  .nil)))
  (.cons (.iff (.cmp .In (.var 2) (.var 6)) (.cons .brk
  .nil) .nil)
  .nil))))
  (.cons (.asg (.many [4, 5]) (.tup (.cons (.lst .nil) (.cons (.var 2) .nil))))
  (.cons (.whl (.or2 (.cmp .Eq (.bi .len (.cons (.var 4) .nil)) (.int 0)) (.cmp .NotEq (.var 5) (.var 2))) (.cons (.exp (.meth .append (.var 4) (.cons (.sub (.var 1) (.var 5)) .nil)))
  (.cons (.asg (.one 5) (.sub (.sub (.var 0) (.sub (.var 1) (.var 5))) (.int 1)))
  .nil)))
  (.cons (.ret (.bi .tuple (.cons (.var 4) .nil)))
  .nil)))))
def S_ring_in : Stmt := top 22
def N_ring_of : List Str := ["differences", "steps", "has_ring", "point"]
def P_ring_of : List Str := ["differences"]
def G_ring_of : GEnv := [("points_of", .fn 7), ("ring_in", .fn 10), ("settled", .fn 9)]
def I_ring_of : ISs := (.cons (.asg (.many [1, 2]) (.call 9 (.cons (.var 0) (.cons (.dc (.var 3) (.int 0) (.one 3) (.of (.call 7 (.cons (.var 0) .nil))) .no [3]) .nil))))
  (.cons (.ret (.ite (.var 2) (.call 10 (.cons (.var 0) (.cons (.var 1) .nil))) .non))
  .nil))
def S_ring_of : Stmt := top 23
def N_fitted : List Str := ["differences", "points", "numbers", "point"]
def P_fitted : List Str := ["differences"]
def G_fitted : GEnv := [("ZERO", .con 4), ("points_of", .fn 7), ("settled", .fn 9)]
def I_fitted : ISs := (.cons (.asg (.one 1) (.call 7 (.cons (.var 0) .nil)))
  (.cons (.asg (.one 2) (.dc (.var 3) (.int 0) (.one 3) (.of (.var 1)) .no [3]))
  (.cons (.iff (.sub (.call 9 (.cons (.var 0) (.cons (.var 2) .nil))) (.int 1)) (.cons (.ret .non)
  .nil) .nil)
  (.cons (.ret (.dc (.var 3) (.bin .Sub (.sub (.var 2) (.var 3)) (.sub (.var 2) (.glo 4))) (.one 3) (.of (.var 1)) .no [3]))
  .nil))))
def S_fitted : Stmt := top 24
def N_is_ring_of : List Str := ["differences", "value", "rows", "index", "at", "row", "one", "other", "number"]
def P_is_ring_of : List Str := ["differences", "value"]
def G_is_ring_of : GEnv := [("all", .blt), ("enumerate", .blt), ("is_integer", .fn 0), ("isinstance", .blt), ("len", .blt), ("sum", .blt), ("tuple", .blt)]
def I_is_ring_of : ISs := (.cons (.iff (.or2 (.not (.isi (.var 1) "tuple")) (.cmp .Eq (.bi .len (.cons (.var 1) .nil)) (.int 0))) (.cons (.ret (.bl false))
  .nil) .nil)
  (.cons (.iff (.not (.bi .all (.cons (.lc (.and2 (.call 0 (.cons (.var 3) .nil)) (.chn .LtE .Lt (.int 0) (.var 3) (.bi .len (.cons (.var 0) .nil)))) (.one 3) (.of (.var 1)) .no [3]) .nil))) (.cons (.ret (.bl false))
  .nil) .nil)
  (.cons (.asg (.one 2) (.lc (.sub (.var 0) (.var 3)) (.one 3) (.of (.var 1)) .no [3]))
  (.cons (.iff (.not (.bi .all (.cons (.lc (.cmp .Eq (.sub (.var 5) (.int 1)) (.sub (.sub (.var 2) (.bin .Mod (.bin .Add (.var 4) (.int 1)) (.bi .len (.cons (.var 2) .nil)))) (.int 0))) (.many [4, 5]) (.enum (.var 2)) .no [4, 5]) .nil))) (.cons (.ret (.bl false))
  .nil) .nil)
  (.cons (.ret (.cmp .Lt (.bi .sum (.cons (.lc (.var 8) (.many [6, 7, 8]) (.of (.var 2)) .no [6, 7, 8]) .nil)) (.int 0)))
  .nil)))))
def S_is_ring_of : Stmt := top 25
def N_fitting : List Str := ["differences"]
def P_fitting : List Str := ["differences"]
def G_fitting : GEnv := [("fitted", .fn 12), ("require_differences", .fn 6)]
def I_fitting : ISs := (.cons (.exp (.call 6 (.cons (.var 0) .nil)))
  (.cons (.ret (.call 12 (.cons (.var 0) .nil)))
  .nil))
def S_fitting : Stmt := top 26
def N_is_fitting : List Str := ["differences", "value", "points", "point", "one", "other", "number", "key"]
def P_is_fitting : List Str := ["differences", "value"]
def G_is_fitting : GEnv := [("ZERO", .con 4), ("all", .blt), ("dict", .blt), ("is_integer", .fn 0), ("is_point", .fn 4), ("isinstance", .blt), ("len", .blt), ("points_of", .fn 7), ("require_differences", .fn 6)]
def I_is_fitting : ISs := (.cons (.exp (.call 6 (.cons (.var 0) .nil)))
  (.cons (.asg (.one 2) (.call 7 (.cons (.var 0) .nil)))
  (.cons (.iff (.or2 (.not (.isi (.var 1) "dict")) (.or2 (.cmp .NotEq (.bi .len (.cons (.var 1) .nil)) (.bi .len (.cons (.var 2) .nil))) (.not (.bi .all (.cons (.lc (.call 4 (.cons (.var 7) .nil)) (.one 7) (.dvar 1) .no [7]) .nil))))) (.cons (.ret (.bl false))
  .nil) .nil)
  (.cons (.iff (.not (.bi .all (.cons (.lc (.cmp .In (.var 3) (.var 1)) (.one 3) (.of (.var 2)) .no [3]) .nil))) (.cons (.ret (.bl false))
  .nil) .nil)
  (.cons (.iff (.or2 (.not (.bi .all (.cons (.lc (.call 0 (.cons (.sub (.var 1) (.var 3)) .nil)) (.one 3) (.of (.var 2)) .no [3]) .nil))) (.cmp .NotEq (.sub (.var 1) (.glo 4)) (.int 0))) (.cons (.ret (.bl false))
  .nil) .nil)
  (.cons (.ret (.bi .all (.cons (.lc (.cmp .LtE (.bin .Sub (.sub (.var 1) (.var 4)) (.sub (.var 1) (.var 5))) (.var 6)) (.many [4, 5, 6]) (.of (.var 0)) .no [4, 5, 6]) .nil)))
  .nil))))))
def S_is_fitting : Stmt := top 27
def N_ring : List Str := ["differences"]
def P_ring : List Str := ["differences"]
def G_ring : GEnv := [("require_differences", .fn 6), ("ring_of", .fn 11)]
def I_ring : ISs := (.cons (.exp (.call 6 (.cons (.var 0) .nil)))
  (.cons (.ret (.call 11 (.cons (.var 0) .nil)))
  .nil))
def S_ring : Stmt := top 28
def N_is_ring : List Str := ["differences", "value"]
def P_is_ring : List Str := ["differences", "value"]
def G_is_ring : GEnv := [("is_ring_of", .fn 13), ("require_differences", .fn 6)]
def I_is_ring : ISs := (.cons (.exp (.call 6 (.cons (.var 0) .nil)))
  (.cons (.ret (.call 13 (.cons (.var 0) (.cons (.var 1) .nil))))
  .nil))
def S_is_ring : Stmt := top 29
def N_law_keg : List Str := ["script", "at", "cell", "great", "seed"]
def P_law_keg : List Str := ["script", "at"]
def G_law_keg : GEnv := [("abs", .blt), ("int", .blt), ("len", .blt)]
def I_law_keg : ISs := (.cons (.asg (.one 2) (.ite (.cmp .Lt (.var 1) (.bi .len (.cons (.var 0) .nil))) (.sub (.var 0) (.var 1)) (.bin .Add (.bin .Mult (.int 61) (.var 1)) (.int 37))))
  (.cons (.asg (.one 3) (.bin .Mod (.bi .int (.cons (.bi .abs (.cons (.var 2) .nil)) .nil)) (.bin .Pow (.bin .Pow (.int 10) (.int 60)) (.int 8))))
  (.cons (.asg (.one 4) (.bin .Mod (.bi .int (.cons (.bin .Add (.bin .Add (.bin .Add (.var 3) (.bin .Mult (.int 6700417) (.var 1))) (.bin .Mult (.int 67867967) (.bi .int (.cons (.cmp .Lt (.var 2) (.int 0)) .nil)))) (.int 7)) .nil)) (.bin .Add (.bin .Pow (.int 10) (.int 18)) (.int 9))))
  (.cons (.ret (.lst (.cons (.ite (.cmp .Gt (.var 3) (.bin .Pow (.int 10) (.int 18))) (.bin .Sub (.var 3) (.bin .Pow (.int 10) (.int 18))) (.int 0)) (.cons (.var 4) (.cons (.int 0) .nil)))))
  .nil))))
def S_law_keg : Stmt := top 31
def N_law_tap : List Str := ["keg", "total", "one", "two", "three", "found"]
def P_law_tap : List Str := ["keg", "total"]
def G_law_tap : GEnv := [("int", .blt)]
def I_law_tap : ISs := (.cons (.iff (.cmp .Gt (.sub (.var 0) (.int 0)) (.int 0)) (.cons (.asg (.one 5) (.bin .Mod (.bi .int (.cons (.sub (.var 0) (.int 0)) .nil)) (.var 1)))
  (.cons (.put (.var 0) (.int 0) (.bin .FloorDiv (.sub (.var 0) (.int 0)) (.var 1)))
  (.cons (.ret (.var 5))
  .nil))) .nil)
  (.cons (.put (.var 0) (.int 2) (.bin .Add (.sub (.var 0) (.int 2)) (.int 1)))
  (.cons (.asg (.one 2) (.bin .Mod (.bi .int (.cons (.bin .Add (.sub (.var 0) (.int 1)) (.bin .Mult (.int 1181783497) (.sub (.var 0) (.int 2)))) .nil)) (.int 2147483587)))
  (.cons (.asg (.one 3) (.bin .Mod (.bi .int (.cons (.bin .Add (.bin .Add (.bin .Mult (.var 2) (.var 2)) (.bin .FloorDiv (.sub (.var 0) (.int 1)) (.int 1000003))) (.bin .Mult (.int 7207) (.sub (.var 0) (.int 2)))) .nil)) (.int 1000000009)))
  (.cons (.asg (.one 4) (.bin .Mod (.bi .int (.cons (.bin .Add (.bin .Mult (.var 3) (.var 3)) (.var 2)) .nil)) (.int 999999937)))
  (.cons (.ret (.bin .Mod (.bi .int (.cons (.bin .FloorDiv (.var 4) (.int 64)) .nil)) (.var 1)))
  .nil))))))
def S_law_tap : Stmt := top 32
def N_law_choices : List Str := ["keg", "items", "count", "turn", "left", "found"]
def P_law_choices : List Str := ["keg", "items", "count"]
def G_law_choices : GEnv := [("_law_tap", .fn 19), ("len", .blt), ("list", .blt), ("min", .blt), ("range", .blt)]
def I_law_choices : ISs := (.cons (.asg (.many [4, 5]) (.tup (.cons (.bi .list (.cons (.var 1) .nil)) (.cons (.lst .nil) .nil))))
  (.cons (.loop (.one 3) (.range1 (.bi .min (.cons (.var 2) (.cons (.bi .len (.cons (.var 1) .nil)) .nil)))) (.cons (.exp (.meth .append (.var 5) (.cons (.meth .pop (.var 4) (.cons (.call 19 (.cons (.var 0) (.cons (.bi .len (.cons (.var 4) .nil)) .nil))) .nil)) .nil)))
  .nil))
  (.cons (.ret (.var 5))
  .nil)))
def S_law_choices : Stmt := top 33
def N_law_points_drawn : List Str := ["keg", "count", "some"]
def P_law_points_drawn : List Str := ["keg", "count"]
def G_law_points_drawn : GEnv := [("_law_choices", .fn 20)]
def I_law_points_drawn : ISs := (.cons (.asg (.one 2) (.lst (.cons (.str "i") (.cons (.str "j") (.cons (.str "n") (.cons (.str "x") (.cons (.str "*1") (.cons (.str "*2") (.cons (.str "*10") (.cons (.tup (.cons (.str "a") (.cons (.str "i") (.cons (.int 0) .nil)))) (.cons (.tup (.cons (.str "a") (.cons (.str "i") (.cons (.int 1) .nil)))) (.cons (.tup (.cons (.str "a") (.cons (.str "") (.cons (.neg (.int 3)) .nil)))) .nil))))))))))))
  (.cons (.asg (.one 2) (.bin .Add (.var 2) (.lst (.cons (.tup (.cons (.str "b") (.cons (.str "*1") (.cons (.int 0) .nil)))) (.cons (.tup (.cons (.str "a") (.cons (.str "j") (.cons (.int 0) .nil)))) .nil)))))
  (.cons (.ret (.bin .Add (.lst (.cons (.str "") .nil)) (.call 20 (.cons (.var 0) (.cons (.var 2) (.cons (.var 1) .nil))))))
  .nil)))
def S_law_points_drawn : Stmt := top 34
def N_law_points_in : List Str := ["differences", "found", "row", "names", "point"]
def P_law_points_in : List Str := ["differences"]
def G_law_points_in : GEnv := [("int", .blt), ("isinstance", .blt), ("sorted", .blt), ("str", .blt)]
def I_law_points_in : ISs := (.cons (.asg (.one 1) (.lst (.cons (.str "") .nil)))
  (.cons (.loop (.one 2) (.of (.var 0)) (.cons (.loop (.one 4) (.of (.slc (.var 2) .no (.yes (.int 2)))) (.cons (.asg (.one 1) (.bin .Add (.var 1) (.bin .Mult (.lst (.cons (.var 4) .nil)) (.bi .int (.cons (.cmp .NotIn (.var 4) (.var 1)) .nil)))))
  .nil))
  .nil))
  (.cons (.asg (.one 3) (.bi .sorted (.cons (.lc (.var 4) (.one 4) (.of (.var 1)) (.yes (.isi (.var 4) "str")) [4]) .nil)))
  (.cons (.ret (.bin .Add (.var 3) (.bi .sorted (.cons (.lc (.var 4) (.one 4) (.of (.var 1)) (.yes (.not (.isi (.var 4) "str"))) [4]) .nil))))
  .nil))))
def S_law_points_in : Stmt := top 35
def N_law_choice : List Str := ["keg", "items"]
def P_law_choice : List Str := ["keg", "items"]
def G_law_choice : GEnv := [("_law_tap", .fn 19), ("len", .blt)]
def I_law_choice : ISs := (.cons (.ret (.sub (.var 1) (.call 19 (.cons (.var 0) (.cons (.bi .len (.cons (.var 1) .nil)) .nil)))))
  .nil)
def S_law_choice : Stmt := top 36
def N_law_near_numbers : List Str := ["keg", "differences", "numbers", "old", "odd", "some", "rows", "point", "way", "row", "one", "number"]
def P_law_near_numbers : List Str := ["keg", "differences", "numbers"]
def G_law_near_numbers : GEnv := [("_law_choice", .fn 23), ("_law_points_in", .fn 22), ("_law_tap", .fn 19), ("dict", .blt), ("list", .blt), ("sorted", .blt)]
def I_law_near_numbers : ISs := (.cons (.asg (.many [6, 7]) (.tup (.cons (.bi .items (.cons (.var 2) .nil)) (.cons (.call 23 (.cons (.var 0) (.cons (.bin .Add (.bi .sorted (.cons (.slc (.call 22 (.cons (.var 1) .nil)) .no (.yes (.int 1))) .nil)) (.lst (.cons (.str "i") (.cons (.str "q") .nil)))) .nil))) .nil))))
  (.cons (.asg (.many [7, 8]) (.tup (.cons (.call 23 (.cons (.var 0) (.cons (.bin .Add (.lst (.cons (.var 7) .nil)) (.lc (.sub (.var 9) (.int 0)) (.one 9) (.of (.var 6)) .no [9])) .nil))) (.cons (.call 19 (.cons (.var 0) (.cons (.int 8) .nil))) .nil))))
  (.cons (.asg (.one 3) (.meth .get (.var 2) (.cons (.var 7) (.cons (.int 0) .nil))))
  (.cons (.iff (.cmp .Lt (.var 8) (.int 3)) (.cons (.ret (.bi .dict (.cons (.bin .Add (.var 6) (.lst (.cons (.tup (.cons (.var 7) (.cons (.bin .Add (.var 3) (.call 23 (.cons (.var 0) (.cons (.lst (.cons (.int 1) (.cons (.neg (.int 1)) (.cons (.int 3) (.cons (.bin .Sub (.int 0) (.bin .Pow (.int 10) (.int 40))) .nil))))) .nil)))) .nil))) .nil))) .nil)))
  .nil) .nil)
  (.cons (.iff (.cmp .Eq (.var 8) (.int 3)) (.cons (.ret (.bi .dict (.cons (.lc (.tup (.cons (.var 10) (.cons (.bin .Add (.var 11) (.call 19 (.cons (.var 0) (.cons (.int 2) .nil)))) .nil))) (.many [10, 11]) (.of (.var 6)) .no [10, 11]) .nil)))
  .nil) .nil)
  (.cons (.iff (.cmp .Eq (.var 8) (.int 4)) (.cons (.ret (.bi .dict (.cons (.rev (.var 6)) .nil)))
  .nil) .nil)
  (.cons (.asg (.one 4) (.lst (.cons .non (.cons (.bl true) (.cons (.str "0") (.cons (.lst .nil) (.cons (.tup (.cons (.int 0) .nil)) (.cons (.bl false) (.cons (.str "") (.cons (.dct .nil) .nil))))))))))
  (.cons (.asg (.one 5) (.lst (.cons (.bi .dict (.cons (.bin .Add (.var 6) (.lst (.cons (.tup (.cons (.var 7) (.cons (.call 23 (.cons (.var 0) (.cons (.var 4) .nil))) .nil))) .nil))) .nil)) (.cons (.bi .dict (.cons (.slc (.var 6) (.yes (.int 1)) .no) .nil)) (.cons (.var 6) (.cons .non (.cons (.tup .nil) (.cons (.dct .nil) (.cons (.int 0) (.cons (.str "numbers") .nil))))))))))
  (.cons (.asg (.one 5) (.bin .Add (.var 5) (.lst (.cons (.bi .dict (.cons (.bin .Add (.var 6) (.lst (.cons (.tup (.cons (.str "zz") (.cons (.int 0) .nil))) .nil))) .nil)) (.cons (.bi .dict (.cons (.bin .Add (.var 6) (.lst (.cons (.tup (.cons (.tup (.cons (.str "a") (.cons (.str "i") (.cons (.int 5) .nil)))) (.cons (.int 0) .nil))) .nil))) .nil)) (.cons (.bi .dict (.cons (.bin .Add (.var 6) (.lst (.cons (.tup (.cons (.str "") (.cons (.bl false) .nil))) .nil))) .nil)) .nil))))))
  (.cons (.ret (.call 23 (.cons (.var 0) (.cons (.var 5) .nil))))
  .nil))))))))))
def S_law_near_numbers : Stmt := top 37
def N_law_drawn_walk : List Str := ["keg", "differences", "found", "turn", "some", "at"]
def P_law_drawn_walk : List Str := ["keg", "differences"]
def G_law_drawn_walk : GEnv := [("_law_choice", .fn 23), ("_law_tap", .fn 19), ("len", .blt), ("range", .blt), ("tuple", .blt)]
def I_law_drawn_walk : ISs := (.cons (.iff (.cmp .Eq (.var 1) (.tup .nil)) (.cons (.ret (.tup .nil))
  .nil) .nil)
  (.cons (.asg (.one 2) (.lst (.cons (.call 19 (.cons (.var 0) (.cons (.bi .len (.cons (.var 1) .nil)) .nil))) .nil)))
  (.cons (.loop (.one 3) (.range1 (.call 19 (.cons (.var 0) (.cons (.int 6) .nil)))) (.cons (.asg (.one 4) (.lc (.var 5) (.one 5) (.range1 (.bi .len (.cons (.var 1) .nil))) (.yes (.cmp .Eq (.sub (.sub (.var 1) (.var 5)) (.int 0)) (.sub (.sub (.var 1) (.sub (.var 2) (.neg (.int 1)))) (.int 1)))) [5]))
  (.cons (.asg (.one 2) (.bin .Add (.var 2) (.ite (.cmp .NotEq (.var 4) (.lst .nil)) (.lst (.cons (.call 23 (.cons (.var 0) (.cons (.var 4) .nil))) .nil)) (.lst .nil))))
  .nil)))
  (.cons (.ret (.bi .tuple (.cons (.var 2) .nil)))
  .nil))))
def S_law_drawn_walk : Stmt := top 38
def N_law_near_ring : List Str := ["keg", "differences", "found", "some", "row", "many", "at", "way", "one"]
def P_law_near_ring : List Str := ["keg", "differences", "found"]
def G_law_near_ring : GEnv := [("_law_choice", .fn 23), ("_law_tap", .fn 19), ("bool", .blt), ("len", .blt), ("list", .blt), ("str", .blt), ("tuple", .blt)]
def I_law_near_ring : ISs := (.cons (.asg (.many [4, 5]) (.tup (.cons (.bi .list (.cons (.var 2) .nil)) (.cons (.bi .len (.cons (.var 1) .nil)) .nil))))
  (.cons (.asg (.many [6, 7]) (.tup (.cons (.call 19 (.cons (.var 0) (.cons (.bin .Add (.bi .len (.cons (.var 4) .nil)) (.int 1)) .nil))) (.cons (.call 19 (.cons (.var 0) (.cons (.int 9) .nil))) .nil))))
  (.cons (.iff (.cmp .Eq (.var 7) (.int 0)) (.cons (.ret (.bi .tuple (.cons (.bin .Add (.slc (.var 4) (.yes (.var 6)) .no) (.slc (.var 4) .no (.yes (.var 6)))) .nil)))
  .nil) .nil)
  (.cons (.iff (.cmp .Eq (.var 7) (.int 1)) (.cons (.ret (.bi .tuple (.cons (.bin .Add (.var 4) (.var 4)) .nil)))
  .nil) .nil)
  (.cons (.iff (.cmp .Eq (.var 7) (.int 2)) (.cons (.ret (.bi .tuple (.cons (.rev (.var 4)) .nil)))
  .nil) .nil)
  (.cons (.iff (.cmp .Eq (.var 7) (.int 3)) (.cons (.ret (.bi .tuple (.cons (.bin .Add (.slc (.var 4) .no (.yes (.var 6))) (.slc (.var 4) (.yes (.bin .Add (.var 6) (.int 1))) .no)) .nil)))
  .nil) .nil)
  (.cons (.iff (.and2 (.cmp .Lt (.var 7) (.int 6)) (.cmp .Gt (.var 5) (.int 0))) (.cons (.ret (.bi .tuple (.cons (.bin .Add (.bin .Add (.slc (.var 4) .no (.yes (.var 6))) (.lst (.cons (.call 19 (.cons (.var 0) (.cons (.var 5) .nil))) .nil))) (.slc (.var 4) (.yes (.bin .Sub (.bin .Add (.var 6) (.var 7)) (.int 4))) .no)) .nil)))
  .nil) .nil)
  (.cons (.asg (.one 3) (.lst (.cons (.var 4) (.cons .non (.cons (.tup .nil) (.cons (.dct .nil) (.cons (.int 0) (.cons (.str "ring") (.cons (.bi .tuple (.cons (.bin .Add (.var 4) (.lst (.cons (.var 5) .nil))) .nil)) (.cons (.bi .tuple (.cons (.bin .Add (.var 4) (.lst (.cons (.neg (.int 1)) .nil))) .nil)) (.cons (.bi .tuple (.cons (.lc (.bin .Sub (.var 8) (.var 5)) (.one 8) (.of (.var 4)) .no [8]) .nil)) .nil)))))))))))
  (.cons (.asg (.one 3) (.bin .Add (.var 3) (.lst (.cons (.bi .tuple (.cons (.lc (.ite (.cmp .Lt (.var 8) (.int 2)) (.bi .bool (.cons (.var 8) .nil)) (.var 8)) (.one 8) (.of (.var 4)) .no [8]) .nil)) (.cons (.bi .tuple (.cons (.lc (.bi .str (.cons (.var 8) .nil)) (.one 8) (.of (.var 4)) .no [8]) .nil)) .nil)))))
  (.cons (.exp (.meth .append (.var 3) (.cons (.tup (.cons (.bi .tuple (.cons (.var 4) .nil)) .nil)) .nil)))
  (.cons (.ret (.call 23 (.cons (.var 0) (.cons (.bin .Add (.var 3) (.lst (.cons (.bi .tuple (.cons (.bin .Add (.var 4) (.lst (.cons .non .nil))) .nil)) (.cons (.bin .Mult (.bi .tuple (.cons (.var 4) .nil)) (.int 3)) .nil)))) .nil))))
  .nil)))))))))))
def S_law_near_ring : Stmt := top 39
def N_law_is_whole : List Str := ["value"]
def P_law_is_whole : List Str := ["value"]
def G_law_is_whole : GEnv := [("abs", .blt), ("bool", .blt), ("int", .blt), ("isinstance", .blt)]
def I_law_is_whole : ISs := (.cons (.ret (.and2 (.isi (.var 0) "int") (.and2 (.not (.isi (.var 0) "bool")) (.cmp .Lt (.bi .abs (.cons (.var 0) .nil)) (.bin .Pow (.int 10) (.int 60))))))
  .nil)
def S_law_is_whole : Stmt := top 40
def N_law_are_true : List Str := ["differences", "numbers", "row"]
def P_law_are_true : List Str := ["differences", "numbers"]
def G_law_are_true : GEnv := []
def I_law_are_true : ISs := (.cons (.ret (.cmp .Eq (.lc (.var 2) (.one 2) (.of (.var 0)) (.yes (.cmp .Gt (.bin .Sub (.sub (.var 1) (.sub (.var 2) (.int 0))) (.sub (.var 1) (.sub (.var 2) (.int 1)))) (.sub (.var 2) (.int 2)))) [2]) (.lst .nil)))
  .nil)
def S_law_are_true : Stmt := top 41
def N_law_fits_due : List Str := ["differences", "value", "points", "point"]
def P_law_fits_due : List Str := ["differences", "value"]
def G_law_fits_due : GEnv := [("_law_are_true", .fn 28), ("_law_is_whole", .fn 27), ("_law_points_in", .fn 22), ("dict", .blt), ("isinstance", .blt), ("len", .blt)]
def I_law_fits_due : ISs := (.cons (.asg (.one 2) (.call 22 (.cons (.var 0) .nil)))
  (.cons (.iff (.or2 (.not (.isi (.var 1) "dict")) (.cmp .NotEq (.bi .len (.cons (.var 1) .nil)) (.bi .len (.cons (.var 2) .nil)))) (.cons (.ret (.bl false))
  .nil) .nil)
  (.cons (.iff (.cmp .NotEq (.lc (.var 3) (.one 3) (.of (.var 2)) (.yes (.cmp .NotIn (.var 3) (.var 1))) [3]) (.lst .nil)) (.cons (.ret (.bl false))
  .nil) .nil)
  (.cons (.iff (.or2 (.cmp .NotEq (.lc (.var 3) (.one 3) (.of (.var 2)) (.yes (.not (.call 27 (.cons (.sub (.var 1) (.var 3)) .nil)))) [3]) (.lst .nil)) (.cmp .NotEq (.sub (.var 1) (.str "")) (.int 0))) (.cons (.ret (.bl false))
  .nil) .nil)
  (.cons (.ret (.call 28 (.cons (.var 0) (.cons (.var 1) .nil))))
  .nil)))))
def S_law_fits_due : Stmt := top 42
def N_law_ring_due : List Str := ["differences", "value", "one", "rows", "at", "row"]
def P_law_ring_due : List Str := ["differences", "value"]
def G_law_ring_due : GEnv := [("_law_is_whole", .fn 27), ("isinstance", .blt), ("len", .blt), ("range", .blt), ("sum", .blt), ("tuple", .blt)]
def I_law_ring_due : ISs := (.cons (.iff (.or2 (.not (.isi (.var 1) "tuple")) (.cmp .Eq (.var 1) (.tup .nil))) (.cons (.ret (.bl false))
  .nil) .nil)
  (.cons (.loop (.one 2) (.of (.var 1)) (.cons (.iff (.or2 (.not (.call 27 (.cons (.var 2) .nil))) (.or2 (.cmp .Lt (.var 2) (.int 0)) (.cmp .GtE (.var 2) (.bi .len (.cons (.var 0) .nil))))) (.cons (.ret (.bl false))
  .nil) .nil)
  .nil))
  (.cons (.asg (.one 3) (.lc (.sub (.var 0) (.var 4)) (.one 4) (.of (.var 1)) .no [4]))
  (.cons (.iff (.cmp .NotEq (.lc (.var 4) (.one 4) (.range1 (.bi .len (.cons (.var 3) .nil))) (.yes (.cmp .NotEq (.sub (.sub (.var 3) (.var 4)) (.int 1)) (.sub (.sub (.var 3) (.bin .Mod (.bin .Add (.var 4) (.int 1)) (.bi .len (.cons (.var 3) .nil)))) (.int 0)))) [4]) (.lst .nil)) (.cons (.ret (.bl false))
  .nil) .nil)
  (.cons (.ret (.cmp .Lt (.bi .sum (.cons (.lc (.sub (.var 5) (.int 2)) (.one 5) (.of (.var 3)) .no [5]) .nil)) (.int 0)))
  .nil)))))
def S_law_ring_due : Stmt := top 43
def N_law_right : List Str := ["keg", "differences", "drawn", "some", "turn", "rows", "value", "numbers", "found", "again", "due", "text", "point"]
def P_law_right : List Str := ["keg", "differences"]
def G_law_right : GEnv := [("_law_choice", .fn 23), ("_law_drawn_walk", .fn 25), ("_law_fits_due", .fn 29), ("_law_near_numbers", .fn 24), ("_law_near_ring", .fn 26), ("_law_points_in", .fn 22), ("_law_ring_due", .fn 30), ("_law_tap", .fn 19), ("dict", .blt), ("fitting", .fn 14), ("is_fitting", .fn 15), ("is_ring", .fn 17), ("range", .blt), ("repr", .blt), ("ring", .fn 16)]
def I_law_right : ISs := (.cons (.asg (.many [7, 8]) (.tup (.cons (.call 14 (.cons (.var 1) .nil)) (.cons (.call 16 (.cons (.var 1) .nil)) .nil))))
  (.cons (.asg (.one 2) (.bi .dict (.cons (.lc (.tup (.cons (.var 12) (.cons (.ite (.cmp .NotEq (.var 12) (.str "")) (.bin .Sub (.call 19 (.cons (.var 0) (.cons (.int 9) .nil))) (.int 4)) (.int 0)) .nil))) (.one 12) (.of (.call 22 (.cons (.var 1) .nil))) .no [12]) .nil)))
  (.cons (.asg (.one 3) (.lst (.cons (.ite (.cmp .Is (.var 7) .non) (.var 2) (.var 7)) (.cons (.var 2) .nil))))
  (.cons (.loop (.one 4) (.range1 (.int 8)) (.cons (.exp (.meth .append (.var 3) (.cons (.call 24 (.cons (.var 0) (.cons (.var 1) (.cons (.call 23 (.cons (.var 0) (.cons (.slc (.var 3) .no (.yes (.int 2))) .nil))) .nil)))) .nil)))
  .nil))
  (.cons (.asg (.one 5) (.lst (.cons (.ite (.cmp .Is (.var 8) .non) (.tup .nil) (.var 8)) (.cons (.call 25 (.cons (.var 0) (.cons (.var 1) .nil))) (.cons (.call 25 (.cons (.var 0) (.cons (.var 1) .nil))) .nil)))))
  (.cons (.loop (.one 4) (.range1 (.int 8)) (.cons (.exp (.meth .append (.var 5) (.cons (.call 26 (.cons (.var 0) (.cons (.var 1) (.cons (.call 23 (.cons (.var 0) (.cons (.slc (.var 5) .no (.yes (.int 3))) .nil))) .nil)))) .nil)))
  .nil))
  (.cons (.loop (.one 6) (.of (.var 3)) (.cons (.asg (.many [10, 11]) (.tup (.cons (.bi .repr (.cons (.call 29 (.cons (.var 1) (.cons (.var 6) .nil))) .nil)) (.cons (.bi .repr (.cons (.var 6) .nil)) .nil))))
  (.cons (.loop (.one 9) (.range1 (.int 2)) (.cons (.iff (.or2 (.cmp .NotEq (.bi .repr (.cons (.call 15 (.cons (.var 1) (.cons (.var 6) .nil))) .nil)) (.var 10)) (.cmp .NotEq (.bi .repr (.cons (.var 6) .nil)) (.var 11))) (.cons (.ret (.bl false))
  .nil) .nil)
  .nil))
  .nil)))
  (.cons (.loop (.one 6) (.of (.var 5)) (.cons (.asg (.many [10, 11]) (.tup (.cons (.bi .repr (.cons (.call 30 (.cons (.var 1) (.cons (.var 6) .nil))) .nil)) (.cons (.bi .repr (.cons (.var 6) .nil)) .nil))))
  (.cons (.loop (.one 9) (.range1 (.int 2)) (.cons (.iff (.or2 (.cmp .NotEq (.bi .repr (.cons (.call 17 (.cons (.var 1) (.cons (.var 6) .nil))) .nil)) (.var 10)) (.cmp .NotEq (.bi .repr (.cons (.var 6) .nil)) (.var 11))) (.cons (.ret (.bl false))
  .nil) .nil)
  .nil))
  .nil)))
  (.cons (.ret (.bl true))
  .nil)))))))))
def S_law_right : Stmt := top 44
def N_law_differences : List Str := ["keg", "points", "count", "wide", "found", "turn", "one", "other"]
def P_law_differences : List Str := ["keg", "points", "count", "wide"]
def G_law_differences : GEnv := [("_law_choice", .fn 23), ("_law_tap", .fn 19), ("range", .blt), ("tuple", .blt)]
def I_law_differences : ISs := (.cons (.asg (.one 4) (.lst .nil))
  (.cons (.loop (.one 5) (.range1 (.var 2)) (.cons (.asg (.many [6, 7]) (.tup (.cons (.call 23 (.cons (.var 0) (.cons (.var 1) .nil))) (.cons (.call 23 (.cons (.var 0) (.cons (.var 1) .nil))) .nil))))
  (.cons (.exp (.meth .append (.var 4) (.cons (.tup (.cons (.var 6) (.cons (.var 7) (.cons (.bin .Add (.bin .Sub (.call 19 (.cons (.var 0) (.cons (.bin .Add (.bin .Mult (.int 2) (.var 3)) (.int 1)) .nil))) (.var 3)) (.call 23 (.cons (.var 0) (.cons (.lst (.cons (.int 0) (.cons (.int 0) (.cons (.int 1) (.cons (.int 2) (.cons (.bin .Pow (.int 10) (.int 30)) .nil)))))) .nil)))) .nil)))) .nil)))
  .nil)))
  (.cons (.ret (.bi .tuple (.cons (.var 4) .nil)))
  .nil)))
def S_law_differences : Stmt := top 45
def N_law : List Str := ["script", "at", "rows", "some", "told", "keg", "points", "turn", "value", "due", "shift"]
def P_law : List Str := ["script"]
def G_law : GEnv := [("_law_choice", .fn 23), ("_law_differences", .fn 32), ("_law_keg", .fn 18), ("_law_points_drawn", .fn 21), ("_law_right", .fn 31), ("_law_tap", .fn 19), ("is_fitting", .fn 15), ("is_ring", .fn 17), ("len", .blt), ("max", .blt), ("min", .blt), ("range", .blt)]
def I_law : ISs := (.cons (.loop (.one 1) (.range1 (.bi .max (.cons (.int 1) (.cons (.bi .min (.cons (.int 5) (.cons (.bi .len (.cons (.var 0) .nil)) .nil))) .nil)))) (.cons (.asg (.one 5) (.call 18 (.cons (.var 0) (.cons (.var 1) .nil))))
  (.cons (.asg (.one 6) (.call 21 (.cons (.var 5) (.cons (.bin .Add (.int 1) (.call 19 (.cons (.var 5) (.cons (.int 4) .nil)))) .nil))))
  (.cons (.loop (.one 7) (.range1 (.int 3)) (.cons (.iff (.not (.call 31 (.cons (.var 5) (.cons (.call 32 (.cons (.var 5) (.cons (.var 6) (.cons (.call 19 (.cons (.var 5) (.cons (.int 11) .nil))) (.cons (.call 23 (.cons (.var 5) (.cons (.lst (.cons (.int 2) (.cons (.int 4) .nil))) .nil))) .nil))))) .nil)))) (.cons (.ret (.bl false))
  .nil) .nil)
  .nil))
  .nil))))
  (.cons (.asg (.one 2) (.tup (.cons (.tup (.cons (.str "i") (.cons (.str "j") (.cons (.int 2) .nil)))) (.cons (.tup (.cons (.str "j") (.cons (.str "i") (.cons (.neg (.int 3)) .nil)))) (.cons (.tup (.cons (.str "i") (.cons (.str "i") (.cons (.int 0) .nil)))) (.cons (.tup (.cons (.str "j") (.cons (.str "j") (.cons (.int 5) .nil)))) .nil))))))
  (.cons (.asg (.one 3) (.tup (.cons (.tup (.cons (.int 0) (.cons (.int 1) .nil))) (.cons (.tup (.cons (.int 1) (.cons (.int 0) .nil))) (.cons (.tup (.cons (.int 1) (.cons (.int 2) (.cons (.int 0) .nil)))) (.cons (.tup (.cons (.int 0) (.cons (.int 3) (.cons (.int 1) .nil)))) (.cons (.tup (.cons (.int 0) (.cons (.int 1) (.cons (.int 0) (.cons (.int 1) (.cons (.int 0) (.cons (.int 1) .nil))))))) (.cons (.tup (.cons (.int 2) .nil)) (.cons (.tup (.cons (.int 0) (.cons (.int 0) .nil))) (.cons (.tup (.cons (.int 1) (.cons (.int 3) (.cons (.int 0) .nil)))) .nil))))))))))
  (.cons (.asg (.one 4) (.lc (.call 17 (.cons (.var 2) (.cons (.var 8) .nil))) (.one 8) (.of (.var 3)) .no [8]))
  (.cons (.iff (.or2 (.cmp .NotEq (.var 4) (.lst (.cons (.bl true) (.cons (.bl true) (.cons (.bl true) (.cons (.bl false) (.cons (.bl true) (.cons (.bl false) (.cons (.bl false) (.cons (.bl false) .nil)))))))))) (.not (.call 17 (.cons (.var 2) (.cons (.bin .Add (.bin .Mult (.tup (.cons (.int 0) (.cons (.int 1) .nil))) (.int 6)) (.tup (.cons (.int 0) (.cons (.int 3) (.cons (.int 1) .nil))))) .nil))))) (.cons (.ret (.bl false))
  .nil) .nil)
  (.cons (.asg (.one 3) (.lst (.cons (.tup (.cons (.int 1) (.cons (.int 1) .nil))) (.cons (.tup (.cons (.int 1) (.cons (.bl true) .nil))) (.cons (.tup (.cons (.int 0) (.cons (.int 0) .nil))) (.cons (.tup (.cons (.int 0) (.cons (.bl false) .nil))) .nil))))))
  (.cons (.asg (.one 4) (.lc (.call 15 (.cons (.tup (.cons (.tup (.cons (.tup (.cons (.str "a") (.cons (.str "i") (.cons (.var 9) .nil)))) (.cons (.str "") (.cons (.int 0) .nil)))) .nil)) (.cons (.dct (.cons (.str "") (.cons (.int 0) (.cons (.tup (.cons (.str "a") (.cons (.str "i") (.cons (.var 10) .nil)))) (.cons (.int 0) .nil))))) .nil))) (.many [9, 10]) (.of (.var 3)) .no [9, 10]))
  (.cons (.ret (.cmp .Eq (.var 4) (.lst (.cons (.bl true) (.cons (.bl false) (.cons (.bl true) (.cons (.bl false) .nil)))))))
  .nil))))))))
def S_law : Stmt := top 46

theorem ck_is_integer : chkSs G_is_integer N_is_integer I_is_integer (defScope S_is_integer) (defBody S_is_integer) = true := by decide +kernel
theorem sc_is_integer : C8.scC N_is_integer P_is_integer (defScope S_is_integer) = true := by decide +kernel
theorem ck_is_name : chkSs G_is_name N_is_name I_is_name (defScope S_is_name) (defBody S_is_name) = true := by decide +kernel
theorem sc_is_name : C8.scC N_is_name P_is_name (defScope S_is_name) = true := by decide +kernel
theorem ck_is_new : chkSs G_is_new N_is_new I_is_new (defScope S_is_new) (defBody S_is_new) = true := by decide +kernel
theorem sc_is_new : C8.scC N_is_new P_is_new (defScope S_is_new) = true := by decide +kernel
theorem ck_is_place : chkSs G_is_place N_is_place I_is_place (defScope S_is_place) (defBody S_is_place) = true := by decide +kernel
theorem sc_is_place : C8.scC N_is_place P_is_place (defScope S_is_place) = true := by decide +kernel
theorem ck_is_point : chkSs G_is_point N_is_point I_is_point (defScope S_is_point) (defBody S_is_point) = true := by decide +kernel
theorem sc_is_point : C8.scC N_is_point P_is_point (defScope S_is_point) = true := by decide +kernel
theorem ck_is_difference : chkSs G_is_difference N_is_difference I_is_difference (defScope S_is_difference) (defBody S_is_difference) = true := by decide +kernel
theorem sc_is_difference : C8.scC N_is_difference P_is_difference (defScope S_is_difference) = true := by decide +kernel
theorem ck_require_differences : chkSs G_require_differences N_require_differences I_require_differences (defScope S_require_differences) (defBody S_require_differences) = true := by decide +kernel
theorem sc_require_differences : C8.scC N_require_differences P_require_differences (defScope S_require_differences) = true := by decide +kernel
theorem ck_points_of : chkSs G_points_of N_points_of I_points_of (defScope S_points_of) (defBody S_points_of) = true := by decide +kernel
theorem sc_points_of : C8.scC N_points_of P_points_of (defScope S_points_of) = true := by decide +kernel
theorem ck_improved : chkSs G_improved N_improved I_improved (defScope S_improved) (defBody S_improved) = true := by decide +kernel
theorem sc_improved : C8.scC N_improved P_improved (defScope S_improved) = true := by decide +kernel
theorem ck_settled : chkSs G_settled N_settled I_settled (defScope S_settled) (defBody S_settled) = true := by decide +kernel
theorem sc_settled : C8.scC N_settled P_settled (defScope S_settled) = true := by decide +kernel
theorem ck_ring_in : chkSs G_ring_in N_ring_in I_ring_in (defScope S_ring_in) (defBody S_ring_in) = true := by decide +kernel
theorem sc_ring_in : C8.scC N_ring_in P_ring_in (defScope S_ring_in) = true := by decide +kernel
theorem ck_ring_of : chkSs G_ring_of N_ring_of I_ring_of (defScope S_ring_of) (defBody S_ring_of) = true := by decide +kernel
theorem sc_ring_of : C8.scC N_ring_of P_ring_of (defScope S_ring_of) = true := by decide +kernel
theorem ck_fitted : chkSs G_fitted N_fitted I_fitted (defScope S_fitted) (defBody S_fitted) = true := by decide +kernel
theorem sc_fitted : C8.scC N_fitted P_fitted (defScope S_fitted) = true := by decide +kernel
theorem ck_is_ring_of : chkSs G_is_ring_of N_is_ring_of I_is_ring_of (defScope S_is_ring_of) (defBody S_is_ring_of) = true := by decide +kernel
theorem sc_is_ring_of : C8.scC N_is_ring_of P_is_ring_of (defScope S_is_ring_of) = true := by decide +kernel
theorem ck_fitting : chkSs G_fitting N_fitting I_fitting (defScope S_fitting) (defBody S_fitting) = true := by decide +kernel
theorem sc_fitting : C8.scC N_fitting P_fitting (defScope S_fitting) = true := by decide +kernel
theorem ck_is_fitting : chkSs G_is_fitting N_is_fitting I_is_fitting (defScope S_is_fitting) (defBody S_is_fitting) = true := by decide +kernel
theorem sc_is_fitting : C8.scC N_is_fitting P_is_fitting (defScope S_is_fitting) = true := by decide +kernel
theorem ck_ring : chkSs G_ring N_ring I_ring (defScope S_ring) (defBody S_ring) = true := by decide +kernel
theorem sc_ring : C8.scC N_ring P_ring (defScope S_ring) = true := by decide +kernel
theorem ck_is_ring : chkSs G_is_ring N_is_ring I_is_ring (defScope S_is_ring) (defBody S_is_ring) = true := by decide +kernel
theorem sc_is_ring : C8.scC N_is_ring P_is_ring (defScope S_is_ring) = true := by decide +kernel
theorem ck_law_keg : chkSs G_law_keg N_law_keg I_law_keg (defScope S_law_keg) (defBody S_law_keg) = true := by decide +kernel
theorem sc_law_keg : C8.scC N_law_keg P_law_keg (defScope S_law_keg) = true := by decide +kernel
theorem ck_law_tap : chkSs G_law_tap N_law_tap I_law_tap (defScope S_law_tap) (defBody S_law_tap) = true := by decide +kernel
theorem sc_law_tap : C8.scC N_law_tap P_law_tap (defScope S_law_tap) = true := by decide +kernel
theorem ck_law_choices : chkSs G_law_choices N_law_choices I_law_choices (defScope S_law_choices) (defBody S_law_choices) = true := by decide +kernel
theorem sc_law_choices : C8.scC N_law_choices P_law_choices (defScope S_law_choices) = true := by decide +kernel
theorem ck_law_points_drawn : chkSs G_law_points_drawn N_law_points_drawn I_law_points_drawn (defScope S_law_points_drawn) (defBody S_law_points_drawn) = true := by decide +kernel
theorem sc_law_points_drawn : C8.scC N_law_points_drawn P_law_points_drawn (defScope S_law_points_drawn) = true := by decide +kernel
theorem ck_law_points_in : chkSs G_law_points_in N_law_points_in I_law_points_in (defScope S_law_points_in) (defBody S_law_points_in) = true := by decide +kernel
theorem sc_law_points_in : C8.scC N_law_points_in P_law_points_in (defScope S_law_points_in) = true := by decide +kernel
theorem ck_law_choice : chkSs G_law_choice N_law_choice I_law_choice (defScope S_law_choice) (defBody S_law_choice) = true := by decide +kernel
theorem sc_law_choice : C8.scC N_law_choice P_law_choice (defScope S_law_choice) = true := by decide +kernel
theorem ck_law_near_numbers : chkSs G_law_near_numbers N_law_near_numbers I_law_near_numbers (defScope S_law_near_numbers) (defBody S_law_near_numbers) = true := by decide +kernel
theorem sc_law_near_numbers : C8.scC N_law_near_numbers P_law_near_numbers (defScope S_law_near_numbers) = true := by decide +kernel
theorem ck_law_drawn_walk : chkSs G_law_drawn_walk N_law_drawn_walk I_law_drawn_walk (defScope S_law_drawn_walk) (defBody S_law_drawn_walk) = true := by decide +kernel
theorem sc_law_drawn_walk : C8.scC N_law_drawn_walk P_law_drawn_walk (defScope S_law_drawn_walk) = true := by decide +kernel
theorem ck_law_near_ring : chkSs G_law_near_ring N_law_near_ring I_law_near_ring (defScope S_law_near_ring) (defBody S_law_near_ring) = true := by decide +kernel
theorem sc_law_near_ring : C8.scC N_law_near_ring P_law_near_ring (defScope S_law_near_ring) = true := by decide +kernel
theorem ck_law_is_whole : chkSs G_law_is_whole N_law_is_whole I_law_is_whole (defScope S_law_is_whole) (defBody S_law_is_whole) = true := by decide +kernel
theorem sc_law_is_whole : C8.scC N_law_is_whole P_law_is_whole (defScope S_law_is_whole) = true := by decide +kernel
theorem ck_law_are_true : chkSs G_law_are_true N_law_are_true I_law_are_true (defScope S_law_are_true) (defBody S_law_are_true) = true := by decide +kernel
theorem sc_law_are_true : C8.scC N_law_are_true P_law_are_true (defScope S_law_are_true) = true := by decide +kernel
theorem ck_law_fits_due : chkSs G_law_fits_due N_law_fits_due I_law_fits_due (defScope S_law_fits_due) (defBody S_law_fits_due) = true := by decide +kernel
theorem sc_law_fits_due : C8.scC N_law_fits_due P_law_fits_due (defScope S_law_fits_due) = true := by decide +kernel
theorem ck_law_ring_due : chkSs G_law_ring_due N_law_ring_due I_law_ring_due (defScope S_law_ring_due) (defBody S_law_ring_due) = true := by decide +kernel
theorem sc_law_ring_due : C8.scC N_law_ring_due P_law_ring_due (defScope S_law_ring_due) = true := by decide +kernel
theorem ck_law_right : chkSs G_law_right N_law_right I_law_right (defScope S_law_right) (defBody S_law_right) = true := by decide +kernel
theorem sc_law_right : C8.scC N_law_right P_law_right (defScope S_law_right) = true := by decide +kernel
theorem ck_law_differences : chkSs G_law_differences N_law_differences I_law_differences (defScope S_law_differences) (defBody S_law_differences) = true := by decide +kernel
theorem sc_law_differences : C8.scC N_law_differences P_law_differences (defScope S_law_differences) = true := by decide +kernel
theorem ck_law : chkSs G_law N_law I_law (defScope S_law) (defBody S_law) = true := by decide +kernel
theorem sc_law : C8.scC N_law P_law (defScope S_law) = true := by decide +kernel
end L3

set_option Elab.async false
set_option linter.all false
set_option maxRecDepth 100000
set_option maxHeartbeats 4000000
/-! E1: what the defs ask: isinstance, growth. -/
namespace L3
open PySem PySem.Spec PyProof.Rows L2

/-- all that stood stands as it stood -/
def Gro (M M' : Hp3) : Prop := ∀ a o, M a = some o → M' a = some o
theorem Gro.refl (M : Hp3) : Gro M M := fun _ _ h => h
theorem Gro.trans {M M1 M2 : Hp3} (h : Gro M M1) (g : Gro M1 M2) : Gro M M2 := fun a o e => g a o (h a o e)
theorem Gro.new {M : Hp3} {p : Addr} {o : MO} (h : M p = none) : Gro M (up3 M p o) := fun a u e => by
  rw [up3_ne (fun z => by rw [z, h] at e; cases e)]
  exact e
theorem Gro.fresh {M M' : Hp3} (g : Gro M M') {p : Addr} (h : M' p = none) : M p = none := by
  cases e : M p with
  | none => rfl
  | some o => rw [g p o e] at h; cases h
/-- .. but for the thing at k -/
def GroBut (k : Addr) (M M' : Hp3) : Prop := ∀ a o, a ≠ k → M a = some o → M' a = some o
theorem Gro.but {M M' : Hp3} (g : Gro M M') (k : Addr) : GroBut k M M' := fun a o _ h => g a o h
theorem GroBut.trans {k : Addr} {M M1 M2 : Hp3} (h : GroBut k M M1) (g : GroBut k M1 M2) : GroBut k M M2 := fun a o n e => g a o n (h a o n e)
theorem GroBut.put {k : Addr} {M : Hp3} {o : MO} : GroBut k M (up3 M k o) := fun a u n e => by rw [up3_ne n]; exact e
/-- constants of the program -/
def C23 : Nat → D
  | 0 => .int 8
  | 1 => .int (10 ^ 60)
  | 2 => .str "abcdefghijklmnopqrstuvwxyz"
  | 3 => .int 60
  | 4 => .str ""
  | 5 => .str "*"
  | 6 => .str "0123456789"
  | _ => .non
def tyK : List String := ["NoneType", "bool", "int", "str", "tuple", "list", "dict"]
theorem kit_all : ∀ c ∈ tyK, ∀ t ∈ (["int", "bool", "str", "tuple", "dict"] : List String), kitB c t = some (decide (c = t) || (decide (c = "bool") && decide (t = "int"))) := by decide +kernel
/-- what has a type -/
def Ty (M : Hp3) (d : D) : Prop := ∃ c, tyD M d = some c
theorem tyD_mem {M : Hp3} {d : D} {c : String} (h : tyD M d = some c) : c ∈ tyK := by
  unfold tyK
  cases d with
  | ref a =>
    simp only [tyD] at h
    cases e : M a with
    | none => rw [e] at h; cases h
    | some o =>
      rw [e] at h
      cases o <;> cases h <;> simp
  | sl _ => cases h
  | _ => cases h <;> simp
theorem isi_of {M : Hp3} {d : D} {c t : String} (h : tyD M d = some c) (ht : t ∈ (["int", "bool", "str", "tuple", "dict"] : List String)) : isiD M d t = some (decide (c = t) || (decide (c = "bool") && decide (t = "int"))) := by
  unfold isiD
  rw [h]
  exact kit_all c (tyD_mem h) t ht
def isIntD : D → Bool
  | .int i => decide (-(10 ^ 60) < i) && decide (i < 10 ^ 60)
  | _ => false

/-! ### evaluation, whatever is wanted behind it -/
def Ev (t : TE3) (σ : St3) (M : Hp3) (post : D → Hp3 → Prop) : Prop := ∀ K : VK3, (∀ d M', post d M' → K d M') → t σ M K
def EvT (t : TT3) (σ : St3) (M : Hp3) (post : Bool → Hp3 → Prop) : Prop := ∀ K : Bool → Hp3 → Prop, (∀ b M', post b M' → K b M') → t σ M K
theorem Ev.imp {t : TE3} {σ : St3} {M : Hp3} {p q : D → Hp3 → Prop} (h : Ev t σ M p) (i : ∀ d M', p d M' → q d M') : Ev t σ M q := fun K k => h K fun d M' hp => k d M' (i d M' hp)
theorem EvT.imp {t : TT3} {σ : St3} {M : Hp3} {p q : Bool → Hp3 → Prop} (h : EvT t σ M p) (i : ∀ d M', p d M' → q d M') : EvT t σ M q := fun K k => h K fun d M' hp => k d M' (i d M' hp)
/-- the value y, and only new things -/
abbrev Pur (t : TE3) (σ : St3) (M : Hp3) (y : D) : Prop := Ev t σ M fun d M' => d = y ∧ Gro M M'
abbrev PurT (t : TT3) (σ : St3) (M : Hp3) (b : Bool) : Prop := EvT t σ M fun d M' => d = b ∧ Gro M M'
theorem evT_yes {σ : St3} {M : Hp3} : PurT (fun _ M Q => Q true M) σ M true := fun K k => k true M ⟨rfl, Gro.refl M⟩

/-- a list comprehension, item by item: J of the heap and the list so far -/
theorem lcW_inv {hold : Hp3 → Prop} {tg : Tg} {tst : TT3} {elt : TE3} {σ : St3} {p : Addr} {Q : VK3} {items : List D} (J : Nat → List D → Hp3 → Prop)
    (step : ∀ i x acc M, items[i]? = some x → J i acc M → M p = some (.lst acc) → hold M ∧ ∃ σ1, asgT tg x σ = some σ1 ∧ EvT tst σ1 M fun b M1 =>
      if b = true then Ev elt σ1 M1 fun y M2 => M2 p = some (.lst acc) ∧ acc.length < sizeLine ∧ ∀ M3, GroBut p M2 M3 → M3 p = some (.lst (acc ++ [y])) → J (i + 1) (acc ++ [y]) M3 else M1 p = some (.lst acc) ∧ J (i + 1) acc M1)
    (fin : ∀ acc M, J items.length acc M → M p = some (.lst acc) → hold M ∧ Q (.ref p) M) : ∀ (i : Nat) (acc : List D) (M : Hp3), i ≤ items.length → J i acc M → M p = some (.lst acc) → lcW hold tg tst elt σ p (items.drop i) M Q := by
  intro i
  generalize hn : items.length - i = n
  induction n generalizing i with
  | zero =>
    intro acc M hi hJ hM
    have e : i = items.length := by omega
    subst e
    rw [List.drop_length]
    exact fin acc M hJ hM
  | succ n ih =>
    intro acc M hi hJ hM
    have hlt : i < items.length := by omega
    rw [List.drop_eq_getElem_cons hlt]
    obtain ⟨hold, σ1, e, h⟩ := step i items[i] acc M (List.getElem?_eq_getElem hlt) hJ hM
    refine ⟨hold, σ1, e, h _ fun b M1 hb => ?_⟩
    cases b with
    | false =>
      rw [if_neg Bool.false_ne_true] at hb
      simp only [Bool.false_eq_true, if_false]
      exact ih (i + 1) (by omega) acc M1 hlt hb.2 hb.1
    | true =>
      rw [if_pos rfl] at hb
      simp only [if_true]
      exact hb _ fun y M2 ⟨h1, h2, h3⟩ => ⟨acc, h1, h2, ih (i + 1) (by omega) (acc ++ [y]) _ hlt (h3 _ GroBut.put up3_same) up3_same⟩
/-- .. that only makes new things: g tells what it takes -/
theorem lcW_pur {hold : Hp3 → Prop} {tg : Tg} {tst : TT3} {elt : TE3} {σ : St3} {p : Addr} {Q : VK3} {items : List D} {M0 : Hp3} (g : D → Option D) (hp : M0 p = none) (hold_ : ∀ M, Gro M0 M → hold M) (hz : items.length ≤ sizeLine)
    (step : ∀ x ∈ items, ∀ M, Gro M0 M → ∃ σ1, asgT tg x σ = some σ1 ∧ PurT tst σ1 M (g x).isSome ∧ ∀ y, g x = some y → ∀ M', Gro M M' → Pur elt σ1 M' y)
    (fin : ∀ M, Gro M0 M → M p = some (.lst (items.filterMap g)) → Q (.ref p) M) : lcW hold tg tst elt σ p items (up3 M0 p (.lst [])) Q := by
  have main := lcW_inv (hold := hold) (tg := tg) (tst := tst) (elt := elt) (σ := σ) (p := p) (Q := Q) (items := items) (fun i acc M => Gro M0 M ∧ acc = (items.take i).filterMap g ∧ acc.length ≤ i) (fun i x acc M hx hJ hM => ?_) (fun acc M hJ hM => ?_) 0 [] (up3 M0 p (.lst [])) (Nat.zero_le _) ⟨Gro.new hp, rfl, Nat.le_refl _⟩ up3_same
  · rw [List.drop_zero] at main
    exact main
  · obtain ⟨gM, ea, hl⟩ := hJ
    have hmem : x ∈ items := List.mem_of_getElem? hx
    have hlt : i < items.length := (List.getElem?_eq_some_iff.mp hx).1
    obtain ⟨σ1, e1, ht, he⟩ := step x hmem M gM
    have htake : (items.take (i + 1)).filterMap g = acc ++ ([x].filterMap g) := by
      rw [List.take_add_one, hx, List.filterMap_append, ← ea]
      rfl
    refine ⟨hold_ M gM, σ1, e1, ht.imp fun b M1 ⟨eb, g1⟩ => ?_⟩
    cases hg : g x with
    | none =>
      rw [hg] at eb
      subst eb
      rw [if_neg (by decide)]
      exact ⟨g1 _ _ hM, gM.trans g1, by rw [htake]; simp [hg], by omega⟩
    | some y =>
      rw [hg] at eb
      subst eb
      rw [if_pos (show (some y).isSome = true from rfl)]
      refine (he y hg M1 g1).imp fun d M2 ⟨ed, g2⟩ => ?_
      subst ed
      have hM2 := g2 _ _ (g1 _ _ hM)
      refine ⟨hM2, by omega, fun M3 g3 hM3 => ⟨fun a o h => ?_, by rw [htake]; simp [hg], by rw [List.length_append, List.length_singleton]; omega⟩⟩
      exact g3 a o (fun z => by rw [z, hp] at h; cases h) (g2 _ _ (g1 _ _ (gM _ _ h)))
  · obtain ⟨gM, ea, _⟩ := hJ
    rw [List.take_length] at ea
    subst ea
    exact ⟨hold_ M gM, fin M gM hM⟩
/-- a dict comprehension that only makes new things -/
theorem dcW_pur {hold : Hp3 → Prop} {tg : Tg} {tst : TT3} {kx vx : TE3} {σ : St3} {p : Addr} {Q : VK3} {M0 : Hp3} (g : D → D × D) (hp : M0 p = none) (hold_ : ∀ M, Gro M0 M → hold M) :
    ∀ (items : List D) (acc : List (D × D)) (M : Hp3), Gro M0 M → M p = some (.dct acc) → acc.length + items.length ≤ sizeLine → (∀ x ∈ items, (keyOf (g x).1).isSome = true) →
    (∀ x ∈ items, ∀ M, Gro M0 M → ∃ σ1, asgT tg x σ = some σ1 ∧ PurT tst σ1 M true ∧ ∀ M', Gro M M' → Pur kx σ1 M' (g x).1 ∧ ∀ M'', Gro M' M'' → Pur vx σ1 M'' (g x).2) →
    (∀ M, Gro M0 M → M p = some (.dct (putsD acc (items.map g))) → Q (.ref p) M) → dcW hold tg tst kx vx σ p items M Q
  | [], acc, M, gM, hM, hz, hk, step, fin => ⟨hold_ M gM, fin M gM hM⟩
  | x :: r, acc, M, gM, hM, hz, hk, step, fin => by
    obtain ⟨σ1, e1, ht, he⟩ := step x List.mem_cons_self M gM
    obtain ⟨kk, ek⟩ := Option.isSome_iff_exists.mp (hk x List.mem_cons_self)
    rw [List.length_cons] at hz
    refine ⟨hold_ M gM, σ1, e1, ht _ fun b M1 ⟨eb, g1⟩ => ?_⟩
    subst eb
    rw [if_pos rfl]
    refine (he M1 g1).1 _ fun y M2 ⟨ey, g2⟩ => ?_
    subst ey
    refine (he M1 g1).2 M2 g2 _ fun z M3 ⟨ez, g3⟩ => ?_
    subst ez
    have hM3 := g3 _ _ (g2 _ _ (g1 _ _ hM))
    have gg : Gro M0 (up3 M3 p (.dct (putD acc kk (g x).1 (g x).2))) := fun a o h => by
      rw [up3_ne (fun z => by rw [z, hp] at h; cases h)]
      exact g3 _ _ (g2 _ _ (g1 _ _ (gM _ _ h)))
    have hl : (putD acc kk (g x).1 (g x).2).length ≤ acc.length + 1 := by
      unfold putD
      split <;> simp
    refine ⟨acc, kk, hM3, ek, by omega, dcW_pur g hp hold_ r _ _ gg up3_same (by omega) (fun x hx => hk x (List.mem_cons_of_mem _ hx)) (fun x hx => step x (List.mem_cons_of_mem _ hx)) fun M' g' hM' => fin M' g' ?_⟩
    rw [hM', List.map_cons]
    have e : putsD acc ((g x) :: r.map g) = putsD (putD acc kk (g x).1 (g x).2) (r.map g) := by
      show (match keyOf (g x).1 with
        | some n => putsD (putD acc n (g x).1 (g x).2) (r.map g)
        | none => putsD acc (r.map g)) = _
      rw [ek]
    rw [e]
/-- a loop, item by item; what is wanted at its end, behind break, behind return -/
theorem loopW_inv {hold : Hp3 → Prop} {tg : Tg} {body : TS3} {D0 : Ends3} {items : List D} (J : Nat → St3 → Hp3 → Prop)
    (step : ∀ i x σ M, items[i]? = some x → J i σ M → hold M ∧ ∃ σ1, asgT tg x σ = some σ1 ∧ ∀ nx : St3 → Hp3 → Prop, (∀ σ' M', J (i + 1) σ' M' → nx σ' M') → body ⟨nx, D0.rt, D0.nx, nx⟩ σ1 M)
    (fin : ∀ σ M, J items.length σ M → hold M ∧ D0.nx σ M) : ∀ (i : Nat) (σ : St3) (M : Hp3), i ≤ items.length → J i σ M → loopW hold tg body (items.drop i) D0 σ M := by
  intro i
  generalize hn : items.length - i = n
  induction n generalizing i with
  | zero =>
    intro σ M hi hJ
    have e : i = items.length := by omega
    subst e
    rw [List.drop_length]
    exact fin σ M hJ
  | succ n ih =>
    intro σ M hi hJ
    have hlt : i < items.length := by omega
    rw [List.drop_eq_getElem_cons hlt]
    obtain ⟨hold, σ1, e, h⟩ := step i items[i] σ M (List.getElem?_eq_getElem hlt) hJ
    exact ⟨hold, σ1, e, h _ fun σ' M' hJ' => ih (i + 1) (by omega) σ' M' hlt hJ'⟩
theorem loopW_inv0 {hold : Hp3 → Prop} {tg : Tg} {body : TS3} {D0 : Ends3} {items : List D} {σ : St3} {M : Hp3} (J : Nat → St3 → Hp3 → Prop)
    (step : ∀ i x σ M, items[i]? = some x → J i σ M → hold M ∧ ∃ σ1, asgT tg x σ = some σ1 ∧ ∀ nx : St3 → Hp3 → Prop, (∀ σ' M', J (i + 1) σ' M' → nx σ' M') → body ⟨nx, D0.rt, D0.nx, nx⟩ σ1 M)
    (fin : ∀ σ M, J items.length σ M → hold M ∧ D0.nx σ M) (h0 : J 0 σ M) : loopW hold tg body items D0 σ M := by
  have := loopW_inv J step fin 0 σ M (Nat.zero_le _) h0
  rwa [List.drop_zero] at this

/-! ### types -/
theorem isi_int {M : Hp3} {d : D} (h : Ty M d) : isiD M d "int" = some (match d with
    | .int _ => true
    | .bl _ => true
    | _ => false) := by
  obtain ⟨c, hc⟩ := h
  rw [isi_of hc (by simp)]
  cases d with
  | ref a =>
    simp only [tyD] at hc
    cases e : M a with
    | none => rw [e] at hc; cases hc
    | some o => rw [e] at hc; cases o <;> cases hc <;> rfl
  | sl _ => cases hc
  | _ => cases hc <;> rfl
theorem isi_bool {M : Hp3} {d : D} (h : Ty M d) : isiD M d "bool" = some (match d with
    | .bl _ => true
    | _ => false) := by
  obtain ⟨c, hc⟩ := h
  rw [isi_of hc (by simp)]
  cases d with
  | ref a =>
    simp only [tyD] at hc
    cases e : M a with
    | none => rw [e] at hc; cases hc
    | some o => rw [e] at hc; cases o <;> cases hc <;> rfl
  | sl _ => cases hc
  | _ => cases hc <;> rfl
theorem isi_str {M : Hp3} {d : D} (h : Ty M d) : isiD M d "str" = some (match d with
    | .str _ => true
    | _ => false) := by
  obtain ⟨c, hc⟩ := h
  rw [isi_of hc (by simp)]
  cases d with
  | ref a =>
    simp only [tyD] at hc
    cases e : M a with
    | none => rw [e] at hc; cases hc
    | some o => rw [e] at hc; cases o <;> cases hc <;> rfl
  | sl _ => cases hc
  | _ => cases hc <;> rfl
theorem isi_tuple {M : Hp3} {d : D} (h : Ty M d) : isiD M d "tuple" = some (match d with
    | .tup _ => true
    | _ => false) := by
  obtain ⟨c, hc⟩ := h
  rw [isi_of hc (by simp)]
  cases d with
  | ref a =>
    simp only [tyD] at hc
    cases e : M a with
    | none => rw [e] at hc; cases hc
    | some o => rw [e] at hc; cases o <;> cases hc <;> rfl
  | sl _ => cases hc
  | _ => cases hc <;> rfl
theorem isi_dict {M : Hp3} {d : D} (h : Ty M d) : isiD M d "dict" = some (match d with
    | .ref a => (match M a with
      | some (.dct _) => true
      | some (.lck _) => true
      | _ => false)
    | _ => false) := by
  obtain ⟨c, hc⟩ := h
  rw [isi_of hc (by simp)]
  cases d with
  | ref a =>
    simp only [tyD] at hc
    cases e : M a with
    | none => rw [e] at hc; cases hc
    | some o => rw [e] at hc; cases o <;> cases hc <;> simp [e]
  | sl _ => cases hc
  | _ => cases hc <;> rfl
end L3

set_option Elab.async false
set_option linter.all false
set_option maxRecDepth 100000
set_option maxHeartbeats 4000000
/-! E2: is_integer .. require_differences. -/
namespace L3
open PySem PySem.Spec PyProof.Rows L2

/-- what the questions may be asked of -/
inductive Tame (M : Hp3) : D → Prop
  | non : Tame M .non
  | bl (b : Bool) : Tame M (.bl b)
  | int (i : Int) : Tame M (.int i)
  | str {z : Str} (h : z.length ≤ 1000) (ok : PyData.strOk z = true) : Tame M (.str z)
  | tup {ds : List D} (h : ∀ d ∈ ds, Tame M d) : Tame M (.tup ds)
  | ref {a : Addr} {o : MO} (h : M a = some o) : Tame M (.ref a)
theorem Tame.ty {M : Hp3} {d : D} (h : Tame M d) : Ty M d := by
  cases h with
  | ref h =>
    unfold Ty
    simp only [tyD, h]
    rename_i o
    cases o <;> exact ⟨_, rfl⟩
  | _ => exact ⟨_, rfl⟩
theorem Tame.gro {M M' : Hp3} (g : Gro M M') {d : D} (h : Tame M d) : Tame M' d := by
  induction h with
  | non => exact .non
  | bl b => exact .bl b
  | int i => exact .int i
  | str h ok => exact .str h ok
  | tup _ ih => exact .tup ih
  | ref h => exact .ref (g _ _ h)
theorem line1000 : 1000 ≤ sizeLine := by rw [sizeLine_eq]; omega
theorem Tame.len {M : Hp3} {z : Str} (h : Tame M (.str z)) : z.length ≤ sizeLine := by
  cases h with
  | str h ok => exact Nat.le_trans h line1000
theorem Tame.ok {M : Hp3} {z : Str} (h : Tame M (.str z)) : PyData.strOk z = true := by
  cases h with
  | str h ok => exact ok
def letS : Str := "abcdefghijklmnopqrstuvwxyz"
def digS : Str := "0123456789"
def isNameD : D → Bool
  | .str z => decide (1 ≤ z.length) && (decide (z.length ≤ 8) && z.cps.toList.all fun c => decide (c ∈ letS.cps.toList))
  | _ => false
def isNewD : D → Bool
  | .str z => !(decide (z.length < 2)) && (decide (z.cps.toList[0]? = some 42) && (!(decide (z.cps.toList[1]? = some 48)) && (z.cps.toList.drop 1).all fun c => decide (c ∈ digS.cps.toList)))
  | _ => false
def isPlaceD : D → Bool
  | .str z => decide (z.length = 0) || (isNameD (.str z) || isNewD (.str z))
  | _ => false
def isPointD : D → Bool
  | .tup [a, b, c] => isNameD a && (isPlaceD b && isIntD c)
  | .tup _ => false
  | d => isPlaceD d
def isDiffD : D → Bool
  | .tup [a, b, c] => isPointD a && (isPointD b && isIntD c)
  | _ => false
/-- a question of one thing -/
abbrev spQ (f : D → Bool) : Sp3 := fun ds M Q => ∃ d, ds = [d] ∧ Tame M d ∧ ∀ M', Gro M M' → Q (.bl (f d)) M'
theorem is_integer_spec (Γ : Nat → Sp3) (ds : List D) (M : Hp3) (Q : VK3) (h : spQ isIntD ds M Q) : WSs C23 Γ I_is_integer { nx := fun _ M' => Q .non M', rt := Q } (start3 N_is_integer ds) M := by
  obtain ⟨d, rfl, t, q⟩ := h
  have q := q M (Gro.refl M)
  simp only [I_is_integer, WSs, WS, WE, WX, mkT, N_is_integer, start3, List.map_cons, List.map_nil, List.length_cons, List.length_nil, List.replicate, List.append_nil]
  refine ⟨d, rfl, _, isi_int t.ty, _, rfl, ?_⟩
  cases d with
  | int i =>
    simp only [if_true]
    refine ⟨_, rfl, _, isi_bool t.ty, false, rfl, true, rfl, ?_⟩
    simp only [if_true]
    refine ⟨10 ^ 60, rfl, _, rfl, ?_⟩
    show if decide (-(10 ^ 60) < i) = true then Q (.bl (decide (i < 10 ^ 60))) M else Q (.bl false) M
    have e : isIntD (.int i) = (decide (-(10 ^ 60) < i) && decide (i < 10 ^ 60)) := rfl
    rw [e] at q
    by_cases c : decide (-(10 ^ 60) < i) = true
    · rw [if_pos c]
      rw [c, Bool.true_and] at q
      exact q
    · rw [if_neg c]
      rw [Bool.not_eq_true] at c
      rw [c, Bool.false_and] at q
      exact q
  | bl b =>
    simp only [if_true]
    refine ⟨_, rfl, _, isi_bool t.ty, true, rfl, false, rfl, ?_⟩
    exact q
  | _ => exact q
theorem is_whole_spec (Γ : Nat → Sp3) (ds : List D) (M : Hp3) (Q : VK3) (h : spQ isIntD ds M Q) : WSs C23 Γ I_law_is_whole { nx := fun _ M' => Q .non M', rt := Q } (start3 N_law_is_whole ds) M := by
  obtain ⟨d, rfl, t, q⟩ := h
  have q := q M (Gro.refl M)
  simp only [I_law_is_whole, WSs, WS, WE, WX, mkT, WA, N_law_is_whole, start3, List.map_cons, List.map_nil, List.length_cons, List.length_nil, List.replicate, List.append_nil]
  refine ⟨d, rfl, _, isi_int t.ty, _, rfl, ?_⟩
  cases d with
  | int i =>
    simp only [if_true]
    refine ⟨_, rfl, _, isi_bool t.ty, false, rfl, true, rfl, ?_⟩
    simp only [if_true]
    refine ⟨_, rfl, i, rfl, ?_⟩
    refine ⟨by decide, by decide +kernel, ?_⟩
    show Q (.bl (decide ((if i < 0 then -i else i) < 10 ^ 60))) M
    have e : isIntD (.int i) = decide ((if i < 0 then -i else i) < 10 ^ 60) := by
      show (decide (-(10 ^ 60) < i) && decide (i < 10 ^ 60)) = _
      rw [Bool.eq_iff_iff, Bool.and_eq_true, decide_eq_true_eq, decide_eq_true_eq, decide_eq_true_eq]
      split <;> omega
    rw [e] at q
    exact q
  | bl b =>
    simp only [if_true]
    refine ⟨_, rfl, _, isi_bool t.ty, true, rfl, false, rfl, ?_⟩
    exact q
  | _ => exact q
/-- is each sign among these -/
theorem signs_all (s : Str) (l : List Nat) : (l.map fun c => D.bl (decide (c ∈ s.cps.toList))) = ((l.map fun c => decide (c ∈ s.cps.toList)).map D.bl) := by rw [List.map_map]; rfl
theorem in_sign (M : Hp3) (s : Str) (c : Nat) : InR M (.str ⟨#[c]⟩) (.str s) (decide (c ∈ s.cps.toList)) := by
  rw [← PySem.StrLaws.found_one]
  exact .str _ _
def signIn (s : Str) : D → Option D
  | .str ⟨#[c]⟩ => some (.bl (decide (c ∈ s.cps.toList)))
  | _ => none
theorem signIn_all (s : Str) (l : List Nat) : (l.map fun c => D.str ⟨#[c]⟩).filterMap (signIn s) = (l.map fun c => decide (c ∈ s.cps.toList)).map D.bl := by
  induction l with
  | nil => rfl
  | cons c l ih => rw [List.map_cons, List.filterMap_cons, List.map_cons, List.map_cons, ← ih]; rfl
/-- [x in s for x in text] -/
theorem signs_lc {Γ : Nat → Sp3} {z : Str} {σ : St3} {M0 : Hp3} {p : Addr} {Q : VK3} {g i : Nat} {s : Str} (hC : C23 g = .str s) (hi : i < σ.length) (hp : M0 p = none) (hz : z.length ≤ sizeLine) (fin : ∀ M, Gro M0 M → M p = some (.lst ((z.cps.toList.map fun c => decide (c ∈ s.cps.toList)).map D.bl)) → Q (.ref p) M) :
    lcW (Src.holds (.str z)) (.one i) (WC C23 Γ .no) (WE C23 Γ (.cmp .In (.var i) (.glo g))) σ p (Src.items (.str z)) (up3 M0 p (.lst [])) Q := by
  refine lcW_pur (signIn s) hp (fun _ _ => trivial) (by show (z.cps.toList.map _).length ≤ _; rw [List.length_map, Array.length_toList]; exact hz) (fun x hx M gM => ?_) fun M gM hM => fin M gM ?_
  · obtain ⟨c, _, rfl⟩ := List.mem_map.mp hx
    refine ⟨_, rfl, evT_yes, fun y hy M' g' K k => ?_⟩
    cases hy
    simp only [WE, WX, mkT]
    refine ⟨_, List.getElem?_set_self hi, ?_⟩
    rw [hC]
    exact ⟨_, in_sign M' s c, k _ _ ⟨rfl, Gro.refl _⟩⟩
  · rw [hM]
    exact congrArg (fun l => some (MO.lst l)) (signIn_all s z.cps.toList)
theorem is_name_spec (Γ : Nat → Sp3) (ds : List D) (M : Hp3) (Q : VK3) (h : spQ isNameD ds M Q) : WSs C23 Γ I_is_name { nx := fun _ M' => Q .non M', rt := Q } (start3 N_is_name ds) M := by
  obtain ⟨d, rfl, t, q⟩ := h
  have q0 := q M (Gro.refl M)
  simp only [I_is_name, WSs, WS, WE, WX, mkT, WA, WI, N_is_name, start3, List.map_cons, List.map_nil, List.length_cons, List.length_nil, List.replicate, List.append_nil]
  refine ⟨d, rfl, _, isi_str t.ty, _, rfl, ?_⟩
  cases d with
  | str z =>
    have hz := t.len
    simp only [if_true]
    refine ⟨_, rfl, _, _, rfl, if_pos hz, ?_⟩
    show cmpD .LtE (.int 1) (.int (z.length : Int)) M _
    have e : isNameD (.str z) = (decide (1 ≤ z.length) && (decide (z.length ≤ 8) && z.cps.toList.all fun c => decide (c ∈ letS.cps.toList))) := rfl
    show if decide ((1 : Int) ≤ (z.length : Int)) = true then _ else _
    by_cases c1 : 1 ≤ z.length
    · rw [if_pos (decide_eq_true (by omega))]
      show ∃ r, truD M (.bl (decide ((z.length : Int) ≤ 8))) = some r ∧ _
      refine ⟨_, rfl, ?_⟩
      by_cases c2 : z.length ≤ 8
      · rw [if_pos (decide_eq_true (by omega))]
        refine ⟨_, rfl, fun p hp => ?_⟩
        refine signs_lc (s := letS) rfl (by show 1 < 2; decide) hp hz fun M' g' hM' => ?_
        refine ⟨p, _, rfl, .inl hM', ?_⟩
        have e2 := q M' g'
        rw [e, decide_eq_true c1, decide_eq_true c2, Bool.true_and, Bool.true_and] at e2
        rw [List.all_map]
        exact e2
      · rw [if_neg (by rw [decide_eq_true_eq]; omega)]
        rw [e, decide_eq_true c1, decide_eq_false c2] at q0
        rw [decide_eq_false (by omega)]
        exact q0
    · rw [if_neg (by rw [decide_eq_true_eq]; omega)]
      rw [e, decide_eq_false c1] at q0
      exact ⟨false, rfl, by simpa using q0⟩
  | _ => exact q0

theorem shaped_str {x : Str} (h : PyData.strOk x = true) : SeqAt.shaped (.str x) = true := by simp [SeqAt.shaped, PyData.canLay0, PyData.depth, h]
theorem str_eq (M : Hp3) {x y : Str} (hx : PyData.strOk x = true) (hy : PyData.strOk y = true) : eqR M (.str x) (.str y) (x == y) := ⟨.str x, .str y, .str x, .str y, shaped_str hx, shaped_str hy, by simp [PyData.eqv]⟩
theorem sign_ok {z : Str} (h : PyData.strOk z = true) {i c : Nat} (e : z.cps.toList[i]? = some c) : PyData.strOk ⟨#[c]⟩ = true := by
  unfold PyData.strOk at h ⊢
  have hm : c ∈ z.cps := by
    rw [← Array.mem_toList_iff]
    exact List.mem_of_getElem? e
  have := Array.all_eq_true_iff_forall_mem.mp h c hm
  simpa using this
theorem itemAt_nat {α : Type} {xs : List α} {i : Nat} {x : α} (h : xs[i]? = some x) : itemAt xs (i : Int) = some x := by
  have hl : i < xs.length := (List.getElem?_eq_some_iff.mp h).1
  unfold itemAt atI ixN
  rw [if_pos (by omega), if_pos (by omega)]
  exact h
theorem one_sign (c d : Nat) : ((⟨#[c]⟩ : Str) == ⟨#[d]⟩) = decide (c = d) := by
  by_cases h : c = d
  · subst h
    rw [decide_eq_true rfl]
    exact beq_self_eq_true _
  · rw [decide_eq_false h, beq_eq_false_iff_ne]
    intro e
    injection e with e
    have := congrArg (fun a : Array Nat => a.toList) e
    simp at this
    exact h this
theorem is_new_spec (Γ : Nat → Sp3) (ds : List D) (M : Hp3) (Q : VK3) (h : spQ isNewD ds M Q) : WSs C23 Γ I_is_new { nx := fun _ M' => Q .non M', rt := Q } (start3 N_is_new ds) M := by
  obtain ⟨d, rfl, t, q⟩ := h
  have q0 := q M (Gro.refl M)
  simp only [I_is_new, WSs, WS, WE, WX, mkT, WA, WI, WO, WT, N_is_new, start3, List.map_cons, List.map_nil, List.length_cons, List.length_nil, List.replicate, List.append_nil]
  refine ⟨d, rfl, _, isi_str t.ty, _, rfl, ?_⟩
  cases d with
  | str z =>
    have hz := t.len
    simp only [Bool.not_true, Bool.false_eq_true, if_false]
    refine ⟨_, rfl, _, _, rfl, if_pos hz, ?_⟩
    show ∃ k, some (decide ((z.length : Int) < 2)) = some k ∧ _
    have e : isNewD (.str z) = (!(decide (z.length < 2)) && (decide (z.cps.toList[0]? = some 42) && (!(decide (z.cps.toList[1]? = some 48)) && (z.cps.toList.drop 1).all fun c => decide (c ∈ digS.cps.toList)))) := rfl
    refine ⟨_, rfl, ?_⟩
    by_cases c1 : z.length < 2
    · rw [decide_eq_true (by omega)]
      rw [e, decide_eq_true c1] at q0
      exact q0
    · rw [decide_eq_false (by omega)]
      simp only [Bool.false_eq_true, if_false]
      have hlz : z.cps.toList.length = z.length := by simp [Str.length]
      obtain ⟨a, ha⟩ := get_of_lt (l := z.cps.toList) (i := 0) (by omega)
      obtain ⟨b, hb⟩ := get_of_lt (l := z.cps.toList) (i := 1) (by omega)
      refine ⟨_, rfl, hz, a, itemAt_nat (i := 0) ha, ?_⟩
      refine ⟨_, str_eq M (sign_ok t.ok ha) (by decide +kernel), _, rfl, ?_⟩
      rw [show ((⟨#[a]⟩ : Str) == ("*" : Str)) = decide (a = 42) from one_sign a 42]
      rw [ha, hb] at e
      by_cases c2 : a = 42
      · subst c2
        rw [decide_eq_true rfl]
        simp only [Bool.not_true, Bool.false_eq_true, if_false]
        refine ⟨_, rfl, hz, b, itemAt_nat (i := 1) hb, ?_⟩
        refine ⟨_, str_eq M (sign_ok t.ok hb) (by decide +kernel), _, rfl, ?_⟩
        rw [show ((⟨#[b]⟩ : Str) == ("0" : Str)) = decide (b = 48) from one_sign b 48]
        by_cases c3 : b = 48
        · subst c3
          rw [decide_eq_true rfl]
          simp only [if_true]
          rw [e, decide_eq_false c1] at q0
          simpa using q0
        · rw [decide_eq_false c3]
          simp only [Bool.false_eq_true, if_false]
          refine ⟨_, rfl, 1, rfl, hz, ?_⟩
          intro p hp
          have hcut : (cutS z (some 1) none).cps.toList = z.cps.toList.drop 1 := by
            unfold cutS
            have h1 : HT.sIx z.length 0 (some 1) = 1 := by
              unfold HT.sIx
              simp
              omega
            have h2 : HT.sIx z.length z.length none = z.length := by
              unfold HT.sIx
              rfl
            rw [h1, h2]
            show (z.cps.toList.drop 1).take (z.length - 1) = _
            exact List.take_of_length_le (by rw [List.length_drop]; omega)
          refine signs_lc (s := digS) (z := cutS z (some 1) none) rfl (by show 1 < 2; decide) hp (Nat.le_trans (cutS_length _ _ _) hz) fun M' g' hM' => ?_
          refine ⟨p, _, rfl, .inl hM', ?_⟩
          have e2 := q M' g'
          have e3 : decide (some b = some 48) = false := by simp [c3]
          have e4 : decide (some 42 = some 42) = true := by simp
          rw [e, decide_eq_false c1, e4, e3] at e2
          rw [List.all_map, hcut]
          simpa using e2
      · rw [decide_eq_false c2]
        simp only [Bool.not_false, if_true]
        have e3 : decide (some a = some 42) = false := by simp [c2]
        rw [e, decide_eq_false c1, e3] at q0
        simpa using q0
  | _ => exact q0
end L3

set_option Elab.async false
set_option linter.all false
set_option maxRecDepth 100000
set_option maxHeartbeats 4000000
/-! E3: is_place .. require_differences. -/
namespace L3
open PySem PySem.Spec PyProof.Rows L2

theorem len0_str {z : Str} : (z == ("" : Str)) = decide (z.length = 0) := by
  by_cases h : z.length = 0
  · rw [decide_eq_true h]
    have : z = ("" : Str) := by
      obtain ⟨a⟩ := z
      have : a = #[] := Array.eq_empty_of_size_eq_zero h
      rw [this]
      rfl
    rw [this]
    decide +kernel
  · rw [decide_eq_false h, beq_eq_false_iff_ne]
    intro e
    rw [e] at h
    exact h (by decide +kernel)
theorem is_place_spec (Γ : Nat → Sp3) (h1 : Γ 1 = spQ isNameD) (h2 : Γ 2 = spQ isNewD) (ds : List D) (M : Hp3) (Q : VK3) (h : spQ isPlaceD ds M Q) : WSs C23 Γ I_is_place { nx := fun _ M' => Q .non M', rt := Q } (start3 N_is_place ds) M := by
  obtain ⟨d, rfl, t, q⟩ := h
  have q0 := q M (Gro.refl M)
  simp only [I_is_place, WSs, WS, WE, WX, mkT, WA, h1, h2, N_is_place, start3, List.map_cons, List.map_nil, List.length_cons, List.length_nil, List.replicate, List.append_nil]
  refine ⟨d, rfl, _, isi_str t.ty, _, rfl, ?_⟩
  cases d with
  | str z =>
    simp only [if_true]
    refine ⟨_, rfl, _, str_eq M t.ok (by decide +kernel), _, rfl, ?_⟩
    have e : isPlaceD (.str z) = (decide (z.length = 0) || (isNameD (.str z) || isNewD (.str z))) := rfl
    rw [len0_str]
    by_cases c1 : z.length = 0
    · rw [decide_eq_true c1] at e ⊢
      simp only [if_true]
      rw [e] at q0
      exact q0
    · rw [decide_eq_false c1] at e ⊢
      simp only [Bool.false_eq_true, if_false]
      refine ⟨_, rfl, _, rfl, t, fun M1 g1 => ⟨_, rfl, ?_⟩⟩
      cases c2 : isNameD (.str z) with
      | true =>
        simp only [if_true]
        have := q M1 g1
        rw [e, c2] at this
        exact this
      | false =>
        simp only [Bool.false_eq_true, if_false]
        refine ⟨_, rfl, _, rfl, t.gro g1, fun M2 g2 => ?_⟩
        have := q M2 (g1.trans g2)
        rw [e, c2] at this
        exact this
  | _ => exact q0
theorem is_point_spec (Γ : Nat → Sp3) (h0 : Γ 0 = spQ isIntD) (h1 : Γ 1 = spQ isNameD) (h3 : Γ 3 = spQ isPlaceD) (ds : List D) (M : Hp3) (Q : VK3) (h : spQ isPointD ds M Q) : WSs C23 Γ I_is_point { nx := fun _ M' => Q .non M', rt := Q } (start3 N_is_point ds) M := by
  obtain ⟨d, rfl, t, q⟩ := h
  have q0 := q M (Gro.refl M)
  simp only [I_is_point, WSs, WS, WE, WX, mkT, WA, WT, h0, h1, h3, N_is_point, start3, List.map_cons, List.map_nil, List.length_cons, List.length_nil, List.replicate, List.append_nil]
  refine ⟨d, rfl, _, isi_tuple t.ty, _, rfl, ?_⟩
  have plain : isPointD d = isPlaceD d → ∃ d_1, (some d :: ([] : St3))[0]? = some (some d_1) ∧ spQ isPlaceD [d_1] M Q := fun e => ⟨d, rfl, d, rfl, t, fun M' g => by rw [← e]; exact q M' g⟩
  cases d with
  | tup ds =>
    simp only [Bool.not_true, Bool.false_eq_true, if_false]
    refine ⟨_, rfl, _, _, rfl, rfl, _, ⟨.int ds.length, .int 3, .int _, .int _, by simp [SeqAt.shaped, PyData.canLay0, PyData.depth], by simp [SeqAt.shaped, PyData.canLay0, PyData.depth], rfl⟩, _, rfl, ?_⟩
    have tt : ∀ d ∈ ds, Tame M d := by
      cases t with
      | tup h => exact h
    by_cases c : ds.length = 3
    · match ds, c, q, q0, tt with
      | [a, b, c], _, q, q0, tt =>
        have ta := tt a (by simp)
        have tb := tt b (by simp)
        have tc := tt c (by simp)
        have e : isPointD (.tup [a, b, c]) = (isNameD a && (isPlaceD b && isIntD c)) := rfl
        rw [if_pos (by simp [PyData.eqv])]
        refine ⟨_, rfl, a, rfl, a, rfl, ta, fun M1 g1 => ⟨_, rfl, ?_⟩⟩
        cases c1 : isNameD a with
        | false =>
          have := q M1 g1
          rw [e, c1] at this
          exact this
        | true =>
          simp only [if_true]
          refine ⟨_, rfl, b, rfl, b, rfl, tb.gro g1, fun M2 g2 => ⟨_, rfl, ?_⟩⟩
          cases c2 : isPlaceD b with
          | false =>
            have := q M2 (g1.trans g2)
            rw [e, c1, c2] at this
            exact this
          | true =>
            simp only [if_true]
            refine ⟨_, rfl, c, rfl, c, rfl, (tc.gro g1).gro g2, fun M3 g3 => ?_⟩
            have := q M3 (g1.trans (g2.trans g3))
            rw [e, c1, c2] at this
            exact this
    · have e : isPointD (.tup ds) = false := by
        match ds, c with
        | [], _ => rfl
        | [_], _ => rfl
        | [_, _], _ => rfl
        | [_, _, _], c => exact absurd rfl c
        | _ :: _ :: _ :: _ :: _, _ => rfl
      have e2 : PyData.eqv (.int (ds.length : Int)) (.int 3) = false := by
        simp [PyData.eqv]
        omega
      rw [e2]
      rw [e] at q0
      exact q0
  | str z => exact plain rfl
  | non => exact plain rfl
  | bl b => exact plain rfl
  | int i => exact plain rfl
  | ref a => exact plain rfl
  | sl ns => cases t
theorem is_difference_spec (Γ : Nat → Sp3) (h0 : Γ 0 = spQ isIntD) (h4 : Γ 4 = spQ isPointD) (ds : List D) (M : Hp3) (Q : VK3) (h : spQ isDiffD ds M Q) : WSs C23 Γ I_is_difference { nx := fun _ M' => Q .non M', rt := Q } (start3 N_is_difference ds) M := by
  obtain ⟨d, rfl, t, q⟩ := h
  have q0 := q M (Gro.refl M)
  simp only [I_is_difference, WSs, WS, WE, WX, mkT, WA, WT, h0, h4, N_is_difference, start3, List.map_cons, List.map_nil, List.length_cons, List.length_nil, List.replicate, List.append_nil]
  refine ⟨d, rfl, _, isi_tuple t.ty, _, rfl, ?_⟩
  cases d with
  | tup ds =>
    simp only [Bool.not_true, Bool.false_eq_true, if_false]
    refine ⟨_, rfl, _, _, rfl, rfl, _, ⟨.int ds.length, .int 3, .int _, .int _, by simp [SeqAt.shaped, PyData.canLay0, PyData.depth], by simp [SeqAt.shaped, PyData.canLay0, PyData.depth], rfl⟩, _, rfl, ?_⟩
    have tt : ∀ d ∈ ds, Tame M d := by
      cases t with
      | tup h => exact h
    by_cases c : ds.length = 3
    · match ds, c, q, q0, tt with
      | [a, b, c], _, q, q0, tt =>
        have ta := tt a (by simp)
        have tb := tt b (by simp)
        have tc := tt c (by simp)
        have e : isDiffD (.tup [a, b, c]) = (isPointD a && (isPointD b && isIntD c)) := rfl
        rw [if_neg (by simp [PyData.eqv])]
        refine ⟨_, rfl, a, rfl, a, rfl, ta, fun M1 g1 => ⟨_, rfl, ?_⟩⟩
        cases c1 : isPointD a with
        | false =>
          have := q M1 g1
          rw [e, c1] at this
          exact this
        | true =>
          simp only [if_true]
          refine ⟨_, rfl, b, rfl, b, rfl, tb.gro g1, fun M2 g2 => ⟨_, rfl, ?_⟩⟩
          cases c2 : isPointD b with
          | false =>
            have := q M2 (g1.trans g2)
            rw [e, c1, c2] at this
            exact this
          | true =>
            simp only [if_true]
            refine ⟨_, rfl, c, rfl, c, rfl, (tc.gro g1).gro g2, fun M3 g3 => ?_⟩
            have := q M3 (g1.trans (g2.trans g3))
            rw [e, c1, c2] at this
            exact this
    · have e : isDiffD (.tup ds) = false := by
        match ds, c with
        | [], _ => rfl
        | [_], _ => rfl
        | [_, _], _ => rfl
        | [_, _, _], c => exact absurd rfl c
        | _ :: _ :: _ :: _ :: _, _ => rfl
      have e2 : PyData.eqv (.int (ds.length : Int)) (.int 3) = false := by
        simp [PyData.eqv]
        omega
      rw [e2]
      rw [e] at q0
      exact q0
  | _ => exact q0
/-- differences that are some: never refused -/
abbrev sp_require : Sp3 := fun ds M Q => ∃ rows, ds = [.tup rows] ∧ rows.length ≤ 60 ∧ (∀ r ∈ rows, isDiffD r = true ∧ Tame M r) ∧ ∀ M', Gro M M' → Q .non M'
theorem require_spec (Γ : Nat → Sp3) (h5 : Γ 5 = spQ isDiffD) (ds : List D) (M : Hp3) (Q : VK3) (h : sp_require ds M Q) : WSs C23 Γ I_require_differences { nx := fun _ M' => Q .non M', rt := Q } (start3 N_require_differences ds) M := by
  obtain ⟨rows, rfl, hl, hr, q⟩ := h
  simp only [I_require_differences, WSs, WS, WE, WX, mkT, WA, WT, WI, N_require_differences, start3, List.map_cons, List.map_nil, List.length_cons, List.length_nil, List.replicate, List.append_nil]
  refine ⟨_, rfl, _, isi_tuple ⟨_, rfl⟩, _, rfl, ?_⟩
  simp only [Bool.not_true, Bool.false_eq_true, if_false]
  refine ⟨_, rfl, _, _, rfl, rfl, ?_⟩
  refine ⟨_, rfl, ?_⟩
  rw [if_neg (by show ¬ decide ((60 : Int) < (rows.length : Int)) = true; rw [decide_eq_true_eq]; omega)]
  refine ⟨_, rfl, fun p hp => ?_⟩
  have hz : rows.length ≤ sizeLine := by have := sizeLine_eq; omega
  refine lcW_pur (fun _ => some (.bl true)) hp (fun _ _ => trivial) hz (fun x hx M1 g1 => ⟨_, rfl, evT_yes, fun y hy M2 g2 K k => ?_⟩) fun M' g' hM' => ?_
  · cases hy
    rw [h5]
    have := hr x hx
    exact ⟨_, rfl, x, rfl, (this.2.gro g1).gro g2, fun M3 g3 => by rw [this.1]; exact k _ _ ⟨rfl, g3⟩⟩
  · have e : rows.filterMap (fun _ : D => some (D.bl true)) = (rows.map fun _ => true).map D.bl := by
      rw [List.filterMap_eq_map', List.map_map]
      rfl
    rw [show (Src.tup rows).items = rows from rfl, e] at hM'
    refine ⟨p, _, rfl, .inl hM', _, rfl, ?_⟩
    have e2 : (rows.map fun _ => true).all id = true := by
      rw [List.all_map]
      exact List.all_eq_true.mpr fun _ _ => rfl
    rw [e2]
    exact q M' g'
end L3

set_option Elab.async false
set_option linter.all false
set_option maxRecDepth 100000
set_option maxHeartbeats 4000000
/-! E4: points, rows. -/
namespace L3
open PySem PySem.Spec PyProof.Rows L2

inductive Pt where
  | s (z : Str)
  | t (a b : Str) (i : Int)
  deriving DecidableEq
def Pt.d : Pt → D
  | .s z => .str z
  | .t a b i => .tup [.str a, .str b, .int i]
def Pt.key : Pt → NestedKey
  | .s z => .text z
  | .t a b i => .tup [.text a, .text b, .num i]
def Pt.py : Pt → PyData
  | .s z => .str z
  | .t a b i => .tuple [.str a, .str b, .int i]
/-- texts of a size -/
def okS (z : Str) : Bool := decide (z.length ≤ 1000) && PyData.strOk z
def Pt.ok : Pt → Bool
  | .s z => okS z
  | .t a b _ => okS a && okS b
theorem okS_len {z : Str} (h : okS z = true) : z.length ≤ 1000 := by
  unfold okS at h
  rw [Bool.and_eq_true, decide_eq_true_eq] at h
  exact h.1
theorem okS_ok {z : Str} (h : okS z = true) : PyData.strOk z = true := by
  unfold okS at h
  rw [Bool.and_eq_true, decide_eq_true_eq] at h
  exact h.2
theorem Pt.keyOf (p : Pt) : keyOf p.d = some p.key := by
  cases p with
  | s z => simp [Pt.d, L3.keyOf, keyD, Pt.key, NestedKey.depth]
  | t a b i => simp [Pt.d, L3.keyOf, keyD, keyDs, Pt.key, NestedKey.depth, NestedKey.depthAll]
theorem Pt.key_inj {p q : Pt} (h : p.key = q.key) : p = q := by
  cases p <;> cases q <;> simp [Pt.key] at h ⊢ <;> exact h
theorem Pt.d_inj {p q : Pt} (h : p.d = q.d) : p = q := by
  cases p <;> cases q <;> simp [Pt.d] at h ⊢ <;> exact h
theorem Pt.key_iff {p q : Pt} : (L3.keyOf p.d = some q.key) ↔ p = q := by
  rw [Pt.keyOf]
  exact ⟨fun h => Pt.key_inj (Option.some.inj h), fun h => by rw [h]⟩
theorem Pt.tame {M : Hp3} {p : Pt} (h : p.ok = true) : Tame M p.d := by
  cases p with
  | s z => exact .str (okS_len h) (okS_ok h)
  | t a b i =>
    simp only [Pt.ok, Bool.and_eq_true] at h
    refine .tup fun d hd => ?_
    rcases List.mem_cons.mp hd with rfl | hd
    · exact .str (okS_len h.1) (okS_ok h.1)
    · rcases List.mem_cons.mp hd with rfl | hd
      · exact .str (okS_len h.2) (okS_ok h.2)
      · rw [List.mem_singleton.mp hd]
        exact .int i
theorem Pt.data {M : Hp3} (p : Pt) : DataAt M p.d p.py := by
  cases p with
  | s z => exact .str z
  | t a b i => exact .tup (.cons (.str a) (.cons (.str b) (.cons (.int i) .nil)))
theorem Pt.canLay {p : Pt} (h : p.ok = true) : p.py.canLay0 = true := by
  cases p with
  | s z => simp [Pt.py, PyData.canLay0, okS_ok h]
  | t a b i =>
    simp only [Pt.ok, Bool.and_eq_true] at h
    simp [Pt.py, PyData.canLay0, PyData.canLayAll0, okS_ok h.1, okS_ok h.2]
theorem Pt.depth (p : Pt) : p.py.depth ≤ 2 := by
  cases p <;> simp [Pt.py, PyData.depth, PyData.depthAll]
theorem Pt.shaped {p : Pt} (h : p.ok = true) : SeqAt.shaped p.py = true := by
  have := Pt.depth p
  simp [SeqAt.shaped, Pt.canLay h]
  omega
theorem Pt.eqv (p q : Pt) : PyData.eqv p.py q.py = decide (p = q) := by
  cases p with
  | s z =>
    cases q with
    | s y =>
      show PyData.eqv (.str z) (.str y) = _
      rw [show PyData.eqv (.str z) (.str y) = (z == y) from by simp [PyData.eqv]]
      by_cases h : z = y
      · rw [h, decide_eq_true rfl, beq_self_eq_true]
      · rw [decide_eq_false (fun e => h (Pt.s.inj e)), beq_eq_false_iff_ne]
        exact h
    | t a b i =>
      rw [decide_eq_false (fun e => by cases e)]
      simp [Pt.py, PyData.eqv]
  | t a b i =>
    cases q with
    | s y =>
      rw [decide_eq_false (fun e => by cases e)]
      simp [Pt.py, PyData.eqv]
    | t a' b' i' =>
      have e : PyData.eqv (Pt.py (.t a b i)) (Pt.py (.t a' b' i')) = ((a == a') && ((b == b') && (i == i'))) := by simp [Pt.py, PyData.eqv, PyData.eqvAll]
      rw [e]
      by_cases h : (Pt.t a b i) = .t a' b' i'
      · rw [decide_eq_true h]
        injection h with h1 h2 h3
        simp [h1, h2, h3]
      · rw [decide_eq_false h]
        by_cases h1 : a = a'
        · by_cases h2 : b = b'
          · have h3 : i ≠ i' := fun h3 => h (by rw [h1, h2, h3])
            simp [h1, h2, h3]
          · simp [h2]
        · simp [h1]
theorem Pt.eqR {M : Hp3} {p q : Pt} (hp : p.ok = true) (hq : q.ok = true) : eqR M p.d q.d (decide (p = q)) := ⟨p.py, q.py, p.data, q.data, Pt.shaped hp, Pt.shaped hq, (Pt.eqv p q).symm⟩
/-- a row: number of the first - number of the second ≤ w -/
structure Row where
  a : Pt
  b : Pt
  w : Int
  deriving DecidableEq
def Row.d (r : Row) : D := .tup [r.a.d, r.b.d, .int r.w]
def Row.ok (r : Row) : Bool := r.a.ok && r.b.ok
theorem Row.tame {M : Hp3} {r : Row} (h : r.ok = true) : Tame M r.d := by
  simp only [Row.ok, Bool.and_eq_true] at h
  refine .tup fun d hd => ?_
  rcases List.mem_cons.mp hd with rfl | hd
  · exact Pt.tame h.1
  · rcases List.mem_cons.mp hd with rfl | hd
    · exact Pt.tame h.2
    · rw [List.mem_singleton.mp hd]
      exact .int _
/-! ### the points of some rows -/
def addP (l : List Pt) (p : Pt) : List Pt := if p ∈ l then l else l ++ [p]
def ptsF (l : List Pt) (rows : List Row) : List Pt := rows.foldl (fun l r => addP (addP l r.a) r.b) l
def ptsOf (rows : List Row) : List Pt := ptsF [.s ""] rows
theorem addP_mem {l : List Pt} {p q : Pt} : q ∈ addP l p ↔ q ∈ l ∨ q = p := by
  unfold addP
  split
  · rename_i h
    exact ⟨.inl, fun h' => h'.elim id fun e => e ▸ h⟩
  · simp
theorem addP_nodup {l : List Pt} {p : Pt} (h : l.Nodup) : (addP l p).Nodup := by
  unfold addP
  split
  · exact h
  · rename_i hp
    exact List.nodup_append.mpr ⟨h, by simp, fun a ha b hb e => hp (by rw [← List.mem_singleton.mp hb, ← e]; exact ha)⟩
theorem addP_len {l : List Pt} {p : Pt} : (addP l p).length ≤ l.length + 1 := by
  unfold addP
  split <;> simp
theorem ptsF_mem {q : Pt} : ∀ {rows : List Row} {l : List Pt}, q ∈ ptsF l rows ↔ q ∈ l ∨ ∃ r ∈ rows, q = r.a ∨ q = r.b
  | [], l => by simp [ptsF]
  | r :: rows, l => by
    show q ∈ ptsF (addP (addP l r.a) r.b) rows ↔ _
    rw [ptsF_mem, addP_mem, addP_mem]
    simp only [List.mem_cons]
    constructor
    · rintro (((h | h) | h) | ⟨r', h1, h2⟩)
      · exact .inl h
      · exact .inr ⟨r, .inl rfl, .inl h⟩
      · exact .inr ⟨r, .inl rfl, .inr h⟩
      · exact .inr ⟨r', .inr h1, h2⟩
    · rintro (h | ⟨r', rfl | h1, h2⟩)
      · exact .inl (.inl (.inl h))
      · rcases h2 with h2 | h2
        · exact .inl (.inl (.inr h2))
        · exact .inl (.inr h2)
      · exact .inr ⟨r', h1, h2⟩
theorem ptsF_nodup : ∀ {rows : List Row} {l : List Pt}, l.Nodup → (ptsF l rows).Nodup
  | [], l, h => h
  | r :: rows, l, h => ptsF_nodup (rows := rows) (addP_nodup (addP_nodup h))
theorem ptsF_len : ∀ {rows : List Row} {l : List Pt}, (ptsF l rows).length ≤ l.length + 2 * rows.length
  | [], l => by show l.length ≤ l.length + 0; omega
  | r :: rows, l => by
    have h1 := ptsF_len (rows := rows) (l := addP (addP l r.a) r.b)
    have h2 := addP_len (l := l) (p := r.a)
    have h3 := addP_len (l := addP l r.a) (p := r.b)
    show (ptsF (addP (addP l r.a) r.b) rows).length ≤ _
    rw [List.length_cons]
    omega
theorem ptsF_append {l : List Pt} (rows : List Row) (r : Row) : ptsF l (rows ++ [r]) = addP (addP (ptsF l rows) r.a) r.b := by
  unfold ptsF
  rw [List.foldl_append]
  rfl
theorem ptsOf_mem {rows : List Row} {q : Pt} : q ∈ ptsOf rows ↔ q = .s "" ∨ ∃ r ∈ rows, q = r.a ∨ q = r.b := by
  unfold ptsOf
  rw [ptsF_mem, List.mem_singleton]
theorem ptsOf_nodup (rows : List Row) : (ptsOf rows).Nodup := ptsF_nodup (by simp)
theorem ptsOf_len (rows : List Row) : (ptsOf rows).length ≤ 1 + 2 * rows.length := ptsF_len
theorem ptsOf_ok {rows : List Row} (h : ∀ r ∈ rows, r.ok = true) : ∀ p ∈ ptsOf rows, p.ok = true := by
  intro p hp
  rcases ptsOf_mem.mp hp with rfl | ⟨r, hr, e⟩
  · decide +kernel
  · have := h r hr
    simp only [Row.ok, Bool.and_eq_true] at this
    rcases e with rfl | rfl
    · exact this.1
    · exact this.2
/-! ### dicts of points -/
abbrev PD := List (Pt × D)
def PD.kv (l : PD) : List (D × D) := l.map fun q => (q.1.d, q.2)
def PD.look (l : PD) (p : Pt) : Option D := (l.find? fun q => decide (q.1 = p)).map (·.2)
def PD.put (l : PD) (p : Pt) (v : D) : PD := if p ∈ l.map (·.1) then l.map (fun q => if q.1 = p then (q.1, v) else q) else l ++ [(p, v)]
theorem PD.look_kv (p : Pt) : ∀ l : PD, lookD l.kv p.key = l.look p
  | [] => rfl
  | q :: l => by
    have ih := PD.look_kv p l
    unfold lookD PD.look PD.kv at ih ⊢
    rw [List.map_cons, List.find?_cons, List.find?_cons]
    by_cases h : q.1 = p
    · rw [decide_eq_true (Pt.key_iff.mpr h), decide_eq_true h]
      rfl
    · rw [decide_eq_false (fun z => h (Pt.key_iff.mp z)), decide_eq_false h]
      exact ih
theorem PD.any_kv (p : Pt) : ∀ l : PD, l.kv.any (fun q => decide (keyOf q.1 = some p.key)) = decide (p ∈ l.map (·.1))
  | [] => rfl
  | q :: l => by
    have ih := PD.any_kv p l
    unfold PD.kv at ih ⊢
    rw [List.map_cons, List.any_cons, ih, List.map_cons]
    by_cases h : q.1 = p
    · rw [decide_eq_true (Pt.key_iff.mpr h), Bool.true_or, decide_eq_true (by rw [h]; exact List.mem_cons_self)]
    · rw [decide_eq_false (fun z => h (Pt.key_iff.mp z)), Bool.false_or, Bool.eq_iff_iff, decide_eq_true_eq, decide_eq_true_eq, List.mem_cons]
      exact ⟨.inr, fun z => z.elim (fun e => absurd e.symm h) id⟩
theorem PD.put_kv (l : PD) (p : Pt) (v : D) : putD l.kv p.key p.d v = (l.put p v).kv := by
  unfold putD PD.put
  rw [PD.any_kv]
  by_cases h : p ∈ l.map (·.1)
  · rw [if_pos (decide_eq_true h), if_pos h]
    unfold PD.kv
    rw [List.map_map, List.map_map]
    refine List.map_congr_left fun q _ => ?_
    show (if keyOf q.1.d = some p.key then (q.1.d, v) else (q.1.d, q.2)) = _
    by_cases e : q.1 = p
    · rw [if_pos (Pt.key_iff.mpr e)]
      show _ = ((if q.1 = p then (q.1, v) else q).1.d, (if q.1 = p then (q.1, v) else q).2)
      rw [if_pos e]
    · rw [if_neg (fun z => e (Pt.key_iff.mp z))]
      show _ = ((if q.1 = p then (q.1, v) else q).1.d, (if q.1 = p then (q.1, v) else q).2)
      rw [if_neg e]
  · rw [if_neg (by rw [decide_eq_true_eq]; exact h), if_neg h]
    unfold PD.kv
    rw [List.map_append]
    rfl
theorem PD.look_some {l : PD} {p : Pt} : (l.look p).isSome = decide (p ∈ l.map (·.1)) := by
  induction l with
  | nil => rfl
  | cons q l ih =>
    unfold PD.look at ih ⊢
    rw [List.find?_cons, List.map_cons]
    by_cases h : q.1 = p
    · rw [decide_eq_true h, decide_eq_true (by rw [h]; exact List.mem_cons_self)]
      rfl
    · rw [decide_eq_false h, Bool.eq_iff_iff, decide_eq_true_eq, List.mem_cons]
      dsimp only
      rw [ih, decide_eq_true_eq]
      exact ⟨.inr, fun z => z.elim (fun e => absurd e.symm h) id⟩
theorem PD.look_put {l : PD} {p q : Pt} {v : D} : (l.put p v).look q = if q = p then some v else l.look q := by
  induction l with
  | nil =>
    unfold PD.put
    rw [if_neg (by simp)]
    unfold PD.look
    rw [List.nil_append, List.find?_cons]
    by_cases h : q = p
    · rw [if_pos h, decide_eq_true h.symm] <;> rfl
    · rw [if_neg h, decide_eq_false (fun z => h z.symm)] <;> rfl
  | cons x l ih =>
    unfold PD.put at ih ⊢
    by_cases hx : x.1 = p
    · rw [if_pos (by rw [List.map_cons, hx]; exact List.mem_cons_self), List.map_cons, if_pos hx]
      unfold PD.look
      rw [List.find?_cons, List.find?_cons]
      by_cases h : q = p
      · rw [if_pos h, decide_eq_true (by rw [hx, h])]
        rfl
      · have hxq : ¬ x.1 = q := fun z => h (by rw [← z, hx])
        rw [if_neg h, decide_eq_false hxq]
        dsimp only
        have : (l.map fun q => if q.1 = p then (q.1, v) else q).find? (fun y => decide (y.1 = q)) = l.find? (fun y => decide (y.1 = q)) := by
          clear ih
          induction l with
          | nil => rfl
          | cons y l ih =>
            rw [List.map_cons, List.find?_cons, List.find?_cons, ih]
            by_cases hy : y.1 = p
            · rw [if_pos hy]
              dsimp only
              rw [decide_eq_false (fun z => h (by rw [← z, hy]))]
            · rw [if_neg hy]
        rw [this]
    · by_cases hm : p ∈ l.map (·.1)
      · rw [if_pos (by rw [List.map_cons]; exact List.mem_cons_of_mem _ hm), List.map_cons, if_neg hx]
        rw [if_pos hm] at ih
        unfold PD.look at ih ⊢
        rw [List.find?_cons, List.find?_cons]
        by_cases h : x.1 = q
        · rw [decide_eq_true h]
          dsimp only
          rw [if_neg (fun z => hx (by rw [h, z]))]
        · rw [decide_eq_false h]
          exact ih
      · rw [if_neg (by rw [List.map_cons, List.mem_cons, not_or]; exact ⟨fun z => hx z.symm, hm⟩), List.cons_append]
        rw [if_neg hm] at ih
        unfold PD.look at ih ⊢
        rw [List.find?_cons, List.find?_cons]
        by_cases h : x.1 = q
        · rw [decide_eq_true h]
          dsimp only
          rw [if_neg (fun z => hx (by rw [h, z]))]
        · rw [decide_eq_false h]
          exact ih
theorem PD.put_keys {l : PD} {p : Pt} {v : D} : (l.put p v).map (·.1) = addP (l.map (·.1)) p := by
  unfold PD.put addP
  by_cases h : p ∈ l.map (·.1)
  · rw [if_pos h, if_pos h, List.map_map]
    refine List.map_congr_left fun q _ => ?_
    show (if q.1 = p then (q.1, v) else q).1 = q.1
    split <;> rfl
  · rw [if_neg h, if_neg h, List.map_append]
    rfl
theorem PD.put_len {l : PD} {p : Pt} {v : D} : (l.put p v).length ≤ l.length + 1 := by
  unfold PD.put
  split <;> simp
end L3

set_option Elab.async false
set_option linter.all false
set_option maxRecDepth 100000
set_option maxHeartbeats 4000000
/-! E5: points_of, _law_points_in. -/
namespace L3
open PySem PySem.Spec PyProof.Rows L2

theorem perm_map_inv {α β : Type} {f : α → β} {l : List α} {r : List β} (h : r.Perm (l.map f)) : ∃ l' : List α, l'.Perm l ∧ r = l'.map f := by
  have base : ∀ l : List α, Paired (fun a b => b = f a) l (l.map f) := by
    intro l
    induction l with
    | nil => exact .nil
    | cons a l ih => exact .cons rfl ih
  obtain ⟨l', p, q⟩ := Paired.perm (base l) h
  refine ⟨l', p, ?_⟩
  clear p h base
  induction q with
  | nil => rfl
  | cons h _ ih => rw [List.map_cons, h, ih]
def Pt.isS : Pt → Bool
  | .s _ => true
  | _ => false
theorem perm_parts (l : List Pt) : ((l.filter Pt.isS) ++ (l.filter fun p => !p.isS)).Perm l := by
  induction l with
  | nil => exact .nil
  | cons p l ih =>
    cases h : p.isS with
    | true =>
      rw [List.filter_cons_of_pos h, List.filter_cons_of_neg (by simp [h])]
      exact ih.cons p
    | false =>
      rw [List.filter_cons_of_neg (by simp [h]), List.filter_cons_of_pos (by simp [h])]
      exact List.perm_middle.trans (ih.cons p)
/-- the points of some differences, in some order, in a new list -/
abbrev sp_points : Sp3 := fun ds M Q => ∃ rows : List Row, ds = [.tup (rows.map Row.d)] ∧ rows.length ≤ 20 ∧ (∀ r ∈ rows, r.ok = true) ∧ ∀ (M' : Hp3) (p : Addr) (qs : List Pt), Gro M M' → M p = none → M' p = some (.lst (qs.map Pt.d)) → qs.Perm (ptsOf rows) → Q (.ref p) M'
theorem ty_pt (M : Hp3) (p : Pt) : Ty M p.d := by
  cases p <;> exact ⟨_, rfl⟩
theorem isS_str (M : Hp3) (p : Pt) : isiD M p.d "str" = some p.isS := by
  rw [isi_str (ty_pt M p)]
  cases p <;> rfl
theorem isS_tup (M : Hp3) (p : Pt) : isiD M p.d "tuple" = some (!p.isS) := by
  rw [isi_tuple (ty_pt M p)]
  cases p <;> rfl
/-- sorted of points of one kind -/
theorem sort_pts {M : Hp3} {a : Addr} {l : List Pt} {b : Bool} (hb : ∀ p ∈ l, p.isS = b) (hm : M a = some (.lst (l.map Pt.d))) (hl : l.length < 64) {Q : VK3} (h : ∀ (l' : List Pt) (p : Addr), l'.Perm l → M p = none → Q (.ref p) (up3 M p (.lst (l'.map Pt.d)))) : biD .sorted [.ref a] M Q := by
  refine ⟨a, _, rfl, .inl hm, by rw [List.length_map]; exact hl, ?_, fun es p pe hp => ?_⟩
  · cases b with
    | true =>
      left
      intro d hd
      obtain ⟨p, hp, rfl⟩ := List.mem_map.mp hd
      have := hb p hp
      cases p with
      | s z => exact ⟨z, rfl⟩
      | t _ _ _ => cases this
    | false =>
      right
      refine ⟨[true, true, false], by simp, fun d hd => ?_⟩
      obtain ⟨p, hp, rfl⟩ := List.mem_map.mp hd
      have := hb p hp
      cases p with
      | s z => cases this
      | t x y i => exact ⟨_, rfl, .cons (by simp) (.cons (by simp) (.cons (by simp) .nil))⟩
  · obtain ⟨l', p', rfl⟩ := perm_map_inv pe
    exact h l' p p' hp
def optPt (f : D → Bool) : D → Option D := fun d => if f d = true then some d else none
theorem filterMap_pt (f : Pt → Bool) (g : D → Bool) (h : ∀ p, g p.d = f p) : ∀ l : List Pt, (l.map Pt.d).filterMap (optPt g) = (l.filter f).map Pt.d
  | [] => rfl
  | p :: l => by
    have ih := filterMap_pt f g h l
    rw [List.map_cons, List.filterMap_cons]
    unfold optPt at ih ⊢
    rw [h p]
    cases hp : f p with
    | true =>
      rw [if_pos rfl, List.filter_cons_of_pos hp, List.map_cons, ih]
    | false =>
      rw [if_neg (by decide), List.filter_cons_of_neg (by simp [hp]), ih]
def isStrD : D → Bool
  | .str _ => true
  | _ => false
theorem isStrD_pt (p : Pt) : isStrD p.d = p.isS := by cases p <;> rfl
def kvT (l : List Pt) : PD := l.map fun p => (p, D.bl true)
theorem kvT_keys (l : List Pt) : (kvT l).kv.map (·.1) = l.map Pt.d := by
  unfold kvT PD.kv
  rw [List.map_map, List.map_map]
  rfl
theorem kvT_put (l : List Pt) (p : Pt) : (kvT l).put p (.bl true) = kvT (addP l p) := by
  unfold PD.put addP
  have e : (kvT l).map (·.1) = l := by
    unfold kvT
    rw [List.map_map]
    exact List.map_id l
  rw [e]
  by_cases h : p ∈ l
  · rw [if_pos h, if_pos h]
    unfold kvT
    rw [List.map_map]
    refine List.map_congr_left fun q _ => ?_
    show (if q = p then (q, D.bl true) else (q, D.bl true)) = _
    split <;> rfl
  · rw [if_neg h, if_neg h]
    unfold kvT
    rw [List.map_append]
    rfl
theorem kvT_len (l : List Pt) : (kvT l).kv.length = l.length := by
  unfold kvT PD.kv
  rw [List.length_map, List.length_map]
/-- found[point] = True -/
theorem putT {M : Hp3} {a : Addr} {l : List Pt} {p : Pt} {Q : Hp3 → Prop} (hm : M a = some (.dct (kvT l).kv)) (hl : l.length < 1000) (h : Q (up3 M a (.dct (kvT (addP l p)).kv))) : putW (.ref a) p.d (.bl true) M Q := by
  refine .inl ⟨a, _, p.key, rfl, hm, p.keyOf, by rw [kvT_len]; have := sizeLine_eq; omega, ?_⟩
  rw [PD.put_kv, kvT_put]
  exact h
theorem points_of_spec (Γ : Nat → Sp3) (ds : List D) (M : Hp3) (Q : VK3) (h : sp_points ds M Q) : WSs C23 Γ I_points_of { nx := fun _ M' => Q .non M', rt := Q } (start3 N_points_of ds) M := by
  obtain ⟨rows, rfl, hl, hr, q⟩ := h
  simp only [I_points_of, WSs, WS, WE, WX, mkT, WA, WP, WT, WI, N_points_of, start3, List.map_cons, List.map_nil, List.length_cons, List.length_nil, List.replicate, List.append_nil]
  refine ⟨?_, by decide, fun a ha => ?_⟩
  · intro p hp
    rw [List.mem_singleton.mp hp]
    exact (Pt.keyOf (.s "")) ▸ rfl
  refine ⟨_, rfl, ?_⟩
  refine ⟨_, rfl, ?_⟩
  have e0 : putsD [] [(D.str "", D.bl true)] = (kvT [.s ""]).kv := by
    show (match keyOf (D.str "") with
      | some n => putsD (putD [] n (D.str "") (D.bl true)) []
      | none => putsD [] []) = _
    rw [show keyOf (D.str "") = some (Pt.key (.s "")) from Pt.keyOf (.s "")]
    rfl
  show loopW _ _ _ (rows.map Row.d) _ _ (up3 M a (.dct (putsD [] [(D.str "", D.bl true)])))
  rw [e0]
  refine loopW_inv0 (J := fun i σ M' => (∃ x y z, σ = [some (.tup (rows.map Row.d)), some (.ref a), none, x, y, z, none]) ∧ Gro M M' ∧ M' a = some (.dct (kvT (ptsF [.s ""] (rows.take i))).kv)) (fun i x σ M' hx hJ => ?_) (fun σ M' hJ => ?_) ⟨⟨none, none, none, rfl⟩, Gro.new ha, up3_same⟩
  · obtain ⟨⟨x1, x2, x3, rfl⟩, g, hm⟩ := hJ
    rw [List.getElem?_map] at hx
    obtain ⟨r, hrx, rfl⟩ := Option.map_eq_some_iff.mp hx
    have hlt : i < rows.length := (List.getElem?_eq_some_iff.mp hrx).1
    have hlen : (ptsF [.s ""] (rows.take i)).length ≤ 41 := by
      have := ptsF_len (rows := rows.take i) (l := [Pt.s ""])
      rw [List.length_take] at this
      have e : [Pt.s ""].length = 1 := rfl
      omega
    have hlen2 := addP_len (l := ptsF [.s ""] (rows.take i)) (p := r.a)
    refine ⟨trivial, [some (.tup (rows.map Row.d)), some (.ref a), none, some r.a.d, some r.b.d, some (.int r.w), none], rfl, fun nx hnx => ?_⟩
    refine ⟨_, rfl, _, rfl, putT hm (by omega) ?_⟩
    refine ⟨_, rfl, _, rfl, putT up3_same (by omega) ?_⟩
    refine hnx _ _ ⟨⟨_, _, _, rfl⟩, fun b o hb => ?_, ?_⟩
    · have : b ≠ a := fun z => by rw [z, ha] at hb; cases hb
      rw [up3_ne this, up3_ne this]
      exact g b o hb
    · rw [up3_same]
      have : rows.take (i + 1) = rows.take i ++ [r] := by rw [List.take_add_one, hrx]; rfl
      rw [this, ptsF_append]
  · obtain ⟨⟨x1, x2, x3, rfl⟩, g, hm⟩ := hJ
    rw [List.length_map, List.take_length] at hm
    refine ⟨trivial, ?_⟩
    have hpl : (ptsOf rows).length ≤ 41 := by
      have := ptsOf_len rows
      omega
    -- the names
    have lcS : ∀ (M1 : Hp3) (σ : St3) (ts : String) (f : Pt → Bool) (K : VK3), Gro M M1 → M1 a = some (.dct (kvT (ptsOf rows)).kv) → σ.length = 7 → (∀ M p, isiD M p.d ts = some (f p)) → (∀ p M2, M1 p = none → Gro M1 M2 → M2 p = some (.lst (((ptsOf rows).filter f).map Pt.d)) → K (.ref p) M2) →
        ∀ p, M1 p = none → lcW (Src.holds (.lck a (kvT (ptsOf rows)).kv)) (.one 6) (WC C23 Γ (.yes (.isi (.var 6) ts))) (WE C23 Γ (.var 6)) (wipe3 σ [6]) p ((kvT (ptsOf rows)).kv.map (·.1)) (up3 (up3 M1 a (.lck (kvT (ptsOf rows)).kv)) p (.lst [])) (unlockV a (kvT (ptsOf rows)).kv K) := by
      intro M1 σ ts f K g1 hm1 hσ hf hK p hp
      have pa : p ≠ a := fun z => by rw [z, hm1] at hp; cases hp
      rw [kvT_keys]
      have hlen : (wipe3 σ [6]).length = 7 := by
        show ((σ).set 6 none).length = 7
        rw [List.length_set]
        exact hσ
      refine lcW_pur (M0 := up3 M1 a (.lck (kvT (ptsOf rows)).kv)) (optPt fun d => (isiD M1 d ts).getD false) (by rw [up3_ne pa]; exact hp) (fun M2 g2 => g2 a _ up3_same) (by rw [List.length_map]; have := sizeLine_eq; omega) (fun x hx M2 g2 => ?_) (fun M2 g2 hM2 => ?_)
      · obtain ⟨q, _, rfl⟩ := List.mem_map.mp hx
        have hget : ((wipe3 σ [6]).set 6 (some q.d))[6]? = some (some q.d) := List.getElem?_set_self (by rw [hlen]; omega)
        refine ⟨_, rfl, fun K2 k2 => ?_, fun y hy M3 g3 K2 k2 => ?_⟩
        · simp only [WC, WX, mkT]
          refine ⟨_, hget, _, hf M2 q, _, rfl, k2 _ _ ⟨?_, Gro.refl _⟩⟩
          simp only [optPt, hf M1 q, Option.getD_some]
          cases f q <;> rfl
        · simp only [WE, WX, mkT]
          refine ⟨_, hget, k2 _ _ ⟨?_, Gro.refl _⟩⟩
          unfold optPt at hy
          split at hy
          · exact Option.some.inj hy
          · cases hy
      · rw [filterMap_pt f _ (fun p => by rw [hf M1 p]; rfl)] at hM2
        refine ⟨g2 a _ up3_same, hK p _ hp (fun b o hb => ?_) (by rw [up3_ne pa]; exact hM2)⟩
        by_cases z : b = a
        · subst z
          rw [up3_same]
          rw [hm1] at hb
          exact hb
        · rw [up3_ne z]
          exact g2 b o (by rw [up3_ne z]; exact hb)
    refine ⟨a, _, rfl, .inl ⟨hm, fun p hp => lcS M' _ "str" Pt.isS _ g hm rfl isS_str (fun p1 M1 hp1 g1 hM1 => ?_) p hp⟩⟩
    refine sort_pts (b := true) (fun p hp => (List.mem_filter.mp hp).2) hM1 (by have := List.length_filter_le Pt.isS (ptsOf rows); omega) fun l1 p2 pl1 hp2 => ?_
    refine ⟨_, rfl, ?_⟩
    have g2 := Gro.new (o := .lst (l1.map Pt.d)) hp2
    refine ⟨_, rfl, ?_⟩
    refine ⟨a, _, rfl, .inl ⟨g2 _ _ (g1 _ _ hm), fun p hp => lcS _ _ "tuple" (fun p => !p.isS) _ (g.trans (g1.trans g2)) (g2 _ _ (g1 _ _ hm)) rfl isS_tup (fun p3 M3 hp3 g3 hM3 => ?_) p hp⟩⟩
    refine sort_pts (b := false) (fun p hp => by have := (List.mem_filter.mp hp).2; simpa using this) hM3 (by have := List.length_filter_le (fun p : Pt => !p.isS) (ptsOf rows); omega) fun l2 p4 pl2 hp4 => ?_
    have g4 := Gro.new (o := .lst (l2.map Pt.d)) hp4
    have hz : (l1.map Pt.d).length + (l2.map Pt.d).length ≤ sizeLine := by
      have := sizeLine_eq
      have h1 := pl1.length_eq
      have h2 := pl2.length_eq
      have h3 := List.length_filter_le Pt.isS (ptsOf rows)
      have h4 := List.length_filter_le (fun p : Pt => !p.isS) (ptsOf rows)
      rw [List.length_map, List.length_map]
      omega
    refine ⟨_, _, g4 _ _ (g3 _ _ up3_same), up3_same, hz, fun p5 hp5 => ?_⟩
    have gg := g.trans (g1.trans (g2.trans (g3.trans (g4.trans (Gro.new (o := .lst (l1.map Pt.d ++ l2.map Pt.d)) hp5)))))
    refine q _ p5 (l1 ++ l2) gg ((g.trans (g1.trans (g2.trans (g3.trans g4)))).fresh hp5) ?_ ((pl1.append pl2).trans (perm_parts _))
    rw [up3_same, List.map_append]
end L3

set_option Elab.async false
set_option linter.all false
set_option maxRecDepth 100000
set_option maxHeartbeats 4000000
/-! E6: _law_points_in. -/
namespace L3
open PySem PySem.Spec PyProof.Rows L2

theorem in_lst {M : Hp3} {a : Addr} {l : List Pt} {p : Pt} (hp : p.ok = true) (hl : ∀ q ∈ l, q.ok = true) (hm : M a = some (.lst (l.map Pt.d))) : InR M p.d (.ref a) (decide (p ∈ l)) := by
  refine .lst (bs := l.map fun q => decide (q = p)) (.inl hm) ?_ ?_
  · clear hm
    induction l with
    | nil => exact .nil
    | cons q l ih => exact .cons (Pt.eqR (hl q List.mem_cons_self) hp) (ih fun q h => hl q (List.mem_cons_of_mem _ h))
  · rw [List.any_map, Bool.eq_iff_iff, decide_eq_true_eq, List.any_eq_true]
    exact ⟨fun h => ⟨p, h, decide_eq_true rfl⟩, fun ⟨q, h, e⟩ => by have := of_decide_eq_true e; rw [← this]; exact h⟩
theorem rep01 {α : Type} (x : α) (b : Bool) : (List.replicate (if b = true then 1 else 0) [x]).flatten = if b = true then [x] else [] := by
  cases b <;> rfl
theorem points_in_spec (Γ : Nat → Sp3) (ds : List D) (M : Hp3) (Q : VK3) (h : sp_points ds M Q) : WSs C23 Γ I_law_points_in { nx := fun _ M' => Q .non M', rt := Q } (start3 N_law_points_in ds) M := by
  obtain ⟨rows, rfl, hl, hr, q⟩ := h
  simp only [I_law_points_in, WSs, WS, WE, WX, mkT, WA, WP, WT, WI, WO, N_law_points_in, start3, List.map_cons, List.map_nil, List.length_cons, List.length_nil, List.replicate, List.append_nil]
  refine ⟨by decide, fun a0 ha0 => ?_⟩
  refine ⟨_, rfl, _, rfl, ?_⟩
  have hlen : ∀ i, (ptsF [Pt.s ""] (rows.take i)).length ≤ 41 := fun i => by
    have := ptsF_len (rows := rows.take i) (l := [Pt.s ""])
    rw [List.length_take] at this
    have e : [Pt.s ""].length = 1 := rfl
    omega
  have okF : ∀ i, ∀ p ∈ ptsF [Pt.s ""] (rows.take i), p.ok = true := fun i p hp => by
    rcases ptsF_mem.mp hp with h | ⟨r, hr', e⟩
    · rw [List.mem_singleton.mp h]
      decide +kernel
    · have := hr r (List.mem_of_mem_take hr')
      simp only [Row.ok, Bool.and_eq_true] at this
      rcases e with rfl | rfl
      · exact this.1
      · exact this.2
  -- one point more
  have step : ∀ (l : List Pt) (p : Pt) (M1 : Hp3) (a : Addr) (K : VK3), p.ok = true → (∀ q ∈ l, q.ok = true) → l.length ≤ 45 → M1 a = some (.lst (l.map Pt.d)) → (∀ M2 b, Gro M1 M2 → M1 b = none → M2 b = some (.lst ((addP l p).map Pt.d)) → K (.ref b) M2) →
      ([p.d].length ≤ sizeLine ∧ ∀ b, M1 b = none → (∃ r, InR (up3 M1 b (.lst [p.d])) p.d (.ref a) r ∧ biD .int [.bl (!r)] (up3 M1 b (.lst [p.d])) fun d M2 => binD .Mult (.ref b) d M2 fun d M3 => binD .Add (.ref a) d M3 K)) := by
    intro l p M1 a K hp hl2 hlen2 hm hK
    refine ⟨by show 1 ≤ sizeLine; rw [sizeLine_eq]; omega, fun b hb => ?_⟩
    have g1 := Gro.new (o := .lst [p.d]) hb
    refine ⟨_, in_lst hp hl2 (g1 _ _ hm), .inr ⟨_, rfl, ?_⟩⟩
    refine ⟨[p.d], up3_same, by split <;> omega, by split <;> omega, ?_, fun c hc => ?_⟩
    · have := sizeLine_eq
      show 1 * _ ≤ _
      split <;> simp <;> omega
    · have g2 := Gro.new (o := .lst (List.replicate (if (!decide (p ∈ l)) = true then (1 : Int) else 0).toNat [p.d]).flatten) hc
      refine ⟨_, _, g2 _ _ (g1 _ _ hm), up3_same, ?_, fun e he => ?_⟩
      · have := sizeLine_eq
        cases decide (p ∈ l) <;> simp <;> omega
      · have g3 := Gro.new (o := .lst (l.map Pt.d ++ (List.replicate (if (!decide (p ∈ l)) = true then (1 : Int) else 0).toNat [p.d]).flatten)) he
        refine hK _ e (g1.trans (g2.trans g3)) ((g1.trans g2).fresh he) ?_
        rw [up3_same]
        unfold addP
        by_cases h : p ∈ l
        · rw [if_pos h, decide_eq_true h]
          simp
        · rw [if_neg h, decide_eq_false h]
          simp
  show loopW _ _ _ (rows.map Row.d) _ _ _
  refine loopW_inv0 (J := fun i σ M' => ∃ a x z, σ = [some (.tup (rows.map Row.d)), some (.ref a), x, none, z] ∧ Gro M M' ∧ M' a = some (.lst ((ptsF [.s ""] (rows.take i)).map Pt.d))) (fun i x σ M' hx hJ => ?_) (fun σ M' hJ => ?_) ⟨a0, none, none, rfl, Gro.new ha0, up3_same⟩
  · obtain ⟨a, x1, x2, rfl, g, hm⟩ := hJ
    rw [List.getElem?_map] at hx
    obtain ⟨r, hrx, rfl⟩ := Option.map_eq_some_iff.mp hx
    have hrok := hr r (List.mem_of_getElem? hrx)
    simp only [Row.ok, Bool.and_eq_true] at hrok
    refine ⟨trivial, _, rfl, fun nx hnx => ?_⟩
    refine ⟨_, rfl, 2, rfl, (fun z => absurd z.2 (by show ¬ (2 : Nat) = 3; decide)), ?_⟩
    show loopW _ _ _ [r.a.d, r.b.d] _ _ _
    have ha := hlen i
    have ht : rows.take (i + 1) = rows.take i ++ [r] := by rw [List.take_add_one, hrx]; rfl
    refine ⟨trivial, _, rfl, _, rfl, ?_⟩
    have e1 := step _ r.a M' a (fun d M2 => ∃ σ1, asgT (.one 1) d [some (.tup (rows.map Row.d)), some (.ref a), some r.d, none, some r.a.d] = some σ1 ∧ loopW (Src.holds (.tup [r.a.d, r.b.d])) (.one 4) (WSs C23 Γ (.cons (.asg (.one 1) (.bin .Add (.var 1) (.bin .Mult (.lst (.cons (.var 4) .nil)) (.bi .int (.cons (.cmp .NotIn (.var 4) (.var 1)) .nil))))) .nil)) [r.b.d] ⟨nx, Q, nx, nx⟩ σ1 M2) hrok.1 (okF i) (by omega) hm fun M2 b g2 hb hM2 => ?_
    · obtain ⟨hz, e1⟩ := e1
      refine ⟨_, rfl, hz, fun b hb => ?_⟩
      obtain ⟨r1, h1, h2⟩ := e1 b hb
      exact ⟨_, rfl, _, rfl, r1, h1, h2⟩
    · refine ⟨_, rfl, trivial, _, rfl, _, rfl, ?_⟩
      have hal := addP_len (l := ptsF [Pt.s ""] (rows.take i)) (p := r.a)
      have e2 := step _ r.b M2 b (fun d M3 => ∃ σ1, asgT (.one 1) d [some (.tup (rows.map Row.d)), some (.ref b), some r.d, none, some r.b.d] = some σ1 ∧ loopW (Src.holds (.tup [r.a.d, r.b.d])) (.one 4) (WSs C23 Γ (.cons (.asg (.one 1) (.bin .Add (.var 1) (.bin .Mult (.lst (.cons (.var 4) .nil)) (.bi .int (.cons (.cmp .NotIn (.var 4) (.var 1)) .nil))))) .nil)) [] ⟨nx, Q, nx, nx⟩ σ1 M3) hrok.2 (fun q hq => (addP_mem.mp hq).elim (okF i q) fun e => by rw [e]; exact hrok.1) (by omega) hM2 fun M3 c g3 hc hM3 => ?_
      · obtain ⟨hz, e2⟩ := e2
        refine ⟨_, rfl, hz, fun b hb => ?_⟩
        obtain ⟨r1, h1, h2⟩ := e2 b hb
        exact ⟨_, rfl, _, rfl, r1, h1, h2⟩
      · refine ⟨_, rfl, trivial, hnx _ _ ⟨c, _, _, rfl, g.trans (g2.trans g3), ?_⟩⟩
        rw [ht, ptsF_append]
        exact hM3
  · obtain ⟨a, x1, x2, rfl, g, hm⟩ := hJ
    rw [List.length_map, List.take_length] at hm
    refine ⟨trivial, ?_⟩
    have hpl : (ptsOf rows).length ≤ 41 := by
      have := ptsOf_len rows
      omega
    have lcS : ∀ (M1 : Hp3) (σ : St3) (f : Pt → Bool) (fd : D → Bool) (c : IE) (K : VK3), M1 a = some (.lst ((ptsOf rows).map Pt.d)) → σ.length = 5 → (∀ p, fd p.d = f p) → (∀ M (σ : St3) (q : Pt), σ[4]? = some (some q.d) → PurT (WT C23 Γ c) σ M (f q)) → (∀ p M2, M1 p = none → Gro M1 M2 → M2 p = some (.lst (((ptsOf rows).filter f).map Pt.d)) → K (.ref p) M2) →
        ∀ p, M1 p = none → lcW (Src.holds (.lst a ((ptsOf rows).map Pt.d))) (.one 4) (WC C23 Γ (.yes c)) (WE C23 Γ (.var 4)) (wipe3 σ [4]) p ((ptsOf rows).map Pt.d) (up3 M1 p (.lst [])) K := by
      intro M1 σ f fd c K hm1 hσ hfd hf hK p hp
      have hlen : (wipe3 σ [4]).length = 5 := by
        show ((σ).set 4 none).length = 5
        rw [List.length_set]
        exact hσ
      refine lcW_pur (M0 := M1) (optPt fd) hp (fun M2 g2 => g2 a _ hm1) (by rw [List.length_map]; have := sizeLine_eq; omega) (fun x hx M2 g2 => ?_) (fun M2 g2 hM2 => ?_)
      · obtain ⟨q, _, rfl⟩ := List.mem_map.mp hx
        have hget : ((wipe3 σ [4]).set 4 (some q.d))[4]? = some (some q.d) := List.getElem?_set_self (by rw [hlen]; omega)
        refine ⟨_, rfl, ?_, fun y hy M3 g3 K2 k2 => ?_⟩
        · have e : (optPt fd q.d).isSome = f q := by
            simp only [optPt, hfd q]
            cases f q <;> rfl
          rw [e]
          exact hf M2 _ q hget
        · simp only [WE, WX, mkT]
          refine ⟨_, hget, k2 _ _ ⟨?_, Gro.refl _⟩⟩
          unfold optPt at hy
          split at hy
          · exact Option.some.inj hy
          · cases hy
      · rw [filterMap_pt f fd hfd] at hM2
        exact hK p _ hp g2 hM2
    refine ⟨_, rfl, .inl ⟨_, hm, fun p hp => lcS M' _ Pt.isS isStrD (.isi (.var 4) "str") _ hm rfl isStrD_pt (fun M σ q hq K k => ?_) (fun p1 M1 hp1 g1 hM1 => ?_) p hp⟩⟩
    · simp only [WT, WX, mkT]
      exact ⟨_, hq, _, isS_str M q, _, rfl, k _ _ ⟨rfl, Gro.refl _⟩⟩
    refine sort_pts (b := true) (fun p hp => (List.mem_filter.mp hp).2) hM1 (by have := List.length_filter_le Pt.isS (ptsOf rows); omega) fun l1 p2 pl1 hp2 => ?_
    refine ⟨_, rfl, ?_⟩
    have g2 := Gro.new (o := .lst (l1.map Pt.d)) hp2
    refine ⟨_, rfl, ?_⟩
    refine ⟨_, rfl, .inl ⟨_, g2 _ _ (g1 _ _ hm), fun p hp => lcS _ _ (fun p => !p.isS) (fun d => !isStrD d) (.not (.isi (.var 4) "str")) _ (g2 _ _ (g1 _ _ hm)) rfl (fun p => by rw [isStrD_pt]) (fun M σ q hq K k => ?_) (fun p3 M3 hp3 g3 hM3 => ?_) p hp⟩⟩
    · simp only [WT, WX, mkT]
      exact ⟨_, hq, _, isS_str M q, _, rfl, k _ _ ⟨rfl, Gro.refl _⟩⟩
    refine sort_pts (b := false) (fun p hp => by have := (List.mem_filter.mp hp).2; simpa using this) hM3 (by have := List.length_filter_le (fun p : Pt => !p.isS) (ptsOf rows); omega) fun l2 p4 pl2 hp4 => ?_
    have g4 := Gro.new (o := .lst (l2.map Pt.d)) hp4
    have hz : (l1.map Pt.d).length + (l2.map Pt.d).length ≤ sizeLine := by
      have := sizeLine_eq
      have h1 := pl1.length_eq
      have h2 := pl2.length_eq
      have h3 := List.length_filter_le Pt.isS (ptsOf rows)
      have h4 := List.length_filter_le (fun p : Pt => !p.isS) (ptsOf rows)
      rw [List.length_map, List.length_map]
      omega
    refine ⟨_, _, g4 _ _ (g3 _ _ up3_same), up3_same, hz, fun p5 hp5 => ?_⟩
    have gg := g.trans (g1.trans (g2.trans (g3.trans (g4.trans (Gro.new (o := .lst (l1.map Pt.d ++ l2.map Pt.d)) hp5)))))
    refine q _ p5 (l1 ++ l2) gg ((g.trans (g1.trans (g2.trans (g3.trans g4)))).fresh hp5) ?_ ((pl1.append pl2).trans (perm_parts _))
    rw [up3_same, List.map_append]
end L3

set_option Elab.async false
set_option linter.all false
set_option maxRecDepth 100000
set_option maxHeartbeats 4000000
/-! E7: the keg. -/
namespace L3
open PySem PySem.Spec PyProof.Rows L2

theorem sub_lst {M : Hp3} {a : Addr} {ds : List D} {i : Int} {d : D} {Q : VK3} (hm : LstAt M a ds) (hi : itemAt ds i = some d) (h : Q d M) : subD (.ref a) (.int i) M Q := .inl ⟨ds, i, d, rfl, hm, hi, h⟩
theorem put_lst {M : Hp3} {a : Addr} {ds : List D} {i : Int} {j : Nat} {d : D} {Q : Hp3 → Prop} (hm : M a = some (.lst ds)) (hi : ixN ds.length i = some j) (h : Q (up3 M a (.lst (ds.set j d)))) : putW (.ref a) (.int i) d M Q := .inr ⟨a, ds, i, j, rfl, rfl, hm, hi, h⟩
/-- the keg at k: numbers left, a seed, how often it was tapped without -/
def KegAt (M : Hp3) (k : Addr) (B : Int) : Prop := ∃ x s c : Int, M k = some (.lst [.int x, .int s, .int c]) ∧ 0 ≤ s ∧ s < 2 ^ 64 ∧ 0 ≤ c ∧ c ≤ B
theorem KegAt.mono {M : Hp3} {k : Addr} {B B' : Int} (h : KegAt M k B) (le : B ≤ B') : KegAt M k B' := let ⟨x, s, c, e, a, b, d, f⟩ := h; ⟨x, s, c, e, a, b, d, by omega⟩
theorem KegAt.gro {M M' : Hp3} {k : Addr} {B : Int} (h : KegAt M k B) (g : Gro M M') : KegAt M' k B := let ⟨x, s, c, e, r⟩ := h; ⟨x, s, c, g _ _ e, r⟩
/-- a tap of a number below t -/
abbrev sp_tap : Sp3 := fun ds M Q => ∃ (k : Addr) (t B : Int), ds = [.ref k, .int t] ∧ KegAt M k B ∧ 0 < t ∧ t ≤ 2 ^ 60 ∧ B ≤ 10 ^ 9 ∧ ∀ (r : Int) (M' : Hp3), 0 ≤ r → r < t → GroBut k M M' → KegAt M' k (B + 1) → Q (.int r) M'
theorem log2_lt {i : Int} {n : Nat} (h0 : 0 ≤ i) (h : i < 2 ^ n) (hn : 0 < n) : i.natAbs.log2 < n := by
  by_cases hz : i.natAbs = 0
  · rw [hz]
    exact hn
  · rw [Nat.log2_lt hz]
    have : (i.natAbs : Int) = i := Int.natAbs_of_nonneg h0
    have h2 : (i.natAbs : Int) < ((2 ^ n : Nat) : Int) := by
      rw [this]
      push_cast
      exact h
    exact Int.ofNat_lt.mp h2
theorem tap_spec (Γ : Nat → Sp3) (ds : List D) (M : Hp3) (Q : VK3) (h : sp_tap ds M Q) : WSs C23 Γ I_law_tap { nx := fun _ M' => Q .non M', rt := Q } (start3 N_law_tap ds) M := by
  obtain ⟨k, t, B, rfl, ⟨x, s, c, hk, s0, s1, c0, c1⟩, t0, t1, hB, q⟩ := h
  simp only [I_law_tap, WSs, WS, WE, WX, mkT, WA, WT, N_law_tap, start3, List.map_cons, List.map_nil, List.length_cons, List.length_nil, List.replicate, List.append_nil]
  refine ⟨_, rfl, sub_lst (.inl hk) rfl ?_⟩
  show ∃ r, some (decide (0 < x)) = some r ∧ _
  refine ⟨_, rfl, ?_⟩
  by_cases hx : 0 < x
  · rw [if_pos (decide_eq_true hx)]
    refine ⟨_, rfl, sub_lst (.inl hk) rfl ?_⟩
    refine .inl ⟨x, rfl, _, rfl, t0, _, rfl, ?_⟩
    refine ⟨_, rfl, sub_lst (.inl hk) rfl ⟨_, rfl, ⟨t0, ?_⟩, ?_⟩⟩
    · have := log2_lt (i := t) (n := 61) (by omega) (by omega) (by decide)
      omega
    · refine ⟨_, rfl, put_lst hk (j := 0) rfl ?_⟩
      refine ⟨_, rfl, q _ _ (Int.emod_nonneg _ (by omega)) (Int.emod_lt_of_pos _ t0) GroBut.put ⟨x / t, s, c, up3_same, s0, s1, c0, by omega⟩⟩
  · rw [if_neg (by rw [decide_eq_true_eq]; exact hx)]
    refine ⟨_, rfl, sub_lst (.inl hk) rfl ⟨_, rfl, put_lst hk (j := 2) rfl ?_⟩⟩
    generalize hc' : c + 1 = c'
    have hM : up3 M k (.lst ([D.int x, D.int s, D.int c].set 2 (D.int c'))) k = some (.lst [D.int x, D.int s, D.int c']) := up3_same
    have b64 : (2 : Int) ^ 64 = 18446744073709551616 := by decide
    refine ⟨_, rfl, sub_lst (.inl hM) rfl ⟨_, rfl, sub_lst (.inl hM) rfl ⟨?_, .inl ⟨_, rfl, by decide, _, rfl, ?_⟩⟩⟩⟩
    · have h1 := log2_lt (i := 1181783497) (n := 64) (by decide) (by decide) (by decide)
      have h2 := log2_lt (i := c') (n := 64) (by omega) (by omega) (by decide)
      omega
    · generalize h1 : (s + 1181783497 * c') % 2147483587 = one
      have o0 : 0 ≤ one := by rw [← h1]; exact Int.emod_nonneg _ (by decide)
      have o1 : one < 2147483587 := by rw [← h1]; exact Int.emod_lt_of_pos _ (by decide)
      refine ⟨_, rfl, _, rfl, ?_, ?_⟩
      · have := log2_lt (i := one) (n := 64) o0 (by omega) (by decide)
        omega
      refine ⟨_, rfl, sub_lst (.inl hM) rfl ⟨by decide, ?_⟩⟩
      refine ⟨_, rfl, sub_lst (.inl hM) rfl ⟨?_, .inl ⟨_, rfl, by decide, _, rfl, ?_⟩⟩⟩
      · have h1 := log2_lt (i := 7207) (n := 64) (by decide) (by decide) (by decide)
        have h2 := log2_lt (i := c') (n := 64) (by omega) (by omega) (by decide)
        omega
      generalize h2 : (one * one + s / 1000003 + 7207 * c') % 1000000009 = two
      have o2 : 0 ≤ two := by rw [← h2]; exact Int.emod_nonneg _ (by decide)
      have o3 : two < 1000000009 := by rw [← h2]; exact Int.emod_lt_of_pos _ (by decide)
      refine ⟨_, rfl, _, rfl, ?_, ?_⟩
      · have := log2_lt (i := two) (n := 64) o2 (by omega) (by decide)
        omega
      refine ⟨_, rfl, .inl ⟨_, rfl, by decide, _, rfl, ?_⟩⟩
      refine ⟨_, rfl, by decide, .inl ⟨_, rfl, _, rfl, t0, ?_⟩⟩
      exact q _ _ (Int.emod_nonneg _ (by omega)) (Int.emod_lt_of_pos _ t0) GroBut.put ⟨x, s, c', hM, s0, s1, by omega, by omega⟩
/-- one item of a list -/
abbrev sp_choice : Sp3 := fun ds M Q => ∃ (k a : Addr) (B : Int) (its : List D), ds = [.ref k, .ref a] ∧ KegAt M k B ∧ M a = some (.lst its) ∧ 0 < its.length ∧ its.length ≤ 10000 ∧ a ≠ k ∧ B ≤ 10 ^ 9 ∧ ∀ (d : D) (M' : Hp3), d ∈ its → GroBut k M M' → KegAt M' k (B + 1) → Q d M'
theorem choice_spec (Γ : Nat → Sp3) (h19 : Γ 19 = sp_tap) (ds : List D) (M : Hp3) (Q : VK3) (h : sp_choice ds M Q) : WSs C23 Γ I_law_choice { nx := fun _ M' => Q .non M', rt := Q } (start3 N_law_choice ds) M := by
  obtain ⟨k, a, B, its, rfl, hk, ha, hl, hl2, hne, hB, q⟩ := h
  simp only [I_law_choice, WSs, WS, WE, WX, mkT, WA, WT, h19, N_law_choice, start3, List.map_cons, List.map_nil, List.length_cons, List.length_nil, List.replicate, List.append_nil]
  refine ⟨_, rfl, _, rfl, _, rfl, _, its.length, rfl, by simp [lenD, ha], ?_⟩
  refine ⟨k, its.length, B, rfl, hk, by omega, by omega, hB, fun r M' r0 r1 g hk' => ?_⟩
  obtain ⟨d, hd⟩ := get_of_lt (l := its) (i := r.toNat) (by omega)
  have e : ((r.toNat : Nat) : Int) = r := Int.toNat_of_nonneg r0
  refine sub_lst (d := d) (.inl (g a _ hne ha)) (by rw [← e]; exact itemAt_nat hd) ?_
  exact q d M' (List.mem_of_getElem? hd) g hk'
end L3

set_option Elab.async false
set_option linter.all false
set_option maxRecDepth 100000
set_option maxHeartbeats 4000000
/-! E8: choices, points drawn, the keg made. -/
namespace L3
open PySem PySem.Spec PyProof.Rows L2

theorem Gro.ne {M : Hp3} {p k : Addr} {o : MO} (h : M p = none) (g : M k = some o) : p ≠ k := fun z => by rw [z, g] at h; cases h
abbrev sp_choices : Sp3 := fun ds M Q => ∃ (k a : Addr) (n B : Int) (its : List D), ds = [.ref k, .ref a, .int n] ∧ KegAt M k B ∧ M a = some (.lst its) ∧ its.length ≤ 100 ∧ -1000 ≤ n ∧ n ≤ 1000 ∧ a ≠ k ∧ B + 100 ≤ 10 ^ 9 ∧
  ∀ (es : List D) (p : Addr) (M' : Hp3), (∀ e ∈ es, e ∈ its) → es.length ≤ its.length → GroBut k M M' → M p = none → M' p = some (.lst es) → KegAt M' k (B + 100) → Q (.ref p) M'
theorem choices_spec (Γ : Nat → Sp3) (h19 : Γ 19 = sp_tap) (ds : List D) (M : Hp3) (Q : VK3) (h : sp_choices ds M Q) : WSs C23 Γ I_law_choices { nx := fun _ M' => Q .non M', rt := Q } (start3 N_law_choices ds) M := by
  obtain ⟨k, a, n, B, its, rfl, hk, ha, hl, n0, n1, hne, hB, q⟩ := h
  simp only [I_law_choices, WSs, WS, WE, WX, mkT, WA, WT, WI, h19, N_law_choices, start3, List.map_cons, List.map_nil, List.length_cons, List.length_nil, List.replicate, List.append_nil]
  refine ⟨_, rfl, _, its, rfl, .inl ⟨a, rfl, .inl ha⟩, fun l hl0 => ?_⟩
  refine ⟨by decide, fun f hf0 => ?_⟩
  refine ⟨by decide, _, rfl, ?_⟩
  have g1 := Gro.new (o := .lst its) hl0
  have hl0' : M l = none := hl0
  have hf : M f = none := g1.fresh hf0
  have hlf : l ≠ f := fun z => by rw [z, up3_same] at hf0; cases hf0
  have g2 := Gro.new (o := .lst []) hf0
  obtain ⟨x0, s0, c0, hk0, _⟩ := id hk
  have lk : l ≠ k := Gro.ne hl0 hk0
  have fk : f ≠ k := Gro.ne hf hk0
  refine ⟨_, rfl, _, rfl, _, its.length, rfl, by simp [lenD, g2 _ _ (g1 _ _ ha)], ?_⟩
  refine ⟨n, its.length, rfl, ?_⟩
  refine ⟨_, rfl, by split <;> omega, by split <;> omega, ?_⟩
  generalize hm : (if (its.length : Int) < n then (its.length : Int) else n).toNat = m
  have hmle : m ≤ its.length := by rw [← hm]; split <;> omega
  have hlen : ((List.range m).map fun (i : Nat) => D.int (i : Int)).length = m := by rw [List.length_map, List.length_range]
  refine loopW_inv0 (J := fun i σ M' => i ≤ m ∧ ∃ x L F, σ = [some (.ref k), some (.ref a), some (.int n), x, some (.ref l), some (.ref f)] ∧ M' l = some (.lst L) ∧ M' f = some (.lst F) ∧ L.length + i = its.length ∧ F.length = i ∧ (∀ e ∈ L, e ∈ its) ∧ (∀ e ∈ F, e ∈ its) ∧ KegAt M' k (B + i) ∧ GroBut k M M') (fun i x σ M' hx hJ => ?_) (fun σ M' hJ => ?_) ?_
  · obtain ⟨him, x1, L, F, rfl, hL, hF, hLl, hFl, hLi, hFi, hk', g⟩ := hJ
    have hlt : i < m := by
      have := (List.getElem?_eq_some_iff.mp hx).1
      have e2 : (Src.items (.rng m)).length = m := hlen
      omega
    refine ⟨trivial, _, rfl, fun nx hnx => ?_⟩
    refine ⟨_, rfl, ⟨f, F, rfl, hF⟩, ?_⟩
    refine ⟨_, rfl, ⟨l, L, rfl, hL⟩, ?_⟩
    refine ⟨_, rfl, _, rfl, _, L.length, rfl, by simp [lenD, hL], ?_⟩
    refine ⟨k, L.length, B + i, rfl, hk', by omega, by omega, by omega, fun r M2 r0 r1 g3 hk2 => ?_⟩
    have hL2 := g3 l _ lk hL
    have hF2 := g3 f _ fk hF
    obtain ⟨d, hd⟩ := get_of_lt (l := L) (i := r.toNat) (by omega)
    have hdi := hLi d (List.mem_of_getElem? hd)
    refine ⟨l, L, r, d, rfl, rfl, hL2, r0, hd, ?_⟩
    have hF3 : up3 M2 l (.lst (L.eraseIdx r.toNat)) f = some (.lst F) := by rw [up3_ne (Ne.symm hlf)]; exact hF2
    refine ⟨f, F, d, rfl, rfl, hF3, by have := sizeLine_eq; omega, ?_⟩
    have hrl : r.toNat < L.length := by omega
    have hel : (L.eraseIdx r.toNat).length = L.length - 1 := List.length_eraseIdx_of_lt hrl
    obtain ⟨x2, s2, c2, hk3, rest⟩ := hk2
    refine hnx _ _ ⟨hlt, _, L.eraseIdx r.toNat, F ++ [d], rfl, by rw [up3_ne hlf, up3_same], up3_same, by omega, by rw [List.length_append, hFl]; rfl, fun e he => hLi e (List.mem_of_mem_eraseIdx he), fun e he => ?_, ⟨x2, s2, c2, by rw [up3_ne (Ne.symm fk), up3_ne (Ne.symm lk)]; exact hk3, by push_cast; omega⟩, fun b o hb hbo => ?_⟩
    · rcases List.mem_append.mp he with he | he
      · exact hFi e he
      · rw [List.mem_singleton.mp he]
        exact hdi
    · have b1 : b ≠ l := fun z => by rw [z, hl0'] at hbo; cases hbo
      have b2 : b ≠ f := fun z => by rw [z, hf] at hbo; cases hbo
      rw [up3_ne b2, up3_ne b1]
      exact g3 b o hb (g b o hb hbo)
  · obtain ⟨him, x1, L, F, rfl, hL, hF, hLl, hFl, hLi, hFi, hk', g⟩ := hJ
    refine ⟨trivial, _, rfl, ?_⟩
    have e2 : (Src.items (.rng m)).length = m := hlen
    exact q F f M' hFi (by omega) g hf hF (hk'.mono (by omega))
  · refine ⟨Nat.zero_le _, none, its, [], rfl, by rw [up3_ne hlf]; exact up3_same, up3_same, by simp, rfl, fun e h => h, fun e h => (by cases h), ?_, fun b o _ hbo => g2 _ _ (g1 _ _ hbo)⟩
    exact ((hk.gro g1).gro g2).mono (by simp)
/-- the points that are drawn -/
def menu : List Pt := [.s "i", .s "j", .s "n", .s "x", .s "*1", .s "*2", .s "*10", .t "a" "i" 0, .t "a" "i" 1, .t "a" "" (-3), .t "b" "*1" 0, .t "a" "j" 0]
theorem mem_map_list {α β : Type} {f : α → β} {l : List α} : ∀ {es : List β}, (∀ e ∈ es, e ∈ l.map f) → ∃ l' : List α, es = l'.map f ∧ ∀ x ∈ l', x ∈ l
  | [], _ => ⟨[], rfl, fun _ h => by cases h⟩
  | e :: es, h => by
    obtain ⟨x, hx, rfl⟩ := List.mem_map.mp (h e List.mem_cons_self)
    obtain ⟨l', rfl, h'⟩ := mem_map_list fun e he => h e (List.mem_cons_of_mem _ he)
    exact ⟨x :: l', rfl, fun y hy => (List.mem_cons.mp hy).elim (fun z => z ▸ hx) (h' y)⟩
abbrev sp_drawn : Sp3 := fun ds M Q => ∃ (k : Addr) (n B : Int), ds = [.ref k, .int n] ∧ KegAt M k B ∧ -1000 ≤ n ∧ n ≤ 1000 ∧ B + 100 ≤ 10 ^ 9 ∧
  ∀ (qs : List Pt) (p : Addr) (M' : Hp3), (∀ x ∈ qs, x ∈ Pt.s "" :: menu) → 0 < qs.length → qs.length ≤ 13 → GroBut k M M' → M p = none → M' p = some (.lst (qs.map Pt.d)) → KegAt M' k (B + 100) → Q (.ref p) M'
theorem drawn_spec (Γ : Nat → Sp3) (h20 : Γ 20 = sp_choices) (ds : List D) (M : Hp3) (Q : VK3) (h : sp_drawn ds M Q) : WSs C23 Γ I_law_points_drawn { nx := fun _ M' => Q .non M', rt := Q } (start3 N_law_points_drawn ds) M := by
  obtain ⟨k, n, B, rfl, hk, n0, n1, hB, q⟩ := h
  simp only [I_law_points_drawn, WSs, WS, WE, WX, mkT, WA, WT, WI, h20, N_law_points_drawn, start3, List.map_cons, List.map_nil, List.length_cons, List.length_nil, List.replicate, List.append_nil]
  have sz : ∀ j : Nat, j ≤ 12 → j ≤ sizeLine := fun j hj => by have := sizeLine_eq; omega
  refine ⟨sz _ (by decide), sz _ (by decide), (3 : Int), rfl, sz _ (by decide), sz _ (by decide), fun a ha => ⟨_, rfl, _, rfl, sz _ (by decide), sz _ (by decide), sz _ (by decide), fun b hb => ?_⟩⟩
  refine ⟨_, _, (Gro.new hb) _ _ up3_same, up3_same, by decide, fun c hc => ⟨_, rfl, ?_⟩⟩
  refine ⟨by decide, fun e he => ?_⟩
  have ga := Gro.new (o := .lst [D.str "i", D.str "j", D.str "n", D.str "x", D.str "*1", D.str "*2", D.str "*10", D.tup [D.str "a", D.str "i", D.int 0], D.tup [D.str "a", D.str "i", D.int 1], D.tup [D.str "a", D.str "", D.int (-3)]]) ha
  have gb := Gro.new (o := .lst [D.tup [D.str "b", D.str "*1", D.int 0], D.tup [D.str "a", D.str "j", D.int 0]]) hb
  have gc := Gro.new (o := .lst ([D.str "i", D.str "j", D.str "n", D.str "x", D.str "*1", D.str "*2", D.str "*10", D.tup [D.str "a", D.str "i", D.int 0], D.tup [D.str "a", D.str "i", D.int 1], D.tup [D.str "a", D.str "", D.int (-3)]] ++ [D.tup [D.str "b", D.str "*1", D.int 0], D.tup [D.str "a", D.str "j", D.int 0]])) hc
  have ge := Gro.new (o := .lst [D.str ""]) he
  have g4 := ga.trans (gb.trans (gc.trans ge))
  have hcm := ge _ _ (show _ = some (MO.lst (menu.map Pt.d)) from up3_same)
  obtain ⟨x0, s0, c0, hk0, _⟩ := id (hk.gro (ga.trans gb))
  refine ⟨_, rfl, _, rfl, _, rfl, k, c, n, B, menu.map Pt.d, rfl, hk.gro g4, hcm, by decide, n0, n1, Gro.ne hc hk0, hB, fun es p M' hes hel g hp hM' hk' => ?_⟩
  obtain ⟨qs, rfl, hqs⟩ := mem_map_list hes
  have hek : e ≠ k := by
    obtain ⟨x0, s0, c0, hk0, _⟩ := id (hk.gro (ga.trans (gb.trans gc)))
    exact Gro.ne he hk0
  rw [List.length_map, List.length_map] at hel
  have hml : menu.length = 12 := rfl
  refine ⟨_, _, g e _ hek up3_same, hM', by rw [List.length_map]; have := sizeLine_eq; show 1 + qs.length ≤ _; omega, fun p2 hp2 => ?_⟩
  have gn := Gro.new (o := .lst ([D.str ""] ++ qs.map Pt.d)) hp2
  have hpn : M p2 = none := by
    cases e2 : M p2 with
    | none => rfl
    | some o =>
      by_cases hz : p2 = k
      · obtain ⟨_, _, _, hk0, _⟩ := hk'
        rw [hz, hk0] at hp2
        cases hp2
      · rw [g p2 o hz (g4 _ _ e2)] at hp2
        cases hp2
  refine q (.s "" :: qs) p2 _ (fun x hx => (List.mem_cons.mp hx).elim (fun z => by rw [z]; exact List.mem_cons_self) fun z => List.mem_cons_of_mem _ (hqs x z)) (by rw [List.length_cons]; omega) (by rw [List.length_cons]; omega) (fun b o hb hbo => gn _ _ (g b o hb (g4 _ _ hbo))) hpn up3_same (hk'.gro gn)
end L3

set_option Elab.async false
set_option linter.all false
set_option maxRecDepth 100000
set_option maxHeartbeats 4000000
/-! E9: differences drawn; the keg made. -/
namespace L3
open PySem PySem.Spec PyProof.Rows L2

theorem szd {j : Nat} (h : j ≤ 1000) : j ≤ sizeLine := by have := sizeLine_eq; omega
/-- rows drawn of some points -/
def RowsOf (pts : List Pt) (rows : List Row) : Prop := rows.length ≤ 10 ∧ ∀ r ∈ rows, r.a ∈ pts ∧ r.b ∈ pts ∧ -(2 * 10 ^ 30) ≤ r.w ∧ r.w ≤ 2 * 10 ^ 30
abbrev sp_differences : Sp3 := fun ds M Q => ∃ (k a : Addr) (n w B : Int) (pts : List Pt), ds = [.ref k, .ref a, .int n, .int w] ∧ KegAt M k B ∧ M a = some (.lst (pts.map Pt.d)) ∧ 0 < pts.length ∧ pts.length ≤ 20 ∧ a ≠ k ∧ 0 ≤ n ∧ n ≤ 10 ∧ 0 ≤ w ∧ w ≤ 10 ∧ B + 100 ≤ 10 ^ 9 ∧
  ∀ (rows : List Row) (M' : Hp3), RowsOf pts rows → GroBut k M M' → KegAt M' k (B + 100) → Q (.tup (rows.map Row.d)) M'
theorem differences_spec (Γ : Nat → Sp3) (h19 : Γ 19 = sp_tap) (h23 : Γ 23 = sp_choice) (ds : List D) (M : Hp3) (Q : VK3) (h : sp_differences ds M Q) : WSs C23 Γ I_law_differences { nx := fun _ M' => Q .non M', rt := Q } (start3 N_law_differences ds) M := by
  obtain ⟨k, a, n, w, B, pts, rfl, hk, ha, p0, p1, hne, n0, n1, w0, w1, hB, q⟩ := h
  simp only [I_law_differences, WSs, WS, WE, WX, mkT, WA, WT, WI, h19, h23, N_law_differences, start3, List.map_cons, List.map_nil, List.length_cons, List.length_nil, List.replicate, List.append_nil]
  refine ⟨szd (by decide), fun f hf => ?_⟩
  refine ⟨_, rfl, _, rfl, n, rfl, by omega, by omega, ?_⟩
  obtain ⟨x0, s0, c0, hk0, _⟩ := id hk
  have fk : f ≠ k := Gro.ne hf hk0
  have hlen : ((List.range n.toNat).map fun (i : Nat) => D.int (i : Int)).length = n.toNat := by rw [List.length_map, List.length_range]
  refine loopW_inv0 (J := fun i σ M' => ∃ (x y z : Option D) (rows : List Row), σ = [some (.ref k), some (.ref a), some (.int n), some (.int w), some (.ref f), x, y, z] ∧ M' f = some (.lst (rows.map Row.d)) ∧ rows.length = i ∧ i ≤ n.toNat ∧ (∀ r ∈ rows, r.a ∈ pts ∧ r.b ∈ pts ∧ -(2 * 10 ^ 30) ≤ r.w ∧ r.w ≤ 2 * 10 ^ 30) ∧ KegAt M' k (B + 4 * i) ∧ GroBut k M M') (fun i x σ M' hx hJ => ?_) (fun σ M' hJ => ?_) ?_
  · obtain ⟨x1, x2, x3, rows, rfl, hm, hi, hin, hr, hk', g⟩ := hJ
    have hlt : i < n.toNat := by
      have := (List.getElem?_eq_some_iff.mp hx).1
      have e2 : (Src.items (.rng n.toNat)).length = n.toNat := hlen
      omega
    have ha' := g a _ hne ha
    refine ⟨trivial, _, rfl, fun nx hnx => ?_⟩
    refine ⟨_, rfl, _, rfl, k, a, _, _, rfl, hk', ha', by rw [List.length_map]; exact p0, by rw [List.length_map]; omega, hne, by omega, fun d1 M1 hd1 g1 hk1 => ?_⟩
    obtain ⟨q1, hq1, rfl⟩ := List.mem_map.mp hd1
    have ha1 := g1 a _ hne ha'
    refine ⟨_, rfl, _, rfl, k, a, _, _, rfl, hk1, ha1, by rw [List.length_map]; exact p0, by rw [List.length_map]; omega, hne, by omega, fun d2 M2 hd2 g2 hk2 => ?_⟩
    obtain ⟨q2, hq2, rfl⟩ := List.mem_map.mp hd2
    have hm2 := g2 f _ fk (g1 f _ fk hm)
    refine ⟨szd (by decide), _, rfl, ?_⟩
    refine ⟨_, rfl, ⟨f, _, rfl, hm2⟩, _, rfl, _, rfl, _, rfl, _, rfl, ?_⟩
    refine ⟨?_, k, _, _, rfl, hk2, by omega, by omega, by omega, fun r M3 r0 r1 g3 hk3 => ?_⟩
    · have h1 := log2_lt (i := (2 : Int)) (n := 64) (by decide) (by decide) (by decide)
      have h2 := log2_lt (i := w) (n := 64) (by omega) (by omega) (by decide)
      omega
    refine ⟨_, rfl, _, rfl, by decide, by decide +kernel, ?_⟩
    refine ⟨by have := sizeLine_eq; omega, fun e he => ?_⟩
    have ge := Gro.new (o := .lst [D.int 0, D.int 0, D.int 1, D.int 2, D.int (10 ^ 30)]) he
    obtain ⟨x3', s3, c3, hk30, _⟩ := id hk3
    have ek : e ≠ k := Gro.ne he hk30
    refine ⟨k, e, _, _, rfl, hk3.gro ge, up3_same, by decide, by decide, ek, by omega, fun d4 M4 hd4 g4 hk4 => ?_⟩
    have hi4 : ∃ j : Int, d4 = .int j ∧ 0 ≤ j ∧ j ≤ 10 ^ 30 := by
      simp only [List.mem_cons, List.mem_nil_iff, or_false] at hd4
      rcases hd4 with rfl | rfl | rfl | rfl | rfl
      · exact ⟨0, rfl, by decide, by decide⟩
      · exact ⟨0, rfl, by decide, by decide⟩
      · exact ⟨1, rfl, by decide, by decide⟩
      · exact ⟨2, rfl, by decide, by decide⟩
      · exact ⟨10 ^ 30, rfl, by decide, by decide⟩
    obtain ⟨j, rfl, j0, j1⟩ := hi4
    have hm4 := g4 f _ fk (ge f _ (g3 f _ fk hm2))
    refine ⟨by have := sizeLine_eq; show 3 ≤ _; omega, f, _, _, rfl, rfl, hm4, by rw [List.length_map]; have := sizeLine_eq; omega, ?_⟩
    refine hnx _ _ ⟨_, _, _, rows ++ [⟨q1, q2, r - w + j⟩], rfl, ?_, by rw [List.length_append, hi]; rfl, hlt, fun x hx => ?_, ?_, fun b o hb hbo => ?_⟩
    · rw [up3_same, List.map_append]
      rfl
    · rcases List.mem_append.mp hx with hx | hx
      · exact hr x hx
      · rw [List.mem_singleton.mp hx]
        exact ⟨hq1, hq2, by show -(2 * 10 ^ 30) ≤ r - w + j; omega, by show r - w + j ≤ 2 * 10 ^ 30; omega⟩
    · obtain ⟨xa, sa, ca, hka, rest⟩ := hk4
      exact ⟨xa, sa, ca, by rw [up3_ne (Ne.symm fk)]; exact hka, by push_cast; omega⟩
    · have bf : b ≠ f := fun z => by rw [z, hf] at hbo; cases hbo
      rw [up3_ne bf]
      exact g4 b o hb (ge b o (g3 b o hb (g2 b o hb (g1 b o hb (g b o hb hbo)))))
  · obtain ⟨x1, x2, x3, rows, rfl, hm, hi, hin, hr, hk', g⟩ := hJ
    have e2 : (Src.items (.rng n.toNat)).length = n.toNat := hlen
    refine ⟨trivial, _, rfl, _, _, rfl, .inl ⟨f, rfl, .inl hm⟩, q rows M' ⟨by omega, hr⟩ g (hk'.mono (by omega))⟩
  · refine ⟨none, none, none, [], rfl, up3_same, rfl, by omega, fun _ h => (by cases h), ?_, fun b o _ hbo => Gro.new hf _ _ hbo⟩
    exact (hk.gro (Gro.new hf)).mono (by simp)

/-! ### the keg -/
theorem Script.len {M : Hp3} {ns : List Int} {d : D} (h : Script M ns d) : lenD M d = some ns.length := by
  cases h with
  | ro h => simp [lenD, h]
  | sl => rfl
theorem Script.gro {M M' : Hp3} {ns : List Int} {d : D} (h : Script M ns d) (g : Gro M M') : Script M' ns d := by
  cases h with
  | ro h => exact .ro (g _ _ h)
  | sl => exact .sl
theorem Script.sub {M : Hp3} {ns : List Int} {d : D} {i : Nat} {n : Int} {Q : VK3} (h : Script M ns d) (e : ns[i]? = some n) (q : Q (.int n) M) : subD d (.int (i : Int)) M Q := by
  cases h with
  | ro h => exact sub_lst (.inr h) (itemAt_nat (by rw [List.getElem?_map, e]; rfl)) q
  | sl => exact ⟨_, n, rfl, itemAt_nat e, q⟩
abbrev sp_keg : Sp3 := fun ds M Q => ∃ (d : D) (ns : List Int) (i : Nat), ds = [d, .int i] ∧ Script M ns d ∧ i ≤ 100 ∧ ∀ (p : Addr) (M' : Hp3), Gro M M' → M p = none → KegAt M' p 0 → Q (.ref p) M'
theorem keg_spec (Γ : Nat → Sp3) (ds : List D) (M : Hp3) (Q : VK3) (h : sp_keg ds M Q) : WSs C23 Γ I_law_keg { nx := fun _ M' => Q .non M', rt := Q } (start3 N_law_keg ds) M := by
  obtain ⟨d, ns, i, rfl, hs, hi, q⟩ := h
  simp only [I_law_keg, WSs, WS, WE, WX, mkT, WA, WT, WI, N_law_keg, start3, List.map_cons, List.map_nil, List.length_cons, List.length_nil, List.replicate, List.append_nil]
  have rest : ∀ cell : Int, ∃ σ1, asgT (.one 2) (.int cell) [some d, some (.int i), none, none, none] = some σ1 ∧ WSs C23 Γ (match I_law_keg with
    | .cons _ r => r
    | .nil => .nil) { nx := fun _ M' => Q .non M', rt := Q } σ1 M := by
    intro cell
    refine ⟨_, rfl, ?_⟩
    simp only [I_law_keg, WSs, WS, WE, WX, mkT, WA, WT, WI]
    refine ⟨_, rfl, cell, rfl, .inl ⟨_, rfl, by decide, by decide +kernel, by decide, by decide +kernel, ?_⟩⟩
    generalize hc : (if cell < 0 then -cell else cell) = c
    refine ⟨by decide +kernel, ?_⟩
    generalize hg : c % (((10 : Int) ^ (60 : Int).toNat) ^ (8 : Int).toNat) = g
    refine ⟨_, rfl, _, rfl, _, rfl, ?_⟩
    refine ⟨?_, _, rfl, ?_⟩
    · have h1 := log2_lt (i := (6700417 : Int)) (n := 64) (by decide) (by decide) (by decide)
      have h2 := log2_lt (i := (i : Int)) (n := 64) (by omega) (by omega) (by decide)
      omega
    refine .inr ⟨_, rfl, ?_⟩
    show binD .Mult (.int 67867967) (.int (if decide (cell < 0) = true then 1 else 0)) M _
    generalize hb : (if decide (cell < 0) = true then (1 : Int) else 0) = b
    have b0 : 0 ≤ b ∧ b ≤ 1 := by rw [← hb]; split <;> omega
    refine ⟨?_, .inl ⟨_, rfl, by decide, by decide +kernel, ?_⟩⟩
    · have h1 := log2_lt (i := (67867967 : Int)) (n := 64) (by decide) (by decide) (by decide)
      have h2 := log2_lt (i := b) (n := 64) (by omega) (by omega) (by decide)
      omega
    refine ⟨by decide +kernel, _, rfl, ?_⟩
    generalize hs2 : (g + 6700417 * (i : Int) + 67867967 * b + 7) % ((10 : Int) ^ (18 : Int).toNat + 9) = s
    have s0 : 0 ≤ s := by rw [← hs2]; exact Int.emod_nonneg _ (by decide +kernel)
    have s1 : s < (10 : Int) ^ 18 + 9 := by rw [← hs2]; exact Int.emod_lt_of_pos _ (by decide +kernel)
    have s2 : s < 2 ^ 64 := by omega
    refine ⟨_, rfl, by decide, by decide +kernel, ?_⟩
    refine ⟨_, rfl, ?_⟩
    split
    · refine ⟨_, rfl, by decide, by decide +kernel, _, rfl, szd (show 3 ≤ 1000 by decide), fun p hp => ?_⟩
      exact q p _ (Gro.new hp) hp ⟨_, s, 0, up3_same, s0, s2, by decide, by decide⟩
    · refine ⟨_, rfl, szd (show 3 ≤ 1000 by decide), fun p hp => ?_⟩
      exact q p _ (Gro.new hp) hp ⟨_, s, 0, up3_same, s0, s2, by decide, by decide⟩
  refine ⟨_, rfl, _, rfl, _, _, rfl, hs.len, ?_⟩
  show ∃ r, some (decide ((i : Int) < (ns.length : Int))) = some r ∧ _
  refine ⟨_, rfl, ?_⟩
  by_cases c : i < ns.length
  · rw [if_pos (decide_eq_true (by omega))]
    obtain ⟨n, hn⟩ := get_of_lt c
    exact ⟨_, rfl, _, rfl, hs.sub hn (rest n)⟩
  · rw [if_neg (by rw [decide_eq_true_eq]; omega)]
    refine ⟨_, rfl, ?_, rest (61 * (i : Int) + 37)⟩
    have h1 := log2_lt (i := (61 : Int)) (n := 64) (by decide) (by decide) (by decide)
    have h2 := log2_lt (i := (i : Int)) (n := 64) (by omega) (by omega) (by decide)
    omega
end L3

set_option Elab.async false
set_option linter.all false
set_option maxRecDepth 100000
set_option maxHeartbeats 4000000
/-! E10: rounds of improvements, in plain Lean; dicts of points by their keys. -/
namespace L3
open PySem PySem.Spec PyProof.Rows L2

/-! ### dicts by keys and a function -/
def mkD (l : List Pt) (f : Pt → D) : PD := l.map fun p => (p, f p)
def updP {α : Type} (f : Pt → α) (p : Pt) (v : α) : Pt → α := fun q => if q = p then v else f q
theorem updP_same {α : Type} {f : Pt → α} {p : Pt} {v : α} : updP f p v p = v := if_pos rfl
theorem updP_ne {α : Type} {f : Pt → α} {p q : Pt} {v : α} (h : q ≠ p) : updP f p v q = f q := if_neg h
theorem mkD_keys {l : List Pt} {f : Pt → D} : (mkD l f).map (·.1) = l := by
  unfold mkD
  rw [List.map_map]
  exact List.map_id l
theorem mkD_kvkeys {l : List Pt} {f : Pt → D} : (mkD l f).kv.map (·.1) = l.map Pt.d := by
  unfold mkD PD.kv
  rw [List.map_map, List.map_map]
  rfl
theorem mkD_len {l : List Pt} {f : Pt → D} : (mkD l f).kv.length = l.length := by
  unfold mkD PD.kv
  rw [List.length_map, List.length_map]
theorem mkD_put {l : List Pt} {f : Pt → D} {p : Pt} {v : D} : (mkD l f).put p v = mkD (addP l p) (updP f p v) := by
  unfold PD.put addP
  rw [mkD_keys]
  by_cases h : p ∈ l
  · rw [if_pos h, if_pos h]
    unfold mkD
    rw [List.map_map]
    refine List.map_congr_left fun q _ => ?_
    show (if q = p then (q, v) else (q, f q)) = (q, if q = p then v else f q)
    split <;> rfl
  · rw [if_neg h, if_neg h]
    unfold mkD
    rw [List.map_append]
    congr 1
    · refine List.map_congr_left fun q hq => ?_
      rw [updP_ne (fun z => h (by rw [← z]; exact hq))]
    · show [(p, v)] = [(p, updP f p v p)]
      rw [updP_same]
theorem mkD_look {l : List Pt} {f : Pt → D} {p : Pt} : (mkD l f).look p = if p ∈ l then some (f p) else none := by
  induction l with
  | nil => rfl
  | cons q l ih =>
    unfold PD.look mkD at ih ⊢
    rw [List.map_cons, List.find?_cons]
    by_cases h : q = p
    · rw [decide_eq_true h, if_pos (by rw [h]; exact List.mem_cons_self), ← h]
      rfl
    · rw [decide_eq_false h]
      dsimp only
      rw [ih]
      by_cases h2 : p ∈ l
      · rw [if_pos h2, if_pos (List.mem_cons_of_mem _ h2)]
      · rw [if_neg h2, if_neg (fun z => (List.mem_cons.mp z).elim (fun e => h e.symm) h2)]
theorem in_dct {M : Hp3} {a : Addr} {l : List Pt} {f : Pt → D} {p : Pt} (h : DctAt M a (mkD l f).kv) : InR M p.d (.ref a) (decide (p ∈ l)) := by
  refine .dct h p.keyOf ?_
  rw [PD.look_kv, mkD_look]
  by_cases c : p ∈ l
  · rw [if_pos c, decide_eq_true c]; rfl
  · rw [if_neg c, decide_eq_false c]; rfl
theorem sub_dct {M : Hp3} {a : Addr} {l : List Pt} {f : Pt → D} {p : Pt} {Q : VK3} (h : DctAt M a (mkD l f).kv) (hp : p ∈ l) (q : Q (f p) M) : subD (.ref a) p.d M Q :=
  .inr ⟨_, _, f p, h, p.keyOf, by rw [PD.look_kv, mkD_look, if_pos hp], q⟩
theorem put_dct {M : Hp3} {a : Addr} {l : List Pt} {f : Pt → D} {p : Pt} {v : D} {Q : Hp3 → Prop} (h : M a = some (.dct (mkD l f).kv)) (hl : l.length ≤ 1000) (q : Q (up3 M a (.dct (mkD (addP l p) (updP f p v)).kv))) : putW (.ref a) p.d v M Q := by
  refine .inl ⟨a, _, p.key, rfl, h, p.keyOf, by rw [mkD_len]; have := sizeLine_eq; omega, ?_⟩
  rw [PD.put_kv, mkD_put]
  exact q
theorem addP_in {l : List Pt} {p : Pt} (h : p ∈ l) : addP l p = l := if_pos h
/-- a dict made of pairs -/
theorem putsD_mk (f : Pt → D) : ∀ (l acc : List Pt), (acc ++ l).Nodup → putsD (mkD acc f).kv (mkD l f).kv = (mkD (acc ++ l) f).kv
  | [], acc, _ => by rw [List.append_nil]; rfl
  | p :: l, acc, h => by
    have hp : p ∉ acc := fun z => (List.nodup_append.mp h).2.2 p z p List.mem_cons_self rfl
    have e : putsD (mkD acc f).kv (mkD (p :: l) f).kv = putsD (putD (mkD acc f).kv p.key p.d (f p)) (mkD l f).kv := by
      show (match keyOf p.d with
        | some n => putsD (putD (mkD acc f).kv n p.d (f p)) (mkD l f).kv
        | none => putsD (mkD acc f).kv (mkD l f).kv) = _
      rw [p.keyOf]
    rw [e, PD.put_kv, mkD_put]
    have e2 : updP f p (f p) = f := by
      funext q
      unfold updP
      split
      · rename_i z; rw [z]
      · rfl
    have e3 : addP acc p = acc ++ [p] := if_neg hp
    have e4 : acc ++ p :: l = (acc ++ [p]) ++ l := by simp
    rw [e2, e3, e4]
    exact putsD_mk f l _ (by rw [← e4]; exact h)

/-! ### rounds -/
structure SS where
  num : Pt → Int
  S : List Pt
  st : Pt → Nat
  ch : Bool
def imp1 (s : SS) (i : Nat) (r : Row) : SS := if s.num r.b + r.w < s.num r.a then ⟨updP s.num r.a (s.num r.b + r.w), addP s.S r.a, updP s.st r.a i, true⟩ else s
def impF (rows : List Row) (s : SS) : Nat → SS
  | 0 => s
  | i + 1 => match rows[i]? with
    | some r => imp1 (impF rows s i) i r
    | none => impF rows s i
def round1 (rows : List Row) (s : SS) : SS := impF rows { s with ch := false } rows.length
def rounds (rows : List Row) (s : SS) : Nat → SS
  | 0 => s
  | n + 1 => round1 rows (rounds rows s n)
theorem impF_succ {rows : List Row} {s : SS} {i : Nat} {r : Row} (h : rows[i]? = some r) : impF rows s (i + 1) = imp1 (impF rows s i) i r := by
  show (match rows[i]? with
    | some r => imp1 (impF rows s i) i r
    | none => impF rows s i) = _
  rw [h]
/-- a bound of the numbers -/
def Bd (s : SS) (b : Int) : Prop := ∀ v, -b ≤ s.num v ∧ s.num v ≤ b
theorem imp1_bd {s : SS} {b W : Int} {i : Nat} {r : Row} (h : Bd s b) (w0 : -W ≤ r.w) (w1 : r.w ≤ W) (hW : 0 ≤ W) : Bd (imp1 s i r) (b + W) := by
  intro v
  have h1 := h v
  have h2 := h r.b
  unfold imp1
  split
  · show -(b + W) ≤ updP s.num r.a _ v ∧ updP s.num r.a _ v ≤ _
    unfold updP
    split <;> omega
  · omega
theorem impF_bd {rows : List Row} {s : SS} {b W : Int} (h : Bd s b) (hw : ∀ r ∈ rows, -W ≤ r.w ∧ r.w ≤ W) (hW : 0 ≤ W) : ∀ i : Nat, Bd (impF rows s i) (b + i * W)
  | 0 => by show Bd s _; simpa using h
  | i + 1 => by
    have ih := impF_bd h hw hW i
    have e : b + ((i + 1 : Nat) : Int) * W = b + (i : Int) * W + W := by push_cast; rw [Int.add_mul]; omega
    rw [e]
    cases hr : rows[i]? with
    | some r =>
      rw [impF_succ hr]
      have := hw r (List.mem_of_getElem? hr)
      exact imp1_bd ih this.1 this.2 hW
    | none =>
      have e : impF rows s (i + 1) = impF rows s i := by
        show (match rows[i]? with
          | some r => imp1 (impF rows s i) i r
          | none => impF rows s i) = _
        rw [hr]
      rw [e]
      intro v
      have := ih v
      omega
theorem rounds_bd {rows : List Row} {s : SS} {b W : Int} (h : Bd s b) (hw : ∀ r ∈ rows, -W ≤ r.w ∧ r.w ≤ W) (hW : 0 ≤ W) : ∀ n : Nat, Bd (rounds rows s n) (b + n * (rows.length * W))
  | 0 => by show Bd s _; simpa using h
  | n + 1 => by
    have ih := rounds_bd h hw hW n
    have := impF_bd (rows := rows) (s := { rounds rows s n with ch := false }) ih hw hW rows.length
    have e : b + ((n + 1 : Nat) : Int) * (rows.length * W) = b + n * (rows.length * W) + rows.length * W := by push_cast; rw [Int.add_mul]; omega
    rw [e]
    exact this
theorem imp1_len {s : SS} {i : Nat} {r : Row} : (imp1 s i r).S.length ≤ s.S.length + 1 := by
  unfold imp1
  split
  · exact addP_len
  · omega
theorem impF_len {rows : List Row} {s : SS} : ∀ i : Nat, (impF rows s i).S.length ≤ s.S.length + i
  | 0 => Nat.le_refl _
  | i + 1 => by
    have ih := impF_len (rows := rows) (s := s) i
    show (match rows[i]? with
      | some r => imp1 (impF rows s i) i r
      | none => impF rows s i).S.length ≤ _
    split
    · have := imp1_len (s := impF rows s i) (i := i) (r := by assumption)
      omega
    · omega
/-- what is known while the round r has looked at j rows -/
structure Inv (rows : List Row) (r j : Nat) (s : SS) (last : Pt → Nat) : Prop where
  le : ∀ v, last v ≤ r
  i1 : ∀ i row, rows[i]? = some row → last row.b < (if i < j then r else r - 1) → s.num row.a ≤ s.num row.b + row.w
  i2 : ∀ v, 0 < last v → v ∈ s.S
  i3 : ∀ v ∈ s.S, ∃ row, rows[s.st v]? = some row ∧ row.a = v ∧ last v ≤ last row.b + 1
  i4 : s.ch = true → ∃ v, last v = r
  i5 : s.S.Nodup
theorem Inv.step {rows : List Row} {r j : Nat} {s : SS} {last : Pt → Nat} (h : Inv rows (r + 1) j s last) {row : Row} (e : rows[j]? = some row) : ∃ last', Inv rows (r + 1) (j + 1) (imp1 s j row) last' := by
  unfold imp1
  by_cases c : s.num row.b + row.w < s.num row.a
  · rw [if_pos c]
    have hb : r ≤ last row.b := by
      refine Nat.le_of_not_lt fun z => ?_
      have := h.i1 j row e (by rw [if_neg (Nat.lt_irrefl j)]; exact z)
      omega
    refine ⟨updP last row.a (r + 1), ⟨fun v => ?_, fun i row' e' lt => ?_, fun v hv => ?_, fun v hv => ?_, fun _ => ⟨row.a, updP_same⟩, addP_nodup h.i5⟩⟩
    · unfold updP
      split
      · omega
      · exact h.le v
    · have hne : row'.b ≠ row.a := fun z => by
        rw [z, updP_same] at lt
        split at lt <;> omega
      rw [updP_ne hne] at lt
      show updP s.num row.a (s.num row.b + row.w) row'.a ≤ updP s.num row.a (s.num row.b + row.w) row'.b + row'.w
      rw [updP_ne hne]
      by_cases hi : i = j
      · subst hi
        rw [e] at e'
        cases e'
        rw [updP_same]
        omega
      · have hlt : (if i < j + 1 then r + 1 else r + 1 - 1) = (if i < j then r + 1 else r + 1 - 1) := by
          by_cases c2 : i < j
          · rw [if_pos c2, if_pos (by omega)]
          · rw [if_neg c2, if_neg (by omega)]
        rw [hlt] at lt
        have := h.i1 i row' e' lt
        unfold updP
        split
        · rename_i z
          rw [z] at this
          omega
        · exact this
    · show v ∈ addP s.S row.a
      rw [addP_mem]
      by_cases z : v = row.a
      · exact .inr z
      · rw [updP_ne z] at hv
        exact .inl (h.i2 v hv)
    · have hv' : v ∈ s.S ∨ v = row.a := addP_mem.mp hv
      have up : ∀ u, last u ≤ updP last row.a (r + 1) u := fun u => by
        unfold updP
        split
        · exact h.le u
        · exact Nat.le_refl _
      by_cases z : v = row.a
      · subst z
        refine ⟨row, by show rows[updP s.st row.a j row.a]? = _; rw [updP_same]; exact e, rfl, ?_⟩
        rw [updP_same]
        have := up row.b
        omega
      · obtain ⟨row', e1, e2, e3⟩ := h.i3 v (hv'.resolve_right z)
        refine ⟨row', by show rows[updP s.st row.a j v]? = _; rw [updP_ne z]; exact e1, e2, ?_⟩
        rw [updP_ne z]
        have := up row'.b
        omega
  · rw [if_neg c]
    refine ⟨last, ⟨h.le, fun i row' e' lt => ?_, h.i2, h.i3, h.i4, h.i5⟩⟩
    by_cases hi : i = j
    · subst hi
      rw [e] at e'
      cases e'
      omega
    · have hlt : (if i < j + 1 then r + 1 else r + 1 - 1) = (if i < j then r + 1 else r + 1 - 1) := by
        by_cases c2 : i < j
        · rw [if_pos c2, if_pos (by omega)]
        · rw [if_neg c2, if_neg (by omega)]
      rw [hlt] at lt
      exact h.i1 i row' e' lt
theorem Inv.row {rows : List Row} {r : Nat} {s : SS} {last : Pt → Nat} (h : Inv rows (r + 1) 0 s last) : ∀ j, j ≤ rows.length → ∃ last', Inv rows (r + 1) j (impF rows s j) last'
  | 0, _ => ⟨last, h⟩
  | j + 1, hj => by
    obtain ⟨l1, h1⟩ := h.row j (by omega)
    obtain ⟨row, e⟩ := get_of_lt (l := rows) (i := j) (by omega)
    rw [impF_succ e]
    exact h1.step e
theorem Inv.next {rows : List Row} {r : Nat} {s : SS} {last : Pt → Nat} (h : Inv rows r rows.length s last) : Inv rows (r + 1) 0 { s with ch := false } last :=
  ⟨fun v => Nat.le_succ_of_le (h.le v), fun i row e lt => h.i1 i row e (by
    have := (List.getElem?_eq_some_iff.mp e).1
    rw [if_pos this]
    rw [if_neg (Nat.not_lt_zero i)] at lt
    exact lt), h.i2, h.i3, fun z => (by cases z), h.i5⟩
theorem Inv.rounds {rows : List Row} {s : SS} (h0 : s.S = []) : ∀ n : Nat, ∃ last, Inv rows (n + 1) 0 { rounds rows s n with ch := false } last
  | 0 => ⟨fun _ => 0, ⟨fun _ => Nat.zero_le _, fun i row _ lt => absurd lt (by rw [if_neg (Nat.not_lt_zero i)]; omega), fun v z => absurd z (by omega), fun v z => (by rw [show ({ L3.rounds rows s 0 with ch := false } : SS).S = s.S from rfl, h0] at z; cases z), fun z => (by cases z), (by rw [show ({ L3.rounds rows s 0 with ch := false } : SS).S = s.S from rfl, h0]; exact List.nodup_nil)⟩⟩
  | n + 1 => by
    obtain ⟨l, h⟩ := Inv.rounds h0 n
    obtain ⟨l2, h2⟩ := h.row rows.length (Nat.le_refl _)
    exact ⟨l2, h2.next⟩
theorem Inv.after {rows : List Row} {s : SS} (h0 : s.S = []) (n : Nat) : ∃ last, Inv rows (n + 1) rows.length (L3.rounds rows s (n + 1)) last := by
  obtain ⟨l, h⟩ := Inv.rounds (rows := rows) h0 n
  exact h.row rows.length (Nat.le_refl _)
/-- the point that a step leads to -/
def prd (rows : List Row) (st : Pt → Nat) (v : Pt) : Pt := match rows[st v]? with
  | some r => r.b
  | none => v
def chain (rows : List Row) (st : Pt → Nat) (v : Pt) : Nat → Pt
  | 0 => v
  | n + 1 => prd rows st (chain rows st v n)
/-- steps that never leave -/
def Stays (rows : List Row) (S : List Pt) (st : Pt → Nat) (n : Nat) : Prop := ∃ v, ∀ k, k ≤ n → chain rows st v k ∈ S
theorem Inv.stays {rows : List Row} {R : Nat} {s : SS} {last : Pt → Nat} (h : Inv rows (R + 1) rows.length s last) (hc : s.ch = true) : Stays rows s.S s.st R := by
  obtain ⟨v, hv⟩ := h.i4 hc
  refine ⟨v, ?_⟩
  have main : ∀ k, k ≤ R → R + 1 ≤ last (chain rows s.st v k) + k := by
    intro k
    induction k with
    | zero => intro _; show R + 1 ≤ last v + 0; omega
    | succ k ih =>
      intro hk
      have h1 := ih (by omega)
      obtain ⟨row, e1, e2, e3⟩ := h.i3 _ (h.i2 (chain rows s.st v k) (by omega))
      have e4 : chain rows s.st v (k + 1) = row.b := by
        show prd rows s.st (chain rows s.st v k) = _
        unfold prd
        rw [e1]
      rw [e4]
      omega
  exact fun k hk => h.i2 _ (by have := main k hk; omega)
end L3

set_option Elab.async false
set_option linter.all false
set_option maxRecDepth 100000
set_option maxHeartbeats 4000000
/-! E11: improved, settled. -/
namespace L3
open PySem PySem.Spec PyProof.Rows L2

theorem nodup_len {α : Type} [DecidableEq α] : ∀ {l m : List α}, l.Nodup → (∀ x ∈ l, x ∈ m) → l.length ≤ m.length
  | [], _, _, _ => Nat.zero_le _
  | x :: l, m, h, s => by
    have hx := s x List.mem_cons_self
    have h' := List.nodup_cons.mp h
    have := nodup_len (l := l) (m := m.erase x) h'.2 fun y hy => (List.mem_erase_of_ne (fun z => h'.1 (by rw [← z]; exact hy))).mpr (s y (List.mem_cons_of_mem _ hy))
    rw [List.length_erase_of_mem hx] at this
    have : 0 < m.length := List.length_pos_of_mem hx
    rw [List.length_cons]
    omega
theorem enumD_at : ∀ (ds : List D) (n i : Nat), (enumD n ds)[i]? = (ds[i]?).map fun d => D.tup [.int ((n + i : Nat) : Int), d]
  | [], n, i => by simp [enumD]
  | d :: r, n, 0 => by simp [enumD]
  | d :: r, n, i + 1 => by
    have := enumD_at r (n + 1) i
    show (enumD (n + 1) r)[i]? = _
    rw [this, List.getElem?_cons_succ, show n + 1 + i = n + (i + 1) from by omega]
theorem enumD_cnt : ∀ (ds : List D) (n : Nat), (enumD n ds).length = ds.length
  | [], _ => rfl
  | d :: r, n => by
    show (enumD (n + 1) r).length + 1 = r.length + 1
    rw [enumD_cnt r (n + 1)]
def GroBut2 (a b : Addr) (M M' : Hp3) : Prop := ∀ c o, c ≠ a → c ≠ b → M c = some o → M' c = some o
def numF (s : SS) : Pt → D := fun p => .int (s.num p)
def stF (s : SS) : Pt → D := fun p => .int ((s.st p : Nat) : Int)
/-- the numbers at a, the steps at b -/
structure SSAt (M : Hp3) (a b : Addr) (P : List Pt) (s : SS) : Prop where
  n : M a = some (.dct (mkD P (numF s)).kv)
  s : M b = some (.dct (mkD s.S (stF s)).kv)
theorem SSAt.ch {M : Hp3} {a b : Addr} {P : List Pt} {s : SS} (h : SSAt M a b P s) (c : Bool) : SSAt M a b P { s with ch := c } := ⟨h.n, h.s⟩
def RowsIn (P : List Pt) (rows : List Row) : Prop := ∀ r ∈ rows, r.a ∈ P ∧ r.b ∈ P
abbrev sp_improved : Sp3 := fun ds M Q => ∃ (a b : Addr) (P : List Pt) (rows : List Row) (s : SS), ds = [.tup (rows.map Row.d), .ref a, .ref b] ∧ a ≠ b ∧ SSAt M a b P s ∧ P.length ≤ 100 ∧ s.S.length ≤ 900 ∧ rows.length ≤ 20 ∧ RowsIn P rows ∧
  ∀ M', GroBut2 a b M M' → SSAt M' a b P (round1 rows s) → Q (.bl (round1 rows s).ch) M'
theorem updP_map {α : Type} {f : Pt → α} {g : α → D} {p : Pt} {v : α} : (fun q => g (updP f p v q)) = updP (fun q => g (f q)) p (g v) := by
  funext q
  unfold updP
  split <;> rfl
theorem improved_spec (Γ : Nat → Sp3) (ds : List D) (M : Hp3) (Q : VK3) (h : sp_improved ds M Q) : WSs C23 Γ I_improved { nx := fun _ M' => Q .non M', rt := Q } (start3 N_improved ds) M := by
  obtain ⟨a, b, P, rows, s0, rfl, hab, hM, hP, hS, hl, hin, q⟩ := h
  simp only [I_improved, WSs, WS, WE, WX, mkT, WA, WT, WI, N_improved, start3, List.map_cons, List.map_nil, List.length_cons, List.length_nil, List.replicate, List.append_nil]
  refine ⟨_, rfl, _, rfl, ?_⟩
  show loopW _ _ _ (enumD 0 (rows.map Row.d)) _ _ _
  refine loopW_inv0 (J := fun i σ M' => ∃ (x1 x2 x3 x4 x5 : Option D) (s : SS), σ = [some (.tup (rows.map Row.d)), some (.ref a), some (.ref b), some (.bl s.ch), x1, x2, x3, x4, x5] ∧ SSAt M' a b P s ∧ GroBut2 a b M M' ∧ s = impF rows { s0 with ch := false } i) (fun i x σ M' hx hJ => ?_) (fun σ M' hJ => ?_) ⟨none, none, none, none, none, _, rfl, hM.ch false, fun c o _ _ h => h, rfl⟩
  · obtain ⟨x1, x2, x3, x4, x5, s, rfl, hs, g, es⟩ := hJ
    rw [enumD_at, List.getElem?_map] at hx
    obtain ⟨d, hd, rfl⟩ := Option.map_eq_some_iff.mp hx
    obtain ⟨r, hr, rfl⟩ := Option.map_eq_some_iff.mp hd
    have hri := hin r (List.mem_of_getElem? hr)
    refine ⟨trivial, _, rfl, fun nx hnx => ?_⟩
    refine ⟨_, rfl, _, rfl, ?_⟩
    refine ⟨_, rfl, _, rfl, _, in_dct (.inl hs.n), _, rfl, ?_⟩
    rw [decide_eq_true hri.2]
    simp only [if_true]
    refine ⟨_, rfl, _, rfl, _, in_dct (.inl hs.n), _, rfl, ?_⟩
    rw [decide_eq_true hri.1]
    simp only [Bool.not_true, Bool.false_eq_true, if_false]
    refine ⟨_, rfl, _, rfl, sub_dct (.inl hs.n) hri.2 ?_⟩
    refine ⟨_, rfl, ?_⟩
    refine ⟨_, rfl, _, rfl, sub_dct (.inl hs.n) hri.1 ?_⟩
    show ∃ k, some (decide (s.num r.b + r.w < s.num r.a)) = some k ∧ _
    refine ⟨_, rfl, ?_⟩
    have hstep := impF_succ (s := { s0 with ch := false }) hr
    rw [← es] at hstep
    unfold imp1 at hstep
    have hSl := impF_len (rows := rows) (s := { s0 with ch := false }) i
    rw [← es] at hSl
    have hSl : s.S.length ≤ s0.S.length + i := hSl
    have hil : i < rows.length := (List.getElem?_eq_some_iff.mp hr).1
    by_cases c : s.num r.b + r.w < s.num r.a
    · rw [if_pos (decide_eq_true c)]
      rw [if_pos c] at hstep
      refine ⟨_, rfl, _, rfl, sub_dct (.inl hs.n) hri.2 ?_⟩
      refine ⟨_, rfl, ?_⟩
      refine ⟨_, rfl, _, rfl, put_dct hs.n (by omega) ?_⟩
      refine ⟨_, rfl, _, rfl, _, rfl, put_dct (by rw [up3_ne (Ne.symm hab)]; exact hs.s) (by omega) ?_⟩
      refine ⟨_, rfl, hnx _ _ ⟨_, _, _, _, _, _, rfl, ⟨?_, ?_⟩, fun c o ha hb h => ?_, hstep.symm⟩⟩
      · rw [up3_ne hab, up3_same, addP_in hri.1]
        have e : updP (numF s) r.a (.int (s.num r.b + r.w)) = numF ⟨updP s.num r.a (s.num r.b + r.w), addP s.S r.a, updP s.st r.a i, true⟩ := (updP_map (g := D.int)).symm
        rw [← e]
      · rw [up3_same]
        have e : updP (stF s) r.a (.int ((0 + i : Nat) : Int)) = stF ⟨updP s.num r.a (s.num r.b + r.w), addP s.S r.a, updP s.st r.a i, true⟩ := by
          rw [Nat.zero_add]
          exact (updP_map (g := fun n : Nat => D.int (n : Int))).symm
        rw [← e]
      · rw [up3_ne hb, up3_ne ha]
        exact g c o ha hb h
    · rw [if_neg (by rw [decide_eq_true_eq]; exact c)]
      rw [if_neg c] at hstep
      exact hnx _ _ ⟨_, _, _, _, _, s, rfl, hs, g, hstep.symm⟩
  · obtain ⟨x1, x2, x3, x4, x5, s, rfl, hs, g, es⟩ := hJ
    rw [enumD_cnt, List.length_map] at es
    have e : s = round1 rows s0 := es
    subst e
    exact ⟨trivial, _, rfl, q M' g hs⟩

/-- numbers that are settled, or are not -/
abbrev sp_settled : Sp3 := fun ds M Q => ∃ (a : Addr) (P : List Pt) (rows : List Row) (f : Pt → Int), ds = [.tup (rows.map Row.d), .ref a] ∧ M a = some (.dct (mkD P (fun p => .int (f p))).kv) ∧ P.Perm (ptsOf rows) ∧ rows.length ≤ 20 ∧ (∀ r ∈ rows, r.ok = true) ∧
  ∀ (M' : Hp3) (b : Addr) (n : Nat) (h : Bool), M b = none → b ≠ a → GroBut a M M' → n ≤ 2 * P.length + 1 → SSAt M' a b P (rounds rows ⟨f, [], fun _ => 0, false⟩ n) → (h = true → n = 2 * P.length + 1 ∧ (rounds rows ⟨f, [], fun _ => 0, false⟩ n).ch = true) → Q (.tup [.ref b, .bl h]) M'
theorem settled_spec (Γ : Nat → Sp3) (h7 : Γ 7 = sp_points) (h8 : Γ 8 = sp_improved) (ds : List D) (M : Hp3) (Q : VK3) (h : sp_settled ds M Q) : WSs C23 Γ I_settled { nx := fun _ M' => Q .non M', rt := Q } (start3 N_settled ds) M := by
  obtain ⟨a, P, rows, f, rfl, hM, hP, hl, hok, q⟩ := h
  simp only [I_settled, WSs, WS, WE, WX, mkT, WA, WP, WT, WI, h7, h8, N_settled, start3, List.map_cons, List.map_nil, List.length_cons, List.length_nil, List.replicate, List.append_nil]
  refine ⟨fun _ h => (by cases h), by decide, fun b hb => ?_⟩
  have hba : b ≠ a := fun z => by rw [z, hM] at hb; cases hb
  have gb := Gro.new (o := .dct []) hb
  refine ⟨_, rfl, rows, rfl, hl, hok, fun M1 p qs g1 hp hM1 hqs => ?_⟩
  have hPl : P.length ≤ 41 := by
    have := hP.length_eq
    have := ptsOf_len rows
    omega
  have hql : qs.length = P.length := hqs.length_eq.trans hP.length_eq.symm
  refine ⟨szd (show 2 ≤ 1000 by decide), _, rfl, ?_⟩
  have hMa := g1 _ _ (gb _ _ hM)
  have hMb := g1 b _ up3_same
  refine ⟨_, rfl, _, qs.length, rfl, by simp [lenD, hM1], ?_⟩
  refine ⟨_, rfl, _, P.length, rfl, by simp [lenD, hMa, mkD_len], ?_⟩
  refine ⟨_, rfl, by omega, by omega, ?_⟩
  have hR : ((qs.length : Int) + (P.length : Int) + 1).toNat = 2 * P.length + 1 := by omega
  rw [hR]
  have hin : RowsIn P rows := fun r hr => ⟨(hP.mem_iff).mpr (ptsOf_mem.mpr (.inr ⟨r, hr, .inl rfl⟩)), (hP.mem_iff).mpr (ptsOf_mem.mpr (.inr ⟨r, hr, .inr rfl⟩))⟩
  let s0 : SS := ⟨f, [], fun _ => 0, false⟩
  have hSl : ∀ n, n ≤ 2 * P.length + 1 → (rounds rows s0 n).S.length ≤ P.length := by
    intro n _
    cases n with
    | zero => exact Nat.zero_le _
    | succ n =>
      obtain ⟨last, hi⟩ := Inv.after (rows := rows) (s := s0) rfl n
      refine nodup_len hi.i5 fun v hv => ?_
      obtain ⟨row, e1, e2, _⟩ := hi.i3 v hv
      rw [← e2]
      exact (hin row (List.mem_of_getElem? e1)).1
  have hlen : ((List.range (2 * P.length + 1)).map fun (i : Nat) => D.int (i : Int)).length = 2 * P.length + 1 := by rw [List.length_map, List.length_range]
  refine loopW_inv0 (J := fun i σ M' => ∃ (x : Option D), σ = [some (.tup (rows.map Row.d)), some (.ref a), x, some (.ref b), some (.ref p)] ∧ SSAt M' a b P (rounds rows s0 i) ∧ GroBut a M M' ∧ (0 < i → (rounds rows s0 i).ch = true)) (fun i x σ M' hx hJ => ?_) (fun σ M' hJ => ?_) ?_
  · obtain ⟨x1, rfl, hs, g, hc⟩ := hJ
    have hlt : i < 2 * P.length + 1 := by
      have := (List.getElem?_eq_some_iff.mp hx).1
      have e2 : (Src.items (.rng (2 * P.length + 1))).length = 2 * P.length + 1 := hlen
      omega
    refine ⟨trivial, _, rfl, fun nx hnx => ?_⟩
    refine ⟨_, rfl, _, rfl, _, rfl, a, b, P, rows, _, rfl, Ne.symm hba, hs, by omega, by have := hSl i (by omega); omega, hl, hin, fun M2 g2 hs2 => ?_⟩
    have g3 : GroBut a M M2 := fun c o hca hco => g2 c o hca (fun z => by rw [z, hb] at hco; cases hco) (g c o hca hco)
    refine ⟨_, rfl, ?_⟩
    cases hch : (round1 rows (rounds rows s0 i)).ch with
    | true =>
      simp only [Bool.not_true, Bool.false_eq_true, if_false]
      exact hnx _ _ ⟨_, rfl, hs2, g3, fun _ => hch⟩
    | false =>
      simp only [Bool.not_false, if_true]
      refine ⟨_, rfl, szd (show 2 ≤ 1000 by decide), q M2 b (i + 1) false hb hba g3 hlt hs2 fun z => (by cases z)⟩
  · obtain ⟨x1, rfl, hs, g, hc⟩ := hJ
    have e2 : (Src.items (.rng (2 * P.length + 1))).length = 2 * P.length + 1 := hlen
    rw [e2] at hs hc
    exact ⟨trivial, _, rfl, szd (show 2 ≤ 1000 by decide), q M' b _ true hb hba g (Nat.le_refl _) hs fun _ => ⟨rfl, hc (by omega)⟩⟩
  · exact ⟨none, rfl, ⟨hMa, hMb⟩, fun c o _ h => g1 _ _ (gb _ _ h), fun z => absurd z (by omega)⟩
end L3

set_option Elab.async false
set_option linter.all false
set_option maxRecDepth 100000
set_option maxHeartbeats 4000000
/-! E12: ring_in. -/
namespace L3
open PySem PySem.Spec PyProof.Rows L2

theorem int_eq (M : Hp3) (i j : Int) : eqR M (.int i) (.int j) (decide (i = j)) := ⟨.int i, .int j, .int _, .int _, by simp [SeqAt.shaped, PyData.canLay0, PyData.depth], by simp [SeqAt.shaped, PyData.canLay0, PyData.depth], by
  by_cases h : i = j <;> simp [PyData.eqv, h]⟩
theorem whlW_inv {tst : TT3} {body : TS3} {D0 : Ends3} (J : Nat → St3 → Hp3 → Prop) (step : ∀ n σ M, J n σ M → ∀ nx : St3 → Hp3 → Prop, (∀ m σ' M', m < n → J m σ' M' → nx σ' M') → tst σ M fun b M1 => if b = true then body ⟨nx, D0.rt, D0.nx, nx⟩ σ M1 else D0.nx σ M1) :
    ∀ (k n : Nat) (σ : St3) (M : Hp3), n < k → J n σ M → whlW tst body k D0 σ M
  | 0, n, _, _, h, _ => absurd h (Nat.not_lt_zero n)
  | k + 1, n, σ, M, h, hJ => step n σ M hJ _ fun m σ' M' hm hJ' => whlW_inv J step k m σ' M' (by omega) hJ'
theorem chain_add (rows : List Row) (st : Pt → Nat) (v : Pt) (j : Nat) : ∀ k, chain rows st (chain rows st v j) k = chain rows st v (j + k)
  | 0 => rfl
  | k + 1 => by
    show prd rows st (chain rows st (chain rows st v j) k) = prd rows st (chain rows st v (j + k))
    rw [chain_add rows st v j k]
/-- a point on a ring -/
def Cyc (rows : List Row) (S : List Pt) (st : Pt → Nat) (v : Pt) : Prop := ∃ m, 0 < m ∧ m ≤ S.length ∧ chain rows st v m = v ∧ ∀ k, k ≤ m → chain rows st v k ∈ S
/-- steps that lead to rows -/
structure StepsOk (rows : List Row) (S : List Pt) (st : Pt → Nat) : Prop where
  row : ∀ v ∈ S, ∃ row, rows[st v]? = some row
  ok : ∀ v ∈ S, v.ok = true
  nd : S.Nodup
  len : S.length ≤ 100
theorem sub_rows {M : Hp3} {rows : List Row} {i : Nat} {r : Row} {Q : VK3} (h : rows[i]? = some r) (q : Q r.d M) : subD (.tup (rows.map Row.d)) (.int (i : Int)) M Q := ⟨r.d, itemAt_nat (by rw [List.getElem?_map, h]; rfl), q⟩
theorem prd_row {rows : List Row} {st : Pt → Nat} {v : Pt} {row : Row} (h : rows[st v]? = some row) : prd rows st v = row.b := by
  unfold prd
  rw [h]
abbrev sp_ring_in : Sp3 := fun ds M Q => ∃ (b : Addr) (S : List Pt) (st : Pt → Nat) (rows : List Row), ds = [.tup (rows.map Row.d), .ref b] ∧ M b = some (.dct (mkD S (fun p => .int ((st p : Nat) : Int))).kv) ∧ StepsOk rows S st ∧ Stays rows S st S.length ∧
  ∀ (M' : Hp3) (is : List Nat), Gro M M' → (∀ i ∈ is, i < rows.length) → is.length ≤ 100 → Q (.tup (is.map fun (i : Nat) => D.int (i : Int))) M'
theorem ring_in_spec (Γ : Nat → Sp3) (ds : List D) (M : Hp3) (Q : VK3) (h : sp_ring_in ds M Q) : WSs C23 Γ I_ring_in { nx := fun _ M' => Q .non M', rt := Q } (start3 N_ring_in ds) M := by
  obtain ⟨b, S, st, rows, rfl, hM, hok, hst, q⟩ := h
  simp only [I_ring_in, WSs, WS, WE, WX, mkT, WA, WP, WT, WI, N_ring_in, start3, List.map_cons, List.map_nil, List.length_cons, List.length_nil, List.replicate, List.append_nil]
  refine ⟨_, rfl, b, _, rfl, .inl hM, _, rfl, ?_⟩
  refine ⟨b, _, rfl, .inl ⟨hM, ?_⟩⟩
  rw [mkD_kvkeys]
  generalize hkv : (mkD S (fun p => .int ((st p : Nat) : Int))).kv = kvs at hM ⊢
  -- behind the loop
  have back : ∀ {M2 : Hp3}, Gro (up3 M b (.lck kvs)) M2 → M2 b = some (.lck kvs) ∧ Gro M (up3 M2 b (.dct kvs)) ∧ up3 M2 b (.dct kvs) b = some (.dct kvs) := fun {M2} g2 => ⟨g2 _ _ up3_same, fun c o hc => by
    by_cases z : c = b
    · subst z
      rw [up3_same]
      rw [hM] at hc
      exact hc
    · rw [up3_ne z]
      exact g2 c o (by rw [up3_ne z]; exact hc), up3_same⟩
  refine loopW_inv0 (J := fun i σ M' => ∃ (x1 x2 x3 : Option D), σ = [some (.tup (rows.map Row.d)), some (.ref b), x1, x2, none, none, x3] ∧ Gro (up3 M b (.lck kvs)) M' ∧ ∀ j v, j < i → S[j]? = some v → ∃ k, k ≤ S.length ∧ chain rows st v k ∉ S) (fun i x σ M' hx hJ => ?_) (fun σ M' hJ => ?_) ⟨_, _, _, rfl, Gro.refl _, fun j v h => absurd h (by omega)⟩
  · obtain ⟨x1, x2, x3, rfl, g, hj⟩ := hJ
    rw [List.getElem?_map] at hx
    obtain ⟨v, hv, rfl⟩ := Option.map_eq_some_iff.mp hx
    have hvS : v ∈ S := List.mem_of_getElem? hv
    have hlk : M' b = some (.lck kvs) := g _ _ up3_same
    refine ⟨hlk, _, rfl, fun nx hnx => ?_⟩
    refine ⟨fun _ h => (by cases h), by decide, fun e he => ?_⟩
    refine ⟨_, rfl, szd (show 2 ≤ 1000 by decide), _, rfl, ?_⟩
    have he0 : (up3 M b (.lck kvs)) e = none := g.fresh he
    have heb : e ≠ b := fun z => by rw [z, hlk] at he; cases he
    have hPl : ∀ {M2 : Hp3}, M2 b = some (.lck kvs) → DctAt M2 b (mkD S (fun p => .int ((st p : Nat) : Int))).kv := fun h => .inr (by rw [hkv]; exact h)
    refine ⟨S.length + 1, whlW_inv (J := fun n σ M2 => ∃ m, σ = [some (.tup (rows.map Row.d)), some (.ref b), some (chain rows st v m).d, some v.d, none, none, some (.ref e)] ∧ GroBut e M' M2 ∧ M2 e = some (.dct (mkD ((List.range m).map (chain rows st v)) fun _ => .bl true).kv) ∧ ((List.range m).map (chain rows st v)).Nodup ∧ (∀ k, k < m → chain rows st v k ∈ S) ∧ n + m = S.length) (fun n σ M2 hJ2 nx2 hnx2 => ?_) _ S.length _ _ (by omega) ⟨0, rfl, fun c o hc h => Gro.new he _ _ h, up3_same, List.nodup_nil, fun k h => absurd h (by omega), by omega⟩⟩
    obtain ⟨m, rfl, g2, hm2, nd, hin, hnm⟩ := hJ2
    have hlk2 : M2 b = some (.lck kvs) := g2 b _ (Ne.symm heb) hlk
    have g3 : Gro (up3 M b (.lck kvs)) M2 := fun c o hc => g2 c o (fun z => by rw [z, he0] at hc; cases hc) (g c o hc)
    have seen : DctAt M2 e (mkD ((List.range m).map (chain rows st v)) fun _ => .bl true).kv := .inl hm2
    have hseen : (chain rows st v m ∈ (List.range m).map (chain rows st v)) ↔ ∃ j, j < m ∧ chain rows st v j = chain rows st v m := by
      rw [List.mem_map]
      exact ⟨fun ⟨j, h1, h2⟩ => ⟨j, List.mem_range.mp h1, h2⟩, fun ⟨j, h1, h2⟩ => ⟨j, List.mem_range.mpr h1, h2⟩⟩
    refine ⟨_, rfl, _, rfl, _, in_dct (hPl hlk2), _, rfl, ?_⟩
    by_cases c1 : chain rows st v m ∈ S
    · rw [decide_eq_true c1]
      simp only [if_true]
      refine ⟨_, rfl, _, rfl, _, in_dct seen, _, rfl, ?_⟩
      by_cases c2 : chain rows st v m ∈ (List.range m).map (chain rows st v)
      · rw [decide_eq_true c2]
        simp only [Bool.not_true, Bool.false_eq_true, if_false]
        refine ⟨_, rfl, _, rfl, _, in_dct seen, _, rfl, ?_⟩
        rw [decide_eq_true c2]
        simp only [if_true]
        obtain ⟨j, hjm, ej⟩ := hseen.mp c2
        have hml : m ≤ S.length := by omega
        refine ⟨(back g3).1, ?_⟩
        generalize hp : chain rows st v m = p at c1 c2 ej
        have hper : chain rows st p (m - j) = p := by
          rw [← ej, chain_add, show j + (m - j) = m from by omega, hp, ej]
        have hinp : ∀ k, k ≤ m - j → chain rows st p k ∈ S := fun k hk => by
          rw [← ej, chain_add]
          by_cases z : j + k < m
          · exact hin _ z
          · rw [show j + k = m from by omega, hp]
            exact c1
        generalize hm' : m - j = m' at hper hinp
        have hm0 : 0 < m' := by omega
        have hm1 : m' ≤ S.length := by omega
        -- the ring is read
        obtain ⟨_, gM, hMb⟩ := back g3
        refine ⟨szd (show 0 ≤ 1000 by decide), fun f hf => ?_⟩
        refine ⟨_, rfl, szd (show 2 ≤ 1000 by decide), _, rfl, ?_⟩
        have gf := Gro.new (o := .lst []) hf
        have hfb : f ≠ b := fun z => by rw [z, hMb] at hf; cases hf
        refine ⟨m' + 1, whlW_inv (J := fun n σ M3 => ∃ k, σ = [some (.tup (rows.map Row.d)), some (.ref b), some p.d, some v.d, some (.ref f), some (chain rows st p k).d, some (.ref e)] ∧ GroBut f (up3 M2 b (.dct kvs)) M3 ∧ M3 f = some (.lst (((List.range k).map fun i => st (chain rows st p i)).map fun (i : Nat) => D.int (i : Int))) ∧ n + k = m') (fun n σ M3 hJ3 nx3 hnx3 => ?_) _ m' _ _ (by omega) ⟨0, rfl, fun c o hc h => gf _ _ h, up3_same, by omega⟩⟩
        obtain ⟨k, rfl, g4, hm4, hnk⟩ := hJ3
        have hMb4 : DctAt M3 b (mkD S (fun p => .int ((st p : Nat) : Int))).kv := .inl (by rw [hkv]; exact g4 b _ (Ne.symm hfb) hMb)
        have body : k < m' → WSs C23 Γ (.cons (.exp (.meth .append (.var 4) (.cons (.sub (.var 1) (.var 5)) .nil))) (.cons (.asg (.one 5) (.sub (.sub (.var 0) (.sub (.var 1) (.var 5))) (.int 1))) .nil)) ⟨nx3, Q, fun σ M => ∃ d, σ[4]? = some (some d) ∧ biD BI.tuple [d] M Q, nx3⟩ [some (.tup (rows.map Row.d)), some (.ref b), some p.d, some v.d, some (.ref f), some (chain rows st p k).d, some (.ref e)] M3 := by
          intro hk
          have hkS := hinp k (by omega)
          obtain ⟨row, hrow⟩ := hok.row _ hkS
          simp only [WSs, WS, WE, WX, mkT, WA]
          refine ⟨_, rfl, ⟨f, _, rfl, hm4⟩, _, rfl, _, rfl, sub_dct hMb4 hkS ?_⟩
          have := hok.len
          refine ⟨f, _, _, rfl, rfl, hm4, by rw [List.length_map, List.length_map, List.length_range]; have := sizeLine_eq; omega, ?_⟩
          have g5 : GroBut f M3 (up3 M3 f (.lst ((((List.range k).map fun i => st (chain rows st p i)).map fun (i : Nat) => D.int (i : Int)) ++ [D.int ((st (chain rows st p k) : Nat) : Int)]))) := GroBut.put
          have hMb5 : DctAt (up3 M3 f (.lst ((((List.range k).map fun i => st (chain rows st p i)).map fun (i : Nat) => D.int (i : Int)) ++ [D.int ((st (chain rows st p k) : Nat) : Int)]))) b (mkD S (fun p => .int ((st p : Nat) : Int))).kv := .inl (by rw [hkv]; exact g5 b _ (Ne.symm hfb) (g4 b _ (Ne.symm hfb) hMb))
          refine ⟨_, rfl, _, rfl, _, rfl, sub_dct hMb5 hkS ?_⟩
          refine sub_rows hrow ?_
          refine ⟨_, rfl, _, rfl, hnx3 (n - 1) _ _ (by omega) ⟨k + 1, ?_, g4.trans g5, ?_, by omega⟩⟩
          · have e : chain rows st p (k + 1) = row.b := prd_row hrow
            rw [e]
            rfl
          · rw [up3_same, List.range_succ]
            simp
        refine ⟨_, rfl, _, _, rfl, by simp [lenD, hm4]; rfl, ?_⟩
        refine ⟨_, int_eq _ _ _, _, rfl, ?_⟩
        by_cases c3 : k = 0
        · rw [decide_eq_true (by omega)]
          simp only [if_true]
          exact body (by omega)
        · rw [decide_eq_false (by omega)]
          simp only [Bool.false_eq_true, if_false]
          refine ⟨_, rfl, _, rfl, _, Pt.eqR (hok.ok _ (hinp k (by omega))) (hok.ok _ c1), _, rfl, ?_⟩
          by_cases c4 : chain rows st p k = p
          · rw [decide_eq_true c4]
            simp only [Bool.not_true, Bool.false_eq_true, if_false]
            refine ⟨_, rfl, _, _, rfl, .inl ⟨f, rfl, .inl hm4⟩, ?_⟩
            have gF : Gro M M3 := fun c o hc => g4 c o (fun z => by rw [z] at hc; rw [gM _ _ hc] at hf; cases hf) (gM c o hc)
            refine q M3 _ gF (fun i hi => ?_) (by rw [List.length_map, List.length_range]; have := hok.len; omega)
            obtain ⟨k', hk', rfl⟩ := List.mem_map.mp hi
            obtain ⟨row, hrow⟩ := hok.row _ (hinp k' (by have := List.mem_range.mp hk'; omega))
            exact (List.getElem?_eq_some_iff.mp hrow).1
          · rw [decide_eq_false c4]
            simp only [Bool.not_false, if_true]
            exact body (by
              have : k ≠ m' := fun z => c4 (by rw [z]; exact hper)
              omega)
      · rw [decide_eq_false c2]
        simp only [Bool.not_false, if_true]
        obtain ⟨row, hrow⟩ := hok.row _ c1
        have nd' : ((List.range (m + 1)).map (chain rows st v)).Nodup := by
          rw [List.range_succ, List.map_append]
          refine List.nodup_append.mpr ⟨nd, by simp, fun x hx y hy z => c2 ?_⟩
          rw [List.map_cons, List.map_nil, List.mem_singleton] at hy
          rw [← hy, ← z]
          exact hx
        have hlen := nodup_len nd' (m := S) fun x hx => by
          obtain ⟨k, hk, rfl⟩ := List.mem_map.mp hx
          have := List.mem_range.mp hk
          by_cases z : k < m
          · exact hin k z
          · rw [show k = m from by omega]
            exact c1
        rw [List.length_map, List.length_range] at hlen
        have hSl := hok.len
        refine ⟨_, rfl, _, rfl, put_dct hm2 (by rw [List.length_map, List.length_range]; omega) ?_⟩
        have g5 : GroBut e M2 (up3 M2 e (.dct (mkD (addP ((List.range m).map (chain rows st v)) (chain rows st v m)) (updP (fun _ => D.bl true) (chain rows st v m) (.bl true))).kv)) := GroBut.put
        refine ⟨_, rfl, _, rfl, _, rfl, sub_dct (hPl (g5 b _ (Ne.symm heb) hlk2)) c1 ?_⟩
        refine sub_rows hrow ?_
        refine ⟨_, rfl, _, rfl, hnx2 (n - 1) _ _ (by omega) ⟨m + 1, ?_, g2.trans g5, ?_, nd', fun k hk => ?_, by omega⟩⟩
        · have e : chain rows st v (m + 1) = row.b := prd_row hrow
          rw [e]
          rfl
        · rw [up3_same]
          have e1 : addP ((List.range m).map (chain rows st v)) (chain rows st v m) = (List.range (m + 1)).map (chain rows st v) := by
            unfold addP
            rw [if_neg c2, List.range_succ, List.map_append]
            rfl
          have e2 : updP (fun _ => D.bl true) (chain rows st v m) (.bl true) = fun _ => D.bl true := by
            funext x
            unfold updP
            split <;> rfl
          rw [e1, e2]
        · by_cases z : k < m
          · exact hin k z
          · rw [show k = m from by omega]
            exact c1
    · rw [decide_eq_false c1]
      simp only [Bool.false_eq_true, if_false]
      have c2 : ¬ chain rows st v m ∈ (List.range m).map (chain rows st v) := fun z => by
        obtain ⟨j, hjm, ej⟩ := hseen.mp z
        exact c1 (by rw [← ej]; exact hin j hjm)
      refine ⟨_, rfl, _, rfl, _, in_dct seen, _, rfl, ?_⟩
      rw [decide_eq_false c2]
      simp only [Bool.false_eq_true, if_false]
      refine hnx _ _ ⟨_, _, _, rfl, g3, fun j v' hj' hv' => ?_⟩
      by_cases z : j < i
      · exact hj j v' z hv'
      · have e : j = i := by omega
        subst e
        rw [hv] at hv'
        cases hv'
        exact ⟨m, by omega, c1⟩
  · obtain ⟨x1, x2, x3, rfl, g, hj⟩ := hJ
    exfalso
    obtain ⟨v, hv⟩ := hst
    obtain ⟨j, hjl, ej⟩ := List.getElem_of_mem (hv 0 (Nat.zero_le _))
    obtain ⟨k, hk, hn⟩ := hj j v (by rw [List.length_map]; exact hjl) (by rw [List.getElem?_eq_getElem hjl, ej]; rfl)
    exact hn (hv k hk)
end L3

set_option Elab.async false
set_option linter.all false
set_option maxRecDepth 100000
set_option maxHeartbeats 4000000
/-! E13: ring_of, fitted, fitting, ring. -/
namespace L3
open PySem PySem.Spec PyProof.Rows L2

structure RowsG (rows : List Row) : Prop where
  len : rows.length ≤ 20
  ok : ∀ r ∈ rows, r.ok = true
  w : ∀ r ∈ rows, -(2 * 10 ^ 30) ≤ r.w ∧ r.w ≤ 2 * 10 ^ 30
  diff : ∀ r ∈ rows, isDiffD r.d = true
open Classical in
/-- {point: .. for point in ..} -/
theorem dc_pts {Γ : Nat → Sp3} {hold : Hp3 → Prop} {σ : St3} {p : Addr} {Q : VK3} {M0 : Hp3} {i : Nat} {vx : TE3} {qs : List Pt} (f : Pt → D) (hi : i < σ.length) (hp : M0 p = none) (hold_ : ∀ M, Gro M0 M → hold M) (nd : qs.Nodup) (hl : qs.length ≤ 1000)
    (hv : ∀ q ∈ qs, ∀ M, Gro M0 M → Pur vx (σ.set i (some q.d)) M (f q)) (fin : ∀ M, Gro M0 M → M p = some (.dct (mkD qs f).kv) → Q (.ref p) M) :
    dcW hold (.one i) (WC C23 Γ .no) (WE C23 Γ (.var i)) vx σ p (qs.map Pt.d) (up3 M0 p (.dct [])) Q := by
  let g : D → D × D := fun d => (d, if h : ∃ q : Pt, q.d = d then f h.choose else .non)
  have hg : ∀ q : Pt, g q.d = (q.d, f q) := fun q => by
    have h : ∃ q' : Pt, q'.d = q.d := ⟨q, rfl⟩
    have e : (if h : ∃ q' : Pt, q'.d = q.d then f h.choose else D.non) = f q := by
      rw [dif_pos h, Pt.d_inj h.choose_spec]
    show (q.d, if h : ∃ q' : Pt, q'.d = q.d then f h.choose else D.non) = _
    rw [e]
  refine dcW_pur g hp hold_ _ [] _ (Gro.new hp) up3_same ?_ ?_ ?_ ?_
  · rw [List.length_map]
    have := sizeLine_eq
    show 0 + qs.length ≤ sizeLine
    omega
  · intro x hx
    obtain ⟨q, _, rfl⟩ := List.mem_map.mp hx
    rw [hg q, Pt.keyOf]
    rfl
  · intro x hx M g1
    obtain ⟨q, hq, rfl⟩ := List.mem_map.mp hx
    refine ⟨_, rfl, evT_yes, fun M1 g2 => ⟨fun K k => ?_, fun M2 g3 => ?_⟩⟩
    · simp only [WE, WX, mkT]
      exact ⟨_, List.getElem?_set_self hi, k _ _ ⟨by rw [hg], Gro.refl _⟩⟩
    · rw [hg q]
      exact hv q hq M2 (g1.trans (g2.trans g3))
  · intro M g1 hM
    refine fin M g1 ?_
    rw [hM]
    have e : (qs.map Pt.d).map g = (mkD qs f).kv := by
      unfold mkD PD.kv
      rw [List.map_map, List.map_map]
      exact List.map_congr_left fun q _ => hg q
    rw [e]
    have := putsD_mk f qs [] (by rw [List.nil_append]; exact nd)
    rw [List.nil_append] at this
    exact congrArg (fun l => some (MO.dct l)) this
abbrev sp_fitted : Sp3 := fun ds M Q => ∃ rows, ds = [.tup (rows.map Row.d)] ∧ RowsG rows ∧ (∀ M', Gro M M' → Q .non M') ∧
  ∀ (M' : Hp3) (a : Addr) (qs : List Pt) (f : Pt → Int), Gro M M' → M a = none → M' a = some (.dct (mkD qs fun p => .int (f p)).kv) → qs.Perm (ptsOf rows) → (∀ p, -(10 ^ 40) ≤ f p ∧ f p ≤ 10 ^ 40) → Q (.ref a) M'
abbrev sp_ring_of : Sp3 := fun ds M Q => ∃ rows, ds = [.tup (rows.map Row.d)] ∧ RowsG rows ∧ (∀ M', Gro M M' → Q .non M') ∧
  ∀ (M' : Hp3) (is : List Nat), Gro M M' → (∀ i ∈ is, i < rows.length) → is.length ≤ 100 → Q (.tup (is.map fun (i : Nat) => D.int (i : Int))) M'
theorem GroBut.gro {M M1 M2 : Hp3} {a : Addr} (h : M a = none) (g : Gro M M1) (g2 : GroBut a M1 M2) : Gro M M2 := fun c o hc => g2 c o (fun z => by rw [z, h] at hc; cases hc) (g c o hc)
theorem settled_steps {rows : List Row} {P : List Pt} (hP : P.Perm (ptsOf rows)) (hl : rows.length ≤ 20) (hok : ∀ r ∈ rows, r.ok = true) {s : SS} (h0 : s.S = []) {n : Nat} : StepsOk rows (rounds rows s n).S (rounds rows s n).st ∧ (rounds rows s n).S.length ≤ P.length := by
  have hPl : P.length ≤ 41 := by
    have := hP.length_eq
    have := ptsOf_len rows
    omega
  cases n with
  | zero =>
    show StepsOk rows s.S s.st ∧ s.S.length ≤ _
    rw [h0]
    exact ⟨⟨fun _ h => (by cases h), fun _ h => (by cases h), List.nodup_nil, by show 0 ≤ 100; omega⟩, Nat.zero_le _⟩
  | succ n =>
    obtain ⟨last, hi⟩ := Inv.after (rows := rows) (s := s) h0 n
    have hsub : ∀ v ∈ (rounds rows s (n + 1)).S, v ∈ P := fun v hv => by
      obtain ⟨row, e1, e2, _⟩ := hi.i3 v hv
      rw [← e2]
      exact (hP.mem_iff).mpr (ptsOf_mem.mpr (.inr ⟨row, List.mem_of_getElem? e1, .inl rfl⟩))
    have hlen := nodup_len hi.i5 hsub
    refine ⟨⟨fun v hv => ?_, fun v hv => ?_, hi.i5, by omega⟩, hlen⟩
    · obtain ⟨row, e1, _, _⟩ := hi.i3 v hv
      exact ⟨row, e1⟩
    · exact ptsOf_ok hok v ((hP.mem_iff).mp (hsub v hv))
theorem ring_of_spec (Γ : Nat → Sp3) (h7 : Γ 7 = sp_points) (h9 : Γ 9 = sp_settled) (h10 : Γ 10 = sp_ring_in) (ds : List D) (M : Hp3) (Q : VK3) (h : sp_ring_of ds M Q) : WSs C23 Γ I_ring_of { nx := fun _ M' => Q .non M', rt := Q } (start3 N_ring_of ds) M := by
  obtain ⟨rows, rfl, hr, q0, q1⟩ := h
  simp only [I_ring_of, WSs, WS, WE, WX, mkT, WA, WP, WT, WI, h7, h9, h10, N_ring_of, start3, List.map_cons, List.map_nil, List.length_cons, List.length_nil, List.replicate, List.append_nil]
  refine ⟨_, rfl, _, rfl, rows, rfl, hr.len, hr.ok, fun M1 p P g1 hp hM1 hP => ?_⟩
  refine .inl ⟨_, hM1, fun a ha => ?_⟩
  have hPl : P.length ≤ 41 := by
    have := hP.length_eq
    have := ptsOf_len rows
    have := hr.len
    omega
  refine dc_pts (fun _ => .int 0) (by show 3 < 4; decide) ha (fun M2 g2 => g2 _ _ hM1) ((hP.nodup_iff).mpr (ptsOf_nodup rows)) (by omega) (fun q hq M2 g2 K k => k _ _ ⟨rfl, Gro.refl _⟩) fun M2 g2 hM2 => ?_
  refine ⟨a, P, rows, fun _ => 0, rfl, hM2, hP, hr.len, hr.ok, fun M3 b n h hb hba g3 hn hs hh => ?_⟩
  have g03 : Gro M M3 := GroBut.gro (g1.fresh ha) (g1.trans g2) g3
  refine ⟨_, rfl, _, rfl, _, rfl, ?_⟩
  cases h with
  | false => exact q0 _ g03
  | true =>
    rw [if_pos rfl]
    obtain ⟨hn, hc⟩ := hh rfl
    subst hn
    obtain ⟨hs1, hs2⟩ := settled_steps (n := 2 * P.length + 1) (s := ⟨fun _ => 0, [], fun _ => 0, false⟩) hP hr.len hr.ok rfl
    obtain ⟨last, hi⟩ := Inv.after (rows := rows) (s := ⟨fun _ => 0, [], fun _ => 0, false⟩) rfl (2 * P.length)
    obtain ⟨v, hv⟩ := hi.stays hc
    exact ⟨_, rfl, _, rfl, b, _, _, rows, rfl, hs.s, hs1, ⟨v, fun k hk => hv k (by omega)⟩, fun M4 is g4 h1 h2 => q1 M4 is (g03.trans g4) h1 h2⟩
theorem fitted_spec (Γ : Nat → Sp3) (h7 : Γ 7 = sp_points) (h9 : Γ 9 = sp_settled) (ds : List D) (M : Hp3) (Q : VK3) (h : sp_fitted ds M Q) : WSs C23 Γ I_fitted { nx := fun _ M' => Q .non M', rt := Q } (start3 N_fitted ds) M := by
  obtain ⟨rows, rfl, hr, q0, q1⟩ := h
  simp only [I_fitted, WSs, WS, WE, WX, mkT, WA, WP, WT, WI, h7, h9, N_fitted, start3, List.map_cons, List.map_nil, List.length_cons, List.length_nil, List.replicate, List.append_nil]
  refine ⟨_, rfl, rows, rfl, hr.len, hr.ok, fun M1 p P g1 hp hM1 hP => ?_⟩
  refine ⟨_, rfl, _, rfl, .inl ⟨_, hM1, fun a ha => ?_⟩⟩
  have hPl : P.length ≤ 41 := by
    have := hP.length_eq
    have := ptsOf_len rows
    have := hr.len
    omega
  have nd := (hP.nodup_iff).mpr (ptsOf_nodup rows)
  refine dc_pts (fun _ => .int 0) (by show 3 < 4; decide) ha (fun M2 g2 => g2 _ _ hM1) nd (by omega) (fun q hq M2 g2 K k => k _ _ ⟨rfl, Gro.refl _⟩) fun M2 g2 hM2 => ?_
  refine ⟨_, rfl, _, rfl, _, rfl, a, P, rows, fun _ => 0, rfl, hM2, hP, hr.len, hr.ok, fun M3 b n h hb hba g3 hn hs hh => ?_⟩
  have g03 : Gro M M3 := GroBut.gro (g1.fresh ha) (g1.trans g2) g3
  have hpa : p ≠ a := fun z => by rw [z, ha] at hM1; cases hM1
  have hM3p := g3 p _ hpa (g2 _ _ hM1)
  refine ⟨_, rfl, _, rfl, ?_⟩
  cases h with
  | true =>
    rw [if_pos rfl]
    exact q0 _ g03
  | false =>
    rw [if_neg Bool.false_ne_true]
    refine ⟨_, rfl, .inl ⟨_, hM3p, fun d hd => ?_⟩⟩
    have hz : Pt.s "" ∈ P := (hP.mem_iff).mpr (ptsOf_mem.mpr (.inl rfl))
    refine dc_pts (fun q => .int ((rounds rows ⟨fun _ => 0, [], fun _ => 0, false⟩ n).num q - (rounds rows ⟨fun _ => 0, [], fun _ => 0, false⟩ n).num (.s ""))) (by show 3 < 4; decide) hd (fun M4 g4 => g4 _ _ hM3p) nd (by omega) (fun q hq M4 g4 K k => ?_) fun M4 g4 hM4 => ?_
    · exact ⟨_, rfl, _, rfl, sub_dct (.inl (g4 _ _ hs.n)) hq ⟨_, rfl, sub_dct (.inl (g4 _ _ hs.n)) hz (k _ _ ⟨rfl, Gro.refl _⟩)⟩⟩
    · refine q1 M4 d P _ (g03.trans g4) (g03.fresh hd) hM4 hP fun x => ?_
      have bd := rounds_bd (rows := rows) (s := ⟨fun _ => 0, [], fun _ => 0, false⟩) (b := 0) (W := 2 * 10 ^ 30) (fun v => ⟨by show -(0 : Int) ≤ 0; decide, by show (0 : Int) ≤ 0; decide⟩) hr.w (by decide) n
      have bx := bd x
      have bz := bd (.s "")
      have hle : (n : Int) * ((rows.length : Int) * (2 * 10 ^ 30)) ≤ 83 * (20 * (2 * 10 ^ 30)) := by
        have h1 : (rows.length : Int) * (2 * 10 ^ 30) ≤ 20 * (2 * 10 ^ 30) := by have := hr.len; omega
        have h0 : 0 ≤ (rows.length : Int) * (2 * 10 ^ 30) := by omega
        have h2 : (n : Int) ≤ 83 := by omega
        calc (n : Int) * ((rows.length : Int) * (2 * 10 ^ 30)) ≤ 83 * ((rows.length : Int) * (2 * 10 ^ 30)) := Int.mul_le_mul_of_nonneg_right h2 h0
          _ ≤ 83 * (20 * (2 * 10 ^ 30)) := Int.mul_le_mul_of_nonneg_left h1 (by decide)
      generalize (n : Int) * ((rows.length : Int) * (2 * 10 ^ 30)) = B at bx bz hle
      omega
theorem Row.req {rows : List Row} (h : RowsG rows) (M : Hp3) : ∀ r ∈ rows.map Row.d, isDiffD r = true ∧ Tame M r := fun r hr => by
  obtain ⟨x, hx, rfl⟩ := List.mem_map.mp hr
  exact ⟨h.diff x hx, Row.tame (h.ok x hx)⟩
theorem fitting_spec (Γ : Nat → Sp3) (h6 : Γ 6 = sp_require) (h12 : Γ 12 = sp_fitted) (ds : List D) (M : Hp3) (Q : VK3) (h : sp_fitted ds M Q) : WSs C23 Γ I_fitting { nx := fun _ M' => Q .non M', rt := Q } (start3 N_fitting ds) M := by
  obtain ⟨rows, rfl, hr, q0, q1⟩ := h
  simp only [I_fitting, WSs, WS, WE, WX, mkT, WA, WT, WI, h6, h12, N_fitting, start3, List.map_cons, List.map_nil, List.length_cons, List.length_nil, List.replicate, List.append_nil]
  refine ⟨_, rfl, _, rfl, by rw [List.length_map]; have := hr.len; omega, Row.req hr M, fun M1 g1 => ?_⟩
  exact ⟨_, rfl, rows, rfl, hr, fun M2 g2 => q0 _ (g1.trans g2), fun M2 a qs f g2 ha => q1 M2 a qs f (g1.trans g2) (g1.fresh ha)⟩
theorem ring_spec (Γ : Nat → Sp3) (h6 : Γ 6 = sp_require) (h11 : Γ 11 = sp_ring_of) (ds : List D) (M : Hp3) (Q : VK3) (h : sp_ring_of ds M Q) : WSs C23 Γ I_ring { nx := fun _ M' => Q .non M', rt := Q } (start3 N_ring ds) M := by
  obtain ⟨rows, rfl, hr, q0, q1⟩ := h
  simp only [I_ring, WSs, WS, WE, WX, mkT, WA, WT, WI, h6, h11, N_ring, start3, List.map_cons, List.map_nil, List.length_cons, List.length_nil, List.replicate, List.append_nil]
  refine ⟨_, rfl, _, rfl, by rw [List.length_map]; have := hr.len; omega, Row.req hr M, fun M1 g1 => ?_⟩
  exact ⟨_, rfl, rows, rfl, hr, fun M2 g2 => q0 _ (g1.trans g2), fun M2 is g2 => q1 M2 is (g1.trans g2)⟩
end L3

set_option Elab.async false
set_option linter.all false
set_option maxRecDepth 100000
set_option maxHeartbeats 4000000
/-! E14: is_ring, _law_ring_due. -/
namespace L3
open PySem PySem.Spec PyProof.Rows L2

def isTupD : D → Bool
  | .tup _ => true
  | _ => false
theorem isi_tup {M : Hp3} {d : D} (h : Ty M d) : isiD M d "tuple" = some (isTupD d) := by
  rw [isi_tuple h]
  cases d <;> rfl
theorem isTup_no {d : D} (h : ∀ vs, d ≠ .tup vs) : isTupD d = false := by
  cases d with
  | tup vs => exact absurd rfl (h vs)
  | _ => rfl
def rowAt (rows : List Row) : D → Option Row
  | .int i => if 0 ≤ i then rows[i.toNat]? else none
  | _ => none
def adjAt (rs : List Row) (i : Nat) : Bool := match rs[i]?, rs[(i + 1) % rs.length]? with
  | some r, some r' => decide (r.b = r'.a)
  | _, _ => false
def ringB (rows : List Row) (vs : List D) : Bool :=
  !vs.isEmpty && (vs.all (fun d => (rowAt rows d).isSome) && ((List.range (vs.filterMap (rowAt rows)).length).all (adjAt (vs.filterMap (rowAt rows))) && decide (((vs.filterMap (rowAt rows)).map (·.w)).sum < 0)))
mutual
theorem DataAt.gro {M M' : Hp3} (g : Gro M M') : ∀ {d : D} {p : PyData}, DataAt M d p → DataAt M' d p
  | _, _, .non => .non
  | _, _, .bl b => .bl b
  | _, _, .int i => .int i
  | _, _, .str x => .str x
  | _, _, .tup h => .tup (DataAts.gro g h)
  | _, _, .lst h t => .lst (g _ _ h) (DataAts.gro g t)
  | _, _, .dct h t u => .dct (g _ _ h) (DataAts.gro g t) (DataAts.gro g u)
theorem DataAts.gro {M M' : Hp3} (g : Gro M M') : ∀ {ds : List D} {ps : List PyData}, DataAts M ds ps → DataAts M' ds ps
  | _, _, .nil => .nil
  | _, _, .cons h t => .cons (DataAt.gro g h) (DataAts.gro g t)
end
/-- what is asked about v as a ring, and the answer -/
def RingR (rows : List Row) (M : Hp3) (v : D) (b : Bool) : Prop :=
  (Tame M v ∧ (∀ vs, v ≠ .tup vs) ∧ b = false) ∨ ∃ vs, v = .tup vs ∧ vs.length ≤ 1000 ∧ (∀ d ∈ vs, Tame M d) ∧ (∃ ps, DataAts M vs ps ∧ SeqAt.shaped (.tuple ps) = true) ∧ b = ringB rows vs
theorem RingR.gro {rows : List Row} {M M' : Hp3} {v : D} {b : Bool} (h : RingR rows M v b) (g : Gro M M') : RingR rows M' v b := by
  rcases h with ⟨t, n, e⟩ | ⟨vs, e, l, t, ⟨ps, d, s⟩, eb⟩
  · exact .inl ⟨t.gro g, n, e⟩
  · exact .inr ⟨vs, e, l, fun d hd => (t d hd).gro g, ⟨ps, d.gro g, s⟩, eb⟩
abbrev sp_ringq : Sp3 := fun ds M Q => ∃ rows v b, ds = [.tup (rows.map Row.d), v] ∧ RowsG rows ∧ RingR rows M v b ∧ ∀ M', Gro M M' → Q (.bl b) M'
theorem filterMap_bl (h : D → Bool) (l : List D) : l.filterMap (fun d => some (D.bl (h d))) = (l.map h).map D.bl := by
  rw [List.filterMap_eq_map', List.map_map]
  rfl
theorem enumD_eq (ds : List D) : enumD 0 ds = (List.range ds.length).map fun (i : Nat) => D.tup [.int (i : Int), (ds[i]?).getD .non] := by
  refine List.ext_getElem? fun i => ?_
  rw [enumD_at, List.getElem?_map]
  by_cases h : i < ds.length
  · rw [List.getElem?_range h, List.getElem?_eq_getElem h, Nat.zero_add]
    simp [List.getElem?_eq_getElem h]
  · rw [List.getElem?_eq_none (by omega), List.getElem?_eq_none (by rw [List.length_range]; omega)]
    rfl
theorem rowAt_int {rows : List Row} {d : D} {r : Row} (h : rowAt rows d = some r) : ∃ i : Nat, d = .int (i : Int) ∧ rows[i]? = some r := by
  cases d with
  | int i =>
    have h : (if 0 ≤ i then rows[i.toNat]? else none) = some r := h
    by_cases h0 : 0 ≤ i
    · rw [if_pos h0] at h
      exact ⟨i.toNat, by rw [Int.toNat_of_nonneg h0], h⟩
    · rw [if_neg h0] at h
      cases h
  | _ => cases h
theorem rowAt_some {rows : List Row} {i : Int} : (rowAt rows (.int i)).isSome = (decide (0 ≤ i) && decide (i < (rows.length : Int))) := by
  show (if 0 ≤ i then rows[i.toNat]? else none).isSome = _
  by_cases h : 0 ≤ i
  · rw [if_pos h, decide_eq_true h, Bool.true_and]
    by_cases h2 : i < (rows.length : Int)
    · rw [decide_eq_true h2, List.getElem?_eq_getElem (by omega)]
      rfl
    · rw [decide_eq_false h2, List.getElem?_eq_none (by omega)]
      rfl
  · rw [if_neg h, decide_eq_false h]
    rfl
theorem rows_filter {rows : List Row} {vs : List D} : vs.filterMap (fun d => (rowAt rows d).map Row.d) = (vs.filterMap (rowAt rows)).map Row.d := by
  induction vs with
  | nil => rfl
  | cons d vs ih =>
    rw [List.filterMap_cons, List.filterMap_cons]
    cases rowAt rows d with
    | none => exact ih
    | some r => simp only [Option.map_some, List.map_cons, ih]
theorem filter_ok {rows : List Row} {vs : List D} : ∀ r ∈ vs.filterMap (rowAt rows), r ∈ rows := fun r hr => by
  obtain ⟨d, _, hd⟩ := List.mem_filterMap.mp hr
  obtain ⟨i, _, hi⟩ := rowAt_int hd
  exact List.mem_of_getElem? hi
def wOf : D → Option D
  | .tup [_, _, w] => some w
  | _ => none
theorem wOf_rows (rs : List Row) : (rs.map Row.d).filterMap wOf = (rs.map (·.w)).map D.int := by
  induction rs with
  | nil => rfl
  | cons r rs ih => rw [List.map_cons, List.filterMap_cons, List.map_cons, List.map_cons, ← ih]; rfl
/-- row[1] against rows[(at + 1) % n][0] -/
theorem adj_ev {Γ : Nat → Sp3} {M : Hp3} {a : Addr} {rs : List Row} (hM : M a = some (.lst (rs.map Row.d))) (hok : ∀ r ∈ rs, r.ok = true) {i : Nat} (hi : i < rs.length) : ∃ r r', rs[i]? = some r ∧ rs[(i + 1) % rs.length]? = some r' ∧ eqR M r.b.d r'.a.d (adjAt rs i) := by
  obtain ⟨r, hr⟩ := get_of_lt hi
  obtain ⟨r', hr'⟩ := get_of_lt (l := rs) (i := (i + 1) % rs.length) (Nat.mod_lt _ (by omega))
  refine ⟨r, r', hr, hr', ?_⟩
  have e : adjAt rs i = decide (r.b = r'.a) := by
    unfold adjAt
    rw [hr, hr']
  have h1 := hok r (List.mem_of_getElem? hr)
  have h2 := hok r' (List.mem_of_getElem? hr')
  simp only [Row.ok, Bool.and_eq_true] at h1 h2
  rw [e]
  exact Pt.eqR h1.2 h2.1
theorem mod_nat (i n : Nat) : ((i : Int) + 1) % (n : Int) = (((i + 1) % n : Nat) : Int) := by push_cast; rfl
theorem is_ring_of_spec (Γ : Nat → Sp3) (h0 : Γ 0 = spQ isIntD) (ds : List D) (M : Hp3) (Q : VK3) (h : sp_ringq ds M Q) : WSs C23 Γ I_is_ring_of { nx := fun _ M' => Q .non M', rt := Q } (start3 N_is_ring_of ds) M := by
  obtain ⟨rows, v, b, rfl, hr, hv, q⟩ := h
  simp only [I_is_ring_of, WSs, WS, WE, WX, mkT, WA, WP, WT, WI, h0, N_is_ring_of, start3, List.map_cons, List.map_nil, List.length_cons, List.length_nil, List.replicate, List.append_nil]
  rcases hv with ⟨tv, nt, rfl⟩ | ⟨vs, rfl, hvl, tvs, _, rfl⟩
  · refine ⟨_, rfl, _, isi_tup tv.ty, _, rfl, ?_⟩
    rw [isTup_no nt]
    simp only [Bool.not_false, if_true]
    exact q M (Gro.refl M)
  · refine ⟨_, rfl, _, isi_tuple ⟨_, rfl⟩, _, rfl, ?_⟩
    simp only [Bool.not_true, Bool.false_eq_true, if_false]
    refine ⟨_, rfl, _, _, rfl, rfl, _, int_eq _ _ _, _, rfl, ?_⟩
    cases hvs : vs with
    | nil =>
      rw [if_pos (by simp)]
      have := q M (Gro.refl M)
      rw [hvs] at this
      exact this
    | cons v0 vs' =>
      rw [← hvs]
      have hne : vs.isEmpty = false := by rw [hvs]; rfl
      rw [if_neg (by rw [decide_eq_true_eq, hvs, List.length_cons]; omega)]
      refine ⟨_, rfl, fun p hp => ?_⟩
      refine lcW_pur (fun d => some (.bl (rowAt rows d).isSome)) hp (fun _ _ => trivial) (Nat.le_trans hvl (szd (Nat.le_refl _))) (fun d hd M1 g1 => ⟨_, rfl, evT_yes, fun y hy M2 g2 K k => ?_⟩) fun M1 g1 hM1 => ?_
      · cases hy
        have td : Tame M2 d := ((tvs d hd).gro g1).gro g2
        refine ⟨_, rfl, d, rfl, td, fun M3 g3 => ⟨_, rfl, ?_⟩⟩
        cases hid : isIntD d with
        | false =>
          rw [if_neg Bool.false_ne_true]
          have e : (rowAt rows d).isSome = false := by
            cases d with
            | int i =>
              rw [rowAt_some]
              have hid : (decide (-(10 ^ 60) < i) && decide (i < 10 ^ 60)) = false := hid
              have := hr.len
              rw [← Bool.not_eq_true, Bool.and_eq_true, decide_eq_true_eq, decide_eq_true_eq] at hid ⊢
              intro z
              exact hid ⟨by omega, by omega⟩
            | _ => rfl
          exact k _ _ ⟨by rw [e], g3⟩
        | true =>
          rw [if_pos rfl]
          cases d with
          | int i =>
            refine ⟨_, rfl, ?_⟩
            show if decide (0 ≤ i) = true then _ else _
            rw [rowAt_some] at k
            by_cases c : 0 ≤ i
            · rw [if_pos (decide_eq_true c)]
              refine ⟨_, rfl, _, _, rfl, rfl, ?_⟩
              refine k _ _ ⟨?_, g3⟩
              rw [decide_eq_true c, Bool.true_and, List.length_map]
            · rw [if_neg (by rw [decide_eq_true_eq]; exact c)]
              refine k _ _ ⟨?_, g3⟩
              rw [decide_eq_false c, Bool.false_and]
          | _ => cases hid
      · rw [show (Src.tup vs).items = vs from rfl, filterMap_bl] at hM1
        refine ⟨p, _, rfl, .inl hM1, _, rfl, ?_⟩
        rw [List.all_map]
        show if (!(vs.all fun d => (rowAt rows d).isSome)) = true then _ else _
        cases ha : vs.all fun d => (rowAt rows d).isSome with
        | false =>
          simp only [Bool.not_false, if_true]
          have := q M1 g1
          unfold ringB at this
          rw [hne, ha] at this
          exact this
        | true =>
          simp only [Bool.not_true, Bool.false_eq_true, if_false]
          refine ⟨_, rfl, fun a ha1 => ?_⟩
          refine lcW_pur (fun d => (rowAt rows d).map Row.d) ha1 (fun _ _ => trivial) (Nat.le_trans hvl (szd (Nat.le_refl _))) (fun d hd M2 g2 => ?_) fun M2 g2 hM2 => ?_
          · have hs := List.all_eq_true.mp ha d hd
            obtain ⟨r, hr1⟩ := Option.isSome_iff_exists.mp hs
            obtain ⟨i, rfl, hi⟩ := rowAt_int hr1
            refine ⟨_, rfl, by rw [hr1]; exact evT_yes, fun y hy M3 g3 K k => ?_⟩
            rw [hr1] at hy
            cases hy
            exact ⟨_, rfl, _, rfl, sub_rows hi (k _ _ ⟨rfl, Gro.refl _⟩)⟩
          · rw [show (Src.tup vs).items = vs from rfl, rows_filter] at hM2
            generalize hrs : vs.filterMap (rowAt rows) = rs at hM2
            have hrl : rs.length ≤ 1000 := by
              rw [← hrs]
              exact Nat.le_trans (List.length_filterMap_le _ _) hvl
            have hrok : ∀ r ∈ rs, r.ok = true := fun r h => hr.ok r (filter_ok (vs := vs) r (by rw [hrs]; exact h))
            have qe : ∀ M', Gro M M' → Q (.bl ((List.range rs.length).all (adjAt rs) && decide ((rs.map (·.w)).sum < 0))) M' := fun M' g => by
              have := q M' g
              unfold ringB at this
              rw [hne, ha, hrs] at this
              exact this
            refine ⟨_, rfl, _, rfl, _, hM2, fun c hc => ?_⟩
            refine lcW_pur (fun x => match x with
              | .tup [.int i, _] => some (.bl (adjAt rs i.toNat))
              | _ => none) hc (fun M3 g3 => g3 _ _ hM2) (by show (enumD 0 _).length ≤ _; rw [enumD_cnt, List.length_map]; exact szd hrl) (fun x hx M3 g3 => ?_) fun M3 g3 hM3 => ?_
            · have hx : x ∈ enumD 0 (rs.map Row.d) := hx
              obtain ⟨i, hi⟩ := List.getElem?_of_mem hx
              rw [enumD_at, List.getElem?_map, Nat.zero_add] at hi
              obtain ⟨d, hd, rfl⟩ := Option.map_eq_some_iff.mp hi
              obtain ⟨r0, hr0, rfl⟩ := Option.map_eq_some_iff.mp hd
              have hil := (List.getElem?_eq_some_iff.mp hr0).1
              refine ⟨_, rfl, evT_yes, fun y hy M4 g4 K k => ?_⟩
              cases hy
              have hM4 := g4 _ _ (g3 _ _ hM2)
              obtain ⟨r, r', e1, e2, e3⟩ := adj_ev (Γ := Γ) hM4 hrok hil
              rw [hr0] at e1
              cases e1
              refine ⟨_, rfl, _, rfl, ?_⟩
              refine ⟨_, rfl, _, rfl, _, rfl, _, _, rfl, by simp [lenD, hM4]; rfl, ?_⟩
              refine ⟨by omega, sub_lst (d := r'.d) (.inl hM4) ?_ ?_⟩
              · rw [mod_nat]
                exact itemAt_nat (by rw [List.getElem?_map, e2]; rfl)
              · exact ⟨_, rfl, _, e3, k _ _ ⟨rfl, Gro.refl _⟩⟩
            · rw [show (Src.enL a (rs.map Row.d)).items = enumD 0 (rs.map Row.d) from rfl, enumD_eq, List.filterMap_map, List.length_map] at hM3
              have e : (List.range rs.length).filterMap ((fun x => match x with
                | .tup [.int i, _] => some (D.bl (adjAt rs i.toNat))
                | _ => none) ∘ fun (i : Nat) => D.tup [.int (i : Int), ((rs.map Row.d)[i]?).getD .non]) = ((List.range rs.length).map (adjAt rs)).map D.bl := by
                rw [List.map_map]
                have e0 : List.filterMap (fun i => some ((D.bl ∘ adjAt rs) i)) (List.range rs.length) = (List.range rs.length).map (D.bl ∘ adjAt rs) := by rw [List.filterMap_eq_map']
                exact e0
              rw [e] at hM3
              refine ⟨c, _, rfl, .inl hM3, _, rfl, ?_⟩
              rw [List.all_map]
              show if (!((List.range rs.length).all (adjAt rs))) = true then _ else _
              cases hadj : (List.range rs.length).all (adjAt rs) with
              | false =>
                simp only [Bool.not_false, if_true]
                have := qe M3 (g1.trans (g2.trans g3))
                rw [hadj] at this
                exact this
              | true =>
                simp only [Bool.not_true, Bool.false_eq_true, if_false]
                have hM3a := g3 _ _ hM2
                refine ⟨_, rfl, .inl ⟨_, hM3a, fun e he => ?_⟩⟩
                refine lcW_pur wOf he (fun M4 g4 => g4 _ _ hM3a) (by show (rs.map Row.d).length ≤ _; rw [List.length_map]; exact szd hrl) (fun x hx M4 g4 => ?_) fun M4 g4 hM4 => ?_
                · obtain ⟨r, _, rfl⟩ := List.mem_map.mp hx
                  refine ⟨_, rfl, evT_yes, fun y hy M5 g5 K k => ?_⟩
                  cases hy
                  exact ⟨_, rfl, k _ _ ⟨rfl, Gro.refl _⟩⟩
                · rw [show (Src.lst a (rs.map Row.d)).items = rs.map Row.d from rfl, wOf_rows] at hM4
                  refine ⟨e, _, rfl, .inl hM4, ?_⟩
                  have := qe M4 (g1.trans (g2.trans (g3.trans g4)))
                  rw [hadj, Bool.true_and] at this
                  exact this
theorem is_ring_spec (Γ : Nat → Sp3) (h6 : Γ 6 = sp_require) (h13 : Γ 13 = sp_ringq) (ds : List D) (M : Hp3) (Q : VK3) (h : sp_ringq ds M Q) : WSs C23 Γ I_is_ring { nx := fun _ M' => Q .non M', rt := Q } (start3 N_is_ring ds) M := by
  obtain ⟨rows, v, b, rfl, hr, hv, q⟩ := h
  simp only [I_is_ring, WSs, WS, WE, WX, mkT, WA, WT, WI, h6, h13, N_is_ring, start3, List.map_cons, List.map_nil, List.length_cons, List.length_nil, List.replicate, List.append_nil]
  refine ⟨_, rfl, _, rfl, by rw [List.length_map]; have := hr.len; omega, Row.req hr M, fun M1 g1 => ?_⟩
  exact ⟨_, rfl, _, rfl, rows, v, b, rfl, hr, hv.gro g1, fun M2 g2 => q M2 (g1.trans g2)⟩
end L3

set_option Elab.async false
set_option linter.all false
set_option maxRecDepth 100000
set_option maxHeartbeats 4000000
/-! E15: _law_ring_due. -/
namespace L3
open PySem PySem.Spec PyProof.Rows L2

theorem DataAts.empty {M : Hp3} {ds : List D} {ps : List PyData} (h : DataAts M ds ps) : PyData.eqvAll ps [] = ds.isEmpty := by
  cases h <;> simp [PyData.eqvAll]
theorem shaped_nil_t : SeqAt.shaped (.tuple []) = true := by simp [SeqAt.shaped, PyData.canLay0, PyData.canLayAll0, PyData.depth, PyData.depthAll]
theorem shaped_nil_l : SeqAt.shaped (.list []) = true := by simp [SeqAt.shaped, PyData.canLay0, PyData.canLayAll0, PyData.depth, PyData.depthAll]
/-- ints as data -/
theorem DataAts.ints {M : Hp3} : ∀ ns : List Int, DataAts M (ns.map D.int) (ns.map PyData.int)
  | [] => .nil
  | n :: ns => .cons (.int n) (DataAts.ints ns)
theorem canLay_ints : ∀ ns : List Int, PyData.canLayAll0 (ns.map PyData.int) = true
  | [] => by simp [PyData.canLayAll0]
  | n :: ns => by simp [PyData.canLayAll0, PyData.canLay0, canLay_ints ns]
theorem depth_ints : ∀ ns : List Int, PyData.depthAll (ns.map PyData.int) = 0
  | [] => by simp [PyData.depthAll]
  | n :: ns => by simp [PyData.depthAll, PyData.depth, depth_ints ns]
theorem shaped_ints (ns : List Int) : SeqAt.shaped (.list (ns.map .int)) = true := by
  simp [SeqAt.shaped, PyData.canLay0, PyData.depth, canLay_ints, depth_ints]
/-- a list against [] -/
theorem nil_eq {M : Hp3} {a b : Addr} {ds : List D} {ps : List PyData} (ha : M a = some (.lst ds)) (hd : DataAts M ds ps) (hs : SeqAt.shaped (.list ps) = true) (hb : M b = some (.lst [])) : eqR M (.ref a) (.ref b) ds.isEmpty :=
  ⟨.list ps, .list [], .lst ha hd, .lst hb .nil, hs, shaped_nil_l, by rw [← hd.empty]; simp [PyData.eqv]⟩
theorem filter_if {α β : Type} (f : α → β) (c : α → Bool) (l : List α) : l.filterMap (fun x => if c x = true then some (f x) else none) = (l.filter c).map f := by
  induction l with
  | nil => rfl
  | cons x l ih =>
    rw [List.filterMap_cons]
    cases h : c x with
    | true => simp only [if_true, List.filter_cons_of_pos h, List.map_cons, ih]
    | false =>
      simp only [Bool.false_eq_true, if_false]
      rw [List.filter_cons_of_neg (by simp [h])]
      exact ih
theorem filter_none {α : Type} {c : α → Bool} {l : List α} : (l.filter fun x => !c x).isEmpty = l.all c := by
  induction l with
  | nil => rfl
  | cons x l ih =>
    rw [List.all_cons]
    cases h : c x with
    | true => rw [List.filter_cons_of_neg (by simp [h]), ih, Bool.true_and]
    | false => rw [List.filter_cons_of_pos (by simp [h])]; rfl
theorem ring_due_spec (Γ : Nat → Sp3) (h27 : Γ 27 = spQ isIntD) (ds : List D) (M : Hp3) (Q : VK3) (h : sp_ringq ds M Q) : WSs C23 Γ I_law_ring_due { nx := fun _ M' => Q .non M', rt := Q } (start3 N_law_ring_due ds) M := by
  obtain ⟨rows, v, b, rfl, hr, hv, q⟩ := h
  simp only [I_law_ring_due, WSs, WS, WE, WX, mkT, WA, WP, WT, WI, h27, N_law_ring_due, start3, List.map_cons, List.map_nil, List.length_cons, List.length_nil, List.replicate, List.append_nil]
  rcases hv with ⟨tv, nt, rfl⟩ | ⟨vs, rfl, hvl, tvs, ⟨ps, hps, sps⟩, rfl⟩
  · refine ⟨_, rfl, _, isi_tup tv.ty, _, rfl, ?_⟩
    rw [isTup_no nt]
    simp only [Bool.not_false, if_true]
    exact q M (Gro.refl M)
  · refine ⟨_, rfl, _, isi_tuple ⟨_, rfl⟩, _, rfl, ?_⟩
    simp only [Bool.not_true, Bool.false_eq_true, if_false]
    refine ⟨_, rfl, szd (show 0 ≤ 1000 by decide), vs.isEmpty, ⟨.tuple ps, .tuple [], .tup hps, .tup .nil, sps, shaped_nil_t, by rw [← hps.empty]; simp [PyData.eqv]⟩, _, rfl, ?_⟩
    cases hne : vs.isEmpty with
    | true =>
      rw [if_pos rfl]
      have := q M (Gro.refl M)
      unfold ringB at this
      rw [hne] at this
      exact this
    | false =>
      rw [if_neg Bool.false_ne_true]
      refine ⟨_, rfl, ?_⟩
      show loopW _ _ _ vs _ _ _
      refine loopW_inv0 (J := fun i σ M' => ∃ (x : Option D), σ = [some (.tup (rows.map Row.d)), some (.tup vs), x, none, none, none] ∧ Gro M M' ∧ i ≤ vs.length ∧ (vs.take i).all (fun d => (rowAt rows d).isSome) = true) (fun i d σ M1 hx hJ => ?_) (fun σ M1 hJ => ?_) ⟨none, rfl, Gro.refl M, Nat.zero_le _, rfl⟩
      · obtain ⟨x, rfl, g1, hil, hall⟩ := hJ
        have hlt := (List.getElem?_eq_some_iff.mp hx).1
        have hd : d ∈ vs := List.mem_of_getElem? hx
        have htake : (vs.take (i + 1)).all (fun d => (rowAt rows d).isSome) = (rowAt rows d).isSome := by
          rw [List.take_add_one, hx, List.all_append, hall]
          simp
        have bad : (rowAt rows d).isSome = false → ∀ M', Gro M M' → Q (.bl false) M' := fun e M' g => by
          have := q M' g
          have ha : vs.all (fun d => (rowAt rows d).isSome) = false := by
            rw [List.all_eq_false]
            exact ⟨d, hd, by rw [e]; exact Bool.false_ne_true⟩
          unfold ringB at this
          rw [hne, ha] at this
          exact this
        refine ⟨trivial, _, rfl, fun nx hnx => ?_⟩
        refine ⟨_, rfl, d, rfl, (tvs d hd).gro g1, fun M2 g2 => ⟨_, rfl, ?_⟩⟩
        cases hid : isIntD d with
        | false =>
          simp only [Bool.not_false, if_true]
          refine bad ?_ M2 (g1.trans g2)
          cases d with
          | int i =>
            rw [rowAt_some]
            have hid : (decide (-(10 ^ 60) < i) && decide (i < 10 ^ 60)) = false := hid
            have := hr.len
            rw [← Bool.not_eq_true, Bool.and_eq_true, decide_eq_true_eq, decide_eq_true_eq] at hid ⊢
            intro z
            exact hid ⟨by omega, by omega⟩
          | _ => rfl
        | true =>
          simp only [Bool.not_true, Bool.false_eq_true, if_false]
          cases d with
          | int j =>
            rw [rowAt_some] at bad htake
            refine ⟨_, rfl, ?_⟩
            show ∃ r, some (decide (j < 0)) = some r ∧ _
            refine ⟨_, rfl, ?_⟩
            by_cases c : 0 ≤ j
            · rw [if_neg (by rw [decide_eq_true_eq]; omega)]
              refine ⟨_, rfl, _, rfl, _, _, rfl, rfl, ?_⟩
              show ∃ r, some (decide (((rows.map Row.d).length : Int) ≤ j)) = some r ∧ _
              refine ⟨_, rfl, ?_⟩
              rw [List.length_map]
              by_cases c2 : (rows.length : Int) ≤ j
              · rw [if_pos (decide_eq_true c2)]
                exact bad (by rw [decide_eq_false (by omega : ¬ j < (rows.length : Int)), Bool.and_false]) M2 (g1.trans g2)
              · rw [if_neg (by rw [decide_eq_true_eq]; exact c2)]
                exact hnx _ _ ⟨_, rfl, g1.trans g2, hlt, by rw [htake, decide_eq_true c, decide_eq_true (by omega : j < (rows.length : Int))]; rfl⟩
            · rw [if_pos (by rw [decide_eq_true_eq]; omega)]
              exact bad (by rw [decide_eq_false c, Bool.false_and]) M2 (g1.trans g2)
          | _ => cases hid
      · obtain ⟨x, rfl, g1, _, ha⟩ := hJ
        rw [List.take_length] at ha
        refine ⟨trivial, ?_⟩
        refine ⟨_, rfl, fun a ha1 => ?_⟩
        refine lcW_pur (fun d => (rowAt rows d).map Row.d) ha1 (fun _ _ => trivial) (Nat.le_trans hvl (szd (Nat.le_refl _))) (fun d hd M2 g2 => ?_) fun M2 g2 hM2 => ?_
        · have hs := List.all_eq_true.mp ha d hd
          obtain ⟨r, hr1⟩ := Option.isSome_iff_exists.mp hs
          obtain ⟨i, rfl, hi⟩ := rowAt_int hr1
          refine ⟨_, rfl, by rw [hr1]; exact evT_yes, fun y hy M3 g3 K k => ?_⟩
          rw [hr1] at hy
          cases hy
          exact ⟨_, rfl, _, rfl, sub_rows hi (k _ _ ⟨rfl, Gro.refl _⟩)⟩
        · rw [show (Src.tup vs).items = vs from rfl, rows_filter] at hM2
          generalize hrs : vs.filterMap (rowAt rows) = rs at hM2
          have hrl : rs.length ≤ 1000 := by
            rw [← hrs]
            exact Nat.le_trans (List.length_filterMap_le _ _) hvl
          have hrok : ∀ r ∈ rs, r.ok = true := fun r h => hr.ok r (filter_ok (vs := vs) r (by rw [hrs]; exact h))
          have qe : ∀ M', Gro M M' → Q (.bl ((List.range rs.length).all (adjAt rs) && decide ((rs.map (·.w)).sum < 0))) M' := fun M' g => by
            have := q M' g
            unfold ringB at this
            rw [hne, ha, hrs] at this
            exact this
          refine ⟨_, rfl, _, rfl, _, _, rfl, by simp [lenD, hM2]; rfl, ?_⟩
          refine ⟨_, rfl, by omega, by omega, fun c hc => ?_⟩
          rw [Int.toNat_natCast]
          refine lcW_pur (fun x => match x with
            | .int i => if (fun i => !adjAt rs i) i.toNat = true then some (.int ((i.toNat : Nat) : Int)) else none
            | _ => none) hc (fun _ _ => trivial) (by show ((List.range rs.length).map _).length ≤ _; rw [List.length_map, List.length_range]; exact szd hrl) (fun x hx M3 g3 => ?_) fun M3 g3 hM3 => ?_
          · obtain ⟨i, hi, rfl⟩ := List.mem_map.mp hx
            have hil := List.mem_range.mp hi
            refine ⟨_, rfl, fun K k => ?_, fun y hy M4 g4 K k => ?_⟩
            · have hM3 := g3 _ _ hM2
              obtain ⟨r, r', e1, e2, e3⟩ := adj_ev (Γ := Γ) hM3 hrok hil
              refine ⟨_, rfl, _, rfl, sub_lst (d := r.d) (.inl hM3) (itemAt_nat (by rw [List.getElem?_map, e1]; rfl)) ?_⟩
              refine ⟨_, rfl, _, rfl, _, rfl, _, rfl, _, _, rfl, by simp [lenD, hM3]; rfl, ?_⟩
              refine ⟨by omega, sub_lst (d := r'.d) (.inl hM3) ?_ ?_⟩
              · rw [mod_nat]
                exact itemAt_nat (by rw [List.getElem?_map, e2]; rfl)
              · refine ⟨_, rfl, _, e3, _, rfl, k _ _ ⟨?_, Gro.refl _⟩⟩
                show _ = (if (!adjAt rs i) = true then some (D.int (i : Int)) else none).isSome
                cases adjAt rs i <;> rfl
            · have hy : (if (!adjAt rs i) = true then some (D.int (i : Int)) else none) = some y := hy
              refine ⟨_, rfl, k _ _ ⟨?_, Gro.refl _⟩⟩
              split at hy
              · exact Option.some.inj hy
              · cases hy
          · have e : (Src.rng rs.length).items.filterMap (fun x => match x with
              | .int i => if (fun i => !adjAt rs i) i.toNat = true then some (D.int ((i.toNat : Nat) : Int)) else none
              | _ => none) = (((List.range rs.length).filter fun i => !adjAt rs i).map fun (i : Nat) => (i : Int)).map D.int := by
              show ((List.range rs.length).map fun (i : Nat) => D.int (i : Int)).filterMap _ = _
              rw [List.filterMap_map, List.map_map]
              exact filter_if (fun (i : Nat) => D.int (i : Int)) (fun i => !adjAt rs i) (List.range rs.length)
            rw [e] at hM3
            refine ⟨szd (show 0 ≤ 1000 by decide), fun f hf => ?_⟩
            have gf := Gro.new (o := .lst []) hf
            refine ⟨_, nil_eq (gf _ _ hM3) (DataAts.ints _) (shaped_ints _) up3_same, _, rfl, ?_⟩
            rw [List.isEmpty_map, List.isEmpty_map, filter_none]
            cases hadj : (List.range rs.length).all (adjAt rs) with
            | false =>
              simp only [Bool.not_false, if_true]
              have := qe _ (g1.trans (g2.trans (g3.trans gf)))
              rw [hadj] at this
              exact this
            | true =>
              simp only [Bool.not_true, Bool.false_eq_true, if_false]
              have hMf := gf _ _ (g3 _ _ hM2)
              refine ⟨_, rfl, .inl ⟨_, hMf, fun e he => ?_⟩⟩
              refine lcW_pur wOf he (fun M4 g4 => g4 _ _ hMf) (by show (rs.map Row.d).length ≤ _; rw [List.length_map]; exact szd hrl) (fun x hx M4 g4 => ?_) fun M4 g4 hM4 => ?_
              · obtain ⟨r, _, rfl⟩ := List.mem_map.mp hx
                refine ⟨_, rfl, evT_yes, fun y hy M5 g5 K k => ?_⟩
                cases hy
                exact ⟨_, rfl, _, rfl, k _ _ ⟨rfl, Gro.refl _⟩⟩
              · rw [show (Src.lst a (rs.map Row.d)).items = rs.map Row.d from rfl, wOf_rows] at hM4
                refine ⟨e, _, rfl, .inl hM4, ?_⟩
                have := qe M4 (g1.trans (g2.trans (g3.trans (gf.trans g4))))
                rw [hadj, Bool.true_and] at this
                exact this
end L3

set_option Elab.async false
set_option linter.all false
set_option maxRecDepth 100000
set_option maxHeartbeats 4000000
/-! E16: is_fitting, _law_fits_due. -/
namespace L3
open PySem PySem.Spec PyProof.Rows L2

def ptOf : D → Option Pt
  | .str z => some (.s z)
  | .tup [.str a, .str b, .int i] => some (.t a b i)
  | _ => none
theorem ptOf_d (p : Pt) : ptOf p.d = some p := by cases p <;> rfl
theorem pts_filter {β : Type} (h : Pt → Option β) (qs : List Pt) : (qs.map Pt.d).filterMap (fun d => (ptOf d).bind h) = qs.filterMap h := by
  rw [List.filterMap_map]
  refine congrFun (congrArg List.filterMap ?_) qs
  funext p
  show (ptOf p.d).bind h = h p
  rw [ptOf_d]
  rfl
/-- [.. for point in points] -/
theorem lc_pts {Γ : Nat → Sp3} {hold : Hp3 → Prop} {σ : St3} {p : Addr} {Q : VK3} {M0 : Hp3} {i : Nat} {elt : TE3} {qs : List Pt} (h : Pt → Bool) (hp : M0 p = none) (hold_ : ∀ M, Gro M0 M → hold M) (hl : qs.length ≤ 1000)
    (he : ∀ q ∈ qs, ∀ M, Gro M0 M → Pur elt (σ.set i (some q.d)) M (.bl (h q))) (fin : ∀ M, Gro M0 M → M p = some (.lst ((qs.map h).map D.bl)) → Q (.ref p) M) :
    lcW hold (.one i) (WC C23 Γ .no) elt σ p (qs.map Pt.d) (up3 M0 p (.lst [])) Q := by
  refine lcW_pur (fun d => (ptOf d).bind fun q => some (.bl (h q))) hp hold_ (by rw [List.length_map]; exact szd hl) (fun x hx M1 g1 => ?_) fun M1 g1 hM1 => ?_
  · obtain ⟨q, hq, rfl⟩ := List.mem_map.mp hx
    refine ⟨_, rfl, by rw [ptOf_d]; exact evT_yes, fun y hy M2 g2 => ?_⟩
    rw [ptOf_d] at hy
    cases hy
    exact he q hq M2 (g1.trans g2)
  · rw [pts_filter] at hM1
    refine fin M1 g1 (by rw [hM1, List.map_map]; exact congrArg (fun l => some (MO.lst l)) (by rw [List.filterMap_eq_map']; rfl))
/-- [point for point in points if ..] -/
theorem lc_ptsIf {hold : Hp3 → Prop} {σ : St3} {p : Addr} {Q : VK3} {M0 : Hp3} {i : Nat} {tst : TT3} {elt : TE3} {qs : List Pt} (c : Pt → Bool) (hp : M0 p = none) (hold_ : ∀ M, Gro M0 M → hold M) (hl : qs.length ≤ 1000)
    (ht : ∀ q ∈ qs, ∀ M, Gro M0 M → PurT tst (σ.set i (some q.d)) M (c q)) (he : ∀ q ∈ qs, ∀ M, Gro M0 M → Pur elt (σ.set i (some q.d)) M q.d) (fin : ∀ M, Gro M0 M → M p = some (.lst ((qs.filter c).map Pt.d)) → Q (.ref p) M) :
    lcW hold (.one i) tst elt σ p (qs.map Pt.d) (up3 M0 p (.lst [])) Q := by
  refine lcW_pur (fun d => (ptOf d).bind fun q => if c q = true then some q.d else none) hp hold_ (by rw [List.length_map]; exact szd hl) (fun x hx M1 g1 => ?_) fun M1 g1 hM1 => ?_
  · obtain ⟨q, hq, rfl⟩ := List.mem_map.mp hx
    refine ⟨_, rfl, ?_, fun y hy M2 g2 => ?_⟩
    · rw [ptOf_d]
      have e : ((some q).bind fun q => if c q = true then some q.d else none).isSome = c q := by
        show (if c q = true then some q.d else none).isSome = _
        cases c q <;> rfl
      rw [e]
      exact ht q hq M1 g1
    · rw [ptOf_d] at hy
      have hy : (if c q = true then some q.d else none) = some y := hy
      split at hy
      · cases hy
        exact he q hq M2 (g1.trans g2)
      · cases hy
  · rw [pts_filter, filter_if] at hM1
    exact fin M1 g1 hM1
def Row.py (r : Row) : PyData := .tuple [r.a.py, r.b.py, .int r.w]
theorem Row.data {M : Hp3} (r : Row) : DataAt M r.d r.py := .tup (.cons r.a.data (.cons r.b.data (.cons (.int _) .nil)))
theorem DataAts.map {α : Type} {M : Hp3} {f : α → D} {g : α → PyData} (h : ∀ x, DataAt M (f x) (g x)) : ∀ l : List α, DataAts M (l.map f) (l.map g)
  | [] => .nil
  | x :: l => .cons (h x) (DataAts.map h l)
theorem shaped_list {α : Type} {g : α → PyData} {l : List α} (h : ∀ x ∈ l, (g x).canLay0 = true ∧ (g x).depth ≤ 9) : SeqAt.shaped (.list (l.map g)) = true := by
  have h1 : PyData.canLayAll0 (l.map g) = true ∧ PyData.depthAll (l.map g) ≤ 9 := by
    induction l with
    | nil => simp [PyData.canLayAll0, PyData.depthAll]
    | cons x l ih =>
      have h0 := h x List.mem_cons_self
      have h1 := ih fun y hy => h y (List.mem_cons_of_mem _ hy)
      simp only [List.map_cons, PyData.canLayAll0, PyData.depthAll, Bool.and_eq_true]
      exact ⟨⟨h0.1, h1.1⟩, Nat.max_le.mpr ⟨h0.2, h1.2⟩⟩
  simp [SeqAt.shaped, PyData.canLay0, PyData.depth, h1.1]
  omega
theorem shaped_pts {qs : List Pt} (h : ∀ q ∈ qs, q.ok = true) : SeqAt.shaped (.list (qs.map Pt.py)) = true := shaped_list fun q hq => ⟨Pt.canLay (h q hq), by have := Pt.depth q; omega⟩
theorem shaped_rows {rs : List Row} (h : ∀ r ∈ rs, r.ok = true) : SeqAt.shaped (.list (rs.map Row.py)) = true := shaped_list fun r hr => by
  have := h r hr
  simp only [Row.ok, Bool.and_eq_true] at this
  have d1 := Pt.depth r.a
  have d2 := Pt.depth r.b
  refine ⟨by simp [Row.py, PyData.canLay0, PyData.canLayAll0, Pt.canLay this.1, Pt.canLay this.2], ?_⟩
  simp only [Row.py, PyData.depth, PyData.depthAll]
  omega
def numI (f : Pt → D) (p : Pt) : Int := match f p with
  | .int i => i
  | _ => 0
theorem numI_int {f : Pt → D} {p : Pt} (h : isIntD (f p) = true) : f p = .int (numI f p) := by
  unfold numI
  cases e : f p with
  | int i => rfl
  | _ => rw [e] at h; cases h
def fitT (rows : List Row) (f : Pt → D) : Bool := rows.all fun r => decide (numI f r.a - numI f r.b ≤ r.w)
def fitB (rows : List Row) (P : List Pt) (f : Pt → D) : Bool :=
  decide (P.length = (ptsOf rows).length) && ((ptsOf rows).all (fun p => decide (p ∈ P)) && ((ptsOf rows).all (fun p => isIntD (f p)) && (decide (numI f (.s "") = 0) && fitT rows f)))
structure FitD (M : Hp3) (a : Addr) (P : List Pt) (f : Pt → D) : Prop where
  at_ : M a = some (.dct (mkD P f).kv)
  len : P.length ≤ 100
  key : ∀ p ∈ P, p.ok = true ∧ isPointD p.d = true
  val : ∀ p ∈ P, Tame M (f p)
theorem FitD.gro {M M' : Hp3} {a : Addr} {P : List Pt} {f : Pt → D} (h : FitD M a P f) (g : Gro M M') : FitD M' a P f := ⟨g _ _ h.at_, h.len, h.key, fun p hp => (h.val p hp).gro g⟩
def FitR (rows : List Row) (M : Hp3) (v : D) (b : Bool) : Prop :=
  (Tame M v ∧ (∀ a, v = .ref a → ∃ ds, M a = some (.lst ds)) ∧ b = false) ∨ ∃ a P f, v = .ref a ∧ FitD M a P f ∧ b = fitB rows P f
theorem FitR.gro {rows : List Row} {M M' : Hp3} {v : D} {b : Bool} (h : FitR rows M v b) (g : Gro M M') : FitR rows M' v b := by
  rcases h with ⟨t, n, e⟩ | ⟨a, P, f, e, h, eb⟩
  · exact .inl ⟨t.gro g, fun a ha => let ⟨ds, h⟩ := n a ha; ⟨ds, g _ _ h⟩, e⟩
  · exact .inr ⟨a, P, f, e, h.gro g, eb⟩
abbrev sp_fitq : Sp3 := fun ds M Q => ∃ rows v b, ds = [.tup (rows.map Row.d), v] ∧ RowsG rows ∧ FitR rows M v b ∧ ∀ M', Gro M M' → Q (.bl b) M'
theorem isi_ndct {M : Hp3} {v : D} (t : Tame M v) (n : ∀ a, v = .ref a → ∃ ds, M a = some (.lst ds)) : isiD M v "dict" = some false := by
  rw [isi_dict t.ty]
  cases v with
  | ref a =>
    obtain ⟨ds, h⟩ := n a rfl
    simp only [h]
  | _ => rfl
theorem isi_dct {M : Hp3} {a : Addr} {kvs : List (D × D)} (h : M a = some (.dct kvs)) : isiD M (.ref a) "dict" = some true := by
  have t : Ty M (.ref a) := ⟨"dict", by simp [tyD, h]⟩
  rw [isi_dict t]
  simp only [h]
theorem all_perm {α : Type} {l m : List α} (h : l.Perm m) (f : α → Bool) : l.all f = m.all f := by
  rw [Bool.eq_iff_iff, List.all_eq_true, List.all_eq_true]
  exact ⟨fun z x hx => z x (h.mem_iff.mpr hx), fun z x hx => z x (h.mem_iff.mp hx)⟩
/-- numbers[a] - numbers[b] -/
theorem diff_ev {M : Hp3} {a : Addr} {P : List Pt} {f : Pt → D} (h : DctAt M a (mkD P f).kv) {p q : Pt} (hp : p ∈ P) (hq : q ∈ P) (ip : isIntD (f p) = true) (iq : isIntD (f q) = true) {K : VK3} (k : K (.int (numI f p - numI f q)) M) :
    subD (.ref a) p.d M fun x M1 => ∃ d, some (some (D.ref a)) = some (some d) ∧ ∃ d2, some (some q.d) = some (some d2) ∧ subD d d2 M1 fun y M2 => binD .Sub x y M2 K := by
  refine sub_dct h hp ⟨_, rfl, _, rfl, sub_dct h hq ?_⟩
  rw [numI_int ip, numI_int iq]
  exact k
abbrev sp_true : Sp3 := fun ds M Q => ∃ rows a P f, ds = [.tup (rows.map Row.d), .ref a] ∧ rows.length ≤ 100 ∧ (∀ r ∈ rows, r.ok = true) ∧ DctAt M a (mkD P f).kv ∧ (∀ r ∈ rows, r.a ∈ P ∧ r.b ∈ P ∧ isIntD (f r.a) = true ∧ isIntD (f r.b) = true) ∧ ∀ M', Gro M M' → Q (.bl (fitT rows f)) M'
def rowOf : D → Option Row
  | .tup [a, b, .int w] => match ptOf a, ptOf b with
    | some a, some b => some ⟨a, b, w⟩
    | _, _ => none
  | _ => none
theorem rowOf_d (r : Row) : rowOf r.d = some r := by
  show (match ptOf r.a.d, ptOf r.b.d with
    | some a, some b => some (⟨a, b, r.w⟩ : Row)
    | _, _ => none) = _
  rw [ptOf_d, ptOf_d]
theorem rows_fm {β : Type} (h : Row → Option β) (rs : List Row) : (rs.map Row.d).filterMap (fun d => (rowOf d).bind h) = rs.filterMap h := by
  rw [List.filterMap_map]
  refine congrFun (congrArg List.filterMap ?_) rs
  funext p
  show (rowOf p.d).bind h = h p
  rw [rowOf_d]
  rfl
theorem are_true_spec (Γ : Nat → Sp3) (ds : List D) (M : Hp3) (Q : VK3) (h : sp_true ds M Q) : WSs C23 Γ I_law_are_true { nx := fun _ M' => Q .non M', rt := Q } (start3 N_law_are_true ds) M := by
  obtain ⟨rows, a, P, f, rfl, hl, hok, hM, hin, q⟩ := h
  simp only [I_law_are_true, WSs, WS, WE, WX, mkT, WA, WP, WT, WI, N_law_are_true, start3, List.map_cons, List.map_nil, List.length_cons, List.length_nil, List.replicate, List.append_nil]
  refine ⟨_, rfl, fun p hp => ?_⟩
  refine lcW_pur (fun d => (rowOf d).bind fun r => if (fun r : Row => !decide (numI f r.a - numI f r.b ≤ r.w)) r = true then some r.d else none) hp (fun _ _ => trivial) (by show (rows.map Row.d).length ≤ _; rw [List.length_map]; exact szd (by omega)) (fun x hx M1 g1 => ?_) fun M1 g1 hM1 => ?_
  · obtain ⟨r, hr, rfl⟩ := List.mem_map.mp hx
    obtain ⟨h1, h2, h3, h4⟩ := hin r hr
    have hM1 : DctAt M1 a (mkD P f).kv := hM.imp (g1 _ _) (g1 _ _)
    refine ⟨_, rfl, fun K k => ?_, fun y hy M2 g2 K k => ?_⟩
    · refine ⟨_, rfl, _, rfl, ⟨_, rfl, ?_⟩⟩
      refine sub_dct hM1 h1 ⟨_, rfl, _, rfl, ⟨_, rfl, sub_dct hM1 h2 ?_⟩⟩
      rw [numI_int h3, numI_int h4]
      refine ⟨_, rfl, _, rfl, ?_⟩
      refine ⟨_, rfl, k _ _ ⟨?_, Gro.refl _⟩⟩
      rw [rowOf_d]
      show decide (r.w < numI f r.a - numI f r.b) = (if (!decide (numI f r.a - numI f r.b ≤ r.w)) = true then some r.d else none).isSome
      by_cases c : numI f r.a - numI f r.b ≤ r.w
      · rw [decide_eq_true c, decide_eq_false (by omega)]
        rfl
      · rw [decide_eq_false c, decide_eq_true (by omega)]
        rfl
    · rw [rowOf_d] at hy
      have hy : (if (!decide (numI f r.a - numI f r.b ≤ r.w)) = true then some r.d else none) = some y := hy
      split at hy
      · cases hy
        exact ⟨_, rfl, k _ _ ⟨rfl, Gro.refl _⟩⟩
      · cases hy
  · rw [show (Src.tup (rows.map Row.d)).items = rows.map Row.d from rfl, rows_fm, filter_if] at hM1
    refine ⟨szd (show 0 ≤ 1000 by decide), fun e he => ?_⟩
    have ge := Gro.new (o := .lst []) he
    refine ⟨_, nil_eq (ge _ _ hM1) (DataAts.map Row.data _) (shaped_rows fun r hr => hok r (List.mem_filter.mp hr).1) up3_same, ?_⟩
    rw [List.isEmpty_map, filter_none (c := fun r : Row => decide (numI f r.a - numI f r.b ≤ r.w))]
    exact q _ (g1.trans ge)
theorem is_fitting_spec (Γ : Nat → Sp3) (h0 : Γ 0 = spQ isIntD) (h4 : Γ 4 = spQ isPointD) (h6 : Γ 6 = sp_require) (h7 : Γ 7 = sp_points) (ds : List D) (M : Hp3) (Q : VK3) (h : sp_fitq ds M Q) : WSs C23 Γ I_is_fitting { nx := fun _ M' => Q .non M', rt := Q } (start3 N_is_fitting ds) M := by
  obtain ⟨rows, v, b, rfl, hr, hv, q⟩ := h
  simp only [I_is_fitting, WSs, WS, WE, WX, mkT, WA, WP, WT, WI, h0, h4, h6, h7, N_is_fitting, start3, List.map_cons, List.map_nil, List.length_cons, List.length_nil, List.replicate, List.append_nil]
  refine ⟨_, rfl, _, rfl, by rw [List.length_map]; have := hr.len; omega, Row.req hr M, fun M1 g1 => ?_⟩
  refine ⟨_, rfl, rows, rfl, hr.len, hr.ok, fun M2 p qs g2 hp hM2 hqs => ?_⟩
  have hql : qs.length ≤ 41 := by
    have := hqs.length_eq
    have := ptsOf_len rows
    have := hr.len
    omega
  refine ⟨_, rfl, _, rfl, ?_⟩
  have hv := hv.gro (g1.trans g2)
  rcases hv with ⟨t, n, rfl⟩ | ⟨a, P, f, rfl, hf, rfl⟩
  · refine ⟨_, isi_ndct t n, _, rfl, ?_⟩
    simp only [Bool.not_false, if_true]
    exact q _ (g1.trans g2)
  refine ⟨_, isi_dct hf.at_, _, rfl, ?_⟩
  simp only [Bool.not_true, Bool.false_eq_true, if_false]
  refine ⟨_, rfl, _, P.length, rfl, by simp [lenD, hf.at_, mkD_len], ?_⟩
  refine ⟨_, rfl, _, qs.length, rfl, by simp [lenD, hM2], ?_⟩
  refine ⟨_, int_eq _ _ _, _, rfl, ?_⟩
  have qlen : decide ((P.length : Int) = (qs.length : Int)) = decide (P.length = (ptsOf rows).length) := by
    rw [hqs.length_eq, Bool.eq_iff_iff, decide_eq_true_eq, decide_eq_true_eq]
    omega
  rw [qlen]
  cases c1 : decide (P.length = (ptsOf rows).length) with
  | false =>
    simp only [Bool.not_false, if_true]
    have := q _ (g1.trans g2)
    unfold fitB at this
    rw [c1] at this
    exact this
  | true =>
  simp only [Bool.not_true, Bool.false_eq_true, if_false]
  refine ⟨a, _, rfl, .inl ⟨hf.at_, fun e he => ?_⟩⟩
  have hea : e ≠ a := fun z => by rw [z, hf.at_] at he; cases he
  rw [mkD_kvkeys]
  refine lc_pts (fun _ => true) (M0 := up3 M2 a (.lck (mkD P f).kv)) (by rw [up3_ne hea]; exact he) (fun M3 g3 => g3 _ _ up3_same) (by have := hf.len; omega) (fun x hx M3 g3 K k => ?_) fun M3 g3 hM3 => ?_
  · have := hf.key x hx
    refine ⟨_, rfl, _, rfl, Pt.tame this.1, fun M4 g4 => ?_⟩
    rw [this.2]
    exact k _ _ ⟨rfl, g4⟩
  have e1 : (P.map fun _ => true).all id = true := by
    rw [List.all_map]
    exact List.all_eq_true.mpr fun _ _ => rfl
  refine ⟨g3 _ _ up3_same, e, _, rfl, .inl (by rw [up3_ne hea]; exact hM3), _, rfl, ?_⟩
  rw [e1]
  simp only [Bool.not_true, Bool.false_eq_true, if_false]
  -- the heap behind it
  have g4 : Gro M2 (up3 M3 a (.dct (mkD P f).kv)) := fun c o hc => by
    by_cases z : c = a
    · subst z
      rw [up3_same]
      rw [hf.at_] at hc
      exact hc
    · rw [up3_ne z]
      exact g3 c o (by rw [up3_ne z]; exact hc)
  generalize up3 M3 a (.dct (mkD P f).kv) = M4 at g4
  have hf := hf.gro g4
  have hM4 := g4 _ _ hM2
  have g0 := g1.trans (g2.trans g4)
  refine ⟨_, rfl, .inl ⟨_, hM4, fun e he => ?_⟩⟩
  refine lc_pts (fun x => decide (x ∈ P)) he (fun M5 g5 => g5 _ _ hM4) (by omega) (fun x hx M5 g5 K k => ?_) fun M5 g5 hM5 => ?_
  · exact ⟨_, rfl, _, rfl, _, in_dct (.inl (g5 _ _ hf.at_)), k _ _ ⟨rfl, Gro.refl _⟩⟩
  refine ⟨e, _, rfl, .inl hM5, _, rfl, ?_⟩
  rw [List.all_map]
  show if (!(qs.all fun x => decide (x ∈ P))) = true then _ else _
  rw [all_perm hqs]
  cases c2 : (ptsOf rows).all fun x => decide (x ∈ P) with
  | false =>
    simp only [Bool.not_false, if_true]
    have := q _ (g0.trans g5)
    unfold fitB at this
    rw [c1, c2] at this
    exact this
  | true =>
  simp only [Bool.not_true, Bool.false_eq_true, if_false]
  have hf := hf.gro g5
  have hM5 := g5 _ _ hM4
  have inP : ∀ x ∈ ptsOf rows, x ∈ P := fun x hx => of_decide_eq_true (List.all_eq_true.mp c2 x hx)
  refine ⟨_, rfl, .inl ⟨_, hM5, fun e he => ?_⟩⟩
  refine lc_pts (fun x => isIntD (f x)) he (fun M6 g6 => g6 _ _ hM5) (by omega) (fun x hx M6 g6 K k => ?_) fun M6 g6 hM6 => ?_
  · have hxP := inP x (hqs.mem_iff.mp hx)
    exact ⟨_, rfl, _, rfl, sub_dct (.inl (g6 _ _ hf.at_)) hxP ⟨_, rfl, (hf.val x hxP).gro g6, fun M7 g7 => k _ _ ⟨rfl, g7⟩⟩⟩
  refine ⟨e, _, rfl, .inl hM6, _, rfl, ?_⟩
  rw [List.all_map]
  show if (!(qs.all fun x => isIntD (f x))) = true then _ else _
  rw [all_perm hqs]
  cases c3 : (ptsOf rows).all fun x => isIntD (f x) with
  | false =>
    simp only [Bool.not_false, if_true]
    have := q _ (g0.trans (g5.trans g6))
    unfold fitB at this
    rw [c1, c2, c3] at this
    exact this
  | true =>
  simp only [Bool.not_true, Bool.false_eq_true, if_false]
  have isI : ∀ x ∈ ptsOf rows, isIntD (f x) = true := fun x hx => List.all_eq_true.mp c3 x hx
  have hf := hf.gro g6
  have hz : Pt.s "" ∈ ptsOf rows := ptsOf_mem.mpr (.inl rfl)
  refine ⟨_, rfl, sub_dct (p := .s "") (.inl hf.at_) (inP _ hz) ?_⟩
  rw [numI_int (isI _ hz)]
  refine ⟨_, int_eq _ _ _, _, rfl, ?_⟩
  cases c4 : decide (numI f (.s "") = 0) with
  | false =>
    simp only [Bool.not_false, if_true]
    have := q _ (g0.trans (g5.trans g6))
    unfold fitB at this
    rw [c1, c2, c3, c4] at this
    exact this
  | true =>
  simp only [Bool.not_true, Bool.false_eq_true, if_false]
  refine ⟨_, rfl, fun e he => ?_⟩
  refine lcW_pur (fun d => (rowOf d).bind fun r => some (.bl (decide (numI f r.a - numI f r.b ≤ r.w)))) he (fun _ _ => trivial) (by show (rows.map Row.d).length ≤ _; rw [List.length_map]; exact szd (by have := hr.len; omega)) (fun x hx M7 g7 => ?_) fun M7 g7 hM7 => ?_
  · obtain ⟨r, hr1, rfl⟩ := List.mem_map.mp hx
    have ha : r.a ∈ ptsOf rows := ptsOf_mem.mpr (.inr ⟨r, hr1, .inl rfl⟩)
    have hb : r.b ∈ ptsOf rows := ptsOf_mem.mpr (.inr ⟨r, hr1, .inr rfl⟩)
    refine ⟨_, rfl, by rw [rowOf_d]; exact evT_yes, fun y hy M8 g8 K k => ?_⟩
    rw [rowOf_d] at hy
    cases hy
    have hf8 := hf.gro (g7.trans g8)
    refine ⟨_, rfl, _, rfl, sub_dct (.inl hf8.at_) (inP _ ha) ⟨_, rfl, _, rfl, sub_dct (.inl hf8.at_) (inP _ hb) ?_⟩⟩
    rw [numI_int (isI _ ha), numI_int (isI _ hb)]
    exact ⟨_, rfl, k _ _ ⟨rfl, Gro.refl _⟩⟩
  · rw [show (Src.tup (rows.map Row.d)).items = rows.map Row.d from rfl, rows_fm, List.filterMap_eq_map'] at hM7
    refine ⟨e, rows.map fun r => decide (numI f r.a - numI f r.b ≤ r.w), rfl, .inl (by rw [hM7, List.map_map]; rfl), ?_⟩
    rw [List.all_map]
    have := q _ (g0.trans (g5.trans (g6.trans g7)))
    unfold fitB at this
    rw [c1, c2, c3, c4] at this
    exact this
theorem fits_due_spec (Γ : Nat → Sp3) (h22 : Γ 22 = sp_points) (h27 : Γ 27 = spQ isIntD) (h28 : Γ 28 = sp_true) (ds : List D) (M : Hp3) (Q : VK3) (h : sp_fitq ds M Q) : WSs C23 Γ I_law_fits_due { nx := fun _ M' => Q .non M', rt := Q } (start3 N_law_fits_due ds) M := by
  obtain ⟨rows, v, b, rfl, hr, hv, q⟩ := h
  simp only [I_law_fits_due, WSs, WS, WE, WX, mkT, WA, WP, WT, WI, h22, h27, h28, N_law_fits_due, start3, List.map_cons, List.map_nil, List.length_cons, List.length_nil, List.replicate, List.append_nil]
  refine ⟨_, rfl, rows, rfl, hr.len, hr.ok, fun M2 p qs g2 hp hM2 hqs => ?_⟩
  have hql : qs.length ≤ 41 := by
    have := hqs.length_eq
    have := ptsOf_len rows
    have := hr.len
    omega
  have qok : ∀ x ∈ qs, x.ok = true := fun x hx => ptsOf_ok hr.ok x (hqs.mem_iff.mp hx)
  refine ⟨_, rfl, _, rfl, ?_⟩
  have hv := hv.gro g2
  rcases hv with ⟨t, n, rfl⟩ | ⟨a, P, f, rfl, hf, rfl⟩
  · refine ⟨_, isi_ndct t n, _, rfl, ?_⟩
    simp only [Bool.not_false, if_true]
    exact q _ g2
  refine ⟨_, isi_dct hf.at_, _, rfl, ?_⟩
  simp only [Bool.not_true, Bool.false_eq_true, if_false]
  refine ⟨_, rfl, _, P.length, rfl, by simp [lenD, hf.at_, mkD_len], ?_⟩
  refine ⟨_, rfl, _, qs.length, rfl, by simp [lenD, hM2], ?_⟩
  refine ⟨_, int_eq _ _ _, _, rfl, ?_⟩
  have qlen : decide ((P.length : Int) = (qs.length : Int)) = decide (P.length = (ptsOf rows).length) := by
    rw [hqs.length_eq, Bool.eq_iff_iff, decide_eq_true_eq, decide_eq_true_eq]
    omega
  rw [qlen]
  cases c1 : decide (P.length = (ptsOf rows).length) with
  | false =>
    simp only [Bool.not_false, if_true]
    have := q _ g2
    unfold fitB at this
    rw [c1] at this
    exact this
  | true =>
  simp only [Bool.not_true, Bool.false_eq_true, if_false]
  refine ⟨_, rfl, .inl ⟨_, hM2, fun e he => ?_⟩⟩
  refine lc_ptsIf (fun x => !decide (x ∈ P)) he (fun M5 g5 => g5 _ _ hM2) (by omega) (fun x hx M5 g5 K k => ?_) (fun x hx M5 g5 K k => ?_) fun M5 g5 hM5 => ?_
  · exact ⟨_, rfl, _, rfl, _, in_dct (.inl (g5 _ _ hf.at_)), _, rfl, k _ _ ⟨rfl, Gro.refl _⟩⟩
  · exact ⟨_, rfl, k _ _ ⟨rfl, Gro.refl _⟩⟩
  refine ⟨szd (show 0 ≤ 1000 by decide), fun e2 he2 => ?_⟩
  have g6 := Gro.new (o := .lst []) he2
  refine ⟨_, nil_eq (g6 _ _ hM5) (DataAts.map Pt.data _) (shaped_pts fun x hx => qok x (List.mem_filter.mp hx).1) up3_same, _, rfl, ?_⟩
  rw [List.isEmpty_map, filter_none, all_perm hqs]
  generalize up3 M5 e2 (.lst []) = M6 at g6
  have g0 := g2.trans (g5.trans g6)
  cases c2 : (ptsOf rows).all fun x => decide (x ∈ P) with
  | false =>
    simp only [Bool.not_false, if_true]
    have := q _ g0
    unfold fitB at this
    rw [c1, c2] at this
    exact this
  | true =>
  simp only [Bool.not_true, Bool.false_eq_true, if_false]
  have hf := hf.gro (g5.trans g6)
  have hM6 := g6 _ _ (g5 _ _ hM2)
  have inP : ∀ x ∈ ptsOf rows, x ∈ P := fun x hx => of_decide_eq_true (List.all_eq_true.mp c2 x hx)
  refine ⟨_, rfl, .inl ⟨_, hM6, fun e he => ?_⟩⟩
  refine lc_ptsIf (fun x => !isIntD (f x)) he (fun M7 g7 => g7 _ _ hM6) (by omega) (fun x hx M7 g7 K k => ?_) (fun x hx M7 g7 K k => ?_) fun M7 g7 hM7 => ?_
  · have hxP := inP x (hqs.mem_iff.mp hx)
    refine ⟨_, rfl, _, rfl, sub_dct (.inl (g7 _ _ hf.at_)) hxP ?_⟩
    rw [h27]
    exact ⟨_, rfl, (hf.val x hxP).gro g7, fun M8 g8 => ⟨_, rfl, k _ _ ⟨rfl, g8⟩⟩⟩
  · exact ⟨_, rfl, k _ _ ⟨rfl, Gro.refl _⟩⟩
  refine ⟨szd (show 0 ≤ 1000 by decide), fun e3 he3 => ?_⟩
  have g8 := Gro.new (o := .lst []) he3
  refine ⟨_, nil_eq (g8 _ _ hM7) (DataAts.map Pt.data _) (shaped_pts fun x hx => qok x (List.mem_filter.mp hx).1) up3_same, _, rfl, ?_⟩
  rw [List.isEmpty_map, filter_none (c := fun x => isIntD (f x)), all_perm hqs]
  generalize up3 M7 e3 (.lst []) = M8 at g8
  have g0 := g0.trans (g7.trans g8)
  cases c3 : (ptsOf rows).all fun x => isIntD (f x) with
  | false =>
    simp only [Bool.not_false, if_true]
    have := q _ g0
    unfold fitB at this
    rw [c1, c2, c3] at this
    exact this
  | true =>
  simp only [Bool.not_true, Bool.false_eq_true, if_false]
  have isI : ∀ x ∈ ptsOf rows, isIntD (f x) = true := fun x hx => List.all_eq_true.mp c3 x hx
  have hf := hf.gro (g7.trans g8)
  have hz : Pt.s "" ∈ ptsOf rows := ptsOf_mem.mpr (.inl rfl)
  refine ⟨_, rfl, sub_dct (p := .s "") (.inl hf.at_) (inP _ hz) ?_⟩
  rw [numI_int (isI _ hz)]
  refine ⟨_, int_eq _ _ _, _, rfl, ?_⟩
  cases c4 : decide (numI f (.s "") = 0) with
  | false =>
    simp only [Bool.not_false, if_true]
    have := q _ g0
    unfold fitB at this
    rw [c1, c2, c3, c4] at this
    exact this
  | true =>
  simp only [Bool.not_true, Bool.false_eq_true, if_false]
  refine ⟨_, rfl, _, rfl, rows, a, P, f, rfl, by have := hr.len; omega, hr.ok, .inl hf.at_, fun r hr1 => ?_, fun M9 g9 => ?_⟩
  · have ha : r.a ∈ ptsOf rows := ptsOf_mem.mpr (.inr ⟨r, hr1, .inl rfl⟩)
    have hb : r.b ∈ ptsOf rows := ptsOf_mem.mpr (.inr ⟨r, hr1, .inr rfl⟩)
    exact ⟨inP _ ha, inP _ hb, isI _ ha, isI _ hb⟩
  · have := q _ (g0.trans g9)
    unfold fitB at this
    rw [c1, c2, c3, c4] at this
    exact this
end L3

set_option Elab.async false
set_option linter.all false
set_option maxRecDepth 100000
set_option maxHeartbeats 4000000
/-! E17: how long a value is when shown. -/
namespace L3
open PySem PySem.Spec PyProof.Rows L2

/-! ### texts of good signs -/
theorem strOk_iff {x : Str} : PyData.strOk x = true ↔ ∀ c ∈ x.cps.toList, c < 0x110000 := by
  unfold PyData.strOk
  rw [Array.all_eq_true_iff_forall_mem]
  exact ⟨fun h c hc => by simpa using h c (Array.mem_toList_iff.mp hc), fun h c hc => by simpa using h c (Array.mem_toList_iff.mpr hc)⟩
theorem strOk_of (s : String) : PyData.strOk (Str.ofString s) = true := by
  rw [strOk_iff, Str.ofString_eq_toList]
  intro c hc
  have hc : c ∈ (s.toList.map fun x : Char => x.toNat) := by simpa using hc
  obtain ⟨x, _, rfl⟩ := List.mem_map.mp hc
  rcases x.valid with h | h
  · exact Nat.lt_trans h (by decide)
  · exact h.2
theorem strOk_app {x y : Str} (hx : PyData.strOk x = true) (hy : PyData.strOk y = true) : PyData.strOk (x ++ y) = true := by
  rw [strOk_iff] at hx hy ⊢
  intro c hc
  have hc : c ∈ (x.cps ++ y.cps).toList := hc
  rw [Array.toList_append, List.mem_append] at hc
  exact hc.elim (hx c) (hy c)
theorem strOk_join {sep : Str} (hs : PyData.strOk sep = true) : ∀ {ts : List Str}, (∀ t ∈ ts, PyData.strOk t = true) → PyData.strOk (Str.join sep ts) = true
  | [], _ => strOk_of ""
  | [x], h => h x List.mem_cons_self
  | x :: y :: r, h => by
    show PyData.strOk (x ++ sep ++ Str.join sep (y :: r)) = true
    exact strOk_app (strOk_app (h x List.mem_cons_self) hs) (strOk_join hs fun t ht => h t (List.mem_cons_of_mem _ ht))
theorem strOk_textFrom : ∀ {ts : List Str} {k : Nat} {acc : Str}, PyData.strOk acc = true → (∀ t ∈ ts, PyData.strOk t = true) → PyData.strOk (textFrom k acc ts) = true
  | [], _, _, ha, _ => ha
  | t :: r, k, acc, ha, h => by
    show PyData.strOk (textFrom (k + 1) (acc ++ (if k > 0 then ", " else "" : String) ++ t) r) = true
    exact strOk_textFrom (strOk_app (strOk_app ha (strOk_of _)) (h t List.mem_cons_self)) fun x hx => h x (List.mem_cons_of_mem _ hx)
theorem strOk_listText {ts : List Str} (h : ∀ t ∈ ts, PyData.strOk t = true) : PyData.strOk (listText ts) = true := strOk_app (strOk_textFrom (strOk_of _) h) (strOk_of _)
theorem strOk_tupleText {ts : List Str} (h : ∀ t ∈ ts, PyData.strOk t = true) : PyData.strOk (tupleText ts) = true := strOk_app (strOk_app (strOk_of _) (strOk_join (strOk_of _) h)) (strOk_of _)
theorem strOk_dictText {ts : List Str} (h : ∀ t ∈ ts, PyData.strOk t = true) : PyData.strOk (dictText ts) = true := strOk_app (strOk_app (strOk_of _) (strOk_join (strOk_of _) h)) (strOk_of _)
theorem hex_ok {c w : Nat} : ∀ x ∈ List.replicate w 48 ++ (Nat.toDigits 16 c).map Char.toNat, x < 0x110000 := by
  intro x hx
  rcases List.mem_append.mp hx with h | h
  · rw [List.eq_of_mem_replicate h]
    decide
  · obtain ⟨y, _, rfl⟩ := List.mem_map.mp h
    rcases y.valid with h | h
    · exact Nat.lt_trans h (by decide)
    · exact h.2
theorem reprChar_ok {q c : Nat} (hc : c < 0x110000) : ∀ x ∈ Builtin.Str.reprChar q c, x < 0x110000 := by
  have pre : ∀ {a b : Nat} {l : List Nat}, a < 0x110000 → b < 0x110000 → (∀ x ∈ l, x < 0x110000) → ∀ x ∈ [a, b] ++ l, x < 0x110000 := fun ha hb hl x hx => by
    rcases List.mem_append.mp hx with h | h
    · simp only [List.mem_cons, List.mem_nil_iff, or_false] at h
      rcases h with rfl | rfl
      · exact ha
      · exact hb
    · exact hl x h
  have two : ∀ {a b : Nat}, a < 0x110000 → b < 0x110000 → ∀ x ∈ [a, b], x < 0x110000 := fun ha hb x hx => by
    simp only [List.mem_cons, List.mem_nil_iff, or_false] at hx
    rcases hx with rfl | rfl
    · exact ha
    · exact hb
  unfold Builtin.Str.reprChar
  dsimp only
  split
  · exact two (by decide) hc
  split
  · exact two (by decide) (by decide)
  split
  · exact two (by decide) (by decide)
  split
  · exact two (by decide) (by decide)
  split
  · intro x hx
    rw [List.mem_singleton.mp hx]
    exact hc
  split
  · exact pre (by decide) (by decide) hex_ok
  split
  · exact pre (by decide) (by decide) hex_ok
  · exact pre (by decide) (by decide) hex_ok
theorem foldl_repr_ok {q : Nat} : ∀ {l : List Nat} {acc : Array Nat}, (∀ c ∈ l, c < 0x110000) → (∀ c ∈ acc.toList, c < 0x110000) → ∀ c ∈ (l.foldl (fun out c => out ++ (Builtin.Str.reprChar q c).toArray) acc).toList, c < 0x110000
  | [], _, _, ha => ha
  | x :: r, acc, h, ha => by
    rw [List.foldl_cons]
    refine foldl_repr_ok (fun c hc => h c (List.mem_cons_of_mem _ hc)) fun c hc => ?_
    rw [Array.toList_append, List.mem_append] at hc
    rcases hc with hc | hc
    · exact ha c hc
    · exact reprChar_ok (h x List.mem_cons_self) c (by simpa using hc)
theorem quote_ok (x : Str) : reprQuote x < 0x110000 := by
  unfold reprQuote
  split <;> decide
theorem strOk_repr {x : Str} (h : PyData.strOk x = true) : PyData.strOk (reprText x) = true := by
  rw [strOk_iff] at h ⊢
  intro c hc
  unfold reprText at hc
  rw [Array.toList_push, List.mem_append, ← Array.foldl_toList] at hc
  rcases hc with hc | hc
  · exact foldl_repr_ok h (fun c hc => by
      have : c = reprQuote x := by simpa using hc
      rw [this]
      exact quote_ok x) c hc
  · rw [List.mem_singleton.mp hc]
    exact quote_ok x
structure Sm (n d : Nat) (p : PyData) : Prop where
  sh : p.showable = true
  len : p.shown.length ≤ n
  dep : p.depth ≤ d
  ok : PyData.strOk p.shown = true
theorem Sm.mono {n d n' d' : Nat} {p : PyData} (h : Sm n d p) (hn : n ≤ n') (hd : d ≤ d') : Sm n' d' p := ⟨h.sh, Nat.le_trans h.len hn, Nat.le_trans h.dep hd, h.ok⟩
theorem Sm.non : Sm 70 0 .none := ⟨by simp [PyData.showable], by decide +kernel, by simp [PyData.depth], strOk_of _⟩
theorem Sm.bl (b : Bool) : Sm 70 0 (.bool b) := ⟨by simp [PyData.showable], by cases b <;> decide +kernel, by simp [PyData.depth], by simp only [PyData.shown]; cases b <;> exact strOk_of _⟩
theorem Sm.int {i : Int} (h0 : -(10 ^ 60) < i) (h1 : i < 10 ^ 60) : Sm 70 0 (.int i) := by
  refine ⟨?_, ?_, by simp [PyData.depth], by simp only [PyData.shown]; exact strOk_of _⟩
  · have : i.natAbs.log2 < 1920 := by
      by_cases hz : i.natAbs = 0
      · rw [hz]
        decide
      · rw [Nat.log2_lt hz]
        have h2 : (10 : Nat) ^ 50 < 2 ^ 1920 := by decide +kernel
        omega
    simp [PyData.showable, this]
  · simp only [PyData.shown]
    cases i with
    | ofNat n =>
      have := toString_length_le (v := (n : Int)) (by omega) (k := 60) (by decide) h1
      exact Nat.le_trans this (by decide)
    | negSucc n =>
      have h3 : ((n + 1 : Nat) : Int) < 10 ^ 60 := by omega
      have := toString_length_le (v := ((n + 1 : Nat) : Int)) (by omega) (k := 60) (by decide) h3
      have e : toString (Int.negSucc n) = "-" ++ toString ((n + 1 : Nat) : Int) := rfl
      rw [e, PyProof.Rows.ofString_length, String.toList_append, List.length_append]
      rw [PyProof.Rows.ofString_length] at this
      have e2 : ("-" : String).toList.length = 1 := by decide
      omega
theorem Sm.str {x : Str} (h : okS x = true) : Sm 20000 0 (.str x) := by
  refine ⟨by simp [PyData.showable], ?_, by simp [PyData.depth], by simp only [PyData.shown]; exact strOk_repr (okS_ok h)⟩
  simp only [PyData.shown]
  have hl := okS_len h
  have := PySem.StrLaws.reprText_len x fun c hc => ?_
  · omega
  · have ho := okS_ok h
    unfold PyData.strOk at ho
    have := Array.all_eq_true_iff_forall_mem.mp ho c (by rwa [Array.mem_toList_iff] at hc)
    have h2 : c < 0x110000 := by simpa using this
    exact Nat.lt_trans h2 (by decide)
theorem piled_le {n : Nat} : ∀ {ts : List Str}, (∀ t ∈ ts, t.length ≤ n) → piled ts ≤ ts.length * (n + 2)
  | [], _ => by show 0 ≤ _; exact Nat.zero_le _
  | t :: ts, h => by
    have h1 := h t List.mem_cons_self
    have h2 := piled_le (ts := ts) fun y hy => h y (List.mem_cons_of_mem _ hy)
    rw [piled_cons, List.length_cons, Nat.add_mul]
    omega
theorem join_le {n : Nat} {ts : List Str} (h : ∀ t ∈ ts, t.length ≤ n) : (Str.join ", " ts).length ≤ ts.length * (n + 2) := by
  by_cases e : ts = []
  · subst e
    show (Str.join ", " []).length ≤ _
    exact Nat.le_trans (show (Str.join ", " []).length ≤ 0 by decide) (Nat.zero_le _)
  · have := join_length_add ts e
    have := piled_le h
    omega
theorem listText_le {n : Nat} {ts : List Str} (h : ∀ t ∈ ts, t.length ≤ n) : (listText ts).length ≤ ts.length * (n + 2) + 4 := by
  cases ts with
  | nil =>
    have : (listText []).length ≤ 2 := by rw [listText_nil]; decide
    omega
  | cons t r =>
    have h1 := textFrom_length_pos r 1 (("[" : Str) ++ (if (0 : Nat) > 0 then ", " else "" : String) ++ t) (Nat.succ_pos 0)
    have e : ((("[" : Str) ++ (if (0 : Nat) > 0 then ", " else "" : String) ++ t)).length = 1 + t.length := by
      rw [strLen_append, strLen_append]; rfl
    have hX : (listText (t :: r)).length = (textFrom 0 "[" (t :: r)).length + 1 := by
      show (textFrom 0 "[" (t :: r) ++ "]").length = _
      rw [strLen_append]; rfl
    have hY : (textFrom 0 "[" (t :: r)).length = (textFrom 1 (("[" : Str) ++ (if (0 : Nat) > 0 then ", " else "" : String) ++ t) r).length := rfl
    have h2 := piled_le h
    rw [piled_cons] at h2
    omega
theorem tupleText_le {n : Nat} {ts : List Str} (h : ∀ t ∈ ts, t.length ≤ n) : (tupleText ts).length ≤ ts.length * (n + 2) + 4 := by
  have := join_le h
  unfold tupleText
  rw [strLen_append, strLen_append]
  have e1 : ((("(" : String) : Str)).length = 1 := rfl
  have e3 : (((if ts.length == 1 then ",)" else ")" : String) : Str)).length ≤ 2 := by split <;> decide
  omega
theorem dictText_le {n : Nat} {ts : List Str} (h : ∀ t ∈ ts, t.length ≤ n) : (dictText ts).length ≤ ts.length * (n + 2) + 4 := by
  have := join_le h
  have e : (dictText ts).length = 1 + (Str.join ", " ts).length + 1 := by
    unfold dictText
    rw [strLen_append, strLen_append]; rfl
  omega
theorem Sm.all {n d : Nat} : ∀ {ps : List PyData}, (∀ p ∈ ps, Sm n d p) → PyData.showableAll ps = true ∧ (∀ t ∈ PyData.shownAll ps, t.length ≤ n) ∧ PyData.depthAll ps ≤ d ∧ (PyData.shownAll ps).length = ps.length ∧ ∀ t ∈ PyData.shownAll ps, PyData.strOk t = true
  | [], _ => ⟨by simp [PyData.showableAll], by simp [PyData.shownAll], by simp [PyData.depthAll], by simp [PyData.shownAll], by simp [PyData.shownAll]⟩
  | p :: ps, h => by
    obtain ⟨h1, h2, h3, h4, h5⟩ := Sm.all (ps := ps) fun y hy => h y (List.mem_cons_of_mem _ hy)
    have h0 := h p List.mem_cons_self
    refine ⟨by simp [PyData.showableAll, h0.sh, h1], fun t ht => ?_, ?_, by simp [PyData.shownAll, h4], fun t ht => ?_⟩
    · simp only [PyData.shownAll] at ht
      rcases List.mem_cons.mp ht with rfl | ht
      · exact h0.len
      · exact h2 t ht
    · simp only [PyData.depthAll]
      exact Nat.max_le.mpr ⟨h0.dep, h3⟩
    · simp only [PyData.shownAll] at ht
      rcases List.mem_cons.mp ht with rfl | ht
      · exact h0.ok
      · exact h5 t ht
theorem Sm.list {n d m N D : Nat} {ps : List PyData} (h : ∀ p ∈ ps, Sm n d p) (hm : ps.length ≤ m) (hN : m * (n + 2) + 4 ≤ N) (hD : d + 1 ≤ D) : Sm N D (.list ps) := by
  obtain ⟨h1, h2, h3, h4, h7⟩ := Sm.all h
  have h5 := listText_le h2
  rw [h4] at h5
  have h6 : ps.length * (n + 2) ≤ m * (n + 2) := Nat.mul_le_mul_right _ hm
  exact ⟨by simp [PyData.showable, h1], by simp only [PyData.shown]; omega, by simp only [PyData.depth]; omega, by simp only [PyData.shown]; exact strOk_listText h7⟩
theorem Sm.tuple {n d m N D : Nat} {ps : List PyData} (h : ∀ p ∈ ps, Sm n d p) (hm : ps.length ≤ m) (hN : m * (n + 2) + 4 ≤ N) (hD : d + 1 ≤ D) : Sm N D (.tuple ps) := by
  obtain ⟨h1, h2, h3, h4, h7⟩ := Sm.all h
  have h5 := tupleText_le h2
  rw [h4] at h5
  have h6 : ps.length * (n + 2) ≤ m * (n + 2) := Nat.mul_le_mul_right _ hm
  exact ⟨by simp [PyData.showable, h1], by simp only [PyData.shown]; omega, by simp only [PyData.depth]; omega, by simp only [PyData.shown]; exact strOk_tupleText h7⟩
theorem Sm.kv {n d : Nat} : ∀ {qs : List (PyData × PyData)}, (∀ q ∈ qs, Sm n d q.1 ∧ Sm n d q.2) → PyData.showableKv qs = true ∧ (∀ t ∈ PyData.shownKv qs, t.length ≤ 2 * n + 2) ∧ PyData.depthKv qs ≤ d ∧ (PyData.shownKv qs).length = qs.length ∧ ∀ t ∈ PyData.shownKv qs, PyData.strOk t = true
  | [], _ => ⟨by simp [PyData.showableKv], by simp [PyData.shownKv], by simp [PyData.depthKv], by simp [PyData.shownKv], by simp [PyData.shownKv]⟩
  | (k, v) :: qs, h => by
    obtain ⟨h1, h2, h3, h4, h5⟩ := Sm.kv (qs := qs) fun y hy => h y (List.mem_cons_of_mem _ hy)
    obtain ⟨k0, v0⟩ := h (k, v) List.mem_cons_self
    refine ⟨by simp [PyData.showableKv, k0.sh, v0.sh, h1], fun t ht => ?_, ?_, by simp [PyData.shownKv, h4], fun t ht => ?_⟩
    · simp only [PyData.shownKv] at ht
      rcases List.mem_cons.mp ht with rfl | ht
      · rw [strLen_append, strLen_append]
        have e : (((": " : String) : Str)).length = 2 := rfl
        have := k0.len
        have := v0.len
        dsimp only at *
        omega
      · exact h2 t ht
    · simp only [PyData.depthKv]
      exact Nat.max_le.mpr ⟨Nat.max_le.mpr ⟨k0.dep, v0.dep⟩, h3⟩
    · simp only [PyData.shownKv] at ht
      rcases List.mem_cons.mp ht with rfl | ht
      · exact strOk_app (strOk_app k0.ok (strOk_of _)) v0.ok
      · exact h5 t ht
theorem Sm.dict {n d m N D : Nat} {qs : List (PyData × PyData)} (h : ∀ q ∈ qs, Sm n d q.1 ∧ Sm n d q.2) (hm : qs.length ≤ m) (hN : m * (2 * n + 4) + 4 ≤ N) (hD : d + 1 ≤ D) : Sm N D (.dict qs) := by
  obtain ⟨h1, h2, h3, h4, h7⟩ := Sm.kv h
  have h5 := dictText_le h2
  rw [h4] at h5
  have h6 : qs.length * (2 * n + 2 + 2) ≤ m * (2 * n + 2 + 2) := Nat.mul_le_mul_right _ hm
  have e : m * (2 * n + 2 + 2) = m * (2 * n + 4) := rfl
  exact ⟨by simp [PyData.showable, h1], by simp only [PyData.shown]; omega, by simp only [PyData.depth]; omega, by simp only [PyData.shown]; exact strOk_dictText h7⟩
/-- a point that all questions take -/
def GoodPt (p : Pt) : Prop := p.ok = true ∧ isPointD p.d = true
theorem Pt.sm {p : Pt} (h : GoodPt p) : Sm 61000 1 p.py := by
  obtain ⟨h, hi⟩ := h
  cases p with
  | s z => exact (Sm.str h).mono (by decide) (by decide)
  | t a b i =>
    simp only [Pt.ok, Bool.and_eq_true] at h
    have hi : (isNameD (.str a) && (isPlaceD (.str b) && isIntD (.int i))) = true := hi
    rw [Bool.and_eq_true, Bool.and_eq_true] at hi
    have hi : (decide (-(10 ^ 60) < i) && decide (i < 10 ^ 60)) = true := hi.2.2
    rw [Bool.and_eq_true, decide_eq_true_eq, decide_eq_true_eq] at hi
    refine Sm.tuple (n := 20000) (d := 0) (m := 3) (fun p hp => ?_) (by simp) (by decide) (by decide)
    simp only [List.mem_cons, List.mem_nil_iff, or_false] at hp
    rcases hp with rfl | rfl | rfl
    · exact Sm.str h.1
    · exact Sm.str h.2
    · exact (Sm.int hi.1 hi.2).mono (by decide) (by decide)
/-- it can be shown -/
def Shows (M : Hp3) (v : D) : Prop := ∃ p, DataAt M v p ∧ p.showable = true ∧ p.shown.length ≤ sizeLine ∧ p.depth ≤ 100 ∧ PyData.strOk p.shown = true
theorem Shows.of {M : Hp3} {v : D} {p : PyData} {n d : Nat} (h : DataAt M v p) (s : Sm n d p) (hn : n ≤ 16000000) (hd : d ≤ 100) : Shows M v := ⟨p, h, s.sh, by have := s.len; have := sizeLine_eq; omega, Nat.le_trans s.dep hd, s.ok⟩
theorem Shows.gro {M M' : Hp3} {v : D} (h : Shows M v) (g : Gro M M') : Shows M' v := let ⟨p, a, r⟩ := h; ⟨p, a.gro g, r⟩
end L3

set_option Elab.async false
set_option linter.all false
set_option maxRecDepth 100000
set_option maxHeartbeats 4000000
/-! E18: values under test. -/
namespace L3
open PySem PySem.Spec PyProof.Rows L2

/-- N, and what came into being between M and M' -/
def NewOf (N M M' : Hp3) : Hp3 := fun a => match M a with
  | none => M' a
  | some _ => N a
theorem newOf_new {N M M' : Hp3} {a : Addr} (h : M a = none) : NewOf N M M' a = M' a := by
  unfold NewOf
  rw [h]
theorem newOf_hid {N M M' : Hp3} {a : Addr} {o : MO} (h : M a = some o) : NewOf N M M' a = N a := by
  unfold NewOf
  rw [h]
theorem newOf_old {N M M' : Hp3} (g : Gro N M) : Gro N (NewOf N M M') := fun a o h => by
  rw [newOf_hid (g a o h)]
  exact h
theorem newOf_gro {N M M' : Hp3} {k : Addr} (g : Gro N M) (hk : N k = none) (g2 : GroBut k M M') : Gro (NewOf N M M') M' := fun a o h => by
  cases e : M a with
  | none =>
    rw [newOf_new e] at h
    exact h
  | some u =>
    rw [newOf_hid e] at h
    exact g2 a o (fun z => by rw [z, hk] at h; cases h) (g a o h)
theorem fresh_but {M M' : Hp3} {k a : Addr} {B : Int} (g : GroBut k M M') (hk : KegAt M' k B) (h : M' a = none) : M a = none := by
  cases e : M a with
  | none => rfl
  | some o =>
    by_cases z : a = k
    · obtain ⟨x, s, c, h2, _⟩ := hk
      rw [z, h2] at h
      cases h
    · rw [g a o z e] at h
      cases h
/-- a value that any question of numbers takes -/
structure Lf (N : Hp3) (v : D) : Prop where
  t : Tame N v
  s : ∃ p, DataAt N v p ∧ Sm 61000 2 p
theorem Lf.gro {N N' : Hp3} {v : D} (h : Lf N v) (g : Gro N N') : Lf N' v := ⟨h.t.gro g, let ⟨p, a, b⟩ := h.s; ⟨p, a.gro g, b⟩⟩
theorem Lf.int {N : Hp3} {i : Int} (h0 : -(10 ^ 60) < i) (h1 : i < 10 ^ 60) : Lf N (.int i) := ⟨.int i, _, .int i, (Sm.int h0 h1).mono (by decide) (by decide)⟩
theorem Lf.non {N : Hp3} : Lf N .non := ⟨.non, _, .non, Sm.non.mono (by decide) (by decide)⟩
theorem Lf.bl {N : Hp3} (b : Bool) : Lf N (.bl b) := ⟨.bl b, _, .bl b, (Sm.bl b).mono (by decide) (by decide)⟩
theorem Lf.str {N : Hp3} {x : Str} (h : okS x = true) : Lf N (.str x) := ⟨.str (okS_len h) (okS_ok h), _, .str x, (Sm.str h).mono (by decide) (by decide)⟩
theorem Lf.tup0 {N : Hp3} : Lf N (.tup [.int 0]) := ⟨.tup fun d h => by rw [List.mem_singleton.mp h]; exact .int 0, .tuple [.int 0], .tup (.cons (.int 0) .nil), Sm.tuple (n := 70) (d := 0) (m := 1) (fun p hp => by rw [List.mem_singleton.mp hp]; exact Sm.int (by decide) (by decide)) (by simp) (by decide) (by decide)⟩
theorem Lf.lst {N : Hp3} {a : Addr} (h : N a = some (.lst [])) : Lf N (.ref a) := ⟨.ref h, .list [], .lst h .nil, Sm.list (n := 70) (d := 0) (m := 0) (fun p hp => (by cases hp)) (by simp) (by decide) (by decide)⟩
theorem Lf.dct {N : Hp3} {a : Addr} (h : N a = some (.dct [])) : Lf N (.ref a) := ⟨.ref h, .dict [], .dct h .nil .nil, Sm.dict (n := 70) (d := 0) (m := 0) (fun p hp => (by cases hp)) (by simp) (by decide) (by decide)⟩
structure ValF (N : Hp3) (v : D) : Prop where
  f : ∀ rows, ∃ b, FitR rows N v b
  s : Shows N v
theorem ValF.gro {N N' : Hp3} {v : D} (h : ValF N v) (g : Gro N N') : ValF N' v := ⟨fun rows => let ⟨b, hb⟩ := h.f rows; ⟨b, hb.gro g⟩, h.s.gro g⟩
theorem dct_data {N : Hp3} {f : Pt → D} : ∀ {P : List Pt}, (∀ p ∈ P, GoodPt p) → (∀ p ∈ P, Lf N (f p)) → ∃ qs : List (PyData × PyData), DataAts N ((mkD P f).kv.map (·.1)) (qs.map (·.1)) ∧ DataAts N ((mkD P f).kv.map (·.2)) (qs.map (·.2)) ∧ (∀ q ∈ qs, Sm 61000 2 q.1 ∧ Sm 61000 2 q.2) ∧ qs.length = P.length
  | [], _, _ => ⟨[], .nil, .nil, fun _ h => (by cases h), rfl⟩
  | p :: P, hg, hf => by
    obtain ⟨qs, h1, h2, h3, h4⟩ := dct_data (P := P) (fun x hx => hg x (List.mem_cons_of_mem _ hx)) fun x hx => hf x (List.mem_cons_of_mem _ hx)
    obtain ⟨u, hu, su⟩ := (hf p List.mem_cons_self).s
    refine ⟨(p.py, u) :: qs, .cons p.data h1, .cons hu h2, fun q hq => ?_, by rw [List.length_cons, List.length_cons, h4]⟩
    rcases List.mem_cons.mp hq with rfl | hq
    · exact ⟨(Pt.sm (hg p List.mem_cons_self)).mono (by decide) (by decide), su⟩
    · exact h3 q hq
theorem valF_dct {N : Hp3} {a : Addr} {P : List Pt} {f : Pt → D} (h : N a = some (.dct (mkD P f).kv)) (hl : P.length ≤ 100) (hg : ∀ p ∈ P, GoodPt p) (hf : ∀ p ∈ P, Lf N (f p)) : ValF N (.ref a) := by
  refine ⟨fun rows => ⟨_, .inr ⟨a, P, f, rfl, ⟨h, hl, hg, fun p hp => (hf p hp).t⟩, rfl⟩⟩, ?_⟩
  obtain ⟨qs, h1, h2, h3, h4⟩ := dct_data hg hf
  exact Shows.of (.dct h h1 h2) (Sm.dict h3 (m := 100) (by omega) (Nat.le_refl _) (Nat.le_refl _)) (by decide) (by decide)
theorem valF_of {N : Hp3} {v : D} {p : PyData} {n d : Nat} (t : Tame N v) (nd : ∀ a, v = .ref a → ∃ ds, N a = some (.lst ds)) (h : DataAt N v p) (s : Sm n d p) (hn : n ≤ 16000000) (hd : d ≤ 100) : ValF N v := ⟨fun rows => ⟨false, .inl ⟨t, nd, rfl⟩⟩, Shows.of h s hn hd⟩
/-- the pairs of a dict in a list -/
def prT (l : List (D × D)) : List D := l.map fun q => .tup [q.1, q.2]
theorem prT_len {P : List Pt} {f : Pt → D} : (prT (mkD P f).kv).length = P.length := by
  unfold prT
  rw [List.length_map, mkD_len]
theorem valF_rows {N : Hp3} {a : Addr} {P : List Pt} {f : Pt → Int} (h : N a = some (.lst (prT (mkD P fun p => .int (f p)).kv))) (hl : P.length ≤ 100) (hg : ∀ p ∈ P, GoodPt p) (hf : ∀ p, -(10 ^ 60) < f p ∧ f p < 10 ^ 60) : ValF N (.ref a) := by
  have hd : DataAt N (.ref a) (.list (P.map fun p => .tuple [p.py, .int (f p)])) := by
    refine .lst h ?_
    have e : prT (mkD P fun p => .int (f p)).kv = P.map fun p => D.tup [p.d, .int (f p)] := by
      unfold prT mkD PD.kv
      rw [List.map_map, List.map_map]
      rfl
    rw [e]
    exact DataAts.map (fun p => .tup (.cons p.data (.cons (.int _) .nil))) P
  refine valF_of (.ref h) (fun b e => by cases e; exact ⟨_, h⟩) hd (Sm.list (n := 130000) (d := 2) (m := 100) (fun x hx => ?_) (by rw [List.length_map]; exact hl) (Nat.le_refl _) (Nat.le_refl _)) (by decide) (by decide)
  obtain ⟨p, hp, rfl⟩ := List.mem_map.mp hx
  refine Sm.tuple (n := 61000) (d := 1) (m := 2) (fun y hy => ?_) (by simp) (by decide) (by decide)
  simp only [List.mem_cons, List.mem_nil_iff, or_false] at hy
  rcases hy with rfl | rfl
  · exact Pt.sm (hg p hp)
  · exact (Sm.int (hf p).1 (hf p).2).mono (by decide) (by decide)

/-! ### dicts of lists of pairs -/
theorem putsD_app : ∀ (l m acc : List (D × D)), putsD acc (l ++ m) = putsD (putsD acc l) m
  | [], _, _ => rfl
  | (k, v) :: l, m, acc => by
    show (match keyOf k with
      | some n => putsD (putD acc n k v) (l ++ m)
      | none => putsD acc (l ++ m)) = putsD (match keyOf k with
      | some n => putsD (putD acc n k v) l
      | none => putsD acc l) m
    cases keyOf k with
    | some n => exact putsD_app l m _
    | none => exact putsD_app l m _
theorem putsD_one {P : List Pt} {f : Pt → D} {p : Pt} {v : D} : putsD (mkD P f).kv [(p.d, v)] = (mkD (addP P p) (updP f p v)).kv := by
  show (match keyOf p.d with
    | some n => putsD (putD (mkD P f).kv n p.d v) []
    | none => putsD (mkD P f).kv []) = _
  rw [p.keyOf]
  show putD (mkD P f).kv p.key p.d v = _
  rw [PD.put_kv, mkD_put]
theorem key_pts {P : List Pt} {f : Pt → D} : ∀ q ∈ (mkD P f).kv, (keyOf q.1).isSome = true := fun q hq => by
  unfold PD.kv mkD at hq
  rw [List.map_map] at hq
  obtain ⟨p, _, rfl⟩ := List.mem_map.mp hq
  show (keyOf p.d).isSome = true
  rw [p.keyOf]
  rfl
theorem dict_of {M : Hp3} {a : Addr} {P : List Pt} {f : Pt → D} {Q : VK3} (hM : M a = some (.lst (prT (mkD P f).kv))) (nd : P.Nodup) (q : ∀ e, M e = none → Q (.ref e) (up3 M e (.dct (mkD P f).kv))) : biD .dict [.ref a] M Q := by
  refine ⟨a, (mkD P f).kv, rfl, .inl hM, key_pts, fun e he => ?_⟩
  have e0 := putsD_mk f P [] (by rw [List.nil_append]; exact nd)
  rw [List.nil_append] at e0
  have e1 : putsD [] (mkD P f).kv = (mkD P f).kv := e0
  rw [e1]
  exact q e he
theorem dict_add {M : Hp3} {a : Addr} {P : List Pt} {f : Pt → D} {p : Pt} {v : D} {Q : VK3} (hM : M a = some (.lst (prT (mkD P f).kv ++ [.tup [p.d, v]]))) (nd : P.Nodup) (q : ∀ e, M e = none → Q (.ref e) (up3 M e (.dct (mkD (addP P p) (updP f p v)).kv))) : biD .dict [.ref a] M Q := by
  refine ⟨a, (mkD P f).kv ++ [(p.d, v)], rfl, .inl (by rw [List.map_append]; exact hM), fun x hx => ?_, fun e he => ?_⟩
  · rcases List.mem_append.mp hx with hx | hx
    · exact key_pts x hx
    · rw [List.mem_singleton.mp hx]
      show (keyOf p.d).isSome = true
      rw [p.keyOf]
      rfl
  · have e0 := putsD_mk f P [] (by rw [List.nil_append]; exact nd)
    rw [List.nil_append] at e0
    have e1 : putsD [] (mkD P f).kv = (mkD P f).kv := e0
    rw [putsD_app, e1, putsD_one]
    exact q e he
/-- dict(rows + [(p, v)]) -/
theorem rows_plus {M : Hp3} {r : Addr} {P : List Pt} {f : Pt → D} {p : Pt} {v : D} {Q : VK3} (hM : M r = some (.lst (prT (mkD P f).kv))) (nd : P.Nodup) (hl : P.length ≤ 1000) (q : ∀ (M' : Hp3) (e : Addr), Gro M M' → M e = none → M' e = some (.dct (mkD (addP P p) (updP f p v)).kv) → Q (.ref e) M') :
    [D.tup [p.d, v]].length ≤ sizeLine ∧ ∀ c, M c = none → binD .Add (.ref r) (.ref c) (up3 M c (.lst [.tup [p.d, v]])) fun d M1 => biD .dict [d] M1 Q := by
  refine ⟨szd (show 1 ≤ 1000 by decide), fun c hc => ?_⟩
  have g1 := Gro.new (o := .lst [D.tup [p.d, v]]) hc
  refine ⟨_, _, g1 _ _ hM, up3_same, by rw [prT_len]; have := sizeLine_eq; show P.length + 1 ≤ _; omega, fun b hb => ?_⟩
  have g2 := Gro.new (o := .lst (prT (mkD P f).kv ++ [.tup [p.d, v]])) hb
  refine dict_add up3_same nd fun e he => ?_
  exact q _ e (g1.trans (g2.trans (Gro.new he))) ((g1.trans g2).fresh he) up3_same
end L3

set_option Elab.async false
set_option linter.all false
set_option maxRecDepth 100000
set_option maxHeartbeats 4000000
/-! E19: _law_near_numbers. -/
namespace L3
open PySem PySem.Spec PyProof.Rows L2

theorem lcW_inv0 {hold : Hp3 → Prop} {tg : Tg} {tst : TT3} {elt : TE3} {σ : St3} {p : Addr} {Q : VK3} {items acc : List D} {M : Hp3} (J : Nat → List D → Hp3 → Prop)
    (step : ∀ i x acc M, items[i]? = some x → J i acc M → M p = some (.lst acc) → hold M ∧ ∃ σ1, asgT tg x σ = some σ1 ∧ EvT tst σ1 M fun b M1 =>
      if b = true then Ev elt σ1 M1 fun y M2 => M2 p = some (.lst acc) ∧ acc.length < sizeLine ∧ ∀ M3, GroBut p M2 M3 → M3 p = some (.lst (acc ++ [y])) → J (i + 1) (acc ++ [y]) M3 else M1 p = some (.lst acc) ∧ J (i + 1) acc M1)
    (fin : ∀ acc M, J items.length acc M → M p = some (.lst acc) → hold M ∧ Q (.ref p) M) (h0 : J 0 acc M) (hM : M p = some (.lst acc)) : lcW hold tg tst elt σ p items M Q := by
  have := lcW_inv (hold := hold) (tg := tg) (tst := tst) (elt := elt) (σ := σ) J step fin 0 acc M (Nat.zero_le _) h0 hM
  rwa [List.drop_zero] at this
structure NumD (N : Hp3) (a : Addr) (P : List Pt) (f : Pt → Int) : Prop where
  at_ : N a = some (.dct (mkD P fun p => .int (f p)).kv)
  nd : P.Nodup
  len : P.length ≤ 50
  key : ∀ p ∈ P, GoodPt p
  bd : ∀ p, -(10 ^ 42) ≤ f p ∧ f p ≤ 10 ^ 42
abbrev sp_near_numbers : Sp3 := fun ds M Q => ∃ (k a : Addr) (B : Int) (rows : List Row) (N : Hp3) (P : List Pt) (f : Pt → Int), ds = [.ref k, .tup (rows.map Row.d), .ref a] ∧ KegAt M k B ∧ RowsG rows ∧ Gro N M ∧ N k = none ∧ NumD N a P f ∧ B + 200 ≤ 10 ^ 9 ∧
  ∀ (v : D) (M' : Hp3), GroBut k M M' → KegAt M' k (B + 200) → ValF (NewOf N M M') v → Q v M'
theorem good_pts {rows : List Row} (h : RowsG rows) : ∀ p ∈ ptsOf rows, GoodPt p := fun p hp => by
  refine ⟨ptsOf_ok h.ok p hp, ?_⟩
  rcases ptsOf_mem.mp hp with rfl | ⟨r, hr, e⟩
  · decide +kernel
  · have := h.diff r hr
    have : (isPointD r.a.d && (isPointD r.b.d && isIntD (.int r.w))) = true := this
    rw [Bool.and_eq_true, Bool.and_eq_true] at this
    rcases e with rfl | rfl
    · exact this.1
    · exact this.2.1
theorem KegAt.but {M : Hp3} {k c : Addr} {o : MO} {B : Int} (h : KegAt M k B) (hc : c ≠ k) : KegAt (up3 M c o) k B := let ⟨x, s, n, e, r⟩ := h; ⟨x, s, n, by rw [up3_ne (Ne.symm hc)]; exact e, r⟩
theorem KegAt.ne {M : Hp3} {k c : Addr} {B : Int} (h : KegAt M k B) (hc : M c = none) : c ≠ k := let ⟨x, s, n, e, r⟩ := h; fun z => by rw [z, e] at hc; cases hc
theorem prT_firsts {P : List Pt} {f : Pt → D} : (prT (mkD P f).kv).filterMap (fun d => match d with
    | .tup [x, _] => some x
    | _ => none) = P.map Pt.d := by
  unfold prT mkD PD.kv
  rw [List.map_map, List.map_map, List.filterMap_map]
  have e0 : List.filterMap (fun p => some (Pt.d p)) P = P.map Pt.d := by rw [List.filterMap_eq_map']
  exact e0
theorem near_numbers_spec (Γ : Nat → Sp3) (h19 : Γ 19 = sp_tap) (h22 : Γ 22 = sp_points) (h23 : Γ 23 = sp_choice) (ds : List D) (M : Hp3) (Q : VK3) (h : sp_near_numbers ds M Q) : WSs C23 Γ I_law_near_numbers { nx := fun _ M' => Q .non M', rt := Q } (start3 N_law_near_numbers ds) M := by
  obtain ⟨k, a, B, rows, N, P, f, rfl, hk, hr, gN, hkN, hn, hB, q⟩ := h
  simp only [I_law_near_numbers, WSs, WS, WE, WX, mkT, WA, WP, WT, WI, WO, h19, h22, h23, N_law_near_numbers, start3, List.map_cons, List.map_nil, List.length_cons, List.length_nil, List.replicate, List.append_nil]
  refine ⟨_, rfl, a, _, rfl, .inl (gN _ _ hn.at_), fun r hr0 => ?_⟩
  have g1 := Gro.new (o := .lst (prT (mkD P fun p => .int (f p)).kv)) hr0
  have hrk := hk.ne hr0
  have hM1 : up3 M r (.lst (prT (mkD P fun p => .int (f p)).kv)) r = some (.lst (prT (mkD P fun p => .int (f p)).kv)) := up3_same
  refine ⟨_, rfl, _, rfl, rows, rfl, hr.len, hr.ok, fun M2 l qs g2 hl hM2 hqs => ?_⟩
  have hql : 0 < qs.length := by
    rw [hqs.length_eq]
    exact List.length_pos_of_mem (ptsOf_mem.mpr (.inl rfl))
  obtain ⟨q0, hq0⟩ := get_of_lt hql
  have hq0g : GoodPt q0 := good_pts hr q0 (hqs.mem_iff.mp (List.mem_of_getElem? hq0))
  refine ⟨_, rfl, _, hM2, fun s hs => ?_⟩
  have e1 : partD (qs.map Pt.d) none (some 1) = [q0].map Pt.d := by
    have h1 : HT.sIx (qs.map Pt.d).length 0 none = 0 := rfl
    have h2 : HT.sIx (qs.map Pt.d).length (qs.map Pt.d).length (some 1) = 1 := by
      unfold HT.sIx
      rw [List.length_map]
      simp
      omega
    unfold partD
    rw [h1, h2]
    cases qs with
    | nil => exact absurd hql (Nat.lt_irrefl 0)
    | cons x xs =>
      simp at hq0
      subst hq0
      rfl
  rw [e1]
  refine sort_pts (b := q0.isS) (fun p hp => by rw [List.mem_singleton.mp hp]) up3_same (by show 1 < 64; decide) fun l' t hl' ht => ?_
  have el : l' = [q0] := List.perm_singleton.mp hl'
  subst el
  refine ⟨szd (show 2 ≤ 1000 by decide), fun u hu => ?_⟩
  have g3 := Gro.new (o := .lst ([q0].map Pt.d)) hs
  have g4 := Gro.new (o := .lst ([q0].map Pt.d)) ht
  have g5 := Gro.new (o := .lst [D.str "i", D.str "q"]) hu
  refine ⟨_, _, g5 _ _ up3_same, up3_same, szd (show 3 ≤ 1000 by decide), fun w hw => ?_⟩
  have g6 := Gro.new (o := .lst ([q0].map Pt.d ++ [D.str "i", D.str "q"])) hw
  have g := g1.trans (g2.trans (g3.trans (g4.trans (g5.trans g6))))
  have hk6 := hk.gro g
  have hwk : w ≠ k := (hk.gro (g1.trans (g2.trans (g3.trans (g4.trans g5))))).ne hw
  refine ⟨k, w, B, _, rfl, hk6, up3_same, by show 0 < 3; decide, by show 3 ≤ 10000; decide, hwk, by omega, fun d7 M7 hd7 g7 hk7 => ?_⟩
  have hp7 : ∃ p, d7 = Pt.d p ∧ GoodPt p := by
    have : d7 = q0.d ∨ d7 = Pt.d (.s "i") ∨ d7 = Pt.d (.s "q") := by simpa [Pt.d] using hd7
    rcases this with rfl | rfl | rfl
    · exact ⟨q0, rfl, hq0g⟩
    · exact ⟨_, rfl, by decide +kernel, by decide +kernel⟩
    · exact ⟨_, rfl, by decide +kernel, by decide +kernel⟩
  obtain ⟨p7, rfl, hg7⟩ := hp7
  refine ⟨szd (show 2 ≤ 1000 by decide), _, rfl, ?_⟩
  have hM7 := g7 r _ hrk (g6 _ _ (g5 _ _ (g4 _ _ (g3 _ _ (g2 _ _ hM1)))))
  have g07 : GroBut k M M7 := fun b o hb h => g7 b o hb (g b o h)
  refine ⟨_, rfl, _, rfl, szd (show 1 ≤ 1000 by decide), fun a8 ha8 => ?_⟩
  have g8 := Gro.new (o := .lst [p7.d]) ha8
  have hM8 := g8 _ _ hM7
  have hk8 := hk7.gro g8
  have a8k := hk7.ne ha8
  refine ⟨_, rfl, .inl ⟨_, hM8, fun b9 hb9 => ?_⟩⟩
  refine lcW_pur (fun d => match d with
    | .tup [x, _] => some x
    | _ => none) hb9 (fun M' g' => g' _ _ hM8) (by show (prT _).length ≤ _; rw [prT_len]; exact szd (by have := hn.len; omega)) (fun x hx M' g' => ?_) fun M9 g9 hM9 => ?_
  · have hx : x ∈ prT (mkD P fun p => .int (f p)).kv := hx
    unfold prT mkD PD.kv at hx
    rw [List.map_map, List.map_map] at hx
    obtain ⟨p, _, rfl⟩ := List.mem_map.mp hx
    refine ⟨_, rfl, evT_yes, fun y hy M'' g'' K kk => ?_⟩
    cases hy
    exact ⟨_, rfl, _, rfl, kk _ _ ⟨rfl, Gro.refl _⟩⟩
  rw [show (Src.lst r (prT (mkD P fun p => .int (f p)).kv)).items = prT (mkD P fun p => .int (f p)).kv from rfl, prT_firsts] at hM9
  refine ⟨_, _, g9 _ _ up3_same, hM9, by rw [List.length_map]; exact szd (by have := hn.len; show 1 + P.length ≤ 1000; omega), fun c10 hc10 => ?_⟩
  have g10 := Gro.new (o := .lst ([p7.d] ++ P.map Pt.d)) hc10
  have hk10 := (hk8.gro g9).gro g10
  have c10k := (hk8.gro g9).ne hc10
  refine ⟨k, c10, _, _, rfl, hk10, up3_same, by simp, by rw [List.length_append, List.length_map]; have := hn.len; show 1 + P.length ≤ 10000; omega, c10k, by omega, fun d11 M11 hd11 g11 hk11 => ?_⟩
  have hp11 : ∃ p, d11 = Pt.d p ∧ GoodPt p := by
    rcases List.mem_append.mp hd11 with h | h
    · exact ⟨p7, List.mem_singleton.mp h, hg7⟩
    · obtain ⟨p, hp, rfl⟩ := List.mem_map.mp h
      exact ⟨p, rfl, hn.key p hp⟩
  obtain ⟨p11, rfl, hg11⟩ := hp11
  refine ⟨_, rfl, k, 8, _, rfl, hk11, by decide, by decide, by omega, fun w M12 w0 w1 g12 hk12 => ?_⟩
  refine ⟨szd (show 2 ≤ 1000 by decide), _, rfl, ?_⟩
  have g12' : GroBut k M M12 := fun b o hb h => g12 b o hb (g11 b o hb (g10 _ _ (g9 _ _ (g8 _ _ (g07 b o hb h)))))
  have hM12 := g12 r _ hrk (g11 r _ hrk (g10 _ _ (g9 _ _ hM8)))
  have hak : a ≠ k := fun z => by have := hn.at_; rw [z, hkN] at this; cases this
  have hn12 := g12' a _ hak (gN _ _ hn.at_)
  have hk12 : KegAt M12 k (B + 3) := hk12.mono (by omega)
  have fresh12 : ∀ {M' : Hp3} {b : Addr}, Gro M12 M' → M' b = none → M b = none := fun g' hb => fresh_but g12' hk12 (g'.fresh hb)
  clear hk11 hk10 hk8 hk7 hk6 g11 g10 g9 g8 hM9 hM8 hM7 hM2
  refine ⟨_, rfl, ⟨a, _, rfl, .inl hn12⟩, _, rfl, a, _, _, _, p11.key, rfl, rfl, .inl hn12, p11.keyOf, ?_⟩
  have hold : ∃ o : Int, (lookD (mkD P fun p => .int (f p)).kv p11.key).getD (.int 0) = .int o ∧ -(10 ^ 42) ≤ o ∧ o ≤ 10 ^ 42 := by
    rw [PD.look_kv, mkD_look]
    split
    · exact ⟨f p11, rfl, hn.bd p11⟩
    · exact ⟨0, rfl, by decide, by decide⟩
  obtain ⟨o, eo, o0, o1⟩ := hold
  rw [eo]
  refine ⟨_, rfl, _, rfl, ?_⟩
  show ∃ r_1, some (decide (w < 3)) = some r_1 ∧ _
  refine ⟨_, rfl, ?_⟩
  have hfin : ∀ p, -(10 ^ 60) < f p ∧ f p < 10 ^ 60 := fun p => by have := hn.bd p; omega
  have addLen : ∀ p, (addP P p).length ≤ 100 := fun p => by have := addP_len (l := P) (p := p); have := hn.len; omega
  have addGood : ∀ p, GoodPt p → ∀ x ∈ addP P p, GoodPt x := fun p hp x hx => (addP_mem.mp hx).elim (hn.key x) fun e => e ▸ hp
  have addLf : ∀ {N' : Hp3} (p : Pt) (v : D), Lf N' v → ∀ x ∈ addP P p, Lf N' (updP (fun p => D.int (f p)) p v x) := fun p v hv x _ => by
    unfold updP
    split
    · exact hv
    · exact Lf.int (hfin x).1 (hfin x).2
  by_cases c1 : w < 3
  · rw [if_pos (decide_eq_true c1)]
    refine ⟨_, rfl, _, rfl, _, rfl, _, rfl, ?_⟩
    refine ⟨1, rfl, by decide, by decide +kernel, ?_⟩
    refine ⟨szd (show 4 ≤ 1000 by decide), fun e he => ?_⟩
    have ge := Gro.new (o := .lst [D.int 1, D.int (-1), D.int 3, D.int (0 - 10 ^ (40 : Int).toNat)]) he
    refine ⟨k, e, _, _, rfl, hk12.gro ge, up3_same, by show 0 < 4; decide, by show 4 ≤ 10000; decide, hk12.ne he, by omega, fun d13 M13 hd13 g13 hk13 => ?_⟩
    have hj : ∃ j : Int, d13 = .int j ∧ -(10 ^ 40) ≤ j ∧ j ≤ 10 ^ 40 := by
      simp only [List.mem_cons, List.mem_nil_iff, or_false] at hd13
      rcases hd13 with rfl | rfl | rfl | rfl
      · exact ⟨1, rfl, by decide, by decide⟩
      · exact ⟨-1, rfl, by decide, by decide⟩
      · exact ⟨3, rfl, by decide, by decide⟩
      · exact ⟨_, rfl, by decide +kernel, by decide +kernel⟩
    obtain ⟨j, rfl, j0, j1⟩ := hj
    have g13' : GroBut k M M13 := fun b o hb h => g13 b o hb (ge _ _ (g12' b o hb h))
    have hM13 := g13 r _ hrk (ge _ _ hM12)
    refine ⟨szd (show 2 ≤ 1000 by decide), ?_⟩
    refine rows_plus hM13 hn.nd (by have := hn.len; omega) fun M14 e14 g14 he14 hM14 => ?_
    refine q (.ref e14) M14 (fun b o hb h => g14 _ _ (g13' b o hb h)) ((hk13.gro g14).mono (by omega)) (valF_dct (by rw [newOf_new (fresh_but g13' hk13 he14)]; exact hM14) (addLen _) (addGood p11 hg11) (addLf p11 _ (Lf.int (by omega) (by omega))))
  · rw [if_neg (by rw [decide_eq_true_eq]; exact c1)]
    refine ⟨_, rfl, _, int_eq _ _ _, _, rfl, ?_⟩
    by_cases c2 : w = 3
    · rw [if_pos (decide_eq_true c2)]
      refine ⟨_, rfl, .inl ⟨_, hM12, fun e he => ?_⟩⟩
      have hek := hk12.ne he
      have hM12' : ∀ i x, (prT (mkD P fun p => .int (f p)).kv)[i]? = some x → ∃ p : Pt, P[i]? = some p ∧ x = D.tup [p.d, .int (f p)] := fun i x hx => by
        unfold prT mkD PD.kv at hx
        rw [List.map_map, List.map_map, List.getElem?_map] at hx
        obtain ⟨p, hp, rfl⟩ := Option.map_eq_some_iff.mp hx
        exact ⟨p, hp, rfl⟩
      refine lcW_inv0
        (fun i acc M' => GroBut k M12 M' ∧ KegAt M' k (B + 3 + i) ∧ i ≤ P.length ∧ ∃ g : Pt → Int, acc = prT (mkD (P.take i) fun p => .int (g p)).kv ∧ ∀ p, -(10 ^ 43) ≤ g p ∧ g p ≤ 10 ^ 43) (fun i x acc M' hx hJ hacc => ?_) (fun acc M' hJ hacc => ?_) (acc := []) ⟨fun b o hb h => Gro.new he _ _ h, (hk12.but hek).mono (by simp), Nat.zero_le _, fun _ => 0, rfl, fun _ => ⟨by show -(10 ^ 43) ≤ (0 : Int); decide, by show (0 : Int) ≤ 10 ^ 43; decide⟩⟩ up3_same
      · obtain ⟨gJ, hkJ, hiJ, g, rfl, bdg⟩ := hJ
        obtain ⟨p, hp, rfl⟩ := hM12' i x hx
        have hMr := gJ r _ hrk hM12
        have hlt := (List.getElem?_eq_some_iff.mp hp).1
        have hbf := hn.bd p
        refine ⟨hMr, _, rfl, fun K kk => kk _ _ ?_⟩
        simp only [if_true]
        intro K kk
        refine ⟨_, rfl, _, rfl, _, rfl, k, 2, _, rfl, hkJ, by decide, by decide, by have := hn.len; omega, fun t M13 t0 t1 g13 hk13 => ?_⟩
        refine ⟨szd (show 2 ≤ 1000 by decide), kk _ _ ⟨g13 e _ hek hacc, by rw [prT_len, List.length_take]; have := sizeLine_eq; have := hn.len; omega, fun M14 g14 hM14 => ?_⟩⟩
        refine ⟨fun b o hb h => g14 b o (fun z => by rw [z, he] at h; cases h) (g13 b o hb (gJ b o hb h)), ?_, hlt, updP g p (f p + t), ?_, fun x => ?_⟩
        · obtain ⟨x, s, c, hx, rest⟩ := hk13
          exact ⟨x, s, c, g14 k _ (Ne.symm hek) hx, by push_cast; omega⟩
        · have hnp : p ∉ P.take i := fun z => by
            have nd := hn.nd
            rw [← List.take_append_drop i P] at nd
            have hd : p ∈ P.drop i := by
              rw [List.drop_eq_getElem_cons hlt]
              have : P[i] = p := by
                have := List.getElem?_eq_getElem hlt
                rw [hp] at this
                exact (Option.some.inj this).symm
              rw [this]
              exact List.mem_cons_self
            exact (List.nodup_append.mp nd).2.2 p z p hd rfl
          have e1 : P.take (i + 1) = P.take i ++ [p] := by rw [List.take_add_one, hp]; rfl
          rw [e1]
          unfold prT mkD PD.kv
          rw [List.map_append, List.map_append, List.map_append]
          congr 1
          · rw [List.map_map, List.map_map, List.map_map, List.map_map]
            refine List.map_congr_left fun x hx => ?_
            show D.tup [x.d, .int (g x)] = D.tup [x.d, .int (updP g p (f p + t) x)]
            rw [updP_ne (fun z => hnp (by rw [← z]; exact hx))]
          · show [D.tup [p.d, .int (f p + t)]] = [D.tup [p.d, .int (updP g p (f p + t) p)]]
            rw [updP_same]
        · unfold updP
          split
          · omega
          · exact bdg x
      · obtain ⟨gJ, hkJ, hiJ, g, rfl, bdg⟩ := hJ
        have hMr := gJ r _ hrk hM12
        have eL : (Src.lst r (prT (mkD P fun p => .int (f p)).kv)).items.length = P.length := prT_len
        rw [eL] at hkJ
        rw [eL, List.take_length] at hacc
        have g13' : GroBut k M M' := fun b o hb h => gJ b o hb (g12' b o hb h)
        refine ⟨hMr, dict_of hacc hn.nd fun e2 he2 => ?_⟩
        have g14 := Gro.new (o := .dct (mkD P fun p => .int (g p)).kv) he2
        exact q (.ref e2) _ (fun b o hb h => g14 _ _ (g13' b o hb h)) ((hkJ.gro g14).mono (by have := hn.len; omega)) (valF_dct (by rw [newOf_new (fresh_but g13' hkJ he2)]; exact up3_same) (by have := hn.len; omega) hn.key fun x _ => Lf.int (by have := bdg x; omega) (by have := bdg x; omega))
    · rw [if_neg (by rw [decide_eq_true_eq]; exact c2)]
      refine ⟨_, rfl, _, int_eq _ _ _, _, rfl, ?_⟩
      by_cases c3 : w = 4
      · rw [if_pos (decide_eq_true c3)]
        refine ⟨_, rfl, r, _, rfl, hM12, fun e he => ?_⟩
        have er : (prT (mkD P fun p => .int (f p)).kv).reverse = prT (mkD P.reverse fun p => .int (f p)).kv := by
          unfold prT mkD PD.kv
          rw [List.map_reverse, List.map_reverse, List.map_reverse]
        rw [er]
        have ge := Gro.new (o := .lst (prT (mkD P.reverse fun p => .int (f p)).kv)) he
        refine dict_of up3_same (((List.reverse_perm P).nodup_iff).mpr hn.nd) fun e2 he2 => ?_
        have ge2 := Gro.new (o := .dct (mkD P.reverse fun p => .int (f p)).kv) he2
        exact q (.ref e2) _ (fun b o hb h => ge2 _ _ (ge _ _ (g12' b o hb h))) ((hk12.gro (ge.trans ge2)).mono (by omega)) (valF_dct (by rw [newOf_new (fresh12 ge he2)]; exact up3_same) (by rw [List.length_reverse]; have := hn.len; omega) (fun p hp => hn.key p (List.mem_reverse.mp hp)) fun x _ => Lf.int (hfin x).1 (hfin x).2)
      · rw [if_neg (by rw [decide_eq_true_eq]; exact c3)]
        refine ⟨szd (show 0 ≤ 1000 by decide), fun o1 ho1 => ⟨szd (show 1 ≤ 1000 by decide), fun _ h => (by cases h), by decide, fun o2 ho2 => ⟨szd (show 8 ≤ 1000 by decide), fun od hod => ⟨_, rfl, _, rfl, _, rfl, _, rfl, _, rfl, ?_⟩⟩⟩⟩
        have g13 := Gro.new (o := .lst []) ho1
        have g14 := Gro.new (o := .dct []) ho2
        have g15 := Gro.new (o := .lst [D.non, .bl true, .str "0", .ref o1, .tup [.int 0], .bl false, .str "", .ref o2]) hod
        have gg := g13.trans (g14.trans g15)
        have mo1 := fresh12 (Gro.refl _) ho1
        have mo2 := fresh12 g13 ho2
        refine ⟨k, od, _, _, rfl, hk12.gro gg, up3_same, by show 0 < 8; decide, by show 8 ≤ 10000; decide, (hk12.gro (g13.trans g14)).ne hod, by omega, fun d17 M17 hd17 g17 hk17 => ?_⟩
        have e17 : ∀ M', M' o1 = some (.lst []) → M' o2 = some (.dct []) → Lf (NewOf N M M') d17 := fun M' h1 h2 => by
          simp only [List.mem_cons, List.mem_nil_iff, or_false] at hd17
          rcases hd17 with rfl | rfl | rfl | rfl | rfl | rfl | rfl | rfl
          · exact Lf.non
          · exact Lf.bl _
          · exact Lf.str (by decide +kernel)
          · exact Lf.lst (by rw [newOf_new mo1]; exact h1)
          · exact Lf.tup0
          · exact Lf.bl _
          · exact Lf.str (by decide +kernel)
          · exact Lf.dct (by rw [newOf_new mo2]; exact h2)
        have ho1k := hk12.ne ho1
        have ho2k := (hk12.gro g13).ne ho2
        have h1_17 := g17 o1 _ ho1k (g15 _ _ (g14 _ _ up3_same))
        have h2_17 := g17 o2 _ ho2k (g15 _ _ up3_same)
        have hM17 := g17 r _ hrk (gg _ _ hM12)
        have g17' : GroBut k M M17 := fun b o hb h => g17 b o hb (gg _ _ (g12' b o hb h))
        have fresh17 : ∀ {M' : Hp3} {b : Addr}, Gro M17 M' → M' b = none → M b = none := fun g' hb => fresh_but g17' hk17 (g'.fresh hb)
        refine ⟨szd (show 2 ≤ 1000 by decide), rows_plus hM17 hn.nd (by have := hn.len; omega) fun M18 e18 g18 he18 hM18 => ?_⟩
        refine ⟨_, rfl, 1, rfl, _, g18 _ _ hM17, fun e19 he19 => ?_⟩
        have ep : partD (prT (mkD P fun p => .int (f p)).kv) (some 1) none = prT (mkD (P.drop 1) fun p => .int (f p)).kv := by
          have e0 : prT (mkD (P.drop 1) fun p => .int (f p)).kv = (prT (mkD P fun p => .int (f p)).kv).drop 1 := by
            unfold prT mkD PD.kv
            rw [List.map_drop, List.map_drop, List.map_drop]
          rw [e0]
          generalize prT (mkD P fun p => .int (f p)).kv = l
          unfold partD
          have h1 : HT.sIx l.length l.length none = l.length := rfl
          have h2 : HT.sIx l.length 0 (some 1) = min 1 l.length := by
            unfold HT.sIx
            simp
          rw [h1, h2]
          cases l with
          | nil => rfl
          | cons x xs =>
            have h3 : min 1 (x :: xs).length = 1 := by rw [List.length_cons]; omega
            rw [h3]
            exact List.take_of_length_le (by simp)
        rw [ep]
        have g19 := Gro.new (o := .lst (prT (mkD (P.drop 1) fun p => .int (f p)).kv)) he19
        have ndd : (P.drop 1).Nodup := (List.drop_sublist 1 P).nodup hn.nd
        refine dict_of up3_same ndd fun e20 he20 => ?_
        have g20 := Gro.new (o := .dct (mkD (P.drop 1) fun p => .int (f p)).kv) he20
        refine ⟨_, rfl, szd (show 0 ≤ 1000 by decide), fun _ h => (by cases h), by decide, fun e21 he21 => ⟨szd (show 8 ≤ 1000 by decide), fun e22 he22 => ⟨_, rfl, _, rfl, _, rfl, szd (show 2 ≤ 1000 by decide), ?_⟩⟩⟩
        have g21 := Gro.new (o := .dct []) he21
        have g22 := Gro.new (o := .lst [D.ref e18, .ref e20, .ref r, .non, .tup [], .ref e21, .int 0, .str "numbers"]) he22
        have g1722 := g18.trans (g19.trans (g20.trans (g21.trans g22)))
        refine rows_plus (p := .s "zz") (g1722 _ _ hM17) hn.nd (by have := hn.len; omega) fun M23 e23 g23 he23 hM23 => ?_
        refine ⟨_, rfl, szd (show 3 ≤ 1000 by decide), szd (show 2 ≤ 1000 by decide), ?_⟩
        refine rows_plus (p := .t "a" "i" 5) (g23 _ _ (g1722 _ _ hM17)) hn.nd (by have := hn.len; omega) fun M24 e24 g24 he24 hM24 => ?_
        refine ⟨_, rfl, szd (show 2 ≤ 1000 by decide), ?_⟩
        refine rows_plus (p := .s "") (g24 _ _ (g23 _ _ (g1722 _ _ hM17))) hn.nd (by have := hn.len; omega) fun M25 e25 g25 he25 hM25 => ?_
        refine ⟨szd (show 3 ≤ 1000 by decide), fun e26 he26 => ?_⟩
        have g26 := Gro.new (o := .lst [D.ref e23, .ref e24, .ref e25]) he26
        have h22 := g26 _ _ (g25 _ _ (g24 _ _ (g23 _ _ (show _ = some (MO.lst [D.ref e18, .ref e20, .ref r, .non, .tup [], .ref e21, .int 0, .str "numbers"]) from up3_same))))
        refine ⟨_, _, h22, up3_same, szd (show 11 ≤ 1000 by decide), fun e27 he27 => ?_⟩
        have g27 := Gro.new (o := .lst ([D.ref e18, .ref e20, .ref r, .non, .tup [], .ref e21, .int 0, .str "numbers"] ++ [D.ref e23, .ref e24, .ref e25])) he27
        have g2526 := g26.trans g27
        have gAll := g1722.trans (g23.trans (g24.trans (g25.trans g2526)))
        refine ⟨_, rfl, _, rfl, _, rfl, k, e27, _, _, rfl, hk17.gro gAll, up3_same, by show 0 < 11; decide, by show 11 ≤ 10000; decide, (hk17.gro (g1722.trans (g23.trans (g24.trans (g25.trans g26))))).ne he27, by omega, fun d28 M28 hd28 g28 hk28 => ?_⟩
        -- all things are still there at the end
        have last : ∀ {Mi : Hp3} {b : Addr} {u : MO}, Gro M17 Mi → M b = none → Gro Mi (up3 (up3 M25 e26 (.lst [D.ref e23, .ref e24, .ref e25])) e27 (.lst ([D.ref e18, .ref e20, .ref r, .non, .tup [], .ref e21, .int 0, .str "numbers"] ++ [D.ref e23, .ref e24, .ref e25]))) → Mi b = some u → NewOf N M M28 b = some u := fun {Mi b u} gi hb gl h => by
          rw [newOf_new hb]
          refine g28 b u (fun z => ?_) (gl _ _ h)
          obtain ⟨x0, s0, c0, hk0, _⟩ := hk
          rw [z, hk0] at hb
          cases hb
        refine q d28 M28 (fun b o hb h => g28 b o hb (gAll _ _ (g17' b o hb h))) (hk28.mono (by omega)) ?_
        have l0 : P.length ≤ 100 := by have := hn.len; omega
        have val17 := e17 M28 (g28 o1 _ ho1k (gAll _ _ h1_17)) (g28 o2 _ ho2k (gAll _ _ h2_17))
        have hd28 : d28 = .ref e18 ∨ d28 = .ref e20 ∨ d28 = .ref r ∨ d28 = .non ∨ d28 = .tup [] ∨ d28 = .ref e21 ∨ d28 = .int 0 ∨ d28 = .str "numbers" ∨ d28 = .ref e23 ∨ d28 = .ref e24 ∨ d28 = .ref e25 := by simpa using hd28
        rcases hd28 with rfl | rfl | rfl | rfl | rfl | rfl | rfl | rfl | rfl | rfl | rfl
        · exact valF_dct (last g18 (fresh17 (Gro.refl _) he18) ((g19.trans (g20.trans (g21.trans g22))).trans (g23.trans (g24.trans (g25.trans g2526)))) hM18) (addLen _) (addGood p11 hg11) (addLf p11 _ val17)
        · exact valF_dct (last (g18.trans (g19.trans g20)) (fresh17 (g18.trans g19) he20) ((g21.trans g22).trans (g23.trans (g24.trans (g25.trans g2526)))) up3_same) (by rw [List.length_drop]; omega) (fun p hp => hn.key p (List.mem_of_mem_drop hp)) fun x _ => Lf.int (hfin x).1 (hfin x).2
        · exact valF_rows (last (Gro.refl _) hr0 gAll hM17) l0 hn.key hfin
        · exact valF_of .non (fun a h => by cases h) .non Sm.non (by decide) (by decide)
        · exact valF_of (.tup fun d h => by cases h) (fun a h => by cases h) (.tup .nil) (Sm.tuple (n := 70) (d := 0) (m := 0) (fun p hp => (by cases hp)) (by simp) (Nat.le_refl _) (Nat.le_refl _)) (by decide) (by decide)
        · exact valF_dct (P := []) (f := fun _ => .non) (last (g18.trans (g19.trans (g20.trans g21))) (fresh17 (g18.trans (g19.trans g20)) he21) (g22.trans (g23.trans (g24.trans (g25.trans g2526)))) up3_same) (by show 0 ≤ 100; decide) (fun p hp => by cases hp) fun p hp => by cases hp
        · exact valF_of (.int 0) (fun a h => by cases h) (.int 0) (Sm.int (by decide) (by decide)) (by decide) (by decide)
        · exact valF_of (.str (by decide +kernel) (by decide +kernel)) (fun a h => by cases h) (.str _) (Sm.str (by decide +kernel)) (by decide) (by decide)
        · exact valF_dct (last (g1722.trans g23) (fresh17 g1722 he23) (g24.trans (g25.trans g2526)) hM23) (addLen _) (addGood _ ⟨by decide +kernel, by decide +kernel⟩) (addLf _ _ (Lf.int (by decide) (by decide)))
        · exact valF_dct (last (g1722.trans (g23.trans g24)) (fresh17 (g1722.trans g23) he24) (g25.trans g2526) hM24) (addLen _) (addGood _ ⟨by decide +kernel, by decide +kernel⟩) (addLf _ _ (Lf.int (by decide) (by decide)))
        · exact valF_dct (last (g1722.trans (g23.trans (g24.trans g25))) (fresh17 (g1722.trans (g23.trans g24)) he25) g2526 hM25) (addLen _) (addGood _ ⟨by decide +kernel, by decide +kernel⟩) (addLf _ _ (Lf.bl _))
end L3

set_option Elab.async false
set_option linter.all false
set_option maxRecDepth 100000
set_option maxHeartbeats 4000000
/-! E20: _law_drawn_walk. -/
namespace L3
open PySem PySem.Spec PyProof.Rows L2

/-- a tuple of small ints -/
def IntT (v : D) : Prop := ∃ is : List Int, v = .tup (is.map D.int) ∧ is.length ≤ 100 ∧ ∀ i ∈ is, -1000 ≤ i ∧ i ≤ 1000
abbrev sp_walk : Sp3 := fun ds M Q => ∃ (k : Addr) (B : Int) (rows : List Row), ds = [.ref k, .tup (rows.map Row.d)] ∧ KegAt M k B ∧ RowsG rows ∧ B + 200 ≤ 10 ^ 9 ∧
  ∀ (v : D) (M' : Hp3), GroBut k M M' → KegAt M' k (B + 200) → IntT v → Q v M'
theorem shaped_rowsT {rs : List Row} (h : ∀ r ∈ rs, r.ok = true) : SeqAt.shaped (.tuple (rs.map Row.py)) = true := by
  have := shaped_rows h
  simpa [SeqAt.shaped, PyData.canLay0, PyData.depth] using this
theorem isEmpty_false {α : Type} {l : List α} (h : l.isEmpty = false) : 0 < l.length := by
  cases l with
  | nil => cases h
  | cons x l => exact Nat.succ_pos _
theorem drawn_walk_spec (Γ : Nat → Sp3) (h19 : Γ 19 = sp_tap) (h23 : Γ 23 = sp_choice) (ds : List D) (M : Hp3) (Q : VK3) (h : sp_walk ds M Q) : WSs C23 Γ I_law_drawn_walk { nx := fun _ M' => Q .non M', rt := Q } (start3 N_law_drawn_walk ds) M := by
  obtain ⟨k, B, rows, rfl, hk, hr, hB, q⟩ := h
  simp only [I_law_drawn_walk, WSs, WS, WE, WX, mkT, WA, WP, WT, WI, WO, h19, h23, N_law_drawn_walk, start3, List.map_cons, List.map_nil, List.length_cons, List.length_nil, List.replicate, List.append_nil]
  have hrd := DataAts.map (M := M) Row.data rows
  refine ⟨_, rfl, szd (show 0 ≤ 1000 by decide), _, ⟨_, _, .tup hrd, .tup .nil, shaped_rowsT hr.ok, shaped_nil_t, rfl⟩, _, rfl, ?_⟩
  have ee : PyData.eqv (.tuple (rows.map Row.py)) (.tuple []) = rows.isEmpty := by
    rw [← List.isEmpty_map (f := Row.d) (l := rows), ← hrd.empty]
    simp [PyData.eqv]
  rw [ee]
  cases hne : rows.isEmpty with
  | true =>
    rw [if_pos rfl]
    exact ⟨szd (show 0 ≤ 1000 by decide), q _ M (fun _ _ _ h => h) (hk.mono (by omega)) ⟨[], rfl, by decide, fun i h => by cases h⟩⟩
  | false =>
    rw [if_neg Bool.false_ne_true]
    have hpos := isEmpty_false hne
    have hrl := hr.len
    refine ⟨_, rfl, _, rfl, _, _, rfl, rfl, k, _, B, rfl, hk, by rw [List.length_map]; omega, by rw [List.length_map]; omega, by omega, fun r0 M1 r00 r01 g1 hk1 => ?_⟩
    rw [List.length_map] at r01
    refine ⟨szd (show 1 ≤ 1000 by decide), fun f hf => ⟨_, rfl, ?_⟩⟩
    have gf := Gro.new (o := .lst [D.int r0]) hf
    have fk := hk1.ne hf
    refine ⟨_, rfl, k, 6, _, rfl, hk1.gro gf, by decide, by decide, by omega, fun n M2 n0 n1 g2 hk2 => ?_⟩
    refine ⟨_, rfl, by omega, by omega, ?_⟩
    have g02 : GroBut k M M2 := fun b o hb h => g2 b o hb (gf _ _ (g1 b o hb h))
    have hlen : ((List.range n.toNat).map fun (i : Nat) => D.int (i : Int)).length = n.toNat := by rw [List.length_map, List.length_range]
    refine loopW_inv0 (J := fun i σ M' => ∃ (f : Addr) (x1 x2 : Option D) (ns : List Nat), σ = [some (.ref k), some (.tup (rows.map Row.d)), some (.ref f), x1, x2, none] ∧ f ≠ k ∧ M' f = some (.lst (ns.map fun (i : Nat) => D.int (i : Int))) ∧ i ≤ n.toNat ∧ 0 < ns.length ∧ ns.length ≤ i + 1 ∧ (∀ j ∈ ns, j < rows.length) ∧ GroBut k M M' ∧ KegAt M' k (B + 2 + i)) (fun i x σ M' hx hJ => ?_) (fun σ M' hJ => ?_) ⟨f, none, none, [r0.toNat], rfl, fk, ?_, Nat.zero_le _, by show 0 < 1; decide, by show 1 ≤ 0 + 1; decide, fun j hj => by rw [List.mem_singleton.mp hj]; omega, g02, hk2.mono (by omega)⟩
    · obtain ⟨f, x1, x2, ns, rfl, fk, hM, hin, nl0, nl1, hj, g, hkJ⟩ := hJ
      have hlt : i < n.toNat := by
        have := (List.getElem?_eq_some_iff.mp hx).1
        have e2 : (Src.items (.rng n.toNat)).length = n.toNat := hlen
        omega
      refine ⟨trivial, _, rfl, fun nx hnx => ?_⟩
      refine ⟨_, rfl, _, _, rfl, rfl, _, rfl, by omega, by rw [List.length_map]; omega, fun e he => ?_⟩
      rw [List.length_map, Int.toNat_natCast]
      obtain ⟨j0, hj0⟩ := get_of_lt (l := ns) (i := ns.length - 1) (by omega)
      have hj0r := hj j0 (List.mem_of_getElem? hj0)
      obtain ⟨r', hr'⟩ := get_of_lt hj0r
      have hr'ok := hr.ok r' (List.mem_of_getElem? hr')
      simp only [Row.ok, Bool.and_eq_true] at hr'ok
      have hlast : itemAt (ns.map fun (i : Nat) => D.int (i : Int)) (-1) = some (.int (j0 : Int)) := by
        unfold itemAt atI ixN
        rw [List.length_map]
        have e1 : ¬ (0 : Int) ≤ -1 := by decide
        rw [if_neg e1]
        rw [if_pos (by omega)]
        show ((ns.map fun (i : Nat) => D.int (i : Int)))[(-1 + (ns.length : Int)).toNat]? = _
        rw [show (-1 + (ns.length : Int)).toNat = ns.length - 1 from by omega, List.getElem?_map, hj0]
        rfl
      let c : Nat → Bool := fun a => match rows[a]? with
        | some r => decide (r.a = r'.b)
        | none => false
      have fek : f ≠ e := fun z => by rw [z, he] at hM; cases hM
      refine lcW_pur (fun x => match x with
        | .int i => if c i.toNat = true then some (.int ((i.toNat : Nat) : Int)) else none
        | _ => none) he (fun _ _ => trivial) (by show ((List.range rows.length).map _).length ≤ _; rw [List.length_map, List.length_range]; exact szd (by omega)) (fun x hx M3 g3 => ?_) fun M3 g3 hM3 => ?_
      · obtain ⟨a, ha, rfl⟩ := List.mem_map.mp hx
        have hal := List.mem_range.mp ha
        obtain ⟨r, hra⟩ := get_of_lt hal
        have hrok := hr.ok r (List.mem_of_getElem? hra)
        simp only [Row.ok, Bool.and_eq_true] at hrok
        refine ⟨_, rfl, fun K kk => ?_, fun y hy M4 g4 K kk => ?_⟩
        · refine ⟨_, rfl, _, rfl, sub_rows hra ⟨_, rfl, ?_⟩⟩
          refine ⟨_, rfl, _, rfl, 1, rfl, sub_lst (.inl (g3 _ _ hM)) hlast (sub_rows hr' ⟨_, rfl, ?_⟩)⟩
          refine ⟨_, Pt.eqR hrok.1 hr'ok.2, _, rfl, kk _ _ ⟨?_, Gro.refl _⟩⟩
          have ec : c a = decide (r.a = r'.b) := by
            show (match rows[a]? with
              | some r => decide (r.a = r'.b)
              | none => false) = _
            rw [hra]
          show _ = (if c a = true then some (D.int (a : Int)) else none).isSome
          rw [ec]
          cases decide (r.a = r'.b) <;> rfl
        · have hy : (if c a = true then some (D.int (a : Int)) else none) = some y := hy
          refine ⟨_, rfl, kk _ _ ⟨?_, Gro.refl _⟩⟩
          split at hy
          · exact Option.some.inj hy
          · cases hy
      · have e1 : (Src.rng rows.length).items.filterMap (fun x => match x with
          | .int i => if c i.toNat = true then some (D.int ((i.toNat : Nat) : Int)) else none
          | _ => none) = (((List.range rows.length).filter c).map fun (i : Nat) => (i : Int)).map D.int := by
          show ((List.range rows.length).map fun (i : Nat) => D.int (i : Int)).filterMap _ = _
          rw [List.filterMap_map, List.map_map]
          exact filter_if (fun (i : Nat) => D.int (i : Int)) c (List.range rows.length)
        rw [e1] at hM3
        have hMf3 := g3 _ _ hM
        refine ⟨_, rfl, _, rfl, _, rfl, szd (show 0 ≤ 1000 by decide), fun u hu => ?_⟩
        have gu := Gro.new (o := .lst []) hu
        refine ⟨_, nil_eq (gu _ _ hM3) (DataAts.ints _) (shaped_ints _) up3_same, _, rfl, ?_⟩
        have gk3 : GroBut k M (up3 M3 u (.lst [])) := fun b o hb h => gu _ _ (g3 _ _ (g b o hb h))
        have hk3 := (hkJ.gro g3).gro gu
        have hMf4 := gu _ _ hMf3
        cases hemp : ((((List.range rows.length).filter c).map fun (i : Nat) => (i : Int)).map D.int).isEmpty with
        | false =>
          simp only [Bool.not_false, if_true]
          have hpos2 := isEmpty_false hemp
          have hle : ((((List.range rows.length).filter c).map fun (i : Nat) => (i : Int)).map D.int).length ≤ 10000 := by
            rw [List.length_map, List.length_map]
            have := List.length_filter_le c (List.range rows.length)
            rw [List.length_range] at this
            omega
          refine ⟨_, rfl, _, rfl, k, e, _, _, rfl, hk3, gu _ _ hM3, hpos2, hle, hkJ.ne he, by omega, fun d5 M5 hd5 g5 hk5 => ?_⟩
          have hd : ∃ a : Nat, d5 = .int (a : Int) ∧ a < rows.length := by
            rw [List.map_map] at hd5
            obtain ⟨a, ha, rfl⟩ := List.mem_map.mp hd5
            exact ⟨a, rfl, List.mem_range.mp (List.mem_filter.mp ha).1⟩
          obtain ⟨a, rfl, hal⟩ := hd
          refine ⟨szd (show 1 ≤ 1000 by decide), fun v hv => ?_⟩
          have gv := Gro.new (o := .lst [D.int (a : Int)]) hv
          have hMf5 := g5 f _ fk hMf4
          refine ⟨_, _, gv _ _ hMf5, up3_same, by rw [List.length_map]; exact szd (by show ns.length + 1 ≤ 1000; omega), fun z hz => ?_⟩
          have gz := Gro.new (o := .lst ((ns.map fun (i : Nat) => D.int (i : Int)) ++ [D.int (a : Int)])) hz
          refine ⟨_, rfl, hnx _ _ ⟨z, _, _, ns ++ [a], rfl, (hk5.gro gv).ne hz, ?_, hlt, by simp, by rw [List.length_append]; show ns.length + 1 ≤ _; omega, fun j hj' => ?_, fun b o hb h => gz _ _ (gv _ _ (g5 b o hb (gk3 b o hb h))), ((hk5.gro gv).gro gz).mono (by push_cast; omega)⟩⟩
          · rw [up3_same, List.map_append]
            rfl
          · rcases List.mem_append.mp hj' with h | h
            · exact hj j h
            · rw [List.mem_singleton.mp h]
              exact hal
        | true =>
          simp only [Bool.not_true, Bool.false_eq_true, if_false]
          refine ⟨szd (show 0 ≤ 1000 by decide), fun v hv => ?_⟩
          have gv := Gro.new (o := .lst []) hv
          refine ⟨_, _, gv _ _ hMf4, up3_same, by rw [List.length_map]; exact szd (by show ns.length + 0 ≤ 1000; omega), fun z hz => ?_⟩
          have gz := Gro.new (o := .lst ((ns.map fun (i : Nat) => D.int (i : Int)) ++ [])) hz
          refine ⟨_, rfl, hnx _ _ ⟨z, _, _, ns, rfl, (hk3.gro gv).ne hz, ?_, hlt, nl0, by omega, hj, fun b o hb h => gz _ _ (gv _ _ (gk3 b o hb h)), ((hk3.gro gv).gro gz).mono (by push_cast; omega)⟩⟩
          rw [up3_same, List.append_nil]
    · obtain ⟨f, x1, x2, ns, rfl, fk, hM, hin, nl0, nl1, hj, g, hkJ⟩ := hJ
      have e2 : (Src.items (.rng n.toNat)).length = n.toNat := hlen
      rw [e2] at hkJ nl1
      refine ⟨trivial, _, rfl, _, _, rfl, .inl ⟨f, rfl, .inl hM⟩, q _ M' g (hkJ.mono (by omega)) ⟨ns.map fun (i : Nat) => (i : Int), by rw [List.map_map]; rfl, by rw [List.length_map]; omega, fun i hi => ?_⟩⟩
      obtain ⟨j, hjn, rfl⟩ := List.mem_map.mp hi
      have := hj j hjn
      omega
    · have := g2 f _ fk (up3_same (o := .lst [D.int r0]))
      rw [this]
      show some (MO.lst [D.int r0]) = some (MO.lst [D.int ((r0.toNat : Nat) : Int)])
      rw [Int.toNat_of_nonneg r00]
end L3

set_option Elab.async false
set_option linter.all false
set_option maxRecDepth 100000
set_option maxHeartbeats 4000000
/-! E21: _law_near_ring. -/
namespace L3
open PySem PySem.Spec PyProof.Rows L2

/-- an item of a tuple under test -/
structure Lr (N : Hp3) (v : D) : Prop where
  t : Tame N v
  s : ∃ p, DataAt N v p ∧ p.canLay0 = true ∧ Sm 20000 2 p
theorem Lr.int {N : Hp3} {i : Int} (h0 : -(10 ^ 60) < i) (h1 : i < 10 ^ 60) : Lr N (.int i) := ⟨.int i, _, .int i, by simp [PyData.canLay0], (Sm.int h0 h1).mono (by decide) (by decide)⟩
theorem Lr.non {N : Hp3} : Lr N .non := ⟨.non, _, .non, by simp [PyData.canLay0], Sm.non.mono (by decide) (by decide)⟩
theorem Lr.bl {N : Hp3} (b : Bool) : Lr N (.bl b) := ⟨.bl b, _, .bl b, by simp [PyData.canLay0], (Sm.bl b).mono (by decide) (by decide)⟩
theorem Lr.str {N : Hp3} {x : Str} (h : okS x = true) : Lr N (.str x) := ⟨.str (okS_len h) (okS_ok h), _, .str x, by simp [PyData.canLay0, okS_ok h], (Sm.str h).mono (by decide) (by decide)⟩
theorem Lr.datas {N : Hp3} : ∀ {vs : List D}, (∀ d ∈ vs, Lr N d) → ∃ ps, DataAts N vs ps ∧ PyData.canLayAll0 ps = true ∧ (∀ p ∈ ps, Sm 20000 2 p) ∧ ps.length = vs.length
  | [], _ => ⟨[], .nil, by simp [PyData.canLayAll0], fun _ h => (by cases h), rfl⟩
  | d :: vs, h => by
    obtain ⟨ps, h1, h2, h3, h4⟩ := Lr.datas (vs := vs) fun x hx => h x (List.mem_cons_of_mem _ hx)
    obtain ⟨p, a, b, c⟩ := (h d List.mem_cons_self).s
    exact ⟨p :: ps, .cons a h1, by simp [PyData.canLayAll0, b, h2], fun x hx => (List.mem_cons.mp hx).elim (fun e => e ▸ c) (h3 x), by simp [h4]⟩
theorem Lr.tup {N : Hp3} {is : List Int} (hl : is.length ≤ 200) (hb : ∀ i ∈ is, -(10 ^ 20) ≤ i ∧ i ≤ 10 ^ 20) : Lr N (.tup (is.map D.int)) := by
  refine ⟨.tup fun d hd => ?_, .tuple (is.map .int), .tup (DataAts.ints is), by simp [PyData.canLay0, canLay_ints], ?_⟩
  · obtain ⟨i, _, rfl⟩ := List.mem_map.mp hd
    exact .int i
  · refine Sm.tuple (n := 70) (d := 0) (m := 200) (fun p hp => ?_) (by rw [List.length_map]; exact hl) (by decide) (by decide)
    obtain ⟨i, hi, rfl⟩ := List.mem_map.mp hp
    have := hb i hi
    exact Sm.int (by omega) (by omega)
structure ValR (N : Hp3) (v : D) : Prop where
  f : ∀ rows, ∃ b, RingR rows N v b
  s : Shows N v
theorem ValR.gro {N N' : Hp3} {v : D} (h : ValR N v) (g : Gro N N') : ValR N' v := ⟨fun rows => let ⟨b, hb⟩ := h.f rows; ⟨b, hb.gro g⟩, h.s.gro g⟩
theorem valR_tup {N : Hp3} {vs : List D} (hl : vs.length ≤ 400) (h : ∀ d ∈ vs, Lr N d) : ValR N (.tup vs) := by
  obtain ⟨ps, h1, h2, h3, h4⟩ := Lr.datas h
  obtain ⟨s1, s2, s3, s4⟩ := Sm.all h3
  refine ⟨fun rows => ⟨_, .inr ⟨vs, rfl, by omega, fun d hd => (h d hd).t, ⟨ps, h1, ?_⟩, rfl⟩⟩, Shows.of (.tup h1) (Sm.tuple h3 (m := 400) (by omega) (Nat.le_refl _) (Nat.le_refl _)) (by decide) (by decide)⟩
  simp [SeqAt.shaped, PyData.canLay0, PyData.depth, h2]
  omega
theorem valR_of {N : Hp3} {v : D} {p : PyData} {n d : Nat} (t : Tame N v) (nt : ∀ vs, v ≠ .tup vs) (h : DataAt N v p) (s : Sm n d p) (hn : n ≤ 16000000) (hd : d ≤ 100) : ValR N v := ⟨fun rows => ⟨false, .inl ⟨t, nt, rfl⟩⟩, Shows.of h s hn hd⟩
theorem valR_ints {N : Hp3} {is : List Int} (hl : is.length ≤ 400) (hb : ∀ i ∈ is, -(10 ^ 20) ≤ i ∧ i ≤ 10 ^ 20) : ValR N (.tup (is.map D.int)) := valR_tup (by rw [List.length_map]; exact hl) fun d hd => by
  obtain ⟨i, hi, rfl⟩ := List.mem_map.mp hd
  have := hb i hi
  exact Lr.int (by omega) (by omega)
theorem partD_map {α β : Type} (f : α → β) (l : List α) (lo hi : Option Int) : partD (l.map f) lo hi = (partD l lo hi).map f := by
  unfold partD
  rw [List.length_map, List.map_take, List.map_drop]
theorem partD_mem {α : Type} {l : List α} {lo hi : Option Int} {x : α} (h : x ∈ partD l lo hi) : x ∈ l := List.mem_of_mem_drop (List.mem_of_mem_take h)
theorem partD_len {α : Type} (l : List α) (lo hi : Option Int) : (partD l lo hi).length ≤ l.length := by
  unfold partD
  rw [List.length_take, List.length_drop]
  omega
theorem okS_of {s : String} (h : (Str.ofString s).length ≤ 1000) : okS (Str.ofString s) = true := by
  unfold okS
  rw [decide_eq_true h, Bool.true_and]
  unfold PyData.strOk
  rw [Array.all_eq_true_iff_forall_mem]
  intro c hc
  rw [Str.ofString_eq_toList] at hc
  have hc : c ∈ (s.toList.map fun x : Char => x.toNat) := by simpa using hc
  obtain ⟨x, _, rfl⟩ := List.mem_map.mp hc
  have hv := x.valid
  have : x.toNat < 0x110000 := by
    rcases hv with h | h
    · exact Nat.lt_trans h (by decide)
    · exact h.2
  exact decide_eq_true this
theorem okS_int {i : Int} (h0 : -(10 ^ 9) ≤ i) (h1 : i ≤ 10 ^ 9) : okS (Str.ofString (toString i)) = true := by
  refine okS_of ?_
  have := (Sm.int (i := i) (by omega) (by omega)).len
  simp only [PyData.shown] at this
  omega
def tailN : Nat → ISs → ISs
  | 0, s => s
  | n + 1, .cons _ r => tailN n r
  | _ + 1, .nil => .nil
def headN : Nat → ISs → ISs → ISs
  | 0, _, R => R
  | n + 1, .cons a r, R => .cons a (headN n r R)
  | _ + 1, .nil, _ => .nil
theorem headN_tailN : ∀ (n : Nat) (s : ISs), headN n s (tailN n s) = s
  | 0, _ => rfl
  | n + 1, .cons a r => congrArg (ISs.cons a) (headN_tailN n r)
  | _ + 1, .nil => rfl
theorem slc_lst {M : Hp3} {a : Addr} {l : List Int} {lo hi : Option Int} {K : VK3} (h : M a = some (.lst (l.map D.int))) (kk : ∀ p, M p = none → K (.ref p) (up3 M p (.lst ((partD l lo hi).map D.int)))) : slcD (.ref a) lo hi M K := by
  refine ⟨_, h, fun p hp => ?_⟩
  rw [partD_map]
  exact kk p hp
theorem add_lst {M : Hp3} {a b : Addr} {l m : List Int} {K : VK3} (ha : M a = some (.lst (l.map D.int))) (hb : M b = some (.lst (m.map D.int))) (hl : l.length + m.length ≤ 1000) (kk : ∀ p, M p = none → K (.ref p) (up3 M p (.lst ((l ++ m).map D.int)))) : binD .Add (.ref a) (.ref b) M K := by
  refine ⟨_, _, ha, hb, by rw [List.length_map, List.length_map]; exact szd hl, fun p hp => ?_⟩
  rw [← List.map_append]
  exact kk p hp
theorem tup_lst {M : Hp3} {a : Addr} {ds : List D} {K : VK3} (h : M a = some (.lst ds)) (kk : K (.tup ds) M) : biD .tuple [.ref a] M K := ⟨_, _, rfl, .inl ⟨a, rfl, .inl h⟩, kk⟩
theorem lc_ints {Γ : Nat → Sp3} {hold : Hp3 → Prop} {σ : St3} {p : Addr} {Q : VK3} {M0 : Hp3} {i : Nat} {elt : TE3} {L : List Int} (f : Int → D) (hp : M0 p = none) (hold_ : ∀ M, Gro M0 M → hold M) (hl : L.length ≤ 1000)
    (he : ∀ x ∈ L, ∀ M, Gro M0 M → Pur elt (σ.set i (some (.int x))) M (f x)) (fin : ∀ M, Gro M0 M → M p = some (.lst (L.map f)) → Q (.ref p) M) :
    lcW hold (.one i) (WC C23 Γ .no) elt σ p (L.map D.int) (up3 M0 p (.lst [])) Q := by
  refine lcW_pur (fun d => match d with
    | .int x => some (f x)
    | _ => none) hp hold_ (by rw [List.length_map]; exact szd hl) (fun x hx M1 g1 => ?_) fun M1 g1 hM1 => ?_
  · obtain ⟨q, hq, rfl⟩ := List.mem_map.mp hx
    refine ⟨_, rfl, evT_yes, fun y hy M2 g2 => ?_⟩
    cases hy
    exact he q hq M2 (g1.trans g2)
  · refine fin M1 g1 (by rw [hM1, List.filterMap_map]; exact congrArg (fun l => some (MO.lst l)) (by show L.filterMap (fun x => some (f x)) = _; rw [List.filterMap_eq_map']))
abbrev sp_near_ring : Sp3 := fun ds M Q => ∃ (k : Addr) (B : Int) (rows : List Row) (N : Hp3) (v : D), ds = [.ref k, .tup (rows.map Row.d), v] ∧ KegAt M k B ∧ RowsG rows ∧ Gro N M ∧ N k = none ∧ IntT v ∧ B + 200 ≤ 10 ^ 9 ∧
  ∀ (v : D) (M' : Hp3), GroBut k M M' → KegAt M' k (B + 200) → ValR (NewOf N M M') v → Q v M'
end L3

set_option Elab.async false
set_option linter.all false
set_option maxRecDepth 100000
set_option maxHeartbeats 1000000
/-! E21r: the last rows of _law_near_ring. -/
namespace L3
open PySem PySem.Spec PyProof.Rows L2

theorem near_ring_rest (Γ : Nat → Sp3) (h19 : Γ 19 = sp_tap) (h23 : Γ 23 = sp_choice) {k r : Addr} {B : Int} {rows : List Row} {N M M3 : Hp3} {is : List Int} {at_ w : Int} {Q : VK3} {x2 x3 x8 : Option D} (hr : RowsG rows) (gN : Gro N M) (hkN : N k = none) (isl : is.length ≤ 100) (isb : ∀ i ∈ is, -1000 ≤ i ∧ i ≤ 1000) (hk : KegAt M k B) (hB : B + 200 ≤ 10 ^ 9)
    (hr0 : M r = none) (hM3 : M3 r = some (.lst (is.map D.int))) (hk3 : KegAt M3 k (B + 1 + 1)) (g03 : GroBut k M M3) (q : ∀ (v : D) (M' : Hp3), GroBut k M M' → KegAt M' k (B + 200) → ValR (NewOf N M M') v → Q v M') :
    WSs C23 Γ (tailN 7 I_law_near_ring) { nx := fun _ M' => Q .non M', rt := Q } [some (.ref k), x2, x3, none, some (.ref r), some (.int (rows.length : Int)), some (.int at_), some (.int w), x8] M3 := by
  simp only [I_law_near_ring, tailN, WSs, WS, WE, WX, mkT, WA, WP, WT, WI, WO, h19, h23]
  refine ⟨_, rfl, szd (show 0 ≤ 1000 by decide), fun _ h => (by cases h), by decide, fun o ho => ?_⟩
  have go := Gro.new (o := .dct (putsD [] [])) ho
  have hrl := hr.len
  have lst1 : ∀ {M' : Hp3} {n : Int}, M' r = some (.lst (is.map D.int)) → ∀ {K : VK3}, (∀ M4, Gro M' M4 → K (.tup ((is ++ [n]).map D.int)) M4) → [D.int n].length ≤ sizeLine ∧ ∀ y, M' y = none → binD .Add (.ref r) (.ref y) (up3 M' y (.lst [.int n])) fun d M1 => biD .tuple [d] M1 K := fun {M' n} hM {K} kk => by
    refine ⟨szd (show 1 ≤ 1000 by decide), fun y hy => ?_⟩
    have gy := Gro.new (o := .lst [D.int n]) hy
    refine add_lst (m := [n]) (gy _ _ hM) up3_same (by show _ + 1 ≤ 1000; omega) fun z hz => ?_
    exact tup_lst up3_same (kk _ (gy.trans (Gro.new hz)))
  refine ⟨_, rfl, _, rfl, lst1 (go _ _ hM3) fun M4 g4 => ?_⟩
  refine ⟨_, rfl, 1, rfl, lst1 (g4 _ _ (go _ _ hM3)) fun M5 g5 => ?_⟩
  have g35 := go.trans (g4.trans g5)
  refine ⟨_, rfl, .inl ⟨_, g35 _ _ hM3, fun e he => ?_⟩⟩
  refine lc_ints (fun x => .int (x - rows.length)) he (fun M' g' => g' _ _ (g35 _ _ hM3)) (by omega) (fun x hx M' g' K kk => ⟨_, rfl, _, rfl, kk _ _ ⟨rfl, Gro.refl _⟩⟩) fun M6 g6 hM6 => ?_
  refine tup_lst hM6 ⟨szd (show 9 ≤ 1000 by decide), fun e1 he1 => ⟨_, rfl, ?_⟩⟩
  have g7 := Gro.new (o := .lst [D.ref r, .non, .tup [], .ref o, .int 0, .str "ring", .tup ((is ++ [(rows.length : Int)]).map D.int), .tup ((is ++ [-1]).map D.int), .tup (is.map fun x => .int (x - rows.length))]) he1
  refine ⟨_, rfl, _, rfl, .inl ⟨_, g7 _ _ (g6 _ _ (g35 _ _ hM3)), fun f hf => ?_⟩⟩
  refine lc_ints (fun x => if x < 2 then .bl (x != 0) else .int x) hf (fun M' g' => g' _ _ (g7 _ _ (g6 _ _ (g35 _ _ hM3)))) (by omega) (fun x hx M' g' K kk => ?_) fun M8 g8 hM8 => ?_
  · refine ⟨_, rfl, ?_⟩
    show ∃ r_2, some (decide (x < 2)) = some r_2 ∧ _
    refine ⟨_, rfl, ?_⟩
    by_cases c : x < 2
    · rw [if_pos (decide_eq_true c)]
      exact ⟨_, rfl, x, rfl, kk _ _ ⟨by rw [if_pos c], Gro.refl _⟩⟩
    · rw [if_neg (by rw [decide_eq_true_eq]; exact c)]
      exact ⟨_, rfl, kk _ _ ⟨by rw [if_neg c], Gro.refl _⟩⟩
  refine tup_lst hM8 ?_
  have h8r := g8 _ _ (g7 _ _ (g6 _ _ (g35 _ _ hM3)))
  refine ⟨_, rfl, .inl ⟨_, h8r, fun t ht => ?_⟩⟩
  refine lc_ints (fun x => .str (Str.ofString (toString x))) ht (fun M' g' => g' _ _ h8r) (by omega) (fun x hx M' g' K kk => ⟨_, rfl, x, rfl, ?_, kk _ _ ⟨rfl, Gro.refl _⟩⟩) fun M9 g9 hM9 => ?_
  · have := isb x hx
    rcases Nat.eq_zero_or_pos x.natAbs with z | z
    · rw [z]
      decide
    · rw [Nat.log2_lt (by omega)]
      have h2 : (10 : Nat) ^ 4 < 2 ^ 1920 := by decide +kernel
      omega
  refine tup_lst hM9 ⟨szd (show 2 ≤ 1000 by decide), fun u hu => ?_⟩
  have gu := Gro.new (o := .lst [D.tup (is.map fun x => if x < 2 then .bl (x != 0) else .int x), .tup (is.map fun x => .str (Str.ofString (toString x)))]) hu
  have h9e := gu _ _ (g9 _ _ (g8 _ _ (show _ = some (MO.lst [D.ref r, .non, .tup [], .ref o, .int 0, .str "ring", .tup ((is ++ [(rows.length : Int)]).map D.int), .tup ((is ++ [-1]).map D.int), .tup (is.map fun x => .int (x - rows.length))]) from up3_same)))
  refine ⟨_, _, h9e, up3_same, szd (show 11 ≤ 1000 by decide), fun v hv => ⟨_, rfl, ?_⟩⟩
  have gv := Gro.new (o := .lst ([D.ref r, .non, .tup [], .ref o, .int 0, .str "ring", .tup ((is ++ [(rows.length : Int)]).map D.int), .tup ((is ++ [-1]).map D.int), .tup (is.map fun x => .int (x - rows.length))] ++ [D.tup (is.map fun x => if x < 2 then .bl (x != 0) else .int x), .tup (is.map fun x => .str (Str.ofString (toString x)))])) hv
  have h10r := gv _ _ (gu _ _ (g9 _ _ h8r))
  refine ⟨_, rfl, ⟨v, _, rfl, up3_same⟩, _, rfl, tup_lst h10r ⟨szd (show 1 ≤ 1000 by decide), ?_⟩⟩
  have g310 := g35.trans (g6.trans (g7.trans (g8.trans (g9.trans gu))))
  have hv3 : ∀ {b : Addr}, M3 b ≠ none → b ≠ v := fun hb z => hb (by rw [z]; exact g310.fresh hv)
  refine ⟨v, _, _, rfl, rfl, up3_same, szd (show 12 ≤ 1000 by decide), ?_⟩
  generalize hL : [D.ref r, .non, .tup [], .ref o, .int 0, .str "ring", .tup ((is ++ [(rows.length : Int)]).map D.int), .tup ((is ++ [-1]).map D.int), .tup (is.map fun x => .int (x - rows.length))] ++ [D.tup (is.map fun x => if x < 2 then .bl (x != 0) else .int x), .tup (is.map fun x => .str (Str.ofString (toString x)))] = L at gv h10r ⊢
  generalize hM10 : up3 (up3 (up3 M9 u (.lst [D.tup (is.map fun x => if x < 2 then .bl (x != 0) else .int x), .tup (is.map fun x => .str (Str.ofString (toString x)))])) v (.lst L)) v (.lst (L ++ [.tup [.tup (is.map D.int)]])) = M10
  have gE : Gro M3 M10 := fun b ob hb => by
    rw [← hM10, up3_ne (hv3 (by rw [hb]; simp))]
    exact gv _ _ (g310 _ _ hb)
  have hv10 : M10 v = some (.lst (L ++ [.tup [.tup (is.map D.int)]])) := by rw [← hM10]; exact up3_same
  have ho10 : M10 o = some (.dct []) := by
    have ov : o ≠ v := fun z => by
      have h1 := gu _ _ (g9 _ _ (g8 _ _ (g7 _ _ (g6 _ _ (g5 _ _ (g4 _ _ (show up3 M3 o (MO.dct (putsD [] [])) o = some (MO.dct []) from up3_same)))))))
      rw [z, hv] at h1
      cases h1
    rw [← hM10, up3_ne ov]
    exact gv _ _ (gu _ _ (g9 _ _ (g8 _ _ (g7 _ _ (g6 _ _ (g5 _ _ (g4 _ _ up3_same)))))))
  have hr10 := gE _ _ hM3
  refine ⟨_, rfl, _, rfl, _, rfl, szd (show 1 ≤ 1000 by decide), fun a1 ha1 => ?_⟩
  have ga1 := Gro.new (o := .lst [D.non]) ha1
  refine ⟨_, _, ga1 _ _ hr10, up3_same, by rw [List.length_map]; exact szd (by show is.length + 1 ≤ 1000; omega), fun a2 ha2 => ?_⟩
  have ga2 := Gro.new (o := .lst (is.map D.int ++ [D.non])) ha2
  refine tup_lst up3_same ⟨_, rfl, tup_lst (ga2 _ _ (ga1 _ _ hr10)) ⟨by decide, by decide, by rw [List.length_map]; omega, szd (show 2 ≤ 1000 by decide), fun a3 ha3 => ?_⟩⟩
  have ga3 := Gro.new (o := .lst [D.tup (is.map D.int ++ [D.non]), .tup (List.replicate (3 : Int).toNat (is.map D.int)).flatten]) ha3
  have lenL : L.length = 11 := by rw [← hL]; rfl
  refine ⟨_, _, ga3 _ _ (ga2 _ _ (ga1 _ _ hv10)), up3_same, by rw [List.length_append, lenL]; exact szd (show 11 + 1 + 2 ≤ 1000 by decide), fun a4 ha4 => ?_⟩
  have g14 := ga1.trans (ga2.trans (ga3.trans (Gro.new (o := .lst ((L ++ [.tup [.tup (is.map D.int)]]) ++ [D.tup (is.map D.int ++ [D.non]), .tup (List.replicate (3 : Int).toNat (is.map D.int)).flatten])) ha4)))
  refine ⟨k, a4, _, _, rfl, (hk3.gro (gE.trans g14)), up3_same, by rw [List.length_append, List.length_append, lenL]; show 0 < 14; decide, by rw [List.length_append, List.length_append, lenL]; show 14 ≤ 10000; decide, ((hk3.gro (gE.trans (ga1.trans (ga2.trans ga3)))).ne ha4), by omega, fun d M' hd g' hk' => ?_⟩
  have gb : GroBut k M M' := fun b ob hb h => g' _ _ hb ((gE.trans g14) _ _ (g03 _ _ hb h))
  refine q d M' gb (hk'.mono (by omega)) ?_
  have hrk := hk.ne hr0
  have hok := hk3.ne ho
  have ho0 : M o = none := fresh_but g03 hk3 ho
  have nr : NewOf N M M' r = some (.lst (is.map D.int)) := by rw [newOf_new hr0]; exact g' _ _ hrk (g14 _ _ hr10)
  have no : NewOf N M M' o = some (.dct []) := by rw [newOf_new ho0]; exact g' _ _ hok (g14 _ _ ho10)
  have bi : ∀ i ∈ is, -(10 ^ 20) ≤ i ∧ i ≤ 10 ^ 20 := fun i hi => by have := isb i hi; omega
  have b1 : ∀ {n : Int}, -1000 ≤ n → n ≤ 1000 → ∀ i ∈ is ++ [n], -(10 ^ 20) ≤ i ∧ i ≤ 10 ^ 20 := fun h0 h1 i hi => by
    rcases List.mem_append.mp hi with h | h
    · exact bi i h
    · rw [List.mem_singleton.mp h]
      omega
  have l1 : ∀ n : Int, (is ++ [n]).length ≤ 400 := fun n => by rw [List.length_append]; show _ + 1 ≤ _; omega
  have lm : ∀ f : Int → D, (is.map f).length ≤ 400 := fun f => by rw [List.length_map]; omega
  rw [← hL] at hd
  simp only [List.mem_append, List.mem_cons, List.mem_nil_iff, or_false, or_assoc] at hd
  rcases hd with rfl | rfl | rfl | rfl | rfl | rfl | rfl | rfl | rfl | rfl | rfl | rfl | rfl | rfl
  · exact valR_of (.ref nr) (fun vs h => by cases h) (.lst nr (DataAts.ints is)) (Sm.list (n := 70) (d := 0) (m := 400) (fun p hp => by
      obtain ⟨i, hi, rfl⟩ := List.mem_map.mp hp
      have := isb i hi
      exact Sm.int (by omega) (by omega)) (by rw [List.length_map]; omega) (Nat.le_refl _) (Nat.le_refl _)) (by decide) (by decide)
  · exact valR_of .non (fun vs h => by cases h) .non Sm.non (by decide) (by decide)
  · exact valR_tup (by show 0 ≤ 400; decide) fun d h => by cases h
  · exact valR_of (.ref no) (fun vs h => by cases h) (.dct no .nil .nil) (Sm.dict (qs := []) (n := 70) (d := 0) (m := 0) (fun p hp => (by cases hp)) (by simp) (Nat.le_refl _) (Nat.le_refl _)) (by decide) (by decide)
  · exact valR_of (.int 0) (fun vs h => by cases h) (.int 0) (Sm.int (by decide) (by decide)) (by decide) (by decide)
  · exact valR_of (.str (by decide +kernel) (by decide +kernel)) (fun vs h => by cases h) (.str _) (Sm.str (by decide +kernel)) (by decide) (by decide)
  · exact valR_ints (l1 _) (b1 (by omega) (by omega))
  · exact valR_ints (l1 _) (b1 (by decide) (by decide))
  · exact valR_tup (lm _) fun d h => by
      obtain ⟨i, hi, rfl⟩ := List.mem_map.mp h
      have := isb i hi
      exact Lr.int (by omega) (by omega)
  · exact valR_tup (lm _) fun d h => by
      obtain ⟨i, hi, rfl⟩ := List.mem_map.mp h
      have := isb i hi
      split
      · exact Lr.bl _
      · exact Lr.int (by omega) (by omega)
  · exact valR_tup (lm _) fun d h => by
      obtain ⟨i, hi, rfl⟩ := List.mem_map.mp h
      have := isb i hi
      exact Lr.str (okS_int (by omega) (by omega))
  · exact valR_tup (by show 1 ≤ 400; decide) fun d h => by
      rw [List.mem_singleton.mp h]
      exact Lr.tup (by omega) bi
  · refine valR_tup (by rw [List.length_append, List.length_map]; show _ + 1 ≤ _; omega) fun d h => ?_
    rcases List.mem_append.mp h with h | h
    · obtain ⟨i, hi, rfl⟩ := List.mem_map.mp h
      have := isb i hi
      exact Lr.int (by omega) (by omega)
    · rw [List.mem_singleton.mp h]
      exact Lr.non
  · have e3 : (List.replicate (3 : Int).toNat (is.map D.int)).flatten = is.map D.int ++ (is.map D.int ++ (is.map D.int ++ [])) := rfl
    rw [e3]
    refine valR_tup (by rw [List.length_append, List.length_append, List.length_append, List.length_map]; show is.length + (is.length + (is.length + 0)) ≤ _; omega) fun d h => ?_
    have h : d ∈ is.map D.int := by
      rcases List.mem_append.mp h with h | h
      · exact h
      rcases List.mem_append.mp h with h | h
      · exact h
      rcases List.mem_append.mp h with h | h
      · exact h
      · cases h
    obtain ⟨i, hi, rfl⟩ := List.mem_map.mp h
    have := isb i hi
    exact Lr.int (by omega) (by omega)
end L3

set_option Elab.async false
set_option linter.all false
set_option maxRecDepth 100000
set_option maxHeartbeats 1000000
/-! E21m: _law_near_ring. -/
namespace L3
open PySem PySem.Spec PyProof.Rows L2
theorem near_ring_spec (Γ : Nat → Sp3) (h19 : Γ 19 = sp_tap) (h23 : Γ 23 = sp_choice) (ds : List D) (M : Hp3) (Q : VK3) (h : sp_near_ring ds M Q) : WSs C23 Γ I_law_near_ring { nx := fun _ M' => Q .non M', rt := Q } (start3 N_law_near_ring ds) M := by
  obtain ⟨k, B, rows, N, v, rfl, hk, hr, gN, hkN, ⟨is, rfl, isl, isb⟩, hB, q⟩ := h
  have hR := fun (r : Addr) (M3 : Hp3) (x2 x3 x8 : Option D) (at_ w : Int) (hr0 : M r = none) hM3 hk3 g03 => near_ring_rest Γ h19 h23 (x2 := x2) (x3 := x3) (x8 := x8) (at_ := at_) (w := w) hr gN hkN isl isb hk hB (r := r) (M3 := M3) hr0 hM3 hk3 g03 q
  rw [← headN_tailN 7 I_law_near_ring]
  generalize tailN 7 I_law_near_ring = R at hR ⊢
  simp only [I_law_near_ring, headN, WSs, WS, WE, WX, mkT, WA, WP, WT, WI, WO, h19, h23, N_law_near_ring, start3, List.map_cons, List.map_nil, List.length_cons, List.length_nil, List.replicate, List.append_nil]
  refine ⟨_, rfl, _, is.map D.int, rfl, .inr rfl, fun r hr0 => ?_⟩
  have g1 := Gro.new (o := .lst (is.map D.int)) hr0
  have hrk := hk.ne hr0
  have hrl := hr.len
  refine ⟨_, rfl, _, _, rfl, rfl, szd (show 2 ≤ 1000 by decide), _, rfl, ?_⟩
  refine ⟨_, rfl, _, rfl, _, is.length, rfl, by simp [lenD, up3_same], ?_⟩
  refine ⟨k, _, B, rfl, hk.gro g1, by omega, by omega, by omega, fun at_ M2 a0 a1 g2 hk2 => ?_⟩
  refine ⟨_, rfl, k, 9, _, rfl, hk2, by decide, by decide, by omega, fun w M3 w0 w1 g3 hk3 => ?_⟩
  refine ⟨szd (show 2 ≤ 1000 by decide), _, rfl, ?_⟩
  have hM3 : M3 r = some (.lst (is.map D.int)) := g3 r _ hrk (g2 r _ hrk up3_same)
  have g03 : GroBut k M M3 := fun b o hb h => g3 b o hb (g2 b o hb (g1 b o h))
  clear hk2 g2 g3
  have lenr : ((rows.map Row.d).length : Int) = rows.length := by rw [List.length_map]
  have fin : ∀ (L : List Int) (M' : Hp3), Gro M3 M' → L.length ≤ 400 → (∀ i ∈ L, -1000 ≤ i ∧ i ≤ 1000) → Q (.tup (L.map D.int)) M' := fun L M' g h1 h2 => q _ M' (fun b o hb h => g _ _ (g03 b o hb h)) ((hk3.gro g).mono (by omega)) (valR_ints h1 fun i hi => by have := h2 i hi; omega)
  have pb : ∀ {lo hi : Option Int}, ∀ i ∈ partD is lo hi, -1000 ≤ i ∧ i ≤ 1000 := fun i hi => isb i (partD_mem hi)
  have apb : ∀ {L L' : List Int}, (∀ i ∈ L, -1000 ≤ i ∧ i ≤ 1000) → (∀ i ∈ L', -1000 ≤ i ∧ i ≤ 1000) → ∀ i ∈ L ++ L', -1000 ≤ i ∧ i ≤ 1000 := fun h1 h2 i hi => (List.mem_append.mp hi).elim (h1 i) (h2 i)
  refine ⟨_, rfl, _, int_eq _ _ _, _, rfl, ?_⟩
  by_cases c0 : w = 0
  · rw [if_pos (decide_eq_true c0)]
    refine ⟨_, rfl, _, rfl, _, rfl, slc_lst hM3 fun x hx => ?_⟩
    have gx := Gro.new (o := .lst ((partD is (some at_) none).map D.int)) hx
    refine ⟨_, rfl, _, rfl, _, rfl, slc_lst (gx _ _ hM3) fun y hy => ?_⟩
    have gy := Gro.new (o := .lst ((partD is none (some at_)).map D.int)) hy
    have l1 := partD_len is (some at_) none
    have l2 := partD_len is none (some at_)
    refine add_lst (gy _ _ up3_same) up3_same (by omega) fun z hz => ?_
    exact tup_lst up3_same (fin _ _ (gx.trans (gy.trans (Gro.new hz))) (by rw [List.length_append]; omega) (apb pb pb))
  rw [if_neg (by rw [decide_eq_true_eq]; exact c0)]
  refine ⟨_, rfl, _, int_eq _ _ _, _, rfl, ?_⟩
  by_cases c1 : w = 1
  · rw [if_pos (decide_eq_true c1)]
    refine ⟨_, rfl, _, rfl, add_lst hM3 hM3 (by omega) fun z hz => ?_⟩
    exact tup_lst up3_same (fin _ _ (Gro.new hz) (by rw [List.length_append]; omega) (apb isb isb))
  rw [if_neg (by rw [decide_eq_true_eq]; exact c1)]
  refine ⟨_, rfl, _, int_eq _ _ _, _, rfl, ?_⟩
  by_cases c2 : w = 2
  · rw [if_pos (decide_eq_true c2)]
    refine ⟨_, rfl, r, _, rfl, hM3, fun z hz => ?_⟩
    rw [← List.map_reverse]
    exact tup_lst up3_same (fin _ _ (Gro.new hz) (by rw [List.length_reverse]; omega) fun i hi => isb i (List.mem_reverse.mp hi))
  rw [if_neg (by rw [decide_eq_true_eq]; exact c2)]
  refine ⟨_, rfl, _, int_eq _ _ _, _, rfl, ?_⟩
  by_cases c3 : w = 3
  · rw [if_pos (decide_eq_true c3)]
    refine ⟨_, rfl, _, rfl, _, rfl, slc_lst hM3 fun x hx => ?_⟩
    have gx := Gro.new (o := .lst ((partD is none (some at_)).map D.int)) hx
    refine ⟨_, rfl, _, rfl, _, rfl, slc_lst (gx _ _ hM3) fun y hy => ?_⟩
    have gy := Gro.new (o := .lst ((partD is (some (at_ + 1)) none).map D.int)) hy
    have l1 := partD_len is (some (at_ + 1)) none
    have l2 := partD_len is none (some at_)
    refine add_lst (gy _ _ up3_same) up3_same (by omega) fun z hz => ?_
    exact tup_lst up3_same (fin _ _ (gx.trans (gy.trans (Gro.new hz))) (by rw [List.length_append]; omega) (apb pb pb))
  rw [if_neg (by rw [decide_eq_true_eq]; exact c3)]
  refine ⟨_, rfl, ?_⟩
  show ∃ r_2, some (decide (w < 6)) = some r_2 ∧ _
  refine ⟨_, rfl, ?_⟩
  by_cases c4 : w < 6
  · rw [if_pos (decide_eq_true c4)]
    refine ⟨_, rfl, ?_⟩
    show ∃ r_2, some (decide (0 < ((rows.map Row.d).length : Int))) = some r_2 ∧ _
    refine ⟨_, rfl, ?_⟩
    by_cases c5 : 0 < ((rows.map Row.d).length : Int)
    · rw [if_pos (decide_eq_true c5)]
      refine ⟨_, rfl, _, rfl, _, rfl, slc_lst hM3 fun x hx => ?_⟩
      have gx := Gro.new (o := .lst ((partD is none (some at_)).map D.int)) hx
      refine ⟨_, rfl, _, rfl, k, _, _, rfl, hk3.gro gx, c5, by omega, by omega, fun t M5 t0 t1 g5 hk5 => ?_⟩
      refine ⟨szd (show 1 ≤ 1000 by decide), fun y hy => ?_⟩
      have gy := Gro.new (o := .lst [D.int t]) hy
      have hxk := hk3.ne hx
      have hx5 := gy _ _ (g5 x _ hxk up3_same)
      have l1 := partD_len is none (some at_)
      refine add_lst (m := [t]) hx5 up3_same (by show _ + 1 ≤ 1000; omega) fun z hz => ?_
      have gz := Gro.new (o := .lst ((partD is none (some at_) ++ [t]).map D.int)) hz
      have hr5 := gz _ _ (gy _ _ (g5 r _ hrk (gx _ _ hM3)))
      refine ⟨_, rfl, _, rfl, _, rfl, _, rfl, slc_lst hr5 fun u hu => ?_⟩
      have gu := Gro.new (o := .lst ((partD is (some (at_ + w - 4)) none).map D.int)) hu
      have l2 := partD_len is (some (at_ + w - 4)) none
      refine add_lst (gu _ _ up3_same) up3_same (by rw [List.length_append]; show _ + 1 + _ ≤ 1000; omega) fun v hv => ?_
      have gv := Gro.new (o := .lst (((partD is none (some at_) ++ [t]) ++ partD is (some (at_ + w - 4)) none).map D.int)) hv
      refine tup_lst up3_same ?_
      refine q _ _ (fun b o hb h => gv _ _ (gu _ _ (gz _ _ (gy _ _ (g5 b o hb (gx _ _ (g03 b o hb h))))))) ((hk5.gro (gy.trans (gz.trans (gu.trans gv)))).mono (by omega)) (valR_ints (by rw [List.length_append, List.length_append]; show _ + 1 + _ ≤ 400; omega) fun i hi => ?_)
      have := apb (apb pb (fun i hi => by rw [List.mem_singleton.mp hi]; omega)) pb i hi
      omega
    · rw [if_neg (by rw [decide_eq_true_eq]; exact c5)]
      rw [lenr]; exact hR _ _ _ _ _ _ _ hr0 hM3 hk3 g03
  · rw [if_neg (by rw [decide_eq_true_eq]; exact c4)]
    rw [lenr]; exact hR _ _ _ _ _ _ _ hr0 hM3 hk3 g03
end L3

set_option Elab.async false
set_option linter.all false
set_option maxRecDepth 100000
set_option maxHeartbeats 1000000
/-! E21z: is_fitting of a dict with a key that is no point. -/
namespace L3
open PySem PySem.Spec PyProof.Rows L2
/-- a dict with a key that is no point -/
def FitO (M : Hp3) (v : D) : Prop := ∃ (a : Addr) (kvs : List (D × D)), v = .ref a ∧ M a = some (.dct kvs) ∧ kvs.length ≤ 100 ∧ (∀ p ∈ kvs, ∀ M', Tame M' p.1) ∧ ((kvs.map (·.1)).all isPointD) = false
abbrev sp_fitq2 : Sp3 := fun ds M Q => sp_fitq ds M Q ∨ ∃ rows v, ds = [.tup (rows.map Row.d), v] ∧ RowsG rows ∧ FitO M v ∧ ∀ M', Gro M M' → Q (.bl false) M'
theorem is_fitting2_spec (Γ : Nat → Sp3) (h0 : Γ 0 = spQ isIntD) (h4 : Γ 4 = spQ isPointD) (h6 : Γ 6 = sp_require) (h7 : Γ 7 = sp_points) (ds : List D) (M : Hp3) (Q : VK3) (h : sp_fitq2 ds M Q) : WSs C23 Γ I_is_fitting { nx := fun _ M' => Q .non M', rt := Q } (start3 N_is_fitting ds) M := by
  rcases h with h | ⟨rows, v, rfl, hr, ⟨a, kvs, rfl, ha, hl, ht, hp⟩, q⟩
  · exact is_fitting_spec Γ h0 h4 h6 h7 ds M Q h
  simp only [I_is_fitting, WSs, WS, WE, WX, mkT, WA, WP, WT, WI, h0, h4, h6, h7, N_is_fitting, start3, List.map_cons, List.map_nil, List.length_cons, List.length_nil, List.replicate, List.append_nil]
  refine ⟨_, rfl, _, rfl, by rw [List.length_map]; have := hr.len; omega, Row.req hr M, fun M1 g1 => ?_⟩
  refine ⟨_, rfl, rows, rfl, hr.len, hr.ok, fun M2 p qs g2 hp2 hM2 hqs => ?_⟩
  have ha2 := g2 _ _ (g1 _ _ ha)
  refine ⟨_, rfl, _, rfl, _, isi_dct ha2, _, rfl, ?_⟩
  simp only [Bool.not_true, Bool.false_eq_true, if_false]
  refine ⟨_, rfl, _, kvs.length, rfl, by simp [lenD, ha2], ?_⟩
  refine ⟨_, rfl, _, qs.length, rfl, by simp [lenD, hM2], ?_⟩
  refine ⟨_, int_eq _ _ _, _, rfl, ?_⟩
  cases c1 : decide ((kvs.length : Int) = (qs.length : Int)) with
  | false =>
    simp only [Bool.not_false, if_true]
    exact q _ (g1.trans g2)
  | true =>
  simp only [Bool.not_true, Bool.false_eq_true, if_false]
  refine ⟨a, _, rfl, .inl ⟨ha2, fun e he => ?_⟩⟩
  have hea : e ≠ a := fun z => by rw [z, ha2] at he; cases he
  refine lcW_pur (M0 := up3 M2 a (.lck kvs)) (fun d => some (.bl (isPointD d))) (by rw [up3_ne hea]; exact he) (fun M3 g3 => g3 _ _ up3_same) (by rw [List.length_map]; exact szd (by omega)) (fun x hx M3 g3 => ?_) fun M3 g3 hM3 => ?_
  · obtain ⟨pr, hpr, rfl⟩ := List.mem_map.mp hx
    refine ⟨_, rfl, evT_yes, fun y hy M4 g4 K k => ?_⟩
    cases hy
    exact ⟨_, rfl, _, rfl, ht pr hpr _, fun M5 g5 => k _ _ ⟨rfl, g5⟩⟩
  have e1 : (kvs.map (·.1)).filterMap (fun d => some (D.bl (isPointD d))) = ((kvs.map (·.1)).map isPointD).map D.bl := by
    rw [List.map_map, List.filterMap_eq_map']
    rfl
  rw [e1] at hM3
  refine ⟨g3 _ _ up3_same, e, _, rfl, .inl (by rw [up3_ne hea]; exact hM3), _, rfl, ?_⟩
  have e2 : ((kvs.map (·.1)).map isPointD).all id = false := by
    rw [List.all_map]
    exact hp
  rw [e2]
  simp only [Bool.not_false, if_true]
  refine q _ (g1.trans (g2.trans fun c o hc => ?_))
  by_cases z : c = a
  · subst z
    rw [up3_same]
    rw [ha2] at hc
    exact hc
  · rw [up3_ne z]
    exact g3 c o (by rw [up3_ne z]; exact hc)
end L3

set_option Elab.async false
set_option linter.all false
set_option maxRecDepth 100000
set_option maxHeartbeats 4000000
/-! E22: _law_right. -/
namespace L3
open PySem PySem.Spec PyProof.Rows L2

/-- a heap without the keg -/
def hid (k : Addr) (M : Hp3) : Hp3 := fun a => if a = k then none else M a
theorem hid_gro {k : Addr} {M : Hp3} : Gro (hid k M) M := fun a o h => by
  unfold hid at h
  split at h
  · cases h
  · exact h
theorem hid_at {k : Addr} {M : Hp3} : hid k M k = none := if_pos rfl
theorem hid_ne {k a : Addr} {M : Hp3} (h : a ≠ k) : hid k M a = M a := if_neg h
theorem valF_num {N : Hp3} {a : Addr} {P : List Pt} {f : Pt → Int} (h : NumD N a P f) : ValF N (.ref a) := valF_dct h.at_ (by have := h.len; omega) h.key fun x _ => Lf.int (by have := h.bd x; omega) (by have := h.bd x; omega)
theorem NumD.gro {N N' : Hp3} {a : Addr} {P : List Pt} {f : Pt → Int} (h : NumD N a P f) (g : Gro N N') : NumD N' a P f := ⟨g _ _ h.at_, h.nd, h.len, h.key, h.bd⟩
theorem valR_intT {N : Hp3} {v : D} (h : IntT v) : ValR N v := by
  obtain ⟨is, rfl, l, b⟩ := h
  exact valR_ints (by omega) fun i hi => by have := b i hi; omega
theorem shown_bl (b : Bool) : (PyData.bool b).showable = true ∧ (PyData.bool b).shown.length ≤ sizeLine ∧ (PyData.bool b).depth ≤ 100 ∧ PyData.strOk (PyData.bool b).shown = true := by
  have s := Sm.bl b
  have := sizeLine_eq
  exact ⟨s.sh, by have := s.len; omega, by have := s.dep; omega, s.ok⟩
abbrev sp_right : Sp3 := fun ds M Q => ∃ (k : Addr) (B : Int) (rows : List Row), ds = [.ref k, .tup (rows.map Row.d)] ∧ KegAt M k B ∧ RowsG rows ∧ B + 4000 ≤ 10 ^ 9 ∧
  ∀ M' : Hp3, GroBut k M M' → KegAt M' k (B + 4000) → Q (.bl true) M'
end L3

set_option Elab.async false
set_option linter.all false
set_option maxRecDepth 100000
set_option maxHeartbeats 1000000
/-! E22a: the last rows of _law_right. -/
namespace L3
open PySem PySem.Spec PyProof.Rows L2

def itemN : Nat → ISs → IS
  | 0, .cons a _ => a
  | n + 1, .cons _ r => itemN n r
  | _, .nil => .pass
theorem right_t7 (Γ : Nat → Sp3) (h17 : Γ 17 = sp_ringq) (h30 : Γ 30 = sp_ringq) {r : Addr} {rows : List Row} {N M : Hp3} {vs : List D} {Q : VK3} {x0 x2 x3 x4 x6 x7 x8 x9 x10 x11 x12 : Option D} (hr : RowsG rows) (gN : Gro N M) (hM : M r = some (.lst vs)) (hv : ∀ v ∈ vs, ValR N v) (q : ∀ M', Gro M M' → Q (.bl true) M') :
    WSs C23 Γ (tailN 7 I_law_right) { nx := fun _ M' => Q .non M', rt := Q } [x0, some (.tup (rows.map Row.d)), x2, x3, x4, some (.ref r), x6, x7, x8, x9, x10, x11, x12] M := by
  simp only [I_law_right, tailN, WSs, WS, WE, WX, mkT, WA, WP, WT, WI, WO, h17, h30]
  refine ⟨_, rfl, .inl ⟨_, hM, ?_⟩⟩
  refine loopW_inv0 (fun i σ M' => Gro M M' ∧ ∃ y6 y9 y10 y11 : Option D, σ = [x0, some (.tup (rows.map Row.d)), x2, x3, x4, some (.ref r), y6, x7, x8, y9, y10, y11, x12]) (fun i v σ M' hv' hJ => ?_) (fun σ M' hJ => ?_) ⟨Gro.refl _, _, _, _, _, rfl⟩
  · obtain ⟨g, y6, y9, y10, y11, rfl⟩ := hJ
    have hvN := hv v (List.mem_of_getElem? hv')
    obtain ⟨b, hb⟩ := hvN.f rows
    obtain ⟨p, hp, p1, p2, p3, p4⟩ := hvN.s
    refine ⟨g _ _ hM, _, rfl, fun nx hnx => ?_⟩
    have gN' := gN.trans g
    refine ⟨_, rfl, _, rfl, rows, v, b, rfl, hr, hb.gro gN', fun M1 g1 => ?_⟩
    obtain ⟨b1, b2, b3, b4⟩ := shown_bl b
    refine ⟨_, _, rfl, .bl b, b1, b2, b3, _, rfl, v, p, rfl, hp.gro (gN'.trans g1), p1, p2, p3, szd (show 2 ≤ 1000 by decide), _, rfl, ?_⟩
    refine ⟨2, rfl, by decide, by decide, ?_⟩
    refine loopW_inv0 (fun j σ M2 => Gro M1 M2 ∧ ∃ y9 : Option D, σ = [x0, some (.tup (rows.map Row.d)), x2, x3, x4, some (.ref r), some v, x7, x8, y9, some (.str (PyData.bool b).shown), some (.str p.shown), x12]) (fun j w σ M2 hw hJ => ?_) (fun σ M2 hJ => ?_) ⟨Gro.refl _, _, rfl⟩
    · obtain ⟨g2, y9, rfl⟩ := hJ
      refine ⟨trivial, _, rfl, fun nx2 hnx2 => ?_⟩
      refine ⟨_, rfl, _, rfl, rows, v, b, rfl, hr, hb.gro (gN'.trans (g1.trans g2)), fun M3 g3 => ?_⟩
      refine ⟨_, _, rfl, .bl b, b1, b2, b3, _, rfl, _, str_eq _ b4 b4, _, rfl, ?_⟩
      rw [if_neg (show ¬ (!((PyData.bool b).shown == (PyData.bool b).shown)) = true by rw [beq_self_eq_true]; decide)]
      refine ⟨_, rfl, v, p, rfl, hp.gro (gN'.trans (g1.trans (g2.trans g3))), p1, p2, p3, _, rfl, _, str_eq _ p4 p4, _, rfl, ?_⟩
      rw [if_neg (show ¬ (!(p.shown == p.shown)) = true by rw [beq_self_eq_true]; decide)]
      exact hnx2 _ _ ⟨g2.trans g3, _, rfl⟩
    · obtain ⟨g2, y9, rfl⟩ := hJ
      exact ⟨trivial, hnx _ _ ⟨g.trans (g1.trans g2), _, _, _, _, rfl⟩⟩
  · obtain ⟨g, y6, y9, y10, y11, rfl⟩ := hJ
    exact ⟨g _ _ hM, q _ g⟩
theorem right_t6 (Γ : Nat → Sp3) (h15 : Γ 15 = sp_fitq2) (h29 : Γ 29 = sp_fitq) {r s : Addr} {rows : List Row} {N M : Hp3} {vs : List D} {Q : VK3} {x0 x2 x4 x6 x7 x8 x9 x10 x11 x12 : Option D} (hr : RowsG rows) (gN : Gro N M) (hM : M s = some (.lst vs)) (hv : ∀ v ∈ vs, ValF N v) {D0 : Ends3} {R : ISs} (hD : D0.rt = Q) (q : ∀ y6 y9 y10 y11 : Option D, ∀ M', Gro M M' → WSs C23 Γ R D0 [x0, some (.tup (rows.map Row.d)), x2, some (.ref s), x4, some (.ref r), y6, x7, x8, y9, y10, y11, x12] M') :
    WSs C23 Γ (.cons (itemN 6 I_law_right) R) D0 [x0, some (.tup (rows.map Row.d)), x2, some (.ref s), x4, some (.ref r), x6, x7, x8, x9, x10, x11, x12] M := by
  simp only [I_law_right, itemN, WSs, WS, WE, WX, mkT, WA, WP, WT, WI, WO, h15, h29]
  refine ⟨_, rfl, .inl ⟨_, hM, ?_⟩⟩
  refine loopW_inv0 (fun i σ M' => Gro M M' ∧ ∃ y6 y9 y10 y11 : Option D, σ = [x0, some (.tup (rows.map Row.d)), x2, some (.ref s), x4, some (.ref r), y6, x7, x8, y9, y10, y11, x12]) (fun i v σ M' hv' hJ => ?_) (fun σ M' hJ => ?_) ⟨Gro.refl _, _, _, _, _, rfl⟩
  · obtain ⟨g, y6, y9, y10, y11, rfl⟩ := hJ
    have hvN := hv v (List.mem_of_getElem? hv')
    obtain ⟨b, hb⟩ := hvN.f rows
    obtain ⟨p, hp, p1, p2, p3, p4⟩ := hvN.s
    refine ⟨g _ _ hM, _, rfl, fun nx hnx => ?_⟩
    have gN' := gN.trans g
    refine ⟨_, rfl, _, rfl, rows, v, b, rfl, hr, hb.gro gN', fun M1 g1 => ?_⟩
    obtain ⟨b1, b2, b3, b4⟩ := shown_bl b
    refine ⟨_, _, rfl, .bl b, b1, b2, b3, _, rfl, v, p, rfl, hp.gro (gN'.trans g1), p1, p2, p3, szd (show 2 ≤ 1000 by decide), _, rfl, ?_⟩
    refine ⟨2, rfl, by decide, by decide, ?_⟩
    refine loopW_inv0 (fun j σ M2 => Gro M1 M2 ∧ ∃ y9 : Option D, σ = [x0, some (.tup (rows.map Row.d)), x2, some (.ref s), x4, some (.ref r), some v, x7, x8, y9, some (.str (PyData.bool b).shown), some (.str p.shown), x12]) (fun j w σ M2 hw hJ => ?_) (fun σ M2 hJ => ?_) ⟨Gro.refl _, _, rfl⟩
    · obtain ⟨g2, y9, rfl⟩ := hJ
      refine ⟨trivial, _, rfl, fun nx2 hnx2 => ?_⟩
      refine ⟨_, rfl, _, rfl, .inl ⟨rows, v, b, rfl, hr, hb.gro (gN'.trans (g1.trans g2)), fun M3 g3 => ?_⟩⟩
      refine ⟨_, _, rfl, .bl b, b1, b2, b3, _, rfl, _, str_eq _ b4 b4, _, rfl, ?_⟩
      rw [if_neg (show ¬ (!((PyData.bool b).shown == (PyData.bool b).shown)) = true by rw [beq_self_eq_true]; decide)]
      refine ⟨_, rfl, v, p, rfl, hp.gro (gN'.trans (g1.trans (g2.trans g3))), p1, p2, p3, _, rfl, _, str_eq _ p4 p4, _, rfl, ?_⟩
      rw [if_neg (show ¬ (!(p.shown == p.shown)) = true by rw [beq_self_eq_true]; decide)]
      exact hnx2 _ _ ⟨g2.trans g3, _, rfl⟩
    · obtain ⟨g2, y9, rfl⟩ := hJ
      exact ⟨trivial, hnx _ _ ⟨g.trans (g1.trans g2), _, _, _, _, rfl⟩⟩
  · obtain ⟨g, y6, y9, y10, y11, rfl⟩ := hJ
    exact ⟨g _ _ hM, q _ _ _ _ _ g⟩
end L3

set_option Elab.async false
set_option linter.all false
set_option maxRecDepth 100000
set_option maxHeartbeats 1000000
/-! E22b: the walks of _law_right. -/
namespace L3
open PySem PySem.Spec PyProof.Rows L2
theorem part3 {α : Type} (a b c : α) (l : List α) : partD (a :: b :: c :: l) none (some 3) = [a, b, c] := by
  unfold partD
  have h1 : HT.sIx (a :: b :: c :: l).length 0 none = 0 := rfl
  have h2 : HT.sIx (a :: b :: c :: l).length (a :: b :: c :: l).length (some 3) = 3 := by
    unfold HT.sIx
    simp
  rw [h1, h2]
  rfl
theorem part2 {α : Type} (a b : α) (l : List α) : partD (a :: b :: l) none (some 2) = [a, b] := by
  unfold partD
  have h1 : HT.sIx (a :: b :: l).length 0 none = 0 := rfl
  have h2 : HT.sIx (a :: b :: l).length (a :: b :: l).length (some 2) = 2 := by
    unfold HT.sIx
    simp
  rw [h1, h2]
  rfl
/-- .. but for the things at k, r -/
def GroB2 (k r : Addr) (M M' : Hp3) : Prop := ∀ b o, b ≠ k → b ≠ r → M b = some o → M' b = some o
theorem right_t5 (Γ : Nat → Sp3) (h23 : Γ 23 = sp_choice) (h26 : Γ 26 = sp_near_ring) {k r : Addr} {B : Int} {rows : List Row} {N M : Hp3} {w0 w1 w2 : D} {x2 x3 x4 x6 x7 x8 x9 x10 x11 x12 : Option D} (hr : RowsG rows) (gN : Gro N M) (hkN : N k = none) (hrN : N r = none) (hk : KegAt M k B) (hB : B + 1800 ≤ 10 ^ 9) (hrk : r ≠ k)
    (hM : M r = some (.lst [w0, w1, w2])) (hw : ∀ w ∈ [w0, w1, w2], IntT w) {D0 : Ends3} {R : ISs}
    (q : ∀ (y4 : Option D) (N' M' : Hp3) (ws : List D), GroB2 k r M M' → Gro N N' → Gro N' M' → N' k = none → N' r = none → KegAt M' k (B + 1700) → M' r = some (.lst ws) → (∀ w ∈ ws, ValR N' w) → WSs C23 Γ R D0 [some (.ref k), some (.tup (rows.map Row.d)), x2, x3, y4, some (.ref r), x6, x7, x8, x9, x10, x11, x12] M') :
    WSs C23 Γ (.cons (itemN 5 I_law_right) R) D0 [some (.ref k), some (.tup (rows.map Row.d)), x2, x3, x4, some (.ref r), x6, x7, x8, x9, x10, x11, x12] M := by
  simp only [I_law_right, itemN, WSs, WS, WE, WX, mkT, WA, WP, WT, WI, WO, h23, h26]
  refine ⟨8, rfl, by decide, by decide, ?_⟩
  refine loopW_inv0 (fun i σ M' => ∃ (y4 : Option D) (N' : Hp3) (vs : List D), σ = [some (.ref k), some (.tup (rows.map Row.d)), x2, x3, y4, some (.ref r), x6, x7, x8, x9, x10, x11, x12] ∧ GroB2 k r M M' ∧ Gro N N' ∧ Gro N' M' ∧ N' k = none ∧ N' r = none ∧ KegAt M' k (B + 202 * (i : Int)) ∧ M' r = some (.lst (w0 :: w1 :: w2 :: vs)) ∧ vs.length = i ∧ ∀ v ∈ vs, ValR N' v) (fun i x σ M' hx hJ => ?_) (fun σ M' hJ => ?_)
    ⟨_, N, [], rfl, fun _ _ _ _ h => h, Gro.refl _, gN, hkN, hrN, hk.mono (by omega), hM, rfl, fun v h => by cases h⟩
  · obtain ⟨y4, N', vs, rfl, g0, gN', gM', hkN', hrN', hk', hM', hl, hv⟩ := hJ
    have hi : i < 8 := by
      have := List.getElem?_eq_some_iff.mp hx
      obtain ⟨h, _⟩ := this
      have e : (Src.items (.rng (8 : Int).toNat)).length = 8 := rfl
      rw [e] at h
      exact h
    refine ⟨trivial, _, rfl, fun nx hnx => ?_⟩
    refine ⟨_, rfl, ⟨r, _, rfl, hM'⟩, _, rfl, _, rfl, _, rfl, _, rfl, 3, rfl, _, hM', fun p hp => ?_⟩
    rw [part3]
    have gp := Gro.new (o := .lst [w0, w1, w2]) hp
    refine ⟨k, p, _, _, rfl, hk'.gro gp, up3_same, by show 0 < 3; decide, by show 3 ≤ 10000; decide, hk'.ne hp, by omega, fun d M1 hd g1 hk1 => ?_⟩
    have gN1 : Gro N' M1 := fun b o h => g1 b o (fun z => by rw [z, hkN'] at h; cases h) (gp _ _ (gM' _ _ h))
    refine ⟨k, _, rows, N', d, rfl, hk1, hr, gN1, hkN', hw d hd, by omega, fun v M2 g2 hk2 hv2 => ?_⟩
    have hM1 := g1 r _ hrk (gp _ _ hM')
    have hM2 := g2 r _ hrk hM1
    refine ⟨r, _, v, rfl, rfl, hM2, szd (by show vs.length + 3 + 1 ≤ 1000; omega), hnx _ _ ?_⟩
    have hkM1 : NewOf N' M1 M2 k = none := by
      obtain ⟨x, s, c, e, _⟩ := hk1
      rw [newOf_hid e]
      exact hkN'
    have hrM1 : NewOf N' M1 M2 r = none := by
      rw [newOf_hid hM1]
      exact hrN'
    have gNew := newOf_gro gN1 hkN' g2
    refine ⟨_, NewOf N' M1 M2, vs ++ [v], rfl, fun b o h1 h2 h => ?_, gN'.trans (newOf_old gN1), fun b o h => ?_, hkM1, hrM1, (hk2.but hrk).mono (by push_cast; omega), up3_same, by rw [List.length_append]; show vs.length + 1 = _; omega, fun u hu => ?_⟩
    · rw [up3_ne h2]
      exact g2 _ _ h1 (g1 _ _ h1 (gp _ _ (g0 _ _ h1 h2 h)))
    · have : b ≠ r := fun z => by rw [z, hrM1] at h; cases h
      rw [up3_ne this]
      exact gNew _ _ h
    · rcases List.mem_append.mp hu with h | h
      · exact (hv u h).gro (newOf_old gN1)
      · rw [List.mem_singleton.mp h]
        exact hv2
  · obtain ⟨y4, N', vs, rfl, g0, gN', gM', hkN', hrN', hk', hM', hl, hv⟩ := hJ
    have e : (Src.items (.rng (8 : Int).toNat)).length = 8 := rfl
    rw [e] at hk' hl
    refine ⟨trivial, q y4 N' M' _ g0 gN' gM' hkN' hrN' (hk'.mono (by omega)) hM' fun w h => ?_⟩
    rcases List.mem_cons.mp h with rfl | h
    · exact valR_intT (hw _ (by simp))
    rcases List.mem_cons.mp h with rfl | h
    · exact valR_intT (hw _ (by simp))
    rcases List.mem_cons.mp h with rfl | h
    · exact valR_intT (hw _ (by simp))
    · exact hv w h
end L3

set_option Elab.async false
set_option linter.all false
set_option maxRecDepth 100000
set_option maxHeartbeats 1000000
/-! E22c: the numbers of _law_right. -/
namespace L3
open PySem PySem.Spec PyProof.Rows L2
theorem right_t4 (Γ : Nat → Sp3) (h25 : Γ 25 = sp_walk) {k : Addr} {B : Int} {rows : List Row} {M : Hp3} {w0 : D} {x2 x3 x4 x5 x6 x7 x9 x10 x11 x12 : Option D} (hr : RowsG rows) (hk : KegAt M k B) (hB : B + 1800 ≤ 10 ^ 9) (hw : w0 = .non ∨ IntT w0) {D0 : Ends3} {R : ISs}
    (q : ∀ (r : Addr) (u0 u1 u2 : D) (M' : Hp3), GroBut k M M' → M r = none → M' r = some (.lst [u0, u1, u2]) → (∀ w ∈ [u0, u1, u2], IntT w) → KegAt M' k (B + 400) → WSs C23 Γ R D0 [some (.ref k), some (.tup (rows.map Row.d)), x2, x3, x4, some (.ref r), x6, x7, some w0, x9, x10, x11, x12] M') :
    WSs C23 Γ (.cons (itemN 4 I_law_right) R) D0 [some (.ref k), some (.tup (rows.map Row.d)), x2, x3, x4, x5, x6, x7, some w0, x9, x10, x11, x12] M := by
  simp only [I_law_right, itemN, WSs, WS, WE, WX, mkT, WA, WP, WT, WI, WO, h25]
  have tl : ∀ (u0 : D), IntT u0 → sp_walk [.ref k, .tup (rows.map Row.d)] M fun d M1 => sp_walk [.ref k, .tup (rows.map Row.d)] M1 fun d' M2 => ∀ p, M2 p = none → WSs C23 Γ R D0 [some (.ref k), some (.tup (rows.map Row.d)), x2, x3, x4, some (.ref p), x6, x7, some w0, x9, x10, x11, x12] (up3 M2 p (.lst [u0, d, d'])) := fun u0 hu0 => by
    refine ⟨k, _, rows, rfl, hk, hr, by omega, fun d M1 g1 hk1 hd => ?_⟩
    refine ⟨k, _, rows, rfl, hk1, hr, by omega, fun d' M2 g2 hk2 hd' p hp => ?_⟩
    have gp := Gro.new (o := .lst [u0, d, d']) hp
    refine q p u0 d d' _ (fun b o hb h => gp _ _ (g2 _ _ hb (g1 _ _ hb h))) (fresh_but (g1.trans g2) hk2 hp) up3_same (fun w hw => ?_) ((hk2.gro gp).mono (by omega))
    simp only [List.mem_cons, List.mem_nil_iff, or_false] at hw
    rcases hw with rfl | rfl | rfl
    · exact hu0
    · exact hd
    · exact hd'
  rcases hw with rfl | hw
  · refine ⟨_, rfl, ?_⟩
    show ∃ r, some true = some r ∧ _
    refine ⟨_, rfl, ?_⟩
    rw [if_pos rfl]
    refine ⟨szd (show 0 ≤ 1000 by decide), _, rfl, _, rfl, ?_⟩
    obtain ⟨k', B', rows', e1, e2, e3, e4, e5⟩ := tl (.tup []) ⟨[], rfl, by decide, fun i h => by cases h⟩
    refine ⟨k', B', rows', e1, e2, e3, e4, fun v M1 g1 hk1 hv => ⟨_, rfl, _, rfl, ?_⟩⟩
    obtain ⟨k2, B2, rows2, f1, f2, f3, f4, f5⟩ := e5 v M1 g1 hk1 hv
    exact ⟨k2, B2, rows2, f1, f2, f3, f4, fun v2 M2 g2 hk2 hv2 => ⟨szd (show 3 ≤ 1000 by decide), fun p hp => ⟨_, rfl, f5 v2 M2 g2 hk2 hv2 p hp⟩⟩⟩
  · have hw2 := hw
    obtain ⟨is, rfl, il, ib⟩ := hw
    refine ⟨_, rfl, ?_⟩
    show ∃ r, some false = some r ∧ _
    refine ⟨_, rfl, ?_⟩
    rw [if_neg Bool.false_ne_true]
    refine ⟨_, rfl, _, rfl, _, rfl, ?_⟩
    obtain ⟨k', B', rows', e1, e2, e3, e4, e5⟩ := tl _ hw2
    refine ⟨k', B', rows', e1, e2, e3, e4, fun v M1 g1 hk1 hv => ⟨_, rfl, _, rfl, ?_⟩⟩
    obtain ⟨k2, B2, rows2, f1, f2, f3, f4, f5⟩ := e5 v M1 g1 hk1 hv
    exact ⟨k2, B2, rows2, f1, f2, f3, f4, fun v2 M2 g2 hk2 hv2 => ⟨szd (show 3 ≤ 1000 by decide), fun p hp => ⟨_, rfl, f5 v2 M2 g2 hk2 hv2 p hp⟩⟩⟩
def NumV (N : Hp3) (v : D) : Prop := ∃ a P f, v = .ref a ∧ NumD N a P f
theorem right_t3 (Γ : Nat → Sp3) (h23 : Γ 23 = sp_choice) (h24 : Γ 24 = sp_near_numbers) {k s : Addr} {B : Int} {rows : List Row} {N M : Hp3} {w0 w1 : D} {x2 x4 x5 x6 x7 x8 x9 x10 x11 x12 : Option D} (hr : RowsG rows) (gN : Gro N M) (hkN : N k = none) (hrN : N s = none) (hk : KegAt M k B) (hB : B + 1800 ≤ 10 ^ 9) (hrk : s ≠ k)
    (hM : M s = some (.lst [w0, w1])) (hw : ∀ w ∈ [w0, w1], NumV N w) {D0 : Ends3} {R : ISs}
    (q : ∀ (y4 : Option D) (N' M' : Hp3) (ws : List D), GroB2 k s M M' → Gro N N' → Gro N' M' → N' k = none → N' s = none → KegAt M' k (B + 1700) → M' s = some (.lst ws) → (∀ w ∈ ws, ValF N' w) → WSs C23 Γ R D0 [some (.ref k), some (.tup (rows.map Row.d)), x2, some (.ref s), y4, x5, x6, x7, x8, x9, x10, x11, x12] M') :
    WSs C23 Γ (.cons (itemN 3 I_law_right) R) D0 [some (.ref k), some (.tup (rows.map Row.d)), x2, some (.ref s), x4, x5, x6, x7, x8, x9, x10, x11, x12] M := by
  simp only [I_law_right, itemN, WSs, WS, WE, WX, mkT, WA, WP, WT, WI, WO, h23, h24]
  refine ⟨8, rfl, by decide, by decide, ?_⟩
  refine loopW_inv0 (fun i σ M' => ∃ (y4 : Option D) (N' : Hp3) (vs : List D), σ = [some (.ref k), some (.tup (rows.map Row.d)), x2, some (.ref s), y4, x5, x6, x7, x8, x9, x10, x11, x12] ∧ GroB2 k s M M' ∧ Gro N N' ∧ Gro N' M' ∧ N' k = none ∧ N' s = none ∧ KegAt M' k (B + 202 * (i : Int)) ∧ M' s = some (.lst (w0 :: w1 :: vs)) ∧ vs.length = i ∧ ∀ v ∈ vs, ValF N' v) (fun i x σ M' hx hJ => ?_) (fun σ M' hJ => ?_)
    ⟨_, N, [], rfl, fun _ _ _ _ h => h, Gro.refl _, gN, hkN, hrN, hk.mono (by omega), hM, rfl, fun v h => by cases h⟩
  · obtain ⟨y4, N', vs, rfl, g0, gN', gM', hkN', hrN', hk', hM', hl, hv⟩ := hJ
    have hi : i < 8 := by
      have := List.getElem?_eq_some_iff.mp hx
      obtain ⟨h, _⟩ := this
      have e : (Src.items (.rng (8 : Int).toNat)).length = 8 := rfl
      rw [e] at h
      exact h
    refine ⟨trivial, _, rfl, fun nx hnx => ?_⟩
    refine ⟨_, rfl, ⟨s, _, rfl, hM'⟩, _, rfl, _, rfl, _, rfl, _, rfl, 2, rfl, _, hM', fun p hp => ?_⟩
    rw [part2]
    have gp := Gro.new (o := .lst [w0, w1]) hp
    refine ⟨k, p, _, _, rfl, hk'.gro gp, up3_same, by show 0 < 2; decide, by show 2 ≤ 10000; decide, hk'.ne hp, by omega, fun d M1 hd g1 hk1 => ?_⟩
    have gN1 : Gro N' M1 := fun b o h => g1 b o (fun z => by rw [z, hkN'] at h; cases h) (gp _ _ (gM' _ _ h))
    obtain ⟨a, P, f, rfl, hn⟩ := hw d hd
    refine ⟨k, a, _, rows, N', P, f, rfl, hk1, hr, gN1, hkN', hn.gro gN', by omega, fun v M2 g2 hk2 hv2 => ?_⟩
    have hM1 := g1 s _ hrk (gp _ _ hM')
    have hM2 := g2 s _ hrk hM1
    refine ⟨s, _, v, rfl, rfl, hM2, szd (by show vs.length + 2 + 1 ≤ 1000; omega), hnx _ _ ?_⟩
    have hkM1 : NewOf N' M1 M2 k = none := by
      obtain ⟨x, t, c, e, _⟩ := hk1
      rw [newOf_hid e]
      exact hkN'
    have hrM1 : NewOf N' M1 M2 s = none := by
      rw [newOf_hid hM1]
      exact hrN'
    have gNew := newOf_gro gN1 hkN' g2
    refine ⟨_, NewOf N' M1 M2, vs ++ [v], rfl, fun b o h1 h2 h => ?_, gN'.trans (newOf_old gN1), fun b o h => ?_, hkM1, hrM1, (hk2.but hrk).mono (by push_cast; omega), up3_same, by rw [List.length_append]; show vs.length + 1 = _; omega, fun u hu => ?_⟩
    · rw [up3_ne h2]
      exact g2 _ _ h1 (g1 _ _ h1 (gp _ _ (g0 _ _ h1 h2 h)))
    · have : b ≠ s := fun z => by rw [z, hrM1] at h; cases h
      rw [up3_ne this]
      exact gNew _ _ h
    · rcases List.mem_append.mp hu with h | h
      · exact (hv u h).gro (newOf_old gN1)
      · rw [List.mem_singleton.mp h]
        exact hv2
  · obtain ⟨y4, N', vs, rfl, g0, gN', gM', hkN', hrN', hk', hM', hl, hv⟩ := hJ
    have e : (Src.items (.rng (8 : Int).toNat)).length = 8 := rfl
    rw [e] at hk' hl
    have hnum : ∀ w ∈ [w0, w1], ValF N' w := fun w h => by
      obtain ⟨a, P, f, rfl, hn⟩ := hw w h
      exact (valF_num hn).gro gN'
    refine ⟨trivial, q y4 N' M' _ g0 gN' gM' hkN' hrN' (hk'.mono (by omega)) hM' fun w h => ?_⟩
    rcases List.mem_cons.mp h with rfl | h
    · exact hnum _ (by simp)
    rcases List.mem_cons.mp h with rfl | h
    · exact hnum _ (by simp)
    · exact hv w h
/-- drawn if numbers is None else numbers -/
def orD : D → D → D
  | .non, e => e
  | v, _ => v
theorem right_t2 (Γ : Nat → Sp3) {k : Addr} {M : Hp3} {v0 v1 : D} {x1 x3 x4 x5 x6 x8 x9 x10 x11 x12 : Option D} {e : Addr} (hv0 : v0 = .non ∨ ∃ a, v0 = .ref a) {D0 : Ends3} {R : ISs}
    (q : ∀ s, M s = none → WSs C23 Γ R D0 [some (.ref k), x1, some (.ref e), some (.ref s), x4, x5, x6, some v0, x8, x9, x10, x11, x12] (up3 M s (.lst [orD v0 (.ref e), .ref e]))) :
    WSs C23 Γ (.cons (itemN 2 I_law_right) R) D0 [some (.ref k), x1, some (.ref e), x3, x4, x5, x6, some v0, x8, x9, x10, x11, x12] M := by
  simp only [I_law_right, itemN, WSs, WS, WE, WX, mkT, WA, WP, WT, WI, WO]
  rcases hv0 with rfl | ⟨a, rfl⟩
  · refine ⟨_, rfl, ?_⟩
    show ∃ r, some true = some r ∧ _
    refine ⟨_, rfl, ?_⟩
    rw [if_pos rfl]
    refine ⟨_, rfl, _, rfl, szd (show 2 ≤ 1000 by decide), fun p hp => ⟨_, rfl, ?_⟩⟩
    exact q p hp
  · refine ⟨_, rfl, ?_⟩
    show ∃ r, some false = some r ∧ _
    refine ⟨_, rfl, ?_⟩
    rw [if_neg Bool.false_ne_true]
    refine ⟨_, rfl, _, rfl, szd (show 2 ≤ 1000 by decide), fun p hp => ⟨_, rfl, ?_⟩⟩
    exact q p hp
theorem right_t1 (Γ : Nat → Sp3) (h19 : Γ 19 = sp_tap) (h22 : Γ 22 = sp_points) {k : Addr} {B : Int} {rows : List Row} {M : Hp3} {x2 x3 x4 x5 x6 x7 x8 x9 x10 x11 x12 : Option D} (hr : RowsG rows) (hk : KegAt M k B) (hB : B + 1800 ≤ 10 ^ 9) {D0 : Ends3} {R : ISs}
    (q : ∀ (e : Addr) (P : List Pt) (g : Pt → Int) (M' : Hp3), GroBut k M M' → KegAt M' k (B + 50) → M e = none → M' e = some (.dct (mkD P fun p => .int (g p)).kv) → P.Perm (ptsOf rows) → (∀ p, -10 ≤ g p ∧ g p ≤ 10) → WSs C23 Γ R D0 [some (.ref k), some (.tup (rows.map Row.d)), some (.ref e), x3, x4, x5, x6, x7, x8, x9, x10, x11, x12] M') :
    WSs C23 Γ (.cons (itemN 1 I_law_right) R) D0 [some (.ref k), some (.tup (rows.map Row.d)), x2, x3, x4, x5, x6, x7, x8, x9, x10, x11, x12] M := by
  simp only [I_law_right, itemN, WSs, WS, WE, WX, mkT, WA, WP, WT, WI, WO, h19, h22]
  have hrl := hr.len
  refine ⟨_, rfl, rows, rfl, hr.len, hr.ok, fun M2 l P g2 hl hM2 hP => ?_⟩
  have hPl : P.length ≤ 41 := by
    have := hP.length_eq
    have := ptsOf_len rows
    omega
  have hk2 := hk.gro g2
  refine .inl ⟨_, hM2, fun e he => ?_⟩
  have hek := hk2.ne he
  have hlk := hk.ne hl
  have le : l ≠ e := fun z => by rw [z, he] at hM2; cases hM2
  refine lcW_inv0
    (fun i acc M' => GroBut k M2 M' ∧ KegAt M' k (B + i) ∧ i ≤ P.length ∧ ∃ g : Pt → Int, acc = prT (mkD (P.take i) fun p => .int (g p)).kv ∧ ∀ p, -10 ≤ g p ∧ g p ≤ 10) (fun i x acc M' hx hJ hacc => ?_) (fun acc M' hJ hacc => ?_) (acc := []) ⟨fun b o hb h => Gro.new he _ _ h, (hk2.but hek).mono (by simp), Nat.zero_le _, fun _ => 0, rfl, fun _ => ⟨by show -10 ≤ (0 : Int); decide, by show (0 : Int) ≤ 10; decide⟩⟩ up3_same
  · obtain ⟨gJ, hkJ, hiJ, g, rfl, bdg⟩ := hJ
    have hx : (P.map Pt.d)[i]? = some x := hx
    rw [List.getElem?_map] at hx
    obtain ⟨p, hp, rfl⟩ := Option.map_eq_some_iff.mp hx
    have hpok : p.ok = true := ptsOf_ok hr.ok p (hP.mem_iff.mp (List.mem_of_getElem? hp))
    have hMl := gJ l _ hlk hM2
    have hlt := (List.getElem?_eq_some_iff.mp hp).1
    have step : ∀ (t : Int) (M13 : Hp3), -10 ≤ t → t ≤ 10 → GroBut k M' M13 → KegAt M13 k (B + i + 1) → M13 e = some (.lst (prT (mkD (P.take i) fun p => .int (g p)).kv)) ∧ (prT (mkD (P.take i) fun p => .int (g p)).kv).length < sizeLine ∧ ∀ M3, GroBut e M13 M3 → M3 e = some (.lst (prT (mkD (P.take i) fun p => .int (g p)).kv ++ [.tup [p.d, .int t]])) → (GroBut k M2 M3 ∧ KegAt M3 k (B + ((i + 1 : Nat) : Int)) ∧ i + 1 ≤ P.length ∧ ∃ g' : Pt → Int, prT (mkD (P.take i) fun p => .int (g p)).kv ++ [D.tup [p.d, .int t]] = prT (mkD (P.take (i + 1)) fun p => .int (g' p)).kv ∧ ∀ p, -10 ≤ g' p ∧ g' p ≤ 10) := fun t M13 t0 t1 g13 hk13 => by
      refine ⟨g13 e _ hek hacc, by rw [prT_len, List.length_take]; have := sizeLine_eq; omega, fun M14 g14 hM14 => ?_⟩
      refine ⟨fun b o hb h => g14 b o (fun z => by rw [z, he] at h; cases h) (g13 b o hb (gJ b o hb h)), ?_, hlt, updP g p t, ?_, fun x => ?_⟩
      · obtain ⟨x, s, c, hx, rest⟩ := hk13
        exact ⟨x, s, c, g14 k _ (Ne.symm hek) hx, by push_cast; omega⟩
      · have hnp : p ∉ P.take i := fun z => by
          have nd : P.Nodup := (hP.nodup_iff).mpr (ptsOf_nodup rows)
          rw [← List.take_append_drop i P] at nd
          have hd : p ∈ P.drop i := by
            rw [List.drop_eq_getElem_cons hlt]
            have : P[i] = p := by
              have := List.getElem?_eq_getElem hlt
              rw [hp] at this
              exact (Option.some.inj this).symm
            rw [this]
            exact List.mem_cons_self
          exact (List.nodup_append.mp nd).2.2 p z p hd rfl
        have e1 : P.take (i + 1) = P.take i ++ [p] := by rw [List.take_add_one, hp]; rfl
        rw [e1]
        unfold prT mkD PD.kv
        rw [List.map_append, List.map_append, List.map_append]
        congr 1
        · rw [List.map_map, List.map_map, List.map_map, List.map_map]
          refine List.map_congr_left fun x hx => ?_
          show D.tup [x.d, .int (g x)] = D.tup [x.d, .int (updP g p t x)]
          rw [updP_ne (fun z => hnp (by rw [← z]; exact hx))]
        · show [D.tup [p.d, .int t]] = [D.tup [p.d, .int (updP g p t p)]]
          rw [updP_same]
      · unfold updP
        split
        · omega
        · exact bdg x
    refine ⟨hMl, _, rfl, fun K kk => kk _ _ ?_⟩
    simp only [if_true]
    intro K kk
    refine ⟨_, rfl, _, rfl, _, Pt.eqR (q := .s "") hpok (by decide +kernel), _, rfl, ?_⟩
    cases hd : decide (p = .s "") with
    | true =>
      simp only [Bool.not_true, Bool.false_eq_true, if_false]
      exact ⟨szd (show 2 ≤ 1000 by decide), kk _ _ (step 0 _ (by decide) (by decide) (fun _ _ _ h => h) (hkJ.mono (by omega)))⟩
    | false =>
      simp only [Bool.not_false, if_true]
      refine ⟨_, rfl, k, 9, _, rfl, hkJ, by decide, by decide, by omega, fun t M13 t0 t1 g13 hk13 => ?_⟩
      exact ⟨szd (show 2 ≤ 1000 by decide), kk _ _ (step (t - 4) _ (by omega) (by omega) g13 hk13)⟩
  · obtain ⟨gJ, hkJ, hiJ, g, rfl, bdg⟩ := hJ
    have eL : (Src.lst l (P.map Pt.d)).items.length = P.length := by show (P.map Pt.d).length = _; rw [List.length_map]
    rw [eL] at hkJ
    rw [eL, List.take_length] at hacc
    have g13' : GroBut k M M' := fun b o hb h => gJ b o hb (g2 b o h)
    refine ⟨gJ l _ hlk hM2, dict_of hacc ((hP.nodup_iff).mpr (ptsOf_nodup rows)) fun e2 he2 => ⟨_, rfl, ?_⟩⟩
    have g14 := Gro.new (o := .dct (mkD P fun p => .int (g p)).kv) he2
    exact q e2 P g _ (fun b o hb h => g14 _ _ (g13' b o hb h)) ((hkJ.gro g14).mono (by omega)) (fresh_but g13' hkJ he2) up3_same hP bdg
end L3

set_option Elab.async false
set_option linter.all false
set_option maxRecDepth 100000
set_option maxHeartbeats 1000000
/-! E22d: _law_right. -/
namespace L3
open PySem PySem.Spec PyProof.Rows L2
def NumW (rows : List Row) (M0 M : Hp3) (v : D) : Prop := v = .non ∨ ∃ (a : Addr) (P : List Pt) (f : Pt → Int), v = .ref a ∧ M0 a = none ∧ M a = some (.dct (mkD P fun p => .int (f p)).kv) ∧ P.Perm (ptsOf rows) ∧ ∀ p, -(10 ^ 40) ≤ f p ∧ f p ≤ 10 ^ 40
theorem right_t0 (Γ : Nat → Sp3) (h14 : Γ 14 = sp_fitted) (h16 : Γ 16 = sp_ring_of) {rows : List Row} {M : Hp3} {x0 x2 x3 x4 x5 x6 x7 x8 x9 x10 x11 x12 : Option D} (hr : RowsG rows) {D0 : Ends3} {R : ISs}
    (q : ∀ (v0 w0 : D) (M' : Hp3), Gro M M' → NumW rows M M' v0 → (w0 = .non ∨ IntT w0) → WSs C23 Γ R D0 [x0, some (.tup (rows.map Row.d)), x2, x3, x4, x5, x6, some v0, some w0, x9, x10, x11, x12] M') :
    WSs C23 Γ (.cons (itemN 0 I_law_right) R) D0 [x0, some (.tup (rows.map Row.d)), x2, x3, x4, x5, x6, x7, x8, x9, x10, x11, x12] M := by
  simp only [I_law_right, itemN, WSs, WS, WE, WX, mkT, WA, WP, WT, WI, WO, h14, h16]
  have hrl := hr.len
  have tl : ∀ (v0 : D) (M1 : Hp3), Gro M M1 → NumW rows M M1 v0 → sp_ring_of [.tup (rows.map Row.d)] M1 fun d M2 => [v0, d].length ≤ sizeLine ∧ ∃ σ1, asgT (.many [7, 8]) (.tup [v0, d]) [x0, some (.tup (rows.map Row.d)), x2, x3, x4, x5, x6, x7, x8, x9, x10, x11, x12] = some σ1 ∧ WSs C23 Γ R D0 σ1 M2 := fun v0 M1 g1 hv => by
    have hv' : ∀ M2, Gro M1 M2 → NumW rows M M2 v0 := fun M2 g => hv.imp id fun ⟨a, P, f, e, h0, h, r⟩ => ⟨a, P, f, e, h0, g _ _ h, r⟩
    refine ⟨rows, rfl, hr, fun M2 g2 => ⟨szd (show 2 ≤ 1000 by decide), _, rfl, q v0 .non M2 (g1.trans g2) (hv' _ g2) (.inl rfl)⟩, fun M2 is g2 h1 h2 => ⟨szd (show 2 ≤ 1000 by decide), _, rfl, q v0 _ M2 (g1.trans g2) (hv' _ g2) (.inr ⟨is.map fun (i : Nat) => (i : Int), by rw [List.map_map]; rfl, by rw [List.length_map]; exact h2, fun i hi => ?_⟩)⟩⟩
    obtain ⟨n, hn, rfl⟩ := List.mem_map.mp hi
    have := h1 n hn
    omega
  refine ⟨_, rfl, rows, rfl, hr, fun M1 g1 => ⟨_, rfl, ?_⟩, fun M1 a P f g1 ha hM1 hP hf => ⟨_, rfl, ?_⟩⟩
  · exact tl .non M1 g1 (.inl rfl)
  · exact tl (.ref a) M1 g1 (.inr ⟨a, P, f, rfl, ha, hM1, hP, hf⟩)
theorem right_split : I_law_right = .cons (itemN 0 I_law_right) (.cons (itemN 1 I_law_right) (.cons (itemN 2 I_law_right) (.cons (itemN 3 I_law_right) (.cons (itemN 4 I_law_right) (.cons (itemN 5 I_law_right) (.cons (itemN 6 I_law_right) (tailN 7 I_law_right))))))) := rfl
theorem right_spec (Γ : Nat → Sp3) (h14 : Γ 14 = sp_fitted) (h15 : Γ 15 = sp_fitq2) (h16 : Γ 16 = sp_ring_of) (h17 : Γ 17 = sp_ringq) (h19 : Γ 19 = sp_tap) (h22 : Γ 22 = sp_points) (h23 : Γ 23 = sp_choice) (h24 : Γ 24 = sp_near_numbers) (h25 : Γ 25 = sp_walk) (h26 : Γ 26 = sp_near_ring) (h29 : Γ 29 = sp_fitq) (h30 : Γ 30 = sp_ringq) (ds : List D) (M : Hp3) (Q : VK3) (h : sp_right ds M Q) : WSs C23 Γ I_law_right { nx := fun _ M' => Q .non M', rt := Q } (start3 N_law_right ds) M := by
  obtain ⟨k, B, rows, rfl, hk, hr, hB, q⟩ := h
  have hrl := hr.len
  have numD : ∀ {N : Hp3} {a : Addr} {P : List Pt} {f : Pt → Int}, N a = some (.dct (mkD P fun p => .int (f p)).kv) → P.Perm (ptsOf rows) → (∀ p, -(10 ^ 42) ≤ f p ∧ f p ≤ 10 ^ 42) → NumD N a P f := fun {N a P f} h hP hf =>
    ⟨h, (hP.nodup_iff).mpr (ptsOf_nodup rows), by
      have := hP.length_eq
      have := ptsOf_len rows
      omega, fun p hp => good_pts hr p (hP.mem_iff.mp hp), hf⟩
  have kne : ∀ {M' : Hp3} {B' : Int}, KegAt M' k B' → M' k ≠ none := fun ⟨x, s, c, e, _⟩ => by rw [e]; simp
  rw [right_split]
  show WSs C23 Γ _ _ [some (.ref k), some (.tup (rows.map Row.d)), none, none, none, none, none, none, none, none, none, none, none] M
  refine right_t0 Γ h14 h16 hr fun v0 w0 M1 g1 hv0 hw0 => ?_
  refine right_t1 Γ h19 h22 hr (hk.gro g1) (by omega) fun e P g M2 g2 hk2 he hM2 hP hg => ?_
  have he2k : e ≠ k := fun z => by rw [z] at he; exact kne (hk.gro g1) he
  refine right_t2 Γ (v1 := .non) (hv0.imp id fun ⟨a, P, f, e, _⟩ => ⟨a, e⟩) fun s hs => ?_
  have gs := Gro.new (o := .lst [orD v0 (.ref e), .ref e]) hs
  have hsk := hk2.ne hs
  have gN : Gro (hid k M2) (up3 M2 s (.lst [orD v0 (.ref e), .ref e])) := hid_gro.trans gs
  have hNs : hid k M2 s = none := by rw [hid_ne hsk]; exact hs
  have numE : NumV (hid k M2) (.ref e) := ⟨e, P, g, rfl, numD (by rw [hid_ne he2k]; exact hM2) hP fun p => by have := hg p; omega⟩
  refine right_t3 Γ h23 h24 hr gN hid_at hNs (hk2.gro gs) (by omega) hsk up3_same (fun w hw => ?_) fun y4 N1 M3 us g3 gN1 gM3 hN1k hN1s hk3 hM3 hus => ?_
  · simp only [List.mem_cons, List.mem_nil_iff, or_false] at hw
    rcases hw with rfl | rfl
    · rcases hv0 with rfl | ⟨a, P0, f, rfl, ha0, ha, hP0, hf⟩
      · exact numE
      · have hak : a ≠ k := fun z => by
          rw [z] at ha0
          exact kne hk ha0
        exact ⟨a, P0, f, rfl, numD (by rw [hid_ne hak]; exact g2 a _ hak ha) hP0 fun p => by have := hf p; omega⟩
    · exact numE
  have hs0 : M s = none := g1.fresh (fresh_but g2 hk2 hs)
  refine right_t4 Γ h25 hr hk3 (by omega) hw0 fun r u0 u1 u2 M4 g4 hr0 hM4 hu hk4 => ?_
  have hrk : r ≠ k := fun z => by rw [z] at hr0; exact kne hk3 hr0
  have hrs : r ≠ s := fun z => by rw [z, hM3] at hr0; cases hr0
  have gN14 : Gro N1 M4 := fun b o h => g4 b o (fun z => by rw [z, hN1k] at h; cases h) (gM3 _ _ h)
  refine right_t5 Γ h23 h26 hr gN14 hN1k (gM3.fresh hr0) hk4 (by omega) hrk hM4 hu fun y4' N2 M5 ws g5 gN2 gM5 hN2k hN2r hk5 hM5 hws => ?_
  have hM5s := g5 s _ hsk (Ne.symm hrs) (g4 s _ hsk hM3)
  refine right_t6 Γ h15 h29 hr gM5 hM5s (fun v hv => (hus v hv).gro gN2) rfl fun y6 y9 y10 y11 M6 g6 => ?_
  refine right_t7 Γ h17 h30 hr (gM5.trans g6) (g6 _ _ hM5) hws fun M7 g7 => ?_
  refine q M7 (fun b o hb h => ?_) ((hk5.gro (g6.trans g7)).mono (by omega))
  have h1 := g2 b o hb (g1 b o h)
  have hbs : b ≠ s := fun z => by rw [z, hs0] at h; cases h
  have h3 := g3 b o hb hbs (gs _ _ h1)
  have hbr : b ≠ r := fun z => by rw [z, hr0] at h3; cases h3
  exact g7 _ _ (g6 _ _ (g5 b o hb hbr (g4 b o hb h3)))
end L3

set_option Elab.async false
set_option linter.all false
set_option maxRecDepth 100000
set_option maxHeartbeats 1000000
/-! E23a: law, the drawn part. -/
namespace L3
open PySem PySem.Spec PyProof.Rows L2
theorem menu_good : ∀ x ∈ Pt.s "" :: menu, x.ok = true ∧ isPointD x.d = true := by decide +kernel
theorem rowsG_of {pts : List Pt} {rows : List Row} (hp : ∀ x ∈ pts, x ∈ Pt.s "" :: menu) (h : RowsOf pts rows) : RowsG rows := by
  obtain ⟨hl, hr⟩ := h
  refine ⟨by omega, fun r hm => ?_, fun r hm => (hr r hm).2.2, fun r hm => ?_⟩
  · obtain ⟨ha, hb, _⟩ := hr r hm
    have h1 := (menu_good _ (hp _ ha)).1
    have h2 := (menu_good _ (hp _ hb)).1
    show (r.a.ok && r.b.ok) = true
    rw [h1, h2]
    rfl
  · obtain ⟨ha, hb, w0, w1⟩ := hr r hm
    have h1 := (menu_good _ (hp _ ha)).2
    have h2 := (menu_good _ (hp _ hb)).2
    show (isPointD r.a.d && (isPointD r.b.d && (decide (-(10 ^ 60) < r.w) && decide (r.w < 10 ^ 60)))) = true
    rw [h1, h2, decide_eq_true (by omega), decide_eq_true (by omega)]
    rfl
theorem law_t0 (Γ : Nat → Sp3) (h18 : Γ 18 = sp_keg) (h19 : Γ 19 = sp_tap) (h21 : Γ 21 = sp_drawn) (h23 : Γ 23 = sp_choice) (h31 : Γ 31 = sp_right) (h32 : Γ 32 = sp_differences) {d : D} {ns : List Int} {M : Hp3} {x1 x2 x3 x4 x5 x6 x7 x8 x9 x10 : Option D} (hs : Script M ns d) {D0 : Ends3} {R : ISs}
    (q : ∀ (y1 y5 y6 y7 : Option D) (M' : Hp3), WSs C23 Γ R D0 [some d, y1, x2, x3, x4, y5, y6, y7, x8, x9, x10] M') :
    WSs C23 Γ (.cons (itemN 0 I_law) R) D0 [some d, x1, x2, x3, x4, x5, x6, x7, x8, x9, x10] M := by
  simp only [I_law, itemN, WSs, WS, WE, WX, mkT, WA, WP, WT, WI, WO, h18, h19, h21, h23, h31, h32]
  refine ⟨_, rfl, d, _, rfl, hs.len, 5, _, rfl, 1, _, rfl, _, rfl, ?_, ?_, ?_⟩
  · split <;> split <;> omega
  · split <;> split <;> omega
  refine loopW_inv0 (fun i σ M' => Script M' ns d ∧ ∃ y1 y5 y6 y7 : Option D, σ = [some d, y1, x2, x3, x4, y5, y6, y7, x8, x9, x10]) (fun i x σ M' hx hJ => ?_) (fun σ M' hJ => ?_) ⟨hs, _, _, _, _, rfl⟩
  · obtain ⟨hs', y1, y5, y6, y7, rfl⟩ := hJ
    have hx : ((List.range (if (if (ns.length : Int) < 5 then (ns.length : Int) else 5) > 1 then (if (ns.length : Int) < 5 then (ns.length : Int) else 5) else 1).toNat).map fun (i : Nat) => D.int (i : Int))[i]? = some x := hx
    rw [List.getElem?_map] at hx
    obtain ⟨n, hn, rfl⟩ := Option.map_eq_some_iff.mp hx
    have hn5 : n ≤ 100 := by
      have := List.mem_range.mp (List.mem_of_getElem? hn)
      split at this <;> split at this <;> omega
    refine ⟨trivial, _, rfl, fun nx hnx => ?_⟩
    refine ⟨_, rfl, _, rfl, d, ns, n, rfl, hs', hn5, fun k M1 g1 hk hk1 => ⟨_, rfl, ?_⟩⟩
    have hs1 := hs'.gro g1
    have but : ∀ {M2 : Hp3}, GroBut k M1 M2 → Script M2 ns d := fun {M2} g => by
      cases hs' with
      | ro h => exact .ro (g _ _ (fun z => by rw [z, hk] at h; cases h) (g1 _ _ h))
      | sl => exact .sl
    refine ⟨_, rfl, _, rfl, k, 4, _, rfl, hk1, by decide, by decide, by decide, fun t M2 t0 t1 g2 hk2 => ?_⟩
    refine ⟨k, _, _, rfl, hk2, by omega, by omega, by decide, fun pts p M3 hp p0 p13 g3 hp2 hM3 hk3 => ⟨_, rfl, ?_⟩⟩
    have hpk : p ≠ k := fun z => by
      obtain ⟨x, s, c, e, _⟩ := hk2
      rw [z, e] at hp2
      cases hp2
    refine ⟨3, rfl, by decide, by decide, ?_⟩
    refine loopW_inv0 (fun j σ M' => GroBut k M1 M' ∧ M' p = some (.lst (pts.map Pt.d)) ∧ KegAt M' k (200 + 5000 * (j : Int)) ∧ ∃ y7 : Option D, σ = [some d, some (.int (n : Int)), x2, x3, x4, some (.ref k), some (.ref p), y7, x8, x9, x10]) (fun j x σ M' hx hJ => ?_) (fun σ M' hJ => ?_) ⟨g2.trans g3, hM3, hk3.mono (by omega), _, rfl⟩
    · obtain ⟨gJ, hpJ, hkJ, y7, rfl⟩ := hJ
      have hj : j < 3 := by
        have := List.getElem?_eq_some_iff.mp hx
        obtain ⟨h, _⟩ := this
        have e : (Src.items (.rng (3 : Int).toNat)).length = 3 := rfl
        rw [e] at h
        exact h
      refine ⟨trivial, _, rfl, fun nx2 hnx2 => ?_⟩
      refine ⟨_, rfl, _, rfl, _, rfl, _, rfl, k, 11, _, rfl, hkJ, by decide, by decide, by omega, fun c M4 c0 c1 g4 hk4 => ?_⟩
      refine ⟨_, rfl, szd (show 2 ≤ 1000 by decide), fun l hl => ?_⟩
      have gl := Gro.new (o := .lst [D.int 2, .int 4]) hl
      refine ⟨k, l, _, _, rfl, hk4.gro gl, up3_same, by show 0 < 2; decide, by show 2 ≤ 10000; decide, hk4.ne hl, by omega, fun w M5 hw g5 hk5 => ?_⟩
      have hwi : ∃ i : Int, w = .int i ∧ 0 ≤ i ∧ i ≤ 10 := by
        simp only [List.mem_cons, List.mem_nil_iff, or_false] at hw
        rcases hw with rfl | rfl
        · exact ⟨2, rfl, by decide, by decide⟩
        · exact ⟨4, rfl, by decide, by decide⟩
      obtain ⟨i, rfl, i0, i1⟩ := hwi
      have hp5 := g5 p _ hpk (gl _ _ (g4 p _ hpk hpJ))
      refine ⟨k, p, c, i, _, pts, rfl, hk5, hp5, p0, by omega, hpk, c0, by omega, i0, i1, by omega, fun rows M6 hrows g6 hk6 => ?_⟩
      refine ⟨k, _, rows, rfl, hk6, rowsG_of hp hrows, by omega, fun M7 g7 hk7 => ⟨_, rfl, ?_⟩⟩
      rw [if_neg (by decide)]
      exact hnx2 _ _ ⟨fun b o hb h => g7 b o hb (g6 b o hb (g5 b o hb (gl _ _ (g4 b o hb (gJ b o hb h))))), g7 p _ hpk (g6 p _ hpk hp5), hk7.mono (by push_cast; omega), _, rfl⟩
    · obtain ⟨gJ, hpJ, hkJ, y7, rfl⟩ := hJ
      exact ⟨trivial, hnx _ _ ⟨but gJ, _, _, _, _, rfl⟩⟩
  · obtain ⟨hs', y1, y5, y6, y7, rfl⟩ := hJ
    exact ⟨trivial, q _ _ _ _ M'⟩
end L3

set_option Elab.async false
set_option linter.all false
set_option maxRecDepth 100000
set_option maxHeartbeats 1000000
/-! E23b: law, the fixed part. -/
namespace L3
open PySem PySem.Spec PyProof.Rows L2
def R4 : List Row := [⟨.s "i", .s "j", 2⟩, ⟨.s "j", .s "i", -3⟩, ⟨.s "i", .s "i", 0⟩, ⟨.s "j", .s "j", 5⟩]
def L8 : List (List Int) := [[0, 1], [1, 0], [1, 2, 0], [0, 3, 1], [0, 1, 0, 1, 0, 1], [2], [0, 0], [1, 3, 0]]
def B8 : List Bool := [true, true, true, false, true, false, false, false]
def R1 (due : Int) : List Row := [⟨.t "a" "i" due, .s "", 0⟩]
theorem r4_good : RowsG R4 := ⟨by decide, by decide +kernel, by decide +kernel, by decide +kernel⟩
theorem r1_good {due : Int} (h : due = 0 ∨ due = 1) : RowsG (R1 due) := by
  rcases h with rfl | rfl
  · exact ⟨by decide, by decide +kernel, by decide +kernel, by decide +kernel⟩
  · exact ⟨by decide, by decide +kernel, by decide +kernel, by decide +kernel⟩
theorem ringR_ints {rows : List Row} {N : Hp3} {is : List Int} (hl : is.length ≤ 400) (hb : ∀ i ∈ is, -(10 ^ 20) ≤ i ∧ i ≤ 10 ^ 20) : RingR rows N (.tup (is.map D.int)) (ringB rows (is.map D.int)) := by
  obtain ⟨b, hb⟩ := (valR_ints (N := N) hl hb).f rows
  rcases hb with ⟨_, n, _⟩ | ⟨vs, e, l, t, h, rfl⟩
  · exact absurd rfl (n _)
  · have e := D.tup.inj e
    subst e
    exact .inr ⟨_, rfl, l, t, h, rfl⟩
theorem b8_eq : (L8.map fun is => ringB R4 (is.map D.int)) = B8 := by decide +kernel
theorem big_eq : ringB R4 ([0, 1, 0, 1, 0, 1, 0, 1, 0, 1, 0, 1, 0, 3, 1].map D.int) = true := by decide +kernel
theorem l8_ok : ∀ is ∈ L8, is.length ≤ 400 ∧ ∀ i ∈ is, -(10 ^ 20) ≤ i ∧ i ≤ 10 ^ 20 := by decide +kernel
theorem DataAts.bls {M : Hp3} : ∀ bs : List Bool, DataAts M (bs.map D.bl) (bs.map PyData.bool)
  | [] => .nil
  | b :: bs => .cons (.bl b) (DataAts.bls bs)
theorem bls_eq {M : Hp3} {a b : Addr} {bs : List Bool} (ha : M a = some (.lst (bs.map D.bl))) (hb : M b = some (.lst (bs.map D.bl))) (hs : SeqAt.shaped (.list (bs.map PyData.bool)) = true) (he : PyData.eqv (.list (bs.map PyData.bool)) (.list (bs.map PyData.bool)) = true) : eqR M (.ref a) (.ref b) true :=
  ⟨_, _, .lst ha (DataAts.bls bs), .lst hb (DataAts.bls bs), hs, hs, he.symm⟩
theorem puts2 {k1 k2 v1 v2 : D} {n1 n2 : NestedKey} (h1 : keyOf k1 = some n1) (h2 : keyOf k2 = some n2) (hne : n1 ≠ n2) : putsD [] [(k1, v1), (k2, v2)] = [(k1, v1), (k2, v2)] := by
  have e1 : ∀ acc n k v r, keyOf k = some n → putsD acc ((k, v) :: r) = putsD (putD acc n k v) r := fun acc n k v r h => by
    show (match keyOf k with
      | some n => putsD (putD acc n k v) r
      | none => putsD acc r) = _
    rw [h]
  rw [e1 _ _ _ _ _ h1, e1 _ _ _ _ _ h2]
  show putD (putD [] n1 k1 v1) n2 k2 v2 = _
  have e2 : putD [] n1 k1 v1 = [(k1, v1)] := rfl
  rw [e2]
  unfold putD
  rw [if_neg]
  · rfl
  · simp [h1, hne]
theorem key_zero : keyOf (.str "") = some (.text "") := rfl
theorem key_abl (b : Bool) : keyOf (.tup [.str "a", .str "i", .bl b]) = some (.tup [.text "a", .text "i", .num (if b = true then 1 else 0)]) := by cases b <;> rfl
theorem key_aint (i : Int) : keyOf (.tup [.str "a", .str "i", .int i]) = some (.tup [.text "a", .text "i", .num i]) := rfl
theorem law_t1 (Γ : Nat → Sp3) (h15 : Γ 15 = sp_fitq2) (h17 : Γ 17 = sp_ringq) {M : Hp3} {Q : VK3} {x0 x1 x2 x3 x4 x5 x6 x7 x8 x9 x10 : Option D} (q : ∀ M', Q (.bl true) M') :
    WSs C23 Γ (tailN 1 I_law) { nx := fun _ M' => Q .non M', rt := Q } [x0, x1, x2, x3, x4, x5, x6, x7, x8, x9, x10] M := by
  simp only [I_law, tailN, WSs, WS, WE, WX, mkT, WA, WP, WT, WI, WO, h15, h17]
  refine ⟨szd (show 3 ≤ 1000 by decide), 3, rfl, szd (show 3 ≤ 1000 by decide), szd (show 3 ≤ 1000 by decide), szd (show 3 ≤ 1000 by decide), szd (show 4 ≤ 1000 by decide), _, rfl, ?_⟩
  refine ⟨szd (show 2 ≤ 1000 by decide), szd (show 2 ≤ 1000 by decide), szd (show 3 ≤ 1000 by decide), szd (show 3 ≤ 1000 by decide), szd (show 6 ≤ 1000 by decide), szd (show 1 ≤ 1000 by decide), szd (show 2 ≤ 1000 by decide), szd (show 3 ≤ 1000 by decide), szd (show 8 ≤ 1000 by decide), _, rfl, ?_⟩
  refine ⟨_, rfl, fun p hp => ?_⟩
  refine lcW_pur (fun d => match d with
    | .tup vs => some (.bl (ringB R4 vs))
    | _ => none) hp (fun _ _ => trivial) (szd (show 8 ≤ 1000 by decide)) (fun x hx M1 g1 => ?_) fun M1 g1 hM1 => ?_
  · have hx : x ∈ L8.map fun is => D.tup (is.map D.int) := hx
    obtain ⟨is, his, rfl⟩ := List.mem_map.mp hx
    obtain ⟨l1, l2⟩ := l8_ok is his
    refine ⟨_, rfl, evT_yes, fun y hy M2 g2 K k => ?_⟩
    cases hy
    exact ⟨_, rfl, _, rfl, R4, _, _, rfl, r4_good, ringR_ints l1 l2, fun M3 g3 => k _ _ ⟨rfl, g3⟩⟩
  have e8 : (L8.map fun is => D.tup (is.map D.int)).filterMap (fun d => match d with
    | .tup vs => some (D.bl (ringB R4 vs))
    | _ => none) = B8.map D.bl := by
    rw [List.filterMap_map, ← b8_eq, List.map_map]
    show L8.filterMap (fun is => some (D.bl (ringB R4 (is.map D.int)))) = _
    rw [List.filterMap_eq_map']
    rfl
  have hM1 : M1 p = some (.lst (B8.map D.bl)) := hM1.trans (congrArg (fun l => some (MO.lst l)) e8)
  refine ⟨_, rfl, _, rfl, szd (show 8 ≤ 1000 by decide), fun e he => ?_⟩
  have ge := Gro.new (o := .lst (B8.map D.bl)) he
  refine ⟨_, bls_eq (bs := B8) (ge _ _ hM1) up3_same (by decide +kernel) (by decide +kernel), _, rfl, ?_⟩
  rw [if_neg (by decide)]
  refine ⟨_, rfl, szd (show 2 ≤ 1000 by decide), by decide, by decide, by decide, szd (show 3 ≤ 1000 by decide), (fun h => by cases h), szd (show 15 ≤ 1000 by decide), ?_⟩
  refine ⟨R4, _, _, rfl, r4_good, ringR_ints (is := [0, 1, 0, 1, 0, 1, 0, 1, 0, 1, 0, 1, 0, 3, 1]) (by decide) (by decide), fun M2 g2 => ⟨_, rfl, ?_⟩⟩
  rw [big_eq, if_neg (by decide)]
  refine ⟨szd (show 2 ≤ 1000 by decide), szd (show 2 ≤ 1000 by decide), szd (show 2 ≤ 1000 by decide), szd (show 2 ≤ 1000 by decide), szd (show 4 ≤ 1000 by decide), fun u hu => ⟨_, rfl, _, rfl, .inl ⟨_, up3_same, fun f hf => ?_⟩⟩⟩
  refine lcW_pur (fun d => match d with
    | .tup [.int _, .int _] => some (.bl true)
    | .tup [.int _, .bl _] => some (.bl false)
    | _ => none) hf (fun M' g' => g' _ _ up3_same) (szd (show 4 ≤ 1000 by decide)) (fun x hx M3 g3 => ?_) fun M3 g3 hM3 => ?_
  · have hx : x ∈ [D.tup [.int 1, .int 1], .tup [.int 1, .bl true], .tup [.int 0, .int 0], .tup [.int 0, .bl false]] := hx
    simp only [List.mem_cons, List.mem_nil_iff, or_false] at hx
    have yes : ∀ {due : Int} {M4 M5 : Hp3} {K : VK3} {a : Addr}, due = 0 ∨ due = 1 → Gro M4 M5 → M5 a = some (.dct (mkD [.s "", .t "a" "i" due] fun _ => .int 0).kv) → (∀ d M', d = .bl true ∧ Gro M4 M' → K d M') → sp_fitq2 [.tup [.tup [.tup [.str "a", .str "i", .int due], .str "", .int 0]], .ref a] M5 K := fun {due M4 M5 K a} hd g ha kk => by
      refine .inl ⟨R1 due, .ref a, true, rfl, r1_good hd, .inr ⟨a, [.s "", .t "a" "i" due], fun _ => .int 0, rfl, ⟨ha, by show 2 ≤ 100; decide, ?_, fun p _ => .int 0⟩, ?_⟩, fun M' g' => kk _ _ ⟨rfl, g.trans g'⟩⟩
      · rcases hd with rfl | rfl <;> decide +kernel
      · rcases hd with rfl | rfl <;> decide +kernel
    have no : ∀ {due : Int} {b : Bool} {M4 M5 : Hp3} {K : VK3} {a : Addr}, due = 0 ∨ due = 1 → Gro M4 M5 → M5 a = some (.dct [(.str "", .int 0), (.tup [.str "a", .str "i", .bl b], .int 0)]) → (∀ d M', d = .bl false ∧ Gro M4 M' → K d M') → sp_fitq2 [.tup [.tup [.tup [.str "a", .str "i", .int due], .str "", .int 0]], .ref a] M5 K := fun {due b M4 M5 K a} hd g ha kk => by
      refine .inr ⟨R1 due, .ref a, rfl, r1_good hd, ⟨a, _, rfl, ha, by show 2 ≤ 100; decide, fun p hp M' => ?_, ?_⟩, fun M' g' => kk _ _ ⟨rfl, g.trans g'⟩⟩
      · simp only [List.mem_cons, List.mem_nil_iff, or_false] at hp
        have t : ∀ {x : Str}, okS x = true → Tame M' (.str x) := fun h => .str (okS_len h) (okS_ok h)
        rcases hp with rfl | rfl
        · exact t (by decide +kernel)
        · refine .tup fun d hd => ?_
          simp only [List.mem_cons, List.mem_nil_iff, or_false] at hd
          rcases hd with rfl | rfl | rfl
          · exact t (by decide +kernel)
          · exact t (by decide +kernel)
          · exact .bl b
      · cases b <;> decide +kernel
    rcases hx with rfl | rfl | rfl | rfl
    · refine ⟨_, rfl, evT_yes, fun y hy M4 g4 K k => ?_⟩
      cases hy
      refine ⟨_, rfl, szd (show 3 ≤ 1000 by decide), szd (show 3 ≤ 1000 by decide), szd (show 1 ≤ 1000 by decide), _, rfl, szd (show 3 ≤ 1000 by decide), by decide +kernel, by decide, fun a ha => ?_⟩
      exact yes (.inr rfl) (Gro.new ha) (up3_same.trans (congrArg (fun l => some (MO.dct l)) (puts2 key_zero (key_aint 1) (by intro h; cases h)))) k
    · refine ⟨_, rfl, evT_yes, fun y hy M4 g4 K k => ?_⟩
      cases hy
      refine ⟨_, rfl, szd (show 3 ≤ 1000 by decide), szd (show 3 ≤ 1000 by decide), szd (show 1 ≤ 1000 by decide), _, rfl, szd (show 3 ≤ 1000 by decide), by decide +kernel, by decide, fun a ha => ?_⟩
      exact no (b := true) (.inr rfl) (Gro.new ha) (up3_same.trans (congrArg (fun l => some (MO.dct l)) (puts2 key_zero (key_abl true) (by intro h; cases h)))) k
    · refine ⟨_, rfl, evT_yes, fun y hy M4 g4 K k => ?_⟩
      cases hy
      refine ⟨_, rfl, szd (show 3 ≤ 1000 by decide), szd (show 3 ≤ 1000 by decide), szd (show 1 ≤ 1000 by decide), _, rfl, szd (show 3 ≤ 1000 by decide), by decide +kernel, by decide, fun a ha => ?_⟩
      exact yes (.inl rfl) (Gro.new ha) (up3_same.trans (congrArg (fun l => some (MO.dct l)) (puts2 key_zero (key_aint 0) (by intro h; cases h)))) k
    · refine ⟨_, rfl, evT_yes, fun y hy M4 g4 K k => ?_⟩
      cases hy
      refine ⟨_, rfl, szd (show 3 ≤ 1000 by decide), szd (show 3 ≤ 1000 by decide), szd (show 1 ≤ 1000 by decide), _, rfl, szd (show 3 ≤ 1000 by decide), by decide +kernel, by decide, fun a ha => ?_⟩
      exact no (b := false) (.inl rfl) (Gro.new ha) (up3_same.trans (congrArg (fun l => some (MO.dct l)) (puts2 key_zero (key_abl false) (by intro h; cases h)))) k
  have hM3 : M3 f = some (.lst ([true, false, true, false].map D.bl)) := hM3
  refine ⟨_, rfl, _, rfl, szd (show 4 ≤ 1000 by decide), fun v hv => ?_⟩
  have gv := Gro.new (o := .lst ([true, false, true, false].map D.bl)) hv
  exact ⟨true, bls_eq (bs := [true, false, true, false]) (gv _ _ hM3) up3_same (by decide +kernel) (by decide +kernel), q _⟩
theorem law_split : I_law = .cons (itemN 0 I_law) (tailN 1 I_law) := rfl
abbrev sp_law : Sp3 := fun ds M Q => ∃ (d : D) (ns : List Int), ds = [d] ∧ Script M ns d ∧ ∀ M' : Hp3, Q (.bl true) M'
theorem law_spec (Γ : Nat → Sp3) (h15 : Γ 15 = sp_fitq2) (h17 : Γ 17 = sp_ringq) (h18 : Γ 18 = sp_keg) (h19 : Γ 19 = sp_tap) (h21 : Γ 21 = sp_drawn) (h23 : Γ 23 = sp_choice) (h31 : Γ 31 = sp_right) (h32 : Γ 32 = sp_differences) (ds : List D) (M : Hp3) (Q : VK3) (h : sp_law ds M Q) : WSs C23 Γ I_law { nx := fun _ M' => Q .non M', rt := Q } (start3 N_law ds) M := by
  obtain ⟨d, ns, rfl, hs, q⟩ := h
  rw [law_split]
  show WSs C23 Γ _ _ [some d, none, none, none, none, none, none, none, none, none, none] M
  exact law_t0 Γ h18 h19 h21 h23 h31 h32 hs fun y1 y5 y6 y7 M' => law_t1 Γ h15 h17 q
end L3

set_option Elab.async false
set_option linter.all false
set_option maxRecDepth 100000
set_option maxHeartbeats 4000000
/-! E24 (printed by gen2.py): each def keeps its promise. -/
namespace L3
open PySem PySem.Spec PyProof.Rows L2

def AllP {α : Type} (p : α → Prop) : List α → Prop
  | [] => True
  | x :: r => p x ∧ AllP p r
theorem lookup_mem {x : Str} {g : GK} : ∀ {G : GEnv}, G.lookup x = some g → (x, g) ∈ G
  | [], h => by cases h
  | (y, u) :: r, h => by
    rw [List.lookup_cons] at h
    cases e : (x == y) with
    | true =>
      rw [e] at h
      cases h
      rw [eq_of_beq e]
      exact List.mem_cons_self
    | false =>
      rw [e] at h
      exact List.mem_cons_of_mem _ (lookup_mem h)
theorem AllP.mem {α : Type} {p : α → Prop} : ∀ {l : List α}, AllP p l → ∀ x ∈ l, p x
  | [], _, _, h => by cases h
  | y :: r, hp, x, h => (List.mem_cons.mp h).elim (fun e => e ▸ hp.1) (AllP.mem hp.2 x)
/-- what a name of a body stands for -/
def EntP (C : Nat → D) (Γ : Nat → Sp3) (P : Program) (w : World) (K : PySem.W.Frag) (mg : Str → Option Value) (base : Heap) (k : Nat) (q : Str × GK) : Prop := match q.2 with
  | .fn i => CalG P w K mg base k q.1 (Γ i)
  | .con i => ConG K mg q.1 (C i)
  | .blt => mg q.1 = none
theorem envG_of {G : GEnv} {C : Nat → D} {Γ : Nat → Sp3} {P : Program} {w : World} {K : PySem.W.Frag} {mg : Str → Option Value} {base : Heap} {k : Nat}
    (sys : ∃ o, base.get? sysModules = some o ∧ o.cls = .type "dict") (h : AllP (EntP C Γ P w K mg base k) G) : EnvG G C Γ P w K mg base k :=
  ⟨sys, fun x i e => h.mem _ (lookup_mem e), fun x i e => h.mem _ (lookup_mem e), fun x e => h.mem _ (lookup_mem e)⟩
def dnA : List (Str × Stmt) := [("is_integer", S_is_integer), ("is_name", S_is_name), ("is_new", S_is_new), ("is_place", S_is_place), ("is_point", S_is_point), ("is_difference", S_is_difference), ("require_differences", S_require_differences), ("points_of", S_points_of), ("improved", S_improved), ("settled", S_settled), ("ring_in", S_ring_in), ("ring_of", S_ring_of), ("fitted", S_fitted), ("is_ring_of", S_is_ring_of), ("fitting", S_fitting), ("is_fitting", S_is_fitting), ("ring", S_ring)]
def dnB : List (Str × Stmt) := [("is_ring", S_is_ring), ("_law_keg", S_law_keg), ("_law_tap", S_law_tap), ("_law_choices", S_law_choices), ("_law_points_drawn", S_law_points_drawn), ("_law_points_in", S_law_points_in), ("_law_choice", S_law_choice), ("_law_near_numbers", S_law_near_numbers), ("_law_drawn_walk", S_law_drawn_walk), ("_law_near_ring", S_law_near_ring), ("_law_is_whole", S_law_is_whole), ("_law_are_true", S_law_are_true), ("_law_fits_due", S_law_fits_due), ("_law_ring_due", S_law_ring_due), ("_law_right", S_law_right), ("_law_differences", S_law_differences), ("law", S_law)]
def dn : List (Str × Stmt) := dnA ++ dnB
def cn : List Str := ["MAX_NAME", "GREATEST", "LETTERS", "MAX_DIFFERENCES", "ZERO", "NEW_MARK", "DIGITS"]
def bn : List Str := ["abs", "all", "bool", "dict", "enumerate", "int", "isinstance", "iter", "len", "list", "max", "min", "next", "range", "repr", "sorted", "str", "sum", "tuple"]
/-- what the module's top has left -/
structure TopG (K : PySem.W.Frag) (mg : Str → Option Value) : Prop where
  fn : ∀ (i : Nat) (x : Str) (st : Stmt), dn[i]? = some (x, st) → ∃ f fd, FunD K x x (defArgs st) (defBody st) (defScope st) [] [] f fd ∧ mg x = some (.ref f)
  con : ∀ (i : Nat) (x : Str), cn[i]? = some x → ConG K mg x (C23 i)
  blt : ∀ (i : Nat) (x : Str), bn[i]? = some x → mg x = none
def Γ23 : Nat → Sp3
  | 0 => spQ isIntD
  | 1 => spQ isNameD
  | 2 => spQ isNewD
  | 3 => spQ isPlaceD
  | 4 => spQ isPointD
  | 5 => spQ isDiffD
  | 6 => sp_require
  | 7 => sp_points
  | 8 => sp_improved
  | 9 => sp_settled
  | 10 => sp_ring_in
  | 11 => sp_ring_of
  | 12 => sp_fitted
  | 13 => sp_ringq
  | 14 => sp_fitted
  | 15 => sp_fitq2
  | 16 => sp_ring_of
  | 17 => sp_ringq
  | 18 => sp_keg
  | 19 => sp_tap
  | 20 => sp_choices
  | 21 => sp_drawn
  | 22 => sp_points
  | 23 => sp_choice
  | 24 => sp_near_numbers
  | 25 => sp_walk
  | 26 => sp_near_ring
  | 27 => spQ isIntD
  | 28 => sp_true
  | 29 => sp_fitq
  | 30 => sp_ringq
  | 31 => sp_right
  | 32 => sp_differences
  | 33 => sp_law
  | _ => fun _ _ _ => False
section
variable {P : Program} {w : World} {K : PySem.W.Frag} {mg : Str → Option Value} {base : Heap}
theorem c_is_integer (sys : ∃ o, base.get? sysModules = some o ∧ o.cls = .type "dict") (T : TopG K mg) : CalG P w K mg base 1 "is_integer" (Γ23 0) := by
  obtain ⟨f, fd, F, hm⟩ := T.fn 0 "is_integer" S_is_integer rfl
  exact cal_def (k := 0) F hm sc_is_integer ck_is_integer (fun _ _ _ _ _ _ us hl => match us, hl with | [_], _ => rfl) (fun ds M Q h => by obtain ⟨_, rfl, _⟩ := (show spQ isIntD ds M Q from h) <;> rfl) (envG_of sys ⟨T.con 1 "GREATEST" rfl, T.blt 2 "bool" rfl, T.blt 5 "int" rfl, T.blt 6 "isinstance" rfl, trivial⟩) fun ds M Q h => is_integer_spec Γ23  ds M Q h
theorem c_is_name (sys : ∃ o, base.get? sysModules = some o ∧ o.cls = .type "dict") (T : TopG K mg) : CalG P w K mg base 1 "is_name" (Γ23 1) := by
  obtain ⟨f, fd, F, hm⟩ := T.fn 1 "is_name" S_is_name rfl
  exact cal_def (k := 0) F hm sc_is_name ck_is_name (fun _ _ _ _ _ _ us hl => match us, hl with | [_], _ => rfl) (fun ds M Q h => by obtain ⟨_, rfl, _⟩ := (show spQ isNameD ds M Q from h) <;> rfl) (envG_of sys ⟨T.con 2 "LETTERS" rfl, T.con 0 "MAX_NAME" rfl, T.blt 1 "all" rfl, T.blt 6 "isinstance" rfl, T.blt 8 "len" rfl, T.blt 16 "str" rfl, trivial⟩) fun ds M Q h => is_name_spec Γ23  ds M Q h
theorem c_is_new (sys : ∃ o, base.get? sysModules = some o ∧ o.cls = .type "dict") (T : TopG K mg) : CalG P w K mg base 1 "is_new" (Γ23 2) := by
  obtain ⟨f, fd, F, hm⟩ := T.fn 2 "is_new" S_is_new rfl
  exact cal_def (k := 0) F hm sc_is_new ck_is_new (fun _ _ _ _ _ _ us hl => match us, hl with | [_], _ => rfl) (fun ds M Q h => by obtain ⟨_, rfl, _⟩ := (show spQ isNewD ds M Q from h) <;> rfl) (envG_of sys ⟨T.con 6 "DIGITS" rfl, T.con 5 "NEW_MARK" rfl, T.blt 1 "all" rfl, T.blt 6 "isinstance" rfl, T.blt 8 "len" rfl, T.blt 16 "str" rfl, trivial⟩) fun ds M Q h => is_new_spec Γ23  ds M Q h
theorem c_points_of (sys : ∃ o, base.get? sysModules = some o ∧ o.cls = .type "dict") (T : TopG K mg) : CalG P w K mg base 1 "points_of" (Γ23 7) := by
  obtain ⟨f, fd, F, hm⟩ := T.fn 7 "points_of" S_points_of rfl
  exact cal_def (k := 0) F hm sc_points_of ck_points_of (fun _ _ _ _ _ _ us hl => match us, hl with | [_], _ => rfl) (fun ds M Q h => by obtain ⟨_, rfl, _⟩ := (show sp_points ds M Q from h) <;> rfl) (envG_of sys ⟨T.con 4 "ZERO" rfl, T.blt 6 "isinstance" rfl, T.blt 15 "sorted" rfl, T.blt 16 "str" rfl, T.blt 18 "tuple" rfl, trivial⟩) fun ds M Q h => points_of_spec Γ23  ds M Q h
theorem c_improved (sys : ∃ o, base.get? sysModules = some o ∧ o.cls = .type "dict") (T : TopG K mg) : CalG P w K mg base 1 "improved" (Γ23 8) := by
  obtain ⟨f, fd, F, hm⟩ := T.fn 8 "improved" S_improved rfl
  exact cal_def (k := 0) F hm sc_improved ck_improved (fun _ _ _ _ _ _ us hl => match us, hl with | [_, _, _], _ => rfl) (fun ds M Q h => by obtain ⟨_, _, _, _, _, rfl, _⟩ := (show sp_improved ds M Q from h) <;> rfl) (envG_of sys ⟨T.blt 4 "enumerate" rfl, trivial⟩) fun ds M Q h => improved_spec Γ23  ds M Q h
theorem c_ring_in (sys : ∃ o, base.get? sysModules = some o ∧ o.cls = .type "dict") (T : TopG K mg) : CalG P w K mg base 1 "ring_in" (Γ23 10) := by
  obtain ⟨f, fd, F, hm⟩ := T.fn 10 "ring_in" S_ring_in rfl
  exact cal_def (k := 0) F hm sc_ring_in ck_ring_in (fun _ _ _ _ _ _ us hl => match us, hl with | [_, _], _ => rfl) (fun ds M Q h => by obtain ⟨_, _, _, _, rfl, _⟩ := (show sp_ring_in ds M Q from h) <;> rfl) (envG_of sys ⟨T.blt 7 "iter" rfl, T.blt 8 "len" rfl, T.blt 12 "next" rfl, T.blt 18 "tuple" rfl, trivial⟩) fun ds M Q h => ring_in_spec Γ23  ds M Q h
theorem c_law_keg (sys : ∃ o, base.get? sysModules = some o ∧ o.cls = .type "dict") (T : TopG K mg) : CalG P w K mg base 1 "_law_keg" (Γ23 18) := by
  obtain ⟨f, fd, F, hm⟩ := T.fn 18 "_law_keg" S_law_keg rfl
  exact cal_def (k := 0) F hm sc_law_keg ck_law_keg (fun _ _ _ _ _ _ us hl => match us, hl with | [_, _], _ => rfl) (fun ds M Q h => by obtain ⟨_, _, _, rfl, _⟩ := (show sp_keg ds M Q from h) <;> rfl) (envG_of sys ⟨T.blt 0 "abs" rfl, T.blt 5 "int" rfl, T.blt 8 "len" rfl, trivial⟩) fun ds M Q h => keg_spec Γ23  ds M Q h
theorem c_law_tap (sys : ∃ o, base.get? sysModules = some o ∧ o.cls = .type "dict") (T : TopG K mg) : CalG P w K mg base 1 "_law_tap" (Γ23 19) := by
  obtain ⟨f, fd, F, hm⟩ := T.fn 19 "_law_tap" S_law_tap rfl
  exact cal_def (k := 0) F hm sc_law_tap ck_law_tap (fun _ _ _ _ _ _ us hl => match us, hl with | [_, _], _ => rfl) (fun ds M Q h => by obtain ⟨_, _, _, rfl, _⟩ := (show sp_tap ds M Q from h) <;> rfl) (envG_of sys ⟨T.blt 5 "int" rfl, trivial⟩) fun ds M Q h => tap_spec Γ23  ds M Q h
theorem c_law_points_in (sys : ∃ o, base.get? sysModules = some o ∧ o.cls = .type "dict") (T : TopG K mg) : CalG P w K mg base 1 "_law_points_in" (Γ23 22) := by
  obtain ⟨f, fd, F, hm⟩ := T.fn 22 "_law_points_in" S_law_points_in rfl
  exact cal_def (k := 0) F hm sc_law_points_in ck_law_points_in (fun _ _ _ _ _ _ us hl => match us, hl with | [_], _ => rfl) (fun ds M Q h => by obtain ⟨_, rfl, _⟩ := (show sp_points ds M Q from h) <;> rfl) (envG_of sys ⟨T.blt 5 "int" rfl, T.blt 6 "isinstance" rfl, T.blt 15 "sorted" rfl, T.blt 16 "str" rfl, trivial⟩) fun ds M Q h => points_in_spec Γ23  ds M Q h
theorem c_law_is_whole (sys : ∃ o, base.get? sysModules = some o ∧ o.cls = .type "dict") (T : TopG K mg) : CalG P w K mg base 1 "_law_is_whole" (Γ23 27) := by
  obtain ⟨f, fd, F, hm⟩ := T.fn 27 "_law_is_whole" S_law_is_whole rfl
  exact cal_def (k := 0) F hm sc_law_is_whole ck_law_is_whole (fun _ _ _ _ _ _ us hl => match us, hl with | [_], _ => rfl) (fun ds M Q h => by obtain ⟨_, rfl, _⟩ := (show spQ isIntD ds M Q from h) <;> rfl) (envG_of sys ⟨T.blt 0 "abs" rfl, T.blt 2 "bool" rfl, T.blt 5 "int" rfl, T.blt 6 "isinstance" rfl, trivial⟩) fun ds M Q h => is_whole_spec Γ23  ds M Q h
theorem c_law_are_true (sys : ∃ o, base.get? sysModules = some o ∧ o.cls = .type "dict") (T : TopG K mg) : CalG P w K mg base 1 "_law_are_true" (Γ23 28) := by
  obtain ⟨f, fd, F, hm⟩ := T.fn 28 "_law_are_true" S_law_are_true rfl
  exact cal_def (k := 0) F hm sc_law_are_true ck_law_are_true (fun _ _ _ _ _ _ us hl => match us, hl with | [_, _], _ => rfl) (fun ds M Q h => by obtain ⟨_, _, _, _, rfl, _⟩ := (show sp_true ds M Q from h) <;> rfl) (envG_of sys trivial) fun ds M Q h => are_true_spec Γ23  ds M Q h
theorem c_is_place (sys : ∃ o, base.get? sysModules = some o ∧ o.cls = .type "dict") (T : TopG K mg) : CalG P w K mg base 2 "is_place" (Γ23 3) := by
  obtain ⟨f, fd, F, hm⟩ := T.fn 3 "is_place" S_is_place rfl
  exact cal_def (k := 1) F hm sc_is_place ck_is_place (fun _ _ _ _ _ _ us hl => match us, hl with | [_], _ => rfl) (fun ds M Q h => by obtain ⟨_, rfl, _⟩ := (show spQ isPlaceD ds M Q from h) <;> rfl) (envG_of sys ⟨T.con 4 "ZERO" rfl, (c_is_name sys T).mono (by decide), (c_is_new sys T).mono (by decide), T.blt 6 "isinstance" rfl, T.blt 16 "str" rfl, trivial⟩) fun ds M Q h => is_place_spec Γ23 rfl rfl ds M Q h
theorem c_settled (sys : ∃ o, base.get? sysModules = some o ∧ o.cls = .type "dict") (T : TopG K mg) : CalG P w K mg base 2 "settled" (Γ23 9) := by
  obtain ⟨f, fd, F, hm⟩ := T.fn 9 "settled" S_settled rfl
  exact cal_def (k := 1) F hm sc_settled ck_settled (fun _ _ _ _ _ _ us hl => match us, hl with | [_, _], _ => rfl) (fun ds M Q h => by obtain ⟨_, _, _, _, rfl, _⟩ := (show sp_settled ds M Q from h) <;> rfl) (envG_of sys ⟨(c_improved sys T).mono (by decide), T.blt 8 "len" rfl, (c_points_of sys T).mono (by decide), T.blt 13 "range" rfl, trivial⟩) fun ds M Q h => settled_spec Γ23 rfl rfl ds M Q h
theorem c_is_ring_of (sys : ∃ o, base.get? sysModules = some o ∧ o.cls = .type "dict") (T : TopG K mg) : CalG P w K mg base 2 "is_ring_of" (Γ23 13) := by
  obtain ⟨f, fd, F, hm⟩ := T.fn 13 "is_ring_of" S_is_ring_of rfl
  exact cal_def (k := 1) F hm sc_is_ring_of ck_is_ring_of (fun _ _ _ _ _ _ us hl => match us, hl with | [_, _], _ => rfl) (fun ds M Q h => by obtain ⟨_, _, _, rfl, _⟩ := (show sp_ringq ds M Q from h) <;> rfl) (envG_of sys ⟨T.blt 1 "all" rfl, T.blt 4 "enumerate" rfl, (c_is_integer sys T).mono (by decide), T.blt 6 "isinstance" rfl, T.blt 8 "len" rfl, T.blt 17 "sum" rfl, T.blt 18 "tuple" rfl, trivial⟩) fun ds M Q h => is_ring_of_spec Γ23 rfl ds M Q h
theorem c_law_choices (sys : ∃ o, base.get? sysModules = some o ∧ o.cls = .type "dict") (T : TopG K mg) : CalG P w K mg base 2 "_law_choices" (Γ23 20) := by
  obtain ⟨f, fd, F, hm⟩ := T.fn 20 "_law_choices" S_law_choices rfl
  exact cal_def (k := 1) F hm sc_law_choices ck_law_choices (fun _ _ _ _ _ _ us hl => match us, hl with | [_, _, _], _ => rfl) (fun ds M Q h => by obtain ⟨_, _, _, _, _, rfl, _⟩ := (show sp_choices ds M Q from h) <;> rfl) (envG_of sys ⟨(c_law_tap sys T).mono (by decide), T.blt 8 "len" rfl, T.blt 9 "list" rfl, T.blt 11 "min" rfl, T.blt 13 "range" rfl, trivial⟩) fun ds M Q h => choices_spec Γ23 rfl ds M Q h
theorem c_law_choice (sys : ∃ o, base.get? sysModules = some o ∧ o.cls = .type "dict") (T : TopG K mg) : CalG P w K mg base 2 "_law_choice" (Γ23 23) := by
  obtain ⟨f, fd, F, hm⟩ := T.fn 23 "_law_choice" S_law_choice rfl
  exact cal_def (k := 1) F hm sc_law_choice ck_law_choice (fun _ _ _ _ _ _ us hl => match us, hl with | [_, _], _ => rfl) (fun ds M Q h => by obtain ⟨_, _, _, _, rfl, _⟩ := (show sp_choice ds M Q from h) <;> rfl) (envG_of sys ⟨(c_law_tap sys T).mono (by decide), T.blt 8 "len" rfl, trivial⟩) fun ds M Q h => choice_spec Γ23 rfl ds M Q h
theorem c_law_fits_due (sys : ∃ o, base.get? sysModules = some o ∧ o.cls = .type "dict") (T : TopG K mg) : CalG P w K mg base 2 "_law_fits_due" (Γ23 29) := by
  obtain ⟨f, fd, F, hm⟩ := T.fn 29 "_law_fits_due" S_law_fits_due rfl
  exact cal_def (k := 1) F hm sc_law_fits_due ck_law_fits_due (fun _ _ _ _ _ _ us hl => match us, hl with | [_, _], _ => rfl) (fun ds M Q h => by obtain ⟨_, _, _, rfl, _⟩ := (show sp_fitq ds M Q from h) <;> rfl) (envG_of sys ⟨(c_law_are_true sys T).mono (by decide), (c_law_is_whole sys T).mono (by decide), (c_law_points_in sys T).mono (by decide), T.blt 3 "dict" rfl, T.blt 6 "isinstance" rfl, T.blt 8 "len" rfl, trivial⟩) fun ds M Q h => fits_due_spec Γ23 rfl rfl rfl ds M Q h
theorem c_law_ring_due (sys : ∃ o, base.get? sysModules = some o ∧ o.cls = .type "dict") (T : TopG K mg) : CalG P w K mg base 2 "_law_ring_due" (Γ23 30) := by
  obtain ⟨f, fd, F, hm⟩ := T.fn 30 "_law_ring_due" S_law_ring_due rfl
  exact cal_def (k := 1) F hm sc_law_ring_due ck_law_ring_due (fun _ _ _ _ _ _ us hl => match us, hl with | [_, _], _ => rfl) (fun ds M Q h => by obtain ⟨_, _, _, rfl, _⟩ := (show sp_ringq ds M Q from h) <;> rfl) (envG_of sys ⟨(c_law_is_whole sys T).mono (by decide), T.blt 6 "isinstance" rfl, T.blt 8 "len" rfl, T.blt 13 "range" rfl, T.blt 17 "sum" rfl, T.blt 18 "tuple" rfl, trivial⟩) fun ds M Q h => ring_due_spec Γ23 rfl ds M Q h
theorem c_is_point (sys : ∃ o, base.get? sysModules = some o ∧ o.cls = .type "dict") (T : TopG K mg) : CalG P w K mg base 3 "is_point" (Γ23 4) := by
  obtain ⟨f, fd, F, hm⟩ := T.fn 4 "is_point" S_is_point rfl
  exact cal_def (k := 2) F hm sc_is_point ck_is_point (fun _ _ _ _ _ _ us hl => match us, hl with | [_], _ => rfl) (fun ds M Q h => by obtain ⟨_, rfl, _⟩ := (show spQ isPointD ds M Q from h) <;> rfl) (envG_of sys ⟨(c_is_integer sys T).mono (by decide), (c_is_name sys T).mono (by decide), (c_is_place sys T).mono (by decide), T.blt 6 "isinstance" rfl, T.blt 8 "len" rfl, T.blt 18 "tuple" rfl, trivial⟩) fun ds M Q h => is_point_spec Γ23 rfl rfl rfl ds M Q h
theorem c_ring_of (sys : ∃ o, base.get? sysModules = some o ∧ o.cls = .type "dict") (T : TopG K mg) : CalG P w K mg base 3 "ring_of" (Γ23 11) := by
  obtain ⟨f, fd, F, hm⟩ := T.fn 11 "ring_of" S_ring_of rfl
  exact cal_def (k := 2) F hm sc_ring_of ck_ring_of (fun _ _ _ _ _ _ us hl => match us, hl with | [_], _ => rfl) (fun ds M Q h => by obtain ⟨_, rfl, _⟩ := (show sp_ring_of ds M Q from h) <;> rfl) (envG_of sys ⟨(c_points_of sys T).mono (by decide), (c_ring_in sys T).mono (by decide), (c_settled sys T).mono (by decide), trivial⟩) fun ds M Q h => ring_of_spec Γ23 rfl rfl rfl ds M Q h
theorem c_fitted (sys : ∃ o, base.get? sysModules = some o ∧ o.cls = .type "dict") (T : TopG K mg) : CalG P w K mg base 3 "fitted" (Γ23 12) := by
  obtain ⟨f, fd, F, hm⟩ := T.fn 12 "fitted" S_fitted rfl
  exact cal_def (k := 2) F hm sc_fitted ck_fitted (fun _ _ _ _ _ _ us hl => match us, hl with | [_], _ => rfl) (fun ds M Q h => by obtain ⟨_, rfl, _⟩ := (show sp_fitted ds M Q from h) <;> rfl) (envG_of sys ⟨T.con 4 "ZERO" rfl, (c_points_of sys T).mono (by decide), (c_settled sys T).mono (by decide), trivial⟩) fun ds M Q h => fitted_spec Γ23 rfl rfl ds M Q h
theorem c_law_points_drawn (sys : ∃ o, base.get? sysModules = some o ∧ o.cls = .type "dict") (T : TopG K mg) : CalG P w K mg base 3 "_law_points_drawn" (Γ23 21) := by
  obtain ⟨f, fd, F, hm⟩ := T.fn 21 "_law_points_drawn" S_law_points_drawn rfl
  exact cal_def (k := 2) F hm sc_law_points_drawn ck_law_points_drawn (fun _ _ _ _ _ _ us hl => match us, hl with | [_, _], _ => rfl) (fun ds M Q h => by obtain ⟨_, _, _, rfl, _⟩ := (show sp_drawn ds M Q from h) <;> rfl) (envG_of sys ⟨(c_law_choices sys T).mono (by decide), trivial⟩) fun ds M Q h => drawn_spec Γ23 rfl ds M Q h
theorem c_law_near_numbers (sys : ∃ o, base.get? sysModules = some o ∧ o.cls = .type "dict") (T : TopG K mg) : CalG P w K mg base 3 "_law_near_numbers" (Γ23 24) := by
  obtain ⟨f, fd, F, hm⟩ := T.fn 24 "_law_near_numbers" S_law_near_numbers rfl
  exact cal_def (k := 2) F hm sc_law_near_numbers ck_law_near_numbers (fun _ _ _ _ _ _ us hl => match us, hl with | [_, _, _], _ => rfl) (fun ds M Q h => by obtain ⟨_, _, _, _, _, _, _, rfl, _⟩ := (show sp_near_numbers ds M Q from h) <;> rfl) (envG_of sys ⟨(c_law_choice sys T).mono (by decide), (c_law_points_in sys T).mono (by decide), (c_law_tap sys T).mono (by decide), T.blt 3 "dict" rfl, T.blt 9 "list" rfl, T.blt 15 "sorted" rfl, trivial⟩) fun ds M Q h => near_numbers_spec Γ23 rfl rfl rfl ds M Q h
theorem c_law_drawn_walk (sys : ∃ o, base.get? sysModules = some o ∧ o.cls = .type "dict") (T : TopG K mg) : CalG P w K mg base 3 "_law_drawn_walk" (Γ23 25) := by
  obtain ⟨f, fd, F, hm⟩ := T.fn 25 "_law_drawn_walk" S_law_drawn_walk rfl
  exact cal_def (k := 2) F hm sc_law_drawn_walk ck_law_drawn_walk (fun _ _ _ _ _ _ us hl => match us, hl with | [_, _], _ => rfl) (fun ds M Q h => by obtain ⟨_, _, _, rfl, _⟩ := (show sp_walk ds M Q from h) <;> rfl) (envG_of sys ⟨(c_law_choice sys T).mono (by decide), (c_law_tap sys T).mono (by decide), T.blt 8 "len" rfl, T.blt 13 "range" rfl, T.blt 18 "tuple" rfl, trivial⟩) fun ds M Q h => drawn_walk_spec Γ23 rfl rfl ds M Q h
theorem c_law_near_ring (sys : ∃ o, base.get? sysModules = some o ∧ o.cls = .type "dict") (T : TopG K mg) : CalG P w K mg base 3 "_law_near_ring" (Γ23 26) := by
  obtain ⟨f, fd, F, hm⟩ := T.fn 26 "_law_near_ring" S_law_near_ring rfl
  exact cal_def (k := 2) F hm sc_law_near_ring ck_law_near_ring (fun _ _ _ _ _ _ us hl => match us, hl with | [_, _, _], _ => rfl) (fun ds M Q h => by obtain ⟨_, _, _, _, _, rfl, _⟩ := (show sp_near_ring ds M Q from h) <;> rfl) (envG_of sys ⟨(c_law_choice sys T).mono (by decide), (c_law_tap sys T).mono (by decide), T.blt 2 "bool" rfl, T.blt 8 "len" rfl, T.blt 9 "list" rfl, T.blt 16 "str" rfl, T.blt 18 "tuple" rfl, trivial⟩) fun ds M Q h => near_ring_spec Γ23 rfl rfl ds M Q h
theorem c_law_differences (sys : ∃ o, base.get? sysModules = some o ∧ o.cls = .type "dict") (T : TopG K mg) : CalG P w K mg base 3 "_law_differences" (Γ23 32) := by
  obtain ⟨f, fd, F, hm⟩ := T.fn 32 "_law_differences" S_law_differences rfl
  exact cal_def (k := 2) F hm sc_law_differences ck_law_differences (fun _ _ _ _ _ _ us hl => match us, hl with | [_, _, _, _], _ => rfl) (fun ds M Q h => by obtain ⟨_, _, _, _, _, _, rfl, _⟩ := (show sp_differences ds M Q from h) <;> rfl) (envG_of sys ⟨(c_law_choice sys T).mono (by decide), (c_law_tap sys T).mono (by decide), T.blt 13 "range" rfl, T.blt 18 "tuple" rfl, trivial⟩) fun ds M Q h => differences_spec Γ23 rfl rfl ds M Q h
theorem c_is_difference (sys : ∃ o, base.get? sysModules = some o ∧ o.cls = .type "dict") (T : TopG K mg) : CalG P w K mg base 4 "is_difference" (Γ23 5) := by
  obtain ⟨f, fd, F, hm⟩ := T.fn 5 "is_difference" S_is_difference rfl
  exact cal_def (k := 3) F hm sc_is_difference ck_is_difference (fun _ _ _ _ _ _ us hl => match us, hl with | [_], _ => rfl) (fun ds M Q h => by obtain ⟨_, rfl, _⟩ := (show spQ isDiffD ds M Q from h) <;> rfl) (envG_of sys ⟨(c_is_integer sys T).mono (by decide), (c_is_point sys T).mono (by decide), T.blt 6 "isinstance" rfl, T.blt 8 "len" rfl, T.blt 18 "tuple" rfl, trivial⟩) fun ds M Q h => is_difference_spec Γ23 rfl rfl ds M Q h
theorem c_require_differences (sys : ∃ o, base.get? sysModules = some o ∧ o.cls = .type "dict") (T : TopG K mg) : CalG P w K mg base 5 "require_differences" (Γ23 6) := by
  obtain ⟨f, fd, F, hm⟩ := T.fn 6 "require_differences" S_require_differences rfl
  exact cal_def (k := 4) F hm sc_require_differences ck_require_differences (fun _ _ _ _ _ _ us hl => match us, hl with | [_], _ => rfl) (fun ds M Q h => by obtain ⟨_, rfl, _⟩ := (show sp_require ds M Q from h) <;> rfl) (envG_of sys ⟨T.con 3 "MAX_DIFFERENCES" rfl, T.blt 1 "all" rfl, (c_is_difference sys T).mono (by decide), T.blt 6 "isinstance" rfl, T.blt 8 "len" rfl, T.blt 18 "tuple" rfl, trivial⟩) fun ds M Q h => require_spec Γ23 rfl ds M Q h
theorem c_fitting (sys : ∃ o, base.get? sysModules = some o ∧ o.cls = .type "dict") (T : TopG K mg) : CalG P w K mg base 6 "fitting" (Γ23 14) := by
  obtain ⟨f, fd, F, hm⟩ := T.fn 14 "fitting" S_fitting rfl
  exact cal_def (k := 5) F hm sc_fitting ck_fitting (fun _ _ _ _ _ _ us hl => match us, hl with | [_], _ => rfl) (fun ds M Q h => by obtain ⟨_, rfl, _⟩ := (show sp_fitted ds M Q from h) <;> rfl) (envG_of sys ⟨(c_fitted sys T).mono (by decide), (c_require_differences sys T).mono (by decide), trivial⟩) fun ds M Q h => fitting_spec Γ23 rfl rfl ds M Q h
theorem c_is_fitting (sys : ∃ o, base.get? sysModules = some o ∧ o.cls = .type "dict") (T : TopG K mg) : CalG P w K mg base 6 "is_fitting" (Γ23 15) := by
  obtain ⟨f, fd, F, hm⟩ := T.fn 15 "is_fitting" S_is_fitting rfl
  exact cal_def (k := 5) F hm sc_is_fitting ck_is_fitting (fun _ _ _ _ _ _ us hl => match us, hl with | [_, _], _ => rfl) (fun ds M Q h => by obtain (⟨_, _, _, rfl, _⟩ | ⟨_, _, rfl, _⟩) := (show sp_fitq2 ds M Q from h) <;> rfl) (envG_of sys ⟨T.con 4 "ZERO" rfl, T.blt 1 "all" rfl, T.blt 3 "dict" rfl, (c_is_integer sys T).mono (by decide), (c_is_point sys T).mono (by decide), T.blt 6 "isinstance" rfl, T.blt 8 "len" rfl, (c_points_of sys T).mono (by decide), (c_require_differences sys T).mono (by decide), trivial⟩) fun ds M Q h => is_fitting2_spec Γ23 rfl rfl rfl rfl ds M Q h
theorem c_ring (sys : ∃ o, base.get? sysModules = some o ∧ o.cls = .type "dict") (T : TopG K mg) : CalG P w K mg base 6 "ring" (Γ23 16) := by
  obtain ⟨f, fd, F, hm⟩ := T.fn 16 "ring" S_ring rfl
  exact cal_def (k := 5) F hm sc_ring ck_ring (fun _ _ _ _ _ _ us hl => match us, hl with | [_], _ => rfl) (fun ds M Q h => by obtain ⟨_, rfl, _⟩ := (show sp_ring_of ds M Q from h) <;> rfl) (envG_of sys ⟨(c_require_differences sys T).mono (by decide), (c_ring_of sys T).mono (by decide), trivial⟩) fun ds M Q h => ring_spec Γ23 rfl rfl ds M Q h
theorem c_is_ring (sys : ∃ o, base.get? sysModules = some o ∧ o.cls = .type "dict") (T : TopG K mg) : CalG P w K mg base 6 "is_ring" (Γ23 17) := by
  obtain ⟨f, fd, F, hm⟩ := T.fn 17 "is_ring" S_is_ring rfl
  exact cal_def (k := 5) F hm sc_is_ring ck_is_ring (fun _ _ _ _ _ _ us hl => match us, hl with | [_, _], _ => rfl) (fun ds M Q h => by obtain ⟨_, _, _, rfl, _⟩ := (show sp_ringq ds M Q from h) <;> rfl) (envG_of sys ⟨(c_is_ring_of sys T).mono (by decide), (c_require_differences sys T).mono (by decide), trivial⟩) fun ds M Q h => is_ring_spec Γ23 rfl rfl ds M Q h
theorem c_law_right (sys : ∃ o, base.get? sysModules = some o ∧ o.cls = .type "dict") (T : TopG K mg) : CalG P w K mg base 7 "_law_right" (Γ23 31) := by
  obtain ⟨f, fd, F, hm⟩ := T.fn 31 "_law_right" S_law_right rfl
  exact cal_def (k := 6) F hm sc_law_right ck_law_right (fun _ _ _ _ _ _ us hl => match us, hl with | [_, _], _ => rfl) (fun ds M Q h => by obtain ⟨_, _, _, rfl, _⟩ := (show sp_right ds M Q from h) <;> rfl) (envG_of sys ⟨(c_law_choice sys T).mono (by decide), (c_law_drawn_walk sys T).mono (by decide), (c_law_fits_due sys T).mono (by decide), (c_law_near_numbers sys T).mono (by decide), (c_law_near_ring sys T).mono (by decide), (c_law_points_in sys T).mono (by decide), (c_law_ring_due sys T).mono (by decide), (c_law_tap sys T).mono (by decide), T.blt 3 "dict" rfl, (c_fitting sys T).mono (by decide), (c_is_fitting sys T).mono (by decide), (c_is_ring sys T).mono (by decide), T.blt 13 "range" rfl, T.blt 14 "repr" rfl, (c_ring sys T).mono (by decide), trivial⟩) fun ds M Q h => right_spec Γ23 rfl rfl rfl rfl rfl rfl rfl rfl rfl rfl rfl rfl ds M Q h
theorem c_law (sys : ∃ o, base.get? sysModules = some o ∧ o.cls = .type "dict") (T : TopG K mg) : CalG P w K mg base 8 "law" (Γ23 33) := by
  obtain ⟨f, fd, F, hm⟩ := T.fn 33 "law" S_law rfl
  exact cal_def (k := 7) F hm sc_law ck_law (fun _ _ _ _ _ _ us hl => match us, hl with | [_], _ => rfl) (fun ds M Q h => by obtain ⟨_, _, rfl, _⟩ := (show sp_law ds M Q from h) <;> rfl) (envG_of sys ⟨(c_law_choice sys T).mono (by decide), (c_law_differences sys T).mono (by decide), (c_law_keg sys T).mono (by decide), (c_law_points_drawn sys T).mono (by decide), (c_law_right sys T).mono (by decide), (c_law_tap sys T).mono (by decide), (c_is_fitting sys T).mono (by decide), (c_is_ring sys T).mono (by decide), T.blt 8 "len" rfl, T.blt 10 "max" rfl, T.blt 11 "min" rfl, T.blt 13 "range" rfl, trivial⟩) fun ds M Q h => law_spec Γ23 rfl rfl rfl rfl rfl rfl rfl rfl ds M Q h
theorem f_law {f : Addr} {fd : FuncData} (F : FunD K "law" "law" (defArgs S_law) (defBody S_law) (defScope S_law) [] [] f fd) (sys : ∃ o, base.get? sysModules = some o ∧ o.cls = .type "dict") (T : TopG K mg) : FnG P w K mg base 8 f fd ["script"] (lowSp K w 1 sp_law) :=
  fn_def (k := 7) F sc_law ck_law (fun ds M Q h => by obtain ⟨_, _, rfl, _⟩ := (show sp_law ds M Q from h); rfl) (envG_of sys ⟨(c_law_choice sys T).mono (by decide), (c_law_differences sys T).mono (by decide), (c_law_keg sys T).mono (by decide), (c_law_points_drawn sys T).mono (by decide), (c_law_right sys T).mono (by decide), (c_law_tap sys T).mono (by decide), (c_is_fitting sys T).mono (by decide), (c_is_ring sys T).mono (by decide), T.blt 8 "len" rfl, T.blt 10 "max" rfl, T.blt 11 "min" rfl, T.blt 13 "range" rfl, trivial⟩) fun ds M Q h => law_spec Γ23 rfl rfl rfl rfl rfl rfl rfl rfl ds M Q h
end
-- the law's level: 8
end L3

set_option Elab.async false
set_option linter.all false
set_option maxRecDepth 100000
set_option maxHeartbeats 0
/-! E25: the head, the law. -/
namespace L3
open PySem PySem.Spec PyProof.Rows L2

/-! ### a hook that sees the loaded modules too -/
def sysB (K : PySem.W.Frag) : Bool := match K.lookup sysModules with
  | some ⟨.type c, _, _, _⟩ => decide (c = "dict")
  | _ => false
theorem sysB_ok {K : PySem.W.Frag} (h : sysB K = true) : ∃ o, K.lookup sysModules = some o ∧ o.cls = .type "dict" := by
  unfold sysB at h
  cases e : K.lookup sysModules with
  | none => rw [e] at h; cases h
  | some o =>
    obtain ⟨c, d, dt, sl⟩ := o
    rw [e] at h
    cases c with
    | type c => exact ⟨_, rfl, congrArg Value.type (of_decide_eq_true h)⟩
    | _ => cases h
abbrev AlS : Type := Bool × He.AlD
def obsS (n : Nat) (fa : List He.Fa) (fn : List He.DefD) (g : Addr → Option Obj) : AlS := (sysB (He.frG g (sysModules :: He.asD g n)), He.obsD fa fn (He.frG g (sysModules :: He.asD g n)))
def hookS (n : Nat) (fa : List He.Fa) (fn : List He.DefD) : PySem.W.Hook where
  α := AlS
  obs := fun s => obsS n fa fn s.heap.get?
  val := fun _ => (true, He.valD fn)
  says := fun _ h => ∃ K : PySem.W.Frag, K.In h ∧ sysB K = true ∧ He.SaysD fa fn K
  of := fun _ _ e => ⟨_, He.frG_in, congrArg (fun z : AlS => z.1) e, congrArg (fun z : AlS => z.2) e⟩
  keeps := fun _ _ _ ⟨K, hK, c⟩ k => ⟨K, PySem.W.Frag.In.keeps hK k, c⟩
theorem obsS_eq {n : Nat} {fa : List He.Fa} {fn : List He.DefD} {g : Addr → Option Obj} {s : Shared} (h : ∀ a, g a = s.heap.get? a) : obsS n fa fn g = (hookS n fa fn).obs s := by
  have e : g = s.heap.get? := funext h
  rw [e] <;> rfl
theorem fact_mem {fa : List He.Fa} {fn : List He.DefD} {K : PySem.W.Frag} (c : He.SaysD fa fn K) {f : He.Fa} (h : f ∈ fa) : f.ok K = true := by
  obtain ⟨i, hi⟩ := List.getElem?_of_mem h
  exact c.fact i hi

/-! ### the law's walk, over data -/
theorem walk_ofG {l : PySem.W.OpenLaw} {n k : Nat} {q : Program} {loose : List Str} {XP : (Str → Option Value) → Heap → Prop} {YP : World → Heap → Prop} {d : DefRec} {x : Str}
    (hn : l.most = some n) (hn2 : n ≤ sizeLine) (hdf : d.params.defaults = []) (hr : Room k callerA)
    (F : ∀ (w : World) (mg : Str → Option Value) (fa : Addr) (h : Heap), YP w h → h.Ns mainGlobals mg → mg d.name = some (.ref fa) →
      ∃ (K : PySem.W.Frag) (fd : FuncData) (sp : Sp3), K.In h ∧ (∃ o, h.get? sysModules = some o ∧ o.cls = .type "dict") ∧ (∀ (s : Shared) (u : Value), BindsTo s fd ⟨[u], []⟩ [(x, u)]) ∧
        (∀ (M : Hp3) (e : D) (ns : List Int), ns.length ≤ n → Script M ns e → sp [e] M (fun v _ => v = .bl true)) ∧
        ∀ base : Heap, K.In base → base.Ns mainGlobals mg → (∃ o, base.get? sysModules = some o ∧ o.cls = .type "dict") → FnG l.prog w K mg base k fa fd [x] (lowSp K w 1 sp)) :
    PySem.W.WalkO q loose XP YP l.row.toRowW d [] (fun f vs => PySem.call f vs) := by
  refine Att.attach_call hn hdf fun w s₀ s₁ mg mb fa o pm cd doc a vs ns G Y ho hd hcd hmg hobj hints hlen hg => ?_
  obtain ⟨K, fd, sp, KX, hsys, hb, hsp, hF⟩ := F w mg fa _ Y G.T.g hmg
  exact law_callG KX G.T.g G.T.b G.T.builtins G.T.nolimit hg hsys hobj hints (Nat.le_trans hlen hn2) hr hF hb fun M e hS => hsp M e ns hlen hS

/-! ### the module's top -/
def mkDef (q : Str × Stmt) : He.DefD := ⟨(q.1, none), q.1, q.1, defArgs q.2, defBody q.2, defScope q.2, [], []⟩
def fn23 : List He.DefD := dn.map mkDef
def cf23 : List He.Fa := [.int "MAX_NAME" 8, .int "GREATEST" (10 ^ 60), .str "LETTERS" "abcdefghijklmnopqrstuvwxyz", .int "MAX_DIFFERENCES" 60, .str "ZERO" "", .str "NEW_MARK" "*", .str "DIGITS" "0123456789"]
def fa23 : List He.Fa := bn.map He.Fa.free ++ (dn.map (fun q => He.Fa.glo q.1) ++ cf23)
abbrev R23 : PySem.W.OpenRow := PySem.W.OpenLaw.row PySem.Challenge.rw_cellswide_k23_near_numbers_and_rings
abbrev hk23 : PySem.W.Hook := hookS 4 fa23 fn23
def ob23 (s : PySem.W.SharedT) : AlS := obsS 4 fa23 fn23 (HandSHeadRun.getT s)
theorem ob23_eq (s : PySem.W.SharedT) : ob23 s = hk23.obs s.abs := obsS_eq (HandSHeadRun.getT_eq s)
def loose23 : List Str := ("ClaimError" : Str) :: ("InvalidOperation" : Str) :: cn ++ (dn.map (·.1)).filter fun x => decide (x ≠ ("law" : Str))
theorem top23 {K : PySem.W.Frag} {h : Heap} {mg : Str → Option Value} (X : K.In h) (G : h.Ns mainGlobals mg) (c : He.SaysD fa23 fn23 K) : TopG K mg := by
  refine ⟨fun i x st e => ?_, fun i x e => ?_, fun i x e => ?_⟩
  · have e1 : fn23[i]? = some (mkDef (x, st)) := by
      unfold fn23
      rw [List.getElem?_map, e]
      rfl
    obtain ⟨fd, F⟩ := c.def_ i e1
    have hm : He.Fa.glo x ∈ fa23 := List.mem_append_right _ (List.mem_append_left _ (List.mem_map.mpr ⟨_, List.mem_of_getElem? e, rfl⟩))
    exact ⟨_, fd, F, He.glo_ok X G (fact_mem c hm)⟩
  · have ci : ∀ {y : Str} {j : Int} {m : Nat}, cf23[m]? = some (.int y j) → ConG K mg y (.int j) := fun hm => by
      obtain ⟨t, ht⟩ := He.int_ok X G (fact_mem c (List.mem_append_right _ (List.mem_append_right _ (List.mem_of_getElem? hm))))
      exact ⟨.int _, _, ht, ⟨t, rfl⟩, fun H => .int _⟩
    have cs : ∀ {y z : Str} {m : Nat}, cf23[m]? = some (.str y z) → ConG K mg y (.str z) := fun hm => by
      obtain ⟨t, ht⟩ := He.str_ok X G (fact_mem c (List.mem_append_right _ (List.mem_append_right _ (List.mem_of_getElem? hm))))
      exact ⟨.str _, _, ht, ⟨t, rfl⟩, fun H => .str _⟩
    match i, e with
    | 0, e => have e : some ("MAX_NAME" : Str) = some x := e; cases e; exact ci (m := 0) rfl
    | 1, e => have e : some ("GREATEST" : Str) = some x := e; cases e; exact ci (m := 1) rfl
    | 2, e => have e : some ("LETTERS" : Str) = some x := e; cases e; exact cs (m := 2) rfl
    | 3, e => have e : some ("MAX_DIFFERENCES" : Str) = some x := e; cases e; exact ci (m := 3) rfl
    | 4, e => have e : some ("ZERO" : Str) = some x := e; cases e; exact cs (m := 4) rfl
    | 5, e => have e : some ("NEW_MARK" : Str) = some x := e; cases e; exact cs (m := 5) rfl
    | 6, e => have e : some ("DIGITS" : Str) = some x := e; cases e; exact cs (m := 6) rfl
    | n + 7, e => cases e
  · exact He.free_ok X G (fact_mem c (List.mem_append_left _ (List.mem_map.mpr ⟨_, List.mem_of_getElem? e, rfl⟩)))
end L3

set_option Elab.async false
set_option linter.all false
set_option maxRecDepth 100000
set_option maxHeartbeats 0
/-! E26: the top's run. -/
namespace L3
open PySem PySem.Spec PyProof.Rows L2
theorem run23 (w : World) : HandSHeadRun.RunEq R23 (PySem.W.view R23.prog [46]) hk23 ob23 2000 loose23 w := by
  intro os
  kernel_rfl
end L3

set_option Elab.async false
set_option linter.all false
set_option maxRecDepth 100000
set_option maxHeartbeats 0
/-! E27: the law holds. -/
namespace L3
open PySem PySem.Spec PyProof.Rows L2
theorem facts23 {w : World} {K : PySem.W.Frag} {h : Heap} {mg : Str → Option Value} {f : Addr} (X : K.In h) (G : h.Ns mainGlobals mg) (hfa : mg ("law" : Str) = some (.ref f)) (c : He.SaysD fa23 fn23 K) :
    ∃ fd : FuncData, (∀ (s : Shared) (v : Value), BindsTo s fd ⟨[v], []⟩ [("script", v)]) ∧ ∀ base : Heap, K.In base → base.Ns mainGlobals mg → (∃ o, base.get? sysModules = some o ∧ o.cls = .type "dict") → FnG (PySem.Challenge.rw_cellswide_k23_near_numbers_and_rings).prog w K mg base 8 f fd ["script"] (lowSp K w 1 sp_law) := by
  have T := top23 X G c
  obtain ⟨f', fd, F, hm⟩ := T.fn 33 "law" S_law rfl
  have e := hfa.symm.trans hm
  cases e
  have b := FunD.bindsA (ps := ["script"]) F fun _ _ _ _ _ _ us hl => match us, hl with | [_], _ => rfl
  exact ⟨fd, fun s v => b s [v] rfl, fun base _ _ hs => f_law F hs T⟩
end L3
open PySem PySem.W PySem.Calls PyProof.Rows
theorem PySem.Challenge.cw_cellswide_k23_near_numbers_and_rings_holds : PySem.Challenge.rw_cellswide_k23_near_numbers_and_rings.Holds := by
  w_on; o_law
  refine HandSHeadRun.head_any (r := OpenLaw.row PySem.Challenge.rw_cellswide_k23_near_numbers_and_rings) (q := view (OpenLaw.row PySem.Challenge.rw_cellswide_k23_near_numbers_and_rings).prog [46]) (H := L3.hk23) (ob := L3.ob23) (M := 2000) (loose := L3.loose23) (d := HandSHeadRun.topDef (OpenLaw.row PySem.Challenge.rw_cellswide_k23_near_numbers_and_rings).prog 46) (kwd := []) L3.ob23_eq
    (by kernel_rfl) (fun s => by kernel_rfl) L3.run23 (by kernel_rfl) (by kernel_rfl) (by kernel_rfl) (by rfl) (by first | assumption | decide +kernel) (by decide +kernel) ⟨rfl, rfl, rfl, rfl, rfl, by decide +kernel⟩ ?hw ?hc
  case hw => w_witness2
  case hc =>
    refine L3.walk_ofG (l := PySem.Challenge.rw_cellswide_k23_near_numbers_and_rings) (n := 63) (k := 8) (x := "script") rfl (by decide) (by kernel_rfl) ⟨rfl, by decide, by decide⟩ ?F
    intro w mg fa h Y G hmg0
    obtain ⟨K, KX, hsys, c⟩ := Y
    have hmg : mg ("law" : PySem.Str) = some (.ref fa) := by
      have e : (HandSHeadRun.topDef (OpenLaw.row PySem.Challenge.rw_cellswide_k23_near_numbers_and_rings).prog 46).name = ("law" : PySem.Str) := by kernel_rfl
      rw [← e]
      exact hmg0
    obtain ⟨fd, hb, hF⟩ := L3.facts23 (w := w) KX G hmg c
    refine ⟨K, fd, L3.sp_law, KX, ?_, hb, fun M e ns hl hS => ⟨e, ns, rfl, hS, fun _ => rfl⟩, hF⟩
    obtain ⟨o, h1, h2⟩ := L3.sysB_ok hsys
    exact ⟨o, KX _ _ h1, h2⟩

