import PyProof.Rows.All
import Wide.All
import OpenK.AllK
import KE.SortCalls
import KE.SortData
import KE.KSortTup
import KE.KSortAsk
import Wide.FinOn
import HandS.ForMost
import HandS.Exc
import HandS.TryOnly
import HandS.ExcOwn
import HandS.WordsExc
import HandS.Defaults
import HandS.CallSlots
import KE.KeyNested
import HandS.TupAny
import HandS.TupMul
import HandS.Deep
import HandS.Wide
import HandS.Style
import HandS.IsInst
import KE.GoesMore
import KE.GoesEnum
import KE.GoesEnumKw
import KE.GoesZip
import PyProof.ReprRoads
import PyProof.CallFns
import PyProof.ReprLen
import HandS.Ends
import HandS.HeadEnd
import HandS.TupSets
import KE.KDictSum
import KE.KDictCopyH
import HandS.ExcInit
import HandS.ExcIs
import HandS.ExcField
import KE.KExcInit
import HandS.Head0
import HandS.HeadHook4
import HandS.Head1
import HandS.Head2
import HandS.HeadHook1
import HandS.HeadHook2
import PySem.Challenge.RW_losinglanes_k11_whole_lots_one_step_back
set_option Elab.async false
set_option linter.all false
set_option maxRecDepth 100000
set_option maxHeartbeats 0
/-! SrT: rows of tuples some of which are empty can be sorted, too. -/
namespace PySem.SrtX
open PySem PySem.W PySem.Calls PyProof.Rows PySem.SeqAt
section
variable {prog : Program} {w : World} {A : Around} {E : Value → Shared → Prop} {s : Shared}
theorem call_tuple_lt {Q : Value → Shared → Prop} {l b : Addr} {items items2 : Array Value} {e r : Nat → Bool} (hl : s.heap.IsTuple l items) (hb : s.heap.IsTuple b items2)
    (he : ∀ j (h1 : j < items.size) (h2 : j < items2.size), EqAt A.in1 s items[j] items2[j] (e j)) (hr : ∀ j (h1 : j < items.size) (h2 : j < items2.size), e j = false → RcLt A.in1 s items[j] items2[j] (r j))
    (h : Q (.bool (firstLt e r (decide (items.size < items2.size)) (List.range (min items.size items2.size)))) s) : wpAny (model prog w) A (call (.builtin "tuple.__lt__") [.ref l, .ref b]) Q E s := by
  obtain ⟨⟨cls, dd, data, sl⟩, ho, hc, n, hd⟩ := id hl
  obtain ⟨⟨cls2, dd2, data2, sl2⟩, ho2, hc2, n2, hd2⟩ := id hb
  simp only at hc hd hc2 hd2
  subst hc hd hc2 hd2
  exact call_meets F.slot_tuple_lt ⟨_, ho, rfl⟩ F.entry_tuple_lt (F.args_tuple_lt_2 _ _) (tuple_ltAt l b items items2 n n2 dd dd2 sl sl2 e r) ⟨ho, ho2, he, hr, h⟩
theorem oneLt_tuple {xs ys : List PyData} {a b : Value} {as bs : List Addr} {Q : Bool → Shared → Prop} (ra : Reads s.heap a (.tuple xs) as) (rb : Reads s.heap b (.tuple ys) bs) (h : alike (.tuple xs) (.tuple ys) = true)
    (hu : A.units + min (PyData.tuple xs).depth (PyData.tuple ys).depth < cLine) (hq : Q (dataLt (.tuple xs) (.tuple ys)) s) : wpAny (model prog w) A (oneLt' true a b) Q E s := by
  have hal : alikeAll xs ys = true := by simpa [alike] using h
  cases ra with
  | @tuple l o vs n _ as₁ h1 h2 h3 h4 =>
    cases rb with
    | @tuple l' o' vs' n' _ bs₁ k1 k2 k3 k4 =>
      have n1 : vs.size = xs.length := by simpa using ReadsAll.length _ _ _ h4
      have n2 : vs'.size = ys.length := by simpa using ReadsAll.length _ _ _ k4
      rw [dataLt_tuple, ← firstLt_toks xs ys hal, ← n1, ← n2] at hq
      rw [oneLt'_eq]
      simp only [if_true]
      refine wpAny_bind (wpAny_cRoomFor (room_here hu) ?_)
      refine wpAny_bind (wpAny_callSpecialIfBound?_slot (T := "tuple") ⟨_, h1, h2⟩ F.slot_tuple_lt (call_tuple_lt (e := pairEq xs ys) (r := fun j => dataLt (xs.getD j .none) (ys.getD j .none)) ⟨_, h1, h2, _, h3⟩ ⟨_, k1, k2, _, k3⟩ (fun j j1 j2 => ?_) (fun j j1 j2 hj => ?_) ?_))
      · have := eqAt_alikeAll xs ys A.in1 s vs.toList vs'.toList _ _ h4 k4 hal (room_in hu) j (by simpa using j1) (by simpa using j2)
        simpa using this
      · have := rcLt_alikeAll xs ys A.in1 s vs.toList vs'.toList _ _ h4 k4 hal (room_in hu) j (by simpa using j1) (by simpa using j2) hj
        simpa using this
      · exact wpAny_truthy_bool hq
/-- the first items of tuples, where there are any -/
theorem firsts_any {M : Model} : ∀ {vs : List Value} {ds : List PyData}, EachIs (fun v d => ∃ as, Reads s.heap v d as) vs ds → (∀ d ∈ ds, ∃ xs, d = .tuple xs) →
    ∃ os : List (Option Value), os.map Option.isSome = ds.map (fun d => match d with | .tuple (_ :: _) => true | _ => false) ∧ ∀ {A : Around} {E : Value → Shared → Prop} {Q : List (Option Value) → Shared → Prop}, Q os s → wpAny M A (vs.mapM firstOfTuple') Q E s
  | _, _, .nil, _ => ⟨[], rfl, fun h => by rw [List.mapM_nil]; exact wpAny_pure h⟩
  | _, _, .cons (a := v) (b := d) (as := vs) (bs := ds) ⟨as, r⟩ t, ht => by
    obtain ⟨os, h1, h2⟩ := firsts_any t fun d hd => ht d (List.mem_cons_of_mem _ hd)
    obtain ⟨xs, rfl⟩ := ht d List.mem_cons_self
    cases r with
    | @tuple l o its n _ _ ho hc hd hr =>
      refine ⟨its[0]? :: os, ?_, fun {A E Q} h => ?_⟩
      · rw [List.map_cons, List.map_cons, h1]
        congr 1
        have n1 : its.size = xs.length := by simpa using ReadsAll.length _ _ _ hr
        cases xs with
        | nil => simp [show its.size = 0 from n1]
        | cons x r => simp [show its.size = r.length + 1 from n1]
      · rw [List.mapM_cons]
        refine wpAny_bind ?_
        rw [kas_first_eq]
        refine wpAny_bind (Looks.here (show Looks M s.heap (typeOf (.ref l)) o.cls from (Looks.ld ho).andThen .now) ?_)
        rw [hc, if_neg (by first | decide | simp)]
        refine wpAny_bind (listItems_at ho hd (wpAny_pure ?_))
        exact wpAny_bind (h2 (wpAny_pure h))
/-- tuples that read as alike data can be sorted, empty ones among them -/
theorem sorts_tups {vs : List Value} {ds : List PyData} (e : EachIs (fun v d => ∃ as, Reads s.heap v d as) vs ds) (hal : AllAlike ds) (ht : ∀ d ∈ ds, ∃ xs, d = .tuple xs) (hu : ∀ d, d ∈ ds → A.units + d.depth < cLine) : SortsAt prog w A s (dataKind s.heap ds) vs := by
  by_cases hne : ∀ d, d ∈ ds → ∃ x r, d = .tuple (x :: r)
  · exact SortsAt.data e hal (.inl hne) hu
  have room : ∀ {d d' : PyData}, d ∈ ds → A.units + min d.depth d'.depth < cLine := fun {d d'} hd => Nat.lt_of_le_of_lt (Nat.add_le_add_left (Nat.min_le_left _ _) _) (hu d hd)
  refine ⟨fun v hv => ?_, ?_⟩
  · obtain ⟨d, hd, as, r⟩ := e.left v hv
    exact ⟨_, dataKind_some hal hd r⟩
  obtain ⟨os, ho, hf⟩ := firsts_any (M := model prog w) e ht
  have some1 : ¬ (os.toArray.all fun x => x.isSome) = true := fun h => hne fun d hd => by
    have h2 : ∀ b ∈ os.map Option.isSome, b = true := by
      intro b hb
      obtain ⟨x, hx, rfl⟩ := List.mem_map.mp hb
      simp only [List.all_toArray, List.all_eq_true] at h
      exact h x hx
    rw [ho] at h2
    obtain ⟨xs, rfl⟩ := ht d hd
    have := h2 _ (List.mem_map.mpr ⟨_, hd, rfl⟩)
    cases xs with
    | nil => simp at this
    | cons x r => exact ⟨x, r, rfl⟩
  by_cases h0 : ((os.toArray[0]?).bind id).isSome = true
  · refine ⟨general', ?_, fun h2 E Q hq => ?_⟩
    · intro E x y a b Q ha hb hq
      obtain ⟨d, as, hd, ra, rfl⟩ := dataKind_inv ha
      obtain ⟨d', as', hd', rb, rfl⟩ := dataKind_inv hb
      obtain ⟨xs, rfl⟩ := ht d hd
      show wpAny (model prog w) A (oneLt' false x y) _ _ _
      exact oneLt_alike (fun h => nomatch h) ra rb (hal _ hd d' hd') (fun h => nomatch h) (room hd) hq
    · rw [kat_kind_eq, List.mapM_toArray, map_eq_pure_bind]
      refine wpAny_bind (wpAny_bind (hf (wpAny_pure ?_)))
      rw [if_neg some1, if_pos h0]
      exact wpAny_pure hq
  · refine ⟨oneType', ?_, fun h2 E Q hq => ?_⟩
    · intro E x y a b Q ha hb hq
      obtain ⟨d, as, hd, ra, rfl⟩ := dataKind_inv ha
      obtain ⟨d', as', hd', rb, rfl⟩ := dataKind_inv hb
      obtain ⟨xs, rfl⟩ := ht d hd
      obtain ⟨ys, rfl⟩ := ht d' hd'
      rw [keyLt'_oneType]
      exact oneLt_tuple ra rb (hal _ hd _ hd') (room hd) hq
    · rw [kat_kind_eq, List.mapM_toArray, map_eq_pure_bind]
      refine wpAny_bind (wpAny_bind (hf (wpAny_pure ?_)))
      rw [if_neg some1, if_neg h0]
      obtain ⟨v₁, rest, rfl⟩ : ∃ v₁ rest, vs = v₁ :: rest := by
        match vs, h2 with
        | [], h2 => simp at h2
        | v₁ :: rest, _ => exact ⟨v₁, rest, rfl⟩
      rw [oneTypeOnly'_eq, List.mapM_toArray, map_eq_pure_bind]
      refine wpAny_bind (wpAny_bind (wpAny_bind (kas_mapM (r := Value.type "tuple") _ (fun v hv Q' hq => ?_) (wpAny_pure ?_))))
      · obtain ⟨d, hd, as, r⟩ := e.left v hv
        obtain ⟨xs, rfl⟩ := ht d hd
        exact (looks_reads r).here hq
      · have hall : ((List.map (fun _ => Value.type "tuple") (v₁ :: rest)).toArray.all fun x => x == Value.type "tuple") = true := by
          simp only [List.all_toArray, List.all_map, List.all_eq_true]
          intro _ _
          exact beq_self_eq_true _
        have h0 : (List.map (fun _ => Value.type "tuple") (v₁ :: rest)).toArray[0]? = some (Value.type "tuple") := by simp
        rw [h0]
        simp only [hall, if_true]
        exact wpAny_pure (wpAny_pure hq)
end
section
variable {β : Type} {enc : β → PyData} {bs : List β} {R : Value → β → Prop} {vs : List Value} {prog : Program} {w : World} {A : Around} {E : Value → Shared → Prop} {s : Shared}
/-- xs.sort() of such rows -/
theorem list_sort_tups {a : Addr} {n : Nat} {Q : Value → Shared → Prop} (ho : s.heap.get? a = some (seqObj "list" vs.toArray n)) (e : EachIs R vs bs) (er : EachIs (fun v b => ∃ as, Reads s.heap v (enc b) as ∧ a ∉ as) vs bs) (hal : AllAlike (bs.map enc)) (ht : ∀ d ∈ bs.map enc, ∃ xs, d = .tuple xs) (hL : bs.length ≤ sizeLine)
    (hu : ∀ b, b ∈ bs → A.units + 1 + (enc b).depth < cLine) (h : ∀ out, out.length = bs.length → EachIs R out (bs.mergeSort (dataLe false enc)) → Q .none { s with heap := sortedHeap s.heap a vs (List.toArray out) }) :
    wpAny (model prog w) A (call (.builtin "list.sort") [.ref a]) Q E s := by
  have er' : EachIs (fun v b => ∃ as, Reads (sortingHeap s.heap a vs) v (enc b) as) vs bs := each_keepBut (h' := sortingHeap s.heap a vs) (fun _ _ hb q => sortingHeap_old hb q) (fun o q => by rw [ho] at q; rw [← Option.some.inj q]) hal er
  refine wpAny_call_entry slot_list_sort ⟨_, ho, rfl⟩ entry_list_sort (list_sort_vals (κ := dataKind (sortingHeap s.heap a vs) (bs.map enc)) ho (sorts_tups (s := { s with heap := sortingHeap s.heap a vs }) (each_map (R := fun v d => ∃ as, Reads (sortingHeap s.heap a vs) v d as) enc er') hal ht (bound_map hu)) (by rw [e.length]; exact hL) ⟨.none, rfl, ?_⟩) (args_list_sort _)
  exact h _ (by rw [sortVals_length false rfl]; exact e.length) (sortVals_data false e er' hal)
end
end PySem.SrtX
/-! Mi: values without a heap, what relates them to the heap, bundles of syntax, meaning, soundness. -/
namespace Mi
open PySem PySem.Spec PyProof.Rows L2

/-- values: frozen lists and dicts are values; ref n is the n-th object of the store -/
inductive D where
  | non | bl (b : Bool) | int (i : Int) | str (s : Str)
  | tup (ds : List D) | lst (ds : List D) | rol (ds : List D) | dic (ks vs : List D) | ref (n : Nat)
/-- objects of the store -/
inductive O where
  | lst (ds : List D) | dic (ks vs : List D)
abbrev Env := List (Option D)
abbrev Sto := List O
/-- an exception: its class, its fields -/
structure DX where
  cls : Str
  fs : List (Str × D)
abbrev QD := D → Sto → Prop
abbrev QX := DX → Sto → Prop

/-! values as keys -/
mutual
def dpD : D → Nat
  | .tup ds => dpDs ds + 1
  | .lst ds => dpDs ds + 1
  | .non => 0
  | .bl _ => 0
  | .int _ => 0
  | .str _ => 0
  | .rol _ => 0
  | .dic _ _ => 0
  | .ref _ => 0
def dpDs : List D → Nat
  | [] => 0
  | d :: r => max (dpD d) (dpDs r)
end
mutual
/-- none, ints, texts, tuples of these -/
def keyD : D → Bool
  | .non => true
  | .int _ => true
  | .str s => PyData.strOk s
  | .tup ds => keyDs ds
  | _ => false
def keyDs : List D → Bool
  | [] => true
  | d :: r => keyD d && keyDs r
end
mutual
def kD : D → NestedKey
  | .int i => .num i
  | .str s => .text s
  | .tup ds => .tup (kDs ds)
  | _ => .none
def kDs : List D → List NestedKey
  | [] => []
  | d :: r => kD d :: kDs r
end
/-- what the keys of a dict are -/
structure DicK (ks : List D) : Prop where
  nd : ks.Nodup
  len : ks.length ≤ sizeLine
  key : ∀ k ∈ ks, keyD k = true ∧ dpD k ≤ 8
/-- the entries of a dict: a key, where it stands, what stands under it -/
def dicE (wd : World) (r : D × Addr × Value) : DictEntry := ⟨(kD r.1).hash wd, .ref r.2.1, r.2.2⟩
def DicAt (wd : World) (a : Addr) (rows : List (D × Addr × Value)) : Heap → Prop := fun h => ∃ o es ep, h.get? a = some o ∧ o.ExactDict ∧ o.data = .dict es ep ∧ es.toList = rows.map (dicE wd)

/-- what never changes -/
def Immut : HO → Prop
  | .tup _ => True
  | .frz _ _ => True
  | _ => False

/-- where the store's objects stand; what else no frozen list is -/
structure Mu where
  l : List Addr
  av : List Addr
def Mu.has (mu : Mu) (a : Addr) : Prop := a ∈ mu.l ∨ a ∈ mu.av
section
variable (K : PySem.W.Frag) (wd : World) (mu : Mu) (H : Hp)
mutual
def RV : D → V → Prop
  | .non, v => v = .non
  | .bl b, v => v = .bl b
  | .int i, v => v = .int i
  | .str s, v => v = .str s
  | .tup ds, v => ∃ a vs, v = .ref a ∧ SqT K H a vs ∧ RVs ds vs
  | .lst ds, v => ∃ a vs, v = .ref a ∧ H a = some (.lst vs) ∧ ¬ mu.has a ∧ RVs ds vs
  | .rol ds, v => ∃ a vs, v = .ref a ∧ (SqL K (fun _ => none) a vs ∨ ∃ o, H a = some (.frz o (.lst vs))) ∧ RVs ds vs
  | .dic _ _, _ => False
  | .ref n, v => ∃ a, v = .ref a ∧ mu.l[n]? = some a
def RVs : List D → List V → Prop
  | [], vs => vs = []
  | d :: ds, vs => ∃ v r, vs = v :: r ∧ RV d v ∧ RVs ds r
end
def RO : O → Addr → Prop
  | .lst ds, a => ∃ vs, H a = some (.lst vs) ∧ RVs K mu H ds vs
  | .dic ks vs, a => ∃ (rows : List (D × Addr × Value)) (ws : List V), H a = some (.ext (DicAt wd a rows)) ∧ ks = rows.map (·.1) ∧ RVs K mu H vs ws ∧ Vals ws (rows.map (·.2.2)) ∧ RVs K mu H ks (rows.map fun r => V.ref r.2.1) ∧ DicK ks ∧ (a == sysModules) = false
/-- the store -/
structure RelS (st : Sto) : Prop where
  nd : mu.l.Nodup
  len : mu.l.length = st.length
  obj : ∀ (n : Nat) (o : O) (a : Addr), st[n]? = some o → mu.l[n]? = some a → RO K wd mu H o a
  av : ∀ a, a ∈ mu.av → H a ≠ none ∧ a ∉ mu.l
/-- the slots -/
def RelN (en : Env) (σ : L2.St) : Prop := ∀ (i : Nat) (d : D), en[i]? = some (some d) → ∃ v, σ[i]? = some (some v) ∧ RV K mu H d v
structure RelE (en : Env) (st : Sto) (σ : L2.St) : Prop where
  sto : RelS K wd mu H st
  env : RelN K mu H en σ
  len : en.length = σ.length
end

/-- how heaps go on -/
structure Step (mu : Mu) (H : Hp) (mu' : Mu) (H' : Hp) : Prop where
  av : ∀ a, a ∈ mu.av → a ∈ mu'.av
  nav : ∀ a, a ∈ mu'.av → a ∈ mu.av ∨ H a = none
  pre : ∃ ext, mu'.l = mu.l ++ ext ∧ ∀ a ∈ ext, H a = none
  keep : ∀ a o, H a = some o → (a ∉ mu.l ∨ Immut o) → H' a = some o
  live : ∀ a, H a ≠ none → H' a ≠ none
theorem Step.refl (mu : Mu) (H : Hp) : Step mu H mu H := ⟨fun _ h => h, fun _ h => .inl h, ⟨[], by simp, by simp⟩, fun _ _ h _ => h, fun _ h => h⟩
theorem Step.trans {m0 m1 m2 : Mu} {H0 H1 H2 : Hp} (a : Step m0 H0 m1 H1) (b : Step m1 H1 m2 H2) : Step m0 H0 m2 H2 := by
  obtain ⟨e1, r1, f1⟩ := a.pre
  obtain ⟨e2, r2, f2⟩ := b.pre
  have back : ∀ x, H1 x = none → H0 x = none := fun x h1 => by
    cases q : H0 x with
    | none => rfl
    | some o => exact absurd h1 (a.live x (by rw [q]; simp))
  refine ⟨fun x h => b.av x (a.av x h), fun x h => (b.nav x h).elim (fun z => a.nav x z) fun z => .inr (back x z), ⟨e1 ++ e2, by rw [r2, r1, List.append_assoc], fun x hx => ?_⟩, fun x o h c => ?_, fun x h => b.live x (a.live x h)⟩
  · rcases List.mem_append.mp hx with h | h
    · exact f1 x h
    · have h1 := f2 x h
      cases q : H0 x with
      | none => rfl
      | some o => exact absurd h1 (a.live x (by rw [q]; simp))
  · refine b.keep x o (a.keep x o h c) ?_
    rcases c with c | c
    · refine .inl fun hx => ?_
      rw [r1] at hx
      rcases List.mem_append.mp hx with z | z
      · exact c z
      · rw [f1 x z] at h; cases h
    · exact .inr c
theorem Step.sub {m0 m1 : Mu} {H0 H1 : Hp} (a : Step m0 H0 m1 H1) {n : Nat} {x : Addr} (h : m0.l[n]? = some x) : m1.l[n]? = some x := by
  obtain ⟨e1, r1, _⟩ := a.pre
  rw [r1, List.getElem?_append_left (List.getElem?_eq_some_iff.mp h).1]
  exact h
theorem Step.rdT {m0 m1 : Mu} {H0 H1 : Hp} {K : PySem.W.Frag} (s : Step m0 H0 m1 H1) {a : Addr} {vs : List V} (h : SqT K H0 a vs) : SqT K H1 a vs := by
  rcases h with (h | ⟨o, h⟩) | h
  · exact .inl (.inl (s.keep _ _ h (.inr trivial)))
  · exact .inl (.inr ⟨o, s.keep _ _ h (.inr trivial)⟩)
  · exact .inr h
theorem Step.out {m0 m1 : Mu} {H0 H1 : Hp} (s : Step m0 H0 m1 H1) {a : Addr} (h : H0 a ≠ none) (n : ¬ m0.has a) : ¬ m1.has a := fun z => by
  obtain ⟨e1, r1, f1⟩ := s.pre
  rcases z with z | z
  · rw [r1] at z
    rcases List.mem_append.mp z with z | z
    · exact n (.inl z)
    · exact h (f1 a z)
  · rcases s.nav a z with z | z
    · exact n (.inr z)
    · exact h z
section
variable {K : PySem.W.Frag} {m0 m1 : Mu} {H0 H1 : Hp}
mutual
theorem RV.step (s : Step m0 H0 m1 H1) : ∀ {d : D} {v : V}, RV K m0 H0 d v → RV K m1 H1 d v
  | .non, _, h => h
  | .bl _, _, h => h
  | .int _, _, h => h
  | .str _, _, h => h
  | .tup ds, _, ⟨a, vs, e, h, r⟩ => ⟨a, vs, e, s.rdT h, RVs.step s r⟩
  | .lst ds, _, ⟨a, vs, e, h, n, r⟩ => ⟨a, vs, e, s.keep _ _ h (.inl fun z => n (.inl z)), s.out (by rw [h]; simp) n, RVs.step s r⟩
  | .rol ds, _, ⟨a, vs, e, h, r⟩ => ⟨a, vs, e, h.elim .inl fun ⟨o, h⟩ => .inr ⟨o, s.keep _ _ h (.inr trivial)⟩, RVs.step s r⟩
  | .dic _ _, _, h => h
  | .ref n, _, ⟨a, e, h⟩ => ⟨a, e, s.sub h⟩
theorem RVs.step (s : Step m0 H0 m1 H1) : ∀ {ds : List D} {vs : List V}, RVs K m0 H0 ds vs → RVs K m1 H1 ds vs
  | [], _, h => h
  | _ :: _, _, ⟨v, r, e, h, t⟩ => ⟨v, r, e, RV.step s h, RVs.step s t⟩
end
theorem RelN.step (s : Step m0 H0 m1 H1) {en : Env} {σ : L2.St} (h : RelN K m0 H0 en σ) : RelN K m1 H1 en σ := fun i d e =>
  let ⟨v, e1, r⟩ := h i d e
  ⟨v, e1, r.step s⟩
theorem RelE.step (s : Step m0 H0 m1 H1) {en : Env} {st st' : Sto} {σ : L2.St} (h : RelE K wd m0 H0 en st σ) (hs : RelS K wd m1 H1 st') : RelE K wd m1 H1 en st' σ := ⟨hs, h.env.step s, h.len⟩
theorem RVs.len : ∀ {ds : List D} {vs : List V}, RVs K m0 H0 ds vs → ds.length = vs.length
  | [], _, h => by rw [show _ = [] from h]; rfl
  | _ :: _, _, ⟨v, r, e, h, t⟩ => by rw [e, List.length_cons, List.length_cons, RVs.len t]
theorem RVs.get : ∀ {ds : List D} {vs : List V}, RVs K m0 H0 ds vs → ∀ {i : Nat} {d : D}, ds[i]? = some d → ∃ v, vs[i]? = some v ∧ RV K m0 H0 d v
  | [], _, _, _, _, e => by simp at e
  | _ :: _, _, ⟨v, r, e1, h, t⟩, 0, _, e => by subst e1; simp at e; subst e; exact ⟨v, rfl, h⟩
  | _ :: _, _, ⟨v, r, e1, h, t⟩, i + 1, _, e => by
    subst e1
    obtain ⟨u, q1, q2⟩ := RVs.get t (i := i) (by simpa using e)
    exact ⟨u, by simpa using q1, q2⟩
theorem RVs.app : ∀ {ds es : List D} {vs us : List V}, RVs K m0 H0 ds vs → RVs K m0 H0 es us → RVs K m0 H0 (ds ++ es) (vs ++ us)
  | [], _, _, _, h, q => by rw [show _ = [] from h]; exact q
  | _ :: _, _, _, _, ⟨v, r, e, h, t⟩, q => ⟨v, _, by rw [e]; rfl, h, RVs.app t q⟩
end

/-- the fixed surroundings -/
structure GEnv where
  prog : Program
  w : World
  K : PySem.W.Frag
  mg : Str → Option Value
  base : Heap
/-- an exception's fields, class -/
structure XR (G : GEnv) (mu : Mu) (H : Hp) (x : DX) (cls : Value) (dd : Option Addr) : Prop where
  cl : G.mg x.cls = some cls
  fs : (x.fs = [] ∧ dd = none) ∨ ∃ (d : Addr) (fs : List (Str × V)), dd = some d ∧ H d = some (.xd fs) ∧ ¬ mu.has d ∧ fs.map (·.1) = x.fs.map (·.1) ∧ RVs G.K mu H (x.fs.map (·.2)) (fs.map (·.2))
theorem XR.step {G : GEnv} {m0 m1 : Mu} {H0 H1 : Hp} (s : Step m0 H0 m1 H1) {x : DX} {cls : Value} {dd : Option Addr} (h : XR G m0 H0 x cls dd) : XR G m1 H1 x cls dd := by
  refine ⟨h.cl, ?_⟩
  rcases h.fs with e | ⟨d, fs, e, hd, n, q, r⟩
  · exact .inl e
  · exact .inr ⟨d, fs, e, s.keep _ _ hd (.inl fun z => n (.inl z)), s.out (by rw [hd]; simp) n, q, r.step s⟩

/-- a context of the surroundings G with k levels of room -/
structure Good (G : GEnv) (k : Nat) (X : Cx) : Prop where
  prog : X.prog = G.prog
  w : X.w = G.w
  K : X.K = G.K
  mg : X.mg = G.mg
  base : X.base = G.base
  room : Room k X.A
  nd : X.N.Nodup
  calm : X.calm = true
  kind : X.env.scope.kind = .function
  guards : X.A.guards = some []

/-! ### posts over the heap -/
def PostD (G : GEnv) (mu : Mu) (H : Hp) (Q : VK) : QD := fun d st' => ∀ mu' v H', Step mu H mu' H' → RelS G.K G.w mu' H' st' → RV G.K mu' H' d v → Q v H'
def PostX (G : GEnv) (mu : Mu) (H : Hp) (σ : L2.St) (W : WX) : QX := fun x st' => ∀ mu' cls dd H', Step mu H mu' H' → RelS G.K G.w mu' H' st' → XR G mu' H' x cls dd → W cls dd σ H'
theorem PostD.step {G : GEnv} {m0 m1 : Mu} {H0 H1 : Hp} {Q : VK} (s : Step m0 H0 m1 H1) {d : D} {st : Sto} (h : PostD G m0 H0 Q d st) : PostD G m1 H1 Q d st := fun mu v H' s2 r q => h mu v H' (s.trans s2) r q
theorem PostX.step {G : GEnv} {m0 m1 : Mu} {H0 H1 : Hp} {σ : L2.St} {W : WX} (s : Step m0 H0 m1 H1) {x : DX} {st : Sto} (h : PostX G m0 H0 σ W x st) : PostX G m1 H1 σ W x st := fun mu c dd H' s2 r q => h mu c dd H' (s.trans s2) r q

abbrev WpE := Env → Sto → QD → QX → Prop
def MonoE (wp : WpE) : Prop := ∀ (en : Env) (st : Sto) (Q Q' : QD) (E E' : QX), wp en st Q E → (∀ d s, Q d s → Q' d s) → (∀ x s, E x s → E' x s) → wp en st Q' E'
/-- the reading of a meaning -/
def tW (G : GEnv) (wp : WpE) (W : WX) : TE := fun σ H Q => ∃ mu en st, RelE G.K G.w mu H en st σ ∧ wp en st (PostD G mu H Q) (PostX G mu H σ W)
/-- an expression: its shape, what it needs, its meaning -/
structure SemE where
  chk : List Str → Scope → Expr → Bool
  req : GEnv → Nat → Prop
  wp : WpE
  mono : MonoE wp
  sound : ∀ (G : GEnv) (k : Nat) (X : Cx) (W : WX) (e : Expr), Good G k X → Takes X W → req G k → chk X.N X.env.scope e = true → PE X e (tW G wp W)

/-- one operand -/
theorem tw1 {G : GEnv} {W : WX} {a : WpE} (ma : MonoE a) {mu : Mu} {en : Env} {st : Sto} {σ : L2.St} {H : Hp} (R : RelE G.K G.w mu H en st σ) {F : QD} {Q : V → Hp → Prop}
    (h : a en st F (PostX G mu H σ W)) (f : ∀ d st1 mu1 v H1, F d st1 → Step mu H mu1 H1 → RelS G.K G.w mu1 H1 st1 → RV G.K mu1 H1 d v → Q v H1) : tW G a W σ H Q :=
  ⟨mu, en, st, R, ma _ _ _ _ _ _ h (fun d s1 hF mu1 v H1 s r q => f d s1 mu1 v H1 hF s r q) fun _ _ hx => hx⟩
/-- two operands -/
theorem tw2 {G : GEnv} {W : WX} {a b : WpE} (ma : MonoE a) (mb : MonoE b) {mu : Mu} {en : Env} {st : Sto} {σ : L2.St} {H : Hp} (R : RelE G.K G.w mu H en st σ) {F : D → QD} {Q : V → V → Hp → Prop}
    (h : a en st (fun x st1 => b en st1 (F x) (PostX G mu H σ W)) (PostX G mu H σ W))
    (f : ∀ x y st2 mu2 v u H2, F x y st2 → Step mu H mu2 H2 → RelS G.K G.w mu2 H2 st2 → RV G.K mu2 H2 x v → RV G.K mu2 H2 y u → Q v u H2) : tW G a W σ H (fun v H1 => tW G b W σ H1 (Q v)) :=
  tw1 ma R h fun x st1 mu1 v H1 h1 s1 r1 q1 => ⟨mu1, en, st1, R.step s1 r1, mb _ _ _ _ _ _ h1 (fun y st2 hF mu2 u H2 s2 r2 q2 => f x y st2 mu2 v u H2 hF (s1.trans s2) r2 (q1.step s2) q2) fun _ _ hx => hx.step s1⟩
end Mi
namespace Mi
open PySem PySem.Spec PyProof.Rows L2

/-! ### names -/
def isNm (N : List Str) (i : Nat) (x : Str) : Bool := match N[i]? with | some y => decide (y = x) | none => false
theorem isNm_ok {N : List Str} {i : Nat} {x : Str} (h : isNm N i x = true) : N[i]? = some x := by
  unfold isNm at h
  split at h
  · rename_i y e; rw [e, of_decide_eq_true h]
  · cases h
def visB (sc : Scope) (x : Str) : Bool := match sc.names.lookup x with | some .local => true | some .cell => true | some .free => true | _ => false
theorem visB_ok {sc : Scope} {x : Str} (h : visB sc x = true) : Vis sc x := by
  unfold visB at h
  split at h
  · exact .inl (by assumption)
  · exact .inr (.inl (by assumption))
  · exact .inr (.inr (by assumption))
  · cases h
def glB (sc : Scope) (x : Str) : Bool := match sc.names.lookup x with | some .globalImplicit => true | _ => false
theorem glB_ok {X : Cx} {x : Str} (h : glB X.env.scope x = true) : Gl X x := by
  unfold glB at h
  split at h
  · assumption
  · cases h
/-- no name of the machine's own -/
def plainNm (x : Str) : Bool := !(x == ("__debug__" : Str)) && !(x == ("__classdict__" : Str)) && !decide (x = ("__name__" : Str))
theorem plainNm_ok {x : Str} (h : plainNm x = true) : (x == ("__debug__" : Str)) = false ∧ (x == ("__classdict__" : Str)) = false ∧ x ≠ "__name__" := by
  unfold plainNm at h
  simp only [Bool.and_eq_true, Bool.not_eq_true', decide_eq_false_iff_not] at h
  exact ⟨h.1.1, h.1.2, h.2⟩

def eVar (i : Nat) : SemE where
  chk N sc e := match e with | .Name x _ => isNm N i x && visB sc x && plainNm x | _ => false
  req _ _ := True
  wp en st Q _ := match en[i]? with | some (some d) => Q d st | _ => False
  mono := by
    intro en st Q Q' E E' h f g
    split at h
    · exact f _ _ h
    · exact h.elim
  sound := by
    intro G k X W e gd tk rq hc
    split at hc
    · rename_i x p
      simp only [Bool.and_eq_true] at hc
      obtain ⟨⟨h1, h2⟩, h3⟩ := hc
      obtain ⟨p1, p2, _⟩ := plainNm_ok h3
      have base := pe_var (pos := p) (isNm_ok h1) (visB_ok h2) p1 p2
      refine ⟨fun pins s σ H Q I h => base.run pins s σ H Q I ?_⟩
      obtain ⟨mu, en, st, R, h⟩ := h
      split at h
      · rename_i d e
        obtain ⟨v, e1, r⟩ := R.env i d e
        exact ⟨v, e1, h mu v H (Step.refl _ _) R.sto r⟩
      · exact h.elim
    · cases hc

/-- a value that is written -/
def eLit (m : Const → Bool) (d : D) (hm : ∀ c, m c = true → ∀ (X : Cx) (j : Nat) (pos : Pos), ∃ v : V, PE X (.Constant c j pos) (tC v) ∧ ∀ K mu H, RV K mu H d v) : SemE where
  chk _ _ e := match e with | .Constant c _ _ => m c | _ => false
  req _ _ := True
  wp _ st Q _ := Q d st
  mono _ _ _ _ _ _ h f _ := f _ _ h
  sound := by
    intro G k X W e gd tk rq hc
    split at hc
    · rename_i c j p
      obtain ⟨v, h1, h2⟩ := hm c hc X j p
      refine ⟨fun pins s σ H Q I h => h1.run pins s σ H Q I ?_⟩
      obtain ⟨mu, en, st, R, h⟩ := h
      exact h mu v H (Step.refl _ _) R.sto (h2 _ _ _)
    · cases hc
def eInt (i : Int) : SemE := eLit (fun c => match c with | .int j => decide (j = i) | _ => false) (.int i) (by
  intro c h X j pos
  split at h
  · have e := of_decide_eq_true h
    subst e
    exact ⟨.int _, pe_int, fun _ _ _ => rfl⟩
  · cases h)
def eBl (b : Bool) : SemE := eLit (fun c => match c with | .bool j => decide (j = b) | _ => false) (.bl b) (by
  intro c h X j pos
  split at h
  · have e := of_decide_eq_true h
    subst e
    exact ⟨.bl _, pe_bl, fun _ _ _ => rfl⟩
  · cases h)
def eStr (b : Str) : SemE := eLit (fun c => match c with | .str j => decide (j = b) | _ => false) (.str b) (by
  intro c h X j pos
  split at h
  · have e := of_decide_eq_true h
    subst e
    exact ⟨.str _, pe_str, fun _ _ _ => rfl⟩
  · cases h)
def eNone : SemE := eLit (fun c => match c with | .none => true | _ => false) .non (by
  intro c h X j pos
  split at h
  · exact ⟨.non, pe_non, fun _ _ _ => rfl⟩
  · cases h)

/-! ### two-place operations on values -/
def rD (G : GEnv) (wp : D → D → Sto → QD → Prop) : R2 := fun v u H Q => ∃ mu st x y, RelS G.K G.w mu H st ∧ RV G.K mu H x v ∧ RV G.K mu H y u ∧ wp x y st (PostD G mu H Q)
structure OpD (f : Value → Value → Sem Value) where
  wp : D → D → Sto → QD → Prop
  mono : ∀ x y st Q Q', wp x y st Q → (∀ d s, Q d s → Q' d s) → wp x y st Q'
  sound : ∀ (G : GEnv) (k : Nat) (X : Cx), Good G k X → OpR X f (rD G wp)
def eBin (op : Operator) (o : OpD (binaryOp op)) (a b : SemE) : SemE where
  chk N sc e := match e with | .BinOp x p y _ => decide (p = op) && a.chk N sc x && b.chk N sc y | _ => false
  req G k := a.req G k ∧ b.req G k
  wp en st Q E := a.wp en st (fun x st1 => b.wp en st1 (fun y st2 => o.wp x y st2 Q) E) E
  mono en st Q Q' E E' h f g := a.mono _ _ _ _ _ _ h (fun x s hx => b.mono _ _ _ _ _ _ hx (fun y s hy => o.mono _ _ _ _ _ hy f) g) g
  sound := by
    intro G k X W e gd tk rq hc
    split at hc
    · rename_i x p y pos
      simp only [Bool.and_eq_true, decide_eq_true_eq] at hc
      obtain ⟨⟨rfl, h1⟩, h2⟩ := hc
      have base := pe_op (pos := pos) (o.sound G k X gd) (a.sound G k X W x gd tk rq.1 h1) (b.sound G k X W y gd tk rq.2 h2)
      refine ⟨fun pins s σ H Q I h => base.run pins s σ H Q I ?_⟩
      obtain ⟨mu, en, st, R, h⟩ := h
      exact tw2 a.mono b.mono R h fun x y st2 mu2 v u H2 hF s2 r2 q1 q2 => ⟨mu2, st2, x, y, r2, q1, q2, o.mono _ _ _ _ _ hF fun d s hd => hd.step s2⟩
    · cases hc

/-! ### comparisons -/
/-- an operator that wants no mark -/
def noMarkOp (op : CmpOp) (b : Expr) : Bool := !behindInMarks op b
def eCmp (op : CmpOp) (o : OpD (compareOp op)) (a b : SemE) : SemE where
  chk N sc e := match e with | .Compare x [p] [y] _ => decide (p = op) && noMarkOp op y && a.chk N sc x && b.chk N sc y | _ => false
  req G k := a.req G k ∧ b.req G k
  wp en st Q E := a.wp en st (fun x st1 => b.wp en st1 (fun y st2 => o.wp x y st2 Q) E) E
  mono en st Q Q' E E' h f g := a.mono _ _ _ _ _ _ h (fun x s hx => b.mono _ _ _ _ _ _ hx (fun y s hy => o.mono _ _ _ _ _ hy f) g) g
  sound := by
    intro G k X W e gd tk rq hc
    split at hc
    · rename_i x p y pos
      simp only [Bool.and_eq_true, decide_eq_true_eq] at hc
      obtain ⟨⟨⟨rfl, hm⟩, h1⟩, h2⟩ := hc
      have hm' : behindInMarks p y = false := by simpa [noMarkOp] using hm
      have base := pe_cmpR (pos := pos) (o.sound G k X gd) (a.sound G k X W x gd tk rq.1 h1) (b.sound G k X W y gd tk rq.2 h2) hm'
      refine ⟨fun pins s σ H Q I h => base.run pins s σ H Q I ?_⟩
      obtain ⟨mu, en, st, R, h⟩ := h
      exact tw2 a.mono b.mono R h fun x y st2 mu2 v u H2 hF s2 r2 q1 q2 => ⟨mu2, st2, x, y, r2, q1, q2, o.mono _ _ _ _ _ hF fun d s hd => hd.step s2⟩
    · cases hc
/-- a op b op' c -/
def eChain (op op' : CmpOp) (o : OpD (compareOp op)) (o' : OpD (compareOp op')) (a b c : SemE) : SemE where
  chk N sc e := match e with | .Compare x [p, p'] [y, z] _ => decide (p = op) && decide (p' = op') && noMarkOp op' z && a.chk N sc x && b.chk N sc y && c.chk N sc z | _ => false
  req G k := a.req G k ∧ b.req G k ∧ c.req G k
  wp en st Q E := a.wp en st (fun x st1 => b.wp en st1 (fun y st2 => o.wp x y st2 fun r st3 => match r with | .bl true => c.wp en st3 (fun z st4 => o'.wp y z st4 Q) E | .bl false => Q (.bl false) st3 | _ => False) E) E
  mono en st Q Q' E E' h f g := a.mono _ _ _ _ _ _ h (fun x s hx => b.mono _ _ _ _ _ _ hx (fun y s hy => o.mono _ _ _ _ _ hy fun r s3 hr => by
    split at hr
    · exact c.mono _ _ _ _ _ _ hr (fun z s hz => o'.mono _ _ _ _ _ hz f) g
    · exact f _ _ hr
    · exact hr.elim) g) g
  sound := by
    intro G k X W e gd tk rq hc
    split at hc
    · rename_i x p p' y z pos
      simp only [Bool.and_eq_true, decide_eq_true_eq] at hc
      obtain ⟨⟨⟨⟨⟨rfl, rfl⟩, hm⟩, h1⟩, h2⟩, h3⟩ := hc
      have hm' : behindInMarks p' z = false := by simpa [noMarkOp] using hm
      have base := pe_chain (pos := pos) (o.sound G k X gd) (o'.sound G k X gd) (a.sound G k X W x gd tk rq.1 h1) (b.sound G k X W y gd tk rq.2.1 h2) (c.sound G k X W z gd tk rq.2.2 h3) hm'
      refine ⟨fun pins s σ H Q I h => base.run pins s σ H Q I ?_⟩
      obtain ⟨mu, en, st, R, h⟩ := h
      refine tw2 a.mono b.mono R h fun x y st2 mu2 v u H2 hF s2 r2 q1 q2 => ⟨mu2, st2, x, y, r2, q1, q2, o.mono _ _ _ _ _ hF fun d s hd => ?_⟩
      intro mu3 w3 H3 s3 r3 q3
      split at hd
      · refine ⟨true, q3, ?_⟩
        rw [if_pos rfl]
        refine tw1 c.mono (R.step (s2.trans s3) r3) (c.mono _ _ _ _ _ _ hd (fun _ _ h => h) fun _ _ hx => PostX.step (s2.trans s3) hx) fun z st4 mu4 t H4 hF4 s4 r4 q4 => ?_
        exact ⟨mu4, st4, y, z, r4, (q2.step s3).step s4, q4, o'.mono _ _ _ _ _ hF4 fun d s hd => PostD.step ((s2.trans s3).trans s4) hd⟩
      · refine ⟨false, q3, ?_⟩
        rw [if_neg (by simp)]
        exact hd mu3 (.bl false) H3 (s2.trans s3) r3 rfl
      · exact hd.elim
    · cases hc

/-! ### and, or, not as values (of bools) -/
def wpAndL : List SemE → Env → Sto → QD → QX → Prop
  | [], _, _, _, _ => False
  | [a], en, st, Q, E => a.wp en st Q E
  | a :: r, en, st, Q, E => a.wp en st (fun x st1 => match x with | .bl true => wpAndL r en st1 Q E | .bl false => Q (.bl false) st1 | _ => False) E
theorem wpAndL_mono : ∀ (l : List SemE), MonoE (wpAndL l)
  | [], _, _, _, _, _, _, h, _, _ => h.elim
  | [a], en, st, Q, Q', E, E', h, f, g => a.mono _ _ _ _ _ _ h f g
  | a :: b :: r, en, st, Q, Q', E, E', h, f, g => a.mono _ _ _ _ _ _ h (fun x s hx => by
    split at hx
    · exact wpAndL_mono (b :: r) _ _ _ _ _ _ hx f g
    · exact f _ _ hx
    · exact hx.elim) g
def wpOrL : List SemE → Env → Sto → QD → QX → Prop
  | [], _, _, _, _ => False
  | [a], en, st, Q, E => a.wp en st Q E
  | a :: r, en, st, Q, E => a.wp en st (fun x st1 => match x with | .bl true => Q (.bl true) st1 | .bl false => wpOrL r en st1 Q E | _ => False) E
theorem wpOrL_mono : ∀ (l : List SemE), MonoE (wpOrL l)
  | [], _, _, _, _, _, _, h, _, _ => h.elim
  | [a], en, st, Q, Q', E, E', h, f, g => a.mono _ _ _ _ _ _ h f g
  | a :: b :: r, en, st, Q, Q', E, E', h, f, g => a.mono _ _ _ _ _ _ h (fun x s hx => by
    split at hx
    · exact f _ _ hx
    · exact wpOrL_mono (b :: r) _ _ _ _ _ _ hx f g
    · exact hx.elim) g
def chkL : List SemE → List Str → Scope → List Expr → Bool
  | [], _, _, [] => true
  | a :: r, N, sc, e :: es => a.chk N sc e && chkL r N sc es
  | _, _, _, _ => false
def reqL : List SemE → GEnv → Nat → Prop
  | [], _, _ => True
  | a :: r, G, k => a.req G k ∧ reqL r G k
theorem andL_sound (G : GEnv) (k : Nat) (X : Cx) (W : WX) (gd : Good G k X) (tk : Takes X W) (pos : Pos) : ∀ (l : List SemE) (es : List Expr), reqL l G k → chkL l X.N X.env.scope es = true → l ≠ [] → PE X (.BoolOp .And es pos) (tW G (wpAndL l) W)
  | [], _, _, _, h => absurd rfl h
  | [a], [e], rq, hc, _ => by
    have h1 : a.chk X.N X.env.scope e = true := by simpa [chkL] using hc
    exact pe_one (a.sound G k X W e gd tk rq.1 h1)
  | [a], [], _, hc, _ => by simp [chkL] at hc
  | [a], _ :: _ :: _, _, hc, _ => by simp [chkL] at hc
  | a :: b :: r, [], _, hc, _ => by simp [chkL] at hc
  | a :: b :: r, [_], _, hc, _ => by simp [chkL] at hc
  | a :: b :: r, e :: e2 :: es, rq, hc, _ => by
    have hc' : a.chk X.N X.env.scope e = true ∧ chkL (b :: r) X.N X.env.scope (e2 :: es) = true := by
      rw [← Bool.and_eq_true]; exact hc
    have base := pe_and (a.sound G k X W e gd tk rq.1 hc'.1) (andL_sound G k X W gd tk pos (b :: r) (e2 :: es) rq.2 hc'.2 (by simp))
    refine ⟨fun pins s σ H Q I h => base.run pins s σ H Q I ?_⟩
    obtain ⟨mu, en, st, R, h⟩ := h
    refine tw1 a.mono R h fun d st1 mu1 v H1 hF s1 r1 q1 => ?_
    split at hF
    · exact ⟨true, q1, by rw [if_pos rfl]; exact ⟨mu1, en, st1, R.step s1 r1, wpAndL_mono (b :: r) _ _ _ _ _ _ hF (fun _ _ h => PostD.step s1 h) fun _ _ h => PostX.step s1 h⟩⟩
    · exact ⟨false, q1, by rw [if_neg (by simp)]; exact hF mu1 (.bl false) H1 s1 r1 rfl⟩
    · exact hF.elim
theorem orL_sound (G : GEnv) (k : Nat) (X : Cx) (W : WX) (gd : Good G k X) (tk : Takes X W) (pos : Pos) : ∀ (l : List SemE) (es : List Expr), reqL l G k → chkL l X.N X.env.scope es = true → l ≠ [] → PE X (.BoolOp .Or es pos) (tW G (wpOrL l) W)
  | [], _, _, _, h => absurd rfl h
  | [a], [e], rq, hc, _ => by
    have h1 : a.chk X.N X.env.scope e = true := by simpa [chkL] using hc
    exact pe_one (a.sound G k X W e gd tk rq.1 h1)
  | [a], [], _, hc, _ => by simp [chkL] at hc
  | [a], _ :: _ :: _, _, hc, _ => by simp [chkL] at hc
  | a :: b :: r, [], _, hc, _ => by simp [chkL] at hc
  | a :: b :: r, [_], _, hc, _ => by simp [chkL] at hc
  | a :: b :: r, e :: e2 :: es, rq, hc, _ => by
    have hc' : a.chk X.N X.env.scope e = true ∧ chkL (b :: r) X.N X.env.scope (e2 :: es) = true := by
      rw [← Bool.and_eq_true]; exact hc
    have base := pe_or (a.sound G k X W e gd tk rq.1 hc'.1) (orL_sound G k X W gd tk pos (b :: r) (e2 :: es) rq.2 hc'.2 (by simp))
    refine ⟨fun pins s σ H Q I h => base.run pins s σ H Q I ?_⟩
    obtain ⟨mu, en, st, R, h⟩ := h
    refine tw1 a.mono R h fun d st1 mu1 v H1 hF s1 r1 q1 => ?_
    split at hF
    · exact ⟨true, q1, by rw [if_pos rfl]; exact hF mu1 (.bl true) H1 s1 r1 rfl⟩
    · exact ⟨false, q1, by rw [if_neg (by simp)]; exact ⟨mu1, en, st1, R.step s1 r1, wpOrL_mono (b :: r) _ _ _ _ _ _ hF (fun _ _ h => PostD.step s1 h) fun _ _ h => PostX.step s1 h⟩⟩
    · exact hF.elim
def eAnd (l : List SemE) (hl : l ≠ [] := by simp) : SemE where
  chk N sc e := match e with | .BoolOp .And es _ => chkL l N sc es | _ => false
  req := reqL l
  wp := wpAndL l
  mono := wpAndL_mono l
  sound := by
    intro G k X W e gd tk rq hc
    split at hc
    · exact andL_sound G k X W gd tk _ l _ rq hc hl
    · cases hc
def eOr (l : List SemE) (hl : l ≠ [] := by simp) : SemE where
  chk N sc e := match e with | .BoolOp .Or es _ => chkL l N sc es | _ => false
  req := reqL l
  wp := wpOrL l
  mono := wpOrL_mono l
  sound := by
    intro G k X W e gd tk rq hc
    split at hc
    · exact orL_sound G k X W gd tk _ l _ rq hc hl
    · cases hc
def eNot (a : SemE) : SemE where
  chk N sc e := match e with | .UnaryOp .Not x _ => a.chk N sc x | _ => false
  req := a.req
  wp en st Q E := a.wp en st (fun x st1 => match x with | .bl b => Q (.bl (!b)) st1 | _ => False) E
  mono en st Q Q' E E' h f g := a.mono _ _ _ _ _ _ h (fun x s hx => by
    split at hx
    · exact f _ _ hx
    · exact hx.elim) g
  sound := by
    intro G k X W e gd tk rq hc
    split at hc
    · rename_i x p
      have base := pe_not (pos := p) (a.sound G k X W x gd tk rq hc)
      refine ⟨fun pins s σ H Q I h => base.run pins s σ H Q I ?_⟩
      obtain ⟨mu, en, st, R, h⟩ := h
      refine tw1 a.mono R h fun d st1 mu1 v H1 hF s1 r1 q1 => ?_
      split at hF
      · exact ⟨_, q1, hF mu1 _ H1 s1 r1 rfl⟩
      · exact hF.elim
    · cases hc

/-! ### tests -/
abbrev WpT := Env → Sto → (Bool → Sto → Prop) → QX → Prop
def MonoT (wp : WpT) : Prop := ∀ (en : Env) (st : Sto) (Q Q' : Bool → Sto → Prop) (E E' : QX), wp en st Q E → (∀ d s, Q d s → Q' d s) → (∀ x s, E x s → E' x s) → wp en st Q' E'
def PostB (G : GEnv) (mu : Mu) (H : Hp) (Q : Bool → Hp → Prop) : Bool → Sto → Prop := fun b st' => ∀ mu' H', Step mu H mu' H' → RelS G.K G.w mu' H' st' → Q b H'
theorem PostB.step {G : GEnv} {m0 m1 : Mu} {H0 H1 : Hp} {Q : Bool → Hp → Prop} (s : Step m0 H0 m1 H1) {d : Bool} {st : Sto} (h : PostB G m0 H0 Q d st) : PostB G m1 H1 Q d st := fun mu H' s2 r => h mu H' (s.trans s2) r
def tWT (G : GEnv) (wp : WpT) (W : WX) : TT := fun σ H Q => ∃ mu en st, RelE G.K G.w mu H en st σ ∧ wp en st (PostB G mu H Q) (PostX G mu H σ W)
structure SemT where
  chk : List Str → Scope → Expr → Bool
  req : GEnv → Nat → Prop
  wp : WpT
  mono : MonoT wp
  sound : ∀ (G : GEnv) (k : Nat) (X : Cx) (W : WX) (e : Expr), Good G k X → Takes X W → req G k → chk X.N X.env.scope e = true → PT X e (tWT G wp W)
/-- an expression that is no and, or, not, if, comparison -/
def isPlainE : Expr → Bool
  | .BoolOp .. => false
  | .UnaryOp .. => false
  | .IfExp .. => false
  | .Compare .. => false
  | _ => true
def tV (a : SemE) : SemT where
  chk N sc e := isPlainE e && a.chk N sc e
  req := a.req
  wp en st Q E := a.wp en st (fun x st1 => match x with | .bl b => Q b st1 | _ => False) E
  mono en st Q Q' E E' h f g := a.mono _ _ _ _ _ _ h (fun x s hx => by
    split at hx
    · exact f _ _ hx
    · exact hx.elim) g
  sound := by
    intro G k X W e gd tk rq hc
    simp only [Bool.and_eq_true] at hc
    have base := pt_val (a.sound G k X W e gd tk rq hc.2) (by
      intro whole
      have h := hc.1
      cases e <;> first | rfl | (simp [isPlainE] at h))
    refine ⟨fun pins s σ H Q I h => base.run pins s σ H Q I ?_⟩
    obtain ⟨mu, en, st, R, h⟩ := h
    refine tw1 a.mono R h fun d st1 mu1 v H1 hF s1 r1 q1 => ?_
    split at hF
    · exact ⟨_, q1, hF mu1 H1 s1 r1⟩
    · exact hF.elim
def tCm (op : CmpOp) (o : OpD (compareOp op)) (a b : SemE) : SemT where
  chk N sc e := match e with | .Compare x [p] [y] _ => decide (p = op) && noMarkOp op y && a.chk N sc x && b.chk N sc y | _ => false
  req G k := a.req G k ∧ b.req G k
  wp en st Q E := a.wp en st (fun x st1 => b.wp en st1 (fun y st2 => o.wp x y st2 fun r st3 => match r with | .bl b => Q b st3 | _ => False) E) E
  mono en st Q Q' E E' h f g := a.mono _ _ _ _ _ _ h (fun x s hx => b.mono _ _ _ _ _ _ hx (fun y s hy => o.mono _ _ _ _ _ hy fun r s hr => by
    split at hr
    · exact f _ _ hr
    · exact hr.elim) g) g
  sound := by
    intro G k X W e gd tk rq hc
    split at hc
    · rename_i x p y pos
      simp only [Bool.and_eq_true, decide_eq_true_eq] at hc
      obtain ⟨⟨⟨rfl, hm⟩, h1⟩, h2⟩ := hc
      have hm' : behindInMarks p y = false := by simpa [noMarkOp] using hm
      have base := pt_cmpR (pos := pos) (o.sound G k X gd) (a.sound G k X W x gd tk rq.1 h1) (b.sound G k X W y gd tk rq.2 h2) hm'
      refine ⟨fun pins s σ H Q I h => base.run pins s σ H Q I ?_⟩
      obtain ⟨mu, en, st, R, h⟩ := h
      refine tw2 a.mono b.mono R h fun x y st2 mu2 v u H2 hF s2 r2 q1 q2 => ⟨mu2, st2, x, y, r2, q1, q2, o.mono _ _ _ _ _ hF fun d s hd => ?_⟩
      intro mu3 w3 H3 s3 r3 q3
      split at hd
      · exact ⟨_, q3, hd mu3 H3 (s2.trans s3) r3⟩
      · exact hd.elim
    · cases hc
def tCh (op op' : CmpOp) (o : OpD (compareOp op)) (o' : OpD (compareOp op')) (a b c : SemE) : SemT where
  chk N sc e := match e with | .Compare x [p, p'] [y, z] _ => decide (p = op) && decide (p' = op') && noMarkOp op' z && a.chk N sc x && b.chk N sc y && c.chk N sc z | _ => false
  req G k := a.req G k ∧ b.req G k ∧ c.req G k
  wp en st Q E := a.wp en st (fun x st1 => b.wp en st1 (fun y st2 => o.wp x y st2 fun r st3 => match r with | .bl true => c.wp en st3 (fun z st4 => o'.wp y z st4 fun r st5 => match r with | .bl b => Q b st5 | _ => False) E | .bl false => Q false st3 | _ => False) E) E
  mono en st Q Q' E E' h f g := a.mono _ _ _ _ _ _ h (fun x s hx => b.mono _ _ _ _ _ _ hx (fun y s hy => o.mono _ _ _ _ _ hy fun r s3 hr => by
    split at hr
    · exact c.mono _ _ _ _ _ _ hr (fun z s hz => o'.mono _ _ _ _ _ hz fun r s hr => by
        split at hr
        · exact f _ _ hr
        · exact hr.elim) g
    · exact f _ _ hr
    · exact hr.elim) g) g
  sound := by
    intro G k X W e gd tk rq hc
    split at hc
    · rename_i x p p' y z pos
      simp only [Bool.and_eq_true, decide_eq_true_eq] at hc
      obtain ⟨⟨⟨⟨⟨rfl, rfl⟩, hm⟩, h1⟩, h2⟩, h3⟩ := hc
      have hm' : behindInMarks p' z = false := by simpa [noMarkOp] using hm
      have base := pt_chain (pos := pos) (o.sound G k X gd) (o'.sound G k X gd) (a.sound G k X W x gd tk rq.1 h1) (b.sound G k X W y gd tk rq.2.1 h2) (c.sound G k X W z gd tk rq.2.2 h3) hm'
      refine ⟨fun pins s σ H Q I h => base.run pins s σ H Q I ?_⟩
      obtain ⟨mu, en, st, R, h⟩ := h
      refine tw2 a.mono b.mono R h fun x y st2 mu2 v u H2 hF s2 r2 q1 q2 => ⟨mu2, st2, x, y, r2, q1, q2, o.mono _ _ _ _ _ hF fun d s hd => ?_⟩
      intro mu3 w3 H3 s3 r3 q3
      split at hd
      · refine ⟨true, q3, ?_⟩
        rw [if_pos rfl]
        refine tw1 c.mono (R.step (s2.trans s3) r3) (c.mono _ _ _ _ _ _ hd (fun _ _ h => h) fun _ _ hx => PostX.step (s2.trans s3) hx) fun z st4 mu4 t H4 hF4 s4 r4 q4 => ?_
        refine ⟨mu4, st4, y, z, r4, (q2.step s3).step s4, q4, o'.mono _ _ _ _ _ hF4 fun d s hd => ?_⟩
        intro mu5 w5 H5 s5 r5 q5
        split at hd
        · exact ⟨_, q5, hd mu5 H5 (((s2.trans s3).trans s4).trans s5) r5⟩
        · exact hd.elim
      · refine ⟨false, q3, ?_⟩
        rw [if_neg (by simp)]
        exact ⟨_, rfl, hd mu3 H3 (s2.trans s3) r3⟩
      · exact hd.elim
    · cases hc
/-- one test from a state -/
theorem tt1 {G : GEnv} {W : WX} {a : WpT} (ma : MonoT a) {mu : Mu} {en : Env} {st : Sto} {σ : L2.St} {H : Hp} (R : RelE G.K G.w mu H en st σ) {F : Bool → Sto → Prop} {Q : Bool → Hp → Prop}
    (h : a en st F (PostX G mu H σ W)) (f : ∀ d st1 mu1 H1, F d st1 → Step mu H mu1 H1 → RelS G.K G.w mu1 H1 st1 → Q d H1) : tWT G a W σ H Q :=
  ⟨mu, en, st, R, ma _ _ _ _ _ _ h (fun d s1 hF mu1 H1 s r => f d s1 mu1 H1 hF s r) fun _ _ hx => hx⟩
def tNo (a : SemT) : SemT where
  chk N sc e := match e with | .UnaryOp .Not x _ => a.chk N sc x | _ => false
  req := a.req
  wp en st Q E := a.wp en st (fun b st1 => Q (!b) st1) E
  mono en st Q Q' E E' h f g := a.mono _ _ _ _ _ _ h (fun x s hx => f _ _ hx) g
  sound := by
    intro G k X W e gd tk rq hc
    split at hc
    · rename_i x p
      have base := pt_not (pos := p) (a.sound G k X W x gd tk rq hc)
      refine ⟨fun pins s σ H Q I h => base.run pins s σ H Q I ?_⟩
      obtain ⟨mu, en, st, R, h⟩ := h
      exact tt1 a.mono R h fun d st1 mu1 H1 hF s1 r1 => hF mu1 H1 s1 r1
    · cases hc
def tchkL : List SemT → List Str → Scope → List Expr → Bool
  | [], _, _, [] => true
  | a :: r, N, sc, e :: es => a.chk N sc e && tchkL r N sc es
  | _, _, _, _ => false
def treqL : List SemT → GEnv → Nat → Prop
  | [], _, _ => True
  | a :: r, G, k => a.req G k ∧ treqL r G k
def twpAnd : List SemT → WpT
  | [], _, _, _, _ => False
  | [a], en, st, Q, E => a.wp en st Q E
  | a :: r, en, st, Q, E => a.wp en st (fun x st1 => match x with | true => twpAnd r en st1 Q E | false => Q false st1) E
def twpOr : List SemT → WpT
  | [], _, _, _, _ => False
  | [a], en, st, Q, E => a.wp en st Q E
  | a :: r, en, st, Q, E => a.wp en st (fun x st1 => match x with | true => Q true st1 | false => twpOr r en st1 Q E) E
theorem twpAnd_mono : ∀ (l : List SemT), MonoT (twpAnd l)
  | [], _, _, _, _, _, _, h, _, _ => h.elim
  | [a], en, st, Q, Q', E, E', h, f, g => a.mono _ _ _ _ _ _ h f g
  | a :: b :: r, en, st, Q, Q', E, E', h, f, g => a.mono _ _ _ _ _ _ h (fun x s hx => by
    split at hx
    · exact twpAnd_mono (b :: r) _ _ _ _ _ _ hx f g
    · exact f _ _ hx) g
theorem twpOr_mono : ∀ (l : List SemT), MonoT (twpOr l)
  | [], _, _, _, _, _, _, h, _, _ => h.elim
  | [a], en, st, Q, Q', E, E', h, f, g => a.mono _ _ _ _ _ _ h f g
  | a :: b :: r, en, st, Q, Q', E, E', h, f, g => a.mono _ _ _ _ _ _ h (fun x s hx => by
    split at hx
    · exact f _ _ hx
    · exact twpOr_mono (b :: r) _ _ _ _ _ _ hx f g) g
theorem tand_sound (G : GEnv) (k : Nat) (X : Cx) (W : WX) (gd : Good G k X) (tk : Takes X W) (pos : Pos) : ∀ (l : List SemT) (es : List Expr), treqL l G k → tchkL l X.N X.env.scope es = true → l ≠ [] → PW X (.BoolOp .And es pos) (tWT G (twpAnd l) W)
  | [], _, _, _, h => absurd rfl h
  | [a], [e], rq, hc, _ => by
    have h1 : a.chk X.N X.env.scope e = true := by simpa [tchkL] using hc
    exact pw_and1 (a.sound G k X W e gd tk rq.1 h1)
  | [a], [], _, hc, _ => by simp [tchkL] at hc
  | [a], _ :: _ :: _, _, hc, _ => by simp [tchkL] at hc
  | a :: b :: r, [], _, hc, _ => by simp [tchkL] at hc
  | a :: b :: r, [_], _, hc, _ => by simp [tchkL] at hc
  | a :: b :: r, e :: e2 :: es, rq, hc, _ => by
    have hc' : a.chk X.N X.env.scope e = true ∧ tchkL (b :: r) X.N X.env.scope (e2 :: es) = true := by
      rw [← Bool.and_eq_true]; exact hc
    have base := pw_and (a.sound G k X W e gd tk rq.1 hc'.1) (tand_sound G k X W gd tk pos (b :: r) (e2 :: es) rq.2 hc'.2 (by simp))
    refine ⟨fun whole pins s σ H Q I h => base.run whole pins s σ H Q I ?_⟩
    obtain ⟨mu, en, st, R, h⟩ := h
    refine tt1 a.mono R h fun d st1 mu1 H1 hF s1 r1 => ?_
    cases d with
    | true => rw [if_pos rfl]; exact ⟨mu1, en, st1, R.step s1 r1, twpAnd_mono (b :: r) _ _ _ _ _ _ hF (fun _ _ h => PostB.step s1 h) fun _ _ h => PostX.step s1 h⟩
    | false => rw [if_neg (by simp)]; exact hF mu1 H1 s1 r1
theorem tor_sound (G : GEnv) (k : Nat) (X : Cx) (W : WX) (gd : Good G k X) (tk : Takes X W) (pos : Pos) : ∀ (l : List SemT) (es : List Expr), treqL l G k → tchkL l X.N X.env.scope es = true → l ≠ [] → PW X (.BoolOp .Or es pos) (tWT G (twpOr l) W)
  | [], _, _, _, h => absurd rfl h
  | [a], [e], rq, hc, _ => by
    have h1 : a.chk X.N X.env.scope e = true := by simpa [tchkL] using hc
    exact pw_or1 (a.sound G k X W e gd tk rq.1 h1)
  | [a], [], _, hc, _ => by simp [tchkL] at hc
  | [a], _ :: _ :: _, _, hc, _ => by simp [tchkL] at hc
  | a :: b :: r, [], _, hc, _ => by simp [tchkL] at hc
  | a :: b :: r, [_], _, hc, _ => by simp [tchkL] at hc
  | a :: b :: r, e :: e2 :: es, rq, hc, _ => by
    have hc' : a.chk X.N X.env.scope e = true ∧ tchkL (b :: r) X.N X.env.scope (e2 :: es) = true := by
      rw [← Bool.and_eq_true]; exact hc
    have base := pw_or (a.sound G k X W e gd tk rq.1 hc'.1) (tor_sound G k X W gd tk pos (b :: r) (e2 :: es) rq.2 hc'.2 (by simp))
    refine ⟨fun whole pins s σ H Q I h => base.run whole pins s σ H Q I ?_⟩
    obtain ⟨mu, en, st, R, h⟩ := h
    refine tt1 a.mono R h fun d st1 mu1 H1 hF s1 r1 => ?_
    cases d with
    | true => rw [if_pos rfl]; exact hF mu1 H1 s1 r1
    | false => rw [if_neg (by simp)]; exact ⟨mu1, en, st1, R.step s1 r1, twpOr_mono (b :: r) _ _ _ _ _ _ hF (fun _ _ h => PostB.step s1 h) fun _ _ h => PostX.step s1 h⟩
def tAn (l : List SemT) (hl : l ≠ [] := by simp) : SemT where
  chk N sc e := match e with | .BoolOp .And es _ => tchkL l N sc es | _ => false
  req := treqL l
  wp := twpAnd l
  mono := twpAnd_mono l
  sound := by
    intro G k X W e gd tk rq hc
    split at hc
    · exact (tand_sound G k X W gd tk _ l _ rq hc hl).pt
    · cases hc
def tOr' (l : List SemT) (hl : l ≠ [] := by simp) : SemT where
  chk N sc e := match e with | .BoolOp .Or es _ => tchkL l N sc es | _ => false
  req := treqL l
  wp := twpOr l
  mono := twpOr_mono l
  sound := by
    intro G k X W e gd tk rq hc
    split at hc
    · exact (tor_sound G k X W gd tk _ l _ rq hc hl).pt
    · cases hc
/-- a if t else b -/
def eIf (t : SemT) (a b : SemE) : SemE where
  chk N sc e := match e with | .IfExp c x y _ => t.chk N sc c && a.chk N sc x && b.chk N sc y | _ => false
  req G k := t.req G k ∧ a.req G k ∧ b.req G k
  wp en st Q E := t.wp en st (fun c st1 => match c with | true => a.wp en st1 Q E | false => b.wp en st1 Q E) E
  mono en st Q Q' E E' h f g := t.mono _ _ _ _ _ _ h (fun c s hc => by
    split at hc
    · exact a.mono _ _ _ _ _ _ hc f g
    · exact b.mono _ _ _ _ _ _ hc f g) g
  sound := by
    intro G k X W e gd tk rq hc
    split at hc
    · rename_i c x y pos
      simp only [Bool.and_eq_true] at hc
      have base := pe_ifExp (pos := pos) (t.sound G k X W c gd tk rq.1 hc.1.1) (a.sound G k X W x gd tk rq.2.1 hc.1.2) (b.sound G k X W y gd tk rq.2.2 hc.2)
      refine ⟨fun pins s σ H Q I h => base.run pins s σ H Q I ?_⟩
      obtain ⟨mu, en, st, R, h⟩ := h
      refine tt1 t.mono R h fun d st1 mu1 H1 hF s1 r1 => ?_
      cases d with
      | true => rw [if_pos rfl]; exact ⟨mu1, en, st1, R.step s1 r1, a.mono _ _ _ _ _ _ hF (fun _ _ h => PostD.step s1 h) fun _ _ h => PostX.step s1 h⟩
      | false => rw [if_neg (by simp)]; exact ⟨mu1, en, st1, R.step s1 r1, b.mono _ _ _ _ _ _ hF (fun _ _ h => PostD.step s1 h) fun _ _ h => PostX.step s1 h⟩
    · cases hc
end Mi
namespace Mi
open PySem PySem.Spec PyProof.Rows L2

/-! ### lists of expressions -/
def notStar : Expr → Bool
  | .Starred .. => false
  | _ => true
theorem star_plain {e : Expr} (h : notStar e = true) (es : List Expr) (env : PySem.Env) : starEach (e :: es) env = (false, eval e env) :: starEach es env := by
  cases e <;> first | rfl | (simp [notStar] at h)
def chkA : List SemE → List Str → Scope → List Expr → Bool
  | [], _, _, [] => true
  | a :: r, N, sc, e :: es => notStar e && a.chk N sc e && chkA r N sc es
  | _, _, _, _ => false
theorem chkA_any : ∀ (l : List SemE) {N : List Str} {sc : Scope} {es : List Expr}, chkA l N sc es = true → ∀ (pos : Pos) (env : PySem.Env), (backTo pos (starEach es env)).any (·.1) = false
  | [], _, _, [], _, _, _ => rfl
  | [], _, _, _ :: _, h, _, _ => by simp [chkA] at h
  | _ :: _, _, _, [], h, _, _ => by simp [chkA] at h
  | a :: r, N, sc, e :: es, h, pos, env => by
    simp only [chkA, Bool.and_eq_true] at h
    rw [star_plain h.1.1]
    have ih := chkA_any r h.2 pos env
    unfold backTo at ih ⊢
    simp only [List.map_cons, List.any_cons, ih, Bool.or_false]
theorem chkA_star {a : SemE} {r : List SemE} {N : List Str} {sc : Scope} {e : Expr} {es : List Expr} (h : chkA (a :: r) N sc (e :: es) = true) (env : PySem.Env) : starEach (e :: es) env = (false, eval e env) :: starEach es env := by
  simp only [chkA, Bool.and_eq_true] at h
  exact star_plain h.1.1 es env
theorem chkA_tail {a : SemE} {r : List SemE} {N : List Str} {sc : Scope} {e : Expr} {es : List Expr} (h : chkA (a :: r) N sc (e :: es) = true) : chkA r N sc es = true := by
  simp only [chkA, Bool.and_eq_true] at h
  exact h.2
abbrev QL := List D → Sto → Prop
def wpA : List SemE → Env → Sto → QL → QX → Prop
  | [], _, st, Q, _ => Q [] st
  | a :: r, en, st, Q, E => a.wp en st (fun x st1 => wpA r en st1 (fun xs st2 => Q (x :: xs) st2) E) E
theorem wpA_mono : ∀ (l : List SemE) (en : Env) (st : Sto) (Q Q' : QL) (E E' : QX), wpA l en st Q E → (∀ d s, Q d s → Q' d s) → (∀ x s, E x s → E' x s) → wpA l en st Q' E'
  | [], _, _, _, _, _, _, h, f, _ => f _ _ h
  | a :: r, en, st, Q, Q', E, E', h, f, g => a.mono _ _ _ _ _ _ h (fun x s hx => wpA_mono r _ _ _ _ _ _ hx (fun xs s2 hs => f _ _ hs) g) g
def PostL (G : GEnv) (mu : Mu) (H : Hp) (Q : List V → Hp → Prop) : QL := fun ds st' => ∀ mu' vs H', Step mu H mu' H' → RelS G.K G.w mu' H' st' → RVs G.K mu' H' ds vs → Q vs H'
def tWA (G : GEnv) (l : List SemE) (W : WX) : TA := fun σ H Q => ∃ mu en st, RelE G.K G.w mu H en st σ ∧ wpA l en st (PostL G mu H Q) (PostX G mu H σ W)
theorem pa_sound (G : GEnv) (k : Nat) (X : Cx) (W : WX) (gd : Good G k X) (tk : Takes X W) : ∀ (l : List SemE) (es : List Expr), reqL l G k → chkA l X.N X.env.scope es = true → PA X es (tWA G l W)
  | [], [], _, _ => by
    refine ⟨fun pos pins s σ H Q I h => pa_nil.run pos pins s σ H Q I ?_⟩
    obtain ⟨mu, en, st, R, h⟩ := h
    exact h mu [] H (Step.refl _ _) R.sto rfl
  | [], _ :: _, _, h => by simp [chkA] at h
  | _ :: _, [], _, h => by simp [chkA] at h
  | a :: r, e :: es, rq, h => by
    have h' := h
    simp only [chkA, Bool.and_eq_true] at h'
    have base := pa_cons (a.sound G k X W e gd tk rq.1 h'.1.2) (pa_sound G k X W gd tk r es rq.2 h'.2) (chkA_star h _)
    refine ⟨fun pos pins s σ H Q I hw => base.run pos pins s σ H Q I ?_⟩
    obtain ⟨mu, en, st, R, hw⟩ := hw
    refine tw1 a.mono R hw fun x st1 mu1 v H1 hF s1 r1 q1 => ?_
    refine ⟨mu1, en, st1, R.step s1 r1, wpA_mono r _ _ _ _ _ _ hF (fun xs st2 hs => ?_) fun _ _ hx => PostX.step s1 hx⟩
    intro mu2 vs H2 s2 r2 q2
    exact hs mu2 (v :: vs) H2 (s1.trans s2) r2 ⟨v, vs, rfl, q1.step s2, q2⟩
/-- all operands from a state -/
theorem twa {G : GEnv} {W : WX} {l : List SemE} {mu : Mu} {en : Env} {st : Sto} {σ : L2.St} {H : Hp} (R : RelE G.K G.w mu H en st σ) {F : QL} {Q : List V → Hp → Prop}
    (h : wpA l en st F (PostX G mu H σ W)) (f : ∀ ds st1 mu1 vs H1, F ds st1 → Step mu H mu1 H1 → RelS G.K G.w mu1 H1 st1 → RVs G.K mu1 H1 ds vs → Q vs H1) : tWA G l W σ H Q :=
  ⟨mu, en, st, R, wpA_mono l _ _ _ _ _ _ h (fun ds s1 hF mu1 vs H1 s r q => f ds s1 mu1 vs H1 hF s r q) fun _ _ hx => hx⟩

/-! ### new objects -/
/-- a new thing at p that is no object of the store -/
theorem Step.newV {mu : Mu} {H : Hp} {p : Addr} {o : HO} (h : H p = none) : Step mu H mu (upd H p o) := by
  refine ⟨fun _ h => h, fun _ h => .inl h, ⟨[], by simp, by simp⟩, fun a u e _ => ?_, fun a e => ?_⟩
  · rw [upd_ne (ne_of_none e h)]; exact e
  · by_cases z : a = p
    · subst z; rw [upd_same]; simp
    · rw [upd_ne z]; exact e
def Mu.push (mu : Mu) (p : Addr) : Mu := ⟨mu.l ++ [p], mu.av⟩
/-- .. that is the store's next object -/
theorem Step.newO {mu : Mu} {H : Hp} {p : Addr} {o : HO} (h : H p = none) : Step mu H (mu.push p) (upd H p o) := by
  refine ⟨fun _ h => h, fun _ h => .inl h, ⟨[p], rfl, by simp [h]⟩, fun a u e _ => ?_, fun a e => ?_⟩
  · rw [upd_ne (ne_of_none e h)]; exact e
  · by_cases z : a = p
    · subst z; rw [upd_same]; simp
    · rw [upd_ne z]; exact e
section
variable {K : PySem.W.Frag} {mu : Mu} {H : Hp} {st : Sto}
theorem RO.step {m0 m1 : Mu} {H0 H1 : Hp} (s : Step m0 H0 m1 H1) {o : O} {a : Addr} (h : RO K wd m0 H0 o a) (e : H1 a = H0 a) : RO K wd m1 H1 o a := by
  cases o with
  | lst ds => obtain ⟨vs, h1, h2⟩ := h; exact ⟨vs, by rw [e]; exact h1, h2.step s⟩
  | dic ks vs => obtain ⟨rows, ws, h1, h2, h3, h4, h5, h6⟩ := h; exact ⟨rows, ws, by rw [e]; exact h1, h2, h3.step s, h4, h5.step s, h6⟩
/-- the store's objects stand in H -/
theorem RelS.at (R : RelS K wd mu H st) {a : Addr} (h : mu.has a) : H a ≠ none := by
  rcases h with h | h
  · obtain ⟨n, hn⟩ := List.getElem?_of_mem h
    have hl : n < st.length := by rw [← R.len]; exact (List.getElem?_eq_some_iff.mp hn).1
    have := R.obj n st[n] a (List.getElem?_eq_getElem hl) hn
    cases e : st[n] with
    | lst ds => rw [e] at this; obtain ⟨vs, h1, _⟩ := this; rw [h1]; simp
    | dic ks vs => rw [e] at this; obtain ⟨rows, ws, h1, _⟩ := this; rw [h1]; simp
  · exact (R.av a h).1
theorem RelS.newV (R : RelS K wd mu H st) {p : Addr} {o : HO} (h : H p = none) : RelS K wd mu (upd H p o) st :=
  ⟨R.nd, R.len, fun n o' a h1 h2 => (R.obj n o' a h1 h2).step (Step.newV h) (by
    have hm : a ∈ mu.l := List.mem_of_getElem? h2
    rw [upd_ne (fun z => R.at (.inl hm) (by rw [z]; exact h))]), fun a ha => ⟨(Step.newV (mu := mu) h).live a (R.av a ha).1, (R.av a ha).2⟩⟩
theorem RelS.newO (R : RelS K wd mu H st) {p : Addr} {o : O} {ho : HO} (h : H p = none) (hr : RO K wd (mu.push p) (upd H p ho) o p) : RelS K wd (mu.push p) (upd H p ho) (st ++ [o]) := by
  have np : p ∉ mu.l := fun z => R.at (.inl z) h
  refine ⟨?_, by show (mu.l ++ [p]).length = _; rw [List.length_append, List.length_append, R.len]; rfl, fun n o' a h1 h2 => ?_, fun a ha => ⟨(Step.newO (mu := mu) h).live a (R.av a ha).1, fun z => ?_⟩⟩
  · show (mu.l ++ [p]).Nodup
    rw [List.nodup_append]
    exact ⟨R.nd, by simp, fun a ha b hb => by
      have : b = p := by simpa using hb
      subst this
      exact fun z => np (z ▸ ha)⟩
  · have h2 : (mu.l ++ [p])[n]? = some a := h2
    by_cases hn : n < mu.l.length
    · rw [List.getElem?_append_left hn] at h2
      rw [List.getElem?_append_left (by rw [← R.len]; exact hn)] at h1
      refine (R.obj n o' a h1 h2).step (Step.newO h) ?_
      rw [upd_ne (fun z => np (by rw [← z]; exact List.mem_of_getElem? h2))]
    · have e1 : n = mu.l.length := by
        have := (List.getElem?_eq_some_iff.mp h2).1
        rw [List.length_append] at this
        simp at this
        omega
      subst e1
      rw [List.getElem?_append_right (Nat.le_refl _)] at h2
      rw [R.len, List.getElem?_append_right (Nat.le_refl _)] at h1
      simp at h1 h2
      subst h1 h2
      exact hr
  · rcases List.mem_append.mp z with z | z
    · exact (R.av a ha).2 z
    · have : a = p := by simpa using z
      rw [this] at ha
      exact R.at (.inr ha) h
end
/-- a new frozen tuple -/
theorem new_tup {G : GEnv} {mu : Mu} {H : Hp} {Q : VK} {st : Sto} {ds : List D} {m1 : Mu} {H1 : Hp} {vs : List V} (s : Step mu H m1 H1) (R : RelS G.K G.w m1 H1 st) (r : RVs G.K m1 H1 ds vs)
    (h : PostD G mu H Q (.tup ds) st) {p : Addr} (hp : H1 p = none) : Q (.ref p) (upd H1 p (.tup vs)) :=
  h m1 (.ref p) _ (s.trans (Step.newV hp)) (R.newV hp) ⟨p, vs, rfl, .of upd_same, r.step (Step.newV hp)⟩
/-- a new frozen list -/
theorem new_lst {G : GEnv} {mu : Mu} {H : Hp} {Q : VK} {st : Sto} {ds : List D} {m1 : Mu} {H1 : Hp} {vs : List V} (s : Step mu H m1 H1) (R : RelS G.K G.w m1 H1 st) (r : RVs G.K m1 H1 ds vs)
    (h : PostD G mu H Q (.lst ds) st) {p : Addr} (hp : H1 p = none) : Q (.ref p) (upd H1 p (.lst vs)) :=
  h m1 (.ref p) _ (s.trans (Step.newV hp)) (R.newV hp) ⟨p, vs, rfl, upd_same, fun z => R.at z hp, r.step (Step.newV hp)⟩
/-- a new list that may change -/
theorem new_ref {G : GEnv} {mu : Mu} {H : Hp} {Q : VK} {st : Sto} {ds : List D} {m1 : Mu} {H1 : Hp} {vs : List V} (s : Step mu H m1 H1) (R : RelS G.K G.w m1 H1 st) (r : RVs G.K m1 H1 ds vs)
    (h : PostD G mu H Q (.ref st.length) (st ++ [.lst ds])) {p : Addr} (hp : H1 p = none) : Q (.ref p) (upd H1 p (.lst vs)) :=
  h (m1.push p) (.ref p) _ (s.trans (Step.newO hp)) (R.newO hp ⟨vs, upd_same, r.step (Step.newO hp)⟩) ⟨p, rfl, by show (m1.l ++ [p])[st.length]? = _; rw [← R.len]; simp⟩

/-! ### displays -/
def eTup (l : List SemE) : SemE where
  chk N sc e := match e with | .Tuple es _ _ => chkA l N sc es | _ => false
  req := reqL l
  wp en st Q E := wpA l en st (fun ds st1 => ds.length ≤ sizeLine ∧ Q (.tup ds) st1) E
  mono en st Q Q' E E' h f g := wpA_mono l _ _ _ _ _ _ h (fun ds s hx => ⟨hx.1, f _ _ hx.2⟩) g
  sound := by
    intro G k X W e gd tk rq hc
    split at hc
    · rename_i es j p
      have base := pe_tup (x1 := j) (pos := p) (pa_sound G k X W gd tk l es rq hc)
      refine ⟨fun pins s σ H Q I h => base.run pins s σ H Q I ?_⟩
      obtain ⟨mu, en, st, R, h⟩ := h
      exact twa R h fun ds st1 mu1 vs H1 hF s1 r1 q1 => ⟨by rw [← q1.len]; exact hF.1, fun p hp => new_tup s1 r1 q1 hF.2 hp⟩
    · cases hc
/-- m: whether the list will be changed -/
def newL (m : Bool) (ds : List D) (st : Sto) (Q : QD) : Prop := match m with | true => Q (.ref st.length) (st ++ [.lst ds]) | false => Q (.lst ds) st
theorem newL_mono {m : Bool} {ds : List D} {st : Sto} {Q Q' : QD} (h : newL m ds st Q) (f : ∀ d s, Q d s → Q' d s) : newL m ds st Q' := by
  cases m with
  | true => exact f _ _ h
  | false => exact f _ _ h
theorem new_list {G : GEnv} {mu : Mu} {H : Hp} {Q : VK} {st : Sto} {ds : List D} {m1 : Mu} {H1 : Hp} {vs : List V} (m : Bool) (s : Step mu H m1 H1) (R : RelS G.K G.w m1 H1 st) (r : RVs G.K m1 H1 ds vs)
    (h : newL m ds st (PostD G mu H Q)) {p : Addr} (hp : H1 p = none) : Q (.ref p) (upd H1 p (.lst vs)) := by
  cases m with
  | true => exact new_ref s R r h hp
  | false => exact new_lst s R r h hp
def eList (m : Bool) (l : List SemE) : SemE where
  chk N sc e := match e with | .List es _ => chkA l N sc es | _ => false
  req := reqL l
  wp en st Q E := wpA l en st (fun ds st1 => ds.length ≤ sizeLine ∧ newL m ds st1 Q) E
  mono en st Q Q' E E' h f g := wpA_mono l _ _ _ _ _ _ h (fun ds s hx => ⟨hx.1, newL_mono hx.2 f⟩) g
  sound := by
    intro G k X W e gd tk rq hc
    split at hc
    · rename_i es p
      have base := pe_lst (pos := p) (pa_sound G k X W gd tk l es rq hc)
      refine ⟨fun pins s σ H Q I h => base.run pins s σ H Q I ?_⟩
      obtain ⟨mu, en, st, R, h⟩ := h
      exact twa R h fun ds st1 mu1 vs H1 hF s1 r1 q1 => ⟨by rw [← q1.len]; exact hF.1, fun p hp => new_list m s1 r1 q1 hF.2 hp⟩
    · cases hc

/-! ### what stands behind a value -/
def lookD (st : Sto) (d : D) : D := match d with
  | .ref n => (match st[n]? with | some (.lst ds) => .lst ds | _ => d)
  | d => d
/-- the items of a tuple or list -/
def seqOf (st : Sto) (d : D) : Option (List D) := match d with
  | .tup ds => some ds
  | .lst ds => some ds
  | .ref n => (match st[n]? with | some (.lst ds) => some ds | _ => none)
  | _ => none
def lstOf (st : Sto) (d : D) : Option (List D) := match d with
  | .lst ds => some ds
  | .ref n => (match st[n]? with | some (.lst ds) => some ds | _ => none)
  | _ => none
section
variable {K : PySem.W.Frag} {mu : Mu} {H : Hp} {st : Sto}
theorem RelS.get (R : RelS K wd mu H st) {n : Nat} {o : O} {a : Addr} (h : st[n]? = some o) (e : mu.l[n]? = some a) : RO K wd mu H o a := R.obj n o a h e
theorem lst_at (R : RelS K wd mu H st) {d : D} {v : V} {ds : List D} (h : lstOf st d = some ds) (r : RV K mu H d v) : ∃ a vs, v = .ref a ∧ H a = some (.lst vs) ∧ RVs K mu H ds vs := by
  unfold lstOf at h
  split at h
  · cases h
    obtain ⟨a, vs, e, h1, _, h2⟩ := r
    exact ⟨a, vs, e, h1, h2⟩
  · rename_i n
    obtain ⟨a, e, h1⟩ := r
    split at h
    · rename_i ds' hs
      cases h
      obtain ⟨vs, h2, h3⟩ := R.get hs h1
      exact ⟨a, vs, e, h2, h3⟩
    · cases h
  · cases h
theorem seq_at (R : RelS K wd mu H st) {d : D} {v : V} {ds : List D} (h : seqOf st d = some ds) (r : RV K mu H d v) : ∃ a vs, v = .ref a ∧ ((∃ es, d = .tup es) ∧ SqT K H a vs ∨ lstOf st d = some ds ∧ H a = some (.lst vs)) ∧ RVs K mu H ds vs := by
  by_cases z : ∃ es, d = .tup es
  · obtain ⟨es, rfl⟩ := z
    cases h
    obtain ⟨a, vs, e, h1, h2⟩ := r
    exact ⟨a, vs, e, .inl ⟨⟨_, rfl⟩, h1⟩, h2⟩
  · have h' : lstOf st d = some ds := by
      unfold seqOf at h
      unfold lstOf
      split at h
      · exact absurd ⟨_, rfl⟩ z
      · exact h
      · exact h
      · cases h
    obtain ⟨a, vs, e, h1, h2⟩ := lst_at R h' r
    exact ⟨a, vs, e, .inr ⟨h', h1⟩, h2⟩
end

/-! ### data -/
mutual
def toPy : D → PyData
  | .non => .none
  | .bl b => .bool b
  | .int i => .int i
  | .str s => .str s
  | .tup ds => .tuple (toPys ds)
  | .lst ds => .list (toPys ds)
  | .rol ds => .list (toPys ds)
  | .dic _ _ => .dict []
  | .ref _ => .dict []
def toPys : List D → List PyData
  | [] => []
  | d :: r => toPy d :: toPys r
end
section
variable {K : PySem.W.Frag} {mu : Mu} {H : Hp}
mutual
theorem RV.dp : ∀ {d : D} {v : V}, RV K mu H d v → (toPy d).canLay0 = true → Dp K H v (toPy d)
  | .non, _, h, _ => by cases (show _ = V.non from h); exact .non
  | .bl b, _, h, _ => by cases (show _ = V.bl b from h); exact .bl b
  | .int i, _, h, _ => by cases (show _ = V.int i from h); exact .int i
  | .str x, _, h, _ => by cases (show _ = V.str x from h); exact .str x
  | .tup ds, _, ⟨a, vs, e, h, r⟩, c => by subst e; exact .tup h (RVs.dp r (by simpa [toPy, PyData.canLay0] using c))
  | .lst ds, _, ⟨a, vs, e, h, _, r⟩, c => by subst e; exact .lst (.of h) (RVs.dp r (by simpa [toPy, PyData.canLay0] using c))
  | .rol ds, _, ⟨a, vs, e, h, r⟩, c => by
    subst e
    refine .lst ?_ (RVs.dp r (by simpa [toPy, PyData.canLay0] using c))
    rcases h with h | ⟨o, h⟩
    · rcases h with (h | ⟨o, h⟩) | h
      · cases h
      · cases h
      · exact .inr h
    · exact .inl (.inr ⟨o, h⟩)
  | .dic _ _, _, h, _ => h.elim
  | .ref _, _, _, c => by simp [toPy, PyData.canLay0] at c
theorem RVs.dp : ∀ {ds : List D} {vs : List V}, RVs K mu H ds vs → PyData.canLayAll0 (toPys ds) = true → DpAll K H vs (toPys ds)
  | [], _, h, _ => by cases (show _ = [] from h); exact .nil
  | d :: r, _, ⟨v, u, e, h, t⟩, c => by
    subst e
    simp only [toPys, PyData.canLayAll0, Bool.and_eq_true] at c
    exact .cons (RV.dp h c.1) (RVs.dp t c.2)
end
theorem look_dp {st : Sto} (R : RelS K wd mu H st) {d : D} {v : V} (r : RV K mu H d v) (c : (toPy (lookD st d)).canLay0 = true) : Dp K H v (toPy (lookD st d)) := by
  by_cases z : ∃ n ds, d = .ref n ∧ st[n]? = some (.lst ds)
  · obtain ⟨n, ds, rfl, hs⟩ := z
    have e : lookD st (.ref n) = .lst ds := by unfold lookD; simp only [hs]
    rw [e] at c ⊢
    obtain ⟨a, ev, h1⟩ := r
    obtain ⟨vs, h2, h3⟩ := R.get hs h1
    subst ev
    exact .lst (.of h2) (RVs.dp h3 (by simpa [toPy, PyData.canLay0] using c))
  · have e : lookD st d = d := by
      unfold lookD
      split
      · split
        · exact absurd ⟨_, _, rfl, by assumption⟩ z
        · rfl
      · rfl
    rw [e] at c ⊢
    exact r.dp c
end
def shp (d : D) : Bool := SeqAt.shaped (toPy d)
def eqD (x y : D) : Bool := PyData.eqv (toPy x) (toPy y)
end Mi
namespace Mi
open PySem PySem.Spec PyProof.Rows L2

theorem Good.K' {G : GEnv} {k : Nat} {X : Cx} (gd : Good G k X) {P : PySem.W.Frag → Prop} (h : P G.K) : P X.K := by rw [gd.K]; exact h
/-! ### + -/
def wpAdd (m : Bool) (x y : D) (st : Sto) (Q : QD) : Prop := match x, y with
  | .int i, .int j => Q (.int (i + j)) st
  | .str a, .str b => a.length + b.length ≤ sizeLine ∧ Q (.str (a ++ b)) st
  | .tup a, .tup b => a.length + b.length ≤ sizeLine ∧ Q (.tup (a ++ b)) st
  | x, y => match lstOf st x, lstOf st y with
    | some a, some b => a.length + b.length ≤ sizeLine ∧ newL m (a ++ b) st Q
    | _, _ => False
def opAdd (m : Bool) : OpD (binaryOp .Add) where
  wp := wpAdd m
  mono x y st Q Q' h f := by
    unfold wpAdd at h ⊢
    split at h
    · exact f _ _ h
    · exact ⟨h.1, f _ _ h.2⟩
    · exact ⟨h.1, f _ _ h.2⟩
    · split at h
      · exact ⟨h.1, newL_mono h.2 f⟩
      · exact h.elim
  sound := by
    intro G k X gd pins s σ H xv yv v u Q I rx ry h
    obtain ⟨mu, st, x, y, R, hx, hy, h⟩ := h
    unfold wpAdd at h
    split at h
    · cases (show xv = V.int _ from hx); cases (show yv = V.int _ from hy)
      exact op_add pins s σ H _ _ v u Q I rx ry ⟨_, _, rfl, rfl, h mu _ H (Step.refl _ _) R rfl⟩
    · cases (show xv = V.str _ from hx); cases (show yv = V.str _ from hy)
      exact op_add_str pins s σ H _ _ v u Q I rx ry ⟨_, _, rfl, rfl, h.1, h.2 mu _ H (Step.refl _ _) R rfl⟩
    · rename_i as bs
      obtain ⟨a, vs, rfl, h1, r1⟩ := hx
      obtain ⟨b, us, rfl, h2, r2⟩ := hy
      have l1 := r1.len
      have l2 := r2.len
      refine op_catA pins s σ H _ _ v u Q I rx ry ⟨a, b, vs, us, rfl, rfl, gd.K' (P := fun K => SqT K H a vs) h1, gd.K' (P := fun K => SqT K H b us) h2, by rw [← l1, ← l2]; exact h.1, fun e => ?_, fun _ e => ?_, fun _ _ p hp => ?_⟩
      · have ea : as = [] := List.eq_nil_of_length_eq_zero (by rw [l1, e]; rfl)
        subst ea
        exact h.2 mu _ H (Step.refl _ _) R ⟨b, us, rfl, h2, r2⟩
      · have eb : bs = [] := List.eq_nil_of_length_eq_zero (by rw [l2, e]; rfl)
        subst eb
        exact h.2 mu _ H (Step.refl _ _) R ⟨a, vs, rfl, h1, by rw [List.append_nil]; exact r1⟩
      · exact new_tup (Step.refl _ _) R (r1.app r2) h.2 hp
    · split at h
      · rename_i as bs e1 e2
        obtain ⟨a, vs, rfl, h1, r1⟩ := lst_at R e1 hx
        obtain ⟨b, us, rfl, h2, r2⟩ := lst_at R e2 hy
        exact op_cat pins s σ H _ _ v u Q I rx ry ⟨a, b, vs, us, rfl, rfl, h1, h2, by rw [← r1.len, ← r2.len]; exact h.1, fun p hp => new_list m (Step.refl _ _) R (r1.app r2) h.2 hp⟩
      · exact h.elim
/-! ### ints -/
def opI (op : Operator) (C : Int → Int → Prop) (g : Int → Int → Int) (hr : ∀ X : Cx, OpR X (binaryOp op) (rI C fun i j => .int (g i j))) : OpD (binaryOp op) where
  wp x y st Q := match x, y with
    | .int i, .int j => C i j ∧ Q (.int (g i j)) st
    | _, _ => False
  mono x y st Q Q' h f := by
    split at h
    · exact ⟨h.1, f _ _ h.2⟩
    · exact h.elim
  sound := by
    intro G k X gd pins s σ H xv yv v u Q I rx ry h
    obtain ⟨mu, st, x, y, R, hx, hy, h⟩ := h
    split at h
    · cases (show xv = V.int _ from hx); cases (show yv = V.int _ from hy)
      exact hr X pins s σ H _ _ v u Q I rx ry ⟨_, _, rfl, rfl, h.1, h.2 mu _ H (Step.refl _ _) R rfl⟩
    · exact h.elim
def CT (i j : Int) : Prop := True
def opSub : OpD (binaryOp .Sub) := opI .Sub CT (fun i j => i - j) fun X pins s σ H x y v u Q I rx ry h => op_sub pins s σ H x y v u Q I rx ry (let ⟨i, j, e1, e2, _, q⟩ := h; ⟨i, j, e1, e2, q⟩)
def CPos (i j : Int) : Prop := 0 < j
def opMod : OpD (binaryOp .Mod) := opI .Mod CPos (fun i j => i % j) fun X => op_mod
def opFDiv : OpD (binaryOp .FloorDiv) := opI .FloorDiv CDiv (fun i j => i / j) fun X => op_fdiv
def opPow : OpD (binaryOp .Pow) := opI .Pow CPow (fun i j => i ^ j.toNat) fun X => op_pow
/-! ### comparisons -/
def wpEq (neg : Bool) (x y : D) (st : Sto) (Q : QD) : Prop := match x, y with
  | .str a, .str b => Q (.bl (neg != decide (a = b))) st
  | x, y => shp (lookD st x) = true ∧ shp (lookD st y) = true ∧ Q (.bl (neg != eqD (lookD st x) (lookD st y))) st
theorem wpEq_mono {neg : Bool} {x y : D} {st : Sto} {Q Q' : QD} (h : wpEq neg x y st Q) (f : ∀ d s, Q d s → Q' d s) : wpEq neg x y st Q' := by
  unfold wpEq at h ⊢
  split at h
  · exact f _ _ h
  · exact ⟨h.1, h.2.1, f _ _ h.2.2⟩
theorem dec_strV (a b : Str) : decide (V.str a = V.str b) = decide (a = b) := by
  by_cases e : a = b
  · rw [e, decide_eq_true rfl, decide_eq_true rfl]
  · rw [decide_eq_false e, decide_eq_false fun q => e (V.str.inj q)]
def opEq : OpD (compareOp .Eq) where
  wp := wpEq false
  mono x y st Q Q' h f := wpEq_mono h f
  sound := by
    intro G k X gd pins s σ H xv yv v u Q I rx ry h
    obtain ⟨mu, st, x, y, R, hx, hy, h⟩ := h
    unfold wpEq at h
    split at h
    · cases (show xv = V.str _ from hx); cases (show yv = V.str _ from hy)
      refine op_eq pins s σ H _ _ v u Q I rx ry ⟨rfl, h mu _ H (Step.refl _ _) R ?_⟩
      show V.bl _ = V.bl _
      rw [dec_strV]; simp
    · obtain ⟨h1, h2, h3⟩ := h
      have d1 := look_dp R hx (SeqAt.canLay_of_shaped h1)
      have d2 := look_dp R hy (SeqAt.canLay_of_shaped h2)
      refine op_eqD gd.room.units pins s σ H _ _ v u Q I rx ry ⟨_, _, gd.K' (P := fun K => Dp K H _ _) d1, gd.K' (P := fun K => Dp K H _ _) d2, h1, h2, h3 mu _ H (Step.refl _ _) R ?_⟩
      show V.bl _ = V.bl _
      simp [eqD]
def opNe : OpD (compareOp .NotEq) where
  wp := wpEq true
  mono x y st Q Q' h f := wpEq_mono h f
  sound := by
    intro G k X gd pins s σ H xv yv v u Q I rx ry h
    obtain ⟨mu, st, x, y, R, hx, hy, h⟩ := h
    unfold wpEq at h
    split at h
    · cases (show xv = V.str _ from hx); cases (show yv = V.str _ from hy)
      refine op_ne pins s σ H _ _ v u Q I rx ry ⟨rfl, h mu _ H (Step.refl _ _) R ?_⟩
      show V.bl _ = V.bl _
      rw [dec_strV]; simp
    · obtain ⟨h1, h2, h3⟩ := h
      have d1 := look_dp R hx (SeqAt.canLay_of_shaped h1)
      have d2 := look_dp R hy (SeqAt.canLay_of_shaped h2)
      refine op_neD gd.room.units pins s σ H _ _ v u Q I rx ry ⟨_, _, gd.K' (P := fun K => Dp K H _ _) d1, gd.K' (P := fun K => Dp K H _ _) d2, h1, h2, h3 mu _ H (Step.refl _ _) R ?_⟩
      show V.bl _ = V.bl _
      simp [eqD]
def opCI (op : CmpOp) (g : Int → Int → Bool) (hr : ∀ X : Cx, OpR X (compareOp op) (rI0 fun i j => .bl (g i j))) : OpD (compareOp op) where
  wp x y st Q := match x, y with
    | .int i, .int j => Q (.bl (g i j)) st
    | _, _ => False
  mono x y st Q Q' h f := by
    split at h
    · exact f _ _ h
    · exact h.elim
  sound := by
    intro G k X gd pins s σ H xv yv v u Q I rx ry h
    obtain ⟨mu, st, x, y, R, hx, hy, h⟩ := h
    split at h
    · cases (show xv = V.int _ from hx); cases (show yv = V.int _ from hy)
      exact hr X pins s σ H _ _ v u Q I rx ry ⟨_, _, rfl, rfl, h mu _ H (Step.refl _ _) R rfl⟩
    · exact h.elim
def opLe : OpD (compareOp .LtE) := opCI .LtE (fun i j => decide (i ≤ j)) fun X => op_le
def opGt : OpD (compareOp .Gt) := opCI .Gt (fun i j => decide (j < i)) fun X => op_gt
def opGe : OpD (compareOp .GtE) := opCI .GtE (fun i j => decide (j ≤ i)) fun X => op_ge
def opLtI : OpD (compareOp .Lt) := opCI .Lt (fun i j => decide (i < j)) fun X => op_lt
/-- is None -/
def isNonD : D → Bool
  | .non => true
  | _ => false
theorem isNon_rel {K : PySem.W.Frag} {mu : Mu} {H : Hp} {d : D} {v : V} (r : RV K mu H d v) : isNonD d = decide (v = .non) := by
  cases d with
  | non => cases (show v = _ from r); rfl
  | bl b => cases (show v = _ from r); rfl
  | int b => cases (show v = _ from r); rfl
  | str b => cases (show v = _ from r); rfl
  | tup b => obtain ⟨a, vs, rfl, _⟩ := r; rfl
  | lst b => obtain ⟨a, vs, rfl, _⟩ := r; rfl
  | rol b => obtain ⟨a, vs, rfl, _⟩ := r; rfl
  | dic b c => exact r.elim
  | ref n => obtain ⟨a, rfl, _⟩ := r; rfl
def opIs : OpD (compareOp .Is) where
  wp x y st Q := match y with
    | .non => Q (.bl (isNonD x)) st
    | _ => False
  mono x y st Q Q' h f := by
    split at h
    · exact f _ _ h
    · exact h.elim
  sound := by
    intro G k X gd pins s σ H xv yv v u Q I rx ry h
    obtain ⟨mu, st, x, y, R, hx, hy, h⟩ := h
    split at h
    · cases (show yv = V.non from hy)
      exact op_isN pins s σ H _ _ v u Q I rx ry ⟨rfl, by rw [← isNon_rel hx]; exact h mu _ H (Step.refl _ _) R rfl⟩
    · exact h.elim
def opIsNot : OpD (compareOp .IsNot) where
  wp x y st Q := match y with
    | .non => Q (.bl (!isNonD x)) st
    | _ => False
  mono x y st Q Q' h f := by
    split at h
    · exact f _ _ h
    · exact h.elim
  sound := by
    intro G k X gd pins s σ H xv yv v u Q I rx ry h
    obtain ⟨mu, st, x, y, R, hx, hy, h⟩ := h
    split at h
    · cases (show yv = V.non from hy)
      exact op_notN pins s σ H _ _ v u Q I rx ry ⟨rfl, by rw [← isNon_rel hx]; exact h mu _ H (Step.refl _ _) R rfl⟩
    · exact h.elim

/-! ### subscripts -/
def plainIxB : Expr → Bool
  | .Slice .. => false
  | _ => true
theorem plainIxB_ok {b : Expr} (h : plainIxB b = true) : PlainIx b := by
  intro o i
  cases b <;> first | rfl | (simp [plainIxB] at h)
def ixD (st : Sto) (x y : D) : Option D := match x, y with
  | .str z, .int i => (atI z.cps.toList i).map fun c => .str ⟨#[c]⟩
  | x, .int i => (seqOf st x).bind fun ds => atI ds i
  | _, _ => none
theorem atI_rel {K : PySem.W.Frag} {mu : Mu} {H : Hp} {ds : List D} {vs : List V} (r : RVs K mu H ds vs) {i : Int} {d : D} (h : atI ds i = some d) : ∃ v, atI vs i = some v ∧ RV K mu H d v := by
  unfold atI at h ⊢
  rw [← r.len]
  cases e : ixN ds.length i with
  | none => rw [e] at h; cases h
  | some j =>
    rw [e] at h
    obtain ⟨v, h1, h2⟩ := r.get (i := j) (d := d) (by simpa using h)
    exact ⟨v, by simpa using h1, h2⟩
def eIx (a b : SemE) : SemE where
  chk N sc e := match e with | .Subscript x y _ => plainIxB y && a.chk N sc x && b.chk N sc y | _ => false
  req G k := a.req G k ∧ b.req G k
  wp en st Q E := a.wp en st (fun x st1 => b.wp en st1 (fun y st2 => (∀ z, x = .str z → z.length ≤ sizeLine) ∧ match ixD st2 x y with | some d => Q d st2 | none => False) E) E
  mono en st Q Q' E E' h f g := a.mono _ _ _ _ _ _ h (fun x s hx => b.mono _ _ _ _ _ _ hx (fun y s hy => ⟨hy.1, by
    have h2 := hy.2
    split at h2
    · exact f _ _ h2
    · exact h2.elim⟩) g) g
  sound := by
    intro G k X W e gd tk rq hc
    split at hc
    · rename_i x y pos
      simp only [Bool.and_eq_true] at hc
      have base := pe_ix (pos := pos) ix_seq (a.sound G k X W x gd tk rq.1 hc.1.2) (b.sound G k X W y gd tk rq.2 hc.2) (plainIxB_ok hc.1.1)
      refine ⟨fun pins s σ H Q I h => base.run pins s σ H Q I ?_⟩
      obtain ⟨mu, en, st, R, h⟩ := h
      refine tw2 a.mono b.mono R h fun x y st2 mu2 v u H2 hF s2 r2 q1 q2 => ?_
      obtain ⟨hz, hF⟩ := hF
      split at hF
      · rename_i d hd
        unfold ixD at hd
        split at hd
        · rename_i z i
          cases (show v = V.str z from q1); cases (show u = V.int i from q2)
          cases e1 : atI z.cps.toList i with
          | none => rw [e1] at hd; cases hd
          | some c =>
            rw [e1] at hd
            cases hd
            exact .inr (.inr ⟨z, i, c, rfl, rfl, hz z rfl, e1, hF mu2 _ H2 s2 r2 rfl⟩)
        · rename_i x' i _
          cases (show u = V.int i from q2)
          cases e1 : seqOf st2 x with
          | none => rw [e1] at hd; cases hd
          | some ds =>
            rw [e1] at hd
            obtain ⟨a, vs, rfl, h1, h2⟩ := seq_at r2 e1 q1
            obtain ⟨w, e2, h3⟩ := atI_rel h2 (show atI ds i = some d from hd)
            have hq := hF mu2 w H2 s2 r2 h3
            rcases h1 with ⟨_, h1⟩ | ⟨_, h1⟩
            · exact .inr (.inl ⟨a, vs, i, w, rfl, rfl, gd.K' (P := fun K => SqT K H2 a vs) h1, e2, hq⟩)
            · exact .inl ⟨a, vs, i, w, rfl, rfl, .of h1, e2, hq⟩
        · cases hd
      · exact hF.elim
    · cases hc
end Mi
namespace Mi
open PySem PySem.Spec PyProof.Rows L2

/-! ### slices -/
def cutD (ds : List D) (lo hi : Option Int) : List D := (ds.drop (HT.sIx ds.length 0 lo)).take (HT.sIx ds.length ds.length hi - HT.sIx ds.length 0 lo)
theorem RVs.drop {K : PySem.W.Frag} {mu : Mu} {H : Hp} : ∀ {ds : List D} {vs : List V} (n : Nat), RVs K mu H ds vs → RVs K mu H (ds.drop n) (vs.drop n)
  | _, _, 0, h => h
  | [], _, _ + 1, h => by rw [show _ = [] from h]; rfl
  | _ :: _, _, n + 1, ⟨v, r, e, _, t⟩ => by rw [e]; exact RVs.drop n t
theorem RVs.take {K : PySem.W.Frag} {mu : Mu} {H : Hp} : ∀ {ds : List D} {vs : List V} (n : Nat), RVs K mu H ds vs → RVs K mu H (ds.take n) (vs.take n)
  | _, _, 0, _ => rfl
  | [], _, _ + 1, h => by rw [show _ = [] from h]; rfl
  | _ :: _, _, n + 1, ⟨v, r, e, h, t⟩ => by rw [e]; exact ⟨v, _, rfl, h, RVs.take n t⟩
theorem RVs.cut {K : PySem.W.Frag} {mu : Mu} {H : Hp} {ds : List D} {vs : List V} (r : RVs K mu H ds vs) (lo hi : Option Int) : RVs K mu H (cutD ds lo hi) (cutV vs lo hi) := by
  unfold cutD cutV
  rw [r.len]
  exact (r.drop _).take _
/-- m: whether the list will be changed -/
def wpSl (m : Bool) (x : D) (lo hi : Option Int) (st : Sto) (Q : QD) : Prop := match x with
  | .tup ds => Q (.tup (cutD ds lo hi)) st
  | .rol ds => newL m (cutD ds lo hi) st Q
  | x => match lstOf st x with
    | some ds => newL m (cutD ds lo hi) st Q
    | none => False
theorem wpSl_mono {m : Bool} {x : D} {lo hi : Option Int} {st : Sto} {Q Q' : QD} (h : wpSl m x lo hi st Q) (f : ∀ d s, Q d s → Q' d s) : wpSl m x lo hi st Q' := by
  unfold wpSl at h ⊢
  split at h
  · exact f _ _ h
  · exact newL_mono h f
  · split at h
    · exact newL_mono h f
    · exact h.elim
def rSD (G : GEnv) (m : Bool) : V → Option Int → Option Int → Hp → VK → Prop := fun xv lo hi H Q => ∃ mu st x, RelS G.K G.w mu H st ∧ RV G.K mu H x xv ∧ wpSl m x lo hi st (PostD G mu H Q)
theorem sl_sound {G : GEnv} {k : Nat} {X : Cx} (gd : Good G k X) (m : Bool) : SlR X (rSD G m) := by
  intro pins s σ H xv v vl vu lo hi sl Q I rx hs pl pu h
  obtain ⟨mu, st, x, R, hx, h⟩ := h
  unfold wpSl at h
  split at h
  · rename_i ds
    obtain ⟨a, vs, rfl, h1, r1⟩ := hx
    refine sl_tupA pins s σ H _ v vl vu lo hi sl Q I rx hs pl pu ⟨a, vs, rfl, gd.K' (P := fun K => SqT K H a vs) h1, fun e => ?_, fun _ p hp => new_tup (Step.refl _ _) R (r1.cut lo hi) h hp⟩
    refine h mu _ H (Step.refl _ _) R ⟨a, vs, rfl, h1, ?_⟩
    have : cutD ds lo hi = ds := by
      unfold cutD
      rw [r1.len, e.1, e.2, Nat.sub_zero, List.drop_zero]
      exact List.take_of_length_le (Nat.le_of_eq r1.len)
    rw [this]
    exact r1
  · rename_i ds
    obtain ⟨a, vs, rfl, h1, r1⟩ := hx
    have h2 : SqL X.K H a vs := by
      rcases h1 with h1 | ⟨o, h1⟩
      · rcases h1 with (h1 | ⟨o, h1⟩) | h1
        · cases h1
        · cases h1
        · exact gd.K' (P := fun K => SqL K H a vs) (.inr h1)
      · exact .inl (.inr ⟨o, h1⟩)
    exact sl_list pins s σ H _ v vl vu lo hi sl Q I rx hs pl pu ⟨a, vs, rfl, h2, fun p hp => new_list m (Step.refl _ _) R (r1.cut lo hi) h hp⟩
  · split at h
    · rename_i ds e1
      obtain ⟨a, vs, rfl, h1, r1⟩ := lst_at R e1 hx
      exact sl_list pins s σ H _ v vl vu lo hi sl Q I rx hs pl pu ⟨a, vs, rfl, .of h1, fun p hp => new_list m (Step.refl _ _) R (r1.cut lo hi) h hp⟩
    · exact h.elim
/-- an optional part -/
def chkO : Option SemE → List Str → Scope → Option Expr → Bool
  | none, _, _, none => true
  | some a, N, sc, some e => a.chk N sc e
  | _, _, _, _ => false
def reqO : Option SemE → GEnv → Nat → Prop
  | none, _, _ => True
  | some a, G, k => a.req G k
def wpO (a : Option SemE) (en : Env) (st : Sto) (Q : Option Int → Sto → Prop) (E : QX) : Prop := match a with
  | none => Q none st
  | some a => a.wp en st (fun x st1 => match x with | .int i => Q (some i) st1 | _ => False) E
theorem wpO_mono {a : Option SemE} {en : Env} {st : Sto} {Q Q' : Option Int → Sto → Prop} {E E' : QX} (h : wpO a en st Q E) (f : ∀ d s, Q d s → Q' d s) (g : ∀ x s, E x s → E' x s) : wpO a en st Q' E' := by
  cases a with
  | none => exact f _ _ h
  | some a => exact a.mono _ _ _ _ _ _ h (fun x s hx => by
      split at hx
      · exact f _ _ hx
      · exact hx.elim) g
theorem po_sound (G : GEnv) (k : Nat) (X : Cx) (W : WX) (gd : Good G k X) (tk : Takes X W) (a : Option SemE) (e : Option Expr) (rq : reqO a G k) (hc : chkO a X.N X.env.scope e = true) :
    PO X e (fun σ H Q => ∃ mu en st, RelE G.K G.w mu H en st σ ∧ wpO a en st (fun o st' => ∀ mu' H', Step mu H mu' H' → RelS G.K G.w mu' H' st' → Q o H') (PostX G mu H σ W)) := by
  cases a with
  | none =>
    cases e with
    | none =>
      refine ⟨fun pins s σ H Q I h => po_none.run pins s σ H Q I ?_⟩
      obtain ⟨mu, en, st, R, h⟩ := h
      exact h mu H (Step.refl _ _) R.sto
    | some e => simp [chkO] at hc
  | some a =>
    cases e with
    | none => simp [chkO] at hc
    | some e =>
      have base := po_some (a.sound G k X W e gd tk rq hc)
      refine ⟨fun pins s σ H Q I h => base.run pins s σ H Q I ?_⟩
      obtain ⟨mu, en, st, R, h⟩ := h
      refine tw1 a.mono R h fun d st1 mu1 v H1 hF s1 r1 q1 => ?_
      split at hF
      · cases (show v = V.int _ from q1)
        exact ⟨_, rfl, hF mu1 H1 s1 r1⟩
      · exact hF.elim
def eSl (m : Bool) (a : SemE) (lo hi : Option SemE) : SemE where
  chk N sc e := match e with | .Subscript x (.Slice l h none _) _ => a.chk N sc x && chkO lo N sc l && chkO hi N sc h | _ => false
  req G k := a.req G k ∧ reqO lo G k ∧ reqO hi G k
  wp en st Q E := a.wp en st (fun x st1 => wpO lo en st1 (fun l st2 => wpO hi en st2 (fun h st3 => wpSl m x l h st3 Q) E) E) E
  mono en st Q Q' E E' h f g := a.mono _ _ _ _ _ _ h (fun x s hx => wpO_mono hx (fun l s2 h2 => wpO_mono h2 (fun u s3 h3 => wpSl_mono h3 f) g) g) g
  sound := by
    intro G k X W e gd tk rq hc
    split at hc
    · rename_i x l u p2 pos
      simp only [Bool.and_eq_true] at hc
      have base := pe_slice (p2 := p2) (pos := pos) (sl_sound gd m) (a.sound G k X W x gd tk rq.1 hc.1.1) (po_sound G k X W gd tk lo l rq.2.1 hc.1.2) (po_sound G k X W gd tk hi u rq.2.2 hc.2)
      refine ⟨fun pins s σ H Q I h => base.run pins s σ H Q I ?_⟩
      obtain ⟨mu, en, st, R, h⟩ := h
      refine tw1 a.mono R h fun x st1 mu1 v H1 hF s1 r1 q1 => ⟨mu1, en, st1, R.step s1 r1, wpO_mono hF (fun l st2 h2 mu2 H2 s2 r2 => ?_) fun _ _ hx => PostX.step s1 hx⟩
      refine ⟨mu2, en, st2, (R.step (s1.trans s2) r2), wpO_mono h2 (fun u st3 h3 mu3 H3 s3 r3 => ?_) fun _ _ hx => PostX.step (s1.trans s2) hx⟩
      exact ⟨mu3, st3, x, r3, (q1.step s2).step s3, wpSl_mono h3 fun d s hd => PostD.step ((s1.trans s2).trans s3) hd⟩
    · cases hc

/-! ### calls of built-ins by values -/
def rL (G : GEnv) (wp : List D → Sto → QD → Prop) : List V → Hp → VK → Prop := fun vs H Q => ∃ mu st ds, RelS G.K G.w mu H st ∧ RVs G.K mu H ds vs ∧ wp ds st (PostD G mu H Q)
/-- a built-in function or class -/
structure BIn where
  name : Str
  val : Value
  wp : List D → Sto → QD → Prop
  mono : ∀ ds st Q Q', wp ds st Q → (∀ d s, Q d s → Q' d s) → wp ds st Q'
  sound : ∀ (G : GEnv) (k : Nat) (X : Cx), Good G k X → CallR X val (rL G wp)
  boot : bootBuiltins name = some val
  kind : (∃ id, val = .builtin id) ∨ (∃ T, val = .type T)
  nm : plainNm name = true
def eB (b : BIn) (l : List SemE) : SemE where
  chk N sc e := match e with | .Call (.Name x _) (e :: es) [] _ => decide (x = b.name) && glB sc x && chkA l N sc (e :: es) | _ => false
  req G k := G.mg b.name = none ∧ reqL l G k
  wp en st Q E := wpA l en st (fun ds st1 => b.wp ds st1 Q) E
  mono en st Q Q' E E' h f g := wpA_mono l _ _ _ _ _ _ h (fun ds s hx => b.mono _ _ _ _ hx f) g
  sound := by
    intro G k X W e gd tk rq hc
    split at hc
    · rename_i x px e es pos
      simp only [Bool.and_eq_true, decide_eq_true_eq] at hc
      obtain ⟨⟨rfl, hg⟩, ha⟩ := hc
      obtain ⟨p1, p2, p3⟩ := plainNm_ok b.nm
      have hm : X.mg b.name = none := by rw [gd.mg]; exact rq.1
      cases l with
      | nil => simp [chkA] at ha
      | cons a r =>
        have pa := pa_sound G k X W gd tk (a :: r) (e :: es) rq.2 ha
        have base : PE X (.Call (.Name b.name px) (e :: es) [] pos) (tCB (rL G b.wp) (tWA G (a :: r) W)) := by
          have cr := b.sound G k X gd
          have bt := b.boot
          rcases b.kind with ⟨id, hv⟩ | ⟨T, hv⟩
          · rw [hv] at cr bt
            exact pe_callB cr (glB_ok hg) hm bt pa p3 p1 (chkA_star ha _) (chkA_any r (chkA_tail ha) _ _)
          · rw [hv] at cr bt
            exact pe_callTy cr (glB_ok hg) hm bt pa p3 p1 (chkA_star ha _) (chkA_any r (chkA_tail ha) _ _)
        refine ⟨fun pins s σ H Q I h => base.run pins s σ H Q I ?_⟩
        obtain ⟨mu, en, st, R, h⟩ := h
        exact twa R h fun ds st1 mu1 vs H1 hF s1 r1 q1 => ⟨mu1, st1, ds, r1, q1, b.mono _ _ _ _ hF fun d s hd => hd.step s1⟩
    · cases hc
end Mi
namespace Mi
open PySem PySem.Spec PyProof.Rows L2

/-! ### statements -/
structure EndsD where
  nx : Env → Sto → Prop
  rt : D → Sto → Prop
  bk : Env → Sto → Prop
  ct : Env → Sto → Prop
  ex : DX → Env → Sto → Prop
structure EndsD.Le (a b : EndsD) : Prop where
  nx : ∀ en st, a.nx en st → b.nx en st
  rt : ∀ d st, a.rt d st → b.rt d st
  bk : ∀ en st, a.bk en st → b.bk en st
  ct : ∀ en st, a.ct en st → b.ct en st
  ex : ∀ x en st, a.ex x en st → b.ex x en st
abbrev WpS := EndsD → Env → Sto → Prop
def MonoS (wp : WpS) : Prop := ∀ (a b : EndsD) (en : Env) (st : Sto), EndsD.Le a b → wp a en st → wp b en st
def PostN (G : GEnv) (mu : Mu) (H : Hp) (N : L2.St → Hp → Prop) : Env → Sto → Prop := fun en' st' => ∀ mu' σ' H', Step mu H mu' H' → RelE G.K G.w mu' H' en' st' σ' → N σ' H'
theorem PostN.step {G : GEnv} {m0 m1 : Mu} {H0 H1 : Hp} {N : L2.St → Hp → Prop} (s : Step m0 H0 m1 H1) {en : Env} {st : Sto} (h : PostN G m0 H0 N en st) : PostN G m1 H1 N en st := fun mu σ H' s2 r => h mu σ H' (s.trans s2) r
def PostXS (G : GEnv) (mu : Mu) (H : Hp) (W : WX) : DX → Env → Sto → Prop := fun x en' st' => ∀ mu' σ' cls dd H', Step mu H mu' H' → RelE G.K G.w mu' H' en' st' σ' → XR G mu' H' x cls dd → W cls dd σ' H'
theorem PostXS.step {G : GEnv} {m0 m1 : Mu} {H0 H1 : Hp} {W : WX} (s : Step m0 H0 m1 H1) {x : DX} {en : Env} {st : Sto} (h : PostXS G m0 H0 W x en st) : PostXS G m1 H1 W x en st := fun mu σ c dd H' s2 r q => h mu σ c dd H' (s.trans s2) r q
def PostS (G : GEnv) (mu : Mu) (H : Hp) (Dn : Ends) (W : WX) : EndsD := ⟨PostN G mu H Dn.nx, PostD G mu H Dn.rt, PostN G mu H Dn.bk, PostN G mu H Dn.ct, PostXS G mu H W⟩
theorem PostS.step {G : GEnv} {m0 m1 : Mu} {H0 H1 : Hp} {Dn : Ends} {W : WX} (s : Step m0 H0 m1 H1) : EndsD.Le (PostS G m0 H0 Dn W) (PostS G m1 H1 Dn W) :=
  ⟨fun _ _ h => PostN.step s h, fun _ _ h => PostD.step s h, fun _ _ h => PostN.step s h, fun _ _ h => PostN.step s h, fun _ _ _ h => PostXS.step s h⟩
theorem PostXS.ofX {G : GEnv} {mu : Mu} {H : Hp} {W : WX} {x : DX} {en : Env} {st st0 : Sto} {σ : L2.St} (R : RelE G.K G.w mu H en st0 σ) (h : PostXS G mu H W x en st) : PostX G mu H σ W x st := fun mu' cls dd H' s r q => h mu' σ cls dd H' s (R.step s r) q
def tWS (G : GEnv) (wp : WpS) (W : WX) : TS := fun Dn σ H => ∃ mu en st, RelE G.K G.w mu H en st σ ∧ wp (PostS G mu H Dn W) en st
/-- the frame of a def itself -/
structure FnX (X : Cx) : Prop where
  fn : ∀ x, X.fn x = true
  stk : X.stack = X.env :: X.outer
  frm : X.env.frame = some X.env.locals
structure SemS where
  chk : List Str → Scope → Stmt → Bool
  req : GEnv → Nat → Prop
  lp : Bool
  wp : WpS
  mono : MonoS wp
  sound : ∀ (G : GEnv) (k : Nat) (X : Cx) (W : WX) (st : Stmt), Good G k X → FnX X → Takes X W → (lp = true → PassesOwn (model X.prog X.w) X.A X.env X.xe) → req G k → chk X.N X.env.scope st = true → PS X st (tWS G wp W)
/-- a statement that is an expression's value put somewhere -/
theorem se1 {G : GEnv} {W : WX} {a : WpE} (ma : MonoE a) {mu : Mu} {en : Env} {st : Sto} {σ : L2.St} {H : Hp} (R : RelE G.K G.w mu H en st σ) {F : QD} {Dn : Ends} {Q : V → Hp → Prop}
    (h : a en st F (fun x st' => (PostS G mu H Dn W).ex x en st')) (f : ∀ d st1 mu1 v H1, F d st1 → Step mu H mu1 H1 → RelS G.K G.w mu1 H1 st1 → RV G.K mu1 H1 d v → Q v H1) : tW G a W σ H Q :=
  tw1 ma R (ma _ _ _ _ _ _ h (fun _ _ h => h) fun x st' hx => PostXS.ofX R hx) f
def sRet (a : SemE) : SemS where
  chk N sc st := match st with | .Return (some e) _ => a.chk N sc e | _ => false
  req := a.req
  lp := false
  wp Dn en st := a.wp en st Dn.rt (fun x st' => Dn.ex x en st')
  mono A B en st le h := a.mono _ _ _ _ _ _ h le.rt fun x s hx => le.ex x en s hx
  sound := by
    intro G k X W st gd hfn tk hl rq hc
    split at hc
    · rename_i e p
      have base := ps_ret (pos := p) (a.sound G k X W e gd tk rq hc)
      refine ⟨fun pins s σ H Dn I h => base.run pins s σ H Dn I ?_⟩
      obtain ⟨mu, en, st, R, h⟩ := h
      exact se1 a.mono R h fun d st1 mu1 v H1 hF s1 r1 q1 => hF mu1 v H1 s1 r1 q1
    · cases hc
def sRetN : SemS where
  chk N sc st := match st with | .Return none _ => true | _ => false
  req _ _ := True
  lp := false
  wp Dn en st := Dn.rt .non st
  mono A B en st le h := le.rt _ _ h
  sound := by
    intro G k X W st gd hfn tk hl rq hc
    split at hc
    · rename_i p
      refine ⟨fun pins s σ H Dn I h => (ps_retN (pos := p)).run pins s σ H Dn I ?_⟩
      obtain ⟨mu, en, st, R, h⟩ := h
      exact h mu _ H (Step.refl _ _) R.sto rfl
    · cases hc
def sPass : SemS where
  chk N sc st := match st with | .Pass _ => true | _ => false
  req _ _ := True
  lp := false
  wp Dn en st := Dn.nx en st
  mono A B en st le h := le.nx _ _ h
  sound := by
    intro G k X W st gd hfn tk hl rq hc
    split at hc
    · rename_i p
      refine ⟨fun pins s σ H Dn I h => (ps_pass (pos := p)).run pins s σ H Dn I ?_⟩
      obtain ⟨mu, en, st, R, h⟩ := h
      exact h mu σ H (Step.refl _ _) R
    · cases hc
/-! ### names stored -/
/-- the scope alone -/
def envS (sc : Scope) : PySem.Env := { scope := sc, locals := 0, globals := 0, cells := [] }
def locB (sc : Scope) (x : Str) : Bool := match sc.names.lookup x with | some .local => true | some .cell => true | _ => false
theorem locB_ok {X : Cx} (hfn : FnX X) {x : Str} (h : locB X.env.scope x = true) : Loc X.env.scope x ∧ (X.fn x = true ∨ X.env.scope.names.lookup x = some .local) := by
  unfold locB at h
  split at h
  · rename_i e; exact ⟨.inl e, .inr e⟩
  · rename_i e; exact ⟨.inr e, .inl (hfn.fn x)⟩
  · cases h
def pureIs {α : Type} (p : α → Bool) : Sem α → Bool
  | .pure a => p a
  | _ => false
theorem pureIs_ok {α : Type} {p : α → Bool} {m : Sem α} (h : pureIs p m = true) : ∃ a, m = .pure a ∧ p a = true := by
  unfold pureIs at h
  split at h
  · exact ⟨_, rfl, h⟩
  · cases h
theorem swaps_scope (e : Expr) (t : Option Expr) (l : Nat) (env : PySem.Env) : swapsWith e t l env = swapsWith e t l (envS env.scope) := rfl
theorem swapped_scope (ts : List Expr) (e : Expr) (env : PySem.Env) : swappedStores ts e env = swappedStores ts e (envS env.scope) := rfl
theorem RelN.set {K : PySem.W.Frag} {mu : Mu} {H : Hp} {en : Env} {σ : L2.St} (R : RelN K mu H en σ) (l : en.length = σ.length) {i : Nat} {d : D} {v : V} (r : RV K mu H d v) : RelN K mu H (en.set i (some d)) (σ.set i (some v)) := fun j d' e => by
  by_cases hj : i = j
  · subst hj
    have hl : i < en.length := by
      have := (List.getElem?_eq_some_iff.mp e).1
      simpa using this
    rw [List.getElem?_set_self hl] at e
    cases e
    exact ⟨v, List.getElem?_set_self (by rw [← l]; exact hl), r⟩
  · rw [List.getElem?_set_ne hj] at e
    obtain ⟨w, e1, r1⟩ := R j d' e
    exact ⟨w, by rw [List.getElem?_set_ne hj]; exact e1, r1⟩
theorem RelE.set {K : PySem.W.Frag} {mu : Mu} {H : Hp} {en : Env} {st : Sto} {σ : L2.St} (R : RelE K wd mu H en st σ) {i : Nat} {d : D} {v : V} (r : RV K mu H d v) : RelE K wd mu H (en.set i (some d)) st (σ.set i (some v)) :=
  ⟨R.sto, R.env.set R.len r, by rw [List.length_set, List.length_set]; exact R.len⟩
/-- x = e -/
def sSet (i : Nat) (a : SemE) : SemS where
  chk N sc st := match st with | .Assign [.Name x px] e pos => isNm N i x && locB sc x && pureIs (fun b => !b) (swapsWith e (some (.Name x px)) pos.line (envS sc)) && a.chk N sc e | _ => false
  req := a.req
  lp := false
  wp Dn en st := a.wp en st (fun d st1 => Dn.nx (en.set i (some d)) st1) (fun x st' => Dn.ex x en st')
  mono A B en st le h := a.mono _ _ _ _ _ _ h (fun d s hd => le.nx _ _ hd) fun x s hx => le.ex x en s hx
  sound := by
    intro G k X W st gd hfn tk hl rq hc
    split at hc
    · rename_i x px e pos
      simp only [Bool.and_eq_true] at hc
      obtain ⟨⟨⟨h1, h2⟩, h3⟩, h4⟩ := hc
      obtain ⟨b, e3, e4⟩ := pureIs_ok h3
      have e5 : b = false := by simpa using e4
      subst e5
      obtain ⟨hx, hf⟩ := locB_ok hfn h2
      have base := ps_set (pos := pos) (pos' := px) gd.nd (isNm_ok h1) hx (a.sound G k X W e gd tk rq h4) ((swaps_scope _ _ _ _).trans e3) hf
      refine ⟨fun pins s σ H Dn I h => base.run pins s σ H Dn I ?_⟩
      obtain ⟨mu, en, st, R, h⟩ := h
      exact se1 a.mono R h fun d st1 mu1 v H1 hF s1 r1 q1 => hF mu1 _ H1 s1 ((R.step s1 r1).set q1)
    · cases hc
/-- e alone -/
def sExp (a : SemE) : SemS where
  chk N sc st := match st with | .Expr e pos => pureIs (fun b => !b) (swapsWith e none pos.line (envS sc)) && a.chk N sc e | _ => false
  req := a.req
  lp := false
  wp Dn en st := a.wp en st (fun d st1 => Dn.nx en st1) (fun x st' => Dn.ex x en st')
  mono A B en st le h := a.mono _ _ _ _ _ _ h (fun d s hd => le.nx _ _ hd) fun x s hx => le.ex x en s hx
  sound := by
    intro G k X W st gd hfn tk hl rq hc
    split at hc
    · rename_i e pos
      simp only [Bool.and_eq_true] at hc
      obtain ⟨h3, h4⟩ := hc
      obtain ⟨b, e3, e4⟩ := pureIs_ok h3
      have e5 : b = false := by simpa using e4
      subst e5
      have base := ps_expr (pos := pos) (a.sound G k X W e gd tk rq h4) ((swaps_scope _ _ _ _).trans e3)
      refine ⟨fun pins s σ H Dn I h => base.run pins s σ H Dn I ?_⟩
      obtain ⟨mu, en, st, R, h⟩ := h
      exact se1 a.mono R h fun d st1 mu1 v H1 hF s1 r1 q1 => hF mu1 σ H1 s1 (R.step s1 r1)
    · cases hc
/-! ### blocks -/
def wpB : List SemS → WpS
  | [], Dn, en, st => Dn.nx en st
  | [a], Dn, en, st => a.wp Dn en st
  | a :: r, Dn, en, st => a.wp { Dn with nx := fun en1 st1 => wpB r Dn en1 st1 } en st
theorem wpB_mono : ∀ (l : List SemS), MonoS (wpB l)
  | [], A, B, en, st, le, h => le.nx _ _ h
  | [a], A, B, en, st, le, h => a.mono A B en st le h
  | a :: b :: r, A, B, en, st, le, h => a.mono { A with nx := fun en1 st1 => wpB (b :: r) A en1 st1 } { B with nx := fun en1 st1 => wpB (b :: r) B en1 st1 } en st ⟨fun en1 st1 h1 => wpB_mono (b :: r) A B en1 st1 le h1, le.rt, le.bk, le.ct, le.ex⟩ h
def chkB : List SemS → List Str → Scope → List Stmt → Bool
  | [], _, _, [] => true
  | a :: r, N, sc, e :: es => a.chk N sc e && chkB r N sc es
  | _, _, _, _ => false
def reqB : List SemS → GEnv → Nat → Prop
  | [], _, _ => True
  | a :: r, G, k => a.req G k ∧ reqB r G k
def lpB : List SemS → Bool
  | [] => false
  | a :: r => a.lp || lpB r
theorem pss_sound (G : GEnv) (k : Nat) (X : Cx) (W : WX) (gd : Good G k X) (hfn : FnX X) (tk : Takes X W) : ∀ (l : List SemS) (es : List Stmt), (lpB l = true → PassesOwn (model X.prog X.w) X.A X.env X.xe) → reqB l G k → chkB l X.N X.env.scope es = true → PSs X es (tWS G (wpB l) W)
  | [], [], _, _, _ => by
    refine ⟨fun pins s σ H Dn I h => pss_nil.run pins s σ H Dn I ?_⟩
    obtain ⟨mu, en, st, R, h⟩ := h
    exact h mu σ H (Step.refl _ _) R
  | [], _ :: _, _, _, h => by simp [chkB] at h
  | _ :: _, [], _, _, h => by simp [chkB] at h
  | [a], [e], hl, rq, h => by
    have h1 : a.chk X.N X.env.scope e = true := by simpa [chkB] using h
    exact pss_one (a.sound G k X W e gd hfn tk (fun q => hl (by simp [lpB, q])) rq.1 h1)
  | [a], _ :: _ :: _, _, _, h => by simp [chkB] at h
  | a :: b :: r, [_], _, _, h => by simp [chkB] at h
  | a :: b :: r, e :: e2 :: es, hl, rq, h => by
    have h' : a.chk X.N X.env.scope e = true ∧ chkB (b :: r) X.N X.env.scope (e2 :: es) = true := by
      rw [← Bool.and_eq_true]; exact h
    have base := pss_cons (a.sound G k X W e gd hfn tk (fun q => hl (by simp [lpB, q])) rq.1 h'.1) (pss_sound G k X W gd hfn tk (b :: r) (e2 :: es) (fun q => hl (by rw [lpB, q, Bool.or_true])) rq.2 h'.2)
    refine ⟨fun pins s σ H Dn I h => base.run pins s σ H Dn I ?_⟩
    obtain ⟨mu, en, st, R, h⟩ := h
    refine ⟨mu, en, st, R, a.mono { PostS G mu H Dn W with nx := fun en1 st1 => wpB (b :: r) (PostS G mu H Dn W) en1 st1 } _ _ _ ⟨fun en1 st1 h1 => ?_, fun _ _ h => h, fun _ _ h => h, fun _ _ h => h, fun _ _ _ h => h⟩ h⟩
    intro mu1 σ1 H1 s1 R1
    exact ⟨mu1, en1, st1, R1, wpB_mono (b :: r) _ _ _ _ (PostS.step s1) h1⟩
/-- if -/
def sIf (t : SemT) (a b : List SemS) : SemS where
  chk N sc st := match st with | .If c x y _ => t.chk N sc c && chkB a N sc x && chkB b N sc y | _ => false
  req G k := t.req G k ∧ reqB a G k ∧ reqB b G k
  lp := lpB a || lpB b
  wp Dn en st := t.wp en st (fun c st1 => match c with | true => wpB a Dn en st1 | false => wpB b Dn en st1) (fun x st' => Dn.ex x en st')
  mono A B en st le h := t.mono _ _ _ _ _ _ h (fun c s hc => by
    split at hc
    · exact wpB_mono a _ _ _ _ le hc
    · exact wpB_mono b _ _ _ _ le hc) fun x s hx => le.ex x en s hx
  sound := by
    intro G k X W st gd hfn tk hl rq hc
    split at hc
    · rename_i c x y p
      simp only [Bool.and_eq_true] at hc
      have base := ps_if (pos := p) (t.sound G k X W c gd tk rq.1 hc.1.1) (pss_sound G k X W gd hfn tk a x (fun q => hl (by rw [q]; rfl)) rq.2.1 hc.1.2) (pss_sound G k X W gd hfn tk b y (fun q => hl (by rw [q, Bool.or_true])) rq.2.2 hc.2)
      refine ⟨fun pins s σ H Dn I h => base.run pins s σ H Dn I ?_⟩
      obtain ⟨mu, en, st, R, h⟩ := h
      refine tt1 t.mono R (t.mono _ _ _ _ _ _ h (fun _ _ h => h) fun x st' hx => PostXS.ofX R hx) fun d st1 mu1 H1 hF s1 r1 => ?_
      cases d with
      | true => rw [if_pos rfl]; exact ⟨mu1, en, st1, R.step s1 r1, wpB_mono a _ _ _ _ (PostS.step s1) hF⟩
      | false => rw [if_neg (by simp)]; exact ⟨mu1, en, st1, R.step s1 r1, wpB_mono b _ _ _ _ (PostS.step s1) hF⟩
    · cases hc
end Mi
namespace Mi
open PySem PySem.Spec PyProof.Rows L2

/-! ### objects that a def leaves behind -/
mutual
/-- no reference from n on -/
def noRef (n : Nat) : D → Bool
  | .tup ds => noRefs n ds
  | .lst ds => noRefs n ds
  | .rol ds => noRefs n ds
  | .ref m => decide (m < n)
  | .dic ks vs => noRefs n ks && noRefs n vs
  | _ => true
def noRefs (n : Nat) : List D → Bool
  | [] => true
  | d :: r => noRef n d && noRefs n r
end
def noRefO (n : Nat) : O → Bool
  | .lst ds => noRefs n ds
  | .dic ks vs => noRefs n ks && noRefs n vs
/-- what was made since then becomes values -/
def frz (st : Sto) (n : Nat) : Nat → D → Option D
  | 0, d => if noRef n d then some d else none
  | f + 1, d => if noRef n d then some d else match d with
    | .tup ds => (ds.mapM (frz st n f)).map .tup
    | .lst ds => (ds.mapM (frz st n f)).map .lst
    | .ref m => (match st[m]? with
      | some (.lst ds) => (ds.mapM (frz st n f)).map .lst
      | _ => none)
    | _ => none
def closedTo (st s2 : Sto) : Prop := ∀ (i : Nat) (o : O), s2[i]? = some o → st[i]? = some o ∨ noRefO st.length o = true
/-- the end of a def that began with the store st -/
def retD (st : Sto) (d : D) (st' : Sto) (Q : QD) : Prop :=
  Q d st' ∨ (∃ d' f, frz st' st.length f d = some d' ∧ closedTo st (st'.take st.length) ∧ Q d' (st'.take st.length)) ∨
    (∃ m ds, d = .ref m ∧ st.length ≤ m ∧ st'[m]? = some (.lst ds) ∧ noRefs st.length ds = true ∧ closedTo st (st'.take st.length) ∧ Q (.ref st.length) (st'.take st.length ++ [.lst ds]))
def retX (st : Sto) (x : DX) (st' : Sto) (E : QX) : Prop :=
  E x st' ∨ (noRefs st.length (x.fs.map (·.2)) = true ∧ closedTo st (st'.take st.length) ∧ E x (st'.take st.length))
section
variable {K : PySem.W.Frag} {mu : Mu} {H : Hp}
mutual
theorem RV.nr : ∀ {d : D} {v : V}, RV K mu H d v → noRef mu.l.length d = true
  | .non, _, _ => rfl
  | .bl _, _, _ => rfl
  | .int _, _, _ => rfl
  | .str _, _, _ => rfl
  | .tup ds, _, ⟨_, _, _, _, r⟩ => by rw [Mi.noRef]; exact RVs.nr r
  | .lst ds, _, ⟨_, _, _, _, _, r⟩ => by rw [Mi.noRef]; exact RVs.nr r
  | .rol ds, _, ⟨_, _, _, _, r⟩ => by rw [Mi.noRef]; exact RVs.nr r
  | .dic _ _, _, h => h.elim
  | .ref n, _, ⟨a, _, h⟩ => by rw [Mi.noRef]; exact decide_eq_true (List.getElem?_eq_some_iff.mp h).1
theorem RVs.nr : ∀ {ds : List D} {vs : List V}, RVs K mu H ds vs → noRefs mu.l.length ds = true
  | [], _, _ => rfl
  | _ :: _, _, ⟨_, _, _, h, t⟩ => by rw [Mi.noRefs, RV.nr h, RVs.nr t]; rfl
end
mutual
theorem RV.sub {m1 : Mu} {n : Nat} (hs : ∀ a, m1.has a → mu.has a) (hi : ∀ i, i < n → m1.l[i]? = mu.l[i]?) : ∀ {d : D} {v : V}, RV K mu H d v → noRef n d = true → RV K m1 H d v
  | .non, _, h, _ => h
  | .bl _, _, h, _ => h
  | .int _, _, h, _ => h
  | .str _, _, h, _ => h
  | .tup ds, _, ⟨a, vs, e, h, r⟩, c => ⟨a, vs, e, h, RVs.sub hs hi r (by rw [Mi.noRef] at c; exact c)⟩
  | .lst ds, _, ⟨a, vs, e, h, n, r⟩, c => ⟨a, vs, e, h, fun z => n (hs a z), RVs.sub hs hi r (by rw [Mi.noRef] at c; exact c)⟩
  | .rol ds, _, ⟨a, vs, e, h, r⟩, c => ⟨a, vs, e, h, RVs.sub hs hi r (by rw [Mi.noRef] at c; exact c)⟩
  | .dic _ _, _, h, _ => h
  | .ref m, _, ⟨a, e, h⟩, c => ⟨a, e, by
    rw [Mi.noRef] at c
    rw [hi m (of_decide_eq_true c)]; exact h⟩
theorem RVs.sub {m1 : Mu} {n : Nat} (hs : ∀ a, m1.has a → mu.has a) (hi : ∀ i, i < n → m1.l[i]? = mu.l[i]?) : ∀ {ds : List D} {vs : List V}, RVs K mu H ds vs → noRefs n ds = true → RVs K m1 H ds vs
  | [], _, h, _ => h
  | _ :: _, _, ⟨v, r, e, h, t⟩, c => by
    rw [Mi.noRefs, Bool.and_eq_true] at c
    exact ⟨v, r, e, RV.sub hs hi h c.1, RVs.sub hs hi t c.2⟩
end
/-- m1 is mu up to n -/
structure Mu.Cut (m1 mu : Mu) (n : Nat) : Prop where
  l : m1.l = mu.l.take n
  av : ∀ a, a ∈ m1.av → a ∈ mu.av
theorem Mu.Cut.has {m1 mu : Mu} {n : Nat} (c : Mu.Cut m1 mu n) {a : Addr} (h : m1.has a) : mu.has a := h.elim (fun z => .inl (by rw [c.l] at z; exact List.mem_of_mem_take z)) fun z => .inr (c.av a z)
theorem Mu.Cut.ix {m1 mu : Mu} {n : Nat} (c : Mu.Cut m1 mu n) (i : Nat) (h : i < n) : m1.l[i]? = mu.l[i]? := by rw [c.l]; exact List.getElem?_take_of_lt h
theorem RV.cut {m1 : Mu} {n : Nat} (C : Mu.Cut m1 mu n) {d : D} {v : V} (h : RV K mu H d v) (c : noRef n d = true) : RV K m1 H d v := h.sub (fun _ z => C.has z) C.ix c
theorem RVs.cut' {m1 : Mu} {n : Nat} (C : Mu.Cut m1 mu n) {ds : List D} {vs : List V} (h : RVs K mu H ds vs) (c : noRefs n ds = true) : RVs K m1 H ds vs := h.sub (fun _ z => C.has z) C.ix c
theorem frzs_ok {m1 : Mu} {st : Sto} {n f : Nat} (ih : ∀ (d d' : D) (v : V), RV K mu H d v → frz st n f d = some d' → RV K m1 H d' v) : ∀ (ds ds' : List D) (vs : List V), RVs K mu H ds vs → ds.mapM (frz st n f) = some ds' → RVs K m1 H ds' vs
  | [], ds', vs, r, h => by
    have : ds' = [] := by simpa using h.symm
    subst this
    exact r
  | d :: r, ds', vs, ⟨v, u, e, h1, t⟩, h => by
    rw [List.mapM_cons] at h
    cases e1 : frz st n f d with
    | none => rw [e1] at h; cases h
    | some d1 =>
      rw [e1] at h
      cases e2 : r.mapM (frz st n f) with
      | none => rw [e2] at h; cases h
      | some r1 =>
        rw [e2] at h
        have : ds' = d1 :: r1 := (Option.some.inj h).symm
        subst this
        exact ⟨v, u, e, ih d d1 v h1 e1, frzs_ok ih r r1 u t e2⟩
theorem frz_ok {m1 : Mu} {st : Sto} (R : RelS K wd mu H st) {n : Nat} (C : Mu.Cut m1 mu n) : ∀ (f : Nat) (d d' : D) (v : V), RV K mu H d v → frz st n f d = some d' → RV K m1 H d' v
  | 0, d, d', v, r, h => by
    unfold frz at h
    split at h
    · rename_i c; cases h; exact r.cut C c
    · cases h
  | f + 1, d, d', v, r, h => by
    unfold frz at h
    split at h
    · rename_i c; cases h; exact r.cut C c
    · rename_i c
      split at h
      · rename_i ds
        obtain ⟨a, vs, e, h1, h2⟩ := r
        cases e1 : ds.mapM (frz st n f) with
        | none => rw [e1] at h; cases h
        | some ds1 =>
          rw [e1] at h
          have : d' = .tup ds1 := (Option.some.inj h).symm
          subst this
          exact ⟨a, vs, e, h1, frzs_ok (frz_ok R C f) _ _ _ h2 e1⟩
      · rename_i ds
        obtain ⟨a, vs, e, h1, h2, h3⟩ := r
        cases e1 : ds.mapM (frz st n f) with
        | none => rw [e1] at h; cases h
        | some ds1 =>
          rw [e1] at h
          have : d' = .lst ds1 := (Option.some.inj h).symm
          subst this
          exact ⟨a, vs, e, h1, fun z => h2 (C.has z), frzs_ok (frz_ok R C f) _ _ _ h3 e1⟩
      · rename_i m
        split at h
        · rename_i ds hs
          obtain ⟨a, e, h1⟩ := r
          obtain ⟨vs, h2, h3⟩ := R.get hs h1
          cases e1 : ds.mapM (frz st n f) with
          | none => rw [e1] at h; cases h
          | some ds1 =>
            rw [e1] at h
            have : d' = .lst ds1 := (Option.some.inj h).symm
            subst this
            refine ⟨a, vs, e, h2, fun z => ?_, frzs_ok (frz_ok R C f) _ _ _ h3 e1⟩
            have hm : ¬ m < n := by
              intro hlt
              apply c
              rw [Mi.noRef]
              exact decide_eq_true hlt
            rcases z with z | z
            · obtain ⟨j, hj⟩ := List.getElem?_of_mem z
              rw [C.l] at hj
              have hjn : j < n := by
                have : j < (mu.l.take n).length := (List.getElem?_eq_some_iff.mp hj).1
                rw [List.length_take] at this
                omega
              rw [List.getElem?_take_of_lt hjn] at hj
              have := (List.getElem?_inj (List.getElem?_eq_some_iff.mp hj).1 R.nd).mp (hj.trans h1.symm)
              omega
            · exact (R.av a (C.av a z)).2 (List.mem_of_getElem? h1)
        · cases h
      · cases h
end
/-- the store behind a def, cut to what stood before; m1: what is kept of the objects -/
theorem RelS.cutTo {K : PySem.W.Frag} {mu mu' m1 : Mu} {H H' : Hp} {st st' : Sto} (R : RelS K wd mu H st) (s : Step mu H mu' H') (R' : RelS K wd mu' H' st') (c : closedTo st (st'.take st.length)) (hs : ∀ a, m1.has a → mu'.has a)
    (hp : ∀ i, i < mu.l.length → m1.l[i]? = mu.l[i]?) : ∀ (n : Nat) (o : O) (a : Addr), (st'.take st.length)[n]? = some o → mu.l[n]? = some a → RO K wd m1 H' o a := by
  obtain ⟨ext, e, _⟩ := s.pre
  intro n o a h1 h2
  have hn : n < st.length := by rw [← R.len]; exact (List.getElem?_eq_some_iff.mp h2).1
  have h1' := h1
  rw [List.getElem?_take_of_lt hn] at h1'
  have ro := R'.obj n o a h1' (s.sub h2)
  have nr : noRefO st.length o = true := by
    rcases c n o h1 with z | z
    · have r0 := R.obj n o a z h2
      cases o with
      | lst ds =>
        obtain ⟨vs, _, r⟩ := r0
        have := r.nr
        rw [R.len] at this
        exact this
      | dic ks vs =>
        obtain ⟨rows, ws, _, _, r, _, q, _⟩ := r0
        have h1 := r.nr
        have h2 := q.nr
        rw [R.len] at h1 h2
        show (noRefs st.length ks && noRefs st.length vs) = true
        rw [h1, h2]; rfl
    · exact z
  cases o with
  | lst ds =>
    obtain ⟨vs, h3, r⟩ := ro
    refine ⟨vs, h3, r.sub (n := st.length) hs (fun i hi => ?_) (by simpa [noRefO] using nr)⟩
    rw [hp i (by rw [R.len]; exact hi), e, List.getElem?_append_left (by rw [R.len]; exact hi)]
  | dic ks vs =>
    obtain ⟨rows, ws, h3, h4, r, h5, q, h6⟩ := ro
    simp only [noRefO, Bool.and_eq_true] at nr
    have hi : ∀ i, i < st.length → m1.l[i]? = mu'.l[i]? := fun i hi => by rw [hp i (by rw [R.len]; exact hi), e, List.getElem?_append_left (by rw [R.len]; exact hi)]
    exact ⟨rows, ws, h3, h4, r.sub (n := st.length) hs hi nr.2, h5, q.sub (n := st.length) hs hi nr.1, h6⟩
theorem RelS.cut0 {K : PySem.W.Frag} {mu mu' : Mu} {H H' : Hp} {st st' : Sto} (R : RelS K wd mu H st) (s : Step mu H mu' H') (R' : RelS K wd mu' H' st') (c : closedTo st (st'.take st.length)) :
    Mu.Cut mu mu' st.length ∧ (st'.take st.length).length = st.length ∧ RelS K wd mu H' (st'.take st.length) ∧ Step mu H mu H' := by
  obtain ⟨ext, e, _⟩ := s.pre
  have e1 : Mu.Cut mu mu' st.length := ⟨by rw [e, ← R.len, List.take_left']; rfl, s.av⟩
  have e2 : (st'.take st.length).length = st.length := by
    have := R'.len
    rw [List.length_take, ← this, e, List.length_append, R.len]
    omega
  exact ⟨e1, e2, ⟨R.nd, by rw [e2, R.len], fun n o a h1 h2 => R.cutTo s R' c (fun a ha => ha.elim (fun z => .inl (by rw [e]; exact List.mem_append_left _ z)) fun z => .inr (s.av a z)) (fun _ _ => rfl) n o a h1 h2, fun a ha => ⟨s.live a (R.av a ha).1, (R.av a ha).2⟩⟩, ⟨fun _ h => h, fun _ h => .inl h, ⟨[], by simp, by simp⟩, s.keep, s.live⟩⟩
theorem ret_sound {G : GEnv} {mu : Mu} {H : Hp} {st : Sto} (R : RelS G.K G.w mu H st) {Q : VK} {d : D} {st' : Sto} (h : retD st d st' (PostD G mu H Q)) : PostD G mu H Q d st' := by
  intro mu' v H' s R' r
  rcases h with h | ⟨d', f, hf, c, h⟩ | ⟨m, ds, rfl, hm, hs, nr, c, h⟩
  · exact h mu' v H' s R' r
  · obtain ⟨e1, _, R2, s2⟩ := R.cut0 s R' c
    have r2 := frz_ok R' e1 f d d' v r hf
    exact h mu v H' s2 R2 r2
  · obtain ⟨e1, e2, R2, s2⟩ := R.cut0 s R' c
    obtain ⟨a, e, h1⟩ := r
    obtain ⟨vs, h2, h3⟩ := R'.get hs h1
    obtain ⟨ext, ep, fr⟩ := s.pre
    have ha : a ∈ ext ∧ a ∉ mu.l := by
      have nd := R'.nd
      rw [ep] at h1 nd
      rw [List.getElem?_append_right (by rw [R.len]; exact hm)] at h1
      have hm := List.mem_of_getElem? h1
      exact ⟨hm, fun z => (List.nodup_append.mp nd).2.2 a z a hm rfl⟩
    have s3 : Step mu H (mu.push a) H' := ⟨fun _ h => h, fun _ h => .inl h, ⟨[a], rfl, by simpa using fr a ha.1⟩, s.keep, s.live⟩
    have sub : ∀ b, (mu.push a).has b → mu'.has b := fun b hb => by
      rcases hb with hb | hb
      · refine .inl ?_
        rw [ep]
        rcases List.mem_append.mp hb with z | z
        · exact List.mem_append_left _ z
        · have : b = a := by simpa using z
          rw [this]; exact List.mem_append_right _ ha.1
      · exact .inr (s.av b hb)
    have h4 : RVs G.K (mu.push a) H' ds vs := h3.sub (n := st.length) sub (fun i hi => by
      show (mu.l ++ [a])[i]? = _
      rw [ep, List.getElem?_append_left (by rw [R.len]; exact hi), List.getElem?_append_left (by rw [R.len]; exact hi)]) nr
    refine h (mu.push a) v H' s3 ⟨?_, by show (mu.l ++ [a]).length = _; rw [List.length_append, List.length_append, e2, R.len]; rfl, fun n o b h5 h6 => ?_, fun b hb => ⟨s.live b (R.av b hb).1, fun z => ?_⟩⟩ ⟨a, e, by show (mu.l ++ [a])[st.length]? = _; rw [← R.len]; simp⟩
    · show (mu.l ++ [a]).Nodup
      rw [List.nodup_append]
      exact ⟨R.nd, by simp, fun x hx y hy => by
        have : y = a := by simpa using hy
        subst this
        exact fun z => ha.2 (z ▸ hx)⟩
    · have h6 : (mu.l ++ [a])[n]? = some b := h6
      by_cases hn : n < mu.l.length
      · rw [List.getElem?_append_left hn] at h6
        rw [List.getElem?_append_left (by rw [e2, ← R.len]; exact hn)] at h5
        exact R.cutTo s R' c sub (fun i hi => by show (mu.l ++ [a])[i]? = _; rw [List.getElem?_append_left hi]) n o b h5 h6
      · have hnl : n = mu.l.length := by
          have := (List.getElem?_eq_some_iff.mp h6).1
          rw [List.length_append] at this
          simp at this
          omega
        subst hnl
        rw [List.getElem?_append_right (Nat.le_refl _)] at h6
        rw [R.len, List.getElem?_append_right (by rw [e2]; exact Nat.le_refl _), e2] at h5
        simp at h5 h6
        subst h5 h6
        exact ⟨vs, h2, h4⟩
    · rcases List.mem_append.mp z with z | z
      · exact (R.av b hb).2 z
      · have : b = a := by simpa using z
        rw [this] at hb
        exact (R'.av a (s.av a hb)).2 (List.mem_of_getElem? h1)
theorem retX_sound {G : GEnv} {mu : Mu} {H : Hp} {st : Sto} (R : RelS G.K G.w mu H st) {E : XK} {x : DX} {st' : Sto}
    (h : retX st x st' (fun x st' => ∀ mu' cls dd H', Step mu H mu' H' → RelS G.K G.w mu' H' st' → XR G mu' H' x cls dd → E cls dd H')) :
    ∀ mu' cls dd H', Step mu H mu' H' → RelS G.K G.w mu' H' st' → XR G mu' H' x cls dd → E cls dd H' := by
  intro mu' cls dd H' s R' r
  rcases h with h | ⟨nr, c, h⟩
  · exact h mu' cls dd H' s R' r
  · obtain ⟨e1, e2, R2, s2⟩ := R.cut0 s R' c
    refine h mu cls dd H' s2 R2 ⟨r.cl, ?_⟩
    rcases r.fs with z | ⟨d, fs, h1, h2, h3, h4, h5⟩
    · exact .inl z
    · exact .inr ⟨d, fs, h1, h2, fun z => h3 (e1.has z), h4, h5.cut' e1 nr⟩
theorem retD_mono {st : Sto} {d : D} {st' : Sto} {Q Q' : QD} (h : retD st d st' Q) (f : ∀ d s, Q d s → Q' d s) : retD st d st' Q' := by
  rcases h with h | ⟨d', n, hf, c, h⟩ | ⟨m, ds, e, hm, hs, nr, c, h⟩
  · exact .inl (f _ _ h)
  · exact .inr (.inl ⟨d', n, hf, c, f _ _ h⟩)
  · exact .inr (.inr ⟨m, ds, e, hm, hs, nr, c, f _ _ h⟩)

/-! ### defs -/
/-- what a def does with values -/
structure SpecD where
  ar : Nat
  run : List D → Sto → QD → QX → Prop
  mono : ∀ (ds : List D) (st : Sto) (Q Q' : QD) (E E' : QX), run ds st Q E → (∀ d s, Q d s → Q' d s) → (∀ x s, E x s → E' x s) → run ds st Q' E'
def PostE (G : GEnv) (mu : Mu) (H : Hp) (E : XK) : QX := fun x st' => ∀ mu' cls dd H', Step mu H mu' H' → RelS G.K G.w mu' H' st' → XR G mu' H' x cls dd → E cls dd H'
def spOf (G : GEnv) (S : SpecD) : Sp := fun vs H Q E => vs.length = S.ar ∧ ∃ mu ds st, RelS G.K G.w mu H st ∧ RVs G.K mu H ds vs ∧ S.run ds st (PostD G mu H Q) (PostE G mu H E)
/-- a body as a spec; n: how many slots -/
def bodyD (l : List SemS) (n : Nat) (ds : List D) (st : Sto) (Q : QD) (E : QX) : Prop :=
  wpB l ⟨fun _ st' => retD st .non st' Q, fun d st' => retD st d st' Q, fun _ _ => False, fun _ _ => False, fun x _ st' => retX st x st' E⟩ (ds.map some ++ List.replicate (n - ds.length) none) st
abbrev CXof (G : GEnv) : CXT := L2.CX G.prog G.w
/-- the scope of a def, by a look -/
def scopeB (N P : List Str) (sc : Scope) : Bool :=
  (match sc.kind with | .function => true | _ => false) && !sc.isCoroutine && !sc.isGenerator && decide (N.Nodup) && decide (N.take P.length = P) &&
    (P.all fun x => match sc.names.lookup x with | some .local => true | some .cell => true | _ => false) && (sc.names.all fun y => match y.2 with | .free => false | _ => true)
theorem scopeB_ok {N P : List Str} {sc : Scope} (h : scopeB N P sc = true) : FnScope N P sc := by
  unfold scopeB at h
  simp only [Bool.and_eq_true, Bool.not_eq_true', decide_eq_true_eq, List.all_eq_true] at h
  obtain ⟨⟨⟨⟨⟨⟨h1, h2⟩, h3⟩, h4⟩, h5⟩, h6⟩, h7⟩ := h
  refine ⟨?_, h2, h3, h4, h5, fun x hx => ?_, fun y hy e => ?_⟩
  · split at h1
    · assumption
    · cases h1
  · have := h6 x hx
    split at this
    · exact .inl (by assumption)
    · exact .inr (by assumption)
    · cases this
  · have := h7 y hy
    rw [e] at this
    cases this
theorem RelN.start {K : PySem.W.Frag} {mu : Mu} {H : Hp} {ds : List D} {vs : List V} (r : RVs K mu H ds vs) (m n : Nat) : RelN K mu H (ds.map some ++ List.replicate m none) (vs.map some ++ List.replicate n none) := fun i d e => by
  by_cases hi : i < ds.length
  · rw [List.getElem?_append_left (by simpa using hi), List.getElem?_map] at e
    cases e1 : ds[i]? with
    | none => rw [e1] at e; cases e
    | some d1 =>
      rw [e1] at e
      cases e
      obtain ⟨v, h1, h2⟩ := r.get e1
      refine ⟨v, ?_, h2⟩
      rw [List.getElem?_append_left (by rw [List.length_map, ← r.len]; exact hi), List.getElem?_map, h1]
      rfl
  · rw [List.getElem?_append_right (by simpa using hi), List.getElem?_replicate] at e
    split at e <;> cases e
/-- a def keeps its promise wherever no repr is under way -/
structure FnG (P : Program) (w : World) (K : PySem.W.Frag) (mg : Str → Option Value) (base : Heap) (CX : CXT) (k : Nat) (f : Addr) (fd : FuncData) (ps : List Str) (sp : Sp) : Prop where
  len : ∀ (vs : List V) (H : Hp) (Q : VK) (E : XK), sp vs H Q E → vs.length = ps.length
  run : ∀ (A : Around) (out : List PySem.Env) (s : Shared) (H : Hp) (args : Args) (us : List Value) (vs : List V) (Q : VK) (E : XK), Room k A → A.guards = some [] → Env0 P w K mg base A out s H →
    BindsTo s fd args (ps.zip us) → Vals vs us → sp vs H Q E → codeAny (model P w) A (.call (.ref f) args) (CR CX out P w H s Q E) s
theorem FnG.mono {P : Program} {w : World} {K : PySem.W.Frag} {mg : Str → Option Value} {base : Heap} {CX : CXT} {j k : Nat} {f : Addr} {fd : FuncData} {ps : List Str} {sp : Sp} (F : FnG P w K mg base CX j f fd ps sp) (h : j ≤ k) : FnG P w K mg base CX k f fd ps sp :=
  ⟨F.len, fun A out s H args us vs Q E r => F.run A out s H args us vs Q E (r.mono h)⟩
theorem fnG_of {CX : CXT} {P : Program} {w : World} {K : PySem.W.Frag} {mg : Str → Option Value} {base : Heap} {k : Nat} {f : Addr} {fd : FuncData} {x qual : Str} {params : Arguments} {body : List Stmt} {scope : Scope} {dvs : List V} {kws : List (Str × V)} {N ps : List Str} {sp : Sp}
    (F : FunD K x qual params body scope dvs kws f fd) (S : FnScope N ps scope) (len : ∀ (vs : List V) (H : Hp) (Q : VK) (E : XK), sp vs H Q E → vs.length = ps.length)
    (hbody : ∀ (cdv : Value) (A : Around) (out : List PySem.Env) (s : Shared) (H : Hp) (vs : List V) (Q : VK) (E : XK), Room k (A.deeper (envOfC qual scope s.heap.objs.size f cdv)) → A.guards = some [] → sp vs H Q E →
      ∃ t, PSs (cxOf CX P w K mg base N qual scope f cdv A out s H E) body t ∧ t { nx := fun _ H' => Q .non H', rt := Q } (start N vs) H) : FnG P w K mg base CX (k + 1) f fd ps sp := by
  obtain ⟨oc, od, dV, kV, doc, pm, an, cdv, ct, osl, rfl, lk, hcd, _, _⟩ := F.ex
  refine ⟨len, fun A out s H args us vs Q E room hg e0 hb r hsp => ?_⟩
  have hl := len _ _ _ _ hsp
  have kin : K.In s.heap := e0.mod.kin.keeps fun b o e => (e0.bs b o e).1
  have lim : s.heap.NoLimit := e0.mod.nolimit.keeps fun b o e => (e0.bs b o e).1
  have kinds : ∀ y ∈ ps.zip us, scope.names.lookup y.1 = some .local ∨ (scope.names.lookup y.1 = some .cell ∧ ((cellsFrom (s.heap.objs.size + 1) scope.names []).lookup y.1).isSome = true) := fun y hy =>
    (S.par y.1 (List.of_mem_zip (a := y.1) (b := y.2) hy).1).elim .inl fun q => .inr ⟨q, PySem.W.cellsFrom_some _ _ _ (.inl q)⟩
  refine codeAny_call_function room.depth (kin _ _ lk) rfl S.co S.gen rfl (PySem.W.codeRec_of kin hcd) (hb _ _ _ _ (?_ : wpAny _ _ _ _ _ _))
  refine wpAny_newFunctionEnv_cells S.kind kinds fun env he s1 x => ⟨lim.keeps x.toInCall.keep, codeAny_func (?_ : wpAny _ _ _ _ _ _)⟩
  subst he
  obtain ⟨t, ht, hq⟩ := hbody cdv A out s H vs Q E (room.deeper _) hg hsp
  have I : Inv (cxOf CX P w K mg base N qual scope f cdv A out s H E) [] (start N vs) H s1 := inv_start S room.hd e0 hl r x
  refine wpAny_mono (ht.run [] s1 (start N vs) H _ I hq) (fun fl s' hs => ?_) fun e s' hs => hs
  have fin : ∀ {σ' : L2.St} {H' : Hp} {v : V} {u : Value}, Inv (cxOf CX P w K mg base N qual scope f cdv A out s H E) [] σ' H' s' → RelV v u → Q v H' → CE out P w H s Q u s' := fun {σ' H' v u} J rv q => ⟨v, H', J.os, J.bare, J.base, J.hok, rv, q⟩
  cases fl with
  | ret u => obtain ⟨v, σ', H', J, rv, q⟩ := hs; exact fin J rv q
  | next => obtain ⟨σ', H', J, q⟩ := hs; exact fin (v := V.non) (u := Value.none) J rfl q
  | brk => obtain ⟨_, _, _, q⟩ := hs; exact q.elim
  | cont => obtain ⟨_, _, _, q⟩ := hs; exact q.elim
/-- THE RULE for a def -/
theorem fn_ok {G : GEnv} {k : Nat} {f : Addr} {fd : FuncData} {x qual : Str} {st0 : Stmt} {dvs : List V} {kws : List (Str × V)} {N ps : List Str} {l : List SemS} {S : SpecD}
    (F : FunD G.K x qual (defArgs st0) (defBody st0) (defScope st0) dvs kws f fd) (hs : scopeB N ps (defScope st0) = true) (hc : chkB l N (defScope st0) (defBody st0) = true) (har : ps.length = S.ar) (rq : reqB l G k)
    (hS : ∀ ds st Q E, ds.length = S.ar → S.run ds st Q E → bodyD l N.length ds st Q E) : FnG G.prog G.w G.K G.mg G.base (CXof G) (k + 1) f fd ps (spOf G S) := by
  have sc := scopeB_ok hs
  refine fnG_of F sc (fun vs H Q E h => h.1.trans har.symm) (fun cdv A outer s H vs Q E hr hgd h => ?_)
  obtain ⟨hl, mu, ds, st, R, r, h⟩ := h
  have gd : Good G k (cxOf (CXof G) G.prog G.w G.K G.mg G.base N qual (defScope st0) f cdv A outer s H E) := ⟨rfl, rfl, rfl, rfl, rfl, hr, sc.nd, rfl, sc.kind, hgd⟩
  have tk : Takes (cxOf (CXof G) G.prog G.w G.K G.mg G.base N qual (defScope st0) f cdv A outer s H E) (fun cls d _ H => E cls d H) := takes_of rfl rfl rfl rfl
  refine ⟨tWS G (wpB l) (fun cls d _ H => E cls d H), pss_sound G k _ _ gd ⟨fun _ => rfl, rfl, rfl⟩ tk l _ (fun _ => passes_of rfl) rq hc, ?_⟩
  have hd : ds.length = S.ar := by rw [r.len]; exact hl
  refine ⟨mu, _, st, ⟨R, RelN.start r (N.length - ds.length) (N.length - vs.length), ?_⟩, wpB_mono l _ _ _ _ ⟨fun en st' h => ?_, fun d st' h => ?_, fun _ _ h => False.elim h, fun _ _ h => False.elim h, fun x en st' h => ?_⟩ (hS ds st _ _ hd h)⟩
  · show _ = (vs.map some ++ List.replicate (N.length - vs.length) none).length
    rw [List.length_append, List.length_append, List.length_map, List.length_map, List.length_replicate, List.length_replicate, r.len]
  · intro mu' σ' H' s' R'
    exact ret_sound R h mu' .non H' s' R'.sto rfl
  · exact ret_sound R h
  · intro mu' σ' cls dd H' s' R' q
    exact retX_sound R h mu' cls dd H' s' R'.sto q
end Mi
namespace Mi
open PySem PySem.Spec PyProof.Rows L2

/-! ### calls of defs -/
/-- the def of that name keeps S; d: the values that fill up what a call leaves out -/
def FnAvail (G : GEnv) (k : Nat) (name : Str) (S : SpecD) (d : List D) : Prop :=
  ∃ (f : Addr) (fd : FuncData) (ps : List Str) (dvs : List V) (ds : List Value), G.mg name = some (.ref f) ∧ PySem.W.keepIn G.K (.ref f) = true ∧ FnG G.prog G.w G.K G.mg G.base (CXof G) k f fd ps (spOf G S) ∧
    Binds G.K fd ps ds ∧ Vals dvs ds ∧ ∀ mu H, RVs G.K mu H d dvs
theorem FnAvail.mono {G : GEnv} {j k : Nat} {name : Str} {S : SpecD} {d : List D} (h : FnAvail G j name S d) (hk : j ≤ k) : FnAvail G k name S d :=
  let ⟨f, fd, ps, dvs, ds, h1, h2, h3, h4⟩ := h
  ⟨f, fd, ps, dvs, ds, h1, h2, h3.mono hk, h4⟩
theorem passes_at {X : Cx} {G : GEnv} {k : Nat} (gd : Good G k X) {W : WX} (tk : Takes X W) (σ : L2.St) : PassesAt (CXof G) X σ (WE W σ) := by
  have := passAt tk σ
  rw [gd.prog, gd.w] at this
  exact this
theorem Good.fnok {G : GEnv} {k j : Nat} {X : Cx} (gd : Good G k X) {CX : CXT} {f : Addr} {fd : FuncData} {ps : List Str} {sp : Sp} (F : FnG G.prog G.w G.K G.mg G.base CX j f fd ps sp) : FnG X.prog X.w X.K X.mg X.base CX j f fd ps sp := by
  rw [gd.prog, gd.w, gd.K, gd.mg, gd.base]; exact F
theorem pe_callG {X : Cx} {CX : CXT} {k : Nat} {f : Addr} {fd : FuncData} {ps : List Str} {ds : List Value} {dvs : List V} {sp : Sp} {E : L2.St → XK} {x : Str} {p pos : Pos} {e : Expr} {es : List Expr} {t : TA} (F : FnG X.prog X.w X.K X.mg X.base CX k f fd ps sp) (hr : Room k X.A) (hgd : X.A.guards = some []) (hg : Gl X x) (hm : X.mg x = some (.ref f))
    (hk : PySem.W.keepIn X.K (.ref f) = true) (hb : Binds X.K fd ps ds) (hd : Vals dvs ds) (hx : ∀ σ, PassesAt CX X σ (E σ)) (ha : PA X (e :: es) t) (hdb : (x == ("__debug__" : Str)) = false)
    (he : starEach (e :: es) X.env = (false, eval e X.env) :: starEach es X.env) (hpl : (backTo pos (starEach es X.env)).any (·.1) = false) : PE X (.Call (.Name x p) (e :: es) [] pos) (tCallSD sp dvs E t) := by
  refine ⟨fun pins s σ H Q I h => ?_⟩
  refine wpAny_Call_Name_kw (ld_glob I hg hm (?_ : wpAny _ _ _ _ _ _) hdb)
  refine PySem.W.callWith_K (h₀ := X.base) I.ok.mod.kin hk (thn (ha.run pos pins s σ H _ I h) fun us s1 ⟨vs, H1, I1, r, q⟩ => ⟨I1.kIn, ?_⟩) he hpl
  have r2 : Vals (vs ++ dvs) (us ++ ds) := r.append hd
  have hl : (us ++ ds).length = ps.length := by rw [← r2.length]; exact F.len _ _ _ _ q
  refine wpAny_call (codeAny_mono (F.run X.A X.stack s1 H1 ⟨us, []⟩ (us ++ ds) (vs ++ dvs) Q (E σ) hr hgd I1.env0 (hb s1 us I1.kIn hl) r2 q) fun r s' hq => ?_)
  cases r with
  | error e => exact hx σ pins H1 s1 e s' I1 hq
  | ok fl =>
    cases fl with
    | ret u => exact I1.after hq
    | next => exact hq.elim
    | brk => exact hq.elim
    | cont => exact hq.elim
def eCall (name : Str) (S : SpecD) (d : List D) (l : List SemE) : SemE where
  chk N sc e := match e with | .Call (.Name x _) (e :: es) [] _ => decide (x = name) && plainNm x && glB sc x && chkA l N sc (e :: es) | _ => false
  req G k := FnAvail G k name S d ∧ reqL l G k
  wp en st Q E := wpA l en st (fun ds st1 => ds.length + d.length = S.ar ∧ S.run (ds ++ d) st1 Q E) E
  mono en st Q Q' E E' h f g := wpA_mono l _ _ _ _ _ _ h (fun ds s hx => ⟨hx.1, S.mono _ _ _ _ _ _ hx.2 f g⟩) g
  sound := by
    intro G k X W e gd tk rq hc
    split at hc
    · rename_i x px e es pos
      simp only [Bool.and_eq_true, decide_eq_true_eq] at hc
      obtain ⟨⟨⟨rfl, hn⟩, hg⟩, ha⟩ := hc
      obtain ⟨p1, p2, p3⟩ := plainNm_ok hn
      obtain ⟨⟨f, fd, ps, dvs, dvals, hmg, hkp, F, hb, hv, hr⟩, rql⟩ := rq
      cases l with
      | nil => simp [chkA] at ha
      | cons a r =>
        have pa := pa_sound G k X W gd tk (a :: r) (e :: es) rql ha
        have base := pe_callG (pos := pos) (p := px) (E := fun σ => WE W σ) (gd.fnok F) gd.room gd.guards (glB_ok hg) (by rw [gd.mg]; exact hmg) (by rw [gd.K]; exact hkp) (by rw [gd.K]; exact hb) hv (fun σ => passes_at gd tk σ) pa p1 (chkA_star ha _) (chkA_any r (chkA_tail ha) _ _)
        refine ⟨fun pins s σ H Q I h => base.run pins s σ H Q I ?_⟩
        obtain ⟨mu, en, st, R, h⟩ := h
        refine twa R h fun ds st1 mu1 vs H1 hF s1 r1 q1 => ?_
        have q2 := q1.app (hr mu1 H1)
        refine ⟨by rw [← q2.len, List.length_append]; exact hF.1, mu1, _, st1, r1, q2, S.mono _ _ _ _ _ _ hF.2 (fun d s hd => PostD.step s1 hd) fun x s hx => ?_⟩
        exact PostX.step s1 hx
    · cases hc

/-! ### targets -/
/-- where a value goes: a name, or the items of a tuple -/
inductive Tg where
  | nm (i : Nat)
  | tup (l : List Tg)
mutual
/-- ok: the names that may be stored -/
def chkT (ok : Str → Bool) : Tg → List Str → Expr → Bool
  | .nm i, N, .Name x _ => isNm N i x && ok x
  | .tup l, N, .Tuple es _ _ => chkTs ok l N es
  | _, _, _ => false
def chkTs (ok : Str → Bool) : List Tg → List Str → List Expr → Bool
  | [], _, [] => true
  | t :: r, N, e :: es => notStar e && chkT ok t N e && chkTs ok r N es
  | _, _, _ => false
end
mutual
/-- the slots behind the store -/
def putT : Tg → Env → D → Option Env
  | .nm i, en, d => some (en.set i (some d))
  | .tup l, en, .tup ds => putTs l en ds
  | .tup _, _, _ => none
def putTs : List Tg → Env → List D → Option Env
  | [], en, [] => some en
  | t :: r, en, d :: ds => (putT t en d).bind fun en1 => putTs r en1 ds
  | _, _, _ => none
end
mutual
def slT : Tg → List Nat
  | .nm i => [i]
  | .tup l => slTs l
def slTs : List Tg → List Nat
  | [] => []
  | t :: r => slT t ++ slTs r
end
theorem assign_each {e : Expr} (h : notStar e = true) (es : List Expr) (env : PySem.Env) : assignEach (e :: es) env = (false, assign e env) :: assignEach es env := by
  cases e <;> first | rfl | (simp [notStar] at h)
theorem assign_len {ok : Str → Bool} : ∀ (l : List Tg) {N : List Str} (es : List Expr) (env : PySem.Env), chkTs ok l N es = true → (assignEach es env).length = l.length ∧ (assignEach es env).findIdx? (·.1) = none
  | [], _, [], _, _ => ⟨rfl, rfl⟩
  | [], _, _ :: _, _, h => by simp [chkTs] at h
  | _ :: _, _, [], _, h => by simp [chkTs] at h
  | t :: r, N, e :: es, env, h => by
    simp only [chkTs, Bool.and_eq_true] at h
    obtain ⟨h1, h2⟩ := assign_len r es env h.2
    rw [assign_each h.1.1]
    refine ⟨by rw [List.length_cons, h1, List.length_cons], ?_⟩
    rw [List.findIdx?_cons]
    simp [h2]
mutual
theorem putT_len : ∀ (t : Tg) (en en' : Env) (d : D), putT t en d = some en' → en'.length = en.length
  | .nm i, en, en', d, h => by
    have : en' = en.set i (some d) := by rw [putT] at h; exact (Option.some.inj h).symm
    rw [this, List.length_set]
  | .tup l, en, en', .tup ds, h => putTs_len l en en' ds (by rw [putT] at h; exact h)
  | .tup l, en, en', .non, h => by simp [putT] at h
  | .tup l, en, en', .bl _, h => by simp [putT] at h
  | .tup l, en, en', .int _, h => by simp [putT] at h
  | .tup l, en, en', .str _, h => by simp [putT] at h
  | .tup l, en, en', .lst _, h => by simp [putT] at h
  | .tup l, en, en', .rol _, h => by simp [putT] at h
  | .tup l, en, en', .dic _ _, h => by simp [putT] at h
  | .tup l, en, en', .ref _, h => by simp [putT] at h
theorem putTs_len : ∀ (l : List Tg) (en en' : Env) (ds : List D), putTs l en ds = some en' → en'.length = en.length
  | [], en, en', [], h => by rw [putTs] at h; cases h; rfl
  | [], en, en', _ :: _, h => by simp [putTs] at h
  | _ :: _, en, en', [], h => by simp [putTs] at h
  | t :: r, en, en', d :: ds, h => by
    rw [putTs] at h
    cases e : putT t en d with
    | none => rw [e] at h; cases h
    | some en1 =>
      rw [e] at h
      rw [putTs_len r en1 en' ds h, putT_len t en en1 d e]
end
theorem putTs_ds : ∀ (l : List Tg) (en en' : Env) (ds : List D), putTs l en ds = some en' → ds.length = l.length
  | [], en, en', [], h => rfl
  | [], en, en', _ :: _, h => by simp [putTs] at h
  | _ :: _, en, en', [], h => by simp [putTs] at h
  | t :: r, en, en', d :: ds, h => by
    rw [putTs] at h
    cases e : putT t en d with
    | none => rw [e] at h; cases h
    | some en1 =>
      rw [e] at h
      rw [List.length_cons, List.length_cons, putTs_ds r en1 en' ds h]
mutual
/-- what a target's store is -/
def gOf (K : PySem.W.Frag) : Tg → TG
  | .nm i => gName i
  | .tup l => gTup K l.length (gsOf K l)
def gsOf (K : PySem.W.Frag) : List Tg → TGs
  | [] => gNil
  | t :: r => gCons (gOf K t) (gsOf K r)
end
mutual
theorem pg_rule (X : Cx) (nd : X.N.Nodup) (hc : X.calm = true) {ok : Str → Bool} (hst : ∀ x, ok x = true → Loc X.env.scope x ∧ (X.fn x = true ∨ X.env.scope.names.lookup x = some .local)) : ∀ (t : Tg) (e : Expr), chkT ok t X.N e = true → PG X e (gOf X.K t)
  | .nm i, e, h => by
    cases e with
    | Name x p =>
      simp only [chkT, Bool.and_eq_true] at h
      obtain ⟨hx, hf⟩ := hst _ h.2
      rw [gOf]
      exact pg_name nd (isNm_ok h.1) hx hf
    | _ => simp [chkT] at h
  | .tup l, e, h => by
    cases e with
    | Tuple es kk p =>
      rw [chkT] at h
      obtain ⟨h1, h2⟩ := assign_len l es X.env h
      rw [gOf]
      exact pg_tup hc (pgs_rule X nd hc hst l es h) h1 h2
    | _ => simp [chkT] at h
theorem pgs_rule (X : Cx) (nd : X.N.Nodup) (hc : X.calm = true) {ok : Str → Bool} (hst : ∀ x, ok x = true → Loc X.env.scope x ∧ (X.fn x = true ∨ X.env.scope.names.lookup x = some .local)) : ∀ (l : List Tg) (es : List Expr), chkTs ok l X.N es = true → PGs X es (gsOf X.K l)
  | [], [], _ => by rw [gsOf]; exact pgs_nil
  | [], _ :: _, h => by simp [chkTs] at h
  | _ :: _, [], h => by simp [chkTs] at h
  | t :: l, e :: es, h => by
    simp only [chkTs, Bool.and_eq_true] at h
    rw [gsOf]
    exact pgs_cons (pg_rule X nd hc hst t e h.1.2) (pgs_rule X nd hc hst l es h.2) (by rw [assign_each h.1.1]; rfl)
end
mutual
theorem gOf_ok {K : PySem.W.Frag} : ∀ (t : Tg) (v : V) (σ : L2.St) (H : Hp) (Q : L2.St → Hp → Prop) (mu : Mu) (en en' : Env) (st : Sto) (d : D), RelE K wd mu H en st σ → RV K mu H d v → putT t en d = some en' →
    (∀ σ', RelE K wd mu H en' st σ' → (∀ i, i ∉ slT t → σ'[i]? = σ[i]?) → Q σ' H) → gOf K t v σ H Q
  | .nm i, v, σ, H, Q, mu, en, en', st, d, R, r, e, f => by
    have : en' = en.set i (some d) := by rw [putT] at e; exact (Option.some.inj e).symm
    subst this
    rw [gOf]
    exact f _ (R.set r) fun j hj => List.getElem?_set_ne (fun z => hj (by rw [slT, z]; exact List.mem_singleton.mpr rfl))
  | .tup l, v, σ, H, Q, mu, en, en', st, d, R, r, e, f => by
    rw [gOf]
    cases d with
    | tup ds =>
      obtain ⟨a, vs, ev, h3, h4⟩ := r
      rw [putT] at e
      exact ⟨a, vs, ev, h3, by rw [← h4.len]; exact putTs_ds l en en' ds e, gsOf_ok l vs σ H Q mu en en' st ds R h4 e fun σ' R' q => f σ' R' (by rw [slT]; exact q)⟩
    | _ => simp [putT] at e
theorem gsOf_ok {K : PySem.W.Frag} : ∀ (l : List Tg) (vs : List V) (σ : L2.St) (H : Hp) (Q : L2.St → Hp → Prop) (mu : Mu) (en en' : Env) (st : Sto) (ds : List D), RelE K wd mu H en st σ → RVs K mu H ds vs → putTs l en ds = some en' →
    (∀ σ', RelE K wd mu H en' st σ' → (∀ i, i ∉ slTs l → σ'[i]? = σ[i]?) → Q σ' H) → gsOf K l vs σ H Q
  | [], vs, σ, H, Q, mu, en, en', st, ds, R, r, e, f => by
    rw [gsOf]
    cases ds with
    | nil =>
      rw [putTs] at e
      cases e
      exact ⟨r, f σ R fun _ _ => rfl⟩
    | cons _ _ => simp [putTs] at e
  | t :: l, vs, σ, H, Q, mu, en, en', st, ds, R, r, e, f => by
    rw [gsOf]
    cases ds with
    | nil => simp [putTs] at e
    | cons d ds =>
      obtain ⟨v, u, ev, r1, r2⟩ := r
      rw [putTs] at e
      cases e1 : putT t en d with
      | none => rw [e1] at e; cases e
      | some en1 =>
        rw [e1] at e
        subst ev
        refine ⟨v, u, rfl, gOf_ok t v σ H _ mu en en1 st d R r1 e1 fun σ1 R1 k1 => ?_⟩
        exact gsOf_ok l u σ1 H Q mu en1 en' st ds R1 r2 e fun σ2 R2 k2 => f σ2 R2 fun i hi => by
          rw [slTs, List.mem_append] at hi
          exact (k2 i fun z => hi (.inr z)).trans (k1 i fun z => hi (.inl z))
end
theorem pg_sound (G : GEnv) (k : Nat) (X : Cx) (gd : Good G k X) {ok : Str → Bool} (hst : ∀ x, ok x = true → Loc X.env.scope x ∧ (X.fn x = true ∨ X.env.scope.names.lookup x = some .local)) (t : Tg) (e : Expr) (h : chkT ok t X.N e = true) : PG X e (gOf G.K t) := by
  have := pg_rule X gd.nd gd.calm hst t e h
  rw [gd.K] at this
  exact this

theorem assign_one {ok : Str → Bool} (t : Tg) {N : List Str} {e : Expr} (h : chkT ok t N e = true) (env : PySem.Env) : (assignEach [e] env).map (·.2) = [assign e env] := by
  have hs : notStar e = true := by
    cases t <;> cases e <;> first | rfl | (simp [chkT] at h)
  rw [assign_each hs]
  rfl
/-- targets = e -/
def sAsg (t : Tg) (a : SemE) : SemS where
  chk N sc st := match st with | .Assign [tg] e pos => chkT (locB sc) t N tg && pureIs (fun b => !b) (swapsWithSole [tg] e pos.line (envS sc)) && pureIs (fun o => o.isNone) (swappedStores [tg] e (envS sc)) && a.chk N sc e | _ => false
  req := a.req
  lp := false
  wp Dn en st := a.wp en st (fun d st1 => match putT t en d with | some en1 => Dn.nx en1 st1 | none => False) (fun x st' => Dn.ex x en st')
  mono A B en st le h := a.mono _ _ _ _ _ _ h (fun d s hd => by
    split at hd
    · exact le.nx _ _ hd
    · exact hd.elim) fun x s hx => le.ex x en s hx
  sound := by
    intro G k X W st gd hfn tk hl rq hc
    split at hc
    · rename_i tg e pos
      simp only [Bool.and_eq_true] at hc
      obtain ⟨⟨⟨h1, h2⟩, h3⟩, h4⟩ := hc
      obtain ⟨b, e3, e4⟩ := pureIs_ok h2
      have e5 : b = false := by simpa using e4
      subst e5
      obtain ⟨o, e6, e7⟩ := pureIs_ok h3
      have e8 : o = none := by simpa using e7
      subst e8
      have hg := pg_sound G k X gd (fun _ q => locB_ok hfn q) t tg h1
      have base := ps_asg (pos := pos) (a.sound G k X W e gd tk rq h4) hg (show swapsWithSole [tg] e pos.line X.env = _ from e3) ((swapped_scope _ _ _).trans e6) (assign_one t h1 _)
      refine ⟨fun pins s σ H Dn I h => base.run pins s σ H Dn I ?_⟩
      obtain ⟨mu, en, st, R, h⟩ := h
      refine se1 a.mono R h fun d st1 mu1 v H1 hF s1 r1 q1 => ?_
      split at hF
      · rename_i en1 he
        exact gOf_ok t v σ H1 Dn.nx mu1 en en1 st1 d (R.step s1 r1) q1 he fun σ' R' _ => hF mu1 σ' H1 s1 R'
      · exact hF.elim
    · cases hc
def locOnly (sc : Scope) (x : Str) : Bool := match sc.names.lookup x with | some .local => true | _ => false
theorem locOnly_ok {sc : Scope} {x : Str} (h : locOnly sc x = true) : sc.names.lookup x = some .local := by
  unfold locOnly at h
  split at h
  · assumption
  · cases h
/-- a, b = e1, e2 -/
def sPar2 (i j : Nat) (a b : SemE) : SemS where
  chk N sc st := match st with
    | .Assign [.Tuple [.Name x px, .Name y py] kt pt] (.Tuple [e, e2] k2 pt2) pos => isNm N i x && isNm N j y && decide (i ≠ j) && locOnly sc x && locOnly sc y && chkA [a, b] N sc [e, e2] &&
        pureIs (fun o => decide (o = some [x, y])) (swappedStores [.Tuple [.Name x px, .Name y py] kt pt] (.Tuple [e, e2] k2 pt2) (envS sc))
    | _ => false
  req G k := reqL [a, b] G k
  lp := false
  wp Dn en st := wpA [a, b] en st (fun ds st1 => match ds with | [d1, d2] => Dn.nx ((en.set i (some d1)).set j (some d2)) st1 | _ => False) (fun x st' => Dn.ex x en st')
  mono A B en st le h := wpA_mono _ _ _ _ _ _ _ h (fun d s hd => by
    split at hd
    · exact le.nx _ _ hd
    · exact hd.elim) fun x s hx => le.ex x en s hx
  sound := by
    intro G k X W st gd hfn tk hl rq hc
    split at hc
    · rename_i x px y py kt pt e e2 k2 pt2 pos
      simp only [Bool.and_eq_true, decide_eq_true_eq] at hc
      obtain ⟨⟨⟨⟨⟨⟨h1, h2⟩, h3⟩, h4⟩, h5⟩, h6⟩, h7⟩ := hc
      obtain ⟨o, e6, e7⟩ := pureIs_ok h7
      have e8 : o = some [x, y] := of_decide_eq_true e7
      subst e8
      have base := ps_par (pos := pos) (px := px) (py := py) (kt := kt) (pt := pt) (k2 := k2) (pt2 := pt2) gd.calm gd.nd (isNm_ok h1) (isNm_ok h2) h3 (locOnly_ok h4) (locOnly_ok h5) (pa_sound G k X W gd tk [a, b] [e, e2] rq h6) ((swapped_scope _ _ _).trans e6) rfl
      refine ⟨fun pins s σ H Dn I h => base.run pins s σ H Dn I ?_⟩
      obtain ⟨mu, en, st, R, h⟩ := h
      refine twa R (wpA_mono _ _ _ _ _ _ _ h (fun _ _ h => h) fun x st' hx => PostXS.ofX R hx) fun ds st1 mu1 vs H1 hF s1 r1 q1 => ?_
      split at hF
      · rename_i d1 d2
        obtain ⟨v, u, rfl, r2, r3⟩ := q1
        obtain ⟨w, u, rfl, r4, r5⟩ := r3
        cases (show u = [] from r5)
        exact ⟨v, w, rfl, hF mu1 _ H1 s1 (((R.step s1 r1).set r2).set r4)⟩
      · exact hF.elim
    · cases hc
/-- a, b, c = e1, e2, e3 -/
def sPar3 (i j l : Nat) (a b c : SemE) : SemS where
  chk N sc st := match st with
    | .Assign [.Tuple [.Name x px, .Name y py, .Name z pz] kt pt] (.Tuple [e, e2, e3] k2 pt2) pos => isNm N i x && isNm N j y && isNm N l z && decide (i ≠ j) && decide (i ≠ l) && decide (j ≠ l) && locOnly sc x && locOnly sc y && locOnly sc z && chkA [a, b, c] N sc [e, e2, e3] &&
        pureIs (fun o => decide (o = some [x, y, z])) (swappedStores [.Tuple [.Name x px, .Name y py, .Name z pz] kt pt] (.Tuple [e, e2, e3] k2 pt2) (envS sc))
    | _ => false
  req G k := reqL [a, b, c] G k
  lp := false
  wp Dn en st := wpA [a, b, c] en st (fun ds st1 => match ds with | [d1, d2, d3] => Dn.nx (((en.set i (some d1)).set j (some d2)).set l (some d3)) st1 | _ => False) (fun x st' => Dn.ex x en st')
  mono A B en st le h := wpA_mono _ _ _ _ _ _ _ h (fun d s hd => by
    split at hd
    · exact le.nx _ _ hd
    · exact hd.elim) fun x s hx => le.ex x en s hx
  sound := by
    intro G k X W st gd hfn tk hl rq hc
    split at hc
    · rename_i x px y py z pz kt pt e e2 e3 k2 pt2 pos
      simp only [Bool.and_eq_true, decide_eq_true_eq] at hc
      obtain ⟨⟨⟨⟨⟨⟨⟨⟨⟨⟨h1, h2⟩, h3⟩, h4⟩, h5⟩, h6⟩, h7⟩, h8⟩, h9⟩, h10⟩, h11⟩ := hc
      obtain ⟨o, e6, e7⟩ := pureIs_ok h11
      have e8 : o = some [x, y, z] := of_decide_eq_true e7
      subst e8
      have base := ps_par3 (pos := pos) (px := px) (py := py) (pz := pz) (kt := kt) (pt := pt) (k2 := k2) (pt2 := pt2) gd.calm gd.nd (isNm_ok h1) (isNm_ok h2) (isNm_ok h3) h4 h5 h6 (locOnly_ok h7) (locOnly_ok h8) (locOnly_ok h9) (pa_sound G k X W gd tk [a, b, c] [e, e2, e3] rq h10) ((swapped_scope _ _ _).trans e6) rfl
      refine ⟨fun pins s σ H Dn I h => base.run pins s σ H Dn I ?_⟩
      obtain ⟨mu, en, st, R, h⟩ := h
      refine twa R (wpA_mono _ _ _ _ _ _ _ h (fun _ _ h => h) fun x st' hx => PostXS.ofX R hx) fun ds st1 mu1 vs H1 hF s1 r1 q1 => ?_
      split at hF
      · rename_i d1 d2 d3
        obtain ⟨v, u, rfl, r2, r3⟩ := q1
        obtain ⟨w, u, rfl, r4, r5⟩ := r3
        obtain ⟨w3, u, rfl, r6, r7⟩ := r5
        cases (show u = [] from r7)
        exact ⟨v, w, w3, rfl, hF mu1 _ H1 s1 ((((R.step s1 r1).set r2).set r4).set r6)⟩
      · exact hF.elim
    · cases hc
end Mi
namespace Mi
open PySem PySem.Spec PyProof.Rows L2

/-! ### what is walked -/
/-- the iterator J tells the items one by one, as long as ok holds of the store -/
def ItOk (G : GEnv) (J : It) (items : List D) (ok : Sto → Prop) (m0 : Mu) (H0 : Hp) : Prop :=
  ∀ (mu : Mu) (st : Sto) (H : Hp), Step m0 H0 mu H → RelS G.K G.w mu H st → ok st → ∀ i : Nat,
    (∀ d, items[i]? = some d → J.go i H ∧ ∀ x H', J.yld i H x H' → Step mu H mu H' ∧ RelS G.K G.w mu H' st ∧ RV G.K mu H' d x) ∧ (items.length = i → J.stop i H)
abbrev QI := List D → (Sto → Prop) → Sto → Prop
abbrev WpI := Env → Sto → QI → QX → Prop
def PostI (G : GEnv) (mu : Mu) (H : Hp) (R : It → Hp → Prop) : QI := fun items ok st' => ∀ mu' J H', Step mu H mu' H' → RelS G.K G.w mu' H' st' → ItOk G J items ok mu' H' → R J H'
theorem PostI.step {G : GEnv} {m0 m1 : Mu} {H0 H1 : Hp} {R : It → Hp → Prop} (s : Step m0 H0 m1 H1) {is : List D} {ok : Sto → Prop} {st : Sto} (h : PostI G m0 H0 R is ok st) : PostI G m1 H1 R is ok st := fun mu J H' s2 r q => h mu J H' (s.trans s2) r q
def tWI (G : GEnv) (wp : WpI) (W : WX) : TI := fun σ H R => ∃ mu en st, RelE G.K G.w mu H en st σ ∧ wp en st (PostI G mu H R) (PostX G mu H σ W)
/-- tup: whether the target must be a row of names -/
def isTupE : Expr → Bool
  | .Tuple .. => true
  | _ => false
structure SemI where
  chk : List Str → Scope → Expr → Bool
  req : GEnv → Nat → Prop
  tup : Bool
  wp : WpI
  mono : ∀ (en : Env) (st : Sto) (Q Q' : QI) (E E' : QX), wp en st Q E → (∀ d o s, Q d o s → Q' d o s) → (∀ x s, E x s → E' x s) → wp en st Q' E'
  sound : ∀ (G : GEnv) (k : Nat) (X : Cx) (W : WX) (tg e : Expr), Good G k X → Takes X W → req G k → (tup = true → isTupE tg = true) → chk X.N X.env.scope e = true → PI X tg e (tWI G wp W)
/-- a tuple or a list, as it comes -/
def iAny (K : PySem.W.Frag) (tl : TE) : TI := fun σ H R => tl σ H fun x H1 => ∃ a, x = .ref a ∧ (((∃ xs, SqL K H1 a xs) ∧ R (Itl K a) H1) ∨ ((∃ xs, SqT K H1 a xs) ∧ R (Itt K a) H1))
theorem pi_any {X : Cx} {tg l : Expr} {tl : TE} (hl : PE X l tl) : PI X tg l (iAny X.K tl) := by
  refine ⟨fun pins s σ H R I h => ?_⟩
  refine thn (hl.run pins s σ H _ I h) fun v s1 ⟨x, H1, I1, r1, q1⟩ => ?_
  obtain ⟨a, e, q1⟩ := q1
  subst e
  cases r1
  rcases q1 with ⟨⟨xs, hq⟩, q⟩ | ⟨⟨xs, hq⟩, q⟩
  · obtain ⟨its, rv, p, hz⟩ := I1.list hq
    refine wpAny_pyIter_list p.isList ⟨s1.heap.objs.size, [s1.heap.objs.size], _, _, H1, rfl, I1.kept (t' := s1.toks) fun b o e => Heap.get?_push_of_some _ e, turn_list a _, ⟨_, Heap.get?_push_size _ rfl, rfl, rfl⟩, fun b hb => ?_, q⟩
    rw [show b = s1.heap.objs.size by simpa using hb]
    exact I1.fpOk (Nat.le_refl _) (I1.hok.fresh (Nat.le_refl _))
  · obtain ⟨its, rv, p, hz⟩ := I1.tuple hq
    refine wpAny_pyIter_tuple (show s1.heap.IsTuple a its.toArray from p) ⟨s1.heap.objs.size, [s1.heap.objs.size], _, _, H1, rfl, I1.kept (t' := s1.toks) fun b o e => Heap.get?_push_of_some _ e, turn_tuple a _, ⟨_, Heap.get?_push_size _ rfl, rfl, rfl⟩, fun b hb => ?_, q⟩
    rw [show b = s1.heap.objs.size by simpa using hb]
    exact I1.fpOk (Nat.le_refl _) (I1.hok.fresh (Nat.le_refl _))
theorem seq_it {G : GEnv} {k : Nat} {X : Cx} (gd : Good G k X) {mu : Mu} {H : Hp} {st : Sto} (R : RelS G.K G.w mu H st) {d : D} {v : V} {ds : List D} (h : seqOf st d = some ds) (r : RV G.K mu H d v) :
    ∃ a, v = .ref a ∧ (((∃ xs, SqL X.K H a xs) ∧ ItOk G (Itl X.K a) ds (fun s => seqOf s d = some ds) mu H) ∨ ((∃ xs, SqT X.K H a xs) ∧ ItOk G (Itt X.K a) ds (fun s => seqOf s d = some ds) mu H)) := by
  obtain ⟨a, vs, rfl, h1, h2⟩ := seq_at R h r
  refine ⟨a, rfl, ?_⟩
  rcases h1 with ⟨⟨es, rfl⟩, h1⟩ | ⟨hl, h1⟩
  · cases h
    refine .inr ⟨⟨vs, gd.K' (P := fun K => SqT K H a vs) h1⟩, fun mu2 st2 H2 s2 r2 _ i => ⟨fun d hd => ?_, fun hl => ⟨vs, gd.K' (P := fun K => SqT K H2 a vs) (s2.rdT h1), by rw [← h2.len]; exact Nat.le_of_eq hl⟩⟩⟩
    obtain ⟨x, hx, rx⟩ := h2.get hd
    have h3 : SqT X.K H2 a vs := gd.K' (P := fun K => SqT K H2 a vs) (s2.rdT h1)
    refine ⟨⟨vs, x, h3, hx⟩, fun y H' hy => ?_⟩
    obtain ⟨rfl, hy⟩ := hy
    have := (hy vs h3).symm.trans hx
    cases this
    exact ⟨Step.refl _ _, r2, rx.step s2⟩
  · refine .inl ⟨⟨vs, .of h1⟩, fun mu2 st2 H2 s2 r2 ho i => ?_⟩
    obtain ⟨b, us, e, h3, h4⟩ := seq_at r2 ho (r.step s2)
    cases e
    have h3 : SqL X.K H2 a us := by
      rcases h3 with ⟨⟨es, rfl⟩, _⟩ | ⟨_, h3⟩
      · unfold lstOf at hl; cases hl
      · exact .of h3
    refine ⟨fun d hd => ?_, fun hl => ⟨us, h3, by rw [← h4.len]; exact Nat.le_of_eq hl⟩⟩
    obtain ⟨x, hx, rx⟩ := h4.get hd
    refine ⟨⟨us, x, h3, hx⟩, fun y H' hy => ?_⟩
    obtain ⟨rfl, hy⟩ := hy
    have := (hy us h3).symm.trans hx
    cases this
    exact ⟨Step.refl _ _, r2, rx⟩
def iSeq (a : SemE) : SemI where
  chk N sc e := a.chk N sc e
  req := a.req
  tup := false
  wp en st Q E := a.wp en st (fun d st1 => match seqOf st1 d with | some ds => Q ds (fun s => seqOf s d = some ds) st1 | none => False) E
  mono en st Q Q' E E' h f g := a.mono _ _ _ _ _ _ h (fun d s hd => by
    split at hd
    · exact f _ _ _ hd
    · exact hd.elim) g
  sound := by
    intro G k X W tg e gd tk rq _ hc
    have base := pi_any (tg := tg) (a.sound G k X W e gd tk rq hc)
    refine ⟨fun pins s σ H R I h => base.run pins s σ H R I ?_⟩
    obtain ⟨mu, en, st, Re, h⟩ := h
    refine tw1 a.mono Re h fun d st1 mu1 v H1 hF s1 r1 q1 => ?_
    split at hF
    · rename_i ds hs
      obtain ⟨a, rfl, h1⟩ := seq_it gd r1 hs q1
      refine ⟨a, rfl, ?_⟩
      rcases h1 with ⟨h1, h2⟩ | ⟨h1, h2⟩
      · exact .inl ⟨h1, hF mu1 _ H1 s1 r1 h2⟩
      · exact .inr ⟨h1, hF mu1 _ H1 s1 r1 h2⟩
    · exact hF.elim
/-- range(a), range(a, b) -/
def rngD (lo : Int) (n : Nat) : List D := (List.range n).map fun (i : Nat) => D.int (lo + i)
theorem rng_ok {G : GEnv} {lo : Int} {n : Nat} {mu : Mu} {H : Hp} : ItOk G (Itr lo n) (rngD lo n) (fun _ => True) mu H := fun mu2 st2 H2 s2 r2 _ i => by
  refine ⟨fun d hd => ?_, fun hl => by
    have : n = i := by simpa [rngD] using hl
    exact Nat.le_of_eq this⟩
  unfold rngD at hd
  rw [List.getElem?_map] at hd
  have hi : i < n := by
    have := (List.getElem?_eq_some_iff.mp (show ((List.range n).map fun (i : Nat) => D.int (lo + i))[i]? = some d by rw [List.getElem?_map]; exact hd)).1
    simpa using this
  rw [List.getElem?_range hi] at hd
  cases hd
  refine ⟨hi, fun y H' hy => ?_⟩
  obtain ⟨rfl, rfl⟩ := hy
  exact ⟨Step.refl _ _, r2, rfl⟩
def bd62 (i : Int) : Prop := -(2 ^ 62) ≤ i ∧ i < 2 ^ 62
def iRange1 (a : SemE) : SemI where
  chk N sc e := match e with | .Call (.Name x _) [e] [] _ => decide (x = ("range" : Str)) && glB sc x && chkA [a] N sc [e] | _ => false
  req G k := G.mg "range" = none ∧ reqL [a] G k
  tup := false
  wp en st Q E := a.wp en st (fun d st1 => match d with
    | .int j => bd62 j ∧ Q (rngD 0 j.toNat) (fun _ => True) st1
    | _ => False) E
  mono en st Q Q' E E' h f g := a.mono _ _ _ _ _ _ h (fun d s hd => by
    split at hd
    · exact ⟨hd.1, f _ _ _ hd.2⟩
    · exact hd.elim) g
  sound := by
    intro G k X W tg e gd tk rq _ hc
    split at hc
    · rename_i x px e pos
      simp only [Bool.and_eq_true, decide_eq_true_eq] at hc
      obtain ⟨⟨rfl, hg⟩, ha⟩ := hc
      have pa := pa_sound G k X W gd tk [a] [e] rq.2 ha
      have hm : X.mg "range" = none := by rw [gd.mg]; exact rq.1
      have base := pi_range1 (tg := tg) (p := px) (pos := pos) (glB_ok hg) hm pa (chkA_star ha _)
      refine ⟨fun pins s σ H R I h => base.run pins s σ H R I ?_⟩
      obtain ⟨mu, en, st, Re, h⟩ := h
      refine twa (l := [a]) (F := fun ds st1 => match ds with | [.int j] => bd62 j ∧ PostI G mu H R (rngD 0 j.toNat) (fun _ => True) st1 | _ => False) Re (a.mono _ _ _ _ _ _ h (fun d s hd => by
        split at hd
        · exact hd
        · exact hd.elim) fun _ _ h => h) fun ds st1 mu1 vs H1 hF s1 r1 q1 => ?_
      split at hF
      · obtain ⟨v, u, rfl, r2, r3⟩ := q1
        cases (show u = [] from r3)
        cases (show v = V.int _ from r2)
        exact ⟨_, rfl, hF.1.1, hF.1.2, hF.2 mu1 _ H1 s1 r1 rng_ok⟩
      · exact hF.elim
    · cases hc
def iRange2 (a b : SemE) : SemI where
  chk N sc e := match e with | .Call (.Name x _) [e, e2] [] _ => decide (x = ("range" : Str)) && glB sc x && chkA [a, b] N sc [e, e2] | _ => false
  req G k := G.mg "range" = none ∧ reqL [a, b] G k
  tup := false
  wp en st Q E := a.wp en st (fun d st1 => b.wp en st1 (fun d2 st2 => match d, d2 with
    | .int i, .int j => bd62 i ∧ bd62 j ∧ Q (rngD i (j - i).toNat) (fun _ => True) st2
    | _, _ => False) E) E
  mono en st Q Q' E E' h f g := a.mono _ _ _ _ _ _ h (fun d s hd => b.mono _ _ _ _ _ _ hd (fun d s hd => by
    split at hd
    · exact ⟨hd.1, hd.2.1, f _ _ _ hd.2.2⟩
    · exact hd.elim) g) g
  sound := by
    intro G k X W tg e gd tk rq _ hc
    split at hc
    · rename_i x px e e2 pos
      simp only [Bool.and_eq_true, decide_eq_true_eq] at hc
      obtain ⟨⟨rfl, hg⟩, ha⟩ := hc
      have pa := pa_sound G k X W gd tk [a, b] [e, e2] rq.2 ha
      have hm : X.mg "range" = none := by rw [gd.mg]; exact rq.1
      have base := pi_range2 (tg := tg) (p := px) (pos := pos) (glB_ok hg) hm pa (by rw [chkA_star ha _, chkA_star (chkA_tail ha) _]; rfl) (by rw [chkA_star (chkA_tail ha) _]; rfl)
      refine ⟨fun pins s σ H R I h => base.run pins s σ H R I ?_⟩
      obtain ⟨mu, en, st, Re, h⟩ := h
      refine twa (l := [a, b]) (F := fun ds st1 => match ds with | [.int i, .int j] => bd62 i ∧ bd62 j ∧ PostI G mu H R (rngD i (j - i).toNat) (fun _ => True) st1 | _ => False) Re (a.mono _ _ _ _ _ _ h (fun d s hd => b.mono _ _ _ _ _ _ hd (fun d2 s2 hd => by
        split at hd
        · exact hd
        · exact hd.elim) fun _ _ h => h) fun _ _ h => h) fun ds st1 mu1 vs H1 hF s1 r1 q1 => ?_
      split at hF
      · obtain ⟨v, u, rfl, r2, r3⟩ := q1
        obtain ⟨v3, u, rfl, r4, r5⟩ := r3
        cases (show u = [] from r5)
        cases (show v = V.int _ from r2)
        cases (show v3 = V.int _ from r4)
        exact ⟨_, _, rfl, ⟨hF.1.1, hF.1.2, hF.2.1.1, hF.2.1.2⟩, hF.2.2 mu1 _ H1 s1 r1 rng_ok⟩
      · exact hF.elim
    · cases hc

/-! ### for -/
/-- the turns over the items that are left -/
def forD (t : Tg) (body : WpS) (ok : Sto → Prop) (Dn : EndsD) : List D → Env → Sto → Prop
  | [], en, st => ok st ∧ Dn.nx en st
  | d :: r, en, st => ok st ∧ match putT t en d with
    | some en1 => body { Dn with nx := forD t body ok Dn r, ct := forD t body ok Dn r, bk := Dn.nx } en1 st
    | none => False
theorem forD_mono {t : Tg} {body : WpS} (mb : MonoS body) {ok : Sto → Prop} {A B : EndsD} (le : EndsD.Le A B) : ∀ (l : List D) (en : Env) (st : Sto), forD t body ok A l en st → forD t body ok B l en st
  | [], _, _, h => ⟨h.1, le.nx _ _ h.2⟩
  | d :: r, en, st, h => by
    rw [forD] at h ⊢
    refine ⟨h.1, ?_⟩
    have h2 := h.2
    split at h2
    · exact mb { A with nx := forD t body ok A r, ct := forD t body ok A r, bk := A.nx } _ _ _ ⟨forD_mono mb le r, le.rt, le.nx, forD_mono mb le r, le.ex⟩ h2
    · exact h2.elim
def tgTup : Tg → Bool
  | .tup _ => true
  | _ => false
theorem isTup_of {ok : Str → Bool} {t : Tg} {N : List Str} {e : Expr} (h : chkT ok t N e = true) (ht : tgTup t = true) : isTupE e = true := by
  cases t with
  | nm i => cases ht
  | tup l => cases e <;> first | rfl | (simp [chkT] at h)
def notSet : Expr → Bool
  | .Set .. => false
  | _ => true
theorem notSet_ok {e : Expr} (h : notSet e = true) (env : PySem.Env) : ∀ x, foldedSetIterable e env x = pure x := by
  intro x
  cases e <;> first | rfl | (simp [notSet] at h)
def sFor (t : Tg) (i : SemI) (b : List SemS) : SemS where
  chk N sc st := match st with | .For tg e body [] _ => chkT (locB sc) t N tg && notSet e && (!i.tup || tgTup t) && i.chk N sc e && chkB b N sc body | _ => false
  req G k := i.req G k ∧ reqB b G k
  lp := true
  wp Dn en st := i.wp en st (fun items ok st1 => forD t (wpB b) ok Dn items en st1) (fun x st' => Dn.ex x en st')
  mono A B en st le h := i.mono _ _ _ _ _ _ h (fun d o s hd => forD_mono (wpB_mono b) le _ _ _ hd) fun x s hx => le.ex x en s hx
  sound := by
    intro G k X W st gd hfn tk hl rq hc
    split at hc
    · rename_i tg e body pos
      simp only [Bool.and_eq_true] at hc
      obtain ⟨⟨⟨⟨h1, h2⟩, h3⟩, h4⟩, h5⟩ := hc
      have hg := pg_sound G k X gd (fun _ q => locB_ok hfn q) t tg h1
      have pi := i.sound G k X W tg e gd tk rq.1 (fun q => isTup_of h1 (by rw [q] at h3; simpa using h3)) h4
      have base := ps_for (pos := pos) (hl rfl) gd.calm pi hg (pss_sound G k X W gd hfn tk b body (fun _ => hl rfl) rq.2 h5) (notSet_ok h2 _)
      refine ⟨fun pins s σ H Dn I h => base.run pins s σ H Dn I ?_⟩
      obtain ⟨mu, en, st, R, h⟩ := h
      refine ⟨mu, en, st, R, i.mono _ _ _ _ _ _ h (fun items ok st1 hF mu1 J H1 s1 r1 hJ => ?_) fun x st' hx => PostXS.ofX R hx⟩
      refine ⟨fun j m σ' H' => m = items.length - j ∧ j ≤ items.length ∧ ∃ mu' en' st', Step mu1 H1 mu' H' ∧ RelE G.K G.w mu' H' en' st' σ' ∧ forD t (wpB b) ok (PostS G mu H Dn W) (items.drop j) en' st', ⟨_, rfl, Nat.zero_le _, mu1, en, st1, Step.refl _ _, R.step s1 r1, by rw [List.drop_zero]; exact hF⟩, ?_⟩
      rintro j m σ' H' ⟨rfl, hj, mu', en', st', s', R', hD⟩
      by_cases hlt : j < items.length
      · rw [List.drop_eq_getElem_cons hlt, forD] at hD
        obtain ⟨hok, hD⟩ := hD
        obtain ⟨go, yl⟩ := (hJ mu' st' H' s' R'.sto hok j).1 items[j] (List.getElem?_eq_getElem hlt)
        refine .inr ⟨go, fun σ2 H2 => j + 1 ≤ items.length ∧ ∃ mu2 en2 st2, Step mu1 H1 mu2 H2 ∧ RelE G.K G.w mu2 H2 en2 st2 σ2 ∧ forD t (wpB b) ok (PostS G mu H Dn W) (items.drop (j + 1)) en2 st2, fun σ2 H2 ⟨q1, q2⟩ => ⟨items.length - (j + 1), by omega, rfl, q1, q2⟩, fun x H2 hy => ?_⟩
        obtain ⟨s2, r2, q2⟩ := yl x H2 hy
        split at hD
        · rename_i en1 he
          refine gOf_ok t x σ' H2 _ mu' en' en1 st' items[j] (R'.step s2 r2) q2 he fun σ3 R3 _ => ⟨mu', en1, st', R3, wpB_mono b _ _ _ _ ?_ hD⟩
          have st3 := s1.trans (s'.trans s2)
          refine ⟨fun en4 st4 h4 mu4 σ4 H4 s4 R4 => ⟨hlt, mu4, en4, st4, (s'.trans s2).trans s4, R4, h4⟩, fun _ _ h => PostD.step st3 h, fun _ _ h => PostN.step st3 h, fun en4 st4 h4 mu4 σ4 H4 s4 R4 => ⟨hlt, mu4, en4, st4, (s'.trans s2).trans s4, R4, h4⟩, fun _ _ _ h => PostXS.step st3 h⟩
        · exact hD.elim
      · have e : j = items.length := by omega
        subst e
        rw [List.drop_length, forD] at hD
        exact .inl ⟨(hJ mu' st' H' s' R'.sto hD.1 _).2 rfl, hD.2 mu' σ' H' (s1.trans s') R'⟩
    · cases hc
/-- while, by an invariant and a measure -/
def whD (t : SemT) (body : WpS) (Dn : EndsD) (en : Env) (st : Sto) : Prop :=
  ∃ Inv : Nat → Env → Sto → Prop, (∃ m, Inv m en st) ∧ ∀ m en st, Inv m en st → t.wp en st (fun c st1 => match c with
    | true => body { Dn with nx := fun en' st' => ∃ m', m' < m ∧ Inv m' en' st', ct := fun en' st' => ∃ m', m' < m ∧ Inv m' en' st', bk := Dn.nx } en st1
    | false => Dn.nx en st1) (fun x st' => Dn.ex x en st')
def sWhile (t : SemT) (b : List SemS) : SemS where
  chk N sc st := match st with | .While c body [] _ => t.chk N sc c && chkB b N sc body | _ => false
  req G k := t.req G k ∧ reqB b G k
  lp := true
  wp Dn en st := whD t (wpB b) Dn en st
  mono A B en st le h := by
    obtain ⟨Iv, h0, hs⟩ := h
    refine ⟨Iv, h0, fun m en st hi => t.mono _ _ _ _ _ _ (hs m en st hi) (fun c s hc => ?_) fun x s hx => le.ex x en s hx⟩
    split at hc
    · exact wpB_mono b { A with nx := fun en' st' => ∃ m', m' < m ∧ Iv m' en' st', ct := fun en' st' => ∃ m', m' < m ∧ Iv m' en' st', bk := A.nx } _ _ _ ⟨fun _ _ h => h, le.rt, le.nx, fun _ _ h => h, le.ex⟩ hc
    · exact le.nx _ _ hc
  sound := by
    intro G k X W st gd hfn tk hl rq hc
    split at hc
    · rename_i c body pos
      simp only [Bool.and_eq_true] at hc
      have base := ps_while (pos := pos) (hl rfl) (t.sound G k X W c gd tk rq.1 hc.1) (pss_sound G k X W gd hfn tk b body (fun _ => hl rfl) rq.2 hc.2)
      refine ⟨fun pins s σ H Dn I h => base.run pins s σ H Dn I ?_⟩
      obtain ⟨mu, en, st, R, Iv, ⟨m0, h0⟩, hs⟩ := h
      refine ⟨fun m σ' H' => ∃ mu' en' st', Step mu H mu' H' ∧ RelE G.K G.w mu' H' en' st' σ' ∧ Iv m en' st', ⟨m0, mu, en, st, Step.refl _ _, R, h0⟩, ?_⟩
      rintro m σ' H' ⟨mu', en', st', s', R', hi⟩
      refine tt1 t.mono R' (t.mono _ _ _ _ _ _ (hs m en' st' hi) (fun _ _ h => h) fun x st2 hx => PostXS.ofX R' (PostXS.step s' hx)) fun d st1 mu1 H1 hF s1 r1 => ?_
      cases d with
      | true =>
        rw [if_pos rfl]
        refine ⟨fun σ2 H2 => ∃ m', m' < m ∧ ∃ mu2 en2 st2, Step mu H mu2 H2 ∧ RelE G.K G.w mu2 H2 en2 st2 σ2 ∧ Iv m' en2 st2, fun σ2 H2 ⟨m', hm, q⟩ => ⟨m', hm, q⟩, mu1, en', st1, R'.step s1 r1, wpB_mono b _ _ _ _ ?_ hF⟩
        have st3 := s'.trans s1
        exact ⟨fun en4 st4 ⟨m', hm, h4⟩ mu4 σ4 H4 s4 R4 => ⟨m', hm, mu4, en4, st4, st3.trans s4, R4, h4⟩, fun _ _ h => PostD.step st3 h, fun _ _ h => PostN.step st3 h, fun en4 st4 ⟨m', hm, h4⟩ mu4 σ4 H4 s4 R4 => ⟨m', hm, mu4, en4, st4, st3.trans s4, R4, h4⟩, fun _ _ _ h => PostXS.step st3 h⟩
      | false =>
        rw [if_neg (by simp)]
        exact hF mu1 σ' H1 (s'.trans s1) (R'.step s1 r1)
    · cases hc
end Mi
namespace Mi
open PySem PySem.Spec PyProof.Rows L2

/-! ### comprehensions -/
def wipeD (en : Env) : List Nat → Env
  | [] => en
  | v :: vs => (wipeD en vs).set v none
theorem wipeD_len (en : Env) : ∀ vs, (wipeD en vs).length = en.length
  | [] => rfl
  | v :: vs => by rw [wipeD, List.length_set, wipeD_len en vs]
theorem wipe_get (σ : L2.St) (i : Nat) : ∀ vs : List Nat, (wipe σ vs)[i]? = if i ∈ vs then (if i < σ.length then some none else none) else σ[i]?
  | [] => by simp [wipe]
  | v :: vs => by
    rw [wipe]
    by_cases h : v = i
    · subst h
      by_cases hl : v < σ.length
      · rw [List.getElem?_set_self (by rw [wipe_length]; exact hl)]
        simp [hl]
      · rw [List.getElem?_eq_none (by rw [List.length_set, wipe_length]; omega)]
        simp [hl]
    · rw [List.getElem?_set_ne h, wipe_get σ i vs]
      have : (i ∈ v :: vs) ↔ (i ∈ vs) := by
        rw [List.mem_cons]
        exact ⟨fun z => z.elim (fun q => absurd q.symm h) id, .inr⟩
      simp only [this]
theorem wipeD_get (en : Env) (i : Nat) : ∀ vs : List Nat, (wipeD en vs)[i]? = if i ∈ vs then (if i < en.length then some none else none) else en[i]?
  | [] => by simp [wipeD]
  | v :: vs => by
    rw [wipeD]
    by_cases h : v = i
    · subst h
      by_cases hl : v < en.length
      · rw [List.getElem?_set_self (by rw [wipeD_len]; exact hl)]
        simp [hl]
      · rw [List.getElem?_eq_none (by rw [List.length_set, wipeD_len]; omega)]
        simp [hl]
    · rw [List.getElem?_set_ne h, wipeD_get en i vs]
      have : (i ∈ v :: vs) ↔ (i ∈ vs) := by
        rw [List.mem_cons]
        exact ⟨fun z => z.elim (fun q => absurd q.symm h) id, .inr⟩
      simp only [this]
theorem wipe_same {σ σ' : L2.St} {vs ss : List Nat} (hl : σ'.length = σ.length) (hs : ∀ i ∈ ss, i ∈ vs) (h : ∀ i, i ∉ ss → σ'[i]? = (wipe σ vs)[i]?) : wipe σ' vs = wipe σ vs := by
  apply List.ext_getElem?
  intro i
  rw [wipe_get, wipe_get]
  by_cases hi : i ∈ vs
  · simp only [hi, if_true, hl]
  · simp only [hi, if_false]
    rw [h i (fun z => hi (hs i z)), wipe_get]
    simp only [hi, if_false]
theorem RelE.wipe {K : PySem.W.Frag} {mu : Mu} {H : Hp} {en : Env} {st : Sto} {σ : L2.St} (R : RelE K wd mu H en st σ) (vs : List Nat) : RelE K wd mu H (wipeD en vs) st (L2.wipe σ vs) := by
  refine ⟨R.sto, fun i d e => ?_, by rw [wipeD_len, wipe_length]; exact R.len⟩
  rw [wipeD_get] at e
  by_cases hi : i ∈ vs
  · simp only [hi, if_true] at e
    split at e <;> cases e
  · simp only [hi, if_false] at e
    obtain ⟨v, h1, h2⟩ := R.env i d e
    refine ⟨v, ?_, h2⟩
    rw [wipe_get]
    simp only [hi, if_false]
    exact h1
/-- the block's names as the machine has them -/
def rlS (sc scope : Scope) : Scope := relabel scope (envS sc)
theorem rlS_eq (scope : Scope) (env : PySem.Env) : relabel scope env = rlS env.scope scope := rfl
theorem lookup_keep {sc : Scope} {scope : Scope} {x : Str} {k : NameKind} (hk : k ≠ .free) (h : scope.names.lookup x = some k) : (rlS sc scope).names.lookup x = some k := lookup_relS_keep hk h
theorem blk_good {G : GEnv} {k : Nat} {X : Cx} (gd : Good G k X) {scope : Scope} {own : List (Str × Nat)} (ok : BlkOk X.N X.env.scope scope own) (s : Shared) (H : Hp) (C : Addr) (cl : List (Str × Addr)) (fp : List Addr) :
    Good G k (X.blk s H scope (compEnvC scope cl C X.env) fp) := ⟨gd.prog, gd.w, gd.K, gd.mg, gd.base, gd.room, gd.nd, gd.calm, ok.kind, gd.guards⟩
theorem blk_store {X : Cx} {scope : Scope} (s : Shared) (H : Hp) (C : Addr) (cl : List (Str × Addr)) (fp : List Addr) (x : Str) (h : locB scope x = true) :
    Loc (X.blk s H scope (compEnvC scope cl C X.env) fp).env.scope x ∧ ((X.blk s H scope (compEnvC scope cl C X.env) fp).fn x = true ∨ (X.blk s H scope (compEnvC scope cl C X.env) fp).env.scope.names.lookup x = some .local) := by
  unfold locB at h
  split at h
  · rename_i e
    have := lookup_keep (sc := X.env.scope) (by decide) e
    exact ⟨.inl this, .inr this⟩
  · rename_i e
    have := lookup_keep (sc := X.env.scope) (by decide) e
    exact ⟨.inr this, .inl (by show (scope.names.lookup x == some .cell) = true; rw [e]; rfl)⟩
  · cases h
/-- an optional test -/
def chkC : Option SemT → List Str → Scope → List Expr → Bool
  | none, _, _, [] => true
  | some a, N, sc, [e] => a.chk N sc e
  | _, _, _, _ => false
def reqC : Option SemT → GEnv → Nat → Prop
  | none, _, _ => True
  | some a, G, k => a.req G k
def wpC (a : Option SemT) : WpT := fun en st Q E => match a with
  | none => Q true st
  | some a => a.wp en st Q E
theorem wpC_mono (a : Option SemT) : MonoT (wpC a) := fun en st Q Q' E E' h f g => by
  cases a with
  | none => exact f _ _ h
  | some a => exact a.mono _ _ _ _ _ _ h f g
theorem pts_sound (G : GEnv) (k : Nat) (X : Cx) (W : WX) (gd : Good G k X) (tk : Takes X W) (a : Option SemT) (es : List Expr) (rq : reqC a G k) (hc : chkC a X.N X.env.scope es = true) : PTs X es (tWT G (wpC a) W) := by
  cases a with
  | none =>
    cases es with
    | nil =>
      refine ⟨fun pins s σ H Q I h => pts_nil.run pins s σ H Q I ?_⟩
      obtain ⟨mu, en, st, R, h⟩ := h
      exact h mu H (Step.refl _ _) R.sto
    | cons _ _ => simp [chkC] at hc
  | some a =>
    cases es with
    | nil => simp [chkC] at hc
    | cons e r =>
      cases r with
      | nil => exact pts_one (a.sound G k X W e gd tk rq hc)
      | cons _ _ => simp [chkC] at hc
/-! ### an object that is protected for a while -/
def Mu.prot (mu : Mu) (A : Addr) : Mu := ⟨mu.l, A :: mu.av⟩
section
variable {K : PySem.W.Frag} {mu : Mu} {H : Hp} {A : Addr}
theorem Mu.prot_has {a : Addr} (h : (mu.prot A).has a) : mu.has a ∨ a = A := by
  rcases h with h | h
  · exact .inl (.inl h)
  · rcases List.mem_cons.mp h with h | h
    · exact .inr h
    · exact .inl (.inr h)
mutual
theorem RV.prot (hA : H A = none) : ∀ {d : D} {v : V}, RV K mu H d v → RV K (mu.prot A) H d v
  | .non, _, h => h
  | .bl _, _, h => h
  | .int _, _, h => h
  | .str _, _, h => h
  | .tup ds, _, ⟨a, vs, e, h, r⟩ => ⟨a, vs, e, h, RVs.prot hA r⟩
  | .lst ds, _, ⟨a, vs, e, h, n, r⟩ => ⟨a, vs, e, h, fun z => (Mu.prot_has z).elim n (fun q => by subst q; rw [hA] at h; cases h), RVs.prot hA r⟩
  | .rol ds, _, ⟨a, vs, e, h, r⟩ => ⟨a, vs, e, h, RVs.prot hA r⟩
  | .dic _ _, _, h => h
  | .ref n, _, h => h
theorem RVs.prot (hA : H A = none) : ∀ {ds : List D} {vs : List V}, RVs K mu H ds vs → RVs K (mu.prot A) H ds vs
  | [], _, h => h
  | _ :: _, _, ⟨v, r, e, h, t⟩ => ⟨v, r, e, RV.prot hA h, RVs.prot hA t⟩
end
mutual
theorem RV.chg {us us' : List V} (ha : A ∈ mu.av) (hA : H A = some (.lst us)) : ∀ {d : D} {v : V}, RV K mu H d v → RV K mu (upd H A (.lst us')) d v
  | .non, _, h => h
  | .bl _, _, h => h
  | .int _, _, h => h
  | .str _, _, h => h
  | .tup ds, _, ⟨a, vs, e, h, r⟩ => by
    refine ⟨a, vs, e, ?_, RVs.chg ha hA r⟩
    rcases h with (h | ⟨o, h⟩) | h
    · exact .inl (.inl (by rw [upd_ne (fun z => by rw [z, hA] at h; cases h)]; exact h))
    · exact .inl (.inr ⟨o, by rw [upd_ne (fun z => by rw [z, hA] at h; cases h)]; exact h⟩)
    · exact .inr h
  | .lst ds, _, ⟨a, vs, e, h, n, r⟩ => ⟨a, vs, e, by rw [upd_ne (fun z => n (.inr (by rw [z]; exact ha)))]; exact h, n, RVs.chg ha hA r⟩
  | .rol ds, _, ⟨a, vs, e, h, r⟩ => ⟨a, vs, e, h.elim .inl fun ⟨o, h⟩ => .inr ⟨o, by rw [upd_ne (fun z => by rw [z, hA] at h; cases h)]; exact h⟩, RVs.chg ha hA r⟩
  | .dic _ _, _, h => h
  | .ref n, _, h => h
theorem RVs.chg {us us' : List V} (ha : A ∈ mu.av) (hA : H A = some (.lst us)) : ∀ {ds : List D} {vs : List V}, RVs K mu H ds vs → RVs K mu (upd H A (.lst us')) ds vs
  | [], _, h => h
  | _ :: _, _, ⟨v, r, e, h, t⟩ => ⟨v, r, e, RV.chg ha hA h, RVs.chg ha hA t⟩
end
theorem RelS.prot {st : Sto} (R : RelS K wd mu H st) (hA : H A = none) : RelS K wd (mu.prot A) (upd H A (.lst [])) st := by
  have np : A ∉ mu.l := fun z => R.at (.inl z) hA
  have s : Step (mu.prot A) H (mu.prot A) (upd H A (.lst [])) := Step.newV hA
  refine ⟨R.nd, R.len, fun n o a h1 h2 => ?_, fun a ha => ?_⟩
  · have r := R.obj n o a h1 h2
    have ne : a ≠ A := fun z => np (by rw [← z]; exact List.mem_of_getElem? h2)
    cases o with
    | lst ds => obtain ⟨vs, h3, h4⟩ := r; exact ⟨vs, by rw [upd_ne ne]; exact h3, (h4.prot hA).step s⟩
    | dic _ _ => obtain ⟨rows, ws, h3, h4, h5, h6, h7, h8⟩ := r; exact ⟨rows, ws, by rw [upd_ne ne]; exact h3, h4, (h5.prot hA).step s, h6, (h7.prot hA).step s, h8⟩
  · rcases List.mem_cons.mp ha with e | ha
    · rw [e]; exact ⟨by rw [upd_same]; simp, np⟩
    · exact ⟨s.live a (R.av a ha).1, (R.av a ha).2⟩
theorem Step.prot (hA : H A = none) : Step mu H (mu.prot A) (upd H A (.lst [])) := by
  have q : Step mu H mu (upd H A (.lst [])) := Step.newV hA
  exact ⟨fun a h => List.mem_cons_of_mem _ h, fun a h => (List.mem_cons.mp h).elim (fun z => .inr (by rw [z]; exact hA)) .inl, q.pre, q.keep, q.live⟩
theorem RelS.chg {st : Sto} {us us' : List V} (R : RelS K wd mu H st) (ha : A ∈ mu.av) (hA : H A = some (.lst us)) : RelS K wd mu (upd H A (.lst us')) st := by
  refine ⟨R.nd, R.len, fun n o a h1 h2 => ?_, fun a hb => ⟨?_, (R.av a hb).2⟩⟩
  · have r := R.obj n o a h1 h2
    have ne : a ≠ A := fun z => (R.av A ha).2 (by rw [← z]; exact List.mem_of_getElem? h2)
    cases o with
    | lst ds => obtain ⟨vs, h3, h4⟩ := r; exact ⟨vs, by rw [upd_ne ne]; exact h3, h4.chg ha hA⟩
    | dic _ _ => obtain ⟨rows, ws, h3, h4, h5, h6, h7, h8⟩ := r; exact ⟨rows, ws, by rw [upd_ne ne]; exact h3, h4, h5.chg ha hA, h6, h7.chg ha hA, h8⟩
  · by_cases e : a = A
    · rw [e, upd_same]; simp
    · rw [upd_ne e]; exact (R.av a hb).1
end
abbrev NoX : QX := fun _ _ => False
/-- the turns of a comprehension over the items that are left; acc: what is made so far -/
def compD (t : Tg) (vs : List Nat) (c : WpT) (elt : WpE) (ok : Sto → Prop) (en : Env) (Q : List D → Sto → Prop) : List D → List D → Sto → Prop
  | [], acc, st => ok st ∧ Q acc st
  | d :: r, acc, st => ok st ∧ match putT t (wipeD en vs) d with
    | some en1 => c en1 st (fun b st1 => match b with
      | true => elt en1 st1 (fun y st2 => acc.length < sizeLine ∧ compD t vs c elt ok en Q r (acc ++ [y]) st2) NoX
      | false => compD t vs c elt ok en Q r acc st1) NoX
    | none => False
theorem compD_mono {t : Tg} {vs : List Nat} {c : WpT} {elt : WpE} (mc : MonoT c) (me : MonoE elt) {ok : Sto → Prop} {en : Env} {Q Q' : List D → Sto → Prop} (f : ∀ d s, Q d s → Q' d s) : ∀ (l acc : List D) (st : Sto), compD t vs c elt ok en Q l acc st → compD t vs c elt ok en Q' l acc st
  | [], _, _, h => ⟨h.1, f _ _ h.2⟩
  | d :: r, acc, st, h => by
    rw [compD] at h ⊢
    refine ⟨h.1, ?_⟩
    have h2 := h.2
    split at h2
    · exact mc _ _ _ _ _ _ h2 (fun b st1 hb => by
        split at hb
        · exact me _ _ _ _ _ _ hb (fun y st2 hy => ⟨hy.1, compD_mono mc me f r _ _ hy.2⟩) fun _ _ h => h
        · exact compD_mono mc me f r _ _ hb) fun _ _ h => h
    · exact h2.elim
def slIn (t : Tg) (vs : List Nat) : Bool := (slT t).all fun i => vs.contains i
abbrev compWp (m_ : Bool) (t : Tg) (own : List (Str × Nat)) (i : SemI) (c : Option SemT) (elt : SemE) : WpE := fun en st Q E => i.wp en st (fun items ok st1 => compD t (own.map Prod.snd) (wpC c) elt.wp ok en (fun ds st2 => newL m_ ds st2 Q) items [] st1) E
theorem comp_lc {G : GEnv} {m_ : Bool} {t : Tg} {own : List (Str × Nat)} {i : SemI} {c : Option SemT} {elt : SemE} (h2 : slIn t (own.map Prod.snd) = true) {W : WX} {σ : L2.St} {H : Hp} {Q : VK} (h : tW G (compWp m_ t own i c elt) W σ H Q) :
    tLc (tWI G i.wp W) (gOf G.K t) (tWT G (wpC c) fun _ _ _ _ => False) (tW G elt.wp fun _ _ _ _ => False) (own.map (·.2)) σ H Q := by
  obtain ⟨mu, en, st, R, h⟩ := h
  refine ⟨mu, en, st, R, i.mono _ _ _ _ _ _ h (fun items ok' st1 hF mu1 J H1 s1 r1 hJ => ?_) fun _ _ hx => hx⟩
  intro A hA
  have nA : ¬ mu1.has A := fun z => r1.at z hA
  refine ⟨fun j m H' => m = items.length - j ∧ j ≤ items.length ∧ ∃ (m' : Mu) (st' : Sto) (acc : List D) (us : List V), (A ∈ m'.av ∧ ∀ a, a ∈ mu1.av → a ∈ m'.av) ∧ Step mu1 H1 m' H' ∧ RelE G.K G.w m' H' en st' σ ∧ H' A = some (.lst us) ∧ RVs G.K m' H' acc us ∧
    compD t (own.map Prod.snd) (wpC c) elt.wp ok' en (fun ds st2 => newL m_ ds st2 (PostD G mu H Q)) (items.drop j) acc st', ⟨_, rfl, Nat.zero_le _, mu1.prot A, st1, [], [], ⟨List.mem_cons_self, fun a ha => List.mem_cons_of_mem _ ha⟩, Step.prot hA, ⟨r1.prot hA, ?_, R.len⟩, upd_same, rfl, by rw [List.drop_zero]; exact hF⟩, ?_⟩
  · intro i d e
    obtain ⟨v, h1, h2⟩ := (R.env.step s1) i d e
    exact ⟨v, h1, h2.step (Step.prot hA)⟩
  rintro j m H' ⟨rfl, hj, m', st', acc, us, hav, s', R', hAA, racc, hD⟩
  have hAm : A ∈ m'.av := hav.1
  have s0 : Step mu1 H1 ⟨m'.l, mu1.av⟩ H' := ⟨fun _ h => h, fun _ h => .inl h, s'.pre, s'.keep, s'.live⟩
  have nAl : A ∉ m'.l := (R'.sto.av A hAm).2
  have sub0 : ∀ a, (⟨m'.l, mu1.av⟩ : Mu).has a → m'.has a := fun a ha => ha.elim .inl fun z => .inr (hav.2 a z)
  have un : ∀ {d : D} {v : V}, RV G.K m' H' d v → RV G.K ⟨m'.l, mu1.av⟩ H' d v := fun r => r.sub (n := m'.l.length) sub0 (fun _ _ => rfl) r.nr
  have uns : ∀ {d : List D} {v : List V}, RVs G.K m' H' d v → RVs G.K ⟨m'.l, mu1.av⟩ H' d v := fun r => r.sub (n := m'.l.length) sub0 (fun _ _ => rfl) r.nr
  have RS0 : RelS G.K G.w ⟨m'.l, mu1.av⟩ H' st' := ⟨R'.sto.nd, R'.sto.len, fun n o a h1 h2 => by
    have r := R'.sto.obj n o a h1 h2
    cases o with
    | lst ds => obtain ⟨vs, h3, h4⟩ := r; exact ⟨vs, h3, uns h4⟩
    | dic _ _ => obtain ⟨rows, ws, h3, h4, h5, h6, h7, h8⟩ := r; exact ⟨rows, ws, h3, h4, uns h5, h6, uns h7, h8⟩, fun a ha => R'.sto.av a (hav.2 a ha)⟩
  by_cases hlt : j < items.length
  · rw [List.drop_eq_getElem_cons hlt, compD] at hD
    obtain ⟨hok, hD⟩ := hD
    obtain ⟨go, yl⟩ := (hJ m' st' H' s' R'.sto hok j).1 items[j] (List.getElem?_eq_getElem hlt)
    refine .inr ⟨go, fun H2 => j + 1 ≤ items.length ∧ ∃ (m' : Mu) (st' : Sto) (acc : List D) (us : List V), (A ∈ m'.av ∧ ∀ a, a ∈ mu1.av → a ∈ m'.av) ∧ Step mu1 H1 m' H2 ∧ RelE G.K G.w m' H2 en st' σ ∧ H2 A = some (.lst us) ∧ RVs G.K m' H2 acc us ∧
      compD t (own.map Prod.snd) (wpC c) elt.wp ok' en (fun ds st2 => newL m_ ds st2 (PostD G mu H Q)) (items.drop (j + 1)) acc st', fun H2 ⟨q1, q2⟩ => ⟨items.length - (j + 1), by omega, rfl, q1, q2⟩, fun x H2 hy => ?_⟩
    obtain ⟨s2, r2, q2⟩ := yl x H2 hy
    have R2 := R'.step s2 r2
    have hA2 : H2 A = some (.lst us) := s2.keep A _ hAA (.inl nAl)
    split at hD
    · rename_i en1 he
      refine gOf_ok t x (L2.wipe σ (own.map Prod.snd)) H2 _ m' _ en1 st' items[j] (R2.wipe _) q2 he fun σ3 R3 k3 => ⟨wipe_same (by rw [← R3.len, putT_len t _ _ _ he, wipeD_len, R2.len]) (fun i hi => ?_) k3, ?_⟩
      · have := List.all_eq_true.mp h2 i hi
        simpa using this
      · refine tt1 (wpC_mono c) R3 ((wpC_mono c) _ _ _ _ _ _ hD (fun _ _ h => h) fun _ _ h => h.elim) fun b st4 m4 H4 hb s4 r4 => ?_
        have hA4 : H4 A = some (.lst us) := s4.keep A _ hA2 (.inl nAl)
        cases b with
        | true =>
          rw [if_pos rfl]
          refine tw1 elt.mono (R3.step s4 r4) (elt.mono _ _ _ _ _ _ hb (fun _ _ h => h) fun _ _ h => h.elim) fun y st5 m5 v5 H5 hy5 s5 r5 q5 => ?_
          have nA4 : A ∉ m4.l := (r4.av A (s4.av A hAm)).2
          have hA5 : H5 A = some (.lst us) := s5.keep A _ hA4 (.inl nA4)
          have hAm5 : A ∈ m5.av := s5.av A (s4.av A hAm)
          have s25 := (s2.trans s4).trans s5
          have r6 : RVs G.K m5 (upd H5 A (.lst (us ++ [v5]))) (acc ++ [y]) (us ++ [v5]) := ((racc.step s25).app (show RVs G.K m5 H5 [y] [v5] from ⟨v5, [], rfl, q5, rfl⟩)).chg hAm5 hA5
          have len5 : acc.length = us.length := racc.len
          refine ⟨us, hA5, by rw [← len5]; exact hy5.1, hlt, m5, st5, acc ++ [y], us ++ [v5], ⟨hAm5, fun a ha => s25.av a (hav.2 a ha)⟩, ?_, ⟨r5.chg hAm5 hA5, fun i d e => ?_, R'.len⟩, upd_same, r6, hy5.2⟩
          · have s15 := s'.trans s25
            refine ⟨s15.av, s15.nav, s15.pre, fun a o e n => ?_, fun a e => ?_⟩
            · rw [upd_ne (fun z => by rw [z, hA] at e; cases e)]; exact s15.keep a o e n
            · by_cases z : a = A
              · rw [z, upd_same]; simp
              · rw [upd_ne z]; exact s15.live a e
          · obtain ⟨w, e1, e2⟩ := (R'.step s25 r5).env i d e
            exact ⟨w, e1, e2.chg hAm5 hA5⟩
        | false =>
          rw [if_neg (by simp)]
          have s24 := s2.trans s4
          exact ⟨hlt, m4, st4, acc, us, ⟨s4.av A hAm, fun a ha => s24.av a (hav.2 a ha)⟩, s'.trans s24, R'.step s24 r4, hA4, racc.step s24, hb⟩
    · exact hD.elim
  · have e : j = items.length := by omega
    subst e
    rw [List.drop_length, compD] at hD
    refine .inl ⟨(hJ m' st' H' s' R'.sto hD.1 _).2 rfl, ?_⟩
    have nA0 : ¬ (⟨m'.l, mu1.av⟩ : Mu).has A := fun z => z.elim nAl fun z => nA (.inr z)
    have hQ := hD.2
    cases m_ with
    | false => exact hQ ⟨m'.l, mu1.av⟩ (.ref A) H' (s1.trans s0) RS0 ⟨A, us, rfl, hAA, nA0, uns racc⟩
    | true =>
      obtain ⟨ext, ep, fr⟩ := s'.pre
      have subp : ∀ a, ((⟨m'.l, mu1.av⟩ : Mu).push A).has a → m'.has a := fun a ha => by
        rcases ha with ha | ha
        · rcases List.mem_append.mp ha with z | z
          · exact .inl z
          · have : a = A := by simpa using z
            rw [this]; exact .inr hAm
        · exact .inr (hav.2 a ha)
      have idx : ∀ i, i < m'.l.length → ((⟨m'.l, mu1.av⟩ : Mu).push A).l[i]? = m'.l[i]? := fun i hi => List.getElem?_append_left hi
      refine hQ ((⟨m'.l, mu1.av⟩ : Mu).push A) (.ref A) H' (s1.trans ⟨fun _ h => h, fun _ h => .inl h, ⟨ext ++ [A], by show m'.l ++ [A] = _; rw [show m'.l = mu1.l ++ ext from ep, List.append_assoc], fun a ha => ?_⟩, s'.keep, s'.live⟩) ⟨?_, ?_, fun n o a h1 h2 => ?_, fun a ha => ⟨(R'.sto.av a (hav.2 a ha)).1, fun z => ?_⟩⟩ ⟨A, rfl, by show (m'.l ++ [A])[st'.length]? = _; rw [← R'.sto.len]; simp⟩
      · rcases List.mem_append.mp ha with z | z
        · exact fr a z
        · have : a = A := by simpa using z
          rw [this]; exact hA
      · show (m'.l ++ [A]).Nodup
        rw [List.nodup_append]
        exact ⟨R'.sto.nd, by simp, fun x hx y hy => by
          have : y = A := by simpa using hy
          subst this
          exact fun z => nAl (z ▸ hx)⟩
      · show (m'.l ++ [A]).length = _
        rw [List.length_append, List.length_append, R'.sto.len]; rfl
      · have h2 : (m'.l ++ [A])[n]? = some a := h2
        by_cases hn : n < m'.l.length
        · rw [List.getElem?_append_left hn] at h2
          rw [List.getElem?_append_left (by rw [← R'.sto.len]; exact hn)] at h1
          have r := R'.sto.obj n o a h1 h2
          cases o with
          | lst ds => obtain ⟨vs, h3, h4⟩ := r; exact ⟨vs, h3, h4.sub (n := m'.l.length) subp idx h4.nr⟩
          | dic _ _ => obtain ⟨rows, ws, h3, h4, h5, h6, h7, h8⟩ := r; exact ⟨rows, ws, h3, h4, h5.sub (n := m'.l.length) subp idx h5.nr, h6, h7.sub (n := m'.l.length) subp idx h7.nr, h8⟩
        · have hnl : n = m'.l.length := by
            have := (List.getElem?_eq_some_iff.mp h2).1
            rw [List.length_append] at this
            simp at this
            omega
          subst hnl
          rw [List.getElem?_append_right (Nat.le_refl _)] at h2
          rw [R'.sto.len, List.getElem?_append_right (Nat.le_refl _)] at h1
          simp at h1 h2
          subst h1 h2
          exact ⟨us, hAA, racc.sub (n := m'.l.length) subp idx racc.nr⟩
      · rcases List.mem_append.mp z with z | z
        · exact (R'.sto.av a (hav.2 a ha)).2 z
        · have : a = A := by simpa using z
          rw [this] at ha
          exact nA (.inr ha)
/-- [elt for t in i if c]; own: the block's own names and their slots; m: whether the list will be changed -/
def eComp (m_ : Bool) (t : Tg) (own : List (Str × Nat)) (i : SemI) (c : Option SemT) (elt : SemE) : SemE where
  chk N sc e := match e with
    | .ListComp el [⟨tg, iter, ifs, 0⟩] scope _ => blkC N sc scope own && slIn t (own.map Prod.snd) && notSet iter && (!i.tup || tgTup t) && i.chk N sc iter && chkT (locB scope) t N tg && chkC c N (rlS sc scope) ifs && elt.chk N (rlS sc scope) el
    | _ => false
  req G k := i.req G k ∧ reqC c G k ∧ elt.req G k
  wp en st Q E := i.wp en st (fun items ok st1 => compD t (own.map Prod.snd) (wpC c) elt.wp ok en (fun ds st2 => newL m_ ds st2 Q) items [] st1) E
  mono en st Q Q' E E' h f g := i.mono _ _ _ _ _ _ h (fun d o s hd => compD_mono (wpC_mono c) elt.mono (Q := fun ds st2 => newL m_ ds st2 Q) (fun ds s hs => newL_mono hs f) _ _ _ hd) g
  sound := by
    intro G k X W e gd tk rq hc
    split at hc
    · rename_i el tg iter ifs scope pos
      simp only [Bool.and_eq_true] at hc
      obtain ⟨⟨⟨⟨⟨⟨⟨h1, h2⟩, h3⟩, h4⟩, h5⟩, h6⟩, h7⟩, h8⟩ := hc
      have ok := blkOk_by h1
      have pi := i.sound G k X W tg iter gd tk rq.1 (fun q => isTup_of h6 (by rw [q] at h4; simpa using h4)) h5
      have hg : ∀ (s : Shared) (H : Hp) (C : Addr) (cl : List (Str × Addr)) (fp : List Addr), PG (X.blk s H scope (compEnvC scope cl C X.env) fp) tg (gOf G.K t) := fun s H C cl fp =>
        pg_sound G k _ (blk_good gd ok s H C cl fp) (fun x hx => blk_store s H C cl fp x hx) t tg h6
      have ht : ∀ (s : Shared) (H : Hp) (C : Addr) (cl : List (Str × Addr)) (fp : List Addr), PTs (X.blk s H scope (compEnvC scope cl C X.env) fp) ifs (tWT G (wpC c) fun _ _ _ _ => False) := fun s H C cl fp =>
        pts_sound G k _ _ (blk_good gd ok s H C cl fp) takes0 c ifs rq.2.1 h7
      have he : ∀ (s : Shared) (H : Hp) (C : Addr) (cl : List (Str × Addr)) (fp : List Addr), PE (X.blk s H scope (compEnvC scope cl C X.env) fp) el (tW G elt.wp fun _ _ _ _ => False) := fun s H C cl fp =>
        elt.sound G k _ _ el (blk_good gd ok s H C cl fp) takes0 rq.2.2 h8
      have base := pe_lc (pos := pos) gd.calm gd.nd pi ok hg ht he (notSet_ok h3 _)
      exact ⟨fun pins s σ H Q I h => base.run pins s σ H Q I (comp_lc h2 h)⟩
    · cases hc
def locOnly1 (sc : Scope) (x : Str) : Bool := match sc.names.lookup x with | some .local => true | _ => false
theorem locOnly1_ok {sc : Scope} {x : Str} (h : locOnly1 sc x = true) : sc.names.lookup x = some .local := by
  unfold locOnly1 at h
  split at h
  · assumption
  · cases h
/-- x = [elt for t in i if c], x a local, all on one line -/
def sSetLc (l : Nat) (m_ : Bool) (t : Tg) (own : List (Str × Nat)) (i : SemI) (c : Option SemT) (elt : SemE) : SemS where
  chk N sc st := match st with
    | .Assign [.Name x px] (.ListComp el [⟨tg, iter, ifs, 0⟩] scope lpos) pos => isNm N l x && locOnly1 sc x && pureIs (fun b => b) (swapsWith (.ListComp el [⟨tg, iter, ifs, 0⟩] scope lpos) (some (.Name x px)) pos.line (envS sc)) &&
        (eComp m_ t own i c elt).chk N sc (.ListComp el [⟨tg, iter, ifs, 0⟩] scope lpos)
    | _ => false
  req := (eComp m_ t own i c elt).req
  lp := false
  wp Dn en st := (eComp m_ t own i c elt).wp en st (fun d st1 => Dn.nx (en.set l (some d)) st1) (fun x st' => Dn.ex x en st')
  mono A B en st le h := (eComp m_ t own i c elt).mono _ _ _ _ _ _ h (fun d s hd => le.nx _ _ hd) fun x s hx => le.ex x en s hx
  sound := by
    intro G k X W st gd hfn tk hl rq hc
    split at hc
    · rename_i x px el tg iter ifs scope lpos pos
      simp only [Bool.and_eq_true] at hc
      obtain ⟨⟨⟨a1, a2⟩, a3⟩, hc⟩ := hc
      obtain ⟨b, e3, e4⟩ := pureIs_ok a3
      subst e4
      have hc : (blkC X.N X.env.scope scope own && slIn t (own.map Prod.snd) && notSet iter && (!i.tup || tgTup t) && i.chk X.N X.env.scope iter && chkT (locB scope) t X.N tg && chkC c X.N (rlS X.env.scope scope) ifs && elt.chk X.N (rlS X.env.scope scope) el) = true := hc
      simp only [Bool.and_eq_true] at hc
      obtain ⟨⟨⟨⟨⟨⟨⟨h1, h2⟩, h3⟩, h4⟩, h5⟩, h6⟩, h7⟩, h8⟩ := hc
      have ok := blkOk_by h1
      have pi := i.sound G k X W tg iter gd tk rq.1 (fun q => isTup_of h6 (by rw [q] at h4; simpa using h4)) h5
      have hg : ∀ (s : Shared) (H : Hp) (C : Addr) (cl : List (Str × Addr)) (fp : List Addr), PG (X.blk s H scope (compEnvC scope cl C X.env) fp) tg (gOf G.K t) := fun s H C cl fp =>
        pg_sound G k _ (blk_good gd ok s H C cl fp) (fun x hx => blk_store s H C cl fp x hx) t tg h6
      have ht : ∀ (s : Shared) (H : Hp) (C : Addr) (cl : List (Str × Addr)) (fp : List Addr), PTs (X.blk s H scope (compEnvC scope cl C X.env) fp) ifs (tWT G (wpC c) fun _ _ _ _ => False) := fun s H C cl fp =>
        pts_sound G k _ _ (blk_good gd ok s H C cl fp) takes0 c ifs rq.2.1 h7
      have he : ∀ (s : Shared) (H : Hp) (C : Addr) (cl : List (Str × Addr)) (fp : List Addr), PE (X.blk s H scope (compEnvC scope cl C X.env) fp) el (tW G elt.wp fun _ _ _ _ => False) := fun s H C cl fp =>
        elt.sound G k _ _ el (blk_good gd ok s H C cl fp) takes0 rq.2.2 h8
      have base := ps_setLc (pos := lpos) (spos := pos) (py := px) gd.calm gd.nd (isNm_ok a1) (locOnly1_ok a2) ((swaps_scope _ _ _ _).trans e3) pi ok hg ht he (notSet_ok h3 _)
      refine ⟨fun pins s σ H Dn I h => base.run pins s σ H Dn I ?_⟩
      refine comp_lc (m_ := m_) h2 ?_
      obtain ⟨mu, en, st, R, h⟩ := h
      exact se1 (eComp m_ t own i c elt).mono R h fun d st1 mu1 v H1 hF s1 r1 q1 => hF mu1 _ H1 s1 ((R.step s1 r1).set q1)
    · cases hc
end Mi
namespace Mi
open PySem PySem.Spec PyProof.Rows L2

theorem seq_sq {K K' : PySem.W.Frag} (hK : K' = K) {mu : Mu} {H : Hp} {st : Sto} (R : RelS K wd mu H st) {d : D} {v : V} {ds : List D} (h : seqOf st d = some ds) (r : RV K mu H d v) :
    ∃ a vs, v = .ref a ∧ (SqL K' H a vs ∨ SqT K' H a vs) ∧ RVs K mu H ds vs := by
  subst hK
  obtain ⟨a, vs, e, h1, h2⟩ := seq_at R h r
  rcases h1 with ⟨_, h1⟩ | ⟨_, h1⟩
  · exact ⟨a, vs, e, .inr h1, h2⟩
  · exact ⟨a, vs, e, .inl (.of h1), h2⟩
theorem RVs.one {K : PySem.W.Frag} {mu : Mu} {H : Hp} {d : D} {vs : List V} (r : RVs K mu H [d] vs) : ∃ v, vs = [v] ∧ RV K mu H d v := by
  obtain ⟨v, u, e, h, t⟩ := r
  cases (show u = [] from t)
  exact ⟨v, e, h⟩
theorem RVs.two {K : PySem.W.Frag} {mu : Mu} {H : Hp} {d e : D} {vs : List V} (r : RVs K mu H [d, e] vs) : ∃ v w, vs = [v, w] ∧ RV K mu H d v ∧ RV K mu H e w := by
  obtain ⟨v, u, e, h, t⟩ := r
  obtain ⟨w, e2, h2⟩ := t.one
  exact ⟨v, w, by rw [e, e2], h, h2⟩
/-! ### len, int, list, tuple, all, any -/
def lenD (st : Sto) (d : D) : Option Int := match d with
  | .str z => if z.length ≤ sizeLine then some z.length else none
  | d => (seqOf st d).map fun ds => (ds.length : Int)
def bLen : BIn where
  name := "len"
  val := .builtin "len"
  wp ds st Q := match ds with
    | [d] => (match lenD st d with | some n => Q (.int n) st | none => False)
    | _ => False
  mono ds st Q Q' h f := by
    split at h
    · split at h
      · exact f _ _ h
      · exact h.elim
    · exact h.elim
  sound := by
    intro G k X gd pins s σ H xs us Q I r h
    obtain ⟨mu, st, ds, R, rv, h⟩ := h
    split at h
    · rename_i d
      obtain ⟨v, rfl, r1⟩ := rv.one
      split at h
      · rename_i n hn
        unfold lenD at hn
        split at hn
        · rename_i z
          split at hn
          · rename_i hz
            cases hn
            cases (show v = V.str _ from r1)
            exact call_len pins s σ H _ us Q I r ⟨.str z, _, rfl, ⟨hz, rfl⟩, h mu _ H (Step.refl _ _) R rfl⟩
          · cases hn
        · cases e : seqOf st d with
          | none => rw [e] at hn; cases hn
          | some ds =>
            rw [e] at hn
            cases hn
            obtain ⟨a, vs, rfl, h1, h2⟩ := seq_sq gd.K R e r1
            refine call_len_seq pins s σ H _ us Q I r ⟨a, vs, rfl, h1, ?_⟩
            rw [← h2.len]
            exact h mu _ H (Step.refl _ _) R rfl
      · exact h.elim
    · exact h.elim
  boot := by decide +kernel
  kind := .inl ⟨_, rfl⟩
  nm := by decide +kernel
def bInt : BIn where
  name := "int"
  val := .type "int"
  wp ds st Q := match ds with
    | [.int i] => Q (.int i) st
    | _ => False
  mono ds st Q Q' h f := by
    split at h
    · exact f _ _ h
    · exact h.elim
  sound := by
    intro G k X gd pins s σ H xs us Q I r h
    obtain ⟨mu, st, ds, R, rv, h⟩ := h
    split at h
    · obtain ⟨v, rfl, r1⟩ := rv.one
      cases (show v = V.int _ from r1)
      exact call_int1 pins s σ H _ us Q I r (.inl ⟨_, rfl, h mu _ H (Step.refl _ _) R rfl⟩)
    · exact h.elim
  boot := by decide +kernel
  kind := .inr ⟨_, rfl⟩
  nm := by decide +kernel
def bList (m : Bool) : BIn where
  name := "list"
  val := .type "list"
  wp ds st Q := match ds with
    | [d] => (match seqOf st d with | some xs => newL m xs st Q | none => False)
    | _ => False
  mono ds st Q Q' h f := by
    split at h
    · split at h
      · exact newL_mono h f
      · exact h.elim
    · exact h.elim
  sound := by
    intro G k X gd pins s σ H xs us Q I r h
    obtain ⟨mu, st, ds, R, rv, h⟩ := h
    split at h
    · obtain ⟨v, rfl, r1⟩ := rv.one
      split at h
      · rename_i ys e
        obtain ⟨a, vs, rfl, h1, h2⟩ := seq_sq gd.K R e r1
        exact call_list_of pins s σ H _ us Q I r ⟨a, vs, rfl, h1, fun p hp => new_list m (Step.refl _ _) R h2 h hp⟩
      · exact h.elim
    · exact h.elim
  boot := by decide +kernel
  kind := .inr ⟨_, rfl⟩
  nm := by decide +kernel
def bTuple : BIn where
  name := "tuple"
  val := .type "tuple"
  wp ds st Q := match ds with
    | [d] => (match seqOf st d with | some xs => Q (.tup xs) st | none => False)
    | _ => False
  mono ds st Q Q' h f := by
    split at h
    · split at h
      · exact f _ _ h
      · exact h.elim
    · exact h.elim
  sound := by
    intro G k X gd pins s σ H xs us Q I r h
    obtain ⟨mu, st, ds, R, rv, h⟩ := h
    split at h
    · rename_i d
      obtain ⟨v, rfl, r1⟩ := rv.one
      split at h
      · rename_i ys e
        obtain ⟨a, vs, rfl, h1, h2⟩ := seq_at R e r1
        rcases h1 with ⟨⟨es, rfl⟩, h1⟩ | ⟨_, h1⟩
        · cases e
          exact call_tuple_of pins s σ H _ us Q I r ⟨a, vs, rfl, .inr ⟨gd.K' (P := fun K => SqT K H a vs) h1, h mu _ H (Step.refl _ _) R ⟨a, vs, rfl, h1, h2⟩⟩⟩
        · exact call_tuple_of pins s σ H _ us Q I r ⟨a, vs, rfl, .inl ⟨.of h1, fun p hp => new_tup (Step.refl _ _) R h2 h hp⟩⟩
      · exact h.elim
    · exact h.elim
  boot := by decide +kernel
  kind := .inr ⟨_, rfl⟩
  nm := by decide +kernel
/-- a row of bools -/
def blsOf : List D → Option (List Bool)
  | [] => some []
  | .bl b :: r => (blsOf r).map fun bs => b :: bs
  | _ :: _ => none
theorem blsOf_rel {K : PySem.W.Frag} {mu : Mu} {H : Hp} : ∀ {ds : List D} {vs : List V} {bs : List Bool}, RVs K mu H ds vs → blsOf ds = some bs → vs = bs.map V.bl
  | [], vs, bs, r, h => by
    cases (show some [] = some bs from h)
    exact r
  | d :: ds, vs, bs, ⟨v, u, e, r1, r2⟩, h => by
    cases d with
    | bl b =>
      rw [blsOf] at h
      cases e1 : blsOf ds with
      | none => rw [e1] at h; cases h
      | some bs1 =>
        rw [e1] at h
        cases h
        rw [e, show v = V.bl b from r1, blsOf_rel r2 e1]
        rfl
    | _ => simp [blsOf] at h
def bAll : BIn where
  name := "all"
  val := .builtin "all"
  wp ds st Q := match ds with
    | [d] => (match (lstOf st d).bind blsOf with | some bs => Q (.bl (bs.all id)) st | none => False)
    | _ => False
  mono ds st Q Q' h f := by
    split at h
    · split at h
      · exact f _ _ h
      · exact h.elim
    · exact h.elim
  sound := by
    intro G k X gd pins s σ H xs us Q I r h
    obtain ⟨mu, st, ds, R, rv, h⟩ := h
    split at h
    · rename_i d
      obtain ⟨v, rfl, r1⟩ := rv.one
      split at h
      · rename_i bs e
        cases e1 : lstOf st d with
        | none => rw [e1] at e; cases e
        | some ds =>
          rw [e1] at e
          obtain ⟨a, vs, rfl, h1, h2⟩ := lst_at R e1 r1
          have h3 := blsOf_rel h2 e
          subst h3
          exact cr_all gd.calm pins s σ H _ us Q I r ⟨a, bs, rfl, .of h1, h mu _ H (Step.refl _ _) R rfl⟩
      · exact h.elim
    · exact h.elim
  boot := by decide +kernel
  kind := .inl ⟨_, rfl⟩
  nm := by decide +kernel
def bAny : BIn where
  name := "any"
  val := .builtin "any"
  wp ds st Q := match ds with
    | [d] => (match (lstOf st d).bind blsOf with | some bs => Q (.bl (bs.any id)) st | none => False)
    | _ => False
  mono ds st Q Q' h f := by
    split at h
    · split at h
      · exact f _ _ h
      · exact h.elim
    · exact h.elim
  sound := by
    intro G k X gd pins s σ H xs us Q I r h
    obtain ⟨mu, st, ds, R, rv, h⟩ := h
    split at h
    · rename_i d
      obtain ⟨v, rfl, r1⟩ := rv.one
      split at h
      · rename_i bs e
        cases e1 : lstOf st d with
        | none => rw [e1] at e; cases e
        | some ds =>
          rw [e1] at e
          obtain ⟨a, vs, rfl, h1, h2⟩ := lst_at R e1 r1
          have h3 := blsOf_rel h2 e
          subst h3
          exact cr_any gd.calm pins s σ H _ us Q I r ⟨a, bs, rfl, .of h1, h mu _ H (Step.refl _ _) R rfl⟩
      · exact h.elim
    · exact h.elim
  boot := by decide +kernel
  kind := .inl ⟨_, rfl⟩
  nm := by decide +kernel
/-! ### isinstance of a built-in class -/
def tyD (st : Sto) : D → Option String
  | .non => some "NoneType"
  | .bl _ => some "bool"
  | .int _ => some "int"
  | .str _ => some "str"
  | .tup _ => some "tuple"
  | .lst _ => some "list"
  | .rol _ => none
  | .dic _ _ => none
  | .ref n => match st[n]? with | some (.lst _) => some "list" | _ => none
def isTy (t T : String) : Bool := t == T || (t == "bool" && T == "int")
def tysKnown : List String := ["int", "bool", "str", "tuple"]
theorem isTy_ok {t T : String} (ht : t ∈ ["NoneType", "bool", "int", "str", "tuple", "list"]) (hT : T ∈ tysKnown) : kitB t T = some (isTy t T) := by
  have h : (["NoneType", "bool", "int", "str", "tuple", "list"].all fun t => tysKnown.all fun T => decide (kitB t T = some (isTy t T))) = true := by decide +kernel
  have h1 := List.all_eq_true.mp h t ht
  exact of_decide_eq_true (List.all_eq_true.mp h1 T hT)
theorem tyD_ok {K : PySem.W.Frag} {mu : Mu} {H : Hp} {st : Sto} (R : RelS K wd mu H st) {d : D} {v : V} (r : RV K mu H d v) {t : String} (h : tyD st d = some t) : TyX K H v (.type t) ∧ t ∈ ["NoneType", "bool", "int", "str", "tuple", "list"] := by
  cases d with
  | non => cases h; cases (show v = _ from r); exact ⟨.base .non, by simp⟩
  | bl b => cases h; cases (show v = _ from r); exact ⟨.base (.bl b), by simp⟩
  | int b => cases h; cases (show v = _ from r); exact ⟨.base (.int b), by simp⟩
  | str b => cases h; cases (show v = _ from r); exact ⟨.base (.str b), by simp⟩
  | tup ds =>
    cases h
    obtain ⟨a, vs, rfl, h1, _⟩ := r
    refine ⟨?_, by simp⟩
    rcases h1 with (h1 | ⟨o, h1⟩) | ⟨o, its, n, h1, h2, _⟩
    · exact .base (.tup h1)
    · exact .fTuple h1
    · exact .kTuple h1 h2
  | lst ds =>
    cases h
    obtain ⟨a, vs, rfl, h1, _⟩ := r
    exact ⟨.base (.lst h1), by simp⟩
  | rol ds => cases h
  | dic ks vs => cases h
  | ref n =>
    obtain ⟨a, rfl, h1⟩ := r
    simp only [tyD] at h
    split at h
    · rename_i hs
      cases h
      obtain ⟨vs, h2, _⟩ := R.get hs h1
      exact ⟨.base (.lst h2), by simp⟩
    · cases h
def eIsi (a : SemE) (T : String) (tn : Str) (hb : bootBuiltins tn = some (.type T)) (hn : plainNm tn = true) (hT : T ∈ tysKnown) : SemE where
  chk N sc e := match e with | .Call (.Name x _) [e, .Name t _] [] _ => decide (x = ("isinstance" : Str)) && glB sc x && decide (t = tn) && glB sc t && notStar e && a.chk N sc e | _ => false
  req G k := (G.mg "isinstance" = none ∧ G.mg tn = none) ∧ a.req G k
  wp en st Q E := a.wp en st (fun d st1 => match tyD st1 d with | some t => Q (.bl (isTy t T)) st1 | none => False) E
  mono en st Q Q' E E' h f g := a.mono _ _ _ _ _ _ h (fun d s hd => by
    split at hd
    · exact f _ _ hd
    · exact hd.elim) g
  sound := by
    intro G k X W e gd tk rq hc
    split at hc
    · rename_i x px e t pt pos
      simp only [Bool.and_eq_true, decide_eq_true_eq] at hc
      obtain ⟨⟨⟨⟨⟨rfl, hg⟩, rfl⟩, hg2⟩, hs⟩, ha⟩ := hc
      obtain ⟨p1, p2, p3⟩ := plainNm_ok hn
      have m1 : X.mg "isinstance" = none := by rw [gd.mg]; exact rq.1.1
      have m2 : X.mg t = none := by rw [gd.mg]; exact rq.1.2
      have pt := pe_bltn (pos := pt) (v := .ty T) (glB_ok hg2) m2 hb (show RelV (.ty T) (.type T) from rfl) p3 p1
      have pa := pa_cons (a.sound G k X W e gd tk rq.2 ha) (pa_cons pt pa_nil rfl) (star_plain hs _ _)
      have base := pe_callB (p := px) (pos := pos) call_isi (glB_ok hg) m1 boot_isinstance pa (by decide) (by decide) (star_plain hs _ _) rfl
      refine ⟨fun pins s σ H Q I h => base.run pins s σ H Q I ?_⟩
      obtain ⟨mu, en, st, R, h⟩ := h
      refine tw1 a.mono R h fun d st1 mu1 v H1 hF s1 r1 q1 => ?_
      split at hF
      · rename_i ty hty
        obtain ⟨h1, h2⟩ := tyD_ok r1 q1 hty
        exact ⟨v, .ty T, .type ty, .type T, _, rfl, .ty T, gd.K' (P := fun K => TyX K H1 v (.type ty)) h1, kit_ty (isTy_ok h2 hT), hF mu1 _ H1 s1 r1 rfl⟩
      · exact hF.elim
    · cases hc
def eIsInt (a : SemE) : SemE := eIsi a "int" "int" (by decide +kernel) (by decide +kernel) (by decide)
def eIsBool (a : SemE) : SemE := eIsi a "bool" "bool" (by decide +kernel) (by decide +kernel) (by decide)
def eIsStr (a : SemE) : SemE := eIsi a "str" "str" (by decide +kernel) (by decide +kernel) (by decide)
def eIsTup (a : SemE) : SemE := eIsi a "tuple" "tuple" (by decide +kernel) (by decide +kernel) (by decide)
end Mi
namespace Mi
open PySem PySem.Spec PyProof.Rows L2

/-! ### lists that change -/
theorem Step.setL {mu : Mu} {H : Hp} {a : Addr} {vs vs' : List V} (ha : a ∈ mu.l) (hA : H a = some (.lst vs)) : Step mu H mu (upd H a (.lst vs')) := by
  refine ⟨fun _ h => h, fun _ h => .inl h, ⟨[], by simp, by simp⟩, fun b o e c => ?_, fun b e => ?_⟩
  · have ne : b ≠ a := fun z => by
      subst z
      rcases c with c | c
      · exact c ha
      · rw [hA] at e; cases e; exact c
    rw [upd_ne ne]; exact e
  · by_cases z : b = a
    · rw [z, upd_same]; simp
    · rw [upd_ne z]; exact e
theorem RelS.setL {K : PySem.W.Frag} {mu : Mu} {H : Hp} {st : Sto} (R : RelS K wd mu H st) {n : Nat} {a : Addr} {vs vs' : List V} {ds' : List D} (hn : mu.l[n]? = some a) (hA : H a = some (.lst vs)) (r : RVs K mu H ds' vs') :
    RelS K wd mu (upd H a (.lst vs')) (st.set n (.lst ds')) := by
  have ha : a ∈ mu.l := List.mem_of_getElem? hn
  have s : Step mu H mu (upd H a (.lst vs')) := Step.setL ha hA
  refine ⟨R.nd, by rw [List.length_set]; exact R.len, fun m o b h1 h2 => ?_, fun b hb => ⟨s.live b (R.av b hb).1, (R.av b hb).2⟩⟩
  by_cases hm : n = m
  · subst hm
    have hl : n < st.length := by rw [← R.len]; exact (List.getElem?_eq_some_iff.mp hn).1
    rw [List.getElem?_set_self hl] at h1
    rw [hn] at h2
    cases h1
    cases h2
    exact ⟨vs', upd_same, r.step s⟩
  · rw [List.getElem?_set_ne hm] at h1
    have ne : b ≠ a := fun z => by
      subst z
      exact hm ((List.getElem?_inj (List.getElem?_eq_some_iff.mp hn).1 R.nd).mp (hn.trans h2.symm))
    exact (R.obj m o b h1 h2).step s (by rw [upd_ne ne])
/-- the object behind a reference that is a list -/
def refL (st : Sto) (d : D) : Option (Nat × List D) := match d with
  | .ref n => (match st[n]? with | some (.lst ds) => some (n, ds) | _ => none)
  | _ => none
theorem refL_ok {st : Sto} {d : D} {n : Nat} {ds : List D} (h : refL st d = some (n, ds)) : d = .ref n ∧ st[n]? = some (.lst ds) := by
  unfold refL at h
  split at h
  · split at h
    · cases h; exact ⟨rfl, by assumption⟩
    · cases h
  · cases h
/-- a method of a list that changes it: what it is given, the list -> the new list, the answer -/
structure MtL where
  name : Str
  id : String
  f : List D → List D → Sto → Option (List D × D)
  slot : Slot "list" name id
  ty : typeOf (.builtin id) = pure (.type "method_descriptor")
  sound : ∀ (G : GEnv) (k : Nat) (X : Cx), Good G k X → ∀ (mu : Mu) (H : Hp) (st : Sto) (a : Addr) (xs : List D) (vs : List V) (ds : List D) (us : List V) (ys : List D) (z : D), RelS G.K G.w mu H st → H a = some (.lst vs) → RVs G.K mu H xs vs → RVs G.K mu H ds us → f xs ds st = some (ys, z) →
    ∃ (vs' : List V) (w : V), RVs G.K mu H ys vs' ∧ (∀ H', Step mu H mu H' → RV G.K mu H' z w) ∧
      ∀ (pins : List (Addr × Obj)) (s : Shared) (σ : L2.St) (xs' : List Value) (Q : VK), Inv X pins σ H s → Vals us xs' → Q w (upd H a (.lst vs')) → wpAny (model X.prog X.w) X.A (call (.builtin id) (.ref a :: xs')) (EP X pins σ Q) X.xe s
theorem RVs.set {K : PySem.W.Frag} {mu : Mu} {H : Hp} {d : D} {v : V} (r : RV K mu H d v) : ∀ {ds : List D} {vs : List V} (i : Nat), RVs K mu H ds vs → RVs K mu H (ds.set i d) (vs.set i v)
  | [], _, _, h => by rw [show _ = [] from h]; rfl
  | _ :: _, _, 0, ⟨w, u, e, h, t⟩ => by rw [e]; exact ⟨v, u, rfl, r, t⟩
  | _ :: _, _, i + 1, ⟨w, u, e, h, t⟩ => by rw [e]; exact ⟨w, _, rfl, h, RVs.set r i t⟩
/-- the receiver is a plain expression: nothing is imported under its name -/
def plainRecv : Expr → Bool
  | .Name .. => true
  | .Subscript .. => true
  | .Attribute .. => true
  | .List .. => true
  | .Constant .. => true
  | _ => false
theorem plainRecv_ok {o : Expr} (h : plainRecv o = true) (attr : Str) (env : PySem.Env) (whole : Sem Value) : attributeBase o attr env whole = whole := by
  cases o <;> first | rfl | (simp [plainRecv] at h)
def rMt (G : GEnv) (m : MtL) : V → List V → Hp → VK → Prop := fun xv vs H Q => ∃ mu st n xs ds ys z, RelS G.K G.w mu H st ∧ RV G.K mu H (.ref n) xv ∧ st[n]? = some (.lst xs) ∧ RVs G.K mu H ds vs ∧ m.f xs ds st = some (ys, z) ∧ PostD G mu H Q z (st.set n (.lst ys))
theorem mt_sound {G : GEnv} {k : Nat} {X : Cx} (gd : Good G k X) (m : MtL) : MtR X m.id (rMt G m) := by
  intro pins s σ H x vs v us Q I rx rv h
  obtain ⟨mu, st, n, xs, ds, ys, z, R, ⟨a, rfl, hn⟩, hs, r, hf, hQ⟩ := h
  cases (show v = Value.ref a from rx)
  obtain ⟨ws, hA, rw'⟩ := R.get hs hn
  obtain ⟨vs', w, r1, r2, run⟩ := m.sound G k X gd mu H st a xs ws ds vs ys z R hA rw' r hf
  refine run pins s σ us Q I rv ?_
  have sL : Step mu H mu (upd H a (.lst vs')) := Step.setL (List.mem_of_getElem? hn) hA
  exact hQ mu w _ sL (R.setL hn hA r1) (r2 _ sL)
/-- o.m(e) -/
def eMeth1 (m : MtL) (a b : SemE) : SemE where
  chk N sc e := match e with | .Call (.Attribute o nm apos) [x] [] cpos => decide (nm = m.name) && plainRecv o && (apos.endLine == cpos.line) && a.chk N sc o && chkA [b] N sc [x] | _ => false
  req G k := a.req G k ∧ reqL [b] G k
  wp en st Q E := a.wp en st (fun o st1 => (refL st1 o).isSome = true ∧ b.wp en st1 (fun y st2 => match refL st2 o with
    | some (n, xs) => (match m.f xs [y] st2 with | some (ys, z) => Q z (st2.set n (.lst ys)) | none => False)
    | none => False) E) E
  mono en st Q Q' E E' h f g := a.mono _ _ _ _ _ _ h (fun o s ho => ⟨ho.1, b.mono _ _ _ _ _ _ ho.2 (fun y s2 hy => by
    split at hy
    · split at hy
      · exact f _ _ hy
      · exact hy.elim
    · exact hy.elim) g⟩) g
  sound := by
    intro G k X W e gd tk rq hc
    split at hc
    · rename_i o nm apos x cpos
      simp only [Bool.and_eq_true, decide_eq_true_eq] at hc
      obtain ⟨⟨⟨⟨rfl, h1⟩, h2⟩, h3⟩, h4⟩ := hc
      have hs := chkA_star h4 X.env
      have base := pe_bm PySem.F.plainAttrs_list m.slot m.ty (mt_sound gd m) (a.sound G k X W o gd tk rq.1 h3) (pa_sound G k X W gd tk [b] [x] rq.2 h4) (plainRecv_ok h1 _ _ _) (by rw [hs]; rfl) h2 hs rfl
      refine ⟨fun pins s σ H Q I h => base.run pins s σ H Q I ?_⟩
      obtain ⟨mu, en, st, R, h⟩ := h
      refine tw1 a.mono R h fun d st1 mu1 v H1 hF s1 r1 q1 => ?_
      obtain ⟨hi, hF⟩ := hF
      cases e1 : refL st1 d with
      | none => rw [e1] at hi; cases hi
      | some p =>
        obtain ⟨n, xs⟩ := p
        obtain ⟨rfl, hx⟩ := refL_ok e1
        have q1' := q1
        obtain ⟨a0, rfl, hn⟩ := q1'
        obtain ⟨ws, hA, _⟩ := r1.get hx hn
        refine ⟨.inl ⟨rfl, ws, .of hA⟩, twa (l := [b]) (F := fun ds st2 => match refL st2 (.ref n) with
          | some (n, xs) => (match m.f xs ds st2 with | some (ys, z) => PostD G mu H Q z (st2.set n (.lst ys)) | none => False)
          | none => False) (R.step s1 r1) (b.mono _ _ _ _ _ _ hF (fun _ _ h => h) fun _ _ hx => PostX.step s1 hx) fun ds st2 mu2 vs H2 hF2 s2 r2 q2 => ?_⟩
        split at hF2
        · rename_i n2 xs2 e2
          obtain ⟨e3, hx2⟩ := refL_ok e2
          cases e3
          split at hF2
          · rename_i ys z hf
            exact ⟨mu2, st2, n, xs2, ds, ys, z, r2, (q1.step s2), hx2, q2, hf, PostD.step (s1.trans s2) hF2⟩
          · exact hF2.elim
        · exact hF2.elim
    · cases hc
def mAppend : MtL where
  name := "append"
  id := "list.append"
  f xs ds _ := match ds with
    | [y] => if xs.length < sizeLine then some (xs ++ [y], .non) else none
    | _ => none
  slot := PySem.F.slot_list_append
  ty := PySem.F.type_list_append
  sound := by
    intro G k X gd mu H st a xs vs ds us ys z R hA r1 r2 hf
    split at hf
    · rename_i y
      split at hf
      · rename_i hl
        cases hf
        obtain ⟨v, rfl, rv⟩ := r2.one
        refine ⟨vs ++ [v], .non, r1.app r2, fun _ _ => rfl, fun pins s σ xs' Q I rx hq => ?_⟩
        exact mt_append pins s σ H (.ref a) [v] (.ref a) xs' Q I rfl rx ⟨a, vs, v, rfl, rfl, hA, by rw [← r1.len]; exact hl, hq⟩
      · cases hf
    · cases hf
def mExtend : MtL where
  name := "extend"
  id := "list.extend"
  f xs ds st := match ds with
    | [y] => (match lstOf st y with | some zs => if xs.length + zs.length ≤ sizeLine then some (xs ++ zs, .non) else none | none => none)
    | _ => none
  slot := PySem.F.slot_list_extend
  ty := PySem.F.type_list_extend
  sound := by
    intro G k X gd mu H st a xs vs ds us ys z R hA r1 r2 hf
    split at hf
    · rename_i y
      split at hf
      · rename_i zs hz
        split at hf
        · rename_i hl
          cases hf
          obtain ⟨v, rfl, rv⟩ := r2.one
          obtain ⟨b, ws, rfl, hB, rw'⟩ := lst_at R hz rv
          refine ⟨vs ++ ws, .non, r1.app rw', fun _ _ => rfl, fun pins s σ xs' Q I rx hq => ?_⟩
          exact mt_extend pins s σ H (.ref a) [.ref b] (.ref a) xs' Q I rfl rx ⟨a, b, vs, ws, rfl, rfl, hA, hB, by rw [← r1.len, ← rw'.len]; exact hl, hq⟩
        · cases hf
      · cases hf
    · cases hf
/-! ### x[i] = e -/
theorem sub_assign (o i : Expr) (pos : Pos) (env : PySem.Env) : True := trivial
def sSetIx (o i e : SemE) : SemS where
  chk N sc st := match st with | .Assign [.Subscript x y p] v pos => o.chk N sc x && plainIxB y && i.chk N sc y && e.chk N sc v && pureIs (fun b => !b) (swapsWithSole [.Subscript x y p] v pos.line (envS sc)) && pureIs (fun o => o.isNone) (swappedStores [.Subscript x y p] v (envS sc)) | _ => false
  req G k := e.req G k ∧ o.req G k ∧ i.req G k
  lp := false
  wp Dn en st := e.wp en st (fun d st1 => o.wp en st1 (fun r st2 => i.wp en st2 (fun j st3 => match refL st3 r, j with
    | some (n, xs), .int j => (match ixN xs.length j with | some p => Dn.nx en (st3.set n (.lst (xs.set p d))) | none => False)
    | _, _ => False) (fun x st' => Dn.ex x en st')) (fun x st' => Dn.ex x en st')) (fun x st' => Dn.ex x en st')
  mono A B en st le h := e.mono _ _ _ _ _ _ h (fun d s hd => o.mono _ _ _ _ _ _ hd (fun r s hr => i.mono _ _ _ _ _ _ hr (fun j s hj => by
    split at hj
    · split at hj
      · exact le.nx _ _ hj
      · exact hj.elim
    · exact hj.elim) fun x s hx => le.ex x en s hx) fun x s hx => le.ex x en s hx) fun x s hx => le.ex x en s hx
  sound := by
    intro G k X W st gd hfn tk hl rq hc
    split at hc
    · rename_i x y p v pos
      simp only [Bool.and_eq_true] at hc
      obtain ⟨⟨⟨⟨⟨h1, h2⟩, h3⟩, h4⟩, h5⟩, h6⟩ := hc
      obtain ⟨b, e3, e4⟩ := pureIs_ok h5
      have e5 : b = false := by simpa using e4
      subst e5
      obtain ⟨w, e6, e7⟩ := pureIs_ok h6
      have e8 : w = none := by simpa using e7
      subst e8
      have pg := pg_sub (pos := p) (o.sound G k X W x gd tk rq.2.1 h1) (i.sound G k X W y gd tk rq.2.2 h3) set_list (by
        intro v
        cases y <;> first | rfl | (simp [plainIxB] at h2))
      have base := ps_asg (pos := pos) (e.sound G k X W v gd tk rq.1 h4) pg (show swapsWithSole [.Subscript x y p] v pos.line X.env = _ from e3) ((swapped_scope _ _ _).trans e6) rfl
      refine ⟨fun pins s σ H Dn I h => base.run pins s σ H Dn I ?_⟩
      obtain ⟨mu, en, st, R, h⟩ := h
      refine se1 e.mono R h fun d st1 mu1 vd H1 hF s1 r1 q1 => ?_
      refine tw1 o.mono (R.step s1 r1) (o.mono _ _ _ _ _ _ hF (fun _ _ h => h) fun x st' hx => PostX.step s1 (PostXS.ofX R hx)) fun r st2 mu2 vr H2 hF2 s2 r2 q2 => ?_
      have s12 := s1.trans s2
      refine tw1 i.mono (R.step s12 r2) (i.mono _ _ _ _ _ _ hF2 (fun _ _ h => h) fun x st' hx => PostX.step s12 (PostXS.ofX R hx)) fun j st3 mu3 vj H3 hF3 s3 r3 q3 => ?_
      split at hF3
      · rename_i n xs j' e9
        split at hF3
        · rename_i pl hpl
          obtain ⟨rfl, hx⟩ := refL_ok e9
          obtain ⟨a, rfl, hn⟩ := q2.step s3
          obtain ⟨ws, hA, rws⟩ := r3.get hx hn
          cases (show vj = V.int _ from q3)
          refine ⟨a, ws, j', pl, rfl, rfl, hA, by rw [← rws.len]; exact hpl, ?_⟩
          have q1' := (q1.step s2).step s3
          have rset : RVs G.K mu3 H3 (xs.set pl d) (ws.set pl vd) := RVs.set q1' pl rws
          exact hF3 mu3 σ _ (s12.trans (s3.trans (Step.setL (List.mem_of_getElem? hn) hA))) ⟨r3.setL hn hA rset, (R.env.step (s12.trans s3)).step (Step.setL (List.mem_of_getElem? hn) hA), R.len⟩
        · exact hF3.elim
      · exact hF3.elim
    · cases hc
end Mi
namespace Mi
open PySem PySem.Spec PyProof.Rows L2

/-! ### zip, with strict or without, of tuples and lists -/
/-- what zip asks of one iterator -/
def askZ (sf : Bool) (it : Value) : Sem (Option Value) := do if sf then Builtin.SmallTypes.nextOrEnd it else return some (← Builtin.SmallTypes.nextOf it)
section
variable {prog : Program} {w : World} {A : Around} {E : Value → Shared → Prop} {s : Shared}
theorem stop_raises {Q : PySem.Fin → Shared → Prop} (hn : A.handled = none) (f : ∀ h' e, (∀ b o, s.heap.get? b = some o → h'.get? b = some o) → (∃ o, h'.get? e = some o ∧ o.cls = .type "StopIteration") → E (.ref e) { s with heap := h' }) :
    wpAny (model prog w) A (Builtin.SmallTypes.stopIteration : Sem PySem.Fin) Q E s := by
  show wpAny _ _ (newExc (.type "StopIteration") [] >>= _) _ _ s
  refine wpAny_bind (?_ : wpAny _ _ _ _ _ _)
  simp only [newExc, newTuple]
  refine wpAny_bind (wpAny_newObj_type (?_ : wpAny _ _ _ _ _ _) (by size_fits))
  refine wpAny_bind (m := firstArgMember _ _) (wpAny_of_eq (a := Value.none) (by first | rfl | (simp only [firstArgMember]; rfl)) (?_ : wpAny _ _ _ _ _ _))
  refine wpAny_newObj_type (?_ : wpAny _ _ _ _ _ _) (by size_fits)
  simp only [raiseNew]
  refine wpAny_bind (wpAny_handled (?_ : wpAny _ _ _ _ _ _))
  first | rw [hn] | rw [show A.in1.handled = none from hn]
  refine wpAny_bind (wpAny_pure (wpAny_throw (?_ : E _ _)))
  exact f _ _ (fun b o q => Heap.get?_push_of_some _ (Heap.get?_push_of_some _ q)) ⟨_, Heap.get?_push_size _ rfl, rfl⟩
variable {it : Addr} {fp : List Addr} {n i : Nat} {P : Nat → Value → Prop} {St : Nat → Heap → Prop}
theorem ask_item {Q : Option Value → Shared → Prop} (sf : Bool) (D : Draws prog w A it fp n P St) (hi : i < n) (st : St i s.heap)
    (f : ∀ x h' tk, P i x → St (i + 1) h' → Heap.SameBut it s.heap h' → Q (some x) { s with heap := h', toks := tk }) : wpAny (model prog w) A (askZ sf (.ref it)) Q E s := by
  cases sf with
  | false =>
    show wpAny _ _ (Builtin.SmallTypes.nextOf (.ref it) >>= _) _ _ s
    exact wpAny_bind (D.item i _ _ _ hi st fun x h' tk a b c => wpAny_pure (f x h' tk a b c))
  | true =>
    show wpAny _ _ (Builtin.SmallTypes.nextOrEnd (.ref it)) _ _ s
    unfold Builtin.SmallTypes.nextOrEnd
    exact wpAny_bind (wpAny_attempt (D.item i _ _ _ hi st fun x h' tk a b c => wpAny_pure (f x h' tk a b c)))
theorem ask_end {Q : Option Value → Shared → Prop} (sf : Bool) (D : Draws prog w A it fp n P St) (st : St n s.heap)
    (f : ∀ h', Heap.ExtBut it s.heap h' → sf = true → Q none { s with heap := h' })
    (g : ∀ h' e, Heap.ExtBut it s.heap h' → (∃ o, h'.get? e = some o ∧ o.cls = .type "StopIteration") → sf = false → E (.ref e) { s with heap := h' }) : wpAny (model prog w) A (askZ sf (.ref it)) Q E s := by
  cases sf with
  | false =>
    show wpAny _ _ (Builtin.SmallTypes.nextOf (.ref it) >>= _) _ _ s
    exact wpAny_bind (D.done _ _ _ st fun h' e a b => g h' e a b rfl)
  | true =>
    show wpAny _ _ (Builtin.SmallTypes.nextOrEnd (.ref it)) _ _ s
    unfold Builtin.SmallTypes.nextOrEnd
    refine wpAny_bind (wpAny_attempt (D.done _ _ _ st fun h' e a b => ?_))
    obtain ⟨o, ho, hc⟩ := b
    exact wpAny_bind (wpAny_isInstance (T := "StopIteration") (b := true) ⟨o, ho, hc⟩ isSubtype_stop (wpAny_pure (f h' a rfl)))
end
/-- the zip at z -/
def ZipObj (sf : Bool) (h : Heap) (z TI TO : Addr) (f0 : Value) : Prop := h.get? z = some { cls := .type "zip", dict := none, data := .fields #[f0, .bool false, .bool sf, .ref TI, .ref TO], slots := #[] }
section
variable {prog : Program} {w : World} {A : Around} {E : Value → Shared → Prop} {s : Shared} {z TI TO i1 i2 : Addr} {fp1 fp2 : List Addr} {n1 n2 i : Nat} {P1 P2 : Nat → Value → Prop} {St1 St2 : Nat → Heap → Prop} {a1 a2 : Value}
theorem bool_beq (sf : Bool) : (Value.bool sf == Value.bool true) = sf := by cases sf <;> rfl
theorem zip_item (sf : Bool) {Q : Value → Shared → Prop} (S : ZipSep2 z TI TO i1 i2 fp1 fp2) (D1 : Draws prog w A i1 fp1 n1 P1 St1) (D2 : Draws prog w A i2 fp2 n2 P2 St2)
    (qz : ZipObj sf s.heap z TI TO .none) (qI : IsTupOf2 s.heap TI (.ref i1) (.ref i2)) (qO : IsTupOf2 s.heap TO a1 a2) (t1 : St1 i s.heap) (t2 : St2 i s.heap) (l1 : i < n1) (l2 : i < n2)
    (f : ∀ x y h' tk, P1 i x → P2 i y → ZipObj sf h' z TI TO (rawInt s.heap.objs.size) → IsTupOf2 h' TO x y → St1 (i + 1) h' → St2 (i + 1) h' → IsTupOf2 h' s.heap.objs.size x y → h'.objs.size = s.heap.objs.size + 1 →
      (∀ c o, c ≠ z → c ≠ TO → c ≠ i1 → c ≠ i2 → s.heap.get? c = some o → h'.get? c = some o) → Q (.ref s.heap.objs.size) { s with heap := h', toks := tk }) :
    wpAny (model prog w) A (Builtin.«zip.__next__» ⟨[.ref z], []⟩) (fun fin s' => ∃ v, fin = .done (.ret v) ∧ Q v s') E s := by
  obtain ⟨hp, gg, dd, tk0, os⟩ := s
  show wpAny _ _ (field (.ref z) 2 >>= _) _ _ _
  refine wpAny_bind (wpAny_field qz rfl (x := .bool sf) rfl (?_ : wpAny _ _ _ _ _ _))
  show wpAny _ _ (field (.ref z) 3 >>= _) _ _ _
  refine wpAny_bind (wpAny_field qz rfl (x := .ref TI) rfl (?_ : wpAny _ _ _ _ _ _))
  refine wpAny_bind (wpAny_seqItems qI rfl (?_ : wpAny _ _ _ _ _ _))
  show wpAny _ _ (Builtin.SmallTypes.ownedTupleIsFree (.ref z) >>= _) _ _ _
  refine wpAny_bind (?_ : wpAny _ _ _ _ _ _)
  unfold Builtin.SmallTypes.ownedTupleIsFree
  refine wpAny_bind (wpAny_field qz rfl (x := .none) rfl (wpAny_pure (?_ : wpAny _ _ _ _ _ _)))
  simp only [if_true]
  refine wpAny_bind (wpAny_rule (?_ : wpAny _ _ _ _ _ _))
  refine wpAny_bind (wpAny_field qz rfl (x := .ref TO) rfl (?_ : wpAny _ _ _ _ _ _))
  refine wpAny_bind (wpAny_setField_rec qz (by simp) fun g0 z0 u0 => (?_ : wpAny _ _ _ _ _ _))
  replace z0 : ZipObj sf g0 z TI TO .ellipsis := z0
  replace u0 : Heap.SameBut z hp g0 := u0
  refine wpAny_bind (?_ : wpAny _ _ _ _ _ _)
  simp only [List.zipIdx_cons, List.zipIdx_nil, List.forIn_cons, List.forIn_nil]
  refine wpAny_bind (wpAny_bind (wpAny_onRaise (?_ : wpAny _ _ _ _ _ _)))
  show wpAny _ _ (askZ (Value.bool sf == Value.bool true) (.ref i1)) _ _ ⟨g0, gg, dd, tk0, os⟩
  rw [bool_beq]
  refine ask_item sf D1 l1 (D1.over t1 u0 S.zf1) fun x p1 tk1 hx sn1 v1 => ?_
  replace v1 : Heap.SameBut i1 g0 p1 := v1
  have o1 : IsTupOf2 p1 TO a1 a2 := v1.extBut _ _ S.Ti1 (u0.extBut _ _ S.TOz qO)
  refine wpAny_bind (wpAny_seqItems (s := ⟨p1, gg, dd, tk1, os⟩) o1 rfl (?_ : wpAny _ _ _ _ _ _))
  refine wpAny_bind (updateSeq_IsTupOf2 (s := ⟨p1, gg, dd, tk1, os⟩) o1 fun g1 o2 u1 => (?_ : wpAny _ _ _ _ _ _))
  replace o2 : IsTupOf2 g1 TO x a2 := o2
  replace u1 : Heap.SameBut TO p1 g1 := u1
  refine wpAny_bind (wpAny_letGo (wpAny_pure (?_ : wpAny _ _ _ _ _ _)))
  refine wpAny_bind (wpAny_bind (wpAny_onRaise (?_ : wpAny _ _ _ _ _ _)))
  show wpAny _ _ (askZ sf (.ref i2)) _ _ ⟨g1, gg, dd, tk1, os⟩
  refine ask_item sf D2 l2 (D2.over (D2.over (D2.over t2 u0 S.zf2) v1 S.sep1_2) u1 S.Tf2) fun y p2 tk2 hy sn2 v2 => ?_
  replace v2 : Heap.SameBut i2 g1 p2 := v2
  have o3 : IsTupOf2 p2 TO x a2 := v2.extBut _ _ S.Ti2 o2
  refine wpAny_bind (wpAny_seqItems (s := ⟨p2, gg, dd, tk2, os⟩) o3 rfl (?_ : wpAny _ _ _ _ _ _))
  refine wpAny_bind (updateSeq_IsTupOf2 (s := ⟨p2, gg, dd, tk2, os⟩) o3 fun g2 o4 u2 => (?_ : wpAny _ _ _ _ _ _))
  replace o4 : IsTupOf2 g2 TO x y := o4
  replace u2 : Heap.SameBut TO p2 g2 := u2
  refine wpAny_bind (wpAny_letGo (wpAny_pure (wpAny_pure (?_ : wpAny _ _ _ _ _ _))))
  refine wpAny_bind (wpAny_seqItems (s := ⟨g2, gg, dd, tk2, os⟩) o4 rfl (?_ : wpAny _ _ _ _ _ _))
  refine wpAny_bind (wpAny_newTuple (?_ : wpAny _ _ _ _ _ _))
  have sz : g2.objs.size = hp.objs.size := by rw [u2.1, v2.1, u1.1, v1.1, u0.1]
  have zz : ZipObj sf g2 z TI TO .ellipsis := u2.extBut _ _ S.TOz.symm (v2.extBut _ _ S.zi2 (u1.extBut _ _ S.TOz.symm (v1.extBut _ _ S.zi1 z0)))
  have kk : ∀ c o, c ≠ z → c ≠ TO → c ≠ i1 → c ≠ i2 → hp.get? c = some o → g2.get? c = some o := fun c o cz cT c1 c2 e =>
    u2.extBut _ _ cT (v2.extBut _ _ c2 (u1.extBut _ _ cT (v1.extBut _ _ c1 (u0.extBut _ _ cz e))))
  have j1 : St1 (i + 1) g2 := D1.over (D1.over (D1.over sn1 u1 S.Tf1) v2 S.sep2_1) u2 S.Tf1
  have j2 : St2 (i + 1) g2 := D2.over sn2 u2 S.Tf2
  have zlt : z < g2.objs.size := Heap.lt_size zz
  show wpAny _ _ (Builtin.SmallTypes.ownedTupleHandOut (.ref z) (.ref g2.objs.size) >>= _) _ _ ⟨g2.push { cls := .type "tuple", data := .seq #[x, y] }, gg, dd, tk2, os⟩
  refine wpAny_bind (?_ : wpAny _ _ _ _ _ _)
  unfold Builtin.SmallTypes.ownedTupleHandOut
  have z6 : ZipObj sf (g2.push { cls := .type "tuple", data := .seq #[x, y] }) z TI TO .ellipsis := Heap.get?_push_of_some _ zz
  refine wpAny_bind (wpAny_setField_rec z6 (by simp) fun g7 z7 u7 => (?_ : wpAny _ _ _ _ _ _))
  replace z7 : ZipObj sf g7 z TI TO (rawInt g2.objs.size) := z7
  refine wpAny_setField_rec z7 (by simp) fun g8 z8 u8 => (?_ : wpAny _ _ _ _ _ _)
  replace z8 : ZipObj sf g8 z TI TO (rawInt g2.objs.size) := z8
  replace u7 : Heap.SameBut z (g2.push { cls := .type "tuple", data := .seq #[x, y] }) g7 := u7
  replace u8 : Heap.SameBut z g7 g8 := u8
  have up : ∀ c o, c ≠ z → g2.get? c = some o → g8.get? c = some o := fun c o cz e => u8.extBut _ _ cz (u7.extBut _ _ cz (Heap.get?_push_of_some _ e))
  have t8 : IsTupOf2 g8 g2.objs.size x y := u8.extBut _ _ (Nat.ne_of_gt zlt) (u7.extBut _ _ (Nat.ne_of_gt zlt) (Heap.get?_push_size _ rfl))
  have s8 : g8.objs.size = g2.objs.size + 1 := by rw [u8.1, u7.1, Heap.size_push]
  rw [sz] at z8 t8 s8
  refine wpAny_pure ⟨_, rfl, ?_⟩
  show Q (.ref g2.objs.size) ⟨g8, gg, dd, tk2, os⟩
  rw [sz]
  exact f x y g8 tk2 hx hy z8 (up _ _ S.TOz o4) (D1.frame _ _ _ j1 fun b hb o e => up b o (fun q => S.zf1 (q ▸ hb)) e) (D2.frame _ _ _ j2 fun b hb o e => up b o (fun q => S.zf2 (q ▸ hb)) e) t8 s8 fun c o cz cT c1 c2 e => up c o cz (kk c o cz cT c1 c2 e)
theorem zip_end (sf : Bool) {Q : PySem.Fin → Shared → Prop} (hn : A.handled = none) (S : ZipSep2 z TI TO i1 i2 fp1 fp2) (D1 : Draws prog w A i1 fp1 n1 P1 St1) (D2 : Draws prog w A i2 fp2 n2 P2 St2)
    (qz : ZipObj sf s.heap z TI TO .none) (qI : IsTupOf2 s.heap TI (.ref i1) (.ref i2)) (qO : IsTupOf2 s.heap TO a1 a2) (t1 : St1 i s.heap) (t2 : St2 i s.heap) (l1 : i ≤ n1) (l2 : i ≤ n2) (he : i = n1 ∨ i = n2) (hs : sf = true → i = n1 ∧ i = n2)
    (f : ∀ h' tk e, (∀ c o, c ≠ z → c ≠ TO → c ≠ i1 → c ≠ i2 → s.heap.get? c = some o → h'.get? c = some o) → (∃ o, h'.get? e = some o ∧ o.cls = .type "StopIteration") → E (.ref e) { s with heap := h', toks := tk }) :
    wpAny (model prog w) A (Builtin.«zip.__next__» ⟨[.ref z], []⟩) Q E s := by
  obtain ⟨hp, gg, dd, tk0, os⟩ := s
  show wpAny _ _ (field (.ref z) 2 >>= _) _ _ _
  refine wpAny_bind (wpAny_field qz rfl (x := .bool sf) rfl (?_ : wpAny _ _ _ _ _ _))
  show wpAny _ _ (field (.ref z) 3 >>= _) _ _ _
  refine wpAny_bind (wpAny_field qz rfl (x := .ref TI) rfl (?_ : wpAny _ _ _ _ _ _))
  refine wpAny_bind (wpAny_seqItems qI rfl (?_ : wpAny _ _ _ _ _ _))
  show wpAny _ _ (Builtin.SmallTypes.ownedTupleIsFree (.ref z) >>= _) _ _ _
  refine wpAny_bind (?_ : wpAny _ _ _ _ _ _)
  unfold Builtin.SmallTypes.ownedTupleIsFree
  refine wpAny_bind (wpAny_field qz rfl (x := .none) rfl (wpAny_pure (?_ : wpAny _ _ _ _ _ _)))
  simp only [if_true]
  refine wpAny_bind (wpAny_rule (?_ : wpAny _ _ _ _ _ _))
  refine wpAny_bind (wpAny_field qz rfl (x := .ref TO) rfl (?_ : wpAny _ _ _ _ _ _))
  refine wpAny_bind (wpAny_setField_rec qz (by simp) fun g0 z0 u0 => (?_ : wpAny _ _ _ _ _ _))
  replace z0 : ZipObj sf g0 z TI TO .ellipsis := z0
  replace u0 : Heap.SameBut z hp g0 := u0
  refine wpAny_bind (?_ : wpAny _ _ _ _ _ _)
  simp only [List.zipIdx_cons, List.zipIdx_nil, List.forIn_cons, List.forIn_nil]
  refine wpAny_bind (wpAny_bind (wpAny_onRaise (?_ : wpAny _ _ _ _ _ _)))
  show wpAny _ _ (askZ (Value.bool sf == Value.bool true) (.ref i1)) _ _ ⟨g0, gg, dd, tk0, os⟩
  rw [bool_beq]
  by_cases hl : i < n1
  · have sff : sf = false := by
      cases sf with
      | false => rfl
      | true => exact absurd (hs rfl).1 (Nat.ne_of_lt hl)
    have e2 : i = n2 := he.resolve_left (Nat.ne_of_lt hl)
    refine ask_item sf D1 hl (D1.over t1 u0 S.zf1) fun x p1 tk1 hx sn1 v1 => ?_
    replace v1 : Heap.SameBut i1 g0 p1 := v1
    have o1 : IsTupOf2 p1 TO a1 a2 := v1.extBut _ _ S.Ti1 (u0.extBut _ _ S.TOz qO)
    refine wpAny_bind (wpAny_seqItems (s := ⟨p1, gg, dd, tk1, os⟩) o1 rfl (?_ : wpAny _ _ _ _ _ _))
    refine wpAny_bind (updateSeq_IsTupOf2 (s := ⟨p1, gg, dd, tk1, os⟩) o1 fun g1 o2 u1 => (?_ : wpAny _ _ _ _ _ _))
    replace u1 : Heap.SameBut TO p1 g1 := u1
    refine wpAny_bind (wpAny_letGo (wpAny_pure (?_ : wpAny _ _ _ _ _ _)))
    refine wpAny_bind (wpAny_bind (wpAny_onRaise (?_ : wpAny _ _ _ _ _ _)))
    show wpAny _ _ (askZ sf (.ref i2)) _ _ ⟨g1, gg, dd, tk1, os⟩
    refine ask_end sf D2 (by rw [← e2]; exact D2.over (D2.over (D2.over t2 u0 S.zf2) v1 S.sep1_2) u1 S.Tf2) (fun h' _ e => by rw [sff] at e; cases e) fun q e hq hx _ => ?_
    replace hq : Heap.ExtBut i2 g1 q := hq
    obtain ⟨oe, hoe, hce⟩ := hx
    replace hoe : q.get? e = some oe := hoe
    have hzq : ZipObj sf q z TI TO .ellipsis := hq _ _ S.zi2 (u1.extBut _ _ S.TOz.symm (v1.extBut _ _ S.zi1 z0))
    have hez : e ≠ z := fun c => by
      unfold ZipObj at hzq
      subst c; rw [hzq] at hoe; cases hoe; simp at hce
    refine wpAny_setField_rec (s := ⟨q, gg, dd, tk1, os⟩) hzq (by simp) fun q' _ hq' => ?_
    replace hq' : Heap.SameBut z q q' := hq'
    exact f q' tk1 e (fun c o cz cT c1 c2 x => hq'.extBut _ _ cz (hq _ _ c2 (u1.extBut _ _ cT (v1.extBut _ _ c1 (u0.extBut _ _ cz x))))) ⟨oe, hq'.extBut _ _ hez hoe, hce⟩
  · have e1 : i = n1 := Nat.le_antisymm l1 (Nat.le_of_not_lt hl)
    refine ask_end sf D1 (by rw [← e1]; exact D1.over t1 u0 S.zf1) (fun q hq st => ?_) fun q e hq hx _ => ?_
    · have e2 : i = n2 := (hs st).2
      replace hq : Heap.ExtBut i1 g0 q := hq
      have hzq : ZipObj sf q z TI TO .ellipsis := hq _ _ S.zi1 z0
      refine wpAny_bind (wpAny_setField_rec (s := ⟨q, gg, dd, tk0, os⟩) hzq (by simp) fun q' _ hq' => ?_)
      replace hq' : Heap.SameBut z q q' := hq'
      refine wpAny_bind (?_ : wpAny _ _ _ _ _ _)
      wp_delta
      refine wpAny_bind (?_ : wpAny _ _ _ _ _ _)
      simp only [List.drop_succ_cons, List.drop_zero, List.zipIdx_cons, List.zipIdx_nil, List.forIn_cons, List.forIn_nil]
      refine wpAny_bind (wpAny_bind (?_ : wpAny _ _ _ _ _ _))
      show wpAny _ _ (askZ true (.ref i2)) _ _ ⟨q', gg, dd, tk0, os⟩
      refine ask_end true D2 (by rw [← e2]; exact D2.over (D2.frame _ _ _ (D2.over t2 u0 S.zf2) fun b hb o e => hq b o (fun c => S.sep1_2 (c ▸ hb)) e) hq' S.zf2) (fun r hr _ => ?_) fun _ _ _ _ e => by cases e
      replace hr : Heap.ExtBut i2 q' r := hr
      refine wpAny_pure (wpAny_pure (?_ : wpAny _ _ _ _ _ _))
      refine wpAny_bind (wpAny_rule (?_ : wpAny _ _ _ _ _ _))
      refine stop_raises hn fun h' e hk hx => ?_
      refine f h' tk0 e (fun c o cz cT c1 c2 x => hk _ _ (hr _ _ c2 (hq'.extBut _ _ cz (hq _ _ c1 (u0.extBut _ _ cz x))))) hx
    · replace hq : Heap.ExtBut i1 g0 q := hq
      obtain ⟨oe, hoe, hce⟩ := hx
      replace hoe : q.get? e = some oe := hoe
      have hzq : ZipObj sf q z TI TO .ellipsis := hq _ _ S.zi1 z0
      have hez : e ≠ z := fun c => by
        unfold ZipObj at hzq
        subst c; rw [hzq] at hoe; cases hoe; simp at hce
      refine wpAny_setField_rec (s := ⟨q, gg, dd, tk0, os⟩) hzq (by simp) fun q' _ hq' => ?_
      replace hq' : Heap.SameBut z q q' := hq'
      exact f q' tk0 e (fun c o cz cT c1 c2 x => hq'.extBut _ _ cz (hq _ _ c1 (u0.extBut _ _ cz x))) ⟨oe, hq'.extBut _ _ hez hoe, hce⟩
theorem zip_nx {Q : Option Value → Shared → Prop} (sf : Bool) (S : ZipSep2 z TI TO i1 i2 fp1 fp2) (D1 : Draws prog w A.in1 i1 fp1 n1 P1 St1) (D2 : Draws prog w A.in1 i2 fp2 n2 P2 St2)
    (qz : ZipObj sf s.heap z TI TO .none) (qI : IsTupOf2 s.heap TI (.ref i1) (.ref i2)) (qO : IsTupOf2 s.heap TO a1 a2) (t1 : St1 i s.heap) (t2 : St2 i s.heap) (l1 : i < n1) (l2 : i < n2)
    (f : ∀ x y h' tk, P1 i x → P2 i y → ZipObj sf h' z TI TO (rawInt s.heap.objs.size) → IsTupOf2 h' TO x y → St1 (i + 1) h' → St2 (i + 1) h' → IsTupOf2 h' s.heap.objs.size x y → h'.objs.size = s.heap.objs.size + 1 →
      (∀ c o, c ≠ z → c ≠ TO → c ≠ i1 → c ≠ i2 → s.heap.get? c = some o → h'.get? c = some o) → Q (some (.ref s.heap.objs.size)) { s with heap := h', toks := tk }) :
    wpAny (model prog w) A (pyNext (.ref z)) Q E s := by
  have ty : s.TypeIs (.ref z) "zip" := ⟨_, qz, rfl⟩
  unfold pyNext
  refine wpAny_bind (wpAny_attempt (wpAny_callSpecial?_slot (name := Str.ofString "__next__") ty F.slot_zip_next
    (wpAny_call_entry F.slot_zip_next ty F.entry_zip_next (zip_item sf S D1 D2 qz qI qO t1 t2 l1 l2 fun x y h' tk b1 b2 b3 b4 b5 b6 b7 b8 b9 => wpAny_pure (f x y h' tk b1 b2 b3 b4 b5 b6 b7 b8 b9)) (F.args_zip_next_1 _))))
theorem zip_nx_end {Q : Option Value → Shared → Prop} (sf : Bool) (hn : A.handled = none) (S : ZipSep2 z TI TO i1 i2 fp1 fp2) (D1 : Draws prog w A.in1 i1 fp1 n1 P1 St1) (D2 : Draws prog w A.in1 i2 fp2 n2 P2 St2)
    (qz : ZipObj sf s.heap z TI TO .none) (qI : IsTupOf2 s.heap TI (.ref i1) (.ref i2)) (qO : IsTupOf2 s.heap TO a1 a2) (t1 : St1 i s.heap) (t2 : St2 i s.heap) (l1 : i ≤ n1) (l2 : i ≤ n2) (he : i = n1 ∨ i = n2) (hs : sf = true → i = n1 ∧ i = n2)
    (f : ∀ h' tk, (∀ c o, c ≠ z → c ≠ TO → c ≠ i1 → c ≠ i2 → s.heap.get? c = some o → h'.get? c = some o) → Q none { s with heap := h', toks := tk }) :
    wpAny (model prog w) A (pyNext (.ref z)) Q E s := by
  have ty : s.TypeIs (.ref z) "zip" := ⟨_, qz, rfl⟩
  unfold pyNext
  refine wpAny_bind (wpAny_attempt (wpAny_callSpecial?_slot (name := Str.ofString "__next__") ty F.slot_zip_next
    (wpAny_call_entry F.slot_zip_next ty F.entry_zip_next (zip_end sf hn S D1 D2 qz qI qO t1 t2 l1 l2 he hs fun h' tk e hk hx => ?_) (F.args_zip_next_1 _))))
  obtain ⟨o, ho, hc⟩ := hx
  exact wpAny_bind (wpAny_isInstance (T := "StopIteration") (b := true) ⟨o, ho, hc⟩ isSubtype_stop (wpAny_pure (f h' tk hk)))
theorem zip_go (sf : Bool) {elts : List Expr} {x1} {pos : Pos} {T : Addr} {Q : Unit → Shared → Prop} (qz : ZipObj sf s.heap z TI TO (rawInt T))
    (f : ∀ h', ZipObj sf h' z TI TO .none → Heap.SameBut z s.heap h' → Q () { s with heap := h' }) :
    wpAny (model prog w) A (letOwnedTupleGo (.Tuple elts x1 pos) (.ref z) (.ref T)) Q E s := by
  unfold letOwnedTupleGo
  refine wpAny_bind (wpAny_load qz (?_ : wpAny _ _ _ _ _ _))
  show wpAny _ _ (if (["enumerate", "zip", "dict_itemiterator", "dict_reverseitemiterator", "odict_iterator", "itertools.zip_longest", "itertools.pairwise"].contains "zip" &&
      (#[rawInt T, .bool false, .bool sf, .ref TI, .ref TO] : Array Value)[0]? == some (rawInt T)) = true then _ else _) Q E s
  rw [if_pos (by simp)]
  refine wpAny_bind (wpAny_rule (?_ : wpAny _ _ _ _ _ _))
  show wpAny _ _ (setField (.ref z) 0 .none) Q E s
  exact wpAny_setField_rec qz (by simp) fun h' z' u' => f h' z' u'
theorem zip_self (sf : Bool) {f0 : Value} {Q : Value → Shared → Prop} (qz : ZipObj sf s.heap z TI TO f0) (h : Q (.ref z) s) : wpAny (model prog w) A (pyIter (.ref z)) Q E s := by
  have ty : s.TypeIs (.ref z) "zip" := ⟨_, qz, rfl⟩
  refine wpAny_pyIter_slot ty F.slot_zip_iter (wpAny_call_entry F.slot_zip_iter ty F.entry_zip_iter (?_ : wpAny _ _ _ _ _ _) (F.args_zip_iter_1 _))
  show wpAny _ _ (ret (.ref z)) _ _ s
  exact wpAny_pure ⟨_, rfl, "zip", _, ty, F.slot_zip_next.lookup, h⟩
end
/-! .. its beginning -/
theorem typeCall_zip_strict (a b : Value) : checkTypeCall "zip" ⟨[a, b], [(Str.ofString "strict", .bool true)]⟩ = pure () := by kernel_rfl
theorem newCall_zip_strict (a b : Value) : checkBuiltinCall "zip.__new__" ⟨[.type "zip", a, b], [(Str.ofString "strict", .bool true)]⟩ = pure () := by kernel_rfl
theorem args_init_strict (obj a b : Value) : argsOk "object.__init__" ⟨[obj, a, b], [(Str.ofString "strict", .bool true)]⟩ := by unfold argsOk; kernel_rfl
def zsT (h : Heap) (o1 o2 : Obj) : Heap := ((h.push o1).push o2).push { cls := .type "tuple", data := .seq #[.ref h.objs.size, .ref (h.push o1).objs.size] }
def zsO (h : Heap) (o1 o2 : Obj) : Heap := (zsT h o1 o2).push { cls := .type "tuple", data := .seq #[.none, .none] }
def zsZ (h : Heap) (o1 o2 : Obj) : Heap := (zsO h o1 o2).push { cls := .type "zip", data := .fields #[.none, .bool false, .bool true, .ref ((h.push o1).push o2).objs.size, .ref (zsT h o1 o2).objs.size] }
theorem meets_zip_strict {v1 v2 : Value} {o1 o2 : Obj} {H1 H2 : Heap → Prop} (B1 : Begins v1 o1 H1) (B2 : Begins v2 o2 H2) :
    Meets (Builtin.«zip.__new__» ⟨[.type "zip", v1, v2], [(Str.ofString "strict", .bool true)]⟩) (fun _ R s => (H1 s.heap ∧ H2 s.heap) ∧ R (.ok (.ret (.ref (zsO s.heap o1 o2).objs.size))) { s with heap := zsZ s.heap o1 o2 }) :=
  .of_wp fun prog w A R s h => by
    obtain ⟨hp, gg, dd, tk, os⟩ := s
    obtain ⟨⟨h1, h2⟩, h⟩ := h
    have hsub := sub_zip
    have e1 : (Str.ofString "strict" == ("strict" : Str)) = true := by decide +kernel
    have e2 : (Str.ofString "strict" != ("strict" : Str)) = false := by decide +kernel
    have r1 : ∀ {A' : Around} {E : Value → Shared → Prop} {Q : Value → Shared → Prop}, Q (.ref hp.objs.size) ⟨hp.push o1, gg, dd, tk, os⟩ → wpAny (model prog w) A' (pyIter v1) Q E ⟨hp, gg, dd, tk, os⟩ :=
      fun q => B1.iter prog w _ _ ⟨hp, gg, dd, tk, os⟩ _ h1 q
    have r2 : ∀ {A' : Around} {E : Value → Shared → Prop} {Q : Value → Shared → Prop}, Q (.ref (hp.push o1).objs.size) ⟨(hp.push o1).push o2, gg, dd, tk, os⟩ → wpAny (model prog w) A' (pyIter v2) Q E ⟨hp.push o1, gg, dd, tk, os⟩ :=
      fun q => B2.iter prog w _ _ ⟨hp.push o1, gg, dd, tk, os⟩ _ (B2.keeps _ _ h2 fun b o' e => Heap.get?_push_of_some _ e) q
    wp_walk using r1, r2
    exact ⟨_, rfl, h⟩
section
variable {prog : Program} {w : World} {A : Around} {E : Value → Shared → Prop} {s : Shared}
def zipKw (sf : Bool) : List (Str × Value) := match sf with | true => [(Str.ofString "strict", .bool true)] | false => []
theorem zip_begins (sf : Bool) {v1 v2 : Value} {o1 o2 : Obj} {H1 H2 : Heap → Prop} {Q : Value → Shared → Prop} (B1 : Begins v1 o1 H1) (B2 : Begins v2 o2 H2) (h1 : H1 s.heap) (h2 : H2 s.heap)
    (f : ∀ h', ZipObj sf h' (s.heap.objs.size + 4) (s.heap.objs.size + 2) (s.heap.objs.size + 3) .none → IsTupOf2 h' (s.heap.objs.size + 2) (.ref s.heap.objs.size) (.ref (s.heap.objs.size + 1)) →
      IsTupOf2 h' (s.heap.objs.size + 3) .none .none → h'.get? s.heap.objs.size = some o1 → h'.get? (s.heap.objs.size + 1) = some o2 → (∀ c o, s.heap.get? c = some o → h'.get? c = some o) → Q (.ref (s.heap.objs.size + 4)) { s with heap := h' }) :
    wpAny (model prog w) A (call (.type "zip") [v1, v2] (zipKw sf)) Q E s := by
  cases sf with
  | false => exact zip_begins2 B1 B2 h1 h2 fun h' b1 b2 b3 b4 b5 _ b7 => f h' b1 b2 b3 b4 b5 b7
  | true =>
    refine callType_newKw F.called_zip (by decide) (typeCall_zip_strict _ _) (newCall_zip_strict _ _) (fun obj => args_init_strict obj _ _) F.entry_zip_new (meets_zip_strict B1 B2) ⟨⟨h1, h2⟩, ?_⟩
    have z1 : (s.heap.push o1).objs.size = s.heap.objs.size + 1 := Heap.size_push ..
    have z2 : ((s.heap.push o1).push o2).objs.size = s.heap.objs.size + 2 := by rw [Heap.size_push, z1]
    have zT : (zsT s.heap o1 o2).objs.size = s.heap.objs.size + 3 := by unfold zsT; rw [Heap.size_push, z2]
    have zO : (zsO s.heap o1 o2).objs.size = s.heap.objs.size + 4 := by unfold zsO; rw [Heap.size_push, zT]
    have gZ : (zsZ s.heap o1 o2).get? (zsO s.heap o1 o2).objs.size = some { cls := .type "zip", data := .fields #[.none, .bool false, .bool true, .ref ((s.heap.push o1).push o2).objs.size, .ref (zsT s.heap o1 o2).objs.size] } := Heap.get?_push_size _ rfl
    have gO : (zsZ s.heap o1 o2).get? (zsT s.heap o1 o2).objs.size = some { cls := .type "tuple", data := .seq #[.none, .none] } := Heap.get?_push_of_some _ (Heap.get?_push_size _ rfl)
    have gT : (zsZ s.heap o1 o2).get? ((s.heap.push o1).push o2).objs.size = some { cls := .type "tuple", data := .seq #[.ref s.heap.objs.size, .ref (s.heap.push o1).objs.size] } := Heap.get?_push_of_some _ (Heap.get?_push_of_some _ (Heap.get?_push_size _ rfl))
    have ge : ∀ c o, ((s.heap.push o1).push o2).get? c = some o → (zsZ s.heap o1 o2).get? c = some o := fun c o e => Heap.get?_push_of_some _ (Heap.get?_push_of_some _ (Heap.get?_push_of_some _ e))
    have g1 : (zsZ s.heap o1 o2).get? s.heap.objs.size = some o1 := ge _ _ (Heap.get?_push_of_some _ (Heap.get?_push_size _ B1.free))
    have g2 : (zsZ s.heap o1 o2).get? (s.heap.push o1).objs.size = some o2 := ge _ _ (Heap.get?_push_size _ B2.free)
    rw [zO, zT, z2] at gZ
    rw [zT] at gO
    rw [z2, z1] at gT
    rw [z1] at g2
    show _ ∧ _
    rw [zO]
    exact ⟨⟨_, gZ, rfl⟩, f _ gZ gT gO g1 g2 fun c o e => ge _ _ (Heap.get?_push_of_some _ (Heap.get?_push_of_some _ e))⟩
end
/-! .. tuples and lists by one mark -/
/-- tu: a tuple, otherwise a list -/
def sqB (tu : Bool) (K : PySem.W.Frag) (H : Hp) (a : Addr) (xs : List V) : Prop := match tu with | true => SqT K H a xs | false => SqL K H a xs
def isB (tu : Bool) (h : Heap) (l : Addr) (items : Array Value) : Prop := match tu with | true => h.IsTuple l items | false => h.IsList l items
def itB (tu : Bool) (h : Heap) (it l : Addr) (i : Nat) : Prop := match tu with | true => h.IsTupleIter it l i | false => h.IsListIter it l i
def itObj (tu : Bool) (l : Addr) : Obj := match tu with | true => { cls := .type "tuple_iterator", data := .fields #[.ref l, .int 0 0] } | false => { cls := .type "list_iterator", data := .fields #[.ref l, .int 0 0] }
theorem itB.start {tu : Bool} {h : Heap} {it l : Addr} (e : h.get? it = some (itObj tu l)) : itB tu h it l 0 := by
  cases tu with
  | true => exact ⟨_, e, rfl, rfl⟩
  | false => exact ⟨_, e, rfl, rfl⟩
theorem itB.obj {tu : Bool} {h : Heap} {it l : Addr} {i : Nat} (x : itB tu h it l i) : ∃ o, h.get? it = some o ∧ ∀ v, o.data ≠ .cell v := by
  cases tu with
  | true => obtain ⟨o, e, _, d⟩ := x; exact ⟨o, e, fun v q => by rw [d] at q; cases q⟩
  | false => obtain ⟨o, e, _, d⟩ := x; exact ⟨o, e, fun v q => by rw [d] at q; cases q⟩
theorem itB.at {tu : Bool} {h h' : Heap} {it l : Addr} {i : Nat} (x : itB tu h it l i) (k : ∀ o, h.get? it = some o → h'.get? it = some o) : itB tu h' it l i := by
  cases tu with
  | true => obtain ⟨o, e, c, d⟩ := x; exact ⟨o, k o e, c, d⟩
  | false => obtain ⟨o, e, c, d⟩ := x; exact ⟨o, k o e, c, d⟩
theorem begins_B (tu : Bool) (l : Addr) (items : Array Value) : Begins (.ref l) (itObj tu l) fun h => isB tu h l items := by
  cases tu with
  | true => exact begins_tuple l items
  | false => exact begins_list l items
theorem draws_B {prog : Program} {w : World} {A : Around} (hn : A.handled = none) (tu : Bool) (it l : Addr) (ne : l ≠ it) (items : Array Value) : Draws prog w A it [it, l] items.size (fun i v => items[i]? = some v) (fun i h => itB tu h it l i ∧ isB tu h l items) := by
  cases tu with
  | true => exact Draws.tuple hn it l ne items
  | false => exact Draws.list hn it l ne items
theorem sqB_open {X : Cx} {pins : List (Addr × Obj)} {σ : L2.St} {H : Hp} {s : Shared} (I : Inv X pins σ H s) {tu : Bool} {a : Addr} {xs : List V} (h : sqB tu X.K H a xs) : ∃ its : List Value, Vals xs its ∧ isB tu s.heap a its.toArray ∧ a < s.heap.objs.size ∧ xs.length ≤ sizeLine := by
  cases tu with
  | true =>
    obtain ⟨its, r, p, z⟩ := I.tuple h
    obtain ⟨o, e, _⟩ := id p
    exact ⟨its, r, p, Heap.lt_size e, z⟩
  | false =>
    obtain ⟨its, r, p, z⟩ := I.list h
    exact ⟨its, r, p.isList, p.lt, z⟩
theorem sqB_inj {X : Cx} {pins : List (Addr × Obj)} {σ : L2.St} {H : Hp} {s : Shared} (I : Inv X pins σ H s) {tu : Bool} {a : Addr} {xs ys : List V} (h : sqB tu X.K H a xs) (g : sqB tu X.K H a ys) : xs = ys := by
  cases tu with
  | true => exact I.tuple_inj h g
  | false => exact I.list_inj h g
/-- what zip tells -/
def ItZ (sf b1 b2 : Bool) (K : PySem.W.Frag) (a1 a2 : Addr) : It :=
  ⟨fun i H => ∃ (xs ys : List V) (x y : V), sqB b1 K H a1 xs ∧ sqB b2 K H a2 ys ∧ xs[i]? = some x ∧ ys[i]? = some y,
    fun i H v H' => ∃ T x y, v = .ref T ∧ H T = none ∧ H' = upd H T (.tup [x, y]) ∧ (∀ xs, sqB b1 K H a1 xs → xs[i]? = some x) ∧ ∀ ys, sqB b2 K H a2 ys → ys[i]? = some y,
    fun i H => ∃ xs ys : List V, sqB b1 K H a1 xs ∧ sqB b2 K H a2 ys ∧ i ≤ xs.length ∧ i ≤ ys.length ∧ (i = xs.length ∨ i = ys.length) ∧ (sf = true → i = xs.length ∧ i = ys.length)⟩
structure ZApart (z TI TO i1 i2 : Addr) : Prop where
  a1 : TI ≠ z
  a2 : TO ≠ z
  a3 : i1 ≠ z
  a4 : i2 ≠ z
  a5 : TI ≠ TO
  a6 : TI ≠ i1
  a7 : TI ≠ i2
  a8 : TO ≠ i1
  a9 : TO ≠ i2
  a10 : i1 ≠ i2
/-- the zip's own cells and the lists are two -/
theorem ZApart.sep {z TI TO i1 i2 l1 l2 : Addr} (Z : ZApart z TI TO i1 i2) (h1 : l1 ∉ [z, TI, TO, i1, i2]) (h2 : l2 ∉ [z, TI, TO, i1, i2]) : ZipSep2 z TI TO i1 i2 [i1, l1] [i2, l2] := by
  simp only [List.mem_cons, List.not_mem_nil, or_false, not_or] at h1 h2
  obtain ⟨p1, p2, p3, p4, p5⟩ := h1
  obtain ⟨q1, q2, q3, q4, q5⟩ := h2
  refine ⟨Z.a1, Z.a2, Z.a5, Z.a6, List.mem_cons_self, ?_, ?_, Z.a7, List.mem_cons_self, ?_, ?_, ?_, ?_⟩ <;> simp only [List.mem_cons, List.not_mem_nil, or_false, not_or]
  · exact ⟨Z.a3.symm, fun e => p1 e.symm⟩
  · exact ⟨Z.a8, fun e => p3 e.symm⟩
  · exact ⟨Z.a4.symm, fun e => q1 e.symm⟩
  · exact ⟨Z.a9, fun e => q3 e.symm⟩
  · exact ⟨Z.a10, fun e => q4 e.symm⟩
  · exact ⟨Z.a10.symm, fun e => p5 e.symm⟩
theorem zapart (I : Nat) : ZApart (I + 4) (I + 2) (I + 3) I (I + 1) := by
  constructor <;> (refine PySem.W.neN ?_; omega)
theorem zout (I c : Nat) (h : c < I) : (c : Addr) ∉ ([I + 4, I + 2, I + 3, I, I + 1] : List Addr) := fun z => by
  have z' : c ∈ ([I + 4, I + 2, I + 3, I, I + 1] : List Nat) := z
  simp at z'
  omega
theorem zin (I c : Nat) (h : (c : Addr) ∈ ([I + 4, I + 2, I + 3, I, I + 1] : List Addr)) : I ≤ c := by
  have z' : c ∈ ([I + 4, I + 2, I + 3, I, I + 1] : List Nat) := h
  simp at z'
  omega
theorem turn_Z {P : Program} {w : World} {K : PySem.W.Frag} (sf b1 b2 : Bool) {elts : List Expr} {kk : Nat} {tpos : Pos} {a1 a2 z TI TO i1 i2 : Addr} (Z : ZApart z TI TO i1 i2) (m1 : a1 ∉ [z, TI, TO, i1, i2]) (m2 : a2 ∉ [z, TI, TO, i1, i2]) :
    Turn P w K (.Tuple elts kk tpos) (ItZ sf b1 b2 K a1 a2) [z, TI, TO, i1, i2] z (fun i h => ZipObj sf h z TI TO .none ∧ IsTupOf2 h TI (.ref i1) (.ref i2) ∧ (∃ x y, IsTupOf2 h TO x y) ∧ itB b1 h i1 a1 i ∧ itB b2 h i2 a2 i) where
  mem := by simp
  obj := fun i h st c hc => by
    obtain ⟨hz, hI, ⟨x, y, hO⟩, k1, k2⟩ := st
    have e' : c = z ∨ c = TI ∨ c = TO ∨ c = i1 ∨ c = i2 := by simpa using hc
    rcases e' with q | q | q | q | q <;> rw [q]
    · exact ⟨_, hz, fun v q => nomatch q⟩
    · exact ⟨_, hI, fun v q => nomatch q⟩
    · exact ⟨_, hO, fun v q => nomatch q⟩
    · exact k1.obj
    · exact k2.obj
  keep := fun i h h' st k => by
    obtain ⟨hz, hI, ⟨x, y, hO⟩, k1, k2⟩ := st
    exact ⟨k z (by simp) _ hz, k TI (by simp) _ hI, ⟨x, y, k TO (by simp) _ hO⟩, k1.at fun o q => k i1 (by simp) o q, k2.at fun o q => k i2 (by simp) o q⟩
  item := by
    intro X hP hw hK hc i pins s σ H E I hf st hg
    subst hP hw hK
    obtain ⟨hz, hI, ⟨x0, y0, hO⟩, k1, k2⟩ := st
    obtain ⟨xs, ys, x, y, hx, hy, ex, ey⟩ := hg
    obtain ⟨us, r1, p1, lt1, _⟩ := sqB_open I hx
    obtain ⟨vs, r2, p2, lt2, _⟩ := sqB_open I hy
    obtain ⟨u, hu, ru⟩ := r1.get ex
    obtain ⟨v, hv, rv⟩ := r2.get ey
    have S := Z.sep m1 m2
    have ne1 : a1 ≠ i1 := fun e => m1 (by simp [e])
    have ne2 : a2 ≠ i2 := fun e => m2 (by simp [e])
    have hn := I.ok.hd hc
    have D1 := draws_B (prog := X.prog) (w := X.w) (A := X.A.in1) hn b1 i1 a1 ne1 us.toArray
    have D2 := draws_B (prog := X.prog) (w := X.w) (A := X.A.in1) hn b2 i2 a2 ne2 vs.toArray
    have zl : z < s.heap.objs.size := Heap.lt_size hz
    have lu : i < us.toArray.size := by
      have := (List.getElem?_eq_some_iff.mp hu).1
      simpa using this
    have lv : i < vs.toArray.size := by
      have := (List.getElem?_eq_some_iff.mp hv).1
      simpa using this
    refine zip_nx sf S D1 D2 hz hI hO ⟨k1, p1⟩ ⟨k2, p2⟩ lu lv fun x' y' h' tk ex' ey' z' O' n1 n2 T' sz hk => ?_
    have e1 : x' = u := by
      have h1 : us[i]? = some x' := by simpa using ex'
      rw [hu] at h1; exact (Option.some.inj h1).symm
    have e2 : y' = v := by
      have h1 : vs[i]? = some y' := by simpa using ey'
      rw [hv] at h1; exact (Option.some.inj h1).symm
    subst e1 e2
    refine ⟨_, rfl, zip_go (s := { s with heap := h', toks := tk }) sf z' fun h'' z'' sb => ?_⟩
    replace sb : Heap.SameBut z h' h'' := sb
    have T2 : h''.get? s.heap.objs.size = some { cls := .type "tuple", data := .seq #[x', y'] } := (sb.2 _ (Nat.ne_of_gt zl)).trans T'
    have new : ObjOk X.prog X.w (upd H s.heap.objs.size (.tup [x, y])) h'' s.heap.objs.size (.tup [x, y]) :=
      ⟨by show 2 ≤ sizeLine; decide, [x', y'], .cons ru (.cons rv .nil), ⟨_, T2, rfl, _, rfl⟩⟩
    have keepAll : ∀ c o, c ∉ [z, TI, TO, i1, i2] → s.heap.get? c = some o → h''.get? c = some o := fun c o hb q => by
      simp only [List.mem_cons, List.not_mem_nil, or_false, not_or] at hb
      exact (sb.2 c hb.1).trans (hk c o hb.1 hb.2.2.1 hb.2.2.2.1 hb.2.2.2.2 q)
    have I1 : Inv X pins σ (upd H s.heap.objs.size (.tup [x, y])) { s with heap := h'', toks := tk } := I.turnedNew (ch := [z, TI, TO, i1, i2]) keepAll hf (Nat.le_refl _) new
    refine ⟨.ref s.heap.objs.size, _, I1, rfl, ⟨_, x, y, rfl, I.hok.fresh (Nat.le_refl _), rfl, fun l hl => by rw [sqB_inj I hl hx]; exact ex, fun l hl => by rw [sqB_inj I hl hy]; exact ey⟩, ⟨z'', ?_, ⟨x', y', ?_⟩, ?_, ?_⟩, fun c hcm => ?_⟩
    · exact (sb.2 _ Z.a1).trans (hk _ _ Z.a1 Z.a5 Z.a6 Z.a7 hI)
    · exact (sb.2 _ Z.a2).trans O'
    · exact n1.1.at fun o q => (sb.2 _ Z.a3).trans q
    · exact n2.1.at fun o q => (sb.2 _ Z.a4).trans q
    · have hlt : c < s.heap.objs.size := by
        have e' : c = z ∨ c = TI ∨ c = TO ∨ c = i1 ∨ c = i2 := by simpa using hcm
        rcases e' with q | q | q | q | q <;> rw [q]
        · exact zl
        · exact Heap.lt_size hI
        · exact Heap.lt_size hO
        · obtain ⟨_, e, _⟩ := k1.obj; exact Heap.lt_size e
        · obtain ⟨_, e, _⟩ := k2.obj; exact Heap.lt_size e
      rw [upd_ne (Nat.ne_of_lt hlt)]
      exact (hf c hcm).1
  done := by
    intro X hP hw hK hc i pins s σ H E I hf st hg
    subst hP hw hK
    obtain ⟨hz, hI, ⟨x0, y0, hO⟩, k1, k2⟩ := st
    obtain ⟨xs, ys, hx, hy, g1, g2, g3, g4⟩ := hg
    obtain ⟨us, r1, p1, lt1, _⟩ := sqB_open I hx
    obtain ⟨vs, r2, p2, lt2, _⟩ := sqB_open I hy
    have S := Z.sep m1 m2
    have hn := I.ok.hd hc
    have D1 := draws_B (prog := X.prog) (w := X.w) (A := X.A.in1) hn b1 i1 a1 (fun e => m1 (by simp [e])) us.toArray
    have D2 := draws_B (prog := X.prog) (w := X.w) (A := X.A.in1) hn b2 i2 a2 (fun e => m2 (by simp [e])) vs.toArray
    have eu : us.toArray.size = xs.length := by rw [List.size_toArray, r1.length]
    have ev : vs.toArray.size = ys.length := by rw [List.size_toArray, r2.length]
    refine zip_nx_end sf hn S D1 D2 hz hI hO ⟨k1, p1⟩ ⟨k2, p2⟩ (by rw [eu]; exact g1) (by rw [ev]; exact g2) (by rw [eu, ev]; exact g3) (fun q => by rw [eu, ev]; exact g4 q) fun h' tk hk => ⟨rfl, I.turnedL (t' := tk) (ch := [z, TI, TO, i1, i2]) (fun c o hb q => ?_) hf⟩
    simp only [List.mem_cons, List.not_mem_nil, or_false, not_or] at hb
    exact hk c o hb.1 hb.2.2.1 hb.2.2.2.1 hb.2.2.2.2 q
  self := fun A i s Q E st h => zip_self sf st.1 h
/-! .. its call -/
theorem callWith_typeKw {M : Model} {A : Around} {E : Value → Shared → Prop} {s : Shared} {pos : Pos} {T : String} {first : List Value} {args : List (Bool × Sem Value)} {keywords : List (Option Str × Sem Value)} {Q : Value → Shared → Prop}
    (hp : args.any (·.1) = false) (hkw : keywords.any (·.1.isNone) = false)
    (h : wpAny M A (evalArgs (.type T) true args keywords) (fun a s₁ => wpAny M A (call (.type T) (first ++ a.pos) a.kw) Q E s₁) E s) : wpAny M A (callWith pos (.type T) first args keywords) Q E s := by
  unfold callWith
  refine wpAny_bind (wpAny_holding (wpAny_mono h (fun a s₁ q => wpAny_bind (wpAny_standAt (?_ : wpAny _ _ _ _ _ _))) fun _ _ z => z))
  simp only [hp, hkw, Bool.or_false]
  refine wpAny_bind (wpAny_pure (?_ : wpAny _ _ _ _ _ _))
  exact wpAny_bind (wpAny_mono q (fun r s₂ hr => wpAny_bind (wpAny_holding (wpAny_point (wpAny_pure hr)))) fun _ _ z => z)
def kwB (kws : List Keyword) (sf : Bool) : Bool := match sf with
  | false => (match kws with | [] => true | _ => false)
  | true => (match kws with | [⟨some n, .Constant (.bool true) _ _, _⟩] => decide (n = Str.ofString "strict") | _ => false)
def tZip (K : PySem.W.Frag) (sf : Bool) (ta : TA) : TI := fun σ H R => ta σ H fun vs H1 => ∃ b1 b2 a b xs ys, vs = [.ref a, .ref b] ∧ sqB b1 K H1 a xs ∧ sqB b2 K H1 b ys ∧ R (ItZ sf b1 b2 K a b) H1
theorem pi_Z {X : Cx} (sf : Bool) {e e2 : Expr} {kws : List Keyword} {ta : TA} {p pos tpos : Pos} {elts : List Expr} {kk : Nat} (hg : Gl X "zip") (hm : X.mg "zip" = none) (ha : PA X [e, e2] ta) (hk : kwB kws sf = true)
    (hs : starEach [e, e2] X.env = (false, eval e X.env) :: starEach [e2] X.env) (hpl : (backTo pos (starEach [e2] X.env)).any (·.1) = false) : PI X (.Tuple elts kk tpos) (.Call (.Name "zip" p) [e, e2] kws pos) (tZip X.K sf ta) := by
  have fin : ∀ (pins : List (Addr × Obj)) (s1 : Shared) (σ : L2.St) (H1 : Hp) (R : It → Hp → Prop) (vs : List V) (us : List Value), Inv X pins σ H1 s1 → Vals vs us →
      (∃ b1 b2 a b xs ys, vs = [.ref a, .ref b] ∧ sqB b1 X.K H1 a xs ∧ sqB b2 X.K H1 b ys ∧ R (ItZ sf b1 b2 X.K a b) H1) →
      wpAny (model X.prog X.w) X.A (call (.type "zip") us (zipKw sf)) (fun v s2 => wpAny (model X.prog X.w) X.A (pyIter v) (PIE X pins σ (.Tuple elts kk tpos) R) X.xe s2) X.xe s1 := by
    intro pins s1 σ H1 R vs us I1 r1 q1
    obtain ⟨b1, b2, a, b, xs, ys, ex, hx, hy, q⟩ := q1
    subst ex
    cases r1 with
    | cons r rr =>
      cases rr with
      | cons r' rr =>
        cases rr
        cases r
        cases r'
        obtain ⟨vs1, _, p1, lt1, _⟩ := sqB_open I1 hx
        obtain ⟨vs2, _, p2, lt2, _⟩ := sqB_open I1 hy
        refine zip_begins sf (begins_B b1 a vs1.toArray) (begins_B b2 b vs2.toArray) p1 p2 fun h' hz hI hO g1 g2 hk => zip_self sf hz ?_
        have I2 : Inv X pins σ H1 { s1 with heap := h' } := I1.kept (t' := s1.toks) hk
        refine ⟨s1.heap.objs.size + 4, _, _, _, H1, rfl, I2, turn_Z sf b1 b2 (zapart _) (zout _ a lt1) (zout _ b lt2), ⟨hz, hI, ⟨_, _, hO⟩, .start g1, .start g2⟩, fun c hcm => ?_, q⟩
        have hle : s1.heap.objs.size ≤ c := zin _ _ hcm
        exact I1.fpOk hle (I1.hok.fresh hle)
  refine ⟨fun pins s σ H R I h => ?_⟩
  cases sf with
  | false =>
    have ek : kws = [] := by
      cases kws with
      | nil => rfl
      | cons a b => cases hk
    subst ek
    exact Call_ (ld_blt I hg hm PyProof.Rows.boot_zip (PyProof.Rows.callWith_type1 (thn (ha.run pos pins s σ H _ I h) fun us s1 ⟨vs, H1, I1, r1, q1⟩ => fin pins s1 σ H1 R vs us I1 r1 q1) hs hpl))
  | true =>
    have ek : ∃ j cp kp, kws = [⟨some (Str.ofString "strict"), .Constant (.bool true) j cp, kp⟩] := by
      unfold kwB at hk
      dsimp only at hk
      split at hk
      · exact ⟨_, _, _, by rw [of_decide_eq_true hk]⟩
      · cases hk
    obtain ⟨j, cp, kp, rfl⟩ := ek
    refine wpAny_Call_Name_kw (ld_blt I hg hm PyProof.Rows.boot_zip ?_)
    refine callWith_typeKw (by rw [hs]; exact hpl) rfl (evalArgs_kw2 rfl (thn (ha.run pos pins s σ H _ I h) fun us s1 ⟨vs, H1, I1, r1, q1⟩ => ?_) hs)
    refine thn ((pk_cons (nm := some (Str.ofString "strict")) (kpos := kp) (pe_bl (b := true) (j := j) (pos := cp)) pk_nil).run pos pins s1 σ H1 (fun zs H2 => zs = [V.bl true] ∧ H2 = H1) I1 ⟨rfl, rfl⟩) fun ws s2 ⟨zs, H2, I2, rz, ez, eh⟩ => ?_
    subst ez eh
    obtain ⟨u, rfl, ru⟩ := vals1 rz
    cases (show u = Value.bool true from ru)
    exact fin pins s2 σ _ R vs us I2 r1 q1
end Mi
namespace Mi
open PySem PySem.Spec PyProof.Rows L2

theorem seqB_at {G : GEnv} {k : Nat} {X : Cx} (gd : Good G k X) {mu : Mu} {H : Hp} {st : Sto} (R : RelS G.K G.w mu H st) {d : D} {v : V} {ds : List D} (h : seqOf st d = some ds) (r : RV G.K mu H d v) :
    ∃ (a : Addr) (tu : Bool), v = .ref a ∧ ∀ (mu2 : Mu) (H2 : Hp) (st2 : Sto), Step mu H mu2 H2 → RelS G.K G.w mu2 H2 st2 → seqOf st2 d = some ds → ∃ us, sqB tu X.K H2 a us ∧ RVs G.K mu2 H2 ds us := by
  obtain ⟨a, vs, rfl, h1, h2⟩ := seq_at R h r
  rcases h1 with ⟨⟨es, rfl⟩, h1⟩ | ⟨hl, h1⟩
  · refine ⟨a, true, rfl, fun mu2 H2 st2 s2 r2 ho => ?_⟩
    obtain ⟨b, us, e, h3, h4⟩ := seq_at r2 ho (r.step s2)
    cases e
    rcases h3 with ⟨_, h3⟩ | ⟨h3, _⟩
    · exact ⟨us, gd.K' (P := fun K => SqT K H2 a us) h3, h4⟩
    · unfold lstOf at h3; cases h3
  · refine ⟨a, false, rfl, fun mu2 H2 st2 s2 r2 ho => ?_⟩
    obtain ⟨b, us, e, h3, h4⟩ := seq_at r2 ho (r.step s2)
    cases e
    rcases h3 with ⟨⟨es, rfl⟩, _⟩ | ⟨_, h3⟩
    · unfold lstOf at hl; cases hl
    · exact ⟨us, .of h3, h4⟩
theorem RVs.at {K : PySem.W.Frag} {mu : Mu} {H : Hp} {ds : List D} {vs : List V} (r : RVs K mu H ds vs) {i : Nat} {v : V} (h : vs[i]? = some v) : ∃ d, ds[i]? = some d ∧ RV K mu H d v := by
  have hl : i < ds.length := by rw [r.len]; exact (List.getElem?_eq_some_iff.mp h).1
  obtain ⟨w, e, q⟩ := r.get (List.getElem?_eq_getElem hl)
  rw [h] at e
  cases e
  exact ⟨_, List.getElem?_eq_getElem hl, q⟩
def pairD (xs ys : List D) : List D := List.zipWith (fun x y => D.tup [x, y]) xs ys
theorem zip_ok {G : GEnv} {k : Nat} {X : Cx} (gd : Good G k X) (sf : Bool) {mu : Mu} {H : Hp} {st : Sto} (R : RelS G.K G.w mu H st) {d1 d2 : D} {v1 v2 : V} {xs ys : List D} (h1 : seqOf st d1 = some xs) (h2 : seqOf st d2 = some ys) (r1 : RV G.K mu H d1 v1) (r2 : RV G.K mu H d2 v2)
    (hs : sf = true → xs.length = ys.length) : ∃ a b b1 b2, v1 = .ref a ∧ v2 = .ref b ∧ (∃ us, sqB b1 X.K H a us) ∧ (∃ us, sqB b2 X.K H b us) ∧ ItOk G (ItZ sf b1 b2 X.K a b) (pairD xs ys) (fun s => seqOf s d1 = some xs ∧ seqOf s d2 = some ys) mu H := by
  obtain ⟨a, b1, e1, f1⟩ := seqB_at gd R h1 r1
  obtain ⟨b, b2, e2, f2⟩ := seqB_at gd R h2 r2
  obtain ⟨u1, g1, _⟩ := f1 mu H st (Step.refl _ _) R h1
  obtain ⟨u2, g2, _⟩ := f2 mu H st (Step.refl _ _) R h2
  refine ⟨a, b, b1, b2, e1, e2, ⟨u1, g1⟩, ⟨u2, g2⟩, fun mu2 st2 H2 s2 R2 ho i => ?_⟩
  obtain ⟨us, q1, k1⟩ := f1 mu2 H2 st2 s2 R2 ho.1
  obtain ⟨vs, q2, k2⟩ := f2 mu2 H2 st2 s2 R2 ho.2
  refine ⟨fun d hd => ?_, fun hl => ?_⟩
  · unfold pairD at hd
    rw [List.getElem?_zipWith] at hd
    cases ex : xs[i]? with
    | none => rw [ex] at hd; cases hd
    | some x =>
      cases ey : ys[i]? with
      | none => rw [ex, ey] at hd; cases hd
      | some y =>
        rw [ex, ey] at hd
        cases hd
        obtain ⟨u, eu, ru⟩ := k1.get ex
        obtain ⟨v, ev, rv⟩ := k2.get ey
        refine ⟨⟨us, vs, u, v, q1, q2, eu, ev⟩, fun z H' hy => ?_⟩
        obtain ⟨T, u', v', rfl, hT, rfl, w1, w2⟩ := hy
        have eu' := (w1 us q1).symm.trans eu
        have ev' := (w2 vs q2).symm.trans ev
        cases eu'
        cases ev'
        have s3 : Step mu2 H2 mu2 (upd H2 T (.tup [u, v])) := Step.newV hT
        exact ⟨s3, R2.newV hT, T, [u, v], rfl, .of upd_same, u, [v], rfl, ru.step s3, v, [], rfl, rv.step s3, rfl⟩
  · have hl' : min xs.length ys.length = i := by
      unfold pairD at hl
      simpa using hl
    refine ⟨us, vs, q1, q2, ?_, ?_, ?_, fun q => ?_⟩
    · rw [← k1.len]; omega
    · rw [← k2.len]; omega
    · rw [← k1.len, ← k2.len]; omega
    · have := hs q
      rw [← k1.len, ← k2.len]; omega
/-- zip(a, b), zip(a, b, strict=True) -/
def iZip (sf : Bool) (a b : SemE) : SemI where
  chk N sc e := match e with | .Call (.Name x _) [e, e2] kws _ => decide (x = ("zip" : Str)) && glB sc x && kwB kws sf && chkA [a, b] N sc [e, e2] | _ => false
  req G k := G.mg "zip" = none ∧ reqL [a, b] G k
  tup := true
  wp en st Q E := a.wp en st (fun d st1 => b.wp en st1 (fun d2 st2 => match seqOf st2 d, seqOf st2 d2 with
    | some xs, some ys => (sf = true → xs.length = ys.length) ∧ Q (pairD xs ys) (fun s => seqOf s d = some xs ∧ seqOf s d2 = some ys) st2
    | _, _ => False) E) E
  mono en st Q Q' E E' h f g := a.mono _ _ _ _ _ _ h (fun d s hd => b.mono _ _ _ _ _ _ hd (fun d s hd => by
    split at hd
    · exact ⟨hd.1, f _ _ _ hd.2⟩
    · exact hd.elim) g) g
  sound := by
    intro G k X W tg e gd tk rq ht hc
    split at hc
    · rename_i x px e e2 kws pos
      simp only [Bool.and_eq_true, decide_eq_true_eq] at hc
      obtain ⟨⟨⟨rfl, hg⟩, hk⟩, ha⟩ := hc
      have pa := pa_sound G k X W gd tk [a, b] [e, e2] rq.2 ha
      have hm : X.mg "zip" = none := by rw [gd.mg]; exact rq.1
      have htg := ht rfl
      cases tg with
      | Tuple elts kk tpos =>
        have base := pi_Z (tpos := tpos) (elts := elts) (kk := kk) (p := px) (pos := pos) sf (glB_ok hg) hm pa hk (chkA_star ha _) (by rw [chkA_star (chkA_tail ha) _]; rfl)
        refine ⟨fun pins s σ H R I h => base.run pins s σ H R I ?_⟩
        obtain ⟨mu, en, st, Re, h⟩ := h
        refine twa (l := [a, b]) (F := fun ds st2 => match ds with
          | [d, d2] => (match seqOf st2 d, seqOf st2 d2 with
            | some xs, some ys => (sf = true → xs.length = ys.length) ∧ PostI G mu H R (pairD xs ys) (fun s => seqOf s d = some xs ∧ seqOf s d2 = some ys) st2
            | _, _ => False)
          | _ => False) Re (a.mono _ _ _ _ _ _ h (fun d s hd => b.mono _ _ _ _ _ _ hd (fun d2 s2 hd => hd) fun _ _ h => h) fun _ _ h => h) fun ds st1 mu1 vs H1 hF s1 r1 q1 => ?_
        split at hF
        · rename_i d d2
          obtain ⟨v, w, rfl, r2, r3⟩ := q1.two
          split at hF
          · rename_i xs ys e1 e2
            obtain ⟨a1, a2, b1, b2, rfl, rfl, ⟨us, h1⟩, ⟨ws, h2⟩, ok⟩ := zip_ok gd sf r1 e1 e2 r2 r3 hF.1
            exact ⟨b1, b2, a1, a2, us, ws, rfl, h1, h2, hF.2 mu1 _ H1 s1 r1 ok⟩
          · exact hF.elim
        · exact hF.elim
      | _ => cases htg
    · cases hc

/-! ### enumerate -/
theorem meets_enum_one {v : Value} {o : Obj} {H : Heap → Prop} (B : Begins v o H) :
    Meets (Builtin.«enumerate.__new__» ⟨[.type "enumerate", v], []⟩) (fun _ R s => H s.heap ∧ R (.ok (.ret (.ref (s.heap.push o).objs.size))) { s with heap := (s.heap.push o).push { cls := .type "enumerate", data := .fields #[.none, .bool false, .ref s.heap.objs.size, rawInt 0, .none, .none] } }) :=
  .of_wp fun prog w A R s h => by
    obtain ⟨hp, gg, dd, tk, os⟩ := s
    obtain ⟨h1, h⟩ := h
    have hsub := sub_enumerate
    have r1 : ∀ {A' : Around} {E : Value → Shared → Prop} {Q : Value → Shared → Prop}, Q (.ref hp.objs.size) ⟨hp.push o, gg, dd, tk, os⟩ → wpAny (model prog w) A' (pyIter v) Q E ⟨hp, gg, dd, tk, os⟩ :=
      fun q => B.iter prog w _ _ ⟨hp, gg, dd, tk, os⟩ _ h1 q
    wp_walk using r1
    first
    | exact ⟨_, rfl, h⟩
    | (refine wpAny_stack_any fun st => wpAny_pure (?_ : wpAny _ _ _ _ _ _)
       split
       · rename_i c _ _ _ _ _
         cases (c == Value.type "enumerate")
         · wp_walk using r1
           exact ⟨_, rfl, h⟩
         · wp_walk using r1
           exact ⟨_, rfl, h⟩
       · wp_walk using r1
         exact ⟨_, rfl, h⟩)
section
variable {prog : Program} {w : World} {A : Around} {E : Value → Shared → Prop} {s : Shared}
theorem enum_one {v : Value} {o : Obj} {H : Heap → Prop} {Q : Value → Shared → Prop} (B : Begins v o H) (h1 : H s.heap)
    (f : ∀ h', IsEnum h' (s.heap.objs.size + 1) s.heap.objs.size 0 .none → h'.get? s.heap.objs.size = some o → (∀ b o, s.heap.get? b = some o → h'.get? b = some o) → Q (.ref (s.heap.objs.size + 1)) { s with heap := h' }) :
    wpAny (model prog w) A (call (.type "enumerate") [v]) Q E s := by
  refine callType_new F.called_enumerate (by decide) (F.typeCall_enumerate_1 _) (F.newCall_enumerate_1 _) (fun obj => F.args_object_init_2 obj _) F.entry_enumerate_new (meets_enum_one B) ⟨h1, ?_⟩
  have hz : (s.heap.push o).objs.size = s.heap.objs.size + 1 := Heap.size_push ..
  show _ ∧ _
  rw [hz]
  have he : IsEnum ((s.heap.push o).push { cls := .type "enumerate", data := .fields #[.none, .bool false, .ref s.heap.objs.size, rawInt 0, .none, .none] }) (s.heap.objs.size + 1) s.heap.objs.size 0 .none := by
    have e := Heap.get?_push_size (s.heap.push o) (o := { cls := .type "enumerate", data := .fields #[.none, .bool false, .ref s.heap.objs.size, rawInt 0, .none, .none] }) rfl
    rw [hz] at e; exact e
  exact ⟨⟨_, he, rfl⟩, f _ he (Heap.get?_push_of_some _ (Heap.get?_push_size _ B.free)) fun b o x => Heap.get?_push_of_some _ (Heap.get?_push_of_some _ x)⟩
end
/-- what enumerate tells -/
def ItE (tu : Bool) (K : PySem.W.Frag) (a : Addr) : It :=
  ⟨fun i H => ∃ (xs : List V) (x : V), sqB tu K H a xs ∧ xs[i]? = some x,
    fun i H v H' => ∃ T x, v = .ref T ∧ H T = none ∧ H' = upd H T (.tup [.int (i : Nat), x]) ∧ ∀ xs, sqB tu K H a xs → xs[i]? = some x,
    fun i H => ∃ xs : List V, sqB tu K H a xs ∧ xs.length = i⟩
theorem eapart (I : Nat) : (I + 1 : Addr) ≠ (I : Addr) := fun e => by
  have e' : (I + 1 : Nat) = I := e
  omega
theorem eout (I c : Nat) (h : c < I) : (c : Addr) ∉ ([I + 1, I] : List Addr) := fun z => by
  have z' : c ∈ ([I + 1, I] : List Nat) := z
  simp at z'
  omega
theorem ein (I c : Nat) (h : (c : Addr) ∈ ([I + 1, I] : List Addr)) : I ≤ c := by
  have z' : c ∈ ([I + 1, I] : List Nat) := h
  simp at z'
  omega
theorem turn_E {P : Program} {w : World} {K : PySem.W.Frag} (tu : Bool) {elts : List Expr} {kk : Nat} {tpos : Pos} {a e it : Addr} (ne : e ≠ it) (ma : a ∉ [e, it]) :
    Turn P w K (.Tuple elts kk tpos) (ItE tu K a) [e, it] e (fun i h => (∃ old, IsEnum h e it ((i : Nat) : Int) old) ∧ itB tu h it a i) where
  mem := by simp
  obj := fun i h st c hc => by
    obtain ⟨⟨old, he⟩, k1⟩ := st
    have e' : c = e ∨ c = it := by simpa using hc
    rcases e' with q | q <;> rw [q]
    · exact ⟨_, he, fun v q => nomatch q⟩
    · exact k1.obj
  keep := fun i h h' st k => by
    obtain ⟨⟨old, he⟩, k1⟩ := st
    exact ⟨⟨old, k e (by simp) _ he⟩, k1.at fun o q => k it (by simp) o q⟩
  item := by
    intro X hP hw hK hc i pins s σ H E I hf st hg
    subst hP hw hK
    obtain ⟨⟨old, he⟩, k1⟩ := st
    obtain ⟨xs, x, hx, ex⟩ := hg
    obtain ⟨us, r1, p1, lt1, _⟩ := sqB_open I hx
    obtain ⟨u, hu, ru⟩ := r1.get ex
    have na : a ≠ it := fun q => ma (by simp [q])
    have nea : a ≠ e := fun q => ma (by simp [q])
    have D := draws_B (prog := X.prog) (w := X.w) (A := X.A.in1) (I.ok.hd hc) tu it a na us.toArray
    have lu : i < us.toArray.size := by
      have := (List.getElem?_eq_some_iff.mp hu).1
      simpa using this
    have el : e < s.heap.objs.size := Heap.lt_size he
    have il : it < s.heap.objs.size := by obtain ⟨_, q, _⟩ := k1.obj; exact Heap.lt_size q
    refine wpAny_pyNext_enum_itemC D he ⟨k1, p1⟩ lu ne (by simp only [List.mem_cons, List.not_mem_nil, or_false, not_or]; exact ⟨ne, fun q => nea q.symm⟩) fun x' h' tk ex' ho n1 T' sz hk => ?_
    have e1 : x' = u := by
      have h1 : us[i]? = some x' := by simpa using ex'
      rw [hu] at h1; exact (Option.some.inj h1).symm
    subst e1
    refine ⟨_, rfl, wpAny_letOwnedTupleGo_enum (s := { s with heap := h', toks := tk + 1 }) ho fun h'' he' sb => ?_⟩
    replace sb : Heap.SameBut e h' h'' := sb
    have T2 : h''.get? s.heap.objs.size = some { cls := .type "tuple", data := .seq #[.int i tk, x'] } := (sb.2 _ (Nat.ne_of_gt el)).trans T'
    have new : ObjOk X.prog X.w (upd H s.heap.objs.size (.tup [.int (i : Nat), x])) h'' s.heap.objs.size (.tup [.int (i : Nat), x]) :=
      ⟨by show 2 ≤ sizeLine; decide, [.int i tk, x'], .cons ⟨_, rfl⟩ (.cons ru .nil), ⟨_, T2, rfl, _, rfl⟩⟩
    have I1 : Inv X pins σ (upd H s.heap.objs.size (.tup [.int (i : Nat), x])) { s with heap := h'', toks := tk + 1 } := I.turnedNew (ch := [e, it]) (fun b ob hb q => by
      simp only [List.mem_cons, List.not_mem_nil, or_false, not_or] at hb
      exact (sb.2 b hb.1).trans (hk b ob hb.1 hb.2 q)) hf (Nat.le_refl _) new
    refine ⟨.ref s.heap.objs.size, _, I1, rfl, ⟨_, x, rfl, I.hok.fresh (Nat.le_refl _), rfl, fun ys hy => by rw [sqB_inj I hy hx]; exact ex⟩, ⟨⟨x', ?_⟩, n1.1.at fun o q => (sb.2 it (Ne.symm ne)).trans q⟩, fun b hb => ?_⟩
    · have e1 : ((i + 1 : Nat) : Int) = (i : Int) + 1 := by omega
      rw [e1]; exact he'
    · have hlt : b < s.heap.objs.size := by
        have e' : b = e ∨ b = it := by simpa using hb
        rcases e' with q | q <;> rw [q]
        · exact el
        · exact il
      rw [upd_ne (Nat.ne_of_lt hlt)]
      exact (hf b hb).1
  done := by
    intro X hP hw hK hc i pins s σ H E I hf st hg
    subst hP hw hK
    obtain ⟨⟨old, he⟩, k1⟩ := st
    obtain ⟨xs, hx, hl⟩ := hg
    obtain ⟨us, r1, p1, lt1, _⟩ := sqB_open I hx
    have D := draws_B (prog := X.prog) (w := X.w) (A := X.A.in1) (I.ok.hd hc) tu it a (fun q => ma (by simp [q])) us.toArray
    obtain ⟨f0, f1, f2, f3, f4, f5⟩ := hf it (by simp)
    have ei : us.toArray.size = i := by rw [List.size_toArray, ← r1.length, hl]
    exact wpAny_pyNext_enum_endD D he (by rw [ei]; exact ⟨k1, p1⟩) fun h' eb => ⟨rfl, I.turned (t' := s.toks) (fun b o hb q => eb b o hb q) f0 f1 f3 f4 f5⟩
  self := fun A i s Q E st h => let ⟨⟨_, he⟩, _⟩ := st; wpAny_pyIter_enum he h
def tEnum (K : PySem.W.Frag) (ta : TA) : TI := fun σ H R => ta σ H fun vs H1 => ∃ tu a xs, vs = [.ref a] ∧ sqB tu K H1 a xs ∧ R (ItE tu K a) H1
theorem pi_E {X : Cx} {e : Expr} {ta : TA} {p pos tpos : Pos} {elts : List Expr} {kk : Nat} (hg : Gl X "enumerate") (hm : X.mg "enumerate" = none) (ha : PA X [e] ta) (hs : starEach [e] X.env = [(false, eval e X.env)]) :
    PI X (.Tuple elts kk tpos) (.Call (.Name "enumerate" p) [e] [] pos) (tEnum X.K ta) := by
  refine ⟨fun pins s σ H R I h => ?_⟩
  refine Call_ (ld_blt I hg hm boot_enumerate (PyProof.Rows.callWith_type1 (thn (ha.run pos pins s σ H _ I h) fun us s1 ⟨vs, H1, I1, r1, q1⟩ => ?_) hs rfl))
  obtain ⟨tu, a, xs, ex, hx, q⟩ := q1
  subst ex
  cases r1 with
  | cons r rr =>
    cases rr
    cases r
    obtain ⟨vs1, _, p1, lt1, _⟩ := sqB_open I1 hx
    refine enum_one (begins_B tu a vs1.toArray) p1 fun h' he hit hk => wpAny_pyIter_enum he ?_
    have I2 : Inv X pins σ H1 { s1 with heap := h' } := I1.kept (t' := s1.toks) hk
    refine ⟨s1.heap.objs.size + 1, _, _, _, H1, rfl, I2, turn_E tu (eapart _) (eout _ a lt1), ⟨⟨.none, he⟩, .start hit⟩, fun b hb => ?_, q⟩
    have hle : s1.heap.objs.size ≤ b := ein _ _ hb
    exact I1.fpOk hle (I1.hok.fresh hle)
def numD (xs : List D) : List D := xs.mapIdx fun i x => D.tup [.int i, x]
/-- enumerate(a) -/
def iEnum (a : SemE) : SemI where
  chk N sc e := match e with | .Call (.Name x _) [e] [] _ => decide (x = ("enumerate" : Str)) && glB sc x && chkA [a] N sc [e] | _ => false
  req G k := G.mg "enumerate" = none ∧ reqL [a] G k
  tup := true
  wp en st Q E := a.wp en st (fun d st1 => match seqOf st1 d with
    | some xs => Q (numD xs) (fun s => seqOf s d = some xs) st1
    | _ => False) E
  mono en st Q Q' E E' h f g := a.mono _ _ _ _ _ _ h (fun d s hd => by
    split at hd
    · exact f _ _ _ hd
    · exact hd.elim) g
  sound := by
    intro G k X W tg e gd tk rq ht hc
    split at hc
    · rename_i x px e pos
      simp only [Bool.and_eq_true, decide_eq_true_eq] at hc
      obtain ⟨⟨rfl, hg⟩, ha⟩ := hc
      have pa := pa_sound G k X W gd tk [a] [e] rq.2 ha
      have hm : X.mg "enumerate" = none := by rw [gd.mg]; exact rq.1
      have htg := ht rfl
      cases tg with
      | Tuple elts kk tpos =>
        have base := pi_E (tpos := tpos) (elts := elts) (kk := kk) (p := px) (pos := pos) (glB_ok hg) hm pa (chkA_star ha _)
        refine ⟨fun pins s σ H R I h => base.run pins s σ H R I ?_⟩
        obtain ⟨mu, en, st, Re, h⟩ := h
        refine twa (l := [a]) (F := fun ds st2 => match ds with
          | [d] => (match seqOf st2 d with
            | some xs => PostI G mu H R (numD xs) (fun s => seqOf s d = some xs) st2
            | _ => False)
          | _ => False) Re (a.mono _ _ _ _ _ _ h (fun d s hd => hd) fun _ _ h => h) fun ds st1 mu1 vs H1 hF s1 r1 q1 => ?_
        split at hF
        · rename_i d
          obtain ⟨v, rfl, r2⟩ := q1.one
          split at hF
          · rename_i xs e1
            obtain ⟨a1, tu, rfl, f1⟩ := seqB_at gd r1 e1 r2
            obtain ⟨us, h1, _⟩ := f1 mu1 H1 st1 (Step.refl _ _) r1 e1
            refine ⟨tu, a1, us, rfl, h1, hF mu1 _ H1 s1 r1 fun mu2 st2 H2 s2 R2 ho i => ?_⟩
            obtain ⟨ws, g1, k1⟩ := f1 mu2 H2 st2 s2 R2 ho
            refine ⟨fun d hd => ?_, fun hl => ⟨ws, g1, ?_⟩⟩
            · unfold numD at hd
              rw [List.getElem?_mapIdx] at hd
              cases ex : xs[i]? with
              | none => rw [ex] at hd; cases hd
              | some x =>
                rw [ex] at hd
                cases hd
                obtain ⟨u, eu, ru⟩ := k1.get ex
                refine ⟨⟨ws, u, g1, eu⟩, fun z H' hy => ?_⟩
                obtain ⟨T, u', rfl, hT, rfl, w1⟩ := hy
                have eu' := (w1 ws g1).symm.trans eu
                cases eu'
                have s3 : Step mu2 H2 mu2 (upd H2 T (.tup [.int (i : Nat), u])) := Step.newV hT
                exact ⟨s3, R2.newV hT, T, [.int (i : Nat), u], rfl, .of upd_same, _, [u], rfl, rfl, u, [], rfl, ru.step s3, rfl⟩
            · rw [← k1.len]
              unfold numD at hl
              simpa using hl
          · exact hF.elim
        · exact hF.elim
      | _ => cases htg
    · cases hc
end Mi
namespace Mi
open PySem PySem.Spec PyProof.Rows L2

/-! ### a tuple times an int -/
theorem tmul_same (l : Addr) (items : Array Value) (n : Nat) (dd : Option Addr) (sl : Array (Option Value)) (x : Int) (u : Tok) (c0 : (decide (x < -(2 ^ 63)) || decide (x ≥ 2 ^ 63)) = false) (c1 : (items.isEmpty || x == 1) = true) :
    Meets (Builtin.«tuple.__mul__» ⟨[.ref l, .int x u], []⟩) (fun _ R s => s.heap.get? l = some { cls := .type "tuple", dict := dd, data := .seq items n, slots := sl } ∧ R (.ok (.ret (Value.ref l))) s) :=
  .of_wp fun prog w A R s h => by
    obtain ⟨hp, gg, d, tk, os⟩ := s
    obtain ⟨hl, h⟩ := h
    have f1 := AutoSeq1.idx_int
    wp_walk using wpAny_loadPart' hl
    repeat (first
      | (refine wpAny_ite_false (decide_eq_false (by rw [c0]; exact Bool.false_ne_true)) ?_; wp_walk using wpAny_loadPart' hl)
      | (refine wpAny_ite_true (decide_eq_true c1) ?_; wp_walk using wpAny_loadPart' hl))
    exact ⟨_, rfl, h⟩
theorem tmul_none (l : Addr) (items : Array Value) (n : Nat) (dd : Option Addr) (sl : Array (Option Value)) (x : Int) (u : Tok) (c0 : (decide (x < -(2 ^ 63)) || decide (x ≥ 2 ^ 63)) = false) (c1 : (items.isEmpty || x == 1) = false) (c2 : (decide (x ≤ 0) || items.isEmpty) = true) :
    Meets (Builtin.«tuple.__mul__» ⟨[.ref l, .int x u], []⟩) (fun _ R s => s.heap.get? l = some { cls := .type "tuple", dict := dd, data := .seq items n, slots := sl } ∧
      R (.ok (.ret (Value.ref s.heap.objs.size))) { s with heap := s.heap.push { cls := Value.type "tuple", data := Data.seq #[] }, toks := s.toks }) :=
  .of_wp fun prog w A R s h => by
    obtain ⟨hp, gg, d, tk, os⟩ := s
    obtain ⟨hl, h⟩ := h
    have f1 := AutoSeq1.idx_int
    wp_walk using wpAny_loadPart' hl
    repeat (first
      | (refine wpAny_ite_false (decide_eq_false (by rw [c0]; exact Bool.false_ne_true)) ?_; wp_walk using wpAny_loadPart' hl)
      | (refine wpAny_ite_false (decide_eq_false (by rw [c1]; exact Bool.false_ne_true)) ?_; wp_walk using wpAny_loadPart' hl)
      | (refine wpAny_ite_true (decide_eq_true c2) ?_; wp_walk using wpAny_loadPart' hl))
    exact ⟨_, rfl, h⟩
def CRep (k : Int) (n : Nat) : Prop := -1000 ≤ k ∧ k ≤ 1000 ∧ n ≤ 1000
theorem CRep.c0 {k : Int} {n : Nat} (c : CRep k n) : (decide (k < -(2 ^ 63)) || decide (k ≥ 2 ^ 63)) = false := by
  obtain ⟨h1, h2, _⟩ := c
  rw [decide_eq_false (by omega), decide_eq_false (by omega)] <;> rfl
theorem isE {α : Type} (l : List α) : l.toArray.isEmpty = l.isEmpty := by cases l <;> rfl
def rTimT (K : PySem.W.Frag) : R2 := fun x y H Q => ∃ l k xs, x = .ref l ∧ y = .int k ∧ SqT K H l xs ∧ CRep k xs.length ∧ ((xs = [] ∨ k = 1) → Q (.ref l) H) ∧ (¬ (xs = [] ∨ k = 1) → ∀ p, H p = none → Q (.ref p) (upd H p (.tup (List.replicate k.toNat xs).flatten)))
theorem op_timT {X : Cx} : OpR X (binaryOp .Mult) (rTimT X.K) := by
  intro pins s σ H x y v u Q I rx ry h
  obtain ⟨l, k, xs, rfl, rfl, hT, hc, q1, q2⟩ := h
  by_cases hs : xs = [] ∨ k = 1
  · cases rx
    obtain ⟨t, rfl⟩ := ry
    obtain ⟨its, r, ⟨⟨cls, dd, data, sl⟩, ho, hcl, n, hd⟩, hz⟩ := I.tuple hT
    simp only at hcl hd
    subst hcl hd
    have c1 : (its.toArray.isEmpty || k == 1) = true := by
      rcases hs with e | e
      · rw [isE, (r.nil_iff).mpr e]; rfl
      · rw [e]; simp
    refine wpAny_binaryOp_repeat_ref (T := "tuple") (U := "int") (by decide) ⟨_, ho, rfl⟩ (fun s' => typeIs_int s' k t) noFill_tuple_mul F.fills_int_mul F.slot_int_rmul repeat_tuple F.slot_int_index.lookup
      (call_meets F.slot_int_rmul (typeIs_int s k t) F.entry_int_rmul (F.args_int_rmul_2 _ _) (int_rmul_tuple k t l its.toArray n dd sl)
        ⟨ho, rfl, ⟨_, ho, rfl⟩, call_meets F.slot_tuple_mul ⟨_, ho, rfl⟩ F.entry_tuple_mul (F.args_tuple_mul_2 _ _) (tmul_same l its.toArray n dd sl k t hc.c0 c1) ⟨ho, ?_⟩⟩)
    exact ⟨.ref l, H, I, rfl, q1 hs⟩
  · have hne : xs ≠ [] := fun e => hs (.inl e)
    have hk1 : k ≠ 1 := fun e => hs (.inr e)
    by_cases h2 : 2 ≤ k
    · exact op_repT pins s σ H _ _ v u Q I rx ry ⟨l, k, xs, rfl, rfl, hT, hne, h2, hc.2.1, hc.2.2, q2 hs⟩
    · cases rx
      obtain ⟨t, rfl⟩ := ry
      obtain ⟨its, r, ⟨⟨cls, dd, data, sl⟩, ho, hcl, n, hd⟩, hz⟩ := I.tuple hT
      simp only at hcl hd
      subst hcl hd
      have c1 : (its.toArray.isEmpty || k == 1) = false := by
        rw [isE, beq_eq_false_iff_ne.mpr hk1, Bool.or_false]
        cases its with
        | nil => exact absurd (r.nil_iff.mp rfl) hne
        | cons a b => rfl
      have c2 : (decide (k ≤ 0) || its.toArray.isEmpty) = true := by rw [decide_eq_true (by omega)]; rfl
      refine wpAny_binaryOp_repeat_ref (T := "tuple") (U := "int") (by decide) ⟨_, ho, rfl⟩ (fun s' => typeIs_int s' k t) noFill_tuple_mul F.fills_int_mul F.slot_int_rmul repeat_tuple F.slot_int_index.lookup
        (call_meets F.slot_int_rmul (typeIs_int s k t) F.entry_int_rmul (F.args_int_rmul_2 _ _) (int_rmul_tuple k t l its.toArray n dd sl)
          ⟨ho, rfl, ⟨_, ho, rfl⟩, call_meets F.slot_tuple_mul ⟨_, ho, rfl⟩ F.entry_tuple_mul (F.args_tuple_mul_2 _ _) (tmul_none l its.toArray n dd sl k t hc.c0 c1 c2) ⟨ho, ?_⟩⟩)
      have ek : k.toNat = 0 := by omega
      have e0 : (List.replicate k.toNat xs).flatten = [] := by rw [ek]; rfl
      have q3 := q2 hs
      rw [e0] at q3
      refine ⟨.ref s.heap.objs.size, _, I.laid (t' := s.toks) (o := .tup []) (fun b ob q => Heap.get?_push_of_some _ q) (Nat.le_refl _) ?_, rfl, q3 _ (I.hok.fresh (Nat.le_refl _))⟩
      exact ⟨Nat.zero_le _, [], .nil, IsTup.new _ _⟩
theorem RVs.rep {K : PySem.W.Frag} {mu : Mu} {H : Hp} {ds : List D} {vs : List V} (r : RVs K mu H ds vs) : ∀ n : Nat, RVs K mu H (List.replicate n ds).flatten (List.replicate n vs).flatten
  | 0 => rfl
  | n + 1 => by
    rw [List.replicate_succ, List.replicate_succ, List.flatten_cons, List.flatten_cons]
    exact r.app (r.rep n)
def wpMul (m : Bool) (x y : D) (st : Sto) (Q : QD) : Prop := match x, y with
  | .int i, .int j => CMul i j ∧ Q (.int (i * j)) st
  | .tup ds, .int k => CRep k ds.length ∧ Q (.tup (List.replicate k.toNat ds).flatten) st
  | x, .int k => (match lstOf st x with
    | some ds => CRep k ds.length ∧ newL m (List.replicate k.toNat ds).flatten st Q
    | none => False)
  | _, _ => False
theorem bound_rep {k : Int} {n : Nat} (c : CRep k n) : n * k.toNat ≤ sizeLine := by
  rw [sizeLine_eq]
  have h1 : n * k.toNat ≤ 1000 * 1000 := Nat.mul_le_mul c.2.2 (by have := c.2.1; omega)
  omega
def opMul (m : Bool) : OpD (binaryOp .Mult) where
  wp := wpMul m
  mono x y st Q Q' h f := by
    unfold wpMul at h ⊢
    split at h
    · exact ⟨h.1, f _ _ h.2⟩
    · exact ⟨h.1, f _ _ h.2⟩
    · split at h
      · exact ⟨h.1, newL_mono h.2 f⟩
      · exact h.elim
    · exact h.elim
  sound := by
    intro G k X gd pins s σ H xv yv v u Q I rx ry h
    obtain ⟨mu, st, x, y, R, hx, hy, h⟩ := h
    unfold wpMul at h
    split at h
    · cases (show xv = V.int _ from hx); cases (show yv = V.int _ from hy)
      exact op_mul pins s σ H _ _ v u Q I rx ry ⟨_, _, rfl, rfl, h.1, h.2 mu _ H (Step.refl _ _) R rfl⟩
    · rename_i ds k'
      obtain ⟨a, vs, rfl, h1, r1⟩ := hx
      cases (show yv = V.int _ from hy)
      have e1 := r1.len
      refine op_timT pins s σ H _ _ v u Q I rx ry ⟨a, k', vs, rfl, rfl, gd.K' (P := fun K => SqT K H a vs) h1, by rw [← e1]; exact h.1, fun e => ?_, fun _ p hp => new_tup (Step.refl _ _) R (r1.rep _) h.2 hp⟩
      refine h.2 mu _ H (Step.refl _ _) R ⟨a, vs, rfl, h1, ?_⟩
      rcases e with e | e
      · have ed : ds = [] := List.eq_nil_of_length_eq_zero (by rw [e1, e]; rfl)
        rw [ed, e]
        have : ∀ n : Nat, (List.replicate n ([] : List D)).flatten = [] := fun n => by simp
        rw [this]
        rfl
      · rw [e]
        show RVs G.K mu H (List.replicate 1 ds).flatten vs
        simpa using r1
    · split at h
      · rename_i ds e1
        obtain ⟨a, vs, rfl, h1, r1⟩ := lst_at R e1 hx
        cases (show yv = V.int _ from hy)
        exact op_rep pins s σ H _ _ v u Q I rx ry ⟨a, _, vs, rfl, rfl, h1, by have := h.1.1; omega, by have := h.1.2.1; omega, by rw [← r1.len]; exact bound_rep h.1, fun p hp => new_list m (Step.refl _ _) R (r1.rep _) h.2 hp⟩
      · exact h.elim
    · exact h.elim
/-- -e -/
def eNeg (a : SemE) : SemE where
  chk N sc e := match e with | .UnaryOp .USub x _ => a.chk N sc x | _ => false
  req := a.req
  wp en st Q E := a.wp en st (fun d st1 => match d with | .int i => Q (.int (-i)) st1 | _ => False) E
  mono en st Q Q' E E' h f g := a.mono _ _ _ _ _ _ h (fun d s hd => by
    split at hd
    · exact f _ _ hd
    · exact hd.elim) g
  sound := by
    intro G k X W e gd tk rq hc
    split at hc
    · rename_i x p
      have base := pe_un (pos := p) un_neg (a.sound G k X W x gd tk rq hc)
      refine ⟨fun pins s σ H Q I h => base.run pins s σ H Q I ?_⟩
      obtain ⟨mu, en, st, R, h⟩ := h
      refine tw1 a.mono R h fun d st1 mu1 v H1 hF s1 r1 q1 => ?_
      split at hF
      · cases (show v = V.int _ from q1)
        exact ⟨_, rfl, hF mu1 _ H1 s1 r1 rfl⟩
      · exact hF.elim
    · cases hc
/-! ### repr -/
/-- what can be shown -/
def repOk (p : PyData) : Prop := p.canLay0 = true ∧ p.showable = true ∧ p.depth ≤ 60 ∧ p.shown.length ≤ sizeLine
theorem repr_run {G : GEnv} {k : Nat} {X : Cx} (gd : Good G k X) {mu : Mu} {H : Hp} {st : Sto} (R : RelS G.K G.w mu H st) {d : D} {v : V} (r : RV G.K mu H d v) (ok : repOk (toPy (lookD st d))) {pins : List (Addr × Obj)} {s : Shared} {σ : L2.St} {u : Value} {Q : VK} (I : Inv X pins σ H s) (ru : RelV v u)
    (h : Q (.str (toPy (lookD st d)).shown) H) : wpAny (model X.prog X.w) X.A (call (.builtin "repr") [u]) (EP X pins σ Q) X.xe s := by
  obtain ⟨c1, c2, c3, c4⟩ := ok
  have dp := look_dp R r c1
  obtain ⟨as, rd⟩ := Dp.reads I _ v u (gd.K' (P := fun K => Dp K H _ _) dp) ru
  have fin : ∀ tk, EP X pins σ Q (.str (toPy (lookD st d)).shown s.toks) { s with toks := tk } := fun tk => ⟨.str _, H, I.tok _, ⟨_, rfl⟩, h⟩
  have ref : ∀ a, u = .ref a → wpAny (model X.prog X.w) X.A (call (.builtin "repr") [u]) (EP X pins σ Q) X.xe s := fun a e => by
    subst e
    refine repr_of_reads' rd c2 (PyData.noDict_hsm (PyData.hasDict_of_canLay _ c1)) gd.guards (by have := gd.room.units; omega) (fun _ _ e => e) (fun h' u' tk hk => ?_) c4
    exact ⟨.str _, H, I.kept hk, ⟨_, rfl⟩, h⟩
  generalize hp : toPy (lookD st d) = p at rd c2 c4 fin h ref
  cases p with
  | none => cases rd; exact PySem.P.repr_of_none (fin _)
  | bool b => cases rd; exact PySem.P.repr_of_bool (fin _)
  | int i => cases rd; exact PySem.P.repr_of_int (of_decide_eq_true c2) (fin _)
  | str x => cases rd; exact PySem.P.repr_of_str (fin _) c4
  | list xs => cases rd; exact ref _ rfl
  | tuple xs => cases rd; exact ref _ rfl
  | dict xs => cases rd; exact ref _ rfl
def bRepr : BIn where
  name := "repr"
  val := .builtin "repr"
  wp ds st Q := match ds with
    | [d] => repOk (toPy (lookD st d)) ∧ Q (.str (toPy (lookD st d)).shown) st
    | _ => False
  mono ds st Q Q' h f := by
    split at h
    · exact ⟨h.1, f _ _ h.2⟩
    · exact h.elim
  sound := by
    intro G k X gd pins s σ H xs us Q I r h
    obtain ⟨mu, st, ds, R, rv, h⟩ := h
    split at h
    · rename_i d
      obtain ⟨v, rfl, r1⟩ := rv.one
      obtain ⟨u, rfl, ru⟩ := vals1 r
      exact repr_run gd R r1 h.1 I ru (h.2 mu _ H (Step.refl _ _) R rfl)
    · exact h.elim
  boot := by decide +kernel
  kind := .inl ⟨_, rfl⟩
  nm := by decide +kernel
end Mi
namespace Mi
open PySem PySem.Spec PyProof.Rows L2

/-! ### x[::-1] -/
section
variable {prog : Program} {w : World} {A : Around} {E : Value → Shared → Prop} {s : Shared}
theorem adjust_rev (n : Nat) : Builtin.Slice.sliceAdjust none none (-1) (n : Int) = ((n : Int) - 1, -1) := by
  unfold Builtin.Slice.sliceAdjust
  simp
theorem places_rev (n : Nat) : Builtin.Slice.slicePlaces ((n : Int) - 1) (-1) (-1) = n := by
  unfold Builtin.Slice.slicePlaces
  rw [if_neg (by decide)]
  by_cases h : (n : Int) - 1 > -1
  · rw [if_pos h]
    have e : ((n : Int) - 1 - -1 - 1) / (- -1) = (n : Int) - 1 := by
      rw [show (- -1 : Int) = 1 by decide, Int.ediv_one]; omega
    rw [e]; omega
  · rw [if_neg h]; omega
theorem applied_rev {sl : Addr} {vs : Value} {n : Nat} {Q : Int × Int × Nat → Shared → Prop} (hs : s.heap.IsSliceOf sl .none .none vs) (ps : IsPart vs (some (-1))) (h : Q ((n : Int) - 1, -1, n) s) :
    wpAny (model prog w) A (Builtin.Slice.sliceApplied (.ref sl) (pure (n : Int))) Q E s := by
  obtain ⟨os, ho, hcs, hd⟩ := id hs
  unfold Builtin.Slice.sliceApplied Builtin.Slice.sliceFields
  refine wpAny_bind (wpAny_bind (wpAny_field ho hd (x := .none) rfl (wpAny_bind (wpAny_field ho hd (x := .none) rfl (wpAny_bind (wpAny_field ho hd (x := vs) rfl (wpAny_pure (?_ : wpAny _ _ _ _ _ _))))))))
  refine wpAny_bind (HT.slicePart_ ps (?_ : wpAny _ _ _ _ _ _))
  show wpAny _ _ (if ((-1 : Int) == 0) = true then _ else _) _ _ s
  rw [if_neg (by decide)]
  refine wpAny_bind (HT.slicePart_ .none (wpAny_bind (HT.slicePart_ .none (wpAny_bind (wpAny_pure (?_ : wpAny _ _ _ _ _ _))))))
  show wpAny _ _ (match Builtin.Slice.sliceAdjust none none (-1) (n : Int) with | (lo, hi) => pure (lo, (-1 : Int), Builtin.Slice.slicePlaces lo hi (-1))) _ _ s
  rw [adjust_rev]
  show wpAny _ _ (pure ((n : Int) - 1, (-1 : Int), Builtin.Slice.slicePlaces ((n : Int) - 1) (-1) (-1))) _ _ s
  rw [places_rev]
  exact wpAny_pure h
theorem pick_rev (xs : Array Value) : ((List.range xs.size).filterMap fun (m : Nat) => xs[(((xs.size : Nat) : Int) - 1 + (m : Int) * -1).toNat]?).toArray = xs.toList.reverse.toArray := by
  congr 1
  apply List.ext_getElem?
  intro i
  have gen : ∀ (l : List Nat) (f g : Nat → Option Value), (∀ m ∈ l, f m = g m) → l.filterMap f = l.filterMap g := by
    intro l f g h
    induction l with
    | nil => rfl
    | cons a l ih => rw [List.filterMap_cons, List.filterMap_cons, h a List.mem_cons_self, ih fun m hm => h m (List.mem_cons_of_mem _ hm)]
  have e := gen (List.range xs.size) (fun (m : Nat) => xs[(((xs.size : Nat) : Int) - 1 + (m : Int) * -1).toNat]?) (fun (m : Nat) => xs.toList.reverse[m]?) fun m hm => by
    have hm' := List.mem_range.mp hm
    have e1 : (((xs.size : Nat) : Int) - 1 + (m : Int) * -1).toNat = xs.size - 1 - m := by omega
    show xs[_]? = _
    rw [e1, List.getElem?_reverse (by simpa using hm')]
    simp
  rw [e]
  have h2 := PySem.W.krv_all xs.toList.reverse.toArray
  simp only [List.size_toArray, List.length_reverse, Array.length_toList, List.getElem?_toArray] at h2
  rw [h2]
theorem item_rev {t sl : Addr} {items : Array Value} {vs : Value} {Q : Value → Shared → Prop} (ht : IsTup s.heap t items) (hs : s.heap.IsSliceOf sl .none .none vs) (ps : IsPart vs (some (-1)))
    (h : Q (.ref s.heap.objs.size) { s with heap := s.heap.push { cls := .type "tuple", data := .seq items.toList.reverse.toArray } }) (hsz : items.size ≤ sizeLine) : wpAny (model prog w) A (getItem (.ref t) (.ref sl)) Q E s := by
  obtain ⟨os, hos, hcs, hds⟩ := id hs
  have ty : s.TypeIs (.ref sl) "slice" := ⟨os, hos, hcs⟩
  unfold getItem
  try with_reducible refine wpAny_holding (?_ : wpAny _ _ _ _ _ _)
  first | refine wpAny_bind (wpAny_pure (?_ : wpAny _ _ _ _ _ _)) | skip
  refine wpAny_bind (wpAny_sequenceKey ht.typeIs (by decide) (?_ : wpAny _ _ _ _ _ _))
  refine wpAny_bind (wpAny_callSpecial?_slot (name := Str.ofString "__getitem__") ht.typeIs PyProof.Rows.slot_tuple_getitem
    (wpAny_call_entry PyProof.Rows.slot_tuple_getitem ht.typeIs entry_tuple_getitem (?_ : wpAny _ _ _ _ _ _) (args_tuple_getitem _ _)))
  show wpAny _ _ (Builtin.Tuple.tupleItemsOf (.ref t) >>= _) _ _ s
  refine wpAny_bind (tupleItemsOf_ ht (?_ : wpAny _ _ _ _ _ _))
  refine wpAny_bind (wpAny_typeOf ty (?_ : wpAny _ _ _ _ _ _))
  rw [if_pos (by decide)]
  refine wpAny_bind (applied_rev hs ps (?_ : wpAny _ _ _ _ _ _))
  show wpAny _ _ (if ((((items.size : Nat) : Int) - 1) == 0 && (-1 : Int) == 1 && items.size == items.size) = true then _ else _) _ _ s
  rw [if_neg (by simp)]
  show wpAny _ _ (Builtin.Tuple.tupleExact ((List.range items.size).filterMap fun (m : Nat) => items[(((items.size : Nat) : Int) - 1 + (m : Int) * -1).toNat]?).toArray >>= _) _ _ s
  rw [pick_rev]
  refine wpAny_bind (?_ : wpAny _ _ _ _ _ _)
  unfold Builtin.Tuple.tupleExact
  refine wpAny_newObj_type (wpAny_pure ⟨_, rfl, wpAny_pure h⟩) ?_
  show items.toList.reverse.toArray.size ≤ sizeLine
  simpa using hsz
end
def tRevT (K : PySem.W.Frag) (te : TE) : TE := fun σ H Q => te σ H fun x H1 => ∃ a xs, x = .ref a ∧ SqT K H1 a xs ∧ ∀ p, H1 p = none → Q (.ref p) (upd H1 p (.tup xs.reverse))
def tRevA (K : PySem.W.Frag) (te : TE) : TE := fun σ H Q => te σ H fun x H1 => ∃ (tu : Bool) (a : Addr) (xs : List V), x = .ref a ∧ sqB tu K H1 a xs ∧ ∀ p, H1 p = none → Q (.ref p) (upd H1 p (match tu with | true => .tup xs.reverse | false => .lst xs.reverse))
theorem pe_revA {X : Cx} {e : Expr} {te : TE} {k : Nat} {p1 p2 p3 pos : Pos} (he : PE X e te) : PE X (.Subscript e (.Slice none none (some (.UnaryOp .USub (.Constant (.int 1) k p1) p2)) p3) pos) (tRevA X.K te) := by
  refine ⟨fun pins s σ H Q I h => ?_⟩
  refine Subscript_ (thn (he.run pins s σ H _ I h) fun v s1 ⟨x, H1, I1, r1, q1⟩ => ?_)
  obtain ⟨tu, a, xs, ex, hx, q⟩ := q1
  subst ex
  cases r1
  have hst : PO X (some (.UnaryOp .USub (.Constant (.int 1) k p1) p2)) (tPart (tUn (rU fun i => .int (-i)) (tC (.int 1)))) := po_some (pe_un un_neg pe_int)
  refine wpAny_Slice (thn (po_none.run pins s1 σ H1 (fun o H2 => o = none ∧ H2 = H1) I1 ⟨rfl, rfl⟩) fun vl s2 ⟨l, H2, I2, pl, el, e2⟩ => ?_)
  subst el e2
  refine thn (po_none.run pins s2 σ H2 (fun o H3 => o = none ∧ H3 = H2) I2 ⟨rfl, rfl⟩) fun vu s3 ⟨u, H3, I3, pu, eu, e3⟩ => ?_
  subst eu e3
  refine thn (hst.run pins s3 σ H3 (fun o H4 => o = some (-1) ∧ H4 = H3) I3 ⟨1, rfl, -1, rfl, rfl, rfl⟩) fun vs s4 ⟨o, H4, I4, ps, eo, e4⟩ => ?_
  subst eo e4
  have I5 : Inv X pins σ H4 { s4 with heap := s4.heap.push { cls := .type "slice", data := .fields #[vl, vu, vs] } } := I4.kept (t' := s4.toks) fun b ob q => Heap.get?_push_of_some _ q
  cases pl
  cases pu
  show wpAny (model X.prog X.w) X.A (subscriptTail e (.Slice none none (some (.UnaryOp .USub (.Constant (.int 1) k p1) p2)) p3) (.ref a) (.ref s4.heap.objs.size)) (EP X pins σ Q) X.xe { s4 with heap := s4.heap.push { cls := .type "slice", data := .fields #[.none, .none, vs] } }
  cases tu with
  | false =>
    obtain ⟨its, r, ht, hz⟩ := I5.list hx
    have hlen := r.length
    refine tail_any (ops := [.ref a, .ref s4.heap.objs.size]) ht.isList.typeIs (PySem.slot_list_getitem.lookup) ?_ (by with_unfolding_all rfl)
    refine wpAny_getItem_list_slice ht.isList (Heap.IsSliceOf.new _ .none .none vs) .none .none ps (by decide) ?_ (by rw [List.size_toArray]; omega)
    rw [PySem.W.krv_pick]
    refine ⟨.ref _, _, I5.laid (t' := s4.toks) (o := .lst xs.reverse) (fun b ob q => Heap.get?_push_of_some _ q) (Nat.le_refl _) ?_, rfl, q _ (I5.hok.fresh (Nat.le_refl _))⟩
    exact ⟨by rw [List.length_reverse]; exact hz, _, 0, r.reverse, Heap.get?_push_size _ rfl⟩
  | true =>
    obtain ⟨its, r, ht, hz⟩ := I5.tuple hx
    have hlen := r.length
    refine tail_any (ops := [.ref a, .ref s4.heap.objs.size]) ht.typeIs (PyProof.Rows.slot_tuple_getitem.lookup) ?_ (by with_unfolding_all rfl)
    refine item_rev ht (Heap.IsSliceOf.new _ .none .none vs) ps ?_ (by rw [List.size_toArray]; omega)
    refine ⟨.ref _, _, I5.laid (t' := s4.toks) (o := .tup xs.reverse) (fun b ob q => Heap.get?_push_of_some _ q) (Nat.le_refl _) ?_, rfl, q _ (I5.hok.fresh (Nat.le_refl _))⟩
    exact ⟨by rw [List.length_reverse]; exact hz, _, r.reverse, IsTup.new _ _⟩
theorem RVs.rev {K : PySem.W.Frag} {mu : Mu} {H : Hp} : ∀ {ds : List D} {vs : List V}, RVs K mu H ds vs → RVs K mu H ds.reverse vs.reverse
  | [], _, h => by rw [show _ = [] from h]; rfl
  | d :: ds, _, ⟨v, r, e, h, t⟩ => by
    rw [e, List.reverse_cons, List.reverse_cons]
    exact (RVs.rev t).app ⟨v, [], rfl, h, rfl⟩
/-- e[::-1] -/
def eRev (m : Bool) (a : SemE) : SemE where
  chk N sc e := match e with | .Subscript x (.Slice none none (some (.UnaryOp .USub (.Constant (.int 1) _ _) _)) _) _ => a.chk N sc x | _ => false
  req := a.req
  wp en st Q E := a.wp en st (fun d st1 => match d with
    | .tup ds => Q (.tup ds.reverse) st1
    | d => (match lstOf st1 d with | some ds => newL m ds.reverse st1 Q | none => False)) E
  mono en st Q Q' E E' h f g := a.mono _ _ _ _ _ _ h (fun d s hd => by
    split at hd
    · exact f _ _ hd
    · split at hd
      · exact newL_mono hd f
      · exact hd.elim) g
  sound := by
    intro G k X W e gd tk rq hc
    split at hc
    · rename_i x k1 p1 p2 p3 pos
      have base := pe_revA (pos := pos) (p1 := p1) (p2 := p2) (p3 := p3) (k := k1) (a.sound G k X W x gd tk rq hc)
      refine ⟨fun pins s σ H Q I h => base.run pins s σ H Q I ?_⟩
      obtain ⟨mu, en, st, R, h⟩ := h
      refine tw1 a.mono R h fun d st1 mu1 v H1 hF s1 r1 q1 => ?_
      split at hF
      · rename_i ds
        obtain ⟨b, vs, rfl, h1, r2⟩ := q1
        exact ⟨true, b, vs, rfl, gd.K' (P := fun K => SqT K H1 b vs) h1, fun p hp => new_tup s1 r1 r2.rev hF hp⟩
      · split at hF
        · rename_i ds e1
          obtain ⟨b, vs, rfl, h1, r2⟩ := lst_at r1 e1 q1
          exact ⟨false, b, vs, rfl, .of h1, fun p hp => new_list m s1 r1 r2.rev hF hp⟩
        · exact hF.elim
    · cases hc
end Mi
namespace Mi
open PySem PySem.Spec PyProof.Rows L2

/-! ### what the meanings are, for simp -/
section
variable {en : Env} {st : Sto} {Q : QD} {E : QX} {a b c : SemE} {N : EndsD} {t : SemT}
@[simp] theorem w_var {i : Nat} : (eVar i).wp en st Q E = (match en[i]? with | some (some d) => Q d st | _ => False) := rfl
@[simp] theorem w_int {i : Int} : (eInt i).wp en st Q E = Q (.int i) st := rfl
@[simp] theorem w_bl {i : Bool} : (eBl i).wp en st Q E = Q (.bl i) st := rfl
@[simp] theorem w_str {i : Str} : (eStr i).wp en st Q E = Q (.str i) st := rfl
@[simp] theorem w_none : (eNone).wp en st Q E = Q .non st := rfl
@[simp] theorem w_bin {op : Operator} {o : OpD (binaryOp op)} : (eBin op o a b).wp en st Q E = a.wp en st (fun x st1 => b.wp en st1 (fun y st2 => o.wp x y st2 Q) E) E := rfl
@[simp] theorem w_not : (eNot a).wp en st Q E = a.wp en st (fun x st1 => match x with | .bl b => Q (.bl (!b)) st1 | _ => False) E := rfl
@[simp] theorem w_if {t : SemT} : (eIf t a b).wp en st Q E = t.wp en st (fun c st1 => match c with | true => a.wp en st1 Q E | false => b.wp en st1 Q E) E := rfl
@[simp] theorem w_tup {l : List SemE} : (eTup l).wp en st Q E = wpA l en st (fun ds st1 => ds.length ≤ sizeLine ∧ Q (.tup ds) st1) E := rfl
@[simp] theorem w_list {m : Bool} {l : List SemE} : (eList m l).wp en st Q E = wpA l en st (fun ds st1 => ds.length ≤ sizeLine ∧ newL m ds st1 Q) E := rfl
@[simp] theorem w_ix : (eIx a b).wp en st Q E = a.wp en st (fun x st1 => b.wp en st1 (fun y st2 => (∀ z, x = .str z → z.length ≤ sizeLine) ∧ match ixD st2 x y with | some d => Q d st2 | none => False) E) E := rfl
@[simp] theorem w_sl {m : Bool} {lo hi : Option SemE} : (eSl m a lo hi).wp en st Q E = a.wp en st (fun x st1 => wpO lo en st1 (fun l st2 => wpO hi en st2 (fun h st3 => wpSl m x l h st3 Q) E) E) E := rfl
@[simp] theorem w_B {f : BIn} {l : List SemE} : (eB f l).wp en st Q E = wpA l en st (fun ds st1 => f.wp ds st1 Q) E := rfl
@[simp] theorem w_call {x : Str} {S : SpecD} {d : List D} {l : List SemE} : (eCall x S d l).wp en st Q E = wpA l en st (fun ds st1 => ds.length + d.length = S.ar ∧ S.run (ds ++ d) st1 Q E) E := rfl
theorem w_comp {m : Bool} {t : Tg} {own : List (Str × Nat)} {i : SemI} {c : Option SemT} {e : SemE} : (eComp m t own i c e).wp en st Q E = i.wp en st (fun items ok st1 => compD t (own.map Prod.snd) (wpC c) e.wp ok en (fun ds st2 => newL m ds st2 Q) items [] st1) E := rfl
@[simp] theorem w_neg : (eNeg a).wp en st Q E = a.wp en st (fun d st1 => match d with | .int i => Q (.int (-i)) st1 | _ => False) E := rfl
@[simp] theorem w_rev {m : Bool} : (eRev m a).wp en st Q E = a.wp en st (fun d st1 => match d with
    | .tup ds => Q (.tup ds.reverse) st1
    | d => (match lstOf st1 d with | some ds => newL m ds.reverse st1 Q | none => False)) E := rfl
@[simp] theorem w_meth1 {m : MtL} : (eMeth1 m a b).wp en st Q E = a.wp en st (fun o st1 => (refL st1 o).isSome = true ∧ b.wp en st1 (fun y st2 => match refL st2 o with
    | some (n, xs) => (match m.f xs [y] st2 with | some (ys, z) => Q z (st2.set n (.lst ys)) | none => False)
    | none => False) E) E := rfl
@[simp] theorem w_cmp {op : CmpOp} {o : OpD (compareOp op)} : (eCmp op o a b).wp en st Q E = a.wp en st (fun x st1 => b.wp en st1 (fun y st2 => o.wp x y st2 Q) E) E := rfl
@[simp] theorem w_and {l : List SemE} {h} : (eAnd l h).wp en st Q E = wpAndL l en st Q E := rfl
@[simp] theorem w_or {l : List SemE} {h} : (eOr l h).wp en st Q E = wpOrL l en st Q E := rfl
variable {R : Bool → Sto → Prop}
@[simp] theorem w_tV : (tV a).wp en st R E = a.wp en st (fun x st1 => match x with | .bl b => R b st1 | _ => False) E := rfl
@[simp] theorem w_tCm {op : CmpOp} {o : OpD (compareOp op)} : (tCm op o a b).wp en st R E = a.wp en st (fun x st1 => b.wp en st1 (fun y st2 => o.wp x y st2 fun r st3 => match r with | .bl b => R b st3 | _ => False) E) E := rfl
@[simp] theorem w_tCh {op op' : CmpOp} {o : OpD (compareOp op)} {o' : OpD (compareOp op')} : (tCh op op' o o' a b c).wp en st R E = a.wp en st (fun x st1 => b.wp en st1 (fun y st2 => o.wp x y st2 fun r st3 => match r with | .bl true => c.wp en st3 (fun z st4 => o'.wp y z st4 fun r st5 => match r with | .bl b => R b st5 | _ => False) E | .bl false => R false st3 | _ => False) E) E := rfl
@[simp] theorem w_tNo : (tNo t).wp en st R E = t.wp en st (fun b st1 => R (!b) st1) E := rfl
@[simp] theorem w_tAn {l : List SemT} {h} : (tAn l h).wp en st R E = twpAnd l en st R E := rfl
@[simp] theorem w_tOr {l : List SemT} {h} : (tOr' l h).wp en st R E = twpOr l en st R E := rfl
@[simp] theorem w_And1 {t : SemT} : twpAnd [t] en st R E = t.wp en st R E := rfl
@[simp] theorem w_And2 {t u : SemT} {r : List SemT} : twpAnd (t :: u :: r) en st R E = t.wp en st (fun x st1 => match x with | true => twpAnd (u :: r) en st1 R E | false => R false st1) E := rfl
@[simp] theorem w_Or1 {t : SemT} : twpOr [t] en st R E = t.wp en st R E := rfl
@[simp] theorem w_Or2 {t u : SemT} {r : List SemT} : twpOr (t :: u :: r) en st R E = t.wp en st (fun x st1 => match x with | true => R true st1 | false => twpOr (u :: r) en st1 R E) E := rfl
@[simp] theorem w_A0 {F : QL} : wpA [] en st F E = F [] st := rfl
@[simp] theorem w_A1 {F : QL} {l : List SemE} : wpA (a :: l) en st F E = a.wp en st (fun x st1 => wpA l en st1 (fun xs st2 => F (x :: xs) st2) E) E := rfl
@[simp] theorem w_O0 {F : Option Int → Sto → Prop} : wpO none en st F E = F none st := rfl
@[simp] theorem w_O1 {F : Option Int → Sto → Prop} : wpO (some a) en st F E = a.wp en st (fun x st1 => match x with | .int i => F (some i) st1 | _ => False) E := rfl
@[simp] theorem w_lt : opLtI.wp = fun x y st Q => (match x, y with | .int i, .int j => Q (.bl (decide (i < j))) st | _, _ => False) := rfl
@[simp] theorem w_le : opLe.wp = fun x y st Q => (match x, y with | .int i, .int j => Q (.bl (decide (i ≤ j))) st | _, _ => False) := rfl
@[simp] theorem w_gt : opGt.wp = fun x y st Q => (match x, y with | .int i, .int j => Q (.bl (decide (j < i))) st | _, _ => False) := rfl
@[simp] theorem w_ge : opGe.wp = fun x y st Q => (match x, y with | .int i, .int j => Q (.bl (decide (j ≤ i))) st | _, _ => False) := rfl
@[simp] theorem w_eq : opEq.wp = wpEq false := rfl
@[simp] theorem w_ne : opNe.wp = wpEq true := rfl
@[simp] theorem w_is : opIs.wp = fun x y st Q => (match y with | .non => Q (.bl (isNonD x)) st | _ => False) := rfl
@[simp] theorem w_isn : opIsNot.wp = fun x y st Q => (match y with | .non => Q (.bl (!isNonD x)) st | _ => False) := rfl
@[simp] theorem w_add {m : Bool} : (opAdd m).wp = wpAdd m := rfl
@[simp] theorem w_mul {m : Bool} : (opMul m).wp = wpMul m := rfl
@[simp] theorem w_sub : opSub.wp = fun x y st Q => (match x, y with | .int i, .int j => CT i j ∧ Q (.int (i - j)) st | _, _ => False) := rfl
@[simp] theorem w_mod : opMod.wp = fun x y st Q => (match x, y with | .int i, .int j => CPos i j ∧ Q (.int (i % j)) st | _, _ => False) := rfl
@[simp] theorem w_fdiv : opFDiv.wp = fun x y st Q => (match x, y with | .int i, .int j => CDiv i j ∧ Q (.int (i / j)) st | _, _ => False) := rfl
@[simp] theorem w_pow : opPow.wp = fun x y st Q => (match x, y with | .int i, .int j => CPow i j ∧ Q (.int (i ^ j.toNat)) st | _, _ => False) := rfl
variable {F : QI}
@[simp] theorem w_iSeq : (iSeq a).wp en st F E = a.wp en st (fun d st1 => match seqOf st1 d with | some ds => F ds (fun s => seqOf s d = some ds) st1 | none => False) E := rfl
@[simp] theorem w_iR1 : (iRange1 a).wp en st F E = a.wp en st (fun d st1 => match d with
    | .int j => bd62 j ∧ F (rngD 0 j.toNat) (fun _ => True) st1
    | _ => False) E := rfl
@[simp] theorem w_iR2 : (iRange2 a b).wp en st F E = a.wp en st (fun d st1 => b.wp en st1 (fun d2 st2 => match d, d2 with
    | .int i, .int j => bd62 i ∧ bd62 j ∧ F (rngD i (j - i).toNat) (fun _ => True) st2
    | _, _ => False) E) E := rfl
@[simp] theorem w_iZip {sf : Bool} : (iZip sf a b).wp en st F E = a.wp en st (fun d st1 => b.wp en st1 (fun d2 st2 => match seqOf st2 d, seqOf st2 d2 with
    | some xs, some ys => (sf = true → xs.length = ys.length) ∧ F (pairD xs ys) (fun s => seqOf s d = some xs ∧ seqOf s d2 = some ys) st2
    | _, _ => False) E) E := rfl
@[simp] theorem w_iEnum : (iEnum a).wp en st F E = a.wp en st (fun d st1 => match seqOf st1 d with
    | some xs => F (numD xs) (fun s => seqOf s d = some xs) st1
    | _ => False) E := rfl
@[simp] theorem w_sRet : (sRet a).wp N en st = a.wp en st N.rt (fun x st' => N.ex x en st') := rfl
@[simp] theorem w_sRetN : sRetN.wp N en st = N.rt .non st := rfl
@[simp] theorem w_sPass : sPass.wp N en st = N.nx en st := rfl
@[simp] theorem w_sSet {i : Nat} : (sSet i a).wp N en st = a.wp en st (fun d st1 => N.nx (en.set i (some d)) st1) (fun x st' => N.ex x en st') := rfl
@[simp] theorem w_sExp : (sExp a).wp N en st = a.wp en st (fun d st1 => N.nx en st1) (fun x st' => N.ex x en st') := rfl
@[simp] theorem w_sIf {x y : List SemS} : (sIf t x y).wp N en st = t.wp en st (fun c st1 => match c with | true => wpB x N en st1 | false => wpB y N en st1) (fun x st' => N.ex x en st') := rfl
@[simp] theorem w_sAsg {t : Tg} : (sAsg t a).wp N en st = a.wp en st (fun d st1 => match putT t en d with | some en1 => N.nx en1 st1 | none => False) (fun x st' => N.ex x en st') := rfl
@[simp] theorem w_sPar2 {i j : Nat} : (sPar2 i j a b).wp N en st = wpA [a, b] en st (fun ds st1 => match ds with | [d1, d2] => N.nx ((en.set i (some d1)).set j (some d2)) st1 | _ => False) (fun x st' => N.ex x en st') := rfl
@[simp] theorem w_sPar3 {i j l : Nat} : (sPar3 i j l a b c).wp N en st = wpA [a, b, c] en st (fun ds st1 => match ds with | [d1, d2, d3] => N.nx (((en.set i (some d1)).set j (some d2)).set l (some d3)) st1 | _ => False) (fun x st' => N.ex x en st') := rfl
theorem w_sFor {t : Tg} {i : SemI} {b : List SemS} : (sFor t i b).wp N en st = i.wp en st (fun items ok st1 => forD t (wpB b) ok N items en st1) (fun x st' => N.ex x en st') := rfl
theorem w_sWhile {t : SemT} {b : List SemS} : (sWhile t b).wp N en st = whD t (wpB b) N en st := rfl
@[simp] theorem w_sSetIx {o i e : SemE} : (sSetIx o i e).wp N en st = e.wp en st (fun d st1 => o.wp en st1 (fun r st2 => i.wp en st2 (fun j st3 => match refL st3 r, j with
    | some (n, xs), .int j => (match ixN xs.length j with | some p => N.nx en (st3.set n (.lst (xs.set p d))) | none => False)
    | _, _ => False) (fun x st' => N.ex x en st')) (fun x st' => N.ex x en st')) (fun x st' => N.ex x en st') := rfl
@[simp] theorem w_b0 : wpB [] N en st = N.nx en st := rfl
@[simp] theorem w_b1 {s : SemS} : wpB [s] N en st = s.wp N en st := rfl
@[simp] theorem w_b2 {s u : SemS} {r : List SemS} : wpB (s :: u :: r) N en st = s.wp { N with nx := fun en1 st1 => wpB (u :: r) N en1 st1 } en st := rfl
end
/-! ### values, for simp -/
section
variable {st : Sto} {Q : QD} {ds es : List D} {d x y : D} {n : Nat} {i j : Int} {m : Bool}
@[simp] theorem q_tup : seqOf st (.tup ds) = some ds := rfl
@[simp] theorem q_lst : seqOf st (.lst ds) = some ds := rfl
@[simp] theorem q_ref : seqOf st (.ref n) = (match st[n]? with | some (.lst ds) => some ds | _ => none) := rfl
@[simp] theorem l_tup : lstOf st (.tup ds) = none := rfl
@[simp] theorem l_lst : lstOf st (.lst ds) = some ds := rfl
@[simp] theorem l_ref : lstOf st (.ref n) = (match st[n]? with | some (.lst ds) => some ds | _ => none) := rfl
@[simp] theorem k_tup : lookD st (.tup ds) = .tup ds := rfl
@[simp] theorem k_lst : lookD st (.lst ds) = .lst ds := rfl
@[simp] theorem k_int : lookD st (.int i) = .int i := rfl
@[simp] theorem k_str {s : Str} : lookD st (.str s) = .str s := rfl
@[simp] theorem k_non : lookD st .non = .non := rfl
@[simp] theorem k_bl {b : Bool} : lookD st (.bl b) = .bl b := rfl
@[simp] theorem k_ref : lookD st (.ref n) = (match st[n]? with | some (.lst ds) => .lst ds | _ => .ref n) := rfl
@[simp] theorem r_ref : refL st (.ref n) = (match st[n]? with | some (.lst ds) => some (n, ds) | _ => none) := rfl
@[simp] theorem n_tup : lenD st (.tup ds) = some (ds.length : Int) := rfl
@[simp] theorem n_lst : lenD st (.lst ds) = some (ds.length : Int) := rfl
@[simp] theorem n_ref : lenD st (.ref n) = ((seqOf st (.ref n)).map fun ds => (ds.length : Int)) := rfl
@[simp] theorem i_tup : ixD st (.tup ds) (.int i) = atI ds i := rfl
@[simp] theorem i_lst : ixD st (.lst ds) (.int i) = atI ds i := rfl
@[simp] theorem i_ref : ixD st (.ref n) (.int i) = ((seqOf st (.ref n)).bind fun ds => atI ds i) := rfl
@[simp] theorem a_int : wpAdd m (.int i) (.int j) st Q = Q (.int (i + j)) st := rfl
@[simp] theorem a_tup : wpAdd m (.tup ds) (.tup es) st Q = (ds.length + es.length ≤ sizeLine ∧ Q (.tup (ds ++ es)) st) := rfl
@[simp] theorem m_int : wpMul m (.int i) (.int j) st Q = (CMul i j ∧ Q (.int (i * j)) st) := rfl
@[simp] theorem m_tup : wpMul m (.tup ds) (.int i) st Q = (CRep i ds.length ∧ Q (.tup (List.replicate i.toNat ds).flatten) st) := rfl
@[simp] theorem e_str {neg : Bool} {s t : Str} : wpEq neg (.str s) (.str t) st Q = Q (.bl (neg != decide (s = t))) st := rfl
@[simp] theorem e_tup {neg : Bool} : wpEq neg (.tup ds) y st Q = (shp (.tup ds) = true ∧ shp (lookD st y) = true ∧ Q (.bl (neg != eqD (.tup ds) (lookD st y))) st) := rfl
@[simp] theorem e_lst {neg : Bool} : wpEq neg (.lst ds) y st Q = (shp (.lst ds) = true ∧ shp (lookD st y) = true ∧ Q (.bl (neg != eqD (.lst ds) (lookD st y))) st) := rfl
@[simp] theorem e_ref {neg : Bool} : wpEq neg (.ref n) y st Q = (shp (lookD st (.ref n)) = true ∧ shp (lookD st y) = true ∧ Q (.bl (neg != eqD (lookD st (.ref n)) (lookD st y))) st) := rfl
@[simp] theorem e_int {neg : Bool} : wpEq neg (.int i) y st Q = (shp (.int i) = true ∧ shp (lookD st y) = true ∧ Q (.bl (neg != eqD (.int i) (lookD st y))) st) := rfl
@[simp] theorem e_non {neg : Bool} : wpEq neg .non y st Q = (shp .non = true ∧ shp (lookD st y) = true ∧ Q (.bl (neg != eqD .non (lookD st y))) st) := rfl
@[simp] theorem e_bl {neg b : Bool} : wpEq neg (.bl b) y st Q = (shp (.bl b) = true ∧ shp (lookD st y) = true ∧ Q (.bl (neg != eqD (.bl b) (lookD st y))) st) := rfl
@[simp] theorem sl_tup {lo hi : Option Int} : wpSl m (.tup ds) lo hi st Q = Q (.tup (cutD ds lo hi)) st := rfl
@[simp] theorem sl_rol {lo hi : Option Int} : wpSl m (.rol ds) lo hi st Q = newL m (cutD ds lo hi) st Q := rfl
@[simp] theorem sl_lst {lo hi : Option Int} : wpSl m (.lst ds) lo hi st Q = newL m (cutD ds lo hi) st Q := rfl
@[simp] theorem nl_t : newL true ds st Q = Q (.ref st.length) (st ++ [.lst ds]) := rfl
@[simp] theorem nl_f : newL false ds st Q = Q (.lst ds) st := rfl
@[simp] theorem b_len : bLen.wp [d] st Q = (match lenD st d with | some n => Q (.int n) st | none => False) := rfl
@[simp] theorem b_int : bInt.wp [.int i] st Q = Q (.int i) st := rfl
@[simp] theorem b_list : (bList m).wp [d] st Q = (match seqOf st d with | some xs => newL m xs st Q | none => False) := rfl
@[simp] theorem b_tup : bTuple.wp [d] st Q = (match seqOf st d with | some xs => Q (.tup xs) st | none => False) := rfl
@[simp] theorem b_all : bAll.wp [d] st Q = (match (lstOf st d).bind blsOf with | some bs => Q (.bl (bs.all id)) st | none => False) := rfl
@[simp] theorem b_any : bAny.wp [d] st Q = (match (lstOf st d).bind blsOf with | some bs => Q (.bl (bs.any id)) st | none => False) := rfl
@[simp] theorem b_repr : bRepr.wp [d] st Q = (repOk (toPy (lookD st d)) ∧ Q (.str (toPy (lookD st d)).shown) st) := rfl
@[simp] theorem m_app {xs : List D} : mAppend.f xs [y] st = (if xs.length < sizeLine then some (xs ++ [y], .non) else none) := rfl
@[simp] theorem m_ext {xs : List D} : mExtend.f xs [y] st = (match lstOf st y with | some zs => if xs.length + zs.length ≤ sizeLine then some (xs ++ zs, .non) else none | none => none) := rfl
variable {en : Env}
@[simp] theorem p_nm : putT (.nm n) en d = some (en.set n (some d)) := by rw [putT]
@[simp] theorem p_tup {l : List Tg} : putT (.tup l) en (.tup ds) = putTs l en ds := by rw [putT]
@[simp] theorem p_0 : putTs [] en [] = some en := by rw [putTs]
@[simp] theorem p_1 {t : Tg} {l : List Tg} : putTs (t :: l) en (d :: ds) = ((putT t en d).bind fun en1 => putTs l en1 ds) := by rw [putTs]
@[simp] theorem wi_0 : wipeD en [] = en := rfl
@[simp] theorem wi_1 {v : Nat} {vs : List Nat} : wipeD en (v :: vs) = (wipeD en vs).set v none := rfl
variable {R : Bool → Sto → Prop} {E : QX}
@[simp] theorem c_none : wpC none en st R E = R true st := rfl
@[simp] theorem c_some {t : SemT} : wpC (some t) en st R E = t.wp en st R E := rfl
end
/-! ### turns -/
theorem forD_inv {t : Tg} {body : WpS} {ok : Sto → Prop} {N : EndsD} (items : List D) (P : Nat → Env → Sto → Prop) {en : Env} {st : Sto} (h0 : P 0 en st) (hok : ∀ i en st, P i en st → ok st)
    (hs : ∀ i d en st, items[i]? = some d → P i en st → ∃ en1, putT t en d = some en1 ∧ body { N with nx := P (i + 1), ct := P (i + 1), bk := N.nx } en1 st) (hd : ∀ en st, P items.length en st → N.nx en st) (mb : MonoS body) : forD t body ok N items en st := by
  have gen : ∀ (r : List D) (i : Nat) (en : Env) (st : Sto), items.drop i = r → i ≤ items.length → P i en st → forD t body ok N r en st := by
    intro r
    induction r with
    | nil =>
      intro i en st e hi h
      have : i = items.length := by
        have := congrArg List.length e
        rw [List.length_drop] at this
        simp at this
        omega
      subst this
      exact ⟨hok _ _ _ h, hd _ _ h⟩
    | cons d r ih =>
      intro i en st e hi h
      have hlt : i < items.length := by
        have := congrArg List.length e
        rw [List.length_drop] at this
        simp at this
        omega
      have ed : items[i]? = some d := by
        have := congrArg (fun l => l[0]?) e
        simpa using this
      obtain ⟨en1, e1, h1⟩ := hs i d en st ed h
      refine ⟨hok _ _ _ h, ?_⟩
      rw [e1]
      have er : items.drop (i + 1) = r := by
        have := congrArg List.tail e
        simpa using this
      exact mb { N with nx := P (i + 1), ct := P (i + 1), bk := N.nx } _ _ _ ⟨fun en st q => ih (i + 1) en st er hlt q, fun _ _ q => q, fun _ _ q => q, fun en st q => ih (i + 1) en st er hlt q, fun _ _ _ q => q⟩ h1
  exact gen items 0 en st (by simp) (Nat.zero_le _) h0
theorem compD_inv {t : Tg} {vs : List Nat} {c : WpT} {elt : WpE} {ok : Sto → Prop} {en : Env} {Q : List D → Sto → Prop} (mc : MonoT c) (me : MonoE elt) (items : List D) (P : Nat → List D → Sto → Prop) {st : Sto} (h0 : P 0 [] st) (hok : ∀ i acc st, P i acc st → ok st)
    (hs : ∀ i d acc st, items[i]? = some d → P i acc st → ∃ en1, putT t (wipeD en vs) d = some en1 ∧ c en1 st (fun b st1 => match b with
      | true => elt en1 st1 (fun y st2 => acc.length < sizeLine ∧ P (i + 1) (acc ++ [y]) st2) NoX
      | false => P (i + 1) acc st1) NoX) (hd : ∀ acc st, P items.length acc st → Q acc st) : compD t vs c elt ok en Q items [] st := by
  have gen : ∀ (r : List D) (i : Nat) (acc : List D) (st : Sto), items.drop i = r → i ≤ items.length → P i acc st → compD t vs c elt ok en Q r acc st := by
    intro r
    induction r with
    | nil =>
      intro i acc st e hi h
      have : i = items.length := by
        have := congrArg List.length e
        rw [List.length_drop] at this
        simp at this
        omega
      subst this
      exact ⟨hok _ _ _ h, hd _ _ h⟩
    | cons d r ih =>
      intro i acc st e hi h
      have hlt : i < items.length := by
        have := congrArg List.length e
        rw [List.length_drop] at this
        simp at this
        omega
      have ed : items[i]? = some d := by
        have := congrArg (fun l => l[0]?) e
        simpa using this
      obtain ⟨en1, e1, h1⟩ := hs i d acc st ed h
      refine ⟨hok _ _ _ h, ?_⟩
      rw [e1]
      have er : items.drop (i + 1) = r := by
        have := congrArg List.tail e
        simpa using this
      refine mc _ _ _ _ _ _ h1 (fun b st1 hb => ?_) fun _ _ q => q
      cases b with
      | true => exact me _ _ _ _ _ _ hb (fun y st2 hy => ⟨hy.1, ih (i + 1) _ _ er hlt hy.2⟩) fun _ _ q => q
      | false => exact ih (i + 1) _ _ er hlt hb
  exact gen items 0 [] st (by simp) (Nat.zero_le _) h0
/-! ### specs -/
/-- a spec by what is given, what is asked ahead, what is told -/
def mkS (ar : Nat) (α : Type) (args : α → List D) (pre : α → Sto → Prop) (post : α → Sto → D → Sto → Prop) : SpecD where
  ar := ar
  run ds st Q _ := ∃ a : α, ds = args a ∧ pre a st ∧ ∀ d st', post a st d st' → Q d st'
  mono ds st Q Q' E E' h f _ := let ⟨a, e, p, q⟩ := h; ⟨a, e, p, fun d st' z => f _ _ (q d st' z)⟩
/-- a row of ints -/
abbrev Is (ns : List Int) : List D := ns.map D.int
end Mi
namespace Mi
open PySem PySem.Spec PyProof.Rows L2

/-- a row of counts -/
abbrev Ns (ns : List Nat) : List D := ns.map fun (n : Nat) => D.int (n : Int)
/-! ### plain values: what can be shown and compared -/
mutual
/-- nothing but none, bools, ints, texts, tuples, lists -/
def canD : D → Bool
  | .non => true
  | .bl _ => true
  | .int _ => true
  | .str s => PyData.strOk s
  | .tup ds => canDs ds
  | .lst ds => canDs ds
  | _ => false
def canDs : List D → Bool
  | [] => true
  | d :: r => canD d && canDs r
end
mutual
/-- .. and no bools -/
def okD : D → Bool
  | .non => true
  | .int _ => true
  | .str s => PyData.strOk s
  | .tup ds => okDs ds
  | .lst ds => okDs ds
  | _ => false
def okDs : List D → Bool
  | [] => true
  | d :: r => okD d && okDs r
end
mutual
theorem can_of_ok : ∀ d : D, okD d = true → canD d = true
  | .non, _ => by rw [canD]
  | .int _, _ => by rw [canD]
  | .str _, h => by rw [okD] at h; rw [canD]; exact h
  | .tup ds, h => by rw [okD] at h; rw [canD]; exact cans_of_ok ds h
  | .lst ds, h => by rw [okD] at h; rw [canD]; exact cans_of_ok ds h
  | .bl _, h => by simp [okD] at h
  | .rol _, h => by simp [okD] at h
  | .dic _ _, h => by simp [okD] at h
  | .ref _, h => by simp [okD] at h
theorem cans_of_ok : ∀ ds : List D, okDs ds = true → canDs ds = true
  | [], _ => by rw [canDs]
  | d :: r, h => by
    rw [okDs, Bool.and_eq_true] at h
    rw [canDs, Bool.and_eq_true]
    exact ⟨can_of_ok d h.1, cans_of_ok r h.2⟩
end
mutual
theorem can_py : ∀ d : D, canD d = true → (toPy d).canLay0 = true ∧ (toPy d).depth = dpD d
  | .non, _ => ⟨rfl, rfl⟩
  | .bl _, _ => ⟨rfl, rfl⟩
  | .int _, _ => ⟨rfl, rfl⟩
  | .str _, h => by rw [canD] at h; exact ⟨h, rfl⟩
  | .tup ds, h => by
    rw [canD] at h
    obtain ⟨h1, h2⟩ := cans_py ds h
    rw [toPy, PyData.canLay0, PyData.depth, dpD]
    exact ⟨h1, by rw [h2]⟩
  | .lst ds, h => by
    rw [canD] at h
    obtain ⟨h1, h2⟩ := cans_py ds h
    rw [toPy, PyData.canLay0, PyData.depth, dpD]
    exact ⟨h1, by rw [h2]⟩
  | .rol _, h => by simp [canD] at h
  | .dic _ _, h => by simp [canD] at h
  | .ref _, h => by simp [canD] at h
theorem cans_py : ∀ ds : List D, canDs ds = true → PyData.canLayAll0 (toPys ds) = true ∧ PyData.depthAll (toPys ds) = dpDs ds
  | [], _ => ⟨rfl, rfl⟩
  | d :: r, h => by
    rw [canDs, Bool.and_eq_true] at h
    obtain ⟨h1, h2⟩ := can_py d h.1
    obtain ⟨h3, h4⟩ := cans_py r h.2
    rw [toPys, PyData.canLayAll0, PyData.depthAll, dpDs]
    exact ⟨by rw [h1, h3]; rfl, by rw [h2, h4]⟩
end
theorem shp_of {d : D} (h : canD d = true) (hd : dpD d ≤ 64) : shp d = true := by
  obtain ⟨h1, h2⟩ := can_py d h
  unfold shp SeqAt.shaped
  rw [h1, h2, decide_eq_true hd]; rfl
mutual
theorem eqD_iff : ∀ x y : D, okD x = true → okD y = true → (eqD x y = true ↔ x = y)
  | .non, y, _, hy => by cases y <;> simp [eqD, toPy, PyData.eqv, okD] at hy ⊢
  | .int i, y, _, hy => by cases y <;> simp [eqD, toPy, PyData.eqv, okD] at hy ⊢
  | .str s, y, _, hy => by cases y <;> simp [eqD, toPy, PyData.eqv, okD] at hy ⊢
  | .tup ds, y, hx, hy => by
    cases y with
    | tup es =>
      rw [okD] at hx hy
      have := eqDs_iff ds es hx hy
      unfold eqD
      rw [toPy, toPy, PyData.eqv, this]
      exact ⟨fun e => by rw [e], fun e => by cases e; rfl⟩
    | _ => simp [eqD, toPy, PyData.eqv, okD] at hy ⊢
  | .lst ds, y, hx, hy => by
    cases y with
    | lst es =>
      rw [okD] at hx hy
      have := eqDs_iff ds es hx hy
      unfold eqD
      rw [toPy, toPy, PyData.eqv, this]
      exact ⟨fun e => by rw [e], fun e => by cases e; rfl⟩
    | _ => simp [eqD, toPy, PyData.eqv, okD] at hy ⊢
  | .bl _, _, h, _ => by simp [okD] at h
  | .rol _, _, h, _ => by simp [okD] at h
  | .dic _ _, _, h, _ => by simp [okD] at h
  | .ref _, _, h, _ => by simp [okD] at h
theorem eqDs_iff : ∀ xs ys : List D, okDs xs = true → okDs ys = true → (PyData.eqvAll (toPys xs) (toPys ys) = true ↔ xs = ys)
  | [], [], _, _ => by simp [toPys, PyData.eqvAll]
  | [], _ :: _, _, _ => by simp [toPys, PyData.eqvAll]
  | _ :: _, [], _, _ => by simp [toPys, PyData.eqvAll]
  | x :: xs, y :: ys, hx, hy => by
    rw [okDs, Bool.and_eq_true] at hx hy
    have h1 := eqD_iff x y hx.1 hy.1
    have h2 := eqDs_iff xs ys hx.2 hy.2
    unfold eqD at h1
    rw [toPys, toPys, PyData.eqvAll, Bool.and_eq_true, h1, h2]
    simp
end
open Classical in
theorem eqD_dec {x y : D} (hx : okD x = true) (hy : okD y = true) : eqD x y = decide (x = y) := by
  rw [Bool.eq_iff_iff, eqD_iff x y hx hy]
  simp
mutual
theorem eqD_self : ∀ x : D, canD x = true → eqD x x = true
  | .non, _ => rfl
  | .bl b, _ => by simp [eqD, toPy, PyData.eqv]
  | .int i, _ => by simp [eqD, toPy, PyData.eqv]
  | .str s, _ => by simp [eqD, toPy, PyData.eqv]
  | .tup ds, h => by rw [canD] at h; unfold eqD; rw [toPy, PyData.eqv]; exact eqDs_self ds h
  | .lst ds, h => by rw [canD] at h; unfold eqD; rw [toPy, PyData.eqv]; exact eqDs_self ds h
  | .rol _, h => by simp [canD] at h
  | .dic _ _, h => by simp [canD] at h
  | .ref _, h => by simp [canD] at h
theorem eqDs_self : ∀ xs : List D, canDs xs = true → PyData.eqvAll (toPys xs) (toPys xs) = true
  | [], _ => rfl
  | x :: xs, h => by
    rw [canDs, Bool.and_eq_true] at h
    have h1 := eqD_self x h.1
    unfold eqD at h1
    rw [toPys, PyData.eqvAll, h1, eqDs_self xs h.2]; rfl
end
theorem canDs_all {ds : List D} (h : ∀ d ∈ ds, canD d = true) : canDs ds = true := by
  induction ds with
  | nil => rw [canDs]
  | cons d r ih => rw [canDs, h d List.mem_cons_self, ih fun x hx => h x (List.mem_cons_of_mem _ hx)]; rfl
theorem okDs_all {ds : List D} (h : ∀ d ∈ ds, okD d = true) : okDs ds = true := by
  induction ds with
  | nil => rw [okDs]
  | cons d r ih => rw [okDs, h d List.mem_cons_self, ih fun x hx => h x (List.mem_cons_of_mem _ hx)]; rfl
theorem dpDs_all {ds : List D} {n : Nat} (h : ∀ d ∈ ds, dpD d ≤ n) : dpDs ds ≤ n := by
  induction ds with
  | nil => rw [dpDs]; exact Nat.zero_le _
  | cons d r ih => rw [dpDs]; exact Nat.max_le.mpr ⟨h d List.mem_cons_self, ih fun x hx => h x (List.mem_cons_of_mem _ hx)⟩
theorem ok_ints (ns : List Int) : okDs (ns.map D.int) = true := okDs_all fun d hd => by
  obtain ⟨n, _, rfl⟩ := List.mem_map.mp hd
  rw [okD]
theorem dp_ints (ns : List Int) : dpDs (ns.map D.int) = 0 := Nat.le_zero.mp (dpDs_all fun d hd => by
  obtain ⟨n, _, rfl⟩ := List.mem_map.mp hd
  rw [dpD]; exact Nat.le_refl _)
@[simp] theorem shp_int (i : Int) : shp (.int i) = true := shp_of (by rw [canD]) (by rw [dpD]; omega)
@[simp] theorem shp_non : shp .non = true := shp_of (by rw [canD]) (by rw [dpD]; omega)
@[simp] theorem shp_bl (b : Bool) : shp (.bl b) = true := shp_of (by rw [canD]) (by rw [dpD]; omega)
@[simp] theorem shp_nil : shp (.tup []) = true := rfl
@[simp] theorem shp_nil' : shp (.lst []) = true := rfl
@[simp] theorem shp_ints (ns : List Int) : shp (.tup (Is ns)) = true := shp_of (by rw [canD]; exact cans_of_ok _ (ok_ints ns)) (by rw [dpD, dp_ints]; omega)
@[simp] theorem eqD_int (i j : Int) : eqD (.int i) (.int j) = decide (i = j) := by
  unfold eqD
  rw [toPy, toPy, PyData.eqv]
  by_cases h : i = j
  · simp [h]
  · simp [h]
theorem isE_eq {ds : List D} (h : okDs ds = true) : eqD (.lst ds) (.lst []) = ds.isEmpty := by
  rw [eqD_dec (by rw [okD]; exact h) (by rw [okD, okDs])]
  cases ds <;> simp
theorem isE_tup {ds : List D} (h : okDs ds = true) : eqD (.tup ds) (.tup []) = ds.isEmpty := by
  rw [eqD_dec (by rw [okD]; exact h) (by rw [okD, okDs])]
  cases ds <;> simp
theorem atI_nat {α : Type} (l : List α) (n : Nat) : atI l (n : Int) = l[n]? := by
  unfold atI ixN
  by_cases h : n < l.length
  · have h2 : ¬ ((n : Int) < 0) := by omega
    simp [h]
  · simp [h]
/-! ### what a def leaves -/
mutual
theorem nr_of_can (n : Nat) : ∀ d : D, canD d = true → noRef n d = true
  | .non, _ => by rw [noRef] <;> intros <;> simp_all
  | .bl _, _ => by rw [noRef] <;> intros <;> simp_all
  | .int _, _ => by rw [noRef] <;> intros <;> simp_all
  | .str _, _ => by rw [noRef] <;> intros <;> simp_all
  | .tup ds, h => by rw [canD] at h; rw [noRef]; exact nrs_of_can n ds h
  | .lst ds, h => by rw [canD] at h; rw [noRef]; exact nrs_of_can n ds h
  | .rol _, h => by simp [canD] at h
  | .dic _ _, h => by simp [canD] at h
  | .ref _, h => by simp [canD] at h
theorem nrs_of_can (n : Nat) : ∀ ds : List D, canDs ds = true → noRefs n ds = true
  | [], _ => by rw [noRefs]
  | d :: r, h => by
    rw [canDs, Bool.and_eq_true] at h
    rw [noRefs, nr_of_can n d h.1, nrs_of_can n r h.2]; rfl
end
theorem frz_val {st : Sto} {n f : Nat} {d : D} (h : noRef n d = true) : frz st n f d = some d := by
  cases f <;> simp [frz, h]
theorem closed_self (st : Sto) : closedTo st st := fun _ _ h => .inl h
theorem closed_set {st st1 : Sto} (h : closedTo st st1) {n : Nat} {o : O} (ho : noRefO st.length o = true) : closedTo st (st1.set n o) := fun i o' e => by
  by_cases hi : n = i
  · subst hi
    by_cases hl : n < st1.length
    · rw [List.getElem?_set_self hl] at e
      cases e
      exact .inr ho
    · rw [List.getElem?_eq_none (by rw [List.length_set]; omega)] at e
      cases e
  · rw [List.getElem?_set_ne hi] at e
    exact h i o' e
theorem ret_val {st st1 ext : Sto} {d : D} {Q : QD} (hl : st1.length = st.length) (hc : closedTo st st1) (h : noRef st.length d = true) (q : Q d st1) : retD st d (st1 ++ ext) Q := by
  have e : (st1 ++ ext).take st.length = st1 := by rw [← hl, List.take_left']; rfl
  exact .inr (.inl ⟨d, 0, frz_val h, by rw [e]; exact hc, by rw [e]; exact q⟩)
theorem ret_val0 {st ext : Sto} {d : D} {Q : QD} (h : noRef st.length d = true) (q : Q d st) : retD st d (st ++ ext) Q := ret_val rfl (closed_self st) h q
theorem mapM_frz {st : Sto} {n f : Nat} : ∀ {ds : List D}, noRefs n ds = true → ds.mapM (frz st n f) = some ds
  | [], _ => rfl
  | d :: r, h => by
    rw [noRefs, Bool.and_eq_true] at h
    rw [List.mapM_cons, frz_val h.1, mapM_frz h.2]; rfl
theorem ret_lst {st st1 ext : Sto} {m : Nat} {ds : List D} {Q : QD} (hl : st1.length = st.length) (hc : closedTo st st1) (hm : (st1 ++ ext)[m]? = some (.lst ds)) (hm2 : st.length ≤ m) (h : noRefs st.length ds = true) (q : Q (.lst ds) st1) : retD st (.ref m) (st1 ++ ext) Q := by
  have e : (st1 ++ ext).take st.length = st1 := by rw [← hl, List.take_left']; rfl
  refine .inr (.inl ⟨.lst ds, 1, ?_, by rw [e]; exact hc, by rw [e]; exact q⟩)
  rw [frz]
  have : ¬ (noRef st.length (.ref m) = true) := by
    rw [noRef]
    simp
    omega
  rw [if_neg this, hm]
  show (ds.mapM (frz (st1 ++ ext) st.length 0)).map D.lst = _
  rw [mapM_frz h]
  rfl
/-- a block in two parts -/
theorem wpB_app (l r : List SemS) (h : r ≠ []) {N : EndsD} {en : Env} {st : Sto} : wpB (l ++ r) N en st = wpB l { N with nx := fun en1 st1 => wpB r N en1 st1 } en st := by
  induction l generalizing en st with
  | nil => rfl
  | cons a l ih =>
    cases l with
    | nil =>
      cases r with
      | nil => exact absurd rfl h
      | cons b r => rfl
    | cons b l =>
      show wpB (a :: b :: (l ++ r)) N en st = wpB (a :: b :: l) _ en st
      rw [w_b2, w_b2]
      congr 1
      congr 1
      funext en1 st1
      exact ih
/-! ### showing -/
mutual
/-- how many signs a value's text has at most, by a bound: ints shorter than 13 signs -/
def wtD : D → Nat
  | .tup ds => wtDs ds + 4
  | .lst ds => wtDs ds + 4
  | .str s => 20 * s.cps.size + 8
  | .non => 13
  | .bl _ => 13
  | .int _ => 13
  | .rol _ => 13
  | .dic _ _ => 13
  | .ref _ => 13
def wtDs : List D → Nat
  | [] => 0
  | d :: r => wtD d + 2 + wtDs r
end
mutual
/-- ints are short -/
def smD : D → Bool
  | .non => true
  | .bl _ => true
  | .int i => decide (i.natAbs < 10 ^ 12)
  | .tup ds => smDs ds
  | .lst ds => smDs ds
  | _ => false
def smDs : List D → Bool
  | [] => true
  | d :: r => smD d && smDs r
end
mutual
theorem sm_can : ∀ d : D, smD d = true → canD d = true
  | .non, _ => by rw [canD]
  | .bl _, _ => by rw [canD]
  | .int _, _ => by rw [canD]
  | .tup ds, h => by rw [smD] at h; rw [canD]; exact sms_can ds h
  | .lst ds, h => by rw [smD] at h; rw [canD]; exact sms_can ds h
  | .str _, h => by simp [smD] at h
  | .rol _, h => by simp [smD] at h
  | .dic _ _, h => by simp [smD] at h
  | .ref _, h => by simp [smD] at h
theorem sms_can : ∀ ds : List D, smDs ds = true → canDs ds = true
  | [], _ => by rw [canDs]
  | d :: r, h => by
    rw [smDs, Bool.and_eq_true] at h
    rw [canDs, Bool.and_eq_true]
    exact ⟨sm_can d h.1, sms_can r h.2⟩
end
mutual
theorem sm_show : ∀ d : D, smD d = true → (toPy d).showable = true ∧ (toPy d).shown.length ≤ wtD d
  | .non, _ => ⟨rfl, by decide +kernel⟩
  | .bl b, _ => ⟨rfl, by cases b <;> decide +kernel⟩
  | .int i, h => by
    rw [smD] at h
    have h1 := of_decide_eq_true h
    refine ⟨decide_eq_true (log2_small (Nat.lt_of_lt_of_le h1 (by decide))), ?_⟩
    rw [wtD]
    exact PyData.shown_int_le h1
  | .tup ds, h => by
    rw [smD] at h
    obtain ⟨h1, h2⟩ := sms_show ds h
    rw [toPy, PyData.showable, PyData.shown, wtD]
    refine ⟨h1, Nat.le_trans (tupleText_len_le _) ?_⟩
    omega
  | .lst ds, h => by
    rw [smD] at h
    obtain ⟨h1, h2⟩ := sms_show ds h
    rw [toPy, PyData.showable, PyData.shown, wtD]
    refine ⟨h1, Nat.le_trans (listText_len_le _) ?_⟩
    omega
  | .str _, h => by simp [smD] at h
  | .rol _, h => by simp [smD] at h
  | .dic _ _, h => by simp [smD] at h
  | .ref _, h => by simp [smD] at h
theorem sms_show : ∀ ds : List D, smDs ds = true → PyData.showableAll (toPys ds) = true ∧ ((PyData.shownAll (toPys ds)).map (·.length)).sum + 2 * (PyData.shownAll (toPys ds)).length ≤ wtDs ds
  | [], _ => ⟨rfl, by simp [toPys, PyData.shownAll]⟩
  | d :: r, h => by
    rw [smDs, Bool.and_eq_true] at h
    obtain ⟨h1, h2⟩ := sm_show d h.1
    obtain ⟨h3, h4⟩ := sms_show r h.2
    rw [toPys, PyData.showableAll, PyData.shownAll, wtDs, List.map_cons, List.sum_cons, List.length_cons]
    exact ⟨by rw [h1, h3]; rfl, by omega⟩
end
theorem rep_ok {d : D} (h : smD d = true) (hd : dpD d ≤ 60) (hw : wtD d ≤ 10000000) : repOk (toPy d) := by
  obtain ⟨h1, h2⟩ := can_py d (sm_can d h)
  obtain ⟨h3, h4⟩ := sm_show d h
  refine ⟨h1, h3, by rw [h2]; exact hd, ?_⟩
  rw [sizeLine_eq]
  omega
theorem sm_ints {ns : List Int} (h : ∀ x ∈ ns, x.natAbs < 10 ^ 12) : smDs (ns.map D.int) = true := by
  induction ns with
  | nil => rw [List.map_nil, smDs]
  | cons n r ih => rw [List.map_cons, smDs, smD, decide_eq_true (h n List.mem_cons_self), ih fun x hx => h x (List.mem_cons_of_mem _ hx)]; rfl
theorem wt_ints (ns : List Int) : wtDs (ns.map D.int) = 15 * ns.length := by
  induction ns with
  | nil => rw [List.map_nil, wtDs]; rfl
  | cons n r ih => rw [List.map_cons, wtDs, wtD, ih, List.length_cons]; omega
end Mi
namespace Mi
open PySem PySem.Spec PyProof.Rows L2

/-! ### expressions with one answer -/
def Ev (e : SemE) (en : Env) (st : Sto) (d : D) (st' : Sto) : Prop := ∀ (F : QD) (E : QX), F d st' → e.wp en st F E
def EvT (t : SemT) (en : Env) (st : Sto) (b : Bool) (st' : Sto) : Prop := ∀ (R : Bool → Sto → Prop) (E : QX), R b st' → t.wp en st R E
def EvA (l : List SemE) (en : Env) (st : Sto) (ds : List D) (st' : Sto) : Prop := ∀ (F : QL) (E : QX), F ds st' → wpA l en st F E
section
variable {en : Env} {st st1 st2 : Sto} {a b : SemE} {x y d : D}
theorem ev_var {i : Nat} (h : en[i]? = some (some d)) : Ev (eVar i) en st d st := fun F E q => by rw [w_var, h]; exact q
theorem ev_int {i : Int} : Ev (eInt i) en st (.int i) st := fun F E q => q
theorem ev_bl {i : Bool} : Ev (eBl i) en st (.bl i) st := fun F E q => q
theorem ev_str {i : Str} : Ev (eStr i) en st (.str i) st := fun F E q => q
theorem ev_none : Ev eNone en st .non st := fun F E q => q
theorem ev_bin {op : Operator} {o : OpD (binaryOp op)} (ha : Ev a en st x st1) (hb : Ev b en st1 y st2) (ho : ∀ Q : QD, Q d st2 → o.wp x y st2 Q) : Ev (eBin op o a b) en st d st2 := fun F E q => ha _ _ (hb _ _ (ho _ q))
theorem ev_cmp {op : CmpOp} {o : OpD (compareOp op)} (ha : Ev a en st x st1) (hb : Ev b en st1 y st2) (ho : ∀ Q : QD, Q d st2 → o.wp x y st2 Q) : Ev (eCmp op o a b) en st d st2 := fun F E q => ha _ _ (hb _ _ (ho _ q))
theorem eva_nil : EvA [] en st [] st := fun F E q => q
theorem eva_cons {l : List SemE} {ds : List D} (ha : Ev a en st x st1) (hl : EvA l en st1 ds st2) : EvA (a :: l) en st (x :: ds) st2 := fun F E q => ha _ _ (hl _ _ q)
theorem ev_tup {l : List SemE} {ds : List D} (h : EvA l en st ds st1) (hs : ds.length ≤ 1000000) : Ev (eTup l) en st (.tup ds) st1 := fun F E q => h _ _ ⟨by rw [sizeLine_eq]; omega, q⟩
theorem ev_lst {l : List SemE} {ds : List D} (h : EvA l en st ds st1) (hs : ds.length ≤ 1000000) : Ev (eList false l) en st (.lst ds) st1 := fun F E q => h _ _ ⟨by rw [sizeLine_eq]; omega, q⟩
theorem ev_add {u w : List D} (ha : Ev a en st (.tup u) st1) (hb : Ev b en st1 (.tup w) st2) (h : u.length + w.length ≤ 1000000) : Ev (eBin .Add (opAdd false) a b) en st (.tup (u ++ w)) st2 := ev_bin ha hb fun Q q => ⟨by rw [sizeLine_eq]; omega, q⟩
theorem ev_addI {i j : Int} (ha : Ev a en st (.int i) st1) (hb : Ev b en st1 (.int j) st2) : Ev (eBin .Add (opAdd false) a b) en st (.int (i + j)) st2 := ev_bin ha hb fun Q q => q
theorem ev_mulT {u : List D} {k : Int} (ha : Ev a en st (.tup u) st1) (hb : Ev b en st1 (.int k) st2) (h : CRep k u.length) : Ev (eBin .Mult (opMul false) a b) en st (.tup (List.replicate k.toNat u).flatten) st2 := ev_bin ha hb fun Q q => ⟨h, q⟩
theorem ev_mulI {i j : Int} (ha : Ev a en st (.int i) st1) (hb : Ev b en st1 (.int j) st2) (h : CMul i j) : Ev (eBin .Mult (opMul false) a b) en st (.int (i * j)) st2 := ev_bin ha hb fun Q q => ⟨h, q⟩
theorem ev_B {f : BIn} {l : List SemE} {ds : List D} (h : EvA l en st ds st1) (ho : ∀ Q : QD, Q d st2 → f.wp ds st1 Q) : Ev (eB f l) en st d st2 := fun F E q => h _ _ (ho _ q)
theorem evt_V {r : Bool} (h : Ev a en st (.bl r) st1) : EvT (tV a) en st r st1 := fun R E q => h _ _ q
theorem evt_no {t : SemT} {r : Bool} (h : EvT t en st r st1) : EvT (tNo t) en st (!r) st1 := fun R E q => h _ _ q
def EvO (l : List SemT) (en : Env) (st : Sto) (b : Bool) (st' : Sto) : Prop := ∀ (R : Bool → Sto → Prop) (E : QX), R b st' → twpOr l en st R E
def EvN (l : List SemT) (en : Env) (st : Sto) (b : Bool) (st' : Sto) : Prop := ∀ (R : Bool → Sto → Prop) (E : QX), R b st' → twpAnd l en st R E
theorem evt_or {l : List SemT} {r : Bool} {h0 : l ≠ []} (h : EvO l en st r st1) : EvT (tOr' l h0) en st r st1 := h
theorem evo_1 {t : SemT} {r : Bool} (h : EvT t en st r st1) : EvO [t] en st r st1 := h
theorem evo_F {t u : SemT} {l : List SemT} {r : Bool} (h : EvT t en st false st1) (h2 : EvO (u :: l) en st1 r st2) : EvO (t :: u :: l) en st r st2 := fun R E q => h _ _ (h2 _ _ q)
theorem evo_T {t u : SemT} {l : List SemT} (h : EvT t en st true st1) : EvO (t :: u :: l) en st true st1 := fun R E q => h _ _ q
theorem evt_and {l : List SemT} {r : Bool} {h0 : l ≠ []} (h : EvN l en st r st1) : EvT (tAn l h0) en st r st1 := h
theorem evn_1 {t : SemT} {r : Bool} (h : EvT t en st r st1) : EvN [t] en st r st1 := h
theorem evn_T {t u : SemT} {l : List SemT} {r : Bool} (h : EvT t en st true st1) (h2 : EvN (u :: l) en st1 r st2) : EvN (t :: u :: l) en st r st2 := fun R E q => h _ _ (h2 _ _ q)
theorem evn_F {t u : SemT} {l : List SemT} (h : EvT t en st false st1) : EvN (t :: u :: l) en st false st1 := fun R E q => h _ _ q
theorem evt_cm {op : CmpOp} {o : OpD (compareOp op)} {r : Bool} (ha : Ev a en st x st1) (hb : Ev b en st1 y st2) (ho : ∀ Q : QD, Q (.bl r) st2 → o.wp x y st2 Q) : EvT (tCm op o a b) en st r st2 := fun R E q => ha _ _ (hb _ _ (ho _ q))
/-- calls -/
theorem ev_call {name : Str} {S : SpecD} {df : List D} {l : List SemE} {ds : List D} (h : EvA l en st ds st1) (hl : ds.length + df.length = S.ar) (hr : ∀ (Q : QD) (E : QX), Q d st2 → S.run (ds ++ df) st1 Q E) : Ev (eCall name S df l) en st d st2 := fun F E q => h _ _ ⟨hl, hr _ _ q⟩
theorem ev_not {r : Bool} (h : Ev a en st (.bl r) st1) : Ev (eNot a) en st (.bl (!r)) st1 := fun F E q => h _ _ q
/-- all of these are true -/
def EvAll (l : List SemE) (en : Env) (st : Sto) : Prop := ∀ (F : QD) (E : QX), F (.bl true) st → wpAndL l en st F E
theorem eall_1 (h : Ev a en st (.bl true) st) : EvAll [a] en st := h
theorem eall_2 {l : List SemE} (h : Ev a en st (.bl true) st) (h2 : EvAll (b :: l) en st) : EvAll (a :: b :: l) en st := fun F E q => h _ _ (h2 _ _ q)
theorem ev_all {l : List SemE} {h0 : l ≠ []} (h : EvAll l en st) : Ev (eAnd l h0) en st (.bl true) st := h
/-- one and the same value -/
theorem ne_same (x : D) (st : Sto) (h : canD x = true) (hd : dpD x ≤ 60) (Q : QD) (q : Q (.bl false) st) : opNe.wp x x st Q := by
  have s1 := shp_of h (by omega)
  have s2 := eqD_self x h
  rw [w_ne]
  cases x <;> simp_all [canD]
theorem eq_same (x : D) (st : Sto) (h : canD x = true) (hd : dpD x ≤ 60) (Q : QD) (q : Q (.bl true) st) : opEq.wp x x st Q := by
  have s1 := shp_of h (by omega)
  have s2 := eqD_self x h
  rw [w_eq]
  cases x <;> simp_all [canD]
end
end Mi
namespace Mi
open PySem PySem.Spec PyProof.Rows L2

/-! ### the end: a law that was walked -/
theorem endG {P : Program} {w : World} {K : PySem.W.Frag} {mg mb : Str → Option Value} {CX : CXT} {k : Nat} {fa a : Addr} {fd : FuncData} {x : Str} {sp : Sp} {s : Shared} {us : List Value} {ns : List Int}
    (inK : K.In s.heap) (gns : s.heap.Ns mainGlobals mg) (bns : s.heap.Ns builtinsNs mb) (hbb : ∀ x : Str, x ≠ "__name__" → mb x = bootBuiltins x) (lim : s.heap.NoLimit) (gens : s.gens = #[])
    (oa : s.heap.get? a = some { cls := .type "list", data := .seq us.toArray }) (hi : IntsAre us ns) (size : ns.length ≤ sizeLine) (room : Room k callerA)
    (F : ∀ base : Heap, K.In base → base.Ns mainGlobals mg → FnG P w K mg base CX k fa fd [x] sp) (bind : ∀ (s : Shared) (u : Value), BindsTo s fd ⟨[u], []⟩ [(x, u)])
    (hsp : ∀ H : Hp, Only H → ((∃ o, H a = some (.frz o (.lst (ns.map V.int)))) ∨ SqL K (fun _ => none) a (ns.map V.int)) → sp [.ref a] H (fun v _ => v = .bl true) fun _ _ _ => False)
    (hCX : ∀ H e s', CX [] H s (fun _ _ _ => False) e s' → False) :
    codeAny (model P w) callerA (.call (.ref fa) ⟨[.ref a], []⟩) (fun r s' => r = .ok (.ret (.bool true)) ∧ OldK s.heap s'.heap ∧ s'.os = s.os ∧ AllBare s'.gens) s := by
  have rel := vals_ints hi
  have len := hi.length
  have core : ∀ H : Hp, Only H → ((∃ o, H a = some (.frz o (.lst (ns.map V.int)))) ∨ SqL K (fun _ => none) a (ns.map V.int)) → HOk P w H s.heap → (∀ b u, H b = some u → b = a ∧ K.lookup a = none) →
      codeAny (model P w) callerA (.call (.ref fa) ⟨[.ref a], []⟩) (fun r s' => r = .ok (.ret (.bool true)) ∧ OldK s.heap s'.heap ∧ s'.os = s.os ∧ AllBare s'.gens) s := by
    intro H hO hS hok hA
    have noD : ∀ {b : Addr} {o : Obj} {es : Array DictEntry} {ep : Nat}, s.heap.get? b = some o → o.data = .dict es ep → H b = none := fun {b o es ep} e d => by
      cases q : H b with
      | none => rfl
      | some u =>
        rw [(hA b u q).1, oa] at e
        cases e
        exact absurd (show Data.seq us.toArray _ = Data.dict es ep from d) nofun
    have nsH : ∀ {b : Addr} {m : Str → Option Value}, s.heap.Ns b m → (hidT s.heap H).Ns b m := fun {b m} h => by
      obtain ⟨o, es, ep, e, d, r⟩ := h
      exact ⟨o, es, ep, hidT_get e (noD e d), d, r⟩
    have kH : K.In (hidT s.heap H) := fun b o e => hidT_get (inK b o e) (by
      cases q : H b with
      | none => rfl
      | some u =>
        obtain ⟨rfl, n⟩ := hA b u q
        rw [n] at e
        cases e)
    have md : Mod K mg (hidT s.heap H) := by
      obtain ⟨mc, h1, h2⟩ := lim
      exact ⟨kH, nsH gns, ⟨mb, nsH bns, hbb⟩, mc, nsH h1, h2⟩
    have e0 : Env0 P w K mg (hidT s.heap H) callerA [] s H := ⟨rfl, md, fun b o e => of_hidT e, Nat.le_of_eq (hidT_size _ _), trivial, fun b hb => absurd (show b ∈ ([] : List Addr) from hb) (List.not_mem_nil), hok, .of_eq gens⟩
    refine codeAny_mono ((F _ kH (nsH gns)).run callerA [] s H ⟨[.ref a], []⟩ [.ref a] [.ref a] _ _ room rfl e0 (bind s (.ref a)) (.cons rfl .nil) (hsp H hO hS)) fun r s' h => ?_
    cases r with
    | error e => exact (hCX H e s' h).elim
    | ok fl =>
      cases fl with
      | next => exact h.elim
      | brk => exact h.elim
      | cont => exact h.elim
      | ret u =>
        obtain ⟨v, H', os, bare, un, hok', rv, q⟩ := h
        cases (show v = V.bl true from q)
        cases (show u = Value.bool true from rv)
        refine ⟨rfl, OldK.of_keep fun b o e => ?_, os, bare⟩
        rcases hO b with z | ⟨ob, xs, z⟩
        · exact un.keep b o e z (fun c => absurd (show b ∈ ([] : List Addr) from c) List.not_mem_nil) List.not_mem_nil
        · obtain ⟨e1, _⟩ := hok b _ z
          obtain ⟨e2, _⟩ := hok' b _ (un.frzs b ob _ z)
          rw [e] at e1
          cases e1
          exact e2
  cases hk : K.lookup a with
  | some o =>
    have e := inK a o hk
    rw [oa] at e
    cases e
    exact core (fun _ => none) (fun _ => .inl rfl) (.inr (.inr ⟨_, us.toArray, _, hk, rfl, rfl, rfl, by rw [List.size_toArray, len]; exact size, by simpa using rel⟩)) (fun b u z => nomatch (show (none : Option HO) = some u from z)) fun b u z => nomatch (show (none : Option HO) = some u from z)
  | none =>
    refine core (upd (fun _ => none) a (.frz { cls := .type "list", data := .seq us.toArray } (.lst (ns.map V.int)))) (fun b => ?_) (.inl ⟨_, upd_same⟩) (fun b u z => ?_) fun b u z => ?_
    · by_cases hb : b = a
      · exact .inr ⟨_, _, by rw [hb]; exact upd_same⟩
      · exact .inl (by rw [upd_ne hb])
    · by_cases hb : b = a
      · subst hb
        rw [upd_same] at z
        cases z
        exact ⟨oa, by rw [List.length_map]; exact size, us, _, rel, oa⟩
      · rw [upd_ne hb] at z
        cases z
    · by_cases hb : b = a
      · exact ⟨hb, hk⟩
      · rw [upd_ne hb] at z
        cases z
/-- a law that answers True: its def's spec -/
theorem walkG {l : PySem.W.OpenLaw} {n k : Nat} {q : Program} {loose : List Str} {XP : (Str → Option Value) → Heap → Prop} {YP : World → Heap → Prop} {d : DefRec} {x : Str} {S : SpecD}
    (hn : l.most = some n) (hn2 : n ≤ sizeLine) (hdf : d.params.defaults = []) (room : Room k callerA) (har : S.ar = 1)
    (hS : ∀ (ns : List Int) (Q : QD) (E : QX), ns.length ≤ n → (∀ st', Q (.bl true) st') → S.run [.rol (ns.map D.int)] [] Q E)
    (F : ∀ (w : World) (mg : Str → Option Value) (fa : Addr) (h : Heap), YP w h → h.Ns mainGlobals mg → mg d.name = some (.ref fa) →
      ∃ (K : PySem.W.Frag) (fd : FuncData), K.In h ∧ (∀ (s : Shared) (u : Value), BindsTo s fd ⟨[u], []⟩ [(x, u)]) ∧
        ∀ base : Heap, K.In base → base.Ns mainGlobals mg → FnG l.prog w K mg base (CXof ⟨l.prog, w, K, mg, base⟩) k fa fd [x] (spOf ⟨l.prog, w, K, mg, base⟩ S)) :
    PySem.W.WalkO q loose XP YP l.row.toRowW d [] (fun f vs => PySem.call f vs) := by
  refine Att.attach_call hn hdf fun w s₀ s₁ mg mb fa o pm cd doc a us ns G Y ho hd hcd hmg hobj hints hlen hg => ?_
  obtain ⟨K, fd, inK, hb, hF⟩ := F w mg fa _ Y G.T.g hmg
  refine endG (CX := L2.CX l.prog w) (sp := fun vs H Q E => vs.length = S.ar ∧ ∃ mu ds st, RelS K w mu H st ∧ RVs K mu H ds vs ∧ S.run ds st (PostD ⟨l.prog, w, K, mg, s₁.heap⟩ mu H Q) (fun x st' => ∀ mu' cls dd H', Step mu H mu' H' → RelS K w mu' H' st' → XR ⟨l.prog, w, K, mg, s₁.heap⟩ mu' H' x cls dd → E cls dd H'))
    inK G.T.g G.T.b G.T.builtins G.T.nolimit hg hobj hints (Nat.le_trans hlen hn2) room (fun base h1 h2 => ?_) hb (fun H hO hs => ?_) fun H e s' h => ?_
  · have f := hF base h1 h2
    refine ⟨fun vs H Q E h => f.len vs H Q E ?_, fun A out s H args us vs Q E r g e0 b v h => f.run A out s H args us vs Q E r g e0 b v ?_⟩
    all_goals
      obtain ⟨e1, mu, ds, st, R, rv, hr⟩ := h
      exact ⟨e1, mu, ds, st, R, rv, S.mono _ _ _ _ _ _ hr (fun d s hd => hd) fun x st' hx mu' cls dd H' s' r' q' => hx mu' cls dd H' s' r' ⟨q'.cl, q'.fs⟩⟩
  · refine ⟨har.symm, ⟨[], []⟩, [.rol (ns.map D.int)], [], ⟨List.nodup_nil, rfl, fun n o a h => by simp at h, fun a h => by cases h⟩, ?_, hS ns _ _ hlen fun st' mu' v H' s r q => q⟩
    refine ⟨.ref a, [], rfl, ⟨a, ns.map V.int, rfl, ?_, ?_⟩, rfl⟩
    · rcases hs with h | h
      · exact .inr h
      · exact .inl h
    · have gen : ∀ ns : List Int, RVs K ⟨[], []⟩ H (ns.map D.int) (ns.map V.int) := by
        intro ns
        induction ns with
        | nil => rfl
        | cons n r ih => exact ⟨_, _, rfl, rfl, ih⟩
      exact gen ns
  · obtain ⟨_, _, _, _, _, _, _, _, _, _, _, _, e⟩ := h
    exact e
abbrev FnP (K : PySem.W.Frag) (x : Str) (st : Stmt) (f : Addr) (fd : FuncData) : Prop := FunD K x x (defArgs st) (defBody st) (defScope st) [] [] f fd
theorem avail {G : GEnv} {k : Nat} {f : Addr} {fd : FuncData} {x : Str} {st : Stmt} {N ps : List Str} {l : List SemS} {S : SpecD} (F : FnP G.K x st f fd) (gm : G.mg x = some (.ref f)) (ok : (scopeB N ps (defScope st) && chkB l N (defScope st) (defBody st)) = true) (har : ps.length = S.ar)
    (hS : ∀ ds st Q E, ds.length = S.ar → S.run ds st Q E → bodyD l N.length ds st Q E) (hb : Binds G.K fd ps []) (rq : reqB l G k) : FnAvail G (k + 1) x S [] := by
  rw [Bool.and_eq_true] at ok
  exact ⟨f, fd, ps, [], [], gm, F.kp, fn_ok F ok.1 ok.2 har rq hS, hb, .nil, fun _ _ => rfl⟩
end Mi
/-! MiU: sets of nested tuples, table and all: questions that a search asks, the search itself, putting in. -/
namespace Mi
open PySem PySem.Spec PyProof.Rows L2

/-- an address with its key -/
abbrev Rw := Addr × NestedKey
abbrev KA (h : Heap) (p : Rw) : Prop := NestedIs h p.2 (.ref p.1) ∧ p.2.depth ≤ 8
section
variable {P : Program} {w : World} {A : Around} {E : Value → Shared → Prop} {s : Shared}

mutual
theorem ofCl : ∀ (k : NestedKey) (v : Value) (n : Nat) (s : Shared) (A : Around) (E : Value → Shared → Prop) (Q : Bool → Shared → Prop), NestedIs s.heap k v → k.depth ≤ n → Q false s → wpAny (model P w) A (ofAClassStatement n v) Q E s
  | .none, _, n, s, A, E, Q, x, _, q => by cases x; cases n <;> exact wpAny_pure q
  | .num i, _, n, s, A, E, Q, x, _, q => by cases x <;> cases n <;> exact wpAny_pure q
  | .text y, _, n, s, A, E, Q, x, _, q => by cases x; cases n <;> exact wpAny_pure q
  | .tup ks, _, n, s, A, E, Q, x, hn, q => by
    cases x with
    | @tup a o vs m _ g c d r =>
      rw [NestedKey.depth] at hn
      cases n with
      | zero => omega
      | succ n =>
        unfold ofAClassStatement
        refine wpAny_bind (wpAny_typeOf (T := "tuple") ⟨o, g, c⟩ ?_)
        dsimp only
        simp only [show (("tuple" : String) == "tuple") = true by decide, if_true, Bool.not_true, Bool.false_eq_true, if_false]
        try refine wpAny_bind (wpAny_pure ?_)
        try simp only [Bool.not_true, Bool.false_eq_true, if_false]
        show wpAny _ _ (seqItems? (.ref a) >>= _) _ _ s
        refine wpAny_bind (wpAny_seqItems g d ?_)
        dsimp only
        refine wpAny_bind (?_ : wpAny _ _ (forIn vs _ _) _ _ s)
        rw [← Array.forIn_toList]
        refine wpAny_forIn_list _ (fun rest r s' => r.1 = none ∧ s' = s ∧ ∀ v ∈ rest, ∀ (B : Around) (F : Value → Shared → Prop) (R : Bool → Shared → Prop), R false s → wpAny (model P w) B (ofAClassStatement n v) R F s) _ ?_ ?_ _ _ ⟨rfl, rfl, fun v hv => ofCls ks vs.toList n s r (by omega) v hv⟩
        · rintro v rest r s' ⟨hr, rfl, hall⟩
          refine wpAny_bind (hall v List.mem_cons_self _ _ _ ?_)
          simp only [Bool.false_eq_true, if_false]
          exact wpAny_pure ⟨rfl, rfl, fun u hu => hall u (List.mem_cons_of_mem _ hu)⟩
        · rintro ⟨r1, r2⟩ s' ⟨hr, rfl, _⟩
          simp only at hr
          subst hr
          exact wpAny_pure q
theorem ofCls : ∀ (ks : List NestedKey) (vs : List Value) (n : Nat) (s : Shared), NestedAll s.heap ks vs → NestedKey.depthAll ks ≤ n →
    ∀ v ∈ vs, ∀ (A : Around) (E : Value → Shared → Prop) (Q : Bool → Shared → Prop), Q false s → wpAny (model P w) A (ofAClassStatement n v) Q E s
  | [], _, n, s, r, _, v, hv => by cases r; cases hv
  | k :: ks, _, n, s, r, hn, v, hv => by
    cases r with
    | cons r1 r2 =>
      rw [NestedKey.depthAll] at hn
      intro A E Q q
      rcases List.mem_cons.mp hv with e | hv
      · subst e; exact ofCl k _ n s A E Q r1 (by omega) q
      · exact ofCls ks _ n s r2 (by omega) v hv A E Q q
end
mutual
/-- whether a key's hash is one by value: one or the other -/
theorem byVal : ∀ (k : NestedKey) (v : Value) (n : Nat) (s : Shared) (A : Around) (E : Value → Shared → Prop) (Q : Bool → Shared → Prop), NestedIs s.heap k v → k.depth ≤ n → (∀ b, Q b s) → wpAny (model P w) A (hashByValue n v) Q E s
  | .none, _, n, s, A, E, Q, x, _, q => by cases x; cases n <;> exact wpAny_pure (q _)
  | .num i, _, n, s, A, E, Q, x, _, q => by cases x <;> cases n <;> exact wpAny_pure (q _)
  | .text y, _, n, s, A, E, Q, x, _, q => by cases x; cases n <;> exact wpAny_pure (q _)
  | .tup ks, _, n, s, A, E, Q, x, hn, q => by
    cases x with
    | @tup a o vs m _ g c d r =>
      rw [NestedKey.depth] at hn
      cases n with
      | zero => omega
      | succ n =>
        unfold hashByValue
        refine wpAny_bind (wpAny_specialOf (T := "tuple") ⟨o, g, c⟩ F.slot_tuple_hash.lookup ?_)
        show wpAny _ _ (seqItems? (.ref a) >>= _) _ _ s
        refine wpAny_bind (wpAny_seqItems g d ?_)
        refine wpAny_bind (?_ : wpAny _ _ (forIn vs _ _) _ _ s)
        rw [← Array.forIn_toList]
        refine wpAny_forIn_list _ (fun rest r s' => r.1 = none ∧ s' = s ∧ ∀ v ∈ rest, ∀ (B : Around) (F : Value → Shared → Prop) (R : Bool → Shared → Prop), (∀ b, R b s) → wpAny (model P w) B (hashByValue n v) R F s) _ ?_ ?_ _ _ ⟨rfl, rfl, fun v hv => byVals ks vs.toList n s r (by omega) v hv⟩
        · rintro v rest r s' ⟨hr, rfl, hall⟩
          refine wpAny_bind (hall v List.mem_cons_self _ _ _ fun b => ?_)
          cases b
          · simp only [Bool.not_false, if_true]
            exact wpAny_pure (wpAny_pure (q _))
          · simp only [Bool.not_true, Bool.false_eq_true, if_false]
            exact wpAny_pure ⟨rfl, rfl, fun u hu => hall u (List.mem_cons_of_mem _ hu)⟩
        · rintro ⟨r1, r2⟩ s' ⟨hr, rfl, _⟩
          simp only at hr
          subst hr
          exact wpAny_pure (q _)
theorem byVals : ∀ (ks : List NestedKey) (vs : List Value) (n : Nat) (s : Shared), NestedAll s.heap ks vs → NestedKey.depthAll ks ≤ n →
    ∀ v ∈ vs, ∀ (A : Around) (E : Value → Shared → Prop) (Q : Bool → Shared → Prop), (∀ b, Q b s) → wpAny (model P w) A (hashByValue n v) Q E s
  | [], _, n, s, r, _, v, hv => by cases r; cases hv
  | k :: ks, _, n, s, r, hn, v, hv => by
    cases r with
    | cons r1 r2 =>
      rw [NestedKey.depthAll] at hn
      intro A E Q q
      rcases List.mem_cons.mp hv with e | hv
      · subst e; exact byVal k _ n s A E Q r1 (by omega) q
      · exact byVals ks _ n s r2 (by omega) v hv A E Q q
end
/-- a search among such keys shows nothing -/
theorem seenK {x : Rw} {Q : Bool → Shared → Prop} (hx : KA s.heap x) {ys : List Value} (hy : ∀ y ∈ ys, ∃ p, y = Value.ref p.1 ∧ KA s.heap p) (h : Q false s) :
    wpAny (model P w) A (searchCouldBeSeen (.ref x.1) ys) Q E s := by
  unfold searchCouldBeSeen
  refine wpAny_bind ?_
  refine wpAny_forIn_list _ (fun rest r s' => r.1 = none ∧ s' = s ∧ ∀ y ∈ rest, ∃ p, y = Value.ref p.1 ∧ KA s.heap p) _ ?_ ?_ _ _ ⟨rfl, rfl, hy⟩
  · rintro v rest r s' ⟨hr, rfl, hall⟩
    obtain ⟨p, rfl, hp⟩ := hall v List.mem_cons_self
    have more : ∀ y ∈ rest, ∃ p, y = Value.ref p.1 ∧ KA s'.heap p := fun u hu => hall u (List.mem_cons_of_mem _ hu)
    dsimp only
    by_cases hv : (x.1 == p.1 || (carriedByValue (.ref x.1) && carriedByValue (.ref p.1))) = true
    · exact wp_if_pos hv (wpAny_pure ⟨rfl, rfl, more⟩)
    · refine wp_if_neg hv ?_
      refine wpAny_bind (quiet_key x.2 _ 8 _ hx.1 hx.2 _ _ _ ?_)
      simp only [Bool.not_true, Bool.false_eq_true, if_false]
      refine wpAny_bind (quiet_key p.2 _ 8 _ hp.1 hp.2 _ _ _ ?_)
      simp only [Bool.not_true, Bool.false_eq_true, if_false]
      refine wpAny_bind (ofCl x.2 _ 8 _ _ _ _ hx.1 hx.2 ?_)
      simp only [Bool.false_eq_true, if_false]
      refine wpAny_bind (ofCl p.2 _ 8 _ _ _ _ hp.1 hp.2 ?_)
      simp only [Bool.false_eq_true, if_false]
      exact wpAny_pure ⟨rfl, rfl, more⟩
  · rintro ⟨r1, r2⟩ s' ⟨hr, rfl, _⟩
    simp only at hr
    subst hr
    exact wpAny_pure h

/-! ### the set -/
def rowE (w : World) (L : List Rw) : List (Int × Value) := L.map fun p => (p.2.hash w, Value.ref p.1)
/-- the set at a holds the rows L (in the order of its table) -/
structure SN (w : World) (h : Heap) (a : Addr) (L : List Rw) (es : Array (Int × Value)) (ep : Nat) (t : SetTable) : Prop where
  ob : ∃ o, h.get? a = some o ∧ o.ExactSet ∧ o.data = .set es ep t
  rows : es.toList = rowE w L
  tab : TabOk t (L.map fun p => p.2.hash w)
  nd : (L.map (·.2)).Nodup
  key : ∀ p ∈ L, KA h p
  led : w.params.followText "set-order" = true ∨ t.led = true
  room : L.length * 5 < t.mask * 3
  few : L.length < 64
theorem rowE_len {w : World} {L : List Rw} {es : Array (Int × Value)} (h : es.toList = rowE w L) : es.size = L.length := by
  rw [← Array.length_toList, h, rowE, List.length_map]
variable {a : Addr} {L : List Rw} {es : Array (Int × Value)} {ep : Nat} {t : SetTable}
theorem SN.size (R : SN w s.heap a L es ep t) : es.size = L.length := rowE_len R.rows
theorem fits_of {t : SetTable} {n m : Nat} (h1 : t.place.size = n) (h2 : t.dummies = #[]) (h3 : n ≤ t.mask) : t.fits n = true := by
  unfold SetTable.fits SetTable.fill
  rw [h2, Bool.and_eq_true, beq_iff_eq, decide_eq_true_eq]
  show t.place.size = n ∧ t.place.size + 0 ≤ t.mask
  omega
theorem SN.fits (R : SN w s.heap a L es ep t) : t.fits es.size = true := by
  have h1 := R.tab.sz
  rw [List.length_map] at h1
  have h3 := R.room
  exact fits_of (m := 0) (by rw [h1, R.size]) R.tab.dm (by rw [R.size]; omega)
theorem SN.entry (R : SN w s.heap a L es ep t) {i : Nat} {p : Rw} (h : L[i]? = some p) : es[i]? = some (p.2.hash w, Value.ref p.1) := by
  have e : (rowE w L)[i]? = some (p.2.hash w, Value.ref p.1) := by simp [rowE, h]
  rwa [← R.rows, Array.getElem?_toList] at e
theorem SN.gw (R : SN w s.heap a L es ep t) : ¬ t.gaveWay = true := by
  unfold SetTable.gaveWay
  rw [mask_odd R.tab.mok]
  decide
/-- the c-th state of a search for the hash h -/
abbrev prb (m : Nat) (h : Int) (c : Nat) : SetTable.Probe := nth m (runAt m (SetTable.bits h % (m + 1)) (SetTable.bits h)) c
theorem prb_dm (m : Nat) (h : Int) : ∀ c, (prb m h c).dummy = none
  | 0 => rfl
  | c + 1 => by
    show (nth m _ (c + 1)).dummy = none
    rw [nth_succ]
    have ih := prb_dm m h c
    unfold adv
    split <;> exact ih
theorem prb_add (m : Nat) (h : Int) (c q : Nat) : nth m (prb m h c) q = prb m h (c + q) := (nth_add m c _ q).symm
theorem prb_way (m : Nat) (h : Int) (c q : Nat) : (nth m (prb m h c) q).j = way m h (c + q) := congrArg SetTable.Probe.j (prb_add m h c q)

/-- what a probe from the c-th state meets -/
theorem SN.meets (R : SN w s.heap a L es ep t) (h : Int) {K c : Nat} (hKf : K < 10 * SetTable.turns t.mask) (hK : way t.mask h K ∉ t.place.toList) (hb : ∀ c, c < K → way t.mask h c ∈ t.place.toList) (hc : c ≤ K) :
    (∃ q i p, c + q < K ∧ L[i]? = some p ∧ t.place.toList[i]? = some (way t.mask h (c + q)) ∧ t.slot (way t.mask h (c + q)) = .live i ∧ p.2.hash w = h ∧
      (∀ (c' i' : Nat) (p' : Rw), c ≤ c' → c' < c + q → L[i']? = some p' → t.place.toList[i']? = some (way t.mask h c') → p'.2.hash w ≠ h) ∧
      t.probe (fun i => (es[i]?.map (·.1)).getD 0) h (prb t.mask h c) = some (.candidate (way t.mask h (c + q)) i (prb t.mask h (c + (q + 1))))) ∨
    ((∀ (c' i' : Nat) (p' : Rw), c ≤ c' → c' < K → L[i']? = some p' → t.place.toList[i']? = some (way t.mask h c') → p'.2.hash w ≠ h) ∧
      t.probe (fun i => (es[i]?.map (·.1)).getD 0) h (prb t.mask h c) = some (.empty (way t.mask h K) none)) := by
  have hat : ∀ (i : Nat) (p : Rw), L[i]? = some p → (es[i]?.map (·.1)).getD 0 = p.2.hash w := fun i p hp => by rw [R.entry hp]; rfl
  have spec := go_spec t R.tab.ris R.tab.dm (fun i => (es[i]?.map (·.1)).getD 0) h (10 * SetTable.turns t.mask) (K - c) _ (prb_dm t.mask h c) (by omega)
    (fun q hq => by rw [prb_way]; exact hb _ (by omega)) (by rw [prb_way, show c + (K - c) = K by omega]; exact hK)
  rcases spec with ⟨q, i, hq, hi, hh, hno, hpr⟩ | ⟨hno, hpr⟩
  · rw [prb_way] at hi hpr
    have hil : i < L.length := by
      have h1 : i < t.place.toList.length := (List.getElem?_eq_some_iff.mp hi).1
      have h2 := R.tab.sz
      rw [List.length_map] at h2
      rw [Array.length_toList] at h1
      omega
    refine .inl ⟨q, i, L[i], by omega, List.getElem?_eq_getElem hil, hi, slot_live R.tab.ris hi, ?_, fun c' i' p' h1 h2 h3 h4 => ?_, ?_⟩
    · rw [← hat i _ (List.getElem?_eq_getElem hil)]; exact hh
    · rw [← hat i' p' h3]
      exact hno (c' - c) i' (by omega) (by rw [prb_way, show c + (c' - c) = c' by omega]; exact h4)
    · rw [prb_add] at hpr; exact hpr
  · refine .inr ⟨fun c' i' p' h1 h2 h3 h4 => ?_, ?_⟩
    · rw [← hat i' p' h3]
      exact hno (c' - c) i' (by omega) (by rw [prb_way, show c + (c' - c) = c' by omega]; exact h4)
    · rw [prb_way, show c + (K - c) = K by omega] at hpr; exact hpr

/-- the search, from the c-th state on -/
theorem lookFrom (R : SN w s.heap a L es ep t) {x : Rw} (hx : KA s.heap x) (hu : A.units + 8 < cLine) {K : Nat} (hKf : K < 10 * SetTable.turns t.mask)
    (hK : way t.mask (x.2.hash w) K ∉ t.place.toList) (hb : ∀ c, c < K → way t.mask (x.2.hash w) c ∈ t.place.toList) {Q : SetFound → Shared → Prop}
    (hin : x.2 ∈ L.map (·.2) → Q (.there none) s) (hout : x.2 ∉ L.map (·.2) → Q (.free (way t.mask (x.2.hash w) K) false) s) :
    ∀ (f c : Nat) (stand : Option SetTable.Probe), stand.getD (t.probeStart (x.2.hash w)) = prb t.mask (x.2.hash w) c → c ≤ K → K - c < f →
      (∀ (i : Nat) p, L[i]? = some p → p.2 = x.2 → ∃ c', c ≤ c' ∧ c' < K ∧ t.place.toList[i]? = some (way t.mask (x.2.hash w) c')) →
      wpAny (model P w) A (setSearchFrom a (.ref x.1) (x.2.hash w) true f stand) Q E s := by
  obtain ⟨o, ho, hex, hd⟩ := R.ob
  intro f
  induction f with
  | zero => intro c stand _ _ hf; exact absurd hf (Nat.not_lt_zero _)
  | succ f ih =>
    intro c stand hst hc hf hre
    rw [setSearchFrom_succ]
    refine wpAny_bind (wpAny_setState_of ho hd R.fits ?_)
    dsimp only
    refine wp_if_neg R.gw ?_
    try refine wpAny_bind (wpAny_pure ?_)
    rcases R.meets (x.2.hash w) hKf hK hb hc with ⟨q, i, p, hq, hp, hi, hsl, hh, hno, hpr⟩ | ⟨hno, hpr⟩
    · rw [hst, hpr]
      dsimp only
      have hm : p ∈ L := List.mem_of_getElem? hp
      have rest : wpAny (model P w) A (searchRest a (.ref x.1) (x.2.hash w) true f es t (way t.mask (x.2.hash w) (c + q)) i (prb t.mask (x.2.hash w) (c + (q + 1)))) Q E s := by
        unfold searchRest
        rw [R.entry hp]
        dsimp only
        refine wpAny_bind (wpAny_holding ((nestedKind P w).eqBool hu (R.key p hm) hx ?_))
        refine wpAny_bind (wpAny_setState_of ho hd R.fits ?_)
        dsimp only
        by_cases hkk : p.2 = x.2
        · exact wp_if_pos (by simp [hkk]) (wpAny_pure (hin (List.mem_map.mpr ⟨p, hm, hkk⟩)))
        · refine wp_if_neg (by simp [hkk]) ?_
          try refine wpAny_bind (wpAny_pure ?_)
          rw [sameMem]
          dsimp only
          simp only [if_true, hsl, R.entry hp]
          refine wpAny_bind (wpAny_isSame_ref_self (wpAny_bind (wpAny_pure ?_)))
          simp only [if_true]
          refine wp_if_neg (by simp [hkk]) ?_
          refine ih (c + (q + 1)) _ rfl (by omega) (by omega) fun i0 p0 h0 hk0 => ?_
          obtain ⟨c', a1, a2, a3⟩ := hre i0 p0 h0 hk0
          refine ⟨c', ?_, a2, a3⟩
          rcases Nat.lt_trichotomy c' (c + q) with z | z | z
          · exact absurd (by rw [hk0]) (hno c' i0 p0 a1 z h0 a3)
          · subst z
            have s0 := slot_live R.tab.ris a3
            rw [hsl] at s0
            injection s0 with s0
            rw [← s0, hp] at h0
            exact absurd ((congrArg Prod.snd (Option.some.inj h0)).trans hk0) hkk
          · omega
      by_cases hl : t.led = true
      · refine wp_if_neg (by simp [hl]) ?_
        try refine wpAny_bind (wpAny_pure ?_)
        exact rest
      · refine wp_if_pos (by simp [hl]) ?_
        refine wpAny_bind (seenK hx (fun y hy => ?_) ?_)
        · obtain ⟨e, he, ee⟩ := List.mem_map.mp hy
          have he1 : e ∈ es ∧ e.1 = x.2.hash w := by simpa using he
          have he2 : e ∈ es.toList := by simpa using he1.1
          rw [R.rows] at he2
          obtain ⟨p2, hp2, e2⟩ := List.mem_map.mp he2
          exact ⟨p2, by rw [← ee, ← e2], R.key p2 hp2⟩
        · refine wp_if_neg (by decide) ?_
          try refine wpAny_bind (wpAny_pure ?_)
          exact rest
    · rw [hst, hpr]
      dsimp only
      refine wpAny_pure (hout fun hm => ?_)
      obtain ⟨p0, h0, hk0⟩ := List.mem_map.mp hm
      obtain ⟨i0, hi0⟩ := List.mem_iff_getElem?.mp h0
      obtain ⟨c', a1, a2, a3⟩ := hre i0 p0 hi0 hk0
      exact hno c' i0 p0 a1 a2 hi0 a3 (by rw [hk0])
/-- the search as putting in asks for it -/
theorem lookAt (R : SN w s.heap a L es ep t) {x : Rw} (hx : KA s.heap x) (hu : A.units + 8 < cLine) {Q : SetFound → Shared → Prop} (hin : x.2 ∈ L.map (·.2) → Q (.there none) s)
    (hout : ∀ K, x.2 ∉ L.map (·.2) → way t.mask (x.2.hash w) K ∉ t.place.toList → (∀ c, c < K → way t.mask (x.2.hash w) c ∈ t.place.toList) → Q (.free (way t.mask (x.2.hash w) K) false) s) :
    wpAny (model P w) A (setSearch a (.ref x.1) (x.2.hash w) true) Q E s := by
  have hroom := R.room
  obtain ⟨K, hKf, hK, hb⟩ := R.tab.first (by rw [List.length_map]; omega) (x.2.hash w)
  have hbig : K < 100000 := by
    have : 10 * SetTable.turns t.mask ≤ 1420 := by
      unfold SetTable.turns
      rcases R.tab.mok with e | e | e <;> omega
    omega
  refine lookFrom R hx hu hKf hK hb hin (fun hn => hout K hn hK hb) 100000 0 none rfl (Nat.zero_le _) (by omega) fun i p hp hk => ?_
  have hi : (L.map fun p => p.2.hash w)[i]? = some (x.2.hash w) := by rw [List.getElem?_map, hp, ← hk]; rfl
  have hil : i < t.place.toList.length := by
    have h1 : i < L.length := (List.getElem?_eq_some_iff.mp hp).1
    have h2 := R.tab.sz
    rw [List.length_map] at h2
    rw [Array.length_toList]
    omega
  have hj := List.getElem?_eq_getElem hil
  obtain ⟨c, hc, e⟩ := R.tab.before hK hi hj
  exact ⟨c, Nat.zero_le _, hc, by rw [hj, e]⟩
end
end Mi
/-! MiV: putting a nested tuple into a set, the set of a list or a tuple, sorted. -/
namespace Mi
open PySem PySem.Spec PyProof.Rows L2
section
variable {P : Program} {w : World} {A : Around} {E : Value → Shared → Prop} {s : Shared}
/-- a key stays one when the set changes -/
theorem KA.same {h h' : Heap} {p : Rw} {a : Addr} {o : Obj} {es : Array (Int × Value)} {ep : Nat} {t : SetTable} (x : KA h p) (ho : h.get? a = some o) (hd : o.data = .set es ep t) (hs : Heap.SameBut a h h') : KA h' p :=
  ⟨NestedIs.at (fun b u vs n hb hv => (hs.2 b (fun e => by
    subst e
    rw [ho] at hb
    cases hb
    rw [hd] at hv
    cases hv)).trans hb) _ _ x.1, x.2⟩
theorem KA.keep {h h' : Heap} {p : Rw} (x : KA h p) (hk : ∀ c o, h.get? c = some o → h'.get? c = some o) : KA h' p := ⟨NestedIs.at (fun b u vs n hb _ => hk b u hb) _ _ x.1, x.2⟩
theorem rowE_put (L : List Rw) (p : Nat) (x : Rw) : rowE w (L.take p ++ x :: L.drop p) = (rowE w L).take p ++ (x.2.hash w, Value.ref x.1) :: (rowE w L).drop p := by
  simp [rowE, List.map_take, List.map_drop]
/-- the rows in another order -/
theorem order_rowE (L : List Rw) (es : Array (Int × Value)) (order : Array Nat) (hr : es.toList = rowE w L) (hp : order.toList.Perm (List.range L.length)) :
    ∃ L2, (order.filterMap (es[·]?)).toList = rowE w L2 ∧ L2.Perm L ∧ (L2.map fun p => p.2.hash w) = order.toList.map fun i => (es.map (·.1)).getD i 0 := by
  have hsz := rowE_len hr
  have ent : ∀ i, es[i]? = (L[i]?).map fun (p : Rw) => (p.2.hash w, Value.ref p.1) := fun i => by
    rw [← Array.getElem?_toList, hr, rowE, List.getElem?_map]
  refine ⟨order.toList.filterMap (fun i => L[i]?), ?_, ?_, ?_⟩
  · rw [Array.toList_filterMap, rowE, List.map_filterMap]
    exact congrArg (fun f => List.filterMap f order.toList) (funext ent)
  · have h2 : (List.range L.length).filterMap (fun i => L[i]?) = L := by
      have key : ∀ n, n ≤ L.length → (List.range n).filterMap (fun i => L[i]?) = L.take n := by
        intro n
        induction n with
        | zero => intro _; rfl
        | succ n ih =>
          intro hn
          rw [List.range_succ, List.filterMap_append, ih (by omega), List.take_succ, List.getElem?_eq_getElem hn]
          simp [List.getElem?_eq_getElem hn]
      rw [key _ (Nat.le_refl _), List.take_length]
    have h3 := hp.filterMap (fun i => L[i]?)
    rw [h2] at h3
    exact h3
  · have key : ∀ l : List Nat, (∀ i ∈ l, i < L.length) → ((l.filterMap fun i => L[i]?).map fun p => p.2.hash w) = l.map fun i => (es.map (·.1)).getD i 0 := by
      intro l
      induction l with
      | nil => intro _; rfl
      | cons i l ih =>
        intro hl
        have hi := hl i List.mem_cons_self
        have e5 : (es.map (·.1))[i]? = some ((L[i]).2.hash w) := by rw [Array.getElem?_map, ent, List.getElem?_eq_getElem hi]; rfl
        rw [List.filterMap_cons_some (List.getElem?_eq_getElem hi), List.map_cons, List.map_cons, ih fun j hj => hl j (List.mem_cons_of_mem _ hj), Array.getD_eq_getD_getElem?, e5]
        rfl
    exact key _ fun i hi => List.mem_range.mp (hp.mem_iff.mp hi)
variable {a : Addr} {L : List Rw} {es : Array (Int × Value)} {ep : Nat} {t : SetTable}
/-- the table laid anew -/
theorem relayN {o : Obj} (ho : s.heap.get? a = some o) (hex : o.ExactSet) (hd : o.data = .set es ep t) (hrows : es.toList = rowE w L) (hsz : t.place.size = es.size) (hdm : t.dummies = #[]) (hfl : es.size ≤ t.mask)
    (nd : (L.map (·.2)).Nodup) (key : ∀ p ∈ L, KA s.heap p) (ld : w.params.followText "set-order" = true ∨ t.led = true) (few : L.length < 64) {wanted M : Nat}
    (hw : SetTable.sizeAbove wanted - 1 = M) (hM : MaskOk M) (hw2 : SetTable.sizeAbove wanted ≤ 128) (hn : L.length * 5 < M * 3) {Q : Unit → Shared → Prop}
    (hQ : ∀ h' L' es' ep' t', Heap.SameBut a s.heap h' → SN w h' a L' es' ep' t' → L'.Perm L → Q () { s with heap := h' }) : wpAny (model P w) A (setRelay a wanted) Q E s := by
  have hsl := rowE_len hrows
  obtain ⟨t', order, e, hp, T, em, el, -, -⟩ := relaid_ok t (hs := es.map (·.1)) (wanted := wanted) hw hM (by rw [Array.size_map, hsl]; omega)
  rw [Array.size_map, hsl] at hp
  obtain ⟨L2, r1, r2, r3⟩ := order_rowE L es order hrows hp
  rw [← r3] at T
  have hs2 : (order.filterMap (es[·]?)).size = es.size := by rw [rowE_len r1, r2.length_eq, hsl]
  rw [setRelay_eq]
  refine wpAny_bind (wpAny_setState_of ho hd (fits_of (m := 0) hsz hdm hfl) ?_)
  dsimp only
  refine wp_if_neg (by rw [sizeLine_eq]; omega) ?_
  try refine wpAny_bind (wpAny_pure ?_)
  rw [e]
  dsimp only
  refine wpAny_bind ?_
  refine wp_if_neg (by rw [hs2]; simp) ?_
  try refine wpAny_bind (wpAny_pure ?_)
  refine wpAny_pure ?_
  dsimp only
  refine wpAny_storeSet_of ho hd ?_ (by rw [hs2, hsl, sizeLine_eq]; omega)
  have sb : Heap.SameBut a s.heap (s.heap.update a (Obj.putSet (order.filterMap (es[·]?)) t')) := Heap.SameBut.update ..
  refine hQ _ L2 _ (ep + 1) t' sb ⟨⟨_, store_at ho hd, ⟨hex.1, hex.2.1, hex.2.2⟩, rfl⟩, r1, T, (r2.map (·.2)).nodup_iff.mpr nd, fun p hpm => (key p (r2.mem_iff.mp hpm)).same ho hd sb, by rw [el]; exact ld, by rw [r2.length_eq, em]; exact hn, by rw [r2.length_eq]; exact few⟩ r2
/-- putting in -/
theorem putN (R : SN w s.heap a L es ep t) {x : Rw} (hx : KA s.heap x) (hu : A.units + 8 < cLine) (hfew : L.length + 1 < 64) {Q : Bool → Shared → Prop}
    (hQ : ∀ b h' L' es' ep' t', Heap.SameBut a s.heap h' → SN w h' a L' es' ep' t' → (x.2 ∈ L.map (·.2) → L' = L) → (x.2 ∉ L.map (·.2) → L'.Perm (x :: L)) → Q b { s with heap := h' }) :
    wpAny (model P w) A (setAddHashed a (.ref x.1) (x.2.hash w)) Q E s := by
  obtain ⟨o, ho, hex, hd⟩ := R.ob
  have hsl := R.size
  have hroom := R.room
  unfold setAddHashed
  refine wpAny_holding ?_
  rw [show (100000 : Nat) = 99999 + 1 from rfl, setAddHashedIn_succ]
  refine wpAny_bind (wpAny_setState_of ho hd R.fits ?_)
  dsimp only
  refine wp_if_neg (by simp [byScan, Value.scannable]) ?_
  try refine wpAny_bind (wpAny_pure ?_)
  refine wpAny_bind (lookAt R hx hu (fun hm => ?_) fun K hm hK hb => ?_)
  · exact wpAny_pure (hQ false s.heap L es ep t (Heap.SameBut.refl a s.heap) R (fun _ => rfl) fun z => absurd hm z)
  · dsimp only
    refine wpAny_bind (wpAny_setState_of ho hd R.fits ?_)
    dsimp only
    obtain ⟨q1, q2, q3, q4, q5, q6, q7, q8, q9⟩ := R.tab.put hK hb
    generalize t.put (way t.mask (x.2.hash w) K) = pt at q1 q3 q4 q5 q6 q7 q8 q9 ⊢
    obtain ⟨t1, p⟩ := pt
    dsimp only at q1 q3 q4 q5 q6 q7 q8 q9 ⊢
    subst q1
    have fin : ∀ t2 : SetTable, t2.mask = t1.mask → t2.led = t1.led → t2.place = t1.place → t2.dummies = t1.dummies →
        wpAny (model P w) A (do
          storeSet a (SetTable.insertAt es (SetTable.below t.place (way t.mask (x.2.hash w) K)) (x.2.hash w, .ref x.1)) t2
          if (!false && t2.tooFull) = true then setRelay a (SetTable.grown (es.size + 1))
          return true) Q E s := fun t2 m1 m2 m3 m4 => by
      have hin : (SetTable.insertAt es (SetTable.below t.place (way t.mask (x.2.hash w) K)) (x.2.hash w, Value.ref x.1)).toList = rowE w (L.take (SetTable.below t.place (way t.mask (x.2.hash w) K)) ++ x :: L.drop (SetTable.below t.place (way t.mask (x.2.hash w) K))) := by
        rw [SetTable.toList_insertAt, rowE_put, R.rows]
      generalize SetTable.below t.place (way t.mask (x.2.hash w) K) = p at q2 q3 hin ⊢
      have pm := put_perm L p x
      have hhs : (L.take p ++ x :: L.drop p).map (fun p => p.2.hash w) = (L.map fun p => p.2.hash w).take p ++ x.2.hash w :: (L.map fun p => p.2.hash w).drop p := by
        rw [List.map_append, List.map_cons, List.map_take, List.map_drop]
      rw [← hhs] at q3
      generalize L.take p ++ x :: L.drop p = L1 at pm q3 hin
      have hlen : L1.length = L.length + 1 := pm.length_eq
      have nd1 : (L1.map (·.2)).Nodup := (pm.map (·.2)).nodup_iff.mpr (by rw [List.map_cons]; exact List.nodup_cons.mpr ⟨hm, R.nd⟩)
      have hes := rowE_len hin
      rw [hlen] at hes
      generalize SetTable.insertAt es p (x.2.hash w, Value.ref x.1) = es1 at hin hes ⊢
      have T2 : TabOk t2 (L1.map fun p => p.2.hash w) := ⟨by rw [m3]; exact q3.ris, by rw [m4]; exact q3.dm, by rw [m3]; exact q3.sz, by rw [m1]; exact q3.mok, by rw [m1, m3]; exact q3.bd, by rw [m1, m3]; exact q3.reach⟩
      have hfill : t2.fill = L.length + 1 := by
        have z : t2.fill = t1.fill := by unfold SetTable.fill; rw [m3, m4]
        rw [z, q9, List.length_map]
      refine wpAny_bind (wpAny_storeSet_of ho hd ?_ (by rw [hes, sizeLine_eq]; omega))
      have sb : Heap.SameBut a s.heap (s.heap.update a (Obj.putSet es1 t2)) := Heap.SameBut.update ..
      have ho1 := store_at (es' := es1) (t' := t2) ho hd
      generalize s.heap.update a (Obj.putSet es1 t2) = h1 at sb ho1 ⊢
      have key1 : ∀ p ∈ L1, KA h1 p := fun p hp => by
        rcases List.mem_cons.mp (pm.mem_iff.mp hp) with e | hp
        · subst e; exact hx.same ho hd sb
        · exact (R.key p hp).same ho hd sb
      have ld1 : w.params.followText "set-order" = true ∨ t2.led = true := by rw [m2, q5]; exact R.led
      by_cases hf : t2.tooFull = true
      · have hfull := hf
        unfold SetTable.tooFull at hfull
        rw [decide_eq_true_eq, hfill, m1, q4] at hfull
        have two : ∃ M, SetTable.sizeAbove (SetTable.grown (L.length + 1)) - 1 = M ∧ MaskOk M ∧ SetTable.sizeAbove (SetTable.grown (L.length + 1)) ≤ 128 ∧ (L.length + 1) * 5 < M * 3 ∧ L.length + 1 ≤ t.mask := by
          rcases R.tab.mok with e | e | e <;> rw [e] at hfull hroom
          · have e2 : L.length = 4 := by omega
            exact ⟨31, by rw [e2, size_20], .inr (.inl rfl), by rw [e2, size_20]; decide, by omega, by omega⟩
          · have e2 : L.length = 18 := by omega
            exact ⟨127, by rw [e2, size_76], .inr (.inr rfl), by rw [e2, size_76]; decide, by omega, by omega⟩
          · exfalso; omega
        obtain ⟨M, b1, b2, b3, b4, b5⟩ := two
        first
          | (refine wpAny_bind ?_; refine wp_if_pos (by simp [hf]) ?_)
          | (refine wp_if_pos (by simp [hf]) ?_; refine wpAny_bind ?_)
        rw [hsl]
        refine relayN (s := { s with heap := h1 }) ho1 ⟨hex.1, hex.2.1, hex.2.2⟩ rfl hin (by have h := T2.sz; rw [List.length_map, hlen] at h; rw [h, hes]) T2.dm (by rw [hes, m1, q4]; exact b5) nd1 key1 ld1 (by rw [hlen]; exact hfew) b1 b2 b3 (by rw [hlen]; exact b4) fun h2 L2 es2 ep2 t3 sb2 R2 pm2 => ?_
        exact wpAny_pure (hQ true h2 L2 es2 ep2 t3 (sb.trans sb2) R2 (fun z => absurd z hm) fun _ => pm2.trans pm)
      · first
          | refine wp_if_neg (by simp [hf]) ?_
          | (refine wpAny_bind ?_; refine wp_if_neg (by simp [hf]) ?_; refine wpAny_pure ?_)
        refine wpAny_pure (hQ true h1 L1 es1 (ep + 1) t2 sb ⟨⟨_, ho1, ⟨hex.1, hex.2.1, hex.2.2⟩, rfl⟩, hin, T2, nd1, key1, ld1, ?_, by rw [hlen]; exact hfew⟩ (fun z => absurd z hm) fun _ => pm)
        have h := hf
        unfold SetTable.tooFull at h
        rw [decide_eq_true_eq, hfill] at h
        rw [hlen]
        omega
    by_cases hp : t1.plain = true
    · first
        | (refine wpAny_bind ?_; refine wp_if_pos hp ?_; refine byVal x.2 _ 8 _ _ _ _ hx.1 hx.2 fun b => ?_)
        | refine wp_if_pos hp (wpAny_bind (byVal x.2 _ 8 _ _ _ _ hx.1 hx.2 fun b => ?_))
      cases b
      · exact fin { t1 with plain := false } rfl rfl rfl rfl
      · exact fin t1 rfl rfl rfl rfl
    · first
        | (refine wpAny_bind ?_; refine wp_if_neg hp ?_; refine wpAny_pure ?_)
        | refine wp_if_neg hp (wpAny_bind (wpAny_pure ?_))
      exact fin t1 rfl rfl rfl rfl
end
end Mi
/-! MiW: the set of a list or of a tuple of nested tuples. (printed by mkW.py) -/
namespace Mi
open PySem PySem.Spec PyProof.Rows L2
/-- what the set has of the first i rows -/
structure Has (ks : List Rw) (i : Nat) (L : List Rw) : Prop where
  sub : ∀ p ∈ L, p ∈ ks.take i
  all : ∀ p ∈ ks.take i, p.2 ∈ L.map (·.2)
  len : L.length ≤ i
theorem Has.zero (ks : List Rw) : Has ks 0 [] := ⟨by simp, by simp, Nat.le_refl _⟩
theorem Has.next {ks L L' : List Rw} {i : Nat} {x : Rw} (g : Has ks i L) (h : ks[i]? = some x) (c1 : x.2 ∈ L.map (·.2) → L' = L) (c2 : x.2 ∉ L.map (·.2) → L'.Perm (x :: L)) : Has ks (i + 1) L' := by
  have e : ks.take (i + 1) = ks.take i ++ [x] := by rw [List.take_succ, h]; rfl
  rcases Classical.em (x.2 ∈ L.map (·.2)) with c | c
  · rw [c1 c]
    refine ⟨fun p hp => ?_, fun p hp => ?_, Nat.le_succ_of_le g.len⟩ <;> rw [e] at *
    · exact List.mem_append_left _ (g.sub p hp)
    · rcases List.mem_append.mp hp with z | z
      · exact g.all p z
      · rw [List.mem_singleton.mp z]; exact c
  · have pm := c2 c
    refine ⟨fun p hp => ?_, fun p hp => ?_, by rw [pm.length_eq]; exact Nat.succ_le_succ g.len⟩ <;> rw [e] at *
    · rcases List.mem_cons.mp (pm.mem_iff.mp hp) with z | z
      · subst z; simp
      · exact List.mem_append_left _ (g.sub p z)
    · rw [(pm.map (·.2)).mem_iff, List.map_cons]
      rcases List.mem_append.mp hp with z | z
      · exact List.mem_cons_of_mem _ (g.all p z)
      · rw [List.mem_singleton.mp z]; exact List.mem_cons_self
section
variable {P : Program} {w : World} {A : Around} {E : Value → Shared → Prop} {s : Shared}
theorem SN.keep {h h' : Heap} {a : Addr} {L : List Rw} {es : Array (Int × Value)} {ep : Nat} {t : SetTable} (R : SN w h a L es ep t) (ha : ∀ o, h.get? a = some o → h'.get? a = some o) (hk : ∀ p ∈ L, KA h' p) : SN w h' a L es ep t := by
  obtain ⟨o, ho, r⟩ := R.ob
  exact ⟨⟨o, ha o ho, r⟩, R.rows, R.tab, R.nd, hk, R.led, R.room, R.few⟩
def emptySet (w : World) : Obj := { cls := .type "set", dict := none, data := .set #[] 0 (.fresh 0 0 (!w.params.followText "set-order")) }
theorem SN.new {h : Heap} {a : Addr} (ho : h.get? a = some (emptySet w)) : SN w h a [] #[] 0 (.fresh 0 0 (!w.params.followText "set-order")) := by
  refine ⟨⟨_, ho, ⟨rfl, rfl, rfl⟩, rfl⟩, rfl, ⟨List.Pairwise.nil, rfl, rfl, .inl rfl, (fun x hx => nomatch hx), fun i h j hi => nomatch hi⟩, List.nodup_nil, by simp, ?_, show 0 * 5 < 7 * 3 by decide, by decide⟩
  show _ ∨ (!w.params.followText "set-order") = true
  cases w.params.followText "set-order" <;> simp
/-- the loop that puts all in -/
theorem fillN {I : Addr} {fp wr : List Addr} {G : Array GenState → Array GenState → Prop} {n : Nat} {Pv : Nat → Value → Prop} {St : Nat → Shared → Prop} {R : Result → Shared → Prop}
    (W : WalksS P w A.in1 I fp wr G n Pv St) (S : Addr) (hSf : S ∉ fp) (ks : List Rw) (hn : n = ks.length) (hfew : ks.length < 64) (hval : ∀ i v, Pv i v → ∃ p, ks[i]? = some p ∧ v = .ref p.1)
    (h0 : Heap) (hk : ∀ p ∈ ks, KA h0 p) (hS0 : h0.get? S = none) (hw0 : ∀ b ∈ wr, h0.get? b = none) (hu : A.in1.units + 8 < cLine) :
    ∀ (k i : Nat) (s : Shared), n - i = k → i ≤ n → St i s → (∀ b o, h0.get? b = some o → s.heap.get? b = some o) → (∃ L es ep t, SN w s.heap S L es ep t ∧ Has ks i L) →
      (∀ s' L es ep t, Moved (S :: wr) G s s' → SN w s'.heap S L es ep t → Has ks n L → (∀ b o, h0.get? b = some o → s'.heap.get? b = some o) → R (.ok (.ret .none)) s') →
      codeAny (model P w) A (.builtin "set.update.loop" ⟨[.ref S, .ref I], []⟩) R s := by
  have hSw : S ∉ wr := fun h => hSf (W.sub _ h)
  have mv : ∀ {s s' : Shared}, Moved wr G s s' → (∀ b o, h0.get? b = some o → s.heap.get? b = some o) → ∀ b o, h0.get? b = some o → s'.heap.get? b = some o := fun hm hkp b o e =>
    hm.heap b o (fun hb => by rw [hw0 b hb] at e; cases e) (hkp b o e)
  intro k
  induction k with
  | zero =>
    intro i s hk' hi hst hkp ⟨L, es, ep, t, hS, g⟩ hR
    obtain rfl : i = n := by omega
    refine codeAny_builtin F.entry_set_update_loop ?_
    rw [Around.under_plainId F.plain_set_update_loop _]
    refine wpAny_bind (W.done s _ _ hst fun s' hm => ?_)
    have hkp' := mv hm hkp
    exact wpAny_pure (hR s' L es ep t (hm.mono fun b hb => List.mem_cons_of_mem _ hb) (hS.keep (fun o e => hm.heap S o hSw e) fun p hp => (hk p (List.mem_of_mem_take (g.sub p hp))).keep hkp') g hkp')
  | succ k ih =>
    intro i s hk' hi hst hkp ⟨L, es, ep, t, hS, g⟩ hR
    have hlt : i < n := by omega
    refine codeAny_builtin F.entry_set_update_loop ?_
    rw [Around.under_plainId F.plain_set_update_loop _]
    refine wpAny_bind (W.item i s _ _ hlt hst fun v s' hP hst' hm => ?_)
    obtain ⟨p, hp, rfl⟩ := hval i v hP
    have hkp' := mv hm hkp
    have hS' : SN w s'.heap S L es ep t := hS.keep (fun o e => hm.heap S o hSw e) fun q hq => (hk q (List.mem_of_mem_take (g.sub q hq))).keep hkp'
    have hx : KA s'.heap p := (hk p (List.mem_of_getElem? hp)).keep hkp'
    refine wpAny_bind (wpAny_holding ?_)
    unfold setAdd
    refine wpAny_holding ?_
    refine wpAny_bind (pyHash_key p.2 _ _ s' _ hx.1 (by have := hx.2; omega) ?_)
    refine putN (s := { s' with toks := s'.toks + p.2.draws }) hS' hx hu (by have := g.len; omega) fun b h' L' es' ep' t' hsb hS2 c1 c2 => ?_
    have hkp2 : ∀ b o, h0.get? b = some o → h'.get? b = some o := fun b o e => (hsb.2 b (fun z => by rw [z, hS0] at e; cases e)).trans (hkp' b o e)
    refine wpAny_pure ⟨plainId_quiet F.plain_set_update_loop _, ih (i + 1) _ (by omega) hlt (W.frame _ s' _ _ hst' (Nat.le_add_right _ _) fun b hb o e => ?_) hkp2 ⟨L', es', ep', t', hS2, g.next hp c1 c2⟩ fun s'' L2 es2 ep2 t2 hm'' hS'' g'' hkp'' => ?_⟩
    · rw [hsb.2 b (fun h : b = S => hSf (by rw [← h]; exact hb))]; exact e
    · refine hR s'' L2 es2 ep2 t2 (Moved.trans W.gtrans ((hm.mono fun b hb => List.mem_cons_of_mem _ hb).then_heap (Nat.le_add_right _ _) fun b o hb e => ?_) hm'') hS'' g'' hkp''
      rw [hsb.2 b (fun h : b = S => hb (by rw [h]; exact List.mem_cons_self))]; exact e

/-- set(xs), xs a list -/
theorem setOf_list {l : Addr} {items : Array Value} (ks : List Rw) {Q : Value → Shared → Prop} (hh : A.handled = none) (hl : s.heap.IsList l items) (hit : items.toList = ks.map fun p => Value.ref p.1)
    (hk : ∀ p ∈ ks, KA s.heap p) (hfew : ks.length < 64) (hu : A.units + 20 < cLine)
    (h : ∀ (h' : Heap) (tk : Nat) L es ep t, SN w h' s.heap.objs.size L es ep t → Has ks ks.length L → (∀ b o, s.heap.get? b = some o → h'.get? b = some o) → Q (.ref s.heap.objs.size) { s with heap := h', toks := tk }) :
    wpAny (model P w) A (call (.type "set") [.ref l]) Q E s := by
  have hisz : items.size = ks.length := by
    have q := congrArg List.length hit
    rwa [Array.length_toList, List.length_map] at q
  obtain ⟨c, tl, hmro⟩ := F.called_set.mro
  have hmade := F.called_set.made
  have hsub := F.called_set.sub
  refine wpAny_call (codeAny_of_tree (?_ : wpAny _ _ (callAny (.type "set") _) _ _ _))
  refine wpAny_pure ⟨Code.quiet_builtin _ (by decide +kernel), codeAny_builtin F.entry_type_call ?_⟩
  rw [Around.under_plain (weight_type_call_type "set" [.ref l] []) rfl]
  have h1 := F.called_set.notType
  have h2 := F.called_set.canCreate
  have hct := F.typeCall_set_1 (.ref l)
  repeat (any_goals (first | assumption | wp_step))

  refine codeAny_mono (code_set_led1 (.ref l) (E := E) (Q₁ := fun obj s₁ => obj = .ref s.heap.objs.size ∧ s₁ = { s with heap := s.heap.push (emptySet w) }) ⟨rfl, rfl⟩) fun r s₁ hr => ?_
  cases r with
  | error e => exact hr
  | ok fl =>
    cases fl with
    | ret obj =>
      obtain ⟨rfl, rfl⟩ := hr
      have hS : (s.heap.push (emptySet w)).get? s.heap.objs.size = some (emptySet w) := Heap.get?_push_size _ rfl
      have hT : Shared.TypeIs { s with heap := s.heap.push (emptySet w) } (.ref s.heap.objs.size) "set" := ⟨_, hS, rfl⟩
      have hli := F.called_set.init.lookup
      have hbi := F.called_set.init.bind (.ref s.heap.objs.size)
      repeat (any_goals (first | assumption | wp_step))

      refine codeAny_mono (codeAny_call_builtin (R := wants (fun r s₂ => r = .none ∧ ∃ h' tk L es ep t, s₂ = { s with heap := h', toks := tk } ∧ SN w h' s.heap.objs.size L es ep t ∧ Has ks ks.length L ∧
          (∀ b o, s.heap.get? b = some o → h'.get? b = some o)) E) F.called_set.init.plain F.entry_set_init (check_set_init_1 hT ?_)) fun r₂ s₂ hr₂ => ?_
      · obtain ⟨ol, hol, hcl, nl, hdl⟩ := hl
        obtain ⟨ocls, odict, odata, oslots⟩ := ol
        simp only at hcl hdl
        subst hcl; subst hdl
        have hol' : (s.heap.push (emptySet w)).get? l = some { cls := .type "list", dict := odict, data := .seq items nl, slots := oslots } := Heap.get?_push_of_some _ hol
        have hsls := F.sub_list_set
        have hslf := F.sub_list_frozenset
        have hne : (Value.type "list" == Value.type "dict") = false := by decide
        have hl1 : (s.heap.push (emptySet w)).IsList l items := ⟨_, hol', rfl, nl, rfl⟩
        unfold emptySet at *
        unfold Builtin.«set.__init__» noKeywords Builtin.Frozenset.updateFrom
        generalize hPI : pyIter = PI
        wp_walk
        subst hPI

        refine wpAny_pyIter_list hl1 ?_
        refine wpAny_bind (wpAny_runValue ?_)
        have hlS : l < s.heap.objs.size := Heap.lt_size hol
        have hh3 : A.in1.in1.in1.handled = none := by simp [hh]
        have gone : ∀ b, s.heap.objs.size ≤ b → s.heap.get? b = none := fun b hb => by
          cases q : s.heap.get? b with
          | none => rfl
          | some o => exact absurd (Nat.lt_of_lt_of_le (Heap.lt_size q) hb) (Nat.lt_irrefl _)
        refine fillN ((Walks.list hh3 _ l (by rw [Heap.size_push]; exact Nat.ne_of_lt (Nat.lt_succ_of_lt hlS)) items).toS) s.heap.objs.size (by
          rw [Heap.size_push]
          intro z
          rcases List.mem_cons.mp z with z | z
          · exact absurd z (Nat.ne_of_lt (Nat.lt_succ_self _))
          · exact absurd (List.mem_singleton.mp z) (Nat.ne_of_gt hlS)) ks hisz hfew (fun i v hv => ?_) s.heap hk (gone _ (Nat.le_refl _))
          (fun b hb => gone b (by rw [List.mem_singleton.mp hb, Heap.size_push]; exact Nat.le_succ _)) (by show A.in1.in1.in1.units + 8 < cLine; simp only [Around.in1_units]; omega) (items.size - 0) 0 _ (by omega) (Nat.zero_le _)
          ⟨⟨_, Heap.get?_push_size _ rfl, rfl, rfl⟩, hl1.push _⟩ (fun b o e => Heap.get?_push_of_some _ (Heap.get?_push_of_some _ e)) ⟨[], #[], 0, _, SN.new (Heap.get?_push_of_some _ hS), Has.zero ks⟩ fun s' L es ep t hm hS' g' hkp => ?_
        · have q : items.toList[i]? = some v := by rw [Array.getElem?_toList]; exact hv
          rw [hit, List.getElem?_map] at q
          obtain ⟨p, hp, e⟩ := Option.map_eq_some_iff.mp q
          exact ⟨p, hp, e.symm⟩
        · obtain ⟨h', g2, d', tk', os'⟩ := s'
          have eg : g2 = s.gens := hm.gens
          have ed : d' = s.drawn := hm.drawn
          have eo : os' = s.os := hm.os
          subst eg; subst ed; subst eo
          refine wpAny_pure (?_ : wpAny _ _ (ret Value.none) _ _ _)
          exact wpAny_pure ⟨rfl, h', tk', L, es, ep, t, rfl, hS', hisz ▸ g', hkp⟩

      · cases r₂ with
        | error e => exact hr₂
        | ok fl₂ =>
          cases fl₂ with
          | ret r =>
            obtain ⟨rfl, h', tk, L, es, ep, t, rfl, hS', g', hk'⟩ := hr₂
            repeat (any_goals (first | assumption | wp_step))
            exact h _ _ _ _ _ _ hS' g' hk'
          | _ => exact hr₂.elim
    | _ => exact hr.elim

/-- set(xs), xs a tuple -/
theorem setOf_tuple {l : Addr} {items : Array Value} (ks : List Rw) {Q : Value → Shared → Prop} (hh : A.handled = none) (hl : s.heap.IsTuple l items) (hit : items.toList = ks.map fun p => Value.ref p.1)
    (hk : ∀ p ∈ ks, KA s.heap p) (hfew : ks.length < 64) (hu : A.units + 20 < cLine)
    (h : ∀ (h' : Heap) (tk : Nat) L es ep t, SN w h' s.heap.objs.size L es ep t → Has ks ks.length L → (∀ b o, s.heap.get? b = some o → h'.get? b = some o) → Q (.ref s.heap.objs.size) { s with heap := h', toks := tk }) :
    wpAny (model P w) A (call (.type "set") [.ref l]) Q E s := by
  have hisz : items.size = ks.length := by
    have q := congrArg List.length hit
    rwa [Array.length_toList, List.length_map] at q
  obtain ⟨c, tl, hmro⟩ := F.called_set.mro
  have hmade := F.called_set.made
  have hsub := F.called_set.sub
  refine wpAny_call (codeAny_of_tree (?_ : wpAny _ _ (callAny (.type "set") _) _ _ _))
  refine wpAny_pure ⟨Code.quiet_builtin _ (by decide +kernel), codeAny_builtin F.entry_type_call ?_⟩
  rw [Around.under_plain (weight_type_call_type "set" [.ref l] []) rfl]
  have h1 := F.called_set.notType
  have h2 := F.called_set.canCreate
  have hct := F.typeCall_set_1 (.ref l)
  repeat (any_goals (first | assumption | wp_step))

  refine codeAny_mono (code_set_led1 (.ref l) (E := E) (Q₁ := fun obj s₁ => obj = .ref s.heap.objs.size ∧ s₁ = { s with heap := s.heap.push (emptySet w) }) ⟨rfl, rfl⟩) fun r s₁ hr => ?_
  cases r with
  | error e => exact hr
  | ok fl =>
    cases fl with
    | ret obj =>
      obtain ⟨rfl, rfl⟩ := hr
      have hS : (s.heap.push (emptySet w)).get? s.heap.objs.size = some (emptySet w) := Heap.get?_push_size _ rfl
      have hT : Shared.TypeIs { s with heap := s.heap.push (emptySet w) } (.ref s.heap.objs.size) "set" := ⟨_, hS, rfl⟩
      have hli := F.called_set.init.lookup
      have hbi := F.called_set.init.bind (.ref s.heap.objs.size)
      repeat (any_goals (first | assumption | wp_step))

      refine codeAny_mono (codeAny_call_builtin (R := wants (fun r s₂ => r = .none ∧ ∃ h' tk L es ep t, s₂ = { s with heap := h', toks := tk } ∧ SN w h' s.heap.objs.size L es ep t ∧ Has ks ks.length L ∧
          (∀ b o, s.heap.get? b = some o → h'.get? b = some o)) E) F.called_set.init.plain F.entry_set_init (check_set_init_1 hT ?_)) fun r₂ s₂ hr₂ => ?_
      · obtain ⟨ol, hol, hcl, nl, hdl⟩ := hl
        obtain ⟨ocls, odict, odata, oslots⟩ := ol
        simp only at hcl hdl
        subst hcl; subst hdl
        have hol' : (s.heap.push (emptySet w)).get? l = some { cls := .type "tuple", dict := odict, data := .seq items nl, slots := oslots } := Heap.get?_push_of_some _ hol
        have hsls := F.sub_tuple_set
        have hslf := F.sub_tuple_frozenset
        have hne : (Value.type "tuple" == Value.type "dict") = false := by decide
        have hl1 : (s.heap.push (emptySet w)).IsTuple l items := ⟨_, hol', rfl, nl, rfl⟩
        unfold emptySet at *
        unfold Builtin.«set.__init__» noKeywords Builtin.Frozenset.updateFrom
        generalize hPI : pyIter = PI
        wp_walk
        subst hPI

        refine wpAny_pyIter_tuple hl1 ?_
        refine wpAny_bind (wpAny_runValue ?_)
        have hlS : l < s.heap.objs.size := Heap.lt_size hol
        have hh3 : A.in1.in1.in1.handled = none := by simp [hh]
        have gone : ∀ b, s.heap.objs.size ≤ b → s.heap.get? b = none := fun b hb => by
          cases q : s.heap.get? b with
          | none => rfl
          | some o => exact absurd (Nat.lt_of_lt_of_le (Heap.lt_size q) hb) (Nat.lt_irrefl _)
        refine fillN ((Walks.tuple hh3 _ l (by rw [Heap.size_push]; exact Nat.ne_of_lt (Nat.lt_succ_of_lt hlS)) items).toS) s.heap.objs.size (by
          rw [Heap.size_push]
          intro z
          rcases List.mem_cons.mp z with z | z
          · exact absurd z (Nat.ne_of_lt (Nat.lt_succ_self _))
          · exact absurd (List.mem_singleton.mp z) (Nat.ne_of_gt hlS)) ks hisz hfew (fun i v hv => ?_) s.heap hk (gone _ (Nat.le_refl _))
          (fun b hb => gone b (by rw [List.mem_singleton.mp hb, Heap.size_push]; exact Nat.le_succ _)) (by show A.in1.in1.in1.units + 8 < cLine; simp only [Around.in1_units]; omega) (items.size - 0) 0 _ (by omega) (Nat.zero_le _)
          ⟨⟨_, Heap.get?_push_size _ rfl, rfl, rfl⟩, hl1.push _⟩ (fun b o e => Heap.get?_push_of_some _ (Heap.get?_push_of_some _ e)) ⟨[], #[], 0, _, SN.new (Heap.get?_push_of_some _ hS), Has.zero ks⟩ fun s' L es ep t hm hS' g' hkp => ?_
        · have q : items.toList[i]? = some v := by rw [Array.getElem?_toList]; exact hv
          rw [hit, List.getElem?_map] at q
          obtain ⟨p, hp, e⟩ := Option.map_eq_some_iff.mp q
          exact ⟨p, hp, e.symm⟩
        · obtain ⟨h', g2, d', tk', os'⟩ := s'
          have eg : g2 = s.gens := hm.gens
          have ed : d' = s.drawn := hm.drawn
          have eo : os' = s.os := hm.os
          subst eg; subst ed; subst eo
          refine wpAny_pure (?_ : wpAny _ _ (ret Value.none) _ _ _)
          exact wpAny_pure ⟨rfl, h', tk', L, es, ep, t, rfl, hS', hisz ▸ g', hkp⟩

      · cases r₂ with
        | error e => exact hr₂
        | ok fl₂ =>
          cases fl₂ with
          | ret r =>
            obtain ⟨rfl, h', tk, L, es, ep, t, rfl, hS', g', hk'⟩ := hr₂
            repeat (any_goals (first | assumption | wp_step))
            exact h _ _ _ _ _ _ hS' g' hk'
          | _ => exact hr₂.elim
    | _ => exact hr.elim
end
end Mi
/-! MiX: shapes of nested tuples, their order, a row sorted without doubles (plain Lean); as keys. -/
namespace Mi
open PySem PySem.Spec PyProof.Rows L2 PySem.W

/-! ### shapes -/
/-- the shape of a value: cons/nil: a tuple by its places (it may end early); row: a tuple of any length -/
inductive Sh where
  | non | int | str | nil | row (r : Sh) | cons (a b : Sh)
def hasSh : Sh → D → Bool
  | .non, .non => true
  | .int, .int _ => true
  | .str, .str s => PyData.strOk s
  | .nil, .tup [] => true
  | .row r, .tup ds => ds.all (hasSh r)
  | .cons _ _, .tup [] => true
  | .cons a b, .tup (d :: ds) => hasSh a d && hasSh b (.tup ds)
  | _, _ => false
def Sh.dep : Sh → Nat
  | .non => 0
  | .int => 0
  | .str => 0
  | .nil => 1
  | .row r => r.dep + 1
  | .cons a b => max (a.dep + 1) (max b.dep 1)
theorem keyDs_all {ds : List D} : keyDs ds = ds.all keyD := by
  induction ds with
  | nil => rfl
  | cons d r ih => rw [keyDs, ih]; rfl
mutual
theorem ok_of_key : ∀ d : D, keyD d = true → okD d = true
  | .non, _ => by rw [okD]
  | .int _, _ => by rw [okD]
  | .str _, h => by rw [keyD] at h; rw [okD]; exact h
  | .tup ds, h => by rw [keyD] at h; rw [okD]; exact oks_of_key ds h
  | .bl _, h => by simp [keyD] at h
  | .lst _, h => by simp [keyD] at h
  | .rol _, h => by simp [keyD] at h
  | .dic _ _, h => by simp [keyD] at h
  | .ref _, h => by simp [keyD] at h
theorem oks_of_key : ∀ ds : List D, keyDs ds = true → okDs ds = true
  | [], _ => by rw [okDs]
  | d :: r, h => by
    rw [keyDs, Bool.and_eq_true] at h
    rw [okDs, Bool.and_eq_true]
    exact ⟨ok_of_key d h.1, oks_of_key r h.2⟩
end
theorem dpDs_le {ds : List D} {n : Nat} (h : ∀ d ∈ ds, dpD d ≤ n) : dpDs ds ≤ n := by
  induction ds with
  | nil => simp [dpDs]
  | cons d r ih =>
    rw [dpDs]
    have h1 := h d List.mem_cons_self
    have h2 := ih fun x hx => h x (List.mem_cons_of_mem _ hx)
    omega
theorem key_of_sh : ∀ (σ : Sh) (d : D), hasSh σ d = true → keyD d = true ∧ dpD d ≤ σ.dep
  | .non, d, h => by
    cases d <;> simp [hasSh] at h
    exact ⟨rfl, by simp [dpD]⟩
  | .int, d, h => by
    cases d <;> simp [hasSh] at h
    exact ⟨rfl, by simp [dpD]⟩
  | .str, d, h => by
    cases d <;> simp [hasSh] at h
    exact ⟨by rw [keyD]; exact h, by simp [dpD]⟩
  | .nil, d, h => by
    cases d with
    | tup ds =>
      cases ds with
      | nil => exact ⟨rfl, by simp [dpD, dpDs, Sh.dep]⟩
      | cons _ _ => simp [hasSh] at h
    | _ => simp [hasSh] at h
  | .row r, d, h => by
    cases d with
    | tup ds =>
      rw [hasSh, List.all_eq_true] at h
      refine ⟨by rw [keyD, keyDs_all, List.all_eq_true]; exact fun x hx => (key_of_sh r x (h x hx)).1, ?_⟩
      rw [dpD, Sh.dep]
      exact Nat.succ_le_succ (dpDs_le fun x hx => (key_of_sh r x (h x hx)).2)
    | _ => simp [hasSh] at h
  | .cons a b, d, h => by
    cases d with
    | tup ds =>
      cases ds with
      | nil => exact ⟨rfl, by simp [dpD, dpDs, Sh.dep]; omega⟩
      | cons x r =>
        rw [hasSh, Bool.and_eq_true] at h
        obtain ⟨h1, h2⟩ := key_of_sh a x h.1
        obtain ⟨h3, h4⟩ := key_of_sh b (.tup r) h.2
        rw [keyD] at h3
        rw [dpD] at h4
        refine ⟨by rw [keyD, keyDs, h1, h3]; rfl, ?_⟩
        rw [dpD, dpDs, Sh.dep]
        omega
    | _ => simp [hasSh] at h
theorem alike_row {r : Sh} (ih : ∀ x y, hasSh r x = true → hasSh r y = true → alike (toPy x) (toPy y) = true) : ∀ xs ys : List D, (∀ x ∈ xs, hasSh r x = true) → (∀ y ∈ ys, hasSh r y = true) → alikeAll (toPys xs) (toPys ys) = true
  | [], _, _, _ => by rw [toPys, alikeAll]
  | x :: xs, [], _, _ => by rw [toPys, toPys, alikeAll]
  | x :: xs, y :: ys, hx, hy => by
    rw [toPys, toPys, alikeAll, Bool.and_eq_true]
    exact ⟨ih x y (hx x List.mem_cons_self) (hy y List.mem_cons_self), alike_row ih xs ys (fun z hz => hx z (List.mem_cons_of_mem _ hz)) fun z hz => hy z (List.mem_cons_of_mem _ hz)⟩
theorem alike_of_sh : ∀ (σ : Sh) (x y : D), hasSh σ x = true → hasSh σ y = true → alike (toPy x) (toPy y) = true
  | .non, x, y, h, q => by cases x <;> simp [hasSh] at h <;> cases y <;> simp [hasSh] at q <;> rfl
  | .int, x, y, h, q => by cases x <;> simp [hasSh] at h <;> cases y <;> simp [hasSh] at q <;> rfl
  | .str, x, y, h, q => by cases x <;> simp [hasSh] at h <;> cases y <;> simp [hasSh] at q <;> rfl
  | .nil, x, y, h, q => by
    cases x with
    | tup xs =>
      cases y with
      | tup ys =>
        cases xs with
        | nil => rw [toPy, toPy, alike, toPys, alikeAll]
        | cons _ _ => simp [hasSh] at h
      | _ => simp [hasSh] at q
    | _ => simp [hasSh] at h
  | .row r, x, y, h, q => by
    cases x with
    | tup xs =>
      cases y with
      | tup ys =>
        rw [hasSh, List.all_eq_true] at h q
        rw [toPy, toPy, alike]
        exact alike_row (alike_of_sh r) xs ys h q
      | _ => simp [hasSh] at q
    | _ => simp [hasSh] at h
  | .cons a b, x, y, h, q => by
    cases x with
    | tup xs =>
      cases y with
      | tup ys =>
        cases xs with
        | nil => rw [toPy, toPy, alike, toPys, alikeAll]
        | cons x xs =>
          cases ys with
          | nil => rw [toPy, toPy, alike, toPys, toPys, alikeAll]
          | cons y ys =>
            rw [hasSh, Bool.and_eq_true] at h q
            have h2 := alike_of_sh b (.tup xs) (.tup ys) h.2 q.2
            rw [toPy, toPy, alike] at h2
            rw [toPy, toPy, alike, toPys, toPys, alikeAll, Bool.and_eq_true]
            exact ⟨alike_of_sh a x y h.1 q.1, h2⟩
      | _ => simp [hasSh] at q
    | _ => simp [hasSh] at h

/-! ### sorted, without doubles -/
def leD (x y : D) : Bool := dataLe false toPy x y
theorem leD_total : TotalLe leD := sortLe_total (listOrd itemOrd) false fun d => keyToks (toPy d)
theorem leD_anti {x y : D} (hx : okD x = true) (hy : okD y = true) (ha : alike (toPy x) (toPy y) = true) (h1 : leD x y = true) (h2 : leD y x = true) : x = y := by
  have e : keyToks (toPy x) = keyToks (toPy y) := KeyOrd.kle_antisymm (O := listOrd itemOrd) (by
    have h : (!(listOrd itemOrd).blt (keyToks (toPy y)) (keyToks (toPy x))) = true := h1
    rwa [Bool.not_eq_true'] at h) (by
    have h : (!(listOrd itemOrd).blt (keyToks (toPy x)) (keyToks (toPy y))) = true := h2
    rwa [Bool.not_eq_true'] at h)
  refine (eqD_iff x y hx hy).1 ?_
  cases q : eqD x y with
  | true => rfl
  | false =>
    have z := (toks_eqv (toPy x) (toPy y) ha).2 q [] [.inl 0]
    rw [e, lex_pre] at z
    have z2 : PyProof.Rows.lexLt itemOrd (keyToks (toPy y)) (keyToks (toPy y)) = false := KeyOrd.kle_refl (O := listOrd itemOrd) _
    rw [z2] at z
    exact absurd z (by decide)
def nubD : List D → List D
  | [] => []
  | d :: r => d :: (nubD r).filter fun x => !eqD d x
theorem mem_nubD : ∀ {ds : List D} {x : D}, (∀ y ∈ ds, okD y = true) → (x ∈ nubD ds ↔ x ∈ ds)
  | [], x, _ => by simp [nubD]
  | d :: r, x, h => by
    have ih := mem_nubD (ds := r) (x := x) fun y hy => h y (List.mem_cons_of_mem _ hy)
    rw [nubD, List.mem_cons, List.mem_cons, List.mem_filter, ih]
    constructor
    · rintro (e | ⟨e, _⟩)
      · exact .inl e
      · exact .inr e
    · rintro (e | e)
      · exact .inl e
      · by_cases z : x = d
        · exact .inl z
        · refine .inr ⟨e, ?_⟩
          have q : ¬ eqD d x = true := fun t => z ((eqD_iff d x (h d List.mem_cons_self) (h x (List.mem_cons_of_mem _ e))).1 t).symm
          simpa using q
theorem nubD_nd : ∀ {ds : List D}, (∀ y ∈ ds, okD y = true) → (nubD ds).Nodup
  | [], _ => List.nodup_nil
  | d :: r, h => by
    have hr : ∀ y ∈ r, okD y = true := fun y hy => h y (List.mem_cons_of_mem _ hy)
    rw [nubD, List.nodup_cons]
    refine ⟨fun z => ?_, (nubD_nd hr).sublist List.filter_sublist⟩
    have := (List.mem_filter.mp z).2
    rw [eqD_self d (can_of_ok d (h d List.mem_cons_self))] at this
    cases this
/-- Python's sorted(set(..)) -/
def sortD (ds : List D) : List D := (nubD ds).mergeSort leD
theorem mem_sortD {ds : List D} {x : D} (h : ∀ y ∈ ds, okD y = true) : x ∈ sortD ds ↔ x ∈ ds := by
  rw [sortD, (List.mergeSort_perm _ _).mem_iff, mem_nubD h]
theorem sortD_nd {ds : List D} (h : ∀ y ∈ ds, okD y = true) : (sortD ds).Nodup := (List.mergeSort_perm _ _).nodup_iff.mpr (nubD_nd h)
theorem sortD_pw (ds : List D) : (sortD ds).Pairwise (fun x y => leD x y = true) := sort_pairwise leD_total _
/-- what is in order, with no doubles and the same members -/
theorem sortD_eq {ds ys : List D} {σ : Sh} (h : ∀ y ∈ ds, hasSh σ y = true) (nd : ys.Nodup) (m : ∀ x, x ∈ ys ↔ x ∈ ds) (pw : ys.Pairwise (fun x y => leD x y = true)) : ys = sortD ds := by
  have ok : ∀ y ∈ ds, okD y = true := fun y hy => ok_of_key y (key_of_sh σ y (h y hy)).1
  refine List.Perm.eq_of_pairwise (le := fun x y => leD x y = true) (fun a b ha hb h1 h2 => ?_) pw (sortD_pw ds) ?_
  · have ha := (m a).1 ha
    have hb := (mem_sortD ok).1 hb
    exact leD_anti (ok a ha) (ok b hb) (alike_of_sh σ a b (h a ha) (h b hb)) h1 h2
  · exact (List.perm_ext_iff_of_nodup nd (sortD_nd ok)).mpr fun x => (m x).trans (mem_sortD ok).symm
theorem sortD_congr {ds es : List D} {σ : Sh} (h : ∀ y ∈ ds, hasSh σ y = true) (m : ∀ x, x ∈ es ↔ x ∈ ds) : sortD es = sortD ds := by
  have ok : ∀ y ∈ es, okD y = true := fun y hy => ok_of_key y (key_of_sh σ y (h y ((m y).1 hy))).1
  exact sortD_eq h (sortD_nd ok) (fun x => (mem_sortD ok).trans (m x)) (sortD_pw es)
theorem sortD_sort {ds ys : List D} {σ : Sh} (h : ∀ y ∈ ds, hasSh σ y = true) (nd : ys.Nodup) (m : ∀ x, x ∈ ys ↔ x ∈ ds) : ys.mergeSort leD = sortD ds :=
  sortD_eq h ((List.mergeSort_perm _ _).nodup_iff.mpr nd) (fun x => (List.mergeSort_perm ys leD).mem_iff.trans (m x)) (sort_pairwise leD_total _)
theorem nubD_len : ∀ ds : List D, (nubD ds).length ≤ ds.length
  | [] => Nat.le_refl _
  | d :: r => by
    rw [nubD, List.length_cons, List.length_cons]
    have := nubD_len r
    have := List.length_filter_le (fun x => !eqD d x) (nubD r)
    omega
theorem sortD_len (ds : List D) : (sortD ds).length ≤ ds.length := by
  rw [sortD, List.length_mergeSort]; exact nubD_len ds

/-! ### values as keys -/
mutual
def dK : NestedKey → D
  | .none => .non
  | .num i => .int i
  | .text s => .str s
  | .tup ks => .tup (dKs ks)
def dKs : List NestedKey → List D
  | [] => []
  | k :: r => dK k :: dKs r
end
mutual
theorem dK_kD : ∀ d : D, keyD d = true → dK (kD d) = d ∧ (kD d).data = toPy d ∧ (kD d).depth = dpD d
  | .non, _ => ⟨rfl, rfl, rfl⟩
  | .int _, _ => ⟨rfl, rfl, rfl⟩
  | .str _, _ => ⟨rfl, rfl, rfl⟩
  | .tup ds, h => by
    rw [keyD] at h
    obtain ⟨h1, h2, h3⟩ := dKs_kDs ds h
    exact ⟨by rw [kD, dK, h1], by rw [kD, NestedKey.data, toPy, h2], by rw [kD, NestedKey.depth, dpD, h3]⟩
  | .bl _, h => by simp [keyD] at h
  | .lst _, h => by simp [keyD] at h
  | .rol _, h => by simp [keyD] at h
  | .dic _ _, h => by simp [keyD] at h
  | .ref _, h => by simp [keyD] at h
theorem dKs_kDs : ∀ ds : List D, keyDs ds = true → dKs (kDs ds) = ds ∧ NestedKey.datas (kDs ds) = toPys ds ∧ NestedKey.depthAll (kDs ds) = dpDs ds
  | [], _ => ⟨rfl, rfl, rfl⟩
  | d :: r, h => by
    rw [keyDs, Bool.and_eq_true] at h
    obtain ⟨h1, h2, h3⟩ := dK_kD d h.1
    obtain ⟨h4, h5, h6⟩ := dKs_kDs r h.2
    exact ⟨by rw [kDs, dKs, h1, h4], by rw [kDs, NestedKey.datas, toPys, h2, h5], by rw [kDs, NestedKey.depthAll, dpDs, h3, h6]⟩
end
section
variable {X : Cx} {pins : List (Addr × Obj)} {σ : L2.St} {H : Hp} {s : Shared} {K : PySem.W.Frag} {mu : Mu}
mutual
theorem RV.key (I : Inv X pins σ H s) (hK : X.K = K) : ∀ {d : D} {v : V} {u : Value}, RV K mu H d v → RelV v u → keyD d = true → NestedIs s.heap (kD d) u ∧ Reads s.heap u (toPy d) []
  | .non, v, u, h, r, _ => by
    cases (show v = V.non from h)
    cases (show u = Value.none from r)
    exact ⟨.none, .none⟩
  | .int i, v, u, h, r, _ => by
    cases (show v = V.int i from h)
    obtain ⟨t, rfl⟩ := (show ∃ t, u = Value.int i t from r)
    exact ⟨.int i t, .int i t⟩
  | .str x, v, u, h, r, _ => by
    cases (show v = V.str x from h)
    obtain ⟨t, rfl⟩ := (show ∃ t, u = Value.str x t from r)
    exact ⟨.text x t, .str x t⟩
  | .tup ds, v, u, ⟨a, vs, e, h, q⟩, r, c => by
    subst e
    cases (show u = Value.ref a from r)
    have h' : SqT X.K H a vs := by rw [hK]; exact h
    obtain ⟨its, rv, ⟨o, ho, hc, n, hd⟩, _⟩ := I.tuple h'
    obtain ⟨h1, h2⟩ := RVs.key I hK q rv (by rw [keyD] at c; exact c)
    exact ⟨.tup ho hc hd (by simpa using h1), .tuple ho hc hd (by simpa using h2)⟩
  | .bl _, _, _, _, _, c => by simp [keyD] at c
  | .lst _, _, _, _, _, c => by simp [keyD] at c
  | .rol _, _, _, _, _, c => by simp [keyD] at c
  | .dic _ _, _, _, _, _, c => by simp [keyD] at c
  | .ref _, _, _, _, _, c => by simp [keyD] at c
theorem RVs.key (I : Inv X pins σ H s) (hK : X.K = K) : ∀ {ds : List D} {vs : List V} {us : List Value}, RVs K mu H ds vs → Vals vs us → keyDs ds = true → NestedAll s.heap (kDs ds) us ∧ ReadsAll s.heap us (toPys ds) []
  | [], _, _, h, r, _ => by
    cases (show _ = [] from h)
    cases r
    exact ⟨.nil, .nil⟩
  | d :: ds, _, _, ⟨v, vs, e, h, q⟩, r, c => by
    subst e
    rw [keyDs, Bool.and_eq_true] at c
    cases r with
    | cons r1 r2 =>
      obtain ⟨h1, h2⟩ := RV.key I hK h r1 c.1
      obtain ⟨h3, h4⟩ := RVs.key I hK q r2 c.2
      exact ⟨.cons h1 h3, .cons (as := []) (bs := []) h2 h4⟩
end
end
end Mi
/-! MiY: sorted(set(xs)). -/
namespace Mi
open PySem PySem.Spec PyProof.Rows L2 PySem.W

theorem perm_lift0 {α β : Type} {f : α → β} {n m : List β} (h : n.Perm m) : ∀ l : List α, n = l.map f → ∃ l' : List α, l'.Perm l ∧ m = l'.map f := by
  induction h with
  | nil => intro l e; exact ⟨l, .refl _, e⟩
  | cons x _ ih =>
    intro l e
    cases l with
    | nil => cases e
    | cons y l =>
      injection e with e1 e2
      obtain ⟨l', h1, h2⟩ := ih l e2
      exact ⟨y :: l', h1.cons y, by rw [List.map_cons, h2, e1]⟩
  | swap x y m =>
    intro l e
    cases l with
    | nil => cases e
    | cons a l =>
      cases l with
      | nil => injection e with e1 e2; cases e2
      | cons b l =>
        injection e with e1 e2
        injection e2 with e2 e3
        exact ⟨b :: a :: l, .swap _ _ _, by rw [List.map_cons, List.map_cons, e1, e2, e3]⟩
  | trans _ _ ih1 ih2 =>
    intro l e
    obtain ⟨l1, h1, h2⟩ := ih1 l e
    obtain ⟨l2, h3, h4⟩ := ih2 l1 h2
    exact ⟨l2, h3.trans h1, h4⟩
theorem perm_lift {α β : Type} {f : α → β} {m : List β} {l : List α} (h : m.Perm (l.map f)) : ∃ l' : List α, l'.Perm l ∧ m = l'.map f := perm_lift0 h.symm l rfl
section
variable {P : Program} {w : World} {A : Around} {E : Value → Shared → Prop} {s : Shared}
theorem each_self {α β : Type} {R : α → β → Prop} {f : β → α} : ∀ {l : List β}, (∀ b ∈ l, R (f b) b) → EachIs R (l.map f) l
  | [], _ => .nil
  | b :: l, h => .cons (h b List.mem_cons_self) (each_self fun x hx => h x (List.mem_cons_of_mem _ hx))
theorem each_map_eq {α β : Type} {f : β → α} : ∀ {m : List α} {l : List β}, EachIs (fun v b => v = f b) m l → m = l.map f
  | _, _, .nil => rfl
  | _, _, .cons h t => by rw [List.map_cons, h, each_map_eq t]
/-- rows, to be sorted by their data -/
structure SortOk (h : Heap) (L : List Rw) : Prop where
  rd : ∀ p ∈ L, Reads h (.ref p.1) p.2.data []
  al : AllAlike (L.map fun p => p.2.data)
  ne : ∀ p ∈ L, ∃ xs, p.2.data = .tuple xs
  dp : ∀ p ∈ L, p.2.data.depth ≤ 8
theorem SortOk.perm {h : Heap} {L L1 : List Rw} (S : SortOk h L) (pm : L1.Perm L) : SortOk h L1 :=
  ⟨fun p hp => S.rd p (pm.mem_iff.mp hp), fun d hd d' hd' => S.al d ((pm.map _).mem_iff.mp hd) d' ((pm.map _).mem_iff.mp hd'), fun p hp => S.ne p (pm.mem_iff.mp hp), fun p hp => S.dp p (pm.mem_iff.mp hp)⟩
/-- sorting a list of rows, in its place -/
theorem sort_rows {a : Addr} {L : List Rw} {n : Nat} {Q : Value → Shared → Prop} (ho : s.heap.get? a = some (seqObj "list" (L.map fun p => Value.ref p.1).toArray n)) (S : SortOk s.heap L) (hL : L.length ≤ sizeLine) (hu : A.units + 20 < cLine)
    (h : Q .none { s with heap := sortedHeap s.heap a (L.map fun p => Value.ref p.1) (((L.mergeSort (dataLe false fun p => p.2.data)).map fun p => Value.ref p.1).toArray) }) :
    wpAny (model P w) A (call (.builtin "list.sort") [.ref a]) Q E s := by
  refine SrtX.list_sort_tups (R := fun v (p : Rw) => v = Value.ref p.1) (enc := fun p : Rw => p.2.data) ho (each_self fun b _ => rfl) (each_self fun b hb => ⟨[], S.rd b hb, by simp⟩) S.al (fun d hd => ?_) hL (fun b hb => ?_) fun out ho2 hout => ?_
  · obtain ⟨p, hp, e⟩ := List.mem_map.mp hd
    obtain ⟨xs, e2⟩ := S.ne p hp
    exact ⟨xs, e ▸ e2⟩
  · have := S.dp b hb
    show A.units + 1 + (b.2.data).depth < cLine
    omega
  · rw [each_map_eq hout]
    exact h
/-- sorted(xs), xs what collects as the rows -/
theorem sorted_rows {a : Addr} {L : List Rw} {Q : Value → Shared → Prop} (S : SortOk s.heap L) (hL : L.length ≤ sizeLine) (hu : A.units + 40 < cLine)
    (col : ∀ (E : Value → Shared → Prop) (R : List Value → Shared → Prop), (∀ s' out, (∀ b o, s.heap.get? b = some o → s'.heap.get? b = some o) → s'.gens = s.gens → s'.os = s.os → out.Perm (L.map fun p => Value.ref p.1) → R out s') → wpAny (model P w) A.in1 (collect (.ref a)) R E s)
    (hQ : ∀ s' p c (L1 : List Rw) (h1 : Heap), (∀ b o, s.heap.get? b = some o → h1.get? b = some o) → (∀ b o, h1.get? b = some o → s'.heap.get? b = some o) → s'.gens = s.gens → s'.os = s.os → h1.objs.size ≤ p → L1.Perm L →
      s'.heap.get? p = some (seqObj "list" (((L1.mergeSort (dataLe false fun p => p.2.data)).map fun p => Value.ref p.1).toArray) c) → Q (.ref p) s') :
    wpAny (model P w) A (call (.builtin "sorted") [.ref a]) Q E s := by
  refine Calls.call_function_entry kind_sorted plain_sorted entry_sorted (args_sorted1 _) ?_
  unfold Builtin.«sorted»
  refine wpAny_bind (m := checkCount "sorted" 1 1 _) (wpAny_pure ?_)
  refine wpAny_bind (col _ _ fun s1 vs k1 g1 o1 pm => ?_)
  obtain ⟨L1, hp, rfl⟩ := perm_lift pm
  refine wpAny_bind (wpAny_newList ?_ (by rw [List.length_map, hp.length_eq]; exact hL))
  have hoL : (s1.heap.push (seqObj "list" (L1.map fun p => Value.ref p.1).toArray 0)).get? s1.heap.objs.size = some (seqObj "list" (L1.map fun p => Value.ref p.1).toArray 0) := Heap.get?_push_size _ rfl
  have S1 : SortOk (s1.heap.push (seqObj "list" (L1.map fun p => Value.ref p.1).toArray 0)) L1 := by
    have S0 := S.perm hp
    exact ⟨fun p hp => PyProof.Rows.Reads.keeps (fun b u e => Heap.get?_push_of_some _ (k1 b u e)) (S0.rd p hp), S0.al, S0.ne, S0.dp⟩
  refine wpAny_bind (wpAny_holding (sort_rows (s := { s1 with heap := s1.heap.push (seqObj "list" (L1.map fun p => Value.ref p.1).toArray 0) }) hoL S1 (by rw [hp.length_eq]; exact hL) (by simp only [Around.in1_units]; omega) ?_))
  obtain ⟨c, hc⟩ := sortedHeap_at (vs := L1.map fun p => Value.ref p.1) (out := ((L1.mergeSort (dataLe false fun p => p.2.data)).map fun p => Value.ref p.1).toArray) hoL
  refine wpAny_pure ⟨_, rfl, hQ _ s1.heap.objs.size c L1 s1.heap k1 (fun b u q => ?_) g1 o1 (Nat.le_refl _) hp hc⟩
  have hlt := Heap.lt_size q
  show (sortedHeap (s1.heap.push _) s1.heap.objs.size _ _).get? b = some u
  rw [sortedHeap_old (Nat.ne_of_lt hlt) (by rw [size_push']; exact Nat.lt_succ_of_lt hlt)]
  exact Heap.get?_push_of_some _ q
/-- sorted(a set) -/
theorem sorted_setN {a : Addr} {L : List Rw} {es : Array (Int × Value)} {ep : Nat} {t : SetTable} {Q : Value → Shared → Prop} (R : SN w s.heap a L es ep t) (hh : A.handled = none) (S : SortOk s.heap L) (hu : A.units + 40 < cLine)
    (hQ : ∀ s' p c (L1 : List Rw) (h1 : Heap), (∀ b o, s.heap.get? b = some o → h1.get? b = some o) → (∀ b o, h1.get? b = some o → s'.heap.get? b = some o) → s'.gens = s.gens → s'.os = s.os → h1.objs.size ≤ p → L1.Perm L →
      s'.heap.get? p = some (seqObj "list" (((L1.mergeSort (dataLe false fun p => p.2.data)).map fun p => Value.ref p.1).toArray) c) → Q (.ref p) s') :
    wpAny (model P w) A (call (.builtin "sorted") [.ref a]) Q E s := by
  obtain ⟨o, ho, hex, hd⟩ := R.ob
  refine sorted_rows S (by have := R.few; rw [sizeLine_eq]; omega) hu (fun E Rr hR => ?_) hQ
  refine collect_set (A := A.in1) hh ⟨o, ho, hex.1, hd⟩ R.fits (by have := R.size; have := R.few; unfold scanBound; omega) R.tab.ris R.led fun s' out h1 h2 h3 h4 h5 => hR s' out h1 h3 h4 ?_
  have e : es.toList.map (·.2) = L.map fun p => Value.ref p.1 := by rw [R.rows, rowE, List.map_map]; rfl
  rwa [e] at h5
end

/-! ### as values -/
/-- what a row that is to be sorted must be -/
def tupNe : D → Bool
  | .tup _ => true
  | _ => false
def SetOk (ds : List D) : Prop := ds.length < 64 ∧ ∃ σ : Sh, σ.dep ≤ 8 ∧ ∀ d ∈ ds, hasSh σ d = true ∧ tupNe d = true
theorem SetOk.ok {ds : List D} (h : SetOk ds) : ∀ d ∈ ds, okD d = true := by
  obtain ⟨_, σ, _, h⟩ := h
  exact fun d hd => ok_of_key d (key_of_sh σ d (h d hd).1).1
/-- references with what stands there -/
inductive RefsAt (K : PySem.W.Frag) (mu : Mu) (H : Hp) : List D → List V → List Rw → Prop
  | nil : RefsAt K mu H [] [] []
  | cons {d ds a vs ks} : RV K mu H d (.ref a) → RefsAt K mu H ds vs ks → RefsAt K mu H (d :: ds) (.ref a :: vs) ((a, kD d) :: ks)
section
variable {X : Cx} {pins : List (Addr × Obj)} {σ : L2.St} {H : Hp} {s : Shared} {K : PySem.W.Frag} {mu : Mu}
theorem refsAt : ∀ {ds : List D} {vs : List V}, RVs K mu H ds vs → (∀ d ∈ ds, tupNe d = true) → ∃ ks, RefsAt K mu H ds vs ks
  | [], _, h, _ => by cases (show _ = [] from h); exact ⟨[], .nil⟩
  | d :: ds, _, ⟨v, r, e, h, t⟩, c => by
    subst e
    obtain ⟨ks, hk⟩ := refsAt t fun x hx => c x (List.mem_cons_of_mem _ hx)
    have hd := c d List.mem_cons_self
    cases d with
    | tup es =>
      obtain ⟨a, us, rfl, h1, h2⟩ := h
      exact ⟨_, .cons ⟨a, us, rfl, h1, h2⟩ hk⟩
    | _ => simp [tupNe] at hd
theorem RefsAt.vals : ∀ {ds : List D} {vs : List V} {ks : List Rw} {us : List Value}, RefsAt K mu H ds vs ks → Vals vs us → us = ks.map fun p => Value.ref p.1
  | _, _, _, _, .nil, .nil => rfl
  | _, _, _, _, .cons h t, .cons r rs => by
    cases r
    rw [List.map_cons, t.vals rs]
theorem RefsAt.len : ∀ {ds : List D} {vs : List V} {ks : List Rw}, RefsAt K mu H ds vs ks → ks.length = ds.length
  | _, _, _, .nil => rfl
  | _, _, _, .cons h t => by rw [List.length_cons, List.length_cons, t.len]
theorem RefsAt.mem : ∀ {ds : List D} {vs : List V} {ks : List Rw}, RefsAt K mu H ds vs ks → ∀ p ∈ ks, ∃ d ∈ ds, p.2 = kD d ∧ RV K mu H d (.ref p.1)
  | _, _, _, .cons h t, p, hp => by
    rcases List.mem_cons.mp hp with e | hp
    · subst e; exact ⟨_, List.mem_cons_self, rfl, h⟩
    · obtain ⟨d, h1, h2⟩ := t.mem p hp
      exact ⟨d, List.mem_cons_of_mem _ h1, h2⟩
theorem RefsAt.mem' : ∀ {ds : List D} {vs : List V} {ks : List Rw}, RefsAt K mu H ds vs ks → ∀ d ∈ ds, ∃ p ∈ ks, p.2 = kD d
  | _, _, _, .cons h t, d, hd => by
    rcases List.mem_cons.mp hd with e | hd
    · subst e; exact ⟨_, List.mem_cons_self, rfl⟩
    · obtain ⟨p, h1, h2⟩ := t.mem' d hd
      exact ⟨p, List.mem_cons_of_mem _ h1, h2⟩
/-- rows of references, as values again -/
theorem rvs_rows : ∀ {L : List Rw}, (∀ p ∈ L, RV K mu H (dK p.2) (.ref p.1)) → RVs K mu H (L.map fun p => dK p.2) (L.map fun p => V.ref p.1)
  | [], _ => rfl
  | p :: L, h => ⟨_, _, rfl, h p List.mem_cons_self, rvs_rows fun q hq => h q (List.mem_cons_of_mem _ hq)⟩
theorem vals_rows : ∀ (L : List Rw), Vals (L.map fun p => V.ref p.1) (L.map fun p => Value.ref p.1)
  | [] => .nil
  | p :: L => .cons (show RelV (.ref p.1) (.ref p.1) from rfl) (vals_rows L)
/-- rows that cover ds, sorted -/
theorem rows_sorted {ds : List D} {L L1 : List Rw} {τ : Sh} (hσ : ∀ d ∈ ds, hasSh τ d = true) (nd : (L.map (·.2)).Nodup) (hs : ∀ p ∈ L, ∃ d ∈ ds, p.2 = kD d) (ha : ∀ d ∈ ds, kD d ∈ L.map (·.2)) (pm : L1.Perm L) :
    (L1.mergeSort (dataLe false fun p => p.2.data)).map (fun p => dK p.2) = sortD ds := by
  have hs1 : ∀ p ∈ L1, ∃ d ∈ ds, p.2 = kD d := fun p hp => hs p (pm.mem_iff.mp hp)
  have kk : ∀ d ∈ ds, keyD d = true := fun d hd => (key_of_sh τ d (hσ d hd)).1
  rw [sort_maps (s := leD) (fun p : Rw => dK p.2) fun p hp q hq => ?_]
  · refine sortD_sort hσ ?_ fun x => ?_
    · have n1 : (L1.map (·.2)).Nodup := (pm.map _).nodup_iff.mpr nd
      rw [List.Nodup, List.pairwise_map] at n1 ⊢
      refine n1.imp_of_mem fun {p q} hp hq hne e => hne ?_
      obtain ⟨d, hd, e1⟩ := hs1 p hp
      obtain ⟨d', hd', e2⟩ := hs1 q hq
      rw [e1, e2, (dK_kD d (kk d hd)).1, (dK_kD d' (kk d' hd')).1] at e
      rw [e1, e2, e]
    · rw [List.mem_map]
      constructor
      · rintro ⟨p, hp, rfl⟩
        obtain ⟨d, hd, e⟩ := hs1 p hp
        rw [e, (dK_kD d (kk d hd)).1]
        exact hd
      · intro hx
        obtain ⟨p, hp, e⟩ := List.mem_map.mp (ha x hx)
        exact ⟨p, pm.mem_iff.mpr hp, by rw [e, (dK_kD x (kk x hx)).1]⟩
  · obtain ⟨d, hd, e1⟩ := hs1 p hp
    obtain ⟨d', hd', e2⟩ := hs1 q hq
    show dataLe false (fun p : Rw => p.2.data) p q = dataLe false toPy (dK p.2) (dK q.2)
    show (!(listOrd itemOrd).blt (keyToks q.2.data) (keyToks p.2.data)) = (!(listOrd itemOrd).blt (keyToks (toPy (dK q.2))) (keyToks (toPy (dK p.2))))
    rw [e1, e2, (dK_kD d (kk d hd)).1, (dK_kD d (kk d hd)).2.1, (dK_kD d' (kk d' hd')).1, (dK_kD d' (kk d' hd')).2.1]
end
/-- sorted(set(a)) -/
def eSortSet (m : Bool) (a : SemE) : SemE where
  chk N sc e := match e with | .Call (.Name x _) [.Call (.Name y _) [e] [] _] [] _ => decide (x = "sorted") && decide (y = "set") && glB sc x && glB sc y && chkA [a] N sc [e] | _ => false
  req G k := G.mg "sorted" = none ∧ G.mg "set" = none ∧ a.req G k
  wp en st Q E := a.wp en st (fun d st1 => ∃ ds, seqOf st1 d = some ds ∧ SetOk ds ∧ newL m (sortD ds) st1 Q) E
  mono en st Q Q' E E' h f g := a.mono _ _ _ _ _ _ h (fun d s ⟨ds, h1, h2, h3⟩ => ⟨ds, h1, h2, newL_mono h3 f⟩) g
  sound := by
    intro G k X W e gd tk rq hc
    split at hc
    · rename_i x px y py e pe pos
      simp only [Bool.and_eq_true, decide_eq_true_eq] at hc
      obtain ⟨⟨⟨⟨rfl, rfl⟩, hg⟩, hg2⟩, ha⟩ := hc
      have hm : X.mg "sorted" = none := by rw [gd.mg]; exact rq.1
      have hm2 : X.mg "set" = none := by rw [gd.mg]; exact rq.2.1
      have hroom : X.A.units + 100 < cLine := by have := gd.room.un; omega
      have na := chkA_star ha
      have pa := a.sound G k X W e gd tk rq.2.2 (by simp only [chkA, Bool.and_eq_true] at ha; exact ha.1.2)
      refine ⟨fun pins s σ H Q I h => ?_⟩
      obtain ⟨mu, en, st, R, h⟩ := h
      refine Call_ (ld_blt I (glB_ok hg) hm PyProof.Rows.boot_sorted ?_)
      refine PyProof.Rows.callWith_builtin1 (PyProof.Rows.args_cons ?_ rfl) rfl rfl
      refine Call_ (ld_blt I (glB_ok hg2) hm2 PyProof.Rows.boot_set ?_)
      refine PyProof.Rows.callWith_type1 (PyProof.Rows.args_cons (thn (pa.run pins s σ H _ I (tw1 a.mono R h fun d st1 mu1 v H1 hF s1 r1 q1 => (⟨mu1, d, st1, s1, r1, q1, hF⟩ : ∃ mu1 d st1, Step mu H mu1 H1 ∧ RelS G.K G.w mu1 H1 st1 ∧ RV G.K mu1 H1 d v ∧ ∃ ds, seqOf st1 d = some ds ∧ SetOk ds ∧ newL m (sortD ds) st1 (PostD G mu H Q)))) fun u s1 ⟨v, H1, I1, rv, hq⟩ => PyProof.Rows.args_nil ?_) (na _)) (na _) rfl
      obtain ⟨mu1, d, st1, sp, r1, q1, ds, e1, hok, hQ⟩ := hq
      have hS := hok
      obtain ⟨hlen, τ, hτ, hsh⟩ := hS
      have hshd : ∀ d ∈ ds, hasSh τ d = true := fun d hd => (hsh d hd).1
      have kk : ∀ d ∈ ds, keyD d = true := fun d hd => (key_of_sh τ d (hshd d hd)).1
      obtain ⟨l, vs, rfl, h1, h2⟩ := seq_at r1 e1 q1
      cases (show u = Value.ref l from rv)
      obtain ⟨ks, hks⟩ := refsAt h2 fun d hd => (hsh d hd).2
      -- the rows in the heap
      have keyAt : ∀ p ∈ ks, KA s1.heap p ∧ Reads s1.heap (.ref p.1) p.2.data [] := fun p hp => by
        obtain ⟨d, hd, e2, hr⟩ := hks.mem p hp
        obtain ⟨z1, z2⟩ := RV.key I1 gd.K hr (show RelV (.ref p.1) (.ref p.1) from rfl) (kk d hd)
        obtain ⟨z3, z4, z5⟩ := dK_kD d (kk d hd)
        have z6 := (key_of_sh τ d (hshd d hd)).2
        exact ⟨⟨by rw [e2]; exact z1, by rw [e2, z5]; omega⟩, by rw [e2, z4]; exact z2⟩
      -- behind the set
      have fin : ∀ (E' : Value → Shared → Prop) (h' : Heap) (tk : Nat) L es ep t, SN X.w h' s1.heap.objs.size L es ep t → Has ks ks.length L → (∀ b o, s1.heap.get? b = some o → h'.get? b = some o) →
          wpAny (model X.prog X.w) X.A (call (.builtin "sorted") [.ref s1.heap.objs.size]) (fun v s' => ∃ x H', Inv X pins σ H' s' ∧ RelV x v ∧ Q x H') E' { s1 with heap := h', toks := tk } := fun E' h' tk L es ep t RS g hk => by
        have sub : ∀ p ∈ L, p ∈ ks := fun p hp => List.mem_of_mem_take (g.sub p hp)
        have hcov : ∀ d ∈ ds, kD d ∈ L.map (·.2) := fun d hd => by
          obtain ⟨p, hp, e2⟩ := hks.mem' d hd
          have := g.all p (by rw [List.take_length]; exact hp)
          rwa [e2] at this
        have hsub : ∀ p ∈ L, ∃ d ∈ ds, p.2 = kD d := fun p hp => by
          obtain ⟨d, hd, e2, _⟩ := hks.mem p (sub p hp)
          exact ⟨d, hd, e2⟩
        have I2 : Inv X pins σ H1 { s1 with heap := h', toks := tk } := I1.kept hk
        refine sorted_setN (s := { s1 with heap := h', toks := tk }) RS (I.ok.hd gd.calm) ⟨fun p hp => PyProof.Rows.Reads.keeps hk (keyAt p (sub p hp)).2, fun x hx y hy => ?_, fun p hp => ?_, fun p hp => ?_⟩ (by omega) fun s' p c L1 hm km k1 g1 o1 hz pm hc => ?_
        · obtain ⟨p, hp, rfl⟩ := List.mem_map.mp hx
          obtain ⟨q, hq, rfl⟩ := List.mem_map.mp hy
          obtain ⟨d, hd, e2⟩ := hsub p hp
          obtain ⟨d', hd', e3⟩ := hsub q hq
          rw [e2, e3, (dK_kD d (kk d hd)).2.1, (dK_kD d' (kk d' hd')).2.1]
          exact alike_of_sh τ d d' (hshd d hd) (hshd d' hd')
        · obtain ⟨d, hd, e2⟩ := hsub p hp
          rw [e2, (dK_kD d (kk d hd)).2.1]
          have := (hsh d hd).2
          cases d with
          | tup es =>
            exact ⟨_, rfl⟩
          | _ => simp [tupNe] at this
        · obtain ⟨d, hd, e2⟩ := hsub p hp
          rw [e2, (dK_kD d (kk d hd)).2.1, (can_py d (can_of_ok d (ok_of_key d (kk d hd)))).2]
          have := (key_of_sh τ d (hshd d hd)).2
          omega
        · have hsort := rows_sorted hshd RS.nd hsub hcov pm
          generalize hL2 : L1.mergeSort (dataLe false fun p => p.2.data) = L2 at hc hsort
          have m2 : ∀ p ∈ L2, p ∈ ks := fun p hp => sub p (pm.mem_iff.mp ((List.mergeSort_perm L1 _).mem_iff.mp (hL2 ▸ hp)))
          have rr : RVs G.K mu1 H1 (sortD ds) (L2.map fun p => V.ref p.1) := by
            rw [← hsort]
            refine rvs_rows fun p hp => ?_
            obtain ⟨d, hd, e2, hr⟩ := hks.mem p (m2 p hp)
            rw [e2, (dK_kD d (kk d hd)).1]
            exact hr
          have I3 : Inv X pins σ H1 { s1 with heap := hm, toks := tk } := I2.kept km
          have hn : H1 p = none := I3.hok.fresh hz
          have hlen2 : (L2.map fun p => V.ref p.1).length ≤ sizeLine := by
            have h3 := congrArg List.length hsort
            rw [List.length_map] at h3
            rw [List.length_map, h3, sizeLine_eq]
            have := sortD_len ds
            omega
          obtain ⟨h3, g3, d3, t3, o3⟩ := s'
          have eg : g3 = s1.gens := g1
          have eo : o3 = s1.os := o1
          subst eg eo
          have J := I3.call (h' := h3) (g' := s1.gens) (t' := t3) (d' := d3) (ch := []) (Un.laid k1 hz hn) (I3.hok.laid k1 hz (o := .lst (L2.map fun p => V.ref p.1)) ⟨hlen2, _, c, vals_rows L2, hc⟩) I3.bare (fun _ z => nomatch z)
          exact ⟨.ref p, _, J, rfl, new_list m sp r1 rr hQ hn⟩
      obtain ⟨its, rv2, hit⟩ : ∃ its : List Value, Vals vs its ∧ (s1.heap.IsTuple l its.toArray ∨ s1.heap.IsList l its.toArray) := by
        rcases h1 with ⟨_, h1⟩ | ⟨_, h1⟩
        · obtain ⟨its, rv2, hp, _⟩ := I1.tuple (gd.K' (P := fun K => SqT K H1 l vs) h1)
          exact ⟨its, rv2, .inl hp⟩
        · obtain ⟨its, rv2, hp, _⟩ := I1.list (.of h1)
          exact ⟨its, rv2, .inr hp.isList⟩
      have hits : its.toArray.toList = ks.map fun p => Value.ref p.1 := by rw [List.toList_toArray, hks.vals rv2]
      have hl2 : ks.length < 64 := by rw [hks.len]; exact hlen
      rcases hit with hit | hit
      · refine setOf_tuple (P := X.prog) (w := X.w) ks (I.ok.hd gd.calm) hit hits (fun p hp => (keyAt p hp).1) hl2 (by omega) fun h' tk L es ep t RS g hk => PyProof.Rows.args_nil (fin _ h' tk L es ep t RS g hk)
      · refine setOf_list (P := X.prog) (w := X.w) ks (I.ok.hd gd.calm) hit hits (fun p hp => (keyAt p hp).1) hl2 (by omega) fun h' tk L es ep t RS g hk => PyProof.Rows.args_nil (fin _ h' tk L es ep t RS g hk)
    · cases hc
end Mi
/-! MiZ: dicts whose keys are nested tuples: {}, d[k] = v, sorted(d). -/
namespace Mi
open PySem PySem.Spec PyProof.Rows L2 PySem.W

abbrev DRow := D × Addr × Value
theorem dicAt_ok {P : Program} {w w' : World} {H : Hp} {h : Heap} {a : Addr} {rows : List DRow} (x : DicAt w a rows h) : ObjOk P w' H h a (.ext (DicAt w a rows)) := by
  obtain ⟨o, es, ep, ho, r⟩ := id x
  refine ⟨x, ⟨o, ho⟩, fun h1 h2 p k => ?_⟩
  obtain ⟨o', es', ep', ho', r'⟩ := p
  exact ⟨o', es', ep', k o' ho', r'⟩
section
variable {K : PySem.W.Frag} {mu : Mu} {H : Hp} {st : Sto} {wd : World}
theorem ro_dic0 {a : Addr} (h : H a = some (.ext (DicAt wd a []))) (hs : (a == sysModules) = false) : RO K wd mu H (.dic [] []) a :=
  ⟨[], [], h, rfl, rfl, .nil, rfl, ⟨List.nodup_nil, Nat.zero_le _, by simp⟩, hs⟩
end
/-- {} -/
def eDict0 : SemE where
  chk N sc e := match e with | .Dict [] [] _ => true | _ => false
  req _ _ := True
  wp en st Q E := Q (.ref st.length) (st ++ [.dic [] []])
  mono en st Q Q' E E' h f g := f _ _ h
  sound := by
    intro G k X W e gd tk rq hc
    split at hc
    · rename_i pos
      refine ⟨fun pins s σ H Q I h => ?_⟩
      obtain ⟨mu, en, st, R, h⟩ := h
      have hn := I.hok.fresh (Nat.le_refl s.heap.objs.size)
      have hs : (s.heap.objs.size == sysModules) = false := beq_eq_false_iff_ne.mpr (Ne.symm (Nat.ne_of_lt I.big))
      have hD : DicAt G.w s.heap.objs.size [] (s.heap.push { cls := .type "dict", data := .dict #[] }) := ⟨_, #[], 0, Heap.get?_push_size _ rfl, ⟨rfl, rfl, rfl⟩, rfl, rfl⟩
      refine wpAny_Dict_empty ⟨.ref s.heap.objs.size, upd H s.heap.objs.size (.ext (DicAt G.w s.heap.objs.size [])), I.laid (t' := s.toks) (fun _ _ q => Heap.get?_push_of_some _ q) (Nat.le_refl _) (dicAt_ok hD), rfl, ?_⟩
      exact h (mu.push s.heap.objs.size) (.ref s.heap.objs.size) _ (Step.newO hn) (R.sto.newO hn (ro_dic0 upd_same hs)) ⟨_, rfl, by show (mu.l ++ [_])[st.length]? = _; rw [← R.sto.len]; simp⟩
    · cases hc

/-! ### putting in -/
def dIx (ks : List D) (k : D) : Option Nat := ks.findIdx? fun x => eqD x k
/-- d[k] = v -/
def dicSet (ks vs : List D) (k v : D) : List D × List D := match dIx ks k with
  | some i => (ks, vs.set i v)
  | none => (ks ++ [k], vs ++ [v])
def rowSet (rows : List DRow) (k : D) (a : Addr) (u : Value) : List DRow := match dIx (rows.map (·.1)) k with
  | some i => rows.modify i fun r => (r.1, r.2.1, u)
  | none => rows ++ [(k, a, u)]
def xsOf (rows : List DRow) : List (NestedKey × Addr × Value) := rows.map fun r => (kD r.1, r.2.1, r.2.2)
theorem kD_inj {x y : D} (hx : keyD x = true) (hy : keyD y = true) (e : kD x = kD y) : x = y := by
  have h1 := (dK_kD x hx).1
  have h2 := (dK_kD y hy).1
  rw [← h1, e, h2]
theorem dIx_none {ks : List D} {k : D} (hk : keyD k = true) (h : ∀ x ∈ ks, keyD x = true) (e : dIx ks k = none) : k ∉ ks := fun z => by
  unfold dIx at e
  rw [List.findIdx?_eq_none_iff] at e
  have := e k z
  rw [eqD_self k (can_of_ok k (ok_of_key k hk))] at this
  cases this
theorem dIx_some {ks : List D} {k : D} {i : Nat} (hk : keyD k = true) (h : ∀ x ∈ ks, keyD x = true) (e : dIx ks k = some i) : ks[i]? = some k := by
  unfold dIx at e
  rw [List.findIdx?_eq_some_iff_getElem] at e
  obtain ⟨hi, h1, _⟩ := e
  rw [List.getElem?_eq_getElem hi]
  exact congrArg some ((eqD_iff _ _ (ok_of_key _ (h _ (List.getElem_mem hi))) (ok_of_key k hk)).1 h1)
theorem rowSet_xs {rows : List DRow} {k : D} {a : Addr} {u : Value} (hk : keyD k = true) (h : ∀ x ∈ rows.map (·.1), keyD x = true) (nd : (rows.map (·.1)).Nodup) : xsOf (rowSet rows k a u) = storedH (xsOf rows) (kD k) a u := by
  have kk : (xsOf rows).map (·.1) = (rows.map (·.1)).map kD := by simp [xsOf]
  unfold rowSet
  cases e : dIx (rows.map (·.1)) k with
  | none =>
    have hn := dIx_none hk h e
    have hn2 : atKey (xsOf rows) (kD k) = none := atKey_none_of_get fun j p hj => by
      have hm : kD k ∈ (xsOf rows).map (·.1) := List.mem_map.mpr ⟨_, List.mem_of_getElem? hj, rfl⟩
      rw [kk] at hm
      obtain ⟨y, hy, e2⟩ := List.mem_map.mp hm
      exact hn (kD_inj (h y hy) hk e2 ▸ hy)
    rw [storedH_new hn2]
    simp [xsOf]
  | some i =>
    have hi := dIx_some hk h e
    rw [List.getElem?_map] at hi
    obtain ⟨r, hr, er⟩ := Option.map_eq_some_iff.mp hi
    have hx : (xsOf rows)[i]? = some (kD k, r.2.1, r.2.2) := by simp [xsOf, hr, er]
    have ndk : ((xsOf rows).map (·.1)).Nodup := by
      rw [kk, List.Nodup, List.pairwise_map]
      exact nd.imp_of_mem fun {x y} hx hy hne e => hne (kD_inj (h x hx) (h y hy) e)
    rw [storedH_old (atKey_of_get ndk hx)]
    refine List.ext_getElem? fun j => ?_
    rw [xsOf, List.getElem?_map, List.getElem?_map, List.getElem?_modify, xsOf, List.getElem?_map]
    cases ej : rows[j]? with
    | none => simp
    | some q =>
      by_cases z : i = j
      · subst z
        rw [hr] at ej
        cases ej
        simp [putAt, er]
      · have ne : ¬ kD q.1 = kD k := fun e2 => by
          have e3 : q.1 = k := kD_inj (h _ (List.mem_map.mpr ⟨q, List.mem_of_getElem? ej, rfl⟩)) hk e2
          have a1 : (rows.map (·.1))[j]? = some k := by rw [List.getElem?_map, ej]; exact congrArg some e3
          have a2 : (rows.map (·.1))[i]? = some k := by rw [List.getElem?_map, hr]; exact congrArg some er
          exact z ((List.getElem?_inj (List.getElem?_eq_some_iff.mp a2).1 nd).mp (a2.trans a1.symm))
        simp [putAt, ne, z]
/-- the new rows stand for the new dict -/
theorem rowSet_rel {K : PySem.W.Frag} {mu : Mu} {H : Hp} {rows : List DRow} {ks vs : List D} {ws : List V} {k v : D} {ka : Addr} {x : V} {u : Value} (e : ks = rows.map (·.1)) (r1 : RVs K mu H vs ws) (r2 : Vals ws (rows.map (·.2.2)))
    (r3 : RVs K mu H ks (rows.map fun r => V.ref r.2.1)) (rk : RV K mu H k (.ref ka)) (rv : RV K mu H v x) (ru : RelV x u) :
    (dicSet ks vs k v).1 = (rowSet rows k ka u).map (·.1) ∧ (∃ ws', RVs K mu H (dicSet ks vs k v).2 ws' ∧ Vals ws' ((rowSet rows k ka u).map (·.2.2))) ∧ RVs K mu H (dicSet ks vs k v).1 ((rowSet rows k ka u).map fun r => V.ref r.2.1) := by
  subst e
  unfold dicSet rowSet
  cases e : dIx (rows.map (·.1)) k with
  | none =>
    refine ⟨by simp, ⟨ws ++ [x], r1.app ⟨x, [], rfl, rv, rfl⟩, ?_⟩, ?_⟩
    · rw [List.map_append]; exact r2.append (.cons ru .nil)
    · rw [List.map_append]; exact r3.app ⟨_, [], rfl, rk, rfl⟩
  | some i =>
    have m1 : (rows.modify i fun r => (r.1, r.2.1, u)).map (·.1) = rows.map (·.1) := by
      refine List.ext_getElem? fun j => ?_
      rw [List.getElem?_map, List.getElem?_modify, List.getElem?_map]
      cases rows[j]? <;> simp
      split <;> rfl
    have m2 : (rows.modify i fun r => (r.1, r.2.1, u)).map (fun r => V.ref r.2.1) = rows.map fun r => V.ref r.2.1 := by
      refine List.ext_getElem? fun j => ?_
      rw [List.getElem?_map, List.getElem?_modify, List.getElem?_map]
      cases rows[j]? <;> simp
      split <;> rfl
    have m3 : (rows.modify i fun r => (r.1, r.2.1, u)).map (·.2.2) = (rows.map (·.2.2)).set i u := by
      refine List.ext_getElem? fun j => ?_
      rw [List.getElem?_map, List.getElem?_modify, List.getElem?_set, List.getElem?_map, List.length_map]
      by_cases z : i = j
      · subst z
        by_cases q : i < rows.length
        · simp [List.getElem?_eq_getElem q, q]
        · simp [List.getElem?_eq_none (Nat.le_of_not_lt q), q]
      · simp [z]
    refine ⟨m1.symm, ⟨ws.set i x, RVs.set rv i r1, ?_⟩, ?_⟩
    · rw [m3]; exact r2.set ru i
    · show RVs K mu H (rows.map (·.1)) _
      rw [m2]; exact r3
/-! an object of the store is written -/
theorem Step.setO {mu : Mu} {H : Hp} {a : Addr} {o o' : HO} (ha : a ∈ mu.l) (hA : H a = some o) (hi : ¬ Immut o) : Step mu H mu (upd H a o') := by
  refine ⟨fun _ h => h, fun _ h => .inl h, ⟨[], by simp, by simp⟩, fun b u e c => ?_, fun b e => ?_⟩
  · have ne : b ≠ a := fun z => by
      subst z
      rcases c with c | c
      · exact c ha
      · rw [hA] at e; cases e; exact hi c
    rw [upd_ne ne]; exact e
  · by_cases z : b = a
    · rw [z, upd_same]; simp
    · rw [upd_ne z]; exact e
theorem RelS.setO {K : PySem.W.Frag} {wd : World} {mu : Mu} {H : Hp} {st : Sto} (R : RelS K wd mu H st) {n : Nat} {a : Addr} {o' : HO} {x : O} (hn : mu.l[n]? = some a) (s : Step mu H mu (upd H a o')) (r : RO K wd mu (upd H a o') x a) :
    RelS K wd mu (upd H a o') (st.set n x) := by
  refine ⟨R.nd, by rw [List.length_set]; exact R.len, fun m y b h1 h2 => ?_, fun b hb => ⟨s.live b (R.av b hb).1, (R.av b hb).2⟩⟩
  by_cases hm : n = m
  · subst hm
    have hl : n < st.length := by rw [← R.len]; exact (List.getElem?_eq_some_iff.mp hn).1
    rw [List.getElem?_set_self hl] at h1
    rw [hn] at h2
    cases h1
    cases h2
    exact r
  · rw [List.getElem?_set_ne hm] at h1
    have ne : b ≠ a := fun z => by
      subst z
      exact hm ((List.getElem?_inj (List.getElem?_eq_some_iff.mp hn).1 R.nd).mp (hn.trans h2.symm))
    exact (R.obj m y b h1 h2).step s (by rw [upd_ne ne])
/-- the dict behind a reference -/
def refD (st : Sto) (d : D) : Option (Nat × List D × List D) := match d with
  | .ref n => (match st[n]? with | some (.dic ks vs) => some (n, ks, vs) | _ => none)
  | _ => none
theorem refD_ok {st : Sto} {d : D} {n : Nat} {ks vs : List D} (h : refD st d = some (n, ks, vs)) : d = .ref n ∧ st[n]? = some (.dic ks vs) := by
  unfold refD at h
  split at h
  · split at h
    · cases h; exact ⟨rfl, by assumption⟩
    · cases h
  · cases h
def keyOk (k : D) : Prop := keyD k = true ∧ dpD k ≤ 8 ∧ tupNe k = true
theorem dicSet_k {ks vs : List D} {k v : D} (c : DicK ks) (hk : keyOk k) (hl : ks.length < sizeLine) : DicK (dicSet ks vs k v).1 := by
  unfold dicSet
  cases e : dIx ks k with
  | some i => exact c
  | none =>
    have hn := dIx_none hk.1 (fun x hx => (c.key x hx).1) e
    refine ⟨?_, by simp; omega, fun x hx => ?_⟩
    · show (ks ++ [k]).Nodup
      rw [List.nodup_append]
      exact ⟨c.nd, by simp, fun x hx y hy => by
        have : y = k := by simpa using hy
        subst this
        exact fun z => hn (z ▸ hx)⟩
    · rcases List.mem_append.mp hx with z | z
      · exact c.key x z
      · rw [List.mem_singleton.mp z]; exact ⟨hk.1, hk.2.1⟩
section
variable {X : Cx} {pins : List (Addr × Obj)} {σ : L2.St} {H : Hp} {s : Shared} {K : PySem.W.Frag} {mu : Mu}
/-- the dict in the heap -/
theorem dict_at (I : Inv X pins σ H s) (hK : X.K = K) {a : Addr} {rows : List DRow} (hA : H a = some (.ext (DicAt X.w a rows))) (rk : RVs K mu H (rows.map (·.1)) (rows.map fun r => V.ref r.2.1)) (c : DicK (rows.map (·.1))) :
    s.heap.DictOfH (nestedKind X.prog X.w) a (xsOf rows) := by
  obtain ⟨⟨o, es, ep, ho, hex, hd, he⟩, _, _⟩ := I.hok a _ hA
  refine ⟨o, es, ep, ho, hex, hd, ?_, fun x hx => ?_, ?_⟩
  · rw [he, xsOf, List.map_map]; rfl
  · obtain ⟨r, hr, rfl⟩ := List.mem_map.mp hx
    obtain ⟨i, hi⟩ := List.mem_iff_getElem?.mp hr
    obtain ⟨v, h1, h2⟩ := rk.get (i := i) (d := r.1) (by rw [List.getElem?_map, hi]; rfl)
    rw [List.getElem?_map, hi] at h1
    cases (show V.ref r.2.1 = v from Option.some.inj h1)
    have hk := c.key r.1 (List.mem_map.mpr ⟨r, hr, rfl⟩)
    exact ⟨(RV.key I hK h2 (show RelV (.ref r.2.1) (.ref r.2.1) from rfl) hk.1).1, by rw [(dK_kD r.1 hk.1).2.2]; exact hk.2⟩
  · have kk : (xsOf rows).map (·.1) = (rows.map (·.1)).map kD := by simp [xsOf]
    rw [kk, List.Nodup, List.pairwise_map]
    exact c.nd.imp_of_mem fun {x y} hx hy hne e => hne (kD_inj (c.key x hx).1 (c.key y hy).1 e)
/-- d[k] = v, by values -/
def rSetKy (K : PySem.W.Frag) (w : World) : TSet := fun o i v H Q => ∃ (a : Addr) (rows : List DRow) (mu : Mu) (k : D) (ka : Addr), o = .ref a ∧ i = .ref ka ∧ H a = some (.ext (DicAt w a rows)) ∧ RVs K mu H (rows.map (·.1)) (rows.map fun r => V.ref r.2.1) ∧ DicK (rows.map (·.1)) ∧
  RV K mu H k (.ref ka) ∧ keyOk k ∧ ∀ u, RelV v u → Q (upd H a (.ext (DicAt w a (rowSet rows k ka u))))
theorem set_ky (hu : X.A.units + 20 < cLine) : PSet X (rSetKy X.K X.w) := by
  intro pins s σ H o i v ov iv u Q I ro ri rv h
  obtain ⟨a, rows, mu, k, ka, rfl, rfl, hA, rk, c, r1, ok, q⟩ := h
  cases (show ov = Value.ref a from ro)
  cases (show iv = Value.ref ka from ri)
  have dd := dict_at I rfl hA rk c
  have hkey : (nestedKind X.prog X.w).is s.heap (kD k) ka := ⟨(RV.key I rfl r1 (show RelV (.ref ka) (.ref ka) from rfl) ok.1).1, by rw [(dK_kD k ok.1).2.2]; exact ok.2.1⟩
  have hz : (xsOf rows).length ≤ sizeLine := by have := c.len; simpa [xsOf] using this
  refine wpAny_setItem_heap (knd := nestedKind X.prog X.w) (hsz := hz) (show X.A.in1.units + 8 < cLine by simp only [Around.in1_units]; omega) hkey dd fun h' dd' hs => ?_
  rw [← rowSet_xs ok.1 (fun x hx => (c.key x hx).1) c.nd] at dd'
  obtain ⟨o', es, ep, ho, hex, hd, he, _, _⟩ := dd'
  have hD : DicAt X.w a (rowSet rows k ka u) h' := ⟨o', es, ep, ho, hex, hd, by rw [he, xsOf, List.map_map]; rfl⟩
  exact ⟨_, Inv.write (t' := s.toks + (nestedKind X.prog X.w).draws (kD k)) I (by rw [hA]; exact True.intro) (.inl rfl) (fun b y hb e => (hs.2 b hb).trans e) ⟨o', ho⟩ (dicAt_ok hD), q u rv⟩
end
/-- x[k] = e, x a dict -/
def sSetKy (o i e : SemE) : SemS where
  chk N sc st := match st with | .Assign [.Subscript x y p] v pos => o.chk N sc x && plainIxB y && i.chk N sc y && e.chk N sc v && pureIs (fun b => !b) (swapsWithSole [.Subscript x y p] v pos.line (envS sc)) && pureIs (fun o => o.isNone) (swappedStores [.Subscript x y p] v (envS sc)) | _ => false
  req G k := e.req G k ∧ o.req G k ∧ i.req G k
  lp := false
  wp Dn en st := e.wp en st (fun d st1 => o.wp en st1 (fun r st2 => i.wp en st2 (fun j st3 => match refD st3 r with
    | some (n, ks, vs) => keyOk j ∧ ks.length < sizeLine ∧ Dn.nx en (st3.set n (.dic (dicSet ks vs j d).1 (dicSet ks vs j d).2))
    | _ => False) (fun x st' => Dn.ex x en st')) (fun x st' => Dn.ex x en st')) (fun x st' => Dn.ex x en st')
  mono A B en st le h := e.mono _ _ _ _ _ _ h (fun d s hd => o.mono _ _ _ _ _ _ hd (fun r s hr => i.mono _ _ _ _ _ _ hr (fun j s hj => by
    split at hj
    · exact ⟨hj.1, hj.2.1, le.nx _ _ hj.2.2⟩
    · exact hj.elim) fun x s hx => le.ex x en s hx) fun x s hx => le.ex x en s hx) fun x s hx => le.ex x en s hx
  sound := by
    intro G k X W st gd hfn tk hl rq hc
    split at hc
    · rename_i x y p v pos
      simp only [Bool.and_eq_true] at hc
      obtain ⟨⟨⟨⟨⟨h1, h2⟩, h3⟩, h4⟩, h5⟩, h6⟩ := hc
      obtain ⟨b, e3, e4⟩ := pureIs_ok h5
      have e5 : b = false := by simpa using e4
      subst e5
      obtain ⟨w, e6, e7⟩ := pureIs_ok h6
      have e8 : w = none := by simpa using e7
      subst e8
      have pg := pg_sub (pos := p) (o.sound G k X W x gd tk rq.2.1 h1) (i.sound G k X W y gd tk rq.2.2 h3) (set_ky (by have := gd.room.un; omega)) (by
        intro v
        cases y <;> first | rfl | (simp [plainIxB] at h2))
      have base := ps_asg (pos := pos) (e.sound G k X W v gd tk rq.1 h4) pg (show swapsWithSole [.Subscript x y p] v pos.line X.env = _ from e3) ((swapped_scope _ _ _).trans e6) rfl
      refine ⟨fun pins s σ H Dn I h => base.run pins s σ H Dn I ?_⟩
      obtain ⟨mu, en, st, R, h⟩ := h
      refine se1 e.mono R h fun d st1 mu1 vd H1 hF s1 r1 q1 => ?_
      refine tw1 o.mono (R.step s1 r1) (o.mono _ _ _ _ _ _ hF (fun _ _ h => h) fun x st' hx => PostX.step s1 (PostXS.ofX R hx)) fun r st2 mu2 vr H2 hF2 s2 r2 q2 => ?_
      have s12 := s1.trans s2
      refine tw1 i.mono (R.step s12 r2) (i.mono _ _ _ _ _ _ hF2 (fun _ _ h => h) fun x st' hx => PostX.step s12 (PostXS.ofX R hx)) fun j st3 mu3 vj H3 hF3 s3 r3 q3 => ?_
      split at hF3
      · rename_i n ks vs e9
        obtain ⟨ok, hlen, hF3⟩ := hF3
        obtain ⟨rfl, hx⟩ := refD_ok e9
        obtain ⟨a, rfl, hn⟩ := q2.step s3
        obtain ⟨rows, ws, hA, rfl, rw1, rw2, rw3, c, hsy⟩ := r3.get hx hn
        obtain ⟨ka, rfl⟩ : ∃ ka, vj = .ref ka := by
          have := ok.2.2
          cases j with
          | tup es => obtain ⟨a, us, rfl, _⟩ := q3; exact ⟨a, rfl⟩
          | _ => simp [tupNe] at this
        have q1' := (q1.step s2).step s3
        refine ⟨a, rows, mu3, j, ka, rfl, rfl, by rw [gd.w]; exact hA, by rw [gd.K]; exact rw3, c, by rw [gd.K]; exact q3, ok, fun u ru => ?_⟩
        obtain ⟨z1, ⟨ws', z2, z3⟩, z4⟩ := rowSet_rel rfl rw1 rw2 rw3 q3 q1' ru
        have sO : Step mu3 H3 mu3 (upd H3 a (.ext (DicAt X.w a (rowSet rows j ka u)))) := Step.setO (List.mem_of_getElem? hn) hA (fun z => z)
        refine hF3 mu3 σ _ (s12.trans (s3.trans sO)) ⟨r3.setO hn sO ⟨rowSet rows j ka u, ws', by rw [upd_same, gd.w], z1, z2.step sO, z3, z4.step sO, dicSet_k c ok hlen, hsy⟩, (R.env.step (s12.trans s3)).step sO, R.len⟩
      · exact hF3.elim
    · cases hc

/-! ### sorted(d) -/
def SortDic (ks : List D) : Prop := ∃ σ : Sh, σ.dep ≤ 8 ∧ ∀ d ∈ ks, hasSh σ d = true ∧ tupNe d = true
/-- sorted(a), a a dict -/
def bSortDic (m : Bool) : BIn where
  name := "sorted"
  val := .builtin "sorted"
  wp ds st Q := match ds with
    | [d] => (match refD st d with | some (_, ks, _) => SortDic ks ∧ newL m (sortD ks) st Q | none => False)
    | _ => False
  mono ds st Q Q' h f := by
    split at h
    · split at h
      · exact ⟨h.1, newL_mono h.2 f⟩
      · exact h.elim
    · exact h.elim
  sound := by
    intro G k X gd pins s σ H xs us Q I r h
    obtain ⟨mu, st, ds, R, rv, h⟩ := h
    split at h
    · rename_i d
      obtain ⟨v, rfl, r1⟩ := rv.one
      split at h
      · rename_i n ks vs e
        obtain ⟨⟨τ, hτ, hsh⟩, hQ⟩ := h
        obtain ⟨rfl, hx⟩ := refD_ok e
        obtain ⟨a, rfl, hn⟩ := r1
        obtain ⟨rows, ws, hA, rfl, rw1, rw2, rw3, c, hsy⟩ := R.get hx hn
        rw [Vals.ref1 r]
        have hA' : H a = some (.ext (DicAt X.w a rows)) := by rw [gd.w]; exact hA
        have dd := dict_at I gd.K hA' rw3 c
        obtain ⟨o, es, ep, ho, hex, hd, he, hk, _⟩ := dd
        have hshd : ∀ d ∈ rows.map (·.1), hasSh τ d = true := fun d hd => (hsh d hd).1
        have kk : ∀ d ∈ rows.map (·.1), keyD d = true := fun d hd => (key_of_sh τ d (hshd d hd)).1
        obtain ⟨L, hL⟩ : ∃ L : List Rw, L = rows.map fun r => (r.2.1, kD r.1) := ⟨_, rfl⟩
        have hmem : ∀ p ∈ L, ∃ r ∈ rows, p = (r.2.1, kD r.1) := fun p hp => by
          rw [hL] at hp
          obtain ⟨r, hr, e⟩ := List.mem_map.mp hp
          exact ⟨r, hr, e.symm⟩
        have rvAt : ∀ r ∈ rows, RV G.K mu H r.1 (.ref r.2.1) := fun r hr => by
          obtain ⟨i, hi⟩ := List.mem_iff_getElem?.mp hr
          obtain ⟨v, h1, h2⟩ := rw3.get (i := i) (d := r.1) (by rw [List.getElem?_map, hi]; rfl)
          rw [List.getElem?_map, hi] at h1
          cases (show V.ref r.2.1 = v from Option.some.inj h1)
          exact h2
        have hkeys : L.map (·.2) = (rows.map (·.1)).map kD := by rw [hL]; simp
        have S : SortOk s.heap L := by
          refine ⟨fun p hp => ?_, fun x hx y hy => ?_, fun p hp => ?_, fun p hp => ?_⟩
          · obtain ⟨r, hr, rfl⟩ := hmem p hp
            have hm : r.1 ∈ rows.map (·.1) := List.mem_map.mpr ⟨r, hr, rfl⟩
            show Reads s.heap (.ref r.2.1) (kD r.1).data []
            rw [(dK_kD r.1 (kk _ hm)).2.1]
            exact (RV.key I gd.K (rvAt r hr) (show RelV (.ref r.2.1) (.ref r.2.1) from rfl) (kk _ hm)).2
          · obtain ⟨p, hp, rfl⟩ := List.mem_map.mp hx
            obtain ⟨q, hq, rfl⟩ := List.mem_map.mp hy
            obtain ⟨r, hr, rfl⟩ := hmem p hp
            obtain ⟨r', hr', rfl⟩ := hmem q hq
            have hm : r.1 ∈ rows.map (·.1) := List.mem_map.mpr ⟨r, hr, rfl⟩
            have hm' : r'.1 ∈ rows.map (·.1) := List.mem_map.mpr ⟨r', hr', rfl⟩
            show alike (kD r.1).data (kD r'.1).data = true
            rw [(dK_kD _ (kk _ hm)).2.1, (dK_kD _ (kk _ hm')).2.1]
            exact alike_of_sh τ _ _ (hshd _ hm) (hshd _ hm')
          · obtain ⟨r, hr, rfl⟩ := hmem p hp
            have hm : r.1 ∈ rows.map (·.1) := List.mem_map.mpr ⟨r, hr, rfl⟩
            show ∃ xs, (kD r.1).data = .tuple xs
            rw [(dK_kD _ (kk _ hm)).2.1]
            have := (hsh _ hm).2
            revert this
            cases r.1 with
            | tup es => intro _; exact ⟨_, rfl⟩
            | _ => intro z; simp [tupNe] at z
          · obtain ⟨r, hr, rfl⟩ := hmem p hp
            have hm : r.1 ∈ rows.map (·.1) := List.mem_map.mpr ⟨r, hr, rfl⟩
            show (kD r.1).data.depth ≤ 8
            rw [(dK_kD _ (kk _ hm)).2.1, (can_py _ (can_of_ok _ (ok_of_key _ (kk _ hm)))).2]
            exact (c.key _ hm).2
        have hLlen : L.length ≤ sizeLine := by rw [hL, List.length_map]; have := c.len; rwa [List.length_map] at this
        have hesz : es.size = L.length := by
          have := congrArg List.length he
          rw [Array.length_toList, List.length_map, xsOf, List.length_map] at this
          rw [this, hL, List.length_map]
        refine sorted_rows S hLlen (by have := gd.room.un; omega) (fun E R' hR => ?_) fun s' p c' L1 hm km k1 g1 o1 hz pm hc => ?_
        · refine kdu_collect (A := X.A.in1) (KdlSrc.rawDict (es := es) (ep := ep) hsy) (I.ok.hd gd.calm) ⟨o, ho, hex, hd⟩ (by rw [hesz]; exact hLlen) fun h' tk acc hk' hacc => ?_
          have eacc : acc.toList = L.map fun p => Value.ref p.1 := by
            refine List.ext_getElem? fun j => ?_
            by_cases hj : j < es.size
            · have hja : j < acc.size := by rw [hacc.1]; exact hj
              obtain ⟨hi, e2⟩ := hacc.2 j acc[j] (Array.getElem?_eq_getElem hja)
              rw [Array.getElem?_toList, Array.getElem?_eq_getElem hja, e2]
              have e3 : es.toList[j]? = some es[j] := by rw [Array.getElem?_toList, Array.getElem?_eq_getElem hi]
              rw [he, List.getElem?_map, xsOf, List.getElem?_map] at e3
              rw [hL, List.getElem?_map, List.getElem?_map]
              cases er : rows[j]? with
              | none => rw [er] at e3; cases e3
              | some r =>
                rw [er] at e3
                have e4 := Option.some.inj e3
                rw [← e4]; rfl
            · rw [List.getElem?_eq_none (by rw [Array.length_toList, hacc.1]; omega), List.getElem?_eq_none (by rw [List.length_map, ← hesz]; omega)]
          exact hR _ _ hk' rfl rfl (by rw [eacc])
        · have ndL : (L.map (·.2)).Nodup := by
            rw [hkeys, List.Nodup, List.pairwise_map]
            exact c.nd.imp_of_mem fun {x y} hx hy hne e => hne (kD_inj (kk x hx) (kk y hy) e)
          have hsort := rows_sorted hshd ndL (fun p hp => by
            obtain ⟨r, hr, rfl⟩ := hmem p hp
            exact ⟨r.1, List.mem_map.mpr ⟨r, hr, rfl⟩, rfl⟩) (fun d hd => by rw [hkeys]; exact List.mem_map.mpr ⟨d, hd, rfl⟩) pm
          generalize hL2 : L1.mergeSort (dataLe false fun p => p.2.data) = L2 at hc hsort
          have m2 : ∀ p ∈ L2, p ∈ L := fun p hp => pm.mem_iff.mp ((List.mergeSort_perm L1 _).mem_iff.mp (hL2 ▸ hp))
          have rr : RVs G.K mu H (sortD (rows.map (·.1))) (L2.map fun p => V.ref p.1) := by
            rw [← hsort]
            refine rvs_rows fun p hp => ?_
            obtain ⟨r, hr, rfl⟩ := hmem p (m2 p hp)
            show RV G.K mu H (dK (kD r.1)) (.ref r.2.1)
            rw [(dK_kD _ (kk _ (List.mem_map.mpr ⟨r, hr, rfl⟩))).1]
            exact rvAt r hr
          have I3 : Inv X pins σ H { s with heap := hm, toks := s.toks } := I.kept km
          have hnp : H p = none := I3.hok.fresh hz
          have hlen2 : (L2.map fun p => V.ref p.1).length ≤ sizeLine := by
            have h3 := congrArg List.length hsort
            rw [List.length_map] at h3
            rw [List.length_map, h3]
            exact Nat.le_trans (sortD_len _) c.len
          obtain ⟨h3, g3, d3, t3, o3⟩ := s'
          have eg : g3 = s.gens := g1
          have eo : o3 = s.os := o1
          subst eg eo
          have J := I3.call (h' := h3) (g' := s.gens) (t' := t3) (d' := d3) (ch := []) (Un.laid k1 hz hnp) (I3.hok.laid k1 hz (o := .lst (L2.map fun p => V.ref p.1)) ⟨hlen2, _, c', vals_rows L2, hc⟩) I3.bare (fun _ z => nomatch z)
          exact ⟨.ref p, _, J, rfl, new_list m (Step.refl _ _) R rr hQ hnp⟩
      · exact h.elim
    · exact h.elim
  boot := by decide +kernel
  kind := .inl ⟨_, rfl⟩
  nm := by decide +kernel
end Mi
/-! Rn: bundles with a run: what an expression, a statement, a def computes, as a Lean function. -/
namespace Mi
open PySem PySem.Spec PyProof.Rows L2

/-- what a run ends with -/
inductive R (α : Type) where
  | ok (a : α) (st : Sto)
  | ex (x : DX) (st : Sto)
  | no
/-- what comes behind: as an instance, so that simp does not look into it -/
class Kn (α β : Type) where
  f : α → Sto → R β
class KX (α : Type) where
  q : α → Sto → Prop
  e : QX
namespace R
variable {α β : Type}
def bindI (r : R α) [k : Kn α β] : R β := match r with
  | .ok a st => k.f a st
  | .ex x st => .ex x st
  | .no => .no
def bind (r : R α) (f : α → Sto → R β) : R β := @bindI α β r ⟨f⟩
def satI (r : R α) [k : KX α] : Prop := match r with
  | .ok a st => k.q a st
  | .ex x st => k.e x st
  | .no => False
def sat (r : R α) (Q : α → Sto → Prop) (E : QX) : Prop := @satI α r ⟨Q, E⟩
def lift (o : Option (α × Sto)) : R α := match o with
  | some p => .ok p.1 p.2
  | none => .no
def opt (o : Option α) (st : Sto) : R α := match o with
  | some a => .ok a st
  | none => .no
/-- nothing may be raised here -/
def calm (r : R α) : R α := match r with
  | .ok a st => .ok a st
  | _ => .no
/-- only if b -/
def when (b : Bool) (r : R α) : R α := match b with
  | true => r
  | false => .no
@[simp] theorem bind_ok {a : α} {st : Sto} {f : α → Sto → R β} : (R.ok a st).bind f = f a st := (rfl)
@[simp] theorem bind_ex {x : DX} {st : Sto} {f : α → Sto → R β} : (R.ex x st : R α).bind f = .ex x st := (rfl)
@[simp] theorem bind_no {f : α → Sto → R β} : (R.no : R α).bind f = .no := (rfl)
@[simp] theorem sat_ok {a : α} {st : Sto} {Q : α → Sto → Prop} {E : QX} : (R.ok a st).sat Q E = Q a st := (rfl)
@[simp] theorem sat_ex {x : DX} {st : Sto} {Q : α → Sto → Prop} {E : QX} : (R.ex x st : R α).sat Q E = E x st := (rfl)
@[simp] theorem sat_no {Q : α → Sto → Prop} {E : QX} : (R.no : R α).sat Q E = False := (rfl)
@[simp] theorem lift_some {p : α × Sto} : R.lift (some p) = .ok p.1 p.2 := (rfl)
@[simp] theorem lift_none : R.lift (none : Option (α × Sto)) = .no := (rfl)
@[simp] theorem opt_some {a : α} {st : Sto} : R.opt (some a) st = .ok a st := (rfl)
@[simp] theorem opt_none {st : Sto} : R.opt (none : Option α) st = .no := (rfl)
@[simp] theorem calm_ok {a : α} {st : Sto} : (R.ok a st).calm = .ok a st := (rfl)
@[simp] theorem calm_ex {x : DX} {st : Sto} : (R.ex x st : R α).calm = .no := (rfl)
@[simp] theorem calm_no : (R.no : R α).calm = .no := (rfl)
@[simp] theorem when_t {r : R α} : R.when true r = r := (rfl)
@[simp] theorem when_f {r : R α} : R.when false r = .no := (rfl)
theorem sat_bind {r : R α} {f : α → Sto → R β} {Q : β → Sto → Prop} {E : QX} : (r.bind f).sat Q E = r.sat (fun a st => (f a st).sat Q E) E := by cases r <;> rfl
theorem sat_calm {r : R α} {Q : α → Sto → Prop} {E : QX} : r.calm.sat Q E = r.sat Q (fun _ _ => False) := by cases r <;> rfl
theorem sat_when {b : Bool} {r : R α} {Q : α → Sto → Prop} {E : QX} : (R.when b r).sat Q E = (b = true ∧ r.sat Q E) := by cases b <;> simp [R.when]
theorem sat_mono {r : R α} {Q Q' : α → Sto → Prop} {E E' : QX} (h : r.sat Q E) (f : ∀ a st, Q a st → Q' a st) (g : ∀ x st, E x st → E' x st) : r.sat Q' E' := by
  cases r with
  | ok a st => exact f _ _ h
  | ex x st => exact g _ _ h
  | no => exact h
theorem sat_lift {o : Option (α × Sto)} {Q : α → Sto → Prop} {E : QX} (h : (R.lift o).sat Q E) : ∃ a st, o = some (a, st) ∧ Q a st := by
  cases o with
  | none => exact h.elim
  | some p => exact ⟨p.1, p.2, rfl, h⟩
theorem sat_opt {o : Option α} {st : Sto} {Q : α → Sto → Prop} {E : QX} (h : (R.opt o st).sat Q E) : ∃ a, o = some a ∧ Q a st := by
  cases o with
  | none => exact h.elim
  | some p => exact ⟨p, rfl, h⟩
/-- a run with one end -/
theorem eq_of_sat {r : R α} {a : α} {st : Sto} (h : r.sat (fun b t => b = a ∧ t = st) fun _ _ => False) : r = .ok a st := by
  cases r with
  | ok b t => rw [h.1, h.2]
  | ex x t => exact h.elim
  | no => exact h.elim
end R

/-! ### growing -/
def O.els : O → List D
  | .lst ds => ds
  | .dic ks vs => ks ++ vs
/-- the store goes on: objects of before hold what they held, or what refers to earlier objects alone -/
def Gr (st st' : Sto) : Prop := st.length ≤ st'.length ∧ ∀ (i : Nat) (o' : O), i < st.length → st'[i]? = some o' → ∃ o, st[i]? = some o ∧ ∀ d ∈ o'.els, d ∈ o.els ∨ noRef i d = true
theorem Gr.refl (st : Sto) : Gr st st := ⟨Nat.le_refl _, fun _ o _ h => ⟨o, h, fun _ hd => .inl hd⟩⟩
theorem Gr.trans {a b c : Sto} (h : Gr a b) (k : Gr b c) : Gr a c := ⟨Nat.le_trans h.1 k.1, fun i o hi e => by
  obtain ⟨o1, e1, h1⟩ := k.2 i o (Nat.lt_of_lt_of_le hi h.1) e
  obtain ⟨o2, e2, h2⟩ := h.2 i o1 hi e1
  exact ⟨o2, e2, fun d hd => (h1 d hd).elim (fun z => h2 d z) .inr⟩⟩
theorem Gr.push (st : Sto) (x : List O) : Gr st (st ++ x) := ⟨by simp, fun i o hi e => ⟨o, by rwa [List.getElem?_append_left hi] at e, fun _ hd => .inl hd⟩⟩
theorem Gr.set {st : Sto} {n : Nat} {o o' : O} (e : st[n]? = some o) (h : ∀ d ∈ o'.els, d ∈ o.els ∨ noRef n d = true) : Gr st (st.set n o') := ⟨by simp, fun i p hi q => by
  by_cases z : n = i
  · subst z
    rw [List.getElem?_set_self hi] at q
    cases q
    exact ⟨o, e, h⟩
  · rw [List.getElem?_set_ne z] at q
    exact ⟨p, q, fun _ hd => .inl hd⟩⟩
mutual
theorem noRef_le {a b : Nat} (h : a ≤ b) : ∀ d : D, noRef a d = true → noRef b d = true
  | .non, _ => by simp [noRef]
  | .bl _, _ => by simp [noRef]
  | .int _, _ => by simp [noRef]
  | .str _, _ => by simp [noRef]
  | .tup ds, q => by rw [noRef] at q ⊢; exact noRefs_le h ds q
  | .lst ds, q => by rw [noRef] at q ⊢; exact noRefs_le h ds q
  | .rol ds, q => by rw [noRef] at q ⊢; exact noRefs_le h ds q
  | .dic ks vs, q => by
    rw [noRef, Bool.and_eq_true] at q ⊢
    exact ⟨noRefs_le h ks q.1, noRefs_le h vs q.2⟩
  | .ref m, q => by
    rw [noRef, decide_eq_true_eq] at q ⊢
    omega
theorem noRefs_le {a b : Nat} (h : a ≤ b) : ∀ ds : List D, noRefs a ds = true → noRefs b ds = true
  | [], _ => by rw [noRefs]
  | d :: r, q => by
    rw [noRefs, Bool.and_eq_true] at q ⊢
    exact ⟨noRef_le h d q.1, noRefs_le h r q.2⟩
end
theorem noRefs_all {n : Nat} : ∀ {ds : List D}, noRefs n ds = true ↔ ∀ d ∈ ds, noRef n d = true
  | [] => by simp [noRefs]
  | d :: r => by rw [noRefs, Bool.and_eq_true, noRefs_all]; simp
theorem noRefO_els {n : Nat} {o : O} : noRefO n o = true ↔ ∀ d ∈ o.els, noRef n d = true := by
  cases o with
  | lst ds => exact noRefs_all
  | dic ks vs =>
    simp only [noRefO, Bool.and_eq_true, noRefs_all, O.els, List.mem_append]
    exact ⟨fun h d hd => hd.elim (h.1 d) (h.2 d), fun h => ⟨fun d hd => h d (.inl hd), fun d hd => h d (.inr hd)⟩⟩
/-- a store whose objects refer to its objects alone -/
def ClS (st : Sto) : Prop := ∀ (i : Nat) (o : O), st[i]? = some o → noRefO st.length o = true
theorem Gr.closed {st st' : Sto} (h : Gr st st') (c : ClS st) : closedTo st (st'.take st.length) := fun i o e => by
  rw [List.getElem?_take] at e
  split at e
  · rename_i hi
    obtain ⟨o1, e1, h1⟩ := h.2 i o hi e
    exact .inr (noRefO_els.mpr fun d hd => (h1 d hd).elim (fun z => noRefO_els.mp (c i o1 e1) d z) fun z => noRef_le (Nat.le_of_lt hi) d z)
  · cases e
def R.gr {α : Type} (r : R α) (st : Sto) : Prop := match r with
  | .ok _ st' => Gr st st'
  | .ex _ st' => Gr st st'
  | .no => True
theorem gr_ok {α : Type} {a : α} {st : Sto} : (R.ok a st).gr st := Gr.refl st
theorem gr_no {α : Type} {st : Sto} : (R.no : R α).gr st := trivial
theorem gr_bind {α β : Type} {r : R α} {f : α → Sto → R β} {st : Sto} (h : r.gr st) (k : ∀ a st1, (f a st1).gr st1) : (r.bind f).gr st := by
  cases r with
  | ok a st1 =>
    have := k a st1
    show (f a st1).gr st
    cases e : f a st1 with
    | ok b t => rw [e] at this; exact Gr.trans h this
    | ex b t => rw [e] at this; exact Gr.trans h this
    | no => trivial
  | ex x st1 => exact h
  | no => trivial
theorem gr_calm {α : Type} {r : R α} {st : Sto} (h : r.gr st) : r.calm.gr st := by
  cases r with
  | ok a t => exact h
  | ex x t => trivial
  | no => trivial
theorem gr_when {α : Type} {b : Bool} {r : R α} {st : Sto} (h : r.gr st) : (R.when b r).gr st := by
  cases b with
  | true => exact h
  | false => trivial
theorem gr_opt {α : Type} {o : Option α} {st : Sto} : (R.opt o st).gr st := by
  cases o with
  | some a => exact Gr.refl st
  | none => trivial
def newR (m : Bool) (ds : List D) (st : Sto) : R D := match m with
  | true => .ok (.ref st.length) (st ++ [.lst ds])
  | false => .ok (.lst ds) st
theorem gr_new {m : Bool} {ds : List D} {st : Sto} : (newR m ds st).gr st := by
  cases m with
  | true => exact Gr.push st _
  | false => exact Gr.refl st
theorem sat_new {m : Bool} {ds : List D} {st : Sto} {Q : QD} {E : QX} (h : (newR m ds st).sat Q E) : newL m ds st Q := by
  cases m <;> exact h
@[simp] theorem newR_t {ds : List D} {st : Sto} : newR true ds st = .ok (.ref st.length) (st ++ [.lst ds]) := (rfl)
@[simp] theorem newR_f {ds : List D} {st : Sto} : newR false ds st = .ok (.lst ds) st := (rfl)

/-! ### expressions -/
structure RE where
  s : SemE
  ev : Env → Sto → R D
  ok : ∀ en st Q E, (ev en st).sat Q E → s.wp en st Q E
  gr : ∀ en st, (ev en st).gr st
structure RT where
  s : SemT
  ev : Env → Sto → R Bool
  ok : ∀ en st Q E, (ev en st).sat Q E → s.wp en st Q E
  gr : ∀ en st, (ev en st).gr st
/-- an operator; it makes nothing but values and new lists, raises nothing -/
structure RO2 (f : Value → Value → Sem Value) where
  s : OpD f
  ev : D → D → Sto → R D
  ok : ∀ x y st Q E, (ev x y st).sat Q E → s.wp x y st Q
  gr : ∀ x y st, (ev x y st).gr st
/-- a built-in -/
structure RBi where
  s : BIn
  ev : List D → Sto → R D
  ok : ∀ ds st Q E, (ev ds st).sat Q E → s.wp ds st Q
  gr : ∀ ds st, (ev ds st).gr st

def rVar (i : Nat) : RE where
  s := eVar i
  ev en st := match en[i]? with | some (some d) => .ok d st | _ => .no
  ok en st Q E h := by
    rw [w_var]
    split at h
    · rename_i e; first | exact h | (rw [e]; exact h)
    · exact h.elim
  gr en st := by split <;> first | exact gr_ok | exact gr_no
def rInt (i : Int) : RE := ⟨eInt i, fun _ st => .ok (.int i) st, fun _ _ _ _ h => h, fun _ _ => gr_ok⟩
def rBl (i : Bool) : RE := ⟨eBl i, fun _ st => .ok (.bl i) st, fun _ _ _ _ h => h, fun _ _ => gr_ok⟩
def rStr (i : Str) : RE := ⟨eStr i, fun _ st => .ok (.str i) st, fun _ _ _ _ h => h, fun _ _ => gr_ok⟩
def rNone : RE := ⟨eNone, fun _ st => .ok .non st, fun _ _ _ _ h => h, fun _ _ => gr_ok⟩
def rBin (op : Operator) (o : RO2 (binaryOp op)) (a b : RE) : RE where
  s := eBin op o.s a.s b.s
  ev en st := (a.ev en st).bind fun x st1 => (b.ev en st1).bind fun y st2 => o.ev x y st2
  ok en st Q E h := by
    rw [w_bin]
    rw [R.sat_bind] at h
    refine a.s.mono _ _ _ _ _ _ (a.ok _ _ _ _ h) (fun x s hx => ?_) fun _ _ h => h
    rw [R.sat_bind] at hx
    exact b.s.mono _ _ _ _ _ _ (b.ok _ _ _ _ hx) (fun y s hy => o.ok _ _ _ _ _ hy) fun _ _ h => h
  gr en st := gr_bind (a.gr _ _) fun _ _ => gr_bind (b.gr _ _) fun _ _ => o.gr _ _ _
def rCmp (op : CmpOp) (o : RO2 (compareOp op)) (a b : RE) : RE where
  s := eCmp op o.s a.s b.s
  ev en st := (a.ev en st).bind fun x st1 => (b.ev en st1).bind fun y st2 => o.ev x y st2
  ok en st Q E h := by
    rw [w_cmp]
    rw [R.sat_bind] at h
    refine a.s.mono _ _ _ _ _ _ (a.ok _ _ _ _ h) (fun x s hx => ?_) fun _ _ h => h
    rw [R.sat_bind] at hx
    exact b.s.mono _ _ _ _ _ _ (b.ok _ _ _ _ hx) (fun y s hy => o.ok _ _ _ _ _ hy) fun _ _ h => h
  gr en st := gr_bind (a.gr _ _) fun _ _ => gr_bind (b.gr _ _) fun _ _ => o.gr _ _ _
def asBl (d : D) (st : Sto) : R Bool := match d with
  | .bl b => .ok b st
  | _ => .no
theorem gr_asBl {d : D} {st : Sto} : (asBl d st).gr st := by cases d <;> first | exact gr_ok | exact gr_no
theorem sat_asBl {d : D} {st : Sto} {Q : Bool → Sto → Prop} {E : QX} (h : (asBl d st).sat Q E) : ∃ b, d = .bl b ∧ Q b st := by
  cases d with
  | bl b => exact ⟨b, rfl, h⟩
  | _ => exact h.elim
@[simp] theorem asBl_bl {b : Bool} {st : Sto} : asBl (.bl b) st = .ok b st := (rfl)
def rNot (a : RE) : RE where
  s := eNot a.s
  ev en st := (a.ev en st).bind fun x st1 => (asBl x st1).bind fun b st2 => .ok (.bl (!b)) st2
  ok en st Q E h := by
    rw [w_not]
    rw [R.sat_bind] at h
    refine a.s.mono _ _ _ _ _ _ (a.ok _ _ _ _ h) (fun x s hx => ?_) fun _ _ h => h
    rw [R.sat_bind] at hx
    obtain ⟨b, rfl, hb⟩ := sat_asBl hx
    exact hb
  gr en st := gr_bind (a.gr _ _) fun _ _ => gr_bind gr_asBl fun _ _ => gr_ok
def evAnd : List RE → Env → Sto → R D
  | [], _, _ => .no
  | [a], en, st => a.ev en st
  | a :: r, en, st => (a.ev en st).bind fun x st1 => (asBl x st1).bind fun b st2 => match b with | true => evAnd r en st2 | false => .ok (.bl false) st2
def evOr : List RE → Env → Sto → R D
  | [], _, _ => .no
  | [a], en, st => a.ev en st
  | a :: r, en, st => (a.ev en st).bind fun x st1 => (asBl x st1).bind fun b st2 => match b with | true => .ok (.bl true) st2 | false => evOr r en st2
theorem evAnd_ok : ∀ (l : List RE) (en : Env) (st : Sto) (Q : QD) (E : QX), (evAnd l en st).sat Q E → wpAndL (l.map RE.s) en st Q E
  | [], _, _, _, _, h => h
  | [a], _, _, _, _, h => a.ok _ _ _ _ h
  | a :: b :: r, en, st, Q, E, h => by
    rw [evAnd, R.sat_bind] at h
    refine a.s.mono _ _ _ _ _ _ (a.ok _ _ _ _ h) (fun x s hx => ?_) fun _ _ h => h
    rw [R.sat_bind] at hx
    obtain ⟨c, rfl, hb⟩ := sat_asBl hx
    cases c with
    | true => exact evAnd_ok (b :: r) _ _ _ _ hb
    | false => exact hb
    all_goals (intros; contradiction)
theorem evOr_ok : ∀ (l : List RE) (en : Env) (st : Sto) (Q : QD) (E : QX), (evOr l en st).sat Q E → wpOrL (l.map RE.s) en st Q E
  | [], _, _, _, _, h => h
  | [a], _, _, _, _, h => a.ok _ _ _ _ h
  | a :: b :: r, en, st, Q, E, h => by
    rw [evOr, R.sat_bind] at h
    refine a.s.mono _ _ _ _ _ _ (a.ok _ _ _ _ h) (fun x s hx => ?_) fun _ _ h => h
    rw [R.sat_bind] at hx
    obtain ⟨c, rfl, hb⟩ := sat_asBl hx
    cases c with
    | true => exact hb
    | false => exact evOr_ok (b :: r) _ _ _ _ hb
    all_goals (intros; contradiction)
theorem evAnd_gr : ∀ (l : List RE) (en : Env) (st : Sto), (evAnd l en st).gr st
  | [], _, _ => trivial
  | [a], _, _ => a.gr _ _
  | a :: b :: r, en, st => by
    rw [evAnd]
    · refine gr_bind (a.gr _ _) fun _ _ => gr_bind gr_asBl fun c _ => ?_
      cases c with
      | true => exact evAnd_gr (b :: r) _ _
      | false => exact gr_ok
    all_goals (intros; contradiction)
theorem evOr_gr : ∀ (l : List RE) (en : Env) (st : Sto), (evOr l en st).gr st
  | [], _, _ => trivial
  | [a], _, _ => a.gr _ _
  | a :: b :: r, en, st => by
    rw [evOr]
    · refine gr_bind (a.gr _ _) fun _ _ => gr_bind gr_asBl fun c _ => ?_
      cases c with
      | true => exact gr_ok
      | false => exact evOr_gr (b :: r) _ _
    all_goals (intros; contradiction)
theorem map_ne {α β : Type} {f : α → β} {l : List α} (h : l ≠ []) : l.map f ≠ [] := fun z => h (List.map_eq_nil_iff.mp z)
def rAnd (l : List RE) (hl : l ≠ [] := by simp) : RE := ⟨eAnd (l.map RE.s) (map_ne hl), evAnd l, evAnd_ok l, evAnd_gr l⟩
def rOr (l : List RE) (hl : l ≠ [] := by simp) : RE := ⟨eOr (l.map RE.s) (map_ne hl), evOr l, evOr_ok l, evOr_gr l⟩
def rNeg (a : RE) : RE where
  s := eNeg a.s
  ev en st := (a.ev en st).bind fun x st1 => match x with | .int i => .ok (.int (-i)) st1 | _ => .no
  ok en st Q E h := by
    rw [w_neg]
    rw [R.sat_bind] at h
    refine a.s.mono _ _ _ _ _ _ (a.ok _ _ _ _ h) (fun x s hx => ?_) fun _ _ h => h
    cases x <;> exact hx
  gr en st := gr_bind (a.gr _ _) fun x _ => by cases x <;> first | exact gr_ok | exact gr_no
/-! ### tests -/
def tV' (a : RE) : RT where
  s := tV a.s
  ev en st := (a.ev en st).bind fun x st1 => asBl x st1
  ok en st Q E h := by
    rw [w_tV]
    rw [R.sat_bind] at h
    refine a.s.mono _ _ _ _ _ _ (a.ok _ _ _ _ h) (fun x s hx => ?_) fun _ _ h => h
    obtain ⟨b, rfl, hb⟩ := sat_asBl hx
    exact hb
  gr en st := gr_bind (a.gr _ _) fun _ _ => gr_asBl
def qCm (op : CmpOp) (o : RO2 (compareOp op)) (a b : RE) : RT where
  s := tCm op o.s a.s b.s
  ev en st := (a.ev en st).bind fun x st1 => (b.ev en st1).bind fun y st2 => (o.ev x y st2).bind fun r st3 => asBl r st3
  ok en st Q E h := by
    rw [w_tCm]
    rw [R.sat_bind] at h
    refine a.s.mono _ _ _ _ _ _ (a.ok _ _ _ _ h) (fun x s hx => ?_) fun _ _ h => h
    rw [R.sat_bind] at hx
    refine b.s.mono _ _ _ _ _ _ (b.ok _ _ _ _ hx) (fun y s hy => ?_) fun _ _ h => h
    rw [R.sat_bind] at hy
    refine o.s.mono _ _ _ _ _ (o.ok _ _ _ _ _ hy) fun r s hr => ?_
    obtain ⟨b, rfl, hb⟩ := sat_asBl hr
    exact hb
  gr en st := gr_bind (a.gr _ _) fun _ _ => gr_bind (b.gr _ _) fun _ _ => gr_bind (o.gr _ _ _) fun _ _ => gr_asBl
def qCh (op op' : CmpOp) (o : RO2 (compareOp op)) (o' : RO2 (compareOp op')) (a b c : RE) : RT where
  s := tCh op op' o.s o'.s a.s b.s c.s
  ev en st := (a.ev en st).bind fun x st1 => (b.ev en st1).bind fun y st2 => (o.ev x y st2).bind fun r st3 => (asBl r st3).bind fun r st3 => match r with
    | true => (c.ev en st3).bind fun z st4 => (o'.ev y z st4).bind fun r st5 => asBl r st5
    | false => .ok false st3
  ok en st Q E h := by
    rw [w_tCh]
    rw [R.sat_bind] at h
    refine a.s.mono _ _ _ _ _ _ (a.ok _ _ _ _ h) (fun x s hx => ?_) fun _ _ h => h
    rw [R.sat_bind] at hx
    refine b.s.mono _ _ _ _ _ _ (b.ok _ _ _ _ hx) (fun y s hy => ?_) fun _ _ h => h
    rw [R.sat_bind] at hy
    refine o.s.mono _ _ _ _ _ (o.ok _ _ _ _ _ hy) fun r s hr => ?_
    rw [R.sat_bind] at hr
    obtain ⟨b, rfl, hb⟩ := sat_asBl hr
    cases b with
    | false => exact hb
    | true =>
      dsimp only at hb ⊢
      rw [R.sat_bind] at hb
      refine c.s.mono _ _ _ _ _ _ (c.ok _ _ _ _ hb) (fun z s hz => ?_) fun _ _ h => h
      rw [R.sat_bind] at hz
      refine o'.s.mono _ _ _ _ _ (o'.ok _ _ _ _ _ hz) fun r s hr => ?_
      obtain ⟨b, rfl, hb⟩ := sat_asBl hr
      exact hb
  gr en st := gr_bind (a.gr _ _) fun _ _ => gr_bind (b.gr _ _) fun _ _ => gr_bind (o.gr _ _ _) fun _ _ => gr_bind gr_asBl fun r _ => by
    cases r with
    | true => exact gr_bind (c.gr _ _) fun _ _ => gr_bind (o'.gr _ _ _) fun _ _ => gr_asBl
    | false => exact gr_ok
/-- a op b op' c, as a value -/
def rChain (op op' : CmpOp) (o : RO2 (compareOp op)) (o' : RO2 (compareOp op')) (a b c : RE) : RE where
  s := eChain op op' o.s o'.s a.s b.s c.s
  ev en st := (a.ev en st).bind fun x st1 => (b.ev en st1).bind fun y st2 => (o.ev x y st2).bind fun r st3 => (asBl r st3).bind fun r st3 => match r with
    | true => (c.ev en st3).bind fun z st4 => o'.ev y z st4
    | false => .ok (.bl false) st3
  ok en st Q E h := by
    show a.s.wp _ _ _ _
    rw [R.sat_bind] at h
    refine a.s.mono _ _ _ _ _ _ (a.ok _ _ _ _ h) (fun x s hx => ?_) fun _ _ h => h
    rw [R.sat_bind] at hx
    refine b.s.mono _ _ _ _ _ _ (b.ok _ _ _ _ hx) (fun y s hy => ?_) fun _ _ h => h
    rw [R.sat_bind] at hy
    refine o.s.mono _ _ _ _ _ (o.ok _ _ _ _ _ hy) fun r s hr => ?_
    rw [R.sat_bind] at hr
    obtain ⟨b, rfl, hb⟩ := sat_asBl hr
    cases b with
    | false => exact hb
    | true =>
      dsimp only at hb ⊢
      rw [R.sat_bind] at hb
      refine c.s.mono _ _ _ _ _ _ (c.ok _ _ _ _ hb) (fun z s hz => ?_) fun _ _ h => h
      exact o'.ok _ _ _ _ _ hz
  gr en st := gr_bind (a.gr _ _) fun _ _ => gr_bind (b.gr _ _) fun _ _ => gr_bind (o.gr _ _ _) fun _ _ => gr_bind gr_asBl fun r _ => by
    cases r with
    | true => exact gr_bind (c.gr _ _) fun _ _ => o'.gr _ _ _
    | false => exact gr_ok
def qNo (a : RT) : RT where
  s := tNo a.s
  ev en st := (a.ev en st).bind fun b st1 => .ok (!b) st1
  ok en st Q E h := by
    rw [w_tNo]
    rw [R.sat_bind] at h
    exact a.ok _ _ _ _ h
  gr en st := gr_bind (a.gr _ _) fun _ _ => gr_ok
def evTAnd : List RT → Env → Sto → R Bool
  | [], _, _ => .no
  | [a], en, st => a.ev en st
  | a :: r, en, st => (a.ev en st).bind fun b st2 => match b with | true => evTAnd r en st2 | false => .ok false st2
def evTOr : List RT → Env → Sto → R Bool
  | [], _, _ => .no
  | [a], en, st => a.ev en st
  | a :: r, en, st => (a.ev en st).bind fun b st2 => match b with | true => .ok true st2 | false => evTOr r en st2
theorem evTAnd_ok : ∀ (l : List RT) (en : Env) (st : Sto) (Q : Bool → Sto → Prop) (E : QX), (evTAnd l en st).sat Q E → twpAnd (l.map RT.s) en st Q E
  | [], _, _, _, _, h => h
  | [a], _, _, _, _, h => a.ok _ _ _ _ h
  | a :: b :: r, en, st, Q, E, h => by
    rw [evTAnd, R.sat_bind] at h
    show twpAnd (a.s :: b.s :: r.map RT.s) en st Q E
    rw [w_And2]
    refine a.s.mono _ _ _ _ _ _ (a.ok _ _ _ _ h) (fun c s hx => ?_) fun _ _ h => h
    cases c with
    | true => exact evTAnd_ok (b :: r) _ _ _ _ hx
    | false => exact hx
    all_goals (intros; contradiction)
theorem evTOr_ok : ∀ (l : List RT) (en : Env) (st : Sto) (Q : Bool → Sto → Prop) (E : QX), (evTOr l en st).sat Q E → twpOr (l.map RT.s) en st Q E
  | [], _, _, _, _, h => h
  | [a], _, _, _, _, h => a.ok _ _ _ _ h
  | a :: b :: r, en, st, Q, E, h => by
    rw [evTOr, R.sat_bind] at h
    show twpOr (a.s :: b.s :: r.map RT.s) en st Q E
    rw [w_Or2]
    refine a.s.mono _ _ _ _ _ _ (a.ok _ _ _ _ h) (fun c s hx => ?_) fun _ _ h => h
    cases c with
    | true => exact hx
    | false => exact evTOr_ok (b :: r) _ _ _ _ hx
    all_goals (intros; contradiction)
theorem evTAnd_gr : ∀ (l : List RT) (en : Env) (st : Sto), (evTAnd l en st).gr st
  | [], _, _ => trivial
  | [a], _, _ => a.gr _ _
  | a :: b :: r, en, st => by
    rw [evTAnd]
    · refine gr_bind (a.gr _ _) fun c _ => ?_
      cases c with
      | true => exact evTAnd_gr (b :: r) _ _
      | false => exact gr_ok
    all_goals (intros; contradiction)
theorem evTOr_gr : ∀ (l : List RT) (en : Env) (st : Sto), (evTOr l en st).gr st
  | [], _, _ => trivial
  | [a], _, _ => a.gr _ _
  | a :: b :: r, en, st => by
    rw [evTOr]
    · refine gr_bind (a.gr _ _) fun c _ => ?_
      cases c with
      | true => exact gr_ok
      | false => exact evTOr_gr (b :: r) _ _
    all_goals (intros; contradiction)
def qAn (l : List RT) (hl : l ≠ [] := by simp) : RT := ⟨tAn (l.map RT.s) (map_ne hl), evTAnd l, evTAnd_ok l, evTAnd_gr l⟩
def qOr (l : List RT) (hl : l ≠ [] := by simp) : RT := ⟨tOr' (l.map RT.s) (map_ne hl), evTOr l, evTOr_ok l, evTOr_gr l⟩
def rIf (t : RT) (a b : RE) : RE where
  s := eIf t.s a.s b.s
  ev en st := (t.ev en st).bind fun c st1 => match c with | true => a.ev en st1 | false => b.ev en st1
  ok en st Q E h := by
    rw [w_if]
    rw [R.sat_bind] at h
    refine t.s.mono _ _ _ _ _ _ (t.ok _ _ _ _ h) (fun c s hc => ?_) fun _ _ h => h
    cases c with
    | true => exact a.ok _ _ _ _ hc
    | false => exact b.ok _ _ _ _ hc
  gr en st := gr_bind (t.gr _ _) fun c _ => by
    cases c with
    | true => exact a.gr _ _
    | false => exact b.gr _ _
/-! ### arguments -/
def evA : List RE → Env → Sto → R (List D)
  | [], _, st => .ok [] st
  | a :: r, en, st => (a.ev en st).bind fun x st1 => (evA r en st1).bind fun xs st2 => .ok (x :: xs) st2
theorem evA_ok : ∀ (l : List RE) (en : Env) (st : Sto) (Q : QL) (E : QX), (evA l en st).sat Q E → wpA (l.map RE.s) en st Q E
  | [], _, _, _, _, h => h
  | a :: r, en, st, Q, E, h => by
    rw [evA, R.sat_bind] at h
    show a.s.wp en st (fun x st1 => wpA (r.map RE.s) en st1 _ E) E
    refine a.s.mono _ _ _ _ _ _ (a.ok _ _ _ _ h) (fun x s hx => ?_) fun _ _ h => h
    rw [R.sat_bind] at hx
    exact evA_ok r _ _ _ _ hx
theorem evA_gr : ∀ (l : List RE) (en : Env) (st : Sto), (evA l en st).gr st
  | [], _, _ => gr_ok
  | a :: r, en, st => gr_bind (a.gr _ _) fun _ _ => gr_bind (evA_gr r _ _) fun _ _ => gr_ok
def szB (n : Nat) : Bool := decide (n ≤ sizeLine)
def rTup (l : List RE) : RE where
  s := eTup (l.map RE.s)
  ev en st := (evA l en st).bind fun ds st1 => R.when (szB ds.length) (.ok (.tup ds) st1)
  ok en st Q E h := by
    rw [w_tup]
    rw [R.sat_bind] at h
    refine wpA_mono _ _ _ _ _ _ _ (evA_ok _ _ _ _ _ h) (fun ds s hd => ?_) fun _ _ h => h
    rw [R.sat_when] at hd
    exact ⟨of_decide_eq_true hd.1, hd.2⟩
  gr en st := gr_bind (evA_gr _ _ _) fun _ _ => gr_when gr_ok
def rList (m : Bool) (l : List RE) : RE where
  s := eList m (l.map RE.s)
  ev en st := (evA l en st).bind fun ds st1 => R.when (szB ds.length) (newR m ds st1)
  ok en st Q E h := by
    rw [w_list]
    rw [R.sat_bind] at h
    refine wpA_mono _ _ _ _ _ _ _ (evA_ok _ _ _ _ _ h) (fun ds s hd => ?_) fun _ _ h => h
    rw [R.sat_when] at hd
    exact ⟨of_decide_eq_true hd.1, sat_new hd.2⟩
  gr en st := gr_bind (evA_gr _ _ _) fun _ _ => gr_when gr_new
/-! ### indices, slices -/
def strOkIx (x : D) : Bool := match x with
  | .str z => szB z.length
  | _ => true
def rIx (a b : RE) : RE where
  s := eIx a.s b.s
  ev en st := (a.ev en st).bind fun x st1 => (b.ev en st1).bind fun y st2 => R.when (strOkIx x) (R.opt (ixD st2 x y) st2)
  ok en st Q E h := by
    rw [w_ix]
    rw [R.sat_bind] at h
    refine a.s.mono _ _ _ _ _ _ (a.ok _ _ _ _ h) (fun x s hx => ?_) fun _ _ h => h
    rw [R.sat_bind] at hx
    refine b.s.mono _ _ _ _ _ _ (b.ok _ _ _ _ hx) (fun y s hy => ?_) fun _ _ h => h
    rw [R.sat_when] at hy
    obtain ⟨d, e, q⟩ := R.sat_opt hy.2
    refine ⟨fun z ez => ?_, by rw [e]; exact q⟩
    subst ez
    exact of_decide_eq_true hy.1
  gr en st := gr_bind (a.gr _ _) fun _ _ => gr_bind (b.gr _ _) fun _ _ => gr_when gr_opt
def evO (a : Option RE) (en : Env) (st : Sto) : R (Option Int) := match a with
  | none => .ok none st
  | some a => (a.ev en st).bind fun x st1 => match x with | .int i => .ok (some i) st1 | _ => .no
theorem evO_ok (a : Option RE) (en : Env) (st : Sto) (Q : Option Int → Sto → Prop) (E : QX) (h : (evO a en st).sat Q E) : wpO (a.map RE.s) en st Q E := by
  cases a with
  | none => exact h
  | some a =>
    show a.s.wp _ _ _ _
    rw [evO, R.sat_bind] at h
    refine a.s.mono _ _ _ _ _ _ (a.ok _ _ _ _ h) (fun x s hx => ?_) fun _ _ h => h
    cases x <;> exact hx
theorem evO_gr (a : Option RE) (en : Env) (st : Sto) : (evO a en st).gr st := by
  cases a with
  | none => exact gr_ok
  | some a => exact gr_bind (a.gr _ _) fun x _ => by cases x <;> first | exact gr_ok | exact gr_no
def evSl (m : Bool) (x : D) (lo hi : Option Int) (st : Sto) : R D := match x with
  | .tup ds => .ok (.tup (cutD ds lo hi)) st
  | .rol ds => newR m (cutD ds lo hi) st
  | x => match lstOf st x with
    | some ds => newR m (cutD ds lo hi) st
    | none => .no
theorem evSl_ok {m : Bool} {x : D} {lo hi : Option Int} {st : Sto} {Q : QD} {E : QX} (h : (evSl m x lo hi st).sat Q E) : wpSl m x lo hi st Q := by
  have gen : ∀ o : Option (List D), (match o with | some ds => newR m (cutD ds lo hi) st | none => R.no).sat Q E → (match o with | some ds => newL m (cutD ds lo hi) st Q | none => False) := fun o h => by
    cases o with
    | some ds => exact sat_new h
    | none => exact h
  cases x <;> first | exact h | exact sat_new h | exact gen _ h
theorem evSl_gr {m : Bool} {x : D} {lo hi : Option Int} {st : Sto} : (evSl m x lo hi st).gr st := by
  unfold evSl
  split
  · exact gr_ok
  · exact gr_new
  · split
    · exact gr_new
    · exact gr_no
def rSl (m : Bool) (a : RE) (lo hi : Option RE) : RE where
  s := eSl m a.s (lo.map RE.s) (hi.map RE.s)
  ev en st := (a.ev en st).bind fun x st1 => (evO lo en st1).bind fun l st2 => (evO hi en st2).bind fun h st3 => evSl m x l h st3
  ok en st Q E h := by
    rw [w_sl]
    rw [R.sat_bind] at h
    refine a.s.mono _ _ _ _ _ _ (a.ok _ _ _ _ h) (fun x s hx => ?_) fun _ _ h => h
    rw [R.sat_bind] at hx
    refine wpO_mono (evO_ok _ _ _ _ _ hx) (fun y s hy => ?_) fun _ _ h => h
    rw [R.sat_bind] at hy
    refine wpO_mono (evO_ok _ _ _ _ _ hy) (fun z s hz => ?_) fun _ _ h => h
    exact evSl_ok hz
  gr en st := gr_bind (a.gr _ _) fun _ _ => gr_bind (evO_gr _ _ _) fun _ _ => gr_bind (evO_gr _ _ _) fun _ _ => evSl_gr
def evSeq {α : Type} (g : List D → Sto → R α) (o : Option (List D)) (st : Sto) : R α := match o with
  | some xs => g xs st
  | none => .no
@[simp] theorem evSeq_s {α : Type} {g : List D → Sto → R α} {xs : List D} {st : Sto} : evSeq g (some xs) st = g xs st := (rfl)
@[simp] theorem evSeq_n {α : Type} {g : List D → Sto → R α} {st : Sto} : evSeq g none st = .no := (rfl)
theorem evSeq_gr {α : Type} {g : List D → Sto → R α} {o : Option (List D)} {st : Sto} (h : ∀ xs, (g xs st).gr st) : (evSeq g o st).gr st := by
  cases o with
  | some xs => exact h xs
  | none => exact gr_no
theorem evSeq_sat {α : Type} {g : List D → Sto → R α} {o : Option (List D)} {st : Sto} {Q : α → Sto → Prop} {E : QX} (h : (evSeq g o st).sat Q E) : ∃ xs, o = some xs ∧ (g xs st).sat Q E := by
  cases o with
  | some xs => exact ⟨xs, rfl, h⟩
  | none => exact h.elim
def evRev (m : Bool) (x : D) (st : Sto) : R D := match x with
  | .tup ds => .ok (.tup ds.reverse) st
  | x => evSeq (fun ds st => newR m ds.reverse st) (lstOf st x) st
def wpRev (m : Bool) (x : D) (st : Sto) (Q : QD) : Prop := match x with
    | .tup ds => Q (.tup ds.reverse) st
    | d => (match lstOf st d with | some ds => newL m ds.reverse st Q | none => False)
theorem evRev_ok {m : Bool} {x : D} {st : Sto} {Q : QD} {E : QX} (h : (evRev m x st).sat Q E) : wpRev m x st Q := by
  have gen : ∀ o : Option (List D), (evSeq (fun ds st => newR m ds.reverse st) o st).sat Q E → (match o with | some ds => newL m ds.reverse st Q | none => False) := fun o h => by
    cases o with
    | some ds => exact sat_new h
    | none => exact h
  cases x <;> first | exact h | exact sat_new h | exact gen (lstOf st _) h
theorem evRev_gr {m : Bool} {x : D} {st : Sto} : (evRev m x st).gr st := by
  unfold evRev
  split
  · exact gr_ok
  · exact evSeq_gr fun _ => gr_new
def rRev (m : Bool) (a : RE) : RE where
  s := eRev m a.s
  ev en st := (a.ev en st).bind fun x st1 => evRev m x st1
  ok en st Q E h := by
    rw [w_rev]
    rw [R.sat_bind] at h
    exact a.s.mono _ _ _ _ _ _ (a.ok _ _ _ _ h) (fun x s hx => show wpRev m x s Q from evRev_ok hx) fun _ _ h => h
  gr en st := gr_bind (a.gr _ _) fun x _ => evRev_gr
def rB (f : RBi) (l : List RE) : RE where
  s := eB f.s (l.map RE.s)
  ev en st := (evA l en st).bind fun ds st1 => f.ev ds st1
  ok en st Q E h := by
    rw [w_B]
    rw [R.sat_bind] at h
    exact wpA_mono _ _ _ _ _ _ _ (evA_ok _ _ _ _ _ h) (fun ds s hd => f.ok _ _ _ _ hd) fun _ _ h => h
  gr en st := gr_bind (evA_gr _ _ _) fun _ _ => f.gr _ _
/-! ### defs as functions -/
structure FS where
  ar : Nat
  f : List D → Sto → R D
  gr : ∀ ds st, (f ds st).gr st
def FS.sp (F : FS) : SpecD where
  ar := F.ar
  run ds st Q E := (F.f ds st).sat Q E
  mono ds st Q Q' E E' h f g := R.sat_mono h f g
def rCall (name : Str) (F : FS) (df : List D) (l : List RE) : RE where
  s := eCall name F.sp df (l.map RE.s)
  ev en st := (evA l en st).bind fun ds st1 => R.when (decide (ds.length + df.length = F.ar)) (F.f (ds ++ df) st1)
  ok en st Q E h := by
    rw [w_call]
    rw [R.sat_bind] at h
    refine wpA_mono _ _ _ _ _ _ _ (evA_ok _ _ _ _ _ h) (fun ds s hd => ?_) fun _ _ h => h
    rw [R.sat_when] at hd
    exact ⟨of_decide_eq_true hd.1, hd.2⟩
  gr en st := gr_bind (evA_gr _ _ _) fun _ _ => gr_when (F.gr _ _)
end Mi
/-! RnB: operators, built-ins, what is walked, comprehensions. -/
namespace Mi
open PySem PySem.Spec PyProof.Rows L2

/-! ### operators -/
theorem wsz {α : Type} {n : Nat} {r : R α} {Q : α → Sto → Prop} {E : QX} (h : (R.when (szB n) r).sat Q E) : n ≤ sizeLine ∧ r.sat Q E := by
  rw [R.sat_when] at h
  exact ⟨of_decide_eq_true h.1, h.2⟩
def cat2 (m : Bool) (o p : Option (List D)) (st : Sto) : R D := match o, p with
  | some a, some b => R.when (szB (a.length + b.length)) (newR m (a ++ b) st)
  | _, _ => .no
theorem cat2_gr {m : Bool} {o p : Option (List D)} {st : Sto} : (cat2 m o p st).gr st := by
  cases o <;> cases p <;> first | exact gr_no | exact gr_when gr_new
theorem cat2_ok {m : Bool} {o p : Option (List D)} {st : Sto} {Q : QD} {E : QX} (h : (cat2 m o p st).sat Q E) : ∃ a b, o = some a ∧ p = some b ∧ a.length + b.length ≤ sizeLine ∧ newL m (a ++ b) st Q := by
  cases o <;> cases p <;> first | exact h.elim | exact ⟨_, _, rfl, rfl, (wsz h).1, sat_new (wsz h).2⟩
def evAdd (m : Bool) (x y : D) (st : Sto) : R D := match x, y with
  | .int i, .int j => .ok (.int (i + j)) st
  | .str a, .str b => R.when (szB (a.length + b.length)) (.ok (.str (a ++ b)) st)
  | .tup a, .tup b => R.when (szB (a.length + b.length)) (.ok (.tup (a ++ b)) st)
  | x, y => cat2 m (lstOf st x) (lstOf st y) st
def oAdd (m : Bool) : RO2 (binaryOp .Add) where
  s := opAdd m
  ev := evAdd m
  ok x y st Q E h := by
    show wpAdd m x y st Q
    have key := @cat2_ok m (lstOf st x) (lstOf st y) st Q E
    cases x <;> cases y <;> first | exact wsz h | exact h | (obtain ⟨a, b, e1, e2, q⟩ := key h; first | (unfold wpAdd; dsimp only; rw [e1, e2]; exact q) | cases e1 | cases e2)
  gr x y st := by
    unfold evAdd
    split
    · exact gr_ok
    · exact gr_when gr_ok
    · exact gr_when gr_ok
    · exact cat2_gr
def evII (c : Int → Int → Bool) (g : Int → Int → D) (x y : D) (st : Sto) : R D := match x, y with
  | .int i, .int j => R.when (c i j) (.ok (g i j) st)
  | _, _ => .no
theorem gr_II {c : Int → Int → Bool} {g : Int → Int → D} {x y : D} {st : Sto} : (evII c g x y st).gr st := by
  unfold evII
  split
  · exact gr_when gr_ok
  · exact gr_no
theorem sat_II {c : Int → Int → Bool} {g : Int → Int → D} {x y : D} {st : Sto} {Q : QD} {E : QX} (h : (evII c g x y st).sat Q E) : ∃ i j, x = .int i ∧ y = .int j ∧ c i j = true ∧ Q (g i j) st := by
  unfold evII at h
  split at h
  · rw [R.sat_when] at h
    exact ⟨_, _, rfl, rfl, h.1, h.2⟩
  · exact h.elim
def oSub : RO2 (binaryOp .Sub) := ⟨opSub, evII (fun _ _ => true) fun i j => .int (i - j), fun x y st Q E h => by
  obtain ⟨i, j, rfl, rfl, _, q⟩ := sat_II h
  exact ⟨trivial, q⟩, fun _ _ _ => gr_II⟩
def oMod : RO2 (binaryOp .Mod) := ⟨opMod, evII (fun _ j => decide (0 < j)) fun i j => .int (i % j), fun x y st Q E h => by
  obtain ⟨i, j, rfl, rfl, c, q⟩ := sat_II h
  exact ⟨(of_decide_eq_true c : 0 < j), q⟩, fun _ _ _ => gr_II⟩
def oFDiv : RO2 (binaryOp .FloorDiv) := ⟨opFDiv, evII (fun _ j => decide (0 < j ∧ j < 1073741824)) fun i j => .int (i / j), fun x y st Q E h => by
  obtain ⟨i, j, rfl, rfl, c, q⟩ := sat_II h
  exact ⟨(of_decide_eq_true c : 0 < j ∧ j < 1073741824), q⟩, fun _ _ _ => gr_II⟩
def oPow : RO2 (binaryOp .Pow) := ⟨opPow, evII (fun i j => decide (0 ≤ j ∧ j ≤ 1000000 ∧ i.natAbs < 2 ^ 64)) fun i j => .int (i ^ j.toNat), fun x y st Q E h => by
  obtain ⟨i, j, rfl, rfl, c, q⟩ := sat_II h
  exact ⟨(of_decide_eq_true c : 0 ≤ j ∧ j ≤ 1000000 ∧ i.natAbs < 2 ^ 64), q⟩, fun _ _ _ => gr_II⟩
def mulB (i j : Int) : Bool := decide ((-(2 ^ 64) < i ∧ i < 2 ^ 64) ∨ (-(2 ^ 64) < j ∧ j < 2 ^ 64))
def repB (k : Int) (n : Nat) : Bool := decide (-1000 ≤ k ∧ k ≤ 1000 ∧ n ≤ 1000)
def rep2 (m : Bool) (o : Option (List D)) (k : Int) (st : Sto) : R D := match o with
  | some ds => R.when (repB k ds.length) (newR m (List.replicate k.toNat ds).flatten st)
  | none => .no
theorem rep2_gr {m : Bool} {o : Option (List D)} {k : Int} {st : Sto} : (rep2 m o k st).gr st := by
  cases o <;> first | exact gr_no | exact gr_when gr_new
theorem wrep {α : Type} {k : Int} {n : Nat} {r : R α} {Q : α → Sto → Prop} {E : QX} (h : (R.when (repB k n) r).sat Q E) : CRep k n ∧ r.sat Q E := by
  rw [R.sat_when] at h
  exact ⟨(of_decide_eq_true h.1 : -1000 ≤ k ∧ k ≤ 1000 ∧ n ≤ 1000), h.2⟩
theorem wmul {α : Type} {k n : Int} {r : R α} {Q : α → Sto → Prop} {E : QX} (h : (R.when (mulB k n) r).sat Q E) : CMul k n ∧ r.sat Q E := by
  rw [R.sat_when] at h
  exact ⟨(of_decide_eq_true h.1 : (-(2 ^ 64) < k ∧ k < 2 ^ 64) ∨ (-(2 ^ 64) < n ∧ n < 2 ^ 64)), h.2⟩
theorem rep2_ok {m : Bool} {o : Option (List D)} {k : Int} {st : Sto} {Q : QD} {E : QX} (h : (rep2 m o k st).sat Q E) : ∃ ds, o = some ds ∧ CRep k ds.length ∧ newL m (List.replicate k.toNat ds).flatten st Q := by
  cases o <;> first | exact h.elim | exact ⟨_, rfl, (wrep h).1, sat_new (wrep h).2⟩
def evMul (m : Bool) (x y : D) (st : Sto) : R D := match x, y with
  | .int i, .int j => R.when (mulB i j) (.ok (.int (i * j)) st)
  | .tup ds, .int k => R.when (repB k ds.length) (.ok (.tup (List.replicate k.toNat ds).flatten) st)
  | x, .int k => rep2 m (lstOf st x) k st
  | _, _ => .no
def oMul (m : Bool) : RO2 (binaryOp .Mult) where
  s := opMul m
  ev := evMul m
  ok x y st Q E h := by
    show wpMul m x y st Q
    have key := fun k => @rep2_ok m (lstOf st x) k st Q E
    cases x <;> cases y <;> first | exact wmul h | exact wrep h | exact h.elim | (obtain ⟨ds, e1, q⟩ := key _ h; first | (unfold wpMul; dsimp only; rw [e1]; exact q) | cases e1)
  gr x y st := by
    unfold evMul
    split
    · exact gr_when gr_ok
    · exact gr_when gr_ok
    · exact rep2_gr
    · exact gr_no
def evEq (neg : Bool) (x y : D) (st : Sto) : R D := match x, y with
  | .str a, .str b => .ok (.bl (neg != decide (a = b))) st
  | x, y => R.when (shp (lookD st x) && shp (lookD st y)) (.ok (.bl (neg != eqD (lookD st x) (lookD st y))) st)
theorem wshp {α : Type} {a b : Bool} {r : R α} {Q : α → Sto → Prop} {E : QX} (h : (R.when (a && b) r).sat Q E) : a = true ∧ b = true ∧ r.sat Q E := by
  rw [R.sat_when, Bool.and_eq_true] at h
  exact ⟨h.1.1, h.1.2, h.2⟩
theorem evEq_ok {neg : Bool} {x y : D} {st : Sto} {Q : QD} {E : QX} (h : (evEq neg x y st).sat Q E) : wpEq neg x y st Q := by
  unfold evEq at h
  unfold wpEq
  split at h
  · exact h
  · rename_i hne
    first
      | exact wshp h
      | (split
         · exact (hne _ _ rfl rfl).elim
         · exact wshp h)
theorem evEq_gr {neg : Bool} {x y : D} {st : Sto} : (evEq neg x y st).gr st := by
  unfold evEq
  split
  · exact gr_ok
  · exact gr_when gr_ok
def oEq : RO2 (compareOp .Eq) := ⟨opEq, evEq false, fun _ _ _ _ _ h => evEq_ok h, fun _ _ _ => evEq_gr⟩
def oNe : RO2 (compareOp .NotEq) := ⟨opNe, evEq true, fun _ _ _ _ _ h => evEq_ok h, fun _ _ _ => evEq_gr⟩
def oLtI : RO2 (compareOp .Lt) := ⟨opLtI, evII (fun _ _ => true) fun i j => .bl (decide (i < j)), fun x y st Q E h => by
  obtain ⟨i, j, rfl, rfl, _, q⟩ := sat_II h
  exact q, fun _ _ _ => gr_II⟩
def oLe : RO2 (compareOp .LtE) := ⟨opLe, evII (fun _ _ => true) fun i j => .bl (decide (i ≤ j)), fun x y st Q E h => by
  obtain ⟨i, j, rfl, rfl, _, q⟩ := sat_II h
  exact q, fun _ _ _ => gr_II⟩
def oGt : RO2 (compareOp .Gt) := ⟨opGt, evII (fun _ _ => true) fun i j => .bl (decide (j < i)), fun x y st Q E h => by
  obtain ⟨i, j, rfl, rfl, _, q⟩ := sat_II h
  exact q, fun _ _ _ => gr_II⟩
def oGe : RO2 (compareOp .GtE) := ⟨opGe, evII (fun _ _ => true) fun i j => .bl (decide (j ≤ i)), fun x y st Q E h => by
  obtain ⟨i, j, rfl, rfl, _, q⟩ := sat_II h
  exact q, fun _ _ _ => gr_II⟩
def evIs (neg : Bool) (x y : D) (st : Sto) : R D := match y with
  | .non => .ok (.bl (neg != isNonD x)) st
  | _ => .no
theorem evIs_gr {neg : Bool} {x y : D} {st : Sto} : (evIs neg x y st).gr st := by
  unfold evIs
  split
  · exact gr_ok
  · exact gr_no
def oIs : RO2 (compareOp .Is) := ⟨opIs, evIs false, fun x y st Q E h => by
  unfold evIs at h
  split at h
  · simpa using h
  · exact h.elim, fun _ _ _ => evIs_gr⟩
def oIsNot : RO2 (compareOp .IsNot) := ⟨opIsNot, evIs true, fun x y st Q E h => by
  unfold evIs at h
  split at h
  · simpa using h
  · exact h.elim, fun _ _ _ => evIs_gr⟩

/-! ### built-ins -/
def ev1 (g : D → Sto → R D) (ds : List D) (st : Sto) : R D := match ds with
  | [d] => g d st
  | _ => .no
theorem gr1 {g : D → Sto → R D} {ds : List D} {st : Sto} (h : ∀ d, (g d st).gr st) : (ev1 g ds st).gr st := by
  unfold ev1
  split
  · exact h _
  · exact gr_no
theorem sat1 {g : D → Sto → R D} {ds : List D} {st : Sto} {Q : QD} {E : QX} (h : (ev1 g ds st).sat Q E) : ∃ d, ds = [d] ∧ (g d st).sat Q E := by
  unfold ev1 at h
  split at h
  · exact ⟨_, rfl, h⟩
  · exact h.elim
@[simp] theorem ev1_1 {g : D → Sto → R D} {d : D} {st : Sto} : ev1 g [d] st = g d st := (rfl)
def kLen : RBi := ⟨bLen, ev1 fun d st => R.opt ((lenD st d).map D.int) st, fun ds st Q E h => by
  obtain ⟨d, rfl, h⟩ := sat1 h
  obtain ⟨x, e, q⟩ := R.sat_opt h
  cases h2 : lenD st d with
  | none => rw [h2] at e; cases e
  | some n =>
    rw [h2] at e
    cases e
    show match lenD st d with | some n => _ | none => _
    rw [h2]
    exact q, fun _ _ => gr1 fun _ => gr_opt⟩
def evInt1 (d : D) (st : Sto) : R D := match d with
  | .int i => .ok (.int i) st
  | _ => .no
def kInt : RBi := ⟨bInt, ev1 evInt1, fun ds st Q E h => by
  obtain ⟨d, rfl, h⟩ := sat1 h
  cases d <;> first | exact h | exact h.elim, fun _ _ => gr1 fun d => by cases d <;> first | exact gr_ok | exact gr_no⟩
def kList (m : Bool) : RBi := ⟨bList m, ev1 fun d st => evSeq (newR m) (seqOf st d) st, fun ds st Q E h => by
  obtain ⟨d, rfl, h⟩ := sat1 h
  obtain ⟨xs, e, h⟩ := evSeq_sat h
  rw [b_list, e]
  exact sat_new h, fun _ _ => gr1 fun _ => evSeq_gr fun _ => gr_new⟩
def kTuple : RBi := ⟨bTuple, ev1 fun d st => evSeq (fun xs st => .ok (.tup xs) st) (seqOf st d) st, fun ds st Q E h => by
  obtain ⟨d, rfl, h⟩ := sat1 h
  obtain ⟨xs, e, h⟩ := evSeq_sat h
  rw [b_tup, e]
  exact h, fun _ _ => gr1 fun _ => evSeq_gr fun _ => gr_ok⟩
def kAll : RBi := ⟨bAll, ev1 fun d st => R.opt (((lstOf st d).bind blsOf).map fun bs => .bl (bs.all id)) st, fun ds st Q E h => by
  obtain ⟨d, rfl, h⟩ := sat1 h
  obtain ⟨x, e, q⟩ := R.sat_opt h
  rw [b_all]
  cases h2 : (lstOf st d).bind blsOf with
  | none => rw [h2] at e; cases e
  | some n => rw [h2] at e; cases e; exact q, fun _ _ => gr1 fun _ => gr_opt⟩
def kAny : RBi := ⟨bAny, ev1 fun d st => R.opt (((lstOf st d).bind blsOf).map fun bs => .bl (bs.any id)) st, fun ds st Q E h => by
  obtain ⟨d, rfl, h⟩ := sat1 h
  obtain ⟨x, e, q⟩ := R.sat_opt h
  rw [b_any]
  cases h2 : (lstOf st d).bind blsOf with
  | none => rw [h2] at e; cases e
  | some n => rw [h2] at e; cases e; exact q, fun _ _ => gr1 fun _ => gr_opt⟩
def repOkB (p : PyData) : Bool := p.canLay0 && p.showable && decide (p.depth ≤ 60) && szB p.shown.length
theorem repOkB_ok {p : PyData} : repOkB p = true ↔ repOk p := by
  unfold repOkB repOk szB
  simp only [Bool.and_eq_true, decide_eq_true_eq, and_assoc]
def kRepr : RBi := ⟨bRepr, ev1 fun d st => R.when (repOkB (toPy (lookD st d))) (.ok (.str (toPy (lookD st d)).shown) st), fun ds st Q E h => by
  obtain ⟨d, rfl, h⟩ := sat1 h
  have h : (R.when (repOkB (toPy (lookD st d))) (.ok (.str (toPy (lookD st d)).shown) st)).sat Q E := h
  rw [R.sat_when, repOkB_ok] at h
  exact h, fun _ _ => gr1 fun _ => gr_when gr_ok⟩
/-- isinstance -/
def rIsi (a : RE) (T : String) (tn : Str) (hb : bootBuiltins tn = some (.type T)) (hn : plainNm tn = true) (hT : T ∈ tysKnown) : RE where
  s := eIsi a.s T tn hb hn hT
  ev en st := (a.ev en st).bind fun d st1 => R.opt ((tyD st1 d).map fun t => .bl (isTy t T)) st1
  ok en st Q E h := by
    show a.s.wp _ _ _ _
    rw [R.sat_bind] at h
    refine a.s.mono _ _ _ _ _ _ (a.ok _ _ _ _ h) (fun x s hx => ?_) fun _ _ h => h
    obtain ⟨y, e, q⟩ := R.sat_opt hx
    cases h2 : tyD s x with
    | none => rw [h2] at e; cases e
    | some n => rw [h2] at e; cases e; exact q
  gr en st := gr_bind (a.gr _ _) fun _ _ => gr_opt
def rIsInt (a : RE) : RE := rIsi a "int" "int" (by decide +kernel) (by decide +kernel) (by decide)
def rIsBool (a : RE) : RE := rIsi a "bool" "bool" (by decide +kernel) (by decide +kernel) (by decide)
def rIsStr (a : RE) : RE := rIsi a "str" "str" (by decide +kernel) (by decide +kernel) (by decide)
def rIsTup (a : RE) : RE := rIsi a "tuple" "tuple" (by decide +kernel) (by decide +kernel) (by decide)

/-! ### methods of lists -/
structure RMt where
  s : MtL
  c : Nat → D → Sto → Bool
  ok : ∀ n xs y st ys z, s.f xs [y] st = some (ys, z) → c n y st = true → ∀ d ∈ ys, d ∈ xs ∨ noRef n d = true
def nAppend : RMt := ⟨mAppend, fun n y _ => noRef n y, fun n xs y st ys z h c d hd => by
  rw [m_app] at h
  split at h
  · cases h
    rcases List.mem_append.mp hd with q | q
    · exact .inl q
    · rw [List.mem_singleton.mp q]; exact .inr c
  · cases h⟩
def nExtend : RMt := ⟨mExtend, fun n y st => match lstOf st y with | some zs => noRefs n zs | none => false, fun n xs y st ys z h c d hd => by
  rw [m_ext] at h
  split at h
  · rename_i zs e
    rw [e] at c
    split at h
    · cases h
      rcases List.mem_append.mp hd with q | q
      · exact .inl q
      · exact .inr (noRefs_all.mp c d q)
    · cases h
  · cases h⟩
def evMeth (m : RMt) (o y : D) (st : Sto) : R D := match refL st o with
  | some (n, xs) => (match m.s.f xs [y] st with
    | some (ys, z) => R.when (m.c n y st) (.ok z (st.set n (.lst ys)))
    | none => .no)
  | none => .no
def rMeth1 (m : RMt) (a b : RE) : RE where
  s := eMeth1 m.s a.s b.s
  ev en st := (a.ev en st).bind fun o st1 => R.when (refL st1 o).isSome ((b.ev en st1).bind fun y st2 => evMeth m o y st2)
  ok en st Q E h := by
    rw [w_meth1]
    rw [R.sat_bind] at h
    refine a.s.mono _ _ _ _ _ _ (a.ok _ _ _ _ h) (fun o s ho => ?_) fun _ _ h => h
    rw [R.sat_when, R.sat_bind] at ho
    refine ⟨ho.1, b.s.mono _ _ _ _ _ _ (b.ok _ _ _ _ ho.2) (fun y s2 hy => ?_) fun _ _ h => h⟩
    unfold evMeth at hy
    split at hy
    · rename_i n xs e
      try rw [e]
      split at hy
      · rename_i ys z e2
        rw [R.sat_when] at hy
        try dsimp only
        try rw [e2]
        exact hy.2
      · exact hy.elim
    · exact hy.elim
  gr en st := gr_bind (a.gr _ _) fun o st1 => gr_when (gr_bind (b.gr _ _) fun y st2 => by
    unfold evMeth
    split
    · rename_i n xs e
      split
      · rename_i ys z e2
        cases c : m.c n y st2 with
        | false => exact trivial
        | true => exact Gr.set (refL_ok e).2 (m.ok _ _ _ _ _ _ e2 c)
      · exact gr_no
    · exact gr_no)

/-! ### what is walked -/
mutual
def beqD : D → D → Bool
  | .non, .non => true
  | .bl a, .bl b => a == b
  | .int a, .int b => decide (a = b)
  | .str a, .str b => decide (a = b)
  | .tup a, .tup b => beqDs a b
  | .lst a, .lst b => beqDs a b
  | .rol a, .rol b => beqDs a b
  | .dic a b, .dic c d => beqDs a c && beqDs b d
  | .ref a, .ref b => decide (a = b)
  | _, _ => false
def beqDs : List D → List D → Bool
  | [], [] => true
  | a :: r, b :: s => beqD a b && beqDs r s
  | _, _ => false
end
mutual
theorem beqD_eq : ∀ {a b : D}, beqD a b = true → a = b
  | .non, b, h => by cases b <;> simp_all [beqD]
  | .bl _, b, h => by cases b <;> simp_all [beqD]
  | .int _, b, h => by cases b <;> simp_all [beqD]
  | .str _, b, h => by cases b <;> simp_all [beqD]
  | .ref _, b, h => by cases b <;> simp_all [beqD]
  | .tup a, b, h => by cases b <;> simp [beqD] at h; rw [beqDs_eq h]
  | .lst a, b, h => by cases b <;> simp [beqD] at h; rw [beqDs_eq h]
  | .rol a, b, h => by cases b <;> simp [beqD] at h; rw [beqDs_eq h]
  | .dic a c, b, h => by cases b <;> simp [beqD] at h; rw [beqDs_eq h.1, beqDs_eq h.2]
theorem beqDs_eq : ∀ {a b : List D}, beqDs a b = true → a = b
  | [], b, h => by cases b <;> simp_all [beqDs]
  | a :: r, b, h => by
    cases b with
    | nil => simp [beqDs] at h
    | cons b s =>
      rw [beqDs, Bool.and_eq_true] at h
      rw [beqD_eq h.1, beqDs_eq h.2]
end
mutual
@[simp] theorem beqD_self : ∀ a : D, beqD a a = true
  | .non => by simp [beqD]
  | .bl _ => by simp [beqD]
  | .int _ => by simp [beqD]
  | .str _ => by simp [beqD]
  | .ref _ => by simp [beqD]
  | .tup a => by simp [beqD, beqDs_self a]
  | .lst a => by simp [beqD, beqDs_self a]
  | .rol a => by simp [beqD, beqDs_self a]
  | .dic a b => by simp [beqD, beqDs_self a, beqDs_self b]
@[simp] theorem beqDs_self : ∀ a : List D, beqDs a a = true
  | [] => by simp [beqDs]
  | a :: r => by simp [beqDs, beqD_self a, beqDs_self r]
end
/-- a walked thing still holds its items -/
def ckSeq (d : D) (ds : List D) (st : Sto) : Bool := match d with
  | .ref _ => (match seqOf st d with | some es => beqDs es ds | none => false)
  | _ => true
theorem ckSeq_ok {d : D} {ds : List D} {st st' : Sto} (h : seqOf st d = some ds) (c : ckSeq d ds st' = true) : seqOf st' d = some ds := by
  cases d with
  | ref n =>
    have c : (match seqOf st' (.ref n) with | some es => beqDs es ds | none => false) = true := c
    cases e : seqOf st' (.ref n) with
    | none => rw [e] at c; cases c
    | some es => rw [e] at c; rw [beqDs_eq c]
  | tup _ => exact h
  | lst _ => exact h
  | _ => cases h
structure RI where
  s : SemI
  ev : Env → Sto → R (List D × (Sto → Bool))
  ok : ∀ (en : Env) (st : Sto) (F : QI) (E : QX), (ev en st).sat (fun p st1 => ∀ okP : Sto → Prop, (∀ t, p.2 t = true → okP t) → F p.1 okP st1) E → s.wp en st F E
  gr : ∀ en st, (ev en st).gr st
def itSeq (d : D) (st : Sto) : R (List D × (Sto → Bool)) := match seqOf st d with
  | some ds => .ok (ds, ckSeq d ds) st
  | none => .no
theorem itSeq_gr {d : D} {st : Sto} : (itSeq d st).gr st := by
  unfold itSeq
  split
  · exact gr_ok
  · exact gr_no
def jSeq (a : RE) : RI where
  s := iSeq a.s
  ev en st := (a.ev en st).bind fun d st1 => itSeq d st1
  ok en st F E h := by
    rw [w_iSeq]
    rw [R.sat_bind] at h
    refine a.s.mono _ _ _ _ _ _ (a.ok _ _ _ _ h) (fun d s hd => ?_) fun _ _ h => h
    unfold itSeq at hd
    split at hd
    · rename_i ds e
      try rw [e]
      exact hd _ fun t ht => ckSeq_ok e ht
    · exact hd.elim
  gr en st := gr_bind (a.gr _ _) fun _ _ => itSeq_gr
def b62 (i : Int) : Bool := decide (-(2 ^ 62) ≤ i ∧ i < 2 ^ 62)
theorem b62_ok {i : Int} (h : b62 i = true) : bd62 i := (of_decide_eq_true h : -(2 ^ 62) ≤ i ∧ i < 2 ^ 62)
def itR1 (d : D) (st : Sto) : R (List D × (Sto → Bool)) := match d with
  | .int j => R.when (b62 j) (.ok (rngD 0 j.toNat, fun _ => true) st)
  | _ => .no
theorem itR1_gr {d : D} {st : Sto} : (itR1 d st).gr st := by
  unfold itR1
  split
  · exact gr_when gr_ok
  · exact gr_no
def jRange1 (a : RE) : RI where
  s := iRange1 a.s
  ev en st := (a.ev en st).bind fun d st1 => itR1 d st1
  ok en st F E h := by
    rw [w_iR1]
    rw [R.sat_bind] at h
    refine a.s.mono _ _ _ _ _ _ (a.ok _ _ _ _ h) (fun d s hd => ?_) fun _ _ h => h
    unfold itR1 at hd
    split at hd
    · rw [R.sat_when] at hd
      exact ⟨b62_ok hd.1, hd.2 _ fun _ _ => trivial⟩
    · exact hd.elim
  gr en st := gr_bind (a.gr _ _) fun _ _ => itR1_gr
def itR2 (d e : D) (st : Sto) : R (List D × (Sto → Bool)) := match d, e with
  | .int i, .int j => R.when (b62 i && b62 j) (.ok (rngD i (j - i).toNat, fun _ => true) st)
  | _, _ => .no
theorem itR2_gr {d e : D} {st : Sto} : (itR2 d e st).gr st := by
  unfold itR2
  split
  · exact gr_when gr_ok
  · exact gr_no
def jRange2 (a b : RE) : RI where
  s := iRange2 a.s b.s
  ev en st := (a.ev en st).bind fun d st1 => (b.ev en st1).bind fun e st2 => itR2 d e st2
  ok en st F E h := by
    rw [w_iR2]
    rw [R.sat_bind] at h
    refine a.s.mono _ _ _ _ _ _ (a.ok _ _ _ _ h) (fun d s hd => ?_) fun _ _ h => h
    rw [R.sat_bind] at hd
    refine b.s.mono _ _ _ _ _ _ (b.ok _ _ _ _ hd) (fun e s he => ?_) fun _ _ h => h
    unfold itR2 at he
    split at he
    · rw [R.sat_when, Bool.and_eq_true] at he
      exact ⟨b62_ok he.1.1, b62_ok he.1.2, he.2 _ fun _ _ => trivial⟩
    · exact he.elim
  gr en st := gr_bind (a.gr _ _) fun _ _ => gr_bind (b.gr _ _) fun _ _ => itR2_gr
def itZip (sf : Bool) (d e : D) (st : Sto) : R (List D × (Sto → Bool)) := match seqOf st d, seqOf st e with
  | some xs, some ys => R.when (!sf || decide (xs.length = ys.length)) (.ok (pairD xs ys, fun s => ckSeq d xs s && ckSeq e ys s) st)
  | _, _ => .no
theorem itZip_gr {sf : Bool} {d e : D} {st : Sto} : (itZip sf d e st).gr st := by
  unfold itZip
  split
  · exact gr_when gr_ok
  · exact gr_no
def jZip (sf : Bool) (a b : RE) : RI where
  s := iZip sf a.s b.s
  ev en st := (a.ev en st).bind fun d st1 => (b.ev en st1).bind fun e st2 => itZip sf d e st2
  ok en st F E h := by
    rw [w_iZip]
    rw [R.sat_bind] at h
    refine a.s.mono _ _ _ _ _ _ (a.ok _ _ _ _ h) (fun d s hd => ?_) fun _ _ h => h
    rw [R.sat_bind] at hd
    refine b.s.mono _ _ _ _ _ _ (b.ok _ _ _ _ hd) (fun e s he => ?_) fun _ _ h => h
    unfold itZip at he
    split at he
    · rename_i xs ys e1 e2
      rw [R.sat_when] at he
      try rw [e1, e2]
      refine ⟨fun q => ?_, he.2 _ fun t ht => ?_⟩
      · have := he.1
        rw [q] at this
        simpa using this
      · rw [Bool.and_eq_true] at ht
        exact ⟨ckSeq_ok e1 ht.1, ckSeq_ok e2 ht.2⟩
    · exact he.elim
  gr en st := gr_bind (a.gr _ _) fun _ _ => gr_bind (b.gr _ _) fun _ _ => itZip_gr
def itEnum (d : D) (st : Sto) : R (List D × (Sto → Bool)) := match seqOf st d with
  | some ds => .ok (numD ds, ckSeq d ds) st
  | none => .no
theorem itEnum_gr {d : D} {st : Sto} : (itEnum d st).gr st := by
  unfold itEnum
  split
  · exact gr_ok
  · exact gr_no
def jEnum (a : RE) : RI where
  s := iEnum a.s
  ev en st := (a.ev en st).bind fun d st1 => itEnum d st1
  ok en st F E h := by
    rw [w_iEnum]
    rw [R.sat_bind] at h
    refine a.s.mono _ _ _ _ _ _ (a.ok _ _ _ _ h) (fun d s hd => ?_) fun _ _ h => h
    unfold itEnum at hd
    split at hd
    · rename_i ds e
      try rw [e]
      exact hd _ fun t ht => ckSeq_ok e ht
    · exact hd.elim
  gr en st := gr_bind (a.gr _ _) fun _ _ => itEnum_gr

/-! ### comprehensions -/
def evC (c : Option RT) (en : Env) (st : Sto) : R Bool := match c with
  | none => .ok true st
  | some t => t.ev en st
theorem evC_ok (c : Option RT) (en : Env) (st : Sto) (Q : Bool → Sto → Prop) (E : QX) (h : (evC c en st).sat Q E) : wpC (c.map RT.s) en st Q E := by
  cases c with
  | none => exact h
  | some t => exact t.ok _ _ _ _ h
theorem evC_gr (c : Option RT) (en : Env) (st : Sto) : (evC c en st).gr st := by
  cases c with
  | none => exact gr_ok
  | some t => exact t.gr _ _
def compE (t : Tg) (vs : List Nat) (c : Env → Sto → R Bool) (elt : Env → Sto → R D) (ck : Sto → Bool) (en : Env) : List D → Sto → R (List D)
  | [], st => R.when (ck st) (.ok [] st)
  | d :: r, st => R.when (ck st) (match putT t (wipeD en vs) d with
    | some en1 => (c en1 st).bind fun b st1 => (match b with
      | true => (elt en1 st1).bind fun y st2 => (compE t vs c elt ck en r st2).bind fun ys st3 => .ok (y :: ys) st3
      | false => compE t vs c elt ck en r st1)
    | none => .no)
theorem compE_gr {t : Tg} {vs : List Nat} {c : Env → Sto → R Bool} {elt : Env → Sto → R D} {ck : Sto → Bool} {en : Env} (hc : ∀ en st, (c en st).gr st) (he : ∀ en st, (elt en st).gr st) : ∀ (l : List D) (st : Sto), (compE t vs c elt ck en l st).gr st
  | [], st => gr_when gr_ok
  | d :: r, st => by
    rw [compE]
    refine gr_when ?_
    split
    · refine gr_bind (hc _ _) fun b st1 => ?_
      cases b with
      | true => exact gr_bind (he _ _) fun _ _ => gr_bind (compE_gr hc he r _) fun _ _ => gr_ok
      | false => exact compE_gr hc he r _
    · exact gr_no
theorem compE_ok {t : Tg} {vs : List Nat} {c : Option RT} {elt : RE} {ck : Sto → Bool} {okP : Sto → Prop} (hk : ∀ t, ck t = true → okP t) {en : Env} : ∀ (l : List D) (acc : List D) (st : Sto) (Q : List D → Sto → Prop), acc.length + l.length ≤ sizeLine →
    (compE t vs (evC c) elt.ev ck en l st).sat (fun ys st' => Q (acc ++ ys) st') NoX → compD t vs (wpC (c.map RT.s)) elt.s.wp okP en Q l acc st
  | [], acc, st, Q, hl, h => by
    rw [compE, R.sat_when] at h
    rw [compD]
    exact ⟨hk _ h.1, by simpa using h.2⟩
  | d :: r, acc, st, Q, hl, h => by
    rw [compE, R.sat_when] at h
    rw [compD]
    refine ⟨hk _ h.1, ?_⟩
    have h2 := h.2
    split at h2
    · rename_i en1 e
      try rw [e]
      try dsimp only
      rw [R.sat_bind] at h2
      refine wpC_mono _ _ _ _ _ _ _ (evC_ok _ _ _ _ _ h2) (fun b st1 hb => ?_) fun _ _ h => h
      cases b with
      | true =>
        dsimp only at hb ⊢
        rw [R.sat_bind] at hb
        refine elt.s.mono _ _ _ _ _ _ (elt.ok _ _ _ _ hb) (fun y st2 hy => ?_) fun _ _ h => h
        rw [R.sat_bind] at hy
        simp only [List.length_cons] at hl
        refine ⟨by omega, compE_ok hk r (acc ++ [y]) st2 Q (by simp; omega) (R.sat_mono hy (fun ys st3 h3 => ?_) fun _ _ h => h)⟩
        rw [R.sat_ok] at h3
        rw [List.append_assoc]
        exact h3
      | false =>
        simp only [List.length_cons] at hl
        exact compE_ok hk r acc st1 Q (by omega) hb
    · exact h2.elim
def rComp (m : Bool) (t : Tg) (own : List (Str × Nat)) (i : RI) (c : Option RT) (elt : RE) : RE where
  s := eComp m t own i.s (c.map RT.s) elt.s
  ev en st := (i.ev en st).bind fun p st1 => R.when (szB p.1.length) ((compE t (own.map Prod.snd) (evC c) elt.ev p.2 en p.1 st1).calm.bind fun ds st2 => newR m ds st2)
  ok en st Q E h := by
    rw [w_comp]
    refine i.ok _ _ _ _ ?_
    rw [R.sat_bind] at h
    refine R.sat_mono h (fun p st1 hp okP hk => ?_) fun _ _ h => h
    rw [R.sat_when, R.sat_bind, R.sat_calm] at hp
    exact compE_ok hk p.1 [] st1 _ (by have := of_decide_eq_true hp.1; simpa using this) (R.sat_mono hp.2 (fun ds s hd => sat_new hd) fun _ _ h => h)
  gr en st := gr_bind (i.gr _ _) fun p st1 => gr_when (gr_bind (gr_calm (compE_gr (evC_gr c) elt.gr _ _)) fun _ _ => gr_new)
end Mi
/-! RnC: statements, defs. -/
namespace Mi
open PySem PySem.Spec PyProof.Rows L2

/-- what a block ends with -/
inductive RB where
  | nx (en : Env) (st : Sto)
  | rt (d : D) (st : Sto)
  | bk (en : Env) (st : Sto)
  | ct (en : Env) (st : Sto)
  | ex (x : DX) (en : Env) (st : Sto)
  | no
class KE where
  n : EndsD
class KB where
  f : Env → Sto → RB
class KS (α : Type) where
  f : α → Sto → RB
namespace RB
def satI (r : RB) [k : KE] : Prop := match r with
  | .nx en st => k.n.nx en st
  | .rt d st => k.n.rt d st
  | .bk en st => k.n.bk en st
  | .ct en st => k.n.ct en st
  | .ex x en st => k.n.ex x en st
  | .no => False
def sat (r : RB) (N : EndsD) : Prop := @satI r ⟨N⟩
def seqI (r : RB) [k : KB] : RB := match r with
  | .nx en st => k.f en st
  | .rt d st => .rt d st
  | .bk en st => .bk en st
  | .ct en st => .ct en st
  | .ex x en st => .ex x en st
  | .no => .no
def seq (r : RB) (f : Env → Sto → RB) : RB := @seqI r ⟨f⟩
/-- a turn's end: on, or out -/
def turnI (r : RB) [k : KB] : RB := match r with
  | .nx en st => k.f en st
  | .ct en st => k.f en st
  | .rt d st => .rt d st
  | .bk en st => .nx en st
  | .ex x en st => .ex x en st
  | .no => .no
def turn (r : RB) (f : Env → Sto → RB) : RB := @turnI r ⟨f⟩
def when (b : Bool) (r : RB) : RB := match b with
  | true => r
  | false => .no
def gr (r : RB) (st : Sto) : Prop := match r with
  | .nx _ st' => Gr st st'
  | .rt _ st' => Gr st st'
  | .bk _ st' => Gr st st'
  | .ct _ st' => Gr st st'
  | .ex _ _ st' => Gr st st'
  | .no => True
variable {r : RB} {f : Env → Sto → RB} {en : Env} {st : Sto} {d : D} {x : DX} {N : EndsD}
@[simp] theorem seq_nx : (RB.nx en st).seq f = f en st := (rfl)
@[simp] theorem seq_rt : (RB.rt d st).seq f = .rt d st := (rfl)
@[simp] theorem seq_bk : (RB.bk en st).seq f = .bk en st := (rfl)
@[simp] theorem seq_ct : (RB.ct en st).seq f = .ct en st := (rfl)
@[simp] theorem seq_ex : (RB.ex x en st).seq f = .ex x en st := (rfl)
@[simp] theorem seq_no : RB.no.seq f = .no := (rfl)
@[simp] theorem turn_nx : (RB.nx en st).turn f = f en st := (rfl)
@[simp] theorem turn_ct : (RB.ct en st).turn f = f en st := (rfl)
@[simp] theorem turn_rt : (RB.rt d st).turn f = .rt d st := (rfl)
@[simp] theorem turn_bk : (RB.bk en st).turn f = .nx en st := (rfl)
@[simp] theorem turn_ex : (RB.ex x en st).turn f = .ex x en st := (rfl)
@[simp] theorem turn_no : RB.no.turn f = .no := (rfl)
@[simp] theorem sat_nx : (RB.nx en st).sat N = N.nx en st := (rfl)
@[simp] theorem sat_rt : (RB.rt d st).sat N = N.rt d st := (rfl)
@[simp] theorem sat_bk : (RB.bk en st).sat N = N.bk en st := (rfl)
@[simp] theorem sat_ct : (RB.ct en st).sat N = N.ct en st := (rfl)
@[simp] theorem sat_ex : (RB.ex x en st).sat N = N.ex x en st := (rfl)
@[simp] theorem sat_no : RB.no.sat N = False := (rfl)
@[simp] theorem when_t : RB.when true r = r := (rfl)
@[simp] theorem when_f : RB.when false r = .no := (rfl)
theorem sat_seq : (r.seq f).sat N = r.sat { N with nx := fun en st => (f en st).sat N } := by cases r <;> rfl
theorem sat_turn : (r.turn f).sat N = r.sat { N with nx := fun en st => (f en st).sat N, ct := fun en st => (f en st).sat N, bk := N.nx } := by cases r <;> rfl
theorem sat_when {b : Bool} : (RB.when b r).sat N = (b = true ∧ r.sat N) := by cases b <;> simp [RB.when]
theorem sat_mono {A B : EndsD} (h : r.sat A) (le : EndsD.Le A B) : r.sat B := by
  cases r with
  | nx en st => exact le.nx _ _ h
  | rt d st => exact le.rt _ _ h
  | bk en st => exact le.bk _ _ h
  | ct en st => exact le.ct _ _ h
  | ex x en st => exact le.ex _ _ _ h
  | no => exact h
theorem gr_trans {a b : Sto} (h : Gr a b) (k : r.gr b) : r.gr a := by
  cases r with
  | nx en st => exact Gr.trans h k
  | rt d st => exact Gr.trans h k
  | bk en st => exact Gr.trans h k
  | ct en st => exact Gr.trans h k
  | ex x en st => exact Gr.trans h k
  | no => trivial
theorem gr_seq (h : r.gr st) (k : ∀ en st1, (f en st1).gr st1) : (r.seq f).gr st := by
  cases r with
  | nx en st1 => exact gr_trans h (k en st1)
  | rt d st => exact h
  | bk en st => exact h
  | ct en st => exact h
  | ex x en st => exact h
  | no => trivial
theorem gr_turn (h : r.gr st) (k : ∀ en st1, (f en st1).gr st1) : (r.turn f).gr st := by
  cases r with
  | nx en st1 => exact gr_trans h (k en st1)
  | rt d st => exact h
  | bk en st => exact h
  | ct en st1 => exact gr_trans h (k en st1)
  | ex x en st => exact h
  | no => trivial
theorem gr_when {b : Bool} (h : r.gr st) : (RB.when b r).gr st := by
  cases b with
  | true => exact h
  | false => trivial
end RB
/-- an expression's end in a statement -/
def R.stI {α : Type} (r : R α) (en : Env) [k : KS α] : RB := match r with
  | .ok a st => k.f a st
  | .ex x st => .ex x en st
  | .no => .no
def R.st {α : Type} (r : R α) (en : Env) (f : α → Sto → RB) : RB := @R.stI α r en ⟨f⟩
section
variable {α : Type} {en : Env} {st : Sto} {f : α → Sto → RB} {N : EndsD} {r : R α}
@[simp] theorem R.st_ok {a : α} : (R.ok a st).st en f = f a st := (rfl)
@[simp] theorem R.st_ex {x : DX} : (R.ex x st : R α).st en f = .ex x en st := (rfl)
@[simp] theorem R.st_no : (R.no : R α).st en f = .no := (rfl)
theorem R.sat_st : (r.st en f).sat N = r.sat (fun a st => (f a st).sat N) (fun x st => N.ex x en st) := by cases r <;> rfl
theorem R.st_bind {β : Type} {g : β → Sto → RB} {k : α → Sto → R β} : (r.bind k).st en g = r.st en fun a st => (k a st).st en g := by cases r <;> rfl
theorem R.gr_st (h : r.gr st) (k : ∀ a st1, (f a st1).gr st1) : (r.st en f).gr st := by
  cases r with
  | ok a st1 => exact RB.gr_trans h (k a st1)
  | ex x st1 => exact h
  | no => trivial
end
structure RS where
  s : SemS
  ev : Env → Sto → RB
  ok : ∀ (N : EndsD) (en : Env) (st : Sto), (ev en st).sat N → s.wp N en st
  gr : ∀ en st, (ev en st).gr st
def xRet (a : RE) : RS where
  s := sRet a.s
  ev en st := (a.ev en st).st en fun d st1 => .rt d st1
  ok N en st h := by
    rw [w_sRet]
    rw [R.sat_st] at h
    exact a.ok _ _ _ _ h
  gr en st := R.gr_st (a.gr _ _) fun _ _ => Gr.refl _
def xRetN : RS := ⟨sRetN, fun _ st => .rt .non st, fun _ _ _ h => h, fun _ _ => Gr.refl _⟩
def xPass : RS := ⟨sPass, fun en st => .nx en st, fun _ _ _ h => h, fun _ _ => Gr.refl _⟩
def xSet (i : Nat) (a : RE) : RS where
  s := sSet i a.s
  ev en st := (a.ev en st).st en fun d st1 => .nx (en.set i (some d)) st1
  ok N en st h := by
    rw [w_sSet]
    rw [R.sat_st] at h
    exact a.ok _ _ _ _ h
  gr en st := R.gr_st (a.gr _ _) fun _ _ => Gr.refl _
/-- x = [..] -/
def xSetLc (l : Nat) (m : Bool) (t : Tg) (own : List (Str × Nat)) (i : RI) (c : Option RT) (elt : RE) : RS where
  s := sSetLc l m t own i.s (c.map RT.s) elt.s
  ev en st := ((rComp m t own i c elt).ev en st).st en fun d st1 => .nx (en.set l (some d)) st1
  ok N en st h := by
    rw [R.sat_st] at h
    exact (rComp m t own i c elt).ok _ _ _ _ h
  gr en st := R.gr_st ((rComp m t own i c elt).gr _ _) fun _ _ => Gr.refl _
def xExp (a : RE) : RS where
  s := sExp a.s
  ev en st := (a.ev en st).st en fun d st1 => .nx en st1
  ok N en st h := by
    rw [w_sExp]
    rw [R.sat_st] at h
    exact a.ok _ _ _ _ h
  gr en st := R.gr_st (a.gr _ _) fun _ _ => Gr.refl _
def evB : List RS → Env → Sto → RB
  | [], en, st => .nx en st
  | a :: r, en, st => (a.ev en st).seq (evB r)
theorem evB_gr : ∀ (l : List RS) (en : Env) (st : Sto), (evB l en st).gr st
  | [], _, st => Gr.refl st
  | a :: r, en, st => RB.gr_seq (a.gr _ _) fun en1 st1 => evB_gr r en1 st1
theorem evB_ok : ∀ (l : List RS) (N : EndsD) (en : Env) (st : Sto), (evB l en st).sat N → wpB (l.map RS.s) N en st
  | [], _, _, _, h => h
  | [a], N, en, st, h => by
    rw [evB, RB.sat_seq] at h
    exact a.ok _ _ _ h
  | a :: b :: r, N, en, st, h => by
    rw [evB, RB.sat_seq] at h
    show wpB (a.s :: b.s :: r.map RS.s) N en st
    rw [w_b2]
    exact a.s.mono { N with nx := fun en st => (evB (b :: r) en st).sat N } _ _ _ ⟨fun en1 st1 h1 => evB_ok (b :: r) N en1 st1 h1, fun _ _ h => h, fun _ _ h => h, fun _ _ h => h, fun _ _ _ h => h⟩ (a.ok _ _ _ h)
def xIf (t : RT) (a b : List RS) : RS where
  s := sIf t.s (a.map RS.s) (b.map RS.s)
  ev en st := (t.ev en st).st en fun c st1 => match c with | true => evB a en st1 | false => evB b en st1
  ok N en st h := by
    rw [w_sIf]
    rw [R.sat_st] at h
    refine t.s.mono _ _ _ _ _ _ (t.ok _ _ _ _ h) (fun c s hc => ?_) fun _ _ h => h
    cases c with
    | true => exact evB_ok a _ _ _ hc
    | false => exact evB_ok b _ _ _ hc
  gr en st := R.gr_st (t.gr _ _) fun c _ => by
    cases c with
    | true => exact evB_gr a _ _
    | false => exact evB_gr b _ _
def toB (o : Option Env) (st : Sto) : RB := match o with
  | some en => .nx en st
  | none => .no
@[simp] theorem toB_s {en : Env} {st : Sto} : toB (some en) st = .nx en st := (rfl)
@[simp] theorem toB_n {st : Sto} : toB none st = .no := (rfl)
theorem toB_gr {o : Option Env} {st : Sto} : (toB o st).gr st := by
  cases o with
  | some en => exact Gr.refl st
  | none => trivial
def xAsg (t : Tg) (a : RE) : RS where
  s := sAsg t a.s
  ev en st := (a.ev en st).st en fun d st1 => toB (putT t en d) st1
  ok N en st h := by
    rw [w_sAsg]
    rw [R.sat_st] at h
    refine a.s.mono _ _ _ _ _ _ (a.ok _ _ _ _ h) (fun d s hd => ?_) fun _ _ h => h
    cases e : putT t en d with
    | none => rw [e] at hd; exact hd.elim
    | some en1 => rw [e] at hd; exact hd
  gr en st := R.gr_st (a.gr _ _) fun _ _ => toB_gr
def xPar2 (i j : Nat) (a b : RE) : RS where
  s := sPar2 i j a.s b.s
  ev en st := (a.ev en st).st en fun x st1 => (b.ev en st1).st en fun y st2 => .nx ((en.set i (some x)).set j (some y)) st2
  ok N en st h := by
    rw [w_sPar2]
    rw [R.sat_st] at h
    refine a.s.mono _ _ _ _ _ _ (a.ok _ _ _ _ h) (fun x s hx => ?_) fun _ _ h => h
    rw [R.sat_st] at hx
    exact b.s.mono _ _ _ _ _ _ (b.ok _ _ _ _ hx) (fun y s hy => hy) fun _ _ h => h
  gr en st := R.gr_st (a.gr _ _) fun _ _ => R.gr_st (b.gr _ _) fun _ _ => Gr.refl _
def xPar3 (i j l : Nat) (a b c : RE) : RS where
  s := sPar3 i j l a.s b.s c.s
  ev en st := (a.ev en st).st en fun x st1 => (b.ev en st1).st en fun y st2 => (c.ev en st2).st en fun z st3 => .nx (((en.set i (some x)).set j (some y)).set l (some z)) st3
  ok N en st h := by
    rw [w_sPar3]
    rw [R.sat_st] at h
    refine a.s.mono _ _ _ _ _ _ (a.ok _ _ _ _ h) (fun x s hx => ?_) fun _ _ h => h
    rw [R.sat_st] at hx
    refine b.s.mono _ _ _ _ _ _ (b.ok _ _ _ _ hx) (fun y s hy => ?_) fun _ _ h => h
    rw [R.sat_st] at hy
    exact c.s.mono _ _ _ _ _ _ (c.ok _ _ _ _ hy) (fun y s hy => hy) fun _ _ h => h
  gr en st := R.gr_st (a.gr _ _) fun _ _ => R.gr_st (b.gr _ _) fun _ _ => R.gr_st (c.gr _ _) fun _ _ => Gr.refl _
/-! ### for, while -/
def forE (t : Tg) (b : Env → Sto → RB) (ck : Sto → Bool) : List D → Env → Sto → RB
  | [], en, st => RB.when (ck st) (.nx en st)
  | d :: r, en, st => RB.when (ck st) ((toB (putT t en d) st).seq fun en1 st1 => (b en1 st1).turn (forE t b ck r))
theorem forE_gr {t : Tg} {b : Env → Sto → RB} {ck : Sto → Bool} (hb : ∀ en st, (b en st).gr st) : ∀ (l : List D) (en : Env) (st : Sto), (forE t b ck l en st).gr st
  | [], _, st => RB.gr_when (Gr.refl st)
  | d :: r, en, st => RB.gr_when (RB.gr_seq toB_gr fun _ _ => RB.gr_turn (hb _ _) fun _ _ => forE_gr hb r _ _)
theorem forE_ok {t : Tg} {b : List RS} {ck : Sto → Bool} {okP : Sto → Prop} (hk : ∀ t, ck t = true → okP t) (N : EndsD) : ∀ (l : List D) (en : Env) (st : Sto), (forE t (evB b) ck l en st).sat N → forD t (wpB (b.map RS.s)) okP N l en st
  | [], en, st, h => by
    rw [forE, RB.sat_when] at h
    rw [forD]
    exact ⟨hk _ h.1, h.2⟩
  | d :: r, en, st, h => by
    rw [forE, RB.sat_when] at h
    rw [forD]
    refine ⟨hk _ h.1, ?_⟩
    have h2 := h.2
    cases e : putT t en d with
    | none => rw [e] at h2; exact h2.elim
    | some en1 =>
      rw [e, toB_s, RB.seq_nx, RB.sat_turn] at h2
      dsimp only
      refine wpB_mono _ _ _ _ _ ?_ (evB_ok b _ _ _ h2)
      exact ⟨fun en st q => forE_ok hk N r en st q, fun _ _ q => q, fun _ _ q => q, fun en st q => forE_ok hk N r en st q, fun _ _ _ q => q⟩
def xFor (t : Tg) (i : RI) (b : List RS) : RS where
  s := sFor t i.s (b.map RS.s)
  ev en st := (i.ev en st).st en fun p st1 => forE t (evB b) p.2 p.1 en st1
  ok N en st h := by
    rw [w_sFor]
    refine i.ok _ _ _ _ ?_
    rw [R.sat_st] at h
    exact R.sat_mono h (fun p st1 hp okP hk => forE_ok hk N p.1 en st1 hp) fun _ _ h => h
  gr en st := R.gr_st (i.gr _ _) fun p _ => forE_gr (evB_gr b) _ _ _
def whE (t : Env → Sto → R Bool) (b : Env → Sto → RB) : Nat → Env → Sto → RB
  | 0, _, _ => .no
  | n + 1, en, st => (t en st).st en fun c st1 => match c with
    | true => (b en st1).turn (whE t b n)
    | false => .nx en st1
theorem whE_gr {t : Env → Sto → R Bool} {b : Env → Sto → RB} (ht : ∀ en st, (t en st).gr st) (hb : ∀ en st, (b en st).gr st) : ∀ (n : Nat) (en : Env) (st : Sto), (whE t b n en st).gr st
  | 0, _, _ => trivial
  | n + 1, en, st => R.gr_st (ht _ _) fun c _ => by
    cases c with
    | true => exact RB.gr_turn (hb _ _) fun _ _ => whE_gr ht hb n _ _
    | false => exact Gr.refl _
/-- n: how many turns at most -/
def xWhile (n : Nat) (t : RT) (b : List RS) : RS where
  s := sWhile t.s (b.map RS.s)
  ev en st := whE t.ev (evB b) n en st
  ok N en st h := by
    rw [w_sWhile]
    refine ⟨fun m en st => (whE t.ev (evB b) m en st).sat N, ⟨n, h⟩, fun m en st hm => ?_⟩
    cases m with
    | zero => exact hm.elim
    | succ m =>
      rw [whE, R.sat_st] at hm
      refine t.s.mono _ _ _ _ _ _ (t.ok _ _ _ _ hm) (fun c s hc => ?_) fun _ _ h => h
      cases c with
      | true =>
        dsimp only at hc ⊢
        rw [RB.sat_turn] at hc
        refine wpB_mono _ _ _ _ _ ?_ (evB_ok b _ _ _ hc)
        exact ⟨fun en st q => ⟨m, Nat.lt_succ_self m, q⟩, fun _ _ q => q, fun _ _ q => q, fun en st q => ⟨m, Nat.lt_succ_self m, q⟩, fun _ _ _ q => q⟩
      | false => exact hc
  gr en st := whE_gr t.gr (evB_gr b) _ _ _
/-! ### stores into lists, dicts -/
def evSetIx (r j d : D) (st : Sto) : Option Sto := match refL st r, j with
  | some (n, xs), .int j => (match ixN xs.length j with | some p => if noRef n d then some (st.set n (.lst (xs.set p d))) else none | none => none)
  | _, _ => none
def toN (en : Env) (o : Option Sto) : RB := match o with
  | some st => .nx en st
  | none => .no
@[simp] theorem toN_s {en : Env} {st : Sto} : toN en (some st) = .nx en st := (rfl)
@[simp] theorem toN_n {en : Env} : toN en none = .no := (rfl)
theorem mem_set {α : Type} {l : List α} {p : Nat} {x y : α} (h : y ∈ l.set p x) : y ∈ l ∨ y = x := by
  rcases List.mem_or_eq_of_mem_set h with q | q
  · exact .inl q
  · exact .inr q
def xSetIx (o i e : RE) : RS where
  s := sSetIx o.s i.s e.s
  ev en st := (e.ev en st).st en fun d st1 => (o.ev en st1).st en fun r st2 => (i.ev en st2).st en fun j st3 => toN en (evSetIx r j d st3)
  ok N en st h := by
    rw [w_sSetIx]
    rw [R.sat_st] at h
    refine e.s.mono _ _ _ _ _ _ (e.ok _ _ _ _ h) (fun d s hd => ?_) fun _ _ h => h
    rw [R.sat_st] at hd
    refine o.s.mono _ _ _ _ _ _ (o.ok _ _ _ _ hd) (fun r s hr => ?_) fun _ _ h => h
    rw [R.sat_st] at hr
    refine i.s.mono _ _ _ _ _ _ (i.ok _ _ _ _ hr) (fun j s hj => ?_) fun _ _ h => h
    unfold evSetIx at hj
    split at hj
    · rename_i n xs k e1
      try rw [e1]
      try dsimp only
      split at hj
      · rename_i p e2
        try rw [e2]
        split at hj
        · exact hj
        · exact hj.elim
      · exact hj.elim
    · exact hj.elim
  gr en st := R.gr_st (e.gr _ _) fun d _ => R.gr_st (o.gr _ _) fun r _ => R.gr_st (i.gr _ _) fun j st3 => by
    unfold evSetIx
    split
    · rename_i n xs k e1
      split
      · rename_i p e2
        split
        · rename_i hn
          exact Gr.set (refL_ok e1).2 fun y hy => (mem_set hy).elim .inl fun z => .inr (z ▸ hn)
        · trivial
      · trivial
    · trivial
def rDict0 : RE where
  s := eDict0
  ev _ st := .ok (.ref st.length) (st ++ [O.dic [] []])
  ok _ st Q _ h := h
  gr _ st := Gr.push st _
def keyOkB (k : D) : Bool := keyD k && decide (dpD k ≤ 8) && tupNe k
theorem keyOkB_ok {k : D} : keyOkB k = true ↔ keyOk k := by
  unfold keyOkB keyOk
  simp only [Bool.and_eq_true, decide_eq_true_eq, and_assoc]
def evSetKy (r j d : D) (st : Sto) : Option Sto := match refD st r with
  | some (n, ks, vs) => if keyOkB j && decide (ks.length < sizeLine) && noRef n j && noRef n d then some (st.set n (.dic (dicSet ks vs j d).1 (dicSet ks vs j d).2)) else none
  | none => none
def xSetKy (o i e : RE) : RS where
  s := sSetKy o.s i.s e.s
  ev en st := (e.ev en st).st en fun d st1 => (o.ev en st1).st en fun r st2 => (i.ev en st2).st en fun j st3 => toN en (evSetKy r j d st3)
  ok N en st h := by
    show e.s.wp _ _ _ _
    rw [R.sat_st] at h
    refine e.s.mono _ _ _ _ _ _ (e.ok _ _ _ _ h) (fun d s hd => ?_) fun _ _ h => h
    rw [R.sat_st] at hd
    refine o.s.mono _ _ _ _ _ _ (o.ok _ _ _ _ hd) (fun r s hr => ?_) fun _ _ h => h
    rw [R.sat_st] at hr
    refine i.s.mono _ _ _ _ _ _ (i.ok _ _ _ _ hr) (fun j s hj => ?_) fun _ _ h => h
    unfold evSetKy at hj
    split at hj
    · rename_i n ks vs e1
      rw [e1]
      dsimp only
      split at hj
      · rename_i hc
        simp only [Bool.and_eq_true] at hc
        exact ⟨keyOkB_ok.mp hc.1.1.1, of_decide_eq_true hc.1.1.2, hj⟩
      · exact hj.elim
    · exact hj.elim
  gr en st := R.gr_st (e.gr _ _) fun d _ => R.gr_st (o.gr _ _) fun r _ => R.gr_st (i.gr _ _) fun j st3 => by
    unfold evSetKy
    split
    · rename_i n ks vs e1
      split
      · rename_i hc
        simp only [Bool.and_eq_true] at hc
        refine Gr.set (refD_ok e1).2 fun y hy => ?_
        simp only [O.els, List.mem_append] at hy ⊢
        unfold dicSet at hy
        split at hy
        · rcases hy with hy | hy
          · exact .inl (.inl hy)
          · exact (mem_set hy).elim (fun z => .inl (.inr z)) fun z => .inr (z ▸ hc.2)
        · simp only [List.mem_append, List.mem_singleton] at hy
          rcases hy with (hy | hy) | hy | hy
          · exact .inl (.inl hy)
          · exact .inr (hy ▸ hc.1.2)
          · exact .inl (.inr hy)
          · exact .inr (hy ▸ hc.2)
      · trivial
    · trivial
/-! ### sorting -/
def shLot : Sh := .cons (.row .int) (.cons (.row (.row .int)) .nil)
def shapesK : List Sh := [shLot, .cons .int (.cons (.cons .str (.row .int)) (.cons .int .nil)), .row .int, .cons shLot (.cons .int .nil), .cons .int (.cons (.row .int) .nil)]
def shOkB (ds : List D) : Bool := shapesK.any fun σ => ds.all fun d => hasSh σ d && tupNe d
theorem shOkB_ok {ds : List D} (h : shOkB ds = true) : ∃ σ : Sh, σ.dep ≤ 8 ∧ ∀ d ∈ ds, hasSh σ d = true ∧ tupNe d = true := by
  unfold shOkB at h
  obtain ⟨σ, hm, h⟩ := List.any_eq_true.mp h
  refine ⟨σ, ?_, fun d hd => ?_⟩
  · have : (shapesK.all fun σ => decide (σ.dep ≤ 8)) = true := by decide
    exact of_decide_eq_true (List.all_eq_true.mp this σ hm)
  · have := List.all_eq_true.mp h d hd
    simpa using this
theorem shOkB_of {ds : List D} {σ : Sh} (hs : σ ∈ shapesK) (h : ∀ d ∈ ds, hasSh σ d = true ∧ tupNe d = true) : shOkB ds = true :=
  List.any_eq_true.mpr ⟨σ, hs, List.all_eq_true.mpr fun d hd => by rw [(h d hd).1, (h d hd).2]; rfl⟩
/-- putting in, in order -/
def insD (x : D) : List D → List D
  | [] => [x]
  | y :: r => match leD x y with
    | true => x :: y :: r
    | false => y :: insD x r
def isoD : List D → List D
  | [] => []
  | x :: r => insD x (isoD r)
theorem insD_perm (x : D) : ∀ l : List D, (insD x l).Perm (x :: l)
  | [] => .refl _
  | y :: r => by
    rw [insD]
    cases leD x y with
    | true => exact .refl _
    | false => exact (List.Perm.cons y (insD_perm x r)).trans (.swap x y r)
theorem isoD_perm : ∀ l : List D, (isoD l).Perm l
  | [] => .refl _
  | x :: r => (insD_perm x _).trans (.cons x (isoD_perm r))
theorem insD_pw (x : D) : ∀ l : List D, l.Pairwise (fun x y => leD x y = true) → (insD x l).Pairwise fun x y => leD x y = true
  | [], _ => by simp [insD]
  | y :: r, h => by
    rw [insD]
    have h' := List.pairwise_cons.mp h
    cases e : leD x y with
    | true =>
      refine List.pairwise_cons.mpr ⟨fun z hz => ?_, h⟩
      rcases List.mem_cons.mp hz with q | q
      · rw [q]; exact e
      · exact leD_total.trans x y z e (h'.1 z q)
    | false =>
      refine List.pairwise_cons.mpr ⟨fun z hz => ?_, insD_pw x r h'.2⟩
      rcases List.mem_cons.mp ((insD_perm x r).mem_iff.mp hz) with q | q
      · rw [q]
        have := leD_total.total x y
        rw [e] at this
        simpa using this
      · exact h'.1 z q
theorem isoD_pw : ∀ l : List D, (isoD l).Pairwise fun x y => leD x y = true
  | [] => .nil
  | x :: r => insD_pw x _ (isoD_pw r)
/-- sorted(set(..)), so that it can be reckoned -/
def sortE (ds : List D) : List D := isoD (nubD ds)
theorem sortE_eq {ds : List D} (h : shOkB ds = true) : sortE ds = sortD ds := by
  obtain ⟨σ, _, h⟩ := shOkB_ok h
  have hs : ∀ y ∈ ds, hasSh σ y = true := fun y hy => (h y hy).1
  have ok : ∀ y ∈ ds, okD y = true := fun y hy => ok_of_key y (key_of_sh σ y (hs y hy)).1
  exact sortD_eq hs ((isoD_perm _).nodup_iff.mpr (nubD_nd ok)) (fun x => ((isoD_perm _).mem_iff).trans (mem_nubD ok)) (isoD_pw _)
def rSortSet (m : Bool) (a : RE) : RE where
  s := eSortSet m a.s
  ev en st := (a.ev en st).bind fun d st1 => evSeq (fun ds st2 => R.when (decide (ds.length < 64) && shOkB ds) (newR m (sortE ds) st2)) (seqOf st1 d) st1
  ok en st Q E h := by
    show a.s.wp _ _ _ _
    rw [R.sat_bind] at h
    refine a.s.mono _ _ _ _ _ _ (a.ok _ _ _ _ h) (fun x s hx => ?_) fun _ _ h => h
    obtain ⟨ds, e, hx⟩ := evSeq_sat hx
    rw [R.sat_when, Bool.and_eq_true] at hx
    have q := sat_new hx.2
    rw [sortE_eq hx.1.2] at q
    exact ⟨ds, e, ⟨of_decide_eq_true hx.1.1, shOkB_ok hx.1.2⟩, q⟩
  gr en st := gr_bind (a.gr _ _) fun _ _ => evSeq_gr fun _ => gr_when gr_new
def evSD (m : Bool) (d : D) (st : Sto) : R D := evSeq (fun ks st2 => R.when (shOkB ks) (newR m (sortE ks) st2)) ((refD st d).map fun p => p.2.1) st
def kSortDic (m : Bool) : RBi := ⟨bSortDic m, ev1 (evSD m), fun ds st Q E h0 => by
  obtain ⟨d, rfl, h1⟩ := sat1 h0
  unfold evSD at h1
  obtain ⟨ks, e, h⟩ := evSeq_sat h1
  rw [R.sat_when] at h
  show match refD st d with | some (_, ks, _) => _ | none => _
  cases e2 : refD st d with
  | none => rw [e2] at e; cases e
  | some p =>
    obtain ⟨n, k, v⟩ := p
    rw [e2] at e
    cases e
    have q := sat_new h.2
    rw [sortE_eq h.1] at q
    exact ⟨shOkB_ok h.1, q⟩, fun _ _ => gr1 fun _ => evSeq_gr fun _ => gr_when gr_new⟩
/-! ### defs -/
/-- what becomes of a returned value: 0: what was made is frozen; 1: a new list that the caller may change; 2: all is kept -/
def retR (md : Nat) (n : Nat) (d : D) (st' : Sto) : R D := match md with
  | 0 => if noRef n d then .ok d (st'.take n) else match d with
    | .ref m => (match st'[m]? with | some (.lst ds) => if noRefs n ds then .ok (.lst ds) (st'.take n) else .no | _ => .no)
    | _ => .no
  | 1 => (match d with
    | .ref m => (match st'[m]? with | some (.lst ds) => if noRefs n ds && decide (n ≤ m) then .ok (.ref n) (st'.take n ++ [.lst ds]) else .no | _ => .no)
    | _ => .no)
  | _ => .ok d st'
def retB (md n : Nat) (r : RB) : R D := match r with
  | .nx _ st => retR md n .non st
  | .rt d st => retR md n d st
  | .ex x _ st => if noRefs n (x.fs.map (·.2)) then .ex x (st.take n) else .no
  | _ => .no
def env0 (n : Nat) (ds : List D) : Env := ds.map some ++ List.replicate (n - ds.length) none
theorem gr_take {st st' : Sto} (h : Gr st st') : Gr st (st'.take st.length) := ⟨by rw [List.length_take]; have := h.1; omega, fun i o hi e => by
  rw [List.getElem?_take] at e
  split at e
  · exact h.2 i o hi e
  · omega⟩
theorem retR_gr {md : Nat} {d : D} {st st' : Sto} (h : Gr st st') : (retR md st.length d st').gr st := by
  unfold retR
  split
  · split
    · exact gr_take h
    · split
      · split
        · split
          · exact gr_take h
          · trivial
        · trivial
      · trivial
  · split
    · split
      · split
        · exact Gr.trans (gr_take h) (Gr.push _ _)
        · trivial
      · trivial
    · trivial
  · exact h
def mkF (ar md n : Nat) (b : List RS) : FS where
  ar := ar
  f ds st := retB md st.length (evB b (env0 n ds) st)
  gr ds st := by
    have h := evB_gr b (env0 n ds) st
    cases e : evB b (env0 n ds) st with
    | nx en st1 => rw [e] at h; exact retR_gr h
    | rt d st1 => rw [e] at h; exact retR_gr h
    | ex x en st1 =>
      rw [e] at h
      unfold retB
      dsimp only
      split
      · exact gr_take h
      · trivial
    | bk _ _ => trivial
    | ct _ _ => trivial
    | no => trivial
theorem retR_ok {md : Nat} {d : D} {st st' : Sto} {Q : QD} {E : QX} (c : ClS st) (g : Gr st st') (h : (retR md st.length d st').sat Q E) : retD st d st' Q := by
  have cl := g.closed c
  unfold retR at h
  split at h
  · split at h
    · rename_i hn
      exact .inr (.inl ⟨d, 0, frz_val hn, cl, h⟩)
    · rename_i hn
      split at h
      · rename_i m
        split at h
        · rename_i ds e
          split at h
          · rename_i hd
            refine .inr (.inl ⟨.lst ds, 1, ?_, cl, h⟩)
            rw [frz, if_neg hn, e]
            show (ds.mapM (frz st' st.length 0)).map D.lst = _
            rw [mapM_frz hd]
            rfl
          · exact h.elim
        · exact h.elim
      · exact h.elim
  · split at h
    · rename_i m
      split at h
      · rename_i ds e
        split at h
        · rename_i hd
          rw [Bool.and_eq_true] at hd
          exact .inr (.inr ⟨m, ds, rfl, of_decide_eq_true hd.2, e, hd.1, cl, h⟩)
        · exact h.elim
      · exact h.elim
    · exact h.elim
  · exact .inl h
theorem mkF_ok (ar md n : Nat) (b : List RS) (ds : List D) (st : Sto) (Q : QD) (E : QX) (c : ClS st) (h : (mkF ar md n b).sp.run ds st Q E) : bodyD (b.map RS.s) n ds st Q E := by
  have g := evB_gr b (env0 n ds) st
  refine evB_ok b _ _ _ ?_
  show (evB b (env0 n ds) st).sat _
  have h : (retB md st.length (evB b (env0 n ds) st)).sat Q E := h
  cases e : evB b (env0 n ds) st with
  | nx en st1 => rw [e] at h g; exact retR_ok c g h
  | rt d st1 => rw [e] at h g; exact retR_ok c g h
  | ex x en st1 =>
    rw [e] at h g
    unfold retB at h
    dsimp only at h
    split at h
    · rename_i hn
      exact .inr ⟨hn, g.closed c, h⟩
    · exact h.elim
  | bk _ _ => rw [e] at h; exact h.elim
  | ct _ _ => rw [e] at h; exact h.elim
  | no => rw [e] at h; exact h.elim
/-- the store of a heap refers to itself alone -/
theorem RelS.cls {K : PySem.W.Frag} {wd : World} {mu : Mu} {H : Hp} {st : Sto} (R : RelS K wd mu H st) : ClS st := fun i o e => by
  have hi := (List.getElem?_eq_some_iff.mp e).1
  have hm : i < mu.l.length := by rw [R.len]; exact hi
  have r := R.obj i o _ e (List.getElem?_eq_getElem hm)
  rw [← R.len]
  cases o with
  | lst ds =>
    obtain ⟨vs, _, h⟩ := r
    exact h.nr
  | dic ks vs =>
    obtain ⟨rows, ws, _, _, h1, _, h2, _⟩ := r
    simp only [noRefO, Bool.and_eq_true]
    exact ⟨h2.nr, h1.nr⟩
end Mi
/-! RnD: defs that run; what runs are, for simp; turns by invariants. -/
namespace Mi
open PySem PySem.Spec PyProof.Rows L2

/-- THE RULE for a def, the store being known to refer to itself alone -/
theorem fn_ok2 {G : GEnv} {k : Nat} {f : Addr} {fd : FuncData} {x qual : Str} {st0 : Stmt} {dvs : List V} {kws : List (Str × V)} {N ps : List Str} {l : List SemS} {S : SpecD}
    (F : FunD G.K x qual (defArgs st0) (defBody st0) (defScope st0) dvs kws f fd) (hs : scopeB N ps (defScope st0) = true) (hc : chkB l N (defScope st0) (defBody st0) = true) (har : ps.length = S.ar) (rq : reqB l G k)
    (hS : ∀ ds st Q E, ClS st → S.run ds st Q E → bodyD l N.length ds st Q E) : FnG G.prog G.w G.K G.mg G.base (CXof G) (k + 1) f fd ps (spOf G S) := by
  have sc := scopeB_ok hs
  refine fnG_of F sc (fun vs H Q E h => h.1.trans har.symm) (fun cdv A outer s H vs Q E hr hgd h => ?_)
  obtain ⟨hl, mu, ds, st, R, r, h⟩ := h
  have gd : Good G k (cxOf (CXof G) G.prog G.w G.K G.mg G.base N qual (defScope st0) f cdv A outer s H E) := ⟨rfl, rfl, rfl, rfl, rfl, hr, sc.nd, rfl, sc.kind, hgd⟩
  have tk : Takes (cxOf (CXof G) G.prog G.w G.K G.mg G.base N qual (defScope st0) f cdv A outer s H E) (fun cls d _ H => E cls d H) := takes_of rfl rfl rfl rfl
  refine ⟨tWS G (wpB l) (fun cls d _ H => E cls d H), pss_sound G k _ _ gd ⟨fun _ => rfl, rfl, rfl⟩ tk l _ (fun _ => passes_of rfl) rq hc, ?_⟩
  have hd : ds.length = S.ar := by rw [r.len]; exact hl
  refine ⟨mu, _, st, ⟨R, RelN.start r (N.length - ds.length) (N.length - vs.length), ?_⟩, wpB_mono l _ _ _ _ ⟨fun en st' h => ?_, fun d st' h => ?_, fun _ _ h => False.elim h, fun _ _ h => False.elim h, fun x en st' h => ?_⟩ (hS ds st _ _ R.cls h)⟩
  · show _ = (vs.map some ++ List.replicate (N.length - vs.length) none).length
    rw [List.length_append, List.length_append, List.length_map, List.length_map, List.length_replicate, List.length_replicate, r.len]
  · intro mu' σ' H' s' R'
    exact ret_sound R h mu' .non H' s' R'.sto rfl
  · exact ret_sound R h
  · intro mu' σ' cls dd H' s' R' q
    exact retX_sound R h mu' cls dd H' s' R'.sto q
theorem fnR {G : GEnv} {k : Nat} {f : Addr} {fd : FuncData} {x : Str} {st : Stmt} {N ps : List Str} {b : List RS} {ar md n : Nat} (F : FnP G.K x st f fd) (ok : (scopeB N ps (defScope st) && chkB (b.map RS.s) N (defScope st) (defBody st)) = true) (hn : N.length = n) (har : ps.length = ar)
    (rq : reqB (b.map RS.s) G k) : FnG G.prog G.w G.K G.mg G.base (CXof G) (k + 1) f fd ps (spOf G (mkF ar md n b).sp) := by
  rw [Bool.and_eq_true] at ok
  subst hn
  exact fn_ok2 F ok.1 ok.2 har rq fun ds st Q E c h => mkF_ok _ _ _ _ _ _ _ _ c h
theorem availR {G : GEnv} {k : Nat} {f : Addr} {fd : FuncData} {x : Str} {st : Stmt} {N ps : List Str} {b : List RS} {ar md n : Nat} (F : FnP G.K x st f fd) (gm : G.mg x = some (.ref f)) (ok : (scopeB N ps (defScope st) && chkB (b.map RS.s) N (defScope st) (defBody st)) = true) (hn : N.length = n) (har : ps.length = ar)
    (hb : Binds G.K fd ps []) (rq : reqB (b.map RS.s) G k) : FnAvail G (k + 1) x (mkF ar md n b).sp [] :=
  ⟨f, fd, ps, [], [], gm, F.kp, fnR F ok hn har rq, hb, .nil, fun _ _ => rfl⟩

/-! ### what runs are, for simp -/
section
variable {en : Env} {st : Sto} {a b c : RE} {t : RT} {Q : QD} {E : QX}
@[simp] theorem v_var {i : Nat} : (rVar i).ev en st = (match en[i]? with | some (some d) => .ok d st | _ => .no) := (rfl)
@[simp] theorem v_int {i : Int} : (rInt i).ev en st = .ok (.int i) st := (rfl)
@[simp] theorem v_bl {i : Bool} : (rBl i).ev en st = .ok (.bl i) st := (rfl)
@[simp] theorem v_str {i : Str} : (rStr i).ev en st = .ok (.str i) st := (rfl)
@[simp] theorem v_none : (rNone).ev en st = .ok .non st := (rfl)
@[simp] theorem v_bin {op : Operator} {o : RO2 (binaryOp op)} : (rBin op o a b).ev en st = (a.ev en st).bind fun x st1 => (b.ev en st1).bind fun y st2 => o.ev x y st2 := (rfl)
@[simp] theorem v_cmp {op : CmpOp} {o : RO2 (compareOp op)} : (rCmp op o a b).ev en st = (a.ev en st).bind fun x st1 => (b.ev en st1).bind fun y st2 => o.ev x y st2 := (rfl)
@[simp] theorem v_not : (rNot a).ev en st = (a.ev en st).bind fun x st1 => (asBl x st1).bind fun b st2 => .ok (.bl (!b)) st2 := (rfl)
@[simp] theorem v_and {l : List RE} {h} : (rAnd l h).ev en st = evAnd l en st := (rfl)
@[simp] theorem v_or {l : List RE} {h} : (rOr l h).ev en st = evOr l en st := (rfl)
@[simp] theorem v_and1 : evAnd [a] en st = a.ev en st := (rfl)
@[simp] theorem v_and2 {l : List RE} : evAnd (a :: b :: l) en st = (a.ev en st).bind fun x st1 => (asBl x st1).bind fun c st2 => match c with | true => evAnd (b :: l) en st2 | false => .ok (.bl false) st2 := (rfl)
@[simp] theorem v_or1 : evOr [a] en st = a.ev en st := (rfl)
@[simp] theorem v_or2 {l : List RE} : evOr (a :: b :: l) en st = (a.ev en st).bind fun x st1 => (asBl x st1).bind fun c st2 => match c with | true => .ok (.bl true) st2 | false => evOr (b :: l) en st2 := (rfl)
@[simp] theorem v_neg : (rNeg a).ev en st = (a.ev en st).bind fun x st1 => match x with | .int i => .ok (.int (-i)) st1 | _ => .no := (rfl)
@[simp] theorem v_tV : (tV' a).ev en st = (a.ev en st).bind fun x st1 => asBl x st1 := (rfl)
@[simp] theorem v_qCm {op : CmpOp} {o : RO2 (compareOp op)} : (qCm op o a b).ev en st = (a.ev en st).bind fun x st1 => (b.ev en st1).bind fun y st2 => (o.ev x y st2).bind fun r st3 => asBl r st3 := (rfl)
@[simp] theorem v_qCh {op op' : CmpOp} {o : RO2 (compareOp op)} {o' : RO2 (compareOp op')} : (qCh op op' o o' a b c).ev en st = (a.ev en st).bind fun x st1 => (b.ev en st1).bind fun y st2 => (o.ev x y st2).bind fun r st3 => (asBl r st3).bind fun r st3 => match r with
    | true => (c.ev en st3).bind fun z st4 => (o'.ev y z st4).bind fun r st5 => asBl r st5
    | false => .ok false st3 := (rfl)
@[simp] theorem v_chain {op op' : CmpOp} {o : RO2 (compareOp op)} {o' : RO2 (compareOp op')} : (rChain op op' o o' a b c).ev en st = (a.ev en st).bind fun x st1 => (b.ev en st1).bind fun y st2 => (o.ev x y st2).bind fun r st3 => (asBl r st3).bind fun r st3 => match r with
    | true => (c.ev en st3).bind fun z st4 => o'.ev y z st4
    | false => .ok (.bl false) st3 := (rfl)
@[simp] theorem v_qNo : (qNo t).ev en st = (t.ev en st).bind fun b st1 => .ok (!b) st1 := (rfl)
@[simp] theorem v_qAn {l : List RT} {h} : (qAn l h).ev en st = evTAnd l en st := (rfl)
@[simp] theorem v_qOr {l : List RT} {h} : (qOr l h).ev en st = evTOr l en st := (rfl)
variable {u : RT}
@[simp] theorem v_tand1 : evTAnd [t] en st = t.ev en st := (rfl)
@[simp] theorem v_tand2 {l : List RT} : evTAnd (t :: u :: l) en st = (t.ev en st).bind fun c st2 => match c with | true => evTAnd (u :: l) en st2 | false => .ok false st2 := (rfl)
@[simp] theorem v_tor1 : evTOr [t] en st = t.ev en st := (rfl)
@[simp] theorem v_tor2 {l : List RT} : evTOr (t :: u :: l) en st = (t.ev en st).bind fun c st2 => match c with | true => .ok true st2 | false => evTOr (u :: l) en st2 := (rfl)
@[simp] theorem v_if : (rIf t a b).ev en st = (t.ev en st).bind fun c st1 => match c with | true => a.ev en st1 | false => b.ev en st1 := (rfl)
@[simp] theorem v_A0 : evA [] en st = .ok [] st := (rfl)
@[simp] theorem v_A1 {l : List RE} : evA (a :: l) en st = (a.ev en st).bind fun x st1 => (evA l en st1).bind fun xs st2 => .ok (x :: xs) st2 := (rfl)
@[simp] theorem v_tup {l : List RE} : (rTup l).ev en st = (evA l en st).bind fun ds st1 => R.when (szB ds.length) (.ok (.tup ds) st1) := (rfl)
@[simp] theorem v_list {m : Bool} {l : List RE} : (rList m l).ev en st = (evA l en st).bind fun ds st1 => R.when (szB ds.length) (newR m ds st1) := (rfl)
@[simp] theorem v_ix : (rIx a b).ev en st = (a.ev en st).bind fun x st1 => (b.ev en st1).bind fun y st2 => R.when (strOkIx x) (R.opt (ixD st2 x y) st2) := (rfl)
@[simp] theorem v_O0 : evO none en st = .ok none st := (rfl)
@[simp] theorem v_O1 : evO (some a) en st = (a.ev en st).bind fun x st1 => match x with | .int i => .ok (some i) st1 | _ => .no := (rfl)
@[simp] theorem v_sl {m : Bool} {lo hi : Option RE} : (rSl m a lo hi).ev en st = (a.ev en st).bind fun x st1 => (evO lo en st1).bind fun l st2 => (evO hi en st2).bind fun h st3 => evSl m x l h st3 := (rfl)
@[simp] theorem v_rev {m : Bool} : (rRev m a).ev en st = (a.ev en st).bind fun x st1 => evRev m x st1 := (rfl)
@[simp] theorem v_B {f : RBi} {l : List RE} : (rB f l).ev en st = (evA l en st).bind fun ds st1 => f.ev ds st1 := (rfl)
@[simp] theorem v_call {n : Str} {F : FS} {df : List D} {l : List RE} : (rCall n F df l).ev en st = (evA l en st).bind fun ds st1 => R.when (decide (ds.length + df.length = F.ar)) (F.f (ds ++ df) st1) := (rfl)
@[simp] theorem v_isi {T : String} {tn : Str} {hb hn hT} : (rIsi a T tn hb hn hT).ev en st = (a.ev en st).bind fun d st1 => R.opt ((tyD st1 d).map fun t => .bl (isTy t T)) st1 := (rfl)
@[simp] theorem v_meth {m : RMt} : (rMeth1 m a b).ev en st = (a.ev en st).bind fun o st1 => R.when (refL st1 o).isSome ((b.ev en st1).bind fun y st2 => evMeth m o y st2) := (rfl)
theorem v_comp {m : Bool} {t : Tg} {own : List (Str × Nat)} {i : RI} {c : Option RT} {elt : RE} : (rComp m t own i c elt).ev en st = (i.ev en st).bind fun p st1 => R.when (szB p.1.length) ((compE t (own.map Prod.snd) (evC c) elt.ev p.2 en p.1 st1).calm.bind fun ds st2 => newR m ds st2) := (rfl)
@[simp] theorem v_dict0 : rDict0.ev en st = .ok (.ref st.length) (st ++ [O.dic [] []]) := (rfl)
@[simp] theorem v_sset {m : Bool} : (rSortSet m a).ev en st = (a.ev en st).bind fun d st1 => evSeq (fun ds st2 => R.when (decide (ds.length < 64) && shOkB ds) (newR m (sortE ds) st2)) (seqOf st1 d) st1 := (rfl)
@[simp] theorem v_jSeq : (jSeq a).ev en st = (a.ev en st).bind fun d st1 => itSeq d st1 := (rfl)
@[simp] theorem v_jR1 : (jRange1 a).ev en st = (a.ev en st).bind fun d st1 => itR1 d st1 := (rfl)
@[simp] theorem v_jR2 : (jRange2 a b).ev en st = (a.ev en st).bind fun d st1 => (b.ev en st1).bind fun e st2 => itR2 d e st2 := (rfl)
@[simp] theorem v_jZip {sf : Bool} : (jZip sf a b).ev en st = (a.ev en st).bind fun d st1 => (b.ev en st1).bind fun e st2 => itZip sf d e st2 := (rfl)
@[simp] theorem v_jEnum : (jEnum a).ev en st = (a.ev en st).bind fun d st1 => itEnum d st1 := (rfl)
/-! statements -/
variable {l r : List RS} {s : RS}
@[simp] theorem v_ret : (xRet a).ev en st = (a.ev en st).st en fun d st1 => .rt d st1 := (rfl)
@[simp] theorem v_retN : xRetN.ev en st = .rt .non st := (rfl)
@[simp] theorem v_pass : xPass.ev en st = .nx en st := (rfl)
@[simp] theorem v_set {i : Nat} : (xSet i a).ev en st = (a.ev en st).st en fun d st1 => .nx (en.set i (some d)) st1 := (rfl)
@[simp] theorem v_setlc {l : Nat} {m : Bool} {t : Tg} {own : List (Str × Nat)} {i : RI} {c : Option RT} {elt : RE} : (xSetLc l m t own i c elt).ev en st = ((rComp m t own i c elt).ev en st).st en fun d st1 => .nx (en.set l (some d)) st1 := (rfl)
@[simp] theorem v_exp : (xExp a).ev en st = (a.ev en st).st en fun d st1 => .nx en st1 := (rfl)
@[simp] theorem v_b0 : evB [] en st = .nx en st := (rfl)
@[simp] theorem v_b1 : evB (s :: l) en st = (s.ev en st).seq (evB l) := (rfl)
@[simp] theorem v_xif : (xIf t l r).ev en st = (t.ev en st).st en fun c st1 => match c with | true => evB l en st1 | false => evB r en st1 := (rfl)
@[simp] theorem v_asg {t : Tg} : (xAsg t a).ev en st = (a.ev en st).st en fun d st1 => toB (putT t en d) st1 := (rfl)
@[simp] theorem v_par2 {i j : Nat} : (xPar2 i j a b).ev en st = (a.ev en st).st en fun x st1 => (b.ev en st1).st en fun y st2 => .nx ((en.set i (some x)).set j (some y)) st2 := (rfl)
@[simp] theorem v_par3 {i j l : Nat} : (xPar3 i j l a b c).ev en st = (a.ev en st).st en fun x st1 => (b.ev en st1).st en fun y st2 => (c.ev en st2).st en fun z st3 => .nx (((en.set i (some x)).set j (some y)).set l (some z)) st3 := (rfl)
theorem v_for {t : Tg} {i : RI} : (xFor t i l).ev en st = (i.ev en st).st en fun p st1 => forE t (evB l) p.2 p.1 en st1 := (rfl)
theorem v_while {n : Nat} : (xWhile n t l).ev en st = whE t.ev (evB l) n en st := (rfl)
@[simp] theorem v_setix : (xSetIx a b c).ev en st = (c.ev en st).st en fun d st1 => (a.ev en st1).st en fun r st2 => (b.ev en st2).st en fun j st3 => toN en (evSetIx r j d st3) := (rfl)
@[simp] theorem v_setky : (xSetKy a b c).ev en st = (c.ev en st).st en fun d st1 => (a.ev en st1).st en fun r st2 => (b.ev en st2).st en fun j st3 => toN en (evSetKy r j d st3) := (rfl)
theorem v_F {ar md n : Nat} {b : List RS} {ds : List D} : (mkF ar md n b).f ds st = retB md st.length (evB b (env0 n ds) st) := (rfl)
@[simp] theorem v_Far {ar md n : Nat} {b : List RS} : (mkF ar md n b).ar = ar := (rfl)
end
section
variable {st : Sto} {ds es : List D} {d x y : D} {n md : Nat} {i j : Int} {m : Bool}
@[simp] theorem o_addI : (oAdd m).ev (.int i) (.int j) st = .ok (.int (i + j)) st := (rfl)
@[simp] theorem o_addT : (oAdd m).ev (.tup ds) (.tup es) st = R.when (szB (ds.length + es.length)) (.ok (.tup (ds ++ es)) st) := (rfl)
@[simp] theorem o_addL : (oAdd m).ev (.lst ds) (.lst es) st = R.when (szB (ds.length + es.length)) (newR m (ds ++ es) st) := (rfl)
@[simp] theorem o_addS {s t : Str} : (oAdd m).ev (.str s) (.str t) st = R.when (szB (s.length + t.length)) (.ok (.str (s ++ t)) st) := (rfl)
@[simp] theorem o_sub : oSub.ev (.int i) (.int j) st = .ok (.int (i - j)) st := (rfl)
@[simp] theorem o_mod : oMod.ev (.int i) (.int j) st = R.when (decide (0 < j)) (.ok (.int (i % j)) st) := (rfl)
@[simp] theorem o_fdiv : oFDiv.ev (.int i) (.int j) st = R.when (decide (0 < j ∧ j < 1073741824)) (.ok (.int (i / j)) st) := (rfl)
@[simp] theorem o_pow : oPow.ev (.int i) (.int j) st = R.when (decide (0 ≤ j ∧ j ≤ 1000000 ∧ i.natAbs < 2 ^ 64)) (.ok (.int (i ^ j.toNat)) st) := (rfl)
@[simp] theorem o_mulI : (oMul m).ev (.int i) (.int j) st = R.when (mulB i j) (.ok (.int (i * j)) st) := (rfl)
@[simp] theorem o_mulT : (oMul m).ev (.tup ds) (.int j) st = R.when (repB j ds.length) (.ok (.tup (List.replicate j.toNat ds).flatten) st) := (rfl)
@[simp] theorem o_mulL : (oMul m).ev (.lst ds) (.int j) st = R.when (repB j ds.length) (newR m (List.replicate j.toNat ds).flatten st) := (rfl)
@[simp] theorem o_lt : oLtI.ev (.int i) (.int j) st = .ok (.bl (decide (i < j))) st := (rfl)
@[simp] theorem o_le : oLe.ev (.int i) (.int j) st = .ok (.bl (decide (i ≤ j))) st := (rfl)
@[simp] theorem o_gt : oGt.ev (.int i) (.int j) st = .ok (.bl (decide (j < i))) st := (rfl)
@[simp] theorem o_ge : oGe.ev (.int i) (.int j) st = .ok (.bl (decide (j ≤ i))) st := (rfl)
@[simp] theorem o_eq : oEq.ev x y st = evEq false x y st := (rfl)
@[simp] theorem o_ne : oNe.ev x y st = evEq true x y st := (rfl)
@[simp] theorem o_is : oIs.ev x .non st = .ok (.bl (isNonD x)) st := by show R.ok (D.bl (false != isNonD x)) st = _; simp
@[simp] theorem o_isn : oIsNot.ev x .non st = .ok (.bl (!isNonD x)) st := by show R.ok (D.bl (true != isNonD x)) st = _; simp
variable {neg : Bool}
@[simp] theorem eq_str {s t : Str} : evEq neg (.str s) (.str t) st = .ok (.bl (neg != decide (s = t))) st := (rfl)
@[simp] theorem eq_tup : evEq neg (.tup ds) y st = R.when (shp (.tup ds) && shp (lookD st y)) (.ok (.bl (neg != eqD (.tup ds) (lookD st y))) st) := (rfl)
@[simp] theorem eq_lst : evEq neg (.lst ds) y st = R.when (shp (.lst ds) && shp (lookD st y)) (.ok (.bl (neg != eqD (.lst ds) (lookD st y))) st) := (rfl)
@[simp] theorem eq_ref : evEq neg (.ref n) y st = R.when (shp (lookD st (.ref n)) && shp (lookD st y)) (.ok (.bl (neg != eqD (lookD st (.ref n)) (lookD st y))) st) := (rfl)
@[simp] theorem eq_int : evEq neg (.int i) y st = R.when (shp (.int i) && shp (lookD st y)) (.ok (.bl (neg != eqD (.int i) (lookD st y))) st) := (rfl)
@[simp] theorem eq_non : evEq neg .non y st = R.when (shp .non && shp (lookD st y)) (.ok (.bl (neg != eqD .non (lookD st y))) st) := (rfl)
@[simp] theorem eq_bl {b : Bool} : evEq neg (.bl b) y st = R.when (shp (.bl b) && shp (lookD st y)) (.ok (.bl (neg != eqD (.bl b) (lookD st y))) st) := (rfl)
@[simp] theorem k_len : kLen.ev [d] st = R.opt ((lenD st d).map D.int) st := (rfl)
@[simp] theorem k_toint : kInt.ev [.int i] st = .ok (.int i) st := (rfl)
@[simp] theorem k_list : (kList m).ev [d] st = evSeq (newR m) (seqOf st d) st := (rfl)
@[simp] theorem k_totup : kTuple.ev [d] st = evSeq (fun xs st => .ok (.tup xs) st) (seqOf st d) st := (rfl)
@[simp] theorem k_all : kAll.ev [d] st = R.opt (α := D) (((lstOf st d).bind blsOf).map fun bs => D.bl (bs.all id)) st := (rfl)
@[simp] theorem k_any : kAny.ev [d] st = R.opt (((lstOf st d).bind blsOf).map fun bs => D.bl (bs.any id)) st := (rfl)
@[simp] theorem k_repr : kRepr.ev [d] st = R.when (repOkB (toPy (lookD st d))) (.ok (.str (toPy (lookD st d)).shown) st) := (rfl)
@[simp] theorem k_sdic : (kSortDic m).ev [d] st = evSD m d st := (rfl)
@[simp] theorem sl_t {lo hi : Option Int} : evSl m (.tup ds) lo hi st = .ok (.tup (cutD ds lo hi)) st := (rfl)
@[simp] theorem sl_r {lo hi : Option Int} : evSl m (.rol ds) lo hi st = newR m (cutD ds lo hi) st := (rfl)
@[simp] theorem sl_l {lo hi : Option Int} : evSl m (.lst ds) lo hi st = newR m (cutD ds lo hi) st := (rfl)
@[simp] theorem rev_t : evRev m (.tup ds) st = .ok (.tup ds.reverse) st := (rfl)
@[simp] theorem rev_l : evRev m (.lst ds) st = newR m ds.reverse st := (rfl)
@[simp] theorem stix_t : strOkIx (.tup ds) = true := (rfl)
@[simp] theorem stix_l : strOkIx (.lst ds) = true := (rfl)
@[simp] theorem stix_r : strOkIx (.ref n) = true := (rfl)
@[simp] theorem it_t : itSeq (.tup ds) st = .ok (ds, fun _ => true) st := (rfl)
@[simp] theorem it_l : itSeq (.lst ds) st = .ok (ds, fun _ => true) st := (rfl)
@[simp] theorem it_r1 : itR1 (.int i) st = R.when (b62 i) (.ok (rngD 0 i.toNat, fun _ => true) st) := (rfl)
@[simp] theorem it_r2 : itR2 (.int i) (.int j) st = R.when (b62 i && b62 j) (.ok (rngD i (j - i).toNat, fun _ => true) st) := (rfl)
@[simp] theorem it_zt {sf : Bool} : itZip sf (.tup ds) (.tup es) st = R.when (!sf || decide (ds.length = es.length)) (.ok (pairD ds es, fun _ => true) st) := (rfl)
@[simp] theorem it_zl {sf : Bool} : itZip sf (.tup ds) (.lst es) st = R.when (!sf || decide (ds.length = es.length)) (.ok (pairD ds es, fun _ => true) st) := (rfl)
@[simp] theorem it_zm {sf : Bool} : itZip sf (.lst ds) (.tup es) st = R.when (!sf || decide (ds.length = es.length)) (.ok (pairD ds es, fun _ => true) st) := (rfl)
@[simp] theorem it_zz {sf : Bool} : itZip sf (.lst ds) (.lst es) st = R.when (!sf || decide (ds.length = es.length)) (.ok (pairD ds es, fun _ => true) st) := (rfl)
@[simp] theorem it_et : itEnum (.tup ds) st = .ok (numD ds, fun _ => true) st := (rfl)
@[simp] theorem it_el : itEnum (.lst ds) st = .ok (numD ds, fun _ => true) st := (rfl)
@[simp] theorem meth_app : evMeth nAppend (.ref n) y st = (match st[n]? with | some (.lst xs) => if xs.length < sizeLine then R.when (noRef n y) (.ok .non (st.set n (.lst (xs ++ [y])))) else .no | _ => .no) := by
  unfold evMeth
  simp only [r_ref]
  cases h : st[n]? with
  | none => rfl
  | some o =>
    cases o with
    | dic _ _ => rfl
    | lst xs =>
      show (match (if xs.length < sizeLine then some (xs ++ [y], D.non) else none) with | some (ys, z) => R.when (noRef n y) (.ok z (st.set n (.lst ys))) | none => .no) = _
      by_cases c : xs.length < sizeLine <;> simp [c]
@[simp] theorem meth_ext : evMeth nExtend (.ref n) (.lst es) st = (match st[n]? with | some (.lst xs) => if xs.length + es.length ≤ sizeLine then R.when (noRefs n es) (.ok .non (st.set n (.lst (xs ++ es)))) else .no | _ => .no) := by
  unfold evMeth
  simp only [r_ref]
  cases h : st[n]? with
  | none => rfl
  | some o =>
    cases o with
    | dic _ _ => rfl
    | lst xs =>
      show (match (if xs.length + es.length ≤ sizeLine then some (xs ++ es, D.non) else none) with | some (ys, z) => R.when (noRefs n es) (.ok z (st.set n (.lst ys))) | none => .no) = _
      by_cases c : xs.length + es.length ≤ sizeLine <;> simp [c]
@[simp] theorem rb_rt : retB md n (.rt d st) = retR md n d st := (rfl)
@[simp] theorem rb_nx {en : Env} : retB md n (.nx en st) = retR md n .non st := (rfl)
@[simp] theorem rb_ex {en : Env} {z : DX} : retB md n (.ex z en st) = if noRefs n (z.fs.map (·.2)) then .ex z (st.take n) else .no := (rfl)
/-- a value handed back -/
theorem rr_val (h : noRef n d = true) : retR 0 n d st = .ok d (st.take n) := if_pos h
theorem rr_lst {k : Nat} (h : n ≤ k) (e : st[k]? = some (.lst ds)) (hr : noRefs n ds = true) : retR 0 n (.ref k) st = .ok (.lst ds) (st.take n) := by
  have : ¬ (noRef n (.ref k) = true) := by rw [noRef]; simp; omega
  refine (if_neg this).trans ?_
  rw [e]
  exact if_pos hr
@[simp] theorem rr_bl {b : Bool} : retR 0 n (.bl b) st = .ok (.bl b) (st.take n) := rr_val (by simp [noRef])
@[simp] theorem rr_int : retR 0 n (.int i) st = .ok (.int i) (st.take n) := rr_val (by simp [noRef])
@[simp] theorem rr_str {s : Str} : retR 0 n (.str s) st = .ok (.str s) (st.take n) := rr_val (by simp [noRef])
@[simp] theorem rr_non : retR 0 n .non st = .ok .non (st.take n) := rr_val (by simp [noRef])
def endF (md n : Nat) (Q : QD) (E : QX) : EndsD := ⟨fun _ st => (retR md n .non st).sat Q E, fun d st => (retR md n d st).sat Q E, fun _ _ => False, fun _ _ => False, fun x _ st => noRefs n (x.fs.map (·.2)) = true ∧ E x (st.take n)⟩
@[simp] theorem ef_nx {Q : QD} {E : QX} {en : Env} : (endF md n Q E).nx en st = (retR md n .non st).sat Q E := (rfl)
@[simp] theorem ef_rt {Q : QD} {E : QX} {d : D} : (endF md n Q E).rt d st = (retR md n d st).sat Q E := (rfl)
@[simp] theorem ef_ex {Q : QD} {E : QX} {en : Env} {x : DX} : (endF md n Q E).ex x en st = (noRefs n (x.fs.map (·.2)) = true ∧ E x (st.take n)) := (rfl)
theorem sat_retB {r : RB} {Q : QD} {E : QX} : (retB md n r).sat Q E = r.sat (endF md n Q E) := by
  cases r with
  | ex x en st =>
    show (retB md n (.ex x en st)).sat Q E = (noRefs n (x.fs.map (·.2)) = true ∧ E x (st.take n))
    rw [rb_ex]
    by_cases h : noRefs n (x.fs.map (·.2)) = true
    · rw [if_pos h, R.sat_ex, eq_true h, true_and]
    · rw [if_neg h, R.sat_no, eq_false h, false_and]
  | _ => rfl
/-- a def, by what its body does -/
theorem run_sat {F : FS} {ar md n : Nat} {b : List RS} {ds : List D} {en : Env} {st : Sto} {Q : QD} {E : QX} (hF : F = mkF ar md n b) (he : env0 n ds = en) (h : (evB b en st).sat (endF md st.length Q E)) : (F.f ds st).sat Q E := by
  subst hF; subst he
  show (retB md st.length (evB b (env0 n ds) st)).sat Q E
  rw [sat_retB]
  exact h
theorem run_eq {F : FS} {ar md n : Nat} {b : List RS} {ds : List D} {en : Env} {st st' : Sto} {d : D} (hF : F = mkF ar md n b) (he : env0 n ds = en) (h : (evB b en st).sat (endF md st.length (fun x t => x = d ∧ t = st') fun _ _ => False)) : F.f ds st = .ok d st' :=
  R.eq_of_sat (run_sat hF he h)
@[simp] theorem take_self {α : Type} (l : List α) : l.take l.length = l := List.take_length
@[simp] theorem take_app {α : Type} (l r : List α) : (l ++ r).take l.length = l := by simp
@[simp] theorem take_sapp {α : Type} (l r : List α) (k : Nat) (x : α) : (l.set k x ++ r).take l.length = l.set k x := by
  rw [show l.length = (l.set k x).length by simp, take_app]
@[simp] theorem take_set {α : Type} (l : List α) (k : Nat) (x : α) : (l.set k x).take l.length = l.set k x := by
  rw [show l.length = (l.set k x).length by simp, take_self]
end
section
variable {α β : Type} {r : R α} {f : α → Sto → R β} {k : α → Sto → RB} {g : Env → Sto → RB} {q : RB} {Q : β → Sto → Prop} {Q' : α → Sto → Prop} {E : QX} {N : EndsD} {en : Env} {b : Bool}
/-! simp goes on from left to right -/
end
def EndsD.on (N : EndsD) (f : Env → Sto → Prop) : EndsD := { N with nx := f }
def EndsD.lp (N : EndsD) (f : Env → Sto → Prop) : EndsD := { N with nx := f, ct := f, bk := N.nx }
section
variable {N : EndsD} {f : Env → Sto → Prop} {en : Env} {st : Sto} {d : D} {x : DX}
@[simp] theorem on_nx : (N.on f).nx en st = f en st := (rfl)
@[simp] theorem on_rt : (N.on f).rt d st = N.rt d st := (rfl)
@[simp] theorem on_bk : (N.on f).bk en st = N.bk en st := (rfl)
@[simp] theorem on_ct : (N.on f).ct en st = N.ct en st := (rfl)
@[simp] theorem on_ex : (N.on f).ex x en st = N.ex x en st := (rfl)
@[simp] theorem lp_nx : (N.lp f).nx en st = f en st := (rfl)
@[simp] theorem lp_rt : (N.lp f).rt d st = N.rt d st := (rfl)
@[simp] theorem lp_bk : (N.lp f).bk en st = N.nx en st := (rfl)
@[simp] theorem lp_ct : (N.lp f).ct en st = f en st := (rfl)
@[simp] theorem lp_ex : (N.lp f).ex x en st = N.ex x en st := (rfl)
end
section
variable {α β : Type} {r : R α} {f : α → Sto → R β} {k : α → Sto → RB} {g : Env → Sto → RB} {q : RB} {Q : β → Sto → Prop} {Q' : α → Sto → Prop} {E : QX} {N : EndsD} {en : Env} {b : Bool}
@[simp ↓] theorem p_bind : r.bind f = @R.bindI α β r ⟨f⟩ := (rfl)
@[simp ↓] theorem p_sat : r.sat Q' E = @R.satI α r ⟨Q', E⟩ := (rfl)
@[simp ↓] theorem p_st : r.st en k = @R.stI α r en ⟨k⟩ := (rfl)
@[simp ↓] theorem p_seq : q.seq g = @RB.seqI q ⟨g⟩ := (rfl)
@[simp ↓] theorem p_turn : q.turn g = @RB.turnI q ⟨g⟩ := (rfl)
@[simp ↓] theorem p_bsat : q.sat N = @RB.satI q ⟨N⟩ := (rfl)
variable {a : α} {st : Sto} {x : DX} {d : D}
@[simp] theorem i_bok : @R.bindI α β (.ok a st) ⟨f⟩ = f a st := (rfl)
@[simp] theorem i_bex : @R.bindI α β (.ex x st) ⟨f⟩ = .ex x st := (rfl)
@[simp] theorem i_bno : @R.bindI α β .no ⟨f⟩ = .no := (rfl)
@[simp] theorem i_sok : @R.satI α (.ok a st) ⟨Q', E⟩ = Q' a st := (rfl)
@[simp] theorem i_sex : @R.satI α (.ex x st) ⟨Q', E⟩ = E x st := (rfl)
@[simp] theorem i_sno : @R.satI α .no ⟨Q', E⟩ = False := (rfl)
@[simp] theorem i_tok : @R.stI α (.ok a st) en ⟨k⟩ = k a st := (rfl)
@[simp] theorem i_tex : @R.stI α (.ex x st) en ⟨k⟩ = .ex x en st := (rfl)
@[simp] theorem i_tno : @R.stI α .no en ⟨k⟩ = .no := (rfl)
@[simp] theorem i_qnx : @RB.seqI (.nx en st) ⟨g⟩ = g en st := (rfl)
@[simp] theorem i_qrt : @RB.seqI (.rt d st) ⟨g⟩ = .rt d st := (rfl)
@[simp] theorem i_qbk : @RB.seqI (.bk en st) ⟨g⟩ = .bk en st := (rfl)
@[simp] theorem i_qct : @RB.seqI (.ct en st) ⟨g⟩ = .ct en st := (rfl)
@[simp] theorem i_qex : @RB.seqI (.ex x en st) ⟨g⟩ = .ex x en st := (rfl)
@[simp] theorem i_qno : @RB.seqI .no ⟨g⟩ = .no := (rfl)
@[simp] theorem i_unx : @RB.turnI (.nx en st) ⟨g⟩ = g en st := (rfl)
@[simp] theorem i_urt : @RB.turnI (.rt d st) ⟨g⟩ = .rt d st := (rfl)
@[simp] theorem i_ubk : @RB.turnI (.bk en st) ⟨g⟩ = .nx en st := (rfl)
@[simp] theorem i_uct : @RB.turnI (.ct en st) ⟨g⟩ = g en st := (rfl)
@[simp] theorem i_uex : @RB.turnI (.ex x en st) ⟨g⟩ = .ex x en st := (rfl)
@[simp] theorem i_uno : @RB.turnI .no ⟨g⟩ = .no := (rfl)
@[simp] theorem i_bnx : @RB.satI (.nx en st) ⟨N⟩ = N.nx en st := (rfl)
@[simp] theorem i_brt : @RB.satI (.rt d st) ⟨N⟩ = N.rt d st := (rfl)
@[simp] theorem i_bbk : @RB.satI (.bk en st) ⟨N⟩ = N.bk en st := (rfl)
@[simp] theorem i_bct : @RB.satI (.ct en st) ⟨N⟩ = N.ct en st := (rfl)
@[simp] theorem i_bbx : @RB.satI (.ex x en st) ⟨N⟩ = N.ex x en st := (rfl)
@[simp] theorem i_bbn : @RB.satI .no ⟨N⟩ = False := (rfl)
@[simp] theorem s_bind {Q : β → Sto → Prop} : @R.satI β (@R.bindI α β r ⟨f⟩) ⟨Q, E⟩ = @R.satI α r ⟨fun a st => (f a st).sat Q E, E⟩ := R.sat_bind
@[simp] theorem s_st : @RB.satI (@R.stI α r en ⟨k⟩) ⟨N⟩ = @R.satI α r ⟨fun a st => (k a st).sat N, fun x st => N.ex x en st⟩ := R.sat_st
@[simp] theorem s_seq : @RB.satI (@RB.seqI q ⟨g⟩) ⟨N⟩ = @RB.satI q ⟨N.on fun en st => (g en st).sat N⟩ := RB.sat_seq
@[simp] theorem s_turn : @RB.satI (@RB.turnI q ⟨g⟩) ⟨N⟩ = @RB.satI q ⟨N.lp fun en st => (g en st).sat N⟩ := RB.sat_turn
@[simp] theorem s_when : @R.satI α (R.when b r) ⟨Q', E⟩ = (b = true ∧ r.sat Q' E) := R.sat_when
@[simp] theorem s_bwhen : @RB.satI (RB.when b q) ⟨N⟩ = (b = true ∧ q.sat N) := RB.sat_when
@[simp] theorem s_calm : @R.satI α r.calm ⟨Q', E⟩ = r.sat Q' (fun _ _ => False) := R.sat_calm
end
theorem szB_of {n : Nat} (h : n ≤ 1000000) : szB n = true := decide_eq_true (by rw [sizeLine_eq]; omega)

@[simp] theorem szB_0 : szB 0 = true := by decide +kernel
@[simp] theorem szB_1 : szB 1 = true := by decide +kernel
@[simp] theorem szB_2 : szB 2 = true := by decide +kernel
@[simp] theorem szB_3 : szB 3 = true := by decide +kernel
@[simp] theorem szB_4 : szB 4 = true := by decide +kernel
@[simp] theorem szB_5 : szB 5 = true := by decide +kernel
@[simp] theorem szB_6 : szB 6 = true := by decide +kernel
@[simp] theorem szB_7 : szB 7 = true := by decide +kernel
@[simp] theorem szB_8 : szB 8 = true := by decide +kernel
@[simp] theorem szB_9 : szB 9 = true := by decide +kernel
@[simp] theorem szB_10 : szB 10 = true := by decide +kernel
@[simp] theorem szB_11 : szB 11 = true := by decide +kernel
@[simp] theorem szB_12 : szB 12 = true := by decide +kernel
/-! ### turns -/
theorem forE_inv {t : Tg} {b : Env → Sto → RB} {ck : Sto → Bool} {N : EndsD} (items : List D) (P : Nat → Env → Sto → Prop) {en : Env} {st : Sto} (h0 : P 0 en st) (hok : ∀ i en st, P i en st → ck st = true)
    (hs : ∀ i d en st, items[i]? = some d → P i en st → ∃ en1, putT t en d = some en1 ∧ (b en1 st).sat (N.lp (P (i + 1)))) (hd : ∀ en st, P items.length en st → N.nx en st) : (forE t b ck items en st).sat N := by
  have gen : ∀ (r : List D) (i : Nat) (en : Env) (st : Sto), items.drop i = r → i ≤ items.length → P i en st → (forE t b ck r en st).sat N := by
    intro r
    induction r with
    | nil =>
      intro i en st e hi h
      have : i = items.length := by
        have := congrArg List.length e
        rw [List.length_drop] at this
        simp at this
        omega
      subst this
      rw [forE, hok _ _ _ h]
      exact hd _ _ h
    | cons d r ih =>
      intro i en st e hi h
      have hlt : i < items.length := by
        have := congrArg List.length e
        rw [List.length_drop] at this
        simp at this
        omega
      have ed : items[i]? = some d := by
        have := congrArg (fun l => l[0]?) e
        simpa using this
      obtain ⟨en1, e1, h1⟩ := hs i d en st ed h
      have er : items.drop (i + 1) = r := by
        have := congrArg List.tail e
        simpa using this
      rw [forE, hok _ _ _ h, e1, toB_s, RB.seq_nx, RB.when_t, RB.sat_turn]
      exact RB.sat_mono h1 ⟨fun en st q => ih (i + 1) en st er hlt q, fun _ _ q => q, fun _ _ q => q, fun en st q => ih (i + 1) en st er hlt q, fun _ _ _ q => q⟩
  exact gen items 0 en st (by simp) (Nat.zero_le _) h0
theorem compE_inv {t : Tg} {vs : List Nat} {c : Env → Sto → R Bool} {elt : Env → Sto → R D} {ck : Sto → Bool} {en : Env} {Q : List D → Sto → Prop} {E : QX} (items : List D) (P : Nat → List D → Sto → Prop) {st : Sto} (h0 : P 0 [] st) (hok : ∀ i acc st, P i acc st → ck st = true)
    (hs : ∀ i d acc st, items[i]? = some d → P i acc st → ∃ en1, putT t (wipeD en vs) d = some en1 ∧ (c en1 st).sat (fun b st1 => match b with
      | true => (elt en1 st1).sat (fun y st2 => P (i + 1) (acc ++ [y]) st2) E
      | false => P (i + 1) acc st1) E) (hd : ∀ acc st, P items.length acc st → Q acc st) : (compE t vs c elt ck en items st).sat Q E := by
  have gen : ∀ (r : List D) (i : Nat) (acc : List D) (st : Sto), items.drop i = r → i ≤ items.length → P i acc st → (compE t vs c elt ck en r st).sat (fun ys st' => Q (acc ++ ys) st') E := by
    intro r
    induction r with
    | nil =>
      intro i acc st e hi h
      have : i = items.length := by
        have := congrArg List.length e
        rw [List.length_drop] at this
        simp at this
        omega
      subst this
      rw [compE, hok _ _ _ h]
      simpa using hd _ _ h
    | cons d r ih =>
      intro i acc st e hi h
      have hlt : i < items.length := by
        have := congrArg List.length e
        rw [List.length_drop] at this
        simp at this
        omega
      have ed : items[i]? = some d := by
        have := congrArg (fun l => l[0]?) e
        simpa using this
      obtain ⟨en1, e1, h1⟩ := hs i d acc st ed h
      have er : items.drop (i + 1) = r := by
        have := congrArg List.tail e
        simpa using this
      rw [compE, hok _ _ _ h, e1]
      show ((c en1 st).bind _).sat _ _
      rw [R.sat_bind]
      refine R.sat_mono h1 (fun b st1 hb => ?_) fun _ _ q => q
      cases b with
      | true =>
        show ((elt en1 st1).bind _).sat _ _
        rw [R.sat_bind]
        refine R.sat_mono hb (fun y st2 hy => ?_) fun _ _ q => q
        rw [R.sat_bind]
        refine R.sat_mono (ih (i + 1) (acc ++ [y]) st2 er hlt hy) (fun ys st3 q => ?_) fun _ _ q => q
        show Q (acc ++ y :: ys) st3
        have e : acc ++ y :: ys = (acc ++ [y]) ++ ys := by simp
        rw [e]
        exact q
      | false => exact ih (i + 1) acc st1 er hlt hb
  have := gen items 0 [] st (by simp) (Nat.zero_le _) h0
  simpa using this
/-- a comprehension whose parts change nothing -/
theorem compE_map {t : Tg} {vs : List Nat} {c : Env → Sto → R Bool} {elt : Env → Sto → R D} {ck : Sto → Bool} {en : Env} {st : Sto} (p : D → Bool) (g : D → D) (hk : ck st = true) : ∀ (items : List D),
    (∀ d ∈ items, ∃ en1, putT t (wipeD en vs) d = some en1 ∧ c en1 st = .ok (p d) st ∧ (p d = true → elt en1 st = .ok (g d) st)) → compE t vs c elt ck en items st = .ok ((items.filter p).map g) st
  | [], _ => by rw [compE, hk]; rfl
  | d :: r, h => by
    obtain ⟨en1, e1, e2, e3⟩ := h d List.mem_cons_self
    have ih := compE_map p g hk r fun d hd => h d (List.mem_cons_of_mem _ hd)
    rw [compE, hk, e1, R.when_t]
    dsimp only
    rw [e2, R.bind_ok]
    cases hp : p d with
    | true => dsimp only; rw [e3 hp, R.bind_ok, ih, R.bind_ok, List.filter_cons_of_pos hp]; rfl
    | false => dsimp only; rw [ih, List.filter_cons_of_neg (by simp [hp])]
theorem compE_all {t : Tg} {vs : List Nat} {elt : Env → Sto → R D} {ck : Sto → Bool} {en : Env} {st : Sto} (g : D → D) (hk : ck st = true) (items : List D)
    (h : ∀ d ∈ items, ∃ en1, putT t (wipeD en vs) d = some en1 ∧ elt en1 st = .ok (g d) st) : compE t vs (evC none) elt ck en items st = .ok (items.map g) st := by
  have e := compE_map (t := t) (vs := vs) (c := evC none) (elt := elt) (ck := ck) (en := en) (st := st) (fun _ => true) g hk items fun d hd => by
    obtain ⟨en1, e1, e2⟩ := h d hd
    exact ⟨en1, e1, rfl, fun _ => e2⟩
  rw [List.filter_eq_self.mpr (by simp)] at e
  exact e
theorem whE_inv {t : Env → Sto → R Bool} {b : Env → Sto → RB} {N : EndsD} (P : Nat → Env → Sto → Prop) (hs : ∀ m en st, P m en st → (t en st).sat (fun c st1 => match c with
      | true => 0 < m ∧ (b en st1).sat (N.lp (P (m - 1)))
      | false => N.nx en st1) fun x st => N.ex x en st) : ∀ (n m : Nat) (en : Env) (st : Sto), m < n → P m en st → (whE t b n en st).sat N
  | 0, _, _, _, h, _ => absurd h (Nat.not_lt_zero _)
  | n + 1, m, en, st, hm, h => by
    rw [whE, R.sat_st]
    refine R.sat_mono (hs m en st h) (fun c st1 hc => ?_) fun _ _ q => q
    cases c with
    | true =>
      dsimp only at hc ⊢
      rw [RB.sat_turn]
      exact RB.sat_mono hc.2 ⟨fun en st q => whE_inv P hs n (m - 1) en st (by omega) q, fun _ _ q => q, fun _ _ q => q, fun en st q => whE_inv P hs n (m - 1) en st (by omega) q, fun _ _ _ q => q⟩
    | false => exact hc
end Mi
/-! DsA: the drawing defs that nearly all laws share: what they draw. (the lists B.. and N.. are printed by gen2.py) -/
namespace Mi
open PySem PySem.Spec PyProof.Rows L2

/-! ### programs, lots -/
inductive Act where
  | send (i : Nat) (l : Int) | take (i : Nat) (l : Int) | test (i : Nat) | rest
structure Stp where
  here : Nat
  act : Act
  there : Nat
abbrev Mach := Nat × List Stp
structure Pro where
  lanes : Nat
  letters : Nat
  ms : List Mach
structure Lt where
  pl : List Nat
  ws : List (List Int)
def actD : Act → D
  | .send i l => .tup [.str "send", .int i, .int l]
  | .take i l => .tup [.str "take", .int i, .int l]
  | .test i => .tup [.str "test", .int i]
  | .rest => .tup [.str "rest"]
def stpD (s : Stp) : D := .tup [.int s.here, actD s.act, .int s.there]
def machD (m : Mach) : D := .tup [.int m.1, .tup (m.2.map stpD)]
def proD (p : Pro) : D := .tup [.int p.lanes, .int p.letters, .tup (p.ms.map machD)]
/-- words, the words of the lanes, places -/
def wordD (w : List Int) : D := .tup (Is w)
def wordsD (ws : List (List Int)) : D := .tup (ws.map wordD)
def plD (ns : List Nat) : D := .tup (Ns ns)
def lotD (x : Lt) : D := .tup [plD x.pl, wordsD x.ws]
def OkAct (lanes letters : Nat) : Act → Prop
  | .send i l => i < lanes ∧ 0 ≤ l ∧ l < letters
  | .take i l => i < lanes ∧ 0 ≤ l ∧ l < letters
  | .test i => i < lanes
  | .rest => True
structure OkStp (lanes letters places : Nat) (s : Stp) : Prop where
  here : s.here < places
  act : OkAct lanes letters s.act
  there : s.there < places
structure OkMach (lanes letters most : Nat) (m : Mach) : Prop where
  pos : 0 < m.1
  le : m.1 ≤ 5
  len : m.2.length ≤ most
  stp : ∀ s ∈ m.2, OkStp lanes letters m.1 s
  nd : (m.2.map stpD).Nodup
  pw : (m.2.map stpD).Pairwise fun x y => leD x y = true
structure OkPro (most : Nat) (p : Pro) : Prop where
  l1 : 0 < p.lanes
  l2 : p.lanes ≤ 3
  t1 : 0 < p.letters
  t2 : p.letters ≤ 3
  m1 : 0 < p.ms.length
  m2 : p.ms.length ≤ 3
  ms : ∀ m ∈ p.ms, OkMach p.lanes p.letters most m
structure OkLot (p : Pro) (most : Nat) (x : Lt) : Prop where
  len : x.pl.length = p.ms.length
  pl : ∀ (i : Nat) (a : Nat) (m : Mach), x.pl[i]? = some a → p.ms[i]? = some m → a < m.1
  wl : x.ws.length = p.lanes
  ws : ∀ w ∈ x.ws, w.length ≤ most ∧ ∀ l ∈ w, 0 ≤ l ∧ l < p.letters

/-- the draws' own list: the script, how many were taken, what is left of the last one -/
def PenAt (st : Sto) (n : Nat) : Prop := ∃ (g : List Int) (k r : Int), st[n]? = some (.lst [.lst (Is g), .int k, .int r]) ∧ 0 ≤ k ∧ 0 ≤ r
def PenTo (st : Sto) (n : Nat) (st' : Sto) : Prop := ∃ (o : O), st' = st.set n o ∧ PenAt st' n
/-- _law_pen -/
def N._law_pen : List Str := ["script"]
def B._law_pen : List RS := [
  xRet (rList true [(rB (kList false) [(rSl false (rVar 0) none (some (rInt 63)))]), (rInt 0), (rInt 0)])]
def F._law_pen : FS := mkF 1 1 1 B._law_pen
@[simp] theorem F.ar_law_pen : F._law_pen.ar = 1 := (rfl)

/-- _law_fresh -/
def N._law_fresh : List Str := ["pen", "seat", "given", "cell", "prime", "state", "found", "lap"]
def B._law_fresh : List RS := [
  xPar2 1 2 (rIx (rVar 0) (rInt 1)) (rIx (rVar 0) (rInt 0)),
  xSetIx (rVar 0) (rInt 1) (rBin .Add (oAdd false) (rVar 1) (rInt 1)),
  xSet 3 (rIf (qCm .NotEq oNe (rVar 2) (rList false [])) (rIx (rVar 2) (rBin .Mod oMod (rB kInt [(rVar 1)]) (rB kLen [(rVar 2)]))) (rInt 0)),
  xIf (qAn [(qCm .Lt oLtI (rVar 1) (rB kLen [(rVar 2)])), (qCm .GtE oGe (rVar 3) (rBin .Pow oPow (rInt 10) (rInt 18)))]) [
      xRet (rBin .Sub oSub (rVar 3) (rBin .Pow oPow (rInt 10) (rInt 18)))] [],
  xSet 4 (rInt 2305843009213693951),
  xSet 5 (rBin .Mod oMod (rB kInt [(rBin .Add (oAdd false) (rBin .Add (oAdd false) (rBin .Mult (oMul false) (rVar 3) (rInt 48271)) (rBin .Mult (oMul false) (rInt 60013) (rVar 1))) (rInt 31))]) (rVar 4)),
  xSet 6 (rVar 5),
  xFor (.nm 7) (jRange1 (rInt 6)) [
      xSet 5 (rBin .Mod oMod (rB kInt [(rBin .Add (oAdd false) (rBin .Add (oAdd false) (rBin .Mult (oMul false) (rVar 5) (rVar 5)) (rBin .Mult (oMul false) (rBin .Mult (oMul false) (rInt 70139) (rBin .Add (oAdd false) (rVar 7) (rInt 5))) (rBin .Add (oAdd false) (rVar 1) (rInt 1)))) (rVar 3))]) (rVar 4)),
      xSet 6 (rBin .Add (oAdd false) (rBin .Mult (oMul false) (rVar 6) (rVar 4)) (rVar 5))],
  xRet (rVar 6)]
def F._law_fresh : FS := mkF 1 0 8 B._law_fresh
@[simp] theorem F.ar_law_fresh : F._law_fresh.ar = 1 := (rfl)

/-- _law_draw -/
def N._law_draw : List Str := ["pen", "bound", "digit"]
def B._law_draw : List RS := [
  xIf (qCm .Lt oLtI (rIx (rVar 0) (rInt 2)) (rVar 1)) [
      xSetIx (rVar 0) (rInt 2) (rCall "_law_fresh" F._law_fresh [] [(rVar 0)])] [],
  xSet 2 (rBin .Mod oMod (rB kInt [(rIx (rVar 0) (rInt 2))]) (rVar 1)),
  xSetIx (rVar 0) (rInt 2) (rBin .FloorDiv oFDiv (rB kInt [(rIx (rVar 0) (rInt 2))]) (rVar 1)),
  xRet (rVar 2)]
def F._law_draw : FS := mkF 2 0 3 B._law_draw
@[simp] theorem F.ar_law_draw : F._law_draw.ar = 2 := (rfl)

/-- _law_one_of -/
def N._law_one_of : List Str := ["pen", "some"]
def B._law_one_of : List RS := [
  xRet (rIx (rVar 1) (rCall "_law_draw" F._law_draw [] [(rVar 0), (rB kLen [(rVar 1)])]))]
def F._law_one_of : FS := mkF 2 0 2 B._law_one_of
@[simp] theorem F.ar_law_one_of : F._law_one_of.ar = 2 := (rfl)

/-- _law_drawn_word -/
def N._law_drawn_word : List Str := ["pen", "letters", "most", "lap"]
def B._law_drawn_word : List RS := [
  xRet (rB kTuple [(rComp false (.nm 3) [("lap", 3)] (jRange1 (rCall "_law_draw" F._law_draw [] [(rVar 0), (rBin .Add (oAdd false) (rVar 2) (rInt 1))])) none (rCall "_law_draw" F._law_draw [] [(rVar 0), (rVar 1)]))])]
def F._law_drawn_word : FS := mkF 3 0 4 B._law_drawn_word
@[simp] theorem F.ar_law_drawn_word : F._law_drawn_word.ar = 3 := (rfl)

/-- _law_drawn_step -/
def N._law_drawn_step : List Str := ["pen", "lanes", "letters", "places", "word", "action"]
def B._law_drawn_step : List RS := [
  xSet 4 (rCall "_law_one_of" F._law_one_of [] [(rVar 0), (rList false [(rStr "send"), (rStr "send"), (rStr "take"), (rStr "take"), (rStr "take"), (rStr "rest"), (rStr "test")])]),
  xSet 5 (rTup [(rVar 4), (rCall "_law_draw" F._law_draw [] [(rVar 0), (rVar 1)]), (rCall "_law_draw" F._law_draw [] [(rVar 0), (rVar 2)])]),
  xIf (qCm .Eq oEq (rVar 4) (rStr "test")) [
      xSet 5 (rSl false (rVar 5) none (some (rInt 2)))] [],
  xRet (rTup [(rCall "_law_draw" F._law_draw [] [(rVar 0), (rVar 3)]), (rIf (qCm .NotEq oNe (rVar 4) (rStr "rest")) (rVar 5) (rTup [(rStr "rest")])), (rCall "_law_draw" F._law_draw [] [(rVar 0), (rVar 3)])])]
def F._law_drawn_step : FS := mkF 4 0 6 B._law_drawn_step
@[simp] theorem F.ar_law_drawn_step : F._law_drawn_step.ar = 4 := (rfl)

/-- _law_drawn_machine -/
def N._law_drawn_machine : List Str := ["pen", "lanes", "letters", "places", "most", "some", "lap"]
def B._law_drawn_machine : List RS := [
  xSetLc 5 false (.nm 6) [("lap", 6)] (jRange1 (rCall "_law_draw" F._law_draw [] [(rVar 0), (rBin .Add (oAdd false) (rVar 4) (rInt 1))])) none (rCall "_law_drawn_step" F._law_drawn_step [] [(rVar 0), (rVar 1), (rVar 2), (rVar 3)]),
  xRet (rTup [(rVar 3), (rB kTuple [(rSortSet false (rVar 5))])])]
def F._law_drawn_machine : FS := mkF 5 0 7 B._law_drawn_machine
@[simp] theorem F.ar_law_drawn_machine : F._law_drawn_machine.ar = 5 := (rfl)

/-- _law_drawn_program -/
def N._law_drawn_program : List Str := ["pen", "most", "lanes", "letters", "many", "machines", "lap", "places"]
def B._law_drawn_program : List RS := [
  xPar2 2 3 (rCall "_law_one_of" F._law_one_of [] [(rVar 0), (rList false [(rInt 1), (rInt 1), (rInt 2), (rInt 2), (rInt 3)])]) (rCall "_law_one_of" F._law_one_of [] [(rVar 0), (rList false [(rInt 1), (rInt 2), (rInt 2), (rInt 3)])]),
  xSet 4 (rCall "_law_one_of" F._law_one_of [] [(rVar 0), (rList false [(rInt 1), (rInt 1), (rInt 2), (rInt 2), (rInt 3)])]),
  xSet 5 (rTup []),
  xFor (.nm 6) (jRange1 (rVar 4)) [
      xSet 7 (rBin .Add (oAdd false) (rInt 1) (rCall "_law_draw" F._law_draw [] [(rVar 0), (rCall "_law_one_of" F._law_one_of [] [(rVar 0), (rIf (qCm .Lt oLtI (rVar 4) (rInt 3)) (rList false [(rInt 3), (rInt 3), (rInt 5)]) (rList false [(rInt 2), (rInt 2), (rInt 2), (rInt 5)]))])])),
      xSet 5 (rBin .Add (oAdd false) (rVar 5) (rTup [(rCall "_law_drawn_machine" F._law_drawn_machine [] [(rVar 0), (rVar 2), (rVar 3), (rVar 7), (rVar 1)])]))],
  xRet (rTup [(rVar 2), (rVar 3), (rVar 5)])]
def F._law_drawn_program : FS := mkF 2 0 8 B._law_drawn_program
@[simp] theorem F.ar_law_drawn_program : F._law_drawn_program.ar = 2 := (rfl)

/-- _law_wide_program -/
def N._law_wide_program : List Str := ["pen", "most", "lanes", "letters", "machines", "places", "steps"]
def B._law_wide_program : List RS := [
  xAsg (.tup [(.nm 2), (.nm 3), (.nm 4)]) (rCall "_law_drawn_program" F._law_drawn_program [] [(rVar 0), (rIf (qCm .Eq oEq (rCall "_law_draw" F._law_draw [] [(rVar 0), (rInt 6)]) (rInt 5)) (rInt 24) (rVar 1))]),
  xRet (rTup [(rVar 2), (rVar 3), (rB kTuple [(rComp false (.tup [(.nm 5), (.nm 6)]) [("places", 5), ("steps", 6)] (jSeq (rVar 4)) none (rTup [(rVar 5), (rSl false (rVar 6) none (some (rInt 8)))]))])])]
def F._law_wide_program : FS := mkF 2 0 7 B._law_wide_program
@[simp] theorem F.ar_law_wide_program : F._law_wide_program.ar = 2 := (rfl)

/-- _law_drawn_lot -/
def N._law_drawn_lot : List Str := ["pen", "program", "most", "places", "machine", "lap"]
def B._law_drawn_lot : List RS := [
  xSet 3 (rB kTuple [(rComp false (.nm 4) [("machine", 4)] (jSeq (rIx (rVar 1) (rInt 2))) none (rCall "_law_draw" F._law_draw [] [(rVar 0), (rIx (rVar 4) (rInt 0))]))]),
  xRet (rTup [(rVar 3), (rB kTuple [(rComp false (.nm 5) [("lap", 5)] (jRange1 (rIx (rVar 1) (rInt 0))) none (rCall "_law_drawn_word" F._law_drawn_word [] [(rVar 0), (rIx (rVar 1) (rInt 1)), (rVar 2)]))])])]
def F._law_drawn_lot : FS := mkF 3 0 6 B._law_drawn_lot
@[simp] theorem F.ar_law_drawn_lot : F._law_drawn_lot.ar = 3 := (rfl)


end Mi
/-! DsB: _law_pen, _law_draw, _law_fresh, _law_one_of, _law_drawn_word. -/
namespace Mi
open PySem PySem.Spec PyProof.Rows L2

@[simp] theorem at_0 {α : Type} (a : α) (l : List α) : atI (a :: l) 0 = some a := by
  show atI _ ((0 : Nat) : Int) = _
  rw [atI_nat]; rfl
@[simp] theorem at_1 {α : Type} (a b : α) (l : List α) : atI (a :: b :: l) 1 = some b := by
  show atI _ ((1 : Nat) : Int) = _
  rw [atI_nat]; rfl
@[simp] theorem at_2 {α : Type} (a b c : α) (l : List α) : atI (a :: b :: c :: l) 2 = some c := by
  show atI _ ((2 : Nat) : Int) = _
  rw [atI_nat]; rfl
@[simp] theorem ix_31 : ixN 3 1 = some 1 := rfl
@[simp] theorem ix_32 : ixN 3 2 = some 2 := rfl
theorem at_mod {α : Type} (l : List α) (k : Int) (h : l ≠ []) (hk : 0 ≤ k) : ∃ a, atI l (k % (l.length : Int)) = some a ∧ a ∈ l := by
  have hp : 0 < (l.length : Int) := by
    have := List.length_pos_iff.mpr h
    omega
  have h1 := Int.emod_nonneg k (show (l.length : Int) ≠ 0 by omega)
  have h2 := Int.emod_lt_of_pos k hp
  obtain ⟨m, hm⟩ := Int.eq_ofNat_of_zero_le h1
  have hm2 : m < l.length := by omega
  refine ⟨l[m], ?_, List.getElem_mem hm2⟩
  rw [hm]
  show atI l (m : Int) = _
  rw [atI_nat, List.getElem?_eq_getElem hm2]
theorem PenTo.refl {st : Sto} {n : Nat} (h : PenAt st n) : PenTo st n st := by
  obtain ⟨g, k, r, hn, hk, hr⟩ := h
  refine ⟨.lst [.lst (Is g), .int k, .int r], ?_, g, k, r, hn, hk, hr⟩
  obtain ⟨hl, e⟩ := List.getElem?_eq_some_iff.mp hn
  rw [← e]
  exact (List.set_getElem_self hl).symm
theorem PenTo.trans {a b c : Sto} {n : Nat} (h : PenTo a n b) (g : PenTo b n c) : PenTo a n c := by
  obtain ⟨o, rfl, _⟩ := h
  obtain ⟨o', rfl, p⟩ := g
  exact ⟨o', by rw [List.set_set], by rw [List.set_set] at p ⊢; exact p⟩
theorem PenTo.pen {a b : Sto} {n : Nat} (h : PenTo a n b) : PenAt b n := by
  obtain ⟨o, rfl, p⟩ := h
  exact p
theorem PenTo.put {a b : Sto} {n : Nat} (h : PenTo a n b) (g : List Int) (k r : Int) (hk : 0 ≤ k) (hr : 0 ≤ r) : PenTo a n (b.set n (.lst [.lst (Is g), .int k, .int r])) := by
  obtain ⟨o, rfl, g0, k0, r0, hn, _⟩ := h
  have hl := (List.getElem?_eq_some_iff.mp hn).1
  refine ⟨_, by rw [List.set_set], g, k, r, ?_, hk, hr⟩
  rw [List.getElem?_set_self hl]
theorem cut_take {ds : List D} (k : Nat) : cutD ds none (some (k : Int)) = ds.take k := by
  unfold cutD
  rw [HT.sIx_nat, HT.sIx_none, List.drop_zero, Nat.sub_zero]
  by_cases h : k ≤ ds.length
  · rw [Nat.min_eq_left h]
  · rw [Nat.min_eq_right (by omega), List.take_length, List.take_of_length_le (by omega)]
theorem PenTo.len {a b : Sto} {n : Nat} (h : PenTo a n b) : b.length = a.length := by
  obtain ⟨o, rfl, _⟩ := h
  simp
theorem PenTo.take {a b : Sto} {n : Nat} (h : PenTo a n b) : b.take a.length = b := by
  rw [← h.len, List.take_length]
theorem evB_app (l r : List RS) (en : Env) (st : Sto) : evB (l ++ r) en st = (evB l en st).seq (evB r) := by
  induction l generalizing en st with
  | nil => rfl
  | cons a l ih =>
    show (a.ev en st).seq (evB (l ++ r)) = ((a.ev en st).seq (evB l)).seq (evB r)
    cases a.ev en st with
    | nx en1 st1 => exact ih en1 st1
    | _ => rfl
@[simp] theorem shp_intl (ns : List Int) : shp (.lst (Is ns)) = true := shp_of (by rw [canD]; exact cans_of_ok _ (ok_ints ns)) (by rw [dpD, dp_ints]; omega)
@[simp] theorem isE_il (ns : List Int) : eqD (.lst (Is ns)) (.lst []) = ns.isEmpty := by
  rw [isE_eq (ok_ints ns)]; cases ns <;> rfl
@[simp] theorem isE_it (ns : List Int) : eqD (.tup (Is ns)) (.tup []) = ns.isEmpty := by
  rw [isE_tup (ok_ints ns)]; cases ns <;> rfl
@[simp] theorem Is_nil : Is [] = [] := rfl
theorem rng_get {lo : Int} {n i : Nat} {d : D} (h : (rngD lo n)[i]? = some d) : i < n ∧ d = .int (lo + i) := by
  unfold rngD at h
  rw [List.getElem?_map] at h
  by_cases hi : i < n
  · rw [List.getElem?_range hi] at h
    cases h
    exact ⟨hi, rfl⟩
  · rw [List.getElem?_eq_none (by simpa using hi)] at h
    cases h
theorem rng_len {lo : Int} {n : Nat} : (rngD lo n).length = n := by simp [rngD]
theorem f_pen {ns : List Int} {st : Sto} {Q : QD} {E : QX} (hq : ∀ o st', st' = st ++ [o] → PenAt st' st.length → Q (.ref st.length) st') : (F._law_pen.f [.rol (Is ns)] st).sat Q E := by
  show (retB 1 st.length (evB B._law_pen [some (.rol (Is ns))] st)).sat Q E
  rw [sat_retB]
  simp [B._law_pen, retR, szB_of]
  have h : noRefs st.length [D.lst (cutD (Is ns) none (some 63)), .int 0, .int 0] = true := by
    have : cutD (Is ns) none (some 63) = Is (ns.take 63) := by
      rw [show (some (63 : Int)) = some ((63 : Nat) : Int) from rfl, cut_take, ← List.map_take]
    rw [this]
    exact nrs_of_can _ _ (by rw [canDs, canD, cans_of_ok _ (ok_ints _)]; simp [canDs, canD])
  rw [if_pos h]
  refine hq _ _ rfl ?_
  refine ⟨ns.take 63, 0, 0, ?_, Int.le_refl _, Int.le_refl _⟩
  rw [List.getElem?_append_right (Nat.le_refl _), Nat.sub_self, show (some (63 : Int)) = some ((63 : Nat) : Int) from rfl, cut_take, ← List.map_take]
  rfl

theorem mulB_l {i j : Int} (h : -18446744073709551616 < i) (h2 : i < 18446744073709551616) : mulB i j = true := decide_eq_true (.inl ⟨h, h2⟩)
theorem mulB_r {i j : Int} (h : -18446744073709551616 < j) (h2 : j < 18446744073709551616) : mulB i j = true := decide_eq_true (.inr ⟨h, h2⟩)
theorem b62_of {i : Int} (h : -4611686018427387904 ≤ i) (h2 : i < 4611686018427387904) : b62 i = true := decide_eq_true ⟨h, h2⟩
theorem fresh_turn (p a b c k i : Int) (n : Nat) (x2 x : Option D) (s : Sto) (hp : 0 < p) (m1 : mulB a a = true) (m2 : mulB 70139 (i + 5) = true) (m3 : mulB (70139 * (i + 5)) (k + 1) = true) (m4 : mulB b p = true) :
    evB [xSet 5 (rBin .Mod oMod (rB kInt [(rBin .Add (oAdd false) (rBin .Add (oAdd false) (rBin .Mult (oMul false) (rVar 5) (rVar 5)) (rBin .Mult (oMul false) (rBin .Mult (oMul false) (rInt 70139) (rBin .Add (oAdd false) (rVar 7) (rInt 5))) (rBin .Add (oAdd false) (rVar 1) (rInt 1)))) (rVar 3))]) (rVar 4)),
      xSet 6 (rBin .Add (oAdd false) (rBin .Mult (oMul false) (rVar 6) (rVar 4)) (rVar 5))] [some (.ref n), some (.int k), x2, some (.int c), some (.int p), some (.int a), some (.int b), some (.int i)] s =
    .nx [some (.ref n), some (.int k), x2, some (.int c), some (.int p), some (.int ((a * a + 70139 * (i + 5) * (k + 1) + c) % p)), some (.int (b * p + (a * a + 70139 * (i + 5) * (k + 1) + c) % p)), some (.int i)] s := by
  simp [m1, m2, m3, m4, hp]
theorem fresh_loop {st : Sto} {n : Nat} {k c : Int} {x2 x4 x5 x6 x7 : Option D} {N : EndsD} (hk : 0 ≤ k) (hq : ∀ i : Int, 0 ≤ i → N.rt (.int i) st) :
    (evB (B._law_fresh.drop 4) [some (.ref n), some (.int k), x2, some (.int c), x4, x5, x6, x7] st).sat N := by
  simp [B._law_fresh, v_for]
  refine ⟨mulB_r (by decide) (by decide), mulB_l (by decide) (by decide), b62_of (by decide) (by decide), ?_⟩
  refine forE_inv _ (fun i en s => ∃ (a b : Int) (x : Option D), s = st ∧ en = [some (.ref n), some (.int k), x2, some (.int c), some (.int 2305843009213693951), some (.int a), some (.int b), x] ∧ 0 ≤ a ∧ a < 2305843009213693951 ∧ 0 ≤ b) ?_ (fun _ _ _ _ => rfl) ?_ ?_
  · exact ⟨_, _, _, rfl, rfl, Int.emod_nonneg _ (by decide), Int.emod_lt_of_pos _ (by decide), Int.emod_nonneg _ (by decide)⟩
  · rintro i d en s hd ⟨a, b, x, rfl, rfl, h1, h2, h3⟩
    obtain ⟨hj, rfl⟩ := rng_get hd
    refine ⟨_, p_nm, ?_⟩
    have q := Int.emod_nonneg (a * a + 70139 * ((0 + i : Int) + 5) * (k + 1) + c) (show (2305843009213693951 : Int) ≠ 0 by decide)
    have q1 := Int.emod_lt_of_pos (a * a + 70139 * ((0 + i : Int) + 5) * (k + 1) + c) (show (0 : Int) < 2305843009213693951 by decide)
    have q2 : 0 ≤ b * 2305843009213693951 := Int.mul_nonneg h3 (by decide)
    have e := fresh_turn 2305843009213693951 a b c k (0 + i) n x2 x s (by decide) (mulB_l (by omega) (by omega)) (mulB_l (by decide) (by decide)) (mulB_l (by omega) (by omega)) (mulB_r (by decide) (by decide))
    show (evB _ [some (.ref n), some (.int k), x2, some (.int c), some (.int 2305843009213693951), some (.int a), some (.int b), some (.int (0 + i))] s).sat _
    rw [e]
    exact ⟨_, _, _, rfl, rfl, q, q1, Int.add_nonneg q2 q⟩
  · rintro en s ⟨a, b, x, rfl, rfl, h1, h2, h3⟩
    simp
    exact hq b h3
theorem f_fresh {n : Nat} {st : Sto} {Q : QD} {E : QX} (hpen : PenAt st n) (hq : ∀ (i : Int) st', PenTo st n st' → 0 ≤ i → Q (.int i) st') : (F._law_fresh.f [.ref n] st).sat Q E := by
  obtain ⟨g, k, r, hn, hk, hr⟩ := id hpen
  have hl1 := (List.getElem?_eq_some_iff.mp hn).1
  have hto := (PenTo.refl hpen).put g (k + 1) r (by omega) hr
  show (retB 0 st.length (evB B._law_fresh [some (.ref n), none, none, none, none, none, none, none] st)).sat Q E
  rw [sat_retB, ← List.take_append_drop 4 B._law_fresh, evB_app]
  generalize hT : B._law_fresh.drop 4 = T
  simp [B._law_fresh, hn, evSetIx, noRef]
  have fin : ∀ c : Int, (evB T [some (.ref n), some (.int k), some (.lst (Is g)), some (.int c), none, none, none, none] (st.set n (.lst [.lst (Is g), .int (k + 1), .int r]))).sat (endF 0 st.length Q E) := fun c => by
    rw [← hT]
    refine fresh_loop hk (fun i hi => ?_)
    simp
    exact hq _ _ hto hi
  simp at fin
  by_cases hg : g = []
  · subst hg
    simp
    have f := fin 0
    by_cases h0 : k < 0
    · omega
    · simp [h0]
      exact f
  · obtain ⟨c, hc, hm⟩ := at_mod (Is g) k (by simpa using hg) hk
    obtain ⟨c', hc', rfl⟩ := List.mem_map.mp hm
    have ne : g.isEmpty = false := by cases g <;> first | rfl | exact absurd rfl hg
    have hp : 0 < g.length := List.length_pos_iff.mpr hg
    simp at hc
    simp [ne, hc]
    refine ⟨hp, ?_⟩
    have f := fin c'
    by_cases h1 : k < (g.length : Int)
    · simp [h1]
      by_cases h2 : (1000000000000000000 : Int) ≤ c'
      · simp [h2]
        exact hq _ _ hto (by omega)
      · simp [h2]
        exact f
    · simp [h1]
      exact f
theorem f_draw {n : Nat} {b : Int} {st : Sto} {Q : QD} {E : QX} (hpen : PenAt st n) (hb : 0 < b) (hb2 : b < 1000) (hq : ∀ (i : Nat) st', PenTo st n st' → (i : Int) < b → Q (.int i) st') : (F._law_draw.f [.ref n, .int b] st).sat Q E := by
  obtain ⟨g, k, r, hn, hk, hr⟩ := id hpen
  show (retB 0 st.length (evB B._law_draw [some (.ref n), some (.int b), none] st)).sat Q E
  rw [sat_retB, B._law_draw]
  simp [hn]
  by_cases hlt : r < b
  · simp [hlt]
    refine f_fresh hpen fun i st1 hto hi => ?_
    obtain ⟨g1, k1, r1, hn1, hk1, hr1⟩ := hto.pen
    have hl1 := (List.getElem?_eq_some_iff.mp hn1).1
    have hto2 := (hto.put g1 k1 i hk1 hi).put g1 k1 (i / b) hk1 (Int.ediv_nonneg hi (Int.le_of_lt hb))
    rw [List.set_set] at hto2
    have hs : (st1.set n (.lst [.lst (Is g1), .int k1, .int i]))[n]? = some (.lst [.lst (Is g1), .int k1, .int i]) := List.getElem?_set_self hl1
    simp [evSetIx, hn1, hs, noRef]
    refine ⟨hb, ⟨hb, by omega⟩, ?_⟩
    rw [hto2.take]
    have h0 := Int.emod_nonneg i (show b ≠ 0 by omega)
    have h1 := Int.emod_lt_of_pos i hb
    have := hq (i % b).toNat _ hto2 (by omega)
    rwa [Int.toNat_of_nonneg h0] at this
  · simp [hlt, hn, evSetIx, noRef]
    refine ⟨hb, ⟨hb, by omega⟩, ?_⟩
    have h0 := Int.emod_nonneg r (show b ≠ 0 by omega)
    have h1 := Int.emod_lt_of_pos r hb
    have := hq (r % b).toNat _ ((PenTo.refl hpen).put g k (r / b) hk (Int.ediv_nonneg hr (Int.le_of_lt hb))) (by omega)
    rwa [Int.toNat_of_nonneg h0] at this
theorem f_word {n : Nat} {l m : Int} {st : Sto} {Q : QD} {E : QX} (hpen : PenAt st n) (h1 : 0 < l) (h2 : l < 1000) (h3 : 0 ≤ m) (h4 : m < 900) (hq : ∀ (w : List Int) st', PenTo st n st' → (w.length : Int) ≤ m → (∀ x ∈ w, 0 ≤ x ∧ x < l) → Q (.tup (Is w)) st') :
    (F._law_drawn_word.f [.ref n, .int l, .int m] st).sat Q E := by
  show (retB 0 st.length (evB B._law_drawn_word [some (.ref n), some (.int l), some (.int m), none] st)).sat Q E
  rw [sat_retB, B._law_drawn_word]
  simp [v_comp]
  refine f_draw hpen (by omega) (by omega) fun i st1 hto hi => ?_
  simp [rng_len]
  refine ⟨b62_of (by omega) (by omega), szB_of (by omega), ?_⟩
  refine compE_inv _ (fun j acc s => PenTo st n s ∧ ∃ w : List Int, acc = Is w ∧ w.length = j ∧ j ≤ i ∧ ∀ x ∈ w, 0 ≤ x ∧ x < l) ⟨hto, [], rfl, rfl, Nat.zero_le _, by simp⟩ (fun _ _ _ _ => rfl) ?_ ?_
  · rintro j d acc s hd ⟨ht, w, rfl, hw, hj, hx⟩
    obtain ⟨hj2, rfl⟩ := rng_get hd
    refine ⟨_, p_nm, ?_⟩
    simp [evC]
    refine f_draw ht.pen h1 h2 fun v s2 ht2 hv => ?_
    refine ⟨ht.trans ht2, w ++ [(v : Int)], by simp, by simp [hw], by omega, ?_⟩
    intro x hxm
    rcases List.mem_append.mp hxm with z | z
    · exact hx x z
    · have : x = (v : Int) := by simpa using z
      rw [this]; exact ⟨by omega, hv⟩
  · rintro acc s ⟨ht, w, rfl, hw, hj, hx⟩
    rw [rng_len] at hw hj
    simp
    rw [rr_val (nr_of_can _ _ (by rw [canD]; exact cans_of_ok _ (ok_ints _))), ht.take]
    exact hq _ _ ht (by omega) hx
theorem f_one_of {n : Nat} {x : D} {l : List D} {st : Sto} {Q : QD} {E : QX} (hpen : PenAt st n) (hx : x = .lst l ∨ x = .tup l) (hne : l ≠ []) (hln : l.length < 1000) (hnr : noRefs st.length l = true) (hq : ∀ d st', PenTo st n st' → d ∈ l → Q d st') :
    (F._law_one_of.f [.ref n, x] st).sat Q E := by
  have hp : 0 < l.length := List.length_pos_iff.mpr hne
  show (retB 0 st.length (evB B._law_one_of [some (.ref n), some x] st)).sat Q E
  rw [sat_retB, B._law_one_of]
  have fin : ∀ i : Nat, (i : Int) < (l.length : Int) → ∃ d, atI l (i : Int) = some d ∧ d ∈ l := fun i hi => by
    have hi2 : i < l.length := by omega
    exact ⟨l[i], by rw [atI_nat, List.getElem?_eq_getElem hi2], List.getElem_mem hi2⟩
  rcases hx with rfl | rfl
  all_goals
    simp
    refine f_draw hpen (by omega) (by omega) fun i st1 hto hi => ?_
    obtain ⟨d, e, hm⟩ := fin i hi
    simp [e]
    rw [rr_val (noRefs_all.mp hnr d hm), hto.take]
    exact hq _ _ hto hm
end Mi
/-! DsC: _law_drawn_step, _law_drawn_machine. -/
namespace Mi
open PySem PySem.Spec PyProof.Rows L2

@[simp] theorem st_send_take : (Str.ofString "send" = Str.ofString "take") = False := eq_false (by decide +kernel)
@[simp] theorem st_send_rest : (Str.ofString "send" = Str.ofString "rest") = False := eq_false (by decide +kernel)
@[simp] theorem st_send_test : (Str.ofString "send" = Str.ofString "test") = False := eq_false (by decide +kernel)
@[simp] theorem st_take_send : (Str.ofString "take" = Str.ofString "send") = False := eq_false (by decide +kernel)
@[simp] theorem st_take_rest : (Str.ofString "take" = Str.ofString "rest") = False := eq_false (by decide +kernel)
@[simp] theorem st_take_test : (Str.ofString "take" = Str.ofString "test") = False := eq_false (by decide +kernel)
@[simp] theorem st_rest_send : (Str.ofString "rest" = Str.ofString "send") = False := eq_false (by decide +kernel)
@[simp] theorem st_rest_take : (Str.ofString "rest" = Str.ofString "take") = False := eq_false (by decide +kernel)
@[simp] theorem st_rest_test : (Str.ofString "rest" = Str.ofString "test") = False := eq_false (by decide +kernel)
@[simp] theorem st_test_send : (Str.ofString "test" = Str.ofString "send") = False := eq_false (by decide +kernel)
@[simp] theorem st_test_take : (Str.ofString "test" = Str.ofString "take") = False := eq_false (by decide +kernel)
@[simp] theorem st_test_rest : (Str.ofString "test" = Str.ofString "rest") = False := eq_false (by decide +kernel)
theorem cut2 (a b c : D) : cutD [a, b, c] none (some 2) = [a, b] := rfl
theorem can_stp (s : Stp) : canD (stpD s) = true := by
  cases s with
  | mk h a t => cases a <;> simp [stpD, actD, canD, canDs] <;> decide +kernel
@[simp] theorem nr_stp (n : Nat) (s : Stp) : noRef n (stpD s) = true := nr_of_can _ _ (can_stp s)
theorem f_step {n a b c : Nat} {st : Sto} {Q : QD} {E : QX} (hpen : PenAt st n) (ha : 0 < a) (ha2 : a < 1000) (hb : 0 < b) (hb2 : b < 1000) (hc : 0 < c) (hc2 : c < 1000) (hq : ∀ (s : Stp) st', PenTo st n st' → OkStp a b c s → Q (stpD s) st') :
    (F._law_drawn_step.f [.ref n, .int a, .int b, .int c] st).sat Q E := by
  show (retB 0 st.length (evB B._law_drawn_step [some (.ref n), some (.int a), some (.int b), some (.int c), none, none] st)).sat Q E
  rw [sat_retB, B._law_drawn_step]
  simp
  refine f_one_of hpen (.inl rfl) (by simp) (by simp) (by simp [noRefs, noRef]) fun w st1 t1 hw => ?_
  simp
  refine f_draw t1.pen (by omega) (by omega) fun i st2 t2 hi => ?_
  simp
  refine f_draw t2.pen (by omega) (by omega) fun l st3 t3 hlt => ?_
  have T := (t1.trans t2).trans t3
  have hs : OkAct a b (.send i l) := ⟨by omega, by omega, hlt⟩
  have ht : OkAct a b (.take i l) := ⟨by omega, by omega, hlt⟩
  have he : OkAct a b (.test i) := (by omega : i < a)
  have hr : OkAct a b .rest := trivial
  have fin : ∀ (act : Act) (x y : Nat) (s : Sto), OkAct a b act → PenTo st n s → (x : Int) < c → (y : Int) < c → (retR 0 st.length (D.tup [.int x, actD act, .int y]) s).sat Q E := fun act x y s hact h1 hx hy => by
    show (retR 0 st.length (stpD ⟨x, act, y⟩) s).sat Q E
    rw [rr_val (nr_stp _ ⟨x, act, y⟩), h1.take]
    exact hq ⟨x, act, y⟩ s h1 ⟨by show x < c; omega, hact, by show y < c; omega⟩
  simp only [List.mem_cons, List.not_mem_nil, or_false] at hw
  rcases hw with rfl | rfl | rfl | rfl | rfl | rfl | rfl <;> simp [cut2] <;> refine f_draw T.pen (by omega) (by omega) fun x st4 t4 hx => ?_ <;> simp [cut2] <;> refine f_draw t4.pen (by omega) (by omega) fun y st5 t5 hy => ?_ <;> simp
  · exact fin _ x y _ hs ((T.trans t4).trans t5) hx hy
  · exact fin _ x y _ hs ((T.trans t4).trans t5) hx hy
  · exact fin _ x y _ ht ((T.trans t4).trans t5) hx hy
  · exact fin _ x y _ ht ((T.trans t4).trans t5) hx hy
  · exact fin _ x y _ ht ((T.trans t4).trans t5) hx hy
  · exact fin _ x y _ hr ((T.trans t4).trans t5) hx hy
  · exact fin _ x y _ he ((T.trans t4).trans t5) hx hy
def shStp : Sh := .cons .int (.cons (.cons .str (.row .int)) (.cons .int .nil))
theorem sh_stp (s : Stp) : hasSh shStp (stpD s) = true ∧ tupNe (stpD s) = true := by
  refine ⟨?_, rfl⟩
  cases s with
  | mk h a t => cases a <;> simp [stpD, actD, shStp, hasSh] <;> decide +kernel
theorem setok_stp (ss : List Stp) (h : ss.length < 64) : SetOk (ss.map stpD) := ⟨by simpa using h, shStp, by decide, fun d hd => by
  obtain ⟨s, _, rfl⟩ := List.mem_map.mp hd
  exact sh_stp s⟩
/-- a row of the same kind, without doubles, in order -/
theorem sort_map {α : Type} {f : α → D} {σ : Sh} (hf : ∀ a, hasSh σ (f a) = true) (xs : List α) : ∃ ys : List α, sortD (xs.map f) = ys.map f ∧ ys.length ≤ xs.length ∧ (∀ y ∈ ys, y ∈ xs) ∧ (ys.map f).Nodup ∧ (ys.map f).Pairwise fun x y => leD x y = true := by
  have ok : ∀ d ∈ xs.map f, okD d = true := fun d hd => by
    obtain ⟨s, _, rfl⟩ := List.mem_map.mp hd
    exact ok_of_key _ (key_of_sh σ _ (hf s)).1
  have key : ∀ ds : List D, (∀ d ∈ ds, d ∈ xs.map f) → ∃ ys : List α, ds = ys.map f ∧ ∀ y ∈ ys, y ∈ xs := by
    intro ds
    induction ds with
    | nil => intro _; exact ⟨[], rfl, by simp⟩
    | cons d r ih =>
      intro h
      obtain ⟨ys, e, hy⟩ := ih fun x hx => h x (List.mem_cons_of_mem _ hx)
      obtain ⟨a, ha, rfl⟩ := List.mem_map.mp (h d List.mem_cons_self)
      refine ⟨a :: ys, by rw [List.map_cons, e], fun y hm => ?_⟩
      rcases List.mem_cons.mp hm with z | z
      · rw [z]; exact ha
      · exact hy y z
  obtain ⟨ys, e, hy⟩ := key (sortD (xs.map f)) fun d hd => (mem_sortD ok).1 hd
  refine ⟨ys, e, ?_, hy, by rw [← e]; exact sortD_nd ok, by rw [← e]; exact sortD_pw _⟩
  have h1 := sortD_len (xs.map f)
  rw [e, List.length_map, List.length_map] at h1
  exact h1
theorem shok_stp (ss : List Stp) : shOkB (ss.map stpD) = true := shOkB_of (σ := shStp) (by simp [shapesK, shStp]) fun d hd => by
  obtain ⟨s, _, rfl⟩ := List.mem_map.mp hd
  exact sh_stp s
theorem can_mach (m : Mach) : canD (machD m) = true := by
  have h : canDs (m.2.map stpD) = true := canDs_all fun d hd => by
    obtain ⟨s, _, rfl⟩ := List.mem_map.mp hd
    exact can_stp s
  simp [machD, canD, canDs, h]
theorem f_machine {n a b c m : Nat} {st : Sto} {Q : QD} {E : QX} (hpen : PenAt st n) (ha : 0 < a) (ha2 : a < 1000) (hb : 0 < b) (hb2 : b < 1000) (hc : 0 < c) (hc2 : c ≤ 5) (hm : m < 60) (hq : ∀ (x : Mach) st', PenTo st n st' → x.1 = c → OkMach a b m x → Q (machD x) st') :
    (F._law_drawn_machine.f [.ref n, .int a, .int b, .int c, .int m] st).sat Q E := by
  show (retB 0 st.length (evB B._law_drawn_machine [some (.ref n), some (.int a), some (.int b), some (.int c), some (.int m), none, none] st)).sat Q E
  rw [sat_retB, B._law_drawn_machine]
  simp [v_comp]
  refine f_draw hpen (by omega) (by omega) fun i st1 hto hi2 => ?_
  simp [rng_len]
  refine ⟨b62_of (by omega) (by omega), szB_of (by omega), ?_⟩
  refine compE_inv _ (fun j acc s => PenTo st n s ∧ ∃ w : List Stp, acc = w.map stpD ∧ w.length = j ∧ j ≤ i ∧ ∀ x ∈ w, OkStp a b c x) ⟨hto, [], rfl, rfl, Nat.zero_le _, by simp⟩ (fun _ _ _ _ => rfl) ?_ ?_
  · rintro j d acc s hd ⟨ht, w, rfl, hw, hj, hx⟩
    obtain ⟨hj2, rfl⟩ := rng_get hd
    refine ⟨_, p_nm, ?_⟩
    simp [evC]
    refine f_step ht.pen ha ha2 hb hb2 hc (by omega) fun v s2 ht2 hv => ?_
    refine ⟨ht.trans ht2, w ++ [v], by simp, by simp [hw], by omega, ?_⟩
    intro x hxm
    rcases List.mem_append.mp hxm with z | z
    · exact hx x z
    · rw [List.mem_singleton.mp z]; exact hv
  · rintro acc s ⟨ht, w, rfl, hw, hj, hx⟩
    rw [rng_len] at hw
    obtain ⟨ys, e, h1, h2, h3, h4⟩ := sort_map (fun s => (sh_stp s).1) w
    simp
    refine ⟨⟨by omega, shok_stp w⟩, ?_⟩
    rw [sortE_eq (shok_stp w), e]
    show (retR 0 st.length (machD (c, ys)) s).sat Q E
    rw [rr_val (nr_of_can _ (machD (c, ys)) (can_mach (c, ys))), ht.take]
    exact hq (c, ys) _ ht rfl ⟨hc, hc2, by show ys.length ≤ m; omega, fun s hs => hx s (h2 s hs), h3, h4⟩
end Mi
/-! DsD: _law_drawn_program, _law_wide_program, _law_drawn_lot. -/
namespace Mi
open PySem PySem.Spec PyProof.Rows L2

theorem mem_nat {x : D} {l : List Nat} (h : x ∈ Ns l) : ∃ n ∈ l, x = .int (n : Int) := by
  obtain ⟨n, h1, h2⟩ := List.mem_map.mp h
  exact ⟨n, h1, h2.symm⟩
/-! parts of programs, lots -/
section
variable {st : Sto} {p : Pro} {m : Mach} {x : Lt} {s : Stp}
@[simp] theorem ix_pro0 : ixD st (proD p) (.int 0) = some (.int p.lanes) := by simp [proD]
@[simp] theorem ix_pro1 : ixD st (proD p) (.int 1) = some (.int p.letters) := by simp [proD]
@[simp] theorem ix_pro2 : ixD st (proD p) (.int 2) = some (.tup (p.ms.map machD)) := by simp [proD]
@[simp] theorem so_pro : strOkIx (proD p) = true := (rfl)
@[simp] theorem ix_mach0 : ixD st (machD m) (.int 0) = some (.int m.1) := by simp [machD]
@[simp] theorem ix_mach1 : ixD st (machD m) (.int 1) = some (.tup (m.2.map stpD)) := by simp [machD]
@[simp] theorem so_mach : strOkIx (machD m) = true := (rfl)
@[simp] theorem ix_stp0 : ixD st (stpD s) (.int 0) = some (.int s.here) := by simp [stpD]
@[simp] theorem ix_stp1 : ixD st (stpD s) (.int 1) = some (actD s.act) := by simp [stpD]
@[simp] theorem ix_stp2 : ixD st (stpD s) (.int 2) = some (.int s.there) := by simp [stpD]
@[simp] theorem so_stp : strOkIx (stpD s) = true := (rfl)
@[simp] theorem ix_lot0 : ixD st (lotD x) (.int 0) = some (plD x.pl) := by simp [lotD]
@[simp] theorem ix_lot1 : ixD st (lotD x) (.int 1) = some (wordsD x.ws) := by simp [lotD]
@[simp] theorem so_lot : strOkIx (lotD x) = true := (rfl)
end
theorem can_pro (p : Pro) : canD (proD p) = true := by
  have h : canDs (p.ms.map machD) = true := canDs_all fun d hd => by
    obtain ⟨s, _, rfl⟩ := List.mem_map.mp hd
    exact can_mach s
  simp [proD, canD, canDs, h]
theorem f_program {n m : Nat} {st : Sto} {Q : QD} {E : QX} (hpen : PenAt st n) (hm : m < 60) (hq : ∀ (p : Pro) st', PenTo st n st' → OkPro m p → Q (proD p) st') : (F._law_drawn_program.f [.ref n, .int m] st).sat Q E := by
  show (retB 0 st.length (evB B._law_drawn_program [some (.ref n), some (.int m), none, none, none, none, none, none] st)).sat Q E
  rw [sat_retB, B._law_drawn_program]
  simp [v_for]
  refine f_one_of (l := Ns [1, 1, 2, 2, 3]) hpen (.inl rfl) (by simp) (by simp) (by simp [noRefs, noRef]) fun w st1 t1 hw => ?_
  obtain ⟨a, ha, rfl⟩ := mem_nat hw
  simp
  refine f_one_of (l := Ns [1, 2, 2, 3]) t1.pen (.inl rfl) (by simp) (by simp) (by simp [noRefs, noRef]) fun w st2 t2 hw => ?_
  obtain ⟨b, hb, rfl⟩ := mem_nat hw
  simp
  refine f_one_of (l := Ns [1, 1, 2, 2, 3]) t2.pen (.inl rfl) (by simp) (by simp) (by simp [noRefs, noRef]) fun w st3 t3 hw => ?_
  obtain ⟨c, hc, rfl⟩ := mem_nat hw
  have ha : 0 < a ∧ a ≤ 3 := by simp at ha; omega
  have hb : 0 < b ∧ b ≤ 3 := by simp at hb; omega
  have hc : 0 < c ∧ c ≤ 3 := by simp at hc; omega
  have T := (t1.trans t2).trans t3
  simp [v_for]
  refine ⟨b62_of (by omega) (by omega), ?_⟩
  refine forE_inv _ (fun j en s => PenTo st n s ∧ ∃ (w : List Mach) (x6 x7 : Option D), en = [some (.ref n), some (.int m), some (.int a), some (.int b), some (.int c), some (.tup (w.map machD)), x6, x7] ∧ w.length = j ∧ j ≤ c ∧ ∀ x ∈ w, OkMach a b m x) ⟨T, [], none, none, rfl, rfl, Nat.zero_le _, by simp⟩ (fun _ _ _ _ => rfl) ?_ ?_
  · rintro j d en s hd ⟨ht, w, x6, x7, rfl, hw, hj, hx⟩
    obtain ⟨hj2, rfl⟩ := rng_get hd
    refine ⟨_, p_nm, ?_⟩
    simp
    have go : ∀ (k y : Nat) (s1 : Sto) (Q' : QD) (E' : QX), PenTo st n s1 → k ≤ 5 → (y : Int) < k → (∀ (v : Mach) s2, PenTo st n s2 → OkMach a b m v → Q' (machD v) s2) → (F._law_drawn_machine.f [.ref n, .int a, .int b, .int (1 + y), .int m] s1).sat Q' E' := fun k y s1 Q' E' h1 k2 hy hq' => by
      have e1 : (1 : Int) + (y : Int) = ((1 + y : Nat) : Int) := by omega
      rw [e1]
      exact f_machine h1.pen ha.1 (by omega) hb.1 (by omega) (by omega) (by omega) hm fun v s2 t v1 v2 => hq' v s2 (h1.trans t) v2
    have fin : ∀ (k y : Nat) (s1 : Sto), PenTo st n s1 → k ≤ 5 → (y : Int) < k → (F._law_drawn_machine.f [.ref n, .int a, .int b, .int (1 + y), .int m] s1).sat (fun v s2 => PenTo st n s2 ∧ ∃ w1 : List Mach, w.map machD ++ [v] = w1.map machD ∧ w1.length = j + 1 ∧ j + 1 ≤ c ∧ ∀ x ∈ w1, OkMach a b m x) fun _ _ => False := fun k y s1 h1 k2 hy => go k y s1 _ _ h1 k2 hy fun v s2 h2 hv => ⟨h2, w ++ [v], by simp, by simp [hw], by omega, fun x hp => by
      rcases List.mem_append.mp hp with z | z
      · exact hx _ z
      · rw [List.mem_singleton.mp z]; exact hv⟩
    by_cases t : (c : Int) < 3
    all_goals
      simp [t]
      first
        | refine f_one_of (l := Ns [3, 3, 5]) ht.pen (.inl rfl) (by simp) (by simp) (by simp [noRefs, noRef]) fun d s1 h1 hd => ?_
        | refine f_one_of (l := Ns [2, 2, 2, 5]) ht.pen (.inl rfl) (by simp) (by simp) (by simp [noRefs, noRef]) fun d s1 h1 hd => ?_
      obtain ⟨k, hk, rfl⟩ := mem_nat hd
      have hk : 0 < k ∧ k ≤ 5 := by simp at hk; omega
      simp
      refine f_draw h1.pen (by omega) (by omega) fun y s2 h2 hy => ?_
      simp
      refine R.sat_mono (fin k y s2 ((ht.trans h1).trans h2) hk.2 hy) (fun v s3 hv => ?_) fun _ _ q => q.elim
      obtain ⟨h3, w1, e, hw1, hj1, hx1⟩ := hv
      simp
      refine ⟨szB_of (by omega), h3, w1, e, hw1, hj1, ?_⟩
      intro p q hp
      exact hx1 (p, q) hp
  · rintro en s ⟨ht, w, x6, x7, rfl, hw, hj, hx⟩
    rw [rng_len] at hw
    simp
    show (retR 0 st.length (proD ⟨a, b, w⟩) s).sat Q E
    rw [rr_val (nr_of_can _ _ (can_pro _)), ht.take]
    exact hq ⟨a, b, w⟩ _ ht ⟨ha.1, ha.2, hb.1, hb.2, by show 0 < w.length; omega, by show w.length ≤ 3; omega, hx⟩
end Mi
/-! DsE: _law_wide_program, _law_drawn_lot. -/
namespace Mi
open PySem PySem.Spec PyProof.Rows L2

theorem OkMach.take {a b m : Nat} {x : Mach} (h : OkMach a b m x) (k : Nat) : OkMach a b k (x.1, x.2.take k) :=
  ⟨h.pos, h.le, by show (x.2.take k).length ≤ k; rw [List.length_take]; omega, fun s hs => h.stp s (List.mem_of_mem_take hs), h.nd.sublist ((List.take_sublist k x.2).map stpD), h.pw.sublist ((List.take_sublist k x.2).map stpD)⟩
theorem OkPro.cut {mm : Nat} {p : Pro} (hp : OkPro mm p) : OkPro 8 ⟨p.lanes, p.letters, p.ms.map fun x => (x.1, x.2.take 8)⟩ :=
  ⟨hp.l1, hp.l2, hp.t1, hp.t2, by show 0 < (p.ms.map _).length; rw [List.length_map]; exact hp.m1, by show (p.ms.map _).length ≤ 3; rw [List.length_map]; exact hp.m2, fun x hx => by
    obtain ⟨y, hy, rfl⟩ := List.mem_map.mp hx
    exact (hp.ms y hy).take 8⟩
theorem f_wide {n m : Nat} {st : Sto} {Q : QD} {E : QX} (hpen : PenAt st n) (hm : m ≤ 8) (hq : ∀ (p : Pro) st', PenTo st n st' → OkPro 8 p → Q (proD p) st') : (F._law_wide_program.f [.ref n, .int m] st).sat Q E := by
  show (retB 0 st.length (evB B._law_wide_program [some (.ref n), some (.int m), none, none, none, none, none] st)).sat Q E
  rw [sat_retB, B._law_wide_program]
  simp
  refine f_draw hpen (by omega) (by omega) fun y s1 h1 hy => ?_
  by_cases t : (y : Int) = 5
  all_goals
    simp [t]
    first
      | refine f_program (m := 24) h1.pen (by omega) fun p s2 h2 hp => ?_
      | refine f_program (m := m) h1.pen (by omega) fun p s2 h2 hp => ?_
    have h := hp.m2
    have e := compE_all (t := Tg.tup [.nm 5, .nm 6]) (vs := [5, 6]) (elt := (rTup [(rVar 5), (rSl false (rVar 6) none (some (rInt 8)))]).ev) (ck := fun _ => true) (en := [some (.ref n), some (.int m), some (.int p.lanes), some (.int p.letters), some (.tup (p.ms.map machD)), none, none]) (st := s2) (fun d => match d with | .tup [x, .tup ss] => .tup [x, .tup (ss.take 8)] | _ => d) rfl (p.ms.map machD) (fun d hd => by
      obtain ⟨x, hx, rfl⟩ := List.mem_map.mp hd
      simp [machD]
      exact cut_take 8)
    have e2 : (List.map (fun d => match d with | D.tup [x, .tup ss] => D.tup [x, .tup (ss.take 8)] | _ => d) (List.map machD p.ms)) = (p.ms.map fun x => (x.1, x.2.take 8)).map machD := by
      rw [List.map_map, List.map_map]
      refine List.map_congr_left fun x _ => ?_
      simp [machD]
    rw [e2] at e
    simp [v_comp, proD, e]
    refine ⟨szB_of (by omega), ?_⟩
    rw [← List.map_map]
    show (retR 0 st.length (proD ⟨p.lanes, p.letters, p.ms.map fun x => (x.1, x.2.take 8)⟩) s2).sat Q E
    rw [rr_val (nr_of_can _ _ (can_pro _)), (h1.trans h2).take]
    exact hq _ _ (h1.trans h2) hp.cut
theorem can_word (w : List Int) : canD (wordD w) = true := by
  show canD (.tup (Is w)) = true
  rw [canD]
  exact cans_of_ok _ (ok_ints _)
theorem can_words (ws : List (List Int)) : canD (wordsD ws) = true := by
  show canD (.tup (ws.map wordD)) = true
  rw [canD]
  exact canDs_all fun d hd => by
    obtain ⟨w, _, rfl⟩ := List.mem_map.mp hd
    exact can_word w
theorem can_pl (ns : List Nat) : canD (plD ns) = true := by
  show canD (.tup (Ns ns)) = true
  rw [canD]
  exact canDs_all fun d hd => by
    obtain ⟨i, _, rfl⟩ := List.mem_map.mp hd
    simp [canD]
theorem can_lot (x : Lt) : canD (lotD x) = true := by
  simp [lotD, canD, canDs, can_words, can_pl]
theorem f_lot {n m mm : Nat} {p : Pro} {st : Sto} {Q : QD} {E : QX} (hpen : PenAt st n) (hp : OkPro mm p) (hm : m < 900) (hq : ∀ (x : Lt) st', PenTo st n st' → OkLot p m x → Q (lotD x) st') : (F._law_drawn_lot.f [.ref n, proD p, .int m] st).sat Q E := by
  have p2 := hp.m2
  have l2 := hp.l2
  have t1 := hp.t1
  have t2 := hp.t2
  show (retB 0 st.length (evB B._law_drawn_lot [some (.ref n), some (proD p), some (.int m), none, none, none] st)).sat Q E
  rw [sat_retB, B._law_drawn_lot]
  simp [v_comp]
  refine ⟨szB_of (by omega), ?_⟩
  refine compE_inv _ (fun j acc s => PenTo st n s ∧ ∃ w : List Nat, acc = Ns w ∧ w.length = j ∧ j ≤ p.ms.length ∧ ∀ (i : Nat) (a : Nat) (m : Mach), w[i]? = some a → p.ms[i]? = some m → a < m.1) ⟨PenTo.refl hpen, [], rfl, rfl, Nat.zero_le _, by simp⟩ (fun _ _ _ _ => rfl) ?_ ?_
  · rintro j d acc s hd ⟨ht, w, rfl, hw, hj, hx⟩
    rw [List.getElem?_map] at hd
    cases e : p.ms[j]? with
    | none => rw [e] at hd; cases hd
    | some x =>
      rw [e] at hd
      cases hd
      have hj2 := (List.getElem?_eq_some_iff.mp e).1
      have ok := hp.ms x (List.mem_of_getElem? e)
      have o1 := ok.pos
      have o2 := ok.le
      refine ⟨_, p_nm, ?_⟩
      simp [evC]
      refine f_draw ht.pen (by omega) (by omega) fun v s2 ht2 hv => ?_
      refine ⟨ht.trans ht2, w ++ [v], by simp, by simp [hw], by omega, fun i a y hi hy => ?_⟩
      rcases Nat.lt_trichotomy i w.length with z | z | z
      · rw [List.getElem?_append_left z] at hi
        exact hx i a y hi hy
      · rw [z, List.getElem?_append_right (Nat.le_refl _)] at hi
        simp at hi
        rw [z, hw, e] at hy
        cases hy
        omega
      · rw [List.getElem?_eq_none (by simp; omega)] at hi
        cases hi
  · intro acc s h
    simp [v_comp, rng_len]
    obtain ⟨ht, w, rfl, hw, hj, hx⟩ := h
    rw [List.length_map] at hw
    refine ⟨b62_of (by omega) (by omega), szB_of (by omega), ?_⟩
    refine compE_inv _ (fun j acc s => PenTo st n s ∧ ∃ ws : List (List Int), acc = (ws.map fun x => .tup (Is x)) ∧ ws.length = j ∧ j ≤ p.lanes ∧ ∀ x ∈ ws, x.length ≤ m ∧ ∀ l ∈ x, 0 ≤ l ∧ l < p.letters) ⟨ht, [], rfl, rfl, Nat.zero_le _, by simp⟩ (fun _ _ _ _ => rfl) ?_ ?_
    · rintro j d acc s hd ⟨ht, ws, rfl, hws, hj, hy⟩
      obtain ⟨hj2, rfl⟩ := rng_get hd
      refine ⟨_, p_nm, ?_⟩
      simp [evC]
      refine f_word ht.pen (by omega) (by omega) (by omega) (by omega) fun v s2 ht2 hv1 hv2 => ?_
      refine ⟨ht.trans ht2, ws ++ [v], by simp, by simp [hws], by omega, fun x hxm => ?_⟩
      rcases List.mem_append.mp hxm with z | z
      · exact hy x z
      · rw [List.mem_singleton.mp z]; exact ⟨by omega, hv2⟩
    · rintro acc s ⟨ht, ws, rfl, hws, hj, hy⟩
      rw [rng_len] at hws
      simp
      show (retR 0 st.length (lotD ⟨w, ws⟩) s).sat Q E
      rw [rr_val (nr_of_can _ _ (can_lot _)), ht.take]
      exact hq ⟨w, ws⟩ _ ht ⟨hw, hx, by show ws.length = p.lanes; omega, hy⟩
end Mi
/-! PgA: put_at, all_steps, words_back, back, all_back; _law_at, _law_all_pairs, _law_lot_back. -/
namespace Mi
open PySem PySem.Spec PyProof.Rows L2

/-- put_at -/
def N.put_at : List Str := ["row", "place", "thing"]
def B.put_at : List RS := [
  xRet (rBin .Add (oAdd false) (rBin .Add (oAdd false) (rSl false (rVar 0) none (some (rVar 1))) (rTup [(rVar 2)])) (rSl false (rVar 0) (some (rBin .Add (oAdd false) (rVar 1) (rInt 1))) none))]
def F.put_at : FS := mkF 3 0 3 B.put_at
@[simp] theorem F.arput_at : F.put_at.ar = 3 := (rfl)

/-- all_steps -/
def N.all_steps : List Str := ["program", "found", "machine", "places", "steps", "index"]
def B.all_steps : List RS := [
  xSet 1 (rList true []),
  xFor (.tup [(.nm 2), (.tup [(.nm 3), (.nm 4)])]) (jEnum (rIx (rVar 0) (rInt 2))) [
      xExp (rMeth1 nExtend (rVar 1) (rComp false (.nm 5) [("index", 5)] (jRange1 (rB kLen [(rVar 4)])) none (rTup [(rVar 2), (rVar 5)])))],
  xRet (rVar 1)]
def F.all_steps : FS := mkF 1 0 6 B.all_steps
@[simp] theorem F.arall_steps : F.all_steps.ar = 1 := (rfl)

/-- words_back -/
def N.words_back : List Str := ["action", "words", "word", "is_left_out"]
def B.words_back : List RS := [
  xIf (qCm .Eq oEq (rIx (rVar 0) (rInt 0)) (rStr "rest")) [
      xRet (rVar 1)] [],
  xSet 2 (rIx (rVar 1) (rIx (rVar 0) (rInt 1))),
  xIf (qCm .Eq oEq (rIx (rVar 0) (rInt 0)) (rStr "send")) [
      xSet 3 (rAnd [(rCmp .NotEq oNe (rVar 2) (rTup [])), (rCmp .LtE oLe (rIx (rVar 2) (rNeg (rInt 1))) (rIx (rVar 0) (rInt 2)))]),
      xRet (rIf (tV' (rVar 3)) (rCall "put_at" F.put_at [] [(rVar 1), (rIx (rVar 0) (rInt 1)), (rSl false (rVar 2) none (some (rNeg (rInt 1))))]) (rVar 1))] [],
  xIf (qCm .Eq oEq (rIx (rVar 0) (rInt 0)) (rStr "take")) [
      xRet (rCall "put_at" F.put_at [] [(rVar 1), (rIx (rVar 0) (rInt 1)), (rBin .Add (oAdd false) (rTup [(rIx (rVar 0) (rInt 2))]) (rVar 2))])] [],
  xRet (rIf (qCm .Eq oEq (rVar 2) (rTup [])) (rVar 1) rNone)]
def F.words_back : FS := mkF 2 0 4 B.words_back
@[simp] theorem F.arwords_back : F.words_back.ar = 2 := (rfl)

/-- back -/
def N.back : List Str := ["program", "lot", "machine", "index", "step", "words"]
def B.back : List RS := [
  xSet 4 (rIx (rIx (rIx (rIx (rVar 0) (rInt 2)) (rVar 2)) (rInt 1)) (rVar 3)),
  xSet 5 (rIf (qCm .Eq oEq (rIx (rIx (rVar 1) (rInt 0)) (rVar 2)) (rIx (rVar 4) (rInt 2))) (rCall "words_back" F.words_back [] [(rIx (rVar 4) (rInt 1)), (rIx (rVar 1) (rInt 1))]) rNone),
  xRet (rIf (qCm .Is oIs (rVar 5) rNone) rNone (rTup [(rCall "put_at" F.put_at [] [(rIx (rVar 1) (rInt 0)), (rVar 2), (rIx (rVar 4) (rInt 0))]), (rVar 5)]))]
def F.back : FS := mkF 4 0 6 B.back
@[simp] theorem F.arback : F.back.ar = 4 := (rfl)

/-- all_back -/
def N.all_back : List Str := ["program", "lot", "found", "machine", "index", "other"]
def B.all_back : List RS := [
  xSet 2 rDict0,
  xFor (.tup [(.nm 3), (.nm 4)]) (jSeq (rCall "all_steps" F.all_steps [] [(rVar 0)])) [
      xSet 5 (rCall "back" F.back [] [(rVar 0), (rVar 1), (rVar 3), (rVar 4)]),
      xIf (qCm .IsNot oIsNot (rVar 5) rNone) [
        xSetKy (rVar 2) (rVar 5) (rBl true)] []],
  xRet (rB kTuple [(rB (kSortDic false) [(rVar 2)])])]
def F.all_back : FS := mkF 2 0 6 B.all_back
@[simp] theorem F.arall_back : F.all_back.ar = 2 := (rfl)

/-- _law_at -/
def N._law_at : List Str := ["rows", "place", "thing"]
def B._law_at : List RS := [
  xRet (rBin .Add (oAdd false) (rBin .Add (oAdd false) (rSl false (rVar 0) none (some (rVar 1))) (rTup [(rVar 2)])) (rSl false (rVar 0) (some (rBin .Add (oAdd false) (rVar 1) (rInt 1))) none))]
def F._law_at : FS := mkF 3 0 3 B._law_at
@[simp] theorem F.ar_law_at : F._law_at.ar = 3 := (rfl)

/-- _law_all_pairs -/
def N._law_all_pairs : List Str := ["program", "found", "machine", "index"]
def B._law_all_pairs : List RS := [
  xSet 1 (rList true []),
  xFor (.nm 2) (jRange1 (rB kLen [(rIx (rVar 0) (rInt 2))])) [
      xExp (rMeth1 nExtend (rVar 1) (rComp false (.nm 3) [("index", 3)] (jRange1 (rB kLen [(rIx (rIx (rIx (rVar 0) (rInt 2)) (rVar 2)) (rInt 1))])) none (rTup [(rVar 2), (rVar 3)])))],
  xRet (rVar 1)]
def F._law_all_pairs : FS := mkF 1 0 4 B._law_all_pairs
@[simp] theorem F.ar_law_all_pairs : F._law_all_pairs.ar = 1 := (rfl)

/-- _law_lot_back -/
def N._law_lot_back : List Str := ["program", "lot", "machine", "index", "here", "action", "there", "words"]
def B._law_lot_back : List RS := [
  xAsg (.tup [(.nm 4), (.nm 5), (.nm 6)]) (rIx (rIx (rIx (rIx (rVar 0) (rInt 2)) (rVar 2)) (rInt 1)) (rVar 3)),
  xSet 7 (rB (kList true) [(rIx (rVar 1) (rInt 1))]),
  xIf (qOr [(qCm .NotEq oNe (rIx (rIx (rVar 1) (rInt 0)) (rVar 2)) (rVar 6)), (qAn [(qCm .Eq oEq (rIx (rVar 5) (rInt 0)) (rStr "test")), (qCm .NotEq oNe (rIx (rVar 7) (rIx (rVar 5) (rInt 1))) (rTup []))])]) [
      xRet (rList false [])] [],
  xIf (qCm .Eq oEq (rIx (rVar 5) (rInt 0)) (rStr "take")) [
      xSetIx (rVar 7) (rIx (rVar 5) (rInt 1)) (rBin .Add (oAdd false) (rTup [(rIx (rVar 5) (rInt 2))]) (rIx (rVar 7) (rIx (rVar 5) (rInt 1))))] [],
  xIf (qAn [(qCm .Eq oEq (rIx (rVar 5) (rInt 0)) (rStr "send")), (qCm .NotEq oNe (rIx (rVar 7) (rIx (rVar 5) (rInt 1))) (rTup [])), (qCm .LtE oLe (rIx (rIx (rVar 7) (rIx (rVar 5) (rInt 1))) (rNeg (rInt 1))) (rIx (rVar 5) (rInt 2)))]) [
      xSetIx (rVar 7) (rIx (rVar 5) (rInt 1)) (rSl false (rIx (rVar 7) (rIx (rVar 5) (rInt 1))) none (some (rNeg (rInt 1))))] [],
  xRet (rList false [(rTup [(rCall "_law_at" F._law_at [] [(rIx (rVar 1) (rInt 0)), (rVar 2), (rVar 4)]), (rB kTuple [(rVar 7)])])])]
def F._law_lot_back : FS := mkF 4 0 8 B._law_lot_back
@[simp] theorem F.ar_law_lot_back : F._law_lot_back.ar = 4 := (rfl)

/-! ### what they compute -/
/-- the words from which an action led to these -/
def bkWords : Act → List (List Int) → Option (List (List Int))
  | .rest, ws => some ws
  | .send i l, ws => some (match (ws.getD i []).getLast? with | some x => if x ≤ l then ws.set i (ws.getD i []).dropLast else ws | none => ws)
  | .take i l, ws => some (ws.set i (l :: ws.getD i []))
  | .test i, ws => if ws.getD i [] = [] then some ws else none
def stpAt (p : Pro) (k i : Nat) : Option Stp := (p.ms[k]?).bind fun m => m.2[i]?
def backV (p : Pro) (x : Lt) (k i : Nat) : Option Lt := (stpAt p k i).bind fun s => if x.pl[k]? = some s.there then (bkWords s.act x.ws).map fun ws => ⟨x.pl.set k s.here, ws⟩ else none
def optD : Option Lt → D
  | some x => lotD x
  | none => .non
def pairsF (p : Pro) (n : Nat) : List (Nat × Nat) := (List.range n).flatMap fun k => (List.range ((p.ms[k]?).elim 0 fun m => m.2.length)).map fun i => (k, i)
def pairsOf (p : Pro) : List (Nat × Nat) := pairsF p p.ms.length
def pairD2 (x : Nat × Nat) : D := .tup [.int x.1, .int x.2]
def backs (p : Pro) (x : Lt) : List D := (pairsOf p).filterMap fun k => (backV p x k.1 k.2).map lotD

theorem cut_drop {ds : List D} (k : Nat) : cutD ds (some (k : Int)) none = ds.drop k := by
  unfold cutD
  rw [HT.sIx_nat, HT.sIx_none]
  by_cases h : k ≤ ds.length
  · rw [Nat.min_eq_left h, List.take_of_length_le (by rw [List.length_drop]; omega)]
  · rw [Nat.min_eq_right (by omega), List.drop_length, List.drop_of_length_le (by omega), List.take_nil]
theorem put_cut {ds : List D} (k : Nat) (x : D) (h : k < ds.length) : cutD ds none (some (k : Int)) ++ x :: cutD ds (some ((k : Int) + 1)) none = ds.set k x := by
  have e : (k : Int) + 1 = ((k + 1 : Nat) : Int) := by omega
  rw [e, cut_take, cut_drop, List.set_eq_take_append_cons_drop, if_pos h]
theorem cut_le (ds : List D) (lo hi : Option Int) : (cutD ds lo hi).length ≤ ds.length := by
  unfold cutD
  rw [List.length_take, List.length_drop]
  omega
theorem nrs_set {n k : Nat} {r : List D} {x : D} (h : noRefs n r = true) (hx : noRef n x = true) : noRefs n (r.set k x) = true := noRefs_all.mpr fun d hd => (mem_set hd).elim (noRefs_all.mp h d) fun e => by rw [e]; exact hx
theorem f_put_at {r : List D} {k : Nat} {x : D} {st : Sto} (hk : k < r.length) (hr : r.length < 1000) (h : noRefs st.length r = true) (hx : noRef st.length x = true) : F.put_at.f [.tup r, .int k, x] st = .ok (.tup (r.set k x)) st := by
  have h1 := cut_le r none (some (k : Int))
  have h2 := cut_le r (some ((k : Int) + 1)) none
  have h3 : noRef st.length (D.tup (r.set k x)) = true := by rw [noRef]; exact nrs_set h hx
  show retB 0 st.length (evB B.put_at [some (.tup r), some (.int k), some x] st) = _
  rw [B.put_at]
  simp (disch := first | omega | (simp; done)) [szB_of, put_cut k x hk, rr_val h3]
theorem f_law_at {r : List D} {k : Nat} {x : D} {st : Sto} (hk : k < r.length) (hr : r.length < 1000) (h : noRefs st.length r = true) (hx : noRef st.length x = true) : F._law_at.f [.tup r, .int k, x] st = .ok (.tup (r.set k x)) st := by
  have h1 := cut_le r none (some (k : Int))
  have h2 := cut_le r (some ((k : Int) + 1)) none
  have h3 : noRef st.length (D.tup (r.set k x)) = true := by rw [noRef]; exact nrs_set h hx
  show retB 0 st.length (evB B._law_at [some (.tup r), some (.int k), some x] st) = _
  rw [B._law_at]
  simp (disch := first | omega | (simp; done)) [szB_of, put_cut k x hk, rr_val h3]
/-! ### words, places: what is done with them -/
section
variable {st : Sto} {w v : List Int} {ws : List (List Int)} {ns : List Nat} {n i : Nat} {l : Int} {neg m : Bool}
theorem wordD_get (ws : List (List Int)) (i : Nat) : (ws.map wordD)[i]? = ws[i]?.map wordD := List.getElem?_map
@[simp] theorem nr_word : noRef n (wordD w) = true := nr_of_can _ _ (can_word w)
@[simp] theorem nr_words : noRef n (wordsD ws) = true := nr_of_can _ _ (can_words ws)
@[simp] theorem nr_pl : noRef n (plD ns) = true := nr_of_can _ _ (can_pl ns)
@[simp] theorem nr_lot (x : Lt) : noRef n (lotD x) = true := nr_of_can _ _ (can_lot x)
@[simp] theorem nr_pro (p : Pro) : noRef n (proD p) = true := nr_of_can _ _ (can_pro p)
@[simp] theorem nr_int (j : Int) : noRef n (.int j) = true := by simp [noRef]
@[simp] theorem rr_word : retR 0 n (wordD w) st = .ok (wordD w) (st.take n) := rr_val nr_word
@[simp] theorem rr_words : retR 0 n (wordsD ws) st = .ok (wordsD ws) (st.take n) := rr_val nr_words
@[simp] theorem rr_pl : retR 0 n (plD ns) st = .ok (plD ns) (st.take n) := rr_val nr_pl
@[simp] theorem rr_lot (x : Lt) : retR 0 n (lotD x) st = .ok (lotD x) (st.take n) := rr_val (nr_lot x)
@[simp] theorem so_word : strOkIx (wordD w) = true := (rfl)
@[simp] theorem so_words : strOkIx (wordsD ws) = true := (rfl)
@[simp] theorem so_pl : strOkIx (plD ns) = true := (rfl)
theorem at_neg1 {α : Type} (l : List α) : atI l (-1) = l.getLast? := by
  unfold atI ixN
  cases l with
  | nil => rfl
  | cons a r =>
    have h1 : ¬ ((0 : Int) ≤ -1) := by decide
    have h2 : -(((a :: r).length : Nat) : Int) ≤ -1 := by simp; omega
    rw [if_neg h1, if_pos h2, List.getLast?_eq_getElem?]
    show (a :: r)[((-1 : Int) + ((a :: r).length : Nat)).toNat]? = _
    congr 1
    simp
    omega
theorem cut_init (ds : List D) : cutD ds none (some (-1)) = ds.dropLast := by
  unfold cutD
  rw [HT.sIx_none, List.drop_zero, Nat.sub_zero, List.dropLast_eq_take]
  congr 1
  show HT.sIx ds.length ds.length (some (-1)) = _
  unfold HT.sIx
  simp
  omega
/-- the word of lane i -/
theorem ix_words (h : i < ws.length) : ixD st (wordsD ws) (.int i) = some (wordD (ws.getD i [])) := by
  show atI (ws.map wordD) (i : Int) = _
  rw [atI_nat, List.getElem?_map, List.getElem?_eq_getElem h]
  simp [List.getD_eq_getElem?_getD, List.getElem?_eq_getElem h]
theorem ix_pl : ixD st (plD ns) (.int i) = ns[i]?.map fun (k : Nat) => D.int (k : Int) := by
  show atI (Ns ns) (i : Int) = _
  rw [atI_nat, List.getElem?_map]
@[simp] theorem ix_last : ixD st (wordD w) (.int (-1)) = w.getLast?.map D.int := by
  show atI (Is w) (-1) = _
  rw [at_neg1, List.getLast?_map]
@[simp] theorem eq_word_nil : evEq neg (wordD w) (.tup []) st = .ok (.bl (neg != w.isEmpty)) st := by
  show R.when (shp (.tup (Is w)) && shp (.tup [])) (R.ok (D.bl (neg != eqD (.tup (Is w)) (.tup []))) st) = _
  rw [shp_ints, isE_it, show shp (.tup []) = true by decide +kernel]
  rfl
@[simp] theorem add_l_word : (oAdd m).ev (.tup [.int l]) (wordD w) st = R.when (szB (1 + w.length)) (.ok (wordD (l :: w)) st) := by
  show R.when (szB (1 + (Is w).length)) _ = _
  rw [List.length_map]
  rfl
@[simp] theorem add_word_l : (oAdd m).ev (wordD w) (.tup [.int l]) st = R.when (szB (w.length + 1)) (.ok (wordD (w ++ [l])) st) := by
  show R.when (szB ((Is w).length + 1)) (R.ok (D.tup (Is w ++ [.int l])) st) = _
  rw [List.length_map]
  have : wordD (w ++ [l]) = .tup (Is w ++ [.int l]) := by simp [wordD]
  rw [this]
@[simp] theorem sl_word_init : evSl m (wordD w) none (some (-1)) st = .ok (wordD w.dropLast) st := by
  show R.ok (D.tup (cutD (Is w) none (some (-1)))) st = _
  rw [cut_init]
  simp [wordD, List.map_dropLast]
@[simp] theorem len_word : lenD st (wordD w) = some (w.length : Int) := by
  show some (((Is w).length : Nat) : Int) = _
  rw [List.length_map]
@[simp] theorem seq_words : seqOf st (wordsD ws) = some (ws.map wordD) := (rfl)
@[simp] theorem seq_word : seqOf st (wordD w) = some (Is w) := (rfl)
@[simp] theorem seq_pl : seqOf st (plD ns) = some (Ns ns) := (rfl)
theorem f_put_words {i : Nat} (hi : i < ws.length) (hl : ws.length < 1000) : F.put_at.f [wordsD ws, .int i, wordD w] st = .ok (wordsD (ws.set i w)) st := by
  have h : noRefs st.length (ws.map wordD) = true := by
    have := nr_words (n := st.length) (ws := ws)
    rwa [wordsD, noRef] at this
  have e := f_put_at (r := ws.map wordD) (k := i) (x := wordD w) (st := st) (by simpa using hi) (by simpa using hl) h nr_word
  rw [show wordsD ws = .tup (ws.map wordD) from rfl, e, wordsD, List.map_set]
theorem f_put_pl {i k : Nat} (hi : i < ns.length) (hl : ns.length < 1000) : F.put_at.f [plD ns, .int i, .int k] st = .ok (plD (ns.set i k)) st := by
  have h : noRefs st.length (Ns ns) = true := by
    have := nr_pl (n := st.length) (ns := ns)
    rwa [plD, noRef] at this
  have e := f_put_at (r := Ns ns) (k := i) (x := .int k) (st := st) (by simpa using hi) (by simpa using hl) h (nr_int _)
  rw [show plD ns = .tup (Ns ns) from rfl, e, plD, Ns, Ns, List.map_set]
theorem f_law_at_words {i : Nat} (hi : i < ws.length) (hl : ws.length < 1000) : F._law_at.f [wordsD ws, .int i, wordD w] st = .ok (wordsD (ws.set i w)) st := by
  have h : noRefs st.length (ws.map wordD) = true := by
    have := nr_words (n := st.length) (ws := ws)
    rwa [wordsD, noRef] at this
  have e := f_law_at (r := ws.map wordD) (k := i) (x := wordD w) (st := st) (by simpa using hi) (by simpa using hl) h nr_word
  rw [show wordsD ws = .tup (ws.map wordD) from rfl, e, wordsD, List.map_set]
theorem f_law_at_pl {i k : Nat} (hi : i < ns.length) (hl : ns.length < 1000) : F._law_at.f [plD ns, .int i, .int k] st = .ok (plD (ns.set i k)) st := by
  have h : noRefs st.length (Ns ns) = true := by
    have := nr_pl (n := st.length) (ns := ns)
    rwa [plD, noRef] at this
  have e := f_law_at (r := Ns ns) (k := i) (x := .int k) (st := st) (by simpa using hi) (by simpa using hl) h (nr_int _)
  rw [show plD ns = .tup (Ns ns) from rfl, e, plD, Ns, Ns, List.map_set]
end
end Mi
/-! PgB: all_steps, _law_all_pairs. -/
namespace Mi
open PySem PySem.Spec PyProof.Rows L2

theorem pairsF_succ (p : Pro) (n : Nat) : pairsF p (n + 1) = pairsF p n ++ (List.range ((p.ms[n]?).elim 0 fun m => m.2.length)).map fun i => (n, i) := by
  simp [pairsF, List.range_succ, List.flatMap_append]
theorem pairsF_len {p : Pro} {mm : Nat} (hp : OkPro mm p) (n : Nat) : (pairsF p n).length ≤ n * mm := by
  induction n with
  | zero => simp [pairsF]
  | succ n ih =>
    rw [pairsF_succ, List.length_append, List.length_map, List.length_range, Nat.succ_mul]
    have : (p.ms[n]?.elim 0 fun m => m.2.length) ≤ mm := by
      cases e : p.ms[n]? with
      | none => simp
      | some x => exact (hp.ms x (List.mem_of_getElem? e)).len
    omega
theorem can_pairs (l : List (Nat × Nat)) : canDs (l.map pairD2) = true := canDs_all fun d hd => by
  obtain ⟨x, _, rfl⟩ := List.mem_map.mp hd
  simp [pairD2, canD, canDs]
theorem row_pairs (n k : Nat) : (rngD 0 k).map (fun d => D.tup [.int (n : Int), d]) = ((List.range k).map fun i => (n, i)).map pairD2 := by
  simp [rngD, pairD2]
theorem at_ms {p : Pro} {j : Nat} {x : Mach} (h : p.ms[j]? = some x) : atI (p.ms.map machD) (j : Int) = some (machD x) := by
  rw [atI_nat, List.getElem?_map, h]; rfl
theorem nrs_can {n : Nat} {ds : List D} (h : canDs ds = true) : noRefs n ds = true := nrs_of_can _ _ h
theorem comp_pairs {n k : Nat} {en : Env} {st : Sto} {vs : List Nat} {v i : Nat} (e1 : ∀ d, ((wipeD en vs).set i (some d))[v]? = some (some (.int n))) (e2 : ∀ d, ((wipeD en vs).set i (some d))[i]? = some (some d)) :
    compE (.nm i) vs (evC none) (rTup [(rVar v), (rVar i)]).ev (fun _ => true) en (rngD 0 k) st = .ok (((List.range k).map fun i => (n, i)).map pairD2) st := by
  rw [compE_all (fun d => D.tup [.int (n : Int), d]) rfl _ fun d hd => ⟨_, p_nm, by simp [e1 d, e2 d]⟩, row_pairs]
theorem f_pairs {p : Pro} {mm : Nat} {st : Sto} (hp : OkPro mm p) (hmm : mm ≤ 60) : F._law_all_pairs.f [proD p] st = .ok (.lst ((pairsOf p).map pairD2)) st := by
  have p2 := hp.m2
  refine run_eq (n := 4) (en := [some (proD p), none, none, none]) rfl rfl ?_
  rw [B._law_all_pairs]
  simp [v_for]
  refine ⟨b62_of (by omega) (by omega), ?_⟩
  refine forE_inv _ (fun j en s => j ≤ p.ms.length ∧ s = st ++ [.lst ((pairsF p j).map pairD2)] ∧ ∃ x2 x3 : Option D, en = [some (proD p), some (.ref st.length), x2, x3]) ⟨Nat.zero_le _, by simp [pairsF], none, none, rfl⟩ (fun _ _ _ _ => rfl) ?_ ?_
  · rintro j d en s hd ⟨hj, rfl, x2, x3, rfl⟩
    obtain ⟨hj2, rfl⟩ := rng_get hd
    obtain ⟨x, hx⟩ : ∃ x, p.ms[j]? = some x := ⟨_, List.getElem?_eq_getElem hj2⟩
    have hlen := (hp.ms x (List.mem_of_getElem? hx)).len
    have hl1 := pairsF_len hp j
    have hl2 : (pairsF p j).length ≤ 3 * 60 := Nat.le_trans hl1 (Nat.mul_le_mul (by omega) hmm)
    have hz : (pairsF p j).length + x.2.length ≤ sizeLine := by rw [sizeLine_eq]; omega
    refine ⟨_, p_nm, ?_⟩
    simp [v_comp, at_ms hx, rng_len]
    refine ⟨b62_of (by omega) (by omega), szB_of (by omega), ?_⟩
    rw [comp_pairs (n := j) (fun d => by simp) (fun d => by simp)]
    simp [hz]
    have := nrs_can (n := st.length) (can_pairs ((List.range x.2.length).map fun i => (j, i)))
    simp at this
    simp [this]
    refine ⟨hj2, ?_⟩
    rw [pairsF_succ, hx, List.map_append, List.map_map]; rfl
  · rintro en s ⟨hj, rfl, x2, x3, rfl⟩
    rw [rng_len]
    simp
    rw [rr_lst (ds := (pairsF p p.ms.length).map pairD2) (Nat.le_refl _) (by simp) (nrs_can (can_pairs _))]
    simp [pairsOf]
theorem f_all_steps {p : Pro} {mm : Nat} {st : Sto} (hp : OkPro mm p) (hmm : mm ≤ 60) : F.all_steps.f [proD p] st = .ok (.lst ((pairsOf p).map pairD2)) st := by
  have p2 := hp.m2
  refine run_eq (n := 6) (en := [some (proD p), none, none, none, none, none]) rfl rfl ?_
  rw [B.all_steps]
  simp [v_for]
  refine forE_inv _ (fun j en s => j ≤ p.ms.length ∧ s = st ++ [.lst ((pairsF p j).map pairD2)] ∧ ∃ x2 x3 x4 x5 : Option D, en = [some (proD p), some (.ref st.length), x2, x3, x4, x5]) ⟨Nat.zero_le _, by simp [pairsF], none, none, none, none, rfl⟩ (fun _ _ _ _ => rfl) ?_ ?_
  · rintro j d en s hd ⟨hj, rfl, x2, x3, x4, x5, rfl⟩
    obtain ⟨x, hx, rfl⟩ : ∃ x, p.ms[j]? = some x ∧ d = .tup [.int (j : Int), machD x] := by
      unfold numD at hd
      rw [List.getElem?_mapIdx, List.getElem?_map] at hd
      cases e : p.ms[j]? with
      | none => rw [e] at hd; cases hd
      | some x => rw [e] at hd; exact ⟨x, rfl, (Option.some.inj hd).symm⟩
    have hj2 := (List.getElem?_eq_some_iff.mp hx).1
    have hlen := (hp.ms x (List.mem_of_getElem? hx)).len
    have hl1 := pairsF_len hp j
    have hl2 : (pairsF p j).length ≤ 3 * 60 := Nat.le_trans hl1 (Nat.mul_le_mul (by omega) hmm)
    have hz : (pairsF p j).length + x.2.length ≤ sizeLine := by rw [sizeLine_eq]; omega
    simp [v_comp, rng_len, machD]
    refine ⟨b62_of (by omega) (by omega), szB_of (by omega), ?_⟩
    rw [comp_pairs (n := j) (fun d => by simp) (fun d => by simp)]
    simp [hz]
    have := nrs_can (n := st.length) (can_pairs ((List.range x.2.length).map fun i => (j, i)))
    simp at this
    simp [this]
    refine ⟨hj2, ?_⟩
    rw [pairsF_succ, hx, List.map_append, List.map_map]; rfl
  · rintro en s ⟨hj, rfl, x2, x3, x4, x5, rfl⟩
    have e : (numD (p.ms.map machD)).length = p.ms.length := by simp [numD]
    rw [e]
    simp
    rw [rr_lst (ds := (pairsF p p.ms.length).map pairD2) (Nat.le_refl _) (by simp) (nrs_can (can_pairs _))]
    simp [pairsOf]
end Mi
/-! PgC: words_back, back, _law_lot_back. -/
namespace Mi
open PySem PySem.Spec PyProof.Rows L2

def optW : Option (List (List Int)) → D
  | some ws => wordsD ws
  | none => .non
theorem f_words_back {lanes letters : Nat} {a : Act} {ws : List (List Int)} {st : Sto} (ha : OkAct lanes letters a) (hw : ws.length = lanes) (hl : lanes ≤ 3) (hlen : ∀ w ∈ ws, w.length < 1000) :
    F.words_back.f [actD a, wordsD ws] st = .ok (optW (bkWords a ws)) st := by
  refine run_eq (n := 4) (en := [some (actD a), some (wordsD ws), none, none]) rfl rfl ?_
  rw [B.words_back]
  cases a with
  | rest => simp [actD, bkWords, optW]
  | test i =>
    have hi : i < ws.length := by rw [hw]; exact ha
    rw [bkWords]
    have hg := ix_words (st := st) hi
    generalize ws.getD i [] = w at *
    cases w with
    | nil => simp [actD, hg, optW]
    | cons x r => simp [actD, hg, optW]
  | take i l =>
    have hi : i < ws.length := by rw [hw]; exact ha.1
    have h1 : (ws.getD i []).length < 1000 := hlen _ (by rw [List.getD_eq_getElem?_getD, List.getElem?_eq_getElem hi]; exact List.getElem_mem hi)
    have hg := ix_words (st := st) hi
    rw [bkWords]
    generalize ws.getD i [] = w at *
    have e := f_put_words (w := l :: w) (st := st) hi (by omega)
    simp (disch := first | omega | (simp; done)) [actD, hg, szB_of, e, optW]
  | send i l =>
    have hi : i < ws.length := by rw [hw]; exact ha.1
    have hg := ix_words (st := st) hi
    rw [bkWords]
    generalize ws.getD i [] = w at *
    have e := f_put_words (w := w.dropLast) (st := st) hi (by omega)
    cases hl : w.getLast? with
    | none =>
      have : w = [] := List.getLast?_eq_none_iff.mp hl
      subst this
      simp [actD, hg, optW]
    | some x =>
      have hne : w.isEmpty = false := by cases w <;> simp_all
      by_cases hx : x ≤ l
      · simp [actD, hg, hl, hne, hx, e, optW]
      · simp [actD, hg, hl, hne, hx, e, optW]
theorem stp_ok {mm : Nat} {p : Pro} {k i : Nat} {s : Stp} (hp : OkPro mm p) (h : stpAt p k i = some s) : ∃ m, p.ms[k]? = some m ∧ m.2[i]? = some s ∧ OkStp p.lanes p.letters m.1 s := by
  unfold stpAt at h
  cases e : p.ms[k]? with
  | none => rw [e] at h; cases h
  | some m =>
    rw [e] at h
    exact ⟨m, rfl, h, (hp.ms m (List.mem_of_getElem? e)).stp s (List.mem_of_getElem? h)⟩
theorem ix_ms {p : Pro} {k : Nat} {m : Mach} {st : Sto} (h : p.ms[k]? = some m) : ixD st (.tup (p.ms.map machD)) (.int (k : Int)) = some (machD m) := at_ms h
theorem ix_ss {ss : List Stp} {k : Nat} {s : Stp} {st : Sto} (h : ss[k]? = some s) : ixD st (.tup (ss.map stpD)) (.int (k : Int)) = some (stpD s) := by
  show atI (ss.map stpD) (k : Int) = _
  rw [atI_nat, List.getElem?_map, h]; rfl
@[simp] theorem ix_act0s {st : Sto} {i : Nat} {l : Int} : ixD st (actD (.send i l)) (.int 0) = some (.str "send") := by simp [actD]
@[simp] theorem isNon_words (ws : List (List Int)) : isNonD (wordsD ws) = false := (rfl)
@[simp] theorem isNon_lot (x : Lt) : isNonD (lotD x) = false := (rfl)
@[simp] theorem isNon_non : isNonD .non = true := (rfl)
theorem lot_tup (x y : List Nat) (ws : List (List Int)) : D.tup [plD x, wordsD ws] = lotD ⟨x, ws⟩ := rfl
theorem f_back {mm m : Nat} {p : Pro} {x : Lt} {k i : Nat} {st : Sto} (hp : OkPro mm p) (hx : OkLot p m x) (hm : m < 900) (hs : (stpAt p k i).isSome = true) :
    F.back.f [proD p, lotD x, .int k, .int i] st = .ok (optD (backV p x k i)) st := by
  obtain ⟨s, hs⟩ := Option.isSome_iff_exists.mp hs
  obtain ⟨mc, h1, h2, ok⟩ := stp_ok hp hs
  have hk : k < x.pl.length := by rw [hx.len]; exact (List.getElem?_eq_some_iff.mp h1).1
  have p2 := hp.m2
  have hlen := hx.len
  refine run_eq (n := 6) (en := [some (proD p), some (lotD x), some (.int k), some (.int i), none, none]) rfl rfl ?_
  rw [B.back]
  have e1 := ix_ms (st := st) h1
  have e2 := ix_ss (st := st) h2
  have e3 : ixD st (plD x.pl) (.int k) = some (.int (x.pl[k] : Nat)) := by rw [ix_pl, List.getElem?_eq_getElem hk]; rfl
  have e4 := f_words_back (st := st) ok.act hx.wl hp.l2 fun w hw => Nat.lt_of_le_of_lt (hx.ws w hw).1 (by omega)
  have e5 := f_put_pl (ns := x.pl) (k := s.here) (st := st) hk (by omega)
  have e6 : x.pl[k]? = some x.pl[k] := List.getElem?_eq_getElem hk
  unfold backV
  rw [hs, Option.bind_some, e6]
  by_cases ht : x.pl[k] = s.there
  · cases hb : bkWords s.act x.ws with
    | none => simp [e1, e2, e3, e4, ht, hb, optW, optD]
    | some ws =>
      simp [e1, e2, e3, e4, e5, ht, hb, optW, optD]
      rw [lot_tup _ []]
      simp
  · have ht2 : ¬ ((x.pl[k] : Int) = (s.there : Int)) := by omega
    simp [e1, e2, e3, e4, ht, ht2, optD]
end Mi
/-! PgD: all_back, _law_lot_back. -/
namespace Mi
open PySem PySem.Spec PyProof.Rows L2

theorem sh_lot (x : Lt) : hasSh shLot (lotD x) = true ∧ tupNe (lotD x) = true := by
  refine ⟨?_, rfl⟩
  simp [lotD, plD, wordsD, wordD, shLot, hasSh]
theorem shok_lots (l : List Lt) : shOkB (l.map lotD) = true := shOkB_of (σ := shLot) (by simp [shapesK]) fun d hd => by
  obtain ⟨x, _, rfl⟩ := List.mem_map.mp hd
  exact sh_lot x
theorem ok_lot (x : Lt) : okD (lotD x) = true := ok_of_key _ (key_of_sh _ _ (sh_lot x).1).1
theorem key_lot (x : Lt) : keyOkB (lotD x) = true := by
  have h := key_of_sh _ _ (sh_lot x).1
  unfold keyOkB
  rw [h.1, (sh_lot x).2, decide_eq_true (show dpD (lotD x) ≤ 8 from Nat.le_trans h.2 (by decide))]
  rfl
/-- the rows of a dict after putting in a lot -/
theorem dic_lot {ls : List Lt} {vs : List D} {x : Lt} {v : D} : ∃ ls2 : List Lt, (dicSet (ls.map lotD) vs (lotD x) v).1 = ls2.map lotD ∧ ls2.length ≤ ls.length + 1 ∧ ∀ d, d ∈ ls2.map lotD ↔ d ∈ ls.map lotD ∨ d = lotD x := by
  unfold dicSet
  cases e : dIx (ls.map lotD) (lotD x) with
  | none => exact ⟨ls ++ [x], by simp, by simp, fun d => by simp [eq_comm]⟩
  | some i =>
    refine ⟨ls, rfl, by omega, fun d => ⟨.inl, fun h => h.elim id fun h => ?_⟩⟩
    unfold dIx at e
    obtain ⟨hi, h1, _⟩ := List.findIdx?_eq_some_iff_getElem.mp e
    have hm : (ls.map lotD)[i] ∈ ls.map lotD := List.getElem_mem hi
    obtain ⟨y, hy, ey⟩ := List.mem_map.mp hm
    rw [← ey] at h1
    have := (eqD_iff _ _ (ok_lot y) (ok_lot x)).1 h1
    rw [h, ← this]
    exact List.mem_map.mpr ⟨y, hy, rfl⟩
def backsL (p : Pro) (x : Lt) : List Lt := (pairsOf p).filterMap fun k => backV p x k.1 k.2
theorem mem_pairs {p : Pro} {k : Nat × Nat} (h : k ∈ pairsOf p) : (stpAt p k.1 k.2).isSome = true := by
  unfold pairsOf pairsF at h
  obtain ⟨a, ha, h⟩ := List.mem_flatMap.mp h
  obtain ⟨i, hi, rfl⟩ := List.mem_map.mp h
  have hi := List.mem_range.mp hi
  have ha := List.mem_range.mp ha
  unfold stpAt
  dsimp only
  rw [List.getElem?_eq_getElem ha] at hi ⊢
  rw [Option.bind_some, List.getElem?_eq_getElem hi]
  rfl
@[simp] theorem put_pair {i j : Nat} {en : Env} {x : Nat × Nat} : putT (.tup [.nm i, .nm j]) en (pairD2 x) = some ((en.set i (some (.int x.1))).set j (some (.int x.2))) := by simp [pairD2]
def IvAB (p : Pro) (x : Lt) (st : Sto) (j : Nat) (en : Env) (s : Sto) : Prop := ∃ (ls : List Lt) (vs : List D) (x3 x4 x5 : Option D), s = st ++ [.dic (ls.map lotD) vs] ∧ en = [some (proD p), some (lotD x), some (.ref st.length), x3, x4, x5] ∧ ls.length ≤ j ∧ j ≤ 180 ∧
    ∀ d, d ∈ ls.map lotD ↔ d ∈ (((pairsOf p).take j).filterMap fun k => backV p x k.1 k.2).map lotD
theorem nrs_lots (n : Nat) (l : List Lt) : noRefs n (l.map lotD) = true := noRefs_all.mpr fun d hd => by
  obtain ⟨z, _, rfl⟩ := List.mem_map.mp hd
  exact nr_lot z
theorem f_all_back {mm m : Nat} {p : Pro} {x : Lt} {st : Sto} (hp : OkPro mm p) (hmm : mm ≤ 60) (hx : OkLot p m x) (hm : m < 900) :
    F.all_back.f [proD p, lotD x] st = .ok (.tup (sortD ((backsL p x).map lotD))) st := by
  have hl1 := pairsF_len hp p.ms.length
  have p2 := hp.m2
  have hl2 : (pairsOf p).length ≤ 3 * 60 := Nat.le_trans hl1 (Nat.mul_le_mul p2 hmm)
  refine run_eq (n := 6) (en := [some (proD p), some (lotD x), none, none, none, none]) rfl rfl ?_
  rw [B.all_back]
  simp [v_for, f_all_steps hp hmm]
  refine forE_inv _ (IvAB p x st) ⟨[], [], none, none, none, by simp, rfl, by simp, by omega, by simp⟩ (fun _ _ _ _ => rfl) ?_ ?_
  · rintro j d en s hd ⟨ls, vs, x3, x4, x5, rfl, rfl, hj, hj2, hmem⟩
    rw [List.getElem?_map] at hd
    cases e : (pairsOf p)[j]? with
    | none => rw [e] at hd; cases hd
    | some k =>
      rw [e] at hd
      cases hd
      have hk := mem_pairs (List.mem_of_getElem? e)
      have hlt := (List.getElem?_eq_some_iff.mp e).1
      have eb := f_back (st := st ++ [.dic (ls.map lotD) vs]) hp hx hm hk
      refine ⟨_, put_pair, ?_⟩
      cases hb : backV p x k.1 k.2 with
      | none =>
        rw [hb] at eb
        simp [eb, optD]
        refine ⟨ls, vs, _, _, _, rfl, rfl, by omega, by omega, fun d => ?_⟩
        rw [List.take_add_one, e]
        simpa [hb] using hmem d
      | some y =>
        rw [hb] at eb
        obtain ⟨ls2, h1, h2, h3⟩ := dic_lot (ls := ls) (vs := vs) (x := y) (v := .bl true)
        have hz : ls.length < sizeLine := by rw [sizeLine_eq]; omega
        simp [eb, optD, evSetKy, refD, key_lot, hz, noRef, h1]
        refine ⟨ls2, _, _, _, _, rfl, rfl, by omega, by omega, fun d => ?_⟩
        rw [List.take_add_one, e, h3 d, hmem d]
        simp [hb, eq_comm]
  · rintro en s ⟨ls, vs, x3, x4, x5, rfl, rfl, hj, hj2, hmem⟩
    have e : ((pairsOf p).map pairD2).length = (pairsOf p).length := List.length_map _
    rw [e, List.take_length] at hmem
    have es : sortE (ls.map lotD) = sortD ((backsL p x).map lotD) := by
      rw [sortE_eq (shok_lots ls)]
      exact sortD_congr (σ := shLot) (fun y hy => by
        obtain ⟨z, _, rfl⟩ := List.mem_map.mp hy
        exact (sh_lot z).1) hmem
    obtain ⟨ys, e1, _⟩ := sort_map (fun s => (sh_lot s).1) (backsL p x)
    have nr : noRef st.length (.tup (sortD ((backsL p x).map lotD))) = true := by
      rw [e1, noRef]; exact nrs_lots _ _
    simp [evSD, refD, shok_lots, es, rr_val nr]
theorem at_ws_lt {ws : List (List Int)} {i m : Nat} (hi : i < ws.length) (h : ∀ w ∈ ws, w.length ≤ m) : (ws.getD i []).length ≤ m := h _ (by rw [List.getD_eq_getElem?_getD, List.getElem?_eq_getElem hi]; exact List.getElem_mem hi)
@[simp] theorem put_stp {i j k : Nat} {en : Env} {s : Stp} : putT (.tup [.nm i, .nm j, .nm k]) en (stpD s) = some (((en.set i (some (.int s.here))).set j (some (actD s.act))).set k (some (.int s.there))) := by simp [stpD]
@[simp] theorem rr_nil {n : Nat} {st : Sto} : retR 0 n (.lst []) st = .ok (.lst []) (st.take n) := rr_val (by simp [noRef, noRefs])
theorem f_lot_back {mm m : Nat} {p : Pro} {x : Lt} {k i : Nat} {st : Sto} (hp : OkPro mm p) (hx : OkLot p m x) (hm : m < 900) (hs : (stpAt p k i).isSome = true) :
    F._law_lot_back.f [proD p, lotD x, .int k, .int i] st = .ok (.lst ((backV p x k i).toList.map lotD)) st := by
  obtain ⟨s, hs⟩ := Option.isSome_iff_exists.mp hs
  obtain ⟨mc, h1, h2, ok⟩ := stp_ok hp hs
  have hk : k < x.pl.length := by rw [hx.len]; exact (List.getElem?_eq_some_iff.mp h1).1
  have p2 := hp.m2
  have l2 := hp.l2
  have hlen := hx.len
  have hwl := hx.wl
  refine run_eq (n := 8) (en := [some (proD p), some (lotD x), some (.int k), some (.int i), none, none, none, none]) rfl rfl ?_
  rw [B._law_lot_back]
  have e1 := ix_ms (st := st) h1
  have e2 := ix_ss (st := st) h2
  have e3 : ixD st (plD x.pl) (.int k) = some (.int (x.pl[k] : Nat)) := by rw [ix_pl, List.getElem?_eq_getElem hk]; rfl
  have e6 : x.pl[k]? = some x.pl[k] := List.getElem?_eq_getElem hk
  have at3 : ∀ st', ixD st' (plD x.pl) (.int k) = some (.int (x.pl[k] : Nat)) := fun st' => e3
  unfold backV
  rw [hs, Option.bind_some, e6]
  have eat : ∀ st', F._law_at.f [plD x.pl, .int k, .int s.here] st' = .ok (plD (x.pl.set k s.here)) st' := fun st' => f_law_at_pl hk (by omega)
  by_cases ht : x.pl[k] = s.there
  · have ht2 : (x.pl[k] : Int) = (s.there : Int) := by omega
    have wa := ok.act
    have hw : ∀ w ∈ x.ws, w.length < 1000 := fun w hw => Nat.lt_of_le_of_lt (hx.ws w hw).1 (by omega)
    have atw : ∀ i, i < x.ws.length → atI (x.ws.map wordD) (i : Int) = some (wordD (x.ws.getD i [])) := fun i hi => ix_words (st := st) hi
    have nrw : ∀ ws : List (List Int), noRefs st.length (ws.map wordD) = true := fun ws => by
      have := nr_words (n := st.length) (ws := ws)
      rwa [wordsD, noRef] at this
    have fin : ∀ (ws : List (List Int)), (retR 0 st.length (.lst [.tup [plD (x.pl.set k s.here), .tup (ws.map wordD)]]) (st ++ [.lst (ws.map wordD)])) = .ok (.lst [lotD ⟨x.pl.set k s.here, ws⟩]) st := fun ws => by
      show retR 0 st.length (.lst [lotD ⟨x.pl.set k s.here, ws⟩]) _ = _
      rw [rr_val (by simp [noRef, noRefs])]
      simp
    obtain ⟨here, act, there⟩ := s
    have ht : x.pl[k] = there := ht
    have ht2 : (x.pl[k] : Int) = (there : Int) := ht2
    have ixr : ∀ (ws : List (List Int)) (i : Nat), i < ws.length → ixD (st ++ [.lst (ws.map wordD)]) (.ref st.length) (.int i) = some (wordD (ws.getD i [])) := fun ws i hi => by
      simp [ixD]
      exact ix_words (st := st) hi
    cases act with
    | rest =>
      simp [put_stp, e1, e2, at3, ht, ht2, actD, bkWords, eat, fin]
    | test i =>
      have hi : i < x.ws.length := by rw [hwl]; exact wa
      have g := ixr x.ws i hi
      rw [bkWords]
      generalize x.ws.getD i [] = w at *
      cases w with
      | nil => simp [put_stp, e1, e2, at3, ht, ht2, actD, g, eat, fin]
      | cons a r => simp [put_stp, e1, e2, at3, ht, ht2, actD, g, eat, fin]
    | take i l =>
      have hi : i < x.ws.length := by rw [hwl]; exact wa.1
      have g := ixr x.ws i hi
      have h1 := hw _ (show x.ws.getD i [] ∈ x.ws by rw [List.getD_eq_getElem?_getD, List.getElem?_eq_getElem hi]; exact List.getElem_mem hi)
      have f := fin (x.ws.set i (l :: x.ws.getD i []))
      rw [bkWords]
      generalize x.ws.getD i [] = w at *
      rw [List.map_set] at f
      have hx : ixN x.ws.length (i : Int) = some i := by simp [ixN, hi]
      have z : szB (1 + w.length) = true := szB_of (by omega)
      simp [put_stp, e1, e2, at3, ht, ht2, actD, g, eat, z, evSetIx, hx]
      rw [f]
      simp
    | send i l =>
      have hi : i < x.ws.length := by rw [hwl]; exact wa.1
      have g := ixr x.ws i hi
      have f := fin (x.ws.set i (x.ws.getD i []).dropLast)
      have f0 := fin x.ws
      rw [bkWords]
      generalize x.ws.getD i [] = w at *
      rw [List.map_set] at f
      have hx : ixN x.ws.length (i : Int) = some i := by simp [ixN, hi]
      cases hl : w.getLast? with
      | none =>
        have : w = [] := List.getLast?_eq_none_iff.mp hl
        subst this
        simp [put_stp, e1, e2, at3, ht, ht2, actD, g, eat, f0]
      | some z =>
        have hne : w.isEmpty = false := by cases w <;> simp_all
        by_cases hz : z ≤ l
        · simp [put_stp, e1, e2, at3, ht, ht2, actD, g, eat, evSetIx, hx, hl, hne, hz]
          rw [f]
          simp
        · simp [put_stp, e1, e2, at3, ht, ht2, actD, g, eat, evSetIx, hx, hl, hne, hz, f0]
  · have ht2 : ¬ ((x.pl[k] : Int) = (s.there : Int)) := by omega
    simp [put_stp, e1, e2, at3, ht, ht2]
end Mi
/-! RnE: what can be shown by repr. -/
namespace Mi
open PySem PySem.Spec PyProof.Rows L2

mutual
/-- what has a short text -/
def shB : D → Bool
  | .non => true
  | .bl _ => true
  | .int i => decide (i.natAbs < 10 ^ 12)
  | .str s => PyData.strOk s && (toPy (.str s)).showable && decide ((toPy (.str s)).shown.length ≤ 20 * s.cps.size + 8)
  | .tup ds => shBs ds
  | .lst ds => shBs ds
  | _ => false
def shBs : List D → Bool
  | [] => true
  | d :: r => shB d && shBs r
end
theorem shBs_all : ∀ {ds : List D}, shBs ds = true ↔ ∀ d ∈ ds, shB d = true
  | [] => by simp [shBs]
  | d :: r => by rw [shBs, Bool.and_eq_true, shBs_all]; simp
mutual
theorem shB_can : ∀ d : D, shB d = true → canD d = true
  | .non, _ => by rw [canD]
  | .bl _, _ => by rw [canD]
  | .int _, _ => by rw [canD]
  | .str _, h => by rw [shB] at h; rw [canD]; simp only [Bool.and_eq_true] at h; exact h.1.1
  | .tup ds, h => by rw [shB] at h; rw [canD]; exact shBs_can ds h
  | .lst ds, h => by rw [shB] at h; rw [canD]; exact shBs_can ds h
  | .rol _, h => by simp [shB] at h
  | .dic _ _, h => by simp [shB] at h
  | .ref _, h => by simp [shB] at h
theorem shBs_can : ∀ ds : List D, shBs ds = true → canDs ds = true
  | [], _ => by rw [canDs]
  | d :: r, h => by
    rw [shBs, Bool.and_eq_true] at h
    rw [canDs, Bool.and_eq_true]
    exact ⟨shB_can d h.1, shBs_can r h.2⟩
end
mutual
theorem shB_show : ∀ d : D, shB d = true → (toPy d).showable = true ∧ (toPy d).shown.length ≤ wtD d
  | .non, _ => ⟨rfl, by decide +kernel⟩
  | .bl b, _ => ⟨rfl, by cases b <;> decide +kernel⟩
  | .int i, h => by
    rw [shB] at h
    have h1 := of_decide_eq_true h
    refine ⟨decide_eq_true (log2_small (Nat.lt_of_lt_of_le h1 (by decide))), ?_⟩
    rw [wtD]
    exact PyData.shown_int_le h1
  | .tup ds, h => by
    rw [shB] at h
    obtain ⟨h1, h2⟩ := shBs_show ds h
    rw [toPy, PyData.showable, PyData.shown, wtD]
    refine ⟨h1, Nat.le_trans (tupleText_len_le _) ?_⟩
    omega
  | .lst ds, h => by
    rw [shB] at h
    obtain ⟨h1, h2⟩ := shBs_show ds h
    rw [toPy, PyData.showable, PyData.shown, wtD]
    refine ⟨h1, Nat.le_trans (listText_len_le _) ?_⟩
    omega
  | .str s, h => by
    rw [shB] at h
    simp only [Bool.and_eq_true] at h
    exact ⟨h.1.2, by rw [wtD]; exact of_decide_eq_true h.2⟩
  | .rol _, h => by simp [shB] at h
  | .dic _ _, h => by simp [shB] at h
  | .ref _, h => by simp [shB] at h
theorem shBs_show : ∀ ds : List D, shBs ds = true → PyData.showableAll (toPys ds) = true ∧ ((PyData.shownAll (toPys ds)).map (·.length)).sum + 2 * (PyData.shownAll (toPys ds)).length ≤ wtDs ds
  | [], _ => ⟨rfl, by simp [toPys, PyData.shownAll]⟩
  | d :: r, h => by
    rw [shBs, Bool.and_eq_true] at h
    obtain ⟨h1, h2⟩ := shB_show d h.1
    obtain ⟨h3, h4⟩ := shBs_show r h.2
    rw [toPys, PyData.showableAll, PyData.shownAll, wtDs, List.map_cons, List.sum_cons, List.length_cons]
    exact ⟨by rw [h1, h3]; rfl, by omega⟩
end
/-- short, k deep at most, with c signs at most -/
def Rp (k c : Nat) (d : D) : Prop := shB d = true ∧ dpD d ≤ k ∧ wtD d ≤ c
theorem Rp.le {k c k2 c2 : Nat} {d : D} (h : Rp k c d) (hk : k ≤ k2) (hc : c ≤ c2) : Rp k2 c2 d := ⟨h.1, Nat.le_trans h.2.1 hk, Nat.le_trans h.2.2 hc⟩
theorem rp_int {i : Int} (h : i.natAbs < 1000000000000) : Rp 0 13 (.int i) := ⟨by rw [shB]; exact decide_eq_true h, by simp [dpD], by simp [wtD]⟩
theorem rp_non : Rp 0 13 .non := ⟨rfl, by simp [dpD], by simp [wtD]⟩
theorem rp_bl (b : Bool) : Rp 0 13 (.bl b) := ⟨rfl, by simp [dpD], by simp [wtD]⟩
theorem dps_le2 {k : Nat} : ∀ {ds : List D}, (∀ d ∈ ds, dpD d ≤ k) → dpDs ds ≤ k
  | [], _ => by simp [dpDs]
  | d :: r, h => by
    rw [dpDs]
    exact Nat.max_le.mpr ⟨h d List.mem_cons_self, dps_le2 fun x hx => h x (List.mem_cons_of_mem _ hx)⟩
theorem wtDs_le {c : Nat} : ∀ {ds : List D}, (∀ d ∈ ds, wtD d ≤ c) → wtDs ds ≤ ds.length * (c + 2)
  | [], _ => by simp [wtDs]
  | d :: r, h => by
    rw [wtDs, List.length_cons, Nat.succ_mul]
    have h1 := h d List.mem_cons_self
    have h2 := wtDs_le (c := c) (ds := r) fun x hx => h x (List.mem_cons_of_mem _ hx)
    omega
theorem rp_tup {k c n : Nat} {ds : List D} (h : ∀ d ∈ ds, Rp k c d) (hn : ds.length ≤ n) : Rp (k + 1) (n * (c + 2) + 4) (.tup ds) := by
  refine ⟨by rw [shB]; exact shBs_all.mpr fun d hd => (h d hd).1, ?_, ?_⟩
  · rw [dpD]
    exact Nat.succ_le_succ (dps_le2 fun d hd => (h d hd).2.1)
  · rw [wtD]
    have h1 := wtDs_le fun d hd => (h d hd).2.2
    have h2 : ds.length * (c + 2) ≤ n * (c + 2) := Nat.mul_le_mul_right _ hn
    omega
theorem rp_lst {k c n : Nat} {ds : List D} (h : ∀ d ∈ ds, Rp k c d) (hn : ds.length ≤ n) : Rp (k + 1) (n * (c + 2) + 4) (.lst ds) := by
  refine ⟨by rw [shB]; exact shBs_all.mpr fun d hd => (h d hd).1, ?_, ?_⟩
  · rw [dpD]
    exact Nat.succ_le_succ (dps_le2 fun d hd => (h d hd).2.1)
  · rw [wtD]
    have h1 := wtDs_le fun d hd => (h d hd).2.2
    have h2 : ds.length * (c + 2) ≤ n * (c + 2) := Nat.mul_le_mul_right _ hn
    omega
theorem Rp.ok {k c : Nat} {d : D} (h : Rp k c d) (hk : k ≤ 60) (hc : c ≤ 10000000) : repOkB (toPy d) = true := by
  obtain ⟨h0, h1, h2⟩ := h
  obtain ⟨p1, p2⟩ := can_py d (shB_can d h0)
  obtain ⟨h3, h4⟩ := shB_show d h0
  refine repOkB_ok.mpr ⟨p1, h3, by rw [p2]; omega, ?_⟩
  rw [sizeLine_eq]
  omega
/-- repr of a value -/
theorem k_repr_v {k c : Nat} {d : D} {st : Sto} (h : Rp k c d) (hk : k ≤ 60) (hc : c ≤ 10000000) (hl : lookD st d = d) : kRepr.ev [d] st = .ok (.str (toPy d).shown) st := by
  rw [k_repr, hl, h.ok hk hc]
  rfl
theorem mem2 {P : D → Prop} {a b : D} (ha : P a) (hb : P b) : ∀ d ∈ [a, b], P d := fun d hd => by
  simp only [List.mem_cons, List.not_mem_nil, or_false] at hd
  rcases hd with rfl | rfl <;> assumption
theorem mem3 {P : D → Prop} {a b c : D} (ha : P a) (hb : P b) (hc : P c) : ∀ d ∈ [a, b, c], P d := fun d hd => by
  simp only [List.mem_cons, List.not_mem_nil, or_false] at hd
  rcases hd with rfl | rfl | rfl <;> assumption
theorem rp_word {w : List Int} {m : Nat} (hm : w.length ≤ m) (h : ∀ l ∈ w, 0 ≤ l ∧ l < 1000000000000) : Rp 1 (m * 15 + 4) (wordD w) := rp_tup (k := 0) (c := 13) (fun d hd => by
  obtain ⟨l, hl, rfl⟩ := List.mem_map.mp hd
  have := h l hl
  exact rp_int (by omega)) (by rw [List.length_map]; exact hm)
theorem rp_pl {ns : List Nat} {n : Nat} (hn : ns.length ≤ n) (h : ∀ k ∈ ns, k < 1000000000000) : Rp 1 (n * 15 + 4) (plD ns) := rp_tup (k := 0) (c := 13) (fun d hd => by
  obtain ⟨l, hl, rfl⟩ := List.mem_map.mp hd
  have := h l hl
  exact rp_int (by omega)) (by rw [List.length_map]; exact hn)
theorem rp_words {ws : List (List Int)} {n m : Nat} (hn : ws.length ≤ n) (h : ∀ w ∈ ws, w.length ≤ m ∧ ∀ l ∈ w, 0 ≤ l ∧ l < 1000000000000) : Rp 2 (n * (m * 15 + 6) + 4) (wordsD ws) := rp_tup (k := 1) (c := m * 15 + 4) (fun d hd => by
  obtain ⟨w, hw, rfl⟩ := List.mem_map.mp hd
  exact rp_word (h w hw).1 (h w hw).2) (by rw [List.length_map]; exact hn)
theorem rp_str4 {s : Str} (h : s = "send" ∨ s = "take" ∨ s = "test" ∨ s = "rest") : Rp 0 88 (.str s) := by
  rcases h with rfl | rfl | rfl | rfl <;> exact ⟨by decide +kernel, by simp [dpD], by decide +kernel⟩
theorem rp_act {lanes letters : Nat} {a : Act} (h : OkAct lanes letters a) (h1 : lanes ≤ 3) (h2 : letters ≤ 3) : Rp 1 274 (actD a) := by
  cases a with
  | send i l => exact (rp_tup (k := 0) (c := 88) (n := 3) (mem3 (rp_str4 (.inl rfl)) ((rp_int (by have := h.1; omega)).le (by omega) (by omega)) ((rp_int (by have := h.2; omega)).le (by omega) (by omega))) (by simp)).le (by omega) (by omega)
  | take i l => exact (rp_tup (k := 0) (c := 88) (n := 3) (mem3 (rp_str4 (.inr (.inl rfl))) ((rp_int (by have := h.1; omega)).le (by omega) (by omega)) ((rp_int (by have := h.2; omega)).le (by omega) (by omega))) (by simp)).le (by omega) (by omega)
  | test i => exact (rp_tup (k := 0) (c := 88) (n := 3) (mem2 (rp_str4 (.inr (.inr (.inl rfl)))) ((rp_int (by have : i < lanes := h; omega)).le (by omega) (by omega))) (by simp)).le (by omega) (by omega)
  | rest => exact (rp_tup (k := 0) (c := 88) (n := 3) (fun d hd => by rw [List.mem_singleton.mp hd]; exact rp_str4 (.inr (.inr (.inr rfl)))) (by simp)).le (by omega) (by omega)
theorem rp_stp {lanes letters places : Nat} {s : Stp} (h : OkStp lanes letters places s) (h1 : lanes ≤ 3) (h2 : letters ≤ 3) (h3 : places ≤ 5) : Rp 2 832 (stpD s) :=
  (rp_tup (k := 1) (c := 274) (n := 3) (mem3 ((rp_int (by have := h.here; omega)).le (by omega) (by omega)) (rp_act h.act h1 h2) ((rp_int (by have := h.there; omega)).le (by omega) (by omega))) (by simp)).le (by omega) (by omega)
theorem rp_mach {lanes letters mm : Nat} {m : Mach} (h : OkMach lanes letters mm m) (h1 : lanes ≤ 3) (h2 : letters ≤ 3) (h3 : mm ≤ 60) : Rp 4 100096 (machD m) :=
  (rp_tup (k := 3) (c := 50044) (n := 2) (mem2 ((rp_int (by have := h.le; omega)).le (by omega) (by omega)) ((rp_tup (k := 2) (c := 832) (n := 60) (fun d hd => by
    obtain ⟨s, hs, rfl⟩ := List.mem_map.mp hd
    exact rp_stp (h.stp s hs) h1 h2 h.le) (by rw [List.length_map]; have := h.len; omega)).le (by omega) (by omega))) (by simp)).le (by omega) (by omega)
theorem rp_pro {mm : Nat} {p : Pro} (h : OkPro mm p) (hm : mm ≤ 60) : Rp 6 900904 (proD p) :=
  (rp_tup (k := 5) (c := 300298) (n := 3) (mem3 ((rp_int (by have := h.l2; omega)).le (by omega) (by omega)) ((rp_int (by have := h.t2; omega)).le (by omega) (by omega)) ((rp_tup (k := 4) (c := 100096) (n := 3) (fun d hd => by
    obtain ⟨s, hs, rfl⟩ := List.mem_map.mp hd
    exact rp_mach (h.ms s hs) h.l2 h.t2 hm) (by rw [List.length_map]; exact h.m2)).le (by omega) (by omega))) (by simp)).le (by omega) (by omega)
theorem rp_lot' {x : Lt} {m : Nat} (h1 : x.pl.length ≤ 3) (h2 : ∀ k ∈ x.pl, k < 1000000000000) (h3 : x.ws.length ≤ 3) (h4 : ∀ w ∈ x.ws, w.length ≤ m ∧ ∀ l ∈ w, 0 ≤ l ∧ l < 1000000000000) : Rp 3 (2 * (3 * (m * 15 + 6) + 100) + 4) (lotD x) :=
  (rp_tup (k := 2) (c := 3 * (m * 15 + 6) + 98) (n := 2) (mem2 ((rp_pl h1 h2).le (by omega) (by omega)) ((rp_words h3 h4).le (by omega) (by omega))) (by simp)).le (by omega) (by omega)
theorem OkLot.small {mm m : Nat} {p : Pro} {x : Lt} (hp : OkPro mm p) (h : OkLot p m x) : ∀ k ∈ x.pl, k < 5 := fun k hk => by
  obtain ⟨i, hi, e⟩ := List.mem_iff_getElem.mp hk
  have hi2 : i < p.ms.length := by rw [← h.len]; exact hi
  have := h.pl i k p.ms[i] (by rw [← e]; exact List.getElem?_eq_getElem hi) (List.getElem?_eq_getElem hi2)
  have := (hp.ms _ (List.getElem_mem hi2)).le
  omega
theorem rp_lot {mm m : Nat} {p : Pro} {x : Lt} (hp : OkPro mm p) (h : OkLot p m x) : Rp 3 (2 * (3 * (m * 15 + 6) + 100) + 4) (lotD x) :=
  rp_lot' (by rw [h.len]; exact hp.m2) (fun k hk => by have := h.small hp k hk; omega) (by rw [h.wl]; exact hp.l2) fun w hw => ⟨(h.ws w hw).1, fun l hl => by have := (h.ws w hw).2 l hl; have := hp.t2; omega⟩
end Mi
/-! PgE: place_in, is_within, are_within, is_above; _law_is_held, _law_stands_above. -/
namespace Mi
open PySem PySem.Spec PyProof.Rows L2

/-- place_in -/
def N.place_in : List Str := ["word", "other", "found", "place", "letter"]
def B.place_in : List RS := [
  xPar2 2 3 (rList true []) (rInt 0),
  xFor (.nm 4) (jSeq (rVar 0)) [
      xWhile 100000 (qAn [(qCm .Lt oLtI (rVar 3) (rB kLen [(rVar 1)])), (qCm .Lt oLtI (rIx (rVar 1) (rVar 3)) (rVar 4))]) [
        xSet 3 (rBin .Add (oAdd false) (rVar 3) (rInt 1))],
      xIf (qCm .Eq oEq (rVar 3) (rB kLen [(rVar 1)])) [
        xRet rNone] [],
      xExp (rMeth1 nAppend (rVar 2) (rVar 3)),
      xSet 3 (rBin .Add (oAdd false) (rVar 3) (rInt 1))],
  xRet (rB kTuple [(rVar 2)])]
def F.place_in : FS := mkF 2 0 5 B.place_in
@[simp] theorem F.arplace_in : F.place_in.ar = 2 := (rfl)

/-- is_within -/
def N.is_within : List Str := ["word", "other"]
def B.is_within : List RS := [
  xRet (rCmp .IsNot oIsNot (rCall "place_in" F.place_in [] [(rVar 0), (rVar 1)]) rNone)]
def F.is_within : FS := mkF 2 0 2 B.is_within
@[simp] theorem F.aris_within : F.is_within.ar = 2 := (rfl)

/-- are_within -/
def N.are_within : List Str := ["words", "others", "word", "other"]
def B.are_within : List RS := [
  xRet (rB kAll [(rComp false (.tup [(.nm 2), (.nm 3)]) [("word", 2), ("other", 3)] (jZip true (rVar 0) (rVar 1)) none (rCall "is_within" F.is_within [] [(rVar 2), (rVar 3)]))])]
def F.are_within : FS := mkF 2 0 4 B.are_within
@[simp] theorem F.arare_within : F.are_within.ar = 2 := (rfl)

/-- is_above -/
def N.is_above : List Str := ["lot", "other"]
def B.is_above : List RS := [
  xRet (rAnd [(rCmp .Eq oEq (rIx (rVar 0) (rInt 0)) (rIx (rVar 1) (rInt 0))), (rCall "are_within" F.are_within [] [(rIx (rVar 1) (rInt 1)), (rIx (rVar 0) (rInt 1))])])]
def F.is_above : FS := mkF 2 0 2 B.is_above
@[simp] theorem F.aris_above : F.is_above.ar = 2 := (rfl)

/-- _law_is_held -/
def N._law_is_held : List Str := ["word", "other", "at", "letter"]
def B._law_is_held : List RS := [
  xSet 2 (rInt 0),
  xFor (.nm 3) (jSeq (rVar 1)) [
      xIf (qAn [(qCm .Lt oLtI (rVar 2) (rB kLen [(rVar 0)])), (qCm .LtE oLe (rIx (rVar 0) (rVar 2)) (rVar 3))]) [
        xSet 2 (rBin .Add (oAdd false) (rVar 2) (rInt 1))] []],
  xRet (rCmp .Eq oEq (rVar 2) (rB kLen [(rVar 0)]))]
def F._law_is_held : FS := mkF 2 0 4 B._law_is_held
@[simp] theorem F.ar_law_is_held : F._law_is_held.ar = 2 := (rfl)

/-- _law_stands_above -/
def N._law_stands_above : List Str := ["lot", "other", "more", "less"]
def B._law_stands_above : List RS := [
  xIf (qCm .NotEq oNe (rIx (rVar 0) (rInt 0)) (rIx (rVar 1) (rInt 0))) [
      xRet (rBl false)] [],
  xRet (rCmp .Eq oEq (rComp false (.tup [(.nm 2), (.nm 3)]) [("more", 2), ("less", 3)] (jZip false (rIx (rVar 0) (rInt 1)) (rIx (rVar 1) (rInt 1))) (some (qNo (tV' (rCall "_law_is_held" F._law_is_held [] [(rVar 3), (rVar 2)])))) (rInt 1)) (rList false []))]
def F._law_stands_above : FS := mkF 2 0 4 B._law_stands_above
@[simp] theorem F.ar_law_stands_above : F._law_stands_above.ar = 2 := (rfl)

/-! ### words within others -/
/-- letters lost or made smaller -/
def wi : List Int → List Int → Bool
  | [], _ => true
  | _ :: _, [] => false
  | a :: w, b :: v => if a ≤ b then wi w v else wi (a :: w) v
inductive Sb : List Int → List Int → Prop
  | nil : Sb [] []
  | skip {w v : List Int} (b : Int) : Sb w v → Sb w (b :: v)
  | keep {w v : List Int} {a b : Int} : a ≤ b → Sb w v → Sb (a :: w) (b :: v)
theorem Sb.empty : ∀ v, Sb [] v
  | [] => .nil
  | b :: v => .skip b (Sb.empty v)
theorem Sb.refl : ∀ v, Sb v v
  | [] => .nil
  | _ :: v => .keep (Int.le_refl _) (Sb.refl v)
theorem Sb.tail {a : Int} {w v : List Int} (h : Sb (a :: w) v) : Sb w v := by
  generalize e : a :: w = u at h
  induction h with
  | nil => cases e
  | skip b _ ih => exact .skip b (ih e)
  | keep _ h _ => cases e; exact .skip _ h
theorem Sb.trans : ∀ {u w v : List Int}, Sb u w → Sb w v → Sb u v := by
  intro u w v h1 h2
  induction h2 generalizing u with
  | nil => exact h1
  | skip b _ ih => exact .skip b (ih h1)
  | keep hab _ ih =>
    cases h1 with
    | skip _ h => exact .skip _ (ih h)
    | keep hca h => exact .keep (Int.le_trans hca hab) (ih h)
theorem wi_iff : ∀ (w v : List Int), wi w v = true ↔ Sb w v
  | [], v => ⟨fun _ => Sb.empty v, fun _ => by cases v <;> rfl⟩
  | a :: w, [] => ⟨fun h => by simp [wi] at h, fun h => by cases h⟩
  | a :: w, b :: v => by
    rw [wi]
    by_cases hab : a ≤ b
    · rw [if_pos hab, wi_iff w v]
      exact ⟨.keep hab, fun h => by
        cases h with
        | skip _ h => exact h.tail
        | keep _ h => exact h⟩
    · rw [if_neg hab, wi_iff (a :: w) v]
      exact ⟨.skip b, fun h => by
        cases h with
        | skip _ h => exact h
        | keep h _ => exact absurd h hab⟩
theorem Sb.len {w v : List Int} (h : Sb w v) : w.length ≤ v.length := by
  induction h with
  | nil => exact Nat.le_refl _
  | skip b _ ih => simp; omega
  | keep _ _ ih => simp; omega
/-- of two rows of words -/
def wis : List (List Int) → List (List Int) → Bool
  | w :: ws, v :: vs => wi w v && wis ws vs
  | [], [] => true
  | _, _ => false
/-- whether a lot is above another one -/
def ab (x y : Lt) : Bool := decide (x.pl = y.pl) && wis y.ws x.ws

/-! ### place_in -/
def adv (os : List Int) (l : Int) (p : Nat) : Nat := p + ((os.drop p).takeWhile fun x => decide (x < l)).length
def placeAt (os : List Int) : List Int → Nat → Option (List Nat)
  | [], _ => some []
  | l :: ws, p => if adv os l p = os.length then none else (placeAt os ws (adv os l p + 1)).map fun r => adv os l p :: r
theorem adv_end {os : List Int} {l : Int} {p : Nat} (h : os.length ≤ p) : adv os l p = p := by
  unfold adv; rw [List.drop_of_length_le h]; rfl
theorem adv_stop {os : List Int} {l x : Int} {p : Nat} (h : os[p]? = some x) (hx : ¬ x < l) : adv os l p = p := by
  unfold adv
  obtain ⟨hp, e⟩ := List.getElem?_eq_some_iff.mp h
  rw [List.drop_eq_getElem_cons hp, e, List.takeWhile_cons_of_neg (by simpa using hx)]
  rfl
theorem adv_step {os : List Int} {l x : Int} {p : Nat} (h : os[p]? = some x) (hx : x < l) : adv os l p = adv os l (p + 1) := by
  unfold adv
  obtain ⟨hp, e⟩ := List.getElem?_eq_some_iff.mp h
  rw [List.drop_eq_getElem_cons hp, e, List.takeWhile_cons_of_pos (by simpa using hx)]
  simp; omega
theorem adv_le {os : List Int} {l : Int} {p : Nat} (h : p ≤ os.length) : adv os l p ≤ os.length := by
  unfold adv
  have := (List.takeWhile_sublist (fun x => decide (x < l)) (l := os.drop p)).length_le
  rw [List.length_drop] at this
  omega
theorem wi_place (os : List Int) : ∀ (w : List Int) (n p : Nat), os.length - p ≤ n → p ≤ os.length → (placeAt os w p).isSome = wi w (os.drop p)
  | [], _, p, _, _ => by cases os.drop p <;> rfl
  | a :: w, n, p, hn, hp => by
    by_cases he : p = os.length
    · rw [placeAt, adv_end (by omega), if_pos he, List.drop_of_length_le (by omega)]; rfl
    · have hlt : p < os.length := by omega
      rw [List.drop_eq_getElem_cons hlt, wi]
      by_cases hx : os[p] < a
      · rw [if_neg (by omega), placeAt, adv_step (List.getElem?_eq_getElem hlt) hx]
        cases n with
        | zero => omega
        | succ n =>
          have := wi_place os (a :: w) n (p + 1) (by omega) (by omega)
          rw [placeAt] at this
          exact this
      · rw [if_pos (by omega), placeAt, adv_stop (List.getElem?_eq_getElem hlt) hx, if_neg he]
        cases n with
        | zero => omega
        | succ n =>
          rw [Option.isSome_map]
          exact wi_place os w n (p + 1) (by omega) (by omega)
theorem wi_place0 (os w : List Int) : (placeAt os w 0).isSome = wi w os := by
  rw [wi_place os w os.length 0 (by omega) (by omega), List.drop_zero]
theorem ix_word {w : List Int} {i : Nat} {st : Sto} : ixD st (wordD w) (.int i) = w[i]?.map D.int := by
  show atI (Is w) (i : Int) = _
  rw [atI_nat, List.getElem?_map]
def placeD (os w : List Int) : D := match placeAt os w 0 with | none => .non | some ps => plD ps
theorem place_while {os : List Int} {l : Int} {x0 x2 : Option D} {st : Sto} : ∀ (n p : Nat), os.length - p < n → p ≤ os.length →
    whE (qAn [(qCm .Lt oLtI (rVar 3) (rB kLen [(rVar 1)])), (qCm .Lt oLtI (rIx (rVar 1) (rVar 3)) (rVar 4))]).ev (evB [xSet 3 (rBin .Add (oAdd false) (rVar 3) (rInt 1))]) n [x0, some (wordD os), x2, some (.int p), some (.int l)] st =
      .nx [x0, some (wordD os), x2, some (.int (adv os l p : Nat)), some (.int l)] st
  | 0, _, h, _ => absurd h (Nat.not_lt_zero _)
  | n + 1, p, h, hp => by
    rw [whE]
    by_cases he : p = os.length
    · subst he
      simp [adv_end]
    · have hlt : p < os.length := by omega
      have e1 : (p : Int) < (os.length : Int) := by omega
      have ix := ix_word (st := st) (w := os) (i := p)
      rw [List.getElem?_eq_getElem hlt] at ix
      by_cases hx : os[p] < l
      · have ih := place_while (os := os) (l := l) (x0 := x0) (x2 := x2) (st := st) n (p + 1) (by omega) (by omega)
        simp [hlt, ix, hx]
        rw [adv_step (List.getElem?_eq_getElem hlt) hx]
        exact ih
      · simp [hlt, ix, hx]
        rw [adv_stop (List.getElem?_eq_getElem hlt) hx]
theorem f_place_in {w os : List Int} {st : Sto} (hw : w.length ≤ 100000) (ho : os.length < 99999) : F.place_in.f [wordD w, wordD os] st = .ok (placeD os w) st := by
  refine run_eq (n := 5) (en := [some (wordD w), some (wordD os), none, none, none]) rfl rfl ?_
  rw [B.place_in]
  simp [v_for, itSeq, ckSeq]
  have key : ∀ (N : EndsD) (v : List Int) (p : Nat) (acc : List Nat) (x : Option D), p ≤ os.length → acc.length + v.length ≤ 100000 →
      (∀ ps p' x', placeAt os v p = some ps → N.nx [some (wordD w), some (wordD os), some (.ref st.length), some (.int p'), x'] (st ++ [.lst (Ns (acc ++ ps))])) → (placeAt os v p = none → ∀ o, N.rt .non (st ++ [o])) →
      (forE (.nm 4) (evB [
      xWhile 100000 (qAn [(qCm .Lt oLtI (rVar 3) (rB kLen [(rVar 1)])), (qCm .Lt oLtI (rIx (rVar 1) (rVar 3)) (rVar 4))]) [
        xSet 3 (rBin .Add (oAdd false) (rVar 3) (rInt 1))],
      xIf (qCm .Eq oEq (rVar 3) (rB kLen [(rVar 1)])) [
        xRet rNone] [],
      xExp (rMeth1 nAppend (rVar 2) (rVar 3)),
      xSet 3 (rBin .Add (oAdd false) (rVar 3) (rInt 1))]) (fun _ => true) (Is v) [some (wordD w), some (wordD os), some (.ref st.length), some (.int p), x] (st ++ [.lst (Ns acc)])).sat N := by
    intro N v
    induction v with
    | nil =>
      intro p acc x hp hl h1 h2
      have := h1 [] p x rfl
      simpa [forE] using this
    | cons l v ih =>
      intro p acc x hp hl h1 h2
      have hl' : acc.length + (v.length + 1) ≤ 100000 := hl
      have hz : acc.length < sizeLine := by rw [sizeLine_eq]; omega
      have hw := place_while (os := os) (l := l) (x0 := some (wordD w)) (x2 := some (.ref st.length)) (st := st ++ [.lst (Ns acc)]) 100000 p (by omega) hp
      have hle := adv_le (l := l) hp
      rw [placeAt] at h1 h2
      simp [forE, v_while, hw]
      by_cases he : adv os l p = os.length
      · have := h2 (if_pos he) (.lst (Ns acc))
        simp [he]
        exact this
      · have he2 : ¬ ((adv os l p : Int) = (os.length : Int)) := by omega
        rw [if_neg he] at h1 h2
        simp [he, he2, hz]
        have := ih (adv os l p + 1) (acc ++ [adv os l p]) (some (.int l)) (by omega) (by simp; omega) (fun ps p' x' e => by
          have := h1 (adv os l p :: ps) p' x' (by rw [e]; rfl)
          simpa using this) (fun e => h2 (by rw [e]; rfl))
        simpa using this
  refine key _ w 0 [] none (Nat.zero_le _) (by simpa using hw) (fun ps p' x' e => ?_) (fun e o => ?_)
  · simp [placeD, e]
    show (retR 0 st.length (plD ps) (st ++ [.lst (Ns ps)])).sat _ _
    simp
  · simp [placeD, e]
theorem f_is_within {w os : List Int} {st : Sto} (hw : w.length ≤ 100000) (ho : os.length < 99999) : F.is_within.f [wordD w, wordD os] st = .ok (.bl (wi w os)) st := by
  refine run_eq (n := 2) (en := [some (wordD w), some (wordD os)]) rfl rfl ?_
  rw [B.is_within]
  simp [f_place_in hw ho]
  rw [← wi_place0, placeD]
  cases placeAt os w 0 <;> rfl
end Mi
/-! PgF: are_within, is_above; _law_is_held, _law_stands_above. -/
namespace Mi
open PySem PySem.Spec PyProof.Rows L2

theorem compE_f {α : Type} {t : Tg} {vs : List Nat} {elt : Env → Sto → R D} {ck : Sto → Bool} {en : Env} {st : Sto} (f g : α → D) (hk : ck st = true) : ∀ (l : List α),
    (∀ a ∈ l, ∃ en1, putT t (wipeD en vs) (f a) = some en1 ∧ elt en1 st = .ok (g a) st) → compE t vs (evC none) elt ck en (l.map f) st = .ok (l.map g) st
  | [], _ => by rw [List.map_nil, compE, hk]; rfl
  | a :: r, h => by
    obtain ⟨en1, e1, e2⟩ := h a List.mem_cons_self
    have ih := compE_f f g hk r fun d hd => h d (List.mem_cons_of_mem _ hd)
    rw [List.map_cons, compE, hk, e1, R.when_t]
    show ((R.ok true st).bind _) = _
    rw [R.bind_ok]
    dsimp only
    rw [e2, R.bind_ok, ih, R.bind_ok]
    rfl
theorem compE_fp {α : Type} {t : Tg} {vs : List Nat} {c : Env → Sto → R Bool} {elt : Env → Sto → R D} {ck : Sto → Bool} {en : Env} {st : Sto} (f g : α → D) (p : α → Bool) (hk : ck st = true) : ∀ (l : List α),
    (∀ a ∈ l, ∃ en1, putT t (wipeD en vs) (f a) = some en1 ∧ c en1 st = .ok (p a) st ∧ (p a = true → elt en1 st = .ok (g a) st)) → compE t vs c elt ck en (l.map f) st = .ok ((l.filter p).map g) st
  | [], _ => by rw [List.map_nil, compE, hk]; rfl
  | a :: r, h => by
    obtain ⟨en1, e1, e2, e3⟩ := h a List.mem_cons_self
    have ih := compE_fp f g p hk r fun d hd => h d (List.mem_cons_of_mem _ hd)
    rw [List.map_cons, compE, hk, e1, R.when_t]
    dsimp only
    rw [e2, R.bind_ok]
    cases hp : p a with
    | true => dsimp only; rw [e3 hp, R.bind_ok, ih, R.bind_ok, List.filter_cons_of_pos hp]; rfl
    | false => dsimp only; rw [ih, List.filter_cons_of_neg (by simp [hp])]
theorem put2 {i j : Nat} {en : Env} {a b : D} : putT (.tup [.nm i, .nm j]) en (.tup [a, b]) = some ((en.set i (some a)).set j (some b)) := by simp
theorem put3 {i j k : Nat} {en : Env} {a b c : D} : putT (.tup [.nm i, .nm j, .nm k]) en (.tup [a, b, c]) = some (((en.set i (some a)).set j (some b)).set k (some c)) := by simp
theorem ones {α : Type} (l : List α) : (l.map fun _ => D.int 1) = Is (List.replicate l.length 1) := by
  induction l with
  | nil => rfl
  | cons a r ih => rw [List.map_cons, ih, List.length_cons, List.replicate_succ]; rfl
theorem blsOf_map {α : Type} (p : α → Bool) : ∀ l : List α, blsOf (l.map fun a => D.bl (p a)) = some (l.map p)
  | [] => rfl
  | a :: r => by rw [List.map_cons, blsOf, blsOf_map p r]; rfl
theorem pair_map {α β : Type} (f : α → D) (g : β → D) : ∀ (l : List α) (r : List β), pairD (l.map f) (r.map g) = (l.zip r).map fun p => D.tup [f p.1, g p.2]
  | [], _ => rfl
  | _ :: _, [] => rfl
  | a :: l, b :: r => by
    show _ :: pairD (l.map f) (r.map g) = _
    rw [pair_map f g l r]; rfl
theorem it_zw {sf : Bool} {ws vs : List (List Int)} {st : Sto} : itZip sf (wordsD ws) (wordsD vs) st = R.when (!sf || decide (ws.length = vs.length)) (.ok ((ws.zip vs).map (fun p => D.tup [wordD p.1, wordD p.2]), fun _ => true) st) := by
  show R.when (!sf || decide ((ws.map wordD).length = (vs.map wordD).length)) (.ok (pairD (ws.map wordD) (vs.map wordD), fun _ => true) st) = _
  rw [List.length_map, List.length_map, pair_map]
theorem wis_zip : ∀ {ws vs : List (List Int)}, ws.length = vs.length → (ws.zip vs).all (fun p => wi p.1 p.2) = wis ws vs
  | [], [], _ => rfl
  | [], _ :: _, h => by simp at h
  | _ :: _, [], h => by simp at h
  | w :: ws, v :: vs, h => by
    rw [List.zip_cons_cons, List.all_cons, wis_zip (by simpa using h)]; rfl
theorem f_are_within {ws vs : List (List Int)} {st : Sto} (hl : ws.length = vs.length) (h3 : ws.length ≤ 1000) (hw : ∀ w ∈ ws, w.length ≤ 90000) (hv : ∀ w ∈ vs, w.length ≤ 90000) : F.are_within.f [wordsD ws, wordsD vs] st = .ok (.bl (wis ws vs)) st := by
  refine run_eq (n := 4) (en := [some (wordsD ws), some (wordsD vs), none, none]) rfl rfl ?_
  rw [B.are_within]
  have hz : szB ((ws.zip vs).map (fun p => D.tup [wordD p.1, wordD p.2])).length = true := szB_of (by rw [List.length_map, List.length_zip]; omega)
  simp [v_comp, it_zw, hl]
  refine ⟨szB_of (by omega), ?_⟩
  rw [compE_f (fun p => D.tup [wordD p.1, wordD p.2]) (fun p => D.bl (wi p.1 p.2)) rfl (ws.zip vs) fun p hp => ⟨_, put2, by
    have h1 := hw _ (List.of_mem_zip (a := p.1) (b := p.2) hp).1
    have h2 := hv _ (List.of_mem_zip (a := p.1) (b := p.2) hp).2
    simp [f_is_within (w := p.1) (os := p.2) (by omega) (by omega)]⟩]
  simp [blsOf_map]
  rw [← wis_zip hl]
theorem pl_eq {a b : List Nat} : (plD a = plD b) ↔ a = b := by
  constructor
  · intro h
    have h : D.tup (Ns a) = D.tup (Ns b) := h
    injection h with h
    exact (List.map_inj_right (fun x y h => by injection h with h; omega)).mp h
  · rintro rfl; rfl
theorem ok_pl (a : List Nat) : okD (plD a) = true := by
  show okD (.tup (Ns a)) = true
  rw [okD]
  exact okDs_all fun d hd => by
    obtain ⟨i, _, rfl⟩ := List.mem_map.mp hd
    simp [okD]
theorem dp_pl (a : List Nat) : dpD (plD a) ≤ 1 := by
  show dpD (.tup (Ns a)) ≤ 1
  rw [dpD]
  exact Nat.succ_le_succ (dps_le2 fun d hd => by
    obtain ⟨i, _, rfl⟩ := List.mem_map.mp hd
    simp [dpD])
theorem eq_pl {neg : Bool} {a b : List Nat} {st : Sto} : evEq neg (plD a) (plD b) st = .ok (.bl (neg != decide (a = b))) st := by
  show R.when (shp (plD a) && shp (plD b)) (R.ok (D.bl (neg != eqD (plD a) (plD b))) st) = _
  rw [shp_of (can_pl a) (by have := dp_pl a; omega), shp_of (can_pl b) (by have := dp_pl b; omega)]
  have : eqD (plD a) (plD b) = decide (a = b) := by
    by_cases h : a = b
    · rw [decide_eq_true h, h]
      exact (eqD_iff _ _ (ok_pl b) (ok_pl b)).2 rfl
    · rw [decide_eq_false h]
      cases e : eqD (plD a) (plD b) with
      | false => rfl
      | true => exact absurd (pl_eq.mp ((eqD_iff _ _ (ok_pl a) (ok_pl b)).1 e)) h
  rw [this]
  rfl
/-- lots with as many lanes, words not too long -/
structure Fit (x y : Lt) : Prop where
  len : x.ws.length = y.ws.length
  small : x.ws.length ≤ 1000
  xw : ∀ w ∈ x.ws, w.length ≤ 90000
  yw : ∀ w ∈ y.ws, w.length ≤ 90000
theorem f_is_above {x y : Lt} {st : Sto} (h : Fit x y) : F.is_above.f [lotD x, lotD y] st = .ok (.bl (ab x y)) st := by
  refine run_eq (n := 2) (en := [some (lotD x), some (lotD y)]) rfl rfl ?_
  rw [B.is_above]
  have e := f_are_within (st := st) h.len.symm (by rw [← h.len]; exact h.small) h.yw h.xw
  by_cases hp : x.pl = y.pl
  · simp [eq_pl, hp, e, ab]
  · simp [eq_pl, hp, ab]
/-! ### the law's own -/
theorem f_is_held {w os : List Int} {st : Sto} (hw : w.length ≤ 100000) : F._law_is_held.f [wordD w, wordD os] st = .ok (.bl (wi w os)) st := by
  refine run_eq (n := 4) (en := [some (wordD w), some (wordD os), none, none]) rfl rfl ?_
  rw [B._law_is_held]
  simp [v_for, itSeq, ckSeq]
  have key : ∀ (N : EndsD) (v : List Int) (p : Nat) (x : Option D), p ≤ w.length → (∀ (p' : Nat) x', (decide (p' = w.length) = wi (w.drop p) v) → p' ≤ w.length → N.nx [some (wordD w), some (wordD os), some (.int p'), x'] st) →
      (forE (.nm 3) (evB [
      xIf (qAn [(qCm .Lt oLtI (rVar 2) (rB kLen [(rVar 0)])), (qCm .LtE oLe (rIx (rVar 0) (rVar 2)) (rVar 3))]) [
        xSet 2 (rBin .Add (oAdd false) (rVar 2) (rInt 1))] []]) (fun _ => true) (Is v) [some (wordD w), some (wordD os), some (.int p), x] st).sat N := by
    intro N v
    induction v with
    | nil =>
      intro p x hp h
      have := h p x (by
        by_cases he : p = w.length
        · rw [decide_eq_true he, List.drop_of_length_le (by omega)]; rfl
        · rw [decide_eq_false he, List.drop_eq_getElem_cons (by omega)]; rfl) hp
      simpa [forE] using this
    | cons l v ih =>
      intro p x hp h
      simp [forE]
      by_cases he : p < w.length
      · have ix := ix_word (st := st) (w := w) (i := p)
        rw [List.getElem?_eq_getElem he] at ix
        rw [List.drop_eq_getElem_cons he] at h
        by_cases hx : w[p] ≤ l
        · simp [he, ix, hx]
          exact ih (p + 1) _ (by omega) fun p' x' e hp' => h p' x' (by rw [wi, if_pos hx]; exact e) hp'
        · simp [he, ix, hx]
          exact ih p _ hp fun p' x' e hp' => h p' x' (by rw [wi, if_neg hx, ← List.drop_eq_getElem_cons he]; exact e) hp'
      · have : w.drop p = [] := List.drop_of_length_le (by omega)
        simp [he]
        exact ih p _ hp fun p' x' e hp' => h p' x' (by rw [this] at e ⊢; rw [e]; cases v <;> rfl) hp'
  refine key _ os 0 none (Nat.zero_le _) fun p' x' e hp => ?_
  rw [List.drop_zero] at e
  rw [← e]
  simp
  omega
theorem none_held : ∀ {xs ys : List (List Int)}, xs.length = ys.length → decide (((xs.zip ys).filter fun p => !wi p.2 p.1).length = 0) = wis ys xs
  | [], [], _ => rfl
  | [], _ :: _, h => by simp at h
  | _ :: _, [], h => by simp at h
  | x :: xs, y :: ys, h => by
    have ih := none_held (xs := xs) (ys := ys) (by simpa using h)
    rw [List.zip_cons_cons, wis]
    cases e : wi y x with
    | true => rw [List.filter_cons_of_neg (by simp [e]), ih]; rfl
    | false => rw [List.filter_cons_of_pos (by simp [e])]; simp
theorem f_stands_above {x y : Lt} {st : Sto} (h : Fit x y) : F._law_stands_above.f [lotD x, lotD y] st = .ok (.bl (ab x y)) st := by
  refine run_eq (n := 4) (en := [some (lotD x), some (lotD y), none, none]) rfl rfl ?_
  rw [B._law_stands_above]
  by_cases hp : x.pl = y.pl
  · simp [v_comp, eq_pl, hp, it_zw]
    refine ⟨szB_of (by have := h.small; omega), ?_⟩
    rw [compE_fp (fun p => D.tup [wordD p.1, wordD p.2]) (fun _ => D.int 1) (fun p => !wi p.2 p.1) rfl (x.ws.zip y.ws) fun p hq => ⟨_, put2, by
      have h2 := h.yw _ (List.of_mem_zip (a := p.1) (b := p.2) hq).2
      simp [evC, f_is_held (w := p.2) (os := p.1) (by omega)], fun _ => by simp⟩]
    rw [ones]
    simp [ab, hp, -List.map_replicate]
    exact none_held h.len
  · simp [eq_pl, hp, ab]
end Mi
/-! PgG: _law_after. -/
namespace Mi
open PySem PySem.Spec PyProof.Rows L2

/-- _law_after -/
def N._law_after : List Str := ["program", "lot", "machine", "index", "here", "action", "there", "words"]
def B._law_after : List RS := [
  xAsg (.tup [(.nm 4), (.nm 5), (.nm 6)]) (rIx (rIx (rIx (rIx (rVar 0) (rInt 2)) (rVar 2)) (rInt 1)) (rVar 3)),
  xSet 7 (rB (kList true) [(rIx (rVar 1) (rInt 1))]),
  xIf (qCm .NotEq oNe (rIx (rIx (rVar 1) (rInt 0)) (rVar 2)) (rVar 4)) [
      xRet (rList false [])] [],
  xIf (qCm .Eq oEq (rIx (rVar 5) (rInt 0)) (rStr "send")) [
      xSetIx (rVar 7) (rIx (rVar 5) (rInt 1)) (rBin .Add (oAdd false) (rIx (rVar 7) (rIx (rVar 5) (rInt 1))) (rTup [(rIx (rVar 5) (rInt 2))]))] [],
  xIf (qCm .Eq oEq (rIx (rVar 5) (rInt 0)) (rStr "take")) [
      xIf (qOr [(qCm .Eq oEq (rIx (rVar 7) (rIx (rVar 5) (rInt 1))) (rTup [])), (qCm .NotEq oNe (rIx (rIx (rVar 7) (rIx (rVar 5) (rInt 1))) (rInt 0)) (rIx (rVar 5) (rInt 2)))]) [
        xRet (rList false [])] [],
      xSetIx (rVar 7) (rIx (rVar 5) (rInt 1)) (rSl false (rIx (rVar 7) (rIx (rVar 5) (rInt 1))) (some (rInt 1)) none)] [],
  xIf (qAn [(qCm .Eq oEq (rIx (rVar 5) (rInt 0)) (rStr "test")), (qCm .NotEq oNe (rIx (rVar 7) (rIx (rVar 5) (rInt 1))) (rTup []))]) [
      xRet (rList false [])] [],
  xRet (rList false [(rTup [(rCall "_law_at" F._law_at [] [(rIx (rVar 1) (rInt 0)), (rVar 2), (rVar 6)]), (rB kTuple [(rVar 7)])])])]
def F._law_after : FS := mkF 4 0 8 B._law_after
@[simp] theorem F.ar_law_after : F._law_after.ar = 4 := (rfl)

/-- the words after an action, if it can be done -/
def actOn : Act → List (List Int) → Option (List (List Int))
  | .rest, ws => some ws
  | .send i l, ws => some (ws.set i (ws.getD i [] ++ [l]))
  | .take i l, ws => match ws.getD i [] with
    | a :: r => if a = l then some (ws.set i r) else none
    | [] => none
  | .test i, ws => if ws.getD i [] = [] then some ws else none
def aftV (p : Pro) (x : Lt) (k i : Nat) : Option Lt := (stpAt p k i).bind fun s => if x.pl[k]? = some s.here then (actOn s.act x.ws).map fun ws => ⟨x.pl.set k s.there, ws⟩ else none
@[simp] theorem sl_word_tail {m : Bool} {w : List Int} {st : Sto} : evSl m (wordD w) (some 1) none st = .ok (wordD (w.drop 1)) st := by
  show R.ok (D.tup (cutD (Is w) (some ((1 : Nat) : Int)) none)) st = _
  rw [cut_drop]
  simp [wordD, List.map_drop]
@[simp] theorem ix_word0 {w : List Int} {st : Sto} : ixD st (wordD w) (.int 0) = w.head?.map D.int := by
  have := ix_word (w := w) (i := 0) (st := st)
  rw [show (((0 : Nat) : Int)) = 0 from rfl] at this
  rw [this]
  cases w <;> rfl
/-- what is well-shaped for a program -/
structure LotS (p : Pro) (m : Nat) (x : Lt) : Prop where
  len : x.pl.length = p.ms.length
  wl : x.ws.length = p.lanes
  ws : ∀ w ∈ x.ws, w.length ≤ m
theorem OkLot.s {p : Pro} {m : Nat} {x : Lt} (h : OkLot p m x) : LotS p m x := ⟨h.len, h.wl, fun w hw => (h.ws w hw).1⟩
theorem f_after {mm m : Nat} {p : Pro} {x : Lt} {k i : Nat} {st : Sto} (hp : OkPro mm p) (hx : LotS p m x) (hm : m < 90000) (hs : (stpAt p k i).isSome = true) :
    F._law_after.f [proD p, lotD x, .int k, .int i] st = .ok (.lst ((aftV p x k i).toList.map lotD)) st := by
  obtain ⟨s, hs⟩ := Option.isSome_iff_exists.mp hs
  obtain ⟨mc, h1, h2, ok⟩ := stp_ok hp hs
  have hk : k < x.pl.length := by rw [hx.len]; exact (List.getElem?_eq_some_iff.mp h1).1
  have p2 := hp.m2
  have l2 := hp.l2
  have hlen := hx.len
  have hwl := hx.wl
  refine run_eq (n := 8) (en := [some (proD p), some (lotD x), some (.int k), some (.int i), none, none, none, none]) rfl rfl ?_
  rw [B._law_after]
  have e1 := ix_ms (st := st) h1
  have e2 := ix_ss (st := st) h2
  have e6 : x.pl[k]? = some x.pl[k] := List.getElem?_eq_getElem hk
  have at3 : ∀ st', ixD st' (plD x.pl) (.int k) = some (.int (x.pl[k] : Nat)) := fun st' => by rw [ix_pl, List.getElem?_eq_getElem hk]; rfl
  unfold aftV
  rw [hs, Option.bind_some, e6]
  have eat : ∀ st', F._law_at.f [plD x.pl, .int k, .int s.there] st' = .ok (plD (x.pl.set k s.there)) st' := fun st' => f_law_at_pl hk (by omega)
  by_cases ht : x.pl[k] = s.here
  · have ht2 : (x.pl[k] : Int) = (s.here : Int) := by omega
    have wa := ok.act
    have hw : ∀ w ∈ x.ws, w.length < 90000 := fun w hw => Nat.lt_of_le_of_lt (hx.ws w hw) (by omega)
    have fin : ∀ (ws : List (List Int)), (retR 0 st.length (.lst [.tup [plD (x.pl.set k s.there), .tup (ws.map wordD)]]) (st ++ [.lst (ws.map wordD)])) = .ok (.lst [lotD ⟨x.pl.set k s.there, ws⟩]) st := fun ws => by
      show retR 0 st.length (.lst [lotD ⟨x.pl.set k s.there, ws⟩]) _ = _
      rw [rr_val (by simp [noRef, noRefs])]
      simp
    obtain ⟨here, act, there⟩ := s
    have ht : x.pl[k] = here := ht
    have ht2 : (x.pl[k] : Int) = (here : Int) := ht2
    have ixr : ∀ (ws : List (List Int)) (i : Nat), i < ws.length → ixD (st ++ [.lst (ws.map wordD)]) (.ref st.length) (.int i) = some (wordD (ws.getD i [])) := fun ws i hi => by
      simp [ixD]
      exact ix_words (st := st) hi
    cases act with
    | rest =>
      simp [put_stp, e1, e2, at3, ht, ht2, actD, actOn, eat, fin]
    | test i =>
      have hi : i < x.ws.length := by rw [hwl]; exact wa
      have g := ixr x.ws i hi
      rw [actOn]
      generalize x.ws.getD i [] = w at *
      cases w with
      | nil => simp [put_stp, e1, e2, at3, ht, ht2, actD, g, eat, fin]
      | cons a r => simp [put_stp, e1, e2, at3, ht, ht2, actD, g, eat, fin]
    | take i l =>
      have hi : i < x.ws.length := by rw [hwl]; exact wa.1
      have g := ixr x.ws i hi
      have hx : ixN x.ws.length (i : Int) = some i := by simp [ixN, hi]
      rw [actOn]
      generalize x.ws.getD i [] = w at *
      cases w with
      | nil => simp [put_stp, e1, e2, at3, ht, ht2, actD, g, eat, fin]
      | cons a r =>
        have f := fin (x.ws.set i r)
        rw [List.map_set] at f
        by_cases ha : a = l
        · simp [put_stp, e1, e2, at3, ht, ht2, actD, g, eat, evSetIx, hx, ha]
          rw [f]
          simp
        · simp [put_stp, e1, e2, at3, ht, ht2, actD, g, eat, ha]
    | send i l =>
      have hi : i < x.ws.length := by rw [hwl]; exact wa.1
      have g := ixr x.ws i hi
      have hx : ixN x.ws.length (i : Int) = some i := by simp [ixN, hi]
      have h1 := hw _ (show x.ws.getD i [] ∈ x.ws by rw [List.getD_eq_getElem?_getD, List.getElem?_eq_getElem hi]; exact List.getElem_mem hi)
      rw [actOn]
      generalize x.ws.getD i [] = w at *
      have f := fin (x.ws.set i (w ++ [l]))
      rw [List.map_set] at f
      have z : szB (w.length + 1) = true := szB_of (by omega)
      simp [put_stp, e1, e2, at3, ht, ht2, actD, g, eat, evSetIx, hx, z]
      rw [f]
      simp
  · have ht2 : ¬ ((x.pl[k] : Int) = (s.here : Int)) := by omega
    simp [put_stp, e1, e2, at3, ht, ht2]
end Mi
/-! PgH: lets, can_do, words_after, steps_of. -/
namespace Mi
open PySem PySem.Spec PyProof.Rows L2

/-- lets -/
def N.lets : List Str := ["action", "words"]
def B.lets : List RS := [
  xIf (qCm .Eq oEq (rIx (rVar 0) (rInt 0)) (rStr "take")) [
      xRet (rCmp .Eq oEq (rSl false (rIx (rVar 1) (rIx (rVar 0) (rInt 1))) none (some (rInt 1))) (rTup [(rIx (rVar 0) (rInt 2))]))] [],
  xRet (rOr [(rCmp .NotEq oNe (rIx (rVar 0) (rInt 0)) (rStr "test")), (rCmp .Eq oEq (rIx (rVar 1) (rIx (rVar 0) (rInt 1))) (rTup []))])]
def F.lets : FS := mkF 2 0 2 B.lets
@[simp] theorem F.arlets : F.lets.ar = 2 := (rfl)

/-- can_do -/
def N.can_do : List Str := ["program", "lot", "machine", "index", "step"]
def B.can_do : List RS := [
  xSet 4 (rIx (rIx (rIx (rIx (rVar 0) (rInt 2)) (rVar 2)) (rInt 1)) (rVar 3)),
  xRet (rAnd [(rCmp .Eq oEq (rIx (rIx (rVar 1) (rInt 0)) (rVar 2)) (rIx (rVar 4) (rInt 0))), (rCall "lets" F.lets [] [(rIx (rVar 4) (rInt 1)), (rIx (rVar 1) (rInt 1))])])]
def F.can_do : FS := mkF 4 0 5 B.can_do
@[simp] theorem F.arcan_do : F.can_do.ar = 4 := (rfl)

/-- words_after -/
def N.words_after : List Str := ["action", "words"]
def B.words_after : List RS := [
  xIf (qCm .Eq oEq (rIx (rVar 0) (rInt 0)) (rStr "send")) [
      xRet (rCall "put_at" F.put_at [] [(rVar 1), (rIx (rVar 0) (rInt 1)), (rBin .Add (oAdd false) (rIx (rVar 1) (rIx (rVar 0) (rInt 1))) (rTup [(rIx (rVar 0) (rInt 2))]))])] [],
  xRet (rIf (qCm .Eq oEq (rIx (rVar 0) (rInt 0)) (rStr "take")) (rCall "put_at" F.put_at [] [(rVar 1), (rIx (rVar 0) (rInt 1)), (rSl false (rIx (rVar 1) (rIx (rVar 0) (rInt 1))) (some (rInt 1)) none)]) (rVar 1))]
def F.words_after : FS := mkF 2 0 2 B.words_after
@[simp] theorem F.arwords_after : F.words_after.ar = 2 := (rfl)

/-- steps_of -/
def N.steps_of : List Str := ["program", "lot", "pair"]
def B.steps_of : List RS := [
  xRet (rB kTuple [(rComp false (.nm 2) [("pair", 2)] (jSeq (rCall "all_steps" F.all_steps [] [(rVar 0)])) (some (tV' (rCall "can_do" F.can_do [] [(rVar 0), (rVar 1), (rIx (rVar 2) (rInt 0)), (rIx (rVar 2) (rInt 1))]))) (rVar 2))])]
def F.steps_of : FS := mkF 2 0 3 B.steps_of
@[simp] theorem F.arsteps_of : F.steps_of.ar = 2 := (rfl)

@[simp] theorem sl_word_head {m : Bool} {w : List Int} {st : Sto} : evSl m (wordD w) none (some 1) st = .ok (wordD (w.take 1)) st := by
  show R.ok (D.tup (cutD (Is w) none (some ((1 : Nat) : Int)))) st = _
  rw [cut_take]
  simp [wordD, List.map_take]
theorem word_eq {a b : List Int} : (wordD a = wordD b) ↔ a = b := by
  constructor
  · intro h
    have h : D.tup (Is a) = D.tup (Is b) := h
    injection h with h
    exact (List.map_inj_right (fun x y h => by injection h with h)).mp h
  · rintro rfl; rfl
theorem ok_word (a : List Int) : okD (wordD a) = true := by
  show okD (.tup (Is a)) = true
  rw [okD]
  exact okDs_all fun d hd => by
    obtain ⟨i, _, rfl⟩ := List.mem_map.mp hd
    simp [okD]
theorem dp_word (a : List Int) : dpD (wordD a) ≤ 1 := by
  show dpD (.tup (Is a)) ≤ 1
  rw [dpD]
  exact Nat.succ_le_succ (dps_le2 fun d hd => by
    obtain ⟨i, _, rfl⟩ := List.mem_map.mp hd
    simp [dpD])
theorem eq_word {neg : Bool} {a b : List Int} {st : Sto} : evEq neg (wordD a) (wordD b) st = .ok (.bl (neg != decide (a = b))) st := by
  show R.when (shp (wordD a) && shp (wordD b)) (R.ok (D.bl (neg != eqD (wordD a) (wordD b))) st) = _
  rw [shp_of (can_word a) (by have := dp_word a; omega), shp_of (can_word b) (by have := dp_word b; omega)]
  have : eqD (wordD a) (wordD b) = decide (a = b) := by
    by_cases h : a = b
    · rw [decide_eq_true h, h]
      exact (eqD_iff _ _ (ok_word b) (ok_word b)).2 rfl
    · rw [decide_eq_false h]
      cases e : eqD (wordD a) (wordD b) with
      | false => rfl
      | true => exact absurd (word_eq.mp ((eqD_iff _ _ (ok_word a) (ok_word b)).1 e)) h
  rw [this]
  rfl
@[simp] theorem eq_word1 {neg : Bool} {a : List Int} {l : Int} {st : Sto} : evEq neg (wordD a) (.tup [.int l]) st = .ok (.bl (neg != decide (a = [l]))) st := eq_word (b := [l])
def canV (p : Pro) (x : Lt) (k i : Nat) : Bool := (aftV p x k i).isSome
theorem f_lets {lanes letters : Nat} {a : Act} {ws : List (List Int)} {st : Sto} (ha : OkAct lanes letters a) (hw : ws.length = lanes) : F.lets.f [actD a, wordsD ws] st = .ok (.bl (actOn a ws).isSome) st := by
  refine run_eq (n := 2) (en := [some (actD a), some (wordsD ws)]) rfl rfl ?_
  rw [B.lets]
  cases a with
  | rest => simp [actD, actOn]
  | test i =>
    have hi : i < ws.length := by rw [hw]; exact ha
    have hg := ix_words (st := st) hi
    rw [actOn]
    generalize ws.getD i [] = w at *
    cases w with
    | nil => simp [actD, hg]
    | cons x r => simp [actD, hg]
  | take i l =>
    have hi : i < ws.length := by rw [hw]; exact ha.1
    have hg := ix_words (st := st) hi
    rw [actOn]
    generalize ws.getD i [] = w at *
    cases w with
    | nil => simp [actD, hg]
    | cons x r =>
      by_cases hx : x = l
      · simp [actD, hg, hx]
      · simp [actD, hg, hx]
  | send i l => simp [actD, actOn]
theorem f_can_do {mm m : Nat} {p : Pro} {x : Lt} {k i : Nat} {st : Sto} (hp : OkPro mm p) (hx : LotS p m x) (hs : (stpAt p k i).isSome = true) : F.can_do.f [proD p, lotD x, .int k, .int i] st = .ok (.bl (canV p x k i)) st := by
  obtain ⟨s, hs⟩ := Option.isSome_iff_exists.mp hs
  obtain ⟨mc, h1, h2, ok⟩ := stp_ok hp hs
  have hk : k < x.pl.length := by rw [hx.len]; exact (List.getElem?_eq_some_iff.mp h1).1
  refine run_eq (n := 5) (en := [some (proD p), some (lotD x), some (.int k), some (.int i), none]) rfl rfl ?_
  rw [B.can_do]
  have e1 := ix_ms (st := st) h1
  have e2 := ix_ss (st := st) h2
  have e3 : ixD st (plD x.pl) (.int k) = some (.int (x.pl[k] : Nat)) := by rw [ix_pl, List.getElem?_eq_getElem hk]; rfl
  have e4 := f_lets (st := st) ok.act hx.wl
  have e6 : x.pl[k]? = some x.pl[k] := List.getElem?_eq_getElem hk
  unfold canV aftV
  rw [hs, Option.bind_some, e6]
  by_cases ht : x.pl[k] = s.here
  · simp [e1, e2, e3, e4, ht]
  · have ht2 : ¬ ((x.pl[k] : Int) = (s.here : Int)) := by omega
    simp [e1, e2, e3, e4, ht, ht2]
theorem f_words_after {lanes letters : Nat} {a : Act} {ws ws2 : List (List Int)} {st : Sto} (ha : OkAct lanes letters a) (hw : ws.length = lanes) (hl : lanes ≤ 3) (hlen : ∀ w ∈ ws, w.length < 90000) (h : actOn a ws = some ws2) :
    F.words_after.f [actD a, wordsD ws] st = .ok (wordsD ws2) st := by
  refine run_eq (n := 2) (en := [some (actD a), some (wordsD ws)]) rfl rfl ?_
  rw [B.words_after]
  cases a with
  | rest => cases h; simp [actD]
  | test i =>
    rw [actOn] at h
    split at h
    · cases h; simp [actD]
    · cases h
  | take i l =>
    have hi : i < ws.length := by rw [hw]; exact ha.1
    have hg := ix_words (st := st) hi
    rw [actOn] at h
    generalize ws.getD i [] = w at *
    cases w with
    | nil => cases h
    | cons x r =>
      dsimp only at h
      split at h
      · cases h
        have e := f_put_words (w := r) (st := st) hi (by omega)
        simp [actD, hg, e]
      · cases h
  | send i l =>
    have hi : i < ws.length := by rw [hw]; exact ha.1
    have h1 : (ws.getD i []).length < 90000 := hlen _ (by rw [List.getD_eq_getElem?_getD, List.getElem?_eq_getElem hi]; exact List.getElem_mem hi)
    have hg := ix_words (st := st) hi
    rw [actOn] at h
    cases h
    generalize ws.getD i [] = w at *
    have e := f_put_words (w := w ++ [l]) (st := st) hi (by omega)
    have z : szB (w.length + 1) = true := szB_of (by omega)
    simp [actD, hg, e, z]
theorem f_steps_of {mm m : Nat} {p : Pro} {x : Lt} {st : Sto} (hp : OkPro mm p) (hmm : mm ≤ 60) (hx : LotS p m x) : F.steps_of.f [proD p, lotD x] st = .ok (.tup (((pairsOf p).filter fun k => canV p x k.1 k.2).map pairD2)) st := by
  have hl1 := pairsF_len hp p.ms.length
  have p2 := hp.m2
  have hl2 : (pairsOf p).length ≤ 3 * 60 := Nat.le_trans hl1 (Nat.mul_le_mul p2 hmm)
  refine run_eq (n := 3) (en := [some (proD p), some (lotD x), none]) rfl rfl ?_
  rw [B.steps_of]
  simp [v_comp, f_all_steps hp hmm]
  refine ⟨szB_of (by omega), ?_⟩
  rw [compE_fp pairD2 pairD2 (fun k => canV p x k.1 k.2) rfl (pairsOf p) fun k hk => ⟨_, p_nm, by
    simp [evC, pairD2, f_can_do hp hx (mem_pairs hk)], fun _ => by simp⟩]
  simp
  rw [rr_val (by rw [noRef]; exact nrs_can (can_pairs _))]
  simp
end Mi
/-! PgI: _law_less, _law_three_right. -/
namespace Mi
open PySem PySem.Spec PyProof.Rows L2

/-- _law_less -/
def N._law_less : List Str := ["pen", "lot", "words", "word", "less", "letter", "lower"]
def B._law_less : List RS := [
  xSet 2 (rTup []),
  xFor (.nm 3) (jSeq (rIx (rVar 1) (rInt 1))) [
      xSet 4 (rTup []),
      xFor (.nm 5) (jSeq (rComp false (.nm 5) [("letter", 5)] (jSeq (rVar 3)) (some (qCm .Gt oGt (rCall "_law_draw" F._law_draw [] [(rVar 0), (rInt 4)]) (rInt 0))) (rVar 5))) [
        xSet 6 (rCall "_law_draw" F._law_draw [] [(rVar 0), (rBin .Add (oAdd false) (rVar 5) (rInt 1))]),
        xSet 4 (rBin .Add (oAdd false) (rVar 4) (rTup [(rCall "_law_one_of" F._law_one_of [] [(rVar 0), (rList false [(rVar 5), (rVar 5), (rVar 6)])])]))],
      xSet 2 (rBin .Add (oAdd false) (rVar 2) (rTup [(rVar 4)]))],
  xRet (rTup [(rIx (rVar 1) (rInt 0)), (rVar 2)])]
def F._law_less : FS := mkF 2 0 7 B._law_less
@[simp] theorem F.ar_law_less : F._law_less.ar = 2 := (rfl)

/-- _law_three_right -/
def N._law_three_right : List Str := ["pen", "rows", "machine", "turn", "one", "other"]
def B._law_three_right : List RS := [
  xSetLc 1 false (.nm 3) [("turn", 3)] (jRange1 (rInt 3)) none (rB kTuple [(rComp false (.nm 2) [("machine", 2)] (jRange1 (rInt 3)) none (rCall "_law_draw" F._law_draw [] [(rVar 0), (rInt 5)]))]),
  xFor (.nm 4) (jSeq (rVar 1)) [
      xFor (.nm 5) (jSeq (rBin .Add (oAdd false) (rVar 1) (rList false [(rRev false (rVar 4)), (rTup [(rIx (rVar 4) (rInt 0)), (rIx (rVar 4) (rInt 2)), (rIx (rVar 4) (rInt 1))])]))) [
        xIf (qCm .NotEq oNe (rCall "is_above" F.is_above [] [(rTup [(rVar 4), (rTup [(rTup [(rInt 0)]), (rTup [])])]), (rTup [(rVar 5), (rTup [(rTup []), (rTup [])])])]) (rCmp .Eq oEq (rVar 4) (rVar 5))) [
          xRet (rBl false)] []]],
  xRet (rBl true)]
def F._law_three_right : FS := mkF 1 0 6 B._law_three_right
@[simp] theorem F.ar_law_three_right : F._law_three_right.ar = 1 := (rfl)

def IvL1 (n m : Nat) (b : Int) (x : Lt) (s0 : Sto) (j : Nat) (en : Env) (s : Sto) : Prop := PenTo s0 n s ∧ ∃ (ws : List (List Int)) (x3 x4 x5 x6 : Option D), ws.length = j ∧ (∀ w ∈ ws, w.length ≤ m ∧ ∀ l ∈ w, 0 ≤ l ∧ l < b) ∧ j ≤ x.ws.length ∧ en = [some (.ref n), some (lotD x), some (wordsD ws), x3, x4, x5, x6]
def IvL2 (n m : Nat) (b : Int) (x : Lt) (ws : List (List Int)) (x3 : Option D) (s0 : Sto) (j : Nat) (en : Env) (s : Sto) : Prop := PenTo s0 n s ∧ ∃ (w : List Int) (x5 x6 : Option D), w.length = j ∧ (∀ l ∈ w, 0 ≤ l ∧ l < b) ∧ en = [some (.ref n), some (lotD x), some (wordsD ws), x3, some (wordD w), x5, x6]
@[simp] theorem add_words_w {m : Bool} {ws : List (List Int)} {w : List Int} {st : Sto} : (oAdd m).ev (wordsD ws) (.tup [wordD w]) st = R.when (szB (ws.length + 1)) (.ok (wordsD (ws ++ [w])) st) := by
  show R.when (szB ((ws.map wordD).length + 1)) (R.ok (D.tup (ws.map wordD ++ [wordD w])) st) = _
  rw [List.length_map]
  simp [wordsD]
@[simp] theorem it_word {w : List Int} {st : Sto} : itSeq (wordD w) st = .ok (Is w, fun _ => true) st := (rfl)
theorem f_less {mm m n : Nat} {p : Pro} {x : Lt} {st : Sto} {Q : QD} {E : QX} (hpen : PenAt st n) (hp : OkPro mm p) (hx : OkLot p m x) (hm : m < 900) (hq : ∀ ws st', PenTo st n st' → ws.length = x.ws.length → (∀ w ∈ ws, w.length ≤ m ∧ ∀ l ∈ w, 0 ≤ l ∧ l < (p.letters : Int)) → Q (lotD ⟨x.pl, ws⟩) st') :
    (F._law_less.f [.ref n, lotD x] st).sat Q E := by
  have hwl := hx.wl
  have l2 := hp.l2
  have t2 := hp.t2
  refine run_sat (n := 7) (en := [some (.ref n), some (lotD x), none, none, none, none, none]) rfl rfl ?_
  rw [B._law_less]
  simp [v_for]
  refine forE_inv _ (IvL1 n m p.letters x st) ⟨PenTo.refl hpen, [], none, none, none, none, rfl, by simp, Nat.zero_le _, rfl⟩ (fun _ _ _ _ => rfl) ?_ ?_
  · rintro j d en s hd ⟨ht, ws, x3, x4, x5, x6, hws, hw, hj, rfl⟩
    rw [List.getElem?_map] at hd
    cases e : x.ws[j]? with
    | none => rw [e] at hd; cases hd
    | some v =>
      rw [e] at hd
      cases hd
      have hj2 := (List.getElem?_eq_some_iff.mp e).1
      have hv := hx.ws v (List.mem_of_getElem? e)
      refine ⟨_, p_nm, ?_⟩
      simp [v_for, v_comp]
      refine ⟨szB_of (by omega), ?_⟩
      refine compE_inv _ (fun j acc s => PenTo st n s ∧ ∃ w : List Int, acc = Is w ∧ w.length ≤ j ∧ j ≤ v.length ∧ ∀ l ∈ w, 0 ≤ l ∧ l < (p.letters : Int)) ⟨ht, [], rfl, Nat.zero_le _, Nat.zero_le _, by simp⟩ (fun _ _ _ _ => rfl) ?_ ?_
      · rintro i d acc s hd ⟨ht, w, rfl, hwl, hi, hy⟩
        rw [List.getElem?_map] at hd
        cases e2 : v[i]? with
        | none => rw [e2] at hd; cases hd
        | some l =>
          rw [e2] at hd
          cases hd
          have hi2 := (List.getElem?_eq_some_iff.mp e2).1
          have hl := hv.2 l (List.mem_of_getElem? e2)
          refine ⟨_, p_nm, ?_⟩
          simp [evC]
          refine f_draw ht.pen (by omega) (by omega) fun c s2 ht2 hc => ?_
          simp
          by_cases hc0 : 0 < c
          · simp [hc0]
            refine ⟨ht.trans ht2, w ++ [l], by simp, by simp; omega, by omega, fun y hy2 => ?_⟩
            rcases List.mem_append.mp hy2 with z | z
            · exact hy y z
            · rw [List.mem_singleton.mp z]; exact hl
          · simp [hc0]
            exact ⟨ht.trans ht2, w, rfl, by omega, by omega, hy⟩
      · intro acc s h
        rw [List.length_map] at h
        simp
        obtain ⟨ht, w, rfl, hwl2, _, hy⟩ := h
        refine forE_inv _ (IvL2 n m p.letters x ws (some (wordD v)) st) ⟨ht, [], x5, x6, rfl, by simp, rfl⟩ (fun _ _ _ _ => rfl) ?_ ?_
        · rintro i d en s hd ⟨ht, w2, y5, y6, hw2, hr2, rfl⟩
          rw [List.getElem?_map] at hd
          cases e2 : w[i]? with
          | none => rw [e2] at hd; cases hd
          | some l =>
            rw [e2] at hd
            cases hd
            have hi2 := (List.getElem?_eq_some_iff.mp e2).1
            have hl := hy l (List.mem_of_getElem? e2)
            refine ⟨_, p_nm, ?_⟩
            simp
            refine f_draw ht.pen (by omega) (by omega) fun c s2 ht2 hc => ?_
            simp
            refine f_one_of (l := [.int l, .int l, .int c]) (ht.trans ht2).pen (.inl rfl) (by simp) (by simp) (by simp [noRefs, noRef]) fun d s3 ht3 hd => ?_
            obtain ⟨z, rfl, hz⟩ : ∃ z : Int, d = .int z ∧ 0 ≤ z ∧ z < (p.letters : Int) := by
              simp at hd
              rcases hd with h | h
              · exact ⟨_, h, hl⟩
              · exact ⟨_, h, by omega, by omega⟩
            simp
            refine ⟨szB_of (by have := hv.1; omega), (ht.trans ht2).trans ht3, w2 ++ [z], _, _, by simp [hw2], fun y hy => ?_, rfl⟩
            rcases List.mem_append.mp hy with q | q
            · exact hr2 y q
            · rw [List.mem_singleton.mp q]; exact hz
        · rintro en s ⟨ht, w2, y5, y6, hw2, hr2, rfl⟩
          rw [List.length_map] at hw2
          simp
          refine ⟨szB_of (by omega), ht, ws ++ [w2], _, _, _, _, by simp [hws], fun w' h' => ?_, by omega, rfl⟩
          rcases List.mem_append.mp h' with z | z
          · exact hw w' z
          · rw [List.mem_singleton.mp z]
            have := hv.1
            exact ⟨by omega, hr2⟩
  · rintro en s ⟨ht, ws, x3, x4, x5, x6, hws, hw, hj, rfl⟩
    rw [List.length_map] at hws
    simp
    show (retR 0 st.length (lotD ⟨x.pl, ws⟩) s).sat Q E
    rw [rr_lot, ht.take]
    exact hq ws s ht hws hw
@[simp] theorem rev_pl {m : Bool} {ns : List Nat} {st : Sto} : evRev m (plD ns) st = .ok (plD ns.reverse) st := by
  show R.ok (D.tup (Ns ns).reverse) st = _
  simp [plD, List.map_reverse]
@[simp] theorem eqD_bl (a b : Bool) : eqD (.bl a) (.bl b) = (a == b) := by cases a <;> cases b <;> decide +kernel
theorem f_three {n : Nat} {st : Sto} {Q : QD} {E : QX} (hpen : PenAt st n) (hq : ∀ st', PenTo st n st' → Q (.bl true) st') : (F._law_three_right.f [.ref n] st).sat Q E := by
  refine run_sat (n := 6) (en := [some (.ref n), none, none, none, none, none]) rfl rfl ?_
  rw [B._law_three_right]
  simp [v_for, v_comp]
  refine ⟨b62_of (by decide) (by decide), szB_of (by simp [rng_len]), ?_⟩
  refine compE_inv _ (fun j acc s => PenTo st n s ∧ ∃ rs : List (List Nat), acc = rs.map plD ∧ (∀ r ∈ rs, r.length = 3) ∧ rs.length = j ∧ j ≤ 3) ⟨PenTo.refl hpen, [], rfl, by simp, rfl, by omega⟩ (fun _ _ _ _ => rfl) ?_ ?_
  · rintro j d acc s hd ⟨ht, rs, rfl, hr, hj, hj3⟩
    obtain ⟨hj2, rfl⟩ := rng_get hd
    refine ⟨_, p_nm, ?_⟩
    simp [evC, v_comp]
    refine ⟨b62_of (by decide) (by decide), szB_of (by simp [rng_len]), ?_⟩
    refine compE_inv _ (fun i acc s => PenTo st n s ∧ ∃ r : List Nat, acc = Ns r ∧ r.length = i ∧ i ≤ 3) ⟨ht, [], rfl, rfl, by omega⟩ (fun _ _ _ _ => rfl) ?_ ?_
    · rintro i d acc s hd ⟨ht, r, rfl, hr1, hi3⟩
      obtain ⟨hi2, rfl⟩ := rng_get hd
      refine ⟨_, p_nm, ?_⟩
      simp [evC]
      refine f_draw ht.pen (by omega) (by omega) fun c s2 ht2 hc => ?_
      exact ⟨ht.trans ht2, r ++ [c], by simp, by simp [hr1], by omega⟩
    · intro acc s h
      rw [rng_len] at h
      simp
      obtain ⟨ht, r, rfl, hr1, _⟩ := h
      refine ⟨ht, rs ++ [r], by simp [plD], fun y hy => ?_, by simp [hj], by omega⟩
      rcases List.mem_append.mp hy with z | z
      · exact hr y z
      · rw [List.mem_singleton.mp z]; exact hr1
  · intro acc s h
    rw [rng_len] at h
    simp
    obtain ⟨ht, rs, rfl, hr, hl, _⟩ := h
    refine forE_inv _ (fun j en s' => s' = s ∧ ∃ x2 x3 x4 x5 : Option D, en = [some (.ref n), some (.lst (rs.map plD)), x2, x3, x4, x5]) ⟨rfl, _, _, _, _, rfl⟩ (fun _ _ _ _ => rfl) ?_ ?_
    · rintro j d en s' hd ⟨rfl, x2, x3, x4, x5, rfl⟩
      rw [List.getElem?_map] at hd
      cases e : rs[j]? with
      | none => rw [e] at hd; cases hd
      | some one =>
        rw [e] at hd
        cases hd
        have h3 := hr one (List.mem_of_getElem? e)
        obtain ⟨a, b, c, rfl⟩ : ∃ a b c, one = [a, b, c] := by
          match one, h3 with
          | [a, b, c], _ => exact ⟨a, b, c, rfl⟩
        refine ⟨_, p_nm, ?_⟩
        have i0 : ixD s' (plD [a, b, c]) (.int 0) = some (.int a) := rfl
        have i1 : ixD s' (plD [a, b, c]) (.int 1) = some (.int b) := rfl
        have i2 : ixD s' (plD [a, b, c]) (.int 2) = some (.int c) := rfl
        simp [i0, i1, i2, v_for]
        refine ⟨szB_of (by omega), ?_⟩
        have em : rs.map plD ++ [plD [c, b, a], .tup [.int a, .int c, .int b]] = (rs ++ [[c, b, a], [a, c, b]]).map plD := by simp [plD]
        rw [em]
        refine forE_inv _ (fun j en s2 => s2 = s' ∧ ∃ x5 : Option D, en = [some (.ref n), some (.lst (rs.map plD)), x2, x3, some (plD [a, b, c]), x5]) ⟨rfl, _, rfl⟩ (fun _ _ _ _ => rfl) ?_ ?_
        · rintro i d en s2 hd ⟨rfl, y5, rfl⟩
          rw [List.getElem?_map] at hd
          cases e2 : (rs ++ [[c, b, a], [a, c, b]])[i]? with
          | none => rw [e2] at hd; cases hd
          | some o =>
            rw [e2] at hd
            cases hd
            refine ⟨_, p_nm, ?_⟩
            have ea : F.is_above.f [.tup [plD [a, b, c], .tup [.tup [.int 0], .tup []]], .tup [plD o, .tup [.tup [], .tup []]]] s2 = .ok (.bl (ab ⟨[a, b, c], [[0], []]⟩ ⟨o, [[], []]⟩)) s2 := f_is_above (x := ⟨[a, b, c], [[0], []]⟩) (y := ⟨o, [[], []]⟩) ⟨rfl, by simp, by simp, by simp⟩
            have e3 : ab ⟨[a, b, c], [[0], []]⟩ ⟨o, [[], []]⟩ = decide ([a, b, c] = o) := by simp [ab, wis, wi]
            rw [e3] at ea
            simp [ea, eq_pl]
        · rintro en s2 ⟨rfl, y5, rfl⟩
          exact ⟨rfl, _, _, _, _, rfl⟩
    · rintro en s' ⟨rfl, x2, x3, x4, x5, rfl⟩
      simp
      rw [ht.take]
      exact hq _ ht
end Mi
/-! ExA: exceptions of own classes: how one is made, raised. -/
namespace Mi
open PySem PySem.Spec PyProof.Rows L2

/-- a built-in class of exceptions, as x names it -/
structure BaseX (x : Str) (B newId initId : String) (tl : List Value) : Prop where
  F : ExcBaseFacts B newId initId tl
  ty : typeOf (.type B) = pure (.type "type")
  stub : Manifest.isStub B = false
  hin : PySem.W.handedIn (.builtin initId) = true
  boot : bootBuiltins x = some (.type B)
  nm : x ≠ "__name__"
  db : (x == ("__debug__" : Str)) = false
/-- what the written part says of the class at C -/
structure ExcK (K : PySem.W.Frag) (C fI : Addr) (tl : List Value) (newId : String) : Prop where
  cls : ∃ nm q N bs sn sub ab col dd k0 k1 k2 k3 k5, K.lookup C = some (excClassObj nm q C N bs tl true sn sub ab col dd k0 k1 k2 k3 k5 newId)
  exC : PySem.W.subIn K (.ref C) (.type "BaseException") = some true
  tyC : PySem.W.typeIn K (.ref C) = some (.type "type")
  kC : PySem.W.keepIn K (.ref C) = true
  ini : PySem.W.findIn K (.ref C) "__init__" = some (some (.ref fI))
  tyI : PySem.W.typeIn K (.ref fI) = some (.type "function")
  one : PySem.W.exmOne K (.ref C) (.ref C) = some true
def clsB (K : PySem.W.Frag) (C : Addr) (tl : List Value) (newId : String) : Bool := match K.lookup C with
  | some ⟨.type t, _, .cls cd, sl⟩ => decide (t = "type") && decide (cd.mro = .ref C :: tl) && cd.hasDict && !cd.hasDel && (match sl.toList with | [_, _, _, _, some (.builtin n), _] => decide (n = newId) | _ => false)
  | _ => false
def excB (K : PySem.W.Frag) (C fI : Addr) (tl : List Value) (newId : String) : Bool :=
  clsB K C tl newId && (decide (PySem.W.subIn K (.ref C) (.type "BaseException") = some true) && (decide (PySem.W.typeIn K (.ref C) = some (.type "type")) && (PySem.W.keepIn K (.ref C) &&
    (decide (PySem.W.findIn K (.ref C) "__init__" = some (some (.ref fI))) && (decide (PySem.W.typeIn K (.ref fI) = some (.type "function")) && decide (PySem.W.exmOne K (.ref C) (.ref C) = some true))))))
theorem clsB_ok {K : PySem.W.Frag} {C : Addr} {tl : List Value} {newId : String} (h : clsB K C tl newId = true) : ∃ nm q N bs sn sub ab col dd k0 k1 k2 k3 k5, K.lookup C = some (excClassObj nm q C N bs tl true sn sub ab col dd k0 k1 k2 k3 k5 newId) := by
  unfold clsB at h
  split at h
  · rename_i t dd cd sl ho
    simp only [Bool.and_eq_true, decide_eq_true_eq, Bool.not_eq_true'] at h
    obtain ⟨⟨⟨⟨rfl, hm⟩, hd⟩, hdel⟩, hs⟩ := h
    obtain ⟨nm, bs, mro, ns, qn, hdc, sn, sub, ab, col, del⟩ := cd
    dsimp only at hm hd hdel
    subst hm hd hdel
    obtain ⟨l⟩ := sl
    split at hs
    · rename_i k0 k1 k2 k3 n k5 e
      have e2 : l = [k0, k1, k2, k3, some (.builtin n), k5] := e
      subst e2
      rw [of_decide_eq_true hs] at ho
      exact ⟨_, _, _, _, _, _, _, _, _, _, _, _, _, _, ho⟩
    · cases hs
  · cases h
theorem excB_ok {K : PySem.W.Frag} {C fI : Addr} {tl : List Value} {newId : String} (h : excB K C fI tl newId = true) : ExcK K C fI tl newId := by
  obtain ⟨h1, h⟩ := Bool.and_eq_true_iff.mp h
  obtain ⟨h2, h⟩ := Bool.and_eq_true_iff.mp h
  obtain ⟨h3, h⟩ := Bool.and_eq_true_iff.mp h
  obtain ⟨h4, h⟩ := Bool.and_eq_true_iff.mp h
  obtain ⟨h5, h⟩ := Bool.and_eq_true_iff.mp h
  obtain ⟨h6, h7⟩ := Bool.and_eq_true_iff.mp h
  exact ⟨clsB_ok h1, of_decide_eq_true h2, of_decide_eq_true h3, h4, of_decide_eq_true h5, of_decide_eq_true h6, of_decide_eq_true h7⟩

section
variable {X : Cx} {pins : List (Addr × Obj)} {σ : L2.St} {H : Hp} {s : Shared} {a C fI : Addr} {x : Str} {B newId initId : String} {tl : List Value}
/-- B.__init__(self, ..): nothing of it is told -/
theorem xinit_ok {A : Around} {E : Value → Shared → Prop} {us : List Value} {Q : Value → Shared → Prop} (b : BaseX x B newId initId tl) (T : ExcK X.K C fI tl newId) (I : Inv X pins σ H s) (e : H a = some (exo a C none)) (hl : us.length ≤ sizeLine) (h : ∀ s', Inv X pins σ H s' → Q .none s') :
    wpAny (model X.prog X.w) A (call (.builtin initId) (.ref a :: us)) Q E s := by
  obtain ⟨nm, q, N, bs, sn, sub, ab, col, dd, k0, k1, k2, k3, k5, hC⟩ := T.cls
  obtain ⟨t1, ho⟩ := exo_at I.hok e
  obtain ⟨hp, g, d, t, os⟩ := s
  refine wpAny_call (PySem.HandSPX.init_base b.F (fun Y => rfl) (I.kIn _ _ hC) ho hl fun h' t2 k hx => ?_)
  have J := I.write (t' := t) (x := a) (e := a) (o := exo a C none) (by rw [e]; exact True.intro) (.inl rfl) k ⟨_, hx⟩ (exo_ok hx)
  have eu : upd H a (exo a C none) = H := by
    funext b
    by_cases hb : b = a
    · rw [hb, upd_same, e]
    · rw [upd_ne hb]
  rw [eu] at J
  exact h _ J
def tXI (C : Addr) (ta : TA) : TE := fun σ H Q => ta σ H fun vs H1 => ∃ (a : Addr) (ws : List V), vs = .ref a :: ws ∧ ws.length ≤ 1000 ∧ H1 a = some (exo a C none) ∧ Q .non H1
theorem pe_xinit {ta : TA} {e : Expr} {es : List Expr} {p1 p2 pos : Pos} {pl : Sem Bool} (b : BaseX x B newId initId tl) (T : ExcK X.K C fI tl newId) (hg : Gl X x) (hm : X.mg x = none) (vV : PySem.W.findCls X.K (.type B) (.type "type") "__init__" = some (.val (.builtin initId))) (ha : PA X (e :: es) ta)
    (hc : eval (.Call (.Attribute (.Name x p1) "__init__" p2) (e :: es) [] pos) X.env = (do
      let ov ← eval (.Name x p1) X.env
      standAt p2.atName
      let (f, first) ← holding [ov] (getMethod ov "__init__" pl)
      callWith pos f first (backTo pos (starEach (e :: es) X.env)) (backToKw pos (keywordEach [] X.env))))
    (he : starEach (e :: es) X.env = (false, eval e X.env) :: starEach es X.env) (hpl : (backTo pos (starEach es X.env)).any (·.1) = false) :
    PE X (.Call (.Attribute (.Name x p1) "__init__" p2) (e :: es) [] pos) (tXI C ta) := by
  refine ⟨fun pins s σ H Q I h => ?_⟩
  refine PySem.W.methodCall_KW (ld_blt I hg hm b.boot ?_ b.nm b.db) hc
  obtain ⟨m, fr⟩ := I.fr
  refine PySem.W.method_type fr I.ok.mod.kin b.ty b.stub vV b.hin ?_
  show wpAny _ _ (callWith pos (Value.builtin initId) [] (backTo pos (starEach (e :: es) X.env)) []) _ _ _
  refine PyProof.Rows.callWith_method1 (thn (ha.run pos pins _ σ H _ (I.tok _) h) fun us s1 ⟨vs, H1, I1, r1, a, ws, ev, hl, ea, q⟩ => ?_) he hpl
  subst ev
  cases r1 with
  | @cons _ u0 _ ur ra rw' =>
    obtain rfl : u0 = Value.ref a := ra
    have hlen : ur.length ≤ sizeLine := by
      rw [← Paired.length rw', sizeLine_eq]
      omega
    exact xinit_ok b T I1 ea hlen fun s' J => ⟨.non, H1, J, rfl, q⟩
end

/-! ### a class without fields -/
def sp0 (C : Addr) : Sp := fun vs H Q _ => ∃ a, vs = [.ref a] ∧ H a = some (exo a C none) ∧ Q .non H
/-- the body of such a class's __init__ -/
def ini0B (x : Str) (sc : Scope) (l : List Stmt) : Bool := match l with
  | [.Expr (.Call (.Attribute (.Name y _) i p2) [.Name z _, .Constant (.str _) _ _] [] pos) _] => decide (y = x) && decide (i = ("__init__" : Str)) && decide (z = ("self" : Str)) && glB sc y && visB sc z && (p2.endLine == pos.line)
  | _ => false
theorem ev_ini {x z : Str} {p1 p2 p3 p4 pos : Pos} {m : Str} {j : Nat} {env : PySem.Env} (h : (p2.endLine == pos.line) = true) :
    eval (.Call (.Attribute (.Name x p1) "__init__" p2) [.Name z p3, .Constant (.str m) j p4] [] pos) env = (do
      let ov ← eval (.Name x p1) env
      standAt p2.atName
      let (f, first) ← holding [ov] (getMethod ov "__init__" (do return (← importBound (.Name x p1) env).getD true))
      callWith pos f first (backTo pos (starEach [.Name z p3, .Constant (.str m) j p4] env)) (backToKw pos (keywordEach [] env))) := by
  have e : methodCallPos true (.Name x p1) env p2 pos = pure pos := by
    unfold methodCallPos
    rw [h]
    rfl
  show (eval (.Name x p1) env >>= fun ov => standAt p2.atName >>= fun _ => methodCall (.Name x p1) "__init__" p2 pos env ov 2 (backTo pos (starEach [.Name z p3, .Constant (.str m) j p4] env)) (backToKw pos (keywordEach [] env))) = _
  congr 1
  funext ov
  congr 1
  funext _
  unfold methodCall
  show (holding [ov] (calleeOf true (.Name x p1) env ov "__init__") >>= fun q => methodCallPos true (.Name x p1) env p2 pos >>= fun cp => callWith cp q.1 q.2 _ _) = _
  rw [e]
  rfl
theorem swaps_call (f : Expr) (as : List Expr) (ks : List Keyword) (p : Pos) (n : Nat) (env : PySem.Env) : swapsWith (.Call f as ks p) none n env = pure false := by
  rfl

theorem ini0_ok {P : Program} {w : World} {K : PySem.W.Frag} {mg : Str → Option Value} {base : Heap} {CX : CXT} {qual : Str} {params : Arguments} {body : List Stmt} {scope : Scope} {fI C : Addr} {fd : FuncData} {x : Str} {B newId initId : String} {tl : List Value}
    (b : BaseX x B newId initId tl) (T : ExcK K C fI tl newId) (F : FunD K "__init__" qual params body scope [] [] fI fd) (hm : mg x = none) (vV : PySem.W.findCls K (.type B) (.type "type") "__init__" = some (.val (.builtin initId)))
    (hs : scopeB ["self"] ["self"] scope = true) (hc : ini0B x scope body = true) : FnOk P w K mg base CX 1 fI fd ["self"] (sp0 C) := by
  have sc := scopeB_ok hs
  refine F.ok sc (fun vs H Q E h => by obtain ⟨a, rfl, _⟩ := h; rfl) (fun cdv A outer s H vs Q E hr h => ?_)
  obtain ⟨a, rfl, ha, hq⟩ := h
  unfold ini0B at hc
  split at hc
  · rename_i y p1 i p2 z p3 m j p4 pos p5
    simp only [Bool.and_eq_true, decide_eq_true_eq] at hc
    obtain ⟨⟨⟨⟨⟨rfl, rfl⟩, rfl⟩, hg⟩, hv⟩, hp⟩ := hc
    have pv : PE (cxOf CX P w K mg base ["self"] qual scope fI cdv A outer s H E) (.Name "self" p3) (tVar 0) := pe_var (i := 0) rfl (visB_ok hv)
    have ha2 : PA (cxOf CX P w K mg base ["self"] qual scope fI cdv A outer s H E) [.Name "self" p3, .Constant (.str m) j p4] (tCons (tVar 0) (tCons (tC (.str m)) tNil)) := pa_cons pv (pa_cons pe_str pa_nil)
    have pe := pe_xinit (X := cxOf CX P w K mg base ["self"] qual scope fI cdv A outer s H E) (p1 := p1) (p2 := p2) (pos := pos) b T (glB_ok hg) hm vV ha2 (ev_ini hp) (by rfl) (by rfl)
    refine ⟨_, pss_one (ps_expr (pos := p5) pe (swaps_call _ _ _ _ _ _)), ?_⟩
    refine ⟨.ref a, rfl, a, [.str m], rfl, ?_, ha, hq⟩
    show (1 : Nat) ≤ 1000
    omega
  · cases hc

/-- the end of C(): the exception is let go -/
theorem mk_endN {X : Cx} {pins : List (Addr × Obj)} {σ : L2.St} {H1 : Hp} {hp hp2 h2 : Heap} {g1 g2 : Array GenState} {d1 d2 : Drawn} {t1 t2 : Nat} {os1 os2 : OsState} {a C : Addr} (I1 : Inv X pins σ H1 ⟨hp, g1, d1, t1, os1⟩)
    (ha : hp.objs.size ≤ a) (k : ∀ b o, hp.get? b = some o → hp2.get? b = some o) (un : Un (frs X.stack) [] (upd H1 a (exo a C none)) (upd H1 a (exo a C none)) hp2 h2) (hok : HOk X.prog X.w (upd H1 a (exo a C none)) h2) (ho : os2 = os1) (hb : AllBare g2) :
    ∃ (t0 : Addr) (G : Heap), Inv X pins σ H1 ⟨G, g2, d2, t2, os2⟩ ∧ (∀ b o, G.get? b = some o → h2.get? b = some o) ∧ G.get? a = none ∧
      h2.get? a = some ({ cls := .ref C, dict := none, data := .fields #[.ref t0, .none, .none, .none, .bool false, .none] } : Obj) ∧ H1 a = none := by
  have ea : (upd H1 a (exo a C none)) a = some (exo a C none) := upd_same
  obtain ⟨t0, hoe⟩ := exo_at hok ea
  have hn : H1 a = none := I1.hok.fresh ha
  obtain ⟨G, g1', g2'⟩ := restrict h2 fun b => decide (b ≠ a)
  have gk : ∀ b, b ≠ a → G.get? b = h2.get? b := fun b hb => g1' b (decide_eq_true hb)
  have ge : G.get? a = none := g2' a (by simp)
  have nha : ∀ {b : Addr} {o : Obj}, hp.get? b = some o → b ≠ a := fun {b o} z => Nat.ne_of_lt (Nat.lt_of_lt_of_le (Heap.lt_size z) ha)
  have up : ∀ {b : Addr}, b ≠ a → H1 b = none → upd H1 a (exo a C none) b = none := fun {b} hb n => by rw [upd_ne hb]; exact n
  have U : Un (frs X.stack) [] H1 H1 hp G := {
    keep := fun b o z n hf hx => by
      rw [gk b (nha z)]
      exact un.keep b o (k b o z) (up (nha z) n) hf hx
    slot := fun b o z n hf hx => by
      rw [gk b (nha z)]
      exact un.slot b o (k b o z) (up (nha z) n) hf hx
    free := fun b o z n hx => n
    there := fun b o z hx => by
      rw [gk b (nha z)]
      exact un.there b o (k b o z) hx
    tups := fun b xs z => z
    frzs := fun b o v z => z
    tbls := fun b ps z => ⟨#[], by rw [z]; simp⟩ }
  have hok3 : HOk X.prog X.w H1 G := fun b o z => by
    have hba : b ≠ a := ne_of_none z hn
    have ne : ∀ {c : Addr} {u : HO}, H1 c = some u → c ≠ a := fun {c u} hc => ne_of_none hc hn
    refine (hok b o (by rw [upd_ne hba]; exact z)).stay (fun c v hc y => ?_) (fun c hc => ?_) (fun c xs hc => ?_)
    · have hca : c ≠ a := by
        rcases hc with hc | hc
        · rw [hc]
          exact hba
        · exact at_ne ea hc exo_own
      rw [gk c hca]
      exact y
    · rw [upd_ne (at_ne ea hc exo_own)] at hc
      exact hc
    · rw [upd_ne (at_ne ea hc exo_tup)] at hc
      exact hc
  have J : Inv X pins σ H1 ⟨G, g2, d2, t2, os2⟩ := I1.call' (ch := []) ho U hok3 hb (fun b z => absurd z (by simp))
  exact ⟨t0, G, J, fun b o z => by
    by_cases hba : b = a
    · rw [hba, ge] at z
      cases z
    · exact (gk b hba).symm.trans z, ge, hoe, hn⟩
theorem pmk0 {X : Cx} {CX : CXT} {x : Str} {C fI : Addr} {k : Nat} {fd : FuncData} {y : Str} {B newId initId : String} {tl : List Value} {p pos : Pos} (b : BaseX y B newId initId tl) (T : ExcK X.K C fI tl newId)
    (F1 : FnOk X.prog X.w X.K X.mg X.base CX k fI fd ["self"] (sp0 C)) (hr : Room (k + 1) X.A) (hb : Binds X.K fd ["self"] []) (hx : Passes CX X (fun _ _ _ => False)) (hg : Gl X x) (hm : X.mg x = some (.ref C))
    (hdb : (x == ("__debug__" : Str)) = false) : PMk X (.Call (.Name x p) [] [] pos) (fun _ H Q => Q (.ref C) none H) := by
  intro pins s σ H Q I h
  obtain ⟨nm, q, N, bs, sn, sub, ab, col, dd, k0, k1, k2, k3, k5, hC⟩ := T.cls
  refine wpAny_Call_Name_kw (ld_glob I hg hm ?_ hdb)
  refine PySem.W.callWith_K0 I.kIn T.kC ?_
  show wpAny _ _ (call (.ref C) []) _ _ _
  obtain ⟨hp, g, dr, tk, os⟩ := s
  have hsz : hp.objs.size ≤ hp.objs.size + 1 := Nat.le_succ _
  have hn : H (hp.objs.size + 1) = none := I.hok.fresh hsz
  have kk : ∀ b o, hp.get? b = some o → ((hp.push (PySem.W.kdv_tup [])).push (PySem.HandSPX.excO C hp.objs.size)).get? b = some o := fun b o e => Heap.get?_push_of_some _ (Heap.get?_push_of_some _ e)
  have hget : ((hp.push (PySem.W.kdv_tup [])).push (PySem.HandSPX.excO C hp.objs.size)).get? (hp.objs.size + 1) = some (PySem.HandSPX.excO C hp.objs.size) := by heap_get
  have I2 : Inv X pins σ (upd H (hp.objs.size + 1) (exo (hp.objs.size + 1) C none)) ⟨(hp.push (PySem.W.kdv_tup [])).push (PySem.HandSPX.excO C hp.objs.size), g, dr, tk, os⟩ :=
    I.laid (t' := tk) (a := hp.objs.size + 1) (o := exo (hp.objs.size + 1) C none) (h' := (hp.push (PySem.W.kdv_tup [])).push (PySem.HandSPX.excO C hp.objs.size)) kk hsz (exo_ok hget)
  have hq : sp0 C [.ref (hp.objs.size + 1)] (upd H (hp.objs.size + 1) (exo (hp.objs.size + 1) C none)) (fun v H2 => v = .non ∧ H2 = upd H (hp.objs.size + 1) (exo (hp.objs.size + 1) C none)) (fun _ _ _ => False) := ⟨_, rfl, upd_same, rfl, rfl⟩
  refine wpAny_call (PySem.HandSPX.call_own b.F (fun Y => rfl) (I.kIn _ _ hC) (PySem.W.looks_findIn I.kIn T.ini) (fun self => PySem.W.bind_fn I.kIn self T.tyI) (Nat.zero_le _)
    (codeAny_mono (F1.run _ X.stack _ _ ⟨[Value.ref (hp.objs.size + 1)], []⟩ [Value.ref (hp.objs.size + 1)] _ _ (fun _ _ _ => False) (hr.make C [] []) (I2.env0.make C [] []) (hb _ [Value.ref (hp.objs.size + 1)] I2.kIn rfl) (show Vals [V.ref (hp.objs.size + 1)] [Value.ref (hp.objs.size + 1)] from .cons rfl .nil) hq) fun r s' hq' => ?_))
  cases r with
  | error er => exact hx pins σ _ _ er s' I2 hq'
  | ok fl =>
    cases fl with
    | ret u =>
      obtain ⟨v, H2, os2, bare2, un2, hok2, rv, ev, eH⟩ := hq'
      subst ev
      subst eH
      obtain ⟨h2, g2, d2, t2, os'⟩ := s'
      refine ⟨rv, ?_⟩
      obtain ⟨t0, G, J, kG, ge, hoe, na⟩ := mk_endN (d2 := d2) (t2 := t2) I hsz kk un2 hok2 os2 bare2
      exact ⟨_, _, _, ⟨G, g2, d2, t2, os'⟩, _, .ref C, none, rfl, J, kG, ge, hoe, ⟨rfl, rfl⟩, rfl, rfl, na, rfl, bare2, raises_own T.exC T.tyC, h⟩
    | next => exact False.elim hq'
    | brk => exact False.elim hq'
    | cont => exact False.elim hq'

theorem base_RuntimeError : BaseX "RuntimeError" "RuntimeError" "RuntimeError.__new__" "RuntimeError.__init__" [.type "RuntimeError", .type "Exception", .type "BaseException", .type "object"] where
  F := F.excBase_RuntimeError
  ty := by kernel_rfl
  stub := by decide +kernel
  hin := by decide +kernel
  boot := by decide +kernel
  nm := by decide
  db := by decide
end Mi
/-! ExB: raise X(), try: .. except X (as e): .. -/
namespace Mi
open PySem PySem.Spec PyProof.Rows L2

/-- the class of that name, without fields, may be raised -/
def ExcAvail (G : GEnv) (k : Nat) (name : Str) : Prop :=
  ∃ (C fI : Addr) (fd : FuncData) (y : Str) (B newId initId : String) (tl : List Value), G.mg name = some (.ref C) ∧ BaseX y B newId initId tl ∧ ExcK G.K C fI tl newId ∧ FnOk G.prog G.w G.K G.mg G.base (CXof G) 1 fI fd ["self"] (sp0 C) ∧ Binds G.K fd ["self"] [] ∧ 2 ≤ k
def sRaise0 (name : Str) : SemS where
  chk N sc st := match st with | .Raise (some (.Call (.Name x _) [] [] _)) none _ => decide (x = name) && plainNm x && glB sc x | _ => false
  req G k := ExcAvail G k name
  lp := false
  wp N en st := N.ex ⟨name, []⟩ en st
  mono A B en st le h := le.ex _ _ _ h
  sound := by
    intro G k X W st gd hfn tk hl rq hc
    split at hc
    · rename_i x p1 p2 p3
      simp only [Bool.and_eq_true, decide_eq_true_eq] at hc
      obtain ⟨⟨rfl, hn⟩, hg⟩ := hc
      obtain ⟨n1, n2, n3⟩ := plainNm_ok hn
      obtain ⟨C, fI, fd, y, B, newId, initId, tl, hmg, b, T, F1, hb, hk⟩ := rq
      have base := ps_raise (pos := p3) gd.calm tk (pmk0 (CX := CXof G) (k := 1) (p := p1) (pos := p2) b (by rw [gd.K]; exact T) (by rw [gd.prog, gd.w, gd.K, gd.mg, gd.base]; exact F1) (gd.room.mono hk) (by rw [gd.K]; exact hb)
        (fun pins σ H s e s' I c => by obtain ⟨_, _, _, _, _, _, _, _, _, _, _, _, h⟩ := c; exact h.elim) (glB_ok hg) (by rw [gd.mg]; exact hmg) n1)
      refine ⟨fun pins s σ H Dn I h => base.run pins s σ H Dn I ?_⟩
      obtain ⟨mu, en, st, R, h⟩ := h
      exact h mu σ (.ref C) none H (Step.refl _ _) R ⟨hmg, .inl ⟨rfl, rfl⟩⟩
    · cases hc
def xRaise0 (name : Str) : RS := ⟨sRaise0 name, fun en st => .ex ⟨name, []⟩ en st, fun N en st h => h, fun en st => Gr.refl _⟩

/-! ### expressions of an except suite -/
structure SuC (G : GEnv) (X : Cx) : Prop where
  prog : X.prog = G.prog
  w : X.w = G.w
  K : X.K = G.K
  mg : X.mg = G.mg
def noX : DX → Sto → Prop := fun _ _ => False
/-- a: the exception, C its class, d its dict, i the slot of its name -/
def tSu (G : GEnv) (i : Option Nat) (a C : Addr) (d : Option Addr) (ev : DX → Env → Sto → R D) : TE := fun σ H Q =>
  ∃ mu en st x, RelE G.K G.w mu H en st σ ∧ (∀ j, i = some j → σ[j]? = some (some (V.ref a))) ∧ XR G mu H x (.ref C) d ∧ (ev x en st).sat (PostD G mu H Q) noX
structure SuE where
  chk : Option Nat → List Str → Scope → Expr → Bool
  req : GEnv → Addr → Prop
  ev : DX → Env → Sto → R D
  gr : ∀ x en st, (ev x en st).gr st
  sound : ∀ (G : GEnv) (X : Cx) (i : Option Nat) (a C : Addr) (oe : Obj) (d : Option Addr) (pn : List (Addr × Obj)) (e : Expr), SuC G X → req G C → Zc (.ref C) d oe → (∃ vs, oe.data = .fields vs) → chk i X.N X.env.scope e = true → PE (X.suite a ((a, oe) :: pn)) e (tSu G i a C d ev)
def litC (d : D) (c : Const) : Bool := match d, c with
  | .int i, .int j => decide (i = j)
  | .bl i, .bool j => decide (i = j)
  | .str i, .str j => decide (i = j)
  | .non, .none => true
  | _, _ => false
def suLit (d : D) : SuE where
  chk _ _ _ e := match e with | .Constant c _ _ => litC d c | _ => false
  req _ _ := True
  ev _ _ st := .ok d st
  gr _ _ _ := gr_ok
  sound := by
    intro G X i a C oe dd pn e sc rq hz hf hc
    split at hc
    · rename_i c j p
      have key : ∀ (v : V), (∀ mu H, RV G.K mu H d v) → PE (X.suite a ((a, oe) :: pn)) (.Constant c j p) (tC v) → PE (X.suite a ((a, oe) :: pn)) (.Constant c j p) (tSu G i a C dd (fun _ _ st => .ok d st)) := fun v hv h => by
        refine ⟨fun pins s σ H Q I h2 => h.run pins s σ H Q I ?_⟩
        obtain ⟨mu, en, st, x, R, _, _, h3⟩ := h2
        exact h3 mu v H (Step.refl _ _) R.sto (hv _ _)
      unfold litC at hc
      split at hc
      · cases of_decide_eq_true hc; exact key (.int _) (fun _ _ => rfl) pe_int
      · cases of_decide_eq_true hc; exact key (.bl _) (fun _ _ => rfl) pe_bl
      · cases of_decide_eq_true hc; exact key (.str _) (fun _ _ => rfl) pe_str
      · exact key .non (fun _ _ => rfl) pe_non
      · cases hc
    · cases hc
/-- items -/
def suA : List SuE → DX → Env → Sto → R (List D)
  | [], _, _, st => .ok [] st
  | a :: r, x, en, st => (a.ev x en st).bind fun d st1 => (suA r x en st1).bind fun ds st2 => .ok (d :: ds) st2
theorem suA_gr : ∀ (l : List SuE) (x : DX) (en : Env) (st : Sto), (suA l x en st).gr st
  | [], _, _, _ => gr_ok
  | a :: r, x, en, st => gr_bind (a.gr _ _ _) fun _ _ => gr_bind (suA_gr r _ _ _) fun _ _ => gr_ok
def suChk : List SuE → Option Nat → List Str → Scope → List Expr → Bool
  | [], _, _, _, [] => true
  | a :: r, i, N, sc, e :: es => notStar e && a.chk i N sc e && suChk r i N sc es
  | _, _, _, _, _ => false
def suReq : List SuE → GEnv → Addr → Prop
  | [], _, _ => True
  | a :: r, G, C => a.req G C ∧ suReq r G C
def tSuA (G : GEnv) (i : Option Nat) (a C : Addr) (d : Option Addr) (ev : DX → Env → Sto → R (List D)) : TA := fun σ H Q =>
  ∃ mu en st x, RelE G.K G.w mu H en st σ ∧ (∀ j, i = some j → σ[j]? = some (some (V.ref a))) ∧ XR G mu H x (.ref C) d ∧ (ev x en st).sat (fun ds st' => ∀ mu' vs H', Step mu H mu' H' → RelS G.K G.w mu' H' st' → RVs G.K mu' H' ds vs → Q vs H') noX
theorem suA_sound (G : GEnv) (X : Cx) (i : Option Nat) (a C : Addr) (oe : Obj) (d : Option Addr) (pn : List (Addr × Obj)) (sc : SuC G X) (hz : Zc (.ref C) d oe) (hf : ∃ vs, oe.data = .fields vs) :
    ∀ (l : List SuE) (es : List Expr), suReq l G C → suChk l i X.N X.env.scope es = true → PA (X.suite a ((a, oe) :: pn)) es (tSuA G i a C d (suA l))
  | [], [], _, _ => by
    refine ⟨fun pos pins s σ H Q I h => pa_nil.run pos pins s σ H Q I ?_⟩
    obtain ⟨mu, en, st, x, R, _, _, h⟩ := h
    exact h mu [] H (Step.refl _ _) R.sto rfl
  | [], _ :: _, _, h => by simp [suChk] at h
  | _ :: _, [], _, h => by simp [suChk] at h
  | b :: r, e :: es, rq, h => by
    simp only [suChk, Bool.and_eq_true] at h
    have base := pa_cons (b.sound G X i a C oe d pn e sc rq.1 hz hf h.1.2) (suA_sound G X i a C oe d pn sc hz hf r es rq.2 h.2) (star_plain h.1.1 _ _)
    refine ⟨fun pos pins s σ H Q I hw => base.run pos pins s σ H Q I ?_⟩
    obtain ⟨mu, en, st, x, Rl, hi, hx, hw⟩ := hw
    rw [suA, R.sat_bind] at hw
    refine ⟨mu, en, st, x, Rl, hi, hx, R.sat_mono hw (fun y st1 hy => ?_) fun _ _ h => h⟩
    intro mu1 v H1 s1 r1 q1
    rw [R.sat_bind] at hy
    refine ⟨mu1, en, st1, x, Rl.step s1 r1, hi, hx.step s1, R.sat_mono hy (fun ys st2 hs => ?_) fun _ _ h => h⟩
    intro mu2 vs H2 s2 r2 q2
    exact hs mu2 (v :: vs) H2 (s1.trans s2) r2 ⟨v, vs, rfl, q1.step s2, q2⟩
def suTup (l : List SuE) : SuE where
  chk i N sc e := match e with | .Tuple es _ _ => suChk l i N sc es | _ => false
  req := suReq l
  ev x en st := (suA l x en st).bind fun ds st1 => R.when (szB ds.length) (.ok (.tup ds) st1)
  gr x en st := gr_bind (suA_gr _ _ _ _) fun _ _ => gr_when gr_ok
  sound := by
    intro G X i a C oe d pn e sc rq hz hf hc
    split at hc
    · rename_i es j p
      have base := pe_tup (x1 := j) (pos := p) (suA_sound G X i a C oe d pn sc hz hf l es rq hc)
      refine ⟨fun pins s σ H Q I h => base.run pins s σ H Q I ?_⟩
      obtain ⟨mu, en, st, x, Rl, hi, hx, h⟩ := h
      rw [R.sat_bind] at h
      refine ⟨mu, en, st, x, Rl, hi, hx, R.sat_mono h (fun ds st1 hd => ?_) fun _ _ h => h⟩
      intro mu1 vs H1 s1 r1 q1
      rw [R.sat_when] at hd
      exact ⟨by rw [← q1.len]; exact of_decide_eq_true hd.1, fun p hp => new_tup s1 r1 q1 hd.2 hp⟩
    · cases hc
def suList (m : Bool) (l : List SuE) : SuE where
  chk i N sc e := match e with | .List es _ => suChk l i N sc es | _ => false
  req := suReq l
  ev x en st := (suA l x en st).bind fun ds st1 => R.when (szB ds.length) (newR m ds st1)
  gr x en st := gr_bind (suA_gr _ _ _ _) fun _ _ => gr_when gr_new
  sound := by
    intro G X i a C oe d pn e sc rq hz hf hc
    split at hc
    · rename_i es p
      have base := pe_lst (pos := p) (suA_sound G X i a C oe d pn sc hz hf l es rq hc)
      refine ⟨fun pins s σ H Q I h => base.run pins s σ H Q I ?_⟩
      obtain ⟨mu, en, st, x, Rl, hi, hx, h⟩ := h
      rw [R.sat_bind] at h
      refine ⟨mu, en, st, x, Rl, hi, hx, R.sat_mono h (fun ds st1 hd => ?_) fun _ _ h => h⟩
      intro mu1 vs H1 s1 r1 q1
      rw [R.sat_when] at hd
      exact ⟨by rw [← q1.len]; exact of_decide_eq_true hd.1, fun p hp => new_list m s1 r1 q1 (sat_new hd.2) hp⟩
    · cases hc

/-! ### isinstance of an exception that may have a dict -/
section
open PySem.W PySem.Calls
theorem findO {K : Frag} {C : Addr} {od : Option Obj} {name : Str} {a g : Value} (hc : (clsIn K C).isSome = true) (ha : findIn K (.ref C) name = some (some a)) (hg : specialIn K a "__get__" = some (some g)) (ht : takesIn K a = some true) : findObj K C od name = some (.bind g a) := by
  obtain ⟨cd, hc⟩ := Option.isSome_iff_exists.mp hc
  unfold findObj
  rw [hc, Option.bind_some, ha, Option.bind_some]
  simp [hg, ht]
theorem classO {prog : Program} {w : World} {A : Around} {E : Value → Shared → Prop} {s : Shared} {K : Frag} {x D : Addr} {ox : Obj} {od : Option Obj} {Q : Option Value → Shared → Prop} (c : ExcC K D) (X : K.In s.heap) (I : InstAt s.heap x ox D od) (h : Q (some (.ref D)) { s with toks := s.toks + 1 }) :
    wpAny (model prog w) A (getAttr? (.ref x) "__class__") Q E s := by
  have hf : findObj K D od "__class__" = some (.bind (.builtin "getset_descriptor.__get__") (.builtin "object.__class__")) := findO (by obtain ⟨cd, hc, _⟩ := any_some c.hd; rw [hc]; rfl) c.ha c.hn c.ht
  obtain ⟨hp, g, d, t, os⟩ := s
  have L0 := I.type (M := model prog w)
  have L1 := looks_findIn (M := model prog w) X c.hg
  have L2 := looks_findIn (M := model prog w) X c.hk
  have L3 := looks_find (M := model prog w) X I hf
  have sub : Looks (model prog w) hp (isInstance (.ref x) (.type "BaseException")) true := L0.andThen (looks_subIn X c.hs)
  have hx0 : (false && onTheHeap (Value.builtin "BaseException.__getattribute__")) = false := rfl
  have hx2 : (Value.builtin "BaseException.__getattribute__" == Value.builtin "object.__getattribute__") = false := by decide +kernel
  have hx1 : (onTheHeap (Value.ref D) && Value.builtin "BaseException.__getattribute__" == Value.builtin "object.__getattribute__") = false := by rw [hx2]; rfl
  unfold getAttr? getAttrBy? getAttrBy
  refine wpAny_bind (wpAny_mkText (wpAny_bind (wpAny_attempt (wpAny_holding (wpAny_bind (L0.at (wpAny_bind (L1.at ?_))))))))
  show wpAny _ _ (if (onTheHeap (Value.ref D) && Value.builtin "BaseException.__getattribute__" == Value.builtin "object.__getattribute__") = true then _ else _) _ _ _
  rw [hx1, if_neg Bool.false_ne_true]
  unfold getAttrByItsOwn hookBefore
  refine wpAny_bind ?_
  rw [if_pos (show onTheHeap (Value.ref D) = true from rfl)]
  refine L2.at ?_
  refine wpAny_bind (wpAny_attempt (wpAny_holding ?_))
  unfold callGetattribute
  rw [hx0, if_neg Bool.false_ne_true]
  unfold boundAndCalled
  rw [PySem.F.excAttr_ValueError.ga.bind (.ref x)]
  refine wpAny_bind (wpAny_pure ?_)
  show wpAny _ _ (call (.builtin "BaseException.__getattribute__") [.ref x, .str "__class__" t]) _ _ _
  refine wpAny_call (codeAny_call_builtin PySem.F.excAttr_ValueError.ga.plain PySem.F.entry_bexc_ga ?_)
  refine @check_slot (model prog w) _ _ ⟨hp, g, d, t + 1, os⟩ "BaseException.__getattribute__" "BaseException" "__getattribute__" (.ref x) [.str "__class__" t] [] _ (by decide +kernel) (by decide +kernel) sub (PySem.F.args_bexc_ga (.ref x) (.str "__class__" t)) ?_
  unfold Builtin.«object.__getattribute__»
  refine wpAny_bind (wpAny_of_eq (a := ((Value.ref x : Value), [Value.str "__class__" t])) (by first | rfl | (simp only [slotArgs]; rfl)) ?_)
  refine wpAny_bind (wpAny_pure (wpAny_bind (L0.at (wpAny_bind (L3.at ?_)))))
  show wpAny _ _ (holding [Value.builtin "object.__class__"] (call (.builtin "getset_descriptor.__get__") [.builtin "object.__class__", .ref x, .ref D]) >>= ret) _ _ _
  refine wpAny_bind (wpAny_holding (wpAny_call (class_get (s := ⟨hp, g, d, t + 1, os⟩) (ox := ox) (od := od) X I c.hm ?_)))
  refine wpAny_pure ?_
  show wpAny _ _ (handedOut (.ref D)) _ _ _
  rw [handedOut_of (v := .ref D) rfl]
  first
    | exact wpAny_pure (wpAny_pure h)
    | exact wpAny_pure h
    | exact wpAny_pure (wpAny_bind (wpAny_pure (wpAny_pure h)))
theorem kitO {K : Frag} {x D : Addr} {ox : Obj} {od : Option Obj} (c : ExcC K D) : KitX K (.ref x) (.ref D) (fun h => InstAt h x ox D od) where
  ty := fun _ _ _ I => I.type
  it := fun _ _ X _ => by
    obtain ⟨cdD, hcD, _⟩ := any_some c.hd
    unfold clsIn at hcD
    split at hcD
    · rename_i c' d' cd' sl' ho
      intro A' Q' E' s' k q
      unfold isType loadHead
      exact wpAny_bind (wpAny_loadPart (k _ _ (X _ _ ho)) (wpAny_pure q))
    · cases hcD
  ne := fun h tp dd its n sl X htp => by
    obtain ⟨cdD, hcD, _⟩ := any_some c.hd
    refine Bool.eq_false_iff.mpr fun q => ?_
    have e : D = tp := Value.ref.inj (beq_iff_eq.mp q)
    subst e
    unfold clsIn at hcD
    split at hcD
    · rename_i c' d' cd' sl' ho
      have z := (X _ _ ho).symm.trans htp
      cases z
    · cases hcD
  ca := fun X I k => classO c X I k
end

/-- isinstance(e, T), T above e's class -/
theorem isE_ok {X : Cx} {a C : Addr} {oe : Obj} {d : Option Addr} {pn : List (Addr × Obj)} {G : GEnv} {mu : Mu} {H : Hp} {x : DX} {T : String} (sc : SuC G X) (c : ExcC G.K C) (ko : PySem.W.kitOne G.K (.ref C) (.type T) = some true) (hz : Zc (.ref C) d oe) (hf : ∃ vs, oe.data = .fields vs) (hx : XR G mu H x (.ref C) d)
    {pins : List (Addr × Obj)} {s : Shared} {σ : L2.St} {Q : VK} (I : Inv (X.suite a ((a, oe) :: pn)) pins σ H s) (q : Q (.bl true) H) : wpAny (model X.prog X.w) (X.suite a ((a, oe) :: pn)).A (call (.builtin "isinstance") [.ref a, .type T]) (EP (X.suite a ((a, oe) :: pn)) pins σ Q) (X.suite a ((a, oe) :: pn)).xe s := by
  obtain ⟨hget, _⟩ := I.pin (a, oe) (List.mem_append.mpr (.inl List.mem_cons_self))
  obtain ⟨vs, hv⟩ := hf
  have hin : PySem.W.Frag.In G.K s.heap := by
    have := I.kIn
    rw [← sc.K]; exact this
  have J : ∃ od, PySem.W.InstAt s.heap a oe C od := by
    obtain ⟨oc, odd, oda, osl⟩ := oe
    obtain ⟨h1, h2⟩ := hz
    dsimp only at h1 h2 hv
    subst h1 h2 hv
    rcases hx.fs with ⟨_, e⟩ | ⟨dd, fs, e, hd, _⟩
    · subst e
      exact ⟨none, hget, rfl, rfl, trivial⟩
    · subst e
      obtain ⟨od, ho⟩ := objOk_get (I.hok dd _ hd)
      exact ⟨some od, hget, rfl, rfl, ho⟩
  obtain ⟨od, J⟩ := J
  exact PySem.W.kia_one (kitO c) hin J ko (fun z => nomatch z) fun tk => ⟨.bl true, H, I.kept (t' := tk) fun _ _ z => z, rfl, q⟩
/-- a if isinstance(e, T) else .., e of a class below T -/
def suIs (T : String) (tn : Str) (hb : bootBuiltins tn = some (.type T)) (hn : plainNm tn = true) (b : SuE) : SuE where
  chk i N sc e := match e with | .IfExp (.Call (.Name x _) [.Name n _, .Name t _] [] _) y _ _ => (match i with | some j => isNm N j n && visB sc n && plainNm n && decide (x = ("isinstance" : Str)) && glB sc x && decide (t = tn) && glB sc t && b.chk i N sc y | none => false) | _ => false
  req G C := (G.mg "isinstance" = none ∧ G.mg tn = none ∧ ExcC G.K C ∧ PySem.W.kitOne G.K (.ref C) (.type T) = some true) ∧ b.req G C
  ev x en st := b.ev x en st
  gr x en st := b.gr _ _ _
  sound := by
    intro G X i a C oe d pn e sc rq hz hf hc
    split at hc
    · rename_i x px n pn' t pt cpos y z pos
      split at hc
      · rename_i j
        simp only [Bool.and_eq_true, decide_eq_true_eq] at hc
        obtain ⟨⟨⟨⟨⟨⟨⟨h1, h2⟩, h3⟩, rfl⟩, hg⟩, rfl⟩, hg2⟩, hb1⟩ := hc
        obtain ⟨p1, p2, p3⟩ := plainNm_ok hn
        obtain ⟨n1, n2, n3⟩ := plainNm_ok h3
        have m1 : X.mg "isinstance" = none := by rw [sc.mg]; exact rq.1.1
        have m2 : X.mg t = none := by rw [sc.mg]; exact rq.1.2.1
        have pv : PE (X.suite a ((a, oe) :: pn)) (.Name n pn') (tVar j) := pe_var (isNm_ok h1) (visB_ok h2) n1 n2
        have ptt := pe_bltn (X := X.suite a ((a, oe) :: pn)) (pos := pt) (v := .ty T) (glB_ok hg2) m2 hb (show RelV (.ty T) (.type T) from rfl) p3 p1
        have pa := pa_cons pv (pa_cons ptt pa_nil rfl) (star_plain rfl _ _)
        have hcall : CallR (X.suite a ((a, oe) :: pn)) (.builtin "isinstance") (fun vs H Q => vs = [.ref a, .ty T] ∧ (∃ mu x, XR G mu H x (.ref C) d) ∧ Q (.bl true) H) := by
          intro pins s σ H xs us Q I r h
          obtain ⟨rfl, ⟨mu, x, hx⟩, q⟩ := h
          cases r with
          | cons rx rr =>
            cases rr with
            | cons rt rr =>
              cases rr
              cases rx
              cases rt
              exact isE_ok sc rq.1.2.2.1 rq.1.2.2.2 hz hf hx I q
        have pc := pe_callB (p := px) (pos := cpos) hcall (glB_ok hg) m1 boot_isinstance pa (by decide) (by decide) (star_plain rfl _ _) rfl
        have base := pe_ifExp (pos := pos) (pt_val pc (by intro whole; rfl)) (b.sound G X (some j) a C oe d pn y sc rq.2 hz hf hb1) (show PE (X.suite a ((a, oe) :: pn)) z (fun _ _ _ => False) from ⟨fun _ _ _ _ _ _ h => h.elim⟩)
        refine ⟨fun pins s σ H Q I h => base.run pins s σ H Q I ?_⟩
        obtain ⟨mu, en, st, x, Rl, hi, hx, h⟩ := h
        have e := hi j rfl
        refine ⟨.ref a, e, rfl, ⟨mu, x, hx⟩, true, rfl, ?_⟩
        show (if (true = true) then tSu G (some j) a C d b.ev σ H Q else False)
        rw [if_pos rfl]
        exact ⟨mu, en, st, x, Rl, hi, hx, h⟩
      · cases hc
    · cases hc

/-! ### suites -/
def stop : DX → Env → Sto → Prop := fun _ _ _ => False
def tSuS (G : GEnv) (i : Option Nat) (a C : Addr) (d : Option Addr) (run : DX → Env → Sto → RB) : TS := fun Dn σ H =>
  ∃ mu en st x, RelE G.K G.w mu H en st σ ∧ (∀ j, i = some j → σ[j]? = some (some (V.ref a))) ∧ XR G mu H x (.ref C) d ∧ (run x en st).sat ⟨PostN G mu H Dn.nx, PostD G mu H Dn.rt, PostN G mu H Dn.bk, PostN G mu H Dn.ct, stop⟩
structure SuS where
  chk : Option Nat → List Str → Scope → List Stmt → Bool
  req : GEnv → Addr → Prop
  run : DX → Env → Sto → RB
  gr : ∀ x en st, (run x en st).gr st
  sound : ∀ (G : GEnv) (X : Cx) (i : Option Nat) (a C : Addr) (oe : Obj) (d : Option Addr) (pn : List (Addr × Obj)) (es : List Stmt), SuC G X → req G C → Zc (.ref C) d oe → (∃ vs, oe.data = .fields vs) → chk i X.N X.env.scope es = true → PSs (X.suite a ((a, oe) :: pn)) es (tSuS G i a C d run)
def suRet (b : SuE) : SuS where
  chk i N sc es := match es with | [.Return (some e) _] => b.chk i N sc e | _ => false
  req := b.req
  run x en st := (b.ev x en st).st en fun d st1 => .rt d st1
  gr x en st := R.gr_st (b.gr _ _ _) fun _ _ => Gr.refl _
  sound := by
    intro G X i a C oe d pn es sc rq hz hf hc
    split at hc
    · rename_i e p
      have base := pss_one (ps_ret (pos := p) (b.sound G X i a C oe d pn e sc rq hz hf hc))
      refine ⟨fun pins s σ H Dn I h => base.run pins s σ H Dn I ?_⟩
      obtain ⟨mu, en, st, x, Rl, hi, hx, h⟩ := h
      rw [R.sat_st] at h
      exact ⟨mu, en, st, x, Rl, hi, hx, h⟩
    · cases hc
/-! ### try -/
def clr (i : Option Nat) (en : Env) : Env := match i with
  | none => en
  | some j => en.set j none
@[simp] theorem clr_n {en : Env} : clr none en = en := (rfl)
@[simp] theorem clr_s {en : Env} {j : Nat} : clr (some j) en = en.set j none := (rfl)
def aft (i : Option Nat) (N : EndsD) : EndsD := ⟨fun en st => N.nx (clr i en) st, N.rt, fun en st => N.bk (clr i en) st, fun en st => N.ct (clr i en) st, stop⟩
def nmB (i : Option Nat) (nm : Option Str) (N : List Str) (sc : Scope) : Bool := match nm, i with
  | none, none => true
  | some n, some j => isNm N j n && locOnly1 sc n
  | _, _ => false
theorem clr_len {i : Option Nat} {en : Env} : (clr i en).length = en.length := by
  cases i <;> simp
theorem RelE.clr1 {K : PySem.W.Frag} {wd : World} {mu : Mu} {H : Hp} {en : Env} {st : Sto} {σ : L2.St} (R : RelE K wd mu H en st σ) {j : Nat} {v : Option V} : RelE K wd mu H (en.set j none) st (σ.set j v) :=
  ⟨R.sto, fun i d e => by
    by_cases h : j = i
    · subst h
      by_cases hl : j < en.length
      · rw [List.getElem?_set_self hl] at e; cases e
      · rw [List.getElem?_eq_none (by simpa using hl)] at e; cases e
    · rw [List.getElem?_set_ne h] at e ⊢
      exact R.env i d e, by simpa using R.len⟩
/-- the except clause -/
def inS (i : Option Nat) (en : Env) : Bool := match i with
  | none => true
  | some j => decide (j < en.length)
def tryX (cname : Str) (i : Option Nat) (su : SuS) (N : EndsD) (x : DX) (en : Env) (st : Sto) : Prop := x.cls = cname ∧ inS i en = true ∧ (su.run x (clr i en) st).sat (aft i N)
def sTry (cname : Str) (i : Option Nat) (body : List SemS) (su : SuS) : SemS where
  chk N sc st := match st with | .Try es [.ExceptHandler (some (.Name x _)) nm (b₀ :: sl) _] [] [] _ => decide (x = cname) && plainNm x && glB sc x && nmB i nm N sc && chkB body N sc es && su.chk i N sc (b₀ :: sl) | _ => false
  req G k := reqB body G k ∧ ∃ C, G.mg cname = some (.ref C) ∧ PySem.W.exmOne G.K (.ref C) (.ref C) = some true ∧ su.req G C
  lp := lpB body
  wp N en st := wpB body { N with ex := tryX cname i su N } en st
  mono A B en st le h := wpB_mono body { A with ex := tryX cname i su A } { B with ex := tryX cname i su B } _ _ ⟨le.nx, le.rt, le.bk, le.ct, fun x en st hx => ⟨hx.1, hx.2.1, RB.sat_mono (A := aft i A) (B := aft i B) hx.2.2 ⟨fun _ _ h => le.nx _ _ h, le.rt, fun _ _ h => le.bk _ _ h, fun _ _ h => le.ct _ _ h, fun _ _ _ h => h⟩⟩⟩ h
  sound := by
    intro G k X W st gd hfn tk hl rq hc
    split at hc
    · rename_i es x np nm b₀ sl pos' pos
      simp only [Bool.and_eq_true, decide_eq_true_eq] at hc
      obtain ⟨⟨⟨⟨⟨rfl, hn⟩, hg⟩, hnm⟩, hb⟩, hsu⟩ := hc
      obtain ⟨n1, n2, n3⟩ := plainNm_ok hn
      obtain ⟨rqb, C, hmg, hone, rqs⟩ := rq
      have hone' : PySem.W.exmOne X.K (.ref C) (.ref C) = some true := by rw [gd.K]; exact hone
      have hN : Names X x (.ref C) := ⟨glB_ok hg, n1, .inl (by rw [gd.mg]; exact hmg)⟩
      have hbd : ∀ (W : WX) (pn : List (Addr × Obj)) (xe : Value → Shared → Prop), Takes (X.tr pn xe) W → PassesOwn (model X.prog X.w) X.A X.env xe → PSs (X.tr pn xe) es (tWS G (wpB body) W) := fun W2 pn xe tk2 po =>
        pss_sound G k (X.tr pn xe) W2 ⟨gd.prog, gd.w, gd.K, gd.mg, gd.base, gd.room, gd.nd, gd.calm, gd.kind, gd.guards⟩ ⟨hfn.fn, hfn.stk, hfn.frm⟩ tk2 body es (fun _ => po) rqb hb
      have suT : ∀ (a : Addr) (oe : Obj) (cls : Value) (d : Option Addr) (pn : List (Addr × Obj)), Zc cls d oe → (∃ vs, oe.data = .fields vs) →
          PSs (X.suite a ((a, oe) :: pn)) (b₀ :: sl) (fun Dn σ H => cls = .ref C ∧ tSuS G i a C d su.run Dn σ H) := fun a oe cls d pn hz hf => ⟨fun pins s σ H Dn I h => by
        obtain ⟨e, h⟩ := h
        subst e
        exact (su.sound G X i a C oe d pn _ ⟨gd.prog, gd.w, gd.K, gd.mg⟩ rqs hz hf hsu).run pins s σ H Dn I h⟩
      have clsE : ∀ {x' : DX} {cls : Value} {dd : Option Addr} {mu : Mu} {H : Hp}, XR G mu H x' cls dd → x'.cls = x → cls = .ref C := fun {x' cls dd mu H} q e => by
        have := q.cl
        rw [e, hmg] at this
        exact (Option.some.inj this).symm
      cases nm with
      | none =>
        cases i with
        | some j => cases hnm
        | none =>
          have base := ps_try_only (pos := pos) (pos' := pos') (np := np) hfn.stk hfn.frm hN tk hbd (fun a oe cls d pn => suT a oe cls d pn)
          refine ⟨fun pins s σ H Dn I h => base.run pins s σ H Dn I ?_⟩
          obtain ⟨mu, en, st, R, h⟩ := h
          refine ⟨mu, en, st, R, wpB_mono body { PostS G mu H Dn W with ex := tryX x none su (PostS G mu H Dn W) } _ _ _ ⟨fun _ _ h => h, fun _ _ h => h, fun _ _ h => h, fun _ _ h => h, fun x' en1 st1 hx => ?_⟩ h⟩
          intro mu1 σ1 cls dd H1 s1 R1 q1
          have ec := clsE q1 hx.1
          subst ec
          refine ⟨true, hone', fun _ a na => ⟨rfl, mu1, en1, st1, x', R1, (fun j e => nomatch e), q1, RB.sat_mono hx.2.2 ?_⟩, fun e => nomatch e⟩
          exact ⟨fun _ _ h => PostN.step s1 h, fun _ _ h => PostD.step s1 h, fun _ _ h => PostN.step s1 h, fun _ _ h => PostN.step s1 h, fun _ _ _ h => h⟩
      | some n =>
        cases i with
        | none => cases hnm
        | some j =>
          simp only [nmB, Bool.and_eq_true] at hnm
          have base := ps_try_as (pos := pos) (pos' := pos') (np := np) hfn.stk hfn.frm gd.nd (isNm_ok hnm.1) (locOnly1_ok hnm.2) hN tk hbd (fun a oe cls d pn => suT a oe cls d pn)
          refine ⟨fun pins s σ H Dn I h => base.run pins s σ H Dn I ?_⟩
          obtain ⟨mu, en, st, R, h⟩ := h
          refine ⟨mu, en, st, R, wpB_mono body { PostS G mu H Dn W with ex := tryX x (some j) su (PostS G mu H Dn W) } _ _ _ ⟨fun _ _ h => h, fun _ _ h => h, fun _ _ h => h, fun _ _ h => h, fun x' en1 st1 hx => ?_⟩ h⟩
          intro mu1 σ1 cls dd H1 s1 R1 q1
          have ec := clsE q1 hx.1
          subst ec
          have hj : j < σ1.length := by
            rw [← R1.len]
            exact of_decide_eq_true hx.2.1
          refine ⟨true, hone', fun _ a na => ⟨rfl, mu1, en1.set j none, st1, x', R1.clr1, (fun j2 e => by cases e; exact List.getElem?_set_self hj), q1, RB.sat_mono hx.2.2 ?_⟩, fun e => nomatch e⟩
          have go : ∀ {P : L2.St → Hp → Prop} {en2 : Env} {st2 : Sto}, PostN G mu H P (en2.set j none) st2 → PostN G mu1 H1 (fun σ' H' => P (σ'.set j none) H') en2 st2 := fun {P en2 st2} h mu2 σ2 H2 s2 R2 => h mu2 _ H2 (s1.trans s2) R2.clr1
          exact ⟨fun _ _ h => go h, fun _ _ h => PostD.step s1 h, fun _ _ h => go h, fun _ _ h => go h, fun _ _ _ h => h⟩
    · cases hc

def aftR (i : Option Nat) (r : RB) : RB := match r with
  | .nx en st => .nx (clr i en) st
  | .rt d st => .rt d st
  | .bk en st => .bk (clr i en) st
  | .ct en st => .ct (clr i en) st
  | .ex _ _ _ => .no
  | .no => .no
theorem aftR_sat {i : Option Nat} {r : RB} {N : EndsD} (h : (aftR i r).sat N) : r.sat (aft i N) := by
  cases r with
  | ex x en st => exact h.elim
  | _ => exact h
theorem aftR_gr {i : Option Nat} {r : RB} {st : Sto} (h : r.gr st) : (aftR i r).gr st := by
  cases r with
  | ex x en st => trivial
  | _ => exact h
def tryE (cname : Str) (i : Option Nat) (su : SuS) (r : RB) : RB := match r with
  | .ex x en st => RB.when (decide (x.cls = cname) && inS i en) (aftR i (su.run x (clr i en) st))
  | r => r
section
variable {cname : Str} {i : Option Nat} {su : SuS} {en : Env} {st : Sto} {d : D} {x : DX}
@[simp] theorem try_nx : tryE cname i su (.nx en st) = .nx en st := (rfl)
@[simp] theorem try_rt : tryE cname i su (.rt d st) = .rt d st := (rfl)
@[simp] theorem try_bk : tryE cname i su (.bk en st) = .bk en st := (rfl)
@[simp] theorem try_ct : tryE cname i su (.ct en st) = .ct en st := (rfl)
@[simp] theorem try_ex : tryE cname i su (.ex x en st) = RB.when (decide (x.cls = cname) && inS i en) (aftR i (su.run x (clr i en) st)) := (rfl)
@[simp] theorem ins_n : inS none en = true := (rfl)
@[simp] theorem ins_s {j : Nat} : inS (some j) en = decide (j < en.length) := (rfl)
@[simp] theorem aftR_nx : aftR i (.nx en st) = .nx (clr i en) st := (rfl)
@[simp] theorem aftR_rt : aftR i (.rt d st) = .rt d st := (rfl)
end
def xTry (cname : Str) (i : Option Nat) (body : List RS) (su : SuS) : RS where
  s := sTry cname i (body.map RS.s) su
  ev en st := tryE cname i su (evB body en st)
  ok N en st h := by
    refine evB_ok body _ _ _ ?_
    cases e : evB body en st with
    | ex x en1 st1 =>
      rw [e] at h
      rw [try_ex, RB.sat_when, Bool.and_eq_true, decide_eq_true_eq] at h
      exact ⟨h.1.1, h.1.2, aftR_sat h.2⟩
    | nx en1 st1 => rw [e] at h; exact h
    | rt d st1 => rw [e] at h; exact h
    | bk en1 st1 => rw [e] at h; exact h
    | ct en1 st1 => rw [e] at h; exact h
    | no => rw [e] at h; exact h.elim
  gr en st := by
    have g := evB_gr body en st
    cases e : evB body en st with
    | ex x en1 st1 =>
      rw [e] at g
      exact RB.gr_when (aftR_gr (RB.gr_trans g (su.gr _ _ _)))
    | nx en1 st1 => rw [e] at g; exact g
    | rt d st1 => rw [e] at g; exact g
    | bk en1 st1 => rw [e] at g; exact g
    | ct en1 st1 => rw [e] at g; exact g
    | no => trivial
section
variable {en : Env} {st : Sto} {x : DX} {l : List SuE} {b : SuE}
@[simp] theorem v_raise0 {n : Str} : (xRaise0 n).ev en st = .ex ⟨n, []⟩ en st := (rfl)
@[simp] theorem v_try {cname : Str} {i : Option Nat} {body : List RS} {su : SuS} : (xTry cname i body su).ev en st = tryE cname i su (evB body en st) := (rfl)
@[simp] theorem v_suRet : (suRet b).run x en st = (b.ev x en st).st en fun d st1 => .rt d st1 := (rfl)
@[simp] theorem v_suLit {d : D} : (suLit d).ev x en st = .ok d st := (rfl)
@[simp] theorem v_suTup : (suTup l).ev x en st = (suA l x en st).bind fun ds st1 => R.when (szB ds.length) (.ok (.tup ds) st1) := (rfl)
@[simp] theorem v_suList {m : Bool} : (suList m l).ev x en st = (suA l x en st).bind fun ds st1 => R.when (szB ds.length) (newR m ds st1) := (rfl)
@[simp] theorem v_suA0 : suA [] x en st = .ok [] st := (rfl)
@[simp] theorem v_suA1 {a : SuE} : suA (a :: l) x en st = (a.ev x en st).bind fun d st1 => (suA l x en st1).bind fun ds st2 => .ok (d :: ds) st2 := (rfl)
@[simp] theorem v_suIs {T : String} {tn : Str} {hb : bootBuiltins tn = some (.type T)} {hn : plainNm tn = true} : (suIs T tn hb hn b).ev x en st = b.ev x en st := (rfl)
end
def suIsRE (b : SuE) : SuE := suIs "RuntimeError" "RuntimeError" (by decide +kernel) (by decide +kernel) b
def suIsVE (b : SuE) : SuE := suIs "ValueError" "ValueError" (by decide +kernel) (by decide +kernel) b
@[simp] theorem v_suIsRE {en : Env} {st : Sto} {x : DX} {b : SuE} : (suIsRE b).ev x en st = b.ev x en st := (rfl)
@[simp] theorem v_suIsVE {en : Env} {st : Sto} {x : DX} {b : SuE} : (suIsVE b).ev x en st = b.ev x en st := (rfl)
end Mi
/-! PgJ: done, _law_told. -/
namespace Mi
open PySem PySem.Spec PyProof.Rows L2

/-- done -/
def N.done : List Str := ["program", "lot", "machine", "index", "step"]
def B.done : List RS := [
  xIf (qNo (tV' (rCall "can_do" F.can_do [] [(rVar 0), (rVar 1), (rVar 2), (rVar 3)]))) [
      xRaise0 "CannotDo"] [],
  xSet 4 (rIx (rIx (rIx (rIx (rVar 0) (rInt 2)) (rVar 2)) (rInt 1)) (rVar 3)),
  xRet (rTup [(rCall "put_at" F.put_at [] [(rIx (rVar 1) (rInt 0)), (rVar 2), (rIx (rVar 4) (rInt 2))]), (rCall "words_after" F.words_after [] [(rIx (rVar 4) (rInt 1)), (rIx (rVar 1) (rInt 1))])])]
def F.done : FS := mkF 4 0 5 B.done
@[simp] theorem F.ardone : F.done.ar = 4 := (rfl)

/-- _law_told -/
def N._law_told : List Str := ["program", "lot", "machine", "index", "e"]
def B._law_told : List RS := [
  xTry "CannotDo" (some 4) [
      xRet (rList false [(rCall "done" F.done [] [(rVar 0), (rVar 1), (rVar 2), (rVar 3)])])] (suRet (suIsRE (suList false [])))]
def F._law_told : FS := mkF 4 0 5 B._law_told
@[simp] theorem F.ar_law_told : F._law_told.ar = 4 := (rfl)

theorem f_done_ok {mm m : Nat} {p : Pro} {x y : Lt} {k i : Nat} {st : Sto} (hp : OkPro mm p) (hx : LotS p m x) (hm : m < 90000) (hs : (stpAt p k i).isSome = true) (h : aftV p x k i = some y) :
    F.done.f [proD p, lotD x, .int k, .int i] st = .ok (lotD y) st := by
  have ec := f_can_do (st := st) hp hx hs
  have e0 : canV p x k i = true := by unfold canV; rw [h]; rfl
  rw [e0] at ec
  obtain ⟨s, hs⟩ := Option.isSome_iff_exists.mp hs
  obtain ⟨mc, h1, h2, ok⟩ := stp_ok hp hs
  have hk : k < x.pl.length := by rw [hx.len]; exact (List.getElem?_eq_some_iff.mp h1).1
  have p2 := hp.m2
  have hlen := hx.len
  refine run_eq (n := 5) (en := [some (proD p), some (lotD x), some (.int k), some (.int i), none]) rfl rfl ?_
  rw [B.done]
  have e1 := ix_ms (st := st) h1
  have e2 := ix_ss (st := st) h2
  have e5 := f_put_pl (ns := x.pl) (k := s.there) (st := st) hk (by omega)
  have e6 : x.pl[k]? = some x.pl[k] := List.getElem?_eq_getElem hk
  unfold aftV at h
  rw [hs, Option.bind_some, e6] at h
  split at h
  · obtain ⟨ws, hw, rfl⟩ := Option.map_eq_some_iff.mp h
    have e4 := f_words_after (st := st) ok.act hx.wl hp.l2 (fun w hw => Nat.lt_of_le_of_lt (hx.ws w hw) hm) hw
    simp [ec, e1, e2, e4, e5]
    rw [lot_tup _ []]
    simp
  · cases h
theorem f_done_ex {mm m : Nat} {p : Pro} {x : Lt} {k i : Nat} {st : Sto} (hp : OkPro mm p) (hx : LotS p m x) (hs : (stpAt p k i).isSome = true) (h : aftV p x k i = none) :
    F.done.f [proD p, lotD x, .int k, .int i] st = .ex ⟨"CannotDo", []⟩ st := by
  have ec := f_can_do (st := st) hp hx hs
  have e0 : canV p x k i = false := by unfold canV; rw [h]; rfl
  rw [e0] at ec
  show retB 0 st.length (evB B.done [some (proD p), some (lotD x), some (.int k), some (.int i), none] st) = _
  rw [B.done]
  simp [ec, noRefs]
theorem f_told {mm m : Nat} {p : Pro} {x : Lt} {k i : Nat} {st : Sto} (hp : OkPro mm p) (hx : LotS p m x) (hm : m < 90000) (hs : (stpAt p k i).isSome = true) :
    F._law_told.f [proD p, lotD x, .int k, .int i] st = .ok (.lst ((aftV p x k i).toList.map lotD)) st := by
  refine run_eq (n := 5) (en := [some (proD p), some (lotD x), some (.int k), some (.int i), none]) rfl rfl ?_
  rw [B._law_told]
  cases h : aftV p x k i with
  | none =>
    have e := f_done_ex (st := st) hp hx hs h
    simp [e]
  | some y =>
    have e := f_done_ok (st := st) hp hx hm hs h
    simp [e]
    rw [rr_val (by simp [noRef, noRefs])]
    simp
end Mi
/-! ExC: what the head must tell of a class of exceptions. -/
namespace Mi
open PySem PySem.Spec PyProof.Rows L2

def ecB (K : PySem.W.Frag) (D : Addr) : Bool :=
  decide (PySem.W.findIn K (.ref D) "__getattribute__" = some (some (.builtin "BaseException.__getattribute__"))) && (decide (PySem.W.findIn K (.ref D) "__getattr__" = some none) && (decide (PySem.W.subIn K (.ref D) (.type "BaseException") = some true) && (PySem.W.hasDictIn K D &&
    (decide (PySem.W.findIn K (.ref D) "__class__" = some (some (.builtin "object.__class__"))) && (decide (PySem.W.specialIn K (.builtin "object.__class__") "__get__" = some (some (.builtin "getset_descriptor.__get__"))) && (decide (PySem.W.takesIn K (.builtin "object.__class__") = some true) && decide (PySem.W.mroIn K D (.type "object") = some true)))))))
theorem ecB_ok {K : PySem.W.Frag} {D : Addr} (h : ecB K D = true) : ExcC K D := by
  obtain ⟨h1, h⟩ := Bool.and_eq_true_iff.mp h
  obtain ⟨h2, h⟩ := Bool.and_eq_true_iff.mp h
  obtain ⟨h3, h⟩ := Bool.and_eq_true_iff.mp h
  obtain ⟨h4, h⟩ := Bool.and_eq_true_iff.mp h
  obtain ⟨h5, h⟩ := Bool.and_eq_true_iff.mp h
  obtain ⟨h6, h⟩ := Bool.and_eq_true_iff.mp h
  obtain ⟨h7, h8⟩ := Bool.and_eq_true_iff.mp h
  exact ⟨of_decide_eq_true h1, of_decide_eq_true h2, of_decide_eq_true h3, h4, of_decide_eq_true h5, of_decide_eq_true h6, of_decide_eq_true h7, of_decide_eq_true h8⟩
def fcB (K : PySem.W.Frag) (B initId : String) : Bool := match PySem.W.findCls K (.type B) (.type "type") "__init__" with
  | some (.val v) => decide (v = .builtin initId)
  | _ => false
theorem fcB_ok {K : PySem.W.Frag} {B initId : String} (h : fcB K B initId = true) : PySem.W.findCls K (.type B) (.type "type") "__init__" = some (.val (.builtin initId)) := by
  unfold fcB at h
  split at h
  · rename_i v e
    rw [e, of_decide_eq_true h]
  · cases h
/-- all that is asked of the class x below B -/
def exAllB (x : Str) (B newId initId : String) (tl : List Value) (K : PySem.W.Frag) : Bool :=
  excB K (He.ga K x) (He.ma K (He.ga K x) "__init__") tl newId && (ecB K (He.ga K x) && (fcB K B initId && decide (PySem.W.kitOne K (.ref (He.ga K x)) (.type B) = some true)))
structure ExAll (x : Str) (B newId initId : String) (tl : List Value) (K : PySem.W.Frag) : Prop where
  k : ExcK K (He.ga K x) (He.ma K (He.ga K x) "__init__") tl newId
  c : ExcC K (He.ga K x)
  f : PySem.W.findCls K (.type B) (.type "type") "__init__" = some (.val (.builtin initId))
  o : PySem.W.kitOne K (.ref (He.ga K x)) (.type B) = some true
theorem exAllB_ok {x : Str} {B newId initId : String} {tl : List Value} {K : PySem.W.Frag} (h : exAllB x B newId initId tl K = true) : ExAll x B newId initId tl K := by
  obtain ⟨h1, h⟩ := Bool.and_eq_true_iff.mp h
  obtain ⟨h2, h⟩ := Bool.and_eq_true_iff.mp h
  obtain ⟨h3, h4⟩ := Bool.and_eq_true_iff.mp h
  exact ⟨excB_ok h1, ecB_ok h2, fcB_ok h3, of_decide_eq_true h4⟩
def clsBody (s : Stmt) : List Stmt := match s with
  | .ClassDef _ _ _ b _ _ _ _ _ _ _ => b
  | _ => []
theorem exc_avail {G : GEnv} {k : Nat} {name y qual : Str} {B newId initId : String} {tl : List Value} {st : Stmt} {fd : FuncData} (b : BaseX y B newId initId tl) (e : ExAll name B newId initId tl G.K) (hm : G.mg name = some (.ref (He.ga G.K name))) (hz : G.mg y = none)
    (F : FunD G.K "__init__" qual (defArgs st) (defBody st) (defScope st) [] [] (He.ma G.K (He.ga G.K name) "__init__") fd) (hs : scopeB ["self"] ["self"] (defScope st) = true) (hc : ini0B y (defScope st) (defBody st) = true) (hb : Binds G.K fd ["self"] []) (hk : 2 ≤ k) : ExcAvail G k name :=
  ⟨_, _, fd, y, B, newId, initId, tl, hm, b, e.k, ini0_ok b e.k F hz e.f hs hc, hb, hk⟩
end Mi
/-! ExD: exceptions of own classes with one field; calls without arguments. -/
namespace PySem
namespace XOS
open PySem.W PySem.Calls PyProof.Rows PySem.HandSPX
open Builtin Builtin.ObjectAttr
/-- x.name = v, x an exception without a dict, its class right below a built-in one -/
theorem xosa {prog : Program} {w : World} {A : Around} {R : Result → Shared → Prop} {hp : Heap} {g : Array GenState} {d : Drawn} {t : Nat} {os : OsState} {K : W.Frag} {name : Str} {tk : Tok} {v : Value} {x C : Addr} {fv : Array Value} {cd : ClassData} {tl : List Value}
    (X : K.In hp) (hx : hp.get? x = some { cls := .ref C, data := .fields fv }) (hcd : W.clsIn K C = some cd) (hm : cd.mro = .ref C :: tl) (hpass : ∀ self, refuseLoop self "__setattr__" tl = pure ()) (hobj : tl.contains (.type "object") = true) (hh : cd.hasDict = true) (ha : W.findIn K (.ref C) name = some none)
    (hq : ∀ h' tk' dx, (∀ b o, b ≠ x → hp.get? b = some o → h'.get? b = some o) → hp.objs.size ≤ dx → dx ≠ x → h'.get? x = some { cls := .ref C, dict := some dx, data := .fields fv } →
      h'.Ns1 dx (fun y => if y = name then some v else none) → R (.ok (.ret .none)) ⟨h', g, d, tk', os⟩) :
    codeAny (model prog w) A (.call (.builtin "object.__setattr__") ⟨[.ref x, .str name tk, v], []⟩) R ⟨hp, g, d, t, os⟩ := by
  have I : W.InstAt hp x { cls := .ref C, data := .fields fv } C none := ⟨hx, rfl, rfl, trivial⟩
  have SF := F.store_object
  have ne : cd.mro.isEmpty = false := by rw [hm]; rfl
  have hob : cd.mro.contains (.type "object") = true := by rw [hm, List.contains_cons, hobj, Bool.or_true]
  have hxs : x ≠ hp.objs.size := Nat.ne_of_lt (Heap.lt_size hx)
  have sub : W.Looks (model prog w) hp (isInstance (.ref x) (.type "object")) true := I.type.andThen (W.looks_mroIn X (by unfold W.mroIn; rw [hcd, Option.bind_some, if_neg (by rw [ne]; decide), hob]))
  refine codeAny_call_builtin SF.slot.plain SF.entry (@W.check_slot (model prog w) _ _ ⟨hp, g, d, t, os⟩ "object.__setattr__" "object" "__setattr__" (.ref x) [.str name tk, v] [] _ SF.kind SF.split sub (SF.args (.ref x) (.str name tk) v) ?_)
  have hmr : W.Looks (model prog w) hp (mroOf (.ref C)) cd.mro := (W.looks_clsIn X hcd).andThen .now
  have L3 : W.Looks (model prog w) hp (storeTaker? none) none := .now
  have hcls : W.Looks (model prog w) hp (classData C) cd := W.looks_clsIn X hcd
  rw [W.osa_eq, refuse_eq]
  refine wpAny_bind (wpAny_bind (I.type.at (wpAny_bind (hmr.at ?_))))
  rw [hm, refuseLoop_ref, hpass]
  refine wpAny_pure (wpAny_bind (I.type.at (wpAny_bind ((W.looks_findIn X ha).at (wpAny_bind (L3.at ?_))))))
  show wpAny _ _ (storeInOwnDict (.ref x) (.ref C) (.str name tk) name v false) _ _ _
  obtain ⟨nm, bs, mro, ns, qn, hd, sn, sb, ab, col, del⟩ := cd
  dsimp only at hh
  subst hh
  unfold storeInOwnDict ownDictForStores
  repeat (first | with_reducible refine store_in_new ?_ ?_ | with_reducible refine wpAny_loadPart_at hx ?_ | with_reducible refine hcls.at ?_ | wp_step)
  · exact ⟨_, #[], _, (Heap.get?_update_ne _ _ _ _ hxs.symm).trans (Heap.get?_push_at rfl rfl), rfl, fun e he => absurd he (by simp), fun _ => rfl⟩
  · intro h' tk' hn' hs
    have hx₁ : (hp.push { cls := .type "dict", data := .dict #[] }).get? x = some { cls := .ref C, data := .fields fv } := Heap.get?_push_of_some _ hx
    refine hq h' tk' hp.objs.size (fun b o hb ho => ?_) (Nat.le_refl _) hxs.symm ?_ hn'
    · exact (hs.2 b (Nat.ne_of_lt (Heap.lt_size ho))).trans ((Heap.get?_update_ne _ _ _ _ hb).trans (Heap.get?_push_of_some _ ho))
    · exact (hs.2 x hxs).trans (Heap.get?_update_self _ hx₁ rfl)
end XOS
end PySem
namespace Mi
open PySem PySem.Spec PyProof.Rows L2

/-- what the base's part of the mro bears -/
structure TailX (tl : List Value) : Prop where
  pass : ∀ self, refuseLoop self "__setattr__" tl = pure ()
  obj : tl.contains (.type "object") = true
section
variable {X : Cx} {pins : List (Addr × Obj)} {σ : L2.St} {H : Hp} {s : Shared} {a C fI dx : Addr} {f : Str} {y : V} {u : Value} {tl : List Value} {newId : String} {Q : Unit → Shared → Prop} {E : Value → Shared → Prop} {A : Around}
/-- self.f = y, the first one -/
theorem xst_new (Z : TailX tl) (T : ExcK X.K C fI tl newId) (sa : PySem.W.findIn X.K (.ref C) "__setattr__" = some (some (.builtin "object.__setattr__"))) (I : Inv X pins σ H s) (e : H a = some (exo a C none)) (hno : PySem.W.findIn X.K (.ref C) f = some none) (ry : RelV y u)
    (h : ∀ dx s', H dx = none → dx ≠ a → Inv X pins σ (upd (upd H dx (exd dx [(f, y)])) a (exo a C (some dx))) s' → Q () s') : wpAny (model X.prog X.w) A (setAttr (.ref a) f u) Q E s := by
  obtain ⟨nm, q, N, bs, sn, sub, ab, col, dd, k0, k1, k2, k3, k5, hC⟩ := T.cls
  have hcl : PySem.W.clsIn X.K C = some { name := nm, bases := bs, mro := .ref C :: tl, ns := N, qualname := q, hasDict := true, slotNames := sn, subclasses := sub, abstract := ab, collection := col, hasDel := false } := by unfold PySem.W.clsIn; rw [hC] <;> rfl
  obtain ⟨t1, ho⟩ := exo_at I.hok e
  obtain ⟨hp, g, d, t, os⟩ := s
  refine PySem.W.set_plain I.kIn (ox := { cls := .ref C, dict := none, data := .fields #[.ref t1, .none, .none, .none, .bool false, .none] }) (od := none) ⟨ho, rfl, rfl, trivial⟩ sa ?_
  refine PySem.XOS.xosa I.kIn ho hcl rfl Z.pass Z.obj rfl hno (fun h' tk' dx k dn dne hx hn => ?_)
  have hnd : H dx = none := I.hok.fresh dn
  have nd : ∀ {b : Addr} {o : Obj}, hp.get? b = some o → b ≠ dx := fun {b o} q => Nat.ne_of_lt (Nat.lt_of_lt_of_le (Heap.lt_size q) dn)
  have na : ∀ {b : Addr}, H b = none → b ≠ a := fun {b} n z => by
    rw [z, e] at n
    cases n
  have Un1 : Un X.fs [] H (upd (upd H dx (exd dx [(f, y)])) a (exo a C (some dx))) hp h' := {
    keep := fun b o q n _ _ => k b o (na n) q
    slot := fun b o q n _ _ => ⟨o.slots, k b o (na n) q⟩
    free := fun b o q n _ => by rw [upd_ne (na n), upd_ne (nd q)]; exact n
    there := fun b o q _ => by
      by_cases hb : b = a
      · exact ⟨_, by rw [hb]; exact hx⟩
      · exact ⟨o, k b o hb q⟩
    tups := fun b xs q => by rw [upd_ne (at_ne e q exo_tup), upd_ne (ne_of_none q hnd)]; exact q
    frzs := fun b o v q => by rw [upd_ne (at_ne e q exo_frz), upd_ne (ne_of_none q hnd)]; exact q
    tbls := fun b ps q => ⟨#[], by rw [upd_ne (at_ne e q exo_tbl), upd_ne (ne_of_none q hnd), q]; simp⟩ }
  refine h dx _ hnd dne (I.un (t' := tk') Un1 fun b o q => ?_)
  by_cases hb : b = a
  · subst hb
    rw [upd_same] at q
    cases q
    exact exo_ok hx
  · rw [upd_ne hb] at q
    by_cases hd : b = dx
    · subst hd
      rw [upd_same] at q
      cases q
      exact exd_ok hn (relO_put (fs := []) ry fun g => True.intro)
    · rw [upd_ne hd] at q
      exact (I.hok b o q).stay (fun c v hc z => k c v (by
          rcases hc with hc | hc
          · rw [hc]
            exact hb
          · exact at_ne e hc exo_own) z)
        (fun c hc => by rw [upd_ne (at_ne e hc exo_own), upd_ne (ne_of_none hc hnd)]; exact hc) (fun c xs hc => by rw [upd_ne (at_ne e hc exo_tup), upd_ne (ne_of_none hc hnd)]; exact hc)
def tXst (C : Addr) (f : Str) (to te : TE) : TS := fun D σ H => te σ H fun y H1 => to σ H1 fun x H2 => ∃ a : Addr, x = .ref a ∧ H2 a = some (exo a C none) ∧ ∀ dx, H2 dx = none → dx ≠ a → D.nx σ (upd (upd H2 dx (exd dx [(f, y)])) a (exo a C (some dx)))
theorem ps_xst {o e : Expr} {to te : TE} {p' pos : Pos} (Z : TailX tl) (T : ExcK X.K C fI tl newId) (sa : PySem.W.findIn X.K (.ref C) "__setattr__" = some (some (.builtin "object.__setattr__"))) (hno : PySem.W.findIn X.K (.ref C) f = some none) (ho : PE X o to) (he : PE X e te)
    (hs : swapsWith e (some (.Attribute o f p')) pos.line X.env = pure false) : PS X (.Assign [.Attribute o f p'] e pos) (tXst C f to te) := by
  refine ⟨fun pins s σ H D I h => ?_⟩
  refine plainObj_wpAny_Assign_Attribute (thn (he.run pins s σ H _ I h) fun v s1 ⟨y, H1, I1, r1, q1⟩ => thn (ho.run pins s1 σ H1 _ I1 q1) fun u s2 ⟨x, H2, I2, r2, a, ex, ea, q⟩ => ?_) hs
  subst ex
  obtain rfl : u = Value.ref a := r2
  exact xst_new Z T sa I2 ea hno r1 fun dx s' n ne J => ⟨σ, _, J, q dx n ne⟩
end
def sp1 (C : Addr) (f : Str) : Sp := fun vs H Q _ => ∃ a y, vs = [.ref a, y] ∧ H a = some (exo a C none) ∧ ∀ dx, H dx = none → dx ≠ a → Q .non (upd (upd H dx (exd dx [(f, y)])) a (exo a C (some dx)))
def ini1B (x f : Str) (sc : Scope) (l : List Stmt) : Bool := match l with
  | [.Expr (.Call (.Attribute (.Name y _) i p2) [.Name z _, .Constant (.str _) _ _] [] pos) _, .Assign [.Attribute (.Name z2 q1) g q2] (.Name h q3) pos2] => decide (y = x) && decide (i = ("__init__" : Str)) && decide (z = ("self" : Str)) && glB sc y && visB sc z && (p2.endLine == pos.line) &&
      decide (z2 = ("self" : Str)) && decide (g = f) && decide (h = f) && visB sc h && pureIs (fun b => !b) (swapsWith (.Name h q3) (some (.Attribute (.Name z2 q1) g q2)) pos2.line (envS sc)) && plainNm f
  | _ => false
theorem ini1_ok {P : Program} {w : World} {K : PySem.W.Frag} {mg : Str → Option Value} {base : Heap} {CX : CXT} {qual : Str} {params : Arguments} {body : List Stmt} {scope : Scope} {fI C : Addr} {fd : FuncData} {x f : Str} {B newId initId : String} {tl : List Value}
    (b : BaseX x B newId initId tl) (Z : TailX tl) (T : ExcK K C fI tl newId) (sa : PySem.W.findIn K (.ref C) "__setattr__" = some (some (.builtin "object.__setattr__"))) (hno : PySem.W.findIn K (.ref C) f = some none)
    (F : FunD K "__init__" qual params body scope [] [] fI fd) (hm : mg x = none) (vV : PySem.W.findCls K (.type B) (.type "type") "__init__" = some (.val (.builtin initId)))
    (hs : scopeB ["self", f] ["self", f] scope = true) (hc : ini1B x f scope body = true) : FnOk P w K mg base CX 1 fI fd ["self", f] (sp1 C f) := by
  have sc := scopeB_ok hs
  refine F.ok sc (fun vs H Q E h => by obtain ⟨a, y, rfl, _⟩ := h; rfl) (fun cdv A outer s H vs Q E hr h => ?_)
  obtain ⟨a, yv, rfl, ha, hq⟩ := h
  unfold ini1B at hc
  split at hc
  · rename_i y p1 i p2 z p3 m j p4 pos p5 z2 q1 g q2 h q3 pos2
    simp only [Bool.and_eq_true, decide_eq_true_eq] at hc
    obtain ⟨⟨⟨⟨⟨⟨⟨⟨⟨⟨⟨rfl, rfl⟩, rfl⟩, hg⟩, hv⟩, hp⟩, rfl⟩, rfl⟩, rfl⟩, hv2⟩, hsw⟩, hpn⟩ := hc
    obtain ⟨n1, n2, n3⟩ := plainNm_ok hpn
    obtain ⟨bb, e3, e4⟩ := pureIs_ok hsw
    have e5 : bb = false := by simpa using e4
    subst e5
    have pv : ∀ p, PE (cxOf CX P w K mg base ["self", h] qual scope fI cdv A outer s H E) (.Name "self" p) (tVar 0) := fun p => pe_var (i := 0) rfl (visB_ok hv)
    have pf : PE (cxOf CX P w K mg base ["self", h] qual scope fI cdv A outer s H E) (.Name h q3) (tVar 1) := pe_var (i := 1) rfl (visB_ok hv2) n1 n2
    have ha2 : PA (cxOf CX P w K mg base ["self", h] qual scope fI cdv A outer s H E) [.Name "self" p3, .Constant (.str m) j p4] (tCons (tVar 0) (tCons (tC (.str m)) tNil)) := pa_cons (pv p3) (pa_cons pe_str pa_nil)
    have pe := pe_xinit (X := cxOf CX P w K mg base ["self", h] qual scope fI cdv A outer s H E) (p1 := p1) (p2 := p2) (pos := pos) b T (glB_ok hg) hm vV ha2 (ev_ini hp) (by rfl) (by rfl)
    have ps := ps_xst (X := cxOf CX P w K mg base ["self", h] qual scope fI cdv A outer s H E) (pos := pos2) (p' := q2) Z T sa hno (pv q1) pf ((swaps_scope _ _ _ _).trans e3)
    refine ⟨_, pss_cons (ps_expr (pos := p5) pe (swaps_call _ _ _ _ _ _)) (pss_one ps), ?_⟩
    refine ⟨.ref a, rfl, a, [.str m], rfl, ?_, ha, yv, rfl, .ref a, rfl, a, rfl, ha, fun dx n ne => hq dx n ne⟩
    show (1 : Nat) ≤ 1000
    omega
  · cases hc
theorem pmk1 {X : Cx} {CX : CXT} {x f : Str} {C fI : Addr} {k : Nat} {fd : FuncData} {y : Str} {B newId initId : String} {tl : List Value} {e : Expr} {ta : TA} {p pos : Pos} (b : BaseX y B newId initId tl) (T : ExcK X.K C fI tl newId)
    (F1 : FnOk X.prog X.w X.K X.mg X.base CX k fI fd ["self", f] (sp1 C f)) (hr : Room (k + 1) X.A) (hb : Binds X.K fd ["self", f] []) (hx : Passes CX X (fun _ _ _ => False)) (hg : Gl X x) (hm : X.mg x = some (.ref C)) (ha : PA X [e] ta)
    (hdb : (x == ("__debug__" : Str)) = false) (he : starEach [e] X.env = (false, eval e X.env) :: starEach [] X.env) :
    PMk X (.Call (.Name x p) [e] [] pos) (fun σ H Q => ta σ H fun vs H1 => ∃ v, vs = [v] ∧ ∀ d, H1 d = none → Q (.ref C) (some d) (upd H1 d (.xd [(f, v)]))) := by
  intro pins s σ H Q I h
  obtain ⟨nm, q, N, bs, sn, sub, ab, col, dd, k0, k1, k2, k3, k5, hC⟩ := T.cls
  refine wpAny_Call_Name_kw (ld_glob I hg hm ?_ hdb)
  refine PySem.W.callWith_K (h₀ := X.base) I.ok.mod.kin T.kC (thn (ha.run pos pins s σ H _ I h) fun us s1 ⟨vs, H1, I1, r1, v, ev, q1⟩ => ⟨I1.kIn, ?_⟩) he (by rfl)
  subst ev
  show wpAny _ _ (call (.ref C) us) _ _ _
  obtain ⟨hp, g, dr, tk, os⟩ := s1
  have hsz : hp.objs.size ≤ hp.objs.size + 1 := Nat.le_succ _
  have hn : H1 (hp.objs.size + 1) = none := I1.hok.fresh hsz
  have kk : ∀ b o, hp.get? b = some o → ((hp.push (PySem.W.kdv_tup us)).push (PySem.HandSPX.excO C hp.objs.size)).get? b = some o := fun b o e => Heap.get?_push_of_some _ (Heap.get?_push_of_some _ e)
  have hget : ((hp.push (PySem.W.kdv_tup us)).push (PySem.HandSPX.excO C hp.objs.size)).get? (hp.objs.size + 1) = some (PySem.HandSPX.excO C hp.objs.size) := by heap_get
  have I2 : Inv X pins σ (upd H1 (hp.objs.size + 1) (exo (hp.objs.size + 1) C none)) ⟨(hp.push (PySem.W.kdv_tup us)).push (PySem.HandSPX.excO C hp.objs.size), g, dr, tk, os⟩ :=
    I1.laid (t' := tk) (a := hp.objs.size + 1) (o := exo (hp.objs.size + 1) C none) (h' := (hp.push (PySem.W.kdv_tup us)).push (PySem.HandSPX.excO C hp.objs.size)) kk hsz (exo_ok hget)
  have r2 : Vals [V.ref (hp.objs.size + 1), v] (Value.ref (hp.objs.size + 1) :: us) := .cons rfl r1
  have hl : us.length = 1 := by rw [← Paired.length r1]; rfl
  have hus : us.length ≤ sizeLine := by
    rw [hl, sizeLine_eq]
    omega
  have hq : sp1 C f [.ref (hp.objs.size + 1), v] (upd H1 (hp.objs.size + 1) (exo (hp.objs.size + 1) C none)) (fun z H2 => z = .non ∧ ∃ (d : Addr), d ≠ hp.objs.size + 1 ∧ H1 d = none ∧ H2 = upd (upd (upd H1 (hp.objs.size + 1) (exo (hp.objs.size + 1) C none)) d (exd d [(f, v)])) (hp.objs.size + 1) (exo (hp.objs.size + 1) C (some d))) (fun _ _ _ => False) :=
    ⟨_, _, rfl, upd_same, fun dx n ne => ⟨rfl, dx, ne, by rw [upd_ne ne] at n; exact n, rfl⟩⟩
  refine wpAny_call (PySem.HandSPX.call_own b.F (fun Y => rfl) (I1.kIn _ _ hC) (PySem.W.looks_findIn I1.kIn T.ini) (fun self => PySem.W.bind_fn I1.kIn self T.tyI) hus
    (codeAny_mono (F1.run _ X.stack _ _ ⟨Value.ref (hp.objs.size + 1) :: us, []⟩ (Value.ref (hp.objs.size + 1) :: us) _ _ (fun _ _ _ => False) (hr.make C us []) (I2.env0.make C us [])
      (by have := hb _ (Value.ref (hp.objs.size + 1) :: us) I2.kIn (by simp [hl]); rw [List.append_nil] at this; exact this) r2 hq) fun r s' hq' => ?_))
  cases r with
  | error er => exact hx pins σ _ _ er s' I2 hq'
  | ok fl =>
    cases fl with
    | ret u =>
      obtain ⟨z, H2, os2, bare2, un2, hok2, rv, ev, d, dne, dn, eH⟩ := hq'
      subst ev
      subst eH
      obtain ⟨h2, g2, d2, t2, os'⟩ := s'
      have e2 : upd (del (upd (upd (upd H1 (hp.objs.size + 1) (exo (hp.objs.size + 1) C none)) d (exd d [(f, v)])) (hp.objs.size + 1) (exo (hp.objs.size + 1) C (some d))) (hp.objs.size + 1)) d (.xd [(f, v)]) = upd H1 d (.xd [(f, v)]) := by
        funext c
        by_cases h1 : c = d
        · rw [h1, upd_same, upd_same]
        · rw [upd_ne h1, upd_ne h1]
          by_cases h3 : c = hp.objs.size + 1
          · rw [h3, del_same, hn]
          · rw [del_ne h3, upd_ne h3, upd_ne h1, upd_ne h3]
      refine ⟨rv, mk_end (fs := [(f, v)]) (raises_own T.exC T.tyC) I1 hsz kk un2 hok2 os2 bare2 upd_same (by rw [upd_ne dne, upd_same]) dn ?_⟩
      rw [e2]
      exact q1 d dn
    | next => exact False.elim hq'
    | brk => exact False.elim hq'
    | cont => exact False.elim hq'
end Mi
/-! ExE: raise X(e), e.f in a suite, calls without arguments, heads. -/
namespace Mi
open PySem PySem.Spec PyProof.Rows L2

def ExcAvail1 (G : GEnv) (k : Nat) (name f : Str) : Prop :=
  ∃ (C fI : Addr) (fd : FuncData) (y : Str) (B newId initId : String) (tl : List Value), G.mg name = some (.ref C) ∧ BaseX y B newId initId tl ∧ ExcK G.K C fI tl newId ∧ FnOk G.prog G.w G.K G.mg G.base (CXof G) 1 fI fd ["self", f] (sp1 C f) ∧ Binds G.K fd ["self", f] [] ∧ 2 ≤ k
def sRaise1 (name f : Str) (a : SemE) : SemS where
  chk N sc st := match st with | .Raise (some (.Call (.Name x _) [e] [] _)) none _ => decide (x = name) && plainNm x && glB sc x && chkA [a] N sc [e] | _ => false
  req G k := ExcAvail1 G k name f ∧ reqL [a] G k
  lp := false
  wp N en st := a.wp en st (fun d st1 => N.ex ⟨name, [(f, d)]⟩ en st1) (fun x st1 => N.ex x en st1)
  mono A B en st le h := a.mono _ _ _ _ _ _ h (fun d s hd => le.ex _ _ _ hd) fun x s hx => le.ex _ _ _ hx
  sound := by
    intro G k X W st gd hfn tk hl rq hc
    split at hc
    · rename_i x p1 e p2 p3
      simp only [Bool.and_eq_true, decide_eq_true_eq] at hc
      obtain ⟨⟨⟨rfl, hn⟩, hg⟩, ha⟩ := hc
      obtain ⟨n1, n2, n3⟩ := plainNm_ok hn
      obtain ⟨⟨C, fI, fd, y, B, newId, initId, tl, hmg, b, T, F1, hb, hk⟩, rql⟩ := rq
      have base := ps_raise (pos := p3) gd.calm tk (pmk1 (CX := CXof G) (k := 1) (p := p1) (pos := p2) b (by rw [gd.K]; exact T) (by rw [gd.prog, gd.w, gd.K, gd.mg, gd.base]; exact F1) (gd.room.mono hk) (by rw [gd.K]; exact hb)
        (fun pins σ H s e s' I c => by obtain ⟨_, _, _, _, _, _, _, _, _, _, _, _, h⟩ := c; exact h.elim) (glB_ok hg) (by rw [gd.mg]; exact hmg) (pa_sound G k X W gd tk [a] [e] rql ha) n1 (chkA_star ha _))
      refine ⟨fun pins s σ H Dn I h => base.run pins s σ H Dn I ?_⟩
      obtain ⟨mu, en, st, R, h⟩ := h
      refine twa (l := [a]) R (F := fun ds st1 => ∃ d, ds = [d] ∧ (PostS G mu H Dn W).ex ⟨x, [(f, d)]⟩ en st1) (a.mono _ _ _ _ _ _ h (fun d st1 hd => ⟨d, rfl, hd⟩) fun x st' hx => PostXS.ofX R hx) fun ds st1 mu1 vs H1 hF s1 r1 q1 => ?_
      obtain ⟨d, rfl, hd⟩ := hF
      obtain ⟨v, vs', ev, rv, rn⟩ := q1
      have : vs' = [] := rn
      subst this
      subst ev
      refine ⟨v, rfl, fun dx hdx => ?_⟩
      have sx : Step mu1 H1 mu1 (upd H1 dx (.xd [(f, v)])) := Step.newV hdx
      refine hd mu1 σ (.ref C) (some dx) _ (s1.trans sx) ⟨r1.newV hdx, (R.step s1 r1).env.step sx, R.len⟩ ⟨hmg, .inr ⟨dx, [(f, v)], rfl, upd_same, fun z => r1.at z hdx, rfl, ⟨v, [], rfl, rv.step sx, rfl⟩⟩⟩
    · cases hc
def xRaise1 (name f : Str) (a : RE) : RS where
  s := sRaise1 name f a.s
  ev en st := (a.ev en st).st en fun d st1 => .ex ⟨name, [(f, d)]⟩ en st1
  ok N en st h := by
    rw [R.sat_st] at h
    exact a.ok _ _ _ _ h
  gr en st := R.gr_st (a.gr _ _) fun _ _ => Gr.refl _
/-! ### e.f -/
theorem xd_look {K : PySem.W.Frag} {mu : Mu} {H : Hp} {f : Str} : ∀ {xs : List (Str × D)} {fs : List (Str × V)} {d : D}, fs.map (·.1) = xs.map (·.1) → RVs K mu H (xs.map (·.2)) (fs.map (·.2)) → xs.lookup f = some d → ∃ v, fs.lookup f = some v ∧ RV K mu H d v
  | [], _, _, _, _, h => by cases h
  | (g, x) :: xs, [], _, e, _, _ => by cases e
  | (g, x) :: xs, (g', y) :: fs, d, e, r, h => by
    injection e with e1 e2
    have e1 : g' = g := e1
    subst e1
    obtain ⟨v, vs, ev, rv, rr⟩ := r
    injection ev with ev1 ev2
    rw [lookup_put]
    by_cases hf : f = g'
    · subst hf
      rw [List.lookup_cons_self] at h
      cases h
      rw [if_pos rfl]
      have ev1 : y = v := ev1
      exact ⟨y, rfl, by rw [ev1]; exact rv⟩
    · rw [if_neg hf]
      have hb : (f == g') = false := by simpa using hf
      rw [List.lookup, hb] at h
      exact xd_look (xs := xs) (fs := fs) e2 (by rw [ev2]; exact rr) h
def suFld (f : Str) : SuE where
  chk i N sc e := match e with | .Attribute (.Name n _) g _ => (match i with | some j => isNm N j n && visB sc n && plainNm n && decide (g = f) | none => false) | _ => false
  req G C := XfC G.K C ∧ PySem.W.findIn G.K (.ref C) f = some none
  ev x en st := R.opt (x.fs.lookup f) st
  gr _ _ _ := gr_opt
  sound := by
    intro G X i a C oe d pn e sc rq hz hf hc
    split at hc
    · rename_i n p1 g p2
      split at hc
      · rename_i j
        simp only [Bool.and_eq_true, decide_eq_true_eq] at hc
        obtain ⟨⟨⟨h1, h2⟩, h3⟩, rfl⟩ := hc
        obtain ⟨n1, n2, n3⟩ := plainNm_ok h3
        have pv : PE (X.suite a ((a, oe) :: pn)) (.Name n p1) (tVar j) := pe_var (isNm_ok h1) (visB_ok h2) n1 n2
        have base := pe_xf (X := X) (pos := p2) (C := C) (by rw [sc.K]; exact rq.1) (by rw [sc.K]; exact rq.2) hz hf pv (by rfl)
        refine ⟨fun pins s σ H Q I h => base.run pins s σ H Q I ?_⟩
        obtain ⟨mu, en, st, x, Rl, hi, hx, h⟩ := h
        obtain ⟨dv, e1, hq⟩ := R.sat_opt h
        refine ⟨.ref a, hi j rfl, rfl, rfl, ?_⟩
        rcases hx.fs with ⟨e2, _⟩ | ⟨dd, fs, q1, q2, q3, q4, q5⟩
        · rw [e2] at e1; cases e1
        · obtain ⟨v, l, rv⟩ := xd_look q4 q5 e1
          exact ⟨dd, fs, v, q1, q2, l, hq mu v H (Step.refl _ _) Rl.sto rv⟩
      · cases hc
    · cases hc
/-! ### calls without arguments -/
def eCall0 (name : Str) (S : SpecD) (d : List D) : SemE where
  chk N sc e := match e with | .Call (.Name x _) [] [] _ => decide (x = name) && plainNm x && glB sc x | _ => false
  req G k := FnAvail G k name S d
  wp en st Q E := d.length = S.ar ∧ S.run d st Q E
  mono en st Q Q' E E' h f g := ⟨h.1, S.mono _ _ _ _ _ _ h.2 f g⟩
  sound := by
    intro G k X W e gd tk rq hc
    split at hc
    · rename_i x px pos
      simp only [Bool.and_eq_true, decide_eq_true_eq] at hc
      obtain ⟨⟨rfl, hn⟩, hg⟩ := hc
      obtain ⟨p1, p2, p3⟩ := plainNm_ok hn
      obtain ⟨f, fd, ps, dvs, dvals, hmg, hkp, F, hb, hv, hr⟩ := rq
      have F := gd.fnok F
      refine ⟨fun pins s σ H Q I h => ?_⟩
      obtain ⟨mu, en, st, R, h1, h⟩ := h
      refine wpAny_Call_Name_kw (ld_glob I (glB_ok hg) (by rw [gd.mg]; exact hmg) (?_ : wpAny _ _ _ _ _ _) p1)
      refine PySem.W.callWith_K0 I.kIn (by rw [gd.K]; exact hkp) ?_
      have hsp : spOf G S dvs H Q (fun cls dd H' => W cls dd σ H') := ⟨by rw [← (hr mu H).len]; exact h1, mu, d, st, R.sto, hr mu H, S.mono _ _ _ _ _ _ h (fun _ _ h => h) fun x st' hx => hx⟩
      have hl : dvals.length = ps.length := by rw [← hv.length]; exact F.len _ _ _ _ hsp
      refine wpAny_call (codeAny_mono (F.run X.A X.stack s H ⟨[], []⟩ dvals dvs Q (fun cls dd H' => W cls dd σ H') gd.room gd.guards I.env0 (by have := hb s [] (by have := I.kIn; rw [gd.K] at this; exact this) (by simpa using hl); simpa using this) hv hsp) fun r s' hq => ?_)
      cases r with
      | error e => exact passes_at gd tk σ pins H s e s' I hq
      | ok fl =>
        cases fl with
        | ret u => exact I.after hq
        | next => exact hq.elim
        | brk => exact hq.elim
        | cont => exact hq.elim
    · cases hc
def rCall0 (name : Str) (F : FS) (df : List D) : RE where
  s := eCall0 name F.sp df
  ev en st := R.when (decide (df.length = F.ar)) (F.f df st)
  ok en st Q E h := by
    rw [R.sat_when] at h
    exact ⟨of_decide_eq_true h.1, h.2⟩
  gr en st := gr_when (F.gr _ _)
section
variable {en : Env} {st : Sto} {x : DX} {a : RE}
@[simp] theorem v_raise1 {n f : Str} : (xRaise1 n f a).ev en st = (a.ev en st).st en fun d st1 => .ex ⟨n, [(f, d)]⟩ en st1 := (rfl)
@[simp] theorem v_suFld {f : Str} : (suFld f).ev x en st = R.opt (x.fs.lookup f) st := (rfl)
@[simp] theorem v_call0 {n : Str} {F : FS} {df : List D} : (rCall0 n F df).ev en st = R.when (decide (df.length = F.ar)) (F.f df st) := (rfl)
end
/-! ### heads -/
theorem base_ValueError : BaseX "ValueError" "ValueError" "ValueError.__new__" "ValueError.__init__" [.type "ValueError", .type "Exception", .type "BaseException", .type "object"] where
  F := F.excBase_ValueError
  ty := by kernel_rfl
  stub := by decide +kernel
  hin := by decide +kernel
  boot := by decide +kernel
  nm := by decide
  db := by decide
theorem base_OverflowError : BaseX "OverflowError" "OverflowError" "OverflowError.__new__" "OverflowError.__init__" [.type "OverflowError", .type "ArithmeticError", .type "Exception", .type "BaseException", .type "object"] where
  F := F.excBase_OverflowError
  ty := by kernel_rfl
  stub := by decide +kernel
  hin := by decide +kernel
  boot := by decide +kernel
  nm := by decide
  db := by decide
theorem tail_RuntimeError : TailX [.type "RuntimeError", .type "Exception", .type "BaseException", .type "object"] := ⟨F.store_RuntimeError.passes, by decide +kernel⟩
theorem tail_ValueError : TailX [.type "ValueError", .type "Exception", .type "BaseException", .type "object"] := ⟨F.store_ValueError.passes, by decide +kernel⟩
theorem tail_OverflowError : TailX [.type "OverflowError", .type "ArithmeticError", .type "Exception", .type "BaseException", .type "object"] := ⟨F.store_OverflowError.passes, by decide +kernel⟩
def exFldB (x f : Str) (K : PySem.W.Frag) : Bool := xfB K (He.ga K x) && (decide (PySem.W.findIn K (.ref (He.ga K x)) "__setattr__" = some (some (.builtin "object.__setattr__"))) && decide (PySem.W.findIn K (.ref (He.ga K x)) f = some none))
structure ExFld (x f : Str) (K : PySem.W.Frag) : Prop where
  xf : XfC K (He.ga K x)
  sa : PySem.W.findIn K (.ref (He.ga K x)) "__setattr__" = some (some (.builtin "object.__setattr__"))
  no : PySem.W.findIn K (.ref (He.ga K x)) f = some none
theorem exFldB_ok {x f : Str} {K : PySem.W.Frag} (h : exFldB x f K = true) : ExFld x f K := by
  obtain ⟨h1, h⟩ := Bool.and_eq_true_iff.mp h
  obtain ⟨h2, h3⟩ := Bool.and_eq_true_iff.mp h
  exact ⟨xfB_ok h1, of_decide_eq_true h2, of_decide_eq_true h3⟩
theorem exc_avail1 {G : GEnv} {k : Nat} {name y f qual : Str} {B newId initId : String} {tl : List Value} {st : Stmt} {fd : FuncData} (b : BaseX y B newId initId tl) (Z : TailX tl) (e : ExAll name B newId initId tl G.K) (ef : ExFld name f G.K) (hm : G.mg name = some (.ref (He.ga G.K name))) (hz : G.mg y = none)
    (F : FunD G.K "__init__" qual (defArgs st) (defBody st) (defScope st) [] [] (He.ma G.K (He.ga G.K name) "__init__") fd) (hs : scopeB ["self", f] ["self", f] (defScope st) = true) (hc : ini1B y f (defScope st) (defBody st) = true) (hb : Binds G.K fd ["self", f] []) (hk : 2 ≤ k) : ExcAvail1 G k name f :=
  ⟨_, _, fd, y, B, newId, initId, tl, hm, b, e.k, ini1_ok b Z e.k ef.sa ef.no F hz e.f hs hc, hb, hk⟩
end Mi
/-! PgK: what an action leaves is well-shaped; lots beside one another. -/
namespace Mi
open PySem PySem.Spec PyProof.Rows L2

theorem act_ok {lanes letters m : Nat} {a : Act} {ws ws2 : List (List Int)} (ha : OkAct lanes letters a) (hw : ∀ w ∈ ws, w.length ≤ m ∧ ∀ l ∈ w, 0 ≤ l ∧ l < letters) (h : actOn a ws = some ws2) : ws2.length = ws.length ∧ ∀ w ∈ ws2, w.length ≤ m + 1 ∧ ∀ l ∈ w, 0 ≤ l ∧ l < (letters : Int) := by
  have up : ∀ w ∈ ws, w.length ≤ m + 1 ∧ ∀ l ∈ w, 0 ≤ l ∧ l < (letters : Int) := fun w h => ⟨by have := (hw w h).1; omega, (hw w h).2⟩
  have put : ∀ (i : Nat) (v : List Int), (v.length ≤ m + 1 ∧ ∀ l ∈ v, 0 ≤ l ∧ l < (letters : Int)) → (ws.set i v).length = ws.length ∧ ∀ w ∈ ws.set i v, w.length ≤ m + 1 ∧ ∀ l ∈ w, 0 ≤ l ∧ l < (letters : Int) := fun i v hv => ⟨by simp, fun w h => (mem_set h).elim (up w) fun e => e ▸ hv⟩
  have gd : ∀ i, (ws.getD i []).length ≤ m ∧ ∀ l ∈ ws.getD i [], 0 ≤ l ∧ l < (letters : Int) := fun i => by
    rw [List.getD_eq_getElem?_getD]
    cases e : ws[i]? with
    | none => simp
    | some w => exact hw w (List.mem_of_getElem? e)
  cases a with
  | rest => cases h; exact ⟨rfl, up⟩
  | test i =>
    rw [actOn] at h
    split at h
    · cases h; exact ⟨rfl, up⟩
    · cases h
  | send i l =>
    cases h
    refine put i _ ⟨by have := (gd i).1; simp; simp at this; omega, fun x hx => ?_⟩
    rcases List.mem_append.mp hx with e | e
    · exact (gd i).2 x e
    · rw [List.mem_singleton.mp e]; exact ha.2
  | take i l =>
    rw [actOn] at h
    have g := gd i
    generalize ws.getD i [] = w at *
    cases w with
    | nil => cases h
    | cons b r =>
      dsimp only at h
      split at h
      · cases h
        exact put i _ ⟨by have := g.1; simp at this; omega, fun x hx => g.2 x (List.mem_cons_of_mem _ hx)⟩
      · cases h
theorem after_ok {mm m : Nat} {p : Pro} {x y : Lt} {k i : Nat} (hp : OkPro mm p) (hx : OkLot p m x) (h : aftV p x k i = some y) : OkLot p (m + 1) y := by
  unfold aftV at h
  cases hs : stpAt p k i with
  | none => rw [hs] at h; cases h
  | some s =>
    rw [hs, Option.bind_some] at h
    obtain ⟨mc, h1, h2, ok⟩ := stp_ok hp hs
    split at h
    · cases hb : actOn s.act x.ws with
      | none => rw [hb] at h; cases h
      | some ws =>
        rw [hb] at h
        cases h
        obtain ⟨b1, b2⟩ := act_ok ok.act hx.ws hb
        refine ⟨by show (x.pl.set k s.there).length = _; rw [List.length_set]; exact hx.len, fun j a m' e1 e2 => ?_, b1.trans hx.wl, b2⟩
        have e1 : (x.pl.set k s.there)[j]? = some a := e1
        by_cases hj : k = j
        · subst hj
          have hl : k < x.pl.length := by rw [hx.len]; exact (List.getElem?_eq_some_iff.mp h1).1
          rw [List.getElem?_set_self hl] at e1
          cases e1
          rw [h1] at e2
          cases e2
          exact ok.there
        · rw [List.getElem?_set_ne hj] at e1
          exact hx.pl j a m' e1 e2
    · cases h
@[simp] theorem k_lot {x : Lt} {st : Sto} : lookD st (lotD x) = lotD x := (rfl)
@[simp] theorem k_pro {x : Pro} {st : Sto} : lookD st (proD x) = proD x := (rfl)
theorem eq_lot_nil {neg : Bool} {y : Lt} {st : Sto} : evEq neg (.lst [lotD y]) (.lst []) st = .ok (.bl (neg != false)) st := by
  rw [eq_lst, show lookD st (.lst []) = .lst [] from rfl, isE_eq (ds := [lotD y]) (by simp [okDs, ok_lot]), show shp (.lst []) = true by decide +kernel, shp_of (d := .lst [lotD y]) (by simp [canD, canDs, can_lot]) (by
    have := (key_of_sh _ _ (sh_lot y).1).2
    have h : shLot.dep ≤ 8 := by decide
    simp [dpD, dpDs]; omega)]
  rfl
theorem eq_nil_nil {neg : Bool} {st : Sto} : evEq neg (.lst []) (.lst []) st = .ok (.bl (neg != true)) st := by
  rw [eq_lst, show lookD st (.lst []) = .lst [] from rfl, isE_eq (ds := []) (by simp [okDs]), show shp (.lst []) = true by decide +kernel]
  rfl

theorem pair_small {mm : Nat} {p : Pro} {k : Nat × Nat} (hp : OkPro mm p) (h : k ∈ pairsOf p) : k.1 < 3 ∧ k.2 < mm := by
  obtain ⟨s, hs⟩ := Option.isSome_iff_exists.mp (mem_pairs h)
  obtain ⟨mc, h1, h2, ok⟩ := stp_ok hp hs
  have a := (List.getElem?_eq_some_iff.mp h1).1
  have b := (List.getElem?_eq_some_iff.mp h2).1
  have c := (hp.ms mc (List.mem_of_getElem? h1)).len
  have d := hp.m2
  omega
theorem rp_pairs {mm : Nat} {p : Pro} (hp : OkPro mm p) (hmm : mm ≤ 60) {l : List (Nat × Nat)} (h : ∀ k ∈ l, k ∈ pairsOf p) (hl : l.length ≤ 180) : Rp 2 10000 (.tup (l.map pairD2)) :=
  (rp_tup (k := 1) (c := 34) (n := 180) (fun d hd => by
    obtain ⟨k, hk, rfl⟩ := List.mem_map.mp hd
    have := pair_small hp (h k hk)
    exact rp_tup (k := 0) (c := 13) (n := 2) (mem2 (rp_int (by omega)) (rp_int (by omega))) (by simp)) (by simpa using hl)).le (by omega) (by omega)
theorem OkLot.fit {mm m : Nat} {p : Pro} {x : Lt} {y : Lt} (hp : OkPro mm p) (hx : OkLot p m x) (hl : y.ws.length = x.ws.length) (hm : m ≤ 1000) (hy : ∀ w ∈ y.ws, w.length ≤ 1000) : Fit x y ∧ Fit y x := by
  have h1 := hx.wl
  have h2 := hp.l2
  have hw : ∀ w ∈ x.ws, w.length ≤ 90000 := fun w h => by have := (hx.ws w h).1; omega
  have hw' : ∀ w ∈ y.ws, w.length ≤ 90000 := fun w h => by have := hy w h; omega
  exact ⟨⟨hl.symm, by omega, hw, hw'⟩, ⟨hl, by omega, hw', hw⟩⟩
end Mi
/-! K11P: plain: some lot below leads above another one exactly if .. the step back. -/
namespace Mi
open PySem PySem.Spec PyProof.Rows L2

theorem wis_iff : ∀ (ws vs : List (List Int)), wis ws vs = true ↔ ws.length = vs.length ∧ ∀ i : Nat, Sb (ws.getD i []) (vs.getD i [])
  | [], [] => ⟨fun _ => ⟨rfl, fun i => by simp; exact .nil⟩, fun _ => rfl⟩
  | [], _ :: _ => ⟨fun h => by simp [wis] at h, fun h => by simp at h⟩
  | _ :: _, [] => ⟨fun h => by simp [wis] at h, fun h => by simp at h⟩
  | w :: ws, v :: vs => by
    rw [wis, Bool.and_eq_true, wi_iff, wis_iff ws vs]
    constructor
    · rintro ⟨h1, h2, h3⟩
      refine ⟨by simp [h2], fun i => ?_⟩
      cases i with
      | zero => simpa using h1
      | succ i => simpa using h3 i
    · rintro ⟨h1, h2⟩
      exact ⟨by simpa using h2 0, by simpa using h1, fun i => by simpa using h2 (i + 1)⟩
theorem Sb.app {o r : List Int} (l : Int) (h : Sb o r) : Sb o (r ++ [l]) := by
  induction h with
  | nil => exact Sb.empty _
  | skip b _ ih => exact .skip b ih
  | keep hab _ ih => exact .keep hab ih
theorem Sb.snoc {o r : List Int} {x l : Int} (h : Sb o r) (hx : x ≤ l) : Sb (o ++ [x]) (r ++ [l]) := by
  induction h with
  | nil => exact .keep hx .nil
  | skip b _ ih => exact .skip b ih
  | keep hab _ ih => exact .keep hab ih
theorem Sb.unsnoc {l : Int} : ∀ {r o : List Int}, Sb o (r ++ [l]) → Sb o r ∨ ∃ o' x, o = o' ++ [x] ∧ x ≤ l ∧ Sb o' r
  | [], o, h => by
    cases h with
    | skip _ h => exact .inl h
    | keep hab h =>
      cases h
      exact .inr ⟨[], _, rfl, hab, .nil⟩
  | b :: r, o, h => by
    cases h with
    | skip _ h =>
      rcases Sb.unsnoc h with q | ⟨o', x, e, hx, q⟩
      · exact .inl (.skip b q)
      · exact .inr ⟨o', x, e, hx, .skip b q⟩
    | keep hab h =>
      rcases Sb.unsnoc h with q | ⟨o', x, e, hx, q⟩
      · exact .inl (.keep hab q)
      · subst e
        exact .inr ⟨_ :: o', x, rfl, hx, .keep hab q⟩
theorem Sb.init : ∀ o : List Int, Sb o.dropLast o
  | [] => .nil
  | [a] => .skip a .nil
  | a :: b :: o => .keep (Int.le_refl _) (Sb.init (b :: o))
/-- what is left of a word when a letter at its end is given back -/
def cutL (o : List Int) (l : Int) : List Int := match o.getLast? with
  | some x => if x ≤ l then o.dropLast else o
  | none => o
theorem cut_iff {o r : List Int} {l : Int} : Sb o (r ++ [l]) ↔ Sb (cutL o l) r := by
  unfold cutL
  cases h : o.getLast? with
  | none =>
    have : o = [] := List.getLast?_eq_none_iff.mp h
    subst this
    exact ⟨fun _ => Sb.empty _, fun _ => Sb.empty _⟩
  | some x =>
    obtain ⟨o', rfl⟩ : ∃ o', o = o' ++ [x] := List.getLast?_eq_some_iff.mp h
    dsimp only
    by_cases hx : x ≤ l
    · rw [if_pos hx, List.dropLast_concat]
      refine ⟨fun h => ?_, fun h => h.snoc hx⟩
      rcases h.unsnoc with q | ⟨o2, x2, e, _, q⟩
      · have := Sb.init (o' ++ [x])
        rw [List.dropLast_concat] at this
        exact this.trans q
      · have := List.append_inj' e rfl
        rw [this.1]
        exact q
    · rw [if_neg hx]
      refine ⟨fun h => ?_, fun h => h.app l⟩
      rcases h.unsnoc with q | ⟨o2, x2, e, hx2, q⟩
      · exact q
      · have := List.append_inj' e rfl
        have e2 : x = x2 := by simpa using this.2
        exact absurd (e2 ▸ hx2) hx
theorem getD_set {ws : List (List Int)} {i j : Nat} {v : List Int} (hi : i < ws.length) : (ws.set i v).getD j [] = if j = i then v else ws.getD j [] := by
  rw [List.getD_eq_getElem?_getD, List.getD_eq_getElem?_getD]
  by_cases h : j = i
  · subst h
    rw [List.getElem?_set_self hi, if_pos rfl]
    rfl
  · rw [List.getElem?_set_ne (Ne.symm h), if_neg h]
def NN (ws : List (List Int)) : Prop := ∀ w ∈ ws, ∀ l ∈ w, (0 : Int) ≤ l
theorem NN.set {ws : List (List Int)} (h : NN ws) {i : Nat} {v : List Int} (hv : ∀ l ∈ v, (0 : Int) ≤ l) : NN (ws.set i v) := fun w hw => (mem_set hw).elim (h w) fun e => by rw [e]; exact hv
theorem NN.getD {ws : List (List Int)} (h : NN ws) (i : Nat) : ∀ l ∈ ws.getD i [], (0 : Int) ≤ l := by
  rw [List.getD_eq_getElem?_getD]
  cases e : ws[i]? with
  | none => simp
  | some w => exact h w (List.mem_of_getElem? e)
theorem bk_send {o : List (List Int)} {i : Nat} {l : Int} (hi : i < o.length) : ∃ b, bkWords (.send i l) o = some b ∧ b.length = o.length ∧ ∀ j : Nat, b.getD j [] = if j = i then cutL (o.getD i []) l else o.getD j [] := by
  refine ⟨_, rfl, ?_, fun j => ?_⟩
  · cases (o.getD i []).getLast? with
    | none => rfl
    | some x => dsimp only; split <;> simp
  · unfold cutL
    cases h : (o.getD i []).getLast? with
    | none =>
      dsimp only
      by_cases hj : j = i
      · rw [if_pos hj, hj]
      · rw [if_neg hj]
    | some x =>
      dsimp only
      by_cases hx : x ≤ l
      · rw [if_pos hx, if_pos hx, getD_set hi]
      · rw [if_neg hx, if_neg hx]
        by_cases hj : j = i
        · rw [if_pos hj, hj]
        · rw [if_neg hj]
theorem act_back {lanes letters : Nat} {a : Act} {o ws : List (List Int)} (ha : OkAct lanes letters a) (ho : o.length = lanes) (hw : ws.length = lanes) (no : NN o) (nw : NN ws) :
    (∃ row, wis row ws = true ∧ NN row ∧ ∃ ys, actOn a row = some ys ∧ wis o ys = true) ↔ ∃ b, bkWords a o = some b ∧ wis b ws = true := by
  cases a with
  | rest =>
    constructor
    · rintro ⟨row, h1, _, ys, h2, h3⟩
      cases h2
      refine ⟨o, rfl, ?_⟩
      rw [wis_iff] at *
      exact ⟨h3.1.trans h1.1, fun i => (h3.2 i).trans (h1.2 i)⟩
    · rintro ⟨b, h1, h2⟩
      cases h1
      exact ⟨ws, (wis_iff _ _).mpr ⟨rfl, fun i => Sb.refl _⟩, nw, ws, rfl, h2⟩
  | send i l =>
    have hi : i < lanes := ha.1
    obtain ⟨b, e1, e2, e3⟩ := bk_send (l := l) (show i < o.length by omega)
    constructor
    · rintro ⟨row, h1, _, ys, h2, h3⟩
      rw [wis_iff] at h1 h3
      have hr : i < row.length := by rw [h1.1]; omega
      have h2 : row.set i (row.getD i [] ++ [l]) = ys := Option.some.inj h2
      subst h2
      refine ⟨b, e1, (wis_iff _ _).mpr ⟨by omega, fun j => ?_⟩⟩
      have q := h3.2 j
      rw [getD_set hr] at q
      rw [e3]
      by_cases hj : j = i
      · rw [if_pos hj] at q ⊢
        rw [hj] at q ⊢
        exact (cut_iff.mp q).trans (h1.2 i)
      · rw [if_neg hj] at q ⊢
        exact q.trans (h1.2 j)
    · rintro ⟨b', h1, h2⟩
      rw [e1] at h1
      cases h1
      rw [wis_iff] at h2
      have hr : i < ws.length := by omega
      refine ⟨ws, (wis_iff _ _).mpr ⟨rfl, fun i => Sb.refl _⟩, nw, _, rfl, (wis_iff _ _).mpr ⟨by simp; omega, fun j => ?_⟩⟩
      have q := h2.2 j
      rw [e3] at q
      rw [getD_set hr]
      by_cases hj : j = i
      · rw [if_pos hj] at q ⊢
        rw [hj] at q ⊢
        exact cut_iff.mpr q
      · rw [if_neg hj] at q ⊢
        exact q
  | take i l =>
    have hi : i < lanes := ha.1
    have hio : i < o.length := by omega
    have hiw : i < ws.length := by omega
    constructor
    · rintro ⟨row, h1, _, ys, h2, h3⟩
      rw [wis_iff] at h1 h3
      have hr : i < row.length := by rw [h1.1]; omega
      rw [actOn] at h2
      refine ⟨_, rfl, (wis_iff _ _).mpr ⟨by simp; omega, fun j => ?_⟩⟩
      rw [getD_set hio]
      have q1 := h1.2 i
      generalize row.getD i [] = w at h2 q1
      cases w with
      | nil => cases h2
      | cons x r =>
        dsimp only at h2
        split at h2
        · rename_i hx
          cases h2
          have q := h3.2 j
          rw [getD_set hr] at q
          by_cases hj : j = i
          · rw [if_pos hj] at q ⊢
            rw [hj] at q ⊢
            rw [hx] at q1
            exact (Sb.keep (Int.le_refl _) q).trans q1
          · rw [if_neg hj] at q ⊢
            exact q.trans (h1.2 j)
        · cases h2
    · rintro ⟨b, h1, h2⟩
      cases h1
      rw [wis_iff] at h2
      refine ⟨ws.set i (l :: o.getD i []), (wis_iff _ _).mpr ⟨by simp, fun j => ?_⟩, nw.set fun y hy => ?_, (ws.set i (l :: o.getD i [])).set i (o.getD i []), ?_, (wis_iff _ _).mpr ⟨by simp; omega, fun j => ?_⟩⟩
      · have q := h2.2 j
        rw [getD_set hio] at q
        rw [getD_set hiw]
        by_cases hj : j = i
        · rw [if_pos hj] at q ⊢
          exact q
        · rw [if_neg hj]
          exact Sb.refl _
      · rcases List.mem_cons.mp hy with e | e
        · rw [e]; exact ha.2.1
        · exact no.getD i y e
      · rw [actOn, getD_set hiw, if_pos rfl]
        simp
      · have q := h2.2 j
        rw [getD_set hio] at q
        rw [getD_set (by simpa using hiw), getD_set hiw]
        by_cases hj : j = i
        · rw [if_pos hj, hj]
          exact Sb.refl _
        · rw [if_neg hj] at q ⊢
          rw [if_neg hj]
          exact q
  | test i =>
    have hi : i < lanes := ha
    have hiw : i < ws.length := by omega
    have emp : ∀ w : List Int, Sb w [] → w = [] := fun w h => by cases h; rfl
    constructor
    · rintro ⟨row, h1, _, ys, h2, h3⟩
      rw [wis_iff] at h1
      rw [actOn] at h2
      split at h2
      · rename_i hr
        cases h2
        rw [wis_iff] at h3
        have q := h3.2 i
        rw [hr] at q
        exact ⟨o, by rw [bkWords, if_pos (emp _ q)], (wis_iff _ _).mpr ⟨h3.1.trans h1.1, fun j => (h3.2 j).trans (h1.2 j)⟩⟩
      · cases h2
    · rintro ⟨b, h1, h2⟩
      rw [bkWords] at h1
      split at h1
      · rename_i hb
        cases h1
        rw [wis_iff] at h2
        refine ⟨ws.set i [], (wis_iff _ _).mpr ⟨by simp, fun j => ?_⟩, nw.set fun y hy => (by cases hy), ws.set i [], ?_, (wis_iff _ _).mpr ⟨by simp; omega, fun j => ?_⟩⟩
        · rw [getD_set hiw]
          by_cases hj : j = i
          · rw [if_pos hj]; exact Sb.empty _
          · rw [if_neg hj]; exact Sb.refl _
        · rw [actOn, getD_set hiw, if_pos rfl, if_pos rfl]
        · rw [getD_set hiw]
          by_cases hj : j = i
          · rw [if_pos hj, hj, hb]; exact .nil
          · rw [if_neg hj]; exact h2.2 j
      · cases h1

theorem OkLot.nn {p : Pro} {m : Nat} {x : Lt} (h : OkLot p m x) : NN x.ws := fun w hw l hl => ((h.ws w hw).2 l hl).1
/-- some lot below x, by losses alone, leads above o exactly if x is above the step back of o -/
theorem leads_back {mm m : Nat} {p : Pro} {o x : Lt} {k i : Nat} {s : Stp} (hp : OkPro mm p) (ho : OkLot p m o) (hxl : x.pl.length = p.ms.length) (hxw : x.ws.length = p.lanes) (hx0 : NN x.ws) (hs : stpAt p k i = some s) :
    (∃ row, wis row x.ws = true ∧ NN row ∧ ∃ y, aftV p ⟨x.pl, row⟩ k i = some y ∧ ab y o = true) ↔ ∃ b, backV p o k i = some b ∧ ab x b = true := by
  obtain ⟨mc, h1, h2, ok⟩ := stp_ok hp hs
  have hk : k < p.ms.length := (List.getElem?_eq_some_iff.mp h1).1
  have hkx : k < x.pl.length := by omega
  have hol := ho.len
  have hko : k < o.pl.length := by omega
  have key := act_back (o := o.ws) (ws := x.ws) ok.act ho.wl hxw ho.nn hx0
  constructor
  · rintro ⟨row, r1, r2, y, ha, hb⟩
    unfold aftV at ha
    rw [hs, Option.bind_some] at ha
    split at ha
    · rename_i hh
      obtain ⟨ys, hy, rfl⟩ := Option.map_eq_some_iff.mp ha
      simp only [ab, Bool.and_eq_true, decide_eq_true_eq] at hb
      obtain ⟨b, e1, e2⟩ := key.mp ⟨row, r1, r2, ys, hy, hb.2⟩
      have hpl : x.pl.set k s.there = o.pl := hb.1
      have hh : x.pl[k]? = some s.here := hh
      refine ⟨⟨o.pl.set k s.here, b⟩, ?_, ?_⟩
      · unfold backV
        rw [hs, Option.bind_some, ← hpl, List.getElem?_set_self hkx, if_pos rfl, e1]
        rfl
      · simp only [ab, Bool.and_eq_true, decide_eq_true_eq]
        refine ⟨?_, e2⟩
        rw [← hpl, List.set_set]
        obtain ⟨h3, h4⟩ := List.getElem?_eq_some_iff.mp hh
        rw [← h4, List.set_getElem_self]
    · cases ha
  · rintro ⟨b, hb, hab⟩
    unfold backV at hb
    rw [hs, Option.bind_some] at hb
    split at hb
    · rename_i ht
      obtain ⟨bw, hy, rfl⟩ := Option.map_eq_some_iff.mp hb
      simp only [ab, Bool.and_eq_true, decide_eq_true_eq] at hab
      obtain ⟨row, r1, r2, ys, e1, e2⟩ := key.mpr ⟨bw, hy, hab.2⟩
      have hpl : x.pl = o.pl.set k s.here := hab.1
      refine ⟨row, r1, r2, ⟨x.pl.set k s.there, ys⟩, ?_, ?_⟩
      · unfold aftV
        rw [hs, Option.bind_some]
        show (if x.pl[k]? = some s.here then _ else _) = _
        rw [hpl, List.getElem?_set_self hko, if_pos rfl]
        show (actOn s.act row).map _ = _
        rw [e1]
        rfl
      · simp only [ab, Bool.and_eq_true, decide_eq_true_eq]
        refine ⟨?_, e2⟩
        rw [hpl, List.set_set]
        obtain ⟨h3, h4⟩ := List.getElem?_eq_some_iff.mp ht
        rw [← h4, List.set_getElem_self]
    · cases hb
/-! ### all words below one -/
def lessW : List Int → List (List Int) → List (List Int)
  | [], sm => sm
  | l :: w, sm => lessW w (sm ++ (List.range (l + 1).toNat).flatMap fun s : Nat => sm.map fun v => v ++ [(s : Int)])
theorem mem_lessW : ∀ (w : List Int) (sm : List (List Int)) (u : List Int), (∀ l ∈ w, (0 : Int) ≤ l) → (u ∈ lessW w sm ↔ ∃ v ∈ sm, ∃ r, u = v ++ r ∧ Sb r w ∧ ∀ l ∈ r, (0 : Int) ≤ l)
  | [], sm, u, _ => by
    rw [lessW]
    constructor
    · intro h
      exact ⟨u, h, [], by simp, .nil, by simp⟩
    · rintro ⟨v, hv, r, rfl, hr, _⟩
      cases hr
      simpa using hv
  | l :: w, sm, u, h => by
    rw [lessW, mem_lessW w _ u fun x hx => h x (List.mem_cons_of_mem _ hx)]
    have hl := h l List.mem_cons_self
    constructor
    · rintro ⟨v, hv, r, rfl, hr, h0⟩
      rcases List.mem_append.mp hv with q | q
      · exact ⟨v, q, r, rfl, .skip l hr, h0⟩
      · obtain ⟨s, hs, q⟩ := List.mem_flatMap.mp q
        obtain ⟨v', hv', rfl⟩ := List.mem_map.mp q
        have hs := List.mem_range.mp hs
        refine ⟨v', hv', (s : Int) :: r, by simp, .keep (by omega) hr, fun y hy => ?_⟩
        rcases List.mem_cons.mp hy with e | e
        · omega
        · exact h0 y e
    · rintro ⟨v, hv, r, rfl, hr, h0⟩
      cases hr with
      | skip _ hr => exact ⟨v, List.mem_append_left _ hv, r, rfl, hr, h0⟩
      | @keep r' _ a _ hab hr =>
        have ha := h0 a List.mem_cons_self
        refine ⟨v ++ [a], List.mem_append_right _ (List.mem_flatMap.mpr ⟨a.toNat, List.mem_range.mpr (by omega), List.mem_map.mpr ⟨v, hv, by rw [Int.toNat_of_nonneg ha]⟩⟩), r', by simp, hr, fun y hy => h0 y (List.mem_cons_of_mem _ hy)⟩
theorem mem_less (w u : List Int) (h : ∀ l ∈ w, (0 : Int) ≤ l) : u ∈ lessW w [[]] ↔ Sb u w ∧ ∀ l ∈ u, (0 : Int) ≤ l := by
  rw [mem_lessW w _ u h]
  constructor
  · rintro ⟨v, hv, r, rfl, h1, h2⟩
    rw [List.mem_singleton.mp hv]
    exact ⟨h1, h2⟩
  · rintro ⟨h1, h2⟩
    exact ⟨[], by simp, u, rfl, h1, h2⟩
end Mi
/-! K11A: _law_words, _law_all_less, _law_leads. -/
namespace Mi
open PySem PySem.Spec PyProof.Rows L2

/-- _law_words -/
def N._law_words : List Str := ["letters", "most", "found", "last", "lap", "longer", "word", "letter"]
def B._law_words : List RS := [
  xPar2 2 3 (rList false [(rTup [])]) (rList false [(rTup [])]),
  xFor (.nm 4) (jRange1 (rVar 1)) [
      xSet 5 (rList true []),
      xFor (.nm 6) (jSeq (rVar 3)) [
        xExp (rMeth1 nExtend (rVar 5) (rComp false (.nm 7) [("letter", 7)] (jRange1 (rVar 0)) none (rBin .Add (oAdd false) (rVar 6) (rTup [(rVar 7)]))))],
      xPar2 2 3 (rBin .Add (oAdd false) (rVar 2) (rVar 5)) (rVar 5)],
  xRet (rVar 2)]
def F._law_words : FS := mkF 2 0 8 B._law_words
@[simp] theorem F.ar_law_words : F._law_words.ar = 2 := (rfl)
/-- _law_all_less -/
def N._law_all_less : List Str := ["lot", "rows", "word", "some", "letter", "newer", "smaller", "less", "longer", "row"]
def B._law_all_less : List RS := [
  xSet 1 (rList false [(rTup [])]),
  xFor (.nm 2) (jSeq (rIx (rVar 0) (rInt 1))) [
      xSet 3 (rList false [(rTup [])]),
      xFor (.nm 4) (jSeq (rVar 2)) [
        xSet 5 (rB (kList false) [(rVar 3)]),
        xFor (.nm 6) (jRange1 (rBin .Add (oAdd false) (rVar 4) (rInt 1))) [
          xSet 5 (rBin .Add (oAdd false) (rVar 5) (rComp false (.nm 7) [("less", 7)] (jSeq (rVar 3)) none (rBin .Add (oAdd false) (rVar 7) (rTup [(rVar 6)]))))],
        xSet 3 (rVar 5)],
      xSet 8 (rList true []),
      xFor (.nm 9) (jSeq (rVar 1)) [
        xExp (rMeth1 nExtend (rVar 8) (rComp false (.nm 7) [("less", 7)] (jSeq (rSortSet false (rVar 3))) none (rBin .Add (oAdd false) (rVar 9) (rTup [(rVar 7)]))))],
      xSet 1 (rVar 8)],
  xRet (rComp false (.nm 9) [("row", 9)] (jSeq (rVar 1)) none (rTup [(rIx (rVar 0) (rInt 0)), (rVar 9)]))]
def F._law_all_less : FS := mkF 1 0 10 B._law_all_less
@[simp] theorem F.ar_law_all_less : F._law_all_less.ar = 1 := (rfl)
/-- _law_leads -/
def N._law_leads : List Str := ["program", "lot", "pair", "other", "less", "after"]
def B._law_leads : List RS := [
  xFor (.nm 4) (jSeq (rCall "_law_all_less" F._law_all_less [] [(rVar 1)])) [
      xSet 5 (rCall "_law_after" F._law_after [] [(rVar 0), (rVar 4), (rIx (rVar 2) (rInt 0)), (rIx (rVar 2) (rInt 1))]),
      xIf (qAn [(qCm .NotEq oNe (rVar 5) (rList false [])), (tV' (rCall "_law_stands_above" F._law_stands_above [] [(rIx (rVar 5) (rInt 0)), (rVar 3)]))]) [
        xRet (rBl true)] []],
  xRet (rBl false)]
def F._law_leads : FS := mkF 4 0 6 B._law_leads
@[simp] theorem F.ar_law_leads : F._law_leads.ar = 4 := (rfl)

/-- one letter more -/
def oneL (l : Int) (sm : List (List Int)) (j : Nat) : List (List Int) := sm ++ (List.range j).flatMap fun s : Nat => sm.map fun v => v ++ [(s : Int)]
theorem oneL_succ (l : Int) (sm : List (List Int)) (j : Nat) : oneL l sm (j + 1) = oneL l sm j ++ sm.map fun v => v ++ [(j : Int)] := by
  simp [oneL, List.range_succ, List.flatMap_append]
theorem oneL_len (l : Int) (sm : List (List Int)) (j : Nat) : (oneL l sm j).length = sm.length * (j + 1) := by
  induction j with
  | zero => simp [oneL]
  | succ j ih => rw [oneL_succ, List.length_append, ih, List.length_map, Nat.mul_succ (sm.length) (j + 1)]
theorem lessW_cons (l : Int) (w : List Int) (sm : List (List Int)) : lessW (l :: w) sm = lessW w (oneL l sm (l + 1).toNat) := rfl
@[simp] theorem it_words {ws : List (List Int)} {st : Sto} : itSeq (wordsD ws) st = .ok (ws.map wordD, fun _ => true) st := (rfl)
theorem ck_true {ds : List D} {xs : List D} : ckSeq (.lst ds) xs = fun _ => true := (rfl)
def IvS (x : D) (x1 x2 x8 x9 : Option D) (sm : List (List Int)) (l : Int) (s0 : Sto) (j : Nat) (en : Env) (s : Sto) : Prop := s = s0 ∧ ∃ x6 x7 : Option D, en = [some x, x1, x2, some (.lst (sm.map wordD)), some (.int l), some (.lst ((oneL l sm j).map wordD)), x6, x7, x8, x9]
/-- the loop over a word's letters -/
theorem less_loop {x : D} {x1 x2 x8 x9 : Option D} {s : Sto} : ∀ (w : List Int) (sm : List (List Int)) (x4 x5 x6 x7 : Option D) (N : EndsD), (∀ l ∈ w, 0 ≤ l ∧ l < 3) → sm.length * 4 ^ w.length ≤ 64 → (∀ v ∈ sm, v.length + w.length ≤ 1000) →
    (∀ x4 x5 x6 x7, N.nx [some x, x1, x2, some (.lst ((lessW w sm).map wordD)), x4, x5, x6, x7, x8, x9] s) →
    (forE (.nm 4) (evB [
        xSet 5 (rB (kList false) [(rVar 3)]),
        xFor (.nm 6) (jRange1 (rBin .Add (oAdd false) (rVar 4) (rInt 1))) [
          xSet 5 (rBin .Add (oAdd false) (rVar 5) (rComp false (.nm 7) [("less", 7)] (jSeq (rVar 3)) none (rBin .Add (oAdd false) (rVar 7) (rTup [(rVar 6)]))))],
        xSet 3 (rVar 5)]) (fun _ => true) (Is w) [some x, x1, x2, some (.lst (sm.map wordD)), x4, x5, x6, x7, x8, x9] s).sat N
  | [], sm, x4, x5, x6, x7, N, h1, h2, hv0, h3 => by
    have := h3 x4 x5 x6 x7
    simpa [forE, lessW] using this
  | l :: w, sm, x4, x5, x6, x7, N, h1, h2, hv0, h3 => by
    have hl := h1 l List.mem_cons_self
    have hsl : sm.length ≤ 64 := by
      have : 1 ≤ 4 ^ (l :: w).length := Nat.one_le_pow _ _ (by omega)
      calc sm.length = sm.length * 1 := by omega
        _ ≤ sm.length * 4 ^ (l :: w).length := Nat.mul_le_mul_left _ this
        _ ≤ 64 := h2
    simp [forE, v_for]
    refine ⟨b62_of (by omega) (by omega), ?_⟩
    refine forE_inv _ (IvS x x1 x2 x8 x9 sm l s) ⟨rfl, x6, x7, by simp [oneL]⟩ (fun _ _ _ _ => rfl) ?_ ?_
    · rintro j d en s' hd ⟨rfl, y6, y7, rfl⟩
      obtain ⟨hj, rfl⟩ := rng_get hd
      have hj : j < 3 := by omega
      refine ⟨_, p_nm, ?_⟩
      simp [v_comp]
      refine ⟨szB_of (by omega), ?_⟩
      rw [compE_f wordD (fun v => wordD (v ++ [(j : Int)])) rfl sm fun v hv => ⟨_, p_nm, by
        have hz : szB (v.length + 1) = true := szB_of (by have := hv0 v hv; simp at this; omega)
        simp [hz]⟩]
      have hz2 : szB ((oneL l sm j).length + sm.length) = true := szB_of (by
        rw [oneL_len]
        have := Nat.mul_le_mul hsl (show j + 1 ≤ 3 by omega)
        omega)
      simp [hz2]
      exact ⟨rfl, _, _, by rw [oneL_succ]; simp; exact ⟨rfl, rfl⟩⟩
    · rintro en s' ⟨rfl, y6, y7, rfl⟩
      rw [rng_len]
      simp
      have := less_loop (x1 := x1) (x2 := x2) (x8 := x8) (x9 := x9) (s := s') w (oneL l sm (l + 1).toNat) (some (.int l)) (some (.lst ((oneL l sm (l + 1).toNat).map wordD))) y6 y7 N (fun y hy => h1 y (List.mem_cons_of_mem _ hy)) (by
        rw [oneL_len]
        have e : (l :: w).length = w.length + 1 := rfl
        rw [e, Nat.pow_succ] at h2
        calc sm.length * ((l + 1).toNat + 1) * 4 ^ w.length ≤ sm.length * 4 * 4 ^ w.length := Nat.mul_le_mul_right _ (Nat.mul_le_mul_left _ (by omega))
          _ = sm.length * (4 ^ w.length * 4) := by rw [Nat.mul_assoc, Nat.mul_comm 4]
          _ ≤ 64 := h2) (fun v hv => by
        rcases List.mem_append.mp hv with q | q
        · have := hv0 v q; simp at this; omega
        · obtain ⟨c, _, q⟩ := List.mem_flatMap.mp q
          obtain ⟨v', hv', rfl⟩ := List.mem_map.mp q
          have := hv0 v' hv'
          simp at this ⊢
          omega) h3
      simpa using this

theorem sh_word (w : List Int) : hasSh (.row .int) (wordD w) = true ∧ tupNe (wordD w) = true := by
  refine ⟨?_, rfl⟩
  simp [wordD, hasSh]
theorem shok_words (l : List (List Int)) : shOkB (l.map wordD) = true := shOkB_of (σ := .row .int) (by simp [shapesK]) fun d hd => by
  obtain ⟨x, _, rfl⟩ := List.mem_map.mp hd
  exact sh_word x
theorem sort_words (xs : List (List Int)) : ∃ ys : List (List Int), sortD (xs.map wordD) = ys.map wordD ∧ ys.length ≤ xs.length ∧ ∀ y, y ∈ ys ↔ y ∈ xs := by
  obtain ⟨ys, e, h1, h2, _⟩ := sort_map (fun w => (sh_word w).1) xs
  refine ⟨ys, e, h1, fun y => ⟨h2 y, fun h => ?_⟩⟩
  have hm : wordD y ∈ sortD (xs.map wordD) := (mem_sortD (fun d hd => by
    obtain ⟨w, _, rfl⟩ := List.mem_map.mp hd
    exact ok_word w)).mpr (List.mem_map.mpr ⟨y, h, rfl⟩)
  rw [e] at hm
  obtain ⟨z, hz, ez⟩ := List.mem_map.mp hm
  rw [← word_eq.mp ez]
  exact hz
def addR (ys : List (List Int)) (v : List (List (List Int))) : List (List (List Int)) := v.flatMap fun row => ys.map fun u => row ++ [u]
theorem rows_loop {x : D} {x2 x4 x5 x6 : Option D} {d1 : D} {s : Sto} {sm ys : List (List Int)} {ck : Sto → Bool} (hsm : sm.length < 64) (hys : sortD (sm.map wordD) = ys.map wordD) (hyl : ys.length ≤ sm.length) (hck : ∀ o, ck (s ++ [o]) = true) :
    ∀ (v acc : List (List (List Int))) (x7 x9 : Option D) (N : EndsD), (∀ r ∈ v, r.length ≤ 10) → acc.length + v.length * 64 ≤ 90000 →
    (∀ x7 x9, N.nx [some x, some d1, x2, some (.lst (sm.map wordD)), x4, x5, x6, x7, some (.ref s.length), x9] (s ++ [.lst ((acc ++ addR ys v).map wordsD)])) →
    (forE (.nm 9) (evB [
        xExp (rMeth1 nExtend (rVar 8) (rComp false (.nm 7) [("less", 7)] (jSeq (rSortSet false (rVar 3))) none (rBin .Add (oAdd false) (rVar 9) (rTup [(rVar 7)]))))]) ck (v.map wordsD) [some x, some d1, x2, some (.lst (sm.map wordD)), x4, x5, x6, x7, some (.ref s.length), x9] (s ++ [.lst (acc.map wordsD)])).sat N
  | [], acc, x7, x9, N, h1, h2, h3 => by
    have := h3 x7 x9
    simpa [forE, hck, addR] using this
  | r :: v, acc, x7, x9, N, h1, h2, h3 => by
    have es := sortE_eq (shok_words sm)
    have hr := h1 r List.mem_cons_self
    have hz : szB (r.length + 1) = true := szB_of (by omega)
    have hzy : szB ys.length = true := szB_of (by omega)
    have hlen : acc.length + ys.length ≤ sizeLine := by rw [sizeLine_eq]; simp at h2; omega
    simp [forE, hck, v_comp, hsm, shok_words, es, hys, hzy]
    rw [compE_f wordD (fun u => wordsD (r ++ [u])) rfl ys fun u hu => ⟨_, p_nm, by simp [hz]⟩]
    have nrs : noRefs s.length (ys.map fun u => wordsD (r ++ [u])) = true := noRefs_all.mpr fun d hd => by
      obtain ⟨u, _, rfl⟩ := List.mem_map.mp hd
      exact nr_words
    simp [hlen, nrs]
    have := rows_loop (x := x) (x2 := x2) (x4 := x4) (x5 := x5) (x6 := x6) (d1 := d1) (s := s) (ck := ck) hsm hys hyl hck v (acc ++ ys.map fun u => r ++ [u]) x7 (some (wordsD r)) N (fun r' hr' => h1 r' (List.mem_cons_of_mem _ hr')) (by simp at h2 ⊢; omega) (fun x7 x9 => by
      have := h3 x7 x9
      simpa [addR] using this)
    simpa [Function.comp_def] using this
end Mi
/-! K11B: _law_all_less. -/
namespace Mi
open PySem PySem.Spec PyProof.Rows L2

theorem lessW_len : ∀ (w : List Int) (sm : List (List Int)), (∀ l ∈ w, 0 ≤ l ∧ l < 3) → (lessW w sm).length ≤ sm.length * 4 ^ w.length
  | [], sm, _ => by simp [lessW]
  | l :: w, sm, h => by
    have hl := h l List.mem_cons_self
    rw [lessW_cons]
    have := lessW_len w (oneL l sm (l + 1).toNat) fun y hy => h y (List.mem_cons_of_mem _ hy)
    rw [oneL_len] at this
    have e : (l :: w).length = w.length + 1 := rfl
    rw [e, Nat.pow_succ]
    calc (lessW w (oneL l sm (l + 1).toNat)).length ≤ sm.length * ((l + 1).toNat + 1) * 4 ^ w.length := this
      _ ≤ sm.length * 4 * 4 ^ w.length := Nat.mul_le_mul_right _ (Nat.mul_le_mul_left _ (by omega))
      _ = sm.length * (4 ^ w.length * 4) := by rw [Nat.mul_assoc, Nat.mul_comm 4]
theorem wis_snoc {row vs : List (List Int)} {w : List Int} : wis row (vs ++ [w]) = true ↔ ∃ r u, row = r ++ [u] ∧ wis r vs = true ∧ Sb u w := by
  induction vs generalizing row with
  | nil =>
    cases row with
    | nil => simp [wis]
    | cons a row =>
      cases row with
      | nil =>
        simp only [List.nil_append, wis, Bool.and_true, wi_iff]
        constructor
        · intro h; exact ⟨[], a, rfl, rfl, h⟩
        · rintro ⟨r, u, e, h1, h2⟩
          cases r with
          | nil => simp at e; rw [e]; exact h2
          | cons b r => simp [wis] at h1
      | cons b row =>
        simp only [List.nil_append, wis, Bool.and_false]
        constructor
        · intro h; cases h
        · rintro ⟨r, u, e, h1, h2⟩
          cases r with
          | nil => simp at e
          | cons b r => simp [wis] at h1
  | cons v vs ih =>
    cases row with
    | nil =>
      simp only [List.cons_append, wis]
      constructor
      · intro h; cases h
      · rintro ⟨r, u, e, _⟩
        simp at e
    | cons a row =>
      simp only [List.cons_append, wis, Bool.and_eq_true]
      rw [ih]
      constructor
      · rintro ⟨h1, r, u, rfl, h2, h3⟩
        exact ⟨a :: r, u, rfl, by simp [wis, h1, h2], h3⟩
      · rintro ⟨r, u, e, h1, h2⟩
        cases r with
        | nil => simp [wis] at h1
        | cons b r =>
          simp only [wis, Bool.and_eq_true] at h1
          injection e with e1 e2
          subst e1
          exact ⟨h1.1, r, u, e2, h1.2, h2⟩
theorem mem_addR {ys : List (List Int)} {v : List (List (List Int))} {row : List (List Int)} : row ∈ addR ys v ↔ ∃ r ∈ v, ∃ u ∈ ys, row = r ++ [u] := by
  unfold addR
  rw [List.mem_flatMap]
  constructor
  · rintro ⟨r, hr, h⟩
    obtain ⟨u, hu, rfl⟩ := List.mem_map.mp h
    exact ⟨r, hr, u, hu, rfl⟩
  · rintro ⟨r, hr, u, hu, rfl⟩
    exact ⟨r, hr, List.mem_map.mpr ⟨u, hu, rfl⟩⟩
theorem addR_len (ys : List (List Int)) : ∀ v : List (List (List Int)), (addR ys v).length = v.length * ys.length
  | [] => by simp [addR]
  | r :: v => by
    have := addR_len ys v
    unfold addR at this ⊢
    rw [List.flatMap_cons, List.length_append, this, List.length_map, List.length_cons, Nat.succ_mul, Nat.add_comm]
theorem nn_snoc {r : List (List Int)} {u : List Int} : NN (r ++ [u]) ↔ NN r ∧ ∀ l ∈ u, (0 : Int) ≤ l := by
  unfold NN
  constructor
  · intro h
    exact ⟨fun w hw => h w (List.mem_append_left _ hw), h u (List.mem_append_right _ (by simp))⟩
  · rintro ⟨h1, h2⟩ w hw
    rcases List.mem_append.mp hw with q | q
    · exact h1 w q
    · rw [List.mem_singleton.mp q]; exact h2
/-- d stands for the list of these, whatever object comes behind -/
def StL (s : Sto) (d : D) (ds : List D) : Prop := d = .lst ds ∨ ∃ k, d = .ref k ∧ s[k]? = some (.lst ds)
theorem StL.it {s : Sto} {d : D} {ds : List D} (h : StL s d ds) : itSeq d s = .ok (ds, ckSeq d ds) s := by
  rcases h with rfl | ⟨k, rfl, h⟩
  · rfl
  · show (match seqOf s (.ref k) with | some ds' => _ | none => _) = _
    have : seqOf s (.ref k) = some ds := by show (match s[k]? with | some (.lst ds) => some ds | _ => none) = _; rw [h]
    rw [this]
theorem StL.app {s : Sto} {d : D} {ds : List D} (h : StL s d ds) (x : Sto) : StL (s ++ x) d ds := by
  rcases h with rfl | ⟨k, rfl, h⟩
  · exact .inl rfl
  · exact .inr ⟨k, rfl, by rw [List.getElem?_append_left (List.getElem?_eq_some_iff.mp h).1]; exact h⟩
theorem StL.ck {s : Sto} {d : D} {ds : List D} (h : StL s d ds) : ckSeq d ds s = true := by
  rcases h with rfl | ⟨k, rfl, h⟩
  · rfl
  · show (match seqOf s (.ref k) with | some es => beqDs es ds | none => false) = true
    have : seqOf s (.ref k) = some ds := by show (match s[k]? with | some (.lst ds) => some ds | _ => none) = _; rw [h]
    rw [this]
    exact beqDs_self ds

def IvA (x : Lt) (st : Sto) (j : Nat) (en : Env) (s : Sto) : Prop := ∃ (junk : Sto) (rows : List (List (List Int))) (d1 : D) (x2 x3 x4 x5 x6 x7 x8 x9 : Option D), s = st ++ junk ∧ StL s d1 (rows.map wordsD) ∧ (∀ row, row ∈ rows ↔ wis row (x.ws.take j) = true ∧ NN row) ∧ rows.length ≤ 4 ^ ((x.ws.take j).map List.length).sum ∧ j ≤ x.ws.length ∧
  en = [some (lotD x), some d1, x2, x3, x4, x5, x6, x7, x8, x9]
theorem f_all_less {x : Lt} {st : Sto} {Q : QD} {E : QX} (hl : x.ws.length ≤ 3) (hw : ∀ w ∈ x.ws, w.length ≤ 3 ∧ ∀ l ∈ w, (0 : Int) ≤ l ∧ l < 3) (hsum : (x.ws.map List.length).sum ≤ 5) (h16 : ∀ w ∈ x.ws, (lessW w [[]]).length < 64)
    (hq : ∀ R : List (List (List Int)), (∀ row, row ∈ R ↔ wis row x.ws = true ∧ NN row) → R.length ≤ 1024 → Q (.lst (R.map fun r => lotD ⟨x.pl, r⟩)) st) : (F._law_all_less.f [lotD x] st).sat Q E := by
  have sumle : ∀ j, ((x.ws.take j).map List.length).sum ≤ 5 := fun j => by
    have : (x.ws.map List.length).sum = ((x.ws.take j).map List.length).sum + ((x.ws.drop j).map List.length).sum := by
      rw [← List.sum_append, ← List.map_append, List.take_append_drop]
    omega
  have powle : ∀ j, 4 ^ ((x.ws.take j).map List.length).sum ≤ 1024 := fun j => Nat.le_trans (Nat.pow_le_pow_right (by omega) (sumle j)) (by decide)
  refine run_sat (n := 10) (en := [some (lotD x), none, none, none, none, none, none, none, none, none]) rfl rfl ?_
  rw [B._law_all_less]
  simp [v_for]
  refine forE_inv _ (IvA x st) ⟨[], [[]], .lst [.tup []], none, none, none, none, none, none, none, none, by simp, .inl rfl, fun row => ?_, by simp, Nat.zero_le _, rfl⟩ (fun _ _ _ _ => rfl) ?_ ?_
  · rw [List.take_zero]
    cases row with
    | nil => simp [wis, NN]
    | cons a r => simp [wis]
  · rintro j d en s hd ⟨junk, rows, d1, x2, x3, x4, x5, x6, x7, x8, x9, hs0, hS, hm, hrl, hj, rfl⟩
    rw [List.getElem?_map] at hd
    cases e : x.ws[j]? with
    | none => rw [e] at hd; cases hd
    | some w =>
      rw [e] at hd
      cases hd
      have hj2 := (List.getElem?_eq_some_iff.mp e).1
      have hww := hw w (List.mem_of_getElem? e)
      refine ⟨_, p_nm, ?_⟩
      simp [v_for]
      have h64 : 4 ^ w.length ≤ 64 := Nat.le_trans (Nat.pow_le_pow_right (show 0 < 4 by omega) hww.1) (by decide)
      have hle := lessW_len w [[]] hww.2
      refine less_loop w [[]] x4 x5 x6 x7 _ hww.2 (by simpa using h64) (by simp; omega) fun y4 y5 y6 y7 => ?_
      show (evB _ _ _).sat _
      simp [v_for]
      obtain ⟨ys, ey, yl, ym⟩ := sort_words (lessW w [[]])
      have hS2 := hS.app [.lst []]
      have hlen4 := h16 w (List.mem_of_getElem? e)
      have p5 := powle j
      simp [hS2.it]
      have hrw : ∀ r ∈ rows, r.length ≤ 10 := fun r hr => by
        have := (wis_iff _ _).mp ((hm r).mp hr).1
        have h2 := this.1
        rw [List.length_take] at h2
        omega
      refine rows_loop (sm := lessW w [[]]) (ys := ys) hlen4 ey yl (fun o => (hS.app [o]).ck) rows [] y7 x9 _ hrw (by simp; omega) fun y7 y9 => ?_
      simp
      have pm : (x.ws.take (j + 1)) = x.ws.take j ++ [w] := by
        rw [List.take_add_one, e]; rfl
      refine ⟨junk ++ [.lst ((addR ys rows).map wordsD)], addR ys rows, .ref s.length, _, _, _, _, _, _, _, _, by rw [hs0, List.append_assoc], .inr ⟨s.length, rfl, by simp⟩, fun row => ?_, ?_, by omega, rfl⟩
      · rw [mem_addR, pm, wis_snoc]
        constructor
        · rintro ⟨r, hr, u, hu, rfl⟩
          obtain ⟨a1, a2⟩ := (hm r).mp hr
          obtain ⟨b1, b2⟩ := (mem_less w u fun l h => (hww.2 l h).1).mp ((ym u).mp hu)
          exact ⟨⟨r, u, rfl, a1, b1⟩, nn_snoc.mpr ⟨a2, b2⟩⟩
        · rintro ⟨⟨r, u, rfl, a1, b1⟩, hn⟩
          obtain ⟨n1, n2⟩ := nn_snoc.mp hn
          exact ⟨r, (hm r).mpr ⟨a1, n1⟩, u, (ym u).mpr ((mem_less w u fun l h => (hww.2 l h).1).mpr ⟨b1, n2⟩), rfl⟩
      · rw [addR_len, pm, List.map_append, List.sum_append, Nat.pow_add]
        have : ys.length ≤ 4 ^ ([w].map List.length).sum := by simp at hle ⊢; omega
        exact Nat.mul_le_mul hrl this
  · rintro en s ⟨junk, rows, d1, x2, x3, x4, x5, x6, x7, x8, x9, rfl, hS, hm, hrl, hj, rfl⟩
    rw [List.length_map] at hm hrl
    rw [List.take_length] at hm
    have p5 := powle x.ws.length
    have hz : szB rows.length = true := szB_of (by omega)
    simp [v_comp, hS.it, hz]
    rw [compE_f wordsD (fun r => lotD ⟨x.pl, r⟩) hS.ck rows fun r hr => ⟨_, p_nm, by simp [lot_tup _ []]⟩]
    simp
    rw [rr_val (by
      rw [noRef]
      exact noRefs_all.mpr fun d hd => by
        obtain ⟨r, _, rfl⟩ := List.mem_map.mp hd
        exact nr_lot _)]
    simp
    exact hq rows hm (by omega)
end Mi
/-! K11C: _law_leads. -/
namespace Mi
open PySem PySem.Spec PyProof.Rows L2

theorem Sb.lt {u w : List Int} {b : Int} (h : Sb u w) (hb : ∀ l ∈ w, l < b) : ∀ l ∈ u, l < b := by
  induction h with
  | nil => intro l hl; cases hl
  | skip c _ ih => exact ih fun l hl => hb l (List.mem_cons_of_mem _ hl)
  | @keep w v a c hac _ ih =>
    intro l hl
    rcases List.mem_cons.mp hl with e | e
    · have := hb c List.mem_cons_self
      omega
    · exact ih (fun y hy => hb y (List.mem_cons_of_mem _ hy)) l e
/-- whether some lot below leads above o -/
def ledB (p : Pro) (x o : Lt) (k i : Nat) : Bool := match backV p o k i with
  | some b => ab x b
  | none => false
theorem f_leads11 {mm m : Nat} {p : Pro} {x o : Lt} {k i : Nat} {st : Sto} (hp : OkPro mm p) (ho : OkLot p m o) (hm : m ≤ 1000) (hx : OkLot p 3 x) (hsum : (x.ws.map List.length).sum ≤ 5) (h16 : ∀ w ∈ x.ws, (lessW w [[]]).length < 64) (hs : (stpAt p k i).isSome = true) :
    (F._law_leads.f [proD p, lotD x, pairD2 (k, i), lotD o] st).sat (fun d st' => d = .bl (ledB p x o k i) ∧ st' = st) fun _ _ => False := by
  obtain ⟨s, hs1⟩ := Option.isSome_iff_exists.mp hs
  have l2 := hp.l2
  have t2 := hp.t2
  have xl := hx.wl
  have key := leads_back (x := x) hp ho hx.len hx.wl hx.nn hs1
  refine run_sat (n := 6) (en := [some (proD p), some (lotD x), some (pairD2 (k, i)), some (lotD o), none, none]) rfl rfl ?_
  rw [B._law_leads]
  simp [v_for]
  refine f_all_less (by omega) (fun w hw => ⟨(hx.ws w hw).1, fun l hl => by have := (hx.ws w hw).2 l hl; omega⟩) hsum h16 fun R hR hRl => ?_
  simp
  have shape : ∀ row ∈ R, OkLot p 3 ⟨x.pl, row⟩ := fun row hr => by
    obtain ⟨a1, a2⟩ := (hR row).mp hr
    have w1 := (wis_iff _ _).mp a1
    refine ⟨hx.len, hx.pl, w1.1.trans hx.wl, fun w hw => ?_⟩
    have hw : w ∈ row := hw
    obtain ⟨n, hn, e⟩ := List.getElem_of_mem hw
    have q := w1.2 n
    have e1 : row.getD n [] = w := by rw [List.getD_eq_getElem?_getD, List.getElem?_eq_getElem hn, e]; rfl
    have hn2 : n < x.ws.length := by omega
    have e2 : x.ws.getD n [] = x.ws[n] := by rw [List.getD_eq_getElem?_getD, List.getElem?_eq_getElem hn2]; rfl
    rw [e1, e2] at q
    have hw2 := hx.ws _ (List.getElem_mem hn2)
    exact ⟨Nat.le_trans q.len hw2.1, fun l hl => ⟨a2 w hw l hl, q.lt (fun y hy => (hw2.2 y hy).2) l hl⟩⟩
  have loop : ∀ (v : List (List (List Int))) (x4 x5 : Option D) (N : EndsD), (∀ row ∈ v, row ∈ R) →
      ((∃ row ∈ v, ∃ y, aftV p ⟨x.pl, row⟩ k i = some y ∧ ab y o = true) → N.rt (.bl true) st) → ((¬ ∃ row ∈ v, ∃ y, aftV p ⟨x.pl, row⟩ k i = some y ∧ ab y o = true) → ∀ x4 x5, N.nx [some (proD p), some (lotD x), some (pairD2 (k, i)), some (lotD o), x4, x5] st) →
      (forE (.nm 4) (evB [
      xSet 5 (rCall "_law_after" F._law_after [] [(rVar 0), (rVar 4), (rIx (rVar 2) (rInt 0)), (rIx (rVar 2) (rInt 1))]),
      xIf (qAn [(qCm .NotEq oNe (rVar 5) (rList false [])), (tV' (rCall "_law_stands_above" F._law_stands_above [] [(rIx (rVar 5) (rInt 0)), (rVar 3)]))]) [
        xRet (rBl true)] []]) (fun _ => true) (v.map fun r => lotD ⟨x.pl, r⟩) [some (proD p), some (lotD x), some (pairD2 (k, i)), some (lotD o), x4, x5] st).sat N := by
    intro v
    induction v with
    | nil =>
      intro x4 x5 N h0 h1 h2
      have := h2 (by rintro ⟨r, hr, _⟩; cases hr) x4 x5
      simpa [forE] using this
    | cons r v ih =>
      intro x4 x5 N h0 h1 h2
      have hsh := shape r (h0 r List.mem_cons_self)
      have ea := f_after (st := st) hp hsh.s (by omega) hs
      cases hy : aftV p ⟨x.pl, r⟩ k i with
      | none =>
        rw [hy] at ea
        simp at ea
        simp [forE, pairD2, ea, eq_nil_nil, -eq_lst]
        have := ih (some (lotD ⟨x.pl, r⟩)) (some (.lst [])) N (fun r' h => h0 r' (List.mem_cons_of_mem _ h)) (fun ⟨r', h, q⟩ => h1 ⟨r', List.mem_cons_of_mem _ h, q⟩) (fun hn => h2 fun ⟨r', h, y, q1, q2⟩ => by
          rcases List.mem_cons.mp h with e | h
          · rw [e, hy] at q1; cases q1
          · exact hn ⟨r', h, y, q1, q2⟩)
        simpa [pairD2] using this
      | some y =>
        rw [hy] at ea
        simp at ea
        have hyo := after_ok hp hsh hy
        have ef := f_stands_above (st := st) (hyo.fit hp (y := o) (by rw [ho.wl, hyo.wl]) (by omega) fun w hw => by have := (ho.ws w hw).1; omega).1
        cases hab : ab y o with
        | true =>
          rw [hab] at ef
          have := h1 ⟨r, List.mem_cons_self, y, hy, hab⟩
          simp [forE, pairD2, ea, eq_lot_nil, ef, -eq_lst]
          exact this
        | false =>
          rw [hab] at ef
          simp [forE, pairD2, ea, eq_lot_nil, ef, -eq_lst]
          have := ih (some (lotD ⟨x.pl, r⟩)) (some (.lst [lotD y])) N (fun r' h => h0 r' (List.mem_cons_of_mem _ h)) (fun ⟨r', h, q⟩ => h1 ⟨r', List.mem_cons_of_mem _ h, q⟩) (fun hn => h2 fun ⟨r', h, z, q1, q2⟩ => by
            rcases List.mem_cons.mp h with e | h
            · rw [e, hy] at q1; cases q1; rw [hab] at q2; cases q2
            · exact hn ⟨r', h, z, q1, q2⟩)
          simpa [pairD2] using this
  refine loop R none none _ (fun _ h => h) (fun ⟨r, hr, y, q1, q2⟩ => ?_) (fun hn x4 x5 => ?_)
  · obtain ⟨b, e1, e2⟩ := key.mp ⟨r, ((hR r).mp hr).1, ((hR r).mp hr).2, y, q1, q2⟩
    simp [ledB, e1, e2]
  · have : ledB p x o k i = false := by
      unfold ledB
      cases hb : backV p o k i with
      | none => rfl
      | some b =>
        cases hab : ab x b with
        | false => exact hab
        | true =>
          obtain ⟨row, r1, r2, y, q1, q2⟩ := key.mpr ⟨b, hb, hab⟩
          exact absurd ⟨row, (hR row).mpr ⟨r1, r2⟩, y, q1, q2⟩ hn
    simp [this]
end Mi
/-! K11D: _law_words. -/
namespace Mi
open PySem PySem.Spec PyProof.Rows L2

theorem wloop11 {le : Nat} {mo : D} {x2 x3 x4 : Option D} {s : Sto} {ck : Sto → Bool} (hle : le ≤ 3) (hck : ∀ o, ck (s ++ [o]) = true) :
    ∀ (v acc : List (List Int)) (x6 x7 : Option D) (N : EndsD), (∀ w ∈ v, w.length ≤ 10) → acc.length + v.length * 3 ≤ 900 →
    (∀ x6 x7, N.nx [some (.int le), some mo, x2, x3, x4, some (.ref s.length), x6, x7] (s ++ [.lst ((acc ++ v.flatMap fun w => (List.range le).map fun l : Nat => w ++ [(l : Int)]).map wordD)])) →
    (forE (.nm 6) (evB [
        xExp (rMeth1 nExtend (rVar 5) (rComp false (.nm 7) [("letter", 7)] (jRange1 (rVar 0)) none (rBin .Add (oAdd false) (rVar 6) (rTup [(rVar 7)]))))]) ck (v.map wordD) [some (.int le), some mo, x2, x3, x4, some (.ref s.length), x6, x7] (s ++ [.lst (acc.map wordD)])).sat N
  | [], acc, x6, x7, N, h1, h2, h3 => by
    have := h3 x6 x7
    simpa [forE, hck] using this
  | w :: v, acc, x6, x7, N, h1, h2, h3 => by
    have hw := h1 w List.mem_cons_self
    have hz : szB (w.length + 1) = true := szB_of (by omega)
    have hz2 : szB le = true := szB_of (by omega)
    have hb : b62 (le : Int) = true := b62_of (by omega) (by omega)
    have hlen : acc.length + le ≤ sizeLine := by rw [sizeLine_eq]; simp at h2; omega
    have er : rngD 0 le = (List.range le).map fun l : Nat => D.int (l : Int) := by simp [rngD]
    simp [forE, hck, v_comp, hb, hz2, rng_len]
    rw [er, compE_f (fun l : Nat => D.int (l : Int)) (fun l : Nat => wordD (w ++ [(l : Int)])) rfl (List.range le) fun l hl => ⟨_, p_nm, by simp [hz]⟩]
    have nrs : noRefs s.length ((List.range le).map fun l : Nat => wordD (w ++ [(l : Int)])) = true := noRefs_all.mpr fun d hd => by
      obtain ⟨u, _, rfl⟩ := List.mem_map.mp hd
      exact nr_word
    simp [hlen, nrs]
    have := wloop11 (le := le) (mo := mo) (x2 := x2) (x3 := x3) (x4 := x4) (s := s) (ck := ck) hle hck v (acc ++ (List.range le).map fun l : Nat => w ++ [(l : Int)]) (some (wordD w)) x7 N (fun r' hr' => h1 r' (List.mem_cons_of_mem _ hr')) (by simp at h2 ⊢; omega) (fun x6 x7 => by
      have := h3 x6 x7
      simpa using this)
    simpa [Function.comp_def] using this

theorem flat_len (le : Nat) : ∀ la : List (List Int), (la.flatMap fun w => (List.range le).map fun l : Nat => w ++ [(l : Int)]).length = la.length * le
  | [] => by simp
  | a :: r => by rw [List.flatMap_cons, List.length_append, flat_len le r, List.length_map, List.length_range, List.length_cons, Nat.succ_mul, Nat.add_comm]
def OkW (le j : Nat) (ws : List (List Int)) : Prop := ∀ w ∈ ws, w.length ≤ j ∧ ∀ l ∈ w, (0 : Int) ≤ l ∧ l < (le : Int)
def IvW (le mo : Nat) (st : Sto) (j : Nat) (en : Env) (s : Sto) : Prop := ∃ (junk : Sto) (fl la : List (List Int)) (d3 : D) (x4 x5 x6 x7 : Option D), s = st ++ junk ∧ StL s d3 (la.map wordD) ∧ OkW le j fl ∧ OkW le j la ∧ la.length ≤ 3 ^ j ∧ fl.length ≤ 30 * (j + 1) ∧ j ≤ 3 ∧
  en = [some (.int le), some (.int mo), some (.lst (fl.map wordD)), some d3, x4, x5, x6, x7]
theorem words_run {a b : D} {st : Sto} : F._law_words.f [a, b] st = retB 0 st.length (evB B._law_words [some a, some b, none, none, none, none, none, none] st) := by rfl
theorem f_words {le mo : Nat} {st : Sto} {Q : QD} {E : QX} (hle : le ≤ 3) (hmo : mo ≤ 3) (hq : ∀ ws, OkW le mo ws → ws.length ≤ 200 → Q (.lst (ws.map wordD)) st) : (F._law_words.f [.int le, .int mo] st).sat Q E := by
  rw [words_run, sat_retB, B._law_words]
  simp [v_for]
  refine ⟨b62_of (by omega) (by omega), ?_⟩
  have ok0 : OkW le 0 [[]] := fun w hw => by
    rw [List.mem_singleton.mp hw]
    exact ⟨Nat.le_refl _, fun l hl => by cases hl⟩
  have st0 : IvW le mo st 0 [some (.int le), some (.int mo), some (.lst [.tup []]), some (.lst [.tup []]), none, none, none, none] st := ⟨[], [[]], [[]], .lst [.tup []], none, none, none, none, (List.append_nil _).symm, .inl rfl, ok0, ok0, Nat.le_refl _, (by decide), (by omega), rfl⟩
  refine forE_inv _ (IvW le mo st) st0 (fun _ _ _ _ => rfl) ?_ ?_
  · rintro j d en s hd ⟨junk, fl, la, d3, x4, x5, x6, x7, hs0, hS, hf, hl, hll, hfl, hj, rfl⟩
    obtain ⟨hj2, rfl⟩ := rng_get hd
    have hj3 : j < 3 := by omega
    have p27 : 3 ^ j ≤ 9 := Nat.le_trans (Nat.pow_le_pow_right (by omega) (show j ≤ 2 by omega)) (by decide)
    refine ⟨_, p_nm, ?_⟩
    have hS2 := hS.app [.lst []]
    simp [hS2.it, v_for]
    refine wloop11 hle (fun o => (hS.app [o]).ck) la [] x6 x7 _ (fun w hw => by have := (hl w hw).1; omega) (by simp; omega) fun y6 y7 => ?_
    have hlen : (la.flatMap fun w => (List.range le).map fun l : Nat => w ++ [(l : Int)]).length = la.length * le := flat_len le la
    generalize hng : (la.flatMap fun w => (List.range le).map fun l : Nat => w ++ [(l : Int)]) = lo at hlen ⊢
    have hlo : OkW le (j + 1) lo := fun w hw => by
      rw [← hng] at hw
      obtain ⟨v, hv, hw⟩ := List.mem_flatMap.mp hw
      obtain ⟨l, hl2, rfl⟩ := List.mem_map.mp hw
      have := hl v hv
      refine ⟨by simp; exact this.1, fun y hy => ?_⟩
      rcases List.mem_append.mp hy with q | q
      · exact this.2 y q
      · rw [List.mem_singleton.mp q]
        have := List.mem_range.mp hl2
        omega
    have hlo2 : lo.length ≤ 3 ^ (j + 1) := by rw [hlen, Nat.pow_succ]; exact Nat.mul_le_mul hll hle
    have p27' : 3 ^ (j + 1) ≤ 27 := Nat.le_trans (Nat.pow_le_pow_right (by omega) (show j + 1 ≤ 3 by omega)) (by decide)
    have hz : szB (fl.length + lo.length) = true := szB_of (by omega)
    have hg : (s ++ [O.lst (lo.map wordD)])[s.length]? = some (.lst (lo.map wordD)) := by simp
    have hadd : ∀ m, (oAdd m).ev (.lst (fl.map wordD)) (.ref s.length) (s ++ [O.lst (lo.map wordD)]) = R.when (szB (fl.length + lo.length)) (newR m ((fl ++ lo).map wordD) (s ++ [O.lst (lo.map wordD)])) := fun m => by
      show cat2 m (some (fl.map wordD)) (lstOf _ (.ref s.length)) _ = _
      unfold lstOf
      dsimp only
      rw [hg]
      show R.when (szB ((fl.map wordD).length + (lo.map wordD).length)) (newR m (fl.map wordD ++ lo.map wordD) _) = _
      rw [List.length_map, List.length_map, ← List.map_append]
    simp [hadd, hz]
    refine ⟨junk ++ [.lst (lo.map wordD)], fl ++ lo, lo, .ref s.length, _, _, _, _, by rw [hs0, List.append_assoc], .inr ⟨s.length, rfl, hg⟩, fun w hw => ?_, hlo, hlo2, by rw [List.length_append]; omega, by omega, by simp; exact ⟨rfl, rfl, rfl, rfl⟩⟩
    rcases List.mem_append.mp hw with q | q
    · have := hf w q
      exact ⟨by omega, this.2⟩
    · exact hlo w q
  · rintro en s ⟨junk, fl, la, d3, x4, x5, x6, x7, rfl, hS, hf, hl, hll, hfl, hj, rfl⟩
    rw [rng_len] at hf hfl hj
    simp
    rw [rr_val (by
      rw [noRef]
      exact noRefs_all.mpr fun d hd => by
        obtain ⟨u, _, rfl⟩ := List.mem_map.mp hd
        exact nr_word)]
    simp
    exact hq fl hf (by omega)
end Mi
/-! K11L: law k11. -/
namespace Mi
open PySem PySem.Spec PyProof.Rows L2

/-- law -/
def N.law : List Str := ["script", "pen", "lap", "program", "other", "lane", "base", "machine", "index", "before", "places", "word", "lot", "due"]
def B.law : List RS := [
  xSet 1 (rCall "_law_pen" F._law_pen [] [(rVar 0)]),
  xFor (.nm 2) (jRange1 (rInt 3)) [
      xSet 3 (rCall "_law_drawn_program" F._law_drawn_program [] [(rVar 1), (rInt 4)]),
      xPar2 4 5 (rCall "_law_drawn_lot" F._law_drawn_lot [] [(rVar 1), (rVar 3), (rInt 2)]) (rCall "_law_draw" F._law_draw [] [(rVar 1), (rIx (rVar 3) (rInt 0))]),
      xSet 6 (rCall "_law_drawn_lot" F._law_drawn_lot [] [(rVar 1), (rVar 3), (rInt 1)]),
      xFor (.tup [(.nm 7), (.nm 8)]) (jSeq (rCall "_law_all_pairs" F._law_all_pairs [] [(rVar 3)])) [
        xSet 9 (rCall "back" F.back [] [(rVar 3), (rVar 4), (rVar 7), (rVar 8)]),
        xSet 10 (rCall "_law_at" F._law_at [] [(rIx (rVar 6) (rInt 0)), (rVar 7), (rIx (rIx (rIx (rIx (rIx (rVar 3) (rInt 2)) (rVar 7)) (rInt 1)) (rVar 8)) (rInt 0))]),
        xSet 10 (rCall "_law_one_of" F._law_one_of [] [(rVar 1), (rList false [(rIx (rVar 6) (rInt 0)), (rVar 10), (rCall "_law_at" F._law_at [] [(rIx (rVar 4) (rInt 0)), (rVar 7), (rIx (rVar 10) (rVar 7))])])]),
        xFor (.nm 11) (jSeq (rCall "_law_words" F._law_words [] [(rIx (rVar 3) (rInt 1)), (rIf (qCm .Eq oEq (rIx (rVar 3) (rInt 1)) (rInt 1)) (rInt 3) (rInt 2))])) [
          xSet 12 (rTup [(rVar 10), (rCall "_law_at" F._law_at [] [(rIx (rVar 6) (rInt 1)), (rVar 5), (rVar 11)])]),
          xSet 13 (rCall "_law_leads" F._law_leads [] [(rVar 3), (rVar 12), (rTup [(rVar 7), (rVar 8)]), (rVar 4)]),
          xIf (qCm .NotEq oNe (rVar 13) (rAnd [(rCmp .IsNot oIsNot (rVar 9) rNone), (rCall "is_above" F.is_above [] [(rVar 12), (rVar 9)])])) [
            xRet (rBl false)] []]]],
  xRet (rBl true)]
def F.law : FS := mkF 1 0 14 B.law
@[simp] theorem F.arlaw : F.law.ar = 1 := (rfl)

theorem bk_ok {lanes letters m : Nat} {a : Act} {ws ws2 : List (List Int)} (ha : OkAct lanes letters a) (hw : ∀ w ∈ ws, w.length ≤ m ∧ ∀ l ∈ w, 0 ≤ l ∧ l < letters) (h : bkWords a ws = some ws2) : ws2.length = ws.length ∧ ∀ w ∈ ws2, w.length ≤ m + 1 ∧ ∀ l ∈ w, 0 ≤ l ∧ l < (letters : Int) := by
  have up : ∀ w ∈ ws, w.length ≤ m + 1 ∧ ∀ l ∈ w, 0 ≤ l ∧ l < (letters : Int) := fun w h => ⟨by have := (hw w h).1; omega, (hw w h).2⟩
  have put : ∀ (i : Nat) (v : List Int), (v.length ≤ m + 1 ∧ ∀ l ∈ v, 0 ≤ l ∧ l < (letters : Int)) → (ws.set i v).length = ws.length ∧ ∀ w ∈ ws.set i v, w.length ≤ m + 1 ∧ ∀ l ∈ w, 0 ≤ l ∧ l < (letters : Int) := fun i v hv => ⟨by simp, fun w h => (mem_set h).elim (up w) fun e => e ▸ hv⟩
  have gd : ∀ i, (ws.getD i []).length ≤ m ∧ ∀ l ∈ ws.getD i [], 0 ≤ l ∧ l < (letters : Int) := fun i => by
    rw [List.getD_eq_getElem?_getD]
    cases e : ws[i]? with
    | none => simp
    | some w => exact hw w (List.mem_of_getElem? e)
  cases a with
  | rest => cases h; exact ⟨rfl, up⟩
  | test i =>
    rw [bkWords] at h
    split at h
    · cases h; exact ⟨rfl, up⟩
    · cases h
  | take i l =>
    cases h
    refine put i _ ⟨by have := (gd i).1; simp; simp at this; omega, fun x hx => ?_⟩
    rcases List.mem_cons.mp hx with e | e
    · rw [e]; exact ha.2
    · exact (gd i).2 x e
  | send i l =>
    rw [bkWords] at h
    cases h
    split
    · split
      · exact put i _ ⟨by have := (gd i).1; simp; simp at this; omega, fun x hx => (gd i).2 x ((List.dropLast_sublist _).subset hx)⟩
      · exact ⟨rfl, up⟩
    · exact ⟨rfl, up⟩
theorem back_ok {mm m : Nat} {p : Pro} {x y : Lt} {k i : Nat} (hp : OkPro mm p) (hx : OkLot p m x) (h : backV p x k i = some y) : OkLot p (m + 1) y := by
  unfold backV at h
  cases hs : stpAt p k i with
  | none => rw [hs] at h; cases h
  | some s =>
    rw [hs, Option.bind_some] at h
    obtain ⟨mc, h1, h2, ok⟩ := stp_ok hp hs
    split at h
    · cases hb : bkWords s.act x.ws with
      | none => rw [hb] at h; cases h
      | some ws =>
        rw [hb] at h
        cases h
        obtain ⟨b1, b2⟩ := bk_ok ok.act hx.ws hb
        refine ⟨by show (x.pl.set k s.here).length = _; rw [List.length_set]; exact hx.len, fun j a m' e1 e2 => ?_, b1.trans hx.wl, b2⟩
        have e1 : (x.pl.set k s.here)[j]? = some a := e1
        by_cases hj : k = j
        · subst hj
          have hl : k < x.pl.length := by rw [hx.len]; exact (List.getElem?_eq_some_iff.mp h1).1
          rw [List.getElem?_set_self hl] at e1
          cases e1
          rw [h1] at e2
          cases e2
          exact ok.here
        · rw [List.getElem?_set_ne hj] at e1
          exact hx.pl j a m' e1 e2
    · cases h
theorem lessW_len' (c : Nat) : ∀ (w : List Int) (sm : List (List Int)), (∀ l ∈ w, 0 ≤ l ∧ l < (c : Int)) → (lessW w sm).length ≤ sm.length * (c + 1) ^ w.length
  | [], sm, _ => by simp [lessW]
  | l :: w, sm, h => by
    have hl := h l List.mem_cons_self
    rw [lessW_cons]
    have := lessW_len' c w (oneL l sm (l + 1).toNat) fun y hy => h y (List.mem_cons_of_mem _ hy)
    rw [oneL_len] at this
    have e : (l :: w).length = w.length + 1 := rfl
    rw [e, Nat.pow_succ]
    calc (lessW w (oneL l sm (l + 1).toNat)).length ≤ sm.length * ((l + 1).toNat + 1) * (c + 1) ^ w.length := this
      _ ≤ sm.length * (c + 1) * (c + 1) ^ w.length := Nat.mul_le_mul (Nat.mul_le_mul (Nat.le_refl _) (by omega)) (Nat.le_refl _)
      _ = sm.length * ((c + 1) ^ w.length * (c + 1)) := by rw [Nat.mul_assoc, Nat.mul_comm (c + 1)]
theorem less_small {c : Nat} {w : List Int} (h : (c ≤ 3 ∧ w.length ≤ 2) ∨ (c ≤ 1 ∧ w.length ≤ 3)) (hl : ∀ l ∈ w, 0 ≤ l ∧ l < (c : Int)) : (lessW w [[]]).length < 64 := by
  have := lessW_len' c w [[]] hl
  rw [List.length_singleton, Nat.one_mul] at this
  rcases h with ⟨h1, h2⟩ | ⟨h1, h2⟩
  · have a1 : (c + 1) ^ w.length ≤ 4 ^ w.length := Nat.pow_le_pow_left (by omega) _
    have a2 : 4 ^ w.length ≤ 4 ^ 2 := Nat.pow_le_pow_right (by omega) h2
    have a3 : (4 : Nat) ^ 2 = 16 := rfl
    omega
  · have a1 : (c + 1) ^ w.length ≤ 2 ^ w.length := Nat.pow_le_pow_left (by omega) _
    have a2 : 2 ^ w.length ≤ 2 ^ 3 := Nat.pow_le_pow_right (by omega) h2
    have a3 : (2 : Nat) ^ 3 = 8 := rfl
    omega
theorem sum_ones : ∀ (l : List (List Int)), (∀ w ∈ l, w.length ≤ 1) → (l.map List.length).sum ≤ l.length
  | [], _ => by simp
  | w :: l, h => by
    have := sum_ones l fun y hy => h y (List.mem_cons_of_mem _ hy)
    have := h w List.mem_cons_self
    simp
    omega
theorem sum_set (v : List Int) : ∀ (l : List (List Int)) (i : Nat), (∀ w ∈ l, w.length ≤ 1) → i < l.length → ((l.set i v).map List.length).sum + 1 ≤ l.length + v.length
  | [], _, _, h => by simp at h
  | w :: l, 0, h, _ => by
    have := sum_ones l fun y hy => h y (List.mem_cons_of_mem _ hy)
    simp
    omega
  | w :: l, i + 1, h, hi => by
    have h1 := sum_set v l i (fun y hy => h y (List.mem_cons_of_mem _ hy)) (by simpa using hi)
    have h2 := h w List.mem_cons_self
    rw [List.set_cons_succ, List.map_cons, List.sum_cons, List.length_cons]
    omega
theorem set_ok {p : Pro} {pl : List Nat} {k a : Nat} (h1 : pl.length = p.ms.length) (h2 : ∀ (i : Nat) (a : Nat) (m : Mach), pl[i]? = some a → p.ms[i]? = some m → a < m.1) (ha : ∀ m, p.ms[k]? = some m → a < m.1) : (pl.set k a).length = p.ms.length ∧ ∀ (i : Nat) (b : Nat) (m : Mach), (pl.set k a)[i]? = some b → p.ms[i]? = some m → b < m.1 := by
  refine ⟨by rw [List.length_set]; exact h1, fun i b m e1 e2 => ?_⟩
  by_cases hj : k = i
  · subst hj
    have hl : k < pl.length := by rw [h1]; exact (List.getElem?_eq_some_iff.mp e2).1
    rw [List.getElem?_set_self hl] at e1
    cases e1
    exact ha m e2
  · rw [List.getElem?_set_ne hj] at e1
    exact h2 i b m e1 e2
def OkPl (p : Pro) (pl : List Nat) : Prop := pl.length = p.ms.length ∧ ∀ (i : Nat) (b : Nat) (m : Mach), pl[i]? = some b → p.ms[i]? = some m → b < m.1
def L1 (sc : D) (s0 : Sto) (j : Nat) (en : Env) (s : Sto) : Prop := PenTo s0 0 s ∧ ∃ x2 x3 x4 x5 x6 x7 x8 x9 x10 x11 x12 x13 : Option D, en = [some sc, some (.ref 0), x2, x3, x4, x5, x6, x7, x8, x9, x10, x11, x12, x13]
def L2' (sc : D) (s0 : Sto) (p : Pro) (o b : Lt) (ln : Nat) (x2 : Option D) (j : Nat) (en : Env) (s : Sto) : Prop := PenTo s0 0 s ∧ ∃ x7 x8 x9 x10 x11 x12 x13 : Option D, en = [some sc, some (.ref 0), x2, some (proD p), some (lotD o), some (.int ln), some (lotD b), x7, x8, x9, x10, x11, x12, x13]
def L3 (sc : D) (s1 : Sto) (p : Pro) (o b : Lt) (ln k i : Nat) (bo : Option Lt) (pl : List Nat) (x2 : Option D) (j : Nat) (en : Env) (s : Sto) : Prop := s = s1 ∧ ∃ x11 x12 x13 : Option D, en = [some sc, some (.ref 0), x2, some (proD p), some (lotD o), some (.int ln), some (lotD b), some (.int k), some (.int i), some (optD bo), some (plD pl), x11, x12, x13]
theorem law_true (ns : List Int) : (F.law.f [.rol (Is ns)] []).sat (fun d _ => d = .bl true) fun _ _ => False := by
  refine run_sat (n := 14) (en := [some (.rol (Is ns)), none, none, none, none, none, none, none, none, none, none, none, none, none]) rfl rfl ?_
  rw [B.law]
  simp [v_for]
  refine f_pen fun o s0 e0 hpen => ?_
  have hpen : PenAt s0 0 := hpen
  simp [v_for]
  refine ⟨b62_of (by decide) (by decide), ?_⟩
  refine forE_inv _ (L1 (.rol (Is ns)) s0) ⟨PenTo.refl hpen, _, _, _, _, _, _, _, _, _, _, _, _, rfl⟩ (fun _ _ _ _ => rfl) ?_ ?_
  · rintro j d en s hd ⟨ht, x2, x3, x4, x5, x6, x7, x8, x9, x10, x11, x12, x13, rfl⟩
    obtain ⟨hj2, rfl⟩ := rng_get hd
    refine ⟨_, p_nm, ?_⟩
    simp
    refine f_program (m := 4) ht.pen (by omega) fun p s1 t1 hp => ?_
    simp
    have l1 := hp.l1
    have l2 := hp.l2
    have t1' := hp.t1
    have t2' := hp.t2
    refine f_lot (m := 2) t1.pen hp (by omega) fun o s2 t2 ho => ?_
    simp
    refine f_draw t2.pen (by omega) (by omega) fun ln s3 t3 hln => ?_
    have hln : ln < p.lanes := by omega
    simp
    refine f_lot (m := 1) t3.pen hp (by omega) fun b s4 t4 hb => ?_
    simp [v_for, f_pairs hp (by omega)]
    have T4 := (((ht.trans t1).trans t2).trans t3).trans t4
    refine forE_inv _ (L2' (.rol (Is ns)) s0 p o b ln _) ⟨T4, _, _, _, _, _, _, _, rfl⟩ (fun _ _ _ _ => rfl) ?_ ?_
    · rintro i d en s hd ⟨ht, x7, x8, x9, x10, x11, x12, x13, rfl⟩
      rw [List.getElem?_map] at hd
      cases e : (pairsOf p)[i]? with
      | none => rw [e] at hd; cases hd
      | some k =>
        rw [e] at hd
        cases hd
        have hkm := List.mem_of_getElem? e
        have hk := mem_pairs hkm
        obtain ⟨sp, hs1⟩ := Option.isSome_iff_exists.mp hk
        obtain ⟨mc, h1, h2, ok⟩ := stp_ok hp hs1
        have hkl : k.1 < p.ms.length := (List.getElem?_eq_some_iff.mp h1).1
        have m2 := hp.m2
        have hbl := hb.len
        have hol := ho.len
        refine ⟨_, put_pair, ?_⟩
        have eb := f_back (st := s) hp ho (by omega) hk
        have e1 := fun st => ix_ms (st := st) h1
        have e2 := fun st => ix_ss (st := st) h2
        have ok1 : OkPl p (b.pl.set k.1 sp.here) := set_ok hb.len hb.pl fun m hm => by rw [h1] at hm; cases hm; exact ok.here
        have ok2 : OkPl p (o.pl.set k.1 sp.here) := set_ok ho.len ho.pl fun m hm => by rw [h1] at hm; cases hm; exact ok.here
        have e3 := f_law_at_pl (ns := b.pl) (st := s) (k := sp.here) (i := k.1) (by omega) (by omega)
        have e4 := f_law_at_pl (ns := o.pl) (st := s) (k := sp.here) (i := k.1) (by omega) (by omega)
        have e5 : ixD s (plD (b.pl.set k.1 sp.here)) (.int (k.1 : Nat)) = some (.int (sp.here : Nat)) := by rw [ix_pl, List.getElem?_set_self (by omega)]; rfl
        simp [eb, e1, e2, e3, e4, e5]
        refine f_one_of (l := [plD b.pl, plD (b.pl.set k.1 sp.here), plD (o.pl.set k.1 sp.here)]) ht.pen (.inl rfl) (by simp) (by simp) (by simp [noRefs]) fun w s5 t5 hw => ?_
        obtain ⟨pl, hpl, rfl⟩ : ∃ pl, OkPl p pl ∧ w = plD pl := by
          simp at hw
          rcases hw with h | h | h
          · exact ⟨_, ⟨hb.len, hb.pl⟩, h⟩
          · exact ⟨_, ok1, h⟩
          · exact ⟨_, ok2, h⟩
        have tail : ∀ (ws : List (List Int)) (y11 y12 y13 : Option D) (ck : Sto → Bool) (N : EndsD), (∀ st, ck st = true) → (∀ w ∈ ws, ((p.letters ≤ 3 ∧ w.length ≤ 2) ∨ (p.letters ≤ 1 ∧ w.length ≤ 3)) ∧ ∀ l ∈ w, (0 : Int) ≤ l ∧ l < (p.letters : Int)) → (∀ y11 y12 y13, N.nx [some (D.rol (Is ns)), some (D.ref 0), some (D.int (j : Nat)), some (proD p), some (lotD o), some (D.int (ln : Nat)), some (lotD b), some (D.int (k.1 : Nat)), some (D.int (k.2 : Nat)), some (optD (backV p o k.1 k.2)), some (plD pl), y11, y12, y13] s5) →
            (forE (.nm 11) (evB [
          xSet 12 (rTup [(rVar 10), (rCall "_law_at" F._law_at [] [(rIx (rVar 6) (rInt 1)), (rVar 5), (rVar 11)])]),
          xSet 13 (rCall "_law_leads" F._law_leads [] [(rVar 3), (rVar 12), (rTup [(rVar 7), (rVar 8)]), (rVar 4)]),
          xIf (qCm .NotEq oNe (rVar 13) (rAnd [(rCmp .IsNot oIsNot (rVar 9) rNone), (rCall "is_above" F.is_above [] [(rVar 12), (rVar 9)])])) [
            xRet (rBl false)] []]) ck (ws.map wordD) [some (D.rol (Is ns)), some (D.ref 0), some (D.int (j : Nat)), some (proD p), some (lotD o), some (D.int (ln : Nat)), some (lotD b), some (D.int (k.1 : Nat)), some (D.int (k.2 : Nat)), some (optD (backV p o k.1 k.2)), some (plD pl), y11, y12, y13] s5).sat N := by
          intro ws
          induction ws with
          | nil =>
            intro y11 y12 y13 ck N hck _ hN
            have := hN y11 y12 y13
            simpa [forE, hck] using this
          | cons w ws ih =>
            intro y11 y12 y13 ck N hck hws hN
            obtain ⟨hw1, hw2⟩ := hws w List.mem_cons_self
            have hw3 : w.length ≤ 3 := by omega
            have hbw := hb.wl
            have hb1 : ∀ v ∈ b.ws, v.length ≤ 1 := fun v hv => (hb.ws v hv).1
            have hx : OkLot p 3 ⟨pl, b.ws.set ln w⟩ := ⟨hpl.1, hpl.2, by rw [← hbw]; exact List.length_set, fun v hv => (mem_set hv).elim (fun h => ⟨by have := hb1 v h; omega, (hb.ws v h).2⟩) fun h => by rw [h]; exact ⟨hw3, hw2⟩⟩
            have hsum : (((⟨pl, b.ws.set ln w⟩ : Lt).ws).map List.length).sum ≤ 5 := by
              have := sum_set w b.ws ln hb1 (by omega)
              show ((b.ws.set ln w).map List.length).sum ≤ 5
              omega
            have h16 : ∀ v ∈ (⟨pl, b.ws.set ln w⟩ : Lt).ws, (lessW v [[]]).length < 64 := fun v hv => (mem_set hv).elim (fun h => less_small (.inl ⟨t2', by have := hb1 v h; omega⟩) (hb.ws v h).2) fun h => by rw [h]; exact less_small hw1 hw2
            have ea := f_law_at_words (ws := b.ws) (w := w) (st := s5) (i := ln) (by omega) (by omega)
            simp [forE, hck, ea]
            rw [lot_tup pl []]
            refine R.sat_mono (f_leads11 hp ho (by omega) hx hsum h16 hk) (fun d st' hd => ?_) fun _ _ h => h.elim
            obtain ⟨rfl, rfl⟩ := hd
            have next := ih (some (wordD w)) (some (lotD ⟨pl, b.ws.set ln w⟩)) (some (.bl (ledB p ⟨pl, b.ws.set ln w⟩ o k.1 k.2))) ck N hck (fun v hv => hws v (List.mem_cons_of_mem _ hv)) hN
            cases hB : backV p o k.1 k.2 with
            | none =>
              have hled : ledB p ⟨pl, b.ws.set ln w⟩ o k.1 k.2 = false := by unfold ledB; rw [hB]
              rw [hB, hled] at next
              simp [optD, hled]
              exact next
            | some bo =>
              have hled : ledB p ⟨pl, b.ws.set ln w⟩ o k.1 k.2 = ab ⟨pl, b.ws.set ln w⟩ bo := by unfold ledB; rw [hB]
              have hbo := back_ok hp ho hB
              have ef := f_is_above (st := st') (hx.fit hp (y := bo) (by rw [hbo.wl, hx.wl]) (by omega) fun v hv => by have := (hbo.ws v hv).1; omega).1
              rw [hB, hled] at next
              simp [optD, hled, ef]
              exact next
        simp [v_for]
        split
        · rename_i hl1
          have hl1 : p.letters ≤ 1 := by simp at hl1; omega
          simp
          refine f_words (mo := 3) (by omega) (by omega) fun ws hws hwl => ?_
          simp
          refine tail ws _ _ _ _ _ (fun _ => rfl) (fun w hw => ⟨.inr ⟨hl1, (hws w hw).1⟩, (hws w hw).2⟩) fun y11 y12 y13 => ?_
          exact ⟨ht.trans t5, _, _, _, _, _, _, _, rfl⟩
        · simp
          refine f_words (mo := 2) (by omega) (by omega) fun ws hws hwl => ?_
          simp
          refine tail ws _ _ _ _ _ (fun _ => rfl) (fun w hw => ⟨.inl ⟨t2', (hws w hw).1⟩, (hws w hw).2⟩) fun y11 y12 y13 => ?_
          exact ⟨ht.trans t5, _, _, _, _, _, _, _, rfl⟩
    · rintro en s ⟨ht, x7, x8, x9, x10, x11, x12, x13, rfl⟩
      simp
      exact ⟨ht, _, _, _, _, _, _, _, _, _, _, _, _, rfl⟩
  · rintro en s ⟨ht, x2, x3, x4, x5, x6, x7, x8, x9, x10, x11, x12, x13, rfl⟩
    simp
end Mi
namespace Mi
open PySem PySem.Spec PyProof.Rows L2
/-! ### the head -/
def top (i : Nat) : Stmt := PySem.Challenge.pw_losinglanes_k11_whole_lots_one_step_back.main.body.getD i (.Pass ⟨0, 0, 0, 0⟩)
def okB2 (i : Nat) (N ps : List Str) (l : List RS) : Bool := scopeB N ps (defScope (top i)) && chkB (l.map RS.s) N (defScope (top i)) (defBody (top i))
theorem ck__law_pen : okB2 11 N._law_pen ["script"] B._law_pen = true := by decide +kernel
theorem ck__law_fresh : okB2 12 N._law_fresh ["pen"] B._law_fresh = true := by decide +kernel
theorem ck__law_draw : okB2 13 N._law_draw ["pen", "bound"] B._law_draw = true := by decide +kernel
theorem ck__law_one_of : okB2 14 N._law_one_of ["pen", "some"] B._law_one_of = true := by decide +kernel
theorem ck__law_drawn_step : okB2 17 N._law_drawn_step ["pen", "lanes", "letters", "places"] B._law_drawn_step = true := by decide +kernel
theorem ck__law_drawn_machine : okB2 18 N._law_drawn_machine ["pen", "lanes", "letters", "places", "most"] B._law_drawn_machine = true := by decide +kernel
theorem ck__law_drawn_program : okB2 19 N._law_drawn_program ["pen", "most"] B._law_drawn_program = true := by decide +kernel
theorem ck__law_drawn_word : okB2 16 N._law_drawn_word ["pen", "letters", "most"] B._law_drawn_word = true := by decide +kernel
theorem ck__law_drawn_lot : okB2 20 N._law_drawn_lot ["pen", "program", "most"] B._law_drawn_lot = true := by decide +kernel
theorem ck__law_all_pairs : okB2 23 N._law_all_pairs ["program"] B._law_all_pairs = true := by decide +kernel
theorem ck_put_at : okB2 6 N.put_at ["row", "place", "thing"] B.put_at = true := by decide +kernel
theorem ck_words_back : okB2 8 N.words_back ["action", "words"] B.words_back = true := by decide +kernel
theorem ck_back : okB2 9 N.back ["program", "lot", "machine", "index"] B.back = true := by decide +kernel
theorem ck__law_at : okB2 15 N._law_at ["rows", "place", "thing"] B._law_at = true := by decide +kernel
theorem ck__law_words : okB2 25 N._law_words ["letters", "most"] B._law_words = true := by decide +kernel
theorem ck__law_all_less : okB2 26 N._law_all_less ["lot"] B._law_all_less = true := by decide +kernel
theorem ck__law_after : okB2 24 N._law_after ["program", "lot", "machine", "index"] B._law_after = true := by decide +kernel
theorem ck__law_is_held : okB2 21 N._law_is_held ["word", "other"] B._law_is_held = true := by decide +kernel
theorem ck__law_stands_above : okB2 22 N._law_stands_above ["lot", "other"] B._law_stands_above = true := by decide +kernel
theorem ck__law_leads : okB2 27 N._law_leads ["program", "lot", "pair", "other"] B._law_leads = true := by decide +kernel
theorem ck_place_in : okB2 1 N.place_in ["word", "other"] B.place_in = true := by decide +kernel
theorem ck_is_within : okB2 2 N.is_within ["word", "other"] B.is_within = true := by decide +kernel
theorem ck_are_within : okB2 3 N.are_within ["words", "others"] B.are_within = true := by decide +kernel
theorem ck_is_above : okB2 5 N.is_above ["lot", "other"] B.is_above = true := by decide +kernel
theorem ck_law : okB2 28 N.law ["script"] B.law = true := by decide +kernel
def d__law_pen : He.DefD := ⟨("_law_pen", none), "_law_pen", "_law_pen", defArgs (top 11), defBody (top 11), defScope (top 11), [], []⟩
def d__law_fresh : He.DefD := ⟨("_law_fresh", none), "_law_fresh", "_law_fresh", defArgs (top 12), defBody (top 12), defScope (top 12), [], []⟩
def d__law_draw : He.DefD := ⟨("_law_draw", none), "_law_draw", "_law_draw", defArgs (top 13), defBody (top 13), defScope (top 13), [], []⟩
def d__law_one_of : He.DefD := ⟨("_law_one_of", none), "_law_one_of", "_law_one_of", defArgs (top 14), defBody (top 14), defScope (top 14), [], []⟩
def d__law_drawn_step : He.DefD := ⟨("_law_drawn_step", none), "_law_drawn_step", "_law_drawn_step", defArgs (top 17), defBody (top 17), defScope (top 17), [], []⟩
def d__law_drawn_machine : He.DefD := ⟨("_law_drawn_machine", none), "_law_drawn_machine", "_law_drawn_machine", defArgs (top 18), defBody (top 18), defScope (top 18), [], []⟩
def d__law_drawn_program : He.DefD := ⟨("_law_drawn_program", none), "_law_drawn_program", "_law_drawn_program", defArgs (top 19), defBody (top 19), defScope (top 19), [], []⟩
def d__law_drawn_word : He.DefD := ⟨("_law_drawn_word", none), "_law_drawn_word", "_law_drawn_word", defArgs (top 16), defBody (top 16), defScope (top 16), [], []⟩
def d__law_drawn_lot : He.DefD := ⟨("_law_drawn_lot", none), "_law_drawn_lot", "_law_drawn_lot", defArgs (top 20), defBody (top 20), defScope (top 20), [], []⟩
def d__law_all_pairs : He.DefD := ⟨("_law_all_pairs", none), "_law_all_pairs", "_law_all_pairs", defArgs (top 23), defBody (top 23), defScope (top 23), [], []⟩
def d_put_at : He.DefD := ⟨("put_at", none), "put_at", "put_at", defArgs (top 6), defBody (top 6), defScope (top 6), [], []⟩
def d_words_back : He.DefD := ⟨("words_back", none), "words_back", "words_back", defArgs (top 8), defBody (top 8), defScope (top 8), [], []⟩
def d_back : He.DefD := ⟨("back", none), "back", "back", defArgs (top 9), defBody (top 9), defScope (top 9), [], []⟩
def d__law_at : He.DefD := ⟨("_law_at", none), "_law_at", "_law_at", defArgs (top 15), defBody (top 15), defScope (top 15), [], []⟩
def d__law_words : He.DefD := ⟨("_law_words", none), "_law_words", "_law_words", defArgs (top 25), defBody (top 25), defScope (top 25), [], []⟩
def d__law_all_less : He.DefD := ⟨("_law_all_less", none), "_law_all_less", "_law_all_less", defArgs (top 26), defBody (top 26), defScope (top 26), [], []⟩
def d__law_after : He.DefD := ⟨("_law_after", none), "_law_after", "_law_after", defArgs (top 24), defBody (top 24), defScope (top 24), [], []⟩
def d__law_is_held : He.DefD := ⟨("_law_is_held", none), "_law_is_held", "_law_is_held", defArgs (top 21), defBody (top 21), defScope (top 21), [], []⟩
def d__law_stands_above : He.DefD := ⟨("_law_stands_above", none), "_law_stands_above", "_law_stands_above", defArgs (top 22), defBody (top 22), defScope (top 22), [], []⟩
def d__law_leads : He.DefD := ⟨("_law_leads", none), "_law_leads", "_law_leads", defArgs (top 27), defBody (top 27), defScope (top 27), [], []⟩
def d_place_in : He.DefD := ⟨("place_in", none), "place_in", "place_in", defArgs (top 1), defBody (top 1), defScope (top 1), [], []⟩
def d_is_within : He.DefD := ⟨("is_within", none), "is_within", "is_within", defArgs (top 2), defBody (top 2), defScope (top 2), [], []⟩
def d_are_within : He.DefD := ⟨("are_within", none), "are_within", "are_within", defArgs (top 3), defBody (top 3), defScope (top 3), [], []⟩
def d_is_above : He.DefD := ⟨("is_above", none), "is_above", "is_above", defArgs (top 5), defBody (top 5), defScope (top 5), [], []⟩
def d_law : He.DefD := ⟨("law", none), "law", "law", defArgs (top 28), defBody (top 28), defScope (top 28), [], []⟩
def heFn : List He.DefD := [d__law_pen, d__law_fresh, d__law_draw, d__law_one_of, d__law_drawn_step, d__law_drawn_machine, d__law_drawn_program, d__law_drawn_word, d__law_drawn_lot, d__law_all_pairs, d_put_at, d_words_back, d_back, d__law_at, d__law_words, d__law_all_less, d__law_after, d__law_is_held, d__law_stands_above, d__law_leads, d_place_in, d_is_within, d_are_within, d_is_above, d_law]
def heFa : List He.Fa := [.glo "_law_pen", .glo "_law_fresh", .glo "_law_draw", .glo "_law_one_of", .glo "_law_drawn_step", .glo "_law_drawn_machine", .glo "_law_drawn_program", .glo "_law_drawn_word", .glo "_law_drawn_lot", .glo "_law_all_pairs", .glo "put_at", .glo "words_back", .glo "back", .glo "_law_at", .glo "_law_words", .glo "_law_all_less", .glo "_law_after", .glo "_law_is_held", .glo "_law_stands_above", .glo "_law_leads", .glo "place_in", .glo "is_within", .glo "are_within", .glo "is_above", .glo "law", .free "all", .free "int", .free "len", .free "list", .free "range", .free "set", .free "sorted", .free "tuple", .free "zip"]
abbrev TheRow : PySem.W.OpenRow := PySem.W.OpenLaw.row PySem.Challenge.rw_losinglanes_k11_whole_lots_one_step_back
abbrev heHk : PySem.W.Hook := He.hookD 4 heFa heFn
def heOb (s : PySem.W.SharedT) : He.AlD := He.obsDG 4 heFa heFn (HandSHeadRun.getT s)
theorem heOb_eq (s : PySem.W.SharedT) : heOb s = heHk.obs s.abs := He.obsDG_eq (HandSHeadRun.getT_eq s)
def heNames : List Str := ["_law_pen", "_law_fresh", "_law_draw", "_law_one_of", "_law_drawn_step", "_law_drawn_machine", "_law_drawn_program", "_law_drawn_word", "_law_drawn_lot", "_law_all_pairs", "put_at", "words_back", "back", "_law_at", "_law_words", "_law_all_less", "_law_after", "_law_is_held", "_law_stands_above", "_law_leads", "place_in", "is_within", "are_within", "is_above"]
theorem heRun (w : World) : HandSHeadRun.RunEq TheRow (PySem.W.view TheRow.prog [28]) heHk heOb 4000 heNames w := by
  intro os
  kernel_rfl
theorem heFacts {P : Program} {w : World} {K : PySem.W.Frag} {h : Heap} {mg : Str → Option Value} {f : Addr} (X : K.In h) (Gn : h.Ns mainGlobals mg) (hfa : mg ("law" : Str) = some (.ref f)) (c : He.SaysD heFa heFn K) :
    ∃ fd : FuncData, (∀ (s : Shared) (v : Value), BindsTo s fd ⟨[v], []⟩ [("script", v)]) ∧ ∀ base : Heap, K.In base → base.Ns mainGlobals mg → FnG P w K mg base (CXof ⟨P, w, K, mg, base⟩) 25 f fd ["script"] (spOf ⟨P, w, K, mg, base⟩ F.law.sp) := by
  obtain ⟨fd0, F0⟩ := c.def_ 0 (d := d__law_pen) rfl
  obtain ⟨fd1, F1⟩ := c.def_ 1 (d := d__law_fresh) rfl
  obtain ⟨fd2, F2⟩ := c.def_ 2 (d := d__law_draw) rfl
  obtain ⟨fd3, F3⟩ := c.def_ 3 (d := d__law_one_of) rfl
  obtain ⟨fd4, F4⟩ := c.def_ 4 (d := d__law_drawn_step) rfl
  obtain ⟨fd5, F5⟩ := c.def_ 5 (d := d__law_drawn_machine) rfl
  obtain ⟨fd6, F6⟩ := c.def_ 6 (d := d__law_drawn_program) rfl
  obtain ⟨fd7, F7⟩ := c.def_ 7 (d := d__law_drawn_word) rfl
  obtain ⟨fd8, F8⟩ := c.def_ 8 (d := d__law_drawn_lot) rfl
  obtain ⟨fd9, F9⟩ := c.def_ 9 (d := d__law_all_pairs) rfl
  obtain ⟨fd10, F10⟩ := c.def_ 10 (d := d_put_at) rfl
  obtain ⟨fd11, F11⟩ := c.def_ 11 (d := d_words_back) rfl
  obtain ⟨fd12, F12⟩ := c.def_ 12 (d := d_back) rfl
  obtain ⟨fd13, F13⟩ := c.def_ 13 (d := d__law_at) rfl
  obtain ⟨fd14, F14⟩ := c.def_ 14 (d := d__law_words) rfl
  obtain ⟨fd15, F15⟩ := c.def_ 15 (d := d__law_all_less) rfl
  obtain ⟨fd16, F16⟩ := c.def_ 16 (d := d__law_after) rfl
  obtain ⟨fd17, F17⟩ := c.def_ 17 (d := d__law_is_held) rfl
  obtain ⟨fd18, F18⟩ := c.def_ 18 (d := d__law_stands_above) rfl
  obtain ⟨fd19, F19⟩ := c.def_ 19 (d := d__law_leads) rfl
  obtain ⟨fd20, F20⟩ := c.def_ 20 (d := d_place_in) rfl
  obtain ⟨fd21, F21⟩ := c.def_ 21 (d := d_is_within) rfl
  obtain ⟨fd22, F22⟩ := c.def_ 22 (d := d_are_within) rfl
  obtain ⟨fd23, F23⟩ := c.def_ 23 (d := d_is_above) rfl
  obtain ⟨fd24, F24⟩ := c.def_ 24 (d := d_law) rfl
  have e := hfa.symm.trans (He.glo_ok X Gn (c.fact 24 (f := .glo "law") rfl))
  cases e
  refine ⟨fd24, fun s v => FunD.bindsA (ps := ["script"]) F24 (fun _ _ _ _ _ _ us hl => match us, hl with | [_], _ => rfl) s [v] rfl, fun base _ _ => ?_⟩
  have z0 : mg ("all" : Str) = none := He.free_ok X Gn (c.fact 25 (f := .free "all") rfl)
  have z1 : mg ("int" : Str) = none := He.free_ok X Gn (c.fact 26 (f := .free "int") rfl)
  have z2 : mg ("len" : Str) = none := He.free_ok X Gn (c.fact 27 (f := .free "len") rfl)
  have z3 : mg ("list" : Str) = none := He.free_ok X Gn (c.fact 28 (f := .free "list") rfl)
  have z4 : mg ("range" : Str) = none := He.free_ok X Gn (c.fact 29 (f := .free "range") rfl)
  have z5 : mg ("set" : Str) = none := He.free_ok X Gn (c.fact 30 (f := .free "set") rfl)
  have z6 : mg ("sorted" : Str) = none := He.free_ok X Gn (c.fact 31 (f := .free "sorted") rfl)
  have z7 : mg ("tuple" : Str) = none := He.free_ok X Gn (c.fact 32 (f := .free "tuple") rfl)
  have z8 : mg ("zip" : Str) = none := He.free_ok X Gn (c.fact 33 (f := .free "zip") rfl)
  have b0 : Binds K fd0 ["script"] [] := FunD.bindsN F0 fun _ _ _ _ _ _ us hl => match us, hl with | [_], _ => rfl
  have a0 : FnAvail ⟨P, w, K, mg, base⟩ 1 "_law_pen" F._law_pen.sp [] := availR (k := 0) (st := top 11) F0 (He.glo_ok X Gn (c.fact 0 (f := .glo "_law_pen") rfl)) ck__law_pen rfl rfl b0 (by
    repeat' (first | exact trivial | assumption | (show _ ∧ _; refine ⟨?_, ?_⟩)))
  have b1 : Binds K fd1 ["pen"] [] := FunD.bindsN F1 fun _ _ _ _ _ _ us hl => match us, hl with | [_], _ => rfl
  have a1 : FnAvail ⟨P, w, K, mg, base⟩ 2 "_law_fresh" F._law_fresh.sp [] := availR (k := 1) (st := top 12) F1 (He.glo_ok X Gn (c.fact 1 (f := .glo "_law_fresh") rfl)) ck__law_fresh rfl rfl b1 (by
    repeat' (first | exact trivial | assumption | (show _ ∧ _; refine ⟨?_, ?_⟩)))
  have b2 : Binds K fd2 ["pen", "bound"] [] := FunD.bindsN F2 fun _ _ _ _ _ _ us hl => match us, hl with | [_, _], _ => rfl
  have a2 : FnAvail ⟨P, w, K, mg, base⟩ 3 "_law_draw" F._law_draw.sp [] := availR (k := 2) (st := top 13) F2 (He.glo_ok X Gn (c.fact 2 (f := .glo "_law_draw") rfl)) ck__law_draw rfl rfl b2 (by
    have q1 := a1.mono (show 2 ≤ 2 by decide)
    repeat' (first | exact trivial | assumption | (show _ ∧ _; refine ⟨?_, ?_⟩)))
  have b3 : Binds K fd3 ["pen", "some"] [] := FunD.bindsN F3 fun _ _ _ _ _ _ us hl => match us, hl with | [_, _], _ => rfl
  have a3 : FnAvail ⟨P, w, K, mg, base⟩ 4 "_law_one_of" F._law_one_of.sp [] := availR (k := 3) (st := top 14) F3 (He.glo_ok X Gn (c.fact 3 (f := .glo "_law_one_of") rfl)) ck__law_one_of rfl rfl b3 (by
    have q2 := a2.mono (show 3 ≤ 3 by decide)
    repeat' (first | exact trivial | assumption | (show _ ∧ _; refine ⟨?_, ?_⟩)))
  have b4 : Binds K fd4 ["pen", "lanes", "letters", "places"] [] := FunD.bindsN F4 fun _ _ _ _ _ _ us hl => match us, hl with | [_, _, _, _], _ => rfl
  have a4 : FnAvail ⟨P, w, K, mg, base⟩ 5 "_law_drawn_step" F._law_drawn_step.sp [] := availR (k := 4) (st := top 17) F4 (He.glo_ok X Gn (c.fact 4 (f := .glo "_law_drawn_step") rfl)) ck__law_drawn_step rfl rfl b4 (by
    have q3 := a3.mono (show 4 ≤ 4 by decide)
    have q2 := a2.mono (show 3 ≤ 4 by decide)
    repeat' (first | exact trivial | assumption | (show _ ∧ _; refine ⟨?_, ?_⟩)))
  have b5 : Binds K fd5 ["pen", "lanes", "letters", "places", "most"] [] := FunD.bindsN F5 fun _ _ _ _ _ _ us hl => match us, hl with | [_, _, _, _, _], _ => rfl
  have a5 : FnAvail ⟨P, w, K, mg, base⟩ 6 "_law_drawn_machine" F._law_drawn_machine.sp [] := availR (k := 5) (st := top 18) F5 (He.glo_ok X Gn (c.fact 5 (f := .glo "_law_drawn_machine") rfl)) ck__law_drawn_machine rfl rfl b5 (by
    have q4 := a4.mono (show 5 ≤ 5 by decide)
    have q2 := a2.mono (show 3 ≤ 5 by decide)
    repeat' (first | exact trivial | assumption | (show _ ∧ _; refine ⟨?_, ?_⟩)))
  have b6 : Binds K fd6 ["pen", "most"] [] := FunD.bindsN F6 fun _ _ _ _ _ _ us hl => match us, hl with | [_, _], _ => rfl
  have a6 : FnAvail ⟨P, w, K, mg, base⟩ 7 "_law_drawn_program" F._law_drawn_program.sp [] := availR (k := 6) (st := top 19) F6 (He.glo_ok X Gn (c.fact 6 (f := .glo "_law_drawn_program") rfl)) ck__law_drawn_program rfl rfl b6 (by
    have q3 := a3.mono (show 4 ≤ 6 by decide)
    have q2 := a2.mono (show 3 ≤ 6 by decide)
    have q5 := a5.mono (show 6 ≤ 6 by decide)
    repeat' (first | exact trivial | assumption | (show _ ∧ _; refine ⟨?_, ?_⟩)))
  have b7 : Binds K fd7 ["pen", "letters", "most"] [] := FunD.bindsN F7 fun _ _ _ _ _ _ us hl => match us, hl with | [_, _, _], _ => rfl
  have a7 : FnAvail ⟨P, w, K, mg, base⟩ 8 "_law_drawn_word" F._law_drawn_word.sp [] := availR (k := 7) (st := top 16) F7 (He.glo_ok X Gn (c.fact 7 (f := .glo "_law_drawn_word") rfl)) ck__law_drawn_word rfl rfl b7 (by
    have q2 := a2.mono (show 3 ≤ 7 by decide)
    repeat' (first | exact trivial | assumption | (show _ ∧ _; refine ⟨?_, ?_⟩)))
  have b8 : Binds K fd8 ["pen", "program", "most"] [] := FunD.bindsN F8 fun _ _ _ _ _ _ us hl => match us, hl with | [_, _, _], _ => rfl
  have a8 : FnAvail ⟨P, w, K, mg, base⟩ 9 "_law_drawn_lot" F._law_drawn_lot.sp [] := availR (k := 8) (st := top 20) F8 (He.glo_ok X Gn (c.fact 8 (f := .glo "_law_drawn_lot") rfl)) ck__law_drawn_lot rfl rfl b8 (by
    have q2 := a2.mono (show 3 ≤ 8 by decide)
    have q7 := a7.mono (show 8 ≤ 8 by decide)
    repeat' (first | exact trivial | assumption | (show _ ∧ _; refine ⟨?_, ?_⟩)))
  have b9 : Binds K fd9 ["program"] [] := FunD.bindsN F9 fun _ _ _ _ _ _ us hl => match us, hl with | [_], _ => rfl
  have a9 : FnAvail ⟨P, w, K, mg, base⟩ 10 "_law_all_pairs" F._law_all_pairs.sp [] := availR (k := 9) (st := top 23) F9 (He.glo_ok X Gn (c.fact 9 (f := .glo "_law_all_pairs") rfl)) ck__law_all_pairs rfl rfl b9 (by
    repeat' (first | exact trivial | assumption | (show _ ∧ _; refine ⟨?_, ?_⟩)))
  have b10 : Binds K fd10 ["row", "place", "thing"] [] := FunD.bindsN F10 fun _ _ _ _ _ _ us hl => match us, hl with | [_, _, _], _ => rfl
  have a10 : FnAvail ⟨P, w, K, mg, base⟩ 11 "put_at" F.put_at.sp [] := availR (k := 10) (st := top 6) F10 (He.glo_ok X Gn (c.fact 10 (f := .glo "put_at") rfl)) ck_put_at rfl rfl b10 (by
    repeat' (first | exact trivial | assumption | (show _ ∧ _; refine ⟨?_, ?_⟩)))
  have b11 : Binds K fd11 ["action", "words"] [] := FunD.bindsN F11 fun _ _ _ _ _ _ us hl => match us, hl with | [_, _], _ => rfl
  have a11 : FnAvail ⟨P, w, K, mg, base⟩ 12 "words_back" F.words_back.sp [] := availR (k := 11) (st := top 8) F11 (He.glo_ok X Gn (c.fact 11 (f := .glo "words_back") rfl)) ck_words_back rfl rfl b11 (by
    have q10 := a10.mono (show 11 ≤ 11 by decide)
    repeat' (first | exact trivial | assumption | (show _ ∧ _; refine ⟨?_, ?_⟩)))
  have b12 : Binds K fd12 ["program", "lot", "machine", "index"] [] := FunD.bindsN F12 fun _ _ _ _ _ _ us hl => match us, hl with | [_, _, _, _], _ => rfl
  have a12 : FnAvail ⟨P, w, K, mg, base⟩ 13 "back" F.back.sp [] := availR (k := 12) (st := top 9) F12 (He.glo_ok X Gn (c.fact 12 (f := .glo "back") rfl)) ck_back rfl rfl b12 (by
    have q11 := a11.mono (show 12 ≤ 12 by decide)
    have q10 := a10.mono (show 11 ≤ 12 by decide)
    repeat' (first | exact trivial | assumption | (show _ ∧ _; refine ⟨?_, ?_⟩)))
  have b13 : Binds K fd13 ["rows", "place", "thing"] [] := FunD.bindsN F13 fun _ _ _ _ _ _ us hl => match us, hl with | [_, _, _], _ => rfl
  have a13 : FnAvail ⟨P, w, K, mg, base⟩ 14 "_law_at" F._law_at.sp [] := availR (k := 13) (st := top 15) F13 (He.glo_ok X Gn (c.fact 13 (f := .glo "_law_at") rfl)) ck__law_at rfl rfl b13 (by
    repeat' (first | exact trivial | assumption | (show _ ∧ _; refine ⟨?_, ?_⟩)))
  have b14 : Binds K fd14 ["letters", "most"] [] := FunD.bindsN F14 fun _ _ _ _ _ _ us hl => match us, hl with | [_, _], _ => rfl
  have a14 : FnAvail ⟨P, w, K, mg, base⟩ 15 "_law_words" F._law_words.sp [] := availR (k := 14) (st := top 25) F14 (He.glo_ok X Gn (c.fact 14 (f := .glo "_law_words") rfl)) ck__law_words rfl rfl b14 (by
    repeat' (first | exact trivial | assumption | (show _ ∧ _; refine ⟨?_, ?_⟩)))
  have b15 : Binds K fd15 ["lot"] [] := FunD.bindsN F15 fun _ _ _ _ _ _ us hl => match us, hl with | [_], _ => rfl
  have a15 : FnAvail ⟨P, w, K, mg, base⟩ 16 "_law_all_less" F._law_all_less.sp [] := availR (k := 15) (st := top 26) F15 (He.glo_ok X Gn (c.fact 15 (f := .glo "_law_all_less") rfl)) ck__law_all_less rfl rfl b15 (by
    repeat' (first | exact trivial | assumption | (show _ ∧ _; refine ⟨?_, ?_⟩)))
  have b16 : Binds K fd16 ["program", "lot", "machine", "index"] [] := FunD.bindsN F16 fun _ _ _ _ _ _ us hl => match us, hl with | [_, _, _, _], _ => rfl
  have a16 : FnAvail ⟨P, w, K, mg, base⟩ 17 "_law_after" F._law_after.sp [] := availR (k := 16) (st := top 24) F16 (He.glo_ok X Gn (c.fact 16 (f := .glo "_law_after") rfl)) ck__law_after rfl rfl b16 (by
    have q13 := a13.mono (show 14 ≤ 16 by decide)
    repeat' (first | exact trivial | assumption | (show _ ∧ _; refine ⟨?_, ?_⟩)))
  have b17 : Binds K fd17 ["word", "other"] [] := FunD.bindsN F17 fun _ _ _ _ _ _ us hl => match us, hl with | [_, _], _ => rfl
  have a17 : FnAvail ⟨P, w, K, mg, base⟩ 18 "_law_is_held" F._law_is_held.sp [] := availR (k := 17) (st := top 21) F17 (He.glo_ok X Gn (c.fact 17 (f := .glo "_law_is_held") rfl)) ck__law_is_held rfl rfl b17 (by
    repeat' (first | exact trivial | assumption | (show _ ∧ _; refine ⟨?_, ?_⟩)))
  have b18 : Binds K fd18 ["lot", "other"] [] := FunD.bindsN F18 fun _ _ _ _ _ _ us hl => match us, hl with | [_, _], _ => rfl
  have a18 : FnAvail ⟨P, w, K, mg, base⟩ 19 "_law_stands_above" F._law_stands_above.sp [] := availR (k := 18) (st := top 22) F18 (He.glo_ok X Gn (c.fact 18 (f := .glo "_law_stands_above") rfl)) ck__law_stands_above rfl rfl b18 (by
    have q17 := a17.mono (show 18 ≤ 18 by decide)
    repeat' (first | exact trivial | assumption | (show _ ∧ _; refine ⟨?_, ?_⟩)))
  have b19 : Binds K fd19 ["program", "lot", "pair", "other"] [] := FunD.bindsN F19 fun _ _ _ _ _ _ us hl => match us, hl with | [_, _, _, _], _ => rfl
  have a19 : FnAvail ⟨P, w, K, mg, base⟩ 20 "_law_leads" F._law_leads.sp [] := availR (k := 19) (st := top 27) F19 (He.glo_ok X Gn (c.fact 19 (f := .glo "_law_leads") rfl)) ck__law_leads rfl rfl b19 (by
    have q15 := a15.mono (show 16 ≤ 19 by decide)
    have q16 := a16.mono (show 17 ≤ 19 by decide)
    have q18 := a18.mono (show 19 ≤ 19 by decide)
    repeat' (first | exact trivial | assumption | (show _ ∧ _; refine ⟨?_, ?_⟩)))
  have b20 : Binds K fd20 ["word", "other"] [] := FunD.bindsN F20 fun _ _ _ _ _ _ us hl => match us, hl with | [_, _], _ => rfl
  have a20 : FnAvail ⟨P, w, K, mg, base⟩ 21 "place_in" F.place_in.sp [] := availR (k := 20) (st := top 1) F20 (He.glo_ok X Gn (c.fact 20 (f := .glo "place_in") rfl)) ck_place_in rfl rfl b20 (by
    repeat' (first | exact trivial | assumption | (show _ ∧ _; refine ⟨?_, ?_⟩)))
  have b21 : Binds K fd21 ["word", "other"] [] := FunD.bindsN F21 fun _ _ _ _ _ _ us hl => match us, hl with | [_, _], _ => rfl
  have a21 : FnAvail ⟨P, w, K, mg, base⟩ 22 "is_within" F.is_within.sp [] := availR (k := 21) (st := top 2) F21 (He.glo_ok X Gn (c.fact 21 (f := .glo "is_within") rfl)) ck_is_within rfl rfl b21 (by
    have q20 := a20.mono (show 21 ≤ 21 by decide)
    repeat' (first | exact trivial | assumption | (show _ ∧ _; refine ⟨?_, ?_⟩)))
  have b22 : Binds K fd22 ["words", "others"] [] := FunD.bindsN F22 fun _ _ _ _ _ _ us hl => match us, hl with | [_, _], _ => rfl
  have a22 : FnAvail ⟨P, w, K, mg, base⟩ 23 "are_within" F.are_within.sp [] := availR (k := 22) (st := top 3) F22 (He.glo_ok X Gn (c.fact 22 (f := .glo "are_within") rfl)) ck_are_within rfl rfl b22 (by
    have q21 := a21.mono (show 22 ≤ 22 by decide)
    repeat' (first | exact trivial | assumption | (show _ ∧ _; refine ⟨?_, ?_⟩)))
  have b23 : Binds K fd23 ["lot", "other"] [] := FunD.bindsN F23 fun _ _ _ _ _ _ us hl => match us, hl with | [_, _], _ => rfl
  have a23 : FnAvail ⟨P, w, K, mg, base⟩ 24 "is_above" F.is_above.sp [] := availR (k := 23) (st := top 5) F23 (He.glo_ok X Gn (c.fact 23 (f := .glo "is_above") rfl)) ck_is_above rfl rfl b23 (by
    have q22 := a22.mono (show 23 ≤ 23 by decide)
    repeat' (first | exact trivial | assumption | (show _ ∧ _; refine ⟨?_, ?_⟩)))
  have b24 : Binds K fd24 ["script"] [] := FunD.bindsN F24 fun _ _ _ _ _ _ us hl => match us, hl with | [_], _ => rfl
  exact fnR (G := ⟨P, w, K, mg, base⟩) (k := 24) (st := top 28) F24 ck_law rfl rfl (by
    have q0 := a0.mono (show 1 ≤ 24 by decide)
    have q6 := a6.mono (show 7 ≤ 24 by decide)
    have q8 := a8.mono (show 9 ≤ 24 by decide)
    have q9 := a9.mono (show 10 ≤ 24 by decide)
    have q2 := a2.mono (show 3 ≤ 24 by decide)
    have q12 := a12.mono (show 13 ≤ 24 by decide)
    have q13 := a13.mono (show 14 ≤ 24 by decide)
    have q3 := a3.mono (show 4 ≤ 24 by decide)
    have q14 := a14.mono (show 15 ≤ 24 by decide)
    have q19 := a19.mono (show 20 ≤ 24 by decide)
    have q23 := a23.mono (show 24 ≤ 24 by decide)
    repeat' (first | exact trivial | assumption | (show _ ∧ _; refine ⟨?_, ?_⟩)))
end Mi
open PySem PySem.W PySem.Calls PyProof.Rows
theorem PySem.Challenge.cw_losinglanes_k11_whole_lots_one_step_back_holds : PySem.Challenge.rw_losinglanes_k11_whole_lots_one_step_back.Holds := by
  w_on; o_law
  refine HandSHeadRun.head_any (r := OpenLaw.row PySem.Challenge.rw_losinglanes_k11_whole_lots_one_step_back) (q := view (OpenLaw.row PySem.Challenge.rw_losinglanes_k11_whole_lots_one_step_back).prog [28]) (H := Mi.heHk) (ob := Mi.heOb) (M := 4000) (loose := Mi.heNames) (d := HandSHeadRun.topDef (OpenLaw.row PySem.Challenge.rw_losinglanes_k11_whole_lots_one_step_back).prog 28) (kwd := []) Mi.heOb_eq
    (by kernel_rfl) (fun s => by kernel_rfl) Mi.heRun (by kernel_rfl) (by kernel_rfl) (by kernel_rfl) (by rfl) (by first | assumption | decide +kernel) (by decide +kernel) ⟨rfl, rfl, rfl, rfl, rfl, by decide +kernel⟩ ?hw ?hc
  case hw => w_witness2
  case hc =>
    refine Mi.walkG (l := PySem.Challenge.rw_losinglanes_k11_whole_lots_one_step_back) (n := 63) (k := 25) (x := "script") (S := Mi.F.law.sp) rfl (by decide) (by kernel_rfl) ⟨rfl, by decide, by decide⟩ rfl (fun ns Q E hn q => Mi.R.sat_mono (Mi.law_true ns) (fun d st' hd => by rw [show d = Mi.D.bl true from hd]; exact q st') fun _ _ h => h.elim) ?F
    intro w mg fa h Y G hmg0
    obtain ⟨K, KX, c⟩ := Y
    have hmg : mg ("law" : PySem.Str) = some (.ref fa) := by
      have e : (HandSHeadRun.topDef (OpenLaw.row PySem.Challenge.rw_losinglanes_k11_whole_lots_one_step_back).prog 28).name = ("law" : PySem.Str) := by kernel_rfl
      rw [← e]
      exact hmg0
    obtain ⟨fd, hb, hF⟩ := Mi.heFacts (P := PySem.Challenge.rw_losinglanes_k11_whole_lots_one_step_back.prog) (w := w) KX G hmg c
    exact ⟨K, fd, KX, hb, hF⟩
